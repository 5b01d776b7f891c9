import PyProof.Rows.All
import Wide.All
import OpenK.AllK
import Wide.FinOn
import KE.KStateDown
import HandS.ForMost
import HandS.ForExc
import HandS.Defaults
import HandS.Wide
import HandS.Lambda
import HandS.HeadHook1
import HandS.IsInst
import HandS.Text
import HandS.CallSlots
import HandS.NoneIn
import HandS.RevRange
import HandS.Property
import HandS.Star
import HandS.OwnEq
import HandS.SetFor
import Lean
import HandS.Head2
import HandS.HeadEnd
import HandS.HeadHook2
import HandS.EndTab
import KE.KNestM
import HandS.SortInts
import HandS.ExcInit
import HandS.ExcField
import HandS.TryOnly
import HandS.Small
import HandS.ClsMeth
import HandS.HeadNt
import HandS.Conv
import HandS.FStr
import HandS.Iter
import HandS.MakeKw
import HandS.Style
import HandS.TryMany
import KE.KExcIs
import HandS.ExcIs
import HandS.WideBits
import HandS.List
import PyProof.StrBlock2
import HandS.DictComp
import HandS.WordsDict
import HandS.Finally
import HandS.SortKw
import HandS.ListItems
import KE.DataMinMax
import KE.DataEq
import KE.SortKeyHeap
import HandS.DictTup
import HandS.DeepEq
import HandS.Dict
import HandS.Flow
import PySem.Challenge.RW_walkdues_k18_heavy_walks
set_option Elab.async false
set_option linter.all false
set_option maxRecDepth 100000
set_option maxHeartbeats 4000000
namespace DL
open PySem PySem.Spec PyProof.Rows L2

inductive D where
  | non
  | bl (b : Bool)
  | int (i : Int)
  | str (x : Str)
  | ty (n : String)
  | ref (a : Addr)
  | lst (xs : List D)
  | rdl (xs : List D)
  | tup (xs : List D)
  | ins (C : Addr) (fs : List (Str × D))
  | exn (a : Addr) (d : Option Addr) (fs : List (Str × D))
  | dki (kvs : List (Key × Int))
  | dti (kvs : List (List Key × Int))
  | obj (a : Addr) (d : D)
def iV {κ : Type} (kvs : List (κ × Int)) : List (κ × V) := kvs.map fun p => (p.1, V.int p.2)

mutual
inductive Rp (K : PySem.W.Frag) (G : Hp) : D → V → Prop
  | non : Rp K G .non .non
  | bl (b : Bool) : Rp K G (.bl b) (.bl b)
  | int (i : Int) : Rp K G (.int i) (.int i)
  | str (x : Str) : Rp K G (.str x) (.str x)
  | ty (n : String) : Rp K G (.ty n) (.ty n)
  | ref (a : Addr) : Rp K G (.ref a) (.ref a)
  | lst {a : Addr} {vs : List V} {ds : List D} : G a = some (.lst vs) → Rps K G ds vs → Rp K G (.lst ds) (.ref a)
  | rdl {a : Addr} {vs : List V} {ds : List D} : SqL K G a vs → Rps K G ds vs → Rp K G (.rdl ds) (.ref a)
  | tup {a : Addr} {vs : List V} {ds : List D} : SqT K G a vs → Rps K G ds vs → Rp K G (.tup ds) (.ref a)
  | ins {a C dx : Addr} {fv : List (Str × V)} {fs : List (Str × D)} : G a = some (.ins C dx fv) → Rpf K G fs fv → Rp K G (.ins C fs) (.ref a)
  | exn0 (a : Addr) : Rp K G (.exn a none []) (.ref a)
  | exnS {a d : Addr} {fv : List (Str × V)} {fs : List (Str × D)} : G d = some (.xd fv) → Rpf K G fs fv → Rp K G (.exn a (some d) fs) (.ref a)
  | dki {a : Addr} {o : Obj} {kvs : List (Key × Int)} : G a = some (.frz o (.dK (iV kvs))) → Rp K G (.dki kvs) (.ref a)
  | dti {a : Addr} {o : Obj} {kvs : List (List Key × Int)} : G a = some (.frz o (.dT (iV kvs))) → Rp K G (.dti kvs) (.ref a)
  | obj {a : Addr} {d : D} : Rp K G d (.ref a) → Rp K G (.obj a d) (.ref a)
inductive Rps (K : PySem.W.Frag) (G : Hp) : List D → List V → Prop
  | nil : Rps K G [] []
  | cons {d : D} {ds : List D} {v : V} {vs : List V} : Rp K G d v → Rps K G ds vs → Rps K G (d :: ds) (v :: vs)
inductive Rpf (K : PySem.W.Frag) (G : Hp) : List (Str × D) → List (Str × V) → Prop
  | nil : Rpf K G [] []
  | cons {n : Str} {d : D} {ds : List (Str × D)} {v : V} {vs : List (Str × V)} : Rp K G d v → Rpf K G ds vs → Rpf K G ((n, d) :: ds) ((n, v) :: vs)
end

theorem same_sqt {K : PySem.W.Frag} {H H' : Hp} {a : Addr} {xs : List V} (e : Same H H') (h : SqT K H a xs) : SqT K H' a xs := by
  rcases h with (h | ⟨o, h⟩) | h
  · exact .inl (.inl (e _ _ h))
  · exact .inl (.inr ⟨o, e _ _ h⟩)
  · exact .inr h
theorem same_new {H : Hp} {p : Addr} {o : HO} (h : H p = none) : Same H (upd H p o) := fun a u e => by
  rw [upd_ne (ne_of_none e h)]
  exact e
theorem same_mut {H H' : Hp} {p : Addr} {o : HO} (e : Same H H') (h : H p = none) : Same H (upd H' p o) := fun a u ha => by
  rw [upd_ne (ne_of_none ha h)]
  exact e a u ha

section
variable {K : PySem.W.Frag} {G G' : Hp}
mutual
theorem Rp.mono (e : Same G G') : ∀ {d : D} {v : V}, Rp K G d v → Rp K G' d v
  | _, _, .non => .non
  | _, _, .bl b => .bl b
  | _, _, .int i => .int i
  | _, _, .str x => .str x
  | _, _, .ty n => .ty n
  | _, _, .ref a => .ref a
  | _, _, .lst h r => .lst (e _ _ h) (Rps.mono e r)
  | _, _, .rdl h r => .rdl (e.seq h) (Rps.mono e r)
  | _, _, .tup h r => .tup (same_sqt e h) (Rps.mono e r)
  | _, _, .ins h r => .ins (e _ _ h) (Rpf.mono e r)
  | _, _, .exn0 a => .exn0 a
  | _, _, .exnS h r => .exnS (e _ _ h) (Rpf.mono e r)
  | _, _, .dki h => .dki (e _ _ h)
  | _, _, .dti h => .dti (e _ _ h)
  | _, _, .obj h => .obj (Rp.mono e h)
theorem Rps.mono (e : Same G G') : ∀ {ds : List D} {vs : List V}, Rps K G ds vs → Rps K G' ds vs
  | _, _, .nil => .nil
  | _, _, .cons r t => .cons (Rp.mono e r) (Rps.mono e t)
theorem Rpf.mono (e : Same G G') : ∀ {ds : List (Str × D)} {vs : List (Str × V)}, Rpf K G ds vs → Rpf K G' ds vs
  | _, _, .nil => .nil
  | _, _, .cons r t => .cons (Rp.mono e r) (Rpf.mono e t)
end
theorem Rps.length : ∀ {ds : List D} {vs : List V}, Rps K G ds vs → ds.length = vs.length
  | _, _, .nil => rfl
  | _, _, .cons _ t => congrArg Nat.succ (Rps.length t)
theorem Rps.append : ∀ {ds es : List D} {vs us : List V}, Rps K G ds vs → Rps K G es us → Rps K G (ds ++ es) (vs ++ us)
  | _, _, _, _, .nil, s => s
  | _, _, _, _, .cons r t, s => .cons r (Rps.append t s)
theorem Rps.get : ∀ {ds : List D} {vs : List V} {i : Nat} {d : D}, Rps K G ds vs → ds[i]? = some d → ∃ v, vs[i]? = some v ∧ Rp K G d v
  | _, _, _, _, .nil, e => by simp at e
  | _, _, 0, _, .cons r _, e => by simp at e; subst e; exact ⟨_, rfl, r⟩
  | _, _, i + 1, d, .cons _ t, e => by
    obtain ⟨u, h1, h2⟩ := Rps.get (i := i) (d := d) t (by simpa using e)
    exact ⟨u, by simpa using h1, h2⟩
theorem Rps.set {d : D} {v : V} (r : Rp K G d v) : ∀ {ds : List D} {vs : List V} (i : Nat), Rps K G ds vs → Rps K G (ds.set i d) (vs.set i v)
  | _, _, _, .nil => .nil
  | _, _, 0, .cons _ t => .cons r t
  | _, _, i + 1, .cons q t => .cons q (Rps.set r i t)
theorem Rps.take : ∀ {ds : List D} {vs : List V} (n : Nat), Rps K G ds vs → Rps K G (ds.take n) (vs.take n)
  | _, _, 0, _ => .nil
  | _, _, _ + 1, .nil => .nil
  | _, _, n + 1, .cons r t => .cons r (Rps.take n t)
theorem Rps.drop : ∀ {ds : List D} {vs : List V} (n : Nat), Rps K G ds vs → Rps K G (ds.drop n) (vs.drop n)
  | _, _, 0, r => r
  | _, _, _ + 1, .nil => .nil
  | _, _, n + 1, .cons _ t => Rps.drop n t
theorem Rps.eraseIdx : ∀ {ds : List D} {vs : List V} (i : Nat), Rps K G ds vs → Rps K G (ds.eraseIdx i) (vs.eraseIdx i)
  | _, _, _, .nil => .nil
  | _, _, 0, .cons _ t => t
  | _, _, i + 1, .cons r t => .cons r (Rps.eraseIdx i t)
theorem Rps.reverse : ∀ {ds : List D} {vs : List V}, Rps K G ds vs → Rps K G ds.reverse vs.reverse
  | _, _, .nil => .nil
  | _, _, .cons r t => by
    rw [List.reverse_cons, List.reverse_cons]
    exact (Rps.reverse t).append (.cons r .nil)
theorem Rps.ints : ∀ {ns : List Int} {vs : List V}, Rps K G (ns.map D.int) vs → vs = ns.map V.int
  | [], _, .nil => rfl
  | n :: ns, _, .cons r t => by
    cases r
    rw [Rps.ints t]
    rfl
theorem Rps.ofInts : ∀ (ns : List Int), Rps K G (ns.map D.int) (ns.map V.int)
  | [] => .nil
  | n :: ns => .cons (.int n) (Rps.ofInts ns)
theorem Rps.bls : ∀ {bs : List Bool} {vs : List V}, Rps K G (bs.map D.bl) vs → vs = bs.map V.bl
  | [], _, .nil => rfl
  | n :: ns, _, .cons r t => by
    cases r
    rw [Rps.bls t]
    rfl
theorem Rps.strs : ∀ {bs : List Str} {vs : List V}, Rps K G (bs.map D.str) vs → vs = bs.map V.str
  | [], _, .nil => rfl
  | n :: ns, _, .cons r t => by
    cases r
    rw [Rps.strs t]
    rfl
theorem Rpf.lookup : ∀ {fs : List (Str × D)} {fv : List (Str × V)} {x : Str} {d : D}, Rpf K G fs fv → fs.lookup x = some d → ∃ v, fv.lookup x = some v ∧ Rp K G d v
  | _, _, _, _, .nil, e => by simp at e
  | _, _, x, d, .cons (n := n) r t, e => by
    rw [List.lookup_cons] at e
    cases q : (x == n) with
    | true =>
      rw [q] at e
      cases e
      exact ⟨_, by rw [List.lookup_cons, q], r⟩
    | false =>
      rw [q] at e
      obtain ⟨v, h1, h2⟩ := Rpf.lookup t e
      exact ⟨v, by rw [List.lookup_cons, q]; exact h1, h2⟩
theorem Rpf.lookupN : ∀ {fs : List (Str × D)} {fv : List (Str × V)} {x : Str}, Rpf K G fs fv → fs.lookup x = none → fv.lookup x = none
  | _, _, _, .nil, e => rfl
  | _, _, x, .cons (n := n) r t, e => by
    rw [List.lookup_cons] at e ⊢
    cases q : (x == n) with
    | true =>
      rw [q] at e
      cases e
    | false =>
      rw [q] at e
      exact Rpf.lookupN t e
theorem Rpf.length : ∀ {fs : List (Str × D)} {fv : List (Str × V)}, Rpf K G fs fv → fs.length = fv.length
  | _, _, .nil => rfl
  | _, _, .cons _ t => congrArg Nat.succ (Rpf.length t)
end
def putD (f : Str) (v : D) : List (Str × D) → List (Str × D)
  | [] => [(f, v)]
  | (g, x) :: r => if g = f then (g, v) :: r else (g, x) :: putD f v r
theorem Rpf.put {K : PySem.W.Frag} {G : Hp} {f : Str} {d : D} {v : V} (r : Rp K G d v) : ∀ {fs : List (Str × D)} {fv : List (Str × V)}, Rpf K G fs fv → Rpf K G (putD f d fs) (putF f v fv)
  | _, _, .nil => .cons r .nil
  | _, _, .cons (n := n) q t => by
    show Rpf K G (if n = f then _ else _) (if n = f then _ else _)
    by_cases h : n = f
    · rw [if_pos h, if_pos h]
      exact .cons r t
    · rw [if_neg h, if_neg h]
      exact .cons q (Rpf.put r t)

inductive MO where
  | lst (xs : List D)
  | dK (kvs : List (Key × D))
  | dT (kvs : List (List Key × D))
  | ins (C : Addr) (fs : List (Str × D))
inductive Rpk {κ : Type} (K : PySem.W.Frag) (G : Hp) : List (κ × D) → List (κ × V) → Prop
  | nil : Rpk K G [] []
  | cons {k : κ} {d : D} {ds : List (κ × D)} {v : V} {vs : List (κ × V)} : Rp K G d v → Rpk K G ds vs → Rpk K G ((k, d) :: ds) ((k, v) :: vs)
theorem Rpk.mono {κ : Type} {K : PySem.W.Frag} {G G' : Hp} (e : Same G G') : ∀ {ds : List (κ × D)} {vs : List (κ × V)}, Rpk K G ds vs → Rpk K G' ds vs
  | _, _, .nil => .nil
  | _, _, .cons r t => .cons (r.mono e) (Rpk.mono e t)
def RpM (K : PySem.W.Frag) (G : Hp) : MO → HO → Prop
  | .lst ds, .lst vs => Rps K G ds vs
  | .dK ds, .dK vs => Rpk K G ds vs
  | .dT ds, .dT vs => Rpk K G ds vs
  | .ins C fs, .ins C' _ fv => C = C' ∧ Rpf K G fs fv
  | _, _ => False
theorem RpM.mono {K : PySem.W.Frag} {G G' : Hp} (e : Same G G') {m : MO} {o : HO} (h : RpM K G m o) : RpM K G' m o := by
  cases m with
  | lst ds => cases o with
    | lst vs => exact Rps.mono e h
    | _ => exact h.elim
  | dK ds => cases o with
    | dK vs => exact Rpk.mono e h
    | _ => exact h.elim
  | dT ds => cases o with
    | dT vs => exact Rpk.mono e h
    | _ => exact h.elim
  | ins C fs => cases o with
    | ins C' dx fv => exact ⟨h.1, h.2.mono e⟩
    | _ => exact h.elim
theorem RpM.ofLst {K : PySem.W.Frag} {G : Hp} {ds : List D} {o : HO} (h : RpM K G (.lst ds) o) : ∃ vs, o = .lst vs ∧ Rps K G ds vs := by
  cases o with
  | lst vs => exact ⟨vs, rfl, h⟩
  | _ => exact h.elim
theorem RpM.ofIns {K : PySem.W.Frag} {G : Hp} {C : Addr} {fs : List (Str × D)} {o : HO} (h : RpM K G (.ins C fs) o) : ∃ dx fv, o = .ins C dx fv ∧ Rpf K G fs fv := by
  cases o with
  | ins C' dx fv => obtain ⟨rfl, h⟩ := h; exact ⟨dx, fv, rfl, h⟩
  | _ => exact h.elim
abbrev M := Addr → Option MO
def mset (m : M) (a : Addr) (o : MO) : M := fun b => if b = a then some o else m b
def mdel (m : M) (a : Addr) : M := fun b => if b = a then none else m b
theorem mset_same {m : M} {a : Addr} {o : MO} : mset m a o a = some o := if_pos rfl
theorem mset_ne {m : M} {a b : Addr} {o : MO} (h : b ≠ a) : mset m a o b = m b := if_neg h
theorem mdel_same {m : M} {a : Addr} : mdel m a a = none := if_pos rfl
theorem mdel_ne {m : M} {a b : Addr} (h : b ≠ a) : mdel m a b = m b := if_neg h
theorem mset_mset {m : M} {a : Addr} {o u : MO} : mset (mset m a o) a u = mset m a u := by
  funext b; unfold mset; split <;> rfl
theorem mdel_mset {m : M} {a : Addr} {o : MO} (h : m a = none) : mdel (mset m a o) a = m := by
  funext b; unfold mdel mset
  by_cases e : b = a
  · rw [if_pos e, e, h]
  · rw [if_neg e, if_neg e]
theorem mset_comm {m : M} {a b : Addr} {o u : MO} (h : a ≠ b) : mset (mset m a o) b u = mset (mset m b u) a o := by
  funext c; unfold mset
  by_cases e : c = a
  · subst e; rw [if_neg h, if_pos rfl, if_pos rfl]
  · by_cases e2 : c = b
    · subst e2; rw [if_pos rfl, if_neg e, if_pos rfl]
    · rw [if_neg e2, if_neg e, if_neg e, if_neg e2]
theorem mdel_mset_ne {m : M} {a b : Addr} {o : MO} (h : a ≠ b) : mdel (mset m b o) a = mset (mdel m a) b o := by
  funext c
  by_cases e : c = a
  · subst e; rw [mdel_same, mset_ne h, mdel_same]
  · rw [mdel_ne e]
    by_cases e2 : c = b
    · subst e2; rw [mset_same, mset_same]
    · rw [mset_ne e2, mset_ne e2, mdel_ne e]

def lamDefs : List (Option Str × Str) := [(none, "simple_cycles"), (some "Run", "__init__"), (none, "run_by"), (none, "calendar_slices"), (none, "_law_jobs"), (none, "_law_excess"), (none, "_law_refusal"), (none, "_law_key"), (none, "_law_scheduled"), (none, "_law_bad_speed"), (none, "law")]
def lamAd (K : PySem.W.Frag) (d : Option Str × Str) : Addr := match d.1 with
  | none => He.ga K d.2
  | some C => He.ma K (He.ga K C) d.2
def lamQ (d : Option Str × Str) : Str := match d.1 with
  | none => d.2
  | some C => C ++ "." ++ d.2
def tabAt (K : PySem.W.Frag) (f : Addr) (q : Str) : Option (Addr × Addr) := match K.lookup f with
  | some ⟨_, _, .func u, _⟩ => if u.qualname = q then (match u.code with
    | .ref c => (match K.lookup c with
      | some ⟨_, _, .fields vs, _⟩ => (match (vs[11]? : Option Value) with
        | some (.ref P) => some (c, P)
        | _ => none)
      | _ => none)
    | _ => none) else none
  | _ => none
def tbls3 (K : PySem.W.Frag) : List (Addr × Addr × Str) := lamDefs.filterMap fun d => (tabAt K (lamAd K d) (lamQ d)).map fun x => (x.1, x.2, lamQ d ++ ".<locals>." ++ "<lambda>")
def tblsOf (K : PySem.W.Frag) : List (Addr × Str) := (tbls3 K).map fun x => (x.2.1, x.2.2)
def okO (o : HO) : Prop := (∀ ps, o ≠ .tbl ps) ∧ ∀ φ, o ≠ .ext φ
section
open LamX
theorem Tabs.new {T : List (Addr × Str)} {H : Hp} {p : Addr} {o : HO} (t : Tabs T H) (h : H p = none) : Tabs T (upd H p o) := t.ext fun b u e => by rw [upd_ne (ne_of_none e h)]; exact e
theorem Tabs.upd {T : List (Addr × Str)} {H : Hp} {p : Addr} {o w : HO} (t : Tabs T H) (h : H p = some w) (ho : okO w) : Tabs T (upd H p o) := fun z hz => by
  obtain ⟨ps, h1, h2, h3⟩ := t z hz
  have ne : z.1 ≠ p := fun e => by
    rw [e, h] at h1
    exact ho.1 ps (Option.some.inj h1)
  refine ⟨ps, by rw [upd_ne ne]; exact h1, h2, fun pos cv hc => ?_⟩
  obtain ⟨c, e1, e2⟩ := h3 pos cv hc
  have nc : c ≠ p := fun e => by
    rw [e, h] at e2
    exact ho.2 _ (Option.some.inj e2)
  exact ⟨c, e1, by rw [upd_ne nc]; exact e2⟩
end
theorem RpM.okO {K : PySem.W.Frag} {G : Hp} {u : MO} {o : HO} (h : RpM K G u o) : okO o := by
  cases u <;> cases o <;> first | exact h.elim | exact ⟨fun _ e => (by cases e), fun _ e => (by cases e)⟩
def notT (o : HO) : Prop := (∀ ps, o ≠ .tbl ps) ∧ ∀ xs, o ≠ .tup xs
structure Rep (K : PySem.W.Frag) (G H F : Hp) (m : M) : Prop where
  ext : Same G H
  frm : Same F H
  dis : ∀ a o, F a = some o → G a = none
  mo : ∀ a o, m a = some o → G a = none ∧ F a = none ∧ ∃ u, H a = some u ∧ RpM K G o u
  tb : LamX.Tabs (tblsOf K) H
  gt : ∀ a o, G a = some o → okO o
  ft : ∀ a o, F a = some o → notT o
theorem nt_upd {F : Hp} {p : Addr} {o : HO} (h : ∀ a u, F a = some u → notT u) (ho : notT o) : ∀ a u, upd F p o a = some u → notT u := fun a u e => by
  by_cases hb : a = p
  · subst hb; rw [upd_same] at e; cases e; exact ho
  · rw [upd_ne hb] at e; exact h a u e
theorem ok_upd {F : Hp} {p : Addr} {o : HO} (h : ∀ a u, F a = some u → okO u) (ho : okO o) : ∀ a u, upd F p o a = some u → okO u := fun a u e => by
  by_cases hb : a = p
  · subst hb; rw [upd_same] at e; cases e; exact ho
  · rw [upd_ne hb] at e; exact h a u e
section
variable {K : PySem.W.Frag} {G H F : Hp} {m : M} {p a : Addr} {o : HO} {u : MO}
theorem Rep.free (r : Rep K G H F m) (h : H p = none) : G p = none := r.ext.free h
theorem Rep.mfree (r : Rep K G H F m) (h : H p = none) : m p = none := by
  cases q : m p with
  | none => rfl
  | some o =>
    obtain ⟨_, _, u, e, _⟩ := r.mo p o q
    rw [h] at e
    cases e
theorem Rep.froz (r : Rep K G H F m) (h : H p = none) (ho : okO o := by exact ⟨fun _ e => (by cases e), fun _ e => (by cases e)⟩) : Same G (upd G p o) ∧ Rep K (upd G p o) (upd H p o) F m := by
  have g := r.free h
  refine ⟨same_new g, fun b v e => ?_, fun b v e => ?_, fun b v e => ?_, fun b v e => ?_, Tabs.new r.tb h, ok_upd r.gt ho, r.ft⟩
  · by_cases hb : b = p
    · subst hb; rw [upd_same] at e ⊢; exact e
    · rw [upd_ne hb] at e ⊢; exact r.ext b v e
  · rw [upd_ne (ne_of_none (r.frm b v e) h)]; exact r.frm b v e
  · rw [upd_ne (ne_of_none (r.frm b v e) h)]; exact r.dis b v e
  · obtain ⟨h1, h2, u, h3, h4⟩ := r.mo b v e
    have hb : b ≠ p := ne_of_none h3 h
    exact ⟨by rw [upd_ne hb]; exact h1, h2, u, by rw [upd_ne hb]; exact h3, h4.mono (same_new g)⟩
theorem Rep.junk (r : Rep K G H F m) (h : H p = none) : Rep K G (upd H p o) F m := by
  refine ⟨same_mut r.ext (r.free h), fun b v e => ?_, r.dis, fun b v e => ?_, Tabs.new r.tb h, r.gt, r.ft⟩
  · rw [upd_ne (ne_of_none (r.frm b v e) h)]; exact r.frm b v e
  · obtain ⟨h1, h2, u, h3, h4⟩ := r.mo b v e
    exact ⟨h1, h2, u, by rw [upd_ne (ne_of_none h3 h)]; exact h3, h4⟩
theorem Rep.newm (r : Rep K G H F m) (h : H p = none) (hu : RpM K G u o) : Rep K G (upd H p o) F (mset m p u) := by
  refine ⟨same_mut r.ext (r.free h), fun b v e => ?_, r.dis, fun b v e => ?_, Tabs.new r.tb h, r.gt, r.ft⟩
  · rw [upd_ne (ne_of_none (r.frm b v e) h)]; exact r.frm b v e
  · by_cases hb : b = p
    · subst hb
      rw [mset_same] at e
      cases e
      exact ⟨r.free h, r.frm.free h, o, upd_same, hu⟩
    · rw [mset_ne hb] at e
      obtain ⟨h1, h2, w, h3, h4⟩ := r.mo b v e
      exact ⟨h1, h2, w, by rw [upd_ne hb]; exact h3, h4⟩
theorem Rep.write {v : MO} (r : Rep K G H F m) (h : m a = some v) (hu : RpM K G u o) : Rep K G (upd H a o) F (mset m a u) := by
  obtain ⟨g1, f1, w, h3, h4⟩ := r.mo a v h
  refine ⟨same_mut r.ext g1, fun b z e => ?_, r.dis, fun b z e => ?_, Tabs.upd r.tb h3 h4.okO, r.gt, r.ft⟩
  · have hb : b ≠ a := fun q => by rw [q, f1] at e; cases e
    rw [upd_ne hb]; exact r.frm b z e
  · by_cases hb : b = a
    · subst hb
      rw [mset_same] at e
      cases e
      exact ⟨g1, f1, o, upd_same, hu⟩
    · rw [mset_ne hb] at e
      obtain ⟨h1, h2, w, h3, h4⟩ := r.mo b z e
      exact ⟨h1, h2, w, by rw [upd_ne hb]; exact h3, h4⟩
theorem Rep.freeze {ds : List D} (r : Rep K G H F m) (h : m a = some (.lst ds)) : ∃ G', Same G G' ∧ Rep K G' H F (mdel m a) ∧ Rp K G' (.lst ds) (.ref a) := by
  obtain ⟨g1, f1, w, h3, h4⟩ := r.mo a _ h
  obtain ⟨vs, rfl, h4⟩ := h4.ofLst
  have sm : Same G (upd G a (.lst vs)) := same_new g1
  refine ⟨upd G a (.lst vs), sm, ⟨fun b z e => ?_, r.frm, fun b z e => by rw [upd_ne (fun q => by rw [q, f1] at e; cases e)]; exact r.dis b z e, fun b z e => ?_, r.tb, ok_upd r.gt ⟨fun _ e => (by cases e), fun _ e => (by cases e)⟩, r.ft⟩, .lst upd_same (h4.mono sm)⟩
  · by_cases hb : b = a
    · subst hb; rw [upd_same] at e; rw [h3]; exact e
    · rw [upd_ne hb] at e; exact r.ext b z e
  · by_cases hb : b = a
    · subst hb; rw [mdel_same] at e; cases e
    · rw [mdel_ne hb] at e
      obtain ⟨h1, h2, w, h5, h6⟩ := r.mo b z e
      exact ⟨by rw [upd_ne hb]; exact h1, h2, w, h5, h6.mono sm⟩
theorem Rep.freezeI {C : Addr} {fs : List (Str × D)} (r : Rep K G H F m) (h : m a = some (.ins C fs)) : ∃ G', Same G G' ∧ Rep K G' H F (mdel m a) ∧ Rp K G' (.ins C fs) (.ref a) := by
  obtain ⟨g1, f1, w, h3, h4⟩ := r.mo a _ h
  obtain ⟨dx, fv, rfl, h5⟩ := h4.ofIns
  have sm : Same G (upd G a (.ins C dx fv)) := same_new g1
  refine ⟨upd G a (.ins C dx fv), sm, ⟨fun b z e => ?_, r.frm, fun b z e => by rw [upd_ne (fun q => by rw [q, f1] at e; cases e)]; exact r.dis b z e, fun b z e => ?_, r.tb, ok_upd r.gt ⟨fun _ e => (by cases e), fun _ e => (by cases e)⟩, r.ft⟩, .ins upd_same (h5.mono sm)⟩
  · by_cases hb : b = a
    · subst hb; rw [upd_same] at e; rw [h3]; exact e
    · rw [upd_ne hb] at e; exact r.ext b z e
  · by_cases hb : b = a
    · subst hb; rw [mdel_same] at e; cases e
    · rw [mdel_ne hb] at e
      obtain ⟨h1, h2, w, h5, h6⟩ := r.mo b z e
      exact ⟨by rw [upd_ne hb]; exact h1, h2, w, h5, h6.mono sm⟩
end

section
variable {K : PySem.W.Frag} {G H F : Hp} {m : M} {p : Addr} {o u : HO}
theorem Rep.hide (r : Rep K G H F m) (h : H p = none) (ho : notT o := by exact ⟨fun _ e => (by cases e), fun _ e => (by cases e)⟩) : Rep K G (upd H p o) (upd F p o) m := by
  refine ⟨same_mut r.ext (r.free h), fun b v e => ?_, fun b v e => ?_, fun b v e => ?_, Tabs.new r.tb h, r.gt, nt_upd r.ft ho⟩
  · by_cases hb : b = p
    · subst hb; rw [upd_same] at e ⊢; exact e
    · rw [upd_ne hb] at e ⊢; exact r.frm b v e
  · by_cases hb : b = p
    · subst hb; exact r.free h
    · rw [upd_ne hb] at e; exact r.dis b v e
  · obtain ⟨h1, h2, w, h3, h4⟩ := r.mo b v e
    have hb : b ≠ p := ne_of_none h3 h
    exact ⟨h1, by rw [upd_ne hb]; exact h2, w, by rw [upd_ne hb]; exact h3, h4⟩
theorem Rep.turn (r : Rep K G H (upd F p o) m) (ho : notT u := by exact ⟨fun _ e => (by cases e), fun _ e => (by cases e)⟩) (hw : okO o := by exact ⟨fun _ e => (by cases e), fun _ e => (by cases e)⟩) : Rep K G (upd H p u) (upd F p u) m := by
  have g : G p = none := r.dis p o upd_same
  refine ⟨same_mut r.ext g, fun b v e => ?_, fun b v e => ?_, fun b v e => ?_, Tabs.upd r.tb (r.frm p o upd_same) hw, r.gt, fun a w e => ?_⟩
  · by_cases hb : b = p
    · subst hb; rw [upd_same] at e ⊢; exact e
    · rw [upd_ne hb] at e ⊢; exact r.frm b v (by rw [upd_ne hb]; exact e)
  · by_cases hb : b = p
    · subst hb; exact g
    · rw [upd_ne hb] at e; exact r.dis b v (by rw [upd_ne hb]; exact e)
  · obtain ⟨h1, h2, w, h3, h4⟩ := r.mo b v e
    have hb : b ≠ p := fun q => by rw [q, upd_same] at h2; cases h2
    rw [upd_ne hb] at h2
    exact ⟨h1, by rw [upd_ne hb]; exact h2, w, by rw [upd_ne hb]; exact h3, h4⟩
  · by_cases hb : a = p
    · subst hb; rw [upd_same] at e; cases e; exact ho
    · rw [upd_ne hb] at e; exact r.ft a w (by rw [upd_ne hb]; exact e)
theorem Rep.show (r : Rep K G H (upd F p o) m) (hF : F p = none) : Rep K G H F m := by
  refine ⟨r.ext, fun b v e => ?_, fun b v e => ?_, fun b v e => ?_, r.tb, r.gt, fun b v e => r.ft b v (by rw [upd_ne (fun q => by rw [q, hF] at e; cases e)]; exact e)⟩
  · exact r.frm b v (by rw [upd_ne (fun q => by rw [q, hF] at e; cases e)]; exact e)
  · exact r.dis b v (by rw [upd_ne (fun q => by rw [q, hF] at e; cases e)]; exact e)
  · obtain ⟨h1, h2, w, h3, h4⟩ := r.mo b v e
    have hb : b ≠ p := fun q => by rw [q, upd_same] at h2; cases h2
    rw [upd_ne hb] at h2
    exact ⟨h1, h2, w, h3, h4⟩
theorem Rep.outL {ds : List D} {vs : List V} (r : Rep K G H (upd F p (.lst vs)) m) (hF : F p = none) (rs : Rps K G ds vs) : Same G (upd G p (.lst vs)) ∧ Rep K (upd G p (.lst vs)) H F m ∧ Rp K (upd G p (.lst vs)) (.lst ds) (.ref p) := by
  have g : G p = none := r.dis p _ upd_same
  have sm : Same G (upd G p (.lst vs)) := same_new g
  refine ⟨sm, ⟨fun b v e => ?_, (r.show hF).frm, fun b v e => ?_, fun b v e => ?_, r.tb, ok_upd r.gt ⟨fun _ e => (by cases e), fun _ e => (by cases e)⟩, (r.show hF).ft⟩, .lst upd_same (rs.mono sm)⟩
  · by_cases hb : b = p
    · subst hb; rw [upd_same] at e; rw [← e]; exact r.frm _ _ upd_same
    · rw [upd_ne hb] at e; exact r.ext b v e
  · rw [upd_ne (fun q => by rw [q, hF] at e; cases e)]; exact (r.show hF).dis b v e
  · obtain ⟨h1, h2, w, h3, h4⟩ := r.mo b v e
    have hb : b ≠ p := fun q => by rw [q, upd_same] at h2; cases h2
    rw [upd_ne hb] at h2
    exact ⟨by rw [upd_ne hb]; exact h1, h2, w, h3, h4.mono sm⟩
theorem Rep.outM {ds : List D} {vs : List V} (r : Rep K G H (upd F p (.lst vs)) m) (hF : F p = none) (rs : Rps K G ds vs) : m p = none ∧ Rep K G H F (mset m p (.lst ds)) := by
  have g : G p = none := r.dis p _ upd_same
  have mp : m p = none := by
    cases q : m p with
    | none => rfl
    | some w =>
      obtain ⟨_, h2, _⟩ := r.mo p w q
      rw [upd_same] at h2
      cases h2
  refine ⟨mp, r.ext, (r.show hF).frm, (r.show hF).dis, fun b v e => ?_, r.tb, r.gt, (r.show hF).ft⟩
  by_cases hb : b = p
  · subst hb
    rw [mset_same] at e
    cases e
    exact ⟨g, hF, _, r.frm _ _ upd_same, rs⟩
  · rw [mset_ne hb] at e
    obtain ⟨h1, h2, w, h3, h4⟩ := r.mo b v e
    rw [upd_ne hb] at h2
    exact ⟨h1, h2, w, h3, h4⟩
end

abbrev DSt := List (Option D)
structure Rs (K : PySem.W.Frag) (G : Hp) (r : DSt) (s : L2.St) : Prop where
  len : r.length = s.length
  at_ : ∀ (i : Nat) (d : D), r[i]? = some (some d) → ∃ v, s[i]? = some (some v) ∧ Rp K G d v
section
variable {K : PySem.W.Frag} {G G' : Hp} {r : DSt} {s : L2.St}
theorem Rs.mono (e : Same G G') (h : Rs K G r s) : Rs K G' r s := ⟨h.len, fun i d q => by
  obtain ⟨v, h1, h2⟩ := h.at_ i d q
  exact ⟨v, h1, h2.mono e⟩⟩
theorem Rs.set (h : Rs K G r s) {i : Nat} {d : D} {v : V} (q : Rp K G d v) : Rs K G (r.set i (some d)) (s.set i (some v)) := ⟨by simp [h.len], fun j e hj => by
  by_cases hi : i = j
  · subst hi
    by_cases hl : i < r.length
    · rw [List.getElem?_set_self hl] at hj
      cases hj
      exact ⟨v, by rw [List.getElem?_set_self (by rw [← h.len]; exact hl)], q⟩
    · rw [List.getElem?_eq_none (by simp; omega)] at hj
      cases hj
  · rw [List.getElem?_set_ne hi] at hj ⊢
    exact h.at_ j e hj⟩
theorem Rs.setG (h : Rs K G r s) {i : Nat} {d : D} (hv : ∀ v, s[i]? = some (some v) → Rp K G d v) (hs : ∃ v : V, s[i]? = some (some v)) : Rs K G (r.set i (some d)) s := ⟨by simp [h.len], fun j e hj => by
  by_cases hi : i = j
  · subst hi
    by_cases hl : i < r.length
    · rw [List.getElem?_set_self hl] at hj
      cases hj
      obtain ⟨v, q⟩ := hs
      exact ⟨v, q, hv v q⟩
    · rw [List.getElem?_eq_none (by simp; omega)] at hj
      cases hj
  · rw [List.getElem?_set_ne hi] at hj
    exact h.at_ j e hj⟩
end
end DL

set_option Elab.async false
set_option linter.all false
set_option maxRecDepth 100000
set_option maxHeartbeats 4000000
namespace DL
open PySem PySem.Spec PyProof.Rows L2

abbrev DTE := DSt → M → (D → M → Prop) → Prop
abbrev DTT := DSt → M → (Bool → M → Prop) → Prop
abbrev DTA := DSt → M → (List D → M → Prop) → Prop
abbrev DO := DSt → M → (Option Int → M → Prop) → Prop
structure XD where
  C : Addr
  fs : List (Str × D)
abbrev DWX := XD → DSt → M → Prop
def RpX (K : PySem.W.Frag) (G : Hp) (d : Option Addr) (fs : List (Str × D)) : Prop := (d = none ∧ fs = []) ∨ ∃ dd fv, d = some dd ∧ G dd = some (.xd fv) ∧ Rpf K G fs fv
theorem RpX.mono {K : PySem.W.Frag} {G G' : Hp} {d : Option Addr} {fs : List (Str × D)} (e : Same G G') (h : RpX K G d fs) : RpX K G' d fs := by
  rcases h with h | ⟨dd, fv, h1, h2, h3⟩
  · exact .inl h
  · exact .inr ⟨dd, fv, h1, e _ _ h2, h3.mono e⟩
def Lx (K : PySem.W.Frag) (W : WX) (WD : DWX) (G F : Hp) : Prop :=
  ∀ (G' H' : Hp) (m' : M) (r' : DSt) (s' : L2.St) (C : Addr) (fs : List (Str × D)) (d : Option Addr), Same G G' → Rep K G' H' F m' → Rs K G' r' s' → RpX K G' d fs → WD ⟨C, fs⟩ r' m' → W (.ref C) d s' H'
theorem Lx.mono {K : PySem.W.Frag} {W : WX} {WD : DWX} {G G' F : Hp} (e : Same G G') (h : Lx K W WD G F) : Lx K W WD G' F := fun G2 H2 m2 r2 s2 C fs d e2 => h G2 H2 m2 r2 s2 C fs d (e.trans e2)
theorem Lx.no {K : PySem.W.Frag} {W : WX} {G F : Hp} : Lx K W (fun _ _ _ => False) G F := fun _ _ _ _ _ _ _ _ _ _ _ _ h => h.elim
def Kv (K : PySem.W.Frag) (G F : Hp) (QD : D → M → Prop) (Q : VK) : Prop := ∀ (G' H' : Hp) (m' : M) (d : D) (v : V), Same G G' → Rep K G' H' F m' → Rp K G' d v → QD d m' → Q v H'
theorem Kv.mono {K : PySem.W.Frag} {G G' F : Hp} {QD : D → M → Prop} {Q : VK} (e : Same G G') (h : Kv K G F QD Q) : Kv K G' F QD Q := fun G2 H2 m2 d v e2 => h G2 H2 m2 d v (e.trans e2)
structure Sx (K : PySem.W.Frag) (W : WX) (WD : DWX) (G H F : Hp) (r : DSt) (s : L2.St) (m : M) : Prop where
  rep : Rep K G H F m
  rs : Rs K G r s
  lx : Lx K W WD G F
theorem Sx.step {K : PySem.W.Frag} {W : WX} {WD : DWX} {G G' H H' F : Hp} {r : DSt} {s : L2.St} {m m' : M} (x : Sx K W WD G H F r s m) (e : Same G G') (h : Rep K G' H' F m') : Sx K W WD G' H' F r s m' := ⟨h, x.rs.mono e, x.lx.mono e⟩
def up (K : PySem.W.Frag) (W : WX) (WD : DWX) (t : DTE) : TE := fun σ H Q => ∃ (G F : Hp) (r : DSt) (m : M) (QD : D → M → Prop), Sx K W WD G H F r σ m ∧ t r m QD ∧ Kv K G F QD Q
def upT (K : PySem.W.Frag) (W : WX) (WD : DWX) (t : DTT) : TT := fun σ H Q => ∃ (G F : Hp) (r : DSt) (m : M) (QD : Bool → M → Prop), Sx K W WD G H F r σ m ∧ t r m QD ∧ ∀ G' H' m' b, Same G G' → Rep K G' H' F m' → QD b m' → Q b H'
def upA (K : PySem.W.Frag) (W : WX) (WD : DWX) (t : DTA) : TA := fun σ H Q => ∃ (G F : Hp) (r : DSt) (m : M) (QD : List D → M → Prop), Sx K W WD G H F r σ m ∧ t r m QD ∧ ∀ G' H' m' ds vs, Same G G' → Rep K G' H' F m' → Rps K G' ds vs → QD ds m' → Q vs H'
def upO (K : PySem.W.Frag) (W : WX) (WD : DWX) (t : DO) : TO := fun σ H Q => ∃ (G F : Hp) (r : DSt) (m : M) (QD : Option Int → M → Prop), Sx K W WD G H F r σ m ∧ t r m QD ∧ ∀ G' H' m' o, Same G G' → Rep K G' H' F m' → QD o m' → Q o H'
abbrev DE (X : Cx) (W : WX) (WD : DWX) (e : Expr) (t : DTE) : Prop := PE X e (up X.K W WD t)
abbrev DT (X : Cx) (W : WX) (WD : DWX) (e : Expr) (t : DTT) : Prop := PT X e (upT X.K W WD t)
abbrev DW (X : Cx) (W : WX) (WD : DWX) (e : Expr) (t : DTT) : Prop := PW X e (upT X.K W WD t)
abbrev DA (X : Cx) (W : WX) (WD : DWX) (es : List Expr) (t : DTA) : Prop := PA X es (upA X.K W WD t)
abbrev DOp (X : Cx) (W : WX) (WD : DWX) (e : Option Expr) (t : DO) : Prop := PO X e (upO X.K W WD t)
section
variable {X : Cx} {e : Expr}
theorem PE.imp {t t' : TE} (h : PE X e t) (i : ∀ σ H Q, t' σ H Q → t σ H Q) : PE X e t' := ⟨fun pins s σ H Q I q => h.run pins s σ H Q I (i σ H Q q)⟩
theorem PT.imp {t t' : TT} (h : PT X e t) (i : ∀ σ H Q, t' σ H Q → t σ H Q) : PT X e t' := ⟨fun pins s σ H Q I q => h.run pins s σ H Q I (i σ H Q q)⟩
theorem PW.imp {t t' : TT} (h : PW X e t) (i : ∀ σ H Q, t' σ H Q → t σ H Q) : PW X e t' := ⟨fun wh pins s σ H Q I q => h.run wh pins s σ H Q I (i σ H Q q)⟩
theorem PA.imp {es : List Expr} {t t' : TA} (h : PA X es t) (i : ∀ σ H Q, t' σ H Q → t σ H Q) : PA X es t' := ⟨fun pos pins s σ H Q I q => h.run pos pins s σ H Q I (i σ H Q q)⟩
theorem PO.imp {e : Option Expr} {t t' : TO} (h : PO X e t) (i : ∀ σ H Q, t' σ H Q → t σ H Q) : PO X e t' := ⟨fun pins s σ H Q I q => h.run pins s σ H Q I (i σ H Q q)⟩
end

def slot : DSt → Nat → Option D
  | [], _ => none
  | x :: _, 0 => x
  | _ :: r, n + 1 => slot r n
theorem slot_get : ∀ {r : DSt} {i : Nat} {d : D}, slot r i = some d → r[i]? = some (some d)
  | [], _, _, e => nomatch e
  | x :: r, 0, d, e => by
    have e' : x = some d := e
    rw [e']; rfl
  | x :: r, i + 1, d, e => by
    have := slot_get (r := r) (i := i) (d := d) e
    simpa using this
def dVar (i : Nat) : DTE := fun r m Q => ∃ d, slot r i = some d ∧ Q d m
def dC (d : D) : DTE := fun _ m Q => Q d m
section
variable {X : Cx} {W : WX} {WD : DWX} {pos : Pos}
theorem up_var {K : PySem.W.Frag} {i : Nat} {σ : L2.St} {H : Hp} {Q : VK} (h : up K W WD (dVar i) σ H Q) : tVar i σ H Q := by
  obtain ⟨G, F, r, m, QD, x, ⟨d, e, t⟩, k⟩ := h
  obtain ⟨v, e1, rv⟩ := x.rs.at_ i d (slot_get e)
  exact ⟨v, e1, k G H m d v (Same.refl G) x.rep rv t⟩
theorem up_c {K : PySem.W.Frag} {d : D} {v : V} {σ : L2.St} {H : Hp} {Q : VK} (hv : ∀ G, Rp K G d v) (h : up K W WD (dC d) σ H Q) : tC v σ H Q := by
  obtain ⟨G, F, r, m, QD, x, t, k⟩ := h
  exact k G H m d v (Same.refl G) x.rep (hv G) t
theorem dv (i : Nat) {x : Str} (hN : X.N[i]? = some x := by rfl) (hv : Vis X.env.scope x := by first | exact Or.inl rfl | exact Or.inr (Or.inl rfl) | exact Or.inr (Or.inr rfl)) (hd : (x == ("__debug__" : Str)) = false := by decide)
    (hcd : (x == ("__classdict__" : Str)) = false := by decide) : DE X W WD (.Name x pos) (dVar i) := PE.imp (pv i hN hv hd hcd) fun _ _ _ h => up_var h
theorem de_int {i j} : DE X W WD (.Constant (.int i) j pos) (dC (.int i)) := PE.imp pe_int fun _ _ _ h => up_c (fun _ => .int i) h
theorem de_bl {b j} : DE X W WD (.Constant (.bool b) j pos) (dC (.bl b)) := PE.imp pe_bl fun _ _ _ h => up_c (fun _ => .bl b) h
theorem de_non {j} : DE X W WD (.Constant .none j pos) (dC .non) := PE.imp pe_non fun _ _ _ h => up_c (fun _ => .non) h
theorem de_str {x j} : DE X W WD (.Constant (.str x) j pos) (dC (.str x)) := PE.imp pe_str fun _ _ _ h => up_c (fun _ => .str x) h
theorem de_globI {x : Str} {i : Int} (hg : Gl X x) (hm : ∃ t, X.mg x = some (.int i t)) (hd : (x == ("__debug__" : Str)) = false := by decide) : DE X W WD (.Name x pos) (dC (.int i)) := by
  obtain ⟨t, hm⟩ := hm
  exact PE.imp (pe_glob (v := .int i) hg hm ⟨t, rfl⟩ hd) fun _ _ _ h => up_c (fun _ => .int i) h
theorem de_globS {x z : Str} (hg : Gl X x) (hm : ∃ t, X.mg x = some (.str z t)) (hd : (x == ("__debug__" : Str)) = false := by decide) : DE X W WD (.Name x pos) (dC (.str z)) := by
  obtain ⟨t, hm⟩ := hm
  exact PE.imp (pe_glob (v := .str z) hg hm ⟨t, rfl⟩ hd) fun _ _ _ h => up_c (fun _ => .str z) h
theorem de_globR {x : Str} {a : Addr} (hg : Gl X x) (hm : X.mg x = some (.ref a)) (hd : (x == ("__debug__" : Str)) = false := by decide) : DE X W WD (.Name x pos) (dC (.ref a)) :=
  PE.imp (pe_glob (v := .ref a) hg hm rfl hd) fun _ _ _ h => up_c (fun _ => .ref a) h
theorem de_ty {x : Str} {T : String} (hg : Gl X x) (hm : X.mg x = none) (hv : bootBuiltins x = some (.type T)) (hn : x ≠ "__name__" := by decide) (hd : (x == ("__debug__" : Str)) = false := by decide) : DE X W WD (.Name x pos) (dC (.ty T)) :=
  PE.imp (pe_bltn (v := .ty T) hg hm hv rfl hn hd) fun _ _ _ h => up_c (fun _ => .ty T) h
end

abbrev DR2 := D → D → M → (D → M → Prop) → Prop
def OpD (K : PySem.W.Frag) (r : R2) (rd : DR2) : Prop :=
  ∀ (G H F : Hp) (m : M) (x y : D) (vx vy : V) (QD : D → M → Prop) (Q : VK), Rep K G H F m → Rp K G x vx → Rp K G y vy → rd x y m QD → Kv K G F QD Q → r vx vy H Q
def dOp (rd : DR2) (ta tb : DTE) : DTE := fun r m Q => ta r m fun x m1 => tb r m1 fun y m2 => rd x y m2 Q
theorem up_op {K : PySem.W.Frag} {W : WX} {WD : DWX} {r : R2} {rd : DR2} {ta tb : DTE} {σ : L2.St} {H : Hp} {Q : VK} (hd : OpD K r rd) (h : up K W WD (dOp rd ta tb) σ H Q) : tOp r (up K W WD ta) (up K W WD tb) σ H Q := by
  obtain ⟨G, F, ρ, m, QD, x, t, k⟩ := h
  refine ⟨G, F, ρ, m, _, x, t, fun G1 H1 m1 d1 v1 e1 r1 p1 t1 => ?_⟩
  refine ⟨G1, F, ρ, m1, _, x.step e1 r1, t1, fun G2 H2 m2 d2 v2 e2 r2 p2 t2 => ?_⟩
  exact hd G2 H2 F m2 d1 d2 v1 v2 QD Q r2 (p1.mono e2) p2 t2 (k.mono (e1.trans e2))
abbrev DR1 := D → M → (D → M → Prop) → Prop
def UnD (K : PySem.W.Frag) (r : V → Hp → VK → Prop) (rd : DR1) : Prop :=
  ∀ (G H F : Hp) (m : M) (x : D) (vx : V) (QD : D → M → Prop) (Q : VK), Rep K G H F m → Rp K G x vx → rd x m QD → Kv K G F QD Q → r vx H Q
def dUn (rd : DR1) (ta : DTE) : DTE := fun r m Q => ta r m fun x m1 => rd x m1 Q
theorem up_un {K : PySem.W.Frag} {W : WX} {WD : DWX} {r : V → Hp → VK → Prop} {rd : DR1} {ta : DTE} {σ : L2.St} {H : Hp} {Q : VK} (hd : UnD K r rd) (h : up K W WD (dUn rd ta) σ H Q) : tUn r (up K W WD ta) σ H Q := by
  obtain ⟨G, F, ρ, m, QD, x, t, k⟩ := h
  exact ⟨G, F, ρ, m, _, x, t, fun G1 H1 m1 d1 v1 e1 r1 p1 t1 => hd G1 H1 F m1 d1 v1 QD Q r1 p1 t1 (k.mono e1)⟩
theorem Kv.here {K : PySem.W.Frag} {G H F : Hp} {m : M} {QD : D → M → Prop} {Q : VK} {d : D} {v : V} (k : Kv K G F QD Q) (r : Rep K G H F m) (p : Rp K G d v) (q : QD d m) : Q v H := k G H m d v (Same.refl G) r p q
def mkL (mt : Bool) (ds : List D) (m : M) (Q : D → M → Prop) : Prop := match mt with
  | true => ∀ p, m p = none → Q (.ref p) (mset m p (.lst ds))
  | false => Q (.lst ds) m
theorem mkL_ok {K : PySem.W.Frag} {G H F : Hp} {m : M} {QD : D → M → Prop} {Q : VK} {mt : Bool} {ds : List D} {vs : List V} {p : Addr} (k : Kv K G F QD Q) (r : Rep K G H F m) (rs : Rps K G ds vs) (h : H p = none) (q : mkL mt ds m QD) : Q (.ref p) (upd H p (.lst vs)) := by
  cases mt with
  | false =>
    obtain ⟨e, r1⟩ := r.froz (o := .lst vs) h
    exact k _ _ m (.lst ds) _ e r1 (.lst upd_same (rs.mono e)) q
  | true => exact k _ _ _ (.ref p) _ (Same.refl G) (r.newm (u := .lst ds) (o := .lst vs) h rs) (.ref p) (q p (r.mfree h))
theorem mkT_ok {K : PySem.W.Frag} {G H F : Hp} {m : M} {QD : D → M → Prop} {Q : VK} {ds : List D} {vs : List V} {p : Addr} (k : Kv K G F QD Q) (r : Rep K G H F m) (rs : Rps K G ds vs) (h : H p = none) (q : QD (.tup ds) m) : Q (.ref p) (upd H p (.tup vs)) := by
  obtain ⟨e, r1⟩ := r.froz (o := .tup vs) h
  exact k _ _ m (.tup ds) _ e r1 (.tup (SqT.of upd_same) (rs.mono e)) q

def MulOk (i j : Int) : Prop := CMul i j ∨ CMulW i j
def dAdd (mt : Bool) : DR2
  | .int i, .int j, m, Q => Q (.int (i + j)) m
  | .str a, .str b, m, Q => a.length + b.length ≤ sizeLine ∧ Q (.str (a ++ b)) m
  | .lst a, .lst b, m, Q => a.length + b.length ≤ sizeLine ∧ mkL mt (a ++ b) m Q
  | .ref a, .lst b, m, Q => ∃ xs, m a = some (.lst xs) ∧ xs.length + b.length ≤ sizeLine ∧ mkL mt (xs ++ b) m Q
  | _, _, _, _ => False
def dSub : DR2
  | .int i, .int j, m, Q => Q (.int (i - j)) m
  | _, _, _, _ => False
def dMul (mt : Bool) : DR2
  | .int i, .int j, m, Q => MulOk i j ∧ Q (.int (i * j)) m
  | .lst a, .int k, m, Q => (-(2 ^ 63) ≤ k ∧ k < 2 ^ 63) ∧ a.length * k.toNat ≤ sizeLine ∧ mkL mt (List.replicate k.toNat a).flatten m Q
  | _, _, _, _ => False
def dDiv : DR2
  | .int i, .int j, m, Q => CDivW i j ∧ Q (.int (i / j)) m
  | _, _, _, _ => False
def dMod : DR2
  | .int i, .int j, m, Q => 0 < j ∧ Q (.int (i % j)) m
  | _, _, _, _ => False
def dPow : DR2
  | .int i, .int j, m, Q => CPow i j ∧ Q (.int (i ^ j.toNat)) m
  | _, _, _, _ => False
def dNeg : DR1
  | .int i, m, Q => Q (.int (-i)) m
  | _, _, _ => False
section
variable {K : PySem.W.Frag} {X : Cx} {W : WX} {WD : DWX} {a b : Expr} {ta tb : DTE} {pos : Pos}
def rAddA (K : PySem.W.Frag) : R2 := fun x y H Q => rI0 (fun i j => .int (i + j)) x y H Q ∨ (∃ i j, x = .str i ∧ y = .str j ∧ i.length + j.length ≤ sizeLine ∧ Q (.str (i ++ j)) H) ∨ rCat x y H Q
theorem op_addA : OpR X (binaryOp .Add) (rAddA X.K) := op_add.or (op_add_str.or op_cat)
theorem od_add (mt : Bool) : OpD K (rAddA K) (dAdd mt) := by
  intro G H F m x y vx vy QD Q r px py t k
  cases x with
  | int i => cases y with
    | int j => cases px; cases py; exact .inl ⟨i, j, rfl, rfl, k.here r (.int _) t⟩
    | _ => exact t.elim
  | str i => cases y with
    | str j => cases px; cases py; exact .inr (.inl ⟨i, j, rfl, rfl, t.1, k.here r (.str _) t.2⟩)
    | _ => exact t.elim
  | lst xs => cases y with
    | lst ys =>
      cases px with | lst h1 r1 => cases py with | lst h2 r2 =>
      refine .inr (.inr ⟨_, _, _, _, rfl, rfl, r.ext _ _ h1, r.ext _ _ h2, by rw [← r1.length, ← r2.length]; exact t.1, fun p hp => ?_⟩)
      exact mkL_ok k r (r1.append r2) hp t.2
    | _ => exact t.elim
  | ref a => cases y with
    | lst ys =>
      cases px; cases py with | lst h2 r2 =>
      obtain ⟨xs, hm, hz, t⟩ := t
      obtain ⟨_, _, u, h1, h4⟩ := r.mo a _ hm
      obtain ⟨vs, rfl, r1⟩ := h4.ofLst
      refine .inr (.inr ⟨_, _, _, _, rfl, rfl, h1, r.ext _ _ h2, by rw [← r1.length, ← r2.length]; exact hz, fun p hp => ?_⟩)
      exact mkL_ok k r (r1.append r2) hp t
    | _ => exact t.elim
  | _ => exact t.elim
theorem od_I {C : Int → Int → Prop} {g : Int → Int → Int} {rd : DR2} (h1 : ∀ i j m Q, rd (.int i) (.int j) m Q → C i j ∧ Q (.int (g i j)) m) (h2 : ∀ x y m Q, rd x y m Q → ∃ i j, x = .int i ∧ y = .int j) : OpD K (rI C fun i j => .int (g i j)) rd := by
  intro G H F m x y vx vy QD Q r px py t k
  obtain ⟨i, j, rfl, rfl⟩ := h2 _ _ _ _ t
  cases px; cases py
  exact ⟨i, j, rfl, rfl, (h1 _ _ _ _ t).1, k.here r (.int _) (h1 _ _ _ _ t).2⟩
theorem od_I0 {g : Int → Int → Int} {rd : DR2} (h1 : ∀ i j m Q, rd (.int i) (.int j) m Q → Q (.int (g i j)) m) (h2 : ∀ x y m Q, rd x y m Q → ∃ i j, x = .int i ∧ y = .int j) : OpD K (rI0 fun i j => .int (g i j)) rd := by
  intro G H F m x y vx vy QD Q r px py t k
  obtain ⟨i, j, rfl, rfl⟩ := h2 _ _ _ _ t
  cases px; cases py
  exact ⟨i, j, rfl, rfl, k.here r (.int _) (h1 _ _ _ _ t)⟩
theorem od_sub : OpD K (rI0 fun i j => .int (i - j)) dSub := od_I0 (fun _ _ _ _ h => h) fun x y _ _ h => by
  cases x <;> cases y <;> first | exact ⟨_, _, rfl, rfl⟩ | exact h.elim
theorem od_div : OpD K (rI CDivW fun i j => .int (i / j)) dDiv := od_I (fun _ _ _ _ h => h) fun x y _ _ h => by
  cases x <;> cases y <;> first | exact ⟨_, _, rfl, rfl⟩ | exact h.elim
theorem od_mod : OpD K (rI (fun _ j => 0 < j) fun i j => .int (i % j)) dMod := od_I (fun _ _ _ _ h => h) fun x y _ _ h => by
  cases x <;> cases y <;> first | exact ⟨_, _, rfl, rfl⟩ | exact h.elim
theorem od_pow : OpD K (rI CPow fun i j => .int (i ^ j.toNat)) dPow := od_I (fun _ _ _ _ h => h) fun x y _ _ h => by
  cases x <;> cases y <;> first | exact ⟨_, _, rfl, rfl⟩ | exact h.elim
def rMulA : R2 := fun x y H Q => rI CMul (fun i j => .int (i * j)) x y H Q ∨ rI CMulW (fun i j => .int (i * j)) x y H Q ∨ rRep x y H Q
theorem op_mulA : OpR X (binaryOp .Mult) rMulA := op_mul.or (op_mulW.or op_rep)
theorem flat_rep {G : Hp} {ds : List D} {vs : List V} (h : Rps K G ds vs) : ∀ n : Nat, Rps K G (List.replicate n ds).flatten (List.replicate n vs).flatten
  | 0 => .nil
  | n + 1 => by
    rw [List.replicate_succ, List.replicate_succ, List.flatten_cons, List.flatten_cons]
    exact h.append (flat_rep h n)
theorem od_mul (mt : Bool) : OpD K rMulA (dMul mt) := by
  intro G H F m x y vx vy QD Q r px py t k
  cases x with
  | int i => cases y with
    | int j =>
      cases px; cases py
      rcases t.1 with c | c
      · exact .inl ⟨i, j, rfl, rfl, c, k.here r (.int _) t.2⟩
      · exact .inr (.inl ⟨i, j, rfl, rfl, c, k.here r (.int _) t.2⟩)
    | _ => exact t.elim
  | lst xs => cases y with
    | int j =>
      cases py
      cases px with | lst h1 r1 =>
      obtain ⟨⟨t1, t2⟩, t3, t4⟩ := t
      refine .inr (.inr ⟨_, j, _, rfl, rfl, r.ext _ _ h1, t1, t2, by rw [← r1.length]; exact t3, fun p hp => ?_⟩)
      exact mkL_ok k r (flat_rep r1 _) hp t4
    | _ => exact t.elim
  | _ => exact t.elim
theorem ud_neg : UnD K (rU fun i => .int (-i)) dNeg := by
  intro G H F m x vx QD Q r px t k
  cases x with
  | int i => cases px; exact ⟨i, rfl, k.here r (.int _) t⟩
  | _ => exact t.elim
theorem de_add (mt : Bool) (ha : DE X W WD a ta) (hb : DE X W WD b tb) : DE X W WD (.BinOp a .Add b pos) (dOp (dAdd mt) ta tb) := PE.imp (pe_op op_addA ha hb) fun _ _ _ h => up_op (od_add mt) h
theorem de_sub (ha : DE X W WD a ta) (hb : DE X W WD b tb) : DE X W WD (.BinOp a .Sub b pos) (dOp dSub ta tb) := PE.imp (pe_op op_sub ha hb) fun _ _ _ h => up_op od_sub h
theorem de_mul (mt : Bool) (ha : DE X W WD a ta) (hb : DE X W WD b tb) : DE X W WD (.BinOp a .Mult b pos) (dOp (dMul mt) ta tb) := PE.imp (pe_op op_mulA ha hb) fun _ _ _ h => up_op (od_mul mt) h
theorem de_div (ha : DE X W WD a ta) (hb : DE X W WD b tb) : DE X W WD (.BinOp a .FloorDiv b pos) (dOp dDiv ta tb) := PE.imp (pe_op op_fdivW ha hb) fun _ _ _ h => up_op od_div h
theorem de_mod (ha : DE X W WD a ta) (hb : DE X W WD b tb) : DE X W WD (.BinOp a .Mod b pos) (dOp dMod ta tb) := PE.imp (pe_op op_mod ha hb) fun _ _ _ h => up_op od_mod h
theorem de_pow (ha : DE X W WD a ta) (hb : DE X W WD b tb) : DE X W WD (.BinOp a .Pow b pos) (dOp dPow ta tb) := PE.imp (pe_op op_pow ha hb) fun _ _ _ h => up_op od_pow h
theorem de_neg (ha : DE X W WD a ta) : DE X W WD (.UnaryOp .USub a pos) (dUn dNeg ta) := PE.imp (pe_un un_neg ha) fun _ _ _ h => up_un ud_neg h
end

mutual
def toP : D → Option PyData
  | .non => some .none
  | .bl b => some (.bool b)
  | .int i => some (.int i)
  | .str x => some (.str x)
  | .lst xs => (toPs xs).map .list
  | .rdl xs => (toPs xs).map .list
  | .tup xs => (toPs xs).map .tuple
  | .ty _ => none
  | .ref _ => none
  | .ins _ _ => none
  | .exn _ _ _ => none
  | .dki _ => none
  | .dti _ => none
  | .obj _ _ => none
def toPs : List D → Option (List PyData)
  | [] => some []
  | x :: xs => (toP x).bind fun d => (toPs xs).map fun ds => d :: ds
end
mutual
theorem dp_of {K : PySem.W.Frag} {G : Hp} : ∀ (d : D) (p : PyData) (v : V), toP d = some p → Rp K G d v → Dp K G v p
  | .non, p, v, e, r => by cases e; cases r; exact .non
  | .bl b, p, v, e, r => by cases e; cases r; exact .bl b
  | .int i, p, v, e, r => by cases e; cases r; exact .int i
  | .str x, p, v, e, r => by cases e; cases r; exact .str x
  | .lst xs, p, v, e, r => by
    unfold toP at e
    cases q : toPs xs with
    | none => rw [q] at e; cases e
    | some ps =>
      rw [q] at e; cases e
      cases r with | lst h1 r1 => exact .lst (SqL.of h1) (dps_of xs ps _ q r1)
  | .rdl xs, p, v, e, r => by
    unfold toP at e
    cases q : toPs xs with
    | none => rw [q] at e; cases e
    | some ps =>
      rw [q] at e; cases e
      cases r with | rdl h1 r1 => exact .lst h1 (dps_of xs ps _ q r1)
  | .tup xs, p, v, e, r => by
    unfold toP at e
    cases q : toPs xs with
    | none => rw [q] at e; cases e
    | some ps =>
      rw [q] at e; cases e
      cases r with | tup h1 r1 => exact .tup h1 (dps_of xs ps _ q r1)
  | .ty _, p, v, e, r => by unfold toP at e; cases e
  | .ref _, p, v, e, r => by unfold toP at e; cases e
  | .ins _ _, p, v, e, r => by unfold toP at e; cases e
  | .exn _ _ _, p, v, e, r => by unfold toP at e; cases e
  | .dki _, p, v, e, r => by unfold toP at e; cases e
  | .dti _, p, v, e, r => by unfold toP at e; cases e
  | .obj _ _, p, v, e, r => by unfold toP at e; cases e
theorem dps_of {K : PySem.W.Frag} {G : Hp} : ∀ (ds : List D) (ps : List PyData) (vs : List V), toPs ds = some ps → Rps K G ds vs → DpAll K G vs ps
  | [], ps, vs, e, r => by unfold toPs at e; cases e; cases r; exact .nil
  | x :: xs, ps, vs, e, r => by
    unfold toPs at e
    cases q : toP x with
    | none => rw [q] at e; cases e
    | some d =>
      rw [q] at e
      cases q2 : toPs xs with
      | none => rw [q2] at e; cases e
      | some ds =>
        rw [q2] at e; cases e
        cases r with | cons r1 r2 => exact .cons (dp_of x d _ q r1) (dps_of xs ds _ q2 r2)
end
mutual
theorem Dp.same {K : PySem.W.Frag} {G H : Hp} (e : Same G H) : ∀ {v : V} {p : PyData}, Dp K G v p → Dp K H v p
  | _, _, .non => .non
  | _, _, .bl b => .bl b
  | _, _, .int i => .int i
  | _, _, .str x => .str x
  | _, _, .lst h r => .lst (e.seq h) (DpAll.same e r)
  | _, _, .tup h r => .tup (same_sqt e h) (DpAll.same e r)
theorem DpAll.same {K : PySem.W.Frag} {G H : Hp} (e : Same G H) : ∀ {v : List V} {p : List PyData}, DpAll K G v p → DpAll K H v p
  | _, _, .nil => .nil
  | _, _, .cons a b => .cons (Dp.same e a) (DpAll.same e b)
end
def datOf (m : M) : D → Option PyData
  | .ref a => (m a).bind fun o => match o with
    | .lst xs => (toPs xs).map .list
    | _ => none
  | d => toP d
theorem dat_ok {K : PySem.W.Frag} {G H F : Hp} {m : M} {d : D} {v : V} {p : PyData} (r : Rep K G H F m) (h : Rp K G d v) (e : datOf m d = some p) : Dp K H v p := by
  cases d with
  | ref a =>
    cases h
    dsimp only [datOf] at e
    cases q : m a with
    | none => rw [q] at e; cases e
    | some o =>
      rw [q] at e
      cases o with
      | lst xs =>
        obtain ⟨_, _, u, h3, h4⟩ := r.mo a _ q
        obtain ⟨vs, rfl, h4⟩ := h4.ofLst
        have e2 : (toPs xs).map PyData.list = some p := e
        cases q2 : toPs xs with
        | none => rw [q2] at e2; cases e2
        | some ps =>
          rw [q2] at e2; cases e2
          exact .lst (SqL.of h3) (DpAll.same r.ext (dps_of xs ps vs q2 h4))
      | _ => cases e
  | _ => exact Dp.same r.ext (dp_of _ p v e h)
def dEqB : D → D → Option Bool
  | .int i, .int j => some (decide (i = j))
  | .str i, .str j => some (decide (i = j))
  | .bl i, .bl j => some (decide (i = j))
  | .non, .non => some true
  | .non, .int _ => some false
  | .int _, .non => some false
  | .non, .str _ => some false
  | .str _, .non => some false
  | .non, .bl _ => some false
  | .bl _, .non => some false
  | .int _, .str _ => some false
  | .str _, .int _ => some false
  | _, _ => none
def dEq : DR2 := fun x y m Q => match dEqB x y with
  | some b => Q (.bl b) m
  | none => ∃ p q, datOf m x = some p ∧ datOf m y = some q ∧ SeqAt.shaped p = true ∧ SeqAt.shaped q = true ∧ Q (.bl (PyData.eqv p q)) m
def dNe : DR2 := fun x y m Q => match dEqB x y with
  | some b => Q (.bl (!b)) m
  | none => ∃ p q, datOf m x = some p ∧ datOf m y = some q ∧ SeqAt.shaped p = true ∧ SeqAt.shaped q = true ∧ Q (.bl (!PyData.eqv p q)) m
section
variable {K : PySem.W.Frag} {X : Cx} {W : WX} {WD : DWX} {a b c : Expr} {ta tb tc : DTE} {pos : Pos}
theorem dEqB_scal {G : Hp} {x y : D} {vx vy : V} {b : Bool} (h : dEqB x y = some b) (px : Rp K G x vx) (py : Rp K G y vy) : scal vx vy = true ∧ decide (vx = vy) = b := by
  cases x <;> cases y <;> first
    | (cases px; cases py; cases h; constructor
       · rfl
       · first | rfl | (simp))
    | cases h
def rEqA (K : PySem.W.Frag) : R2 := fun x y H Q => rEq x y H Q ∨ rEqD K x y H Q
def rNeA (K : PySem.W.Frag) : R2 := fun x y H Q => rNe x y H Q ∨ rNeD K x y H Q
theorem od_eq : OpD K (rEqA K) dEq := by
  intro G H F m x y vx vy QD Q r px py t k
  unfold dEq at t
  cases e : dEqB x y with
  | some b =>
    rw [e] at t
    obtain ⟨h1, h2⟩ := dEqB_scal e px py
    exact .inl ⟨h1, by rw [h2]; exact k.here r (.bl _) t⟩
  | none =>
    rw [e] at t
    obtain ⟨p, q, e1, e2, s1, s2, t⟩ := t
    exact .inr ⟨p, q, dat_ok r px e1, dat_ok r py e2, s1, s2, k.here r (.bl _) t⟩
theorem od_ne : OpD K (rNeA K) dNe := by
  intro G H F m x y vx vy QD Q r px py t k
  unfold dNe at t
  cases e : dEqB x y with
  | some b =>
    rw [e] at t
    obtain ⟨h1, h2⟩ := dEqB_scal e px py
    exact .inl ⟨h1, by rw [h2]; exact k.here r (.bl _) t⟩
  | none =>
    rw [e] at t
    obtain ⟨p, q, e1, e2, s1, s2, t⟩ := t
    exact .inr ⟨p, q, dat_ok r px e1, dat_ok r py e2, s1, s2, k.here r (.bl _) t⟩
theorem op_eqA (hu : X.A.units + 64 < cLine) : OpR X (compareOp .Eq) (rEqA X.K) := op_eq.or (op_eqD hu)
theorem op_neA (hu : X.A.units + 64 < cLine) : OpR X (compareOp .NotEq) (rNeA X.K) := op_ne.or (op_neD hu)
def dCmpI (f : Int → Int → Bool) : DR2
  | .int i, .int j, m, Q => Q (.bl (f i j)) m
  | _, _, _, _ => False
theorem od_cmpI {f : Int → Int → Bool} : OpD K (rI0 fun i j => .bl (f i j)) (dCmpI f) := by
  intro G H F m x y vx vy QD Q r px py t k
  cases x with
  | int i => cases y with
    | int j => cases px; cases py; exact ⟨i, j, rfl, rfl, k.here r (.bl _) t⟩
    | _ => exact t.elim
  | _ => exact t.elim
abbrev dLt : DR2 := dCmpI fun i j => decide (i < j)
abbrev dLe : DR2 := dCmpI fun i j => decide (i ≤ j)
abbrev dGt : DR2 := dCmpI fun i j => decide (j < i)
abbrev dGe : DR2 := dCmpI fun i j => decide (j ≤ i)
def dIsN : DR2 := fun x y m Q => y = .non ∧ (match x with
  | .non => Q (.bl true) m
  | _ => Q (.bl false) m)
def dNotN : DR2 := fun x y m Q => y = .non ∧ (match x with
  | .non => Q (.bl false) m
  | _ => Q (.bl true) m)
theorem od_isN : OpD K (fun x y H Q => y = .non ∧ Q (.bl (decide (x = .non))) H) dIsN := by
  intro G H F m x y vx vy QD Q r px py t k
  obtain ⟨rfl, t⟩ := t
  cases py
  refine ⟨rfl, ?_⟩
  cases px <;> exact k.here r (.bl _) t
theorem de_cmp {op : CmpOp} {r : R2} {rd : DR2} (ho : OpR X (compareOp op) r) (hd : OpD X.K r rd) (ha : DE X W WD a ta) (hb : DE X W WD b tb) (hm : behindInMarks op b = false) : DE X W WD (.Compare a [op] [b] pos) (dOp rd ta tb) :=
  PE.imp (pe_cmpR ho ha hb hm) fun _ _ _ h => up_op hd h
def dTest (t : DTE) : DTT := fun r m Q => t r m fun d m1 => ∃ b, d = .bl b ∧ Q b m1
theorem upT_test {K : PySem.W.Frag} {t : DTE} {σ : L2.St} {H : Hp} {Q : Bool → Hp → Prop} (h : upT K W WD (dTest t) σ H Q) : tTest (up K W WD t) σ H Q := by
  obtain ⟨G, F, ρ, m, QD, x, t, k⟩ := h
  refine ⟨G, F, ρ, m, _, x, t, fun G1 H1 m1 d1 v1 e1 r1 p1 t1 => ?_⟩
  obtain ⟨b, rfl, t2⟩ := t1
  cases p1
  exact ⟨b, rfl, k G1 H1 m1 b e1 r1 t2⟩
theorem tTest_imp {t t' : TE} {σ : L2.St} {H : Hp} {Q : Bool → Hp → Prop} (h : tTest t' σ H Q) (i : ∀ Q, t' σ H Q → t σ H Q) : tTest t σ H Q := i _ h
theorem dt_cmp {op : CmpOp} {r : R2} {rd : DR2} (ho : OpR X (compareOp op) r) (hd : OpD X.K r rd) (ha : DE X W WD a ta) (hb : DE X W WD b tb) (hm : behindInMarks op b = false) : DT X W WD (.Compare a [op] [b] pos) (dTest (dOp rd ta tb)) :=
  PT.imp (pt_cmpR ho ha hb hm) fun _ _ _ h => tTest_imp (upT_test h) fun _ q => up_op hd q
def dChain (rd rd' : DR2) (ta tb tc : DTE) : DTE := fun r m Q => ta r m fun x m1 => tb r m1 fun y m2 => rd x y m2 fun z m3 => ∃ k, z = .bl k ∧ (if k = true then tc r m3 fun w m4 => rd' y w m4 Q else Q (.bl false) m3)
theorem up_chain {K : PySem.W.Frag} {r r' : R2} {rd rd' : DR2} {ta tb tc : DTE} {σ : L2.St} {H : Hp} {Q : VK} (hd : OpD K r rd) (hd' : OpD K r' rd') (h : up K W WD (dChain rd rd' ta tb tc) σ H Q) : tChain r r' (up K W WD ta) (up K W WD tb) (up K W WD tc) σ H Q := by
  obtain ⟨G, F, ρ, m, QD, x, t, k⟩ := h
  refine ⟨G, F, ρ, m, _, x, t, fun G1 H1 m1 d1 v1 e1 r1 p1 t1 => ?_⟩
  refine ⟨G1, F, ρ, m1, _, x.step e1 r1, t1, fun G2 H2 m2 d2 v2 e2 r2 p2 t2 => ?_⟩
  refine hd G2 H2 F m2 d1 d2 v1 v2 _ _ r2 (p1.mono e2) p2 t2 fun G3 H3 m3 d3 v3 e3 r3 p3 t3 => ?_
  obtain ⟨b, rfl, t4⟩ := t3
  cases p3
  refine ⟨b, rfl, ?_⟩
  cases b with
  | false => exact k G3 H3 m3 _ _ ((e1.trans e2).trans e3) r3 (.bl _) t4
  | true =>
    refine ⟨G3, F, ρ, m3, _, x.step ((e1.trans e2).trans e3) r3, t4, fun G4 H4 m4 d4 v4 e4 r4 p4 t5 => ?_⟩
    exact hd' G4 H4 F m4 d2 d4 v2 v4 QD Q r4 (p2.mono (e3.trans e4)) p4 t5 (k.mono (((e1.trans e2).trans e3).trans e4))
theorem dt_chain {op op' : CmpOp} {r r' : R2} {rd rd' : DR2} (ho : OpR X (compareOp op) r) (hd : OpD X.K r rd) (ho' : OpR X (compareOp op') r') (hd' : OpD X.K r' rd') (ha : DE X W WD a ta) (hb : DE X W WD b tb) (hc : DE X W WD c tc)
    (hm : lastMarks [op, op'] [b, c] = false := by with_unfolding_all rfl) : DT X W WD (.Compare a [op, op'] [b, c] pos) (dTest (dChain rd rd' ta tb tc)) := PT.imp (pt_chain ho ho' ha hb hc hm) fun _ _ _ h => tTest_imp (upT_test h) fun _ q => up_chain hd hd' q
end
def dTruB (m : M) : D → Option Bool
  | .non => some false
  | .bl b => some b
  | .int i => some (i != 0)
  | .str z => if z.length ≤ sizeLine then some ((z.length : Int) != 0) else none
  | .lst xs => some (!xs.isEmpty)
  | .rdl xs => some (!xs.isEmpty)
  | .tup xs => some (!xs.isEmpty)
  | .ref a => (m a).bind fun o => match o with
    | .lst xs => some (!xs.isEmpty)
    | _ => none
  | _ => none
def dTru (t : DTE) : DTT := fun r m Q => t r m fun d m1 => ∃ b, dTruB m1 d = some b ∧ Q b m1
theorem isEmpty_rps {K : PySem.W.Frag} {G : Hp} {ds : List D} {vs : List V} (h : Rps K G ds vs) : ds.isEmpty = vs.isEmpty := by cases h <;> rfl
theorem tru_of {K : PySem.W.Frag} {G H F : Hp} {m : M} {d : D} {v : V} {b : Bool} (r : Rep K G H F m) (p : Rp K G d v) (e : dTruB m d = some b) : TruV K v H b := by
  cases d with
  | non => cases p; cases e; exact rfl
  | bl x => cases p; cases e; exact rfl
  | int i => cases p; cases e; exact rfl
  | str z =>
    cases p
    dsimp only [dTruB] at e
    by_cases hz : z.length ≤ sizeLine
    · rw [if_pos hz] at e; cases e; exact ⟨hz, rfl⟩
    · rw [if_neg hz] at e; cases e
  | lst xs => cases p with | lst h1 r1 => cases e; exact .inl ⟨_, SqL.of (r.ext _ _ h1), by rw [isEmpty_rps r1]⟩
  | rdl xs => cases p with | rdl h1 r1 => cases e; exact .inl ⟨_, r.ext.seq h1, by rw [isEmpty_rps r1]⟩
  | tup xs => cases p with | tup h1 r1 => cases e; exact .inr (.inl ⟨_, same_sqt r.ext h1, by rw [isEmpty_rps r1]⟩)
  | ref a =>
    cases p
    dsimp only [dTruB] at e
    cases q : m a with
    | none => rw [q] at e; cases e
    | some o =>
      rw [q] at e
      cases o with
      | lst xs =>
        obtain ⟨_, _, u, h3, h4⟩ := r.mo a _ q
        obtain ⟨vs, rfl, h4⟩ := h4.ofLst
        cases e
        exact .inl ⟨_, SqL.of h3, by rw [isEmpty_rps h4]⟩
      | _ => cases e
  | _ => cases e
section
variable {X : Cx} {W : WX} {WD : DWX} {a b : Expr} {ta tb : DTE} {pos : Pos} {t u : DTT} {rest : List Expr}
theorem dt_tru (ha : DE X W WD a ta) (he : ∀ whole, isTrue a X.env whole = (do let v ← whole; standAt a.pos; holding [v] (truthy v)) := by intro _; rfl) : DT X W WD a (dTru ta) := by
  refine PT.imp (pt_truth ha he) fun σ H Q h => ?_
  obtain ⟨G, F, ρ, m, QD, x, t, k⟩ := h
  refine ⟨G, F, ρ, m, _, x, t, fun G1 H1 m1 d1 v1 e1 r1 p1 t1 => ?_⟩
  obtain ⟨b, e, t2⟩ := t1
  exact ⟨b, tru_of r1 p1 e, k G1 H1 m1 b e1 r1 t2⟩
def dAnd (t u : DTT) : DTT := fun r m Q => t r m fun c m1 => if c = true then u r m1 Q else Q false m1
def dOr (t u : DTT) : DTT := fun r m Q => t r m fun c m1 => if c = true then Q true m1 else u r m1 Q
def dNot (t : DTT) : DTT := fun r m Q => t r m fun c m1 => Q (!c) m1
theorem dw_and1 (ha : DT X W WD a t) : DW X W WD (.BoolOp .And [a] pos) t := pw_and1 ha
theorem dw_or1 (ha : DT X W WD a t) : DW X W WD (.BoolOp .Or [a] pos) t := pw_or1 ha
theorem dw_and (ha : DT X W WD a t) (hb : DW X W WD (.BoolOp .And (b :: rest) pos) u) : DW X W WD (.BoolOp .And (a :: b :: rest) pos) (dAnd t u) := by
  refine PW.imp (pw_and ha hb) fun σ H Q h => ?_
  obtain ⟨G, F, ρ, m, QD, x, t, k⟩ := h
  refine ⟨G, F, ρ, m, _, x, t, fun G1 H1 m1 b e1 r1 t1 => ?_⟩
  cases b with
  | false => exact k G1 H1 m1 false e1 r1 t1
  | true => exact ⟨G1, F, ρ, m1, QD, x.step e1 r1, t1, fun G2 H2 m2 b e2 r2 t2 => k G2 H2 m2 b (e1.trans e2) r2 t2⟩
theorem dw_or (ha : DT X W WD a t) (hb : DW X W WD (.BoolOp .Or (b :: rest) pos) u) : DW X W WD (.BoolOp .Or (a :: b :: rest) pos) (dOr t u) := by
  refine PW.imp (pw_or ha hb) fun σ H Q h => ?_
  obtain ⟨G, F, ρ, m, QD, x, t, k⟩ := h
  refine ⟨G, F, ρ, m, _, x, t, fun G1 H1 m1 b e1 r1 t1 => ?_⟩
  cases b with
  | true => exact k G1 H1 m1 true e1 r1 t1
  | false => exact ⟨G1, F, ρ, m1, QD, x.step e1 r1, t1, fun G2 H2 m2 b e2 r2 t2 => k G2 H2 m2 b (e1.trans e2) r2 t2⟩
theorem dt_w (h : DW X W WD a t) : DT X W WD a t := PW.pt h
theorem dt_not (ha : DT X W WD a t) : DT X W WD (.UnaryOp .Not a pos) (dNot t) := by
  refine PT.imp (pt_not ha) fun σ H Q h => ?_
  obtain ⟨G, F, ρ, m, QD, x, t, k⟩ := h
  exact ⟨G, F, ρ, m, _, x, t, fun G1 H1 m1 b e1 r1 t1 => k G1 H1 m1 (!b) e1 r1 t1⟩
def dAndV (ta tb : DTE) : DTE := fun r m Q => ta r m fun d m1 => ∃ c, d = .bl c ∧ if c = true then tb r m1 Q else Q (.bl false) m1
def dOrV (ta tb : DTE) : DTE := fun r m Q => ta r m fun d m1 => ∃ c, d = .bl c ∧ if c = true then Q (.bl true) m1 else tb r m1 Q
def dNotV (ta : DTE) : DTE := fun r m Q => ta r m fun d m1 => ∃ c, d = .bl c ∧ Q (.bl (!c)) m1
theorem de_one {op} (h : DE X W WD a ta) : DE X W WD (.BoolOp op [a] pos) ta := pe_one h
theorem de_and (ha : DE X W WD a ta) (hb : DE X W WD (.BoolOp .And (b :: rest) pos) tb) : DE X W WD (.BoolOp .And (a :: b :: rest) pos) (dAndV ta tb) := by
  refine PE.imp (pe_and ha hb) fun σ H Q h => ?_
  obtain ⟨G, F, ρ, m, QD, x, t, k⟩ := h
  refine ⟨G, F, ρ, m, _, x, t, fun G1 H1 m1 d1 v1 e1 r1 p1 t1 => ?_⟩
  obtain ⟨c, rfl, t2⟩ := t1
  cases p1
  refine ⟨c, rfl, ?_⟩
  cases c with
  | true => exact ⟨G1, F, ρ, m1, QD, x.step e1 r1, t2, k.mono e1⟩
  | false => exact k G1 H1 m1 _ _ e1 r1 (.bl _) t2
theorem de_or (ha : DE X W WD a ta) (hb : DE X W WD (.BoolOp .Or (b :: rest) pos) tb) : DE X W WD (.BoolOp .Or (a :: b :: rest) pos) (dOrV ta tb) := by
  refine PE.imp (pe_or ha hb) fun σ H Q h => ?_
  obtain ⟨G, F, ρ, m, QD, x, t, k⟩ := h
  refine ⟨G, F, ρ, m, _, x, t, fun G1 H1 m1 d1 v1 e1 r1 p1 t1 => ?_⟩
  obtain ⟨c, rfl, t2⟩ := t1
  cases p1
  refine ⟨c, rfl, ?_⟩
  cases c with
  | false => exact ⟨G1, F, ρ, m1, QD, x.step e1 r1, t2, k.mono e1⟩
  | true => exact k G1 H1 m1 _ _ e1 r1 (.bl _) t2
theorem de_not (ha : DE X W WD a ta) : DE X W WD (.UnaryOp .Not a pos) (dNotV ta) := by
  refine PE.imp (pe_not ha) fun σ H Q h => ?_
  obtain ⟨G, F, ρ, m, QD, x, t, k⟩ := h
  refine ⟨G, F, ρ, m, _, x, t, fun G1 H1 m1 d1 v1 e1 r1 p1 t1 => ?_⟩
  obtain ⟨c, rfl, t2⟩ := t1
  cases p1
  exact ⟨c, rfl, k G1 H1 m1 _ _ e1 r1 (.bl _) t2⟩
def dIf (t : DTT) (ta tb : DTE) : DTE := fun r m Q => t r m fun c m1 => if c = true then ta r m1 Q else tb r m1 Q
theorem de_ifExp {c : Expr} (hc : DT X W WD c t) (ha : DE X W WD a ta) (hb : DE X W WD b tb) : DE X W WD (.IfExp c a b pos) (dIf t ta tb) := by
  refine PE.imp (pe_ifExp hc ha hb) fun σ H Q h => ?_
  obtain ⟨G, F, ρ, m, QD, x, t, k⟩ := h
  refine ⟨G, F, ρ, m, _, x, t, fun G1 H1 m1 b e1 r1 t1 => ?_⟩
  cases b with
  | true => exact ⟨G1, F, ρ, m1, QD, x.step e1 r1, t1, k.mono e1⟩
  | false => exact ⟨G1, F, ρ, m1, QD, x.step e1 r1, t1, k.mono e1⟩
end
end DL

set_option Elab.async false
set_option linter.all false
set_option maxRecDepth 100000
set_option maxHeartbeats 4000000
namespace DL
open PySem PySem.Spec PyProof.Rows L2

def daNil : DTA := fun _ m Q => Q [] m
def daCons (ta : DTE) (tr : DTA) : DTA := fun r m Q => ta r m fun x m1 => tr r m1 fun xs m2 => Q (x :: xs) m2
section
variable {X : Cx} {W : WX} {WD : DWX} {e : Expr} {es : List Expr} {te : DTE} {t : DTA} {pos : Pos}
theorem da_nil : DA X W WD [] daNil := by
  refine PA.imp pa_nil fun σ H Q h => ?_
  obtain ⟨G, F, ρ, m, QD, x, t, k⟩ := h
  exact k G H m [] [] (Same.refl G) x.rep .nil t
theorem da_cons (ha : DE X W WD e te) (hr : DA X W WD es t) (hs : starEach (e :: es) X.env = (false, eval e X.env) :: starEach es X.env := by rfl) : DA X W WD (e :: es) (daCons te t) := by
  refine PA.imp (pa_cons ha hr hs) fun σ H Q h => ?_
  obtain ⟨G, F, ρ, m, QD, x, t, k⟩ := h
  refine ⟨G, F, ρ, m, _, x, t, fun G1 H1 m1 d1 v1 e1 r1 p1 t1 => ?_⟩
  exact ⟨G1, F, ρ, m1, _, x.step e1 r1, t1, fun G2 H2 m2 ds vs e2 r2 p2 t2 => k G2 H2 m2 (d1 :: ds) (v1 :: vs) (e1.trans e2) r2 (.cons (p1.mono e2) p2) t2⟩
def dTup (t : DTA) : DTE := fun r m Q => t r m fun xs m1 => xs.length ≤ sizeLine ∧ Q (.tup xs) m1
def dLst (mt : Bool) (t : DTA) : DTE := fun r m Q => t r m fun xs m1 => xs.length ≤ sizeLine ∧ mkL mt xs m1 Q
theorem de_tup {x1} (h : DA X W WD es t) : DE X W WD (.Tuple es x1 pos) (dTup t) := by
  refine PE.imp (pe_tup h) fun σ H Q h => ?_
  obtain ⟨G, F, ρ, m, QD, x, t, k⟩ := h
  refine ⟨G, F, ρ, m, _, x, t, fun G1 H1 m1 ds vs e1 r1 p1 t1 => ⟨by rw [← p1.length]; exact t1.1, fun p hp => ?_⟩⟩
  exact mkT_ok (k.mono e1) r1 p1 hp t1.2
theorem de_lst (mt : Bool) (h : DA X W WD es t) : DE X W WD (.List es pos) (dLst mt t) := by
  refine PE.imp (pe_lst h) fun σ H Q h => ?_
  obtain ⟨G, F, ρ, m, QD, x, t, k⟩ := h
  refine ⟨G, F, ρ, m, _, x, t, fun G1 H1 m1 ds vs e1 r1 p1 t1 => ⟨by rw [← p1.length]; exact t1.1, fun p hp => ?_⟩⟩
  exact mkL_ok (k.mono e1) r1 p1 hp t1.2
end

def lsOf (m : M) : D → Option (List D)
  | .lst xs => some xs
  | .rdl xs => some xs
  | .ref a => (m a).bind fun o => match o with
    | .lst xs => some xs
    | _ => none
  | _ => none
theorem lsOf_ref {m : M} {a : Addr} {xs : List D} (h : m a = some (.lst xs)) : lsOf m (.ref a) = some xs := by
  dsimp only [lsOf]; rw [h]; rfl
theorem ls_ok {K : PySem.W.Frag} {G H F : Hp} {m : M} {d : D} {v : V} {xs : List D} (r : Rep K G H F m) (p : Rp K G d v) (e : lsOf m d = some xs) : ∃ a vs, v = .ref a ∧ SqL K H a vs ∧ Rps K G xs vs := by
  cases d with
  | lst ys => cases e; cases p with | lst h1 r1 => exact ⟨_, _, rfl, SqL.of (r.ext _ _ h1), r1⟩
  | rdl ys => cases e; cases p with | rdl h1 r1 => exact ⟨_, _, rfl, r.ext.seq h1, r1⟩
  | ref a =>
    cases p
    dsimp only [lsOf] at e
    cases q : m a with
    | none => rw [q] at e; cases e
    | some o =>
      rw [q] at e
      cases o with
      | lst zs =>
        obtain ⟨_, _, u, h3, h4⟩ := r.mo a _ q
        obtain ⟨vs, rfl, h4⟩ := h4.ofLst
        cases e
        exact ⟨_, _, rfl, SqL.of h3, h4⟩
      | _ => cases e
  | _ => cases e
def sqOf (m : M) : D → Option (List D)
  | .tup xs => some xs
  | d => lsOf m d
theorem sq_ok {K : PySem.W.Frag} {G H F : Hp} {m : M} {d : D} {v : V} {xs : List D} (r : Rep K G H F m) (p : Rp K G d v) (e : sqOf m d = some xs) : ∃ a vs, v = .ref a ∧ (SqL K H a vs ∨ SqT K H a vs) ∧ Rps K G xs vs := by
  cases d with
  | tup ys => cases e; cases p with | tup h1 r1 => exact ⟨_, _, rfl, .inr (same_sqt r.ext h1), r1⟩
  | _ =>
    obtain ⟨a, vs, h1, h2, h3⟩ := ls_ok r p e
    exact ⟨a, vs, h1, .inl h2, h3⟩
theorem rps_atI {K : PySem.W.Frag} {G : Hp} {ds : List D} {vs : List V} {i : Int} {d : D} (r : Rps K G ds vs) (h : atI ds i = some d) : ∃ v, atI vs i = some v ∧ Rp K G d v := by
  unfold atI at h ⊢
  rw [← r.length]
  cases q : ixN ds.length i with
  | none => rw [q] at h; cases h
  | some j =>
    rw [q] at h
    exact r.get (i := j) h
def dIx : DR2 := fun x y m Q => ∃ i, y = .int i ∧ match x with
  | .str z => z.length ≤ sizeLine ∧ ∃ c, atI z.cps.toList i = some c ∧ Q (.str ⟨#[c]⟩) m
  | x => ∃ xs d, sqOf m x = some xs ∧ atI xs i = some d ∧ Q d m
section
variable {K : PySem.W.Frag} {X : Cx} {W : WX} {WD : DWX} {a b e : Expr} {ta tb te : DTE} {pos : Pos}
theorem od_ix : OpD K (rIx K) dIx := by
  intro G H F m x y vx vy QD Q r px py t k
  obtain ⟨i, rfl, t⟩ := t
  cases py
  have go : (∃ xs d, sqOf m x = some xs ∧ atI xs i = some d ∧ QD d m) → rIx K vx (.int i) H Q := by
    rintro ⟨xs, d, e, h, t⟩
    obtain ⟨a, vs, rfl, hs, rs⟩ := sq_ok r px e
    obtain ⟨v, h1, h2⟩ := rps_atI rs h
    rcases hs with hs | hs
    · exact .inl ⟨a, vs, i, v, rfl, rfl, hs, h1, k.here r h2 t⟩
    · exact .inr (.inl ⟨a, vs, i, v, rfl, rfl, hs, h1, k.here r h2 t⟩)
  cases x with
  | str z =>
    cases px
    obtain ⟨hz, c, hc, t⟩ := t
    exact .inr (.inr ⟨z, i, c, rfl, rfl, hz, hc, k.here r (.str _) t⟩)
  | _ => exact go t
theorem de_ix (ha : DE X W WD a ta) (hb : DE X W WD b tb) (hs : PlainIx b := by intro _ _; rfl) : DE X W WD (.Subscript a b pos) (dOp dIx ta tb) := PE.imp (pe_ix ix_seq ha hb hs) fun _ _ _ h => up_op od_ix h
def doNone : DO := fun _ m Q => Q none m
def doSome (t : DTE) : DO := fun r m Q => t r m fun d m1 => ∃ i, d = .int i ∧ Q (some i) m1
theorem do_none : DOp X W WD none doNone := by
  refine PO.imp po_none fun σ H Q h => ?_
  obtain ⟨G, F, ρ, m, QD, x, t, k⟩ := h
  exact k G H m none (Same.refl G) x.rep t
theorem do_some (h : DE X W WD e te) : DOp X W WD (some e) (doSome te) := by
  refine PO.imp (po_some h) fun σ H Q h => ?_
  obtain ⟨G, F, ρ, m, QD, x, t, k⟩ := h
  refine ⟨G, F, ρ, m, _, x, t, fun G1 H1 m1 d1 v1 e1 r1 p1 t1 => ?_⟩
  obtain ⟨i, rfl, t2⟩ := t1
  cases p1
  exact ⟨i, rfl, k G1 H1 m1 (some i) e1 r1 t2⟩
def cutD {α : Type} (xs : List α) (lo hi : Option Int) : List α := (xs.drop (HT.sIx xs.length 0 lo)).take (HT.sIx xs.length xs.length hi - HT.sIx xs.length 0 lo)
theorem cut_rps {G : Hp} {ds : List D} {vs : List V} (r : Rps K G ds vs) (lo hi : Option Int) : Rps K G (cutD ds lo hi) (cutV vs lo hi) := by
  unfold cutD cutV
  rw [r.length]
  exact (r.drop _).take _
def dSl (mt : Bool) (x : D) (lo hi : Option Int) (m : M) (Q : D → M → Prop) : Prop := match x with
  | .str z => z.length ≤ sizeLine ∧ Q (.str (cutS z lo hi)) m
  | .tup xs => ¬ (HT.sIx xs.length 0 lo = 0 ∧ HT.sIx xs.length xs.length hi = xs.length) ∧ Q (.tup (cutD xs lo hi)) m
  | x => ∃ xs, lsOf m x = some xs ∧ mkL mt (cutD xs lo hi) m Q
def rSlA (K : PySem.W.Frag) : V → Option Int → Option Int → Hp → VK → Prop := fun x lo hi H Q => rSlL K x lo hi H Q ∨ rSlT K x lo hi H Q ∨ rSlS x lo hi H Q
theorem sl_any : SlR X (rSlA X.K) := sl_list.or (sl_tup.or sl_str)
theorem sl_ok {G H F : Hp} {m : M} {x : D} {vx : V} {mt : Bool} {lo hi : Option Int} {QD : D → M → Prop} {Q : VK} (r : Rep K G H F m) (px : Rp K G x vx) (t : dSl mt x lo hi m QD) (k : Kv K G F QD Q) : rSlA K vx lo hi H Q := by
  have go : (∃ xs, lsOf m x = some xs ∧ mkL mt (cutD xs lo hi) m QD) → rSlA K vx lo hi H Q := by
    rintro ⟨xs, e, t⟩
    obtain ⟨a, vs, rfl, hs, rs⟩ := ls_ok r px e
    exact .inl ⟨a, vs, rfl, hs, fun p hp => mkL_ok k r (cut_rps rs lo hi) hp t⟩
  cases x with
  | str z => cases px; exact .inr (.inr ⟨z, rfl, t.1, k.here r (.str _) t.2⟩)
  | tup xs =>
    cases px with | tup h1 r1 =>
    refine .inr (.inl ⟨_, _, rfl, same_sqt r.ext h1, by rw [← r1.length]; exact t.1, fun p hp => mkT_ok k r (cut_rps r1 lo hi) hp t.2⟩)
  | _ => exact go t
def dSlice (mt : Bool) (te : DTE) (tl th : DO) : DTE := fun r m Q => te r m fun x m1 => tl r m1 fun l m2 => th r m2 fun u m3 => dSl mt x l u m3 Q
theorem de_slice (mt : Bool) {lo hi : Option Expr} {tl th : DO} {p2 : Pos} (he : DE X W WD e te) (hl : DOp X W WD lo tl) (hu : DOp X W WD hi th) : DE X W WD (.Subscript e (.Slice lo hi none p2) pos) (dSlice mt te tl th) := by
  refine PE.imp (pe_slice sl_any he hl hu) fun σ H Q h => ?_
  obtain ⟨G, F, ρ, m, QD, x, t, k⟩ := h
  refine ⟨G, F, ρ, m, _, x, t, fun G1 H1 m1 d1 v1 e1 r1 p1 t1 => ?_⟩
  refine ⟨G1, F, ρ, m1, _, x.step e1 r1, t1, fun G2 H2 m2 l e2 r2 t2 => ?_⟩
  refine ⟨G2, F, ρ, m2, _, x.step (e1.trans e2) r2, t2, fun G3 H3 m3 u e3 r3 t3 => ?_⟩
  exact sl_ok r3 (p1.mono (e2.trans e3)) t3 (k.mono ((e1.trans e2).trans e3))
def flatD : D → Bool
  | .non => true
  | .bl _ => true
  | .int _ => true
  | .str _ => true
  | _ => false
def eqD : D → D → Bool
  | .non, .non => true
  | .bl a, .bl b => a == b
  | .bl a, .int b => (if a then 1 else 0) == b
  | .int a, .bl b => a == (if b then 1 else 0)
  | .int a, .int b => a == b
  | .str a, .str b => a == b
  | _, _ => false
def inD (x : D) (xs : List D) : Bool := xs.any fun y => eqD y x
theorem flat_ok {G : Hp} {d : D} {v : V} (p : Rp K G d v) (h : flatD d = true) : flatV v = true := by
  cases p <;> first | rfl | cases h
theorem eqD_ok {G : Hp} {d e : D} {v u : V} (p : Rp K G d v) (q : Rp K G e u) (h : flatD d = true) (h2 : flatD e = true) : eqV v u = eqD d e := by
  cases p <;> first | (cases q <;> first | rfl | cases h2) | cases h
theorem flats_ok {G : Hp} : ∀ {ds : List D} {vs : List V}, Rps K G ds vs → ds.all flatD = true → vs.all flatV = true
  | _, _, .nil, _ => rfl
  | _, _, .cons r t, h => by
    rw [List.all_cons, Bool.and_eq_true] at h ⊢
    exact ⟨flat_ok r h.1, flats_ok t h.2⟩
theorem inD_ok {G : Hp} {x : D} {vx : V} (p : Rp K G x vx) (hx : flatD x = true) : ∀ {ds : List D} {vs : List V}, Rps K G ds vs → ds.all flatD = true → inV vx vs = inD x ds
  | _, _, .nil, _ => rfl
  | _, _, .cons (d := d) (v := v) r t, h => by
    rw [List.all_cons, Bool.and_eq_true] at h
    have ih := inD_ok p hx t h.2
    unfold inV inD at ih ⊢
    rw [List.any_cons, List.any_cons, ih, eqD_ok r p h.1 hx]
def dIn (neg : Bool) : DR2 := fun x y m Q => match x, y with
  | .str i, .str j => Q (.bl (if neg then !(!(Builtin.Str.occurrences j i 0 j.length 1).isEmpty) else !(Builtin.Str.occurrences j i 0 j.length 1).isEmpty)) m
  | x, y => ∃ xs, sqOf m y = some xs ∧ flatD x = true ∧ xs.all flatD = true ∧ Q (.bl (if neg then !inD x xs else inD x xs)) m
def rInA (K : PySem.W.Frag) : R2 := fun x y H Q => (∃ i j, x = .str i ∧ y = .str j ∧ Q (.bl (!(Builtin.Str.occurrences j i 0 j.length 1).isEmpty)) H) ∨ rIn K false x y H Q
def rNotInA (K : PySem.W.Frag) : R2 := fun x y H Q => (∃ i j, x = .str i ∧ y = .str j ∧ Q (.bl (!(!(Builtin.Str.occurrences j i 0 j.length 1).isEmpty))) H) ∨ rIn K true x y H Q
theorem op_inA : OpR X (compareOp .In) (rInA X.K) := op_in_str.or op_in_seq
theorem op_notInA : OpR X (compareOp .NotIn) (rNotInA X.K) := op_notin_str.or op_notIn_seq
theorem in_go {G H F : Hp} {m : M} {x y : D} {vx vy : V} {neg : Bool} {QD : D → M → Prop} {Q : VK} (r : Rep K G H F m) (px : Rp K G x vx) (py : Rp K G y vy) (k : Kv K G F QD Q)
    (t : ∃ xs, sqOf m y = some xs ∧ flatD x = true ∧ xs.all flatD = true ∧ QD (.bl (if neg then !inD x xs else inD x xs)) m) : rIn K neg vx vy H Q := by
  obtain ⟨xs, e, f1, f2, t⟩ := t
  obtain ⟨a, vs, rfl, hs, rs⟩ := sq_ok r py e
  refine ⟨a, vs, rfl, hs, flat_ok px f1, flats_ok rs f2, ?_⟩
  rw [inD_ok px f1 rs f2]
  exact k.here r (.bl _) t
theorem od_in : OpD K (rInA K) (dIn false) := by
  intro G H F m x y vx vy QD Q r px py t k
  cases x with
  | str i => cases y with
    | str j => cases px; cases py; exact .inl ⟨i, j, rfl, rfl, k.here r (.bl _) t⟩
    | _ => exact .inr (in_go r px py k t)
  | _ => exact .inr (in_go r px py k t)
theorem od_notIn : OpD K (rNotInA K) (dIn true) := by
  intro G H F m x y vx vy QD Q r px py t k
  cases x with
  | str i => cases y with
    | str j => cases px; cases py; exact .inl ⟨i, j, rfl, rfl, k.here r (.bl _) t⟩
    | _ => exact .inr (in_go r px py k t)
  | _ => exact .inr (in_go r px py k t)
end
abbrev DRC := List D → M → (D → M → Prop) → Prop
def CallD (K : PySem.W.Frag) (r : List V → Hp → VK → Prop) (rd : DRC) : Prop :=
  ∀ (G H F : Hp) (m : M) (ds : List D) (vs : List V) (QD : D → M → Prop) (Q : VK), Rep K G H F m → Rps K G ds vs → rd ds m QD → Kv K G F QD Q → r vs H Q
def dCB (rd : DRC) (t : DTA) : DTE := fun r m Q => t r m fun ds m1 => rd ds m1 Q
theorem up_cb {K : PySem.W.Frag} {W : WX} {WD : DWX} {r : List V → Hp → VK → Prop} {rd : DRC} {t : DTA} {σ : L2.St} {H : Hp} {Q : VK} (hd : CallD K r rd) (h : up K W WD (dCB rd t) σ H Q) : tCB r (upA K W WD t) σ H Q := by
  obtain ⟨G, F, ρ, m, QD, x, t, k⟩ := h
  exact ⟨G, F, ρ, m, _, x, t, fun G1 H1 m1 ds vs e1 r1 p1 t1 => hd G1 H1 F m1 ds vs QD Q r1 p1 t1 (k.mono e1)⟩
theorem CallR.or {X : Cx} {f : Value} {r r' : List V → Hp → VK → Prop} (h : CallR X f r) (h' : CallR X f r') : CallR X f (fun xs H Q => r xs H Q ∨ r' xs H Q) := fun pins s σ H xs us Q I v q => by
  rcases q with q | q
  · exact h pins s σ H xs us Q I v q
  · exact h' pins s σ H xs us Q I v q
section
variable {K : PySem.W.Frag} {X : Cx} {W : WX} {WD : DWX} {e : Expr} {es : List Expr} {t : DTA} {p pos : Pos} {r : List V → Hp → VK → Prop} {rd : DRC} {x : Str} {id T : String}
theorem de_callB (hc : CallR X (.builtin id) r) (hd : CallD X.K r rd) (hg : Gl X x) (hm : X.mg x = none) (hv : bootBuiltins x = some (.builtin id)) (ha : DA X W WD (e :: es) t) (hn : x ≠ "__name__" := by decide) (hdb : (x == ("__debug__" : Str)) = false := by decide)
    (he : starEach (e :: es) X.env = (false, eval e X.env) :: starEach es X.env := by rfl) (hpl : (backTo pos (starEach es X.env)).any (·.1) = false := by rfl) : DE X W WD (.Call (.Name x p) (e :: es) [] pos) (dCB rd t) :=
  PE.imp (pe_callB hc hg hm hv ha hn hdb he hpl) fun _ _ _ h => up_cb hd h
theorem de_callTy (hc : CallR X (.type T) r) (hd : CallD X.K r rd) (hg : Gl X x) (hm : X.mg x = none) (hv : bootBuiltins x = some (.type T)) (ha : DA X W WD (e :: es) t) (hn : x ≠ "__name__" := by decide) (hdb : (x == ("__debug__" : Str)) = false := by decide)
    (he : starEach (e :: es) X.env = (false, eval e X.env) :: starEach es X.env := by rfl) (hpl : (backTo pos (starEach es X.env)).any (·.1) = false := by rfl) : DE X W WD (.Call (.Name x p) (e :: es) [] pos) (dCB rd t) :=
  PE.imp (pe_callTy hc hg hm hv ha hn hdb he hpl) fun _ _ _ h => up_cb hd h
theorem rps1 {G : Hp} {d : D} {vs : List V} (h : Rps K G [d] vs) : ∃ v, vs = [v] ∧ Rp K G d v := by
  cases h with | cons r t => cases t; exact ⟨_, rfl, r⟩
theorem rps2 {G : Hp} {d e : D} {vs : List V} (h : Rps K G [d, e] vs) : ∃ v u, vs = [v, u] ∧ Rp K G d v ∧ Rp K G e u := by
  cases h with | cons r t => cases t with | cons r2 t2 => cases t2; exact ⟨_, _, rfl, r, r2⟩
def dLen : DRC := fun ds m Q => ∃ d, ds = [d] ∧ match d with
  | .str z => z.length ≤ sizeLine ∧ Q (.int z.length) m
  | d => ∃ xs, sqOf m d = some xs ∧ Q (.int xs.length) m
theorem cd_len : CallD K (fun xs H Q => ∃ x n, xs = [x] ∧ LenV K x H n ∧ Q (.int n) H) dLen := by
  intro G H F m ds vs QD Q r ps t k
  obtain ⟨d, rfl, t⟩ := t
  obtain ⟨v, rfl, p⟩ := rps1 ps
  have go : (∃ xs, sqOf m d = some xs ∧ QD (.int xs.length) m) → ∃ x n, [v] = [x] ∧ LenV K x H n ∧ Q (.int n) H := by
    rintro ⟨xs, e, t⟩
    obtain ⟨a, vs, rfl, hs, rs⟩ := sq_ok r p e
    refine ⟨_, xs.length, rfl, ?_, k.here r (.int _) t⟩
    rcases hs with hs | hs
    · exact .inl ⟨vs, hs, rs.length⟩
    · exact .inr ⟨vs, hs, rs.length⟩
  cases d with
  | str z => cases p; exact ⟨_, z.length, rfl, ⟨t.1, rfl⟩, k.here r (.int _) t.2⟩
  | _ => exact go t
def dInt1 : DRC := fun ds m Q => match ds with
  | [.int i] => Q (.int i) m
  | [.bl b] => Q (.int (if b then 1 else 0)) m
  | _ => False
theorem cd_int1 : CallD K (fun xs H Q => (∃ i, xs = [.int i] ∧ Q (.int i) H) ∨ ∃ k, xs = [.bl k] ∧ Q (.int (if k then 1 else 0)) H) dInt1 := by
  intro G H F m ds vs QD Q r ps t k
  match ds, t with
  | [.int i], t =>
    obtain ⟨v, rfl, p⟩ := rps1 ps
    cases p; exact .inl ⟨i, rfl, k.here r (.int _) t⟩
  | [.bl i], t =>
    obtain ⟨v, rfl, p⟩ := rps1 ps
    cases p; exact .inr ⟨i, rfl, k.here r (.int _) t⟩
def dAbs : DRC := fun ds m Q => match ds with
  | [.int i] => Q (.int (if i < 0 then -i else i)) m
  | _ => False
def dMax : DRC := fun ds m Q => match ds with
  | [d] => ∃ ns : List Int, lsOf m d = some (ns.map D.int) ∧ 0 < ns.length ∧ ∀ k, k ∈ ns → (∀ y, y ∈ ns → y ≤ k) → Q (.int k) m
  | [d, e] => ∃ i j, d = .int i ∧ e = .int j ∧ Q (.int (max i j)) m
  | _ => False
def dMin : DRC := fun ds m Q => match ds with
  | [d] => ∃ ns : List Int, lsOf m d = some (ns.map D.int) ∧ 0 < ns.length ∧ ∀ k, k ∈ ns → (∀ y, y ∈ ns → k ≤ y) → Q (.int k) m
  | [d, e] => ∃ i j, d = .int i ∧ e = .int j ∧ Q (.int (min i j)) m
  | _ => False
def rMaxA (K : PySem.W.Frag) : List V → Hp → VK → Prop := fun xs H Q => (∃ i j, xs = [.int i, .int j] ∧ Q (.int (if j > i then j else i)) H) ∨ rMax K xs H Q
def rMinA (K : PySem.W.Frag) : List V → Hp → VK → Prop := fun xs H Q => (∃ i j, xs = [.int i, .int j] ∧ Q (.int (if j < i then j else i)) H) ∨ rMin K xs H Q
theorem call_maxA (hc : X.calm = true) : CallR X (.builtin "max") (rMaxA X.K) := CallR.or (call_max2 hc) (cr_max hc)
theorem call_minA (hc : X.calm = true) : CallR X (.builtin "min") (rMinA X.K) := CallR.or (call_min2 hc) (cr_min hc)
theorem cd_max : CallD K (rMaxA K) dMax := by
  intro G H F m ds vs QD Q r ps t k
  have one : ∀ (d : D), ds = [d] → (∃ ns : List Int, lsOf m d = some (ns.map D.int) ∧ 0 < ns.length ∧ ∀ k, k ∈ ns → (∀ y, y ∈ ns → y ≤ k) → QD (.int k) m) → rMaxA K vs H Q := by
    rintro d rfl ⟨ns, e, h0, t⟩
    obtain ⟨v, rfl, p⟩ := rps1 ps
    obtain ⟨a, us, rfl, hs, rs⟩ := ls_ok r p e
    rw [rs.ints] at hs
    exact .inr ⟨a, ns, rfl, hs, h0, fun z h1 h2 => k.here r (.int _) (t z h1 h2)⟩
  match ds, t with
  | [d, e], t =>
    obtain ⟨i, j, rfl, rfl, t⟩ := t
    obtain ⟨v, u, rfl, p, q⟩ := rps2 ps
    cases p; cases q
    refine .inl ⟨i, j, rfl, ?_⟩
    have e : (if j > i then j else i) = max i j := by split <;> omega
    rw [e]
    exact k.here r (.int _) t
  | [d], t => exact one d rfl t
theorem cd_min : CallD K (rMinA K) dMin := by
  intro G H F m ds vs QD Q r ps t k
  have one : ∀ (d : D), ds = [d] → (∃ ns : List Int, lsOf m d = some (ns.map D.int) ∧ 0 < ns.length ∧ ∀ k, k ∈ ns → (∀ y, y ∈ ns → k ≤ y) → QD (.int k) m) → rMinA K vs H Q := by
    rintro d rfl ⟨ns, e, h0, t⟩
    obtain ⟨v, rfl, p⟩ := rps1 ps
    obtain ⟨a, us, rfl, hs, rs⟩ := ls_ok r p e
    rw [rs.ints] at hs
    exact .inr ⟨a, ns, rfl, hs, h0, fun z h1 h2 => k.here r (.int _) (t z h1 h2)⟩
  match ds, t with
  | [d, e], t =>
    obtain ⟨i, j, rfl, rfl, t⟩ := t
    obtain ⟨v, u, rfl, p, q⟩ := rps2 ps
    cases p; cases q
    refine .inl ⟨i, j, rfl, ?_⟩
    have e : (if j < i then j else i) = min i j := by split <;> omega
    rw [e]
    exact k.here r (.int _) t
  | [d], t => exact one d rfl t
def dSum : DRC := fun ds m Q => ∃ d, ds = [d] ∧ ∃ ns : List Int, lsOf m d = some (ns.map D.int) ∧ Q (.int ns.sum) m
def dAll : DRC := fun ds m Q => ∃ d, ds = [d] ∧ ∃ bs : List Bool, lsOf m d = some (bs.map D.bl) ∧ Q (.bl (bs.all _root_.id)) m
def dAny : DRC := fun ds m Q => ∃ d, ds = [d] ∧ ∃ bs : List Bool, lsOf m d = some (bs.map D.bl) ∧ Q (.bl (bs.any _root_.id)) m
theorem cd_sum : CallD K (rSum K) dSum := by
  intro G H F m ds vs QD Q r ps t k
  obtain ⟨d, rfl, ns, e, t⟩ := t
  obtain ⟨v, rfl, p⟩ := rps1 ps
  obtain ⟨a, us, rfl, hs, rs⟩ := ls_ok r p e
  rw [rs.ints] at hs
  exact ⟨a, ns, rfl, hs, k.here r (.int _) t⟩
theorem cd_all : CallD K (rAll K) dAll := by
  intro G H F m ds vs QD Q r ps t k
  obtain ⟨d, rfl, ns, e, t⟩ := t
  obtain ⟨v, rfl, p⟩ := rps1 ps
  obtain ⟨a, us, rfl, hs, rs⟩ := ls_ok r p e
  rw [rs.bls] at hs
  exact ⟨a, ns, rfl, hs, k.here r (.bl _) t⟩
def dList (mt : Bool) : DRC := fun ds m Q => ∃ d, ds = [d] ∧ ∃ xs, sqOf m d = some xs ∧ mkL mt xs m Q
theorem cd_list (mt : Bool) : CallD K (fun xs H Q => ∃ p ys, xs = [.ref p] ∧ (SqL K H p ys ∨ SqT K H p ys) ∧ ∀ l, H l = none → Q (.ref l) (upd H l (.lst ys))) (dList mt) := by
  intro G H F m ds vs QD Q r ps t k
  obtain ⟨d, rfl, xs, e, t⟩ := t
  obtain ⟨v, rfl, p⟩ := rps1 ps
  obtain ⟨a, us, rfl, hs, rs⟩ := sq_ok r p e
  exact ⟨a, us, rfl, hs, fun l hl => mkL_ok k r rs hl t⟩
def dTuple : DRC := fun ds m Q => ∃ d, ds = [d] ∧ ∃ xs, sqOf m d = some xs ∧ Q (.tup xs) m
def tyName (m : M) : D → Option String
  | .non => some "NoneType"
  | .bl _ => some "bool"
  | .int _ => some "int"
  | .str _ => some "str"
  | .lst _ => some "list"
  | .tup _ => some "tuple"
  | .ref a => (m a).bind fun o => match o with
    | .lst _ => some "list"
    | .dK _ => some "dict"
    | .dT _ => some "dict"
    | _ => none
  | _ => none
theorem sqt_ty {H : Hp} {a : Addr} {vs : List V} (h : SqT K H a vs) : TyX K H (.ref a) (.type "tuple") := by
  rcases h with (h | ⟨o, h⟩) | ⟨o, its, n, h1, h2, _⟩
  · exact .base (.tup h)
  · exact .fTuple h
  · exact .kTuple h1 h2
theorem ty_ok {G H F : Hp} {m : M} {d : D} {v : V} {T : String} (r : Rep K G H F m) (p : Rp K G d v) (e : tyName m d = some T) : TyX K H v (.type T) := by
  cases d with
  | non => cases e; cases p; exact .base .non
  | bl b => cases e; cases p; exact .base (.bl b)
  | int b => cases e; cases p; exact .base (.int b)
  | str b => cases e; cases p; exact .base (.str b)
  | lst xs => cases e; cases p with | lst h1 r1 => exact .base (.lst (r.ext _ _ h1))
  | tup xs => cases e; cases p with | tup h1 r1 => exact sqt_ty (same_sqt r.ext h1)
  | ref a =>
    cases p
    dsimp only [tyName] at e
    cases q : m a with
    | none => rw [q] at e; cases e
    | some o =>
      rw [q] at e
      obtain ⟨_, _, u, h3, h4⟩ := r.mo a _ q
      cases o with
      | lst xs => cases e; obtain ⟨vs, rfl, _⟩ := h4.ofLst; exact .base (.lst h3)
      | dK xs => cases e; cases u with
        | dK kv => exact .base (.dK h3)
        | _ => exact h4.elim
      | dT xs => cases e; cases u with
        | dT kv => exact .base (.dT h3)
        | _ => exact h4.elim
      | _ => cases e
  | _ => cases e
structure ClsI (K : PySem.W.Frag) (C : Addr) : Prop where
  cl : Cls K C
  ha : PySem.W.findIn K (.ref C) "__class__" = some (some (.builtin "object.__class__"))
  hn : PySem.W.specialIn K (.builtin "object.__class__") "__get__" = some (some (.builtin "getset_descriptor.__get__"))
  tk : PySem.W.takesIn K (.builtin "object.__class__") = some true
  hm : PySem.W.mroIn K C (.type "object") = some true
def IsiD (K : PySem.W.Frag) (m : M) (d c : D) (b : Bool) : Prop :=
  ∃ u, ((∃ T, c = .ty T ∧ u = Value.type T) ∨ (∃ C, c = .ref C ∧ u = .ref C)) ∧
    ((∃ S, tyName m d = some S ∧ PySem.W.kitOne K (.type S) u = some b) ∨ (∃ C fs, d = .ins C fs ∧ ClsI K C ∧ PySem.W.kitOne K (.ref C) u = some b))
def dIsi (K : PySem.W.Frag) : DRC := fun ds m Q => ∃ d c b, ds = [d, c] ∧ IsiD K m d c b ∧ Q (.bl b) m
theorem cd_isi : CallD K (rIsi K) (dIsi K) := by
  intro G H F m ds vs QD Q r ps t k
  obtain ⟨d, c, b, rfl, ⟨u, hc, hd⟩, t⟩ := t
  obtain ⟨v, w, rfl, p, q⟩ := rps2 ps
  have cv : ClsV w u := by
    rcases hc with ⟨T, rfl, rfl⟩ | ⟨C, rfl, rfl⟩
    · cases q; exact .ty T
    · cases q; exact .own C
  rcases hd with ⟨S, e, hk⟩ | ⟨C, fs, rfl, I, hk⟩
  · exact ⟨v, w, .type S, u, b, rfl, cv, ty_ok r p e, hk, k.here r (.bl _) t⟩
  · cases p with | ins h1 r1 =>
    exact ⟨_, w, .ref C, u, b, rfl, cv, .base (.ins (r.ext _ _ h1) I.cl I.ha I.hn I.tk I.hm), hk, k.here r (.bl _) t⟩
end
end DL

set_option Elab.async false
set_option linter.all false
set_option maxRecDepth 100000
set_option maxHeartbeats 4000000
namespace DL
open PySem PySem.Spec PyProof.Rows L2

structure DEnds where
  nx : DSt → M → Prop
  rt : D → M → Prop
  bk : DSt → M → Prop := fun _ _ => False
  ct : DSt → M → Prop := fun _ _ => False
abbrev DTS := DEnds → DSt → M → Prop
def Ks (K : PySem.W.Frag) (G F : Hp) (QD : DSt → M → Prop) (Q : L2.St → Hp → Prop) : Prop := ∀ (G' H' : Hp) (m' : M) (r' : DSt) (s' : L2.St), Same G G' → Rep K G' H' F m' → Rs K G' r' s' → QD r' m' → Q s' H'
theorem Ks.mono {K : PySem.W.Frag} {G G' F : Hp} {QD : DSt → M → Prop} {Q : L2.St → Hp → Prop} (e : Same G G') (h : Ks K G F QD Q) : Ks K G' F QD Q := fun G2 H2 m2 r2 s2 e2 => h G2 H2 m2 r2 s2 (e.trans e2)
structure Lk (K : PySem.W.Frag) (G F : Hp) (DD : DEnds) (E : Ends) : Prop where
  nx : Ks K G F DD.nx E.nx
  rt : Kv K G F DD.rt E.rt
  bk : Ks K G F DD.bk E.bk
  ct : Ks K G F DD.ct E.ct
theorem Lk.mono {K : PySem.W.Frag} {G G' F : Hp} {DD : DEnds} {E : Ends} (e : Same G G') (h : Lk K G F DD E) : Lk K G' F DD E := ⟨h.nx.mono e, h.rt.mono e, h.bk.mono e, h.ct.mono e⟩
def upS (K : PySem.W.Frag) (W : WX) (WD : DWX) (t : DTS) : TS := fun E σ H => ∃ (G F : Hp) (r : DSt) (m : M) (DD : DEnds), Sx K W WD G H F r σ m ∧ t DD r m ∧ Lk K G F DD E
abbrev DS (X : Cx) (W : WX) (WD : DWX) (st : Stmt) (t : DTS) : Prop := PS X st (upS X.K W WD t)
abbrev DSs (X : Cx) (W : WX) (WD : DWX) (st : List Stmt) (t : DTS) : Prop := PSs X st (upS X.K W WD t)
theorem PS.imp {X : Cx} {st : Stmt} {t t' : TS} (h : PS X st t) (i : ∀ E σ H, t' E σ H → t E σ H) : PS X st t' := ⟨fun pins s σ H D I q => h.run pins s σ H D I (i D σ H q)⟩
theorem PSs.imp {X : Cx} {st : List Stmt} {t t' : TS} (h : PSs X st t) (i : ∀ E σ H, t' E σ H → t E σ H) : PSs X st t' := ⟨fun pins s σ H D I q => h.run pins s σ H D I (i D σ H q)⟩
theorem Sx.to {K : PySem.W.Frag} {W : WX} {WD : DWX} {G G' H H' F : Hp} {r r' : DSt} {s s' : L2.St} {m m' : M} (x : Sx K W WD G H F r s m) (e : Same G G') (h : Rep K G' H' F m') (q : Rs K G' r' s') : Sx K W WD G' H' F r' s' m' := ⟨h, q, x.lx.mono e⟩
def dNext : DTS := fun DD r m => DD.nx r m
def dSeq (t u : DTS) : DTS := fun DD r m => t { DD with nx := u DD } r m
section
variable {X : Cx} {W : WX} {WD : DWX} {st : Stmt} {rest : List Stmt} {t u : DTS} {e : Expr} {te : DTE} {pos : Pos}
theorem dss_nil : DSs X W WD [] dNext := by
  refine PSs.imp pss_nil fun E σ H h => ?_
  obtain ⟨G, F, r, m, DD, x, t, k⟩ := h
  exact k.nx G H m r σ (Same.refl G) x.rep x.rs t
theorem dss_cons (h1 : DS X W WD st t) (h2 : DSs X W WD rest u) : DSs X W WD (st :: rest) (dSeq t u) := by
  refine PSs.imp (pss_cons h1 h2) fun E σ H h => ?_
  obtain ⟨G, F, r, m, DD, x, t, k⟩ := h
  exact ⟨G, F, r, m, { DD with nx := u DD }, x, t, ⟨fun G1 H1 m1 r1 s1 e1 p1 q1 t1 => ⟨G1, F, r1, m1, DD, x.to e1 p1 q1, t1, k.mono e1⟩, k.rt, k.bk, k.ct⟩⟩
theorem dss_one (h1 : DS X W WD st t) : DSs X W WD [st] t := pss_one h1
def dBreak : DTS := fun DD r m => DD.bk r m
def dCont : DTS := fun DD r m => DD.ct r m
def dDrop (te : DTE) : DTS := fun DD r m => te r m fun _ m1 => DD.nx r m1
theorem ds_expr (he : DE X W WD e te) (hs : swapsWith e none pos.line X.env = pure false := by rfl) : DS X W WD (.Expr e pos) (dDrop te) := by
  refine PS.imp (ps_expr he hs) fun E σ H h => ?_
  obtain ⟨G, F, r, m, DD, x, t, k⟩ := h
  exact ⟨G, F, r, m, _, x, t, fun G1 H1 m1 d v e1 p1 q1 t1 => k.nx G1 H1 m1 r σ e1 p1 (x.rs.mono e1) t1⟩
def dRet (te : DTE) : DTS := fun DD r m => te r m DD.rt
theorem ds_ret (he : DE X W WD e te) : DS X W WD (.Return (some e) pos) (dRet te) := by
  refine PS.imp (ps_ret he) fun E σ H h => ?_
  obtain ⟨G, F, r, m, DD, x, t, k⟩ := h
  exact ⟨G, F, r, m, _, x, t, k.rt⟩
def frzV (m : M) (d : D) (Q : D → M → Prop) : Prop := match d with
  | .ref a => (match m a with
    | some (.lst ds) => Q (.lst ds) (mdel m a)
    | some (.ins C fs) => Q (.ins C fs) (mdel m a)
    | _ => False)
  | _ => False
theorem frzV_ok {K : PySem.W.Frag} {G H F : Hp} {m : M} {d : D} {v : V} {QD : D → M → Prop} {Q : VK} (k : Kv K G F QD Q) (r : Rep K G H F m) (p : Rp K G d v) (t : frzV m d QD) : Q v H := by
  cases d with
  | ref a =>
    cases p
    dsimp only [frzV] at t
    cases q : m a with
    | none => rw [q] at t; exact t.elim
    | some o =>
      rw [q] at t
      cases o with
      | lst ds =>
        obtain ⟨G', e, r', p'⟩ := r.freeze q
        exact k G' H _ _ _ e r' p' t
      | ins C fs =>
        obtain ⟨G', e, r', p'⟩ := r.freezeI q
        exact k G' H _ _ _ e r' p' t
      | _ => exact t.elim
  | _ => exact t.elim
def dFrzE (te : DTE) : DTE := fun r m Q => te r m fun d m1 => frzV m1 d Q
theorem de_frz (he : DE X W WD e te) : DE X W WD e (dFrzE te) := by
  refine PE.imp he fun σ H Q h => ?_
  obtain ⟨G, F, r, m, QD, x, t, k⟩ := h
  exact ⟨G, F, r, m, _, x, t, fun G1 H1 m1 d v e1 p1 q1 t1 => frzV_ok (k.mono e1) p1 q1 t1⟩
def dRetN : DTS := fun DD _ m => DD.rt .non m
theorem ds_retN : DS X W WD (.Return none pos) dRetN := by
  refine PS.imp ps_retN fun E σ H h => ?_
  obtain ⟨G, F, r, m, DD, x, t, k⟩ := h
  exact k.rt G H m _ _ (Same.refl G) x.rep .non t
def dIfS (c : DTT) (t u : DTS) : DTS := fun DD r m => c r m fun b m1 => if b = true then t DD r m1 else u DD r m1
theorem ds_if {c : Expr} {a b : List Stmt} {tc : DTT} (hc : DT X W WD c tc) (ha : DSs X W WD a t) (hb : DSs X W WD b u) : DS X W WD (.If c a b pos) (dIfS tc t u) := by
  refine PS.imp (ps_if hc ha hb) fun E σ H h => ?_
  obtain ⟨G, F, r, m, DD, x, t, k⟩ := h
  refine ⟨G, F, r, m, _, x, t, fun G1 H1 m1 b e1 p1 t1 => ?_⟩
  cases b with
  | true => exact ⟨G1, F, r, m1, DD, x.step e1 p1, t1, k.mono e1⟩
  | false => exact ⟨G1, F, r, m1, DD, x.step e1 p1, t1, k.mono e1⟩
def dFrz (i : Nat) (t : DTS) : DTS := fun DD r m => ∃ a ds, slot r i = some (.ref a) ∧ m a = some (.lst ds) ∧ t DD (r.set i (some (.lst ds))) (mdel m a)
theorem dss_frz (i : Nat) (h : DSs X W WD rest t) : DSs X W WD rest (dFrz i t) := by
  refine PSs.imp h fun E σ H h => ?_
  obtain ⟨G, F, r, m, DD, x, ⟨a, ds, e1, e2, t⟩, k⟩ := h
  obtain ⟨G', e, r', p'⟩ := x.rep.freeze e2
  obtain ⟨v, e3, pv⟩ := x.rs.at_ i _ (slot_get e1)
  cases pv
  refine ⟨G', F, _, _, DD, ⟨r', (x.rs.mono e).setG (fun v hv => ?_) ⟨_, e3⟩, x.lx.mono e⟩, t, k.mono e⟩
  rw [e3] at hv
  cases hv
  exact p'
end

abbrev DTG := D → DSt → M → (DSt → M → Prop) → Prop
abbrev DTGs := List D → DSt → M → (DSt → M → Prop) → Prop
def upG (K : PySem.W.Frag) (W : WX) (WD : DWX) (t : DTG) : TG := fun v σ H Q => ∃ (G F : Hp) (r : DSt) (m : M) (d : D) (QD : DSt → M → Prop), Sx K W WD G H F r σ m ∧ Rp K G d v ∧ t d r m QD ∧ Ks K G F QD Q
def upGs (K : PySem.W.Frag) (W : WX) (WD : DWX) (t : DTGs) : TGs := fun vs σ H Q => ∃ (G F : Hp) (r : DSt) (m : M) (ds : List D) (QD : DSt → M → Prop), Sx K W WD G H F r σ m ∧ Rps K G ds vs ∧ t ds r m QD ∧ Ks K G F QD Q
abbrev DG (X : Cx) (W : WX) (WD : DWX) (tg : Expr) (t : DTG) : Prop := PG X tg (upG X.K W WD t)
abbrev DGs (X : Cx) (W : WX) (WD : DWX) (ts : List Expr) (t : DTGs) : Prop := PGs X ts (upGs X.K W WD t)
theorem PG.imp {X : Cx} {tg : Expr} {t t' : TG} (h : PG X tg t) (i : ∀ v σ H Q, t' v σ H Q → t v σ H Q) : PG X tg t' := ⟨fun pins s σ H v u Q I r q => h.run pins s σ H v u Q I r (i v σ H Q q)⟩
theorem PGs.imp {X : Cx} {tg : List Expr} {t t' : TGs} (h : PGs X tg t) (i : ∀ v σ H Q, t' v σ H Q → t v σ H Q) : PGs X tg t' := ⟨fun pins s σ H v u Q I r q => h.run pins s σ H v u Q I r (i v σ H Q q)⟩
def gN (i : Nat) : DTG := fun d r m Q => Q (r.set i (some d)) m
def gsNil : DTGs := fun ds r m Q => ds = [] ∧ Q r m
def gsCons (t : DTG) (u : DTGs) : DTGs := fun ds r m Q => ∃ d rest, ds = d :: rest ∧ t d r m fun r1 m1 => u rest r1 m1 Q
def gT (n : Nat) (t : DTGs) : DTG := fun d r m Q => ∃ xs, sqOf m d = some xs ∧ xs.length = n ∧ t xs r m Q
theorem PG.either {X : Cx} {tg : Expr} {t t' : TG} (h : PG X tg t) (h' : PG X tg t') : PG X tg (fun v σ H Q => t v σ H Q ∨ t' v σ H Q) := ⟨fun pins s σ H v u Q I r q => by
  rcases q with q | q
  · exact h.run pins s σ H v u Q I r q
  · exact h'.run pins s σ H v u Q I r q⟩
section
variable {X : Cx} {W : WX} {WD : DWX} {pos : Pos}
theorem dg_name {i : Nat} {x : Str} (hN : X.N.Nodup) (hi : X.N[i]? = some x) (hx : Loc X.env.scope x) (hf : X.fn x = true ∨ X.env.scope.names.lookup x = some .local := by first | exact .inl rfl | exact .inr rfl | assumption) : DG X W WD (.Name x pos) (gN i) := by
  refine PG.imp (pg_name hN hi hx hf) fun v σ H Q h => ?_
  obtain ⟨G, F, r, m, d, QD, x, p, t, k⟩ := h
  exact k G H m _ _ (Same.refl G) x.rep (x.rs.set p) t
theorem dgs_nil : DGs X W WD [] gsNil := by
  refine PGs.imp pgs_nil fun v σ H Q h => ?_
  obtain ⟨G, F, r, m, d, QD, x, p, ⟨rfl, t⟩, k⟩ := h
  cases p
  exact ⟨rfl, k G H m _ _ (Same.refl G) x.rep x.rs t⟩
theorem dgs_cons {e : Expr} {es : List Expr} {t : DTG} {u : DTGs} (h1 : DG X W WD e t) (h2 : DGs X W WD es u)
    (hs : (assignEach (e :: es) X.env).map (·.2) = assign e X.env :: (assignEach es X.env).map (·.2) := by rfl) : DGs X W WD (e :: es) (gsCons t u) := by
  refine PGs.imp (pgs_cons h1 h2 hs) fun v σ H Q h => ?_
  obtain ⟨G, F, r, m, ds, QD, x, p, ⟨d, rest, rfl, t⟩, k⟩ := h
  cases p with | cons p1 p2 =>
  refine ⟨_, _, rfl, G, F, r, m, d, _, x, p1, t, fun G1 H1 m1 r1 s1 e1 q1 q2 t1 => ?_⟩
  exact ⟨G1, F, r1, m1, rest, QD, x.to e1 q1 q2, p2.mono e1, t1, k.mono e1⟩
theorem dg_tup {es : List Expr} {k : Nat} {t : DTGs} {n : Nat} (hc : X.calm = true) (h : DGs X W WD es t)
    (hn : (assignEach es X.env).length = n := by rfl) (hst : (assignEach es X.env).findIdx? (·.1) = none := by rfl) : DG X W WD (.Tuple es k pos) (gT n t) := by
  refine PG.imp (PG.either (pg_tup hc h hn hst) (pg_unl hc h hn hst)) fun v σ H Q h => ?_
  obtain ⟨G, F, r, m, d, QD, x, p, ⟨xs, e, hl, t⟩, k⟩ := h
  obtain ⟨a, vs, rfl, hs, r1⟩ := sq_ok x.rep p e
  rcases hs with hs | hs
  · exact .inr ⟨_, _, rfl, hs, by rw [← r1.length]; exact hl, G, F, r, m, xs, QD, x, r1, t, k⟩
  · exact .inl ⟨_, _, rfl, hs, by rw [← r1.length]; exact hl, G, F, r, m, xs, QD, x, r1, t, k⟩
def gSet (to ti : DTE) : DTG := fun v r m Q => to r m fun o m1 => ti r m1 fun i m2 => ∃ a xs k j, o = .ref a ∧ i = .int k ∧ m2 a = some (.lst xs) ∧ ixN xs.length k = some j ∧ Q r (mset m2 a (.lst (xs.set j v)))
theorem dg_sub {o i : Expr} {to ti : DTE} (ho : DE X W WD o to) (hi : DE X W WD i ti)
    (ha : ∀ v, assign (.Subscript o i pos) X.env v = (do
      let ov ← holding [v] (eval o X.env)
      let iv ← holding [v, ov] (eval i X.env)
      standAt pos
      holding [v, ov, iv] (setItem ov iv v)
      release [v, ov, iv] []) := by intro _; rfl) : DG X W WD (.Subscript o i pos) (gSet to ti) := by
  refine PG.imp (pg_sub ho hi set_list ha) fun v σ H Q h => ?_
  obtain ⟨G, F, r, m, d, QD, x, p, t, k⟩ := h
  refine ⟨G, F, r, m, _, x, t, fun G1 H1 m1 d1 v1 e1 r1 p1 t1 => ?_⟩
  refine ⟨G1, F, r, m1, _, x.step e1 r1, t1, fun G2 H2 m2 d2 v2 e2 r2 p2 t2 => ?_⟩
  obtain ⟨a, xs, kk, j, rfl, rfl, hm, hj, t3⟩ := t2
  cases p1; cases p2
  obtain ⟨_, _, u, h3, h4⟩ := r2.mo a _ hm
  obtain ⟨vs, rfl, h4⟩ := h4.ofLst
  refine ⟨a, vs, kk, j, rfl, rfl, h3, by rw [← h4.length]; exact hj, ?_⟩
  exact k G2 _ _ r σ (e1.trans e2) (r2.write hm (show RpM X.K G2 (.lst (xs.set j d)) (.lst (vs.set j v)) from h4.set (p.mono (e1.trans e2)) j)) (x.rs.mono (e1.trans e2)) t3
def dAsg (te : DTE) (g : DTG) : DTS := fun DD r m => te r m fun d m1 => g d r m1 DD.nx
theorem ds_asg {tg e : Expr} {te : DTE} {g : DTG} (he : DE X W WD e te) (hg : DG X W WD tg g) (hs : swapsWithSole [tg] e pos.line X.env = pure false := by rfl) (hw : swappedStores [tg] e X.env = pure none := by rfl)
    (h1 : (assignEach [tg] X.env).map (·.2) = [assign tg X.env] := by rfl) : DS X W WD (.Assign [tg] e pos) (dAsg te g) := by
  refine PS.imp (ps_asg he hg hs hw h1) fun E σ H h => ?_
  obtain ⟨G, F, r, m, DD, x, t, k⟩ := h
  exact ⟨G, F, r, m, _, x, t, fun G1 H1 m1 d v e1 p1 q1 t1 => ⟨G1, F, r, m1, d, _, x.step e1 p1, q1, t1, k.nx.mono e1⟩⟩
def dSet (i : Nat) (te : DTE) : DTS := fun DD r m => te r m fun d m1 => DD.nx (r.set i (some d)) m1
theorem ds_set {i : Nat} {x : Str} {e : Expr} {te : DTE} {pos' : Pos} (hN : X.N.Nodup) (hi : X.N[i]? = some x) (hx : Loc X.env.scope x) (he : DE X W WD e te) (hs : swapsWith e (some (.Name x pos')) pos.line X.env = pure false := by rfl) (hf : X.fn x = true ∨ X.env.scope.names.lookup x = some .local := by first | exact .inl rfl | exact .inr rfl | assumption) :
    DS X W WD (.Assign [.Name x pos'] e pos) (dSet i te) := by
  refine PS.imp (ps_set (i := i) hN hi hx he hs hf) fun E σ H h => ?_
  obtain ⟨G, F, r, m, DD, x, t, k⟩ := h
  exact ⟨G, F, r, m, _, x, t, fun G1 H1 m1 d v e1 p1 q1 t1 => k.nx G1 H1 m1 _ _ e1 p1 ((x.rs.mono e1).set q1) t1⟩
def dPar (i j : Nat) (ta : DTA) : DTS := fun DD r m => ta r m fun ds m1 => ∃ d e, ds = [d, e] ∧ DD.nx ((r.set i (some d)).set j (some e)) m1
def dAddI : DR2
  | .int i, .int j, m, Q => Q (.int (i + j)) m
  | _, _, _, _ => False
theorem od_addI {K : PySem.W.Frag} : OpD K (rI0 fun i j => .int (i + j)) dAddI := od_I0 (fun _ _ _ _ h => h) fun x y _ _ h => by
  cases x <;> cases y <;> first | exact ⟨_, _, rfl, rfl⟩ | exact h.elim
def dAug (i : Nat) (te : DTE) (rd : DR2) : DTS := fun DD r m => ∃ x, slot r i = some x ∧ te r m fun y m1 => rd x y m1 fun z m2 => DD.nx (r.set i (some z)) m2
theorem ds_aug {i : Nat} {x : Str} {e : Expr} {te : DTE} {op : Operator} {ri : R2} {rd : DR2} {pos' : Pos} (hN : X.N.Nodup) (hi : X.N[i]? = some x) (hx : Loc X.env.scope x) (he : DE X W WD e te) (ho : OpR X (inplaceOp op) ri) (hd : OpD X.K ri rd)
    (hf : X.fn x = true ∨ X.env.scope.names.lookup x = some .local := by first | exact .inl rfl | exact .inr rfl | assumption) :
    DS X W WD (.AugAssign (.Name x pos') op e pos) (dAug i te rd) := by
  refine PS.imp (ps_aug (i := i) (ti := ri) hN hi hx he (fun pins s σ H x y v u Q I rx ry q => ho pins s σ H x y v u Q I rx ry q) hf) fun E σ H h => ?_
  obtain ⟨G, F, r, m, DD, x, ⟨d0, e0, t⟩, k⟩ := h
  obtain ⟨v0, e1, p0⟩ := x.rs.at_ i _ (slot_get e0)
  refine ⟨v0, e1, G, F, r, m, _, x, t, fun G1 H1 m1 d v e1 p1 q1 t1 => ?_⟩
  refine hd G1 H1 F m1 d0 d v0 v _ _ p1 (p0.mono e1) q1 t1 fun G2 H2 m2 z vz e2 p2 q2 t2 => ?_
  exact k.nx G2 H2 m2 _ _ (e1.trans e2) p2 ((x.rs.mono (e1.trans e2)).set q2) t2
end
end DL

set_option Elab.async false
set_option linter.all false
set_option maxRecDepth 100000
set_option maxHeartbeats 4000000
namespace DL
open PySem PySem.Spec PyProof.Rows L2

structure ItD (K : PySem.W.Frag) (J : It) (G : Hp) (ds : List D) : Prop where
  stop : ∀ H, Same G H → J.stop ds.length H
  go : ∀ i H, i < ds.length → Same G H → J.go i H
  yld : ∀ (i : Nat) (G1 H F : Hp) (m : M) (x : V) (H' : Hp) (d : D), Same G G1 → Rep K G1 H F m → ds[i]? = some d → J.yld i H x H' → ∃ G2, Same G1 G2 ∧ Rep K G2 H' F m ∧ Rp K G2 d x
abbrev DTI := DSt → M → (List D → M → Prop) → Prop
def upI (K : PySem.W.Frag) (W : WX) (WD : DWX) (t : DTI) : TI := fun σ H R => ∃ (G F : Hp) (r : DSt) (m : M) (QD : List D → M → Prop), Sx K W WD G H F r σ m ∧ t r m QD ∧ ∀ G' H' m' ds J, Same G G' → Rep K G' H' F m' → ItD K J G' ds → QD ds m' → R J H'
abbrev DI (X : Cx) (W : WX) (WD : DWX) (tg iter : Expr) (t : DTI) : Prop := PI X tg iter (upI X.K W WD t)
theorem PI.imp {X : Cx} {tg iter : Expr} {t t' : TI} (h : PI X tg iter t) (i : ∀ σ H R, t' σ H R → t σ H R) : PI X tg iter t' := ⟨fun pins s σ H R I q => h.run pins s σ H R I (i σ H R q)⟩
section
variable {X : Cx} {W : WX} {WD : DWX} {tg : Expr}
def rngD (lo : Int) (n : Nat) : List D := (List.range n).map fun (k : Nat) => D.int (lo + (k : Int))
theorem rngD_len (lo : Int) (n : Nat) : (rngD lo n).length = n := by simp [rngD]
theorem rngD_at {lo : Int} {n i : Nat} {d : D} (h : (rngD lo n)[i]? = some d) : d = .int (lo + (i : Int)) ∧ i < n := by
  unfold rngD at h
  rw [List.getElem?_map] at h
  by_cases hi : i < n
  · rw [List.getElem?_range hi] at h
    cases h
    exact ⟨rfl, hi⟩
  · rw [List.getElem?_eq_none (by simp; omega)] at h
    cases h
theorem it_list {K : PySem.W.Frag} {G : Hp} {a : Addr} {vs : List V} {ds : List D} (h : SqL K G a vs) (r : Rps K G ds vs) : ItD K (Itl K a) G ds where
  stop := fun H e => ⟨vs, e.seq h, by rw [r.length]; exact Nat.le_refl _⟩
  go := fun i H hi e => by
    have hv : i < vs.length := by rw [← r.length]; exact hi
    exact ⟨vs, vs[i], e.seq h, by simp [hv]⟩
  yld := fun i G1 H F m x H' d e rep hd y => by
    obtain ⟨rfl, y⟩ := y
    obtain ⟨v, h1, h2⟩ := r.get hd
    have q := y vs ((e.trans rep.ext).seq h)
    rw [h1] at q
    cases q
    exact ⟨G1, Same.refl G1, rep, h2.mono e⟩
theorem it_tup {K : PySem.W.Frag} {G : Hp} {a : Addr} {vs : List V} {ds : List D} (h : SqT K G a vs) (r : Rps K G ds vs) : ItD K (Itt K a) G ds where
  stop := fun H e => ⟨vs, same_sqt e h, by rw [r.length]; exact Nat.le_refl _⟩
  go := fun i H hi e => by
    have hv : i < vs.length := by rw [← r.length]; exact hi
    exact ⟨vs, vs[i], same_sqt e h, by simp [hv]⟩
  yld := fun i G1 H F m x H' d e rep hd y => by
    obtain ⟨rfl, y⟩ := y
    obtain ⟨v, h1, h2⟩ := r.get hd
    have q := y vs (same_sqt (e.trans rep.ext) h)
    rw [h1] at q
    cases q
    exact ⟨G1, Same.refl G1, rep, h2.mono e⟩
theorem it_rng {K : PySem.W.Frag} {G : Hp} (lo : Int) (n : Nat) : ItD K (Itr lo n) G (rngD lo n) where
  stop := fun H e => by rw [rngD_len]; exact Nat.le_refl _
  go := fun i H hi e => by rw [rngD_len] at hi; exact hi
  yld := fun i G1 H F m x H' d e rep hd y => by
    obtain ⟨rfl, rfl⟩ := y
    obtain ⟨rfl, _⟩ := rngD_at hd
    exact ⟨G1, Same.refl G1, rep, .int _⟩
def diL (te : DTE) : DTI := fun r m Q => te r m fun d m1 => match d with
  | .lst xs => Q xs m1
  | .rdl xs => Q xs m1
  | _ => False
theorem di_list {l : Expr} {te : DTE} (hl : DE X W WD l te) : DI X W WD tg l (diL te) := by
  refine PI.imp (pi_list hl) fun σ H R h => ?_
  obtain ⟨G, F, r, m, QD, x, t, k⟩ := h
  refine ⟨G, F, r, m, _, x, t, fun G1 H1 m1 d1 v1 e1 r1 p1 t1 => ?_⟩
  cases d1 with
  | lst xs => cases p1 with | lst h1 q1 => exact ⟨_, rfl, ⟨_, SqL.of (r1.ext _ _ h1)⟩, k G1 H1 m1 xs _ e1 r1 (it_list (SqL.of h1) q1) t1⟩
  | rdl xs => cases p1 with | rdl h1 q1 => exact ⟨_, rfl, ⟨_, r1.ext.seq h1⟩, k G1 H1 m1 xs _ e1 r1 (it_list h1 q1) t1⟩
  | _ => exact t1.elim
def diT (te : DTE) : DTI := fun r m Q => te r m fun d m1 => match d with
  | .tup xs => Q xs m1
  | _ => False
def diR1 (ta : DTA) : DTI := fun r m Q => ta r m fun ds m1 => ∃ j : Int, ds = [.int j] ∧ (-(2 ^ 62) ≤ j ∧ j < 2 ^ 62) ∧ Q (rngD 0 j.toNat) m1
theorem di_range1 {a : Expr} {ta : DTA} {p pos : Pos} (hg : Gl X "range") (hm : X.mg "range" = none) (ha : DA X W WD [a] ta) (hs : starEach [a] X.env = [(false, eval a X.env)] := by rfl) : DI X W WD tg (.Call (.Name "range" p) [a] [] pos) (diR1 ta) := by
  refine PI.imp (pi_range1 hg hm ha hs) fun σ H R h => ?_
  obtain ⟨G, F, r, m, QD, x, t, k⟩ := h
  refine ⟨G, F, r, m, _, x, t, fun G1 H1 m1 ds vs e1 r1 p1 t1 => ?_⟩
  obtain ⟨j, rfl, ⟨h1, h2⟩, t2⟩ := t1
  obtain ⟨v, rfl, q⟩ := rps1 p1
  cases q
  exact ⟨j, rfl, h1, h2, k G1 H1 m1 _ _ e1 r1 (it_rng 0 j.toNat) t2⟩
def diR2 (ta : DTA) : DTI := fun r m Q => ta r m fun ds m1 => ∃ i j : Int, ds = [.int i, .int j] ∧ (-(2 ^ 62) ≤ i ∧ i < 2 ^ 62 ∧ -(2 ^ 62) ≤ j ∧ j < 2 ^ 62) ∧ Q (rngD i (j - i).toNat) m1
end

def dLoopI (g : DTG) (tb : DTS) (ds : List D) : DTS := fun DD r m => ∃ P : Nat → DSt → M → Prop, P 0 r m ∧ (∀ (i : Nat) (d : D) (r : DSt) (m : M), ds[i]? = some d → P i r m → g d r m fun r2 m2 => tb { DD with nx := P (i + 1), ct := P (i + 1), bk := DD.nx } r2 m2) ∧ ∀ r m, P ds.length r m → DD.nx r m
def dFor (ti : DTI) (g : DTG) (tb : DTS) : DTS := fun DD r m => ti r m fun ds m1 => dLoopI g tb ds DD r m1
section
variable {X : Cx} {W : WX} {WD : DWX} {tg iter : Expr} {body : List Stmt} {ti : DTI} {g : DTG} {tb : DTS} {pos : Pos}
theorem ds_for (hp : PassesOwn (model X.prog X.w) X.A X.env X.xe) (hc : X.calm = true) (hi : DI X W WD tg iter ti) (hg : DG X W WD tg g) (hb : DSs X W WD body tb)
    (hs : ∀ x, foldedSetIterable iter X.env x = pure x := by intro _; rfl) : DS X W WD (.For tg iter body [] pos) (dFor ti g tb) := by
  refine PS.imp (ps_for hp hc hi hg hb hs) fun E σ H h => ?_
  obtain ⟨G, F, r, m, DD, x, t, k⟩ := h
  refine ⟨G, F, r, m, _, x, t, fun G1 H1 m1 ds J e1 r1 it t1 => ?_⟩
  obtain ⟨P, p0, turn, done⟩ := t1
  refine ⟨fun i n σ H => n = ds.length - i ∧ i ≤ ds.length ∧ ∃ G2 r2 m2, Same G1 G2 ∧ Sx X.K W WD G2 H F r2 σ m2 ∧ P i r2 m2, ⟨ds.length, rfl, Nat.zero_le _, G1, r, m1, Same.refl G1, x.step e1 r1, p0⟩, ?_⟩
  rintro i n σ2 H2 ⟨rfl, hi, G2, r2, m2, e2, x2, p2⟩
  by_cases hlt : i < ds.length
  · have hd : ds[i]? = some ds[i] := by simp [hlt]
    refine .inr ⟨it.go i H2 hlt (e2.trans x2.rep.ext), fun σ3 H3 => ∃ G3 r3 m3, Same G1 G3 ∧ Sx X.K W WD G3 H3 F r3 σ3 m3 ∧ P (i + 1) r3 m3, fun σ3 H3 h3 => ⟨ds.length - (i + 1), by omega, rfl, hlt, h3⟩, fun v H3 y => ?_⟩
    obtain ⟨G3, e3, rep3, p3⟩ := it.yld i G2 H2 F m2 v H3 ds[i] e2 x2.rep hd y
    refine ⟨G3, F, r2, m2, ds[i], _, x2.step e3 rep3, p3, turn i ds[i] r2 m2 hd p2, fun G4 H4 m4 r4 s4 e4 rep4 rs4 t4 => ?_⟩
    have e14 : Same G1 G4 := (e2.trans e3).trans e4
    refine ⟨G4, F, r4, m4, _, x2.to (e3.trans e4) rep4 rs4, t4, ⟨fun G5 H5 m5 r5 s5 e5 rep5 rs5 t5 => ?_, k.rt.mono (e1.trans e14), k.nx.mono (e1.trans e14), fun G5 H5 m5 r5 s5 e5 rep5 rs5 t5 => ?_⟩⟩
    · exact ⟨G5, r5, m5, e14.trans e5, x2.to ((e3.trans e4).trans e5) rep5 rs5, t5⟩
    · exact ⟨G5, r5, m5, e14.trans e5, x2.to ((e3.trans e4).trans e5) rep5 rs5, t5⟩
  · have e : i = ds.length := by omega
    subst e
    exact .inl ⟨it.stop H2 (e2.trans x2.rep.ext), k.nx G2 H2 m2 r2 σ2 (e1.trans e2) x2.rep x2.rs (done r2 m2 p2)⟩
end

inductive CT where
  | one (i : Nat)
  | tup (js : List Nat)
def setAll : DSt → List Nat → List D → Option DSt
  | r, [], [] => some r
  | r, j :: js, d :: ds => setAll (r.set j (some d)) js ds
  | _, _, _ => none
def ctD : CT → D → DSt → Option DSt
  | .one i, d, r => some (r.set i (some d))
  | .tup js, .tup ds, r => setAll r js ds
  | _, _, _ => none
def gNames : List Nat → TGs
  | [] => gNil
  | j :: js => gCons (gName j) (gNames js)
def ctG (K : PySem.W.Frag) : CT → TG
  | .one i => gName i
  | .tup js => gTup K js.length (gNames js)
def CT.in (vs : List Nat) : CT → Prop
  | .one i => i ∈ vs
  | .tup js => ∀ j ∈ js, j ∈ vs
theorem wipe_set (σ : L2.St) (j : Nat) (v : Option V) : ∀ vs : List Nat, j ∈ vs → wipe (σ.set j v) vs = wipe σ vs
  | [], h => nomatch h
  | k :: vs, h => by
    show (wipe (σ.set j v) vs).set k none = (wipe σ vs).set k none
    by_cases hk : j ∈ vs
    · rw [wipe_set σ j v vs hk]
    · have e : j = k := by
        rcases List.mem_cons.mp h with h | h
        · exact h
        · exact absurd h hk
      subst e
      have comm : ∀ (vs : List Nat) (σ : L2.St), j ∉ vs → wipe (σ.set j v) vs = (wipe σ vs).set j v := by
        intro vs
        induction vs with
        | nil => intro σ _; rfl
        | cons a vs ih =>
          intro σ hn
          show (wipe (σ.set j v) vs).set a none = ((wipe σ vs).set a none).set j v
          rw [ih σ (fun z => hn (List.mem_cons_of_mem _ z))]
          exact List.set_comm _ _ (fun z => hn (by rw [z]; exact List.mem_cons_self))
      rw [comm vs σ hk, List.set_set]
theorem wipe_wipe (σ : L2.St) : ∀ vs ws : List Nat, (∀ j ∈ vs, j ∈ ws) → wipe (wipe σ vs) ws = wipe σ ws
  | [], _, _ => rfl
  | k :: vs, ws, h => by
    show wipe ((wipe σ vs).set k none) ws = wipe σ ws
    rw [wipe_set _ k none ws (h k List.mem_cons_self), wipe_wipe σ vs ws fun j hj => h j (List.mem_cons_of_mem _ hj)]
def wipeD (r : DSt) : List Nat → DSt
  | [] => r
  | v :: vs => (wipeD r vs).set v none
theorem rs_none {K : PySem.W.Frag} {G : Hp} {r : DSt} {s : L2.St} (h : Rs K G r s) (i : Nat) (v : Option V) : Rs K G (r.set i none) (s.set i v) := ⟨by simp [h.len], fun j e hj => by
  by_cases hi : i = j
  · subst hi
    by_cases hl : i < r.length
    · rw [List.getElem?_set_self hl] at hj
      cases hj
    · rw [List.getElem?_eq_none (by simp; omega)] at hj
      cases hj
  · rw [List.getElem?_set_ne hi] at hj ⊢
    exact h.at_ j e hj⟩
theorem rs_wipe {K : PySem.W.Frag} {G : Hp} {r : DSt} {s : L2.St} (h : Rs K G r s) : ∀ vs : List Nat, Rs K G (wipeD r vs) (wipe s vs)
  | [] => h
  | v :: vs => rs_none (rs_wipe h vs) v none
theorem names_ok {K : PySem.W.Frag} {G : Hp} {vs : List Nat} {H : Hp} {Q : L2.St → Hp → Prop} {s0 : L2.St} : ∀ {js : List Nat} {r r2 : DSt} {s : L2.St} {ds : List D} {us : List V}, (∀ j ∈ js, j ∈ vs) → Rs K G r s → Rps K G ds us → setAll r js ds = some r2 → wipe s vs = s0 →
    (∀ s2, Rs K G r2 s2 → wipe s2 vs = s0 → Q s2 H) → gNames js us s H Q
  | [], r, r2, s, [], us, _, rs, p, e, w, k => by
    cases p; cases e
    exact ⟨rfl, k s rs w⟩
  | [], r, r2, s, d :: ds, us, _, rs, p, e, w, k => by cases e
  | j :: js, r, r2, s, [], us, _, rs, p, e, w, k => by cases e
  | j :: js, r, r2, s, d :: ds, us, hj, rs, p, e, w, k => by
    cases p with | cons p1 p2 =>
    refine ⟨_, _, rfl, ?_⟩
    exact names_ok (r2 := r2) (fun i hi => hj i (List.mem_cons_of_mem _ hi)) (rs.set p1) p2 e (by rw [wipe_set _ _ _ _ (hj j List.mem_cons_self)]; exact w) k
theorem setAll_len : ∀ {js : List Nat} {ds : List D} {r r2 : DSt}, setAll r js ds = some r2 → ds.length = js.length
  | [], [], _, _, _ => rfl
  | [], _ :: _, _, _, e => by cases e
  | _ :: _, [], _, _, e => by cases e
  | j :: js, d :: ds, r, r2, e => congrArg Nat.succ (setAll_len (js := js) (ds := ds) e)
theorem ct_ok {K : PySem.W.Frag} {G : Hp} {vs : List Nat} {H : Hp} {Q : L2.St → Hp → Prop} {c : CT} {r r2 : DSt} {s : L2.St} {d : D} {v : V} (hc : c.in vs) (rs : Rs K G r s) (p : Rp K G d v) (e : ctD c d r = some r2) (sm : Same G H)
    (k : ∀ s2, Rs K G r2 s2 → wipe s2 vs = wipe s vs → Q s2 H) : ctG K c v s H Q := by
  cases c with
  | one i =>
    cases e
    exact k _ (rs.set p) (wipe_set _ _ _ _ hc)
  | tup js =>
    cases d with
    | tup ds =>
      cases p with | tup h1 r1 =>
      exact ⟨_, _, rfl, same_sqt sm h1, by rw [← r1.length]; exact setAll_len e, names_ok hc rs r1 e rfl k⟩
    | _ => cases e
def dLcL (c : CT) (vs : List Nat) (tt : DTT) (te : DTE) : List D → List D → DSt → M → (List D → M → Prop) → Prop
  | [], acc, _, m, Q => Q acc m
  | x :: xs, acc, r, m, Q => ∃ r2, ctD c x (wipeD r vs) = some r2 ∧ tt r2 m fun b m1 => if b = true then te r2 m1 fun y m2 => acc.length < sizeLine ∧ dLcL c vs tt te xs (acc ++ [y]) r m2 Q else dLcL c vs tt te xs acc r m1 Q
def dLc (mt : Bool) (ti : DTI) (c : CT) (vs : List Nat) (tt : DTT) (te : DTE) : DTE := fun r m Q => ti r m fun ds m1 => dLcL c vs tt te ds [] r m1 fun acc m2 => mkL mt acc m2 Q
theorem lc_pure {c : CT} {vs : List Nat} {te : DTE} {r : DSt} {m : M} (f : D → D) : ∀ {xs acc : List D} {Q : List D → M → Prop}, acc.length + xs.length ≤ sizeLine → (∀ x ∈ xs, ∃ r2, ctD c x (wipeD r vs) = some r2 ∧ ∀ Q' : D → M → Prop, Q' (f x) m → te r2 m Q') → Q (acc ++ xs.map f) m → dLcL c vs (fun _ m Q => Q true m) te xs acc r m Q
  | [], acc, Q, _, _, q => by
    show Q acc m
    rw [List.map_nil, List.append_nil] at q
    exact q
  | x :: xs, acc, Q, hz, h, q => by
    obtain ⟨r2, e, t⟩ := h x List.mem_cons_self
    have hz' : acc.length + (xs.length + 1) ≤ sizeLine := hz
    refine ⟨r2, e, ?_⟩
    show (if true = true then _ else _)
    rw [if_pos rfl]
    refine t _ ⟨by omega, lc_pure f (by rw [List.length_append]; simp; omega) (fun y hy => h y (List.mem_cons_of_mem _ hy)) ?_⟩
    rw [List.append_assoc]
    exact q
theorem lc_filter {c : CT} {vs : List Nat} {tt : DTT} {te : DTE} {r : DSt} {m : M} (p : D → Bool) (f : D → D) : ∀ {xs acc : List D} {Q : List D → M → Prop}, acc.length + xs.length ≤ sizeLine →
    (∀ x ∈ xs, ∃ r2, ctD c x (wipeD r vs) = some r2 ∧ (∀ Q' : Bool → M → Prop, Q' (p x) m → tt r2 m Q') ∧ (p x = true → ∀ Q' : D → M → Prop, Q' (f x) m → te r2 m Q')) → Q (acc ++ (xs.filter p).map f) m → dLcL c vs tt te xs acc r m Q
  | [], acc, Q, _, _, q => by
    show Q acc m
    rw [List.filter_nil, List.map_nil, List.append_nil] at q
    exact q
  | x :: xs, acc, Q, hz, h, q => by
    obtain ⟨r2, e, t, u⟩ := h x List.mem_cons_self
    have hz' : acc.length + (xs.length + 1) ≤ sizeLine := hz
    refine ⟨r2, e, t _ ?_⟩
    rw [List.filter_cons] at q
    cases hp : p x with
    | true =>
      rw [if_pos rfl]
      rw [hp, if_pos rfl] at q
      refine u hp _ ⟨by omega, lc_filter p f (by rw [List.length_append]; simp; omega) (fun y hy => h y (List.mem_cons_of_mem _ hy)) ?_⟩
      rw [List.append_assoc]
      exact q
    | false =>
      rw [if_neg Bool.false_ne_true]
      rw [hp, if_neg Bool.false_ne_true] at q
      exact lc_filter p f (by omega) (fun y hy => h y (List.mem_cons_of_mem _ hy)) q
section
variable {X : Cx} {W : WX} {WD : DWX}
abbrev DTs (X : Cx) (W : WX) (WD : DWX) (ifs : List Expr) (t : DTT) : Prop := PTs X ifs (upT X.K W WD t)
theorem PTs.imp {ifs : List Expr} {t t' : TT} (h : PTs X ifs t) (i : ∀ σ H Q, t' σ H Q → t σ H Q) : PTs X ifs t' := ⟨fun pins s σ H Q I q => h.run pins s σ H Q I (i σ H Q q)⟩
def dYes : DTT := fun _ m Q => Q true m
theorem dts_nil : DTs X W WD [] dYes := by
  refine PTs.imp pts_nil fun σ H Q h => ?_
  obtain ⟨G, F, ρ, m, QD, x, t, k⟩ := h
  exact k G H m true (Same.refl G) x.rep t
theorem dts_one {c : Expr} {t : DTT} (h : DT X W WD c t) : DTs X W WD [c] t := pts_one h
abbrev W0 : WX := fun _ _ _ _ => False
abbrev WD0 : DWX := fun _ _ _ => False
theorem lc_up {K : PySem.W.Frag} {ti : DTI} {c : CT} {vs : List Nat} {tt : DTT} {te : DTE} {mt : Bool} {σ : L2.St} {H : Hp} {Q : VK} (hc : c.in vs) (h : up K W WD (dLc mt ti c vs tt te) σ H Q) : tLc (upI K W WD ti) (ctG K c) (upT K W0 WD0 tt) (up K W0 WD0 te) vs σ H Q := by
  obtain ⟨G, F, r, m, QD, x, t, k⟩ := h
  refine ⟨G, F, r, m, _, x, t, fun G1 H1 m1 ds J e1 r1 it t1 => ?_⟩
  intro Dl hD
  have hF : F Dl = none := r1.frm.free hD
  refine ⟨fun i n H => n = ds.length - i ∧ i ≤ ds.length ∧ ∃ G2 m2 acc va, Same G1 G2 ∧ Rep K G2 H (upd F Dl (.lst va)) m2 ∧ Rps K G2 acc va ∧ dLcL c vs tt te (ds.drop i) acc r m2 (fun acc m => mkL mt acc m QD), ⟨ds.length, rfl, Nat.zero_le _, G1, m1, [], [], Same.refl G1, r1.hide hD, .nil, t1⟩, ?_⟩
  rintro i n H2 ⟨rfl, hi, G2, m2, acc, va, e2, rep2, ra, t2⟩
  by_cases hlt : i < ds.length
  · have hdrop : ds.drop i = ds[i] :: ds.drop (i + 1) := (List.getElem_cons_drop hlt).symm
    rw [hdrop] at t2
    obtain ⟨r2, ec, t2⟩ := t2
    refine .inr ⟨it.go i H2 hlt (e2.trans rep2.ext), fun H3 => ∃ G3 m3 acc va, Same G1 G3 ∧ Rep K G3 H3 (upd F Dl (.lst va)) m3 ∧ Rps K G3 acc va ∧ dLcL c vs tt te (ds.drop (i + 1)) acc r m3 (fun acc m => mkL mt acc m QD), fun H3 h3 => ⟨ds.length - (i + 1), by omega, rfl, hlt, h3⟩, fun v H3 y => ?_⟩
    obtain ⟨G3, e3, rep3, p3⟩ := it.yld i G2 H2 _ m2 v H3 ds[i] e2 rep2 (by simp [hlt]) y
    have e03 : Same G G3 := (e1.trans e2).trans e3
    refine ct_ok hc (rs_wipe (x.rs.mono e03) vs) p3 ec rep3.ext fun s2 rs2 w2 => ?_
    refine ⟨w2.trans (wipe_wipe σ vs vs fun _ h => h), G3, _, r2, m2, _, ⟨rep3, rs2, Lx.no⟩, t2, fun G4 H4 m4 b e4 rep4 t4 => ?_⟩
    cases b with
    | false => exact ⟨G4, m4, acc, va, (e2.trans e3).trans e4, rep4, ra.mono (e3.trans e4), t4⟩
    | true =>
      refine ⟨G4, _, r2, m4, _, ⟨rep4, rs2.mono e4, Lx.no⟩, t4, fun G5 H5 m5 d v e5 rep5 p5 t5 => ?_⟩
      have ra5 := ra.mono ((e3.trans e4).trans e5)
      exact ⟨va, rep5.frm Dl _ upd_same, by rw [← ra5.length]; exact t5.1, G5, m5, acc ++ [d], va ++ [v], ((e2.trans e3).trans e4).trans e5, rep5.turn, ra5.append (.cons p5 .nil), t5.2⟩
  · have e : i = ds.length := by omega
    subst e
    rw [List.drop_length] at t2
    refine .inl ⟨it.stop H2 (e2.trans rep2.ext), ?_⟩
    cases mt with
    | false =>
      obtain ⟨e3, rep3, p3⟩ := rep2.outL hF ra
      exact k _ H2 m2 _ _ ((e1.trans e2).trans e3) rep3 p3 t2
    | true =>
      obtain ⟨mp, rep3⟩ := rep2.outM hF ra
      exact k _ H2 _ _ _ (e1.trans e2) rep3 (.ref Dl) (t2 Dl mp)
theorem pg_ct1 {Y : Cx} {i : Nat} {x : Str} {pos : Pos} (hN : Y.N.Nodup) (hi : Y.N[i]? = some x) (hx : Loc Y.env.scope x) (hf : Y.fn x = true ∨ Y.env.scope.names.lookup x = some .local := by first | exact .inl rfl | exact .inr rfl | assumption) : PG Y (.Name x pos) (ctG Y.K (.one i)) := pg_name hN hi hx hf
theorem pg_ctT {Y : Cx} {es : List Expr} {js : List Nat} {k : Nat} {pos : Pos} (hc : Y.calm = true) (h : PGs Y es (gNames js)) (hn : (assignEach es Y.env).length = js.length := by rfl) (hst : (assignEach es Y.env).findIdx? (·.1) = none := by rfl) : PG Y (.Tuple es k pos) (ctG Y.K (.tup js)) := pg_tup hc h hn hst
theorem de_lc (mt : Bool) {elt tg iter : Expr} {ifs : List Expr} {scope : Scope} {own : List (Str × Nat)} {pos : Pos} {ti : DTI} {c : CT} {tt : DTT} {te : DTE} (hc : X.calm = true) (hN : X.N.Nodup) (hin : c.in (own.map (·.2))) (hi : DI X W WD tg iter ti) (ok : BlkOk X.N X.env.scope scope own)
    (hg : ∀ (s : Shared) (H : Hp) (C : Addr) (cl : List (Str × Addr)) (fp : List Addr), PG (X.blk s H scope (compEnvC scope cl C X.env) fp) tg (ctG X.K c)) (ht : ∀ (s : Shared) (H : Hp) (C : Addr) (cl : List (Str × Addr)) (fp : List Addr), DTs (X.blk s H scope (compEnvC scope cl C X.env) fp) W0 WD0 ifs tt)
    (he : ∀ (s : Shared) (H : Hp) (C : Addr) (cl : List (Str × Addr)) (fp : List Addr), DE (X.blk s H scope (compEnvC scope cl C X.env) fp) W0 WD0 elt te) (hs : ∀ x, foldedSetIterable iter X.env x = pure x := by intro _; rfl) :
    DE X W WD (.ListComp elt [⟨tg, iter, ifs, 0⟩] scope pos) (dLc mt ti c (own.map (·.2)) tt te) :=
  PE.imp (pe_lc hc hN hi ok hg ht he hs) fun _ _ _ h => lc_up hin h
theorem ds_setLc (mt : Bool) {i : Nat} {y : Str} {py : Pos} {elt tg iter : Expr} {ifs : List Expr} {scope : Scope} {own : List (Str × Nat)} {pos spos : Pos} {ti : DTI} {c : CT} {tt : DTT} {te : DTE} (hc : X.calm = true) (hN : X.N.Nodup) (hy : X.N[i]? = some y) (hyl : X.env.scope.names.lookup y = some .local)
    (hsw : swapsWith (.ListComp elt [⟨tg, iter, ifs, 0⟩] scope pos) (some (.Name y py)) spos.line X.env = pure true) (hin : c.in (own.map (·.2))) (hi : DI X W WD tg iter ti) (ok : BlkOk X.N X.env.scope scope own)
    (hg : ∀ (s : Shared) (H : Hp) (C : Addr) (cl : List (Str × Addr)) (fp : List Addr), PG (X.blk s H scope (compEnvC scope cl C X.env) fp) tg (ctG X.K c)) (ht : ∀ (s : Shared) (H : Hp) (C : Addr) (cl : List (Str × Addr)) (fp : List Addr), DTs (X.blk s H scope (compEnvC scope cl C X.env) fp) W0 WD0 ifs tt)
    (he : ∀ (s : Shared) (H : Hp) (C : Addr) (cl : List (Str × Addr)) (fp : List Addr), DE (X.blk s H scope (compEnvC scope cl C X.env) fp) W0 WD0 elt te) (hs : ∀ x, foldedSetIterable iter X.env x = pure x := by intro _; rfl) :
    DS X W WD (.Assign [.Name y py] (.ListComp elt [⟨tg, iter, ifs, 0⟩] scope pos) spos) (dSet i (dLc mt ti c (own.map (·.2)) tt te)) := by
  refine PS.imp (ps_setLc (tt := upT X.K W0 WD0 tt) (te := up X.K W0 WD0 te) hc hN hy hyl hsw hi ok hg ht he hs) fun E σ H h => ?_
  obtain ⟨G, F, r, m, DD, x, t, k⟩ := h
  have h2 : up X.K W WD (dLc mt ti c (own.map (·.2)) tt te) σ H (fun v H1 => E.nx (σ.set i (some v)) H1) := ⟨G, F, r, m, _, x, t, fun G1 H1 m1 d v e1 p1 q1 t1 => k.nx G1 H1 m1 _ _ e1 p1 ((x.rs.mono e1).set q1) t1⟩
  exact lc_up hin h2
end
end DL

set_option Elab.async false
set_option linter.all false
set_option maxRecDepth 100000
set_option maxHeartbeats 4000000
namespace DL
open PySem PySem.Spec PyProof.Rows L2

abbrev DSp := List D → M → (D → M → Prop) → (XD → M → Prop) → Prop
def liftSp (K : PySem.W.Frag) (sp : DSp) : Sp := fun vs H Q E => ∃ (G F : Hp) (m : M) (ds : List D) (QD : D → M → Prop) (ED : XD → M → Prop), Rep K G H F m ∧ Rps K G ds vs ∧ sp ds m QD ED ∧ Kv K G F QD Q ∧
  ∀ (G' H' : Hp) (m' : M) (C : Addr) (fs : List (Str × D)) (d : Option Addr), Same G G' → Rep K G' H' F m' → RpX K G' d fs → ED ⟨C, fs⟩ m' → E (.ref C) d H'
def startD (N : List Str) (ds : List D) : DSt := ds.map some ++ List.replicate (N.length - ds.length) none
theorem rs_start {K : PySem.W.Frag} {G : Hp} {N : List Str} {ds : List D} {vs : List V} (h : Rps K G ds vs) : Rs K G (startD N ds) (L2.start N vs) := by
  refine ⟨by simp [startD, L2.start, h.length], fun i d e => ?_⟩
  unfold startD at e
  unfold L2.start
  by_cases hi : i < ds.length
  · rw [List.getElem?_append_left (by simpa using hi), List.getElem?_map] at e
    cases q : ds[i]? with
    | none => rw [q] at e; cases e
    | some d2 =>
      rw [q] at e
      cases e
      obtain ⟨v, h1, h2⟩ := h.get q
      refine ⟨v, ?_, h2⟩
      rw [List.getElem?_append_left (by rw [List.length_map, ← h.length]; exact hi), List.getElem?_map, h1]
      rfl
  · rw [List.getElem?_append_right (by simpa using hi)] at e
    by_cases hj : i - ds.length < N.length - ds.length
    · rw [List.length_map, List.getElem?_replicate, if_pos hj] at e
      cases e
    · rw [List.length_map, List.getElem?_replicate, if_neg hj] at e
      cases e
section
variable {P : Program} {w : World} {K : PySem.W.Frag} {mg : Str → Option Value} {base : Heap} {x qual : Str} {params : Arguments} {body : List Stmt} {scope : Scope} {dvs : List V} {kws : List (Str × V)} {f : Addr} {fd : FuncData}
abbrev CXo (P : Program) (w : World) (K : PySem.W.Frag) (mg : Str → Option Value) (base : Heap) (N : List Str) (qual : Str) (scope : Scope) (f : Addr) (cdv : Value) (A : Around) (outer : List Env) (s : Shared) (H : Hp) (E : XK) : Cx := cxOf (L2.CX P w) P w K mg base N qual scope f cdv A outer s H E
abbrev WE0 (E : XK) : WX := fun cls d _ H => E cls d H
theorem fn_d {N ps : List Str} {k : Nat} {sp : DSp} (F : FunD K x qual params body scope dvs kws f fd) (S : FnScope N ps scope) (len : ∀ ds m Q E, sp ds m Q E → ds.length = ps.length) (t : DWX → DTS)
    (hb : ∀ (cdv : Value) (A : Around) (outer : List Env) (s : Shared) (H : Hp) (E : XK) (WD : DWX), Room k (A.deeper (envOfC qual scope s.heap.objs.size f cdv)) → Takes (CXo P w K mg base N qual scope f cdv A outer s H E) (WE0 E) →
      PassesOwn (model P w) (CXo P w K mg base N qual scope f cdv A outer s H E).A (CXo P w K mg base N qual scope f cdv A outer s H E).env (CXo P w K mg base N qual scope f cdv A outer s H E).xe → DSs (CXo P w K mg base N qual scope f cdv A outer s H E) (WE0 E) WD body (t WD))
    (pure_ : ∀ ds m Q E, sp ds m Q E → t (fun x _ m => E x m) { nx := fun _ m => Q .non m, rt := Q } (startD N ds) m) : FnOk P w K mg base (L2.CX P w) (k + 1) f fd ps (liftSp K sp) := by
  refine F.ok S (fun vs H Q E h => ?_) (fun cdv A outer s H vs Q E hr h => ?_)
  · obtain ⟨G, F, m, ds, QD, ED, rep, rs, hs, _⟩ := h
    rw [← rs.length]
    exact len ds m QD ED hs
  · obtain ⟨G, F, m, ds, QD, ED, rep, rs, hs, kv, kx⟩ := h
    refine ⟨_, hb cdv A outer s H E (fun x _ m => ED x m) hr (takes_of rfl rfl rfl rfl) (passes_of rfl), ?_⟩
    refine ⟨G, F, startD N ds, m, _, ⟨rep, rs_start rs, fun G' H' m' r' s' C fs d e r rs' rx wd => kx G' H' m' C fs d e r rx wd⟩, pure_ ds m QD ED hs, ⟨fun G' H' m' r' s' e r rs' q => kv G' H' m' _ _ e r .non q, kv, ?_, ?_⟩⟩
    · exact fun _ _ _ _ _ _ _ _ q => q.elim
    · exact fun _ _ _ _ _ _ _ _ q => q.elim
end

def dCall (sp : DSp) (WD : DWX) (dds : List D) (t : DTA) : DTE := fun r m Q => t r m fun ds m1 => sp (ds ++ dds) m1 Q fun x m2 => WD x r m2
theorem lift_call {K : PySem.W.Frag} {W : WX} {WD : DWX} {G H F : Hp} {r : DSt} {σ : L2.St} {m : M} {sp : DSp} {ds : List D} {vs : List V} {QD : D → M → Prop} {Q : VK} (x : Sx K W WD G H F r σ m) (rs : Rps K G ds vs) (t : sp ds m QD fun x m2 => WD x r m2) (k : Kv K G F QD Q) : liftSp K sp vs H Q (WE W σ) :=
  ⟨G, F, m, ds, QD, _, x.rep, rs, t, k, fun G' H' m' C fs d e r' rx wd => x.lx G' H' m' r σ C fs d e r' (x.rs.mono e) rx wd⟩
section
variable {X : Cx} {W : WX} {WD : DWX} {k : Nat} {f C g : Addr} {fd : FuncData} {ps : List Str} {sp : DSp} {dvs : List V} {dds : List D} {ds : List Value} {x mn : Str} {p pos apos : Pos} {e o : Expr} {es : List Expr} {ta : DTE} {t : DTA}
theorem de_call (F : FnOk X.prog X.w X.K X.mg X.base (L2.CX X.prog X.w) k f fd ps (liftSp X.K sp)) (hr : Room k X.A) (hg : Gl X x) (hm : X.mg x = some (.ref f)) (hk : PySem.W.keepIn X.K (.ref f) = true) (hb : Binds X.K fd ps ds) (hd : Vals dvs ds) (hdd : ∀ G, Rps X.K G dds dvs) (tk : Takes X W)
    (ha : DA X W WD (e :: es) t) (hdb : (x == ("__debug__" : Str)) = false := by decide) (he : starEach (e :: es) X.env = (false, eval e X.env) :: starEach es X.env := by rfl) (hpl : (backTo pos (starEach es X.env)).any (·.1) = false := by rfl) :
    DE X W WD (.Call (.Name x p) (e :: es) [] pos) (dCall sp WD dds t) := by
  refine PE.imp (pe_callSD (E := WE W) F hr hg hm hk hb hd (fun σ => passAt tk σ) ha hdb he hpl) fun σ H Q h => ?_
  obtain ⟨G, F, r, m, QD, x, t, k⟩ := h
  refine ⟨G, F, r, m, _, x, t, fun G1 H1 m1 ds vs e1 r1 p1 t1 => ?_⟩
  exact lift_call (x.step e1 r1) (p1.append (hdd G1)) t1 (k.mono e1)
def insOf (m : M) : D → Option (Addr × List (Str × D))
  | .ins C fs => some (C, fs)
  | .ref a => (m a).bind fun o => match o with
    | .ins C fs => some (C, fs)
    | _ => none
  | _ => none
theorem ins_ok {K : PySem.W.Frag} {G H F : Hp} {m : M} {d : D} {v : V} {C : Addr} {fs : List (Str × D)} (r : Rep K G H F m) (p : Rp K G d v) (e : insOf m d = some (C, fs)) : ∃ a dx fv, v = .ref a ∧ H a = some (.ins C dx fv) ∧ Rpf K G fs fv := by
  cases d with
  | ins C' fs' => cases e; cases p with | ins h1 r1 => exact ⟨_, _, _, rfl, r.ext _ _ h1, r1⟩
  | ref a =>
    cases p
    dsimp only [insOf] at e
    cases q : m a with
    | none => rw [q] at e; cases e
    | some o =>
      rw [q] at e
      cases o with
      | ins C' fs' =>
        obtain ⟨_, _, u, h3, h4⟩ := r.mo a _ q
        obtain ⟨dx, fv, rfl, h5⟩ := h4.ofIns
        cases e
        exact ⟨_, _, _, rfl, h3, h5⟩
      | _ => cases e
  | _ => cases e
def dFld (K : PySem.W.Frag) (ta : DTE) (f : Str) : DTE := fun r m Q => ta r m fun x m1 => ∃ C fs d, insOf m1 x = some (C, fs) ∧ Cls K C ∧ NoAttr K C f ∧ fs.lookup f = some d ∧ Q d m1
theorem de_fld {f : Str} (he : DE X W WD e ta) (hb : attributeBase e f X.env (eval e X.env) = eval e X.env := by rfl) : DE X W WD (.Attribute e f pos) (dFld X.K ta f) := by
  refine PE.imp (pe_fld he hb) fun σ H Q h => ?_
  obtain ⟨G, F, r, m, QD, x, t, k⟩ := h
  refine ⟨G, F, r, m, _, x, t, fun G1 H1 m1 d1 v1 e1 r1 p1 t1 => ?_⟩
  obtain ⟨C, fs, d, e2, c, n, l, t2⟩ := t1
  obtain ⟨a, dx, fv, rfl, h1, h2⟩ := ins_ok r1 p1 e2
  obtain ⟨v, l2, q2⟩ := h2.lookup l
  exact ⟨a, C, dx, fv, v, rfl, h1, c, n, l2, k G1 H1 m1 d v e1 r1 q2 t2⟩
def dFldS (K : PySem.W.Frag) (ta tv : DTE) (f : Str) : DTS := fun DD r m => tv r m fun y m1 => ta r m1 fun x m2 => ∃ a C fs, x = .ref a ∧ m2 a = some (.ins C fs) ∧ Cls K C ∧ NoAttr K C f ∧ fs.length < 1000 ∧ DD.nx r (mset m2 a (.ins C (putD f y fs)))
theorem ds_fld {value : Expr} {tv : DTE} {f : Str} {pos' : Pos} (ha : DE X W WD o ta) (hv : DE X W WD value tv) (hs : swapsWith value (some (.Attribute o f pos')) pos.line X.env = pure false := by rfl) : DS X W WD (.Assign [.Attribute o f pos'] value pos) (dFldS X.K ta tv f) := by
  refine PS.imp (ps_fld ha hv hs) fun E σ H h => ?_
  obtain ⟨G, F, r, m, DD, x, t, k⟩ := h
  refine ⟨G, F, r, m, _, x, t, fun G1 H1 m1 d1 v1 e1 r1 p1 t1 => ?_⟩
  refine ⟨G1, F, r, m1, _, x.step e1 r1, t1, fun G2 H2 m2 d2 v2 e2 r2 p2 t2 => ?_⟩
  obtain ⟨a, C, fs, rfl, hm, c, n, l, t3⟩ := t2
  cases p2
  obtain ⟨_, _, u, h3, h4⟩ := r2.mo a _ hm
  obtain ⟨dx, fv, rfl, h5⟩ := h4.ofIns
  refine ⟨a, C, dx, fv, rfl, h3, c, n, by rw [← h5.length]; exact l, ?_⟩
  exact k.nx G2 _ _ r σ (e1.trans e2) (r2.write hm (show RpM X.K G2 (.ins C (putD f d1 fs)) (.ins C dx (putF f v1 fv)) from ⟨rfl, h5.put (p1.mono e2)⟩)) (x.rs.mono (e1.trans e2)) t3
def dMeth (C : Addr) (mn : Str) (sp : DSp) (WD : DWX) (dds : List D) (ta : DTE) (t : DTA) : DTE := fun r m Q => ta r m fun x m1 => ∃ fs, insOf m1 x = some (C, fs) ∧ fs.lookup mn = none ∧ t r m1 fun ds m2 => sp (x :: (ds ++ dds)) m2 Q fun x m2 => WD x r m2
def tMethS (C : Addr) (m : Str) (sp : Sp) (dvs : List V) (E : L2.St → XK) (ta : TE) (t : TA) : TE := fun σ H Q => ta σ H fun x H1 => ∃ a dx fs, x = .ref a ∧ H1 a = some (.ins C dx fs) ∧ fs.lookup m = none ∧
  t σ H1 fun vs H2 => sp (x :: (vs ++ dvs)) H2 Q (E σ)
theorem pe_methS {pl : Sem Bool} {sp : Sp} {E : L2.St → XK} {ta : TE} {t : TA} {CX : CXT} (he : PE X o ta) (c : Cls X.K C) (hm : Meth X.K C mn f) (F : FnOk X.prog X.w X.K X.mg X.base CX k f fd ps sp) (hr : Room k X.A) (hb : Binds X.K fd ps ds) (hd : Vals dvs ds) (hx : ∀ σ, PassesAt CX X σ (E σ)) (ha : PA X (e :: es) t)
    (hst : starEach (e :: es) X.env = (false, eval e X.env) :: starEach es X.env := by rfl) (hpl : (backTo pos (starEach es X.env)).any (·.1) = false := by rfl)
    (ht : eval (.Call (.Attribute o mn apos) (e :: es) [] pos) X.env = (do
      let ov ← eval o X.env
      standAt apos.atName
      let (f, first) ← holding [ov] (getMethod ov mn pl)
      callWith pos f first (backTo pos (starEach (e :: es) X.env)) (backToKw pos (keywordEach [] X.env))) := by rfl) :
    PE X (.Call (.Attribute o mn apos) (e :: es) [] pos) (tMethS C mn sp dvs E ta t) := by
  refine ⟨fun pins s σ H Q I h => ?_⟩
  refine PySem.W.methodCall_KW (pl := pl) (thn (he.run pins s σ H _ I h) fun u s1 ⟨x, H1, I1, rx, a, dx, fs, ex, ea, l, q⟩ => ?_) ht
  subst ex
  obtain rfl : u = Value.ref a := rx
  refine getmeth_ok I1 ea c hm l ?_
  refine PySem.W.callWith_K (first := [.ref a]) (h₀ := X.base) I.ok.mod.kin hm.kp (thn (ha.run pos pins s1 σ H1 _ I1 q) fun us s2 ⟨vs, H2, I2, r, q2⟩ => ⟨I2.kIn, ?_⟩) hst hpl
  exact run_fnSD (us := .ref a :: us) (vs := .ref a :: vs) F hr hb hd (hx σ) I2 (.cons rfl r) q2
theorem up_meth {K : PySem.W.Frag} {σ : L2.St} {H : Hp} {Q : VK} (hdd : ∀ G, Rps K G dds dvs) (h : up K W WD (dMeth C mn sp WD dds ta t) σ H Q) : tMethS C mn (liftSp K sp) dvs (WE W) (up K W WD ta) (upA K W WD t) σ H Q := by
  obtain ⟨G, F, r, m, QD, x, t, k⟩ := h
  refine ⟨G, F, r, m, _, x, t, fun G1 H1 m1 d1 v1 e1 r1 p1 t1 => ?_⟩
  obtain ⟨fs, e2, l, t2⟩ := t1
  obtain ⟨a, dx, fv, rfl, h1, h2⟩ := ins_ok r1 p1 e2
  refine ⟨a, dx, fv, rfl, h1, h2.lookupN l, G1, F, r, m1, _, x.step e1 r1, t2, fun G2 H2 m2 ds vs e3 r3 p3 t3 => ?_⟩
  exact lift_call (x.step (e1.trans e3) r3) (.cons (p1.mono e3) (p3.append (hdd G2))) t3 (k.mono (e1.trans e3))
theorem de_meth {pl : Sem Bool} (he : DE X W WD o ta) (c : Cls X.K C) (hm : Meth X.K C mn f) (F : FnOk X.prog X.w X.K X.mg X.base (L2.CX X.prog X.w) k f fd ps (liftSp X.K sp)) (hr : Room k X.A) (hb : Binds X.K fd ps ds) (hd : Vals dvs ds) (hdd : ∀ G, Rps X.K G dds dvs) (tk : Takes X W) (ha : DA X W WD (e :: es) t)
    (hst : starEach (e :: es) X.env = (false, eval e X.env) :: starEach es X.env := by rfl) (hpl : (backTo pos (starEach es X.env)).any (·.1) = false := by rfl)
    (ht : eval (.Call (.Attribute o mn apos) (e :: es) [] pos) X.env = (do
      let ov ← eval o X.env
      standAt apos.atName
      let (f, first) ← holding [ov] (getMethod ov mn pl)
      callWith pos f first (backTo pos (starEach (e :: es) X.env)) (backToKw pos (keywordEach [] X.env))) := by rfl) :
    DE X W WD (.Call (.Attribute o mn apos) (e :: es) [] pos) (dMeth C mn sp WD dds ta t) := PE.imp (pe_methS (E := WE W) he c hm F hr hb hd (fun σ => passAt tk σ) ha hst hpl ht) fun _ _ _ h => up_meth hdd h
def dProp (C : Addr) (sp : DSp) (ta : DTE) : DTE := fun r m Q => ta r m fun x m1 => ∃ fs, insOf m1 x = some (C, fs) ∧ sp [x] m1 Q fun _ _ => False
theorem de_prop {fn : Str} {pa : Addr} (he : DE X W WD e ta) (c : Cls X.K C) (hp : PropOf X.K C fn pa g) (F : FnOk X.prog X.w X.K X.mg X.base (L2.CX X.prog X.w) k g fd ps (liftSp X.K sp)) (hr : Room (k + 1) X.A) (hb : Binds X.K fd ps [])
    (hab : attributeBase e fn X.env (eval e X.env) = eval e X.env := by rfl) : DE X W WD (.Attribute e fn pos) (dProp C sp ta) := by
  refine PE.imp (pe_prop (E := E0) he c hp F hr hb .nil passL hab) fun σ H Q h => ?_
  obtain ⟨G, F, r, m, QD, x, t, k⟩ := h
  refine ⟨G, F, r, m, _, x, t, fun G1 H1 m1 d1 v1 e1 r1 p1 t1 => ?_⟩
  obtain ⟨fs, e2, t2⟩ := t1
  obtain ⟨a, dx, fv, rfl, h1, h2⟩ := ins_ok r1 p1 e2
  exact ⟨a, dx, fv, rfl, h1, G1, F, m1, [d1], QD, _, r1, .cons p1 .nil, t2, k.mono e1, fun _ _ _ _ _ _ _ _ _ q => q.elim⟩
def tMakeS (C : Addr) (sp : Sp) (dvs : List V) (E : L2.St → XK) (t : TA) : TE := fun σ H Q => t σ H fun vs H1 => ∀ x dx, H1 x = none → H1 dx = none → dx ≠ x →
  sp (.ref x :: (vs ++ dvs)) (upd (upd H1 dx (.own x)) x (.ins C dx [])) (fun v H2 => v = .non ∧ Q (.ref x) H2) (E σ)
theorem run_makeS {CX : CXT} {sp : Sp} {E : XK} {pins : List (Addr × Obj)} {σ : L2.St} {H : Hp} {s : Shared} {Q : VK} {us : List Value} {vs : List V} (M : Mk X.K C f) (F : FnOk X.prog X.w X.K X.mg X.base CX k f fd ps sp) (hr : Room (k + 1) X.A) (hb : Binds X.K fd ps ds) (hd : Vals dvs ds)
    (hx : PassesAt CX X σ E) (I : Inv X pins σ H s) (r : Vals vs us)
    (h : ∀ x dx, H x = none → H dx = none → dx ≠ x → sp (.ref x :: (vs ++ dvs)) (upd (upd H dx (.own x)) x (.ins C dx [])) (fun v H2 => v = .non ∧ Q (.ref x) H2) E) :
    wpAny (model X.prog X.w) X.A (call (.ref C) us) (EP X pins σ Q) X.xe s := by
  have hq := h (s.heap.objs.size + 1) s.heap.objs.size (I.hok.fresh (Nat.le_succ _)) (I.hok.fresh (Nat.le_refl _)) (Nat.ne_of_lt (Nat.lt_succ_self _))
  have I2 := Inv.made (C := C) I
  have r2 : Vals (V.ref (s.heap.objs.size + 1) :: (vs ++ dvs)) (Value.ref (s.heap.objs.size + 1) :: (us ++ ds)) := .cons rfl (r.append hd)
  have hl : (Value.ref (s.heap.objs.size + 1) :: us ++ ds).length = ps.length := by
    have e := r2.length
    rw [F.len _ _ _ _ hq] at e
    exact e.symm
  refine wpAny_call (make_map (f := f) I.kIn M.makes M.init (beq_iff_eq.mp M.fn) (codeAny_mono (F.run _ X.stack _ _ ⟨Value.ref (s.heap.objs.size + 1) :: us, []⟩ (Value.ref (s.heap.objs.size + 1) :: (us ++ ds)) _ _ E (hr.make C us [])
    (I2.env0.make C us []) (hb _ (Value.ref (s.heap.objs.size + 1) :: us) I2.kIn hl) r2 hq) fun r s' hq' => ?_))
  cases r with
  | error e => exact hx pins _ _ e s' I2 hq'
  | ok fl =>
    cases fl with
    | ret u =>
      obtain ⟨v, H', I3, rv, ev, q3⟩ := I2.after hq'
      subst ev
      exact ⟨rv, ⟨V.ref (s.heap.objs.size + 1), H', I3, rfl, q3⟩⟩
    | next => exact False.elim hq'
    | brk => exact False.elim hq'
    | cont => exact False.elim hq'
theorem pe_makeS {CX : CXT} {sp : Sp} {E : L2.St → XK} {t : TA} (M : Mk X.K C f) (F : FnOk X.prog X.w X.K X.mg X.base CX k f fd ps sp) (hr : Room (k + 1) X.A) (hg : Gl X x) (hm : X.mg x = some (.ref C)) (hb : Binds X.K fd ps ds) (hd : Vals dvs ds) (hx : ∀ σ, PassesAt CX X σ (E σ))
    (ha : PA X (e :: es) t) (hdb : (x == ("__debug__" : Str)) = false := by decide) (he : starEach (e :: es) X.env = (false, eval e X.env) :: starEach es X.env := by rfl) (hpl : (backTo pos (starEach es X.env)).any (·.1) = false := by rfl) :
    PE X (.Call (.Name x p) (e :: es) [] pos) (tMakeS C sp dvs E t) := by
  refine ⟨fun pins s σ H Q I h => ?_⟩
  refine wpAny_Call_Name_kw (ld_glob I hg hm ?_ hdb)
  refine PySem.W.callWith_K (h₀ := X.base) I.ok.mod.kin M.kp (thn (ha.run pos pins s σ H _ I h) fun us s1 ⟨vs, H1, I1, r, q⟩ => ⟨I1.kIn, ?_⟩) he hpl
  exact run_makeS M F hr hb hd (hx σ) I1 r q
def dMake (C : Addr) (sp : DSp) (WD : DWX) (dds : List D) (t : DTA) : DTE := fun r m Q => t r m fun ds m1 => ∀ x, m1 x = none → sp (.ref x :: (ds ++ dds)) (mset m1 x (.ins C [])) (fun _ m2 => ∃ fs, m2 x = some (.ins C fs) ∧ Q (.ins C fs) (mdel m2 x)) fun x m2 => WD x r m2
theorem de_make (M : Mk X.K C f) (F : FnOk X.prog X.w X.K X.mg X.base (L2.CX X.prog X.w) k f fd ps (liftSp X.K sp)) (hr : Room (k + 1) X.A) (hg : Gl X x) (hm : X.mg x = some (.ref C)) (hb : Binds X.K fd ps ds) (hd : Vals dvs ds) (hdd : ∀ G, Rps X.K G dds dvs) (tk : Takes X W)
    (hn : ∀ vs H Q E, liftSp X.K sp vs H Q E → liftSp X.K sp vs H (fun v H' => v = .non ∧ Q v H') E)
    (ha : DA X W WD (e :: es) t) (hdb : (x == ("__debug__" : Str)) = false := by decide) (he : starEach (e :: es) X.env = (false, eval e X.env) :: starEach es X.env := by rfl) (hpl : (backTo pos (starEach es X.env)).any (·.1) = false := by rfl) :
    DE X W WD (.Call (.Name x p) (e :: es) [] pos) (dMake C sp WD dds t) := by
  refine PE.imp (pe_makeS (E := WE W) M F hr hg hm hb hd (fun σ => passAt tk σ) ha hdb he hpl) fun σ H Q h => ?_
  obtain ⟨G, F, r, m, QD, x, t, k⟩ := h
  refine ⟨G, F, r, m, _, x, t, fun G1 H1 m1 ds vs e1 r1 p1 t1 => ?_⟩
  intro y dx hy hdx ne
  have r2 : Rep X.K G1 (upd (upd H1 dx (.own y)) y (.ins C dx [])) F (mset m1 y (.ins C [])) := (r1.junk (o := .own y) hdx).newm (u := .ins C []) (by rw [upd_ne (Ne.symm ne)]; exact hy) ⟨rfl, .nil⟩
  refine hn _ _ (fun _ H2 => Q (.ref y) H2) _ ?_
  refine lift_call (QD := fun _ m2 => ∃ fs, m2 y = some (.ins C fs) ∧ QD (.ins C fs) (mdel m2 y)) (x.step e1 r2) (.cons (.ref y) (p1.append (hdd G1))) (t1 y (r1.mfree hy)) fun G3 H3 m3 d v e3 r3 p3 t3 => ?_
  obtain ⟨fs, hm3, t4⟩ := t3
  obtain ⟨G4, e4, r4, p4⟩ := r3.freezeI hm3
  exact k G4 H3 _ _ _ ((e1.trans e3).trans e4) r4 p4 t4
theorem none_of {K : PySem.W.Frag} {sp : DSp} (h : ∀ ds m Q E, sp ds m Q E → sp ds m (fun d m' => d = .non ∧ Q d m') E) (vs : List V) (H : Hp) (Q : VK) (E : XK) (q : liftSp K sp vs H Q E) : liftSp K sp vs H (fun v H' => v = .non ∧ Q v H') E := by
  obtain ⟨G, F, m, ds, QD, ED, rep, rs, hs, kv, kx⟩ := q
  refine ⟨G, F, m, ds, _, ED, rep, rs, h ds m QD ED hs, fun G' H' m' d v e r p q => ?_, kx⟩
  obtain ⟨rfl, q⟩ := q
  cases p
  exact ⟨rfl, kv G' H' m' _ _ e r .non q⟩
def dCallO (C : Addr) (sp : DSp) (WD : DWX) (tf : DTE) (t : DTA) : DTE := fun r m Q => tf r m fun x m1 => (∃ fs, insOf m1 x = some (C, fs)) ∧ t r m1 fun ds m2 => ∃ fs, insOf m2 x = some (C, fs) ∧ sp (x :: ds) m2 Q fun x m2 => WD x r m2
end
end DL

set_option Elab.async false
set_option linter.all false
set_option maxRecDepth 100000
set_option maxHeartbeats 4000000
namespace DL
open PySem PySem.Spec PyProof.Rows L2

abbrev DRM := D → List D → M → (D → M → Prop) → Prop
def MtD (K : PySem.W.Frag) (T : String) (r : V → List V → Hp → VK → Prop) (ty : D → M → Prop) (rd : DRM) : Prop :=
  (∀ (G H F : Hp) (m : M) (x : D) (vx : V), Rep K G H F m → Rp K G x vx → ty x m → tyV K T vx H) ∧
  ∀ (G H F : Hp) (m : M) (x : D) (vx : V) (ds : List D) (vs : List V) (QD : D → M → Prop) (Q : VK), Rep K G H F m → Rp K G x vx → Rps K G ds vs → rd x ds m QD → Kv K G F QD Q → r vx vs H Q
def dBM (ty : D → M → Prop) (rd : DRM) (to : DTE) (t : DTA) : DTE := fun r m Q => to r m fun x m1 => ty x m1 ∧ t r m1 fun ds m2 => rd x ds m2 Q
section
variable {K : PySem.W.Frag} {X : Cx} {W : WX} {WD : DWX} {o e : Expr} {es : List Expr} {to : DTE} {t : DTA} {name : Str} {apos cpos : Pos} {T id : String} {r : V → List V → Hp → VK → Prop} {ty : D → M → Prop} {rd : DRM}
theorem de_bm (pa : PlainAttrs T) (slot : Slot T name id) (hty : typeOf (.builtin id) = pure (.type "method_descriptor")) (hm : MtR X id r) (hd : MtD X.K T r ty rd) (ho : DE X W WD o to) (ha : DA X W WD (e :: es) t)
    (hbase : attributeBase o name X.env (eval o X.env) = eval o X.env := by rfl)
    (hfew : ((backTo cpos (starEach (e :: es) X.env)).all (fun x => !x.1) && (backToKw cpos (keywordEach [] X.env)).all (fun x => x.1.isSome)
      && decide ((e :: es).length + ([] : List Keyword).length + (if ([] : List Keyword).isEmpty then 0 else 1) < 30)) = true := by rfl)
    (hline : (apos.endLine == cpos.line) = true := by rfl) (hs : starEach (e :: es) X.env = (false, eval e X.env) :: starEach es X.env := by rfl) (hplain : (backTo cpos (starEach es X.env)).any (·.1) = false := by rfl) :
    DE X W WD (.Call (.Attribute o name apos) (e :: es) [] cpos) (dBM ty rd to t) := by
  refine PE.imp (pe_bm pa slot hty hm ho ha hbase hfew hline hs hplain) fun σ H Q h => ?_
  obtain ⟨G, F, r, m, QD, x, t, k⟩ := h
  refine ⟨G, F, r, m, _, x, t, fun G1 H1 m1 d1 v1 e1 r1 p1 t1 => ⟨hd.1 G1 H1 F m1 d1 v1 r1 p1 t1.1, ?_⟩⟩
  refine ⟨G1, F, r, m1, _, x.step e1 r1, t1.2, fun G2 H2 m2 ds vs e2 r2 p2 t2 => ?_⟩
  exact hd.2 G2 H2 F m2 d1 v1 ds vs QD Q r2 (p1.mono e2) p2 t2 (k.mono (e1.trans e2))
def isL (d : D) (m : M) : Prop := ∃ xs, lsOf m d = some xs
def isS (d : D) (_ : M) : Prop := ∃ z, d = .str z
theorem ty_list {G H F : Hp} {m : M} {x : D} {vx : V} (r : Rep K G H F m) (p : Rp K G x vx) (h : isL x m) : tyV K "list" vx H := by
  obtain ⟨xs, e⟩ := h
  obtain ⟨a, vs, rfl, hs, _⟩ := ls_ok r p e
  exact .inl ⟨rfl, vs, hs⟩
theorem ty_str {G H F : Hp} {m : M} {x : D} {vx : V} (r : Rep K G H F m) (p : Rp K G x vx) (h : isS x m) : tyV K "str" vx H := by
  obtain ⟨z, rfl⟩ := h
  cases p
  exact rfl
theorem mo_lst {G H F : Hp} {m : M} {a : Addr} {xs : List D} (r : Rep K G H F m) (h : m a = some (.lst xs)) : ∃ vs, H a = some (.lst vs) ∧ Rps K G xs vs := by
  obtain ⟨_, _, u, h3, h4⟩ := r.mo a _ h
  obtain ⟨vs, rfl, h4⟩ := h4.ofLst
  exact ⟨vs, h3, h4⟩
theorem wr_lst {G H F : Hp} {m : M} {a : Addr} {xs ys : List D} {us : List V} (r : Rep K G H F m) (h : m a = some (.lst xs)) (p : Rps K G ys us) : Rep K G (upd H a (.lst us)) F (mset m a (.lst ys)) := r.write h (show RpM K G (.lst ys) (.lst us) from p)
def dAppend : DRM := fun x ds m Q => ∃ a xs y, x = .ref a ∧ ds = [y] ∧ m a = some (.lst xs) ∧ xs.length < sizeLine ∧ Q .non (mset m a (.lst (xs ++ [y])))
theorem md_append : MtD K "list" rAppend isL dAppend := by
  refine ⟨fun G H F m x vx r p h => ty_list r p h, fun G H F m x vx ds vs QD Q r px ps t k => ?_⟩
  obtain ⟨a, xs, y, rfl, rfl, hm, hz, t⟩ := t
  cases px
  obtain ⟨v, rfl, p⟩ := rps1 ps
  obtain ⟨vs, h3, h4⟩ := mo_lst r hm
  exact ⟨a, vs, v, rfl, rfl, h3, by rw [← h4.length]; exact hz, k.here (wr_lst r hm (h4.append (.cons p .nil))) .non t⟩
def dClear : DRM := fun x ds m Q => ∃ a xs, x = .ref a ∧ ds = [] ∧ m a = some (.lst xs) ∧ Q .non (mset m a (.lst []))
def dPopAt : DRM := fun x ds m Q => ∃ a xs i j y, x = .ref a ∧ ds = [.int i] ∧ m a = some (.lst xs) ∧ (-(2 ^ 63) ≤ i ∧ i < 2 ^ 63) ∧ seqIndex? i xs.length = some j ∧ xs[j]? = some y ∧ Q y (mset m a (.lst (xs.eraseIdx j)))
theorem md_popAt : MtD K "list" rPopAt isL dPopAt := by
  refine ⟨fun G H F m x vx r p h => ty_list r p h, fun G H F m x vx ds vs QD Q r px ps t k => ?_⟩
  obtain ⟨a, xs, i, j, y, rfl, rfl, hm, ⟨h1, h2⟩, hj, hy, t⟩ := t
  cases px
  obtain ⟨v, rfl, p⟩ := rps1 ps
  cases p
  obtain ⟨vs, h3, h4⟩ := mo_lst r hm
  obtain ⟨v, h5, h6⟩ := h4.get hy
  exact ⟨a, vs, i, j, v, rfl, rfl, h3, h1, h2, by rw [← h4.length]; exact hj, h5, k.here (wr_lst r hm (h4.eraseIdx j)) h6 t⟩
end

section
variable {X : Cx} {W : WX} {WD : DWX} {k : Nat} {f C : Addr} {fd : FuncData} {ps : List Str} {sp : DSp} {a b : Expr} {ta tb : DTE} {pos : Pos}
end
def dNever : DTS := fun _ _ _ => False
theorem ds_never {X : Cx} {W : WX} {WD : DWX} {st : Stmt} : DS X W WD st dNever := PS.imp ps_never fun _ _ _ h => by
  obtain ⟨_, _, _, _, _, _, t, _⟩ := h
  exact t
end DL

set_option Elab.async false
set_option linter.all false
set_option maxRecDepth 100000
set_option maxHeartbeats 4000000
namespace DL
open PySem PySem.Spec PyProof.Rows L2
open He (ga ma eqO eqO_ok ba)

abbrev Fr0 := PySem.W.Frag
structure DefA where
  ad : Fr0 → Addr
  name : Str
  qual : Str
  params : Arguments
  body : List Stmt
  scope : Scope
  dfl : List He.Dv := []
  kwd : List (Str × He.Dv) := []
def fnAt (K : Fr0) (a : Addr) : He.FnW := match K.lookup a with
  | some ⟨_, _, .func u, _⟩ => some (u.name, u.qualname, u.params, u.body, u.scope, u.globals, u.closure, u.builtins)
  | _ => none
def DefA.told (d : DefA) : He.FnW := some (d.name, d.qual, d.params, .stmts d.body, d.scope, mainGlobals, [], builtinsNs)
def DefA.vs (K : Fr0) (d : DefA) : List V := d.dfl.map (He.Dv.v K)
def DefA.ks (K : Fr0) (d : DefA) : List (Str × V) := d.kwd.map fun z => (z.1, z.2.v K)
def DefA.good (K : Fr0) (d : DefA) : Bool := PySem.W.keepIn K (.ref (d.ad K)) && (match K.lookup (d.ad K) with
  | some ⟨_, _, .func u, _⟩ => PySem.W.codeIn K u.code d.qual && (He.dflB K u.defaults (d.vs K) && He.kwdB K u.kwdefaults (d.ks K))
  | _ => false)
theorem DefA.fun_ {K : Fr0} {d : DefA} (e : fnAt K (d.ad K) = d.told) (c : d.good K = true) : ∃ fd, FunD K d.name d.qual d.params d.body d.scope (d.vs K) (d.ks K) (d.ad K) fd := by
  obtain ⟨kp, c2⟩ := ba c
  unfold fnAt at e
  cases look : K.lookup (d.ad K) with
  | none => rw [look] at c2; cases c2
  | some ob =>
    obtain ⟨oc, od, dt, osl⟩ := ob
    rw [look] at c2 e
    cases dt with
    | func u =>
      obtain ⟨n1, n2, n3, n4, n5, n6, n7, n8, n9, n10, n11, n12, n13, n14, n15⟩ := u
      have e2 : (some (n1, n2, n3, n4, n5, n6, n7, n15) : He.FnW) = some (d.name, d.qual, d.params, .stmts d.body, d.scope, mainGlobals, [], builtinsNs) := e
      simp only [Option.some.injEq, Prod.mk.injEq] at e2
      obtain ⟨rfl, rfl, rfl, rfl, rfl, rfl, rfl, rfl⟩ := e2
      obtain ⟨k1, k2⟩ := ba (show (PySem.W.codeIn K n13 d.qual && (He.dflB K n8 (d.vs K) && He.kwdB K n9 (d.ks K))) = true from c2)
      obtain ⟨k3, k4⟩ := ba k2
      exact ⟨_, ⟨oc, od, n8, n9, n10, n11, n12, n13, n14, osl, rfl, look, k1, He.dflB_ok k3, He.kwdB_ok k4⟩, kp⟩
    | _ => cases c2
abbrev AlA : Type := Bool × List He.FnW
def obsA (fa : List (Fr0 → Bool)) (fn : List DefA) (K : Fr0) : AlA := (fa.all (fun f => f K) && fn.all (fun d => d.good K), fn.map fun d => fnAt K (d.ad K))
def valA (fn : List DefA) : AlA := (true, fn.map DefA.told)
def Says (fa : List (Fr0 → Bool)) (fn : List DefA) (K : Fr0) : Prop := obsA fa fn K = valA fn
def isTab (o : Obj) : Bool := match o with
  | ⟨.none, _, .fields vs, _⟩ => vs.isEmpty
  | _ => false
def frT (g : Addr → Option Obj) (as : List Addr) : Fr0 := (He.frG g as).filter fun p => !isTab p.2
theorem frG_mem {g : Addr → Option Obj} {as : List Addr} {p : Addr × Obj} (h : p ∈ He.frG g as) : g p.1 = some p.2 := by
  unfold He.frG at h
  obtain ⟨a, _, e⟩ := List.mem_filterMap.mp h
  cases q : g a with
  | none => rw [q] at e; cases e
  | some o => rw [q] at e; cases e; exact q
theorem frT_in {as : List Addr} {h : Heap} : (frT h.get? as).In h := fun a o e => by
  have m : (a, o) ∈ frT h.get? as := PySem.W.mem_of_lookupK e
  exact frG_mem (List.mem_filter.mp m).1
def emptyTab (o : Option Obj) : Bool := match o with
  | some ⟨.none, none, .fields vs, sl⟩ => vs.isEmpty && sl.isEmpty
  | _ => false
def tabsB (g : Addr → Option Obj) (K : Fr0) : Bool := (tbls3 K).all fun x => emptyTab (g x.2.1) && ((K.lookup x.2.1).isNone && (PySem.W.codeHdIn K x.1 x.2.1 && (tbls3 K).all fun y => !(x.2.1 == y.2.1) || decide (x.2.2 = y.2.2)))
structure TabAt (K : Fr0) (h : Heap) : Prop where
  emp : ∀ x ∈ tbls3 K, h.get? x.2.1 = some { cls := .none, data := .fields #[] }
  out : ∀ x ∈ tbls3 K, K.lookup x.2.1 = none
  hd : ∀ x ∈ tbls3 K, PySem.W.CodeHd h x.1 x.2.1
  one : ∀ x ∈ tbls3 K, ∀ y ∈ tbls3 K, x.2.1 = y.2.1 → x.2.2 = y.2.2
theorem tabsB_ok {K : Fr0} {h : Heap} (X : K.In h) (e : tabsB h.get? K = true) : TabAt K h := by
  have all := List.all_eq_true.mp e
  refine ⟨fun x hx => ?_, fun x hx => ?_, fun x hx => ?_, fun x hx y hy => ?_⟩
  · have e1 := (ba (all x hx)).1
    unfold emptyTab at e1
    split at e1
    · rename_i vs sl hq
      obtain ⟨e2, e3⟩ := ba e1
      rw [hq]
      have h1 : vs = #[] := Array.isEmpty_iff.mp e2
      have h2 : sl = #[] := Array.isEmpty_iff.mp e3
      subst h1; subst h2
      rfl
    · cases e1
  · exact Option.isNone_iff_eq_none.mp (ba (ba (all x hx)).2).1
  · exact PySem.W.codeHd_of_K X (ba (ba (ba (all x hx)).2).2).1
  · intro q
    have e1 := List.all_eq_true.mp (ba (ba (ba (all x hx)).2).2).2 y hy
    rw [Bool.or_eq_true, Bool.not_eq_true'] at e1
    rcases e1 with e1 | e1
    · rw [beq_eq_false_iff_ne] at e1
      exact absurd q e1
    · exact of_decide_eq_true e1
theorem TabAt.keeps {K : Fr0} {h h' : Heap} (t : TabAt K h) (k : ∀ b o, h.get? b = some o → h'.get? b = some o) : TabAt K h' := ⟨fun x hx => k _ _ (t.emp x hx), t.out, fun x hx => (t.hd x hx).keeps k, t.one⟩
section
variable {fa : List (Fr0 → Bool)} {fn : List DefA} {K : Fr0}
theorem Says.fact (c : Says fa fn K) (i : Nat) {f : Fr0 → Bool} (h : fa[i]? = some f := by rfl) : f K = true := by
  obtain ⟨c1, _⟩ := ba (show (fa.all (fun f => f K) && fn.all (fun d => d.good K)) = true from congrArg Prod.fst c)
  exact List.all_eq_true.mp c1 f (List.mem_of_getElem? h)
theorem Says.def_ (c : Says fa fn K) (i : Nat) {d : DefA} (h : fn[i]? = some d := by rfl) : ∃ fd, FunD K d.name d.qual d.params d.body d.scope (d.vs K) (d.ks K) (d.ad K) fd := by
  obtain ⟨_, c2⟩ := ba (show (fa.all (fun f => f K) && fn.all (fun d => d.good K)) = true from congrArg Prod.fst c)
  have e : fn.map (fun d => fnAt K (d.ad K)) = fn.map DefA.told := congrArg Prod.snd c
  have e2 : (fn.map fun d => fnAt K (d.ad K))[i]? = (fn.map DefA.told)[i]? := by rw [e]
  rw [List.getElem?_map, List.getElem?_map, h] at e2
  exact DefA.fun_ (Option.some.inj e2) (List.all_eq_true.mp c2 d (List.mem_of_getElem? h))
end
def pad (K : Fr0) (C f : Str) : Addr := ma K (ga K C) f
def wad (K : Fr0) (T : String) (C f : Str) : Addr := match PySem.W.recIn K (pad K C f) T with
  | some (.ref g :: _) => g
  | _ => 0
def propB (C f : Str) (K : Fr0) : Bool := eqO (PySem.W.findIn K (.ref (ga K C)) f) (some (some (.ref (pad K C f)))) && (eqO (PySem.W.specialIn K (.ref (pad K C f)) "__get__") (some (some (.builtin "property.__get__"))) &&
  (decide (PySem.W.takesIn K (.ref (pad K C f)) = some true) && (match PySem.W.recIn K (pad K C f) "property" with
  | some (.ref _ :: _) => true
  | _ => false)))
theorem prop_of {K : Fr0} {C f : Str} (h : propB C f K = true) : PropOf K (ga K C) f (pad K C f) (wad K "property" C f) := by
  obtain ⟨h1, h⟩ := ba h
  obtain ⟨h2, h⟩ := ba h
  obtain ⟨h3, h4⟩ := ba h
  refine ⟨eqO_ok h1, eqO_ok h2, of_decide_eq_true h3, ?_⟩
  unfold wad
  split at h4
  · rename_i g rest e
    rw [e]
    exact ⟨rest, rfl⟩
  · cases h4
structure Good (P : Program) (w : World) (K : Fr0) (mg : Str → Option Value) (base : Heap) (k : Nat) (x : Option Str) (f : Addr) (ps : List Str) (sp : DSp) : Prop where
  ex : ∃ fd, FnOk P w K mg base (L2.CX P w) k f fd ps (liftSp K sp) ∧ Binds K fd ps [] ∧ PySem.W.keepIn K (.ref f) = true
  gl : match x with
    | some x => mg x = some (.ref f)
    | none => True
section
variable {P : Program} {w : World} {K : Fr0} {mg : Str → Option Value} {base : Heap} {x qual : Str} {params : Arguments} {body : List Stmt} {scope : Scope} {dvs : List V} {kws : List (Str × V)} {f : Addr} {fd : FuncData}
abbrev CXn (P : Program) (w : World) (K : Fr0) (mg : Str → Option Value) (base : Heap) (N : List Str) (qual : Str) (scope : Scope) (f : Addr) (cdv : Value) (A : Around) (outer : List Env) (s : Shared) (H : Hp) (E : XK) : Cx := (cxOf CX0 P w K mg base N qual scope f cdv A outer s H E).nox
theorem fn_d0 {N ps : List Str} {k : Nat} {sp : DSp} (F : FunD K x qual params body scope dvs kws f fd) (S : FnScope N ps scope) (len : ∀ ds m Q E, sp ds m Q E → ds.length = ps.length) (t : DWX → DTS)
    (hb : ∀ (cdv : Value) (A : Around) (outer : List Env) (s : Shared) (H : Hp) (E : XK), Room k (A.deeper (envOfC qual scope s.heap.objs.size f cdv)) → Takes (CXn P w K mg base N qual scope f cdv A outer s H E) W0 →
      PassesOwn (model P w) (CXn P w K mg base N qual scope f cdv A outer s H E).A (CXn P w K mg base N qual scope f cdv A outer s H E).env (CXn P w K mg base N qual scope f cdv A outer s H E).xe → DSs (CXn P w K mg base N qual scope f cdv A outer s H E) W0 WD0 body (t WD0))
    (pure_ : ∀ ds m Q E, sp ds m Q E → t WD0 { nx := fun _ m => Q .non m, rt := Q } (startD N ds) m) : FnOk P w K mg base CX0 (k + 1) f fd ps (liftSp K sp) := by
  refine F.ok S (fun vs H Q E h => ?_) (fun cdv A outer s H vs Q E hr h => ?_)
  · obtain ⟨G, F, m, ds, QD, ED, rep, rs, hs, _⟩ := h
    rw [← rs.length]
    exact len ds m QD ED hs
  · obtain ⟨G, F, m, ds, QD, ED, rep, rs, hs, kv, kx⟩ := h
    refine ⟨_, PSs.nox (hb cdv A outer s H E hr takes0 PassesOwn.never), ?_⟩
    refine ⟨G, F, startD N ds, m, _, ⟨rep, rs_start rs, Lx.no⟩, pure_ ds m QD ED hs, ⟨fun G' H' m' r' s' e r rs' q => kv G' H' m' _ _ e r .non q, kv, ?_, ?_⟩⟩
    · exact fun _ _ _ _ _ _ _ _ q => q.elim
    · exact fun _ _ _ _ _ _ _ _ q => q.elim
end
def m0 : M := fun _ => none
def spLaw : DSp := fun ds m Q _ => ∃ ns : List Int, ds = [.rdl (ns.map D.int)] ∧ ns.length ≤ 63 ∧ m = m0 ∧ ∀ m', Q (.bl true) m'
theorem spLaw_len (x : Str) (ds : List D) (m : M) (Q : D → M → Prop) (E : XD → M → Prop) (h : spLaw ds m Q E) : ds.length = [x].length := by
  obtain ⟨ns, rfl, _⟩ := h
  rfl
theorem law_sp {K : Fr0} (H : Hp) (a : Addr) (ns : List Int) (hl : ns.length ≤ 63) (hT : ∀ x ∈ tbls3 K, H x.2.1 = some (.tbl #[])) (hS : SqL K H a (ns.map V.int)) : liftSp K spLaw [.ref a] H (fun v _ => v = .bl true) fun _ _ _ => False := by
  have tb : LamX.Tabs (tblsOf K) H := fun p hp => by
    obtain ⟨x, hx, rfl⟩ := List.mem_map.mp hp
    exact LamX.TabS.nil (hT x hx)
  obtain ⟨G, hG, hok, hS2⟩ : ∃ G : Hp, Same G H ∧ (∀ b o, G b = some o → okO o) ∧ SqL K G a (ns.map V.int) := by
    rcases hS with hR | hR
    · refine ⟨fun b => if b = a then H b else none, fun b o e => ?_, fun b o e => ?_, .inl ?_⟩
      · by_cases hb : b = a
        · have e : (if b = a then H b else none) = some o := e
          rw [if_pos hb] at e
          exact e
        · have e : (if b = a then H b else none) = some o := e
          rw [if_neg hb] at e
          cases e
      · by_cases hb : b = a
        · have e : (if b = a then H b else none) = some o := e
          rw [if_pos hb, hb] at e
          rcases hR with hR | ⟨ob, hR⟩
          · rw [hR] at e; cases e; exact ⟨fun _ e => (by cases e), fun _ e => (by cases e)⟩
          · rw [hR] at e; cases e; exact ⟨fun _ e => (by cases e), fun _ e => (by cases e)⟩
        · have e : (if b = a then H b else none) = some o := e
          rw [if_neg hb] at e
          cases e
      · rcases hR with hR | ⟨ob, hR⟩
        · exact .inl ((if_pos rfl).trans hR)
        · exact .inr ⟨ob, (if_pos rfl).trans hR⟩
    · exact ⟨fun _ => none, fun _ _ e => (by cases e), fun _ _ e => (by cases e), .inr hR⟩
  refine ⟨G, fun _ => none, m0, [.rdl (ns.map D.int)], fun d _ => d = .bl true, fun _ _ => False, ⟨hG, (fun _ _ e => (by cases e)), (fun _ _ e => (by cases e)), (fun _ _ e => (by cases e)), tb, hok, (fun _ _ e => (by cases e))⟩, .cons (.rdl hS2 (Rps.ofInts ns)) .nil, ⟨ns, rfl, hl, rfl, fun _ => rfl⟩, ?_, fun _ _ _ _ _ _ _ _ _ q => q.elim⟩
  rintro G' H' m' d v e r p rfl
  cases p
  rfl
structure TabBs (K : Fr0) (mg : Str → Option Value) (base : Heap) : Prop where
  tb : ∀ x ∈ tbls3 K, LamX.TabB base mg x.1 x.2.1
  one : ∀ x ∈ tbls3 K, ∀ y ∈ tbls3 K, x.2.1 = y.2.1 → x.2.2 = y.2.2
theorem walk_tab {l : PySem.W.OpenLaw} {n k : Nat} {q : Program} {loose : List Str} {XP : (Str → Option Value) → Heap → Prop} {YP : World → Heap → Prop} {d : DefRec} {CX : CXT} {x : Str} (hn : l.most = some n) (hn2 : n ≤ sizeLine) (hdf : d.params.defaults = []) (hr : Room k callerA)
    (F : ∀ (w : World) (mg : Str → Option Value) (fa : Addr) (h : Heap), YP w h → h.Ns mainGlobals mg → mg d.name = some (.ref fa) → ∃ (K : Fr0) (fd : FuncData) (sp : Sp), K.In h ∧ TabAt K h ∧ (∀ (s : Shared) (u : Value), BindsTo s fd ⟨[u], []⟩ [(x, u)]) ∧
        (∀ (H : Hp) (a : Addr) (ns : List Int), ns.length ≤ n → (∀ x ∈ tbls3 K, H x.2.1 = some (.tbl #[])) → SqL K H a (ns.map V.int) → sp [.ref a] H (fun v _ => v = .bl true) fun _ _ _ => False) ∧
        ∀ base : Heap, K.In base → base.Ns mainGlobals mg → TabBs K mg base → FnOk l.prog w K mg base CX k fa fd [x] sp)
    (hCX : ∀ (H : Hp) (s : Shared) (e : Value) (s' : Shared), CX [] H s (fun _ _ _ => False) e s' → False) : PySem.W.WalkO q loose XP YP l.row.toRowW d [] (fun f vs => PySem.call f vs) := by
  refine Att.attach_callB hn hdf fun w _ sh mg _ fa _ _ _ _ ad us zs GT Y _ _ _ hmg hob hin hle _ hge => ?_
  obtain ⟨K, fd, sp, KX, T, hb, hsp, hF⟩ := F w mg fa _ Y GT.T.g hmg
  have each : ∀ {φ : Addr × Addr → Prop}, (∀ x ∈ tbls3 K, φ (x.1, x.2.1)) → ∀ p ∈ (tbls3 K).map (fun x => (x.1, x.2.1)), φ p := fun h p hp => by
    obtain ⟨y, hy, rfl⟩ := List.mem_map.mp hp
    exact h y hy
  exact LamX.law_callTs (cs := (tbls3 K).map fun x => (x.1, x.2.1)) KX GT.T.g GT.T.b GT.T.builtins GT.T.nolimit hge (each T.emp) (each T.out) (each T.hd) GT.T.bmain hob hin (Nat.le_trans hle hn2) hr
    (fun base h1 h2 h3 => hF base h1 h2 ⟨fun y hy => h3 _ (List.mem_map.mpr ⟨y, hy, rfl⟩), T.one⟩) hb (fun H hH hS => hsp H ad zs hle (fun y hy => hH _ (List.mem_map.mpr ⟨y, hy, rfl⟩)) hS) fun H e s' => hCX H sh e s'
end DL

set_option Elab.async false
set_option linter.all false
set_option maxRecDepth 100000
set_option maxHeartbeats 4000000
namespace DL
open PySem PySem.Spec PyProof.Rows L2
theorem toPs_ints : ∀ ns : List Int, toPs (ns.map D.int) = some (ns.map PyData.int)
  | [] => rfl
  | n :: ns => by
    have ih := toPs_ints ns
    show (toPs (D.int n :: ns.map D.int)) = _
    rw [toPs, ih]
    rfl
theorem eqvAll_ints : ∀ ns ms : List Int, PyData.eqvAll (ns.map PyData.int) (ms.map PyData.int) = decide (ns = ms)
  | [], [] => rfl
  | [], _ :: _ => rfl
  | _ :: _, [] => rfl
  | n :: ns, k :: ks => by
    show (PyData.eqv (.int n) (.int k) && PyData.eqvAll (ns.map PyData.int) (ks.map PyData.int)) = _
    rw [eqvAll_ints ns ks]
    simp [PyData.eqv, Bool.decide_and, Bool.beq_eq_decide_eq]
theorem can_ints : ∀ ns : List Int, PyData.canLayAll0 (ns.map PyData.int) = true
  | [] => rfl
  | n :: ns => by
    show (PyData.canLay0 (.int n) && PyData.canLayAll0 (ns.map PyData.int)) = true
    rw [can_ints ns]
    rfl
theorem depth_ints : ∀ ns : List Int, PyData.depthAll (ns.map PyData.int) ≤ 1
  | [] => by simp [PyData.depthAll]
  | n :: ns => by
    have := depth_ints ns
    simp [PyData.depthAll, PyData.depth]
    omega
theorem shaped_ints (ns : List Int) : SeqAt.shaped (.list (ns.map PyData.int)) = true := by
  unfold SeqAt.shaped
  have h1 := can_ints ns
  have h2 := depth_ints ns
  have h3 : PyData.depth (.list (ns.map PyData.int)) ≤ 64 := by
    show PyData.depthAll (ns.map PyData.int) + 1 ≤ 64
    omega
  rw [decide_eq_true h3]
  show (PyData.canLayAll0 (ns.map PyData.int) && true) = true
  rw [h1]
  rfl
theorem dEq_ints {x y : D} {m : M} {ns ms : List Int} {Q : D → M → Prop} (hx : lsOf m x = some (ns.map D.int)) (hy : lsOf m y = some (ms.map D.int)) (h : Q (.bl (decide (ns = ms))) m) : dEq x y m Q := by
  have dat : ∀ {d : D} {ks : List Int}, lsOf m d = some (ks.map D.int) → datOf m d = some (.list (ks.map PyData.int)) ∧ dEqB d d = none ∧ ∀ e, dEqB d e = none := by
    intro d ks hd
    cases d with
    | lst xs => cases hd; refine ⟨?_, rfl, fun e => by cases e <;> rfl⟩; show (toPs _).map _ = _; rw [toPs_ints]; rfl
    | rdl xs => cases hd; refine ⟨?_, rfl, fun e => by cases e <;> rfl⟩; show (toPs _).map _ = _; rw [toPs_ints]; rfl
    | ref a =>
      refine ⟨?_, rfl, fun e => by cases e <;> rfl⟩
      dsimp only [lsOf] at hd
      dsimp only [datOf]
      cases q : m a with
      | none => rw [q] at hd; cases hd
      | some o =>
        rw [q] at hd
        cases o with
        | lst zs => cases hd; show (toPs _).map _ = _; rw [toPs_ints]; rfl
        | _ => cases hd
    | _ => cases hd
  unfold dEq
  rw [(dat hx).2.2 y]
  exact ⟨_, _, (dat hx).1, (dat hy).1, shaped_ints ns, shaped_ints ms, by rw [show PyData.eqv (.list (ns.map PyData.int)) (.list (ms.map PyData.int)) = decide (ns = ms) from eqvAll_ints ns ms]; exact h⟩
theorem dNe_ints {x y : D} {m : M} {ns ms : List Int} {Q : D → M → Prop} (hx : lsOf m x = some (ns.map D.int)) (hy : lsOf m y = some (ms.map D.int)) (h : Q (.bl (!decide (ns = ms))) m) : dNe x y m Q := by
  have e := dEq_ints (Q := fun d m' => ∃ b, d = .bl b ∧ m' = m ∧ b = decide (ns = ms)) hx hy ⟨_, rfl, rfl, rfl⟩
  unfold dEq at e
  unfold dNe
  cases q : dEqB x y with
  | some b =>
    rw [q] at e
    obtain ⟨b', e1, _, e3⟩ := e
    cases e1
    show Q (.bl (!b)) m
    rw [e3]
    exact h
  | none =>
    rw [q] at e
    obtain ⟨p, q', e1, e2, s1, s2, b, eb, _, e3⟩ := e
    refine ⟨p, q', e1, e2, s1, s2, ?_⟩
    cases eb
    rw [e3]
    exact h
section
variable {m : M} {Q : D → M → Prop} {i j : Int} {x y : Str} {b c : Bool}
theorem eq_ii : dEq (.int i) (.int j) m Q ↔ Q (.bl (decide (i = j))) m := Iff.rfl
theorem ne_ii : dNe (.int i) (.int j) m Q ↔ Q (.bl (!decide (i = j))) m := Iff.rfl
theorem eq_ss : dEq (.str x) (.str y) m Q ↔ Q (.bl (decide (x = y))) m := Iff.rfl
theorem ne_ss : dNe (.str x) (.str y) m Q ↔ Q (.bl (!decide (x = y))) m := Iff.rfl
theorem eq_bb : dEq (.bl b) (.bl c) m Q ↔ Q (.bl (decide (b = c))) m := Iff.rfl
theorem ne_bb : dNe (.bl b) (.bl c) m Q ↔ Q (.bl (!decide (b = c))) m := Iff.rfl
end
theorem cut_to {α : Type} (xs : List α) (k : Nat) : cutD xs none (some (k : Int)) = xs.take k := by
  unfold cutD
  rw [HT.sIx_nat, HT.sIx_none]
  by_cases h : k ≤ xs.length
  · rw [Nat.min_eq_left h]
    simp
  · rw [Nat.min_eq_right (by omega)]
    have e : xs.take k = xs := List.take_of_length_le (by omega)
    rw [e]
    simp
theorem mul_small {i j : Int} (h : -(2 ^ 64) < j ∧ j < 2 ^ 64) : DL.MulOk i j := .inl (.inr h)
theorem mul_smallL {i j : Int} (h : -(2 ^ 64) < i ∧ i < 2 ^ 64) : DL.MulOk i j := .inl (.inl h)
theorem div_ok {i j : Int} (h : 0 < j) (hb : j ≤ 1000000000) : CDivW i j := wide_div h (b := 40) (by omega) (by decide) (by decide)
theorem rng_map (lo : Int) (n : Nat) (f : D → D) : (rngD lo n).map f = (List.range n).map fun (k : Nat) => f (.int (lo + (k : Int))) := by
  unfold rngD
  rw [List.map_map]
  rfl
theorem rng_mem {lo : Int} {n : Nat} {x : D} (h : x ∈ rngD lo n) : ∃ k : Nat, k < n ∧ x = .int (lo + (k : Int)) := by
  unfold rngD at h
  obtain ⟨k, hk, rfl⟩ := List.mem_map.mp h
  exact ⟨k, List.mem_range.mp hk, rfl⟩
theorem lc_rng {i : Nat} {vs : List Nat} {te : DTE} {r : DSt} {m : M} {lo : Int} {n : Nat} {Q : List D → M → Prop} (f : Nat → D) (hz : n ≤ sizeLine) (h : ∀ k : Nat, k < n → ∀ Q' : D → M → Prop, Q' (f k) m → te ((wipeD r vs).set i (some (.int (lo + (k : Int))))) m Q') (q : Q ((List.range n).map f) m) : dLcL (.one i) vs dYes te (rngD lo n) [] r m Q := by
  refine lc_pure (fun x => match x with | .int j => f (j - lo).toNat | _ => .non) (by rw [rngD_len]; simpa using hz) (fun x hx => ?_) ?_
  · obtain ⟨k, hk, rfl⟩ := rng_mem hx
    refine ⟨_, rfl, fun Q' q' => h k hk Q' ?_⟩
    have e : (lo + (k : Int) - lo).toNat = k := by omega
    dsimp only at q'
    rw [e] at q'
    exact q'
  · rw [rng_map, List.nil_append]
    have e : ((List.range n).map fun (k : Nat) => f (lo + (k : Int) - lo).toNat) = (List.range n).map f := by
      congr 1
      funext k
      congr 1
      omega
    dsimp only
    rw [e]
    exact q
section
variable {x y z u : D} {xs : List D}
theorem at0 : atI (x :: xs) 0 = some x := atI_nat (j := 0) rfl
theorem at1 : atI (x :: y :: xs) 1 = some y := atI_nat (j := 1) rfl
theorem at2 : atI (x :: y :: z :: xs) 2 = some z := atI_nat (j := 2) rfl
theorem at3 : atI (x :: y :: z :: u :: xs) 3 = some u := atI_nat (j := 3) rfl
theorem ix30 : ixN 3 0 = some 0 := by decide
theorem ix31 : ixN 3 1 = some 1 := by decide
theorem ix32 : ixN 3 2 = some 2 := by decide
theorem ix20 : ixN 2 0 = some 0 := by decide
theorem ix21 : ixN 2 1 = some 1 := by decide
theorem ix10 : ixN 1 0 = some 0 := by decide
end
section
variable {K : PySem.W.Frag} {m : M} {Q : D → M → Prop} {d : D}
theorem isi_ty {T S : String} {b : Bool} (h1 : tyName m d = some S) (h2 : PySem.W.kitOne K (.type S) (.type T) = some b) : dIsi K [d, .ty T] m Q ↔ Q (.bl b) m := by
  constructor
  · rintro ⟨d', c, b', e, ⟨u, hu, hd⟩, q⟩
    cases e
    rcases hu with ⟨T', e1, rfl⟩ | ⟨C, e1, rfl⟩
    · cases e1
      rcases hd with ⟨S', e2, e3⟩ | ⟨C, fs, e2, _, _⟩
      · rw [h1] at e2
        cases e2
        rw [h2] at e3
        cases e3
        exact q
      · rw [e2] at h1
        cases h1
    · cases e1
  · exact fun q => ⟨d, .ty T, b, rfl, ⟨_, .inl ⟨T, rfl, rfl⟩, .inl ⟨S, h1, h2⟩⟩, q⟩
theorem isi_ii {i : Int} : dIsi K [.int i, .ty "int"] m Q ↔ Q (.bl true) m := isi_ty rfl rfl
theorem isi_ib {i : Int} : dIsi K [.int i, .ty "bool"] m Q ↔ Q (.bl false) m := isi_ty rfl rfl
theorem isi_ll {xs : List D} : dIsi K [.lst xs, .ty "list"] m Q ↔ Q (.bl true) m := isi_ty rfl rfl
theorem isi_bb {b : Bool} : dIsi K [.bl b, .ty "bool"] m Q ↔ Q (.bl true) m := isi_ty rfl rfl
theorem isi_ss {x : Str} : dIsi K [.str x, .ty "str"] m Q ↔ Q (.bl true) m := isi_ty rfl rfl
theorem isi_tt {xs : List D} : dIsi K [.tup xs, .ty "tuple"] m Q ↔ Q (.bl true) m := isi_ty rfl rfl
theorem isi_is {i : Int} : dIsi K [.int i, .ty "str"] m Q ↔ Q (.bl false) m := isi_ty rfl rfl
theorem isi_si {x : Str} : dIsi K [.str x, .ty "int"] m Q ↔ Q (.bl false) m := isi_ty rfl rfl
end
end DL

set_option Elab.async false
set_option linter.all false
set_option maxRecDepth 100000
set_option maxHeartbeats 4000000
namespace DL
open PySem PySem.Spec PyProof.Rows L2
open He (ga ma eqO eqO_ok ba)
section
variable {X : Cx} {k : Nat} {f C : Addr} {fd : FuncData} {ps : List Str}
variable {sp : DSp}
end
section
variable {m : M} {Q : D → M → Prop} {i : Int}
theorem eq_nn : dEq .non .non m Q ↔ Q (.bl true) m := Iff.rfl
theorem ne_nn : dNe .non .non m Q ↔ Q (.bl false) m := Iff.rfl
end
end DL

set_option Elab.async false
set_option linter.all false
set_option maxRecDepth 100000
set_option maxHeartbeats 4000000
namespace DL
open PySem PySem.Spec PyProof.Rows L2
open He (ga ma eqO eqO_ok ba)
section
variable {X : Cx} {W : WX} {WD : DWX} {x : Str} {p pos pos' : Pos} {C : Addr} {bmB : List Value} {B newId initId : String}
def dRaise0 (C : Addr) (WD : DWX) : DTS := fun _ r m => WD ⟨C, []⟩ r m
structure ExC (K : PySem.W.Frag) (C : Addr) : Prop where
  q : PySem.W.excIn K C [.type "ValueError", .type "Exception", .type "BaseException", .type "object"] "ValueError.__new__" = true
  kC : PySem.W.keepIn K (.ref C) = true
  exC : PySem.W.subIn K (.ref C) (.type "BaseException") = some true
  tyC : PySem.W.typeIn K (.ref C) = some (.type "type")
end
def tSts (K : PySem.W.Frag) : List (Str × Nat) → TS
  | [] => tNext
  | (f, i) :: r => tSeq (tOst K f (tVar 0) (tVar i)) (tSts K r)
theorem sts_more {K : PySem.W.Frag} {C a dx : Addr} (T : OexC K C) : ∀ (l : List (Str × Nat)) (ws : List V) (σ : L2.St) (H : Hp) (fs : List (Str × V)) (E : Ends), (∀ q ∈ l, PySem.W.findIn K (.ref C) q.1 = some none) → l.length = ws.length → (∀ (j : Nat) (i : Nat × V), (l.map (·.2)).zip ws = (l.map (·.2)).zip ws → ((l.map (·.2)).zip ws)[j]? = some i → σ[i.1]? = some (some i.2)) → σ[0]? = some (some (.ref a)) → H a = some (exo a C (some dx)) → dx ≠ a → H dx = some (exd dx fs) → fs.length + l.length ≤ 900 →
    E.nx σ (upd H dx (exd dx (((l.map (·.1)).zip ws).reverse ++ fs))) → tSts K l E σ H
  | [], ws, σ, H, fs, E, _, hl, _, _, ha, _, hd, _, h => by
    have e : upd H dx (exd dx fs) = H := by
      funext b
      unfold upd
      by_cases hb : b = dx
      · rw [if_pos hb, hb, hd]
      · rw [if_neg hb]
    show E.nx σ H
    simpa [e] using h
  | (f, i) :: l, [], σ, H, fs, E, _, hl, _, _, _, _, _, _, _ => by cases hl
  | (f, i) :: l, w :: ws, σ, H, fs, E, hn, hl, hs, h0, ha, hne, hd, hz, h => by
    refine ⟨w, hs 0 (i, w) rfl rfl, .ref a, h0, a, C, rfl, T, hn _ List.mem_cons_self, .inr ⟨dx, fs, ha, hd, by omega, ?_⟩⟩
    refine sts_more T l ws σ _ _ E (fun q hq => hn q (List.mem_cons_of_mem _ hq)) (by simpa using hl) (fun j k _ hk => hs (j + 1) k rfl (by simpa using hk)) h0 (by rw [upd_ne (fun z => hne z.symm)]; exact ha) hne upd_same (by simp at hz ⊢; omega) ?_
    have e : ∀ o o', upd (upd H dx o) dx o' = upd H dx o' := fun o o' => by
      funext b
      unfold upd
      by_cases hb : b = dx
      · rw [if_pos hb, if_pos hb]
      · rw [if_neg hb, if_neg hb, if_neg hb]
    rw [e]
    simpa using h
def spX (C : Addr) (fs : List Str) : Sp := fun vs H Q _ => ∃ (a : Addr) (ws : List V), vs = .ref a :: ws ∧ ws.length = fs.length ∧ H a = some (exo a C none) ∧
  ∀ dx, H dx = none → dx ≠ a → Q .non (upd (upd H dx (exd dx (fs.zip ws).reverse)) a (exo a C (some dx)))
theorem zipIdx_fst : ∀ (l : List Str) (n : Nat), (l.zipIdx n).map (·.1) = l
  | [], _ => rfl
  | x :: l, n => by simp
theorem zip_slots : ∀ (l : List Str) (n : Nat) (ws : List V), l.length = ws.length → ∀ (j : Nat) (i : Nat × V), (((l.zipIdx n).map (·.2)).zip ws)[j]? = some i → i.1 = n + j ∧ ws[j]? = some i.2
  | [], _, _, _, j, i, h => by simp at h
  | x :: l, n, [], hl, _, _, _ => by cases hl
  | x :: l, n, w :: ws, hl, 0, i, h => by
    simp at h
    subst h
    simp
  | x :: l, n, w :: ws, hl, j + 1, i, h => by
    have := zip_slots l (n + 1) ws (by simpa using hl) j i (by simpa using h)
    refine ⟨by omega, by simpa using this.2⟩
theorem fn_exc {P : Program} {w : World} {K : PySem.W.Frag} {mg : Str → Option Value} {base : Heap} {x qual : Str} {params : Arguments} {body : List Stmt} {scope : Scope} {dvs : List V} {kws : List (Str × V)} {fI C : Addr} {fd : FuncData} {N ps : List Str} {f : Str} {fs : List Str} {k : Nat}
    (F : FunD K x qual params body scope dvs kws fI fd) (S : FnScope N ps scope) (T : OexC K C) (hn : ∀ g ∈ f :: fs, PySem.W.findIn K (.ref C) g = some none) (hps : ps.length = fs.length + 2) (hz : fs.length ≤ 100)
    (hb : ∀ (cdv : Value) (A : Around) (outer : List Env) (s : Shared) (H : Hp) (E : XK), PSs (CXo P w K mg base N qual scope fI cdv A outer s H E) body (tSts K ((f :: fs).zipIdx 1))) : FnOk P w K mg base (L2.CX P w) (k + 1) fI fd ps (spX C (f :: fs)) := by
  refine F.ok S (fun vs H Q E h => ?_) (fun cdv A outer s H vs Q E hr h => ?_)
  · obtain ⟨a, ws, rfl, hl, _⟩ := h
    simp at hl ⊢
    omega
  · obtain ⟨a, ws, rfl, hl, ha, q⟩ := h
    refine ⟨_, hb cdv A outer s H E, ?_⟩
    obtain ⟨w, ws, rfl⟩ : ∃ w r, ws = w :: r := by
      cases ws with
      | nil => cases hl
      | cons w r => exact ⟨w, r, rfl⟩
    have hlen : ws.length = fs.length := by simpa using hl
    have hσ : ∀ (j : Nat) (v : V), (.ref a :: w :: ws)[j]? = some v → (L2.start N (.ref a :: w :: ws))[j]? = some (some v) := fun j v e => by
      unfold L2.start
      have hj : j < (V.ref a :: w :: ws).length := by
        rcases Nat.lt_or_ge j (V.ref a :: w :: ws).length with h | h
        · exact h
        · rw [List.getElem?_eq_none h] at e
          cases e
      rw [List.getElem?_append_left (by rw [List.length_map]; exact hj), List.getElem?_map, e]
      rfl
    refine ⟨w, hσ 1 w rfl, .ref a, hσ 0 _ rfl, a, C, rfl, T, hn f List.mem_cons_self, .inl ⟨ha, fun dx hd hne => ?_⟩⟩
    refine sts_more T (fs.zipIdx 2) ws _ _ [(f, w)] _ (fun g hg => hn _ (List.mem_cons_of_mem _ ?_)) (by simp [hlen]) (fun j i _ e => ?_) (hσ 0 _ rfl) upd_same hne (by rw [upd_ne hne]; exact upd_same) (by simp; omega) ?_
    · have := List.mem_map_of_mem (f := (·.1)) hg
      rw [zipIdx_fst] at this
      exact this
    · obtain ⟨e1, e2⟩ := zip_slots fs 2 ws hlen.symm j i e
      rw [e1]
      refine hσ _ _ ?_
      rw [show 2 + j = j + 2 by omega]
      simpa using e2
    · have e := q dx hd hne
      rw [zipIdx_fst]
      have e2 : upd (upd (upd H dx (exd dx [(f, w)])) a (exo a C (some dx))) dx (exd dx ((fs.zip ws).reverse ++ [(f, w)])) = upd (upd H dx (exd dx ((f :: fs).zip (w :: ws)).reverse)) a (exo a C (some dx)) := by
        funext b
        unfold upd
        by_cases h1 : b = dx
        · subst h1
          rw [if_pos rfl, if_neg hne, if_pos rfl]
          simp
        · rw [if_neg h1]
          by_cases h2 : b = a
          · rw [if_pos h2, if_pos h2]
          · rw [if_neg h2, if_neg h2, if_neg h1, if_neg h1]
      rw [e2]
      exact e
section
variable {X : Cx} {W : WX} {WD : DWX} {x : Str} {p pos pos' : Pos} {C fI : Addr} {fs ps : List Str} {k : Nat} {fd : FuncData} {e : Expr} {es : List Expr} {ta : DTA}
def dRaise (C : Addr) (fs : List Str) (WD : DWX) (ta : DTA) : DTS := fun _ r m => ta r m fun ds m1 => ds.length = fs.length ∧ WD ⟨C, (fs.zip ds).reverse⟩ r m1
theorem rpf_zip {K : PySem.W.Frag} {G : Hp} : ∀ {fs : List Str} {ds : List D} {vs : List V}, Rps K G ds vs → Rpf K G (fs.zip ds) (fs.zip vs)
  | [], _, _, _ => .nil
  | _ :: _, _, _, .nil => .nil
  | _ :: _, _, _, .cons r rs => .cons r (rpf_zip rs)
theorem rpf_app {K : PySem.W.Frag} {G : Hp} : ∀ {a b : List (Str × D)} {u v : List (Str × V)}, Rpf K G a u → Rpf K G b v → Rpf K G (a ++ b) (u ++ v)
  | _, _, _, _, .nil, h => h
  | _, _, _, _, .cons r t, h => .cons r (rpf_app t h)
theorem rpf_rev {K : PySem.W.Frag} {G : Hp} : ∀ {a : List (Str × D)} {u : List (Str × V)}, Rpf K G a u → Rpf K G a.reverse u.reverse
  | _, _, .nil => .nil
  | _, _, .cons r t => by
    rw [List.reverse_cons, List.reverse_cons]
    exact rpf_app (rpf_rev t) (.cons r .nil)
theorem ds_raise (T : OexC X.K C) (iC : PySem.W.findIn X.K (.ref C) "__init__" = some (some (.ref fI))) (tI : PySem.W.typeIn X.K (.ref fI) = some (.type "function")) (F1 : FnOk X.prog X.w X.K X.mg X.base (L2.CX X.prog X.w) k fI fd ps (spX C fs)) (hr : Room (k + 1) X.A) (hb : Binds X.K fd ps []) (hg : Gl X x) (hm : X.mg x = some (.ref C)) (hz : fs.length ≤ 100) (hc : X.calm = true) (tk : Takes X W) (ha : DA X W WD (e :: es) ta)
    (hdb : (x == ("__debug__" : Str)) = false := by decide) (he : starEach (e :: es) X.env = (false, eval e X.env) :: starEach es X.env := by rfl) (hpl : (backTo pos (starEach es X.env)).any (·.1) = false := by rfl) :
    DS X W WD (.Raise (some (.Call (.Name x p) (e :: es) [] pos)) none pos') (dRaise C fs WD ta) := by
  refine PS.imp (ps_raise hc tk (pmk_oex T iC tI F1 hr hb .nil passL hg hm ha hdb he hpl)) fun E σ H h => ?_
  obtain ⟨G, F, r, m, DD, x, t, k⟩ := h
  refine ⟨G, F, r, m, _, x, t, fun G1 H1 m1 ds vs e1 r1 p1 t1 => ?_⟩
  obtain ⟨hl, t1⟩ := t1
  have hlv : vs.length = fs.length := by rw [← p1.length]; exact hl
  refine ⟨by omega, fun a ha => ⟨a, vs, by simp, hlv, upd_same, fun dx hd hne => ⟨rfl, dx, _, upd_same, by rw [upd_ne hne]; exact upd_same, by rw [upd_ne hne] at hd; exact hd, ?_⟩⟩⟩
  have hd1 : H1 dx = none := by rw [upd_ne hne] at hd; exact hd
  have eH : upd (del (upd (upd (upd H1 a (exo a C none)) dx (exd dx (fs.zip vs).reverse)) a (exo a C (some dx))) a) dx (.xd (fs.zip vs).reverse) = upd H1 dx (.xd (fs.zip vs).reverse) := by
    funext b
    unfold upd del
    by_cases h1 : b = dx
    · rw [if_pos h1, if_pos h1]
    · rw [if_neg h1, if_neg h1]
      by_cases h2 : b = a
      · rw [if_pos h2, h2, ha]
      · rw [if_neg h2]
        dsimp only
        rw [if_neg h2, if_neg h1, if_neg h2]
  rw [eH]
  obtain ⟨s2, r2⟩ := r1.froz (o := .xd (fs.zip vs).reverse) hd1
  exact x.lx _ _ m1 r σ C _ (some dx) (e1.trans s2) r2 ((x.rs.mono e1).mono s2) (.inr ⟨dx, _, rfl, upd_same, rpf_rev (rpf_zip (p1.mono s2))⟩) t1
end
section
variable {X : Cx} {W : WX} {WD : DWX} {x n : Str} {c : Addr} {i : Nat} {body suite : List Stmt} {b₀ : Stmt} {np pos pos' : Pos} {tb : DWX → DTS}
def dCatch (K : PySem.W.Frag) (c : Addr) (ts : DTS) (WD : DWX) (DD : DEnds) : DWX := fun x r m => ∃ b, PySem.W.exmOne K (.ref x.C) (.ref c) = some b ∧ (b = true → ts DD r m) ∧ (b = false → WD x r m)
def dTry (K : PySem.W.Frag) (c : Addr) (tb : DWX → DTS) (ts : DTS) (WD : DWX) : DTS := fun DD r m => tb (dCatch K c ts WD DD) DD r m
abbrev DTX := Addr → Addr → Option Addr → DTS
def dCatchAs (K : PySem.W.Frag) (c : Addr) (i : Nat) (ts : DTX) (WD : DWX) (DD : DEnds) : DWX := fun x r m => ∃ b, PySem.W.exmOne K (.ref x.C) (.ref c) = some b ∧
  (b = true → ∀ a d, m a = none → ts a x.C d { nx := fun r' m' => DD.nx (r'.set i none) m', rt := DD.rt, bk := fun r' m' => DD.bk (r'.set i none) m', ct := fun r' m' => DD.ct (r'.set i none) m' } (r.set i (some (.exn a d x.fs))) m) ∧ (b = false → WD x r m)
def dTryAs (K : PySem.W.Frag) (c : Addr) (i : Nat) (tb : DWX → DTS) (ts : DTX) (WD : DWX) : DTS := fun DD r m => tb (dCatchAs K c i ts WD DD) DD r m
theorem rp_exn {K : PySem.W.Frag} {G : Hp} {a : Addr} {d : Option Addr} {fs : List (Str × D)} (h : RpX K G d fs) : Rp K G (.exn a d fs) (.ref a) := by
  rcases h with ⟨rfl, rfl⟩ | ⟨dd, fv, rfl, h1, h2⟩
  · exact .exn0 a
  · exact .exnS h1 h2
theorem ds_try_as {ts : DTX} (hs : X.stack = X.env :: X.outer) (hf : X.env.frame = some X.env.locals) (hN : X.N.Nodup) (hi : X.N[i]? = some n) (hln : X.env.kindOf n = some .local) (hc : X.mg x = some (.ref c)) (hg : Gl X x) (tk : Takes X W)
    (hb : ∀ (W : WX) (WD : DWX) (pn : List (Addr × Obj)) (xe : Value → Shared → Prop), Takes (X.tr pn xe) W → PassesOwn (model X.prog X.w) X.A X.env xe → DSs (X.tr pn xe) W WD body (tb WD))
    (hsu : ∀ (a : Addr) (oe : Obj) (C : Addr) (d : Option Addr) (pn : List (Addr × Obj)), Zc (.ref C) d oe → (∃ vs, oe.data = .fields vs) → DSs (X.suite a ((a, oe) :: pn)) W0 WD0 (b₀ :: suite) (ts a C d)) (hdb : (x == ("__debug__" : Str)) = false := by decide) :
    DS X W WD (.Try body [.ExceptHandler (some (.Name x np)) (some n) (b₀ :: suite) pos'] [] [] pos) (dTryAs X.K c i tb ts WD) := by
  refine PS.imp (ps_try_as (i := i) (tb := fun W E σ H => ∃ WD', upS X.K W WD' (tb WD') E σ H) (ts := fun a cls d E σ H => ∃ C, cls = .ref C ∧ upS X.K W0 WD0 (ts a C d) E σ H) hs hf hN hi hln ⟨hg, hdb, .inl hc⟩ tk (fun W pn xe tk' hp' => ⟨fun pins s σ H E I h => ?_⟩) (fun a oe cls d pn hz hv => ⟨fun pins s σ H E I h => ?_⟩)) fun E σ H h => ?_
  · obtain ⟨WD', h⟩ := h
    exact (hb W WD' pn xe tk' hp').run pins s σ H E I h
  · obtain ⟨C, rfl, h⟩ := h
    exact (hsu a oe C d pn hz hv).run pins s σ H E I h
  · obtain ⟨G, F, r, m, DD, x, t, k⟩ := h
    refine ⟨dCatchAs X.K c i ts WD DD, G, F, r, m, DD, ⟨x.rep, x.rs, fun G' H' m' r' s' C fs d e r1 rs1 rx wd => ?_⟩, t, k⟩
    obtain ⟨b, eb, h1, h2⟩ := wd
    refine ⟨b, eb, fun hb a ha => ⟨C, rfl, G', F, _, m', _, ⟨r1, rs1.set (rp_exn rx), Lx.no⟩, h1 hb a d (r1.mfree ha), ?_⟩, fun hb => x.lx G' H' m' r' s' C fs d e r1 rs1 rx (h2 hb)⟩
    have k' := k.mono e
    exact ⟨fun G2 H2 m2 r2 s2 e2 rep2 rs2 t2 => k'.nx G2 H2 m2 _ _ e2 rep2 (rs_none rs2 i none) t2, k'.rt, fun G2 H2 m2 r2 s2 e2 rep2 rs2 t2 => k'.bk G2 H2 m2 _ _ e2 rep2 (rs_none rs2 i none) t2, fun G2 H2 m2 r2 s2 e2 rep2 rs2 t2 => k'.ct G2 H2 m2 _ _ e2 rep2 (rs_none rs2 i none) t2⟩
def dXf (a cls : Addr) (d : Option Addr) (C : Addr) (f : Str) (te : DTE) : DTE := fun r m Q => te r m fun v m1 => ∃ fs y, v = .exn a d fs ∧ cls = C ∧ fs.lookup f = some y ∧ Q y m1
theorem rpf_look {K : PySem.W.Frag} {G : Hp} {f : Str} : ∀ {a : List (Str × D)} {u : List (Str × V)} {y : D}, Rpf K G a u → a.lookup f = some y → ∃ v, u.lookup f = some v ∧ Rp K G y v
  | _, _, _, .nil, h => by cases h
  | _, _, y, .cons (n := n) (d := d) (v := v) r t, h => by
    rw [List.lookup_cons] at h ⊢
    cases e : f == n with
    | true =>
      rw [e] at h
      cases h
      exact ⟨v, rfl, r⟩
    | false =>
      rw [e] at h
      exact rpf_look t h
theorem de_xf {a cls C : Addr} {oe : Obj} {d : Option Addr} {pn : List (Addr × Obj)} {e : Expr} {te : DTE} {f : Str} {W : WX} {WD : DWX} (T : XfC X.K C) (hno : PySem.W.findIn X.K (.ref C) f = some none) (hz : Zc (.ref cls) d oe) (hf : ∃ vs, oe.data = .fields vs)
    (he : DE (X.suite a ((a, oe) :: pn)) W WD e te) (hb : attributeBase e f X.env (eval e X.env) = eval e X.env := by rfl) : DE (X.suite a ((a, oe) :: pn)) W WD (.Attribute e f pos) (dXf a cls d C f te) := by
  refine PE.imp (pe_xf T hno hz hf he hb) fun σ H Q h => ?_
  obtain ⟨G, F, r, m, QD, x, t, k⟩ := h
  refine ⟨G, F, r, m, _, x, t, fun G1 H1 m1 d1 v1 e1 r1 p1 t1 => ?_⟩
  obtain ⟨fs, y, rfl, rfl, hl, q⟩ := t1
  cases p1 with
  | exn0 a => cases hl
  | exnS h1 h2 =>
    obtain ⟨v, hv, rv⟩ := rpf_look h2 hl
    exact ⟨rfl, rfl, _, _, v, rfl, r1.ext _ _ h1, hv, k G1 H1 m1 y v e1 r1 rv q⟩
end
def oexIn (K : PySem.W.Frag) (C : Addr) : Bool := match K.lookup C with
  | some ⟨.type "type", _, .cls cd, sl⟩ => (match cd.mro, sl.toList with
    | .ref C' :: bm, [_, _, _, _, some (.builtin n), _] => C' == C && (n == "ValueError.__new__" && (!cd.hasDel && (cd.hasDict && PySem.HandSPX.refsVE bm)))
    | _, _ => false)
  | _ => false
theorem oex_in {K : PySem.W.Frag} {C : Addr} (q : oexIn K C = true) : ∃ nm q N bs bm sn sub ab col dd k0 k1 k2 k3 k5, K.lookup C = some (excClassObj nm q C N bs bm true sn sub ab col dd k0 k1 k2 k3 k5 "ValueError.__new__") ∧ PySem.HandSPX.refsVE bm = true := by
  unfold oexIn at q
  split at q
  · rename_i dd cd sl ho
    split at q
    · rename_i C' bm k0 k1 k2 k3 n k5 hm hs
      simp only [Bool.and_eq_true, beq_iff_eq, Bool.not_eq_true'] at q
      obtain ⟨rfl, rfl, hdel, hd, hr⟩ := q
      obtain ⟨nm, bs, mro, ns, qn, hd', sn, sub, ab, col, del⟩ := cd
      dsimp only at hm hdel hd
      subst hm hdel hd
      have hsl : sl = #[k0, k1, k2, k3, some (.builtin "ValueError.__new__"), k5] := by
        obtain ⟨l⟩ := sl
        simp only at hs
        rw [hs]
      subst hsl
      exact ⟨nm, qn, ns, bs, bm, sn, sub, ab, col, dd, k0, k1, k2, k3, k5, ho, hr⟩
    · cases q
  · cases q
def oexB (C : Str) (K : Fr0) : Bool := oexIn K (ga K C) && (eqO (PySem.W.findIn K (.ref (ga K C)) "__setattr__") (some (some (.builtin "object.__setattr__"))) && (PySem.W.keepIn K (.ref (ga K C)) && (decide (PySem.W.subIn K (.ref (ga K C)) (.type "BaseException") = some true) && (decide (PySem.W.typeIn K (.ref (ga K C)) = some (.type "type")) &&
  (eqO (PySem.W.findIn K (.ref (ga K C)) "__init__") (some (some (.ref (pad K C "__init__")))) && decide (PySem.W.typeIn K (.ref (pad K C "__init__")) = some (.type "function")))))))
theorem oex_of {K : Fr0} {C : Str} (h : oexB C K = true) : OexC K (ga K C) ∧ PySem.W.findIn K (.ref (ga K C)) "__init__" = some (some (.ref (ma K (ga K C) "__init__"))) ∧ PySem.W.typeIn K (.ref (ma K (ga K C) "__init__")) = some (.type "function") := by
  obtain ⟨h1, h⟩ := ba h
  obtain ⟨h2, h⟩ := ba h
  obtain ⟨h3, h⟩ := ba h
  obtain ⟨h4, h⟩ := ba h
  obtain ⟨h5, h⟩ := ba h
  obtain ⟨h6, h7⟩ := ba h
  exact ⟨⟨oex_in h1, eqO_ok h2, of_decide_eq_true h4, of_decide_eq_true h5, h3⟩, eqO_ok h6, of_decide_eq_true h7⟩
def nofB (C f : Str) (K : Fr0) : Bool := decide (PySem.W.findIn K (.ref (ga K C)) f = some none)
def exmB (C c : Str) (b : Bool) (K : Fr0) : Bool := decide (PySem.W.exmOne K (.ref (ga K C)) (.ref (ga K c)) = some b)
def xfcB (C : Str) (K : Fr0) : Bool := xfB K (ga K C)
end DL

set_option Elab.async false
set_option linter.all false
set_option maxRecDepth 100000
set_option maxHeartbeats 4000000
namespace DL
open PySem PySem.Spec PyProof.Rows L2
open He (ga ma eqO eqO_ok ba)
abbrev DTR := DSt → M → (Int → Int → M → Prop) → Prop
theorem PRg.imp {X : Cx} {e : Expr} {t t' : L2.St → Hp → (Int → Int → Hp → Prop) → Prop} (h : PRg X e t) (i : ∀ σ H R, t' σ H R → t σ H R) : PRg X e t' := fun pins s σ H R I q => h pins s σ H R I (i σ H R q)
section
variable {X : Cx} {W : WX} {WD : DWX} {a b e tg : Expr} {ta tb : DTE} {tr : DTR} {p pos : Pos}
def drR1 (ta : DTE) : DTR := fun r m Q => ta r m fun d m1 => ∃ n, d = .int n ∧ Q 0 n m1
def drR2 (ta tb : DTE) : DTR := fun r m Q => ta r m fun d m1 => tb r m1 fun d2 m2 => ∃ i j, d = .int i ∧ d2 = .int j ∧ Q i j m2
def revD (lo : Int) (n : Nat) : List D := (List.range n).map fun (k : Nat) => D.int (lo + (n : Int) - 1 - (k : Int))
def diRv (tr : DTR) : DTI := fun r m Q => tr r m fun a b m1 => (-(2 ^ 62) ≤ a ∧ a < 2 ^ 62 ∧ -(2 ^ 62) ≤ b ∧ b < 2 ^ 62) ∧ Q (revD a (b - a).toNat) m1
def dListR (mt : Bool) (tr : DTR) : DTE := fun r m Q => tr r m fun a b m1 => RgOk a b ∧ mkL mt (rngD a (b - a).toNat) m1 Q
end
structure SMet (K : PySem.W.Frag) (C : Addr) (m : Str) (p g : Addr) : Prop where
  rd : ClX.CRead K C (.type "type")
  at_ : PySem.W.findCls K (.ref C) (.type "type") m = some (.get (.builtin "staticmethod.__get__") (.ref p) .none (.ref C))
  rc : ∃ rest, PySem.W.recIn K p "staticmethod" = some (.ref g :: rest)
section
variable {X : Cx} {W : WX} {WD : DWX} {k : Nat} {C p g : Addr} {fd : FuncData} {ps : List Str} {sp : DSp} {x mn : Str} {np pos apos : Pos} {e : Expr} {es : List Expr} {t : DTA} {pl : Sem Bool}
end
section
variable {X : Cx} {W : WX} {WD : DWX} {k : Nat} {f C : Addr} {fd : FuncData} {ps : List Str} {sp : DSp} {a b : Expr} {ta tb : DTE} {pos : Pos}
def dAddO (C : Addr) (sp : DSp) (WD : DWX) (ta tb : DTE) : DTE := fun r m Q => ta r m fun x m1 => tb r m1 fun y m2 => ∃ fs gs, insOf m2 x = some (C, fs) ∧ insOf m2 y = some (C, gs) ∧ sp [x, y] m2 (fun d m' => (∃ C fs, d = .ins C fs) ∧ Q d m') fun x m2 => WD x r m2
def dInO (C : Addr) (sp : DSp) (b : Bool) : DR2 := fun x y m Q => ∃ fs, insOf m y = some (C, fs) ∧ sp [y, x] m (fun d m' => ∃ c : Bool, d = .bl c ∧ Q (.bl (c != b)) m') fun _ _ => False
end
end DL

set_option Elab.async false
set_option linter.all false
set_option maxRecDepth 100000
set_option maxHeartbeats 4000000
namespace DL
open PySem PySem.Spec PyProof.Rows L2
def clB : Nat → D → Bool
  | _, .non => true
  | _, .int _ => true
  | _, .str x => PyData.strOk x
  | n + 1, .lst xs => xs.all (clB n)
  | n + 1, .tup xs => xs.all (clB n)
  | _, _ => false
theorem cl_all {n : Nat} : ∀ {xs : List D}, (∀ x ∈ xs, ∃ p, toP x = some p ∧ p.canLay0 = true ∧ p.depth ≤ n) → ∃ ps, toPs xs = some ps ∧ PyData.canLayAll0 ps = true ∧ PyData.depthAll ps ≤ n
  | [], _ => ⟨[], by simp [toPs], rfl, by simp [PyData.depthAll]⟩
  | x :: xs, h => by
    obtain ⟨p, e, c, d⟩ := h x List.mem_cons_self
    obtain ⟨ps, e2, c2, d2⟩ := cl_all (xs := xs) fun y hy => h y (List.mem_cons_of_mem _ hy)
    refine ⟨p :: ps, by rw [toPs, e, e2]; rfl, ?_, ?_⟩
    · show (PyData.canLay0 p && PyData.canLayAll0 ps) = true
      rw [c, c2]; rfl
    · show max (PyData.depth p) (PyData.depthAll ps) ≤ n
      omega
theorem cl_toP : ∀ (n : Nat) (x : D), clB n x = true → ∃ p, toP x = some p ∧ p.canLay0 = true ∧ p.depth ≤ n
  | n, .non, _ => ⟨.none, by rw [toP], rfl, by simp [PyData.depth]⟩
  | n, .int i, _ => ⟨.int i, by rw [toP], rfl, by simp [PyData.depth]⟩
  | n, .str x, h => by
    refine ⟨.str x, by rw [toP], ?_, by simp [PyData.depth]⟩
    cases n <;> exact h
  | n + 1, .lst xs, h => by
    obtain ⟨ps, e, c, d⟩ := cl_all (n := n) fun x hx => cl_toP n x (List.all_eq_true.mp h x hx)
    exact ⟨.list ps, by rw [toP, e]; rfl, c, by show PyData.depthAll ps + 1 ≤ n + 1; omega⟩
  | n + 1, .tup xs, h => by
    obtain ⟨ps, e, c, d⟩ := cl_all (n := n) fun x hx => cl_toP n x (List.all_eq_true.mp h x hx)
    exact ⟨.tuple ps, by rw [toP, e]; rfl, c, by show PyData.depthAll ps + 1 ≤ n + 1; omega⟩
  | 0, .lst _, h => by cases h
  | 0, .tup _, h => by cases h
  | 0, .bl _, h => by cases h
  | 0, .ty _, h => by cases h
  | 0, .ref _, h => by cases h
  | 0, .rdl _, h => by cases h
  | 0, .ins _ _, h => by cases h
  | 0, .exn _ _ _, h => by cases h
  | 0, .dki _, h => by cases h
  | 0, .dti _, h => by cases h
  | 0, .obj _ _, h => by cases h
  | n + 1, .bl _, h => by cases h
  | n + 1, .ty _, h => by cases h
  | n + 1, .ref _, h => by cases h
  | n + 1, .rdl _, h => by cases h
  | n + 1, .ins _ _, h => by cases h
  | n + 1, .exn _ _ _, h => by cases h
  | n + 1, .dki _, h => by cases h
  | n + 1, .dti _, h => by cases h
  | n + 1, .obj _ _, h => by cases h
theorem toPs_cons {x : D} {xs : List D} {p : List PyData} (e : toPs (x :: xs) = some p) : ∃ a as, p = a :: as ∧ toP x = some a ∧ toPs xs = some as := by
  rw [toPs] at e
  cases e1 : toP x with
  | none => rw [e1] at e; cases e
  | some a =>
    rw [e1] at e
    cases e2 : toPs xs with
    | none => rw [e2] at e; cases e
    | some as => rw [e2] at e; cases e; exact ⟨a, as, rfl, rfl, rfl⟩
theorem cl_eqAll {n : Nat} (ih : ∀ (x y : D) (p q : PyData), clB n x = true → clB n y = true → toP x = some p → toP y = some q → (PyData.eqv p q = true ↔ x = y)) : ∀ (xs ys : List D) (ps qs : List PyData), xs.all (clB n) = true → ys.all (clB n) = true → toPs xs = some ps → toPs ys = some qs → (PyData.eqvAll ps qs = true ↔ xs = ys)
  | [], [], ps, qs, _, _, e1, e2 => by
    rw [toPs] at e1 e2; cases e1; cases e2
    exact ⟨fun _ => rfl, fun _ => by simp [PyData.eqvAll]⟩
  | [], y :: ys, ps, qs, _, _, e1, e2 => by
    rw [toPs] at e1; cases e1
    obtain ⟨a, as, rfl, _, _⟩ := toPs_cons e2
    simp [PyData.eqvAll]
  | x :: xs, [], ps, qs, _, _, e1, e2 => by
    rw [toPs] at e2; cases e2
    obtain ⟨a, as, rfl, _, _⟩ := toPs_cons e1
    simp [PyData.eqvAll]
  | x :: xs, y :: ys, ps, qs, c1, c2, e1, e2 => by
    obtain ⟨a, as, rfl, f1, f2⟩ := toPs_cons e1
    obtain ⟨b, bs, rfl, g1, g2⟩ := toPs_cons e2
    rw [List.all_cons, Bool.and_eq_true] at c1 c2
    have h1 := ih x y a b c1.1 c2.1 f1 g1
    have h2 := cl_eqAll ih xs ys as bs c1.2 c2.2 f2 g2
    rw [PyData.eqvAll, Bool.and_eq_true, h1, h2, List.cons.injEq]
theorem toP_lst {xs : List D} {p : PyData} (e : toP (.lst xs) = some p) : ∃ ps, p = .list ps ∧ toPs xs = some ps := by
  rw [toP] at e
  cases q : toPs xs with
  | none => rw [q] at e; cases e
  | some ps => rw [q] at e; cases e; exact ⟨ps, rfl, rfl⟩
theorem toP_tup {xs : List D} {p : PyData} (e : toP (.tup xs) = some p) : ∃ ps, p = .tuple ps ∧ toPs xs = some ps := by
  rw [toP] at e
  cases q : toPs xs with
  | none => rw [q] at e; cases e
  | some ps => rw [q] at e; cases e; exact ⟨ps, rfl, rfl⟩
theorem cl0 {x : D} (h : clB 0 x = true) : x = .non ∨ (∃ i, x = .int i) ∨ ∃ i, x = .str i := by
  cases x with
  | non => exact .inl rfl
  | int i => exact .inr (.inl ⟨i, rfl⟩)
  | str i => exact .inr (.inr ⟨i, rfl⟩)
  | _ => cases h
theorem cl_eqv : ∀ (n : Nat) (x y : D) (p q : PyData), clB n x = true → clB n y = true → toP x = some p → toP y = some q → (PyData.eqv p q = true ↔ x = y) := by
  intro n
  induction n with
  | zero =>
    intro x y p q c1 c2 e1 e2
    rcases cl0 c1 with rfl | ⟨i, rfl⟩ | ⟨i, rfl⟩ <;> rcases cl0 c2 with rfl | ⟨j, rfl⟩ | ⟨j, rfl⟩ <;> (rw [toP] at e1; rw [toP] at e2; cases e1; cases e2; simp [PyData.eqv])
  | succ n ih =>
    intro x y p q c1 c2 e1 e2
    cases x with
    | lst xs =>
      obtain ⟨ps, rfl, f1⟩ := toP_lst e1
      cases y with
      | lst ys =>
        obtain ⟨qs, rfl, f2⟩ := toP_lst e2
        have := cl_eqAll ih xs ys ps qs c1 c2 f1 f2
        rw [PyData.eqv, this, D.lst.injEq]
      | tup ys => obtain ⟨qs, rfl, f2⟩ := toP_tup e2; simp [PyData.eqv]
      | non => rw [toP] at e2; cases e2; simp [PyData.eqv]
      | int _ => rw [toP] at e2; cases e2; simp [PyData.eqv]
      | str _ => rw [toP] at e2; cases e2; simp [PyData.eqv]
      | _ => cases c2
    | tup xs =>
      obtain ⟨ps, rfl, f1⟩ := toP_tup e1
      cases y with
      | lst ys => obtain ⟨qs, rfl, f2⟩ := toP_lst e2; simp [PyData.eqv]
      | tup ys =>
        obtain ⟨qs, rfl, f2⟩ := toP_tup e2
        have := cl_eqAll ih xs ys ps qs c1 c2 f1 f2
        rw [PyData.eqv, this, D.tup.injEq]
      | non => rw [toP] at e2; cases e2; simp [PyData.eqv]
      | int _ => rw [toP] at e2; cases e2; simp [PyData.eqv]
      | str _ => rw [toP] at e2; cases e2; simp [PyData.eqv]
      | _ => cases c2
    | non =>
      rw [toP] at e1; cases e1
      cases y with
      | lst ys => obtain ⟨qs, rfl, f2⟩ := toP_lst e2; simp [PyData.eqv]
      | tup ys => obtain ⟨qs, rfl, f2⟩ := toP_tup e2; simp [PyData.eqv]
      | non => rw [toP] at e2; cases e2; simp [PyData.eqv]
      | int _ => rw [toP] at e2; cases e2; simp [PyData.eqv]
      | str _ => rw [toP] at e2; cases e2; simp [PyData.eqv]
      | _ => cases c2
    | int i =>
      rw [toP] at e1; cases e1
      cases y with
      | lst ys => obtain ⟨qs, rfl, f2⟩ := toP_lst e2; simp [PyData.eqv]
      | tup ys => obtain ⟨qs, rfl, f2⟩ := toP_tup e2; simp [PyData.eqv]
      | non => rw [toP] at e2; cases e2; simp [PyData.eqv]
      | int _ => rw [toP] at e2; cases e2; simp [PyData.eqv]
      | str _ => rw [toP] at e2; cases e2; simp [PyData.eqv]
      | _ => cases c2
    | str i =>
      rw [toP] at e1; cases e1
      cases y with
      | lst ys => obtain ⟨qs, rfl, f2⟩ := toP_lst e2; simp [PyData.eqv]
      | tup ys => obtain ⟨qs, rfl, f2⟩ := toP_tup e2; simp [PyData.eqv]
      | non => rw [toP] at e2; cases e2; simp [PyData.eqv]
      | int _ => rw [toP] at e2; cases e2; simp [PyData.eqv]
      | str _ => rw [toP] at e2; cases e2; simp [PyData.eqv]
      | _ => cases c2
    | _ => cases c1
def vD (m : M) : D → D
  | .ref a => match m a with
    | some (.lst xs) => .lst xs
    | _ => .ref a
  | d => d
theorem vD_ref {m : M} {a : Addr} {xs : List D} (h : m a = some (.lst xs)) : vD m (.ref a) = .lst xs := by
  show (match m a with | some (.lst xs) => D.lst xs | _ => D.ref a) = _
  rw [h]
theorem dat_vD {m : M} {n : Nat} {x : D} (c : clB n (vD m x) = true) : ∃ p, datOf m x = some p ∧ toP (vD m x) = some p ∧ p.canLay0 = true ∧ p.depth ≤ n := by
  obtain ⟨p, e, c1, d1⟩ := cl_toP n _ c
  refine ⟨p, ?_, e, c1, d1⟩
  cases x with
  | ref a =>
    cases q : m a with
    | none =>
      have : vD m (.ref a) = .ref a := by show (match m a with | some (.lst xs) => D.lst xs | _ => D.ref a) = _; rw [q]
      rw [this] at c
      cases n <;> cases c
    | some o =>
      cases o with
      | lst xs =>
        rw [vD_ref q, toP] at e
        dsimp only [datOf]
        rw [q]
        exact e
      | _ =>
        have : vD m (.ref a) = .ref a := by show (match m a with | some (.lst xs) => D.lst xs | _ => D.ref a) = _; rw [q]
        rw [this] at c
        cases n <;> cases c
  | _ => exact e
theorem eqB_data {x y : D} {b : Bool} (h : dEqB x y = some b) : b = true ↔ x = y := by
  cases x <;> cases y <;> first
    | (cases h; done)
    | (cases h; simp)
theorem eqB_vD {m : M} {x y : D} {b : Bool} (h : dEqB x y = some b) : vD m x = x ∧ vD m y = y := by
  cases x <;> cases y <;> first
    | (cases h; done)
    | exact ⟨rfl, rfl⟩
section
variable {m : M} {n : Nat} {x y : D} {Q : D → M → Prop}
theorem dNe_data (hn : n ≤ 64) (c1 : clB n (vD m x) = true) (c2 : clB n (vD m y) = true) (h : ∀ b : Bool, (b = true ↔ vD m x = vD m y) → Q (.bl !b) m) : dNe x y m Q := by
  unfold dNe
  cases e : dEqB x y with
  | some b =>
    obtain ⟨h1, h2⟩ := eqB_vD (m := m) e
    exact h b (by rw [h1, h2]; exact eqB_data e)
  | none =>
    obtain ⟨p, e1, f1, l1, d1⟩ := dat_vD c1
    obtain ⟨q, e2, f2, l2, d2⟩ := dat_vD c2
    refine ⟨p, q, e1, e2, ?_, ?_, h _ (cl_eqv n _ _ p q c1 c2 f1 f2)⟩
    · unfold SeqAt.shaped; rw [l1, decide_eq_true (by omega)]; rfl
    · unfold SeqAt.shaped; rw [l2, decide_eq_true (by omega)]; rfl
end
end DL

set_option Elab.async false
set_option linter.all false
set_option maxRecDepth 100000
set_option maxHeartbeats 4000000
namespace DL
open PySem PySem.Spec PyProof.Rows L2
open He (ga ma eqO eqO_ok ba)
def chars (z : Str) : List D := z.cps.toList.map fun c => D.str ⟨#[c]⟩
theorem chars_len (z : Str) : (chars z).length = z.cps.size := by simp [chars]
theorem it_str {K : PySem.W.Frag} {G : Hp} (z : Str) : ItD K (Its z) G (chars z) where
  stop := fun H e => by rw [chars_len]; exact Nat.le_refl _
  go := fun i H hi e => by rw [chars_len] at hi; exact hi
  yld := fun i G1 H F m x H' d e rep hd y => by
    obtain ⟨rfl, c, hc, rfl⟩ := y
    unfold chars at hd
    rw [List.getElem?_map] at hd
    have : z.cps.toList[i]? = some c := by simpa using hc
    rw [this] at hd
    cases hd
    exact ⟨G1, Same.refl G1, rep, .str _⟩
def enumD (ds : List D) : List D := ds.zipIdx.map fun p => .tup [.int (p.2 : Nat), p.1]
theorem enumD_len (ds : List D) : (enumD ds).length = ds.length := by simp [enumD]
theorem enumD_at {ds : List D} {i : Nat} {d : D} (h : (enumD ds)[i]? = some d) : ∃ x, ds[i]? = some x ∧ d = .tup [.int (i : Nat), x] := by
  unfold enumD at h
  rw [List.getElem?_map] at h
  cases q : ds.zipIdx[i]? with
  | none => rw [q] at h; cases h
  | some p =>
    rw [q] at h
    cases h
    rw [List.getElem?_zipIdx] at q
    cases q2 : ds[i]? with
    | none => rw [q2] at q; cases q
    | some x =>
      rw [q2] at q
      cases q
      exact ⟨x, rfl, by simp⟩
theorem it_enum {K : PySem.W.Frag} {G : Hp} {a : Addr} {vs : List V} {ds : List D} (h : SqL K G a vs) (r : Rps K G ds vs) : ItD K (Ite K a) G (enumD ds) where
  stop := fun H e => ⟨vs, e.seq h, by rw [enumD_len, r.length]; exact Nat.le_refl _⟩
  go := fun i H hi e => by
    rw [enumD_len] at hi
    have hv : i < vs.length := by rw [← r.length]; exact hi
    exact ⟨vs, vs[i], e.seq h, by simp [hv]⟩
  yld := fun i G1 H F m x H' d e rep hd y => by
    obtain ⟨T, v, rfl, hT, rfl, hy⟩ := y
    obtain ⟨u, hu, rfl⟩ := enumD_at hd
    obtain ⟨w, h1, h2⟩ := r.get hu
    have q := hy vs ((e.trans rep.ext).seq h)
    rw [h1] at q
    cases q
    obtain ⟨e2, r2⟩ := rep.froz (o := .tup [.int (i : Nat), v]) hT
    exact ⟨_, e2, r2, .tup (SqT.of upd_same) (.cons (.int _) (.cons (h2.mono (e.trans e2)) .nil))⟩
section
variable {X : Cx} {W : WX} {WD : DWX} {tg : Expr}
def diS (te : DTE) : DTI := fun r m Q => te r m fun d m1 => match d with
  | .str z => Q (chars z) m1
  | _ => False
theorem di_str {l : Expr} {te : DTE} (hl : DE X W WD l te) : DI X W WD tg l (diS te) := by
  refine PI.imp (pi_str hl) fun σ H R h => ?_
  obtain ⟨G, F, r, m, QD, x, t, k⟩ := h
  refine ⟨G, F, r, m, _, x, t, fun G1 H1 m1 d1 v1 e1 r1 p1 t1 => ?_⟩
  cases d1 with
  | str z => cases p1; exact ⟨_, rfl, k G1 H1 m1 _ _ e1 r1 (it_str z) t1⟩
  | _ => exact t1.elim
def diE (ta : DTA) : DTI := fun r m Q => ta r m fun ds m1 => match ds with
  | [.lst xs] => Q (enumD xs) m1
  | [.rdl xs] => Q (enumD xs) m1
  | _ => False
theorem di_enum {e : Expr} {ta : DTA} {p pos tpos : Pos} {elts : List Expr} {kk : Nat} (hg : Gl X "enumerate") (hm : X.mg "enumerate" = none) (ha : DA X W WD [e] ta) (hs : starEach [e] X.env = [(false, eval e X.env)] := by rfl) : DI X W WD (.Tuple elts kk tpos) (.Call (.Name "enumerate" p) [e] [] pos) (diE ta) := by
  refine PI.imp (pi_enum hg hm ha hs) fun σ H R h => ?_
  obtain ⟨G, F, r, m, QD, x, t, k⟩ := h
  refine ⟨G, F, r, m, _, x, t, fun G1 H1 m1 ds vs e1 r1 p1 t1 => ?_⟩
  match ds, t1 with
  | [.lst xs], t1 =>
    obtain ⟨v, rfl, q⟩ := rps1 p1
    cases q with | lst h1 q1 => exact ⟨_, _, rfl, SqL.of (r1.ext _ _ h1), k G1 H1 m1 _ _ e1 r1 (it_enum (SqL.of h1) q1) t1⟩
  | [.rdl xs], t1 =>
    obtain ⟨v, rfl, q⟩ := rps1 p1
    cases q with | rdl h1 q1 => exact ⟨_, _, rfl, r1.ext.seq h1, k G1 H1 m1 _ _ e1 r1 (it_enum h1 q1) t1⟩
end
section
variable {X : Cx} {W : WX} {WD : DWX}
def dFmt (te : DTE) : DTE := fun r m Q => te r m fun d m1 => match d with
  | .str y => y.length ≤ sizeLine ∧ Q (.str y) m1
  | .int i => i.natAbs.log2 < 1920 ∧ Q (.str (toString i)) m1
  | _ => False
def dJs : List DTE → Str → DSt → M → (Str → M → Prop) → Prop
  | [], acc, _, m, Q => Q acc m
  | t :: ts, acc, r, m, Q => t r m fun d m1 => ∃ y : Str, d = .str y ∧ (acc ++ y).length ≤ sizeLine ∧ dJs ts (acc ++ y) r m1 Q
def dFStr (ts : List DTE) : DTE := fun r m Q => dJs ts Str.empty r m fun out m1 => Q (.str out) m1
inductive DJ (X : Cx) (W : WX) (WD : DWX) : List Expr → List DTE → Prop where
  | nil : DJ X W WD [] []
  | cons {e : Expr} {t : DTE} {es : List Expr} {ts : List DTE} (h : DE X W WD e t) (r : DJ X W WD es ts) : DJ X W WD (e :: es) (t :: ts)
theorem DJ.pj {es : List Expr} {ts : List DTE} (h : DJ X W WD es ts) : PJ X es (ts.map (up X.K W WD)) := by
  induction h with
  | nil => exact .nil
  | cons h _ ih => exact .cons h ih
end
section
variable {K : PySem.W.Frag} {x qual : Str} {params : Arguments} {body : List Stmt} {scope : Scope} {dvs : List V} {kws : List (Str × V)} {f : Addr} {fd : FuncData} {ps : List Str}
theorem kbn_all (F : FunD K x qual params body scope [] kws f fd) (n : Nat) (ks : List Str)
    (h : ∀ (kV doc pm : Value) (an : Option Addr) (cdv ct : Value) (us ws : List Value), us.length = n → ws.length = ks.length → bindArgs (PySem.W.fnOf x qual params body scope .none kV doc pm an cdv ct) ⟨us, ks.zip ws⟩ = pure (ps.zip (us ++ ws))) : KBn K fd ps n ks (fun us ws => us ++ ws) (fun vs zs => vs ++ zs) := by
  obtain ⟨oc, od, dV, kV, doc, pm, an, cdv, ct, osl, rfl, lk, hcd, hD, hK⟩ := F.ex
  rcases hD with ⟨_, rfl⟩ | ⟨e, _⟩
  · exact ⟨fun s us ws X l1 l2 => .of_eq (h kV doc pm an cdv ct us ws l1 l2), fun r1 r2 => r1.append r2⟩
  · exact absurd rfl e
end
structure GoodK (P : Program) (w : World) (K : Fr0) (mg : Str → Option Value) (base : Heap) (k : Nat) (x : Option Str) (f : Addr) (ps : List Str) (sp : DSp) (n : Nat) (ks : List Str) (dds : List D) : Prop where
  ex : ∃ fd, FnOk P w K mg base (L2.CX P w) k f fd ps (liftSp K sp) ∧ PySem.W.keepIn K (.ref f) = true ∧ KBn K fd ps n ks (fun us ws => us ++ ws) (fun vs zs => vs ++ zs) ∧ ∃ ds dvs, Vals dvs ds ∧ Binds K fd ps ds ∧ ∀ G, Rps K G dds dvs
  gl : match x with
    | some x => mg x = some (.ref f)
    | none => True
structure GoodD (P : Program) (w : World) (K : Fr0) (mg : Str → Option Value) (base : Heap) (k : Nat) (x : Option Str) (f : Addr) (ps : List Str) (sp : DSp) (dds : List D) : Prop where
  ex : ∃ fd, FnOk P w K mg base (L2.CX P w) k f fd ps (liftSp K sp) ∧ PySem.W.keepIn K (.ref f) = true ∧ Binds K fd ps [] ∧ ∃ ds dvs, Vals dvs ds ∧ Binds K fd ps ds ∧ ∀ G, Rps K G dds dvs
  gl : match x with
    | some x => mg x = some (.ref f)
    | none => True
section
variable {X : Cx} {W : WX} {WD : DWX} {k n : Nat} {f : Addr} {fd : FuncData} {ps ks : List Str} {sp : DSp} {x : Str} {p pos kpos : Pos} {e : Expr} {es : List Expr} {kws : List Keyword} {t tk : DTA} {te : DTE} {nm : Option Str} {g : List Value → List Value → List Value} {gV : List V → List V → List V}
abbrev DK (X : Cx) (W : WX) (WD : DWX) (kws : List Keyword) (t : DTA) : Prop := PK X kws (upA X.K W WD t)
theorem PK.imp {t t' : TA} (h : PK X kws t) (i : ∀ σ H Q, t' σ H Q → t σ H Q) : PK X kws t' := ⟨fun pos pins s σ H Q I q => h.run pos pins s σ H Q I (i σ H Q q)⟩
theorem dk_nil : DK X W WD [] daNil := by
  refine PK.imp pk_nil fun σ H Q h => ?_
  obtain ⟨G, F, ρ, m, QD, x, t, k⟩ := h
  exact k G H m [] [] (Same.refl G) x.rep .nil t
theorem dk_cons (ha : DE X W WD e te) (hr : DK X W WD kws t) : DK X W WD (⟨nm, e, kpos⟩ :: kws) (daCons te t) := by
  refine PK.imp (pk_cons ha hr) fun σ H Q h => ?_
  obtain ⟨G, F, ρ, m, QD, x, t, k⟩ := h
  refine ⟨G, F, ρ, m, _, x, t, fun G1 H1 m1 d1 v1 e1 r1 p1 t1 => ?_⟩
  exact ⟨G1, F, ρ, m1, _, x.step e1 r1, t1, fun G2 H2 m2 ds vs e2 r2 p2 t2 => k G2 H2 m2 (d1 :: ds) (v1 :: vs) (e1.trans e2) r2 (.cons (p1.mono e2) p2) t2⟩
def dCallN (n j : Nat) (sp : DSp) (WD : DWX) (t tk : DTA) : DTE := fun r m Q => t r m fun ds m1 => tk r m1 fun zs m2 => ds.length = n ∧ zs.length = j ∧ sp (ds ++ zs) m2 Q fun x m3 => WD x r m3
end
def tup0B (ad : Fr0 → Addr) (K : Fr0) : Bool := match K.lookup (ad K) with
  | some ⟨.type "tuple", _, .seq its _, _⟩ => its.size == 0
  | _ => false
theorem tup0_of {ad : Fr0 → Addr} {K : Fr0} (h : tup0B ad K = true) (G : Hp) : Rps K G [.tup []] [.ref (ad K)] := by
  unfold tup0B at h
  split at h
  · rename_i od its n sl e
    have hz : its.size = 0 := by simpa using h
    have : its.toList = [] := by
      have : its.toList.length = 0 := by simpa using hz
      exact List.eq_nil_of_length_eq_zero this
    refine .cons (.tup (vs := []) (.inr ⟨_, its, n, e, rfl, rfl, by rw [hz]; exact Nat.zero_le _, ?_⟩) .nil) .nil
    rw [this]
    exact .nil
  · cases h
end DL

set_option Elab.async false
set_option linter.all false
set_option maxRecDepth 100000
set_option maxHeartbeats 4000000
namespace DL
open PySem PySem.Spec PyProof.Rows L2
theorem Rep.lend {K : PySem.W.Frag} {G H F : Hp} {m : M} {a : Addr} {xs : List D} (r : Rep K G H F m) (h : m a = some (.lst xs)) : ∃ vs, F a = none ∧ Rps K G xs vs ∧ Rep K G H (upd F a (.lst vs)) (mdel m a) := by
  obtain ⟨g1, f1, w, h3, h4⟩ := r.mo a _ h
  obtain ⟨vs, rfl, h4⟩ := h4.ofLst
  refine ⟨vs, f1, h4, r.ext, fun b v e => ?_, fun b v e => ?_, fun b v e => ?_, r.tb, r.gt, nt_upd r.ft ⟨fun _ e => (by cases e), fun _ e => (by cases e)⟩⟩
  · by_cases hb : b = a
    · subst hb; rw [upd_same] at e; rw [← e]; exact h3
    · rw [upd_ne hb] at e; exact r.frm b v e
  · by_cases hb : b = a
    · subst hb; exact g1
    · rw [upd_ne hb] at e; exact r.dis b v e
  · by_cases hb : b = a
    · subst hb; rw [mdel_same] at e; cases e
    · rw [mdel_ne hb] at e
      obtain ⟨h1, h2, u, h5, h6⟩ := r.mo b v e
      exact ⟨h1, by rw [upd_ne hb]; exact h2, u, h5, h6⟩
theorem upd_comm {H : Hp} {a b : Addr} {o u : HO} (h : a ≠ b) : upd (upd H a o) b u = upd (upd H b u) a o := by
  funext c
  unfold upd
  by_cases e : c = a
  · subst e; rw [if_neg h, if_pos rfl, if_pos rfl]
  · by_cases e2 : c = b
    · subst e2; rw [if_pos rfl, if_neg e, if_pos rfl]
    · rw [if_neg e2, if_neg e, if_neg e, if_neg e2]
def dLcM (mt : Bool) (ti : DTE) (c : CT) (vs : List Nat) (tt : DTT) (te : DTE) : DTE := fun r m Q => ti r m fun d m1 => ∃ a xs, d = .ref a ∧ m1 a = some (.lst xs) ∧ dLcL c vs tt te xs [] r (mdel m1 a) fun acc m2 => m2 a = none → mkL mt acc (mset m2 a (.lst xs)) Q
section
variable {X : Cx} {W : WX} {WD : DWX}
theorem lc_upM {K : PySem.W.Frag} {ti : DTE} {c : CT} {vs : List Nat} {tt : DTT} {te : DTE} {mt : Bool} {σ : L2.St} {H : Hp} {Q : VK} (hc : c.in vs) (h : up K W WD (dLcM mt ti c vs tt te) σ H Q) : tLc (fun σ H R => up K W WD ti σ H fun v H1 => ∃ a, v = .ref a ∧ (∃ xs, SqL K H1 a xs) ∧ R (Itl K a) H1) (ctG K c) (upT K W0 WD0 tt) (up K W0 WD0 te) vs σ H Q := by
  obtain ⟨G, F, r, m, QD, x, t, k⟩ := h
  refine ⟨G, F, r, m, _, x, t, fun G1 H1 m1 d1 v1 e1 r1 p1 t1 => ?_⟩
  obtain ⟨a, xs, rfl, hm, t1⟩ := t1
  cases p1
  obtain ⟨us, hFa, rxs, r1'⟩ := r1.lend hm
  have ha1 : H1 a = some (.lst us) := r1'.frm a _ upd_same
  refine ⟨a, rfl, ⟨us, SqL.of ha1⟩, ?_⟩
  intro Dl hD
  have hF : (upd F a (.lst us)) Dl = none := r1'.frm.free hD
  have hDa : Dl ≠ a := fun z => by subst z; rw [ha1] at hD; cases hD
  refine ⟨fun i n H => n = xs.length - i ∧ i ≤ xs.length ∧ ∃ G2 m2 acc va, Same G1 G2 ∧ Rep K G2 H (upd (upd F a (.lst us)) Dl (.lst va)) m2 ∧ Rps K G2 acc va ∧ dLcL c vs tt te (xs.drop i) acc r m2 (fun acc m => m a = none → mkL mt acc (mset m a (.lst xs)) QD), ⟨xs.length, rfl, Nat.zero_le _, G1, _, [], [], Same.refl G1, r1'.hide hD, .nil, t1⟩, ?_⟩
  rintro i n H2 ⟨rfl, hi, G2, m2, acc, va, e2, rep2, ra, t2⟩
  have ha2 : H2 a = some (.lst us) := rep2.frm a _ (by rw [upd_ne (fun z => hDa z.symm), upd_same])
  by_cases hlt : i < xs.length
  · have hdrop : xs.drop i = xs[i] :: xs.drop (i + 1) := (List.getElem_cons_drop hlt).symm
    rw [hdrop] at t2
    obtain ⟨r2, ec, t2⟩ := t2
    have hv : i < us.length := by rw [← rxs.length]; exact hlt
    refine .inr ⟨⟨us, us[i], SqL.of ha2, by simp [hv]⟩, fun H3 => ∃ G3 m3 acc va, Same G1 G3 ∧ Rep K G3 H3 (upd (upd F a (.lst us)) Dl (.lst va)) m3 ∧ Rps K G3 acc va ∧ dLcL c vs tt te (xs.drop (i + 1)) acc r m3 (fun acc m => m a = none → mkL mt acc (mset m a (.lst xs)) QD), fun H3 h3 => ⟨xs.length - (i + 1), by omega, rfl, hlt, h3⟩, fun v H3 y => ?_⟩
    obtain ⟨rfl, y⟩ := y
    obtain ⟨w, hw1, hw2⟩ := rxs.get (show xs[i]? = some xs[i] by simp [hlt])
    have q := y us (SqL.of ha2)
    rw [hw1] at q
    cases q
    have p3 : Rp K G2 xs[i] v := hw2.mono e2
    have e03 : Same G G2 := e1.trans e2
    refine ct_ok hc (rs_wipe (x.rs.mono e03) vs) p3 ec rep2.ext fun s2 rs2 w2 => ?_
    refine ⟨w2.trans (wipe_wipe σ vs vs fun _ h => h), G2, _, r2, m2, _, ⟨rep2, rs2, Lx.no⟩, t2, fun G4 H4 m4 b e4 rep4 t4 => ?_⟩
    cases b with
    | false => exact ⟨G4, m4, acc, va, e2.trans e4, rep4, ra.mono e4, t4⟩
    | true =>
      refine ⟨G4, _, r2, m4, _, ⟨rep4, rs2.mono e4, Lx.no⟩, t4, fun G5 H5 m5 d v e5 rep5 p5 t5 => ?_⟩
      have ra5 := ra.mono (e4.trans e5)
      exact ⟨va, rep5.frm Dl _ upd_same, by rw [← ra5.length]; exact t5.1, G5, m5, acc ++ [d], va ++ [v], (e2.trans e4).trans e5, rep5.turn, ra5.append (.cons p5 .nil), t5.2⟩
  · have e : i = xs.length := by omega
    subst e
    rw [List.drop_length] at t2
    refine .inl ⟨⟨us, SqL.of ha2, by rw [rxs.length]; exact Nat.le_refl _⟩, ?_⟩
    have hFD : F Dl = none := by rw [upd_ne hDa] at hF; exact hF
    rw [upd_comm (fun z => hDa z.symm)] at rep2
    obtain ⟨ma, rep3⟩ := rep2.outM (by rw [upd_ne (fun z => hDa z.symm)]; exact hFa) (rxs.mono e2)
    have t3 := t2 ma
    cases mt with
    | false =>
      obtain ⟨e3, rep4, p4⟩ := rep3.outL hFD ra
      exact k _ H2 _ _ _ ((e1.trans e2).trans e3) rep4 p4 t3
    | true =>
      obtain ⟨mp, rep4⟩ := rep3.outM hFD ra
      exact k _ H2 _ _ _ (e1.trans e2) rep4 (.ref Dl) (t3 Dl mp)
theorem de_lcM (mt : Bool) {elt tg iter : Expr} {ifs : List Expr} {scope : Scope} {own : List (Str × Nat)} {pos : Pos} {ti : DTE} {c : CT} {tt : DTT} {te : DTE} (hc : X.calm = true) (hN : X.N.Nodup) (hin : c.in (own.map (·.2))) (hi : DE X W WD iter ti) (ok : BlkOk X.N X.env.scope scope own)
    (hg : ∀ (s : Shared) (H : Hp) (C : Addr) (cl : List (Str × Addr)) (fp : List Addr), PG (X.blk s H scope (compEnvC scope cl C X.env) fp) tg (ctG X.K c)) (ht : ∀ (s : Shared) (H : Hp) (C : Addr) (cl : List (Str × Addr)) (fp : List Addr), DTs (X.blk s H scope (compEnvC scope cl C X.env) fp) W0 WD0 ifs tt)
    (he : ∀ (s : Shared) (H : Hp) (C : Addr) (cl : List (Str × Addr)) (fp : List Addr), DE (X.blk s H scope (compEnvC scope cl C X.env) fp) W0 WD0 elt te) (hs : ∀ x, foldedSetIterable iter X.env x = pure x := by intro _; rfl) :
    DE X W WD (.ListComp elt [⟨tg, iter, ifs, 0⟩] scope pos) (dLcM mt ti c (own.map (·.2)) tt te) :=
  PE.imp (pe_lc hc hN (pi_list hi) ok hg ht he hs) fun _ _ _ h => lc_upM hin h
end
theorem lcM_pure {mt : Bool} {ti : DTE} {c : CT} {vs : List Nat} {te : DTE} {r : DSt} {m : M} {a : Addr} {xs : List D} {Q : D → M → Prop} (f : D → D) (ht : ∀ Q' : D → M → Prop, Q' (.ref a) m → ti r m Q') (ha : m a = some (.lst xs)) (hz : xs.length ≤ sizeLine)
    (h : ∀ x ∈ xs, ∃ r2, ctD c x (wipeD r vs) = some r2 ∧ ∀ Q' : D → M → Prop, Q' (f x) (mdel m a) → te r2 (mdel m a) Q') (q : mkL mt (xs.map f) m Q) : dLcM mt ti c vs dYes te r m Q := by
  refine ht _ ⟨a, xs, rfl, ha, lc_pure f (by simpa using hz) h fun _ => ?_⟩
  have e : mset (mdel m a) a (.lst xs) = m := by
    funext b
    unfold mset mdel
    by_cases hb : b = a
    · rw [if_pos hb, hb, ha]
    · rw [if_neg hb, if_neg hb]
  rw [e, List.nil_append]
  exact q
end DL

set_option Elab.async false
set_option linter.all false
set_option maxRecDepth 100000
set_option maxHeartbeats 4000000
namespace DL
open PySem PySem.Spec PyProof.Rows L2
open He (ga ma eqO eqO_ok ba)
def dflA (f : Fr0 → Addr) (i : Nat) (K : Fr0) : Addr := match K.lookup (f K) with
  | some ⟨_, _, .func fd, _⟩ => (match fd.defaults with
    | .ref T => (match K.lookup T with
      | some ⟨_, _, .seq its _, _⟩ => (match its.toList[i]? with
        | some (.ref a) => a
        | _ => 0)
      | _ => 0)
    | _ => 0)
  | _ => 0
theorem frz_l {m : M} {a : Addr} {ds : List D} {Q : D → M → Prop} : frzV (mset m a (.lst ds)) (.ref a) Q ↔ Q (.lst ds) (mdel (mset m a (.lst ds)) a) := by
  unfold frzV
  dsimp only
  rw [mset_same]
theorem in_ss {i j : Str} {m : M} {Q : D → M → Prop} : dIn false (.str i) (.str j) m Q ↔ Q (.bl (!(Builtin.Str.occurrences j i 0 j.length 1).isEmpty)) m := Iff.rfl
theorem notin_ss {i j : Str} {m : M} {Q : D → M → Prop} : dIn true (.str i) (.str j) m Q ↔ Q (.bl (!(!(Builtin.Str.occurrences j i 0 j.length 1).isEmpty))) m := Iff.rfl
theorem inD_strs (x : Str) : ∀ zs : List Str, inD (.str x) (zs.map D.str) = decide (x ∈ zs)
  | [] => rfl
  | z :: zs => by
    have ih := inD_strs x zs
    unfold inD at ih ⊢
    rw [List.map_cons, List.any_cons, ih]
    show ((z == x) || decide (x ∈ zs)) = _
    by_cases h : z = x
    · subst h; simp
    · have h2 : (z == x) = false := by simpa using h
      rw [h2, Bool.false_or]
      refine decide_eq_decide.mpr ⟨List.mem_cons_of_mem _, fun hm => ?_⟩
      rcases List.mem_cons.mp hm with e | e
      · exact absurd e.symm h
      · exact e
theorem flat_strs (zs : List Str) : (zs.map D.str).all flatD = true := by
  rw [List.all_map, List.all_eq_true]
  intro _ _
  rfl
theorem in_strs {x : Str} {zs : List Str} {m : M} {d : D} {Q : D → M → Prop} (hd : sqOf m d = some (zs.map D.str)) (q : Q (.bl (decide (x ∈ zs))) m) : dIn false (.str x) d m Q := by
  cases d with
  | str j => cases hd
  | _ => exact ⟨_, hd, rfl, flat_strs zs, by rw [inD_strs]; exact q⟩
def clR : Nat → D → Bool
  | _, .non => true
  | _, .bl _ => true
  | _, .int _ => true
  | _, .str x => PyData.strOk x
  | n + 1, .lst xs => xs.all (clR n)
  | n + 1, .tup xs => xs.all (clR n)
  | _, _ => false
theorem clR_toP : ∀ (n : Nat) (x : D), clR n x = true → ∃ p, toP x = some p ∧ p.canLay0 = true ∧ p.depth ≤ n
  | n, .non, _ => ⟨.none, by rw [toP], rfl, by simp [PyData.depth]⟩
  | n, .bl i, _ => ⟨.bool i, by rw [toP], rfl, by simp [PyData.depth]⟩
  | n, .int i, _ => ⟨.int i, by rw [toP], rfl, by simp [PyData.depth]⟩
  | n, .str x, h => by
    refine ⟨.str x, by rw [toP], ?_, by simp [PyData.depth]⟩
    cases n <;> exact h
  | n + 1, .lst xs, h => by
    obtain ⟨ps, e, c, d⟩ := cl_all (n := n) fun x hx => clR_toP n x (List.all_eq_true.mp h x hx)
    exact ⟨.list ps, by rw [toP, e]; rfl, c, by show PyData.depthAll ps + 1 ≤ n + 1; omega⟩
  | n + 1, .tup xs, h => by
    obtain ⟨ps, e, c, d⟩ := cl_all (n := n) fun x hx => clR_toP n x (List.all_eq_true.mp h x hx)
    exact ⟨.tuple ps, by rw [toP, e]; rfl, c, by show PyData.depthAll ps + 1 ≤ n + 1; omega⟩
  | 0, .lst _, h => by cases h
  | 0, .tup _, h => by cases h
  | 0, .ty _, h => by cases h
  | 0, .ref _, h => by cases h
  | 0, .rdl _, h => by cases h
  | 0, .ins _ _, h => by cases h
  | 0, .exn _ _ _, h => by cases h
  | 0, .dki _, h => by cases h
  | 0, .dti _, h => by cases h
  | 0, .obj _ _, h => by cases h
  | n + 1, .ty _, h => by cases h
  | n + 1, .ref _, h => by cases h
  | n + 1, .rdl _, h => by cases h
  | n + 1, .ins _ _, h => by cases h
  | n + 1, .exn _ _ _, h => by cases h
  | n + 1, .dki _, h => by cases h
  | n + 1, .dti _, h => by cases h
  | n + 1, .obj _ _, h => by cases h
mutual
theorem eqv_refl : ∀ p : PyData, p.canLay0 = true → PyData.eqv p p = true
  | .none, _ => by simp [PyData.eqv]
  | .bool b, _ => by simp [PyData.eqv]
  | .int i, _ => by simp [PyData.eqv]
  | .str x, _ => by simp [PyData.eqv]
  | .list xs, h => by rw [PyData.eqv]; exact eqvAll_refl xs h
  | .tuple xs, h => by rw [PyData.eqv]; exact eqvAll_refl xs h
  | .dict _, h => by cases h
theorem eqvAll_refl : ∀ xs : List PyData, PyData.canLayAll0 xs = true → PyData.eqvAll xs xs = true
  | [], _ => by simp [PyData.eqvAll]
  | x :: xs, h => by
    have h : (PyData.canLay0 x && PyData.canLayAll0 xs) = true := h
    rw [Bool.and_eq_true] at h
    rw [PyData.eqvAll, eqv_refl x h.1, eqvAll_refl xs h.2]
    rfl
end
theorem eqB_refl {x : D} {b : Bool} (h : dEqB x x = some b) : b = true := (eqB_data h).mpr rfl
section
variable {m : M} {n : Nat} {x : D} {Q : D → M → Prop}
theorem dEq_refl (hn : n ≤ 64) (c : clR n x = true) (h : Q (.bl true) m) : dEq x x m Q := by
  unfold dEq
  cases e : dEqB x x with
  | some b => rw [eqB_refl e]; exact h
  | none =>
    obtain ⟨p, e1, l1, d1⟩ := clR_toP n x c
    have e2 : datOf m x = some p := by
      cases x with
      | ref a => cases n <;> cases c
      | _ => exact e1
    have sh : SeqAt.shaped p = true := by unfold SeqAt.shaped; rw [l1, decide_eq_true (by omega)]; rfl
    exact ⟨p, p, e2, e2, sh, sh, by rw [eqv_refl p l1]; exact h⟩
theorem dNe_refl (hn : n ≤ 64) (c : clR n x = true) (h : Q (.bl false) m) : dNe x x m Q := by
  unfold dNe
  cases e : dEqB x x with
  | some b => rw [eqB_refl e]; exact h
  | none =>
    obtain ⟨p, e1, l1, d1⟩ := clR_toP n x c
    have e2 : datOf m x = some p := by
      cases x with
      | ref a => cases n <;> cases c
      | _ => exact e1
    have sh : SeqAt.shaped p = true := by unfold SeqAt.shaped; rw [l1, decide_eq_true (by omega)]; rfl
    exact ⟨p, p, e2, e2, sh, sh, by rw [eqv_refl p l1]; exact h⟩
end
def dIsB : DR2 := fun x y m Q => ∃ a b : Bool, x = .bl a ∧ y = .bl b ∧ Q (.bl (decide (a = b))) m
def dNotB : DR2 := fun x y m Q => ∃ a b : Bool, x = .bl a ∧ y = .bl b ∧ Q (.bl (!decide (a = b))) m
end DL

set_option Elab.async false
set_option linter.all false
set_option maxRecDepth 100000
set_option maxHeartbeats 4000000
namespace DL
open PySem PySem.Spec PyProof.Rows L2
abbrev Cls1 := Value × Option Nat × (Addr → Value → Option Addr → TS)
abbrev SuiteOk (X : Cx) (st : List Stmt) (ts : Addr → Value → Option Addr → TS) : Prop := ∀ (a : Addr) (oe : Obj) (cls : Value) (d : Option Addr) (pn : List (Addr × Obj)), Zc cls d oe → (∃ vs, oe.data = .fields vs) → PSs (X.suite a ((a, oe) :: pn)) st (ts a cls d)
inductive ClsOk (X : Cx) : List ExceptHandler → List Cls1 → Prop
  | nil : ClsOk X [] []
  | plain {x : Str} {c : Value} {ts : Addr → Value → Option Addr → TS} {b₀ : Stmt} {suite : List Stmt} {np p2 : Pos} {hds : List ExceptHandler} {l : List Cls1} (hc : Names X x c) (hsu : SuiteOk X (b₀ :: suite) ts) (r : ClsOk X hds l) :
      ClsOk X (.ExceptHandler (some (.Name x np)) none (b₀ :: suite) p2 :: hds) ((c, none, ts) :: l)
  | named {x n : Str} {i : Nat} {c : Value} {ts : Addr → Value → Option Addr → TS} {b₀ : Stmt} {suite : List Stmt} {np p2 : Pos} {hds : List ExceptHandler} {l : List Cls1} (hi : X.N[i]? = some n) (hln : X.env.kindOf n = some .local) (hc : Names X x c) (hsu : SuiteOk X (b₀ :: suite) ts) (r : ClsOk X hds l) :
      ClsOk X (.ExceptHandler (some (.Name x np)) (some n) (b₀ :: suite) p2 :: hds) ((c, some i, ts) :: l)
section
variable {X : Cx} {body : List Stmt} {h₀ : ExceptHandler} {hds : List ExceptHandler} {l : List Cls1} {pos : Pos} {tb : WX → TS} {Wout : WX}
end

abbrev DCls := Value × Option Nat × DTX
def dCut (i : Nat) (DD : DEnds) : DEnds := { nx := fun r' m' => DD.nx (r'.set i none) m', rt := DD.rt, bk := fun r' m' => DD.bk (r'.set i none) m', ct := fun r' m' => DD.ct (r'.set i none) m' }
def dInS : Option Nat → DTX → DEnds → DWX
  | none, ts, DD => fun x r m => ∀ a d, m a = none → ts a x.C d DD r m
  | some i, ts, DD => fun x r m => ∀ a d, m a = none → ts a x.C d (dCut i DD) (r.set i (some (.exn a d x.fs))) m
abbrev DSuiteOk (X : Cx) (st : List Stmt) (ts : DTX) : Prop := ∀ (a : Addr) (oe : Obj) (C : Addr) (d : Option Addr) (pn : List (Addr × Obj)), Zc (.ref C) d oe → (∃ vs, oe.data = .fields vs) → DSs (X.suite a ((a, oe) :: pn)) W0 WD0 st (ts a C d)
inductive DClsOk (X : Cx) : List ExceptHandler → List DCls → Prop
  | nil : DClsOk X [] []
  | plain {x : Str} {c : Value} {ts : DTX} {b₀ : Stmt} {suite : List Stmt} {np p2 : Pos} {hds : List ExceptHandler} {l : List DCls} (hc : Names X x c) (hsu : DSuiteOk X (b₀ :: suite) ts) (r : DClsOk X hds l) :
      DClsOk X (.ExceptHandler (some (.Name x np)) none (b₀ :: suite) p2 :: hds) ((c, none, ts) :: l)
  | named {x n : Str} {i : Nat} {c : Value} {ts : DTX} {b₀ : Stmt} {suite : List Stmt} {np p2 : Pos} {hds : List ExceptHandler} {l : List DCls} (hi : X.N[i]? = some n) (hln : X.env.kindOf n = some .local) (hc : Names X x c) (hsu : DSuiteOk X (b₀ :: suite) ts) (r : DClsOk X hds l) :
      DClsOk X (.ExceptHandler (some (.Name x np)) (some n) (b₀ :: suite) p2 :: hds) ((c, some i, ts) :: l)
section
variable {X : Cx} {W : WX} {WD : DWX} {body : List Stmt} {h₀ : ExceptHandler} {hds : List ExceptHandler} {l : List DCls} {pos : Pos} {tb : DWX → DTS}
end
end DL

set_option Elab.async false
set_option linter.all false
set_option maxRecDepth 100000
set_option maxHeartbeats 4000000
namespace DL
open PySem PySem.Spec PyProof.Rows L2
open He (ga ba)
def rIsX (K : PySem.W.Frag) (a ec : Addr) (ed : Option Addr) : List V → Hp → VK → Prop := fun xs H Q => ∃ (c : V) (cv : Value) (b : Bool), xs = [.ref a, c] ∧ ClsV c cv ∧ ExcC K ec ∧ (ed = none ∨ ∃ dd fs, ed = some dd ∧ H dd = some (.xd fs)) ∧ PySem.W.kitOne K (.ref ec) cv = some b ∧ Q (.bl b) H
theorem call_isX {X : Cx} {a ec : Addr} {ed : Option Addr} {oe : Obj} {pn : List (Addr × Obj)} (hz : Zc (.ref ec) ed oe) (hv : ∃ vs, oe.data = .fields vs) : CallR (X.suite a ((a, oe) :: pn)) (.builtin "isinstance") (rIsX X.K a ec ed) := by
  intro pins s σ H xs us Q I r h
  obtain ⟨c, cv, b, rfl, hcv, C, hd, e, q⟩ := h
  cases r with
  | cons rx rr =>
    cases rr with
    | cons rt rr =>
      cases rr
      cases rx
      have ec' : ∀ u, RelV c u → u = cv := fun u ru => by
        cases hcv <;> cases ru <;> rfl
      have ec' := ec' _ rt
      subst ec'
      obtain ⟨hget, _⟩ := I.pin (a, oe) (List.mem_append.mpr (.inl List.mem_cons_self))
      obtain ⟨vs, hv⟩ := hv
      have cl : (PySem.W.clsIn X.K ec).isSome = true := by
        have h1 := C.hd
        unfold PySem.W.hasDictIn at h1
        cases hc : PySem.W.clsIn X.K ec with
        | none => rw [hc] at h1; cases h1
        | some _ => rfl
      obtain ⟨od, J⟩ : ∃ od, PySem.W.InstAt s.heap a oe ec od := by
        rcases hd with rfl | ⟨dd, fs, rfl, hdd⟩
        · exact ⟨none, hget, hz.1, by unfold PySem.W.notCls; rw [hv], by rw [hz.2]; trivial⟩
        · obtain ⟨mA, hns, _⟩ : ObjOk X.prog X.w H s.heap dd (.xd fs) := I.hok dd _ hdd
          obtain ⟨od, ho, _⟩ := lookIn_ns hns
          exact ⟨some od, hget, hz.1, by unfold PySem.W.notCls; rw [hv], by rw [hz.2]; exact ho⟩
      exact PySem.W.kia_one (PySem.W.kitx_exc cl C.hg C.hk C.hs C.ha C.hn C.ht C.hm) I.kIn J e (fun z => nomatch z) fun tk => ⟨.bl b, H, I.kept (t' := tk) fun _ _ z => z, rfl, q⟩
def dIsX (K : PySem.W.Frag) (a ec : Addr) (ed : Option Addr) : DRC := fun ds m Q => ∃ (fs : List (Str × D)) (c : D) (u : Value) (b : Bool), ds = [.exn a ed fs, c] ∧ ((∃ T, c = .ty T ∧ u = Value.type T) ∨ (∃ C, c = .ref C ∧ u = .ref C)) ∧ ExcC K ec ∧ PySem.W.kitOne K (.ref ec) u = some b ∧ Q (.bl b) m
theorem cd_isX {K : PySem.W.Frag} {a ec : Addr} {ed : Option Addr} : CallD K (rIsX K a ec ed) (dIsX K a ec ed) := by
  intro G H F m ds vs QD Q r ps t k
  obtain ⟨fs, c, u, b, rfl, hc, hx, hk, t⟩ := t
  obtain ⟨v, w, rfl, p, q⟩ := rps2 ps
  have cv : ClsV w u := by
    rcases hc with ⟨T, rfl, rfl⟩ | ⟨C, rfl, rfl⟩
    · cases q; exact .ty T
    · cases q; exact .own C
  cases p with
  | exn0 a => exact ⟨w, u, b, rfl, cv, hx, .inl rfl, hk, k.here r (.bl _) t⟩
  | exnS h1 h2 => exact ⟨w, u, b, rfl, cv, hx, .inr ⟨_, _, rfl, r.ext _ _ h1⟩, hk, k.here r (.bl _) t⟩
section
variable {K : PySem.W.Frag} {a ec C : Addr} {ed : Option Addr} {m : M} {Q : D → M → Prop} {fs : List (Str × D)} {b : Bool}
theorem isx_own (h : ExcC K ec) (k : PySem.W.kitOne K (.ref ec) (.ref C) = some b) : dIsX K a ec ed [.exn a ed fs, .ref C] m Q ↔ Q (.bl b) m := by
  constructor
  · rintro ⟨fs', c, u, b', e, hc, _, hk, q⟩
    cases e
    rcases hc with ⟨T', e, rfl⟩ | ⟨C, e, rfl⟩
    · cases e
    · cases e; rw [k] at hk; cases hk; exact q
  · exact fun q => ⟨fs, _, _, b, rfl, .inr ⟨C, rfl, rfl⟩, h, k, q⟩
end
def xisB (C : Str) (K : Fr0) : Bool := decide (PySem.W.findIn K (.ref (ga K C)) "__getattribute__" = some (some (.builtin "BaseException.__getattribute__"))) && (decide (PySem.W.findIn K (.ref (ga K C)) "__getattr__" = some none) && (decide (PySem.W.subIn K (.ref (ga K C)) (.type "BaseException") = some true) && (PySem.W.hasDictIn K (ga K C) &&
  (decide (PySem.W.findIn K (.ref (ga K C)) "__class__" = some (some (.builtin "object.__class__"))) && (decide (PySem.W.specialIn K (.builtin "object.__class__") "__get__" = some (some (.builtin "getset_descriptor.__get__"))) && (decide (PySem.W.takesIn K (.builtin "object.__class__") = some true) && decide (PySem.W.mroIn K (ga K C) (.type "object") = some true)))))))
theorem xis_of {K : Fr0} {C : Str} (h : xisB C K = true) : ExcC K (ga K C) := by
  obtain ⟨h1, h⟩ := ba h
  obtain ⟨h2, h⟩ := ba h
  obtain ⟨h3, h⟩ := ba h
  obtain ⟨h4, h⟩ := ba h
  obtain ⟨h5, h⟩ := ba h
  obtain ⟨h6, h⟩ := ba h
  obtain ⟨h7, h8⟩ := ba h
  exact ⟨of_decide_eq_true h1, of_decide_eq_true h2, of_decide_eq_true h3, h4, of_decide_eq_true h5, of_decide_eq_true h6, of_decide_eq_true h7, of_decide_eq_true h8⟩
def kitOB (C C' : Str) (b : Bool) (K : Fr0) : Bool := decide (PySem.W.kitOne K (.ref (ga K C)) (.ref (ga K C')) = some b)
end DL

set_option Elab.async false
set_option linter.all false
set_option maxRecDepth 100000
set_option maxHeartbeats 4000000
namespace DL
open PySem PySem.Spec PyProof.Rows L2
section
variable {K : PySem.W.Frag} {X : Cx} {W : WX} {WD : DWX} {a b : Expr} {ta tb : DTE} {pos : Pos}
end
end DL

set_option Elab.async false
set_option linter.all false
set_option maxRecDepth 100000
set_option maxHeartbeats 4000000
namespace DL
open PySem PySem.Spec PyProof.Rows L2
theorem _root_.L2.Room.units1 {k : Nat} {A : Around} (r : L2.Room k A) : A.units + 1 < cLine := by
  have := r.units
  omega
def MSub (a b : M) : Prop := ∀ x o, a x = some o → b x = some o
theorem MSub.refl (m : M) : MSub m m := fun _ _ h => h
theorem MSub.trans {a b c : M} (h : MSub a b) (k : MSub b c) : MSub a c := fun x o e => k x o (h x o e)
theorem MSub.set {m : M} {p : Addr} {o : MO} (h : m p = none) : MSub m (mset m p o) := fun x u e => by
  rw [mset_ne (fun q => by rw [q, h] at e; cases e)]
  exact e
theorem Rep.sub {K : PySem.W.Frag} {G H F : Hp} {m m2 : M} (r : Rep K G H F m) (h : MSub m2 m) : Rep K G H F m2 := ⟨r.ext, r.frm, r.dis, fun a o e => r.mo a o (h a o e), r.tb, r.gt, r.ft⟩
def dWk (te : DTE) : DTE := fun r m Q => te r m fun d m1 => ∃ m2, MSub m2 m1 ∧ Q d m2
section
variable {X : Cx} {W : WX} {WD : DWX} {e : Expr} {te : DTE}
theorem de_wk (he : DE X W WD e te) : DE X W WD e (dWk te) := by
  refine PE.imp he fun σ H Q h => ?_
  obtain ⟨G, F, r, m, QD, x, t, k⟩ := h
  refine ⟨G, F, r, m, _, x, t, fun G1 H1 m1 d v e1 p1 q1 t1 => ?_⟩
  obtain ⟨m2, hs, t2⟩ := t1
  exact k G1 H1 m2 d v e1 (p1.sub hs) q1 t2
end
def keyD : Key → D
  | .inl i => .int i
  | .inr x => .str x
theorem rp_key {K : PySem.W.Frag} {G : Hp} {k : Key} {v : V} (h : Rp K G (keyD k) v) : v = kV k := by
  cases k <;> (cases h; rfl)
section
variable {κ : Type} [DecidableEq κ]
def valD (kvs : List (κ × D)) (k : κ) : Option D := (kvs.find? fun kv => decide (kv.1 = k)).map (·.2)
def putKD (kvs : List (κ × D)) (k : κ) (v : D) : List (κ × D) :=
  if (kvs.any fun kv => decide (kv.1 = k)) = true then kvs.map (fun kv => if kv.1 = k then (kv.1, v) else kv) else kvs ++ [(k, v)]
variable {K : PySem.W.Frag} {G : Hp}
theorem Rpk.length : ∀ {ds : List (κ × D)} {vs : List (κ × V)}, Rpk K G ds vs → ds.length = vs.length
  | _, _, .nil => rfl
  | _, _, .cons _ t => congrArg Nat.succ (Rpk.length t)
theorem Rpk.any (k : κ) : ∀ {ds : List (κ × D)} {vs : List (κ × V)}, Rpk K G ds vs → (ds.any fun kv => decide (kv.1 = k)) = (vs.any fun kv => decide (kv.1 = k))
  | _, _, .nil => rfl
  | _, _, .cons _ t => by rw [List.any_cons, List.any_cons, Rpk.any k t]
theorem Rpk.app : ∀ {ds es : List (κ × D)} {vs us : List (κ × V)}, Rpk K G ds vs → Rpk K G es us → Rpk K G (ds ++ es) (vs ++ us)
  | _, _, _, _, .nil, h => h
  | _, _, _, _, .cons r t, h => .cons r (Rpk.app t h)
theorem Rpk.rep (k : κ) {d : D} {v : V} (q : Rp K G d v) : ∀ {ds : List (κ × D)} {vs : List (κ × V)}, Rpk K G ds vs → Rpk K G (ds.map fun kv => if kv.1 = k then (kv.1, d) else kv) (vs.map fun kv => if kv.1 = k then (kv.1, v) else kv)
  | _, _, .nil => .nil
  | _, _, .cons (k := j) r t => by
    rw [List.map_cons, List.map_cons]
    by_cases e : j = k
    · rw [if_pos e, if_pos e]
      exact .cons q (Rpk.rep k q t)
    · rw [if_neg e, if_neg e]
      exact .cons r (Rpk.rep k q t)
theorem Rpk.put (k : κ) {d : D} {v : V} (q : Rp K G d v) {ds : List (κ × D)} {vs : List (κ × V)} (h : Rpk K G ds vs) : Rpk K G (putKD ds k d) (putK vs k v) := by
  unfold putKD putK
  rw [h.any k]
  by_cases e : (vs.any fun kv => decide (kv.1 = k)) = true
  · rw [if_pos e, if_pos e]
    exact h.rep k q
  · rw [if_neg e, if_neg e]
    exact h.app (.cons q .nil)
theorem Rpk.val (k : κ) : ∀ {ds : List (κ × D)} {vs : List (κ × V)}, Rpk K G ds vs → (valD ds k = none ∧ valV vs k = none) ∨ ∃ d v, valD ds k = some d ∧ valV vs k = some v ∧ Rp K G d v
  | _, _, .nil => .inl ⟨rfl, rfl⟩
  | _, _, .cons (k := j) (d := d) (v := v) r t => by
    by_cases e : j = k
    · refine .inr ⟨d, v, ?_, ?_, r⟩
      · simp [valD, e]
      · simp [valV, e]
    · rcases Rpk.val k t with ⟨h1, h2⟩ | ⟨d', v', h1, h2, h3⟩
      · refine .inl ⟨?_, ?_⟩
        · simp only [valD, List.find?_cons, decide_eq_false e]; exact h1
        · simp only [valV, List.find?_cons, decide_eq_false e]; exact h2
      · refine .inr ⟨d', v', ?_, ?_, h3⟩
        · simp only [valD, List.find?_cons, decide_eq_false e]; exact h1
        · simp only [valV, List.find?_cons, decide_eq_false e]; exact h2
end
theorem mo_dK {K : PySem.W.Frag} {G H F : Hp} {m : M} {a : Addr} {kvs : List (Key × D)} (r : Rep K G H F m) (h : m a = some (.dK kvs)) : ∃ vs, H a = some (.dK vs) ∧ Rpk K G kvs vs := by
  obtain ⟨_, _, u, h3, h4⟩ := r.mo a _ h
  cases u with
  | dK vs => exact ⟨vs, h3, h4⟩
  | _ => exact h4.elim
def dGetK : DR2 := fun x y m Q => ∃ a kvs k d, x = .ref a ∧ m a = some (.dK kvs) ∧ y = keyD k ∧ valD kvs k = some d ∧ Q d m
section
variable {K : PySem.W.Frag} {X : Cx} {W : WX} {WD : DWX} {a b : Expr} {ta tb tc : DTE} {pos pos' : Pos}
theorem de_getK (hu : X.A.units + 1 < cLine) (ha : DE X W WD a ta) (hb : DE X W WD b tb) (hs : NoSl b := by intro _ _; rfl) : DE X W WD (.Subscript a b pos) (dOp dGetK ta tb) := by
  refine PE.imp (pe_dget hu ha hb hs) fun σ H Q h => ?_
  obtain ⟨G, F, r, m, QD, x, t, k⟩ := h
  refine ⟨G, F, r, m, _, x, t, fun G1 H1 m1 d1 v1 e1 r1 p1 t1 => ?_⟩
  refine ⟨G1, F, r, m1, _, x.step e1 r1, t1, fun G2 H2 m2 d2 v2 e2 r2 p2 t2 => ?_⟩
  obtain ⟨ad, kvs, key, d, rfl, hm, rfl, hv, t3⟩ := t2
  cases p1
  have := rp_key p2
  subst this
  obtain ⟨vs, hH, hk⟩ := mo_dK r2 hm
  rcases hk.val key with ⟨h1, _⟩ | ⟨d', v', h1, h2, h3⟩
  · rw [h1] at hv; cases hv
  · rw [h1] at hv; cases hv
    exact ⟨ad, v', rfl, by rw [← h2]; exact DGet.k hH, k G2 H2 m2 _ _ (e1.trans e2) r2 h3 t3⟩
end
theorem Rep.outMO {K : PySem.W.Frag} {G H F : Hp} {m : M} {p : Addr} {o : HO} {u : MO} (r : Rep K G H (upd F p o) m) (hF : F p = none) (hu : RpM K G u o) : m p = none ∧ Rep K G H F (mset m p u) := by
  have g : G p = none := r.dis p _ upd_same
  have mp : m p = none := by
    cases q : m p with
    | none => rfl
    | some w =>
      obtain ⟨_, h2, _⟩ := r.mo p w q
      rw [upd_same] at h2
      cases h2
  refine ⟨mp, r.ext, (r.show hF).frm, (r.show hF).dis, fun b v e => ?_, r.tb, r.gt, (r.show hF).ft⟩
  by_cases hb : b = p
  · subst hb
    rw [mset_same] at e
    cases e
    exact ⟨g, hF, _, r.frm _ _ upd_same, hu⟩
  · rw [mset_ne hb] at e
    obtain ⟨h1, h2, w, h3, h4⟩ := r.mo b v e
    rw [upd_ne hb] at h2
    exact ⟨h1, h2, w, h3, h4⟩
def dDcL (c : CT) (vs : List Nat) (tt : DTT) (tk tv : DTE) : List D → List (Key × D) → DSt → M → (List (Key × D) → M → Prop) → Prop
  | [], acc, _, m, Q => Q acc m
  | x :: xs, acc, r, m, Q => ∃ r2, ctD c x (wipeD r vs) = some r2 ∧ tt r2 m fun b m1 => if b = true then tk r2 m1 fun y m2 => tv r2 m2 fun z m3 => ∃ k, y = keyD k ∧ acc.length < sizeLine ∧ dDcL c vs tt tk tv xs (putKD acc k z) r m3 Q else dDcL c vs tt tk tv xs acc r m1 Q
def dDc (ti : DTI) (c : CT) (vs : List Nat) (tt : DTT) (tk tv : DTE) : DTE := fun r m Q => ti r m fun ds m1 => dDcL c vs tt tk tv ds [] r m1 fun acc m2 => ∀ p, m2 p = none → Q (.ref p) (mset m2 p (.dK acc))
section
variable {X : Cx} {W : WX} {WD : DWX}
theorem dc_up {K : PySem.W.Frag} {ti : DTI} {c : CT} {vs : List Nat} {tt : DTT} {tk tv : DTE} {σ : L2.St} {H : Hp} {Q : VK} (hc : c.in vs) (h : up K W WD (dDc ti c vs tt tk tv) σ H Q) : tDc (upI K W WD ti) (ctG K c) (upT K W0 WD0 tt) (up K W0 WD0 tk) (up K W0 WD0 tv) vs σ H Q := by
  obtain ⟨G, F, r, m, QD, x, t, k⟩ := h
  refine ⟨G, F, r, m, _, x, t, fun G1 H1 m1 ds J e1 r1 it t1 => ?_⟩
  intro Dl hD
  have hF : F Dl = none := r1.frm.free hD
  refine ⟨fun i n H => n = ds.length - i ∧ i ≤ ds.length ∧ ∃ G2 m2 acc va, Same G1 G2 ∧ Rep K G2 H (upd F Dl (.dK va)) m2 ∧ Rpk K G2 acc va ∧ dDcL c vs tt tk tv (ds.drop i) acc r m2 (fun acc m2 => ∀ p, m2 p = none → QD (.ref p) (mset m2 p (.dK acc))), ⟨ds.length, rfl, Nat.zero_le _, G1, m1, [], [], Same.refl G1, r1.hide hD, .nil, t1⟩, ?_⟩
  rintro i n H2 ⟨rfl, hi, G2, m2, acc, va, e2, rep2, ra, t2⟩
  by_cases hlt : i < ds.length
  · have hdrop : ds.drop i = ds[i] :: ds.drop (i + 1) := (List.getElem_cons_drop hlt).symm
    rw [hdrop] at t2
    obtain ⟨r2, ec, t2⟩ := t2
    refine .inr ⟨it.go i H2 hlt (e2.trans rep2.ext), fun H3 => ∃ G3 m3 acc va, Same G1 G3 ∧ Rep K G3 H3 (upd F Dl (.dK va)) m3 ∧ Rpk K G3 acc va ∧ dDcL c vs tt tk tv (ds.drop (i + 1)) acc r m3 (fun acc m2 => ∀ p, m2 p = none → QD (.ref p) (mset m2 p (.dK acc))), fun H3 h3 => ⟨ds.length - (i + 1), by omega, rfl, hlt, h3⟩, fun v H3 y => ?_⟩
    obtain ⟨G3, e3, rep3, p3⟩ := it.yld i G2 H2 _ m2 v H3 ds[i] e2 rep2 (by simp [hlt]) y
    have e03 : Same G G3 := (e1.trans e2).trans e3
    refine ct_ok hc (rs_wipe (x.rs.mono e03) vs) p3 ec rep3.ext fun s2 rs2 w2 => ?_
    refine ⟨w2.trans (wipe_wipe σ vs vs fun _ h => h), G3, _, r2, m2, _, ⟨rep3, rs2, Lx.no⟩, t2, fun G4 H4 m4 b e4 rep4 t4 => ?_⟩
    cases b with
    | false => exact ⟨G4, m4, acc, va, (e2.trans e3).trans e4, rep4, ra.mono (e3.trans e4), t4⟩
    | true =>
      refine ⟨G4, _, r2, m4, _, ⟨rep4, rs2.mono e4, Lx.no⟩, t4, fun G5 H5 m5 d v e5 rep5 p5 t5 => ?_⟩
      refine ⟨G5, _, r2, m5, _, ⟨rep5, rs2.mono (e4.trans e5), Lx.no⟩, t5, fun G6 H6 m6 d6 v6 e6 rep6 p6 t6 => ?_⟩
      obtain ⟨key, rfl, hz, t7⟩ := t6
      have ra6 := ra.mono (((e3.trans e4).trans e5).trans e6)
      have := rp_key p5
      subst this
      exact ⟨va, key, rfl, rep6.frm Dl _ upd_same, by rw [← ra6.length]; exact hz, G6, m6, putKD acc key d6, putK va key v6, (((e2.trans e3).trans e4).trans e5).trans e6, rep6.turn, ra6.put key p6, t7⟩
  · have e : i = ds.length := by omega
    subst e
    rw [List.drop_length] at t2
    refine .inl ⟨it.stop H2 (e2.trans rep2.ext), ?_⟩
    obtain ⟨mp, rep3⟩ := rep2.outMO hF (u := .dK acc) (o := .dK va) ra
    exact k _ H2 _ _ _ (e1.trans e2) rep3 (.ref Dl) (t2 Dl mp)
theorem de_dc {kx vx tg iter : Expr} {ifs : List Expr} {scope : Scope} {own : List (Str × Nat)} {pos : Pos} {ti : DTI} {c : CT} {tt : DTT} {tk tv : DTE} (hc : X.calm = true) (hN : X.N.Nodup) (hin : c.in (own.map (·.2))) (hi : DI X W WD tg iter ti) (ok : BlkOk X.N X.env.scope scope own)
    (hg : ∀ (s : Shared) (H : Hp) (C : Addr) (cl : List (Str × Addr)) (fp : List Addr), PG (X.blk s H scope (compEnvC scope cl C X.env) fp) tg (ctG X.K c)) (ht : ∀ (s : Shared) (H : Hp) (C : Addr) (cl : List (Str × Addr)) (fp : List Addr), DTs (X.blk s H scope (compEnvC scope cl C X.env) fp) W0 WD0 ifs tt)
    (hk : ∀ (s : Shared) (H : Hp) (C : Addr) (cl : List (Str × Addr)) (fp : List Addr), DE (X.blk s H scope (compEnvC scope cl C X.env) fp) W0 WD0 kx tk)
    (he : ∀ (s : Shared) (H : Hp) (C : Addr) (cl : List (Str × Addr)) (fp : List Addr), DE (X.blk s H scope (compEnvC scope cl C X.env) fp) W0 WD0 vx tv) (hs : ∀ x, foldedSetIterable iter X.env x = pure x := by intro _; rfl) :
    DE X W WD (.DictComp kx vx [⟨tg, iter, ifs, 0⟩] scope pos) (dDc ti c (own.map (·.2)) tt tk tv) :=
  PE.imp (pe_dc hc hN hi ok hg ht hk he hs) fun _ _ _ h => dc_up hin h
end
section
variable {K : PySem.W.Frag} {X : Cx} {W : WX} {WD : DWX}
end
end DL

set_option Elab.async false
set_option linter.all false
set_option maxRecDepth 100000
set_option maxHeartbeats 4000000
namespace DL
open PySem PySem.Spec PyProof.Rows L2
section
variable {K : PySem.W.Frag} {X : Cx} {W : WX} {WD : DWX}
def rMaxDf (K : PySem.W.Frag) : List V → List V → Hp → VK → Prop := fun xs zs H Q => ∃ (a : Addr) (ns : List Int) (z : V), xs = [.ref a] ∧ zs = [z] ∧ SqL K H a (ns.map V.int) ∧ (ns = [] → Q z H) ∧ ∀ n r, ns = n :: r → Q (.int (r.foldl max n)) H
theorem dp_ints {H : Hp} : ∀ ns : List Int, DpAll K H (ns.map V.int) (ns.map PyData.int)
  | [] => .nil
  | n :: r => .cons (.int n) (dp_ints r)
theorem alike_ints (ns : List Int) : PySem.W.AlikeAll (ns.map PyData.int) := by
  refine ⟨fun x hx y hy => ?_, fun x hx => ?_⟩
  · obtain ⟨i, _, rfl⟩ := List.mem_map.mp hx
    obtain ⟨j, _, rfl⟩ := List.mem_map.mp hy
    first | rfl | simp [PySem.W.alike] | decide
  · obtain ⟨i, _, rfl⟩ := List.mem_map.mp hx
    exact fun h => nomatch h
theorem cr_maxDf (hc : X.calm = true) (hu : X.A.units + 64 < cLine) : CallRK X (.builtin "max") ["default"] (rMaxDf X.K) := by
  intro pins s σ H xs zs us ws Q I r rz h
  obtain ⟨a, ns, z, rfl, rfl, hs, h0, h1⟩ := h
  obtain ⟨its, rv, hl, _⟩ := I.list hs
  rw [Vals.ref1 r]
  obtain ⟨w, rfl, rw'⟩ := vals1 rz
  obtain ⟨as, hr⟩ := Dp.readsAll I (ns.map PyData.int) (ns.map V.int) its (dp_ints ns) rv
  have hd := depth_ints ns
  refine PySem.W.max_list_default (xs := ns.map PyData.int) (I.ok.hd hc) hl.isList (by rw [List.toList_toArray]; exact hr) (alike_ints ns) (by omega) (fun e h' tk hk => ?_) (fun y ys i v h' tk bs e hi hv hk => ?_)
  · exact ⟨z, H, I.kept hk, rw', h0 (by simpa using e)⟩
  · cases ns with
    | nil => cases e
    | cons n ns' =>
      cases e
      rw [PySem.W.maxD_ints] at hv
      cases hv
      exact ⟨.int _, H, I.kept hk, ⟨_, rfl⟩, h1 n ns' rfl⟩
def dMaxDf : List D → List D → M → (D → M → Prop) → Prop := fun ds zs m Q => ∃ d z, ds = [d] ∧ zs = [z] ∧ ∃ ns : List Int, lsOf m d = some (ns.map D.int) ∧ match ns with
  | [] => Q z m
  | n :: r => Q (.int (r.foldl max n)) m
def dCBK (rd : List D → List D → M → (D → M → Prop) → Prop) (t tk : DTA) : DTE := fun r m Q => t r m fun ds m1 => tk r m1 fun zs m2 => rd ds zs m2 Q
theorem de_maxDf {e : Expr} {t tk : DTA} {kws : List Keyword} {p pos : Pos} (hc : X.calm = true) (hu : X.A.units + 64 < cLine) (hg : Gl X "max") (hm : X.mg "max" = none) (hv : bootBuiltins "max" = some (.builtin "max")) (ha : DA X W WD [e] t) (hk : DK X W WD kws tk)
    (he : backTo pos (starEach [e] X.env) = (false, eval e X.env) :: backTo pos (starEach [] X.env) := by rfl) (hpl : (backTo pos (starEach [e] X.env)).any (·.1) = false := by rfl)
    (hall : (backToKw pos (keywordEach kws X.env)).all (·.1.isSome) = true := by rfl) (hnone : (backToKw pos (keywordEach kws X.env)).any (·.1.isNone) = false := by rfl) (hks : (backToKw pos (keywordEach kws X.env)).filterMap (·.1) = ([("default" : Str)] : List Str) := by rfl) :
    DE X W WD (.Call (.Name "max" p) [e] kws pos) (dCBK dMaxDf t tk) := by
  refine PE.imp (pe_callBK (cr_maxDf hc hu) hg hm hv ha hk (by decide) (by decide) he hpl hall hnone hks) fun σ H Q h => ?_
  obtain ⟨G, F, r, m, QD, x, t, k⟩ := h
  refine ⟨G, F, r, m, _, x, t, fun G1 H1 m1 ds vs e1 r1 p1 t1 => ?_⟩
  refine ⟨G1, F, r, m1, _, x.step e1 r1, t1, fun G2 H2 m2 zs ws e2 r2 p2 t2 => ?_⟩
  obtain ⟨d, z, rfl, rfl, ns, hl, t3⟩ := t2
  obtain ⟨v, rfl, pv⟩ := rps1 (p1.mono e2)
  obtain ⟨w, rfl, pw⟩ := rps1 p2
  obtain ⟨a, us, rfl, hs, rs⟩ := ls_ok r2 pv hl
  have := rs.ints
  subst this
  have k2 := k.mono (e1.trans e2)
  refine ⟨a, ns, w, rfl, rfl, hs, fun e0 => ?_, fun n r0 e0 => ?_⟩
  · subst e0
    exact k2.here r2 pw t3
  · subst e0
    exact k2.here r2 (.int _) t3
def dJoin : DRM := fun x ds m Q => ∃ a d, ∃ ys : List Str, x = .str a ∧ ds = [d] ∧ sqOf m d = some (ys.map D.str) ∧ (ys.map (·.length)).sum + ys.length * a.length ≤ 16777216 ∧ Q (.str (PySem.Txt.join a ys)) m
theorem md_join : MtD K "str" (fun x xs H Q => ∃ a p, ∃ ys : List Str, x = .str a ∧ xs = [.ref p] ∧ (SqL K H p (ys.map V.str) ∨ SqT K H p (ys.map V.str)) ∧
    (ys.map (·.length)).sum + ys.length * a.length ≤ 16777216 ∧ Q (.str (PySem.Txt.join a ys)) H) isS dJoin := by
  refine ⟨fun G H F m x vx r p h => ty_str r p h, fun G H F m x vx ds vs QD Q r px ps t k => ?_⟩
  obtain ⟨z, d, ys, rfl, rfl, hs, hz, t⟩ := t
  cases px
  obtain ⟨v, rfl, p⟩ := rps1 ps
  obtain ⟨a, us, rfl, hq, rs⟩ := sq_ok r p hs
  have := rs.strs
  subst this
  exact ⟨z, a, ys, rfl, rfl, hq, hz, k.here r (.str _) t⟩
def diQ (te : DTE) : DTI := fun r m Q => te r m fun d m1 => match d with
  | .lst xs => Q xs m1
  | .rdl xs => Q xs m1
  | .tup xs => Q xs m1
  | _ => False
def iSeq (K : PySem.W.Frag) (tl : TE) : TI := fun σ H R => tl σ H fun x H1 => ∃ a, x = .ref a ∧ (((∃ xs, SqL K H1 a xs) ∧ R (Itl K a) H1) ∨ ((∃ xs, SqT K H1 a xs) ∧ R (Itt K a) H1))
theorem pi_seq {tg l : Expr} {tl : TE} (hl : PE X l tl) : PI X tg l (iSeq X.K tl) := by
  constructor
  intro pins s σ H R I h
  refine thn (hl.run pins s σ H _ I h) (fun v s1 z => ?_)
  obtain ⟨x, H1, J, rx, a, rfl, q⟩ := z
  cases rx
  have fz : ∀ b ∈ [s1.heap.objs.size], FpOk X pins H1 b := by
    intro b hb
    rw [List.mem_singleton.mp hb]
    exact J.fpOk (Nat.le_refl _) (J.hok.fresh (Nat.le_refl _))
  have kp : ∀ ob, Inv X pins σ H1 { s1 with heap := s1.heap.push ob } := fun ob => J.kept (t' := s1.toks) fun b o e => Heap.get?_push_of_some ob e
  rcases q with ⟨⟨xs, hq⟩, q⟩ | ⟨⟨xs, hq⟩, q⟩
  · obtain ⟨its, _, pl, _⟩ := J.list hq
    exact wpAny_pyIter_list pl.isList ⟨_, [s1.heap.objs.size], _, _, H1, rfl, kp _, turn_list a _, ⟨_, Heap.get?_push_size _ rfl, rfl, rfl⟩, fz, q⟩
  · obtain ⟨its, _, pt, _⟩ := J.tuple hq
    exact wpAny_pyIter_tuple (show s1.heap.IsTuple a its.toArray from pt) ⟨_, [s1.heap.objs.size], _, _, H1, rfl, kp _, turn_tuple a _, ⟨_, Heap.get?_push_size _ rfl, rfl, rfl⟩, fz, q⟩
theorem di_seq {tg l : Expr} {te : DTE} (hl : DE X W WD l te) : DI X W WD tg l (diQ te) := by
  refine PI.imp (pi_seq hl) fun σ H R h => ?_
  obtain ⟨G, F, r, m, QD, x, t, k⟩ := h
  refine ⟨G, F, r, m, _, x, t, fun G1 H1 m1 d1 v1 e1 r1 p1 t1 => ?_⟩
  cases d1 with
  | lst xs => cases p1 with | lst h1 q1 => exact ⟨_, rfl, .inl ⟨⟨_, SqL.of (r1.ext _ _ h1)⟩, k G1 H1 m1 xs _ e1 r1 (it_list (SqL.of h1) q1) t1⟩⟩
  | rdl xs => cases p1 with | rdl h1 q1 => exact ⟨_, rfl, .inl ⟨⟨_, r1.ext.seq h1⟩, k G1 H1 m1 xs _ e1 r1 (it_list h1 q1) t1⟩⟩
  | tup xs => cases p1 with | tup h1 q1 => exact ⟨_, rfl, .inr ⟨⟨_, same_sqt r1.ext h1⟩, k G1 H1 m1 xs _ e1 r1 (it_tup h1 q1) t1⟩⟩
  | _ => exact t1.elim
theorem sw_dict {kx vx : Expr} {gs : List Comprehension} {scope : Scope} {pos py : Pos} {y : Str} {l : Nat} {env : Env} (hk : env.scope.kind = .function) (hy : env.scope.names.lookup y = some .local) (hl : (py.line == pos.line) = true)
    (ha : (scope.names.any fun (n, k) => n == y && (k == .local || k == .cell)) = false) : swapsWith (.DictComp kx vx gs scope pos) (some (.Name y py)) l env = pure true := by
  have k1 : env.kindOf y = some .local := hy
  have k2 : env.blockKind = .function := by
    unfold Env.blockKind
    rw [hk]
    rfl
  unfold swapsWith
  simp only [k2, k1, ha, Expr.pos, hl]
  rfl
theorem ps_setDc {i : Nat} {y : Str} {py : Pos} {kx vx tg iter : Expr} {ifs : List Expr} {scope : Scope} {own : List (Str × Nat)} {pos spos : Pos} {wi : TI} {g : TG} {tt : TT} {tk tv : TE} (hc : X.calm = true) (hN : X.N.Nodup) (hy : X.N[i]? = some y) (hyl : X.env.scope.names.lookup y = some .local)
    (hsw : swapsWith (.DictComp kx vx [⟨tg, iter, ifs, 0⟩] scope pos) (some (.Name y py)) spos.line X.env = pure true) (hi : PI X tg iter wi) (ok : BlkOk X.N X.env.scope scope own)
    (hg : ∀ (s : Shared) (H : Hp) (C : Addr) (cl : List (Str × Addr)) (fp : List Addr), PG (X.blk s H scope (compEnvC scope cl C X.env) fp) tg g) (ht : ∀ (s : Shared) (H : Hp) (C : Addr) (cl : List (Str × Addr)) (fp : List Addr), PTs (X.blk s H scope (compEnvC scope cl C X.env) fp) ifs tt)
    (hk : ∀ (s : Shared) (H : Hp) (C : Addr) (cl : List (Str × Addr)) (fp : List Addr), PE (X.blk s H scope (compEnvC scope cl C X.env) fp) kx tk)
    (he : ∀ (s : Shared) (H : Hp) (C : Addr) (cl : List (Str × Addr)) (fp : List Addr), PE (X.blk s H scope (compEnvC scope cl C X.env) fp) vx tv) (hs : ∀ x, foldedSetIterable iter X.env x = pure x := by intro _; rfl) :
    PS X (.Assign [.Name y py] (.DictComp kx vx [⟨tg, iter, ifs, 0⟩] scope pos) spos) (tAsg (tDc wi g tt tk tv (own.map (·.2))) (gName i)) := by
  constructor
  intro pins s σ H D I h
  rw [exec_Assign_Name_used _ _ _ _ hsw]
  refine wpAny_bind (wpAny_standAt (wpAny_bind ?_))
  show wpAny _ X.A (do let _ ← comprehension (.DictComp kx vx [⟨tg, iter, ifs, 0⟩] scope pos) scope X.env (firstIterPos [⟨tg, iter, ifs, 0⟩] pos) newDict false (eval iter X.env) (some (assign (.Name y py) X.env))) _ _ s
  have h2 : tDc wi g tt tk tv (own.map (·.2)) σ H (fun x H1 => gName i x σ H1 D.nx) := h
  refine wpAny_bind (thn (dc_core (Qf := fun _ s' => SP X pins D .next s') hc hN I hi ok hg ht hk he hs h2 (fun L C s' m H' I' q hn f => ?_)) (fun _ s' hq => wpAny_pure (wpAny_pure hq)))
  show wpAny _ _ (assign (.Name y py) X.env (.ref L)) _ _ _
  refine wpAny_assign_Name (store_ok2 (v := V.ref L) I' hN hy (.inl hyl) rfl (fun s2 J2 z => ?_) (.inr hyl))
  obtain ⟨a, sb, ha⟩ := z
  obtain ⟨g0, g1, _, g3, g4, g5⟩ := f
  have ne : C ≠ a := by
    rcases ha with z | z
    · rw [z]
      exact g1
    · intro e
      exact g4 y a z e.symm
  exact ⟨m, hn.sameBut sb ne, fun h3 sb3 => ⟨_, H', J2.turned (t' := s2.toks) (fun b o hb e => (sb3.2 b hb).trans e) g0 g1 g3 g4 g5, q⟩⟩
theorem ds_setDc {i : Nat} {y : Str} {py : Pos} {kx vx tg iter : Expr} {ifs : List Expr} {scope : Scope} {own : List (Str × Nat)} {pos spos : Pos} {ti : DTI} {c : CT} {tt : DTT} {tk tv : DTE} (hc : X.calm = true) (hN : X.N.Nodup) (hy : X.N[i]? = some y) (hyl : X.env.scope.names.lookup y = some .local)
    (hsw : swapsWith (.DictComp kx vx [⟨tg, iter, ifs, 0⟩] scope pos) (some (.Name y py)) spos.line X.env = pure true) (hin : c.in (own.map (·.2))) (hi : DI X W WD tg iter ti) (ok : BlkOk X.N X.env.scope scope own)
    (hg : ∀ (s : Shared) (H : Hp) (C : Addr) (cl : List (Str × Addr)) (fp : List Addr), PG (X.blk s H scope (compEnvC scope cl C X.env) fp) tg (ctG X.K c)) (ht : ∀ (s : Shared) (H : Hp) (C : Addr) (cl : List (Str × Addr)) (fp : List Addr), DTs (X.blk s H scope (compEnvC scope cl C X.env) fp) W0 WD0 ifs tt)
    (hk : ∀ (s : Shared) (H : Hp) (C : Addr) (cl : List (Str × Addr)) (fp : List Addr), DE (X.blk s H scope (compEnvC scope cl C X.env) fp) W0 WD0 kx tk)
    (he : ∀ (s : Shared) (H : Hp) (C : Addr) (cl : List (Str × Addr)) (fp : List Addr), DE (X.blk s H scope (compEnvC scope cl C X.env) fp) W0 WD0 vx tv) (hs : ∀ x, foldedSetIterable iter X.env x = pure x := by intro _; rfl) :
    DS X W WD (.Assign [.Name y py] (.DictComp kx vx [⟨tg, iter, ifs, 0⟩] scope pos) spos) (dSet i (dDc ti c (own.map (·.2)) tt tk tv)) := by
  refine PS.imp (ps_setDc (tt := upT X.K W0 WD0 tt) (tk := up X.K W0 WD0 tk) (tv := up X.K W0 WD0 tv) hc hN hy hyl hsw hi ok hg ht hk he hs) fun E σ H h => ?_
  obtain ⟨G, F, r, m, DD, x, t, k⟩ := h
  have h2 : up X.K W WD (dDc ti c (own.map (·.2)) tt tk tv) σ H (fun v H1 => E.nx (σ.set i (some v)) H1) := ⟨G, F, r, m, _, x, t, fun G1 H1 m1 d v e1 p1 q1 t1 => k.nx G1 H1 m1 _ _ e1 p1 ((x.rs.mono e1).set q1) t1⟩
  exact dc_up hin h2
end
end DL

set_option Elab.async false
set_option linter.all false
set_option maxRecDepth 100000
set_option maxHeartbeats 4000000
namespace DL
open PySem PySem.Spec PyProof.Rows L2
def rInD (K : PySem.W.Frag) (neg : Bool) : R2 := fun x y H Q => ∃ d ds, Dp K H x d ∧ Dp K H y (.list ds) ∧ PyData.plainAll ds = true ∧ d.plain = true ∧ d.depth ≤ 60 ∧ Q (.bl (if neg then !(ds.any fun e => PyData.eqv e d) else ds.any fun e => PyData.eqv e d)) H
section
variable {K : PySem.W.Frag} {X : Cx}
theorem op_inD (hu : X.A.units + 64 < cLine) : OpR X (compareOp .In) (rInD X.K false) := by
  intro pins s σ H x y v u Q I rx ry h
  obtain ⟨d, ds, hd, he, p1, p2, hz, q⟩ := h
  obtain ⟨as, r1⟩ := Dp.reads I d x v hd rx
  obtain ⟨bs, r2⟩ := Dp.reads I (.list ds) y u he ry
  exact SeqAt.in_list_data r2 r1 p1 p2 (by omega) ⟨.bl _, H, I, rfl, q⟩
def dInD (neg : Bool) : DR2 := fun x y m Q => ∃ d ds, datOf m x = some d ∧ datOf m y = some (.list ds) ∧ PyData.plainAll ds = true ∧ d.plain = true ∧ d.depth ≤ 60 ∧ Q (.bl (if neg then !(ds.any fun e => PyData.eqv e d) else ds.any fun e => PyData.eqv e d)) m
theorem od_inD (neg : Bool) : OpD K (rInD K neg) (dInD neg) := by
  intro G H F m x y vx vy QD Q r px py t k
  obtain ⟨d, ds, e1, e2, p1, p2, hz, t⟩ := t
  exact ⟨d, ds, dat_ok r px e1, dat_ok r py e2, p1, p2, hz, k.here r (.bl _) t⟩
end
theorem toPs_some {n : Nat} : ∀ {ys : List D}, ys.all (clB n) = true → ∃ ps, toPs ys = some ps ∧ PyData.canLayAll0 ps = true
  | [], _ => ⟨[], rfl, rfl⟩
  | y :: ys, h => by
    rw [List.all_cons, Bool.and_eq_true] at h
    obtain ⟨p, e, c1, _⟩ := cl_toP n y h.1
    obtain ⟨ps, es, cs⟩ := toPs_some h.2
    refine ⟨p :: ps, by rw [toPs, e, es]; rfl, ?_⟩
    show (p.canLay0 && PyData.canLayAll0 ps) = true
    rw [c1, cs]
    rfl
theorem any_eqv {n : Nat} {x : D} {p : PyData} (cx : clB n x = true) (ex : toP x = some p) : ∀ {ys : List D} {ps : List PyData}, ys.all (clB n) = true → toPs ys = some ps → ((ps.any fun e => PyData.eqv e p) = true ↔ x ∈ ys)
  | [], ps, _, e => by
    cases e
    simp
  | y :: ys, ps, h, e => by
    rw [List.all_cons, Bool.and_eq_true] at h
    obtain ⟨q, e1, _, _⟩ := cl_toP n y h.1
    obtain ⟨qs, e2, _⟩ := toPs_some h.2
    rw [toPs, e1, e2] at e
    cases e
    have h1 := cl_eqv n y x q p h.1 cx e1 ex
    rw [List.any_cons, Bool.or_eq_true, any_eqv cx ex h.2 e2, h1, List.mem_cons, eq_comm]
theorem dInD_data {neg : Bool} {m : M} {n : Nat} {x y : D} {ys : List D} {Q : D → M → Prop} (hn : n ≤ 60) (c1 : clB n x = true) (hx : vD m x = x) (hy : vD m y = .lst ys) (c2 : ys.all (clB n) = true) (h : ∀ b : Bool, (b = true ↔ x ∈ ys) → Q (.bl (if neg then !b else b)) m) : dInD neg x y m Q := by
  obtain ⟨p, e1, f1, l1, d1⟩ := dat_vD (m := m) (x := x) (n := n) (by rw [hx]; exact c1)
  obtain ⟨ps, es, cs⟩ := toPs_some c2
  have e2 : datOf m y = some (.list ps) := by
    obtain ⟨q, g1, g2, _, _⟩ := dat_vD (m := m) (x := y) (n := n + 1) (by rw [hy]; exact c2)
    rw [hy, toP, es] at g2
    rw [g1]
    exact g2.symm
  rw [hx] at f1
  exact ⟨p, ps, e1, e2, PyData.plainAll_of_canLay0 ps cs, PyData.plain_of_canLay0 p l1, by omega, h _ (any_eqv c1 f1 c2 es)⟩
end DL

set_option Elab.async false
set_option linter.all false
set_option maxRecDepth 100000
set_option maxHeartbeats 4000000
namespace DL
open PySem PySem.Spec PyProof.Rows L2 LamX
structure Lam1 (sc scope : Scope) (p : Str) : Prop where
  kind : scope.kind = .function
  co : scope.isCoroutine = false
  gen : scope.isGenerator = false
  par : scope.names.lookup p = some .local
  own : ∀ y ∈ scope.names, y.2 = .local → y.1 = p
  cell : ∀ y ∈ scope.names, y.2 ≠ .cell
  free : ∀ y ∈ scope.names, y.2 = .free → sc.names.lookup y.1 = some .cell ∨ sc.names.lookup y.1 = some .free
def lam1B (sc scope : Scope) (p : Str) : Bool := decide (scope.kind = .function) && (!scope.isCoroutine && (!scope.isGenerator && (decide (scope.names.lookup p = some .local) &&
  scope.names.all fun y => (!decide (y.2 = .local) || decide (y.1 = p)) && (!decide (y.2 = .cell) && (!decide (y.2 = .free) || (decide (sc.names.lookup y.1 = some .cell) || decide (sc.names.lookup y.1 = some .free)))))))
theorem lam1_by {sc scope : Scope} {p : Str} (h : lam1B sc scope p = true) : Lam1 sc scope p := by
  unfold lam1B at h
  obtain ⟨h1, h⟩ := He.ba h
  obtain ⟨h2, h⟩ := He.ba h
  obtain ⟨h3, h⟩ := He.ba h
  obtain ⟨h4, h⟩ := He.ba h
  have all := List.all_eq_true.mp h
  refine ⟨of_decide_eq_true h1, by simpa using h2, by simpa using h3, of_decide_eq_true h4, fun y hy e => ?_, fun y hy e => ?_, fun y hy e => ?_⟩
  · have z := (He.ba (all y hy)).1
    rw [decide_eq_true e] at z
    exact of_decide_eq_true (by simpa using z)
  · have z := (He.ba (He.ba (all y hy)).2).1
    rw [decide_eq_true e] at z
    cases z
  · have z := (He.ba (He.ba (all y hy)).2).2
    rw [decide_eq_true e, Bool.not_true, Bool.false_or, Bool.or_eq_true] at z
    rcases z with z | z
    · exact .inl (of_decide_eq_true z)
    · exact .inr (of_decide_eq_true z)
section
variable {X : Cx} {pins : List (Addr × Obj)} {σ : L2.St} {H HZ : Hp} {s t : Shared}
theorem Lam1.has {scope : Scope} {p : Str} (L : Lam1 X.env.scope scope p) (ok : X.Ok) : ∀ y ∈ scope.names, y.2 = .free → ∃ c, X.env.cells.lookup y.1 = some c := fun y hy e =>
  (L.free y hy e).elim (fun k => ok.has _ (.inl k)) fun k => ok.has _ (.inr k)
theorem lam_start1 {B : Around} {out : List Env} {E : XK} {scope : Scope} {f d : Addr} {hp : Heap} {tk ip : Nat} {p : Str} {x : V} {u : Value} (I : Inv X pins σ H s) (L : Lam1 X.env.scope scope p) (hN : X.N.Nodup) (hip : X.N[ip]? = some p) (rx : RelV x u)
    (e0 : Env0 X.prog X.w X.K X.mg X.base B out t HZ) (hd : B.handled = none) (un : Un (frs X.stack) [] H HZ s.heap t.heap) (hns : hp.Ns t.heap.objs.size fun y => ([(p, u)] : List (Str × Value)).reverse.lookup y) (kp : ∀ b o, t.heap.get? b = some o → hp.get? b = some o) :
    Inv (lamCx X B out t HZ E scope f d) [] (σ.set ip (some x)) HZ { t with heap := hp, toks := tk } := by
  have hfr := L.has I.ok
  have back : ∀ {y c}, (cloFrom X.env.cells scope.names []).lookup y = some c → X.env.cells.lookup y = some c := fun {y c} e => by
    rcases cloFrom_mem (PySem.mem_of_lookup e) with hm | ⟨h1, h2⟩
    · cases hm
    · obtain ⟨c1, hc⟩ := hfr _ h1 rfl
      have hc : X.env.cells.lookup y = some c1 := hc
      have same : c = c1 := by rw [h2, hc] <;> rfl
      rw [same]
      exact hc
  have fwd : ∀ {y}, scope.names.lookup y = some .free → ∃ c, (cloFrom X.env.cells scope.names []).lookup y = some c := fun {y} hl => mem_lookup (cloFrom_has (cells := X.env.cells) (acc := []) (PySem.mem_of_lookup hl))
  have cellK : ∀ {c : Addr} {v : Option Value}, H c = none → s.heap.IsCell c v → hp.IsCell c v := fun {c v} n ⟨o, ho, hdt⟩ => by
    obtain ⟨sl, q⟩ := un.any ho n (by simp)
    exact ⟨_, kp _ _ q, hdt⟩
  have noX : ∀ b : Addr, b ∉ (lamCx X B out t HZ E scope f d).ex := fun b z => absurd (show b ∈ ([] : List Addr) from z) (by simp)
  refine ⟨⟨e0.mod, L.kind, rfl, rfl, Nat.le_refl _, fun y z c e1 e2 => I.ok.inj y z c (back e1) (back e2), fun y hy => ?_, fun y c z _ => (by have z : false = true := z; cases z), fun _ => hd, Around.frames_deeper e0.frames, .inr ⟨rfl, rfl⟩, fun b z => absurd z (noX b), e0.bs, e0.bsz, fun b _ _ => noX b, fun b z => absurd z (noX b), e0.funs, e0.frf⟩,
    rfl, e0.bare, Un.kept kp, ⟨_, hns, fun i y v e1 e2 e3 => ?_⟩, fun y c e => ?_, e0.hok.fresh (Nat.le_refl _), fun y c e => ?_, fun q hq => absurd (show q ∈ ([] : List (Addr × Obj)) ++ [] from hq) (by simp), e0.hok.kept kp, by rw [List.length_set]; exact I.len⟩
  · have hy : scope.names.lookup y = some .cell ∨ scope.names.lookup y = some .free := hy
    rcases hy with hy | hy
    · exact absurd rfl (L.cell _ (PySem.mem_of_lookup hy))
    · exact fwd hy
  · have e1 : X.N[i]? = some y := e1
    have e3 : Vis scope y := e3
    rcases e3 with k | k | k
    · have hy : y = p := L.own _ (PySem.mem_of_lookup k) rfl
      subst hy
      have hi : i = ip := nodup_ix hN e1 hip
      subst hi
      have hlt : i < σ.length := by
        have := I.len
        have := (List.getElem?_eq_some_iff.mp e1).1
        omega
      rw [List.getElem?_set_self hlt] at e2
      cases e2
      refine ⟨u, rx, .inl ⟨k, ?_⟩⟩
      show ([(y, u)] : List (Str × Value)).reverse.lookup y = some u
      simp
    · exact absurd rfl (L.cell _ (PySem.mem_of_lookup k))
    · have hne : ip ≠ i := fun z => by
        subst z
        rw [hip] at e1
        cases e1
        rw [L.par] at k
        cases k
      rw [List.getElem?_set_ne hne] at e2
      obtain ⟨m, hn, hl⟩ := I.loc
      have hvis : Vis X.env.scope y := (L.free _ (PySem.mem_of_lookup k) rfl).elim (fun k => .inr (.inl k)) (fun k => .inr (.inr k))
      obtain ⟨w', r, q⟩ := hl i y v e1 e2 hvis
      obtain ⟨c2, h2⟩ := fwd k
      refine ⟨w', r, .inr ⟨.inr k, c2, h2, ?_⟩⟩
      have c1 := back h2
      rcases q with ⟨k', _⟩ | ⟨_, c3, e', z⟩
      · have k' : X.env.scope.names.lookup y = some .local := k'
        rcases L.free _ (PySem.mem_of_lookup k) rfl with k2 | k2 <;> rw [show X.env.scope.names.lookup y = _ from k2] at k' <;> cases k'
      · rw [c1] at e'
        cases e'
        exact cellK (I.freeC y _ c1) z
  · obtain ⟨w', z⟩ := I.cell y c (back e)
    exact ⟨w', cellK (I.freeC y c (back e)) z⟩
  · obtain ⟨v, o, ho, hdt⟩ := I.cell y c (back e)
    exact un.free c o ho (I.freeC y c (back e)) (by simp)
structure Aft (X : Cx) (H H' : Hp) (s s' : Shared) : Prop where
  os : s'.os = s.os
  bare : AllBare s'.gens
  un : Un (frs X.stack) [] H H' s.heap s'.heap
  hok : HOk X.prog X.w H' s'.heap
theorem lam_turn {B : Around} {k ip : Nat} {p : Str} {params : Arguments} {body : Expr} {scope : Scope} {f d : Addr} {pm ctv u : Value} {x : V} {tb : TE} {Q : VK} (I : Inv X pins σ H s) (L : Lam1 X.env.scope scope p) (hN : X.N.Nodup) (hip : X.N[ip]? = some p) (rx : RelV x u)
    (hf : t.heap.get? f = some (PySem.W.kla_obj "<lambda>" (X.env.qual ++ "<lambda>") params body scope (cloFrom X.env.cells scope.names []) pm d ctv)) (hcd : HZ d = some (CodeO d (X.env.qual ++ "<lambda>")))
    (hbind : ∀ (q : Str) (cl : List (Str × Addr)) (pm cv ctv u : Value), bindArgs (PySem.W.kla_fn "<lambda>" q params body scope cl pm cv ctv) ⟨[u], []⟩ = pure [(p, u)])
    (hr : Room (k + 1) B) (e0 : Env0 X.prog X.w X.K X.mg X.base B X.stack t HZ) (un : Un (frs X.stack) [] H HZ s.heap t.heap)
    (hbody : PE (lamCx X B X.stack t HZ (fun _ _ _ => False) scope f d) body tb) (ht : tb (σ.set ip (some x)) HZ Q) :
    wpAny (model X.prog X.w) B (call (.ref f) [u]) (fun v t' => ∃ w H', Aft X HZ H' t t' ∧ RelV w v ∧ Q w H') (fun _ _ => False) t := by
  obtain ⟨⟨oc, vs, tt, hoc, hdc, hvc⟩, _, _⟩ := e0.hok d _ hcd
  refine wpAny_call ?_
  have rc : codeAny (model X.prog X.w) B (.call (.ref f) ⟨[u], []⟩) (CR (L2.CX X.prog X.w) X.stack X.prog X.w HZ t Q (fun _ _ _ => False)) t := by
    refine PySem.W.kla_callFunE hr.depth hf rfl L.co L.gen rfl ⟨d, oc, vs, tt, rfl, hoc, hdc, hvc⟩ ?_
    rw [hbind]
    refine wpAny_pure (wpAny_newFunctionEnv (fun y hy => L.cell y hy) (fun y hy => ?_) (fun hp hns hsb => ⟨?_, ?_⟩) L.kind)
    · rw [List.mem_singleton.mp hy]; exact L.par
    · exact (e0.mod.nolimit.keeps fun b o e => (e0.bs b o e).1).fresh _ hsb
    show codeAny _ _ (.expr body (lamEnv X scope t.heap.objs.size f d)) _ _
    have kp : ∀ b o, t.heap.get? b = some o → hp.get? b = some o := fun b o e => hsb.extBut b o (Nat.ne_of_lt (Heap.lt_size e)) (Heap.get?_push_of_some _ e)
    have J := lam_start1 (E := fun _ _ _ => False) (f := f) (d := d) (tk := t.toks + ([(p, u)] : List (Str × Value)).length) I L hN hip rx e0 hr.hd un hns kp
    refine PySem.W.kla_codeExpr (wpAny_mono (hbody.run [] _ _ HZ Q J ht) (fun v s' hq => ?_) fun e s' hq => hq)
    obtain ⟨w', H', J', rv, q⟩ := hq
    exact ⟨w', H', J'.os, J'.bare, J'.base, J'.hok, rv, q⟩
  refine codeAny_mono rc fun r s' hq => ?_
  cases r with
  | error e =>
    obtain ⟨_, _, _, _, _, _, _, _, _, _, _, _, z⟩ := hq
    exact z.elim
  | ok fl =>
    cases fl with
    | ret v =>
      obtain ⟨w, H', h1, h2, h3, h4, h5, h6⟩ := hq
      exact ⟨w, H', ⟨h1, h2, h3, h4⟩, h5, h6⟩
    | next => exact False.elim hq
    | brk => exact False.elim hq
    | cont => exact False.elim hq
end
section
variable {P : Program} {w : World} {fs : List Addr} {H0 Hc H' : Hp} {h0 hc h' : Heap}
theorem un_out (ok : HOk P w H0 h0) (u : Un fs [] H0 Hc h0 hc) (e : ∀ b, b < h0.objs.size → H' b = Hc b) (k : ∀ b o, b < h0.objs.size → hc.get? b = some o → h'.get? b = some o) : Un fs [] H0 H' h0 h' where
  keep := fun b o q n hb hx => k b o (Heap.lt_size q) (u.keep b o q n hb hx)
  slot := fun b o q n hb hx => by
    obtain ⟨sl, z⟩ := u.slot b o q n hb hx
    exact ⟨sl, k b _ (Heap.lt_size q) z⟩
  free := fun b o q n hx => by rw [e b (Heap.lt_size q)]; exact u.free b o q n hx
  there := fun b o q hx => by
    obtain ⟨o', z⟩ := u.there b o q hx
    exact ⟨o', k b _ (Heap.lt_size q) z⟩
  tups := fun b xs q => by rw [e b (ok b _ q).lt]; exact u.tups b xs q
  frzs := fun b o v q => by rw [e b (ok b _ q).lt]; exact u.frzs b o v q
  tbls := fun b ps q => by rw [e b (ok b _ q).lt]; exact u.tbls b ps q
end
theorem Tabs.stay {T : List (Addr × Str)} {H H' : Hp} (t : Tabs T H) (k : ∀ b o, H b = some o → ¬ okO o → H' b = some o) : Tabs T H' := fun z hz => by
  obtain ⟨ps, h1, h2, h3⟩ := t z hz
  refine ⟨ps, k _ _ h1 (fun o => o.1 ps rfl), h2, fun pos cv hc => ?_⟩
  obtain ⟨c, e1, e2⟩ := h3 pos cv hc
  exact ⟨c, e1, k _ _ e2 fun o => o.2 _ rfl⟩
theorem Rep.made {K : PySem.W.Frag} {G H H1 F : Hp} {m : M} (r : Rep K G H F m) (e : ExtN H H1) (t : Tabs (tblsOf K) H1) : Rep K G H1 F m where
  ext := fun b o q => e b o (r.ext b o q) (r.gt b o q).1
  frm := fun b o q => e b o (r.frm b o q) (r.ft b o q).1
  dis := r.dis
  mo := fun b o q => by
    obtain ⟨h1, h2, u, h3, h4⟩ := r.mo b o q
    exact ⟨h1, h2, u, e b u h3 h4.okO.1, h4⟩
  tb := t
  gt := r.gt
  ft := r.ft
theorem Rep.hold {K : PySem.W.Frag} {G H F : Hp} {m : M} {d : Addr} {o : HO} (r : Rep K G H F m) (h : H d = some o) (n : ¬ okO o) (nt : notT o) : Rep K G H (upd F d o) m where
  ext := r.ext
  frm := fun b u e => by
    by_cases hb : b = d
    · subst hb; rw [upd_same] at e; cases e; exact h
    · rw [upd_ne hb] at e; exact r.frm b u e
  dis := fun b u e => by
    by_cases hb : b = d
    · subst hb
      cases q : G b with
      | none => rfl
      | some v =>
        have := r.ext b v q
        rw [h] at this
        cases this
        exact absurd (r.gt b o q) n
    · rw [upd_ne hb] at e; exact r.dis b u e
  mo := fun b u e => by
    obtain ⟨h1, h2, w, h3, h4⟩ := r.mo b u e
    have hb : b ≠ d := fun z => by
      rw [z, h] at h3
      cases h3
      exact n h4.okO
    exact ⟨h1, by rw [upd_ne hb]; exact h2, w, h3, h4⟩
  tb := r.tb
  gt := r.gt
  ft := nt_upd r.ft nt
theorem Rep.unhold {K : PySem.W.Frag} {G H F : Hp} {m : M} {d : Addr} {o : HO} (r : Rep K G H (upd F d o) m) (h : F d = none ∨ F d = some o) : Rep K G H F m := by
  rcases h with h | h
  · exact r.show h
  · have : upd F d o = F := by
      funext b
      by_cases hb : b = d
      · subst hb; rw [upd_same, h]
      · rw [upd_ne hb]
    rw [this] at r
    exact r
theorem codeO_nt {d : Addr} {q : Str} : notT (CodeO d q) := ⟨fun ps => codeO_ne ps, fun xs z => by unfold CodeO at z; cases z⟩
theorem codeO_nok {d : Addr} {q : Str} : ¬ okO (CodeO d q) := fun h => h.2 _ rfl
theorem vals_at : ∀ {xs : List V} {us : List Value}, Vals xs us → ∀ {j : Nat} {u : Value}, us[j]? = some u → ∃ x, xs[j]? = some x ∧ RelV x u
  | _, _, .nil, _, _, h => by cases h
  | _, _, .cons r t, 0, _, h => by cases h; exact ⟨_, rfl, r⟩
  | _, _, .cons r t, j + 1, _, h => vals_at t h
theorem vals_len : ∀ {xs : List V} {us : List Value}, Vals xs us → xs.length = us.length
  | _, _, .nil => rfl
  | _, _, .cons _ t => congrArg Nat.succ (vals_len t)
theorem vals_snoc : ∀ {xs : List V} {us : List Value} {x : V} {u : Value}, Vals xs us → RelV x u → Vals (xs ++ [x]) (us ++ [u])
  | _, _, _, _, .nil, r => .cons r .nil
  | _, _, _, _, .cons r t, r2 => .cons r (vals_snoc t r2)
theorem rps_snoc {K : PySem.W.Frag} {G : Hp} : ∀ {ds : List D} {vs : List V} {d : D} {v : V}, Rps K G ds vs → Rp K G d v → Rps K G (ds ++ [d]) (vs ++ [v])
  | _, _, _, _, .nil, r => .cons r .nil
  | _, _, _, _, .cons r t, r2 => .cons r (rps_snoc t r2)
theorem each_reads {X : Cx} {pins : List (Addr × Obj)} {σ : L2.St} {G H : Hp} {s : Shared} (I : Inv X pins σ H s) (e : Same G H) : ∀ {ks : List D} {vs : List V} {us : List Value} {ps : List PyData}, Rps X.K G ks vs → Vals vs us → toPs ks = some ps → PySem.W.EachIs (fun v k => ∃ as, Reads s.heap v k as) us ps
  | [], _, _, _, .nil, .nil, h => by cases h; exact .nil
  | k :: ks, _, _, _, .cons a b, .cons r t, h => by
    rw [toPs] at h
    cases q : toP k with
    | none => rw [q] at h; cases h
    | some p =>
      cases q2 : toPs ks with
      | none => rw [q, q2] at h; cases h
      | some ps =>
        rw [q, q2] at h
        cases h
        exact .cons (Dp.reads I p _ _ (Dp.same e (dp_of k p _ q a)) r) (each_reads I e b t q2)
end DL

set_option Elab.async false
set_option linter.all false
set_option maxRecDepth 100000
set_option maxHeartbeats 4000000
namespace DL
open PySem PySem.Spec PySem.W PyProof.Rows L2 LamX
theorem each_zip {K : PySem.W.Frag} {G0 G : Hp} (sg : Same G0 G) : ∀ {ds : List D} {xs : List V} {its : List Value}, Rps K G0 ds xs → Vals xs its → EachIs (fun (v : Value) (b : D × V) => RelV b.2 v ∧ Rp K G b.1 b.2) its (ds.zip xs)
  | _, _, _, .nil, .nil => .nil
  | _, _, _, .cons a b, .cons r t => .cons ⟨r, a.mono sg⟩ (each_zip sg b t)
theorem lam_sort {X : Cx} {pins : List (Addr × Obj)} {σ : L2.St} {H0 G0 F : Hp} {s0 : Shared} {r : DSt} {m : M} {k ip : Nat} {p : Str} {params : Arguments} {body : Expr} {scope : Scope} {f d l : Addr} {pm ctv : Value} {te : DTE} {ds : List D} {xs : List V} {key : D → D} {kp : D → PyData} {Q : Value → Shared → Prop}
    (I : Inv X pins σ H0 s0) (L : Lam1 X.env.scope scope p) (hN : X.N.Nodup) (hip : X.N[ip]? = some p) (hf : s0.heap.get? f = some (kla_obj "<lambda>" (X.env.qual ++ "<lambda>") params body scope (cloFrom X.env.cells scope.names []) pm d ctv)) (hfn : H0 f = none) (hfr : f ∉ frs X.stack) (hcd : H0 d = some (CodeO d (X.env.qual ++ "<lambda>")))
    (hbind : ∀ (q : Str) (cl : List (Str × Addr)) (pm cv ctv u : Value), bindArgs (kla_fn "<lambda>" q params body scope cl pm cv ctv) ⟨[u], []⟩ = pure [(p, u)]) (hr : Room (k + 3) X.A)
    (hbody : ∀ (B : Around) (t : Shared) (HZ : Hp), Room k (B.deeper (lamEnv X scope t.heap.objs.size f d)) → PE (lamCx X B X.stack t HZ (fun _ _ _ => False) scope f d) body (up X.K W0 WD0 te))
    (rep : Rep X.K G0 H0 F m) (rs : Rs X.K G0 r σ) (hl : SqL X.K H0 l xs) (rx : Rps X.K G0 ds xs) (hkey : ∀ x ∈ ds, ∀ Q' : D → M → Prop, Q' (key x) m → te (r.set ip (some x)) m Q')
    (hp : toPs (ds.map key) = some (ds.map kp)) (hal : AllAlike (ds.map kp)) (hsk : Sortable (ds.map kp)) (hdep : ∀ x ∈ ds, (kp x).depth ≤ 60)
    (fin : ∀ (a : Addr) (G' H' : Hp) (t' : Shared) (outV : List V), F a = none → Same G0 G' → Rep X.K G' H' (upd F a (.lst outV)) m → Rps X.K G' (ds.mergeSort (dataLe false kp)) outV → Inv X pins σ H' t' → Q (.ref a) t') :
    wpAny (model X.prog X.w) X.A (call (.builtin "sorted") [.ref l] [(Str.ofString "key", .ref f)]) Q X.xe s0 := by
  obtain ⟨its, rv, pl, hz⟩ := I.list hl
  have li : its.length = ds.length := by rw [← vals_len rv, ← rx.length]
  refine sorted_of_sort pl.isList (by rw [← vals_len rv]; exact hz) (ksk_s1 _ _) (fun x => ksk_l1 _ _) fun E' => ?_
  rw [ksk_t1]
  have ca := copyHeap_at s0.heap its
  obtain ⟨e1, ho1⟩ : ∃ e1, ((copyHeap s0.heap its).update (s0.heap.objs.size + 1) (Obj.mapSeq fun _ => (#[] : Array Value))).get? (s0.heap.objs.size + 1) = some (seqObj "list" #[] e1) := ⟨_, get?_update_seq ca fun _ => #[]⟩
  unfold ksk_tree
  refine wpAny_bind (listItems_at ca rfl (wpAny_bind (listUpdate_at ca rfl (wpAny_bind (seqEpoch_at ho1 rfl (wpAny_bind (wpAny_newTuple (wpAny_bind (wpAny_newList (wpAny_holding ?_) (Nat.zero_le _))) (by show its.length ≤ _; rw [← vals_len rv]; exact hz))))) (by rw [List.size_toArray, ← vals_len rv]; exact hz) (Nat.zero_le _))))
  have hkS : (((copyHeap s0.heap its).update (s0.heap.objs.size + 1) (Obj.mapSeq fun _ => (#[] : Array Value))).push (seqObj "tuple" its.toArray 0)).objs.size = s0.heap.objs.size + 3 := by
    rw [size_push', Heap.size_update]
    unfold copyHeap
    rw [size_push', Heap.size_update, size_push']
  have old : ∀ b o, s0.heap.get? b = some o → (sortingHeap (copyHeap s0.heap its) (s0.heap.objs.size + 1) its).get? b = some o := fun b o e => sortingHeap_old (Nat.ne_of_lt (Nat.lt_succ_of_lt (Heap.lt_size e))) (copyHeap_old e)
  have na : (sortingHeap (copyHeap s0.heap its) (s0.heap.objs.size + 1) its).get? (s0.heap.objs.size + 1) = some (seqObj "list" #[] e1) := Heap.get?_push_of_some _ (Heap.get?_push_of_some _ ho1)
  have nk : (sortingHeap (copyHeap s0.heap its) (s0.heap.objs.size + 1) its).get? (((copyHeap s0.heap its).update (s0.heap.objs.size + 1) (Obj.mapSeq fun _ => (#[] : Array Value))).push (seqObj "tuple" its.toArray 0)).objs.size = some (seqObj "list" #[] 0) := Heap.get?_push_size _ rfl
  show wpAny _ _ (ksk_rest _ _ _ _ _ _) _ _ { s0 with heap := sortingHeap (copyHeap s0.heap its) (s0.heap.objs.size + 1) its }
  generalize hS : sortingHeap (copyHeap s0.heap its) (s0.heap.objs.size + 1) its = hpS at *
  rw [hkS] at *
  generalize hsa : s0.heap.objs.size + 1 = a at *
  generalize hsk2 : s0.heap.objs.size + 3 = kS at *
  clear hS ho1 ca
  have ga : s0.heap.objs.size ≤ a := by omega
  have gk : s0.heap.objs.size ≤ kS := by omega
  have nka : kS ≠ a := by omega
  have Ha : H0 a = none := I.hok.fresh ga
  have Hk : H0 kS = none := I.hok.fresh gk
  obtain ⟨Fd, hFd⟩ : ∃ Fd, Fd = upd F d (CodeO d (X.env.qual ++ "<lambda>")) := ⟨_, rfl⟩
  obtain ⟨JJ, hJ⟩ : ∃ JJ : Nat → Shared → Prop, ∀ i t, JJ i t ↔ ∃ (G Hc : Hp) (kv : List V), t.os = s0.os ∧ AllBare t.gens ∧ Un (frs X.stack) [] H0 Hc s0.heap t.heap ∧ HOk X.prog X.w Hc t.heap ∧ Same G0 G ∧ Rep X.K G Hc (upd (upd Fd a (.frz (seqObj "list" #[] e1) (.lst []))) kS (.lst kv)) m ∧ Rps X.K G ((ds.take i).map key) kv := ⟨_, fun _ _ => Iff.rfl⟩
  have ltn : ∀ b, b < s0.heap.objs.size → b ≠ a ∧ b ≠ kS := fun b hb => ⟨by omega, by omega⟩
  have start : JJ 0 { s0 with heap := hpS } := by
    have rep1 : Rep X.K G0 H0 Fd m := by rw [hFd]; exact rep.hold hcd codeO_nok codeO_nt
    have rep2 := (rep1.hide (o := .frz (seqObj "list" #[] e1) (.lst [])) Ha).hide (p := kS) (o := .lst []) (by rw [upd_ne nka]; exact Hk)
    refine (hJ _ _).mpr ⟨G0, _, [], rfl, I.bare, un_out I.hok Un.refl (fun b hb => ?_) (fun b o _ e => old b o e), ?_, Same.refl G0, rep2, .nil⟩
    · rw [upd_ne (ltn b hb).2, upd_ne (ltn b hb).1]
    · intro b o e
      by_cases hb : b = kS
      · subst hb
        rw [upd_same] at e
        cases e
        exact ⟨Nat.zero_le _, [], 0, .nil, nk⟩
      · rw [upd_ne hb] at e
        by_cases hb2 : b = a
        · subst hb2
          rw [upd_same] at e
          cases e
          exact ⟨na, Nat.zero_le _, [], e1, .nil, na⟩
        · rw [upd_ne hb2] at e
          refine (I.hok b o e).stay (fun c v _ q => old c v q) (fun c q => ?_) fun c ys q => ?_
          · rw [upd_ne (ne_of_none q Hk), upd_ne (ne_of_none q Ha)]; exact q
          · rw [upd_ne (ne_of_none q Hk), upd_ne (ne_of_none q Ha)]; exact q
  have inv_of : ∀ {Hc : Hp} {t : Shared}, t.os = s0.os → AllBare t.gens → Un (frs X.stack) [] H0 Hc s0.heap t.heap → HOk X.prog X.w Hc t.heap → Inv X pins σ Hc t := fun {Hc t} h1 h2 h3 h4 => I.call' h1 h3 h4 h2 (fun b hb => nomatch hb)
  unfold ksk_rest
  refine wpAny_bind (wpAny_rule ?_)
  rw [List.forIn_toArray]
  refine wpAny_bind (ksk_fold JJ its 0 _ start ?step ?done)
  case step =>
    intro j u t hu hj
    rw [Nat.zero_add] at *
    obtain ⟨G, Hc, kv, os, bare, un, hok, sg, rp, rk⟩ := (hJ _ _).mp hj
    have It := inv_of os bare un hok
    obtain ⟨x, hx, rxu⟩ := vals_at rv hu
    obtain ⟨dj, hdj, rdj⟩ : ∃ dj, ds[j]? = some dj ∧ Rp X.K G0 dj x := by
      obtain ⟨dj, hdj⟩ : ∃ dj, ds[j]? = some dj := ⟨_, List.getElem?_eq_getElem (by rw [← li]; exact (List.getElem?_eq_some_iff.mp hu).1)⟩
      obtain ⟨v, h1, h2⟩ := rx.get hdj
      rw [hx] at h1
      cases h1
      exact ⟨dj, hdj, h2⟩
    have hdm : dj ∈ ds := List.mem_of_getElem? hdj
    have hf' := un.keep f _ hf hfn hfr (by simp)
    have hcd' : Hc d = some (CodeO d (X.env.qual ++ "<lambda>")) := by
      have hda : d ≠ a := fun z => by rw [z, Ha] at hcd; cases hcd
      have hdk : d ≠ kS := fun z => by rw [z, Hk] at hcd; cases hcd
      refine rp.frm d _ ?_
      rw [upd_ne hdk, upd_ne hda, hFd, upd_same]
    have e0 : Env0 X.prog X.w X.K X.mg X.base X.A.in1.in1 X.stack t Hc := ⟨It.env0.frames, It.env0.mod, It.env0.bs, It.env0.bsz, It.env0.funs, It.env0.frf, hok, bare⟩
    have turn := lam_turn (B := X.A.in1.in1) (k := k) (Q := fun v H' => ∃ G', Same G G' ∧ Rep X.K G' H' (upd (upd Fd a (.frz (seqObj "list" #[] e1) (.lst []))) kS (.lst kv)) m ∧ Rp X.K G' (key dj) v) It L hN hip rxu hf' hcd' hbind (hr.in1.in1) e0 Un.refl (hbody _ t Hc ((hr.in1.in1).deeper _))
      ⟨G, _, r.set ip (some dj), m, fun y m' => y = key dj ∧ m' = m, ⟨rp, (rs.mono sg).set (rdj.mono sg), Lx.no⟩, hkey dj hdm _ ⟨rfl, rfl⟩, fun G' H' m' y v e r' q ⟨h1, h2⟩ => ⟨G', e, by rw [← h2]; exact r', by rw [← h1]; exact q⟩⟩
    refine wpAny_bind (wpAny_attempt (wpAny_mono turn (fun v t' he => ?_) fun _ _ hF => hF.elim))
    obtain ⟨w', H', af, rw', G', sg', rp', rk'⟩ := he
    have hk1 := rp'.frm kS _ upd_same
    obtain ⟨z, ks, n, vk, ek⟩ := af.hok kS _ hk1
    have hlen : kv.length = j := by
      rw [← rk.length, List.length_map, List.length_take]
      have := (List.getElem?_eq_some_iff.mp hdj).1
      omega
    have hlv := vals_len vk
    have hjl : j < its.length := (List.getElem?_eq_some_iff.mp hu).1
    have hits : its.length ≤ sizeLine := by rw [← vals_len rv]; exact hz
    have s1 := Heap.SameBut.update t'.heap kS (Obj.mapSeq (·.push v))
    obtain ⟨c2, hc2⟩ : ∃ c2, (t'.heap.update kS (Obj.mapSeq (·.push v))).get? kS = some (seqObj "list" (ks.toArray.push v) c2) := ⟨_, get?_update_seq ek (·.push v)⟩
    try dsimp only
    refine wpAny_bind (listUpdate_at ek rfl ?_ (by rw [List.size_toArray]; omega) (by rw [Array.size_push, List.size_toArray]; omega))
    refine wpAny_pure ⟨rfl, (hJ _ _).mpr ⟨G', upd H' kS (.lst (kv ++ [w'])), kv ++ [w'], af.os.trans os, af.bare, ?_, ?_, sg.trans sg', rp'.turn, ?_⟩⟩
    · refine un_out I.hok (un.trans af.un) (fun b hb => by rw [upd_ne (ltn b hb).2]) (fun b o hb e => (s1.2 b (ltn b hb).2).trans e)
    · refine af.hok.write (x := kS) (e := kS) (by rw [hk1]; trivial) (.inl rfl) (fun b o hb e => (s1.2 b hb).trans e) ⟨_, hc2⟩ ⟨by rw [List.length_append]; simp; omega, ks ++ [v], c2, vals_snoc vk rw', ?_⟩
      rw [hc2]
      simp [seqObj]
    · have et : ds.take (j + 1) = ds.take j ++ [dj] := by rw [List.take_add_one, hdj]; rfl
      rw [et, List.map_append]
      exact rps_snoc (rk.mono sg') rk'
  case done =>
    intro t ht
    obtain ⟨G, Hc, kv, os, bare, un, hok, sg, rp, rk⟩ := (hJ _ _).mp ht
    rw [Nat.zero_add, List.take_of_length_le (by omega)] at rk
    have It := inv_of os bare un hok
    have hk1 := rp.frm kS _ upd_same
    have ha1 : Hc a = some (.frz (seqObj "list" #[] e1) (.lst [])) := rp.frm a _ (by rw [upd_ne nka.symm, upd_same])
    obtain ⟨z, ks, n, vk, ek⟩ := hok kS _ hk1
    have hna := (hok a _ ha1).1
    have hlk : ks.length = its.length := by rw [← vals_len vk, ← rk.length, List.length_map, li]
    have each := each_reads It rp.ext rk vk hp
    try dsimp only
    refine wpAny_bind (listItems_at ek rfl ?_)
    have hu : ∀ y, y ∈ ds.map kp → X.A.in1.in1.units + y.depth < cLine := fun y hy => by
      obtain ⟨x, hx, rfl⟩ := List.mem_map.mp hy
      have := hdep x hx
      have := hr.in1.in1.units
      omega
    refine keyH_end (κ := dataKind t.heap (ds.map kp)) (h₁ := hideAll t.heap [kS]) (fun b o _ e => of_hideAll _ e) (hideAll_none _ (by simp)) ek hna nka (SortsAt.data (s := t) each hal hsk hu) (by rw [List.size_toArray]; exact hlk) (by rw [← vals_len rv]; exact hz) fun h' tk c kb hD => ⟨rfl, ?_⟩
    have kept : ∀ b o, b ≠ a → b ≠ kS → t.heap.get? b = some o → h'.get? b = some o := fun b o h1 h2 e => kb b o h1 (hideAll_get _ e (by simpa using h2))
    have ezip : (ds.zip xs).map (fun b => kp b.1) = ds.map kp := by
      have e : (ds.zip xs).map Prod.fst = ds := List.map_fst_zip (by rw [rx.length]; exact Nat.le_refl _)
      conv => rhs; rw [← e, List.map_map]
      rfl
    have ko : KeyedOut false ((ds.zip xs).map fun b => kp b.1) its (sortVals (dataKind t.heap (ds.map kp)) false ks its) := by
      rw [ezip]
      exact ⟨t.heap, ks, hal, by simp, each⟩
    have eb : EachIs (fun (v : Value) (b : D × V) => RelV b.2 v ∧ Rp X.K G b.1 b.2) its (ds.zip xs) := by
      exact each_zip sg rx rv
    have eo := keyedOut_each (fun b : D × V => kp b.1) ko eb
    obtain ⟨bs, hbs⟩ : ∃ bs, bs = (ds.zip xs).mergeSort (dataLe false fun b : D × V => kp b.1) := ⟨_, rfl⟩
    rw [← hbs] at eo
    have esort : bs.map (·.1) = ds.mergeSort (dataLe false kp) := by
      have e : (ds.zip xs).map Prod.fst = ds := List.map_fst_zip (by rw [rx.length]; exact Nat.le_refl _)
      have e2 := List.map_mergeSort (r := dataLe false fun b : D × V => kp b.1) (s := dataLe false kp) (f := Prod.fst) (l := ds.zip xs) (fun a _ b _ => rfl)
      rw [e] at e2
      rw [hbs]
      exact e2
    obtain ⟨outU, hoU⟩ : ∃ outU, outU = sortVals (dataKind t.heap (ds.map kp)) false ks its := ⟨_, rfl⟩
    rw [← hoU] at eo
    have hD : h'.get? a = some (seqObj "list" outU.toArray c) := by rw [hoU]; simpa using hD
    have vo : Vals (bs.map (·.2)) outU ∧ Rps X.K G (bs.map (·.1)) (bs.map (·.2)) := by
      clear hbs esort hoU hD
      induction eo with
      | nil => exact ⟨.nil, .nil⟩
      | cons r _ ih => exact ⟨.cons r.1 ih.1, .cons r.2 ih.2⟩
    rw [esort] at vo
    have lo : (bs.map (·.2)).length ≤ sizeLine := by
      rw [List.length_map, hbs, List.length_mergeSort, List.length_zip, rx.length]
      omega
    generalize bs.map (·.2) = outV at *
    have repF : Rep X.K G Hc F m := by
      have r1 := rp.show (p := kS) (by rw [upd_ne nka, hFd, upd_ne (fun z => by rw [← z, Hk] at hcd; cases hcd)]; exact rep.frm.free Hk)
      have r2 := r1.show (p := a) (by rw [hFd, upd_ne (fun z => by rw [← z, Ha] at hcd; cases hcd)]; exact rep.frm.free Ha)
      rw [hFd] at r2
      refine r2.unhold ?_
      cases q : F d with
      | none => exact .inl rfl
      | some o =>
        have := rep.frm d o q
        rw [hcd] at this
        exact .inr (by rw [this])
    have Ga : G a = none := rp.dis a _ (by rw [upd_ne nka.symm, upd_same])
    have Gk : G kS = none := rp.dis kS _ upd_same
    have Fa : F a = none := rep.frm.free Ha
    have Fk : F kS = none := rep.frm.free Hk
    have mne : ∀ b o, m b = some o → b ≠ a ∧ b ≠ kS := fun b o e => by
      obtain ⟨_, _, u, h3, _⟩ := rep.mo b o e
      exact ⟨ne_of_none h3 Ha, ne_of_none h3 Hk⟩
    obtain ⟨Hf, hHf⟩ : ∃ Hf : Hp, ∀ b, Hf b = if b = kS then none else if b = a then some (.lst outV) else Hc b := ⟨fun b => if b = kS then none else if b = a then some (.lst outV) else Hc b, fun _ => rfl⟩
    have hfa : Hf a = some (.lst outV) := by rw [hHf, if_neg nka.symm, if_pos rfl]
    have hfo : ∀ b, b ≠ a → b ≠ kS → Hf b = Hc b := fun b h1 h2 => by rw [hHf, if_neg h2, if_neg h1]
    have own_ne : ∀ b x, Hc b = some (.own x) → b ≠ a ∧ b ≠ kS := fun b x e => ⟨fun z => (by rw [z, ha1] at e; cases e), fun z => (by rw [z, hk1] at e; cases e)⟩
    have tup_ne : ∀ b ys, Hc b = some (.tup ys) → b ≠ a ∧ b ≠ kS := fun b x e => ⟨fun z => (by rw [z, ha1] at e; cases e), fun z => (by rw [z, hk1] at e; cases e)⟩
    have hokf : HOk X.prog X.w Hf h' := by
      intro b o e
      by_cases hb : b = kS
      · subst hb; rw [hHf, if_pos rfl] at e; cases e
      · by_cases hb2 : b = a
        · subst hb2
          rw [hfa] at e
          cases e
          exact ⟨lo, outU, c, vo.1, hD⟩
        · rw [hfo b hb2 hb] at e
          refine (hok b o e).stay (fun c v hc q => ?_) (fun c q => by rw [hfo c (own_ne c b q).1 (own_ne c b q).2]; exact q) fun c ys q => by rw [hfo c (tup_ne c ys q).1 (tup_ne c ys q).2]; exact q
          rcases hc with rfl | hc
          · exact kept _ v hb2 hb q
          · exact kept c v (own_ne c b hc).1 (own_ne c b hc).2 q
    refine fin a G Hf _ outV Fa sg ⟨fun b o e => ?_, fun b o e => ?_, fun b o e => ?_, fun b o e => ?_, ?_, rp.gt, nt_upd rep.ft ⟨fun _ e => (by cases e), fun _ e => (by cases e)⟩⟩ vo.2 (inv_of (t := { t with heap := h', toks := tk }) os bare (un_out I.hok un (fun b hb => hfo b (ltn b hb).1 (ltn b hb).2) fun b o hb e => kept b o (ltn b hb).1 (ltn b hb).2 e) hokf)
    · rw [hfo b (fun z => by rw [z, Ga] at e; cases e) (fun z => by rw [z, Gk] at e; cases e)]
      exact rp.ext b o e
    · by_cases hb : b = a
      · subst hb; rw [upd_same] at e; cases e; exact hfa
      · rw [upd_ne hb] at e
        rw [hfo b hb (fun z => by rw [z, Fk] at e; cases e)]
        exact repF.frm b o e
    · by_cases hb : b = a
      · subst hb; exact Ga
      · rw [upd_ne hb] at e; exact repF.dis b o e
    · obtain ⟨h1, h2, u, h3, h4⟩ := repF.mo b o e
      have hb := mne b o e
      exact ⟨h1, by rw [upd_ne hb.1]; exact h2, u, by rw [hfo b hb.1 hb.2]; exact h3, h4⟩
    · refine Tabs.stay rp.tb fun b o e ho => ?_
      rw [hfo b (fun z => ?_) (fun z => ?_)]
      · exact e
      · rw [z, ha1] at e
        cases e
        exact ho ⟨fun _ e => (by cases e), fun _ e => (by cases e)⟩
      · rw [z, hk1] at e
        cases e
        exact ho ⟨fun _ e => (by cases e), fun _ e => (by cases e)⟩
end DL

set_option Elab.async false
set_option linter.all false
set_option maxRecDepth 100000
set_option maxHeartbeats 4000000
namespace DL
open PySem PySem.Spec PySem.W PyProof.Rows L2 LamX
def dSortK (mt : Bool) (tl : DTE) (ip : Nat) (te : DTE) : DTE := fun r m Q => tl r m fun d m1 => ∃ (ds : List D) (key : D → D) (kp : D → PyData), lsOf m1 d = some ds ∧ (∀ x ∈ ds, ∀ Q' : D → M → Prop, Q' (key x) m1 → te (r.set ip (some x)) m1 Q') ∧
  toPs (ds.map key) = some (ds.map kp) ∧ AllAlike (ds.map kp) ∧ Sortable (ds.map kp) ∧ (∀ x ∈ ds, (kp x).depth ≤ 60) ∧ mkL mt (ds.mergeSort (dataLe false kp)) m1 Q
theorem de_sortK (mt : Bool) {X : Cx} {W : WX} {WD : DWX} {k ip : Nat} {p : Str} {e body : Expr} {params : Arguments} {scope : Scope} {c Pt : Addr} {tl te : DTE} {pf lpos kpos pos : Pos} (hr : Room (k + 3) X.A) (hg : Gl X "sorted") (hm : X.mg "sorted" = none) (hv : bootBuiltins "sorted" = some (.builtin "sorted"))
    (he : DE X W WD e tl) (L : Lam1 X.env.scope scope p) (hN : X.N.Nodup) (hip : X.N[ip]? = some p) (TB : TabBs X.K X.mg X.base) (hx : (c, Pt, X.env.qual ++ "<lambda>") ∈ tbls3 X.K) (hcode : X.env.code = .ref c) (hdef : defaultsOf params X.env = ([], []))
    (hbind : ∀ (q : Str) (cl : List (Str × Addr)) (pm cv ctv u : Value), bindArgs (kla_fn "<lambda>" q params body scope cl pm cv ctv) ⟨[u], []⟩ = pure [(p, u)])
    (hb : ∀ (B : Around) (t : Shared) (HZ : Hp) (f d : Addr), DE (lamCx X B X.stack t HZ (fun _ _ _ => False) scope f d) W0 WD0 body te)
    (hea : backTo pos (starEach [e] X.env) = (false, eval e X.env) :: backTo pos (starEach [] X.env) := by rfl) (hpl : (backTo pos (starEach [e] X.env)).any (·.1) = false := by rfl)
    (hall : (backToKw pos (keywordEach [⟨some "key", .Lambda params body scope lpos, kpos⟩] X.env)).all (·.1.isSome) = true := by rfl) (hnone : (backToKw pos (keywordEach [⟨some "key", .Lambda params body scope lpos, kpos⟩] X.env)).any (·.1.isNone) = false := by rfl) :
    DE X W WD (.Call (.Name "sorted" pf) [e] [⟨some "key", .Lambda params body scope lpos, kpos⟩] pos) (dSortK mt tl ip te) := by
  refine ⟨fun pins s σ H Q I h => ?_⟩
  obtain ⟨G, F, r, m, QD, x, t, kk⟩ := h
  refine wpAny_Call_Name_kw (ld_blt I hg hm hv ?_ (by decide) (by decide))
  refine PyProof.Rows.callWith_kw ?_ hea hpl hall hnone
  rw [hea]
  have run1 := he.run pins s σ H (fun v H1 => ∃ (G1 : Hp) (m1 : M) (d : D), Same G G1 ∧ Rep X.K G1 H1 F m1 ∧ Rp X.K G1 d v ∧ ∃ (ds : List D) (key : D → D) (kp : D → PyData), lsOf m1 d = some ds ∧ (∀ x ∈ ds, ∀ Q' : D → M → Prop, Q' (key x) m1 → te (r.set ip (some x)) m1 Q') ∧
    toPs (ds.map key) = some (ds.map kp) ∧ AllAlike (ds.map kp) ∧ Sortable (ds.map kp) ∧ (∀ x ∈ ds, (kp x).depth ≤ 60) ∧ mkL mt (ds.mergeSort (dataLe false kp)) m1 QD) I ⟨G, F, r, m, _, x, t, fun G1 H1 m1 d v e1 r1 p1 t1 => ⟨G1, m1, d, e1, r1, p1, t1⟩⟩
  refine Calls.spliced_cons (thn run1 fun u s1 ⟨v, H1, I1, rv, G1, m1, d, e1, rep1, p1, t1⟩ => ?_)
  refine Calls.spliced_nil ?_
  obtain ⟨ds, key, kp, hls, hkey, hp, hal, hsk, hdep, t2⟩ := t1
  obtain ⟨l, xs, rfl, hl, rx⟩ := ls_ok rep1 p1 hls
  obtain rfl : u = Value.ref l := rv
  show wpAny _ _ (evalAll ((do let v ← eval (.Lambda params body scope lpos) X.env; standAt pos; pure v) :: [])) _ _ s1
  have hmT : (Pt, X.env.qual ++ "<lambda>") ∈ tblsOf X.K := List.mem_map.mpr ⟨_, hx, rfl⟩
  refine wpAny_evalAll_cons (wpAny_bind (lam_make2 I1 (TB.tb _ hx) hcode hmT (fun q hq e => ?_) rep1.tb hdef (L.has I1.ok) fun f c' pm ctv H2 s2 I2 eN T2 hf hfn hfr hco => wpAny_bind (wpAny_standAt (wpAny_pure (wpAny_evalAll_nil ?_)))))
  · obtain ⟨y, hy, rfl⟩ := List.mem_map.mp hq
    exact TB.one y hy _ hx e
  · have rep2 := rep1.made eN T2
    obtain ⟨l2, xs2, e2, hl2, rx2⟩ := ls_ok rep2 p1 hls
    cases e2
    refine lam_sort I2 L hN hip hf hfn hfr hco hbind hr (fun B t HZ _ => hb B t HZ f c') rep2 (x.rs.mono e1) hl2 rx2 hkey hp hal hsk hdep fun a G3 H3 s3 outV hF sg rep3 ro I3 => ?_
    cases mt with
    | false =>
      obtain ⟨sm, rep4, p4⟩ := rep3.outL hF ro
      exact ⟨V.ref a, H3, I3, rfl, kk _ H3 m1 _ _ ((e1.trans sg).trans sm) rep4 p4 t2⟩
    | true =>
      obtain ⟨mp, rep4⟩ := rep3.outM hF ro
      exact ⟨V.ref a, H3, I3, rfl, kk _ H3 _ _ _ (e1.trans sg) rep4 (.ref a) (t2 a mp)⟩
section
variable {P : Program} {w : World} {K : Fr0} {mg : Str → Option Value} {base : Heap} {x qual : Str} {params : Arguments} {body : List Stmt} {scope : Scope} {dvs : List V} {kws : List (Str × V)} {f : Addr} {fd : FuncData}
theorem tab_code {oc dV kV doc pm cdv ct : Value} {od an : Option Addr} {osl : Array (Option Value)} (lk : K.lookup f = some ⟨oc, od, .func (fnOf x qual params body scope dV kV doc pm an cdv ct), osl⟩) {c Pt : Addr} (h : tabAt K f qual = some (c, Pt)) : cdv = .ref c := by
  unfold tabAt at h
  rw [lk] at h
  dsimp only at h
  rw [if_pos rfl] at h
  cases cdv with
  | ref c' =>
    dsimp only at h
    split at h
    · split at h
      · cases h; rfl
      · cases h
    · cases h
  | _ => cases h
theorem fn_dL {N ps : List Str} {k : Nat} {sp : DSp} {c Pt : Addr} (F : FunD K x qual params body scope dvs kws f fd) (hc : tabAt K f qual = some (c, Pt)) (S : FnScope N ps scope) (len : ∀ ds m Q E, sp ds m Q E → ds.length = ps.length) (t : DWX → DTS)
    (hb : ∀ (A : Around) (outer : List Env) (s : Shared) (H : Hp) (E : XK) (WD : DWX), Room k (A.deeper (envOfC qual scope s.heap.objs.size f (.ref c))) → Takes (CXo P w K mg base N qual scope f (.ref c) A outer s H E) (WE0 E) →
      PassesOwn (model P w) (CXo P w K mg base N qual scope f (.ref c) A outer s H E).A (CXo P w K mg base N qual scope f (.ref c) A outer s H E).env (CXo P w K mg base N qual scope f (.ref c) A outer s H E).xe → DSs (CXo P w K mg base N qual scope f (.ref c) A outer s H E) (WE0 E) WD body (t WD))
    (pure_ : ∀ ds m Q E, sp ds m Q E → t (fun x _ m => E x m) { nx := fun _ m => Q .non m, rt := Q } (startD N ds) m) : FnOk P w K mg base (L2.CX P w) (k + 1) f fd ps (liftSp K sp) := by
  obtain ⟨c1, c2, c3, c4, c5, c6, c7, cdv, c9, c10, rfl, look, hq, _, _⟩ := F.ex
  have hcv := tab_code look hc
  subst hcv
  refine fn_of look hq S (fun vs H Q E h => ?_) fun A outer s H vs Q E hr h => ?_
  · obtain ⟨G, F, m, ds, QD, ED, rep, rs, hs, _⟩ := h
    rw [← rs.length]
    exact len ds m QD ED hs
  · obtain ⟨G, F, m, ds, QD, ED, rep, rs, hs, kv, kx⟩ := h
    refine ⟨_, hb A outer s H E (fun x _ m => ED x m) hr (takes_of rfl rfl rfl rfl) (passes_of rfl), ?_⟩
    refine ⟨G, F, startD N ds, m, _, ⟨rep, rs_start rs, fun G' H' m' r' s' C fs d e r rs' rx wd => kx G' H' m' C fs d e r rx wd⟩, pure_ ds m QD ED hs, ⟨fun G' H' m' r' s' e r rs' q => kv G' H' m' _ _ e r .non q, kv, ?_, ?_⟩⟩
    · exact fun _ _ _ _ _ _ _ _ q => q.elim
    · exact fun _ _ _ _ _ _ _ _ q => q.elim
end
def lamB (i : Nat) (K : Fr0) : Bool := match lamDefs[i]? with
  | some d => (tabAt K (lamAd K d) (lamQ d)).isSome
  | none => false
theorem lam_of {i : Nat} {K : Fr0} {d : Option Str × Str} (hd : lamDefs[i]? = some d) (h : lamB i K = true) : ∃ c Pt, tabAt K (lamAd K d) (lamQ d) = some (c, Pt) ∧ (c, Pt, lamQ d ++ ".<locals>." ++ "<lambda>") ∈ tbls3 K := by
  unfold lamB at h
  rw [hd] at h
  obtain ⟨⟨c, Pt⟩, e⟩ := Option.isSome_iff_exists.mp h
  refine ⟨c, Pt, e, List.mem_filterMap.mpr ⟨d, List.mem_of_getElem? hd, ?_⟩⟩
  rw [e]
  rfl
end DL

set_option Elab.async false
set_option linter.all false
set_option maxRecDepth 100000
set_option maxHeartbeats 4000000
namespace DL
open PySem PySem.Spec PyProof.Rows L2
section
variable {X : Cx}
end
end DL

set_option Elab.async false
set_option linter.all false
set_option maxRecDepth 100000
set_option maxHeartbeats 4000000
namespace DL
open PySem PySem.Spec PyProof.Rows L2
section
variable {X : Cx} {W : WX} {WD : DWX}
variable {κ : Type} [DecidableEq κ]
end
section
variable {X : Cx} {W : WX} {WD : DWX}
end
end DL

set_option Elab.async false
set_option linter.all false
set_option maxRecDepth 100000
set_option maxHeartbeats 4000000
namespace DL
open PySem PySem.Spec PyProof.Rows L2
section
variable {X : Cx} {W : WX} {WD : DWX} {e : Expr} {td : TE} {apos cpos : Pos}
end
end DL

set_option Elab.async false
set_option linter.all false
set_option maxRecDepth 100000
set_option maxHeartbeats 4000000
namespace DL
open PySem PySem.Spec PyProof.Rows L2
section
variable {X : Cx} {W : WX} {WD : DWX} {rest : List Stmt} {t : DTS}
end
end DL

set_option Elab.async false
set_option linter.all false
set_option maxRecDepth 100000
set_option maxHeartbeats 4000000
namespace DL
open PySem PySem.Spec PyProof.Rows L2
def fg : D → D
  | .obj _ d => d
  | d => d
theorem Rp.fg {K : PySem.W.Frag} {G : Hp} {d : D} {v : V} (h : Rp K G d v) : Rp K G (DL.fg d) v := by
  cases h with
  | obj h => exact h
  | non => exact .non
  | bl b => exact .bl b
  | int i => exact .int i
  | str x => exact .str x
  | ty n => exact .ty n
  | ref a => exact .ref a
  | lst h r => exact .lst h r
  | rdl h r => exact .rdl h r
  | tup h r => exact .tup h r
  | ins h r => exact .ins h r
  | exn0 a => exact .exn0 a
  | exnS h r => exact .exnS h r
  | dki h => exact .dki h
  | dti h => exact .dti h
theorem Rps.fg {K : PySem.W.Frag} {G : Hp} : ∀ {ds : List D} {vs : List V}, Rps K G ds vs → Rps K G (ds.map DL.fg) vs
  | _, _, .nil => .nil
  | _, _, .cons r t => .cons r.fg (Rps.fg t)
section
variable {K : PySem.W.Frag} {X : Cx} {W : WX} {WD : DWX} {e : Expr} {te : DTE}
def dFgt (te : DTE) : DTE := fun r m Q => te r m fun d m1 => ∃ ds, d = .lst ds ∧ Q (.lst (ds.map fg)) m1
end
section
variable {X : Cx} {pins : List (Addr × Obj)} {σ : L2.St} {H : Hp} {s : Shared}
theorem all_yes (n : Nat) : ((List.range n).all fun _ => true) = true := List.all_eq_true.mpr fun _ _ => rfl
end
section
variable {K : PySem.W.Frag}
end
end DL

set_option Elab.async false
set_option linter.all false
set_option maxRecDepth 100000
set_option maxHeartbeats 4000000
namespace DL
open PySem PySem.Spec PyProof.Rows L2
section
variable {X : Cx} {W : WX} {WD : DWX} {e : Expr}
end
end DL

set_option Elab.async false
set_option linter.all false
set_option maxRecDepth 100000
set_option maxHeartbeats 4000000
namespace DL
open PySem PySem.Spec PyProof.Rows L2
inductive FrzAll : M → List D → List D → M → Prop
  | nil (m : M) : FrzAll m [] [] m
  | cons {m m' : M} {a : Addr} {ds xs ys : List D} : m a = some (.lst ds) → FrzAll (mdel m a) xs ys m' → FrzAll m (.ref a :: xs) (.lst ds :: ys) m'
theorem Rep.freezeAll {K : PySem.W.Frag} {H F : Hp} : ∀ {m m' : M} {xs ys : List D}, FrzAll m xs ys m' → ∀ {G : Hp} {vs : List V}, Rep K G H F m → Rps K G xs vs → ∃ G', Same G G' ∧ Rep K G' H F m' ∧ Rps K G' ys vs
  | _, _, _, _, .nil m, G, vs, r, q => ⟨G, fun _ _ h => h, r, q⟩
  | _, _, _, _, .cons h t, G, _, r, .cons p q => by
    cases p
    obtain ⟨G1, e1, r1, p1⟩ := r.freeze h
    obtain ⟨G2, e2, r2, q2⟩ := Rep.freezeAll t r1 (q.mono e1)
    exact ⟨G2, e1.trans e2, r2, .cons (p1.mono e2) q2⟩
section
variable {X : Cx} {W : WX} {WD : DWX} {rest : List Stmt} {t : DTS}
def dFrzD (i : Nat) (t : DTS) : DTS := fun DD r m => ∃ xs ys m', slot r i = some (.lst xs) ∧ FrzAll m xs ys m' ∧ t DD (r.set i (some (.lst ys))) m'
theorem dss_frzD (i : Nat) (h : DSs X W WD rest t) : DSs X W WD rest (dFrzD i t) := by
  refine PSs.imp h fun E σ H h => ?_
  obtain ⟨G, F, r, m, DD, x, ⟨xs, ys, m', e1, e2, t⟩, k⟩ := h
  obtain ⟨v, e3, pv⟩ := x.rs.at_ i _ (slot_get e1)
  cases pv with
  | lst h1 r1 =>
    obtain ⟨G', e, r', q'⟩ := Rep.freezeAll e2 x.rep r1
    refine ⟨G', F, _, _, DD, ⟨r', (x.rs.mono e).setG (fun v hv => ?_) ⟨_, e3⟩, x.lx.mono e⟩, t, k.mono e⟩
    rw [e3] at hv
    cases hv
    exact .lst (e _ _ h1) q'
end
end DL

set_option Elab.async false
set_option linter.all false
set_option maxRecDepth 100000
set_option maxHeartbeats 4000000
namespace DL
open PySem PySem.Spec PyProof.Rows L2
section
variable {x0 x1 x2 x3 x4 x5 x6 x7 : D} {xs : List D}
theorem at4 : atI (x0 :: x1 :: x2 :: x3 :: x4 :: xs) 4 = some x4 := atI_nat (j := 4) rfl
theorem at5 : atI (x0 :: x1 :: x2 :: x3 :: x4 :: x5 :: xs) 5 = some x5 := atI_nat (j := 5) rfl
theorem at6 : atI (x0 :: x1 :: x2 :: x3 :: x4 :: x5 :: x6 :: xs) 6 = some x6 := atI_nat (j := 6) rfl
theorem at7 : atI (x0 :: x1 :: x2 :: x3 :: x4 :: x5 :: x6 :: x7 :: xs) 7 = some x7 := atI_nat (j := 7) rfl
end
open He (ga ma eqO eqO_ok ba)
def obsLG (as : List Addr) (fa : List (Fr0 → Bool)) (fn : List DefA) (g : Addr → Option Obj) : Bool × AlA := (tabsB g (frT g as), obsA fa fn (frT g as))
def hookL (as : List Addr) (fa : List (Fr0 → Bool)) (fn : List DefA) : PySem.W.Hook where
  α := Bool × AlA
  obs := fun s => obsLG as fa fn s.heap.get?
  val := fun _ => (true, valA fn)
  says := fun _ h => ∃ K : Fr0, K.In h ∧ Says fa fn K ∧ TabAt K h
  of := fun _ _ e => ⟨_, frT_in, (Prod.mk.inj e).2, tabsB_ok frT_in (Prod.mk.inj e).1⟩
  keeps := fun _ _ _ ⟨K, hK, c, t⟩ k => ⟨K, PySem.W.Frag.In.keeps hK k, c, t.keeps k⟩
theorem obsLG_eq {as : List Addr} {fa : List (Fr0 → Bool)} {fn : List DefA} {g : Addr → Option Obj} {s : Shared} (h : ∀ a, g a = s.heap.get? a) : obsLG as fa fn g = (hookL as fa fn).obs s := by
  have e : g = s.heap.get? := funext h
  subst e
  rfl
theorem obsLG_join {as : List Addr} {fa : List (Fr0 → Bool)} {fn : List DefA} {g : Addr → Option Obj} (h1 : obsLG as fa [] g = (true, valA [])) (h2 : obsLG as [] fn g = (true, valA fn)) : obsLG as fa fn g = (true, valA fn) := by
  have e1 : tabsB g (frT g as) = true := congrArg Prod.fst h1
  have e2 : (fa.all (fun f => f (frT g as)) && true) = true := congrArg (fun x => x.2.1) h1
  have e3 : (true && fn.all (fun d => d.good (frT g as))) = true := congrArg (fun x => x.2.1) h2
  have e4 : fn.map (fun d => fnAt (frT g as) (d.ad (frT g as))) = fn.map DefA.told := congrArg (fun x => x.2.2) h2
  rw [Bool.and_true] at e2
  rw [Bool.true_and] at e3
  unfold obsLG obsA valA
  rw [e1, e2, e3, e4]
  rfl
open PySem.W HandSHeadRun in
open PySem.W HandSHeadRun in
theorem run_join {r : OpenRow} {q : Program} {as : List Addr} {fa : List (Fr0 → Bool)} {fn : List DefA} {M : Nat} {loose : List Str} {w : World}
    (a : ∀ os : OsState, (endF (stepQ (denQ tabQ) r.prog w) M r.prog w os).map (fun s => (looksF r.prog (boot_heap w.params) s.abs, seenQ q loose (importedModules r.prog.main.body) (fun s => xlAt q [] s && recOk r.toRowW.records s) s.abs)) = some (true, openGood q loose))
    (b : ∀ os : OsState, (endF (stepQ (denQ tabQ) r.prog w) M r.prog w os).map (fun s => obsLG as fa [] (HandSHeadRun.getT s)) = some (true, valA []))
    (c : ∀ os : OsState, (endF (stepQ (denQ tabQ) r.prog w) M r.prog w os).map (fun s => obsLG as [] fn (HandSHeadRun.getT s)) = some (true, valA fn)) : RunEq r q (hookL as fa fn) (fun s => obsLG as fa fn (HandSHeadRun.getT s)) M loose w := fun os => by
  have a := a os
  have b := b os
  have c := c os
  generalize endF (stepQ (denQ tabQ) r.prog w) M r.prog w os = o at a b c ⊢
  cases o with
  | none => cases a
  | some s =>
    have e1 := Option.some.inj a
    have e2 := Option.some.inj b
    have e3 := Option.some.inj c
    have h1 := congrArg Prod.fst e1
    have h2 := congrArg Prod.snd e1
    show some (_, _, _) = some (true, openGood q loose, (true, valA fn))
    exact congrArg some (Prod.ext h1 (Prod.ext h2 (obsLG_join e2 e3)))
end DL

set_option Elab.async false
set_option linter.all false
set_option maxRecDepth 100000
set_option maxHeartbeats 4000000
namespace DL
open PySem PySem.Spec PyProof.Rows L2
def daStar (te : DTE) (t : DTA) : DTA := fun r m Q => te r m fun x m1 => ∃ xs, sqOf m1 x = some xs ∧ t r m1 fun ys m2 => Q (xs ++ ys) m2
section
variable {X : Cx} {W : WX} {WD : DWX} {e : Expr} {es : List Expr} {te : DTE} {t : DTA} {p : Pos}
end
def mergeD (kvs : List (Key × D)) : List (Key × D) := kvs.foldl (fun acc kv => putKD acc kv.1 kv.2) []
def dDictP : DRC := fun ds m Q => ∃ d kvs, ds = [d] ∧ lsOf m d = some (kvs.map fun kv : Key × D => D.tup [keyD kv.1, kv.2]) ∧ ∀ p, m p = none → Q (.ref p) (mset m p (.dK (mergeD kvs)))
theorem rps_pairs {K : PySem.W.Frag} {G H F : Hp} {m : M} (r : Rep K G H F m) : ∀ {kvs : List (Key × D)} {vs : List V}, Rps K G (kvs.map fun kv : Key × D => D.tup [keyD kv.1, kv.2]) vs → ∃ (ps : List Addr) (us : List (Key × V)), vs = ps.map V.ref ∧ Paired (fun p (kv : Key × V) => SqT K H p [kV kv.1, kv.2]) ps us ∧ Rpk K G kvs us
  | [], _, .nil => ⟨[], [], rfl, .nil, .nil⟩
  | kv :: kvs, _, .cons a b => by
    obtain ⟨ps, us, rfl, hp, hk⟩ := rps_pairs r b
    cases a with
    | tup h1 h2 =>
      cases h2 with
      | cons k1 h3 =>
        cases h3 with
        | cons v1 h4 =>
          cases h4
          rw [rp_key k1] at h1
          exact ⟨_ :: ps, (kv.1, _) :: us, rfl, .cons (same_sqt r.ext h1) hp, .cons v1 hk⟩
theorem Rpk.merge {K : PySem.W.Frag} {G : Hp} {kvs : List (Key × D)} {us : List (Key × V)} (h : Rpk K G kvs us) : ∀ {a : List (Key × D)} {b : List (Key × V)}, Rpk K G a b → Rpk K G (kvs.foldl (fun acc kv => putKD acc kv.1 kv.2) a) (us.foldl (fun acc kv => putK acc kv.1 kv.2) b) := by
  induction h with
  | nil => exact fun h => h
  | cons q t ih => exact fun h => ih (h.put _ q)
theorem cd_dictP {K : PySem.W.Frag} : CallD K (fun xs H Q => ∃ (a : Addr) (ps : List Addr) (kvs : List (Key × V)), xs = [.ref a] ∧ SqL K H a (ps.map V.ref) ∧ Paired (fun p kv => SqT K H p [kV kv.1, kv.2]) ps kvs ∧
    ∀ p, H p = none → Q (.ref p) (upd H p (.dK (mergeK [] kvs)))) dDictP := by
  intro G H F m ds vs QD Q r ps t k
  obtain ⟨d, kvs, rfl, hl, t⟩ := t
  obtain ⟨v, rfl, p⟩ := rps1 ps
  obtain ⟨a, ws, rfl, hs, rs⟩ := ls_ok r p hl
  obtain ⟨as, us, rfl, hp, hk⟩ := rps_pairs r rs
  refine ⟨a, as, us, rfl, hs, hp, fun q hq => ?_⟩
  exact k G _ _ (.ref q) _ (Same.refl G) (r.newm (u := .dK (mergeD kvs)) (o := .dK (mergeK [] us)) hq (hk.merge .nil)) (.ref q) (t q (r.mfree hq))
def dMakeN (C : Addr) (n j : Nat) (sp : DSp) (WD : DWX) (t tk : DTA) : DTE := fun r m Q => t r m fun ds m1 => tk r m1 fun zs m2 => ds.length = n ∧ zs.length = j ∧
  ∀ x, m2 x = none → sp (.ref x :: (ds ++ zs)) (mset m2 x (.ins C [])) (fun _ m3 => ∃ fs, m3 x = some (.ins C fs) ∧ Q (.ins C fs) (mdel m3 x)) fun x m3 => WD x r m3
section
variable {X : Cx} {W : WX} {WD : DWX} {e : Expr} {es : List Expr} {kws : List Keyword} {t tk : DTA} {sp : DSp} {k n : Nat} {f C : Addr} {fd : FuncData} {ps ks : List Str} {x : Str} {p pos : Pos}
end
end DL

set_option Elab.async false
set_option linter.all false
set_option maxRecDepth 100000
set_option maxHeartbeats 4000000
namespace DL
open PySem PySem.Spec PyProof.Rows L2
open He (ga ma eqO eqO_ok ba)
def dwnD (hi : Int) (n : Nat) : List D := (List.range n).map fun (k : Nat) => D.int (hi - (k : Int))
section
variable {X : Cx} {W : WX} {WD : DWX} {tg : Expr}
def diR3 (ta : DTA) : DTI := fun r m Q => ta r m fun ds m1 => ∃ i j : Int, ds = [.int i, .int j, .int (-1)] ∧ (-(2 ^ 62) ≤ i ∧ i < 2 ^ 62 ∧ -(2 ^ 62) ≤ j ∧ j < 2 ^ 62) ∧ Q (dwnD i (i - j).toNat) m1
end
end DL

set_option Elab.async false
set_option linter.all false
set_option maxRecDepth 100000
set_option maxHeartbeats 4000000
namespace DL
open PySem PySem.Spec PyProof.Rows L2
theorem lt_irrefl : ∀ l : List Nat, ltCps l l = false
  | [] => rfl
  | a :: l => by simp [ltCps, lt_irrefl l]
end DL

set_option Elab.async false
set_option linter.all false
set_option maxRecDepth 100000
set_option maxHeartbeats 4000000
namespace DL
open PySem PySem.Spec PyProof.Rows L2
section
variable {K : PySem.W.Frag} {X : Cx} {W : WX} {WD : DWX} {rest : List Stmt} {e : Expr} {te : DTE} {t : DTS}
end
end DL

set_option Elab.async false
set_option linter.all false
set_option maxRecDepth 100000
set_option maxHeartbeats 4000000
namespace DL
open PySem PySem.Spec PyProof.Rows L2
section
variable {X : Cx} {W : WX} {WD : DWX}
def rEqZ (K : PySem.W.Frag) (f : Bool → Bool) : R2 := fun x y H Q => ∃ a b xs, x = .ref a ∧ y = .ref b ∧ SqL K H a xs ∧ SqL K H b [] ∧ Q (.bl (f xs.isEmpty)) H
theorem op_eqZ (hu : X.A.units + 64 < cLine) : OpR X (compareOp .Eq) (rEqZ X.K id) := by
  intro pins s σ H x y v u Q I kx ky h
  obtain ⟨a, b, xs, rfl, rfl, ha, hb, q⟩ := h
  cases (show v = Value.ref a from kx)
  cases (show u = Value.ref b from ky)
  obtain ⟨ua, q1, o1, _⟩ := I.list ha
  obtain ⟨ub, q2, o2, _⟩ := I.list hb
  have l1 := q1.length
  have l2 := q2.length
  cases xs with
  | nil =>
    have hz : ua.toArray.size = ub.toArray.size := by simpa [← l1, ← l2]
    have hx := SeqAt.RcAt.lists (A := X.A) (e := fun _ => true) o1.isList o2.isList hz (by omega) (fun j h1 h2 => by
      have : j < ua.length := by simpa using h1
      rw [← l1] at this
      cases this)
    rw [all_yes] at hx
    exact hx _ _ _ _ ⟨.bl true, H, I, rfl, q⟩
  | cons z zs =>
    have hz : (ua.toArray.size != ub.toArray.size) = true := by
      simp only [List.length_cons] at l1
      simp [← l1, ← l2]
    exact (SeqAt.RcAt.lists_lengths (A := X.A) o1.isList o2.isList hz (by omega)) _ _ _ _ ⟨.bl false, H, I, rfl, q⟩
theorem op_neZ (hu : X.A.units + 64 < cLine) : OpR X (compareOp .NotEq) (rEqZ X.K not) := by
  intro pins s σ H x y v u Q I kx ky h
  obtain ⟨a, b, xs, rfl, rfl, ha, hb, q⟩ := h
  cases (show v = Value.ref a from kx)
  cases (show u = Value.ref b from ky)
  obtain ⟨ua, q1, o1, _⟩ := I.list ha
  obtain ⟨ub, q2, o2, _⟩ := I.list hb
  have l1 := q1.length
  have l2 := q2.length
  cases xs with
  | nil =>
    have hz : ua.toArray.size = ub.toArray.size := by simpa [← l1, ← l2]
    have hx := SeqAt.RcNeAt.lists (A := X.A) (e := fun _ => true) o1.isList o2.isList hz (by omega) (fun j h1 h2 => by
      have : j < ua.length := by simpa using h1
      rw [← l1] at this
      cases this)
    rw [all_yes] at hx
    exact hx _ _ _ _ ⟨.bl false, H, I, rfl, q⟩
  | cons z zs =>
    have hz : (ua.toArray.size != ub.toArray.size) = true := by
      simp only [List.length_cons] at l1
      simp [← l1, ← l2]
    exact (SeqAt.RcNeAt.lists_lengths (A := X.A) o1.isList o2.isList hz (by omega)) _ _ _ _ ⟨.bl true, H, I, rfl, q⟩
end
section
variable {K : PySem.W.Frag}
def dEqZ : DR2 := fun x y m Q => ∃ xs, lsOf m x = some xs ∧ lsOf m y = some [] ∧ Q (.bl xs.isEmpty) m
def dNeZ : DR2 := fun x y m Q => ∃ xs, lsOf m x = some xs ∧ lsOf m y = some [] ∧ Q (.bl (!xs.isEmpty)) m
theorem lsZ_of {G H F : Hp} {m : M} {x y : D} {vx vy : V} {xs : List D} (r : Rep K G H F m) (px : Rp K G x vx) (py : Rp K G y vy) (h1 : lsOf m x = some xs) (h2 : lsOf m y = some []) : ∃ a b us, vx = .ref a ∧ vy = .ref b ∧ SqL K H a us ∧ SqL K H b [] ∧ us.isEmpty = xs.isEmpty := by
  obtain ⟨a, us, rfl, sa, ra⟩ := ls_ok r px h1
  obtain ⟨b, ws, rfl, sb, rb⟩ := ls_ok r py h2
  cases rb
  exact ⟨a, b, us, rfl, rfl, sa, sb, (isEmpty_rps ra).symm⟩
theorem od_eqZ : OpD K (rEqZ K id) dEqZ := by
  intro G H F m x y vx vy QD Q r px py t k
  obtain ⟨xs, h1, h2, t⟩ := t
  obtain ⟨a, b, us, rfl, rfl, sa, sb, e⟩ := lsZ_of r px py h1 h2
  exact ⟨a, b, us, rfl, rfl, sa, sb, k.here r (.bl _) (by rw [id, e]; exact t)⟩
theorem od_neZ : OpD K (rEqZ K not) dNeZ := by
  intro G H F m x y vx vy QD Q r px py t k
  obtain ⟨xs, h1, h2, t⟩ := t
  obtain ⟨a, b, us, rfl, rfl, sa, sb, e⟩ := lsZ_of r px py h1 h2
  exact ⟨a, b, us, rfl, rfl, sa, sb, k.here r (.bl _) (by rw [e]; exact t)⟩
end
end DL

set_option Elab.async false
set_option linter.all false
set_option maxRecDepth 100000
set_option maxHeartbeats 4000000
namespace DL
open PySem PySem.Spec PyProof.Rows L2
end DL

set_option Elab.async false
set_option linter.all false
set_option maxRecDepth 100000
set_option maxHeartbeats 4000000
namespace DL
open PySem PySem.Spec PyProof.Rows L2
section
variable {X : Cx} {W : WX} {WD : DWX} {e : Expr} {te : DTE} {tb : DTS} {body : List Stmt}
def dWhileN (i : Nat) (te : DTE) (tb : DTS) : DTS := fun DD r m => ∃ P : Nat → DSt → M → Prop, (∃ n, P n r m) ∧ ∀ n r m, P n r m →
  te r m fun d m1 => (d = .non → DD.nx (r.set i (some .non)) m1) ∧ (d ≠ .non → tb { DD with nx := fun r' m' => ∃ n', n' < n ∧ P n' r' m', ct := fun r' m' => ∃ n', n' < n ∧ P n' r' m', bk := DD.nx } (r.set i (some d)) m1)
theorem rp_non {K : PySem.W.Frag} {G : Hp} {d : D} {v : V} (h : Rp K G d v) (hd : d ≠ .non) : v ≠ .non := by
  intro e
  subst e
  cases h
  exact hd rfl
theorem ds_whileN {i j : Nat} {x : Str} {p pos cp np : Pos} (hp : PassesOwn (model X.prog X.w) X.A X.env X.xe) (hN : X.N.Nodup) (hi : X.N[i]? = some x) (hx : Loc X.env.scope x) (he : DE X W WD e te) (hb : DSs X W WD body tb)
    (hf : X.fn x = true ∨ X.env.scope.names.lookup x = some .local := by first | exact .inl rfl | exact .inr rfl | assumption) :
    DS X W WD (.While (.Compare (.NamedExpr (.Name x p) e np) [.IsNot] [.Constant .none j cp] pos) body [] pos') (dWhileN i te tb) := by
  refine PS.imp (ps_whileW hp (ptw_cmp op_notN (pew_named hN hi hx (pew_of he) hf) pe_non rfl) hb pss_nil) fun E σ H h => ?_
  obtain ⟨G, F, r, m, DD, x, ⟨P, ⟨n0, p0⟩, turn⟩, k⟩ := h
  refine ⟨fun n σ H => ∃ G2 r2 m2, Same G G2 ∧ Sx X.K W WD G2 H F r2 σ m2 ∧ P n r2 m2, ⟨n0, G, r, m, Same.refl G, x, p0⟩, ?_⟩
  rintro n σ2 H2 ⟨G2, r2, m2, e2, x2, p2⟩
  refine ⟨G2, F, r2, m2, _, x2, turn n r2 m2 p2, fun G3 H3 m3 d v e3 rep3 pv t3 => ?_⟩
  have e := e2.trans e3
  by_cases hd : d = .non
  · subst hd
    cases pv
    refine ⟨rfl, false, rfl, ?_⟩
    exact k.nx G3 H3 m3 _ _ e rep3 ((x2.rs.mono e3).set .non) (t3.1 rfl)
  · refine ⟨rfl, true, by rw [decide_eq_false (rp_non pv hd)]; rfl, ?_⟩
    refine ⟨fun σ4 H4 => ∃ n', n' < n ∧ ∃ G4 r4 m4, Same G G4 ∧ Sx X.K W WD G4 H4 F r4 σ4 m4 ∧ P n' r4 m4, fun σ4 H4 h4 => h4, ?_⟩
    refine ⟨G3, F, _, m3, _, ⟨rep3, (x2.rs.mono e3).set pv, x2.lx.mono e3⟩, t3.2 hd, ⟨fun G4 H4 m4 r4 s4 e4 rep4 rs4 t4 => ?_, k.rt.mono e, k.nx.mono e, fun G4 H4 m4 r4 s4 e4 rep4 rs4 t4 => ?_⟩⟩
    · obtain ⟨n', hn, p⟩ := t4
      exact ⟨n', hn, G4, r4, m4, e.trans e4, x2.to (e3.trans e4) rep4 rs4, p⟩
    · obtain ⟨n', hn, p⟩ := t4
      exact ⟨n', hn, G4, r4, m4, e.trans e4, x2.to (e3.trans e4) rep4 rs4, p⟩
end
end DL

set_option Elab.async false
set_option linter.all false
set_option maxRecDepth 100000
set_option maxHeartbeats 4000000
namespace DL
open PySem PySem.Spec PyProof.Rows L2
theorem Rep.seqM {K : PySem.W.Frag} {G H F : Hp} {m : M} {a : Addr} {xs : List D} (r : Rep K G H F m) (h : m a = some (.lst xs)) : ∃ vs, H a = some (.lst vs) ∧ Rps K G xs vs := by
  obtain ⟨g1, f1, w, h3, h4⟩ := r.mo a _ h
  obtain ⟨vs, rfl, h4⟩ := h4.ofLst
  exact ⟨vs, h3, h4⟩
def dForM (ti : DTE) (g : DTG) (tb : DTS) : DTS := fun DD r m => ti r m fun d m1 => ∃ (a : Addr) (N : Nat) (P : Nat → DSt → M → Prop), d = .ref a ∧ P 0 r m1 ∧ (∀ i r m, P i r m → ∃ xs, m a = some (.lst xs) ∧ xs.length = N) ∧
  (∀ (i : Nat) (d : D) (xs : List D) (r : DSt) (m : M), P i r m → m a = some (.lst xs) → xs[i]? = some d → g d r m fun r2 m2 => tb { DD with nx := P (i + 1), ct := P (i + 1), bk := DD.nx } r2 m2) ∧ ∀ r m, P N r m → DD.nx r m
section
variable {X : Cx} {W : WX} {WD : DWX} {tg iter : Expr} {body : List Stmt} {ti : DTE} {g : DTG} {tb : DTS} {pos : Pos}
theorem ds_forM (hp : PassesOwn (model X.prog X.w) X.A X.env X.xe) (hc : X.calm = true) (hi : DE X W WD iter ti) (hg : DG X W WD tg g) (hb : DSs X W WD body tb)
    (hs : ∀ x, foldedSetIterable iter X.env x = pure x := by intro _; rfl) : DS X W WD (.For tg iter body [] pos) (dForM ti g tb) := by
  refine PS.imp (ps_for hp hc (pi_list hi) hg hb hs) fun E σ H h => ?_
  obtain ⟨G, F, r, m, DD, x, t, k⟩ := h
  refine ⟨G, F, r, m, _, x, t, fun G1 H1 m1 d1 v1 e1 r1 p1 t1 => ?_⟩
  obtain ⟨a, N, P, rfl, p0, len, turn, done⟩ := t1
  cases p1
  obtain ⟨xs0, hm0, hl0⟩ := len 0 r m1 p0
  obtain ⟨us0, ha0, _⟩ := r1.seqM hm0
  refine ⟨a, rfl, ⟨us0, SqL.of ha0⟩, ?_⟩
  refine ⟨fun i n σ H => n = N - i ∧ i ≤ N ∧ ∃ G2 r2 m2, Same G1 G2 ∧ Sx X.K W WD G2 H F r2 σ m2 ∧ P i r2 m2, ⟨N, rfl, Nat.zero_le _, G1, r, m1, Same.refl G1, x.step e1 r1, p0⟩, ?_⟩
  rintro i n σ2 H2 ⟨rfl, hi, G2, r2, m2, e2, x2, p2⟩
  obtain ⟨xs, hm, hl⟩ := len i r2 m2 p2
  obtain ⟨us, ha, rus⟩ := x2.rep.seqM hm
  by_cases hlt : i < N
  · have hx : i < xs.length := by omega
    have hv : i < us.length := by rw [← rus.length]; exact hx
    have hd : xs[i]? = some xs[i] := by simp [hx]
    refine .inr ⟨⟨us, us[i], SqL.of ha, by simp [hv]⟩, fun σ3 H3 => ∃ G3 r3 m3, Same G1 G3 ∧ Sx X.K W WD G3 H3 F r3 σ3 m3 ∧ P (i + 1) r3 m3, fun σ3 H3 h3 => ⟨N - (i + 1), by omega, rfl, hlt, h3⟩, fun v H3 y => ?_⟩
    obtain ⟨rfl, y⟩ := y
    obtain ⟨w, hw1, hw2⟩ := rus.get hd
    have q := y us (SqL.of ha)
    rw [hw1] at q
    cases q
    refine ⟨G2, F, r2, m2, xs[i], _, x2, hw2, turn i xs[i] xs r2 m2 p2 hm hd, fun G4 H4 m4 r4 s4 e4 rep4 rs4 t4 => ?_⟩
    have e14 : Same G1 G4 := e2.trans e4
    refine ⟨G4, F, r4, m4, _, x2.to e4 rep4 rs4, t4, ⟨fun G5 H5 m5 r5 s5 e5 rep5 rs5 t5 => ?_, k.rt.mono (e1.trans e14), k.nx.mono (e1.trans e14), fun G5 H5 m5 r5 s5 e5 rep5 rs5 t5 => ?_⟩⟩
    · exact ⟨G5, r5, m5, e14.trans e5, x2.to (e4.trans e5) rep5 rs5, t5⟩
    · exact ⟨G5, r5, m5, e14.trans e5, x2.to (e4.trans e5) rep5 rs5, t5⟩
  · have e : i = N := by omega
    subst e
    exact .inl ⟨⟨us, SqL.of ha, by rw [← rus.length]; omega⟩, k.nx G2 H2 m2 r2 σ2 (e1.trans e2) x2.rep x2.rs (done r2 m2 p2)⟩
end
theorem forM_lst {ti : DTE} {g : DTG} {tb : DTS} {DD : DEnds} {r : DSt} {m : M} {a : Addr} {xs : List D} (hi : ∀ Q' : D → M → Prop, Q' (.ref a) m → ti r m Q') (P : Nat → DSt → M → Prop) (p0 : P 0 r m) (st : ∀ i r m, P i r m → m a = some (.lst xs))
    (turn : ∀ (i : Nat) (d : D) (r : DSt) (m : M), xs[i]? = some d → P i r m → g d r m fun r2 m2 => tb { DD with nx := P (i + 1), ct := P (i + 1), bk := DD.nx } r2 m2) (done : ∀ r m, P xs.length r m → DD.nx r m) : dForM ti g tb DD r m :=
  hi _ ⟨a, xs.length, P, rfl, p0, fun i r m p => ⟨xs, st i r m p, rfl⟩, fun i d ys r m p hm hd => by
    have := st i r m p
    rw [hm] at this
    cases this
    exact turn i d r m hd p, done⟩
end DL

set_option linter.all false
namespace RowM
def val (cs : List Int) (p : Nat) (g : Int) (t : Nat) : Int :=
  if t < cs.length then cs.getD t 0 else cs.getD (t - ((t - cs.length) / p + 1) * p) 0 + (((t - cs.length) / p + 1 : Nat) : Int) * g
def Per (v : Nat → Int) (d s : Nat) (g : Int) : Prop := ∀ t, s ≤ t → v (t + d) = v t + g
def dl (v : Nat → Int) (t : Nat) : Int := v (t + 1) - v t
theorem Per.dl {v : Nat → Int} {d s : Nat} {g : Int} (h : Per v d s g) : ∀ t, s ≤ t → RowM.dl v (t + d) = RowM.dl v t := fun t ht => by
  unfold RowM.dl
  have e : t + d + 1 = t + 1 + d := by omega
  rw [e, h t ht, h (t + 1) (by omega)]
  omega
theorem dl_mul {v : Nat → Int} {d s : Nat} (h : ∀ t, s ≤ t → RowM.dl v (t + d) = RowM.dl v t) : ∀ (q t : Nat), s ≤ t → RowM.dl v (t + q * d) = RowM.dl v t
  | 0, t, _ => by simp
  | q + 1, t, ht => by
    rw [Nat.succ_mul, ← Nat.add_assoc, h _ (by omega), dl_mul h q t ht]
structure NF (v : Nat → Int) (L : Nat) (R : Int) (S : Nat) : Prop where
  pos : 1 ≤ L
  per : Per v L S R
  least : ∀ d, 1 ≤ d → d < L → ∀ s, ¬ ∀ t, s ≤ t → dl v (t + d) = dl v t
  first : S = 0 ∨ v (S - 1 + L) ≠ v (S - 1) + R
def stp (v : Nat → Int) (f p : Nat) : List Int := (List.range p).map fun k => dl v (f + k)
theorem stp_len (v : Nat → Int) (f p : Nat) : (stp v f p).length = p := by simp [stp]
theorem stp_at {v : Nat → Int} {f p k : Nat} (h : k < p) : (stp v f p)[k]? = some (dl v (f + k)) := by
  unfold stp
  rw [List.getElem?_map, List.getElem?_range h]
  rfl
theorem rot_at {st : List Int} {d k : Nat} (hd : d ≤ st.length) (hk : k < st.length) : (st.drop d ++ st.take d)[k]? = st[if k + d < st.length then k + d else k + d - st.length]? := by
  by_cases h : k + d < st.length
  · rw [if_pos h, List.getElem?_append_left (by simp; omega), List.getElem?_drop, Nat.add_comm]
  · rw [if_neg h, List.getElem?_append_right (by simp; omega), List.getElem?_take, if_pos (by simp; omega)]
    congr 1
    simp
    omega
theorem rot_iff {v : Nat → Int} {f p d : Nat} (hp : ∀ t, f ≤ t → dl v (t + p) = dl v t) (h0 : 1 ≤ p) (hd : d ≤ p) : stp v f p = (stp v f p).drop d ++ (stp v f p).take d ↔ ∀ t, f ≤ t → dl v (t + d) = dl v t := by
  have small : ∀ k, k < p → ((stp v f p).drop d ++ (stp v f p).take d)[k]? = some (dl v (f + k + d)) := by
    intro k hk
    rw [rot_at (by rw [stp_len]; exact hd) (by rw [stp_len]; exact hk), stp_len]
    by_cases h : k + d < p
    · rw [if_pos h, stp_at h]
      congr 2
      omega
    · rw [if_neg h, stp_at (by omega)]
      congr 1
      rw [← hp (f + (k + d - p)) (by omega)]
      congr 1
      omega
  constructor
  · intro e t ht
    have key : ∀ k, k < p → dl v (f + k + d) = dl v (f + k) := by
      intro k hk
      have h1 := small k hk
      rw [← e, stp_at hk] at h1
      exact (Option.some.inj h1).symm
    have e1 : t = f + (t - f) % p + (t - f) / p * p := by
      have := Nat.mod_add_div (t - f) p
      rw [Nat.mul_comm] at this
      omega
    have hr : (t - f) % p < p := Nat.mod_lt _ (by omega)
    rw [e1]
    rw [dl_mul hp _ _ (by omega)]
    have e2 : f + (t - f) % p + (t - f) / p * p + d = f + (t - f) % p + d + (t - f) / p * p := by omega
    rw [e2, dl_mul hp _ _ (by omega)]
    exact key _ hr
  · intro h
    apply List.ext_getElem?
    intro k
    by_cases hk : k < p
    · rw [small k hk, stp_at hk, h (f + k) (by omega)]
    · rw [List.getElem?_eq_none (by rw [stp_len]; omega), List.getElem?_eq_none (by simp [stp_len]; omega)]
structure LeastRot (st : List Int) (d : Nat) : Prop where
  pos : 1 ≤ d
  le : d ≤ st.length
  dvd : st.length % d = 0
  rot : st = st.drop d ++ st.take d
  least : ∀ e, 1 ≤ e → e < d → ¬ (st.length % e = 0 ∧ st = st.drop e ++ st.take e)
theorem LeastRot.min {v : Nat → Int} {f p d : Nat} (hp : ∀ t, f ≤ t → dl v (t + p) = dl v t) (h0 : 1 ≤ p) (h : LeastRot (stp v f p) d) : ∀ e, 1 ≤ e → (∀ t, f ≤ t → dl v (t + e) = dl v t) → d ≤ e := by
  intro e
  induction e using Nat.strongRecOn with
  | ind e ih =>
    intro he hs
    by_cases hlt : d ≤ e
    · exact hlt
    · exfalso
      have hdp : d ≤ p := by have := h.le; rw [stp_len] at this; exact this
      by_cases hr : p % e = 0
      · exact h.least e he (by omega) ⟨by rw [stp_len]; exact hr, (rot_iff hp h0 (by omega)).mpr hs⟩
      · have hr2 : p % e < e := Nat.mod_lt _ (by omega)
        have hs2 : ∀ t, f ≤ t → dl v (t + p % e) = dl v t := by
          intro t ht
          have e1 := dl_mul hs (p / e) (t + p % e) (by omega)
          have e2 : t + p % e + p / e * e = t + p := by
            have := Nat.mod_add_div p e
            rw [Nat.mul_comm] at this
            omega
          rw [e2, hp t ht] at e1
          exact e1.symm
        have := ih (p % e) hr2 (by omega) hs2
        omega
def tab (v : Nat → Int) (n : Nat) : List Int := (List.range n).map v
end RowM

set_option Elab.async false
set_option linter.all false
set_option maxRecDepth 100000
set_option maxHeartbeats 4000000
namespace LW
open PySem PySem.Spec PyProof.Rows L2 DL RowM
open He (ga ma)
abbrev il (ns : List Int) : D := .lst (ns.map D.int)
def LETTERS : Str := "abcdefghijklmnopqrstuvwxyz"
def SIGNS : Str := "0123456789_"
def inS (j i : Str) : Bool := !(Builtin.Str.occurrences j i 0 j.length 1).isEmpty
def nameB (z : Str) : Bool := decide (1 ≤ z.cps.size ∧ z.cps.size ≤ 12) && (match z.cps.toList with
  | c :: _ => inS LETTERS ⟨#[c]⟩
  | [] => false) && z.cps.toList.all fun c => inS LETTERS ⟨#[c]⟩ || inS SIGNS ⟨#[c]⟩
def sp_is_name (_ : Fr0) : DSp := fun ds m Q _ => ∃ z : Str, ds = [.str z] ∧ z.length ≤ 1000000 ∧ Q (.bl (nameB z)) m
structure Knd where
  n : Str
  c : Int
  d : Int
structure Arr where
  f : Str
  s : Str
  g : Int
structure Tsk where
  nm : Str
  ks : List Knd
  as : List Arr
def Knd.D (k : Knd) : DL.D := .tup [.str k.n, .int k.c, .int k.d]
def Arr.D (a : Arr) : DL.D := .tup [.str a.f, .str a.s, .int a.g]
abbrev ksD (ks : List Knd) : D := .lst (ks.map Knd.D)
abbrev asD (as : List Arr) : D := .lst (as.map Arr.D)
abbrev names (ks : List Knd) : List Str := ks.map Knd.n
structure KsOk (b : Bool) (ks : List Knd) : Prop where
  nm : ∀ k ∈ ks, nameB k.n = true
  nd : (names ks).Nodup
  c : ∀ k ∈ ks, 1 ≤ k.c ∧ k.c ≤ (if b then 9 else 99)
  d : ∀ k ∈ ks, 1 ≤ k.d ∧ k.d ≤ (if b then 24 else 99)
structure AsOk (ns : List Str) (as : List Arr) : Prop where
  f : ∀ a ∈ as, a.f ∈ ns
  s : ∀ a ∈ as, a.s ∈ ns
  g : ∀ a ∈ as, 1 ≤ a.g ∧ a.g ≤ 12
  nd : (as.map fun a => (a.f, a.s)).Nodup
structure Tsk.Ok (t : Tsk) : Prop where
  nm : nameB t.nm = true
  k1 : 1 ≤ t.ks.length
  k4 : t.ks.length ≤ 4
  a12 : t.as.length ≤ 12
  ks : KsOk (decide (0 < t.as.length)) t.ks
  as : AsOk (names t.ks) t.as
def taskF (t : Tsk) : List (Str × D) := [("name", .str t.nm), ("kind_rows", ksD t.ks), ("arrow_rows", asD t.as)]
def taskD (K : Fr0) (t : Tsk) : D := .ins (ga K "Task") (taskF t)
def sq0 : D → Option (List D)
  | .lst xs => some xs
  | .tup xs => some xs
  | _ => none
def sp_need_name (_ : Fr0) : DSp := fun ds m Q _ => ∃ z : Str, ds = [.str z] ∧ z.length ≤ 1000000 ∧ nameB z = true ∧ Q .non m
def sp_need_range (_ : Fr0) : DSp := fun ds m Q _ => ∃ (x : D) (v lo hi : Int), ds = [x, .int v, .int lo, .int hi] ∧ lo ≤ v ∧ v ≤ hi ∧ Q .non m
def sp_need_kind (_ : Fr0) : DSp := fun ds m Q _ => ∃ (z : Str) (ks : List Knd), ds = [.str z, ksD ks] ∧ z ∈ names ks ∧ ks.length ≤ 100 ∧ Q .non m
def sp_checked_kinds (_ : Fr0) : DSp := fun ds m Q _ => ∃ (ks : List Knd) (b : Bool), ds = [ksD ks, .bl b] ∧ KsOk b ks ∧ ks.length ≤ 100 ∧ Q (ksD ks) m
def sp_checked_arrows (_ : Fr0) : DSp := fun ds m Q _ => ∃ (as : List Arr) (x : D) (ks : List Knd), ds = [x, ksD ks] ∧ sq0 x = some (as.map Arr.D) ∧ AsOk (names ks) as ∧ as.length ≤ 100 ∧ ks.length ≤ 100 ∧ (∀ z ∈ names ks, nameB z = true) ∧ Q (asD as) m
def sp_Task_init (K : Fr0) : DSp := fun ds m Q _ => ∃ (a : Addr) (t : Tsk) (x : D), ds = [.ref a, .str t.nm, ksD t.ks, x] ∧ sq0 x = some (t.as.map Arr.D) ∧ m a = some (.ins (ga K "Task") []) ∧ t.Ok ∧ Q .non (mset m a (.ins (ga K "Task") (taskF t)))
def sp_Task_kinds (K : Fr0) : DSp := fun ds m Q _ => ∃ (t : Tsk) (x : D), ds = [x] ∧ x = taskD K t ∧ Q (ksD t.ks) m
def foll (t : Tsk) (z : Str) : List Arr := t.as.filter fun a => decide (a.f = z)
def folD (a : Arr) : D := .tup [.str a.s, .int a.g]
structure Job where
  k : Str
  r : Int
  c : Int
def Job.D (j : Job) : DL.D := .tup [.str j.k, .int j.r, .int j.c]
def jAt (w : List Job) (p : Nat) : Job := w.getD p ⟨"", 0, 0⟩
def t0 : Tsk := ⟨"", [], []⟩
def tAt (ts : List Tsk) (i : Nat) : Tsk := ts.getD i t0
def wAt (ws : List (List Job)) (i : Nat) : List Job := ws.getD i []
abbrev wkD (w : List Job) : D := .lst (w.map Job.D)
abbrev wksD (ws : List (List Job)) : D := .lst (ws.map wkD)
structure Rw where
  i : Nat
  p : Nat
  k : Str
  r : Int
  c : Int
  d : Int
def Rw.D (x : Rw) : DL.D := .tup [.int x.i, .int x.p, .str x.k, .int x.r, .int x.c, .int x.d]
def mx : List Int → Int
  | [] => 0
  | n :: r => r.foldl max n
def ownC (k : Knd) (n : Nat) : Int := if k.d ≤ n then k.c else 0
def kOf (t : Tsk) (z : Str) : Knd := (t.ks.find? fun k => decide (k.n = z)).getD ⟨z, 0, 0⟩
def dstp (t : Tsk) (f : Nat → Str → Int) (n : Nat) (z : Str) : Int := ownC (kOf t z) n + mx (((foll t z).filter fun a : Arr => decide (a.g ≤ (n : Int))).map fun a : Arr => f (n - a.g.toNat) a.s)
def demT (t : Tsk) : Nat → Nat → Str → Int
  | 0 => fun _ _ => 0
  | n + 1 => fun k z => if k < n then demT t n k z else dstp t (demT t n) n z
def dem (t : Tsk) (n : Nat) (z : Str) : Int := demT t (n + 1) n z
def mxL (l : List Int) : Int := l.foldl max 0
def tdem (t : Tsk) (n : Nat) : Int := mxL (t.ks.map fun k => dem t n k.n)
def sdem (ts : List Tsk) (n : Nat) : Int := (ts.map fun t => tdem t n).sum
def nmI (ks : List Knd) (i : Nat) : Str := ((ks[i]?).map Knd.n).getD ""
def rowN (f : Nat → Int) (n : Nat) : List Int := (List.range n).map f
structure TabR (m : M) (p : Addr) (ls : List Addr) (ks : List Knd) (rows : Nat → List Int) : Prop where
  dk : m p = some (.dK (List.zipWith (fun k l => ((Sum.inr k.n : Key), D.ref l)) ks ls))
  len : ls.length = ks.length
  row : ∀ i l, ls[i]? = some l → m l = some (.lst ((rows i).map D.int))
  nd : ls.Nodup
  pn : p ∉ ls
structure Tab (m m' : M) (p : Addr) (ls : List Addr) (ks : List Knd) (rows : Nat → List Int) : Prop extends TabR m' p ls ks rows where
  sub : MSub m m'
  fp : m p = none
  fl : ∀ l ∈ ls, m l = none
def sp_kind_demands (K : Fr0) : DSp := fun ds m Q _ => ∃ (t : Tsk) (x : D) (n : Nat), ds = [x, .int n] ∧ x = taskD K t ∧ t.Ok ∧ n ≤ 8000000 ∧ ∀ p ls m', Tab m m' p ls t.ks (fun i => rowN (fun at_ => dem t at_ (nmI t.ks i)) (n + 1)) → Q (.ref p) m'
def ixOf (ks : List Knd) (z : Str) : Nat := (names ks).idxOf z
def kI (ks : List Knd) (i : Nat) : Knd := ks.getD i ⟨"", 0, 0⟩
def rowJ (t : Tsk) (g : Int) (i : Nat) (w : List Job) (p : Nat) : Rw := ⟨i, p, (jAt w p).k, (jAt w p).r, (jAt w p).c, (jAt w p).r + (kOf t (jAt w p).k).d * g⟩
def rowsW (t : Tsk) (g : Int) (i : Nat) (w : List Job) : List Rw := (List.range w.length).map (rowJ t g i w)
def rowsR (ts : List Tsk) (g : Int) (ws : List (List Job)) : List Rw := (List.range ws.length).flatMap fun i => rowsW (tAt ts i) g i (wAt ws i)
def keyR (x : Rw) : PyData := .tuple [.int x.r, .int x.i, .int x.p]
def srtR (l : List Rw) : List Rw := l.mergeSort (PySem.W.dataLe false keyR)
def jobsR (ts : List Tsk) (g : Int) (ws : List (List Job)) : List Rw := srtR (rowsR ts g ws)
def runF (g : Int) (js : List Rw) : List (Str × D) := [("grain", .int g), ("placed", .lst (js.map Rw.D))]
def runD (K : Fr0) (g : Int) (js : List Rw) : D := .ins (ga K "Run") (runF g js)
def unkK (K : Fr0) (z : Str) : XD := ⟨ga K "UnknownKind", [("name", .str z)]⟩
def plX (K : Fr0) (C : Str) (i p : Nat) : XD := ⟨ga K C, [("place", .int p), ("task", .int i)]⟩
def rngX (K : Fr0) (z : Str) (v : Int) : XD := ⟨ga K "OutOfRange", [("value", .int v), ("what", .str z)]⟩
def cntX (K : Fr0) (z : Str) (v : Int) : XD := ⟨ga K "WrongCount", [("count", .int v), ("what", .str z)]⟩
def gapF (t : Tsk) (z w : Str) : Option Int := ((foll t z).find? fun a => decide (a.s = w)).map Arr.g
def jobX (K : Fr0) (t : Tsk) (w : List Job) (i p : Nat) (g : Int) : Option XD :=
  if (jAt w p).k ∉ names t.ks then some (unkK K (jAt w p).k)
  else if ¬ (1 ≤ (jAt w p).c ∧ (jAt w p).c ≤ (kOf t (jAt w p).k).c * g) then some (plX K "BadCost" i p)
  else if (jAt w p).r < 0 then some (plX K "BadRelease" i p)
  else if p = 0 then none
  else match gapF t (jAt w (p - 1)).k (jAt w p).k with
    | none => some (plX K "NoArrow" i p)
    | some a => if (jAt w p).r - (jAt w (p - 1)).r < a * g then some (plX K "GapTooShort" i p) else none
def walkX (K : Fr0) (t : Tsk) (w : List Job) (i : Nat) (g : Int) : Option XD := (List.range w.length).findSome? fun p => jobX K t w i p g
def allX (K : Fr0) (ts : List Tsk) (ws : List (List Job)) (g : Int) : Option XD := (List.range ws.length).findSome? fun i => walkX K (tAt ts i) (wAt ws i) i g
def many (ws : List (List Job)) : Nat := (ws.map List.length).sum
def cntsX (K : Fr0) (ts : List Tsk) (ws : List (List Job)) (g : Int) : Option XD :=
  if ¬ (1 ≤ g ∧ g ≤ 60) then some (rngX K "grain" g) else if ws.length ≠ ts.length then some (cntX K "walks" ws.length) else if 400 < many ws then some (cntX K "jobs" (many ws)) else none
def runX (K : Fr0) (ts : List Tsk) (ws : List (List Job)) (g : Int) : Option XD := match cntsX K ts ws g with
  | some x => some x
  | none => allX K ts ws g
def Out (o : Option XD) (q : Prop) (e : XD → Prop) : Prop := match o with
  | none => q
  | some x => e x
def sp_Task_row_of (K : Fr0) : DSp := fun ds m Q E => ∃ (t : Tsk) (x : D) (z : Str), ds = [x, .str z] ∧ x = taskD K t ∧ t.Ok ∧ (∀ k ∈ t.ks, k.n = z → Q k.D m) ∧ (z ∉ names t.ks → E (unkK K z) m)
def sp_Task_cost_of (K : Fr0) : DSp := fun ds m Q E => ∃ (t : Tsk) (x : D) (z : Str), ds = [x, .str z] ∧ x = taskD K t ∧ t.Ok ∧ (∀ k ∈ t.ks, k.n = z → Q (.int k.c) m) ∧ (z ∉ names t.ks → E (unkK K z) m)
def sp_Task_deadline_of (K : Fr0) : DSp := fun ds m Q E => ∃ (t : Tsk) (x : D) (z : Str), ds = [x, .str z] ∧ x = taskD K t ∧ t.Ok ∧ (∀ k ∈ t.ks, k.n = z → Q (.int k.d) m) ∧ (z ∉ names t.ks → E (unkK K z) m)
def sp_Task_followers (K : Fr0) : DSp := fun ds m Q E => ∃ (t : Tsk) (x : D) (z : Str), ds = [x, .str z] ∧ x = taskD K t ∧ t.Ok ∧ (z ∈ names t.ks → Q (.lst ((foll t z).map folD)) m) ∧ (z ∉ names t.ks → E (unkK K z) m)
def sp_gap_between (K : Fr0) : DSp := fun ds m Q _ => ∃ (t : Tsk) (x : D) (z w : Str), ds = [x, .str z, .str w] ∧ x = taskD K t ∧ t.Ok ∧ z ∈ names t.ks ∧ Q (match gapF t z w with | some a => .int a | none => .non) m
def sp_check_job (K : Fr0) : DSp := fun ds m Q E => ∃ (t : Tsk) (x : D) (w : List Job) (i p : Nat) (g : Int), ds = [x, wkD w, .int i, .int p, .int g] ∧ x = taskD K t ∧ t.Ok ∧ p < w.length ∧ (1 ≤ p → (jAt w (p - 1)).k ∈ names t.ks) ∧ (1 ≤ g ∧ g ≤ 60) ∧ Out (jobX K t w i p g) (Q .non m) fun x => E x m
def sp_check_counts (K : Fr0) : DSp := fun ds m Q E => ∃ (ts : List Tsk) (ws : List (List Job)) (g : Int), ds = [.lst (ts.map (taskD K)), wksD ws, .int g] ∧ ts.length ≤ 1000 ∧ ws.length ≤ 1000 ∧ Out (cntsX K ts ws g) (Q .non m) fun x => E x m
def sp_Run_init (K : Fr0) : DSp := fun ds m Q E => ∃ (a : Addr) (ts : List Tsk) (ws : List (List Job)) (g : Int), ds = [.ref a, .lst (ts.map (taskD K)), wksD ws, .int g] ∧ m a = some (.ins (ga K "Run") []) ∧ (∀ t ∈ ts, t.Ok) ∧ ts.length ≤ 1000 ∧ ws.length ≤ 1000 ∧ Out (runX K ts ws g) (Q .non (mset m a (.ins (ga K "Run") (runF g (jobsR ts g ws))))) fun x => ∀ m', MSub m m' → E x m'
def sp_Run_jobs (K : Fr0) : DSp := fun ds m Q _ => ∃ (g : Int) (js : List Rw), ds = [runD K g js] ∧ Q (.lst (js.map Rw.D)) m
structure PS where
  ns : List Int
  v : Int
  k : Int
def pm (a b : Addr) (s : PS) (m : M) : M := mset (mset m b (.lst (s.ns.map D.int))) a (.lst [.ref b, .int s.v, .int s.k])
structure Pl (a b : Addr) (s : PS) (n : Int) : Prop where
  ne : a ≠ b
  v0 : 0 ≤ s.v
  v1 : s.v < 2147483647
  k0 : 0 ≤ s.k
  kn : s.k ≤ n
theorem Pl.up {a b : Addr} {s : PS} {n n' : Int} (h : Pl a b s n) (e : n ≤ n') : Pl a b s n' := ⟨h.ne, h.v0, h.v1, h.k0, by have := h.kn; omega⟩
def sp_law_pool (_ : Fr0) : DSp := fun ds m Q _ => ∃ ns : List Int, ds = [.rdl (ns.map D.int)] ∧ ns.length ≤ 63 ∧ ∀ a b s, m a = none → m b = none → Pl a b s 0 → Q (.ref a) (pm a b s m)
def sp_law_draw (_ : Fr0) : DSp := fun ds m Q _ => ∃ (a b : Addr) (s : PS) (n lim : Int) (m0 : M), ds = [.ref a, .int lim] ∧ m = pm a b s m0 ∧ Pl a b s n ∧ n ≤ 1000000000000 ∧ (1 ≤ lim ∧ lim.natAbs < 2 ^ 200) ∧
  ∀ r s', 0 ≤ r → r < lim → Pl a b s' (n + 1) → Q (.int r) (pm a b s' m0)
def sp_law_number (_ : Fr0) : DSp := fun ds m Q _ => ∃ (x : D) (a b : Addr) (s : PS) (n most : Int) (m0 : M), ds = [x, .int most] ∧ x = .ref a ∧ m = pm a b s m0 ∧ Pl a b s n ∧ n ≤ 100000000000 ∧ (1 ≤ most ∧ most ≤ 1000000) ∧
  ∀ r s', 1 ≤ r → r ≤ most → Pl a b s' (n + 2) → Q (.int r) (pm a b s' m0)
def sp_law_name (_ : Fr0) : DSp := fun ds m Q _ => ∃ (x : D) (a b : Addr) (s : PS) (n : Int) (m0 : M), ds = [x] ∧ x = .ref a ∧ m = pm a b s m0 ∧ Pl a b s n ∧ n ≤ 100000000000 ∧
  ∀ z s', nameB z = true → Pl a b s' (n + 13) → Q (.str z) (pm a b s' m0)
def sp_law_fresh (_ : Fr0) : DSp := fun ds m Q _ => ∃ (z : Str) (x : D) (zs : List Str), ds = [.str z, x] ∧ lsOf m x = some (zs.map D.str) ∧ nameB z = true ∧ zs.length ≤ 4 ∧ ∀ y, nameB y = true → y ∉ zs → Q (.str y) m
def sp_law_near (_ : Fr0) : DSp := fun ds m Q _ => ∃ (w x : D) (a b : Addr) (s : PS) (n : Int) (m0 : M) (zs : List Str), ds = [w, x] ∧ w = .ref a ∧ m = pm a b s m0 ∧ (∀ s', vD (pm a b s' m0) x = .lst (zs.map D.str)) ∧ Pl a b s n ∧ n ≤ 10000000000 ∧ (∀ z ∈ zs, nameB z = true) ∧ zs.length ≤ 4 ∧
  ∀ z s', nameB z = true → z ∉ zs → Pl a b s' (n + 20) → Q (.str z) (pm a b s' m0)
def WkOk (t : Tsk) (g : Int) (w : List Job) : Prop := ∀ p, p < w.length → (∃ k ∈ t.ks, k.n = (jAt w p).k ∧ 1 ≤ (jAt w p).c ∧ (jAt w p).c ≤ k.c * g) ∧ 0 ≤ (jAt w p).r ∧ (1 ≤ p → ∃ a ∈ t.as, a.f = (jAt w (p - 1)).k ∧ a.s = (jAt w p).k ∧ a.g * g ≤ (jAt w p).r - (jAt w (p - 1)).r)
abbrev demRow (t : Tsk) (N : Nat) : Nat → List Int := fun i => rowN (fun at_ => dem t at_ (nmI t.ks i)) N
def hvD (j : Job) : D := .tup [.str j.k, .int j.r]
inductive Hv (t : Tsk) (n : Nat) : List Job → Str → Nat → Prop
  | one (z : Str) : z ∈ names t.ks → (∀ y ∈ names t.ks, dem t n y ≤ dem t n z) → 0 < dem t n z → Hv t n [⟨z, 0, (kOf t z).c⟩] z n
  | step (w : List Job) (z : Str) (l : Nat) (a : Arr) (l' : Nat) : Hv t n w z l → a ∈ foll t z → a.g + (l' : Int) = l → 0 < dem t l' a.s → (∀ b ∈ foll t z, b.g ≤ (l : Int) → dem t (l - b.g.toNat) b.s ≤ dem t l' a.s) → Hv t n (w ++ [⟨a.s, (n : Int) - l', (kOf t a.s).c⟩]) a.s l'
def HvW (t : Tsk) (n : Nat) (w : List Job) : Prop := (w = [] ∧ ∀ y ∈ names t.ks, dem t n y = 0) ∨ ∃ z l, Hv t n w z l ∧ ∀ b ∈ foll t z, b.g ≤ (l : Int) → dem t (l - b.g.toNat) b.s = 0
def sp_heaviest_kind (_ : Fr0) : DSp := fun ds m Q _ => ∃ (p : Addr) (ls : List Addr) (t : Tsk) (N n : Nat), ds = [.ref p, .lst ((names t.ks).map D.str), .int n] ∧ t.Ok ∧ TabR m p ls t.ks (demRow t N) ∧ n < N ∧ ∀ z ∈ names t.ks, (∀ y ∈ names t.ks, dem t n y ≤ dem t n z) → Q (.str z) m
def sp_next_step (_ : Fr0) : DSp := fun ds m Q _ => ∃ (p : Addr) (ls : List Addr) (t : Tsk) (z : Str) (N l : Nat), ds = [.ref p, .lst ((foll t z).map folD), .int l] ∧ t.Ok ∧ TabR m p ls t.ks (demRow t N) ∧ l < N ∧ ((∀ b ∈ foll t z, b.g ≤ (l : Int) → dem t (l - b.g.toNat) b.s = 0) → Q .non m) ∧
  ∀ (a : Arr) (l' : Nat), a ∈ foll t z → a.g + (l' : Int) = l → 0 < dem t l' a.s → (∀ b ∈ foll t z, b.g ≤ (l : Int) → dem t (l - b.g.toNat) b.s ≤ dem t l' a.s) → Q (folD a) m
def sp_heavy_run (K : Fr0) : DSp := fun ds m Q _ => ∃ (ts : List Tsk) (n : Nat), ds = [.lst (ts.map (taskD K)), .int n] ∧ (∀ t ∈ ts, t.Ok) ∧ ts.length * n ≤ 400 ∧ n ≤ 400 ∧ ts.length ≤ 400 ∧ ∀ ws, ws.length = ts.length → (∀ i, i < ts.length → HvW (tAt ts i) n (wAt ws i)) → Q (runD K 1 (jobsR ts 1 ws)) m
def sp_heavy_walk (K : Fr0) : DSp := fun ds m Q _ => ∃ (t : Tsk) (x : D) (n : Nat), ds = [x, .int n] ∧ x = taskD K t ∧ t.Ok ∧ n ≤ 8000000 ∧ ∀ w, HvW t n w → w.length ≤ n → ∀ p, m p = none → Q (.ref p) (mset m p (.lst (w.map hvD)))
def specD (t : Tsk) : D := .tup [.str t.nm, ksD t.ks, asD t.as]
def sp_law_spec (_ : Fr0) : DSp := fun ds m Q _ => ∃ (x : D) (a b : Addr) (s : PS) (n : Int) (m0 : M), ds = [x] ∧ x = .ref a ∧ m = pm a b s m0 ∧ Pl a b s n ∧ n ≤ 1000000000 ∧
  ∀ t s', t.Ok → Pl a b s' (n + 1000) → Q (specD t) (pm a b s' m0)
def tabD (t : Tsk) (n : Nat) : D := .lst (t.ks.map fun k => il (rowN (fun at_ => dem t at_ k.n) (n + 1)))
def sp_law_table (_ : Fr0) : DSp := fun ds m Q _ => ∃ (t : Tsk) (n : Nat), ds = [specD t, .int n] ∧ t.Ok ∧ n ≤ 1000000 ∧ Q (tabD t n) m
inductive Ft
  | unk (z : Str)
  | rel (p : Nat)
  | arr (p : Nat)
  | gap (p : Nat)
def Ft.D : Ft → DL.D
  | .unk z => .tup [.str "UnknownKind", .str z]
  | .rel p => .tup [.str "BadRelease", .int 0, .int p]
  | .arr p => .tup [.str "NoArrow", .int 0, .int p]
  | .gap p => .tup [.str "GapTooShort", .int 0, .int p]
def Ft.X (K : Fr0) : Ft → XD
  | .unk z => unkK K z
  | .rel p => plX K "BadRelease" 0 p
  | .arr p => plX K "NoArrow" 0 p
  | .gap p => plX K "GapTooShort" 0 p
def stF (t : Tsk) (w : List Job) (p : Nat) : Option Ft := match gapF t (jAt w (p - 1)).k (jAt w p).k with
  | none => some (.arr p)
  | some a => if (jAt w p).r - (jAt w (p - 1)).r < a then some (.gap p) else none
def wdF (t : Tsk) (w : List Job) (p : Nat) : Option Ft :=
  if (jAt w p).k ∉ names t.ks then some (.unk (jAt w p).k) else if (jAt w p).r < 0 then some (.rel p) else if p = 0 then none else stF t w p
def wdN (t : Tsk) (w : List Job) (n : Nat) : Option Ft := (List.range n).findSome? (wdF t w)
def dueP (t : Tsk) (b : Int) (w : List Job) (p : Nat) : Int := if (jAt w p).r + (kOf t (jAt w p).k).d ≤ b then (kOf t (jAt w p).k).c else 0
def dueN (t : Tsk) (b : Int) (w : List Job) (n : Nat) : Int := ((List.range n).map (dueP t b w)).sum
def duD (t : Tsk) (b : Int) (w : List Job) : DL.D := match wdN t w w.length with
  | some f => f.D
  | none => .tup [.str "sum", .int (dueN t b w w.length)]
def OutF (o : Option Ft) (q : Prop) (e : Ft → Prop) : Prop := match o with
  | none => q
  | some f => e f
def sp_need_step (K : Fr0) : DSp := fun ds m Q E => ∃ (t : Tsk) (x : D) (w : List Job) (p : Nat), ds = [x, .lst (w.map hvD), .int p] ∧ x = taskD K t ∧ t.Ok ∧ 1 ≤ p ∧ p < w.length ∧ (jAt w (p - 1)).k ∈ names t.ks ∧ OutF (stF t w p) (Q .non m) fun f => E (f.X K) m
def sp_walk_demand (K : Fr0) : DSp := fun ds m Q E => ∃ (t : Tsk) (x : D) (w : List Job) (b : Int), ds = [x, .lst (w.map hvD), .int b] ∧ x = taskD K t ∧ t.Ok ∧ w.length ≤ 1000 ∧ OutF (wdN t w w.length) (Q (.int (dueN t b w w.length)) m) fun f => E (f.X K) m
def WkR (m : M) (x : DL.D) (w : List Job) : Prop := ∃ p, x = .ref p ∧ m p = some (.lst (w.map hvD))
def sp_law_whole (_ : Fr0) : DSp := fun ds m Q _ => ∃ v : Int, ds = [.int v] ∧ Q (.bl true) m
def sp_law_gap (_ : Fr0) : DSp := fun ds m Q _ => ∃ (t : Tsk) (z y : Str), ds = [specD t, .str z, .str y] ∧ t.Ok ∧ Q (il ((t.as.filter fun a => decide (a.f = z) && decide (a.s = y)).map Arr.g)) m
def sp_law_due (_ : Fr0) : DSp := fun ds m Q _ => ∃ (t : Tsk) (x : D) (w : List Job) (b : Int), ds = [specD t, x, .int b] ∧ WkR m x w ∧ t.Ok ∧ w.length ≤ 1000 ∧ Q (duD t b w) m
def WkC (w : List Job) : Prop := ∀ j ∈ w, PyData.strOk j.k = true
def sp_law_told (K : Fr0) : DSp := fun ds m Q _ => ∃ (t : Tsk) (y x : D) (w : List Job) (b : Int), ds = [y, x, .int b] ∧ y = taskD K t ∧ WkR m x w ∧ WkC w ∧ t.Ok ∧ w.length ≤ 1000 ∧ Q (duD t b w) m
def sp_law_is_walk (_ : Fr0) : DSp := fun ds m Q _ => ∃ (x : D) (w : List Job), ds = [x] ∧ WkR m x w ∧ w.length ≤ 1000 ∧ Q (.bl true) m
def sp_law_is_heavy (_ : Fr0) : DSp := fun ds m Q _ => ∃ (t : Tsk) (x : D) (w : List Job) (n : Nat), ds = [x, specD t, .int (tdem t n), .int n] ∧ WkR m x w ∧ t.Ok ∧ HvW t n w ∧ n ≤ 1000 ∧ Q (.bl true) m
def sp_law_drawn_walk (_ : Fr0) : DSp := fun ds m Q _ => ∃ (x : D) (a b : Addr) (s : PS) (n : Int) (m0 : M) (t : Tsk), ds = [x, specD t] ∧ x = .ref a ∧ m = pm a b s m0 ∧ Pl a b s n ∧ n ≤ 1000000000 ∧ t.Ok ∧
  ∀ (w : List Job) (s' : PS), 1 ≤ w.length → w.length ≤ 9 → WkC w → Pl a b s' (n + 100) → ∀ p, pm a b s' m0 p = none → Q (.ref p) (mset (pm a b s' m0) p (.lst (w.map hvD)))
def sp_law_spoiled (_ : Fr0) : DSp := fun ds m Q _ => ∃ (x : D) (a b : Addr) (s : PS) (n : Int) (m0 : M) (t : Tsk) (w : List Job) (p : Addr), ds = [x, specD t, .ref p] ∧ x = .ref a ∧ m = pm a b s m0 ∧ (p ≠ a ∧ p ≠ b ∧ m0 p = some (.lst (w.map hvD))) ∧ Pl a b s n ∧ n ≤ 1000000000 ∧ t.Ok ∧ 1 ≤ w.length ∧ w.length ≤ 9 ∧ WkC w ∧
  ∀ (v : List Job) (s' : PS), v.length = w.length → WkC v → Pl a b s' (n + 100) → ∀ p, pm a b s' m0 p = none → Q (.ref p) (mset (pm a b s' m0) p (.lst (v.map hvD)))
def sp_law_all_heavy (K : Fr0) : DSp := fun ds m Q _ => ∃ (ts : List Tsk) (n : Nat), ds = [.lst (ts.map (taskD K)), .lst (ts.map specD), .int n] ∧ (∀ t ∈ ts, t.Ok) ∧ ts.length ≤ 3 ∧ n ≤ 60 ∧ Q (.bl true) m
end LW

set_option Elab.async false
set_option linter.all false
set_option maxRecDepth 100000
set_option maxHeartbeats 4000000
namespace LW
open PySem PySem.Spec PyProof.Rows L2 DL RowM
open He (ga ma)
def top (i : Nat) : Stmt := PySem.Challenge.pw_walkdues_k18_heavy_walks.main.body.getD i (.Pass ⟨0, 0, 0, 0⟩)
abbrev s_UnknownKind_init : Stmt := inClass (top 8) 0
abbrev nm_UnknownKind_init : List Str := ["self", "name"]
theorem sc_UnknownKind_init : FnScope nm_UnknownKind_init ["self", "name"] (defScope s_UnknownKind_init) := ⟨rfl, rfl, rfl, by decide +kernel, rfl, by decide +kernel, by decide +kernel⟩

abbrev s_OutOfRange_init : Stmt := inClass (top 5) 0
abbrev nm_OutOfRange_init : List Str := ["self", "what", "value"]
theorem sc_OutOfRange_init : FnScope nm_OutOfRange_init ["self", "what", "value"] (defScope s_OutOfRange_init) := ⟨rfl, rfl, rfl, by decide +kernel, rfl, by decide +kernel, by decide +kernel⟩

abbrev s_WrongCount_init : Stmt := inClass (top 4) 0
abbrev nm_WrongCount_init : List Str := ["self", "what", "count"]
theorem sc_WrongCount_init : FnScope nm_WrongCount_init ["self", "what", "count"] (defScope s_WrongCount_init) := ⟨rfl, rfl, rfl, by decide +kernel, rfl, by decide +kernel, by decide +kernel⟩

abbrev s_BadCost_init : Stmt := inClass (top 9) 0
abbrev nm_BadCost_init : List Str := ["self", "task", "place"]
theorem sc_BadCost_init : FnScope nm_BadCost_init ["self", "task", "place"] (defScope s_BadCost_init) := ⟨rfl, rfl, rfl, by decide +kernel, rfl, by decide +kernel, by decide +kernel⟩

abbrev s_BadRelease_init : Stmt := inClass (top 10) 0
abbrev nm_BadRelease_init : List Str := ["self", "task", "place"]
theorem sc_BadRelease_init : FnScope nm_BadRelease_init ["self", "task", "place"] (defScope s_BadRelease_init) := ⟨rfl, rfl, rfl, by decide +kernel, rfl, by decide +kernel, by decide +kernel⟩

abbrev s_NoArrow_init : Stmt := inClass (top 11) 0
abbrev nm_NoArrow_init : List Str := ["self", "task", "place"]
theorem sc_NoArrow_init : FnScope nm_NoArrow_init ["self", "task", "place"] (defScope s_NoArrow_init) := ⟨rfl, rfl, rfl, by decide +kernel, rfl, by decide +kernel, by decide +kernel⟩

abbrev s_GapTooShort_init : Stmt := inClass (top 12) 0
abbrev nm_GapTooShort_init : List Str := ["self", "task", "place"]
theorem sc_GapTooShort_init : FnScope nm_GapTooShort_init ["self", "task", "place"] (defScope s_GapTooShort_init) := ⟨rfl, rfl, rfl, by decide +kernel, rfl, by decide +kernel, by decide +kernel⟩

abbrev s_is_name : Stmt := top 35
abbrev nm_is_name : List Str := ["text", "sign"]
theorem sc_is_name : FnScope nm_is_name ["text"] (defScope s_is_name) := ⟨rfl, rfl, rfl, by decide +kernel, rfl, by decide +kernel, by decide +kernel⟩
def t_is_name (K : PySem.W.Frag) (WD : DWX) : DTS :=
    dSeq (dIfS (dOr (dNot (dTest (dChain dLe dLe (dC (.int 1)) (dCB dLen (daCons (dVar 0) daNil)) (dC (.int 12))))) (dTest (dOp (dIn true) (dOp dIx (dVar 0) (dC (.int 0))) (dC (.str "abcdefghijklmnopqrstuvwxyz"))))) (dRet (dC (.bl false))) dNext)
    (dRet (dCB dAll (daCons (dLc false (diS (dVar 0)) (.one 1) [1] dYes (dOrV (dOp (dIn false) (dVar 1) (dC (.str "abcdefghijklmnopqrstuvwxyz"))) (dOp (dIn false) (dVar 1) (dC (.str "0123456789_"))))) daNil)))

abbrev s_need_name : Stmt := top 36
abbrev nm_need_name : List Str := ["text"]
theorem sc_need_name : FnScope nm_need_name ["text"] (defScope s_need_name) := ⟨rfl, rfl, rfl, by decide +kernel, rfl, by decide +kernel, by decide +kernel⟩
def t_need_name (K : PySem.W.Frag) (WD : DWX) : DTS :=
    dIfS (dNot (dTru (dCall (sp_is_name K) WD [] (daCons (dVar 0) daNil)))) dNever dNext

abbrev s_need_range : Stmt := top 37
abbrev nm_need_range : List Str := ["what", "value", "least", "most"]
theorem sc_need_range : FnScope nm_need_range ["what", "value", "least", "most"] (defScope s_need_range) := ⟨rfl, rfl, rfl, by decide +kernel, rfl, by decide +kernel, by decide +kernel⟩
def t_need_range (K : PySem.W.Frag) (WD : DWX) : DTS :=
    dIfS (dOr (dTest (dOp dLt (dVar 1) (dVar 2))) (dTest (dOp dGt (dVar 1) (dVar 3)))) dNever dNext

abbrev s_need_kind : Stmt := top 38
abbrev nm_need_kind : List Str := ["name", "kind_rows", "row"]
theorem sc_need_kind : FnScope nm_need_kind ["name", "kind_rows"] (defScope s_need_kind) := ⟨rfl, rfl, rfl, by decide +kernel, rfl, by decide +kernel, by decide +kernel⟩
def t_need_kind (K : PySem.W.Frag) (WD : DWX) : DTS :=
    dIfS (dTest (dOp (dIn true) (dVar 0) (dLc false (diL (dVar 1)) (.one 2) [2] dYes (dOp dIx (dVar 2) (dC (.int 0)))))) dNever dNext

abbrev s_checked_kinds : Stmt := top 39
abbrev nm_checked_kinds : List Str := ["kinds", "branching", "most_cost", "most_deadline", "rows", "name", "cost", "deadline", "row"]
theorem sc_checked_kinds : FnScope nm_checked_kinds ["kinds", "branching"] (defScope s_checked_kinds) := ⟨rfl, rfl, rfl, by decide +kernel, rfl, by decide +kernel, by decide +kernel⟩
def t_checked_kinds (K : PySem.W.Frag) (WD : DWX) : DTS :=
    dSeq (dAsg (dIf (dTru (dVar 1)) (dTup (daCons (dC (.int 9)) (daCons (dC (.int 24)) daNil))) (dTup (daCons (dC (.int 99)) (daCons (dC (.int 99)) daNil)))) (gT 2 (gsCons (gN 2) (gsCons (gN 3) gsNil))))
    (dSeq (dSet 4 (dLst true daNil))
    (dSeq (dFor (diL (dVar 0)) (gT 3 (gsCons (gN 5) (gsCons (gN 6) (gsCons (gN 7) gsNil)))) (dSeq (dDrop (dCall (sp_need_name K) WD [] (daCons (dVar 5) daNil)))
    (dSeq (dIfS (dTest (dOp (dIn false) (dVar 5) (dLcM false (dVar 4) (.one 8) [8] dYes (dOp dIx (dVar 8) (dC (.int 0)))))) dNever dNext)
    (dSeq (dDrop (dCall (sp_need_range K) WD [] (daCons (dC (.str "cost")) (daCons (dVar 6) (daCons (dC (.int 1)) (daCons (dVar 2) daNil))))))
    (dSeq (dDrop (dCall (sp_need_range K) WD [] (daCons (dC (.str "deadline")) (daCons (dVar 7) (daCons (dC (.int 1)) (daCons (dVar 3) daNil))))))
    (dDrop (dBM isL dAppend (dVar 4) (daCons (dTup (daCons (dVar 5) (daCons (dVar 6) (daCons (dVar 7) daNil)))) daNil))))))))
    (dRet (dFrzE (dVar 4)))))

abbrev s_checked_arrows : Stmt := top 40
abbrev nm_checked_arrows : List Str := ["arrows", "kind_rows", "rows", "first", "second", "gap", "row"]
theorem sc_checked_arrows : FnScope nm_checked_arrows ["arrows", "kind_rows"] (defScope s_checked_arrows) := ⟨rfl, rfl, rfl, by decide +kernel, rfl, by decide +kernel, by decide +kernel⟩
def t_checked_arrows (K : PySem.W.Frag) (WD : DWX) : DTS :=
    dSeq (dSet 2 (dLst true daNil))
    (dSeq (dFor (diQ (dVar 0)) (gT 3 (gsCons (gN 3) (gsCons (gN 4) (gsCons (gN 5) gsNil)))) (dSeq (dDrop (dCall (sp_need_kind K) WD [] (daCons (dVar 3) (daCons (dVar 1) daNil))))
    (dSeq (dDrop (dCall (sp_need_kind K) WD [] (daCons (dVar 4) (daCons (dVar 1) daNil))))
    (dSeq (dDrop (dCall (sp_need_range K) WD [] (daCons (dC (.str "gap")) (daCons (dVar 5) (daCons (dC (.int 1)) (daCons (dC (.int 12)) daNil))))))
    (dSeq (dIfS (dTest (dOp (dInD false) (dTup (daCons (dVar 3) (daCons (dVar 4) daNil))) (dLcM false (dVar 2) (.one 6) [6] dYes (dTup (daCons (dOp dIx (dVar 6) (dC (.int 0))) (daCons (dOp dIx (dVar 6) (dC (.int 1))) daNil)))))) dNever dNext)
    (dDrop (dBM isL dAppend (dVar 2) (daCons (dTup (daCons (dVar 3) (daCons (dVar 4) (daCons (dVar 5) daNil)))) daNil))))))))
    (dRet (dFrzE (dVar 2))))

abbrev s_Task_init : Stmt := inClass (top 41) 0
abbrev nm_Task_init : List Str := ["self", "name", "kinds", "arrows"]
theorem sc_Task_init : FnScope nm_Task_init ["self", "name", "kinds", "arrows"] (defScope s_Task_init) := ⟨rfl, rfl, rfl, by decide +kernel, rfl, by decide +kernel, by decide +kernel⟩
def t_Task_init (K : PySem.W.Frag) (WD : DWX) : DTS :=
    dSeq (dDrop (dCall (sp_need_name K) WD [] (daCons (dVar 1) daNil)))
    (dSeq (dIfS (dNot (dTest (dChain dLe dLe (dC (.int 1)) (dCB dLen (daCons (dVar 2) daNil)) (dC (.int 4))))) dNever dNext)
    (dSeq (dIfS (dTest (dOp dGt (dCB dLen (daCons (dVar 3) daNil)) (dC (.int 12)))) dNever dNext)
    (dSeq (dFldS K (dVar 0) (dVar 1) "name")
    (dSeq (dFldS K (dVar 0) (dCall (sp_checked_kinds K) WD [] (daCons (dVar 2) (daCons (dOp dGt (dCB dLen (daCons (dVar 3) daNil)) (dC (.int 0))) daNil))) "kind_rows")
    (dFldS K (dVar 0) (dCall (sp_checked_arrows K) WD [] (daCons (dVar 3) (daCons (dFld K (dVar 0) "kind_rows") daNil))) "arrow_rows")))))

abbrev s_Task_kinds : Stmt := inClass (top 41) 1
abbrev nm_Task_kinds : List Str := ["self"]
theorem sc_Task_kinds : FnScope nm_Task_kinds ["self"] (defScope s_Task_kinds) := ⟨rfl, rfl, rfl, by decide +kernel, rfl, by decide +kernel, by decide +kernel⟩
def t_Task_kinds (K : PySem.W.Frag) (WD : DWX) : DTS :=
    dRet (dCB (dList false) (daCons (dFld K (dVar 0) "kind_rows") daNil))

abbrev s_Task_row_of : Stmt := inClass (top 41) 3
abbrev nm_Task_row_of : List Str := ["self", "kind", "row"]
theorem sc_Task_row_of : FnScope nm_Task_row_of ["self", "kind"] (defScope s_Task_row_of) := ⟨rfl, rfl, rfl, by decide +kernel, rfl, by decide +kernel, by decide +kernel⟩
def t_Task_row_of (K : PySem.W.Frag) (WD : DWX) : DTS :=
    dSeq (dFor (diL (dFld K (dVar 0) "kind_rows")) (gN 2) (dIfS (dTest (dOp dEq (dOp dIx (dVar 2) (dC (.int 0))) (dVar 1))) (dRet (dVar 2)) dNext))
    (dRaise (ga K "UnknownKind") ["name"] WD (daCons (dVar 1) daNil))

abbrev s_Task_cost_of : Stmt := inClass (top 41) 4
abbrev nm_Task_cost_of : List Str := ["self", "kind"]
theorem sc_Task_cost_of : FnScope nm_Task_cost_of ["self", "kind"] (defScope s_Task_cost_of) := ⟨rfl, rfl, rfl, by decide +kernel, rfl, by decide +kernel, by decide +kernel⟩
def t_Task_cost_of (K : PySem.W.Frag) (WD : DWX) : DTS :=
    dRet (dOp dIx (dMeth (ga K "Task") "row_of" (sp_Task_row_of K) WD [] (dVar 0) (daCons (dVar 1) daNil)) (dC (.int 1)))

abbrev s_Task_deadline_of : Stmt := inClass (top 41) 5
abbrev nm_Task_deadline_of : List Str := ["self", "kind"]
theorem sc_Task_deadline_of : FnScope nm_Task_deadline_of ["self", "kind"] (defScope s_Task_deadline_of) := ⟨rfl, rfl, rfl, by decide +kernel, rfl, by decide +kernel, by decide +kernel⟩
def t_Task_deadline_of (K : PySem.W.Frag) (WD : DWX) : DTS :=
    dRet (dOp dIx (dMeth (ga K "Task") "row_of" (sp_Task_row_of K) WD [] (dVar 0) (daCons (dVar 1) daNil)) (dC (.int 2)))

abbrev s_Task_followers : Stmt := inClass (top 41) 6
abbrev nm_Task_followers : List Str := ["self", "kind", "first", "second", "gap"]
theorem sc_Task_followers : FnScope nm_Task_followers ["self", "kind"] (defScope s_Task_followers) := ⟨rfl, rfl, rfl, by decide +kernel, rfl, by decide +kernel, by decide +kernel⟩
def t_Task_followers (K : PySem.W.Frag) (WD : DWX) : DTS :=
    dSeq (dDrop (dMeth (ga K "Task") "row_of" (sp_Task_row_of K) WD [] (dVar 0) (daCons (dVar 1) daNil)))
    (dRet (dLc false (diL (dFld K (dVar 0) "arrow_rows")) (.tup [2, 3, 4]) [2, 3, 4] (dTest (dOp dEq (dVar 2) (dVar 1))) (dTup (daCons (dVar 3) (daCons (dVar 4) daNil)))))

abbrev s_gap_between : Stmt := top 16
abbrev nm_gap_between : List Str := ["task", "first", "second", "kind", "gap"]
theorem sc_gap_between : FnScope nm_gap_between ["task", "first", "second"] (defScope s_gap_between) := ⟨rfl, rfl, rfl, by decide +kernel, rfl, by decide +kernel, by decide +kernel⟩
def t_gap_between (K : PySem.W.Frag) (WD : DWX) : DTS :=
    dSeq (dFor (diL (dMeth (ga K "Task") "followers" (sp_Task_followers K) WD [] (dVar 0) (daCons (dVar 1) daNil))) (gT 2 (gsCons (gN 3) (gsCons (gN 4) gsNil))) (dIfS (dTest (dOp dEq (dVar 3) (dVar 2))) (dRet (dVar 4)) dNext))
    (dRet (dC .non))

abbrev s_check_job : Stmt := top 17
abbrev nm_check_job : List Str := ["task", "walk", "index", "place", "grain", "kind", "release", "cost", "full", "before", "gap"]
theorem sc_check_job : FnScope nm_check_job ["task", "walk", "index", "place", "grain"] (defScope s_check_job) := ⟨rfl, rfl, rfl, by decide +kernel, rfl, by decide +kernel, by decide +kernel⟩
def t_check_job (K : PySem.W.Frag) (WD : DWX) : DTS :=
    dSeq (dAsg (dOp dIx (dVar 1) (dVar 3)) (gT 3 (gsCons (gN 5) (gsCons (gN 6) (gsCons (gN 7) gsNil)))))
    (dSeq (dSet 8 (dOp (dMul false) (dMeth (ga K "Task") "cost_of" (sp_Task_cost_of K) WD [] (dVar 0) (daCons (dVar 5) daNil)) (dVar 4)))
    (dSeq (dIfS (dNot (dTest (dChain dLe dLe (dC (.int 1)) (dVar 7) (dVar 8)))) (dRaise (ga K "BadCost") ["task", "place"] WD (daCons (dVar 2) (daCons (dVar 3) daNil))) dNext)
    (dSeq (dIfS (dTest (dOp dLt (dVar 6) (dC (.int 0)))) (dRaise (ga K "BadRelease") ["task", "place"] WD (daCons (dVar 2) (daCons (dVar 3) daNil))) dNext)
    (dSeq (dIfS (dTest (dOp dEq (dVar 3) (dC (.int 0)))) dRetN dNext)
    (dSeq (dSet 9 (dOp dIx (dVar 1) (dOp dSub (dVar 3) (dC (.int 1)))))
    (dSeq (dSet 10 (dCall (sp_gap_between K) WD [] (daCons (dVar 0) (daCons (dOp dIx (dVar 9) (dC (.int 0))) (daCons (dVar 5) daNil)))))
    (dSeq (dIfS (dTest (dOp dIsN (dVar 10) (dC .non))) (dRaise (ga K "NoArrow") ["task", "place"] WD (daCons (dVar 2) (daCons (dVar 3) daNil))) dNext)
    (dIfS (dTest (dOp dLt (dOp dSub (dVar 6) (dOp dIx (dVar 9) (dC (.int 1)))) (dOp (dMul false) (dVar 10) (dVar 4)))) (dRaise (ga K "GapTooShort") ["task", "place"] WD (daCons (dVar 2) (daCons (dVar 3) daNil))) dNext))))))))

abbrev s_check_counts : Stmt := top 18
abbrev nm_check_counts : List Str := ["tasks", "walks", "grain", "total", "walk"]
theorem sc_check_counts : FnScope nm_check_counts ["tasks", "walks", "grain"] (defScope s_check_counts) := ⟨rfl, rfl, rfl, by decide +kernel, rfl, by decide +kernel, by decide +kernel⟩
def t_check_counts (K : PySem.W.Frag) (WD : DWX) : DTS :=
    dSeq (dIfS (dNot (dTest (dChain dLe dLe (dC (.int 1)) (dVar 2) (dC (.int 60))))) (dRaise (ga K "OutOfRange") ["what", "value"] WD (daCons (dC (.str "grain")) (daCons (dVar 2) daNil))) dNext)
    (dSeq (dIfS (dTest (dOp dNe (dCB dLen (daCons (dVar 1) daNil)) (dCB dLen (daCons (dVar 0) daNil)))) (dRaise (ga K "WrongCount") ["what", "count"] WD (daCons (dC (.str "walks")) (daCons (dCB dLen (daCons (dVar 1) daNil)) daNil))) dNext)
    (dSeq (dSet 3 (dCB dSum (daCons (dLc false (diL (dVar 1)) (.one 4) [4] dYes (dCB dLen (daCons (dVar 4) daNil))) daNil)))
    (dIfS (dTest (dOp dGt (dVar 3) (dC (.int 400)))) (dRaise (ga K "WrongCount") ["what", "count"] WD (daCons (dC (.str "jobs")) (daCons (dVar 3) daNil))) dNext)))

abbrev s_Run_init : Stmt := inClass (top 19) 0
abbrev nm_Run_init : List Str := ["self", "tasks", "walks", "grain", "rows", "index", "walk", "task", "place", "kind", "release", "cost", "due", "row"]
theorem sc_Run_init : FnScope nm_Run_init ["self", "tasks", "walks", "grain"] (defScope s_Run_init) := ⟨rfl, rfl, rfl, by decide +kernel, rfl, by decide +kernel, by decide +kernel⟩
def t_Run_init (K : PySem.W.Frag) (WD : DWX) : DTS :=
    dSeq (dDrop (dCall (sp_check_counts K) WD [] (daCons (dVar 1) (daCons (dVar 2) (daCons (dVar 3) daNil)))))
    (dSeq (dSet 4 (dLst true daNil))
    (dSeq (dFor (diE (daCons (dVar 2) daNil)) (gT 2 (gsCons (gN 5) (gsCons (gN 6) gsNil))) (dSeq (dSet 7 (dOp dIx (dVar 1) (dVar 5)))
    (dFor (diE (daCons (dVar 6) daNil)) (gT 2 (gsCons (gN 8) (gsCons (gT 3 (gsCons (gN 9) (gsCons (gN 10) (gsCons (gN 11) gsNil)))) gsNil))) (dSeq (dDrop (dCall (sp_check_job K) WD [] (daCons (dVar 7) (daCons (dVar 6) (daCons (dVar 5) (daCons (dVar 8) (daCons (dVar 3) daNil)))))))
    (dSeq (dSet 12 (dOp (dAdd false) (dVar 10) (dOp (dMul false) (dMeth (ga K "Task") "deadline_of" (sp_Task_deadline_of K) WD [] (dVar 7) (daCons (dVar 9) daNil)) (dVar 3))))
    (dDrop (dBM isL dAppend (dVar 4) (daCons (dTup (daCons (dVar 5) (daCons (dVar 8) (daCons (dVar 9) (daCons (dVar 10) (daCons (dVar 11) (daCons (dVar 12) daNil))))))) daNil))))))))
    (dFrz 4 (dSeq (dFldS K (dVar 0) (dVar 3) "grain")
    (dFldS K (dVar 0) (dSortK false (dVar 4) 13 (dTup (daCons (dOp dIx (dVar 13) (dC (.int 3))) (daCons (dOp dIx (dVar 13) (dC (.int 0))) (daCons (dOp dIx (dVar 13) (dC (.int 1))) daNil))))) "placed")))))

abbrev s_Run_jobs : Stmt := inClass (top 19) 1
abbrev nm_Run_jobs : List Str := ["self"]
theorem sc_Run_jobs : FnScope nm_Run_jobs ["self"] (defScope s_Run_jobs) := ⟨rfl, rfl, rfl, by decide +kernel, rfl, by decide +kernel, by decide +kernel⟩
def t_Run_jobs (K : PySem.W.Frag) (WD : DWX) : DTS :=
    dRet (dCB (dList false) (daCons (dFld K (dVar 0) "placed") daNil))

abbrev s_kind_demands : Stmt := top 21
abbrev nm_kind_demands : List Str := ["task", "ticks", "kinds", "followers", "kind", "cost", "deadline", "table", "at", "ahead", "second", "gap", "own"]
theorem sc_kind_demands : FnScope nm_kind_demands ["task", "ticks"] (defScope s_kind_demands) := ⟨rfl, rfl, rfl, by decide +kernel, rfl, by decide +kernel, by decide +kernel⟩
def t_kind_demands (K : PySem.W.Frag) (WD : DWX) : DTS :=
    dSeq (dSet 2 (dProp (ga K "Task") (sp_Task_kinds K) (dVar 0)))
    (dSeq (dSet 3 (dDc (diL (dVar 2)) (.tup [4, 5, 6]) [4, 5, 6] dYes (dVar 4) (dMeth (ga K "Task") "followers" (sp_Task_followers K) WD0 [] (dVar 0) (daCons (dVar 4) daNil))))
    (dSeq (dSet 7 (dDc (diL (dVar 2)) (.tup [4, 5, 6]) [4, 5, 6] dYes (dVar 4) (dLst true daNil)))
    (dSeq (dFor (diR1 (daCons (dOp (dAdd false) (dVar 1) (dC (.int 1))) daNil)) (gN 8) (dFor (diL (dVar 2)) (gT 3 (gsCons (gN 4) (gsCons (gN 5) (gsCons (gN 6) gsNil)))) (dSeq (dSet 9 (dLc false (diL (dOp dGetK (dVar 3) (dVar 4))) (.tup [10, 11]) [10, 11] (dTest (dOp dLe (dVar 11) (dVar 8))) (dOp dIx (dOp dGetK (dVar 7) (dVar 10)) (dOp dSub (dVar 8) (dVar 11)))))
    (dSeq (dSet 12 (dIf (dTest (dOp dLe (dVar 6) (dVar 8))) (dVar 5) (dC (.int 0))))
    (dDrop (dBM isL dAppend (dOp dGetK (dVar 7) (dVar 4)) (daCons (dOp (dAdd false) (dVar 12) (dCBK dMaxDf (daCons (dVar 9) daNil) (daCons (dC (.int 0)) daNil))) daNil)))))))
    (dRet (dWk (dVar 7))))))

abbrev s_heaviest_kind : Stmt := top 22
abbrev nm_heaviest_kind : List Str := ["table", "kinds", "at", "best", "kind"]
theorem sc_heaviest_kind : FnScope nm_heaviest_kind ["table", "kinds", "at"] (defScope s_heaviest_kind) := ⟨rfl, rfl, rfl, by decide +kernel, rfl, by decide +kernel, by decide +kernel⟩
def t_heaviest_kind (K : PySem.W.Frag) (WD : DWX) : DTS :=
    dSeq (dSet 3 (dOp dIx (dVar 1) (dC (.int 0))))
    (dSeq (dFor (diL (dVar 1)) (gN 4) (dIfS (dTest (dOp dGt (dOp dIx (dOp dGetK (dVar 0) (dVar 4)) (dVar 2)) (dOp dIx (dOp dGetK (dVar 0) (dVar 3)) (dVar 2)))) (dSet 3 (dVar 4)) dNext))
    (dRet (dVar 3)))

abbrev s_next_step : Stmt := top 23
abbrev nm_next_step : List Str := ["table", "followers", "left", "best", "most", "second", "gap"]
theorem sc_next_step : FnScope nm_next_step ["table", "followers", "left"] (defScope s_next_step) := ⟨rfl, rfl, rfl, by decide +kernel, rfl, by decide +kernel, by decide +kernel⟩
def t_next_step (K : PySem.W.Frag) (WD : DWX) : DTS :=
    dSeq (dSet 3 (dC .non))
    (dSeq (dSet 4 (dC (.int 0)))
    (dSeq (dFor (diL (dVar 1)) (gT 2 (gsCons (gN 5) (gsCons (gN 6) gsNil))) (dIfS (dAnd (dTest (dOp dLe (dVar 6) (dVar 2))) (dTest (dOp dGt (dOp dIx (dOp dGetK (dVar 0) (dVar 5)) (dOp dSub (dVar 2) (dVar 6))) (dVar 4)))) (dSeq (dSet 3 (dTup (daCons (dVar 5) (daCons (dVar 6) daNil))))
    (dSet 4 (dOp dIx (dOp dGetK (dVar 0) (dVar 5)) (dOp dSub (dVar 2) (dVar 6))))) dNext))
    (dRet (dVar 3))))

abbrev s_heavy_walk : Stmt := top 24
abbrev nm_heavy_walk : List Str := ["task", "ticks", "table", "kind", "row", "walk", "left", "step"]
theorem sc_heavy_walk : FnScope nm_heavy_walk ["task", "ticks"] (defScope s_heavy_walk) := ⟨rfl, rfl, rfl, by decide +kernel, rfl, by decide +kernel, by decide +kernel⟩
def t_heavy_walk (K : PySem.W.Frag) (WD : DWX) : DTS :=
    dSeq (dSet 2 (dCall (sp_kind_demands K) WD [] (daCons (dVar 0) (daCons (dVar 1) daNil))))
    (dSeq (dSet 3 (dCall (sp_heaviest_kind K) WD [] (daCons (dVar 2) (daCons (dLc false (diL (dProp (ga K "Task") (sp_Task_kinds K) (dVar 0))) (.one 4) [4] dYes (dOp dIx (dVar 4) (dC (.int 0)))) (daCons (dVar 1) daNil)))))
    (dSeq (dIfS (dTest (dOp dEq (dOp dIx (dOp dGetK (dVar 2) (dVar 3)) (dVar 1)) (dC (.int 0)))) (dRet (dWk (dLst true daNil))) dNext)
    (dSeq (dSet 5 (dLst true (daCons (dTup (daCons (dVar 3) (daCons (dC (.int 0)) daNil))) daNil)))
    (dSeq (dSet 6 (dVar 1))
    (dSeq (dWhileN 7 (dCall (sp_next_step K) WD [] (daCons (dVar 2) (daCons (dMeth (ga K "Task") "followers" (sp_Task_followers K) WD [] (dVar 0) (daCons (dOp dIx (dOp dIx (dVar 5) (dUn dNeg (dC (.int 1)))) (dC (.int 0))) daNil)) (daCons (dVar 6) daNil)))) (dSeq (dAug 6 (dOp dIx (dVar 7) (dC (.int 1))) dSub)
    (dDrop (dBM isL dAppend (dVar 5) (daCons (dTup (daCons (dOp dIx (dVar 7) (dC (.int 0))) (daCons (dOp dSub (dVar 1) (dVar 6)) daNil))) daNil)))))
    (dRet (dWk (dVar 5))))))))

abbrev s_need_step : Stmt := top 25
abbrev nm_need_step : List Str := ["task", "walk", "place", "kind", "release", "before", "earlier", "gaps", "second", "gap"]
theorem sc_need_step : FnScope nm_need_step ["task", "walk", "place"] (defScope s_need_step) := ⟨rfl, rfl, rfl, by decide +kernel, rfl, by decide +kernel, by decide +kernel⟩
def t_need_step (K : PySem.W.Frag) (WD : DWX) : DTS :=
    dSeq (dAsg (dOp dIx (dVar 1) (dVar 2)) (gT 2 (gsCons (gN 3) (gsCons (gN 4) gsNil))))
    (dSeq (dAsg (dOp dIx (dVar 1) (dOp dSub (dVar 2) (dC (.int 1)))) (gT 2 (gsCons (gN 5) (gsCons (gN 6) gsNil))))
    (dSeq (dSet 7 (dLc false (diL (dMeth (ga K "Task") "followers" (sp_Task_followers K) WD [] (dVar 0) (daCons (dVar 5) daNil))) (.tup [8, 9]) [8, 9] (dTest (dOp dEq (dVar 8) (dVar 3))) (dVar 9)))
    (dSeq (dIfS (dTest (dOp dEq (dVar 7) (dLst false daNil))) (dRaise (ga K "NoArrow") ["task", "place"] WD (daCons (dC (.int 0)) (daCons (dVar 2) daNil))) dNext)
    (dIfS (dTest (dOp dLt (dOp dSub (dVar 4) (dVar 6)) (dOp dIx (dVar 7) (dC (.int 0))))) (dRaise (ga K "GapTooShort") ["task", "place"] WD (daCons (dC (.int 0)) (daCons (dVar 2) daNil))) dNext))))

abbrev s_walk_demand : Stmt := top 26
abbrev nm_walk_demand : List Str := ["task", "walk", "ticks", "total", "place", "kind", "release", "cost"]
theorem sc_walk_demand : FnScope nm_walk_demand ["task", "walk", "ticks"] (defScope s_walk_demand) := ⟨rfl, rfl, rfl, by decide +kernel, rfl, by decide +kernel, by decide +kernel⟩
def t_walk_demand (K : PySem.W.Frag) (WD : DWX) : DTS :=
    dSeq (dSet 3 (dC (.int 0)))
    (dSeq (dFor (diE (daCons (dVar 1) daNil)) (gT 2 (gsCons (gN 4) (gsCons (gT 2 (gsCons (gN 5) (gsCons (gN 6) gsNil))) gsNil))) (dSeq (dSet 7 (dMeth (ga K "Task") "cost_of" (sp_Task_cost_of K) WD [] (dVar 0) (daCons (dVar 5) daNil)))
    (dSeq (dIfS (dTest (dOp dLt (dVar 6) (dC (.int 0)))) (dRaise (ga K "BadRelease") ["task", "place"] WD (daCons (dC (.int 0)) (daCons (dVar 4) daNil))) dNext)
    (dSeq (dIfS (dTest (dOp dGt (dVar 4) (dC (.int 0)))) (dDrop (dCall (sp_need_step K) WD [] (daCons (dVar 0) (daCons (dVar 1) (daCons (dVar 4) daNil))))) dNext)
    (dIfS (dTest (dOp dLe (dOp (dAdd false) (dVar 6) (dMeth (ga K "Task") "deadline_of" (sp_Task_deadline_of K) WD [] (dVar 0) (daCons (dVar 5) daNil))) (dVar 2))) (dAug 3 (dVar 7) dAddI) dNext)))))
    (dRet (dVar 3)))

abbrev s_heavy_run : Stmt := top 27
abbrev nm_heavy_run : List Str := ["tasks", "ticks", "walks", "task", "kind", "release"]
theorem sc_heavy_run : FnScope nm_heavy_run ["tasks", "ticks"] (defScope s_heavy_run) := ⟨rfl, rfl, rfl, by decide +kernel, rfl, by decide +kernel, by decide +kernel⟩
def t_heavy_run (K : PySem.W.Frag) (WD : DWX) : DTS :=
    dSeq (dSet 2 (dLst true daNil))
    (dSeq (dFor (diL (dVar 0)) (gN 3) (dDrop (dBM isL dAppend (dVar 2) (daCons (dLc false (diL (dFrzE (dCall (sp_heavy_walk K) WD [] (daCons (dVar 3) (daCons (dVar 1) daNil))))) (.tup [4, 5]) [4, 5] dYes (dTup (daCons (dVar 4) (daCons (dVar 5) (daCons (dMeth (ga K "Task") "cost_of" (sp_Task_cost_of K) WD0 [] (dVar 3) (daCons (dVar 4) daNil)) daNil))))) daNil))))
    (dFrz 2 (dRet (dMake (ga K "Run") (sp_Run_init K) WD [.int 1] (daCons (dCB (dList false) (daCons (dVar 0) daNil)) (daCons (dVar 2) daNil))))))

abbrev s_law_pool : Stmt := top 43
abbrev nm_law_pool : List Str := ["_law_script", "_law_seed", "_law_cell"]
theorem sc_law_pool : FnScope nm_law_pool ["_law_script"] (defScope s_law_pool) := ⟨rfl, rfl, rfl, by decide +kernel, rfl, by decide +kernel, by decide +kernel⟩
def t_law_pool (K : PySem.W.Frag) (WD : DWX) : DTS :=
    dSeq (dSet 1 (dC (.int 1)))
    (dSeq (dFor (diL (dVar 0)) (gN 2) (dSet 1 (dOp dMod (dCB dInt1 (daCons (dOp (dAdd false) (dOp (dMul false) (dVar 1) (dC (.int 48271))) (dVar 2)) daNil)) (dC (.int 2147483647)))))
    (dRet (dLst true (daCons (dLc true (diL (dVar 0)) (.one 2) [2] (dTest (dOp dGe (dVar 2) (dOp dPow (dC (.int 10)) (dC (.int 18))))) (dVar 2)) (daCons (dVar 1) (daCons (dC (.int 0)) daNil))))))

abbrev s_law_draw : Stmt := top 44
abbrev nm_law_draw : List Str := ["_law_pool_here", "_law_limit", "_law_rest", "_law_value", "_law_first", "_law_second"]
theorem sc_law_draw : FnScope nm_law_draw ["_law_pool_here", "_law_limit"] (defScope s_law_draw) := ⟨rfl, rfl, rfl, by decide +kernel, rfl, by decide +kernel, by decide +kernel⟩
def t_law_draw (K : PySem.W.Frag) (WD : DWX) : DTS :=
    dSeq (dSet 2 (dOp dIx (dVar 0) (dC (.int 0))))
    (dSeq (dIfS (dTest (dOp dNe (dVar 2) (dLst false daNil))) (dSeq (dSet 3 (dOp dMod (dCB dInt1 (daCons (dOp dIx (dVar 2) (dC (.int 0))) daNil)) (dVar 1)))
    (dSeq (dAsg (dOp dDiv (dOp dIx (dVar 2) (dC (.int 0))) (dVar 1)) (gSet (dVar 2) (dC (.int 0))))
    (dSeq (dIfS (dTest (dOp dEq (dOp dIx (dVar 2) (dC (.int 0))) (dC (.int 0)))) (dDrop (dBM isL dPopAt (dVar 2) (daCons (dC (.int 0)) daNil))) dNext)
    (dRet (dVar 3))))) dNext)
    (dSeq (dAsg (dOp (dAdd false) (dOp dIx (dVar 0) (dC (.int 2))) (dC (.int 1))) (gSet (dVar 0) (dC (.int 2))))
    (dSeq (dSet 4 (dOp dMod (dOp dPow (dCB dInt1 (daCons (dOp (dAdd false) (dOp dIx (dVar 0) (dC (.int 1))) (dOp (dMul false) (dC (.int 7919)) (dOp dIx (dVar 0) (dC (.int 2))))) daNil)) (dC (.int 5))) (dC (.int 2147483647))))
    (dSeq (dSet 5 (dOp dMod (dCB dInt1 (daCons (dOp (dAdd false) (dOp (dMul false) (dVar 4) (dC (.int 48271))) (dOp dIx (dVar 0) (dC (.int 1)))) daNil)) (dC (.int 2147483629))))
    (dRet (dOp dMod (dOp dDiv (dCB dInt1 (daCons (dVar 5) daNil)) (dC (.int 8))) (dVar 1)))))))

abbrev s_law_name : Stmt := top 45
abbrev nm_law_name : List Str := ["_law_pool_here", "_law_signs", "_law_size", "_law_k"]
theorem sc_law_name : FnScope nm_law_name ["_law_pool_here"] (defScope s_law_name) := ⟨rfl, rfl, rfl, by decide +kernel, rfl, by decide +kernel, by decide +kernel⟩
def t_law_name (K : PySem.W.Frag) (WD : DWX) : DTS :=
    dSeq (dSet 1 (dC (.str "abcdefghijklmnopqrstuvwxyz0123456789_")))
    (dSeq (dSet 2 (dCall (sp_law_draw K) WD [] (daCons (dVar 0) (daCons (dC (.int 12)) daNil))))
    (dRet (dOp (dAdd false) (dOp dIx (dVar 1) (dCall (sp_law_draw K) WD [] (daCons (dVar 0) (daCons (dC (.int 26)) daNil)))) (dBM isS dJoin (dC (.str "")) (daCons (dLc false (diR1 (daCons (dVar 2) daNil)) (.one 3) [3] dYes (dOp dIx (dVar 1) (dCall (sp_law_draw K) WD0 [] (daCons (dVar 0) (daCons (dC (.int 37)) daNil))))) daNil)))))

abbrev s_law_fresh : Stmt := top 46
abbrev nm_law_fresh : List Str := ["_law_word", "_law_taken", "_law_sign"]
theorem sc_law_fresh : FnScope nm_law_fresh ["_law_word", "_law_taken"] (defScope s_law_fresh) := ⟨rfl, rfl, rfl, by decide +kernel, rfl, by decide +kernel, by decide +kernel⟩
def t_law_fresh (K : PySem.W.Frag) (WD : DWX) : DTS :=
    dSeq (dIfS (dTest (dOp (dIn true) (dVar 0) (dVar 1))) (dRet (dVar 0)) dNext)
    (dRet (dOp dIx (dLc false (diS (dC (.str "01234"))) (.one 2) [2] (dTest (dOp (dIn true) (dOp (dAdd false) (dSlice false (dVar 0) doNone (doSome (dC (.int 11)))) (dVar 2)) (dVar 1))) (dOp (dAdd false) (dSlice false (dVar 0) doNone (doSome (dC (.int 11)))) (dVar 2))) (dC (.int 0))))

abbrev s_law_near : Stmt := top 47
abbrev nm_law_near : List Str := ["_law_pool_here", "_law_taken", "_law_signs", "_law_manner", "_law_word", "_law_at"]
theorem sc_law_near : FnScope nm_law_near ["_law_pool_here", "_law_taken"] (defScope s_law_near) := ⟨rfl, rfl, rfl, by decide +kernel, rfl, by decide +kernel, by decide +kernel⟩
def t_law_near (K : PySem.W.Frag) (WD : DWX) : DTS :=
    dSeq (dSet 2 (dC (.str "abcdefghijklmnopqrstuvwxyz0123456789_")))
    (dSeq (dSet 3 (dCall (sp_law_draw K) WD [] (daCons (dVar 0) (daCons (dC (.int 3)) daNil))))
    (dSeq (dSet 4 (dCall (sp_law_name K) WD [] (daCons (dVar 0) daNil)))
    (dSeq (dSet 5 (dOp (dAdd false) (dC (.int 1)) (dCall (sp_law_draw K) WD [] (daCons (dVar 0) (daCons (dC (.int 11)) daNil)))))
    (dSeq (dIfS (dAnd (dTest (dOp dNe (dVar 1) (dLst false daNil))) (dTest (dOp dEq (dVar 3) (dC (.int 1))))) (dSet 4 (dOp (dAdd false) (dSlice false (dOp dIx (dVar 1) (dC (.int 0))) doNone (doSome (dC (.int 11)))) (dOp dIx (dVar 2) (dCall (sp_law_draw K) WD [] (daCons (dVar 0) (daCons (dC (.int 37)) daNil)))))) dNext)
    (dSeq (dIfS (dAnd (dTest (dOp dNe (dVar 1) (dLst false daNil))) (dTest (dOp dEq (dVar 3) (dC (.int 2))))) (dSet 4 (dSlice false (dOp (dAdd false) (dOp (dAdd false) (dSlice false (dOp dIx (dVar 1) (dC (.int 0))) doNone (doSome (dVar 5))) (dOp dIx (dVar 2) (dCall (sp_law_draw K) WD [] (daCons (dVar 0) (daCons (dC (.int 37)) daNil))))) (dSlice false (dOp dIx (dVar 1) (dC (.int 0))) (doSome (dOp (dAdd false) (dVar 5) (dC (.int 1)))) doNone)) doNone (doSome (dC (.int 12))))) dNext)
    (dRet (dCall (sp_law_fresh K) WD [] (daCons (dVar 4) (daCons (dVar 1) daNil)))))))))

abbrev s_law_number : Stmt := top 48
abbrev nm_law_number : List Str := ["_law_pool_here", "_law_most", "_law_manner"]
theorem sc_law_number : FnScope nm_law_number ["_law_pool_here", "_law_most"] (defScope s_law_number) := ⟨rfl, rfl, rfl, by decide +kernel, rfl, by decide +kernel, by decide +kernel⟩
def t_law_number (K : PySem.W.Frag) (WD : DWX) : DTS :=
    dSeq (dSet 2 (dCall (sp_law_draw K) WD [] (daCons (dVar 0) (daCons (dC (.int 4)) daNil))))
    (dSeq (dIfS (dTest (dOp dEq (dVar 2) (dC (.int 0)))) (dRet (dC (.int 1))) dNext)
    (dSeq (dIfS (dTest (dOp dEq (dVar 2) (dC (.int 1)))) (dRet (dVar 1)) dNext)
    (dRet (dOp (dAdd false) (dC (.int 1)) (dCall (sp_law_draw K) WD [] (daCons (dVar 0) (daCons (dVar 1) daNil)))))))

abbrev s_law_spec : Stmt := top 49
abbrev nm_law_spec : List Str := ["_law_pool_here", "_law_size", "_law_many", "_law_limits", "_law_taken", "_law_rows", "_law_k", "_law_word", "_law_pairs", "_law_ties", "_law_pair"]
theorem sc_law_spec : FnScope nm_law_spec ["_law_pool_here"] (defScope s_law_spec) := ⟨rfl, rfl, rfl, by decide +kernel, rfl, by decide +kernel, by decide +kernel⟩
def t_law_spec (K : PySem.W.Frag) (WD : DWX) : DTS :=
    dSeq (dSet 1 (dOp (dAdd false) (dC (.int 1)) (dCall (sp_law_draw K) WD [] (daCons (dVar 0) (daCons (dC (.int 4)) daNil)))))
    (dSeq (dSet 2 (dCall (sp_law_draw K) WD [] (daCons (dVar 0) (daCons (dOp (dAdd false) (dC (.int 1)) (dCB dMin (daCons (dC (.int 12)) (daCons (dOp (dMul false) (dVar 1) (dVar 1)) daNil)))) daNil))))
    (dSeq (dSet 3 (dOp dIx (dLst false (daCons (dLst false (daCons (dC (.int 99)) (daCons (dC (.int 99)) daNil))) (daCons (dLst false (daCons (dC (.int 9)) (daCons (dC (.int 24)) daNil))) daNil))) (dCB dInt1 (daCons (dOp dGt (dVar 2) (dC (.int 0))) daNil))))
    (dSeq (dSet 4 (dLst true daNil))
    (dSeq (dSet 5 (dLst true daNil))
    (dSeq (dFor (diR1 (daCons (dVar 1) daNil)) (gN 6) (dSeq (dSet 7 (dCall (sp_law_near K) WD [] (daCons (dVar 0) (daCons (dVar 4) daNil))))
    (dSeq (dDrop (dBM isL dAppend (dVar 4) (daCons (dVar 7) daNil)))
    (dDrop (dBM isL dAppend (dVar 5) (daCons (dTup (daCons (dVar 7) (daCons (dCall (sp_law_number K) WD [] (daCons (dVar 0) (daCons (dOp dIx (dVar 3) (dC (.int 0))) daNil))) (daCons (dCall (sp_law_number K) WD [] (daCons (dVar 0) (daCons (dOp dIx (dVar 3) (dC (.int 1))) daNil))) daNil)))) daNil))))))
    (dFrz 4 (dFrz 5 (dSeq (dSet 8 (dLc true (diR1 (daCons (dOp (dMul false) (dVar 1) (dVar 1)) daNil)) (.one 6) [6] dYes (dTup (daCons (dOp dIx (dVar 4) (dOp dDiv (dVar 6) (dVar 1))) (daCons (dOp dIx (dVar 4) (dOp dMod (dVar 6) (dVar 1))) daNil)))))
    (dSeq (dSet 9 (dLst true daNil))
    (dSeq (dFor (diR1 (daCons (dVar 2) daNil)) (gN 6) (dSeq (dSet 10 (dBM isL dPopAt (dVar 8) (daCons (dCall (sp_law_draw K) WD [] (daCons (dVar 0) (daCons (dCB dLen (daCons (dVar 8) daNil)) daNil))) daNil)))
    (dDrop (dBM isL dAppend (dVar 9) (daCons (dTup (daCons (dOp dIx (dVar 10) (dC (.int 0))) (daCons (dOp dIx (dVar 10) (dC (.int 1))) (daCons (dCall (sp_law_number K) WD [] (daCons (dVar 0) (daCons (dC (.int 12)) daNil))) daNil)))) daNil)))))
    (dFrz 9 (dRet (dWk (dTup (daCons (dCall (sp_law_name K) WD [] (daCons (dVar 0) daNil)) (daCons (dVar 5) (daCons (dVar 9) daNil)))))))))))))))))

abbrev s_law_table : Stmt := top 50
abbrev nm_law_table : List Str := ["_law_spec_here", "_law_ticks", "_law_table_here", "_law_row", "_law_place", "_law_i", "_law_at", "_law_ahead", "_law_first", "_law_second", "_law_gap_here", "_law_told_here"]
theorem sc_law_table : FnScope nm_law_table ["_law_spec_here", "_law_ticks"] (defScope s_law_table) := ⟨rfl, rfl, rfl, by decide +kernel, rfl, by decide +kernel, by decide +kernel⟩
def t_law_table (K : PySem.W.Frag) (WD : DWX) : DTS :=
    dSeq (dSet 2 (dLc false (diL (dOp dIx (dVar 0) (dC (.int 1)))) (.one 3) [3] dYes (dLst true daNil)))
    (dSeq (dSet 4 (dCB dDictP (daCons (dLc false (diR1 (daCons (dCB dLen (daCons (dOp dIx (dVar 0) (dC (.int 1))) daNil)) daNil)) (.one 5) [5] dYes (dTup (daCons (dOp dIx (dOp dIx (dOp dIx (dVar 0) (dC (.int 1))) (dVar 5)) (dC (.int 0))) (daCons (dVar 5) daNil)))) daNil)))
    (dSeq (dFor (diR1 (daCons (dOp (dAdd false) (dVar 1) (dC (.int 1))) daNil)) (gN 6) (dFor (diR1 (daCons (dCB dLen (daCons (dOp dIx (dVar 0) (dC (.int 1))) daNil)) daNil)) (gN 5) (dSeq (dSet 3 (dOp dIx (dOp dIx (dVar 0) (dC (.int 1))) (dVar 5)))
    (dSeq (dSet 7 (dLst true (daCons (dC (.int 0)) daNil)))
    (dSeq (dFor (diL (dOp dIx (dVar 0) (dC (.int 2)))) (gT 3 (gsCons (gN 8) (gsCons (gN 9) (gsCons (gN 10) gsNil)))) (dIfS (dAnd (dTest (dOp dEq (dVar 8) (dOp dIx (dVar 3) (dC (.int 0))))) (dTest (dOp dLe (dVar 10) (dVar 6)))) (dDrop (dBM isL dAppend (dVar 7) (daCons (dOp dIx (dOp dIx (dVar 2) (dOp dGetK (dVar 4) (dVar 9))) (dOp dSub (dVar 6) (dVar 10))) daNil))) dNext))
    (dSeq (dSet 11 (dOp dIx (dVar 2) (dVar 5)))
    (dDrop (dBM isL dAppend (dVar 11) (daCons (dOp (dAdd false) (dOp (dMul false) (dOp dIx (dVar 3) (dC (.int 1))) (dCB dInt1 (daCons (dOp dLe (dOp dIx (dVar 3) (dC (.int 2))) (dVar 6)) daNil))) (dCB dMax (daCons (dVar 7) daNil))) daNil)))))))))
    (dFrzD 2 (dRet (dWk (dVar 2))))))

abbrev s_law_whole : Stmt := top 51
abbrev nm_law_whole : List Str := ["_law_x"]
theorem sc_law_whole : FnScope nm_law_whole ["_law_x"] (defScope s_law_whole) := ⟨rfl, rfl, rfl, by decide +kernel, rfl, by decide +kernel, by decide +kernel⟩
def t_law_whole (K : PySem.W.Frag) (WD : DWX) : DTS :=
    dRet (dAndV (dCB (dIsi K) (daCons (dVar 0) (daCons (dC (.ty "int")) daNil))) (dNotV (dCB (dIsi K) (daCons (dVar 0) (daCons (dC (.ty "bool")) daNil)))))

abbrev s_law_gap : Stmt := top 52
abbrev nm_law_gap : List Str := ["_law_spec_here", "_law_first", "_law_second", "_law_tie"]
theorem sc_law_gap : FnScope nm_law_gap ["_law_spec_here", "_law_first", "_law_second"] (defScope s_law_gap) := ⟨rfl, rfl, rfl, by decide +kernel, rfl, by decide +kernel, by decide +kernel⟩
def t_law_gap (K : PySem.W.Frag) (WD : DWX) : DTS :=
    dRet (dLc false (diL (dOp dIx (dVar 0) (dC (.int 2)))) (.one 3) [3] (dAnd (dTest (dOp dEq (dOp dIx (dVar 3) (dC (.int 0))) (dVar 1))) (dTest (dOp dEq (dOp dIx (dVar 3) (dC (.int 1))) (dVar 2)))) (dOp dIx (dVar 3) (dC (.int 2))))

abbrev s_law_due : Stmt := top 53
abbrev nm_law_due : List Str := ["_law_spec_here", "_law_walk", "_law_ticks", "_law_total", "_law_place", "_law_word", "_law_release", "_law_rows", "_law_row", "_law_gaps"]
theorem sc_law_due : FnScope nm_law_due ["_law_spec_here", "_law_walk", "_law_ticks"] (defScope s_law_due) := ⟨rfl, rfl, rfl, by decide +kernel, rfl, by decide +kernel, by decide +kernel⟩
def t_law_due (K : PySem.W.Frag) (WD : DWX) : DTS :=
    dSeq (dSet 3 (dC (.int 0)))
    (dSeq (dFor (diR1 (daCons (dCB dLen (daCons (dVar 1) daNil)) daNil)) (gN 4) (dSeq (dSet 5 (dOp dIx (dOp dIx (dVar 1) (dVar 4)) (dC (.int 0))))
    (dSeq (dSet 6 (dOp dIx (dOp dIx (dVar 1) (dVar 4)) (dC (.int 1))))
    (dSeq (dSet 7 (dLc false (diL (dOp dIx (dVar 0) (dC (.int 1)))) (.one 8) [8] (dTest (dOp dEq (dOp dIx (dVar 8) (dC (.int 0))) (dVar 5))) (dVar 8)))
    (dSeq (dIfS (dTest (dOp dEq (dVar 7) (dLst false daNil))) (dRet (dTup (daCons (dC (.str "UnknownKind")) (daCons (dVar 5) daNil)))) dNext)
    (dSeq (dIfS (dTest (dOp dLt (dVar 6) (dC (.int 0)))) (dRet (dTup (daCons (dC (.str "BadRelease")) (daCons (dC (.int 0)) (daCons (dVar 4) daNil))))) dNext)
    (dSeq (dIfS (dTest (dOp dGt (dVar 4) (dC (.int 0)))) (dSeq (dSet 9 (dCall (sp_law_gap K) WD [] (daCons (dVar 0) (daCons (dOp dIx (dOp dIx (dVar 1) (dOp dSub (dVar 4) (dC (.int 1)))) (dC (.int 0))) (daCons (dVar 5) daNil)))))
    (dSeq (dIfS (dTest (dOp dEq (dVar 9) (dLst false daNil))) (dRet (dTup (daCons (dC (.str "NoArrow")) (daCons (dC (.int 0)) (daCons (dVar 4) daNil))))) dNext)
    (dIfS (dTest (dOp dLt (dOp dSub (dVar 6) (dOp dIx (dOp dIx (dVar 1) (dOp dSub (dVar 4) (dC (.int 1)))) (dC (.int 1)))) (dOp dIx (dVar 9) (dC (.int 0))))) (dRet (dTup (daCons (dC (.str "GapTooShort")) (daCons (dC (.int 0)) (daCons (dVar 4) daNil))))) dNext))) dNext)
    (dSet 3 (dOp (dAdd false) (dVar 3) (dOp (dMul false) (dOp dIx (dOp dIx (dVar 7) (dC (.int 0))) (dC (.int 1))) (dCB dInt1 (daCons (dOp dLe (dOp (dAdd false) (dVar 6) (dOp dIx (dOp dIx (dVar 7) (dC (.int 0))) (dC (.int 2)))) (dVar 2)) daNil))))))))))))
    (dRet (dTup (daCons (dC (.str "sum")) (daCons (dVar 3) daNil)))))

abbrev s_law_told : Stmt := top 54
abbrev nm_law_told : List Str := ["_law_task", "_law_walk", "_law_ticks", "_law_passed", "_law_told_here", "e"]
theorem sc_law_told : FnScope nm_law_told ["_law_task", "_law_walk", "_law_ticks"] (defScope s_law_told) := ⟨rfl, rfl, rfl, by decide +kernel, rfl, by decide +kernel, by decide +kernel⟩
def t_law_told (K : PySem.W.Frag) (WD : DWX) : DTS :=
    dSeq (dSet 3 (dCB (dList false) (daCons (dVar 1) daNil)))
    (dSeq (dTryAs K (ga K "DuesError") 5 (fun WDx1 => dSet 4 (dCall (sp_walk_demand K) WDx1 [] (daCons (dVar 0) (daCons (dVar 3) (daCons (dVar 2) daNil))))) (fun ea ec ed => dSeq (dIfS (dTru (dCB (dIsX K ea ec ed) (daCons (dVar 5) (daCons (dC (.ref (ga K "UnknownKind"))) daNil)))) (dRet (dTup (daCons (dC (.str "UnknownKind")) (daCons (dXf ea ec ed (ga K "UnknownKind") "name" (dVar 5)) daNil)))) dNext)
    (dSeq (dIfS (dTru (dCB (dIsX K ea ec ed) (daCons (dVar 5) (daCons (dC (.ref (ga K "BadRelease"))) daNil)))) (dRet (dTup (daCons (dC (.str "BadRelease")) (daCons (dXf ea ec ed (ga K "BadRelease") "task" (dVar 5)) (daCons (dXf ea ec ed (ga K "BadRelease") "place" (dVar 5)) daNil))))) dNext)
    (dSeq (dIfS (dTru (dCB (dIsX K ea ec ed) (daCons (dVar 5) (daCons (dC (.ref (ga K "NoArrow"))) daNil)))) (dRet (dTup (daCons (dC (.str "NoArrow")) (daCons (dXf ea ec ed (ga K "NoArrow") "task" (dVar 5)) (daCons (dXf ea ec ed (ga K "NoArrow") "place" (dVar 5)) daNil))))) dNext)
    (dSeq (dIfS (dTru (dCB (dIsX K ea ec ed) (daCons (dVar 5) (daCons (dC (.ref (ga K "GapTooShort"))) daNil)))) (dRet (dTup (daCons (dC (.str "GapTooShort")) (daCons (dXf ea ec ed (ga K "GapTooShort") "task" (dVar 5)) (daCons (dXf ea ec ed (ga K "GapTooShort") "place" (dVar 5)) daNil))))) dNext)
    (dRet (dTup (daCons (dC (.str "strange")) daNil))))))) WD)
    (dSeq (dIfS (dOr (dNot (dTru (dCall (sp_law_whole K) WD [] (daCons (dVar 4) daNil)))) (dTest (dOp dNe (dVar 3) (dVar 1)))) (dRet (dTup (daCons (dC (.str "strange")) daNil))) dNext)
    (dRet (dTup (daCons (dC (.str "sum")) (daCons (dVar 4) daNil))))))

abbrev s_law_is_walk : Stmt := top 55
abbrev nm_law_is_walk : List Str := ["_law_walk", "_law_step"]
theorem sc_law_is_walk : FnScope nm_law_is_walk ["_law_walk"] (defScope s_law_is_walk) := ⟨rfl, rfl, rfl, by decide +kernel, rfl, by decide +kernel, by decide +kernel⟩
def t_law_is_walk (K : PySem.W.Frag) (WD : DWX) : DTS :=
    dSeq (dIfS (dNot (dTru (dCB (dIsi K) (daCons (dVar 0) (daCons (dC (.ty "list")) daNil))))) (dRet (dC (.bl false))) dNext)
    (dSeq (dForM (dVar 0) (gN 1) (dSeq (dIfS (dOr (dNot (dTru (dCB (dIsi K) (daCons (dVar 1) (daCons (dC (.ty "tuple")) daNil))))) (dTest (dOp dNe (dCB dLen (daCons (dVar 1) daNil)) (dC (.int 2))))) (dRet (dC (.bl false))) dNext)
    (dIfS (dOr (dNot (dTru (dCB (dIsi K) (daCons (dOp dIx (dVar 1) (dC (.int 0))) (daCons (dC (.ty "str")) daNil))))) (dNot (dTru (dCall (sp_law_whole K) WD [] (daCons (dOp dIx (dVar 1) (dC (.int 1))) daNil))))) (dRet (dC (.bl false))) dNext)))
    (dRet (dC (.bl true))))

abbrev s_law_is_heavy : Stmt := top 56
abbrev nm_law_is_heavy : List Str := ["_law_walk", "_law_spec_here", "_law_most", "_law_ticks"]
theorem sc_law_is_heavy : FnScope nm_law_is_heavy ["_law_walk", "_law_spec_here", "_law_most", "_law_ticks"] (defScope s_law_is_heavy) := ⟨rfl, rfl, rfl, by decide +kernel, rfl, by decide +kernel, by decide +kernel⟩
def t_law_is_heavy (K : PySem.W.Frag) (WD : DWX) : DTS :=
    dSeq (dIfS (dOr (dNot (dTru (dCall (sp_law_is_walk K) WD [] (daCons (dVar 0) daNil)))) (dOr (dTest (dOp dGt (dCB dLen (daCons (dVar 0) daNil)) (dVar 3))) (dTest (dOp dNe (dOp dEqZ (dVar 0) (dLst false daNil)) (dOp dEq (dVar 2) (dC (.int 0))))))) (dRet (dC (.bl false))) dNext)
    (dSeq (dIfS (dAnd (dTest (dOp dNeZ (dVar 0) (dLst false daNil))) (dTest (dOp dNe (dOp dIx (dOp dIx (dVar 0) (dC (.int 0))) (dC (.int 1))) (dC (.int 0))))) (dRet (dC (.bl false))) dNext)
    (dRet (dOp dEq (dCall (sp_law_due K) WD [] (daCons (dVar 1) (daCons (dVar 0) (daCons (dVar 3) daNil)))) (dTup (daCons (dC (.str "sum")) (daCons (dVar 2) daNil))))))

abbrev s_law_drawn_walk : Stmt := top 57
abbrev nm_law_drawn_walk : List Str := ["_law_pool_here", "_law_spec_here", "_law_word", "_law_moment", "_law_walk", "_law_k", "_law_ways", "_law_tie", "_law_way"]
theorem sc_law_drawn_walk : FnScope nm_law_drawn_walk ["_law_pool_here", "_law_spec_here"] (defScope s_law_drawn_walk) := ⟨rfl, rfl, rfl, by decide +kernel, rfl, by decide +kernel, by decide +kernel⟩
def t_law_drawn_walk (K : PySem.W.Frag) (WD : DWX) : DTS :=
    dSeq (dSet 2 (dOp dIx (dOp dIx (dOp dIx (dVar 1) (dC (.int 1))) (dCall (sp_law_draw K) WD [] (daCons (dVar 0) (daCons (dCB dLen (daCons (dOp dIx (dVar 1) (dC (.int 1))) daNil)) daNil)))) (dC (.int 0))))
    (dSeq (dSet 3 (dCall (sp_law_draw K) WD [] (daCons (dVar 0) (daCons (dC (.int 6)) daNil))))
    (dSeq (dSet 4 (dLst true (daCons (dTup (daCons (dVar 2) (daCons (dVar 3) daNil))) daNil)))
    (dSeq (dFor (diR1 (daCons (dCall (sp_law_draw K) WD [] (daCons (dVar 0) (daCons (dC (.int 9)) daNil))) daNil)) (gN 5) (dSeq (dSet 6 (dLc false (diL (dOp dIx (dVar 1) (dC (.int 2)))) (.one 7) [7] (dTest (dOp dEq (dOp dIx (dVar 7) (dC (.int 0))) (dOp dIx (dOp dIx (dVar 4) (dUn dNeg (dC (.int 1)))) (dC (.int 0))))) (dVar 7)))
    (dIfS (dTest (dOp dNe (dVar 6) (dLst false daNil))) (dSeq (dSet 8 (dOp dIx (dVar 6) (dCall (sp_law_draw K) WD [] (daCons (dVar 0) (daCons (dCB dLen (daCons (dVar 6) daNil)) daNil)))))
    (dSeq (dSet 3 (dOp (dAdd false) (dOp (dAdd false) (dVar 3) (dOp dIx (dVar 8) (dC (.int 2)))) (dOp dIx (dLst false (daCons (dC (.int 0)) (daCons (dC (.int 0)) (daCons (dC (.int 1)) (daCons (dC (.int 7)) daNil))))) (dCall (sp_law_draw K) WD [] (daCons (dVar 0) (daCons (dC (.int 4)) daNil))))))
    (dDrop (dBM isL dAppend (dVar 4) (daCons (dTup (daCons (dOp dIx (dVar 8) (dC (.int 1))) (daCons (dVar 3) daNil))) daNil))))) dNext)))
    (dRet (dVar 4)))))

abbrev s_law_spoiled : Stmt := top 58
abbrev nm_law_spoiled : List Str := ["_law_pool_here", "_law_spec_here", "_law_walk", "_law_bad", "_law_k", "_law_at", "_law_what", "_law_step", "_law_words", "_law_row"]
theorem sc_law_spoiled : FnScope nm_law_spoiled ["_law_pool_here", "_law_spec_here", "_law_walk"] (defScope s_law_spoiled) := ⟨rfl, rfl, rfl, by decide +kernel, rfl, by decide +kernel, by decide +kernel⟩
def t_law_spoiled (K : PySem.W.Frag) (WD : DWX) : DTS :=
    dSeq (dSet 3 (dCB (dList true) (daCons (dVar 2) daNil)))
    (dSeq (dFor (diR1 (daCons (dOp (dAdd false) (dC (.int 1)) (dCall (sp_law_draw K) WD [] (daCons (dVar 0) (daCons (dC (.int 2)) daNil)))) daNil)) (gN 4) (dSeq (dSet 5 (dCall (sp_law_draw K) WD [] (daCons (dVar 0) (daCons (dCB dLen (daCons (dVar 3) daNil)) daNil))))
    (dSeq (dSet 6 (dCall (sp_law_draw K) WD [] (daCons (dVar 0) (daCons (dC (.int 5)) daNil))))
    (dSeq (dSet 7 (dOp dIx (dVar 3) (dVar 5)))
    (dSeq (dIfS (dTest (dOp dEq (dVar 6) (dC (.int 0)))) (dSeq (dSet 8 (dLst false (daCons (dCall (sp_law_near K) WD [] (daCons (dVar 0) (daCons (dLc false (diL (dOp dIx (dVar 1) (dC (.int 1)))) (.one 9) [9] dYes (dOp dIx (dVar 9) (dC (.int 0)))) daNil))) (daCons (dC (.str "")) (daCons (dC (.str "A b")) (daCons (dC (.str "0x")) daNil))))))
    (dSet 7 (dTup (daCons (dOp dIx (dVar 8) (dCall (sp_law_draw K) WD [] (daCons (dVar 0) (daCons (dC (.int 4)) daNil)))) (daCons (dOp dIx (dVar 7) (dC (.int 1))) daNil))))) dNext)
    (dSeq (dIfS (dTest (dOp dEq (dVar 6) (dC (.int 1)))) (dSet 7 (dTup (daCons (dOp dIx (dVar 7) (dC (.int 0))) (daCons (dOp dSub (dUn dNeg (dC (.int 1))) (dCall (sp_law_draw K) WD [] (daCons (dVar 0) (daCons (dC (.int 3)) daNil)))) daNil)))) dNext)
    (dSeq (dIfS (dTest (dOp dEq (dVar 6) (dC (.int 2)))) (dSet 7 (dTup (daCons (dOp dIx (dVar 7) (dC (.int 0))) (daCons (dOp dSub (dOp dSub (dOp dIx (dVar 7) (dC (.int 1))) (dC (.int 1))) (dCall (sp_law_draw K) WD [] (daCons (dVar 0) (daCons (dC (.int 3)) daNil)))) daNil)))) dNext)
    (dSeq (dIfS (dTest (dOp dEq (dVar 6) (dC (.int 3)))) (dSet 7 (dTup (daCons (dOp dIx (dVar 7) (dC (.int 0))) (daCons (dOp (dAdd false) (dOp (dAdd false) (dOp dIx (dVar 7) (dC (.int 1))) (dC (.int 1))) (dCall (sp_law_draw K) WD [] (daCons (dVar 0) (daCons (dC (.int 9)) daNil)))) daNil)))) dNext)
    (dSeq (dIfS (dTest (dOp dEq (dVar 6) (dC (.int 4)))) (dSet 7 (dTup (daCons (dOp dIx (dOp dIx (dOp dIx (dVar 1) (dC (.int 1))) (dCall (sp_law_draw K) WD [] (daCons (dVar 0) (daCons (dCB dLen (daCons (dOp dIx (dVar 1) (dC (.int 1))) daNil)) daNil)))) (dC (.int 0))) (daCons (dOp dIx (dVar 7) (dC (.int 1))) daNil)))) dNext)
    (dAsg (dVar 7) (gSet (dVar 3) (dVar 5))))))))))))
    (dRet (dVar 3)))

abbrev s_law_all_heavy : Stmt := top 59
abbrev nm_law_all_heavy : List Str := ["_law_tasks", "_law_specs", "_law_ticks", "_law_most", "_law_row", "_law_spec_here", "_law_run", "_law_jobs", "_law_k", "_law_told_here", "_law_mine", "_law_job", "_law_costs", "_law_step"]
theorem sc_law_all_heavy : FnScope nm_law_all_heavy ["_law_tasks", "_law_specs", "_law_ticks"] (defScope s_law_all_heavy) := ⟨rfl, rfl, rfl, by decide +kernel, rfl, by decide +kernel, by decide +kernel⟩
def t_law_all_heavy (K : PySem.W.Frag) (WD : DWX) : DTS :=
    dSeq (dSet 3 (dLc false (diL (dVar 1)) (.one 5) [5] dYes (dCB dMax (daCons (dLc false (diL (dCall (sp_law_table K) WD0 [] (daCons (dVar 5) (daCons (dVar 2) daNil)))) (.one 4) [4] dYes (dOp dIx (dVar 4) (dVar 2))) daNil))))
    (dSeq (dIfS (dTest (dOp dNe (dProp (ga K "Run") (sp_Run_jobs K) (dCall (sp_heavy_run K) WD [] (daCons (dLst false daNil) (daCons (dVar 2) daNil)))) (dLst false daNil))) (dRet (dWk (dC (.bl false)))) dNext)
    (dSeq (dSet 6 (dCall (sp_heavy_run K) WD [] (daCons (dCB (dList false) (daCons (dVar 0) daNil)) (daCons (dVar 2) daNil))))
    (dSeq (dSet 7 (dProp (ga K "Run") (sp_Run_jobs K) (dVar 6)))
    (dSeq (dFor (diR1 (daCons (dCB dLen (daCons (dVar 1) daNil)) daNil)) (gN 8) (dSeq (dSet 9 (dCall (sp_heavy_walk K) WD [] (daCons (dOp dIx (dVar 0) (dVar 8)) (daCons (dVar 2) daNil))))
    (dSeq (dIfS (dNot (dTru (dCall (sp_law_is_heavy K) WD [] (daCons (dVar 9) (daCons (dOp dIx (dVar 1) (dVar 8)) (daCons (dOp dIx (dVar 3) (dVar 8)) (daCons (dVar 2) daNil))))))) (dRet (dWk (dC (.bl false)))) dNext)
    (dSeq (dSet 10 (dLc true (diL (dVar 7)) (.one 11) [11] (dTest (dOp dEq (dOp dIx (dVar 11) (dC (.int 0))) (dVar 8))) (dTup (daCons (dOp dIx (dVar 11) (dC (.int 2))) (daCons (dOp dIx (dVar 11) (dC (.int 3))) daNil)))))
    (dSeq (dSet 12 (dLc false (diL (dVar 7)) (.one 11) [11] (dTest (dOp dEq (dOp dIx (dVar 11) (dC (.int 0))) (dVar 8))) (dOp dIx (dVar 11) (dC (.int 4)))))
    (dSeq (dIfS (dOr (dNot (dTru (dCall (sp_law_is_heavy K) WD [] (daCons (dVar 10) (daCons (dOp dIx (dVar 1) (dVar 8)) (daCons (dOp dIx (dVar 3) (dVar 8)) (daCons (dVar 2) daNil))))))) (dTest (dOp dNe (dVar 12) (dLcM false (dVar 10) (.one 13) [13] dYes (dMeth (ga K "Task") "cost_of" (sp_Task_cost_of K) WD0 [] (dOp dIx (dVar 0) (dVar 8)) (daCons (dOp dIx (dVar 13) (dC (.int 0))) daNil)))))) (dRet (dWk (dC (.bl false)))) dNext)
    (dSeq (dIfS (dTest (dOp dNe (dCall (sp_law_told K) WD [] (daCons (dOp dIx (dVar 0) (dVar 8)) (daCons (dVar 9) (daCons (dVar 2) daNil)))) (dTup (daCons (dC (.str "sum")) (daCons (dOp dIx (dVar 3) (dVar 8)) daNil))))) (dRet (dWk (dC (.bl false)))) dNext)
    (dSeq (dDrop (dBM isL dAppend (dVar 9) (daCons (dTup (daCons (dC (.str "z")) (daCons (dC (.int 0)) daNil))) daNil)))
    (dIfS (dNot (dTru (dCall (sp_law_is_heavy K) WD [] (daCons (dCall (sp_heavy_walk K) WD [] (daCons (dOp dIx (dVar 0) (dVar 8)) (daCons (dVar 2) daNil))) (daCons (dOp dIx (dVar 1) (dVar 8)) (daCons (dOp dIx (dVar 3) (dVar 8)) (daCons (dVar 2) daNil))))))) (dRet (dWk (dC (.bl false)))) dNext)))))))))
    (dRet (dWk (dAndV (dOp dEq (dFld K (dVar 6) "grain") (dC (.int 1))) (dOp dEq (dCB dSum (daCons (dLc false (diL (dVar 7)) (.one 11) [11] (dTest (dOp dLe (dOp dIx (dVar 11) (dC (.int 5))) (dVar 2))) (dOp dIx (dVar 11) (dC (.int 4)))) daNil)) (dCB dSum (daCons (dVar 3) daNil))))))))))

abbrev s_law : Stmt := top 60
abbrev nm_law : List Str := ["_law_script", "_law_pool_here", "_law_ticks", "_law_specs", "_law_k", "_law_tasks", "_law_spec_here", "_law_walk", "_law_bad", "_law_until", "_law_at"]
theorem sc_law : FnScope nm_law ["_law_script"] (defScope s_law) := ⟨rfl, rfl, rfl, by decide +kernel, rfl, by decide +kernel, by decide +kernel⟩
def t_law (K : PySem.W.Frag) (WD : DWX) : DTS :=
    dSeq (dSet 1 (dCall (sp_law_pool K) WD [] (daCons (dVar 0) daNil)))
    (dSeq (dSet 2 (dLst false (daCons (dCall (sp_law_draw K) WD [] (daCons (dVar 1) (daCons (dC (.int 61)) daNil))) (daCons (dCall (sp_law_draw K) WD [] (daCons (dVar 1) (daCons (dC (.int 61)) daNil))) daNil))))
    (dSeq (dSet 3 (dLc false (diR1 (daCons (dOp (dAdd false) (dC (.int 1)) (dCall (sp_law_draw K) WD [] (daCons (dVar 1) (daCons (dC (.int 3)) daNil)))) daNil)) (.one 4) [4] dYes (dCall (sp_law_spec K) WD0 [] (daCons (dVar 1) daNil))))
    (dSeq (dSet 5 (dLc false (diL (dVar 3)) (.one 6) [6] dYes (dMake (ga K "Task") (sp_Task_init K) WD0 [] (daCons (dOp dIx (dVar 6) (dC (.int 0))) (daCons (dCB (dList false) (daCons (dOp dIx (dVar 6) (dC (.int 1))) daNil)) (daCons (dCB (dList false) (daCons (dOp dIx (dVar 6) (dC (.int 2))) daNil)) daNil))))))
    (dSeq (dSet 7 (dCall (sp_law_drawn_walk K) WD [] (daCons (dVar 1) (daCons (dOp dIx (dVar 3) (dC (.int 0))) daNil))))
    (dSeq (dSet 8 (dCall (sp_law_spoiled K) WD [] (daCons (dVar 1) (daCons (dOp dIx (dVar 3) (dC (.int 0))) (daCons (dVar 7) daNil)))))
    (dSeq (dSet 9 (dLst false (daCons (dCall (sp_law_draw K) WD [] (daCons (dVar 1) (daCons (dC (.int 100)) daNil))) (daCons (dOp dSub (dCall (sp_law_draw K) WD [] (daCons (dVar 1) (daCons (dC (.int 12)) daNil))) (dC (.int 6))) (daCons (dOp dPow (dC (.int 10)) (dC (.int 6))) daNil)))))
    (dSeq (dFor (diL (dVar 2)) (gN 10) (dIfS (dNot (dTru (dCall (sp_law_all_heavy K) WD [] (daCons (dVar 5) (daCons (dVar 3) (daCons (dVar 10) daNil)))))) (dRet (dC (.bl false))) dNext))
    (dSeq (dFor (diL (dVar 9)) (gN 10) (dSeq (dIfS (dTest (dOp dNe (dCall (sp_law_told K) WD [] (daCons (dOp dIx (dVar 5) (dC (.int 0))) (daCons (dVar 7) (daCons (dVar 10) daNil)))) (dCall (sp_law_due K) WD [] (daCons (dOp dIx (dVar 3) (dC (.int 0))) (daCons (dVar 7) (daCons (dVar 10) daNil)))))) (dRet (dC (.bl false))) dNext)
    (dIfS (dTest (dOp dNe (dCall (sp_law_told K) WD [] (daCons (dOp dIx (dVar 5) (dC (.int 0))) (daCons (dVar 8) (daCons (dVar 10) daNil)))) (dCall (sp_law_due K) WD [] (daCons (dOp dIx (dVar 3) (dC (.int 0))) (daCons (dVar 8) (daCons (dVar 10) daNil)))))) (dRet (dC (.bl false))) dNext)))
    (dRet (dC (.bl true)))))))))))

def da_UnknownKind_init : DefA := ⟨fun K => ma K (ga K "UnknownKind") "__init__", "__init__", "UnknownKind.__init__", defArgs s_UnknownKind_init, defBody s_UnknownKind_init, defScope s_UnknownKind_init, [], []⟩
def da_OutOfRange_init : DefA := ⟨fun K => ma K (ga K "OutOfRange") "__init__", "__init__", "OutOfRange.__init__", defArgs s_OutOfRange_init, defBody s_OutOfRange_init, defScope s_OutOfRange_init, [], []⟩
def da_WrongCount_init : DefA := ⟨fun K => ma K (ga K "WrongCount") "__init__", "__init__", "WrongCount.__init__", defArgs s_WrongCount_init, defBody s_WrongCount_init, defScope s_WrongCount_init, [], []⟩
def da_BadCost_init : DefA := ⟨fun K => ma K (ga K "BadCost") "__init__", "__init__", "BadCost.__init__", defArgs s_BadCost_init, defBody s_BadCost_init, defScope s_BadCost_init, [], []⟩
def da_BadRelease_init : DefA := ⟨fun K => ma K (ga K "BadRelease") "__init__", "__init__", "BadRelease.__init__", defArgs s_BadRelease_init, defBody s_BadRelease_init, defScope s_BadRelease_init, [], []⟩
def da_NoArrow_init : DefA := ⟨fun K => ma K (ga K "NoArrow") "__init__", "__init__", "NoArrow.__init__", defArgs s_NoArrow_init, defBody s_NoArrow_init, defScope s_NoArrow_init, [], []⟩
def da_GapTooShort_init : DefA := ⟨fun K => ma K (ga K "GapTooShort") "__init__", "__init__", "GapTooShort.__init__", defArgs s_GapTooShort_init, defBody s_GapTooShort_init, defScope s_GapTooShort_init, [], []⟩
def da_is_name : DefA := ⟨fun K => ga K "is_name", "is_name", "is_name", defArgs s_is_name, defBody s_is_name, defScope s_is_name, [], []⟩
def da_need_name : DefA := ⟨fun K => ga K "need_name", "need_name", "need_name", defArgs s_need_name, defBody s_need_name, defScope s_need_name, [], []⟩
def da_need_range : DefA := ⟨fun K => ga K "need_range", "need_range", "need_range", defArgs s_need_range, defBody s_need_range, defScope s_need_range, [], []⟩
def da_need_kind : DefA := ⟨fun K => ga K "need_kind", "need_kind", "need_kind", defArgs s_need_kind, defBody s_need_kind, defScope s_need_kind, [], []⟩
def da_checked_kinds : DefA := ⟨fun K => ga K "checked_kinds", "checked_kinds", "checked_kinds", defArgs s_checked_kinds, defBody s_checked_kinds, defScope s_checked_kinds, [], []⟩
def da_checked_arrows : DefA := ⟨fun K => ga K "checked_arrows", "checked_arrows", "checked_arrows", defArgs s_checked_arrows, defBody s_checked_arrows, defScope s_checked_arrows, [], []⟩
def da_Task_init : DefA := ⟨fun K => ma K (ga K "Task") "__init__", "__init__", "Task.__init__", defArgs s_Task_init, defBody s_Task_init, defScope s_Task_init, [.adr (dflA (fun K => ma K (ga K "Task") "__init__") 0)], []⟩
def da_Task_kinds : DefA := ⟨fun K => wad K "property" "Task" "kinds", "kinds", "Task.kinds", defArgs s_Task_kinds, defBody s_Task_kinds, defScope s_Task_kinds, [], []⟩
def da_Task_row_of : DefA := ⟨fun K => ma K (ga K "Task") "row_of", "row_of", "Task.row_of", defArgs s_Task_row_of, defBody s_Task_row_of, defScope s_Task_row_of, [], []⟩
def da_Task_cost_of : DefA := ⟨fun K => ma K (ga K "Task") "cost_of", "cost_of", "Task.cost_of", defArgs s_Task_cost_of, defBody s_Task_cost_of, defScope s_Task_cost_of, [], []⟩
def da_Task_deadline_of : DefA := ⟨fun K => ma K (ga K "Task") "deadline_of", "deadline_of", "Task.deadline_of", defArgs s_Task_deadline_of, defBody s_Task_deadline_of, defScope s_Task_deadline_of, [], []⟩
def da_Task_followers : DefA := ⟨fun K => ma K (ga K "Task") "followers", "followers", "Task.followers", defArgs s_Task_followers, defBody s_Task_followers, defScope s_Task_followers, [], []⟩
def da_gap_between : DefA := ⟨fun K => ga K "gap_between", "gap_between", "gap_between", defArgs s_gap_between, defBody s_gap_between, defScope s_gap_between, [], []⟩
def da_check_job : DefA := ⟨fun K => ga K "check_job", "check_job", "check_job", defArgs s_check_job, defBody s_check_job, defScope s_check_job, [], []⟩
def da_check_counts : DefA := ⟨fun K => ga K "check_counts", "check_counts", "check_counts", defArgs s_check_counts, defBody s_check_counts, defScope s_check_counts, [], []⟩
def da_Run_init : DefA := ⟨fun K => ma K (ga K "Run") "__init__", "__init__", "Run.__init__", defArgs s_Run_init, defBody s_Run_init, defScope s_Run_init, [], [("grain", .int 1)]⟩
def da_Run_jobs : DefA := ⟨fun K => wad K "property" "Run" "jobs", "jobs", "Run.jobs", defArgs s_Run_jobs, defBody s_Run_jobs, defScope s_Run_jobs, [], []⟩
def da_kind_demands : DefA := ⟨fun K => ga K "kind_demands", "kind_demands", "kind_demands", defArgs s_kind_demands, defBody s_kind_demands, defScope s_kind_demands, [], []⟩
def da_heaviest_kind : DefA := ⟨fun K => ga K "heaviest_kind", "heaviest_kind", "heaviest_kind", defArgs s_heaviest_kind, defBody s_heaviest_kind, defScope s_heaviest_kind, [], []⟩
def da_next_step : DefA := ⟨fun K => ga K "next_step", "next_step", "next_step", defArgs s_next_step, defBody s_next_step, defScope s_next_step, [], []⟩
def da_heavy_walk : DefA := ⟨fun K => ga K "heavy_walk", "heavy_walk", "heavy_walk", defArgs s_heavy_walk, defBody s_heavy_walk, defScope s_heavy_walk, [], []⟩
def da_need_step : DefA := ⟨fun K => ga K "need_step", "need_step", "need_step", defArgs s_need_step, defBody s_need_step, defScope s_need_step, [], []⟩
def da_walk_demand : DefA := ⟨fun K => ga K "walk_demand", "walk_demand", "walk_demand", defArgs s_walk_demand, defBody s_walk_demand, defScope s_walk_demand, [], []⟩
def da_heavy_run : DefA := ⟨fun K => ga K "heavy_run", "heavy_run", "heavy_run", defArgs s_heavy_run, defBody s_heavy_run, defScope s_heavy_run, [], []⟩
def da_law_pool : DefA := ⟨fun K => ga K "_law_pool", "_law_pool", "_law_pool", defArgs s_law_pool, defBody s_law_pool, defScope s_law_pool, [], []⟩
def da_law_draw : DefA := ⟨fun K => ga K "_law_draw", "_law_draw", "_law_draw", defArgs s_law_draw, defBody s_law_draw, defScope s_law_draw, [], []⟩
def da_law_name : DefA := ⟨fun K => ga K "_law_name", "_law_name", "_law_name", defArgs s_law_name, defBody s_law_name, defScope s_law_name, [], []⟩
def da_law_fresh : DefA := ⟨fun K => ga K "_law_fresh", "_law_fresh", "_law_fresh", defArgs s_law_fresh, defBody s_law_fresh, defScope s_law_fresh, [], []⟩
def da_law_near : DefA := ⟨fun K => ga K "_law_near", "_law_near", "_law_near", defArgs s_law_near, defBody s_law_near, defScope s_law_near, [], []⟩
def da_law_number : DefA := ⟨fun K => ga K "_law_number", "_law_number", "_law_number", defArgs s_law_number, defBody s_law_number, defScope s_law_number, [], []⟩
def da_law_spec : DefA := ⟨fun K => ga K "_law_spec", "_law_spec", "_law_spec", defArgs s_law_spec, defBody s_law_spec, defScope s_law_spec, [], []⟩
def da_law_table : DefA := ⟨fun K => ga K "_law_table", "_law_table", "_law_table", defArgs s_law_table, defBody s_law_table, defScope s_law_table, [], []⟩
def da_law_whole : DefA := ⟨fun K => ga K "_law_whole", "_law_whole", "_law_whole", defArgs s_law_whole, defBody s_law_whole, defScope s_law_whole, [], []⟩
def da_law_gap : DefA := ⟨fun K => ga K "_law_gap", "_law_gap", "_law_gap", defArgs s_law_gap, defBody s_law_gap, defScope s_law_gap, [], []⟩
def da_law_due : DefA := ⟨fun K => ga K "_law_due", "_law_due", "_law_due", defArgs s_law_due, defBody s_law_due, defScope s_law_due, [], []⟩
def da_law_told : DefA := ⟨fun K => ga K "_law_told", "_law_told", "_law_told", defArgs s_law_told, defBody s_law_told, defScope s_law_told, [], []⟩
def da_law_is_walk : DefA := ⟨fun K => ga K "_law_is_walk", "_law_is_walk", "_law_is_walk", defArgs s_law_is_walk, defBody s_law_is_walk, defScope s_law_is_walk, [], []⟩
def da_law_is_heavy : DefA := ⟨fun K => ga K "_law_is_heavy", "_law_is_heavy", "_law_is_heavy", defArgs s_law_is_heavy, defBody s_law_is_heavy, defScope s_law_is_heavy, [], []⟩
def da_law_drawn_walk : DefA := ⟨fun K => ga K "_law_drawn_walk", "_law_drawn_walk", "_law_drawn_walk", defArgs s_law_drawn_walk, defBody s_law_drawn_walk, defScope s_law_drawn_walk, [], []⟩
def da_law_spoiled : DefA := ⟨fun K => ga K "_law_spoiled", "_law_spoiled", "_law_spoiled", defArgs s_law_spoiled, defBody s_law_spoiled, defScope s_law_spoiled, [], []⟩
def da_law_all_heavy : DefA := ⟨fun K => ga K "_law_all_heavy", "_law_all_heavy", "_law_all_heavy", defArgs s_law_all_heavy, defBody s_law_all_heavy, defScope s_law_all_heavy, [], []⟩
def da_law : DefA := ⟨fun K => ga K "law", "law", "law", defArgs s_law, defBody s_law, defScope s_law, [], []⟩
def fn : List DefA := [da_UnknownKind_init, da_OutOfRange_init, da_WrongCount_init, da_BadCost_init, da_BadRelease_init, da_NoArrow_init, da_GapTooShort_init, da_is_name, da_need_name, da_need_range, da_need_kind, da_checked_kinds, da_checked_arrows, da_Task_init, da_Task_kinds, da_Task_row_of, da_Task_cost_of, da_Task_deadline_of, da_Task_followers, da_gap_between, da_check_job, da_check_counts, da_Run_init, da_Run_jobs, da_kind_demands, da_heaviest_kind, da_next_step, da_heavy_walk, da_need_step, da_walk_demand, da_heavy_run, da_law_pool, da_law_draw, da_law_name, da_law_fresh, da_law_near, da_law_number, da_law_spec, da_law_table, da_law_whole, da_law_gap, da_law_due, da_law_told, da_law_is_walk, da_law_is_heavy, da_law_drawn_walk, da_law_spoiled, da_law_all_heavy, da_law]
def fa : List (Fr0 → Bool) := [
  fun K => (He.Fa.glo "gap_between").ok K,
  fun K => (He.Fa.glo "check_job").ok K,
  fun K => (He.Fa.glo "check_counts").ok K,
  fun K => (He.Fa.glo "kind_demands").ok K,
  fun K => (He.Fa.glo "heaviest_kind").ok K,
  fun K => (He.Fa.glo "next_step").ok K,
  fun K => (He.Fa.glo "heavy_walk").ok K,
  fun K => (He.Fa.glo "need_step").ok K,
  fun K => (He.Fa.glo "walk_demand").ok K,
  fun K => (He.Fa.glo "heavy_run").ok K,
  fun K => (He.Fa.glo "is_name").ok K,
  fun K => (He.Fa.glo "need_name").ok K,
  fun K => (He.Fa.glo "need_range").ok K,
  fun K => (He.Fa.glo "need_kind").ok K,
  fun K => (He.Fa.glo "checked_kinds").ok K,
  fun K => (He.Fa.glo "checked_arrows").ok K,
  fun K => (He.Fa.glo "_law_pool").ok K,
  fun K => (He.Fa.glo "_law_draw").ok K,
  fun K => (He.Fa.glo "_law_name").ok K,
  fun K => (He.Fa.glo "_law_fresh").ok K,
  fun K => (He.Fa.glo "_law_near").ok K,
  fun K => (He.Fa.glo "_law_number").ok K,
  fun K => (He.Fa.glo "_law_spec").ok K,
  fun K => (He.Fa.glo "_law_table").ok K,
  fun K => (He.Fa.glo "_law_whole").ok K,
  fun K => (He.Fa.glo "_law_gap").ok K,
  fun K => (He.Fa.glo "_law_due").ok K,
  fun K => (He.Fa.glo "_law_told").ok K,
  fun K => (He.Fa.glo "_law_is_walk").ok K,
  fun K => (He.Fa.glo "_law_is_heavy").ok K,
  fun K => (He.Fa.glo "_law_drawn_walk").ok K,
  fun K => (He.Fa.glo "_law_spoiled").ok K,
  fun K => (He.Fa.glo "_law_all_heavy").ok K,
  fun K => (He.Fa.glo "law").ok K,
  fun K => (He.Fa.glo "DuesError").ok K,
  fun K => (He.Fa.glo "WrongCount").ok K,
  fun K => (He.Fa.glo "OutOfRange").ok K,
  fun K => (He.Fa.glo "UnknownKind").ok K,
  fun K => (He.Fa.glo "BadCost").ok K,
  fun K => (He.Fa.glo "BadRelease").ok K,
  fun K => (He.Fa.glo "NoArrow").ok K,
  fun K => (He.Fa.glo "GapTooShort").ok K,
  fun K => (He.Fa.glo "Run").ok K,
  fun K => (He.Fa.glo "Task").ok K,
  fun K => (He.Fa.free "all").ok K,
  fun K => (He.Fa.free "bool").ok K,
  fun K => (He.Fa.free "dict").ok K,
  fun K => (He.Fa.free "enumerate").ok K,
  fun K => (He.Fa.free "int").ok K,
  fun K => (He.Fa.free "isinstance").ok K,
  fun K => (He.Fa.free "len").ok K,
  fun K => (He.Fa.free "list").ok K,
  fun K => (He.Fa.free "max").ok K,
  fun K => (He.Fa.free "min").ok K,
  fun K => (He.Fa.free "range").ok K,
  fun K => (He.Fa.free "sorted").ok K,
  fun K => (He.Fa.free "str").ok K,
  fun K => (He.Fa.free "sum").ok K,
  fun K => (He.Fa.free "tuple").ok K,
  fun K => (He.Fa.int "GRAIN_LIMIT" 60).ok K,
  fun K => (He.Fa.int "JOB_LIMIT" 400).ok K,
  fun K => (He.Fa.str "LETTERS" "abcdefghijklmnopqrstuvwxyz").ok K,
  fun K => (He.Fa.str "OTHER_SIGNS" "0123456789_").ok K,
  fun K => (He.Fa.int "LONGEST_NAME" 12).ok K,
  fun K => (He.Fa.int "MOST_KINDS" 4).ok K,
  fun K => (He.Fa.int "MOST_ARROWS" 12).ok K,
  fun K => (He.Fa.int "MOST_GAP" 12).ok K,
  fun K => (He.Fa.cls "Run").ok K,
  fun K => (He.Fa.mkr "Run").ok K,
  propB "Run" "jobs",
  fun K => (He.Fa.noat "Run" "grain").ok K,
  fun K => (He.Fa.noat "Run" "placed").ok K,
  fun K => (He.Fa.cls "Task").ok K,
  fun K => (He.Fa.mkr "Task").ok K,
  propB "Task" "kinds",
  fun K => (He.Fa.meth "Task" "row_of").ok K,
  fun K => (He.Fa.meth "Task" "cost_of").ok K,
  fun K => (He.Fa.meth "Task" "deadline_of").ok K,
  fun K => (He.Fa.meth "Task" "followers").ok K,
  fun K => (He.Fa.noat "Task" "name").ok K,
  fun K => (He.Fa.noat "Task" "kind_rows").ok K,
  fun K => (He.Fa.noat "Task" "arrow_rows").ok K,
  oexB "BadCost",
  exmB "BadCost" "DuesError" true,
  oexB "BadRelease",
  exmB "BadRelease" "DuesError" true,
  oexB "GapTooShort",
  exmB "GapTooShort" "DuesError" true,
  oexB "NoArrow",
  exmB "NoArrow" "DuesError" true,
  oexB "OutOfRange",
  exmB "OutOfRange" "DuesError" true,
  oexB "UnknownKind",
  exmB "UnknownKind" "DuesError" true,
  oexB "WrongCount",
  exmB "WrongCount" "DuesError" true,
  xisB "DuesError",
  xisB "UnknownKind",
  kitOB "UnknownKind" "BadRelease" false,
  kitOB "UnknownKind" "GapTooShort" false,
  kitOB "UnknownKind" "NoArrow" false,
  kitOB "UnknownKind" "UnknownKind" true,
  xisB "BadRelease",
  kitOB "BadRelease" "BadRelease" true,
  kitOB "BadRelease" "GapTooShort" false,
  kitOB "BadRelease" "NoArrow" false,
  kitOB "BadRelease" "UnknownKind" false,
  xisB "NoArrow",
  kitOB "NoArrow" "BadRelease" false,
  kitOB "NoArrow" "GapTooShort" false,
  kitOB "NoArrow" "NoArrow" true,
  kitOB "NoArrow" "UnknownKind" false,
  xisB "GapTooShort",
  kitOB "GapTooShort" "BadRelease" false,
  kitOB "GapTooShort" "GapTooShort" true,
  kitOB "GapTooShort" "NoArrow" false,
  kitOB "GapTooShort" "UnknownKind" false,
  nofB "BadCost" "place",
  nofB "BadCost" "task",
  nofB "BadRelease" "place",
  nofB "BadRelease" "task",
  nofB "GapTooShort" "place",
  nofB "GapTooShort" "task",
  nofB "NoArrow" "place",
  nofB "NoArrow" "task",
  nofB "OutOfRange" "value",
  nofB "OutOfRange" "what",
  nofB "UnknownKind" "name",
  nofB "WrongCount" "count",
  nofB "WrongCount" "what",
  xfcB "BadRelease",
  xfcB "DuesError",
  xfcB "GapTooShort",
  xfcB "NoArrow",
  xfcB "UnknownKind",
  tup0B (dflA (fun K => ma K (ga K "Task") "__init__") 0),
  lamB 1]
structure Txt (K : Fr0) (mg : Str → Option Value) : Prop where
  says : Says fa fn K
  ex : ∃ h : Heap, K.In h ∧ h.Ns mainGlobals mg
section
variable {K : Fr0} {mg : Str → Option Value}
theorem Txt.g_gap_between (T : Txt K mg) : mg "gap_between" = some (.ref (ga K "gap_between")) := by
  obtain ⟨h, kin, g⟩ := T.ex
  exact He.glo_ok kin g (T.says.fact 0 rfl)
theorem Txt.g_check_job (T : Txt K mg) : mg "check_job" = some (.ref (ga K "check_job")) := by
  obtain ⟨h, kin, g⟩ := T.ex
  exact He.glo_ok kin g (T.says.fact 1 rfl)
theorem Txt.g_check_counts (T : Txt K mg) : mg "check_counts" = some (.ref (ga K "check_counts")) := by
  obtain ⟨h, kin, g⟩ := T.ex
  exact He.glo_ok kin g (T.says.fact 2 rfl)
theorem Txt.g_kind_demands (T : Txt K mg) : mg "kind_demands" = some (.ref (ga K "kind_demands")) := by
  obtain ⟨h, kin, g⟩ := T.ex
  exact He.glo_ok kin g (T.says.fact 3 rfl)
theorem Txt.g_heaviest_kind (T : Txt K mg) : mg "heaviest_kind" = some (.ref (ga K "heaviest_kind")) := by
  obtain ⟨h, kin, g⟩ := T.ex
  exact He.glo_ok kin g (T.says.fact 4 rfl)
theorem Txt.g_next_step (T : Txt K mg) : mg "next_step" = some (.ref (ga K "next_step")) := by
  obtain ⟨h, kin, g⟩ := T.ex
  exact He.glo_ok kin g (T.says.fact 5 rfl)
theorem Txt.g_heavy_walk (T : Txt K mg) : mg "heavy_walk" = some (.ref (ga K "heavy_walk")) := by
  obtain ⟨h, kin, g⟩ := T.ex
  exact He.glo_ok kin g (T.says.fact 6 rfl)
theorem Txt.g_need_step (T : Txt K mg) : mg "need_step" = some (.ref (ga K "need_step")) := by
  obtain ⟨h, kin, g⟩ := T.ex
  exact He.glo_ok kin g (T.says.fact 7 rfl)
theorem Txt.g_walk_demand (T : Txt K mg) : mg "walk_demand" = some (.ref (ga K "walk_demand")) := by
  obtain ⟨h, kin, g⟩ := T.ex
  exact He.glo_ok kin g (T.says.fact 8 rfl)
theorem Txt.g_heavy_run (T : Txt K mg) : mg "heavy_run" = some (.ref (ga K "heavy_run")) := by
  obtain ⟨h, kin, g⟩ := T.ex
  exact He.glo_ok kin g (T.says.fact 9 rfl)
theorem Txt.g_is_name (T : Txt K mg) : mg "is_name" = some (.ref (ga K "is_name")) := by
  obtain ⟨h, kin, g⟩ := T.ex
  exact He.glo_ok kin g (T.says.fact 10 rfl)
theorem Txt.g_need_name (T : Txt K mg) : mg "need_name" = some (.ref (ga K "need_name")) := by
  obtain ⟨h, kin, g⟩ := T.ex
  exact He.glo_ok kin g (T.says.fact 11 rfl)
theorem Txt.g_need_range (T : Txt K mg) : mg "need_range" = some (.ref (ga K "need_range")) := by
  obtain ⟨h, kin, g⟩ := T.ex
  exact He.glo_ok kin g (T.says.fact 12 rfl)
theorem Txt.g_need_kind (T : Txt K mg) : mg "need_kind" = some (.ref (ga K "need_kind")) := by
  obtain ⟨h, kin, g⟩ := T.ex
  exact He.glo_ok kin g (T.says.fact 13 rfl)
theorem Txt.g_checked_kinds (T : Txt K mg) : mg "checked_kinds" = some (.ref (ga K "checked_kinds")) := by
  obtain ⟨h, kin, g⟩ := T.ex
  exact He.glo_ok kin g (T.says.fact 14 rfl)
theorem Txt.g_checked_arrows (T : Txt K mg) : mg "checked_arrows" = some (.ref (ga K "checked_arrows")) := by
  obtain ⟨h, kin, g⟩ := T.ex
  exact He.glo_ok kin g (T.says.fact 15 rfl)
theorem Txt.g_law_pool (T : Txt K mg) : mg "_law_pool" = some (.ref (ga K "_law_pool")) := by
  obtain ⟨h, kin, g⟩ := T.ex
  exact He.glo_ok kin g (T.says.fact 16 rfl)
theorem Txt.g_law_draw (T : Txt K mg) : mg "_law_draw" = some (.ref (ga K "_law_draw")) := by
  obtain ⟨h, kin, g⟩ := T.ex
  exact He.glo_ok kin g (T.says.fact 17 rfl)
theorem Txt.g_law_name (T : Txt K mg) : mg "_law_name" = some (.ref (ga K "_law_name")) := by
  obtain ⟨h, kin, g⟩ := T.ex
  exact He.glo_ok kin g (T.says.fact 18 rfl)
theorem Txt.g_law_fresh (T : Txt K mg) : mg "_law_fresh" = some (.ref (ga K "_law_fresh")) := by
  obtain ⟨h, kin, g⟩ := T.ex
  exact He.glo_ok kin g (T.says.fact 19 rfl)
theorem Txt.g_law_near (T : Txt K mg) : mg "_law_near" = some (.ref (ga K "_law_near")) := by
  obtain ⟨h, kin, g⟩ := T.ex
  exact He.glo_ok kin g (T.says.fact 20 rfl)
theorem Txt.g_law_number (T : Txt K mg) : mg "_law_number" = some (.ref (ga K "_law_number")) := by
  obtain ⟨h, kin, g⟩ := T.ex
  exact He.glo_ok kin g (T.says.fact 21 rfl)
theorem Txt.g_law_spec (T : Txt K mg) : mg "_law_spec" = some (.ref (ga K "_law_spec")) := by
  obtain ⟨h, kin, g⟩ := T.ex
  exact He.glo_ok kin g (T.says.fact 22 rfl)
theorem Txt.g_law_table (T : Txt K mg) : mg "_law_table" = some (.ref (ga K "_law_table")) := by
  obtain ⟨h, kin, g⟩ := T.ex
  exact He.glo_ok kin g (T.says.fact 23 rfl)
theorem Txt.g_law_whole (T : Txt K mg) : mg "_law_whole" = some (.ref (ga K "_law_whole")) := by
  obtain ⟨h, kin, g⟩ := T.ex
  exact He.glo_ok kin g (T.says.fact 24 rfl)
theorem Txt.g_law_gap (T : Txt K mg) : mg "_law_gap" = some (.ref (ga K "_law_gap")) := by
  obtain ⟨h, kin, g⟩ := T.ex
  exact He.glo_ok kin g (T.says.fact 25 rfl)
theorem Txt.g_law_due (T : Txt K mg) : mg "_law_due" = some (.ref (ga K "_law_due")) := by
  obtain ⟨h, kin, g⟩ := T.ex
  exact He.glo_ok kin g (T.says.fact 26 rfl)
theorem Txt.g_law_told (T : Txt K mg) : mg "_law_told" = some (.ref (ga K "_law_told")) := by
  obtain ⟨h, kin, g⟩ := T.ex
  exact He.glo_ok kin g (T.says.fact 27 rfl)
theorem Txt.g_law_is_walk (T : Txt K mg) : mg "_law_is_walk" = some (.ref (ga K "_law_is_walk")) := by
  obtain ⟨h, kin, g⟩ := T.ex
  exact He.glo_ok kin g (T.says.fact 28 rfl)
theorem Txt.g_law_is_heavy (T : Txt K mg) : mg "_law_is_heavy" = some (.ref (ga K "_law_is_heavy")) := by
  obtain ⟨h, kin, g⟩ := T.ex
  exact He.glo_ok kin g (T.says.fact 29 rfl)
theorem Txt.g_law_drawn_walk (T : Txt K mg) : mg "_law_drawn_walk" = some (.ref (ga K "_law_drawn_walk")) := by
  obtain ⟨h, kin, g⟩ := T.ex
  exact He.glo_ok kin g (T.says.fact 30 rfl)
theorem Txt.g_law_spoiled (T : Txt K mg) : mg "_law_spoiled" = some (.ref (ga K "_law_spoiled")) := by
  obtain ⟨h, kin, g⟩ := T.ex
  exact He.glo_ok kin g (T.says.fact 31 rfl)
theorem Txt.g_law_all_heavy (T : Txt K mg) : mg "_law_all_heavy" = some (.ref (ga K "_law_all_heavy")) := by
  obtain ⟨h, kin, g⟩ := T.ex
  exact He.glo_ok kin g (T.says.fact 32 rfl)
theorem Txt.g_law (T : Txt K mg) : mg "law" = some (.ref (ga K "law")) := by
  obtain ⟨h, kin, g⟩ := T.ex
  exact He.glo_ok kin g (T.says.fact 33 rfl)
theorem Txt.g_DuesError (T : Txt K mg) : mg "DuesError" = some (.ref (ga K "DuesError")) := by
  obtain ⟨h, kin, g⟩ := T.ex
  exact He.glo_ok kin g (T.says.fact 34 rfl)
theorem Txt.g_WrongCount (T : Txt K mg) : mg "WrongCount" = some (.ref (ga K "WrongCount")) := by
  obtain ⟨h, kin, g⟩ := T.ex
  exact He.glo_ok kin g (T.says.fact 35 rfl)
theorem Txt.g_OutOfRange (T : Txt K mg) : mg "OutOfRange" = some (.ref (ga K "OutOfRange")) := by
  obtain ⟨h, kin, g⟩ := T.ex
  exact He.glo_ok kin g (T.says.fact 36 rfl)
theorem Txt.g_UnknownKind (T : Txt K mg) : mg "UnknownKind" = some (.ref (ga K "UnknownKind")) := by
  obtain ⟨h, kin, g⟩ := T.ex
  exact He.glo_ok kin g (T.says.fact 37 rfl)
theorem Txt.g_BadCost (T : Txt K mg) : mg "BadCost" = some (.ref (ga K "BadCost")) := by
  obtain ⟨h, kin, g⟩ := T.ex
  exact He.glo_ok kin g (T.says.fact 38 rfl)
theorem Txt.g_BadRelease (T : Txt K mg) : mg "BadRelease" = some (.ref (ga K "BadRelease")) := by
  obtain ⟨h, kin, g⟩ := T.ex
  exact He.glo_ok kin g (T.says.fact 39 rfl)
theorem Txt.g_NoArrow (T : Txt K mg) : mg "NoArrow" = some (.ref (ga K "NoArrow")) := by
  obtain ⟨h, kin, g⟩ := T.ex
  exact He.glo_ok kin g (T.says.fact 40 rfl)
theorem Txt.g_GapTooShort (T : Txt K mg) : mg "GapTooShort" = some (.ref (ga K "GapTooShort")) := by
  obtain ⟨h, kin, g⟩ := T.ex
  exact He.glo_ok kin g (T.says.fact 41 rfl)
theorem Txt.g_Run (T : Txt K mg) : mg "Run" = some (.ref (ga K "Run")) := by
  obtain ⟨h, kin, g⟩ := T.ex
  exact He.glo_ok kin g (T.says.fact 42 rfl)
theorem Txt.g_Task (T : Txt K mg) : mg "Task" = some (.ref (ga K "Task")) := by
  obtain ⟨h, kin, g⟩ := T.ex
  exact He.glo_ok kin g (T.says.fact 43 rfl)
theorem Txt.b_all (T : Txt K mg) : mg "all" = none := by
  obtain ⟨h, kin, g⟩ := T.ex
  exact He.free_ok kin g (T.says.fact 44 rfl)
theorem Txt.b_bool (T : Txt K mg) : mg "bool" = none := by
  obtain ⟨h, kin, g⟩ := T.ex
  exact He.free_ok kin g (T.says.fact 45 rfl)
theorem Txt.b_dict (T : Txt K mg) : mg "dict" = none := by
  obtain ⟨h, kin, g⟩ := T.ex
  exact He.free_ok kin g (T.says.fact 46 rfl)
theorem Txt.b_enumerate (T : Txt K mg) : mg "enumerate" = none := by
  obtain ⟨h, kin, g⟩ := T.ex
  exact He.free_ok kin g (T.says.fact 47 rfl)
theorem Txt.b_int (T : Txt K mg) : mg "int" = none := by
  obtain ⟨h, kin, g⟩ := T.ex
  exact He.free_ok kin g (T.says.fact 48 rfl)
theorem Txt.b_isinstance (T : Txt K mg) : mg "isinstance" = none := by
  obtain ⟨h, kin, g⟩ := T.ex
  exact He.free_ok kin g (T.says.fact 49 rfl)
theorem Txt.b_len (T : Txt K mg) : mg "len" = none := by
  obtain ⟨h, kin, g⟩ := T.ex
  exact He.free_ok kin g (T.says.fact 50 rfl)
theorem Txt.b_list (T : Txt K mg) : mg "list" = none := by
  obtain ⟨h, kin, g⟩ := T.ex
  exact He.free_ok kin g (T.says.fact 51 rfl)
theorem Txt.b_max (T : Txt K mg) : mg "max" = none := by
  obtain ⟨h, kin, g⟩ := T.ex
  exact He.free_ok kin g (T.says.fact 52 rfl)
theorem Txt.b_min (T : Txt K mg) : mg "min" = none := by
  obtain ⟨h, kin, g⟩ := T.ex
  exact He.free_ok kin g (T.says.fact 53 rfl)
theorem Txt.b_range (T : Txt K mg) : mg "range" = none := by
  obtain ⟨h, kin, g⟩ := T.ex
  exact He.free_ok kin g (T.says.fact 54 rfl)
theorem Txt.b_sorted (T : Txt K mg) : mg "sorted" = none := by
  obtain ⟨h, kin, g⟩ := T.ex
  exact He.free_ok kin g (T.says.fact 55 rfl)
theorem Txt.b_str (T : Txt K mg) : mg "str" = none := by
  obtain ⟨h, kin, g⟩ := T.ex
  exact He.free_ok kin g (T.says.fact 56 rfl)
theorem Txt.b_sum (T : Txt K mg) : mg "sum" = none := by
  obtain ⟨h, kin, g⟩ := T.ex
  exact He.free_ok kin g (T.says.fact 57 rfl)
theorem Txt.b_tuple (T : Txt K mg) : mg "tuple" = none := by
  obtain ⟨h, kin, g⟩ := T.ex
  exact He.free_ok kin g (T.says.fact 58 rfl)
theorem Txt.k_GRAIN_LIMIT (T : Txt K mg) : ∃ t, mg "GRAIN_LIMIT" = some (.int 60 t) := by
  obtain ⟨h, kin, g⟩ := T.ex
  exact He.int_ok kin g (T.says.fact 59 rfl)
theorem Txt.k_JOB_LIMIT (T : Txt K mg) : ∃ t, mg "JOB_LIMIT" = some (.int 400 t) := by
  obtain ⟨h, kin, g⟩ := T.ex
  exact He.int_ok kin g (T.says.fact 60 rfl)
theorem Txt.k_LETTERS (T : Txt K mg) : ∃ t, mg "LETTERS" = some (.str "abcdefghijklmnopqrstuvwxyz" t) := by
  obtain ⟨h, kin, g⟩ := T.ex
  exact He.str_ok kin g (T.says.fact 61 rfl)
theorem Txt.k_OTHER_SIGNS (T : Txt K mg) : ∃ t, mg "OTHER_SIGNS" = some (.str "0123456789_" t) := by
  obtain ⟨h, kin, g⟩ := T.ex
  exact He.str_ok kin g (T.says.fact 62 rfl)
theorem Txt.k_LONGEST_NAME (T : Txt K mg) : ∃ t, mg "LONGEST_NAME" = some (.int 12 t) := by
  obtain ⟨h, kin, g⟩ := T.ex
  exact He.int_ok kin g (T.says.fact 63 rfl)
theorem Txt.k_MOST_KINDS (T : Txt K mg) : ∃ t, mg "MOST_KINDS" = some (.int 4 t) := by
  obtain ⟨h, kin, g⟩ := T.ex
  exact He.int_ok kin g (T.says.fact 64 rfl)
theorem Txt.k_MOST_ARROWS (T : Txt K mg) : ∃ t, mg "MOST_ARROWS" = some (.int 12 t) := by
  obtain ⟨h, kin, g⟩ := T.ex
  exact He.int_ok kin g (T.says.fact 65 rfl)
theorem Txt.k_MOST_GAP (T : Txt K mg) : ∃ t, mg "MOST_GAP" = some (.int 12 t) := by
  obtain ⟨h, kin, g⟩ := T.ex
  exact He.int_ok kin g (T.says.fact 66 rfl)
theorem Txt.cl_Run (T : Txt K mg) : Cls K (ga K "Run") := He.cls_ok (T.says.fact 67 rfl)
theorem Txt.mk_Run (T : Txt K mg) : Mk K (ga K "Run") (ma K (ga K "Run") "__init__") := He.mkr_ok (T.says.fact 68 rfl)
theorem Txt.p_Run_jobs (T : Txt K mg) : PropOf K (ga K "Run") "jobs" (pad K "Run" "jobs") (wad K "property" "Run" "jobs") := prop_of (T.says.fact 69 rfl)
theorem Txt.n_Run_grain (T : Txt K mg) : NoAttr K (ga K "Run") "grain" := He.noat_ok (T.says.fact 70 rfl)
theorem Txt.n_Run_placed (T : Txt K mg) : NoAttr K (ga K "Run") "placed" := He.noat_ok (T.says.fact 71 rfl)
theorem Txt.cl_Task (T : Txt K mg) : Cls K (ga K "Task") := He.cls_ok (T.says.fact 72 rfl)
theorem Txt.mk_Task (T : Txt K mg) : Mk K (ga K "Task") (ma K (ga K "Task") "__init__") := He.mkr_ok (T.says.fact 73 rfl)
theorem Txt.p_Task_kinds (T : Txt K mg) : PropOf K (ga K "Task") "kinds" (pad K "Task" "kinds") (wad K "property" "Task" "kinds") := prop_of (T.says.fact 74 rfl)
theorem Txt.m_Task_row_of (T : Txt K mg) : Meth K (ga K "Task") "row_of" (ma K (ga K "Task") "row_of") := He.meth_ok (T.says.fact 75 rfl)
theorem Txt.m_Task_cost_of (T : Txt K mg) : Meth K (ga K "Task") "cost_of" (ma K (ga K "Task") "cost_of") := He.meth_ok (T.says.fact 76 rfl)
theorem Txt.m_Task_deadline_of (T : Txt K mg) : Meth K (ga K "Task") "deadline_of" (ma K (ga K "Task") "deadline_of") := He.meth_ok (T.says.fact 77 rfl)
theorem Txt.m_Task_followers (T : Txt K mg) : Meth K (ga K "Task") "followers" (ma K (ga K "Task") "followers") := He.meth_ok (T.says.fact 78 rfl)
theorem Txt.n_Task_name (T : Txt K mg) : NoAttr K (ga K "Task") "name" := He.noat_ok (T.says.fact 79 rfl)
theorem Txt.n_Task_kind_rows (T : Txt K mg) : NoAttr K (ga K "Task") "kind_rows" := He.noat_ok (T.says.fact 80 rfl)
theorem Txt.n_Task_arrow_rows (T : Txt K mg) : NoAttr K (ga K "Task") "arrow_rows" := He.noat_ok (T.says.fact 81 rfl)
theorem Txt.ox_BadCost (T : Txt K mg) : OexC K (ga K "BadCost") := (oex_of (T.says.fact 82 rfl)).1
theorem Txt.oxi_BadCost (T : Txt K mg) : PySem.W.findIn K (.ref (ga K "BadCost")) "__init__" = some (some (.ref (ma K (ga K "BadCost") "__init__"))) := (oex_of (T.says.fact 82 rfl)).2.1
theorem Txt.oxf_BadCost (T : Txt K mg) : PySem.W.typeIn K (.ref (ma K (ga K "BadCost") "__init__")) = some (.type "function") := (oex_of (T.says.fact 82 rfl)).2.2
theorem Txt.ox_BadRelease (T : Txt K mg) : OexC K (ga K "BadRelease") := (oex_of (T.says.fact 84 rfl)).1
theorem Txt.oxi_BadRelease (T : Txt K mg) : PySem.W.findIn K (.ref (ga K "BadRelease")) "__init__" = some (some (.ref (ma K (ga K "BadRelease") "__init__"))) := (oex_of (T.says.fact 84 rfl)).2.1
theorem Txt.oxf_BadRelease (T : Txt K mg) : PySem.W.typeIn K (.ref (ma K (ga K "BadRelease") "__init__")) = some (.type "function") := (oex_of (T.says.fact 84 rfl)).2.2
theorem Txt.xm_BadRelease_DuesError (T : Txt K mg) : PySem.W.exmOne K (.ref (ga K "BadRelease")) (.ref (ga K "DuesError")) = some true := of_decide_eq_true (T.says.fact 85 rfl)
theorem Txt.ox_GapTooShort (T : Txt K mg) : OexC K (ga K "GapTooShort") := (oex_of (T.says.fact 86 rfl)).1
theorem Txt.oxi_GapTooShort (T : Txt K mg) : PySem.W.findIn K (.ref (ga K "GapTooShort")) "__init__" = some (some (.ref (ma K (ga K "GapTooShort") "__init__"))) := (oex_of (T.says.fact 86 rfl)).2.1
theorem Txt.oxf_GapTooShort (T : Txt K mg) : PySem.W.typeIn K (.ref (ma K (ga K "GapTooShort") "__init__")) = some (.type "function") := (oex_of (T.says.fact 86 rfl)).2.2
theorem Txt.xm_GapTooShort_DuesError (T : Txt K mg) : PySem.W.exmOne K (.ref (ga K "GapTooShort")) (.ref (ga K "DuesError")) = some true := of_decide_eq_true (T.says.fact 87 rfl)
theorem Txt.ox_NoArrow (T : Txt K mg) : OexC K (ga K "NoArrow") := (oex_of (T.says.fact 88 rfl)).1
theorem Txt.oxi_NoArrow (T : Txt K mg) : PySem.W.findIn K (.ref (ga K "NoArrow")) "__init__" = some (some (.ref (ma K (ga K "NoArrow") "__init__"))) := (oex_of (T.says.fact 88 rfl)).2.1
theorem Txt.oxf_NoArrow (T : Txt K mg) : PySem.W.typeIn K (.ref (ma K (ga K "NoArrow") "__init__")) = some (.type "function") := (oex_of (T.says.fact 88 rfl)).2.2
theorem Txt.xm_NoArrow_DuesError (T : Txt K mg) : PySem.W.exmOne K (.ref (ga K "NoArrow")) (.ref (ga K "DuesError")) = some true := of_decide_eq_true (T.says.fact 89 rfl)
theorem Txt.ox_OutOfRange (T : Txt K mg) : OexC K (ga K "OutOfRange") := (oex_of (T.says.fact 90 rfl)).1
theorem Txt.oxi_OutOfRange (T : Txt K mg) : PySem.W.findIn K (.ref (ga K "OutOfRange")) "__init__" = some (some (.ref (ma K (ga K "OutOfRange") "__init__"))) := (oex_of (T.says.fact 90 rfl)).2.1
theorem Txt.oxf_OutOfRange (T : Txt K mg) : PySem.W.typeIn K (.ref (ma K (ga K "OutOfRange") "__init__")) = some (.type "function") := (oex_of (T.says.fact 90 rfl)).2.2
theorem Txt.ox_UnknownKind (T : Txt K mg) : OexC K (ga K "UnknownKind") := (oex_of (T.says.fact 92 rfl)).1
theorem Txt.oxi_UnknownKind (T : Txt K mg) : PySem.W.findIn K (.ref (ga K "UnknownKind")) "__init__" = some (some (.ref (ma K (ga K "UnknownKind") "__init__"))) := (oex_of (T.says.fact 92 rfl)).2.1
theorem Txt.oxf_UnknownKind (T : Txt K mg) : PySem.W.typeIn K (.ref (ma K (ga K "UnknownKind") "__init__")) = some (.type "function") := (oex_of (T.says.fact 92 rfl)).2.2
theorem Txt.xm_UnknownKind_DuesError (T : Txt K mg) : PySem.W.exmOne K (.ref (ga K "UnknownKind")) (.ref (ga K "DuesError")) = some true := of_decide_eq_true (T.says.fact 93 rfl)
theorem Txt.ox_WrongCount (T : Txt K mg) : OexC K (ga K "WrongCount") := (oex_of (T.says.fact 94 rfl)).1
theorem Txt.oxi_WrongCount (T : Txt K mg) : PySem.W.findIn K (.ref (ga K "WrongCount")) "__init__" = some (some (.ref (ma K (ga K "WrongCount") "__init__"))) := (oex_of (T.says.fact 94 rfl)).2.1
theorem Txt.oxf_WrongCount (T : Txt K mg) : PySem.W.typeIn K (.ref (ma K (ga K "WrongCount") "__init__")) = some (.type "function") := (oex_of (T.says.fact 94 rfl)).2.2
theorem Txt.xi_UnknownKind (T : Txt K mg) : ExcC K (ga K "UnknownKind") := xis_of (T.says.fact 97 rfl)
theorem Txt.xk_UnknownKind_UnknownKind (T : Txt K mg) : PySem.W.kitOne K (.ref (ga K "UnknownKind")) (.ref (ga K "UnknownKind")) = some true := of_decide_eq_true (T.says.fact 101 rfl)
theorem Txt.xi_BadRelease (T : Txt K mg) : ExcC K (ga K "BadRelease") := xis_of (T.says.fact 102 rfl)
theorem Txt.xk_BadRelease_BadRelease (T : Txt K mg) : PySem.W.kitOne K (.ref (ga K "BadRelease")) (.ref (ga K "BadRelease")) = some true := of_decide_eq_true (T.says.fact 103 rfl)
theorem Txt.xk_BadRelease_UnknownKind (T : Txt K mg) : PySem.W.kitOne K (.ref (ga K "BadRelease")) (.ref (ga K "UnknownKind")) = some false := of_decide_eq_true (T.says.fact 106 rfl)
theorem Txt.xi_NoArrow (T : Txt K mg) : ExcC K (ga K "NoArrow") := xis_of (T.says.fact 107 rfl)
theorem Txt.xk_NoArrow_BadRelease (T : Txt K mg) : PySem.W.kitOne K (.ref (ga K "NoArrow")) (.ref (ga K "BadRelease")) = some false := of_decide_eq_true (T.says.fact 108 rfl)
theorem Txt.xk_NoArrow_NoArrow (T : Txt K mg) : PySem.W.kitOne K (.ref (ga K "NoArrow")) (.ref (ga K "NoArrow")) = some true := of_decide_eq_true (T.says.fact 110 rfl)
theorem Txt.xk_NoArrow_UnknownKind (T : Txt K mg) : PySem.W.kitOne K (.ref (ga K "NoArrow")) (.ref (ga K "UnknownKind")) = some false := of_decide_eq_true (T.says.fact 111 rfl)
theorem Txt.xi_GapTooShort (T : Txt K mg) : ExcC K (ga K "GapTooShort") := xis_of (T.says.fact 112 rfl)
theorem Txt.xk_GapTooShort_BadRelease (T : Txt K mg) : PySem.W.kitOne K (.ref (ga K "GapTooShort")) (.ref (ga K "BadRelease")) = some false := of_decide_eq_true (T.says.fact 113 rfl)
theorem Txt.xk_GapTooShort_GapTooShort (T : Txt K mg) : PySem.W.kitOne K (.ref (ga K "GapTooShort")) (.ref (ga K "GapTooShort")) = some true := of_decide_eq_true (T.says.fact 114 rfl)
theorem Txt.xk_GapTooShort_NoArrow (T : Txt K mg) : PySem.W.kitOne K (.ref (ga K "GapTooShort")) (.ref (ga K "NoArrow")) = some false := of_decide_eq_true (T.says.fact 115 rfl)
theorem Txt.xk_GapTooShort_UnknownKind (T : Txt K mg) : PySem.W.kitOne K (.ref (ga K "GapTooShort")) (.ref (ga K "UnknownKind")) = some false := of_decide_eq_true (T.says.fact 116 rfl)
theorem Txt.nf_BadCost_place (T : Txt K mg) : PySem.W.findIn K (.ref (ga K "BadCost")) "place" = some none := of_decide_eq_true (T.says.fact 117 rfl)
theorem Txt.nf_BadCost_task (T : Txt K mg) : PySem.W.findIn K (.ref (ga K "BadCost")) "task" = some none := of_decide_eq_true (T.says.fact 118 rfl)
theorem Txt.nf_BadRelease_place (T : Txt K mg) : PySem.W.findIn K (.ref (ga K "BadRelease")) "place" = some none := of_decide_eq_true (T.says.fact 119 rfl)
theorem Txt.nf_BadRelease_task (T : Txt K mg) : PySem.W.findIn K (.ref (ga K "BadRelease")) "task" = some none := of_decide_eq_true (T.says.fact 120 rfl)
theorem Txt.nf_GapTooShort_place (T : Txt K mg) : PySem.W.findIn K (.ref (ga K "GapTooShort")) "place" = some none := of_decide_eq_true (T.says.fact 121 rfl)
theorem Txt.nf_GapTooShort_task (T : Txt K mg) : PySem.W.findIn K (.ref (ga K "GapTooShort")) "task" = some none := of_decide_eq_true (T.says.fact 122 rfl)
theorem Txt.nf_NoArrow_place (T : Txt K mg) : PySem.W.findIn K (.ref (ga K "NoArrow")) "place" = some none := of_decide_eq_true (T.says.fact 123 rfl)
theorem Txt.nf_NoArrow_task (T : Txt K mg) : PySem.W.findIn K (.ref (ga K "NoArrow")) "task" = some none := of_decide_eq_true (T.says.fact 124 rfl)
theorem Txt.nf_OutOfRange_value (T : Txt K mg) : PySem.W.findIn K (.ref (ga K "OutOfRange")) "value" = some none := of_decide_eq_true (T.says.fact 125 rfl)
theorem Txt.nf_OutOfRange_what (T : Txt K mg) : PySem.W.findIn K (.ref (ga K "OutOfRange")) "what" = some none := of_decide_eq_true (T.says.fact 126 rfl)
theorem Txt.nf_UnknownKind_name (T : Txt K mg) : PySem.W.findIn K (.ref (ga K "UnknownKind")) "name" = some none := of_decide_eq_true (T.says.fact 127 rfl)
theorem Txt.nf_WrongCount_count (T : Txt K mg) : PySem.W.findIn K (.ref (ga K "WrongCount")) "count" = some none := of_decide_eq_true (T.says.fact 128 rfl)
theorem Txt.nf_WrongCount_what (T : Txt K mg) : PySem.W.findIn K (.ref (ga K "WrongCount")) "what" = some none := of_decide_eq_true (T.says.fact 129 rfl)
theorem Txt.xf_BadRelease (T : Txt K mg) : XfC K (ga K "BadRelease") := xfB_ok (T.says.fact 130 rfl)
theorem Txt.xf_GapTooShort (T : Txt K mg) : XfC K (ga K "GapTooShort") := xfB_ok (T.says.fact 132 rfl)
theorem Txt.xf_NoArrow (T : Txt K mg) : XfC K (ga K "NoArrow") := xfB_ok (T.says.fact 133 rfl)
theorem Txt.xf_UnknownKind (T : Txt K mg) : XfC K (ga K "UnknownKind") := xfB_ok (T.says.fact 134 rfl)
theorem Txt.t0_Task_init (T : Txt K mg) : tup0B (dflA (fun K => ma K (ga K "Task") "__init__") 0) K = true := T.says.fact 135 rfl
theorem Txt.lam_Run_init (T : Txt K mg) : ∃ c Pt, tabAt K (ma K (ga K "Run") "__init__") "Run.__init__" = some (c, Pt) ∧ (c, Pt, ("Run.__init__" : Str) ++ ".<locals>." ++ "<lambda>") ∈ tbls3 K := lam_of (i := 1) (d := (some "Run", "__init__")) rfl (T.says.fact 136 rfl)
theorem Txt.d_UnknownKind_init (T : Txt K mg) : ∃ fd, FunD K "__init__" "UnknownKind.__init__" (defArgs s_UnknownKind_init) (defBody s_UnknownKind_init) (defScope s_UnknownKind_init) [] [] (ma K (ga K "UnknownKind") "__init__") fd := T.says.def_ 0 (d := da_UnknownKind_init) rfl
theorem Txt.d_OutOfRange_init (T : Txt K mg) : ∃ fd, FunD K "__init__" "OutOfRange.__init__" (defArgs s_OutOfRange_init) (defBody s_OutOfRange_init) (defScope s_OutOfRange_init) [] [] (ma K (ga K "OutOfRange") "__init__") fd := T.says.def_ 1 (d := da_OutOfRange_init) rfl
theorem Txt.d_WrongCount_init (T : Txt K mg) : ∃ fd, FunD K "__init__" "WrongCount.__init__" (defArgs s_WrongCount_init) (defBody s_WrongCount_init) (defScope s_WrongCount_init) [] [] (ma K (ga K "WrongCount") "__init__") fd := T.says.def_ 2 (d := da_WrongCount_init) rfl
theorem Txt.d_BadCost_init (T : Txt K mg) : ∃ fd, FunD K "__init__" "BadCost.__init__" (defArgs s_BadCost_init) (defBody s_BadCost_init) (defScope s_BadCost_init) [] [] (ma K (ga K "BadCost") "__init__") fd := T.says.def_ 3 (d := da_BadCost_init) rfl
theorem Txt.d_BadRelease_init (T : Txt K mg) : ∃ fd, FunD K "__init__" "BadRelease.__init__" (defArgs s_BadRelease_init) (defBody s_BadRelease_init) (defScope s_BadRelease_init) [] [] (ma K (ga K "BadRelease") "__init__") fd := T.says.def_ 4 (d := da_BadRelease_init) rfl
theorem Txt.d_NoArrow_init (T : Txt K mg) : ∃ fd, FunD K "__init__" "NoArrow.__init__" (defArgs s_NoArrow_init) (defBody s_NoArrow_init) (defScope s_NoArrow_init) [] [] (ma K (ga K "NoArrow") "__init__") fd := T.says.def_ 5 (d := da_NoArrow_init) rfl
theorem Txt.d_GapTooShort_init (T : Txt K mg) : ∃ fd, FunD K "__init__" "GapTooShort.__init__" (defArgs s_GapTooShort_init) (defBody s_GapTooShort_init) (defScope s_GapTooShort_init) [] [] (ma K (ga K "GapTooShort") "__init__") fd := T.says.def_ 6 (d := da_GapTooShort_init) rfl
theorem Txt.d_is_name (T : Txt K mg) : ∃ fd, FunD K "is_name" "is_name" (defArgs s_is_name) (defBody s_is_name) (defScope s_is_name) [] [] (ga K "is_name") fd := T.says.def_ 7 (d := da_is_name) rfl
theorem Txt.d_need_name (T : Txt K mg) : ∃ fd, FunD K "need_name" "need_name" (defArgs s_need_name) (defBody s_need_name) (defScope s_need_name) [] [] (ga K "need_name") fd := T.says.def_ 8 (d := da_need_name) rfl
theorem Txt.d_need_range (T : Txt K mg) : ∃ fd, FunD K "need_range" "need_range" (defArgs s_need_range) (defBody s_need_range) (defScope s_need_range) [] [] (ga K "need_range") fd := T.says.def_ 9 (d := da_need_range) rfl
theorem Txt.d_need_kind (T : Txt K mg) : ∃ fd, FunD K "need_kind" "need_kind" (defArgs s_need_kind) (defBody s_need_kind) (defScope s_need_kind) [] [] (ga K "need_kind") fd := T.says.def_ 10 (d := da_need_kind) rfl
theorem Txt.d_checked_kinds (T : Txt K mg) : ∃ fd, FunD K "checked_kinds" "checked_kinds" (defArgs s_checked_kinds) (defBody s_checked_kinds) (defScope s_checked_kinds) [] [] (ga K "checked_kinds") fd := T.says.def_ 11 (d := da_checked_kinds) rfl
theorem Txt.d_checked_arrows (T : Txt K mg) : ∃ fd, FunD K "checked_arrows" "checked_arrows" (defArgs s_checked_arrows) (defBody s_checked_arrows) (defScope s_checked_arrows) [] [] (ga K "checked_arrows") fd := T.says.def_ 12 (d := da_checked_arrows) rfl
theorem Txt.d_Task_init (T : Txt K mg) : ∃ fd, FunD K "__init__" "Task.__init__" (defArgs s_Task_init) (defBody s_Task_init) (defScope s_Task_init) [.ref ((dflA (fun K => ma K (ga K "Task") "__init__") 0) K)] [] (ma K (ga K "Task") "__init__") fd := T.says.def_ 13 (d := da_Task_init) rfl
theorem Txt.d_Task_kinds (T : Txt K mg) : ∃ fd, FunD K "kinds" "Task.kinds" (defArgs s_Task_kinds) (defBody s_Task_kinds) (defScope s_Task_kinds) [] [] (wad K "property" "Task" "kinds") fd := T.says.def_ 14 (d := da_Task_kinds) rfl
theorem Txt.d_Task_row_of (T : Txt K mg) : ∃ fd, FunD K "row_of" "Task.row_of" (defArgs s_Task_row_of) (defBody s_Task_row_of) (defScope s_Task_row_of) [] [] (ma K (ga K "Task") "row_of") fd := T.says.def_ 15 (d := da_Task_row_of) rfl
theorem Txt.d_Task_cost_of (T : Txt K mg) : ∃ fd, FunD K "cost_of" "Task.cost_of" (defArgs s_Task_cost_of) (defBody s_Task_cost_of) (defScope s_Task_cost_of) [] [] (ma K (ga K "Task") "cost_of") fd := T.says.def_ 16 (d := da_Task_cost_of) rfl
theorem Txt.d_Task_deadline_of (T : Txt K mg) : ∃ fd, FunD K "deadline_of" "Task.deadline_of" (defArgs s_Task_deadline_of) (defBody s_Task_deadline_of) (defScope s_Task_deadline_of) [] [] (ma K (ga K "Task") "deadline_of") fd := T.says.def_ 17 (d := da_Task_deadline_of) rfl
theorem Txt.d_Task_followers (T : Txt K mg) : ∃ fd, FunD K "followers" "Task.followers" (defArgs s_Task_followers) (defBody s_Task_followers) (defScope s_Task_followers) [] [] (ma K (ga K "Task") "followers") fd := T.says.def_ 18 (d := da_Task_followers) rfl
theorem Txt.d_gap_between (T : Txt K mg) : ∃ fd, FunD K "gap_between" "gap_between" (defArgs s_gap_between) (defBody s_gap_between) (defScope s_gap_between) [] [] (ga K "gap_between") fd := T.says.def_ 19 (d := da_gap_between) rfl
theorem Txt.d_check_job (T : Txt K mg) : ∃ fd, FunD K "check_job" "check_job" (defArgs s_check_job) (defBody s_check_job) (defScope s_check_job) [] [] (ga K "check_job") fd := T.says.def_ 20 (d := da_check_job) rfl
theorem Txt.d_check_counts (T : Txt K mg) : ∃ fd, FunD K "check_counts" "check_counts" (defArgs s_check_counts) (defBody s_check_counts) (defScope s_check_counts) [] [] (ga K "check_counts") fd := T.says.def_ 21 (d := da_check_counts) rfl
theorem Txt.d_Run_init (T : Txt K mg) : ∃ fd, FunD K "__init__" "Run.__init__" (defArgs s_Run_init) (defBody s_Run_init) (defScope s_Run_init) [] [("grain", .int 1)] (ma K (ga K "Run") "__init__") fd := T.says.def_ 22 (d := da_Run_init) rfl
theorem Txt.d_Run_jobs (T : Txt K mg) : ∃ fd, FunD K "jobs" "Run.jobs" (defArgs s_Run_jobs) (defBody s_Run_jobs) (defScope s_Run_jobs) [] [] (wad K "property" "Run" "jobs") fd := T.says.def_ 23 (d := da_Run_jobs) rfl
theorem Txt.d_kind_demands (T : Txt K mg) : ∃ fd, FunD K "kind_demands" "kind_demands" (defArgs s_kind_demands) (defBody s_kind_demands) (defScope s_kind_demands) [] [] (ga K "kind_demands") fd := T.says.def_ 24 (d := da_kind_demands) rfl
theorem Txt.d_heaviest_kind (T : Txt K mg) : ∃ fd, FunD K "heaviest_kind" "heaviest_kind" (defArgs s_heaviest_kind) (defBody s_heaviest_kind) (defScope s_heaviest_kind) [] [] (ga K "heaviest_kind") fd := T.says.def_ 25 (d := da_heaviest_kind) rfl
theorem Txt.d_next_step (T : Txt K mg) : ∃ fd, FunD K "next_step" "next_step" (defArgs s_next_step) (defBody s_next_step) (defScope s_next_step) [] [] (ga K "next_step") fd := T.says.def_ 26 (d := da_next_step) rfl
theorem Txt.d_heavy_walk (T : Txt K mg) : ∃ fd, FunD K "heavy_walk" "heavy_walk" (defArgs s_heavy_walk) (defBody s_heavy_walk) (defScope s_heavy_walk) [] [] (ga K "heavy_walk") fd := T.says.def_ 27 (d := da_heavy_walk) rfl
theorem Txt.d_need_step (T : Txt K mg) : ∃ fd, FunD K "need_step" "need_step" (defArgs s_need_step) (defBody s_need_step) (defScope s_need_step) [] [] (ga K "need_step") fd := T.says.def_ 28 (d := da_need_step) rfl
theorem Txt.d_walk_demand (T : Txt K mg) : ∃ fd, FunD K "walk_demand" "walk_demand" (defArgs s_walk_demand) (defBody s_walk_demand) (defScope s_walk_demand) [] [] (ga K "walk_demand") fd := T.says.def_ 29 (d := da_walk_demand) rfl
theorem Txt.d_heavy_run (T : Txt K mg) : ∃ fd, FunD K "heavy_run" "heavy_run" (defArgs s_heavy_run) (defBody s_heavy_run) (defScope s_heavy_run) [] [] (ga K "heavy_run") fd := T.says.def_ 30 (d := da_heavy_run) rfl
theorem Txt.d_law_pool (T : Txt K mg) : ∃ fd, FunD K "_law_pool" "_law_pool" (defArgs s_law_pool) (defBody s_law_pool) (defScope s_law_pool) [] [] (ga K "_law_pool") fd := T.says.def_ 31 (d := da_law_pool) rfl
theorem Txt.d_law_draw (T : Txt K mg) : ∃ fd, FunD K "_law_draw" "_law_draw" (defArgs s_law_draw) (defBody s_law_draw) (defScope s_law_draw) [] [] (ga K "_law_draw") fd := T.says.def_ 32 (d := da_law_draw) rfl
theorem Txt.d_law_name (T : Txt K mg) : ∃ fd, FunD K "_law_name" "_law_name" (defArgs s_law_name) (defBody s_law_name) (defScope s_law_name) [] [] (ga K "_law_name") fd := T.says.def_ 33 (d := da_law_name) rfl
theorem Txt.d_law_fresh (T : Txt K mg) : ∃ fd, FunD K "_law_fresh" "_law_fresh" (defArgs s_law_fresh) (defBody s_law_fresh) (defScope s_law_fresh) [] [] (ga K "_law_fresh") fd := T.says.def_ 34 (d := da_law_fresh) rfl
theorem Txt.d_law_near (T : Txt K mg) : ∃ fd, FunD K "_law_near" "_law_near" (defArgs s_law_near) (defBody s_law_near) (defScope s_law_near) [] [] (ga K "_law_near") fd := T.says.def_ 35 (d := da_law_near) rfl
theorem Txt.d_law_number (T : Txt K mg) : ∃ fd, FunD K "_law_number" "_law_number" (defArgs s_law_number) (defBody s_law_number) (defScope s_law_number) [] [] (ga K "_law_number") fd := T.says.def_ 36 (d := da_law_number) rfl
theorem Txt.d_law_spec (T : Txt K mg) : ∃ fd, FunD K "_law_spec" "_law_spec" (defArgs s_law_spec) (defBody s_law_spec) (defScope s_law_spec) [] [] (ga K "_law_spec") fd := T.says.def_ 37 (d := da_law_spec) rfl
theorem Txt.d_law_table (T : Txt K mg) : ∃ fd, FunD K "_law_table" "_law_table" (defArgs s_law_table) (defBody s_law_table) (defScope s_law_table) [] [] (ga K "_law_table") fd := T.says.def_ 38 (d := da_law_table) rfl
theorem Txt.d_law_whole (T : Txt K mg) : ∃ fd, FunD K "_law_whole" "_law_whole" (defArgs s_law_whole) (defBody s_law_whole) (defScope s_law_whole) [] [] (ga K "_law_whole") fd := T.says.def_ 39 (d := da_law_whole) rfl
theorem Txt.d_law_gap (T : Txt K mg) : ∃ fd, FunD K "_law_gap" "_law_gap" (defArgs s_law_gap) (defBody s_law_gap) (defScope s_law_gap) [] [] (ga K "_law_gap") fd := T.says.def_ 40 (d := da_law_gap) rfl
theorem Txt.d_law_due (T : Txt K mg) : ∃ fd, FunD K "_law_due" "_law_due" (defArgs s_law_due) (defBody s_law_due) (defScope s_law_due) [] [] (ga K "_law_due") fd := T.says.def_ 41 (d := da_law_due) rfl
theorem Txt.d_law_told (T : Txt K mg) : ∃ fd, FunD K "_law_told" "_law_told" (defArgs s_law_told) (defBody s_law_told) (defScope s_law_told) [] [] (ga K "_law_told") fd := T.says.def_ 42 (d := da_law_told) rfl
theorem Txt.d_law_is_walk (T : Txt K mg) : ∃ fd, FunD K "_law_is_walk" "_law_is_walk" (defArgs s_law_is_walk) (defBody s_law_is_walk) (defScope s_law_is_walk) [] [] (ga K "_law_is_walk") fd := T.says.def_ 43 (d := da_law_is_walk) rfl
theorem Txt.d_law_is_heavy (T : Txt K mg) : ∃ fd, FunD K "_law_is_heavy" "_law_is_heavy" (defArgs s_law_is_heavy) (defBody s_law_is_heavy) (defScope s_law_is_heavy) [] [] (ga K "_law_is_heavy") fd := T.says.def_ 44 (d := da_law_is_heavy) rfl
theorem Txt.d_law_drawn_walk (T : Txt K mg) : ∃ fd, FunD K "_law_drawn_walk" "_law_drawn_walk" (defArgs s_law_drawn_walk) (defBody s_law_drawn_walk) (defScope s_law_drawn_walk) [] [] (ga K "_law_drawn_walk") fd := T.says.def_ 45 (d := da_law_drawn_walk) rfl
theorem Txt.d_law_spoiled (T : Txt K mg) : ∃ fd, FunD K "_law_spoiled" "_law_spoiled" (defArgs s_law_spoiled) (defBody s_law_spoiled) (defScope s_law_spoiled) [] [] (ga K "_law_spoiled") fd := T.says.def_ 46 (d := da_law_spoiled) rfl
theorem Txt.d_law_all_heavy (T : Txt K mg) : ∃ fd, FunD K "_law_all_heavy" "_law_all_heavy" (defArgs s_law_all_heavy) (defBody s_law_all_heavy) (defScope s_law_all_heavy) [] [] (ga K "_law_all_heavy") fd := T.says.def_ 47 (d := da_law_all_heavy) rfl
theorem Txt.d_law (T : Txt K mg) : ∃ fd, FunD K "law" "law" (defArgs s_law) (defBody s_law) (defScope s_law) [] [] (ga K "law") fd := T.says.def_ 48 (d := da_law) rfl
end
theorem len_is_name {K : Fr0} : ∀ ds m Q E, sp_is_name K ds m Q E → ds.length = (["text"] : List Str).length := by
  intro ds m Q E h
  repeat (first | (obtain ⟨rfl, _⟩ := h; rfl) | (obtain ⟨_, h⟩ := h))
theorem len_need_name {K : Fr0} : ∀ ds m Q E, sp_need_name K ds m Q E → ds.length = (["text"] : List Str).length := by
  intro ds m Q E h
  repeat (first | (obtain ⟨rfl, _⟩ := h; rfl) | (obtain ⟨_, h⟩ := h))
theorem len_need_range {K : Fr0} : ∀ ds m Q E, sp_need_range K ds m Q E → ds.length = (["what", "value", "least", "most"] : List Str).length := by
  intro ds m Q E h
  repeat (first | (obtain ⟨rfl, _⟩ := h; rfl) | (obtain ⟨_, h⟩ := h))
theorem len_need_kind {K : Fr0} : ∀ ds m Q E, sp_need_kind K ds m Q E → ds.length = (["name", "kind_rows"] : List Str).length := by
  intro ds m Q E h
  repeat (first | (obtain ⟨rfl, _⟩ := h; rfl) | (obtain ⟨_, h⟩ := h))
theorem len_checked_kinds {K : Fr0} : ∀ ds m Q E, sp_checked_kinds K ds m Q E → ds.length = (["kinds", "branching"] : List Str).length := by
  intro ds m Q E h
  repeat (first | (obtain ⟨rfl, _⟩ := h; rfl) | (obtain ⟨_, h⟩ := h))
theorem len_checked_arrows {K : Fr0} : ∀ ds m Q E, sp_checked_arrows K ds m Q E → ds.length = (["arrows", "kind_rows"] : List Str).length := by
  intro ds m Q E h
  repeat (first | (obtain ⟨rfl, _⟩ := h; rfl) | (obtain ⟨_, h⟩ := h))
theorem len_Task_init {K : Fr0} : ∀ ds m Q E, sp_Task_init K ds m Q E → ds.length = (["self", "name", "kinds", "arrows"] : List Str).length := by
  intro ds m Q E h
  repeat (first | (obtain ⟨rfl, _⟩ := h; rfl) | (obtain ⟨_, h⟩ := h))
theorem len_Task_kinds {K : Fr0} : ∀ ds m Q E, sp_Task_kinds K ds m Q E → ds.length = (["self"] : List Str).length := by
  intro ds m Q E h
  repeat (first | (obtain ⟨rfl, _⟩ := h; rfl) | (obtain ⟨_, h⟩ := h))
theorem len_Task_row_of {K : Fr0} : ∀ ds m Q E, sp_Task_row_of K ds m Q E → ds.length = (["self", "kind"] : List Str).length := by
  intro ds m Q E h
  repeat (first | (obtain ⟨rfl, _⟩ := h; rfl) | (obtain ⟨_, h⟩ := h))
theorem len_Task_cost_of {K : Fr0} : ∀ ds m Q E, sp_Task_cost_of K ds m Q E → ds.length = (["self", "kind"] : List Str).length := by
  intro ds m Q E h
  repeat (first | (obtain ⟨rfl, _⟩ := h; rfl) | (obtain ⟨_, h⟩ := h))
theorem len_Task_deadline_of {K : Fr0} : ∀ ds m Q E, sp_Task_deadline_of K ds m Q E → ds.length = (["self", "kind"] : List Str).length := by
  intro ds m Q E h
  repeat (first | (obtain ⟨rfl, _⟩ := h; rfl) | (obtain ⟨_, h⟩ := h))
theorem len_Task_followers {K : Fr0} : ∀ ds m Q E, sp_Task_followers K ds m Q E → ds.length = (["self", "kind"] : List Str).length := by
  intro ds m Q E h
  repeat (first | (obtain ⟨rfl, _⟩ := h; rfl) | (obtain ⟨_, h⟩ := h))
theorem len_gap_between {K : Fr0} : ∀ ds m Q E, sp_gap_between K ds m Q E → ds.length = (["task", "first", "second"] : List Str).length := by
  intro ds m Q E h
  repeat (first | (obtain ⟨rfl, _⟩ := h; rfl) | (obtain ⟨_, h⟩ := h))
theorem len_check_job {K : Fr0} : ∀ ds m Q E, sp_check_job K ds m Q E → ds.length = (["task", "walk", "index", "place", "grain"] : List Str).length := by
  intro ds m Q E h
  repeat (first | (obtain ⟨rfl, _⟩ := h; rfl) | (obtain ⟨_, h⟩ := h))
theorem len_check_counts {K : Fr0} : ∀ ds m Q E, sp_check_counts K ds m Q E → ds.length = (["tasks", "walks", "grain"] : List Str).length := by
  intro ds m Q E h
  repeat (first | (obtain ⟨rfl, _⟩ := h; rfl) | (obtain ⟨_, h⟩ := h))
theorem len_Run_init {K : Fr0} : ∀ ds m Q E, sp_Run_init K ds m Q E → ds.length = (["self", "tasks", "walks", "grain"] : List Str).length := by
  intro ds m Q E h
  repeat (first | (obtain ⟨rfl, _⟩ := h; rfl) | (obtain ⟨_, h⟩ := h))
theorem len_Run_jobs {K : Fr0} : ∀ ds m Q E, sp_Run_jobs K ds m Q E → ds.length = (["self"] : List Str).length := by
  intro ds m Q E h
  repeat (first | (obtain ⟨rfl, _⟩ := h; rfl) | (obtain ⟨_, h⟩ := h))
theorem len_kind_demands {K : Fr0} : ∀ ds m Q E, sp_kind_demands K ds m Q E → ds.length = (["task", "ticks"] : List Str).length := by
  intro ds m Q E h
  repeat (first | (obtain ⟨rfl, _⟩ := h; rfl) | (obtain ⟨_, h⟩ := h))
theorem len_heaviest_kind {K : Fr0} : ∀ ds m Q E, sp_heaviest_kind K ds m Q E → ds.length = (["table", "kinds", "at"] : List Str).length := by
  intro ds m Q E h
  repeat (first | (obtain ⟨rfl, _⟩ := h; rfl) | (obtain ⟨_, h⟩ := h))
theorem len_next_step {K : Fr0} : ∀ ds m Q E, sp_next_step K ds m Q E → ds.length = (["table", "followers", "left"] : List Str).length := by
  intro ds m Q E h
  repeat (first | (obtain ⟨rfl, _⟩ := h; rfl) | (obtain ⟨_, h⟩ := h))
theorem len_heavy_walk {K : Fr0} : ∀ ds m Q E, sp_heavy_walk K ds m Q E → ds.length = (["task", "ticks"] : List Str).length := by
  intro ds m Q E h
  repeat (first | (obtain ⟨rfl, _⟩ := h; rfl) | (obtain ⟨_, h⟩ := h))
theorem len_need_step {K : Fr0} : ∀ ds m Q E, sp_need_step K ds m Q E → ds.length = (["task", "walk", "place"] : List Str).length := by
  intro ds m Q E h
  repeat (first | (obtain ⟨rfl, _⟩ := h; rfl) | (obtain ⟨_, h⟩ := h))
theorem len_walk_demand {K : Fr0} : ∀ ds m Q E, sp_walk_demand K ds m Q E → ds.length = (["task", "walk", "ticks"] : List Str).length := by
  intro ds m Q E h
  repeat (first | (obtain ⟨rfl, _⟩ := h; rfl) | (obtain ⟨_, h⟩ := h))
theorem len_heavy_run {K : Fr0} : ∀ ds m Q E, sp_heavy_run K ds m Q E → ds.length = (["tasks", "ticks"] : List Str).length := by
  intro ds m Q E h
  repeat (first | (obtain ⟨rfl, _⟩ := h; rfl) | (obtain ⟨_, h⟩ := h))
theorem len_law_pool {K : Fr0} : ∀ ds m Q E, sp_law_pool K ds m Q E → ds.length = (["_law_script"] : List Str).length := by
  intro ds m Q E h
  repeat (first | (obtain ⟨rfl, _⟩ := h; rfl) | (obtain ⟨_, h⟩ := h))
theorem len_law_draw {K : Fr0} : ∀ ds m Q E, sp_law_draw K ds m Q E → ds.length = (["_law_pool_here", "_law_limit"] : List Str).length := by
  intro ds m Q E h
  repeat (first | (obtain ⟨rfl, _⟩ := h; rfl) | (obtain ⟨_, h⟩ := h))
theorem len_law_name {K : Fr0} : ∀ ds m Q E, sp_law_name K ds m Q E → ds.length = (["_law_pool_here"] : List Str).length := by
  intro ds m Q E h
  repeat (first | (obtain ⟨rfl, _⟩ := h; rfl) | (obtain ⟨_, h⟩ := h))
theorem len_law_fresh {K : Fr0} : ∀ ds m Q E, sp_law_fresh K ds m Q E → ds.length = (["_law_word", "_law_taken"] : List Str).length := by
  intro ds m Q E h
  repeat (first | (obtain ⟨rfl, _⟩ := h; rfl) | (obtain ⟨_, h⟩ := h))
theorem len_law_near {K : Fr0} : ∀ ds m Q E, sp_law_near K ds m Q E → ds.length = (["_law_pool_here", "_law_taken"] : List Str).length := by
  intro ds m Q E h
  repeat (first | (obtain ⟨rfl, _⟩ := h; rfl) | (obtain ⟨_, h⟩ := h))
theorem len_law_number {K : Fr0} : ∀ ds m Q E, sp_law_number K ds m Q E → ds.length = (["_law_pool_here", "_law_most"] : List Str).length := by
  intro ds m Q E h
  repeat (first | (obtain ⟨rfl, _⟩ := h; rfl) | (obtain ⟨_, h⟩ := h))
theorem len_law_spec {K : Fr0} : ∀ ds m Q E, sp_law_spec K ds m Q E → ds.length = (["_law_pool_here"] : List Str).length := by
  intro ds m Q E h
  repeat (first | (obtain ⟨rfl, _⟩ := h; rfl) | (obtain ⟨_, h⟩ := h))
theorem len_law_table {K : Fr0} : ∀ ds m Q E, sp_law_table K ds m Q E → ds.length = (["_law_spec_here", "_law_ticks"] : List Str).length := by
  intro ds m Q E h
  repeat (first | (obtain ⟨rfl, _⟩ := h; rfl) | (obtain ⟨_, h⟩ := h))
theorem len_law_whole {K : Fr0} : ∀ ds m Q E, sp_law_whole K ds m Q E → ds.length = (["_law_x"] : List Str).length := by
  intro ds m Q E h
  repeat (first | (obtain ⟨rfl, _⟩ := h; rfl) | (obtain ⟨_, h⟩ := h))
theorem len_law_gap {K : Fr0} : ∀ ds m Q E, sp_law_gap K ds m Q E → ds.length = (["_law_spec_here", "_law_first", "_law_second"] : List Str).length := by
  intro ds m Q E h
  repeat (first | (obtain ⟨rfl, _⟩ := h; rfl) | (obtain ⟨_, h⟩ := h))
theorem len_law_due {K : Fr0} : ∀ ds m Q E, sp_law_due K ds m Q E → ds.length = (["_law_spec_here", "_law_walk", "_law_ticks"] : List Str).length := by
  intro ds m Q E h
  repeat (first | (obtain ⟨rfl, _⟩ := h; rfl) | (obtain ⟨_, h⟩ := h))
theorem len_law_told {K : Fr0} : ∀ ds m Q E, sp_law_told K ds m Q E → ds.length = (["_law_task", "_law_walk", "_law_ticks"] : List Str).length := by
  intro ds m Q E h
  repeat (first | (obtain ⟨rfl, _⟩ := h; rfl) | (obtain ⟨_, h⟩ := h))
theorem len_law_is_walk {K : Fr0} : ∀ ds m Q E, sp_law_is_walk K ds m Q E → ds.length = (["_law_walk"] : List Str).length := by
  intro ds m Q E h
  repeat (first | (obtain ⟨rfl, _⟩ := h; rfl) | (obtain ⟨_, h⟩ := h))
theorem len_law_is_heavy {K : Fr0} : ∀ ds m Q E, sp_law_is_heavy K ds m Q E → ds.length = (["_law_walk", "_law_spec_here", "_law_most", "_law_ticks"] : List Str).length := by
  intro ds m Q E h
  repeat (first | (obtain ⟨rfl, _⟩ := h; rfl) | (obtain ⟨_, h⟩ := h))
theorem len_law_drawn_walk {K : Fr0} : ∀ ds m Q E, sp_law_drawn_walk K ds m Q E → ds.length = (["_law_pool_here", "_law_spec_here"] : List Str).length := by
  intro ds m Q E h
  repeat (first | (obtain ⟨rfl, _⟩ := h; rfl) | (obtain ⟨_, h⟩ := h))
theorem len_law_spoiled {K : Fr0} : ∀ ds m Q E, sp_law_spoiled K ds m Q E → ds.length = (["_law_pool_here", "_law_spec_here", "_law_walk"] : List Str).length := by
  intro ds m Q E h
  repeat (first | (obtain ⟨rfl, _⟩ := h; rfl) | (obtain ⟨_, h⟩ := h))
theorem len_law_all_heavy {K : Fr0} : ∀ ds m Q E, sp_law_all_heavy K ds m Q E → ds.length = (["_law_tasks", "_law_specs", "_law_ticks"] : List Str).length := by
  intro ds m Q E h
  repeat (first | (obtain ⟨rfl, _⟩ := h; rfl) | (obtain ⟨_, h⟩ := h))
end LW

set_option Elab.async false
set_option linter.all false
set_option maxRecDepth 100000
set_option maxHeartbeats 0
namespace LW
open PySem PySem.Spec PyProof.Rows L2 DL RowM
open He (ga ma)
abbrev R : PySem.W.OpenRow := PySem.W.OpenLaw.row PySem.Challenge.rw_walkdues_k18_heavy_walks
def adrs : List Addr := List.range 1500
abbrev hk : PySem.W.Hook := hookL adrs fa fn
def ob (s : PySem.W.SharedT) : Bool × AlA := obsLG adrs fa fn (HandSHeadRun.getT s)
theorem ob_eq (s : PySem.W.SharedT) : ob s = hk.obs s.abs := obsLG_eq (HandSHeadRun.getT_eq s)
def loose : List Str := (["_wall", "__name__", "DuesError", "BadName", "WrongCount", "OutOfRange", "Repeated", "RepeatedArrow", "UnknownKind", "BadCost", "BadRelease", "NoArrow", "GapTooShort", "GRAIN_LIMIT", "JOB_LIMIT", "gap_between", "check_job", "check_counts", "Run", "kind_demands"] : List Str) ++ (["heaviest_kind", "next_step", "heavy_walk", "need_step", "walk_demand", "heavy_run", "LETTERS", "OTHER_SIGNS", "LONGEST_NAME", "MOST_KINDS", "MOST_ARROWS", "MOST_GAP", "is_name", "need_name", "need_range", "need_kind", "checked_kinds", "checked_arrows", "Task", "_law_pool"] : List Str) ++ (["_law_draw", "_law_name", "_law_fresh", "_law_near", "_law_number", "_law_spec", "_law_table", "_law_whole", "_law_gap", "_law_due", "_law_told", "_law_is_walk", "_law_is_heavy", "_law_drawn_walk", "_law_spoiled", "_law_all_heavy"] : List Str)
open PySem.W HandSHeadRun in
theorem run1 (w : World) (os : OsState) : (endF (stepQ (denQ tabQ) R.prog w) 6000 R.prog w os).map (fun s => (looksF R.prog (boot_heap w.params) s.abs, seenQ (PySem.W.view R.prog [60]) loose (importedModules R.prog.main.body) (fun s => xlAt (PySem.W.view R.prog [60]) [] s && recOk R.toRowW.records s) s.abs)) = some (true, openGood (PySem.W.view R.prog [60]) loose) := by
  kernel_rfl
open PySem.W HandSHeadRun in
theorem run2 (w : World) (os : OsState) : (endF (stepQ (denQ tabQ) R.prog w) 6000 R.prog w os).map (fun s => obsLG adrs fa [] (HandSHeadRun.getT s)) = some (true, valA []) := by
  kernel_rfl
open PySem.W HandSHeadRun in
theorem run3 (w : World) (os : OsState) : (endF (stepQ (denQ tabQ) R.prog w) 6000 R.prog w os).map (fun s => obsLG adrs [] fn (HandSHeadRun.getT s)) = some (true, valA fn) := by
  kernel_rfl
theorem run (w : World) : HandSHeadRun.RunEq R (PySem.W.view R.prog [60]) hk ob 6000 loose w := run_join (run1 w) (run2 w) (run3 w)
end LW

set_option Elab.async false
set_option linter.all false
set_option maxRecDepth 100000
set_option maxHeartbeats 4000000
namespace LW
open PySem PySem.Spec PyProof.Rows L2 DL RowM
open He (ga ma)
local macro_rules | `(tactic| walk_at "zs") => `(tactic| try simp only [dIfS, dTest, dOp, dVar, dC, dCB, daCons, daNil, dSet, dRet, dNext, dDrop, dAsg, dPar, dAug, dAddI, dBreak, dCont, dRetN, slot, dLen, dCmpI, dSub, dAdd, dMul, dDiv, dMod, dPow, dNeg, dUn, dIx, dInt1, dAbs, dChain, dAnd, dOr, dNot, dAndV, dOrV, dNotV, dTru, dTruB, dIf, dTup, dLst, mkL, dSlice, dSl, doNone, doSome, dSum, dAll, dAny, dList, dTuple, dMax, dMin, eq_ii, ne_ii, eq_ss, ne_ss, eq_bb, ne_bb, eq_nn, ne_nn, dIsN, dNotN, dFgt, dIsB, dNotB, gN, gT, gsNil, gsCons, gSet, dBM, dAppend, dClear, dFld, dFldS, dProp, dCall, dMeth, dMake, dMakeN, daStar, dDictP, dCallO, dFor, dLc, diR1, diR2, diR3, diL, diT, diRv, diS, diE, dFmt, dFStr, dJs, dCallN, dFrzE, frz_l, in_ss, notin_ss, drR1, drR2, dListR, dRaise, dRaise0, dTryAs, dTry, dXf, dAddO, dInO, isL, insOf, Option.some.injEq, List.cons.injEq, D.int.injEq, D.bl.injEq, D.str.injEq, D.lst.injEq, D.tup.injEq, D.ref.injEq, MO.lst.injEq, MO.ins.injEq, mset_mset, and_true, true_and, and_self, and_assoc, exists_eq_left', exists_eq_left, exists_and_left, exists_and_right, exists_eq', List.set_cons_zero, List.set_cons_succ, decide_eq_true_eq, sqOf, lsOf, List.length_cons, List.length_nil, sizeLine_eq, List.append_nil, List.cons_append, List.nil_append, if_true, if_false, Bool.false_eq_true, reduceCtorEq, reduceIte, Nat.reduceAdd, Nat.reduceLeDiff, mset_same, Option.bind_some, List.length_map, Prod.mk.injEq, at0, at1, at2, at3, at4, at5, at6, at7, ix30, ix31, ix32, ix20, ix21, ix10, isi_ii, isi_ib, isi_ll, isi_bb, isi_ss, isi_tt, isi_is, isi_si, Bool.not_true, Bool.not_false])
local macro_rules | `(tactic| walk_at "zS") => `(tactic| try simp only [dSeq, dIfS, dTest, dOp, dVar, dC, dCB, daCons, daNil, dSet, dRet, dNext, dDrop, dAsg, dPar, dAug, dAddI, dBreak, dCont, dRetN, slot, dLen, dCmpI, dSub, dAdd, dMul, dDiv, dMod, dPow, dNeg, dUn, dIx, dInt1, dAbs, dChain, dAnd, dOr, dNot, dAndV, dOrV, dNotV, dTru, dTruB, dIf, dTup, dLst, mkL, dSlice, dSl, doNone, doSome, dSum, dAll, dAny, dList, dTuple, dMax, dMin, eq_ii, ne_ii, eq_ss, ne_ss, eq_bb, ne_bb, eq_nn, ne_nn, dIsN, dNotN, dFgt, dIsB, dNotB, gN, gT, gsNil, gsCons, gSet, dBM, dAppend, dClear, dFld, dFldS, dProp, dCall, dMeth, dMake, dMakeN, daStar, dDictP, dCallO, dFor, dLc, diR1, diR2, diR3, diL, diT, diRv, diS, diE, dFmt, dFStr, dJs, dCallN, dFrzE, frz_l, in_ss, notin_ss, drR1, drR2, dListR, dRaise, dRaise0, dTryAs, dTry, dXf, dAddO, dInO, isL, insOf, Option.some.injEq, List.cons.injEq, D.int.injEq, D.bl.injEq, D.str.injEq, D.lst.injEq, D.tup.injEq, D.ref.injEq, MO.lst.injEq, MO.ins.injEq, mset_mset, and_true, true_and, and_self, and_assoc, exists_eq_left', exists_eq_left, exists_and_left, exists_and_right, exists_eq', List.set_cons_zero, List.set_cons_succ, decide_eq_true_eq, sqOf, lsOf, List.length_cons, List.length_nil, sizeLine_eq, List.append_nil, List.cons_append, List.nil_append, if_true, if_false, Bool.false_eq_true, reduceCtorEq, reduceIte, Nat.reduceAdd, Nat.reduceLeDiff, mset_same, Option.bind_some, List.length_map, Prod.mk.injEq, at0, at1, at2, at3, at4, at5, at6, at7, ix30, ix31, ix32, ix20, ix21, ix10, isi_ii, isi_ib, isi_ll, isi_bb, isi_ss, isi_tt, isi_is, isi_si, Bool.not_true, Bool.not_false])
local macro_rules | `(tactic| walk_at "zn") => `(tactic| ((try simp only [dSeq]); (try simp only [dIfS, dTest, dOp, dVar, dC, dCB, daCons, daNil, dSet, dRet, dNext, dDrop, dAsg, dPar, dAug, dAddI, dBreak, dCont, dRetN, slot, dLen, dCmpI, dSub, dAdd, dMul, dDiv, dMod, dPow, dNeg, dUn, dIx, dInt1, dAbs, dChain, dAnd, dOr, dNot, dAndV, dOrV, dNotV, dTru, dTruB, dIf, dTup, dLst, mkL, dSlice, dSl, doNone, doSome, dSum, dAll, dAny, dList, dTuple, dMax, dMin, eq_ii, ne_ii, eq_ss, ne_ss, eq_bb, ne_bb, eq_nn, ne_nn, dIsN, dNotN, dFgt, dIsB, dNotB, gN, gT, gsNil, gsCons, gSet, dBM, dAppend, dClear, dFld, dFldS, dProp, dCall, dMeth, dMake, dMakeN, daStar, dDictP, dCallO, dFor, dLc, diR1, diR2, diR3, diL, diT, diRv, diS, diE, dFmt, dFStr, dJs, dCallN, dFrzE, frz_l, in_ss, notin_ss, drR1, drR2, dListR, dRaise, dRaise0, dTryAs, dTry, dXf, dAddO, dInO, isL, insOf, Option.some.injEq, List.cons.injEq, D.int.injEq, D.bl.injEq, D.str.injEq, D.lst.injEq, D.tup.injEq, D.ref.injEq, MO.lst.injEq, MO.ins.injEq, mset_mset, and_true, true_and, and_self, and_assoc, exists_eq_left', exists_eq_left, exists_and_left, exists_and_right, exists_eq', List.set_cons_zero, List.set_cons_succ, decide_eq_true_eq, sqOf, lsOf, List.length_cons, List.length_nil, sizeLine_eq, List.append_nil, List.cons_append, List.nil_append, if_true, if_false, Bool.false_eq_true, reduceCtorEq, reduceIte, Nat.reduceAdd, Nat.reduceLeDiff, mset_same, Option.bind_some, List.length_map, Prod.mk.injEq, at0, at1, at2, at3, at4, at5, at6, at7, ix30, ix31, ix32, ix20, ix21, ix10, isi_ii, isi_ib, isi_ll, isi_bb, isi_ss, isi_tt, isi_is, isi_si, Bool.not_true, Bool.not_false])))
theorem pure_is_name {K : Fr0} {mg : Str → Option Value} (T : Txt K mg) (ds : List D) (m : M) (Q : D → M → Prop) (E : XD → M → Prop) (h : sp_is_name K ds m Q E) : t_is_name K (fun x _ m => E x m) { nx := fun _ m => Q .non m, rt := Q } (startD nm_is_name ds) m := by
  obtain ⟨z, rfl, hz, q⟩ := h
  show t_is_name K _ _ [some (.str z), none] m
  unfold t_is_name
  walk_at "zn"
  refine ⟨by omega, ?_⟩
  have el : z.length = z.cps.size := rfl
  rw [el] at *
  unfold nameB at q
  by_cases h1 : 1 ≤ z.cps.size
  · rw [if_pos (by omega)]
    by_cases h2 : z.cps.size ≤ 12
    · rw [if_neg (by simp; omega)]
      refine ⟨by omega, ?_⟩
      obtain ⟨c, rest, hl⟩ : ∃ c rest, z.cps.toList = c :: rest := by
        cases e : z.cps.toList with
        | nil =>
          have : z.cps.size = 0 := by rw [← Array.length_toList, e]; rfl
          omega
        | cons c rest => exact ⟨c, rest, rfl⟩
      refine ⟨c, by rw [hl]; exact atI_nat (j := 0) rfl, ?_⟩
      rw [hl] at q
      dsimp only at q
      show (if (!inS LETTERS ⟨#[c]⟩) = true then _ else _)
      cases hc : inS LETTERS ⟨#[c]⟩ with
      | false =>
        rw [if_pos (by simp)]
        simpa [hc] using q
      | true =>
        rw [if_neg (by simp)]
        refine lc_pure (fun d => match d with | .str i => .bl (inS LETTERS i || inS SIGNS i) | _ => .non) (by rw [chars_len, sizeLine_eq]; simp; omega) (fun x hx => ?_) ?_
        · obtain ⟨c2, hc2, rfl⟩ := List.mem_map.mp hx
          refine ⟨_, rfl, fun Q' q' => ?_⟩
          simp only [wipeD]
          walk_at "zs"
          show (if inS LETTERS ⟨#[c2]⟩ = true then Q' (.bl true) m else Q' (.bl (inS SIGNS ⟨#[c2]⟩)) m)
          cases hc3 : inS LETTERS ⟨#[c2]⟩ with
          | true => rw [if_pos rfl]; simpa [hc3] using q'
          | false => rw [if_neg (by simp)]; simpa [hc3] using q'
        · refine ⟨(c :: rest).map fun c => inS LETTERS ⟨#[c]⟩ || inS SIGNS ⟨#[c]⟩, ?_, ?_⟩
          · unfold chars
            rw [hl, List.nil_append, List.map_map, List.map_map]
            rfl
          · rw [List.all_map]
            rw [hc, decide_eq_true ⟨h1, h2⟩, Bool.true_and, Bool.true_and] at q
            exact q
    · rw [if_pos (by simp; omega)]
      rw [decide_eq_false (by omega), Bool.false_and, Bool.false_and] at q
      exact q
  · rw [if_neg (by omega)]
    rw [decide_eq_false (by omega), Bool.false_and, Bool.false_and] at q
    exact q
theorem pm_a {a b : Addr} {s : PS} {m : M} : pm a b s m a = some (.lst [.ref b, .int s.v, .int s.k]) := mset_same
theorem pm_b {a b : Addr} {s : PS} {m : M} (h : a ≠ b) : pm a b s m b = some (.lst (s.ns.map D.int)) := by
  unfold pm
  rw [mset_ne (fun e => h e.symm), mset_same]
theorem pm_ne {a b c : Addr} {s : PS} {m : M} (h : c ≠ a) (h2 : c ≠ b) : pm a b s m c = m c := by
  unfold pm
  rw [mset_ne h, mset_ne h2]
theorem pm_free {a b c : Addr} {s : PS} {m : M} (h : pm a b s m c = none) : c ≠ a ∧ c ≠ b ∧ m c = none := by
  have h1 : c ≠ a := fun e => by rw [e, pm_a] at h; cases h
  have h2 : c ≠ b := fun e => by
    unfold pm at h
    rw [mset_ne h1, e, mset_same] at h
    cases h
  exact ⟨h1, h2, by rw [pm_ne h1 h2] at h; exact h⟩
theorem pm_mset {a b c : Addr} {s : PS} {m : M} {o : MO} (h : c ≠ a) (h2 : c ≠ b) : mset (pm a b s m) c o = pm a b s (mset m c o) := by
  unfold pm
  rw [mset_comm (fun e => h e.symm), mset_comm (fun e => h2 e.symm)]
theorem pm_mdel {a b c : Addr} {s : PS} {m : M} (h : c ≠ a) (h2 : c ≠ b) : mdel (pm a b s m) c = pm a b s (mdel m c) := by
  unfold pm
  rw [mdel_mset_ne h, mdel_mset_ne h2]
theorem pm_wb {a b : Addr} {s : PS} {m : M} {ns : List Int} (h : a ≠ b) : mset (pm a b s m) b (.lst (ns.map D.int)) = pm a b ⟨ns, s.v, s.k⟩ m := by
  unfold pm
  rw [mset_comm h, mset_mset]
theorem pm_wa {a b : Addr} {s : PS} {m : M} {v k : Int} : mset (pm a b s m) a (.lst [.ref b, .int v, .int k]) = pm a b ⟨s.ns, v, k⟩ m := by
  unfold pm
  rw [mset_mset]
theorem pure_law_pool {K : Fr0} {mg : Str → Option Value} (T : Txt K mg) (ds : List D) (m : M) (Q : D → M → Prop) (E : XD → M → Prop) (h : sp_law_pool K ds m Q E) : t_law_pool K (fun x _ m => E x m) { nx := fun _ m => Q .non m, rt := Q } (startD nm_law_pool ds) m := by
  obtain ⟨ns, rfl, hl, q⟩ := h
  show t_law_pool K _ _ [some (.rdl (ns.map D.int)), none, none] m
  unfold t_law_pool
  walk_at "zn"
  walk_at "zn"
  obtain ⟨P, hP⟩ : ∃ P : Nat → DSt → M → Prop, ∀ j r m', P j r m' ↔ m' = m ∧ ∃ v o2, 0 ≤ v ∧ v < 2147483647 ∧ r = [some (.rdl (ns.map D.int)), some (.int v), o2] := ⟨_, fun _ _ _ => Iff.rfl⟩
  refine ⟨P, (hP _ _ _).mpr ⟨rfl, 1, _, by omega, by omega, rfl⟩, ?_, ?_⟩
  · intro j d r m' hd hp
    obtain ⟨rfl, v, o2, v0, v1, rfl⟩ := (hP _ _ _).mp hp
    rw [List.getElem?_map] at hd
    cases e : ns[j]? with
    | none => rw [e] at hd; cases hd
    | some c =>
      rw [e] at hd
      cases hd
      walk_at "zs"
      exact ⟨mul_small (by omega), by omega, (hP _ _ _).mpr ⟨rfl, _, _, Int.emod_nonneg _ (by omega), Int.emod_lt_of_pos _ (by omega), rfl⟩⟩
  intro r m' hp
  obtain ⟨rfl, v, o2, v0, v1, rfl⟩ := (hP _ _ _).mp hp
  walk_at "zs"
  refine lc_filter (fun d => match d with | .int c => decide ((10 : Int) ^ Int.toNat 18 ≤ c) | _ => false) (fun d => d) (by rw [sizeLine_eq]; simp; omega) (fun x hx => ?_) ?_
  · obtain ⟨c, hc, rfl⟩ := List.mem_map.mp hx
    refine ⟨_, rfl, fun Q' q' => ?_, fun _ Q' q' => ?_⟩
    · simp only [wipeD]
      walk_at "zs"
      exact ⟨⟨by omega, by omega, by decide⟩, q'⟩
    · simp only [wipeD]
      walk_at "zs"
      exact q'
  intro b hb
  walk_at "zs"
  intro a ha
  have hab : a ≠ b := fun e => by rw [e, mset_same] at ha; cases ha
  rw [mset_ne hab] at ha
  have e := q a b ⟨ns.filter fun c => decide ((10 : Int) ^ Int.toNat 18 ≤ c), v, 0⟩ ha hb ⟨hab, v0, v1, by show (0 : Int) ≤ 0; omega, by show (0 : Int) ≤ 0; omega⟩
  have e2 : List.map (fun d => d) (List.filter (fun d => match d with | .int c => decide ((10 : Int) ^ Int.toNat 18 ≤ c) | _ => false) (ns.map D.int)) = (ns.filter fun c => decide ((10 : Int) ^ Int.toNat 18 ≤ c)).map D.int := by
    rw [List.map_id'', List.filter_map]
    · rfl
    · intro x
      rfl
  rw [e2]
  exact e
theorem ixN_zero {n : Nat} : ixN (n + 1) 0 = some 0 := by
  unfold ixN
  simp
theorem seqIndex_zero {n : Nat} : seqIndex? 0 (n + 1) = some 0 := by
  unfold seqIndex?
  simp
theorem pure_law_draw {K : Fr0} {mg : Str → Option Value} (T : Txt K mg) (ds : List D) (m : M) (Q : D → M → Prop) (E : XD → M → Prop) (h : sp_law_draw K ds m Q E) : t_law_draw K (fun x _ m => E x m) { nx := fun _ m => Q .non m, rt := Q } (startD nm_law_draw ds) m := by
  obtain ⟨a, b, s, n, lim, m0, rfl, rfl, hp, hn, ⟨l1, l2⟩, q⟩ := h
  have hv0 := hp.v0
  have hv1 := hp.v1
  have hk0 := hp.k0
  have hkn := hp.kn
  show t_law_draw K _ _ [some (.ref a), some (.int lim), none, none, none, none] _
  unfold t_law_draw
  try simp only [dSeq]
  try simp only [dIfS, dTest, dOp, dVar, dC, dCB, daCons, daNil, dSet, dRet, dNext, dDrop, dAsg, dPar, dAug, dAddI, dBreak, dCont, dRetN, slot, dLen, dCmpI, dSub, dAdd, dMul, dDiv, dMod, dPow, dNeg, dUn, dIx, dInt1, dAbs, dChain, dAnd, dOr, dNot, dAndV, dOrV, dNotV, dTru, dTruB, dIf, dTup, dLst, mkL, dSlice, dSl, doNone, doSome, dSum, dAll, dAny, dList, dTuple, dMax, dMin, eq_ii, ne_ii, eq_ss, ne_ss, eq_bb, ne_bb, eq_nn, ne_nn, dIsN, dNotN, dFgt, dIsB, dNotB, gN, gT, gsNil, gsCons, gSet, dBM, dAppend, dClear, dFld, dFldS, dProp, dCall, dMeth, dMake, dMakeN, daStar, dDictP, dCallO, dFor, dLc, diR1, diR2, diR3, diL, diT, diRv, diS, diE, dFmt, dFStr, dJs, dCallN, dFrzE, frz_l, in_ss, notin_ss, drR1, drR2, dListR, dRaise, dRaise0, dTryAs, dTry, dXf, dAddO, dInO, isL, insOf, Option.some.injEq, List.cons.injEq, D.int.injEq, D.bl.injEq, D.str.injEq, D.lst.injEq, D.tup.injEq, D.ref.injEq, MO.lst.injEq, MO.ins.injEq, mset_mset, and_true, true_and, and_self, and_assoc, exists_eq_left', exists_eq_left, exists_and_left, exists_and_right, exists_eq', List.set_cons_zero, List.set_cons_succ, decide_eq_true_eq, sqOf, lsOf, List.length_cons, List.length_nil, sizeLine_eq, List.append_nil, List.cons_append, List.nil_append, if_true, if_false, Bool.false_eq_true, reduceCtorEq, reduceIte, Nat.reduceAdd, Nat.reduceLeDiff, mset_same, Option.bind_some, List.length_map, Prod.mk.injEq, at0, at1, at2, at3, at4, at5, at6, at7, ix30, ix31, ix32, ix20, ix21, ix10, isi_ii, isi_ib, isi_ll, isi_bb, isi_ss, isi_tt, isi_is, isi_si, Bool.not_true, Bool.not_false, pm_a]
  simp only [dSeq]
  walk_at "zs"
  refine dNe_ints (ns := s.ns) (ms := []) (lsOf_ref (pm_b hp.ne)) rfl ?_
  cases hns : s.ns with
  | nil =>
    refine ⟨_, rfl, ?_⟩
    rw [if_neg (by simp)]
    try simp only [dSeq]
    try simp only [dIfS, dTest, dOp, dVar, dC, dCB, daCons, daNil, dSet, dRet, dNext, dDrop, dAsg, dPar, dAug, dAddI, dBreak, dCont, dRetN, slot, dLen, dCmpI, dSub, dAdd, dMul, dDiv, dMod, dPow, dNeg, dUn, dIx, dInt1, dAbs, dChain, dAnd, dOr, dNot, dAndV, dOrV, dNotV, dTru, dTruB, dIf, dTup, dLst, mkL, dSlice, dSl, doNone, doSome, dSum, dAll, dAny, dList, dTuple, dMax, dMin, eq_ii, ne_ii, eq_ss, ne_ss, eq_bb, ne_bb, eq_nn, ne_nn, dIsN, dNotN, dFgt, dIsB, dNotB, gN, gT, gsNil, gsCons, gSet, dBM, dAppend, dClear, dFld, dFldS, dProp, dCall, dMeth, dMake, dMakeN, daStar, dDictP, dCallO, dFor, dLc, diR1, diR2, diR3, diL, diT, diRv, diS, diE, dFmt, dFStr, dJs, dCallN, dFrzE, frz_l, in_ss, notin_ss, drR1, drR2, dListR, dRaise, dRaise0, dTryAs, dTry, dXf, dAddO, dInO, isL, insOf, Option.some.injEq, List.cons.injEq, D.int.injEq, D.bl.injEq, D.str.injEq, D.lst.injEq, D.tup.injEq, D.ref.injEq, MO.lst.injEq, MO.ins.injEq, mset_mset, and_true, true_and, and_self, and_assoc, exists_eq_left', exists_eq_left, exists_and_left, exists_and_right, exists_eq', List.set_cons_zero, List.set_cons_succ, decide_eq_true_eq, sqOf, lsOf, List.length_cons, List.length_nil, sizeLine_eq, List.append_nil, List.cons_append, List.nil_append, if_true, if_false, Bool.false_eq_true, reduceCtorEq, reduceIte, Nat.reduceAdd, Nat.reduceLeDiff, mset_same, Option.bind_some, List.length_map, Prod.mk.injEq, at0, at1, at2, at3, at4, at5, at6, at7, ix30, ix31, ix32, ix20, ix21, ix10, isi_ii, isi_ib, isi_ll, isi_bb, isi_ss, isi_tt, isi_is, isi_si, Bool.not_true, Bool.not_false, pm_a, pm_wa]
    try simp only [dSeq]
    try simp only [dIfS, dTest, dOp, dVar, dC, dCB, daCons, daNil, dSet, dRet, dNext, dDrop, dAsg, dPar, dAug, dAddI, dBreak, dCont, dRetN, slot, dLen, dCmpI, dSub, dAdd, dMul, dDiv, dMod, dPow, dNeg, dUn, dIx, dInt1, dAbs, dChain, dAnd, dOr, dNot, dAndV, dOrV, dNotV, dTru, dTruB, dIf, dTup, dLst, mkL, dSlice, dSl, doNone, doSome, dSum, dAll, dAny, dList, dTuple, dMax, dMin, eq_ii, ne_ii, eq_ss, ne_ss, eq_bb, ne_bb, eq_nn, ne_nn, dIsN, dNotN, dFgt, dIsB, dNotB, gN, gT, gsNil, gsCons, gSet, dBM, dAppend, dClear, dFld, dFldS, dProp, dCall, dMeth, dMake, dMakeN, daStar, dDictP, dCallO, dFor, dLc, diR1, diR2, diR3, diL, diT, diRv, diS, diE, dFmt, dFStr, dJs, dCallN, dFrzE, frz_l, in_ss, notin_ss, drR1, drR2, dListR, dRaise, dRaise0, dTryAs, dTry, dXf, dAddO, dInO, isL, insOf, Option.some.injEq, List.cons.injEq, D.int.injEq, D.bl.injEq, D.str.injEq, D.lst.injEq, D.tup.injEq, D.ref.injEq, MO.lst.injEq, MO.ins.injEq, mset_mset, and_true, true_and, and_self, and_assoc, exists_eq_left', exists_eq_left, exists_and_left, exists_and_right, exists_eq', List.set_cons_zero, List.set_cons_succ, decide_eq_true_eq, sqOf, lsOf, List.length_cons, List.length_nil, sizeLine_eq, List.append_nil, List.cons_append, List.nil_append, if_true, if_false, Bool.false_eq_true, reduceCtorEq, reduceIte, Nat.reduceAdd, Nat.reduceLeDiff, mset_same, Option.bind_some, List.length_map, Prod.mk.injEq, at0, at1, at2, at3, at4, at5, at6, at7, ix30, ix31, ix32, ix20, ix21, ix10, isi_ii, isi_ib, isi_ll, isi_bb, isi_ss, isi_tt, isi_is, isi_si, Bool.not_true, Bool.not_false, pm_a, pm_wa]
    generalize hs1 : (⟨s.ns, s.v, s.k + 1⟩ : PS) = s1
    have p1 : Pl a b s1 (n + 1) := by subst hs1; exact ⟨hp.ne, hv0, hv1, by show 0 ≤ s.k + 1; omega, by show s.k + 1 ≤ n + 1; omega⟩
    have k0 := p1.k0
    have k1 := p1.kn
    have v0 := p1.v0
    have v1 := p1.v1
    refine ⟨mul_small (by omega), ⟨by omega, by omega, by omega⟩, by omega, ?_⟩
    have z0 : 0 ≤ (s1.v + 7919 * s1.k) ^ Int.toNat 5 % 2147483647 := Int.emod_nonneg _ (by omega)
    have z1 : (s1.v + 7919 * s1.k) ^ Int.toNat 5 % 2147483647 < 2147483647 := Int.emod_lt_of_pos _ (by omega)
    generalize (s1.v + 7919 * s1.k) ^ Int.toNat 5 % 2147483647 = z at *
    try simp only [dSeq]
    try simp only [dIfS, dTest, dOp, dVar, dC, dCB, daCons, daNil, dSet, dRet, dNext, dDrop, dAsg, dPar, dAug, dAddI, dBreak, dCont, dRetN, slot, dLen, dCmpI, dSub, dAdd, dMul, dDiv, dMod, dPow, dNeg, dUn, dIx, dInt1, dAbs, dChain, dAnd, dOr, dNot, dAndV, dOrV, dNotV, dTru, dTruB, dIf, dTup, dLst, mkL, dSlice, dSl, doNone, doSome, dSum, dAll, dAny, dList, dTuple, dMax, dMin, eq_ii, ne_ii, eq_ss, ne_ss, eq_bb, ne_bb, eq_nn, ne_nn, dIsN, dNotN, dFgt, dIsB, dNotB, gN, gT, gsNil, gsCons, gSet, dBM, dAppend, dClear, dFld, dFldS, dProp, dCall, dMeth, dMake, dMakeN, daStar, dDictP, dCallO, dFor, dLc, diR1, diR2, diR3, diL, diT, diRv, diS, diE, dFmt, dFStr, dJs, dCallN, dFrzE, frz_l, in_ss, notin_ss, drR1, drR2, dListR, dRaise, dRaise0, dTryAs, dTry, dXf, dAddO, dInO, isL, insOf, Option.some.injEq, List.cons.injEq, D.int.injEq, D.bl.injEq, D.str.injEq, D.lst.injEq, D.tup.injEq, D.ref.injEq, MO.lst.injEq, MO.ins.injEq, mset_mset, and_true, true_and, and_self, and_assoc, exists_eq_left', exists_eq_left, exists_and_left, exists_and_right, exists_eq', List.set_cons_zero, List.set_cons_succ, decide_eq_true_eq, sqOf, lsOf, List.length_cons, List.length_nil, sizeLine_eq, List.append_nil, List.cons_append, List.nil_append, if_true, if_false, Bool.false_eq_true, reduceCtorEq, reduceIte, Nat.reduceAdd, Nat.reduceLeDiff, mset_same, Option.bind_some, List.length_map, Prod.mk.injEq, at0, at1, at2, at3, at4, at5, at6, at7, ix30, ix31, ix32, ix20, ix21, ix10, isi_ii, isi_ib, isi_ll, isi_bb, isi_ss, isi_tt, isi_is, isi_si, Bool.not_true, Bool.not_false, pm_a]
    refine ⟨mul_small (by omega), by omega, ?_⟩
    have y0 : 0 ≤ (z * 48271 + s1.v) % 2147483629 := Int.emod_nonneg _ (by omega)
    generalize (z * 48271 + s1.v) % 2147483629 = y at *
    walk_at "zs"
    exact ⟨div_ok (by omega) (by omega), by omega, q _ _ (Int.emod_nonneg _ (by omega)) (Int.emod_lt_of_pos _ (by omega)) p1⟩
  | cons c rest =>
    have eb := pm_b (s := s) (m := m0) hp.ne
    rw [hns, List.map_cons] at eb
    refine ⟨_, rfl, ?_⟩
    rw [if_pos (by simp)]
    have e0 : ∀ x : D, atI (x :: rest.map D.int) 0 = some x := fun x => atI_nat (j := 0) rfl
    try simp only [dSeq]
    try simp only [dIfS, dTest, dOp, dVar, dC, dCB, daCons, daNil, dSet, dRet, dNext, dDrop, dAsg, dPar, dAug, dAddI, dBreak, dCont, dRetN, slot, dLen, dCmpI, dSub, dAdd, dMul, dDiv, dMod, dPow, dNeg, dUn, dIx, dInt1, dAbs, dChain, dAnd, dOr, dNot, dAndV, dOrV, dNotV, dTru, dTruB, dIf, dTup, dLst, mkL, dSlice, dSl, doNone, doSome, dSum, dAll, dAny, dList, dTuple, dMax, dMin, eq_ii, ne_ii, eq_ss, ne_ss, eq_bb, ne_bb, eq_nn, ne_nn, dIsN, dNotN, dFgt, dIsB, dNotB, gN, gT, gsNil, gsCons, gSet, dBM, dAppend, dClear, dFld, dFldS, dProp, dCall, dMeth, dMake, dMakeN, daStar, dDictP, dCallO, dFor, dLc, diR1, diR2, diR3, diL, diT, diRv, diS, diE, dFmt, dFStr, dJs, dCallN, dFrzE, frz_l, in_ss, notin_ss, drR1, drR2, dListR, dRaise, dRaise0, dTryAs, dTry, dXf, dAddO, dInO, isL, insOf, Option.some.injEq, List.cons.injEq, D.int.injEq, D.bl.injEq, D.str.injEq, D.lst.injEq, D.tup.injEq, D.ref.injEq, MO.lst.injEq, MO.ins.injEq, mset_mset, and_true, true_and, and_self, and_assoc, exists_eq_left', exists_eq_left, exists_and_left, exists_and_right, exists_eq', List.set_cons_zero, List.set_cons_succ, decide_eq_true_eq, sqOf, lsOf, List.length_cons, List.length_nil, sizeLine_eq, List.append_nil, List.cons_append, List.nil_append, if_true, if_false, Bool.false_eq_true, reduceCtorEq, reduceIte, Nat.reduceAdd, Nat.reduceLeDiff, mset_same, Option.bind_some, List.length_map, Prod.mk.injEq, at0, at1, at2, at3, at4, at5, at6, at7, ix30, ix31, ix32, ix20, ix21, ix10, isi_ii, isi_ib, isi_ll, isi_bb, isi_ss, isi_tt, isi_is, isi_si, Bool.not_true, Bool.not_false, eb, e0]
    refine ⟨by omega, ?_⟩
    try simp only [dSeq]
    try simp only [dIfS, dTest, dOp, dVar, dC, dCB, daCons, daNil, dSet, dRet, dNext, dDrop, dAsg, dPar, dAug, dAddI, dBreak, dCont, dRetN, slot, dLen, dCmpI, dSub, dAdd, dMul, dDiv, dMod, dPow, dNeg, dUn, dIx, dInt1, dAbs, dChain, dAnd, dOr, dNot, dAndV, dOrV, dNotV, dTru, dTruB, dIf, dTup, dLst, mkL, dSlice, dSl, doNone, doSome, dSum, dAll, dAny, dList, dTuple, dMax, dMin, eq_ii, ne_ii, eq_ss, ne_ss, eq_bb, ne_bb, eq_nn, ne_nn, dIsN, dNotN, dFgt, dIsB, dNotB, gN, gT, gsNil, gsCons, gSet, dBM, dAppend, dClear, dFld, dFldS, dProp, dCall, dMeth, dMake, dMakeN, daStar, dDictP, dCallO, dFor, dLc, diR1, diR2, diR3, diL, diT, diRv, diS, diE, dFmt, dFStr, dJs, dCallN, dFrzE, frz_l, in_ss, notin_ss, drR1, drR2, dListR, dRaise, dRaise0, dTryAs, dTry, dXf, dAddO, dInO, isL, insOf, Option.some.injEq, List.cons.injEq, D.int.injEq, D.bl.injEq, D.str.injEq, D.lst.injEq, D.tup.injEq, D.ref.injEq, MO.lst.injEq, MO.ins.injEq, mset_mset, and_true, true_and, and_self, and_assoc, exists_eq_left', exists_eq_left, exists_and_left, exists_and_right, exists_eq', List.set_cons_zero, List.set_cons_succ, decide_eq_true_eq, sqOf, lsOf, List.length_cons, List.length_nil, sizeLine_eq, List.append_nil, List.cons_append, List.nil_append, if_true, if_false, Bool.false_eq_true, reduceCtorEq, reduceIte, Nat.reduceAdd, Nat.reduceLeDiff, mset_same, Option.bind_some, List.length_map, Prod.mk.injEq, at0, at1, at2, at3, at4, at5, at6, at7, ix30, ix31, ix32, ix20, ix21, ix10, isi_ii, isi_ib, isi_ll, isi_bb, isi_ss, isi_tt, isi_is, isi_si, Bool.not_true, Bool.not_false, eb, e0]
    refine ⟨wide_div (by omega) l2 (by decide) (by decide), 0, ixN_zero, ?_⟩
    have ew : mset (pm a b s m0) b (.lst (D.int (c / lim) :: rest.map D.int)) = pm a b ⟨c / lim :: rest, s.v, s.k⟩ m0 := by rw [← List.map_cons]; exact pm_wb hp.ne
    have eb2 := pm_b (s := ⟨c / lim :: rest, s.v, s.k⟩) (m := m0) hp.ne
    rw [List.map_cons] at eb2
    have r0 : 0 ≤ c % lim := Int.emod_nonneg _ (by omega)
    have r1 : c % lim < lim := Int.emod_lt_of_pos _ (by omega)
    try simp only [dSeq]
    try simp only [dIfS, dTest, dOp, dVar, dC, dCB, daCons, daNil, dSet, dRet, dNext, dDrop, dAsg, dPar, dAug, dAddI, dBreak, dCont, dRetN, slot, dLen, dCmpI, dSub, dAdd, dMul, dDiv, dMod, dPow, dNeg, dUn, dIx, dInt1, dAbs, dChain, dAnd, dOr, dNot, dAndV, dOrV, dNotV, dTru, dTruB, dIf, dTup, dLst, mkL, dSlice, dSl, doNone, doSome, dSum, dAll, dAny, dList, dTuple, dMax, dMin, eq_ii, ne_ii, eq_ss, ne_ss, eq_bb, ne_bb, eq_nn, ne_nn, dIsN, dNotN, dFgt, dIsB, dNotB, gN, gT, gsNil, gsCons, gSet, dBM, dAppend, dClear, dFld, dFldS, dProp, dCall, dMeth, dMake, dMakeN, daStar, dDictP, dCallO, dFor, dLc, diR1, diR2, diR3, diL, diT, diRv, diS, diE, dFmt, dFStr, dJs, dCallN, dFrzE, frz_l, in_ss, notin_ss, drR1, drR2, dListR, dRaise, dRaise0, dTryAs, dTry, dXf, dAddO, dInO, isL, insOf, Option.some.injEq, List.cons.injEq, D.int.injEq, D.bl.injEq, D.str.injEq, D.lst.injEq, D.tup.injEq, D.ref.injEq, MO.lst.injEq, MO.ins.injEq, mset_mset, and_true, true_and, and_self, and_assoc, exists_eq_left', exists_eq_left, exists_and_left, exists_and_right, exists_eq', List.set_cons_zero, List.set_cons_succ, decide_eq_true_eq, sqOf, lsOf, List.length_cons, List.length_nil, sizeLine_eq, List.append_nil, List.cons_append, List.nil_append, if_true, if_false, Bool.false_eq_true, reduceCtorEq, reduceIte, Nat.reduceAdd, Nat.reduceLeDiff, mset_same, Option.bind_some, List.length_map, Prod.mk.injEq, at0, at1, at2, at3, at4, at5, at6, at7, ix30, ix31, ix32, ix20, ix21, ix10, isi_ii, isi_ib, isi_ll, isi_bb, isi_ss, isi_tt, isi_is, isi_si, Bool.not_true, Bool.not_false, ew, eb2, e0]
    by_cases hz : c / lim = 0
    · rw [if_pos hz]
      try simp only [dIfS, dTest, dOp, dVar, dC, dCB, daCons, daNil, dSet, dRet, dNext, dDrop, dAsg, dPar, dAug, dAddI, dBreak, dCont, dRetN, slot, dLen, dCmpI, dSub, dAdd, dMul, dDiv, dMod, dPow, dNeg, dUn, dIx, dInt1, dAbs, dChain, dAnd, dOr, dNot, dAndV, dOrV, dNotV, dTru, dTruB, dIf, dTup, dLst, mkL, dSlice, dSl, doNone, doSome, dSum, dAll, dAny, dList, dTuple, dMax, dMin, eq_ii, ne_ii, eq_ss, ne_ss, eq_bb, ne_bb, eq_nn, ne_nn, dIsN, dNotN, dFgt, dIsB, dNotB, gN, gT, gsNil, gsCons, gSet, dBM, dAppend, dClear, dFld, dFldS, dProp, dCall, dMeth, dMake, dMakeN, daStar, dDictP, dCallO, dFor, dLc, diR1, diR2, diR3, diL, diT, diRv, diS, diE, dFmt, dFStr, dJs, dCallN, dFrzE, frz_l, in_ss, notin_ss, drR1, drR2, dListR, dRaise, dRaise0, dTryAs, dTry, dXf, dAddO, dInO, isL, insOf, Option.some.injEq, List.cons.injEq, D.int.injEq, D.bl.injEq, D.str.injEq, D.lst.injEq, D.tup.injEq, D.ref.injEq, MO.lst.injEq, MO.ins.injEq, mset_mset, and_true, true_and, and_self, and_assoc, exists_eq_left', exists_eq_left, exists_and_left, exists_and_right, exists_eq', List.set_cons_zero, List.set_cons_succ, decide_eq_true_eq, sqOf, lsOf, List.length_cons, List.length_nil, sizeLine_eq, List.append_nil, List.cons_append, List.nil_append, if_true, if_false, Bool.false_eq_true, reduceCtorEq, reduceIte, Nat.reduceAdd, Nat.reduceLeDiff, mset_same, Option.bind_some, List.length_map, Prod.mk.injEq, at0, at1, at2, at3, at4, at5, at6, at7, ix30, ix31, ix32, ix20, ix21, ix10, isi_ii, isi_ib, isi_ll, isi_bb, isi_ss, isi_tt, isi_is, isi_si, Bool.not_true, Bool.not_false, eb2, dPopAt]
      refine ⟨by omega, by omega, 0, seqIndex_zero, ⟨_, rfl⟩, ?_⟩
      rw [show (D.int (c / lim) :: rest.map D.int).eraseIdx 0 = rest.map D.int from rfl, pm_wb hp.ne]
      exact q _ _ r0 r1 ⟨hp.ne, hv0, hv1, hk0, by show s.k ≤ n + 1; omega⟩
    · rw [if_neg hz]
      walk_at "zs"
      exact q _ _ r0 r1 ⟨hp.ne, hv0, hv1, hk0, by show s.k ≤ n + 1; omega⟩
theorem draw_p {K : Fr0} {a b : Addr} {s : PS} {n lim : Int} {m0 : M} {Q : D → M → Prop} {E : XD → M → Prop} (hp : Pl a b s n) (hn : n ≤ 1000000000000) (l1 : 1 ≤ lim) (l2 : lim.natAbs < 2 ^ 200) (h : ∀ r s', 0 ≤ r → r < lim → Pl a b s' (n + 1) → Q (.int r) (pm a b s' m0)) : sp_law_draw K [.ref a, .int lim] (pm a b s m0) Q E :=
  ⟨a, b, s, n, lim, m0, rfl, rfl, hp, hn, ⟨l1, l2⟩, h⟩
theorem num_p {K : Fr0} {a b : Addr} {s : PS} {n lim : Int} {m0 : M} {Q : D → M → Prop} {E : XD → M → Prop} (hp : Pl a b s n) (hn : n ≤ 100000000000) (l1 : 1 ≤ lim) (l2 : lim ≤ 1000000) (h : ∀ r s', 1 ≤ r → r ≤ lim → Pl a b s' (n + 2) → Q (.int r) (pm a b s' m0)) : sp_law_number K [.ref a, .int lim] (pm a b s m0) Q E :=
  ⟨_, a, b, s, n, lim, m0, rfl, rfl, rfl, hp, hn, ⟨l1, l2⟩, h⟩
theorem pure_law_number {K : Fr0} {mg : Str → Option Value} (T : Txt K mg) (ds : List D) (m : M) (Q : D → M → Prop) (E : XD → M → Prop) (h : sp_law_number K ds m Q E) : t_law_number K (fun x _ m => E x m) { nx := fun _ m => Q .non m, rt := Q } (startD nm_law_number ds) m := by
  obtain ⟨x, a, b, s, n, most, m0, rfl, rfl, rfl, hp, hn, ⟨h1, h2⟩, q⟩ := h
  show t_law_number K _ _ [some (.ref a), some (.int most), none] _
  unfold t_law_number
  walk_at "zn"
  refine draw_p hp (by omega) (by omega) (by omega) (fun r s1 r0 r1 p1 => ?_)
  walk_at "zn"
  by_cases e0 : r = 0
  · rw [if_pos e0]
    walk_at "zs"
    exact q 1 s1 (by omega) (by omega) (p1.up (by omega))
  rw [if_neg e0]
  walk_at "zn"
  by_cases e1 : r = 1
  · rw [if_pos e1]
    walk_at "zs"
    exact q most s1 (by omega) (by omega) (p1.up (by omega))
  rw [if_neg e1]
  walk_at "zs"
  refine draw_p p1 (by omega) (by omega) (by omega) (fun r2 s2 r20 r21 p2 => ?_)
  walk_at "zs"
  exact q (1 + r2) s2 (by omega) (by omega) (p2.up (by omega))
def chL (c : Nat) : Bool := inS LETTERS ⟨#[c]⟩
def chOk (c : Nat) : Bool := inS LETTERS ⟨#[c]⟩ || inS SIGNS ⟨#[c]⟩
structure NmL (cs : List Nat) : Prop where
  le : cs.length ≤ 12
  hd : ∃ c r, cs = c :: r ∧ chL c = true
  all : ∀ c ∈ cs, chOk c = true
theorem nameB_of {z : Str} (h : NmL z.cps.toList) : nameB z = true := by
  obtain ⟨c, r, e, hc⟩ := h.hd
  unfold nameB
  have hl : z.cps.size = z.cps.toList.length := (Array.length_toList).symm
  have h1 := h.le
  have h2 : z.cps.toList.length = r.length + 1 := by rw [e]; rfl
  have h3 : (z.cps.toList.all fun c => inS LETTERS ⟨#[c]⟩ || inS SIGNS ⟨#[c]⟩) = true := List.all_eq_true.mpr h.all
  rw [h3, decide_eq_true ⟨by omega, by omega⟩, e]
  show (true && chL c && true) = true
  rw [hc]
  rfl
theorem of_nameB {z : Str} (h : nameB z = true) : NmL z.cps.toList := by
  unfold nameB at h
  rw [Bool.and_eq_true, Bool.and_eq_true] at h
  obtain ⟨⟨h1, h2⟩, h3⟩ := h
  have h1 := of_decide_eq_true h1
  refine ⟨by rw [Array.length_toList]; exact h1.2, ?_, List.all_eq_true.mp h3⟩
  cases e : z.cps.toList with
  | nil => rw [e] at h2; cases h2
  | cons c r => rw [e] at h2; exact ⟨c, r, rfl, h2⟩
theorem cps_app (x y : Str) : (x ++ y).cps.toList = x.cps.toList ++ y.cps.toList := by
  show (x.cps ++ y.cps).toList = _
  simp
theorem cps_cut (z : Str) (lo hi : Option Int) : (cutS z lo hi).cps.toList = (z.cps.toList.drop (HT.sIx z.length 0 lo)).take (HT.sIx z.length z.length hi - HT.sIx z.length 0 lo) := rfl
theorem cps_join : ∀ ys : List Str, (PySem.Txt.join ("" : Str) ys).cps.toList = (ys.map fun y => y.cps.toList).flatten := by
  intro ys
  rw [TL.join_eq]
  have e : ("" : Str) = ⟨#[]⟩ := by decide +kernel
  rw [e]
  induction ys with
  | nil => rfl
  | cons y ys ih =>
    rw [PyProof.Rows.join_nil_cons, cps_app, ih]
    rfl
def SIG : Str := "abcdefghijklmnopqrstuvwxyz0123456789_"
theorem sig_len : SIG.cps.toList.length = 37 := by decide +kernel
theorem sig_ok : ∀ i : Nat, i < 37 → chOk (SIG.cps.toList.getD i 0) = true := by decide +kernel
theorem sig_l : ∀ i : Nat, i < 26 → chL (SIG.cps.toList.getD i 0) = true := by decide +kernel
theorem sig_at {i : Int} (h0 : 0 ≤ i) (h1 : i < 37) : ∃ c, atI SIG.cps.toList i = some c ∧ chOk c = true ∧ (i < 26 → chL c = true) := by
  obtain ⟨k, rfl⟩ : ∃ k : Nat, i = k := ⟨i.toNat, by omega⟩
  have hk : k < SIG.cps.toList.length := by rw [sig_len]; omega
  refine ⟨SIG.cps.toList.getD k 0, atI_nat ?_, sig_ok k (by omega), fun h => sig_l k (by omega)⟩
  rw [List.getD_eq_getElem?_getD, List.getElem?_eq_getElem hk]
  rfl
theorem lc_steps {c : CT} {vs : List Nat} {te : DTE} {r : DSt} (N : Nat) (hN : N ≤ sizeLine) (P : List D → M → Prop) : ∀ {xs acc : List D} {m : M} {Q : List D → M → Prop}, acc.length + xs.length = N → P acc m → (∀ x ∈ xs, ∀ acc m, acc.length < N → P acc m → ∃ r2, ctD c x (wipeD r vs) = some r2 ∧ ∀ Q' : D → M → Prop, (∀ y m2, P (acc ++ [y]) m2 → Q' y m2) → te r2 m Q') →
    (∀ acc' m', acc'.length = N → P acc' m' → Q acc' m') → dLcL c vs dYes te xs acc r m Q
  | [], acc, m, Q, hz, p, _, q => q acc m (by simpa using hz) p
  | x :: xs, acc, m, Q, hz, p, h, q => by
    rw [List.length_cons] at hz
    obtain ⟨r2, e, t⟩ := h x List.mem_cons_self acc m (by omega) p
    refine ⟨r2, e, ?_⟩
    simp only [dYes, if_true]
    refine t _ (fun y m2 p2 => ⟨by omega, ?_⟩)
    exact lc_steps N hN P (by rw [List.length_append]; simp; omega) p2 (fun y hy => h y (List.mem_cons_of_mem _ hy)) q
theorem join_chars : ∀ cs : List Nat, (PySem.Txt.join ("" : Str) (cs.map fun c => (⟨#[c]⟩ : Str))).cps.toList = cs := by
  intro cs
  rw [cps_join, List.map_map]
  induction cs with
  | nil => rfl
  | cons x xs ih =>
    rw [List.map_cons, List.flatten_cons, ih]
    rfl
theorem sq_ls {m : M} {x : D} {xs : List D} (h : lsOf m x = some xs) : sqOf m x = some xs := by
  cases x <;> first | exact h | cases h
theorem php : ∀ (l zs : List Str), l.Nodup → (∀ x ∈ l, x ∈ zs) → l.length ≤ zs.length
  | [], _, _, _ => Nat.zero_le _
  | x :: l, zs, nd, h => by
    have hx := h x List.mem_cons_self
    obtain ⟨n1, n2⟩ := List.nodup_cons.mp nd
    have ih := php l (zs.erase x) n2 (fun y hy => (List.mem_erase_of_ne (fun e => n1 (by rw [← e]; exact hy))).mpr (h y (List.mem_cons_of_mem _ hy)))
    rw [List.length_erase_of_mem hx] at ih
    have : 0 < zs.length := List.length_pos_of_mem hx
    rw [List.length_cons]
    omega
def cand (z : Str) (c : Nat) : Str := cutS z none (some 11) ++ ⟨#[c]⟩
theorem cand_cps (z : Str) (c : Nat) : (cand z c).cps.toList = z.cps.toList.take 11 ++ [c] := by
  unfold cand
  rw [cps_app, cps_cut, HT.sIx_none, show (some (11 : Int)) = some ((11 : Nat) : Int) from rfl, HT.sIx_nat]
  show List.take _ (List.drop 0 _) ++ [c] = _
  rw [List.drop_zero, Nat.sub_zero]
  congr 1
  show List.take (min 11 z.cps.size) z.cps.toList = _
  rw [← Array.length_toList, List.take_eq_take_iff]
  simp
theorem take_nm {cs : List Nat} {k : Nat} (h : NmL cs) (hk : 1 ≤ k) : ∃ c r, cs.take k = c :: r ∧ chL c = true := by
  obtain ⟨c, r, rfl, hc⟩ := h.hd
  cases k with
  | zero => omega
  | succ k => exact ⟨c, r.take k, rfl, hc⟩
theorem cand_ok {z : Str} {c : Nat} (h : nameB z = true) (hc : chOk c = true) : nameB (cand z c) = true := by
  have n := of_nameB h
  refine nameB_of ⟨?_, ?_, ?_⟩
  · rw [cand_cps, List.length_append, List.length_take]
    simp
    omega
  · rw [cand_cps]
    obtain ⟨d, r, e, hd⟩ := take_nm n (show 1 ≤ 11 by omega)
    exact ⟨d, r ++ [c], by rw [e]; rfl, hd⟩
  · rw [cand_cps]
    intro y hy
    rcases List.mem_append.mp hy with hy | hy
    · exact n.all y (List.mem_of_mem_take hy)
    · rw [List.mem_singleton.mp hy]; exact hc
theorem cand_inj {z : Str} {c d : Nat} (h : cand z c = cand z d) : c = d := by
  have e := congrArg (fun s : Str => s.cps.toList) h
  simp only [cand_cps] at e
  have := List.append_cancel_left e
  simpa using this
theorem digs : (("01234" : Str).cps.toList) = [48, 49, 50, 51, 52] := by decide +kernel
theorem dig_ok : ∀ c ∈ [48, 49, 50, 51, 52], chOk c = true := by decide +kernel
theorem cand_some {z : Str} {zs : List Str} (h : zs.length ≤ 4) : ∃ c r, ([48, 49, 50, 51, 52].filter fun c => decide (cand z c ∉ zs)) = c :: r ∧ c ∈ [48, 49, 50, 51, 52] ∧ cand z c ∉ zs := by
  cases e : ([48, 49, 50, 51, 52].filter fun c => decide (cand z c ∉ zs)) with
  | nil =>
    exfalso
    have hall : ∀ c ∈ [48, 49, 50, 51, 52], cand z c ∈ zs := fun c hc => by
      have := List.filter_eq_nil_iff.mp e c hc
      simpa using this
    have := php ([48, 49, 50, 51, 52].map (cand z)) zs (by
      have nd : ([48, 49, 50, 51, 52] : List Nat).Nodup := by decide
      exact List.Pairwise.map _ (fun a b hab e => hab (cand_inj e)) nd) (fun x hx => by
      obtain ⟨c, hc, rfl⟩ := List.mem_map.mp hx
      exact hall c hc)
    simp at this
    omega
  | cons c r =>
    have hm : c ∈ ([48, 49, 50, 51, 52].filter fun c => decide (cand z c ∉ zs)) := by rw [e]; exact List.mem_cons_self
    rw [List.mem_filter] at hm
    exact ⟨c, r, rfl, hm.1, by simpa using hm.2⟩
theorem notin_strs {x : Str} {zs : List Str} {m : M} {d : D} {Q : D → M → Prop} (hd : sqOf m d = some (zs.map D.str)) (q : Q (.bl (!decide (x ∈ zs))) m) : dIn true (.str x) d m Q := by
  cases d with
  | str j => cases hd
  | _ => exact ⟨_, hd, rfl, flat_strs zs, by rw [inD_strs]; exact q⟩
theorem nm_len {z : Str} (h : nameB z = true) : z.length ≤ 12 := by
  have := (of_nameB h).le
  rw [Array.length_toList] at this
  exact this
theorem ls_vD {m : M} {x : D} {xs : List D} (h : vD m x = .lst xs) : lsOf m x = some xs := by
  cases x with
  | lst ys => cases h; rfl
  | ref a =>
    dsimp only [vD] at h
    cases q : m a with
    | none => rw [q] at h; cases h
    | some o =>
      rw [q] at h
      cases o with
      | lst ys => cases h; exact lsOf_ref q
      | _ => cases h
  | _ => cases h
theorem ch_lt {c : Nat} (h : chOk c = true) : c < 0x110000 := by
  unfold chOk inS at h
  rw [PySem.StrLaws.found_one, PySem.StrLaws.found_one, Bool.or_eq_true, decide_eq_true_eq, decide_eq_true_eq] at h
  have h1 : ∀ c ∈ LETTERS.cps.toList, c < 0x110000 := by decide +kernel
  have h2 : ∀ c ∈ SIGNS.cps.toList, c < 0x110000 := by decide +kernel
  rcases h with h | h
  · exact h1 c h
  · exact h2 c h
theorem nm_ok {z : Str} (h : nameB z = true) : PyData.strOk z = true := by
  unfold PyData.strOk
  rw [← Array.all_toList, List.all_eq_true]
  intro c hc
  exact decide_eq_true (ch_lt ((of_nameB h).all c hc))
theorem cl_nm {n : Nat} {z : Str} (h : nameB z = true) : clB n (.str z) = true := by
  have e := nm_ok h
  cases n <;> exact e
theorem cl_nms {n : Nat} {zs : List Str} (h : ∀ z ∈ zs, nameB z = true) : (zs.map D.str).all (clB n) = true := by
  rw [List.all_map, List.all_eq_true]
  intro z hz
  exact cl_nm (h z hz)
theorem dNe_nil {m : M} {x : D} {xs : List D} {n : Nat} {Q : D → M → Prop} (hn : n < 64) (h : vD m x = .lst xs) (c : xs.all (clB n) = true) (q : Q (.bl !xs.isEmpty) m) : dNe x (.lst []) m Q := by
  refine dNe_data (n := n + 1) (by omega) (by rw [h]; exact c) rfl (fun b hb => ?_)
  rw [h] at hb
  cases xs with
  | nil =>
    have : b = true := hb.mpr rfl
    rw [this]
    exact q
  | cons y ys =>
    cases b with
    | false => exact q
    | true =>
      have := hb.mp rfl
      cases this
theorem put_ok {cs : List Nat} {k c : Nat} (h : NmL cs) (hk : 1 ≤ k) (hc : chOk c = true) (tl : List Nat) (ht : ∀ y ∈ tl, chOk y = true) : NmL ((cs.take k ++ [c] ++ tl).take 12) := by
  obtain ⟨d, r, e, hd⟩ := take_nm h hk
  refine ⟨?_, ⟨d, (r ++ [c] ++ tl).take 11, by rw [e]; rfl, hd⟩, fun y hy => ?_⟩
  · rw [List.length_take]
    omega
  · have := List.mem_of_mem_take hy
    rcases List.mem_append.mp this with hy | hy
    · rcases List.mem_append.mp hy with hy | hy
      · exact h.all y (List.mem_of_mem_take hy)
      · rw [List.mem_singleton.mp hy]; exact hc
    · exact ht y hy
theorem cut_to (z : Str) (k : Nat) : (cutS z none (some (k : Int))).cps.toList = z.cps.toList.take k := by
  rw [cps_cut, HT.sIx_none, HT.sIx_nat, List.drop_zero, Nat.sub_zero]
  show List.take (min k z.cps.size) z.cps.toList = _
  rw [← Array.length_toList, List.take_eq_take_iff]
  simp
theorem cut_fro (z : Str) (k : Nat) : (cutS z (some (k : Int)) none).cps.toList = z.cps.toList.drop k := by
  rw [cps_cut, HT.sIx_none, HT.sIx_nat]
  show List.take (z.cps.size - min k z.cps.size) (List.drop (min k z.cps.size) z.cps.toList) = _
  have hl : z.cps.size = z.cps.toList.length := (Array.length_toList).symm
  rw [hl]
  by_cases h : k ≤ z.cps.toList.length
  · rw [Nat.min_eq_left h]
    exact List.take_of_length_le (by simp)
  · rw [Nat.min_eq_right (by omega), List.drop_length, List.drop_eq_nil_of_le (by omega)]
    simp
theorem swap_ok {y : Str} {c : Nat} {k : Int} (h : nameB y = true) (k0 : 0 ≤ k) (hc : chOk c = true) : nameB (cutS (cutS y none (some (1 + k)) ++ ⟨#[c]⟩ ++ cutS y (some (1 + k + 1)) none) none (some 12)) = true := by
  obtain ⟨j, rfl⟩ : ∃ j : Nat, k = j := ⟨k.toNat, by omega⟩
  have n := of_nameB h
  refine nameB_of ?_
  rw [show (some (12 : Int)) = some ((12 : Nat) : Int) from rfl, cut_to, cps_app, cps_app, show (1 + (j : Int)) = ((1 + j : Nat) : Int) by omega, cut_to, show (((1 + j : Nat) : Int) + 1) = ((1 + j + 1 : Nat) : Int) by omega, cut_fro]
  exact put_ok n (by omega) hc _ (fun z hz => n.all z (List.mem_of_mem_drop hz))
theorem cut_len2 {y : Str} (h : nameB y = true) (lo hi : Option Int) : (cutS y lo hi).length ≤ 12 := Nat.le_trans (cutS_length y lo hi) (nm_len h)
theorem app_len (x y : Str) : (x ++ y).length = x.length + y.length := by
  show (x.cps ++ y.cps).size = _
  rw [Array.size_append]
  rfl
theorem pure_law_name {K : Fr0} {mg : Str → Option Value} (T : Txt K mg) (ds : List D) (m : M) (Q : D → M → Prop) (E : XD → M → Prop) (h : sp_law_name K ds m Q E) : t_law_name K (fun x _ m => E x m) { nx := fun _ m => Q .non m, rt := Q } (startD nm_law_name ds) m := by
  obtain ⟨x, a, b, s, n, m0, rfl, rfl, rfl, hp, hn, q⟩ := h
  show t_law_name K _ _ [some (.ref a), none, none, none] _
  unfold t_law_name
  walk_at "zn"
  walk_at "zn"
  refine draw_p hp (by omega) (by omega) (by omega) (fun r s1 r0 r1 p1 => ?_)
  walk_at "zs"
  refine draw_p p1 (by omega) (by omega) (by omega) (fun i s2 i0 i1 p2 => ?_)
  walk_at "zs"
  obtain ⟨c, hc, c1, c2⟩ := sig_at i0 (by omega)
  refine ⟨by decide +kernel, c, hc, ⟨_, rfl⟩, by omega, by omega, ?_⟩
  obtain ⟨P, hP⟩ : ∃ P : List D → M → Prop, ∀ acc m', P acc m' ↔ ∃ (cs : List Nat) (s' : PS), acc = cs.map (fun c => D.str ⟨#[c]⟩) ∧ (∀ c ∈ cs, chOk c = true) ∧ Pl a b s' (n + 2 + cs.length) ∧ m' = pm a b s' m0 := ⟨_, fun _ _ => Iff.rfl⟩
  refine lc_steps r.toNat (by rw [sizeLine_eq]; omega) P (by rw [rngD_len]; simp) ((hP _ _).mpr ⟨[], s2, rfl, by simp, p2.up (by simp; omega), rfl⟩) (fun x hx acc m' hlt hp' => ?_) (fun acc m' hl hp' => ?_)
  · obtain ⟨cs, s', rfl, hcs, p', rfl⟩ := (hP _ _).mp hp'
    rw [List.length_map] at hlt
    refine ⟨_, rfl, fun Q' q' => ?_⟩
    simp only [wipeD]
    walk_at "zs"
    refine draw_p p' (by omega) (by omega) (by omega) (fun j s3 j0 j1 p3 => ?_)
    walk_at "zs"
    obtain ⟨c', hc', c1', _⟩ := sig_at j0 (by omega)
    refine ⟨by decide +kernel, c', hc', q' _ _ ((hP _ _).mpr ⟨cs ++ [c'], s3, by simp, fun y hy => ?_, p3.up (by simp; omega), rfl⟩)⟩
    rcases List.mem_append.mp hy with hy | hy
    · exact hcs y hy
    · rw [List.mem_singleton.mp hy]; exact c1'
  · obtain ⟨cs, s', rfl, hcs, p', rfl⟩ := (hP _ _).mp hp'
    rw [List.length_map] at hl
    refine ⟨_, _, cs.map (fun c => ⟨#[c]⟩), rfl, rfl, by simp [sqOf, lsOf], ?_, ?_⟩
    · have e : (List.map (fun x => x.length) (List.map (fun c => (⟨#[c]⟩ : Str)) cs)) = List.replicate cs.length 1 := by
        rw [List.map_map]
        exact List.map_const' ..
      rw [e, show ("" : Str).length = 0 by decide +kernel]
      simp
      omega
    have ej := join_chars cs
    have e2 : ((⟨#[c]⟩ : Str) ++ PySem.Txt.join ("" : Str) (cs.map fun c => (⟨#[c]⟩ : Str))).cps.toList = c :: cs := by
      rw [cps_app, ej]
      rfl
    refine ⟨?_, q _ s' (nameB_of ⟨?_, ⟨c, cs, e2, c2 (by omega)⟩, ?_⟩) (p'.up (by omega))⟩
    · have e3 : (PySem.Txt.join ("" : Str) (cs.map fun c => (⟨#[c]⟩ : Str))).length = cs.length := by
        rw [← congrArg List.length ej, Array.length_toList]
        rfl
      rw [e3]
      show 1 + cs.length ≤ _
      omega
    · rw [e2]
      simp
      omega
    · rw [e2]
      intro y hy
      rcases List.mem_cons.mp hy with rfl | hy
      · exact c1
      · exact hcs y hy
theorem pure_law_fresh {K : Fr0} {mg : Str → Option Value} (T : Txt K mg) (ds : List D) (m : M) (Q : D → M → Prop) (E : XD → M → Prop) (h : sp_law_fresh K ds m Q E) : t_law_fresh K (fun x _ m => E x m) { nx := fun _ m => Q .non m, rt := Q } (startD nm_law_fresh ds) m := by
  obtain ⟨z, x, zs, rfl, hx, hz, hl, q⟩ := h
  show t_law_fresh K _ _ [some (.str z), some x, none] m
  unfold t_law_fresh
  walk_at "zn"
  refine notin_strs (sq_ls hx) ⟨_, rfl, ?_⟩
  by_cases hin : z ∈ zs
  · rw [if_neg (by simpa using hin)]
    have zl := nm_len hz
    have cl : ∀ c : Nat, (cutS z none (some 11)).length + (⟨#[c]⟩ : Str).length ≤ 16777216 := fun c => by
      have := cutS_length z none (some 11)
      show _ + 1 ≤ _
      omega
    refine lc_filter (fun d => match d with | .str y => !decide (cutS z none (some 11) ++ y ∈ zs) | _ => false) (fun d => match d with | .str y => .str (cutS z none (some 11) ++ y) | _ => .non) (by rw [chars_len]; decide +kernel) (fun y hy => ?_) ?_
    · obtain ⟨c, hc, rfl⟩ := List.mem_map.mp hy
      refine ⟨_, rfl, fun Q' q' => ?_, fun _ Q' q' => ?_⟩
      · simp only [wipeD]
        walk_at "zs"
        refine ⟨by omega, cl c, notin_strs (sq_ls hx) ⟨_, rfl, q'⟩⟩
      · simp only [wipeD]
        walk_at "zs"
        exact ⟨by omega, cl c, q'⟩
    · have e : List.map (fun d => match d with | .str y => D.str (cutS z none (some 11) ++ y) | _ => .non) (List.filter (fun d => match d with | .str y => !decide (cutS z none (some 11) ++ y ∈ zs) | _ => false) (chars ("01234" : Str))) = ([48, 49, 50, 51, 52].filter fun c => decide (cand z c ∉ zs)).map fun c => D.str (cand z c) := by
        unfold chars
        rw [digs, List.filter_map, List.map_map]
        congr 1
        refine List.filter_congr fun c _ => ?_
        show (!decide (cand z c ∈ zs)) = _
        simp
      rw [List.nil_append, e]
      obtain ⟨c, r, e1, hc, hn⟩ := cand_some (z := z) hl
      rw [e1]
      exact ⟨_, atI_nat (j := 0) rfl, q _ (cand_ok hz (dig_ok c hc)) hn⟩
  · rw [if_pos (by simpa using hin)]
    exact q z hz hin
theorem name_p {K : Fr0} {a b : Addr} {s : PS} {n : Int} {m0 : M} {Q : D → M → Prop} {E : XD → M → Prop} (hp : Pl a b s n) (hn : n ≤ 100000000000) (h : ∀ z s', nameB z = true → Pl a b s' (n + 13) → Q (.str z) (pm a b s' m0)) : sp_law_name K [.ref a] (pm a b s m0) Q E :=
  ⟨_, a, b, s, n, m0, rfl, rfl, rfl, hp, hn, h⟩
theorem vD_all {a b : Addr} {m0 : M} {x : D} {xs : List D} (s0 : PS) (h : ∀ s', vD (pm a b s' m0) x = .lst xs) : x = .lst xs ∨ ∃ c, x = .ref c ∧ ∀ s', pm a b s' m0 c = some (.lst xs) := by
  cases x with
  | lst ys => exact .inl (h s0)
  | ref c =>
    refine .inr ⟨c, rfl, fun s' => ?_⟩
    have := ls_vD (h s')
    dsimp only [lsOf] at this
    cases q : pm a b s' m0 c with
    | none => rw [q] at this; cases this
    | some o =>
      rw [q] at this
      cases o with
      | lst ys => cases this; rfl
      | _ => cases this
  | _ => cases h s0
theorem fresh_p {K : Fr0} {z : Str} {x : D} {zs : List Str} {m : M} {Q : D → M → Prop} {E : XD → M → Prop} (h : vD m x = .lst (zs.map D.str)) (hz : nameB z = true) (hl : zs.length ≤ 4) (q : ∀ y, nameB y = true → y ∉ zs → Q (.str y) m) : sp_law_fresh K [.str z, x] m Q E := ⟨z, x, zs, rfl, ls_vD h, hz, hl, q⟩
theorem pure_law_near {K : Fr0} {mg : Str → Option Value} (T : Txt K mg) (ds : List D) (m : M) (Q : D → M → Prop) (E : XD → M → Prop) (h : sp_law_near K ds m Q E) : t_law_near K (fun x _ m => E x m) { nx := fun _ m => Q .non m, rt := Q } (startD nm_law_near ds) m := by
  obtain ⟨w, x, a, b, s, n, m0, zs, rfl, rfl, rfl, hx, hp, hn, hz, hl, q⟩ := h
  show t_law_near K _ _ [some (.ref a), some x, none, none, none, none] _
  unfold t_law_near
  walk_at "zn"
  walk_at "zn"
  refine draw_p hp (by omega) (by omega) (by omega) (fun mn s1 r0 r1 p1 => ?_)
  walk_at "zn"
  refine name_p p1 (by omega) (fun z s2 hzn p2 => ?_)
  walk_at "zn"
  refine draw_p p2 (by omega) (by omega) (by omega) (fun at_ s3 at0 at1 p3 => ?_)
  walk_at "zs"
  have hsig := sig_len
  have sl : (Str.ofString "abcdefghijklmnopqrstuvwxyz0123456789_").length ≤ 16777216 := by decide +kernel
  have e0 : ∀ (y : Str) (ys : List Str), atI ((y :: ys).map D.str) 0 = some (.str y) := fun y ys => atI_nat (j := 0) rfl
  generalize hK : dSeq (dIfS _ _ _) (dRet _) = kk
  have H : ∀ z s', nameB z = true → Pl a b s' (n + 16) → kk { nx := fun _ m => Q .non m, rt := Q } [some (.ref a), some x, some (.str (Str.ofString "abcdefghijklmnopqrstuvwxyz0123456789_")), some (.int mn), some (.str z), some (.int (1 + at_))] (pm a b s' m0) := by
    intro z s' hz' p'
    subst hK
    generalize hK2 : dRet _ = k2
    have H2 : ∀ z s', nameB z = true → Pl a b s' (n + 17) → k2 { nx := fun _ m => Q .non m, rt := Q } [some (.ref a), some x, some (.str (Str.ofString "abcdefghijklmnopqrstuvwxyz0123456789_")), some (.int mn), some (.str z), some (.int (1 + at_))] (pm a b s' m0) := by
      intro z s' hz' p'
      subst hK2
      walk_at "zs"
      exact fresh_p (hx s') hz' hl fun y hy hny => q y s' hy hny (p'.up (by omega))
    rcases vD_all s hx with rfl | ⟨c, rfl, hc⟩
    · walk_at "zn"
      refine dNe_nil (n := 0) (by omega) (hx s') (cl_nms hz) ⟨_, rfl, ?_⟩
      cases zs with
      | nil => exact H2 z s' hz' (p'.up (by omega))
      | cons y ys =>
        rw [if_pos (by rfl)]
        have hy := hz y List.mem_cons_self
        by_cases e2 : mn = 2
        · rw [if_pos e2, e0 y ys]
          refine ⟨_, rfl, by have := nm_len hy; omega, ?_⟩
          refine draw_p p' (by omega) (by omega) (by omega) (fun i s4 i0 i1 p4 => ?_)
          obtain ⟨c, hc, c1, _⟩ := sig_at i0 i1
          have l1 := cut_len2 hy none (some (1 + at_))
          have l2 := cut_len2 hy (some (1 + at_ + 1)) none
          have l3 : (⟨#[c]⟩ : Str).length = 1 := rfl
          refine ⟨_, rfl, sl, c, hc, by omega, _, rfl, by have := nm_len hy; omega, by rw [app_len]; omega, by rw [app_len, app_len]; omega, ?_⟩
          exact H2 _ s4 (swap_ok hy at0 c1) (p4.up (by omega))
        · rw [if_neg e2]
          exact H2 z s' hz' (p'.up (by omega))
    · try simp only [dSeq]
      try simp only [dIfS, dTest, dOp, dVar, dC, dCB, daCons, daNil, dSet, dRet, dNext, dDrop, dAsg, dPar, dAug, dAddI, dBreak, dCont, dRetN, slot, dLen, dCmpI, dSub, dAdd, dMul, dDiv, dMod, dPow, dNeg, dUn, dIx, dInt1, dAbs, dChain, dAnd, dOr, dNot, dAndV, dOrV, dNotV, dTru, dTruB, dIf, dTup, dLst, mkL, dSlice, dSl, doNone, doSome, dSum, dAll, dAny, dList, dTuple, dMax, dMin, eq_ii, ne_ii, eq_ss, ne_ss, eq_bb, ne_bb, eq_nn, ne_nn, dIsN, dNotN, dFgt, dIsB, dNotB, gN, gT, gsNil, gsCons, gSet, dBM, dAppend, dClear, dFld, dFldS, dProp, dCall, dMeth, dMake, dMakeN, daStar, dDictP, dCallO, dFor, dLc, diR1, diR2, diR3, diL, diT, diRv, diS, diE, dFmt, dFStr, dJs, dCallN, dFrzE, frz_l, in_ss, notin_ss, drR1, drR2, dListR, dRaise, dRaise0, dTryAs, dTry, dXf, dAddO, dInO, isL, insOf, Option.some.injEq, List.cons.injEq, D.int.injEq, D.bl.injEq, D.str.injEq, D.lst.injEq, D.tup.injEq, D.ref.injEq, MO.lst.injEq, MO.ins.injEq, mset_mset, and_true, true_and, and_self, and_assoc, exists_eq_left', exists_eq_left, exists_and_left, exists_and_right, exists_eq', List.set_cons_zero, List.set_cons_succ, decide_eq_true_eq, sqOf, lsOf, List.length_cons, List.length_nil, sizeLine_eq, List.append_nil, List.cons_append, List.nil_append, if_true, if_false, Bool.false_eq_true, reduceCtorEq, reduceIte, Nat.reduceAdd, Nat.reduceLeDiff, mset_same, Option.bind_some, List.length_map, Prod.mk.injEq, at0, at1, at2, at3, at4, at5, at6, at7, ix30, ix31, ix32, ix20, ix21, ix10, isi_ii, isi_ib, isi_ll, isi_bb, isi_ss, isi_tt, isi_is, isi_si, Bool.not_true, Bool.not_false, hc s']
      refine dNe_nil (n := 0) (by omega) (hx s') (cl_nms hz) ⟨_, rfl, ?_⟩
      cases zs with
      | nil => exact H2 z s' hz' (p'.up (by omega))
      | cons y ys =>
        rw [if_pos (by rfl)]
        have hy := hz y List.mem_cons_self
        by_cases e2 : mn = 2
        · rw [if_pos e2]
          refine ⟨_, by rw [hc s']; rfl, _, e0 y ys, by have := nm_len hy; omega, ?_⟩
          refine draw_p p' (by omega) (by omega) (by omega) (fun i s4 i0 i1 p4 => ?_)
          obtain ⟨c', hc', c1, _⟩ := sig_at i0 i1
          have l1 := cut_len2 hy none (some (1 + at_))
          have l2 := cut_len2 hy (some (1 + at_ + 1)) none
          have l3 : (⟨#[c']⟩ : Str).length = 1 := rfl
          refine ⟨_, rfl, sl, c', hc', by omega, _, by rw [hc s4]; rfl, _, e0 y ys, by have := nm_len hy; omega, by rw [app_len]; omega, by rw [app_len, app_len]; omega, ?_⟩
          exact H2 _ s4 (swap_ok hy at0 c1) (p4.up (by omega))
        · rw [if_neg e2]
          exact H2 z s' hz' (p'.up (by omega))
  rcases vD_all s hx with rfl | ⟨c, rfl, hc⟩
  · walk_at "zn"
    refine dNe_nil (n := 0) (by omega) (hx s3) (cl_nms hz) ⟨_, rfl, ?_⟩
    cases zs with
    | nil => exact H z s3 hzn (p3.up (by omega))
    | cons y ys =>
      rw [if_pos (by rfl)]
      have hy := hz y List.mem_cons_self
      by_cases e2 : mn = 1
      · rw [if_pos e2, e0 y ys]
        refine ⟨_, rfl, by have := nm_len hy; omega, ?_⟩
        refine draw_p p3 (by omega) (by omega) (by omega) (fun i s4 i0 i1 p4 => ?_)
        obtain ⟨c, hc, c1, _⟩ := sig_at i0 i1
        have l1 := cut_len2 hy none (some 11)
        have l3 : (⟨#[c]⟩ : Str).length = 1 := rfl
        exact ⟨_, rfl, sl, c, hc, by omega, H _ s4 (cand_ok hy c1) (p4.up (by omega))⟩
      · rw [if_neg e2]
        exact H z s3 hzn (p3.up (by omega))
  · walk_at "zn"
    refine dNe_nil (n := 0) (by omega) (hx s3) (cl_nms hz) ⟨_, rfl, ?_⟩
    cases zs with
    | nil => exact H z s3 hzn (p3.up (by omega))
    | cons y ys =>
      rw [if_pos (by rfl)]
      have hy := hz y List.mem_cons_self
      by_cases e2 : mn = 1
      · rw [if_pos e2]
        refine ⟨_, by rw [hc s3]; rfl, _, e0 y ys, by have := nm_len hy; omega, ?_⟩
        refine draw_p p3 (by omega) (by omega) (by omega) (fun i s4 i0 i1 p4 => ?_)
        obtain ⟨c', hc', c1, _⟩ := sig_at i0 i1
        have l1 := cut_len2 hy none (some 11)
        have l3 : (⟨#[c']⟩ : Str).length = 1 := rfl
        exact ⟨_, rfl, sl, c', hc', by omega, H _ s4 (cand_ok hy c1) (p4.up (by omega))⟩
      · rw [if_neg e2]
        exact H z s3 hzn (p3.up (by omega))
theorem pure_need_name {K : Fr0} {mg : Str → Option Value} (T : Txt K mg) (ds : List D) (m : M) (Q : D → M → Prop) (E : XD → M → Prop) (h : sp_need_name K ds m Q E) : t_need_name K (fun x _ m => E x m) { nx := fun _ m => Q .non m, rt := Q } (startD nm_need_name ds) m := by
  obtain ⟨z, rfl, hz, hn, q⟩ := h
  show t_need_name K _ _ [some (.str z)] m
  unfold t_need_name
  walk_at "zs"
  refine ⟨z, rfl, hz, ?_⟩
  walk_at "zs"
  rw [hn]
  walk_at "zs"
  exact q
theorem pure_need_range {K : Fr0} {mg : Str → Option Value} (T : Txt K mg) (ds : List D) (m : M) (Q : D → M → Prop) (E : XD → M → Prop) (h : sp_need_range K ds m Q E) : t_need_range K (fun x _ m => E x m) { nx := fun _ m => Q .non m, rt := Q } (startD nm_need_range ds) m := by
  obtain ⟨x, v, lo, hi, rfl, h1, h2, q⟩ := h
  show t_need_range K _ _ [some x, some (.int v), some (.int lo), some (.int hi)] m
  unfold t_need_range
  walk_at "zs"
  rw [if_neg (by omega), if_neg (by omega)]
  exact q
def at0D : D → D
  | .tup (x :: _) => x
  | _ => .non
theorem at0_ks (ks : List Knd) : (ks.map Knd.D).map at0D = (names ks).map D.str := by
  rw [List.map_map, List.map_map]
  rfl
theorem pure_need_kind {K : Fr0} {mg : Str → Option Value} (T : Txt K mg) (ds : List D) (m : M) (Q : D → M → Prop) (E : XD → M → Prop) (h : sp_need_kind K ds m Q E) : t_need_kind K (fun x _ m => E x m) { nx := fun _ m => Q .non m, rt := Q } (startD nm_need_kind ds) m := by
  obtain ⟨z, ks, rfl, hz, hl, q⟩ := h
  show t_need_kind K _ _ [some (.str z), some (ksD ks), none] m
  unfold t_need_kind
  walk_at "zs"
  refine lc_pure at0D (by rw [sizeLine_eq]; simp; omega) (fun x hx => ?_) ?_
  · obtain ⟨k, hk, rfl⟩ := List.mem_map.mp hx
    refine ⟨_, rfl, fun Q' q' => ?_⟩
    simp only [wipeD, Knd.D]
    walk_at "zs"
    exact q'
  · rw [List.nil_append, at0_ks]
    refine notin_strs rfl ?_
    walk_at "zs"
    rw [if_neg (by simpa using hz)]
    exact q
theorem take_succ' {α : Type} {l : List α} {j : Nat} {a : α} (h : l[j]? = some a) : l.take (j + 1) = l.take j ++ [a] := by
  rw [List.take_add_one, h]
  rfl
theorem map_at {α β : Type} {f : α → β} {l : List α} {j : Nat} {d : β} (h : (l.map f)[j]? = some d) : ∃ a, l[j]? = some a ∧ d = f a := by
  rw [List.getElem?_map] at h
  cases e : l[j]? with
  | none => rw [e] at h; cases h
  | some a => rw [e] at h; cases h; exact ⟨a, rfl, rfl⟩
theorem nodup_take {α : Type} : ∀ {l : List α} {j : Nat} {a : α}, l.Nodup → l[j]? = some a → a ∉ l.take j
  | [], _, _, _, h => by cases h
  | x :: l, 0, a, _, _ => by simp
  | x :: l, j + 1, a, nd, h => by
    obtain ⟨n1, n2⟩ := List.nodup_cons.mp nd
    have h2 : l[j]? = some a := h
    have ih := nodup_take n2 h2
    rw [List.take_succ_cons, List.mem_cons]
    rintro (rfl | hm)
    · exact n1 (List.mem_of_getElem? h2)
    · exact ih hm
theorem mem_at {α : Type} {l : List α} {j : Nat} {a : α} (h : l[j]? = some a) : a ∈ l := List.mem_of_getElem? h
theorem len_at {α : Type} {l : List α} {j : Nat} {a : α} (h : l[j]? = some a) : j < l.length := (List.getElem?_eq_some_iff.mp h).1
theorem lc_mapD {α : Type} {g : α → D} {l : List α} {c : CT} {vs : List Nat} {te : DTE} {r : DSt} {m : M} {Q : List D → M → Prop} {f : α → D} (hz : l.length ≤ sizeLine) (h : ∀ a ∈ l, ∃ r2, ctD c (g a) (wipeD r vs) = some r2 ∧ ∀ Q' : D → M → Prop, Q' (f a) m → te r2 m Q') (q : Q (l.map f) m) : dLcL c vs dYes te (l.map g) [] r m Q := by
  have go : ∀ (l : List α) (acc : List D), acc.length + l.length ≤ sizeLine → (∀ a ∈ l, ∃ r2, ctD c (g a) (wipeD r vs) = some r2 ∧ ∀ Q' : D → M → Prop, Q' (f a) m → te r2 m Q') → Q (acc ++ l.map f) m → dLcL c vs dYes te (l.map g) acc r m Q := by
    intro l
    induction l with
    | nil => intro acc _ _ q; exact (by simpa using q : Q acc m)
    | cons a l ih =>
      intro acc hz h q
      obtain ⟨r2, e, t⟩ := h a List.mem_cons_self
      rw [List.length_cons] at hz
      refine ⟨r2, e, ?_⟩
      simp only [dYes, if_true]
      refine t _ ⟨by omega, ih _ (by rw [List.length_append]; simp; omega) (fun b hb => h b (List.mem_cons_of_mem _ hb)) ?_⟩
      rw [List.append_assoc]
      exact q
  exact go l [] (by simpa using hz) h (by simpa using q)
theorem lc_filterD {α : Type} {g : α → D} {l : List α} {c : CT} {vs : List Nat} {tt : DTT} {te : DTE} {r : DSt} {m : M} {Q : List D → M → Prop} {p : α → Bool} {f : α → D} (hz : l.length ≤ sizeLine) (h : ∀ a ∈ l, ∃ r2, ctD c (g a) (wipeD r vs) = some r2 ∧ (∀ Q' : Bool → M → Prop, Q' (p a) m → tt r2 m Q') ∧ (p a = true → ∀ Q' : D → M → Prop, Q' (f a) m → te r2 m Q')) (q : Q ((l.filter p).map f) m) : dLcL c vs tt te (l.map g) [] r m Q := by
  have go : ∀ (l : List α) (acc : List D), acc.length + l.length ≤ sizeLine → (∀ a ∈ l, ∃ r2, ctD c (g a) (wipeD r vs) = some r2 ∧ (∀ Q' : Bool → M → Prop, Q' (p a) m → tt r2 m Q') ∧ (p a = true → ∀ Q' : D → M → Prop, Q' (f a) m → te r2 m Q')) → Q (acc ++ (l.filter p).map f) m → dLcL c vs tt te (l.map g) acc r m Q := by
    intro l
    induction l with
    | nil => intro acc _ _ q; exact (by simpa using q : Q acc m)
    | cons a l ih =>
      intro acc hz h q
      obtain ⟨r2, e, t1, t2⟩ := h a List.mem_cons_self
      rw [List.length_cons] at hz
      refine ⟨r2, e, t1 _ ?_⟩
      rw [List.filter_cons] at q
      cases hp : p a with
      | false =>
        rw [hp] at q
        rw [if_neg (by simp)]
        exact ih acc (by omega) (fun b hb => h b (List.mem_cons_of_mem _ hb)) q
      | true =>
        rw [hp, if_pos rfl] at q
        rw [if_pos rfl]
        refine t2 hp _ ⟨by omega, ih _ (by rw [List.length_append]; simp; omega) (fun b hb => h b (List.mem_cons_of_mem _ hb)) ?_⟩
        rw [List.append_assoc]
        exact q
  exact go l [] (by simpa using hz) h (by simpa using q)
theorem pure_checked_kinds {K : Fr0} {mg : Str → Option Value} (T : Txt K mg) (ds : List D) (m : M) (Q : D → M → Prop) (E : XD → M → Prop) (h : sp_checked_kinds K ds m Q E) : t_checked_kinds K (fun x _ m => E x m) { nx := fun _ m => Q .non m, rt := Q } (startD nm_checked_kinds ds) m := by
  obtain ⟨ks, b, rfl, ok, hl, q⟩ := h
  show t_checked_kinds K _ _ [some (ksD ks), some (.bl b), none, none, none, none, none, none, none] m
  unfold t_checked_kinds
  simp only [dSeq]
  have e : ∀ (DD : DEnds) (r : DSt), (DD.nx ((r.set 2 (some (.int (if b = true then 9 else 99)))).set 3 (some (.int (if b = true then 24 else 99)))) m) → slot r 1 = some (.bl b) → dAsg (dIf (dTru (dVar 1)) (dTup (daCons (dC (.int 9)) (daCons (dC (.int 24)) daNil))) (dTup (daCons (dC (.int 99)) (daCons (dC (.int 99)) daNil)))) (gT 2 (gsCons (gN 2) (gsCons (gN 3) gsNil))) DD r m := by
    intro DD r h h1
    walk_at "zs"
    rw [h1]
    walk_at "zs"
    cases b <;> exact h
  refine e _ _ ?_ rfl
  clear e
  walk_at "zn"
  intro p hp
  walk_at "zn"
  obtain ⟨P1, hP1⟩ : ∃ P : Nat → DSt → M → Prop, ∀ j r m', P j r m' ↔ (m' = mset m p (.lst ((ks.take j).map Knd.D)) ∧ ∃ o5 o6 o7 o8, r = [some (ksD ks), some (.bl b), some (.int (if b = true then 9 else 99)), some (.int (if b = true then 24 else 99)), some (.ref p), o5, o6, o7, o8]) := ⟨_, fun _ _ _ => Iff.rfl⟩
  refine ⟨P1, (hP1 _ _ _).mpr ⟨rfl, _, _, _, _, rfl⟩, ?_, ?_⟩
  · intro j d r m' hd hp1
    obtain ⟨rfl, o5, o6, o7, o8, rfl⟩ := (hP1 _ _ _).mp hp1
    obtain ⟨k, hk, rfl⟩ := map_at hd
    have hm := mem_at hk
    have hj := len_at hk
    have nk := ok.nm k hm
    have zk := nm_len nk
    have ck := ok.c k hm
    have dk := ok.d k hm
    simp only [Knd.D]
    walk_at "zn"
    refine ⟨k.n, rfl, by omega, nk, ?_⟩
    walk_at "zn"
    refine lcM_pure (a := p) (xs := (ks.take j).map Knd.D) at0D (fun Q' q' => ⟨_, rfl, q'⟩) mset_same (by rw [sizeLine_eq]; simp; omega) (fun x hx => ?_) ?_
    · obtain ⟨k2, hk2, rfl⟩ := List.mem_map.mp hx
      refine ⟨_, rfl, fun Q' q' => ?_⟩
      simp only [wipeD, Knd.D]
      walk_at "zs"
      exact q'
    · simp only [mkL]
      rw [at0_ks]
      refine in_strs rfl ?_
      walk_at "zs"
      have hn : k.n ∉ names (ks.take j) := by
        have := nodup_take (l := names ks) (j := j) ok.nd (by rw [List.getElem?_map, hk]; rfl)
        rw [← List.map_take] at this
        exact this
      rw [if_neg hn]
      walk_at "zn"
      refine ⟨_, k.c, 1, _, rfl, ck.1, ck.2, ?_⟩
      walk_at "zn"
      refine ⟨_, k.d, 1, _, rfl, dk.1, dk.2, ?_⟩
      walk_at "zs"
      refine ⟨by simp; omega, (hP1 _ _ _).mpr ⟨?_, _, _, _, _, rfl⟩⟩
      rw [take_succ' hk, List.map_append]
      rfl
  · intro r m' hp1
    obtain ⟨rfl, o5, o6, o7, o8, rfl⟩ := (hP1 _ _ _).mp hp1
    rw [List.length_map, List.take_length]
    try simp only [dIfS, dTest, dOp, dVar, dC, dCB, daCons, daNil, dSet, dRet, dNext, dDrop, dAsg, dPar, dAug, dAddI, dBreak, dCont, dRetN, slot, dLen, dCmpI, dSub, dAdd, dMul, dDiv, dMod, dPow, dNeg, dUn, dIx, dInt1, dAbs, dChain, dAnd, dOr, dNot, dAndV, dOrV, dNotV, dTru, dTruB, dIf, dTup, dLst, mkL, dSlice, dSl, doNone, doSome, dSum, dAll, dAny, dList, dTuple, dMax, dMin, eq_ii, ne_ii, eq_ss, ne_ss, eq_bb, ne_bb, eq_nn, ne_nn, dIsN, dNotN, dFgt, dIsB, dNotB, gN, gT, gsNil, gsCons, gSet, dBM, dAppend, dClear, dFld, dFldS, dProp, dCall, dMeth, dMake, dMakeN, daStar, dDictP, dCallO, dFor, dLc, diR1, diR2, diR3, diL, diT, diRv, diS, diE, dFmt, dFStr, dJs, dCallN, dFrzE, frz_l, in_ss, notin_ss, drR1, drR2, dListR, dRaise, dRaise0, dTryAs, dTry, dXf, dAddO, dInO, isL, insOf, Option.some.injEq, List.cons.injEq, D.int.injEq, D.bl.injEq, D.str.injEq, D.lst.injEq, D.tup.injEq, D.ref.injEq, MO.lst.injEq, MO.ins.injEq, mset_mset, and_true, true_and, and_self, and_assoc, exists_eq_left', exists_eq_left, exists_and_left, exists_and_right, exists_eq', List.set_cons_zero, List.set_cons_succ, decide_eq_true_eq, sqOf, lsOf, List.length_cons, List.length_nil, sizeLine_eq, List.append_nil, List.cons_append, List.nil_append, if_true, if_false, Bool.false_eq_true, reduceCtorEq, reduceIte, Nat.reduceAdd, Nat.reduceLeDiff, mset_same, Option.bind_some, List.length_map, Prod.mk.injEq, at0, at1, at2, at3, at4, at5, at6, at7, ix30, ix31, ix32, ix20, ix21, ix10, isi_ii, isi_ib, isi_ll, isi_bb, isi_ss, isi_tt, isi_is, isi_si, Bool.not_true, Bool.not_false, mdel_mset hp]
    exact q
theorem Arr.cl (a : Arr) {n : Nat} (h1 : nameB a.f = true) (h2 : nameB a.s = true) : clB (n + 1) (.tup [.str a.f, .str a.s]) = true := by
  show ([D.str a.f, D.str a.s].all (clB n)) = true
  simp [cl_nm h1, cl_nm h2]
def at01D : D → D
  | .tup (x :: y :: _) => .tup [x, y]
  | _ => .non
def Arr.P (a : Arr) : DL.D := .tup [.str a.f, .str a.s]
theorem at01_as (as : List Arr) : (as.map Arr.D).map at01D = as.map Arr.P := by
  rw [List.map_map]
  rfl
theorem ArrP_mem {a : Arr} {as : List Arr} : Arr.P a ∈ as.map Arr.P ↔ (a.f, a.s) ∈ as.map fun a => (a.f, a.s) := by
  constructor
  · intro h
    obtain ⟨b, hb, e⟩ := List.mem_map.mp h
    unfold Arr.P at e
    injection e with e
    injection e with e1 e2
    injection e2 with e2 _
    injection e1 with e1
    injection e2 with e2
    exact List.mem_map.mpr ⟨b, hb, by rw [e1, e2]⟩
  · intro h
    obtain ⟨b, hb, e⟩ := List.mem_map.mp h
    refine List.mem_map.mpr ⟨b, hb, ?_⟩
    injection e with e1 e2
    unfold Arr.P
    rw [e1, e2]
theorem pure_checked_arrows {K : Fr0} {mg : Str → Option Value} (T : Txt K mg) (ds : List D) (m : M) (Q : D → M → Prop) (E : XD → M → Prop) (h : sp_checked_arrows K ds m Q E) : t_checked_arrows K (fun x _ m => E x m) { nx := fun _ m => Q .non m, rt := Q } (startD nm_checked_arrows ds) m := by
  obtain ⟨as, x, ks, rfl, hx, ok, hl, hk, hnm, q⟩ := h
  show t_checked_arrows K _ _ [some x, some (ksD ks), none, none, none, none, none] m
  unfold t_checked_arrows
  walk_at "zn"
  intro p hp
  simp only [dSeq]
  have hF : ∀ (g : DTG) (tb : DTS) (DD : DEnds) (m : M), dLoopI g tb (as.map Arr.D) DD [some x, some (ksD ks), some (.ref p), none, none, none, none] m → dFor (diQ (dVar 0)) g tb DD [some x, some (ksD ks), some (.ref p), none, none, none, none] m := by
    intro g tb DD m h
    show diQ (dVar 0) _ _ _
    refine ⟨x, rfl, ?_⟩
    cases x with
    | lst xs => cases hx; exact h
    | tup xs => cases hx; exact h
    | _ => cases hx
  refine hF _ _ _ _ ?_
  obtain ⟨P1, hP1⟩ : ∃ P : Nat → DSt → M → Prop, ∀ j r m', P j r m' ↔ (m' = mset m p (.lst ((as.take j).map Arr.D)) ∧ ∃ o3 o4 o5 o6, r = [some x, some (ksD ks), some (.ref p), o3, o4, o5, o6]) := ⟨_, fun _ _ _ => Iff.rfl⟩
  refine ⟨P1, (hP1 _ _ _).mpr ⟨rfl, _, _, _, _, rfl⟩, ?_, ?_⟩
  · intro j d r m' hd hp1
    obtain ⟨rfl, o3, o4, o5, o6, rfl⟩ := (hP1 _ _ _).mp hp1
    obtain ⟨a, ha, rfl⟩ := map_at hd
    have hm := mem_at ha
    have hj := len_at ha
    have gk := ok.g a hm
    have hf := ok.f a hm
    have hs := ok.s a hm
    have nmA : ∀ b ∈ as, nameB b.f = true ∧ nameB b.s = true := fun b hb => ⟨hnm _ (ok.f b hb), hnm _ (ok.s b hb)⟩
    simp only [Arr.D]
    walk_at "zn"
    refine ⟨a.f, ks, rfl, hf, hk, ?_⟩
    walk_at "zn"
    refine ⟨a.s, ks, rfl, hs, hk, ?_⟩
    walk_at "zn"
    refine ⟨_, a.g, 1, _, rfl, gk.1, gk.2, ?_⟩
    walk_at "zn"
    refine lcM_pure (a := p) (xs := (as.take j).map Arr.D) at01D (fun Q' q' => ⟨_, rfl, q'⟩) mset_same (by rw [sizeLine_eq]; simp; omega) (fun x hx => ?_) ?_
    · obtain ⟨k2, hk2, rfl⟩ := List.mem_map.mp hx
      refine ⟨_, rfl, fun Q' q' => ?_⟩
      simp only [wipeD, Arr.D]
      walk_at "zs"
      exact q'
    · simp only [mkL]
      rw [at01_as]
      refine dInD_data (n := 1) (x := Arr.P a) (ys := (as.take j).map Arr.P) (by omega) (Arr.cl a (nmA a hm).1 (nmA a hm).2) rfl rfl ?_ (fun b hb => ?_)
      · rw [List.all_map, List.all_eq_true]
        intro b hb
        have := nmA b (List.mem_of_mem_take hb)
        exact Arr.cl b this.1 this.2
      have hb2 : b = false := by
        have : Arr.P a ∉ (as.take j).map Arr.P := by
          rw [ArrP_mem]
          have := nodup_take (j := j) ok.nd (a := (a.f, a.s)) (by rw [List.getElem?_map, ha]; rfl)
          rw [← List.map_take] at this
          exact this
        cases b with
        | true => exact absurd (hb.mp rfl) this
        | false => rfl
      rw [hb2]
      walk_at "zs"
      refine ⟨by simp; omega, (hP1 _ _ _).mpr ⟨?_, _, _, _, _, rfl⟩⟩
      rw [take_succ' ha, List.map_append]
      rfl
  · intro r m' hp1
    obtain ⟨rfl, o3, o4, o5, o6, rfl⟩ := (hP1 _ _ _).mp hp1
    rw [List.length_map, List.take_length]
    try simp only [dIfS, dTest, dOp, dVar, dC, dCB, daCons, daNil, dSet, dRet, dNext, dDrop, dAsg, dPar, dAug, dAddI, dBreak, dCont, dRetN, slot, dLen, dCmpI, dSub, dAdd, dMul, dDiv, dMod, dPow, dNeg, dUn, dIx, dInt1, dAbs, dChain, dAnd, dOr, dNot, dAndV, dOrV, dNotV, dTru, dTruB, dIf, dTup, dLst, mkL, dSlice, dSl, doNone, doSome, dSum, dAll, dAny, dList, dTuple, dMax, dMin, eq_ii, ne_ii, eq_ss, ne_ss, eq_bb, ne_bb, eq_nn, ne_nn, dIsN, dNotN, dFgt, dIsB, dNotB, gN, gT, gsNil, gsCons, gSet, dBM, dAppend, dClear, dFld, dFldS, dProp, dCall, dMeth, dMake, dMakeN, daStar, dDictP, dCallO, dFor, dLc, diR1, diR2, diR3, diL, diT, diRv, diS, diE, dFmt, dFStr, dJs, dCallN, dFrzE, frz_l, in_ss, notin_ss, drR1, drR2, dListR, dRaise, dRaise0, dTryAs, dTry, dXf, dAddO, dInO, isL, insOf, Option.some.injEq, List.cons.injEq, D.int.injEq, D.bl.injEq, D.str.injEq, D.lst.injEq, D.tup.injEq, D.ref.injEq, MO.lst.injEq, MO.ins.injEq, mset_mset, and_true, true_and, and_self, and_assoc, exists_eq_left', exists_eq_left, exists_and_left, exists_and_right, exists_eq', List.set_cons_zero, List.set_cons_succ, decide_eq_true_eq, sqOf, lsOf, List.length_cons, List.length_nil, sizeLine_eq, List.append_nil, List.cons_append, List.nil_append, if_true, if_false, Bool.false_eq_true, reduceCtorEq, reduceIte, Nat.reduceAdd, Nat.reduceLeDiff, mset_same, Option.bind_some, List.length_map, Prod.mk.injEq, at0, at1, at2, at3, at4, at5, at6, at7, ix30, ix31, ix32, ix20, ix21, ix10, isi_ii, isi_ib, isi_ll, isi_bb, isi_ss, isi_tt, isi_is, isi_si, Bool.not_true, Bool.not_false, mdel_mset hp]
    exact q
theorem putT2 {a b : D} : putD "kind_rows" b [(("name" : Str), a)] = [(("name" : Str), a), ("kind_rows", b)] := rfl
theorem putT1 {a : D} : putD "name" a [] = [(("name" : Str), a)] := rfl
theorem lk2 {a b : D} : [(("name" : Str), a), ("kind_rows", b)].lookup ("kind_rows" : Str) = some b := rfl
section
variable {t : Tsk}
theorem lk_name : (taskF t).lookup ("name" : Str) = some (.str t.nm) := rfl
theorem lk_kinds : (taskF t).lookup ("kind_rows" : Str) = some (ksD t.ks) := rfl
theorem lk_arrows : (taskF t).lookup ("arrow_rows" : Str) = some (asD t.as) := rfl
end
theorem Tsk.Ok.nms {t : Tsk} (h : t.Ok) : ∀ z ∈ names t.ks, nameB z = true := fun z hz => by
  obtain ⟨k, hk, rfl⟩ := List.mem_map.mp hz
  exact h.ks.nm k hk
theorem sq0_len {m : M} {x : D} {xs : List D} (h : sq0 x = some xs) : x = .lst xs ∨ x = .tup xs := by
  cases x with
  | lst ys => cases h; exact .inl rfl
  | tup ys => cases h; exact .inr rfl
  | _ => cases h
theorem pure_Task_init {K : Fr0} {mg : Str → Option Value} (T : Txt K mg) (ds : List D) (m : M) (Q : D → M → Prop) (E : XD → M → Prop) (h : sp_Task_init K ds m Q E) : t_Task_init K (fun x _ m => E x m) { nx := fun _ m => Q .non m, rt := Q } (startD nm_Task_init ds) m := by
  obtain ⟨a, t, x, rfl, hx, ha, ok, q⟩ := h
  have z := nm_len ok.nm
  have k1 := ok.k1
  have k4 := ok.k4
  have a12 := ok.a12
  rcases sq0_len (m := m) hx with rfl | rfl
  · show t_Task_init K _ _ [some (.ref a), some (.str t.nm), some (ksD t.ks), some (.lst (t.as.map Arr.D))] m
    unfold t_Task_init
    walk_at "zn"
    refine ⟨t.nm, rfl, by omega, ok.nm, ?_⟩
    walk_at "zn"
    rw [if_pos (by omega), if_neg (by simp; omega)]
    walk_at "zn"
    rw [if_neg (by omega)]
    try simp only [dSeq]
    try simp only [dIfS, dTest, dOp, dVar, dC, dCB, daCons, daNil, dSet, dRet, dNext, dDrop, dAsg, dPar, dAug, dAddI, dBreak, dCont, dRetN, slot, dLen, dCmpI, dSub, dAdd, dMul, dDiv, dMod, dPow, dNeg, dUn, dIx, dInt1, dAbs, dChain, dAnd, dOr, dNot, dAndV, dOrV, dNotV, dTru, dTruB, dIf, dTup, dLst, mkL, dSlice, dSl, doNone, doSome, dSum, dAll, dAny, dList, dTuple, dMax, dMin, eq_ii, ne_ii, eq_ss, ne_ss, eq_bb, ne_bb, eq_nn, ne_nn, dIsN, dNotN, dFgt, dIsB, dNotB, gN, gT, gsNil, gsCons, gSet, dBM, dAppend, dClear, dFld, dFldS, dProp, dCall, dMeth, dMake, dMakeN, daStar, dDictP, dCallO, dFor, dLc, diR1, diR2, diR3, diL, diT, diRv, diS, diE, dFmt, dFStr, dJs, dCallN, dFrzE, frz_l, in_ss, notin_ss, drR1, drR2, dListR, dRaise, dRaise0, dTryAs, dTry, dXf, dAddO, dInO, isL, insOf, Option.some.injEq, List.cons.injEq, D.int.injEq, D.bl.injEq, D.str.injEq, D.lst.injEq, D.tup.injEq, D.ref.injEq, MO.lst.injEq, MO.ins.injEq, mset_mset, and_true, true_and, and_self, and_assoc, exists_eq_left', exists_eq_left, exists_and_left, exists_and_right, exists_eq', List.set_cons_zero, List.set_cons_succ, decide_eq_true_eq, sqOf, lsOf, List.length_cons, List.length_nil, sizeLine_eq, List.append_nil, List.cons_append, List.nil_append, if_true, if_false, Bool.false_eq_true, reduceCtorEq, reduceIte, Nat.reduceAdd, Nat.reduceLeDiff, mset_same, Option.bind_some, List.length_map, Prod.mk.injEq, at0, at1, at2, at3, at4, at5, at6, at7, ix30, ix31, ix32, ix20, ix21, ix10, isi_ii, isi_ib, isi_ll, isi_bb, isi_ss, isi_tt, isi_is, isi_si, Bool.not_true, Bool.not_false, T.cl_Task, T.n_Task_name, T.n_Task_kind_rows, T.n_Task_arrow_rows, taskD, lk_name, lk_kinds, lk_arrows, ha, putT1]
    try simp only [dSeq]
    try simp only [dIfS, dTest, dOp, dVar, dC, dCB, daCons, daNil, dSet, dRet, dNext, dDrop, dAsg, dPar, dAug, dAddI, dBreak, dCont, dRetN, slot, dLen, dCmpI, dSub, dAdd, dMul, dDiv, dMod, dPow, dNeg, dUn, dIx, dInt1, dAbs, dChain, dAnd, dOr, dNot, dAndV, dOrV, dNotV, dTru, dTruB, dIf, dTup, dLst, mkL, dSlice, dSl, doNone, doSome, dSum, dAll, dAny, dList, dTuple, dMax, dMin, eq_ii, ne_ii, eq_ss, ne_ss, eq_bb, ne_bb, eq_nn, ne_nn, dIsN, dNotN, dFgt, dIsB, dNotB, gN, gT, gsNil, gsCons, gSet, dBM, dAppend, dClear, dFld, dFldS, dProp, dCall, dMeth, dMake, dMakeN, daStar, dDictP, dCallO, dFor, dLc, diR1, diR2, diR3, diL, diT, diRv, diS, diE, dFmt, dFStr, dJs, dCallN, dFrzE, frz_l, in_ss, notin_ss, drR1, drR2, dListR, dRaise, dRaise0, dTryAs, dTry, dXf, dAddO, dInO, isL, insOf, Option.some.injEq, List.cons.injEq, D.int.injEq, D.bl.injEq, D.str.injEq, D.lst.injEq, D.tup.injEq, D.ref.injEq, MO.lst.injEq, MO.ins.injEq, mset_mset, and_true, true_and, and_self, and_assoc, exists_eq_left', exists_eq_left, exists_and_left, exists_and_right, exists_eq', List.set_cons_zero, List.set_cons_succ, decide_eq_true_eq, sqOf, lsOf, List.length_cons, List.length_nil, sizeLine_eq, List.append_nil, List.cons_append, List.nil_append, if_true, if_false, Bool.false_eq_true, reduceCtorEq, reduceIte, Nat.reduceAdd, Nat.reduceLeDiff, mset_same, Option.bind_some, List.length_map, Prod.mk.injEq, at0, at1, at2, at3, at4, at5, at6, at7, ix30, ix31, ix32, ix20, ix21, ix10, isi_ii, isi_ib, isi_ll, isi_bb, isi_ss, isi_tt, isi_is, isi_si, Bool.not_true, Bool.not_false, T.cl_Task, T.n_Task_name, T.n_Task_kind_rows, T.n_Task_arrow_rows, taskD, lk_name, lk_kinds, lk_arrows, putT2, lk2]
    refine ⟨by omega, t.ks, _, rfl, by have := ok.ks; simpa using this, by omega, ?_⟩
    refine ⟨_, _, mset_same, T.cl_Task, T.n_Task_kind_rows, by simp, T.cl_Task, T.n_Task_kind_rows, _, rfl, ?_⟩
    refine ⟨t.as, _, t.ks, rfl, rfl, ok.as, by omega, by omega, ok.nms, ?_⟩
    rw [mset_mset]
    refine ⟨_, _, mset_same, T.cl_Task, T.n_Task_arrow_rows, by show 2 < 1000; omega, ?_⟩
    rw [mset_mset]
    exact q
  · show t_Task_init K _ _ [some (.ref a), some (.str t.nm), some (ksD t.ks), some (.tup (t.as.map Arr.D))] m
    unfold t_Task_init
    walk_at "zn"
    refine ⟨t.nm, rfl, by omega, ok.nm, ?_⟩
    walk_at "zn"
    rw [if_pos (by omega), if_neg (by simp; omega)]
    walk_at "zn"
    rw [if_neg (by omega)]
    try simp only [dSeq]
    try simp only [dIfS, dTest, dOp, dVar, dC, dCB, daCons, daNil, dSet, dRet, dNext, dDrop, dAsg, dPar, dAug, dAddI, dBreak, dCont, dRetN, slot, dLen, dCmpI, dSub, dAdd, dMul, dDiv, dMod, dPow, dNeg, dUn, dIx, dInt1, dAbs, dChain, dAnd, dOr, dNot, dAndV, dOrV, dNotV, dTru, dTruB, dIf, dTup, dLst, mkL, dSlice, dSl, doNone, doSome, dSum, dAll, dAny, dList, dTuple, dMax, dMin, eq_ii, ne_ii, eq_ss, ne_ss, eq_bb, ne_bb, eq_nn, ne_nn, dIsN, dNotN, dFgt, dIsB, dNotB, gN, gT, gsNil, gsCons, gSet, dBM, dAppend, dClear, dFld, dFldS, dProp, dCall, dMeth, dMake, dMakeN, daStar, dDictP, dCallO, dFor, dLc, diR1, diR2, diR3, diL, diT, diRv, diS, diE, dFmt, dFStr, dJs, dCallN, dFrzE, frz_l, in_ss, notin_ss, drR1, drR2, dListR, dRaise, dRaise0, dTryAs, dTry, dXf, dAddO, dInO, isL, insOf, Option.some.injEq, List.cons.injEq, D.int.injEq, D.bl.injEq, D.str.injEq, D.lst.injEq, D.tup.injEq, D.ref.injEq, MO.lst.injEq, MO.ins.injEq, mset_mset, and_true, true_and, and_self, and_assoc, exists_eq_left', exists_eq_left, exists_and_left, exists_and_right, exists_eq', List.set_cons_zero, List.set_cons_succ, decide_eq_true_eq, sqOf, lsOf, List.length_cons, List.length_nil, sizeLine_eq, List.append_nil, List.cons_append, List.nil_append, if_true, if_false, Bool.false_eq_true, reduceCtorEq, reduceIte, Nat.reduceAdd, Nat.reduceLeDiff, mset_same, Option.bind_some, List.length_map, Prod.mk.injEq, at0, at1, at2, at3, at4, at5, at6, at7, ix30, ix31, ix32, ix20, ix21, ix10, isi_ii, isi_ib, isi_ll, isi_bb, isi_ss, isi_tt, isi_is, isi_si, Bool.not_true, Bool.not_false, T.cl_Task, T.n_Task_name, T.n_Task_kind_rows, T.n_Task_arrow_rows, taskD, lk_name, lk_kinds, lk_arrows, ha, putT1]
    try simp only [dSeq]
    try simp only [dIfS, dTest, dOp, dVar, dC, dCB, daCons, daNil, dSet, dRet, dNext, dDrop, dAsg, dPar, dAug, dAddI, dBreak, dCont, dRetN, slot, dLen, dCmpI, dSub, dAdd, dMul, dDiv, dMod, dPow, dNeg, dUn, dIx, dInt1, dAbs, dChain, dAnd, dOr, dNot, dAndV, dOrV, dNotV, dTru, dTruB, dIf, dTup, dLst, mkL, dSlice, dSl, doNone, doSome, dSum, dAll, dAny, dList, dTuple, dMax, dMin, eq_ii, ne_ii, eq_ss, ne_ss, eq_bb, ne_bb, eq_nn, ne_nn, dIsN, dNotN, dFgt, dIsB, dNotB, gN, gT, gsNil, gsCons, gSet, dBM, dAppend, dClear, dFld, dFldS, dProp, dCall, dMeth, dMake, dMakeN, daStar, dDictP, dCallO, dFor, dLc, diR1, diR2, diR3, diL, diT, diRv, diS, diE, dFmt, dFStr, dJs, dCallN, dFrzE, frz_l, in_ss, notin_ss, drR1, drR2, dListR, dRaise, dRaise0, dTryAs, dTry, dXf, dAddO, dInO, isL, insOf, Option.some.injEq, List.cons.injEq, D.int.injEq, D.bl.injEq, D.str.injEq, D.lst.injEq, D.tup.injEq, D.ref.injEq, MO.lst.injEq, MO.ins.injEq, mset_mset, and_true, true_and, and_self, and_assoc, exists_eq_left', exists_eq_left, exists_and_left, exists_and_right, exists_eq', List.set_cons_zero, List.set_cons_succ, decide_eq_true_eq, sqOf, lsOf, List.length_cons, List.length_nil, sizeLine_eq, List.append_nil, List.cons_append, List.nil_append, if_true, if_false, Bool.false_eq_true, reduceCtorEq, reduceIte, Nat.reduceAdd, Nat.reduceLeDiff, mset_same, Option.bind_some, List.length_map, Prod.mk.injEq, at0, at1, at2, at3, at4, at5, at6, at7, ix30, ix31, ix32, ix20, ix21, ix10, isi_ii, isi_ib, isi_ll, isi_bb, isi_ss, isi_tt, isi_is, isi_si, Bool.not_true, Bool.not_false, T.cl_Task, T.n_Task_name, T.n_Task_kind_rows, T.n_Task_arrow_rows, taskD, lk_name, lk_kinds, lk_arrows, putT2, lk2]
    refine ⟨by omega, t.ks, _, rfl, by have := ok.ks; simpa using this, by omega, ?_⟩
    refine ⟨_, _, mset_same, T.cl_Task, T.n_Task_kind_rows, by simp, T.cl_Task, T.n_Task_kind_rows, _, rfl, ?_⟩
    refine ⟨t.as, _, t.ks, rfl, rfl, ok.as, by omega, by omega, ok.nms, ?_⟩
    rw [mset_mset]
    refine ⟨_, _, mset_same, T.cl_Task, T.n_Task_arrow_rows, by show 2 < 1000; omega, ?_⟩
    rw [mset_mset]
    exact q
theorem none_Task_init {K : Fr0} : ∀ ds m Q E, sp_Task_init K ds m Q E → sp_Task_init K ds m (fun d m' => d = .non ∧ Q d m') E := by
  rintro ds m Q E ⟨a, t, x, rfl, hx, ha, ok, q⟩
  exact ⟨a, t, x, rfl, hx, ha, ok, rfl, q⟩
theorem pure_Task_kinds {K : Fr0} {mg : Str → Option Value} (T : Txt K mg) (ds : List D) (m : M) (Q : D → M → Prop) (E : XD → M → Prop) (h : sp_Task_kinds K ds m Q E) : t_Task_kinds K (fun x _ m => E x m) { nx := fun _ m => Q .non m, rt := Q } (startD nm_Task_kinds ds) m := by
  obtain ⟨t, x, rfl, rfl, q⟩ := h
  show t_Task_kinds K _ _ [some (taskD K t)] m
  unfold t_Task_kinds
  try simp only [dSeq, dIfS, dTest, dOp, dVar, dC, dCB, daCons, daNil, dSet, dRet, dNext, dDrop, dAsg, dPar, dAug, dAddI, dBreak, dCont, dRetN, slot, dLen, dCmpI, dSub, dAdd, dMul, dDiv, dMod, dPow, dNeg, dUn, dIx, dInt1, dAbs, dChain, dAnd, dOr, dNot, dAndV, dOrV, dNotV, dTru, dTruB, dIf, dTup, dLst, mkL, dSlice, dSl, doNone, doSome, dSum, dAll, dAny, dList, dTuple, dMax, dMin, eq_ii, ne_ii, eq_ss, ne_ss, eq_bb, ne_bb, eq_nn, ne_nn, dIsN, dNotN, dFgt, dIsB, dNotB, gN, gT, gsNil, gsCons, gSet, dBM, dAppend, dClear, dFld, dFldS, dProp, dCall, dMeth, dMake, dMakeN, daStar, dDictP, dCallO, dFor, dLc, diR1, diR2, diR3, diL, diT, diRv, diS, diE, dFmt, dFStr, dJs, dCallN, dFrzE, frz_l, in_ss, notin_ss, drR1, drR2, dListR, dRaise, dRaise0, dTryAs, dTry, dXf, dAddO, dInO, isL, insOf, Option.some.injEq, List.cons.injEq, D.int.injEq, D.bl.injEq, D.str.injEq, D.lst.injEq, D.tup.injEq, D.ref.injEq, MO.lst.injEq, MO.ins.injEq, mset_mset, and_true, true_and, and_self, and_assoc, exists_eq_left', exists_eq_left, exists_and_left, exists_and_right, exists_eq', List.set_cons_zero, List.set_cons_succ, decide_eq_true_eq, sqOf, lsOf, List.length_cons, List.length_nil, sizeLine_eq, List.append_nil, List.cons_append, List.nil_append, if_true, if_false, Bool.false_eq_true, reduceCtorEq, reduceIte, Nat.reduceAdd, Nat.reduceLeDiff, mset_same, Option.bind_some, List.length_map, Prod.mk.injEq, at0, at1, at2, at3, at4, at5, at6, at7, ix30, ix31, ix32, ix20, ix21, ix10, isi_ii, isi_ib, isi_ll, isi_bb, isi_ss, isi_tt, isi_is, isi_si, Bool.not_true, Bool.not_false, T.cl_Task, T.n_Task_name, T.n_Task_kind_rows, T.n_Task_arrow_rows, taskD, lk_name, lk_kinds, lk_arrows]
  exact q
theorem kOf_is {t : Tsk} (ok : t.Ok) {k : Knd} (hk : k ∈ t.ks) : kOf t k.n = k := by
  unfold kOf
  cases e : t.ks.find? (fun x => decide (x.n = k.n)) with
  | none =>
    have := List.find?_eq_none.mp e k hk
    simp at this
  | some x =>
    have h1 := List.mem_of_find?_eq_some e
    have h2 : x.n = k.n := by simpa using List.find?_some e
    obtain ⟨i, hi⟩ := List.mem_iff_getElem?.mp h1
    obtain ⟨j, hj⟩ := List.mem_iff_getElem?.mp hk
    have e1 : (names t.ks)[i]? = some x.n := by rw [List.getElem?_map, hi]; rfl
    have e2 : (names t.ks)[j]? = some k.n := by rw [List.getElem?_map, hj]; rfl
    have ij : i = j := (List.getElem?_inj (by rw [List.length_map]; exact len_at hi) ok.ks.nd).mp (by rw [e1, e2, h2])
    subst ij
    rw [hi] at hj
    cases hj
    rfl
theorem known {t : Tsk} {z : Str} (h : z ∈ names t.ks) : ∃ k ∈ t.ks, k.n = z := by
  obtain ⟨k, hk, e⟩ := List.mem_map.mp h
  exact ⟨k, hk, e⟩
theorem pure_Task_row_of {K : Fr0} {mg : Str → Option Value} (T : Txt K mg) (ds : List D) (m : M) (Q : D → M → Prop) (E : XD → M → Prop) (h : sp_Task_row_of K ds m Q E) : t_Task_row_of K (fun x _ m => E x m) { nx := fun _ m => Q .non m, rt := Q } (startD nm_Task_row_of ds) m := by
  obtain ⟨t, x, z, rfl, rfl, ok, q, qe⟩ := h
  show t_Task_row_of K _ _ [some (taskD K t), some (.str z), none] m
  unfold t_Task_row_of
  try simp only [dSeq]
  try simp only [dIfS, dTest, dOp, dVar, dC, dCB, daCons, daNil, dSet, dRet, dNext, dDrop, dAsg, dPar, dAug, dAddI, dBreak, dCont, dRetN, slot, dLen, dCmpI, dSub, dAdd, dMul, dDiv, dMod, dPow, dNeg, dUn, dIx, dInt1, dAbs, dChain, dAnd, dOr, dNot, dAndV, dOrV, dNotV, dTru, dTruB, dIf, dTup, dLst, mkL, dSlice, dSl, doNone, doSome, dSum, dAll, dAny, dList, dTuple, dMax, dMin, eq_ii, ne_ii, eq_ss, ne_ss, eq_bb, ne_bb, eq_nn, ne_nn, dIsN, dNotN, dFgt, dIsB, dNotB, gN, gT, gsNil, gsCons, gSet, dBM, dAppend, dClear, dFld, dFldS, dProp, dCall, dMeth, dMake, dMakeN, daStar, dDictP, dCallO, dFor, dLc, diR1, diR2, diR3, diL, diT, diRv, diS, diE, dFmt, dFStr, dJs, dCallN, dFrzE, frz_l, in_ss, notin_ss, drR1, drR2, dListR, dRaise, dRaise0, dTryAs, dTry, dXf, dAddO, dInO, isL, insOf, Option.some.injEq, List.cons.injEq, D.int.injEq, D.bl.injEq, D.str.injEq, D.lst.injEq, D.tup.injEq, D.ref.injEq, MO.lst.injEq, MO.ins.injEq, mset_mset, and_true, true_and, and_self, and_assoc, exists_eq_left', exists_eq_left, exists_and_left, exists_and_right, exists_eq', List.set_cons_zero, List.set_cons_succ, decide_eq_true_eq, sqOf, lsOf, List.length_cons, List.length_nil, sizeLine_eq, List.append_nil, List.cons_append, List.nil_append, if_true, if_false, Bool.false_eq_true, reduceCtorEq, reduceIte, Nat.reduceAdd, Nat.reduceLeDiff, mset_same, Option.bind_some, List.length_map, Prod.mk.injEq, at0, at1, at2, at3, at4, at5, at6, at7, ix30, ix31, ix32, ix20, ix21, ix10, isi_ii, isi_ib, isi_ll, isi_bb, isi_ss, isi_tt, isi_is, isi_si, Bool.not_true, Bool.not_false, T.cl_Task, T.n_Task_name, T.n_Task_kind_rows, T.n_Task_arrow_rows, taskD, lk_name, lk_kinds, lk_arrows]
  obtain ⟨P1, hP1⟩ : ∃ P : Nat → DSt → M → Prop, ∀ j r m', P j r m' ↔ (m' = m ∧ (∀ i k, i < j → t.ks[i]? = some k → k.n ≠ z) ∧ ∃ o2, r = [some (taskD K t), some (.str z), o2]) := ⟨_, fun _ _ _ => Iff.rfl⟩
  refine ⟨P1, (hP1 _ _ _).mpr ⟨rfl, fun i k h => absurd h (Nat.not_lt_zero _), _, rfl⟩, ?_, ?_⟩
  · intro j d r m' hd hp1
    obtain ⟨rfl, hn, o2, rfl⟩ := (hP1 _ _ _).mp hp1
    obtain ⟨k, hk, rfl⟩ := map_at hd
    simp only [Knd.D]
    walk_at "zs"
    by_cases e : k.n = z
    · rw [if_pos e]
      exact q k (mem_at hk) e
    · rw [if_neg e]
      refine (hP1 _ _ _).mpr ⟨rfl, fun i k2 hi h2 => ?_, _, rfl⟩
      by_cases hij : i = j
      · subst hij
        rw [hk] at h2
        cases h2
        exact e
      · exact hn i k2 (by omega) h2
  · intro r m' hp1
    obtain ⟨rfl, hn, o2, rfl⟩ := (hP1 _ _ _).mp hp1
    rw [List.length_map] at hn
    walk_at "zs"
    refine qe fun hz => ?_
    obtain ⟨k, hk, e⟩ := known hz
    obtain ⟨i, hi⟩ := List.mem_iff_getElem?.mp hk
    exact hn i k (len_at hi) hi e
theorem pure_Task_cost_of {K : Fr0} {mg : Str → Option Value} (T : Txt K mg) (ds : List D) (m : M) (Q : D → M → Prop) (E : XD → M → Prop) (h : sp_Task_cost_of K ds m Q E) : t_Task_cost_of K (fun x _ m => E x m) { nx := fun _ m => Q .non m, rt := Q } (startD nm_Task_cost_of ds) m := by
  obtain ⟨t, x, z, rfl, rfl, ok, q, qe⟩ := h
  show t_Task_cost_of K _ _ [some (taskD K t), some (.str z)] m
  unfold t_Task_cost_of
  try simp only [dIfS, dTest, dOp, dVar, dC, dCB, daCons, daNil, dSet, dRet, dNext, dDrop, dAsg, dPar, dAug, dAddI, dBreak, dCont, dRetN, slot, dLen, dCmpI, dSub, dAdd, dMul, dDiv, dMod, dPow, dNeg, dUn, dIx, dInt1, dAbs, dChain, dAnd, dOr, dNot, dAndV, dOrV, dNotV, dTru, dTruB, dIf, dTup, dLst, mkL, dSlice, dSl, doNone, doSome, dSum, dAll, dAny, dList, dTuple, dMax, dMin, eq_ii, ne_ii, eq_ss, ne_ss, eq_bb, ne_bb, eq_nn, ne_nn, dIsN, dNotN, dFgt, dIsB, dNotB, gN, gT, gsNil, gsCons, gSet, dBM, dAppend, dClear, dFld, dFldS, dProp, dCall, dMeth, dMake, dMakeN, daStar, dDictP, dCallO, dFor, dLc, diR1, diR2, diR3, diL, diT, diRv, diS, diE, dFmt, dFStr, dJs, dCallN, dFrzE, frz_l, in_ss, notin_ss, drR1, drR2, dListR, dRaise, dRaise0, dTryAs, dTry, dXf, dAddO, dInO, isL, insOf, Option.some.injEq, List.cons.injEq, D.int.injEq, D.bl.injEq, D.str.injEq, D.lst.injEq, D.tup.injEq, D.ref.injEq, MO.lst.injEq, MO.ins.injEq, mset_mset, and_true, true_and, and_self, and_assoc, exists_eq_left', exists_eq_left, exists_and_left, exists_and_right, exists_eq', List.set_cons_zero, List.set_cons_succ, decide_eq_true_eq, sqOf, lsOf, List.length_cons, List.length_nil, sizeLine_eq, List.append_nil, List.cons_append, List.nil_append, if_true, if_false, Bool.false_eq_true, reduceCtorEq, reduceIte, Nat.reduceAdd, Nat.reduceLeDiff, mset_same, Option.bind_some, List.length_map, Prod.mk.injEq, at0, at1, at2, at3, at4, at5, at6, at7, ix30, ix31, ix32, ix20, ix21, ix10, isi_ii, isi_ib, isi_ll, isi_bb, isi_ss, isi_tt, isi_is, isi_si, Bool.not_true, Bool.not_false, T.cl_Task, T.n_Task_name, T.n_Task_kind_rows, T.n_Task_arrow_rows, taskD, lk_name, lk_kinds, lk_arrows]
  refine ⟨rfl, t, _, z, rfl, rfl, ok, fun k hk e => ?_, qe⟩
  simp only [Knd.D]
  walk_at "zs"
  exact q k hk e
theorem pure_Task_deadline_of {K : Fr0} {mg : Str → Option Value} (T : Txt K mg) (ds : List D) (m : M) (Q : D → M → Prop) (E : XD → M → Prop) (h : sp_Task_deadline_of K ds m Q E) : t_Task_deadline_of K (fun x _ m => E x m) { nx := fun _ m => Q .non m, rt := Q } (startD nm_Task_deadline_of ds) m := by
  obtain ⟨t, x, z, rfl, rfl, ok, q, qe⟩ := h
  show t_Task_deadline_of K _ _ [some (taskD K t), some (.str z)] m
  unfold t_Task_deadline_of
  try simp only [dIfS, dTest, dOp, dVar, dC, dCB, daCons, daNil, dSet, dRet, dNext, dDrop, dAsg, dPar, dAug, dAddI, dBreak, dCont, dRetN, slot, dLen, dCmpI, dSub, dAdd, dMul, dDiv, dMod, dPow, dNeg, dUn, dIx, dInt1, dAbs, dChain, dAnd, dOr, dNot, dAndV, dOrV, dNotV, dTru, dTruB, dIf, dTup, dLst, mkL, dSlice, dSl, doNone, doSome, dSum, dAll, dAny, dList, dTuple, dMax, dMin, eq_ii, ne_ii, eq_ss, ne_ss, eq_bb, ne_bb, eq_nn, ne_nn, dIsN, dNotN, dFgt, dIsB, dNotB, gN, gT, gsNil, gsCons, gSet, dBM, dAppend, dClear, dFld, dFldS, dProp, dCall, dMeth, dMake, dMakeN, daStar, dDictP, dCallO, dFor, dLc, diR1, diR2, diR3, diL, diT, diRv, diS, diE, dFmt, dFStr, dJs, dCallN, dFrzE, frz_l, in_ss, notin_ss, drR1, drR2, dListR, dRaise, dRaise0, dTryAs, dTry, dXf, dAddO, dInO, isL, insOf, Option.some.injEq, List.cons.injEq, D.int.injEq, D.bl.injEq, D.str.injEq, D.lst.injEq, D.tup.injEq, D.ref.injEq, MO.lst.injEq, MO.ins.injEq, mset_mset, and_true, true_and, and_self, and_assoc, exists_eq_left', exists_eq_left, exists_and_left, exists_and_right, exists_eq', List.set_cons_zero, List.set_cons_succ, decide_eq_true_eq, sqOf, lsOf, List.length_cons, List.length_nil, sizeLine_eq, List.append_nil, List.cons_append, List.nil_append, if_true, if_false, Bool.false_eq_true, reduceCtorEq, reduceIte, Nat.reduceAdd, Nat.reduceLeDiff, mset_same, Option.bind_some, List.length_map, Prod.mk.injEq, at0, at1, at2, at3, at4, at5, at6, at7, ix30, ix31, ix32, ix20, ix21, ix10, isi_ii, isi_ib, isi_ll, isi_bb, isi_ss, isi_tt, isi_is, isi_si, Bool.not_true, Bool.not_false, T.cl_Task, T.n_Task_name, T.n_Task_kind_rows, T.n_Task_arrow_rows, taskD, lk_name, lk_kinds, lk_arrows]
  refine ⟨rfl, t, _, z, rfl, rfl, ok, fun k hk e => ?_, qe⟩
  simp only [Knd.D]
  walk_at "zs"
  exact q k hk e
theorem foll_eq (t : Tsk) (z : Str) : List.map (fun d => match d with | .tup [_, x, y] => D.tup [x, y] | _ => .non) (List.filter (fun d => match d with | .tup [.str x, _, _] => decide (x = z) | _ => false) (t.as.map Arr.D)) = (foll t z).map folD := by
  unfold foll
  rw [List.filter_map, List.map_map]
  rfl
theorem pure_Task_followers {K : Fr0} {mg : Str → Option Value} (T : Txt K mg) (ds : List D) (m : M) (Q : D → M → Prop) (E : XD → M → Prop) (h : sp_Task_followers K ds m Q E) : t_Task_followers K (fun x _ m => E x m) { nx := fun _ m => Q .non m, rt := Q } (startD nm_Task_followers ds) m := by
  obtain ⟨t, x, z, rfl, rfl, ok, q, qe⟩ := h
  show t_Task_followers K _ _ [some (taskD K t), some (.str z), none, none, none] m
  unfold t_Task_followers
  try simp only [dSeq]
  try simp only [dIfS, dTest, dOp, dVar, dC, dCB, daCons, daNil, dSet, dRet, dNext, dDrop, dAsg, dPar, dAug, dAddI, dBreak, dCont, dRetN, slot, dLen, dCmpI, dSub, dAdd, dMul, dDiv, dMod, dPow, dNeg, dUn, dIx, dInt1, dAbs, dChain, dAnd, dOr, dNot, dAndV, dOrV, dNotV, dTru, dTruB, dIf, dTup, dLst, mkL, dSlice, dSl, doNone, doSome, dSum, dAll, dAny, dList, dTuple, dMax, dMin, eq_ii, ne_ii, eq_ss, ne_ss, eq_bb, ne_bb, eq_nn, ne_nn, dIsN, dNotN, dFgt, dIsB, dNotB, gN, gT, gsNil, gsCons, gSet, dBM, dAppend, dClear, dFld, dFldS, dProp, dCall, dMeth, dMake, dMakeN, daStar, dDictP, dCallO, dFor, dLc, diR1, diR2, diR3, diL, diT, diRv, diS, diE, dFmt, dFStr, dJs, dCallN, dFrzE, frz_l, in_ss, notin_ss, drR1, drR2, dListR, dRaise, dRaise0, dTryAs, dTry, dXf, dAddO, dInO, isL, insOf, Option.some.injEq, List.cons.injEq, D.int.injEq, D.bl.injEq, D.str.injEq, D.lst.injEq, D.tup.injEq, D.ref.injEq, MO.lst.injEq, MO.ins.injEq, mset_mset, and_true, true_and, and_self, and_assoc, exists_eq_left', exists_eq_left, exists_and_left, exists_and_right, exists_eq', List.set_cons_zero, List.set_cons_succ, decide_eq_true_eq, sqOf, lsOf, List.length_cons, List.length_nil, sizeLine_eq, List.append_nil, List.cons_append, List.nil_append, if_true, if_false, Bool.false_eq_true, reduceCtorEq, reduceIte, Nat.reduceAdd, Nat.reduceLeDiff, mset_same, Option.bind_some, List.length_map, Prod.mk.injEq, at0, at1, at2, at3, at4, at5, at6, at7, ix30, ix31, ix32, ix20, ix21, ix10, isi_ii, isi_ib, isi_ll, isi_bb, isi_ss, isi_tt, isi_is, isi_si, Bool.not_true, Bool.not_false, T.cl_Task, T.n_Task_name, T.n_Task_kind_rows, T.n_Task_arrow_rows, taskD, lk_name, lk_kinds, lk_arrows]
  have := ok.a12
  refine ⟨rfl, t, _, z, rfl, rfl, ok, fun k hk e => ?_, qe⟩
  try simp only [dSeq]
  try simp only [dIfS, dTest, dOp, dVar, dC, dCB, daCons, daNil, dSet, dRet, dNext, dDrop, dAsg, dPar, dAug, dAddI, dBreak, dCont, dRetN, slot, dLen, dCmpI, dSub, dAdd, dMul, dDiv, dMod, dPow, dNeg, dUn, dIx, dInt1, dAbs, dChain, dAnd, dOr, dNot, dAndV, dOrV, dNotV, dTru, dTruB, dIf, dTup, dLst, mkL, dSlice, dSl, doNone, doSome, dSum, dAll, dAny, dList, dTuple, dMax, dMin, eq_ii, ne_ii, eq_ss, ne_ss, eq_bb, ne_bb, eq_nn, ne_nn, dIsN, dNotN, dFgt, dIsB, dNotB, gN, gT, gsNil, gsCons, gSet, dBM, dAppend, dClear, dFld, dFldS, dProp, dCall, dMeth, dMake, dMakeN, daStar, dDictP, dCallO, dFor, dLc, diR1, diR2, diR3, diL, diT, diRv, diS, diE, dFmt, dFStr, dJs, dCallN, dFrzE, frz_l, in_ss, notin_ss, drR1, drR2, dListR, dRaise, dRaise0, dTryAs, dTry, dXf, dAddO, dInO, isL, insOf, Option.some.injEq, List.cons.injEq, D.int.injEq, D.bl.injEq, D.str.injEq, D.lst.injEq, D.tup.injEq, D.ref.injEq, MO.lst.injEq, MO.ins.injEq, mset_mset, and_true, true_and, and_self, and_assoc, exists_eq_left', exists_eq_left, exists_and_left, exists_and_right, exists_eq', List.set_cons_zero, List.set_cons_succ, decide_eq_true_eq, sqOf, lsOf, List.length_cons, List.length_nil, sizeLine_eq, List.append_nil, List.cons_append, List.nil_append, if_true, if_false, Bool.false_eq_true, reduceCtorEq, reduceIte, Nat.reduceAdd, Nat.reduceLeDiff, mset_same, Option.bind_some, List.length_map, Prod.mk.injEq, at0, at1, at2, at3, at4, at5, at6, at7, ix30, ix31, ix32, ix20, ix21, ix10, isi_ii, isi_ib, isi_ll, isi_bb, isi_ss, isi_tt, isi_is, isi_si, Bool.not_true, Bool.not_false, T.cl_Task, T.n_Task_name, T.n_Task_kind_rows, T.n_Task_arrow_rows, taskD, lk_name, lk_kinds, lk_arrows]
  refine lc_filter (fun d => match d with | .tup [.str x, _, _] => decide (x = z) | _ => false) (fun d => match d with | .tup [_, x, y] => D.tup [x, y] | _ => .non) (by rw [sizeLine_eq]; simp; omega) (fun x hx => ?_) ?_
  · obtain ⟨a, ha, rfl⟩ := List.mem_map.mp hx
    refine ⟨_, rfl, fun Q' q' => ?_, fun _ Q' q' => ?_⟩
    · simp only [wipeD, Arr.D]
      walk_at "zs"
      exact q'
    · simp only [wipeD, Arr.D]
      walk_at "zs"
      exact q'
  · rw [List.nil_append, foll_eq]
    exact q (by rw [← e]; exact List.mem_map_of_mem hk)
theorem pure_gap_between {K : Fr0} {mg : Str → Option Value} (T : Txt K mg) (ds : List D) (m : M) (Q : D → M → Prop) (E : XD → M → Prop) (h : sp_gap_between K ds m Q E) : t_gap_between K (fun x _ m => E x m) { nx := fun _ m => Q .non m, rt := Q } (startD nm_gap_between ds) m := by
  obtain ⟨t, x, z, w, rfl, rfl, ok, hz, q⟩ := h
  show t_gap_between K _ _ [some (taskD K t), some (.str z), some (.str w), none, none] m
  unfold t_gap_between
  try simp only [dSeq]
  try simp only [dIfS, dTest, dOp, dVar, dC, dCB, daCons, daNil, dSet, dRet, dNext, dDrop, dAsg, dPar, dAug, dAddI, dBreak, dCont, dRetN, slot, dLen, dCmpI, dSub, dAdd, dMul, dDiv, dMod, dPow, dNeg, dUn, dIx, dInt1, dAbs, dChain, dAnd, dOr, dNot, dAndV, dOrV, dNotV, dTru, dTruB, dIf, dTup, dLst, mkL, dSlice, dSl, doNone, doSome, dSum, dAll, dAny, dList, dTuple, dMax, dMin, eq_ii, ne_ii, eq_ss, ne_ss, eq_bb, ne_bb, eq_nn, ne_nn, dIsN, dNotN, dFgt, dIsB, dNotB, gN, gT, gsNil, gsCons, gSet, dBM, dAppend, dClear, dFld, dFldS, dProp, dCall, dMeth, dMake, dMakeN, daStar, dDictP, dCallO, dFor, dLc, diR1, diR2, diR3, diL, diT, diRv, diS, diE, dFmt, dFStr, dJs, dCallN, dFrzE, frz_l, in_ss, notin_ss, drR1, drR2, dListR, dRaise, dRaise0, dTryAs, dTry, dXf, dAddO, dInO, isL, insOf, Option.some.injEq, List.cons.injEq, D.int.injEq, D.bl.injEq, D.str.injEq, D.lst.injEq, D.tup.injEq, D.ref.injEq, MO.lst.injEq, MO.ins.injEq, mset_mset, and_true, true_and, and_self, and_assoc, exists_eq_left', exists_eq_left, exists_and_left, exists_and_right, exists_eq', List.set_cons_zero, List.set_cons_succ, decide_eq_true_eq, sqOf, lsOf, List.length_cons, List.length_nil, sizeLine_eq, List.append_nil, List.cons_append, List.nil_append, if_true, if_false, Bool.false_eq_true, reduceCtorEq, reduceIte, Nat.reduceAdd, Nat.reduceLeDiff, mset_same, Option.bind_some, List.length_map, Prod.mk.injEq, at0, at1, at2, at3, at4, at5, at6, at7, ix30, ix31, ix32, ix20, ix21, ix10, isi_ii, isi_ib, isi_ll, isi_bb, isi_ss, isi_tt, isi_is, isi_si, Bool.not_true, Bool.not_false, T.cl_Task, T.n_Task_name, T.n_Task_kind_rows, T.n_Task_arrow_rows, taskD, lk_name, lk_kinds, lk_arrows]
  refine ⟨rfl, t, _, z, rfl, rfl, ok, fun _ => ?_, fun h => absurd hz h⟩
  walk_at "zn"
  obtain ⟨P1, hP1⟩ : ∃ P : Nat → DSt → M → Prop, ∀ j r m', P j r m' ↔ (m' = m ∧ (∀ i a, i < j → (foll t z)[i]? = some a → a.s ≠ w) ∧ ∃ o3 o4, r = [some (taskD K t), some (.str z), some (.str w), o3, o4]) := ⟨_, fun _ _ _ => Iff.rfl⟩
  refine ⟨P1, (hP1 _ _ _).mpr ⟨rfl, fun i k h => absurd h (Nat.not_lt_zero _), _, _, rfl⟩, ?_, ?_⟩
  · intro j d r m' hd hp1
    obtain ⟨rfl, hn, o3, o4, rfl⟩ := (hP1 _ _ _).mp hp1
    obtain ⟨a, ha, rfl⟩ := map_at hd
    simp only [folD]
    walk_at "zs"
    by_cases e : a.s = w
    · rw [if_pos e]
      have : gapF t z w = some a.g := by
        unfold gapF
        rw [List.find?_eq_some_iff_getElem.mpr ⟨by simpa using e, j, len_at ha, (List.getElem?_eq_some_iff.mp ha).2, fun i hi => ?_⟩]
        · rfl
        · have hl := len_at ha
          have := hn i _ hi (List.getElem?_eq_getElem (by omega))
          simpa using this
      rw [this] at q
      exact q
    · rw [if_neg e]
      refine (hP1 _ _ _).mpr ⟨rfl, fun i k2 hi h2 => ?_, _, _, rfl⟩
      by_cases hij : i = j
      · subst hij
        rw [ha] at h2
        cases h2
        exact e
      · exact hn i k2 (by omega) h2
  · intro r m' hp1
    obtain ⟨rfl, hn, o3, o4, rfl⟩ := (hP1 _ _ _).mp hp1
    rw [List.length_map] at hn
    walk_at "zs"
    have : gapF t z w = none := by
      unfold gapF
      rw [List.find?_eq_none.mpr fun a ha => ?_]
      · rfl
      · obtain ⟨i, hi⟩ := List.mem_iff_getElem?.mp ha
        have := hn i a (len_at hi) hi
        simpa using this
    rw [this] at q
    exact q
section
variable {K : Fr0} {g : Int} {js : List Rw}
theorem lk_grain : (runF g js).lookup ("grain" : Str) = some (.int g) := rfl
theorem lk_placed : (runF g js).lookup ("placed" : Str) = some (.lst (js.map Rw.D)) := rfl
theorem putR1 {a : D} : putD "grain" a [] = [(("grain" : Str), a)] := rfl
theorem putR2 {a b : D} : putD "placed" b [(("grain" : Str), a)] = [(("grain" : Str), a), ("placed", b)] := rfl
end
theorem jAt_at {w : List Job} {p : Nat} (h : p < w.length) : w[p]? = some (jAt w p) := by
  unfold jAt
  rw [List.getD_eq_getElem?_getD, List.getElem?_eq_getElem h]
  rfl
theorem jAt_I {w : List Job} {p : Nat} (h : p < w.length) : atI (w.map Job.D) (p : Int) = some (jAt w p).D := atI_nat (by rw [List.getElem?_map, jAt_at h]; rfl)
theorem wAt_at {ws : List (List Job)} {i : Nat} (h : i < ws.length) : ws[i]? = some (wAt ws i) := by
  unfold wAt
  rw [List.getD_eq_getElem?_getD, List.getElem?_eq_getElem h]
  rfl
theorem tAt_at {ts : List Tsk} {i : Nat} (h : i < ts.length) : ts[i]? = some (tAt ts i) := by
  unfold tAt
  rw [List.getD_eq_getElem?_getD, List.getElem?_eq_getElem h]
  rfl
theorem tAt_I {f : Tsk → D} {ts : List Tsk} {i : Nat} (h : i < ts.length) : atI (ts.map f) (i : Int) = some (f (tAt ts i)) := atI_nat (by rw [List.getElem?_map, tAt_at h]; rfl)
theorem kn_b {t : Tsk} (ok : t.Ok) {k : Knd} (h : k ∈ t.ks) : (1 ≤ k.c ∧ k.c ≤ 99) ∧ 1 ≤ k.d ∧ k.d ≤ 99 := by
  have h1 := ok.ks.c k h
  have h2 := ok.ks.d k h
  cases hb : decide (0 < t.as.length) <;> rw [hb] at h1 h2 <;> simp at h1 h2 <;> omega
theorem gapF_b {t : Tsk} (ok : t.Ok) {z w : Str} {a : Int} (h : gapF t z w = some a) : 1 ≤ a ∧ a ≤ 12 := by
  unfold gapF at h
  obtain ⟨x, hx, rfl⟩ := Option.map_eq_some_iff.mp h
  exact ok.as.g x (List.mem_filter.mp (List.mem_of_find?_eq_some hx)).1
theorem pure_check_job {K : Fr0} {mg : Str → Option Value} (T : Txt K mg) (ds : List D) (m : M) (Q : D → M → Prop) (E : XD → M → Prop) (h : sp_check_job K ds m Q E) : t_check_job K (fun x _ m => E x m) { nx := fun _ m => Q .non m, rt := Q } (startD nm_check_job ds) m := by
  obtain ⟨t, x, w, i, p, g, rfl, rfl, ok, hp, hb, ⟨g1, g2⟩, o⟩ := h
  show t_check_job K _ _ [some (taskD K t), some (wkD w), some (.int i), some (.int p), some (.int g), none, none, none, none, none, none] m
  unfold t_check_job
  have ea := jAt_I hp
  unfold jobX at o
  generalize jAt w p = j at *
  try simp only [dSeq]
  try simp only [dIfS, dTest, dOp, dVar, dC, dCB, daCons, daNil, dSet, dRet, dNext, dDrop, dAsg, dPar, dAug, dAddI, dBreak, dCont, dRetN, slot, dLen, dCmpI, dSub, dAdd, dMul, dDiv, dMod, dPow, dNeg, dUn, dIx, dInt1, dAbs, dChain, dAnd, dOr, dNot, dAndV, dOrV, dNotV, dTru, dTruB, dIf, dTup, dLst, mkL, dSlice, dSl, doNone, doSome, dSum, dAll, dAny, dList, dTuple, dMax, dMin, eq_ii, ne_ii, eq_ss, ne_ss, eq_bb, ne_bb, eq_nn, ne_nn, dIsN, dNotN, dFgt, dIsB, dNotB, gN, gT, gsNil, gsCons, gSet, dBM, dAppend, dClear, dFld, dFldS, dProp, dCall, dMeth, dMake, dMakeN, daStar, dDictP, dCallO, dFor, dLc, diR1, diR2, diR3, diL, diT, diRv, diS, diE, dFmt, dFStr, dJs, dCallN, dFrzE, frz_l, in_ss, notin_ss, drR1, drR2, dListR, dRaise, dRaise0, dTryAs, dTry, dXf, dAddO, dInO, isL, insOf, Option.some.injEq, List.cons.injEq, D.int.injEq, D.bl.injEq, D.str.injEq, D.lst.injEq, D.tup.injEq, D.ref.injEq, MO.lst.injEq, MO.ins.injEq, mset_mset, and_true, true_and, and_self, and_assoc, exists_eq_left', exists_eq_left, exists_and_left, exists_and_right, exists_eq', List.set_cons_zero, List.set_cons_succ, decide_eq_true_eq, sqOf, lsOf, List.length_cons, List.length_nil, sizeLine_eq, List.append_nil, List.cons_append, List.nil_append, if_true, if_false, Bool.false_eq_true, reduceCtorEq, reduceIte, Nat.reduceAdd, Nat.reduceLeDiff, mset_same, Option.bind_some, List.length_map, Prod.mk.injEq, at0, at1, at2, at3, at4, at5, at6, at7, ix30, ix31, ix32, ix20, ix21, ix10, isi_ii, isi_ib, isi_ll, isi_bb, isi_ss, isi_tt, isi_is, isi_si, Bool.not_true, Bool.not_false, ea, Job.D]
  try simp only [dSeq]
  try simp only [dIfS, dTest, dOp, dVar, dC, dCB, daCons, daNil, dSet, dRet, dNext, dDrop, dAsg, dPar, dAug, dAddI, dBreak, dCont, dRetN, slot, dLen, dCmpI, dSub, dAdd, dMul, dDiv, dMod, dPow, dNeg, dUn, dIx, dInt1, dAbs, dChain, dAnd, dOr, dNot, dAndV, dOrV, dNotV, dTru, dTruB, dIf, dTup, dLst, mkL, dSlice, dSl, doNone, doSome, dSum, dAll, dAny, dList, dTuple, dMax, dMin, eq_ii, ne_ii, eq_ss, ne_ss, eq_bb, ne_bb, eq_nn, ne_nn, dIsN, dNotN, dFgt, dIsB, dNotB, gN, gT, gsNil, gsCons, gSet, dBM, dAppend, dClear, dFld, dFldS, dProp, dCall, dMeth, dMake, dMakeN, daStar, dDictP, dCallO, dFor, dLc, diR1, diR2, diR3, diL, diT, diRv, diS, diE, dFmt, dFStr, dJs, dCallN, dFrzE, frz_l, in_ss, notin_ss, drR1, drR2, dListR, dRaise, dRaise0, dTryAs, dTry, dXf, dAddO, dInO, isL, insOf, Option.some.injEq, List.cons.injEq, D.int.injEq, D.bl.injEq, D.str.injEq, D.lst.injEq, D.tup.injEq, D.ref.injEq, MO.lst.injEq, MO.ins.injEq, mset_mset, and_true, true_and, and_self, and_assoc, exists_eq_left', exists_eq_left, exists_and_left, exists_and_right, exists_eq', List.set_cons_zero, List.set_cons_succ, decide_eq_true_eq, sqOf, lsOf, List.length_cons, List.length_nil, sizeLine_eq, List.append_nil, List.cons_append, List.nil_append, if_true, if_false, Bool.false_eq_true, reduceCtorEq, reduceIte, Nat.reduceAdd, Nat.reduceLeDiff, mset_same, Option.bind_some, List.length_map, Prod.mk.injEq, at0, at1, at2, at3, at4, at5, at6, at7, ix30, ix31, ix32, ix20, ix21, ix10, isi_ii, isi_ib, isi_ll, isi_bb, isi_ss, isi_tt, isi_is, isi_si, Bool.not_true, Bool.not_false, T.cl_Task, T.n_Task_name, T.n_Task_kind_rows, T.n_Task_arrow_rows, taskD, lk_name, lk_kinds, lk_arrows]
  refine ⟨rfl, t, _, j.k, rfl, rfl, ok, fun k hk e => ?_, fun hz => ?_⟩
  · have hin : j.k ∈ names t.ks := by rw [← e]; exact List.mem_map_of_mem hk
    rw [if_neg (by simpa using hin), ← e, kOf_is ok hk] at o
    have kb := kn_b ok hk
    walk_at "zn"
    refine ⟨mul_small (by omega), ?_⟩
    walk_at "zn"
    by_cases c1 : 1 ≤ j.c ∧ j.c ≤ k.c * g
    · rw [if_neg (by simpa using c1)] at o
      rw [if_pos c1.1]
      walk_at "zs"
      rw [if_neg (by simpa using c1.2)]
      by_cases c2 : j.r < 0
      · rw [if_pos c2] at o
        rw [if_pos c2]
        walk_at "zs"
        exact o
      · rw [if_neg c2] at o
        rw [if_neg c2]
        walk_at "zn"
        by_cases c3 : p = 0
        · subst c3
          rw [if_pos rfl] at o
          walk_at "zs"
          exact o
        · rw [if_neg c3] at o
          rw [if_neg (by omega)]
          walk_at "zn"
          have eb := jAt_I (w := w) (p := p - 1) (by omega)
          rw [show ((p - 1 : Nat) : Int) = (p : Int) - 1 by omega] at eb
          try simp only [dSeq]
          try simp only [dIfS, dTest, dOp, dVar, dC, dCB, daCons, daNil, dSet, dRet, dNext, dDrop, dAsg, dPar, dAug, dAddI, dBreak, dCont, dRetN, slot, dLen, dCmpI, dSub, dAdd, dMul, dDiv, dMod, dPow, dNeg, dUn, dIx, dInt1, dAbs, dChain, dAnd, dOr, dNot, dAndV, dOrV, dNotV, dTru, dTruB, dIf, dTup, dLst, mkL, dSlice, dSl, doNone, doSome, dSum, dAll, dAny, dList, dTuple, dMax, dMin, eq_ii, ne_ii, eq_ss, ne_ss, eq_bb, ne_bb, eq_nn, ne_nn, dIsN, dNotN, dFgt, dIsB, dNotB, gN, gT, gsNil, gsCons, gSet, dBM, dAppend, dClear, dFld, dFldS, dProp, dCall, dMeth, dMake, dMakeN, daStar, dDictP, dCallO, dFor, dLc, diR1, diR2, diR3, diL, diT, diRv, diS, diE, dFmt, dFStr, dJs, dCallN, dFrzE, frz_l, in_ss, notin_ss, drR1, drR2, dListR, dRaise, dRaise0, dTryAs, dTry, dXf, dAddO, dInO, isL, insOf, Option.some.injEq, List.cons.injEq, D.int.injEq, D.bl.injEq, D.str.injEq, D.lst.injEq, D.tup.injEq, D.ref.injEq, MO.lst.injEq, MO.ins.injEq, mset_mset, and_true, true_and, and_self, and_assoc, exists_eq_left', exists_eq_left, exists_and_left, exists_and_right, exists_eq', List.set_cons_zero, List.set_cons_succ, decide_eq_true_eq, sqOf, lsOf, List.length_cons, List.length_nil, sizeLine_eq, List.append_nil, List.cons_append, List.nil_append, if_true, if_false, Bool.false_eq_true, reduceCtorEq, reduceIte, Nat.reduceAdd, Nat.reduceLeDiff, mset_same, Option.bind_some, List.length_map, Prod.mk.injEq, at0, at1, at2, at3, at4, at5, at6, at7, ix30, ix31, ix32, ix20, ix21, ix10, isi_ii, isi_ib, isi_ll, isi_bb, isi_ss, isi_tt, isi_is, isi_si, Bool.not_true, Bool.not_false, eb]
          generalize jAt w (p - 1) = b at *
          try simp only [dSeq]
          try simp only [dIfS, dTest, dOp, dVar, dC, dCB, daCons, daNil, dSet, dRet, dNext, dDrop, dAsg, dPar, dAug, dAddI, dBreak, dCont, dRetN, slot, dLen, dCmpI, dSub, dAdd, dMul, dDiv, dMod, dPow, dNeg, dUn, dIx, dInt1, dAbs, dChain, dAnd, dOr, dNot, dAndV, dOrV, dNotV, dTru, dTruB, dIf, dTup, dLst, mkL, dSlice, dSl, doNone, doSome, dSum, dAll, dAny, dList, dTuple, dMax, dMin, eq_ii, ne_ii, eq_ss, ne_ss, eq_bb, ne_bb, eq_nn, ne_nn, dIsN, dNotN, dFgt, dIsB, dNotB, gN, gT, gsNil, gsCons, gSet, dBM, dAppend, dClear, dFld, dFldS, dProp, dCall, dMeth, dMake, dMakeN, daStar, dDictP, dCallO, dFor, dLc, diR1, diR2, diR3, diL, diT, diRv, diS, diE, dFmt, dFStr, dJs, dCallN, dFrzE, frz_l, in_ss, notin_ss, drR1, drR2, dListR, dRaise, dRaise0, dTryAs, dTry, dXf, dAddO, dInO, isL, insOf, Option.some.injEq, List.cons.injEq, D.int.injEq, D.bl.injEq, D.str.injEq, D.lst.injEq, D.tup.injEq, D.ref.injEq, MO.lst.injEq, MO.ins.injEq, mset_mset, and_true, true_and, and_self, and_assoc, exists_eq_left', exists_eq_left, exists_and_left, exists_and_right, exists_eq', List.set_cons_zero, List.set_cons_succ, decide_eq_true_eq, sqOf, lsOf, List.length_cons, List.length_nil, sizeLine_eq, List.append_nil, List.cons_append, List.nil_append, if_true, if_false, Bool.false_eq_true, reduceCtorEq, reduceIte, Nat.reduceAdd, Nat.reduceLeDiff, mset_same, Option.bind_some, List.length_map, Prod.mk.injEq, at0, at1, at2, at3, at4, at5, at6, at7, ix30, ix31, ix32, ix20, ix21, ix10, isi_ii, isi_ib, isi_ll, isi_bb, isi_ss, isi_tt, isi_is, isi_si, Bool.not_true, Bool.not_false, Job.D]
          refine ⟨t, _, b.k, j.k, rfl, rfl, ok, hb (by omega), ?_⟩
          rw [e] at o
          cases hg : gapF t b.k j.k with
          | none =>
            rw [hg] at o
            walk_at "zn"
            exact o
          | some a =>
            rw [hg] at o
            have ab := gapF_b ok hg
            walk_at "zn"
            refine ⟨mul_small (by omega), ?_⟩
            by_cases c4 : j.r - b.r < a * g
            · rw [if_pos c4]
              have o : Out (if j.r - b.r < a * g then some (plX K "GapTooShort" i p) else none) (Q .non m) (fun x => E x m) := o
              rw [if_pos c4] at o
              walk_at "zs"
              exact o
            · rw [if_neg c4]
              have o : Out (if j.r - b.r < a * g then some (plX K "GapTooShort" i p) else none) (Q .non m) (fun x => E x m) := o
              rw [if_neg c4] at o
              exact o
    · rw [if_pos c1] at o
      by_cases c2 : 1 ≤ j.c
      · rw [if_pos c2]
        walk_at "zs"
        rw [if_pos (by simpa using fun h => c1 ⟨c2, h⟩)]
        exact o
      · rw [if_neg c2]
        walk_at "zs"
        exact o
  · rw [if_pos (by simpa using hz)] at o
    exact o
theorem pure_check_counts {K : Fr0} {mg : Str → Option Value} (T : Txt K mg) (ds : List D) (m : M) (Q : D → M → Prop) (E : XD → M → Prop) (h : sp_check_counts K ds m Q E) : t_check_counts K (fun x _ m => E x m) { nx := fun _ m => Q .non m, rt := Q } (startD nm_check_counts ds) m := by
  obtain ⟨ts, ws, g, rfl, h1, h2, o⟩ := h
  show t_check_counts K _ _ [some (.lst (ts.map (taskD K))), some (wksD ws), some (.int g), none, none] m
  unfold t_check_counts
  unfold cntsX at o
  walk_at "zn"
  have H : ¬ (1 ≤ g ∧ g ≤ 60) → E (rngX K "grain" g) m := fun h => by rw [if_pos h] at o; exact o
  by_cases c1 : 1 ≤ g
  · rw [if_pos c1]
    walk_at "zs"
    by_cases c2 : g ≤ 60
    · rw [if_neg (by simp; omega)] at o
      rw [if_neg (by simpa using c2)]
      walk_at "zn"
      by_cases c3 : ws.length = ts.length
      · rw [if_neg (by simpa using c3)] at o
        rw [if_neg (by simp; omega)]
        walk_at "zn"
        refine lc_mapD (g := wkD) (f := fun w => .int (w.length : Nat)) (by rw [sizeLine_eq]; omega) (fun w hw => ⟨_, rfl, fun Q' q' => ?_⟩) ?_
        · simp only [wipeD]
          walk_at "zs"
          exact q'
        walk_at "zs"
        refine ⟨ws.map fun w => ((w.length : Nat) : Int), by rw [List.map_map]; rfl, ?_⟩
        have es : (ws.map fun w => ((w.length : Nat) : Int)).sum = (many ws : Nat) := by
          unfold many
          clear o h2 c3
          induction ws with
          | nil => rfl
          | cons w ws ih => rw [List.map_cons, List.sum_cons, ih, List.map_cons, List.sum_cons]; omega
        rw [es]
        by_cases c4 : 400 < many ws
        · rw [if_pos c4] at o
          rw [if_pos (by omega)]
          exact o
        · rw [if_neg c4] at o
          rw [if_neg (by omega)]
          exact o
      · rw [if_pos c3] at o
        rw [if_pos (by simp; omega)]
        exact o
    · rw [if_pos (by simpa using c2)]
      exact H (by omega)
  · rw [if_neg c1]
    exact H (by omega)
theorem some_of {f : Nat → Option XD} {n j : Nat} {x : XD} (hj : j < n) (h0 : ∀ p, p < j → f p = none) (h1 : f j = some x) : (List.range n).findSome? f = some x := by
  obtain ⟨k, rfl⟩ : ∃ k, n = j + 1 + k := ⟨n - (j + 1), by omega⟩
  rw [List.range_add, List.findSome?_append, List.range_succ, List.findSome?_append]
  rw [show (List.range j).findSome? f = none from List.findSome?_eq_none_iff.mpr fun p hp => h0 p (List.mem_range.mp hp)]
  simp [h1]
theorem none_of' {f : Nat → Option XD} {n : Nat} (h0 : ∀ p, p < n → f p = none) : (List.range n).findSome? f = none := List.findSome?_eq_none_iff.mpr fun p hp => h0 p (List.mem_range.mp hp)
theorem len_many {w : List Job} {ws : List (List Job)} (h : w ∈ ws) : w.length ≤ many ws := by
  unfold many
  induction ws with
  | nil => cases h
  | cons x ws ih =>
    rw [List.map_cons, List.sum_cons]
    rcases List.mem_cons.mp h with rfl | h
    · omega
    · have := ih h
      omega
def rowsN (ts : List Tsk) (g : Int) (ws : List (List Job)) (n : Nat) : List Rw := (List.range n).flatMap fun i => rowsW (tAt ts i) g i (wAt ws i)
theorem rowsN_succ (ts : List Tsk) (g : Int) (ws : List (List Job)) (n : Nat) : rowsN ts g ws (n + 1) = rowsN ts g ws n ++ rowsW (tAt ts n) g n (wAt ws n) := by
  unfold rowsN
  rw [List.range_succ, List.flatMap_append]
  simp
theorem rowsN_len {ts : List Tsk} {g : Int} {ws : List (List Job)} {B : Nat} (h : ∀ w ∈ ws, w.length ≤ B) : ∀ n, n ≤ ws.length → (rowsN ts g ws n).length ≤ n * B
  | 0, _ => by simp [rowsN]
  | n + 1, hn => by
    have := rowsN_len (ts := ts) (g := g) h n (by omega)
    have h2 := h (wAt ws n) (mem_at (wAt_at (by omega)))
    rw [rowsN_succ, List.length_append, Nat.add_mul]
    unfold rowsW
    rw [List.length_map, List.length_range]
    omega
theorem rowP_succ (t : Tsk) (g : Int) (i : Nat) (w : List Job) (j : Nat) : (List.range (j + 1)).map (rowJ t g i w) = (List.range j).map (rowJ t g i w) ++ [rowJ t g i w j] := by
  rw [List.range_succ, List.map_append]
  rfl
def kyR (d : D) : D := match d with
  | .tup [i, p, _, r, _, _] => .tup [r, i, p]
  | d => d
def kyRP (d : D) : PyData := (toP (kyR d)).getD .none
theorem kyR_p (x : Rw) : toP (kyR x.D) = some (keyR x) := by
  show toP (.tup [.int x.r, .int x.i, .int x.p]) = _
  rw [toP, toPs, toPs, toPs, toPs, toP, toP, toP]
  rfl
theorem kyRP_p (x : Rw) : kyRP x.D = keyR x := by unfold kyRP; rw [kyR_p]; rfl
theorem toPs_map {α : Type} {f : α → D} {g : α → PyData} : ∀ {l : List α}, (∀ x ∈ l, toP (f x) = some (g x)) → toPs (l.map f) = some (l.map g)
  | [], _ => by rw [List.map_nil, toPs]; rfl
  | x :: l, h => by
    rw [List.map_cons, toPs, h x List.mem_cons_self, toPs_map (fun y hy => h y (List.mem_cons_of_mem _ hy))]
    rfl
theorem alike_keyR (a b : Rw) : PySem.W.alike (keyR a) (keyR b) = true := by
  unfold keyR
  rw [PySem.W.alike, PySem.W.alikeAll, PySem.W.alikeAll, PySem.W.alikeAll, PySem.W.alikeAll, PySem.W.alike, PySem.W.alike, PySem.W.alike]
  rfl
theorem depth_keyR (a : Rw) : (keyR a).depth ≤ 60 := by
  unfold keyR
  simp [PyData.depth, PyData.depthAll]
theorem sort_rows (l : List Rw) : (l.map Rw.D).mergeSort (PySem.W.dataLe false kyRP) = (srtR l).map Rw.D := by
  unfold srtR
  refine (List.map_mergeSort fun a _ b _ => ?_).symm
  unfold PySem.W.dataLe PySem.W.sortLe
  dsimp only
  rw [kyRP_p, kyRP_p]
theorem sortK_rows {tl te : DTE} {ip : Nat} {r : DSt} {m : M} {Q : D → M → Prop} {l : List Rw} (hl : ∀ Q' : D → M → Prop, Q' (.lst (l.map Rw.D)) m → tl r m Q') (hz : l.length ≤ sizeLine) (hk : ∀ x ∈ l, ∀ Q' : D → M → Prop, Q' (.tup [.int x.r, .int x.i, .int x.p]) m → te (r.set ip (some x.D)) m Q') (q : Q (.lst ((srtR l).map Rw.D)) m) : dSortK false tl ip te r m Q := by
  refine hl _ ⟨l.map Rw.D, kyR, kyRP, rfl, fun x hx Q' q' => ?_, ?_, ?_, ?_, ?_, ?_⟩
  · obtain ⟨c, hc, rfl⟩ := List.mem_map.mp hx
    exact hk c hc Q' q'
  · rw [List.map_map, List.map_map]
    refine toPs_map fun c _ => ?_
    show toP (kyR c.D) = some (kyRP c.D)
    rw [kyR_p, kyRP_p]
  · intro d hd d' hd'
    rw [List.map_map] at hd hd'
    obtain ⟨c, _, rfl⟩ := List.mem_map.mp hd
    obtain ⟨c', _, rfl⟩ := List.mem_map.mp hd'
    show PySem.W.alike (kyRP c.D) (kyRP c'.D) = true
    rw [kyRP_p, kyRP_p]
    exact alike_keyR _ _
  · refine .inl fun d hd => ?_
    rw [List.map_map] at hd
    obtain ⟨c, _, rfl⟩ := List.mem_map.mp hd
    exact ⟨_, _, kyRP_p c⟩
  · intro x hx
    obtain ⟨c, hc, rfl⟩ := List.mem_map.mp hx
    rw [kyRP_p]
    exact depth_keyR _
  · rw [sort_rows]
    exact q
theorem pure_Run_init {K : Fr0} {mg : Str → Option Value} (T : Txt K mg) (ds : List D) (m : M) (Q : D → M → Prop) (E : XD → M → Prop) (h : sp_Run_init K ds m Q E) : t_Run_init K (fun x _ m => E x m) { nx := fun _ m => Q .non m, rt := Q } (startD nm_Run_init ds) m := by
  obtain ⟨a, ts, ws, g, rfl, ha, ok, t1, w1, o⟩ := h
  show t_Run_init K _ _ [some (.ref a), some (.lst (ts.map (taskD K))), some (wksD ws), some (.int g), none, none, none, none, none, none, none, none, none, none] m
  unfold t_Run_init
  unfold runX at o
  walk_at "zn"
  refine ⟨ts, ws, g, rfl, t1, w1, ?_⟩
  cases hc : cntsX K ts ws g with
  | some x =>
    rw [hc] at o
    have o : ∀ m', MSub m m' → E x m' := o
    exact o m (MSub.refl m)
  | none =>
    rw [hc] at o
    have o : Out (allX K ts ws g) (Q .non (mset m a (.ins (ga K "Run") (runF g (jobsR ts g ws))))) fun x => ∀ m', MSub m m' → E x m' := o
    have hg : 1 ≤ g ∧ g ≤ 60 := by
      unfold cntsX at hc
      by_cases h : 1 ≤ g ∧ g ≤ 60
      · exact h
      · rw [if_pos h] at hc; cases hc
    have hlen : ws.length = ts.length := by
      unfold cntsX at hc
      rw [if_neg (by simpa using hg)] at hc
      by_cases h : ws.length = ts.length
      · exact h
      · rw [if_pos h] at hc; cases hc
    have h400 : many ws ≤ 400 := by
      unfold cntsX at hc
      rw [if_neg (by simpa using hg), if_neg (by simpa using hlen)] at hc
      by_cases h : 400 < many ws
      · rw [if_pos h] at hc; cases hc
      · omega
    have wl : ∀ w ∈ ws, w.length ≤ 400 := fun w hw => Nat.le_trans (len_many hw) h400
    simp only [Out]
    walk_at "zn"
    intro b hb
    have hba : b ≠ a := fun e => by rw [e, ha] at hb; cases hb
    have sub : ∀ u, MSub m (mset m b u) := fun u => MSub.set hb
    walk_at "zn"
    have H : ∀ x, allX K ts ws g = some x → ∀ m', MSub m m' → E x m' := fun x hx => by
      rw [hx] at o
      exact o
    have G : allX K ts ws g = none → Q .non (mset m a (.ins (ga K "Run") (runF g (jobsR ts g ws)))) := fun hx => by
      rw [hx] at o
      exact o
    clear o hc
    obtain ⟨P1, hP1⟩ : ∃ P : Nat → DSt → M → Prop, ∀ i rr m', P i rr m' ↔ (∃ o5 o6 o7 o8 o9 o10 o11 o12, (∀ i', i' < i → walkX K (tAt ts i') (wAt ws i') i' g = none) ∧ m' = mset m b (.lst ((rowsN ts g ws i).map Rw.D)) ∧ rr = [some (.ref a), some (.lst (ts.map (taskD K))), some (wksD ws), some (.int g), some (.ref b), o5, o6, o7, o8, o9, o10, o11, o12, none]) := ⟨_, fun _ _ _ => Iff.rfl⟩
    refine ⟨P1, (hP1 _ _ _).mpr ⟨_, _, _, _, _, _, _, _, fun i' h => absurd h (Nat.not_lt_zero _), rfl, rfl⟩, ?_, ?_⟩
    · intro i d rr m' hd hp
      obtain ⟨o5, o6, o7, o8, o9, o10, o11, o12, h0, rfl, rfl⟩ := (hP1 _ _ _).mp hp
      obtain ⟨x, hx, rfl⟩ := enumD_at hd
      obtain ⟨w, hw, rfl⟩ := map_at hx
      have hi := len_at hw
      have ew : wAt ws i = w := by
        have := wAt_at hi
        rw [hw] at this
        exact (Option.some.inj this).symm
      have tI := tAt_I (f := taskD K) (ts := ts) (i := i) (by omega)
      have okt := ok _ (mem_at (tAt_at (ts := ts) (i := i) (by omega)))
      have wl0 := wl w (mem_at hw)
      have r0 := rowsN_len (ts := ts) (g := g) wl i (by omega)
      have r1 : i * 400 ≤ 1000 * 400 := Nat.mul_le_mul_right 400 (show i ≤ 1000 by omega)
      obtain ⟨t, et⟩ : ∃ t, tAt ts i = t := ⟨_, rfl⟩
      rw [et] at tI okt
      try simp only [dSeq]
      try simp only [dIfS, dTest, dOp, dVar, dC, dCB, daCons, daNil, dSet, dRet, dNext, dDrop, dAsg, dPar, dAug, dAddI, dBreak, dCont, dRetN, slot, dLen, dCmpI, dSub, dAdd, dMul, dDiv, dMod, dPow, dNeg, dUn, dIx, dInt1, dAbs, dChain, dAnd, dOr, dNot, dAndV, dOrV, dNotV, dTru, dTruB, dIf, dTup, dLst, mkL, dSlice, dSl, doNone, doSome, dSum, dAll, dAny, dList, dTuple, dMax, dMin, eq_ii, ne_ii, eq_ss, ne_ss, eq_bb, ne_bb, eq_nn, ne_nn, dIsN, dNotN, dFgt, dIsB, dNotB, gN, gT, gsNil, gsCons, gSet, dBM, dAppend, dClear, dFld, dFldS, dProp, dCall, dMeth, dMake, dMakeN, daStar, dDictP, dCallO, dFor, dLc, diR1, diR2, diR3, diL, diT, diRv, diS, diE, dFmt, dFStr, dJs, dCallN, dFrzE, frz_l, in_ss, notin_ss, drR1, drR2, dListR, dRaise, dRaise0, dTryAs, dTry, dXf, dAddO, dInO, isL, insOf, Option.some.injEq, List.cons.injEq, D.int.injEq, D.bl.injEq, D.str.injEq, D.lst.injEq, D.tup.injEq, D.ref.injEq, MO.lst.injEq, MO.ins.injEq, mset_mset, and_true, true_and, and_self, and_assoc, exists_eq_left', exists_eq_left, exists_and_left, exists_and_right, exists_eq', List.set_cons_zero, List.set_cons_succ, decide_eq_true_eq, sqOf, lsOf, List.length_cons, List.length_nil, sizeLine_eq, List.append_nil, List.cons_append, List.nil_append, if_true, if_false, Bool.false_eq_true, reduceCtorEq, reduceIte, Nat.reduceAdd, Nat.reduceLeDiff, mset_same, Option.bind_some, List.length_map, Prod.mk.injEq, at0, at1, at2, at3, at4, at5, at6, at7, ix30, ix31, ix32, ix20, ix21, ix10, isi_ii, isi_ib, isi_ll, isi_bb, isi_ss, isi_tt, isi_is, isi_si, Bool.not_true, Bool.not_false, tI]
      obtain ⟨P2, hP2⟩ : ∃ P : Nat → DSt → M → Prop, ∀ j rr m', P j rr m' ↔ (∃ o8 o9 o10 o11 o12, (∀ p, p < j → jobX K t w i p g = none) ∧ m' = mset m b (.lst ((rowsN ts g ws i ++ (List.range j).map (rowJ t g i w)).map Rw.D)) ∧ rr = [some (.ref a), some (.lst (ts.map (taskD K))), some (wksD ws), some (.int g), some (.ref b), some (.int i), some (wkD w), some (taskD K t), o8, o9, o10, o11, o12, none]) := ⟨_, fun _ _ _ => Iff.rfl⟩
      refine ⟨P2, (hP2 _ _ _).mpr ⟨_, _, _, _, _, fun i' h => absurd h (Nat.not_lt_zero _), by simp, rfl⟩, ?_, ?_⟩
      · intro j d rr m' hd hp2
        obtain ⟨o8, o9, o10, o11, o12, h1, rfl, rfl⟩ := (hP2 _ _ _).mp hp2
        obtain ⟨x, hx, rfl⟩ := enumD_at hd
        obtain ⟨y, hy, rfl⟩ := map_at hx
        have hj := len_at hy
        have ey : jAt w j = y := by
          have := jAt_at hj
          rw [hy] at this
          exact (Option.some.inj this).symm
        try simp only [dSeq]
        try simp only [dIfS, dTest, dOp, dVar, dC, dCB, daCons, daNil, dSet, dRet, dNext, dDrop, dAsg, dPar, dAug, dAddI, dBreak, dCont, dRetN, slot, dLen, dCmpI, dSub, dAdd, dMul, dDiv, dMod, dPow, dNeg, dUn, dIx, dInt1, dAbs, dChain, dAnd, dOr, dNot, dAndV, dOrV, dNotV, dTru, dTruB, dIf, dTup, dLst, mkL, dSlice, dSl, doNone, doSome, dSum, dAll, dAny, dList, dTuple, dMax, dMin, eq_ii, ne_ii, eq_ss, ne_ss, eq_bb, ne_bb, eq_nn, ne_nn, dIsN, dNotN, dFgt, dIsB, dNotB, gN, gT, gsNil, gsCons, gSet, dBM, dAppend, dClear, dFld, dFldS, dProp, dCall, dMeth, dMake, dMakeN, daStar, dDictP, dCallO, dFor, dLc, diR1, diR2, diR3, diL, diT, diRv, diS, diE, dFmt, dFStr, dJs, dCallN, dFrzE, frz_l, in_ss, notin_ss, drR1, drR2, dListR, dRaise, dRaise0, dTryAs, dTry, dXf, dAddO, dInO, isL, insOf, Option.some.injEq, List.cons.injEq, D.int.injEq, D.bl.injEq, D.str.injEq, D.lst.injEq, D.tup.injEq, D.ref.injEq, MO.lst.injEq, MO.ins.injEq, mset_mset, and_true, true_and, and_self, and_assoc, exists_eq_left', exists_eq_left, exists_and_left, exists_and_right, exists_eq', List.set_cons_zero, List.set_cons_succ, decide_eq_true_eq, sqOf, lsOf, List.length_cons, List.length_nil, sizeLine_eq, List.append_nil, List.cons_append, List.nil_append, if_true, if_false, Bool.false_eq_true, reduceCtorEq, reduceIte, Nat.reduceAdd, Nat.reduceLeDiff, mset_same, Option.bind_some, List.length_map, Prod.mk.injEq, at0, at1, at2, at3, at4, at5, at6, at7, ix30, ix31, ix32, ix20, ix21, ix10, isi_ii, isi_ib, isi_ll, isi_bb, isi_ss, isi_tt, isi_is, isi_si, Bool.not_true, Bool.not_false, Job.D]
        have hb2 : 1 ≤ j → (jAt w (j - 1)).k ∈ names t.ks := fun h => by
          have := h1 (j - 1) (by omega)
          unfold jobX at this
          by_cases c : (jAt w (j - 1)).k ∈ names t.ks
          · exact c
          · rw [if_pos c] at this; cases this
        refine ⟨t, _, w, i, j, g, rfl, rfl, okt, hj, hb2, hg, ?_⟩
        cases hjx : jobX K t w i j g with
        | some x =>
          refine H x (some_of hi h0 ?_) _ (sub _)
          rw [ew, et]
          exact some_of hj h1 hjx
        | none =>
          have hin : y.k ∈ names t.ks := by
            unfold jobX at hjx
            rw [ey] at hjx
            by_cases c : y.k ∈ names t.ks
            · exact c
            · rw [if_pos c] at hjx; cases hjx
          obtain ⟨k, hk, ek⟩ := known hin
          have kb := kn_b okt hk
          simp only [Out]
          try simp only [dSeq]
          try simp only [dIfS, dTest, dOp, dVar, dC, dCB, daCons, daNil, dSet, dRet, dNext, dDrop, dAsg, dPar, dAug, dAddI, dBreak, dCont, dRetN, slot, dLen, dCmpI, dSub, dAdd, dMul, dDiv, dMod, dPow, dNeg, dUn, dIx, dInt1, dAbs, dChain, dAnd, dOr, dNot, dAndV, dOrV, dNotV, dTru, dTruB, dIf, dTup, dLst, mkL, dSlice, dSl, doNone, doSome, dSum, dAll, dAny, dList, dTuple, dMax, dMin, eq_ii, ne_ii, eq_ss, ne_ss, eq_bb, ne_bb, eq_nn, ne_nn, dIsN, dNotN, dFgt, dIsB, dNotB, gN, gT, gsNil, gsCons, gSet, dBM, dAppend, dClear, dFld, dFldS, dProp, dCall, dMeth, dMake, dMakeN, daStar, dDictP, dCallO, dFor, dLc, diR1, diR2, diR3, diL, diT, diRv, diS, diE, dFmt, dFStr, dJs, dCallN, dFrzE, frz_l, in_ss, notin_ss, drR1, drR2, dListR, dRaise, dRaise0, dTryAs, dTry, dXf, dAddO, dInO, isL, insOf, Option.some.injEq, List.cons.injEq, D.int.injEq, D.bl.injEq, D.str.injEq, D.lst.injEq, D.tup.injEq, D.ref.injEq, MO.lst.injEq, MO.ins.injEq, mset_mset, and_true, true_and, and_self, and_assoc, exists_eq_left', exists_eq_left, exists_and_left, exists_and_right, exists_eq', List.set_cons_zero, List.set_cons_succ, decide_eq_true_eq, sqOf, lsOf, List.length_cons, List.length_nil, sizeLine_eq, List.append_nil, List.cons_append, List.nil_append, if_true, if_false, Bool.false_eq_true, reduceCtorEq, reduceIte, Nat.reduceAdd, Nat.reduceLeDiff, mset_same, Option.bind_some, List.length_map, Prod.mk.injEq, at0, at1, at2, at3, at4, at5, at6, at7, ix30, ix31, ix32, ix20, ix21, ix10, isi_ii, isi_ib, isi_ll, isi_bb, isi_ss, isi_tt, isi_is, isi_si, Bool.not_true, Bool.not_false, T.cl_Task, T.n_Task_name, T.n_Task_kind_rows, T.n_Task_arrow_rows, taskD, lk_name, lk_kinds, lk_arrows]
          refine ⟨rfl, t, _, y.k, rfl, rfl, okt, fun k2 hk2 e2 => ?_, fun h => absurd hin h⟩
          have kb2 := kn_b okt hk2
          walk_at "zn"
          refine ⟨mul_small (by omega), ?_⟩
          walk_at "zn"
          refine ⟨by rw [List.length_append, List.length_map, List.length_range]; omega, (hP2 _ _ _).mpr ⟨_, _, _, _, _, fun p hp => ?_, ?_, rfl⟩⟩
          · by_cases e : p = j
            · subst e; exact hjx
            · exact h1 p (by omega)
          · rw [rowP_succ, ← List.append_assoc, List.map_append (l₁ := rowsN ts g ws i ++ _)]
            congr 3
            show [_] = [(rowJ t g i w j).D]
            unfold rowJ Rw.D
            rw [ey, ← e2, kOf_is okt hk2]
      · intro rr m' hp2
        obtain ⟨o8, o9, o10, o11, o12, h1, rfl, rfl⟩ := (hP2 _ _ _).mp hp2
        rw [enumD_len, List.length_map] at h1 ⊢
        refine (hP1 _ _ _).mpr ⟨_, _, _, _, _, _, _, _, fun i' hi' => ?_, ?_, rfl⟩
        · by_cases e : i' = i
          · subst e
            rw [ew, et]
            exact none_of' h1
          · exact h0 i' (by omega)
        · rw [rowsN_succ, ew, et]
          rfl
    · intro rr m' hp
      obtain ⟨o5, o6, o7, o8, o9, o10, o11, o12, h0, rfl, rfl⟩ := (hP1 _ _ _).mp hp
      rw [enumD_len, List.length_map] at h0 ⊢
      have hN := G (none_of' h0)
      refine ⟨b, _, rfl, mset_same, ?_⟩
      rw [mdel_mset hb]
      try simp only [dSeq]
      try simp only [dIfS, dTest, dOp, dVar, dC, dCB, daCons, daNil, dSet, dRet, dNext, dDrop, dAsg, dPar, dAug, dAddI, dBreak, dCont, dRetN, slot, dLen, dCmpI, dSub, dAdd, dMul, dDiv, dMod, dPow, dNeg, dUn, dIx, dInt1, dAbs, dChain, dAnd, dOr, dNot, dAndV, dOrV, dNotV, dTru, dTruB, dIf, dTup, dLst, mkL, dSlice, dSl, doNone, doSome, dSum, dAll, dAny, dList, dTuple, dMax, dMin, eq_ii, ne_ii, eq_ss, ne_ss, eq_bb, ne_bb, eq_nn, ne_nn, dIsN, dNotN, dFgt, dIsB, dNotB, gN, gT, gsNil, gsCons, gSet, dBM, dAppend, dClear, dFld, dFldS, dProp, dCall, dMeth, dMake, dMakeN, daStar, dDictP, dCallO, dFor, dLc, diR1, diR2, diR3, diL, diT, diRv, diS, diE, dFmt, dFStr, dJs, dCallN, dFrzE, frz_l, in_ss, notin_ss, drR1, drR2, dListR, dRaise, dRaise0, dTryAs, dTry, dXf, dAddO, dInO, isL, insOf, Option.some.injEq, List.cons.injEq, D.int.injEq, D.bl.injEq, D.str.injEq, D.lst.injEq, D.tup.injEq, D.ref.injEq, MO.lst.injEq, MO.ins.injEq, mset_mset, and_true, true_and, and_self, and_assoc, exists_eq_left', exists_eq_left, exists_and_left, exists_and_right, exists_eq', List.set_cons_zero, List.set_cons_succ, decide_eq_true_eq, sqOf, lsOf, List.length_cons, List.length_nil, sizeLine_eq, List.append_nil, List.cons_append, List.nil_append, if_true, if_false, Bool.false_eq_true, reduceCtorEq, reduceIte, Nat.reduceAdd, Nat.reduceLeDiff, mset_same, Option.bind_some, List.length_map, Prod.mk.injEq, at0, at1, at2, at3, at4, at5, at6, at7, ix30, ix31, ix32, ix20, ix21, ix10, isi_ii, isi_ib, isi_ll, isi_bb, isi_ss, isi_tt, isi_is, isi_si, Bool.not_true, Bool.not_false, T.cl_Run, T.n_Run_grain, T.n_Run_placed, runD, lk_grain, lk_placed, ha, putR1]
      refine ⟨by omega, sortK_rows (l := rowsN ts g ws ws.length) (fun Q' q' => ?_) ?_ (fun x hx Q' q' => ?_) ?_⟩
      · walk_at "zs"
        exact q'
      · have := rowsN_len (ts := ts) (g := g) wl ws.length (Nat.le_refl _)
        have : ws.length * 400 ≤ 1000 * 400 := Nat.mul_le_mul_right 400 w1
        rw [sizeLine_eq]
        omega
      · unfold Rw.D
        walk_at "zs"
        exact q'
      · try simp only [dSeq, dIfS, dTest, dOp, dVar, dC, dCB, daCons, daNil, dSet, dRet, dNext, dDrop, dAsg, dPar, dAug, dAddI, dBreak, dCont, dRetN, slot, dLen, dCmpI, dSub, dAdd, dMul, dDiv, dMod, dPow, dNeg, dUn, dIx, dInt1, dAbs, dChain, dAnd, dOr, dNot, dAndV, dOrV, dNotV, dTru, dTruB, dIf, dTup, dLst, mkL, dSlice, dSl, doNone, doSome, dSum, dAll, dAny, dList, dTuple, dMax, dMin, eq_ii, ne_ii, eq_ss, ne_ss, eq_bb, ne_bb, eq_nn, ne_nn, dIsN, dNotN, dFgt, dIsB, dNotB, gN, gT, gsNil, gsCons, gSet, dBM, dAppend, dClear, dFld, dFldS, dProp, dCall, dMeth, dMake, dMakeN, daStar, dDictP, dCallO, dFor, dLc, diR1, diR2, diR3, diL, diT, diRv, diS, diE, dFmt, dFStr, dJs, dCallN, dFrzE, frz_l, in_ss, notin_ss, drR1, drR2, dListR, dRaise, dRaise0, dTryAs, dTry, dXf, dAddO, dInO, isL, insOf, Option.some.injEq, List.cons.injEq, D.int.injEq, D.bl.injEq, D.str.injEq, D.lst.injEq, D.tup.injEq, D.ref.injEq, MO.lst.injEq, MO.ins.injEq, mset_mset, and_true, true_and, and_self, and_assoc, exists_eq_left', exists_eq_left, exists_and_left, exists_and_right, exists_eq', List.set_cons_zero, List.set_cons_succ, decide_eq_true_eq, sqOf, lsOf, List.length_cons, List.length_nil, sizeLine_eq, List.append_nil, List.cons_append, List.nil_append, if_true, if_false, Bool.false_eq_true, reduceCtorEq, reduceIte, Nat.reduceAdd, Nat.reduceLeDiff, mset_same, Option.bind_some, List.length_map, Prod.mk.injEq, at0, at1, at2, at3, at4, at5, at6, at7, ix30, ix31, ix32, ix20, ix21, ix10, isi_ii, isi_ib, isi_ll, isi_bb, isi_ss, isi_tt, isi_is, isi_si, Bool.not_true, Bool.not_false, T.cl_Run, T.n_Run_grain, T.n_Run_placed, runD, lk_grain, lk_placed, putR2]
        exact ⟨by omega, hN⟩
theorem pure_Run_jobs {K : Fr0} {mg : Str → Option Value} (T : Txt K mg) (ds : List D) (m : M) (Q : D → M → Prop) (E : XD → M → Prop) (h : sp_Run_jobs K ds m Q E) : t_Run_jobs K (fun x _ m => E x m) { nx := fun _ m => Q .non m, rt := Q } (startD nm_Run_jobs ds) m := by
  obtain ⟨g, js, rfl, q⟩ := h
  show t_Run_jobs K _ _ [some (runD K g js)] m
  unfold t_Run_jobs
  try simp only [dIfS, dTest, dOp, dVar, dC, dCB, daCons, daNil, dSet, dRet, dNext, dDrop, dAsg, dPar, dAug, dAddI, dBreak, dCont, dRetN, slot, dLen, dCmpI, dSub, dAdd, dMul, dDiv, dMod, dPow, dNeg, dUn, dIx, dInt1, dAbs, dChain, dAnd, dOr, dNot, dAndV, dOrV, dNotV, dTru, dTruB, dIf, dTup, dLst, mkL, dSlice, dSl, doNone, doSome, dSum, dAll, dAny, dList, dTuple, dMax, dMin, eq_ii, ne_ii, eq_ss, ne_ss, eq_bb, ne_bb, eq_nn, ne_nn, dIsN, dNotN, dFgt, dIsB, dNotB, gN, gT, gsNil, gsCons, gSet, dBM, dAppend, dClear, dFld, dFldS, dProp, dCall, dMeth, dMake, dMakeN, daStar, dDictP, dCallO, dFor, dLc, diR1, diR2, diR3, diL, diT, diRv, diS, diE, dFmt, dFStr, dJs, dCallN, dFrzE, frz_l, in_ss, notin_ss, drR1, drR2, dListR, dRaise, dRaise0, dTryAs, dTry, dXf, dAddO, dInO, isL, insOf, Option.some.injEq, List.cons.injEq, D.int.injEq, D.bl.injEq, D.str.injEq, D.lst.injEq, D.tup.injEq, D.ref.injEq, MO.lst.injEq, MO.ins.injEq, mset_mset, and_true, true_and, and_self, and_assoc, exists_eq_left', exists_eq_left, exists_and_left, exists_and_right, exists_eq', List.set_cons_zero, List.set_cons_succ, decide_eq_true_eq, sqOf, lsOf, List.length_cons, List.length_nil, sizeLine_eq, List.append_nil, List.cons_append, List.nil_append, if_true, if_false, Bool.false_eq_true, reduceCtorEq, reduceIte, Nat.reduceAdd, Nat.reduceLeDiff, mset_same, Option.bind_some, List.length_map, Prod.mk.injEq, at0, at1, at2, at3, at4, at5, at6, at7, ix30, ix31, ix32, ix20, ix21, ix10, isi_ii, isi_ib, isi_ll, isi_bb, isi_ss, isi_tt, isi_is, isi_si, Bool.not_true, Bool.not_false, T.cl_Run, T.n_Run_grain, T.n_Run_placed, runD, lk_grain, lk_placed]
  exact q
theorem none_Run_init {K : Fr0} : ∀ ds m Q E, sp_Run_init K ds m Q E → sp_Run_init K ds m (fun d m' => d = .non ∧ Q d m') E := by
  rintro ds m Q E ⟨a, ts, ws, g, rfl, ha, ok, t1, w1, o⟩
  refine ⟨a, ts, ws, g, rfl, ha, ok, t1, w1, ?_⟩
  cases h : runX K ts ws g with
  | none => rw [h] at o; exact ⟨rfl, o⟩
  | some x => rw [h] at o; exact o
theorem demT_up (t : Tsk) (z : Str) : ∀ n k, k < n → demT t n k z = dem t k z
  | 0, k, h => by omega
  | n + 1, k, h => by
    by_cases e : k = n
    · subst e; rfl
    · show (if k < n then demT t n k z else _) = _
      rw [if_pos (by omega)]
      exact demT_up t z n k (by omega)
theorem dem_eq {t : Tsk} (ok : t.Ok) (n : Nat) (z : Str) : dem t n z = dstp t (dem t) n z := by
  show (if n < n then _ else dstp t (demT t n) n z) = _
  rw [if_neg (Nat.lt_irrefl n)]
  unfold dstp
  congr 2
  refine List.map_congr_left fun a ha => ?_
  rw [List.mem_filter] at ha
  have h1 := ok.as.g a (List.mem_filter.mp ha.1).1
  have h2 := of_decide_eq_true ha.2
  exact demT_up t a.s n _ (by omega)
theorem foldl_ge : ∀ (l : List Int) (a : Int), a ≤ l.foldl max a
  | [], a => Int.le_refl a
  | b :: l, a => by have := foldl_ge l (max a b); simp only [List.foldl_cons]; omega
theorem foldl_mem_le : ∀ (l : List Int) (a b : Int), b ∈ l → b ≤ l.foldl max a
  | c :: l, a, b, h => by
    rw [List.foldl_cons]
    rcases List.mem_cons.mp h with rfl | h
    · have := foldl_ge l (max a b); omega
    · exact foldl_mem_le l _ b h
theorem foldl_le : ∀ {l : List Int} {a b : Int}, a ≤ b → (∀ x ∈ l, x ≤ b) → l.foldl max a ≤ b
  | [], a, b, h, _ => h
  | c :: l, a, b, h, h2 => by
    rw [List.foldl_cons]
    exact foldl_le (by have := h2 c List.mem_cons_self; omega) (fun x hx => h2 x (List.mem_cons_of_mem _ hx))
theorem mx_eq {l : List Int} (h : ∀ x ∈ l, 0 ≤ x) : mx l = mxL l := by
  cases l with
  | nil => rfl
  | cons a l =>
    show l.foldl max a = l.foldl max (max 0 a)
    rw [Int.max_eq_right (h a List.mem_cons_self)]
theorem mx_ge {l : List Int} {x : Int} (h : x ∈ l) : x ≤ mx l := by
  cases l with
  | nil => cases h
  | cons a l =>
    rcases List.mem_cons.mp h with rfl | h
    · exact foldl_ge l x
    · exact foldl_mem_le l a x h
theorem mx_le {l : List Int} {b : Int} (h0 : 0 ≤ b) (h : ∀ x ∈ l, x ≤ b) : mx l ≤ b := by
  cases l with
  | nil => exact h0
  | cons a l => exact foldl_le (h a List.mem_cons_self) (fun x hx => h x (List.mem_cons_of_mem _ hx))
theorem mx_nonneg {l : List Int} (h : ∀ x ∈ l, 0 ≤ x) : 0 ≤ mx l := by
  rw [mx_eq h]; exact foldl_ge l 0
theorem kOf_mem {t : Tsk} (ok : t.Ok) {k : Knd} (h : k ∈ t.ks) : kOf t k.n = k := by
  unfold kOf
  cases e : t.ks.find? fun k2 => decide (k2.n = k.n) with
  | none =>
    have := List.find?_eq_none.mp e k h
    simp at this
  | some k2 =>
    have h1 := List.mem_of_find?_eq_some e
    have h2 := List.find?_some e
    have h2 := of_decide_eq_true h2
    show k2 = k
    obtain ⟨i, hi⟩ := List.mem_iff_getElem?.mp h
    obtain ⟨j, hj⟩ := List.mem_iff_getElem?.mp h1
    have n1 : (names t.ks)[i]? = some k.n := by rw [List.getElem?_map, hi]; rfl
    have n2 : (names t.ks)[j]? = some k2.n := by rw [List.getElem?_map, hj]; rfl
    have : i = j := by
      rcases Nat.lt_trichotomy i j with hl | hl | hl
      · exfalso
        refine nodup_take ok.ks.nd n2 (List.mem_iff_getElem?.mpr ⟨i, ?_⟩)
        rw [List.getElem?_take, if_pos hl, n1, h2]
      · exact hl
      · exfalso
        refine nodup_take ok.ks.nd n1 (List.mem_iff_getElem?.mpr ⟨j, ?_⟩)
        rw [List.getElem?_take, if_pos hl, n2, h2]
    subst this
    rw [hi] at hj
    cases hj
    rfl
theorem kOf_c0 {t : Tsk} (ok : t.Ok) (z : Str) : 0 ≤ (kOf t z).c ∧ (kOf t z).c ≤ 99 := by
  unfold kOf
  cases e : t.ks.find? fun k2 => decide (k2.n = z) with
  | none => exact ⟨Int.le_refl 0, by show (0 : Int) ≤ 99; omega⟩
  | some k2 =>
    have := ok.ks.c k2 (List.mem_of_find?_eq_some e)
    show 0 ≤ k2.c ∧ k2.c ≤ 99
    split at this <;> omega
theorem ownC_nonneg {t : Tsk} (ok : t.Ok) (z : Str) (n : Nat) : 0 ≤ ownC (kOf t z) n ∧ ownC (kOf t z) n ≤ 99 := by
  have := kOf_c0 ok z
  unfold ownC
  split <;> omega
theorem dem_nonneg {t : Tsk} (ok : t.Ok) : ∀ (N n : Nat), n < N → ∀ z, 0 ≤ dem t n z
  | 0, n, h, _ => by omega
  | N + 1, n, h, z => by
    rw [dem_eq ok]
    unfold dstp
    have := (ownC_nonneg ok z n).1
    have h2 : 0 ≤ mx (((foll t z).filter fun a : Arr => decide (a.g ≤ (n : Int))).map fun a : Arr => dem t (n - a.g.toNat) a.s) := mx_nonneg fun x hx => by
      obtain ⟨a, ha, rfl⟩ := List.mem_map.mp hx
      rw [List.mem_filter] at ha
      have h1 := ok.as.g a (List.mem_filter.mp ha.1).1
      have h2 := of_decide_eq_true ha.2
      exact dem_nonneg ok N _ (by omega) a.s
    omega
theorem dem0 {t : Tsk} (ok : t.Ok) (n : Nat) (z : Str) : 0 ≤ dem t n z := dem_nonneg ok (n + 1) n (Nat.lt_succ_self n) z
theorem mxL_of {l : List Int} {k : Int} (h0 : ∀ x ∈ l, 0 ≤ x) (h1 : k ∈ l) (h2 : ∀ y, y ∈ l → y ≤ k) : k = mxL l := by
  have a := foldl_mem_le l 0 k h1
  have b : mxL l ≤ k := foldl_le (h0 k h1) h2
  unfold mxL at *
  omega
section
variable {κ : Type} [DecidableEq κ]
theorem valD_mem : ∀ {kvs : List (κ × D)} {k : κ} {d : D}, (kvs.map (·.1)).Nodup → (k, d) ∈ kvs → valD kvs k = some d
  | [], _, _, _, h => by cases h
  | (k0, d0) :: kvs, k, d, nd, h => by
    rw [List.map_cons] at nd
    obtain ⟨n1, n2⟩ := List.nodup_cons.mp nd
    rcases List.mem_cons.mp h with e | h
    · cases e
      simp [valD]
    · have : k0 ≠ k := fun e => n1 (by rw [e]; exact List.mem_map.mpr ⟨_, h, rfl⟩)
      have ih := valD_mem n2 h
      simp only [valD, List.find?_cons, decide_eq_false this]
      exact ih
theorem putKD_new {kvs : List (κ × D)} {k : κ} {d : D} (h : k ∉ kvs.map (·.1)) : putKD kvs k d = kvs ++ [(k, d)] := by
  unfold putKD
  rw [if_neg]
  intro e
  rw [List.any_eq_true] at e
  obtain ⟨kv, h1, h2⟩ := e
  exact h (List.mem_map.mpr ⟨kv, h1, of_decide_eq_true h2⟩)
end
theorem dc_steps {c : CT} {vs : List Nat} {tk tv : DTE} {r : DSt} {Q : List (Key × D) → M → Prop} (P : Nat → List (Key × D) → M → Prop) : ∀ (xs : List D) (i : Nat) (acc : List (Key × D)) (m : M), P i acc m → (∀ j x acc m, xs[j]? = some x → P (i + j) acc m → ∃ r2, ctD c x (wipeD r vs) = some r2 ∧ acc.length < sizeLine ∧ ∀ R : D → D → M → Prop, (∀ k z m3, P (i + j + 1) (putKD acc k z) m3 → R (keyD k) z m3) → tk r2 m fun y m2 => tv r2 m2 fun z m3 => R y z m3) →
    (∀ acc m, P (i + xs.length) acc m → Q acc m) → dDcL c vs dYes tk tv xs acc r m Q
  | [], i, acc, m, p, _, q => q acc m p
  | x :: xs, i, acc, m, p, h, q => by
    obtain ⟨r2, e, hz, t⟩ := h 0 x acc m rfl p
    refine ⟨r2, e, ?_⟩
    simp only [dYes, if_true]
    refine t _ (fun k z m3 p2 => ⟨k, rfl, hz, ?_⟩)
    refine dc_steps P xs (i + 1) _ m3 p2 (fun j x acc m hx pj => ?_) (fun acc m pj => q acc m (by rw [List.length_cons]; rw [show i + (xs.length + 1) = i + 1 + xs.length by omega]; exact pj))
    have := h (j + 1) x acc m hx (by rw [show i + (j + 1) = i + 1 + j by omega]; exact pj)
    rw [show i + (j + 1) + 1 = i + 1 + j + 1 by omega] at this
    exact this
theorem nd_inr {zs : List Str} (h : zs.Nodup) : (zs.map (Sum.inr : Str → Key)).Nodup := List.Pairwise.map _ (fun a b hab e => hab (Sum.inr.inj e)) h
theorem kd_key (z : Str) : D.str z = keyD (.inr z) := rfl
abbrev tabL (ks : List Knd) (ls : List Addr) : List (Key × D) := List.zipWith (fun k l => ((Sum.inr k.n : Key), D.ref l)) ks ls
theorem tabL_keys : ∀ {ks : List Knd} {ls : List Addr}, ls.length = ks.length → (tabL ks ls).map (·.1) = (names ks).map Sum.inr
  | [], [], _ => rfl
  | k :: ks, l :: ls, h => by
    show _ :: (tabL ks ls).map (·.1) = _
    rw [tabL_keys (by simpa using h)]
    rfl
  | [], _ :: _, h => by cases h
  | _ :: _, [], h => by cases h
theorem tabL_val {ks : List Knd} {ls : List Addr} {i : Nat} {k : Knd} {l : Addr} (nd : (names ks).Nodup) (len : ls.length = ks.length) (hk : ks[i]? = some k) (hl : ls[i]? = some l) : valD (tabL ks ls) (Sum.inr k.n) = some (.ref l) := by
  refine valD_mem (by rw [tabL_keys len]; exact nd_inr nd) (List.mem_iff_getElem?.mpr ⟨i, ?_⟩)
  rw [List.getElem?_zipWith, hk, hl]
theorem tabL_app : ∀ {ks : List Knd} {ls : List Addr} {k : Knd} {l : Addr}, ls.length = ks.length → tabL (ks ++ [k]) (ls ++ [l]) = tabL ks ls ++ [(Sum.inr k.n, .ref l)]
  | [], [], _, _, _ => rfl
  | k :: ks, l :: ls, _, _, h => by
    show _ :: tabL (ks ++ _) (ls ++ _) = _ :: _
    rw [tabL_app (by simpa using h)]
    rfl
  | [], _ :: _, _, _, h => by cases h
  | _ :: _, [], _, _, h => by cases h
theorem nmI_at {ks : List Knd} {i : Nat} {k : Knd} (h : ks[i]? = some k) : nmI ks i = k.n := by
  unfold nmI
  rw [h]
  rfl
theorem rowN_succ (f : Nat → Int) (n : Nat) : rowN f (n + 1) = rowN f n ++ [f n] := by
  unfold rowN
  rw [List.range_succ, List.map_append]
  rfl
theorem rowN_len (f : Nat → Int) (n : Nat) : (rowN f n).length = n := by simp [rowN]
theorem rowN_at {f : Nat → Int} {n i : Nat} (h : i < n) : (rowN f n)[i]? = some (f i) := by
  unfold rowN
  rw [List.getElem?_map, List.getElem?_range h]
  rfl
theorem rowN_atI {f : Nat → Int} {n : Nat} {i : Int} (h0 : 0 ≤ i) (h : i < n) : atI ((rowN f n).map D.int) i = some (.int (f i.toNat)) := by
  obtain ⟨k, rfl⟩ : ∃ k : Nat, i = k := ⟨i.toNat, by omega⟩
  refine atI_nat ?_
  rw [List.getElem?_map, rowN_at (by omega)]
  rfl
def rowsI (t : Tsk) (n i : Nat) : Nat → List Int := fun j => rowN (fun at_ => dem t at_ (nmI t.ks j)) (if j < i then n + 1 else n)
theorem rowsI_end (t : Tsk) (n : Nat) {i : Nat} (h : t.ks.length ≤ i) : ∀ j, j < t.ks.length → rowsI t n i j = rowsI t (n + 1) 0 j := fun j hj => by
  unfold rowsI
  rw [if_pos (by omega), if_neg (by omega)]
theorem TabR.put {m : M} {p : Addr} {ls : List Addr} {ks : List Knd} {rows rows' : Nat → List Int} {i : Nat} {l : Addr} (h : TabR m p ls ks rows) (hl : ls[i]? = some l) (h2 : ∀ j, j ≠ i → rows' j = rows j) : TabR (mset m l (.lst ((rows' i).map D.int))) p ls ks rows' := by
  have hp : p ≠ l := fun e => h.pn (by rw [e]; exact mem_at hl)
  refine ⟨by rw [mset_ne hp]; exact h.dk, h.len, fun j l2 hj => ?_, h.nd, h.pn⟩
  by_cases e : l2 = l
  · subst e
    have : j = i := by
      rcases Nat.lt_trichotomy i j with hlt | hlt | hlt
      · exact absurd (List.mem_iff_getElem?.mpr ⟨i, by rw [List.getElem?_take, if_pos hlt]; exact hl⟩) (nodup_take h.nd hj)
      · exact hlt.symm
      · exact absurd (List.mem_iff_getElem?.mpr ⟨j, by rw [List.getElem?_take, if_pos hlt]; exact hj⟩) (nodup_take h.nd hl)
    subst this
    exact mset_same
  · have : j ≠ i := fun e2 => by subst e2; rw [hl] at hj; cases hj; exact e rfl
    rw [mset_ne e, h2 j this]
    exact h.row j l2 hj
theorem TabR.congr {m : M} {p : Addr} {ls : List Addr} {ks : List Knd} {rows rows' : Nat → List Int} (h : TabR m p ls ks rows) (h2 : ∀ j, j < ks.length → rows' j = rows j) : TabR m p ls ks rows' :=
  ⟨h.dk, h.len, fun j l hj => by rw [h2 j (by rw [← h.len]; exact len_at hj)]; exact h.row j l hj, h.nd, h.pn⟩
def follK (t : Tsk) : List (Key × D) := t.ks.map fun k => ((Sum.inr k.n : Key), D.lst ((foll t k.n).map folD))
theorem follK_val {t : Tsk} (ok : t.Ok) {k : Knd} (h : k ∈ t.ks) : valD (follK t) (Sum.inr k.n) = some (.lst ((foll t k.n).map folD)) := by
  refine valD_mem ?_ (List.mem_map.mpr ⟨k, h, rfl⟩)
  unfold follK
  rw [List.map_map]
  have := nd_inr ok.ks.nd
  rw [List.map_map] at this
  exact this
theorem pure_kind_demands {K : Fr0} {mg : Str → Option Value} (T : Txt K mg) (ds : List D) (m : M) (Q : D → M → Prop) (E : XD → M → Prop) (h : sp_kind_demands K ds m Q E) : t_kind_demands K (fun x _ m => E x m) { nx := fun _ m => Q .non m, rt := Q } (startD nm_kind_demands ds) m := by
  obtain ⟨t, x, n, rfl, rfl, ok, hn, q⟩ := h
  have k4 := ok.k4
  have a12 := ok.a12
  show t_kind_demands K _ _ [some (taskD K t), some (.int n), none, none, none, none, none, none, none, none, none, none, none] m
  unfold t_kind_demands
  try simp only [dSeq]
  try simp only [dIfS, dTest, dOp, dVar, dC, dCB, daCons, daNil, dSet, dRet, dNext, dDrop, dAsg, dPar, dAug, dAddI, dBreak, dCont, dRetN, slot, dLen, dCmpI, dSub, dAdd, dMul, dDiv, dMod, dPow, dNeg, dUn, dIx, dInt1, dAbs, dChain, dAnd, dOr, dNot, dAndV, dOrV, dNotV, dTru, dTruB, dIf, dTup, dLst, mkL, dSlice, dSl, doNone, doSome, dSum, dAll, dAny, dList, dTuple, dMax, dMin, eq_ii, ne_ii, eq_ss, ne_ss, eq_bb, ne_bb, eq_nn, ne_nn, dIsN, dNotN, dFgt, dIsB, dNotB, gN, gT, gsNil, gsCons, gSet, dBM, dAppend, dClear, dFld, dFldS, dProp, dCall, dMeth, dMake, dMakeN, daStar, dDictP, dCallO, dFor, dLc, diR1, diR2, diR3, diL, diT, diRv, diS, diE, dFmt, dFStr, dJs, dCallN, dFrzE, frz_l, in_ss, notin_ss, drR1, drR2, dListR, dRaise, dRaise0, dTryAs, dTry, dXf, dAddO, dInO, isL, insOf, Option.some.injEq, List.cons.injEq, D.int.injEq, D.bl.injEq, D.str.injEq, D.lst.injEq, D.tup.injEq, D.ref.injEq, MO.lst.injEq, MO.ins.injEq, mset_mset, and_true, true_and, and_self, and_assoc, exists_eq_left', exists_eq_left, exists_and_left, exists_and_right, exists_eq', List.set_cons_zero, List.set_cons_succ, decide_eq_true_eq, sqOf, lsOf, List.length_cons, List.length_nil, sizeLine_eq, List.append_nil, List.cons_append, List.nil_append, if_true, if_false, Bool.false_eq_true, reduceCtorEq, reduceIte, Nat.reduceAdd, Nat.reduceLeDiff, mset_same, Option.bind_some, List.length_map, Prod.mk.injEq, at0, at1, at2, at3, at4, at5, at6, at7, ix30, ix31, ix32, ix20, ix21, ix10, isi_ii, isi_ib, isi_ll, isi_bb, isi_ss, isi_tt, isi_is, isi_si, Bool.not_true, Bool.not_false, T.cl_Task, T.n_Task_name, T.n_Task_kind_rows, T.n_Task_arrow_rows, taskD, lk_name, lk_kinds, lk_arrows]
  refine ⟨t, _, rfl, rfl, ?_⟩
  try simp only [dSeq]
  try simp only [dIfS, dTest, dOp, dVar, dC, dCB, daCons, daNil, dSet, dRet, dNext, dDrop, dAsg, dPar, dAug, dAddI, dBreak, dCont, dRetN, slot, dLen, dCmpI, dSub, dAdd, dMul, dDiv, dMod, dPow, dNeg, dUn, dIx, dInt1, dAbs, dChain, dAnd, dOr, dNot, dAndV, dOrV, dNotV, dTru, dTruB, dIf, dTup, dLst, mkL, dSlice, dSl, doNone, doSome, dSum, dAll, dAny, dList, dTuple, dMax, dMin, eq_ii, ne_ii, eq_ss, ne_ss, eq_bb, ne_bb, eq_nn, ne_nn, dIsN, dNotN, dFgt, dIsB, dNotB, gN, gT, gsNil, gsCons, gSet, dBM, dAppend, dClear, dFld, dFldS, dProp, dCall, dMeth, dMake, dMakeN, daStar, dDictP, dCallO, dFor, dLc, diR1, diR2, diR3, diL, diT, diRv, diS, diE, dFmt, dFStr, dJs, dCallN, dFrzE, frz_l, in_ss, notin_ss, drR1, drR2, dListR, dRaise, dRaise0, dTryAs, dTry, dXf, dAddO, dInO, isL, insOf, Option.some.injEq, List.cons.injEq, D.int.injEq, D.bl.injEq, D.str.injEq, D.lst.injEq, D.tup.injEq, D.ref.injEq, MO.lst.injEq, MO.ins.injEq, mset_mset, and_true, true_and, and_self, and_assoc, exists_eq_left', exists_eq_left, exists_and_left, exists_and_right, exists_eq', List.set_cons_zero, List.set_cons_succ, decide_eq_true_eq, sqOf, lsOf, List.length_cons, List.length_nil, sizeLine_eq, List.append_nil, List.cons_append, List.nil_append, if_true, if_false, Bool.false_eq_true, reduceCtorEq, reduceIte, Nat.reduceAdd, Nat.reduceLeDiff, mset_same, Option.bind_some, List.length_map, Prod.mk.injEq, at0, at1, at2, at3, at4, at5, at6, at7, ix30, ix31, ix32, ix20, ix21, ix10, isi_ii, isi_ib, isi_ll, isi_bb, isi_ss, isi_tt, isi_is, isi_si, Bool.not_true, Bool.not_false, T.cl_Task, T.n_Task_name, T.n_Task_kind_rows, T.n_Task_arrow_rows, taskD, lk_name, lk_kinds, lk_arrows]
  simp only [dDc]
  walk_at "zs"
  refine dc_steps (fun i acc m' => m' = m ∧ acc = (t.ks.take i).map fun k => ((Sum.inr k.n : Key), D.lst ((foll t k.n).map folD))) (t.ks.map Knd.D) 0 [] m ⟨rfl, rfl⟩ ?_ ?_
  · rintro j x acc m1 hx ⟨rfl, rfl⟩
    obtain ⟨k, hk, rfl⟩ := map_at hx
    have hj := len_at hk
    refine ⟨_, rfl, by rw [sizeLine_eq]; simp; omega, fun R hR => ?_⟩
    simp only [wipeD, Knd.D]
    try simp only [dIfS, dTest, dOp, dVar, dC, dCB, daCons, daNil, dSet, dRet, dNext, dDrop, dAsg, dPar, dAug, dAddI, dBreak, dCont, dRetN, slot, dLen, dCmpI, dSub, dAdd, dMul, dDiv, dMod, dPow, dNeg, dUn, dIx, dInt1, dAbs, dChain, dAnd, dOr, dNot, dAndV, dOrV, dNotV, dTru, dTruB, dIf, dTup, dLst, mkL, dSlice, dSl, doNone, doSome, dSum, dAll, dAny, dList, dTuple, dMax, dMin, eq_ii, ne_ii, eq_ss, ne_ss, eq_bb, ne_bb, eq_nn, ne_nn, dIsN, dNotN, dFgt, dIsB, dNotB, gN, gT, gsNil, gsCons, gSet, dBM, dAppend, dClear, dFld, dFldS, dProp, dCall, dMeth, dMake, dMakeN, daStar, dDictP, dCallO, dFor, dLc, diR1, diR2, diR3, diL, diT, diRv, diS, diE, dFmt, dFStr, dJs, dCallN, dFrzE, frz_l, in_ss, notin_ss, drR1, drR2, dListR, dRaise, dRaise0, dTryAs, dTry, dXf, dAddO, dInO, isL, insOf, Option.some.injEq, List.cons.injEq, D.int.injEq, D.bl.injEq, D.str.injEq, D.lst.injEq, D.tup.injEq, D.ref.injEq, MO.lst.injEq, MO.ins.injEq, mset_mset, and_true, true_and, and_self, and_assoc, exists_eq_left', exists_eq_left, exists_and_left, exists_and_right, exists_eq', List.set_cons_zero, List.set_cons_succ, decide_eq_true_eq, sqOf, lsOf, List.length_cons, List.length_nil, sizeLine_eq, List.append_nil, List.cons_append, List.nil_append, if_true, if_false, Bool.false_eq_true, reduceCtorEq, reduceIte, Nat.reduceAdd, Nat.reduceLeDiff, mset_same, Option.bind_some, List.length_map, Prod.mk.injEq, at0, at1, at2, at3, at4, at5, at6, at7, ix30, ix31, ix32, ix20, ix21, ix10, isi_ii, isi_ib, isi_ll, isi_bb, isi_ss, isi_tt, isi_is, isi_si, Bool.not_true, Bool.not_false, T.cl_Task, T.n_Task_name, T.n_Task_kind_rows, T.n_Task_arrow_rows, taskD, lk_name, lk_kinds, lk_arrows]
    refine ⟨rfl, t, _, k.n, rfl, rfl, ok, fun _ => ?_, fun h => absurd (List.mem_map_of_mem (mem_at hk)) h⟩
    rw [kd_key]
    refine hR _ _ _ ⟨rfl, ?_⟩
    rw [putKD_new, Nat.zero_add, take_succ' hk, List.map_append]
    · rfl
    · rw [List.map_map]
      have := nodup_take (j := j) (nd_inr ok.ks.nd) (a := Sum.inr k.n) (by rw [List.getElem?_map, List.getElem?_map, hk]; rfl)
      rw [← List.map_take, ← List.map_take, List.map_map] at this
      rw [Nat.zero_add]
      exact this
  rintro acc m1 ⟨rfl, rfl⟩ pf hpf
  rw [List.length_map, Nat.zero_add, List.take_length]
  try simp only [dSeq]
  try simp only [dIfS, dTest, dOp, dVar, dC, dCB, daCons, daNil, dSet, dRet, dNext, dDrop, dAsg, dPar, dAug, dAddI, dBreak, dCont, dRetN, slot, dLen, dCmpI, dSub, dAdd, dMul, dDiv, dMod, dPow, dNeg, dUn, dIx, dInt1, dAbs, dChain, dAnd, dOr, dNot, dAndV, dOrV, dNotV, dTru, dTruB, dIf, dTup, dLst, mkL, dSlice, dSl, doNone, doSome, dSum, dAll, dAny, dList, dTuple, dMax, dMin, eq_ii, ne_ii, eq_ss, ne_ss, eq_bb, ne_bb, eq_nn, ne_nn, dIsN, dNotN, dFgt, dIsB, dNotB, gN, gT, gsNil, gsCons, gSet, dBM, dAppend, dClear, dFld, dFldS, dProp, dCall, dMeth, dMake, dMakeN, daStar, dDictP, dCallO, dFor, dLc, diR1, diR2, diR3, diL, diT, diRv, diS, diE, dFmt, dFStr, dJs, dCallN, dFrzE, frz_l, in_ss, notin_ss, drR1, drR2, dListR, dRaise, dRaise0, dTryAs, dTry, dXf, dAddO, dInO, isL, insOf, Option.some.injEq, List.cons.injEq, D.int.injEq, D.bl.injEq, D.str.injEq, D.lst.injEq, D.tup.injEq, D.ref.injEq, MO.lst.injEq, MO.ins.injEq, mset_mset, and_true, true_and, and_self, and_assoc, exists_eq_left', exists_eq_left, exists_and_left, exists_and_right, exists_eq', List.set_cons_zero, List.set_cons_succ, decide_eq_true_eq, sqOf, lsOf, List.length_cons, List.length_nil, sizeLine_eq, List.append_nil, List.cons_append, List.nil_append, if_true, if_false, Bool.false_eq_true, reduceCtorEq, reduceIte, Nat.reduceAdd, Nat.reduceLeDiff, mset_same, Option.bind_some, List.length_map, Prod.mk.injEq, at0, at1, at2, at3, at4, at5, at6, at7, ix30, ix31, ix32, ix20, ix21, ix10, isi_ii, isi_ib, isi_ll, isi_bb, isi_ss, isi_tt, isi_is, isi_si, Bool.not_true, Bool.not_false, T.cl_Task, T.n_Task_name, T.n_Task_kind_rows, T.n_Task_arrow_rows, taskD, lk_name, lk_kinds, lk_arrows]
  simp only [dDc]
  walk_at "zs"
  have hfk : (t.ks.map fun k => ((Sum.inr k.n : Key), D.lst ((foll t k.n).map folD))) = follK t := rfl
  rw [hfk]
  generalize hmB : mset m1 pf (.dK (follK t)) = mB
  have mBf : mB pf = some (.dK (follK t)) := by rw [← hmB]; exact mset_same
  have mBs : MSub m1 mB := by rw [← hmB]; exact MSub.set hpf
  refine dc_steps (fun i acc m' => ∃ ls : List Addr, ls.length = i ∧ acc = tabL (t.ks.take i) ls ∧ ls.Nodup ∧ (∀ l ∈ ls, mB l = none ∧ m' l = some (.lst [])) ∧ MSub mB m') (t.ks.map Knd.D) 0 [] mB ⟨[], rfl, rfl, by simp, by simp, MSub.refl _⟩ ?_ ?_
  · rintro j x acc m2 hx ⟨ls, hl, rfl, hnd, hls, hsub⟩
    obtain ⟨k, hk, rfl⟩ := map_at hx
    have hj := len_at hk
    rw [Nat.zero_add] at *
    refine ⟨_, rfl, by rw [sizeLine_eq]; simp; omega, fun R hR => ?_⟩
    simp only [wipeD, Knd.D]
    walk_at "zs"
    intro l hl0
    rw [kd_key]
    have hnl : l ∉ ls := fun hm => by rw [(hls l hm).2] at hl0; cases hl0
    have hBl : mB l = none := by
      cases e : mB l with
      | none => rfl
      | some o => rw [hsub l o e] at hl0; cases hl0
    refine hR _ _ _ ⟨ls ++ [l], by simp; omega, ?_, ?_, ?_, hsub.trans (MSub.set hl0)⟩
    · rw [putKD_new, take_succ' hk, tabL_app (by simp; omega)]
      rw [tabL_keys (by simp; omega)]
      have := nodup_take (j := j) (nd_inr ok.ks.nd) (a := Sum.inr k.n) (by rw [List.getElem?_map, List.getElem?_map, hk]; rfl)
      rw [← List.map_take, ← List.map_take] at this
      exact this
    · rw [List.nodup_append]
      exact ⟨hnd, by simp, fun a ha b hb e => by rw [List.mem_singleton.mp hb] at e; exact hnl (e ▸ ha)⟩
    · intro a ha
      rcases List.mem_append.mp ha with ha | ha
      · refine ⟨(hls a ha).1, ?_⟩
        rw [mset_ne (fun e => by rw [e] at ha; exact hnl ha)]
        exact (hls a ha).2
      · rw [List.mem_singleton.mp ha]
        exact ⟨hBl, mset_same⟩
  rintro acc m2 ⟨ls, hl, rfl, hnd, hls, hsub⟩ p hp
  rw [List.length_map, Nat.zero_add] at hl
  rw [List.length_map, Nat.zero_add, List.take_length]
  have hpl : p ∉ ls := fun hm => by rw [(hls p hm).2] at hp; cases hp
  have hBp : mB p = none := by
    cases e : mB p with
    | none => rfl
    | some o => rw [hsub p o e] at hp; cases hp
  have un : ∀ a, mB a = none → m1 a = none := fun a h => by
    cases e : m1 a with
    | none => rfl
    | some o => rw [mBs a o e] at h; cases h
  have hpf2 : pf ≠ p := fun e => by rw [← e, mBf] at hBp; cases hBp
  have hpfl : pf ∉ ls := fun hm => by have := (hls pf hm).1; rw [mBf] at this; cases this
  have tab0 : TabR (mset m2 p (.dK (tabL t.ks ls))) p ls t.ks (rowsI t 0 0) := by
    refine ⟨mset_same, hl, fun i l hil => ?_, hnd, hpl⟩
    have hm := mem_at hil
    rw [mset_ne (fun e => by rw [e] at hm; exact hpl hm), (hls l hm).2]
    unfold rowsI
    rw [if_neg (by omega)]
    rfl
  generalize hmC : mset m2 p (.dK (tabL t.ks ls)) = mC at tab0
  have mCs : MSub mB mC := by rw [← hmC]; exact hsub.trans (MSub.set hp)
  walk_at "zn"
  refine ⟨by omega, by omega, ?_⟩
  rw [show ((n : Int) + 1).toNat = n + 1 by omega]
  obtain ⟨P1, hP1⟩ : ∃ P : Nat → DSt → M → Prop, ∀ at_ r m', P at_ r m' ↔ (TabR m' p ls t.ks (rowsI t at_ 0) ∧ MSub mB m' ∧ ∃ o4 o5 o6 o8 o9 o10 o11 o12, r = [some (taskD K t), some (.int n), some (ksD t.ks), some (.ref pf), o4, o5, o6, some (.ref p), o8, o9, o10, o11, o12]) := ⟨_, fun _ _ _ => Iff.rfl⟩
  refine ⟨P1, (hP1 _ _ _).mpr ⟨tab0, mCs, _, _, _, _, _, _, _, _, rfl⟩, ?_, ?_⟩
  · intro at_ d r m3 hd hp1
    obtain ⟨tab, sub, o4, o5, o6, o8, o9, o10, o11, o12, rfl⟩ := (hP1 _ _ _).mp hp1
    obtain ⟨rfl, hat⟩ := rngD_at hd
    rw [Int.zero_add]
    walk_at "zs"
    obtain ⟨P2, hP2⟩ : ∃ P : Nat → DSt → M → Prop, ∀ i r m', P i r m' ↔ (TabR m' p ls t.ks (rowsI t at_ i) ∧ MSub mB m' ∧ ∃ o4 o5 o6 o9 o10 o11 o12, r = [some (taskD K t), some (.int n), some (ksD t.ks), some (.ref pf), o4, o5, o6, some (.ref p), some (.int at_), o9, o10, o11, o12]) := ⟨_, fun _ _ _ => Iff.rfl⟩
    refine ⟨P2, (hP2 _ _ _).mpr ⟨tab, sub, _, _, _, _, _, _, _, rfl⟩, ?_, ?_⟩
    · intro i d r m4 hd hp2
      obtain ⟨tab, sub, o4, o5, o6, o9, o10, o11, o12, rfl⟩ := (hP2 _ _ _).mp hp2
      obtain ⟨k, hk, rfl⟩ := map_at hd
      have hm := mem_at hk
      have hi := len_at hk
      simp only [Knd.D]
      walk_at "zn"
      refine ⟨pf, _, .inr k.n, _, rfl, sub _ _ mBf, rfl, follK_val ok hm, ?_⟩
      have fl : (foll t k.n).length ≤ 12 := Nat.le_trans (List.length_filter_le _ _) a12
      refine lc_filter (fun d => match d with | .tup [_, .int g] => decide (g ≤ (at_ : Int)) | _ => false) (fun d => match d with | .tup [.str z, .int g] => .int (dem t (at_ - g.toNat) z) | _ => .non) (by rw [sizeLine_eq]; simp; omega) (fun x hx => ?_) ?_
      · obtain ⟨a, ha, rfl⟩ := List.mem_map.mp hx
        have haA := (List.mem_filter.mp ha).1
        have ga := ok.as.g a haA
        obtain ⟨i2, hi2⟩ := List.mem_iff_getElem?.mp (ok.as.s a haA)
        obtain ⟨k2, hk2, e2⟩ := map_at hi2
        obtain ⟨l2, hl2⟩ : ∃ l2, ls[i2]? = some l2 := ⟨_, List.getElem?_eq_getElem (by rw [tab.len]; exact len_at hk2)⟩
        refine ⟨_, rfl, fun Q' q' => ?_, fun hp Q' q' => ?_⟩
        · simp only [wipeD, folD]
          walk_at "zs"
          exact q'
        · have hg := of_decide_eq_true hp
          simp only [wipeD, folD]
          walk_at "zs"
          refine ⟨p, _, .inr a.s, _, rfl, tab.dk, rfl, by rw [e2]; exact tabL_val ok.ks.nd tab.len hk2 hl2, ?_⟩
          walk_at "zs"
          refine ⟨_, by rw [tab.row i2 l2 hl2]; rfl, _, rowN_atI (by omega) (by split <;> omega), ?_⟩
          rw [nmI_at hk2, ← e2, show ((at_ : Int) - a.g).toNat = at_ - a.g.toNat by omega]
          exact q'
      have e9 : List.map (fun d => match d with | .tup [.str z, .int g] => D.int (dem t (at_ - g.toNat) z) | _ => .non) (List.filter (fun d => match d with | .tup [_, .int g] => decide (g ≤ (at_ : Int)) | _ => false) ((foll t k.n).map folD)) = (((foll t k.n).filter fun a : Arr => decide (a.g ≤ (at_ : Int))).map fun a : Arr => dem t (at_ - a.g.toNat) a.s).map D.int := by
        rw [List.filter_map, List.map_map, List.map_map]
        rfl
      rw [List.nil_append, e9]
      have e10 : dem t at_ k.n = ownC k at_ + mx (((foll t k.n).filter fun a : Arr => decide (a.g ≤ (at_ : Int))).map fun a : Arr => dem t (at_ - a.g.toNat) a.s) := by
        rw [dem_eq ok, dstp, kOf_mem ok hm]
      generalize ((foll t k.n).filter fun a : Arr => decide (a.g ≤ (at_ : Int))).map (fun a : Arr => dem t (at_ - a.g.toNat) a.s) = ah at *
      obtain ⟨l, hl3⟩ : ∃ l, ls[i]? = some l := ⟨_, List.getElem?_eq_getElem (by rw [tab.len]; exact hi)⟩
      simp only [dSeq]
      generalize hK : dDrop _ = kk
      have H : ∀ o, o = ownC k at_ → kk { nx := P2 (i + 1), rt := Q, bk := P1 (at_ + 1), ct := P2 (i + 1) } [some (taskD K t), some (.int n), some (ksD t.ks), some (.ref pf), some (.str k.n), some (.int k.c), some (.int k.d), some (.ref p), some (.int at_), some (il ah), o10, o11, some (.int o)] m4 := by
        intro o ho
        subst hK
        walk_at "zs"
        refine ⟨p, _, .inr k.n, _, rfl, tab.dk, rfl, tabL_val ok.ks.nd tab.len hk hl3, ⟨_, lsOf_ref (tab.row i l hl3)⟩, ?_⟩
        try simp only [dIfS, dTest, dOp, dVar, dC, dCB, daCons, daNil, dSet, dRet, dNext, dDrop, dAsg, dPar, dAug, dAddI, dBreak, dCont, dRetN, slot, dLen, dCmpI, dSub, dAdd, dMul, dDiv, dMod, dPow, dNeg, dUn, dIx, dInt1, dAbs, dChain, dAnd, dOr, dNot, dAndV, dOrV, dNotV, dTru, dTruB, dIf, dTup, dLst, mkL, dSlice, dSl, doNone, doSome, dSum, dAll, dAny, dList, dTuple, dMax, dMin, eq_ii, ne_ii, eq_ss, ne_ss, eq_bb, ne_bb, eq_nn, ne_nn, dIsN, dNotN, dFgt, dIsB, dNotB, gN, gT, gsNil, gsCons, gSet, dBM, dAppend, dClear, dFld, dFldS, dProp, dCall, dMeth, dMake, dMakeN, daStar, dDictP, dCallO, dFor, dLc, diR1, diR2, diR3, diL, diT, diRv, diS, diE, dFmt, dFStr, dJs, dCallN, dFrzE, frz_l, in_ss, notin_ss, drR1, drR2, dListR, dRaise, dRaise0, dTryAs, dTry, dXf, dAddO, dInO, isL, insOf, Option.some.injEq, List.cons.injEq, D.int.injEq, D.bl.injEq, D.str.injEq, D.lst.injEq, D.tup.injEq, D.ref.injEq, MO.lst.injEq, MO.ins.injEq, mset_mset, and_true, true_and, and_self, and_assoc, exists_eq_left', exists_eq_left, exists_and_left, exists_and_right, exists_eq', List.set_cons_zero, List.set_cons_succ, decide_eq_true_eq, sqOf, lsOf, List.length_cons, List.length_nil, sizeLine_eq, List.append_nil, List.cons_append, List.nil_append, if_true, if_false, Bool.false_eq_true, reduceCtorEq, reduceIte, Nat.reduceAdd, Nat.reduceLeDiff, mset_same, Option.bind_some, List.length_map, Prod.mk.injEq, at0, at1, at2, at3, at4, at5, at6, at7, ix30, ix31, ix32, ix20, ix21, ix10, isi_ii, isi_ib, isi_ll, isi_bb, isi_ss, isi_tt, isi_is, isi_si, Bool.not_true, Bool.not_false, dCBK, dMaxDf]
        have fin : ∀ v, v = o + mx ah → ∃ x, m4 l = some (MO.lst x) ∧ x.length < 16777216 ∧ P2 (i + 1) [some (taskD K t), some (.int n), some (ksD t.ks), some (.ref pf), some (.str k.n), some (.int k.c), some (.int k.d), some (.ref p), some (.int at_), some (il ah), o10, o11, some (.int o)] (mset m4 l (.lst (x ++ [.int v]))) := by
          intro v hv
          refine ⟨_, tab.row i l hl3, ?_, (hP2 _ _ _).mpr ⟨?_, ?_, _, _, _, _, _, _, _, rfl⟩⟩
          · rw [List.length_map]
            unfold rowsI
            rw [rowN_len]
            split <;> omega
          · have e11 : (rowsI t at_ i i).map D.int ++ [.int v] = (rowsI t at_ (i + 1) i).map D.int := by
              unfold rowsI
              rw [if_neg (by omega), if_pos (by omega), rowN_succ, List.map_append, nmI_at hk, e10, ← ho, ← hv]
              rfl
            rw [e11]
            refine tab.put hl3 (fun j hj => ?_)
            unfold rowsI
            by_cases h1 : j < i
            · rw [if_pos h1, if_pos (by omega)]
            · rw [if_neg h1, if_neg (by omega)]
          · intro a u hu
            rw [mset_ne (fun e => by rw [e] at hu; have := (hls l (mem_at hl3)).1; rw [this] at hu; cases hu)]
            exact sub a u hu
        cases ah with
        | nil => exact ⟨[], rfl, fin _ (by show o + 0 = o + 0; rfl)⟩
        | cons a ah => exact ⟨a :: ah, rfl, fin _ rfl⟩
      walk_at "zs"
      by_cases hd : k.d ≤ (at_ : Int)
      · rw [if_pos hd]
        exact H _ (by unfold ownC; rw [if_pos hd])
      · rw [if_neg hd]
        exact H _ (by unfold ownC; rw [if_neg hd])
    · intro r m4 hp2
      obtain ⟨tab, sub, o4, o5, o6, o9, o10, o11, o12, rfl⟩ := (hP2 _ _ _).mp hp2
      rw [List.length_map] at tab
      exact (hP1 _ _ _).mpr ⟨tab.congr (fun j hj => (rowsI_end t at_ (Nat.le_refl _) j hj).symm), sub, _, _, _, _, _, _, _, _, rfl⟩
  · intro r m3 hp1
    obtain ⟨tab, sub, o4, o5, o6, o8, o9, o10, o11, o12, rfl⟩ := (hP1 _ _ _).mp hp1
    rw [rngD_len] at tab
    try simp only [dIfS, dTest, dOp, dVar, dC, dCB, daCons, daNil, dSet, dRet, dNext, dDrop, dAsg, dPar, dAug, dAddI, dBreak, dCont, dRetN, slot, dLen, dCmpI, dSub, dAdd, dMul, dDiv, dMod, dPow, dNeg, dUn, dIx, dInt1, dAbs, dChain, dAnd, dOr, dNot, dAndV, dOrV, dNotV, dTru, dTruB, dIf, dTup, dLst, mkL, dSlice, dSl, doNone, doSome, dSum, dAll, dAny, dList, dTuple, dMax, dMin, eq_ii, ne_ii, eq_ss, ne_ss, eq_bb, ne_bb, eq_nn, ne_nn, dIsN, dNotN, dFgt, dIsB, dNotB, gN, gT, gsNil, gsCons, gSet, dBM, dAppend, dClear, dFld, dFldS, dProp, dCall, dMeth, dMake, dMakeN, daStar, dDictP, dCallO, dFor, dLc, diR1, diR2, diR3, diL, diT, diRv, diS, diE, dFmt, dFStr, dJs, dCallN, dFrzE, frz_l, in_ss, notin_ss, drR1, drR2, dListR, dRaise, dRaise0, dTryAs, dTry, dXf, dAddO, dInO, isL, insOf, Option.some.injEq, List.cons.injEq, D.int.injEq, D.bl.injEq, D.str.injEq, D.lst.injEq, D.tup.injEq, D.ref.injEq, MO.lst.injEq, MO.ins.injEq, mset_mset, and_true, true_and, and_self, and_assoc, exists_eq_left', exists_eq_left, exists_and_left, exists_and_right, exists_eq', List.set_cons_zero, List.set_cons_succ, decide_eq_true_eq, sqOf, lsOf, List.length_cons, List.length_nil, sizeLine_eq, List.append_nil, List.cons_append, List.nil_append, if_true, if_false, Bool.false_eq_true, reduceCtorEq, reduceIte, Nat.reduceAdd, Nat.reduceLeDiff, mset_same, Option.bind_some, List.length_map, Prod.mk.injEq, at0, at1, at2, at3, at4, at5, at6, at7, ix30, ix31, ix32, ix20, ix21, ix10, isi_ii, isi_ib, isi_ll, isi_bb, isi_ss, isi_tt, isi_is, isi_si, Bool.not_true, Bool.not_false, dWk]
    refine ⟨m3, MSub.refl _, q p ls m3 ⟨tab.congr fun j hj => ?_, mBs.trans sub, un p hBp, fun l hl => un l (hls l hl).1⟩⟩
    unfold rowsI
    rw [if_neg (by omega)]
theorem pair_one {t : Tsk} (ok : t.Ok) {a b : Arr} (ha : a ∈ t.as) (hb : b ∈ t.as) (e1 : a.f = b.f) (e2 : a.s = b.s) : a = b := by
  obtain ⟨i, hi⟩ := List.mem_iff_getElem?.mp ha
  obtain ⟨j, hj⟩ := List.mem_iff_getElem?.mp hb
  have n1 : (t.as.map fun a => (a.f, a.s))[i]? = some (a.f, a.s) := by rw [List.getElem?_map, hi]; rfl
  have n2 : (t.as.map fun a => (a.f, a.s))[j]? = some (b.f, b.s) := by rw [List.getElem?_map, hj]; rfl
  have ij : i = j := (List.getElem?_inj (by rw [List.length_map]; exact len_at hi) ok.as.nd).mp (by rw [n1, n2, e1, e2])
  subst ij
  rw [hi] at hj
  exact Option.some.inj hj
theorem gapF_is {t : Tsk} (ok : t.Ok) {a : Arr} (ha : a ∈ t.as) : gapF t a.f a.s = some a.g := by
  unfold gapF
  cases e : (foll t a.f).find? (fun b => decide (b.s = a.s)) with
  | none =>
    have := List.find?_eq_none.mp e a (List.mem_filter.mpr ⟨ha, decide_eq_true rfl⟩)
    simp at this
  | some b =>
    have h1 := List.mem_filter.mp (List.mem_of_find?_eq_some e)
    have h2 := List.find?_some e
    have h2 := of_decide_eq_true h2
    rw [pair_one ok h1.1 ha (of_decide_eq_true h1.2) h2]
    rfl
theorem job_none {K : Fr0} {t : Tsk} (ok : t.Ok) {g : Int} {w : List Job} (h : WkOk t g w) (i : Nat) {p : Nat} (hp : p < w.length) : jobX K t w i p g = none := by
  obtain ⟨⟨k, hk, ek, c1, c2⟩, r0, lk⟩ := h p hp
  unfold jobX
  rw [if_neg (by rw [← ek]; simpa using List.mem_map_of_mem hk), ← ek, kOf_is ok hk, if_neg (by simpa using ⟨c1, c2⟩), if_neg (by omega)]
  by_cases h0 : p = 0
  · rw [if_pos h0]
  · rw [if_neg h0]
    obtain ⟨a, ha, e1, e2, e3⟩ := lk (by omega)
    rw [← e1, ek, ← e2, gapF_is ok ha]
    show (if _ then _ else none) = none
    rw [if_neg (by omega)]
theorem many_le {ws : List (List Job)} {B : Nat} (h : ∀ w ∈ ws, w.length ≤ B) : many ws ≤ ws.length * B := by
  unfold many
  induction ws with
  | nil => simp
  | cons w ws ih =>
    have := ih fun x hx => h x (List.mem_cons_of_mem _ hx)
    have := h w List.mem_cons_self
    rw [List.map_cons, List.sum_cons, List.length_cons, Nat.add_mul]
    omega
theorem run_none {K : Fr0} {ts : List Tsk} {ws : List (List Job)} {g : Int} (hg : 1 ≤ g ∧ g ≤ 60) (hl : ws.length = ts.length) (h4 : many ws ≤ 400) (ok : ∀ t ∈ ts, t.Ok) (wk : ∀ i, i < ws.length → WkOk (tAt ts i) g (wAt ws i)) : runX K ts ws g = none := by
  unfold runX
  rw [show cntsX K ts ws g = none by
    unfold cntsX
    rw [if_neg (by simpa using hg), if_neg (by simpa using hl), if_neg (by omega)]]
  show allX K ts ws g = none
  refine none_of' fun i hi => none_of' fun p hp => ?_
  exact job_none (ok _ (mem_at (tAt_at (by omega)))) (wk i hi) i hp
theorem le_key (x y : Rw) : PySem.W.dataLe false keyR x y = !(decide (y.r < x.r) || (!decide (x.r < y.r) && (decide ((y.i : Int) < x.i) || (!decide ((x.i : Int) < y.i) && (decide ((y.p : Int) < x.p) || (!decide ((x.p : Int) < y.p) && false)))))) := by
  unfold PySem.W.dataLe PySem.W.sortLe keyR
  simp only [PySem.W.keyToks, PySem.W.keyToksAll, List.cons_append, List.nil_append]
  show (!PyProof.Rows.lexLt PyProof.Rows.itemOrd _ _) = _
  simp only [PyProof.Rows.lexLt]
  simp [PyProof.Rows.itemLt, PyProof.Rows.itemOrd]
theorem dem_split {t : Tsk} (ok : t.Ok) {n : Nat} {z : Str} {v : Int} (h1 : ∀ b ∈ foll t z, b.g ≤ (n : Int) → dem t (n - b.g.toNat) b.s ≤ v) (v0 : 0 ≤ v) (h2 : v = 0 ∨ ∃ a ∈ foll t z, a.g ≤ (n : Int) ∧ dem t (n - a.g.toNat) a.s = v) : dem t n z = ownC (kOf t z) n + v := by
  rw [dem_eq ok]
  unfold dstp
  have e : mx (((foll t z).filter fun a : Arr => decide (a.g ≤ (n : Int))).map fun a : Arr => dem t (n - a.g.toNat) a.s) = v := by
    refine Int.le_antisymm (mx_le v0 fun x hx => ?_) ?_
    · obtain ⟨b, hb, rfl⟩ := List.mem_map.mp hx
      rw [List.mem_filter] at hb
      exact h1 b hb.1 (of_decide_eq_true hb.2)
    · rcases h2 with rfl | ⟨a, ha, hg, rfl⟩
      · exact mx_nonneg fun x hx => by
          obtain ⟨b, hb, rfl⟩ := List.mem_map.mp hx
          exact dem0 ok _ _
      · exact mx_ge (List.mem_map.mpr ⟨a, List.mem_filter.mpr ⟨ha, decide_eq_true hg⟩, rfl⟩)
  rw [e]
def dueW (t : Tsk) (g b : Int) (w : List Job) : Int := ((w.filter fun j => decide (j.r + (kOf t j.k).d * g ≤ b)).map Job.c).sum
theorem dueW_app (t : Tsk) (g b : Int) (w : List Job) (j : Job) : dueW t g b (w ++ [j]) = dueW t g b w + (if j.r + (kOf t j.k).d * g ≤ b then j.c else 0) := by
  unfold dueW
  rw [List.filter_append, List.map_append, List.sum_append]
  congr 1
  by_cases h : j.r + (kOf t j.k).d * g ≤ b <;> simp [h]
theorem Hv.pos {t : Tsk} (ok : t.Ok) {n : Nat} {w : List Job} {z : Str} {l : Nat} (h : Hv t n w z l) : z ∈ names t.ks ∧ 0 < dem t l z ∧ l ≤ n ∧ w.length + l ≤ n + 1 ∧ w.getLast? = some ⟨z, (n : Int) - l, (kOf t z).c⟩ := by
  induction h with
  | one z hz _ hp => exact ⟨hz, hp, Nat.le_refl _, by simp; omega, by simp⟩
  | step w z l a l' h ha hg hp _ ih =>
    have haA := (List.mem_filter.mp ha).1
    have := ok.as.g a haA
    refine ⟨ok.as.s a haA, hp, by omega, by rw [List.length_append, List.length_singleton]; omega, by simp⟩
theorem dem_at0 {t : Tsk} (ok : t.Ok) {z : Str} (hz : z ∈ names t.ks) : dem t 0 z = 0 := by
  obtain ⟨k, hk, rfl⟩ := List.mem_map.mp hz
  rw [dem_split ok (v := 0) (fun b hb hg => ?_) (Int.le_refl _) (.inl rfl)]
  · rw [kOf_mem ok hk]
    unfold ownC
    have := ok.ks.d k hk
    rw [if_neg (by omega)]
    rfl
  · have := ok.as.g b (List.mem_filter.mp hb).1
    omega
theorem Hv.len {t : Tsk} (ok : t.Ok) {n : Nat} {w : List Job} {z : Str} {l : Nat} (h : Hv t n w z l) : w.length ≤ n := by
  obtain ⟨hz, hp, _, hl, _⟩ := h.pos ok
  have : l ≠ 0 := fun e => by subst e; rw [dem_at0 ok hz] at hp; omega
  omega
theorem Hv.due {t : Tsk} (ok : t.Ok) {n : Nat} {w : List Job} {z : Str} {l : Nat} (h : Hv t n w z l) : ∃ z0 ∈ names t.ks, (∀ y ∈ names t.ks, dem t n y ≤ dem t n z0) ∧ dueW t 1 n w = dem t n z0 - dem t l z + ownC (kOf t z) l := by
  induction h with
  | one z hz hb hp =>
    refine ⟨z, hz, hb, ?_⟩
    have := dueW_app t 1 n [] ⟨z, 0, (kOf t z).c⟩
    rw [List.nil_append] at this
    rw [this]
    show 0 + _ = _
    unfold ownC
    simp only [Int.mul_one, Int.zero_add]
    omega
  | step w z l a l' h ha hg hp hb ih =>
    obtain ⟨z0, hz0, h0, e⟩ := ih
    refine ⟨z0, hz0, h0, ?_⟩
    rw [dueW_app, e]
    have haA := (List.mem_filter.mp ha).1
    have := ok.as.g a haA
    rw [dem_split ok (n := l) (z := z) hb (by omega) (.inr ⟨a, ha, by omega, by rw [show l - a.g.toNat = l' by omega]⟩)]
    unfold ownC
    show _ + (if (n : Int) - l' + (kOf t a.s).d * 1 ≤ n then (kOf t a.s).c else 0) = _
    have e2 : ((n : Int) - l' + (kOf t a.s).d * 1 ≤ n) ↔ (kOf t a.s).d ≤ l' := by omega
    simp only [e2]
    omega
theorem tdem_top {t : Tsk} (ok : t.Ok) {n : Nat} {z : Str} (hz : z ∈ names t.ks) (h : ∀ y ∈ names t.ks, dem t n y ≤ dem t n z) : dem t n z = tdem t n := by
  obtain ⟨k, hk, rfl⟩ := List.mem_map.mp hz
  refine mxL_of (fun x hx => ?_) (List.mem_map.mpr ⟨k, hk, rfl⟩) (fun y hy => ?_)
  · obtain ⟨k2, _, rfl⟩ := List.mem_map.mp hx
    exact dem0 ok _ _
  · obtain ⟨k2, h2, rfl⟩ := List.mem_map.mp hy
    exact h _ (List.mem_map_of_mem h2)
theorem HvW.due {t : Tsk} (ok : t.Ok) {n : Nat} {w : List Job} (h : HvW t n w) : dueW t 1 n w = tdem t n := by
  rcases h with ⟨rfl, h0⟩ | ⟨z, l, h, he⟩
  · obtain ⟨k, hk⟩ : ∃ k, k ∈ t.ks := List.exists_mem_of_length_pos ok.k1
    have := tdem_top ok (n := n) (List.mem_map_of_mem (f := Knd.n) hk) (fun y hy => by rw [h0 y hy, h0 _ (List.mem_map_of_mem hk)]; exact Int.le_refl _)
    rw [← this, h0 _ (List.mem_map_of_mem hk)]
    rfl
  · obtain ⟨z0, hz0, h0, e⟩ := h.due ok
    rw [e, dem_split ok (n := l) (z := z) (v := 0) (fun b hb hg => by rw [he b hb hg]; exact Int.le_refl _) (Int.le_refl _) (.inl rfl), tdem_top ok hz0 h0]
    omega
theorem HvW.len {t : Tsk} (ok : t.Ok) {n : Nat} {w : List Job} (h : HvW t n w) : w.length ≤ n := by
  rcases h with ⟨rfl, _⟩ | ⟨z, l, h, _⟩
  · exact Nat.zero_le _
  · exact h.len ok
theorem jAt_app1 {w : List Job} {j : Job} {p : Nat} (h : p < w.length) : jAt (w ++ [j]) p = jAt w p := by
  unfold jAt
  rw [List.getD_eq_getElem?_getD, List.getD_eq_getElem?_getD, List.getElem?_append_left h]
theorem jAt_app2 {w : List Job} {j : Job} : jAt (w ++ [j]) w.length = j := by
  unfold jAt
  rw [List.getD_eq_getElem?_getD, List.getElem?_append_right (Nat.le_refl _), Nat.sub_self]
  rfl
theorem jAt_last {w : List Job} {j : Job} (h : w.getLast? = some j) : 1 ≤ w.length ∧ jAt w (w.length - 1) = j := by
  obtain ⟨ys, rfl⟩ := List.getLast?_eq_some_iff.mp h
  refine ⟨by simp, ?_⟩
  rw [List.length_append, List.length_singleton, Nat.add_sub_cancel]
  exact jAt_app2
structure HvJ (t : Tsk) (w : List Job) : Prop where
  z : ∀ p, p < w.length → ∃ k ∈ t.ks, k.n = (jAt w p).k ∧ (jAt w p).c = k.c
  r : ∀ p, p < w.length → 0 ≤ (jAt w p).r
  o : 0 < w.length → (jAt w 0).r = 0
  g : ∀ p, 1 ≤ p → p < w.length → ∃ a ∈ t.as, a.f = (jAt w (p - 1)).k ∧ a.s = (jAt w p).k ∧ a.g = (jAt w p).r - (jAt w (p - 1)).r
theorem Hv.jobs {t : Tsk} (ok : t.Ok) {n : Nat} {w : List Job} {z : Str} {l : Nat} (h : Hv t n w z l) : HvJ t w := by
  induction h with
  | one z hz _ _ =>
    refine ⟨fun p hp => ?_, fun p hp => ?_, fun _ => rfl, fun p h1 hp => ?_⟩
    · have : p = 0 := by simpa using hp
      subst this
      obtain ⟨k, hk, rfl⟩ := List.mem_map.mp hz
      exact ⟨k, hk, rfl, by show (kOf t k.n).c = k.c; rw [kOf_mem ok hk]⟩
    · have : p = 0 := by simpa using hp
      subst this
      exact Int.le_refl _
    · simp at hp; omega
  | step w z l a l' h ha hg hp _ ih =>
    obtain ⟨hz, _, hl, _, hlast⟩ := h.pos ok
    obtain ⟨h1, h2⟩ := jAt_last hlast
    obtain ⟨haA, hf⟩ := List.mem_filter.mp ha
    have hf := of_decide_eq_true hf
    have ag := ok.as.g a haA
    obtain ⟨k, hk, ek⟩ := List.mem_map.mp (ok.as.s a haA)
    refine ⟨fun p hp => ?_, fun p hp => ?_, fun _ => ?_, fun p h3 hp => ?_⟩
    · rw [List.length_append, List.length_singleton] at hp
      by_cases e : p < w.length
      · rw [jAt_app1 e]; exact ih.z p e
      · have : p = w.length := by omega
        subst this
        rw [jAt_app2]
        exact ⟨k, hk, ek, by show (kOf t a.s).c = k.c; rw [← ek, kOf_mem ok hk]⟩
    · rw [List.length_append, List.length_singleton] at hp
      by_cases e : p < w.length
      · rw [jAt_app1 e]; exact ih.r p e
      · have : p = w.length := by omega
        subst this
        rw [jAt_app2]
        show 0 ≤ (n : Int) - l'
        omega
    · rw [jAt_app1 (by omega)]; exact ih.o (by omega)
    · rw [List.length_append, List.length_singleton] at hp
      rw [jAt_app1 (p := p - 1) (by omega)]
      by_cases e : p < w.length
      · rw [jAt_app1 e]; exact ih.g p h3 e
      · have : p = w.length := by omega
        subst this
        rw [jAt_app2, h2]
        exact ⟨a, haA, hf, rfl, by show a.g = (n : Int) - l' - (n - l); omega⟩
theorem HvW.jobs {t : Tsk} (ok : t.Ok) {n : Nat} {w : List Job} (h : HvW t n w) : HvJ t w := by
  rcases h with ⟨rfl, _⟩ | ⟨z, l, h, _⟩
  · exact ⟨by simp, by simp, by simp, by simp⟩
  · exact h.jobs ok
theorem HvJ.wk {t : Tsk} (ok : t.Ok) {w : List Job} (h : HvJ t w) : WkOk t 1 w := fun p hp => by
  obtain ⟨k, hk, e, c⟩ := h.z p hp
  have kb := kn_b ok hk
  refine ⟨⟨k, hk, e, by omega, by omega⟩, h.r p hp, fun h1 => ?_⟩
  obtain ⟨a, ha, e1, e2, e3⟩ := h.g p h1 hp
  exact ⟨a, ha, e1, e2, by omega⟩
theorem at_last {α : Type} {xs : List α} {x : α} (h : xs[xs.length - 1]? = some x) : atI xs (-1) = some x := by
  have hl : 1 ≤ xs.length := by
    cases xs with
    | nil => cases h
    | cons y ys => simp
  unfold atI ixN
  rw [if_neg (by omega)]
  rw [if_pos (by omega)]
  show xs[(-1 + (xs.length : Int)).toNat]? = some x
  rw [show (-1 + (xs.length : Int)).toNat = xs.length - 1 by omega]
  exact h
theorem TabR.sub {m m' : M} {p : Addr} {ls : List Addr} {ks : List Knd} {rows : Nat → List Int} (h : TabR m p ls ks rows) (e : MSub m m') : TabR m' p ls ks rows :=
  ⟨e _ _ h.dk, h.len, fun i l hl => e _ _ (h.row i l hl), h.nd, h.pn⟩
theorem tab_row {m : M} {p : Addr} {ls : List Addr} {t : Tsk} {N : Nat} (ok : t.Ok) (h : TabR m p ls t.ks (demRow t N)) {z : Str} (hz : z ∈ names t.ks) : ∃ l, valD (tabL t.ks ls) (Sum.inr z) = some (.ref l) ∧ m l = some (.lst ((rowN (fun n => dem t n z) N).map D.int)) := by
  obtain ⟨i, hi⟩ := List.mem_iff_getElem?.mp hz
  rw [List.getElem?_map] at hi
  obtain ⟨k, hk, rfl⟩ := Option.map_eq_some_iff.mp hi
  obtain ⟨l, hl⟩ : ∃ l, ls[i]? = some l := ⟨_, List.getElem?_eq_getElem (by rw [h.len]; exact len_at hk)⟩
  refine ⟨l, tabL_val ok.ks.nd h.len hk hl, ?_⟩
  rw [h.row i l hl]
  show some (MO.lst ((rowN (fun n => dem t n (nmI t.ks i)) N).map D.int)) = _
  rw [nmI_at hk]
theorem pure_heaviest_kind {K : Fr0} {mg : Str → Option Value} (T : Txt K mg) (ds : List D) (m : M) (Q : D → M → Prop) (E : XD → M → Prop) (h : sp_heaviest_kind K ds m Q E) : t_heaviest_kind K (fun x _ m => E x m) { nx := fun _ m => Q .non m, rt := Q } (startD nm_heaviest_kind ds) m := by
  obtain ⟨p, ls, t, N, n, rfl, ok, tab, hn, q⟩ := h
  show t_heaviest_kind K _ _ [some (.ref p), some (.lst ((names t.ks).map D.str)), some (.int n), none, none] m
  unfold t_heaviest_kind
  obtain ⟨k0, hk0⟩ : ∃ k0, t.ks[0]? = some k0 := ⟨_, List.getElem?_eq_getElem ok.k1⟩
  have e0 : atI ((names t.ks).map D.str) 0 = some (.str k0.n) := by
    have : atI ((names t.ks).map D.str) ((0 : Nat) : Int) = some (.str k0.n) := atI_nat (by rw [List.getElem?_map, List.getElem?_map, hk0]; rfl)
    exact this
  try simp only [dSeq]
  try simp only [dIfS, dTest, dOp, dVar, dC, dCB, daCons, daNil, dSet, dRet, dNext, dDrop, dAsg, dPar, dAug, dAddI, dBreak, dCont, dRetN, slot, dLen, dCmpI, dSub, dAdd, dMul, dDiv, dMod, dPow, dNeg, dUn, dIx, dInt1, dAbs, dChain, dAnd, dOr, dNot, dAndV, dOrV, dNotV, dTru, dTruB, dIf, dTup, dLst, mkL, dSlice, dSl, doNone, doSome, dSum, dAll, dAny, dList, dTuple, dMax, dMin, eq_ii, ne_ii, eq_ss, ne_ss, eq_bb, ne_bb, eq_nn, ne_nn, dIsN, dNotN, dFgt, dIsB, dNotB, gN, gT, gsNil, gsCons, gSet, dBM, dAppend, dClear, dFld, dFldS, dProp, dCall, dMeth, dMake, dMakeN, daStar, dDictP, dCallO, dFor, dLc, diR1, diR2, diR3, diL, diT, diRv, diS, diE, dFmt, dFStr, dJs, dCallN, dFrzE, frz_l, in_ss, notin_ss, drR1, drR2, dListR, dRaise, dRaise0, dTryAs, dTry, dXf, dAddO, dInO, isL, insOf, Option.some.injEq, List.cons.injEq, D.int.injEq, D.bl.injEq, D.str.injEq, D.lst.injEq, D.tup.injEq, D.ref.injEq, MO.lst.injEq, MO.ins.injEq, mset_mset, and_true, true_and, and_self, and_assoc, exists_eq_left', exists_eq_left, exists_and_left, exists_and_right, exists_eq', List.set_cons_zero, List.set_cons_succ, decide_eq_true_eq, sqOf, lsOf, List.length_cons, List.length_nil, sizeLine_eq, List.append_nil, List.cons_append, List.nil_append, if_true, if_false, Bool.false_eq_true, reduceCtorEq, reduceIte, Nat.reduceAdd, Nat.reduceLeDiff, mset_same, Option.bind_some, List.length_map, Prod.mk.injEq, at0, at1, at2, at3, at4, at5, at6, at7, ix30, ix31, ix32, ix20, ix21, ix10, isi_ii, isi_ib, isi_ll, isi_bb, isi_ss, isi_tt, isi_is, isi_si, Bool.not_true, Bool.not_false, e0]
  walk_at "zn"
  obtain ⟨P1, hP1⟩ : ∃ P : Nat → DSt → M → Prop, ∀ j r m', P j r m' ↔ (m = m' ∧ ∃ z o4, z ∈ names t.ks ∧ (∀ i y, i < j → (names t.ks)[i]? = some y → dem t n y ≤ dem t n z) ∧ r = [some (.ref p), some (.lst ((names t.ks).map D.str)), some (.int n), some (.str z), o4]) := ⟨_, fun _ _ _ => Iff.rfl⟩
  refine ⟨P1, (hP1 0 _ _).mpr ⟨rfl, _, _, List.mem_map_of_mem (mem_at hk0), fun i y h => absurd h (Nat.not_lt_zero _), rfl⟩, ?_, ?_⟩
  · intro j d r m' hd hp
    obtain ⟨rfl, z, o4, hz, hb, rfl⟩ := (hP1 _ _ _).mp hp
    obtain ⟨y, hy, rfl⟩ := map_at hd
    obtain ⟨l1, v1, r1⟩ := tab_row ok tab hz
    obtain ⟨l2, v2, r2⟩ := tab_row ok tab (mem_at hy)
    walk_at "zs"
    refine ⟨p, _, .inr y, _, rfl, tab.dk, rfl, v2, ?_⟩
    walk_at "zs"
    refine ⟨_, by rw [r2]; rfl, _, rowN_atI (by omega) (by omega), ?_⟩
    walk_at "zs"
    refine ⟨p, _, .inr z, _, rfl, tab.dk, rfl, v1, ?_⟩
    walk_at "zs"
    refine ⟨_, by rw [r1]; rfl, _, rowN_atI (by omega) (by omega), ?_⟩
    walk_at "zs"
    rw [Int.toNat_natCast]
    by_cases c : dem t n z < dem t n y
    · rw [if_pos c]
      refine (hP1 _ _ _).mpr ⟨rfl, y, _, mem_at hy, fun i x hi hx => ?_, rfl⟩
      by_cases e : i = j
      · subst e; rw [hy] at hx; cases hx; exact Int.le_refl _
      · have := hb i x (by omega) hx; omega
    · rw [if_neg c]
      refine (hP1 _ _ _).mpr ⟨rfl, z, _, hz, fun i x hi hx => ?_, rfl⟩
      by_cases e : i = j
      · subst e; rw [hy] at hx; cases hx; omega
      · exact hb i x (by omega) hx
  · intro r m' hp
    obtain ⟨rfl, z, o4, hz, hb, rfl⟩ := (hP1 _ _ _).mp hp
    rw [List.length_map] at hb
    walk_at "zs"
    refine q z hz fun y hy => ?_
    obtain ⟨i, hi⟩ := List.mem_iff_getElem?.mp hy
    exact hb i y (len_at hi) hi
theorem pure_next_step {K : Fr0} {mg : Str → Option Value} (T : Txt K mg) (ds : List D) (m : M) (Q : D → M → Prop) (E : XD → M → Prop) (h : sp_next_step K ds m Q E) : t_next_step K (fun x _ m => E x m) { nx := fun _ m => Q .non m, rt := Q } (startD nm_next_step ds) m := by
  obtain ⟨p, ls, t, z, N, l, rfl, ok, tab, hl, q0, q1⟩ := h
  show t_next_step K _ _ [some (.ref p), some (.lst ((foll t z).map folD)), some (.int l), none, none, none, none] m
  unfold t_next_step
  walk_at "zn"
  walk_at "zn"
  walk_at "zn"
  obtain ⟨P1, hP1⟩ : ∃ P : Nat → DSt → M → Prop, ∀ j r m', P j r m' ↔ (m = m' ∧ ∃ (x : D) (v : Int) (o5 o6 : Option D), 0 ≤ v ∧ (∀ i b, i < j → (foll t z)[i]? = some b → b.g ≤ (l : Int) → dem t (l - b.g.toNat) b.s ≤ v) ∧ (x = .non ∧ v = 0 ∨ ∃ (a : Arr) (l' : Nat), x = folD a ∧ a ∈ foll t z ∧ a.g + (l' : Int) = l ∧ v = dem t l' a.s ∧ 0 < v) ∧ r = [some (.ref p), some (.lst ((foll t z).map folD)), some (.int l), some x, some (.int v), o5, o6]) := ⟨_, fun _ _ _ => Iff.rfl⟩
  refine ⟨P1, (hP1 0 _ _).mpr ⟨rfl, _, _, _, _, Int.le_refl 0, fun i b h => absurd h (Nat.not_lt_zero _), .inl ⟨rfl, rfl⟩, rfl⟩, ?_, ?_⟩
  · intro j d r m' hd hp
    obtain ⟨rfl, x, v, o5, o6, v0, hb, hx, rfl⟩ := (hP1 _ _ _).mp hp
    obtain ⟨a, ha, rfl⟩ := map_at hd
    have haA := (List.mem_filter.mp (mem_at ha)).1
    have ag := ok.as.g a haA
    simp only [folD]
    walk_at "zn"
    by_cases c : a.g ≤ (l : Int)
    · rw [if_pos c]
      obtain ⟨l', hl'⟩ : ∃ l' : Nat, a.g + (l' : Int) = l := ⟨(l - a.g).toNat, by omega⟩
      obtain ⟨l1, v1, r1⟩ := tab_row ok tab (ok.as.s a haA)
      have el : (l : Int) - a.g = (l' : Int) := by omega
      have el2 : l - a.g.toNat = l' := by omega
      walk_at "zs"
      refine ⟨p, _, .inr a.s, _, rfl, tab.dk, rfl, v1, ?_⟩
      walk_at "zs"
      rw [el]
      refine ⟨_, by rw [r1]; rfl, _, rowN_atI (by omega) (by omega), ?_⟩
      walk_at "zs"
      rw [Int.toNat_natCast]
      by_cases c2 : v < dem t l' a.s
      · rw [if_pos c2]
        walk_at "zn"
        refine ⟨p, _, .inr a.s, _, rfl, tab.dk, rfl, v1, ?_⟩
        walk_at "zs"
        rw [el]
        refine ⟨_, by rw [r1]; rfl, _, rowN_atI (by omega) (by omega), ?_⟩
        rw [Int.toNat_natCast]
        refine (hP1 _ _ _).mpr ⟨rfl, _, _, _, _, by omega, fun i b hi h2 hg => ?_, .inr ⟨a, l', rfl, mem_at ha, hl', rfl, by omega⟩, rfl⟩
        by_cases e : i = j
        · subst e; rw [ha] at h2; cases h2; rw [el2]; exact Int.le_refl _
        · have := hb i b (by omega) h2 hg; omega
      · rw [if_neg c2]
        refine (hP1 _ _ _).mpr ⟨rfl, _, _, _, _, v0, fun i b hi h2 hg => ?_, hx, rfl⟩
        by_cases e : i = j
        · subst e; rw [ha] at h2; cases h2; rw [el2]; omega
        · exact hb i b (by omega) h2 hg
    · rw [if_neg c]
      refine (hP1 _ _ _).mpr ⟨rfl, _, _, _, _, v0, fun i b hi h2 hg => ?_, hx, rfl⟩
      by_cases e : i = j
      · subst e; rw [ha] at h2; cases h2; omega
      · exact hb i b (by omega) h2 hg
  · intro r m' hp
    obtain ⟨rfl, x, v, o5, o6, v0, hb, hx, rfl⟩ := (hP1 _ _ _).mp hp
    rw [List.length_map] at hb
    have hb : ∀ b ∈ foll t z, b.g ≤ (l : Int) → dem t (l - b.g.toNat) b.s ≤ v := fun b h hg => by
      obtain ⟨i, hi⟩ := List.mem_iff_getElem?.mp h
      exact hb i b (len_at hi) hi hg
    walk_at "zs"
    rcases hx with ⟨rfl, rfl⟩ | ⟨a, l', rfl, ha, hl', rfl, h0⟩
    · exact q0 fun b h hg => Int.le_antisymm (hb b h hg) (dem0 ok _ _)
    · exact q1 a l' ha hl' h0 hb
theorem hv_at {w : List Job} {j : Job} (h : w.getLast? = some j) : atI (w.map hvD) (-1) = some (hvD j) := by
  obtain ⟨h1, h2⟩ := jAt_last h
  refine at_last ?_
  rw [List.length_map, List.getElem?_map, jAt_at (by omega), h2]
  rfl
theorem MSub.both {m m1 : M} (h : MSub m m1) {p : Addr} {o : MO} (hp : m1 p = none) : MSub (mset m p o) (mset m1 p o) := fun x u e => by
  by_cases hx : x = p
  · subst hx
    rw [mset_same] at e ⊢
    exact e
  · rw [mset_ne hx] at e ⊢
    exact h x u e
theorem MSub.none {m m1 : M} (h : MSub m m1) {p : Addr} (hp : m1 p = none) : m p = none := by
  cases e : m p with
  | none => rfl
  | some o => rw [h p o e] at hp; cases hp
theorem pure_heavy_walk {K : Fr0} {mg : Str → Option Value} (T : Txt K mg) (ds : List D) (m : M) (Q : D → M → Prop) (E : XD → M → Prop) (h : sp_heavy_walk K ds m Q E) : t_heavy_walk K (fun x _ m => E x m) { nx := fun _ m => Q .non m, rt := Q } (startD nm_heavy_walk ds) m := by
  obtain ⟨t, x, n, rfl, rfl, ok, hn, q⟩ := h
  have k4 := ok.k4
  show t_heavy_walk K _ _ [some (taskD K t), some (.int n), none, none, none, none, none, none] m
  unfold t_heavy_walk
  walk_at "zn"
  refine ⟨t, _, n, rfl, rfl, ok, hn, fun p ls m1 tab => ?_⟩
  try simp only [dSeq]
  try simp only [dIfS, dTest, dOp, dVar, dC, dCB, daCons, daNil, dSet, dRet, dNext, dDrop, dAsg, dPar, dAug, dAddI, dBreak, dCont, dRetN, slot, dLen, dCmpI, dSub, dAdd, dMul, dDiv, dMod, dPow, dNeg, dUn, dIx, dInt1, dAbs, dChain, dAnd, dOr, dNot, dAndV, dOrV, dNotV, dTru, dTruB, dIf, dTup, dLst, mkL, dSlice, dSl, doNone, doSome, dSum, dAll, dAny, dList, dTuple, dMax, dMin, eq_ii, ne_ii, eq_ss, ne_ss, eq_bb, ne_bb, eq_nn, ne_nn, dIsN, dNotN, dFgt, dIsB, dNotB, gN, gT, gsNil, gsCons, gSet, dBM, dAppend, dClear, dFld, dFldS, dProp, dCall, dMeth, dMake, dMakeN, daStar, dDictP, dCallO, dFor, dLc, diR1, diR2, diR3, diL, diT, diRv, diS, diE, dFmt, dFStr, dJs, dCallN, dFrzE, frz_l, in_ss, notin_ss, drR1, drR2, dListR, dRaise, dRaise0, dTryAs, dTry, dXf, dAddO, dInO, isL, insOf, Option.some.injEq, List.cons.injEq, D.int.injEq, D.bl.injEq, D.str.injEq, D.lst.injEq, D.tup.injEq, D.ref.injEq, MO.lst.injEq, MO.ins.injEq, mset_mset, and_true, true_and, and_self, and_assoc, exists_eq_left', exists_eq_left, exists_and_left, exists_and_right, exists_eq', List.set_cons_zero, List.set_cons_succ, decide_eq_true_eq, sqOf, lsOf, List.length_cons, List.length_nil, sizeLine_eq, List.append_nil, List.cons_append, List.nil_append, if_true, if_false, Bool.false_eq_true, reduceCtorEq, reduceIte, Nat.reduceAdd, Nat.reduceLeDiff, mset_same, Option.bind_some, List.length_map, Prod.mk.injEq, at0, at1, at2, at3, at4, at5, at6, at7, ix30, ix31, ix32, ix20, ix21, ix10, isi_ii, isi_ib, isi_ll, isi_bb, isi_ss, isi_tt, isi_is, isi_si, Bool.not_true, Bool.not_false, T.cl_Task, T.n_Task_name, T.n_Task_kind_rows, T.n_Task_arrow_rows, taskD, lk_name, lk_kinds, lk_arrows]
  refine ⟨t, _, rfl, rfl, ?_⟩
  refine lc_mapD (f := fun k : Knd => .str k.n) (by rw [sizeLine_eq]; omega) (fun k hk => ⟨_, rfl, fun Q' q' => ?_⟩) ?_
  · simp only [wipeD, Knd.D]
    walk_at "zs"
    exact q'
  rw [show t.ks.map (fun k : Knd => D.str k.n) = (names t.ks).map D.str by rw [List.map_map]; rfl]
  refine ⟨p, ls, t, n + 1, n, rfl, ok, tab.toTabR, by omega, fun z hz hb => ?_⟩
  obtain ⟨l1, v1, r1⟩ := tab_row ok tab.toTabR hz
  walk_at "zn"
  refine ⟨p, _, .inr z, _, rfl, tab.dk, rfl, v1, ?_⟩
  walk_at "zs"
  refine ⟨_, by rw [r1]; rfl, _, rowN_atI (by omega) (by omega), ?_⟩
  walk_at "zs"
  rw [Int.toNat_natCast]
  by_cases c : dem t n z = 0
  · rw [if_pos c]
    try simp only [dIfS, dTest, dOp, dVar, dC, dCB, daCons, daNil, dSet, dRet, dNext, dDrop, dAsg, dPar, dAug, dAddI, dBreak, dCont, dRetN, slot, dLen, dCmpI, dSub, dAdd, dMul, dDiv, dMod, dPow, dNeg, dUn, dIx, dInt1, dAbs, dChain, dAnd, dOr, dNot, dAndV, dOrV, dNotV, dTru, dTruB, dIf, dTup, dLst, mkL, dSlice, dSl, doNone, doSome, dSum, dAll, dAny, dList, dTuple, dMax, dMin, eq_ii, ne_ii, eq_ss, ne_ss, eq_bb, ne_bb, eq_nn, ne_nn, dIsN, dNotN, dFgt, dIsB, dNotB, gN, gT, gsNil, gsCons, gSet, dBM, dAppend, dClear, dFld, dFldS, dProp, dCall, dMeth, dMake, dMakeN, daStar, dDictP, dCallO, dFor, dLc, diR1, diR2, diR3, diL, diT, diRv, diS, diE, dFmt, dFStr, dJs, dCallN, dFrzE, frz_l, in_ss, notin_ss, drR1, drR2, dListR, dRaise, dRaise0, dTryAs, dTry, dXf, dAddO, dInO, isL, insOf, Option.some.injEq, List.cons.injEq, D.int.injEq, D.bl.injEq, D.str.injEq, D.lst.injEq, D.tup.injEq, D.ref.injEq, MO.lst.injEq, MO.ins.injEq, mset_mset, and_true, true_and, and_self, and_assoc, exists_eq_left', exists_eq_left, exists_and_left, exists_and_right, exists_eq', List.set_cons_zero, List.set_cons_succ, decide_eq_true_eq, sqOf, lsOf, List.length_cons, List.length_nil, sizeLine_eq, List.append_nil, List.cons_append, List.nil_append, if_true, if_false, Bool.false_eq_true, reduceCtorEq, reduceIte, Nat.reduceAdd, Nat.reduceLeDiff, mset_same, Option.bind_some, List.length_map, Prod.mk.injEq, at0, at1, at2, at3, at4, at5, at6, at7, ix30, ix31, ix32, ix20, ix21, ix10, isi_ii, isi_ib, isi_ll, isi_bb, isi_ss, isi_tt, isi_is, isi_si, Bool.not_true, Bool.not_false, dWk]
    intro a ha
    exact ⟨mset m a (.lst []), MSub.both tab.sub ha, q [] (.inl ⟨rfl, fun y hy => Int.le_antisymm (by have := hb y hy; omega) (dem0 ok _ _)⟩) (Nat.zero_le _) a (MSub.none tab.sub ha)⟩
  · rw [if_neg c]
    have hpos : 0 < dem t n z := by have := dem0 ok n z; omega
    walk_at "zn"
    intro a ha
    walk_at "zn"
    walk_at "zn"
    walk_at "zn"
    have tabA : ∀ xs, TabR (mset m1 a (.lst xs)) p ls t.ks (demRow t (n + 1)) := fun xs => tab.toTabR.sub (MSub.set ha)
    obtain ⟨P1, hP1⟩ : ∃ P : Nat → DSt → M → Prop, ∀ v r m', P v r m' ↔ (∃ w y o4 o7, Hv t n w y v ∧ m' = mset m1 a (.lst (w.map hvD)) ∧ r = [some (taskD K t), some (.int n), some (.ref p), some (.str z), o4, some (.ref a), some (.int v), o7]) := ⟨_, fun _ _ _ => Iff.rfl⟩
    refine ⟨P1, ⟨n, (hP1 _ _ _).mpr ⟨_, _, _, _, .one z hz hb hpos, rfl, rfl⟩⟩, ?_⟩
    intro l r m' hp1
    obtain ⟨w, y, o4, o7, hv, rfl, rfl⟩ := (hP1 _ _ _).mp hp1
    obtain ⟨hy, hp, hl, hwl, hlast⟩ := hv.pos ok
    have hat := hv_at hlast
    try simp only [dIfS, dTest, dOp, dVar, dC, dCB, daCons, daNil, dSet, dRet, dNext, dDrop, dAsg, dPar, dAug, dAddI, dBreak, dCont, dRetN, slot, dLen, dCmpI, dSub, dAdd, dMul, dDiv, dMod, dPow, dNeg, dUn, dIx, dInt1, dAbs, dChain, dAnd, dOr, dNot, dAndV, dOrV, dNotV, dTru, dTruB, dIf, dTup, dLst, mkL, dSlice, dSl, doNone, doSome, dSum, dAll, dAny, dList, dTuple, dMax, dMin, eq_ii, ne_ii, eq_ss, ne_ss, eq_bb, ne_bb, eq_nn, ne_nn, dIsN, dNotN, dFgt, dIsB, dNotB, gN, gT, gsNil, gsCons, gSet, dBM, dAppend, dClear, dFld, dFldS, dProp, dCall, dMeth, dMake, dMakeN, daStar, dDictP, dCallO, dFor, dLc, diR1, diR2, diR3, diL, diT, diRv, diS, diE, dFmt, dFStr, dJs, dCallN, dFrzE, frz_l, in_ss, notin_ss, drR1, drR2, dListR, dRaise, dRaise0, dTryAs, dTry, dXf, dAddO, dInO, isL, insOf, Option.some.injEq, List.cons.injEq, D.int.injEq, D.bl.injEq, D.str.injEq, D.lst.injEq, D.tup.injEq, D.ref.injEq, MO.lst.injEq, MO.ins.injEq, mset_mset, and_true, true_and, and_self, and_assoc, exists_eq_left', exists_eq_left, exists_and_left, exists_and_right, exists_eq', List.set_cons_zero, List.set_cons_succ, decide_eq_true_eq, sqOf, lsOf, List.length_cons, List.length_nil, sizeLine_eq, List.append_nil, List.cons_append, List.nil_append, if_true, if_false, Bool.false_eq_true, reduceCtorEq, reduceIte, Nat.reduceAdd, Nat.reduceLeDiff, mset_same, Option.bind_some, List.length_map, Prod.mk.injEq, at0, at1, at2, at3, at4, at5, at6, at7, ix30, ix31, ix32, ix20, ix21, ix10, isi_ii, isi_ib, isi_ll, isi_bb, isi_ss, isi_tt, isi_is, isi_si, Bool.not_true, Bool.not_false, T.cl_Task, T.n_Task_name, T.n_Task_kind_rows, T.n_Task_arrow_rows, taskD, lk_name, lk_kinds, lk_arrows]
    refine ⟨rfl, _, hat, ?_⟩
    simp only [hvD]
    walk_at "zs"
    refine ⟨t, _, y, rfl, rfl, ok, fun _ => ?_, fun h => absurd hy h⟩
    refine ⟨p, ls, t, y, n + 1, l, rfl, ok, tabA _, by omega, fun h0 => ⟨fun _ => ?_, fun h => absurd rfl h⟩, fun a2 l' ha2 hl' h0 hb2 => ⟨fun h => by (unfold folD at h; cases h), fun _ => ?_⟩⟩
    · try simp only [dIfS, dTest, dOp, dVar, dC, dCB, daCons, daNil, dSet, dRet, dNext, dDrop, dAsg, dPar, dAug, dAddI, dBreak, dCont, dRetN, slot, dLen, dCmpI, dSub, dAdd, dMul, dDiv, dMod, dPow, dNeg, dUn, dIx, dInt1, dAbs, dChain, dAnd, dOr, dNot, dAndV, dOrV, dNotV, dTru, dTruB, dIf, dTup, dLst, mkL, dSlice, dSl, doNone, doSome, dSum, dAll, dAny, dList, dTuple, dMax, dMin, eq_ii, ne_ii, eq_ss, ne_ss, eq_bb, ne_bb, eq_nn, ne_nn, dIsN, dNotN, dFgt, dIsB, dNotB, gN, gT, gsNil, gsCons, gSet, dBM, dAppend, dClear, dFld, dFldS, dProp, dCall, dMeth, dMake, dMakeN, daStar, dDictP, dCallO, dFor, dLc, diR1, diR2, diR3, diL, diT, diRv, diS, diE, dFmt, dFStr, dJs, dCallN, dFrzE, frz_l, in_ss, notin_ss, drR1, drR2, dListR, dRaise, dRaise0, dTryAs, dTry, dXf, dAddO, dInO, isL, insOf, Option.some.injEq, List.cons.injEq, D.int.injEq, D.bl.injEq, D.str.injEq, D.lst.injEq, D.tup.injEq, D.ref.injEq, MO.lst.injEq, MO.ins.injEq, mset_mset, and_true, true_and, and_self, and_assoc, exists_eq_left', exists_eq_left, exists_and_left, exists_and_right, exists_eq', List.set_cons_zero, List.set_cons_succ, decide_eq_true_eq, sqOf, lsOf, List.length_cons, List.length_nil, sizeLine_eq, List.append_nil, List.cons_append, List.nil_append, if_true, if_false, Bool.false_eq_true, reduceCtorEq, reduceIte, Nat.reduceAdd, Nat.reduceLeDiff, mset_same, Option.bind_some, List.length_map, Prod.mk.injEq, at0, at1, at2, at3, at4, at5, at6, at7, ix30, ix31, ix32, ix20, ix21, ix10, isi_ii, isi_ib, isi_ll, isi_bb, isi_ss, isi_tt, isi_is, isi_si, Bool.not_true, Bool.not_false, dWk]
      exact ⟨mset m a (.lst (w.map hvD)), MSub.both tab.sub ha, q w (.inr ⟨y, l, hv, h0⟩) (hv.len ok) a (MSub.none tab.sub ha)⟩
    · simp only [folD]
      have wl := hv.len ok
      have haA := (List.mem_filter.mp ha2).1
      have ag := ok.as.g a2 haA
      walk_at "zn"
      walk_at "zs"
      rw [show (l : Int) - a2.g = l' by omega]
      refine ⟨by omega, l', by omega, (hP1 _ _ _).mpr ⟨_, _, _, _, .step w y l a2 l' hv ha2 hl' h0 hb2, ?_, rfl⟩⟩
      rw [List.map_append]
      rfl
theorem pure_heavy_run {K : Fr0} {mg : Str → Option Value} (T : Txt K mg) (ds : List D) (m : M) (Q : D → M → Prop) (E : XD → M → Prop) (h : sp_heavy_run K ds m Q E) : t_heavy_run K (fun x _ m => E x m) { nx := fun _ m => Q .non m, rt := Q } (startD nm_heavy_run ds) m := by
  obtain ⟨ts, n, rfl, ok, hl, hn, ht, q⟩ := h
  show t_heavy_run K _ _ [some (.lst (ts.map (taskD K))), some (.int n), none, none, none, none] m
  unfold t_heavy_run
  walk_at "zn"
  intro a ha
  walk_at "zn"
  obtain ⟨P1, hP1⟩ : ∃ P : Nat → DSt → M → Prop, ∀ i r m', P i r m' ↔ (∃ ws : List (List Job), ws.length = i ∧ (∀ j, j < i → HvW (tAt ts j) n (wAt ws j) ∧ (wAt ws j).length ≤ n) ∧ m' = mset m a (.lst (ws.map wkD)) ∧ ∃ o3 o4 o5, r = [some (.lst (ts.map (taskD K))), some (.int n), some (.ref a), o3, o4, o5]) := ⟨_, fun _ _ _ => Iff.rfl⟩
  refine ⟨P1, (hP1 _ _ _).mpr ⟨[], rfl, fun j h => absurd h (Nat.not_lt_zero _), rfl, _, _, _, rfl⟩, ?_, ?_⟩
  · intro i d r m' hd hp
    obtain ⟨ws, hw, hv, rfl, o3, o4, o5, rfl⟩ := (hP1 _ _ _).mp hp
    obtain ⟨t, ht2, rfl⟩ := map_at hd
    have okt := ok t (mem_at ht2)
    walk_at "zn"
    refine ⟨t, _, n, rfl, rfl, okt, by omega, fun w hw2 hwl b hb => ?_⟩
    have hj := hw2.jobs okt
    try simp only [dIfS, dTest, dOp, dVar, dC, dCB, daCons, daNil, dSet, dRet, dNext, dDrop, dAsg, dPar, dAug, dAddI, dBreak, dCont, dRetN, slot, dLen, dCmpI, dSub, dAdd, dMul, dDiv, dMod, dPow, dNeg, dUn, dIx, dInt1, dAbs, dChain, dAnd, dOr, dNot, dAndV, dOrV, dNotV, dTru, dTruB, dIf, dTup, dLst, mkL, dSlice, dSl, doNone, doSome, dSum, dAll, dAny, dList, dTuple, dMax, dMin, eq_ii, ne_ii, eq_ss, ne_ss, eq_bb, ne_bb, eq_nn, ne_nn, dIsN, dNotN, dFgt, dIsB, dNotB, gN, gT, gsNil, gsCons, gSet, dBM, dAppend, dClear, dFld, dFldS, dProp, dCall, dMeth, dMake, dMakeN, daStar, dDictP, dCallO, dFor, dLc, diR1, diR2, diR3, diL, diT, diRv, diS, diE, dFmt, dFStr, dJs, dCallN, dFrzE, frz_l, in_ss, notin_ss, drR1, drR2, dListR, dRaise, dRaise0, dTryAs, dTry, dXf, dAddO, dInO, isL, insOf, Option.some.injEq, List.cons.injEq, D.int.injEq, D.bl.injEq, D.str.injEq, D.lst.injEq, D.tup.injEq, D.ref.injEq, MO.lst.injEq, MO.ins.injEq, mset_mset, and_true, true_and, and_self, and_assoc, exists_eq_left', exists_eq_left, exists_and_left, exists_and_right, exists_eq', List.set_cons_zero, List.set_cons_succ, decide_eq_true_eq, sqOf, lsOf, List.length_cons, List.length_nil, sizeLine_eq, List.append_nil, List.cons_append, List.nil_append, if_true, if_false, Bool.false_eq_true, reduceCtorEq, reduceIte, Nat.reduceAdd, Nat.reduceLeDiff, mset_same, Option.bind_some, List.length_map, Prod.mk.injEq, at0, at1, at2, at3, at4, at5, at6, at7, ix30, ix31, ix32, ix20, ix21, ix10, isi_ii, isi_ib, isi_ll, isi_bb, isi_ss, isi_tt, isi_is, isi_si, Bool.not_true, Bool.not_false, dFrzE, frzV]
    rw [mdel_mset hb]
    refine lc_mapD (f := Job.D) (by rw [sizeLine_eq]; omega) (fun j hjw => ⟨_, rfl, fun Q' q' => ?_⟩) ?_
    · obtain ⟨p, hp⟩ := List.mem_iff_getElem?.mp hjw
      obtain ⟨k1, hk1, e1, c1⟩ := hj.z p (len_at hp)
      have ej : jAt w p = j := Option.some.inj ((jAt_at (len_at hp)).symm.trans hp)
      rw [ej] at e1 c1
      simp only [wipeD, hvD]
      try simp only [dIfS, dTest, dOp, dVar, dC, dCB, daCons, daNil, dSet, dRet, dNext, dDrop, dAsg, dPar, dAug, dAddI, dBreak, dCont, dRetN, slot, dLen, dCmpI, dSub, dAdd, dMul, dDiv, dMod, dPow, dNeg, dUn, dIx, dInt1, dAbs, dChain, dAnd, dOr, dNot, dAndV, dOrV, dNotV, dTru, dTruB, dIf, dTup, dLst, mkL, dSlice, dSl, doNone, doSome, dSum, dAll, dAny, dList, dTuple, dMax, dMin, eq_ii, ne_ii, eq_ss, ne_ss, eq_bb, ne_bb, eq_nn, ne_nn, dIsN, dNotN, dFgt, dIsB, dNotB, gN, gT, gsNil, gsCons, gSet, dBM, dAppend, dClear, dFld, dFldS, dProp, dCall, dMeth, dMake, dMakeN, daStar, dDictP, dCallO, dFor, dLc, diR1, diR2, diR3, diL, diT, diRv, diS, diE, dFmt, dFStr, dJs, dCallN, dFrzE, frz_l, in_ss, notin_ss, drR1, drR2, dListR, dRaise, dRaise0, dTryAs, dTry, dXf, dAddO, dInO, isL, insOf, Option.some.injEq, List.cons.injEq, D.int.injEq, D.bl.injEq, D.str.injEq, D.lst.injEq, D.tup.injEq, D.ref.injEq, MO.lst.injEq, MO.ins.injEq, mset_mset, and_true, true_and, and_self, and_assoc, exists_eq_left', exists_eq_left, exists_and_left, exists_and_right, exists_eq', List.set_cons_zero, List.set_cons_succ, decide_eq_true_eq, sqOf, lsOf, List.length_cons, List.length_nil, sizeLine_eq, List.append_nil, List.cons_append, List.nil_append, if_true, if_false, Bool.false_eq_true, reduceCtorEq, reduceIte, Nat.reduceAdd, Nat.reduceLeDiff, mset_same, Option.bind_some, List.length_map, Prod.mk.injEq, at0, at1, at2, at3, at4, at5, at6, at7, ix30, ix31, ix32, ix20, ix21, ix10, isi_ii, isi_ib, isi_ll, isi_bb, isi_ss, isi_tt, isi_is, isi_si, Bool.not_true, Bool.not_false, T.cl_Task, T.n_Task_name, T.n_Task_kind_rows, T.n_Task_arrow_rows, taskD, lk_name, lk_kinds, lk_arrows]
      refine ⟨rfl, t, _, j.k, rfl, rfl, okt, fun k hk e => ?_, fun h => absurd (by rw [← e1]; exact List.mem_map_of_mem hk1) h⟩
      have : k = k1 := by rw [← kOf_mem okt hk, ← kOf_mem okt hk1, e, e1]
      rw [this, ← c1]
      exact q'
    · refine ⟨_, mset_same, by rw [List.length_map, hw]; have := len_at ht2; omega, (hP1 _ _ _).mpr ⟨ws ++ [w], by rw [List.length_append, hw]; rfl, fun j hj2 => ?_, by rw [mset_mset, List.map_append]; rfl, _, _, _, rfl⟩⟩
      by_cases e : j < i
      · have : wAt (ws ++ [w]) j = wAt ws j := by
          unfold wAt
          rw [List.getD_eq_getElem?_getD, List.getD_eq_getElem?_getD, List.getElem?_append_left (by omega)]
        rw [this]
        exact hv j e
      · have : j = ws.length := by omega
        subst this
        have e2 : wAt (ws ++ [w]) ws.length = w := by
          unfold wAt
          rw [List.getD_eq_getElem?_getD, List.getElem?_append_right (Nat.le_refl _), Nat.sub_self]
          rfl
        have e3 : tAt ts ws.length = t := by
          rw [← hw] at ht2
          exact Option.some.inj ((tAt_at (len_at ht2)).symm.trans ht2)
        rw [e2, e3]
        exact ⟨hw2, hwl⟩
  · intro r m' hp
    obtain ⟨ws, hw, hv, rfl, o3, o4, o5, rfl⟩ := (hP1 _ _ _).mp hp
    rw [List.length_map] at hw hv
    refine ⟨a, _, rfl, mset_same, ?_⟩
    rw [mdel_mset ha]
    walk_at "zs"
    intro b hb
    have h4 : many ws ≤ 400 := by
      refine Nat.le_trans (many_le (B := n) fun w hw2 => ?_) (by rw [hw]; exact hl)
      obtain ⟨i, hi⟩ := List.mem_iff_getElem?.mp hw2
      have := (hv i (by rw [← hw]; exact len_at hi)).2
      rw [Option.some.inj ((wAt_at (len_at hi)).symm.trans hi)] at this
      exact this
    have hn0 := run_none (K := K) (ts := ts) (ws := ws) (g := 1) ⟨by omega, by omega⟩ hw h4 ok (fun i hi => ((hv i (by omega)).1.jobs (ok _ (mem_at (tAt_at (by omega))))).wk (ok _ (mem_at (tAt_at (by omega)))))
    refine ⟨b, ts, ws, 1, rfl, mset_same, ok, by omega, by omega, ?_⟩
    rw [hn0]
    refine ⟨_, mset_same, ?_⟩
    rw [mset_mset, mdel_mset hb]
    exact q ws hw fun i hi => (hv i hi).1
theorem near_p {K : Fr0} {a b : Addr} {s : PS} {n : Int} {m0 : M} {x : D} {zs : List Str} {Q : D → M → Prop} {E : XD → M → Prop} (hp : Pl a b s n) (hn : n ≤ 10000000000) (hx : ∀ s', vD (pm a b s' m0) x = .lst (zs.map D.str)) (hz : ∀ z ∈ zs, nameB z = true) (hl : zs.length ≤ 4) (h : ∀ z s', nameB z = true → z ∉ zs → Pl a b s' (n + 20) → Q (.str z) (pm a b s' m0)) : sp_law_near K [.ref a, x] (pm a b s m0) Q E :=
  ⟨_, x, a, b, s, n, m0, zs, rfl, rfl, rfl, hx, hp, hn, hz, hl, h⟩
theorem pm_vD {a b c : Addr} {s : PS} {m : M} {xs : List D} (h : c ≠ a) (h2 : c ≠ b) (hm : m c = some (.lst xs)) : vD (pm a b s m) (.ref c) = .lst xs := vD_ref (by rw [pm_ne h h2]; exact hm)
theorem pairs_nd {zs : List Str} {n : Nat} (hl : zs.length = n) (nd : zs.Nodup) : ((List.range (n * n)).map fun k => (zs.getD (k / n) "", zs.getD (k % n) "")).Nodup := by
  have inj : ∀ i j, i < n → j < n → zs.getD i "" = zs.getD j "" → i = j := by
    intro i j hi hj e
    rw [List.getD_eq_getElem?_getD, List.getD_eq_getElem?_getD, List.getElem?_eq_getElem (by omega), List.getElem?_eq_getElem (by omega)] at e
    have e : zs[i] = zs[j] := e
    rcases Nat.lt_trichotomy i j with h | h | h
    · exact absurd (List.mem_iff_getElem?.mpr ⟨i, by rw [List.getElem?_take, if_pos h]; exact List.getElem?_eq_getElem (by omega)⟩) (nodup_take (j := j) nd (a := zs[i]) (by rw [e]; exact List.getElem?_eq_getElem (by omega)))
    · exact h
    · exact absurd (List.mem_iff_getElem?.mpr ⟨j, by rw [List.getElem?_take, if_pos h]; exact List.getElem?_eq_getElem (by omega)⟩) (nodup_take (j := i) nd (a := zs[j]) (by rw [← e]; exact List.getElem?_eq_getElem (by omega)))
  have hn : ∀ k, k < n * n → 0 < n := fun k hk => by
    rcases Nat.eq_zero_or_pos n with h | h
    · subst h; omega
    · exact h
  refine List.pairwise_map.mpr (List.Pairwise.imp_of_mem (fun {i j} hi hj hne e => hne ?_) List.nodup_range)
  have hi := List.mem_range.mp hi
  have hj := List.mem_range.mp hj
  have h0 := hn i hi
  injection e with e1 e2
  have d1 := inj _ _ ((Nat.div_lt_iff_lt_mul h0).mpr hi) ((Nat.div_lt_iff_lt_mul h0).mpr hj) e1
  have d2 := inj _ _ (Nat.mod_lt i h0) (Nat.mod_lt j h0) e2
  have m1 := Nat.mod_add_div i n
  have m2 := Nat.mod_add_div j n
  rw [d1, d2] at m1
  omega
theorem names_app (ks : List Knd) (k : Knd) : names (ks ++ [k]) = names ks ++ [k.n] := List.map_append
def PrD (x : Str × Str) : D := .tup [.str x.1, .str x.2]
theorem pure_law_spec {K : Fr0} {mg : Str → Option Value} (T : Txt K mg) (ds : List D) (m : M) (Q : D → M → Prop) (E : XD → M → Prop) (h : sp_law_spec K ds m Q E) : t_law_spec K (fun x _ m => E x m) { nx := fun _ m => Q .non m, rt := Q } (startD nm_law_spec ds) m := by
  obtain ⟨x, a, b, s, n, m0, rfl, rfl, rfl, hp, hn, q⟩ := h
  show t_law_spec K _ _ [some (.ref a), none, none, none, none, none, none, none, none, none, none] _
  unfold t_law_spec
  walk_at "zn"
  refine draw_p hp (by omega) (by omega) (by omega) (fun r s1 r0 r1 p1 => ?_)
  obtain ⟨size, hsz, z1, z4⟩ : ∃ size : Nat, 1 + r = size ∧ 1 ≤ size ∧ size ≤ 4 := ⟨(1 + r).toNat, by omega, by omega, by omega⟩
  try simp only [dSeq]
  try simp only [dIfS, dTest, dOp, dVar, dC, dCB, daCons, daNil, dSet, dRet, dNext, dDrop, dAsg, dPar, dAug, dAddI, dBreak, dCont, dRetN, slot, dLen, dCmpI, dSub, dAdd, dMul, dDiv, dMod, dPow, dNeg, dUn, dIx, dInt1, dAbs, dChain, dAnd, dOr, dNot, dAndV, dOrV, dNotV, dTru, dTruB, dIf, dTup, dLst, mkL, dSlice, dSl, doNone, doSome, dSum, dAll, dAny, dList, dTuple, dMax, dMin, eq_ii, ne_ii, eq_ss, ne_ss, eq_bb, ne_bb, eq_nn, ne_nn, dIsN, dNotN, dFgt, dIsB, dNotB, gN, gT, gsNil, gsCons, gSet, dBM, dAppend, dClear, dFld, dFldS, dProp, dCall, dMeth, dMake, dMakeN, daStar, dDictP, dCallO, dFor, dLc, diR1, diR2, diR3, diL, diT, diRv, diS, diE, dFmt, dFStr, dJs, dCallN, dFrzE, frz_l, in_ss, notin_ss, drR1, drR2, dListR, dRaise, dRaise0, dTryAs, dTry, dXf, dAddO, dInO, isL, insOf, Option.some.injEq, List.cons.injEq, D.int.injEq, D.bl.injEq, D.str.injEq, D.lst.injEq, D.tup.injEq, D.ref.injEq, MO.lst.injEq, MO.ins.injEq, mset_mset, and_true, true_and, and_self, and_assoc, exists_eq_left', exists_eq_left, exists_and_left, exists_and_right, exists_eq', List.set_cons_zero, List.set_cons_succ, decide_eq_true_eq, sqOf, lsOf, List.length_cons, List.length_nil, sizeLine_eq, List.append_nil, List.cons_append, List.nil_append, if_true, if_false, Bool.false_eq_true, reduceCtorEq, reduceIte, Nat.reduceAdd, Nat.reduceLeDiff, mset_same, Option.bind_some, List.length_map, Prod.mk.injEq, at0, at1, at2, at3, at4, at5, at6, at7, ix30, ix31, ix32, ix20, ix21, ix10, isi_ii, isi_ib, isi_ll, isi_bb, isi_ss, isi_tt, isi_is, isi_si, Bool.not_true, Bool.not_false, hsz]
  have hss : (size : Int) * size ≤ 16 ∧ 1 ≤ (size : Int) * size := by
    have : size = 1 ∨ size = 2 ∨ size = 3 ∨ size = 4 := by omega
    rcases this with rfl | rfl | rfl | rfl <;> decide
  refine ⟨mul_small (by omega), ?_⟩
  refine draw_p p1 (by omega) (by omega) (by omega) (fun many s2 m0' m1 p2 => ?_)
  walk_at "zn"
  obtain ⟨bb, hbb⟩ : ∃ bb : Bool, bb = decide (0 < many) := ⟨_, rfl⟩
  refine ⟨.lst [.int (if bb = true then 9 else 99), .int (if bb = true then 24 else 99)], ?_, ?_⟩
  · by_cases h : 0 < many
    · rw [hbb, decide_eq_true h, if_pos h]; rfl
    · rw [hbb, decide_eq_false h, if_neg h]; rfl
  generalize hC : (if bb = true then 9 else 99 : Int) = cC
  generalize hD : (if bb = true then 24 else 99 : Int) = cD
  have hC9 : 9 ≤ cC ∧ cC ≤ 99 := by rw [← hC]; split <;> omega
  have hD9 : 24 ≤ cD ∧ cD ≤ 99 := by rw [← hD]; split <;> omega
  walk_at "zn"
  intro p4 hp4
  obtain ⟨n4a, n4b, n4⟩ := pm_free hp4
  rw [pm_mset n4a n4b]
  walk_at "zn"
  intro p5 hp5
  obtain ⟨n5a, n5b, n5⟩ := pm_free hp5
  have n54 : p5 ≠ p4 := fun e => by rw [e, mset_same] at n5; cases n5
  rw [mset_ne n54] at n5
  rw [pm_mset n5a n5b]
  walk_at "zn"
  refine ⟨by omega, by omega, ?_⟩
  rw [show ((size : Int)).toNat = size by omega]
  obtain ⟨P1, hP1⟩ : ∃ P : Nat → DSt → M → Prop, ∀ j r m', P j r m' ↔ (∃ (ks : List Knd) (s' : PS), ks.length = j ∧ KsOk bb ks ∧ Pl a b s' (n + 2 + 24 * j) ∧ m' = pm a b s' (mset (mset m0 p4 (.lst ((names ks).map D.str))) p5 (.lst (ks.map Knd.D))) ∧ ∃ o6 o7, r = [some (.ref a), some (.int size), some (.int many), some (.lst [.int cC, .int cD]), some (.ref p4), some (.ref p5), o6, o7, none, none, none]) := ⟨_, fun _ _ _ => Iff.rfl⟩
  refine ⟨P1, (hP1 _ _ _).mpr ⟨[], s2, rfl, ⟨by simp, by simp, by simp, by simp⟩, p2.up (by omega), rfl, _, _, rfl⟩, ?_, ?_⟩
  · intro j d r m' hd hp1
    obtain ⟨ks, s', hl, kok, p', rfl, o6, o7, rfl⟩ := (hP1 _ _ _).mp hp1
    obtain ⟨rfl, hj⟩ := rngD_at hd
    have e4 : ∀ s', vD (pm a b s' (mset (mset m0 p4 (.lst ((names ks).map D.str))) p5 (.lst (ks.map Knd.D)))) (.ref p4) = .lst ((names ks).map D.str) := fun s' => pm_vD n4a n4b (by rw [mset_ne n54.symm]; exact mset_same)
    walk_at "zn"
    refine near_p p' (by omega) e4 (fun z hz => by obtain ⟨k, hk, rfl⟩ := List.mem_map.mp hz; exact kok.nm k hk) (by simp; omega) (fun z s3 hz hnz p3 => ?_)
    walk_at "zn"
    refine ⟨⟨_, ls_vD (e4 s3)⟩, _, by rw [pm_ne n4a n4b, mset_ne n54.symm]; exact mset_same, by simp; omega, ?_⟩
    rw [pm_mset n4a n4b, mset_comm n54, mset_mset]
    walk_at "zs"
    refine ⟨⟨_, lsOf_ref (by rw [pm_ne n5a n5b]; exact mset_same)⟩, ?_⟩
    refine num_p p3 (by omega) (by omega) (by omega) (fun c s4 c1 c2 p4' => ?_)
    refine num_p p4' (by omega) (by omega) (by omega) (fun d s5 d1 d2 p5' => ?_)
    refine ⟨_, by rw [pm_ne n5a n5b]; exact mset_same, by simp; omega, (hP1 _ _ _).mpr ⟨ks ++ [⟨z, c, d⟩], s5, by simp; omega, ⟨?_, ?_, ?_, ?_⟩, p5'.up (by omega), ?_, _, _, rfl⟩⟩
    · intro k hk
      rcases List.mem_append.mp hk with hk | hk
      · exact kok.nm k hk
      · rw [List.mem_singleton.mp hk]; exact hz
    · rw [names_app, List.nodup_append]
      exact ⟨kok.nd, by simp, fun u hu v hv e => by rw [List.mem_singleton.mp hv] at e; rw [e] at hu; exact hnz hu⟩
    · intro k hk
      rcases List.mem_append.mp hk with hk | hk
      · exact kok.c k hk
      · rw [List.mem_singleton.mp hk, hC]; exact ⟨c1, c2⟩
    · intro k hk
      rcases List.mem_append.mp hk with hk | hk
      · exact kok.d k hk
      · rw [List.mem_singleton.mp hk, hD]; exact ⟨d1, d2⟩
    · rw [pm_mset n5a n5b, mset_mset]
      rw [List.map_append, names_app, List.map_append]
      rfl
  intro r m' hp1
  obtain ⟨ks, s', hl, kok, p', rfl, o6, o7, rfl⟩ := (hP1 _ _ _).mp hp1
  rw [rngD_len] at hl p'
  clear hp1 hP1 P1
  refine ⟨p4, _, rfl, by rw [pm_ne n4a n4b, mset_ne n54.symm]; exact mset_same, p5, _, rfl, by rw [mdel_ne n54, pm_ne n5a n5b]; exact mset_same, ?_⟩
  rw [pm_mdel n4a n4b, mdel_mset_ne n54.symm, mdel_mset n4, pm_mdel n5a n5b, mdel_mset n5]
  walk_at "zn"
  refine ⟨mul_small (by omega), by omega, by omega, ?_⟩
  have zl : (names ks).length = size := by rw [List.length_map]; exact hl
  have esq : ((size : Int) * size).toNat = size * size := by
    rw [← Int.natCast_mul]; omega
  have szq : size * size ≤ 16 := by
    have : ((size * size : Nat) : Int) = (size : Int) * size := Int.natCast_mul _ _
    omega
  rw [esq]
  have atS : ∀ i : Nat, i < size → atI ((names ks).map D.str) (i : Int) = some (.str ((names ks).getD i "")) := fun i hi => by
    refine atI_nat ?_
    rw [List.getElem?_map, List.getElem?_eq_getElem (by omega), List.getD_eq_getElem?_getD, List.getElem?_eq_getElem (by omega)]
    rfl
  refine lc_rng (fun k => PrD ((names ks).getD (k / size) "", (names ks).getD (k % size) "")) (by rw [sizeLine_eq]; omega) (fun k hk Q' q' => ?_) ?_
  · simp only [wipeD]
    walk_at "zs"
    rw [Int.zero_add]
    have h1 : k / size < size := (Nat.div_lt_iff_lt_mul (by omega)).mpr hk
    have h2 := Nat.mod_lt k (show 0 < size by omega)
    refine ⟨div_ok (by omega) (by omega), _, by rw [← Int.natCast_ediv]; exact atS _ h1, by omega, _, by rw [← Int.natCast_emod]; exact atS _ h2, q'⟩
  intro p8 hp8
  obtain ⟨n8a, n8b, n8⟩ := pm_free hp8
  rw [pm_mset n8a n8b]
  walk_at "zn"
  intro p9 hp9
  obtain ⟨n9a, n9b, n9⟩ := pm_free hp9
  have n98 : p9 ≠ p8 := fun e => by rw [e, mset_same] at n9; cases n9
  rw [mset_ne n98] at n9
  rw [pm_mset n9a n9b]
  obtain ⟨mn, hmn⟩ : ∃ mn : Nat, many = mn := ⟨many.toNat, by omega⟩
  subst hmn
  walk_at "zn"
  refine ⟨by omega, by omega, ?_⟩
  rw [Int.toNat_natCast]
  have eP : ((List.range (size * size)).map fun k => PrD ((names ks).getD (k / size) "", (names ks).getD (k % size) "")) = ((List.range (size * size)).map fun k => ((names ks).getD (k / size) "", (names ks).getD (k % size) "")).map PrD := by
    rw [List.map_map]
    rfl
  have pin : ∀ x ∈ ((List.range (size * size)).map fun k => ((names ks).getD (k / size) "", (names ks).getD (k % size) "")), x.1 ∈ names ks ∧ x.2 ∈ names ks := by
    intro x hx
    obtain ⟨k, hk, rfl⟩ := List.mem_map.mp hx
    have hk := List.mem_range.mp hk
    have h1 : k / size < size := (Nat.div_lt_iff_lt_mul (by omega)).mpr hk
    have h2 := Nat.mod_lt k (show 0 < size by omega)
    have g : ∀ i, i < size → (names ks).getD i "" ∈ names ks := fun i hi => by
      rw [List.getD_eq_getElem?_getD, List.getElem?_eq_getElem (by omega)]
      exact List.getElem_mem _
    exact ⟨g _ h1, g _ h2⟩
  have pnd := pairs_nd zl kok.nd
  have plen : ((List.range (size * size)).map fun k => ((names ks).getD (k / size) "", (names ks).getD (k % size) "")).length = size * size := by simp
  rw [eP]
  generalize ((List.range (size * size)).map fun k => ((names ks).getD (k / size) "", (names ks).getD (k % size) "")) = prs at *
  have mle : mn ≤ size * size ∧ mn ≤ 12 := by
    have : ((size * size : Nat) : Int) = (size : Int) * size := Int.natCast_mul _ _
    omega
  obtain ⟨P1, hP1⟩ : ∃ P : Nat → DSt → M → Prop, ∀ j r m', P j r m' ↔ (∃ (as : List Arr) (rest : List (Str × Str)) (s' : PS), as.length = j ∧ rest.length + j = size * size ∧ AsOk (names ks) as ∧ rest.Nodup ∧ (∀ x ∈ rest, x.1 ∈ names ks ∧ x.2 ∈ names ks ∧ x ∉ as.map fun a => (a.f, a.s)) ∧ Pl a b s' (n + 2 + 24 * size + 3 * j) ∧ m' = pm a b s' (mset (mset m0 p8 (.lst (rest.map PrD))) p9 (.lst (as.map Arr.D))) ∧ ∃ o6 o7 o10, r = [some (.ref a), some (.int size), some (.int mn), some (.lst [.int cC, .int cD]), some (.lst ((names ks).map D.str)), some (ksD ks), o6, o7, some (.ref p8), some (.ref p9), o10]) := ⟨_, fun _ _ _ => Iff.rfl⟩
  refine ⟨P1, (hP1 _ _ _).mpr ⟨[], prs, s', rfl, by omega, ⟨by simp, by simp, by simp, by simp⟩, pnd, fun x hx => ⟨(pin x hx).1, (pin x hx).2, by simp⟩, p'.up (by omega), rfl, _, _, _, rfl⟩, ?_, ?_⟩
  · intro j d r m' hd hp1
    obtain ⟨as, rest, s3, hl2, hr, aok, rnd, rin, p3, rfl, o6, o7, o10, rfl⟩ := (hP1 _ _ _).mp hp1
    obtain ⟨rfl, hj⟩ := rngD_at hd
    have e8 : ∀ s', pm a b s' (mset (mset m0 p8 (.lst (rest.map PrD))) p9 (.lst (as.map Arr.D))) p8 = some (.lst (rest.map PrD)) := fun s' => by rw [pm_ne n8a n8b, mset_ne n98.symm]; exact mset_same
    try simp only [dSeq]
    try simp only [dIfS, dTest, dOp, dVar, dC, dCB, daCons, daNil, dSet, dRet, dNext, dDrop, dAsg, dPar, dAug, dAddI, dBreak, dCont, dRetN, slot, dLen, dCmpI, dSub, dAdd, dMul, dDiv, dMod, dPow, dNeg, dUn, dIx, dInt1, dAbs, dChain, dAnd, dOr, dNot, dAndV, dOrV, dNotV, dTru, dTruB, dIf, dTup, dLst, mkL, dSlice, dSl, doNone, doSome, dSum, dAll, dAny, dList, dTuple, dMax, dMin, eq_ii, ne_ii, eq_ss, ne_ss, eq_bb, ne_bb, eq_nn, ne_nn, dIsN, dNotN, dFgt, dIsB, dNotB, gN, gT, gsNil, gsCons, gSet, dBM, dAppend, dClear, dFld, dFldS, dProp, dCall, dMeth, dMake, dMakeN, daStar, dDictP, dCallO, dFor, dLc, diR1, diR2, diR3, diL, diT, diRv, diS, diE, dFmt, dFStr, dJs, dCallN, dFrzE, frz_l, in_ss, notin_ss, drR1, drR2, dListR, dRaise, dRaise0, dTryAs, dTry, dXf, dAddO, dInO, isL, insOf, Option.some.injEq, List.cons.injEq, D.int.injEq, D.bl.injEq, D.str.injEq, D.lst.injEq, D.tup.injEq, D.ref.injEq, MO.lst.injEq, MO.ins.injEq, mset_mset, and_true, true_and, and_self, and_assoc, exists_eq_left', exists_eq_left, exists_and_left, exists_and_right, exists_eq', List.set_cons_zero, List.set_cons_succ, decide_eq_true_eq, sqOf, lsOf, List.length_cons, List.length_nil, sizeLine_eq, List.append_nil, List.cons_append, List.nil_append, if_true, if_false, Bool.false_eq_true, reduceCtorEq, reduceIte, Nat.reduceAdd, Nat.reduceLeDiff, mset_same, Option.bind_some, List.length_map, Prod.mk.injEq, at0, at1, at2, at3, at4, at5, at6, at7, ix30, ix31, ix32, ix20, ix21, ix10, isi_ii, isi_ib, isi_ll, isi_bb, isi_ss, isi_tt, isi_is, isi_si, Bool.not_true, Bool.not_false, e8]
    refine draw_p p3 (by omega) (by omega) (by omega) (fun i s4 i0 i1 p4 => ?_)
    obtain ⟨iN, rfl⟩ : ∃ iN : Nat, i = iN := ⟨i.toNat, by omega⟩
    obtain ⟨pr, hpr⟩ : ∃ pr, rest[iN]? = some pr := ⟨_, List.getElem?_eq_getElem (by omega)⟩
    have hprm := mem_at hpr
    obtain ⟨g1, g2, g3⟩ := rin pr hprm
    refine ⟨p8, _, iN, iN, PrD pr, rfl, rfl, e8 s4, ⟨by omega, by omega⟩, by unfold seqIndex?; simp; omega, by rw [List.getElem?_map, hpr]; rfl, ?_⟩
    have e9 : (rest.map PrD).eraseIdx iN = (rest.eraseIdx iN).map PrD := by simp only [List.eraseIdx_eq_take_drop_succ, List.map_append, List.map_take, List.map_drop]
    rw [e9, pm_mset n8a n8b, mset_comm n98, mset_mset]
    have rnd' : (rest.eraseIdx iN).Nodup := rnd.sublist (List.eraseIdx_sublist ..)
    have hni : pr ∉ rest.eraseIdx iN := by
      intro hm
      rw [List.eraseIdx_eq_take_drop_succ] at hm
      obtain ⟨hlt, hpe⟩ := List.getElem?_eq_some_iff.mp hpr
      have esp : rest = rest.take iN ++ pr :: rest.drop (iN + 1) := by
        rw [← hpe, List.getElem_cons_drop, List.take_append_drop]
      rw [esp, List.nodup_append] at rnd
      rcases List.mem_append.mp hm with hm | hm
      · exact rnd.2.2 pr hm pr List.mem_cons_self rfl
      · exact (List.nodup_cons.mp rnd.2.1).1 hm
    have hel : (rest.eraseIdx iN).length + (j + 1) = size * size := by rw [List.length_eraseIdx, if_pos (by omega)]; omega
    have hes : ∀ x ∈ rest.eraseIdx iN, x ∈ rest := fun x hx => List.mem_of_mem_eraseIdx hx
    generalize rest.eraseIdx iN = rest' at *
    refine ⟨⟨_, lsOf_ref (by rw [pm_ne n9a n9b]; exact mset_same)⟩, ?_⟩
    simp only [PrD]
    walk_at "zs"
    refine num_p p4 (by omega) (by omega) (by omega) (fun g s5 gg1 gg2 p5 => ?_)
    refine ⟨_, by rw [pm_ne n9a n9b]; exact mset_same, by simp; omega, (hP1 _ _ _).mpr ⟨as ++ [⟨pr.1, pr.2, g⟩], rest', s5, by simp; omega, hel, ⟨?_, ?_, ?_, ?_⟩, rnd', fun x hx => ⟨(rin x (hes x hx)).1, (rin x (hes x hx)).2.1, ?_⟩, p5.up (by omega), ?_, _, _, _, rfl⟩⟩
    · intro y hy
      rcases List.mem_append.mp hy with hy | hy
      · exact aok.f y hy
      · rw [List.mem_singleton.mp hy]; exact g1
    · intro y hy
      rcases List.mem_append.mp hy with hy | hy
      · exact aok.s y hy
      · rw [List.mem_singleton.mp hy]; exact g2
    · intro y hy
      rcases List.mem_append.mp hy with hy | hy
      · exact aok.g y hy
      · rw [List.mem_singleton.mp hy]; exact ⟨gg1, gg2⟩
    · rw [List.map_append, List.nodup_append]
      exact ⟨aok.nd, by simp, fun u hu v hv e => by rw [List.mem_singleton.mp hv] at e; rw [e] at hu; exact g3 hu⟩
    · rw [List.map_append]
      intro hm
      rcases List.mem_append.mp hm with hm | hm
      · exact (rin x (hes x hx)).2.2 hm
      · rw [List.mem_singleton.mp hm] at hx; exact hni hx
    · rw [pm_mset n9a n9b, mset_mset, List.map_append]
      rfl
  intro r m' hp1
  obtain ⟨as, rest, s3, hl2, hr, aok, rnd, rin, p3, rfl, o6, o7, o10, rfl⟩ := (hP1 _ _ _).mp hp1
  rw [rngD_len] at hl2 p3 hr
  refine ⟨p9, _, rfl, by rw [pm_ne n9a n9b]; exact mset_same, ?_⟩
  rw [pm_mdel n9a n9b, mdel_mset (by rw [mset_ne n98]; exact n9)]
  try simp only [dIfS, dTest, dOp, dVar, dC, dCB, daCons, daNil, dSet, dRet, dNext, dDrop, dAsg, dPar, dAug, dAddI, dBreak, dCont, dRetN, slot, dLen, dCmpI, dSub, dAdd, dMul, dDiv, dMod, dPow, dNeg, dUn, dIx, dInt1, dAbs, dChain, dAnd, dOr, dNot, dAndV, dOrV, dNotV, dTru, dTruB, dIf, dTup, dLst, mkL, dSlice, dSl, doNone, doSome, dSum, dAll, dAny, dList, dTuple, dMax, dMin, eq_ii, ne_ii, eq_ss, ne_ss, eq_bb, ne_bb, eq_nn, ne_nn, dIsN, dNotN, dFgt, dIsB, dNotB, gN, gT, gsNil, gsCons, gSet, dBM, dAppend, dClear, dFld, dFldS, dProp, dCall, dMeth, dMake, dMakeN, daStar, dDictP, dCallO, dFor, dLc, diR1, diR2, diR3, diL, diT, diRv, diS, diE, dFmt, dFStr, dJs, dCallN, dFrzE, frz_l, in_ss, notin_ss, drR1, drR2, dListR, dRaise, dRaise0, dTryAs, dTry, dXf, dAddO, dInO, isL, insOf, Option.some.injEq, List.cons.injEq, D.int.injEq, D.bl.injEq, D.str.injEq, D.lst.injEq, D.tup.injEq, D.ref.injEq, MO.lst.injEq, MO.ins.injEq, mset_mset, and_true, true_and, and_self, and_assoc, exists_eq_left', exists_eq_left, exists_and_left, exists_and_right, exists_eq', List.set_cons_zero, List.set_cons_succ, decide_eq_true_eq, sqOf, lsOf, List.length_cons, List.length_nil, sizeLine_eq, List.append_nil, List.cons_append, List.nil_append, if_true, if_false, Bool.false_eq_true, reduceCtorEq, reduceIte, Nat.reduceAdd, Nat.reduceLeDiff, mset_same, Option.bind_some, List.length_map, Prod.mk.injEq, at0, at1, at2, at3, at4, at5, at6, at7, ix30, ix31, ix32, ix20, ix21, ix10, isi_ii, isi_ib, isi_ll, isi_bb, isi_ss, isi_tt, isi_is, isi_si, Bool.not_true, Bool.not_false, dWk]
  refine name_p p3 (by omega) (fun z s4 hz p4 => ⟨pm a b s4 m0, ?_, ?_⟩)
  · intro c o hc
    by_cases ca : c = a
    · subst ca; rw [pm_a] at hc ⊢; exact hc
    · by_cases cb : c = b
      · subst cb; rw [pm_b p4.ne] at hc ⊢; exact hc
      · rw [pm_ne ca cb] at hc ⊢
        rw [mset_ne (fun e => by rw [e, n8] at hc; cases hc)]
        exact hc
  · refine q ⟨z, ks, as⟩ s4 ⟨hz, by show 1 ≤ ks.length; omega, by show ks.length ≤ 4; omega, by show as.length ≤ 12; omega, ?_, aok⟩ (p4.up (by omega))
    have : decide (0 < as.length) = bb := by rw [hbb, hl2]; simp
    show KsOk (decide (0 < as.length)) ks
    rw [this]
    exact kok
theorem at_map {α : Type} {g : α → D} {l : List α} {r : Int} (h0 : 0 ≤ r) (h1 : r < l.length) : ∃ x ∈ l, atI (l.map g) r = some (g x) := by
  obtain ⟨n, rfl⟩ : ∃ n : Nat, r = n := ⟨r.toNat, by omega⟩
  obtain ⟨x, hx⟩ : ∃ x, l[n]? = some x := ⟨_, List.getElem?_eq_getElem (by omega)⟩
  exact ⟨x, mem_at hx, atI_nat (by rw [List.getElem?_map, hx]; rfl)⟩
theorem eq_nil {n : Nat} {xs : List D} {m : M} {Q : D → M → Prop} (hn : n ≤ 64) (c : clR n (.lst xs) = true) (h : Q (.bl xs.isEmpty) m) : dEq (.lst xs) (.lst []) m Q := by
  unfold dEq
  show ∃ p q, datOf m (.lst xs) = some p ∧ datOf m (.lst []) = some q ∧ SeqAt.shaped p = true ∧ SeqAt.shaped q = true ∧ Q (.bl (PyData.eqv p q)) m
  obtain ⟨p, e1, l1, d1⟩ := clR_toP n _ c
  obtain ⟨ps, rfl, e2⟩ := toP_lst e1
  refine ⟨.list ps, .list [], e1, rfl, by unfold SeqAt.shaped; rw [l1, decide_eq_true (by omega)]; rfl, by decide, ?_⟩
  have e3 : PyData.eqv (.list ps) (.list []) = xs.isEmpty := by
    rw [PyData.eqv]
    cases xs with
    | nil => rw [toPs] at e2; cases e2; simp [PyData.eqvAll]
    | cons y ys => obtain ⟨a, as, rfl, _, _⟩ := toPs_cons e2; simp [PyData.eqvAll]
  rw [e3]
  exact h
theorem clR_ars {t : Tsk} (ok : t.Ok) {l : List Arr} (h : ∀ a ∈ l, a ∈ t.as) : clR 2 (.lst (l.map Arr.D)) = true := by
  show (l.map Arr.D).all (clR 1) = true
  rw [List.all_map, List.all_eq_true]
  intro a ha
  have nm : ∀ z ∈ names t.ks, PyData.strOk z = true := fun z hz => by
    obtain ⟨k, hk, rfl⟩ := List.mem_map.mp hz
    exact nm_ok (ok.ks.nm k hk)
  show ([D.str a.f, .str a.s, .int a.g].all (clR 0)) = true
  simp [clR, nm _ (ok.as.f a (h a ha)), nm _ (ok.as.s a (h a ha))]
theorem ne_nil {n : Nat} {xs : List D} {m : M} {Q : D → M → Prop} (hn : n ≤ 64) (c : clR n (.lst xs) = true) (h : Q (.bl (!xs.isEmpty)) m) : dNe (.lst xs) (.lst []) m Q := by
  unfold dNe
  show ∃ p q, datOf m (.lst xs) = some p ∧ datOf m (.lst []) = some q ∧ SeqAt.shaped p = true ∧ SeqAt.shaped q = true ∧ Q (.bl (!PyData.eqv p q)) m
  obtain ⟨p, e1, l1, d1⟩ := clR_toP n _ c
  obtain ⟨ps, rfl, e2⟩ := toP_lst e1
  refine ⟨.list ps, .list [], e1, rfl, by unfold SeqAt.shaped; rw [l1, decide_eq_true (by omega)]; rfl, by decide, ?_⟩
  have e3 : PyData.eqv (.list ps) (.list []) = xs.isEmpty := by
    rw [PyData.eqv]
    cases xs with
    | nil => rw [toPs] at e2; cases e2; simp [PyData.eqvAll]
    | cons y ys => obtain ⟨a, as, rfl, _, _⟩ := toPs_cons e2; simp [PyData.eqvAll]
  rw [e3]
  exact h
theorem row_jobs (t : Tsk) (g : Int) (i : Nat) (w : List Job) : (rowsW t g i w).map (fun x => (x.d, x.c)) = w.map fun j => (j.r + (kOf t j.k).d * g, j.c) := by
  unfold rowsW
  rw [List.map_map]
  refine List.ext_getElem? fun p => ?_
  rw [List.getElem?_map, List.getElem?_map]
  by_cases h : p < w.length
  · rw [jAt_at h, List.getElem?_range h]; rfl
  · rw [List.getElem?_eq_none (by simp; omega), List.getElem?_eq_none (by omega)]; rfl
theorem row_due (t : Tsk) (g b : Int) (i : Nat) (w : List Job) : (((rowsW t g i w).filter fun x => decide (x.d ≤ b)).map Rw.c).sum = dueW t g b w := by
  have e1 : ((rowsW t g i w).filter fun x => decide (x.d ≤ b)).map Rw.c = ((((rowsW t g i w).map fun x => (x.d, x.c)).filter fun y => decide (y.1 ≤ b)).map (·.2)) := by
    rw [List.filter_map, List.map_map]
    rfl
  rw [e1, row_jobs, List.filter_map, List.map_map]
  rfl
theorem sum_perm {l l' : List Int} (h : l.Perm l') : l.sum = l'.sum := by
  induction h with
  | nil => rfl
  | cons x _ ih => rw [List.sum_cons, List.sum_cons, ih]
  | swap x y l => rw [List.sum_cons, List.sum_cons, List.sum_cons, List.sum_cons]; omega
  | trans _ _ h1 h2 => rw [h1, h2]
theorem ix_lt {ks : List Knd} {z : Str} (h : z ∈ names ks) : ixOf ks z < ks.length := by
  have := List.idxOf_lt_length_iff.mpr h
  simpa [ixOf] using this
theorem ix_at {ks : List Knd} {z : Str} (h : z ∈ names ks) : (kI ks (ixOf ks z)).n = z := by
  have hl := ix_lt h
  have e : (names ks)[ixOf ks z]'(by simpa using hl) = z := List.getElem_idxOf _
  unfold kI
  rw [List.getD_eq_getElem?_getD, List.getElem?_eq_getElem hl]
  simp at e
  exact e
theorem kI_at {ks : List Knd} {i : Nat} (h : i < ks.length) : ks[i]? = some (kI ks i) := by
  unfold kI
  rw [List.getD_eq_getElem?_getD, List.getElem?_eq_getElem h]
  rfl
structure LR (m : M) (ls : List Addr) (rows : Nat → List D) : Prop where
  nd : ls.Nodup
  row : ∀ i l, ls[i]? = some l → m l = some (.lst (rows i))
theorem nd_at {ls : List Addr} (nd : ls.Nodup) {i j : Nat} {l : Addr} (hi : ls[i]? = some l) (hj : ls[j]? = some l) : i = j := by
  rcases Nat.lt_trichotomy i j with h | h | h
  · exact absurd (List.mem_iff_getElem?.mpr ⟨i, by rw [List.getElem?_take, if_pos h]; exact hi⟩) (nodup_take nd hj)
  · exact h
  · exact absurd (List.mem_iff_getElem?.mpr ⟨j, by rw [List.getElem?_take, if_pos h]; exact hj⟩) (nodup_take nd hi)
theorem LR.put {m : M} {ls : List Addr} {rows rows' : Nat → List D} (h : LR m ls rows) {i : Nat} {l : Addr} (hl : ls[i]? = some l) (h2 : ∀ j, j ≠ i → rows' j = rows j) : LR (mset m l (.lst (rows' i))) ls rows' := by
  refine ⟨h.nd, fun j l2 hj => ?_⟩
  by_cases e : l2 = l
  · subst e
    rw [nd_at h.nd hj hl]
    exact mset_same
  · have : j ≠ i := fun e2 => by subst e2; rw [hl] at hj; cases hj; exact e rfl
    rw [mset_ne e, h2 j this]
    exact h.row j l2 hj
theorem LR.keep {m m' : M} {ls : List Addr} {rows : Nat → List D} (h : LR m ls rows) (e : ∀ l ∈ ls, m' l = m l) : LR m' ls rows := ⟨h.nd, fun i l hl => by rw [e l (mem_at hl)]; exact h.row i l hl⟩
theorem frz_all : ∀ (ls : List Addr) (m m' : M) (rows : Nat → List D), LR m' ls rows → (∀ a, a ∉ ls → m' a = m a) → (∀ l ∈ ls, m l = none) → FrzAll m' (ls.map D.ref) ((List.range ls.length).map fun i => .lst (rows i)) m
  | [], m, m', rows, _, fr, _ => by
    have : m' = m := funext fun a => fr a (by simp)
    subst this
    exact .nil m'
  | l :: ls, m, m', rows, h, fr, hn => by
    have nd := List.nodup_cons.mp h.nd
    have ih := frz_all ls m (mdel m' l) (fun i => rows (i + 1)) ⟨nd.2, fun i x hx => by
      rw [mdel_ne (fun e => nd.1 (by rw [← e]; exact mem_at hx))]
      exact h.row (i + 1) x (by simpa using hx)⟩ (fun a ha => by
        by_cases e : a = l
        · subst e; rw [mdel_same, hn a List.mem_cons_self]
        · rw [mdel_ne e]; exact fr a (by simp [e, ha])) (fun x hx => hn x (List.mem_cons_of_mem _ hx))
    show FrzAll m' (D.ref l :: ls.map D.ref) _ m
    rw [List.length_cons, List.range_succ_eq_map, List.map_cons, List.map_map]
    exact .cons (h.row 0 l rfl) ih
theorem lc_news {α : Type} {g : α → D} {l : List α} {i : Nat} {vs : List Nat} {r : DSt} {m : M} {Q : List D → M → Prop} (hz : l.length ≤ 1000) (q : ∀ (ls : List Addr) (m' : M), ls.length = l.length → LR m' ls (fun _ => []) → (∀ a, a ∉ ls → m' a = m a) → (∀ x ∈ ls, m x = none) → Q (ls.map D.ref) m') : dLcL (.one i) vs dYes (dLst true daNil) (l.map g) [] r m Q := by
  refine lc_steps l.length (by rw [sizeLine_eq]; omega) (fun acc m' => ∃ ls : List Addr, acc = ls.map D.ref ∧ LR m' ls (fun _ => []) ∧ (∀ a, a ∉ ls → m' a = m a) ∧ ∀ x ∈ ls, m x = none) (by simp) ⟨[], rfl, ⟨by simp, fun i l h => by simp at h⟩, fun _ _ => rfl, by simp⟩ ?_ ?_
  · intro x _ acc m1 hl hP
    obtain ⟨ls, rfl, lr, fr, hn⟩ := hP
    refine ⟨_, rfl, fun Q' q' => ?_⟩
    walk_at "zs"
    intro p hp
    have np : p ∉ ls := fun h => by
      obtain ⟨j, hj⟩ := List.mem_iff_getElem?.mp h
      rw [lr.row j p hj] at hp
      cases hp
    refine q' _ _ ⟨ls ++ [p], by rw [List.map_append]; rfl, ⟨?_, fun j y hj => ?_⟩, fun a ha => ?_, fun y hy => ?_⟩
    · rw [List.nodup_append]
      exact ⟨lr.nd, by simp, fun u hu v hv e => by rw [List.mem_singleton.mp hv] at e; rw [e] at hu; exact np hu⟩
    · by_cases e : y = p
      · rw [e]; exact mset_same
      · rw [mset_ne e]
        by_cases hjl : j < ls.length
        · rw [List.getElem?_append_left hjl] at hj
          exact lr.row j y hj
        · rw [List.getElem?_append_right (by omega)] at hj
          have := List.mem_singleton.mp (mem_at hj)
          exact absurd this e
    · have ha' : a ∉ ls ∧ a ≠ p := by simpa using ha
      rw [mset_ne ha'.2]
      exact fr a ha'.1
    · rcases List.mem_append.mp hy with hy | hy
      · exact hn y hy
      · rw [List.mem_singleton.mp hy, ← fr p np]
        exact hp
  · intro acc m1 hl hP
    obtain ⟨ls, rfl, lr, fr, hn⟩ := hP
    exact q ls m1 (by simpa using hl) lr fr hn
theorem ix_nm {t : Tsk} {z : Str} (h : z ∈ names t.ks) : nmI t.ks (ixOf t.ks z) = z := by
  have h1 := ix_lt h
  rw [nmI_at (kI_at h1), ix_at h]
theorem mx_is {l : List Int} (h : ∀ x ∈ l, 0 ≤ x) {k : Int} (hk : k ∈ 0 :: l) (hm : ∀ y ∈ 0 :: l, y ≤ k) : k = mxL l := by
  refine Int.le_antisymm ?_ ?_
  · rcases List.mem_cons.mp hk with rfl | hk
    · exact foldl_ge _ 0
    · exact foldl_mem_le _ 0 _ hk
  · unfold mxL
    have go : ∀ (l : List Int) (a : Int), a ≤ k → (∀ y ∈ l, y ≤ k) → l.foldl max a ≤ k := by
      intro l
      induction l with
      | nil => exact fun a h _ => h
      | cons y l ih =>
        intro a ha hy
        rw [List.foldl_cons]
        exact ih _ (by have := hy y List.mem_cons_self; omega) fun z hz => hy z (List.mem_cons_of_mem _ hz)
    exact go l 0 (hm 0 List.mem_cons_self) fun y hy => hm y (List.mem_cons_of_mem _ hy)
theorem merge_nd : ∀ (kvs acc : List (Key × D)), ((acc ++ kvs).map (·.1)).Nodup → kvs.foldl (fun acc kv => putKD acc kv.1 kv.2) acc = acc ++ kvs
  | [], acc, _ => by simp
  | (k, v) :: kvs, acc, h => by
    rw [List.foldl_cons]
    have hk : k ∉ acc.map (·.1) := fun hm => by
      rw [List.map_append, List.nodup_append] at h
      exact h.2.2 k hm k (by simp) rfl
    rw [putKD_new hk, merge_nd kvs (acc ++ [(k, v)]) (by rw [List.append_assoc]; exact h), List.append_assoc]
    rfl
def plK (ks : List Knd) : List (Key × D) := (List.range ks.length).map fun i => ((Sum.inr (nmI ks i) : Key), D.int (i : Int))
theorem plK_nd {t : Tsk} (ok : t.Ok) : ((plK t.ks).map (·.1)).Nodup := by
  have e : (plK t.ks).map (·.1) = (names t.ks).map fun z => (Sum.inr z : Key) := by
    unfold plK
    rw [List.map_map]
    refine List.ext_getElem? fun i => ?_
    rw [List.getElem?_map, List.getElem?_map, List.getElem?_map]
    by_cases h : i < t.ks.length
    · rw [List.getElem?_range h, kI_at h]
      show some (Sum.inr (nmI t.ks i)) = some (Sum.inr (kI t.ks i).n)
      rw [nmI_at (kI_at h)]
    · rw [List.getElem?_eq_none (by simpa using h), List.getElem?_eq_none (by simpa using h)]
      rfl
  rw [e]
  exact List.pairwise_map.mpr (ok.ks.nd.imp fun h e => h (Sum.inr.inj e))
theorem plK_merge {t : Tsk} (ok : t.Ok) : mergeD (plK t.ks) = plK t.ks := by
  unfold mergeD
  have := merge_nd (plK t.ks) [] (by rw [List.nil_append]; exact plK_nd ok)
  simpa using this
theorem plK_at {t : Tsk} (ok : t.Ok) {z : Str} (h : z ∈ names t.ks) : valD (plK t.ks) (Sum.inr z) = some (.int (ixOf t.ks z)) := by
  have hx := ix_lt h
  refine valD_mem (plK_nd ok) ?_
  unfold plK
  refine List.mem_map.mpr ⟨ixOf t.ks z, List.mem_range.mpr hx, ?_⟩
  have e : nmI t.ks (ixOf t.ks z) = z := by rw [nmI_at (kI_at hx), ix_at h]
  rw [e]
theorem pure_law_table {K : Fr0} {mg : Str → Option Value} (T : Txt K mg) (ds : List D) (m : M) (Q : D → M → Prop) (E : XD → M → Prop) (h : sp_law_table K ds m Q E) : t_law_table K (fun x _ m => E x m) { nx := fun _ m => Q .non m, rt := Q } (startD nm_law_table ds) m := by
  obtain ⟨t, n, rfl, ok, hn, q⟩ := h
  have k4 := ok.k4
  have k1 := ok.k1
  have a12 := ok.a12
  show t_law_table K _ _ [some (specD t), some (.int n), none, none, none, none, none, none, none, none, none, none] m
  unfold t_law_table
  simp only [specD]
  walk_at "zn"
  refine lc_news (by omega) (fun ls m1 ll lr fr ln => ?_)
  walk_at "zn"
  refine ⟨by omega, by omega, ?_⟩
  refine lc_rng (fun i => .tup [.str (nmI t.ks i), .int (i : Int)]) (by rw [sizeLine_eq]; omega) (fun i hi Q' q' => ?_) ?_
  · rw [Int.toNat_natCast] at hi
    obtain ⟨k, hk⟩ : ∃ k, t.ks[i]? = some k := ⟨_, List.getElem?_eq_getElem hi⟩
    have kat : atI (t.ks.map Knd.D) (i : Int) = some (.tup [.str k.n, .int k.c, .int k.d]) := atI_nat (by rw [List.getElem?_map, hk]; rfl)
    simp only [wipeD]
    rw [Int.zero_add]
    try simp only [dIfS, dTest, dOp, dVar, dC, dCB, daCons, daNil, dSet, dRet, dNext, dDrop, dAsg, dPar, dAug, dAddI, dBreak, dCont, dRetN, slot, dLen, dCmpI, dSub, dAdd, dMul, dDiv, dMod, dPow, dNeg, dUn, dIx, dInt1, dAbs, dChain, dAnd, dOr, dNot, dAndV, dOrV, dNotV, dTru, dTruB, dIf, dTup, dLst, mkL, dSlice, dSl, doNone, doSome, dSum, dAll, dAny, dList, dTuple, dMax, dMin, eq_ii, ne_ii, eq_ss, ne_ss, eq_bb, ne_bb, eq_nn, ne_nn, dIsN, dNotN, dFgt, dIsB, dNotB, gN, gT, gsNil, gsCons, gSet, dBM, dAppend, dClear, dFld, dFldS, dProp, dCall, dMeth, dMake, dMakeN, daStar, dDictP, dCallO, dFor, dLc, diR1, diR2, diR3, diL, diT, diRv, diS, diE, dFmt, dFStr, dJs, dCallN, dFrzE, frz_l, in_ss, notin_ss, drR1, drR2, dListR, dRaise, dRaise0, dTryAs, dTry, dXf, dAddO, dInO, isL, insOf, Option.some.injEq, List.cons.injEq, D.int.injEq, D.bl.injEq, D.str.injEq, D.lst.injEq, D.tup.injEq, D.ref.injEq, MO.lst.injEq, MO.ins.injEq, mset_mset, and_true, true_and, and_self, and_assoc, exists_eq_left', exists_eq_left, exists_and_left, exists_and_right, exists_eq', List.set_cons_zero, List.set_cons_succ, decide_eq_true_eq, sqOf, lsOf, List.length_cons, List.length_nil, sizeLine_eq, List.append_nil, List.cons_append, List.nil_append, if_true, if_false, Bool.false_eq_true, reduceCtorEq, reduceIte, Nat.reduceAdd, Nat.reduceLeDiff, mset_same, Option.bind_some, List.length_map, Prod.mk.injEq, at0, at1, at2, at3, at4, at5, at6, at7, ix30, ix31, ix32, ix20, ix21, ix10, isi_ii, isi_ib, isi_ll, isi_bb, isi_ss, isi_tt, isi_is, isi_si, Bool.not_true, Bool.not_false, kat]
    walk_at "zs"
    rw [nmI_at hk] at q'
    exact q'
  rw [Int.toNat_natCast]
  walk_at "zn"
  refine ⟨plK t.ks, by unfold plK; rw [List.map_map]; rfl, fun pp hpp => ?_⟩
  rw [plK_merge ok]
  have npp : pp ∉ ls := fun h => by
    obtain ⟨j, hj⟩ := List.mem_iff_getElem?.mp h
    rw [lr.row j pp hj] at hpp
    cases hpp
  have mpp : m pp = none := by rw [← fr pp npp]; exact hpp
  walk_at "zn"
  refine ⟨by omega, by omega, ?_⟩
  rw [show ((n : Int) + 1).toNat = n + 1 by omega]
  obtain ⟨P1, hP1⟩ : ∃ P : Nat → DSt → M → Prop, ∀ at_ r m', P at_ r m' ↔ (∃ o3 o5 o6 o7 o8 o9 o10 o11, LR m' ls (fun i => (rowsI t at_ 0 i).map D.int) ∧ m' pp = some (.dK (plK t.ks)) ∧ MSub m m' ∧ r = [some (.tup [.str t.nm, ksD t.ks, asD t.as]), some (.int n), some (.lst (ls.map D.ref)), o3, some (.ref pp), o5, o6, o7, o8, o9, o10, o11]) := ⟨_, fun _ _ _ => Iff.rfl⟩
  refine ⟨P1, (hP1 _ _ _).mpr ⟨_, _, _, _, _, _, _, _, ?_, mset_same, ?_, rfl⟩, ?_, ?_⟩
  · refine LR.keep (m := m1) ⟨lr.nd, fun i l hl => ?_⟩ (fun l hl => mset_ne (fun e => npp (by rw [← e]; exact hl)))
    rw [lr.row i l hl]
    unfold rowsI
    rw [if_neg (by omega)]
    rfl
  · intro a o ha
    rw [mset_ne (fun e => by rw [e, mpp] at ha; cases ha), fr a (fun h => by rw [ln a h] at ha; cases ha)]
    exact ha
  · intro at_ d r m3 hd hp1
    obtain ⟨o3, o5, o6, o7, o8, o9, o10, o11, lr, hb, ms, rfl⟩ := (hP1 _ _ _).mp hp1
    obtain ⟨rfl, hat⟩ := rngD_at hd
    rw [Int.zero_add]
    walk_at "zn"
    refine ⟨by omega, by omega, ?_⟩
    rw [Int.toNat_natCast]
    obtain ⟨P2, hP2⟩ : ∃ P : Nat → DSt → M → Prop, ∀ i r m', P i r m' ↔ (∃ o3 o5 o7 o8 o9 o10 o11, LR m' ls (fun j => (rowsI t at_ i j).map D.int) ∧ m' pp = some (.dK (plK t.ks)) ∧ MSub m m' ∧ r = [some (.tup [.str t.nm, ksD t.ks, asD t.as]), some (.int n), some (.lst (ls.map D.ref)), o3, some (.ref pp), o5, some (.int at_), o7, o8, o9, o10, o11]) := ⟨_, fun _ _ _ => Iff.rfl⟩
    refine ⟨P2, (hP2 _ _ _).mpr ⟨_, _, _, _, _, _, _, lr, hb, ms, rfl⟩, ?_, ?_⟩
    · intro i d r m4 hd hp2
      obtain ⟨o3, o5, o7, o8, o9, o10, o11, lr, hb, ms, rfl⟩ := (hP2 _ _ _).mp hp2
      obtain ⟨rfl, hi⟩ := rngD_at hd
      rw [Int.zero_add]
      obtain ⟨k, hk⟩ : ∃ k, t.ks[i]? = some k := ⟨_, List.getElem?_eq_getElem hi⟩
      have hkm := mem_at hk
      have en := nmI_at hk
      have kat : atI (t.ks.map Knd.D) (i : Int) = some (.tup [.str k.n, .int k.c, .int k.d]) := atI_nat (by rw [List.getElem?_map, hk]; rfl)
      try simp only [dSeq]
      try simp only [dIfS, dTest, dOp, dVar, dC, dCB, daCons, daNil, dSet, dRet, dNext, dDrop, dAsg, dPar, dAug, dAddI, dBreak, dCont, dRetN, slot, dLen, dCmpI, dSub, dAdd, dMul, dDiv, dMod, dPow, dNeg, dUn, dIx, dInt1, dAbs, dChain, dAnd, dOr, dNot, dAndV, dOrV, dNotV, dTru, dTruB, dIf, dTup, dLst, mkL, dSlice, dSl, doNone, doSome, dSum, dAll, dAny, dList, dTuple, dMax, dMin, eq_ii, ne_ii, eq_ss, ne_ss, eq_bb, ne_bb, eq_nn, ne_nn, dIsN, dNotN, dFgt, dIsB, dNotB, gN, gT, gsNil, gsCons, gSet, dBM, dAppend, dClear, dFld, dFldS, dProp, dCall, dMeth, dMake, dMakeN, daStar, dDictP, dCallO, dFor, dLc, diR1, diR2, diR3, diL, diT, diRv, diS, diE, dFmt, dFStr, dJs, dCallN, dFrzE, frz_l, in_ss, notin_ss, drR1, drR2, dListR, dRaise, dRaise0, dTryAs, dTry, dXf, dAddO, dInO, isL, insOf, Option.some.injEq, List.cons.injEq, D.int.injEq, D.bl.injEq, D.str.injEq, D.lst.injEq, D.tup.injEq, D.ref.injEq, MO.lst.injEq, MO.ins.injEq, mset_mset, and_true, true_and, and_self, and_assoc, exists_eq_left', exists_eq_left, exists_and_left, exists_and_right, exists_eq', List.set_cons_zero, List.set_cons_succ, decide_eq_true_eq, sqOf, lsOf, List.length_cons, List.length_nil, sizeLine_eq, List.append_nil, List.cons_append, List.nil_append, if_true, if_false, Bool.false_eq_true, reduceCtorEq, reduceIte, Nat.reduceAdd, Nat.reduceLeDiff, mset_same, Option.bind_some, List.length_map, Prod.mk.injEq, at0, at1, at2, at3, at4, at5, at6, at7, ix30, ix31, ix32, ix20, ix21, ix10, isi_ii, isi_ib, isi_ll, isi_bb, isi_ss, isi_tt, isi_is, isi_si, Bool.not_true, Bool.not_false, kat]
      walk_at "zn"
      intro pa hpa
      have npa : pa ∉ ls := fun h => by
        obtain ⟨j, hj⟩ := List.mem_iff_getElem?.mp h
        rw [lr.row j pa hj] at hpa
        cases hpa
      have npap : pa ≠ pp := fun e => by rw [e, hb] at hpa; cases hpa
      walk_at "zn"
      have lr4 : LR (mset m4 pa (.lst [.int 0])) ls (fun j => (rowsI t at_ i j).map D.int) := lr.keep fun l hl => mset_ne (fun e => npa (by rw [← e]; exact hl))
      obtain ⟨P3, hP3⟩ : ∃ P : Nat → DSt → M → Prop, ∀ j r m', P j r m' ↔ (∃ o8 o9 o10, m' = mset m4 pa (.lst ((0 :: ((t.as.take j).filter fun a : Arr => decide (a.f = k.n ∧ a.g ≤ (at_ : Int))).map fun a : Arr => dem t (at_ - a.g.toNat) a.s).map D.int)) ∧ r = [some (.tup [.str t.nm, ksD t.ks, asD t.as]), some (.int n), some (.lst (ls.map D.ref)), some (.tup [.str k.n, .int k.c, .int k.d]), some (.ref pp), some (.int i), some (.int at_), some (.ref pa), o8, o9, o10, o11]) := ⟨_, fun _ _ _ => Iff.rfl⟩
      refine ⟨P3, (hP3 _ _ _).mpr ⟨_, _, _, rfl, rfl⟩, ?_, ?_⟩
      · intro j d r m5 hd hp3
        obtain ⟨o8, o9, o10, rfl, rfl⟩ := (hP3 _ _ _).mp hp3
        obtain ⟨a, ha, rfl⟩ := map_at hd
        have hm := mem_at ha
        have ga := ok.as.g a hm
        have si := ok.as.s a hm
        have isx := ix_lt si
        obtain ⟨l, hl⟩ : ∃ l, ls[ixOf t.ks a.s]? = some l := ⟨_, List.getElem?_eq_getElem (by omega)⟩
        have hne : l ≠ pa := fun e => npa (by rw [← e]; exact mem_at hl)
        have hlr := lr.row _ l hl
        have lat : atI (ls.map D.ref) (ixOf t.ks a.s : Int) = some (.ref l) := atI_nat (by rw [List.getElem?_map, hl]; rfl)
        have e12 : ∀ b : Bool, decide (a.f = k.n ∧ a.g ≤ (at_ : Int)) = b → ((t.as.take (j + 1)).filter fun a : Arr => decide (a.f = k.n ∧ a.g ≤ (at_ : Int))) = (t.as.take j).filter (fun a : Arr => decide (a.f = k.n ∧ a.g ≤ (at_ : Int))) ++ if b = true then [a] else [] := fun b hb => by
          rw [take_succ' ha, List.filter_append, List.filter_cons, hb]
          cases b <;> rfl
        have no : ¬ (a.f = k.n ∧ a.g ≤ (at_ : Int)) → P3 (j + 1) [some (.tup [.str t.nm, ksD t.ks, asD t.as]), some (.int n), some (.lst (ls.map D.ref)), some (.tup [.str k.n, .int k.c, .int k.d]), some (.ref pp), some (.int i), some (.int at_), some (.ref pa), some (.str a.f), some (.str a.s), some (.int a.g), o11] (mset m4 pa (.lst ((0 :: ((t.as.take j).filter fun a : Arr => decide (a.f = k.n ∧ a.g ≤ (at_ : Int))).map fun a : Arr => dem t (at_ - a.g.toNat) a.s).map D.int))) := fun h => by
          refine (hP3 _ _ _).mpr ⟨_, _, _, ?_, rfl⟩
          rw [e12 false (decide_eq_false h), if_neg (by simp), List.append_nil]
        try simp only [dSeq]
        try simp only [dIfS, dTest, dOp, dVar, dC, dCB, daCons, daNil, dSet, dRet, dNext, dDrop, dAsg, dPar, dAug, dAddI, dBreak, dCont, dRetN, slot, dLen, dCmpI, dSub, dAdd, dMul, dDiv, dMod, dPow, dNeg, dUn, dIx, dInt1, dAbs, dChain, dAnd, dOr, dNot, dAndV, dOrV, dNotV, dTru, dTruB, dIf, dTup, dLst, mkL, dSlice, dSl, doNone, doSome, dSum, dAll, dAny, dList, dTuple, dMax, dMin, eq_ii, ne_ii, eq_ss, ne_ss, eq_bb, ne_bb, eq_nn, ne_nn, dIsN, dNotN, dFgt, dIsB, dNotB, gN, gT, gsNil, gsCons, gSet, dBM, dAppend, dClear, dFld, dFldS, dProp, dCall, dMeth, dMake, dMakeN, daStar, dDictP, dCallO, dFor, dLc, diR1, diR2, diR3, diL, diT, diRv, diS, diE, dFmt, dFStr, dJs, dCallN, dFrzE, frz_l, in_ss, notin_ss, drR1, drR2, dListR, dRaise, dRaise0, dTryAs, dTry, dXf, dAddO, dInO, isL, insOf, Option.some.injEq, List.cons.injEq, D.int.injEq, D.bl.injEq, D.str.injEq, D.lst.injEq, D.tup.injEq, D.ref.injEq, MO.lst.injEq, MO.ins.injEq, mset_mset, and_true, true_and, and_self, and_assoc, exists_eq_left', exists_eq_left, exists_and_left, exists_and_right, exists_eq', List.set_cons_zero, List.set_cons_succ, decide_eq_true_eq, sqOf, lsOf, List.length_cons, List.length_nil, sizeLine_eq, List.append_nil, List.cons_append, List.nil_append, if_true, if_false, Bool.false_eq_true, reduceCtorEq, reduceIte, Nat.reduceAdd, Nat.reduceLeDiff, mset_same, Option.bind_some, List.length_map, Prod.mk.injEq, at0, at1, at2, at3, at4, at5, at6, at7, ix30, ix31, ix32, ix20, ix21, ix10, isi_ii, isi_ib, isi_ll, isi_bb, isi_ss, isi_tt, isi_is, isi_si, Bool.not_true, Bool.not_false, Arr.D]
        by_cases c1 : a.f = k.n
        · rw [if_pos c1]
          by_cases c2 : a.g ≤ (at_ : Int)
          · rw [if_pos c2]
            have rl : atI ((rowsI t at_ i (ixOf t.ks a.s)).map D.int) ((at_ : Int) - a.g) = some (.int (dem t (at_ - a.g.toNat) a.s)) := by
              unfold rowsI
              rw [ix_nm si]
              have := rowN_atI (f := fun n => dem t n a.s) (n := if ixOf t.ks a.s < i then at_ + 1 else at_) (i := (at_ : Int) - a.g) (by omega) (by split <;> omega)
              rwa [show ((at_ : Int) - a.g).toNat = at_ - a.g.toNat by omega] at this
            have fl := List.length_filter_le (fun a : Arr => decide (a.f = k.n ∧ a.g ≤ (at_ : Int))) (t.as.take j)
            rw [List.length_take] at fl
            refine ⟨pp, plK t.ks, Sum.inr a.s, .int (ixOf t.ks a.s), rfl, by rw [mset_ne npap.symm]; exact hb, rfl, plK_at ok si, ?_⟩
            refine ⟨_, rfl, _, lat, ?_⟩
            refine ⟨_, lsOf_ref (by rw [mset_ne hne]; exact hlr), _, rl, _, mset_same, ?_, ?_⟩
            · rw [List.length_map, List.length_cons, List.length_map]
              omega
            refine (hP3 _ _ _).mpr ⟨_, _, _, ?_, rfl⟩
            rw [mset_mset, e12 true (decide_eq_true ⟨c1, c2⟩), if_pos rfl]
            simp
          · rw [if_neg c2]
            exact no fun h => c2 h.2
        · rw [if_neg c1]
          exact no fun h => c1 h.1
      · intro r m5 hp3
        obtain ⟨o8, o9, o10, rfl, rfl⟩ := (hP3 _ _ _).mp hp3
        rw [List.length_map, List.take_length]
        clear hp3 hP3 P3
        obtain ⟨l, hl⟩ : ∃ l, ls[i]? = some l := ⟨_, List.getElem?_eq_getElem (by omega)⟩
        have hlm := mem_at hl
        have hne : l ≠ pa := fun e => npa (by rw [← e]; exact hlm)
        have hnp : pp ≠ l := fun e => npp (by rw [e]; exact hlm)
        have hlr := lr.row _ l hl
        have lat : atI (ls.map D.ref) (i : Int) = some (.ref l) := atI_nat (by rw [List.getElem?_map, hl]; rfl)
        have kc := ok.ks.c k hkm
        have kc99 : k.c ≤ 99 := by
          have := kc.2
          split at this <;> omega
        have e10 : dem t at_ k.n = ownC k at_ + mxL ((t.as.filter fun a : Arr => decide (a.f = k.n ∧ a.g ≤ (at_ : Int))).map fun a : Arr => dem t (at_ - a.g.toNat) a.s) := by
          rw [dem_eq ok, dstp, kOf_mem ok hkm, mx_eq (fun x hx => by obtain ⟨a, _, rfl⟩ := List.mem_map.mp hx; exact dem0 ok _ _)]
          have ef : ((foll t k.n).filter fun a : Arr => decide (a.g ≤ (at_ : Int))) = t.as.filter fun a : Arr => decide (a.f = k.n ∧ a.g ≤ (at_ : Int)) := by
            unfold foll
            rw [List.filter_filter]
            refine List.filter_congr fun a _ => ?_
            by_cases h1 : a.f = k.n <;> by_cases h2 : a.g ≤ (at_ : Int) <;> simp [h1, h2]
          rw [ef]
        have nn : ∀ x ∈ (t.as.filter fun a : Arr => decide (a.f = k.n ∧ a.g ≤ (at_ : Int))).map fun a : Arr => dem t (at_ - a.g.toNat) a.s, 0 ≤ x := fun x hx => by
          obtain ⟨a, _, rfl⟩ := List.mem_map.mp hx
          exact dem0 ok _ _
        generalize ((t.as.filter fun a : Arr => decide (a.f = k.n ∧ a.g ≤ (at_ : Int))).map fun a : Arr => dem t (at_ - a.g.toNat) a.s) = fl at *
        try simp only [dSeq]
        try simp only [dIfS, dTest, dOp, dVar, dC, dCB, daCons, daNil, dSet, dRet, dNext, dDrop, dAsg, dPar, dAug, dAddI, dBreak, dCont, dRetN, slot, dLen, dCmpI, dSub, dAdd, dMul, dDiv, dMod, dPow, dNeg, dUn, dIx, dInt1, dAbs, dChain, dAnd, dOr, dNot, dAndV, dOrV, dNotV, dTru, dTruB, dIf, dTup, dLst, mkL, dSlice, dSl, doNone, doSome, dSum, dAll, dAny, dList, dTuple, dMax, dMin, eq_ii, ne_ii, eq_ss, ne_ss, eq_bb, ne_bb, eq_nn, ne_nn, dIsN, dNotN, dFgt, dIsB, dNotB, gN, gT, gsNil, gsCons, gSet, dBM, dAppend, dClear, dFld, dFldS, dProp, dCall, dMeth, dMake, dMakeN, daStar, dDictP, dCallO, dFor, dLc, diR1, diR2, diR3, diL, diT, diRv, diS, diE, dFmt, dFStr, dJs, dCallN, dFrzE, frz_l, in_ss, notin_ss, drR1, drR2, dListR, dRaise, dRaise0, dTryAs, dTry, dXf, dAddO, dInO, isL, insOf, Option.some.injEq, List.cons.injEq, D.int.injEq, D.bl.injEq, D.str.injEq, D.lst.injEq, D.tup.injEq, D.ref.injEq, MO.lst.injEq, MO.ins.injEq, mset_mset, and_true, true_and, and_self, and_assoc, exists_eq_left', exists_eq_left, exists_and_left, exists_and_right, exists_eq', List.set_cons_zero, List.set_cons_succ, decide_eq_true_eq, sqOf, lsOf, List.length_cons, List.length_nil, sizeLine_eq, List.append_nil, List.cons_append, List.nil_append, if_true, if_false, Bool.false_eq_true, reduceCtorEq, reduceIte, Nat.reduceAdd, Nat.reduceLeDiff, mset_same, Option.bind_some, List.length_map, Prod.mk.injEq, at0, at1, at2, at3, at4, at5, at6, at7, ix30, ix31, ix32, ix20, ix21, ix10, isi_ii, isi_ib, isi_ll, isi_bb, isi_ss, isi_tt, isi_is, isi_si, Bool.not_true, Bool.not_false, lat]
        refine ⟨⟨_, lsOf_ref (by rw [mset_ne hne]; exact hlr)⟩, mul_smallL (by omega), 0 :: fl, rfl, by simp, fun v hv hm => ⟨_, by rw [mset_ne hne]; exact hlr, ?_, ?_⟩⟩
        · unfold rowsI
          rw [List.length_map, rowN_len]
          split <;> omega
        have ev : (k.c * if k.d ≤ (at_ : Int) then 1 else 0) + v = dem t at_ k.n := by
          rw [e10, mx_is nn hv hm]
          unfold ownC
          split <;> omega
        rw [ev]
        have lr5 : LR (mset m4 pa (.lst ((0 :: fl).map D.int))) ls (fun j => (rowsI t at_ i j).map D.int) := lr.keep fun l hl => mset_ne (fun e => npa (by rw [← e]; exact hl))
        refine (hP2 _ _ _).mpr ⟨_, _, _, _, _, _, _, ?_, ?_, fun a o h => ?_, rfl⟩
        · have e11 : (rowsI t at_ i i).map D.int ++ [.int (dem t at_ k.n)] = (rowsI t at_ (i + 1) i).map D.int := by
            unfold rowsI
            rw [if_neg (by omega), if_pos (by omega), rowN_succ, List.map_append, en]
            rfl
          rw [e11]
          refine lr5.put (rows' := fun j => (rowsI t at_ (i + 1) j).map D.int) hl (fun j hj => ?_)
          unfold rowsI
          by_cases h1 : j < i
          · rw [if_pos h1, if_pos (by omega)]
          · rw [if_neg h1, if_neg (by omega)]
        · rw [mset_ne hnp, mset_ne npap.symm]
          exact hb
        · have h4 := ms a o h
          rw [mset_ne (fun e => by rw [e, ln l hlm] at h; cases h), mset_ne (fun e => by rw [e, hpa] at h4; cases h4)]
          exact h4
    · intro r m4 hp2
      obtain ⟨o3, o5, o7, o8, o9, o10, o11, lr, hb, ms, rfl⟩ := (hP2 _ _ _).mp hp2
      rw [rngD_len] at lr
      refine (hP1 _ _ _).mpr ⟨_, _, _, _, _, _, _, _, ⟨lr.nd, fun i l hl => ?_⟩, hb, ms, rfl⟩
      have hik : i < t.ks.length := by have := len_at hl; omega
      rw [lr.row i l hl]
      rw [rowsI_end t at_ (Nat.le_refl _) i hik]
  · intro r m3 hp1
    obtain ⟨o3, o5, o6, o7, o8, o9, o10, o11, lr, hb, ms, rfl⟩ := (hP1 _ _ _).mp hp1
    rw [rngD_len] at lr
    refine ⟨_, _, fun a => if a ∈ ls then none else m3 a, rfl, frz_all ls _ m3 _ lr (fun a ha => by rw [if_neg ha]) (fun l hl => by rw [if_pos hl]), ?_⟩
    rw [ll]
    try simp only [dSeq]
    try simp only [dIfS, dTest, dOp, dVar, dC, dCB, daCons, daNil, dSet, dRet, dNext, dDrop, dAsg, dPar, dAug, dAddI, dBreak, dCont, dRetN, slot, dLen, dCmpI, dSub, dAdd, dMul, dDiv, dMod, dPow, dNeg, dUn, dIx, dInt1, dAbs, dChain, dAnd, dOr, dNot, dAndV, dOrV, dNotV, dTru, dTruB, dIf, dTup, dLst, mkL, dSlice, dSl, doNone, doSome, dSum, dAll, dAny, dList, dTuple, dMax, dMin, eq_ii, ne_ii, eq_ss, ne_ss, eq_bb, ne_bb, eq_nn, ne_nn, dIsN, dNotN, dFgt, dIsB, dNotB, gN, gT, gsNil, gsCons, gSet, dBM, dAppend, dClear, dFld, dFldS, dProp, dCall, dMeth, dMake, dMakeN, daStar, dDictP, dCallO, dFor, dLc, diR1, diR2, diR3, diL, diT, diRv, diS, diE, dFmt, dFStr, dJs, dCallN, dFrzE, frz_l, in_ss, notin_ss, drR1, drR2, dListR, dRaise, dRaise0, dTryAs, dTry, dXf, dAddO, dInO, isL, insOf, Option.some.injEq, List.cons.injEq, D.int.injEq, D.bl.injEq, D.str.injEq, D.lst.injEq, D.tup.injEq, D.ref.injEq, MO.lst.injEq, MO.ins.injEq, mset_mset, and_true, true_and, and_self, and_assoc, exists_eq_left', exists_eq_left, exists_and_left, exists_and_right, exists_eq', List.set_cons_zero, List.set_cons_succ, decide_eq_true_eq, sqOf, lsOf, List.length_cons, List.length_nil, sizeLine_eq, List.append_nil, List.cons_append, List.nil_append, if_true, if_false, Bool.false_eq_true, reduceCtorEq, reduceIte, Nat.reduceAdd, Nat.reduceLeDiff, mset_same, Option.bind_some, List.length_map, Prod.mk.injEq, at0, at1, at2, at3, at4, at5, at6, at7, ix30, ix31, ix32, ix20, ix21, ix10, isi_ii, isi_ib, isi_ll, isi_bb, isi_ss, isi_tt, isi_is, isi_si, Bool.not_true, Bool.not_false, dWk]
    refine ⟨m, fun a o h => ?_, ?_⟩
    · have : a ∉ ls := fun hm => by rw [ln a hm] at h; cases h
      show (if a ∈ ls then none else m3 a) = some o
      rw [if_neg this]
      exact ms a o h
    · have e : (List.range t.ks.length).map (fun i => D.lst ((rowsI t (n + 1) 0 i).map D.int)) = t.ks.map fun k => il (rowN (fun at_ => dem t at_ k.n) (n + 1)) := by
        refine List.ext_getElem? fun i => ?_
        rw [List.getElem?_map, List.getElem?_map]
        by_cases hi : i < t.ks.length
        · rw [List.getElem?_range hi, kI_at hi]
          show some (D.lst ((rowsI t (n + 1) 0 i).map D.int)) = some (il (rowN (fun at_ => dem t at_ (kI t.ks i).n) (n + 1)))
          unfold rowsI
          rw [if_neg (by omega), nmI_at (kI_at hi)]
        · rw [List.getElem?_eq_none (by simpa using hi), List.getElem?_eq_none (by simpa using hi)]
          rfl
      rw [e]
      exact q
theorem fs_some {α : Type} {f : Nat → Option α} {n j : Nat} {x : α} (hj : j < n) (h0 : ∀ p, p < j → f p = none) (h1 : f j = some x) : (List.range n).findSome? f = some x := by
  obtain ⟨k, rfl⟩ : ∃ k, n = j + 1 + k := ⟨n - (j + 1), by omega⟩
  rw [List.range_add, List.findSome?_append, List.range_succ, List.findSome?_append]
  rw [show (List.range j).findSome? f = none from List.findSome?_eq_none_iff.mpr fun p hp => h0 p (List.mem_range.mp hp)]
  simp [h1]
theorem fs_none {α : Type} {f : Nat → Option α} {n : Nat} (h0 : ∀ p, p < n → f p = none) : (List.range n).findSome? f = none := List.findSome?_eq_none_iff.mpr fun p hp => h0 p (List.mem_range.mp hp)
theorem dueN_succ (t : Tsk) (b : Int) (w : List Job) (n : Nat) : dueN t b w (n + 1) = dueN t b w n + dueP t b w n := by
  unfold dueN
  rw [List.range_succ, List.map_append, List.sum_append]
  simp
theorem hv_I {w : List Job} {p : Nat} (h : p < w.length) : atI (w.map hvD) (p : Int) = some (hvD (jAt w p)) := atI_nat (by rw [List.getElem?_map, jAt_at h]; rfl)
theorem hv_J {w : List Job} {p : Nat} (h : p < w.length) (h1 : 1 ≤ p) : atI (w.map hvD) ((p : Int) - 1) = some (hvD (jAt w (p - 1))) := by
  rw [show (p : Int) - 1 = ((p - 1 : Nat) : Int) by omega]
  exact hv_I (by omega)
theorem cl_gaps (l : List Arr) : clR 1 (.lst (l.map fun a : Arr => D.int a.g)) = true := by
  show ((l.map fun a : Arr => D.int a.g).all (clR 0)) = true
  rw [List.all_map, List.all_eq_true]
  intro k _
  rfl
theorem gapF_cases (t : Tsk) (z w : Str) : (((foll t z).filter fun a => decide (a.s = w)) = [] ∧ gapF t z w = none) ∨ ∃ a r, ((foll t z).filter fun a => decide (a.s = w)) = a :: r ∧ gapF t z w = some a.g := by
  unfold gapF
  rw [← List.head?_filter]
  cases (foll t z).filter fun a => decide (a.s = w) with
  | nil => exact .inl ⟨rfl, rfl⟩
  | cons a r => exact .inr ⟨a, r, rfl, rfl⟩
theorem pure_need_step {K : Fr0} {mg : Str → Option Value} (T : Txt K mg) (ds : List D) (m : M) (Q : D → M → Prop) (E : XD → M → Prop) (h : sp_need_step K ds m Q E) : t_need_step K (fun x _ m => E x m) { nx := fun _ m => Q .non m, rt := Q } (startD nm_need_step ds) m := by
  obtain ⟨t, x, w, p, rfl, rfl, ok, p1, pl, hz, o⟩ := h
  have a12 := ok.a12
  have fl : (foll t (jAt w (p - 1)).k).length ≤ 12 := Nat.le_trans (List.length_filter_le _ _) a12
  show t_need_step K _ _ [some (taskD K t), some (.lst (w.map hvD)), some (.int p), none, none, none, none, none, none, none] m
  unfold t_need_step
  have i1 := hv_I pl
  have i2 := hv_J pl p1
  unfold stF at o
  generalize jAt w p = j at *
  generalize jAt w (p - 1) = j0 at *
  try simp only [dSeq]
  try simp only [dIfS, dTest, dOp, dVar, dC, dCB, daCons, daNil, dSet, dRet, dNext, dDrop, dAsg, dPar, dAug, dAddI, dBreak, dCont, dRetN, slot, dLen, dCmpI, dSub, dAdd, dMul, dDiv, dMod, dPow, dNeg, dUn, dIx, dInt1, dAbs, dChain, dAnd, dOr, dNot, dAndV, dOrV, dNotV, dTru, dTruB, dIf, dTup, dLst, mkL, dSlice, dSl, doNone, doSome, dSum, dAll, dAny, dList, dTuple, dMax, dMin, eq_ii, ne_ii, eq_ss, ne_ss, eq_bb, ne_bb, eq_nn, ne_nn, dIsN, dNotN, dFgt, dIsB, dNotB, gN, gT, gsNil, gsCons, gSet, dBM, dAppend, dClear, dFld, dFldS, dProp, dCall, dMeth, dMake, dMakeN, daStar, dDictP, dCallO, dFor, dLc, diR1, diR2, diR3, diL, diT, diRv, diS, diE, dFmt, dFStr, dJs, dCallN, dFrzE, frz_l, in_ss, notin_ss, drR1, drR2, dListR, dRaise, dRaise0, dTryAs, dTry, dXf, dAddO, dInO, isL, insOf, Option.some.injEq, List.cons.injEq, D.int.injEq, D.bl.injEq, D.str.injEq, D.lst.injEq, D.tup.injEq, D.ref.injEq, MO.lst.injEq, MO.ins.injEq, mset_mset, and_true, true_and, and_self, and_assoc, exists_eq_left', exists_eq_left, exists_and_left, exists_and_right, exists_eq', List.set_cons_zero, List.set_cons_succ, decide_eq_true_eq, sqOf, lsOf, List.length_cons, List.length_nil, sizeLine_eq, List.append_nil, List.cons_append, List.nil_append, if_true, if_false, Bool.false_eq_true, reduceCtorEq, reduceIte, Nat.reduceAdd, Nat.reduceLeDiff, mset_same, Option.bind_some, List.length_map, Prod.mk.injEq, at0, at1, at2, at3, at4, at5, at6, at7, ix30, ix31, ix32, ix20, ix21, ix10, isi_ii, isi_ib, isi_ll, isi_bb, isi_ss, isi_tt, isi_is, isi_si, Bool.not_true, Bool.not_false, i1, hvD]
  try simp only [dSeq]
  try simp only [dIfS, dTest, dOp, dVar, dC, dCB, daCons, daNil, dSet, dRet, dNext, dDrop, dAsg, dPar, dAug, dAddI, dBreak, dCont, dRetN, slot, dLen, dCmpI, dSub, dAdd, dMul, dDiv, dMod, dPow, dNeg, dUn, dIx, dInt1, dAbs, dChain, dAnd, dOr, dNot, dAndV, dOrV, dNotV, dTru, dTruB, dIf, dTup, dLst, mkL, dSlice, dSl, doNone, doSome, dSum, dAll, dAny, dList, dTuple, dMax, dMin, eq_ii, ne_ii, eq_ss, ne_ss, eq_bb, ne_bb, eq_nn, ne_nn, dIsN, dNotN, dFgt, dIsB, dNotB, gN, gT, gsNil, gsCons, gSet, dBM, dAppend, dClear, dFld, dFldS, dProp, dCall, dMeth, dMake, dMakeN, daStar, dDictP, dCallO, dFor, dLc, diR1, diR2, diR3, diL, diT, diRv, diS, diE, dFmt, dFStr, dJs, dCallN, dFrzE, frz_l, in_ss, notin_ss, drR1, drR2, dListR, dRaise, dRaise0, dTryAs, dTry, dXf, dAddO, dInO, isL, insOf, Option.some.injEq, List.cons.injEq, D.int.injEq, D.bl.injEq, D.str.injEq, D.lst.injEq, D.tup.injEq, D.ref.injEq, MO.lst.injEq, MO.ins.injEq, mset_mset, and_true, true_and, and_self, and_assoc, exists_eq_left', exists_eq_left, exists_and_left, exists_and_right, exists_eq', List.set_cons_zero, List.set_cons_succ, decide_eq_true_eq, sqOf, lsOf, List.length_cons, List.length_nil, sizeLine_eq, List.append_nil, List.cons_append, List.nil_append, if_true, if_false, Bool.false_eq_true, reduceCtorEq, reduceIte, Nat.reduceAdd, Nat.reduceLeDiff, mset_same, Option.bind_some, List.length_map, Prod.mk.injEq, at0, at1, at2, at3, at4, at5, at6, at7, ix30, ix31, ix32, ix20, ix21, ix10, isi_ii, isi_ib, isi_ll, isi_bb, isi_ss, isi_tt, isi_is, isi_si, Bool.not_true, Bool.not_false, i2, hvD]
  try simp only [dSeq]
  try simp only [dIfS, dTest, dOp, dVar, dC, dCB, daCons, daNil, dSet, dRet, dNext, dDrop, dAsg, dPar, dAug, dAddI, dBreak, dCont, dRetN, slot, dLen, dCmpI, dSub, dAdd, dMul, dDiv, dMod, dPow, dNeg, dUn, dIx, dInt1, dAbs, dChain, dAnd, dOr, dNot, dAndV, dOrV, dNotV, dTru, dTruB, dIf, dTup, dLst, mkL, dSlice, dSl, doNone, doSome, dSum, dAll, dAny, dList, dTuple, dMax, dMin, eq_ii, ne_ii, eq_ss, ne_ss, eq_bb, ne_bb, eq_nn, ne_nn, dIsN, dNotN, dFgt, dIsB, dNotB, gN, gT, gsNil, gsCons, gSet, dBM, dAppend, dClear, dFld, dFldS, dProp, dCall, dMeth, dMake, dMakeN, daStar, dDictP, dCallO, dFor, dLc, diR1, diR2, diR3, diL, diT, diRv, diS, diE, dFmt, dFStr, dJs, dCallN, dFrzE, frz_l, in_ss, notin_ss, drR1, drR2, dListR, dRaise, dRaise0, dTryAs, dTry, dXf, dAddO, dInO, isL, insOf, Option.some.injEq, List.cons.injEq, D.int.injEq, D.bl.injEq, D.str.injEq, D.lst.injEq, D.tup.injEq, D.ref.injEq, MO.lst.injEq, MO.ins.injEq, mset_mset, and_true, true_and, and_self, and_assoc, exists_eq_left', exists_eq_left, exists_and_left, exists_and_right, exists_eq', List.set_cons_zero, List.set_cons_succ, decide_eq_true_eq, sqOf, lsOf, List.length_cons, List.length_nil, sizeLine_eq, List.append_nil, List.cons_append, List.nil_append, if_true, if_false, Bool.false_eq_true, reduceCtorEq, reduceIte, Nat.reduceAdd, Nat.reduceLeDiff, mset_same, Option.bind_some, List.length_map, Prod.mk.injEq, at0, at1, at2, at3, at4, at5, at6, at7, ix30, ix31, ix32, ix20, ix21, ix10, isi_ii, isi_ib, isi_ll, isi_bb, isi_ss, isi_tt, isi_is, isi_si, Bool.not_true, Bool.not_false, T.cl_Task, T.n_Task_name, T.n_Task_kind_rows, T.n_Task_arrow_rows, taskD, lk_name, lk_kinds, lk_arrows]
  refine ⟨rfl, t, _, j0.k, rfl, rfl, ok, fun _ => ?_, fun h => absurd hz h⟩
  refine lc_filterD (g := folD) (p := fun a : Arr => decide (a.s = j.k)) (f := fun a : Arr => .int a.g) (by rw [sizeLine_eq]; omega) (fun a ha => ⟨_, rfl, fun Q' q' => ?_, fun _ Q' q' => ?_⟩) ?_
  · simp only [wipeD, folD]
    walk_at "zs"
    exact q'
  · simp only [wipeD, folD]
    walk_at "zs"
    exact q'
  rcases gapF_cases t j0.k j.k with ⟨e1, e2⟩ | ⟨a, r, e1, e2⟩
  · rw [e2] at o
    rw [e1]
    walk_at "zn"
    refine eq_nil (n := 1) (by omega) rfl ⟨_, rfl, ?_⟩
    rw [if_pos (by rfl)]
    exact o
  · rw [e2] at o
    have cl := cl_gaps (a :: r)
    rw [e1]
    walk_at "zn"
    refine eq_nil (n := 1) (by omega) cl ⟨_, rfl, ?_⟩
    rw [if_neg (by simp)]
    have a0 : atI ((a :: r).map fun a : Arr => D.int a.g) ((0 : Nat) : Int) = some (.int a.g) := atI_nat rfl
    walk_at "zs"
    refine ⟨_, a0, ?_⟩
    walk_at "zs"
    by_cases c : j.r - j0.r < a.g
    · rw [if_pos c]
      dsimp only at o
      rw [if_pos c] at o
      walk_at "zs"
      exact o
    · rw [if_neg c]
      dsimp only at o
      rw [if_neg c] at o
      exact o
theorem pure_walk_demand {K : Fr0} {mg : Str → Option Value} (T : Txt K mg) (ds : List D) (m : M) (Q : D → M → Prop) (E : XD → M → Prop) (h : sp_walk_demand K ds m Q E) : t_walk_demand K (fun x _ m => E x m) { nx := fun _ m => Q .non m, rt := Q } (startD nm_walk_demand ds) m := by
  obtain ⟨t, x, w, b, rfl, rfl, ok, wl, o⟩ := h
  show t_walk_demand K _ _ [some (taskD K t), some (.lst (w.map hvD)), some (.int b), none, none, none, none, none] m
  unfold t_walk_demand
  walk_at "zn"
  walk_at "zn"
  obtain ⟨P1, hP1⟩ : ∃ P : Nat → DSt → M → Prop, ∀ j r m', P j r m' ↔ (m = m' ∧ (∀ i, i < j → wdF t w i = none) ∧ ∃ o4 o5 o6 o7, r = [some (taskD K t), some (.lst (w.map hvD)), some (.int b), some (.int (dueN t b w j)), o4, o5, o6, o7]) := ⟨_, fun _ _ _ => Iff.rfl⟩
  refine ⟨P1, (hP1 _ _ _).mpr ⟨rfl, fun i h => absurd h (Nat.not_lt_zero _), _, _, _, _, rfl⟩, ?_, ?_⟩
  · intro j d r m' hd hp1
    obtain ⟨rfl, h0, o4, o5, o6, o7, rfl⟩ := (hP1 _ _ _).mp hp1
    obtain ⟨x, hx, rfl⟩ := enumD_at hd
    obtain ⟨y, hy, rfl⟩ := map_at hx
    have hj := len_at hy
    have ey : jAt w j = y := by
      have := jAt_at hj
      rw [hy] at this
      exact (Option.some.inj this).symm
    have FT : ∀ f, wdF t w j = some f → E (f.X K) m := fun f hf => by
      have : wdN t w w.length = some f := fs_some hj h0 hf
      rw [this] at o
      exact o
    have hz0 : 1 ≤ j → (jAt w (j - 1)).k ∈ names t.ks := fun h => by
      have := h0 (j - 1) (by omega)
      unfold wdF at this
      by_cases c : (jAt w (j - 1)).k ∈ names t.ks
      · exact c
      · rw [if_pos c] at this; cases this
    unfold wdF at FT
    rw [ey] at FT
    try simp only [dSeq]
    try simp only [dIfS, dTest, dOp, dVar, dC, dCB, daCons, daNil, dSet, dRet, dNext, dDrop, dAsg, dPar, dAug, dAddI, dBreak, dCont, dRetN, slot, dLen, dCmpI, dSub, dAdd, dMul, dDiv, dMod, dPow, dNeg, dUn, dIx, dInt1, dAbs, dChain, dAnd, dOr, dNot, dAndV, dOrV, dNotV, dTru, dTruB, dIf, dTup, dLst, mkL, dSlice, dSl, doNone, doSome, dSum, dAll, dAny, dList, dTuple, dMax, dMin, eq_ii, ne_ii, eq_ss, ne_ss, eq_bb, ne_bb, eq_nn, ne_nn, dIsN, dNotN, dFgt, dIsB, dNotB, gN, gT, gsNil, gsCons, gSet, dBM, dAppend, dClear, dFld, dFldS, dProp, dCall, dMeth, dMake, dMakeN, daStar, dDictP, dCallO, dFor, dLc, diR1, diR2, diR3, diL, diT, diRv, diS, diE, dFmt, dFStr, dJs, dCallN, dFrzE, frz_l, in_ss, notin_ss, drR1, drR2, dListR, dRaise, dRaise0, dTryAs, dTry, dXf, dAddO, dInO, isL, insOf, Option.some.injEq, List.cons.injEq, D.int.injEq, D.bl.injEq, D.str.injEq, D.lst.injEq, D.tup.injEq, D.ref.injEq, MO.lst.injEq, MO.ins.injEq, mset_mset, and_true, true_and, and_self, and_assoc, exists_eq_left', exists_eq_left, exists_and_left, exists_and_right, exists_eq', List.set_cons_zero, List.set_cons_succ, decide_eq_true_eq, sqOf, lsOf, List.length_cons, List.length_nil, sizeLine_eq, List.append_nil, List.cons_append, List.nil_append, if_true, if_false, Bool.false_eq_true, reduceCtorEq, reduceIte, Nat.reduceAdd, Nat.reduceLeDiff, mset_same, Option.bind_some, List.length_map, Prod.mk.injEq, at0, at1, at2, at3, at4, at5, at6, at7, ix30, ix31, ix32, ix20, ix21, ix10, isi_ii, isi_ib, isi_ll, isi_bb, isi_ss, isi_tt, isi_is, isi_si, Bool.not_true, Bool.not_false, hvD]
    try simp only [dSeq]
    try simp only [dIfS, dTest, dOp, dVar, dC, dCB, daCons, daNil, dSet, dRet, dNext, dDrop, dAsg, dPar, dAug, dAddI, dBreak, dCont, dRetN, slot, dLen, dCmpI, dSub, dAdd, dMul, dDiv, dMod, dPow, dNeg, dUn, dIx, dInt1, dAbs, dChain, dAnd, dOr, dNot, dAndV, dOrV, dNotV, dTru, dTruB, dIf, dTup, dLst, mkL, dSlice, dSl, doNone, doSome, dSum, dAll, dAny, dList, dTuple, dMax, dMin, eq_ii, ne_ii, eq_ss, ne_ss, eq_bb, ne_bb, eq_nn, ne_nn, dIsN, dNotN, dFgt, dIsB, dNotB, gN, gT, gsNil, gsCons, gSet, dBM, dAppend, dClear, dFld, dFldS, dProp, dCall, dMeth, dMake, dMakeN, daStar, dDictP, dCallO, dFor, dLc, diR1, diR2, diR3, diL, diT, diRv, diS, diE, dFmt, dFStr, dJs, dCallN, dFrzE, frz_l, in_ss, notin_ss, drR1, drR2, dListR, dRaise, dRaise0, dTryAs, dTry, dXf, dAddO, dInO, isL, insOf, Option.some.injEq, List.cons.injEq, D.int.injEq, D.bl.injEq, D.str.injEq, D.lst.injEq, D.tup.injEq, D.ref.injEq, MO.lst.injEq, MO.ins.injEq, mset_mset, and_true, true_and, and_self, and_assoc, exists_eq_left', exists_eq_left, exists_and_left, exists_and_right, exists_eq', List.set_cons_zero, List.set_cons_succ, decide_eq_true_eq, sqOf, lsOf, List.length_cons, List.length_nil, sizeLine_eq, List.append_nil, List.cons_append, List.nil_append, if_true, if_false, Bool.false_eq_true, reduceCtorEq, reduceIte, Nat.reduceAdd, Nat.reduceLeDiff, mset_same, Option.bind_some, List.length_map, Prod.mk.injEq, at0, at1, at2, at3, at4, at5, at6, at7, ix30, ix31, ix32, ix20, ix21, ix10, isi_ii, isi_ib, isi_ll, isi_bb, isi_ss, isi_tt, isi_is, isi_si, Bool.not_true, Bool.not_false, T.cl_Task, T.n_Task_name, T.n_Task_kind_rows, T.n_Task_arrow_rows, taskD, lk_name, lk_kinds, lk_arrows]
    refine ⟨rfl, t, _, y.k, rfl, rfl, ok, fun k hk ek => ?_, fun hz => ?_⟩
    · have hz : y.k ∈ names t.ks := by rw [← ek]; exact List.mem_map_of_mem hk
      have eko : kOf t y.k = k := by rw [← ek]; exact kOf_mem ok hk
      rw [if_neg (by simpa using hz)] at FT
      walk_at "zs"
      by_cases c : y.r < 0
      · rw [if_pos c] at FT ⊢
        exact FT _ rfl
      · rw [if_neg c] at FT ⊢
        rw [dSeq]
        generalize hK : dIfS (dTest (dOp dLe (dOp (dAdd false) (dVar 6) _) (dVar 2))) _ _ = kk
        have H : wdF t w j = none → kk { nx := P1 (j + 1), rt := Q, bk := dRet (dVar 3) { nx := fun x m => Q D.non m, rt := Q }, ct := P1 (j + 1) } [some (taskD K t), some (.lst (w.map hvD)), some (.int b), some (.int (dueN t b w j)), some (.int j), some (.str y.k), some (.int y.r), some (.int k.c)] m := by
          intro hn
          subst hK
          have hN : ∀ i, i < j + 1 → wdF t w i = none := fun i hi => by
            by_cases e : i = j
            · subst e; exact hn
            · exact h0 i (by omega)
          try simp only [dSeq]
          try simp only [dIfS, dTest, dOp, dVar, dC, dCB, daCons, daNil, dSet, dRet, dNext, dDrop, dAsg, dPar, dAug, dAddI, dBreak, dCont, dRetN, slot, dLen, dCmpI, dSub, dAdd, dMul, dDiv, dMod, dPow, dNeg, dUn, dIx, dInt1, dAbs, dChain, dAnd, dOr, dNot, dAndV, dOrV, dNotV, dTru, dTruB, dIf, dTup, dLst, mkL, dSlice, dSl, doNone, doSome, dSum, dAll, dAny, dList, dTuple, dMax, dMin, eq_ii, ne_ii, eq_ss, ne_ss, eq_bb, ne_bb, eq_nn, ne_nn, dIsN, dNotN, dFgt, dIsB, dNotB, gN, gT, gsNil, gsCons, gSet, dBM, dAppend, dClear, dFld, dFldS, dProp, dCall, dMeth, dMake, dMakeN, daStar, dDictP, dCallO, dFor, dLc, diR1, diR2, diR3, diL, diT, diRv, diS, diE, dFmt, dFStr, dJs, dCallN, dFrzE, frz_l, in_ss, notin_ss, drR1, drR2, dListR, dRaise, dRaise0, dTryAs, dTry, dXf, dAddO, dInO, isL, insOf, Option.some.injEq, List.cons.injEq, D.int.injEq, D.bl.injEq, D.str.injEq, D.lst.injEq, D.tup.injEq, D.ref.injEq, MO.lst.injEq, MO.ins.injEq, mset_mset, and_true, true_and, and_self, and_assoc, exists_eq_left', exists_eq_left, exists_and_left, exists_and_right, exists_eq', List.set_cons_zero, List.set_cons_succ, decide_eq_true_eq, sqOf, lsOf, List.length_cons, List.length_nil, sizeLine_eq, List.append_nil, List.cons_append, List.nil_append, if_true, if_false, Bool.false_eq_true, reduceCtorEq, reduceIte, Nat.reduceAdd, Nat.reduceLeDiff, mset_same, Option.bind_some, List.length_map, Prod.mk.injEq, at0, at1, at2, at3, at4, at5, at6, at7, ix30, ix31, ix32, ix20, ix21, ix10, isi_ii, isi_ib, isi_ll, isi_bb, isi_ss, isi_tt, isi_is, isi_si, Bool.not_true, Bool.not_false, T.cl_Task, T.n_Task_name, T.n_Task_kind_rows, T.n_Task_arrow_rows, taskD, lk_name, lk_kinds, lk_arrows]
          refine ⟨rfl, t, _, y.k, rfl, rfl, ok, fun k2 hk2 ek2 => ?_, fun h => absurd hz h⟩
          have e2 : k2 = k := by rw [← eko, ← ek2]; exact (kOf_mem ok hk2).symm
          subst e2
          walk_at "zs"
          have ed : dueP t b w j = if y.r + k2.d ≤ b then k2.c else 0 := by
            unfold dueP
            rw [ey, eko]
          by_cases c2 : y.r + k2.d ≤ b
          · rw [if_pos c2] at ed ⊢
            walk_at "zs"
            exact (hP1 _ _ _).mpr ⟨rfl, hN, _, _, _, _, by rw [dueN_succ, ed]; rfl⟩
          · rw [if_neg c2] at ed ⊢
            exact (hP1 _ _ _).mpr ⟨rfl, hN, _, _, _, _, by rw [dueN_succ, ed, Int.add_zero]; rfl⟩
        walk_at "zn"
        by_cases j0 : 0 < (j : Int)
        · rw [if_pos j0]
          rw [if_neg (by omega)] at FT
          walk_at "zs"
          refine ⟨t, _, w, j, rfl, rfl, ok, by omega, hj, hz0 (by omega), ?_⟩
          cases hs : stF t w j with
          | some f => exact FT f hs
          | none =>
            refine H ?_
            unfold wdF
            rw [ey, if_neg (by simpa using hz), if_neg c, if_neg (by omega)]
            exact hs
        · rw [if_neg j0]
          refine H ?_
          unfold wdF
          rw [ey, if_neg (by simpa using hz), if_neg c, if_pos (by omega)]
    · rw [if_pos hz] at FT
      exact FT _ rfl
  · intro r m' hp1
    obtain ⟨rfl, h0, o4, o5, o6, o7, rfl⟩ := (hP1 _ _ _).mp hp1
    rw [enumD_len, List.length_map] at h0 ⊢
    have : wdN t w w.length = none := fs_none h0
    rw [this] at o
    walk_at "zs"
    exact o
theorem pure_law_whole {K : Fr0} {mg : Str → Option Value} (T : Txt K mg) (ds : List D) (m : M) (Q : D → M → Prop) (E : XD → M → Prop) (h : sp_law_whole K ds m Q E) : t_law_whole K (fun x _ m => E x m) { nx := fun _ m => Q .non m, rt := Q } (startD nm_law_whole ds) m := by
  obtain ⟨v, rfl, q⟩ := h
  show t_law_whole K _ _ [some (.int v)] m
  unfold t_law_whole
  walk_at "zs"
  exact q
theorem pure_law_gap {K : Fr0} {mg : Str → Option Value} (T : Txt K mg) (ds : List D) (m : M) (Q : D → M → Prop) (E : XD → M → Prop) (h : sp_law_gap K ds m Q E) : t_law_gap K (fun x _ m => E x m) { nx := fun _ m => Q .non m, rt := Q } (startD nm_law_gap ds) m := by
  obtain ⟨t, z, y, rfl, ok, q⟩ := h
  have a12 := ok.a12
  show t_law_gap K _ _ [some (specD t), some (.str z), some (.str y), none] m
  unfold t_law_gap
  simp only [specD]
  walk_at "zn"
  refine lc_filterD (g := Arr.D) (p := fun a : Arr => decide (a.f = z) && decide (a.s = y)) (f := fun a : Arr => .int a.g) (by rw [sizeLine_eq]; omega) (fun a ha => ⟨_, rfl, fun Q' q' => ?_, fun _ Q' q' => ?_⟩) ?_
  · simp only [wipeD, Arr.D]
    walk_at "zs"
    by_cases h1 : a.f = z
    · rw [if_pos h1]
      rw [decide_eq_true h1] at q'
      exact q'
    · rw [if_neg h1]
      rw [decide_eq_false h1] at q'
      exact q'
  · simp only [wipeD, Arr.D]
    walk_at "zs"
    exact q'
  rw [il, List.map_map] at q
  exact q
theorem gap_row {t : Tsk} {z y : Str} : (t.as.filter fun a => decide (a.f = z) && decide (a.s = y)) = (foll t z).filter fun a => decide (a.s = y) := by
  unfold foll
  rw [List.filter_filter]
  refine List.filter_congr fun a _ => ?_
  rw [Bool.and_comm]
theorem kOf_at0 {t : Tsk} (ok : t.Ok) (z : Str) : (z ∉ names t.ks ∧ (t.ks.filter fun k => decide (k.n = z)) = []) ∨ ∃ k r, (t.ks.filter fun k => decide (k.n = z)) = k :: r ∧ k ∈ t.ks ∧ k.n = z ∧ kOf t z = k := by
  cases e : t.ks.filter fun k => decide (k.n = z) with
  | nil =>
    refine .inl ⟨fun h => ?_, rfl⟩
    obtain ⟨k, hk, ek⟩ := known h
    have := List.filter_eq_nil_iff.mp e k hk
    simp [ek] at this
  | cons k r =>
    have hk : k ∈ t.ks.filter fun k => decide (k.n = z) := by rw [e]; exact List.mem_cons_self
    obtain ⟨h1, h2⟩ := List.mem_filter.mp hk
    have h2 := of_decide_eq_true h2
    exact .inr ⟨k, r, rfl, h1, h2, by rw [← h2]; exact kOf_mem ok h1⟩
theorem clR_kns {t : Tsk} (ok : t.Ok) {l : List Knd} (h : ∀ k ∈ l, k ∈ t.ks) : clR 2 (.lst (l.map Knd.D)) = true := by
  show ((l.map Knd.D).all (clR 1)) = true
  rw [List.all_map, List.all_eq_true]
  intro k hk
  have hn := nm_ok (ok.ks.nm k (h k hk))
  show ([D.str k.n, D.int k.c, D.int k.d].all (clR 0)) = true
  simp [clR, hn]
theorem pure_law_due {K : Fr0} {mg : Str → Option Value} (T : Txt K mg) (ds : List D) (m : M) (Q : D → M → Prop) (E : XD → M → Prop) (h : sp_law_due K ds m Q E) : t_law_due K (fun x _ m => E x m) { nx := fun _ m => Q .non m, rt := Q } (startD nm_law_due ds) m := by
  obtain ⟨t, x, w, b, rfl, ⟨p, rfl, hp⟩, ok, wl, q⟩ := h
  have k4 := ok.k4
  show t_law_due K _ _ [some (specD t), some (.ref p), some (.int b), none, none, none, none, none, none, none] m
  unfold t_law_due
  walk_at "zn"
  walk_at "zn"
  refine ⟨_, lsOf_ref hp, ?_⟩
  rw [List.length_map]
  refine ⟨by omega, by omega, ?_⟩
  obtain ⟨P1, hP1⟩ : ∃ P : Nat → DSt → M → Prop, ∀ j r m', P j r m' ↔ (m = m' ∧ (∀ i, i < j → wdF t w i = none) ∧ ∃ o4 o5 o6 o7 o9, r = [some (specD t), some (.ref p), some (.int b), some (.int (dueN t b w j)), o4, o5, o6, o7, none, o9]) := ⟨_, fun _ _ _ => Iff.rfl⟩
  refine ⟨P1, (hP1 _ _ _).mpr ⟨rfl, fun i h => absurd h (Nat.not_lt_zero _), _, _, _, _, _, rfl⟩, ?_, ?_⟩
  · intro j d r m' hd hp1
    obtain ⟨rfl, h0, o4, o5, o6, o7, o9, rfl⟩ := (hP1 _ _ _).mp hp1
    obtain ⟨rfl, hj⟩ := rngD_at hd
    have hj : j < w.length := by simpa using hj
    have FT : ∀ f, wdF t w j = some f → Q f.D m := fun f hf => by
      have : wdN t w w.length = some f := fs_some hj h0 hf
      unfold duD at q
      rw [this] at q
      exact q
    rw [Int.zero_add]
    have i1 := hv_I hj
    have i2 := fun h => hv_J hj h
    unfold wdF stF at FT
    obtain ⟨y, ey⟩ : ∃ y, jAt w j = y := ⟨_, rfl⟩
    obtain ⟨y0, ey0⟩ : ∃ y0, jAt w (j - 1) = y0 := ⟨_, rfl⟩
    rw [ey] at i1 FT
    rw [ey0] at i2 FT
    try simp only [dSeq]
    try simp only [dIfS, dTest, dOp, dVar, dC, dCB, daCons, daNil, dSet, dRet, dNext, dDrop, dAsg, dPar, dAug, dAddI, dBreak, dCont, dRetN, slot, dLen, dCmpI, dSub, dAdd, dMul, dDiv, dMod, dPow, dNeg, dUn, dIx, dInt1, dAbs, dChain, dAnd, dOr, dNot, dAndV, dOrV, dNotV, dTru, dTruB, dIf, dTup, dLst, mkL, dSlice, dSl, doNone, doSome, dSum, dAll, dAny, dList, dTuple, dMax, dMin, eq_ii, ne_ii, eq_ss, ne_ss, eq_bb, ne_bb, eq_nn, ne_nn, dIsN, dNotN, dFgt, dIsB, dNotB, gN, gT, gsNil, gsCons, gSet, dBM, dAppend, dClear, dFld, dFldS, dProp, dCall, dMeth, dMake, dMakeN, daStar, dDictP, dCallO, dFor, dLc, diR1, diR2, diR3, diL, diT, diRv, diS, diE, dFmt, dFStr, dJs, dCallN, dFrzE, frz_l, in_ss, notin_ss, drR1, drR2, dListR, dRaise, dRaise0, dTryAs, dTry, dXf, dAddO, dInO, isL, insOf, Option.some.injEq, List.cons.injEq, D.int.injEq, D.bl.injEq, D.str.injEq, D.lst.injEq, D.tup.injEq, D.ref.injEq, MO.lst.injEq, MO.ins.injEq, mset_mset, and_true, true_and, and_self, and_assoc, exists_eq_left', exists_eq_left, exists_and_left, exists_and_right, exists_eq', List.set_cons_zero, List.set_cons_succ, decide_eq_true_eq, sqOf, lsOf, List.length_cons, List.length_nil, sizeLine_eq, List.append_nil, List.cons_append, List.nil_append, if_true, if_false, Bool.false_eq_true, reduceCtorEq, reduceIte, Nat.reduceAdd, Nat.reduceLeDiff, mset_same, Option.bind_some, List.length_map, Prod.mk.injEq, at0, at1, at2, at3, at4, at5, at6, at7, ix30, ix31, ix32, ix20, ix21, ix10, isi_ii, isi_ib, isi_ll, isi_bb, isi_ss, isi_tt, isi_is, isi_si, Bool.not_true, Bool.not_false, hp, i1, hvD]
    try simp only [dSeq]
    try simp only [dIfS, dTest, dOp, dVar, dC, dCB, daCons, daNil, dSet, dRet, dNext, dDrop, dAsg, dPar, dAug, dAddI, dBreak, dCont, dRetN, slot, dLen, dCmpI, dSub, dAdd, dMul, dDiv, dMod, dPow, dNeg, dUn, dIx, dInt1, dAbs, dChain, dAnd, dOr, dNot, dAndV, dOrV, dNotV, dTru, dTruB, dIf, dTup, dLst, mkL, dSlice, dSl, doNone, doSome, dSum, dAll, dAny, dList, dTuple, dMax, dMin, eq_ii, ne_ii, eq_ss, ne_ss, eq_bb, ne_bb, eq_nn, ne_nn, dIsN, dNotN, dFgt, dIsB, dNotB, gN, gT, gsNil, gsCons, gSet, dBM, dAppend, dClear, dFld, dFldS, dProp, dCall, dMeth, dMake, dMakeN, daStar, dDictP, dCallO, dFor, dLc, diR1, diR2, diR3, diL, diT, diRv, diS, diE, dFmt, dFStr, dJs, dCallN, dFrzE, frz_l, in_ss, notin_ss, drR1, drR2, dListR, dRaise, dRaise0, dTryAs, dTry, dXf, dAddO, dInO, isL, insOf, Option.some.injEq, List.cons.injEq, D.int.injEq, D.bl.injEq, D.str.injEq, D.lst.injEq, D.tup.injEq, D.ref.injEq, MO.lst.injEq, MO.ins.injEq, mset_mset, and_true, true_and, and_self, and_assoc, exists_eq_left', exists_eq_left, exists_and_left, exists_and_right, exists_eq', List.set_cons_zero, List.set_cons_succ, decide_eq_true_eq, sqOf, lsOf, List.length_cons, List.length_nil, sizeLine_eq, List.append_nil, List.cons_append, List.nil_append, if_true, if_false, Bool.false_eq_true, reduceCtorEq, reduceIte, Nat.reduceAdd, Nat.reduceLeDiff, mset_same, Option.bind_some, List.length_map, Prod.mk.injEq, at0, at1, at2, at3, at4, at5, at6, at7, ix30, ix31, ix32, ix20, ix21, ix10, isi_ii, isi_ib, isi_ll, isi_bb, isi_ss, isi_tt, isi_is, isi_si, Bool.not_true, Bool.not_false, hp, i1, hvD]
    try simp only [dSeq]
    try simp only [dIfS, dTest, dOp, dVar, dC, dCB, daCons, daNil, dSet, dRet, dNext, dDrop, dAsg, dPar, dAug, dAddI, dBreak, dCont, dRetN, slot, dLen, dCmpI, dSub, dAdd, dMul, dDiv, dMod, dPow, dNeg, dUn, dIx, dInt1, dAbs, dChain, dAnd, dOr, dNot, dAndV, dOrV, dNotV, dTru, dTruB, dIf, dTup, dLst, mkL, dSlice, dSl, doNone, doSome, dSum, dAll, dAny, dList, dTuple, dMax, dMin, eq_ii, ne_ii, eq_ss, ne_ss, eq_bb, ne_bb, eq_nn, ne_nn, dIsN, dNotN, dFgt, dIsB, dNotB, gN, gT, gsNil, gsCons, gSet, dBM, dAppend, dClear, dFld, dFldS, dProp, dCall, dMeth, dMake, dMakeN, daStar, dDictP, dCallO, dFor, dLc, diR1, diR2, diR3, diL, diT, diRv, diS, diE, dFmt, dFStr, dJs, dCallN, dFrzE, frz_l, in_ss, notin_ss, drR1, drR2, dListR, dRaise, dRaise0, dTryAs, dTry, dXf, dAddO, dInO, isL, insOf, Option.some.injEq, List.cons.injEq, D.int.injEq, D.bl.injEq, D.str.injEq, D.lst.injEq, D.tup.injEq, D.ref.injEq, MO.lst.injEq, MO.ins.injEq, mset_mset, and_true, true_and, and_self, and_assoc, exists_eq_left', exists_eq_left, exists_and_left, exists_and_right, exists_eq', List.set_cons_zero, List.set_cons_succ, decide_eq_true_eq, sqOf, lsOf, List.length_cons, List.length_nil, sizeLine_eq, List.append_nil, List.cons_append, List.nil_append, if_true, if_false, Bool.false_eq_true, reduceCtorEq, reduceIte, Nat.reduceAdd, Nat.reduceLeDiff, mset_same, Option.bind_some, List.length_map, Prod.mk.injEq, at0, at1, at2, at3, at4, at5, at6, at7, ix30, ix31, ix32, ix20, ix21, ix10, isi_ii, isi_ib, isi_ll, isi_bb, isi_ss, isi_tt, isi_is, isi_si, Bool.not_true, Bool.not_false, specD]
    refine lc_filterD (g := Knd.D) (p := fun k : Knd => decide (k.n = y.k)) (f := Knd.D) (by rw [sizeLine_eq]; omega) (fun k hk => ⟨_, rfl, fun Q' q' => ?_, fun _ Q' q' => ?_⟩) ?_
    · simp only [wipeD, Knd.D]
      walk_at "zs"
      exact q'
    · simp only [wipeD, Knd.D]
      walk_at "zs"
      exact q'
    rcases kOf_at0 ok y.k with ⟨hz, e⟩ | ⟨k, rr, e, hk, ek, eko⟩
    · rw [e]
      rw [if_pos hz] at FT
      walk_at "zn"
      refine eq_nil (n := 1) (by omega) rfl ⟨_, rfl, ?_⟩
      rw [if_pos (by rfl)]
      exact FT _ rfl
    · have hz : y.k ∈ names t.ks := by rw [← ek]; exact List.mem_map_of_mem hk
      have cl := clR_kns ok (l := k :: rr) (fun x hx => (List.mem_filter.mp (by rw [e]; exact hx)).1)
      have kb := kn_b ok hk
      rw [if_neg (by simpa using hz)] at FT
      rw [e]
      have a0 : atI ((k :: rr).map Knd.D) 0 = some k.D := by
        have h : atI ((k :: rr).map Knd.D) ((0 : Nat) : Int) = some k.D := atI_nat rfl
        exact h
      walk_at "zn"
      refine eq_nil (n := 2) (by omega) cl ⟨_, rfl, ?_⟩
      rw [if_neg (by simp)]
      walk_at "zn"
      by_cases c : y.r < 0
      · rw [if_pos c] at FT ⊢
        exact FT _ rfl
      · rw [if_neg c] at FT ⊢
        rw [dSeq]
        generalize hK : dSet 3 _ = kk
        have H : wdF t w j = none → ∀ o9, kk { nx := P1 (j + 1), rt := Q, bk := dRet (dTup (daCons (dC (D.str (Str.ofString "sum"))) (daCons (dVar 3) daNil))) { nx := fun x m => Q D.non m, rt := Q }, ct := P1 (j + 1) } [some (specD t), some (.ref p), some (.int b), some (.int (dueN t b w j)), some (.int j), some (.str y.k), some (.int y.r), some (.lst ((k :: rr).map Knd.D)), none, o9] m := by
          intro hn o9
          subst hK
          have hN : ∀ i, i < j + 1 → wdF t w i = none := fun i hi => by
            by_cases e : i = j
            · subst e; exact hn
            · exact h0 i (by omega)
          try simp only [dSeq]
          try simp only [dIfS, dTest, dOp, dVar, dC, dCB, daCons, daNil, dSet, dRet, dNext, dDrop, dAsg, dPar, dAug, dAddI, dBreak, dCont, dRetN, slot, dLen, dCmpI, dSub, dAdd, dMul, dDiv, dMod, dPow, dNeg, dUn, dIx, dInt1, dAbs, dChain, dAnd, dOr, dNot, dAndV, dOrV, dNotV, dTru, dTruB, dIf, dTup, dLst, mkL, dSlice, dSl, doNone, doSome, dSum, dAll, dAny, dList, dTuple, dMax, dMin, eq_ii, ne_ii, eq_ss, ne_ss, eq_bb, ne_bb, eq_nn, ne_nn, dIsN, dNotN, dFgt, dIsB, dNotB, gN, gT, gsNil, gsCons, gSet, dBM, dAppend, dClear, dFld, dFldS, dProp, dCall, dMeth, dMake, dMakeN, daStar, dDictP, dCallO, dFor, dLc, diR1, diR2, diR3, diL, diT, diRv, diS, diE, dFmt, dFStr, dJs, dCallN, dFrzE, frz_l, in_ss, notin_ss, drR1, drR2, dListR, dRaise, dRaise0, dTryAs, dTry, dXf, dAddO, dInO, isL, insOf, Option.some.injEq, List.cons.injEq, D.int.injEq, D.bl.injEq, D.str.injEq, D.lst.injEq, D.tup.injEq, D.ref.injEq, MO.lst.injEq, MO.ins.injEq, mset_mset, and_true, true_and, and_self, and_assoc, exists_eq_left', exists_eq_left, exists_and_left, exists_and_right, exists_eq', List.set_cons_zero, List.set_cons_succ, decide_eq_true_eq, sqOf, lsOf, List.length_cons, List.length_nil, sizeLine_eq, List.append_nil, List.cons_append, List.nil_append, if_true, if_false, Bool.false_eq_true, reduceCtorEq, reduceIte, Nat.reduceAdd, Nat.reduceLeDiff, mset_same, Option.bind_some, List.length_map, Prod.mk.injEq, at0, at1, at2, at3, at4, at5, at6, at7, ix30, ix31, ix32, ix20, ix21, ix10, isi_ii, isi_ib, isi_ll, isi_bb, isi_ss, isi_tt, isi_is, isi_si, Bool.not_true, Bool.not_false, a0, Knd.D]
          have ed : dueP t b w j = if y.r + k.d ≤ b then k.c else 0 := by
            unfold dueP
            rw [ey, eko]
          refine ⟨mul_smallL (by omega), ?_⟩
          by_cases c2 : y.r + k.d ≤ b
          · rw [if_pos c2] at ed
            rw [if_pos c2, Int.mul_one]
            exact (hP1 _ _ _).mpr ⟨rfl, hN, _, _, _, _, _, by rw [dueN_succ, ed]⟩
          · rw [if_neg c2] at ed
            rw [if_neg c2, Int.mul_zero]
            exact (hP1 _ _ _).mpr ⟨rfl, hN, _, _, _, _, _, by rw [dueN_succ, ed]⟩
        walk_at "zn"
        by_cases j0 : 0 < (j : Int)
        · rw [if_pos j0]
          rw [if_neg (by omega)] at FT
          have i3 := i2 (by omega)
          try simp only [dSeq]
          try simp only [dIfS, dTest, dOp, dVar, dC, dCB, daCons, daNil, dSet, dRet, dNext, dDrop, dAsg, dPar, dAug, dAddI, dBreak, dCont, dRetN, slot, dLen, dCmpI, dSub, dAdd, dMul, dDiv, dMod, dPow, dNeg, dUn, dIx, dInt1, dAbs, dChain, dAnd, dOr, dNot, dAndV, dOrV, dNotV, dTru, dTruB, dIf, dTup, dLst, mkL, dSlice, dSl, doNone, doSome, dSum, dAll, dAny, dList, dTuple, dMax, dMin, eq_ii, ne_ii, eq_ss, ne_ss, eq_bb, ne_bb, eq_nn, ne_nn, dIsN, dNotN, dFgt, dIsB, dNotB, gN, gT, gsNil, gsCons, gSet, dBM, dAppend, dClear, dFld, dFldS, dProp, dCall, dMeth, dMake, dMakeN, daStar, dDictP, dCallO, dFor, dLc, diR1, diR2, diR3, diL, diT, diRv, diS, diE, dFmt, dFStr, dJs, dCallN, dFrzE, frz_l, in_ss, notin_ss, drR1, drR2, dListR, dRaise, dRaise0, dTryAs, dTry, dXf, dAddO, dInO, isL, insOf, Option.some.injEq, List.cons.injEq, D.int.injEq, D.bl.injEq, D.str.injEq, D.lst.injEq, D.tup.injEq, D.ref.injEq, MO.lst.injEq, MO.ins.injEq, mset_mset, and_true, true_and, and_self, and_assoc, exists_eq_left', exists_eq_left, exists_and_left, exists_and_right, exists_eq', List.set_cons_zero, List.set_cons_succ, decide_eq_true_eq, sqOf, lsOf, List.length_cons, List.length_nil, sizeLine_eq, List.append_nil, List.cons_append, List.nil_append, if_true, if_false, Bool.false_eq_true, reduceCtorEq, reduceIte, Nat.reduceAdd, Nat.reduceLeDiff, mset_same, Option.bind_some, List.length_map, Prod.mk.injEq, at0, at1, at2, at3, at4, at5, at6, at7, ix30, ix31, ix32, ix20, ix21, ix10, isi_ii, isi_ib, isi_ll, isi_bb, isi_ss, isi_tt, isi_is, isi_si, Bool.not_true, Bool.not_false, hp, i3, hvD]
          refine ⟨t, y0.k, y.k, rfl, ok, ?_⟩
          rw [gap_row]
          rcases gapF_cases t y0.k y.k with ⟨e1, e2⟩ | ⟨a, r2, e1, e2⟩
          · rw [e1]
            rw [e2] at FT
            walk_at "zn"
            refine eq_nil (n := 1) (by omega) rfl ⟨_, rfl, ?_⟩
            rw [if_pos (by rfl)]
            exact FT _ rfl
          · rw [e1]
            rw [e2] at FT
            dsimp only at FT
            have a1 : atI (((a :: r2).map Arr.g).map D.int) 0 = some (.int a.g) := by
              have h : atI (((a :: r2).map Arr.g).map D.int) ((0 : Nat) : Int) = some (.int a.g) := atI_nat rfl
              exact h
            have cl2 : clR 1 (il ((a :: r2).map Arr.g)) = true := by
              show ((((a :: r2).map Arr.g).map D.int).all (clR 0)) = true
              rw [List.all_map, List.all_eq_true]
              intro k _
              rfl
            walk_at "zn"
            refine eq_nil (n := 1) (by omega) cl2 ⟨_, rfl, ?_⟩
            rw [if_neg (by simp)]
            try simp only [dSeq]
            try simp only [dIfS, dTest, dOp, dVar, dC, dCB, daCons, daNil, dSet, dRet, dNext, dDrop, dAsg, dPar, dAug, dAddI, dBreak, dCont, dRetN, slot, dLen, dCmpI, dSub, dAdd, dMul, dDiv, dMod, dPow, dNeg, dUn, dIx, dInt1, dAbs, dChain, dAnd, dOr, dNot, dAndV, dOrV, dNotV, dTru, dTruB, dIf, dTup, dLst, mkL, dSlice, dSl, doNone, doSome, dSum, dAll, dAny, dList, dTuple, dMax, dMin, eq_ii, ne_ii, eq_ss, ne_ss, eq_bb, ne_bb, eq_nn, ne_nn, dIsN, dNotN, dFgt, dIsB, dNotB, gN, gT, gsNil, gsCons, gSet, dBM, dAppend, dClear, dFld, dFldS, dProp, dCall, dMeth, dMake, dMakeN, daStar, dDictP, dCallO, dFor, dLc, diR1, diR2, diR3, diL, diT, diRv, diS, diE, dFmt, dFStr, dJs, dCallN, dFrzE, frz_l, in_ss, notin_ss, drR1, drR2, dListR, dRaise, dRaise0, dTryAs, dTry, dXf, dAddO, dInO, isL, insOf, Option.some.injEq, List.cons.injEq, D.int.injEq, D.bl.injEq, D.str.injEq, D.lst.injEq, D.tup.injEq, D.ref.injEq, MO.lst.injEq, MO.ins.injEq, mset_mset, and_true, true_and, and_self, and_assoc, exists_eq_left', exists_eq_left, exists_and_left, exists_and_right, exists_eq', List.set_cons_zero, List.set_cons_succ, decide_eq_true_eq, sqOf, lsOf, List.length_cons, List.length_nil, sizeLine_eq, List.append_nil, List.cons_append, List.nil_append, if_true, if_false, Bool.false_eq_true, reduceCtorEq, reduceIte, Nat.reduceAdd, Nat.reduceLeDiff, mset_same, Option.bind_some, List.length_map, Prod.mk.injEq, at0, at1, at2, at3, at4, at5, at6, at7, ix30, ix31, ix32, ix20, ix21, ix10, isi_ii, isi_ib, isi_ll, isi_bb, isi_ss, isi_tt, isi_is, isi_si, Bool.not_true, Bool.not_false, hp, i3, hvD, a1]
            by_cases c3 : y.r - y0.r < a.g
            · rw [if_pos c3] at FT ⊢
              exact FT _ rfl
            · rw [if_neg c3]
              refine H ?_ _
              unfold wdF stF
              rw [ey, ey0, e2, if_neg (by simpa using hz), if_neg c, if_neg (by omega)]
              dsimp only
              rw [if_neg c3]
        · rw [if_neg j0]
          refine H ?_ _
          unfold wdF
          rw [ey, if_neg (by simpa using hz), if_neg c, if_pos (by omega)]
  · intro r m' hp1
    obtain ⟨rfl, h0, o4, o5, o6, o7, o9, rfl⟩ := (hP1 _ _ _).mp hp1
    have e : wdN t w w.length = none := fs_none (by rw [rngD_len] at h0; simpa using h0)
    rw [rngD_len, Int.toNat_natCast]
    unfold duD at q
    rw [e] at q
    walk_at "zs"
    exact q
theorem pure_law_is_walk {K : Fr0} {mg : Str → Option Value} (T : Txt K mg) (ds : List D) (m : M) (Q : D → M → Prop) (E : XD → M → Prop) (h : sp_law_is_walk K ds m Q E) : t_law_is_walk K (fun x _ m => E x m) { nx := fun _ m => Q .non m, rt := Q } (startD nm_law_is_walk ds) m := by
  obtain ⟨x, w, rfl, ⟨p, rfl, hp⟩, wl, q⟩ := h
  show t_law_is_walk K _ _ [some (.ref p), none] m
  unfold t_law_is_walk
  walk_at "zn"
  refine (isi_ty (S := "list") (by dsimp only [tyName]; rw [hp]; rfl) rfl).mpr ?_
  walk_at "zs"
  refine forM_lst (xs := w.map hvD) (a := p) (fun Q' q' => ?_) (fun i r m' => m' = m ∧ ∃ o1, r = [some (.ref p), o1]) ⟨rfl, _, rfl⟩ (fun i r m' h => by rw [h.1]; exact hp) (fun i d r m' hd ⟨h1, o1, h2⟩ => ?_) (fun r m' ⟨h1, o1, h2⟩ => ?_)
  · walk_at "zs"
    exact q'
  · subst h1 h2
    obtain ⟨y, hy, rfl⟩ := map_at hd
    simp only [hvD]
    walk_at "zn"
    refine ⟨_, rfl, true, rfl, ?_⟩
    rw [if_neg (by decide)]
  · subst h1 h2
    walk_at "zs"
    exact q
structure HvO (t : Tsk) (n : Nat) (w : List Job) : Prop where
  non : wdN t w w.length = none
  due : dueN t n w w.length = tdem t n
  emp : w.isEmpty = decide (tdem t n = 0)
  o : 0 < w.length → (jAt w 0).r = 0
theorem wd_none {t : Tsk} (ok : t.Ok) {w : List Job} (h : WkOk t 1 w) : wdN t w w.length = none := fs_none fun p hp => by
  obtain ⟨⟨k, hk, ek, c1, c2⟩, r0, lk⟩ := h p hp
  unfold wdF
  rw [if_neg (by rw [← ek]; simpa using List.mem_map_of_mem hk), if_neg (by omega)]
  by_cases h0 : p = 0
  · rw [if_pos h0]
  · rw [if_neg h0]
    obtain ⟨a, ha, e1, e2, e3⟩ := lk (by omega)
    unfold stF
    rw [← e1, ← e2, gapF_is ok ha]
    show (if _ then _ else none) = none
    rw [if_neg (by omega)]
theorem dueN_W {t : Tsk} (ok : t.Ok) {w : List Job} (h : HvJ t w) (b : Int) : ∀ n, n ≤ w.length → dueN t b w n = dueW t 1 b (w.take n)
  | 0, _ => by simp [dueN, dueW]
  | n + 1, hn => by
    rw [dueN_succ, dueN_W ok h b n (by omega), take_succ' (jAt_at (show n < w.length by omega)), dueW_app]
    unfold dueP
    obtain ⟨k, hk, e, c⟩ := h.z n (by omega)
    rw [Int.mul_one, c, ← e, kOf_mem ok hk]
theorem HvW.ofO {t : Tsk} (ok : t.Ok) {n : Nat} {w : List Job} (h : HvW t n w) : HvO t n w := by
  have hj := h.jobs ok
  refine ⟨wd_none ok (hj.wk ok), by rw [dueN_W ok hj n _ (Nat.le_refl _), List.take_length]; exact h.due ok, ?_, hj.o⟩
  have hd := h.due ok
  rcases h with ⟨rfl, _⟩ | ⟨z, l, h, he⟩
  · have : tdem t n = 0 := by rw [← hd]; rfl
    rw [this]
    rfl
  · have ht : ∃ z0 ∈ names t.ks, (∀ y ∈ names t.ks, dem t n y ≤ dem t n z0) ∧ 0 < dem t n z0 ∧ w ≠ [] := by
      clear hd hj he
      induction h with
      | one z hz hb hp => exact ⟨z, hz, hb, hp, by simp⟩
      | step w z l a l' h _ _ _ _ ih =>
        obtain ⟨z0, a1, a2, a3, _⟩ := ih
        exact ⟨z0, a1, a2, a3, by simp⟩
    obtain ⟨z0, a1, a2, a3, a4⟩ := ht
    have := tdem_top ok a1 a2
    rw [decide_eq_false (by omega)]
    cases w with
    | nil => exact absurd rfl a4
    | cons x w => rfl
theorem cl_sum (v : Int) : clR 2 (.tup [.str "sum", .int v]) = true := by
  have h : clR 1 (.str "sum") = true := by decide +kernel
  show ([D.str "sum", .int v].all (clR 1)) = true
  rw [List.all_cons, h]
  rfl
theorem pure_law_is_heavy {K : Fr0} {mg : Str → Option Value} (T : Txt K mg) (ds : List D) (m : M) (Q : D → M → Prop) (E : XD → M → Prop) (h : sp_law_is_heavy K ds m Q E) : t_law_is_heavy K (fun x _ m => E x m) { nx := fun _ m => Q .non m, rt := Q } (startD nm_law_is_heavy ds) m := by
  obtain ⟨t, x, w, n, rfl, ⟨p, rfl, hp⟩, ok, hv, hn, q⟩ := h
  have wl := hv.len ok
  have ho := hv.ofO ok
  show t_law_is_heavy K _ _ [some (.ref p), some (specD t), some (.int (tdem t n)), some (.int n)] m
  unfold t_law_is_heavy
  walk_at "zn"
  refine ⟨_, w, rfl, ⟨p, rfl, hp⟩, by omega, true, rfl, ?_⟩
  rw [if_neg (by decide)]
  walk_at "zn"
  refine ⟨_, lsOf_ref hp, ?_⟩
  rw [List.length_map, if_neg (by omega)]
  have em : (w.map hvD).isEmpty = decide (tdem t n = 0) := by rw [List.isEmpty_map]; exact ho.emp
  refine ⟨_, lsOf_ref hp, rfl, ?_⟩
  rw [em]
  refine dNe_refl (n := 1) (by omega) rfl ⟨false, rfl, ?_⟩
  rw [if_neg (by decide)]
  refine ⟨_, lsOf_ref hp, rfl, _, rfl, ?_⟩
  have DU : ∀ Q' : D → M → Prop, Q' (.tup [.str "sum", .int (tdem t n)]) m → sp_law_due K [specD t, .ref p, .int n] m Q' E := fun Q' q' => by
    refine ⟨t, _, w, n, rfl, ⟨p, rfl, hp⟩, ok, by omega, ?_⟩
    unfold duD
    rw [ho.non, ho.due]
    exact q'
  by_cases hw : 0 < w.length
  · rw [if_pos (by cases w with | nil => simp at hw | cons x w => rfl)]
    have i0 : atI (w.map hvD) 0 = some (hvD (jAt w 0)) := by
      have := hv_I hw
      exact this
    refine ⟨_, lsOf_ref hp, _, i0, ?_⟩
    simp only [hvD]
    rw [ho.o hw]
    refine ⟨_, rfl, .int 0, rfl, dNe_refl (n := 1) (by omega) rfl ⟨false, rfl, ?_⟩⟩
    rw [if_neg (by decide)]
    exact DU _ (dEq_refl (n := 2) (by omega) (cl_sum _) q)
  · rw [if_neg (by cases w with | nil => simp | cons x w => simp at hw)]
    walk_at "zs"
    refine DU _ ?_
    refine dEq_refl (n := 2) (by omega) (cl_sum _) ?_
    exact q
theorem pure_law_told {K : Fr0} {mg : Str → Option Value} (T : Txt K mg) (ds : List D) (m : M) (Q : D → M → Prop) (E : XD → M → Prop) (h : sp_law_told K ds m Q E) : t_law_told K (fun x _ m => E x m) { nx := fun _ m => Q .non m, rt := Q } (startD nm_law_told ds) m := by
  obtain ⟨t, y, x, w, b, rfl, rfl, ⟨p, rfl, hp⟩, wc, ok, wl, q⟩ := h
  show t_law_told K _ _ [some (taskD K t), some (.ref p), some (.int b), none, none, none] m
  unfold t_law_told
  try simp only [dSeq]
  try simp only [dIfS, dTest, dOp, dVar, dC, dCB, daCons, daNil, dSet, dRet, dNext, dDrop, dAsg, dPar, dAug, dAddI, dBreak, dCont, dRetN, slot, dLen, dCmpI, dSub, dAdd, dMul, dDiv, dMod, dPow, dNeg, dUn, dIx, dInt1, dAbs, dChain, dAnd, dOr, dNot, dAndV, dOrV, dNotV, dTru, dTruB, dIf, dTup, dLst, mkL, dSlice, dSl, doNone, doSome, dSum, dAll, dAny, dList, dTuple, dMax, dMin, eq_ii, ne_ii, eq_ss, ne_ss, eq_bb, ne_bb, eq_nn, ne_nn, dIsN, dNotN, dFgt, dIsB, dNotB, gN, gT, gsNil, gsCons, gSet, dBM, dAppend, dClear, dFld, dFldS, dProp, dCall, dMeth, dMake, dMakeN, daStar, dDictP, dCallO, dFor, dLc, diR1, diR2, diR3, diL, diT, diRv, diS, diE, dFmt, dFStr, dJs, dCallN, dFrzE, frz_l, in_ss, notin_ss, drR1, drR2, dListR, dRaise, dRaise0, dTryAs, dTry, dXf, dAddO, dInO, isL, insOf, Option.some.injEq, List.cons.injEq, D.int.injEq, D.bl.injEq, D.str.injEq, D.lst.injEq, D.tup.injEq, D.ref.injEq, MO.lst.injEq, MO.ins.injEq, mset_mset, and_true, true_and, and_self, and_assoc, exists_eq_left', exists_eq_left, exists_and_left, exists_and_right, exists_eq', List.set_cons_zero, List.set_cons_succ, decide_eq_true_eq, sqOf, lsOf, List.length_cons, List.length_nil, sizeLine_eq, List.append_nil, List.cons_append, List.nil_append, if_true, if_false, Bool.false_eq_true, reduceCtorEq, reduceIte, Nat.reduceAdd, Nat.reduceLeDiff, mset_same, Option.bind_some, List.length_map, Prod.mk.injEq, at0, at1, at2, at3, at4, at5, at6, at7, ix30, ix31, ix32, ix20, ix21, ix10, isi_ii, isi_ib, isi_ll, isi_bb, isi_ss, isi_tt, isi_is, isi_si, Bool.not_true, Bool.not_false, hp]
  rw [dSeq, dTryAs]
  generalize hW : dCatchAs K _ _ _ _ _ = W
  have W0 : ∀ f : Ft, Q f.D m → W (f.X K) [some (taskD K t), some (.ref p), some (.int b), some (.lst (w.map hvD)), none, none] m := by
    intro f hq
    subst hW
    simp only [dCatchAs, dInS]
    cases f with
    | unk z =>
      refine ⟨true, T.xm_UnknownKind_DuesError, fun _ a' d' ha' => ?_, nofun⟩
      try simp only [dSeq, dIfS, dTest, dOp, dVar, dC, dCB, daCons, daNil, dSet, dRet, dNext, dDrop, dAsg, dPar, dAug, dAddI, dBreak, dCont, dRetN, slot, dLen, dCmpI, dSub, dAdd, dMul, dDiv, dMod, dPow, dNeg, dUn, dIx, dInt1, dAbs, dChain, dAnd, dOr, dNot, dAndV, dOrV, dNotV, dTru, dTruB, dIf, dTup, dLst, mkL, dSlice, dSl, doNone, doSome, dSum, dAll, dAny, dList, dTuple, dMax, dMin, eq_ii, ne_ii, eq_ss, ne_ss, eq_bb, ne_bb, eq_nn, ne_nn, dIsN, dNotN, dFgt, dIsB, dNotB, gN, gT, gsNil, gsCons, gSet, dBM, dAppend, dClear, dFld, dFldS, dProp, dCall, dMeth, dMake, dMakeN, daStar, dDictP, dCallO, dFor, dLc, diR1, diR2, diR3, diL, diT, diRv, diS, diE, dFmt, dFStr, dJs, dCallN, dFrzE, frz_l, in_ss, notin_ss, drR1, drR2, dListR, dRaise, dRaise0, dTryAs, dTry, dXf, dAddO, dInO, isL, insOf, Option.some.injEq, List.cons.injEq, D.int.injEq, D.bl.injEq, D.str.injEq, D.lst.injEq, D.tup.injEq, D.ref.injEq, MO.lst.injEq, MO.ins.injEq, mset_mset, and_true, true_and, and_self, and_assoc, exists_eq_left', exists_eq_left, exists_and_left, exists_and_right, exists_eq', List.set_cons_zero, List.set_cons_succ, decide_eq_true_eq, sqOf, lsOf, List.length_cons, List.length_nil, sizeLine_eq, List.append_nil, List.cons_append, List.nil_append, if_true, if_false, Bool.false_eq_true, reduceCtorEq, reduceIte, Nat.reduceAdd, Nat.reduceLeDiff, mset_same, Option.bind_some, List.length_map, Prod.mk.injEq, at0, at1, at2, at3, at4, at5, at6, at7, ix30, ix31, ix32, ix20, ix21, ix10, isi_ii, isi_ib, isi_ll, isi_bb, isi_ss, isi_tt, isi_is, isi_si, Bool.not_true, Bool.not_false, Ft.X, unkK, dCut, isx_own T.xi_UnknownKind T.xk_UnknownKind_UnknownKind]
      exact ⟨_, rfl, _, rfl, hq⟩
    | rel i =>
      refine ⟨true, T.xm_BadRelease_DuesError, fun _ a' d' ha' => ?_, nofun⟩
      try simp only [dSeq, dIfS, dTest, dOp, dVar, dC, dCB, daCons, daNil, dSet, dRet, dNext, dDrop, dAsg, dPar, dAug, dAddI, dBreak, dCont, dRetN, slot, dLen, dCmpI, dSub, dAdd, dMul, dDiv, dMod, dPow, dNeg, dUn, dIx, dInt1, dAbs, dChain, dAnd, dOr, dNot, dAndV, dOrV, dNotV, dTru, dTruB, dIf, dTup, dLst, mkL, dSlice, dSl, doNone, doSome, dSum, dAll, dAny, dList, dTuple, dMax, dMin, eq_ii, ne_ii, eq_ss, ne_ss, eq_bb, ne_bb, eq_nn, ne_nn, dIsN, dNotN, dFgt, dIsB, dNotB, gN, gT, gsNil, gsCons, gSet, dBM, dAppend, dClear, dFld, dFldS, dProp, dCall, dMeth, dMake, dMakeN, daStar, dDictP, dCallO, dFor, dLc, diR1, diR2, diR3, diL, diT, diRv, diS, diE, dFmt, dFStr, dJs, dCallN, dFrzE, frz_l, in_ss, notin_ss, drR1, drR2, dListR, dRaise, dRaise0, dTryAs, dTry, dXf, dAddO, dInO, isL, insOf, Option.some.injEq, List.cons.injEq, D.int.injEq, D.bl.injEq, D.str.injEq, D.lst.injEq, D.tup.injEq, D.ref.injEq, MO.lst.injEq, MO.ins.injEq, mset_mset, and_true, true_and, and_self, and_assoc, exists_eq_left', exists_eq_left, exists_and_left, exists_and_right, exists_eq', List.set_cons_zero, List.set_cons_succ, decide_eq_true_eq, sqOf, lsOf, List.length_cons, List.length_nil, sizeLine_eq, List.append_nil, List.cons_append, List.nil_append, if_true, if_false, Bool.false_eq_true, reduceCtorEq, reduceIte, Nat.reduceAdd, Nat.reduceLeDiff, mset_same, Option.bind_some, List.length_map, Prod.mk.injEq, at0, at1, at2, at3, at4, at5, at6, at7, ix30, ix31, ix32, ix20, ix21, ix10, isi_ii, isi_ib, isi_ll, isi_bb, isi_ss, isi_tt, isi_is, isi_si, Bool.not_true, Bool.not_false, Ft.X, plX, dCut, isx_own T.xi_BadRelease T.xk_BadRelease_UnknownKind, isx_own T.xi_BadRelease T.xk_BadRelease_BadRelease]
      exact ⟨_, rfl, _, rfl, _, rfl, _, rfl, hq⟩
    | arr i =>
      refine ⟨true, T.xm_NoArrow_DuesError, fun _ a' d' ha' => ?_, nofun⟩
      try simp only [dSeq, dIfS, dTest, dOp, dVar, dC, dCB, daCons, daNil, dSet, dRet, dNext, dDrop, dAsg, dPar, dAug, dAddI, dBreak, dCont, dRetN, slot, dLen, dCmpI, dSub, dAdd, dMul, dDiv, dMod, dPow, dNeg, dUn, dIx, dInt1, dAbs, dChain, dAnd, dOr, dNot, dAndV, dOrV, dNotV, dTru, dTruB, dIf, dTup, dLst, mkL, dSlice, dSl, doNone, doSome, dSum, dAll, dAny, dList, dTuple, dMax, dMin, eq_ii, ne_ii, eq_ss, ne_ss, eq_bb, ne_bb, eq_nn, ne_nn, dIsN, dNotN, dFgt, dIsB, dNotB, gN, gT, gsNil, gsCons, gSet, dBM, dAppend, dClear, dFld, dFldS, dProp, dCall, dMeth, dMake, dMakeN, daStar, dDictP, dCallO, dFor, dLc, diR1, diR2, diR3, diL, diT, diRv, diS, diE, dFmt, dFStr, dJs, dCallN, dFrzE, frz_l, in_ss, notin_ss, drR1, drR2, dListR, dRaise, dRaise0, dTryAs, dTry, dXf, dAddO, dInO, isL, insOf, Option.some.injEq, List.cons.injEq, D.int.injEq, D.bl.injEq, D.str.injEq, D.lst.injEq, D.tup.injEq, D.ref.injEq, MO.lst.injEq, MO.ins.injEq, mset_mset, and_true, true_and, and_self, and_assoc, exists_eq_left', exists_eq_left, exists_and_left, exists_and_right, exists_eq', List.set_cons_zero, List.set_cons_succ, decide_eq_true_eq, sqOf, lsOf, List.length_cons, List.length_nil, sizeLine_eq, List.append_nil, List.cons_append, List.nil_append, if_true, if_false, Bool.false_eq_true, reduceCtorEq, reduceIte, Nat.reduceAdd, Nat.reduceLeDiff, mset_same, Option.bind_some, List.length_map, Prod.mk.injEq, at0, at1, at2, at3, at4, at5, at6, at7, ix30, ix31, ix32, ix20, ix21, ix10, isi_ii, isi_ib, isi_ll, isi_bb, isi_ss, isi_tt, isi_is, isi_si, Bool.not_true, Bool.not_false, Ft.X, plX, dCut, isx_own T.xi_NoArrow T.xk_NoArrow_UnknownKind, isx_own T.xi_NoArrow T.xk_NoArrow_BadRelease, isx_own T.xi_NoArrow T.xk_NoArrow_NoArrow]
      exact ⟨_, rfl, _, rfl, _, rfl, _, rfl, hq⟩
    | gap i =>
      refine ⟨true, T.xm_GapTooShort_DuesError, fun _ a' d' ha' => ?_, nofun⟩
      try simp only [dSeq, dIfS, dTest, dOp, dVar, dC, dCB, daCons, daNil, dSet, dRet, dNext, dDrop, dAsg, dPar, dAug, dAddI, dBreak, dCont, dRetN, slot, dLen, dCmpI, dSub, dAdd, dMul, dDiv, dMod, dPow, dNeg, dUn, dIx, dInt1, dAbs, dChain, dAnd, dOr, dNot, dAndV, dOrV, dNotV, dTru, dTruB, dIf, dTup, dLst, mkL, dSlice, dSl, doNone, doSome, dSum, dAll, dAny, dList, dTuple, dMax, dMin, eq_ii, ne_ii, eq_ss, ne_ss, eq_bb, ne_bb, eq_nn, ne_nn, dIsN, dNotN, dFgt, dIsB, dNotB, gN, gT, gsNil, gsCons, gSet, dBM, dAppend, dClear, dFld, dFldS, dProp, dCall, dMeth, dMake, dMakeN, daStar, dDictP, dCallO, dFor, dLc, diR1, diR2, diR3, diL, diT, diRv, diS, diE, dFmt, dFStr, dJs, dCallN, dFrzE, frz_l, in_ss, notin_ss, drR1, drR2, dListR, dRaise, dRaise0, dTryAs, dTry, dXf, dAddO, dInO, isL, insOf, Option.some.injEq, List.cons.injEq, D.int.injEq, D.bl.injEq, D.str.injEq, D.lst.injEq, D.tup.injEq, D.ref.injEq, MO.lst.injEq, MO.ins.injEq, mset_mset, and_true, true_and, and_self, and_assoc, exists_eq_left', exists_eq_left, exists_and_left, exists_and_right, exists_eq', List.set_cons_zero, List.set_cons_succ, decide_eq_true_eq, sqOf, lsOf, List.length_cons, List.length_nil, sizeLine_eq, List.append_nil, List.cons_append, List.nil_append, if_true, if_false, Bool.false_eq_true, reduceCtorEq, reduceIte, Nat.reduceAdd, Nat.reduceLeDiff, mset_same, Option.bind_some, List.length_map, Prod.mk.injEq, at0, at1, at2, at3, at4, at5, at6, at7, ix30, ix31, ix32, ix20, ix21, ix10, isi_ii, isi_ib, isi_ll, isi_bb, isi_ss, isi_tt, isi_is, isi_si, Bool.not_true, Bool.not_false, Ft.X, plX, dCut, isx_own T.xi_GapTooShort T.xk_GapTooShort_UnknownKind, isx_own T.xi_GapTooShort T.xk_GapTooShort_BadRelease, isx_own T.xi_GapTooShort T.xk_GapTooShort_NoArrow, isx_own T.xi_GapTooShort T.xk_GapTooShort_GapTooShort]
      exact ⟨_, rfl, _, rfl, _, rfl, _, rfl, hq⟩
  unfold duD at q
  walk_at "zs"
  refine ⟨t, _, w, b, rfl, rfl, ok, wl, ?_⟩
  cases hf : wdN t w w.length with
  | some f =>
    rw [hf] at q
    exact W0 f q
  | none =>
    rw [hf] at q
    dsimp only [OutF]
    walk_at "zn"
    refine ⟨_, rfl, true, rfl, ?_⟩
    rw [if_neg (by decide)]
    have cl : clB 2 (.lst (w.map hvD)) = true := by
      show ((w.map hvD).all (clB 1)) = true
      rw [List.all_map, List.all_eq_true]
      intro j hj
      show ([D.str j.k, D.int j.r].all (clB 0)) = true
      simp [clB, wc j hj]
    refine dNe_data (n := 2) (by omega) cl (by rw [vD_ref hp]; exact cl) fun b2 hb => ?_
    rw [vD_ref hp] at hb
    rw [hb.mpr rfl]
    refine ⟨false, rfl, ?_⟩
    rw [if_neg (by decide)]
    exact q
theorem wc_app {w : List Job} {j : Job} (h : WkC w) (hj : PyData.strOk j.k = true) : WkC (w ++ [j]) := fun x hx => by
  rcases List.mem_append.mp hx with hx | hx
  · exact h x hx
  · rw [List.mem_singleton.mp hx]; exact hj
theorem nm_in {t : Tsk} (ok : t.Ok) {z : Str} (hz : z ∈ names t.ks) : PyData.strOk z = true := by
  obtain ⟨k, hk, rfl⟩ := List.mem_map.mp hz
  exact nm_ok (ok.ks.nm k hk)
theorem pure_law_drawn_walk {K : Fr0} {mg : Str → Option Value} (T : Txt K mg) (ds : List D) (m : M) (Q : D → M → Prop) (E : XD → M → Prop) (h : sp_law_drawn_walk K ds m Q E) : t_law_drawn_walk K (fun x _ m => E x m) { nx := fun _ m => Q .non m, rt := Q } (startD nm_law_drawn_walk ds) m := by
  obtain ⟨x, a, b, s, n, m0, t, rfl, rfl, rfl, p0, hn, ok, q⟩ := h
  have k1 := ok.k1
  have k4 := ok.k4
  have a12 := ok.a12
  show t_law_drawn_walk K _ _ [some (.ref a), some (specD t), none, none, none, none, none, none, none] _
  unfold t_law_drawn_walk
  simp only [specD]
  walk_at "zn"
  refine draw_p p0 (by omega) (by omega) (by omega) (fun r s1 r0 r1 p1 => ?_)
  obtain ⟨k0, hk0, ek0⟩ := at_map (g := Knd.D) (l := t.ks) r0 r1
  try simp only [dSeq]
  try simp only [dIfS, dTest, dOp, dVar, dC, dCB, daCons, daNil, dSet, dRet, dNext, dDrop, dAsg, dPar, dAug, dAddI, dBreak, dCont, dRetN, slot, dLen, dCmpI, dSub, dAdd, dMul, dDiv, dMod, dPow, dNeg, dUn, dIx, dInt1, dAbs, dChain, dAnd, dOr, dNot, dAndV, dOrV, dNotV, dTru, dTruB, dIf, dTup, dLst, mkL, dSlice, dSl, doNone, doSome, dSum, dAll, dAny, dList, dTuple, dMax, dMin, eq_ii, ne_ii, eq_ss, ne_ss, eq_bb, ne_bb, eq_nn, ne_nn, dIsN, dNotN, dFgt, dIsB, dNotB, gN, gT, gsNil, gsCons, gSet, dBM, dAppend, dClear, dFld, dFldS, dProp, dCall, dMeth, dMake, dMakeN, daStar, dDictP, dCallO, dFor, dLc, diR1, diR2, diR3, diL, diT, diRv, diS, diE, dFmt, dFStr, dJs, dCallN, dFrzE, frz_l, in_ss, notin_ss, drR1, drR2, dListR, dRaise, dRaise0, dTryAs, dTry, dXf, dAddO, dInO, isL, insOf, Option.some.injEq, List.cons.injEq, D.int.injEq, D.bl.injEq, D.str.injEq, D.lst.injEq, D.tup.injEq, D.ref.injEq, MO.lst.injEq, MO.ins.injEq, mset_mset, and_true, true_and, and_self, and_assoc, exists_eq_left', exists_eq_left, exists_and_left, exists_and_right, exists_eq', List.set_cons_zero, List.set_cons_succ, decide_eq_true_eq, sqOf, lsOf, List.length_cons, List.length_nil, sizeLine_eq, List.append_nil, List.cons_append, List.nil_append, if_true, if_false, Bool.false_eq_true, reduceCtorEq, reduceIte, Nat.reduceAdd, Nat.reduceLeDiff, mset_same, Option.bind_some, List.length_map, Prod.mk.injEq, at0, at1, at2, at3, at4, at5, at6, at7, ix30, ix31, ix32, ix20, ix21, ix10, isi_ii, isi_ib, isi_ll, isi_bb, isi_ss, isi_tt, isi_is, isi_si, Bool.not_true, Bool.not_false, ek0, Knd.D]
  refine draw_p p1 (by omega) (by omega) (by omega) (fun mo s2 mo0 mo1 p2 => ?_)
  walk_at "zn"
  intro p hpp
  obtain ⟨na, nb, n0⟩ := pm_free hpp
  rw [pm_mset na nb]
  walk_at "zn"
  refine draw_p p2 (by omega) (by omega) (by omega) (fun r3 s3 r30 r31 p3 => ?_)
  obtain ⟨cnt, rfl⟩ : ∃ cnt : Nat, r3 = cnt := ⟨r3.toNat, by omega⟩
  refine ⟨_, rfl, by omega, by omega, ?_⟩
  rw [Int.toNat_natCast]
  obtain ⟨P1, hP1⟩ : ∃ P : Nat → DSt → M → Prop, ∀ j rr m', P j rr m' ↔ (∃ (w : List Job) (z : Str) (mo : Int) (s' : PS), w.length ≤ j ∧ z ∈ names t.ks ∧ WkC w ∧ Pl a b s' (n + 3 + 5 * j) ∧ m' = pm a b s' (mset m0 p (.lst ((w ++ [(⟨z, mo, 0⟩ : Job)]).map hvD))) ∧ ∃ o2 o5 o6 o8, rr = [some (.ref a), some (specD t), o2, some (.int mo), some (.ref p), o5, o6, none, o8]) := ⟨_, fun _ _ _ => Iff.rfl⟩
  refine ⟨P1, (hP1 _ _ _).mpr ⟨[], k0.n, mo, s3, Nat.le_refl _, List.mem_map_of_mem hk0, by simp [WkC], p3.up (by omega), rfl, _, _, _, _, rfl⟩, ?_, ?_⟩
  · intro j d rr m' hd hp1
    obtain ⟨w, z, mo, s4, hl, hz, hc, p4, rfl, o2, o5, o6, o8, rfl⟩ := (hP1 _ _ _).mp hp1
    obtain ⟨rfl, hj⟩ := rngD_at hd
    have hat : atI ((w ++ [(⟨z, mo, 0⟩ : Job)]).map hvD) (-1) = some (.tup [.str z, .int mo]) := hv_at (j := ⟨z, mo, 0⟩) (by simp)
    have hmp : ∀ s' (v : MO), pm a b s' (mset m0 p v) p = some v := fun s' v => by rw [pm_ne na nb]; exact mset_same
    simp only [specD]
    walk_at "zn"
    refine lc_filterD (g := Arr.D) (l := t.as) (p := fun a : Arr => decide (a.f = z)) (f := Arr.D) (by rw [sizeLine_eq]; omega) (fun x hx => ⟨_, rfl, fun Q' q' => ?_, fun _ Q' q' => ?_⟩) ?_
    · simp only [wipeD, Arr.D]
      walk_at "zs"
      refine ⟨_, by rw [hmp]; rfl, _, hat, ?_⟩
      walk_at "zs"
      exact q'
    · simp only [wipeD]
      walk_at "zs"
      exact q'
    rw [show (t.as.filter fun a => decide (a.f = z)) = foll t z from rfl]
    have fin : ∀ x ∈ foll t z, x ∈ t.as ∧ x.f = z := fun x hx => ⟨(List.mem_filter.mp hx).1, of_decide_eq_true (List.mem_filter.mp hx).2⟩
    have fl : (foll t z).length ≤ 12 := Nat.le_trans (List.length_filter_le _ _) a12
    walk_at "zn"
    refine ne_nil (n := 2) (by omega) (clR_ars ok fun x hx => (fin x hx).1) ⟨_, rfl, ?_⟩
    by_cases hemp : foll t z = []
    · rw [hemp, if_neg (by simp)]
      exact (hP1 _ _ _).mpr ⟨w, z, mo, s4, by omega, hz, hc, p4.up (by omega), rfl, _, _, _, _, rfl⟩
    · rw [if_pos (by simpa using hemp)]
      have fpos : 1 ≤ (foll t z).length := List.length_pos_iff.mpr hemp
      walk_at "zn"
      refine draw_p p4 (by omega) (by omega) (by omega) (fun r7 s7 r70 r71 p7 => ?_)
      obtain ⟨ar, har, ear⟩ := at_map (g := Arr.D) (l := foll t z) r70 r71
      obtain ⟨harA, harf⟩ := fin ar har
      refine ⟨r7, rfl, _, ear, ?_⟩
      simp only [Arr.D]
      walk_at "zn"
      refine draw_p p7 (by omega) (by omega) (by omega) (fun e9 s9 e90 e91 p9 => ?_)
      obtain ⟨v, hv⟩ : ∃ v : Int, atI [D.int 0, D.int 0, D.int 1, D.int 7] e9 = some (.int v) := by
        have : e9 = 0 ∨ e9 = 1 ∨ e9 = 2 ∨ e9 = 3 := by omega
        rcases this with rfl | rfl | rfl | rfl
        · exact ⟨0, rfl⟩
        · exact ⟨0, rfl⟩
        · exact ⟨1, rfl⟩
        · exact ⟨7, rfl⟩
      refine ⟨e9, rfl, _, hv, ?_⟩
      walk_at "zs"
      have hm2 : ∀ v2 : MO, pm a b s9 (mset m0 p v2) p = some v2 := fun v2 => hmp s9 v2
      refine ⟨⟨_, by rw [hm2]; rfl⟩, _, hm2 _, by simp; omega, ?_⟩
      rw [pm_mset na nb, mset_mset]
      refine (hP1 _ _ _).mpr ⟨w ++ [⟨z, mo, 0⟩], ar.s, mo + ar.g + v, s9, by simp; omega, ok.as.s ar harA, wc_app hc (nm_in ok hz), p9.up (by omega), ?_, _, _, _, _, rfl⟩
      rw [List.map_append (l₁ := w ++ _)]
      rfl
  · intro rr m' hp1
    obtain ⟨w, z, mo, s4, hl, hz, hc, p4, rfl, o2, o5, o6, o8, rfl⟩ := (hP1 _ _ _).mp hp1
    rw [rngD_len] at hl p4
    walk_at "zs"
    have := q (w ++ [⟨z, mo, 0⟩]) s4 (by simp) (by simp; omega) (wc_app hc (nm_in ok hz)) (p4.up (by omega)) p (by rw [pm_ne na nb]; exact n0)
    rw [pm_mset na nb] at this
    exact this
theorem pure_law_spoiled {K : Fr0} {mg : Str → Option Value} (T : Txt K mg) (ds : List D) (m : M) (Q : D → M → Prop) (E : XD → M → Prop) (h : sp_law_spoiled K ds m Q E) : t_law_spoiled K (fun x _ m => E x m) { nx := fun _ m => Q .non m, rt := Q } (startD nm_law_spoiled ds) m := by
  obtain ⟨x, a, b, s, n, m0, t, w, p, rfl, rfl, rfl, ⟨na, nb, hp⟩, p0, hn, ok, l1, l9, hc, q⟩ := h
  have k1 := ok.k1
  have k4 := ok.k4
  have hmp : ∀ s', pm a b s' m0 p = some (.lst (w.map hvD)) := fun s' => by rw [pm_ne na nb]; exact hp
  show t_law_spoiled K _ _ [some (.ref a), some (specD t), some (.ref p), none, none, none, none, none, none, none] _
  unfold t_law_spoiled
  simp only [specD]
  try simp only [dSeq]
  try simp only [dIfS, dTest, dOp, dVar, dC, dCB, daCons, daNil, dSet, dRet, dNext, dDrop, dAsg, dPar, dAug, dAddI, dBreak, dCont, dRetN, slot, dLen, dCmpI, dSub, dAdd, dMul, dDiv, dMod, dPow, dNeg, dUn, dIx, dInt1, dAbs, dChain, dAnd, dOr, dNot, dAndV, dOrV, dNotV, dTru, dTruB, dIf, dTup, dLst, mkL, dSlice, dSl, doNone, doSome, dSum, dAll, dAny, dList, dTuple, dMax, dMin, eq_ii, ne_ii, eq_ss, ne_ss, eq_bb, ne_bb, eq_nn, ne_nn, dIsN, dNotN, dFgt, dIsB, dNotB, gN, gT, gsNil, gsCons, gSet, dBM, dAppend, dClear, dFld, dFldS, dProp, dCall, dMeth, dMake, dMakeN, daStar, dDictP, dCallO, dFor, dLc, diR1, diR2, diR3, diL, diT, diRv, diS, diE, dFmt, dFStr, dJs, dCallN, dFrzE, frz_l, in_ss, notin_ss, drR1, drR2, dListR, dRaise, dRaise0, dTryAs, dTry, dXf, dAddO, dInO, isL, insOf, Option.some.injEq, List.cons.injEq, D.int.injEq, D.bl.injEq, D.str.injEq, D.lst.injEq, D.tup.injEq, D.ref.injEq, MO.lst.injEq, MO.ins.injEq, mset_mset, and_true, true_and, and_self, and_assoc, exists_eq_left', exists_eq_left, exists_and_left, exists_and_right, exists_eq', List.set_cons_zero, List.set_cons_succ, decide_eq_true_eq, sqOf, lsOf, List.length_cons, List.length_nil, sizeLine_eq, List.append_nil, List.cons_append, List.nil_append, if_true, if_false, Bool.false_eq_true, reduceCtorEq, reduceIte, Nat.reduceAdd, Nat.reduceLeDiff, mset_same, Option.bind_some, List.length_map, Prod.mk.injEq, at0, at1, at2, at3, at4, at5, at6, at7, ix30, ix31, ix32, ix20, ix21, ix10, isi_ii, isi_ib, isi_ll, isi_bb, isi_ss, isi_tt, isi_is, isi_si, Bool.not_true, Bool.not_false, hmp]
  intro p2 hp2
  obtain ⟨na2, nb2, n02⟩ := pm_free hp2
  rw [pm_mset na2 nb2]
  have np : p ≠ p2 := fun e => by rw [e, n02] at hp; cases hp
  walk_at "zn"
  refine draw_p p0 (by omega) (by omega) (by omega) (fun c s1 c0 c1 p1 => ?_)
  refine ⟨_, rfl, by omega, by omega, ?_⟩
  obtain ⟨P1, hP1⟩ : ∃ P : Nat → DSt → M → Prop, ∀ j rr m', P j rr m' ↔ (∃ (v : List Job) (s' : PS), v.length = w.length ∧ WkC v ∧ Pl a b s' (n + 1 + 40 * j) ∧ m' = pm a b s' (mset m0 p2 (.lst (v.map hvD))) ∧ ∃ o4 o5 o6 o7 o8, rr = [some (.ref a), some (specD t), some (.ref p), some (.ref p2), o4, o5, o6, o7, o8, none]) := ⟨_, fun _ _ _ => Iff.rfl⟩
  refine ⟨P1, (hP1 _ _ _).mpr ⟨w, s1, rfl, hc, p1.up (by omega), rfl, _, _, _, _, _, rfl⟩, ?_, ?_⟩
  · intro j d rr m' hd hp1
    obtain ⟨v, s2, hl, hv, pl2, rfl, o4, o5, o6, o7, o8, rfl⟩ := (hP1 _ _ _).mp hp1
    obtain ⟨rfl, hj⟩ := rngD_at hd
    have hm2 : ∀ s' (v : MO), pm a b s' (mset m0 p2 v) p2 = some v := fun s' v => by rw [pm_ne na2 nb2]; exact mset_same
    simp only [specD]
    rw [Int.zero_add]
    walk_at "zn"
    refine ⟨_, by rw [hm2]; rfl, ?_⟩
    rw [List.length_map]
    refine draw_p pl2 (by omega) (by omega) (by omega) (fun at_ s3 at_0 at_1 p3 => ?_)
    obtain ⟨u, rfl⟩ : ∃ u : Nat, at_ = u := ⟨at_.toNat, by omega⟩
    have hu : u < v.length := by omega
    have hiu := hv_I hu
    obtain ⟨y, ey⟩ : ∃ y, jAt v u = y := ⟨_, rfl⟩
    rw [ey] at hiu
    have hyc : PyData.strOk y.k = true := by rw [← ey]; exact hv _ (mem_at (jAt_at hu))
    walk_at "zn"
    refine draw_p p3 (by omega) (by omega) (by omega) (fun wh s4 wh0 wh1 p4 => ?_)
    walk_at "zn"
    refine ⟨_, by rw [hm2]; rfl, _, hiu, ?_⟩
    generalize hK : dAsg (dVar 7) (gSet (dVar 3) (dVar 5)) = kk
    have H : ∀ (DD : DEnds) (y : Job) (s' : PS) (o8 : Option D), DD.nx = P1 (j + 1) → PyData.strOk y.k = true → Pl a b s' (n + 30 + 40 * j) → kk DD [some (.ref a), some (specD t), some (.ref p), some (.ref p2), some (.int j), some (.int u), some (.int wh), some (.tup [.str y.k, .int y.r]), o8, none] (pm a b s' (mset m0 p2 (.lst (v.map hvD)))) := by
      intro DD y s' o8 hDD hy hpl
      subst hK
      walk_at "zs"
      have hset : (v.map hvD).set u (.tup [.str y.k, .int y.r]) = (v.set u y).map hvD := by
        rw [List.map_set]
        rfl
      refine ⟨_, hm2 _ _, u, ?_, ?_⟩
      · rw [List.length_map]
        unfold ixN
        rw [if_pos (by omega)]
        rw [if_pos (by omega), Int.toNat_natCast]
      · rw [pm_mset na2 nb2, mset_mset, hset, hDD]
        refine (hP1 _ _ _).mpr ⟨_, s', by rw [List.length_set, hl], fun x hx => ?_, hpl.up (by omega), rfl, _, _, _, _, _, rfl⟩
        rcases List.mem_or_eq_of_mem_set hx with hx | rfl
        · exact hv x hx
        · exact hy
    simp only [specD] at H
    have hwh : wh = 0 ∨ wh = 1 ∨ wh = 2 ∨ wh = 3 ∨ wh = 4 := by omega
    rcases hwh with rfl | rfl | rfl | rfl | rfl
    · simp only [hvD]
      walk_at "zn"
      walk_at "zn"
      refine lc_mapD (g := Knd.D) (f := fun k : Knd => .str k.n) (by rw [sizeLine_eq]; omega) (fun k hk => ⟨_, rfl, fun Q' q' => ?_⟩) ?_
      · simp only [wipeD, Knd.D]
        walk_at "zs"
        exact q'
      refine near_p p4 (by omega) (zs := names t.ks) (fun s' => by show D.lst _ = D.lst _; rw [List.map_map]; rfl) (fun z hz => by obtain ⟨k, hk, rfl⟩ := List.mem_map.mp hz; exact ok.ks.nm k hk) (by rw [List.length_map]; exact k4) (fun z s5 hz hnz p5 => ?_)
      walk_at "zn"
      refine draw_p p5 (by omega) (by omega) (by omega) (fun e s6 e0 e1 p6 => ?_)
      obtain ⟨z2, hz2, hc2⟩ : ∃ z2 : Str, atI [D.str z, .str "", .str "A b", .str "0x"] e = some (.str z2) ∧ PyData.strOk z2 = true := by
        have : e = 0 ∨ e = 1 ∨ e = 2 ∨ e = 3 := by omega
        rcases this with rfl | rfl | rfl | rfl
        · exact ⟨_, rfl, nm_ok hz⟩
        · exact ⟨_, rfl, by decide +kernel⟩
        · exact ⟨_, rfl, by decide +kernel⟩
        · exact ⟨_, rfl, by decide +kernel⟩
      refine ⟨e, rfl, _, hz2, ?_⟩
      rw [if_neg (by decide)]
      walk_at "zn"
      rw [if_neg (by decide)]
      walk_at "zn"
      rw [if_neg (by decide)]
      walk_at "zn"
      rw [if_neg (by decide)]
      exact H _ ⟨z2, y.r, 0⟩ s6 _ rfl hc2 (p6.up (by omega))
    · simp only [hvD]
      walk_at "zn"
      rw [if_neg (by decide)]
      walk_at "zn"
      refine draw_p p4 (by omega) (by omega) (by omega) (fun e s6 e0 e1 p6 => ?_)
      walk_at "zn"
      rw [if_neg (by decide)]
      walk_at "zn"
      rw [if_neg (by decide)]
      walk_at "zn"
      rw [if_neg (by decide)]
      exact H _ ⟨y.k, -1 - e, 0⟩ s6 _ rfl hyc (p6.up (by omega))
    · simp only [hvD]
      walk_at "zn"
      rw [if_neg (by decide)]
      walk_at "zn"
      rw [if_neg (by decide)]
      walk_at "zn"
      refine draw_p p4 (by omega) (by omega) (by omega) (fun e s6 e0 e1 p6 => ?_)
      walk_at "zn"
      rw [if_neg (by decide)]
      walk_at "zn"
      rw [if_neg (by decide)]
      exact H _ ⟨y.k, y.r - 1 - e, 0⟩ s6 _ rfl hyc (p6.up (by omega))
    · simp only [hvD]
      walk_at "zn"
      rw [if_neg (by decide)]
      walk_at "zn"
      rw [if_neg (by decide)]
      walk_at "zn"
      rw [if_neg (by decide)]
      walk_at "zn"
      refine draw_p p4 (by omega) (by omega) (by omega) (fun e s6 e0 e1 p6 => ?_)
      walk_at "zn"
      rw [if_neg (by decide)]
      exact H _ ⟨y.k, y.r + 1 + e, 0⟩ s6 _ rfl hyc (p6.up (by omega))
    · simp only [hvD]
      walk_at "zn"
      rw [if_neg (by decide)]
      walk_at "zn"
      rw [if_neg (by decide)]
      walk_at "zn"
      rw [if_neg (by decide)]
      walk_at "zn"
      rw [if_neg (by decide)]
      walk_at "zn"
      refine draw_p p4 (by omega) (by omega) (by omega) (fun e s6 e0 e1 p6 => ?_)
      obtain ⟨k0, hk0, ek0⟩ := at_map (g := Knd.D) (l := t.ks) e0 e1
      refine ⟨e, rfl, _, ek0, ?_⟩
      simp only [Knd.D]
      walk_at "zs"
      exact H _ ⟨k0.n, y.r, 0⟩ s6 _ rfl (nm_ok (ok.ks.nm k0 hk0)) (p6.up (by omega))
  · intro rr m' hp1
    obtain ⟨v, s2, hl, hv, pl2, rfl, o4, o5, o6, o7, o8, rfl⟩ := (hP1 _ _ _).mp hp1
    rw [rngD_len] at pl2
    walk_at "zs"
    have := q v s2 hl hv (pl2.up (by omega)) _ (by rw [pm_ne na2 nb2]; exact n02)
    rw [pm_mset na2 nb2] at this
    exact this
def sumN (f : Nat → Int) (n : Nat) : Int := ((List.range n).map f).sum
theorem sumN_succ (f : Nat → Int) (n : Nat) : sumN f (n + 1) = sumN f n + f n := by
  unfold sumN
  rw [List.range_succ, List.map_append, List.sum_append]
  simp
theorem sumN_congr {f h : Nat → Int} : ∀ {n : Nat}, (∀ i, i < n → f i = h i) → sumN f n = sumN h n
  | 0, _ => rfl
  | n + 1, e => by
    rw [sumN_succ, sumN_succ, sumN_congr (n := n) fun i hi => e i (by omega), e n (by omega)]
theorem map_tAt {α : Type} (f : Tsk → α) (ts : List Tsk) : ts.map f = (List.range ts.length).map fun i => f (tAt ts i) := by
  refine List.ext_getElem? fun i => ?_
  rw [List.getElem?_map, List.getElem?_map]
  by_cases h : i < ts.length
  · rw [tAt_at h, List.getElem?_range h]; rfl
  · rw [List.getElem?_eq_none (by omega), List.getElem?_eq_none (by simp; omega)]; rfl
theorem sdem_sumN (ts : List Tsk) (n : Nat) : sdem ts n = sumN (fun i => tdem (tAt ts i) n) ts.length := by
  unfold sdem sumN
  rw [map_tAt]
theorem jobs_due (ts : List Tsk) (ws : List (List Job)) (g b : Int) : (((jobsR ts g ws).filter fun x => decide (x.d ≤ b)).map Rw.c).sum = sumN (fun i => dueW (tAt ts i) g b (wAt ws i)) ws.length := by
  have hp : (jobsR ts g ws).Perm (rowsR ts g ws) := List.mergeSort_perm _ _
  rw [sum_perm ((hp.filter _).map _)]
  have : ∀ n, ((((List.range n).flatMap fun i => rowsW (tAt ts i) g i (wAt ws i)).filter fun x => decide (x.d ≤ b)).map Rw.c).sum = sumN (fun i => dueW (tAt ts i) g b (wAt ws i)) n := fun n => by
    induction n with
    | zero => rfl
    | succ n ih =>
      rw [List.range_succ, List.flatMap_append, List.filter_append, List.map_append, List.sum_append, ih, sumN_succ, ← row_due (tAt ts n) g b n (wAt ws n)]
      simp
  exact this ws.length
theorem heavy_due {ts : List Tsk} {ws : List (List Job)} {n : Nat} (ok : ∀ t ∈ ts, t.Ok) (hl : ws.length = ts.length) (h : ∀ i, i < ts.length → HvW (tAt ts i) n (wAt ws i)) : (((jobsR ts 1 ws).filter fun x => decide (x.d ≤ (n : Int))).map Rw.c).sum = sdem ts n := by
  rw [jobs_due, hl, sdem_sumN]
  exact sumN_congr fun i hi => (h i hi).due (ok _ (mem_at (tAt_at hi)))
theorem tdem_max {t : Tsk} (ok : t.Ok) {n : Nat} {v : Int} (h1 : v ∈ t.ks.map fun k => dem t n k.n) (h2 : ∀ y ∈ t.ks.map fun k => dem t n k.n, y ≤ v) : v = tdem t n := by
  have nn : ∀ x ∈ t.ks.map fun k => dem t n k.n, 0 ≤ x := fun x hx => by
    obtain ⟨k, _, rfl⟩ := List.mem_map.mp hx
    exact dem0 ok _ _
  exact mx_is nn (List.mem_cons_of_mem _ h1) fun y hy => by
    rcases List.mem_cons.mp hy with rfl | hy
    · exact nn v h1
    · exact h2 y hy
theorem le_iff (x y : Rw) : PySem.W.dataLe false keyR x y = true ↔ (x.r < y.r ∨ (x.r = y.r ∧ (x.i < y.i ∨ (x.i = y.i ∧ x.p ≤ y.p)))) := by
  rw [le_key]
  simp
  omega
theorem rows_filter (ts : List Tsk) (g : Int) (ws : List (List Job)) {i : Nat} : ∀ n, i < n → ((List.range n).flatMap fun j => rowsW (tAt ts j) g j (wAt ws j)).filter (fun x => decide ((x.i : Int) = (i : Int))) = rowsW (tAt ts i) g i (wAt ws i) := by
  have one : ∀ j, (rowsW (tAt ts j) g j (wAt ws j)).filter (fun x => decide ((x.i : Int) = (i : Int))) = if j = i then rowsW (tAt ts i) g i (wAt ws i) else [] := fun j => by
    split
    · rename_i e
      subst e
      refine List.filter_eq_self.mpr fun x hx => ?_
      obtain ⟨k, _, rfl⟩ := List.mem_map.mp hx
      exact decide_eq_true rfl
    · rename_i e
      refine List.filter_eq_nil_iff.mpr fun x hx => ?_
      obtain ⟨k, _, rfl⟩ := List.mem_map.mp hx
      have h2 : ¬ (((rowJ (tAt ts j) g j (wAt ws j) k).i : Int) = (i : Int)) := by
        show ¬ ((j : Int) = (i : Int))
        omega
      rw [decide_eq_false h2]
      simp
  have zero : ∀ n, n ≤ i → ((List.range n).flatMap fun j => rowsW (tAt ts j) g j (wAt ws j)).filter (fun x => decide ((x.i : Int) = (i : Int))) = [] := fun n => by
    induction n with
    | zero => intro _; rfl
    | succ n ih =>
      intro h
      rw [List.range_succ, List.flatMap_append, List.filter_append, ih (by omega), List.flatMap_cons, List.flatMap_nil, List.append_nil, one, if_neg (by omega)]
      rfl
  intro n
  induction n with
  | zero => intro h; omega
  | succ n ih =>
    intro h
    rw [List.range_succ, List.flatMap_append, List.filter_append, List.flatMap_cons, List.flatMap_nil, List.append_nil, one]
    by_cases e : n = i
    · subst e
      rw [zero n (Nat.le_refl _), if_pos rfl]
      rfl
    · rw [ih (by omega), if_neg e, List.append_nil]
theorem jobs_at {ts : List Tsk} {g : Int} {ws : List (List Job)} {i : Nat} (hi : i < ws.length) (hr : ∀ p q, p < q → q < (wAt ws i).length → (jAt (wAt ws i) p).r ≤ (jAt (wAt ws i) q).r) : (jobsR ts g ws).filter (fun x => decide ((x.i : Int) = (i : Int))) = rowsW (tAt ts i) g i (wAt ws i) := by
  have hp : (jobsR ts g ws).Perm (rowsR ts g ws) := List.mergeSort_perm _ _
  have e1 : (rowsR ts g ws).filter (fun x => decide ((x.i : Int) = (i : Int))) = rowsW (tAt ts i) g i (wAt ws i) := rows_filter ts g ws ws.length hi
  have srt : (rowsW (tAt ts i) g i (wAt ws i)).Pairwise fun a b => PySem.W.dataLe false keyR a b = true := by
    rw [List.pairwise_iff_getElem]
    intro p q hp hq hpq
    have hq2 : q < (wAt ws i).length := by simpa [rowsW] using hq
    have r1 := hr p q hpq hq2
    simp only [rowsW, List.getElem_map, List.getElem_range]
    refine (le_iff _ _).mpr ?_
    show (jAt (wAt ws i) p).r < (jAt (wAt ws i) q).r ∨ _ = _ ∧ (i < i ∨ i = i ∧ p ≤ q)
    by_cases h : (jAt (wAt ws i) p).r < (jAt (wAt ws i) q).r
    · exact .inl h
    · exact .inr ⟨by show (jAt (wAt ws i) p).r = (jAt (wAt ws i) q).r; omega, .inr ⟨rfl, by omega⟩⟩
  have sub : (rowsW (tAt ts i) g i (wAt ws i)).Sublist (rowsR ts g ws) := by
    rw [← e1]
    exact List.filter_sublist
  have sub2 : (rowsW (tAt ts i) g i (wAt ws i)).Sublist (jobsR ts g ws) := by
    refine List.sublist_mergeSort (fun a b c h1 h2 => ?_) (fun a b => ?_) srt sub
    · have h1 := (le_iff a b).mp h1
      have h2 := (le_iff b c).mp h2
      refine (le_iff a c).mpr ?_
      omega
    · rw [Bool.or_eq_true, le_iff, le_iff]
      omega
  have sub3 := sub2.filter (fun x => decide ((x.i : Int) = (i : Int)))
  have e2 : (rowsW (tAt ts i) g i (wAt ws i)).filter (fun x => decide ((x.i : Int) = (i : Int))) = rowsW (tAt ts i) g i (wAt ws i) := by
    refine List.filter_eq_self.mpr fun x hx => ?_
    obtain ⟨k, _, rfl⟩ := List.mem_map.mp hx
    exact decide_eq_true rfl
  rw [e2] at sub3
  refine (sub3.eq_of_length ?_).symm
  rw [(hp.filter _).length_eq, e1]
theorem HvJ.asc {t : Tsk} (ok : t.Ok) {w : List Job} (h : HvJ t w) : ∀ p q, p < q → q < w.length → (jAt w p).r ≤ (jAt w q).r := by
  intro p q hpq hq
  obtain ⟨k, rfl⟩ : ∃ k, q = p + 1 + k := ⟨q - (p + 1), by omega⟩
  induction k with
  | zero =>
    obtain ⟨a, ha, _, _, e⟩ := h.g (p + 1) (by omega) (by omega)
    have := ok.as.g a ha
    rw [show p + 1 - 1 = p by omega] at e
    rw [Nat.add_zero]
    omega
  | succ k ih =>
    have := ih (by omega) (by omega)
    obtain ⟨a, ha, _, _, e⟩ := h.g (p + 1 + (k + 1)) (by omega) hq
    have := ok.as.g a ha
    rw [show p + 1 + (k + 1) - 1 = p + 1 + k by omega] at e
    omega
theorem row_walk (t : Tsk) (g : Int) (i : Nat) (w : List Job) : (rowsW t g i w).map (fun x => D.tup [.str x.k, .int x.r]) = w.map hvD := by
  unfold rowsW
  rw [List.map_map]
  refine List.ext_getElem? fun p => ?_
  rw [List.getElem?_map, List.getElem?_map]
  by_cases h : p < w.length
  · rw [jAt_at h, List.getElem?_range h]; rfl
  · rw [List.getElem?_eq_none (by simp; omega), List.getElem?_eq_none (by omega)]; rfl
theorem row_cost (t : Tsk) (g : Int) (i : Nat) (w : List Job) : (rowsW t g i w).map (fun x => D.int x.c) = w.map fun j => D.int j.c := by
  unfold rowsW
  rw [List.map_map]
  refine List.ext_getElem? fun p => ?_
  rw [List.getElem?_map, List.getElem?_map]
  by_cases h : p < w.length
  · rw [jAt_at h, List.getElem?_range h]; rfl
  · rw [List.getElem?_eq_none (by simp; omega), List.getElem?_eq_none (by omega)]; rfl
theorem MSub.put {m m1 : M} (h : MSub m m1) {p : Addr} {o : MO} (hp : m p = Option.none) : MSub m (mset m1 p o) := fun x u e => by
  by_cases hx : x = p
  · subst hx
    rw [hp] at e
    cases e
  · rw [mset_ne hx]
    exact h x u e
def cstD (t : Tsk) (d : D) : D := match d with
  | .tup [.str z, _] => .int (kOf t z).c
  | _ => .non
theorem pure_law_all_heavy {K : Fr0} {mg : Str → Option Value} (T : Txt K mg) (ds : List D) (m : M) (Q : D → M → Prop) (E : XD → M → Prop) (h : sp_law_all_heavy K ds m Q E) : t_law_all_heavy K (fun x _ m => E x m) { nx := fun _ m => Q .non m, rt := Q } (startD nm_law_all_heavy ds) m := by
  obtain ⟨ts, n, rfl, ok, tl, hn, q⟩ := h
  show t_law_all_heavy K _ _ [some (.lst (ts.map (taskD K))), some (.lst (ts.map specD)), some (.int n), none, none, none, none, none, none, none, none, none, none, none] m
  unfold t_law_all_heavy
  walk_at "zn"
  refine lc_mapD (g := specD) (f := fun t : Tsk => D.int (tdem t n)) (by rw [sizeLine_eq]; omega) (fun t ht => ⟨_, rfl, fun Q' q' => ?_⟩) ?_
  · have okt := ok t ht
    have k1 := okt.k1
    have k4 := okt.k4
    simp only [wipeD]
    walk_at "zs"
    refine ⟨t, n, rfl, okt, by omega, ?_⟩
    simp only [tabD]
    refine lc_mapD (g := fun k : Knd => il (rowN (fun at_ => dem t at_ k.n) (n + 1))) (f := fun k : Knd => D.int (dem t n k.n)) (by rw [sizeLine_eq]; omega) (fun k hk => ⟨_, rfl, fun Q' q' => ?_⟩) ?_
    · simp only [wipeD]
      walk_at "zs"
      rw [rowN_atI (by omega) (by omega)]
      refine ⟨_, rfl, ?_⟩
      rw [Int.toNat_natCast]
      exact q'
    refine ⟨t.ks.map fun k => dem t n k.n, by rw [List.map_map]; rfl, by rw [List.length_map]; omega, fun v h1 h2 => ?_⟩
    rw [tdem_max okt h1 h2]
    exact q'
  walk_at "zn"
  refine ⟨[], n, rfl, by simp, by simp, by omega, by simp, fun ws hl _ => ?_⟩
  obtain rfl : ws = [] := List.eq_nil_of_length_eq_zero hl
  have e0 : jobsR [] 1 [] = [] := by unfold jobsR srtR rowsR; simp
  refine ⟨⟨_, rfl⟩, 1, _, rfl, ?_⟩
  rw [e0]
  refine dNe_refl (n := 1) (by omega) rfl ⟨false, rfl, ?_⟩
  rw [if_neg (by decide)]
  walk_at "zn"
  have t60 : ts.length * n ≤ 3 * 60 := Nat.mul_le_mul tl hn
  refine ⟨ts, n, rfl, ok, by omega, by omega, by omega, fun ws hl hws => ?_⟩
  walk_at "zn"
  refine ⟨⟨_, rfl⟩, 1, _, rfl, ?_⟩
  walk_at "zn"
  refine ⟨by omega, by omega, ?_⟩
  rw [Int.toNat_natCast]
  have jlen : (jobsR ts 1 ws).length ≤ ws.length * 60 := by
    have hp : (jobsR ts 1 ws).Perm (rowsR ts 1 ws) := List.mergeSort_perm _ _
    rw [hp.length_eq]
    refine rowsN_len (ts := ts) (g := 1) (ws := ws) (B := 60) (fun w hw => ?_) ws.length (Nat.le_refl _)
    obtain ⟨i, hi⟩ := List.mem_iff_getElem?.mp hw
    have hil : i < ts.length := by rw [← hl]; exact len_at hi
    have := (hws i hil).len (ok _ (mem_at (tAt_at hil)))
    rw [Option.some.inj ((wAt_at (len_at hi)).symm.trans hi)] at this
    omega
  have hdue := heavy_due (n := n) ok hl hws
  have hat := fun i hi => jobs_at (ts := ts) (g := 1) (ws := ws) (i := i) hi (((hws i (by omega)).jobs (ok _ (mem_at (tAt_at (show i < ts.length by omega))))).asc (ok _ (mem_at (tAt_at (show i < ts.length by omega)))))
  generalize jobsR ts 1 ws = J at *
  obtain ⟨P1, hP1⟩ : ∃ P : Nat → DSt → M → Prop, ∀ j r m', P j r m' ↔ (MSub m m' ∧ ∃ o8 o9 o10 o12, r = [some (.lst (ts.map (taskD K))), some (.lst (ts.map specD)), some (.int n), some (.lst (ts.map fun t : Tsk => D.int (tdem t n))), none, none, some (runD K 1 J), some (.lst (J.map Rw.D)), o8, o9, o10, none, o12, none]) := ⟨_, fun _ _ _ => Iff.rfl⟩
  refine ⟨P1, (hP1 _ _ _).mpr ⟨MSub.refl m, _, _, _, _, rfl⟩, ?_, ?_⟩
  · intro j d r m' hd hp1
    obtain ⟨sub, o8, o9, o10, o12, rfl⟩ := (hP1 _ _ _).mp hp1
    obtain ⟨rfl, hj⟩ := rngD_at hd
    rw [Int.zero_add]
    have tI : ∀ {f : Tsk → D}, atI (ts.map f) (j : Int) = some (f (tAt ts j)) := fun {f} => tAt_I hj
    have okt := ok _ (mem_at (tAt_at hj))
    have hw := hws j hj
    have hJ := hat j (by omega)
    generalize tAt ts j = t at *
    generalize wAt ws j = w at *
    have hj1 := hw.jobs okt
    have wl := hw.len okt
    try simp only [dSeq]
    try simp only [dIfS, dTest, dOp, dVar, dC, dCB, daCons, daNil, dSet, dRet, dNext, dDrop, dAsg, dPar, dAug, dAddI, dBreak, dCont, dRetN, slot, dLen, dCmpI, dSub, dAdd, dMul, dDiv, dMod, dPow, dNeg, dUn, dIx, dInt1, dAbs, dChain, dAnd, dOr, dNot, dAndV, dOrV, dNotV, dTru, dTruB, dIf, dTup, dLst, mkL, dSlice, dSl, doNone, doSome, dSum, dAll, dAny, dList, dTuple, dMax, dMin, eq_ii, ne_ii, eq_ss, ne_ss, eq_bb, ne_bb, eq_nn, ne_nn, dIsN, dNotN, dFgt, dIsB, dNotB, gN, gT, gsNil, gsCons, gSet, dBM, dAppend, dClear, dFld, dFldS, dProp, dCall, dMeth, dMake, dMakeN, daStar, dDictP, dCallO, dFor, dLc, diR1, diR2, diR3, diL, diT, diRv, diS, diE, dFmt, dFStr, dJs, dCallN, dFrzE, frz_l, in_ss, notin_ss, drR1, drR2, dListR, dRaise, dRaise0, dTryAs, dTry, dXf, dAddO, dInO, isL, insOf, Option.some.injEq, List.cons.injEq, D.int.injEq, D.bl.injEq, D.str.injEq, D.lst.injEq, D.tup.injEq, D.ref.injEq, MO.lst.injEq, MO.ins.injEq, mset_mset, and_true, true_and, and_self, and_assoc, exists_eq_left', exists_eq_left, exists_and_left, exists_and_right, exists_eq', List.set_cons_zero, List.set_cons_succ, decide_eq_true_eq, sqOf, lsOf, List.length_cons, List.length_nil, sizeLine_eq, List.append_nil, List.cons_append, List.nil_append, if_true, if_false, Bool.false_eq_true, reduceCtorEq, reduceIte, Nat.reduceAdd, Nat.reduceLeDiff, mset_same, Option.bind_some, List.length_map, Prod.mk.injEq, at0, at1, at2, at3, at4, at5, at6, at7, ix30, ix31, ix32, ix20, ix21, ix10, isi_ii, isi_ib, isi_ll, isi_bb, isi_ss, isi_tt, isi_is, isi_si, Bool.not_true, Bool.not_false, tI]
    refine ⟨t, _, n, rfl, rfl, okt, by omega, fun w0 hw0 wl0 p hp => ?_⟩
    try simp only [dSeq]
    try simp only [dIfS, dTest, dOp, dVar, dC, dCB, daCons, daNil, dSet, dRet, dNext, dDrop, dAsg, dPar, dAug, dAddI, dBreak, dCont, dRetN, slot, dLen, dCmpI, dSub, dAdd, dMul, dDiv, dMod, dPow, dNeg, dUn, dIx, dInt1, dAbs, dChain, dAnd, dOr, dNot, dAndV, dOrV, dNotV, dTru, dTruB, dIf, dTup, dLst, mkL, dSlice, dSl, doNone, doSome, dSum, dAll, dAny, dList, dTuple, dMax, dMin, eq_ii, ne_ii, eq_ss, ne_ss, eq_bb, ne_bb, eq_nn, ne_nn, dIsN, dNotN, dFgt, dIsB, dNotB, gN, gT, gsNil, gsCons, gSet, dBM, dAppend, dClear, dFld, dFldS, dProp, dCall, dMeth, dMake, dMakeN, daStar, dDictP, dCallO, dFor, dLc, diR1, diR2, diR3, diL, diT, diRv, diS, diE, dFmt, dFStr, dJs, dCallN, dFrzE, frz_l, in_ss, notin_ss, drR1, drR2, dListR, dRaise, dRaise0, dTryAs, dTry, dXf, dAddO, dInO, isL, insOf, Option.some.injEq, List.cons.injEq, D.int.injEq, D.bl.injEq, D.str.injEq, D.lst.injEq, D.tup.injEq, D.ref.injEq, MO.lst.injEq, MO.ins.injEq, mset_mset, and_true, true_and, and_self, and_assoc, exists_eq_left', exists_eq_left, exists_and_left, exists_and_right, exists_eq', List.set_cons_zero, List.set_cons_succ, decide_eq_true_eq, sqOf, lsOf, List.length_cons, List.length_nil, sizeLine_eq, List.append_nil, List.cons_append, List.nil_append, if_true, if_false, Bool.false_eq_true, reduceCtorEq, reduceIte, Nat.reduceAdd, Nat.reduceLeDiff, mset_same, Option.bind_some, List.length_map, Prod.mk.injEq, at0, at1, at2, at3, at4, at5, at6, at7, ix30, ix31, ix32, ix20, ix21, ix10, isi_ii, isi_ib, isi_ll, isi_bb, isi_ss, isi_tt, isi_is, isi_si, Bool.not_true, Bool.not_false, tI]
    refine ⟨t, _, w0, n, rfl, ⟨p, rfl, mset_same⟩, okt, hw0, by omega, true, rfl, ?_⟩
    rw [if_neg (by decide)]
    walk_at "zn"
    refine lc_filterD (g := Rw.D) (p := fun x : Rw => decide ((x.i : Int) = (j : Int))) (f := fun x : Rw => D.tup [.str x.k, .int x.r]) (by rw [sizeLine_eq]; omega) (fun x hx => ⟨_, rfl, fun Q' q' => ?_, fun _ Q' q' => ?_⟩) ?_
    · simp only [wipeD, Rw.D]
      walk_at "zs"
      exact q'
    · simp only [wipeD, Rw.D]
      walk_at "zs"
      exact q'
    rw [hJ, row_walk]
    intro p2 hp2
    have np : p ≠ p2 := fun e => by rw [e, mset_same] at hp2; cases hp2
    walk_at "zn"
    refine lc_filterD (g := Rw.D) (p := fun x : Rw => decide ((x.i : Int) = (j : Int))) (f := fun x : Rw => D.int x.c) (by rw [sizeLine_eq]; omega) (fun x hx => ⟨_, rfl, fun Q' q' => ?_, fun _ Q' q' => ?_⟩) ?_
    · simp only [wipeD, Rw.D]
      walk_at "zs"
      exact q'
    · simp only [wipeD, Rw.D]
      walk_at "zs"
      exact q'
    rw [hJ, row_cost]
    try simp only [dSeq]
    try simp only [dIfS, dTest, dOp, dVar, dC, dCB, daCons, daNil, dSet, dRet, dNext, dDrop, dAsg, dPar, dAug, dAddI, dBreak, dCont, dRetN, slot, dLen, dCmpI, dSub, dAdd, dMul, dDiv, dMod, dPow, dNeg, dUn, dIx, dInt1, dAbs, dChain, dAnd, dOr, dNot, dAndV, dOrV, dNotV, dTru, dTruB, dIf, dTup, dLst, mkL, dSlice, dSl, doNone, doSome, dSum, dAll, dAny, dList, dTuple, dMax, dMin, eq_ii, ne_ii, eq_ss, ne_ss, eq_bb, ne_bb, eq_nn, ne_nn, dIsN, dNotN, dFgt, dIsB, dNotB, gN, gT, gsNil, gsCons, gSet, dBM, dAppend, dClear, dFld, dFldS, dProp, dCall, dMeth, dMake, dMakeN, daStar, dDictP, dCallO, dFor, dLc, diR1, diR2, diR3, diL, diT, diRv, diS, diE, dFmt, dFStr, dJs, dCallN, dFrzE, frz_l, in_ss, notin_ss, drR1, drR2, dListR, dRaise, dRaise0, dTryAs, dTry, dXf, dAddO, dInO, isL, insOf, Option.some.injEq, List.cons.injEq, D.int.injEq, D.bl.injEq, D.str.injEq, D.lst.injEq, D.tup.injEq, D.ref.injEq, MO.lst.injEq, MO.ins.injEq, mset_mset, and_true, true_and, and_self, and_assoc, exists_eq_left', exists_eq_left, exists_and_left, exists_and_right, exists_eq', List.set_cons_zero, List.set_cons_succ, decide_eq_true_eq, sqOf, lsOf, List.length_cons, List.length_nil, sizeLine_eq, List.append_nil, List.cons_append, List.nil_append, if_true, if_false, Bool.false_eq_true, reduceCtorEq, reduceIte, Nat.reduceAdd, Nat.reduceLeDiff, mset_same, Option.bind_some, List.length_map, Prod.mk.injEq, at0, at1, at2, at3, at4, at5, at6, at7, ix30, ix31, ix32, ix20, ix21, ix10, isi_ii, isi_ib, isi_ll, isi_bb, isi_ss, isi_tt, isi_is, isi_si, Bool.not_true, Bool.not_false, tI]
    refine ⟨t, _, w, n, rfl, ⟨p2, rfl, mset_same⟩, okt, hw, by omega, true, rfl, ?_⟩
    rw [if_neg (by decide)]
    have kin : ∀ y ∈ w, y.k ∈ names t.ks ∧ y.c = (kOf t y.k).c := fun y hy => by
      obtain ⟨i, hi⟩ := List.mem_iff_getElem?.mp hy
      obtain ⟨k, hk, e1, e2⟩ := hj1.z i (len_at hi)
      rw [Option.some.inj ((jAt_at (len_at hi)).symm.trans hi)] at e1 e2
      refine ⟨by rw [← e1]; exact List.mem_map_of_mem hk, ?_⟩
      rw [e2, ← e1, kOf_mem okt hk]
    refine lcM_pure (a := p2) (xs := w.map hvD) (cstD t) (fun Q' q' => ?_) mset_same (by rw [sizeLine_eq, List.length_map]; omega) (fun x hx => ?_) ?_
    · walk_at "zs"
      exact q'
    · obtain ⟨y, hy, rfl⟩ := List.mem_map.mp hx
      obtain ⟨hz, _⟩ := kin y hy
      refine ⟨_, rfl, fun Q' q' => ?_⟩
      simp only [wipeD, hvD]
      try simp only [dIfS, dTest, dOp, dVar, dC, dCB, daCons, daNil, dSet, dRet, dNext, dDrop, dAsg, dPar, dAug, dAddI, dBreak, dCont, dRetN, slot, dLen, dCmpI, dSub, dAdd, dMul, dDiv, dMod, dPow, dNeg, dUn, dIx, dInt1, dAbs, dChain, dAnd, dOr, dNot, dAndV, dOrV, dNotV, dTru, dTruB, dIf, dTup, dLst, mkL, dSlice, dSl, doNone, doSome, dSum, dAll, dAny, dList, dTuple, dMax, dMin, eq_ii, ne_ii, eq_ss, ne_ss, eq_bb, ne_bb, eq_nn, ne_nn, dIsN, dNotN, dFgt, dIsB, dNotB, gN, gT, gsNil, gsCons, gSet, dBM, dAppend, dClear, dFld, dFldS, dProp, dCall, dMeth, dMake, dMakeN, daStar, dDictP, dCallO, dFor, dLc, diR1, diR2, diR3, diL, diT, diRv, diS, diE, dFmt, dFStr, dJs, dCallN, dFrzE, frz_l, in_ss, notin_ss, drR1, drR2, dListR, dRaise, dRaise0, dTryAs, dTry, dXf, dAddO, dInO, isL, insOf, Option.some.injEq, List.cons.injEq, D.int.injEq, D.bl.injEq, D.str.injEq, D.lst.injEq, D.tup.injEq, D.ref.injEq, MO.lst.injEq, MO.ins.injEq, mset_mset, and_true, true_and, and_self, and_assoc, exists_eq_left', exists_eq_left, exists_and_left, exists_and_right, exists_eq', List.set_cons_zero, List.set_cons_succ, decide_eq_true_eq, sqOf, lsOf, List.length_cons, List.length_nil, sizeLine_eq, List.append_nil, List.cons_append, List.nil_append, if_true, if_false, Bool.false_eq_true, reduceCtorEq, reduceIte, Nat.reduceAdd, Nat.reduceLeDiff, mset_same, Option.bind_some, List.length_map, Prod.mk.injEq, at0, at1, at2, at3, at4, at5, at6, at7, ix30, ix31, ix32, ix20, ix21, ix10, isi_ii, isi_ib, isi_ll, isi_bb, isi_ss, isi_tt, isi_is, isi_si, Bool.not_true, Bool.not_false, tI, T.cl_Task, T.n_Task_name, T.n_Task_kind_rows, T.n_Task_arrow_rows, taskD, lk_name, lk_kinds, lk_arrows]
      refine ⟨rfl, t, _, y.k, rfl, rfl, okt, fun k hk e => ?_, fun h => absurd hz h⟩
      have : Q' (.int (kOf t y.k).c) (mdel (mset (mset m' p (.lst (w0.map hvD))) p2 (.lst (w.map hvD))) p2) := q'
      rw [← e, kOf_mem okt hk] at this
      exact this
    have ec : (w.map hvD).map (cstD t) = w.map fun j => D.int j.c := by
      rw [List.map_map]
      refine List.map_congr_left fun y hy => ?_
      rw [(kin y hy).2]
      rfl
    rw [ec]
    have clc : clR 1 (.lst (w.map fun j : Job => D.int j.c)) = true := by
      show ((w.map fun j : Job => D.int j.c).all (clR 0)) = true
      rw [List.all_map, List.all_eq_true]
      intro k _
      rfl
    dsimp only [mkL]
    refine dNe_refl (n := 1) (by omega) clc ⟨false, rfl, ?_⟩
    rw [if_neg (by decide)]
    try simp only [dSeq]
    try simp only [dIfS, dTest, dOp, dVar, dC, dCB, daCons, daNil, dSet, dRet, dNext, dDrop, dAsg, dPar, dAug, dAddI, dBreak, dCont, dRetN, slot, dLen, dCmpI, dSub, dAdd, dMul, dDiv, dMod, dPow, dNeg, dUn, dIx, dInt1, dAbs, dChain, dAnd, dOr, dNot, dAndV, dOrV, dNotV, dTru, dTruB, dIf, dTup, dLst, mkL, dSlice, dSl, doNone, doSome, dSum, dAll, dAny, dList, dTuple, dMax, dMin, eq_ii, ne_ii, eq_ss, ne_ss, eq_bb, ne_bb, eq_nn, ne_nn, dIsN, dNotN, dFgt, dIsB, dNotB, gN, gT, gsNil, gsCons, gSet, dBM, dAppend, dClear, dFld, dFldS, dProp, dCall, dMeth, dMake, dMakeN, daStar, dDictP, dCallO, dFor, dLc, diR1, diR2, diR3, diL, diT, diRv, diS, diE, dFmt, dFStr, dJs, dCallN, dFrzE, frz_l, in_ss, notin_ss, drR1, drR2, dListR, dRaise, dRaise0, dTryAs, dTry, dXf, dAddO, dInO, isL, insOf, Option.some.injEq, List.cons.injEq, D.int.injEq, D.bl.injEq, D.str.injEq, D.lst.injEq, D.tup.injEq, D.ref.injEq, MO.lst.injEq, MO.ins.injEq, mset_mset, and_true, true_and, and_self, and_assoc, exists_eq_left', exists_eq_left, exists_and_left, exists_and_right, exists_eq', List.set_cons_zero, List.set_cons_succ, decide_eq_true_eq, sqOf, lsOf, List.length_cons, List.length_nil, sizeLine_eq, List.append_nil, List.cons_append, List.nil_append, if_true, if_false, Bool.false_eq_true, reduceCtorEq, reduceIte, Nat.reduceAdd, Nat.reduceLeDiff, mset_same, Option.bind_some, List.length_map, Prod.mk.injEq, at0, at1, at2, at3, at4, at5, at6, at7, ix30, ix31, ix32, ix20, ix21, ix10, isi_ii, isi_ib, isi_ll, isi_bb, isi_ss, isi_tt, isi_is, isi_si, Bool.not_true, Bool.not_false, tI]
    have wc0 : WkC w0 := fun y hy => by
      obtain ⟨i, hi⟩ := List.mem_iff_getElem?.mp hy
      obtain ⟨k, hk, e1, _⟩ := (hw0.jobs okt).z i (len_at hi)
      rw [Option.some.inj ((jAt_at (len_at hi)).symm.trans hi)] at e1
      rw [← e1]
      exact nm_ok (okt.ks.nm k hk)
    have ho := hw0.ofO okt
    have hmp : mset (mset m' p (.lst (w0.map hvD))) p2 (.lst (w.map hvD)) p = some (.lst (w0.map hvD)) := by rw [mset_ne np]; exact mset_same
    refine ⟨t, _, _, w0, n, rfl, rfl, ⟨p, rfl, hmp⟩, wc0, okt, by omega, ?_⟩
    unfold duD
    rw [ho.non, ho.due]
    dsimp only
    try simp only [dSeq]
    try simp only [dIfS, dTest, dOp, dVar, dC, dCB, daCons, daNil, dSet, dRet, dNext, dDrop, dAsg, dPar, dAug, dAddI, dBreak, dCont, dRetN, slot, dLen, dCmpI, dSub, dAdd, dMul, dDiv, dMod, dPow, dNeg, dUn, dIx, dInt1, dAbs, dChain, dAnd, dOr, dNot, dAndV, dOrV, dNotV, dTru, dTruB, dIf, dTup, dLst, mkL, dSlice, dSl, doNone, doSome, dSum, dAll, dAny, dList, dTuple, dMax, dMin, eq_ii, ne_ii, eq_ss, ne_ss, eq_bb, ne_bb, eq_nn, ne_nn, dIsN, dNotN, dFgt, dIsB, dNotB, gN, gT, gsNil, gsCons, gSet, dBM, dAppend, dClear, dFld, dFldS, dProp, dCall, dMeth, dMake, dMakeN, daStar, dDictP, dCallO, dFor, dLc, diR1, diR2, diR3, diL, diT, diRv, diS, diE, dFmt, dFStr, dJs, dCallN, dFrzE, frz_l, in_ss, notin_ss, drR1, drR2, dListR, dRaise, dRaise0, dTryAs, dTry, dXf, dAddO, dInO, isL, insOf, Option.some.injEq, List.cons.injEq, D.int.injEq, D.bl.injEq, D.str.injEq, D.lst.injEq, D.tup.injEq, D.ref.injEq, MO.lst.injEq, MO.ins.injEq, mset_mset, and_true, true_and, and_self, and_assoc, exists_eq_left', exists_eq_left, exists_and_left, exists_and_right, exists_eq', List.set_cons_zero, List.set_cons_succ, decide_eq_true_eq, sqOf, lsOf, List.length_cons, List.length_nil, sizeLine_eq, List.append_nil, List.cons_append, List.nil_append, if_true, if_false, Bool.false_eq_true, reduceCtorEq, reduceIte, Nat.reduceAdd, Nat.reduceLeDiff, mset_same, Option.bind_some, List.length_map, Prod.mk.injEq, at0, at1, at2, at3, at4, at5, at6, at7, ix30, ix31, ix32, ix20, ix21, ix10, isi_ii, isi_ib, isi_ll, isi_bb, isi_ss, isi_tt, isi_is, isi_si, Bool.not_true, Bool.not_false, tI]
    refine dNe_refl (n := 2) (by omega) (cl_sum _) ⟨false, rfl, ?_⟩
    rw [if_neg (by decide)]
    walk_at "zn"
    refine ⟨⟨_, by rw [hmp]; rfl⟩, _, hmp, by rw [List.length_map]; omega, ?_⟩
    have m0 : m p = Option.none := MSub.none sub hp
    have m2 : m p2 = Option.none := MSub.none sub (by rw [← hp2, mset_ne (fun e => np e.symm)])
    refine ⟨t, _, n, rfl, rfl, okt, by omega, fun w3 hw3 wl3 p3 hp3 => ?_⟩
    have m3 : m p3 = Option.none := by
      by_cases e1 : p3 = p
      · rw [e1]; exact m0
      · by_cases e2 : p3 = p2
        · rw [e2]; exact m2
        · rw [mset_ne e1, mset_ne e2, mset_ne e1] at hp3
          exact MSub.none sub hp3
    refine ⟨t, _, w3, n, rfl, ⟨p3, rfl, mset_same⟩, okt, hw3, by omega, true, rfl, ?_⟩
    rw [if_neg (by decide)]
    exact (hP1 _ _ _).mpr ⟨MSub.put (MSub.put (MSub.put (MSub.put sub m0) m2) m0) m3, _, _, _, _, rfl⟩
  · intro r m' hp1
    obtain ⟨sub, o8, o9, o10, o12, rfl⟩ := (hP1 _ _ _).mp hp1
    try simp only [dSeq]
    try simp only [dIfS, dTest, dOp, dVar, dC, dCB, daCons, daNil, dSet, dRet, dNext, dDrop, dAsg, dPar, dAug, dAddI, dBreak, dCont, dRetN, slot, dLen, dCmpI, dSub, dAdd, dMul, dDiv, dMod, dPow, dNeg, dUn, dIx, dInt1, dAbs, dChain, dAnd, dOr, dNot, dAndV, dOrV, dNotV, dTru, dTruB, dIf, dTup, dLst, mkL, dSlice, dSl, doNone, doSome, dSum, dAll, dAny, dList, dTuple, dMax, dMin, eq_ii, ne_ii, eq_ss, ne_ss, eq_bb, ne_bb, eq_nn, ne_nn, dIsN, dNotN, dFgt, dIsB, dNotB, gN, gT, gsNil, gsCons, gSet, dBM, dAppend, dClear, dFld, dFldS, dProp, dCall, dMeth, dMake, dMakeN, daStar, dDictP, dCallO, dFor, dLc, diR1, diR2, diR3, diL, diT, diRv, diS, diE, dFmt, dFStr, dJs, dCallN, dFrzE, frz_l, in_ss, notin_ss, drR1, drR2, dListR, dRaise, dRaise0, dTryAs, dTry, dXf, dAddO, dInO, isL, insOf, Option.some.injEq, List.cons.injEq, D.int.injEq, D.bl.injEq, D.str.injEq, D.lst.injEq, D.tup.injEq, D.ref.injEq, MO.lst.injEq, MO.ins.injEq, mset_mset, and_true, true_and, and_self, and_assoc, exists_eq_left', exists_eq_left, exists_and_left, exists_and_right, exists_eq', List.set_cons_zero, List.set_cons_succ, decide_eq_true_eq, sqOf, lsOf, List.length_cons, List.length_nil, sizeLine_eq, List.append_nil, List.cons_append, List.nil_append, if_true, if_false, Bool.false_eq_true, reduceCtorEq, reduceIte, Nat.reduceAdd, Nat.reduceLeDiff, mset_same, Option.bind_some, List.length_map, Prod.mk.injEq, at0, at1, at2, at3, at4, at5, at6, at7, ix30, ix31, ix32, ix20, ix21, ix10, isi_ii, isi_ib, isi_ll, isi_bb, isi_ss, isi_tt, isi_is, isi_si, Bool.not_true, Bool.not_false, T.cl_Run, T.n_Run_grain, T.n_Run_placed, runD, lk_grain, lk_placed, dWk]
    refine lc_filterD (g := Rw.D) (p := fun x : Rw => decide (x.d ≤ (n : Int))) (f := fun x : Rw => D.int x.c) (by rw [sizeLine_eq]; omega) (fun x hx => ⟨_, rfl, fun Q' q' => ?_, fun _ Q' q' => ?_⟩) ?_
    · simp only [wipeD, Rw.D]
      walk_at "zs"
      exact q'
    · simp only [wipeD, Rw.D]
      walk_at "zs"
      exact q'
    refine ⟨(J.filter fun x => decide (x.d ≤ (n : Int))).map Rw.c, by rw [List.map_map]; rfl, ts.map fun t => tdem t n, by rw [List.map_map]; rfl, m, sub, ?_⟩
    rw [hdue, show (ts.map fun t => tdem t n).sum = sdem ts n from rfl, decide_eq_true rfl]
    exact q
theorem spec_p {K : Fr0} {a b : Addr} {s : PS} {n : Int} {m0 : M} {Q : D → M → Prop} {E : XD → M → Prop} (hp : Pl a b s n) (hn : n ≤ 1000000000) (h : ∀ t s', t.Ok → Pl a b s' (n + 1000) → Q (specD t) (pm a b s' m0)) : sp_law_spec K [.ref a] (pm a b s m0) Q E :=
  ⟨_, a, b, s, n, m0, rfl, rfl, rfl, hp, hn, h⟩
theorem wdN_cl {t : Tsk} {w : List Job} (hc : WkC w) (b : Int) : clR 1 (duD t b w) = true := by
  unfold duD
  cases e : wdN t w w.length with
  | none =>
    have h : PyData.strOk "sum" = true := by decide +kernel
    show ([D.str "sum", .int _].all (clR 0)) = true
    simp [clR, h]
  | some f =>
    obtain ⟨p, hp, hf⟩ := List.exists_of_findSome?_eq_some e
    have hp := List.mem_range.mp hp
    cases f with
    | unk z =>
      have h : PyData.strOk "UnknownKind" = true := by decide +kernel
      have hz : PyData.strOk z = true := by
        unfold wdF at hf
        split at hf
        · cases hf
          exact hc _ (mem_at (jAt_at hp))
        · split at hf
          · cases hf
          · split at hf
            · cases hf
            · unfold stF at hf
              split at hf
              · cases hf
              · split at hf <;> cases hf
      show ([D.str "UnknownKind", .str z].all (clR 0)) = true
      simp [clR, h, hz]
    | rel p =>
      have h : PyData.strOk "BadRelease" = true := by decide +kernel
      show ([D.str "BadRelease", .int 0, .int p].all (clR 0)) = true
      simp [clR, h]
    | arr p =>
      have h : PyData.strOk "NoArrow" = true := by decide +kernel
      show ([D.str "NoArrow", .int 0, .int p].all (clR 0)) = true
      simp [clR, h]
    | gap p =>
      have h : PyData.strOk "GapTooShort" = true := by decide +kernel
      show ([D.str "GapTooShort", .int 0, .int p].all (clR 0)) = true
      simp [clR, h]
theorem pure_law {K : Fr0} {mg : Str → Option Value} (T : Txt K mg) (ds : List D) (m : M) (Q : D → M → Prop) (E : XD → M → Prop) (h : spLaw ds m Q E) : t_law K (fun x _ m => E x m) { nx := fun _ m => Q .non m, rt := Q } (startD nm_law ds) m := by
  obtain ⟨ns, rfl, hl, _, q⟩ := h
  show t_law K _ _ [some (.rdl (ns.map D.int)), none, none, none, none, none, none, none, none, none, none] m
  unfold t_law
  walk_at "zn"
  refine ⟨ns, rfl, hl, fun a b s ha hb p0 => ?_⟩
  walk_at "zn"
  refine draw_p p0 (by omega) (by omega) (by omega) (fun t1 s1 t10 t11 p1 => ?_)
  refine draw_p p1 (by omega) (by omega) (by omega) (fun t2 s2 t20 t21 p2 => ?_)
  walk_at "zn"
  refine draw_p p2 (by omega) (by omega) (by omega) (fun c s3 c0 c1 p3 => ?_)
  walk_at "zs"
  refine ⟨by omega, by omega, ?_⟩
  obtain ⟨P, hP⟩ : ∃ P : List D → M → Prop, ∀ acc m', P acc m' ↔ ∃ (ts : List Tsk) (s' : PS), acc = ts.map specD ∧ (∀ t ∈ ts, t.Ok) ∧ Pl a b s' (4 + 1000 * ts.length) ∧ m' = pm a b s' m := ⟨_, fun _ _ => Iff.rfl⟩
  refine lc_steps (1 + c).toNat (by rw [sizeLine_eq]; omega) P (by rw [rngD_len]; simp) ((hP _ _).mpr ⟨[], s3, rfl, by simp, p3.up (by simp), rfl⟩) (fun x hx acc m' hlt hp' => ?_) (fun acc m' hl2 hp' => ?_)
  · obtain ⟨ts, s', rfl, hts, p', rfl⟩ := (hP _ _).mp hp'
    rw [List.length_map] at hlt
    refine ⟨_, rfl, fun Q' q' => ?_⟩
    simp only [wipeD]
    walk_at "zs"
    refine spec_p p' (by omega) (fun t s2 ok p2 => q' _ _ ((hP _ _).mpr ⟨ts ++ [t], s2, by rw [List.map_append]; rfl, fun y hy => ?_, p2.up (by simp; omega), rfl⟩))
    rcases List.mem_append.mp hy with hy | hy
    · exact hts y hy
    · rw [List.mem_singleton.mp hy]; exact ok
  obtain ⟨ts, s4, rfl, ok, p4, rfl⟩ := (hP _ _).mp hp'
  rw [List.length_map] at hl2
  have tl : 1 ≤ ts.length ∧ ts.length ≤ 3 := by omega
  have p4 := p4.up (show 4 + 1000 * (ts.length : Int) ≤ 4000 by omega)
  clear hP hp' P
  walk_at "zn"
  refine lc_mapD (f := fun t => taskD K t) (by rw [sizeLine_eq]; omega) (fun t ht => ⟨_, rfl, fun Q' q' => ?_⟩) ?_
  · simp only [wipeD, specD]
    walk_at "zs"
    intro x hx
    refine ⟨x, t, _, rfl, rfl, mset_same, ok t ht, ?_⟩
    try simp only [dIfS, dTest, dOp, dVar, dC, dCB, daCons, daNil, dSet, dRet, dNext, dDrop, dAsg, dPar, dAug, dAddI, dBreak, dCont, dRetN, slot, dLen, dCmpI, dSub, dAdd, dMul, dDiv, dMod, dPow, dNeg, dUn, dIx, dInt1, dAbs, dChain, dAnd, dOr, dNot, dAndV, dOrV, dNotV, dTru, dTruB, dIf, dTup, dLst, mkL, dSlice, dSl, doNone, doSome, dSum, dAll, dAny, dList, dTuple, dMax, dMin, eq_ii, ne_ii, eq_ss, ne_ss, eq_bb, ne_bb, eq_nn, ne_nn, dIsN, dNotN, dFgt, dIsB, dNotB, gN, gT, gsNil, gsCons, gSet, dBM, dAppend, dClear, dFld, dFldS, dProp, dCall, dMeth, dMake, dMakeN, daStar, dDictP, dCallO, dFor, dLc, diR1, diR2, diR3, diL, diT, diRv, diS, diE, dFmt, dFStr, dJs, dCallN, dFrzE, frz_l, in_ss, notin_ss, drR1, drR2, dListR, dRaise, dRaise0, dTryAs, dTry, dXf, dAddO, dInO, isL, insOf, Option.some.injEq, List.cons.injEq, D.int.injEq, D.bl.injEq, D.str.injEq, D.lst.injEq, D.tup.injEq, D.ref.injEq, MO.lst.injEq, MO.ins.injEq, mset_mset, and_true, true_and, and_self, and_assoc, exists_eq_left', exists_eq_left, exists_and_left, exists_and_right, exists_eq', List.set_cons_zero, List.set_cons_succ, decide_eq_true_eq, sqOf, lsOf, List.length_cons, List.length_nil, sizeLine_eq, List.append_nil, List.cons_append, List.nil_append, if_true, if_false, Bool.false_eq_true, reduceCtorEq, reduceIte, Nat.reduceAdd, Nat.reduceLeDiff, mset_same, Option.bind_some, List.length_map, Prod.mk.injEq, at0, at1, at2, at3, at4, at5, at6, at7, ix30, ix31, ix32, ix20, ix21, ix10, isi_ii, isi_ib, isi_ll, isi_bb, isi_ss, isi_tt, isi_is, isi_si, Bool.not_true, Bool.not_false, mdel_mset hx]
    exact q'
  have i0 : ∀ {f : Tsk → D}, atI (ts.map f) 0 = some (f (tAt ts 0)) := fun {f} => by
    have := tAt_I (f := f) (ts := ts) (i := 0) (by omega)
    exact this
  have ok0 := ok _ (mem_at (tAt_at (show 0 < ts.length by omega)))
  try simp only [dSeq]
  try simp only [dIfS, dTest, dOp, dVar, dC, dCB, daCons, daNil, dSet, dRet, dNext, dDrop, dAsg, dPar, dAug, dAddI, dBreak, dCont, dRetN, slot, dLen, dCmpI, dSub, dAdd, dMul, dDiv, dMod, dPow, dNeg, dUn, dIx, dInt1, dAbs, dChain, dAnd, dOr, dNot, dAndV, dOrV, dNotV, dTru, dTruB, dIf, dTup, dLst, mkL, dSlice, dSl, doNone, doSome, dSum, dAll, dAny, dList, dTuple, dMax, dMin, eq_ii, ne_ii, eq_ss, ne_ss, eq_bb, ne_bb, eq_nn, ne_nn, dIsN, dNotN, dFgt, dIsB, dNotB, gN, gT, gsNil, gsCons, gSet, dBM, dAppend, dClear, dFld, dFldS, dProp, dCall, dMeth, dMake, dMakeN, daStar, dDictP, dCallO, dFor, dLc, diR1, diR2, diR3, diL, diT, diRv, diS, diE, dFmt, dFStr, dJs, dCallN, dFrzE, frz_l, in_ss, notin_ss, drR1, drR2, dListR, dRaise, dRaise0, dTryAs, dTry, dXf, dAddO, dInO, isL, insOf, Option.some.injEq, List.cons.injEq, D.int.injEq, D.bl.injEq, D.str.injEq, D.lst.injEq, D.tup.injEq, D.ref.injEq, MO.lst.injEq, MO.ins.injEq, mset_mset, and_true, true_and, and_self, and_assoc, exists_eq_left', exists_eq_left, exists_and_left, exists_and_right, exists_eq', List.set_cons_zero, List.set_cons_succ, decide_eq_true_eq, sqOf, lsOf, List.length_cons, List.length_nil, sizeLine_eq, List.append_nil, List.cons_append, List.nil_append, if_true, if_false, Bool.false_eq_true, reduceCtorEq, reduceIte, Nat.reduceAdd, Nat.reduceLeDiff, mset_same, Option.bind_some, List.length_map, Prod.mk.injEq, at0, at1, at2, at3, at4, at5, at6, at7, ix30, ix31, ix32, ix20, ix21, ix10, isi_ii, isi_ib, isi_ll, isi_bb, isi_ss, isi_tt, isi_is, isi_si, Bool.not_true, Bool.not_false, i0]
  refine ⟨_, a, b, s4, _, m, tAt ts 0, rfl, rfl, rfl, p4, by omega, ok0, fun w s5 w1 w9 wc p5 p hp => ?_⟩
  obtain ⟨na, nb, np⟩ := pm_free hp
  rw [pm_mset na nb]
  try simp only [dSeq]
  try simp only [dIfS, dTest, dOp, dVar, dC, dCB, daCons, daNil, dSet, dRet, dNext, dDrop, dAsg, dPar, dAug, dAddI, dBreak, dCont, dRetN, slot, dLen, dCmpI, dSub, dAdd, dMul, dDiv, dMod, dPow, dNeg, dUn, dIx, dInt1, dAbs, dChain, dAnd, dOr, dNot, dAndV, dOrV, dNotV, dTru, dTruB, dIf, dTup, dLst, mkL, dSlice, dSl, doNone, doSome, dSum, dAll, dAny, dList, dTuple, dMax, dMin, eq_ii, ne_ii, eq_ss, ne_ss, eq_bb, ne_bb, eq_nn, ne_nn, dIsN, dNotN, dFgt, dIsB, dNotB, gN, gT, gsNil, gsCons, gSet, dBM, dAppend, dClear, dFld, dFldS, dProp, dCall, dMeth, dMake, dMakeN, daStar, dDictP, dCallO, dFor, dLc, diR1, diR2, diR3, diL, diT, diRv, diS, diE, dFmt, dFStr, dJs, dCallN, dFrzE, frz_l, in_ss, notin_ss, drR1, drR2, dListR, dRaise, dRaise0, dTryAs, dTry, dXf, dAddO, dInO, isL, insOf, Option.some.injEq, List.cons.injEq, D.int.injEq, D.bl.injEq, D.str.injEq, D.lst.injEq, D.tup.injEq, D.ref.injEq, MO.lst.injEq, MO.ins.injEq, mset_mset, and_true, true_and, and_self, and_assoc, exists_eq_left', exists_eq_left, exists_and_left, exists_and_right, exists_eq', List.set_cons_zero, List.set_cons_succ, decide_eq_true_eq, sqOf, lsOf, List.length_cons, List.length_nil, sizeLine_eq, List.append_nil, List.cons_append, List.nil_append, if_true, if_false, Bool.false_eq_true, reduceCtorEq, reduceIte, Nat.reduceAdd, Nat.reduceLeDiff, mset_same, Option.bind_some, List.length_map, Prod.mk.injEq, at0, at1, at2, at3, at4, at5, at6, at7, ix30, ix31, ix32, ix20, ix21, ix10, isi_ii, isi_ib, isi_ll, isi_bb, isi_ss, isi_tt, isi_is, isi_si, Bool.not_true, Bool.not_false, i0]
  refine ⟨_, a, b, s5, _, _, tAt ts 0, w, p, rfl, rfl, rfl, ⟨na, nb, mset_same⟩, p5, by omega, ok0, w1, w9, wc, fun v s6 vl vc p6 p2 hp2 => ?_⟩
  obtain ⟨na2, nb2, np2⟩ := pm_free hp2
  rw [pm_mset na2 nb2]
  walk_at "zn"
  have l100 : (100 : Int).natAbs < 2 ^ 200 := by decide
  refine draw_p p6 (by omega) (by omega) l100 (fun u1 s7 u10 u11 p7 => ?_)
  refine draw_p p7 (by omega) (by omega) (by omega) (fun u2 s8 u20 u21 p8 => ?_)
  walk_at "zn"
  refine ⟨⟨by omega, by omega, by decide⟩, ?_⟩
  have np12 : p ≠ p2 := fun e => by rw [← e, mset_same] at np2; cases np2
  have hm1 : pm a b s8 (mset (mset m p (.lst (w.map hvD))) p2 (.lst (v.map hvD))) p = some (.lst (w.map hvD)) := by rw [pm_ne na nb, mset_ne np12]; exact mset_same
  have hm2 : pm a b s8 (mset (mset m p (.lst (w.map hvD))) p2 (.lst (v.map hvD))) p2 = some (.lst (v.map hvD)) := by rw [pm_ne na2 nb2]; exact mset_same
  generalize pm a b s8 (mset (mset m p (.lst (w.map hvD))) p2 (.lst (v.map hvD))) = MM at *
  walk_at "zn"
  obtain ⟨P1, hP1⟩ : ∃ P : Nat → DSt → M → Prop, ∀ j rr m', P j rr m' ↔ (MM = m' ∧ ∃ o10, rr = [some (.rdl (ns.map D.int)), some (.ref a), some (.lst [.int t1, .int t2]), some (.lst (ts.map specD)), none, some (.lst (ts.map (taskD K))), none, some (.ref p), some (.ref p2), some (.lst [.int u1, .int (u2 - 6), .int 1000000]), o10]) := ⟨_, fun _ _ _ => Iff.rfl⟩
  refine ⟨P1, (hP1 _ _ _).mpr ⟨rfl, _, rfl⟩, ?_, ?_⟩
  · intro j d rr m' hd hp1
    obtain ⟨rfl, o10, rfl⟩ := (hP1 _ _ _).mp hp1
    obtain ⟨n, hn, rfl⟩ : ∃ n : Nat, n ≤ 60 ∧ d = .int (n : Int) := by
      have hm := mem_at hd
      simp only [List.mem_cons, List.not_mem_nil, or_false] at hm
      rcases hm with rfl | rfl
      · exact ⟨t1.toNat, by omega, by rw [Int.toNat_of_nonneg t10]⟩
      · exact ⟨t2.toNat, by omega, by rw [Int.toNat_of_nonneg t20]⟩
    walk_at "zn"
    refine ⟨ts, n, rfl, ok, by omega, hn, true, rfl, ?_⟩
    rw [if_neg (by decide)]
    exact (hP1 _ _ _).mpr ⟨rfl, _, rfl⟩
  intro rr m' hp1
  obtain ⟨rfl, o10, rfl⟩ := (hP1 _ _ _).mp hp1
  clear hp1 hP1 P1
  walk_at "zn"
  obtain ⟨P2, hP2⟩ : ∃ P : Nat → DSt → M → Prop, ∀ j rr m', P j rr m' ↔ (MM = m' ∧ ∃ o10, rr = [some (.rdl (ns.map D.int)), some (.ref a), some (.lst [.int t1, .int t2]), some (.lst (ts.map specD)), none, some (.lst (ts.map (taskD K))), none, some (.ref p), some (.ref p2), some (.lst [.int u1, .int (u2 - 6), .int 1000000]), o10]) := ⟨_, fun _ _ _ => Iff.rfl⟩
  refine ⟨P2, (hP2 _ _ _).mpr ⟨rfl, _, rfl⟩, ?_, ?_⟩
  · intro j d rr m' hd hp2
    obtain ⟨rfl, o10, rfl⟩ := (hP2 _ _ _).mp hp2
    obtain ⟨n, rfl⟩ : ∃ n : Int, d = .int n := by
      have hm := mem_at hd
      simp only [List.mem_cons, List.not_mem_nil, or_false] at hm
      rcases hm with rfl | rfl | rfl <;> exact ⟨_, rfl⟩
    try simp only [dSeq]
    try simp only [dIfS, dTest, dOp, dVar, dC, dCB, daCons, daNil, dSet, dRet, dNext, dDrop, dAsg, dPar, dAug, dAddI, dBreak, dCont, dRetN, slot, dLen, dCmpI, dSub, dAdd, dMul, dDiv, dMod, dPow, dNeg, dUn, dIx, dInt1, dAbs, dChain, dAnd, dOr, dNot, dAndV, dOrV, dNotV, dTru, dTruB, dIf, dTup, dLst, mkL, dSlice, dSl, doNone, doSome, dSum, dAll, dAny, dList, dTuple, dMax, dMin, eq_ii, ne_ii, eq_ss, ne_ss, eq_bb, ne_bb, eq_nn, ne_nn, dIsN, dNotN, dFgt, dIsB, dNotB, gN, gT, gsNil, gsCons, gSet, dBM, dAppend, dClear, dFld, dFldS, dProp, dCall, dMeth, dMake, dMakeN, daStar, dDictP, dCallO, dFor, dLc, diR1, diR2, diR3, diL, diT, diRv, diS, diE, dFmt, dFStr, dJs, dCallN, dFrzE, frz_l, in_ss, notin_ss, drR1, drR2, dListR, dRaise, dRaise0, dTryAs, dTry, dXf, dAddO, dInO, isL, insOf, Option.some.injEq, List.cons.injEq, D.int.injEq, D.bl.injEq, D.str.injEq, D.lst.injEq, D.tup.injEq, D.ref.injEq, MO.lst.injEq, MO.ins.injEq, mset_mset, and_true, true_and, and_self, and_assoc, exists_eq_left', exists_eq_left, exists_and_left, exists_and_right, exists_eq', List.set_cons_zero, List.set_cons_succ, decide_eq_true_eq, sqOf, lsOf, List.length_cons, List.length_nil, sizeLine_eq, List.append_nil, List.cons_append, List.nil_append, if_true, if_false, Bool.false_eq_true, reduceCtorEq, reduceIte, Nat.reduceAdd, Nat.reduceLeDiff, mset_same, Option.bind_some, List.length_map, Prod.mk.injEq, at0, at1, at2, at3, at4, at5, at6, at7, ix30, ix31, ix32, ix20, ix21, ix10, isi_ii, isi_ib, isi_ll, isi_bb, isi_ss, isi_tt, isi_is, isi_si, Bool.not_true, Bool.not_false, i0]
    refine ⟨tAt ts 0, _, _, w, n, rfl, rfl, ⟨p, rfl, hm1⟩, wc, ok0, by omega, ?_⟩
    refine ⟨tAt ts 0, _, w, n, rfl, ⟨p, rfl, hm1⟩, ok0, by omega, ?_⟩
    refine dNe_refl (n := 1) (by omega) (wdN_cl wc n) ⟨false, rfl, ?_⟩
    rw [if_neg (by decide)]
    try simp only [dSeq]
    try simp only [dIfS, dTest, dOp, dVar, dC, dCB, daCons, daNil, dSet, dRet, dNext, dDrop, dAsg, dPar, dAug, dAddI, dBreak, dCont, dRetN, slot, dLen, dCmpI, dSub, dAdd, dMul, dDiv, dMod, dPow, dNeg, dUn, dIx, dInt1, dAbs, dChain, dAnd, dOr, dNot, dAndV, dOrV, dNotV, dTru, dTruB, dIf, dTup, dLst, mkL, dSlice, dSl, doNone, doSome, dSum, dAll, dAny, dList, dTuple, dMax, dMin, eq_ii, ne_ii, eq_ss, ne_ss, eq_bb, ne_bb, eq_nn, ne_nn, dIsN, dNotN, dFgt, dIsB, dNotB, gN, gT, gsNil, gsCons, gSet, dBM, dAppend, dClear, dFld, dFldS, dProp, dCall, dMeth, dMake, dMakeN, daStar, dDictP, dCallO, dFor, dLc, diR1, diR2, diR3, diL, diT, diRv, diS, diE, dFmt, dFStr, dJs, dCallN, dFrzE, frz_l, in_ss, notin_ss, drR1, drR2, dListR, dRaise, dRaise0, dTryAs, dTry, dXf, dAddO, dInO, isL, insOf, Option.some.injEq, List.cons.injEq, D.int.injEq, D.bl.injEq, D.str.injEq, D.lst.injEq, D.tup.injEq, D.ref.injEq, MO.lst.injEq, MO.ins.injEq, mset_mset, and_true, true_and, and_self, and_assoc, exists_eq_left', exists_eq_left, exists_and_left, exists_and_right, exists_eq', List.set_cons_zero, List.set_cons_succ, decide_eq_true_eq, sqOf, lsOf, List.length_cons, List.length_nil, sizeLine_eq, List.append_nil, List.cons_append, List.nil_append, if_true, if_false, Bool.false_eq_true, reduceCtorEq, reduceIte, Nat.reduceAdd, Nat.reduceLeDiff, mset_same, Option.bind_some, List.length_map, Prod.mk.injEq, at0, at1, at2, at3, at4, at5, at6, at7, ix30, ix31, ix32, ix20, ix21, ix10, isi_ii, isi_ib, isi_ll, isi_bb, isi_ss, isi_tt, isi_is, isi_si, Bool.not_true, Bool.not_false, i0]
    refine ⟨tAt ts 0, _, _, v, n, rfl, rfl, ⟨p2, rfl, hm2⟩, vc, ok0, by omega, ?_⟩
    refine ⟨tAt ts 0, _, v, n, rfl, ⟨p2, rfl, hm2⟩, ok0, by omega, ?_⟩
    refine dNe_refl (n := 1) (by omega) (wdN_cl vc n) ⟨false, rfl, ?_⟩
    rw [if_neg (by decide)]
    exact (hP2 _ _ _).mpr ⟨rfl, _, rfl⟩
  intro rr m' hp2
  obtain ⟨rfl, o10, rfl⟩ := (hP2 _ _ _).mp hp2
  walk_at "zs"
  exact q _
end LW

set_option Elab.async false
set_option linter.all false
set_option maxRecDepth 100000
set_option maxHeartbeats 4000000
namespace LW
open PySem PySem.Spec PyProof.Rows L2 DL RowM
open He (ga ma)
theorem okx_UnknownKind {P : Program} {w : World} {K : PySem.W.Frag} {mg : Str → Option Value} {base : Heap} (T : Txt K mg) : ∃ fd, FnOk P w K mg base (L2.CX P w) 1 (ma K (ga K "UnknownKind") "__init__") fd ["self", "name"] (spX (ga K "UnknownKind") ["name"]) ∧ Binds K fd ["self", "name"] [] := by
  obtain ⟨fd, F⟩ := T.d_UnknownKind_init
  refine ⟨fd, fn_exc (k := 0) F sc_UnknownKind_init T.ox_UnknownKind ?_ rfl (by decide) (fun cdv A outer s H E => pss_cons (ps_ost (pv 0) (pv 1)) (pss_nil)), F.bindsN fun _ _ _ _ _ _ us hl => match us, hl with | [_, _], _ => rfl⟩
  intro g hg
  rcases List.mem_cons.mp hg with rfl | hg
  · exact T.nf_UnknownKind_name
  cases hg

theorem okx_OutOfRange {P : Program} {w : World} {K : PySem.W.Frag} {mg : Str → Option Value} {base : Heap} (T : Txt K mg) : ∃ fd, FnOk P w K mg base (L2.CX P w) 1 (ma K (ga K "OutOfRange") "__init__") fd ["self", "what", "value"] (spX (ga K "OutOfRange") ["what", "value"]) ∧ Binds K fd ["self", "what", "value"] [] := by
  obtain ⟨fd, F⟩ := T.d_OutOfRange_init
  refine ⟨fd, fn_exc (k := 0) F sc_OutOfRange_init T.ox_OutOfRange ?_ rfl (by decide) (fun cdv A outer s H E => pss_cons (ps_ost (pv 0) (pv 1)) (pss_cons (ps_ost (pv 0) (pv 2)) (pss_nil))), F.bindsN fun _ _ _ _ _ _ us hl => match us, hl with | [_, _, _], _ => rfl⟩
  intro g hg
  rcases List.mem_cons.mp hg with rfl | hg
  · exact T.nf_OutOfRange_what
  rcases List.mem_cons.mp hg with rfl | hg
  · exact T.nf_OutOfRange_value
  cases hg

theorem okx_WrongCount {P : Program} {w : World} {K : PySem.W.Frag} {mg : Str → Option Value} {base : Heap} (T : Txt K mg) : ∃ fd, FnOk P w K mg base (L2.CX P w) 1 (ma K (ga K "WrongCount") "__init__") fd ["self", "what", "count"] (spX (ga K "WrongCount") ["what", "count"]) ∧ Binds K fd ["self", "what", "count"] [] := by
  obtain ⟨fd, F⟩ := T.d_WrongCount_init
  refine ⟨fd, fn_exc (k := 0) F sc_WrongCount_init T.ox_WrongCount ?_ rfl (by decide) (fun cdv A outer s H E => pss_cons (ps_ost (pv 0) (pv 1)) (pss_cons (ps_ost (pv 0) (pv 2)) (pss_nil))), F.bindsN fun _ _ _ _ _ _ us hl => match us, hl with | [_, _, _], _ => rfl⟩
  intro g hg
  rcases List.mem_cons.mp hg with rfl | hg
  · exact T.nf_WrongCount_what
  rcases List.mem_cons.mp hg with rfl | hg
  · exact T.nf_WrongCount_count
  cases hg

theorem okx_BadCost {P : Program} {w : World} {K : PySem.W.Frag} {mg : Str → Option Value} {base : Heap} (T : Txt K mg) : ∃ fd, FnOk P w K mg base (L2.CX P w) 1 (ma K (ga K "BadCost") "__init__") fd ["self", "task", "place"] (spX (ga K "BadCost") ["task", "place"]) ∧ Binds K fd ["self", "task", "place"] [] := by
  obtain ⟨fd, F⟩ := T.d_BadCost_init
  refine ⟨fd, fn_exc (k := 0) F sc_BadCost_init T.ox_BadCost ?_ rfl (by decide) (fun cdv A outer s H E => pss_cons (ps_ost (pv 0) (pv 1)) (pss_cons (ps_ost (pv 0) (pv 2)) (pss_nil))), F.bindsN fun _ _ _ _ _ _ us hl => match us, hl with | [_, _, _], _ => rfl⟩
  intro g hg
  rcases List.mem_cons.mp hg with rfl | hg
  · exact T.nf_BadCost_task
  rcases List.mem_cons.mp hg with rfl | hg
  · exact T.nf_BadCost_place
  cases hg

theorem okx_BadRelease {P : Program} {w : World} {K : PySem.W.Frag} {mg : Str → Option Value} {base : Heap} (T : Txt K mg) : ∃ fd, FnOk P w K mg base (L2.CX P w) 1 (ma K (ga K "BadRelease") "__init__") fd ["self", "task", "place"] (spX (ga K "BadRelease") ["task", "place"]) ∧ Binds K fd ["self", "task", "place"] [] := by
  obtain ⟨fd, F⟩ := T.d_BadRelease_init
  refine ⟨fd, fn_exc (k := 0) F sc_BadRelease_init T.ox_BadRelease ?_ rfl (by decide) (fun cdv A outer s H E => pss_cons (ps_ost (pv 0) (pv 1)) (pss_cons (ps_ost (pv 0) (pv 2)) (pss_nil))), F.bindsN fun _ _ _ _ _ _ us hl => match us, hl with | [_, _, _], _ => rfl⟩
  intro g hg
  rcases List.mem_cons.mp hg with rfl | hg
  · exact T.nf_BadRelease_task
  rcases List.mem_cons.mp hg with rfl | hg
  · exact T.nf_BadRelease_place
  cases hg

theorem okx_NoArrow {P : Program} {w : World} {K : PySem.W.Frag} {mg : Str → Option Value} {base : Heap} (T : Txt K mg) : ∃ fd, FnOk P w K mg base (L2.CX P w) 1 (ma K (ga K "NoArrow") "__init__") fd ["self", "task", "place"] (spX (ga K "NoArrow") ["task", "place"]) ∧ Binds K fd ["self", "task", "place"] [] := by
  obtain ⟨fd, F⟩ := T.d_NoArrow_init
  refine ⟨fd, fn_exc (k := 0) F sc_NoArrow_init T.ox_NoArrow ?_ rfl (by decide) (fun cdv A outer s H E => pss_cons (ps_ost (pv 0) (pv 1)) (pss_cons (ps_ost (pv 0) (pv 2)) (pss_nil))), F.bindsN fun _ _ _ _ _ _ us hl => match us, hl with | [_, _, _], _ => rfl⟩
  intro g hg
  rcases List.mem_cons.mp hg with rfl | hg
  · exact T.nf_NoArrow_task
  rcases List.mem_cons.mp hg with rfl | hg
  · exact T.nf_NoArrow_place
  cases hg

theorem okx_GapTooShort {P : Program} {w : World} {K : PySem.W.Frag} {mg : Str → Option Value} {base : Heap} (T : Txt K mg) : ∃ fd, FnOk P w K mg base (L2.CX P w) 1 (ma K (ga K "GapTooShort") "__init__") fd ["self", "task", "place"] (spX (ga K "GapTooShort") ["task", "place"]) ∧ Binds K fd ["self", "task", "place"] [] := by
  obtain ⟨fd, F⟩ := T.d_GapTooShort_init
  refine ⟨fd, fn_exc (k := 0) F sc_GapTooShort_init T.ox_GapTooShort ?_ rfl (by decide) (fun cdv A outer s H E => pss_cons (ps_ost (pv 0) (pv 1)) (pss_cons (ps_ost (pv 0) (pv 2)) (pss_nil))), F.bindsN fun _ _ _ _ _ _ us hl => match us, hl with | [_, _, _], _ => rfl⟩
  intro g hg
  rcases List.mem_cons.mp hg with rfl | hg
  · exact T.nf_GapTooShort_task
  rcases List.mem_cons.mp hg with rfl | hg
  · exact T.nf_GapTooShort_place
  cases hg

theorem ok_is_name {P : Program} {w : World} {K : PySem.W.Frag} {mg : Str → Option Value} {base : Heap} (T : Txt K mg) (TB : TabBs K mg base)  : Good P w K mg base 1 (some "is_name") (ga K "is_name") ["text"] (sp_is_name K) := by
  obtain ⟨fd, F⟩ := T.d_is_name
  refine ⟨⟨fd, fn_d (k := 0) F sc_is_name len_is_name (t_is_name K) (fun cdv A outer s H E WD hr tk hp => ?_) (pure_is_name T), F.bindsN fun _ _ _ _ _ _ us hl => match us, hl with | [_], _ => rfl, F.kp⟩, T.g_is_name⟩
  refine dss_cons (ds_if (dt_w (dw_or (dt_not (dt_chain op_le od_cmpI op_le od_cmpI de_int (de_callB call_len cd_len rfl T.b_len (by decide +kernel) (da_cons (dv 0) da_nil)) (de_globI rfl T.k_LONGEST_NAME))) (dw_or1 (dt_cmp op_notInA od_notIn (de_ix (dv 0) de_int) (de_globS rfl T.k_LETTERS) (by rfl))))) (dss_one (ds_ret de_bl)) dss_nil) ?_
  exact dss_one (ds_ret (de_callB (cr_all rfl) cd_all rfl T.b_all (by decide +kernel) (da_cons (de_lc false (own := [("sign", 1)]) (c := .one 1) (te := dOrV (dOp (dIn false) (dVar 1) (dC (.str "abcdefghijklmnopqrstuvwxyz"))) (dOp (dIn false) (dVar 1) (dC (.str "0123456789_")))) (tt := dYes) rfl sc_is_name.nd (by simp [CT.in]) (di_str (dv 0)) (blkOk_by (own := [("sign", 1)]) (N := nm_is_name) (sc := defScope s_is_name) (by decide +kernel)) (fun _ _ _ _ _ => pg_ct1 (i := 1) sc_is_name.nd rfl (Or.inl rfl)) (fun _ _ _ _ _ => dts_nil) (fun _ _ _ _ _ => de_or (de_cmp op_inA od_in (dv 1) (de_globS rfl T.k_LETTERS) (by rfl)) (de_one (de_cmp op_inA od_in (dv 1) (de_globS rfl T.k_OTHER_SIGNS) (by rfl))))) da_nil)))

theorem ok_need_name {P : Program} {w : World} {K : PySem.W.Frag} {mg : Str → Option Value} {base : Heap} (T : Txt K mg) (TB : TabBs K mg base) (c_is_name : Good P w K mg base 1 (some "is_name") (ga K "is_name") ["text"] (sp_is_name K)) : Good P w K mg base 2 (some "need_name") (ga K "need_name") ["text"] (sp_need_name K) := by
  obtain ⟨_, c_is_name_ok, c_is_name_b, c_is_name_kp⟩ := c_is_name.ex
  have c_is_name_g := c_is_name.gl
  obtain ⟨fd, F⟩ := T.d_need_name
  refine ⟨⟨fd, fn_d (k := 1) F sc_need_name len_need_name (t_need_name K) (fun cdv A outer s H E WD hr tk hp => ?_) (pure_need_name T), F.bindsN fun _ _ _ _ _ _ us hl => match us, hl with | [_], _ => rfl, F.kp⟩, T.g_need_name⟩
  exact dss_one (ds_if (dt_not (dt_tru (de_call c_is_name_ok (hr.mono (by decide)) rfl c_is_name_g c_is_name_kp c_is_name_b .nil (fun _ => .nil) tk (da_cons (dv 0) da_nil)))) (dss_one ds_never) dss_nil)

theorem ok_need_range {P : Program} {w : World} {K : PySem.W.Frag} {mg : Str → Option Value} {base : Heap} (T : Txt K mg) (TB : TabBs K mg base)  : Good P w K mg base 1 (some "need_range") (ga K "need_range") ["what", "value", "least", "most"] (sp_need_range K) := by
  obtain ⟨fd, F⟩ := T.d_need_range
  refine ⟨⟨fd, fn_d (k := 0) F sc_need_range len_need_range (t_need_range K) (fun cdv A outer s H E WD hr tk hp => ?_) (pure_need_range T), F.bindsN fun _ _ _ _ _ _ us hl => match us, hl with | [_, _, _, _], _ => rfl, F.kp⟩, T.g_need_range⟩
  exact dss_one (ds_if (dt_w (dw_or (dt_cmp op_lt od_cmpI (dv 1) (dv 2) (nomark _)) (dw_or1 (dt_cmp op_gt od_cmpI (dv 1) (dv 3) (nomark _))))) (dss_one ds_never) dss_nil)

theorem ok_need_kind {P : Program} {w : World} {K : PySem.W.Frag} {mg : Str → Option Value} {base : Heap} (T : Txt K mg) (TB : TabBs K mg base)  : Good P w K mg base 1 (some "need_kind") (ga K "need_kind") ["name", "kind_rows"] (sp_need_kind K) := by
  obtain ⟨fd, F⟩ := T.d_need_kind
  refine ⟨⟨fd, fn_d (k := 0) F sc_need_kind len_need_kind (t_need_kind K) (fun cdv A outer s H E WD hr tk hp => ?_) (pure_need_kind T), F.bindsN fun _ _ _ _ _ _ us hl => match us, hl with | [_, _], _ => rfl, F.kp⟩, T.g_need_kind⟩
  exact dss_one (ds_if (dt_cmp op_notInA od_notIn (dv 0) (de_lc false (own := [("row", 2)]) (c := .one 2) (te := dOp dIx (dVar 2) (dC (.int 0))) (tt := dYes) rfl sc_need_kind.nd (by simp [CT.in]) (di_list (dv 1)) (blkOk_by (own := [("row", 2)]) (N := nm_need_kind) (sc := defScope s_need_kind) (by decide +kernel)) (fun _ _ _ _ _ => pg_ct1 (i := 2) sc_need_kind.nd rfl (Or.inl rfl)) (fun _ _ _ _ _ => dts_nil) (fun _ _ _ _ _ => de_ix (dv 2) de_int)) (by rfl)) (dss_one ds_never) dss_nil)

theorem ok_checked_kinds {P : Program} {w : World} {K : PySem.W.Frag} {mg : Str → Option Value} {base : Heap} (T : Txt K mg) (TB : TabBs K mg base) (c_need_name : Good P w K mg base 2 (some "need_name") (ga K "need_name") ["text"] (sp_need_name K)) (c_need_range : Good P w K mg base 1 (some "need_range") (ga K "need_range") ["what", "value", "least", "most"] (sp_need_range K)) : Good P w K mg base 3 (some "checked_kinds") (ga K "checked_kinds") ["kinds", "branching"] (sp_checked_kinds K) := by
  obtain ⟨_, c_need_name_ok, c_need_name_b, c_need_name_kp⟩ := c_need_name.ex
  have c_need_name_g := c_need_name.gl
  obtain ⟨_, c_need_range_ok, c_need_range_b, c_need_range_kp⟩ := c_need_range.ex
  have c_need_range_g := c_need_range.gl
  obtain ⟨fd, F⟩ := T.d_checked_kinds
  refine ⟨⟨fd, fn_d (k := 2) F sc_checked_kinds len_checked_kinds (t_checked_kinds K) (fun cdv A outer s H E WD hr tk hp => ?_) (pure_checked_kinds T), F.bindsN fun _ _ _ _ _ _ us hl => match us, hl with | [_, _], _ => rfl, F.kp⟩, T.g_checked_kinds⟩
  refine dss_cons (ds_asg (de_ifExp (dt_tru (dv 1)) (de_tup (da_cons de_int (da_cons de_int da_nil))) (de_tup (da_cons de_int (da_cons de_int da_nil)))) (dg_tup rfl (dgs_cons (dg_name (i := 2) sc_checked_kinds.nd rfl (Or.inl rfl)) (dgs_cons (dg_name (i := 3) sc_checked_kinds.nd rfl (Or.inl rfl)) dgs_nil)))) ?_
  refine dss_cons (ds_set (i := 4) sc_checked_kinds.nd rfl (Or.inl rfl) (de_lst true da_nil)) ?_
  refine dss_cons (ds_for hp rfl (di_list (dv 0)) (dg_tup rfl (dgs_cons (dg_name (i := 5) sc_checked_kinds.nd rfl (Or.inl rfl)) (dgs_cons (dg_name (i := 6) sc_checked_kinds.nd rfl (Or.inl rfl)) (dgs_cons (dg_name (i := 7) sc_checked_kinds.nd rfl (Or.inl rfl)) dgs_nil)))) (dss_cons (ds_expr (de_call c_need_name_ok (hr.mono (by decide)) rfl c_need_name_g c_need_name_kp c_need_name_b .nil (fun _ => .nil) tk (da_cons (dv 5) da_nil)))
    (dss_cons (ds_if (dt_cmp op_inA od_in (dv 5) (de_lcM false (own := [("row", 8)]) (c := .one 8) (te := dOp dIx (dVar 8) (dC (.int 0))) (tt := dYes) rfl sc_checked_kinds.nd (by simp [CT.in]) (dv 4) (blkOk_by (own := [("row", 8)]) (N := nm_checked_kinds) (sc := defScope s_checked_kinds) (by decide +kernel)) (fun _ _ _ _ _ => pg_ct1 (i := 8) sc_checked_kinds.nd rfl (Or.inl rfl)) (fun _ _ _ _ _ => dts_nil) (fun _ _ _ _ _ => de_ix (dv 8) de_int)) (by rfl)) (dss_one ds_never) dss_nil)
    (dss_cons (ds_expr (de_call c_need_range_ok (hr.mono (by decide)) rfl c_need_range_g c_need_range_kp c_need_range_b .nil (fun _ => .nil) tk (da_cons de_str (da_cons (dv 6) (da_cons de_int (da_cons (dv 2) da_nil))))))
    (dss_cons (ds_expr (de_call c_need_range_ok (hr.mono (by decide)) rfl c_need_range_g c_need_range_kp c_need_range_b .nil (fun _ => .nil) tk (da_cons de_str (da_cons (dv 7) (da_cons de_int (da_cons (dv 3) da_nil))))))
    (dss_one (ds_expr (de_bm PySem.F.plainAttrs_list PySem.F.slot_list_append PySem.F.type_list_append mt_append md_append (dv 4) (da_cons (de_tup (da_cons (dv 5) (da_cons (dv 6) (da_cons (dv 7) da_nil)))) da_nil))))))))) ?_
  exact dss_one (ds_ret (de_frz (dv 4)))

theorem ok_checked_arrows {P : Program} {w : World} {K : PySem.W.Frag} {mg : Str → Option Value} {base : Heap} (T : Txt K mg) (TB : TabBs K mg base) (c_need_kind : Good P w K mg base 1 (some "need_kind") (ga K "need_kind") ["name", "kind_rows"] (sp_need_kind K)) (c_need_range : Good P w K mg base 1 (some "need_range") (ga K "need_range") ["what", "value", "least", "most"] (sp_need_range K)) : Good P w K mg base 2 (some "checked_arrows") (ga K "checked_arrows") ["arrows", "kind_rows"] (sp_checked_arrows K) := by
  obtain ⟨_, c_need_kind_ok, c_need_kind_b, c_need_kind_kp⟩ := c_need_kind.ex
  have c_need_kind_g := c_need_kind.gl
  obtain ⟨_, c_need_range_ok, c_need_range_b, c_need_range_kp⟩ := c_need_range.ex
  have c_need_range_g := c_need_range.gl
  obtain ⟨fd, F⟩ := T.d_checked_arrows
  refine ⟨⟨fd, fn_d (k := 1) F sc_checked_arrows len_checked_arrows (t_checked_arrows K) (fun cdv A outer s H E WD hr tk hp => ?_) (pure_checked_arrows T), F.bindsN fun _ _ _ _ _ _ us hl => match us, hl with | [_, _], _ => rfl, F.kp⟩, T.g_checked_arrows⟩
  refine dss_cons (ds_set (i := 2) sc_checked_arrows.nd rfl (Or.inl rfl) (de_lst true da_nil)) ?_
  refine dss_cons (ds_for hp rfl (di_seq (dv 0)) (dg_tup rfl (dgs_cons (dg_name (i := 3) sc_checked_arrows.nd rfl (Or.inl rfl)) (dgs_cons (dg_name (i := 4) sc_checked_arrows.nd rfl (Or.inl rfl)) (dgs_cons (dg_name (i := 5) sc_checked_arrows.nd rfl (Or.inl rfl)) dgs_nil)))) (dss_cons (ds_expr (de_call c_need_kind_ok (hr.mono (by decide)) rfl c_need_kind_g c_need_kind_kp c_need_kind_b .nil (fun _ => .nil) tk (da_cons (dv 3) (da_cons (dv 1) da_nil))))
    (dss_cons (ds_expr (de_call c_need_kind_ok (hr.mono (by decide)) rfl c_need_kind_g c_need_kind_kp c_need_kind_b .nil (fun _ => .nil) tk (da_cons (dv 4) (da_cons (dv 1) da_nil))))
    (dss_cons (ds_expr (de_call c_need_range_ok (hr.mono (by decide)) rfl c_need_range_g c_need_range_kp c_need_range_b .nil (fun _ => .nil) tk (da_cons de_str (da_cons (dv 5) (da_cons de_int (da_cons (de_globI rfl T.k_MOST_GAP) da_nil))))))
    (dss_cons (ds_if (dt_cmp (op_inD hr.units) (od_inD false) (de_tup (da_cons (dv 3) (da_cons (dv 4) da_nil))) (de_lcM false (own := [("row", 6)]) (c := .one 6) (te := dTup (daCons (dOp dIx (dVar 6) (dC (.int 0))) (daCons (dOp dIx (dVar 6) (dC (.int 1))) daNil))) (tt := dYes) rfl sc_checked_arrows.nd (by simp [CT.in]) (dv 2) (blkOk_by (own := [("row", 6)]) (N := nm_checked_arrows) (sc := defScope s_checked_arrows) (by decide +kernel)) (fun _ _ _ _ _ => pg_ct1 (i := 6) sc_checked_arrows.nd rfl (Or.inl rfl)) (fun _ _ _ _ _ => dts_nil) (fun _ _ _ _ _ => de_tup (da_cons (de_ix (dv 6) de_int) (da_cons (de_ix (dv 6) de_int) da_nil)))) (by rfl)) (dss_one ds_never) dss_nil)
    (dss_one (ds_expr (de_bm PySem.F.plainAttrs_list PySem.F.slot_list_append PySem.F.type_list_append mt_append md_append (dv 2) (da_cons (de_tup (da_cons (dv 3) (da_cons (dv 4) (da_cons (dv 5) da_nil)))) da_nil))))))))) ?_
  exact dss_one (ds_ret (de_frz (dv 2)))

theorem ok_Task_init {P : Program} {w : World} {K : PySem.W.Frag} {mg : Str → Option Value} {base : Heap} (T : Txt K mg) (TB : TabBs K mg base) (c_need_name : Good P w K mg base 2 (some "need_name") (ga K "need_name") ["text"] (sp_need_name K)) (c_checked_kinds : Good P w K mg base 3 (some "checked_kinds") (ga K "checked_kinds") ["kinds", "branching"] (sp_checked_kinds K)) (c_checked_arrows : Good P w K mg base 2 (some "checked_arrows") (ga K "checked_arrows") ["arrows", "kind_rows"] (sp_checked_arrows K)) : GoodD P w K mg base 4 none (ma K (ga K "Task") "__init__") ["self", "name", "kinds", "arrows"] (sp_Task_init K) [.tup []] := by
  obtain ⟨_, c_need_name_ok, c_need_name_b, c_need_name_kp⟩ := c_need_name.ex
  have c_need_name_g := c_need_name.gl
  obtain ⟨_, c_checked_kinds_ok, c_checked_kinds_b, c_checked_kinds_kp⟩ := c_checked_kinds.ex
  have c_checked_kinds_g := c_checked_kinds.gl
  obtain ⟨_, c_checked_arrows_ok, c_checked_arrows_b, c_checked_arrows_kp⟩ := c_checked_arrows.ex
  have c_checked_arrows_g := c_checked_arrows.gl
  obtain ⟨fd, F⟩ := T.d_Task_init
  obtain ⟨dV, hdV, hbV⟩ := FunD.binds1 (ps := ["self", "name", "kinds", "arrows"]) F 3 0 (by simp) rfl (fun T kV doc pm an cdv ct us its h1 h2 => match us, its, h1, h2 with | [_, _, _], [_], _, _ => ⟨_, rfl, rfl⟩)
  obtain ⟨dW, hdW, hbW⟩ := FunD.binds1 (ps := ["self", "name", "kinds", "arrows"]) F 4 1 (by simp) rfl (fun T kV doc pm an cdv ct us its h1 h2 => match us, its, h1, h2 with | [_, _, _, _], [_], _, _ => ⟨_, rfl, rfl⟩)
  cases hdW
  refine ⟨⟨fd, fn_d (k := 3) F sc_Task_init len_Task_init (t_Task_init K) (fun cdv A outer s H E WD hr tk hp => ?_) (pure_Task_init T), F.kp, hbW, dV, _, hdV, hbV, fun G => tup0_of T.t0_Task_init G⟩, trivial⟩
  refine dss_cons (ds_expr (de_call c_need_name_ok (hr.mono (by decide)) rfl c_need_name_g c_need_name_kp c_need_name_b .nil (fun _ => .nil) tk (da_cons (dv 1) da_nil))) ?_
  refine dss_cons (ds_if (dt_not (dt_chain op_le od_cmpI op_le od_cmpI de_int (de_callB call_len cd_len rfl T.b_len (by decide +kernel) (da_cons (dv 2) da_nil)) (de_globI rfl T.k_MOST_KINDS))) (dss_one ds_never) dss_nil) ?_
  refine dss_cons (ds_if (dt_cmp op_gt od_cmpI (de_callB call_len cd_len rfl T.b_len (by decide +kernel) (da_cons (dv 3) da_nil)) (de_globI rfl T.k_MOST_ARROWS) (nomark _)) (dss_one ds_never) dss_nil) ?_
  refine dss_cons (ds_fld (dv 0) (dv 1)) ?_
  refine dss_cons (ds_fld (dv 0) (de_call c_checked_kinds_ok (hr.mono (by decide)) rfl c_checked_kinds_g c_checked_kinds_kp c_checked_kinds_b .nil (fun _ => .nil) tk (da_cons (dv 2) (da_cons (de_cmp op_gt od_cmpI (de_callB call_len cd_len rfl T.b_len (by decide +kernel) (da_cons (dv 3) da_nil)) de_int (nomark _)) da_nil)))) ?_
  exact dss_one (ds_fld (dv 0) (de_call c_checked_arrows_ok (hr.mono (by decide)) rfl c_checked_arrows_g c_checked_arrows_kp c_checked_arrows_b .nil (fun _ => .nil) tk (da_cons (dv 3) (da_cons (de_fld (dv 0)) da_nil))))

theorem ok_Task_kinds {P : Program} {w : World} {K : PySem.W.Frag} {mg : Str → Option Value} {base : Heap} (T : Txt K mg) (TB : TabBs K mg base)  : Good P w K mg base 1 none (wad K "property" "Task" "kinds") ["self"] (sp_Task_kinds K) := by
  obtain ⟨fd, F⟩ := T.d_Task_kinds
  refine ⟨⟨fd, fn_d (k := 0) F sc_Task_kinds len_Task_kinds (t_Task_kinds K) (fun cdv A outer s H E WD hr tk hp => ?_) (pure_Task_kinds T), F.bindsN fun _ _ _ _ _ _ us hl => match us, hl with | [_], _ => rfl, F.kp⟩, trivial⟩
  exact dss_one (ds_ret (de_callTy call_list_of (cd_list false) rfl T.b_list (by decide +kernel) (da_cons (de_fld (dv 0)) da_nil)))

theorem ok_Task_row_of {P : Program} {w : World} {K : PySem.W.Frag} {mg : Str → Option Value} {base : Heap} (T : Txt K mg) (TB : TabBs K mg base)  : Good P w K mg base 3 none (ma K (ga K "Task") "row_of") ["self", "kind"] (sp_Task_row_of K) := by
  obtain ⟨_, x_UnknownKind_ok, x_UnknownKind_b⟩ := okx_UnknownKind (P := P) (w := w) (base := base) T
  obtain ⟨fd, F⟩ := T.d_Task_row_of
  refine ⟨⟨fd, fn_d (k := 2) F sc_Task_row_of len_Task_row_of (t_Task_row_of K) (fun cdv A outer s H E WD hr tk hp => ?_) (pure_Task_row_of T), F.bindsN fun _ _ _ _ _ _ us hl => match us, hl with | [_, _], _ => rfl, F.kp⟩, trivial⟩
  refine dss_cons (ds_for hp rfl (di_list (de_fld (dv 0))) (dg_name (i := 2) sc_Task_row_of.nd rfl (Or.inl rfl)) (dss_one (ds_if (dt_cmp (op_eqA hr.units) od_eq (de_ix (dv 2) de_int) (dv 1) (nomark _)) (dss_one (ds_ret (dv 2))) dss_nil))) ?_
  exact dss_one (ds_raise T.ox_UnknownKind T.oxi_UnknownKind T.oxf_UnknownKind x_UnknownKind_ok (hr.mono (by decide)) x_UnknownKind_b rfl T.g_UnknownKind (by decide) rfl tk (da_cons (dv 1) da_nil))

theorem ok_Task_cost_of {P : Program} {w : World} {K : PySem.W.Frag} {mg : Str → Option Value} {base : Heap} (T : Txt K mg) (TB : TabBs K mg base) (c_Task_row_of : Good P w K mg base 3 none (ma K (ga K "Task") "row_of") ["self", "kind"] (sp_Task_row_of K)) : Good P w K mg base 4 none (ma K (ga K "Task") "cost_of") ["self", "kind"] (sp_Task_cost_of K) := by
  obtain ⟨_, c_Task_row_of_ok, c_Task_row_of_b, c_Task_row_of_kp⟩ := c_Task_row_of.ex
  have c_Task_row_of_g := c_Task_row_of.gl
  obtain ⟨fd, F⟩ := T.d_Task_cost_of
  refine ⟨⟨fd, fn_d (k := 3) F sc_Task_cost_of len_Task_cost_of (t_Task_cost_of K) (fun cdv A outer s H E WD hr tk hp => ?_) (pure_Task_cost_of T), F.bindsN fun _ _ _ _ _ _ us hl => match us, hl with | [_, _], _ => rfl, F.kp⟩, trivial⟩
  exact dss_one (ds_ret (de_ix (de_meth (dv 0) T.cl_Task T.m_Task_row_of c_Task_row_of_ok (hr.mono (by decide)) c_Task_row_of_b .nil (fun _ => .nil) tk (da_cons (dv 1) da_nil)) de_int))

theorem ok_Task_deadline_of {P : Program} {w : World} {K : PySem.W.Frag} {mg : Str → Option Value} {base : Heap} (T : Txt K mg) (TB : TabBs K mg base) (c_Task_row_of : Good P w K mg base 3 none (ma K (ga K "Task") "row_of") ["self", "kind"] (sp_Task_row_of K)) : Good P w K mg base 4 none (ma K (ga K "Task") "deadline_of") ["self", "kind"] (sp_Task_deadline_of K) := by
  obtain ⟨_, c_Task_row_of_ok, c_Task_row_of_b, c_Task_row_of_kp⟩ := c_Task_row_of.ex
  have c_Task_row_of_g := c_Task_row_of.gl
  obtain ⟨fd, F⟩ := T.d_Task_deadline_of
  refine ⟨⟨fd, fn_d (k := 3) F sc_Task_deadline_of len_Task_deadline_of (t_Task_deadline_of K) (fun cdv A outer s H E WD hr tk hp => ?_) (pure_Task_deadline_of T), F.bindsN fun _ _ _ _ _ _ us hl => match us, hl with | [_, _], _ => rfl, F.kp⟩, trivial⟩
  exact dss_one (ds_ret (de_ix (de_meth (dv 0) T.cl_Task T.m_Task_row_of c_Task_row_of_ok (hr.mono (by decide)) c_Task_row_of_b .nil (fun _ => .nil) tk (da_cons (dv 1) da_nil)) de_int))

theorem ok_Task_followers {P : Program} {w : World} {K : PySem.W.Frag} {mg : Str → Option Value} {base : Heap} (T : Txt K mg) (TB : TabBs K mg base) (c_Task_row_of : Good P w K mg base 3 none (ma K (ga K "Task") "row_of") ["self", "kind"] (sp_Task_row_of K)) : Good P w K mg base 4 none (ma K (ga K "Task") "followers") ["self", "kind"] (sp_Task_followers K) := by
  obtain ⟨_, c_Task_row_of_ok, c_Task_row_of_b, c_Task_row_of_kp⟩ := c_Task_row_of.ex
  have c_Task_row_of_g := c_Task_row_of.gl
  obtain ⟨fd, F⟩ := T.d_Task_followers
  refine ⟨⟨fd, fn_d (k := 3) F sc_Task_followers len_Task_followers (t_Task_followers K) (fun cdv A outer s H E WD hr tk hp => ?_) (pure_Task_followers T), F.bindsN fun _ _ _ _ _ _ us hl => match us, hl with | [_, _], _ => rfl, F.kp⟩, trivial⟩
  refine dss_cons (ds_expr (de_meth (dv 0) T.cl_Task T.m_Task_row_of c_Task_row_of_ok (hr.mono (by decide)) c_Task_row_of_b .nil (fun _ => .nil) tk (da_cons (dv 1) da_nil))) ?_
  exact dss_one (ds_ret (de_lc false (own := [("first", 2), ("second", 3), ("gap", 4)]) (c := .tup [2, 3, 4]) (te := dTup (daCons (dVar 3) (daCons (dVar 4) daNil))) (tt := dTest (dOp dEq (dVar 2) (dVar 1))) rfl sc_Task_followers.nd (by simp [CT.in]) (di_list (de_fld (dv 0))) (blkOk_by (own := [("first", 2), ("second", 3), ("gap", 4)]) (N := nm_Task_followers) (sc := defScope s_Task_followers) (by decide +kernel)) (fun _ _ _ _ _ => pg_ctT rfl (js := [2, 3, 4]) (pgs_cons (pg_name (i := 2) sc_Task_followers.nd rfl (Or.inl rfl)) (pgs_cons (pg_name (i := 3) sc_Task_followers.nd rfl (Or.inl rfl)) (pgs_cons (pg_name (i := 4) sc_Task_followers.nd rfl (Or.inl rfl)) (pgs_nil))))) (fun _ _ _ _ _ => dts_one (dt_cmp (op_eqA hr.units) od_eq (dv 2) (dv 1) (nomark _))) (fun _ _ _ _ _ => de_tup (da_cons (dv 3) (da_cons (dv 4) da_nil)))))

theorem ok_gap_between {P : Program} {w : World} {K : PySem.W.Frag} {mg : Str → Option Value} {base : Heap} (T : Txt K mg) (TB : TabBs K mg base) (c_Task_followers : Good P w K mg base 4 none (ma K (ga K "Task") "followers") ["self", "kind"] (sp_Task_followers K)) : Good P w K mg base 5 (some "gap_between") (ga K "gap_between") ["task", "first", "second"] (sp_gap_between K) := by
  obtain ⟨_, c_Task_followers_ok, c_Task_followers_b, c_Task_followers_kp⟩ := c_Task_followers.ex
  have c_Task_followers_g := c_Task_followers.gl
  obtain ⟨fd, F⟩ := T.d_gap_between
  refine ⟨⟨fd, fn_d (k := 4) F sc_gap_between len_gap_between (t_gap_between K) (fun cdv A outer s H E WD hr tk hp => ?_) (pure_gap_between T), F.bindsN fun _ _ _ _ _ _ us hl => match us, hl with | [_, _, _], _ => rfl, F.kp⟩, T.g_gap_between⟩
  refine dss_cons (ds_for hp rfl (di_list (de_meth (dv 0) T.cl_Task T.m_Task_followers c_Task_followers_ok (hr.mono (by decide)) c_Task_followers_b .nil (fun _ => .nil) tk (da_cons (dv 1) da_nil))) (dg_tup rfl (dgs_cons (dg_name (i := 3) sc_gap_between.nd rfl (Or.inl rfl)) (dgs_cons (dg_name (i := 4) sc_gap_between.nd rfl (Or.inl rfl)) dgs_nil))) (dss_one (ds_if (dt_cmp (op_eqA hr.units) od_eq (dv 3) (dv 2) (nomark _)) (dss_one (ds_ret (dv 4))) dss_nil))) ?_
  exact dss_one (ds_ret de_non)

theorem ok_check_job {P : Program} {w : World} {K : PySem.W.Frag} {mg : Str → Option Value} {base : Heap} (T : Txt K mg) (TB : TabBs K mg base) (c_Task_cost_of : Good P w K mg base 4 none (ma K (ga K "Task") "cost_of") ["self", "kind"] (sp_Task_cost_of K)) (c_gap_between : Good P w K mg base 5 (some "gap_between") (ga K "gap_between") ["task", "first", "second"] (sp_gap_between K)) : Good P w K mg base 6 (some "check_job") (ga K "check_job") ["task", "walk", "index", "place", "grain"] (sp_check_job K) := by
  obtain ⟨_, c_Task_cost_of_ok, c_Task_cost_of_b, c_Task_cost_of_kp⟩ := c_Task_cost_of.ex
  have c_Task_cost_of_g := c_Task_cost_of.gl
  obtain ⟨_, c_gap_between_ok, c_gap_between_b, c_gap_between_kp⟩ := c_gap_between.ex
  have c_gap_between_g := c_gap_between.gl
  obtain ⟨_, x_BadCost_ok, x_BadCost_b⟩ := okx_BadCost (P := P) (w := w) (base := base) T
  obtain ⟨_, x_BadRelease_ok, x_BadRelease_b⟩ := okx_BadRelease (P := P) (w := w) (base := base) T
  obtain ⟨_, x_GapTooShort_ok, x_GapTooShort_b⟩ := okx_GapTooShort (P := P) (w := w) (base := base) T
  obtain ⟨_, x_NoArrow_ok, x_NoArrow_b⟩ := okx_NoArrow (P := P) (w := w) (base := base) T
  obtain ⟨fd, F⟩ := T.d_check_job
  refine ⟨⟨fd, fn_d (k := 5) F sc_check_job len_check_job (t_check_job K) (fun cdv A outer s H E WD hr tk hp => ?_) (pure_check_job T), F.bindsN fun _ _ _ _ _ _ us hl => match us, hl with | [_, _, _, _, _], _ => rfl, F.kp⟩, T.g_check_job⟩
  refine dss_cons (ds_asg (de_ix (dv 1) (dv 3)) (dg_tup rfl (dgs_cons (dg_name (i := 5) sc_check_job.nd rfl (Or.inl rfl)) (dgs_cons (dg_name (i := 6) sc_check_job.nd rfl (Or.inl rfl)) (dgs_cons (dg_name (i := 7) sc_check_job.nd rfl (Or.inl rfl)) dgs_nil))))) ?_
  refine dss_cons (ds_set (i := 8) sc_check_job.nd rfl (Or.inl rfl) (de_mul false (de_meth (dv 0) T.cl_Task T.m_Task_cost_of c_Task_cost_of_ok (hr.mono (by decide)) c_Task_cost_of_b .nil (fun _ => .nil) tk (da_cons (dv 5) da_nil)) (dv 4))) ?_
  refine dss_cons (ds_if (dt_not (dt_chain op_le od_cmpI op_le od_cmpI de_int (dv 7) (dv 8))) (dss_one (ds_raise T.ox_BadCost T.oxi_BadCost T.oxf_BadCost x_BadCost_ok (hr.mono (by decide)) x_BadCost_b rfl T.g_BadCost (by decide) rfl tk (da_cons (dv 2) (da_cons (dv 3) da_nil)))) dss_nil) ?_
  refine dss_cons (ds_if (dt_cmp op_lt od_cmpI (dv 6) de_int (nomark _)) (dss_one (ds_raise T.ox_BadRelease T.oxi_BadRelease T.oxf_BadRelease x_BadRelease_ok (hr.mono (by decide)) x_BadRelease_b rfl T.g_BadRelease (by decide) rfl tk (da_cons (dv 2) (da_cons (dv 3) da_nil)))) dss_nil) ?_
  refine dss_cons (ds_if (dt_cmp (op_eqA hr.units) od_eq (dv 3) de_int (nomark _)) (dss_one ds_retN) dss_nil) ?_
  refine dss_cons (ds_set (i := 9) sc_check_job.nd rfl (Or.inl rfl) (de_ix (dv 1) (de_sub (dv 3) de_int))) ?_
  refine dss_cons (ds_set (i := 10) sc_check_job.nd rfl (Or.inl rfl) (de_call c_gap_between_ok (hr.mono (by decide)) rfl c_gap_between_g c_gap_between_kp c_gap_between_b .nil (fun _ => .nil) tk (da_cons (dv 0) (da_cons (de_ix (dv 9) de_int) (da_cons (dv 5) da_nil))))) ?_
  refine dss_cons (ds_if (dt_cmp op_isN od_isN (dv 10) de_non (nomark _)) (dss_one (ds_raise T.ox_NoArrow T.oxi_NoArrow T.oxf_NoArrow x_NoArrow_ok (hr.mono (by decide)) x_NoArrow_b rfl T.g_NoArrow (by decide) rfl tk (da_cons (dv 2) (da_cons (dv 3) da_nil)))) dss_nil) ?_
  exact dss_one (ds_if (dt_cmp op_lt od_cmpI (de_sub (dv 6) (de_ix (dv 9) de_int)) (de_mul false (dv 10) (dv 4)) (nomark _)) (dss_one (ds_raise T.ox_GapTooShort T.oxi_GapTooShort T.oxf_GapTooShort x_GapTooShort_ok (hr.mono (by decide)) x_GapTooShort_b rfl T.g_GapTooShort (by decide) rfl tk (da_cons (dv 2) (da_cons (dv 3) da_nil)))) dss_nil)

theorem ok_check_counts {P : Program} {w : World} {K : PySem.W.Frag} {mg : Str → Option Value} {base : Heap} (T : Txt K mg) (TB : TabBs K mg base)  : Good P w K mg base 3 (some "check_counts") (ga K "check_counts") ["tasks", "walks", "grain"] (sp_check_counts K) := by
  obtain ⟨_, x_OutOfRange_ok, x_OutOfRange_b⟩ := okx_OutOfRange (P := P) (w := w) (base := base) T
  obtain ⟨_, x_WrongCount_ok, x_WrongCount_b⟩ := okx_WrongCount (P := P) (w := w) (base := base) T
  obtain ⟨fd, F⟩ := T.d_check_counts
  refine ⟨⟨fd, fn_d (k := 2) F sc_check_counts len_check_counts (t_check_counts K) (fun cdv A outer s H E WD hr tk hp => ?_) (pure_check_counts T), F.bindsN fun _ _ _ _ _ _ us hl => match us, hl with | [_, _, _], _ => rfl, F.kp⟩, T.g_check_counts⟩
  refine dss_cons (ds_if (dt_not (dt_chain op_le od_cmpI op_le od_cmpI de_int (dv 2) (de_globI rfl T.k_GRAIN_LIMIT))) (dss_one (ds_raise T.ox_OutOfRange T.oxi_OutOfRange T.oxf_OutOfRange x_OutOfRange_ok (hr.mono (by decide)) x_OutOfRange_b rfl T.g_OutOfRange (by decide) rfl tk (da_cons de_str (da_cons (dv 2) da_nil)))) dss_nil) ?_
  refine dss_cons (ds_if (dt_cmp (op_neA hr.units) od_ne (de_callB call_len cd_len rfl T.b_len (by decide +kernel) (da_cons (dv 1) da_nil)) (de_callB call_len cd_len rfl T.b_len (by decide +kernel) (da_cons (dv 0) da_nil)) (nomark _)) (dss_one (ds_raise T.ox_WrongCount T.oxi_WrongCount T.oxf_WrongCount x_WrongCount_ok (hr.mono (by decide)) x_WrongCount_b rfl T.g_WrongCount (by decide) rfl tk (da_cons de_str (da_cons (de_callB call_len cd_len rfl T.b_len (by decide +kernel) (da_cons (dv 1) da_nil)) da_nil)))) dss_nil) ?_
  refine dss_cons (ds_set (i := 3) sc_check_counts.nd rfl (Or.inl rfl) (de_callB (cr_sum rfl) cd_sum rfl T.b_sum (by decide +kernel) (da_cons (de_lc false (own := [("walk", 4)]) (c := .one 4) (te := dCB dLen (daCons (dVar 4) daNil)) (tt := dYes) rfl sc_check_counts.nd (by simp [CT.in]) (di_list (dv 1)) (blkOk_by (own := [("walk", 4)]) (N := nm_check_counts) (sc := defScope s_check_counts) (by decide +kernel)) (fun _ _ _ _ _ => pg_ct1 (i := 4) sc_check_counts.nd rfl (Or.inl rfl)) (fun _ _ _ _ _ => dts_nil) (fun _ _ _ _ _ => de_callB call_len cd_len rfl T.b_len (by decide +kernel) (da_cons (dv 4) da_nil))) da_nil))) ?_
  exact dss_one (ds_if (dt_cmp op_gt od_cmpI (dv 3) (de_globI rfl T.k_JOB_LIMIT) (nomark _)) (dss_one (ds_raise T.ox_WrongCount T.oxi_WrongCount T.oxf_WrongCount x_WrongCount_ok (hr.mono (by decide)) x_WrongCount_b rfl T.g_WrongCount (by decide) rfl tk (da_cons de_str (da_cons (dv 3) da_nil)))) dss_nil)

theorem ok_Run_init {P : Program} {w : World} {K : PySem.W.Frag} {mg : Str → Option Value} {base : Heap} (T : Txt K mg) (TB : TabBs K mg base) (c_check_counts : Good P w K mg base 3 (some "check_counts") (ga K "check_counts") ["tasks", "walks", "grain"] (sp_check_counts K)) (c_check_job : Good P w K mg base 6 (some "check_job") (ga K "check_job") ["task", "walk", "index", "place", "grain"] (sp_check_job K)) (c_Task_deadline_of : Good P w K mg base 4 none (ma K (ga K "Task") "deadline_of") ["self", "kind"] (sp_Task_deadline_of K)) : GoodK P w K mg base 7 none (ma K (ga K "Run") "__init__") ["self", "tasks", "walks", "grain"] (sp_Run_init K) 3 ["grain"] [.int 1] := by
  obtain ⟨_, c_check_counts_ok, c_check_counts_b, c_check_counts_kp⟩ := c_check_counts.ex
  have c_check_counts_g := c_check_counts.gl
  obtain ⟨_, c_check_job_ok, c_check_job_b, c_check_job_kp⟩ := c_check_job.ex
  have c_check_job_g := c_check_job.gl
  obtain ⟨_, c_Task_deadline_of_ok, c_Task_deadline_of_b, c_Task_deadline_of_kp⟩ := c_Task_deadline_of.ex
  have c_Task_deadline_of_g := c_Task_deadline_of.gl
  obtain ⟨lc, lP, lhc, lhx⟩ := T.lam_Run_init
  obtain ⟨fd, F⟩ := T.d_Run_init
  obtain ⟨dV, hdV, hbV⟩ := FunD.binds0 (ps := ["self", "tasks", "walks", "grain"]) F 3 (by simp) rfl (fun D doc pm an cdv ct us ks h1 h2 => match us, ks, h1, h2 with | [_, _, _], [_], _, _ => ⟨_, _, _, _, _, _, rfl, rfl, rfl⟩)
  refine ⟨⟨fd, fn_dL (k := 6) F lhc sc_Run_init len_Run_init (t_Run_init K) (fun A outer s H E WD hr tk hp => ?_) (pure_Run_init T), F.kp, kbn_all F 3 ["grain"] (fun _ _ _ _ _ _ us ws h1 h2 => match us, ws, h1, h2 with | [_, _, _], [_], _, _ => rfl), dV, _, hdV, hbV, fun G => .cons (.int 1) (.nil)⟩, trivial⟩
  refine dss_cons (ds_expr (de_call c_check_counts_ok (hr.mono (by decide)) rfl c_check_counts_g c_check_counts_kp c_check_counts_b .nil (fun _ => .nil) tk (da_cons (dv 1) (da_cons (dv 2) (da_cons (dv 3) da_nil))))) ?_
  refine dss_cons (ds_set (i := 4) sc_Run_init.nd rfl (Or.inl rfl) (de_lst true da_nil)) ?_
  refine dss_cons (ds_for hp rfl (di_enum rfl T.b_enumerate (da_cons (dv 2) da_nil)) (dg_tup rfl (dgs_cons (dg_name (i := 5) sc_Run_init.nd rfl (Or.inl rfl)) (dgs_cons (dg_name (i := 6) sc_Run_init.nd rfl (Or.inl rfl)) dgs_nil))) (dss_cons (ds_set (i := 7) sc_Run_init.nd rfl (Or.inl rfl) (de_ix (dv 1) (dv 5)))
    (dss_one (ds_for hp rfl (di_enum rfl T.b_enumerate (da_cons (dv 6) da_nil)) (dg_tup rfl (dgs_cons (dg_name (i := 8) sc_Run_init.nd rfl (Or.inl rfl)) (dgs_cons (dg_tup rfl (dgs_cons (dg_name (i := 9) sc_Run_init.nd rfl (Or.inl rfl)) (dgs_cons (dg_name (i := 10) sc_Run_init.nd rfl (Or.inl rfl)) (dgs_cons (dg_name (i := 11) sc_Run_init.nd rfl (Or.inl rfl)) dgs_nil)))) dgs_nil))) (dss_cons (ds_expr (de_call c_check_job_ok (hr.mono (by decide)) rfl c_check_job_g c_check_job_kp c_check_job_b .nil (fun _ => .nil) tk (da_cons (dv 7) (da_cons (dv 6) (da_cons (dv 5) (da_cons (dv 8) (da_cons (dv 3) da_nil)))))))
    (dss_cons (ds_set (i := 12) sc_Run_init.nd rfl (Or.inl rfl) (de_add false (dv 10) (de_mul false (de_meth (dv 7) T.cl_Task T.m_Task_deadline_of c_Task_deadline_of_ok (hr.mono (by decide)) c_Task_deadline_of_b .nil (fun _ => .nil) tk (da_cons (dv 9) da_nil)) (dv 3))))
    (dss_one (ds_expr (de_bm PySem.F.plainAttrs_list PySem.F.slot_list_append PySem.F.type_list_append mt_append md_append (dv 4) (da_cons (de_tup (da_cons (dv 5) (da_cons (dv 8) (da_cons (dv 9) (da_cons (dv 10) (da_cons (dv 11) (da_cons (dv 12) da_nil))))))) da_nil)))))))))) ?_
  refine dss_frz 4 ?_
  refine dss_cons (ds_fld (dv 0) (dv 3)) ?_
  exact dss_one (ds_fld (dv 0) (de_sortK false (k := 0) (ip := 13) (te := dTup (daCons (dOp dIx (dVar 13) (dC (.int 3))) (daCons (dOp dIx (dVar 13) (dC (.int 0))) (daCons (dOp dIx (dVar 13) (dC (.int 1))) daNil)))) (hr.mono (by decide)) rfl T.b_sorted (by decide +kernel) (dv 4) (lam1_by (sc := defScope s_Run_init) (by decide +kernel)) sc_Run_init.nd rfl TB lhx rfl rfl (fun _ _ _ _ _ _ => rfl) (fun _ _ _ _ _ => de_tup (da_cons (de_ix (dv 13) de_int) (da_cons (de_ix (dv 13) de_int) (da_cons (de_ix (dv 13) de_int) da_nil))))))

theorem ok_Run_jobs {P : Program} {w : World} {K : PySem.W.Frag} {mg : Str → Option Value} {base : Heap} (T : Txt K mg) (TB : TabBs K mg base)  : Good P w K mg base 1 none (wad K "property" "Run" "jobs") ["self"] (sp_Run_jobs K) := by
  obtain ⟨fd, F⟩ := T.d_Run_jobs
  refine ⟨⟨fd, fn_d (k := 0) F sc_Run_jobs len_Run_jobs (t_Run_jobs K) (fun cdv A outer s H E WD hr tk hp => ?_) (pure_Run_jobs T), F.bindsN fun _ _ _ _ _ _ us hl => match us, hl with | [_], _ => rfl, F.kp⟩, trivial⟩
  exact dss_one (ds_ret (de_callTy call_list_of (cd_list false) rfl T.b_list (by decide +kernel) (da_cons (de_fld (dv 0)) da_nil)))

theorem ok_kind_demands {P : Program} {w : World} {K : PySem.W.Frag} {mg : Str → Option Value} {base : Heap} (T : Txt K mg) (TB : TabBs K mg base) (c_Task_kinds : Good P w K mg base 1 none (wad K "property" "Task" "kinds") ["self"] (sp_Task_kinds K)) (c_Task_followers : Good P w K mg base 4 none (ma K (ga K "Task") "followers") ["self", "kind"] (sp_Task_followers K)) : Good P w K mg base 5 (some "kind_demands") (ga K "kind_demands") ["task", "ticks"] (sp_kind_demands K) := by
  obtain ⟨_, c_Task_kinds_ok, c_Task_kinds_b, c_Task_kinds_kp⟩ := c_Task_kinds.ex
  have c_Task_kinds_g := c_Task_kinds.gl
  obtain ⟨_, c_Task_followers_ok, c_Task_followers_b, c_Task_followers_kp⟩ := c_Task_followers.ex
  have c_Task_followers_g := c_Task_followers.gl
  obtain ⟨fd, F⟩ := T.d_kind_demands
  refine ⟨⟨fd, fn_d (k := 4) F sc_kind_demands len_kind_demands (t_kind_demands K) (fun cdv A outer s H E WD hr tk hp => ?_) (pure_kind_demands T), F.bindsN fun _ _ _ _ _ _ us hl => match us, hl with | [_, _], _ => rfl, F.kp⟩, T.g_kind_demands⟩
  refine dss_cons (ds_set (i := 2) sc_kind_demands.nd rfl (Or.inl rfl) (de_prop (dv 0) T.cl_Task T.p_Task_kinds c_Task_kinds_ok (hr.mono (by decide)) c_Task_kinds_b)) ?_
  refine dss_cons (ds_setDc (i := 3) (hy := rfl) (hyl := rfl) (hsw := sw_dict rfl rfl rfl (by decide +kernel)) (hc := rfl) (hN := sc_kind_demands.nd) (own := [("kind", 4), ("cost", 5), ("deadline", 6)]) (c := .tup [4, 5, 6]) (tk := dVar 4) (tv := dMeth (ga K "Task") "followers" (sp_Task_followers K) WD0 [] (dVar 0) (daCons (dVar 4) daNil)) (tt := dYes) (by simp [CT.in]) (di_list (dv 2)) (blkOk_by (own := [("kind", 4), ("cost", 5), ("deadline", 6)]) (N := nm_kind_demands) (sc := defScope s_kind_demands) (by decide +kernel)) (fun _ _ _ _ _ => pg_ctT rfl (js := [4, 5, 6]) (pgs_cons (pg_name (i := 4) sc_kind_demands.nd rfl (Or.inl rfl)) (pgs_cons (pg_name (i := 5) sc_kind_demands.nd rfl (Or.inl rfl)) (pgs_cons (pg_name (i := 6) sc_kind_demands.nd rfl (Or.inl rfl)) (pgs_nil))))) (fun _ _ _ _ _ => dts_nil) (fun _ _ _ _ _ => dv 4) (fun _ _ _ _ _ => de_meth (dv 0) T.cl_Task T.m_Task_followers c_Task_followers_ok (hr.mono (by decide)) c_Task_followers_b .nil (fun _ => .nil) takes0 (da_cons (dv 4) da_nil))) ?_
  refine dss_cons (ds_set (i := 7) sc_kind_demands.nd rfl (Or.inr rfl) (de_dc (own := [("kind", 4), ("cost", 5), ("deadline", 6)]) (c := .tup [4, 5, 6]) (tk := dVar 4) (tv := dLst true daNil) (tt := dYes) rfl sc_kind_demands.nd (by simp [CT.in]) (di_list (dv 2)) (blkOk_by (own := [("kind", 4), ("cost", 5), ("deadline", 6)]) (N := nm_kind_demands) (sc := defScope s_kind_demands) (by decide +kernel)) (fun _ _ _ _ _ => pg_ctT rfl (js := [4, 5, 6]) (pgs_cons (pg_name (i := 4) sc_kind_demands.nd rfl (Or.inl rfl)) (pgs_cons (pg_name (i := 5) sc_kind_demands.nd rfl (Or.inl rfl)) (pgs_cons (pg_name (i := 6) sc_kind_demands.nd rfl (Or.inl rfl)) (pgs_nil))))) (fun _ _ _ _ _ => dts_nil) (fun _ _ _ _ _ => dv 4) (fun _ _ _ _ _ => de_lst true da_nil))) ?_
  refine dss_cons (ds_for hp rfl (di_range1 rfl T.b_range (da_cons (de_add false (dv 1) de_int) da_nil)) (dg_name (i := 8) sc_kind_demands.nd rfl (Or.inr rfl)) (dss_one (ds_for hp rfl (di_list (dv 2)) (dg_tup rfl (dgs_cons (dg_name (i := 4) sc_kind_demands.nd rfl (Or.inl rfl)) (dgs_cons (dg_name (i := 5) sc_kind_demands.nd rfl (Or.inl rfl)) (dgs_cons (dg_name (i := 6) sc_kind_demands.nd rfl (Or.inl rfl)) dgs_nil)))) (dss_cons (ds_setLc false (i := 9) (hy := rfl) (hyl := rfl) (hsw := sw_true rfl rfl rfl (by decide +kernel)) (hc := rfl) (hN := sc_kind_demands.nd) (own := [("second", 10), ("gap", 11)]) (c := .tup [10, 11]) (te := dOp dIx (dOp dGetK (dVar 7) (dVar 10)) (dOp dSub (dVar 8) (dVar 11))) (tt := dTest (dOp dLe (dVar 11) (dVar 8))) (by simp [CT.in]) (di_list (de_getK hr.units1 (dv 3) (dv 4))) (blkOk_by (own := [("second", 10), ("gap", 11)]) (N := nm_kind_demands) (sc := defScope s_kind_demands) (by decide +kernel)) (fun _ _ _ _ _ => pg_ctT rfl (js := [10, 11]) (pgs_cons (pg_name (i := 10) sc_kind_demands.nd rfl (Or.inl rfl)) (pgs_cons (pg_name (i := 11) sc_kind_demands.nd rfl (Or.inl rfl)) (pgs_nil)))) (fun _ _ _ _ _ => dts_one (dt_cmp op_le od_cmpI (dv 11) (dv 8) (nomark _))) (fun _ _ _ _ _ => de_ix (de_getK hr.units1 (dv 7) (dv 10)) (de_sub (dv 8) (dv 11))))
    (dss_cons (ds_set (i := 12) sc_kind_demands.nd rfl (Or.inl rfl) (de_ifExp (dt_cmp op_le od_cmpI (dv 6) (dv 8) (nomark _)) (dv 5) de_int))
    (dss_one (ds_expr (de_bm PySem.F.plainAttrs_list PySem.F.slot_list_append PySem.F.type_list_append mt_append md_append (de_getK hr.units1 (dv 7) (dv 4)) (da_cons (de_add false (dv 12) (de_maxDf rfl hr.units rfl T.b_max (by decide +kernel) (da_cons (dv 9) da_nil) (dk_cons de_int dk_nil))) da_nil))))))))) ?_
  exact dss_one (ds_ret (de_wk (dv 7)))

theorem ok_heaviest_kind {P : Program} {w : World} {K : PySem.W.Frag} {mg : Str → Option Value} {base : Heap} (T : Txt K mg) (TB : TabBs K mg base)  : Good P w K mg base 1 (some "heaviest_kind") (ga K "heaviest_kind") ["table", "kinds", "at"] (sp_heaviest_kind K) := by
  obtain ⟨fd, F⟩ := T.d_heaviest_kind
  refine ⟨⟨fd, fn_d (k := 0) F sc_heaviest_kind len_heaviest_kind (t_heaviest_kind K) (fun cdv A outer s H E WD hr tk hp => ?_) (pure_heaviest_kind T), F.bindsN fun _ _ _ _ _ _ us hl => match us, hl with | [_, _, _], _ => rfl, F.kp⟩, T.g_heaviest_kind⟩
  refine dss_cons (ds_set (i := 3) sc_heaviest_kind.nd rfl (Or.inl rfl) (de_ix (dv 1) de_int)) ?_
  refine dss_cons (ds_for hp rfl (di_list (dv 1)) (dg_name (i := 4) sc_heaviest_kind.nd rfl (Or.inl rfl)) (dss_one (ds_if (dt_cmp op_gt od_cmpI (de_ix (de_getK hr.units1 (dv 0) (dv 4)) (dv 2)) (de_ix (de_getK hr.units1 (dv 0) (dv 3)) (dv 2)) (nomark _)) (dss_one (ds_set (i := 3) sc_heaviest_kind.nd rfl (Or.inl rfl) (dv 4))) dss_nil))) ?_
  exact dss_one (ds_ret (dv 3))

theorem ok_next_step {P : Program} {w : World} {K : PySem.W.Frag} {mg : Str → Option Value} {base : Heap} (T : Txt K mg) (TB : TabBs K mg base)  : Good P w K mg base 1 (some "next_step") (ga K "next_step") ["table", "followers", "left"] (sp_next_step K) := by
  obtain ⟨fd, F⟩ := T.d_next_step
  refine ⟨⟨fd, fn_d (k := 0) F sc_next_step len_next_step (t_next_step K) (fun cdv A outer s H E WD hr tk hp => ?_) (pure_next_step T), F.bindsN fun _ _ _ _ _ _ us hl => match us, hl with | [_, _, _], _ => rfl, F.kp⟩, T.g_next_step⟩
  refine dss_cons (ds_set (i := 3) sc_next_step.nd rfl (Or.inl rfl) de_non) ?_
  refine dss_cons (ds_set (i := 4) sc_next_step.nd rfl (Or.inl rfl) de_int) ?_
  refine dss_cons (ds_for hp rfl (di_list (dv 1)) (dg_tup rfl (dgs_cons (dg_name (i := 5) sc_next_step.nd rfl (Or.inl rfl)) (dgs_cons (dg_name (i := 6) sc_next_step.nd rfl (Or.inl rfl)) dgs_nil))) (dss_one (ds_if (dt_w (dw_and (dt_cmp op_le od_cmpI (dv 6) (dv 2) (nomark _)) (dw_and1 (dt_cmp op_gt od_cmpI (de_ix (de_getK hr.units1 (dv 0) (dv 5)) (de_sub (dv 2) (dv 6))) (dv 4) (nomark _))))) (dss_cons (ds_set (i := 3) sc_next_step.nd rfl (Or.inl rfl) (de_tup (da_cons (dv 5) (da_cons (dv 6) da_nil))))
    (dss_one (ds_set (i := 4) sc_next_step.nd rfl (Or.inl rfl) (de_ix (de_getK hr.units1 (dv 0) (dv 5)) (de_sub (dv 2) (dv 6)))))) dss_nil))) ?_
  exact dss_one (ds_ret (dv 3))

theorem ok_heavy_walk {P : Program} {w : World} {K : PySem.W.Frag} {mg : Str → Option Value} {base : Heap} (T : Txt K mg) (TB : TabBs K mg base) (c_kind_demands : Good P w K mg base 5 (some "kind_demands") (ga K "kind_demands") ["task", "ticks"] (sp_kind_demands K)) (c_heaviest_kind : Good P w K mg base 1 (some "heaviest_kind") (ga K "heaviest_kind") ["table", "kinds", "at"] (sp_heaviest_kind K)) (c_Task_kinds : Good P w K mg base 1 none (wad K "property" "Task" "kinds") ["self"] (sp_Task_kinds K)) (c_next_step : Good P w K mg base 1 (some "next_step") (ga K "next_step") ["table", "followers", "left"] (sp_next_step K)) (c_Task_followers : Good P w K mg base 4 none (ma K (ga K "Task") "followers") ["self", "kind"] (sp_Task_followers K)) : Good P w K mg base 6 (some "heavy_walk") (ga K "heavy_walk") ["task", "ticks"] (sp_heavy_walk K) := by
  obtain ⟨_, c_kind_demands_ok, c_kind_demands_b, c_kind_demands_kp⟩ := c_kind_demands.ex
  have c_kind_demands_g := c_kind_demands.gl
  obtain ⟨_, c_heaviest_kind_ok, c_heaviest_kind_b, c_heaviest_kind_kp⟩ := c_heaviest_kind.ex
  have c_heaviest_kind_g := c_heaviest_kind.gl
  obtain ⟨_, c_Task_kinds_ok, c_Task_kinds_b, c_Task_kinds_kp⟩ := c_Task_kinds.ex
  have c_Task_kinds_g := c_Task_kinds.gl
  obtain ⟨_, c_next_step_ok, c_next_step_b, c_next_step_kp⟩ := c_next_step.ex
  have c_next_step_g := c_next_step.gl
  obtain ⟨_, c_Task_followers_ok, c_Task_followers_b, c_Task_followers_kp⟩ := c_Task_followers.ex
  have c_Task_followers_g := c_Task_followers.gl
  obtain ⟨fd, F⟩ := T.d_heavy_walk
  refine ⟨⟨fd, fn_d (k := 5) F sc_heavy_walk len_heavy_walk (t_heavy_walk K) (fun cdv A outer s H E WD hr tk hp => ?_) (pure_heavy_walk T), F.bindsN fun _ _ _ _ _ _ us hl => match us, hl with | [_, _], _ => rfl, F.kp⟩, T.g_heavy_walk⟩
  refine dss_cons (ds_set (i := 2) sc_heavy_walk.nd rfl (Or.inl rfl) (de_call c_kind_demands_ok (hr.mono (by decide)) rfl c_kind_demands_g c_kind_demands_kp c_kind_demands_b .nil (fun _ => .nil) tk (da_cons (dv 0) (da_cons (dv 1) da_nil)))) ?_
  refine dss_cons (ds_set (i := 3) sc_heavy_walk.nd rfl (Or.inl rfl) (de_call c_heaviest_kind_ok (hr.mono (by decide)) rfl c_heaviest_kind_g c_heaviest_kind_kp c_heaviest_kind_b .nil (fun _ => .nil) tk (da_cons (dv 2) (da_cons (de_lc false (own := [("row", 4)]) (c := .one 4) (te := dOp dIx (dVar 4) (dC (.int 0))) (tt := dYes) rfl sc_heavy_walk.nd (by simp [CT.in]) (di_list (de_prop (dv 0) T.cl_Task T.p_Task_kinds c_Task_kinds_ok (hr.mono (by decide)) c_Task_kinds_b)) (blkOk_by (own := [("row", 4)]) (N := nm_heavy_walk) (sc := defScope s_heavy_walk) (by decide +kernel)) (fun _ _ _ _ _ => pg_ct1 (i := 4) sc_heavy_walk.nd rfl (Or.inl rfl)) (fun _ _ _ _ _ => dts_nil) (fun _ _ _ _ _ => de_ix (dv 4) de_int)) (da_cons (dv 1) da_nil))))) ?_
  refine dss_cons (ds_if (dt_cmp (op_eqA hr.units) od_eq (de_ix (de_getK hr.units1 (dv 2) (dv 3)) (dv 1)) de_int (nomark _)) (dss_one (ds_ret (de_wk (de_lst true da_nil)))) dss_nil) ?_
  refine dss_cons (ds_set (i := 5) sc_heavy_walk.nd rfl (Or.inl rfl) (de_lst true (da_cons (de_tup (da_cons (dv 3) (da_cons de_int da_nil))) da_nil))) ?_
  refine dss_cons (ds_set (i := 6) sc_heavy_walk.nd rfl (Or.inl rfl) (dv 1)) ?_
  refine dss_cons (ds_whileN (i := 7) hp sc_heavy_walk.nd rfl (Or.inl rfl) (de_call c_next_step_ok (hr.mono (by decide)) rfl c_next_step_g c_next_step_kp c_next_step_b .nil (fun _ => .nil) tk (da_cons (dv 2) (da_cons (de_meth (dv 0) T.cl_Task T.m_Task_followers c_Task_followers_ok (hr.mono (by decide)) c_Task_followers_b .nil (fun _ => .nil) tk (da_cons (de_ix (de_ix (dv 5) (de_neg de_int)) de_int) da_nil)) (da_cons (dv 6) da_nil)))) (dss_cons (ds_aug (i := 6) sc_heavy_walk.nd rfl (Or.inl rfl) (de_ix (dv 7) de_int) iop_sub od_sub)
    (dss_one (ds_expr (de_bm PySem.F.plainAttrs_list PySem.F.slot_list_append PySem.F.type_list_append mt_append md_append (dv 5) (da_cons (de_tup (da_cons (de_ix (dv 7) de_int) (da_cons (de_sub (dv 1) (dv 6)) da_nil))) da_nil)))))) ?_
  exact dss_one (ds_ret (de_wk (dv 5)))

theorem ok_need_step {P : Program} {w : World} {K : PySem.W.Frag} {mg : Str → Option Value} {base : Heap} (T : Txt K mg) (TB : TabBs K mg base) (c_Task_followers : Good P w K mg base 4 none (ma K (ga K "Task") "followers") ["self", "kind"] (sp_Task_followers K)) : Good P w K mg base 5 (some "need_step") (ga K "need_step") ["task", "walk", "place"] (sp_need_step K) := by
  obtain ⟨_, c_Task_followers_ok, c_Task_followers_b, c_Task_followers_kp⟩ := c_Task_followers.ex
  have c_Task_followers_g := c_Task_followers.gl
  obtain ⟨_, x_GapTooShort_ok, x_GapTooShort_b⟩ := okx_GapTooShort (P := P) (w := w) (base := base) T
  obtain ⟨_, x_NoArrow_ok, x_NoArrow_b⟩ := okx_NoArrow (P := P) (w := w) (base := base) T
  obtain ⟨fd, F⟩ := T.d_need_step
  refine ⟨⟨fd, fn_d (k := 4) F sc_need_step len_need_step (t_need_step K) (fun cdv A outer s H E WD hr tk hp => ?_) (pure_need_step T), F.bindsN fun _ _ _ _ _ _ us hl => match us, hl with | [_, _, _], _ => rfl, F.kp⟩, T.g_need_step⟩
  refine dss_cons (ds_asg (de_ix (dv 1) (dv 2)) (dg_tup rfl (dgs_cons (dg_name (i := 3) sc_need_step.nd rfl (Or.inr rfl)) (dgs_cons (dg_name (i := 4) sc_need_step.nd rfl (Or.inl rfl)) dgs_nil)))) ?_
  refine dss_cons (ds_asg (de_ix (dv 1) (de_sub (dv 2) de_int)) (dg_tup rfl (dgs_cons (dg_name (i := 5) sc_need_step.nd rfl (Or.inl rfl)) (dgs_cons (dg_name (i := 6) sc_need_step.nd rfl (Or.inl rfl)) dgs_nil)))) ?_
  refine dss_cons (ds_setLc false (i := 7) (hy := rfl) (hyl := rfl) (hsw := sw_true rfl rfl rfl (by decide +kernel)) (hc := rfl) (hN := sc_need_step.nd) (own := [("second", 8), ("gap", 9)]) (c := .tup [8, 9]) (te := dVar 9) (tt := dTest (dOp dEq (dVar 8) (dVar 3))) (by simp [CT.in]) (di_list (de_meth (dv 0) T.cl_Task T.m_Task_followers c_Task_followers_ok (hr.mono (by decide)) c_Task_followers_b .nil (fun _ => .nil) tk (da_cons (dv 5) da_nil))) (blkOk_by (own := [("second", 8), ("gap", 9)]) (N := nm_need_step) (sc := defScope s_need_step) (by decide +kernel)) (fun _ _ _ _ _ => pg_ctT rfl (js := [8, 9]) (pgs_cons (pg_name (i := 8) sc_need_step.nd rfl (Or.inl rfl)) (pgs_cons (pg_name (i := 9) sc_need_step.nd rfl (Or.inl rfl)) (pgs_nil)))) (fun _ _ _ _ _ => dts_one (dt_cmp (op_eqA hr.units) od_eq (dv 8) (dv 3) (nomark _))) (fun _ _ _ _ _ => dv 9)) ?_
  refine dss_cons (ds_if (dt_cmp (op_eqA hr.units) od_eq (dv 7) (de_lst false da_nil) (nomark _)) (dss_one (ds_raise T.ox_NoArrow T.oxi_NoArrow T.oxf_NoArrow x_NoArrow_ok (hr.mono (by decide)) x_NoArrow_b rfl T.g_NoArrow (by decide) rfl tk (da_cons de_int (da_cons (dv 2) da_nil)))) dss_nil) ?_
  exact dss_one (ds_if (dt_cmp op_lt od_cmpI (de_sub (dv 4) (dv 6)) (de_ix (dv 7) de_int) (nomark _)) (dss_one (ds_raise T.ox_GapTooShort T.oxi_GapTooShort T.oxf_GapTooShort x_GapTooShort_ok (hr.mono (by decide)) x_GapTooShort_b rfl T.g_GapTooShort (by decide) rfl tk (da_cons de_int (da_cons (dv 2) da_nil)))) dss_nil)

theorem ok_walk_demand {P : Program} {w : World} {K : PySem.W.Frag} {mg : Str → Option Value} {base : Heap} (T : Txt K mg) (TB : TabBs K mg base) (c_Task_cost_of : Good P w K mg base 4 none (ma K (ga K "Task") "cost_of") ["self", "kind"] (sp_Task_cost_of K)) (c_need_step : Good P w K mg base 5 (some "need_step") (ga K "need_step") ["task", "walk", "place"] (sp_need_step K)) (c_Task_deadline_of : Good P w K mg base 4 none (ma K (ga K "Task") "deadline_of") ["self", "kind"] (sp_Task_deadline_of K)) : Good P w K mg base 6 (some "walk_demand") (ga K "walk_demand") ["task", "walk", "ticks"] (sp_walk_demand K) := by
  obtain ⟨_, c_Task_cost_of_ok, c_Task_cost_of_b, c_Task_cost_of_kp⟩ := c_Task_cost_of.ex
  have c_Task_cost_of_g := c_Task_cost_of.gl
  obtain ⟨_, c_need_step_ok, c_need_step_b, c_need_step_kp⟩ := c_need_step.ex
  have c_need_step_g := c_need_step.gl
  obtain ⟨_, c_Task_deadline_of_ok, c_Task_deadline_of_b, c_Task_deadline_of_kp⟩ := c_Task_deadline_of.ex
  have c_Task_deadline_of_g := c_Task_deadline_of.gl
  obtain ⟨_, x_BadRelease_ok, x_BadRelease_b⟩ := okx_BadRelease (P := P) (w := w) (base := base) T
  obtain ⟨fd, F⟩ := T.d_walk_demand
  refine ⟨⟨fd, fn_d (k := 5) F sc_walk_demand len_walk_demand (t_walk_demand K) (fun cdv A outer s H E WD hr tk hp => ?_) (pure_walk_demand T), F.bindsN fun _ _ _ _ _ _ us hl => match us, hl with | [_, _, _], _ => rfl, F.kp⟩, T.g_walk_demand⟩
  refine dss_cons (ds_set (i := 3) sc_walk_demand.nd rfl (Or.inl rfl) de_int) ?_
  refine dss_cons (ds_for hp rfl (di_enum rfl T.b_enumerate (da_cons (dv 1) da_nil)) (dg_tup rfl (dgs_cons (dg_name (i := 4) sc_walk_demand.nd rfl (Or.inl rfl)) (dgs_cons (dg_tup rfl (dgs_cons (dg_name (i := 5) sc_walk_demand.nd rfl (Or.inl rfl)) (dgs_cons (dg_name (i := 6) sc_walk_demand.nd rfl (Or.inl rfl)) dgs_nil))) dgs_nil))) (dss_cons (ds_set (i := 7) sc_walk_demand.nd rfl (Or.inl rfl) (de_meth (dv 0) T.cl_Task T.m_Task_cost_of c_Task_cost_of_ok (hr.mono (by decide)) c_Task_cost_of_b .nil (fun _ => .nil) tk (da_cons (dv 5) da_nil)))
    (dss_cons (ds_if (dt_cmp op_lt od_cmpI (dv 6) de_int (nomark _)) (dss_one (ds_raise T.ox_BadRelease T.oxi_BadRelease T.oxf_BadRelease x_BadRelease_ok (hr.mono (by decide)) x_BadRelease_b rfl T.g_BadRelease (by decide) rfl tk (da_cons de_int (da_cons (dv 4) da_nil)))) dss_nil)
    (dss_cons (ds_if (dt_cmp op_gt od_cmpI (dv 4) de_int (nomark _)) (dss_one (ds_expr (de_call c_need_step_ok (hr.mono (by decide)) rfl c_need_step_g c_need_step_kp c_need_step_b .nil (fun _ => .nil) tk (da_cons (dv 0) (da_cons (dv 1) (da_cons (dv 4) da_nil)))))) dss_nil)
    (dss_one (ds_if (dt_cmp op_le od_cmpI (de_add false (dv 6) (de_meth (dv 0) T.cl_Task T.m_Task_deadline_of c_Task_deadline_of_ok (hr.mono (by decide)) c_Task_deadline_of_b .nil (fun _ => .nil) tk (da_cons (dv 5) da_nil))) (dv 2) (nomark _)) (dss_one (ds_aug (i := 3) sc_walk_demand.nd rfl (Or.inl rfl) (dv 7) iop_add od_addI)) dss_nil)))))) ?_
  exact dss_one (ds_ret (dv 3))

theorem ok_heavy_run {P : Program} {w : World} {K : PySem.W.Frag} {mg : Str → Option Value} {base : Heap} (T : Txt K mg) (TB : TabBs K mg base) (c_heavy_walk : Good P w K mg base 6 (some "heavy_walk") (ga K "heavy_walk") ["task", "ticks"] (sp_heavy_walk K)) (c_Task_cost_of : Good P w K mg base 4 none (ma K (ga K "Task") "cost_of") ["self", "kind"] (sp_Task_cost_of K)) (c_Run_init : GoodK P w K mg base 7 none (ma K (ga K "Run") "__init__") ["self", "tasks", "walks", "grain"] (sp_Run_init K) 3 ["grain"] [.int 1]) : Good P w K mg base 9 (some "heavy_run") (ga K "heavy_run") ["tasks", "ticks"] (sp_heavy_run K) := by
  obtain ⟨_, c_heavy_walk_ok, c_heavy_walk_b, c_heavy_walk_kp⟩ := c_heavy_walk.ex
  have c_heavy_walk_g := c_heavy_walk.gl
  obtain ⟨_, c_Task_cost_of_ok, c_Task_cost_of_b, c_Task_cost_of_kp⟩ := c_Task_cost_of.ex
  have c_Task_cost_of_g := c_Task_cost_of.gl
  obtain ⟨_, c_Run_init_ok, c_Run_init_kp, c_Run_init_kb, _, _, c_Run_init_dv, c_Run_init_b, c_Run_init_dd⟩ := c_Run_init.ex
  have c_Run_init_g := c_Run_init.gl
  obtain ⟨fd, F⟩ := T.d_heavy_run
  refine ⟨⟨fd, fn_d (k := 8) F sc_heavy_run len_heavy_run (t_heavy_run K) (fun cdv A outer s H E WD hr tk hp => ?_) (pure_heavy_run T), F.bindsN fun _ _ _ _ _ _ us hl => match us, hl with | [_, _], _ => rfl, F.kp⟩, T.g_heavy_run⟩
  refine dss_cons (ds_set (i := 2) sc_heavy_run.nd rfl (Or.inl rfl) (de_lst true da_nil)) ?_
  refine dss_cons (ds_for hp rfl (di_list (dv 0)) (dg_name (i := 3) sc_heavy_run.nd rfl (Or.inr rfl)) (dss_one (ds_expr (de_bm PySem.F.plainAttrs_list PySem.F.slot_list_append PySem.F.type_list_append mt_append md_append (dv 2) (da_cons (de_lc false (own := [("kind", 4), ("release", 5)]) (c := .tup [4, 5]) (te := dTup (daCons (dVar 4) (daCons (dVar 5) (daCons (dMeth (ga K "Task") "cost_of" (sp_Task_cost_of K) WD0 [] (dVar 3) (daCons (dVar 4) daNil)) daNil)))) (tt := dYes) rfl sc_heavy_run.nd (by simp [CT.in]) (di_list (de_frz (de_call c_heavy_walk_ok (hr.mono (by decide)) rfl c_heavy_walk_g c_heavy_walk_kp c_heavy_walk_b .nil (fun _ => .nil) tk (da_cons (dv 3) (da_cons (dv 1) da_nil))))) (blkOk_by (own := [("kind", 4), ("release", 5)]) (N := nm_heavy_run) (sc := defScope s_heavy_run) (by decide +kernel)) (fun _ _ _ _ _ => pg_ctT rfl (js := [4, 5]) (pgs_cons (pg_name (i := 4) sc_heavy_run.nd rfl (Or.inl rfl)) (pgs_cons (pg_name (i := 5) sc_heavy_run.nd rfl (Or.inl rfl)) (pgs_nil)))) (fun _ _ _ _ _ => dts_nil) (fun _ _ _ _ _ => de_tup (da_cons (dv 4) (da_cons (dv 5) (da_cons (de_meth (dv 3) T.cl_Task T.m_Task_cost_of c_Task_cost_of_ok (hr.mono (by decide)) c_Task_cost_of_b .nil (fun _ => .nil) takes0 (da_cons (dv 4) da_nil)) da_nil))))) da_nil))))) ?_
  refine dss_frz 2 ?_
  exact dss_one (ds_ret (de_make T.mk_Run c_Run_init_ok (hr.mono (by decide)) rfl T.g_Run c_Run_init_b c_Run_init_dv c_Run_init_dd tk (none_of none_Run_init) (da_cons (de_callTy call_list_of (cd_list false) rfl T.b_list (by decide +kernel) (da_cons (dv 0) da_nil)) (da_cons (dv 2) da_nil))))

theorem ok_law_pool {P : Program} {w : World} {K : PySem.W.Frag} {mg : Str → Option Value} {base : Heap} (T : Txt K mg) (TB : TabBs K mg base)  : Good P w K mg base 1 (some "_law_pool") (ga K "_law_pool") ["_law_script"] (sp_law_pool K) := by
  obtain ⟨fd, F⟩ := T.d_law_pool
  refine ⟨⟨fd, fn_d (k := 0) F sc_law_pool len_law_pool (t_law_pool K) (fun cdv A outer s H E WD hr tk hp => ?_) (pure_law_pool T), F.bindsN fun _ _ _ _ _ _ us hl => match us, hl with | [_], _ => rfl, F.kp⟩, T.g_law_pool⟩
  refine dss_cons (ds_set (i := 1) sc_law_pool.nd rfl (Or.inl rfl) de_int) ?_
  refine dss_cons (ds_for hp rfl (di_list (dv 0)) (dg_name (i := 2) sc_law_pool.nd rfl (Or.inl rfl)) (dss_one (ds_set (i := 1) sc_law_pool.nd rfl (Or.inl rfl) (de_mod (de_callTy call_int1 cd_int1 rfl T.b_int (by decide +kernel) (da_cons (de_add false (de_mul false (dv 1) de_int) (dv 2)) da_nil)) de_int)))) ?_
  exact dss_one (ds_ret (de_lst true (da_cons (de_lc true (own := [("_law_cell", 2)]) (c := .one 2) (te := dVar 2) (tt := dTest (dOp dGe (dVar 2) (dOp dPow (dC (.int 10)) (dC (.int 18))))) rfl sc_law_pool.nd (by simp [CT.in]) (di_list (dv 0)) (blkOk_by (own := [("_law_cell", 2)]) (N := nm_law_pool) (sc := defScope s_law_pool) (by decide +kernel)) (fun _ _ _ _ _ => pg_ct1 (i := 2) sc_law_pool.nd rfl (Or.inl rfl)) (fun _ _ _ _ _ => dts_one (dt_cmp op_ge od_cmpI (dv 2) (de_pow de_int de_int) (nomark _))) (fun _ _ _ _ _ => dv 2)) (da_cons (dv 1) (da_cons de_int da_nil)))))

theorem ok_law_draw {P : Program} {w : World} {K : PySem.W.Frag} {mg : Str → Option Value} {base : Heap} (T : Txt K mg) (TB : TabBs K mg base)  : Good P w K mg base 1 (some "_law_draw") (ga K "_law_draw") ["_law_pool_here", "_law_limit"] (sp_law_draw K) := by
  obtain ⟨fd, F⟩ := T.d_law_draw
  refine ⟨⟨fd, fn_d (k := 0) F sc_law_draw len_law_draw (t_law_draw K) (fun cdv A outer s H E WD hr tk hp => ?_) (pure_law_draw T), F.bindsN fun _ _ _ _ _ _ us hl => match us, hl with | [_, _], _ => rfl, F.kp⟩, T.g_law_draw⟩
  refine dss_cons (ds_set (i := 2) sc_law_draw.nd rfl (Or.inl rfl) (de_ix (dv 0) de_int)) ?_
  refine dss_cons (ds_if (dt_cmp (op_neA hr.units) od_ne (dv 2) (de_lst false da_nil) (nomark _)) (dss_cons (ds_set (i := 3) sc_law_draw.nd rfl (Or.inl rfl) (de_mod (de_callTy call_int1 cd_int1 rfl T.b_int (by decide +kernel) (da_cons (de_ix (dv 2) de_int) da_nil)) (dv 1)))
    (dss_cons (ds_asg (de_div (de_ix (dv 2) de_int) (dv 1)) (dg_sub (dv 2) de_int))
    (dss_cons (ds_if (dt_cmp (op_eqA hr.units) od_eq (de_ix (dv 2) de_int) de_int (nomark _)) (dss_one (ds_expr (de_bm PySem.F.plainAttrs_list PySem.F.slot_list_pop PySem.F.type_list_pop mt_popAt md_popAt (dv 2) (da_cons de_int da_nil)))) dss_nil)
    (dss_one (ds_ret (dv 3)))))) dss_nil) ?_
  refine dss_cons (ds_asg (de_add false (de_ix (dv 0) de_int) de_int) (dg_sub (dv 0) de_int)) ?_
  refine dss_cons (ds_set (i := 4) sc_law_draw.nd rfl (Or.inl rfl) (de_mod (de_pow (de_callTy call_int1 cd_int1 rfl T.b_int (by decide +kernel) (da_cons (de_add false (de_ix (dv 0) de_int) (de_mul false de_int (de_ix (dv 0) de_int))) da_nil)) de_int) de_int)) ?_
  refine dss_cons (ds_set (i := 5) sc_law_draw.nd rfl (Or.inl rfl) (de_mod (de_callTy call_int1 cd_int1 rfl T.b_int (by decide +kernel) (da_cons (de_add false (de_mul false (dv 4) de_int) (de_ix (dv 0) de_int)) da_nil)) de_int)) ?_
  exact dss_one (ds_ret (de_mod (de_div (de_callTy call_int1 cd_int1 rfl T.b_int (by decide +kernel) (da_cons (dv 5) da_nil)) de_int) (dv 1)))

theorem ok_law_name {P : Program} {w : World} {K : PySem.W.Frag} {mg : Str → Option Value} {base : Heap} (T : Txt K mg) (TB : TabBs K mg base) (c_law_draw : Good P w K mg base 1 (some "_law_draw") (ga K "_law_draw") ["_law_pool_here", "_law_limit"] (sp_law_draw K)) : Good P w K mg base 2 (some "_law_name") (ga K "_law_name") ["_law_pool_here"] (sp_law_name K) := by
  obtain ⟨_, c_law_draw_ok, c_law_draw_b, c_law_draw_kp⟩ := c_law_draw.ex
  have c_law_draw_g := c_law_draw.gl
  obtain ⟨fd, F⟩ := T.d_law_name
  refine ⟨⟨fd, fn_d (k := 1) F sc_law_name len_law_name (t_law_name K) (fun cdv A outer s H E WD hr tk hp => ?_) (pure_law_name T), F.bindsN fun _ _ _ _ _ _ us hl => match us, hl with | [_], _ => rfl, F.kp⟩, T.g_law_name⟩
  refine dss_cons (ds_set (i := 1) sc_law_name.nd rfl (Or.inr rfl) de_str) ?_
  refine dss_cons (ds_set (i := 2) sc_law_name.nd rfl (Or.inl rfl) (de_call c_law_draw_ok (hr.mono (by decide)) rfl c_law_draw_g c_law_draw_kp c_law_draw_b .nil (fun _ => .nil) tk (da_cons (dv 0) (da_cons de_int da_nil)))) ?_
  exact dss_one (ds_ret (de_add false (de_ix (dv 1) (de_call c_law_draw_ok (hr.mono (by decide)) rfl c_law_draw_g c_law_draw_kp c_law_draw_b .nil (fun _ => .nil) tk (da_cons (dv 0) (da_cons de_int da_nil)))) (de_bm PySem.F.plainAttrs_str PySem.F.slot_str_join PySem.F.type_str_join mt_join md_join de_str (da_cons (de_lc false (own := [("_law_k", 3)]) (c := .one 3) (te := dOp dIx (dVar 1) (dCall (sp_law_draw K) WD0 [] (daCons (dVar 0) (daCons (dC (.int 37)) daNil)))) (tt := dYes) rfl sc_law_name.nd (by simp [CT.in]) (di_range1 rfl T.b_range (da_cons (dv 2) da_nil)) (blkOk_by (own := [("_law_k", 3)]) (N := nm_law_name) (sc := defScope s_law_name) (by decide +kernel)) (fun _ _ _ _ _ => pg_ct1 (i := 3) sc_law_name.nd rfl (Or.inl rfl)) (fun _ _ _ _ _ => dts_nil) (fun _ _ _ _ _ => de_ix (dv 1) (de_call c_law_draw_ok (hr.mono (by decide)) rfl c_law_draw_g c_law_draw_kp c_law_draw_b .nil (fun _ => .nil) takes0 (da_cons (dv 0) (da_cons de_int da_nil))))) da_nil))))

theorem ok_law_fresh {P : Program} {w : World} {K : PySem.W.Frag} {mg : Str → Option Value} {base : Heap} (T : Txt K mg) (TB : TabBs K mg base)  : Good P w K mg base 1 (some "_law_fresh") (ga K "_law_fresh") ["_law_word", "_law_taken"] (sp_law_fresh K) := by
  obtain ⟨fd, F⟩ := T.d_law_fresh
  refine ⟨⟨fd, fn_d (k := 0) F sc_law_fresh len_law_fresh (t_law_fresh K) (fun cdv A outer s H E WD hr tk hp => ?_) (pure_law_fresh T), F.bindsN fun _ _ _ _ _ _ us hl => match us, hl with | [_, _], _ => rfl, F.kp⟩, T.g_law_fresh⟩
  refine dss_cons (ds_if (dt_cmp op_notInA od_notIn (dv 0) (dv 1) (by rfl)) (dss_one (ds_ret (dv 0))) dss_nil) ?_
  exact dss_one (ds_ret (de_ix (de_lc false (own := [("_law_sign", 2)]) (c := .one 2) (te := dOp (dAdd false) (dSlice false (dVar 0) doNone (doSome (dC (.int 11)))) (dVar 2)) (tt := dTest (dOp (dIn true) (dOp (dAdd false) (dSlice false (dVar 0) doNone (doSome (dC (.int 11)))) (dVar 2)) (dVar 1))) rfl sc_law_fresh.nd (by simp [CT.in]) (di_str de_str) (blkOk_by (own := [("_law_sign", 2)]) (N := nm_law_fresh) (sc := defScope s_law_fresh) (by decide +kernel)) (fun _ _ _ _ _ => pg_ct1 (i := 2) sc_law_fresh.nd rfl (Or.inl rfl)) (fun _ _ _ _ _ => dts_one (dt_cmp op_notInA od_notIn (de_add false (de_slice false (dv 0) do_none (do_some de_int)) (dv 2)) (dv 1) (by rfl))) (fun _ _ _ _ _ => de_add false (de_slice false (dv 0) do_none (do_some de_int)) (dv 2))) de_int))

theorem ok_law_near {P : Program} {w : World} {K : PySem.W.Frag} {mg : Str → Option Value} {base : Heap} (T : Txt K mg) (TB : TabBs K mg base) (c_law_draw : Good P w K mg base 1 (some "_law_draw") (ga K "_law_draw") ["_law_pool_here", "_law_limit"] (sp_law_draw K)) (c_law_name : Good P w K mg base 2 (some "_law_name") (ga K "_law_name") ["_law_pool_here"] (sp_law_name K)) (c_law_fresh : Good P w K mg base 1 (some "_law_fresh") (ga K "_law_fresh") ["_law_word", "_law_taken"] (sp_law_fresh K)) : Good P w K mg base 3 (some "_law_near") (ga K "_law_near") ["_law_pool_here", "_law_taken"] (sp_law_near K) := by
  obtain ⟨_, c_law_draw_ok, c_law_draw_b, c_law_draw_kp⟩ := c_law_draw.ex
  have c_law_draw_g := c_law_draw.gl
  obtain ⟨_, c_law_name_ok, c_law_name_b, c_law_name_kp⟩ := c_law_name.ex
  have c_law_name_g := c_law_name.gl
  obtain ⟨_, c_law_fresh_ok, c_law_fresh_b, c_law_fresh_kp⟩ := c_law_fresh.ex
  have c_law_fresh_g := c_law_fresh.gl
  obtain ⟨fd, F⟩ := T.d_law_near
  refine ⟨⟨fd, fn_d (k := 2) F sc_law_near len_law_near (t_law_near K) (fun cdv A outer s H E WD hr tk hp => ?_) (pure_law_near T), F.bindsN fun _ _ _ _ _ _ us hl => match us, hl with | [_, _], _ => rfl, F.kp⟩, T.g_law_near⟩
  refine dss_cons (ds_set (i := 2) sc_law_near.nd rfl (Or.inl rfl) de_str) ?_
  refine dss_cons (ds_set (i := 3) sc_law_near.nd rfl (Or.inl rfl) (de_call c_law_draw_ok (hr.mono (by decide)) rfl c_law_draw_g c_law_draw_kp c_law_draw_b .nil (fun _ => .nil) tk (da_cons (dv 0) (da_cons de_int da_nil)))) ?_
  refine dss_cons (ds_set (i := 4) sc_law_near.nd rfl (Or.inl rfl) (de_call c_law_name_ok (hr.mono (by decide)) rfl c_law_name_g c_law_name_kp c_law_name_b .nil (fun _ => .nil) tk (da_cons (dv 0) da_nil))) ?_
  refine dss_cons (ds_set (i := 5) sc_law_near.nd rfl (Or.inl rfl) (de_add false de_int (de_call c_law_draw_ok (hr.mono (by decide)) rfl c_law_draw_g c_law_draw_kp c_law_draw_b .nil (fun _ => .nil) tk (da_cons (dv 0) (da_cons de_int da_nil))))) ?_
  refine dss_cons (ds_if (dt_w (dw_and (dt_cmp (op_neA hr.units) od_ne (dv 1) (de_lst false da_nil) (nomark _)) (dw_and1 (dt_cmp (op_eqA hr.units) od_eq (dv 3) de_int (nomark _))))) (dss_one (ds_set (i := 4) sc_law_near.nd rfl (Or.inl rfl) (de_add false (de_slice false (de_ix (dv 1) de_int) do_none (do_some de_int)) (de_ix (dv 2) (de_call c_law_draw_ok (hr.mono (by decide)) rfl c_law_draw_g c_law_draw_kp c_law_draw_b .nil (fun _ => .nil) tk (da_cons (dv 0) (da_cons de_int da_nil))))))) dss_nil) ?_
  refine dss_cons (ds_if (dt_w (dw_and (dt_cmp (op_neA hr.units) od_ne (dv 1) (de_lst false da_nil) (nomark _)) (dw_and1 (dt_cmp (op_eqA hr.units) od_eq (dv 3) de_int (nomark _))))) (dss_one (ds_set (i := 4) sc_law_near.nd rfl (Or.inl rfl) (de_slice false (de_add false (de_add false (de_slice false (de_ix (dv 1) de_int) do_none (do_some (dv 5))) (de_ix (dv 2) (de_call c_law_draw_ok (hr.mono (by decide)) rfl c_law_draw_g c_law_draw_kp c_law_draw_b .nil (fun _ => .nil) tk (da_cons (dv 0) (da_cons de_int da_nil))))) (de_slice false (de_ix (dv 1) de_int) (do_some (de_add false (dv 5) de_int)) do_none)) do_none (do_some de_int)))) dss_nil) ?_
  exact dss_one (ds_ret (de_call c_law_fresh_ok (hr.mono (by decide)) rfl c_law_fresh_g c_law_fresh_kp c_law_fresh_b .nil (fun _ => .nil) tk (da_cons (dv 4) (da_cons (dv 1) da_nil))))

theorem ok_law_number {P : Program} {w : World} {K : PySem.W.Frag} {mg : Str → Option Value} {base : Heap} (T : Txt K mg) (TB : TabBs K mg base) (c_law_draw : Good P w K mg base 1 (some "_law_draw") (ga K "_law_draw") ["_law_pool_here", "_law_limit"] (sp_law_draw K)) : Good P w K mg base 2 (some "_law_number") (ga K "_law_number") ["_law_pool_here", "_law_most"] (sp_law_number K) := by
  obtain ⟨_, c_law_draw_ok, c_law_draw_b, c_law_draw_kp⟩ := c_law_draw.ex
  have c_law_draw_g := c_law_draw.gl
  obtain ⟨fd, F⟩ := T.d_law_number
  refine ⟨⟨fd, fn_d (k := 1) F sc_law_number len_law_number (t_law_number K) (fun cdv A outer s H E WD hr tk hp => ?_) (pure_law_number T), F.bindsN fun _ _ _ _ _ _ us hl => match us, hl with | [_, _], _ => rfl, F.kp⟩, T.g_law_number⟩
  refine dss_cons (ds_set (i := 2) sc_law_number.nd rfl (Or.inl rfl) (de_call c_law_draw_ok (hr.mono (by decide)) rfl c_law_draw_g c_law_draw_kp c_law_draw_b .nil (fun _ => .nil) tk (da_cons (dv 0) (da_cons de_int da_nil)))) ?_
  refine dss_cons (ds_if (dt_cmp (op_eqA hr.units) od_eq (dv 2) de_int (nomark _)) (dss_one (ds_ret de_int)) dss_nil) ?_
  refine dss_cons (ds_if (dt_cmp (op_eqA hr.units) od_eq (dv 2) de_int (nomark _)) (dss_one (ds_ret (dv 1))) dss_nil) ?_
  exact dss_one (ds_ret (de_add false de_int (de_call c_law_draw_ok (hr.mono (by decide)) rfl c_law_draw_g c_law_draw_kp c_law_draw_b .nil (fun _ => .nil) tk (da_cons (dv 0) (da_cons (dv 1) da_nil)))))

theorem ok_law_spec {P : Program} {w : World} {K : PySem.W.Frag} {mg : Str → Option Value} {base : Heap} (T : Txt K mg) (TB : TabBs K mg base) (c_law_draw : Good P w K mg base 1 (some "_law_draw") (ga K "_law_draw") ["_law_pool_here", "_law_limit"] (sp_law_draw K)) (c_law_near : Good P w K mg base 3 (some "_law_near") (ga K "_law_near") ["_law_pool_here", "_law_taken"] (sp_law_near K)) (c_law_number : Good P w K mg base 2 (some "_law_number") (ga K "_law_number") ["_law_pool_here", "_law_most"] (sp_law_number K)) (c_law_name : Good P w K mg base 2 (some "_law_name") (ga K "_law_name") ["_law_pool_here"] (sp_law_name K)) : Good P w K mg base 4 (some "_law_spec") (ga K "_law_spec") ["_law_pool_here"] (sp_law_spec K) := by
  obtain ⟨_, c_law_draw_ok, c_law_draw_b, c_law_draw_kp⟩ := c_law_draw.ex
  have c_law_draw_g := c_law_draw.gl
  obtain ⟨_, c_law_near_ok, c_law_near_b, c_law_near_kp⟩ := c_law_near.ex
  have c_law_near_g := c_law_near.gl
  obtain ⟨_, c_law_number_ok, c_law_number_b, c_law_number_kp⟩ := c_law_number.ex
  have c_law_number_g := c_law_number.gl
  obtain ⟨_, c_law_name_ok, c_law_name_b, c_law_name_kp⟩ := c_law_name.ex
  have c_law_name_g := c_law_name.gl
  obtain ⟨fd, F⟩ := T.d_law_spec
  refine ⟨⟨fd, fn_d (k := 3) F sc_law_spec len_law_spec (t_law_spec K) (fun cdv A outer s H E WD hr tk hp => ?_) (pure_law_spec T), F.bindsN fun _ _ _ _ _ _ us hl => match us, hl with | [_], _ => rfl, F.kp⟩, T.g_law_spec⟩
  refine dss_cons (ds_set (i := 1) sc_law_spec.nd rfl (Or.inr rfl) (de_add false de_int (de_call c_law_draw_ok (hr.mono (by decide)) rfl c_law_draw_g c_law_draw_kp c_law_draw_b .nil (fun _ => .nil) tk (da_cons (dv 0) (da_cons de_int da_nil))))) ?_
  refine dss_cons (ds_set (i := 2) sc_law_spec.nd rfl (Or.inl rfl) (de_call c_law_draw_ok (hr.mono (by decide)) rfl c_law_draw_g c_law_draw_kp c_law_draw_b .nil (fun _ => .nil) tk (da_cons (dv 0) (da_cons (de_add false de_int (de_callB (call_minA rfl) cd_min rfl T.b_min (by decide +kernel) (da_cons de_int (da_cons (de_mul false (dv 1) (dv 1)) da_nil)))) da_nil)))) ?_
  refine dss_cons (ds_set (i := 3) sc_law_spec.nd rfl (Or.inl rfl) (de_ix (de_lst false (da_cons (de_lst false (da_cons de_int (da_cons de_int da_nil))) (da_cons (de_lst false (da_cons de_int (da_cons de_int da_nil))) da_nil))) (de_callTy call_int1 cd_int1 rfl T.b_int (by decide +kernel) (da_cons (de_cmp op_gt od_cmpI (dv 2) de_int (nomark _)) da_nil)))) ?_
  refine dss_cons (ds_set (i := 4) sc_law_spec.nd rfl (Or.inr rfl) (de_lst true da_nil)) ?_
  refine dss_cons (ds_set (i := 5) sc_law_spec.nd rfl (Or.inl rfl) (de_lst true da_nil)) ?_
  refine dss_cons (ds_for hp rfl (di_range1 rfl T.b_range (da_cons (dv 1) da_nil)) (dg_name (i := 6) sc_law_spec.nd rfl (Or.inl rfl)) (dss_cons (ds_set (i := 7) sc_law_spec.nd rfl (Or.inl rfl) (de_call c_law_near_ok (hr.mono (by decide)) rfl c_law_near_g c_law_near_kp c_law_near_b .nil (fun _ => .nil) tk (da_cons (dv 0) (da_cons (dv 4) da_nil))))
    (dss_cons (ds_expr (de_bm PySem.F.plainAttrs_list PySem.F.slot_list_append PySem.F.type_list_append mt_append md_append (dv 4) (da_cons (dv 7) da_nil)))
    (dss_one (ds_expr (de_bm PySem.F.plainAttrs_list PySem.F.slot_list_append PySem.F.type_list_append mt_append md_append (dv 5) (da_cons (de_tup (da_cons (dv 7) (da_cons (de_call c_law_number_ok (hr.mono (by decide)) rfl c_law_number_g c_law_number_kp c_law_number_b .nil (fun _ => .nil) tk (da_cons (dv 0) (da_cons (de_ix (dv 3) de_int) da_nil))) (da_cons (de_call c_law_number_ok (hr.mono (by decide)) rfl c_law_number_g c_law_number_kp c_law_number_b .nil (fun _ => .nil) tk (da_cons (dv 0) (da_cons (de_ix (dv 3) de_int) da_nil))) da_nil)))) da_nil))))))) ?_
  refine dss_frz 4 ?_
  refine dss_frz 5 ?_
  refine dss_cons (ds_setLc true (i := 8) (hy := rfl) (hyl := rfl) (hsw := sw_true rfl rfl rfl (by decide +kernel)) (hc := rfl) (hN := sc_law_spec.nd) (own := [("_law_k", 6)]) (c := .one 6) (te := dTup (daCons (dOp dIx (dVar 4) (dOp dDiv (dVar 6) (dVar 1))) (daCons (dOp dIx (dVar 4) (dOp dMod (dVar 6) (dVar 1))) daNil))) (tt := dYes) (by simp [CT.in]) (di_range1 rfl T.b_range (da_cons (de_mul false (dv 1) (dv 1)) da_nil)) (blkOk_by (own := [("_law_k", 6)]) (N := nm_law_spec) (sc := defScope s_law_spec) (by decide +kernel)) (fun _ _ _ _ _ => pg_ct1 (i := 6) sc_law_spec.nd rfl (Or.inl rfl)) (fun _ _ _ _ _ => dts_nil) (fun _ _ _ _ _ => de_tup (da_cons (de_ix (dv 4) (de_div (dv 6) (dv 1))) (da_cons (de_ix (dv 4) (de_mod (dv 6) (dv 1))) da_nil)))) ?_
  refine dss_cons (ds_set (i := 9) sc_law_spec.nd rfl (Or.inl rfl) (de_lst true da_nil)) ?_
  refine dss_cons (ds_for hp rfl (di_range1 rfl T.b_range (da_cons (dv 2) da_nil)) (dg_name (i := 6) sc_law_spec.nd rfl (Or.inl rfl)) (dss_cons (ds_set (i := 10) sc_law_spec.nd rfl (Or.inl rfl) (de_bm PySem.F.plainAttrs_list PySem.F.slot_list_pop PySem.F.type_list_pop mt_popAt md_popAt (dv 8) (da_cons (de_call c_law_draw_ok (hr.mono (by decide)) rfl c_law_draw_g c_law_draw_kp c_law_draw_b .nil (fun _ => .nil) tk (da_cons (dv 0) (da_cons (de_callB call_len cd_len rfl T.b_len (by decide +kernel) (da_cons (dv 8) da_nil)) da_nil))) da_nil)))
    (dss_one (ds_expr (de_bm PySem.F.plainAttrs_list PySem.F.slot_list_append PySem.F.type_list_append mt_append md_append (dv 9) (da_cons (de_tup (da_cons (de_ix (dv 10) de_int) (da_cons (de_ix (dv 10) de_int) (da_cons (de_call c_law_number_ok (hr.mono (by decide)) rfl c_law_number_g c_law_number_kp c_law_number_b .nil (fun _ => .nil) tk (da_cons (dv 0) (da_cons de_int da_nil))) da_nil)))) da_nil)))))) ?_
  refine dss_frz 9 ?_
  exact dss_one (ds_ret (de_wk (de_tup (da_cons (de_call c_law_name_ok (hr.mono (by decide)) rfl c_law_name_g c_law_name_kp c_law_name_b .nil (fun _ => .nil) tk (da_cons (dv 0) da_nil)) (da_cons (dv 5) (da_cons (dv 9) da_nil))))))

theorem ok_law_table {P : Program} {w : World} {K : PySem.W.Frag} {mg : Str → Option Value} {base : Heap} (T : Txt K mg) (TB : TabBs K mg base)  : Good P w K mg base 1 (some "_law_table") (ga K "_law_table") ["_law_spec_here", "_law_ticks"] (sp_law_table K) := by
  obtain ⟨fd, F⟩ := T.d_law_table
  refine ⟨⟨fd, fn_d (k := 0) F sc_law_table len_law_table (t_law_table K) (fun cdv A outer s H E WD hr tk hp => ?_) (pure_law_table T), F.bindsN fun _ _ _ _ _ _ us hl => match us, hl with | [_, _], _ => rfl, F.kp⟩, T.g_law_table⟩
  refine dss_cons (ds_setLc false (i := 2) (hy := rfl) (hyl := rfl) (hsw := sw_true rfl rfl rfl (by decide +kernel)) (hc := rfl) (hN := sc_law_table.nd) (own := [("_law_row", 3)]) (c := .one 3) (te := dLst true daNil) (tt := dYes) (by simp [CT.in]) (di_list (de_ix (dv 0) de_int)) (blkOk_by (own := [("_law_row", 3)]) (N := nm_law_table) (sc := defScope s_law_table) (by decide +kernel)) (fun _ _ _ _ _ => pg_ct1 (i := 3) sc_law_table.nd rfl (Or.inl rfl)) (fun _ _ _ _ _ => dts_nil) (fun _ _ _ _ _ => de_lst true da_nil)) ?_
  refine dss_cons (ds_set (i := 4) sc_law_table.nd rfl (Or.inl rfl) (de_callTy (call_dictP rfl) cd_dictP rfl T.b_dict (by decide +kernel) (da_cons (de_lc false (own := [("_law_i", 5)]) (c := .one 5) (te := dTup (daCons (dOp dIx (dOp dIx (dOp dIx (dVar 0) (dC (.int 1))) (dVar 5)) (dC (.int 0))) (daCons (dVar 5) daNil))) (tt := dYes) rfl sc_law_table.nd (by simp [CT.in]) (di_range1 rfl T.b_range (da_cons (de_callB call_len cd_len rfl T.b_len (by decide +kernel) (da_cons (de_ix (dv 0) de_int) da_nil)) da_nil)) (blkOk_by (own := [("_law_i", 5)]) (N := nm_law_table) (sc := defScope s_law_table) (by decide +kernel)) (fun _ _ _ _ _ => pg_ct1 (i := 5) sc_law_table.nd rfl (Or.inl rfl)) (fun _ _ _ _ _ => dts_nil) (fun _ _ _ _ _ => de_tup (da_cons (de_ix (de_ix (de_ix (dv 0) de_int) (dv 5)) de_int) (da_cons (dv 5) da_nil)))) da_nil))) ?_
  refine dss_cons (ds_for hp rfl (di_range1 rfl T.b_range (da_cons (de_add false (dv 1) de_int) da_nil)) (dg_name (i := 6) sc_law_table.nd rfl (Or.inl rfl)) (dss_one (ds_for hp rfl (di_range1 rfl T.b_range (da_cons (de_callB call_len cd_len rfl T.b_len (by decide +kernel) (da_cons (de_ix (dv 0) de_int) da_nil)) da_nil)) (dg_name (i := 5) sc_law_table.nd rfl (Or.inl rfl)) (dss_cons (ds_set (i := 3) sc_law_table.nd rfl (Or.inl rfl) (de_ix (de_ix (dv 0) de_int) (dv 5)))
    (dss_cons (ds_set (i := 7) sc_law_table.nd rfl (Or.inl rfl) (de_lst true (da_cons de_int da_nil)))
    (dss_cons (ds_for hp rfl (di_list (de_ix (dv 0) de_int)) (dg_tup rfl (dgs_cons (dg_name (i := 8) sc_law_table.nd rfl (Or.inl rfl)) (dgs_cons (dg_name (i := 9) sc_law_table.nd rfl (Or.inl rfl)) (dgs_cons (dg_name (i := 10) sc_law_table.nd rfl (Or.inl rfl)) dgs_nil)))) (dss_one (ds_if (dt_w (dw_and (dt_cmp (op_eqA hr.units) od_eq (dv 8) (de_ix (dv 3) de_int) (nomark _)) (dw_and1 (dt_cmp op_le od_cmpI (dv 10) (dv 6) (nomark _))))) (dss_one (ds_expr (de_bm PySem.F.plainAttrs_list PySem.F.slot_list_append PySem.F.type_list_append mt_append md_append (dv 7) (da_cons (de_ix (de_ix (dv 2) (de_getK hr.units1 (dv 4) (dv 9))) (de_sub (dv 6) (dv 10))) da_nil)))) dss_nil)))
    (dss_cons (ds_set (i := 11) sc_law_table.nd rfl (Or.inl rfl) (de_ix (dv 2) (dv 5)))
    (dss_one (ds_expr (de_bm PySem.F.plainAttrs_list PySem.F.slot_list_append PySem.F.type_list_append mt_append md_append (dv 11) (da_cons (de_add false (de_mul false (de_ix (dv 3) de_int) (de_callTy call_int1 cd_int1 rfl T.b_int (by decide +kernel) (da_cons (de_cmp op_le od_cmpI (de_ix (dv 3) de_int) (dv 6) (nomark _)) da_nil))) (de_callB (call_maxA rfl) cd_max rfl T.b_max (by decide +kernel) (da_cons (dv 7) da_nil))) da_nil))))))))))) ?_
  refine dss_frzD 2 ?_
  exact dss_one (ds_ret (de_wk (dv 2)))

theorem ok_law_whole {P : Program} {w : World} {K : PySem.W.Frag} {mg : Str → Option Value} {base : Heap} (T : Txt K mg) (TB : TabBs K mg base)  : Good P w K mg base 1 (some "_law_whole") (ga K "_law_whole") ["_law_x"] (sp_law_whole K) := by
  obtain ⟨fd, F⟩ := T.d_law_whole
  refine ⟨⟨fd, fn_d (k := 0) F sc_law_whole len_law_whole (t_law_whole K) (fun cdv A outer s H E WD hr tk hp => ?_) (pure_law_whole T), F.bindsN fun _ _ _ _ _ _ us hl => match us, hl with | [_], _ => rfl, F.kp⟩, T.g_law_whole⟩
  exact dss_one (ds_ret (de_and (de_callB call_isi cd_isi rfl T.b_isinstance (by decide +kernel) (da_cons (dv 0) (da_cons (de_ty rfl T.b_int (by decide +kernel)) da_nil))) (de_one (de_not (de_callB call_isi cd_isi rfl T.b_isinstance (by decide +kernel) (da_cons (dv 0) (da_cons (de_ty rfl T.b_bool (by decide +kernel)) da_nil)))))))

theorem ok_law_gap {P : Program} {w : World} {K : PySem.W.Frag} {mg : Str → Option Value} {base : Heap} (T : Txt K mg) (TB : TabBs K mg base)  : Good P w K mg base 1 (some "_law_gap") (ga K "_law_gap") ["_law_spec_here", "_law_first", "_law_second"] (sp_law_gap K) := by
  obtain ⟨fd, F⟩ := T.d_law_gap
  refine ⟨⟨fd, fn_d (k := 0) F sc_law_gap len_law_gap (t_law_gap K) (fun cdv A outer s H E WD hr tk hp => ?_) (pure_law_gap T), F.bindsN fun _ _ _ _ _ _ us hl => match us, hl with | [_, _, _], _ => rfl, F.kp⟩, T.g_law_gap⟩
  exact dss_one (ds_ret (de_lc false (own := [("_law_tie", 3)]) (c := .one 3) (te := dOp dIx (dVar 3) (dC (.int 2))) (tt := dAnd (dTest (dOp dEq (dOp dIx (dVar 3) (dC (.int 0))) (dVar 1))) (dTest (dOp dEq (dOp dIx (dVar 3) (dC (.int 1))) (dVar 2)))) rfl sc_law_gap.nd (by simp [CT.in]) (di_list (de_ix (dv 0) de_int)) (blkOk_by (own := [("_law_tie", 3)]) (N := nm_law_gap) (sc := defScope s_law_gap) (by decide +kernel)) (fun _ _ _ _ _ => pg_ct1 (i := 3) sc_law_gap.nd rfl (Or.inl rfl)) (fun _ _ _ _ _ => dts_one (dt_w (dw_and (dt_cmp (op_eqA hr.units) od_eq (de_ix (dv 3) de_int) (dv 1) (nomark _)) (dw_and1 (dt_cmp (op_eqA hr.units) od_eq (de_ix (dv 3) de_int) (dv 2) (nomark _)))))) (fun _ _ _ _ _ => de_ix (dv 3) de_int)))

theorem ok_law_due {P : Program} {w : World} {K : PySem.W.Frag} {mg : Str → Option Value} {base : Heap} (T : Txt K mg) (TB : TabBs K mg base) (c_law_gap : Good P w K mg base 1 (some "_law_gap") (ga K "_law_gap") ["_law_spec_here", "_law_first", "_law_second"] (sp_law_gap K)) : Good P w K mg base 2 (some "_law_due") (ga K "_law_due") ["_law_spec_here", "_law_walk", "_law_ticks"] (sp_law_due K) := by
  obtain ⟨_, c_law_gap_ok, c_law_gap_b, c_law_gap_kp⟩ := c_law_gap.ex
  have c_law_gap_g := c_law_gap.gl
  obtain ⟨fd, F⟩ := T.d_law_due
  refine ⟨⟨fd, fn_d (k := 1) F sc_law_due len_law_due (t_law_due K) (fun cdv A outer s H E WD hr tk hp => ?_) (pure_law_due T), F.bindsN fun _ _ _ _ _ _ us hl => match us, hl with | [_, _, _], _ => rfl, F.kp⟩, T.g_law_due⟩
  refine dss_cons (ds_set (i := 3) sc_law_due.nd rfl (Or.inl rfl) de_int) ?_
  refine dss_cons (ds_for hp rfl (di_range1 rfl T.b_range (da_cons (de_callB call_len cd_len rfl T.b_len (by decide +kernel) (da_cons (dv 1) da_nil)) da_nil)) (dg_name (i := 4) sc_law_due.nd rfl (Or.inl rfl)) (dss_cons (ds_set (i := 5) sc_law_due.nd rfl (Or.inr rfl) (de_ix (de_ix (dv 1) (dv 4)) de_int))
    (dss_cons (ds_set (i := 6) sc_law_due.nd rfl (Or.inl rfl) (de_ix (de_ix (dv 1) (dv 4)) de_int))
    (dss_cons (ds_setLc false (i := 7) (hy := rfl) (hyl := rfl) (hsw := sw_true rfl rfl rfl (by decide +kernel)) (hc := rfl) (hN := sc_law_due.nd) (own := [("_law_row", 8)]) (c := .one 8) (te := dVar 8) (tt := dTest (dOp dEq (dOp dIx (dVar 8) (dC (.int 0))) (dVar 5))) (by simp [CT.in]) (di_list (de_ix (dv 0) de_int)) (blkOk_by (own := [("_law_row", 8)]) (N := nm_law_due) (sc := defScope s_law_due) (by decide +kernel)) (fun _ _ _ _ _ => pg_ct1 (i := 8) sc_law_due.nd rfl (Or.inl rfl)) (fun _ _ _ _ _ => dts_one (dt_cmp (op_eqA hr.units) od_eq (de_ix (dv 8) de_int) (dv 5) (nomark _))) (fun _ _ _ _ _ => dv 8))
    (dss_cons (ds_if (dt_cmp (op_eqA hr.units) od_eq (dv 7) (de_lst false da_nil) (nomark _)) (dss_one (ds_ret (de_tup (da_cons de_str (da_cons (dv 5) da_nil))))) dss_nil)
    (dss_cons (ds_if (dt_cmp op_lt od_cmpI (dv 6) de_int (nomark _)) (dss_one (ds_ret (de_tup (da_cons de_str (da_cons de_int (da_cons (dv 4) da_nil)))))) dss_nil)
    (dss_cons (ds_if (dt_cmp op_gt od_cmpI (dv 4) de_int (nomark _)) (dss_cons (ds_set (i := 9) sc_law_due.nd rfl (Or.inl rfl) (de_call c_law_gap_ok (hr.mono (by decide)) rfl c_law_gap_g c_law_gap_kp c_law_gap_b .nil (fun _ => .nil) tk (da_cons (dv 0) (da_cons (de_ix (de_ix (dv 1) (de_sub (dv 4) de_int)) de_int) (da_cons (dv 5) da_nil)))))
    (dss_cons (ds_if (dt_cmp (op_eqA hr.units) od_eq (dv 9) (de_lst false da_nil) (nomark _)) (dss_one (ds_ret (de_tup (da_cons de_str (da_cons de_int (da_cons (dv 4) da_nil)))))) dss_nil)
    (dss_one (ds_if (dt_cmp op_lt od_cmpI (de_sub (dv 6) (de_ix (de_ix (dv 1) (de_sub (dv 4) de_int)) de_int)) (de_ix (dv 9) de_int) (nomark _)) (dss_one (ds_ret (de_tup (da_cons de_str (da_cons de_int (da_cons (dv 4) da_nil)))))) dss_nil)))) dss_nil)
    (dss_one (ds_set (i := 3) sc_law_due.nd rfl (Or.inl rfl) (de_add false (dv 3) (de_mul false (de_ix (de_ix (dv 7) de_int) de_int) (de_callTy call_int1 cd_int1 rfl T.b_int (by decide +kernel) (da_cons (de_cmp op_le od_cmpI (de_add false (dv 6) (de_ix (de_ix (dv 7) de_int) de_int)) (dv 2) (nomark _)) da_nil))))))))))))) ?_
  exact dss_one (ds_ret (de_tup (da_cons de_str (da_cons (dv 3) da_nil))))

theorem ok_law_told {P : Program} {w : World} {K : PySem.W.Frag} {mg : Str → Option Value} {base : Heap} (T : Txt K mg) (TB : TabBs K mg base) (c_walk_demand : Good P w K mg base 6 (some "walk_demand") (ga K "walk_demand") ["task", "walk", "ticks"] (sp_walk_demand K)) (c_law_whole : Good P w K mg base 1 (some "_law_whole") (ga K "_law_whole") ["_law_x"] (sp_law_whole K)) : Good P w K mg base 7 (some "_law_told") (ga K "_law_told") ["_law_task", "_law_walk", "_law_ticks"] (sp_law_told K) := by
  obtain ⟨_, c_walk_demand_ok, c_walk_demand_b, c_walk_demand_kp⟩ := c_walk_demand.ex
  have c_walk_demand_g := c_walk_demand.gl
  obtain ⟨_, c_law_whole_ok, c_law_whole_b, c_law_whole_kp⟩ := c_law_whole.ex
  have c_law_whole_g := c_law_whole.gl
  obtain ⟨fd, F⟩ := T.d_law_told
  refine ⟨⟨fd, fn_d (k := 6) F sc_law_told len_law_told (t_law_told K) (fun cdv A outer s H E WD hr tk hp => ?_) (pure_law_told T), F.bindsN fun _ _ _ _ _ _ us hl => match us, hl with | [_, _, _], _ => rfl, F.kp⟩, T.g_law_told⟩
  refine dss_cons (ds_set (i := 3) sc_law_told.nd rfl (Or.inl rfl) (de_callTy call_list_of (cd_list false) rfl T.b_list (by decide +kernel) (da_cons (dv 1) da_nil))) ?_
  refine dss_cons (ds_try_as (i := 5) (tb := fun WDx1 => dSet 4 (dCall (sp_walk_demand K) WDx1 [] (daCons (dVar 0) (daCons (dVar 3) (daCons (dVar 2) daNil))))) (ts := fun ea ec ed => dSeq (dIfS (dTru (dCB (dIsX K ea ec ed) (daCons (dVar 5) (daCons (dC (.ref (ga K "UnknownKind"))) daNil)))) (dRet (dTup (daCons (dC (.str "UnknownKind")) (daCons (dXf ea ec ed (ga K "UnknownKind") "name" (dVar 5)) daNil)))) dNext)
    (dSeq (dIfS (dTru (dCB (dIsX K ea ec ed) (daCons (dVar 5) (daCons (dC (.ref (ga K "BadRelease"))) daNil)))) (dRet (dTup (daCons (dC (.str "BadRelease")) (daCons (dXf ea ec ed (ga K "BadRelease") "task" (dVar 5)) (daCons (dXf ea ec ed (ga K "BadRelease") "place" (dVar 5)) daNil))))) dNext)
    (dSeq (dIfS (dTru (dCB (dIsX K ea ec ed) (daCons (dVar 5) (daCons (dC (.ref (ga K "NoArrow"))) daNil)))) (dRet (dTup (daCons (dC (.str "NoArrow")) (daCons (dXf ea ec ed (ga K "NoArrow") "task" (dVar 5)) (daCons (dXf ea ec ed (ga K "NoArrow") "place" (dVar 5)) daNil))))) dNext)
    (dSeq (dIfS (dTru (dCB (dIsX K ea ec ed) (daCons (dVar 5) (daCons (dC (.ref (ga K "GapTooShort"))) daNil)))) (dRet (dTup (daCons (dC (.str "GapTooShort")) (daCons (dXf ea ec ed (ga K "GapTooShort") "task" (dVar 5)) (daCons (dXf ea ec ed (ga K "GapTooShort") "place" (dVar 5)) daNil))))) dNext)
    (dRet (dTup (daCons (dC (.str "strange")) daNil))))))) rfl rfl sc_law_told.nd rfl rfl T.g_DuesError rfl tk (fun W WDx1 pn xe tk hp => dss_one (ds_set (i := 4) sc_law_told.nd rfl (Or.inl rfl) (de_call c_walk_demand_ok (hr.mono (by decide)) rfl c_walk_demand_g c_walk_demand_kp c_walk_demand_b .nil (fun _ => .nil) tk (da_cons (dv 0) (da_cons (dv 3) (da_cons (dv 2) da_nil)))))) (fun ea oe ec ed pn hz hv => dss_cons (ds_if (dt_tru (de_callB (call_isX hz hv) cd_isX rfl T.b_isinstance (by decide +kernel) (da_cons (dv 5) (da_cons (de_globR rfl T.g_UnknownKind) da_nil)))) (dss_one (ds_ret (de_tup (da_cons de_str (da_cons (de_xf T.xf_UnknownKind T.nf_UnknownKind_name hz hv (dv 5)) da_nil))))) dss_nil)
    (dss_cons (ds_if (dt_tru (de_callB (call_isX hz hv) cd_isX rfl T.b_isinstance (by decide +kernel) (da_cons (dv 5) (da_cons (de_globR rfl T.g_BadRelease) da_nil)))) (dss_one (ds_ret (de_tup (da_cons de_str (da_cons (de_xf T.xf_BadRelease T.nf_BadRelease_task hz hv (dv 5)) (da_cons (de_xf T.xf_BadRelease T.nf_BadRelease_place hz hv (dv 5)) da_nil)))))) dss_nil)
    (dss_cons (ds_if (dt_tru (de_callB (call_isX hz hv) cd_isX rfl T.b_isinstance (by decide +kernel) (da_cons (dv 5) (da_cons (de_globR rfl T.g_NoArrow) da_nil)))) (dss_one (ds_ret (de_tup (da_cons de_str (da_cons (de_xf T.xf_NoArrow T.nf_NoArrow_task hz hv (dv 5)) (da_cons (de_xf T.xf_NoArrow T.nf_NoArrow_place hz hv (dv 5)) da_nil)))))) dss_nil)
    (dss_cons (ds_if (dt_tru (de_callB (call_isX hz hv) cd_isX rfl T.b_isinstance (by decide +kernel) (da_cons (dv 5) (da_cons (de_globR rfl T.g_GapTooShort) da_nil)))) (dss_one (ds_ret (de_tup (da_cons de_str (da_cons (de_xf T.xf_GapTooShort T.nf_GapTooShort_task hz hv (dv 5)) (da_cons (de_xf T.xf_GapTooShort T.nf_GapTooShort_place hz hv (dv 5)) da_nil)))))) dss_nil)
    (dss_one (ds_ret (de_tup (da_cons de_str da_nil))))))))) ?_
  refine dss_cons (ds_if (dt_w (dw_or (dt_not (dt_tru (de_call c_law_whole_ok (hr.mono (by decide)) rfl c_law_whole_g c_law_whole_kp c_law_whole_b .nil (fun _ => .nil) tk (da_cons (dv 4) da_nil)))) (dw_or1 (dt_cmp (op_neA hr.units) od_ne (dv 3) (dv 1) (nomark _))))) (dss_one (ds_ret (de_tup (da_cons de_str da_nil)))) dss_nil) ?_
  exact dss_one (ds_ret (de_tup (da_cons de_str (da_cons (dv 4) da_nil))))

theorem ok_law_is_walk {P : Program} {w : World} {K : PySem.W.Frag} {mg : Str → Option Value} {base : Heap} (T : Txt K mg) (TB : TabBs K mg base) (c_law_whole : Good P w K mg base 1 (some "_law_whole") (ga K "_law_whole") ["_law_x"] (sp_law_whole K)) : Good P w K mg base 2 (some "_law_is_walk") (ga K "_law_is_walk") ["_law_walk"] (sp_law_is_walk K) := by
  obtain ⟨_, c_law_whole_ok, c_law_whole_b, c_law_whole_kp⟩ := c_law_whole.ex
  have c_law_whole_g := c_law_whole.gl
  obtain ⟨fd, F⟩ := T.d_law_is_walk
  refine ⟨⟨fd, fn_d (k := 1) F sc_law_is_walk len_law_is_walk (t_law_is_walk K) (fun cdv A outer s H E WD hr tk hp => ?_) (pure_law_is_walk T), F.bindsN fun _ _ _ _ _ _ us hl => match us, hl with | [_], _ => rfl, F.kp⟩, T.g_law_is_walk⟩
  refine dss_cons (ds_if (dt_not (dt_tru (de_callB call_isi cd_isi rfl T.b_isinstance (by decide +kernel) (da_cons (dv 0) (da_cons (de_ty rfl T.b_list (by decide +kernel)) da_nil))))) (dss_one (ds_ret de_bl)) dss_nil) ?_
  refine dss_cons (ds_forM hp rfl (dv 0) (dg_name (i := 1) sc_law_is_walk.nd rfl (Or.inl rfl)) (dss_cons (ds_if (dt_w (dw_or (dt_not (dt_tru (de_callB call_isi cd_isi rfl T.b_isinstance (by decide +kernel) (da_cons (dv 1) (da_cons (de_ty rfl T.b_tuple (by decide +kernel)) da_nil))))) (dw_or1 (dt_cmp (op_neA hr.units) od_ne (de_callB call_len cd_len rfl T.b_len (by decide +kernel) (da_cons (dv 1) da_nil)) de_int (nomark _))))) (dss_one (ds_ret de_bl)) dss_nil)
    (dss_one (ds_if (dt_w (dw_or (dt_not (dt_tru (de_callB call_isi cd_isi rfl T.b_isinstance (by decide +kernel) (da_cons (de_ix (dv 1) de_int) (da_cons (de_ty rfl T.b_str (by decide +kernel)) da_nil))))) (dw_or1 (dt_not (dt_tru (de_call c_law_whole_ok (hr.mono (by decide)) rfl c_law_whole_g c_law_whole_kp c_law_whole_b .nil (fun _ => .nil) tk (da_cons (de_ix (dv 1) de_int) da_nil))))))) (dss_one (ds_ret de_bl)) dss_nil)))) ?_
  exact dss_one (ds_ret de_bl)

theorem ok_law_is_heavy {P : Program} {w : World} {K : PySem.W.Frag} {mg : Str → Option Value} {base : Heap} (T : Txt K mg) (TB : TabBs K mg base) (c_law_is_walk : Good P w K mg base 2 (some "_law_is_walk") (ga K "_law_is_walk") ["_law_walk"] (sp_law_is_walk K)) (c_law_due : Good P w K mg base 2 (some "_law_due") (ga K "_law_due") ["_law_spec_here", "_law_walk", "_law_ticks"] (sp_law_due K)) : Good P w K mg base 3 (some "_law_is_heavy") (ga K "_law_is_heavy") ["_law_walk", "_law_spec_here", "_law_most", "_law_ticks"] (sp_law_is_heavy K) := by
  obtain ⟨_, c_law_is_walk_ok, c_law_is_walk_b, c_law_is_walk_kp⟩ := c_law_is_walk.ex
  have c_law_is_walk_g := c_law_is_walk.gl
  obtain ⟨_, c_law_due_ok, c_law_due_b, c_law_due_kp⟩ := c_law_due.ex
  have c_law_due_g := c_law_due.gl
  obtain ⟨fd, F⟩ := T.d_law_is_heavy
  refine ⟨⟨fd, fn_d (k := 2) F sc_law_is_heavy len_law_is_heavy (t_law_is_heavy K) (fun cdv A outer s H E WD hr tk hp => ?_) (pure_law_is_heavy T), F.bindsN fun _ _ _ _ _ _ us hl => match us, hl with | [_, _, _, _], _ => rfl, F.kp⟩, T.g_law_is_heavy⟩
  refine dss_cons (ds_if (dt_w (dw_or (dt_not (dt_tru (de_call c_law_is_walk_ok (hr.mono (by decide)) rfl c_law_is_walk_g c_law_is_walk_kp c_law_is_walk_b .nil (fun _ => .nil) tk (da_cons (dv 0) da_nil)))) (dw_or (dt_cmp op_gt od_cmpI (de_callB call_len cd_len rfl T.b_len (by decide +kernel) (da_cons (dv 0) da_nil)) (dv 3) (nomark _)) (dw_or1 (dt_cmp (op_neA hr.units) od_ne (de_cmp (op_eqZ hr.units) od_eqZ (dv 0) (de_lst false da_nil) (nomark _)) (de_cmp (op_eqA hr.units) od_eq (dv 2) de_int (nomark _)) (nomark _)))))) (dss_one (ds_ret de_bl)) dss_nil) ?_
  refine dss_cons (ds_if (dt_w (dw_and (dt_cmp (op_neZ hr.units) od_neZ (dv 0) (de_lst false da_nil) (nomark _)) (dw_and1 (dt_cmp (op_neA hr.units) od_ne (de_ix (de_ix (dv 0) de_int) de_int) de_int (nomark _))))) (dss_one (ds_ret de_bl)) dss_nil) ?_
  exact dss_one (ds_ret (de_cmp (op_eqA hr.units) od_eq (de_call c_law_due_ok (hr.mono (by decide)) rfl c_law_due_g c_law_due_kp c_law_due_b .nil (fun _ => .nil) tk (da_cons (dv 1) (da_cons (dv 0) (da_cons (dv 3) da_nil)))) (de_tup (da_cons de_str (da_cons (dv 2) da_nil))) (nomark _)))

theorem ok_law_drawn_walk {P : Program} {w : World} {K : PySem.W.Frag} {mg : Str → Option Value} {base : Heap} (T : Txt K mg) (TB : TabBs K mg base) (c_law_draw : Good P w K mg base 1 (some "_law_draw") (ga K "_law_draw") ["_law_pool_here", "_law_limit"] (sp_law_draw K)) : Good P w K mg base 2 (some "_law_drawn_walk") (ga K "_law_drawn_walk") ["_law_pool_here", "_law_spec_here"] (sp_law_drawn_walk K) := by
  obtain ⟨_, c_law_draw_ok, c_law_draw_b, c_law_draw_kp⟩ := c_law_draw.ex
  have c_law_draw_g := c_law_draw.gl
  obtain ⟨fd, F⟩ := T.d_law_drawn_walk
  refine ⟨⟨fd, fn_d (k := 1) F sc_law_drawn_walk len_law_drawn_walk (t_law_drawn_walk K) (fun cdv A outer s H E WD hr tk hp => ?_) (pure_law_drawn_walk T), F.bindsN fun _ _ _ _ _ _ us hl => match us, hl with | [_, _], _ => rfl, F.kp⟩, T.g_law_drawn_walk⟩
  refine dss_cons (ds_set (i := 2) sc_law_drawn_walk.nd rfl (Or.inl rfl) (de_ix (de_ix (de_ix (dv 1) de_int) (de_call c_law_draw_ok (hr.mono (by decide)) rfl c_law_draw_g c_law_draw_kp c_law_draw_b .nil (fun _ => .nil) tk (da_cons (dv 0) (da_cons (de_callB call_len cd_len rfl T.b_len (by decide +kernel) (da_cons (de_ix (dv 1) de_int) da_nil)) da_nil)))) de_int)) ?_
  refine dss_cons (ds_set (i := 3) sc_law_drawn_walk.nd rfl (Or.inl rfl) (de_call c_law_draw_ok (hr.mono (by decide)) rfl c_law_draw_g c_law_draw_kp c_law_draw_b .nil (fun _ => .nil) tk (da_cons (dv 0) (da_cons de_int da_nil)))) ?_
  refine dss_cons (ds_set (i := 4) sc_law_drawn_walk.nd rfl (Or.inr rfl) (de_lst true (da_cons (de_tup (da_cons (dv 2) (da_cons (dv 3) da_nil))) da_nil))) ?_
  refine dss_cons (ds_for hp rfl (di_range1 rfl T.b_range (da_cons (de_call c_law_draw_ok (hr.mono (by decide)) rfl c_law_draw_g c_law_draw_kp c_law_draw_b .nil (fun _ => .nil) tk (da_cons (dv 0) (da_cons de_int da_nil))) da_nil)) (dg_name (i := 5) sc_law_drawn_walk.nd rfl (Or.inl rfl)) (dss_cons (ds_setLc false (i := 6) (hy := rfl) (hyl := rfl) (hsw := sw_true rfl rfl rfl (by decide +kernel)) (hc := rfl) (hN := sc_law_drawn_walk.nd) (own := [("_law_tie", 7)]) (c := .one 7) (te := dVar 7) (tt := dTest (dOp dEq (dOp dIx (dVar 7) (dC (.int 0))) (dOp dIx (dOp dIx (dVar 4) (dUn dNeg (dC (.int 1)))) (dC (.int 0))))) (by simp [CT.in]) (di_list (de_ix (dv 1) de_int)) (blkOk_by (own := [("_law_tie", 7)]) (N := nm_law_drawn_walk) (sc := defScope s_law_drawn_walk) (by decide +kernel)) (fun _ _ _ _ _ => pg_ct1 (i := 7) sc_law_drawn_walk.nd rfl (Or.inl rfl)) (fun _ _ _ _ _ => dts_one (dt_cmp (op_eqA hr.units) od_eq (de_ix (dv 7) de_int) (de_ix (de_ix (dv 4) (de_neg de_int)) de_int) (nomark _))) (fun _ _ _ _ _ => dv 7))
    (dss_one (ds_if (dt_cmp (op_neA hr.units) od_ne (dv 6) (de_lst false da_nil) (nomark _)) (dss_cons (ds_set (i := 8) sc_law_drawn_walk.nd rfl (Or.inl rfl) (de_ix (dv 6) (de_call c_law_draw_ok (hr.mono (by decide)) rfl c_law_draw_g c_law_draw_kp c_law_draw_b .nil (fun _ => .nil) tk (da_cons (dv 0) (da_cons (de_callB call_len cd_len rfl T.b_len (by decide +kernel) (da_cons (dv 6) da_nil)) da_nil)))))
    (dss_cons (ds_set (i := 3) sc_law_drawn_walk.nd rfl (Or.inl rfl) (de_add false (de_add false (dv 3) (de_ix (dv 8) de_int)) (de_ix (de_lst false (da_cons de_int (da_cons de_int (da_cons de_int (da_cons de_int da_nil))))) (de_call c_law_draw_ok (hr.mono (by decide)) rfl c_law_draw_g c_law_draw_kp c_law_draw_b .nil (fun _ => .nil) tk (da_cons (dv 0) (da_cons de_int da_nil))))))
    (dss_one (ds_expr (de_bm PySem.F.plainAttrs_list PySem.F.slot_list_append PySem.F.type_list_append mt_append md_append (dv 4) (da_cons (de_tup (da_cons (de_ix (dv 8) de_int) (da_cons (dv 3) da_nil))) da_nil)))))) dss_nil)))) ?_
  exact dss_one (ds_ret (dv 4))

theorem ok_law_spoiled {P : Program} {w : World} {K : PySem.W.Frag} {mg : Str → Option Value} {base : Heap} (T : Txt K mg) (TB : TabBs K mg base) (c_law_draw : Good P w K mg base 1 (some "_law_draw") (ga K "_law_draw") ["_law_pool_here", "_law_limit"] (sp_law_draw K)) (c_law_near : Good P w K mg base 3 (some "_law_near") (ga K "_law_near") ["_law_pool_here", "_law_taken"] (sp_law_near K)) : Good P w K mg base 4 (some "_law_spoiled") (ga K "_law_spoiled") ["_law_pool_here", "_law_spec_here", "_law_walk"] (sp_law_spoiled K) := by
  obtain ⟨_, c_law_draw_ok, c_law_draw_b, c_law_draw_kp⟩ := c_law_draw.ex
  have c_law_draw_g := c_law_draw.gl
  obtain ⟨_, c_law_near_ok, c_law_near_b, c_law_near_kp⟩ := c_law_near.ex
  have c_law_near_g := c_law_near.gl
  obtain ⟨fd, F⟩ := T.d_law_spoiled
  refine ⟨⟨fd, fn_d (k := 3) F sc_law_spoiled len_law_spoiled (t_law_spoiled K) (fun cdv A outer s H E WD hr tk hp => ?_) (pure_law_spoiled T), F.bindsN fun _ _ _ _ _ _ us hl => match us, hl with | [_, _, _], _ => rfl, F.kp⟩, T.g_law_spoiled⟩
  refine dss_cons (ds_set (i := 3) sc_law_spoiled.nd rfl (Or.inl rfl) (de_callTy call_list_of (cd_list true) rfl T.b_list (by decide +kernel) (da_cons (dv 2) da_nil))) ?_
  refine dss_cons (ds_for hp rfl (di_range1 rfl T.b_range (da_cons (de_add false de_int (de_call c_law_draw_ok (hr.mono (by decide)) rfl c_law_draw_g c_law_draw_kp c_law_draw_b .nil (fun _ => .nil) tk (da_cons (dv 0) (da_cons de_int da_nil)))) da_nil)) (dg_name (i := 4) sc_law_spoiled.nd rfl (Or.inl rfl)) (dss_cons (ds_set (i := 5) sc_law_spoiled.nd rfl (Or.inl rfl) (de_call c_law_draw_ok (hr.mono (by decide)) rfl c_law_draw_g c_law_draw_kp c_law_draw_b .nil (fun _ => .nil) tk (da_cons (dv 0) (da_cons (de_callB call_len cd_len rfl T.b_len (by decide +kernel) (da_cons (dv 3) da_nil)) da_nil))))
    (dss_cons (ds_set (i := 6) sc_law_spoiled.nd rfl (Or.inl rfl) (de_call c_law_draw_ok (hr.mono (by decide)) rfl c_law_draw_g c_law_draw_kp c_law_draw_b .nil (fun _ => .nil) tk (da_cons (dv 0) (da_cons de_int da_nil))))
    (dss_cons (ds_set (i := 7) sc_law_spoiled.nd rfl (Or.inl rfl) (de_ix (dv 3) (dv 5)))
    (dss_cons (ds_if (dt_cmp (op_eqA hr.units) od_eq (dv 6) de_int (nomark _)) (dss_cons (ds_set (i := 8) sc_law_spoiled.nd rfl (Or.inl rfl) (de_lst false (da_cons (de_call c_law_near_ok (hr.mono (by decide)) rfl c_law_near_g c_law_near_kp c_law_near_b .nil (fun _ => .nil) tk (da_cons (dv 0) (da_cons (de_lc false (own := [("_law_row", 9)]) (c := .one 9) (te := dOp dIx (dVar 9) (dC (.int 0))) (tt := dYes) rfl sc_law_spoiled.nd (by simp [CT.in]) (di_list (de_ix (dv 1) de_int)) (blkOk_by (own := [("_law_row", 9)]) (N := nm_law_spoiled) (sc := defScope s_law_spoiled) (by decide +kernel)) (fun _ _ _ _ _ => pg_ct1 (i := 9) sc_law_spoiled.nd rfl (Or.inl rfl)) (fun _ _ _ _ _ => dts_nil) (fun _ _ _ _ _ => de_ix (dv 9) de_int)) da_nil))) (da_cons de_str (da_cons de_str (da_cons de_str da_nil))))))
    (dss_one (ds_set (i := 7) sc_law_spoiled.nd rfl (Or.inl rfl) (de_tup (da_cons (de_ix (dv 8) (de_call c_law_draw_ok (hr.mono (by decide)) rfl c_law_draw_g c_law_draw_kp c_law_draw_b .nil (fun _ => .nil) tk (da_cons (dv 0) (da_cons de_int da_nil)))) (da_cons (de_ix (dv 7) de_int) da_nil)))))) dss_nil)
    (dss_cons (ds_if (dt_cmp (op_eqA hr.units) od_eq (dv 6) de_int (nomark _)) (dss_one (ds_set (i := 7) sc_law_spoiled.nd rfl (Or.inl rfl) (de_tup (da_cons (de_ix (dv 7) de_int) (da_cons (de_sub (de_neg de_int) (de_call c_law_draw_ok (hr.mono (by decide)) rfl c_law_draw_g c_law_draw_kp c_law_draw_b .nil (fun _ => .nil) tk (da_cons (dv 0) (da_cons de_int da_nil)))) da_nil))))) dss_nil)
    (dss_cons (ds_if (dt_cmp (op_eqA hr.units) od_eq (dv 6) de_int (nomark _)) (dss_one (ds_set (i := 7) sc_law_spoiled.nd rfl (Or.inl rfl) (de_tup (da_cons (de_ix (dv 7) de_int) (da_cons (de_sub (de_sub (de_ix (dv 7) de_int) de_int) (de_call c_law_draw_ok (hr.mono (by decide)) rfl c_law_draw_g c_law_draw_kp c_law_draw_b .nil (fun _ => .nil) tk (da_cons (dv 0) (da_cons de_int da_nil)))) da_nil))))) dss_nil)
    (dss_cons (ds_if (dt_cmp (op_eqA hr.units) od_eq (dv 6) de_int (nomark _)) (dss_one (ds_set (i := 7) sc_law_spoiled.nd rfl (Or.inl rfl) (de_tup (da_cons (de_ix (dv 7) de_int) (da_cons (de_add false (de_add false (de_ix (dv 7) de_int) de_int) (de_call c_law_draw_ok (hr.mono (by decide)) rfl c_law_draw_g c_law_draw_kp c_law_draw_b .nil (fun _ => .nil) tk (da_cons (dv 0) (da_cons de_int da_nil)))) da_nil))))) dss_nil)
    (dss_cons (ds_if (dt_cmp (op_eqA hr.units) od_eq (dv 6) de_int (nomark _)) (dss_one (ds_set (i := 7) sc_law_spoiled.nd rfl (Or.inl rfl) (de_tup (da_cons (de_ix (de_ix (de_ix (dv 1) de_int) (de_call c_law_draw_ok (hr.mono (by decide)) rfl c_law_draw_g c_law_draw_kp c_law_draw_b .nil (fun _ => .nil) tk (da_cons (dv 0) (da_cons (de_callB call_len cd_len rfl T.b_len (by decide +kernel) (da_cons (de_ix (dv 1) de_int) da_nil)) da_nil)))) de_int) (da_cons (de_ix (dv 7) de_int) da_nil))))) dss_nil)
    (dss_one (ds_asg (dv 7) (dg_sub (dv 3) (dv 5))))))))))))) ?_
  exact dss_one (ds_ret (dv 3))

theorem ok_law_all_heavy {P : Program} {w : World} {K : PySem.W.Frag} {mg : Str → Option Value} {base : Heap} (T : Txt K mg) (TB : TabBs K mg base) (c_law_table : Good P w K mg base 1 (some "_law_table") (ga K "_law_table") ["_law_spec_here", "_law_ticks"] (sp_law_table K)) (c_heavy_run : Good P w K mg base 9 (some "heavy_run") (ga K "heavy_run") ["tasks", "ticks"] (sp_heavy_run K)) (c_Run_jobs : Good P w K mg base 1 none (wad K "property" "Run" "jobs") ["self"] (sp_Run_jobs K)) (c_heavy_walk : Good P w K mg base 6 (some "heavy_walk") (ga K "heavy_walk") ["task", "ticks"] (sp_heavy_walk K)) (c_law_is_heavy : Good P w K mg base 3 (some "_law_is_heavy") (ga K "_law_is_heavy") ["_law_walk", "_law_spec_here", "_law_most", "_law_ticks"] (sp_law_is_heavy K)) (c_Task_cost_of : Good P w K mg base 4 none (ma K (ga K "Task") "cost_of") ["self", "kind"] (sp_Task_cost_of K)) (c_law_told : Good P w K mg base 7 (some "_law_told") (ga K "_law_told") ["_law_task", "_law_walk", "_law_ticks"] (sp_law_told K)) : Good P w K mg base 10 (some "_law_all_heavy") (ga K "_law_all_heavy") ["_law_tasks", "_law_specs", "_law_ticks"] (sp_law_all_heavy K) := by
  obtain ⟨_, c_law_table_ok, c_law_table_b, c_law_table_kp⟩ := c_law_table.ex
  have c_law_table_g := c_law_table.gl
  obtain ⟨_, c_heavy_run_ok, c_heavy_run_b, c_heavy_run_kp⟩ := c_heavy_run.ex
  have c_heavy_run_g := c_heavy_run.gl
  obtain ⟨_, c_Run_jobs_ok, c_Run_jobs_b, c_Run_jobs_kp⟩ := c_Run_jobs.ex
  have c_Run_jobs_g := c_Run_jobs.gl
  obtain ⟨_, c_heavy_walk_ok, c_heavy_walk_b, c_heavy_walk_kp⟩ := c_heavy_walk.ex
  have c_heavy_walk_g := c_heavy_walk.gl
  obtain ⟨_, c_law_is_heavy_ok, c_law_is_heavy_b, c_law_is_heavy_kp⟩ := c_law_is_heavy.ex
  have c_law_is_heavy_g := c_law_is_heavy.gl
  obtain ⟨_, c_Task_cost_of_ok, c_Task_cost_of_b, c_Task_cost_of_kp⟩ := c_Task_cost_of.ex
  have c_Task_cost_of_g := c_Task_cost_of.gl
  obtain ⟨_, c_law_told_ok, c_law_told_b, c_law_told_kp⟩ := c_law_told.ex
  have c_law_told_g := c_law_told.gl
  obtain ⟨fd, F⟩ := T.d_law_all_heavy
  refine ⟨⟨fd, fn_d (k := 9) F sc_law_all_heavy len_law_all_heavy (t_law_all_heavy K) (fun cdv A outer s H E WD hr tk hp => ?_) (pure_law_all_heavy T), F.bindsN fun _ _ _ _ _ _ us hl => match us, hl with | [_, _, _], _ => rfl, F.kp⟩, T.g_law_all_heavy⟩
  refine dss_cons (ds_setLc false (i := 3) (hy := rfl) (hyl := rfl) (hsw := sw_true rfl rfl rfl (by decide +kernel)) (hc := rfl) (hN := sc_law_all_heavy.nd) (own := [("_law_spec_here", 5)]) (c := .one 5) (te := dCB dMax (daCons (dLc false (diL (dCall (sp_law_table K) WD0 [] (daCons (dVar 5) (daCons (dVar 2) daNil)))) (.one 4) [4] dYes (dOp dIx (dVar 4) (dVar 2))) daNil)) (tt := dYes) (by simp [CT.in]) (di_list (dv 1)) (blkOk_by (own := [("_law_spec_here", 5)]) (N := nm_law_all_heavy) (sc := defScope s_law_all_heavy) (by decide +kernel)) (fun _ _ _ _ _ => pg_ct1 (i := 5) sc_law_all_heavy.nd rfl (Or.inl rfl)) (fun _ _ _ _ _ => dts_nil) (fun _ _ _ _ _ => de_callB (call_maxA rfl) cd_max rfl T.b_max (by decide +kernel) (da_cons (de_lc false (own := [("_law_row", 4)]) (c := .one 4) (te := dOp dIx (dVar 4) (dVar 2)) (tt := dYes) rfl sc_law_all_heavy.nd (by simp [CT.in]) (di_list (de_call c_law_table_ok (hr.mono (by decide)) rfl c_law_table_g c_law_table_kp c_law_table_b .nil (fun _ => .nil) takes0 (da_cons (dv 5) (da_cons (dv 2) da_nil)))) (blkOk_by (own := [("_law_row", 4)]) (N := nm_law_all_heavy) (by kernel_rfl)) (fun _ _ _ _ _ => pg_ct1 (i := 4) sc_law_all_heavy.nd rfl (Or.inl rfl)) (fun _ _ _ _ _ => dts_nil) (fun _ _ _ _ _ => de_ix (dv 4) (dv 2))) da_nil))) ?_
  refine dss_cons (ds_if (dt_cmp (op_neA hr.units) od_ne (de_prop (de_call c_heavy_run_ok (hr.mono (by decide)) rfl c_heavy_run_g c_heavy_run_kp c_heavy_run_b .nil (fun _ => .nil) tk (da_cons (de_lst false da_nil) (da_cons (dv 2) da_nil))) T.cl_Run T.p_Run_jobs c_Run_jobs_ok (hr.mono (by decide)) c_Run_jobs_b) (de_lst false da_nil) (nomark _)) (dss_one (ds_ret (de_wk de_bl))) dss_nil) ?_
  refine dss_cons (ds_set (i := 6) sc_law_all_heavy.nd rfl (Or.inl rfl) (de_call c_heavy_run_ok (hr.mono (by decide)) rfl c_heavy_run_g c_heavy_run_kp c_heavy_run_b .nil (fun _ => .nil) tk (da_cons (de_callTy call_list_of (cd_list false) rfl T.b_list (by decide +kernel) (da_cons (dv 0) da_nil)) (da_cons (dv 2) da_nil)))) ?_
  refine dss_cons (ds_set (i := 7) sc_law_all_heavy.nd rfl (Or.inl rfl) (de_prop (dv 6) T.cl_Run T.p_Run_jobs c_Run_jobs_ok (hr.mono (by decide)) c_Run_jobs_b)) ?_
  refine dss_cons (ds_for hp rfl (di_range1 rfl T.b_range (da_cons (de_callB call_len cd_len rfl T.b_len (by decide +kernel) (da_cons (dv 1) da_nil)) da_nil)) (dg_name (i := 8) sc_law_all_heavy.nd rfl (Or.inr rfl)) (dss_cons (ds_set (i := 9) sc_law_all_heavy.nd rfl (Or.inl rfl) (de_call c_heavy_walk_ok (hr.mono (by decide)) rfl c_heavy_walk_g c_heavy_walk_kp c_heavy_walk_b .nil (fun _ => .nil) tk (da_cons (de_ix (dv 0) (dv 8)) (da_cons (dv 2) da_nil))))
    (dss_cons (ds_if (dt_not (dt_tru (de_call c_law_is_heavy_ok (hr.mono (by decide)) rfl c_law_is_heavy_g c_law_is_heavy_kp c_law_is_heavy_b .nil (fun _ => .nil) tk (da_cons (dv 9) (da_cons (de_ix (dv 1) (dv 8)) (da_cons (de_ix (dv 3) (dv 8)) (da_cons (dv 2) da_nil))))))) (dss_one (ds_ret (de_wk de_bl))) dss_nil)
    (dss_cons (ds_setLc true (i := 10) (hy := rfl) (hyl := rfl) (hsw := sw_true rfl rfl rfl (by decide +kernel)) (hc := rfl) (hN := sc_law_all_heavy.nd) (own := [("_law_job", 11)]) (c := .one 11) (te := dTup (daCons (dOp dIx (dVar 11) (dC (.int 2))) (daCons (dOp dIx (dVar 11) (dC (.int 3))) daNil))) (tt := dTest (dOp dEq (dOp dIx (dVar 11) (dC (.int 0))) (dVar 8))) (by simp [CT.in]) (di_list (dv 7)) (blkOk_by (own := [("_law_job", 11)]) (N := nm_law_all_heavy) (sc := defScope s_law_all_heavy) (by decide +kernel)) (fun _ _ _ _ _ => pg_ct1 (i := 11) sc_law_all_heavy.nd rfl (Or.inl rfl)) (fun _ _ _ _ _ => dts_one (dt_cmp (op_eqA hr.units) od_eq (de_ix (dv 11) de_int) (dv 8) (nomark _))) (fun _ _ _ _ _ => de_tup (da_cons (de_ix (dv 11) de_int) (da_cons (de_ix (dv 11) de_int) da_nil))))
    (dss_cons (ds_setLc false (i := 12) (hy := rfl) (hyl := rfl) (hsw := sw_true rfl rfl rfl (by decide +kernel)) (hc := rfl) (hN := sc_law_all_heavy.nd) (own := [("_law_job", 11)]) (c := .one 11) (te := dOp dIx (dVar 11) (dC (.int 4))) (tt := dTest (dOp dEq (dOp dIx (dVar 11) (dC (.int 0))) (dVar 8))) (by simp [CT.in]) (di_list (dv 7)) (blkOk_by (own := [("_law_job", 11)]) (N := nm_law_all_heavy) (sc := defScope s_law_all_heavy) (by decide +kernel)) (fun _ _ _ _ _ => pg_ct1 (i := 11) sc_law_all_heavy.nd rfl (Or.inl rfl)) (fun _ _ _ _ _ => dts_one (dt_cmp (op_eqA hr.units) od_eq (de_ix (dv 11) de_int) (dv 8) (nomark _))) (fun _ _ _ _ _ => de_ix (dv 11) de_int))
    (dss_cons (ds_if (dt_w (dw_or (dt_not (dt_tru (de_call c_law_is_heavy_ok (hr.mono (by decide)) rfl c_law_is_heavy_g c_law_is_heavy_kp c_law_is_heavy_b .nil (fun _ => .nil) tk (da_cons (dv 10) (da_cons (de_ix (dv 1) (dv 8)) (da_cons (de_ix (dv 3) (dv 8)) (da_cons (dv 2) da_nil))))))) (dw_or1 (dt_cmp (op_neA hr.units) od_ne (dv 12) (de_lcM false (own := [("_law_step", 13)]) (c := .one 13) (te := dMeth (ga K "Task") "cost_of" (sp_Task_cost_of K) WD0 [] (dOp dIx (dVar 0) (dVar 8)) (daCons (dOp dIx (dVar 13) (dC (.int 0))) daNil)) (tt := dYes) rfl sc_law_all_heavy.nd (by simp [CT.in]) (dv 10) (blkOk_by (own := [("_law_step", 13)]) (N := nm_law_all_heavy) (sc := defScope s_law_all_heavy) (by decide +kernel)) (fun _ _ _ _ _ => pg_ct1 (i := 13) sc_law_all_heavy.nd rfl (Or.inl rfl)) (fun _ _ _ _ _ => dts_nil) (fun _ _ _ _ _ => de_meth (de_ix (dv 0) (dv 8)) T.cl_Task T.m_Task_cost_of c_Task_cost_of_ok (hr.mono (by decide)) c_Task_cost_of_b .nil (fun _ => .nil) takes0 (da_cons (de_ix (dv 13) de_int) da_nil))) (nomark _))))) (dss_one (ds_ret (de_wk de_bl))) dss_nil)
    (dss_cons (ds_if (dt_cmp (op_neA hr.units) od_ne (de_call c_law_told_ok (hr.mono (by decide)) rfl c_law_told_g c_law_told_kp c_law_told_b .nil (fun _ => .nil) tk (da_cons (de_ix (dv 0) (dv 8)) (da_cons (dv 9) (da_cons (dv 2) da_nil)))) (de_tup (da_cons de_str (da_cons (de_ix (dv 3) (dv 8)) da_nil))) (nomark _)) (dss_one (ds_ret (de_wk de_bl))) dss_nil)
    (dss_cons (ds_expr (de_bm PySem.F.plainAttrs_list PySem.F.slot_list_append PySem.F.type_list_append mt_append md_append (dv 9) (da_cons (de_tup (da_cons de_str (da_cons de_int da_nil))) da_nil)))
    (dss_one (ds_if (dt_not (dt_tru (de_call c_law_is_heavy_ok (hr.mono (by decide)) rfl c_law_is_heavy_g c_law_is_heavy_kp c_law_is_heavy_b .nil (fun _ => .nil) tk (da_cons (de_call c_heavy_walk_ok (hr.mono (by decide)) rfl c_heavy_walk_g c_heavy_walk_kp c_heavy_walk_b .nil (fun _ => .nil) tk (da_cons (de_ix (dv 0) (dv 8)) (da_cons (dv 2) da_nil))) (da_cons (de_ix (dv 1) (dv 8)) (da_cons (de_ix (dv 3) (dv 8)) (da_cons (dv 2) da_nil))))))) (dss_one (ds_ret (de_wk de_bl))) dss_nil)))))))))) ?_
  exact dss_one (ds_ret (de_wk (de_and (de_cmp (op_eqA hr.units) od_eq (de_fld (dv 6)) de_int (nomark _)) (de_one (de_cmp (op_eqA hr.units) od_eq (de_callB (cr_sum rfl) cd_sum rfl T.b_sum (by decide +kernel) (da_cons (de_lc false (own := [("_law_job", 11)]) (c := .one 11) (te := dOp dIx (dVar 11) (dC (.int 4))) (tt := dTest (dOp dLe (dOp dIx (dVar 11) (dC (.int 5))) (dVar 2))) rfl sc_law_all_heavy.nd (by simp [CT.in]) (di_list (dv 7)) (blkOk_by (own := [("_law_job", 11)]) (N := nm_law_all_heavy) (sc := defScope s_law_all_heavy) (by decide +kernel)) (fun _ _ _ _ _ => pg_ct1 (i := 11) sc_law_all_heavy.nd rfl (Or.inl rfl)) (fun _ _ _ _ _ => dts_one (dt_cmp op_le od_cmpI (de_ix (dv 11) de_int) (dv 2) (nomark _))) (fun _ _ _ _ _ => de_ix (dv 11) de_int)) da_nil)) (de_callB (cr_sum rfl) cd_sum rfl T.b_sum (by decide +kernel) (da_cons (dv 3) da_nil)) (nomark _))))))

theorem law_ok {l : PySem.W.OpenLaw} {w : World} {K : PySem.W.Frag} {mg : Str → Option Value} {base : Heap} {fd : FuncData} (T : Txt K mg) (TB : TabBs K mg base) (F : FunD K "law" "law" (defArgs s_law) (defBody s_law) (defScope s_law) [] [] (ga K "law") fd) : FnOk l.prog w K mg base CX0 11 (ga K "law") fd ["_law_script"] (liftSp K spLaw) := by
  have c_law_pool : Good l.prog w K mg base 1 (some "_law_pool") (ga K "_law_pool") ["_law_script"] (sp_law_pool K) := ok_law_pool T TB
  have c_law_draw : Good l.prog w K mg base 1 (some "_law_draw") (ga K "_law_draw") ["_law_pool_here", "_law_limit"] (sp_law_draw K) := ok_law_draw T TB
  have c_law_name : Good l.prog w K mg base 2 (some "_law_name") (ga K "_law_name") ["_law_pool_here"] (sp_law_name K) := ok_law_name T TB c_law_draw
  have c_law_fresh : Good l.prog w K mg base 1 (some "_law_fresh") (ga K "_law_fresh") ["_law_word", "_law_taken"] (sp_law_fresh K) := ok_law_fresh T TB
  have c_law_near : Good l.prog w K mg base 3 (some "_law_near") (ga K "_law_near") ["_law_pool_here", "_law_taken"] (sp_law_near K) := ok_law_near T TB c_law_draw c_law_name c_law_fresh
  have c_law_number : Good l.prog w K mg base 2 (some "_law_number") (ga K "_law_number") ["_law_pool_here", "_law_most"] (sp_law_number K) := ok_law_number T TB c_law_draw
  have c_law_spec : Good l.prog w K mg base 4 (some "_law_spec") (ga K "_law_spec") ["_law_pool_here"] (sp_law_spec K) := ok_law_spec T TB c_law_draw c_law_near c_law_number c_law_name
  have c_is_name : Good l.prog w K mg base 1 (some "is_name") (ga K "is_name") ["text"] (sp_is_name K) := ok_is_name T TB
  have c_need_name : Good l.prog w K mg base 2 (some "need_name") (ga K "need_name") ["text"] (sp_need_name K) := ok_need_name T TB c_is_name
  have c_need_range : Good l.prog w K mg base 1 (some "need_range") (ga K "need_range") ["what", "value", "least", "most"] (sp_need_range K) := ok_need_range T TB
  have c_checked_kinds : Good l.prog w K mg base 3 (some "checked_kinds") (ga K "checked_kinds") ["kinds", "branching"] (sp_checked_kinds K) := ok_checked_kinds T TB c_need_name c_need_range
  have c_need_kind : Good l.prog w K mg base 1 (some "need_kind") (ga K "need_kind") ["name", "kind_rows"] (sp_need_kind K) := ok_need_kind T TB
  have c_checked_arrows : Good l.prog w K mg base 2 (some "checked_arrows") (ga K "checked_arrows") ["arrows", "kind_rows"] (sp_checked_arrows K) := ok_checked_arrows T TB c_need_kind c_need_range
  have c_Task_init : GoodD l.prog w K mg base 4 none (ma K (ga K "Task") "__init__") ["self", "name", "kinds", "arrows"] (sp_Task_init K) [.tup []] := ok_Task_init T TB c_need_name c_checked_kinds c_checked_arrows
  have c_law_drawn_walk : Good l.prog w K mg base 2 (some "_law_drawn_walk") (ga K "_law_drawn_walk") ["_law_pool_here", "_law_spec_here"] (sp_law_drawn_walk K) := ok_law_drawn_walk T TB c_law_draw
  have c_law_spoiled : Good l.prog w K mg base 4 (some "_law_spoiled") (ga K "_law_spoiled") ["_law_pool_here", "_law_spec_here", "_law_walk"] (sp_law_spoiled K) := ok_law_spoiled T TB c_law_draw c_law_near
  have c_law_table : Good l.prog w K mg base 1 (some "_law_table") (ga K "_law_table") ["_law_spec_here", "_law_ticks"] (sp_law_table K) := ok_law_table T TB
  have c_Task_kinds : Good l.prog w K mg base 1 none (wad K "property" "Task" "kinds") ["self"] (sp_Task_kinds K) := ok_Task_kinds T TB
  have c_Task_row_of : Good l.prog w K mg base 3 none (ma K (ga K "Task") "row_of") ["self", "kind"] (sp_Task_row_of K) := ok_Task_row_of T TB
  have c_Task_followers : Good l.prog w K mg base 4 none (ma K (ga K "Task") "followers") ["self", "kind"] (sp_Task_followers K) := ok_Task_followers T TB c_Task_row_of
  have c_kind_demands : Good l.prog w K mg base 5 (some "kind_demands") (ga K "kind_demands") ["task", "ticks"] (sp_kind_demands K) := ok_kind_demands T TB c_Task_kinds c_Task_followers
  have c_heaviest_kind : Good l.prog w K mg base 1 (some "heaviest_kind") (ga K "heaviest_kind") ["table", "kinds", "at"] (sp_heaviest_kind K) := ok_heaviest_kind T TB
  have c_next_step : Good l.prog w K mg base 1 (some "next_step") (ga K "next_step") ["table", "followers", "left"] (sp_next_step K) := ok_next_step T TB
  have c_heavy_walk : Good l.prog w K mg base 6 (some "heavy_walk") (ga K "heavy_walk") ["task", "ticks"] (sp_heavy_walk K) := ok_heavy_walk T TB c_kind_demands c_heaviest_kind c_Task_kinds c_next_step c_Task_followers
  have c_Task_cost_of : Good l.prog w K mg base 4 none (ma K (ga K "Task") "cost_of") ["self", "kind"] (sp_Task_cost_of K) := ok_Task_cost_of T TB c_Task_row_of
  have c_check_counts : Good l.prog w K mg base 3 (some "check_counts") (ga K "check_counts") ["tasks", "walks", "grain"] (sp_check_counts K) := ok_check_counts T TB
  have c_gap_between : Good l.prog w K mg base 5 (some "gap_between") (ga K "gap_between") ["task", "first", "second"] (sp_gap_between K) := ok_gap_between T TB c_Task_followers
  have c_check_job : Good l.prog w K mg base 6 (some "check_job") (ga K "check_job") ["task", "walk", "index", "place", "grain"] (sp_check_job K) := ok_check_job T TB c_Task_cost_of c_gap_between
  have c_Task_deadline_of : Good l.prog w K mg base 4 none (ma K (ga K "Task") "deadline_of") ["self", "kind"] (sp_Task_deadline_of K) := ok_Task_deadline_of T TB c_Task_row_of
  have c_Run_init : GoodK l.prog w K mg base 7 none (ma K (ga K "Run") "__init__") ["self", "tasks", "walks", "grain"] (sp_Run_init K) 3 ["grain"] [.int 1] := ok_Run_init T TB c_check_counts c_check_job c_Task_deadline_of
  have c_heavy_run : Good l.prog w K mg base 9 (some "heavy_run") (ga K "heavy_run") ["tasks", "ticks"] (sp_heavy_run K) := ok_heavy_run T TB c_heavy_walk c_Task_cost_of c_Run_init
  have c_Run_jobs : Good l.prog w K mg base 1 none (wad K "property" "Run" "jobs") ["self"] (sp_Run_jobs K) := ok_Run_jobs T TB
  have c_law_whole : Good l.prog w K mg base 1 (some "_law_whole") (ga K "_law_whole") ["_law_x"] (sp_law_whole K) := ok_law_whole T TB
  have c_law_is_walk : Good l.prog w K mg base 2 (some "_law_is_walk") (ga K "_law_is_walk") ["_law_walk"] (sp_law_is_walk K) := ok_law_is_walk T TB c_law_whole
  have c_law_gap : Good l.prog w K mg base 1 (some "_law_gap") (ga K "_law_gap") ["_law_spec_here", "_law_first", "_law_second"] (sp_law_gap K) := ok_law_gap T TB
  have c_law_due : Good l.prog w K mg base 2 (some "_law_due") (ga K "_law_due") ["_law_spec_here", "_law_walk", "_law_ticks"] (sp_law_due K) := ok_law_due T TB c_law_gap
  have c_law_is_heavy : Good l.prog w K mg base 3 (some "_law_is_heavy") (ga K "_law_is_heavy") ["_law_walk", "_law_spec_here", "_law_most", "_law_ticks"] (sp_law_is_heavy K) := ok_law_is_heavy T TB c_law_is_walk c_law_due
  have c_need_step : Good l.prog w K mg base 5 (some "need_step") (ga K "need_step") ["task", "walk", "place"] (sp_need_step K) := ok_need_step T TB c_Task_followers
  have c_walk_demand : Good l.prog w K mg base 6 (some "walk_demand") (ga K "walk_demand") ["task", "walk", "ticks"] (sp_walk_demand K) := ok_walk_demand T TB c_Task_cost_of c_need_step c_Task_deadline_of
  have c_law_told : Good l.prog w K mg base 7 (some "_law_told") (ga K "_law_told") ["_law_task", "_law_walk", "_law_ticks"] (sp_law_told K) := ok_law_told T TB c_walk_demand c_law_whole
  have c_law_all_heavy : Good l.prog w K mg base 10 (some "_law_all_heavy") (ga K "_law_all_heavy") ["_law_tasks", "_law_specs", "_law_ticks"] (sp_law_all_heavy K) := ok_law_all_heavy T TB c_law_table c_heavy_run c_Run_jobs c_heavy_walk c_law_is_heavy c_Task_cost_of c_law_told
  obtain ⟨_, c_law_pool_ok, c_law_pool_b, c_law_pool_kp⟩ := c_law_pool.ex
  have c_law_pool_g := c_law_pool.gl
  obtain ⟨_, c_law_draw_ok, c_law_draw_b, c_law_draw_kp⟩ := c_law_draw.ex
  have c_law_draw_g := c_law_draw.gl
  obtain ⟨_, c_law_spec_ok, c_law_spec_b, c_law_spec_kp⟩ := c_law_spec.ex
  have c_law_spec_g := c_law_spec.gl
  obtain ⟨_, c_Task_init_ok, c_Task_init_kp, c_Task_init_b, _, _, c_Task_init_dv, c_Task_init_db, c_Task_init_dd⟩ := c_Task_init.ex
  have c_Task_init_g := c_Task_init.gl
  obtain ⟨_, c_law_drawn_walk_ok, c_law_drawn_walk_b, c_law_drawn_walk_kp⟩ := c_law_drawn_walk.ex
  have c_law_drawn_walk_g := c_law_drawn_walk.gl
  obtain ⟨_, c_law_spoiled_ok, c_law_spoiled_b, c_law_spoiled_kp⟩ := c_law_spoiled.ex
  have c_law_spoiled_g := c_law_spoiled.gl
  obtain ⟨_, c_law_all_heavy_ok, c_law_all_heavy_b, c_law_all_heavy_kp⟩ := c_law_all_heavy.ex
  have c_law_all_heavy_g := c_law_all_heavy.gl
  obtain ⟨_, c_law_told_ok, c_law_told_b, c_law_told_kp⟩ := c_law_told.ex
  have c_law_told_g := c_law_told.gl
  obtain ⟨_, c_law_due_ok, c_law_due_b, c_law_due_kp⟩ := c_law_due.ex
  have c_law_due_g := c_law_due.gl
  refine fn_d0 (k := 10) F sc_law (spLaw_len _) (t_law K) (fun cdv A outer s H E hr tk hp => ?_) (fun ds m Q E h => pure_law T ds m Q (fun _ _ => False) h)
  refine dss_cons (ds_set (i := 1) sc_law.nd rfl (Or.inr rfl) (de_call c_law_pool_ok (hr.mono (by decide)) rfl c_law_pool_g c_law_pool_kp c_law_pool_b .nil (fun _ => .nil) tk (da_cons (dv 0) da_nil))) ?_
  refine dss_cons (ds_set (i := 2) sc_law.nd rfl (Or.inl rfl) (de_lst false (da_cons (de_call c_law_draw_ok (hr.mono (by decide)) rfl c_law_draw_g c_law_draw_kp c_law_draw_b .nil (fun _ => .nil) tk (da_cons (dv 1) (da_cons de_int da_nil))) (da_cons (de_call c_law_draw_ok (hr.mono (by decide)) rfl c_law_draw_g c_law_draw_kp c_law_draw_b .nil (fun _ => .nil) tk (da_cons (dv 1) (da_cons de_int da_nil))) da_nil)))) ?_
  refine dss_cons (ds_setLc false (i := 3) (hy := rfl) (hyl := rfl) (hsw := sw_true rfl rfl rfl (by decide +kernel)) (hc := rfl) (hN := sc_law.nd) (own := [("_law_k", 4)]) (c := .one 4) (te := dCall (sp_law_spec K) WD0 [] (daCons (dVar 1) daNil)) (tt := dYes) (by simp [CT.in]) (di_range1 rfl T.b_range (da_cons (de_add false de_int (de_call c_law_draw_ok (hr.mono (by decide)) rfl c_law_draw_g c_law_draw_kp c_law_draw_b .nil (fun _ => .nil) tk (da_cons (dv 1) (da_cons de_int da_nil)))) da_nil)) (blkOk_by (own := [("_law_k", 4)]) (N := nm_law) (sc := defScope s_law) (by decide +kernel)) (fun _ _ _ _ _ => pg_ct1 (i := 4) sc_law.nd rfl (Or.inl rfl)) (fun _ _ _ _ _ => dts_nil) (fun _ _ _ _ _ => de_call c_law_spec_ok (hr.mono (by decide)) rfl c_law_spec_g c_law_spec_kp c_law_spec_b .nil (fun _ => .nil) takes0 (da_cons (dv 1) da_nil))) ?_
  refine dss_cons (ds_setLc false (i := 5) (hy := rfl) (hyl := rfl) (hsw := sw_true rfl rfl rfl (by decide +kernel)) (hc := rfl) (hN := sc_law.nd) (own := [("_law_spec_here", 6)]) (c := .one 6) (te := dMake (ga K "Task") (sp_Task_init K) WD0 [] (daCons (dOp dIx (dVar 6) (dC (.int 0))) (daCons (dCB (dList false) (daCons (dOp dIx (dVar 6) (dC (.int 1))) daNil)) (daCons (dCB (dList false) (daCons (dOp dIx (dVar 6) (dC (.int 2))) daNil)) daNil)))) (tt := dYes) (by simp [CT.in]) (di_list (dv 3)) (blkOk_by (own := [("_law_spec_here", 6)]) (N := nm_law) (sc := defScope s_law) (by decide +kernel)) (fun _ _ _ _ _ => pg_ct1 (i := 6) sc_law.nd rfl (Or.inl rfl)) (fun _ _ _ _ _ => dts_nil) (fun _ _ _ _ _ => de_make T.mk_Task c_Task_init_ok (hr.mono (by decide)) rfl T.g_Task c_Task_init_b .nil (fun _ => .nil) takes0 (none_of none_Task_init) (da_cons (de_ix (dv 6) de_int) (da_cons (de_callTy call_list_of (cd_list false) rfl T.b_list (by decide +kernel) (da_cons (de_ix (dv 6) de_int) da_nil)) (da_cons (de_callTy call_list_of (cd_list false) rfl T.b_list (by decide +kernel) (da_cons (de_ix (dv 6) de_int) da_nil)) da_nil))))) ?_
  refine dss_cons (ds_set (i := 7) sc_law.nd rfl (Or.inl rfl) (de_call c_law_drawn_walk_ok (hr.mono (by decide)) rfl c_law_drawn_walk_g c_law_drawn_walk_kp c_law_drawn_walk_b .nil (fun _ => .nil) tk (da_cons (dv 1) (da_cons (de_ix (dv 3) de_int) da_nil)))) ?_
  refine dss_cons (ds_set (i := 8) sc_law.nd rfl (Or.inl rfl) (de_call c_law_spoiled_ok (hr.mono (by decide)) rfl c_law_spoiled_g c_law_spoiled_kp c_law_spoiled_b .nil (fun _ => .nil) tk (da_cons (dv 1) (da_cons (de_ix (dv 3) de_int) (da_cons (dv 7) da_nil))))) ?_
  refine dss_cons (ds_set (i := 9) sc_law.nd rfl (Or.inl rfl) (de_lst false (da_cons (de_call c_law_draw_ok (hr.mono (by decide)) rfl c_law_draw_g c_law_draw_kp c_law_draw_b .nil (fun _ => .nil) tk (da_cons (dv 1) (da_cons de_int da_nil))) (da_cons (de_sub (de_call c_law_draw_ok (hr.mono (by decide)) rfl c_law_draw_g c_law_draw_kp c_law_draw_b .nil (fun _ => .nil) tk (da_cons (dv 1) (da_cons de_int da_nil))) de_int) (da_cons (de_pow de_int de_int) da_nil))))) ?_
  refine dss_cons (ds_for hp rfl (di_list (dv 2)) (dg_name (i := 10) sc_law.nd rfl (Or.inl rfl)) (dss_one (ds_if (dt_not (dt_tru (de_call c_law_all_heavy_ok (hr.mono (by decide)) rfl c_law_all_heavy_g c_law_all_heavy_kp c_law_all_heavy_b .nil (fun _ => .nil) tk (da_cons (dv 5) (da_cons (dv 3) (da_cons (dv 10) da_nil)))))) (dss_one (ds_ret de_bl)) dss_nil))) ?_
  refine dss_cons (ds_for hp rfl (di_list (dv 9)) (dg_name (i := 10) sc_law.nd rfl (Or.inl rfl)) (dss_cons (ds_if (dt_cmp (op_neA hr.units) od_ne (de_call c_law_told_ok (hr.mono (by decide)) rfl c_law_told_g c_law_told_kp c_law_told_b .nil (fun _ => .nil) tk (da_cons (de_ix (dv 5) de_int) (da_cons (dv 7) (da_cons (dv 10) da_nil)))) (de_call c_law_due_ok (hr.mono (by decide)) rfl c_law_due_g c_law_due_kp c_law_due_b .nil (fun _ => .nil) tk (da_cons (de_ix (dv 3) de_int) (da_cons (dv 7) (da_cons (dv 10) da_nil)))) (nomark _)) (dss_one (ds_ret de_bl)) dss_nil)
    (dss_one (ds_if (dt_cmp (op_neA hr.units) od_ne (de_call c_law_told_ok (hr.mono (by decide)) rfl c_law_told_g c_law_told_kp c_law_told_b .nil (fun _ => .nil) tk (da_cons (de_ix (dv 5) de_int) (da_cons (dv 8) (da_cons (dv 10) da_nil)))) (de_call c_law_due_ok (hr.mono (by decide)) rfl c_law_due_g c_law_due_kp c_law_due_b .nil (fun _ => .nil) tk (da_cons (de_ix (dv 3) de_int) (da_cons (dv 8) (da_cons (dv 10) da_nil)))) (nomark _)) (dss_one (ds_ret de_bl)) dss_nil)))) ?_
  exact dss_one (ds_ret de_bl)

end LW

set_option Elab.async false
set_option linter.all false
set_option maxRecDepth 100000
set_option maxHeartbeats 0

open PySem PySem.W PySem.Calls PyProof.Rows in
set_option maxRecDepth 100000 in
set_option maxHeartbeats 0 in
theorem PySem.Challenge.cw_walkdues_k18_heavy_walks_holds : PySem.Challenge.rw_walkdues_k18_heavy_walks.Holds := by
  w_on; o_law
  refine HandSHeadRun.head_any (r := OpenLaw.row PySem.Challenge.rw_walkdues_k18_heavy_walks) (q := view (OpenLaw.row PySem.Challenge.rw_walkdues_k18_heavy_walks).prog [60]) (H := LW.hk) (ob := LW.ob) (M := 6000) (loose := LW.loose) (d := HandSHeadRun.topDef (OpenLaw.row PySem.Challenge.rw_walkdues_k18_heavy_walks).prog 60) (kwd := []) LW.ob_eq
    (by kernel_rfl) (fun s => by kernel_rfl) LW.run (by kernel_rfl) (by kernel_rfl) (by kernel_rfl) (by rfl) (by first | assumption | decide +kernel) (by decide +kernel) ⟨rfl, rfl, rfl, rfl, rfl, by decide +kernel⟩ ?hw ?hc
  case hw => w_witness2
  case hc =>
    refine DL.walk_tab (l := PySem.Challenge.rw_walkdues_k18_heavy_walks) (n := 63) (k := 11) (x := "_law_script") (CX := L2.CX0) rfl (by decide) (by kernel_rfl) ⟨rfl, by decide, by decide⟩ ?F (fun _ _ _ _ z => z)
    intro w mg fa h Y G hmg0
    obtain ⟨K, KX, c, tab⟩ := Y
    have hmg : mg ("law" : PySem.Str) = some (.ref fa) := by
      have e : (HandSHeadRun.topDef (OpenLaw.row PySem.Challenge.rw_walkdues_k18_heavy_walks).prog 60).name = ("law" : PySem.Str) := by kernel_rfl
      rw [← e]
      exact hmg0
    have T : LW.Txt K mg := ⟨c, h, KX, G⟩
    have e := hmg.symm.trans T.g_law
    cases e
    obtain ⟨fd, F⟩ := T.d_law
    have b := L2.FunD.bindsA (ps := ["_law_script"]) F fun _ _ _ _ _ _ us hl => match us, hl with | [_], _ => rfl
    exact ⟨K, fd, DL.liftSp K DL.spLaw, KX, tab, fun s v => b s [v] rfl, fun H a ns hl hT hS => DL.law_sp H a ns hl hT hS, fun base _ _ TB => LW.law_ok T TB F⟩

