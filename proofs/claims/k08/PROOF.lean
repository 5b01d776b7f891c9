import PyProof.Rows.All
import Wide.All
import OpenK.AllK
import Wide.FinOn
import KE.KStateDown
import HandS.ForMost
import HandS.ForExc
import HandS.Defaults
import HandS.Wide
import HandS.Lambda
import HandS.HeadHook1
import HandS.IsInst
import HandS.Text
import HandS.CallSlots
import HandS.NoneIn
import HandS.RevRange
import HandS.Property
import HandS.Star
import HandS.OwnEq
import HandS.SetFor
import Lean
import HandS.Head2
import HandS.HeadEnd
import HandS.HeadHook2
import HandS.EndTab
import KE.KNestM
import HandS.SortInts
import HandS.ExcInit
import HandS.ExcField
import HandS.TryOnly
import HandS.Small
import HandS.ClsMeth
import HandS.HeadNt
import HandS.Conv
import HandS.FStr
import HandS.Iter
import HandS.MakeKw
import HandS.Style
import HandS.TryMany
import KE.KExcIs
import HandS.ExcIs
import HandS.WideBits
import HandS.List
import PyProof.StrBlock2
import HandS.DictComp
import HandS.WordsDict
import HandS.Finally
import HandS.SortKw
import HandS.ListItems
import KE.DataMinMax
import KE.DataEq
import KE.SortKeyHeap
import HandS.DictTup
import HandS.DeepEq
import HandS.Dict
import HandS.Flow
import HandS.More
import HandS.HotCalls
import KE.KEqNest
import KE.KWithOwn
import HandS.Zip
import HandS.Nested
import KE.DataMinKey
import PyProof.Runs
import HandS.Remove
import KE.LtData
import PySem.Challenge.RW_walkdues_k08_slices_unit_by_unit
set_option Elab.async false
set_option linter.all false
set_option maxRecDepth 100000
set_option maxHeartbeats 4000000
namespace DL
open PySem PySem.Spec PyProof.Rows L2

inductive D where
  | non
  | bl (b : Bool)
  | int (i : Int)
  | str (x : Str)
  | ty (n : String)
  | ref (a : Addr)
  | lst (xs : List D)
  | rdl (xs : List D)
  | tup (xs : List D)
  | ins (C : Addr) (fs : List (Str × D))
  | exn (a : Addr) (d : Option Addr) (fs : List (Str × D))
  | dki (kvs : List (Key × Int))
  | dti (kvs : List (List Key × Int))
  | obj (a : Addr) (d : D)
  | clo (a c : Addr) (q : Str) (env : List D) (vs : List V)
def iV {κ : Type} (kvs : List (κ × Int)) : List (κ × V) := kvs.map fun p => (p.1, V.int p.2)

def TpK (K : PySem.W.Frag) (G : Hp) (a : Addr) (vs : List V) : Prop := SqT K G a vs ∧ (vs = [] ∨ G a = some (.tup vs))
mutual
inductive Rp (K : PySem.W.Frag) (G : Hp) : D → V → Prop
  | non : Rp K G .non .non
  | bl (b : Bool) : Rp K G (.bl b) (.bl b)
  | int (i : Int) : Rp K G (.int i) (.int i)
  | str (x : Str) : Rp K G (.str x) (.str x)
  | ty (n : String) : Rp K G (.ty n) (.ty n)
  | ref (a : Addr) : Rp K G (.ref a) (.ref a)
  | lst {a : Addr} {vs : List V} {ds : List D} : G a = some (.lst vs) → Rps K G ds vs → Rp K G (.lst ds) (.ref a)
  | rdl {a : Addr} {vs : List V} {ds : List D} : SqL K G a vs → Rps K G ds vs → Rp K G (.rdl ds) (.ref a)
  | tup {a : Addr} {vs : List V} {ds : List D} : TpK K G a vs → Rps K G ds vs → Rp K G (.tup ds) (.ref a)
  | ins {a C dx : Addr} {fv : List (Str × V)} {fs : List (Str × D)} : G a = some (.ins C dx fv) → Rpf K G fs fv → Rp K G (.ins C fs) (.ref a)
  | exn0 (a : Addr) : Rp K G (.exn a none []) (.ref a)
  | exnS {a d : Addr} {fv : List (Str × V)} {fs : List (Str × D)} : G d = some (.xd fv) → Rpf K G fs fv → Rp K G (.exn a (some d) fs) (.ref a)
  | dki {a : Addr} {o : Obj} {kvs : List (Key × Int)} : G a = some (.frz o (.dK (iV kvs))) → Rp K G (.dki kvs) (.ref a)
  | dti {a : Addr} {o : Obj} {kvs : List (List Key × Int)} : G a = some (.frz o (.dT (iV kvs))) → Rp K G (.dti kvs) (.ref a)
  | obj {a : Addr} {d : D} : Rp K G d (.ref a) → Rp K G (.obj a d) (.ref a)
  | clo {a c : Addr} {q : Str} {env : List D} {vs : List V} : G c = some (LamX.CodeO c q) → Rps K G env vs → Rp K G (.clo a c q env vs) (.ref a)
inductive Rps (K : PySem.W.Frag) (G : Hp) : List D → List V → Prop
  | nil : Rps K G [] []
  | cons {d : D} {ds : List D} {v : V} {vs : List V} : Rp K G d v → Rps K G ds vs → Rps K G (d :: ds) (v :: vs)
inductive Rpf (K : PySem.W.Frag) (G : Hp) : List (Str × D) → List (Str × V) → Prop
  | nil : Rpf K G [] []
  | cons {n : Str} {d : D} {ds : List (Str × D)} {v : V} {vs : List (Str × V)} : Rp K G d v → Rpf K G ds vs → Rpf K G ((n, d) :: ds) ((n, v) :: vs)
end

theorem same_sqt {K : PySem.W.Frag} {H H' : Hp} {a : Addr} {xs : List V} (e : Same H H') (h : SqT K H a xs) : SqT K H' a xs := by
  rcases h with (h | ⟨o, h⟩) | h
  · exact .inl (.inl (e _ _ h))
  · exact .inl (.inr ⟨o, e _ _ h⟩)
  · exact .inr h
theorem same_tpk {K : PySem.W.Frag} {H H' : Hp} {a : Addr} {xs : List V} (e : Same H H') (h : TpK K H a xs) : TpK K H' a xs := ⟨same_sqt e h.1, h.2.imp _root_.id fun z => e _ _ z⟩
theorem TpK.of {K : PySem.W.Frag} {H : Hp} {a : Addr} {xs : List V} (h : H a = some (.tup xs)) : TpK K H a xs := ⟨SqT.of h, .inr h⟩
instance {K : PySem.W.Frag} {H : Hp} {a : Addr} {xs : List V} : CoeOut (TpK K H a xs) (SqT K H a xs) := ⟨And.left⟩
theorem same_new {H : Hp} {p : Addr} {o : HO} (h : H p = none) : Same H (upd H p o) := fun a u e => by
  rw [upd_ne (ne_of_none e h)]
  exact e
theorem same_mut {H H' : Hp} {p : Addr} {o : HO} (e : Same H H') (h : H p = none) : Same H (upd H' p o) := fun a u ha => by
  rw [upd_ne (ne_of_none ha h)]
  exact e a u ha

section
variable {K : PySem.W.Frag} {G G' : Hp}
mutual
theorem Rp.mono (e : Same G G') : ∀ {d : D} {v : V}, Rp K G d v → Rp K G' d v
  | _, _, .non => .non
  | _, _, .bl b => .bl b
  | _, _, .int i => .int i
  | _, _, .str x => .str x
  | _, _, .ty n => .ty n
  | _, _, .ref a => .ref a
  | _, _, .lst h r => .lst (e _ _ h) (Rps.mono e r)
  | _, _, .rdl h r => .rdl (e.seq h) (Rps.mono e r)
  | _, _, .tup h r => .tup (same_tpk e h) (Rps.mono e r)
  | _, _, .ins h r => .ins (e _ _ h) (Rpf.mono e r)
  | _, _, .exn0 a => .exn0 a
  | _, _, .exnS h r => .exnS (e _ _ h) (Rpf.mono e r)
  | _, _, .dki h => .dki (e _ _ h)
  | _, _, .dti h => .dti (e _ _ h)
  | _, _, .obj h => .obj (Rp.mono e h)
  | _, _, .clo hc h => .clo (e _ _ hc) (Rps.mono e h)
theorem Rps.mono (e : Same G G') : ∀ {ds : List D} {vs : List V}, Rps K G ds vs → Rps K G' ds vs
  | _, _, .nil => .nil
  | _, _, .cons r t => .cons (Rp.mono e r) (Rps.mono e t)
theorem Rpf.mono (e : Same G G') : ∀ {ds : List (Str × D)} {vs : List (Str × V)}, Rpf K G ds vs → Rpf K G' ds vs
  | _, _, .nil => .nil
  | _, _, .cons r t => .cons (Rp.mono e r) (Rpf.mono e t)
end
theorem Rps.length : ∀ {ds : List D} {vs : List V}, Rps K G ds vs → ds.length = vs.length
  | _, _, .nil => rfl
  | _, _, .cons _ t => congrArg Nat.succ (Rps.length t)
theorem Rps.append : ∀ {ds es : List D} {vs us : List V}, Rps K G ds vs → Rps K G es us → Rps K G (ds ++ es) (vs ++ us)
  | _, _, _, _, .nil, s => s
  | _, _, _, _, .cons r t, s => .cons r (Rps.append t s)
theorem Rps.get : ∀ {ds : List D} {vs : List V} {i : Nat} {d : D}, Rps K G ds vs → ds[i]? = some d → ∃ v, vs[i]? = some v ∧ Rp K G d v
  | _, _, _, _, .nil, e => by simp at e
  | _, _, 0, _, .cons r _, e => by simp at e; subst e; exact ⟨_, rfl, r⟩
  | _, _, i + 1, d, .cons _ t, e => by
    obtain ⟨u, h1, h2⟩ := Rps.get (i := i) (d := d) t (by simpa using e)
    exact ⟨u, by simpa using h1, h2⟩
theorem Rps.set {d : D} {v : V} (r : Rp K G d v) : ∀ {ds : List D} {vs : List V} (i : Nat), Rps K G ds vs → Rps K G (ds.set i d) (vs.set i v)
  | _, _, _, .nil => .nil
  | _, _, 0, .cons _ t => .cons r t
  | _, _, i + 1, .cons q t => .cons q (Rps.set r i t)
theorem Rps.take : ∀ {ds : List D} {vs : List V} (n : Nat), Rps K G ds vs → Rps K G (ds.take n) (vs.take n)
  | _, _, 0, _ => .nil
  | _, _, _ + 1, .nil => .nil
  | _, _, n + 1, .cons r t => .cons r (Rps.take n t)
theorem Rps.drop : ∀ {ds : List D} {vs : List V} (n : Nat), Rps K G ds vs → Rps K G (ds.drop n) (vs.drop n)
  | _, _, 0, r => r
  | _, _, _ + 1, .nil => .nil
  | _, _, n + 1, .cons _ t => Rps.drop n t
theorem Rps.reverse : ∀ {ds : List D} {vs : List V}, Rps K G ds vs → Rps K G ds.reverse vs.reverse
  | _, _, .nil => .nil
  | _, _, .cons r t => by
    rw [List.reverse_cons, List.reverse_cons]
    exact (Rps.reverse t).append (.cons r .nil)
theorem Rps.ints : ∀ {ns : List Int} {vs : List V}, Rps K G (ns.map D.int) vs → vs = ns.map V.int
  | [], _, .nil => rfl
  | n :: ns, _, .cons r t => by
    cases r
    rw [Rps.ints t]
    rfl
theorem Rps.ofInts : ∀ (ns : List Int), Rps K G (ns.map D.int) (ns.map V.int)
  | [] => .nil
  | n :: ns => .cons (.int n) (Rps.ofInts ns)
theorem Rps.bls : ∀ {bs : List Bool} {vs : List V}, Rps K G (bs.map D.bl) vs → vs = bs.map V.bl
  | [], _, .nil => rfl
  | n :: ns, _, .cons r t => by
    cases r
    rw [Rps.bls t]
    rfl
theorem Rpf.lookup : ∀ {fs : List (Str × D)} {fv : List (Str × V)} {x : Str} {d : D}, Rpf K G fs fv → fs.lookup x = some d → ∃ v, fv.lookup x = some v ∧ Rp K G d v
  | _, _, _, _, .nil, e => by simp at e
  | _, _, x, d, .cons (n := n) r t, e => by
    rw [List.lookup_cons] at e
    cases q : (x == n) with
    | true =>
      rw [q] at e
      cases e
      exact ⟨_, by rw [List.lookup_cons, q], r⟩
    | false =>
      rw [q] at e
      obtain ⟨v, h1, h2⟩ := Rpf.lookup t e
      exact ⟨v, by rw [List.lookup_cons, q]; exact h1, h2⟩
theorem Rpf.lookupN : ∀ {fs : List (Str × D)} {fv : List (Str × V)} {x : Str}, Rpf K G fs fv → fs.lookup x = none → fv.lookup x = none
  | _, _, _, .nil, e => rfl
  | _, _, x, .cons (n := n) r t, e => by
    rw [List.lookup_cons] at e ⊢
    cases q : (x == n) with
    | true =>
      rw [q] at e
      cases e
    | false =>
      rw [q] at e
      exact Rpf.lookupN t e
theorem Rpf.length : ∀ {fs : List (Str × D)} {fv : List (Str × V)}, Rpf K G fs fv → fs.length = fv.length
  | _, _, .nil => rfl
  | _, _, .cons _ t => congrArg Nat.succ (Rpf.length t)
end
def putD (f : Str) (v : D) : List (Str × D) → List (Str × D)
  | [] => [(f, v)]
  | (g, x) :: r => if g = f then (g, v) :: r else (g, x) :: putD f v r
theorem Rpf.put {K : PySem.W.Frag} {G : Hp} {f : Str} {d : D} {v : V} (r : Rp K G d v) : ∀ {fs : List (Str × D)} {fv : List (Str × V)}, Rpf K G fs fv → Rpf K G (putD f d fs) (putF f v fv)
  | _, _, .nil => .cons r .nil
  | _, _, .cons (n := n) q t => by
    show Rpf K G (if n = f then _ else _) (if n = f then _ else _)
    by_cases h : n = f
    · rw [if_pos h, if_pos h]
      exact .cons r t
    · rw [if_neg h, if_neg h]
      exact .cons q (Rpf.put r t)

inductive MO where
  | lst (xs : List D)
  | dK (kvs : List (Key × D))
  | dT (kvs : List (List Key × D))
  | ins (C : Addr) (fs : List (Str × D))
  | fn (ob : Obj)
inductive Rpk {κ : Type} (K : PySem.W.Frag) (G : Hp) : List (κ × D) → List (κ × V) → Prop
  | nil : Rpk K G [] []
  | cons {k : κ} {d : D} {ds : List (κ × D)} {v : V} {vs : List (κ × V)} : Rp K G d v → Rpk K G ds vs → Rpk K G ((k, d) :: ds) ((k, v) :: vs)
theorem Rpk.mono {κ : Type} {K : PySem.W.Frag} {G G' : Hp} (e : Same G G') : ∀ {ds : List (κ × D)} {vs : List (κ × V)}, Rpk K G ds vs → Rpk K G' ds vs
  | _, _, .nil => .nil
  | _, _, .cons r t => .cons (r.mono e) (Rpk.mono e t)
def RpM (K : PySem.W.Frag) (G : Hp) : MO → HO → Prop
  | .lst ds, .lst vs => Rps K G ds vs
  | .dK ds, .dK vs => Rpk K G ds vs
  | .dT ds, .dT vs => Rpk K G ds vs
  | .ins C fs, .ins C' _ fv => C = C' ∧ Rpf K G fs fv
  | .fn ob, .frz ob' u => ob = ob' ∧ u = .ext fun _ => True
  | _, _ => False
theorem RpM.mono {K : PySem.W.Frag} {G G' : Hp} (e : Same G G') {m : MO} {o : HO} (h : RpM K G m o) : RpM K G' m o := by
  cases m with
  | lst ds => cases o with
    | lst vs => exact Rps.mono e h
    | _ => exact h.elim
  | dK ds => cases o with
    | dK vs => exact Rpk.mono e h
    | _ => exact h.elim
  | dT ds => cases o with
    | dT vs => exact Rpk.mono e h
    | _ => exact h.elim
  | ins C fs => cases o with
    | ins C' dx fv => exact ⟨h.1, h.2.mono e⟩
    | _ => exact h.elim
  | fn ob => cases o with
    | frz ob' u => exact h
    | _ => exact h.elim
theorem RpM.ofFn {K : PySem.W.Frag} {G : Hp} {ob : Obj} {o : HO} (h : RpM K G (.fn ob) o) : o = .frz ob (.ext fun _ => True) := by
  cases o with
  | frz ob' u => obtain ⟨rfl, rfl⟩ := h; rfl
  | _ => exact h.elim
theorem RpM.ofLst {K : PySem.W.Frag} {G : Hp} {ds : List D} {o : HO} (h : RpM K G (.lst ds) o) : ∃ vs, o = .lst vs ∧ Rps K G ds vs := by
  cases o with
  | lst vs => exact ⟨vs, rfl, h⟩
  | _ => exact h.elim
theorem RpM.ofIns {K : PySem.W.Frag} {G : Hp} {C : Addr} {fs : List (Str × D)} {o : HO} (h : RpM K G (.ins C fs) o) : ∃ dx fv, o = .ins C dx fv ∧ Rpf K G fs fv := by
  cases o with
  | ins C' dx fv => obtain ⟨rfl, h⟩ := h; exact ⟨dx, fv, rfl, h⟩
  | _ => exact h.elim
abbrev M := Addr → Option MO
def mset (m : M) (a : Addr) (o : MO) : M := fun b => if b = a then some o else m b
def mdel (m : M) (a : Addr) : M := fun b => if b = a then none else m b
theorem mset_same {m : M} {a : Addr} {o : MO} : mset m a o a = some o := if_pos rfl
theorem mset_ne {m : M} {a b : Addr} {o : MO} (h : b ≠ a) : mset m a o b = m b := if_neg h
theorem mdel_same {m : M} {a : Addr} : mdel m a a = none := if_pos rfl
theorem mdel_ne {m : M} {a b : Addr} (h : b ≠ a) : mdel m a b = m b := if_neg h
theorem mset_mset {m : M} {a : Addr} {o u : MO} : mset (mset m a o) a u = mset m a u := by
  funext b; unfold mset; split <;> rfl
theorem mdel_mset {m : M} {a : Addr} {o : MO} (h : m a = none) : mdel (mset m a o) a = m := by
  funext b; unfold mdel mset
  by_cases e : b = a
  · rw [if_pos e, e, h]
  · rw [if_neg e, if_neg e]
theorem mset_comm {m : M} {a b : Addr} {o u : MO} (h : a ≠ b) : mset (mset m a o) b u = mset (mset m b u) a o := by
  funext c; unfold mset
  by_cases e : c = a
  · subst e; rw [if_neg h, if_pos rfl, if_pos rfl]
  · by_cases e2 : c = b
    · subst e2; rw [if_pos rfl, if_neg e, if_pos rfl]
    · rw [if_neg e2, if_neg e, if_neg e, if_neg e2]
theorem mdel_mset_ne {m : M} {a b : Addr} {o : MO} (h : a ≠ b) : mdel (mset m b o) a = mset (mdel m a) b o := by
  funext c
  by_cases e : c = a
  · subst e; rw [mdel_same, mset_ne h, mdel_same]
  · rw [mdel_ne e]
    by_cases e2 : c = b
    · subst e2; rw [mset_same, mset_same]
    · rw [mset_ne e2, mset_ne e2, mdel_ne e]

def lamDefs : List (Option Str × Str) := [(none, "simple_cycles"), (some "Run", "__init__"), (none, "run_by"), (none, "calendar_slices"), (none, "_law_jobs"), (none, "_law_excess"), (none, "_law_refusal"), (none, "_law_key"), (none, "_law_scheduled"), (none, "_law_bad_speed"), (none, "law")]
def lamAd (K : PySem.W.Frag) (d : Option Str × Str) : Addr := match d.1 with
  | none => He.ga K d.2
  | some C => He.ma K (He.ga K C) d.2
def lamQ (d : Option Str × Str) : Str := match d.1 with
  | none => d.2
  | some C => C ++ "." ++ d.2
def nmIn : List Stmt → Str
  | [] => "<lambda>"
  | .FunctionDef n _ _ _ _ _ _ _ _ _ :: _ => n
  | _ :: r => nmIn r
def innerAt (K : PySem.W.Frag) (f : Addr) : Str := match K.lookup f with
  | some ⟨_, _, .func u, _⟩ => (match u.body with
    | .stmts b => nmIn b
    | _ => "<lambda>")
  | _ => "<lambda>"
def tabAt (K : PySem.W.Frag) (f : Addr) (q : Str) : Option (Addr × Addr) := match K.lookup f with
  | some ⟨_, _, .func u, _⟩ => if u.qualname = q then (match u.code with
    | .ref c => (match K.lookup c with
      | some ⟨_, _, .fields vs, _⟩ => (match (vs[11]? : Option Value) with
        | some (.ref P) => some (c, P)
        | _ => none)
      | _ => none)
    | _ => none) else none
  | _ => none
def tbls3 (K : PySem.W.Frag) : List (Addr × Addr × Str) := lamDefs.filterMap fun d => (tabAt K (lamAd K d) (lamQ d)).map fun x => (x.1, x.2, lamQ d ++ ".<locals>." ++ innerAt K (lamAd K d))
def tblsOf (K : PySem.W.Frag) : List (Addr × Str) := (tbls3 K).map fun x => (x.2.1, x.2.2)
def ntb (o : HO) : Prop := ∀ ps, o ≠ .tbl ps
def okO (o : HO) : Prop := (∀ ps, o ≠ .tbl ps) ∧ ∀ φ, o ≠ .ext φ
section
open LamX
theorem Tabs.new {T : List (Addr × Str)} {H : Hp} {p : Addr} {o : HO} (t : Tabs T H) (h : H p = none) : Tabs T (upd H p o) := t.ext fun b u e => by rw [upd_ne (ne_of_none e h)]; exact e
theorem Tabs.upd {T : List (Addr × Str)} {H : Hp} {p : Addr} {o w : HO} (t : Tabs T H) (h : H p = some w) (ho : okO w) : Tabs T (upd H p o) := fun z hz => by
  obtain ⟨ps, h1, h2, h3⟩ := t z hz
  have ne : z.1 ≠ p := fun e => by
    rw [e, h] at h1
    exact ho.1 ps (Option.some.inj h1)
  refine ⟨ps, by rw [upd_ne ne]; exact h1, h2, fun pos cv hc => ?_⟩
  obtain ⟨c, e1, e2⟩ := h3 pos cv hc
  have nc : c ≠ p := fun e => by
    rw [e, h] at e2
    exact ho.2 _ (Option.some.inj e2)
  exact ⟨c, e1, by rw [upd_ne nc]; exact e2⟩
end
theorem RpM.okO {K : PySem.W.Frag} {G : Hp} {u : MO} {o : HO} (h : RpM K G u o) : okO o := by
  cases u <;> cases o <;> first | exact h.elim | exact ⟨fun _ e => (by cases e), fun _ e => (by cases e)⟩
def notT (o : HO) : Prop := (∀ ps, o ≠ .tbl ps) ∧ (∀ xs, o ≠ .tup xs) ∧ ∀ φ, o ≠ .ext φ
structure Rep (K : PySem.W.Frag) (G H F : Hp) (m : M) : Prop where
  ext : Same G H
  frm : Same F H
  dis : ∀ a o, F a = some o → G a = none
  mo : ∀ a o, m a = some o → G a = none ∧ F a = none ∧ ∃ u, H a = some u ∧ RpM K G o u
  tb : LamX.Tabs (tblsOf K) H
  gt : ∀ a o, G a = some o → ntb o
  ft : ∀ a o, F a = some o → notT o
theorem nt_upd {F : Hp} {p : Addr} {o : HO} (h : ∀ a u, F a = some u → notT u) (ho : notT o) : ∀ a u, upd F p o a = some u → notT u := fun a u e => by
  by_cases hb : a = p
  · subst hb; rw [upd_same] at e; cases e; exact ho
  · rw [upd_ne hb] at e; exact h a u e
theorem ok_upd {F : Hp} {p : Addr} {o : HO} (h : ∀ a u, F a = some u → ntb u) (ho : okO o) : ∀ a u, upd F p o a = some u → ntb u := fun a u e => by
  by_cases hb : a = p
  · subst hb; rw [upd_same] at e; cases e; exact ho.1
  · rw [upd_ne hb] at e; exact h a u e
section
variable {K : PySem.W.Frag} {G H F : Hp} {m : M} {p a : Addr} {o : HO} {u : MO}
theorem Rep.free (r : Rep K G H F m) (h : H p = none) : G p = none := r.ext.free h
theorem Rep.mfree (r : Rep K G H F m) (h : H p = none) : m p = none := by
  cases q : m p with
  | none => rfl
  | some o =>
    obtain ⟨_, _, u, e, _⟩ := r.mo p o q
    rw [h] at e
    cases e
theorem Rep.froz (r : Rep K G H F m) (h : H p = none) (ho : okO o := by exact ⟨fun _ e => (by cases e), fun _ e => (by cases e)⟩) : Same G (upd G p o) ∧ Rep K (upd G p o) (upd H p o) F m := by
  have g := r.free h
  refine ⟨same_new g, fun b v e => ?_, fun b v e => ?_, fun b v e => ?_, fun b v e => ?_, Tabs.new r.tb h, ok_upd r.gt ho, r.ft⟩
  · by_cases hb : b = p
    · subst hb; rw [upd_same] at e ⊢; exact e
    · rw [upd_ne hb] at e ⊢; exact r.ext b v e
  · rw [upd_ne (ne_of_none (r.frm b v e) h)]; exact r.frm b v e
  · rw [upd_ne (ne_of_none (r.frm b v e) h)]; exact r.dis b v e
  · obtain ⟨h1, h2, u, h3, h4⟩ := r.mo b v e
    have hb : b ≠ p := ne_of_none h3 h
    exact ⟨by rw [upd_ne hb]; exact h1, h2, u, by rw [upd_ne hb]; exact h3, h4.mono (same_new g)⟩
theorem Rep.junk (r : Rep K G H F m) (h : H p = none) : Rep K G (upd H p o) F m := by
  refine ⟨same_mut r.ext (r.free h), fun b v e => ?_, r.dis, fun b v e => ?_, Tabs.new r.tb h, r.gt, r.ft⟩
  · rw [upd_ne (ne_of_none (r.frm b v e) h)]; exact r.frm b v e
  · obtain ⟨h1, h2, u, h3, h4⟩ := r.mo b v e
    exact ⟨h1, h2, u, by rw [upd_ne (ne_of_none h3 h)]; exact h3, h4⟩
theorem Rep.newm (r : Rep K G H F m) (h : H p = none) (hu : RpM K G u o) : Rep K G (upd H p o) F (mset m p u) := by
  refine ⟨same_mut r.ext (r.free h), fun b v e => ?_, r.dis, fun b v e => ?_, Tabs.new r.tb h, r.gt, r.ft⟩
  · rw [upd_ne (ne_of_none (r.frm b v e) h)]; exact r.frm b v e
  · by_cases hb : b = p
    · subst hb
      rw [mset_same] at e
      cases e
      exact ⟨r.free h, r.frm.free h, o, upd_same, hu⟩
    · rw [mset_ne hb] at e
      obtain ⟨h1, h2, w, h3, h4⟩ := r.mo b v e
      exact ⟨h1, h2, w, by rw [upd_ne hb]; exact h3, h4⟩
theorem Rep.write {v : MO} (r : Rep K G H F m) (h : m a = some v) (hu : RpM K G u o) : Rep K G (upd H a o) F (mset m a u) := by
  obtain ⟨g1, f1, w, h3, h4⟩ := r.mo a v h
  refine ⟨same_mut r.ext g1, fun b z e => ?_, r.dis, fun b z e => ?_, Tabs.upd r.tb h3 h4.okO, r.gt, r.ft⟩
  · have hb : b ≠ a := fun q => by rw [q, f1] at e; cases e
    rw [upd_ne hb]; exact r.frm b z e
  · by_cases hb : b = a
    · subst hb
      rw [mset_same] at e
      cases e
      exact ⟨g1, f1, o, upd_same, hu⟩
    · rw [mset_ne hb] at e
      obtain ⟨h1, h2, w, h3, h4⟩ := r.mo b z e
      exact ⟨h1, h2, w, by rw [upd_ne hb]; exact h3, h4⟩
theorem Rep.freeze {ds : List D} (r : Rep K G H F m) (h : m a = some (.lst ds)) : ∃ G', Same G G' ∧ Rep K G' H F (mdel m a) ∧ Rp K G' (.lst ds) (.ref a) := by
  obtain ⟨g1, f1, w, h3, h4⟩ := r.mo a _ h
  obtain ⟨vs, rfl, h4⟩ := h4.ofLst
  have sm : Same G (upd G a (.lst vs)) := same_new g1
  refine ⟨upd G a (.lst vs), sm, ⟨fun b z e => ?_, r.frm, fun b z e => by rw [upd_ne (fun q => by rw [q, f1] at e; cases e)]; exact r.dis b z e, fun b z e => ?_, r.tb, ok_upd r.gt ⟨fun _ e => (by cases e), fun _ e => (by cases e)⟩, r.ft⟩, .lst upd_same (h4.mono sm)⟩
  · by_cases hb : b = a
    · subst hb; rw [upd_same] at e; rw [h3]; exact e
    · rw [upd_ne hb] at e; exact r.ext b z e
  · by_cases hb : b = a
    · subst hb; rw [mdel_same] at e; cases e
    · rw [mdel_ne hb] at e
      obtain ⟨h1, h2, w, h5, h6⟩ := r.mo b z e
      exact ⟨by rw [upd_ne hb]; exact h1, h2, w, h5, h6.mono sm⟩
theorem Rep.freezeI {C : Addr} {fs : List (Str × D)} (r : Rep K G H F m) (h : m a = some (.ins C fs)) : ∃ G', Same G G' ∧ Rep K G' H F (mdel m a) ∧ Rp K G' (.ins C fs) (.ref a) := by
  obtain ⟨g1, f1, w, h3, h4⟩ := r.mo a _ h
  obtain ⟨dx, fv, rfl, h5⟩ := h4.ofIns
  have sm : Same G (upd G a (.ins C dx fv)) := same_new g1
  refine ⟨upd G a (.ins C dx fv), sm, ⟨fun b z e => ?_, r.frm, fun b z e => by rw [upd_ne (fun q => by rw [q, f1] at e; cases e)]; exact r.dis b z e, fun b z e => ?_, r.tb, ok_upd r.gt ⟨fun _ e => (by cases e), fun _ e => (by cases e)⟩, r.ft⟩, .ins upd_same (h5.mono sm)⟩
  · by_cases hb : b = a
    · subst hb; rw [upd_same] at e; rw [h3]; exact e
    · rw [upd_ne hb] at e; exact r.ext b z e
  · by_cases hb : b = a
    · subst hb; rw [mdel_same] at e; cases e
    · rw [mdel_ne hb] at e
      obtain ⟨h1, h2, w, h5, h6⟩ := r.mo b z e
      exact ⟨by rw [upd_ne hb]; exact h1, h2, w, h5, h6.mono sm⟩
end

section
variable {K : PySem.W.Frag} {G H F : Hp} {m : M} {p : Addr} {o u : HO}
theorem Rep.hide (r : Rep K G H F m) (h : H p = none) (ho : notT o := by exact ⟨fun _ e => (by cases e), fun _ e => (by cases e), fun _ e => (by cases e)⟩) : Rep K G (upd H p o) (upd F p o) m := by
  refine ⟨same_mut r.ext (r.free h), fun b v e => ?_, fun b v e => ?_, fun b v e => ?_, Tabs.new r.tb h, r.gt, nt_upd r.ft ho⟩
  · by_cases hb : b = p
    · subst hb; rw [upd_same] at e ⊢; exact e
    · rw [upd_ne hb] at e ⊢; exact r.frm b v e
  · by_cases hb : b = p
    · subst hb; exact r.free h
    · rw [upd_ne hb] at e; exact r.dis b v e
  · obtain ⟨h1, h2, w, h3, h4⟩ := r.mo b v e
    have hb : b ≠ p := ne_of_none h3 h
    exact ⟨h1, by rw [upd_ne hb]; exact h2, w, by rw [upd_ne hb]; exact h3, h4⟩
theorem Rep.turn (r : Rep K G H (upd F p o) m) (ho : notT u := by exact ⟨fun _ e => (by cases e), fun _ e => (by cases e), fun _ e => (by cases e)⟩) (hw : okO o := by exact ⟨fun _ e => (by cases e), fun _ e => (by cases e)⟩) : Rep K G (upd H p u) (upd F p u) m := by
  have g : G p = none := r.dis p o upd_same
  refine ⟨same_mut r.ext g, fun b v e => ?_, fun b v e => ?_, fun b v e => ?_, Tabs.upd r.tb (r.frm p o upd_same) hw, r.gt, fun a w e => ?_⟩
  · by_cases hb : b = p
    · subst hb; rw [upd_same] at e ⊢; exact e
    · rw [upd_ne hb] at e ⊢; exact r.frm b v (by rw [upd_ne hb]; exact e)
  · by_cases hb : b = p
    · subst hb; exact g
    · rw [upd_ne hb] at e; exact r.dis b v (by rw [upd_ne hb]; exact e)
  · obtain ⟨h1, h2, w, h3, h4⟩ := r.mo b v e
    have hb : b ≠ p := fun q => by rw [q, upd_same] at h2; cases h2
    rw [upd_ne hb] at h2
    exact ⟨h1, by rw [upd_ne hb]; exact h2, w, by rw [upd_ne hb]; exact h3, h4⟩
  · by_cases hb : a = p
    · subst hb; rw [upd_same] at e; cases e; exact ho
    · rw [upd_ne hb] at e; exact r.ft a w (by rw [upd_ne hb]; exact e)
theorem Rep.show (r : Rep K G H (upd F p o) m) (hF : F p = none) : Rep K G H F m := by
  refine ⟨r.ext, fun b v e => ?_, fun b v e => ?_, fun b v e => ?_, r.tb, r.gt, fun b v e => r.ft b v (by rw [upd_ne (fun q => by rw [q, hF] at e; cases e)]; exact e)⟩
  · exact r.frm b v (by rw [upd_ne (fun q => by rw [q, hF] at e; cases e)]; exact e)
  · exact r.dis b v (by rw [upd_ne (fun q => by rw [q, hF] at e; cases e)]; exact e)
  · obtain ⟨h1, h2, w, h3, h4⟩ := r.mo b v e
    have hb : b ≠ p := fun q => by rw [q, upd_same] at h2; cases h2
    rw [upd_ne hb] at h2
    exact ⟨h1, h2, w, h3, h4⟩
theorem Rep.outL {ds : List D} {vs : List V} (r : Rep K G H (upd F p (.lst vs)) m) (hF : F p = none) (rs : Rps K G ds vs) : Same G (upd G p (.lst vs)) ∧ Rep K (upd G p (.lst vs)) H F m ∧ Rp K (upd G p (.lst vs)) (.lst ds) (.ref p) := by
  have g : G p = none := r.dis p _ upd_same
  have sm : Same G (upd G p (.lst vs)) := same_new g
  refine ⟨sm, ⟨fun b v e => ?_, (r.show hF).frm, fun b v e => ?_, fun b v e => ?_, r.tb, ok_upd r.gt ⟨fun _ e => (by cases e), fun _ e => (by cases e)⟩, (r.show hF).ft⟩, .lst upd_same (rs.mono sm)⟩
  · by_cases hb : b = p
    · subst hb; rw [upd_same] at e; rw [← e]; exact r.frm _ _ upd_same
    · rw [upd_ne hb] at e; exact r.ext b v e
  · rw [upd_ne (fun q => by rw [q, hF] at e; cases e)]; exact (r.show hF).dis b v e
  · obtain ⟨h1, h2, w, h3, h4⟩ := r.mo b v e
    have hb : b ≠ p := fun q => by rw [q, upd_same] at h2; cases h2
    rw [upd_ne hb] at h2
    exact ⟨by rw [upd_ne hb]; exact h1, h2, w, h3, h4.mono sm⟩
theorem Rep.outM {ds : List D} {vs : List V} (r : Rep K G H (upd F p (.lst vs)) m) (hF : F p = none) (rs : Rps K G ds vs) : m p = none ∧ Rep K G H F (mset m p (.lst ds)) := by
  have g : G p = none := r.dis p _ upd_same
  have mp : m p = none := by
    cases q : m p with
    | none => rfl
    | some w =>
      obtain ⟨_, h2, _⟩ := r.mo p w q
      rw [upd_same] at h2
      cases h2
  refine ⟨mp, r.ext, (r.show hF).frm, (r.show hF).dis, fun b v e => ?_, r.tb, r.gt, (r.show hF).ft⟩
  by_cases hb : b = p
  · subst hb
    rw [mset_same] at e
    cases e
    exact ⟨g, hF, _, r.frm _ _ upd_same, rs⟩
  · rw [mset_ne hb] at e
    obtain ⟨h1, h2, w, h3, h4⟩ := r.mo b v e
    rw [upd_ne hb] at h2
    exact ⟨h1, h2, w, h3, h4⟩
end

theorem Rep.knowC {K : PySem.W.Frag} {G H F : Hp} {m : M} {c : Addr} {q : Str} (r : Rep K G H F m) (h : H c = some (LamX.CodeO c q)) : ∃ G', Same G G' ∧ Rep K G' H F m ∧ G' c = some (LamX.CodeO c q) := by
  cases e : G c with
  | some o =>
    have := r.ext c o e
    rw [h] at this
    cases this
    exact ⟨G, Same.refl G, r, e⟩
  | none =>
    have fq : F c = none := by
      cases z : F c with
      | none => rfl
      | some o =>
        have := r.frm c o z
        rw [h] at this
        cases this
        exact absurd rfl ((r.ft c _ z).2.2 _)
    have sm : Same G (upd G c (LamX.CodeO c q)) := same_new e
    refine ⟨upd G c (LamX.CodeO c q), sm, ⟨fun b v z => ?_, r.frm, fun b v z => ?_, fun b v z => ?_, r.tb, fun b v z => ?_, r.ft⟩, upd_same⟩
    · by_cases hb : b = c
      · subst hb; rw [upd_same] at z; rw [← z]; exact h
      · rw [upd_ne hb] at z; exact r.ext b v z
    · rw [upd_ne (fun y => by rw [y, fq] at z; cases z)]; exact r.dis b v z
    · obtain ⟨h1, h2, w, h3, h4⟩ := r.mo b v z
      have hb : b ≠ c := fun y => by
        rw [y, h] at h3
        cases h3
        exact h4.okO.2 _ rfl
      exact ⟨by rw [upd_ne hb]; exact h1, h2, w, h3, h4.mono sm⟩
    · by_cases hb : b = c
      · subst hb; rw [upd_same] at z; cases z; exact fun ps => LamX.codeO_ne ps
      · rw [upd_ne hb] at z; exact r.gt b v z

abbrev DSt := List (Option D)
structure Rs (K : PySem.W.Frag) (G : Hp) (r : DSt) (s : L2.St) : Prop where
  len : r.length = s.length
  at_ : ∀ (i : Nat) (d : D), r[i]? = some (some d) → ∃ v, s[i]? = some (some v) ∧ Rp K G d v
section
variable {K : PySem.W.Frag} {G G' : Hp} {r : DSt} {s : L2.St}
theorem Rs.mono (e : Same G G') (h : Rs K G r s) : Rs K G' r s := ⟨h.len, fun i d q => by
  obtain ⟨v, h1, h2⟩ := h.at_ i d q
  exact ⟨v, h1, h2.mono e⟩⟩
theorem Rs.set (h : Rs K G r s) {i : Nat} {d : D} {v : V} (q : Rp K G d v) : Rs K G (r.set i (some d)) (s.set i (some v)) := ⟨by simp [h.len], fun j e hj => by
  by_cases hi : i = j
  · subst hi
    by_cases hl : i < r.length
    · rw [List.getElem?_set_self hl] at hj
      cases hj
      exact ⟨v, by rw [List.getElem?_set_self (by rw [← h.len]; exact hl)], q⟩
    · rw [List.getElem?_eq_none (by simp; omega)] at hj
      cases hj
  · rw [List.getElem?_set_ne hi] at hj ⊢
    exact h.at_ j e hj⟩
theorem Rs.setG (h : Rs K G r s) {i : Nat} {d : D} (hv : ∀ v, s[i]? = some (some v) → Rp K G d v) (hs : ∃ v : V, s[i]? = some (some v)) : Rs K G (r.set i (some d)) s := ⟨by simp [h.len], fun j e hj => by
  by_cases hi : i = j
  · subst hi
    by_cases hl : i < r.length
    · rw [List.getElem?_set_self hl] at hj
      cases hj
      obtain ⟨v, q⟩ := hs
      exact ⟨v, q, hv v q⟩
    · rw [List.getElem?_eq_none (by simp; omega)] at hj
      cases hj
  · rw [List.getElem?_set_ne hi] at hj
    exact h.at_ j e hj⟩
end
end DL

set_option Elab.async false
set_option linter.all false
set_option maxRecDepth 100000
set_option maxHeartbeats 4000000
namespace DL
open PySem PySem.Spec PyProof.Rows L2

abbrev DTE := DSt → M → (D → M → Prop) → Prop
abbrev DTT := DSt → M → (Bool → M → Prop) → Prop
abbrev DTA := DSt → M → (List D → M → Prop) → Prop
abbrev DO := DSt → M → (Option Int → M → Prop) → Prop
structure XD where
  C : Addr
  fs : List (Str × D)
abbrev DWX := XD → DSt → M → Prop
def RpX (K : PySem.W.Frag) (G : Hp) (d : Option Addr) (fs : List (Str × D)) : Prop := (d = none ∧ fs = []) ∨ ∃ dd fv, d = some dd ∧ G dd = some (.xd fv) ∧ Rpf K G fs fv
theorem RpX.mono {K : PySem.W.Frag} {G G' : Hp} {d : Option Addr} {fs : List (Str × D)} (e : Same G G') (h : RpX K G d fs) : RpX K G' d fs := by
  rcases h with h | ⟨dd, fv, h1, h2, h3⟩
  · exact .inl h
  · exact .inr ⟨dd, fv, h1, e _ _ h2, h3.mono e⟩
def Lx (K : PySem.W.Frag) (W : WX) (WD : DWX) (G F : Hp) : Prop :=
  ∀ (G' H' : Hp) (m' : M) (r' : DSt) (s' : L2.St) (C : Addr) (fs : List (Str × D)) (d : Option Addr), Same G G' → Rep K G' H' F m' → Rs K G' r' s' → RpX K G' d fs → WD ⟨C, fs⟩ r' m' → W (.ref C) d s' H'
theorem Lx.mono {K : PySem.W.Frag} {W : WX} {WD : DWX} {G G' F : Hp} (e : Same G G') (h : Lx K W WD G F) : Lx K W WD G' F := fun G2 H2 m2 r2 s2 C fs d e2 => h G2 H2 m2 r2 s2 C fs d (e.trans e2)
theorem Lx.no {K : PySem.W.Frag} {W : WX} {G F : Hp} : Lx K W (fun _ _ _ => False) G F := fun _ _ _ _ _ _ _ _ _ _ _ _ h => h.elim
def Kv (K : PySem.W.Frag) (G F : Hp) (QD : D → M → Prop) (Q : VK) : Prop := ∀ (G' H' : Hp) (m' : M) (d : D) (v : V), Same G G' → Rep K G' H' F m' → Rp K G' d v → QD d m' → Q v H'
theorem Kv.mono {K : PySem.W.Frag} {G G' F : Hp} {QD : D → M → Prop} {Q : VK} (e : Same G G') (h : Kv K G F QD Q) : Kv K G' F QD Q := fun G2 H2 m2 d v e2 => h G2 H2 m2 d v (e.trans e2)
structure Sx (K : PySem.W.Frag) (W : WX) (WD : DWX) (G H F : Hp) (r : DSt) (s : L2.St) (m : M) : Prop where
  rep : Rep K G H F m
  rs : Rs K G r s
  lx : Lx K W WD G F
theorem Sx.step {K : PySem.W.Frag} {W : WX} {WD : DWX} {G G' H H' F : Hp} {r : DSt} {s : L2.St} {m m' : M} (x : Sx K W WD G H F r s m) (e : Same G G') (h : Rep K G' H' F m') : Sx K W WD G' H' F r s m' := ⟨h, x.rs.mono e, x.lx.mono e⟩
def up (K : PySem.W.Frag) (W : WX) (WD : DWX) (t : DTE) : TE := fun σ H Q => ∃ (G F : Hp) (r : DSt) (m : M) (QD : D → M → Prop), Sx K W WD G H F r σ m ∧ t r m QD ∧ Kv K G F QD Q
def upT (K : PySem.W.Frag) (W : WX) (WD : DWX) (t : DTT) : TT := fun σ H Q => ∃ (G F : Hp) (r : DSt) (m : M) (QD : Bool → M → Prop), Sx K W WD G H F r σ m ∧ t r m QD ∧ ∀ G' H' m' b, Same G G' → Rep K G' H' F m' → QD b m' → Q b H'
def upA (K : PySem.W.Frag) (W : WX) (WD : DWX) (t : DTA) : TA := fun σ H Q => ∃ (G F : Hp) (r : DSt) (m : M) (QD : List D → M → Prop), Sx K W WD G H F r σ m ∧ t r m QD ∧ ∀ G' H' m' ds vs, Same G G' → Rep K G' H' F m' → Rps K G' ds vs → QD ds m' → Q vs H'
def upO (K : PySem.W.Frag) (W : WX) (WD : DWX) (t : DO) : TO := fun σ H Q => ∃ (G F : Hp) (r : DSt) (m : M) (QD : Option Int → M → Prop), Sx K W WD G H F r σ m ∧ t r m QD ∧ ∀ G' H' m' o, Same G G' → Rep K G' H' F m' → QD o m' → Q o H'
abbrev DE (X : Cx) (W : WX) (WD : DWX) (e : Expr) (t : DTE) : Prop := PE X e (up X.K W WD t)
abbrev DT (X : Cx) (W : WX) (WD : DWX) (e : Expr) (t : DTT) : Prop := PT X e (upT X.K W WD t)
abbrev DW (X : Cx) (W : WX) (WD : DWX) (e : Expr) (t : DTT) : Prop := PW X e (upT X.K W WD t)
abbrev DA (X : Cx) (W : WX) (WD : DWX) (es : List Expr) (t : DTA) : Prop := PA X es (upA X.K W WD t)
abbrev DOp (X : Cx) (W : WX) (WD : DWX) (e : Option Expr) (t : DO) : Prop := PO X e (upO X.K W WD t)
section
variable {X : Cx} {e : Expr}
theorem PE.imp {t t' : TE} (h : PE X e t) (i : ∀ σ H Q, t' σ H Q → t σ H Q) : PE X e t' := ⟨fun pins s σ H Q I q => h.run pins s σ H Q I (i σ H Q q)⟩
theorem PT.imp {t t' : TT} (h : PT X e t) (i : ∀ σ H Q, t' σ H Q → t σ H Q) : PT X e t' := ⟨fun pins s σ H Q I q => h.run pins s σ H Q I (i σ H Q q)⟩
theorem PW.imp {t t' : TT} (h : PW X e t) (i : ∀ σ H Q, t' σ H Q → t σ H Q) : PW X e t' := ⟨fun wh pins s σ H Q I q => h.run wh pins s σ H Q I (i σ H Q q)⟩
theorem PA.imp {es : List Expr} {t t' : TA} (h : PA X es t) (i : ∀ σ H Q, t' σ H Q → t σ H Q) : PA X es t' := ⟨fun pos pins s σ H Q I q => h.run pos pins s σ H Q I (i σ H Q q)⟩
theorem PO.imp {e : Option Expr} {t t' : TO} (h : PO X e t) (i : ∀ σ H Q, t' σ H Q → t σ H Q) : PO X e t' := ⟨fun pins s σ H Q I q => h.run pins s σ H Q I (i σ H Q q)⟩
end

def slot : DSt → Nat → Option D
  | [], _ => none
  | x :: _, 0 => x
  | _ :: r, n + 1 => slot r n
theorem slot_get : ∀ {r : DSt} {i : Nat} {d : D}, slot r i = some d → r[i]? = some (some d)
  | [], _, _, e => nomatch e
  | x :: r, 0, d, e => by
    have e' : x = some d := e
    rw [e']; rfl
  | x :: r, i + 1, d, e => by
    have := slot_get (r := r) (i := i) (d := d) e
    simpa using this
def dVar (i : Nat) : DTE := fun r m Q => ∃ d, slot r i = some d ∧ Q d m
def dC (d : D) : DTE := fun _ m Q => Q d m
section
variable {X : Cx} {W : WX} {WD : DWX} {pos : Pos}
theorem up_var {K : PySem.W.Frag} {i : Nat} {σ : L2.St} {H : Hp} {Q : VK} (h : up K W WD (dVar i) σ H Q) : tVar i σ H Q := by
  obtain ⟨G, F, r, m, QD, x, ⟨d, e, t⟩, k⟩ := h
  obtain ⟨v, e1, rv⟩ := x.rs.at_ i d (slot_get e)
  exact ⟨v, e1, k G H m d v (Same.refl G) x.rep rv t⟩
theorem up_c {K : PySem.W.Frag} {d : D} {v : V} {σ : L2.St} {H : Hp} {Q : VK} (hv : ∀ G, Rp K G d v) (h : up K W WD (dC d) σ H Q) : tC v σ H Q := by
  obtain ⟨G, F, r, m, QD, x, t, k⟩ := h
  exact k G H m d v (Same.refl G) x.rep (hv G) t
theorem dv (i : Nat) {x : Str} (hN : X.N[i]? = some x := by rfl) (hv : Vis X.env.scope x := by first | exact Or.inl rfl | exact Or.inr (Or.inl rfl) | exact Or.inr (Or.inr rfl)) (hd : (x == ("__debug__" : Str)) = false := by decide)
    (hcd : (x == ("__classdict__" : Str)) = false := by decide) : DE X W WD (.Name x pos) (dVar i) := PE.imp (pv i hN hv hd hcd) fun _ _ _ h => up_var h
theorem de_int {i j} : DE X W WD (.Constant (.int i) j pos) (dC (.int i)) := PE.imp pe_int fun _ _ _ h => up_c (fun _ => .int i) h
theorem de_bl {b j} : DE X W WD (.Constant (.bool b) j pos) (dC (.bl b)) := PE.imp pe_bl fun _ _ _ h => up_c (fun _ => .bl b) h
theorem de_non {j} : DE X W WD (.Constant .none j pos) (dC .non) := PE.imp pe_non fun _ _ _ h => up_c (fun _ => .non) h
theorem de_str {x j} : DE X W WD (.Constant (.str x) j pos) (dC (.str x)) := PE.imp pe_str fun _ _ _ h => up_c (fun _ => .str x) h
theorem de_globI {x : Str} {i : Int} (hg : Gl X x) (hm : ∃ t, X.mg x = some (.int i t)) (hd : (x == ("__debug__" : Str)) = false := by decide) : DE X W WD (.Name x pos) (dC (.int i)) := by
  obtain ⟨t, hm⟩ := hm
  exact PE.imp (pe_glob (v := .int i) hg hm ⟨t, rfl⟩ hd) fun _ _ _ h => up_c (fun _ => .int i) h
theorem de_globS {x z : Str} (hg : Gl X x) (hm : ∃ t, X.mg x = some (.str z t)) (hd : (x == ("__debug__" : Str)) = false := by decide) : DE X W WD (.Name x pos) (dC (.str z)) := by
  obtain ⟨t, hm⟩ := hm
  exact PE.imp (pe_glob (v := .str z) hg hm ⟨t, rfl⟩ hd) fun _ _ _ h => up_c (fun _ => .str z) h
theorem de_globR {x : Str} {a : Addr} (hg : Gl X x) (hm : X.mg x = some (.ref a)) (hd : (x == ("__debug__" : Str)) = false := by decide) : DE X W WD (.Name x pos) (dC (.ref a)) :=
  PE.imp (pe_glob (v := .ref a) hg hm rfl hd) fun _ _ _ h => up_c (fun _ => .ref a) h
theorem de_ty {x : Str} {T : String} (hg : Gl X x) (hm : X.mg x = none) (hv : bootBuiltins x = some (.type T)) (hn : x ≠ "__name__" := by decide) (hd : (x == ("__debug__" : Str)) = false := by decide) : DE X W WD (.Name x pos) (dC (.ty T)) :=
  PE.imp (pe_bltn (v := .ty T) hg hm hv rfl hn hd) fun _ _ _ h => up_c (fun _ => .ty T) h
end

abbrev DR2 := D → D → M → (D → M → Prop) → Prop
def OpD (K : PySem.W.Frag) (r : R2) (rd : DR2) : Prop :=
  ∀ (G H F : Hp) (m : M) (x y : D) (vx vy : V) (QD : D → M → Prop) (Q : VK), Rep K G H F m → Rp K G x vx → Rp K G y vy → rd x y m QD → Kv K G F QD Q → r vx vy H Q
def dOp (rd : DR2) (ta tb : DTE) : DTE := fun r m Q => ta r m fun x m1 => tb r m1 fun y m2 => rd x y m2 Q
theorem up_op {K : PySem.W.Frag} {W : WX} {WD : DWX} {r : R2} {rd : DR2} {ta tb : DTE} {σ : L2.St} {H : Hp} {Q : VK} (hd : OpD K r rd) (h : up K W WD (dOp rd ta tb) σ H Q) : tOp r (up K W WD ta) (up K W WD tb) σ H Q := by
  obtain ⟨G, F, ρ, m, QD, x, t, k⟩ := h
  refine ⟨G, F, ρ, m, _, x, t, fun G1 H1 m1 d1 v1 e1 r1 p1 t1 => ?_⟩
  refine ⟨G1, F, ρ, m1, _, x.step e1 r1, t1, fun G2 H2 m2 d2 v2 e2 r2 p2 t2 => ?_⟩
  exact hd G2 H2 F m2 d1 d2 v1 v2 QD Q r2 (p1.mono e2) p2 t2 (k.mono (e1.trans e2))
abbrev DR1 := D → M → (D → M → Prop) → Prop
def UnD (K : PySem.W.Frag) (r : V → Hp → VK → Prop) (rd : DR1) : Prop :=
  ∀ (G H F : Hp) (m : M) (x : D) (vx : V) (QD : D → M → Prop) (Q : VK), Rep K G H F m → Rp K G x vx → rd x m QD → Kv K G F QD Q → r vx H Q
def dUn (rd : DR1) (ta : DTE) : DTE := fun r m Q => ta r m fun x m1 => rd x m1 Q
theorem up_un {K : PySem.W.Frag} {W : WX} {WD : DWX} {r : V → Hp → VK → Prop} {rd : DR1} {ta : DTE} {σ : L2.St} {H : Hp} {Q : VK} (hd : UnD K r rd) (h : up K W WD (dUn rd ta) σ H Q) : tUn r (up K W WD ta) σ H Q := by
  obtain ⟨G, F, ρ, m, QD, x, t, k⟩ := h
  exact ⟨G, F, ρ, m, _, x, t, fun G1 H1 m1 d1 v1 e1 r1 p1 t1 => hd G1 H1 F m1 d1 v1 QD Q r1 p1 t1 (k.mono e1)⟩
theorem Kv.here {K : PySem.W.Frag} {G H F : Hp} {m : M} {QD : D → M → Prop} {Q : VK} {d : D} {v : V} (k : Kv K G F QD Q) (r : Rep K G H F m) (p : Rp K G d v) (q : QD d m) : Q v H := k G H m d v (Same.refl G) r p q
def mkL (mt : Bool) (ds : List D) (m : M) (Q : D → M → Prop) : Prop := match mt with
  | true => ∀ p, m p = none → Q (.ref p) (mset m p (.lst ds))
  | false => Q (.lst ds) m
theorem mkL_ok {K : PySem.W.Frag} {G H F : Hp} {m : M} {QD : D → M → Prop} {Q : VK} {mt : Bool} {ds : List D} {vs : List V} {p : Addr} (k : Kv K G F QD Q) (r : Rep K G H F m) (rs : Rps K G ds vs) (h : H p = none) (q : mkL mt ds m QD) : Q (.ref p) (upd H p (.lst vs)) := by
  cases mt with
  | false =>
    obtain ⟨e, r1⟩ := r.froz (o := .lst vs) h
    exact k _ _ m (.lst ds) _ e r1 (.lst upd_same (rs.mono e)) q
  | true => exact k _ _ _ (.ref p) _ (Same.refl G) (r.newm (u := .lst ds) (o := .lst vs) h rs) (.ref p) (q p (r.mfree h))
theorem mkT_ok {K : PySem.W.Frag} {G H F : Hp} {m : M} {QD : D → M → Prop} {Q : VK} {ds : List D} {vs : List V} {p : Addr} (k : Kv K G F QD Q) (r : Rep K G H F m) (rs : Rps K G ds vs) (h : H p = none) (q : QD (.tup ds) m) : Q (.ref p) (upd H p (.tup vs)) := by
  obtain ⟨e, r1⟩ := r.froz (o := .tup vs) h
  exact k _ _ m (.tup ds) _ e r1 (.tup (TpK.of upd_same) (rs.mono e)) q

def MulOk (i j : Int) : Prop := CMul i j ∨ CMulW i j
def dAdd (mt : Bool) : DR2
  | .int i, .int j, m, Q => Q (.int (i + j)) m
  | .str a, .str b, m, Q => a.length + b.length ≤ sizeLine ∧ Q (.str (a ++ b)) m
  | .lst a, .lst b, m, Q => a.length + b.length ≤ sizeLine ∧ mkL mt (a ++ b) m Q
  | .ref a, .lst b, m, Q => ∃ xs, m a = some (.lst xs) ∧ xs.length + b.length ≤ sizeLine ∧ mkL mt (xs ++ b) m Q
  | _, _, _, _ => False
def dSub : DR2
  | .int i, .int j, m, Q => Q (.int (i - j)) m
  | _, _, _, _ => False
def dMul (mt : Bool) : DR2
  | .int i, .int j, m, Q => MulOk i j ∧ Q (.int (i * j)) m
  | .lst a, .int k, m, Q => (-(2 ^ 63) ≤ k ∧ k < 2 ^ 63) ∧ a.length * k.toNat ≤ sizeLine ∧ mkL mt (List.replicate k.toNat a).flatten m Q
  | _, _, _, _ => False
def dDiv : DR2
  | .int i, .int j, m, Q => CDivW i j ∧ Q (.int (i / j)) m
  | _, _, _, _ => False
def dMod : DR2
  | .int i, .int j, m, Q => 0 < j ∧ Q (.int (i % j)) m
  | _, _, _, _ => False
def dPow : DR2
  | .int i, .int j, m, Q => CPow i j ∧ Q (.int (i ^ j.toNat)) m
  | _, _, _, _ => False
def dNeg : DR1
  | .int i, m, Q => Q (.int (-i)) m
  | _, _, _ => False
section
variable {K : PySem.W.Frag} {X : Cx} {W : WX} {WD : DWX} {a b : Expr} {ta tb : DTE} {pos : Pos}
def rAddA (K : PySem.W.Frag) : R2 := fun x y H Q => rI0 (fun i j => .int (i + j)) x y H Q ∨ (∃ i j, x = .str i ∧ y = .str j ∧ i.length + j.length ≤ sizeLine ∧ Q (.str (i ++ j)) H) ∨ rCat x y H Q
theorem op_addA : OpR X (binaryOp .Add) (rAddA X.K) := op_add.or (op_add_str.or op_cat)
theorem od_add (mt : Bool) : OpD K (rAddA K) (dAdd mt) := by
  intro G H F m x y vx vy QD Q r px py t k
  cases x with
  | int i => cases y with
    | int j => cases px; cases py; exact .inl ⟨i, j, rfl, rfl, k.here r (.int _) t⟩
    | _ => exact t.elim
  | str i => cases y with
    | str j => cases px; cases py; exact .inr (.inl ⟨i, j, rfl, rfl, t.1, k.here r (.str _) t.2⟩)
    | _ => exact t.elim
  | lst xs => cases y with
    | lst ys =>
      cases px with | lst h1 r1 => cases py with | lst h2 r2 =>
      refine .inr (.inr ⟨_, _, _, _, rfl, rfl, r.ext _ _ h1, r.ext _ _ h2, by rw [← r1.length, ← r2.length]; exact t.1, fun p hp => ?_⟩)
      exact mkL_ok k r (r1.append r2) hp t.2
    | _ => exact t.elim
  | ref a => cases y with
    | lst ys =>
      cases px; cases py with | lst h2 r2 =>
      obtain ⟨xs, hm, hz, t⟩ := t
      obtain ⟨_, _, u, h1, h4⟩ := r.mo a _ hm
      obtain ⟨vs, rfl, r1⟩ := h4.ofLst
      refine .inr (.inr ⟨_, _, _, _, rfl, rfl, h1, r.ext _ _ h2, by rw [← r1.length, ← r2.length]; exact hz, fun p hp => ?_⟩)
      exact mkL_ok k r (r1.append r2) hp t
    | _ => exact t.elim
  | _ => exact t.elim
theorem od_I {C : Int → Int → Prop} {g : Int → Int → Int} {rd : DR2} (h1 : ∀ i j m Q, rd (.int i) (.int j) m Q → C i j ∧ Q (.int (g i j)) m) (h2 : ∀ x y m Q, rd x y m Q → ∃ i j, x = .int i ∧ y = .int j) : OpD K (rI C fun i j => .int (g i j)) rd := by
  intro G H F m x y vx vy QD Q r px py t k
  obtain ⟨i, j, rfl, rfl⟩ := h2 _ _ _ _ t
  cases px; cases py
  exact ⟨i, j, rfl, rfl, (h1 _ _ _ _ t).1, k.here r (.int _) (h1 _ _ _ _ t).2⟩
theorem od_I0 {g : Int → Int → Int} {rd : DR2} (h1 : ∀ i j m Q, rd (.int i) (.int j) m Q → Q (.int (g i j)) m) (h2 : ∀ x y m Q, rd x y m Q → ∃ i j, x = .int i ∧ y = .int j) : OpD K (rI0 fun i j => .int (g i j)) rd := by
  intro G H F m x y vx vy QD Q r px py t k
  obtain ⟨i, j, rfl, rfl⟩ := h2 _ _ _ _ t
  cases px; cases py
  exact ⟨i, j, rfl, rfl, k.here r (.int _) (h1 _ _ _ _ t)⟩
theorem od_sub : OpD K (rI0 fun i j => .int (i - j)) dSub := od_I0 (fun _ _ _ _ h => h) fun x y _ _ h => by
  cases x <;> cases y <;> first | exact ⟨_, _, rfl, rfl⟩ | exact h.elim
theorem od_div : OpD K (rI CDivW fun i j => .int (i / j)) dDiv := od_I (fun _ _ _ _ h => h) fun x y _ _ h => by
  cases x <;> cases y <;> first | exact ⟨_, _, rfl, rfl⟩ | exact h.elim
theorem od_mod : OpD K (rI (fun _ j => 0 < j) fun i j => .int (i % j)) dMod := od_I (fun _ _ _ _ h => h) fun x y _ _ h => by
  cases x <;> cases y <;> first | exact ⟨_, _, rfl, rfl⟩ | exact h.elim
theorem od_pow : OpD K (rI CPow fun i j => .int (i ^ j.toNat)) dPow := od_I (fun _ _ _ _ h => h) fun x y _ _ h => by
  cases x <;> cases y <;> first | exact ⟨_, _, rfl, rfl⟩ | exact h.elim
def rMulA : R2 := fun x y H Q => rI CMul (fun i j => .int (i * j)) x y H Q ∨ rI CMulW (fun i j => .int (i * j)) x y H Q ∨ rRep x y H Q
theorem op_mulA : OpR X (binaryOp .Mult) rMulA := op_mul.or (op_mulW.or op_rep)
theorem flat_rep {G : Hp} {ds : List D} {vs : List V} (h : Rps K G ds vs) : ∀ n : Nat, Rps K G (List.replicate n ds).flatten (List.replicate n vs).flatten
  | 0 => .nil
  | n + 1 => by
    rw [List.replicate_succ, List.replicate_succ, List.flatten_cons, List.flatten_cons]
    exact h.append (flat_rep h n)
theorem od_mul (mt : Bool) : OpD K rMulA (dMul mt) := by
  intro G H F m x y vx vy QD Q r px py t k
  cases x with
  | int i => cases y with
    | int j =>
      cases px; cases py
      rcases t.1 with c | c
      · exact .inl ⟨i, j, rfl, rfl, c, k.here r (.int _) t.2⟩
      · exact .inr (.inl ⟨i, j, rfl, rfl, c, k.here r (.int _) t.2⟩)
    | _ => exact t.elim
  | lst xs => cases y with
    | int j =>
      cases py
      cases px with | lst h1 r1 =>
      obtain ⟨⟨t1, t2⟩, t3, t4⟩ := t
      refine .inr (.inr ⟨_, j, _, rfl, rfl, r.ext _ _ h1, t1, t2, by rw [← r1.length]; exact t3, fun p hp => ?_⟩)
      exact mkL_ok k r (flat_rep r1 _) hp t4
    | _ => exact t.elim
  | _ => exact t.elim
theorem ud_neg : UnD K (rU fun i => .int (-i)) dNeg := by
  intro G H F m x vx QD Q r px t k
  cases x with
  | int i => cases px; exact ⟨i, rfl, k.here r (.int _) t⟩
  | _ => exact t.elim
theorem de_add (mt : Bool) (ha : DE X W WD a ta) (hb : DE X W WD b tb) : DE X W WD (.BinOp a .Add b pos) (dOp (dAdd mt) ta tb) := PE.imp (pe_op op_addA ha hb) fun _ _ _ h => up_op (od_add mt) h
theorem de_sub (ha : DE X W WD a ta) (hb : DE X W WD b tb) : DE X W WD (.BinOp a .Sub b pos) (dOp dSub ta tb) := PE.imp (pe_op op_sub ha hb) fun _ _ _ h => up_op od_sub h
theorem de_mul (mt : Bool) (ha : DE X W WD a ta) (hb : DE X W WD b tb) : DE X W WD (.BinOp a .Mult b pos) (dOp (dMul mt) ta tb) := PE.imp (pe_op op_mulA ha hb) fun _ _ _ h => up_op (od_mul mt) h
theorem de_div (ha : DE X W WD a ta) (hb : DE X W WD b tb) : DE X W WD (.BinOp a .FloorDiv b pos) (dOp dDiv ta tb) := PE.imp (pe_op op_fdivW ha hb) fun _ _ _ h => up_op od_div h
theorem de_mod (ha : DE X W WD a ta) (hb : DE X W WD b tb) : DE X W WD (.BinOp a .Mod b pos) (dOp dMod ta tb) := PE.imp (pe_op op_mod ha hb) fun _ _ _ h => up_op od_mod h
theorem de_pow (ha : DE X W WD a ta) (hb : DE X W WD b tb) : DE X W WD (.BinOp a .Pow b pos) (dOp dPow ta tb) := PE.imp (pe_op op_pow ha hb) fun _ _ _ h => up_op od_pow h
theorem de_neg (ha : DE X W WD a ta) : DE X W WD (.UnaryOp .USub a pos) (dUn dNeg ta) := PE.imp (pe_un un_neg ha) fun _ _ _ h => up_un ud_neg h
end

mutual
def toP : D → Option PyData
  | .non => some .none
  | .bl b => some (.bool b)
  | .int i => some (.int i)
  | .str x => some (.str x)
  | .lst xs => (toPs xs).map .list
  | .rdl xs => (toPs xs).map .list
  | .tup xs => (toPs xs).map .tuple
  | .ty _ => none
  | .ref _ => none
  | .ins _ _ => none
  | .exn _ _ _ => none
  | .dki _ => none
  | .dti _ => none
  | .clo _ _ _ _ _ => none
  | .obj _ _ => none
def toPs : List D → Option (List PyData)
  | [] => some []
  | x :: xs => (toP x).bind fun d => (toPs xs).map fun ds => d :: ds
end
mutual
theorem dp_of {K : PySem.W.Frag} {G : Hp} : ∀ (d : D) (p : PyData) (v : V), toP d = some p → Rp K G d v → Dp K G v p
  | .non, p, v, e, r => by cases e; cases r; exact .non
  | .bl b, p, v, e, r => by cases e; cases r; exact .bl b
  | .int i, p, v, e, r => by cases e; cases r; exact .int i
  | .str x, p, v, e, r => by cases e; cases r; exact .str x
  | .lst xs, p, v, e, r => by
    unfold toP at e
    cases q : toPs xs with
    | none => rw [q] at e; cases e
    | some ps =>
      rw [q] at e; cases e
      cases r with | lst h1 r1 => exact .lst (SqL.of h1) (dps_of xs ps _ q r1)
  | .rdl xs, p, v, e, r => by
    unfold toP at e
    cases q : toPs xs with
    | none => rw [q] at e; cases e
    | some ps =>
      rw [q] at e; cases e
      cases r with | rdl h1 r1 => exact .lst h1 (dps_of xs ps _ q r1)
  | .tup xs, p, v, e, r => by
    unfold toP at e
    cases q : toPs xs with
    | none => rw [q] at e; cases e
    | some ps =>
      rw [q] at e; cases e
      cases r with | tup h1 r1 => exact .tup h1 (dps_of xs ps _ q r1)
  | .ty _, p, v, e, r => by unfold toP at e; cases e
  | .ref _, p, v, e, r => by unfold toP at e; cases e
  | .ins _ _, p, v, e, r => by unfold toP at e; cases e
  | .exn _ _ _, p, v, e, r => by unfold toP at e; cases e
  | .dki _, p, v, e, r => by unfold toP at e; cases e
  | .dti _, p, v, e, r => by unfold toP at e; cases e
  | .clo _ _ _ _ _, p, v, e, r => by unfold toP at e; cases e
  | .obj _ _, p, v, e, r => by unfold toP at e; cases e
theorem dps_of {K : PySem.W.Frag} {G : Hp} : ∀ (ds : List D) (ps : List PyData) (vs : List V), toPs ds = some ps → Rps K G ds vs → DpAll K G vs ps
  | [], ps, vs, e, r => by unfold toPs at e; cases e; cases r; exact .nil
  | x :: xs, ps, vs, e, r => by
    unfold toPs at e
    cases q : toP x with
    | none => rw [q] at e; cases e
    | some d =>
      rw [q] at e
      cases q2 : toPs xs with
      | none => rw [q2] at e; cases e
      | some ds =>
        rw [q2] at e; cases e
        cases r with | cons r1 r2 => exact .cons (dp_of x d _ q r1) (dps_of xs ds _ q2 r2)
end
mutual
theorem Dp.same {K : PySem.W.Frag} {G H : Hp} (e : Same G H) : ∀ {v : V} {p : PyData}, Dp K G v p → Dp K H v p
  | _, _, .non => .non
  | _, _, .bl b => .bl b
  | _, _, .int i => .int i
  | _, _, .str x => .str x
  | _, _, .lst h r => .lst (e.seq h) (DpAll.same e r)
  | _, _, .tup h r => .tup (same_sqt e h) (DpAll.same e r)
theorem DpAll.same {K : PySem.W.Frag} {G H : Hp} (e : Same G H) : ∀ {v : List V} {p : List PyData}, DpAll K G v p → DpAll K H v p
  | _, _, .nil => .nil
  | _, _, .cons a b => .cons (Dp.same e a) (DpAll.same e b)
end
def datOf (m : M) : D → Option PyData
  | .ref a => (m a).bind fun o => match o with
    | .lst xs => (toPs xs).map .list
    | _ => none
  | d => toP d
theorem dat_ok {K : PySem.W.Frag} {G H F : Hp} {m : M} {d : D} {v : V} {p : PyData} (r : Rep K G H F m) (h : Rp K G d v) (e : datOf m d = some p) : Dp K H v p := by
  cases d with
  | ref a =>
    cases h
    dsimp only [datOf] at e
    cases q : m a with
    | none => rw [q] at e; cases e
    | some o =>
      rw [q] at e
      cases o with
      | lst xs =>
        obtain ⟨_, _, u, h3, h4⟩ := r.mo a _ q
        obtain ⟨vs, rfl, h4⟩ := h4.ofLst
        have e2 : (toPs xs).map PyData.list = some p := e
        cases q2 : toPs xs with
        | none => rw [q2] at e2; cases e2
        | some ps =>
          rw [q2] at e2; cases e2
          exact .lst (SqL.of h3) (DpAll.same r.ext (dps_of xs ps vs q2 h4))
      | _ => cases e
  | _ => exact Dp.same r.ext (dp_of _ p v e h)
def dEqB : D → D → Option Bool
  | .int i, .int j => some (decide (i = j))
  | .str i, .str j => some (decide (i = j))
  | .bl i, .bl j => some (decide (i = j))
  | .non, .non => some true
  | .non, .int _ => some false
  | .int _, .non => some false
  | .non, .str _ => some false
  | .str _, .non => some false
  | .non, .bl _ => some false
  | .bl _, .non => some false
  | .int _, .str _ => some false
  | .str _, .int _ => some false
  | _, _ => none
def dEq : DR2 := fun x y m Q => match dEqB x y with
  | some b => Q (.bl b) m
  | none => ∃ p q, datOf m x = some p ∧ datOf m y = some q ∧ SeqAt.shaped p = true ∧ SeqAt.shaped q = true ∧ Q (.bl (PyData.eqv p q)) m
def dNe : DR2 := fun x y m Q => match dEqB x y with
  | some b => Q (.bl (!b)) m
  | none => ∃ p q, datOf m x = some p ∧ datOf m y = some q ∧ SeqAt.shaped p = true ∧ SeqAt.shaped q = true ∧ Q (.bl (!PyData.eqv p q)) m
section
variable {K : PySem.W.Frag} {X : Cx} {W : WX} {WD : DWX} {a b c : Expr} {ta tb tc : DTE} {pos : Pos}
theorem dEqB_scal {G : Hp} {x y : D} {vx vy : V} {b : Bool} (h : dEqB x y = some b) (px : Rp K G x vx) (py : Rp K G y vy) : scal vx vy = true ∧ decide (vx = vy) = b := by
  cases x <;> cases y <;> first
    | (cases px; cases py; cases h; constructor
       · rfl
       · first | rfl | (simp))
    | cases h
def rEqA (K : PySem.W.Frag) : R2 := fun x y H Q => rEq x y H Q ∨ rEqD K x y H Q
def rNeA (K : PySem.W.Frag) : R2 := fun x y H Q => rNe x y H Q ∨ rNeD K x y H Q
theorem od_eq : OpD K (rEqA K) dEq := by
  intro G H F m x y vx vy QD Q r px py t k
  unfold dEq at t
  cases e : dEqB x y with
  | some b =>
    rw [e] at t
    obtain ⟨h1, h2⟩ := dEqB_scal e px py
    exact .inl ⟨h1, by rw [h2]; exact k.here r (.bl _) t⟩
  | none =>
    rw [e] at t
    obtain ⟨p, q, e1, e2, s1, s2, t⟩ := t
    exact .inr ⟨p, q, dat_ok r px e1, dat_ok r py e2, s1, s2, k.here r (.bl _) t⟩
theorem od_ne : OpD K (rNeA K) dNe := by
  intro G H F m x y vx vy QD Q r px py t k
  unfold dNe at t
  cases e : dEqB x y with
  | some b =>
    rw [e] at t
    obtain ⟨h1, h2⟩ := dEqB_scal e px py
    exact .inl ⟨h1, by rw [h2]; exact k.here r (.bl _) t⟩
  | none =>
    rw [e] at t
    obtain ⟨p, q, e1, e2, s1, s2, t⟩ := t
    exact .inr ⟨p, q, dat_ok r px e1, dat_ok r py e2, s1, s2, k.here r (.bl _) t⟩
theorem op_eqA (hu : X.A.units + 64 < cLine) : OpR X (compareOp .Eq) (rEqA X.K) := op_eq.or (op_eqD hu)
theorem op_neA (hu : X.A.units + 64 < cLine) : OpR X (compareOp .NotEq) (rNeA X.K) := op_ne.or (op_neD hu)
def dCmpI (f : Int → Int → Bool) : DR2
  | .int i, .int j, m, Q => Q (.bl (f i j)) m
  | _, _, _, _ => False
theorem od_cmpI {f : Int → Int → Bool} : OpD K (rI0 fun i j => .bl (f i j)) (dCmpI f) := by
  intro G H F m x y vx vy QD Q r px py t k
  cases x with
  | int i => cases y with
    | int j => cases px; cases py; exact ⟨i, j, rfl, rfl, k.here r (.bl _) t⟩
    | _ => exact t.elim
  | _ => exact t.elim
abbrev dLt : DR2 := dCmpI fun i j => decide (i < j)
abbrev dLe : DR2 := dCmpI fun i j => decide (i ≤ j)
abbrev dGt : DR2 := dCmpI fun i j => decide (j < i)
abbrev dGe : DR2 := dCmpI fun i j => decide (j ≤ i)
def dIsN : DR2 := fun x y m Q => y = .non ∧ (match x with
  | .non => Q (.bl true) m
  | _ => Q (.bl false) m)
def dNotN : DR2 := fun x y m Q => y = .non ∧ (match x with
  | .non => Q (.bl false) m
  | _ => Q (.bl true) m)
theorem od_isN : OpD K (fun x y H Q => y = .non ∧ Q (.bl (decide (x = .non))) H) dIsN := by
  intro G H F m x y vx vy QD Q r px py t k
  obtain ⟨rfl, t⟩ := t
  cases py
  refine ⟨rfl, ?_⟩
  cases px <;> exact k.here r (.bl _) t
theorem de_cmp {op : CmpOp} {r : R2} {rd : DR2} (ho : OpR X (compareOp op) r) (hd : OpD X.K r rd) (ha : DE X W WD a ta) (hb : DE X W WD b tb) (hm : behindInMarks op b = false) : DE X W WD (.Compare a [op] [b] pos) (dOp rd ta tb) :=
  PE.imp (pe_cmpR ho ha hb hm) fun _ _ _ h => up_op hd h
def dTest (t : DTE) : DTT := fun r m Q => t r m fun d m1 => ∃ b, d = .bl b ∧ Q b m1
theorem upT_test {K : PySem.W.Frag} {t : DTE} {σ : L2.St} {H : Hp} {Q : Bool → Hp → Prop} (h : upT K W WD (dTest t) σ H Q) : tTest (up K W WD t) σ H Q := by
  obtain ⟨G, F, ρ, m, QD, x, t, k⟩ := h
  refine ⟨G, F, ρ, m, _, x, t, fun G1 H1 m1 d1 v1 e1 r1 p1 t1 => ?_⟩
  obtain ⟨b, rfl, t2⟩ := t1
  cases p1
  exact ⟨b, rfl, k G1 H1 m1 b e1 r1 t2⟩
theorem tTest_imp {t t' : TE} {σ : L2.St} {H : Hp} {Q : Bool → Hp → Prop} (h : tTest t' σ H Q) (i : ∀ Q, t' σ H Q → t σ H Q) : tTest t σ H Q := i _ h
theorem dt_cmp {op : CmpOp} {r : R2} {rd : DR2} (ho : OpR X (compareOp op) r) (hd : OpD X.K r rd) (ha : DE X W WD a ta) (hb : DE X W WD b tb) (hm : behindInMarks op b = false) : DT X W WD (.Compare a [op] [b] pos) (dTest (dOp rd ta tb)) :=
  PT.imp (pt_cmpR ho ha hb hm) fun _ _ _ h => tTest_imp (upT_test h) fun _ q => up_op hd q
def dChain (rd rd' : DR2) (ta tb tc : DTE) : DTE := fun r m Q => ta r m fun x m1 => tb r m1 fun y m2 => rd x y m2 fun z m3 => ∃ k, z = .bl k ∧ (if k = true then tc r m3 fun w m4 => rd' y w m4 Q else Q (.bl false) m3)
theorem up_chain {K : PySem.W.Frag} {r r' : R2} {rd rd' : DR2} {ta tb tc : DTE} {σ : L2.St} {H : Hp} {Q : VK} (hd : OpD K r rd) (hd' : OpD K r' rd') (h : up K W WD (dChain rd rd' ta tb tc) σ H Q) : tChain r r' (up K W WD ta) (up K W WD tb) (up K W WD tc) σ H Q := by
  obtain ⟨G, F, ρ, m, QD, x, t, k⟩ := h
  refine ⟨G, F, ρ, m, _, x, t, fun G1 H1 m1 d1 v1 e1 r1 p1 t1 => ?_⟩
  refine ⟨G1, F, ρ, m1, _, x.step e1 r1, t1, fun G2 H2 m2 d2 v2 e2 r2 p2 t2 => ?_⟩
  refine hd G2 H2 F m2 d1 d2 v1 v2 _ _ r2 (p1.mono e2) p2 t2 fun G3 H3 m3 d3 v3 e3 r3 p3 t3 => ?_
  obtain ⟨b, rfl, t4⟩ := t3
  cases p3
  refine ⟨b, rfl, ?_⟩
  cases b with
  | false => exact k G3 H3 m3 _ _ ((e1.trans e2).trans e3) r3 (.bl _) t4
  | true =>
    refine ⟨G3, F, ρ, m3, _, x.step ((e1.trans e2).trans e3) r3, t4, fun G4 H4 m4 d4 v4 e4 r4 p4 t5 => ?_⟩
    exact hd' G4 H4 F m4 d2 d4 v2 v4 QD Q r4 (p2.mono (e3.trans e4)) p4 t5 (k.mono (((e1.trans e2).trans e3).trans e4))
theorem dt_chain {op op' : CmpOp} {r r' : R2} {rd rd' : DR2} (ho : OpR X (compareOp op) r) (hd : OpD X.K r rd) (ho' : OpR X (compareOp op') r') (hd' : OpD X.K r' rd') (ha : DE X W WD a ta) (hb : DE X W WD b tb) (hc : DE X W WD c tc)
    (hm : lastMarks [op, op'] [b, c] = false := by with_unfolding_all rfl) : DT X W WD (.Compare a [op, op'] [b, c] pos) (dTest (dChain rd rd' ta tb tc)) := PT.imp (pt_chain ho ho' ha hb hc hm) fun _ _ _ h => tTest_imp (upT_test h) fun _ q => up_chain hd hd' q
end
def dTruB (m : M) : D → Option Bool
  | .non => some false
  | .bl b => some b
  | .int i => some (i != 0)
  | .str z => if z.length ≤ sizeLine then some ((z.length : Int) != 0) else none
  | .lst xs => some (!xs.isEmpty)
  | .rdl xs => some (!xs.isEmpty)
  | .tup xs => some (!xs.isEmpty)
  | .ref a => (m a).bind fun o => match o with
    | .lst xs => some (!xs.isEmpty)
    | _ => none
  | _ => none
def dTru (t : DTE) : DTT := fun r m Q => t r m fun d m1 => ∃ b, dTruB m1 d = some b ∧ Q b m1
theorem isEmpty_rps {K : PySem.W.Frag} {G : Hp} {ds : List D} {vs : List V} (h : Rps K G ds vs) : ds.isEmpty = vs.isEmpty := by cases h <;> rfl
theorem tru_of {K : PySem.W.Frag} {G H F : Hp} {m : M} {d : D} {v : V} {b : Bool} (r : Rep K G H F m) (p : Rp K G d v) (e : dTruB m d = some b) : TruV K v H b := by
  cases d with
  | non => cases p; cases e; exact rfl
  | bl x => cases p; cases e; exact rfl
  | int i => cases p; cases e; exact rfl
  | str z =>
    cases p
    dsimp only [dTruB] at e
    by_cases hz : z.length ≤ sizeLine
    · rw [if_pos hz] at e; cases e; exact ⟨hz, rfl⟩
    · rw [if_neg hz] at e; cases e
  | lst xs => cases p with | lst h1 r1 => cases e; exact .inl ⟨_, SqL.of (r.ext _ _ h1), by rw [isEmpty_rps r1]⟩
  | rdl xs => cases p with | rdl h1 r1 => cases e; exact .inl ⟨_, r.ext.seq h1, by rw [isEmpty_rps r1]⟩
  | tup xs => cases p with | tup h1 r1 => cases e; exact .inr (.inl ⟨_, same_sqt r.ext h1, by rw [isEmpty_rps r1]⟩)
  | ref a =>
    cases p
    dsimp only [dTruB] at e
    cases q : m a with
    | none => rw [q] at e; cases e
    | some o =>
      rw [q] at e
      cases o with
      | lst xs =>
        obtain ⟨_, _, u, h3, h4⟩ := r.mo a _ q
        obtain ⟨vs, rfl, h4⟩ := h4.ofLst
        cases e
        exact .inl ⟨_, SqL.of h3, by rw [isEmpty_rps h4]⟩
      | _ => cases e
  | _ => cases e
section
variable {X : Cx} {W : WX} {WD : DWX} {a b : Expr} {ta tb : DTE} {pos : Pos} {t u : DTT} {rest : List Expr}
theorem dt_tru (ha : DE X W WD a ta) (he : ∀ whole, isTrue a X.env whole = (do let v ← whole; standAt a.pos; holding [v] (truthy v)) := by intro _; rfl) : DT X W WD a (dTru ta) := by
  refine PT.imp (pt_truth ha he) fun σ H Q h => ?_
  obtain ⟨G, F, ρ, m, QD, x, t, k⟩ := h
  refine ⟨G, F, ρ, m, _, x, t, fun G1 H1 m1 d1 v1 e1 r1 p1 t1 => ?_⟩
  obtain ⟨b, e, t2⟩ := t1
  exact ⟨b, tru_of r1 p1 e, k G1 H1 m1 b e1 r1 t2⟩
def dAnd (t u : DTT) : DTT := fun r m Q => t r m fun c m1 => if c = true then u r m1 Q else Q false m1
def dOr (t u : DTT) : DTT := fun r m Q => t r m fun c m1 => if c = true then Q true m1 else u r m1 Q
def dNot (t : DTT) : DTT := fun r m Q => t r m fun c m1 => Q (!c) m1
theorem dw_and1 (ha : DT X W WD a t) : DW X W WD (.BoolOp .And [a] pos) t := pw_and1 ha
theorem dw_or1 (ha : DT X W WD a t) : DW X W WD (.BoolOp .Or [a] pos) t := pw_or1 ha
theorem dw_and (ha : DT X W WD a t) (hb : DW X W WD (.BoolOp .And (b :: rest) pos) u) : DW X W WD (.BoolOp .And (a :: b :: rest) pos) (dAnd t u) := by
  refine PW.imp (pw_and ha hb) fun σ H Q h => ?_
  obtain ⟨G, F, ρ, m, QD, x, t, k⟩ := h
  refine ⟨G, F, ρ, m, _, x, t, fun G1 H1 m1 b e1 r1 t1 => ?_⟩
  cases b with
  | false => exact k G1 H1 m1 false e1 r1 t1
  | true => exact ⟨G1, F, ρ, m1, QD, x.step e1 r1, t1, fun G2 H2 m2 b e2 r2 t2 => k G2 H2 m2 b (e1.trans e2) r2 t2⟩
theorem dw_or (ha : DT X W WD a t) (hb : DW X W WD (.BoolOp .Or (b :: rest) pos) u) : DW X W WD (.BoolOp .Or (a :: b :: rest) pos) (dOr t u) := by
  refine PW.imp (pw_or ha hb) fun σ H Q h => ?_
  obtain ⟨G, F, ρ, m, QD, x, t, k⟩ := h
  refine ⟨G, F, ρ, m, _, x, t, fun G1 H1 m1 b e1 r1 t1 => ?_⟩
  cases b with
  | true => exact k G1 H1 m1 true e1 r1 t1
  | false => exact ⟨G1, F, ρ, m1, QD, x.step e1 r1, t1, fun G2 H2 m2 b e2 r2 t2 => k G2 H2 m2 b (e1.trans e2) r2 t2⟩
theorem dt_w (h : DW X W WD a t) : DT X W WD a t := PW.pt h
theorem dt_not (ha : DT X W WD a t) : DT X W WD (.UnaryOp .Not a pos) (dNot t) := by
  refine PT.imp (pt_not ha) fun σ H Q h => ?_
  obtain ⟨G, F, ρ, m, QD, x, t, k⟩ := h
  exact ⟨G, F, ρ, m, _, x, t, fun G1 H1 m1 b e1 r1 t1 => k G1 H1 m1 (!b) e1 r1 t1⟩
def dAndV (ta tb : DTE) : DTE := fun r m Q => ta r m fun d m1 => ∃ c, d = .bl c ∧ if c = true then tb r m1 Q else Q (.bl false) m1
def dOrV (ta tb : DTE) : DTE := fun r m Q => ta r m fun d m1 => ∃ c, d = .bl c ∧ if c = true then Q (.bl true) m1 else tb r m1 Q
def dNotV (ta : DTE) : DTE := fun r m Q => ta r m fun d m1 => ∃ c, d = .bl c ∧ Q (.bl (!c)) m1
theorem de_one {op} (h : DE X W WD a ta) : DE X W WD (.BoolOp op [a] pos) ta := pe_one h
theorem de_and (ha : DE X W WD a ta) (hb : DE X W WD (.BoolOp .And (b :: rest) pos) tb) : DE X W WD (.BoolOp .And (a :: b :: rest) pos) (dAndV ta tb) := by
  refine PE.imp (pe_and ha hb) fun σ H Q h => ?_
  obtain ⟨G, F, ρ, m, QD, x, t, k⟩ := h
  refine ⟨G, F, ρ, m, _, x, t, fun G1 H1 m1 d1 v1 e1 r1 p1 t1 => ?_⟩
  obtain ⟨c, rfl, t2⟩ := t1
  cases p1
  refine ⟨c, rfl, ?_⟩
  cases c with
  | true => exact ⟨G1, F, ρ, m1, QD, x.step e1 r1, t2, k.mono e1⟩
  | false => exact k G1 H1 m1 _ _ e1 r1 (.bl _) t2
theorem de_or (ha : DE X W WD a ta) (hb : DE X W WD (.BoolOp .Or (b :: rest) pos) tb) : DE X W WD (.BoolOp .Or (a :: b :: rest) pos) (dOrV ta tb) := by
  refine PE.imp (pe_or ha hb) fun σ H Q h => ?_
  obtain ⟨G, F, ρ, m, QD, x, t, k⟩ := h
  refine ⟨G, F, ρ, m, _, x, t, fun G1 H1 m1 d1 v1 e1 r1 p1 t1 => ?_⟩
  obtain ⟨c, rfl, t2⟩ := t1
  cases p1
  refine ⟨c, rfl, ?_⟩
  cases c with
  | false => exact ⟨G1, F, ρ, m1, QD, x.step e1 r1, t2, k.mono e1⟩
  | true => exact k G1 H1 m1 _ _ e1 r1 (.bl _) t2
def dIf (t : DTT) (ta tb : DTE) : DTE := fun r m Q => t r m fun c m1 => if c = true then ta r m1 Q else tb r m1 Q
theorem de_ifExp {c : Expr} (hc : DT X W WD c t) (ha : DE X W WD a ta) (hb : DE X W WD b tb) : DE X W WD (.IfExp c a b pos) (dIf t ta tb) := by
  refine PE.imp (pe_ifExp hc ha hb) fun σ H Q h => ?_
  obtain ⟨G, F, ρ, m, QD, x, t, k⟩ := h
  refine ⟨G, F, ρ, m, _, x, t, fun G1 H1 m1 b e1 r1 t1 => ?_⟩
  cases b with
  | true => exact ⟨G1, F, ρ, m1, QD, x.step e1 r1, t1, k.mono e1⟩
  | false => exact ⟨G1, F, ρ, m1, QD, x.step e1 r1, t1, k.mono e1⟩
end
end DL

set_option Elab.async false
set_option linter.all false
set_option maxRecDepth 100000
set_option maxHeartbeats 4000000
namespace DL
open PySem PySem.Spec PyProof.Rows L2

def daNil : DTA := fun _ m Q => Q [] m
def daCons (ta : DTE) (tr : DTA) : DTA := fun r m Q => ta r m fun x m1 => tr r m1 fun xs m2 => Q (x :: xs) m2
section
variable {X : Cx} {W : WX} {WD : DWX} {e : Expr} {es : List Expr} {te : DTE} {t : DTA} {pos : Pos}
theorem da_nil : DA X W WD [] daNil := by
  refine PA.imp pa_nil fun σ H Q h => ?_
  obtain ⟨G, F, ρ, m, QD, x, t, k⟩ := h
  exact k G H m [] [] (Same.refl G) x.rep .nil t
theorem da_cons (ha : DE X W WD e te) (hr : DA X W WD es t) (hs : starEach (e :: es) X.env = (false, eval e X.env) :: starEach es X.env := by rfl) : DA X W WD (e :: es) (daCons te t) := by
  refine PA.imp (pa_cons ha hr hs) fun σ H Q h => ?_
  obtain ⟨G, F, ρ, m, QD, x, t, k⟩ := h
  refine ⟨G, F, ρ, m, _, x, t, fun G1 H1 m1 d1 v1 e1 r1 p1 t1 => ?_⟩
  exact ⟨G1, F, ρ, m1, _, x.step e1 r1, t1, fun G2 H2 m2 ds vs e2 r2 p2 t2 => k G2 H2 m2 (d1 :: ds) (v1 :: vs) (e1.trans e2) r2 (.cons (p1.mono e2) p2) t2⟩
def dTup (t : DTA) : DTE := fun r m Q => t r m fun xs m1 => xs.length ≤ sizeLine ∧ Q (.tup xs) m1
def dLst (mt : Bool) (t : DTA) : DTE := fun r m Q => t r m fun xs m1 => xs.length ≤ sizeLine ∧ mkL mt xs m1 Q
theorem de_tup {x1} (h : DA X W WD es t) : DE X W WD (.Tuple es x1 pos) (dTup t) := by
  refine PE.imp (pe_tup h) fun σ H Q h => ?_
  obtain ⟨G, F, ρ, m, QD, x, t, k⟩ := h
  refine ⟨G, F, ρ, m, _, x, t, fun G1 H1 m1 ds vs e1 r1 p1 t1 => ⟨by rw [← p1.length]; exact t1.1, fun p hp => ?_⟩⟩
  exact mkT_ok (k.mono e1) r1 p1 hp t1.2
theorem de_lst (mt : Bool) (h : DA X W WD es t) : DE X W WD (.List es pos) (dLst mt t) := by
  refine PE.imp (pe_lst h) fun σ H Q h => ?_
  obtain ⟨G, F, ρ, m, QD, x, t, k⟩ := h
  refine ⟨G, F, ρ, m, _, x, t, fun G1 H1 m1 ds vs e1 r1 p1 t1 => ⟨by rw [← p1.length]; exact t1.1, fun p hp => ?_⟩⟩
  exact mkL_ok (k.mono e1) r1 p1 hp t1.2
end

def lsOf (m : M) : D → Option (List D)
  | .lst xs => some xs
  | .rdl xs => some xs
  | .ref a => (m a).bind fun o => match o with
    | .lst xs => some xs
    | _ => none
  | _ => none
theorem lsOf_ref {m : M} {a : Addr} {xs : List D} (h : m a = some (.lst xs)) : lsOf m (.ref a) = some xs := by
  dsimp only [lsOf]; rw [h]; rfl
theorem ls_ok {K : PySem.W.Frag} {G H F : Hp} {m : M} {d : D} {v : V} {xs : List D} (r : Rep K G H F m) (p : Rp K G d v) (e : lsOf m d = some xs) : ∃ a vs, v = .ref a ∧ SqL K H a vs ∧ Rps K G xs vs := by
  cases d with
  | lst ys => cases e; cases p with | lst h1 r1 => exact ⟨_, _, rfl, SqL.of (r.ext _ _ h1), r1⟩
  | rdl ys => cases e; cases p with | rdl h1 r1 => exact ⟨_, _, rfl, r.ext.seq h1, r1⟩
  | ref a =>
    cases p
    dsimp only [lsOf] at e
    cases q : m a with
    | none => rw [q] at e; cases e
    | some o =>
      rw [q] at e
      cases o with
      | lst zs =>
        obtain ⟨_, _, u, h3, h4⟩ := r.mo a _ q
        obtain ⟨vs, rfl, h4⟩ := h4.ofLst
        cases e
        exact ⟨_, _, rfl, SqL.of h3, h4⟩
      | _ => cases e
  | _ => cases e
def sqOf (m : M) : D → Option (List D)
  | .tup xs => some xs
  | d => lsOf m d
theorem sq_ok {K : PySem.W.Frag} {G H F : Hp} {m : M} {d : D} {v : V} {xs : List D} (r : Rep K G H F m) (p : Rp K G d v) (e : sqOf m d = some xs) : ∃ a vs, v = .ref a ∧ (SqL K H a vs ∨ SqT K H a vs) ∧ Rps K G xs vs := by
  cases d with
  | tup ys => cases e; cases p with | tup h1 r1 => exact ⟨_, _, rfl, .inr (same_sqt r.ext h1), r1⟩
  | _ =>
    obtain ⟨a, vs, h1, h2, h3⟩ := ls_ok r p e
    exact ⟨a, vs, h1, .inl h2, h3⟩
theorem rps_atI {K : PySem.W.Frag} {G : Hp} {ds : List D} {vs : List V} {i : Int} {d : D} (r : Rps K G ds vs) (h : atI ds i = some d) : ∃ v, atI vs i = some v ∧ Rp K G d v := by
  unfold atI at h ⊢
  rw [← r.length]
  cases q : ixN ds.length i with
  | none => rw [q] at h; cases h
  | some j =>
    rw [q] at h
    exact r.get (i := j) h
def dIx : DR2 := fun x y m Q => ∃ i, y = .int i ∧ match x with
  | .str z => z.length ≤ sizeLine ∧ ∃ c, atI z.cps.toList i = some c ∧ Q (.str ⟨#[c]⟩) m
  | x => ∃ xs d, sqOf m x = some xs ∧ atI xs i = some d ∧ Q d m
section
variable {K : PySem.W.Frag} {X : Cx} {W : WX} {WD : DWX} {a b e : Expr} {ta tb te : DTE} {pos : Pos}
theorem od_ix : OpD K (rIx K) dIx := by
  intro G H F m x y vx vy QD Q r px py t k
  obtain ⟨i, rfl, t⟩ := t
  cases py
  have go : (∃ xs d, sqOf m x = some xs ∧ atI xs i = some d ∧ QD d m) → rIx K vx (.int i) H Q := by
    rintro ⟨xs, d, e, h, t⟩
    obtain ⟨a, vs, rfl, hs, rs⟩ := sq_ok r px e
    obtain ⟨v, h1, h2⟩ := rps_atI rs h
    rcases hs with hs | hs
    · exact .inl ⟨a, vs, i, v, rfl, rfl, hs, h1, k.here r h2 t⟩
    · exact .inr (.inl ⟨a, vs, i, v, rfl, rfl, hs, h1, k.here r h2 t⟩)
  cases x with
  | str z =>
    cases px
    obtain ⟨hz, c, hc, t⟩ := t
    exact .inr (.inr ⟨z, i, c, rfl, rfl, hz, hc, k.here r (.str _) t⟩)
  | _ => exact go t
theorem de_ix (ha : DE X W WD a ta) (hb : DE X W WD b tb) (hs : PlainIx b := by intro _ _; rfl) : DE X W WD (.Subscript a b pos) (dOp dIx ta tb) := PE.imp (pe_ix ix_seq ha hb hs) fun _ _ _ h => up_op od_ix h
def doNone : DO := fun _ m Q => Q none m
def doSome (t : DTE) : DO := fun r m Q => t r m fun d m1 => ∃ i, d = .int i ∧ Q (some i) m1
theorem do_none : DOp X W WD none doNone := by
  refine PO.imp po_none fun σ H Q h => ?_
  obtain ⟨G, F, ρ, m, QD, x, t, k⟩ := h
  exact k G H m none (Same.refl G) x.rep t
theorem do_some (h : DE X W WD e te) : DOp X W WD (some e) (doSome te) := by
  refine PO.imp (po_some h) fun σ H Q h => ?_
  obtain ⟨G, F, ρ, m, QD, x, t, k⟩ := h
  refine ⟨G, F, ρ, m, _, x, t, fun G1 H1 m1 d1 v1 e1 r1 p1 t1 => ?_⟩
  obtain ⟨i, rfl, t2⟩ := t1
  cases p1
  exact ⟨i, rfl, k G1 H1 m1 (some i) e1 r1 t2⟩
def cutD {α : Type} (xs : List α) (lo hi : Option Int) : List α := (xs.drop (HT.sIx xs.length 0 lo)).take (HT.sIx xs.length xs.length hi - HT.sIx xs.length 0 lo)
theorem cut_rps {G : Hp} {ds : List D} {vs : List V} (r : Rps K G ds vs) (lo hi : Option Int) : Rps K G (cutD ds lo hi) (cutV vs lo hi) := by
  unfold cutD cutV
  rw [r.length]
  exact (r.drop _).take _
def dSl (mt : Bool) (x : D) (lo hi : Option Int) (m : M) (Q : D → M → Prop) : Prop := match x with
  | .str z => z.length ≤ sizeLine ∧ Q (.str (cutS z lo hi)) m
  | .tup xs => ¬ (HT.sIx xs.length 0 lo = 0 ∧ HT.sIx xs.length xs.length hi = xs.length) ∧ Q (.tup (cutD xs lo hi)) m
  | x => ∃ xs, lsOf m x = some xs ∧ mkL mt (cutD xs lo hi) m Q
def rSlA (K : PySem.W.Frag) : V → Option Int → Option Int → Hp → VK → Prop := fun x lo hi H Q => rSlL K x lo hi H Q ∨ rSlT K x lo hi H Q ∨ rSlS x lo hi H Q
theorem sl_any : SlR X (rSlA X.K) := sl_list.or (sl_tup.or sl_str)
theorem sl_ok {G H F : Hp} {m : M} {x : D} {vx : V} {mt : Bool} {lo hi : Option Int} {QD : D → M → Prop} {Q : VK} (r : Rep K G H F m) (px : Rp K G x vx) (t : dSl mt x lo hi m QD) (k : Kv K G F QD Q) : rSlA K vx lo hi H Q := by
  have go : (∃ xs, lsOf m x = some xs ∧ mkL mt (cutD xs lo hi) m QD) → rSlA K vx lo hi H Q := by
    rintro ⟨xs, e, t⟩
    obtain ⟨a, vs, rfl, hs, rs⟩ := ls_ok r px e
    exact .inl ⟨a, vs, rfl, hs, fun p hp => mkL_ok k r (cut_rps rs lo hi) hp t⟩
  cases x with
  | str z => cases px; exact .inr (.inr ⟨z, rfl, t.1, k.here r (.str _) t.2⟩)
  | tup xs =>
    cases px with | tup h1 r1 =>
    refine .inr (.inl ⟨_, _, rfl, same_sqt r.ext h1, by rw [← r1.length]; exact t.1, fun p hp => mkT_ok k r (cut_rps r1 lo hi) hp t.2⟩)
  | _ => exact go t
def dSlice (mt : Bool) (te : DTE) (tl th : DO) : DTE := fun r m Q => te r m fun x m1 => tl r m1 fun l m2 => th r m2 fun u m3 => dSl mt x l u m3 Q
theorem de_slice (mt : Bool) {lo hi : Option Expr} {tl th : DO} {p2 : Pos} (he : DE X W WD e te) (hl : DOp X W WD lo tl) (hu : DOp X W WD hi th) : DE X W WD (.Subscript e (.Slice lo hi none p2) pos) (dSlice mt te tl th) := by
  refine PE.imp (pe_slice sl_any he hl hu) fun σ H Q h => ?_
  obtain ⟨G, F, ρ, m, QD, x, t, k⟩ := h
  refine ⟨G, F, ρ, m, _, x, t, fun G1 H1 m1 d1 v1 e1 r1 p1 t1 => ?_⟩
  refine ⟨G1, F, ρ, m1, _, x.step e1 r1, t1, fun G2 H2 m2 l e2 r2 t2 => ?_⟩
  refine ⟨G2, F, ρ, m2, _, x.step (e1.trans e2) r2, t2, fun G3 H3 m3 u e3 r3 t3 => ?_⟩
  exact sl_ok r3 (p1.mono (e2.trans e3)) t3 (k.mono ((e1.trans e2).trans e3))
def flatD : D → Bool
  | .non => true
  | .bl _ => true
  | .int _ => true
  | .str _ => true
  | _ => false
def eqD : D → D → Bool
  | .non, .non => true
  | .bl a, .bl b => a == b
  | .bl a, .int b => (if a then 1 else 0) == b
  | .int a, .bl b => a == (if b then 1 else 0)
  | .int a, .int b => a == b
  | .str a, .str b => a == b
  | _, _ => false
def inD (x : D) (xs : List D) : Bool := xs.any fun y => eqD y x
theorem flat_ok {G : Hp} {d : D} {v : V} (p : Rp K G d v) (h : flatD d = true) : flatV v = true := by
  cases p <;> first | rfl | cases h
theorem eqD_ok {G : Hp} {d e : D} {v u : V} (p : Rp K G d v) (q : Rp K G e u) (h : flatD d = true) (h2 : flatD e = true) : eqV v u = eqD d e := by
  cases p <;> first | (cases q <;> first | rfl | cases h2) | cases h
theorem flats_ok {G : Hp} : ∀ {ds : List D} {vs : List V}, Rps K G ds vs → ds.all flatD = true → vs.all flatV = true
  | _, _, .nil, _ => rfl
  | _, _, .cons r t, h => by
    rw [List.all_cons, Bool.and_eq_true] at h ⊢
    exact ⟨flat_ok r h.1, flats_ok t h.2⟩
theorem inD_ok {G : Hp} {x : D} {vx : V} (p : Rp K G x vx) (hx : flatD x = true) : ∀ {ds : List D} {vs : List V}, Rps K G ds vs → ds.all flatD = true → inV vx vs = inD x ds
  | _, _, .nil, _ => rfl
  | _, _, .cons (d := d) (v := v) r t, h => by
    rw [List.all_cons, Bool.and_eq_true] at h
    have ih := inD_ok p hx t h.2
    unfold inV inD at ih ⊢
    rw [List.any_cons, List.any_cons, ih, eqD_ok r p h.1 hx]
def dIn (neg : Bool) : DR2 := fun x y m Q => match x, y with
  | .str i, .str j => Q (.bl (if neg then !(!(Builtin.Str.occurrences j i 0 j.length 1).isEmpty) else !(Builtin.Str.occurrences j i 0 j.length 1).isEmpty)) m
  | x, y => ∃ xs, sqOf m y = some xs ∧ flatD x = true ∧ xs.all flatD = true ∧ Q (.bl (if neg then !inD x xs else inD x xs)) m
def rInA (K : PySem.W.Frag) : R2 := fun x y H Q => (∃ i j, x = .str i ∧ y = .str j ∧ Q (.bl (!(Builtin.Str.occurrences j i 0 j.length 1).isEmpty)) H) ∨ rIn K false x y H Q
def rNotInA (K : PySem.W.Frag) : R2 := fun x y H Q => (∃ i j, x = .str i ∧ y = .str j ∧ Q (.bl (!(!(Builtin.Str.occurrences j i 0 j.length 1).isEmpty))) H) ∨ rIn K true x y H Q
theorem op_inA : OpR X (compareOp .In) (rInA X.K) := op_in_str.or op_in_seq
theorem op_notInA : OpR X (compareOp .NotIn) (rNotInA X.K) := op_notin_str.or op_notIn_seq
theorem in_go {G H F : Hp} {m : M} {x y : D} {vx vy : V} {neg : Bool} {QD : D → M → Prop} {Q : VK} (r : Rep K G H F m) (px : Rp K G x vx) (py : Rp K G y vy) (k : Kv K G F QD Q)
    (t : ∃ xs, sqOf m y = some xs ∧ flatD x = true ∧ xs.all flatD = true ∧ QD (.bl (if neg then !inD x xs else inD x xs)) m) : rIn K neg vx vy H Q := by
  obtain ⟨xs, e, f1, f2, t⟩ := t
  obtain ⟨a, vs, rfl, hs, rs⟩ := sq_ok r py e
  refine ⟨a, vs, rfl, hs, flat_ok px f1, flats_ok rs f2, ?_⟩
  rw [inD_ok px f1 rs f2]
  exact k.here r (.bl _) t
theorem od_in : OpD K (rInA K) (dIn false) := by
  intro G H F m x y vx vy QD Q r px py t k
  cases x with
  | str i => cases y with
    | str j => cases px; cases py; exact .inl ⟨i, j, rfl, rfl, k.here r (.bl _) t⟩
    | _ => exact .inr (in_go r px py k t)
  | _ => exact .inr (in_go r px py k t)
theorem od_notIn : OpD K (rNotInA K) (dIn true) := by
  intro G H F m x y vx vy QD Q r px py t k
  cases x with
  | str i => cases y with
    | str j => cases px; cases py; exact .inl ⟨i, j, rfl, rfl, k.here r (.bl _) t⟩
    | _ => exact .inr (in_go r px py k t)
  | _ => exact .inr (in_go r px py k t)
end
abbrev DRC := List D → M → (D → M → Prop) → Prop
def CallD (K : PySem.W.Frag) (r : List V → Hp → VK → Prop) (rd : DRC) : Prop :=
  ∀ (G H F : Hp) (m : M) (ds : List D) (vs : List V) (QD : D → M → Prop) (Q : VK), Rep K G H F m → Rps K G ds vs → rd ds m QD → Kv K G F QD Q → r vs H Q
def dCB (rd : DRC) (t : DTA) : DTE := fun r m Q => t r m fun ds m1 => rd ds m1 Q
theorem up_cb {K : PySem.W.Frag} {W : WX} {WD : DWX} {r : List V → Hp → VK → Prop} {rd : DRC} {t : DTA} {σ : L2.St} {H : Hp} {Q : VK} (hd : CallD K r rd) (h : up K W WD (dCB rd t) σ H Q) : tCB r (upA K W WD t) σ H Q := by
  obtain ⟨G, F, ρ, m, QD, x, t, k⟩ := h
  exact ⟨G, F, ρ, m, _, x, t, fun G1 H1 m1 ds vs e1 r1 p1 t1 => hd G1 H1 F m1 ds vs QD Q r1 p1 t1 (k.mono e1)⟩
theorem CallR.or {X : Cx} {f : Value} {r r' : List V → Hp → VK → Prop} (h : CallR X f r) (h' : CallR X f r') : CallR X f (fun xs H Q => r xs H Q ∨ r' xs H Q) := fun pins s σ H xs us Q I v q => by
  rcases q with q | q
  · exact h pins s σ H xs us Q I v q
  · exact h' pins s σ H xs us Q I v q
section
variable {K : PySem.W.Frag} {X : Cx} {W : WX} {WD : DWX} {e : Expr} {es : List Expr} {t : DTA} {p pos : Pos} {r : List V → Hp → VK → Prop} {rd : DRC} {x : Str} {id T : String}
theorem de_callB (hc : CallR X (.builtin id) r) (hd : CallD X.K r rd) (hg : Gl X x) (hm : X.mg x = none) (hv : bootBuiltins x = some (.builtin id)) (ha : DA X W WD (e :: es) t) (hn : x ≠ "__name__" := by decide) (hdb : (x == ("__debug__" : Str)) = false := by decide)
    (he : starEach (e :: es) X.env = (false, eval e X.env) :: starEach es X.env := by rfl) (hpl : (backTo pos (starEach es X.env)).any (·.1) = false := by rfl) : DE X W WD (.Call (.Name x p) (e :: es) [] pos) (dCB rd t) :=
  PE.imp (pe_callB hc hg hm hv ha hn hdb he hpl) fun _ _ _ h => up_cb hd h
theorem de_callTy (hc : CallR X (.type T) r) (hd : CallD X.K r rd) (hg : Gl X x) (hm : X.mg x = none) (hv : bootBuiltins x = some (.type T)) (ha : DA X W WD (e :: es) t) (hn : x ≠ "__name__" := by decide) (hdb : (x == ("__debug__" : Str)) = false := by decide)
    (he : starEach (e :: es) X.env = (false, eval e X.env) :: starEach es X.env := by rfl) (hpl : (backTo pos (starEach es X.env)).any (·.1) = false := by rfl) : DE X W WD (.Call (.Name x p) (e :: es) [] pos) (dCB rd t) :=
  PE.imp (pe_callTy hc hg hm hv ha hn hdb he hpl) fun _ _ _ h => up_cb hd h
theorem rps1 {G : Hp} {d : D} {vs : List V} (h : Rps K G [d] vs) : ∃ v, vs = [v] ∧ Rp K G d v := by
  cases h with | cons r t => cases t; exact ⟨_, rfl, r⟩
theorem rps2 {G : Hp} {d e : D} {vs : List V} (h : Rps K G [d, e] vs) : ∃ v u, vs = [v, u] ∧ Rp K G d v ∧ Rp K G e u := by
  cases h with | cons r t => cases t with | cons r2 t2 => cases t2; exact ⟨_, _, rfl, r, r2⟩
def dLen : DRC := fun ds m Q => ∃ d, ds = [d] ∧ match d with
  | .str z => z.length ≤ sizeLine ∧ Q (.int z.length) m
  | d => ∃ xs, sqOf m d = some xs ∧ Q (.int xs.length) m
theorem cd_len : CallD K (fun xs H Q => ∃ x n, xs = [x] ∧ LenV K x H n ∧ Q (.int n) H) dLen := by
  intro G H F m ds vs QD Q r ps t k
  obtain ⟨d, rfl, t⟩ := t
  obtain ⟨v, rfl, p⟩ := rps1 ps
  have go : (∃ xs, sqOf m d = some xs ∧ QD (.int xs.length) m) → ∃ x n, [v] = [x] ∧ LenV K x H n ∧ Q (.int n) H := by
    rintro ⟨xs, e, t⟩
    obtain ⟨a, vs, rfl, hs, rs⟩ := sq_ok r p e
    refine ⟨_, xs.length, rfl, ?_, k.here r (.int _) t⟩
    rcases hs with hs | hs
    · exact .inl ⟨vs, hs, rs.length⟩
    · exact .inr ⟨vs, hs, rs.length⟩
  cases d with
  | str z => cases p; exact ⟨_, z.length, rfl, ⟨t.1, rfl⟩, k.here r (.int _) t.2⟩
  | _ => exact go t
def dInt1 : DRC := fun ds m Q => match ds with
  | [.int i] => Q (.int i) m
  | [.bl b] => Q (.int (if b then 1 else 0)) m
  | _ => False
theorem cd_int1 : CallD K (fun xs H Q => (∃ i, xs = [.int i] ∧ Q (.int i) H) ∨ ∃ k, xs = [.bl k] ∧ Q (.int (if k then 1 else 0)) H) dInt1 := by
  intro G H F m ds vs QD Q r ps t k
  match ds, t with
  | [.int i], t =>
    obtain ⟨v, rfl, p⟩ := rps1 ps
    cases p; exact .inl ⟨i, rfl, k.here r (.int _) t⟩
  | [.bl i], t =>
    obtain ⟨v, rfl, p⟩ := rps1 ps
    cases p; exact .inr ⟨i, rfl, k.here r (.int _) t⟩
def dAbs : DRC := fun ds m Q => match ds with
  | [.int i] => Q (.int (if i < 0 then -i else i)) m
  | _ => False
def dMax : DRC := fun ds m Q => match ds with
  | [d] => ∃ ns : List Int, lsOf m d = some (ns.map D.int) ∧ 0 < ns.length ∧ ∀ k, k ∈ ns → (∀ y, y ∈ ns → y ≤ k) → Q (.int k) m
  | [d, e] => ∃ i j, d = .int i ∧ e = .int j ∧ Q (.int (max i j)) m
  | _ => False
def dMin : DRC := fun ds m Q => match ds with
  | [d] => ∃ ns : List Int, lsOf m d = some (ns.map D.int) ∧ 0 < ns.length ∧ ∀ k, k ∈ ns → (∀ y, y ∈ ns → k ≤ y) → Q (.int k) m
  | [d, e] => ∃ i j, d = .int i ∧ e = .int j ∧ Q (.int (min i j)) m
  | _ => False
def rMaxA (K : PySem.W.Frag) : List V → Hp → VK → Prop := fun xs H Q => (∃ i j, xs = [.int i, .int j] ∧ Q (.int (if j > i then j else i)) H) ∨ rMax K xs H Q
def rMinA (K : PySem.W.Frag) : List V → Hp → VK → Prop := fun xs H Q => (∃ i j, xs = [.int i, .int j] ∧ Q (.int (if j < i then j else i)) H) ∨ rMin K xs H Q
theorem call_maxA (hc : X.calm = true) : CallR X (.builtin "max") (rMaxA X.K) := CallR.or (call_max2 hc) (cr_max hc)
theorem call_minA (hc : X.calm = true) : CallR X (.builtin "min") (rMinA X.K) := CallR.or (call_min2 hc) (cr_min hc)
theorem cd_max : CallD K (rMaxA K) dMax := by
  intro G H F m ds vs QD Q r ps t k
  have one : ∀ (d : D), ds = [d] → (∃ ns : List Int, lsOf m d = some (ns.map D.int) ∧ 0 < ns.length ∧ ∀ k, k ∈ ns → (∀ y, y ∈ ns → y ≤ k) → QD (.int k) m) → rMaxA K vs H Q := by
    rintro d rfl ⟨ns, e, h0, t⟩
    obtain ⟨v, rfl, p⟩ := rps1 ps
    obtain ⟨a, us, rfl, hs, rs⟩ := ls_ok r p e
    rw [rs.ints] at hs
    exact .inr ⟨a, ns, rfl, hs, h0, fun z h1 h2 => k.here r (.int _) (t z h1 h2)⟩
  match ds, t with
  | [d, e], t =>
    obtain ⟨i, j, rfl, rfl, t⟩ := t
    obtain ⟨v, u, rfl, p, q⟩ := rps2 ps
    cases p; cases q
    refine .inl ⟨i, j, rfl, ?_⟩
    have e : (if j > i then j else i) = max i j := by split <;> omega
    rw [e]
    exact k.here r (.int _) t
  | [d], t => exact one d rfl t
theorem cd_min : CallD K (rMinA K) dMin := by
  intro G H F m ds vs QD Q r ps t k
  have one : ∀ (d : D), ds = [d] → (∃ ns : List Int, lsOf m d = some (ns.map D.int) ∧ 0 < ns.length ∧ ∀ k, k ∈ ns → (∀ y, y ∈ ns → k ≤ y) → QD (.int k) m) → rMinA K vs H Q := by
    rintro d rfl ⟨ns, e, h0, t⟩
    obtain ⟨v, rfl, p⟩ := rps1 ps
    obtain ⟨a, us, rfl, hs, rs⟩ := ls_ok r p e
    rw [rs.ints] at hs
    exact .inr ⟨a, ns, rfl, hs, h0, fun z h1 h2 => k.here r (.int _) (t z h1 h2)⟩
  match ds, t with
  | [d, e], t =>
    obtain ⟨i, j, rfl, rfl, t⟩ := t
    obtain ⟨v, u, rfl, p, q⟩ := rps2 ps
    cases p; cases q
    refine .inl ⟨i, j, rfl, ?_⟩
    have e : (if j < i then j else i) = min i j := by split <;> omega
    rw [e]
    exact k.here r (.int _) t
  | [d], t => exact one d rfl t
def dSum : DRC := fun ds m Q => ∃ d, ds = [d] ∧ ∃ ns : List Int, lsOf m d = some (ns.map D.int) ∧ Q (.int ns.sum) m
def dAll : DRC := fun ds m Q => ∃ d, ds = [d] ∧ ∃ bs : List Bool, lsOf m d = some (bs.map D.bl) ∧ Q (.bl (bs.all _root_.id)) m
def dAny : DRC := fun ds m Q => ∃ d, ds = [d] ∧ ∃ bs : List Bool, lsOf m d = some (bs.map D.bl) ∧ Q (.bl (bs.any _root_.id)) m
theorem cd_sum : CallD K (rSum K) dSum := by
  intro G H F m ds vs QD Q r ps t k
  obtain ⟨d, rfl, ns, e, t⟩ := t
  obtain ⟨v, rfl, p⟩ := rps1 ps
  obtain ⟨a, us, rfl, hs, rs⟩ := ls_ok r p e
  rw [rs.ints] at hs
  exact ⟨a, ns, rfl, hs, k.here r (.int _) t⟩
theorem cd_all : CallD K (rAll K) dAll := by
  intro G H F m ds vs QD Q r ps t k
  obtain ⟨d, rfl, ns, e, t⟩ := t
  obtain ⟨v, rfl, p⟩ := rps1 ps
  obtain ⟨a, us, rfl, hs, rs⟩ := ls_ok r p e
  rw [rs.bls] at hs
  exact ⟨a, ns, rfl, hs, k.here r (.bl _) t⟩
def dList (mt : Bool) : DRC := fun ds m Q => ∃ d, ds = [d] ∧ ∃ xs, sqOf m d = some xs ∧ mkL mt xs m Q
theorem cd_list (mt : Bool) : CallD K (fun xs H Q => ∃ p ys, xs = [.ref p] ∧ (SqL K H p ys ∨ SqT K H p ys) ∧ ∀ l, H l = none → Q (.ref l) (upd H l (.lst ys))) (dList mt) := by
  intro G H F m ds vs QD Q r ps t k
  obtain ⟨d, rfl, xs, e, t⟩ := t
  obtain ⟨v, rfl, p⟩ := rps1 ps
  obtain ⟨a, us, rfl, hs, rs⟩ := sq_ok r p e
  exact ⟨a, us, rfl, hs, fun l hl => mkL_ok k r rs hl t⟩
def dTuple : DRC := fun ds m Q => ∃ d, ds = [d] ∧ ∃ xs, sqOf m d = some xs ∧ Q (.tup xs) m
def tyName (m : M) : D → Option String
  | .non => some "NoneType"
  | .bl _ => some "bool"
  | .int _ => some "int"
  | .str _ => some "str"
  | .lst _ => some "list"
  | .tup _ => some "tuple"
  | .ref a => (m a).bind fun o => match o with
    | .lst _ => some "list"
    | .dK _ => some "dict"
    | .dT _ => some "dict"
    | _ => none
  | _ => none
theorem sqt_ty {H : Hp} {a : Addr} {vs : List V} (h : SqT K H a vs) : TyX K H (.ref a) (.type "tuple") := by
  rcases h with (h | ⟨o, h⟩) | ⟨o, its, n, h1, h2, _⟩
  · exact .base (.tup h)
  · exact .fTuple h
  · exact .kTuple h1 h2
theorem ty_ok {G H F : Hp} {m : M} {d : D} {v : V} {T : String} (r : Rep K G H F m) (p : Rp K G d v) (e : tyName m d = some T) : TyX K H v (.type T) := by
  cases d with
  | non => cases e; cases p; exact .base .non
  | bl b => cases e; cases p; exact .base (.bl b)
  | int b => cases e; cases p; exact .base (.int b)
  | str b => cases e; cases p; exact .base (.str b)
  | lst xs => cases e; cases p with | lst h1 r1 => exact .base (.lst (r.ext _ _ h1))
  | tup xs => cases e; cases p with | tup h1 r1 => exact sqt_ty (same_sqt r.ext h1.1)
  | ref a =>
    cases p
    dsimp only [tyName] at e
    cases q : m a with
    | none => rw [q] at e; cases e
    | some o =>
      rw [q] at e
      obtain ⟨_, _, u, h3, h4⟩ := r.mo a _ q
      cases o with
      | lst xs => cases e; obtain ⟨vs, rfl, _⟩ := h4.ofLst; exact .base (.lst h3)
      | dK xs => cases e; cases u with
        | dK kv => exact .base (.dK h3)
        | _ => exact h4.elim
      | dT xs => cases e; cases u with
        | dT kv => exact .base (.dT h3)
        | _ => exact h4.elim
      | _ => cases e
  | _ => cases e
structure ClsI (K : PySem.W.Frag) (C : Addr) : Prop where
  cl : Cls K C
  ha : PySem.W.findIn K (.ref C) "__class__" = some (some (.builtin "object.__class__"))
  hn : PySem.W.specialIn K (.builtin "object.__class__") "__get__" = some (some (.builtin "getset_descriptor.__get__"))
  tk : PySem.W.takesIn K (.builtin "object.__class__") = some true
  hm : PySem.W.mroIn K C (.type "object") = some true
def IsiD (K : PySem.W.Frag) (m : M) (d c : D) (b : Bool) : Prop :=
  ∃ u, ((∃ T, c = .ty T ∧ u = Value.type T) ∨ (∃ C, c = .ref C ∧ u = .ref C)) ∧
    ((∃ S, tyName m d = some S ∧ PySem.W.kitOne K (.type S) u = some b) ∨ (∃ C fs, d = .ins C fs ∧ ClsI K C ∧ PySem.W.kitOne K (.ref C) u = some b))
def dIsi (K : PySem.W.Frag) : DRC := fun ds m Q => ∃ d c b, ds = [d, c] ∧ IsiD K m d c b ∧ Q (.bl b) m
theorem cd_isi : CallD K (rIsi K) (dIsi K) := by
  intro G H F m ds vs QD Q r ps t k
  obtain ⟨d, c, b, rfl, ⟨u, hc, hd⟩, t⟩ := t
  obtain ⟨v, w, rfl, p, q⟩ := rps2 ps
  have cv : ClsV w u := by
    rcases hc with ⟨T, rfl, rfl⟩ | ⟨C, rfl, rfl⟩
    · cases q; exact .ty T
    · cases q; exact .own C
  rcases hd with ⟨S, e, hk⟩ | ⟨C, fs, rfl, I, hk⟩
  · exact ⟨v, w, .type S, u, b, rfl, cv, ty_ok r p e, hk, k.here r (.bl _) t⟩
  · cases p with | ins h1 r1 =>
    exact ⟨_, w, .ref C, u, b, rfl, cv, .base (.ins (r.ext _ _ h1) I.cl I.ha I.hn I.tk I.hm), hk, k.here r (.bl _) t⟩
end
end DL

set_option Elab.async false
set_option linter.all false
set_option maxRecDepth 100000
set_option maxHeartbeats 4000000
namespace DL
open PySem PySem.Spec PyProof.Rows L2

structure DEnds where
  nx : DSt → M → Prop
  rt : D → M → Prop
  bk : DSt → M → Prop := fun _ _ => False
  ct : DSt → M → Prop := fun _ _ => False
abbrev DTS := DEnds → DSt → M → Prop
def Ks (K : PySem.W.Frag) (G F : Hp) (QD : DSt → M → Prop) (Q : L2.St → Hp → Prop) : Prop := ∀ (G' H' : Hp) (m' : M) (r' : DSt) (s' : L2.St), Same G G' → Rep K G' H' F m' → Rs K G' r' s' → QD r' m' → Q s' H'
theorem Ks.mono {K : PySem.W.Frag} {G G' F : Hp} {QD : DSt → M → Prop} {Q : L2.St → Hp → Prop} (e : Same G G') (h : Ks K G F QD Q) : Ks K G' F QD Q := fun G2 H2 m2 r2 s2 e2 => h G2 H2 m2 r2 s2 (e.trans e2)
structure Lk (K : PySem.W.Frag) (G F : Hp) (DD : DEnds) (E : Ends) : Prop where
  nx : Ks K G F DD.nx E.nx
  rt : Kv K G F DD.rt E.rt
  bk : Ks K G F DD.bk E.bk
  ct : Ks K G F DD.ct E.ct
theorem Lk.mono {K : PySem.W.Frag} {G G' F : Hp} {DD : DEnds} {E : Ends} (e : Same G G') (h : Lk K G F DD E) : Lk K G' F DD E := ⟨h.nx.mono e, h.rt.mono e, h.bk.mono e, h.ct.mono e⟩
def upS (K : PySem.W.Frag) (W : WX) (WD : DWX) (t : DTS) : TS := fun E σ H => ∃ (G F : Hp) (r : DSt) (m : M) (DD : DEnds), Sx K W WD G H F r σ m ∧ t DD r m ∧ Lk K G F DD E
abbrev DS (X : Cx) (W : WX) (WD : DWX) (st : Stmt) (t : DTS) : Prop := PS X st (upS X.K W WD t)
abbrev DSs (X : Cx) (W : WX) (WD : DWX) (st : List Stmt) (t : DTS) : Prop := PSs X st (upS X.K W WD t)
theorem PS.imp {X : Cx} {st : Stmt} {t t' : TS} (h : PS X st t) (i : ∀ E σ H, t' E σ H → t E σ H) : PS X st t' := ⟨fun pins s σ H D I q => h.run pins s σ H D I (i D σ H q)⟩
theorem PSs.imp {X : Cx} {st : List Stmt} {t t' : TS} (h : PSs X st t) (i : ∀ E σ H, t' E σ H → t E σ H) : PSs X st t' := ⟨fun pins s σ H D I q => h.run pins s σ H D I (i D σ H q)⟩
theorem Sx.to {K : PySem.W.Frag} {W : WX} {WD : DWX} {G G' H H' F : Hp} {r r' : DSt} {s s' : L2.St} {m m' : M} (x : Sx K W WD G H F r s m) (e : Same G G') (h : Rep K G' H' F m') (q : Rs K G' r' s') : Sx K W WD G' H' F r' s' m' := ⟨h, q, x.lx.mono e⟩
def dNext : DTS := fun DD r m => DD.nx r m
def dSeq (t u : DTS) : DTS := fun DD r m => t { DD with nx := u DD } r m
section
variable {X : Cx} {W : WX} {WD : DWX} {st : Stmt} {rest : List Stmt} {t u : DTS} {e : Expr} {te : DTE} {pos : Pos}
theorem dss_nil : DSs X W WD [] dNext := by
  refine PSs.imp pss_nil fun E σ H h => ?_
  obtain ⟨G, F, r, m, DD, x, t, k⟩ := h
  exact k.nx G H m r σ (Same.refl G) x.rep x.rs t
theorem dss_cons (h1 : DS X W WD st t) (h2 : DSs X W WD rest u) : DSs X W WD (st :: rest) (dSeq t u) := by
  refine PSs.imp (pss_cons h1 h2) fun E σ H h => ?_
  obtain ⟨G, F, r, m, DD, x, t, k⟩ := h
  exact ⟨G, F, r, m, { DD with nx := u DD }, x, t, ⟨fun G1 H1 m1 r1 s1 e1 p1 q1 t1 => ⟨G1, F, r1, m1, DD, x.to e1 p1 q1, t1, k.mono e1⟩, k.rt, k.bk, k.ct⟩⟩
theorem dss_one (h1 : DS X W WD st t) : DSs X W WD [st] t := pss_one h1
def dBreak : DTS := fun DD r m => DD.bk r m
def dCont : DTS := fun DD r m => DD.ct r m
def dDrop (te : DTE) : DTS := fun DD r m => te r m fun _ m1 => DD.nx r m1
theorem ds_expr (he : DE X W WD e te) (hs : swapsWith e none pos.line X.env = pure false := by rfl) : DS X W WD (.Expr e pos) (dDrop te) := by
  refine PS.imp (ps_expr he hs) fun E σ H h => ?_
  obtain ⟨G, F, r, m, DD, x, t, k⟩ := h
  exact ⟨G, F, r, m, _, x, t, fun G1 H1 m1 d v e1 p1 q1 t1 => k.nx G1 H1 m1 r σ e1 p1 (x.rs.mono e1) t1⟩
def dRet (te : DTE) : DTS := fun DD r m => te r m DD.rt
theorem ds_ret (he : DE X W WD e te) : DS X W WD (.Return (some e) pos) (dRet te) := by
  refine PS.imp (ps_ret he) fun E σ H h => ?_
  obtain ⟨G, F, r, m, DD, x, t, k⟩ := h
  exact ⟨G, F, r, m, _, x, t, k.rt⟩
def frzV (m : M) (d : D) (Q : D → M → Prop) : Prop := match d with
  | .ref a => (match m a with
    | some (.lst ds) => Q (.lst ds) (mdel m a)
    | some (.ins C fs) => Q (.ins C fs) (mdel m a)
    | _ => False)
  | _ => False
theorem frzV_ok {K : PySem.W.Frag} {G H F : Hp} {m : M} {d : D} {v : V} {QD : D → M → Prop} {Q : VK} (k : Kv K G F QD Q) (r : Rep K G H F m) (p : Rp K G d v) (t : frzV m d QD) : Q v H := by
  cases d with
  | ref a =>
    cases p
    dsimp only [frzV] at t
    cases q : m a with
    | none => rw [q] at t; exact t.elim
    | some o =>
      rw [q] at t
      cases o with
      | lst ds =>
        obtain ⟨G', e, r', p'⟩ := r.freeze q
        exact k G' H _ _ _ e r' p' t
      | ins C fs =>
        obtain ⟨G', e, r', p'⟩ := r.freezeI q
        exact k G' H _ _ _ e r' p' t
      | _ => exact t.elim
  | _ => exact t.elim
def dFrzE (te : DTE) : DTE := fun r m Q => te r m fun d m1 => frzV m1 d Q
theorem de_frz (he : DE X W WD e te) : DE X W WD e (dFrzE te) := by
  refine PE.imp he fun σ H Q h => ?_
  obtain ⟨G, F, r, m, QD, x, t, k⟩ := h
  exact ⟨G, F, r, m, _, x, t, fun G1 H1 m1 d v e1 p1 q1 t1 => frzV_ok (k.mono e1) p1 q1 t1⟩
def dRetN : DTS := fun DD _ m => DD.rt .non m
theorem ds_retN : DS X W WD (.Return none pos) dRetN := by
  refine PS.imp ps_retN fun E σ H h => ?_
  obtain ⟨G, F, r, m, DD, x, t, k⟩ := h
  exact k.rt G H m _ _ (Same.refl G) x.rep .non t
def dIfS (c : DTT) (t u : DTS) : DTS := fun DD r m => c r m fun b m1 => if b = true then t DD r m1 else u DD r m1
theorem ds_if {c : Expr} {a b : List Stmt} {tc : DTT} (hc : DT X W WD c tc) (ha : DSs X W WD a t) (hb : DSs X W WD b u) : DS X W WD (.If c a b pos) (dIfS tc t u) := by
  refine PS.imp (ps_if hc ha hb) fun E σ H h => ?_
  obtain ⟨G, F, r, m, DD, x, t, k⟩ := h
  refine ⟨G, F, r, m, _, x, t, fun G1 H1 m1 b e1 p1 t1 => ?_⟩
  cases b with
  | true => exact ⟨G1, F, r, m1, DD, x.step e1 p1, t1, k.mono e1⟩
  | false => exact ⟨G1, F, r, m1, DD, x.step e1 p1, t1, k.mono e1⟩
def dFrz (i : Nat) (t : DTS) : DTS := fun DD r m => ∃ a ds, slot r i = some (.ref a) ∧ m a = some (.lst ds) ∧ t DD (r.set i (some (.lst ds))) (mdel m a)
theorem dss_frz (i : Nat) (h : DSs X W WD rest t) : DSs X W WD rest (dFrz i t) := by
  refine PSs.imp h fun E σ H h => ?_
  obtain ⟨G, F, r, m, DD, x, ⟨a, ds, e1, e2, t⟩, k⟩ := h
  obtain ⟨G', e, r', p'⟩ := x.rep.freeze e2
  obtain ⟨v, e3, pv⟩ := x.rs.at_ i _ (slot_get e1)
  cases pv
  refine ⟨G', F, _, _, DD, ⟨r', (x.rs.mono e).setG (fun v hv => ?_) ⟨_, e3⟩, x.lx.mono e⟩, t, k.mono e⟩
  rw [e3] at hv
  cases hv
  exact p'
end

abbrev DTG := D → DSt → M → (DSt → M → Prop) → Prop
abbrev DTGs := List D → DSt → M → (DSt → M → Prop) → Prop
def upG (K : PySem.W.Frag) (W : WX) (WD : DWX) (t : DTG) : TG := fun v σ H Q => ∃ (G F : Hp) (r : DSt) (m : M) (d : D) (QD : DSt → M → Prop), Sx K W WD G H F r σ m ∧ Rp K G d v ∧ t d r m QD ∧ Ks K G F QD Q
def upGs (K : PySem.W.Frag) (W : WX) (WD : DWX) (t : DTGs) : TGs := fun vs σ H Q => ∃ (G F : Hp) (r : DSt) (m : M) (ds : List D) (QD : DSt → M → Prop), Sx K W WD G H F r σ m ∧ Rps K G ds vs ∧ t ds r m QD ∧ Ks K G F QD Q
abbrev DG (X : Cx) (W : WX) (WD : DWX) (tg : Expr) (t : DTG) : Prop := PG X tg (upG X.K W WD t)
abbrev DGs (X : Cx) (W : WX) (WD : DWX) (ts : List Expr) (t : DTGs) : Prop := PGs X ts (upGs X.K W WD t)
theorem PG.imp {X : Cx} {tg : Expr} {t t' : TG} (h : PG X tg t) (i : ∀ v σ H Q, t' v σ H Q → t v σ H Q) : PG X tg t' := ⟨fun pins s σ H v u Q I r q => h.run pins s σ H v u Q I r (i v σ H Q q)⟩
theorem PGs.imp {X : Cx} {tg : List Expr} {t t' : TGs} (h : PGs X tg t) (i : ∀ v σ H Q, t' v σ H Q → t v σ H Q) : PGs X tg t' := ⟨fun pins s σ H v u Q I r q => h.run pins s σ H v u Q I r (i v σ H Q q)⟩
def gN (i : Nat) : DTG := fun d r m Q => Q (r.set i (some d)) m
def gsNil : DTGs := fun ds r m Q => ds = [] ∧ Q r m
def gsCons (t : DTG) (u : DTGs) : DTGs := fun ds r m Q => ∃ d rest, ds = d :: rest ∧ t d r m fun r1 m1 => u rest r1 m1 Q
def gT (n : Nat) (t : DTGs) : DTG := fun d r m Q => ∃ xs, sqOf m d = some xs ∧ xs.length = n ∧ t xs r m Q
theorem PG.either {X : Cx} {tg : Expr} {t t' : TG} (h : PG X tg t) (h' : PG X tg t') : PG X tg (fun v σ H Q => t v σ H Q ∨ t' v σ H Q) := ⟨fun pins s σ H v u Q I r q => by
  rcases q with q | q
  · exact h.run pins s σ H v u Q I r q
  · exact h'.run pins s σ H v u Q I r q⟩
section
variable {X : Cx} {W : WX} {WD : DWX} {pos : Pos}
theorem dg_name {i : Nat} {x : Str} (hN : X.N.Nodup) (hi : X.N[i]? = some x) (hx : Loc X.env.scope x) (hf : X.fn x = true ∨ X.env.scope.names.lookup x = some .local := by first | exact .inl rfl | exact .inr rfl | assumption) : DG X W WD (.Name x pos) (gN i) := by
  refine PG.imp (pg_name hN hi hx hf) fun v σ H Q h => ?_
  obtain ⟨G, F, r, m, d, QD, x, p, t, k⟩ := h
  exact k G H m _ _ (Same.refl G) x.rep (x.rs.set p) t
theorem dgs_nil : DGs X W WD [] gsNil := by
  refine PGs.imp pgs_nil fun v σ H Q h => ?_
  obtain ⟨G, F, r, m, d, QD, x, p, ⟨rfl, t⟩, k⟩ := h
  cases p
  exact ⟨rfl, k G H m _ _ (Same.refl G) x.rep x.rs t⟩
theorem dgs_cons {e : Expr} {es : List Expr} {t : DTG} {u : DTGs} (h1 : DG X W WD e t) (h2 : DGs X W WD es u)
    (hs : (assignEach (e :: es) X.env).map (·.2) = assign e X.env :: (assignEach es X.env).map (·.2) := by rfl) : DGs X W WD (e :: es) (gsCons t u) := by
  refine PGs.imp (pgs_cons h1 h2 hs) fun v σ H Q h => ?_
  obtain ⟨G, F, r, m, ds, QD, x, p, ⟨d, rest, rfl, t⟩, k⟩ := h
  cases p with | cons p1 p2 =>
  refine ⟨_, _, rfl, G, F, r, m, d, _, x, p1, t, fun G1 H1 m1 r1 s1 e1 q1 q2 t1 => ?_⟩
  exact ⟨G1, F, r1, m1, rest, QD, x.to e1 q1 q2, p2.mono e1, t1, k.mono e1⟩
theorem dg_tup {es : List Expr} {k : Nat} {t : DTGs} {n : Nat} (hc : X.calm = true) (h : DGs X W WD es t)
    (hn : (assignEach es X.env).length = n := by rfl) (hst : (assignEach es X.env).findIdx? (·.1) = none := by rfl) : DG X W WD (.Tuple es k pos) (gT n t) := by
  refine PG.imp (PG.either (pg_tup hc h hn hst) (pg_unl hc h hn hst)) fun v σ H Q h => ?_
  obtain ⟨G, F, r, m, d, QD, x, p, ⟨xs, e, hl, t⟩, k⟩ := h
  obtain ⟨a, vs, rfl, hs, r1⟩ := sq_ok x.rep p e
  rcases hs with hs | hs
  · exact .inr ⟨_, _, rfl, hs, by rw [← r1.length]; exact hl, G, F, r, m, xs, QD, x, r1, t, k⟩
  · exact .inl ⟨_, _, rfl, hs, by rw [← r1.length]; exact hl, G, F, r, m, xs, QD, x, r1, t, k⟩
def gSet (to ti : DTE) : DTG := fun v r m Q => to r m fun o m1 => ti r m1 fun i m2 => ∃ a xs k j, o = .ref a ∧ i = .int k ∧ m2 a = some (.lst xs) ∧ ixN xs.length k = some j ∧ Q r (mset m2 a (.lst (xs.set j v)))
theorem dg_sub {o i : Expr} {to ti : DTE} (ho : DE X W WD o to) (hi : DE X W WD i ti)
    (ha : ∀ v, assign (.Subscript o i pos) X.env v = (do
      let ov ← holding [v] (eval o X.env)
      let iv ← holding [v, ov] (eval i X.env)
      standAt pos
      holding [v, ov, iv] (setItem ov iv v)
      release [v, ov, iv] []) := by intro _; rfl) : DG X W WD (.Subscript o i pos) (gSet to ti) := by
  refine PG.imp (pg_sub ho hi set_list ha) fun v σ H Q h => ?_
  obtain ⟨G, F, r, m, d, QD, x, p, t, k⟩ := h
  refine ⟨G, F, r, m, _, x, t, fun G1 H1 m1 d1 v1 e1 r1 p1 t1 => ?_⟩
  refine ⟨G1, F, r, m1, _, x.step e1 r1, t1, fun G2 H2 m2 d2 v2 e2 r2 p2 t2 => ?_⟩
  obtain ⟨a, xs, kk, j, rfl, rfl, hm, hj, t3⟩ := t2
  cases p1; cases p2
  obtain ⟨_, _, u, h3, h4⟩ := r2.mo a _ hm
  obtain ⟨vs, rfl, h4⟩ := h4.ofLst
  refine ⟨a, vs, kk, j, rfl, rfl, h3, by rw [← h4.length]; exact hj, ?_⟩
  exact k G2 _ _ r σ (e1.trans e2) (r2.write hm (show RpM X.K G2 (.lst (xs.set j d)) (.lst (vs.set j v)) from h4.set (p.mono (e1.trans e2)) j)) (x.rs.mono (e1.trans e2)) t3
def dAsg (te : DTE) (g : DTG) : DTS := fun DD r m => te r m fun d m1 => g d r m1 DD.nx
theorem ds_asg {tg e : Expr} {te : DTE} {g : DTG} (he : DE X W WD e te) (hg : DG X W WD tg g) (hs : swapsWithSole [tg] e pos.line X.env = pure false := by rfl) (hw : swappedStores [tg] e X.env = pure none := by rfl)
    (h1 : (assignEach [tg] X.env).map (·.2) = [assign tg X.env] := by rfl) : DS X W WD (.Assign [tg] e pos) (dAsg te g) := by
  refine PS.imp (ps_asg he hg hs hw h1) fun E σ H h => ?_
  obtain ⟨G, F, r, m, DD, x, t, k⟩ := h
  exact ⟨G, F, r, m, _, x, t, fun G1 H1 m1 d v e1 p1 q1 t1 => ⟨G1, F, r, m1, d, _, x.step e1 p1, q1, t1, k.nx.mono e1⟩⟩
def dSet (i : Nat) (te : DTE) : DTS := fun DD r m => te r m fun d m1 => DD.nx (r.set i (some d)) m1
theorem ds_set {i : Nat} {x : Str} {e : Expr} {te : DTE} {pos' : Pos} (hN : X.N.Nodup) (hi : X.N[i]? = some x) (hx : Loc X.env.scope x) (he : DE X W WD e te) (hs : swapsWith e (some (.Name x pos')) pos.line X.env = pure false := by rfl) (hf : X.fn x = true ∨ X.env.scope.names.lookup x = some .local := by first | exact .inl rfl | exact .inr rfl | assumption) :
    DS X W WD (.Assign [.Name x pos'] e pos) (dSet i te) := by
  refine PS.imp (ps_set (i := i) hN hi hx he hs hf) fun E σ H h => ?_
  obtain ⟨G, F, r, m, DD, x, t, k⟩ := h
  exact ⟨G, F, r, m, _, x, t, fun G1 H1 m1 d v e1 p1 q1 t1 => k.nx G1 H1 m1 _ _ e1 p1 ((x.rs.mono e1).set q1) t1⟩
def dPar (i j : Nat) (ta : DTA) : DTS := fun DD r m => ta r m fun ds m1 => ∃ d e, ds = [d, e] ∧ DD.nx ((r.set i (some d)).set j (some e)) m1
def dAddI : DR2
  | .int i, .int j, m, Q => Q (.int (i + j)) m
  | _, _, _, _ => False
theorem od_addI {K : PySem.W.Frag} : OpD K (rI0 fun i j => .int (i + j)) dAddI := od_I0 (fun _ _ _ _ h => h) fun x y _ _ h => by
  cases x <;> cases y <;> first | exact ⟨_, _, rfl, rfl⟩ | exact h.elim
def dAug (i : Nat) (te : DTE) (rd : DR2) : DTS := fun DD r m => ∃ x, slot r i = some x ∧ te r m fun y m1 => rd x y m1 fun z m2 => DD.nx (r.set i (some z)) m2
theorem ds_aug {i : Nat} {x : Str} {e : Expr} {te : DTE} {op : Operator} {ri : R2} {rd : DR2} {pos' : Pos} (hN : X.N.Nodup) (hi : X.N[i]? = some x) (hx : Loc X.env.scope x) (he : DE X W WD e te) (ho : OpR X (inplaceOp op) ri) (hd : OpD X.K ri rd)
    (hf : X.fn x = true ∨ X.env.scope.names.lookup x = some .local := by first | exact .inl rfl | exact .inr rfl | assumption) :
    DS X W WD (.AugAssign (.Name x pos') op e pos) (dAug i te rd) := by
  refine PS.imp (ps_aug (i := i) (ti := ri) hN hi hx he (fun pins s σ H x y v u Q I rx ry q => ho pins s σ H x y v u Q I rx ry q) hf) fun E σ H h => ?_
  obtain ⟨G, F, r, m, DD, x, ⟨d0, e0, t⟩, k⟩ := h
  obtain ⟨v0, e1, p0⟩ := x.rs.at_ i _ (slot_get e0)
  refine ⟨v0, e1, G, F, r, m, _, x, t, fun G1 H1 m1 d v e1 p1 q1 t1 => ?_⟩
  refine hd G1 H1 F m1 d0 d v0 v _ _ p1 (p0.mono e1) q1 t1 fun G2 H2 m2 z vz e2 p2 q2 t2 => ?_
  exact k.nx G2 H2 m2 _ _ (e1.trans e2) p2 ((x.rs.mono (e1.trans e2)).set q2) t2
end
end DL

set_option Elab.async false
set_option linter.all false
set_option maxRecDepth 100000
set_option maxHeartbeats 4000000
namespace DL
open PySem PySem.Spec PyProof.Rows L2

structure ItD (K : PySem.W.Frag) (J : It) (G : Hp) (ds : List D) : Prop where
  stop : ∀ H, Same G H → J.stop ds.length H
  go : ∀ i H, i < ds.length → Same G H → J.go i H
  yld : ∀ (i : Nat) (G1 H F : Hp) (m : M) (x : V) (H' : Hp) (d : D), Same G G1 → Rep K G1 H F m → ds[i]? = some d → J.yld i H x H' → ∃ G2, Same G1 G2 ∧ Rep K G2 H' F m ∧ Rp K G2 d x
abbrev DTI := DSt → M → (List D → M → Prop) → Prop
def upI (K : PySem.W.Frag) (W : WX) (WD : DWX) (t : DTI) : TI := fun σ H R => ∃ (G F : Hp) (r : DSt) (m : M) (QD : List D → M → Prop), Sx K W WD G H F r σ m ∧ t r m QD ∧ ∀ G' H' m' ds J, Same G G' → Rep K G' H' F m' → ItD K J G' ds → QD ds m' → R J H'
abbrev DI (X : Cx) (W : WX) (WD : DWX) (tg iter : Expr) (t : DTI) : Prop := PI X tg iter (upI X.K W WD t)
theorem PI.imp {X : Cx} {tg iter : Expr} {t t' : TI} (h : PI X tg iter t) (i : ∀ σ H R, t' σ H R → t σ H R) : PI X tg iter t' := ⟨fun pins s σ H R I q => h.run pins s σ H R I (i σ H R q)⟩
section
variable {X : Cx} {W : WX} {WD : DWX} {tg : Expr}
def rngD (lo : Int) (n : Nat) : List D := (List.range n).map fun (k : Nat) => D.int (lo + (k : Int))
theorem rngD_len (lo : Int) (n : Nat) : (rngD lo n).length = n := by simp [rngD]
theorem rngD_at {lo : Int} {n i : Nat} {d : D} (h : (rngD lo n)[i]? = some d) : d = .int (lo + (i : Int)) ∧ i < n := by
  unfold rngD at h
  rw [List.getElem?_map] at h
  by_cases hi : i < n
  · rw [List.getElem?_range hi] at h
    cases h
    exact ⟨rfl, hi⟩
  · rw [List.getElem?_eq_none (by simp; omega)] at h
    cases h
theorem it_list {K : PySem.W.Frag} {G : Hp} {a : Addr} {vs : List V} {ds : List D} (h : SqL K G a vs) (r : Rps K G ds vs) : ItD K (Itl K a) G ds where
  stop := fun H e => ⟨vs, e.seq h, by rw [r.length]; exact Nat.le_refl _⟩
  go := fun i H hi e => by
    have hv : i < vs.length := by rw [← r.length]; exact hi
    exact ⟨vs, vs[i], e.seq h, by simp [hv]⟩
  yld := fun i G1 H F m x H' d e rep hd y => by
    obtain ⟨rfl, y⟩ := y
    obtain ⟨v, h1, h2⟩ := r.get hd
    have q := y vs ((e.trans rep.ext).seq h)
    rw [h1] at q
    cases q
    exact ⟨G1, Same.refl G1, rep, h2.mono e⟩
theorem it_tup {K : PySem.W.Frag} {G : Hp} {a : Addr} {vs : List V} {ds : List D} (h : SqT K G a vs) (r : Rps K G ds vs) : ItD K (Itt K a) G ds where
  stop := fun H e => ⟨vs, same_sqt e h, by rw [r.length]; exact Nat.le_refl _⟩
  go := fun i H hi e => by
    have hv : i < vs.length := by rw [← r.length]; exact hi
    exact ⟨vs, vs[i], same_sqt e h, by simp [hv]⟩
  yld := fun i G1 H F m x H' d e rep hd y => by
    obtain ⟨rfl, y⟩ := y
    obtain ⟨v, h1, h2⟩ := r.get hd
    have q := y vs (same_sqt (e.trans rep.ext) h)
    rw [h1] at q
    cases q
    exact ⟨G1, Same.refl G1, rep, h2.mono e⟩
theorem it_rng {K : PySem.W.Frag} {G : Hp} (lo : Int) (n : Nat) : ItD K (Itr lo n) G (rngD lo n) where
  stop := fun H e => by rw [rngD_len]; exact Nat.le_refl _
  go := fun i H hi e => by rw [rngD_len] at hi; exact hi
  yld := fun i G1 H F m x H' d e rep hd y => by
    obtain ⟨rfl, rfl⟩ := y
    obtain ⟨rfl, _⟩ := rngD_at hd
    exact ⟨G1, Same.refl G1, rep, .int _⟩
def diL (te : DTE) : DTI := fun r m Q => te r m fun d m1 => match d with
  | .lst xs => Q xs m1
  | .rdl xs => Q xs m1
  | _ => False
theorem di_list {l : Expr} {te : DTE} (hl : DE X W WD l te) : DI X W WD tg l (diL te) := by
  refine PI.imp (pi_list hl) fun σ H R h => ?_
  obtain ⟨G, F, r, m, QD, x, t, k⟩ := h
  refine ⟨G, F, r, m, _, x, t, fun G1 H1 m1 d1 v1 e1 r1 p1 t1 => ?_⟩
  cases d1 with
  | lst xs => cases p1 with | lst h1 q1 => exact ⟨_, rfl, ⟨_, SqL.of (r1.ext _ _ h1)⟩, k G1 H1 m1 xs _ e1 r1 (it_list (SqL.of h1) q1) t1⟩
  | rdl xs => cases p1 with | rdl h1 q1 => exact ⟨_, rfl, ⟨_, r1.ext.seq h1⟩, k G1 H1 m1 xs _ e1 r1 (it_list h1 q1) t1⟩
  | _ => exact t1.elim
def diT (te : DTE) : DTI := fun r m Q => te r m fun d m1 => match d with
  | .tup xs => Q xs m1
  | _ => False
theorem di_tup {l : Expr} {te : DTE} (hl : DE X W WD l te) : DI X W WD tg l (diT te) := by
  refine PI.imp (pi_tup hl) fun σ H R h => ?_
  obtain ⟨G, F, r, m, QD, x, t, k⟩ := h
  refine ⟨G, F, r, m, _, x, t, fun G1 H1 m1 d1 v1 e1 r1 p1 t1 => ?_⟩
  cases d1 with
  | tup xs => cases p1 with | tup h1 q1 => exact ⟨_, rfl, ⟨_, same_sqt r1.ext h1.1⟩, k G1 H1 m1 xs _ e1 r1 (it_tup h1 q1) t1⟩
  | _ => exact t1.elim
def diR1 (ta : DTA) : DTI := fun r m Q => ta r m fun ds m1 => ∃ j : Int, ds = [.int j] ∧ (-(2 ^ 62) ≤ j ∧ j < 2 ^ 62) ∧ Q (rngD 0 j.toNat) m1
theorem di_range1 {a : Expr} {ta : DTA} {p pos : Pos} (hg : Gl X "range") (hm : X.mg "range" = none) (ha : DA X W WD [a] ta) (hs : starEach [a] X.env = [(false, eval a X.env)] := by rfl) : DI X W WD tg (.Call (.Name "range" p) [a] [] pos) (diR1 ta) := by
  refine PI.imp (pi_range1 hg hm ha hs) fun σ H R h => ?_
  obtain ⟨G, F, r, m, QD, x, t, k⟩ := h
  refine ⟨G, F, r, m, _, x, t, fun G1 H1 m1 ds vs e1 r1 p1 t1 => ?_⟩
  obtain ⟨j, rfl, ⟨h1, h2⟩, t2⟩ := t1
  obtain ⟨v, rfl, q⟩ := rps1 p1
  cases q
  exact ⟨j, rfl, h1, h2, k G1 H1 m1 _ _ e1 r1 (it_rng 0 j.toNat) t2⟩
def diR2 (ta : DTA) : DTI := fun r m Q => ta r m fun ds m1 => ∃ i j : Int, ds = [.int i, .int j] ∧ (-(2 ^ 62) ≤ i ∧ i < 2 ^ 62 ∧ -(2 ^ 62) ≤ j ∧ j < 2 ^ 62) ∧ Q (rngD i (j - i).toNat) m1
end

def dLoopI (g : DTG) (tb : DTS) (ds : List D) : DTS := fun DD r m => ∃ P : Nat → DSt → M → Prop, P 0 r m ∧ (∀ (i : Nat) (d : D) (r : DSt) (m : M), ds[i]? = some d → P i r m → g d r m fun r2 m2 => tb { DD with nx := P (i + 1), ct := P (i + 1), bk := DD.nx } r2 m2) ∧ ∀ r m, P ds.length r m → DD.nx r m
def dFor (ti : DTI) (g : DTG) (tb : DTS) : DTS := fun DD r m => ti r m fun ds m1 => dLoopI g tb ds DD r m1
section
variable {X : Cx} {W : WX} {WD : DWX} {tg iter : Expr} {body : List Stmt} {ti : DTI} {g : DTG} {tb : DTS} {pos : Pos}
theorem ds_for (hp : PassesOwn (model X.prog X.w) X.A X.env X.xe) (hc : X.calm = true) (hi : DI X W WD tg iter ti) (hg : DG X W WD tg g) (hb : DSs X W WD body tb)
    (hs : ∀ x, foldedSetIterable iter X.env x = pure x := by intro _; rfl) : DS X W WD (.For tg iter body [] pos) (dFor ti g tb) := by
  refine PS.imp (ps_for hp hc hi hg hb hs) fun E σ H h => ?_
  obtain ⟨G, F, r, m, DD, x, t, k⟩ := h
  refine ⟨G, F, r, m, _, x, t, fun G1 H1 m1 ds J e1 r1 it t1 => ?_⟩
  obtain ⟨P, p0, turn, done⟩ := t1
  refine ⟨fun i n σ H => n = ds.length - i ∧ i ≤ ds.length ∧ ∃ G2 r2 m2, Same G1 G2 ∧ Sx X.K W WD G2 H F r2 σ m2 ∧ P i r2 m2, ⟨ds.length, rfl, Nat.zero_le _, G1, r, m1, Same.refl G1, x.step e1 r1, p0⟩, ?_⟩
  rintro i n σ2 H2 ⟨rfl, hi, G2, r2, m2, e2, x2, p2⟩
  by_cases hlt : i < ds.length
  · have hd : ds[i]? = some ds[i] := by simp [hlt]
    refine .inr ⟨it.go i H2 hlt (e2.trans x2.rep.ext), fun σ3 H3 => ∃ G3 r3 m3, Same G1 G3 ∧ Sx X.K W WD G3 H3 F r3 σ3 m3 ∧ P (i + 1) r3 m3, fun σ3 H3 h3 => ⟨ds.length - (i + 1), by omega, rfl, hlt, h3⟩, fun v H3 y => ?_⟩
    obtain ⟨G3, e3, rep3, p3⟩ := it.yld i G2 H2 F m2 v H3 ds[i] e2 x2.rep hd y
    refine ⟨G3, F, r2, m2, ds[i], _, x2.step e3 rep3, p3, turn i ds[i] r2 m2 hd p2, fun G4 H4 m4 r4 s4 e4 rep4 rs4 t4 => ?_⟩
    have e14 : Same G1 G4 := (e2.trans e3).trans e4
    refine ⟨G4, F, r4, m4, _, x2.to (e3.trans e4) rep4 rs4, t4, ⟨fun G5 H5 m5 r5 s5 e5 rep5 rs5 t5 => ?_, k.rt.mono (e1.trans e14), k.nx.mono (e1.trans e14), fun G5 H5 m5 r5 s5 e5 rep5 rs5 t5 => ?_⟩⟩
    · exact ⟨G5, r5, m5, e14.trans e5, x2.to ((e3.trans e4).trans e5) rep5 rs5, t5⟩
    · exact ⟨G5, r5, m5, e14.trans e5, x2.to ((e3.trans e4).trans e5) rep5 rs5, t5⟩
  · have e : i = ds.length := by omega
    subst e
    exact .inl ⟨it.stop H2 (e2.trans x2.rep.ext), k.nx G2 H2 m2 r2 σ2 (e1.trans e2) x2.rep x2.rs (done r2 m2 p2)⟩
def dWhile (c : DTT) (tb : DTS) : DTS := fun DD r m => ∃ P : Nat → DSt → M → Prop, (∃ n, P n r m) ∧ ∀ n r m, P n r m →
  c r m fun b m1 => if b = true then tb { DD with nx := fun r' m' => ∃ n', n' < n ∧ P n' r' m', ct := fun r' m' => ∃ n', n' < n ∧ P n' r' m', bk := DD.nx } r m1 else DD.nx r m1
theorem ds_while {c : Expr} {tc : DTT} (hp : PassesOwn (model X.prog X.w) X.A X.env X.xe) (hc : DT X W WD c tc) (hb : DSs X W WD body tb) : DS X W WD (.While c body [] pos) (dWhile tc tb) := by
  refine PS.imp (ps_while hp hc hb) fun E σ H h => ?_
  obtain ⟨G, F, r, m, DD, x, ⟨P, ⟨n0, p0⟩, turn⟩, k⟩ := h
  refine ⟨fun n σ H => ∃ G2 r2 m2, Same G G2 ∧ Sx X.K W WD G2 H F r2 σ m2 ∧ P n r2 m2, ⟨n0, G, r, m, Same.refl G, x, p0⟩, ?_⟩
  rintro n σ2 H2 ⟨G2, r2, m2, e2, x2, p2⟩
  refine ⟨G2, F, r2, m2, _, x2, turn n r2 m2 p2, fun G3 H3 m3 b e3 rep3 t3 => ?_⟩
  cases b with
  | false => exact k.nx G3 H3 m3 r2 σ2 (e2.trans e3) rep3 (x2.rs.mono e3) t3
  | true =>
    refine ⟨fun σ4 H4 => ∃ n', n' < n ∧ ∃ G4 r4 m4, Same G G4 ∧ Sx X.K W WD G4 H4 F r4 σ4 m4 ∧ P n' r4 m4, fun σ4 H4 h4 => h4, ?_⟩
    have e := e2.trans e3
    refine ⟨G3, F, r2, m3, _, x2.step e3 rep3, t3, ⟨fun G4 H4 m4 r4 s4 e4 rep4 rs4 t4 => ?_, k.rt.mono e, k.nx.mono e, fun G4 H4 m4 r4 s4 e4 rep4 rs4 t4 => ?_⟩⟩
    · obtain ⟨n', hn, p⟩ := t4
      exact ⟨n', hn, G4, r4, m4, e.trans e4, x2.to (e3.trans e4) rep4 rs4, p⟩
    · obtain ⟨n', hn, p⟩ := t4
      exact ⟨n', hn, G4, r4, m4, e.trans e4, x2.to (e3.trans e4) rep4 rs4, p⟩
end

inductive CT where
  | one (i : Nat)
  | tup (js : List Nat)
def setAll : DSt → List Nat → List D → Option DSt
  | r, [], [] => some r
  | r, j :: js, d :: ds => setAll (r.set j (some d)) js ds
  | _, _, _ => none
def ctD : CT → D → DSt → Option DSt
  | .one i, d, r => some (r.set i (some d))
  | .tup js, .tup ds, r => setAll r js ds
  | _, _, _ => none
def gNames : List Nat → TGs
  | [] => gNil
  | j :: js => gCons (gName j) (gNames js)
def ctG (K : PySem.W.Frag) : CT → TG
  | .one i => gName i
  | .tup js => gTup K js.length (gNames js)
def CT.in (vs : List Nat) : CT → Prop
  | .one i => i ∈ vs
  | .tup js => ∀ j ∈ js, j ∈ vs
theorem wipe_set (σ : L2.St) (j : Nat) (v : Option V) : ∀ vs : List Nat, j ∈ vs → wipe (σ.set j v) vs = wipe σ vs
  | [], h => nomatch h
  | k :: vs, h => by
    show (wipe (σ.set j v) vs).set k none = (wipe σ vs).set k none
    by_cases hk : j ∈ vs
    · rw [wipe_set σ j v vs hk]
    · have e : j = k := by
        rcases List.mem_cons.mp h with h | h
        · exact h
        · exact absurd h hk
      subst e
      have comm : ∀ (vs : List Nat) (σ : L2.St), j ∉ vs → wipe (σ.set j v) vs = (wipe σ vs).set j v := by
        intro vs
        induction vs with
        | nil => intro σ _; rfl
        | cons a vs ih =>
          intro σ hn
          show (wipe (σ.set j v) vs).set a none = ((wipe σ vs).set a none).set j v
          rw [ih σ (fun z => hn (List.mem_cons_of_mem _ z))]
          exact List.set_comm _ _ (fun z => hn (by rw [z]; exact List.mem_cons_self))
      rw [comm vs σ hk, List.set_set]
theorem wipe_wipe (σ : L2.St) : ∀ vs ws : List Nat, (∀ j ∈ vs, j ∈ ws) → wipe (wipe σ vs) ws = wipe σ ws
  | [], _, _ => rfl
  | k :: vs, ws, h => by
    show wipe ((wipe σ vs).set k none) ws = wipe σ ws
    rw [wipe_set _ k none ws (h k List.mem_cons_self), wipe_wipe σ vs ws fun j hj => h j (List.mem_cons_of_mem _ hj)]
def wipeD (r : DSt) : List Nat → DSt
  | [] => r
  | v :: vs => (wipeD r vs).set v none
theorem rs_none {K : PySem.W.Frag} {G : Hp} {r : DSt} {s : L2.St} (h : Rs K G r s) (i : Nat) (v : Option V) : Rs K G (r.set i none) (s.set i v) := ⟨by simp [h.len], fun j e hj => by
  by_cases hi : i = j
  · subst hi
    by_cases hl : i < r.length
    · rw [List.getElem?_set_self hl] at hj
      cases hj
    · rw [List.getElem?_eq_none (by simp; omega)] at hj
      cases hj
  · rw [List.getElem?_set_ne hi] at hj ⊢
    exact h.at_ j e hj⟩
theorem rs_wipe {K : PySem.W.Frag} {G : Hp} {r : DSt} {s : L2.St} (h : Rs K G r s) : ∀ vs : List Nat, Rs K G (wipeD r vs) (wipe s vs)
  | [] => h
  | v :: vs => rs_none (rs_wipe h vs) v none
theorem names_ok {K : PySem.W.Frag} {G : Hp} {vs : List Nat} {H : Hp} {Q : L2.St → Hp → Prop} {s0 : L2.St} : ∀ {js : List Nat} {r r2 : DSt} {s : L2.St} {ds : List D} {us : List V}, (∀ j ∈ js, j ∈ vs) → Rs K G r s → Rps K G ds us → setAll r js ds = some r2 → wipe s vs = s0 →
    (∀ s2, Rs K G r2 s2 → wipe s2 vs = s0 → Q s2 H) → gNames js us s H Q
  | [], r, r2, s, [], us, _, rs, p, e, w, k => by
    cases p; cases e
    exact ⟨rfl, k s rs w⟩
  | [], r, r2, s, d :: ds, us, _, rs, p, e, w, k => by cases e
  | j :: js, r, r2, s, [], us, _, rs, p, e, w, k => by cases e
  | j :: js, r, r2, s, d :: ds, us, hj, rs, p, e, w, k => by
    cases p with | cons p1 p2 =>
    refine ⟨_, _, rfl, ?_⟩
    exact names_ok (r2 := r2) (fun i hi => hj i (List.mem_cons_of_mem _ hi)) (rs.set p1) p2 e (by rw [wipe_set _ _ _ _ (hj j List.mem_cons_self)]; exact w) k
theorem setAll_len : ∀ {js : List Nat} {ds : List D} {r r2 : DSt}, setAll r js ds = some r2 → ds.length = js.length
  | [], [], _, _, _ => rfl
  | [], _ :: _, _, _, e => by cases e
  | _ :: _, [], _, _, e => by cases e
  | j :: js, d :: ds, r, r2, e => congrArg Nat.succ (setAll_len (js := js) (ds := ds) e)
theorem ct_ok {K : PySem.W.Frag} {G : Hp} {vs : List Nat} {H : Hp} {Q : L2.St → Hp → Prop} {c : CT} {r r2 : DSt} {s : L2.St} {d : D} {v : V} (hc : c.in vs) (rs : Rs K G r s) (p : Rp K G d v) (e : ctD c d r = some r2) (sm : Same G H)
    (k : ∀ s2, Rs K G r2 s2 → wipe s2 vs = wipe s vs → Q s2 H) : ctG K c v s H Q := by
  cases c with
  | one i =>
    cases e
    exact k _ (rs.set p) (wipe_set _ _ _ _ hc)
  | tup js =>
    cases d with
    | tup ds =>
      cases p with | tup h1 r1 =>
      exact ⟨_, _, rfl, same_sqt sm h1, by rw [← r1.length]; exact setAll_len e, names_ok hc rs r1 e rfl k⟩
    | _ => cases e
def dLcL (c : CT) (vs : List Nat) (tt : DTT) (te : DTE) : List D → List D → DSt → M → (List D → M → Prop) → Prop
  | [], acc, _, m, Q => Q acc m
  | x :: xs, acc, r, m, Q => ∃ r2, ctD c x (wipeD r vs) = some r2 ∧ tt r2 m fun b m1 => if b = true then te r2 m1 fun y m2 => acc.length < sizeLine ∧ dLcL c vs tt te xs (acc ++ [y]) r m2 Q else dLcL c vs tt te xs acc r m1 Q
def dLc (mt : Bool) (ti : DTI) (c : CT) (vs : List Nat) (tt : DTT) (te : DTE) : DTE := fun r m Q => ti r m fun ds m1 => dLcL c vs tt te ds [] r m1 fun acc m2 => mkL mt acc m2 Q
theorem lc_pure {c : CT} {vs : List Nat} {te : DTE} {r : DSt} {m : M} (f : D → D) : ∀ {xs acc : List D} {Q : List D → M → Prop}, acc.length + xs.length ≤ sizeLine → (∀ x ∈ xs, ∃ r2, ctD c x (wipeD r vs) = some r2 ∧ ∀ Q' : D → M → Prop, Q' (f x) m → te r2 m Q') → Q (acc ++ xs.map f) m → dLcL c vs (fun _ m Q => Q true m) te xs acc r m Q
  | [], acc, Q, _, _, q => by
    show Q acc m
    rw [List.map_nil, List.append_nil] at q
    exact q
  | x :: xs, acc, Q, hz, h, q => by
    obtain ⟨r2, e, t⟩ := h x List.mem_cons_self
    have hz' : acc.length + (xs.length + 1) ≤ sizeLine := hz
    refine ⟨r2, e, ?_⟩
    show (if true = true then _ else _)
    rw [if_pos rfl]
    refine t _ ⟨by omega, lc_pure f (by rw [List.length_append]; simp; omega) (fun y hy => h y (List.mem_cons_of_mem _ hy)) ?_⟩
    rw [List.append_assoc]
    exact q
theorem lc_filter {c : CT} {vs : List Nat} {tt : DTT} {te : DTE} {r : DSt} {m : M} (p : D → Bool) (f : D → D) : ∀ {xs acc : List D} {Q : List D → M → Prop}, acc.length + xs.length ≤ sizeLine →
    (∀ x ∈ xs, ∃ r2, ctD c x (wipeD r vs) = some r2 ∧ (∀ Q' : Bool → M → Prop, Q' (p x) m → tt r2 m Q') ∧ (p x = true → ∀ Q' : D → M → Prop, Q' (f x) m → te r2 m Q')) → Q (acc ++ (xs.filter p).map f) m → dLcL c vs tt te xs acc r m Q
  | [], acc, Q, _, _, q => by
    show Q acc m
    rw [List.filter_nil, List.map_nil, List.append_nil] at q
    exact q
  | x :: xs, acc, Q, hz, h, q => by
    obtain ⟨r2, e, t, u⟩ := h x List.mem_cons_self
    have hz' : acc.length + (xs.length + 1) ≤ sizeLine := hz
    refine ⟨r2, e, t _ ?_⟩
    rw [List.filter_cons] at q
    cases hp : p x with
    | true =>
      rw [if_pos rfl]
      rw [hp, if_pos rfl] at q
      refine u hp _ ⟨by omega, lc_filter p f (by rw [List.length_append]; simp; omega) (fun y hy => h y (List.mem_cons_of_mem _ hy)) ?_⟩
      rw [List.append_assoc]
      exact q
    | false =>
      rw [if_neg Bool.false_ne_true]
      rw [hp, if_neg Bool.false_ne_true] at q
      exact lc_filter p f (by omega) (fun y hy => h y (List.mem_cons_of_mem _ hy)) q
section
variable {X : Cx} {W : WX} {WD : DWX}
abbrev DTs (X : Cx) (W : WX) (WD : DWX) (ifs : List Expr) (t : DTT) : Prop := PTs X ifs (upT X.K W WD t)
theorem PTs.imp {ifs : List Expr} {t t' : TT} (h : PTs X ifs t) (i : ∀ σ H Q, t' σ H Q → t σ H Q) : PTs X ifs t' := ⟨fun pins s σ H Q I q => h.run pins s σ H Q I (i σ H Q q)⟩
def dYes : DTT := fun _ m Q => Q true m
theorem dts_nil : DTs X W WD [] dYes := by
  refine PTs.imp pts_nil fun σ H Q h => ?_
  obtain ⟨G, F, ρ, m, QD, x, t, k⟩ := h
  exact k G H m true (Same.refl G) x.rep t
theorem dts_one {c : Expr} {t : DTT} (h : DT X W WD c t) : DTs X W WD [c] t := pts_one h
abbrev W0 : WX := fun _ _ _ _ => False
abbrev WD0 : DWX := fun _ _ _ => False
theorem lc_up {K : PySem.W.Frag} {ti : DTI} {c : CT} {vs : List Nat} {tt : DTT} {te : DTE} {mt : Bool} {σ : L2.St} {H : Hp} {Q : VK} (hc : c.in vs) (h : up K W WD (dLc mt ti c vs tt te) σ H Q) : tLc (upI K W WD ti) (ctG K c) (upT K W0 WD0 tt) (up K W0 WD0 te) vs σ H Q := by
  obtain ⟨G, F, r, m, QD, x, t, k⟩ := h
  refine ⟨G, F, r, m, _, x, t, fun G1 H1 m1 ds J e1 r1 it t1 => ?_⟩
  intro Dl hD
  have hF : F Dl = none := r1.frm.free hD
  refine ⟨fun i n H => n = ds.length - i ∧ i ≤ ds.length ∧ ∃ G2 m2 acc va, Same G1 G2 ∧ Rep K G2 H (upd F Dl (.lst va)) m2 ∧ Rps K G2 acc va ∧ dLcL c vs tt te (ds.drop i) acc r m2 (fun acc m => mkL mt acc m QD), ⟨ds.length, rfl, Nat.zero_le _, G1, m1, [], [], Same.refl G1, r1.hide hD, .nil, t1⟩, ?_⟩
  rintro i n H2 ⟨rfl, hi, G2, m2, acc, va, e2, rep2, ra, t2⟩
  by_cases hlt : i < ds.length
  · have hdrop : ds.drop i = ds[i] :: ds.drop (i + 1) := (List.getElem_cons_drop hlt).symm
    rw [hdrop] at t2
    obtain ⟨r2, ec, t2⟩ := t2
    refine .inr ⟨it.go i H2 hlt (e2.trans rep2.ext), fun H3 => ∃ G3 m3 acc va, Same G1 G3 ∧ Rep K G3 H3 (upd F Dl (.lst va)) m3 ∧ Rps K G3 acc va ∧ dLcL c vs tt te (ds.drop (i + 1)) acc r m3 (fun acc m => mkL mt acc m QD), fun H3 h3 => ⟨ds.length - (i + 1), by omega, rfl, hlt, h3⟩, fun v H3 y => ?_⟩
    obtain ⟨G3, e3, rep3, p3⟩ := it.yld i G2 H2 _ m2 v H3 ds[i] e2 rep2 (by simp [hlt]) y
    have e03 : Same G G3 := (e1.trans e2).trans e3
    refine ct_ok hc (rs_wipe (x.rs.mono e03) vs) p3 ec rep3.ext fun s2 rs2 w2 => ?_
    refine ⟨w2.trans (wipe_wipe σ vs vs fun _ h => h), G3, _, r2, m2, _, ⟨rep3, rs2, Lx.no⟩, t2, fun G4 H4 m4 b e4 rep4 t4 => ?_⟩
    cases b with
    | false => exact ⟨G4, m4, acc, va, (e2.trans e3).trans e4, rep4, ra.mono (e3.trans e4), t4⟩
    | true =>
      refine ⟨G4, _, r2, m4, _, ⟨rep4, rs2.mono e4, Lx.no⟩, t4, fun G5 H5 m5 d v e5 rep5 p5 t5 => ?_⟩
      have ra5 := ra.mono ((e3.trans e4).trans e5)
      exact ⟨va, rep5.frm Dl _ upd_same, by rw [← ra5.length]; exact t5.1, G5, m5, acc ++ [d], va ++ [v], ((e2.trans e3).trans e4).trans e5, rep5.turn, ra5.append (.cons p5 .nil), t5.2⟩
  · have e : i = ds.length := by omega
    subst e
    rw [List.drop_length] at t2
    refine .inl ⟨it.stop H2 (e2.trans rep2.ext), ?_⟩
    cases mt with
    | false =>
      obtain ⟨e3, rep3, p3⟩ := rep2.outL hF ra
      exact k _ H2 m2 _ _ ((e1.trans e2).trans e3) rep3 p3 t2
    | true =>
      obtain ⟨mp, rep3⟩ := rep2.outM hF ra
      exact k _ H2 _ _ _ (e1.trans e2) rep3 (.ref Dl) (t2 Dl mp)
theorem pg_ct1 {Y : Cx} {i : Nat} {x : Str} {pos : Pos} (hN : Y.N.Nodup) (hi : Y.N[i]? = some x) (hx : Loc Y.env.scope x) (hf : Y.fn x = true ∨ Y.env.scope.names.lookup x = some .local := by first | exact .inl rfl | exact .inr rfl | assumption) : PG Y (.Name x pos) (ctG Y.K (.one i)) := pg_name hN hi hx hf
theorem pg_ctT {Y : Cx} {es : List Expr} {js : List Nat} {k : Nat} {pos : Pos} (hc : Y.calm = true) (h : PGs Y es (gNames js)) (hn : (assignEach es Y.env).length = js.length := by rfl) (hst : (assignEach es Y.env).findIdx? (·.1) = none := by rfl) : PG Y (.Tuple es k pos) (ctG Y.K (.tup js)) := pg_tup hc h hn hst
theorem de_lc (mt : Bool) {elt tg iter : Expr} {ifs : List Expr} {scope : Scope} {own : List (Str × Nat)} {pos : Pos} {ti : DTI} {c : CT} {tt : DTT} {te : DTE} (hc : X.calm = true) (hN : X.N.Nodup) (hin : c.in (own.map (·.2))) (hi : DI X W WD tg iter ti) (ok : BlkOk X.N X.env.scope scope own)
    (hg : ∀ (s : Shared) (H : Hp) (C : Addr) (cl : List (Str × Addr)) (fp : List Addr), PG (X.blk s H scope (compEnvC scope cl C X.env) fp) tg (ctG X.K c)) (ht : ∀ (s : Shared) (H : Hp) (C : Addr) (cl : List (Str × Addr)) (fp : List Addr), DTs (X.blk s H scope (compEnvC scope cl C X.env) fp) W0 WD0 ifs tt)
    (he : ∀ (s : Shared) (H : Hp) (C : Addr) (cl : List (Str × Addr)) (fp : List Addr), DE (X.blk s H scope (compEnvC scope cl C X.env) fp) W0 WD0 elt te) (hs : ∀ x, foldedSetIterable iter X.env x = pure x := by intro _; rfl) :
    DE X W WD (.ListComp elt [⟨tg, iter, ifs, 0⟩] scope pos) (dLc mt ti c (own.map (·.2)) tt te) :=
  PE.imp (pe_lc hc hN hi ok hg ht he hs) fun _ _ _ h => lc_up hin h
theorem ds_setLc (mt : Bool) {i : Nat} {y : Str} {py : Pos} {elt tg iter : Expr} {ifs : List Expr} {scope : Scope} {own : List (Str × Nat)} {pos spos : Pos} {ti : DTI} {c : CT} {tt : DTT} {te : DTE} (hc : X.calm = true) (hN : X.N.Nodup) (hy : X.N[i]? = some y) (hyl : X.env.scope.names.lookup y = some .local)
    (hsw : swapsWith (.ListComp elt [⟨tg, iter, ifs, 0⟩] scope pos) (some (.Name y py)) spos.line X.env = pure true) (hin : c.in (own.map (·.2))) (hi : DI X W WD tg iter ti) (ok : BlkOk X.N X.env.scope scope own)
    (hg : ∀ (s : Shared) (H : Hp) (C : Addr) (cl : List (Str × Addr)) (fp : List Addr), PG (X.blk s H scope (compEnvC scope cl C X.env) fp) tg (ctG X.K c)) (ht : ∀ (s : Shared) (H : Hp) (C : Addr) (cl : List (Str × Addr)) (fp : List Addr), DTs (X.blk s H scope (compEnvC scope cl C X.env) fp) W0 WD0 ifs tt)
    (he : ∀ (s : Shared) (H : Hp) (C : Addr) (cl : List (Str × Addr)) (fp : List Addr), DE (X.blk s H scope (compEnvC scope cl C X.env) fp) W0 WD0 elt te) (hs : ∀ x, foldedSetIterable iter X.env x = pure x := by intro _; rfl) :
    DS X W WD (.Assign [.Name y py] (.ListComp elt [⟨tg, iter, ifs, 0⟩] scope pos) spos) (dSet i (dLc mt ti c (own.map (·.2)) tt te)) := by
  refine PS.imp (ps_setLc (tt := upT X.K W0 WD0 tt) (te := up X.K W0 WD0 te) hc hN hy hyl hsw hi ok hg ht he hs) fun E σ H h => ?_
  obtain ⟨G, F, r, m, DD, x, t, k⟩ := h
  have h2 : up X.K W WD (dLc mt ti c (own.map (·.2)) tt te) σ H (fun v H1 => E.nx (σ.set i (some v)) H1) := ⟨G, F, r, m, _, x, t, fun G1 H1 m1 d v e1 p1 q1 t1 => k.nx G1 H1 m1 _ _ e1 p1 ((x.rs.mono e1).set q1) t1⟩
  exact lc_up hin h2
end
end DL

set_option Elab.async false
set_option linter.all false
set_option maxRecDepth 100000
set_option maxHeartbeats 4000000
namespace DL
open PySem PySem.Spec PyProof.Rows L2

abbrev DSp := List D → M → (D → M → Prop) → (XD → M → Prop) → Prop
def liftSp (K : PySem.W.Frag) (sp : DSp) : Sp := fun vs H Q E => ∃ (G F : Hp) (m : M) (ds : List D) (QD : D → M → Prop) (ED : XD → M → Prop), Rep K G H F m ∧ Rps K G ds vs ∧ sp ds m QD ED ∧ Kv K G F QD Q ∧
  ∀ (G' H' : Hp) (m' : M) (C : Addr) (fs : List (Str × D)) (d : Option Addr), Same G G' → Rep K G' H' F m' → RpX K G' d fs → ED ⟨C, fs⟩ m' → E (.ref C) d H'
def startD (N : List Str) (ds : List D) : DSt := ds.map some ++ List.replicate (N.length - ds.length) none
theorem rs_start {K : PySem.W.Frag} {G : Hp} {N : List Str} {ds : List D} {vs : List V} (h : Rps K G ds vs) : Rs K G (startD N ds) (L2.start N vs) := by
  refine ⟨by simp [startD, L2.start, h.length], fun i d e => ?_⟩
  unfold startD at e
  unfold L2.start
  by_cases hi : i < ds.length
  · rw [List.getElem?_append_left (by simpa using hi), List.getElem?_map] at e
    cases q : ds[i]? with
    | none => rw [q] at e; cases e
    | some d2 =>
      rw [q] at e
      cases e
      obtain ⟨v, h1, h2⟩ := h.get q
      refine ⟨v, ?_, h2⟩
      rw [List.getElem?_append_left (by rw [List.length_map, ← h.length]; exact hi), List.getElem?_map, h1]
      rfl
  · rw [List.getElem?_append_right (by simpa using hi)] at e
    by_cases hj : i - ds.length < N.length - ds.length
    · rw [List.length_map, List.getElem?_replicate, if_pos hj] at e
      cases e
    · rw [List.length_map, List.getElem?_replicate, if_neg hj] at e
      cases e
section
variable {P : Program} {w : World} {K : PySem.W.Frag} {mg : Str → Option Value} {base : Heap} {x qual : Str} {params : Arguments} {body : List Stmt} {scope : Scope} {dvs : List V} {kws : List (Str × V)} {f : Addr} {fd : FuncData}
abbrev CXo (P : Program) (w : World) (K : PySem.W.Frag) (mg : Str → Option Value) (base : Heap) (N : List Str) (qual : Str) (scope : Scope) (f : Addr) (cdv : Value) (A : Around) (outer : List Env) (s : Shared) (H : Hp) (E : XK) : Cx := cxOf (L2.CX P w) P w K mg base N qual scope f cdv A outer s H E
abbrev WE0 (E : XK) : WX := fun cls d _ H => E cls d H
theorem fn_d {N ps : List Str} {k : Nat} {sp : DSp} (F : FunD K x qual params body scope dvs kws f fd) (S : FnScope N ps scope) (len : ∀ ds m Q E, sp ds m Q E → ds.length = ps.length) (t : DWX → DTS)
    (hb : ∀ (cdv : Value) (A : Around) (outer : List Env) (s : Shared) (H : Hp) (E : XK) (WD : DWX), Room k (A.deeper (envOfC qual scope s.heap.objs.size f cdv)) → Takes (CXo P w K mg base N qual scope f cdv A outer s H E) (WE0 E) →
      PassesOwn (model P w) (CXo P w K mg base N qual scope f cdv A outer s H E).A (CXo P w K mg base N qual scope f cdv A outer s H E).env (CXo P w K mg base N qual scope f cdv A outer s H E).xe → DSs (CXo P w K mg base N qual scope f cdv A outer s H E) (WE0 E) WD body (t WD))
    (pure_ : ∀ ds m Q E, sp ds m Q E → t (fun x _ m => E x m) { nx := fun _ m => Q .non m, rt := Q } (startD N ds) m) : FnOk P w K mg base (L2.CX P w) (k + 1) f fd ps (liftSp K sp) := by
  refine F.ok S (fun vs H Q E h => ?_) (fun cdv A outer s H vs Q E hr h => ?_)
  · obtain ⟨G, F, m, ds, QD, ED, rep, rs, hs, _⟩ := h
    rw [← rs.length]
    exact len ds m QD ED hs
  · obtain ⟨G, F, m, ds, QD, ED, rep, rs, hs, kv, kx⟩ := h
    refine ⟨_, hb cdv A outer s H E (fun x _ m => ED x m) hr (takes_of rfl rfl rfl rfl) (passes_of rfl), ?_⟩
    refine ⟨G, F, startD N ds, m, _, ⟨rep, rs_start rs, fun G' H' m' r' s' C fs d e r rs' rx wd => kx G' H' m' C fs d e r rx wd⟩, pure_ ds m QD ED hs, ⟨fun G' H' m' r' s' e r rs' q => kv G' H' m' _ _ e r .non q, kv, ?_, ?_⟩⟩
    · exact fun _ _ _ _ _ _ _ _ q => q.elim
    · exact fun _ _ _ _ _ _ _ _ q => q.elim
end

def dCall (sp : DSp) (WD : DWX) (dds : List D) (t : DTA) : DTE := fun r m Q => t r m fun ds m1 => sp (ds ++ dds) m1 Q fun x m2 => WD x r m2
theorem lift_call {K : PySem.W.Frag} {W : WX} {WD : DWX} {G H F : Hp} {r : DSt} {σ : L2.St} {m : M} {sp : DSp} {ds : List D} {vs : List V} {QD : D → M → Prop} {Q : VK} (x : Sx K W WD G H F r σ m) (rs : Rps K G ds vs) (t : sp ds m QD fun x m2 => WD x r m2) (k : Kv K G F QD Q) : liftSp K sp vs H Q (WE W σ) :=
  ⟨G, F, m, ds, QD, _, x.rep, rs, t, k, fun G' H' m' C fs d e r' rx wd => x.lx G' H' m' r σ C fs d e r' (x.rs.mono e) rx wd⟩
section
variable {X : Cx} {W : WX} {WD : DWX} {k : Nat} {f C g : Addr} {fd : FuncData} {ps : List Str} {sp : DSp} {dvs : List V} {dds : List D} {ds : List Value} {x mn : Str} {p pos apos : Pos} {e o : Expr} {es : List Expr} {ta : DTE} {t : DTA}
theorem de_call (F : FnOk X.prog X.w X.K X.mg X.base (L2.CX X.prog X.w) k f fd ps (liftSp X.K sp)) (hr : Room k X.A) (hg : Gl X x) (hm : X.mg x = some (.ref f)) (hk : PySem.W.keepIn X.K (.ref f) = true) (hb : Binds X.K fd ps ds) (hd : Vals dvs ds) (hdd : ∀ G, Rps X.K G dds dvs) (tk : Takes X W)
    (ha : DA X W WD (e :: es) t) (hdb : (x == ("__debug__" : Str)) = false := by decide) (he : starEach (e :: es) X.env = (false, eval e X.env) :: starEach es X.env := by rfl) (hpl : (backTo pos (starEach es X.env)).any (·.1) = false := by rfl) :
    DE X W WD (.Call (.Name x p) (e :: es) [] pos) (dCall sp WD dds t) := by
  refine PE.imp (pe_callSD (E := WE W) F hr hg hm hk hb hd (fun σ => passAt tk σ) ha hdb he hpl) fun σ H Q h => ?_
  obtain ⟨G, F, r, m, QD, x, t, k⟩ := h
  refine ⟨G, F, r, m, _, x, t, fun G1 H1 m1 ds vs e1 r1 p1 t1 => ?_⟩
  exact lift_call (x.step e1 r1) (p1.append (hdd G1)) t1 (k.mono e1)
def insOf (m : M) : D → Option (Addr × List (Str × D))
  | .ins C fs => some (C, fs)
  | .ref a => (m a).bind fun o => match o with
    | .ins C fs => some (C, fs)
    | _ => none
  | _ => none
theorem ins_ok {K : PySem.W.Frag} {G H F : Hp} {m : M} {d : D} {v : V} {C : Addr} {fs : List (Str × D)} (r : Rep K G H F m) (p : Rp K G d v) (e : insOf m d = some (C, fs)) : ∃ a dx fv, v = .ref a ∧ H a = some (.ins C dx fv) ∧ Rpf K G fs fv := by
  cases d with
  | ins C' fs' => cases e; cases p with | ins h1 r1 => exact ⟨_, _, _, rfl, r.ext _ _ h1, r1⟩
  | ref a =>
    cases p
    dsimp only [insOf] at e
    cases q : m a with
    | none => rw [q] at e; cases e
    | some o =>
      rw [q] at e
      cases o with
      | ins C' fs' =>
        obtain ⟨_, _, u, h3, h4⟩ := r.mo a _ q
        obtain ⟨dx, fv, rfl, h5⟩ := h4.ofIns
        cases e
        exact ⟨_, _, _, rfl, h3, h5⟩
      | _ => cases e
  | _ => cases e
def dFld (K : PySem.W.Frag) (ta : DTE) (f : Str) : DTE := fun r m Q => ta r m fun x m1 => ∃ C fs d, insOf m1 x = some (C, fs) ∧ Cls K C ∧ NoAttr K C f ∧ fs.lookup f = some d ∧ Q d m1
theorem de_fld {f : Str} (he : DE X W WD e ta) (hb : attributeBase e f X.env (eval e X.env) = eval e X.env := by rfl) : DE X W WD (.Attribute e f pos) (dFld X.K ta f) := by
  refine PE.imp (pe_fld he hb) fun σ H Q h => ?_
  obtain ⟨G, F, r, m, QD, x, t, k⟩ := h
  refine ⟨G, F, r, m, _, x, t, fun G1 H1 m1 d1 v1 e1 r1 p1 t1 => ?_⟩
  obtain ⟨C, fs, d, e2, c, n, l, t2⟩ := t1
  obtain ⟨a, dx, fv, rfl, h1, h2⟩ := ins_ok r1 p1 e2
  obtain ⟨v, l2, q2⟩ := h2.lookup l
  exact ⟨a, C, dx, fv, v, rfl, h1, c, n, l2, k G1 H1 m1 d v e1 r1 q2 t2⟩
def dFldS (K : PySem.W.Frag) (ta tv : DTE) (f : Str) : DTS := fun DD r m => tv r m fun y m1 => ta r m1 fun x m2 => ∃ a C fs, x = .ref a ∧ m2 a = some (.ins C fs) ∧ Cls K C ∧ NoAttr K C f ∧ fs.length < 1000 ∧ DD.nx r (mset m2 a (.ins C (putD f y fs)))
theorem ds_fld {value : Expr} {tv : DTE} {f : Str} {pos' : Pos} (ha : DE X W WD o ta) (hv : DE X W WD value tv) (hs : swapsWith value (some (.Attribute o f pos')) pos.line X.env = pure false := by rfl) : DS X W WD (.Assign [.Attribute o f pos'] value pos) (dFldS X.K ta tv f) := by
  refine PS.imp (ps_fld ha hv hs) fun E σ H h => ?_
  obtain ⟨G, F, r, m, DD, x, t, k⟩ := h
  refine ⟨G, F, r, m, _, x, t, fun G1 H1 m1 d1 v1 e1 r1 p1 t1 => ?_⟩
  refine ⟨G1, F, r, m1, _, x.step e1 r1, t1, fun G2 H2 m2 d2 v2 e2 r2 p2 t2 => ?_⟩
  obtain ⟨a, C, fs, rfl, hm, c, n, l, t3⟩ := t2
  cases p2
  obtain ⟨_, _, u, h3, h4⟩ := r2.mo a _ hm
  obtain ⟨dx, fv, rfl, h5⟩ := h4.ofIns
  refine ⟨a, C, dx, fv, rfl, h3, c, n, by rw [← h5.length]; exact l, ?_⟩
  exact k.nx G2 _ _ r σ (e1.trans e2) (r2.write hm (show RpM X.K G2 (.ins C (putD f d1 fs)) (.ins C dx (putF f v1 fv)) from ⟨rfl, h5.put (p1.mono e2)⟩)) (x.rs.mono (e1.trans e2)) t3
def dMeth (C : Addr) (mn : Str) (sp : DSp) (WD : DWX) (dds : List D) (ta : DTE) (t : DTA) : DTE := fun r m Q => ta r m fun x m1 => ∃ fs, insOf m1 x = some (C, fs) ∧ fs.lookup mn = none ∧ t r m1 fun ds m2 => sp (x :: (ds ++ dds)) m2 Q fun x m2 => WD x r m2
def tMethS (C : Addr) (m : Str) (sp : Sp) (dvs : List V) (E : L2.St → XK) (ta : TE) (t : TA) : TE := fun σ H Q => ta σ H fun x H1 => ∃ a dx fs, x = .ref a ∧ H1 a = some (.ins C dx fs) ∧ fs.lookup m = none ∧
  t σ H1 fun vs H2 => sp (x :: (vs ++ dvs)) H2 Q (E σ)
theorem pe_methS {pl : Sem Bool} {sp : Sp} {E : L2.St → XK} {ta : TE} {t : TA} {CX : CXT} (he : PE X o ta) (c : Cls X.K C) (hm : Meth X.K C mn f) (F : FnOk X.prog X.w X.K X.mg X.base CX k f fd ps sp) (hr : Room k X.A) (hb : Binds X.K fd ps ds) (hd : Vals dvs ds) (hx : ∀ σ, PassesAt CX X σ (E σ)) (ha : PA X (e :: es) t)
    (hst : starEach (e :: es) X.env = (false, eval e X.env) :: starEach es X.env := by rfl) (hpl : (backTo pos (starEach es X.env)).any (·.1) = false := by rfl)
    (ht : eval (.Call (.Attribute o mn apos) (e :: es) [] pos) X.env = (do
      let ov ← eval o X.env
      standAt apos.atName
      let (f, first) ← holding [ov] (getMethod ov mn pl)
      callWith pos f first (backTo pos (starEach (e :: es) X.env)) (backToKw pos (keywordEach [] X.env))) := by rfl) :
    PE X (.Call (.Attribute o mn apos) (e :: es) [] pos) (tMethS C mn sp dvs E ta t) := by
  refine ⟨fun pins s σ H Q I h => ?_⟩
  refine PySem.W.methodCall_KW (pl := pl) (thn (he.run pins s σ H _ I h) fun u s1 ⟨x, H1, I1, rx, a, dx, fs, ex, ea, l, q⟩ => ?_) ht
  subst ex
  obtain rfl : u = Value.ref a := rx
  refine getmeth_ok I1 ea c hm l ?_
  refine PySem.W.callWith_K (first := [.ref a]) (h₀ := X.base) I.ok.mod.kin hm.kp (thn (ha.run pos pins s1 σ H1 _ I1 q) fun us s2 ⟨vs, H2, I2, r, q2⟩ => ⟨I2.kIn, ?_⟩) hst hpl
  exact run_fnSD (us := .ref a :: us) (vs := .ref a :: vs) F hr hb hd (hx σ) I2 (.cons rfl r) q2
theorem up_meth {K : PySem.W.Frag} {σ : L2.St} {H : Hp} {Q : VK} (hdd : ∀ G, Rps K G dds dvs) (h : up K W WD (dMeth C mn sp WD dds ta t) σ H Q) : tMethS C mn (liftSp K sp) dvs (WE W) (up K W WD ta) (upA K W WD t) σ H Q := by
  obtain ⟨G, F, r, m, QD, x, t, k⟩ := h
  refine ⟨G, F, r, m, _, x, t, fun G1 H1 m1 d1 v1 e1 r1 p1 t1 => ?_⟩
  obtain ⟨fs, e2, l, t2⟩ := t1
  obtain ⟨a, dx, fv, rfl, h1, h2⟩ := ins_ok r1 p1 e2
  refine ⟨a, dx, fv, rfl, h1, h2.lookupN l, G1, F, r, m1, _, x.step e1 r1, t2, fun G2 H2 m2 ds vs e3 r3 p3 t3 => ?_⟩
  exact lift_call (x.step (e1.trans e3) r3) (.cons (p1.mono e3) (p3.append (hdd G2))) t3 (k.mono (e1.trans e3))
theorem de_meth {pl : Sem Bool} (he : DE X W WD o ta) (c : Cls X.K C) (hm : Meth X.K C mn f) (F : FnOk X.prog X.w X.K X.mg X.base (L2.CX X.prog X.w) k f fd ps (liftSp X.K sp)) (hr : Room k X.A) (hb : Binds X.K fd ps ds) (hd : Vals dvs ds) (hdd : ∀ G, Rps X.K G dds dvs) (tk : Takes X W) (ha : DA X W WD (e :: es) t)
    (hst : starEach (e :: es) X.env = (false, eval e X.env) :: starEach es X.env := by rfl) (hpl : (backTo pos (starEach es X.env)).any (·.1) = false := by rfl)
    (ht : eval (.Call (.Attribute o mn apos) (e :: es) [] pos) X.env = (do
      let ov ← eval o X.env
      standAt apos.atName
      let (f, first) ← holding [ov] (getMethod ov mn pl)
      callWith pos f first (backTo pos (starEach (e :: es) X.env)) (backToKw pos (keywordEach [] X.env))) := by rfl) :
    DE X W WD (.Call (.Attribute o mn apos) (e :: es) [] pos) (dMeth C mn sp WD dds ta t) := PE.imp (pe_methS (E := WE W) he c hm F hr hb hd (fun σ => passAt tk σ) ha hst hpl ht) fun _ _ _ h => up_meth hdd h
def dProp (C : Addr) (sp : DSp) (ta : DTE) : DTE := fun r m Q => ta r m fun x m1 => ∃ fs, insOf m1 x = some (C, fs) ∧ sp [x] m1 Q fun _ _ => False
theorem de_prop {fn : Str} {pa : Addr} (he : DE X W WD e ta) (c : Cls X.K C) (hp : PropOf X.K C fn pa g) (F : FnOk X.prog X.w X.K X.mg X.base (L2.CX X.prog X.w) k g fd ps (liftSp X.K sp)) (hr : Room (k + 1) X.A) (hb : Binds X.K fd ps [])
    (hab : attributeBase e fn X.env (eval e X.env) = eval e X.env := by rfl) : DE X W WD (.Attribute e fn pos) (dProp C sp ta) := by
  refine PE.imp (pe_prop (E := E0) he c hp F hr hb .nil passL hab) fun σ H Q h => ?_
  obtain ⟨G, F, r, m, QD, x, t, k⟩ := h
  refine ⟨G, F, r, m, _, x, t, fun G1 H1 m1 d1 v1 e1 r1 p1 t1 => ?_⟩
  obtain ⟨fs, e2, t2⟩ := t1
  obtain ⟨a, dx, fv, rfl, h1, h2⟩ := ins_ok r1 p1 e2
  exact ⟨a, dx, fv, rfl, h1, G1, F, m1, [d1], QD, _, r1, .cons p1 .nil, t2, k.mono e1, fun _ _ _ _ _ _ _ _ _ q => q.elim⟩
def tMakeS (C : Addr) (sp : Sp) (dvs : List V) (E : L2.St → XK) (t : TA) : TE := fun σ H Q => t σ H fun vs H1 => ∀ x dx, H1 x = none → H1 dx = none → dx ≠ x →
  sp (.ref x :: (vs ++ dvs)) (upd (upd H1 dx (.own x)) x (.ins C dx [])) (fun v H2 => v = .non ∧ Q (.ref x) H2) (E σ)
theorem run_makeS {CX : CXT} {sp : Sp} {E : XK} {pins : List (Addr × Obj)} {σ : L2.St} {H : Hp} {s : Shared} {Q : VK} {us : List Value} {vs : List V} (M : Mk X.K C f) (F : FnOk X.prog X.w X.K X.mg X.base CX k f fd ps sp) (hr : Room (k + 1) X.A) (hb : Binds X.K fd ps ds) (hd : Vals dvs ds)
    (hx : PassesAt CX X σ E) (I : Inv X pins σ H s) (r : Vals vs us)
    (h : ∀ x dx, H x = none → H dx = none → dx ≠ x → sp (.ref x :: (vs ++ dvs)) (upd (upd H dx (.own x)) x (.ins C dx [])) (fun v H2 => v = .non ∧ Q (.ref x) H2) E) :
    wpAny (model X.prog X.w) X.A (call (.ref C) us) (EP X pins σ Q) X.xe s := by
  have hq := h (s.heap.objs.size + 1) s.heap.objs.size (I.hok.fresh (Nat.le_succ _)) (I.hok.fresh (Nat.le_refl _)) (Nat.ne_of_lt (Nat.lt_succ_self _))
  have I2 := Inv.made (C := C) I
  have r2 : Vals (V.ref (s.heap.objs.size + 1) :: (vs ++ dvs)) (Value.ref (s.heap.objs.size + 1) :: (us ++ ds)) := .cons rfl (r.append hd)
  have hl : (Value.ref (s.heap.objs.size + 1) :: us ++ ds).length = ps.length := by
    have e := r2.length
    rw [F.len _ _ _ _ hq] at e
    exact e.symm
  refine wpAny_call (make_map (f := f) I.kIn M.makes M.init (beq_iff_eq.mp M.fn) (codeAny_mono (F.run _ X.stack _ _ ⟨Value.ref (s.heap.objs.size + 1) :: us, []⟩ (Value.ref (s.heap.objs.size + 1) :: (us ++ ds)) _ _ E (hr.make C us [])
    (I2.env0.make C us []) (hb _ (Value.ref (s.heap.objs.size + 1) :: us) I2.kIn hl) r2 hq) fun r s' hq' => ?_))
  cases r with
  | error e => exact hx pins _ _ e s' I2 hq'
  | ok fl =>
    cases fl with
    | ret u =>
      obtain ⟨v, H', I3, rv, ev, q3⟩ := I2.after hq'
      subst ev
      exact ⟨rv, ⟨V.ref (s.heap.objs.size + 1), H', I3, rfl, q3⟩⟩
    | next => exact False.elim hq'
    | brk => exact False.elim hq'
    | cont => exact False.elim hq'
theorem pe_makeS {CX : CXT} {sp : Sp} {E : L2.St → XK} {t : TA} (M : Mk X.K C f) (F : FnOk X.prog X.w X.K X.mg X.base CX k f fd ps sp) (hr : Room (k + 1) X.A) (hg : Gl X x) (hm : X.mg x = some (.ref C)) (hb : Binds X.K fd ps ds) (hd : Vals dvs ds) (hx : ∀ σ, PassesAt CX X σ (E σ))
    (ha : PA X (e :: es) t) (hdb : (x == ("__debug__" : Str)) = false := by decide) (he : starEach (e :: es) X.env = (false, eval e X.env) :: starEach es X.env := by rfl) (hpl : (backTo pos (starEach es X.env)).any (·.1) = false := by rfl) :
    PE X (.Call (.Name x p) (e :: es) [] pos) (tMakeS C sp dvs E t) := by
  refine ⟨fun pins s σ H Q I h => ?_⟩
  refine wpAny_Call_Name_kw (ld_glob I hg hm ?_ hdb)
  refine PySem.W.callWith_K (h₀ := X.base) I.ok.mod.kin M.kp (thn (ha.run pos pins s σ H _ I h) fun us s1 ⟨vs, H1, I1, r, q⟩ => ⟨I1.kIn, ?_⟩) he hpl
  exact run_makeS M F hr hb hd (hx σ) I1 r q
def dMake (C : Addr) (sp : DSp) (WD : DWX) (dds : List D) (t : DTA) : DTE := fun r m Q => t r m fun ds m1 => ∀ x, m1 x = none → sp (.ref x :: (ds ++ dds)) (mset m1 x (.ins C [])) (fun _ m2 => ∃ fs, m2 x = some (.ins C fs) ∧ Q (.ins C fs) (mdel m2 x)) fun x m2 => WD x r m2
theorem de_make (M : Mk X.K C f) (F : FnOk X.prog X.w X.K X.mg X.base (L2.CX X.prog X.w) k f fd ps (liftSp X.K sp)) (hr : Room (k + 1) X.A) (hg : Gl X x) (hm : X.mg x = some (.ref C)) (hb : Binds X.K fd ps ds) (hd : Vals dvs ds) (hdd : ∀ G, Rps X.K G dds dvs) (tk : Takes X W)
    (hn : ∀ vs H Q E, liftSp X.K sp vs H Q E → liftSp X.K sp vs H (fun v H' => v = .non ∧ Q v H') E)
    (ha : DA X W WD (e :: es) t) (hdb : (x == ("__debug__" : Str)) = false := by decide) (he : starEach (e :: es) X.env = (false, eval e X.env) :: starEach es X.env := by rfl) (hpl : (backTo pos (starEach es X.env)).any (·.1) = false := by rfl) :
    DE X W WD (.Call (.Name x p) (e :: es) [] pos) (dMake C sp WD dds t) := by
  refine PE.imp (pe_makeS (E := WE W) M F hr hg hm hb hd (fun σ => passAt tk σ) ha hdb he hpl) fun σ H Q h => ?_
  obtain ⟨G, F, r, m, QD, x, t, k⟩ := h
  refine ⟨G, F, r, m, _, x, t, fun G1 H1 m1 ds vs e1 r1 p1 t1 => ?_⟩
  intro y dx hy hdx ne
  have r2 : Rep X.K G1 (upd (upd H1 dx (.own y)) y (.ins C dx [])) F (mset m1 y (.ins C [])) := (r1.junk (o := .own y) hdx).newm (u := .ins C []) (by rw [upd_ne (Ne.symm ne)]; exact hy) ⟨rfl, .nil⟩
  refine hn _ _ (fun _ H2 => Q (.ref y) H2) _ ?_
  refine lift_call (QD := fun _ m2 => ∃ fs, m2 y = some (.ins C fs) ∧ QD (.ins C fs) (mdel m2 y)) (x.step e1 r2) (.cons (.ref y) (p1.append (hdd G1))) (t1 y (r1.mfree hy)) fun G3 H3 m3 d v e3 r3 p3 t3 => ?_
  obtain ⟨fs, hm3, t4⟩ := t3
  obtain ⟨G4, e4, r4, p4⟩ := r3.freezeI hm3
  exact k G4 H3 _ _ _ ((e1.trans e3).trans e4) r4 p4 t4
theorem none_of {K : PySem.W.Frag} {sp : DSp} (h : ∀ ds m Q E, sp ds m Q E → sp ds m (fun d m' => d = .non ∧ Q d m') E) (vs : List V) (H : Hp) (Q : VK) (E : XK) (q : liftSp K sp vs H Q E) : liftSp K sp vs H (fun v H' => v = .non ∧ Q v H') E := by
  obtain ⟨G, F, m, ds, QD, ED, rep, rs, hs, kv, kx⟩ := q
  refine ⟨G, F, m, ds, _, ED, rep, rs, h ds m QD ED hs, fun G' H' m' d v e r p q => ?_, kx⟩
  obtain ⟨rfl, q⟩ := q
  cases p
  exact ⟨rfl, kv G' H' m' _ _ e r .non q⟩
def dCallO (C : Addr) (sp : DSp) (WD : DWX) (tf : DTE) (t : DTA) : DTE := fun r m Q => tf r m fun x m1 => (∃ fs, insOf m1 x = some (C, fs)) ∧ t r m1 fun ds m2 => ∃ fs, insOf m2 x = some (C, fs) ∧ sp (x :: ds) m2 Q fun x m2 => WD x r m2
end
end DL

set_option Elab.async false
set_option linter.all false
set_option maxRecDepth 100000
set_option maxHeartbeats 4000000
namespace DL
open PySem PySem.Spec PyProof.Rows L2

abbrev DRM := D → List D → M → (D → M → Prop) → Prop
def MtD (K : PySem.W.Frag) (T : String) (r : V → List V → Hp → VK → Prop) (ty : D → M → Prop) (rd : DRM) : Prop :=
  (∀ (G H F : Hp) (m : M) (x : D) (vx : V), Rep K G H F m → Rp K G x vx → ty x m → tyV K T vx H) ∧
  ∀ (G H F : Hp) (m : M) (x : D) (vx : V) (ds : List D) (vs : List V) (QD : D → M → Prop) (Q : VK), Rep K G H F m → Rp K G x vx → Rps K G ds vs → rd x ds m QD → Kv K G F QD Q → r vx vs H Q
def dBM (ty : D → M → Prop) (rd : DRM) (to : DTE) (t : DTA) : DTE := fun r m Q => to r m fun x m1 => ty x m1 ∧ t r m1 fun ds m2 => rd x ds m2 Q
section
variable {K : PySem.W.Frag} {X : Cx} {W : WX} {WD : DWX} {o e : Expr} {es : List Expr} {to : DTE} {t : DTA} {name : Str} {apos cpos : Pos} {T id : String} {r : V → List V → Hp → VK → Prop} {ty : D → M → Prop} {rd : DRM}
theorem de_bm (pa : PlainAttrs T) (slot : Slot T name id) (hty : typeOf (.builtin id) = pure (.type "method_descriptor")) (hm : MtR X id r) (hd : MtD X.K T r ty rd) (ho : DE X W WD o to) (ha : DA X W WD (e :: es) t)
    (hbase : attributeBase o name X.env (eval o X.env) = eval o X.env := by rfl)
    (hfew : ((backTo cpos (starEach (e :: es) X.env)).all (fun x => !x.1) && (backToKw cpos (keywordEach [] X.env)).all (fun x => x.1.isSome)
      && decide ((e :: es).length + ([] : List Keyword).length + (if ([] : List Keyword).isEmpty then 0 else 1) < 30)) = true := by rfl)
    (hline : (apos.endLine == cpos.line) = true := by rfl) (hs : starEach (e :: es) X.env = (false, eval e X.env) :: starEach es X.env := by rfl) (hplain : (backTo cpos (starEach es X.env)).any (·.1) = false := by rfl) :
    DE X W WD (.Call (.Attribute o name apos) (e :: es) [] cpos) (dBM ty rd to t) := by
  refine PE.imp (pe_bm pa slot hty hm ho ha hbase hfew hline hs hplain) fun σ H Q h => ?_
  obtain ⟨G, F, r, m, QD, x, t, k⟩ := h
  refine ⟨G, F, r, m, _, x, t, fun G1 H1 m1 d1 v1 e1 r1 p1 t1 => ⟨hd.1 G1 H1 F m1 d1 v1 r1 p1 t1.1, ?_⟩⟩
  refine ⟨G1, F, r, m1, _, x.step e1 r1, t1.2, fun G2 H2 m2 ds vs e2 r2 p2 t2 => ?_⟩
  exact hd.2 G2 H2 F m2 d1 v1 ds vs QD Q r2 (p1.mono e2) p2 t2 (k.mono (e1.trans e2))
def isL (d : D) (m : M) : Prop := ∃ xs, lsOf m d = some xs
theorem ty_list {G H F : Hp} {m : M} {x : D} {vx : V} (r : Rep K G H F m) (p : Rp K G x vx) (h : isL x m) : tyV K "list" vx H := by
  obtain ⟨xs, e⟩ := h
  obtain ⟨a, vs, rfl, hs, _⟩ := ls_ok r p e
  exact .inl ⟨rfl, vs, hs⟩
theorem mo_lst {G H F : Hp} {m : M} {a : Addr} {xs : List D} (r : Rep K G H F m) (h : m a = some (.lst xs)) : ∃ vs, H a = some (.lst vs) ∧ Rps K G xs vs := by
  obtain ⟨_, _, u, h3, h4⟩ := r.mo a _ h
  obtain ⟨vs, rfl, h4⟩ := h4.ofLst
  exact ⟨vs, h3, h4⟩
theorem wr_lst {G H F : Hp} {m : M} {a : Addr} {xs ys : List D} {us : List V} (r : Rep K G H F m) (h : m a = some (.lst xs)) (p : Rps K G ys us) : Rep K G (upd H a (.lst us)) F (mset m a (.lst ys)) := r.write h (show RpM K G (.lst ys) (.lst us) from p)
def dAppend : DRM := fun x ds m Q => ∃ a xs y, x = .ref a ∧ ds = [y] ∧ m a = some (.lst xs) ∧ xs.length < sizeLine ∧ Q .non (mset m a (.lst (xs ++ [y])))
theorem md_append : MtD K "list" rAppend isL dAppend := by
  refine ⟨fun G H F m x vx r p h => ty_list r p h, fun G H F m x vx ds vs QD Q r px ps t k => ?_⟩
  obtain ⟨a, xs, y, rfl, rfl, hm, hz, t⟩ := t
  cases px
  obtain ⟨v, rfl, p⟩ := rps1 ps
  obtain ⟨vs, h3, h4⟩ := mo_lst r hm
  exact ⟨a, vs, v, rfl, rfl, h3, by rw [← h4.length]; exact hz, k.here (wr_lst r hm (h4.append (.cons p .nil))) .non t⟩
def dClear : DRM := fun x ds m Q => ∃ a xs, x = .ref a ∧ ds = [] ∧ m a = some (.lst xs) ∧ Q .non (mset m a (.lst []))
end

section
variable {X : Cx} {W : WX} {WD : DWX} {k : Nat} {f C : Addr} {fd : FuncData} {ps : List Str} {sp : DSp} {a b : Expr} {ta tb : DTE} {pos : Pos}
end
def dNever : DTS := fun _ _ _ => False
theorem ds_never {X : Cx} {W : WX} {WD : DWX} {st : Stmt} : DS X W WD st dNever := PS.imp ps_never fun _ _ _ h => by
  obtain ⟨_, _, _, _, _, _, t, _⟩ := h
  exact t
end DL

set_option Elab.async false
set_option linter.all false
set_option maxRecDepth 100000
set_option maxHeartbeats 4000000
namespace DL
open PySem PySem.Spec PyProof.Rows L2
open He (ga ma eqO eqO_ok ba)

abbrev Fr0 := PySem.W.Frag
structure DefA where
  ad : Fr0 → Addr
  name : Str
  qual : Str
  params : Arguments
  body : List Stmt
  scope : Scope
  dfl : List He.Dv := []
  kwd : List (Str × He.Dv) := []
def fnAt (K : Fr0) (a : Addr) : He.FnW := match K.lookup a with
  | some ⟨_, _, .func u, _⟩ => some (u.name, u.qualname, u.params, u.body, u.scope, u.globals, u.closure, u.builtins)
  | _ => none
def DefA.told (d : DefA) : He.FnW := some (d.name, d.qual, d.params, .stmts d.body, d.scope, mainGlobals, [], builtinsNs)
def DefA.vs (K : Fr0) (d : DefA) : List V := d.dfl.map (He.Dv.v K)
def DefA.ks (K : Fr0) (d : DefA) : List (Str × V) := d.kwd.map fun z => (z.1, z.2.v K)
def DefA.good (K : Fr0) (d : DefA) : Bool := PySem.W.keepIn K (.ref (d.ad K)) && (match K.lookup (d.ad K) with
  | some ⟨_, _, .func u, _⟩ => PySem.W.codeIn K u.code d.qual && (He.dflB K u.defaults (d.vs K) && He.kwdB K u.kwdefaults (d.ks K))
  | _ => false)
theorem DefA.fun_ {K : Fr0} {d : DefA} (e : fnAt K (d.ad K) = d.told) (c : d.good K = true) : ∃ fd, FunD K d.name d.qual d.params d.body d.scope (d.vs K) (d.ks K) (d.ad K) fd := by
  obtain ⟨kp, c2⟩ := ba c
  unfold fnAt at e
  cases look : K.lookup (d.ad K) with
  | none => rw [look] at c2; cases c2
  | some ob =>
    obtain ⟨oc, od, dt, osl⟩ := ob
    rw [look] at c2 e
    cases dt with
    | func u =>
      obtain ⟨n1, n2, n3, n4, n5, n6, n7, n8, n9, n10, n11, n12, n13, n14, n15⟩ := u
      have e2 : (some (n1, n2, n3, n4, n5, n6, n7, n15) : He.FnW) = some (d.name, d.qual, d.params, .stmts d.body, d.scope, mainGlobals, [], builtinsNs) := e
      simp only [Option.some.injEq, Prod.mk.injEq] at e2
      obtain ⟨rfl, rfl, rfl, rfl, rfl, rfl, rfl, rfl⟩ := e2
      obtain ⟨k1, k2⟩ := ba (show (PySem.W.codeIn K n13 d.qual && (He.dflB K n8 (d.vs K) && He.kwdB K n9 (d.ks K))) = true from c2)
      obtain ⟨k3, k4⟩ := ba k2
      exact ⟨_, ⟨oc, od, n8, n9, n10, n11, n12, n13, n14, osl, rfl, look, k1, He.dflB_ok k3, He.kwdB_ok k4⟩, kp⟩
    | _ => cases c2
abbrev AlA : Type := Bool × List He.FnW
def obsA (fa : List (Fr0 → Bool)) (fn : List DefA) (K : Fr0) : AlA := (fa.all (fun f => f K) && fn.all (fun d => d.good K), fn.map fun d => fnAt K (d.ad K))
def valA (fn : List DefA) : AlA := (true, fn.map DefA.told)
def Says (fa : List (Fr0 → Bool)) (fn : List DefA) (K : Fr0) : Prop := obsA fa fn K = valA fn
def isTab (o : Obj) : Bool := match o with
  | ⟨.none, _, .fields vs, _⟩ => vs.isEmpty
  | _ => false
def frT (g : Addr → Option Obj) (as : List Addr) : Fr0 := (He.frG g as).filter fun p => !isTab p.2
theorem frG_mem {g : Addr → Option Obj} {as : List Addr} {p : Addr × Obj} (h : p ∈ He.frG g as) : g p.1 = some p.2 := by
  unfold He.frG at h
  obtain ⟨a, _, e⟩ := List.mem_filterMap.mp h
  cases q : g a with
  | none => rw [q] at e; cases e
  | some o => rw [q] at e; cases e; exact q
theorem frT_in {as : List Addr} {h : Heap} : (frT h.get? as).In h := fun a o e => by
  have m : (a, o) ∈ frT h.get? as := PySem.W.mem_of_lookupK e
  exact frG_mem (List.mem_filter.mp m).1
def emptyTab (o : Option Obj) : Bool := match o with
  | some ⟨.none, none, .fields vs, sl⟩ => vs.isEmpty && sl.isEmpty
  | _ => false
def tabsB (g : Addr → Option Obj) (K : Fr0) : Bool := (tbls3 K).all fun x => emptyTab (g x.2.1) && ((K.lookup x.2.1).isNone && (PySem.W.codeHdIn K x.1 x.2.1 && (tbls3 K).all fun y => !(x.2.1 == y.2.1) || decide (x.2.2 = y.2.2)))
structure TabAt (K : Fr0) (h : Heap) : Prop where
  emp : ∀ x ∈ tbls3 K, h.get? x.2.1 = some { cls := .none, data := .fields #[] }
  out : ∀ x ∈ tbls3 K, K.lookup x.2.1 = none
  hd : ∀ x ∈ tbls3 K, PySem.W.CodeHd h x.1 x.2.1
  one : ∀ x ∈ tbls3 K, ∀ y ∈ tbls3 K, x.2.1 = y.2.1 → x.2.2 = y.2.2
theorem tabsB_ok {K : Fr0} {h : Heap} (X : K.In h) (e : tabsB h.get? K = true) : TabAt K h := by
  have all := List.all_eq_true.mp e
  refine ⟨fun x hx => ?_, fun x hx => ?_, fun x hx => ?_, fun x hx y hy => ?_⟩
  · have e1 := (ba (all x hx)).1
    unfold emptyTab at e1
    split at e1
    · rename_i vs sl hq
      obtain ⟨e2, e3⟩ := ba e1
      rw [hq]
      have h1 : vs = #[] := Array.isEmpty_iff.mp e2
      have h2 : sl = #[] := Array.isEmpty_iff.mp e3
      subst h1; subst h2
      rfl
    · cases e1
  · exact Option.isNone_iff_eq_none.mp (ba (ba (all x hx)).2).1
  · exact PySem.W.codeHd_of_K X (ba (ba (ba (all x hx)).2).2).1
  · intro q
    have e1 := List.all_eq_true.mp (ba (ba (ba (all x hx)).2).2).2 y hy
    rw [Bool.or_eq_true, Bool.not_eq_true'] at e1
    rcases e1 with e1 | e1
    · rw [beq_eq_false_iff_ne] at e1
      exact absurd q e1
    · exact of_decide_eq_true e1
theorem TabAt.keeps {K : Fr0} {h h' : Heap} (t : TabAt K h) (k : ∀ b o, h.get? b = some o → h'.get? b = some o) : TabAt K h' := ⟨fun x hx => k _ _ (t.emp x hx), t.out, fun x hx => (t.hd x hx).keeps k, t.one⟩
section
variable {fa : List (Fr0 → Bool)} {fn : List DefA} {K : Fr0}
theorem Says.fact (c : Says fa fn K) (i : Nat) {f : Fr0 → Bool} (h : fa[i]? = some f := by rfl) : f K = true := by
  obtain ⟨c1, _⟩ := ba (show (fa.all (fun f => f K) && fn.all (fun d => d.good K)) = true from congrArg Prod.fst c)
  exact List.all_eq_true.mp c1 f (List.mem_of_getElem? h)
theorem Says.def_ (c : Says fa fn K) (i : Nat) {d : DefA} (h : fn[i]? = some d := by rfl) : ∃ fd, FunD K d.name d.qual d.params d.body d.scope (d.vs K) (d.ks K) (d.ad K) fd := by
  obtain ⟨_, c2⟩ := ba (show (fa.all (fun f => f K) && fn.all (fun d => d.good K)) = true from congrArg Prod.fst c)
  have e : fn.map (fun d => fnAt K (d.ad K)) = fn.map DefA.told := congrArg Prod.snd c
  have e2 : (fn.map fun d => fnAt K (d.ad K))[i]? = (fn.map DefA.told)[i]? := by rw [e]
  rw [List.getElem?_map, List.getElem?_map, h] at e2
  exact DefA.fun_ (Option.some.inj e2) (List.all_eq_true.mp c2 d (List.mem_of_getElem? h))
end
def pad (K : Fr0) (C f : Str) : Addr := ma K (ga K C) f
def wad (K : Fr0) (T : String) (C f : Str) : Addr := match PySem.W.recIn K (pad K C f) T with
  | some (.ref g :: _) => g
  | _ => 0
def propB (C f : Str) (K : Fr0) : Bool := eqO (PySem.W.findIn K (.ref (ga K C)) f) (some (some (.ref (pad K C f)))) && (eqO (PySem.W.specialIn K (.ref (pad K C f)) "__get__") (some (some (.builtin "property.__get__"))) &&
  (decide (PySem.W.takesIn K (.ref (pad K C f)) = some true) && (match PySem.W.recIn K (pad K C f) "property" with
  | some (.ref _ :: _) => true
  | _ => false)))
theorem prop_of {K : Fr0} {C f : Str} (h : propB C f K = true) : PropOf K (ga K C) f (pad K C f) (wad K "property" C f) := by
  obtain ⟨h1, h⟩ := ba h
  obtain ⟨h2, h⟩ := ba h
  obtain ⟨h3, h4⟩ := ba h
  refine ⟨eqO_ok h1, eqO_ok h2, of_decide_eq_true h3, ?_⟩
  unfold wad
  split at h4
  · rename_i g rest e
    rw [e]
    exact ⟨rest, rfl⟩
  · cases h4
structure Good (P : Program) (w : World) (K : Fr0) (mg : Str → Option Value) (base : Heap) (k : Nat) (x : Option Str) (f : Addr) (ps : List Str) (sp : DSp) : Prop where
  ex : ∃ fd, FnOk P w K mg base (L2.CX P w) k f fd ps (liftSp K sp) ∧ Binds K fd ps [] ∧ PySem.W.keepIn K (.ref f) = true
  gl : match x with
    | some x => mg x = some (.ref f)
    | none => True
section
variable {P : Program} {w : World} {K : Fr0} {mg : Str → Option Value} {base : Heap} {x qual : Str} {params : Arguments} {body : List Stmt} {scope : Scope} {dvs : List V} {kws : List (Str × V)} {f : Addr} {fd : FuncData}
abbrev CXn (P : Program) (w : World) (K : Fr0) (mg : Str → Option Value) (base : Heap) (N : List Str) (qual : Str) (scope : Scope) (f : Addr) (cdv : Value) (A : Around) (outer : List Env) (s : Shared) (H : Hp) (E : XK) : Cx := (cxOf CX0 P w K mg base N qual scope f cdv A outer s H E).nox
end
def m0 : M := fun _ => none
def spLaw : DSp := fun ds m Q _ => ∃ ns : List Int, ds = [.rdl (ns.map D.int)] ∧ ns.length ≤ 63 ∧ m = m0 ∧ ∀ m', Q (.bl true) m'
theorem spLaw_len (x : Str) (ds : List D) (m : M) (Q : D → M → Prop) (E : XD → M → Prop) (h : spLaw ds m Q E) : ds.length = [x].length := by
  obtain ⟨ns, rfl, _⟩ := h
  rfl
theorem law_sp {K : Fr0} (H : Hp) (a : Addr) (ns : List Int) (hl : ns.length ≤ 63) (hT : ∀ x ∈ tbls3 K, H x.2.1 = some (.tbl #[])) (hS : SqL K H a (ns.map V.int)) : liftSp K spLaw [.ref a] H (fun v _ => v = .bl true) fun _ _ _ => False := by
  have tb : LamX.Tabs (tblsOf K) H := fun p hp => by
    obtain ⟨x, hx, rfl⟩ := List.mem_map.mp hp
    exact LamX.TabS.nil (hT x hx)
  obtain ⟨G, hG, hok, hS2⟩ : ∃ G : Hp, Same G H ∧ (∀ b o, G b = some o → okO o) ∧ SqL K G a (ns.map V.int) := by
    rcases hS with hR | hR
    · refine ⟨fun b => if b = a then H b else none, fun b o e => ?_, fun b o e => ?_, .inl ?_⟩
      · by_cases hb : b = a
        · have e : (if b = a then H b else none) = some o := e
          rw [if_pos hb] at e
          exact e
        · have e : (if b = a then H b else none) = some o := e
          rw [if_neg hb] at e
          cases e
      · by_cases hb : b = a
        · have e : (if b = a then H b else none) = some o := e
          rw [if_pos hb, hb] at e
          rcases hR with hR | ⟨ob, hR⟩
          · rw [hR] at e; cases e; exact ⟨fun _ e => (by cases e), fun _ e => (by cases e)⟩
          · rw [hR] at e; cases e; exact ⟨fun _ e => (by cases e), fun _ e => (by cases e)⟩
        · have e : (if b = a then H b else none) = some o := e
          rw [if_neg hb] at e
          cases e
      · rcases hR with hR | ⟨ob, hR⟩
        · exact .inl ((if_pos rfl).trans hR)
        · exact .inr ⟨ob, (if_pos rfl).trans hR⟩
    · exact ⟨fun _ => none, fun _ _ e => (by cases e), fun _ _ e => (by cases e), .inr hR⟩
  refine ⟨G, fun _ => none, m0, [.rdl (ns.map D.int)], fun d _ => d = .bl true, fun _ _ => False, ⟨hG, (fun _ _ e => (by cases e)), (fun _ _ e => (by cases e)), (fun _ _ e => (by cases e)), tb, (fun b o e => (hok b o e).1), (fun _ _ e => (by cases e))⟩, .cons (.rdl hS2 (Rps.ofInts ns)) .nil, ⟨ns, rfl, hl, rfl, fun _ => rfl⟩, ?_, fun _ _ _ _ _ _ _ _ _ q => q.elim⟩
  rintro G' H' m' d v e r p rfl
  cases p
  rfl
structure TabBs (K : Fr0) (mg : Str → Option Value) (base : Heap) : Prop where
  tb : ∀ x ∈ tbls3 K, LamX.TabB base mg x.1 x.2.1
  one : ∀ x ∈ tbls3 K, ∀ y ∈ tbls3 K, x.2.1 = y.2.1 → x.2.2 = y.2.2
theorem walk_tab {l : PySem.W.OpenLaw} {n k : Nat} {q : Program} {loose : List Str} {XP : (Str → Option Value) → Heap → Prop} {YP : World → Heap → Prop} {d : DefRec} {CX : CXT} {x : Str} (hn : l.most = some n) (hn2 : n ≤ sizeLine) (hdf : d.params.defaults = []) (hr : Room k callerA)
    (F : ∀ (w : World) (mg : Str → Option Value) (fa : Addr) (h : Heap), YP w h → h.Ns mainGlobals mg → mg d.name = some (.ref fa) → ∃ (K : Fr0) (fd : FuncData) (sp : Sp), K.In h ∧ TabAt K h ∧ (∀ (s : Shared) (u : Value), BindsTo s fd ⟨[u], []⟩ [(x, u)]) ∧
        (∀ (H : Hp) (a : Addr) (ns : List Int), ns.length ≤ n → (∀ x ∈ tbls3 K, H x.2.1 = some (.tbl #[])) → SqL K H a (ns.map V.int) → sp [.ref a] H (fun v _ => v = .bl true) fun _ _ _ => False) ∧
        ∀ base : Heap, K.In base → base.Ns mainGlobals mg → TabBs K mg base → FnOk l.prog w K mg base CX k fa fd [x] sp)
    (hCX : ∀ (H : Hp) (s : Shared) (e : Value) (s' : Shared), CX [] H s (fun _ _ _ => False) e s' → False) : PySem.W.WalkO q loose XP YP l.row.toRowW d [] (fun f vs => PySem.call f vs) := by
  refine Att.attach_callB hn hdf fun w _ sh mg _ fa _ _ _ _ ad us zs GT Y _ _ _ hmg hob hin hle _ hge => ?_
  obtain ⟨K, fd, sp, KX, T, hb, hsp, hF⟩ := F w mg fa _ Y GT.T.g hmg
  have each : ∀ {φ : Addr × Addr → Prop}, (∀ x ∈ tbls3 K, φ (x.1, x.2.1)) → ∀ p ∈ (tbls3 K).map (fun x => (x.1, x.2.1)), φ p := fun h p hp => by
    obtain ⟨y, hy, rfl⟩ := List.mem_map.mp hp
    exact h y hy
  exact LamX.law_callTs (cs := (tbls3 K).map fun x => (x.1, x.2.1)) KX GT.T.g GT.T.b GT.T.builtins GT.T.nolimit hge (each T.emp) (each T.out) (each T.hd) GT.T.bmain hob hin (Nat.le_trans hle hn2) hr
    (fun base h1 h2 h3 => hF base h1 h2 ⟨fun y hy => h3 _ (List.mem_map.mpr ⟨y, hy, rfl⟩), T.one⟩) hb (fun H hH hS => hsp H ad zs hle (fun y hy => hH _ (List.mem_map.mpr ⟨y, hy, rfl⟩)) hS) fun H e s' => hCX H sh e s'
end DL

set_option Elab.async false
set_option linter.all false
set_option maxRecDepth 100000
set_option maxHeartbeats 4000000
namespace DL
open PySem PySem.Spec PyProof.Rows L2
section
variable {m : M} {Q : D → M → Prop} {i j : Int} {x y : Str} {b c : Bool}
theorem eq_ii : dEq (.int i) (.int j) m Q ↔ Q (.bl (decide (i = j))) m := Iff.rfl
theorem ne_ii : dNe (.int i) (.int j) m Q ↔ Q (.bl (!decide (i = j))) m := Iff.rfl
theorem eq_ss : dEq (.str x) (.str y) m Q ↔ Q (.bl (decide (x = y))) m := Iff.rfl
theorem ne_ss : dNe (.str x) (.str y) m Q ↔ Q (.bl (!decide (x = y))) m := Iff.rfl
theorem eq_bb : dEq (.bl b) (.bl c) m Q ↔ Q (.bl (decide (b = c))) m := Iff.rfl
theorem ne_bb : dNe (.bl b) (.bl c) m Q ↔ Q (.bl (!decide (b = c))) m := Iff.rfl
end
theorem cut_to {α : Type} (xs : List α) (k : Nat) : cutD xs none (some (k : Int)) = xs.take k := by
  unfold cutD
  rw [HT.sIx_nat, HT.sIx_none]
  by_cases h : k ≤ xs.length
  · rw [Nat.min_eq_left h]
    simp
  · rw [Nat.min_eq_right (by omega)]
    have e : xs.take k = xs := List.take_of_length_le (by omega)
    rw [e]
    simp
theorem atI_ints {cs : List Int} {i : Int} (h0 : 0 ≤ i) (h : i < cs.length) : atI (cs.map D.int) i = some (.int (cs.getD i.toNat 0)) := by
  obtain ⟨n, rfl⟩ : ∃ n : Nat, i = n := ⟨i.toNat, by omega⟩
  have hn : n < cs.length := by omega
  refine atI_nat ?_
  rw [List.getElem?_map]
  simp [List.getD_eq_getElem?_getD, hn]
theorem mul_small {i j : Int} (h : -(2 ^ 64) < j ∧ j < 2 ^ 64) : DL.MulOk i j := .inl (.inr h)
theorem div_ok {i j : Int} (h : 0 < j) (hb : j ≤ 1000000000) : CDivW i j := wide_div h (b := 40) (by omega) (by decide) (by decide)
theorem rng_mem {lo : Int} {n : Nat} {x : D} (h : x ∈ rngD lo n) : ∃ k : Nat, k < n ∧ x = .int (lo + (k : Int)) := by
  unfold rngD at h
  obtain ⟨k, hk, rfl⟩ := List.mem_map.mp h
  exact ⟨k, List.mem_range.mp hk, rfl⟩
section
variable {x y z u : D} {xs : List D}
theorem at0 : atI (x :: xs) 0 = some x := atI_nat (j := 0) rfl
theorem at1 : atI (x :: y :: xs) 1 = some y := atI_nat (j := 1) rfl
theorem at2 : atI (x :: y :: z :: xs) 2 = some z := atI_nat (j := 2) rfl
theorem at3 : atI (x :: y :: z :: u :: xs) 3 = some u := atI_nat (j := 3) rfl
theorem ix30 : ixN 3 0 = some 0 := by decide
theorem ix31 : ixN 3 1 = some 1 := by decide
theorem ix32 : ixN 3 2 = some 2 := by decide
theorem ix20 : ixN 2 0 = some 0 := by decide
theorem ix21 : ixN 2 1 = some 1 := by decide
theorem ix10 : ixN 1 0 = some 0 := by decide
end
section
variable {K : PySem.W.Frag} {m : M} {Q : D → M → Prop} {d : D}
theorem isi_ty {T S : String} {b : Bool} (h1 : tyName m d = some S) (h2 : PySem.W.kitOne K (.type S) (.type T) = some b) : dIsi K [d, .ty T] m Q ↔ Q (.bl b) m := by
  constructor
  · rintro ⟨d', c, b', e, ⟨u, hu, hd⟩, q⟩
    cases e
    rcases hu with ⟨T', e1, rfl⟩ | ⟨C, e1, rfl⟩
    · cases e1
      rcases hd with ⟨S', e2, e3⟩ | ⟨C, fs, e2, _, _⟩
      · rw [h1] at e2
        cases e2
        rw [h2] at e3
        cases e3
        exact q
      · rw [e2] at h1
        cases h1
    · cases e1
  · exact fun q => ⟨d, .ty T, b, rfl, ⟨_, .inl ⟨T, rfl, rfl⟩, .inl ⟨S, h1, h2⟩⟩, q⟩
theorem isi_ii {i : Int} : dIsi K [.int i, .ty "int"] m Q ↔ Q (.bl true) m := isi_ty rfl rfl
theorem isi_ib {i : Int} : dIsi K [.int i, .ty "bool"] m Q ↔ Q (.bl false) m := isi_ty rfl rfl
theorem isi_ll {xs : List D} : dIsi K [.lst xs, .ty "list"] m Q ↔ Q (.bl true) m := isi_ty rfl rfl
theorem isi_bb {b : Bool} : dIsi K [.bl b, .ty "bool"] m Q ↔ Q (.bl true) m := isi_ty rfl rfl
theorem isi_ss {x : Str} : dIsi K [.str x, .ty "str"] m Q ↔ Q (.bl true) m := isi_ty rfl rfl
theorem isi_tt {xs : List D} : dIsi K [.tup xs, .ty "tuple"] m Q ↔ Q (.bl true) m := isi_ty rfl rfl
theorem isi_is {i : Int} : dIsi K [.int i, .ty "str"] m Q ↔ Q (.bl false) m := isi_ty rfl rfl
theorem isi_si {x : Str} : dIsi K [.str x, .ty "int"] m Q ↔ Q (.bl false) m := isi_ty rfl rfl
end
end DL

set_option Elab.async false
set_option linter.all false
set_option maxRecDepth 100000
set_option maxHeartbeats 4000000
namespace DL
open PySem PySem.Spec PyProof.Rows L2
open He (ga ma eqO eqO_ok ba)
section
variable {X : Cx} {k : Nat} {f C : Addr} {fd : FuncData} {ps : List Str}
variable {sp : DSp}
end
section
variable {m : M} {Q : D → M → Prop} {i : Int}
theorem eq_nn : dEq .non .non m Q ↔ Q (.bl true) m := Iff.rfl
theorem ne_nn : dNe .non .non m Q ↔ Q (.bl false) m := Iff.rfl
end
theorem lc_rngF {i : Nat} {vs : List Nat} {tt : DTT} {te : DTE} {r : DSt} {m : M} {lo : Int} {n : Nat} {Q : List D → M → Prop} (p : Nat → Bool) (f : Nat → D) (hz : n ≤ sizeLine) (ht : ∀ k : Nat, k < n → ∀ Q' : Bool → M → Prop, Q' (p k) m → tt ((wipeD r vs).set i (some (.int (lo + (k : Int))))) m Q') (h : ∀ k : Nat, k < n → p k = true → ∀ Q' : D → M → Prop, Q' (f k) m → te ((wipeD r vs).set i (some (.int (lo + (k : Int))))) m Q') (q : Q (((List.range n).filter p).map f) m) : dLcL (.one i) vs tt te (rngD lo n) [] r m Q := by
  refine lc_filter (fun x => match x with | .int j => p (j - lo).toNat | _ => false) (fun x => match x with | .int j => f (j - lo).toNat | _ => .non) (by rw [rngD_len]; simpa using hz) (fun x hx => ?_) ?_
  · obtain ⟨k, hk, rfl⟩ := rng_mem hx
    have e : (lo + (k : Int) - lo).toNat = k := by omega
    dsimp only
    rw [e]
    exact ⟨_, rfl, ht k hk, h k hk⟩
  · have e : ∀ k : Nat, (lo + (k : Int) - lo).toNat = k := fun k => by omega
    unfold rngD
    rw [List.nil_append, List.filter_map, List.map_map]
    have e1 : ((fun x => match x with | .int j => p (j - lo).toNat | _ => false) ∘ fun (k : Nat) => D.int (lo + (k : Int))) = p := funext fun k => by simp only [Function.comp, e]
    have e2 : ((fun x => match x with | .int j => f (j - lo).toNat | _ => .non) ∘ fun (k : Nat) => D.int (lo + (k : Int))) = f := funext fun k => by simp only [Function.comp, e]
    rw [e1, e2]
    exact q
end DL

set_option Elab.async false
set_option linter.all false
set_option maxRecDepth 100000
set_option maxHeartbeats 4000000
namespace DL
open PySem PySem.Spec PyProof.Rows L2
open He (ga ma eqO eqO_ok ba)
section
variable {X : Cx} {W : WX} {WD : DWX} {x : Str} {p pos pos' : Pos} {C : Addr} {bmB : List Value} {B newId initId : String}
def dRaise0 (C : Addr) (WD : DWX) : DTS := fun _ r m => WD ⟨C, []⟩ r m
structure ExC (K : PySem.W.Frag) (C : Addr) : Prop where
  q : PySem.W.excIn K C [.type "ValueError", .type "Exception", .type "BaseException", .type "object"] "ValueError.__new__" = true
  kC : PySem.W.keepIn K (.ref C) = true
  exC : PySem.W.subIn K (.ref C) (.type "BaseException") = some true
  tyC : PySem.W.typeIn K (.ref C) = some (.type "type")
end
def tSts (K : PySem.W.Frag) : List (Str × Nat) → TS
  | [] => tNext
  | (f, i) :: r => tSeq (tOst K f (tVar 0) (tVar i)) (tSts K r)
theorem sts_more {K : PySem.W.Frag} {C a dx : Addr} (T : OexC K C) : ∀ (l : List (Str × Nat)) (ws : List V) (σ : L2.St) (H : Hp) (fs : List (Str × V)) (E : Ends), (∀ q ∈ l, PySem.W.findIn K (.ref C) q.1 = some none) → l.length = ws.length → (∀ (j : Nat) (i : Nat × V), (l.map (·.2)).zip ws = (l.map (·.2)).zip ws → ((l.map (·.2)).zip ws)[j]? = some i → σ[i.1]? = some (some i.2)) → σ[0]? = some (some (.ref a)) → H a = some (exo a C (some dx)) → dx ≠ a → H dx = some (exd dx fs) → fs.length + l.length ≤ 900 →
    E.nx σ (upd H dx (exd dx (((l.map (·.1)).zip ws).reverse ++ fs))) → tSts K l E σ H
  | [], ws, σ, H, fs, E, _, hl, _, _, ha, _, hd, _, h => by
    have e : upd H dx (exd dx fs) = H := by
      funext b
      unfold upd
      by_cases hb : b = dx
      · rw [if_pos hb, hb, hd]
      · rw [if_neg hb]
    show E.nx σ H
    simpa [e] using h
  | (f, i) :: l, [], σ, H, fs, E, _, hl, _, _, _, _, _, _, _ => by cases hl
  | (f, i) :: l, w :: ws, σ, H, fs, E, hn, hl, hs, h0, ha, hne, hd, hz, h => by
    refine ⟨w, hs 0 (i, w) rfl rfl, .ref a, h0, a, C, rfl, T, hn _ List.mem_cons_self, .inr ⟨dx, fs, ha, hd, by omega, ?_⟩⟩
    refine sts_more T l ws σ _ _ E (fun q hq => hn q (List.mem_cons_of_mem _ hq)) (by simpa using hl) (fun j k _ hk => hs (j + 1) k rfl (by simpa using hk)) h0 (by rw [upd_ne (fun z => hne z.symm)]; exact ha) hne upd_same (by simp at hz ⊢; omega) ?_
    have e : ∀ o o', upd (upd H dx o) dx o' = upd H dx o' := fun o o' => by
      funext b
      unfold upd
      by_cases hb : b = dx
      · rw [if_pos hb, if_pos hb]
      · rw [if_neg hb, if_neg hb, if_neg hb]
    rw [e]
    simpa using h
def spX (C : Addr) (fs : List Str) : Sp := fun vs H Q _ => ∃ (a : Addr) (ws : List V), vs = .ref a :: ws ∧ ws.length = fs.length ∧ H a = some (exo a C none) ∧
  ∀ dx, H dx = none → dx ≠ a → Q .non (upd (upd H dx (exd dx (fs.zip ws).reverse)) a (exo a C (some dx)))
theorem zipIdx_fst : ∀ (l : List Str) (n : Nat), (l.zipIdx n).map (·.1) = l
  | [], _ => rfl
  | x :: l, n => by simp
theorem zip_slots : ∀ (l : List Str) (n : Nat) (ws : List V), l.length = ws.length → ∀ (j : Nat) (i : Nat × V), (((l.zipIdx n).map (·.2)).zip ws)[j]? = some i → i.1 = n + j ∧ ws[j]? = some i.2
  | [], _, _, _, j, i, h => by simp at h
  | x :: l, n, [], hl, _, _, _ => by cases hl
  | x :: l, n, w :: ws, hl, 0, i, h => by
    simp at h
    subst h
    simp
  | x :: l, n, w :: ws, hl, j + 1, i, h => by
    have := zip_slots l (n + 1) ws (by simpa using hl) j i (by simpa using h)
    refine ⟨by omega, by simpa using this.2⟩
theorem fn_exc {P : Program} {w : World} {K : PySem.W.Frag} {mg : Str → Option Value} {base : Heap} {x qual : Str} {params : Arguments} {body : List Stmt} {scope : Scope} {dvs : List V} {kws : List (Str × V)} {fI C : Addr} {fd : FuncData} {N ps : List Str} {f : Str} {fs : List Str} {k : Nat}
    (F : FunD K x qual params body scope dvs kws fI fd) (S : FnScope N ps scope) (T : OexC K C) (hn : ∀ g ∈ f :: fs, PySem.W.findIn K (.ref C) g = some none) (hps : ps.length = fs.length + 2) (hz : fs.length ≤ 100)
    (hb : ∀ (cdv : Value) (A : Around) (outer : List Env) (s : Shared) (H : Hp) (E : XK), PSs (CXo P w K mg base N qual scope fI cdv A outer s H E) body (tSts K ((f :: fs).zipIdx 1))) : FnOk P w K mg base (L2.CX P w) (k + 1) fI fd ps (spX C (f :: fs)) := by
  refine F.ok S (fun vs H Q E h => ?_) (fun cdv A outer s H vs Q E hr h => ?_)
  · obtain ⟨a, ws, rfl, hl, _⟩ := h
    simp at hl ⊢
    omega
  · obtain ⟨a, ws, rfl, hl, ha, q⟩ := h
    refine ⟨_, hb cdv A outer s H E, ?_⟩
    obtain ⟨w, ws, rfl⟩ : ∃ w r, ws = w :: r := by
      cases ws with
      | nil => cases hl
      | cons w r => exact ⟨w, r, rfl⟩
    have hlen : ws.length = fs.length := by simpa using hl
    have hσ : ∀ (j : Nat) (v : V), (.ref a :: w :: ws)[j]? = some v → (L2.start N (.ref a :: w :: ws))[j]? = some (some v) := fun j v e => by
      unfold L2.start
      have hj : j < (V.ref a :: w :: ws).length := by
        rcases Nat.lt_or_ge j (V.ref a :: w :: ws).length with h | h
        · exact h
        · rw [List.getElem?_eq_none h] at e
          cases e
      rw [List.getElem?_append_left (by rw [List.length_map]; exact hj), List.getElem?_map, e]
      rfl
    refine ⟨w, hσ 1 w rfl, .ref a, hσ 0 _ rfl, a, C, rfl, T, hn f List.mem_cons_self, .inl ⟨ha, fun dx hd hne => ?_⟩⟩
    refine sts_more T (fs.zipIdx 2) ws _ _ [(f, w)] _ (fun g hg => hn _ (List.mem_cons_of_mem _ ?_)) (by simp [hlen]) (fun j i _ e => ?_) (hσ 0 _ rfl) upd_same hne (by rw [upd_ne hne]; exact upd_same) (by simp; omega) ?_
    · have := List.mem_map_of_mem (f := (·.1)) hg
      rw [zipIdx_fst] at this
      exact this
    · obtain ⟨e1, e2⟩ := zip_slots fs 2 ws hlen.symm j i e
      rw [e1]
      refine hσ _ _ ?_
      rw [show 2 + j = j + 2 by omega]
      simpa using e2
    · have e := q dx hd hne
      rw [zipIdx_fst]
      have e2 : upd (upd (upd H dx (exd dx [(f, w)])) a (exo a C (some dx))) dx (exd dx ((fs.zip ws).reverse ++ [(f, w)])) = upd (upd H dx (exd dx ((f :: fs).zip (w :: ws)).reverse)) a (exo a C (some dx)) := by
        funext b
        unfold upd
        by_cases h1 : b = dx
        · subst h1
          rw [if_pos rfl, if_neg hne, if_pos rfl]
          simp
        · rw [if_neg h1]
          by_cases h2 : b = a
          · rw [if_pos h2, if_pos h2]
          · rw [if_neg h2, if_neg h2, if_neg h1, if_neg h1]
      rw [e2]
      exact e
section
variable {X : Cx} {W : WX} {WD : DWX} {x : Str} {p pos pos' : Pos} {C fI : Addr} {fs ps : List Str} {k : Nat} {fd : FuncData} {e : Expr} {es : List Expr} {ta : DTA}
def dRaise (C : Addr) (fs : List Str) (WD : DWX) (ta : DTA) : DTS := fun _ r m => ta r m fun ds m1 => ds.length = fs.length ∧ WD ⟨C, (fs.zip ds).reverse⟩ r m1
theorem rpf_zip {K : PySem.W.Frag} {G : Hp} : ∀ {fs : List Str} {ds : List D} {vs : List V}, Rps K G ds vs → Rpf K G (fs.zip ds) (fs.zip vs)
  | [], _, _, _ => .nil
  | _ :: _, _, _, .nil => .nil
  | _ :: _, _, _, .cons r rs => .cons r (rpf_zip rs)
theorem rpf_app {K : PySem.W.Frag} {G : Hp} : ∀ {a b : List (Str × D)} {u v : List (Str × V)}, Rpf K G a u → Rpf K G b v → Rpf K G (a ++ b) (u ++ v)
  | _, _, _, _, .nil, h => h
  | _, _, _, _, .cons r t, h => .cons r (rpf_app t h)
theorem rpf_rev {K : PySem.W.Frag} {G : Hp} : ∀ {a : List (Str × D)} {u : List (Str × V)}, Rpf K G a u → Rpf K G a.reverse u.reverse
  | _, _, .nil => .nil
  | _, _, .cons r t => by
    rw [List.reverse_cons, List.reverse_cons]
    exact rpf_app (rpf_rev t) (.cons r .nil)
theorem ds_raise (T : OexC X.K C) (iC : PySem.W.findIn X.K (.ref C) "__init__" = some (some (.ref fI))) (tI : PySem.W.typeIn X.K (.ref fI) = some (.type "function")) (F1 : FnOk X.prog X.w X.K X.mg X.base (L2.CX X.prog X.w) k fI fd ps (spX C fs)) (hr : Room (k + 1) X.A) (hb : Binds X.K fd ps []) (hg : Gl X x) (hm : X.mg x = some (.ref C)) (hz : fs.length ≤ 100) (hc : X.calm = true) (tk : Takes X W) (ha : DA X W WD (e :: es) ta)
    (hdb : (x == ("__debug__" : Str)) = false := by decide) (he : starEach (e :: es) X.env = (false, eval e X.env) :: starEach es X.env := by rfl) (hpl : (backTo pos (starEach es X.env)).any (·.1) = false := by rfl) :
    DS X W WD (.Raise (some (.Call (.Name x p) (e :: es) [] pos)) none pos') (dRaise C fs WD ta) := by
  refine PS.imp (ps_raise hc tk (pmk_oex T iC tI F1 hr hb .nil passL hg hm ha hdb he hpl)) fun E σ H h => ?_
  obtain ⟨G, F, r, m, DD, x, t, k⟩ := h
  refine ⟨G, F, r, m, _, x, t, fun G1 H1 m1 ds vs e1 r1 p1 t1 => ?_⟩
  obtain ⟨hl, t1⟩ := t1
  have hlv : vs.length = fs.length := by rw [← p1.length]; exact hl
  refine ⟨by omega, fun a ha => ⟨a, vs, by simp, hlv, upd_same, fun dx hd hne => ⟨rfl, dx, _, upd_same, by rw [upd_ne hne]; exact upd_same, by rw [upd_ne hne] at hd; exact hd, ?_⟩⟩⟩
  have hd1 : H1 dx = none := by rw [upd_ne hne] at hd; exact hd
  have eH : upd (del (upd (upd (upd H1 a (exo a C none)) dx (exd dx (fs.zip vs).reverse)) a (exo a C (some dx))) a) dx (.xd (fs.zip vs).reverse) = upd H1 dx (.xd (fs.zip vs).reverse) := by
    funext b
    unfold upd del
    by_cases h1 : b = dx
    · rw [if_pos h1, if_pos h1]
    · rw [if_neg h1, if_neg h1]
      by_cases h2 : b = a
      · rw [if_pos h2, h2, ha]
      · rw [if_neg h2]
        dsimp only
        rw [if_neg h2, if_neg h1, if_neg h2]
  rw [eH]
  obtain ⟨s2, r2⟩ := r1.froz (o := .xd (fs.zip vs).reverse) hd1
  exact x.lx _ _ m1 r σ C _ (some dx) (e1.trans s2) r2 ((x.rs.mono e1).mono s2) (.inr ⟨dx, _, rfl, upd_same, rpf_rev (rpf_zip (p1.mono s2))⟩) t1
end
section
variable {X : Cx} {W : WX} {WD : DWX} {x n : Str} {c : Addr} {i : Nat} {body suite : List Stmt} {b₀ : Stmt} {np pos pos' : Pos} {tb : DWX → DTS}
def dCatch (K : PySem.W.Frag) (c : Addr) (ts : DTS) (WD : DWX) (DD : DEnds) : DWX := fun x r m => ∃ b, PySem.W.exmOne K (.ref x.C) (.ref c) = some b ∧ (b = true → ts DD r m) ∧ (b = false → WD x r m)
def dTry (K : PySem.W.Frag) (c : Addr) (tb : DWX → DTS) (ts : DTS) (WD : DWX) : DTS := fun DD r m => tb (dCatch K c ts WD DD) DD r m
abbrev DTX := Addr → Addr → Option Addr → DTS
def dCatchAs (K : PySem.W.Frag) (c : Addr) (i : Nat) (ts : DTX) (WD : DWX) (DD : DEnds) : DWX := fun x r m => ∃ b, PySem.W.exmOne K (.ref x.C) (.ref c) = some b ∧
  (b = true → ∀ a d, m a = none → ts a x.C d { nx := fun r' m' => DD.nx (r'.set i none) m', rt := DD.rt, bk := fun r' m' => DD.bk (r'.set i none) m', ct := fun r' m' => DD.ct (r'.set i none) m' } (r.set i (some (.exn a d x.fs))) m) ∧ (b = false → WD x r m)
def dTryAs (K : PySem.W.Frag) (c : Addr) (i : Nat) (tb : DWX → DTS) (ts : DTX) (WD : DWX) : DTS := fun DD r m => tb (dCatchAs K c i ts WD DD) DD r m
theorem rp_exn {K : PySem.W.Frag} {G : Hp} {a : Addr} {d : Option Addr} {fs : List (Str × D)} (h : RpX K G d fs) : Rp K G (.exn a d fs) (.ref a) := by
  rcases h with ⟨rfl, rfl⟩ | ⟨dd, fv, rfl, h1, h2⟩
  · exact .exn0 a
  · exact .exnS h1 h2
theorem ds_try_as {ts : DTX} (hs : X.stack = X.env :: X.outer) (hf : X.env.frame = some X.env.locals) (hN : X.N.Nodup) (hi : X.N[i]? = some n) (hln : X.env.kindOf n = some .local) (hc : X.mg x = some (.ref c)) (hg : Gl X x) (tk : Takes X W)
    (hb : ∀ (W : WX) (WD : DWX) (pn : List (Addr × Obj)) (xe : Value → Shared → Prop), Takes (X.tr pn xe) W → PassesOwn (model X.prog X.w) X.A X.env xe → DSs (X.tr pn xe) W WD body (tb WD))
    (hsu : ∀ (a : Addr) (oe : Obj) (C : Addr) (d : Option Addr) (pn : List (Addr × Obj)), Zc (.ref C) d oe → (∃ vs, oe.data = .fields vs) → DSs (X.suite a ((a, oe) :: pn)) W0 WD0 (b₀ :: suite) (ts a C d)) (hdb : (x == ("__debug__" : Str)) = false := by decide) :
    DS X W WD (.Try body [.ExceptHandler (some (.Name x np)) (some n) (b₀ :: suite) pos'] [] [] pos) (dTryAs X.K c i tb ts WD) := by
  refine PS.imp (ps_try_as (i := i) (tb := fun W E σ H => ∃ WD', upS X.K W WD' (tb WD') E σ H) (ts := fun a cls d E σ H => ∃ C, cls = .ref C ∧ upS X.K W0 WD0 (ts a C d) E σ H) hs hf hN hi hln ⟨hg, hdb, .inl hc⟩ tk (fun W pn xe tk' hp' => ⟨fun pins s σ H E I h => ?_⟩) (fun a oe cls d pn hz hv => ⟨fun pins s σ H E I h => ?_⟩)) fun E σ H h => ?_
  · obtain ⟨WD', h⟩ := h
    exact (hb W WD' pn xe tk' hp').run pins s σ H E I h
  · obtain ⟨C, rfl, h⟩ := h
    exact (hsu a oe C d pn hz hv).run pins s σ H E I h
  · obtain ⟨G, F, r, m, DD, x, t, k⟩ := h
    refine ⟨dCatchAs X.K c i ts WD DD, G, F, r, m, DD, ⟨x.rep, x.rs, fun G' H' m' r' s' C fs d e r1 rs1 rx wd => ?_⟩, t, k⟩
    obtain ⟨b, eb, h1, h2⟩ := wd
    refine ⟨b, eb, fun hb a ha => ⟨C, rfl, G', F, _, m', _, ⟨r1, rs1.set (rp_exn rx), Lx.no⟩, h1 hb a d (r1.mfree ha), ?_⟩, fun hb => x.lx G' H' m' r' s' C fs d e r1 rs1 rx (h2 hb)⟩
    have k' := k.mono e
    exact ⟨fun G2 H2 m2 r2 s2 e2 rep2 rs2 t2 => k'.nx G2 H2 m2 _ _ e2 rep2 (rs_none rs2 i none) t2, k'.rt, fun G2 H2 m2 r2 s2 e2 rep2 rs2 t2 => k'.bk G2 H2 m2 _ _ e2 rep2 (rs_none rs2 i none) t2, fun G2 H2 m2 r2 s2 e2 rep2 rs2 t2 => k'.ct G2 H2 m2 _ _ e2 rep2 (rs_none rs2 i none) t2⟩
def dXf (a cls : Addr) (d : Option Addr) (C : Addr) (f : Str) (te : DTE) : DTE := fun r m Q => te r m fun v m1 => ∃ fs y, v = .exn a d fs ∧ cls = C ∧ fs.lookup f = some y ∧ Q y m1
theorem rpf_look {K : PySem.W.Frag} {G : Hp} {f : Str} : ∀ {a : List (Str × D)} {u : List (Str × V)} {y : D}, Rpf K G a u → a.lookup f = some y → ∃ v, u.lookup f = some v ∧ Rp K G y v
  | _, _, _, .nil, h => by cases h
  | _, _, y, .cons (n := n) (d := d) (v := v) r t, h => by
    rw [List.lookup_cons] at h ⊢
    cases e : f == n with
    | true =>
      rw [e] at h
      cases h
      exact ⟨v, rfl, r⟩
    | false =>
      rw [e] at h
      exact rpf_look t h
theorem de_xf {a cls C : Addr} {oe : Obj} {d : Option Addr} {pn : List (Addr × Obj)} {e : Expr} {te : DTE} {f : Str} {W : WX} {WD : DWX} (T : XfC X.K C) (hno : PySem.W.findIn X.K (.ref C) f = some none) (hz : Zc (.ref cls) d oe) (hf : ∃ vs, oe.data = .fields vs)
    (he : DE (X.suite a ((a, oe) :: pn)) W WD e te) (hb : attributeBase e f X.env (eval e X.env) = eval e X.env := by rfl) : DE (X.suite a ((a, oe) :: pn)) W WD (.Attribute e f pos) (dXf a cls d C f te) := by
  refine PE.imp (pe_xf T hno hz hf he hb) fun σ H Q h => ?_
  obtain ⟨G, F, r, m, QD, x, t, k⟩ := h
  refine ⟨G, F, r, m, _, x, t, fun G1 H1 m1 d1 v1 e1 r1 p1 t1 => ?_⟩
  obtain ⟨fs, y, rfl, rfl, hl, q⟩ := t1
  cases p1 with
  | exn0 a => cases hl
  | exnS h1 h2 =>
    obtain ⟨v, hv, rv⟩ := rpf_look h2 hl
    exact ⟨rfl, rfl, _, _, v, rfl, r1.ext _ _ h1, hv, k G1 H1 m1 y v e1 r1 rv q⟩
end
def oexIn (K : PySem.W.Frag) (C : Addr) : Bool := match K.lookup C with
  | some ⟨.type "type", _, .cls cd, sl⟩ => (match cd.mro, sl.toList with
    | .ref C' :: bm, [_, _, _, _, some (.builtin n), _] => C' == C && (n == "ValueError.__new__" && (!cd.hasDel && (cd.hasDict && PySem.HandSPX.refsVE bm)))
    | _, _ => false)
  | _ => false
theorem oex_in {K : PySem.W.Frag} {C : Addr} (q : oexIn K C = true) : ∃ nm q N bs bm sn sub ab col dd k0 k1 k2 k3 k5, K.lookup C = some (excClassObj nm q C N bs bm true sn sub ab col dd k0 k1 k2 k3 k5 "ValueError.__new__") ∧ PySem.HandSPX.refsVE bm = true := by
  unfold oexIn at q
  split at q
  · rename_i dd cd sl ho
    split at q
    · rename_i C' bm k0 k1 k2 k3 n k5 hm hs
      simp only [Bool.and_eq_true, beq_iff_eq, Bool.not_eq_true'] at q
      obtain ⟨rfl, rfl, hdel, hd, hr⟩ := q
      obtain ⟨nm, bs, mro, ns, qn, hd', sn, sub, ab, col, del⟩ := cd
      dsimp only at hm hdel hd
      subst hm hdel hd
      have hsl : sl = #[k0, k1, k2, k3, some (.builtin "ValueError.__new__"), k5] := by
        obtain ⟨l⟩ := sl
        simp only at hs
        rw [hs]
      subst hsl
      exact ⟨nm, qn, ns, bs, bm, sn, sub, ab, col, dd, k0, k1, k2, k3, k5, ho, hr⟩
    · cases q
  · cases q
def oexB (C : Str) (K : Fr0) : Bool := oexIn K (ga K C) && (eqO (PySem.W.findIn K (.ref (ga K C)) "__setattr__") (some (some (.builtin "object.__setattr__"))) && (PySem.W.keepIn K (.ref (ga K C)) && (decide (PySem.W.subIn K (.ref (ga K C)) (.type "BaseException") = some true) && (decide (PySem.W.typeIn K (.ref (ga K C)) = some (.type "type")) &&
  (eqO (PySem.W.findIn K (.ref (ga K C)) "__init__") (some (some (.ref (pad K C "__init__")))) && decide (PySem.W.typeIn K (.ref (pad K C "__init__")) = some (.type "function")))))))
theorem oex_of {K : Fr0} {C : Str} (h : oexB C K = true) : OexC K (ga K C) ∧ PySem.W.findIn K (.ref (ga K C)) "__init__" = some (some (.ref (ma K (ga K C) "__init__"))) ∧ PySem.W.typeIn K (.ref (ma K (ga K C) "__init__")) = some (.type "function") := by
  obtain ⟨h1, h⟩ := ba h
  obtain ⟨h2, h⟩ := ba h
  obtain ⟨h3, h⟩ := ba h
  obtain ⟨h4, h⟩ := ba h
  obtain ⟨h5, h⟩ := ba h
  obtain ⟨h6, h7⟩ := ba h
  exact ⟨⟨oex_in h1, eqO_ok h2, of_decide_eq_true h4, of_decide_eq_true h5, h3⟩, eqO_ok h6, of_decide_eq_true h7⟩
def nofB (C f : Str) (K : Fr0) : Bool := decide (PySem.W.findIn K (.ref (ga K C)) f = some none)
def exmB (C c : Str) (b : Bool) (K : Fr0) : Bool := decide (PySem.W.exmOne K (.ref (ga K C)) (.ref (ga K c)) = some b)
def xfcB (C : Str) (K : Fr0) : Bool := xfB K (ga K C)
end DL

set_option Elab.async false
set_option linter.all false
set_option maxRecDepth 100000
set_option maxHeartbeats 4000000
namespace DL
open PySem PySem.Spec PyProof.Rows L2
open He (ga ma eqO eqO_ok ba)
abbrev DTR := DSt → M → (Int → Int → M → Prop) → Prop
theorem PRg.imp {X : Cx} {e : Expr} {t t' : L2.St → Hp → (Int → Int → Hp → Prop) → Prop} (h : PRg X e t) (i : ∀ σ H R, t' σ H R → t σ H R) : PRg X e t' := fun pins s σ H R I q => h pins s σ H R I (i σ H R q)
section
variable {X : Cx} {W : WX} {WD : DWX} {a b e tg : Expr} {ta tb : DTE} {tr : DTR} {p pos : Pos}
def drR1 (ta : DTE) : DTR := fun r m Q => ta r m fun d m1 => ∃ n, d = .int n ∧ Q 0 n m1
def drR2 (ta tb : DTE) : DTR := fun r m Q => ta r m fun d m1 => tb r m1 fun d2 m2 => ∃ i j, d = .int i ∧ d2 = .int j ∧ Q i j m2
def revD (lo : Int) (n : Nat) : List D := (List.range n).map fun (k : Nat) => D.int (lo + (n : Int) - 1 - (k : Int))
def diRv (tr : DTR) : DTI := fun r m Q => tr r m fun a b m1 => (-(2 ^ 62) ≤ a ∧ a < 2 ^ 62 ∧ -(2 ^ 62) ≤ b ∧ b < 2 ^ 62) ∧ Q (revD a (b - a).toNat) m1
def dListR (mt : Bool) (tr : DTR) : DTE := fun r m Q => tr r m fun a b m1 => RgOk a b ∧ mkL mt (rngD a (b - a).toNat) m1 Q
end
structure SMet (K : PySem.W.Frag) (C : Addr) (m : Str) (p g : Addr) : Prop where
  rd : ClX.CRead K C (.type "type")
  at_ : PySem.W.findCls K (.ref C) (.type "type") m = some (.get (.builtin "staticmethod.__get__") (.ref p) .none (.ref C))
  rc : ∃ rest, PySem.W.recIn K p "staticmethod" = some (.ref g :: rest)
section
variable {X : Cx} {W : WX} {WD : DWX} {k : Nat} {C p g : Addr} {fd : FuncData} {ps : List Str} {sp : DSp} {x mn : Str} {np pos apos : Pos} {e : Expr} {es : List Expr} {t : DTA} {pl : Sem Bool}
end
section
variable {X : Cx} {W : WX} {WD : DWX} {k : Nat} {f C : Addr} {fd : FuncData} {ps : List Str} {sp : DSp} {a b : Expr} {ta tb : DTE} {pos : Pos}
def dAddO (C : Addr) (sp : DSp) (WD : DWX) (ta tb : DTE) : DTE := fun r m Q => ta r m fun x m1 => tb r m1 fun y m2 => ∃ fs gs, insOf m2 x = some (C, fs) ∧ insOf m2 y = some (C, gs) ∧ sp [x, y] m2 (fun d m' => (∃ C fs, d = .ins C fs) ∧ Q d m') fun x m2 => WD x r m2
def dInO (C : Addr) (sp : DSp) (b : Bool) : DR2 := fun x y m Q => ∃ fs, insOf m y = some (C, fs) ∧ sp [y, x] m (fun d m' => ∃ c : Bool, d = .bl c ∧ Q (.bl (c != b)) m') fun _ _ => False
end
end DL

set_option Elab.async false
set_option linter.all false
set_option maxRecDepth 100000
set_option maxHeartbeats 4000000
namespace DL
open PySem PySem.Spec PyProof.Rows L2
def clB : Nat → D → Bool
  | _, .non => true
  | _, .int _ => true
  | _, .str x => PyData.strOk x
  | n + 1, .lst xs => xs.all (clB n)
  | n + 1, .tup xs => xs.all (clB n)
  | _, _ => false
theorem cl_all {n : Nat} : ∀ {xs : List D}, (∀ x ∈ xs, ∃ p, toP x = some p ∧ p.canLay0 = true ∧ p.depth ≤ n) → ∃ ps, toPs xs = some ps ∧ PyData.canLayAll0 ps = true ∧ PyData.depthAll ps ≤ n
  | [], _ => ⟨[], by simp [toPs], rfl, by simp [PyData.depthAll]⟩
  | x :: xs, h => by
    obtain ⟨p, e, c, d⟩ := h x List.mem_cons_self
    obtain ⟨ps, e2, c2, d2⟩ := cl_all (xs := xs) fun y hy => h y (List.mem_cons_of_mem _ hy)
    refine ⟨p :: ps, by rw [toPs, e, e2]; rfl, ?_, ?_⟩
    · show (PyData.canLay0 p && PyData.canLayAll0 ps) = true
      rw [c, c2]; rfl
    · show max (PyData.depth p) (PyData.depthAll ps) ≤ n
      omega
theorem cl_toP : ∀ (n : Nat) (x : D), clB n x = true → ∃ p, toP x = some p ∧ p.canLay0 = true ∧ p.depth ≤ n
  | n, .non, _ => ⟨.none, by rw [toP], rfl, by simp [PyData.depth]⟩
  | n, .int i, _ => ⟨.int i, by rw [toP], rfl, by simp [PyData.depth]⟩
  | n, .str x, h => by
    refine ⟨.str x, by rw [toP], ?_, by simp [PyData.depth]⟩
    cases n <;> exact h
  | n + 1, .lst xs, h => by
    obtain ⟨ps, e, c, d⟩ := cl_all (n := n) fun x hx => cl_toP n x (List.all_eq_true.mp h x hx)
    exact ⟨.list ps, by rw [toP, e]; rfl, c, by show PyData.depthAll ps + 1 ≤ n + 1; omega⟩
  | n + 1, .tup xs, h => by
    obtain ⟨ps, e, c, d⟩ := cl_all (n := n) fun x hx => cl_toP n x (List.all_eq_true.mp h x hx)
    exact ⟨.tuple ps, by rw [toP, e]; rfl, c, by show PyData.depthAll ps + 1 ≤ n + 1; omega⟩
  | 0, .lst _, h => by cases h
  | 0, .tup _, h => by cases h
  | 0, .bl _, h => by cases h
  | 0, .ty _, h => by cases h
  | 0, .ref _, h => by cases h
  | 0, .rdl _, h => by cases h
  | 0, .ins _ _, h => by cases h
  | 0, .exn _ _ _, h => by cases h
  | 0, .dki _, h => by cases h
  | 0, .dti _, h => by cases h
  | 0, .clo _ _ _ _ _, h => by cases h
  | 0, .obj _ _, h => by cases h
  | n + 1, .bl _, h => by cases h
  | n + 1, .ty _, h => by cases h
  | n + 1, .ref _, h => by cases h
  | n + 1, .rdl _, h => by cases h
  | n + 1, .ins _ _, h => by cases h
  | n + 1, .exn _ _ _, h => by cases h
  | n + 1, .dki _, h => by cases h
  | n + 1, .dti _, h => by cases h
  | n + 1, .clo _ _ _ _ _, h => by cases h
  | n + 1, .obj _ _, h => by cases h
theorem toPs_cons {x : D} {xs : List D} {p : List PyData} (e : toPs (x :: xs) = some p) : ∃ a as, p = a :: as ∧ toP x = some a ∧ toPs xs = some as := by
  rw [toPs] at e
  cases e1 : toP x with
  | none => rw [e1] at e; cases e
  | some a =>
    rw [e1] at e
    cases e2 : toPs xs with
    | none => rw [e2] at e; cases e
    | some as => rw [e2] at e; cases e; exact ⟨a, as, rfl, rfl, rfl⟩
theorem cl_eqAll {n : Nat} (ih : ∀ (x y : D) (p q : PyData), clB n x = true → clB n y = true → toP x = some p → toP y = some q → (PyData.eqv p q = true ↔ x = y)) : ∀ (xs ys : List D) (ps qs : List PyData), xs.all (clB n) = true → ys.all (clB n) = true → toPs xs = some ps → toPs ys = some qs → (PyData.eqvAll ps qs = true ↔ xs = ys)
  | [], [], ps, qs, _, _, e1, e2 => by
    rw [toPs] at e1 e2; cases e1; cases e2
    exact ⟨fun _ => rfl, fun _ => by simp [PyData.eqvAll]⟩
  | [], y :: ys, ps, qs, _, _, e1, e2 => by
    rw [toPs] at e1; cases e1
    obtain ⟨a, as, rfl, _, _⟩ := toPs_cons e2
    simp [PyData.eqvAll]
  | x :: xs, [], ps, qs, _, _, e1, e2 => by
    rw [toPs] at e2; cases e2
    obtain ⟨a, as, rfl, _, _⟩ := toPs_cons e1
    simp [PyData.eqvAll]
  | x :: xs, y :: ys, ps, qs, c1, c2, e1, e2 => by
    obtain ⟨a, as, rfl, f1, f2⟩ := toPs_cons e1
    obtain ⟨b, bs, rfl, g1, g2⟩ := toPs_cons e2
    rw [List.all_cons, Bool.and_eq_true] at c1 c2
    have h1 := ih x y a b c1.1 c2.1 f1 g1
    have h2 := cl_eqAll ih xs ys as bs c1.2 c2.2 f2 g2
    rw [PyData.eqvAll, Bool.and_eq_true, h1, h2, List.cons.injEq]
theorem toP_lst {xs : List D} {p : PyData} (e : toP (.lst xs) = some p) : ∃ ps, p = .list ps ∧ toPs xs = some ps := by
  rw [toP] at e
  cases q : toPs xs with
  | none => rw [q] at e; cases e
  | some ps => rw [q] at e; cases e; exact ⟨ps, rfl, rfl⟩
theorem toP_tup {xs : List D} {p : PyData} (e : toP (.tup xs) = some p) : ∃ ps, p = .tuple ps ∧ toPs xs = some ps := by
  rw [toP] at e
  cases q : toPs xs with
  | none => rw [q] at e; cases e
  | some ps => rw [q] at e; cases e; exact ⟨ps, rfl, rfl⟩
theorem cl0 {x : D} (h : clB 0 x = true) : x = .non ∨ (∃ i, x = .int i) ∨ ∃ i, x = .str i := by
  cases x with
  | non => exact .inl rfl
  | int i => exact .inr (.inl ⟨i, rfl⟩)
  | str i => exact .inr (.inr ⟨i, rfl⟩)
  | _ => cases h
theorem cl_eqv : ∀ (n : Nat) (x y : D) (p q : PyData), clB n x = true → clB n y = true → toP x = some p → toP y = some q → (PyData.eqv p q = true ↔ x = y) := by
  intro n
  induction n with
  | zero =>
    intro x y p q c1 c2 e1 e2
    rcases cl0 c1 with rfl | ⟨i, rfl⟩ | ⟨i, rfl⟩ <;> rcases cl0 c2 with rfl | ⟨j, rfl⟩ | ⟨j, rfl⟩ <;> (rw [toP] at e1; rw [toP] at e2; cases e1; cases e2; simp [PyData.eqv])
  | succ n ih =>
    intro x y p q c1 c2 e1 e2
    cases x with
    | lst xs =>
      obtain ⟨ps, rfl, f1⟩ := toP_lst e1
      cases y with
      | lst ys =>
        obtain ⟨qs, rfl, f2⟩ := toP_lst e2
        have := cl_eqAll ih xs ys ps qs c1 c2 f1 f2
        rw [PyData.eqv, this, D.lst.injEq]
      | tup ys => obtain ⟨qs, rfl, f2⟩ := toP_tup e2; simp [PyData.eqv]
      | non => rw [toP] at e2; cases e2; simp [PyData.eqv]
      | int _ => rw [toP] at e2; cases e2; simp [PyData.eqv]
      | str _ => rw [toP] at e2; cases e2; simp [PyData.eqv]
      | _ => cases c2
    | tup xs =>
      obtain ⟨ps, rfl, f1⟩ := toP_tup e1
      cases y with
      | lst ys => obtain ⟨qs, rfl, f2⟩ := toP_lst e2; simp [PyData.eqv]
      | tup ys =>
        obtain ⟨qs, rfl, f2⟩ := toP_tup e2
        have := cl_eqAll ih xs ys ps qs c1 c2 f1 f2
        rw [PyData.eqv, this, D.tup.injEq]
      | non => rw [toP] at e2; cases e2; simp [PyData.eqv]
      | int _ => rw [toP] at e2; cases e2; simp [PyData.eqv]
      | str _ => rw [toP] at e2; cases e2; simp [PyData.eqv]
      | _ => cases c2
    | non =>
      rw [toP] at e1; cases e1
      cases y with
      | lst ys => obtain ⟨qs, rfl, f2⟩ := toP_lst e2; simp [PyData.eqv]
      | tup ys => obtain ⟨qs, rfl, f2⟩ := toP_tup e2; simp [PyData.eqv]
      | non => rw [toP] at e2; cases e2; simp [PyData.eqv]
      | int _ => rw [toP] at e2; cases e2; simp [PyData.eqv]
      | str _ => rw [toP] at e2; cases e2; simp [PyData.eqv]
      | _ => cases c2
    | int i =>
      rw [toP] at e1; cases e1
      cases y with
      | lst ys => obtain ⟨qs, rfl, f2⟩ := toP_lst e2; simp [PyData.eqv]
      | tup ys => obtain ⟨qs, rfl, f2⟩ := toP_tup e2; simp [PyData.eqv]
      | non => rw [toP] at e2; cases e2; simp [PyData.eqv]
      | int _ => rw [toP] at e2; cases e2; simp [PyData.eqv]
      | str _ => rw [toP] at e2; cases e2; simp [PyData.eqv]
      | _ => cases c2
    | str i =>
      rw [toP] at e1; cases e1
      cases y with
      | lst ys => obtain ⟨qs, rfl, f2⟩ := toP_lst e2; simp [PyData.eqv]
      | tup ys => obtain ⟨qs, rfl, f2⟩ := toP_tup e2; simp [PyData.eqv]
      | non => rw [toP] at e2; cases e2; simp [PyData.eqv]
      | int _ => rw [toP] at e2; cases e2; simp [PyData.eqv]
      | str _ => rw [toP] at e2; cases e2; simp [PyData.eqv]
      | _ => cases c2
    | _ => cases c1
def vD (m : M) : D → D
  | .ref a => match m a with
    | some (.lst xs) => .lst xs
    | _ => .ref a
  | d => d
theorem vD_ref {m : M} {a : Addr} {xs : List D} (h : m a = some (.lst xs)) : vD m (.ref a) = .lst xs := by
  show (match m a with | some (.lst xs) => D.lst xs | _ => D.ref a) = _
  rw [h]
theorem dat_vD {m : M} {n : Nat} {x : D} (c : clB n (vD m x) = true) : ∃ p, datOf m x = some p ∧ toP (vD m x) = some p ∧ p.canLay0 = true ∧ p.depth ≤ n := by
  obtain ⟨p, e, c1, d1⟩ := cl_toP n _ c
  refine ⟨p, ?_, e, c1, d1⟩
  cases x with
  | ref a =>
    cases q : m a with
    | none =>
      have : vD m (.ref a) = .ref a := by show (match m a with | some (.lst xs) => D.lst xs | _ => D.ref a) = _; rw [q]
      rw [this] at c
      cases n <;> cases c
    | some o =>
      cases o with
      | lst xs =>
        rw [vD_ref q, toP] at e
        dsimp only [datOf]
        rw [q]
        exact e
      | _ =>
        have : vD m (.ref a) = .ref a := by show (match m a with | some (.lst xs) => D.lst xs | _ => D.ref a) = _; rw [q]
        rw [this] at c
        cases n <;> cases c
  | _ => exact e
theorem eqB_data {x y : D} {b : Bool} (h : dEqB x y = some b) : b = true ↔ x = y := by
  cases x <;> cases y <;> first
    | (cases h; done)
    | (cases h; simp)
theorem eqB_vD {m : M} {x y : D} {b : Bool} (h : dEqB x y = some b) : vD m x = x ∧ vD m y = y := by
  cases x <;> cases y <;> first
    | (cases h; done)
    | exact ⟨rfl, rfl⟩
section
variable {m : M} {n : Nat} {x y : D} {Q : D → M → Prop}
theorem dEq_data (hn : n ≤ 64) (c1 : clB n (vD m x) = true) (c2 : clB n (vD m y) = true) (h : ∀ b : Bool, (b = true ↔ vD m x = vD m y) → Q (.bl b) m) : dEq x y m Q := by
  unfold dEq
  cases e : dEqB x y with
  | some b =>
    obtain ⟨h1, h2⟩ := eqB_vD (m := m) e
    exact h b (by rw [h1, h2]; exact eqB_data e)
  | none =>
    obtain ⟨p, e1, f1, l1, d1⟩ := dat_vD c1
    obtain ⟨q, e2, f2, l2, d2⟩ := dat_vD c2
    refine ⟨p, q, e1, e2, ?_, ?_, h _ (cl_eqv n _ _ p q c1 c2 f1 f2)⟩
    · unfold SeqAt.shaped; rw [l1, decide_eq_true (by omega)]; rfl
    · unfold SeqAt.shaped; rw [l2, decide_eq_true (by omega)]; rfl
theorem dNe_data (hn : n ≤ 64) (c1 : clB n (vD m x) = true) (c2 : clB n (vD m y) = true) (h : ∀ b : Bool, (b = true ↔ vD m x = vD m y) → Q (.bl !b) m) : dNe x y m Q := by
  unfold dNe
  cases e : dEqB x y with
  | some b =>
    obtain ⟨h1, h2⟩ := eqB_vD (m := m) e
    exact h b (by rw [h1, h2]; exact eqB_data e)
  | none =>
    obtain ⟨p, e1, f1, l1, d1⟩ := dat_vD c1
    obtain ⟨q, e2, f2, l2, d2⟩ := dat_vD c2
    refine ⟨p, q, e1, e2, ?_, ?_, h _ (cl_eqv n _ _ p q c1 c2 f1 f2)⟩
    · unfold SeqAt.shaped; rw [l1, decide_eq_true (by omega)]; rfl
    · unfold SeqAt.shaped; rw [l2, decide_eq_true (by omega)]; rfl
theorem dEq_same (hn : n ≤ 64) (c1 : clB n x = true) (hx : vD m x = x) (h : Q (.bl true) m) : dEq x x m Q :=
  dEq_data hn (by rw [hx]; exact c1) (by rw [hx]; exact c1) fun b hb => by rw [hb.mpr rfl]; exact h
end
end DL

set_option Elab.async false
set_option linter.all false
set_option maxRecDepth 100000
set_option maxHeartbeats 4000000
namespace DL
open PySem PySem.Spec PyProof.Rows L2
open He (ga ma eqO eqO_ok ba)
def chars (z : Str) : List D := z.cps.toList.map fun c => D.str ⟨#[c]⟩
theorem chars_len (z : Str) : (chars z).length = z.cps.size := by simp [chars]
theorem it_str {K : PySem.W.Frag} {G : Hp} (z : Str) : ItD K (Its z) G (chars z) where
  stop := fun H e => by rw [chars_len]; exact Nat.le_refl _
  go := fun i H hi e => by rw [chars_len] at hi; exact hi
  yld := fun i G1 H F m x H' d e rep hd y => by
    obtain ⟨rfl, c, hc, rfl⟩ := y
    unfold chars at hd
    rw [List.getElem?_map] at hd
    have : z.cps.toList[i]? = some c := by simpa using hc
    rw [this] at hd
    cases hd
    exact ⟨G1, Same.refl G1, rep, .str _⟩
def enumD (ds : List D) : List D := ds.zipIdx.map fun p => .tup [.int (p.2 : Nat), p.1]
theorem enumD_len (ds : List D) : (enumD ds).length = ds.length := by simp [enumD]
theorem enumD_at {ds : List D} {i : Nat} {d : D} (h : (enumD ds)[i]? = some d) : ∃ x, ds[i]? = some x ∧ d = .tup [.int (i : Nat), x] := by
  unfold enumD at h
  rw [List.getElem?_map] at h
  cases q : ds.zipIdx[i]? with
  | none => rw [q] at h; cases h
  | some p =>
    rw [q] at h
    cases h
    rw [List.getElem?_zipIdx] at q
    cases q2 : ds[i]? with
    | none => rw [q2] at q; cases q
    | some x =>
      rw [q2] at q
      cases q
      exact ⟨x, rfl, by simp⟩
theorem it_enum {K : PySem.W.Frag} {G : Hp} {a : Addr} {vs : List V} {ds : List D} (h : SqL K G a vs) (r : Rps K G ds vs) : ItD K (Ite K a) G (enumD ds) where
  stop := fun H e => ⟨vs, e.seq h, by rw [enumD_len, r.length]; exact Nat.le_refl _⟩
  go := fun i H hi e => by
    rw [enumD_len] at hi
    have hv : i < vs.length := by rw [← r.length]; exact hi
    exact ⟨vs, vs[i], e.seq h, by simp [hv]⟩
  yld := fun i G1 H F m x H' d e rep hd y => by
    obtain ⟨T, v, rfl, hT, rfl, hy⟩ := y
    obtain ⟨u, hu, rfl⟩ := enumD_at hd
    obtain ⟨w, h1, h2⟩ := r.get hu
    have q := hy vs ((e.trans rep.ext).seq h)
    rw [h1] at q
    cases q
    obtain ⟨e2, r2⟩ := rep.froz (o := .tup [.int (i : Nat), v]) hT
    exact ⟨_, e2, r2, .tup (TpK.of upd_same) (.cons (.int _) (.cons (h2.mono (e.trans e2)) .nil))⟩
section
variable {X : Cx} {W : WX} {WD : DWX} {tg : Expr}
def diS (te : DTE) : DTI := fun r m Q => te r m fun d m1 => match d with
  | .str z => Q (chars z) m1
  | _ => False
theorem di_str {l : Expr} {te : DTE} (hl : DE X W WD l te) : DI X W WD tg l (diS te) := by
  refine PI.imp (pi_str hl) fun σ H R h => ?_
  obtain ⟨G, F, r, m, QD, x, t, k⟩ := h
  refine ⟨G, F, r, m, _, x, t, fun G1 H1 m1 d1 v1 e1 r1 p1 t1 => ?_⟩
  cases d1 with
  | str z => cases p1; exact ⟨_, rfl, k G1 H1 m1 _ _ e1 r1 (it_str z) t1⟩
  | _ => exact t1.elim
def diE (ta : DTA) : DTI := fun r m Q => ta r m fun ds m1 => match ds with
  | [.lst xs] => Q (enumD xs) m1
  | [.rdl xs] => Q (enumD xs) m1
  | _ => False
theorem di_enum {e : Expr} {ta : DTA} {p pos tpos : Pos} {elts : List Expr} {kk : Nat} (hg : Gl X "enumerate") (hm : X.mg "enumerate" = none) (ha : DA X W WD [e] ta) (hs : starEach [e] X.env = [(false, eval e X.env)] := by rfl) : DI X W WD (.Tuple elts kk tpos) (.Call (.Name "enumerate" p) [e] [] pos) (diE ta) := by
  refine PI.imp (pi_enum hg hm ha hs) fun σ H R h => ?_
  obtain ⟨G, F, r, m, QD, x, t, k⟩ := h
  refine ⟨G, F, r, m, _, x, t, fun G1 H1 m1 ds vs e1 r1 p1 t1 => ?_⟩
  match ds, t1 with
  | [.lst xs], t1 =>
    obtain ⟨v, rfl, q⟩ := rps1 p1
    cases q with | lst h1 q1 => exact ⟨_, _, rfl, SqL.of (r1.ext _ _ h1), k G1 H1 m1 _ _ e1 r1 (it_enum (SqL.of h1) q1) t1⟩
  | [.rdl xs], t1 =>
    obtain ⟨v, rfl, q⟩ := rps1 p1
    cases q with | rdl h1 q1 => exact ⟨_, _, rfl, r1.ext.seq h1, k G1 H1 m1 _ _ e1 r1 (it_enum h1 q1) t1⟩
end
section
variable {X : Cx} {W : WX} {WD : DWX}
def dFmt (te : DTE) : DTE := fun r m Q => te r m fun d m1 => match d with
  | .str y => y.length ≤ sizeLine ∧ Q (.str y) m1
  | .int i => i.natAbs.log2 < 1920 ∧ Q (.str (toString i)) m1
  | _ => False
def dJs : List DTE → Str → DSt → M → (Str → M → Prop) → Prop
  | [], acc, _, m, Q => Q acc m
  | t :: ts, acc, r, m, Q => t r m fun d m1 => ∃ y : Str, d = .str y ∧ (acc ++ y).length ≤ sizeLine ∧ dJs ts (acc ++ y) r m1 Q
def dFStr (ts : List DTE) : DTE := fun r m Q => dJs ts Str.empty r m fun out m1 => Q (.str out) m1
inductive DJ (X : Cx) (W : WX) (WD : DWX) : List Expr → List DTE → Prop where
  | nil : DJ X W WD [] []
  | cons {e : Expr} {t : DTE} {es : List Expr} {ts : List DTE} (h : DE X W WD e t) (r : DJ X W WD es ts) : DJ X W WD (e :: es) (t :: ts)
end
section
variable {K : PySem.W.Frag} {x qual : Str} {params : Arguments} {body : List Stmt} {scope : Scope} {dvs : List V} {kws : List (Str × V)} {f : Addr} {fd : FuncData} {ps : List Str}
theorem kbn_all (F : FunD K x qual params body scope [] kws f fd) (n : Nat) (ks : List Str)
    (h : ∀ (kV doc pm : Value) (an : Option Addr) (cdv ct : Value) (us ws : List Value), us.length = n → ws.length = ks.length → bindArgs (PySem.W.fnOf x qual params body scope .none kV doc pm an cdv ct) ⟨us, ks.zip ws⟩ = pure (ps.zip (us ++ ws))) : KBn K fd ps n ks (fun us ws => us ++ ws) (fun vs zs => vs ++ zs) := by
  obtain ⟨oc, od, dV, kV, doc, pm, an, cdv, ct, osl, rfl, lk, hcd, hD, hK⟩ := F.ex
  rcases hD with ⟨_, rfl⟩ | ⟨e, _⟩
  · exact ⟨fun s us ws X l1 l2 => .of_eq (h kV doc pm an cdv ct us ws l1 l2), fun r1 r2 => r1.append r2⟩
  · exact absurd rfl e
end
structure GoodK (P : Program) (w : World) (K : Fr0) (mg : Str → Option Value) (base : Heap) (k : Nat) (x : Option Str) (f : Addr) (ps : List Str) (sp : DSp) (n : Nat) (ks : List Str) (dds : List D) : Prop where
  ex : ∃ fd, FnOk P w K mg base (L2.CX P w) k f fd ps (liftSp K sp) ∧ PySem.W.keepIn K (.ref f) = true ∧ KBn K fd ps n ks (fun us ws => us ++ ws) (fun vs zs => vs ++ zs) ∧ ∃ ds dvs, Vals dvs ds ∧ Binds K fd ps ds ∧ ∀ G, Rps K G dds dvs
  gl : match x with
    | some x => mg x = some (.ref f)
    | none => True
structure GoodD (P : Program) (w : World) (K : Fr0) (mg : Str → Option Value) (base : Heap) (k : Nat) (x : Option Str) (f : Addr) (ps : List Str) (sp : DSp) (dds : List D) : Prop where
  ex : ∃ fd, FnOk P w K mg base (L2.CX P w) k f fd ps (liftSp K sp) ∧ PySem.W.keepIn K (.ref f) = true ∧ Binds K fd ps [] ∧ ∃ ds dvs, Vals dvs ds ∧ Binds K fd ps ds ∧ ∀ G, Rps K G dds dvs
  gl : match x with
    | some x => mg x = some (.ref f)
    | none => True
section
variable {X : Cx} {W : WX} {WD : DWX} {k n : Nat} {f : Addr} {fd : FuncData} {ps ks : List Str} {sp : DSp} {x : Str} {p pos kpos : Pos} {e : Expr} {es : List Expr} {kws : List Keyword} {t tk : DTA} {te : DTE} {nm : Option Str} {g : List Value → List Value → List Value} {gV : List V → List V → List V}
abbrev DK (X : Cx) (W : WX) (WD : DWX) (kws : List Keyword) (t : DTA) : Prop := PK X kws (upA X.K W WD t)
theorem PK.imp {t t' : TA} (h : PK X kws t) (i : ∀ σ H Q, t' σ H Q → t σ H Q) : PK X kws t' := ⟨fun pos pins s σ H Q I q => h.run pos pins s σ H Q I (i σ H Q q)⟩
theorem dk_nil : DK X W WD [] daNil := by
  refine PK.imp pk_nil fun σ H Q h => ?_
  obtain ⟨G, F, ρ, m, QD, x, t, k⟩ := h
  exact k G H m [] [] (Same.refl G) x.rep .nil t
theorem dk_cons (ha : DE X W WD e te) (hr : DK X W WD kws t) : DK X W WD (⟨nm, e, kpos⟩ :: kws) (daCons te t) := by
  refine PK.imp (pk_cons ha hr) fun σ H Q h => ?_
  obtain ⟨G, F, ρ, m, QD, x, t, k⟩ := h
  refine ⟨G, F, ρ, m, _, x, t, fun G1 H1 m1 d1 v1 e1 r1 p1 t1 => ?_⟩
  exact ⟨G1, F, ρ, m1, _, x.step e1 r1, t1, fun G2 H2 m2 ds vs e2 r2 p2 t2 => k G2 H2 m2 (d1 :: ds) (v1 :: vs) (e1.trans e2) r2 (.cons (p1.mono e2) p2) t2⟩
def dCallN (n j : Nat) (sp : DSp) (WD : DWX) (t tk : DTA) : DTE := fun r m Q => t r m fun ds m1 => tk r m1 fun zs m2 => ds.length = n ∧ zs.length = j ∧ sp (ds ++ zs) m2 Q fun x m3 => WD x r m3
theorem run_fnNS {CX : CXT} {sp : Sp} {E : XK} {pins : List (Addr × Obj)} {σ : L2.St} {H : Hp} {s : Shared} {Q : VK} {us ws : List Value} {vs zs : List V} (F : FnOk X.prog X.w X.K X.mg X.base CX k f fd ps sp) (hr : Room k X.A) (hb : KBn X.K fd ps n ks g gV) (hx : PassesAt CX X σ E)
    (I : Inv X pins σ H s) (r : Vals vs us) (rz : Vals zs ws) (l1 : vs.length = n) (l2 : zs.length = ks.length) (h : sp (gV vs zs) H Q E) : wpAny (model X.prog X.w) X.A (call (.ref f) us (ks.zip ws)) (EP X pins σ Q) X.xe s := by
  have r2 := hb.rel r rz
  refine wpAny_call (codeAny_mono (F.run X.A X.stack s H ⟨us, ks.zip ws⟩ (g us ws) (gV vs zs) Q E hr I.env0 (hb.to s us ws I.kIn (r.length.symm.trans l1) (rz.length.symm.trans l2)) r2 h) fun r s' hq => ?_)
  cases r with
  | error e => exact hx pins H s e s' I hq
  | ok fl =>
    cases fl with
    | ret u => exact I.after hq
    | next => exact False.elim hq
    | brk => exact False.elim hq
    | cont => exact False.elim hq
theorem de_callN {j : Nat} (F : FnOk X.prog X.w X.K X.mg X.base (L2.CX X.prog X.w) k f fd ps (liftSp X.K sp)) (hr : Room k X.A) (hg : Gl X x) (hm : X.mg x = some (.ref f)) (hk : PySem.W.keepIn X.K (.ref f) = true) (hb : KBn X.K fd ps n ks (fun us ws => us ++ ws) (fun vs zs => vs ++ zs)) (tk' : Takes X W)
    (ha : DA X W WD (e :: es) t) (hkw : DK X W WD kws tk) (hall : (backToKw pos (keywordEach kws X.env)).all (·.1.isSome) = true := by rfl) (hks : (backToKw pos (keywordEach kws X.env)).filterMap (·.1) = ks := by rfl)
    (hdb : (x == ("__debug__" : Str)) = false := by decide) (he : starEach (e :: es) X.env = (false, eval e X.env) :: starEach es X.env := by rfl)
    (hpl : ((backTo pos (starEach (e :: es) X.env)).any (·.1) || (backToKw pos (keywordEach kws X.env)).any (·.1.isNone)) = false := by rfl) (hj : ks.length = j := by rfl) :
    DE X W WD (.Call (.Name x p) (e :: es) kws pos) (dCallN n j sp WD t tk) := by
  subst hj
  refine PE.imp (t := fun σ H Q => upA X.K W WD t σ H fun vs H1 => upA X.K W WD tk σ H1 fun zs H2 => vs.length = n ∧ zs.length = ks.length ∧ liftSp X.K sp (vs ++ zs) H2 Q (WE W σ)) ⟨fun pins s σ H Q I h => ?_⟩ fun σ H Q h => ?_
  · refine wpAny_Call_Name_kw (ld_glob I hg hm ?_ hdb)
    refine PySem.W.callWith_KW (h₀ := X.base) I.ok.mod.kin hk hall (thn (ha.run pos pins s σ H _ I h) fun us s1 ⟨vs, H1, I1, r, q⟩ => ?_) hpl he
    refine thn (hkw.run pos pins s1 σ H1 _ I1 q) fun ws s2 ⟨zs, H2, I2, rz, l1, l2, q2⟩ => ⟨I2.kIn, ?_⟩
    rw [hks]
    exact run_fnNS F hr hb (passAt tk' σ) I2 r rz l1 l2 q2
  · obtain ⟨G, F, r, m, QD, x, t, k⟩ := h
    refine ⟨G, F, r, m, _, x, t, fun G1 H1 m1 ds vs e1 r1 p1 t1 => ?_⟩
    refine ⟨G1, F, r, m1, _, x.step e1 r1, t1, fun G2 H2 m2 zs ws e2 r2 p2 t2 => ?_⟩
    obtain ⟨l1, l2, t2⟩ := t2
    exact ⟨by rw [← p1.length]; exact l1, by rw [← p2.length]; exact l2, lift_call (x.step (e1.trans e2) r2) ((p1.mono e2).append p2) t2 (k.mono (e1.trans e2))⟩
end
def tup0B (ad : Fr0 → Addr) (K : Fr0) : Bool := match K.lookup (ad K) with
  | some ⟨.type "tuple", _, .seq its _, _⟩ => its.size == 0
  | _ => false
theorem tup0_of {ad : Fr0 → Addr} {K : Fr0} (h : tup0B ad K = true) (G : Hp) : Rps K G [.tup []] [.ref (ad K)] := by
  unfold tup0B at h
  split at h
  · rename_i od its n sl e
    have hz : its.size = 0 := by simpa using h
    have : its.toList = [] := by
      have : its.toList.length = 0 := by simpa using hz
      exact List.eq_nil_of_length_eq_zero this
    refine .cons (.tup (vs := []) ⟨.inr ⟨_, its, n, e, rfl, rfl, by rw [hz]; exact Nat.zero_le _, ?_⟩, .inl rfl⟩ .nil) .nil
    rw [this]
    exact .nil
  · cases h
end DL

set_option Elab.async false
set_option linter.all false
set_option maxRecDepth 100000
set_option maxHeartbeats 4000000
namespace DL
open PySem PySem.Spec PyProof.Rows L2
theorem Rep.lend {K : PySem.W.Frag} {G H F : Hp} {m : M} {a : Addr} {xs : List D} (r : Rep K G H F m) (h : m a = some (.lst xs)) : ∃ vs, F a = none ∧ Rps K G xs vs ∧ Rep K G H (upd F a (.lst vs)) (mdel m a) := by
  obtain ⟨g1, f1, w, h3, h4⟩ := r.mo a _ h
  obtain ⟨vs, rfl, h4⟩ := h4.ofLst
  refine ⟨vs, f1, h4, r.ext, fun b v e => ?_, fun b v e => ?_, fun b v e => ?_, r.tb, r.gt, nt_upd r.ft ⟨fun _ e => (by cases e), fun _ e => (by cases e), fun _ e => (by cases e)⟩⟩
  · by_cases hb : b = a
    · subst hb; rw [upd_same] at e; rw [← e]; exact h3
    · rw [upd_ne hb] at e; exact r.frm b v e
  · by_cases hb : b = a
    · subst hb; exact g1
    · rw [upd_ne hb] at e; exact r.dis b v e
  · by_cases hb : b = a
    · subst hb; rw [mdel_same] at e; cases e
    · rw [mdel_ne hb] at e
      obtain ⟨h1, h2, u, h5, h6⟩ := r.mo b v e
      exact ⟨h1, by rw [upd_ne hb]; exact h2, u, h5, h6⟩
theorem upd_comm {H : Hp} {a b : Addr} {o u : HO} (h : a ≠ b) : upd (upd H a o) b u = upd (upd H b u) a o := by
  funext c
  unfold upd
  by_cases e : c = a
  · subst e; rw [if_neg h, if_pos rfl, if_pos rfl]
  · by_cases e2 : c = b
    · subst e2; rw [if_pos rfl, if_neg e, if_pos rfl]
    · rw [if_neg e2, if_neg e, if_neg e, if_neg e2]
def dLcM (mt : Bool) (ti : DTE) (c : CT) (vs : List Nat) (tt : DTT) (te : DTE) : DTE := fun r m Q => ti r m fun d m1 => ∃ a xs, d = .ref a ∧ m1 a = some (.lst xs) ∧ dLcL c vs tt te xs [] r (mdel m1 a) fun acc m2 => m2 a = none → mkL mt acc (mset m2 a (.lst xs)) Q
section
variable {X : Cx} {W : WX} {WD : DWX}
theorem lc_upM {K : PySem.W.Frag} {ti : DTE} {c : CT} {vs : List Nat} {tt : DTT} {te : DTE} {mt : Bool} {σ : L2.St} {H : Hp} {Q : VK} (hc : c.in vs) (h : up K W WD (dLcM mt ti c vs tt te) σ H Q) : tLc (fun σ H R => up K W WD ti σ H fun v H1 => ∃ a, v = .ref a ∧ (∃ xs, SqL K H1 a xs) ∧ R (Itl K a) H1) (ctG K c) (upT K W0 WD0 tt) (up K W0 WD0 te) vs σ H Q := by
  obtain ⟨G, F, r, m, QD, x, t, k⟩ := h
  refine ⟨G, F, r, m, _, x, t, fun G1 H1 m1 d1 v1 e1 r1 p1 t1 => ?_⟩
  obtain ⟨a, xs, rfl, hm, t1⟩ := t1
  cases p1
  obtain ⟨us, hFa, rxs, r1'⟩ := r1.lend hm
  have ha1 : H1 a = some (.lst us) := r1'.frm a _ upd_same
  refine ⟨a, rfl, ⟨us, SqL.of ha1⟩, ?_⟩
  intro Dl hD
  have hF : (upd F a (.lst us)) Dl = none := r1'.frm.free hD
  have hDa : Dl ≠ a := fun z => by subst z; rw [ha1] at hD; cases hD
  refine ⟨fun i n H => n = xs.length - i ∧ i ≤ xs.length ∧ ∃ G2 m2 acc va, Same G1 G2 ∧ Rep K G2 H (upd (upd F a (.lst us)) Dl (.lst va)) m2 ∧ Rps K G2 acc va ∧ dLcL c vs tt te (xs.drop i) acc r m2 (fun acc m => m a = none → mkL mt acc (mset m a (.lst xs)) QD), ⟨xs.length, rfl, Nat.zero_le _, G1, _, [], [], Same.refl G1, r1'.hide hD, .nil, t1⟩, ?_⟩
  rintro i n H2 ⟨rfl, hi, G2, m2, acc, va, e2, rep2, ra, t2⟩
  have ha2 : H2 a = some (.lst us) := rep2.frm a _ (by rw [upd_ne (fun z => hDa z.symm), upd_same])
  by_cases hlt : i < xs.length
  · have hdrop : xs.drop i = xs[i] :: xs.drop (i + 1) := (List.getElem_cons_drop hlt).symm
    rw [hdrop] at t2
    obtain ⟨r2, ec, t2⟩ := t2
    have hv : i < us.length := by rw [← rxs.length]; exact hlt
    refine .inr ⟨⟨us, us[i], SqL.of ha2, by simp [hv]⟩, fun H3 => ∃ G3 m3 acc va, Same G1 G3 ∧ Rep K G3 H3 (upd (upd F a (.lst us)) Dl (.lst va)) m3 ∧ Rps K G3 acc va ∧ dLcL c vs tt te (xs.drop (i + 1)) acc r m3 (fun acc m => m a = none → mkL mt acc (mset m a (.lst xs)) QD), fun H3 h3 => ⟨xs.length - (i + 1), by omega, rfl, hlt, h3⟩, fun v H3 y => ?_⟩
    obtain ⟨rfl, y⟩ := y
    obtain ⟨w, hw1, hw2⟩ := rxs.get (show xs[i]? = some xs[i] by simp [hlt])
    have q := y us (SqL.of ha2)
    rw [hw1] at q
    cases q
    have p3 : Rp K G2 xs[i] v := hw2.mono e2
    have e03 : Same G G2 := e1.trans e2
    refine ct_ok hc (rs_wipe (x.rs.mono e03) vs) p3 ec rep2.ext fun s2 rs2 w2 => ?_
    refine ⟨w2.trans (wipe_wipe σ vs vs fun _ h => h), G2, _, r2, m2, _, ⟨rep2, rs2, Lx.no⟩, t2, fun G4 H4 m4 b e4 rep4 t4 => ?_⟩
    cases b with
    | false => exact ⟨G4, m4, acc, va, e2.trans e4, rep4, ra.mono e4, t4⟩
    | true =>
      refine ⟨G4, _, r2, m4, _, ⟨rep4, rs2.mono e4, Lx.no⟩, t4, fun G5 H5 m5 d v e5 rep5 p5 t5 => ?_⟩
      have ra5 := ra.mono (e4.trans e5)
      exact ⟨va, rep5.frm Dl _ upd_same, by rw [← ra5.length]; exact t5.1, G5, m5, acc ++ [d], va ++ [v], (e2.trans e4).trans e5, rep5.turn, ra5.append (.cons p5 .nil), t5.2⟩
  · have e : i = xs.length := by omega
    subst e
    rw [List.drop_length] at t2
    refine .inl ⟨⟨us, SqL.of ha2, by rw [rxs.length]; exact Nat.le_refl _⟩, ?_⟩
    have hFD : F Dl = none := by rw [upd_ne hDa] at hF; exact hF
    rw [upd_comm (fun z => hDa z.symm)] at rep2
    obtain ⟨ma, rep3⟩ := rep2.outM (by rw [upd_ne (fun z => hDa z.symm)]; exact hFa) (rxs.mono e2)
    have t3 := t2 ma
    cases mt with
    | false =>
      obtain ⟨e3, rep4, p4⟩ := rep3.outL hFD ra
      exact k _ H2 _ _ _ ((e1.trans e2).trans e3) rep4 p4 t3
    | true =>
      obtain ⟨mp, rep4⟩ := rep3.outM hFD ra
      exact k _ H2 _ _ _ (e1.trans e2) rep4 (.ref Dl) (t3 Dl mp)
theorem de_lcM (mt : Bool) {elt tg iter : Expr} {ifs : List Expr} {scope : Scope} {own : List (Str × Nat)} {pos : Pos} {ti : DTE} {c : CT} {tt : DTT} {te : DTE} (hc : X.calm = true) (hN : X.N.Nodup) (hin : c.in (own.map (·.2))) (hi : DE X W WD iter ti) (ok : BlkOk X.N X.env.scope scope own)
    (hg : ∀ (s : Shared) (H : Hp) (C : Addr) (cl : List (Str × Addr)) (fp : List Addr), PG (X.blk s H scope (compEnvC scope cl C X.env) fp) tg (ctG X.K c)) (ht : ∀ (s : Shared) (H : Hp) (C : Addr) (cl : List (Str × Addr)) (fp : List Addr), DTs (X.blk s H scope (compEnvC scope cl C X.env) fp) W0 WD0 ifs tt)
    (he : ∀ (s : Shared) (H : Hp) (C : Addr) (cl : List (Str × Addr)) (fp : List Addr), DE (X.blk s H scope (compEnvC scope cl C X.env) fp) W0 WD0 elt te) (hs : ∀ x, foldedSetIterable iter X.env x = pure x := by intro _; rfl) :
    DE X W WD (.ListComp elt [⟨tg, iter, ifs, 0⟩] scope pos) (dLcM mt ti c (own.map (·.2)) tt te) :=
  PE.imp (pe_lc hc hN (pi_list hi) ok hg ht he hs) fun _ _ _ h => lc_upM hin h
end
theorem lcM_pure {mt : Bool} {ti : DTE} {c : CT} {vs : List Nat} {te : DTE} {r : DSt} {m : M} {a : Addr} {xs : List D} {Q : D → M → Prop} (f : D → D) (ht : ∀ Q' : D → M → Prop, Q' (.ref a) m → ti r m Q') (ha : m a = some (.lst xs)) (hz : xs.length ≤ sizeLine)
    (h : ∀ x ∈ xs, ∃ r2, ctD c x (wipeD r vs) = some r2 ∧ ∀ Q' : D → M → Prop, Q' (f x) (mdel m a) → te r2 (mdel m a) Q') (q : mkL mt (xs.map f) m Q) : dLcM mt ti c vs dYes te r m Q := by
  refine ht _ ⟨a, xs, rfl, ha, lc_pure f (by simpa using hz) h fun _ => ?_⟩
  have e : mset (mdel m a) a (.lst xs) = m := by
    funext b
    unfold mset mdel
    by_cases hb : b = a
    · rw [if_pos hb, hb, ha]
    · rw [if_neg hb, if_neg hb]
  rw [e, List.nil_append]
  exact q
end DL

set_option Elab.async false
set_option linter.all false
set_option maxRecDepth 100000
set_option maxHeartbeats 4000000
namespace DL
open PySem PySem.Spec PyProof.Rows L2
open He (ga ma eqO eqO_ok ba)
def dflA (f : Fr0 → Addr) (i : Nat) (K : Fr0) : Addr := match K.lookup (f K) with
  | some ⟨_, _, .func fd, _⟩ => (match fd.defaults with
    | .ref T => (match K.lookup T with
      | some ⟨_, _, .seq its _, _⟩ => (match its.toList[i]? with
        | some (.ref a) => a
        | _ => 0)
      | _ => 0)
    | _ => 0)
  | _ => 0
theorem frz_l {m : M} {a : Addr} {ds : List D} {Q : D → M → Prop} : frzV (mset m a (.lst ds)) (.ref a) Q ↔ Q (.lst ds) (mdel (mset m a (.lst ds)) a) := by
  unfold frzV
  dsimp only
  rw [mset_same]
theorem in_ss {i j : Str} {m : M} {Q : D → M → Prop} : dIn false (.str i) (.str j) m Q ↔ Q (.bl (!(Builtin.Str.occurrences j i 0 j.length 1).isEmpty)) m := Iff.rfl
theorem notin_ss {i j : Str} {m : M} {Q : D → M → Prop} : dIn true (.str i) (.str j) m Q ↔ Q (.bl (!(!(Builtin.Str.occurrences j i 0 j.length 1).isEmpty))) m := Iff.rfl
theorem inD_strs (x : Str) : ∀ zs : List Str, inD (.str x) (zs.map D.str) = decide (x ∈ zs)
  | [] => rfl
  | z :: zs => by
    have ih := inD_strs x zs
    unfold inD at ih ⊢
    rw [List.map_cons, List.any_cons, ih]
    show ((z == x) || decide (x ∈ zs)) = _
    by_cases h : z = x
    · subst h; simp
    · have h2 : (z == x) = false := by simpa using h
      rw [h2, Bool.false_or]
      refine decide_eq_decide.mpr ⟨List.mem_cons_of_mem _, fun hm => ?_⟩
      rcases List.mem_cons.mp hm with e | e
      · exact absurd e.symm h
      · exact e
theorem flat_strs (zs : List Str) : (zs.map D.str).all flatD = true := by
  rw [List.all_map, List.all_eq_true]
  intro _ _
  rfl
theorem in_strs {x : Str} {zs : List Str} {m : M} {d : D} {Q : D → M → Prop} (hd : sqOf m d = some (zs.map D.str)) (q : Q (.bl (decide (x ∈ zs))) m) : dIn false (.str x) d m Q := by
  cases d with
  | str j => cases hd
  | _ => exact ⟨_, hd, rfl, flat_strs zs, by rw [inD_strs]; exact q⟩
def clR : Nat → D → Bool
  | _, .non => true
  | _, .bl _ => true
  | _, .int _ => true
  | _, .str x => PyData.strOk x
  | n + 1, .lst xs => xs.all (clR n)
  | n + 1, .tup xs => xs.all (clR n)
  | _, _ => false
theorem clR_toP : ∀ (n : Nat) (x : D), clR n x = true → ∃ p, toP x = some p ∧ p.canLay0 = true ∧ p.depth ≤ n
  | n, .non, _ => ⟨.none, by rw [toP], rfl, by simp [PyData.depth]⟩
  | n, .bl i, _ => ⟨.bool i, by rw [toP], rfl, by simp [PyData.depth]⟩
  | n, .int i, _ => ⟨.int i, by rw [toP], rfl, by simp [PyData.depth]⟩
  | n, .str x, h => by
    refine ⟨.str x, by rw [toP], ?_, by simp [PyData.depth]⟩
    cases n <;> exact h
  | n + 1, .lst xs, h => by
    obtain ⟨ps, e, c, d⟩ := cl_all (n := n) fun x hx => clR_toP n x (List.all_eq_true.mp h x hx)
    exact ⟨.list ps, by rw [toP, e]; rfl, c, by show PyData.depthAll ps + 1 ≤ n + 1; omega⟩
  | n + 1, .tup xs, h => by
    obtain ⟨ps, e, c, d⟩ := cl_all (n := n) fun x hx => clR_toP n x (List.all_eq_true.mp h x hx)
    exact ⟨.tuple ps, by rw [toP, e]; rfl, c, by show PyData.depthAll ps + 1 ≤ n + 1; omega⟩
  | 0, .lst _, h => by cases h
  | 0, .tup _, h => by cases h
  | 0, .ty _, h => by cases h
  | 0, .ref _, h => by cases h
  | 0, .rdl _, h => by cases h
  | 0, .ins _ _, h => by cases h
  | 0, .exn _ _ _, h => by cases h
  | 0, .dki _, h => by cases h
  | 0, .dti _, h => by cases h
  | 0, .clo _ _ _ _ _, h => by cases h
  | 0, .obj _ _, h => by cases h
  | n + 1, .ty _, h => by cases h
  | n + 1, .ref _, h => by cases h
  | n + 1, .rdl _, h => by cases h
  | n + 1, .ins _ _, h => by cases h
  | n + 1, .exn _ _ _, h => by cases h
  | n + 1, .dki _, h => by cases h
  | n + 1, .dti _, h => by cases h
  | n + 1, .clo _ _ _ _ _, h => by cases h
  | n + 1, .obj _ _, h => by cases h
mutual
theorem eqv_refl : ∀ p : PyData, p.canLay0 = true → PyData.eqv p p = true
  | .none, _ => by simp [PyData.eqv]
  | .bool b, _ => by simp [PyData.eqv]
  | .int i, _ => by simp [PyData.eqv]
  | .str x, _ => by simp [PyData.eqv]
  | .list xs, h => by rw [PyData.eqv]; exact eqvAll_refl xs h
  | .tuple xs, h => by rw [PyData.eqv]; exact eqvAll_refl xs h
  | .dict _, h => by cases h
theorem eqvAll_refl : ∀ xs : List PyData, PyData.canLayAll0 xs = true → PyData.eqvAll xs xs = true
  | [], _ => by simp [PyData.eqvAll]
  | x :: xs, h => by
    have h : (PyData.canLay0 x && PyData.canLayAll0 xs) = true := h
    rw [Bool.and_eq_true] at h
    rw [PyData.eqvAll, eqv_refl x h.1, eqvAll_refl xs h.2]
    rfl
end
theorem eqB_refl {x : D} {b : Bool} (h : dEqB x x = some b) : b = true := (eqB_data h).mpr rfl
section
variable {m : M} {n : Nat} {x : D} {Q : D → M → Prop}
theorem dNe_refl (hn : n ≤ 64) (c : clR n x = true) (h : Q (.bl false) m) : dNe x x m Q := by
  unfold dNe
  cases e : dEqB x x with
  | some b => rw [eqB_refl e]; exact h
  | none =>
    obtain ⟨p, e1, l1, d1⟩ := clR_toP n x c
    have e2 : datOf m x = some p := by
      cases x with
      | ref a => cases n <;> cases c
      | _ => exact e1
    have sh : SeqAt.shaped p = true := by unfold SeqAt.shaped; rw [l1, decide_eq_true (by omega)]; rfl
    exact ⟨p, p, e2, e2, sh, sh, by rw [eqv_refl p l1]; exact h⟩
end
def dIsB : DR2 := fun x y m Q => ∃ a b : Bool, x = .bl a ∧ y = .bl b ∧ Q (.bl (decide (a = b))) m
def dNotB : DR2 := fun x y m Q => ∃ a b : Bool, x = .bl a ∧ y = .bl b ∧ Q (.bl (!decide (a = b))) m
end DL

set_option Elab.async false
set_option linter.all false
set_option maxRecDepth 100000
set_option maxHeartbeats 4000000
namespace DL
open PySem PySem.Spec PyProof.Rows L2
abbrev Cls1 := Value × Option Nat × (Addr → Value → Option Addr → TS)
abbrev SuiteOk (X : Cx) (st : List Stmt) (ts : Addr → Value → Option Addr → TS) : Prop := ∀ (a : Addr) (oe : Obj) (cls : Value) (d : Option Addr) (pn : List (Addr × Obj)), Zc cls d oe → (∃ vs, oe.data = .fields vs) → PSs (X.suite a ((a, oe) :: pn)) st (ts a cls d)
inductive ClsOk (X : Cx) : List ExceptHandler → List Cls1 → Prop
  | nil : ClsOk X [] []
  | plain {x : Str} {c : Value} {ts : Addr → Value → Option Addr → TS} {b₀ : Stmt} {suite : List Stmt} {np p2 : Pos} {hds : List ExceptHandler} {l : List Cls1} (hc : Names X x c) (hsu : SuiteOk X (b₀ :: suite) ts) (r : ClsOk X hds l) :
      ClsOk X (.ExceptHandler (some (.Name x np)) none (b₀ :: suite) p2 :: hds) ((c, none, ts) :: l)
  | named {x n : Str} {i : Nat} {c : Value} {ts : Addr → Value → Option Addr → TS} {b₀ : Stmt} {suite : List Stmt} {np p2 : Pos} {hds : List ExceptHandler} {l : List Cls1} (hi : X.N[i]? = some n) (hln : X.env.kindOf n = some .local) (hc : Names X x c) (hsu : SuiteOk X (b₀ :: suite) ts) (r : ClsOk X hds l) :
      ClsOk X (.ExceptHandler (some (.Name x np)) (some n) (b₀ :: suite) p2 :: hds) ((c, some i, ts) :: l)
section
variable {X : Cx} {body : List Stmt} {h₀ : ExceptHandler} {hds : List ExceptHandler} {l : List Cls1} {pos : Pos} {tb : WX → TS} {Wout : WX}
end

abbrev DCls := Value × Option Nat × DTX
abbrev DSuiteOk (X : Cx) (st : List Stmt) (ts : DTX) : Prop := ∀ (a : Addr) (oe : Obj) (C : Addr) (d : Option Addr) (pn : List (Addr × Obj)), Zc (.ref C) d oe → (∃ vs, oe.data = .fields vs) → DSs (X.suite a ((a, oe) :: pn)) W0 WD0 st (ts a C d)
inductive DClsOk (X : Cx) : List ExceptHandler → List DCls → Prop
  | nil : DClsOk X [] []
  | plain {x : Str} {c : Value} {ts : DTX} {b₀ : Stmt} {suite : List Stmt} {np p2 : Pos} {hds : List ExceptHandler} {l : List DCls} (hc : Names X x c) (hsu : DSuiteOk X (b₀ :: suite) ts) (r : DClsOk X hds l) :
      DClsOk X (.ExceptHandler (some (.Name x np)) none (b₀ :: suite) p2 :: hds) ((c, none, ts) :: l)
  | named {x n : Str} {i : Nat} {c : Value} {ts : DTX} {b₀ : Stmt} {suite : List Stmt} {np p2 : Pos} {hds : List ExceptHandler} {l : List DCls} (hi : X.N[i]? = some n) (hln : X.env.kindOf n = some .local) (hc : Names X x c) (hsu : DSuiteOk X (b₀ :: suite) ts) (r : DClsOk X hds l) :
      DClsOk X (.ExceptHandler (some (.Name x np)) (some n) (b₀ :: suite) p2 :: hds) ((c, some i, ts) :: l)
section
variable {X : Cx} {W : WX} {WD : DWX} {body : List Stmt} {h₀ : ExceptHandler} {hds : List ExceptHandler} {l : List DCls} {pos : Pos} {tb : DWX → DTS}
end
end DL

set_option Elab.async false
set_option linter.all false
set_option maxRecDepth 100000
set_option maxHeartbeats 4000000
namespace DL
open PySem PySem.Spec PyProof.Rows L2
open He (ga ba)
section
variable {K : PySem.W.Frag} {a ec C : Addr} {ed : Option Addr} {m : M} {Q : D → M → Prop} {fs : List (Str × D)} {b : Bool}
end
end DL

set_option Elab.async false
set_option linter.all false
set_option maxRecDepth 100000
set_option maxHeartbeats 4000000
namespace DL
open PySem PySem.Spec PyProof.Rows L2
section
variable {K : PySem.W.Frag} {X : Cx} {W : WX} {WD : DWX} {a b : Expr} {ta tb : DTE} {pos : Pos}
end
end DL

set_option Elab.async false
set_option linter.all false
set_option maxRecDepth 100000
set_option maxHeartbeats 4000000
namespace DL
open PySem PySem.Spec PyProof.Rows L2
def MSub (a b : M) : Prop := ∀ x o, a x = some o → b x = some o
theorem MSub.refl (m : M) : MSub m m := fun _ _ h => h
theorem MSub.trans {a b c : M} (h : MSub a b) (k : MSub b c) : MSub a c := fun x o e => k x o (h x o e)
theorem MSub.set {m : M} {p : Addr} {o : MO} (h : m p = none) : MSub m (mset m p o) := fun x u e => by
  rw [mset_ne (fun q => by rw [q, h] at e; cases e)]
  exact e
theorem Rep.sub {K : PySem.W.Frag} {G H F : Hp} {m m2 : M} (r : Rep K G H F m) (h : MSub m2 m) : Rep K G H F m2 := ⟨r.ext, r.frm, r.dis, fun a o e => r.mo a o (h a o e), r.tb, r.gt, r.ft⟩
def dWk (te : DTE) : DTE := fun r m Q => te r m fun d m1 => ∃ m2, MSub m2 m1 ∧ Q d m2
section
variable {X : Cx} {W : WX} {WD : DWX} {e : Expr} {te : DTE}
theorem de_wk (he : DE X W WD e te) : DE X W WD e (dWk te) := by
  refine PE.imp he fun σ H Q h => ?_
  obtain ⟨G, F, r, m, QD, x, t, k⟩ := h
  refine ⟨G, F, r, m, _, x, t, fun G1 H1 m1 d v e1 p1 q1 t1 => ?_⟩
  obtain ⟨m2, hs, t2⟩ := t1
  exact k G1 H1 m2 d v e1 (p1.sub hs) q1 t2
end
def keyD : Key → D
  | .inl i => .int i
  | .inr x => .str x
section
variable {κ : Type} [DecidableEq κ]
def valD (kvs : List (κ × D)) (k : κ) : Option D := (kvs.find? fun kv => decide (kv.1 = k)).map (·.2)
def putKD (kvs : List (κ × D)) (k : κ) (v : D) : List (κ × D) :=
  if (kvs.any fun kv => decide (kv.1 = k)) = true then kvs.map (fun kv => if kv.1 = k then (kv.1, v) else kv) else kvs ++ [(k, v)]
variable {K : PySem.W.Frag} {G : Hp}
theorem Rpk.length : ∀ {ds : List (κ × D)} {vs : List (κ × V)}, Rpk K G ds vs → ds.length = vs.length
  | _, _, .nil => rfl
  | _, _, .cons _ t => congrArg Nat.succ (Rpk.length t)
theorem Rpk.any (k : κ) : ∀ {ds : List (κ × D)} {vs : List (κ × V)}, Rpk K G ds vs → (ds.any fun kv => decide (kv.1 = k)) = (vs.any fun kv => decide (kv.1 = k))
  | _, _, .nil => rfl
  | _, _, .cons _ t => by rw [List.any_cons, List.any_cons, Rpk.any k t]
theorem Rpk.app : ∀ {ds es : List (κ × D)} {vs us : List (κ × V)}, Rpk K G ds vs → Rpk K G es us → Rpk K G (ds ++ es) (vs ++ us)
  | _, _, _, _, .nil, h => h
  | _, _, _, _, .cons r t, h => .cons r (Rpk.app t h)
theorem Rpk.rep (k : κ) {d : D} {v : V} (q : Rp K G d v) : ∀ {ds : List (κ × D)} {vs : List (κ × V)}, Rpk K G ds vs → Rpk K G (ds.map fun kv => if kv.1 = k then (kv.1, d) else kv) (vs.map fun kv => if kv.1 = k then (kv.1, v) else kv)
  | _, _, .nil => .nil
  | _, _, .cons (k := j) r t => by
    rw [List.map_cons, List.map_cons]
    by_cases e : j = k
    · rw [if_pos e, if_pos e]
      exact .cons q (Rpk.rep k q t)
    · rw [if_neg e, if_neg e]
      exact .cons r (Rpk.rep k q t)
theorem Rpk.put (k : κ) {d : D} {v : V} (q : Rp K G d v) {ds : List (κ × D)} {vs : List (κ × V)} (h : Rpk K G ds vs) : Rpk K G (putKD ds k d) (putK vs k v) := by
  unfold putKD putK
  rw [h.any k]
  by_cases e : (vs.any fun kv => decide (kv.1 = k)) = true
  · rw [if_pos e, if_pos e]
    exact h.rep k q
  · rw [if_neg e, if_neg e]
    exact h.app (.cons q .nil)
theorem Rpk.val (k : κ) : ∀ {ds : List (κ × D)} {vs : List (κ × V)}, Rpk K G ds vs → (valD ds k = none ∧ valV vs k = none) ∨ ∃ d v, valD ds k = some d ∧ valV vs k = some v ∧ Rp K G d v
  | _, _, .nil => .inl ⟨rfl, rfl⟩
  | _, _, .cons (k := j) (d := d) (v := v) r t => by
    by_cases e : j = k
    · refine .inr ⟨d, v, ?_, ?_, r⟩
      · simp [valD, e]
      · simp [valV, e]
    · rcases Rpk.val k t with ⟨h1, h2⟩ | ⟨d', v', h1, h2, h3⟩
      · refine .inl ⟨?_, ?_⟩
        · simp only [valD, List.find?_cons, decide_eq_false e]; exact h1
        · simp only [valV, List.find?_cons, decide_eq_false e]; exact h2
      · refine .inr ⟨d', v', ?_, ?_, h3⟩
        · simp only [valD, List.find?_cons, decide_eq_false e]; exact h1
        · simp only [valV, List.find?_cons, decide_eq_false e]; exact h2
end
section
variable {K : PySem.W.Frag} {X : Cx} {W : WX} {WD : DWX} {a b : Expr} {ta tb tc : DTE} {pos pos' : Pos}
end
section
variable {X : Cx} {W : WX} {WD : DWX}
end
section
variable {K : PySem.W.Frag} {X : Cx} {W : WX} {WD : DWX}
end
end DL

set_option Elab.async false
set_option linter.all false
set_option maxRecDepth 100000
set_option maxHeartbeats 4000000
namespace DL
open PySem PySem.Spec PyProof.Rows L2
section
variable {K : PySem.W.Frag} {X : Cx} {W : WX} {WD : DWX}
def diQ (te : DTE) : DTI := fun r m Q => te r m fun d m1 => match d with
  | .lst xs => Q xs m1
  | .rdl xs => Q xs m1
  | .tup xs => Q xs m1
  | _ => False
def iSeq (K : PySem.W.Frag) (tl : TE) : TI := fun σ H R => tl σ H fun x H1 => ∃ a, x = .ref a ∧ (((∃ xs, SqL K H1 a xs) ∧ R (Itl K a) H1) ∨ ((∃ xs, SqT K H1 a xs) ∧ R (Itt K a) H1))
theorem pi_seq {tg l : Expr} {tl : TE} (hl : PE X l tl) : PI X tg l (iSeq X.K tl) := by
  constructor
  intro pins s σ H R I h
  refine thn (hl.run pins s σ H _ I h) (fun v s1 z => ?_)
  obtain ⟨x, H1, J, rx, a, rfl, q⟩ := z
  cases rx
  have fz : ∀ b ∈ [s1.heap.objs.size], FpOk X pins H1 b := by
    intro b hb
    rw [List.mem_singleton.mp hb]
    exact J.fpOk (Nat.le_refl _) (J.hok.fresh (Nat.le_refl _))
  have kp : ∀ ob, Inv X pins σ H1 { s1 with heap := s1.heap.push ob } := fun ob => J.kept (t' := s1.toks) fun b o e => Heap.get?_push_of_some ob e
  rcases q with ⟨⟨xs, hq⟩, q⟩ | ⟨⟨xs, hq⟩, q⟩
  · obtain ⟨its, _, pl, _⟩ := J.list hq
    exact wpAny_pyIter_list pl.isList ⟨_, [s1.heap.objs.size], _, _, H1, rfl, kp _, turn_list a _, ⟨_, Heap.get?_push_size _ rfl, rfl, rfl⟩, fz, q⟩
  · obtain ⟨its, _, pt, _⟩ := J.tuple hq
    exact wpAny_pyIter_tuple (show s1.heap.IsTuple a its.toArray from pt) ⟨_, [s1.heap.objs.size], _, _, H1, rfl, kp _, turn_tuple a _, ⟨_, Heap.get?_push_size _ rfl, rfl, rfl⟩, fz, q⟩
theorem di_seq {tg l : Expr} {te : DTE} (hl : DE X W WD l te) : DI X W WD tg l (diQ te) := by
  refine PI.imp (pi_seq hl) fun σ H R h => ?_
  obtain ⟨G, F, r, m, QD, x, t, k⟩ := h
  refine ⟨G, F, r, m, _, x, t, fun G1 H1 m1 d1 v1 e1 r1 p1 t1 => ?_⟩
  cases d1 with
  | lst xs => cases p1 with | lst h1 q1 => exact ⟨_, rfl, .inl ⟨⟨_, SqL.of (r1.ext _ _ h1)⟩, k G1 H1 m1 xs _ e1 r1 (it_list (SqL.of h1) q1) t1⟩⟩
  | rdl xs => cases p1 with | rdl h1 q1 => exact ⟨_, rfl, .inl ⟨⟨_, r1.ext.seq h1⟩, k G1 H1 m1 xs _ e1 r1 (it_list h1 q1) t1⟩⟩
  | tup xs => cases p1 with | tup h1 q1 => exact ⟨_, rfl, .inr ⟨⟨_, same_sqt r1.ext h1.1⟩, k G1 H1 m1 xs _ e1 r1 (it_tup h1 q1) t1⟩⟩
  | _ => exact t1.elim
end
end DL

set_option Elab.async false
set_option linter.all false
set_option maxRecDepth 100000
set_option maxHeartbeats 4000000
namespace DL
open PySem PySem.Spec PyProof.Rows L2
def rInD (K : PySem.W.Frag) (neg : Bool) : R2 := fun x y H Q => ∃ d ds, Dp K H x d ∧ Dp K H y (.list ds) ∧ PyData.plainAll ds = true ∧ d.plain = true ∧ d.depth ≤ 60 ∧ Q (.bl (if neg then !(ds.any fun e => PyData.eqv e d) else ds.any fun e => PyData.eqv e d)) H
section
variable {K : PySem.W.Frag} {X : Cx}
theorem op_inD (hu : X.A.units + 64 < cLine) : OpR X (compareOp .In) (rInD X.K false) := by
  intro pins s σ H x y v u Q I rx ry h
  obtain ⟨d, ds, hd, he, p1, p2, hz, q⟩ := h
  obtain ⟨as, r1⟩ := Dp.reads I d x v hd rx
  obtain ⟨bs, r2⟩ := Dp.reads I (.list ds) y u he ry
  exact SeqAt.in_list_data r2 r1 p1 p2 (by omega) ⟨.bl _, H, I, rfl, q⟩
def dInD (neg : Bool) : DR2 := fun x y m Q => ∃ d ds, datOf m x = some d ∧ datOf m y = some (.list ds) ∧ PyData.plainAll ds = true ∧ d.plain = true ∧ d.depth ≤ 60 ∧ Q (.bl (if neg then !(ds.any fun e => PyData.eqv e d) else ds.any fun e => PyData.eqv e d)) m
theorem od_inD (neg : Bool) : OpD K (rInD K neg) (dInD neg) := by
  intro G H F m x y vx vy QD Q r px py t k
  obtain ⟨d, ds, e1, e2, p1, p2, hz, t⟩ := t
  exact ⟨d, ds, dat_ok r px e1, dat_ok r py e2, p1, p2, hz, k.here r (.bl _) t⟩
end
theorem toPs_some {n : Nat} : ∀ {ys : List D}, ys.all (clB n) = true → ∃ ps, toPs ys = some ps ∧ PyData.canLayAll0 ps = true
  | [], _ => ⟨[], rfl, rfl⟩
  | y :: ys, h => by
    rw [List.all_cons, Bool.and_eq_true] at h
    obtain ⟨p, e, c1, _⟩ := cl_toP n y h.1
    obtain ⟨ps, es, cs⟩ := toPs_some h.2
    refine ⟨p :: ps, by rw [toPs, e, es]; rfl, ?_⟩
    show (p.canLay0 && PyData.canLayAll0 ps) = true
    rw [c1, cs]
    rfl
theorem any_eqv {n : Nat} {x : D} {p : PyData} (cx : clB n x = true) (ex : toP x = some p) : ∀ {ys : List D} {ps : List PyData}, ys.all (clB n) = true → toPs ys = some ps → ((ps.any fun e => PyData.eqv e p) = true ↔ x ∈ ys)
  | [], ps, _, e => by
    cases e
    simp
  | y :: ys, ps, h, e => by
    rw [List.all_cons, Bool.and_eq_true] at h
    obtain ⟨q, e1, _, _⟩ := cl_toP n y h.1
    obtain ⟨qs, e2, _⟩ := toPs_some h.2
    rw [toPs, e1, e2] at e
    cases e
    have h1 := cl_eqv n y x q p h.1 cx e1 ex
    rw [List.any_cons, Bool.or_eq_true, any_eqv cx ex h.2 e2, h1, List.mem_cons, eq_comm]
theorem dInD_data {neg : Bool} {m : M} {n : Nat} {x y : D} {ys : List D} {Q : D → M → Prop} (hn : n ≤ 60) (c1 : clB n x = true) (hx : vD m x = x) (hy : vD m y = .lst ys) (c2 : ys.all (clB n) = true) (h : ∀ b : Bool, (b = true ↔ x ∈ ys) → Q (.bl (if neg then !b else b)) m) : dInD neg x y m Q := by
  obtain ⟨p, e1, f1, l1, d1⟩ := dat_vD (m := m) (x := x) (n := n) (by rw [hx]; exact c1)
  obtain ⟨ps, es, cs⟩ := toPs_some c2
  have e2 : datOf m y = some (.list ps) := by
    obtain ⟨q, g1, g2, _, _⟩ := dat_vD (m := m) (x := y) (n := n + 1) (by rw [hy]; exact c2)
    rw [hy, toP, es] at g2
    rw [g1]
    exact g2.symm
  rw [hx] at f1
  exact ⟨p, ps, e1, e2, PyData.plainAll_of_canLay0 ps cs, PyData.plain_of_canLay0 p l1, by omega, h _ (any_eqv c1 f1 c2 es)⟩
end DL

set_option Elab.async false
set_option linter.all false
set_option maxRecDepth 100000
set_option maxHeartbeats 4000000
namespace DL
open PySem PySem.Spec PyProof.Rows L2 LamX
structure Lam1 (sc scope : Scope) (p : Str) : Prop where
  kind : scope.kind = .function
  co : scope.isCoroutine = false
  gen : scope.isGenerator = false
  par : scope.names.lookup p = some .local
  own : ∀ y ∈ scope.names, y.2 = .local → y.1 = p
  cell : ∀ y ∈ scope.names, y.2 ≠ .cell
  free : ∀ y ∈ scope.names, y.2 = .free → sc.names.lookup y.1 = some .cell ∨ sc.names.lookup y.1 = some .free
def lam1B (sc scope : Scope) (p : Str) : Bool := decide (scope.kind = .function) && (!scope.isCoroutine && (!scope.isGenerator && (decide (scope.names.lookup p = some .local) &&
  scope.names.all fun y => (!decide (y.2 = .local) || decide (y.1 = p)) && (!decide (y.2 = .cell) && (!decide (y.2 = .free) || (decide (sc.names.lookup y.1 = some .cell) || decide (sc.names.lookup y.1 = some .free)))))))
theorem lam1_by {sc scope : Scope} {p : Str} (h : lam1B sc scope p = true) : Lam1 sc scope p := by
  unfold lam1B at h
  obtain ⟨h1, h⟩ := He.ba h
  obtain ⟨h2, h⟩ := He.ba h
  obtain ⟨h3, h⟩ := He.ba h
  obtain ⟨h4, h⟩ := He.ba h
  have all := List.all_eq_true.mp h
  refine ⟨of_decide_eq_true h1, by simpa using h2, by simpa using h3, of_decide_eq_true h4, fun y hy e => ?_, fun y hy e => ?_, fun y hy e => ?_⟩
  · have z := (He.ba (all y hy)).1
    rw [decide_eq_true e] at z
    exact of_decide_eq_true (by simpa using z)
  · have z := (He.ba (He.ba (all y hy)).2).1
    rw [decide_eq_true e] at z
    cases z
  · have z := (He.ba (He.ba (all y hy)).2).2
    rw [decide_eq_true e, Bool.not_true, Bool.false_or, Bool.or_eq_true] at z
    rcases z with z | z
    · exact .inl (of_decide_eq_true z)
    · exact .inr (of_decide_eq_true z)
section
variable {X : Cx} {pins : List (Addr × Obj)} {σ : L2.St} {H HZ : Hp} {s t : Shared}
theorem Lam1.has {scope : Scope} {p : Str} (L : Lam1 X.env.scope scope p) (ok : X.Ok) : ∀ y ∈ scope.names, y.2 = .free → ∃ c, X.env.cells.lookup y.1 = some c := fun y hy e =>
  (L.free y hy e).elim (fun k => ok.has _ (.inl k)) fun k => ok.has _ (.inr k)
theorem lam_start1 {B : Around} {out : List Env} {E : XK} {scope : Scope} {f d : Addr} {hp : Heap} {tk ip : Nat} {p : Str} {x : V} {u : Value} (I : Inv X pins σ H s) (L : Lam1 X.env.scope scope p) (hN : X.N.Nodup) (hip : X.N[ip]? = some p) (rx : RelV x u)
    (e0 : Env0 X.prog X.w X.K X.mg X.base B out t HZ) (hd : B.handled = none) (un : Un (frs X.stack) [] H HZ s.heap t.heap) (hns : hp.Ns t.heap.objs.size fun y => ([(p, u)] : List (Str × Value)).reverse.lookup y) (kp : ∀ b o, t.heap.get? b = some o → hp.get? b = some o) :
    Inv (lamCx X B out t HZ E scope f d) [] (σ.set ip (some x)) HZ { t with heap := hp, toks := tk } := by
  have hfr := L.has I.ok
  have back : ∀ {y c}, (cloFrom X.env.cells scope.names []).lookup y = some c → X.env.cells.lookup y = some c := fun {y c} e => by
    rcases cloFrom_mem (PySem.mem_of_lookup e) with hm | ⟨h1, h2⟩
    · cases hm
    · obtain ⟨c1, hc⟩ := hfr _ h1 rfl
      have hc : X.env.cells.lookup y = some c1 := hc
      have same : c = c1 := by rw [h2, hc] <;> rfl
      rw [same]
      exact hc
  have fwd : ∀ {y}, scope.names.lookup y = some .free → ∃ c, (cloFrom X.env.cells scope.names []).lookup y = some c := fun {y} hl => mem_lookup (cloFrom_has (cells := X.env.cells) (acc := []) (PySem.mem_of_lookup hl))
  have cellK : ∀ {c : Addr} {v : Option Value}, H c = none → s.heap.IsCell c v → hp.IsCell c v := fun {c v} n ⟨o, ho, hdt⟩ => by
    obtain ⟨sl, q⟩ := un.any ho n (by simp)
    exact ⟨_, kp _ _ q, hdt⟩
  have noX : ∀ b : Addr, b ∉ (lamCx X B out t HZ E scope f d).ex := fun b z => absurd (show b ∈ ([] : List Addr) from z) (by simp)
  refine ⟨⟨e0.mod, L.kind, rfl, rfl, Nat.le_refl _, fun y z c e1 e2 => I.ok.inj y z c (back e1) (back e2), fun y hy => ?_, fun y c z _ => (by have z : false = true := z; cases z), fun _ => hd, Around.frames_deeper e0.frames, .inr ⟨rfl, rfl⟩, fun b z => absurd z (noX b), e0.bs, e0.bsz, fun b _ _ => noX b, fun b z => absurd z (noX b), e0.funs, e0.frf⟩,
    rfl, e0.bare, Un.kept kp, ⟨_, hns, fun i y v e1 e2 e3 => ?_⟩, fun y c e => ?_, e0.hok.fresh (Nat.le_refl _), fun y c e => ?_, fun q hq => absurd (show q ∈ ([] : List (Addr × Obj)) ++ [] from hq) (by simp), e0.hok.kept kp, by rw [List.length_set]; exact I.len⟩
  · have hy : scope.names.lookup y = some .cell ∨ scope.names.lookup y = some .free := hy
    rcases hy with hy | hy
    · exact absurd rfl (L.cell _ (PySem.mem_of_lookup hy))
    · exact fwd hy
  · have e1 : X.N[i]? = some y := e1
    have e3 : Vis scope y := e3
    rcases e3 with k | k | k
    · have hy : y = p := L.own _ (PySem.mem_of_lookup k) rfl
      subst hy
      have hi : i = ip := nodup_ix hN e1 hip
      subst hi
      have hlt : i < σ.length := by
        have := I.len
        have := (List.getElem?_eq_some_iff.mp e1).1
        omega
      rw [List.getElem?_set_self hlt] at e2
      cases e2
      refine ⟨u, rx, .inl ⟨k, ?_⟩⟩
      show ([(y, u)] : List (Str × Value)).reverse.lookup y = some u
      simp
    · exact absurd rfl (L.cell _ (PySem.mem_of_lookup k))
    · have hne : ip ≠ i := fun z => by
        subst z
        rw [hip] at e1
        cases e1
        rw [L.par] at k
        cases k
      rw [List.getElem?_set_ne hne] at e2
      obtain ⟨m, hn, hl⟩ := I.loc
      have hvis : Vis X.env.scope y := (L.free _ (PySem.mem_of_lookup k) rfl).elim (fun k => .inr (.inl k)) (fun k => .inr (.inr k))
      obtain ⟨w', r, q⟩ := hl i y v e1 e2 hvis
      obtain ⟨c2, h2⟩ := fwd k
      refine ⟨w', r, .inr ⟨.inr k, c2, h2, ?_⟩⟩
      have c1 := back h2
      rcases q with ⟨k', _⟩ | ⟨_, c3, e', z⟩
      · have k' : X.env.scope.names.lookup y = some .local := k'
        rcases L.free _ (PySem.mem_of_lookup k) rfl with k2 | k2 <;> rw [show X.env.scope.names.lookup y = _ from k2] at k' <;> cases k'
      · rw [c1] at e'
        cases e'
        exact cellK (I.freeC y _ c1) z
  · obtain ⟨w', z⟩ := I.cell y c (back e)
    exact ⟨w', cellK (I.freeC y c (back e)) z⟩
  · obtain ⟨v, o, ho, hdt⟩ := I.cell y c (back e)
    exact un.free c o ho (I.freeC y c (back e)) (by simp)
structure Aft (X : Cx) (H H' : Hp) (s s' : Shared) : Prop where
  os : s'.os = s.os
  bare : AllBare s'.gens
  un : Un (frs X.stack) [] H H' s.heap s'.heap
  hok : HOk X.prog X.w H' s'.heap
theorem lam_turn {B : Around} {k ip : Nat} {p : Str} {params : Arguments} {body : Expr} {scope : Scope} {f d : Addr} {pm ctv u : Value} {x : V} {tb : TE} {Q : VK} (I : Inv X pins σ H s) (L : Lam1 X.env.scope scope p) (hN : X.N.Nodup) (hip : X.N[ip]? = some p) (rx : RelV x u)
    (hf : t.heap.get? f = some (PySem.W.kla_obj "<lambda>" (X.env.qual ++ "<lambda>") params body scope (cloFrom X.env.cells scope.names []) pm d ctv)) (hcd : HZ d = some (CodeO d (X.env.qual ++ "<lambda>")))
    (hbind : ∀ (q : Str) (cl : List (Str × Addr)) (pm cv ctv u : Value), bindArgs (PySem.W.kla_fn "<lambda>" q params body scope cl pm cv ctv) ⟨[u], []⟩ = pure [(p, u)])
    (hr : Room (k + 1) B) (e0 : Env0 X.prog X.w X.K X.mg X.base B X.stack t HZ) (un : Un (frs X.stack) [] H HZ s.heap t.heap)
    (hbody : PE (lamCx X B X.stack t HZ (fun _ _ _ => False) scope f d) body tb) (ht : tb (σ.set ip (some x)) HZ Q) :
    wpAny (model X.prog X.w) B (call (.ref f) [u]) (fun v t' => ∃ w H', Aft X HZ H' t t' ∧ RelV w v ∧ Q w H') (fun _ _ => False) t := by
  obtain ⟨⟨oc, vs, tt, hoc, hdc, hvc⟩, _, _⟩ := e0.hok d _ hcd
  refine wpAny_call ?_
  have rc : codeAny (model X.prog X.w) B (.call (.ref f) ⟨[u], []⟩) (CR (L2.CX X.prog X.w) X.stack X.prog X.w HZ t Q (fun _ _ _ => False)) t := by
    refine PySem.W.kla_callFunE hr.depth hf rfl L.co L.gen rfl ⟨d, oc, vs, tt, rfl, hoc, hdc, hvc⟩ ?_
    rw [hbind]
    refine wpAny_pure (wpAny_newFunctionEnv (fun y hy => L.cell y hy) (fun y hy => ?_) (fun hp hns hsb => ⟨?_, ?_⟩) L.kind)
    · rw [List.mem_singleton.mp hy]; exact L.par
    · exact (e0.mod.nolimit.keeps fun b o e => (e0.bs b o e).1).fresh _ hsb
    show codeAny _ _ (.expr body (lamEnv X scope t.heap.objs.size f d)) _ _
    have kp : ∀ b o, t.heap.get? b = some o → hp.get? b = some o := fun b o e => hsb.extBut b o (Nat.ne_of_lt (Heap.lt_size e)) (Heap.get?_push_of_some _ e)
    have J := lam_start1 (E := fun _ _ _ => False) (f := f) (d := d) (tk := t.toks + ([(p, u)] : List (Str × Value)).length) I L hN hip rx e0 hr.hd un hns kp
    refine PySem.W.kla_codeExpr (wpAny_mono (hbody.run [] _ _ HZ Q J ht) (fun v s' hq => ?_) fun e s' hq => hq)
    obtain ⟨w', H', J', rv, q⟩ := hq
    exact ⟨w', H', J'.os, J'.bare, J'.base, J'.hok, rv, q⟩
  refine codeAny_mono rc fun r s' hq => ?_
  cases r with
  | error e =>
    obtain ⟨_, _, _, _, _, _, _, _, _, _, _, _, z⟩ := hq
    exact z.elim
  | ok fl =>
    cases fl with
    | ret v =>
      obtain ⟨w, H', h1, h2, h3, h4, h5, h6⟩ := hq
      exact ⟨w, H', ⟨h1, h2, h3, h4⟩, h5, h6⟩
    | next => exact False.elim hq
    | brk => exact False.elim hq
    | cont => exact False.elim hq
end
section
variable {P : Program} {w : World} {fs : List Addr} {H0 Hc H' : Hp} {h0 hc h' : Heap}
theorem un_out (ok : HOk P w H0 h0) (u : Un fs [] H0 Hc h0 hc) (e : ∀ b, b < h0.objs.size → H' b = Hc b) (k : ∀ b o, b < h0.objs.size → hc.get? b = some o → h'.get? b = some o) : Un fs [] H0 H' h0 h' where
  keep := fun b o q n hb hx => k b o (Heap.lt_size q) (u.keep b o q n hb hx)
  slot := fun b o q n hb hx => by
    obtain ⟨sl, z⟩ := u.slot b o q n hb hx
    exact ⟨sl, k b _ (Heap.lt_size q) z⟩
  free := fun b o q n hx => by rw [e b (Heap.lt_size q)]; exact u.free b o q n hx
  there := fun b o q hx => by
    obtain ⟨o', z⟩ := u.there b o q hx
    exact ⟨o', k b _ (Heap.lt_size q) z⟩
  tups := fun b xs q => by rw [e b (ok b _ q).lt]; exact u.tups b xs q
  frzs := fun b o v q => by rw [e b (ok b _ q).lt]; exact u.frzs b o v q
  tbls := fun b ps q => by rw [e b (ok b _ q).lt]; exact u.tbls b ps q
end
theorem Tabs.stay {T : List (Addr × Str)} {H H' : Hp} (t : Tabs T H) (k : ∀ b o, H b = some o → ¬ okO o → H' b = some o) : Tabs T H' := fun z hz => by
  obtain ⟨ps, h1, h2, h3⟩ := t z hz
  refine ⟨ps, k _ _ h1 (fun o => o.1 ps rfl), h2, fun pos cv hc => ?_⟩
  obtain ⟨c, e1, e2⟩ := h3 pos cv hc
  exact ⟨c, e1, k _ _ e2 fun o => o.2 _ rfl⟩
theorem Rep.made {K : PySem.W.Frag} {G H H1 F : Hp} {m : M} (r : Rep K G H F m) (e : ExtN H H1) (t : Tabs (tblsOf K) H1) : Rep K G H1 F m where
  ext := fun b o q => e b o (r.ext b o q) (r.gt b o q)
  frm := fun b o q => e b o (r.frm b o q) (r.ft b o q).1
  dis := r.dis
  mo := fun b o q => by
    obtain ⟨h1, h2, u, h3, h4⟩ := r.mo b o q
    exact ⟨h1, h2, u, e b u h3 h4.okO.1, h4⟩
  tb := t
  gt := r.gt
  ft := r.ft
theorem vals_at : ∀ {xs : List V} {us : List Value}, Vals xs us → ∀ {j : Nat} {u : Value}, us[j]? = some u → ∃ x, xs[j]? = some x ∧ RelV x u
  | _, _, .nil, _, _, h => by cases h
  | _, _, .cons r t, 0, _, h => by cases h; exact ⟨_, rfl, r⟩
  | _, _, .cons r t, j + 1, _, h => vals_at t h
theorem vals_len : ∀ {xs : List V} {us : List Value}, Vals xs us → xs.length = us.length
  | _, _, .nil => rfl
  | _, _, .cons _ t => congrArg Nat.succ (vals_len t)
theorem vals_snoc : ∀ {xs : List V} {us : List Value} {x : V} {u : Value}, Vals xs us → RelV x u → Vals (xs ++ [x]) (us ++ [u])
  | _, _, _, _, .nil, r => .cons r .nil
  | _, _, _, _, .cons r t, r2 => .cons r (vals_snoc t r2)
theorem rps_snoc {K : PySem.W.Frag} {G : Hp} : ∀ {ds : List D} {vs : List V} {d : D} {v : V}, Rps K G ds vs → Rp K G d v → Rps K G (ds ++ [d]) (vs ++ [v])
  | _, _, _, _, .nil, r => .cons r .nil
  | _, _, _, _, .cons r t, r2 => .cons r (rps_snoc t r2)
theorem each_reads {X : Cx} {pins : List (Addr × Obj)} {σ : L2.St} {G H : Hp} {s : Shared} (I : Inv X pins σ H s) (e : Same G H) : ∀ {ks : List D} {vs : List V} {us : List Value} {ps : List PyData}, Rps X.K G ks vs → Vals vs us → toPs ks = some ps → PySem.W.EachIs (fun v k => ∃ as, Reads s.heap v k as) us ps
  | [], _, _, _, .nil, .nil, h => by cases h; exact .nil
  | k :: ks, _, _, _, .cons a b, .cons r t, h => by
    rw [toPs] at h
    cases q : toP k with
    | none => rw [q] at h; cases h
    | some p =>
      cases q2 : toPs ks with
      | none => rw [q, q2] at h; cases h
      | some ps =>
        rw [q, q2] at h
        cases h
        exact .cons (Dp.reads I p _ _ (Dp.same e (dp_of k p _ q a)) r) (each_reads I e b t q2)
end DL

set_option Elab.async false
set_option linter.all false
set_option maxRecDepth 100000
set_option maxHeartbeats 4000000
namespace DL
open PySem PySem.Spec PySem.W PyProof.Rows L2 LamX
theorem each_zip {K : PySem.W.Frag} {G0 G : Hp} (sg : Same G0 G) : ∀ {ds : List D} {xs : List V} {its : List Value}, Rps K G0 ds xs → Vals xs its → EachIs (fun (v : Value) (b : D × V) => RelV b.2 v ∧ Rp K G b.1 b.2) its (ds.zip xs)
  | _, _, _, .nil, .nil => .nil
  | _, _, _, .cons a b, .cons r t => .cons ⟨r, a.mono sg⟩ (each_zip sg b t)
theorem lam_sort {X : Cx} {pins : List (Addr × Obj)} {σ : L2.St} {H0 G0 F : Hp} {s0 : Shared} {r : DSt} {m : M} {k ip : Nat} {p : Str} {params : Arguments} {body : Expr} {scope : Scope} {f d l : Addr} {pm ctv : Value} {te : DTE} {ds : List D} {xs : List V} {key : D → D} {kp : D → PyData} {Q : Value → Shared → Prop}
    (I : Inv X pins σ H0 s0) (L : Lam1 X.env.scope scope p) (hN : X.N.Nodup) (hip : X.N[ip]? = some p) (hf : s0.heap.get? f = some (kla_obj "<lambda>" (X.env.qual ++ "<lambda>") params body scope (cloFrom X.env.cells scope.names []) pm d ctv)) (hfn : H0 f = none) (hfr : f ∉ frs X.stack) (hcd : H0 d = some (CodeO d (X.env.qual ++ "<lambda>")))
    (hbind : ∀ (q : Str) (cl : List (Str × Addr)) (pm cv ctv u : Value), bindArgs (kla_fn "<lambda>" q params body scope cl pm cv ctv) ⟨[u], []⟩ = pure [(p, u)]) (hr : Room (k + 3) X.A)
    (hbody : ∀ (B : Around) (t : Shared) (HZ : Hp), Room k (B.deeper (lamEnv X scope t.heap.objs.size f d)) → PE (lamCx X B X.stack t HZ (fun _ _ _ => False) scope f d) body (up X.K W0 WD0 te))
    (rep : Rep X.K G0 H0 F m) (rs : Rs X.K G0 r σ) (hl : SqL X.K H0 l xs) (rx : Rps X.K G0 ds xs) (hkey : ∀ x ∈ ds, ∀ Q' : D → M → Prop, Q' (key x) m → te (r.set ip (some x)) m Q')
    (hp : toPs (ds.map key) = some (ds.map kp)) (hal : AllAlike (ds.map kp)) (hsk : Sortable (ds.map kp)) (hdep : ∀ x ∈ ds, (kp x).depth ≤ 60)
    (fin : ∀ (a : Addr) (G' H' : Hp) (t' : Shared) (outV : List V), F a = none → Same G0 G' → Rep X.K G' H' (upd F a (.lst outV)) m → Rps X.K G' (ds.mergeSort (dataLe false kp)) outV → Inv X pins σ H' t' → Q (.ref a) t') :
    wpAny (model X.prog X.w) X.A (call (.builtin "sorted") [.ref l] [(Str.ofString "key", .ref f)]) Q X.xe s0 := by
  obtain ⟨G1, sg1, rep, hGd⟩ := rep.knowC hcd
  replace rs := rs.mono sg1
  replace rx := rx.mono sg1
  replace fin : ∀ (a : Addr) (G' H' : Hp) (t' : Shared) (outV : List V), F a = none → Same G1 G' → Rep X.K G' H' (upd F a (.lst outV)) m → Rps X.K G' (ds.mergeSort (dataLe false kp)) outV → Inv X pins σ H' t' → Q (.ref a) t' := fun a G' H' t' outV h1 h2 => fin a G' H' t' outV h1 (sg1.trans h2)
  clear sg1
  obtain ⟨its, rv, pl, hz⟩ := I.list hl
  have li : its.length = ds.length := by rw [← vals_len rv, ← rx.length]
  refine sorted_of_sort pl.isList (by rw [← vals_len rv]; exact hz) (ksk_s1 _ _) (fun x => ksk_l1 _ _) fun E' => ?_
  rw [ksk_t1]
  have ca := copyHeap_at s0.heap its
  obtain ⟨e1, ho1⟩ : ∃ e1, ((copyHeap s0.heap its).update (s0.heap.objs.size + 1) (Obj.mapSeq fun _ => (#[] : Array Value))).get? (s0.heap.objs.size + 1) = some (seqObj "list" #[] e1) := ⟨_, get?_update_seq ca fun _ => #[]⟩
  unfold ksk_tree
  refine wpAny_bind (listItems_at ca rfl (wpAny_bind (listUpdate_at ca rfl (wpAny_bind (seqEpoch_at ho1 rfl (wpAny_bind (wpAny_newTuple (wpAny_bind (wpAny_newList (wpAny_holding ?_) (Nat.zero_le _))) (by show its.length ≤ _; rw [← vals_len rv]; exact hz))))) (by rw [List.size_toArray, ← vals_len rv]; exact hz) (Nat.zero_le _))))
  have hkS : (((copyHeap s0.heap its).update (s0.heap.objs.size + 1) (Obj.mapSeq fun _ => (#[] : Array Value))).push (seqObj "tuple" its.toArray 0)).objs.size = s0.heap.objs.size + 3 := by
    rw [size_push', Heap.size_update]
    unfold copyHeap
    rw [size_push', Heap.size_update, size_push']
  have old : ∀ b o, s0.heap.get? b = some o → (sortingHeap (copyHeap s0.heap its) (s0.heap.objs.size + 1) its).get? b = some o := fun b o e => sortingHeap_old (Nat.ne_of_lt (Nat.lt_succ_of_lt (Heap.lt_size e))) (copyHeap_old e)
  have na : (sortingHeap (copyHeap s0.heap its) (s0.heap.objs.size + 1) its).get? (s0.heap.objs.size + 1) = some (seqObj "list" #[] e1) := Heap.get?_push_of_some _ (Heap.get?_push_of_some _ ho1)
  have nk : (sortingHeap (copyHeap s0.heap its) (s0.heap.objs.size + 1) its).get? (((copyHeap s0.heap its).update (s0.heap.objs.size + 1) (Obj.mapSeq fun _ => (#[] : Array Value))).push (seqObj "tuple" its.toArray 0)).objs.size = some (seqObj "list" #[] 0) := Heap.get?_push_size _ rfl
  show wpAny _ _ (ksk_rest _ _ _ _ _ _) _ _ { s0 with heap := sortingHeap (copyHeap s0.heap its) (s0.heap.objs.size + 1) its }
  generalize hS : sortingHeap (copyHeap s0.heap its) (s0.heap.objs.size + 1) its = hpS at *
  rw [hkS] at *
  generalize hsa : s0.heap.objs.size + 1 = a at *
  generalize hsk2 : s0.heap.objs.size + 3 = kS at *
  clear hS ho1 ca
  have ga : s0.heap.objs.size ≤ a := by omega
  have gk : s0.heap.objs.size ≤ kS := by omega
  have nka : kS ≠ a := by omega
  have Ha : H0 a = none := I.hok.fresh ga
  have Hk : H0 kS = none := I.hok.fresh gk
  obtain ⟨JJ, hJ⟩ : ∃ JJ : Nat → Shared → Prop, ∀ i t, JJ i t ↔ ∃ (G Hc : Hp) (kv : List V), t.os = s0.os ∧ AllBare t.gens ∧ Un (frs X.stack) [] H0 Hc s0.heap t.heap ∧ HOk X.prog X.w Hc t.heap ∧ Same G1 G ∧ Rep X.K G Hc (upd (upd F a (.frz (seqObj "list" #[] e1) (.lst []))) kS (.lst kv)) m ∧ Rps X.K G ((ds.take i).map key) kv := ⟨_, fun _ _ => Iff.rfl⟩
  have ltn : ∀ b, b < s0.heap.objs.size → b ≠ a ∧ b ≠ kS := fun b hb => ⟨by omega, by omega⟩
  have start : JJ 0 { s0 with heap := hpS } := by
    have rep2 := (rep.hide (o := .frz (seqObj "list" #[] e1) (.lst [])) Ha).hide (p := kS) (o := .lst []) (by rw [upd_ne nka]; exact Hk)
    refine (hJ _ _).mpr ⟨G1, _, [], rfl, I.bare, un_out I.hok Un.refl (fun b hb => ?_) (fun b o _ e => old b o e), ?_, Same.refl G1, rep2, .nil⟩
    · rw [upd_ne (ltn b hb).2, upd_ne (ltn b hb).1]
    · intro b o e
      by_cases hb : b = kS
      · subst hb
        rw [upd_same] at e
        cases e
        exact ⟨Nat.zero_le _, [], 0, .nil, nk⟩
      · rw [upd_ne hb] at e
        by_cases hb2 : b = a
        · subst hb2
          rw [upd_same] at e
          cases e
          exact ⟨na, Nat.zero_le _, [], e1, .nil, na⟩
        · rw [upd_ne hb2] at e
          refine (I.hok b o e).stay (fun c v _ q => old c v q) (fun c q => ?_) fun c ys q => ?_
          · rw [upd_ne (ne_of_none q Hk), upd_ne (ne_of_none q Ha)]; exact q
          · rw [upd_ne (ne_of_none q Hk), upd_ne (ne_of_none q Ha)]; exact q
  have inv_of : ∀ {Hc : Hp} {t : Shared}, t.os = s0.os → AllBare t.gens → Un (frs X.stack) [] H0 Hc s0.heap t.heap → HOk X.prog X.w Hc t.heap → Inv X pins σ Hc t := fun {Hc t} h1 h2 h3 h4 => I.call' h1 h3 h4 h2 (fun b hb => nomatch hb)
  unfold ksk_rest
  refine wpAny_bind (wpAny_rule ?_)
  rw [List.forIn_toArray]
  refine wpAny_bind (ksk_fold JJ its 0 _ start ?step ?done)
  case step =>
    intro j u t hu hj
    rw [Nat.zero_add] at *
    obtain ⟨G, Hc, kv, os, bare, un, hok, sg, rp, rk⟩ := (hJ _ _).mp hj
    have It := inv_of os bare un hok
    obtain ⟨x, hx, rxu⟩ := vals_at rv hu
    obtain ⟨dj, hdj, rdj⟩ : ∃ dj, ds[j]? = some dj ∧ Rp X.K G1 dj x := by
      obtain ⟨dj, hdj⟩ : ∃ dj, ds[j]? = some dj := ⟨_, List.getElem?_eq_getElem (by rw [← li]; exact (List.getElem?_eq_some_iff.mp hu).1)⟩
      obtain ⟨v, h1, h2⟩ := rx.get hdj
      rw [hx] at h1
      cases h1
      exact ⟨dj, hdj, h2⟩
    have hdm : dj ∈ ds := List.mem_of_getElem? hdj
    have hf' := un.keep f _ hf hfn hfr (by simp)
    have hcd' : Hc d = some (CodeO d (X.env.qual ++ "<lambda>")) := rp.ext d _ (sg d _ hGd)
    have e0 : Env0 X.prog X.w X.K X.mg X.base X.A.in1.in1 X.stack t Hc := ⟨It.env0.frames, It.env0.mod, It.env0.bs, It.env0.bsz, It.env0.funs, It.env0.frf, hok, bare⟩
    have turn := lam_turn (B := X.A.in1.in1) (k := k) (Q := fun v H' => ∃ G', Same G G' ∧ Rep X.K G' H' (upd (upd F a (.frz (seqObj "list" #[] e1) (.lst []))) kS (.lst kv)) m ∧ Rp X.K G' (key dj) v) It L hN hip rxu hf' hcd' hbind (hr.in1.in1) e0 Un.refl (hbody _ t Hc ((hr.in1.in1).deeper _))
      ⟨G, _, r.set ip (some dj), m, fun y m' => y = key dj ∧ m' = m, ⟨rp, (rs.mono sg).set (rdj.mono sg), Lx.no⟩, hkey dj hdm _ ⟨rfl, rfl⟩, fun G' H' m' y v e r' q ⟨h1, h2⟩ => ⟨G', e, by rw [← h2]; exact r', by rw [← h1]; exact q⟩⟩
    refine wpAny_bind (wpAny_attempt (wpAny_mono turn (fun v t' he => ?_) fun _ _ hF => hF.elim))
    obtain ⟨w', H', af, rw', G', sg', rp', rk'⟩ := he
    have hk1 := rp'.frm kS _ upd_same
    obtain ⟨z, ks, n, vk, ek⟩ := af.hok kS _ hk1
    have hlen : kv.length = j := by
      rw [← rk.length, List.length_map, List.length_take]
      have := (List.getElem?_eq_some_iff.mp hdj).1
      omega
    have hlv := vals_len vk
    have hjl : j < its.length := (List.getElem?_eq_some_iff.mp hu).1
    have hits : its.length ≤ sizeLine := by rw [← vals_len rv]; exact hz
    have s1 := Heap.SameBut.update t'.heap kS (Obj.mapSeq (·.push v))
    obtain ⟨c2, hc2⟩ : ∃ c2, (t'.heap.update kS (Obj.mapSeq (·.push v))).get? kS = some (seqObj "list" (ks.toArray.push v) c2) := ⟨_, get?_update_seq ek (·.push v)⟩
    try dsimp only
    refine wpAny_bind (listUpdate_at ek rfl ?_ (by rw [List.size_toArray]; omega) (by rw [Array.size_push, List.size_toArray]; omega))
    refine wpAny_pure ⟨rfl, (hJ _ _).mpr ⟨G', upd H' kS (.lst (kv ++ [w'])), kv ++ [w'], af.os.trans os, af.bare, ?_, ?_, sg.trans sg', rp'.turn, ?_⟩⟩
    · refine un_out I.hok (un.trans af.un) (fun b hb => by rw [upd_ne (ltn b hb).2]) (fun b o hb e => (s1.2 b (ltn b hb).2).trans e)
    · refine af.hok.write (x := kS) (e := kS) (by rw [hk1]; trivial) (.inl rfl) (fun b o hb e => (s1.2 b hb).trans e) ⟨_, hc2⟩ ⟨by rw [List.length_append]; simp; omega, ks ++ [v], c2, vals_snoc vk rw', ?_⟩
      rw [hc2]
      simp [seqObj]
    · have et : ds.take (j + 1) = ds.take j ++ [dj] := by rw [List.take_add_one, hdj]; rfl
      rw [et, List.map_append]
      exact rps_snoc (rk.mono sg') rk'
  case done =>
    intro t ht
    obtain ⟨G, Hc, kv, os, bare, un, hok, sg, rp, rk⟩ := (hJ _ _).mp ht
    rw [Nat.zero_add, List.take_of_length_le (by omega)] at rk
    have It := inv_of os bare un hok
    have hk1 := rp.frm kS _ upd_same
    have ha1 : Hc a = some (.frz (seqObj "list" #[] e1) (.lst [])) := rp.frm a _ (by rw [upd_ne nka.symm, upd_same])
    obtain ⟨z, ks, n, vk, ek⟩ := hok kS _ hk1
    have hna := (hok a _ ha1).1
    have hlk : ks.length = its.length := by rw [← vals_len vk, ← rk.length, List.length_map, li]
    have each := each_reads It rp.ext rk vk hp
    try dsimp only
    refine wpAny_bind (listItems_at ek rfl ?_)
    have hu : ∀ y, y ∈ ds.map kp → X.A.in1.in1.units + y.depth < cLine := fun y hy => by
      obtain ⟨x, hx, rfl⟩ := List.mem_map.mp hy
      have := hdep x hx
      have := hr.in1.in1.units
      omega
    refine keyH_end (κ := dataKind t.heap (ds.map kp)) (h₁ := hideAll t.heap [kS]) (fun b o _ e => of_hideAll _ e) (hideAll_none _ (by simp)) ek hna nka (SortsAt.data (s := t) each hal hsk hu) (by rw [List.size_toArray]; exact hlk) (by rw [← vals_len rv]; exact hz) fun h' tk c kb hD => ⟨rfl, ?_⟩
    have kept : ∀ b o, b ≠ a → b ≠ kS → t.heap.get? b = some o → h'.get? b = some o := fun b o h1 h2 e => kb b o h1 (hideAll_get _ e (by simpa using h2))
    have ezip : (ds.zip xs).map (fun b => kp b.1) = ds.map kp := by
      have e : (ds.zip xs).map Prod.fst = ds := List.map_fst_zip (by rw [rx.length]; exact Nat.le_refl _)
      conv => rhs; rw [← e, List.map_map]
      rfl
    have ko : KeyedOut false ((ds.zip xs).map fun b => kp b.1) its (sortVals (dataKind t.heap (ds.map kp)) false ks its) := by
      rw [ezip]
      exact ⟨t.heap, ks, hal, by simp, each⟩
    have eb : EachIs (fun (v : Value) (b : D × V) => RelV b.2 v ∧ Rp X.K G b.1 b.2) its (ds.zip xs) := by
      exact each_zip sg rx rv
    have eo := keyedOut_each (fun b : D × V => kp b.1) ko eb
    obtain ⟨bs, hbs⟩ : ∃ bs, bs = (ds.zip xs).mergeSort (dataLe false fun b : D × V => kp b.1) := ⟨_, rfl⟩
    rw [← hbs] at eo
    have esort : bs.map (·.1) = ds.mergeSort (dataLe false kp) := by
      have e : (ds.zip xs).map Prod.fst = ds := List.map_fst_zip (by rw [rx.length]; exact Nat.le_refl _)
      have e2 := List.map_mergeSort (r := dataLe false fun b : D × V => kp b.1) (s := dataLe false kp) (f := Prod.fst) (l := ds.zip xs) (fun a _ b _ => rfl)
      rw [e] at e2
      rw [hbs]
      exact e2
    obtain ⟨outU, hoU⟩ : ∃ outU, outU = sortVals (dataKind t.heap (ds.map kp)) false ks its := ⟨_, rfl⟩
    rw [← hoU] at eo
    have hD : h'.get? a = some (seqObj "list" outU.toArray c) := by rw [hoU]; simpa using hD
    have vo : Vals (bs.map (·.2)) outU ∧ Rps X.K G (bs.map (·.1)) (bs.map (·.2)) := by
      clear hbs esort hoU hD
      induction eo with
      | nil => exact ⟨.nil, .nil⟩
      | cons r _ ih => exact ⟨.cons r.1 ih.1, .cons r.2 ih.2⟩
    rw [esort] at vo
    have lo : (bs.map (·.2)).length ≤ sizeLine := by
      rw [List.length_map, hbs, List.length_mergeSort, List.length_zip, rx.length]
      omega
    generalize bs.map (·.2) = outV at *
    have repF : Rep X.K G Hc F m := by
      have r1 := rp.show (p := kS) (by rw [upd_ne nka]; exact rep.frm.free Hk)
      exact r1.show (p := a) (rep.frm.free Ha)
    have Ga : G a = none := rp.dis a _ (by rw [upd_ne nka.symm, upd_same])
    have Gk : G kS = none := rp.dis kS _ upd_same
    have Fa : F a = none := rep.frm.free Ha
    have Fk : F kS = none := rep.frm.free Hk
    have mne : ∀ b o, m b = some o → b ≠ a ∧ b ≠ kS := fun b o e => by
      obtain ⟨_, _, u, h3, _⟩ := rep.mo b o e
      exact ⟨ne_of_none h3 Ha, ne_of_none h3 Hk⟩
    obtain ⟨Hf, hHf⟩ : ∃ Hf : Hp, ∀ b, Hf b = if b = kS then none else if b = a then some (.lst outV) else Hc b := ⟨fun b => if b = kS then none else if b = a then some (.lst outV) else Hc b, fun _ => rfl⟩
    have hfa : Hf a = some (.lst outV) := by rw [hHf, if_neg nka.symm, if_pos rfl]
    have hfo : ∀ b, b ≠ a → b ≠ kS → Hf b = Hc b := fun b h1 h2 => by rw [hHf, if_neg h2, if_neg h1]
    have own_ne : ∀ b x, Hc b = some (.own x) → b ≠ a ∧ b ≠ kS := fun b x e => ⟨fun z => (by rw [z, ha1] at e; cases e), fun z => (by rw [z, hk1] at e; cases e)⟩
    have tup_ne : ∀ b ys, Hc b = some (.tup ys) → b ≠ a ∧ b ≠ kS := fun b x e => ⟨fun z => (by rw [z, ha1] at e; cases e), fun z => (by rw [z, hk1] at e; cases e)⟩
    have hokf : HOk X.prog X.w Hf h' := by
      intro b o e
      by_cases hb : b = kS
      · subst hb; rw [hHf, if_pos rfl] at e; cases e
      · by_cases hb2 : b = a
        · subst hb2
          rw [hfa] at e
          cases e
          exact ⟨lo, outU, c, vo.1, hD⟩
        · rw [hfo b hb2 hb] at e
          refine (hok b o e).stay (fun c v hc q => ?_) (fun c q => by rw [hfo c (own_ne c b q).1 (own_ne c b q).2]; exact q) fun c ys q => by rw [hfo c (tup_ne c ys q).1 (tup_ne c ys q).2]; exact q
          rcases hc with rfl | hc
          · exact kept _ v hb2 hb q
          · exact kept c v (own_ne c b hc).1 (own_ne c b hc).2 q
    refine fin a G Hf _ outV Fa sg ⟨fun b o e => ?_, fun b o e => ?_, fun b o e => ?_, fun b o e => ?_, ?_, rp.gt, nt_upd rep.ft ⟨fun _ e => (by cases e), fun _ e => (by cases e), fun _ e => (by cases e)⟩⟩ vo.2 (inv_of (t := { t with heap := h', toks := tk }) os bare (un_out I.hok un (fun b hb => hfo b (ltn b hb).1 (ltn b hb).2) fun b o hb e => kept b o (ltn b hb).1 (ltn b hb).2 e) hokf)
    · rw [hfo b (fun z => by rw [z, Ga] at e; cases e) (fun z => by rw [z, Gk] at e; cases e)]
      exact rp.ext b o e
    · by_cases hb : b = a
      · subst hb; rw [upd_same] at e; cases e; exact hfa
      · rw [upd_ne hb] at e
        rw [hfo b hb (fun z => by rw [z, Fk] at e; cases e)]
        exact repF.frm b o e
    · by_cases hb : b = a
      · subst hb; exact Ga
      · rw [upd_ne hb] at e; exact repF.dis b o e
    · obtain ⟨h1, h2, u, h3, h4⟩ := repF.mo b o e
      have hb := mne b o e
      exact ⟨h1, by rw [upd_ne hb.1]; exact h2, u, by rw [hfo b hb.1 hb.2]; exact h3, h4⟩
    · refine Tabs.stay rp.tb fun b o e ho => ?_
      rw [hfo b (fun z => ?_) (fun z => ?_)]
      · exact e
      · rw [z, ha1] at e
        cases e
        exact ho ⟨fun _ e => (by cases e), fun _ e => (by cases e)⟩
      · rw [z, hk1] at e
        cases e
        exact ho ⟨fun _ e => (by cases e), fun _ e => (by cases e)⟩
end DL

set_option Elab.async false
set_option linter.all false
set_option maxRecDepth 100000
set_option maxHeartbeats 4000000
namespace DL
open PySem PySem.Spec PySem.W PyProof.Rows L2 LamX
def dSortK (mt : Bool) (tl : DTE) (ip : Nat) (te : DTE) : DTE := fun r m Q => tl r m fun d m1 => ∃ (ds : List D) (key : D → D) (kp : D → PyData), lsOf m1 d = some ds ∧ (∀ x ∈ ds, ∀ Q' : D → M → Prop, Q' (key x) m1 → te (r.set ip (some x)) m1 Q') ∧
  toPs (ds.map key) = some (ds.map kp) ∧ AllAlike (ds.map kp) ∧ Sortable (ds.map kp) ∧ (∀ x ∈ ds, (kp x).depth ≤ 60) ∧ mkL mt (ds.mergeSort (dataLe false kp)) m1 Q
theorem de_sortK (mt : Bool) {X : Cx} {W : WX} {WD : DWX} {k ip : Nat} {p : Str} {e body : Expr} {params : Arguments} {scope : Scope} {c Pt : Addr} {tl te : DTE} {pf lpos kpos pos : Pos} (hr : Room (k + 3) X.A) (hg : Gl X "sorted") (hm : X.mg "sorted" = none) (hv : bootBuiltins "sorted" = some (.builtin "sorted"))
    (he : DE X W WD e tl) (L : Lam1 X.env.scope scope p) (hN : X.N.Nodup) (hip : X.N[ip]? = some p) (TB : TabBs X.K X.mg X.base) (hx : (c, Pt, X.env.qual ++ "<lambda>") ∈ tbls3 X.K) (hcode : X.env.code = .ref c) (hdef : defaultsOf params X.env = ([], []))
    (hbind : ∀ (q : Str) (cl : List (Str × Addr)) (pm cv ctv u : Value), bindArgs (kla_fn "<lambda>" q params body scope cl pm cv ctv) ⟨[u], []⟩ = pure [(p, u)])
    (hb : ∀ (B : Around) (t : Shared) (HZ : Hp) (f d : Addr), DE (lamCx X B X.stack t HZ (fun _ _ _ => False) scope f d) W0 WD0 body te)
    (hea : backTo pos (starEach [e] X.env) = (false, eval e X.env) :: backTo pos (starEach [] X.env) := by rfl) (hpl : (backTo pos (starEach [e] X.env)).any (·.1) = false := by rfl)
    (hall : (backToKw pos (keywordEach [⟨some "key", .Lambda params body scope lpos, kpos⟩] X.env)).all (·.1.isSome) = true := by rfl) (hnone : (backToKw pos (keywordEach [⟨some "key", .Lambda params body scope lpos, kpos⟩] X.env)).any (·.1.isNone) = false := by rfl) :
    DE X W WD (.Call (.Name "sorted" pf) [e] [⟨some "key", .Lambda params body scope lpos, kpos⟩] pos) (dSortK mt tl ip te) := by
  refine ⟨fun pins s σ H Q I h => ?_⟩
  obtain ⟨G, F, r, m, QD, x, t, kk⟩ := h
  refine wpAny_Call_Name_kw (ld_blt I hg hm hv ?_ (by decide) (by decide))
  refine PyProof.Rows.callWith_kw ?_ hea hpl hall hnone
  rw [hea]
  have run1 := he.run pins s σ H (fun v H1 => ∃ (G1 : Hp) (m1 : M) (d : D), Same G G1 ∧ Rep X.K G1 H1 F m1 ∧ Rp X.K G1 d v ∧ ∃ (ds : List D) (key : D → D) (kp : D → PyData), lsOf m1 d = some ds ∧ (∀ x ∈ ds, ∀ Q' : D → M → Prop, Q' (key x) m1 → te (r.set ip (some x)) m1 Q') ∧
    toPs (ds.map key) = some (ds.map kp) ∧ AllAlike (ds.map kp) ∧ Sortable (ds.map kp) ∧ (∀ x ∈ ds, (kp x).depth ≤ 60) ∧ mkL mt (ds.mergeSort (dataLe false kp)) m1 QD) I ⟨G, F, r, m, _, x, t, fun G1 H1 m1 d v e1 r1 p1 t1 => ⟨G1, m1, d, e1, r1, p1, t1⟩⟩
  refine Calls.spliced_cons (thn run1 fun u s1 ⟨v, H1, I1, rv, G1, m1, d, e1, rep1, p1, t1⟩ => ?_)
  refine Calls.spliced_nil ?_
  obtain ⟨ds, key, kp, hls, hkey, hp, hal, hsk, hdep, t2⟩ := t1
  obtain ⟨l, xs, rfl, hl, rx⟩ := ls_ok rep1 p1 hls
  obtain rfl : u = Value.ref l := rv
  show wpAny _ _ (evalAll ((do let v ← eval (.Lambda params body scope lpos) X.env; standAt pos; pure v) :: [])) _ _ s1
  have hmT : (Pt, X.env.qual ++ "<lambda>") ∈ tblsOf X.K := List.mem_map.mpr ⟨_, hx, rfl⟩
  refine wpAny_evalAll_cons (wpAny_bind (lam_make2 I1 (TB.tb _ hx) hcode hmT (fun q hq e => ?_) rep1.tb hdef (L.has I1.ok) fun f c' pm ctv H2 s2 I2 eN T2 hf hfn hfr hco => wpAny_bind (wpAny_standAt (wpAny_pure (wpAny_evalAll_nil ?_)))))
  · obtain ⟨y, hy, rfl⟩ := List.mem_map.mp hq
    exact TB.one y hy _ hx e
  · have rep2 := rep1.made eN T2
    obtain ⟨l2, xs2, e2, hl2, rx2⟩ := ls_ok rep2 p1 hls
    cases e2
    refine lam_sort I2 L hN hip hf hfn hfr hco hbind hr (fun B t HZ _ => hb B t HZ f c') rep2 (x.rs.mono e1) hl2 rx2 hkey hp hal hsk hdep fun a G3 H3 s3 outV hF sg rep3 ro I3 => ?_
    cases mt with
    | false =>
      obtain ⟨sm, rep4, p4⟩ := rep3.outL hF ro
      exact ⟨V.ref a, H3, I3, rfl, kk _ H3 m1 _ _ ((e1.trans sg).trans sm) rep4 p4 t2⟩
    | true =>
      obtain ⟨mp, rep4⟩ := rep3.outM hF ro
      exact ⟨V.ref a, H3, I3, rfl, kk _ H3 _ _ _ (e1.trans sg) rep4 (.ref a) (t2 a mp)⟩
section
variable {P : Program} {w : World} {K : Fr0} {mg : Str → Option Value} {base : Heap} {x qual : Str} {params : Arguments} {body : List Stmt} {scope : Scope} {dvs : List V} {kws : List (Str × V)} {f : Addr} {fd : FuncData}
theorem tab_code {oc dV kV doc pm cdv ct : Value} {od an : Option Addr} {osl : Array (Option Value)} (lk : K.lookup f = some ⟨oc, od, .func (fnOf x qual params body scope dV kV doc pm an cdv ct), osl⟩) {c Pt : Addr} (h : tabAt K f qual = some (c, Pt)) : cdv = .ref c := by
  unfold tabAt at h
  rw [lk] at h
  dsimp only at h
  rw [if_pos rfl] at h
  cases cdv with
  | ref c' =>
    dsimp only at h
    split at h
    · split at h
      · cases h; rfl
      · cases h
    · cases h
  | _ => cases h
theorem fn_dL {N ps : List Str} {k : Nat} {sp : DSp} {c Pt : Addr} (F : FunD K x qual params body scope dvs kws f fd) (hc : tabAt K f qual = some (c, Pt)) (S : FnScope N ps scope) (len : ∀ ds m Q E, sp ds m Q E → ds.length = ps.length) (t : DWX → DTS)
    (hb : ∀ (A : Around) (outer : List Env) (s : Shared) (H : Hp) (E : XK) (WD : DWX), Room k (A.deeper (envOfC qual scope s.heap.objs.size f (.ref c))) → Takes (CXo P w K mg base N qual scope f (.ref c) A outer s H E) (WE0 E) →
      PassesOwn (model P w) (CXo P w K mg base N qual scope f (.ref c) A outer s H E).A (CXo P w K mg base N qual scope f (.ref c) A outer s H E).env (CXo P w K mg base N qual scope f (.ref c) A outer s H E).xe → DSs (CXo P w K mg base N qual scope f (.ref c) A outer s H E) (WE0 E) WD body (t WD))
    (pure_ : ∀ ds m Q E, sp ds m Q E → t (fun x _ m => E x m) { nx := fun _ m => Q .non m, rt := Q } (startD N ds) m) : FnOk P w K mg base (L2.CX P w) (k + 1) f fd ps (liftSp K sp) := by
  obtain ⟨c1, c2, c3, c4, c5, c6, c7, cdv, c9, c10, rfl, look, hq, _, _⟩ := F.ex
  have hcv := tab_code look hc
  subst hcv
  refine fn_of look hq S (fun vs H Q E h => ?_) fun A outer s H vs Q E hr h => ?_
  · obtain ⟨G, F, m, ds, QD, ED, rep, rs, hs, _⟩ := h
    rw [← rs.length]
    exact len ds m QD ED hs
  · obtain ⟨G, F, m, ds, QD, ED, rep, rs, hs, kv, kx⟩ := h
    refine ⟨_, hb A outer s H E (fun x _ m => ED x m) hr (takes_of rfl rfl rfl rfl) (passes_of rfl), ?_⟩
    refine ⟨G, F, startD N ds, m, _, ⟨rep, rs_start rs, fun G' H' m' r' s' C fs d e r rs' rx wd => kx G' H' m' C fs d e r rx wd⟩, pure_ ds m QD ED hs, ⟨fun G' H' m' r' s' e r rs' q => kv G' H' m' _ _ e r .non q, kv, ?_, ?_⟩⟩
    · exact fun _ _ _ _ _ _ _ _ q => q.elim
    · exact fun _ _ _ _ _ _ _ _ q => q.elim
end
def lamBN (i : Nat) (n : Str) (K : Fr0) : Bool := match lamDefs[i]? with
  | some d => (tabAt K (lamAd K d) (lamQ d)).isSome && decide (innerAt K (lamAd K d) = n)
  | none => false
abbrev lamB (i : Nat) (K : Fr0) : Bool := lamBN i "<lambda>" K
theorem lam_ofN {i : Nat} {n : Str} {K : Fr0} {d : Option Str × Str} (hd : lamDefs[i]? = some d) (h : lamBN i n K = true) : ∃ c Pt, tabAt K (lamAd K d) (lamQ d) = some (c, Pt) ∧ (c, Pt, lamQ d ++ ".<locals>." ++ n) ∈ tbls3 K := by
  unfold lamBN at h
  rw [hd] at h
  obtain ⟨h, h2⟩ := He.ba h
  obtain ⟨⟨c, Pt⟩, e⟩ := Option.isSome_iff_exists.mp h
  refine ⟨c, Pt, e, List.mem_filterMap.mpr ⟨d, List.mem_of_getElem? hd, ?_⟩⟩
  rw [e, of_decide_eq_true h2]
  rfl
theorem lam_of {i : Nat} {K : Fr0} {d : Option Str × Str} (hd : lamDefs[i]? = some d) (h : lamB i K = true) : ∃ c Pt, tabAt K (lamAd K d) (lamQ d) = some (c, Pt) ∧ (c, Pt, lamQ d ++ ".<locals>." ++ "<lambda>") ∈ tbls3 K := lam_ofN hd h
end DL

set_option Elab.async false
set_option linter.all false
set_option maxRecDepth 100000
set_option maxHeartbeats 4000000
namespace DL
open PySem PySem.Spec PyProof.Rows L2
section
variable {X : Cx}
end
end DL

set_option Elab.async false
set_option linter.all false
set_option maxRecDepth 100000
set_option maxHeartbeats 4000000
namespace DL
open PySem PySem.Spec PyProof.Rows L2
section
variable {X : Cx} {W : WX} {WD : DWX}
variable {κ : Type} [DecidableEq κ]
end
section
variable {X : Cx} {W : WX} {WD : DWX}
end
end DL

set_option Elab.async false
set_option linter.all false
set_option maxRecDepth 100000
set_option maxHeartbeats 4000000
namespace DL
open PySem PySem.Spec PyProof.Rows L2
section
variable {X : Cx} {W : WX} {WD : DWX} {e : Expr} {td : TE} {apos cpos : Pos}
end
end DL

set_option Elab.async false
set_option linter.all false
set_option maxRecDepth 100000
set_option maxHeartbeats 4000000
namespace DL
open PySem PySem.Spec PyProof.Rows L2
def iD {κ : Type} (kvs : List (κ × Int)) : List (κ × D) := kvs.map fun p => (p.1, D.int p.2)
section
variable {X : Cx} {W : WX} {WD : DWX} {rest : List Stmt} {t : DTS}
end
end DL

set_option Elab.async false
set_option linter.all false
set_option maxRecDepth 100000
set_option maxHeartbeats 4000000
namespace DL
open PySem PySem.Spec PyProof.Rows L2
def fg : D → D
  | .obj _ d => d
  | d => d
theorem Rp.fg {K : PySem.W.Frag} {G : Hp} {d : D} {v : V} (h : Rp K G d v) : Rp K G (DL.fg d) v := by
  cases h with
  | obj h => exact h
  | non => exact .non
  | bl b => exact .bl b
  | int i => exact .int i
  | str x => exact .str x
  | ty n => exact .ty n
  | ref a => exact .ref a
  | lst h r => exact .lst h r
  | rdl h r => exact .rdl h r
  | tup h r => exact .tup h r
  | ins h r => exact .ins h r
  | exn0 a => exact .exn0 a
  | exnS h r => exact .exnS h r
  | dki h => exact .dki h
  | dti h => exact .dti h
  | clo hc h => exact .clo hc h
theorem Rps.fg {K : PySem.W.Frag} {G : Hp} : ∀ {ds : List D} {vs : List V}, Rps K G ds vs → Rps K G (ds.map DL.fg) vs
  | _, _, .nil => .nil
  | _, _, .cons r t => .cons r.fg (Rps.fg t)
section
variable {K : PySem.W.Frag} {X : Cx} {W : WX} {WD : DWX} {e : Expr} {te : DTE}
def dFgt (te : DTE) : DTE := fun r m Q => te r m fun d m1 => ∃ ds, d = .lst ds ∧ Q (.lst (ds.map fg)) m1
end
section
variable {X : Cx} {pins : List (Addr × Obj)} {σ : L2.St} {H : Hp} {s : Shared}
theorem all_yes (n : Nat) : ((List.range n).all fun _ => true) = true := List.all_eq_true.mpr fun _ _ => rfl
end
section
variable {K : PySem.W.Frag}
end
end DL

set_option Elab.async false
set_option linter.all false
set_option maxRecDepth 100000
set_option maxHeartbeats 4000000
namespace DL
open PySem PySem.Spec PyProof.Rows L2
section
variable {X : Cx} {W : WX} {WD : DWX} {e : Expr}
end
end DL

set_option Elab.async false
set_option linter.all false
set_option maxRecDepth 100000
set_option maxHeartbeats 4000000
namespace DL
open PySem PySem.Spec PyProof.Rows L2
inductive FrzAll : M → List D → List D → M → Prop
  | nil (m : M) : FrzAll m [] [] m
  | cons {m m' : M} {a : Addr} {ds xs ys : List D} : m a = some (.lst ds) → FrzAll (mdel m a) xs ys m' → FrzAll m (.ref a :: xs) (.lst ds :: ys) m'
section
variable {X : Cx} {W : WX} {WD : DWX} {rest : List Stmt} {t : DTS}
end
end DL

set_option Elab.async false
set_option linter.all false
set_option maxRecDepth 100000
set_option maxHeartbeats 4000000
namespace DL
open PySem PySem.Spec PyProof.Rows L2
section
variable {x0 x1 x2 x3 x4 x5 x6 x7 : D} {xs : List D}
theorem at4 : atI (x0 :: x1 :: x2 :: x3 :: x4 :: xs) 4 = some x4 := atI_nat (j := 4) rfl
theorem at5 : atI (x0 :: x1 :: x2 :: x3 :: x4 :: x5 :: xs) 5 = some x5 := atI_nat (j := 5) rfl
theorem at6 : atI (x0 :: x1 :: x2 :: x3 :: x4 :: x5 :: x6 :: xs) 6 = some x6 := atI_nat (j := 6) rfl
theorem at7 : atI (x0 :: x1 :: x2 :: x3 :: x4 :: x5 :: x6 :: x7 :: xs) 7 = some x7 := atI_nat (j := 7) rfl
end
open He (ga ma eqO eqO_ok ba)
def obsLG (as : List Addr) (fa : List (Fr0 → Bool)) (fn : List DefA) (g : Addr → Option Obj) : Bool × AlA := (tabsB g (frT g as), obsA fa fn (frT g as))
def hookL (as : List Addr) (fa : List (Fr0 → Bool)) (fn : List DefA) : PySem.W.Hook where
  α := Bool × AlA
  obs := fun s => obsLG as fa fn s.heap.get?
  val := fun _ => (true, valA fn)
  says := fun _ h => ∃ K : Fr0, K.In h ∧ Says fa fn K ∧ TabAt K h
  of := fun _ _ e => ⟨_, frT_in, (Prod.mk.inj e).2, tabsB_ok frT_in (Prod.mk.inj e).1⟩
  keeps := fun _ _ _ ⟨K, hK, c, t⟩ k => ⟨K, PySem.W.Frag.In.keeps hK k, c, t.keeps k⟩
theorem obsLG_eq {as : List Addr} {fa : List (Fr0 → Bool)} {fn : List DefA} {g : Addr → Option Obj} {s : Shared} (h : ∀ a, g a = s.heap.get? a) : obsLG as fa fn g = (hookL as fa fn).obs s := by
  have e : g = s.heap.get? := funext h
  subst e
  rfl
theorem obsLG_join {as : List Addr} {fa : List (Fr0 → Bool)} {fn : List DefA} {g : Addr → Option Obj} (h1 : obsLG as fa [] g = (true, valA [])) (h2 : obsLG as [] fn g = (true, valA fn)) : obsLG as fa fn g = (true, valA fn) := by
  have e1 : tabsB g (frT g as) = true := congrArg Prod.fst h1
  have e2 : (fa.all (fun f => f (frT g as)) && true) = true := congrArg (fun x => x.2.1) h1
  have e3 : (true && fn.all (fun d => d.good (frT g as))) = true := congrArg (fun x => x.2.1) h2
  have e4 : fn.map (fun d => fnAt (frT g as) (d.ad (frT g as))) = fn.map DefA.told := congrArg (fun x => x.2.2) h2
  rw [Bool.and_true] at e2
  rw [Bool.true_and] at e3
  unfold obsLG obsA valA
  rw [e1, e2, e3, e4]
  rfl
open PySem.W HandSHeadRun in
open PySem.W HandSHeadRun in
theorem run_join {r : OpenRow} {q : Program} {as : List Addr} {fa : List (Fr0 → Bool)} {fn : List DefA} {M : Nat} {loose : List Str} {w : World}
    (a : ∀ os : OsState, (endF (stepQ (denQ tabQ) r.prog w) M r.prog w os).map (fun s => (looksF r.prog (boot_heap w.params) s.abs, seenQ q loose (importedModules r.prog.main.body) (fun s => xlAt q [] s && recOk r.toRowW.records s) s.abs)) = some (true, openGood q loose))
    (b : ∀ os : OsState, (endF (stepQ (denQ tabQ) r.prog w) M r.prog w os).map (fun s => obsLG as fa [] (HandSHeadRun.getT s)) = some (true, valA []))
    (c : ∀ os : OsState, (endF (stepQ (denQ tabQ) r.prog w) M r.prog w os).map (fun s => obsLG as [] fn (HandSHeadRun.getT s)) = some (true, valA fn)) : RunEq r q (hookL as fa fn) (fun s => obsLG as fa fn (HandSHeadRun.getT s)) M loose w := fun os => by
  have a := a os
  have b := b os
  have c := c os
  generalize endF (stepQ (denQ tabQ) r.prog w) M r.prog w os = o at a b c ⊢
  cases o with
  | none => cases a
  | some s =>
    have e1 := Option.some.inj a
    have e2 := Option.some.inj b
    have e3 := Option.some.inj c
    have h1 := congrArg Prod.fst e1
    have h2 := congrArg Prod.snd e1
    show some (_, _, _) = some (true, openGood q loose, (true, valA fn))
    exact congrArg some (Prod.ext h1 (Prod.ext h2 (obsLG_join e2 e3)))
end DL

set_option Elab.async false
set_option linter.all false
set_option maxRecDepth 100000
set_option maxHeartbeats 4000000
namespace DL
open PySem PySem.Spec PyProof.Rows L2
def daStar (te : DTE) (t : DTA) : DTA := fun r m Q => te r m fun x m1 => ∃ xs, sqOf m1 x = some xs ∧ t r m1 fun ys m2 => Q (xs ++ ys) m2
section
variable {X : Cx} {W : WX} {WD : DWX} {e : Expr} {es : List Expr} {te : DTE} {t : DTA} {p : Pos}
end
def mergeD (kvs : List (Key × D)) : List (Key × D) := kvs.foldl (fun acc kv => putKD acc kv.1 kv.2) []
def dDictP : DRC := fun ds m Q => ∃ d kvs, ds = [d] ∧ lsOf m d = some (kvs.map fun kv : Key × D => D.tup [keyD kv.1, kv.2]) ∧ ∀ p, m p = none → Q (.ref p) (mset m p (.dK (mergeD kvs)))
def dMakeN (C : Addr) (n j : Nat) (sp : DSp) (WD : DWX) (t tk : DTA) : DTE := fun r m Q => t r m fun ds m1 => tk r m1 fun zs m2 => ds.length = n ∧ zs.length = j ∧
  ∀ x, m2 x = none → sp (.ref x :: (ds ++ zs)) (mset m2 x (.ins C [])) (fun _ m3 => ∃ fs, m3 x = some (.ins C fs) ∧ Q (.ins C fs) (mdel m3 x)) fun x m3 => WD x r m3
section
variable {X : Cx} {W : WX} {WD : DWX} {e : Expr} {es : List Expr} {kws : List Keyword} {t tk : DTA} {sp : DSp} {k n : Nat} {f C : Addr} {fd : FuncData} {ps ks : List Str} {x : Str} {p pos : Pos}
theorem run_makeNS {CX : CXT} {sp : Sp} {E : XK} {g : List Value → List Value → List Value} {gV : List V → List V → List V} {pins : List (Addr × Obj)} {σ : L2.St} {H : Hp} {s : Shared} {Q : VK} {us ws : List Value} {vs zs : List V} (M : Mk X.K C f) (F : FnOk X.prog X.w X.K X.mg X.base CX k f fd ps sp) (hr : Room (k + 1) X.A) (hb : KBn X.K fd ps (n + 1) ks g gV)
    (hx : PassesAt CX X σ E) (I : Inv X pins σ H s) (r : Vals vs us) (rz : Vals zs ws) (l1 : vs.length = n) (l2 : zs.length = ks.length)
    (h : ∀ y dy, H y = none → H dy = none → dy ≠ y → sp (gV (.ref y :: vs) zs) (upd (upd H dy (.own y)) y (.ins C dy [])) (fun u H2 => u = .non ∧ Q (.ref y) H2) E) : wpAny (model X.prog X.w) X.A (call (.ref C) us (ks.zip ws)) (EP X pins σ Q) X.xe s := by
  obtain ⟨N, hN⟩ : ∃ N, N = s.heap.objs.size := ⟨_, rfl⟩
  have new : ∀ b, N ≤ b → H b = none := fun b hb => I.hok.fresh (by omega)
  have made := Inv.made (C := C) I
  have rs : Vals (V.ref (N + 1) :: vs) (Value.ref (N + 1) :: us) := .cons rfl r
  have q := h (N + 1) N (new _ (Nat.le_succ N)) (new _ (Nat.le_refl _)) (Nat.ne_of_lt (Nat.lt_succ_self N))
  subst hN
  have lu : (Value.ref (s.heap.objs.size + 1) :: us).length = n + 1 := by rw [List.length_cons, ← r.length, l1]
  have lw : ws.length = ks.length := by rw [← rz.length, l2]
  refine wpAny_call (make_map (f := f) I.kIn M.makes M.init (beq_iff_eq.mp M.fn) (codeAny_mono (F.run _ X.stack _ _ ⟨.ref (s.heap.objs.size + 1) :: us, ks.zip ws⟩ (g (.ref (s.heap.objs.size + 1) :: us) ws) _ _ E
    (hr.make C us (ks.zip ws)) (made.env0.make C us (ks.zip ws)) (hb.to _ (.ref (s.heap.objs.size + 1) :: us) ws made.kIn lu lw) (hb.rel rs rz) q) fun out s' hq => ?_))
  cases out with
  | error x => exact hx pins _ _ x s' made hq
  | ok fl => cases fl with
    | ret u =>
      obtain ⟨v, H', I3, rv, ev, q3⟩ := made.after hq
      subst ev
      exact ⟨rv, .ref (s.heap.objs.size + 1), H', I3, rfl, q3⟩
    | next => exact hq.elim
    | brk => exact hq.elim
    | cont => exact hq.elim
theorem de_makeN {j : Nat} (M : Mk X.K C f) (F : FnOk X.prog X.w X.K X.mg X.base (L2.CX X.prog X.w) k f fd ps (liftSp X.K sp)) (hr : Room (k + 1) X.A) (hg : Gl X x) (hm : X.mg x = some (.ref C)) (hb : KBn X.K fd ps (n + 1) ks (fun us ws => us ++ ws) (fun vs zs => vs ++ zs)) (tk' : Takes X W)
    (hn : ∀ vs H Q E, liftSp X.K sp vs H Q E → liftSp X.K sp vs H (fun v H' => v = .non ∧ Q v H') E)
    (ha : DA X W WD (e :: es) t) (hkw : DK X W WD kws tk) (hall : (backToKw pos (keywordEach kws X.env)).all (·.1.isSome) = true := by rfl) (hks : (backToKw pos (keywordEach kws X.env)).filterMap (·.1) = ks := by rfl)
    (hdb : (x == ("__debug__" : Str)) = false := by decide) (he : starEach (e :: es) X.env = (false, eval e X.env) :: starEach es X.env := by rfl)
    (hpl : ((backTo pos (starEach (e :: es) X.env)).any (·.1) || (backToKw pos (keywordEach kws X.env)).any (·.1.isNone)) = false := by rfl) (hj : ks.length = j := by rfl) :
    DE X W WD (.Call (.Name x p) (e :: es) kws pos) (dMakeN C n j sp WD t tk) := by
  subst hj
  refine PE.imp (t := fun σ H Q => upA X.K W WD t σ H fun vs H1 => upA X.K W WD tk σ H1 fun zs H2 => vs.length = n ∧ zs.length = ks.length ∧ ∀ x dx, H2 x = none → H2 dx = none → dx ≠ x → liftSp X.K sp (.ref x :: vs ++ zs) (upd (upd H2 dx (.own x)) x (.ins C dx [])) (fun v H2 => v = .non ∧ Q (.ref x) H2) (WE W σ)) ⟨fun pins s σ H Q I h => ?_⟩ fun σ H Q h => ?_
  · refine wpAny_Call_Name_kw (ld_glob I hg hm ?_ hdb)
    refine PySem.W.callWith_KW (h₀ := X.base) I.ok.mod.kin M.kp hall (thn (ha.run pos pins s σ H _ I h) fun us s1 ⟨vs, H1, I1, r, q⟩ => ?_) hpl he
    refine thn (hkw.run pos pins s1 σ H1 _ I1 q) fun ws s2 ⟨zs, H2, I2, rz, l1, l2, q2⟩ => ⟨I2.kIn, ?_⟩
    rw [hks]
    exact run_makeNS M F hr hb (passAt tk' σ) I2 r rz l1 l2 q2
  · obtain ⟨G, F, r, m, QD, x, t, k⟩ := h
    refine ⟨G, F, r, m, _, x, t, fun G1 H1 m1 ds vs e1 r1 p1 t1 => ?_⟩
    refine ⟨G1, F, r, m1, _, x.step e1 r1, t1, fun G2 H2 m2 zs ws e2 r2 p2 t2 => ?_⟩
    obtain ⟨l1, l2, t2⟩ := t2
    refine ⟨by rw [← p1.length]; exact l1, by rw [← p2.length]; exact l2, fun y dx hy hdx ne => ?_⟩
    have r3 : Rep X.K G2 (upd (upd H2 dx (.own y)) y (.ins C dx [])) F (mset m2 y (.ins C [])) := (r2.junk (o := .own y) hdx).newm (u := .ins C []) (by rw [upd_ne (Ne.symm ne)]; exact hy) ⟨rfl, .nil⟩
    refine hn _ _ (fun _ H2 => Q (.ref y) H2) _ ?_
    have e12 := e1.trans e2
    refine lift_call (QD := fun _ m3 => ∃ fs, m3 y = some (.ins C fs) ∧ QD (.ins C fs) (mdel m3 y)) (x.step e12 r3) (.cons (.ref y) ((p1.mono e2).append p2)) (t2 y (r2.mfree hy)) fun G3 H3 m3 d v e3 r3 p3 t3 => ?_
    obtain ⟨fs, hm3, t4⟩ := t3
    obtain ⟨G4, e4, r4, p4⟩ := r3.freezeI hm3
    exact k G4 H3 _ _ _ ((e12.trans e3).trans e4) r4 p4 t4
end
end DL

set_option Elab.async false
set_option linter.all false
set_option maxRecDepth 100000
set_option maxHeartbeats 4000000
namespace DL
open PySem PySem.Spec PyProof.Rows L2
open He (ga ma eqO eqO_ok ba)
def dwnD (hi : Int) (n : Nat) : List D := (List.range n).map fun (k : Nat) => D.int (hi - (k : Int))
section
variable {X : Cx} {W : WX} {WD : DWX} {tg : Expr}
def diR3 (ta : DTA) : DTI := fun r m Q => ta r m fun ds m1 => ∃ i j : Int, ds = [.int i, .int j, .int (-1)] ∧ (-(2 ^ 62) ≤ i ∧ i < 2 ^ 62 ∧ -(2 ^ 62) ≤ j ∧ j < 2 ^ 62) ∧ Q (dwnD i (i - j).toNat) m1
end
end DL

set_option Elab.async false
set_option linter.all false
set_option maxRecDepth 100000
set_option maxHeartbeats 4000000
namespace DL
open PySem PySem.Spec PyProof.Rows L2
theorem lt_irrefl : ∀ l : List Nat, ltCps l l = false
  | [] => rfl
  | a :: l => by simp [ltCps, lt_irrefl l]
end DL

set_option Elab.async false
set_option linter.all false
set_option maxRecDepth 100000
set_option maxHeartbeats 4000000
namespace DL
open PySem PySem.Spec PyProof.Rows L2
section
variable {K : PySem.W.Frag} {X : Cx} {W : WX} {WD : DWX} {rest : List Stmt} {e : Expr} {te : DTE} {t : DTS}
end
end DL

set_option Elab.async false
set_option linter.all false
set_option maxRecDepth 100000
set_option maxHeartbeats 4000000
namespace DL
open PySem PySem.Spec PyProof.Rows L2
section
variable {X : Cx} {W : WX} {WD : DWX}
def rEqZ (K : PySem.W.Frag) (f : Bool → Bool) : R2 := fun x y H Q => ∃ a b xs, x = .ref a ∧ y = .ref b ∧ SqL K H a xs ∧ SqL K H b [] ∧ Q (.bl (f xs.isEmpty)) H
theorem op_neZ (hu : X.A.units + 64 < cLine) : OpR X (compareOp .NotEq) (rEqZ X.K not) := by
  intro pins s σ H x y v u Q I kx ky h
  obtain ⟨a, b, xs, rfl, rfl, ha, hb, q⟩ := h
  cases (show v = Value.ref a from kx)
  cases (show u = Value.ref b from ky)
  obtain ⟨ua, q1, o1, _⟩ := I.list ha
  obtain ⟨ub, q2, o2, _⟩ := I.list hb
  have l1 := q1.length
  have l2 := q2.length
  cases xs with
  | nil =>
    have hz : ua.toArray.size = ub.toArray.size := by simpa [← l1, ← l2]
    have hx := SeqAt.RcNeAt.lists (A := X.A) (e := fun _ => true) o1.isList o2.isList hz (by omega) (fun j h1 h2 => by
      have : j < ua.length := by simpa using h1
      rw [← l1] at this
      cases this)
    rw [all_yes] at hx
    exact hx _ _ _ _ ⟨.bl false, H, I, rfl, q⟩
  | cons z zs =>
    have hz : (ua.toArray.size != ub.toArray.size) = true := by
      simp only [List.length_cons] at l1
      simp [← l1, ← l2]
    exact (SeqAt.RcNeAt.lists_lengths (A := X.A) o1.isList o2.isList hz (by omega)) _ _ _ _ ⟨.bl true, H, I, rfl, q⟩
end
section
variable {K : PySem.W.Frag}
def dNeZ : DR2 := fun x y m Q => ∃ xs, lsOf m x = some xs ∧ lsOf m y = some [] ∧ Q (.bl (!xs.isEmpty)) m
theorem lsZ_of {G H F : Hp} {m : M} {x y : D} {vx vy : V} {xs : List D} (r : Rep K G H F m) (px : Rp K G x vx) (py : Rp K G y vy) (h1 : lsOf m x = some xs) (h2 : lsOf m y = some []) : ∃ a b us, vx = .ref a ∧ vy = .ref b ∧ SqL K H a us ∧ SqL K H b [] ∧ us.isEmpty = xs.isEmpty := by
  obtain ⟨a, us, rfl, sa, ra⟩ := ls_ok r px h1
  obtain ⟨b, ws, rfl, sb, rb⟩ := ls_ok r py h2
  cases rb
  exact ⟨a, b, us, rfl, rfl, sa, sb, (isEmpty_rps ra).symm⟩
theorem od_neZ : OpD K (rEqZ K not) dNeZ := by
  intro G H F m x y vx vy QD Q r px py t k
  obtain ⟨xs, h1, h2, t⟩ := t
  obtain ⟨a, b, us, rfl, rfl, sa, sb, e⟩ := lsZ_of r px py h1 h2
  exact ⟨a, b, us, rfl, rfl, sa, sb, k.here r (.bl _) (by rw [e]; exact t)⟩
end
end DL

set_option Elab.async false
set_option linter.all false
set_option maxRecDepth 100000
set_option maxHeartbeats 4000000
namespace DL
open PySem PySem.Spec PyProof.Rows L2
end DL

set_option Elab.async false
set_option linter.all false
set_option maxRecDepth 100000
set_option maxHeartbeats 4000000
namespace DL
open PySem PySem.Spec PyProof.Rows L2
section
variable {X : Cx} {W : WX} {WD : DWX} {e : Expr} {te : DTE} {tb : DTS} {body : List Stmt}
end
end DL

set_option Elab.async false
set_option linter.all false
set_option maxRecDepth 100000
set_option maxHeartbeats 4000000
namespace DL
open PySem PySem.Spec PyProof.Rows L2
theorem Rep.seqM {K : PySem.W.Frag} {G H F : Hp} {m : M} {a : Addr} {xs : List D} (r : Rep K G H F m) (h : m a = some (.lst xs)) : ∃ vs, H a = some (.lst vs) ∧ Rps K G xs vs := by
  obtain ⟨g1, f1, w, h3, h4⟩ := r.mo a _ h
  obtain ⟨vs, rfl, h4⟩ := h4.ofLst
  exact ⟨vs, h3, h4⟩
section
variable {X : Cx} {W : WX} {WD : DWX} {tg iter : Expr} {body : List Stmt} {ti : DTE} {g : DTG} {tb : DTS} {pos : Pos}
end
end DL

set_option Elab.async false
set_option linter.all false
set_option maxRecDepth 100000
set_option maxHeartbeats 4000000
namespace DL
open PySem PySem.Spec PyProof.Rows L2
def tGetL (K : PySem.W.Frag) : V → V → Hp → VK → Prop := fun o i H Q => ∃ p xs k v, o = .ref p ∧ i = .int k ∧ SqL K H p xs ∧ 0 ≤ k ∧ xs[k.toNat]? = some v ∧ Q v H
theorem get_list {X : Cx} : PGet X (tGetL X.K) := by
  intro pins s σ H o i ov iv Q I ro ri h
  obtain ⟨p, xs, k, v, rfl, rfl, hq, h0, hv, q⟩ := h
  cases ro
  obtain ⟨t, rfl⟩ := ri
  obtain ⟨its, r, pl, hz⟩ := I.list hq
  obtain ⟨w, ew, rw'⟩ := r.get hv
  have hl := r.length
  have hn := line63
  have hlt : k.toNat < xs.length := (List.getElem?_eq_some_iff.mp hv).1
  exact wpAny_getItem_list pl.isList h0 (by omega) (by simpa using ew) ⟨v, H, I, rw', q⟩
def dAugX (to ti te : DTE) (f : Int → Int → Int) : DTS := fun DD r m => to r m fun o m1 => ti r m1 fun i m2 => ∃ (a : Addr) (xs : List D) (k : Nat) (x : Int), o = .ref a ∧ i = .int k ∧ m2 a = some (.lst xs) ∧ xs[k]? = some (.int x) ∧
  te r m2 fun y m3 => ∃ (z : Int) (ys : List D), y = .int z ∧ m3 a = some (.lst ys) ∧ k < ys.length ∧ DD.nx r (mset m3 a (.lst (ys.set k (.int (f x z)))))
section
variable {X : Cx} {W : WX} {WD : DWX} {o i e : Expr} {to ti te : DTE} {tpos pos : Pos}
theorem ds_augX {op : Operator} {f : Int → Int → Int} (ho : DE X W WD o to) (hi : DE X W WD i ti) (he : DE X W WD e te) (hp : PIp X op (ipI f))
    (ha : ∀ ov iv new, augStore i ov iv new = (do holding [new, ov, iv] (setItem ov iv new); release [new, ov, iv] []; pure .next) := by intros; rfl) : DS X W WD (.AugAssign (.Subscript o i tpos) op e pos) (dAugX to ti te f) := by
  refine PS.imp (ps_augS ho hi get_list he hp set_list ha) fun E σ H h => ?_
  obtain ⟨G, F, r, m, DD, x, t, kk⟩ := h
  refine ⟨G, F, r, m, _, x, t, fun G1 H1 m1 d1 v1 e1 r1 p1 t1 => ?_⟩
  refine ⟨G1, F, r, m1, _, x.step e1 r1, t1, fun G2 H2 m2 d2 v2 e2 r2 p2 t2 => ?_⟩
  obtain ⟨a, xs, k, x0, rfl, rfl, hm, hx, t3⟩ := t2
  cases p1; cases p2
  obtain ⟨us, ha2, rus⟩ := r2.seqM hm
  obtain ⟨v, hv, rv⟩ := rus.get hx
  cases rv
  refine ⟨a, us, (k : Int), .int x0, rfl, rfl, SqL.of ha2, by omega, by rw [Int.toNat_natCast]; exact hv, ?_⟩
  refine ⟨G2, F, r, m2, _, (x.step e1 r1).step e2 r2, t3, fun G3 H3 m3 d3 v3 e3 r3 p3 t4 => ?_⟩
  obtain ⟨z, ys, rfl, hm3, hk, t5⟩ := t4
  cases p3
  obtain ⟨ws, ha3, rws⟩ := r3.seqM hm3
  refine ⟨x0, z, rfl, rfl, a, ws, (k : Int), k, rfl, rfl, ha3, ?_, ?_⟩
  · unfold ixN
    rw [if_pos (by omega), if_pos (by rw [← rws.length]; omega), Int.toNat_natCast]
  · have e13 := (e1.trans e2).trans e3
    exact kk.nx G3 _ _ r σ e13 (r3.write hm3 (show RpM X.K G3 (.lst (ys.set k (.int (f x0 z)))) (.lst (ws.set k (.int (f x0 z)))) from rws.set (.int _) k)) (x.rs.mono e13) t5
end
end DL

set_option Elab.async false
set_option linter.all false
set_option maxRecDepth 100000
set_option maxHeartbeats 4000000
namespace DL
open PySem PySem.Spec PyProof.Rows L2
section
variable {X : Cx} {W : WX} {WD : DWX} {e : Expr} {body : List Stmt} {ta : DTA} {g : DTG} {tb : DTS} {pos p pos2 tpos : Pos} {elts : List Expr} {kk : Nat}
end
end DL

set_option Elab.async false
set_option linter.all false
set_option maxRecDepth 100000
set_option maxHeartbeats 4000000
namespace DL
open PySem PySem.Spec PyProof.Rows L2
def dctOf (m : M) : D → Option (List (Key × D))
  | .dki kvs => some (iD kvs)
  | .ref a => match m a with | some (.dK kvs) => some kvs | _ => none
  | _ => none
def dCopyK : DRC := fun ds m Q => ∃ d kvs, ds = [d] ∧ dctOf m d = some kvs ∧ ∀ p, m p = none → Q (.ref p) (mset m p (.dK kvs))
section
variable {K : PySem.W.Frag} {X : Cx} {W : WX} {WD : DWX} {o e f a b k v : Expr} {td ty tx ta tb te tk tv : DTE} {pos pos' apos cpos : Pos}
def dGet2K (td ty tx : DTE) : DTE := fun r m Q => td r m fun x m1 => (∃ k1, dctOf m1 x = some k1) ∧ ty r m1 fun y m2 => tx r m2 fun z m3 => ∃ kvs k, dctOf m3 x = some kvs ∧ y = keyD k ∧ Q ((valD kvs k).getD z) m3
def dDctR (f : Bool) : DR2 := fun x y m Q => ∃ kvs : List (Key × Int), x = .dki kvs ∧ y = .dki kvs ∧ (kvs.map (·.1)).Nodup ∧ Q (.bl f) m
def dDisp1 (tk tv : DTE) : DTE := fun r m Q => ∀ p, m p = none → tk r (mset m p (.dK [])) fun x m1 => tv r m1 fun y m2 => m2 p = some (.dK []) ∧ ∃ k, x = keyD k ∧ Q (.ref p) (mset m2 p (.dK [(k, y)]))
def dFrzEK (te : DTE) : DTE := fun r m Q => te r m fun d m1 => ∃ a kvs, d = .ref a ∧ m1 a = some (.dK (iD kvs)) ∧ Q (.dki kvs) (mdel m1 a)
end
end DL

set_option Elab.async false
set_option linter.all false
set_option maxRecDepth 100000
set_option maxHeartbeats 4000000
theorem L2H.RoomH.units {k : Nat} {A : PySem.Around} (r : L2H.RoomH k A) : A.units + 64 < PySem.cLine := by have := r.un; omega
namespace DL
open PySem PySem.Spec PyProof.Rows L2
open L2H (RoomH PinOk cxH)
structure FnX (P : Program) (w : World) (K : PySem.W.Frag) (mg : Str → Option Value) (base : Heap) (CX : CXT) (k : Nat) (f : Addr) (fd : FuncData) (ps : List Str) (sp : Addr → Addr → Option Addr → Sp) : Prop where
  len : ∀ a c d vs H Q E, sp a c d vs H Q E → vs.length = ps.length
  run : ∀ (A : Around) (outer : List Env) (s : Shared) (H : Hp) (args : Args) (us : List Value) (vs : List V) (Q : VK) (E : XK) (a c : Addr) (d : Option Addr) (oe : Obj), RoomH k A → PinOk outer H s (a, oe) → Zc (.ref c) d oe → (∃ vs, oe.data = .fields vs) → Env0 P w K mg base A outer s H → BindsTo s fd args (ps.zip us) → Vals vs us → sp a c d vs H Q E →
    codeAny (model P w) A (.call (.ref f) args) (CR CX outer P w H s Q E) s
section
variable {P : Program} {w : World} {K : PySem.W.Frag} {mg : Str → Option Value} {base : Heap} {x qual : Str} {params : Arguments} {body : List Stmt} {scope : Scope} {dvs : List V} {kws : List (Str × V)} {f : Addr} {fd : FuncData}
end
section
variable {X : Cx} {W : WX} {WD : DWX} {k : Nat} {f : Addr} {fd : FuncData} {ps : List Str} {sp : Addr → Addr → Option Addr → DSp} {x : Str} {p pos : Pos} {e : Expr} {es : List Expr} {t : DTA} {a c : Addr} {d : Option Addr} {oe : Obj}
end
structure GoodX (P : Program) (w : World) (K : Fr0) (mg : Str → Option Value) (base : Heap) (k : Nat) (x : Str) (f : Addr) (ps : List Str) (sp : Addr → Addr → Option Addr → DSp) : Prop where
  ex : ∃ fd, FnX P w K mg base (L2.CX P w) k f fd ps (fun a c d => liftSp K (sp a c d)) ∧ Binds K fd ps [] ∧ PySem.W.keepIn K (.ref f) = true
  gl : mg x = some (.ref f)
end DL

set_option Elab.async false
set_option linter.all false
set_option maxRecDepth 100000
set_option maxHeartbeats 4000000
namespace DL
open PySem PySem.Spec PyProof.Rows L2
mutual
def noK : D → Bool
  | .dki _ => false
  | .lst xs => noKs xs
  | .rdl xs => noKs xs
  | .tup xs => noKs xs
  | .ins _ fs => noKf fs
  | .exn _ _ fs => noKf fs
  | .obj _ d => noK d
  | .non => true
  | .bl _ => true
  | .int _ => true
  | .str _ => true
  | .ty _ => true
  | .ref _ => true
  | .dti _ => true
  | .clo _ _ _ _ _ => false
def noKs : List D → Bool
  | [] => true
  | x :: xs => noK x && noKs xs
def noKf : List (Str × D) → Bool
  | [] => true
  | (_, x) :: xs => noK x && noKf xs
end
def noKk {κ : Type} : List (κ × D) → Bool
  | [] => true
  | (_, x) :: xs => noK x && noKk xs
def noKM : MO → Bool
  | .lst xs => noKs xs
  | .dK kvs => noKk kvs
  | .dT kvs => noKk kvs
  | .ins _ fs => noKf fs
  | .fn _ => true
section
variable {K : PySem.W.Frag} {G G' : Hp}
def NoF (G G' : Hp) : Prop := ∀ b o, G b = some o → (∀ o' kv, o ≠ .frz o' (.dK kv)) → G' b = some o
theorem NoF.seq (e : NoF G G') {a : Addr} {xs : List V} (h : SqL K G a xs) : SqL K G' a xs := by
  rcases h with (h | ⟨o, h⟩) | h
  · exact .inl (.inl (e _ _ h (fun _ _ z => by cases z)))
  · exact .inl (.inr ⟨o, e _ _ h (fun _ _ z => by cases z)⟩)
  · exact .inr h
theorem NoF.sqt (e : NoF G G') {a : Addr} {xs : List V} (h : SqT K G a xs) : SqT K G' a xs := by
  rcases h with (h | ⟨o, h⟩) | h
  · exact .inl (.inl (e _ _ h (fun _ _ z => by cases z)))
  · exact .inl (.inr ⟨o, e _ _ h (fun _ _ z => by cases z)⟩)
  · exact .inr h
theorem NoF.tpk (e : NoF G G') {a : Addr} {xs : List V} (h : TpK K G a xs) : TpK K G' a xs := ⟨e.sqt h.1, h.2.imp _root_.id fun z => e _ _ z (fun _ _ z => by cases z)⟩
theorem ba2 {a b : Bool} (h : (a && b) = true) : a = true ∧ b = true := by cases a <;> cases b <;> simp_all
mutual
theorem Rp.noF (e : NoF G G') : ∀ {d : D} {v : V}, Rp K G d v → noK d = true → Rp K G' d v
  | _, _, .non, _ => .non
  | _, _, .bl b, _ => .bl b
  | _, _, .int i, _ => .int i
  | _, _, .str x, _ => .str x
  | _, _, .ty n, _ => .ty n
  | _, _, .ref a, _ => .ref a
  | _, _, .lst h r, n => .lst (e _ _ h (fun _ _ z => by cases z)) (Rps.noF e r n)
  | _, _, .rdl h r, n => .rdl (e.seq h) (Rps.noF e r n)
  | _, _, .tup h r, n => .tup (e.tpk h) (Rps.noF e r n)
  | _, _, .ins h r, n => .ins (e _ _ h (fun _ _ z => by cases z)) (Rpf.noF e r n)
  | _, _, .exn0 a, _ => .exn0 a
  | _, _, .exnS h r, n => .exnS (e _ _ h (fun _ _ z => by cases z)) (Rpf.noF e r n)
  | _, _, .dki h, n => nomatch n
  | _, _, .dti h, _ => .dti (e _ _ h (fun _ _ z => by cases z))
  | _, _, .obj h, n => .obj (Rp.noF e h n)
  | _, _, .clo _ h, n => nomatch n
theorem Rps.noF (e : NoF G G') : ∀ {ds : List D} {vs : List V}, Rps K G ds vs → noKs ds = true → Rps K G' ds vs
  | _, _, .nil, _ => .nil
  | _, _, .cons r t, n => .cons (Rp.noF e r (ba2 n).1) (Rps.noF e t (ba2 n).2)
theorem Rpf.noF (e : NoF G G') : ∀ {ds : List (Str × D)} {vs : List (Str × V)}, Rpf K G ds vs → noKf ds = true → Rpf K G' ds vs
  | _, _, .nil, _ => .nil
  | _, _, .cons r t, n => .cons (Rp.noF e r (ba2 n).1) (Rpf.noF e t (ba2 n).2)
end
theorem Rpk.noF {κ : Type} (e : NoF G G') : ∀ {ds : List (κ × D)} {vs : List (κ × V)}, Rpk K G ds vs → noKk ds = true → Rpk K G' ds vs
  | _, _, .nil, _ => .nil
  | _, _, .cons r t, n => .cons (r.noF e (ba2 n).1) (Rpk.noF e t (ba2 n).2)
theorem RpM.noF (e : NoF G G') {m : MO} {o : HO} (h : RpM K G m o) (n : noKM m = true) : RpM K G' m o := by
  cases m with
  | lst ds => cases o with
    | lst vs => exact Rps.noF e h n
    | _ => exact h.elim
  | dK ds => cases o with
    | dK vs => exact Rpk.noF e h n
    | _ => exact h.elim
  | dT ds => cases o with
    | dT vs => exact Rpk.noF e h n
    | _ => exact h.elim
  | ins C fs => cases o with
    | ins C' dx fv => exact ⟨h.1, h.2.noF e n⟩
    | _ => exact h.elim
  | fn ob => cases o with
    | frz ob' u => exact h
    | _ => exact h.elim
end
section
variable {K : PySem.W.Frag} {G G' : Hp} {p : Addr} {kvs : List (Key × Int)}
end
section
variable {X : Cx} {W : WX} {WD : DWX} {e : Expr} {te : DTE}
open Classical in
end
section
variable {K : PySem.W.Frag} {X : Cx}
end
section
variable {X : Cx} {pins : List (Addr × Obj)} {σ : L2.St} {H : Hp} {s : Shared}
end
section
variable {K : PySem.W.Frag} {X : Cx}
end
section
variable {X : Cx} {W : WX} {WD : DWX} {e : Expr} {te : DTE}
end
end DL

set_option Elab.async false
set_option linter.all false
set_option maxRecDepth 100000
set_option maxHeartbeats 4000000
namespace DL
open PySem PySem.Spec PyProof.Rows L2 PySem.W
open L2H (RoomH PinOk cxH)
section
variable {prog : Program} {w : World} {A : Around} {E : Value → Shared → Prop} {s : Shared} {env : Env} {K : PySem.W.Frag} {x C fe fx : Addr} {ox : Obj} {od : Option Obj} {pos : Pos}
end
section
variable {X : Cx} {fe fx C : Addr} {fde fdx : FuncData} {ctx : Expr} {body : List Stmt} {pos : Pos} {te : TE} {tb : WX → TS} {spE spX : Sp} {spH : Addr → Addr → Option Addr → Sp} {W : WX} {k j i : Nat} {dfe dfx dfh : FuncData}
theorem ps_never {X : Cx} {st : List Stmt} : PSs X st fun _ _ _ => False := ⟨fun _ _ _ _ _ _ h => h.elim⟩
end
section
variable {X : Cx} {W : WX} {WD : DWX} {k n : Nat} {f C : Addr} {fd : FuncData} {ps ks : List Str} {sp : DSp} {dvs : List V} {dds : List D} {ds : List Value} {x : Str} {p pos : Pos} {e : Expr} {es : List Expr} {kws : List Keyword} {t tk : DTA}
end
end DL
set_option Elab.async false
set_option linter.all false
set_option maxRecDepth 100000
set_option maxHeartbeats 4000000
namespace DL
open PySem PySem.Spec PyProof.Rows L2
section
variable {K : PySem.W.Frag} {X : Cx} {W : WX} {WD : DWX} {a b o i e : Expr} {ta tb td ty tv : DTE} {pos pos' : Pos}
end
end DL

set_option Elab.async false
set_option linter.all false
set_option maxRecDepth 100000
set_option maxHeartbeats 4000000
namespace DL
open PySem PySem.Spec PyProof.Rows L2
section
variable {X : Cx} {W : WX} {WD : DWX}
end
end DL

set_option Elab.async false
set_option linter.all false
set_option maxRecDepth 100000
set_option maxHeartbeats 4000000
namespace PySem
open PyProof.Rows L2
section
variable {P : Program} {w : World} {A : Around} {E : Value → Shared → Prop} {s : Shared}
set_option maxHeartbeats 8000000 in
end
end PySem
namespace DL
open PySem PySem.Spec PyProof.Rows L2
section
variable {X : Cx} {W : WX} {WD : DWX}
end
end DL

set_option Elab.async false
set_option linter.all false
set_option maxRecDepth 100000
set_option maxHeartbeats 4000000
namespace ZL
open PySem PySem.Spec PyProof.Rows L2 RZ
section
variable {P : Program} {w : World} {A : Around} {E : Value → Shared → Prop} {s : Shared}
abbrev ZOut (h : Heap) (q tI tO T : Addr) (f : Bool) : Prop := h.get? q = some { cls := .type "zip", dict := none, data := .fields #[rawInt T, .bool f, .bool false, .ref tI, .ref tO], slots := #[] }
structure ZSt (h : Heap) (q tI tO j1 j2 t1 t2 : Addr) (i : Nat) (as : List Addr) : Prop where
  hI : IsPair h tI (.ref j1) (.ref j2)
  h1 : h.IsTupleIter j1 t1 i
  h2 : h.IsTupleIter j2 t2 i
  z : (as = [] ∧ IsZip h q tI tO .none ∧ ∃ x y, IsPair h tO x y) ∨ ∃ T f, ZOut h q tI tO T f ∧ T ∈ as
variable {R : Result → Shared → Prop} {vs : List (Key × Value)}
end
section
variable {X : Cx} {W : WX} {WD : DL.DWX}
open LiI (putT putT_off putT_at paired_ix)
end
end ZL
namespace DL
open PySem PySem.Spec PyProof.Rows L2 ZL
section
variable {X : Cx} {W : WX} {WD : DWX}
end
end DL

set_option Elab.async false
set_option linter.all false
set_option maxRecDepth 100000
set_option maxHeartbeats 4000000
namespace DL
open PySem PySem.Spec PyProof.Rows L2
open PySem.SeqAt
section
variable {X : Cx} {W : WX} {WD : DWX}
end
end DL

set_option Elab.async false
set_option linter.all false
set_option maxRecDepth 100000
set_option maxHeartbeats 4000000
namespace DL
open PySem PySem.Spec PyProof.Rows L2
section
variable {K : PySem.W.Frag} {X : Cx} {W : WX} {WD : DWX}
end
end DL

set_option Elab.async false
set_option linter.all false
set_option maxRecDepth 100000
set_option maxHeartbeats 4000000
namespace DL
open PySem PySem.Spec PyProof.Rows L2
open HT
section
variable {X : Cx} {W : WX} {WD : DWX}
end
end DL

set_option Elab.async false
set_option linter.all false
set_option maxRecDepth 100000
set_option maxHeartbeats 4000000
namespace DL
open PySem PySem.Spec PyProof.Rows L2 LamX
structure CF where
  name : Str
  qual : Str
  params : Arguments
  body : FuncBody
  scope : Scope
  cl : List (Str × Addr)
  c : Addr
abbrev CF.fd (F : CF) (doc pm ctv : Value) : FuncData := { name := F.name, qualname := F.qual, params := F.params, body := F.body, scope := F.scope, globals := mainGlobals, closure := F.cl, defaults := .none, kwdefaults := .none, doc, pyModule := pm, annotations := none, code := .ref F.c, closureTuple := ctv, builtins := builtinsNs }
abbrev CF.ob (F : CF) (doc pm ctv : Value) (od : Option Addr) (sl : Array (Option Value)) : Obj := ⟨.type "function", od, .func (F.fd doc pm ctv), sl⟩
abbrev CF.nf (F : CF) : NdefX.NF := ⟨F.name, F.qual, F.params, [], F.scope, F.cl, F.c⟩
structure CloB (base : Heap) (F : CF) (fr : List Str) (a : Addr) (vs : List V) : Prop where
  ob : ∃ doc pm ctv od sl, base.get? a = some (F.ob doc pm ctv od sl)
  inj : ∀ x y c, F.cl.lookup x = some c → F.cl.lookup y = some c → x = y
  all : ∀ y c, F.cl.lookup y = some c → ∃ v, base.IsCell c v
  len : vs.length = fr.length
  has : ∀ (i : Nat) (y : Str), fr[i]? = some y → ∃ c, F.cl.lookup y = some c ∧ ∀ v, vs[i]? = some v → ∃ u, L2.RelV v u ∧ base.IsCell c (some u)
theorem CloB.cells {base h : Heap} {H : Hp} {F : CF} {fr : List Str} {a : Addr} {vs : List V} (C : CloB base F fr a vs) (bs : ∀ b o, base.get? b = some o → h.get? b = some o ∧ H b = none) : NdefX.CellsAt F.cl fr (vs.map some) h H := by
  refine ⟨by rw [List.length_map]; exact C.len, fun y c e => ?_, C.inj, fun i y e => ?_⟩
  · obtain ⟨v, o, ho, hd⟩ := C.all y c e
    obtain ⟨h1, h2⟩ := bs c o ho
    exact ⟨h2, v, o, h1, hd⟩
  · obtain ⟨c, hc, hv⟩ := C.has i y e
    refine ⟨c, hc, fun v ev => ?_⟩
    rw [List.getElem?_map] at ev
    cases q : vs[i]? with
    | none => rw [q] at ev; cases ev
    | some w =>
      rw [q] at ev
      cases ev
      obtain ⟨u, r, o, ho, hd⟩ := hv _ q
      exact ⟨u, r, o, (bs c o ho).1, hd⟩
structure FV where
  is : D → Prop
  sp : D → DSp
structure FvOk (P : Program) (w : World) (K : Fr0) (mg : Str → Option Value) (base : Heap) (k : Nat) (fv : FV) : Prop where
  at_ : ∀ x, fv.is x → ∀ (G : Hp) (v : V), Rp K G x v → ∃ a, v = .ref a ∧ ∀ h : Heap, K.In h → (∀ b o, base.get? b = some o → h.get? b = some o) → PySem.W.FnAt a h
  run : ∀ x, fv.is x → ∀ (A : Around) (outer : List Env) (s : Shared) (H : Hp) (us : List Value) (vs : List V) (a : Addr) (G F : Hp) (m : M) (ds : List D) (QD : D → M → Prop) (Q : VK), Room k A → Env0 P w K mg base A outer s H → Rep K G H F m → Rp K G x (.ref a) → Rps K G ds vs → Vals vs us →
    fv.sp x ds m QD (fun _ _ => False) → Kv K G F QD Q → codeAny (model P w) A (.call (.ref a) ⟨us, []⟩) (CR (L2.CX P w) outer P w H s Q (fun _ _ _ => False)) s
section
variable {P : Program} {w : World} {K : Fr0} {mg : Str → Option Value} {base : Heap} {j k : Nat} {fv gv : FV}
theorem FvOk.mono (o : FvOk P w K mg base j fv) (h : j ≤ k) : FvOk P w K mg base k fv := ⟨o.at_, fun x hx A outer s H us vs a G F m ds QD Q hr => o.run x hx A outer s H us vs a G F m ds QD Q (hr.mono h)⟩
def fvG (f : Addr) (sp : DSp) : FV := ⟨fun x => x = .ref f, fun _ => sp⟩
theorem fv_glob {x qual : Str} {params : Arguments} {body : List Stmt} {scope : Scope} {dvs : List V} {kws : List (Str × V)} {f : Addr} {fd fd2 : FuncData} {ps : List Str} {sp : DSp} (F : FunD K x qual params body scope dvs kws f fd2) (O : FnOk P w K mg base (L2.CX P w) k f fd ps (liftSp K sp)) (hb : Binds K fd ps []) : FvOk P w K mg base k (fvG f sp) := by
  obtain ⟨oc, od, dV, kV, doc, pm, an, cdv, ct, osl, rfl, lk, _⟩ := F.ex
  refine ⟨?_, ?_⟩
  · rintro _ rfl G v p
    cases p
    exact ⟨f, rfl, fun h hk _ => ⟨_, _, _, _, hk _ _ lk⟩⟩
  · rintro _ rfl A outer s H us vs a G F m ds QD Q hr e0 rep px rs r h kv
    cases px
    have hsp : liftSp K sp vs H Q (fun _ _ _ => False) := ⟨G, F, m, ds, QD, _, rep, rs, h, kv, fun _ _ _ _ _ _ _ _ _ q => q.elim⟩
    have hl : us.length = ps.length := by rw [← r.length]; exact O.len _ _ _ _ hsp
    have kin : K.In s.heap := e0.mod.kin.keeps fun b o e => (e0.bs b o e).1
    have b := hb s us kin (by rw [List.append_nil]; exact hl)
    rw [List.append_nil] at b
    exact O.run A outer s H _ us vs Q _ hr e0 b r hsp
end
def fvC (a c : Addr) (q : Str) (vs : List V) (spk : List D → DSp) : FV := ⟨fun x => ∃ env, x = .clo a c q env vs, fun x ds m Q E => ∃ env, x = .clo a c q env vs ∧ spk env ds m Q E⟩
def startC (N : List Str) (ds env : List D) : DSt := ds.map some ++ (env.map some ++ List.replicate (N.length - ds.length - env.length) none)
theorem get_map {α : Type} {xs : List α} {ys : List (Option α)} {i : Nat} {d : α} (e : (xs.map some ++ ys)[i]? = some (some d)) : (i < xs.length ∧ xs[i]? = some d) ∨ (xs.length ≤ i ∧ ys[i - xs.length]? = some (some d)) := by
  by_cases hi : i < xs.length
  · rw [List.getElem?_append_left (by simpa using hi), List.getElem?_map] at e
    cases q : xs[i]? with
    | none => rw [q] at e; cases e
    | some z =>
      rw [q] at e
      cases e
      exact .inl ⟨hi, rfl⟩
  · rw [List.getElem?_append_right (by simpa using hi), List.length_map] at e
    exact .inr ⟨by omega, e⟩
theorem rs_startC {K : PySem.W.Frag} {G : Hp} {N : List Str} {ds env : List D} {xs vs : List V} (h : Rps K G ds xs) (h2 : Rps K G env vs) : Rs K G (startC N ds env) (NdefX.startF N xs (vs.map some)) := by
  have l1 := h.length
  have l2 := h2.length
  refine ⟨by simp [startC, NdefX.startF, l1, l2], fun i d e => ?_⟩
  unfold startC at e
  unfold NdefX.startF
  rcases get_map e with ⟨hi, q⟩ | ⟨hi, e⟩
  · obtain ⟨v, h3, h4⟩ := h.get q
    exact ⟨v, by rw [List.getElem?_append_left (by rw [List.length_map]; omega), List.getElem?_map, h3]; rfl, h4⟩
  · rcases get_map e with ⟨hj, q⟩ | ⟨hj, e⟩
    · obtain ⟨v, h3, h4⟩ := h2.get q
      refine ⟨v, ?_, h4⟩
      rw [List.getElem?_append_right (by rw [List.length_map]; omega)]
      have l3 : (xs.map some).length = ds.length := by rw [List.length_map]; exact l1.symm
      rw [l3, List.getElem?_append_left (by rw [List.length_map]; omega), List.getElem?_map, h3]
      rfl
    · rw [List.getElem?_replicate] at e
      split at e <;> cases e
section
variable {P : Program} {w : World} {K : Fr0} {mg : Str → Option Value} {base : Heap} {k : Nat} {F : CF} {fr ps N : List Str} {a : Addr} {vs : List V} {spk : List D → DSp}
theorem fv_def {body : List Stmt} {t : DWX → DTS} (C : CloB base F fr a vs) (hF : F.body = .stmts body) (S : NdefX.NScope N ps fr F.scope) (hbind : ∀ (doc pm ctv : Value) (us : List Value), us.length = ps.length → bindArgs (F.fd doc pm ctv) ⟨us, []⟩ = pure (ps.zip us)) (len : ∀ env ds m Q E, spk env ds m Q E → ds.length = ps.length)
    (hb : ∀ (A : Around) (outer : List Env) (s : Shared) (H : Hp) (WD : DWX), Room k (A.deeper (NdefX.envF F.nf a s.heap.objs.size)) → Takes (NdefX.ncx (L2.CX P w) P w K mg base N F.nf a A outer s H (fun _ _ _ => False)) (WE0 fun _ _ _ => False) →
      PassesOwn (model P w) (NdefX.ncx (L2.CX P w) P w K mg base N F.nf a A outer s H (fun _ _ _ => False)).A (NdefX.ncx (L2.CX P w) P w K mg base N F.nf a A outer s H (fun _ _ _ => False)).env (NdefX.ncx (L2.CX P w) P w K mg base N F.nf a A outer s H (fun _ _ _ => False)).xe →
      DSs (NdefX.ncx (L2.CX P w) P w K mg base N F.nf a A outer s H (fun _ _ _ => False)) (WE0 fun _ _ _ => False) WD body (t WD))
    (pure_ : ∀ env ds m Q E, spk env ds m Q E → t (fun x _ m => E x m) { nx := fun _ m => Q .non m, rt := Q } (startC N ds env) m) : FvOk P w K mg base (k + 1) (fvC a F.c F.qual vs spk) := by
  obtain ⟨doc, pm, ctv, od, sl, ho⟩ := C.ob
  refine ⟨?_, ?_⟩
  · rintro _ ⟨env, rfl⟩ G v p
    cases p
    exact ⟨a, rfl, fun h _ kp => ⟨_, _, _, _, kp _ _ ho⟩⟩
  · rintro _ ⟨env, rfl⟩ A outer s H us xs a' G FF m ds QD Q hr e0 rep px rs r ⟨env', e, h⟩ kv
    cases e
    cases px with
    | clo hc re =>
    have hl : xs.length = ps.length := by rw [← rs.length]; exact len _ _ _ _ _ h
    have lim : s.heap.NoLimit := e0.mod.nolimit.keeps fun b o e => (e0.bs b o e).1
    refine codeAny_call_function hr.depth (e0.bs _ _ ho).1 rfl S.co S.gen hF (NdefX.codeO_at e0.hok (rep.ext _ _ hc)) ?_
    rw [hbind doc pm ctv us (by rw [← r.length]; exact hl)]
    refine wpAny_pure (wpAny_newFunctionEnv S.nocell (fun ⟨n, _⟩ hy => S.par n (List.of_mem_zip hy).1) (fun h₁ hns hsb => ⟨lim.fresh _ hsb, ?_⟩) S.kind)
    show codeAny _ _ (.func body (NdefX.envF F.nf a s.heap.objs.size)) _ _
    refine codeAny_func ?_
    have kp : ∀ b o, s.heap.get? b = some o → h₁.get? b = some o := fun b o e => hsb.extBut b o (Nat.ne_of_lt (Heap.lt_size e)) (Heap.get?_push_of_some _ e)
    have I : Inv (NdefX.ncx (L2.CX P w) P w K mg base N F.nf a A outer s H (fun _ _ _ => False)) [] (NdefX.startF N xs (vs.map some)) H { s with heap := h₁, toks := s.toks + (ps.zip us).length } := NdefX.inv_startN S hr.hd e0 hl r (C.cells e0.bs) hns kp
    refine wpAny_mono ((hb A outer s H (fun _ _ _ => False) (hr.deeper _) (takes_of rfl rfl rfl rfl) (passes_of rfl)).run [] _ _ H { nx := fun _ H' => Q .non H', rt := Q } I
      ⟨G, FF, startC N ds env, m, { nx := fun _ m => QD .non m, rt := QD }, ⟨rep, rs_startC rs re, Lx.no⟩, pure_ env ds m QD _ h, ⟨fun G' H' m' r' s' e r rs' q => kv G' H' m' _ _ e r .non q, kv, fun _ _ _ _ _ _ _ _ q => q.elim, fun _ _ _ _ _ _ _ _ q => q.elim⟩⟩) (fun fl s' hs => ?_) fun e s' hs => hs
    have fin : ∀ {σ' : L2.St} {H' : Hp} {v : V} {u : Value}, Inv (NdefX.ncx (L2.CX P w) P w K mg base N F.nf a A outer s H (fun _ _ _ => False)) [] σ' H' s' → L2.RelV v u → Q v H' → CE outer P w H s Q u s' :=
      fun {σ' H' v u} J rv q => ⟨v, H', J.os, J.bare, J.base, J.hok, rv, q⟩
    cases fl with
    | ret u =>
      obtain ⟨v, σ', H', J, rv, q⟩ := hs
      exact fin J rv q
    | next =>
      obtain ⟨σ', H', J, q⟩ := hs
      exact fin (v := V.non) (u := Value.none) J rfl q
    | brk =>
      obtain ⟨_, _, _, q⟩ := hs
      exact False.elim q
    | cont =>
      obtain ⟨_, _, _, q⟩ := hs
      exact False.elim q
end
end DL

set_option Elab.async false
set_option linter.all false
set_option maxRecDepth 100000
set_option maxHeartbeats 4000000
namespace DL
open PySem PySem.Spec PyProof.Rows L2 LamX
def dCallV (fv : FV) (i : Nat) (t : DTA) : DTE := fun r m Q => ∃ x, slot r i = some x ∧ fv.is x ∧ t r m fun ds m1 => fv.sp x ds m1 Q fun _ _ => False
section
variable {X : Cx} {W : WX} {WD : DWX} {k i : Nat} {fv : FV} {x : Str} {p pos : Pos} {e : Expr} {es : List Expr} {t : DTA}
theorem de_callV (F : FvOk X.prog X.w X.K X.mg X.base k fv) (hr : Room k X.A) (ha : DA X W WD (e :: es) t) (hN : X.N[i]? = some x) (hv : Vis X.env.scope x := by first | exact Or.inl rfl | exact Or.inr (Or.inl rfl) | exact Or.inr (Or.inr rfl))
    (hd : (x == ("__debug__" : Str)) = false := by decide) (hcd : (x == ("__classdict__" : Str)) = false := by decide) (he : starEach (e :: es) X.env = (false, eval e X.env) :: starEach es X.env := by rfl) (hpl : (backTo pos (starEach es X.env)).any (·.1) = false := by rfl) :
    DE X W WD (.Call (.Name x p) (e :: es) [] pos) (dCallV fv i t) := by
  refine ⟨fun pins s σ H Q I h => ?_⟩
  obtain ⟨G, FF, r, m, QD, sx, ⟨d, hs, hi, ht⟩, kv⟩ := h
  obtain ⟨v0, e1, rv⟩ := sx.rs.at_ i d (slot_get hs)
  obtain ⟨a, ev0, hfn⟩ := F.at_ d hi G v0 rv
  subst ev0
  refine wpAny_Call_Name_kw (thn ((pe_var (pos := p) hN hv hd hcd).run pins s σ H (fun v H1 => v = .ref a ∧ H1 = H) I ⟨.ref a, e1, rfl, rfl⟩) fun u s1 ⟨v, H1, I1, r1, q1⟩ => ?_)
  obtain ⟨ev, eH⟩ := q1
  subst ev
  rw [eH] at I1
  obtain rfl : u = Value.ref a := r1
  refine PySem.W.callWith_F (first := []) (hfn _ I1.kIn I1.bk) (thn (ha.run pos pins s1 σ H (fun vs H2 => ∃ (G2 : Hp) (m2 : M) (ds : List D), Same G G2 ∧ Rep X.K G2 H2 FF m2 ∧ Rps X.K G2 ds vs ∧ fv.sp d ds m2 QD fun _ _ => False) I1
    ⟨G, FF, r, m, _, sx, ht, fun G2 H2 m2 ds vs e2 r2 p2 t2 => ⟨G2, m2, ds, e2, r2, p2, t2⟩⟩) fun us s2 ⟨vs, H2, I2, r2, G2, m2, ds, e2, rep2, p2, t2⟩ => ⟨hfn _ I2.kIn I2.bk, ?_⟩) he hpl
  show wpAny _ _ (call (.ref a) us) _ _ _
  refine wpAny_call (codeAny_mono (F.run d hi X.A X.stack s2 H2 us vs a G2 FF m2 ds QD Q hr I2.env0 rep2 (rv.mono e2) p2 r2 t2 (kv.mono e2)) fun r s' hq => ?_)
  cases r with
  | error e =>
    obtain ⟨_, _, _, _, _, _, _, _, _, _, _, _, z⟩ := hq
    exact z.elim
  | ok fl =>
    cases fl with
    | ret u => exact I2.after hq
    | next => exact False.elim hq
    | brk => exact False.elim hq
    | cont => exact False.elim hq
end
theorem restrict (h : Heap) (p : Addr → Prop) : ∃ B : Heap, B.objs.size = h.objs.size ∧ (∀ b o, h.get? b = some o → p b → B.get? b = some o) ∧ (∀ b o, B.get? b = some o → h.get? b = some o ∧ p b) := by
  classical
  refine ⟨PySem.W.hideAll h ((List.range h.objs.size).filter fun b => decide (¬ p b)), PySem.W.hideAll_size _ _, fun b o e hp => PySem.W.hideAll_get _ e fun hm => ?_, fun b o e => ?_⟩
  · have := (List.mem_filter.mp hm).2
    simp [hp] at this
  · have e1 := PySem.W.of_hideAll _ e
    refine ⟨e1, ?_⟩
    apply Classical.byContradiction
    intro hp
    have : b ∈ (List.range h.objs.size).filter fun b => decide (¬ p b) := List.mem_filter.mpr ⟨List.mem_range.mpr (Heap.lt_size e1), by simpa using hp⟩
    rw [PySem.W.hideAll_none _ this] at e
    cases e
theorem Mod.keeps' {K : PySem.W.Frag} {mg : Str → Option Value} {b b' : Heap} (x : L2.Mod K mg b) (k : ∀ a o, b.get? a = some o → b'.get? a = some o) : L2.Mod K mg b' := by
  obtain ⟨mb, h1, h2⟩ := x.blt
  exact ⟨x.kin.keeps k, x.glob.keeps k, ⟨mb, h1.keeps k, h2⟩, x.nolimit.keeps k⟩
theorem TabBs.keeps' {K : Fr0} {mg : Str → Option Value} {b b' : Heap} (x : TabBs K mg b) (k : ∀ a o, b.get? a = some o → b'.get? a = some o) : TabBs K mg b' :=
  ⟨fun y hy => ⟨(x.tb y hy).code.keeps k, (x.tb y hy).bm.keeps k, (x.tb y hy).gP⟩, x.one⟩
section
variable {X : Cx} {pins : List (Addr × Obj)} {σ : L2.St} {H : Hp} {s : Shared}
end
theorem slots_at {K : PySem.W.Frag} {G : Hp} {r : DSt} {σ : L2.St} (x : Rs K G r σ) : ∀ (js : List Nat) (env : List D), js.map (slot r) = env.map some → ∃ vs, Rps K G env vs ∧ js.map (NdefX.slotAt σ) = vs.map some
  | [], [], _ => ⟨[], .nil, rfl⟩
  | [], _ :: _, e => nomatch e
  | _ :: _, [], e => nomatch e
  | j :: js, d :: env, e => by
    have e1 : slot r j = some d := (List.cons.inj e).1
    have e2 : js.map (slot r) = env.map some := (List.cons.inj e).2
    obtain ⟨v, h1, h2⟩ := x.at_ j d (slot_get e1)
    obtain ⟨vs, h3, h4⟩ := slots_at x js env e2
    refine ⟨v :: vs, .cons h2 h3, ?_⟩
    rw [List.map_cons, List.map_cons, h4, NdefX.slotAt_of h1]
section
variable {X : Cx} {W : WX} {WD : DWX}
end
end DL

set_option Elab.async false
set_option linter.all false
set_option maxRecDepth 100000
set_option maxHeartbeats 4000000
namespace DL
open PySem PySem.Spec PyProof.Rows L2 LamX
section
variable {M : Model} {Γ : PySem.Ctx} {p : Pos} {t : Sem Fin} {fs : List Frame} {s s' : Shared} {e : End}
theorem runs_det (h : Runs M Γ p t fs s e s') : ∀ {e2 : End} {s2 : Shared}, Runs M Γ p t fs s e2 s2 → e = e2 ∧ s' = s2 := by
  induction h with
  | done => intro _ _ h2; cases h2; exact ⟨rfl, rfl⟩
  | raise => intro _ _ h2; cases h2; exact ⟨rfl, rfl⟩
  | again _ _ ih => intro _ _ h2; cases h2 with | again _ h => exact ih h
  | rule _ ih => intro _ _ h2; cases h2 with | rule h => exact ih h
  | «at» _ ih => intro _ _ h2; cases h2 with | «at» h => exact ih h
  | load hg _ ih => intro _ _ h2; cases h2 with | load hg2 h => rw [hg] at hg2; cases hg2; exact ih h
  | update _ _ ih => intro _ _ h2; cases h2 with | update _ h => exact ih h
  | loadIfAlive _ ih => intro _ _ h2; cases h2 with | loadIfAlive h => exact ih h
  | point _ ih => intro _ _ h2; cases h2 with | point h => exact ih h
  | alloc _ ih => intro _ _ h2; cases h2 with | alloc h => exact ih h
  | fresh _ ih => intro _ _ h2; cases h2 with | fresh h => exact ih h
  | ask _ ih => intro _ _ h2; cases h2 with | ask h => exact ih h
  | choose _ _ ih => intro _ _ h2; cases h2 with | choose _ h => exact ih h
  | os _ ih => intro _ _ h2; cases h2 with | os h => exact ih h
  | handled _ ih => intro _ _ h2; cases h2 with | handled h => exact ih h
  | genState hg _ ih => intro _ _ h2; cases h2 with | genState hg2 h => rw [hg] at hg2; cases hg2; exact ih h
  | stack _ ih => intro _ _ h2; cases h2 with | stack h => exact ih h
  | thread _ ih => intro _ _ h2; cases h2 with | thread h => exact ih h
  | newGen _ ih => intro _ _ h2; cases h2 with | newGen h => exact ih h
  | call _ _ ih1 ih2 =>
    intro _ _ h2
    cases h2 with
    | call a b => obtain ⟨e1, e2⟩ := ih1 a; cases e1; subst e2; exact ih2 b
    | callSusp a => obtain ⟨e1, _⟩ := ih1 a; cases e1
  | callSusp _ ih =>
    intro _ _ h2
    cases h2 with
    | call a b => obtain ⟨e1, _⟩ := ih a; cases e1
    | callSusp a => obtain ⟨e1, e2⟩ := ih a; cases e1; exact ⟨rfl, e2⟩
  | «yield» => intro _ _ h2; cases h2; exact ⟨rfl, rfl⟩
  | resumeFresh hg _ _ _ ih1 ih2 =>
    intro _ _ h2
    cases h2 with
    | resumeFresh hg2 a _ b => rw [hg] at hg2; cases hg2; obtain ⟨e1, e2⟩ := ih1 a; subst e1; subst e2; exact ih2 b
    | resumeSuspended hg2 _ _ _ => rw [hg] at hg2; cases hg2
    | resumeJustStarted _ hv _ => exact absurd rfl hv
    | resumeRunning hg2 _ => rw [hg] at hg2; cases hg2
    | resumeFinished hg2 _ => rw [hg] at hg2; cases hg2
  | resumeSuspended hg _ _ _ ih1 ih2 =>
    intro _ _ h2
    cases h2 with
    | resumeFresh hg2 _ _ _ => rw [hg] at hg2; cases hg2
    | resumeSuspended hg2 a _ b => rw [hg] at hg2; cases hg2; obtain ⟨e1, e2⟩ := ih1 a; subst e1; subst e2; exact ih2 b
    | resumeJustStarted hg2 _ _ => rw [hg] at hg2; cases hg2
    | resumeThrowFresh hg2 _ => rw [hg] at hg2; cases hg2
    | resumeRunning hg2 _ => rw [hg] at hg2; cases hg2
    | resumeFinished hg2 _ => rw [hg] at hg2; cases hg2
  | resumeJustStarted hg hv _ ih =>
    intro _ _ h2
    cases h2 with
    | resumeFresh _ _ _ _ => exact absurd rfl hv
    | resumeSuspended hg2 _ _ _ => rw [hg] at hg2; cases hg2
    | resumeJustStarted _ _ a => exact ih a
    | resumeRunning hg2 _ => rw [hg] at hg2; cases hg2
    | resumeFinished hg2 _ => rw [hg] at hg2; cases hg2
  | resumeThrowFresh hg _ ih =>
    intro _ _ h2
    cases h2 with
    | resumeSuspended hg2 _ _ _ => rw [hg] at hg2; cases hg2
    | resumeThrowFresh _ a => exact ih a
    | resumeRunning hg2 _ => rw [hg] at hg2; cases hg2
    | resumeFinished hg2 _ => rw [hg] at hg2; cases hg2
  | resumeRunning hg _ ih =>
    intro _ _ h2
    cases h2 with
    | resumeFresh hg2 _ _ _ => rw [hg] at hg2; cases hg2
    | resumeSuspended hg2 _ _ _ => rw [hg] at hg2; cases hg2
    | resumeJustStarted hg2 _ _ => rw [hg] at hg2; cases hg2
    | resumeThrowFresh hg2 _ => rw [hg] at hg2; cases hg2
    | resumeRunning _ a => exact ih a
    | resumeFinished hg2 _ => rw [hg] at hg2; cases hg2
  | resumeFinished hg _ ih =>
    intro _ _ h2
    cases h2 with
    | resumeFresh hg2 _ _ _ => rw [hg] at hg2; cases hg2
    | resumeSuspended hg2 _ _ _ => rw [hg] at hg2; cases hg2
    | resumeJustStarted hg2 _ _ => rw [hg] at hg2; cases hg2
    | resumeThrowFresh hg2 _ => rw [hg] at hg2; cases hg2
    | resumeRunning hg2 _ => rw [hg] at hg2; cases hg2
    | resumeFinished _ a => exact ih a
  | segRet _ _ ih1 ih2 =>
    intro _ _ h2
    cases h2 with
    | segRet a b => obtain ⟨e1, e2⟩ := ih1 a; cases e1; subst e2; exact ih2 b
    | segSuspOut _ a => obtain ⟨e1, _⟩ := ih1 a; cases e1
    | segSuspGen _ a _ _ => obtain ⟨e1, _⟩ := ih1 a; cases e1
  | segGen _ _ ih1 ih2 =>
    intro _ _ h2
    cases h2 with
    | segGen a b => obtain ⟨e1, e2⟩ := ih1 a; cases e1; subst e2; exact ih2 b
    | segSuspOut _ a => obtain ⟨e1, _⟩ := ih1 a; cases e1
    | segSuspGen _ a _ _ => obtain ⟨e1, _⟩ := ih1 a; cases e1
  | segSuspOut hs _ ih =>
    intro _ _ h2
    cases h2 with
    | segRet a b => obtain ⟨e1, _⟩ := ih a; cases e1
    | segGen a b => obtain ⟨e1, _⟩ := ih a; cases e1
    | segSuspOut _ a => obtain ⟨e1, e2⟩ := ih a; cases e1; exact ⟨rfl, e2⟩
    | segSuspGen hs2 _ _ _ => rw [hs] at hs2; cases hs2
  | segSuspGen hs _ _ _ ih1 ih2 =>
    intro _ _ h2
    cases h2 with
    | segRet a b => obtain ⟨e1, _⟩ := ih1 a; cases e1
    | segGen a b => obtain ⟨e1, _⟩ := ih1 a; cases e1
    | segSuspOut hs2 _ => rw [hs] at hs2; cases hs2
    | segSuspGen hs2 a _ b => rw [hs] at hs2; cases hs2; obtain ⟨e1, e2⟩ := ih1 a; cases e1; subst e2; exact ih2 b
end
section
variable {α ι : Type} {M : Model}
theorem wakes_det {Γ : PySem.Ctx} {p : Pos} {g : Nat} {r : Resume} {s s1 s2 : Shared} {a b : GenResult} (h1 : Wakes M Γ p g r s a s1) (h2 : Wakes M Γ p g r s b s2) : a = b ∧ s1 = s2 := by
  unfold Wakes at h1 h2
  split at h1
  · exact h1.elim
  · split at h1
    · simp_all
      obtain ⟨e1, t1, r1, _, rfl, rfl⟩ := h1
      obtain ⟨e2, t2, r2, _, rfl, rfl⟩ := h2
      obtain ⟨rfl, rfl⟩ := runs_det r1 r2
      exact ⟨rfl, rfl⟩
    · simp_all
    · simp_all
  · simp_all
    obtain ⟨e1, t1, r1, _, rfl, rfl⟩ := h1
    obtain ⟨e2, t2, r2, _, rfl, rfl⟩ := h2
    obtain ⟨rfl, rfl⟩ := runs_det r1 r2
    exact ⟨rfl, rfl⟩
  · simp_all
  · simp_all
theorem wp_forall {Γ : PySem.Ctx} {Q : ι → α → Pos → Shared → Prop} {E : Value → Pos → Shared → Prop} (i0 : ι) (t : Sem α) : ∀ (p : Pos) (s : Shared), (∀ i, Sem.wp M Γ t (Q i) E p s) → Sem.wp M Γ t (fun a p s => ∀ i, Q i a p s) E p s := by
  induction t with
  | pure a => intro p s h; simp only [Sem.wp] at h ⊢; exact h
  | raise e => intro p s h; simp only [Sem.wp] at h ⊢; exact h i0
  | unsupported w => intro p s h; simp only [Sem.wp] at h; exact (h i0).elim
  | finish e => intro p s h; simp only [Sem.wp] at h; exact (h i0).elim
  | rule g k ih => intro p s h; simp only [Sem.wp] at h ⊢; exact ih _ _ _ h
  | «at» q k ih => intro p s h; simp only [Sem.wp] at h ⊢; exact ih _ _ _ h
  | load a g k ih =>
    intro p s h
    simp only [Sem.wp] at h ⊢
    obtain ⟨o, ho, _⟩ := h i0
    refine ⟨o, ho, ih _ _ _ fun i => ?_⟩
    obtain ⟨o2, ho2, h2⟩ := h i
    rw [ho] at ho2; cases ho2
    exact h2
  | update a g f k ih => intro p s h; simp only [Sem.wp] at h ⊢; exact ⟨(h i0).1, ih _ _ _ fun i => (h i).2⟩
  | loadIfAlive a k ih => intro p s h; simp only [Sem.wp] at h ⊢; exact ih _ _ _ h
  | point l k ih => intro p s h; simp only [Sem.wp] at h ⊢; exact ih _ _ _ h
  | register a k ih => intro p s h; simp only [Sem.wp] at h; exact (h i0).elim
  | alloc o k ih => intro p s h; simp only [Sem.wp] at h ⊢; exact ih _ _ _ h
  | fresh k ih => intro p s h; simp only [Sem.wp] at h ⊢; exact ih _ _ _ h
  | ask k ih => intro p s h; simp only [Sem.wp] at h ⊢; exact ih _ _ _ h
  | choose a n k ih => intro p s h; simp only [Sem.wp] at h ⊢; exact ⟨(h i0).1, ih _ _ _ fun i => (h i).2⟩
  | os q l k ih => intro p s h; simp only [Sem.wp] at h ⊢; exact ih _ _ _ h
  | call c hh g l k ih =>
    intro p s h
    simp only [Sem.wp] at h ⊢
    obtain ⟨r, s', hr, _⟩ := h i0
    refine ⟨r, s', hr, ih _ _ _ fun i => ?_⟩
    obtain ⟨r2, s2, hr2, h2⟩ := h i
    obtain ⟨e1, e2⟩ := runs_det (show Runs _ _ _ _ _ _ _ _ from hr) (show Runs _ _ _ _ _ _ _ _ from hr2)
    cases e1
    subst e2
    exact h2
  | handled o k ih => intro p s h; simp only [Sem.wp] at h ⊢; exact ih _ _ _ h
  | newGen c k ih => intro p s h; simp only [Sem.wp] at h ⊢; exact ih _ _ _ h
  | genState g k ih =>
    intro p s h
    simp only [Sem.wp] at h ⊢
    obtain ⟨o, ho, _⟩ := h i0
    refine ⟨o, ho, ih _ _ _ fun i => ?_⟩
    obtain ⟨o2, ho2, h2⟩ := h i
    rw [ho] at ho2; cases ho2
    exact h2
  | resume g r l k ih =>
    intro p s h
    simp only [Sem.wp] at h ⊢
    obtain ⟨a, s', hr, _⟩ := h i0
    refine ⟨a, s', hr, ih _ _ _ fun i => ?_⟩
    obtain ⟨a2, s2, hr2, h2⟩ := h i
    obtain ⟨e1, e2⟩ := wakes_det hr hr2
    subst e1
    subst e2
    exact h2
  | «yield» v g l k ih => intro p s h; simp only [Sem.wp] at h; exact (h i0).elim
  | stack k ih => intro p s h; simp only [Sem.wp] at h ⊢; exact ih _ _ _ h
  | fork c k ih => intro p s h; simp only [Sem.wp] at h; exact (h i0).elim
  | thread k ih => intro p s h; simp only [Sem.wp] at h ⊢; exact ih _ _ _ h
  | «await» a f d l k ih => intro p s h; simp only [Sem.wp] at h; exact (h i0).elim
theorem wpAny_forall {A : Around} {t : Sem α} {Q : ι → α → Shared → Prop} {E : Value → Shared → Prop} {s : Shared} (i0 : ι) (h : ∀ i, wpAny M A t (Q i) E s) : wpAny M A t (fun a s => ∀ i, Q i a s) E s := fun Γ p hi => wp_forall i0 t p s fun i => h i Γ p hi
end
end DL

set_option Elab.async false
set_option linter.all false
set_option maxRecDepth 100000
set_option maxHeartbeats 4000000
namespace DL
open PySem PySem.Spec PySem.W PyProof.Rows L2 LamX
def minBy (kp : D → PyData) (x : D) (xs : List D) : D := xs.foldl (fun a y => if dataLt (kp y) (kp a) then y else a) x
def dMinK (tl : DTE) (ip : Nat) (te : DTE) : DTE := fun r m Q => tl r m fun d m1 => ∃ (l : Addr) (x : D) (xs : List D) (key : D → D) (kp : D → PyData), d = .ref l ∧ m1 l = some (.lst (x :: xs)) ∧ (∀ y ∈ x :: xs, ∀ Q' : D → M → Prop, Q' (key y) (mdel m1 l) → te (r.set ip (some y)) (mdel m1 l) Q') ∧
  toPs ((x :: xs).map key) = some ((x :: xs).map kp) ∧ AlikeAll ((x :: xs).map kp) ∧ (∀ y ∈ x :: xs, (kp y).depth ≤ 60) ∧ Q (minBy kp x xs) m1
theorem toPs_get : ∀ {ds : List D} {ps : List PyData} {i : Nat} {d : D}, toPs ds = some ps → ds[i]? = some d → ∃ p, ps[i]? = some p ∧ toP d = some p
  | [], _, _, _, _, h => nomatch h
  | k :: ks, ps, i, d, e, h => by
    rw [toPs] at e
    cases q : toP k with
    | none => rw [q] at e; cases e
    | some p =>
      cases q2 : toPs ks with
      | none => rw [q, q2] at e; cases e
      | some ps' =>
        rw [q, q2] at e
        cases e
        cases i with
        | zero => cases h; exact ⟨p, rfl, q⟩
        | succ i => exact toPs_get (ps := ps') q2 (show ks[i]? = some d from h)
theorem lam_min {X : Cx} {pins : List (Addr × Obj)} {σ : L2.St} {H0 G0 F : Hp} {s0 : Shared} {r : DSt} {m : M} {k ip : Nat} {p : Str} {params : Arguments} {body : Expr} {scope : Scope} {f d l : Addr} {pm ctv : Value} {te : DTE} {x0 : D} {ds : List D} {key : D → D} {kp : D → PyData} {Q : Value → Shared → Prop}
    (I : Inv X pins σ H0 s0) (L : Lam1 X.env.scope scope p) (hN : X.N.Nodup) (hip : X.N[ip]? = some p) (hf : s0.heap.get? f = some (kla_obj "<lambda>" (X.env.qual ++ "<lambda>") params body scope (cloFrom X.env.cells scope.names []) pm d ctv)) (hfn : H0 f = none) (hfr : f ∉ frs X.stack) (hcd : H0 d = some (CodeO d (X.env.qual ++ "<lambda>")))
    (hbind : ∀ (q : Str) (cl : List (Str × Addr)) (pm cv ctv u : Value), bindArgs (kla_fn "<lambda>" q params body scope cl pm cv ctv) ⟨[u], []⟩ = pure [(p, u)]) (hr : Room (k + 2) X.A)
    (hbody : ∀ (B : Around) (t : Shared) (HZ : Hp), Room k (B.deeper (lamEnv X scope t.heap.objs.size f d)) → PE (lamCx X B X.stack t HZ (fun _ _ _ => False) scope f d) body (up X.K W0 WD0 te))
    (rep : Rep X.K G0 H0 F m) (rs : Rs X.K G0 r σ) (hml : m l = some (.lst (x0 :: ds))) (hkey : ∀ y ∈ x0 :: ds, ∀ Q' : D → M → Prop, Q' (key y) (mdel m l) → te (r.set ip (some y)) (mdel m l) Q')
    (hp : toPs ((x0 :: ds).map key) = some ((x0 :: ds).map kp)) (hal : AlikeAll ((x0 :: ds).map kp)) (hdep : ∀ y ∈ x0 :: ds, (kp y).depth ≤ 60)
    (fin : ∀ (v : V) (u : Value) (G' H' : Hp) (t' : Shared), Same G0 G' → Rep X.K G' H' F m → Rp X.K G' (minBy kp x0 ds) v → RelV v u → Inv X pins σ H' t' → Q u t') :
    wpAny (model X.prog X.w) X.A (call (.builtin "min") [.ref l] [(Str.ofString "key", .ref f)]) Q X.xe s0 := by
  obtain ⟨G1, sg1, rep, hGd⟩ := rep.knowC hcd
  replace rs := rs.mono sg1
  obtain ⟨vs, Fl, rx, repL⟩ := rep.lend hml
  have hHl : H0 l = some (.lst vs) := repL.frm l _ upd_same
  obtain ⟨hz, its, n0, rv, hel⟩ := I.hok l _ hHl
  have isl : s0.heap.IsList l its.toArray := ⟨_, hel, rfl, n0, rfl⟩
  obtain ⟨ob, hob⟩ : ∃ ob : Obj, ob = { cls := .type "list", data := .seq its.toArray n0 } := ⟨_, rfl⟩
  rw [← hob] at hel
  have repF := repL.turn (u := .frz ob (.lst vs))
  have lv : vs.length = ds.length + 1 := by rw [← rx.length]; rfl
  have li : its.length = ds.length + 1 := by rw [← vals_len rv]; exact lv
  refine PySem.call_min_walkK (iter_listW (A := X.A.in1) hr.in1.hd isl fun s₂ e2 W st hfp hw hk => ?_)
  have hsz2 : s₂.heap.objs.size = s0.heap.objs.size + 1 := by rw [e2]; exact Heap.size_push _ _
  obtain ⟨aI, hI⟩ : ∃ aI, aI = s0.heap.objs.size := ⟨_, rfl⟩
  obtain ⟨aS, hS⟩ : ∃ aS, aS = s₂.heap.objs.size := ⟨_, rfl⟩
  rw [← hI] at W st hfp hw ⊢
  obtain ⟨JJ, hJ⟩ : ∃ JJ : Hp → Hp → Shared → Prop, ∀ G Hc t, JJ G Hc t ↔ (t.os = s0.os ∧ AllBare t.gens ∧ Un (frs X.stack) [] H0 Hc s0.heap t.heap ∧ HOk X.prog X.w Hc t.heap ∧ Same G1 G ∧ Rep X.K G Hc (upd F l (.frz ob (.lst vs))) (mdel m l) ∧ Hc aI = none ∧ Hc aS = none) := ⟨_, fun _ _ _ => Iff.rfl⟩
  have inv_of : ∀ {G Hc : Hp} {t : Shared}, JJ G Hc t → Inv X pins σ Hc t := fun {G Hc t} h => by
    obtain ⟨h1, h2, h3, h4, _⟩ := (hJ _ _ _).mp h
    exact I.call' h1 h3 h4 h2 (fun b hb => nomatch hb)
  have ltn : ∀ b, b < s0.heap.objs.size → b ≠ aI ∧ b ≠ aS := fun b hb => ⟨by omega, by omega⟩
  have keepJ : ∀ {G Hc : Hp} {t t' : Shared}, JJ G Hc t → Moved [aS, aI] (fun a b => b = a) t t' → JJ G Hc t' := fun {G Hc t t'} h mv => by
    obtain ⟨h1, h2, h3, h4, h5, h6, h7, h8⟩ := (hJ _ _ _).mp h
    have nb : ∀ b o, Hc b = some o → b ∉ [aS, aI] := fun b o e z => by
      rcases List.mem_cons.mp z with rfl | z
      · rw [h8] at e; cases e
      · rw [List.mem_singleton.mp z, h7] at e; cases e
    refine (hJ _ _ _).mpr ⟨mv.os.trans h1, by rw [show t'.gens = t.gens from mv.gens]; exact h2, un_out I.hok h3 (fun _ _ => rfl) (fun b o hb e => mv.heap b o (fun z => ?_) e), fun b o e => (h4 b o e).stay (fun c v hc q => mv.heap c v ?_ q) (fun _ q => q) (fun _ _ q => q), h5, h6, h7, h8⟩
    · rcases List.mem_cons.mp z with z | z
      · exact (ltn b hb).2 z
      · exact (ltn b hb).1 (List.mem_singleton.mp z)
    · rcases hc with rfl | hc
      · exact nb _ _ e
      · exact nb _ _ hc
  have nofr : ∀ b, s0.heap.objs.size ≤ b → b ∉ frs X.stack := fun b hb z => by
    rcases List.mem_cons.mp (I.stkSub _ z) with e | e
    · have h1 := I.lt
      rw [← e] at h1
      exact Nat.lt_irrefl _ (Nat.lt_of_lt_of_le h1 hb)
    · exact I.nofs hb e
  have runK : ∀ {G Hc : Hp} {t : Shared} {i : Nat} {y : D} {u : Value}, JJ G Hc t → (∃ o, t.heap.get? aI = some o) → (∃ o, t.heap.get? aS = some o) → (x0 :: ds)[i]? = some y → its[i]? = some u →
      wpAny (model X.prog X.w) X.A.in1 (call (.ref f) [u]) (fun v t' => ∃ (w : V) (H' G' : Hp), JJ G' H' t' ∧ Same G G' ∧ Rp X.K G' (key y) w ∧ RelV w v ∧ (∀ b o, t.heap.get? b = some o → Hc b = none → b ∉ frs X.stack → t'.heap.get? b = some o)) (fun _ _ => False) t := by
    intro G Hc t i y u hj hoI hoS hy hu
    have It := inv_of hj
    obtain ⟨h1, h2, h3, h4, h5, h6, h7, h8⟩ := (hJ _ _ _).mp hj
    obtain ⟨x, hx, rxu⟩ := vals_at rv hu
    obtain ⟨x', hx', rdj⟩ := rx.get hy
    rw [hx] at hx'
    cases hx'
    have hym : y ∈ x0 :: ds := List.mem_of_getElem? hy
    have hf' := h3.keep f _ hf hfn hfr (by simp)
    have hcd' : Hc d = some (CodeO d (X.env.qual ++ "<lambda>")) := h6.ext d _ (h5 d _ hGd)
    have e0 : Env0 X.prog X.w X.K X.mg X.base X.A.in1 X.stack t Hc := ⟨It.env0.frames, It.env0.mod, It.env0.bs, It.env0.bsz, It.env0.funs, It.env0.frf, h4, h2⟩
    have turn := lam_turn (B := X.A.in1) (k := k) (Q := fun v H' => ∃ G', Same G G' ∧ Rep X.K G' H' (upd F l (.frz ob (.lst vs))) (mdel m l) ∧ Rp X.K G' (key y) v) It L hN hip rxu hf' hcd' hbind hr.in1 e0 Un.refl (hbody _ t Hc (hr.in1.deeper _))
      ⟨G, _, r.set ip (some y), mdel m l, fun z m' => z = key y ∧ m' = mdel m l, ⟨h6, (rs.mono h5).set (rdj.mono h5), Lx.no⟩, hkey y hym _ ⟨rfl, rfl⟩, fun G' H' m' z v e r' q ⟨h1, h2⟩ => ⟨G', e, by rw [← h2]; exact r', by rw [← h1]; exact q⟩⟩
    refine wpAny_mono turn (fun v t' he => ?_) fun _ _ z => z
    obtain ⟨w', H', af, rw', G', sg', rp', rk'⟩ := he
    have fr : ∀ b, Hc b = none → (∃ o, t.heap.get? b = some o) → H' b = none := fun b hn ⟨o, ho⟩ => af.un.free b o ho hn (by simp)
    exact ⟨w', H', G', (hJ _ _ _).mpr ⟨af.os.trans h1, af.bare, h3.trans af.un, af.hok, h5.trans sg', rp', fr _ h7 hoI, fr _ h8 hoS⟩, sg', rk', rw', fun b o e n z => af.un.keep b o e n z (by simp)⟩
  have hvs : its.toArray.size = ds.length + 1 := by rw [List.size_toArray]; exact li
  obtain ⟨VV, hV⟩ : ∃ VV : Nat → Value → Shared → Prop, ∀ i u t, VV i u t ↔ ∃ (G Hc : Hp) (w : V) (y : D), JJ G Hc t ∧ (x0 :: ds)[i]? = some y ∧ Rp X.K G (key y) w ∧ RelV w u := ⟨_, fun _ _ _ => Iff.rfl⟩
  refine ⟨_, _, _, _, _, _, _, fun t => ∃ G Hc, JJ G Hc t, VV, fun i j => dataLt (kp ((x0 :: ds).getD i .non)) (kp ((x0 :: ds).getD j .non)), rfl, W, st, hfp, by rw [hvs]; exact Nat.succ_pos _, ?_, ?_, ?_⟩
  · rw [← hS]
    refine ⟨fun t t' ⟨G, Hc, hj⟩ mv => ⟨G, Hc, keepJ hj mv⟩, fun i u t t' hv mv => ?_, ?_, ?_⟩
    · obtain ⟨G, Hc, w, y, hj, h1, h2, h3⟩ := (hV _ _ _).mp hv
      exact (hV _ _ _).mpr ⟨G, Hc, w, y, keepJ hj mv, h1, h2, h3⟩
    · intro i v t o Q' E' hi hP hj hst hSo hQ'
      obtain ⟨G, Hc, hj⟩ := hj
      have hu : its[i]? = some v := by rw [← hP]; simp
      obtain ⟨y, hy⟩ : ∃ y, (x0 :: ds)[i]? = some y := ⟨_, List.getElem?_eq_getElem (by rw [List.length_cons]; omega)⟩
      have hoI : ∃ o, t.heap.get? aI = some o := by obtain ⟨o, e, _⟩ := hst.1; exact ⟨o, e⟩
      have hnI := nofr aI (by rw [hI]; exact Nat.le_refl _)
      have hnS := nofr aS (by rw [hS, hsz2]; exact Nat.le_succ _)
      refine wpAny_mono (wpAny_forall (ι := Option { q : Nat × Value // VV q.1 q.2 t }) (E := fun _ _ => False) (Q := fun z v' t' => match z with
        | none => (∃ G Hc, JJ G Hc t') ∧ (t'.heap.IsListIter aI l (i + 1) ∧ t'.heap.IsList l its.toArray) ∧ t'.heap.get? aS = some o ∧ VV i v' t'
        | some q => VV q.1.1 q.1.2 t') none fun z => ?_) (fun v' t' h => ?_) fun _ _ (z : False) => z.elim
      · cases z with
        | none =>
          refine wpAny_mono (runK hj hoI ⟨o, hSo⟩ hy hu) (fun v' t' hq => ?_) fun _ _ z => z
          obtain ⟨w, H', G', hj', sg', rk, rw', kp'⟩ := hq
          obtain ⟨_, _, _, _, _, _, h7, h8⟩ := (hJ _ _ _).mp hj
          obtain ⟨_, _, _, k4, _, k6, _, _⟩ := (hJ _ _ _).mp hj'
          have hl' : t'.heap.get? l = some ob := (k4 l _ (k6.frm l _ upd_same)).1
          refine ⟨⟨G', H', hj'⟩, ⟨?_, ⟨ob, hl', by rw [hob], n0, by rw [hob]⟩⟩, kp' aS o hSo h8 hnS, (hV _ _ _).mpr ⟨G', H', w, y, hj', hy, rk, rw'⟩⟩
          obtain ⟨oI, e, e'⟩ := hst.1
          exact ⟨oI, kp' aI oI e h7 hnI, e'⟩
        | some q =>
          obtain ⟨⟨j, k'⟩, hq⟩ := q
          obtain ⟨G2, Hc2, w, y2, hj2, h1, h2, h3⟩ := (hV _ _ _).mp hq
          refine wpAny_mono (runK hj2 hoI ⟨o, hSo⟩ hy hu) (fun v' t' hq => ?_) fun _ _ z => z
          obtain ⟨_, H', G', hj', sg', _, _, _⟩ := hq
          exact (hV _ _ _).mpr ⟨G', H', w, y2, hj', h1, h2.mono sg', h3⟩
      · obtain ⟨a1, a2, a3, a4⟩ := h none
        exact hQ' v' t' a1 a2 a3 a4 fun j k' hv => h (some ⟨(j, k'), hv⟩)
    · intro i j ki kj t Q' E' hj hi hj' hq
      obtain ⟨G2, Hc2, w2, y2, hj2, b1, b2, b3⟩ := (hV _ _ _).mp hi
      obtain ⟨G3, Hc3, w3, y3, hj3, c1, c2, c3⟩ := (hV _ _ _).mp hj'
      have rd : ∀ {G Hc : Hp} {w : V} {y : D} {u : Value} {i : Nat}, JJ G Hc t → (x0 :: ds)[i]? = some y → Rp X.K G (key y) w → RelV w u → ∃ as, Reads t.heap u (kp y) as := fun {G Hc w y u i} a b c d => by
        obtain ⟨_, _, _, _, _, h6, _, _⟩ := (hJ _ _ _).mp a
        have e1 : ((x0 :: ds).map key)[i]? = some (key y) := by rw [List.getElem?_map, b]; rfl
        obtain ⟨p1, e2, e3⟩ := toPs_get hp e1
        rw [List.getElem?_map, b] at e2
        cases e2
        exact Dp.reads (inv_of a) (kp y) _ _ (Dp.same h6.ext (dp_of (key y) (kp y) _ e3 c)) d
      obtain ⟨as2, r2⟩ := rd hj2 b1 b2 b3
      obtain ⟨as3, r3⟩ := rd hj3 c1 c2 c3
      have m2 : kp y2 ∈ (x0 :: ds).map kp := List.mem_map_of_mem (List.mem_of_getElem? b1)
      have m3 : kp y3 ∈ (x0 :: ds).map kp := List.mem_map_of_mem (List.mem_of_getElem? c1)
      have q2 : (x0 :: ds).getD i D.non = y2 := by rw [List.getD_eq_getElem?_getD, b1]; rfl
      have q3 : (x0 :: ds).getD j D.non = y3 := by rw [List.getD_eq_getElem?_getD, c1]; rfl
      rw [q2, q3] at hq
      refine rcLt_alike (kp y2) (kp y3) X.A.in1 t ki kj _ _ r2 r3 (hal.1 _ m2 _ m3) (hal.2 _ m2) ?_ _ _ _ _ hq
      have := Nat.min_le_left (kp y2).depth (kp y3).depth
      have := hdep y2 (List.mem_of_getElem? b1)
      have := hr.in1.units
      omega
  · refine ⟨G1, _, (hJ _ _ _).mpr ⟨by rw [e2], by rw [e2]; exact I.bare, ?_, ?_, Same.refl _, repF, ?_, ?_⟩⟩
    · refine ⟨fun b o e n _ _ => hk b o e, fun b o e n _ _ => ⟨o.slots, hk b o e⟩, fun b o e n _ => ?_, fun b o e _ => ⟨o, hk b o e⟩, fun b ys e => ?_, fun b o u e => ?_, fun b ps e => ⟨#[], ?_⟩⟩
      · rw [upd_ne (fun z => by rw [z, hHl] at n; cases n)]; exact n
      · rw [upd_ne (fun z => by rw [z, hHl] at e; cases e)]; exact e
      · rw [upd_ne (fun z => by rw [z, hHl] at e; cases e)]; exact e
      · rw [upd_ne (fun z => by rw [z, hHl] at e; cases e), e]; simp
    · intro b o e
      by_cases hb : b = l
      · subst hb
        rw [upd_same] at e
        cases e
        refine ⟨hk _ _ hel, hz, its, n0, rv, ?_⟩
        rw [hk _ _ hel, hob]
      · rw [upd_ne hb] at e
        refine (I.hok b o e).stay (fun c v _ q => hk c v q) (fun c q => ?_) fun c ys q => ?_
        · rw [upd_ne (fun z => by rw [z, hHl] at q; cases q)]; exact q
        · rw [upd_ne (fun z => by rw [z, hHl] at q; cases q)]; exact q
    · rw [upd_ne (fun z => by
        have := Heap.lt_size hel
        rw [← z, hI] at this
        exact Nat.lt_irrefl _ this)]
      exact I.hok.fresh (by rw [hI]; exact Nat.le_refl _)
    · rw [upd_ne (fun z => by
        have := Heap.lt_size hel
        rw [← z, hS, hsz2] at this
        exact Nat.lt_irrefl _ (Nat.lt_trans (Nat.lt_succ_self _) this))]
      exact I.hok.fresh (by rw [hS, hsz2]; exact Nat.le_succ _)
  · intro v t' hP hj
    obtain ⟨G, Hc, hj⟩ := hj
    have It := inv_of hj
    obtain ⟨h1, h2, h3, h4, h5, h6, h7, h8⟩ := (hJ _ _ _).mp hj
    have e1 : its.toArray.size - 1 = ds.length := by rw [hvs]; rfl
    rw [e1] at hP
    obtain ⟨f1, f2⟩ := argBest_fold (fun a b => dataLt (kp a) (kp b)) D.non x0 ds ds.length (Nat.le_refl _)
    rw [List.take_length] at f2
    obtain ⟨ix, hix⟩ : ∃ ix, ix = argBest (fun i j => dataLt (kp ((x0 :: ds).getD i .non)) (kp ((x0 :: ds).getD j .non))) ds.length := ⟨_, rfl⟩
    rw [← hix] at hP f1 f2
    have hu : its[ix]? = some v := by rw [← hP]; simp
    obtain ⟨y, hy⟩ : ∃ y, (x0 :: ds)[ix]? = some y := ⟨_, List.getElem?_eq_getElem (by rw [List.length_cons]; omega)⟩
    have hyb : y = minBy kp x0 ds := by rw [List.getD_eq_getElem?_getD, hy] at f2; exact f2
    obtain ⟨x, hx, rxu⟩ := vals_at rv hu
    obtain ⟨x', hx', rdj⟩ := rx.get hy
    rw [hx] at hx'
    cases hx'
    have hcl : Hc l = some (.frz ob (.lst vs)) := h6.frm l _ upd_same
    have rep2 := h6.turn (u := .lst vs)
    obtain ⟨_, rep3⟩ := rep2.outM Fl (rx.mono h5)
    have em : mset (mdel m l) l (.lst (x0 :: ds)) = m := by
      funext b
      unfold mset mdel
      by_cases e : b = l
      · subst e; rw [if_pos rfl, hml]
      · rw [if_neg e, if_neg e]
    rw [em] at rep3
    refine fin x v G _ t' (sg1.trans h5) rep3 (by rw [← hyb]; exact rdj.mono h5) rxu (I.call' (ch := []) h1 ?_ ?_ h2 (fun b hb => nomatch hb))
    · refine ⟨h3.keep, h3.slot, fun b o e n hx => ?_, h3.there, fun b ys e => ?_, fun b o u e => ?_, fun b ps e => ?_⟩
      · rw [upd_ne (fun z => by rw [z, hHl] at n; cases n)]; exact h3.free b o e n hx
      · rw [upd_ne (fun z => by rw [z, hHl] at e; cases e)]; exact h3.tups b ys e
      · rw [upd_ne (fun z => by rw [z, hHl] at e; cases e)]; exact h3.frzs b o u e
      · rw [upd_ne (fun z => by rw [z, hHl] at e; cases e)]; exact h3.tbls b ps e
    · intro b o e
      by_cases hb : b = l
      · subst hb
        rw [upd_same] at e
        cases e
        refine ⟨hz, its, n0, rv, ?_⟩
        rw [(h4 b _ hcl).1, hob]
      · rw [upd_ne hb] at e
        refine (h4 b o e).stay (fun c v _ q => q) (fun c q => ?_) fun c ys q => ?_
        · rw [upd_ne (fun z => by rw [z, hcl] at q; cases q)]; exact q
        · rw [upd_ne (fun z => by rw [z, hcl] at q; cases q)]; exact q
theorem de_minK {X : Cx} {W : WX} {WD : DWX} {k ip : Nat} {p : Str} {e body : Expr} {params : Arguments} {scope : Scope} {c Pt : Addr} {tl te : DTE} {pf lpos kpos pos : Pos} (hr : Room (k + 2) X.A) (hg : Gl X "min") (hm : X.mg "min" = none) (hv : bootBuiltins "min" = some (.builtin "min"))
    (he : DE X W WD e tl) (L : Lam1 X.env.scope scope p) (hN : X.N.Nodup) (hip : X.N[ip]? = some p) (TB : TabBs X.K X.mg X.base) (hx : (c, Pt, X.env.qual ++ "<lambda>") ∈ tbls3 X.K) (hcode : X.env.code = .ref c) (hdef : defaultsOf params X.env = ([], []))
    (hbind : ∀ (q : Str) (cl : List (Str × Addr)) (pm cv ctv u : Value), bindArgs (kla_fn "<lambda>" q params body scope cl pm cv ctv) ⟨[u], []⟩ = pure [(p, u)])
    (hb : ∀ (B : Around) (t : Shared) (HZ : Hp) (f d : Addr), DE (lamCx X B X.stack t HZ (fun _ _ _ => False) scope f d) W0 WD0 body te)
    (hea : backTo pos (starEach [e] X.env) = (false, eval e X.env) :: backTo pos (starEach [] X.env) := by rfl) (hpl : (backTo pos (starEach [e] X.env)).any (·.1) = false := by rfl)
    (hall : (backToKw pos (keywordEach [⟨some "key", .Lambda params body scope lpos, kpos⟩] X.env)).all (·.1.isSome) = true := by rfl) (hnone : (backToKw pos (keywordEach [⟨some "key", .Lambda params body scope lpos, kpos⟩] X.env)).any (·.1.isNone) = false := by rfl) :
    DE X W WD (.Call (.Name "min" pf) [e] [⟨some "key", .Lambda params body scope lpos, kpos⟩] pos) (dMinK tl ip te) := by
  refine ⟨fun pins s σ H Q I h => ?_⟩
  obtain ⟨G, F, r, m, QD, x, t, kk⟩ := h
  refine wpAny_Call_Name_kw (ld_blt I hg hm hv ?_ (by decide) (by decide))
  refine PyProof.Rows.callWith_kw ?_ hea hpl hall hnone
  rw [hea]
  have run1 := he.run pins s σ H (fun v H1 => ∃ (G1 : Hp) (m1 : M) (d : D), Same G G1 ∧ Rep X.K G1 H1 F m1 ∧ Rp X.K G1 d v ∧ ∃ (l : Addr) (x : D) (xs : List D) (key : D → D) (kp : D → PyData), d = .ref l ∧ m1 l = some (.lst (x :: xs)) ∧ (∀ y ∈ x :: xs, ∀ Q' : D → M → Prop, Q' (key y) (mdel m1 l) → te (r.set ip (some y)) (mdel m1 l) Q') ∧
    toPs ((x :: xs).map key) = some ((x :: xs).map kp) ∧ AlikeAll ((x :: xs).map kp) ∧ (∀ y ∈ x :: xs, (kp y).depth ≤ 60) ∧ QD (minBy kp x xs) m1) I ⟨G, F, r, m, _, x, t, fun G1 H1 m1 d v e1 r1 p1 t1 => ⟨G1, m1, d, e1, r1, p1, t1⟩⟩
  refine Calls.spliced_cons (thn run1 fun u s1 ⟨v, H1, I1, rv, G1, m1, d, e1, rep1, p1, t1⟩ => ?_)
  refine Calls.spliced_nil ?_
  obtain ⟨l, x0, xs, key, kp, rfl, hml, hkey, hp, hal, hdep, t2⟩ := t1
  cases p1
  obtain rfl : u = Value.ref l := rv
  show wpAny _ _ (evalAll ((do let v ← eval (.Lambda params body scope lpos) X.env; standAt pos; pure v) :: [])) _ _ s1
  have hmT : (Pt, X.env.qual ++ "<lambda>") ∈ tblsOf X.K := List.mem_map.mpr ⟨_, hx, rfl⟩
  refine wpAny_evalAll_cons (wpAny_bind (lam_make2 I1 (TB.tb _ hx) hcode hmT (fun q hq e => ?_) rep1.tb hdef (L.has I1.ok) fun f c' pm ctv H2 s2 I2 eN T2 hf hfn hfr hco => wpAny_bind (wpAny_standAt (wpAny_pure (wpAny_evalAll_nil ?_)))))
  · obtain ⟨y, hy, rfl⟩ := List.mem_map.mp hq
    exact TB.one y hy _ hx e
  · have rep2 := rep1.made eN T2
    refine lam_min I2 L hN hip hf hfn hfr hco hbind hr (fun B t HZ _ => hb B t HZ f c') rep2 (x.rs.mono e1) hml hkey hp hal hdep fun v u G3 H3 s3 sg rep3 p3 rv3 I3 => ?_
    exact ⟨v, H3, I3, rv3, kk _ H3 m1 _ _ (e1.trans sg) rep3 p3 t2⟩
end DL

set_option Elab.async false
set_option linter.all false
set_option maxRecDepth 100000
set_option maxHeartbeats 4000000
namespace DL
open PySem PySem.Spec PyProof.Rows L2 LamX
theorem ints_vs {K : PySem.W.Frag} {G : Hp} : ∀ {ns : List Int} {vs : List V}, Rps K G (ns.map D.int) vs → vs = ns.map V.int
  | [], _, h => by cases h; rfl
  | n :: ns, _, h => by
    cases h with | cons a b =>
    cases a
    rw [ints_vs b]
    rfl
theorem ints_rps {K : PySem.W.Frag} {G : Hp} : ∀ (ns : List Int), Rps K G (ns.map D.int) (ns.map V.int)
  | [] => .nil
  | n :: ns => .cons (.int n) (ints_rps ns)
def dRem (to te : DTE) : DTE := fun r m Q => to r m fun d m1 => (∃ l xs, d = .ref l ∧ m1 l = some (.lst xs)) ∧ te r m1 fun y m2 => ∃ (l : Addr) (ns : List Int) (k : Int), d = .ref l ∧ y = .int k ∧ m2 l = some (.lst (ns.map D.int)) ∧ k ∈ ns ∧ Q .non (mset m2 l (.lst ((ns.erase k).map D.int)))
section
variable {X : Cx} {W : WX} {WD : DWX} {o e : Expr} {to te : DTE} {apos cpos : Pos}
theorem de_rem (hc : X.calm = true) (tk : Takes X W) (ho : DE X W WD o to) (he : DE X W WD e te) (hbase : attributeBase o "remove" X.env (eval o X.env) = eval o X.env := by rfl)
    (hfew : ((backTo cpos (starEach [e] X.env)).all (fun x => !x.1) && (backToKw cpos (keywordEach [] X.env)).all (fun x => x.1.isSome)
      && decide (([e] : List Expr).length + ([] : List Keyword).length + (if ([] : List Keyword).isEmpty then 0 else 1) < 30)) = true := by rfl)
    (hline : (apos.endLine == cpos.line) = true := by rfl) (hs : starEach [e] X.env = (false, eval e X.env) :: starEach [] X.env := by rfl) (hplain : (backTo cpos (starEach [] X.env)).any (·.1) = false := by rfl) :
    DE X W WD (.Call (.Attribute o "remove" apos) [e] [] cpos) (dRem to te) := by
  refine PE.imp (pe_remX hc tk ho he hbase hfew hline hs hplain) fun σ H Q h => ?_
  obtain ⟨G, F, r, m, QD, x, t, k⟩ := h
  refine ⟨G, F, r, m, _, x, t, fun G1 H1 m1 d1 v1 e1 r1 p1 t1 => ?_⟩
  obtain ⟨⟨l, xs, rfl, hml⟩, t2⟩ := t1
  refine ⟨ty_list r1 p1 ⟨xs, by show (m1 l).bind _ = _; rw [hml]; rfl⟩, G1, F, r, m1, _, x.step e1 r1, t2, fun G2 H2 m2 d2 v2 e2 r2 p2 t3 => ?_⟩
  obtain ⟨l', ns, kk, hl, rfl, hm2, hk, t4⟩ := t3
  cases hl
  cases p1
  cases p2
  obtain ⟨vs, h3, h4⟩ := mo_lst r2 hm2
  have := ints_vs h4
  subst this
  refine ⟨l, ns, kk, rfl, rfl, h3, fun _ => ?_, fun n => absurd hk n⟩
  exact (k.mono (e1.trans e2)).here (wr_lst r2 hm2 (ints_rps _)) .non t4
end
section
variable {X : Cx} {W : WX} {WD : DWX}
def dSet2 (i j : Nat) (te : DTE) : DTS := fun DD r m => te r m fun d m1 => DD.nx ((r.set i (some d)).set j (some d)) m1
theorem ds_set2 {i j : Nat} {x y : Str} {e : Expr} {te : DTE} {px py pos : Pos} (hN : X.N.Nodup) (hi : X.N[i]? = some x) (hj : X.N[j]? = some y) (hx : Loc X.env.scope x) (hy : Loc X.env.scope y) (he : DE X W WD e te) (ha : (assignEach [.Name x px, .Name y py] X.env).map (·.2) = [assign (.Name x px) X.env, assign (.Name y py) X.env] := by rfl)
    (hw : swappedStores [.Name x px, .Name y py] e X.env = pure none := by rfl) (hfx : X.fn x = true ∨ X.env.scope.names.lookup x = some .local := by first | exact .inl rfl | exact .inr rfl | assumption) (hfy : X.fn y = true ∨ X.env.scope.names.lookup y = some .local := by first | exact .inl rfl | exact .inr rfl | assumption) :
    DS X W WD (.Assign [.Name x px, .Name y py] e pos) (dSet2 i j te) := by
  refine PS.imp (ps_asg2 he (dg_name (W := W) (WD := WD) hN hi hx hfx) (dg_name (W := W) (WD := WD) hN hj hy hfy) ha hw) fun E σ H h => ?_
  obtain ⟨G, F, r, m, DD, sx, t, k⟩ := h
  refine ⟨G, F, r, m, _, sx, t, fun G1 H1 m1 d v e1 p1 q1 t1 => ?_⟩
  have sx1 := sx.step e1 p1
  refine ⟨G1, F, r, m1, d, fun r' m' => DD.nx (r'.set j (some d)) m', sx1, q1, t1, fun G2 H2 m2 r2 s2 e2 p2 q2 t2 => ?_⟩
  exact ⟨G2, F, r2, m2, d, _, sx1.to e2 p2 q2, q1.mono e2, t2, k.nx.mono (e1.trans e2)⟩
end
end DL

set_option Elab.async false
set_option linter.all false
set_option maxRecDepth 100000
set_option maxHeartbeats 4000000
namespace DL
open PySem PySem.Spec PyProof.Rows L2 LamX
section
variable {P : Program} {w : World} {K : Fr0} {mg : Str → Option Value} {base : Heap} {x qual : Str} {params : Arguments} {body : List Stmt} {scope : Scope} {dvs : List V} {kws : List (Str × V)} {f : Addr} {fd : FuncData}
theorem fn_d0L {N ps : List Str} {k : Nat} {sp : DSp} {c Pt : Addr} (F : FunD K x qual params body scope dvs kws f fd) (hc : tabAt K f qual = some (c, Pt)) (S : FnScope N ps scope) (len : ∀ ds m Q E, sp ds m Q E → ds.length = ps.length) (t : DWX → DTS)
    (hb : ∀ (A : Around) (outer : List Env) (s : Shared) (H : Hp) (E : XK), Room k (A.deeper (envOfC qual scope s.heap.objs.size f (.ref c))) → Takes (CXn P w K mg base N qual scope f (.ref c) A outer s H E) W0 →
      PassesOwn (model P w) (CXn P w K mg base N qual scope f (.ref c) A outer s H E).A (CXn P w K mg base N qual scope f (.ref c) A outer s H E).env (CXn P w K mg base N qual scope f (.ref c) A outer s H E).xe → DSs (CXn P w K mg base N qual scope f (.ref c) A outer s H E) W0 WD0 body (t WD0))
    (pure_ : ∀ ds m Q E, sp ds m Q E → t WD0 { nx := fun _ m => Q .non m, rt := Q } (startD N ds) m) : FnOk P w K mg base CX0 (k + 1) f fd ps (liftSp K sp) := by
  obtain ⟨c1, c2, c3, c4, c5, c6, c7, cdv, c9, c10, rfl, look, hq, _, _⟩ := F.ex
  have hcv := tab_code look hc
  subst hcv
  refine fn_of look hq S (fun vs H Q E h => ?_) fun A outer s H vs Q E hr h => ?_
  · obtain ⟨G, F, m, ds, QD, ED, rep, rs, hs, _⟩ := h
    rw [← rs.length]
    exact len ds m QD ED hs
  · obtain ⟨G, F, m, ds, QD, ED, rep, rs, hs, kv, kx⟩ := h
    refine ⟨_, PSs.nox (hb A outer s H E hr L2.takes0 PassesOwn.never), ?_⟩
    refine ⟨G, F, startD N ds, m, _, ⟨rep, rs_start rs, Lx.no⟩, pure_ ds m QD ED hs, ⟨fun G' H' m' r' s' e r rs' q => kv G' H' m' _ _ e r .non q, kv, ?_, ?_⟩⟩
    · exact fun _ _ _ _ _ _ _ _ q => q.elim
    · exact fun _ _ _ _ _ _ _ _ q => q.elim
end
end DL

set_option Elab.async false
set_option linter.all false
set_option maxRecDepth 100000
set_option maxHeartbeats 4000000
namespace DL
open PySem PySem.Spec PySem.W PyProof.Rows L2
end DL

set_option Elab.async false
set_option linter.all false
set_option maxRecDepth 100000
set_option maxHeartbeats 4000000
namespace DL
open PySem PySem.Spec PyProof.Rows L2 LamX
def hdel (H : Hp) (a : Addr) : Hp := fun b => if b = a then none else H b
theorem hdel_same {H : Hp} {a : Addr} : hdel H a a = none := if_pos rfl
theorem hdel_ne {H : Hp} {a b : Addr} (h : b ≠ a) : hdel H a b = H b := if_neg h
abbrev fnH (ob : Obj) : HO := .frz ob (.ext fun _ => True)
theorem Rep.hideFn {K : PySem.W.Frag} {G H F : Hp} {m : M} {a : Addr} {ob : Obj} (r : Rep K G H F m) (h : m a = some (.fn ob)) : H a = some (fnH ob) ∧ G a = none ∧ F a = none ∧ Rep K G (hdel H a) F (mdel m a) := by
  obtain ⟨g, f, u, h1, h2⟩ := r.mo a _ h
  have e := h2.ofFn
  subst e
  refine ⟨h1, g, f, fun b o e => ?_, fun b o e => ?_, r.dis, fun b o e => ?_, ?_, r.gt, r.ft⟩
  · rw [hdel_ne (fun z => by rw [z, g] at e; cases e)]; exact r.ext b o e
  · rw [hdel_ne (fun z => by rw [z, f] at e; cases e)]; exact r.frm b o e
  · by_cases hb : b = a
    · subst hb; rw [mdel_same] at e; cases e
    · rw [mdel_ne hb] at e
      obtain ⟨h3, h4, u, h5, h6⟩ := r.mo b o e
      exact ⟨h3, h4, u, by rw [hdel_ne hb]; exact h5, h6⟩
  · refine Tabs.stay r.tb fun b o e ho => ?_
    rw [hdel_ne (fun z => ?_)]
    · exact e
    · rw [z, h1] at e
      cases e
      exact ho ⟨fun _ e => (by cases e), fun _ e => (by cases e)⟩
theorem Rep.showFn {K : PySem.W.Frag} {G H F : Hp} {m : M} {a : Addr} {ob : Obj} (r : Rep K G H F m) (h : H a = none) : Rep K G (upd H a (fnH ob)) F (mset m a (.fn ob)) := r.newm h ⟨rfl, rfl⟩
section
variable {P : Program} {w : World} {H H2 : Hp} {h h' : Heap} {a : Addr} {ob : Obj} {fs : List Addr}
theorem hok_hide (ok : HOk P w H h) (e : H a = some (fnH ob)) : HOk P w (hdel H a) h := by
  intro b o q
  have hb : b ≠ a := fun z => by rw [z, hdel_same] at q; cases q
  rw [hdel_ne hb] at q
  refine (ok b o q).stay (fun _ _ _ q => q) (fun c q => ?_) fun c xs q => ?_
  · rw [hdel_ne (fun z => by rw [z, e] at q; cases q)]; exact q
  · rw [hdel_ne (fun z => by rw [z, e] at q; cases q)]; exact q
theorem hok_show (ok : HOk P w H h) (n : H a = none) (e : h.get? a = some ob) : HOk P w (upd H a (fnH ob)) h := by
  intro b o q
  by_cases hb : b = a
  · subst hb
    rw [upd_same] at q
    cases q
    exact ⟨e, trivial, ⟨ob, e⟩, fun _ _ _ _ => trivial⟩
  · rw [upd_ne hb] at q
    refine (ok b o q).stay (fun _ _ _ q => q) (fun c q => ?_) fun c xs q => ?_
    · rw [upd_ne (ne_of_none q n)]; exact q
    · rw [upd_ne (ne_of_none q n)]; exact q
theorem un_show (u : Un fs [] (hdel H a) H2 h h') (e : H a = some (fnH ob)) : Un fs [] H (upd H2 a (fnH ob)) h h' := by
  have hd : ∀ b, H b = none → hdel H a b = none := fun b n => by rw [hdel_ne (fun z => by rw [z, e] at n; cases n)]; exact n
  refine ⟨fun b o q n => u.keep b o q (hd b n), fun b o q n => u.slot b o q (hd b n), fun b o q n x => ?_, u.there, fun b xs q => ?_, fun b o v q => ?_, fun b ps q => ?_⟩
  · rw [upd_ne (fun z => by rw [z, e] at n; cases n)]; exact u.free b o q (hd b n) x
  · have hb : b ≠ a := fun z => by rw [z, e] at q; cases q
    rw [upd_ne hb]; exact u.tups b xs (by rw [hdel_ne hb]; exact q)
  · by_cases hb : b = a
    · subst hb; rw [upd_same, ← q, e]
    · rw [upd_ne hb]; exact u.frzs b o v (by rw [hdel_ne hb]; exact q)
  · have hb : b ≠ a := fun z => by rw [z, e] at q; cases q
    rw [upd_ne hb]; exact u.tbls b ps (by rw [hdel_ne hb]; exact q)
end
section
variable {X : Cx} {pins : List (Addr × Obj)} {σ : L2.St} {H : Hp} {s : Shared}
theorem base_ext2 {F : CF} {fr : List Str} {js : List Nat} {a : Addr} {vs : List V} {doc pm ctv : Value} {od : Option Addr} {sl : Array (Option Value)} (I : Inv X pins σ H s) (TB : TabBs X.K X.mg X.base) (ha : H a = some (fnH (F.ob doc pm ctv od sl))) (cp : NdefX.Caps X F.cl fr js) (hfn : ∀ y c, F.cl.lookup y = some c → X.fn y = true) (hvs : js.map (NdefX.slotAt σ) = vs.map some) :
    ∃ base' : Heap, TabBs X.K X.mg base' ∧ CloB base' F fr a vs ∧ Env0 X.prog X.w X.K X.mg base' X.A X.stack s (hdel H a) := by
  have C := NdefX.cells_of I cp
  rw [hvs] at C
  have ho : s.heap.get? a = some (F.ob doc pm ctv od sl) := (I.hok a _ ha).1
  have hd : ∀ b, H b = none → hdel H a b = none := fun b n => by rw [hdel_ne (fun z => by rw [z, ha] at n; cases n)]; exact n
  obtain ⟨B, hsz, hto, hof⟩ := restrict s.heap fun b => (X.base.get? b).isSome ∨ b = a ∨ ∃ y, F.cl.lookup y = some b
  have kp : ∀ b o, X.base.get? b = some o → B.get? b = some o := fun b o e => hto b o (I.bk b o e) (.inl (by rw [e]; rfl))
  have hcell : ∀ y c, F.cl.lookup y = some c → ∃ v, B.IsCell c v := fun y c e => by
    obtain ⟨_, v, o, h1, h2⟩ := C.all y c e
    exact ⟨v, o, hto c o h1 (.inr (.inr ⟨y, e⟩)), h2⟩
  have notf : ∀ b, (b = a ∨ ∃ y, F.cl.lookup y = some b) → b ∉ frs X.stack := by
    rintro b (rfl | ⟨y, e⟩) z
    · have := I.stkFree b z
      rw [ha] at this
      cases this
    · have hc := cp.sub y b e
      have ab := I.ok.cab y b (hfn y b e) hc
      rcases List.mem_cons.mp (I.stkSub b z) with e2 | e2
      · obtain ⟨v, o, h1, h2⟩ := I.cell y b hc
        obtain ⟨m, ⟨ob, es, ep, h3, h4⟩, _⟩ := I.loc
        rw [← e2, h1] at h3
        cases h3
        exact absurd h2 (by rw [h4.1]; exact fun z => nomatch z)
      · obtain ⟨o, h1, _⟩ := (I.ok.funs.mem e2).2
        exact Nat.lt_irrefl _ (Nat.lt_of_lt_of_le (Heap.lt_size h1) ab)
  refine ⟨B, TB.keeps' kp, ⟨⟨doc, pm, ctv, od, sl, hto a _ ho (.inr (.inl rfl))⟩, C.inj, hcell, by have := C.len; rwa [List.length_map] at this, fun i y e => ?_⟩, ⟨I.ok.frames, Mod.keeps' I.ok.mod kp, fun b o e => ?_, by rw [hsz]; exact Nat.le_refl _, funFrames_none I.stack fun L hL => ?_, fun b hb => hd b (I.stkFree b hb), hok_hide I.hok ha, I.bare⟩⟩
  · obtain ⟨c, hc, hv⟩ := C.has i y e
    refine ⟨c, hc, fun v ev => ?_⟩
    obtain ⟨u, r, o, h1, h2⟩ := hv v (by rw [List.getElem?_map, ev]; rfl)
    exact ⟨u, r, o, hto c o h1 (.inr (.inr ⟨y, hc⟩)), h2⟩
  · obtain ⟨h1, h2⟩ := hof b o e
    refine ⟨h1, ?_⟩
    rcases h2 with h2 | rfl | ⟨y, h2⟩
    · obtain ⟨o', e'⟩ := Option.isSome_iff_exists.mp h2
      exact hd b (I.bs b o' e').2
    · exact hdel_same
    · exact hd b (C.all y b h2).1
  · cases q : B.get? L with
    | none => rfl
    | some o =>
      obtain ⟨_, h2⟩ := hof L o q
      rcases h2 with h2 | h2
      · obtain ⟨o', e'⟩ := Option.isSome_iff_exists.mp h2
        rw [(Heap.FunFrames.mem I.stack hL).1] at e'
        cases e'
      · exact absurd hL (notf L h2)
theorem run_hid {base' : Heap} {k : Nat} {f : Addr} {fd : FuncData} {ps : List Str} {sp : DSp} {W : WX} {WD : DWX} {F G : Hp} {r : DSt} {m : M} {QD : D → M → Prop} {Q : VK} {a : Addr} {ob : Obj} {ds : List D} {vs : List V} {us us' : List Value} {kw : List (Str × Value)}
    (FO : FnOk X.prog X.w X.K X.mg base' (L2.CX X.prog X.w) k f fd ps (liftSp X.K sp)) (hr : Room k X.A) (tk : Takes X W) (I : Inv X pins σ H s) (E0 : Env0 X.prog X.w X.K X.mg base' X.A X.stack s (hdel H a)) (sx : Sx X.K W WD G H F r σ m) (hm : m a = some (.fn ob))
    (hb : BindsTo s fd ⟨us, kw⟩ (ps.zip us')) (rv : Vals vs us') (rs : Rps X.K G ds vs) (kv : Kv X.K G F QD Q) (h : sp ds (mdel m a) (fun d m3 => m3 a = none → QD d (mset m3 a (.fn ob))) fun x m3 => m3 a = none → WD x r (mset m3 a (.fn ob))) :
    wpAny (model X.prog X.w) X.A (call (.ref f) us kw) (EP X pins σ Q) X.xe s := by
  obtain ⟨hH, hG, hF, rep'⟩ := sx.rep.hideFn hm
  have obj : s.heap.get? a = some ob := (I.hok a _ hH).1
  have naf : a ∉ frs X.stack := fun z => by
    have := I.stkFree a z
    rw [hH] at this
    cases this
  have hsp : liftSp X.K sp vs (hdel H a) (fun v H2 => H2 a = none → Q v (upd H2 a (fnH ob))) (fun cls d H2 => H2 a = none → WE W σ cls d (upd H2 a (fnH ob))) := by
    refine ⟨G, F, mdel m a, ds, _, _, rep', rs, h, fun G' H' m' d v e r1 p1 q n => ?_, fun G' H' m' C fs d e r1 rx wd n => ?_⟩
    · have ma : m' a = none := by
        cases q2 : m' a with
        | none => rfl
        | some o => obtain ⟨_, _, u, h3, _⟩ := r1.mo a o q2; rw [n] at h3; cases h3
      exact kv G' _ _ d v e (r1.showFn n) p1 (q ma)
    · have ma : m' a = none := by
        cases q2 : m' a with
        | none => rfl
        | some o => obtain ⟨_, _, u, h3, _⟩ := r1.mo a o q2; rw [n] at h3; cases h3
      exact sx.lx G' _ _ r σ C fs d e (r1.showFn n) (sx.rs.mono e) rx (wd ma)
  refine wpAny_call (codeAny_mono (FO.run X.A X.stack s (hdel H a) ⟨us, kw⟩ us' vs _ _ hr E0 hb rv hsp) fun res s' hq => ?_)
  cases res with
  | error e =>
    obtain ⟨x, B, H2, cls, d, rfl, fl, hok, ub, na, os, ag, hE⟩ := hq
    have n2 : H2 a = none := ub.free a ob obj hdel_same
    have oB : B.get? a = some ob := ub.keep a ob obj hdel_same naf
    have xa : x ≠ a := fun z => by
      have := fl.2.1
      rw [z, oB] at this
      cases this
    have hd : ∀ b, H b = none → hdel H a b = none := fun b n => by rw [hdel_ne (fun z => by rw [z, hH] at n; cases n)]; exact n
    refine passAt tk σ pins H s (.ref x) s' I ⟨x, B, upd H2 a (fnH ob), cls, d, rfl, fl, hok_show hok n2 oB, ⟨fun b o q n => ub.keep b o q (hd b n), ub.slot, fun b o q n => ?_, ub.there, fun b xs q => ?_, fun b o v q => ?_, fun b ps q => ?_⟩, by rw [upd_ne xa]; exact na, os, ag, hE n2⟩
    · rw [upd_ne (fun z => by rw [z, hH] at n; cases n)]; exact ub.free b o q (hd b n)
    · have hb : b ≠ a := fun z => by rw [z, hH] at q; cases q
      rw [upd_ne hb]; exact ub.tups b xs (by rw [hdel_ne hb]; exact q)
    · by_cases hb : b = a
      · subst hb; rw [upd_same, ← q, hH]
      · rw [upd_ne hb]; exact ub.frzs b o v (by rw [hdel_ne hb]; exact q)
    · have hb : b ≠ a := fun z => by rw [z, hH] at q; cases q
      rw [upd_ne hb]; exact ub.tbls b ps (by rw [hdel_ne hb]; exact q)
  | ok fl =>
    cases fl with
    | ret u =>
      obtain ⟨v, H2, os, bare, un, hok, rv2, q⟩ := hq
      have n2 : H2 a = none := un.free a ob obj hdel_same (by simp)
      have ob2 : s'.heap.get? a = some ob := un.keep a ob obj hdel_same naf (by simp)
      exact I.after ⟨v, upd H2 a (fnH ob), os, bare, un_show un hH, hok_show hok n2 ob2, rv2, q n2⟩
    | next => exact False.elim hq
    | brk => exact False.elim hq
    | cont => exact False.elim hq
end
end DL

set_option Elab.async false
set_option linter.all false
set_option maxRecDepth 100000
set_option maxHeartbeats 4000000
namespace DL
open PySem PySem.Spec PyProof.Rows L2 LamX
def dNdef (i : Nat) (q : Str) (t : Addr → Addr → Obj → DTS) : DTS := fun DD r m => ∀ (fa fc : Addr) (ob : Obj), m fa = none → t fa fc ob DD (r.set i (some (.clo fa fc q [] []))) (mset m fa (.fn ob))
section
variable {X : Cx} {pins : List (Addr × Obj)} {σ : L2.St} {H : Hp} {s : Shared}
theorem fn_mem {K : PySem.W.Frag} {G F : Hp} {m : M} {f : Addr} {Fn : NdefX.NF} {ob : Obj} (I : Inv X pins σ H s) (r : Rep K G H F m) (e : H f = some (NdefX.FnO f Fn)) (hob : s.heap.get? f = some ob) (hfun : ∃ fd, ob.data = .func fd) (hG : G f = none) (hF : F f = none) (hm : m f = none) :
    Inv X pins σ (upd H f (fnH ob)) s ∧ Rep K G (upd H f (fnH ob)) F (mset m f (.fn ob)) := by
  have ntup : ∀ c xs, H c = some (.tup xs) → c ≠ f := fun c xs q z => by rw [z, e] at q; unfold NdefX.FnO at q; cases q
  have nown : ∀ c x, H c = some (.own x) → c ≠ f := fun c xs q z => by rw [z, e] at q; unfold NdefX.FnO at q; cases q
  refine ⟨I.call' (ch := []) rfl ?_ ?_ I.bare (fun b hb => nomatch hb), fun b o q => ?_, fun b o q => ?_, r.dis, fun b o q => ?_, ?_, r.gt, r.ft⟩
  · refine ⟨fun b o q _ _ _ => q, fun b o q _ _ _ => ⟨o.slots, q⟩, fun b o q n _ => ?_, fun b o q _ => ⟨o, q⟩, fun b xs q => ?_, fun b o v q => ?_, fun b ps q => ⟨#[], ?_⟩⟩
    · rw [upd_ne (fun z => by rw [z, e] at n; cases n)]; exact n
    · rw [upd_ne (ntup b xs q)]; exact q
    · rw [upd_ne (fun z => by rw [z, e] at q; unfold NdefX.FnO at q; cases q)]; exact q
    · rw [upd_ne (fun z => by rw [z, e] at q; unfold NdefX.FnO at q; cases q), q]; simp
  · intro b o q
    by_cases hb : b = f
    · subst hb
      rw [upd_same] at q
      cases q
      exact ⟨hob, trivial, ⟨ob, hob⟩, fun _ _ _ _ => trivial⟩
    · rw [upd_ne hb] at q
      refine (I.hok b o q).stay (fun _ _ _ q => q) (fun c q => ?_) fun c xs q => ?_
      · rw [upd_ne (nown c _ q)]; exact q
      · rw [upd_ne (ntup c xs q)]; exact q
  · rw [upd_ne (fun z => by rw [z, hG] at q; cases q)]; exact r.ext b o q
  · rw [upd_ne (fun z => by rw [z, hF] at q; cases q)]; exact r.frm b o q
  · by_cases hb : b = f
    · subst hb
      rw [mset_same] at q
      cases q
      exact ⟨hG, hF, _, upd_same, rfl, rfl⟩
    · rw [mset_ne hb] at q
      obtain ⟨h1, h2, u, h3, h4⟩ := r.mo b o q
      exact ⟨h1, h2, u, by rw [upd_ne hb]; exact h3, h4⟩
  · intro z hz
    obtain ⟨ps, h1, h2, h3⟩ := r.tb z hz
    have n1 : z.1 ≠ f := fun q => by rw [q, e] at h1; unfold NdefX.FnO at h1; cases h1
    refine ⟨ps, by rw [upd_ne n1]; exact h1, h2, fun pos cv hc => ?_⟩
    obtain ⟨c, e1, e2⟩ := h3 pos cv hc
    have n2 : c ≠ f := fun q => by
      obtain ⟨⟨oc, vs, t, g1, g2, g3⟩, _, _⟩ := I.hok c _ e2
      rw [q, hob] at g1
      cases g1
      obtain ⟨fd, g4⟩ := hfun
      rw [g4] at g2
      cases g2
    exact ⟨c, e1, by rw [upd_ne n2]; exact e2⟩
end
section
variable {X : Cx} {W : WX} {WD : DWX}
theorem dss_ndef {c Pt : Addr} {name : Str} {params : Arguments} {body : List Stmt} {scope : Scope} {pos : Pos} {i : Nat} {fr : List Str} {rest : List Stmt} {t : Addr → Addr → Obj → DTS} (TB : TabBs X.K X.mg X.base) (hx3 : (c, Pt, X.env.qual ++ name) ∈ tbls3 X.K) (hcode : X.env.code = .ref c)
    (hn : NdefX.ndefB X.env.scope scope fr = true) (hd0 : params.defaults = []) (hk0 : params.kw_defaults = []) (ha : annTrees params none X.env = [])
    (hN : X.N.Nodup) (hi : X.N[i]? = some name) (hx : Loc X.env.scope name) (hf : X.fn name = true ∨ X.env.scope.names.lookup name = some .local)
    (hrest : ∀ (fa fc : Addr) (ob : Obj), (∃ doc pm ctv od sl, ob = CF.ob ⟨name, X.env.qual ++ name, params, .stmts body, scope, cloFrom X.env.cells scope.names [], fc⟩ doc pm ctv od sl) → DSs X W WD rest (t fa fc ob)) :
    DSs X W WD (.FunctionDef name params body [] none [] scope none name pos :: rest) (dNdef i (X.env.qual ++ name) t) := by
  have hfree := NdefX.ndef_free hn
  refine ⟨fun pins s σ H D I h => ?_⟩
  obtain ⟨G, F, r, m, DD, sx, ht, kk⟩ := h
  have hq : qualnameIn X.env name name = X.env.qual ++ name := by
    have hk : X.env.kindOf name = some .local ∨ X.env.kindOf name = some .cell := hx
    unfold qualnameIn
    rcases hk with k | k <;> rw [k] <;> first | rfl | exact if_neg (by decide)
  have first : wpAny (model X.prog X.w) X.A (exec (.FunctionDef name params body [] none [] scope none name pos) X.env)
      (SP X pins { D with nx := fun σ' H' => ∃ (fa fc : Addr) (ob : Obj), (∃ doc pm ctv od sl, ob = CF.ob ⟨name, X.env.qual ++ name, params, .stmts body, scope, cloFrom X.env.cells scope.names [], fc⟩ doc pm ctv od sl) ∧ upS X.K W WD (t fa fc ob) D σ' H' }) X.xe s := by
    refine PySem.W.nestDef_K hd0 hk0 ha ?_
    rw [hq]
    have hfr : ∀ y ∈ scope.names, y.2 = .free → ∃ c, X.env.cells.lookup y.1 = some c := fun y hy e => (hfree y hy e).elim (fun z => I.ok.has _ (.inl z)) fun z => I.ok.has _ (.inr z)
    have hmT : (Pt, fun _ _ => X.env.qual ++ name) ∈ (tblsOf X.K).map (fun z => ((z.1, fun _ _ => z.2) : NdefX.NTab)) := List.mem_map.mpr ⟨(Pt, X.env.qual ++ name), List.mem_map.mpr ⟨_, hx3, rfl⟩, rfl⟩
    refine NdefX.ndef_make (T := (tblsOf X.K).map fun z => ((z.1, fun _ _ => z.2) : NdefX.NTab)) I (TB.tb _ hx3) hcode hmT rfl (fun z hz e => ?_) (fun z hz => ?_) hfr fun f c' H1 s' I1 eN nn T1 f0 f1 c1 => ?_
    · obtain ⟨y, hy, rfl⟩ := List.mem_map.mp hz
      obtain ⟨w, hw, rfl⟩ := List.mem_map.mp hy
      have := TB.one w hw _ hx3 e
      show (fun _ _ => w.2.2) = _
      rw [this]
    · obtain ⟨y, hy, rfl⟩ := List.mem_map.mp hz
      exact NdefX.TabN.of (sx.rep.tb y hy)
    · have T2 : Tabs (tblsOf X.K) H1 := fun y hy => NdefX.TabN.to (T1 (y.1, fun _ _ => y.2) (List.mem_map.mpr ⟨y, hy, rfl⟩))
      have rep1 := sx.rep.made eN T2
      obtain ⟨od, sl, doc, pm, ctv, hob⟩ := NdefX.fnO_at I1.hok f1
      have hG0 : G f = none := by
        cases q : G f with
        | none => rfl
        | some o => have := sx.rep.ext f o q; rw [f0] at this; cases this
      have hF0 : F f = none := by
        cases q : F f with
        | none => rfl
        | some o => have := sx.rep.frm f o q; rw [f0] at this; cases this
      have hm0 : m f = none := by
        cases q : m f with
        | none => rfl
        | some o => obtain ⟨_, _, u, h3, _⟩ := sx.rep.mo f o q; rw [f0] at h3; cases h3
      obtain ⟨I2, rep2⟩ := fn_mem I1 rep1 f1 hob ⟨_, rfl⟩ hG0 hF0 hm0
      have nfc : c' ≠ f := fun q => by
        obtain ⟨⟨oc, vs, tt, g1, g2, g3⟩, _, _⟩ := I1.hok c' _ c1
        rw [q, hob] at g1
        cases g1
        cases g2
      obtain ⟨G1, e1, rep3, hc2⟩ := rep2.knowC (c := c') (q := X.env.qual ++ name) (by rw [upd_ne nfc]; exact c1)
      refine store_ok I2 hN hi hx (v := .ref f) rfl (fun s'' J => ?_) hf
      refine ⟨_, _, J, f, c', _, ⟨doc, pm, ctv, od, sl, rfl⟩, G1, F, r.set i (some (.clo f c' (X.env.qual ++ name) [] [])), mset m f (.fn _), DD, ⟨rep3, (sx.rs.mono e1).set (.clo hc2 .nil), fun G' H' m' r' s' C fs d e r1 rs1 rx wd => sx.lx G' H' m' r' s' C fs d (e1.trans e) r1 rs1 rx wd⟩, ht f c' _ hm0, kk.mono e1⟩
  refine wpAny_execs_cons (thn first fun fl s1 q => ?_)
  cases fl with
  | next =>
    obtain ⟨σ', H', I', fa, fc, ob, hob, q⟩ := q
    exact (hrest fa fc ob hob).run pins s1 σ' H' D I' q
  | ret v => exact q
  | brk => exact q
  | cont => exact q
end
end DL

set_option Elab.async false
set_option linter.all false
set_option maxRecDepth 100000
set_option maxHeartbeats 4000000
namespace DL
open PySem PySem.Spec PyProof.Rows L2 LamX
theorem rps_snoc_inv {K : PySem.W.Frag} {G : Hp} {d : D} : ∀ {a : List D} {vs : List V}, Rps K G (a ++ [d]) vs → ∃ va v, vs = va ++ [v] ∧ Rps K G a va ∧ Rp K G d v
  | [], _, h => by
    cases h with | cons p q => cases q; exact ⟨[], _, rfl, .nil, p⟩
  | x :: a, _, h => by
    cases h with | cons p q =>
    obtain ⟨va, v, rfl, h1, h2⟩ := rps_snoc_inv q
    exact ⟨_ :: va, v, rfl, .cons p h1, h2⟩
def dHid (js : List Nat) (fa fc : Addr) (q : Str) (ob : Obj) (sp : List V → DSp) (WD : DWX) (ds zs : List D) (r : DSt) (m : M) (Q : D → M → Prop) : Prop :=
  m fa = some (.fn ob) ∧ ∃ (pre env : List D), ds = pre ++ [.clo fa fc q [] []] ∧ js.map (slot r) = env.map some ∧
    ∀ vs : List V, sp vs (pre ++ .clo fa fc q env vs :: zs) (mdel m fa) (fun d m3 => m3 fa = none → Q d (mset m3 fa (.fn ob))) fun x m3 => m3 fa = none → WD x r (mset m3 fa (.fn ob))
def dCallDef (js : List Nat) (fa fc : Addr) (q : Str) (ob : Obj) (n j : Nat) (sp : List V → DSp) (WD : DWX) (t tk : DTA) : DTE := fun r m Q => t r m fun ds m1 => tk r m1 fun zs m2 => ds.length = n + 1 ∧ zs.length = j ∧ dHid js fa fc q ob sp WD ds zs r m2 Q
def dCallDef0 (js : List Nat) (fa fc : Addr) (q : Str) (ob : Obj) (sp : List V → DSp) (WD : DWX) (dds : List D) (t : DTA) : DTE := fun r m Q => t r m fun ds m1 => dHid js fa fc q ob sp WD ds dds r m1 Q
section
variable {X : Cx} {W : WX} {WD : DWX} {pins : List (Addr × Obj)} {σ : L2.St} {s : Shared}
theorem hid_run {F : CF} {fr ps : List Str} {js : List Nat} {fa f : Addr} {ob : Obj} {sp : List V → DSp} {k : Nat} {FF G H : Hp} {r : DSt} {m : M} {QD : D → M → Prop} {Q : VK} {ds zs : List D} {vs zv : List V} {us : List Value} {kw : List (Str × Value)} {scope : Scope} {fdP : FuncData → Prop}
    (hob : ∃ doc pm ctv od sl, ob = F.ob doc pm ctv od sl) (hcl : F.cl = cloFrom X.env.cells scope.names []) (hn : NdefX.ndefB X.env.scope scope fr = true) (hjs : js.map (fun j => X.N[j]?) = fr.map some) (hfn : ∀ y, X.fn y = true) (TB : TabBs X.K X.mg X.base)
    (hG : ∀ (base' : Heap) (vs : List V), TabBs X.K X.mg base' → CloB base' F fr fa vs → ∃ fd, FnOk X.prog X.w X.K X.mg base' (L2.CX X.prog X.w) k f fd ps (liftSp X.K (sp vs)) ∧ fdP fd) (hr : Room k X.A) (tk : Takes X W) (I : Inv X pins σ H s) (sx : Sx X.K W WD G H FF r σ m) (kv : Kv X.K G FF QD Q)
    (rs : Rps X.K G ds vs) (rz : Rps X.K G zs zv) (h : dHid js fa F.c F.qual ob sp WD ds zs r m QD) (hb : ∀ fd, fdP fd → ∃ us', Vals (vs ++ zv) us' ∧ BindsTo s fd ⟨us, kw⟩ (ps.zip us')) : wpAny (model X.prog X.w) X.A (call (.ref f) us kw) (EP X pins σ Q) X.xe s := by
  obtain ⟨hm, pre, env, rfl, hse, hsp⟩ := h
  obtain ⟨doc, pm, ctv, od, sl, rfl⟩ := hob
  obtain ⟨evs, pe, hev⟩ := slots_at sx.rs js env hse
  obtain ⟨hH, _, _, _⟩ := sx.rep.hideFn hm
  have cp : NdefX.Caps X F.cl fr js := by rw [hcl]; exact NdefX.Caps.made I.ok (NdefX.ndef_free hn) (NdefX.ndef_fr hn) hjs
  obtain ⟨base', TB', C', E0'⟩ := base_ext2 I TB hH cp (fun y _ _ => hfn y) hev
  obtain ⟨fd, FO, hfd⟩ := hG base' evs TB' C'
  obtain ⟨va, v, rfl, rp, rc⟩ := rps_snoc_inv rs
  cases rc with
  | clo hc _ =>
  obtain ⟨us', rv, hbb⟩ := hb fd hfd
  refine run_hid FO hr tk I E0' sx hm hbb rv ?_ kv (hsp evs)
  rw [List.append_assoc]
  exact rp.append (.cons (.clo hc pe) rz)
theorem de_callDef {F : CF} {k n j : Nat} {f fa : Addr} {ob : Obj} {ps fr ks : List Str} {js : List Nat} {sp : List V → DSp} {x : Str} {p pos : Pos} {e : Expr} {es : List Expr} {kws : List Keyword} {t tk : DTA}
    (hob : ∃ doc pm ctv od sl, ob = F.ob doc pm ctv od sl) (hcl : F.cl = cloFrom X.env.cells F.scope.names [])
    (hG : ∀ (base' : Heap) (vs : List V), TabBs X.K X.mg base' → CloB base' F fr fa vs → ∃ fd, FnOk X.prog X.w X.K X.mg base' (L2.CX X.prog X.w) k f fd ps (liftSp X.K (sp vs)) ∧ KBn X.K fd ps (n + 1) ks (fun us ws => us ++ ws) (fun vs zs => vs ++ zs))
    (hr : Room k X.A) (hg : Gl X x) (hm : X.mg x = some (.ref f)) (hk : PySem.W.keepIn X.K (.ref f) = true) (tk' : Takes X W) (TB : TabBs X.K X.mg X.base)
    (hn : NdefX.ndefB X.env.scope F.scope fr = true) (hjs : js.map (fun j => X.N[j]?) = fr.map some) (hfn : ∀ y, X.fn y = true)
    (ha : DA X W WD (e :: es) t) (hkw : DK X W WD kws tk) (hall : (backToKw pos (keywordEach kws X.env)).all (·.1.isSome) = true := by rfl) (hks : (backToKw pos (keywordEach kws X.env)).filterMap (·.1) = ks := by rfl)
    (hdb : (x == ("__debug__" : Str)) = false := by decide) (he : starEach (e :: es) X.env = (false, eval e X.env) :: starEach es X.env := by rfl)
    (hpl : ((backTo pos (starEach (e :: es) X.env)).any (·.1) || (backToKw pos (keywordEach kws X.env)).any (·.1.isNone)) = false := by rfl) (hj : ks.length = j := by rfl) :
    DE X W WD (.Call (.Name x p) (e :: es) kws pos) (dCallDef js fa F.c F.qual ob n j sp WD t tk) := by
  subst hj
  refine ⟨fun pins s σ H Q I h => ?_⟩
  obtain ⟨G, FF, r, m, QD, sx, ht, kv⟩ := h
  refine wpAny_Call_Name_kw (ld_glob I hg hm ?_ hdb)
  refine PySem.W.callWith_KW (h₀ := X.base) I.ok.mod.kin hk hall (thn (ha.run pos pins s σ H (fun vs H1 => ∃ (G1 : Hp) (m1 : M) (ds : List D), Same G G1 ∧ Rep X.K G1 H1 FF m1 ∧ Rps X.K G1 ds vs ∧ tk r m1 fun zs m2 => ds.length = n + 1 ∧ zs.length = ks.length ∧ dHid js fa F.c F.qual ob sp WD ds zs r m2 QD) I
    ⟨G, FF, r, m, _, sx, ht, fun G1 H1 m1 ds vs e1 r1 p1 t1 => ⟨G1, m1, ds, e1, r1, p1, t1⟩⟩) fun us s1 ⟨vs, H1, I1, rv, G1, m1, ds, e1, rep1, p1, t1⟩ => ?_) hpl he
  have sx1 := sx.step e1 rep1
  refine thn (hkw.run pos pins s1 σ H1 (fun zv H2 => ∃ (G2 : Hp) (m2 : M) (zs : List D), Same G1 G2 ∧ Rep X.K G2 H2 FF m2 ∧ Rps X.K G2 zs zv ∧ ds.length = n + 1 ∧ zs.length = ks.length ∧ dHid js fa F.c F.qual ob sp WD ds zs r m2 QD) I1
    ⟨G1, FF, r, m1, _, sx1, t1, fun G2 H2 m2 zs zv e2 r2 p2 t2 => ⟨G2, m2, zs, e2, r2, p2, t2⟩⟩) fun ws s2 ⟨zv, H2, I2, rz, G2, m2, zs, e2, rep2, p2, l1, l2, hh⟩ => ⟨I2.kIn, ?_⟩
  rw [hks]
  have lus : us.length = n + 1 := by rw [← rv.length, ← p1.length]; exact l1
  have lws : ws.length = ks.length := by rw [← rz.length, ← p2.length]; exact l2
  exact hid_run (fdP := fun fd => KBn X.K fd ps (n + 1) ks (fun us ws => us ++ ws) (fun vs zs => vs ++ zs)) hob hcl hn hjs hfn TB hG hr tk' I2 (sx1.step e2 rep2) (kv.mono (e1.trans e2)) (p1.mono e2) p2 hh fun fd hb => ⟨us ++ ws, rv.append rz, hb.to s2 us ws I2.kIn lus lws⟩
theorem de_callDef0 {F : CF} {k : Nat} {f fa : Addr} {ob : Obj} {ps fr : List Str} {js : List Nat} {sp : List V → DSp} {x : Str} {p pos : Pos} {e : Expr} {es : List Expr} {t : DTA} {dvs : List V} {dds : List D}
    (hob : ∃ doc pm ctv od sl, ob = F.ob doc pm ctv od sl) (hcl : F.cl = cloFrom X.env.cells F.scope.names []) (hdd : ∀ G, Rps X.K G dds dvs)
    (hG : ∀ (base' : Heap) (vs : List V), TabBs X.K X.mg base' → CloB base' F fr fa vs → ∃ fd, FnOk X.prog X.w X.K X.mg base' (L2.CX X.prog X.w) k f fd ps (liftSp X.K (sp vs)) ∧ ∃ dsv, Vals dvs dsv ∧ Binds X.K fd ps dsv)
    (len : ∀ vs ds m Q E, sp vs ds m Q E → ds.length = ps.length)
    (hr : Room k X.A) (hg : Gl X x) (hm : X.mg x = some (.ref f)) (hk : PySem.W.keepIn X.K (.ref f) = true) (tk' : Takes X W) (TB : TabBs X.K X.mg X.base)
    (hn : NdefX.ndefB X.env.scope F.scope fr = true) (hjs : js.map (fun j => X.N[j]?) = fr.map some) (hfn : ∀ y, X.fn y = true)
    (ha : DA X W WD (e :: es) t) (hdb : (x == ("__debug__" : Str)) = false := by decide) (he : starEach (e :: es) X.env = (false, eval e X.env) :: starEach es X.env := by rfl) (hpl : (backTo pos (starEach es X.env)).any (·.1) = false := by rfl) :
    DE X W WD (.Call (.Name x p) (e :: es) [] pos) (dCallDef0 js fa F.c F.qual ob sp WD dds t) := by
  refine ⟨fun pins s σ H Q I h => ?_⟩
  obtain ⟨G, FF, r, m, QD, sx, ht, kv⟩ := h
  refine wpAny_Call_Name_kw (ld_glob I hg hm ?_ hdb)
  refine PySem.W.callWith_K (h₀ := X.base) I.ok.mod.kin hk (thn (ha.run pos pins s σ H (fun vs H1 => ∃ (G1 : Hp) (m1 : M) (ds : List D), Same G G1 ∧ Rep X.K G1 H1 FF m1 ∧ Rps X.K G1 ds vs ∧ dHid js fa F.c F.qual ob sp WD ds dds r m1 QD) I
    ⟨G, FF, r, m, _, sx, ht, fun G1 H1 m1 ds vs e1 r1 p1 t1 => ⟨G1, m1, ds, e1, r1, p1, t1⟩⟩) fun us s1 ⟨vs, H1, I1, rv, G1, m1, ds, e1, rep1, p1, hh⟩ => ⟨I1.kIn, ?_⟩) he hpl
  have lds : ds.length + dds.length = ps.length := by
    obtain ⟨_, pre, env, rfl, _, hsp⟩ := hh
    have := len _ _ _ _ _ (hsp [])
    rw [List.length_append, List.length_singleton]
    rw [List.length_append, List.length_cons] at this
    omega
  have hdv : dds.length = dvs.length := (hdd G1).length
  exact hid_run (kw := []) (fdP := fun fd => ∃ dsv, Vals dvs dsv ∧ Binds X.K fd ps dsv) hob hcl hn hjs hfn TB hG hr tk' I1 (sx.step e1 rep1) (kv.mono e1) p1 (hdd G1) hh fun fd ⟨dsv, h1, h2⟩ => ⟨us ++ dsv, rv.append h1, h2 s1 us I1.kIn (by
    rw [List.length_append, ← rv.length, ← p1.length, ← h1.length, ← hdv]
    exact lds)⟩
theorem de_callDefW {nm q : Str} {params : Arguments} {bd : FuncBody} {sc : Scope} {fc : Addr} {k n j : Nat} {f fa : Addr} {ob : Obj} {ps fr ks : List Str} {js : List Nat} {sp : List V → DSp} {x : Str} {p pos : Pos} {e : Expr} {es : List Expr} {kws : List Keyword} {t tk : DTA}
    (hob : ∃ doc pm ctv od sl, ob = CF.ob ⟨nm, q, params, bd, sc, cloFrom X.env.cells sc.names [], fc⟩ doc pm ctv od sl)
    (hG : ∀ (base' : Heap) (vs : List V), TabBs X.K X.mg base' → CloB base' ⟨nm, q, params, bd, sc, cloFrom X.env.cells sc.names [], fc⟩ fr fa vs → ∃ fd, FnOk X.prog X.w X.K X.mg base' (L2.CX X.prog X.w) k f fd ps (liftSp X.K (sp vs)) ∧ KBn X.K fd ps (n + 1) ks (fun us ws => us ++ ws) (fun vs zs => vs ++ zs))
    (hr : Room k X.A) (hg : Gl X x) (hm : X.mg x = some (.ref f)) (hk : PySem.W.keepIn X.K (.ref f) = true) (tk' : Takes X W) (TB : TabBs X.K X.mg X.base)
    (hn : NdefX.ndefB X.env.scope sc fr = true) (hjs : js.map (fun j => X.N[j]?) = fr.map some) (hfn : ∀ y, X.fn y = true)
    (ha : DA X W WD (e :: es) t) (hkw : DK X W WD kws tk) (hall : (backToKw pos (keywordEach kws X.env)).all (·.1.isSome) = true := by rfl) (hks : (backToKw pos (keywordEach kws X.env)).filterMap (·.1) = ks := by rfl)
    (hdb : (x == ("__debug__" : Str)) = false := by decide) (he : starEach (e :: es) X.env = (false, eval e X.env) :: starEach es X.env := by rfl)
    (hpl : ((backTo pos (starEach (e :: es) X.env)).any (·.1) || (backToKw pos (keywordEach kws X.env)).any (·.1.isNone)) = false := by rfl) (hj : ks.length = j := by rfl) :
    DE X W WD (.Call (.Name x p) (e :: es) kws pos) (dCallDef js fa fc q ob n j sp WD t tk) :=
  de_callDef (F := ⟨nm, q, params, bd, sc, cloFrom X.env.cells sc.names [], fc⟩) hob rfl hG hr hg hm hk tk' TB hn hjs hfn ha hkw hall hks hdb he hpl hj
theorem de_callDef0W {nm q : Str} {params : Arguments} {bd : FuncBody} {sc : Scope} {fc : Addr} {k : Nat} {f fa : Addr} {ob : Obj} {ps fr : List Str} {js : List Nat} {sp : List V → DSp} {x : Str} {p pos : Pos} {e : Expr} {es : List Expr} {t : DTA} {dvs : List V} {dds : List D}
    (hob : ∃ doc pm ctv od sl, ob = CF.ob ⟨nm, q, params, bd, sc, cloFrom X.env.cells sc.names [], fc⟩ doc pm ctv od sl) (hdd : ∀ G, Rps X.K G dds dvs)
    (hG : ∀ (base' : Heap) (vs : List V), TabBs X.K X.mg base' → CloB base' ⟨nm, q, params, bd, sc, cloFrom X.env.cells sc.names [], fc⟩ fr fa vs → ∃ fd, FnOk X.prog X.w X.K X.mg base' (L2.CX X.prog X.w) k f fd ps (liftSp X.K (sp vs)) ∧ ∃ dsv, Vals dvs dsv ∧ Binds X.K fd ps dsv)
    (len : ∀ vs ds m Q E, sp vs ds m Q E → ds.length = ps.length)
    (hr : Room k X.A) (hg : Gl X x) (hm : X.mg x = some (.ref f)) (hk : PySem.W.keepIn X.K (.ref f) = true) (tk' : Takes X W) (TB : TabBs X.K X.mg X.base)
    (hn : NdefX.ndefB X.env.scope sc fr = true) (hjs : js.map (fun j => X.N[j]?) = fr.map some) (hfn : ∀ y, X.fn y = true)
    (ha : DA X W WD (e :: es) t) (hdb : (x == ("__debug__" : Str)) = false := by decide) (he : starEach (e :: es) X.env = (false, eval e X.env) :: starEach es X.env := by rfl) (hpl : (backTo pos (starEach es X.env)).any (·.1) = false := by rfl) :
    DE X W WD (.Call (.Name x p) (e :: es) [] pos) (dCallDef0 js fa fc q ob sp WD dds t) :=
  de_callDef0 (F := ⟨nm, q, params, bd, sc, cloFrom X.env.cells sc.names [], fc⟩) hob rfl hdd hG len hr hg hm hk tk' TB hn hjs hfn ha hdb he hpl
end
end DL

set_option Elab.async false
set_option linter.all false
set_option maxRecDepth 100000
set_option maxHeartbeats 4000000
namespace DL
open PySem PySem.Spec PyProof.Rows L2 LamX
theorem fv_defW {P : Program} {w : World} {K : Fr0} {mg : Str → Option Value} {base : Heap} (k : Nat) {nm q : Str} {params : Arguments} {body : List Stmt} {sc : Scope} {cl : List (Str × Addr)} {c : Addr} (N ps fr : List Str) {a : Addr} {vs : List V} {spk : List D → DSp} {t : DTS}
    (C : CloB base ⟨nm, q, params, .stmts body, sc, cl, c⟩ fr a vs) (S : NdefX.nscB N ps fr sc = true) (hbind : ∀ (n q : Str) (sc : Scope) (cl : List (Str × Addr)) (doc pm cv ctv : Value) (us : List Value), us.length = ps.length →
      bindArgs { name := n, qualname := q, params := params, body := .stmts body, scope := sc, globals := mainGlobals, closure := cl, defaults := .none, kwdefaults := .none, doc, pyModule := pm, annotations := none, code := cv, closureTuple := ctv, builtins := builtinsNs } ⟨us, []⟩ = pure (ps.zip us)) (len : ∀ env ds m Q E, spk env ds m Q E → ds.length = ps.length)
    (hb : ∀ (A : Around) (outer : List Env) (s : Shared) (H : Hp), Room k (A.deeper (NdefX.envF ⟨nm, q, params, [], sc, cl, c⟩ a s.heap.objs.size)) →
      PassesOwn (model P w) (NdefX.ncx (L2.CX P w) P w K mg base N ⟨nm, q, params, [], sc, cl, c⟩ a A outer s H (fun _ _ _ => False)).A (NdefX.ncx (L2.CX P w) P w K mg base N ⟨nm, q, params, [], sc, cl, c⟩ a A outer s H (fun _ _ _ => False)).env (NdefX.ncx (L2.CX P w) P w K mg base N ⟨nm, q, params, [], sc, cl, c⟩ a A outer s H (fun _ _ _ => False)).xe →
      DSs (NdefX.ncx (L2.CX P w) P w K mg base N ⟨nm, q, params, [], sc, cl, c⟩ a A outer s H (fun _ _ _ => False)) W0 WD0 body t)
    (pure_ : ∀ env ds m Q E, spk env ds m Q E → t { nx := fun _ m => Q .non m, rt := Q } (startC N ds env) m) : FvOk P w K mg base (k + 1) (fvC a c q vs spk) := by
  refine fv_def (F := ⟨nm, q, params, .stmts body, sc, cl, c⟩) (t := fun _ => t) C rfl (NdefX.nscope_by S) (fun doc pm ctv us h => hbind _ _ _ _ _ _ _ _ us h) len (fun A outer s H WD hr tk hp => ?_) pure_
  have h := hb A outer s H hr hp
  refine ⟨fun pins s2 σ H2 D I q => (h.run pins s2 σ H2 D I ?_)⟩
  obtain ⟨G, F, r, m, DD, sx, ht, kk⟩ := q
  exact ⟨G, F, r, m, DD, ⟨sx.rep, sx.rs, Lx.no⟩, ht, kk⟩
end DL

set_option Elab.async false
set_option linter.all false
set_option maxRecDepth 100000
set_option maxHeartbeats 4000000
namespace DL
open PySem PySem.Spec PySem.W PyProof.Rows L2
def rSortedP (K : PySem.W.Frag) : List V → Hp → VK → Prop := fun vs H Q => ∃ (a : Addr) (us : List V) (G F : Hp) (m : M) (xs : List D) (kp : D → PyData), vs = [V.ref a] ∧ SqL K H a us ∧ Rep K G H F m ∧ Rps K G xs us ∧ toPs xs = some (xs.map kp) ∧ AllAlike (xs.map kp) ∧ Sortable (xs.map kp) ∧ (∀ x ∈ xs, (kp x).depth ≤ 60) ∧
  ∀ (out : List V) (p : Addr), Rps K G (xs.mergeSort (dataLe false kp)) out → H p = none → Q (.ref p) (upd H p (.lst out))
theorem cr_sortedP {X : Cx} {k : Nat} (hr : Room k X.A) : CallR X (.builtin "sorted") (rSortedP X.K) := by
  intro pins s σ H vs us Q I r h
  obtain ⟨a, vs', G, F, m, xs, kp, rfl, hs, rep, rx, hp, hal, hsk, hdep, q⟩ := h
  obtain ⟨its, rv, hl, hz⟩ := I.list hs
  rw [Vals.ref1 r]
  have li : its.length = xs.length := by rw [← vals_len rv, ← rx.length]
  have each := each_reads I rep.ext rx rv hp
  have ezip : (xs.zip vs').map (fun b => kp b.1) = xs.map kp := by
    have e : (xs.zip vs').map Prod.fst = xs := List.map_fst_zip (by rw [rx.length]; exact Nat.le_refl _)
    conv => rhs; rw [← e, List.map_map]
    rfl
  have er : EachIs (fun v (b : D × V) => ∃ as, Reads s.heap v (kp b.1) as) its (xs.zip vs') := by
    rw [← ezip] at each
    exact each_of_map (fun b : D × V => kp b.1) each
  refine sorted_data (R := fun (v : Value) (b : D × V) => RelV b.2 v ∧ Rp X.K G b.1 b.2) (enc := fun b : D × V => kp b.1) (bs := xs.zip vs') hl.isList (each_zip (Same.refl G) rx rv) er (by rw [ezip]; exact hal) (by rw [ezip]; exact hsk) (by rw [List.length_zip, rx.length]; omega) (fun b hb => ?_) fun out ho eo => ?_
  · have := hdep b.1 (List.of_mem_zip hb).1
    have := hr.units
    omega
  · obtain ⟨bs, hbs⟩ : ∃ bs, bs = (xs.zip vs').mergeSort (dataLe false fun b : D × V => kp b.1) := ⟨_, rfl⟩
    rw [← hbs] at eo
    have esort : bs.map (·.1) = xs.mergeSort (dataLe false kp) := by
      have e : (xs.zip vs').map Prod.fst = xs := List.map_fst_zip (by rw [rx.length]; exact Nat.le_refl _)
      have e2 := List.map_mergeSort (r := dataLe false fun b : D × V => kp b.1) (s := dataLe false kp) (f := Prod.fst) (l := xs.zip vs') (fun a _ b _ => rfl)
      rw [e] at e2
      rw [hbs]
      exact e2
    have lb : bs.length = xs.length := by rw [hbs, List.length_mergeSort, List.length_zip, rx.length]; omega
    have vo : Vals (bs.map (·.2)) out ∧ Rps X.K G (bs.map (·.1)) (bs.map (·.2)) := by
      clear hbs esort lb ho
      induction eo with
      | nil => exact ⟨.nil, .nil⟩
      | cons r _ ih => exact ⟨.cons r.1 ih.1, .cons r.2 ih.2⟩
    rw [esort] at vo
    obtain ⟨ep, he'⟩ := PyProof.Rows.sortedAll_at s.heap its out.toArray
    have hlen : (bs.map (·.2)).length ≤ sizeLine := by
      rw [List.length_map, lb, ← rx.length] at *
      exact hz
    exact ⟨.ref _, upd H (s.heap.objs.size + 1) (.lst (bs.map (·.2))), I.laid (t' := s.toks) (fun _ _ => PyProof.Rows.sortedAll_old) (Nat.le_succ _) ⟨hlen, out, ep, vo.1, he'⟩, rfl, q _ _ vo.2 (I.hok.fresh (Nat.le_succ _))⟩
def dSortP (mt : Bool) : DRC := fun ds m Q => ∃ d, ds = [d] ∧ ∃ (xs : List D) (kp : D → PyData), lsOf m d = some xs ∧ toPs xs = some (xs.map kp) ∧ AllAlike (xs.map kp) ∧ Sortable (xs.map kp) ∧ (∀ x ∈ xs, (kp x).depth ≤ 60) ∧ mkL mt (xs.mergeSort (dataLe false kp)) m Q
theorem cd_sortP {K : PySem.W.Frag} (mt : Bool) : CallD K (rSortedP K) (dSortP mt) := by
  intro G H F m ds vs QD Q r ps t k
  obtain ⟨d, rfl, xs, kp, e, h1, h2, h3, h4, t⟩ := t
  obtain ⟨v, rfl, p⟩ := rps1 ps
  obtain ⟨a, us, rfl, hs, rs⟩ := ls_ok r p e
  exact ⟨a, us, G, F, m, xs, kp, rfl, hs, r, rs, h1, h2, h3, h4, fun out l h1 hl => mkL_ok k r h1 hl t⟩
end DL

set_option Elab.async false
set_option linter.all false
set_option maxRecDepth 100000
set_option maxHeartbeats 4000000
namespace LW
open PySem PySem.Spec PyProof.Rows L2 DL
open He (ga ma)
abbrev il (ns : List Int) : D := .lst (ns.map D.int)
def LETTERS : Str := "abcdefghijklmnopqrstuvwxyz"
def SIGNS : Str := "0123456789_"
def inS (j i : Str) : Bool := !(Builtin.Str.occurrences j i 0 j.length 1).isEmpty
def nameB (z : Str) : Bool := decide (1 ≤ z.cps.size ∧ z.cps.size ≤ 12) && (match z.cps.toList with
  | c :: _ => inS LETTERS ⟨#[c]⟩
  | [] => false) && z.cps.toList.all fun c => inS LETTERS ⟨#[c]⟩ || inS SIGNS ⟨#[c]⟩
def sp_is_name (_ : Fr0) : DSp := fun ds m Q _ => ∃ z : Str, ds = [.str z] ∧ z.length ≤ 1000000 ∧ Q (.bl (nameB z)) m
structure Knd where
  n : Str
  c : Int
  d : Int
structure Arr where
  f : Str
  s : Str
  g : Int
structure Tsk where
  nm : Str
  ks : List Knd
  as : List Arr
def Knd.D (k : Knd) : DL.D := .tup [.str k.n, .int k.c, .int k.d]
def Arr.D (a : Arr) : DL.D := .tup [.str a.f, .str a.s, .int a.g]
abbrev ksD (ks : List Knd) : D := .lst (ks.map Knd.D)
abbrev asD (as : List Arr) : D := .lst (as.map Arr.D)
abbrev names (ks : List Knd) : List Str := ks.map Knd.n
structure KsOk (b : Bool) (ks : List Knd) : Prop where
  nm : ∀ k ∈ ks, nameB k.n = true
  nd : (names ks).Nodup
  c : ∀ k ∈ ks, 1 ≤ k.c ∧ k.c ≤ (if b then 9 else 99)
  d : ∀ k ∈ ks, 1 ≤ k.d ∧ k.d ≤ (if b then 24 else 99)
structure AsOk (ns : List Str) (as : List Arr) : Prop where
  f : ∀ a ∈ as, a.f ∈ ns
  s : ∀ a ∈ as, a.s ∈ ns
  g : ∀ a ∈ as, 1 ≤ a.g ∧ a.g ≤ 12
  nd : (as.map fun a => (a.f, a.s)).Nodup
structure Tsk.Ok (t : Tsk) : Prop where
  nm : nameB t.nm = true
  k1 : 1 ≤ t.ks.length
  k4 : t.ks.length ≤ 4
  a12 : t.as.length ≤ 12
  ks : KsOk (decide (0 < t.as.length)) t.ks
  as : AsOk (names t.ks) t.as
def taskF (t : Tsk) : List (Str × D) := [("name", .str t.nm), ("kind_rows", ksD t.ks), ("arrow_rows", asD t.as)]
def taskD (K : Fr0) (t : Tsk) : D := .ins (ga K "Task") (taskF t)
def sq0 : D → Option (List D)
  | .lst xs => some xs
  | .tup xs => some xs
  | _ => none
def sp_need_name (_ : Fr0) : DSp := fun ds m Q _ => ∃ z : Str, ds = [.str z] ∧ z.length ≤ 1000000 ∧ nameB z = true ∧ Q .non m
def sp_need_range (_ : Fr0) : DSp := fun ds m Q _ => ∃ (x : D) (v lo hi : Int), ds = [x, .int v, .int lo, .int hi] ∧ lo ≤ v ∧ v ≤ hi ∧ Q .non m
def sp_need_kind (_ : Fr0) : DSp := fun ds m Q _ => ∃ (z : Str) (ks : List Knd), ds = [.str z, ksD ks] ∧ z ∈ names ks ∧ ks.length ≤ 100 ∧ Q .non m
def sp_checked_kinds (_ : Fr0) : DSp := fun ds m Q _ => ∃ (ks : List Knd) (b : Bool), ds = [ksD ks, .bl b] ∧ KsOk b ks ∧ ks.length ≤ 100 ∧ Q (ksD ks) m
def sp_checked_arrows (_ : Fr0) : DSp := fun ds m Q _ => ∃ (as : List Arr) (x : D) (ks : List Knd), ds = [x, ksD ks] ∧ sq0 x = some (as.map Arr.D) ∧ AsOk (names ks) as ∧ as.length ≤ 100 ∧ ks.length ≤ 100 ∧ (∀ z ∈ names ks, nameB z = true) ∧ Q (asD as) m
def sp_Task_init (K : Fr0) : DSp := fun ds m Q _ => ∃ (a : Addr) (t : Tsk) (x : D), ds = [.ref a, .str t.nm, ksD t.ks, x] ∧ sq0 x = some (t.as.map Arr.D) ∧ m a = some (.ins (ga K "Task") []) ∧ t.Ok ∧ Q .non (mset m a (.ins (ga K "Task") (taskF t)))
def foll (t : Tsk) (z : Str) : List Arr := t.as.filter fun a => decide (a.f = z)
def folD (a : Arr) : D := .tup [.str a.s, .int a.g]
structure Job where
  k : Str
  r : Int
  c : Int
def Job.D (j : Job) : DL.D := .tup [.str j.k, .int j.r, .int j.c]
def jAt (w : List Job) (p : Nat) : Job := w.getD p ⟨"", 0, 0⟩
def t0 : Tsk := ⟨"", [], []⟩
def tAt (ts : List Tsk) (i : Nat) : Tsk := ts.getD i t0
def wAt (ws : List (List Job)) (i : Nat) : List Job := ws.getD i []
abbrev wkD (w : List Job) : D := .lst (w.map Job.D)
abbrev wksD (ws : List (List Job)) : D := .lst (ws.map wkD)
structure Rw where
  i : Nat
  p : Nat
  k : Str
  r : Int
  c : Int
  d : Int
def Rw.D (x : Rw) : DL.D := .tup [.int x.i, .int x.p, .str x.k, .int x.r, .int x.c, .int x.d]
def kOf (t : Tsk) (z : Str) : Knd := (t.ks.find? fun k => decide (k.n = z)).getD ⟨z, 0, 0⟩
def rowJ (t : Tsk) (g : Int) (i : Nat) (w : List Job) (p : Nat) : Rw := ⟨i, p, (jAt w p).k, (jAt w p).r, (jAt w p).c, (jAt w p).r + (kOf t (jAt w p).k).d * g⟩
def rowsW (t : Tsk) (g : Int) (i : Nat) (w : List Job) : List Rw := (List.range w.length).map (rowJ t g i w)
def rowsR (ts : List Tsk) (g : Int) (ws : List (List Job)) : List Rw := (List.range ws.length).flatMap fun i => rowsW (tAt ts i) g i (wAt ws i)
def keyR (x : Rw) : PyData := .tuple [.int x.r, .int x.i, .int x.p]
def srtR (l : List Rw) : List Rw := l.mergeSort (PySem.W.dataLe false keyR)
def jobsR (ts : List Tsk) (g : Int) (ws : List (List Job)) : List Rw := srtR (rowsR ts g ws)
def runF (g : Int) (js : List Rw) : List (Str × D) := [("grain", .int g), ("placed", .lst (js.map Rw.D))]
def runD (K : Fr0) (g : Int) (js : List Rw) : D := .ins (ga K "Run") (runF g js)
def unkK (K : Fr0) (z : Str) : XD := ⟨ga K "UnknownKind", [("name", .str z)]⟩
def plX (K : Fr0) (C : Str) (i p : Nat) : XD := ⟨ga K C, [("place", .int p), ("task", .int i)]⟩
def rngX (K : Fr0) (z : Str) (v : Int) : XD := ⟨ga K "OutOfRange", [("value", .int v), ("what", .str z)]⟩
def cntX (K : Fr0) (z : Str) (v : Int) : XD := ⟨ga K "WrongCount", [("count", .int v), ("what", .str z)]⟩
def gapF (t : Tsk) (z w : Str) : Option Int := ((foll t z).find? fun a => decide (a.s = w)).map Arr.g
def jobX (K : Fr0) (t : Tsk) (w : List Job) (i p : Nat) (g : Int) : Option XD :=
  if (jAt w p).k ∉ names t.ks then some (unkK K (jAt w p).k)
  else if ¬ (1 ≤ (jAt w p).c ∧ (jAt w p).c ≤ (kOf t (jAt w p).k).c * g) then some (plX K "BadCost" i p)
  else if (jAt w p).r < 0 then some (plX K "BadRelease" i p)
  else if p = 0 then none
  else match gapF t (jAt w (p - 1)).k (jAt w p).k with
    | none => some (plX K "NoArrow" i p)
    | some a => if (jAt w p).r - (jAt w (p - 1)).r < a * g then some (plX K "GapTooShort" i p) else none
def walkX (K : Fr0) (t : Tsk) (w : List Job) (i : Nat) (g : Int) : Option XD := (List.range w.length).findSome? fun p => jobX K t w i p g
def allX (K : Fr0) (ts : List Tsk) (ws : List (List Job)) (g : Int) : Option XD := (List.range ws.length).findSome? fun i => walkX K (tAt ts i) (wAt ws i) i g
def many (ws : List (List Job)) : Nat := (ws.map List.length).sum
def cntsX (K : Fr0) (ts : List Tsk) (ws : List (List Job)) (g : Int) : Option XD :=
  if ¬ (1 ≤ g ∧ g ≤ 60) then some (rngX K "grain" g) else if ws.length ≠ ts.length then some (cntX K "walks" ws.length) else if 400 < many ws then some (cntX K "jobs" (many ws)) else none
def runX (K : Fr0) (ts : List Tsk) (ws : List (List Job)) (g : Int) : Option XD := match cntsX K ts ws g with
  | some x => some x
  | none => allX K ts ws g
def Out (o : Option XD) (q : Prop) (e : XD → Prop) : Prop := match o with
  | none => q
  | some x => e x
def sp_Task_row_of (K : Fr0) : DSp := fun ds m Q E => ∃ (t : Tsk) (x : D) (z : Str), ds = [x, .str z] ∧ x = taskD K t ∧ t.Ok ∧ (∀ k ∈ t.ks, k.n = z → Q k.D m) ∧ (z ∉ names t.ks → E (unkK K z) m)
def sp_Task_cost_of (K : Fr0) : DSp := fun ds m Q E => ∃ (t : Tsk) (x : D) (z : Str), ds = [x, .str z] ∧ x = taskD K t ∧ t.Ok ∧ (∀ k ∈ t.ks, k.n = z → Q (.int k.c) m) ∧ (z ∉ names t.ks → E (unkK K z) m)
def sp_Task_deadline_of (K : Fr0) : DSp := fun ds m Q E => ∃ (t : Tsk) (x : D) (z : Str), ds = [x, .str z] ∧ x = taskD K t ∧ t.Ok ∧ (∀ k ∈ t.ks, k.n = z → Q (.int k.d) m) ∧ (z ∉ names t.ks → E (unkK K z) m)
def sp_Task_followers (K : Fr0) : DSp := fun ds m Q E => ∃ (t : Tsk) (x : D) (z : Str), ds = [x, .str z] ∧ x = taskD K t ∧ t.Ok ∧ (z ∈ names t.ks → Q (.lst ((foll t z).map folD)) m) ∧ (z ∉ names t.ks → E (unkK K z) m)
def sp_gap_between (K : Fr0) : DSp := fun ds m Q _ => ∃ (t : Tsk) (x : D) (z w : Str), ds = [x, .str z, .str w] ∧ x = taskD K t ∧ t.Ok ∧ z ∈ names t.ks ∧ Q (match gapF t z w with | some a => .int a | none => .non) m
def sp_check_job (K : Fr0) : DSp := fun ds m Q E => ∃ (t : Tsk) (x : D) (w : List Job) (i p : Nat) (g : Int), ds = [x, wkD w, .int i, .int p, .int g] ∧ x = taskD K t ∧ t.Ok ∧ p < w.length ∧ (1 ≤ p → (jAt w (p - 1)).k ∈ names t.ks) ∧ (1 ≤ g ∧ g ≤ 60) ∧ Out (jobX K t w i p g) (Q .non m) fun x => E x m
def sp_check_counts (K : Fr0) : DSp := fun ds m Q E => ∃ (ts : List Tsk) (ws : List (List Job)) (g : Int), ds = [.lst (ts.map (taskD K)), wksD ws, .int g] ∧ ts.length ≤ 1000 ∧ ws.length ≤ 1000 ∧ Out (cntsX K ts ws g) (Q .non m) fun x => E x m
def sp_Run_init (K : Fr0) : DSp := fun ds m Q E => ∃ (a : Addr) (ts : List Tsk) (ws : List (List Job)) (g : Int), ds = [.ref a, .lst (ts.map (taskD K)), wksD ws, .int g] ∧ m a = some (.ins (ga K "Run") []) ∧ (∀ t ∈ ts, t.Ok) ∧ ts.length ≤ 1000 ∧ ws.length ≤ 1000 ∧ Out (runX K ts ws g) (Q .non (mset m a (.ins (ga K "Run") (runF g (jobsR ts g ws))))) fun x => ∀ m', MSub m m' → E x m'
def sp_Run_jobs (K : Fr0) : DSp := fun ds m Q _ => ∃ (g : Int) (js : List Rw), ds = [runD K g js] ∧ Q (.lst (js.map Rw.D)) m
structure Sl where
  s : Int
  e : Int
  i : Int
def Sl.D (x : Sl) : DL.D := .tup [.int x.s, .int x.e, .int x.i]
def sAt (ss : List Sl) (p : Nat) : Sl := ss.getD p ⟨0, 0, 0⟩
def rAt (J : List Rw) (j : Nat) : Rw := J.getD j ⟨0, 0, "", 0, 0, 0⟩
abbrev jbsD (J : List Rw) : DL.D := .lst (J.map Rw.D)
abbrev slsD (ss : List Sl) : DL.D := .lst (ss.map Sl.D)
def dnL (ss : List Sl) (j : Nat) : Int := ss.foldl (fun a x => if x.i = (j : Int) then a + (x.e - x.s) else a) 0
def enL (ss : List Sl) (j : Nat) : Int := ss.foldl (fun a x => if x.i = (j : Int) then x.e else a) 0
def relT (J : List Rw) (v : Int) (i : Nat) : Int := (rAt J i).r * v
structure SS where
  now : Int
  up : Nat
  lf : List Int
  wt : List Nat
  sl : List Sl
def addSl (ss : List Sl) (s e : Int) (i : Nat) : List Sl := match ss.getLast? with
  | some x => if x.i = i ∧ x.e = s then ss.dropLast ++ [⟨x.s, e, i⟩] else ss ++ [⟨s, e, i⟩]
  | none => ss ++ [⟨s, e, i⟩]
def admL (J : List Rw) (v now : Int) (up : Nat) : List Nat := (List.range' up (J.length - up)).takeWhile fun i => decide (relT J v i ≤ now)
def lfA (l : List Int) (i : Nat) : Int := l.getD i 0
def minN (lt : Nat → Nat → Bool) : List Nat → Nat
  | [] => 0
  | x :: xs => xs.foldl (fun a y => if lt y a then y else a) x
def nowS (J : List Rw) (v : Int) (s : SS) : Int := if s.wt = [] then max s.now (relT J v s.up) else s.now
def wtS (J : List Rw) (v : Int) (s : SS) : List Nat := s.wt ++ admL J v (nowS J v s) s.up
def upS (J : List Rw) (v : Int) (s : SS) : Nat := s.up + (admL J v (nowS J v s) s.up).length
def ixS (J : List Rw) (lt : Nat → Nat → Bool) (v : Int) (s : SS) : Nat := minN lt (wtS J v s)
def endS (J : List Rw) (lt : Nat → Nat → Bool) (v : Int) (s : SS) : Int :=
  if upS J v s < J.length then min (nowS J v s + lfA s.lf (ixS J lt v s)) (relT J v (upS J v s)) else nowS J v s + lfA s.lf (ixS J lt v s)
def lftS (J : List Rw) (lt : Nat → Nat → Bool) (v : Int) (s : SS) : Int := lfA s.lf (ixS J lt v s) - (endS J lt v s - nowS J v s)
def stepS (J : List Rw) (lt : Nat → Nat → Bool) (v : Int) (s : SS) : SS :=
  ⟨endS J lt v s, upS J v s, s.lf.set (ixS J lt v s) (lftS J lt v s), if lftS J lt v s = 0 then (wtS J v s).erase (ixS J lt v s) else wtS J v s, addSl s.sl (nowS J v s) (endS J lt v s) (ixS J lt v s)⟩
def goS (J : List Rw) (lt : Nat → Nat → Bool) (v : Int) : Nat → SS → SS
  | 0, s => s
  | n + 1, s => if s.wt = [] ∧ ¬ s.up < J.length then s else goS J lt v n (stepS J lt v s)
def s0S (J : List Rw) : SS := ⟨0, 0, J.map Rw.c, [], []⟩
def sched (J : List Rw) (lt : Nat → Nat → Bool) (v : Int) : List Sl := (goS J lt v (2 * J.length + 1) (s0S J)).sl
def krk (kp : List PyData) (i : Nat) : PyData := .tuple [kp.getD i .none, .int i]
def klt (kp : List PyData) (i j : Nat) : Bool := PySem.W.dataLt (krk kp i) (krk kp j)
structure KOk (kd : List D) (kp : List PyData) : Prop where
  ps : toPs kd = some kp
  al : ∀ x ∈ kp, ∀ y ∈ kp, PySem.W.alike x y = true
  dp : ∀ x ∈ kp, x.depth ≤ 50
structure JOk (J : List Rw) : Prop where
  c : ∀ x ∈ J, 1 ≤ x.c
  r : ∀ x ∈ J, 0 ≤ x.r
  srt : ∀ i j, i ≤ j → j < J.length → (rAt J i).r ≤ (rAt J j).r
  len : J.length ≤ 1000
  rb : ∀ x ∈ J, x.r ≤ 10 ^ 12
def keysT (fv : FV) (key : D) : List D → M → (List D → M → Prop) → Prop
  | [], m, Q => Q [] m
  | j :: js, m, Q => fv.sp key [j] m (fun d m1 => keysT fv key js m1 fun ds m2 => Q (d :: ds) m2) (fun _ _ => False)
def FvMono (fv : FV) (key : D) : Prop := ∀ (ds : List D) (m : M) (Q Q' : D → M → Prop), (∀ d m', Q d m' → Q' d m') → fv.sp key ds m Q (fun _ _ => False) → fv.sp key ds m Q' (fun _ _ => False)
def sp_check_speed (K : Fr0) : DSp := fun ds m Q E => ∃ v : Int, ds = [.int v] ∧ (1 ≤ v ∧ v ≤ 99 → Q .non m) ∧ (¬ (1 ≤ v ∧ v ≤ 99) → E (rngX K "speed" v) m)
def sp_add_slice (_ : Fr0) : DSp := fun ds m Q _ => ∃ (a : Addr) (ss : List Sl) (s e : Int) (i : Nat), ds = [.ref a, .int s, .int e, .int i] ∧ m a = some (.lst (ss.map Sl.D)) ∧ ss.length < 1000000 ∧ Q .non (mset m a (.lst ((addSl ss s e i).map Sl.D)))
def sp_run_by (K : Fr0) (fv : FV) : DSp := fun ds m Q E => ∃ (g : Int) (J : List Rw) (key : D) (v : Int), ds = [runD K g J, key, .int v] ∧ fv.is key ∧ FvMono fv key ∧ JOk J ∧ (¬ (1 ≤ v ∧ v ≤ 99) → E (rngX K "speed" v) m) ∧
  (1 ≤ v ∧ v ≤ 99 → keysT fv key (J.map Rw.D) m fun kd m1 => ∃ kp, KOk kd kp ∧ Q (slsD (sched J (klt kp) v)) m1)
def rankD (rs : List Int) (w : Int) (x : Rw) : D := if w = 0 then .int x.d else if w = 1 then .int x.r else if w = 2 then .int (0 - x.d) else if w = 3 then .int (rs.getD x.i 0) else if w = 4 then .tup [.int x.c, .int (0 - x.r)] else .int 0
def rankP (rs : List Int) (w : Int) (x : Rw) : PyData := if w = 0 then .int x.d else if w = 1 then .int x.r else if w = 2 then .int (0 - x.d) else if w = 3 then .int (rs.getD x.i 0) else if w = 4 then .tuple [.int x.c, .int (0 - x.r)] else .int 0
def sp_law_rank (_ : Fr0) : DSp := fun ds m Q _ => ∃ (x : Rw) (w : Int) (rs : List Int), ds = [x.D, .int w, il rs] ∧ x.i < rs.length ∧ Q (rankD rs w x) m
def cellAt (ns : List Int) (i : Int) : Int := if i < ns.length then ns.getD i.toNat 0 else 0
def sp_law_cell (_ : Fr0) : DSp := fun ds m Q _ => ∃ (ns : List Int) (i : Int), ds = [.rdl (ns.map D.int), .int i] ∧ 0 ≤ i ∧ Q (.int (cellAt ns i)) m
def pool (c v k : Int) : MO := .lst [.int c, .int v, .int k]
def sp_law_source (_ : Fr0) : DSp := fun ds m Q _ => ∃ c : Int, ds = [.int c] ∧ ∀ a, m a = none → Q (.ref a) (mset m a (pool c c 0))
def sp_law_draw (_ : Fr0) : DSp := fun ds m Q _ => ∃ (a : Addr) (lim c v k : Int), ds = [.ref a, .int lim] ∧ m a = some (pool c v k) ∧ (1 ≤ lim ∧ lim.natAbs < 2 ^ 200) ∧ (0 ≤ k ∧ k ≤ 100000) ∧
  ∀ r v', 0 ≤ r → r < lim → Q (.int r) (mset m a (pool c v' (k + 1)))
def specL (t : Tsk) : D := .lst [.str t.nm, ksD t.ks, asD t.as]
def WkOk (t : Tsk) (g : Int) (w : List Job) : Prop := ∀ p, p < w.length → (∃ k ∈ t.ks, k.n = (jAt w p).k ∧ 1 ≤ (jAt w p).c ∧ (jAt w p).c ≤ k.c * g) ∧ 0 ≤ (jAt w p).r ∧ (1 ≤ p → ∃ a ∈ t.as, a.f = (jAt w (p - 1)).k ∧ a.s = (jAt w p).k ∧ a.g * g ≤ (jAt w p).r - (jAt w (p - 1)).r)
def sp_law_walk (_ : Fr0) : DSp := fun ds m Q _ => ∃ (a : Addr) (t : Tsk) (g c v k : Int), ds = [.ref a, specL t, .int g] ∧ m a = some (pool c v k) ∧ t.Ok ∧ (1 ≤ g ∧ g ≤ 60) ∧ (0 ≤ k ∧ k ≤ 5000) ∧ ∀ (w : List Job) (v' k' : Int), WkOk t g w → w.length ≤ 12 → (∀ j ∈ w, j.r ≤ 100000) → k ≤ k' → k' ≤ k + 100 → Q (wkD w) (mset m a (pool c v' k'))
def dueP (J : List Rw) : List PyData := J.map fun x => .int x.d
def sp_due_of (_ : Fr0) : DSp := fun ds m Q _ => ∃ x : Rw, ds = [x.D] ∧ Q (.int x.d) m
def sp_earliest_deadline (K : Fr0) : DSp := fun ds m Q E => ∃ (g : Int) (J : List Rw) (v : Int), ds = [runD K g J, .int v] ∧ JOk J ∧ (¬ (1 ≤ v ∧ v ≤ 99) → E (rngX K "speed" v) m) ∧ (1 ≤ v ∧ v ≤ 99 → Q (slsD (sched J (klt (dueP J)) v)) m)
def sp_law_small_task (_ : Fr0) : DSp := fun ds m Q _ => ∃ (a : Addr) (z : Str) (c v k : Int), ds = [.ref a, .str z] ∧ nameB z = true ∧ m a = some (pool c v k) ∧ (0 ≤ k ∧ k ≤ 5000) ∧ ∀ (t : Tsk) (v' k' : Int), t.Ok → k ≤ k' → k' ≤ k + 100 → Q (specL t) (mset m a (pool c v' k'))
def sp_law_play (_ : Fr0) : DSp := fun ds m Q _ => ∃ (J : List Rw) (kd : List D) (kp : List PyData) (v : Int), ds = [jbsD J, .lst kd, .int v] ∧ JOk J ∧ J.length ≤ 40 ∧ (∀ x ∈ J, x.c ≤ 10 ^ 5) ∧ KOk kd kp ∧ kd.length = J.length ∧ (1 ≤ v ∧ v ≤ 4) ∧ Q (slsD (sched J (klt kp) v)) m
def sp_law_same (_ : Fr0) : DSp := fun ds m Q _ => ∃ ss : List Sl, ds = [slsD ss, slsD ss] ∧ ss.length ≤ 1000000 ∧ Q (.bl true) m
def sp_law_bad_speed (K : Fr0) : DSp := fun ds m Q _ => ∃ (g : Int) (J : List Rw) (v w : Int) (b : Addr) (xs : List D), ds = [runD K g J, .int v, .ref b, .int w] ∧ JOk J ∧ ¬ (1 ≤ v ∧ v ≤ 99) ∧ m b = some (.lst xs) ∧ xs.length ≤ 1000 ∧ Q (.bl true) m
end LW

set_option Elab.async false
set_option linter.all false
set_option maxRecDepth 100000
set_option maxHeartbeats 4000000
namespace LW
open PySem PySem.Spec PyProof.Rows L2 DL
open He (ga ma)
def top (i : Nat) : Stmt := PySem.Challenge.pw_walkdues_k08_slices_unit_by_unit.main.body.getD i (.Pass ⟨0, 0, 0, 0⟩)
abbrev s_UnknownKind_init : Stmt := inClass (top 8) 0
abbrev nm_UnknownKind_init : List Str := ["self", "name"]
theorem sc_UnknownKind_init : FnScope nm_UnknownKind_init ["self", "name"] (defScope s_UnknownKind_init) := ⟨rfl, rfl, rfl, by decide +kernel, rfl, by decide +kernel, by decide +kernel⟩

abbrev s_OutOfRange_init : Stmt := inClass (top 5) 0
abbrev nm_OutOfRange_init : List Str := ["self", "what", "value"]
theorem sc_OutOfRange_init : FnScope nm_OutOfRange_init ["self", "what", "value"] (defScope s_OutOfRange_init) := ⟨rfl, rfl, rfl, by decide +kernel, rfl, by decide +kernel, by decide +kernel⟩

abbrev s_WrongCount_init : Stmt := inClass (top 4) 0
abbrev nm_WrongCount_init : List Str := ["self", "what", "count"]
theorem sc_WrongCount_init : FnScope nm_WrongCount_init ["self", "what", "count"] (defScope s_WrongCount_init) := ⟨rfl, rfl, rfl, by decide +kernel, rfl, by decide +kernel, by decide +kernel⟩

abbrev s_BadCost_init : Stmt := inClass (top 9) 0
abbrev nm_BadCost_init : List Str := ["self", "task", "place"]
theorem sc_BadCost_init : FnScope nm_BadCost_init ["self", "task", "place"] (defScope s_BadCost_init) := ⟨rfl, rfl, rfl, by decide +kernel, rfl, by decide +kernel, by decide +kernel⟩

abbrev s_BadRelease_init : Stmt := inClass (top 10) 0
abbrev nm_BadRelease_init : List Str := ["self", "task", "place"]
theorem sc_BadRelease_init : FnScope nm_BadRelease_init ["self", "task", "place"] (defScope s_BadRelease_init) := ⟨rfl, rfl, rfl, by decide +kernel, rfl, by decide +kernel, by decide +kernel⟩

abbrev s_NoArrow_init : Stmt := inClass (top 11) 0
abbrev nm_NoArrow_init : List Str := ["self", "task", "place"]
theorem sc_NoArrow_init : FnScope nm_NoArrow_init ["self", "task", "place"] (defScope s_NoArrow_init) := ⟨rfl, rfl, rfl, by decide +kernel, rfl, by decide +kernel, by decide +kernel⟩

abbrev s_GapTooShort_init : Stmt := inClass (top 12) 0
abbrev nm_GapTooShort_init : List Str := ["self", "task", "place"]
theorem sc_GapTooShort_init : FnScope nm_GapTooShort_init ["self", "task", "place"] (defScope s_GapTooShort_init) := ⟨rfl, rfl, rfl, by decide +kernel, rfl, by decide +kernel, by decide +kernel⟩

abbrev s_is_name : Stmt := top 34
abbrev nm_is_name : List Str := ["text", "sign"]
theorem sc_is_name : FnScope nm_is_name ["text"] (defScope s_is_name) := ⟨rfl, rfl, rfl, by decide +kernel, rfl, by decide +kernel, by decide +kernel⟩
def t_is_name (K : PySem.W.Frag) (WD : DWX) : DTS :=
    dSeq (dIfS (dOr (dNot (dTest (dChain dLe dLe (dC (.int 1)) (dCB dLen (daCons (dVar 0) daNil)) (dC (.int 12))))) (dTest (dOp (dIn true) (dOp dIx (dVar 0) (dC (.int 0))) (dC (.str "abcdefghijklmnopqrstuvwxyz"))))) (dRet (dC (.bl false))) dNext)
    (dRet (dCB dAll (daCons (dLc false (diS (dVar 0)) (.one 1) [1] dYes (dOrV (dOp (dIn false) (dVar 1) (dC (.str "abcdefghijklmnopqrstuvwxyz"))) (dOp (dIn false) (dVar 1) (dC (.str "0123456789_"))))) daNil)))

abbrev s_need_name : Stmt := top 35
abbrev nm_need_name : List Str := ["text"]
theorem sc_need_name : FnScope nm_need_name ["text"] (defScope s_need_name) := ⟨rfl, rfl, rfl, by decide +kernel, rfl, by decide +kernel, by decide +kernel⟩
def t_need_name (K : PySem.W.Frag) (WD : DWX) : DTS :=
    dIfS (dNot (dTru (dCall (sp_is_name K) WD [] (daCons (dVar 0) daNil)))) dNever dNext

abbrev s_need_range : Stmt := top 36
abbrev nm_need_range : List Str := ["what", "value", "least", "most"]
theorem sc_need_range : FnScope nm_need_range ["what", "value", "least", "most"] (defScope s_need_range) := ⟨rfl, rfl, rfl, by decide +kernel, rfl, by decide +kernel, by decide +kernel⟩
def t_need_range (K : PySem.W.Frag) (WD : DWX) : DTS :=
    dIfS (dOr (dTest (dOp dLt (dVar 1) (dVar 2))) (dTest (dOp dGt (dVar 1) (dVar 3)))) dNever dNext

abbrev s_need_kind : Stmt := top 37
abbrev nm_need_kind : List Str := ["name", "kind_rows", "row"]
theorem sc_need_kind : FnScope nm_need_kind ["name", "kind_rows"] (defScope s_need_kind) := ⟨rfl, rfl, rfl, by decide +kernel, rfl, by decide +kernel, by decide +kernel⟩
def t_need_kind (K : PySem.W.Frag) (WD : DWX) : DTS :=
    dIfS (dTest (dOp (dIn true) (dVar 0) (dLc false (diL (dVar 1)) (.one 2) [2] dYes (dOp dIx (dVar 2) (dC (.int 0)))))) dNever dNext

abbrev s_checked_kinds : Stmt := top 38
abbrev nm_checked_kinds : List Str := ["kinds", "branching", "most_cost", "most_deadline", "rows", "name", "cost", "deadline", "row"]
theorem sc_checked_kinds : FnScope nm_checked_kinds ["kinds", "branching"] (defScope s_checked_kinds) := ⟨rfl, rfl, rfl, by decide +kernel, rfl, by decide +kernel, by decide +kernel⟩
def t_checked_kinds (K : PySem.W.Frag) (WD : DWX) : DTS :=
    dSeq (dAsg (dIf (dTru (dVar 1)) (dTup (daCons (dC (.int 9)) (daCons (dC (.int 24)) daNil))) (dTup (daCons (dC (.int 99)) (daCons (dC (.int 99)) daNil)))) (gT 2 (gsCons (gN 2) (gsCons (gN 3) gsNil))))
    (dSeq (dSet 4 (dLst true daNil))
    (dSeq (dFor (diL (dVar 0)) (gT 3 (gsCons (gN 5) (gsCons (gN 6) (gsCons (gN 7) gsNil)))) (dSeq (dDrop (dCall (sp_need_name K) WD [] (daCons (dVar 5) daNil)))
    (dSeq (dIfS (dTest (dOp (dIn false) (dVar 5) (dLcM false (dVar 4) (.one 8) [8] dYes (dOp dIx (dVar 8) (dC (.int 0)))))) dNever dNext)
    (dSeq (dDrop (dCall (sp_need_range K) WD [] (daCons (dC (.str "cost")) (daCons (dVar 6) (daCons (dC (.int 1)) (daCons (dVar 2) daNil))))))
    (dSeq (dDrop (dCall (sp_need_range K) WD [] (daCons (dC (.str "deadline")) (daCons (dVar 7) (daCons (dC (.int 1)) (daCons (dVar 3) daNil))))))
    (dDrop (dBM isL dAppend (dVar 4) (daCons (dTup (daCons (dVar 5) (daCons (dVar 6) (daCons (dVar 7) daNil)))) daNil))))))))
    (dRet (dFrzE (dVar 4)))))

abbrev s_checked_arrows : Stmt := top 39
abbrev nm_checked_arrows : List Str := ["arrows", "kind_rows", "rows", "first", "second", "gap", "row"]
theorem sc_checked_arrows : FnScope nm_checked_arrows ["arrows", "kind_rows"] (defScope s_checked_arrows) := ⟨rfl, rfl, rfl, by decide +kernel, rfl, by decide +kernel, by decide +kernel⟩
def t_checked_arrows (K : PySem.W.Frag) (WD : DWX) : DTS :=
    dSeq (dSet 2 (dLst true daNil))
    (dSeq (dFor (diQ (dVar 0)) (gT 3 (gsCons (gN 3) (gsCons (gN 4) (gsCons (gN 5) gsNil)))) (dSeq (dDrop (dCall (sp_need_kind K) WD [] (daCons (dVar 3) (daCons (dVar 1) daNil))))
    (dSeq (dDrop (dCall (sp_need_kind K) WD [] (daCons (dVar 4) (daCons (dVar 1) daNil))))
    (dSeq (dDrop (dCall (sp_need_range K) WD [] (daCons (dC (.str "gap")) (daCons (dVar 5) (daCons (dC (.int 1)) (daCons (dC (.int 12)) daNil))))))
    (dSeq (dIfS (dTest (dOp (dInD false) (dTup (daCons (dVar 3) (daCons (dVar 4) daNil))) (dLcM false (dVar 2) (.one 6) [6] dYes (dTup (daCons (dOp dIx (dVar 6) (dC (.int 0))) (daCons (dOp dIx (dVar 6) (dC (.int 1))) daNil)))))) dNever dNext)
    (dDrop (dBM isL dAppend (dVar 2) (daCons (dTup (daCons (dVar 3) (daCons (dVar 4) (daCons (dVar 5) daNil)))) daNil))))))))
    (dRet (dFrzE (dVar 2))))

abbrev s_Task_init : Stmt := inClass (top 40) 0
abbrev nm_Task_init : List Str := ["self", "name", "kinds", "arrows"]
theorem sc_Task_init : FnScope nm_Task_init ["self", "name", "kinds", "arrows"] (defScope s_Task_init) := ⟨rfl, rfl, rfl, by decide +kernel, rfl, by decide +kernel, by decide +kernel⟩
def t_Task_init (K : PySem.W.Frag) (WD : DWX) : DTS :=
    dSeq (dDrop (dCall (sp_need_name K) WD [] (daCons (dVar 1) daNil)))
    (dSeq (dIfS (dNot (dTest (dChain dLe dLe (dC (.int 1)) (dCB dLen (daCons (dVar 2) daNil)) (dC (.int 4))))) dNever dNext)
    (dSeq (dIfS (dTest (dOp dGt (dCB dLen (daCons (dVar 3) daNil)) (dC (.int 12)))) dNever dNext)
    (dSeq (dFldS K (dVar 0) (dVar 1) "name")
    (dSeq (dFldS K (dVar 0) (dCall (sp_checked_kinds K) WD [] (daCons (dVar 2) (daCons (dOp dGt (dCB dLen (daCons (dVar 3) daNil)) (dC (.int 0))) daNil))) "kind_rows")
    (dFldS K (dVar 0) (dCall (sp_checked_arrows K) WD [] (daCons (dVar 3) (daCons (dFld K (dVar 0) "kind_rows") daNil))) "arrow_rows")))))

abbrev s_Task_kinds : Stmt := inClass (top 40) 1
abbrev s_Task_row_of : Stmt := inClass (top 40) 3
abbrev nm_Task_row_of : List Str := ["self", "kind", "row"]
theorem sc_Task_row_of : FnScope nm_Task_row_of ["self", "kind"] (defScope s_Task_row_of) := ⟨rfl, rfl, rfl, by decide +kernel, rfl, by decide +kernel, by decide +kernel⟩
def t_Task_row_of (K : PySem.W.Frag) (WD : DWX) : DTS :=
    dSeq (dFor (diL (dFld K (dVar 0) "kind_rows")) (gN 2) (dIfS (dTest (dOp dEq (dOp dIx (dVar 2) (dC (.int 0))) (dVar 1))) (dRet (dVar 2)) dNext))
    (dRaise (ga K "UnknownKind") ["name"] WD (daCons (dVar 1) daNil))

abbrev s_Task_cost_of : Stmt := inClass (top 40) 4
abbrev nm_Task_cost_of : List Str := ["self", "kind"]
theorem sc_Task_cost_of : FnScope nm_Task_cost_of ["self", "kind"] (defScope s_Task_cost_of) := ⟨rfl, rfl, rfl, by decide +kernel, rfl, by decide +kernel, by decide +kernel⟩
def t_Task_cost_of (K : PySem.W.Frag) (WD : DWX) : DTS :=
    dRet (dOp dIx (dMeth (ga K "Task") "row_of" (sp_Task_row_of K) WD [] (dVar 0) (daCons (dVar 1) daNil)) (dC (.int 1)))

abbrev s_Task_deadline_of : Stmt := inClass (top 40) 5
abbrev nm_Task_deadline_of : List Str := ["self", "kind"]
theorem sc_Task_deadline_of : FnScope nm_Task_deadline_of ["self", "kind"] (defScope s_Task_deadline_of) := ⟨rfl, rfl, rfl, by decide +kernel, rfl, by decide +kernel, by decide +kernel⟩
def t_Task_deadline_of (K : PySem.W.Frag) (WD : DWX) : DTS :=
    dRet (dOp dIx (dMeth (ga K "Task") "row_of" (sp_Task_row_of K) WD [] (dVar 0) (daCons (dVar 1) daNil)) (dC (.int 2)))

abbrev s_Task_followers : Stmt := inClass (top 40) 6
abbrev nm_Task_followers : List Str := ["self", "kind", "first", "second", "gap"]
theorem sc_Task_followers : FnScope nm_Task_followers ["self", "kind"] (defScope s_Task_followers) := ⟨rfl, rfl, rfl, by decide +kernel, rfl, by decide +kernel, by decide +kernel⟩
def t_Task_followers (K : PySem.W.Frag) (WD : DWX) : DTS :=
    dSeq (dDrop (dMeth (ga K "Task") "row_of" (sp_Task_row_of K) WD [] (dVar 0) (daCons (dVar 1) daNil)))
    (dRet (dLc false (diL (dFld K (dVar 0) "arrow_rows")) (.tup [2, 3, 4]) [2, 3, 4] (dTest (dOp dEq (dVar 2) (dVar 1))) (dTup (daCons (dVar 3) (daCons (dVar 4) daNil)))))

abbrev s_gap_between : Stmt := top 23
abbrev nm_gap_between : List Str := ["task", "first", "second", "kind", "gap"]
theorem sc_gap_between : FnScope nm_gap_between ["task", "first", "second"] (defScope s_gap_between) := ⟨rfl, rfl, rfl, by decide +kernel, rfl, by decide +kernel, by decide +kernel⟩
def t_gap_between (K : PySem.W.Frag) (WD : DWX) : DTS :=
    dSeq (dFor (diL (dMeth (ga K "Task") "followers" (sp_Task_followers K) WD [] (dVar 0) (daCons (dVar 1) daNil))) (gT 2 (gsCons (gN 3) (gsCons (gN 4) gsNil))) (dIfS (dTest (dOp dEq (dVar 3) (dVar 2))) (dRet (dVar 4)) dNext))
    (dRet (dC .non))

abbrev s_check_job : Stmt := top 24
abbrev nm_check_job : List Str := ["task", "walk", "index", "place", "grain", "kind", "release", "cost", "full", "before", "gap"]
theorem sc_check_job : FnScope nm_check_job ["task", "walk", "index", "place", "grain"] (defScope s_check_job) := ⟨rfl, rfl, rfl, by decide +kernel, rfl, by decide +kernel, by decide +kernel⟩
def t_check_job (K : PySem.W.Frag) (WD : DWX) : DTS :=
    dSeq (dAsg (dOp dIx (dVar 1) (dVar 3)) (gT 3 (gsCons (gN 5) (gsCons (gN 6) (gsCons (gN 7) gsNil)))))
    (dSeq (dSet 8 (dOp (dMul false) (dMeth (ga K "Task") "cost_of" (sp_Task_cost_of K) WD [] (dVar 0) (daCons (dVar 5) daNil)) (dVar 4)))
    (dSeq (dIfS (dNot (dTest (dChain dLe dLe (dC (.int 1)) (dVar 7) (dVar 8)))) (dRaise (ga K "BadCost") ["task", "place"] WD (daCons (dVar 2) (daCons (dVar 3) daNil))) dNext)
    (dSeq (dIfS (dTest (dOp dLt (dVar 6) (dC (.int 0)))) (dRaise (ga K "BadRelease") ["task", "place"] WD (daCons (dVar 2) (daCons (dVar 3) daNil))) dNext)
    (dSeq (dIfS (dTest (dOp dEq (dVar 3) (dC (.int 0)))) dRetN dNext)
    (dSeq (dSet 9 (dOp dIx (dVar 1) (dOp dSub (dVar 3) (dC (.int 1)))))
    (dSeq (dSet 10 (dCall (sp_gap_between K) WD [] (daCons (dVar 0) (daCons (dOp dIx (dVar 9) (dC (.int 0))) (daCons (dVar 5) daNil)))))
    (dSeq (dIfS (dTest (dOp dIsN (dVar 10) (dC .non))) (dRaise (ga K "NoArrow") ["task", "place"] WD (daCons (dVar 2) (daCons (dVar 3) daNil))) dNext)
    (dIfS (dTest (dOp dLt (dOp dSub (dVar 6) (dOp dIx (dVar 9) (dC (.int 1)))) (dOp (dMul false) (dVar 10) (dVar 4)))) (dRaise (ga K "GapTooShort") ["task", "place"] WD (daCons (dVar 2) (daCons (dVar 3) daNil))) dNext))))))))

abbrev s_check_counts : Stmt := top 25
abbrev nm_check_counts : List Str := ["tasks", "walks", "grain", "total", "walk"]
theorem sc_check_counts : FnScope nm_check_counts ["tasks", "walks", "grain"] (defScope s_check_counts) := ⟨rfl, rfl, rfl, by decide +kernel, rfl, by decide +kernel, by decide +kernel⟩
def t_check_counts (K : PySem.W.Frag) (WD : DWX) : DTS :=
    dSeq (dIfS (dNot (dTest (dChain dLe dLe (dC (.int 1)) (dVar 2) (dC (.int 60))))) (dRaise (ga K "OutOfRange") ["what", "value"] WD (daCons (dC (.str "grain")) (daCons (dVar 2) daNil))) dNext)
    (dSeq (dIfS (dTest (dOp dNe (dCB dLen (daCons (dVar 1) daNil)) (dCB dLen (daCons (dVar 0) daNil)))) (dRaise (ga K "WrongCount") ["what", "count"] WD (daCons (dC (.str "walks")) (daCons (dCB dLen (daCons (dVar 1) daNil)) daNil))) dNext)
    (dSeq (dSet 3 (dCB dSum (daCons (dLc false (diL (dVar 1)) (.one 4) [4] dYes (dCB dLen (daCons (dVar 4) daNil))) daNil)))
    (dIfS (dTest (dOp dGt (dVar 3) (dC (.int 400)))) (dRaise (ga K "WrongCount") ["what", "count"] WD (daCons (dC (.str "jobs")) (daCons (dVar 3) daNil))) dNext)))

abbrev s_Run_init : Stmt := inClass (top 26) 0
abbrev nm_Run_init : List Str := ["self", "tasks", "walks", "grain", "rows", "index", "walk", "task", "place", "kind", "release", "cost", "due", "row"]
theorem sc_Run_init : FnScope nm_Run_init ["self", "tasks", "walks", "grain"] (defScope s_Run_init) := ⟨rfl, rfl, rfl, by decide +kernel, rfl, by decide +kernel, by decide +kernel⟩
def t_Run_init (K : PySem.W.Frag) (WD : DWX) : DTS :=
    dSeq (dDrop (dCall (sp_check_counts K) WD [] (daCons (dVar 1) (daCons (dVar 2) (daCons (dVar 3) daNil)))))
    (dSeq (dSet 4 (dLst true daNil))
    (dSeq (dFor (diE (daCons (dVar 2) daNil)) (gT 2 (gsCons (gN 5) (gsCons (gN 6) gsNil))) (dSeq (dSet 7 (dOp dIx (dVar 1) (dVar 5)))
    (dFor (diE (daCons (dVar 6) daNil)) (gT 2 (gsCons (gN 8) (gsCons (gT 3 (gsCons (gN 9) (gsCons (gN 10) (gsCons (gN 11) gsNil)))) gsNil))) (dSeq (dDrop (dCall (sp_check_job K) WD [] (daCons (dVar 7) (daCons (dVar 6) (daCons (dVar 5) (daCons (dVar 8) (daCons (dVar 3) daNil)))))))
    (dSeq (dSet 12 (dOp (dAdd false) (dVar 10) (dOp (dMul false) (dMeth (ga K "Task") "deadline_of" (sp_Task_deadline_of K) WD [] (dVar 7) (daCons (dVar 9) daNil)) (dVar 3))))
    (dDrop (dBM isL dAppend (dVar 4) (daCons (dTup (daCons (dVar 5) (daCons (dVar 8) (daCons (dVar 9) (daCons (dVar 10) (daCons (dVar 11) (daCons (dVar 12) daNil))))))) daNil))))))))
    (dFrz 4 (dSeq (dFldS K (dVar 0) (dVar 3) "grain")
    (dFldS K (dVar 0) (dSortK false (dVar 4) 13 (dTup (daCons (dOp dIx (dVar 13) (dC (.int 3))) (daCons (dOp dIx (dVar 13) (dC (.int 0))) (daCons (dOp dIx (dVar 13) (dC (.int 1))) daNil))))) "placed")))))

abbrev s_Run_jobs : Stmt := inClass (top 26) 1
abbrev nm_Run_jobs : List Str := ["self"]
theorem sc_Run_jobs : FnScope nm_Run_jobs ["self"] (defScope s_Run_jobs) := ⟨rfl, rfl, rfl, by decide +kernel, rfl, by decide +kernel, by decide +kernel⟩
def t_Run_jobs (K : PySem.W.Frag) (WD : DWX) : DTS :=
    dRet (dCB (dList false) (daCons (dFld K (dVar 0) "placed") daNil))

abbrev s_check_speed : Stmt := top 15
abbrev nm_check_speed : List Str := ["speed"]
theorem sc_check_speed : FnScope nm_check_speed ["speed"] (defScope s_check_speed) := ⟨rfl, rfl, rfl, by decide +kernel, rfl, by decide +kernel, by decide +kernel⟩
def t_check_speed (K : PySem.W.Frag) (WD : DWX) : DTS :=
    dIfS (dNot (dTest (dChain dLe dLe (dC (.int 1)) (dVar 0) (dC (.int 99))))) (dRaise (ga K "OutOfRange") ["what", "value"] WD (daCons (dC (.str "speed")) (daCons (dVar 0) daNil))) dNext

abbrev s_add_slice : Stmt := top 16
abbrev nm_add_slice : List Str := ["slices", "start", "end", "index"]
theorem sc_add_slice : FnScope nm_add_slice ["slices", "start", "end", "index"] (defScope s_add_slice) := ⟨rfl, rfl, rfl, by decide +kernel, rfl, by decide +kernel, by decide +kernel⟩
def t_add_slice (K : PySem.W.Frag) (WD : DWX) : DTS :=
    dIfS (dAnd (dTru (dVar 0)) (dAnd (dTest (dOp dEq (dOp dIx (dOp dIx (dVar 0) (dUn dNeg (dC (.int 1)))) (dC (.int 2))) (dVar 3))) (dTest (dOp dEq (dOp dIx (dOp dIx (dVar 0) (dUn dNeg (dC (.int 1)))) (dC (.int 1))) (dVar 1))))) (dAsg (dTup (daCons (dOp dIx (dOp dIx (dVar 0) (dUn dNeg (dC (.int 1)))) (dC (.int 0))) (daCons (dVar 2) (daCons (dVar 3) daNil)))) (gSet (dVar 0) (dUn dNeg (dC (.int 1))))) (dDrop (dBM isL dAppend (dVar 0) (daCons (dTup (daCons (dVar 1) (daCons (dVar 2) (daCons (dVar 3) daNil)))) daNil)))

abbrev s_run_by : Stmt := top 17
abbrev nm_run_by : List Str := ["run", "key", "speed", "jobs", "keys", "job", "left", "slices", "waiting", "now", "upcoming", "index", "end"]
theorem sc_run_by : FnScope nm_run_by ["run", "key", "speed"] (defScope s_run_by) := ⟨rfl, rfl, rfl, by decide +kernel, rfl, by decide +kernel, by decide +kernel⟩
def t_run_by (K : PySem.W.Frag) (fv : FV) (WD : DWX) : DTS :=
    dSeq (dDrop (dCall (sp_check_speed K) WD [] (daCons (dVar 2) daNil)))
    (dSeq (dSet 3 (dProp (ga K "Run") (sp_Run_jobs K) (dVar 0)))
    (dSeq (dSet 4 (dLc false (diL (dVar 3)) (.one 5) [5] dYes (dCallV fv 1 (daCons (dVar 5) daNil))))
    (dSeq (dSet 6 (dLc true (diL (dVar 3)) (.one 5) [5] dYes (dOp dIx (dVar 5) (dC (.int 4)))))
    (dSeq (dSet 7 (dLst true daNil))
    (dSeq (dSet 8 (dLst true daNil))
    (dSeq (dSet2 9 10 (dC (.int 0)))
    (dSeq (dWhile (dOr (dTru (dVar 8)) (dTest (dOp dLt (dVar 10) (dCB dLen (daCons (dVar 3) daNil))))) (dSeq (dIfS (dNot (dTru (dVar 8))) (dSet 9 (dCB dMax (daCons (dVar 9) (daCons (dOp (dMul false) (dOp dIx (dOp dIx (dVar 3) (dVar 10)) (dC (.int 3))) (dVar 2)) daNil)))) dNext)
    (dSeq (dWhile (dAnd (dTest (dOp dLt (dVar 10) (dCB dLen (daCons (dVar 3) daNil)))) (dTest (dOp dLe (dOp (dMul false) (dOp dIx (dOp dIx (dVar 3) (dVar 10)) (dC (.int 3))) (dVar 2)) (dVar 9)))) (dSeq (dDrop (dBM isL dAppend (dVar 8) (daCons (dVar 10) daNil)))
    (dAug 10 (dC (.int 1)) dAddI)))
    (dSeq (dSet 11 (dMinK (dVar 8) 5 (dTup (daCons (dOp dIx (dVar 4) (dVar 5)) (daCons (dVar 5) daNil)))))
    (dSeq (dSet 12 (dOp (dAdd false) (dVar 9) (dOp dIx (dVar 6) (dVar 11))))
    (dSeq (dIfS (dTest (dOp dLt (dVar 10) (dCB dLen (daCons (dVar 3) daNil)))) (dSet 12 (dCB dMin (daCons (dVar 12) (daCons (dOp (dMul false) (dOp dIx (dOp dIx (dVar 3) (dVar 10)) (dC (.int 3))) (dVar 2)) daNil)))) dNext)
    (dSeq (dDrop (dCall (sp_add_slice K) WD [] (daCons (dVar 7) (daCons (dVar 9) (daCons (dVar 12) (daCons (dVar 11) daNil))))))
    (dSeq (dAugX (dVar 6) (dVar 11) (dOp dSub (dVar 12) (dVar 9)) (fun i j => i - j))
    (dSeq (dIfS (dTest (dOp dEq (dOp dIx (dVar 6) (dVar 11)) (dC (.int 0)))) (dDrop (dRem (dVar 8) (dVar 11))) dNext)
    (dSet 9 (dVar 12)))))))))))
    (dRet (dWk (dFrzE (dVar 7)))))))))))

abbrev s_due_of : Stmt := top 18
abbrev nm_due_of : List Str := ["job"]
theorem sc_due_of : FnScope nm_due_of ["job"] (defScope s_due_of) := ⟨rfl, rfl, rfl, by decide +kernel, rfl, by decide +kernel, by decide +kernel⟩
def t_due_of (K : PySem.W.Frag) (WD : DWX) : DTS :=
    dRet (dOp dIx (dVar 0) (dC (.int 5)))

abbrev s_earliest_deadline : Stmt := top 19
abbrev nm_earliest_deadline : List Str := ["run", "speed"]
theorem sc_earliest_deadline : FnScope nm_earliest_deadline ["run", "speed"] (defScope s_earliest_deadline) := ⟨rfl, rfl, rfl, by decide +kernel, rfl, by decide +kernel, by decide +kernel⟩
def t_earliest_deadline (K : PySem.W.Frag) (WD : DWX) : DTS :=
    dRet (dCallN 2 1 (sp_run_by K (fvG (ga K "due_of") (sp_due_of K))) WD (daCons (dVar 0) (daCons (dC (.ref (ga K "due_of"))) daNil)) (daCons (dVar 1) daNil))

abbrev s_law_cell : Stmt := top 42
abbrev nm_law_cell : List Str := ["_law_script", "_law_place"]
theorem sc_law_cell : FnScope nm_law_cell ["_law_script", "_law_place"] (defScope s_law_cell) := ⟨rfl, rfl, rfl, by decide +kernel, rfl, by decide +kernel, by decide +kernel⟩
def t_law_cell (K : PySem.W.Frag) (WD : DWX) : DTS :=
    dSeq (dIfS (dTest (dOp dLt (dVar 1) (dCB dLen (daCons (dVar 0) daNil)))) (dRet (dOp dIx (dVar 0) (dVar 1))) dNext)
    (dRet (dC (.int 0)))

abbrev s_law_source : Stmt := top 43
abbrev nm_law_source : List Str := ["_law_cell_here"]
theorem sc_law_source : FnScope nm_law_source ["_law_cell_here"] (defScope s_law_source) := ⟨rfl, rfl, rfl, by decide +kernel, rfl, by decide +kernel, by decide +kernel⟩
def t_law_source (K : PySem.W.Frag) (WD : DWX) : DTS :=
    dRet (dLst true (daCons (dVar 0) (daCons (dVar 0) (daCons (dC (.int 0)) daNil))))

abbrev s_law_draw : Stmt := top 44
abbrev nm_law_draw : List Str := ["_law_source_here", "_law_limit", "_law_digit", "_law_seed", "_law_mixed"]
theorem sc_law_draw : FnScope nm_law_draw ["_law_source_here", "_law_limit"] (defScope s_law_draw) := ⟨rfl, rfl, rfl, by decide +kernel, rfl, by decide +kernel, by decide +kernel⟩
def t_law_draw (K : PySem.W.Frag) (WD : DWX) : DTS :=
    dSeq (dAsg (dOp (dAdd false) (dOp dIx (dVar 0) (dC (.int 2))) (dC (.int 1))) (gSet (dVar 0) (dC (.int 2))))
    (dSeq (dIfS (dTest (dOp dGe (dOp dIx (dVar 0) (dC (.int 0))) (dOp dPow (dC (.int 10)) (dC (.int 18))))) (dSeq (dSet 2 (dOp dMod (dCB dInt1 (daCons (dOp dIx (dVar 0) (dC (.int 1))) daNil)) (dVar 1)))
    (dSeq (dAsg (dOp dDiv (dOp dIx (dVar 0) (dC (.int 1))) (dVar 1)) (gSet (dVar 0) (dC (.int 1))))
    (dRet (dVar 2)))) dNext)
    (dSeq (dSet 3 (dOp dMod (dCB dInt1 (daCons (dOp dIx (dVar 0) (dC (.int 0))) daNil)) (dC (.int 2147483549))))
    (dSeq (dSet 4 (dOp dMod (dCB dInt1 (daCons (dOp dPow (dCB dInt1 (daCons (dOp (dAdd false) (dOp (dAdd false) (dOp (dMul false) (dVar 3) (dC (.int 7919))) (dOp (dMul false) (dOp dIx (dVar 0) (dC (.int 2))) (dC (.int 104711)))) (dC (.int 12011))) daNil)) (dC (.int 5))) daNil)) (dC (.int 2147483647))))
    (dSeq (dSet 4 (dOp dMod (dCB dInt1 (daCons (dOp dPow (dCB dInt1 (daCons (dOp (dAdd false) (dVar 4) (dOp (dMul false) (dOp (dMul false) (dOp dIx (dVar 0) (dC (.int 2))) (dOp dIx (dVar 0) (dC (.int 2)))) (dC (.int 40531)))) daNil)) (dC (.int 3))) daNil)) (dC (.int 2147483269))))
    (dRet (dOp dMod (dOp dDiv (dVar 4) (dC (.int 16))) (dVar 1)))))))

abbrev s_law_small_task : Stmt := top 45
abbrev nm_law_small_task : List Str := ["_law_source_here", "_law_name", "_law_many", "_law_names", "_law_share", "_law_arrows", "_law_first", "_law_second", "_law_chosen", "_law_gap", "_law_kinds", "_law_kind", "_law_cost"]
theorem sc_law_small_task : FnScope nm_law_small_task ["_law_source_here", "_law_name"] (defScope s_law_small_task) := ⟨rfl, rfl, rfl, by decide +kernel, rfl, by decide +kernel, by decide +kernel⟩
def t_law_small_task (K : PySem.W.Frag) (WD : DWX) : DTS :=
    dSeq (dSet 2 (dOp (dAdd false) (dC (.int 1)) (dCall (sp_law_draw K) WD [] (daCons (dVar 0) (daCons (dC (.int 3)) daNil)))))
    (dSeq (dSet 3 (dSlice false (dOp dIx (dLst false (daCons (dLst false (daCons (dC (.str "a")) (daCons (dC (.str "ab")) (daCons (dC (.str "abc")) daNil)))) (daCons (dLst false (daCons (dC (.str "go")) (daCons (dC (.str "g")) (daCons (dC (.str "gone")) daNil)))) (daCons (dLst false (daCons (dC (.str "z_1")) (daCons (dC (.str "z_2")) (daCons (dC (.str "z")) daNil)))) daNil)))) (dCall (sp_law_draw K) WD [] (daCons (dVar 0) (daCons (dC (.int 3)) daNil)))) doNone (doSome (dVar 2))))
    (dSeq (dSet 4 (dCall (sp_law_draw K) WD [] (daCons (dVar 0) (daCons (dC (.int 4)) daNil))))
    (dSeq (dSet 5 (dLst true daNil))
    (dSeq (dFor (diR1 (daCons (dVar 2) daNil)) (gN 6) (dFor (diR1 (daCons (dVar 2) daNil)) (gN 7) (dSeq (dSet 8 (dOp dLt (dCall (sp_law_draw K) WD [] (daCons (dVar 0) (daCons (dC (.int 3)) daNil))) (dVar 4)))
    (dSeq (dSet 9 (dOp (dAdd false) (dC (.int 1)) (dCall (sp_law_draw K) WD [] (daCons (dVar 0) (daCons (dC (.int 4)) daNil)))))
    (dIfS (dTru (dVar 8)) (dDrop (dBM isL dAppend (dVar 5) (daCons (dTup (daCons (dOp dIx (dVar 3) (dVar 6)) (daCons (dOp dIx (dVar 3) (dVar 7)) (daCons (dVar 9) daNil)))) daNil))) dNext)))))
    (dFrz 5 (dSeq (dSet 10 (dLst true daNil))
    (dSeq (dFor (diL (dVar 3)) (gN 11) (dSeq (dSet 12 (dOp (dAdd false) (dC (.int 1)) (dCall (sp_law_draw K) WD [] (daCons (dVar 0) (daCons (dC (.int 4)) daNil)))))
    (dDrop (dBM isL dAppend (dVar 10) (daCons (dTup (daCons (dVar 11) (daCons (dVar 12) (daCons (dOp (dAdd false) (dC (.int 1)) (dCall (sp_law_draw K) WD [] (daCons (dVar 0) (daCons (dC (.int 9)) daNil)))) daNil)))) daNil)))))
    (dFrz 10 (dRet (dLst false (daCons (dVar 1) (daCons (dVar 10) (daCons (dVar 5) daNil)))))))))))))

abbrev s_law_walk : Stmt := top 46
abbrev nm_law_walk : List Str := ["_law_source_here", "_law_task", "_law_parts", "_law_kinds", "_law_walk_here", "_law_kind", "_law_moment", "_law_k", "_law_cost", "_law_ways", "_law_arrow", "_law_row"]
theorem sc_law_walk : FnScope nm_law_walk ["_law_source_here", "_law_task", "_law_parts"] (defScope s_law_walk) := ⟨rfl, rfl, rfl, by decide +kernel, rfl, by decide +kernel, by decide +kernel⟩
def t_law_walk (K : PySem.W.Frag) (WD : DWX) : DTS :=
    dSeq (dSet 3 (dOp dIx (dVar 1) (dC (.int 1))))
    (dSeq (dSet 4 (dLst true daNil))
    (dSeq (dSet 5 (dOp dIx (dVar 3) (dCall (sp_law_draw K) WD [] (daCons (dVar 0) (daCons (dCB dLen (daCons (dVar 3) daNil)) daNil)))))
    (dSeq (dSet 6 (dCall (sp_law_draw K) WD [] (daCons (dVar 0) (daCons (dC (.int 9)) daNil))))
    (dSeq (dFor (diR1 (daCons (dCall (sp_law_draw K) WD [] (daCons (dVar 0) (daCons (dC (.int 8)) daNil))) daNil)) (gN 7) (dSeq (dSet 8 (dOp (dAdd false) (dC (.int 1)) (dCall (sp_law_draw K) WD [] (daCons (dVar 0) (daCons (dOp (dMul false) (dOp dIx (dVar 5) (dC (.int 1))) (dVar 2)) daNil)))))
    (dSeq (dIfS (dTest (dOp dEq (dCall (sp_law_draw K) WD [] (daCons (dVar 0) (daCons (dC (.int 3)) daNil))) (dC (.int 1)))) (dSet 8 (dOp (dMul false) (dOp dIx (dVar 5) (dC (.int 1))) (dVar 2))) dNext)
    (dSeq (dDrop (dBM isL dAppend (dVar 4) (daCons (dTup (daCons (dOp dIx (dVar 5) (dC (.int 0))) (daCons (dVar 6) (daCons (dVar 8) daNil)))) daNil)))
    (dSeq (dSet 9 (dLc false (diL (dOp dIx (dVar 1) (dC (.int 2)))) (.one 10) [10] (dTest (dOp dEq (dOp dIx (dVar 10) (dC (.int 0))) (dOp dIx (dVar 5) (dC (.int 0))))) (dVar 10)))
    (dSeq (dIfS (dTest (dOp dEq (dVar 9) (dLst false daNil))) (dRet (dFrzE (dVar 4))) dNext)
    (dSeq (dSet 10 (dOp dIx (dVar 9) (dCall (sp_law_draw K) WD [] (daCons (dVar 0) (daCons (dCB dLen (daCons (dVar 9) daNil)) daNil)))))
    (dSeq (dSet 6 (dOp (dAdd false) (dOp (dAdd false) (dVar 6) (dOp (dMul false) (dOp dIx (dVar 10) (dC (.int 2))) (dVar 2))) (dOp (dMul false) (dCall (sp_law_draw K) WD [] (daCons (dVar 0) (daCons (dC (.int 3)) daNil))) (dCall (sp_law_draw K) WD [] (daCons (dVar 0) (daCons (dC (.int 4)) daNil))))))
    (dSet 5 (dOp dIx (dLc false (diL (dVar 3)) (.one 11) [11] (dTest (dOp dEq (dOp dIx (dVar 11) (dC (.int 0))) (dOp dIx (dVar 10) (dC (.int 1))))) (dVar 11)) (dC (.int 0))))))))))))
    (dRet (dFrzE (dVar 4)))))))

abbrev s_law_rank : Stmt := top 47
abbrev nm_law_rank : List Str := ["_law_job", "_law_way", "_law_ranks"]
theorem sc_law_rank : FnScope nm_law_rank ["_law_job", "_law_way", "_law_ranks"] (defScope s_law_rank) := ⟨rfl, rfl, rfl, by decide +kernel, rfl, by decide +kernel, by decide +kernel⟩
def t_law_rank (K : PySem.W.Frag) (WD : DWX) : DTS :=
    dSeq (dIfS (dTest (dOp dEq (dVar 1) (dC (.int 0)))) (dRet (dOp dIx (dVar 0) (dC (.int 5)))) dNext)
    (dSeq (dIfS (dTest (dOp dEq (dVar 1) (dC (.int 1)))) (dRet (dOp dIx (dVar 0) (dC (.int 3)))) dNext)
    (dSeq (dIfS (dTest (dOp dEq (dVar 1) (dC (.int 2)))) (dRet (dOp dSub (dC (.int 0)) (dOp dIx (dVar 0) (dC (.int 5))))) dNext)
    (dSeq (dIfS (dTest (dOp dEq (dVar 1) (dC (.int 3)))) (dRet (dOp dIx (dVar 2) (dOp dIx (dVar 0) (dC (.int 0))))) dNext)
    (dSeq (dIfS (dTest (dOp dEq (dVar 1) (dC (.int 4)))) (dRet (dTup (daCons (dOp dIx (dVar 0) (dC (.int 4))) (daCons (dOp dSub (dC (.int 0)) (dOp dIx (dVar 0) (dC (.int 3)))) daNil)))) dNext)
    (dRet (dC (.int 0)))))))

abbrev s_law_play : Stmt := top 48
abbrev nm_law_play : List Str := ["_law_jobs", "_law_keys", "_law_pace", "_law_left", "_law_job", "_law_last", "_law_slices", "_law_now", "_law_waiting", "_law_k", "_law_index"]
theorem sc_law_play : FnScope nm_law_play ["_law_jobs", "_law_keys", "_law_pace"] (defScope s_law_play) := ⟨rfl, rfl, rfl, by decide +kernel, rfl, by decide +kernel, by decide +kernel⟩
def t_law_play (K : PySem.W.Frag) (WD : DWX) : DTS :=
    dSeq (dSet 3 (dLc true (diL (dVar 0)) (.one 4) [4] dYes (dOp dIx (dVar 4) (dC (.int 4)))))
    (dSeq (dSet 5 (dC (.int 0)))
    (dSeq (dFor (diL (dVar 0)) (gN 4) (dSet 5 (dCB dMax (daCons (dVar 5) (daCons (dOp (dMul false) (dOp dIx (dVar 4) (dC (.int 3))) (dVar 2)) daNil)))))
    (dSeq (dSet 6 (dLst true daNil))
    (dSeq (dFor (diR1 (daCons (dOp (dAdd false) (dVar 5) (dCB dSum (daCons (dVar 3) daNil))) daNil)) (gN 7) (dSeq (dIfS (dTest (dOp dEq (dCB dSum (daCons (dVar 3) daNil)) (dC (.int 0)))) (dRet (dWk (dFrzE (dVar 6)))) dNext)
    (dSeq (dSet 8 (dLc false (diR1 (daCons (dCB dLen (daCons (dVar 0) daNil)) daNil)) (.one 9) [9] (dAnd (dTest (dOp dLe (dOp (dMul false) (dOp dIx (dOp dIx (dVar 0) (dVar 9)) (dC (.int 3))) (dVar 2)) (dVar 7))) (dTest (dOp dGt (dOp dIx (dVar 3) (dVar 9)) (dC (.int 0))))) (dTup (daCons (dOp dIx (dVar 1) (dVar 9)) (daCons (dVar 9) daNil)))))
    (dIfS (dTest (dOp dNeZ (dVar 8) (dLst false daNil))) (dSeq (dSet 10 (dOp dIx (dOp dIx (dCB (dSortP false) (daCons (dVar 8) daNil)) (dC (.int 0))) (dC (.int 1))))
    (dSeq (dAsg (dOp dSub (dOp dIx (dVar 3) (dVar 10)) (dC (.int 1))) (gSet (dVar 3) (dVar 10)))
    (dIfS (dAnd (dTest (dOp dNeZ (dVar 6) (dLst false daNil))) (dAnd (dTest (dOp dEq (dOp dIx (dOp dIx (dVar 6) (dUn dNeg (dC (.int 1)))) (dC (.int 2))) (dVar 10))) (dTest (dOp dEq (dOp dIx (dOp dIx (dVar 6) (dUn dNeg (dC (.int 1)))) (dC (.int 1))) (dVar 7))))) (dAsg (dTup (daCons (dOp dIx (dOp dIx (dVar 6) (dUn dNeg (dC (.int 1)))) (dC (.int 0))) (daCons (dOp (dAdd false) (dVar 7) (dC (.int 1))) (daCons (dVar 10) daNil)))) (gSet (dVar 6) (dUn dNeg (dC (.int 1))))) (dDrop (dBM isL dAppend (dVar 6) (daCons (dTup (daCons (dVar 7) (daCons (dOp (dAdd false) (dVar 7) (dC (.int 1))) (daCons (dVar 10) daNil)))) daNil)))))) dNext))))
    (dRet (dWk (dFrzE (dVar 6))))))))

abbrev s_law_same : Stmt := top 49
abbrev nm_law_same : List Str := ["_law_actual", "_law_expected", "_law_row", "_law_value"]
theorem sc_law_same : FnScope nm_law_same ["_law_actual", "_law_expected"] (defScope s_law_same) := ⟨rfl, rfl, rfl, by decide +kernel, rfl, by decide +kernel, by decide +kernel⟩
def t_law_same (K : PySem.W.Frag) (WD : DWX) : DTS :=
    dSeq (dIfS (dOr (dNot (dTru (dCB (dIsi K) (daCons (dVar 0) (daCons (dC (.ty "list")) daNil))))) (dTest (dOp dNe (dVar 0) (dVar 1)))) (dRet (dC (.bl false))) dNext)
    (dSeq (dFor (diL (dVar 0)) (gN 2) (dFor (diT (dVar 2)) (gN 3) (dIfS (dOr (dNot (dTru (dCB (dIsi K) (daCons (dVar 3) (daCons (dC (.ty "int")) daNil))))) (dTru (dCB (dIsi K) (daCons (dVar 3) (daCons (dC (.ty "bool")) daNil))))) (dRet (dC (.bl false))) dNext)))
    (dRet (dC (.bl true))))

abbrev s_law_bad_speed : Stmt := top 50
abbrev nm_law_bad_speed : List Str := ["_law_run", "_law_pace", "_law_calls", "_law_way", "_law_before", "_law_noted", "e"]
theorem sc_law_bad_speed : FnScope nm_law_bad_speed ["_law_run", "_law_pace", "_law_calls", "_law_way"] (defScope s_law_bad_speed) := ⟨rfl, rfl, rfl, by decide +kernel, rfl, by decide +kernel, by decide +kernel⟩
def t_law_bad_speed (K : PySem.W.Frag) (WD : DWX) : DTS :=
    dSeq (dSet 4 (dCB dLen (daCons (dVar 2) daNil)))
    (dNdef 5 (("_law_bad_speed" : Str) ++ ".<locals>." ++ "_law_noted") (fun fa1 fc1 ob1 =>
    dSeq (dTryAs K (ga K "OutOfRange") 6 (fun WDx1 => dIfS (dTest (dOp dEq (dVar 3) (dC (.int 0)))) (dDrop (dCallDef [2] fa1 fc1 (("_law_bad_speed" : Str) ++ ".<locals>." ++ "_law_noted") ob1 1 1 (fun vs => sp_run_by K (fvC fa1 fc1 (("_law_bad_speed" : Str) ++ ".<locals>." ++ "_law_noted") vs (fun env ds m Q _ => ds.length = 1 ∧ (dSeq (dDrop (dBM isL dAppend (dVar 1) (daCons (dVar 0) daNil))) (dRet (dC (.int 0)))) { nx := fun _ m => Q .non m, rt := Q } (startC ["_law_job", "_law_calls"] ds env) m))) WDx1 (daCons (dVar 0) (daCons (dVar 5) daNil)) (daCons (dVar 1) daNil))) (dDrop (dCallN 1 1 (sp_earliest_deadline K) WDx1 (daCons (dVar 0) daNil) (daCons (dVar 1) daNil)))) (fun ea ec ed => dRet (dWk (dAndV (dOp dEq (dXf ea ec ed (ga K "OutOfRange") "what" (dVar 6)) (dC (.str "speed"))) (dAndV (dOp dEq (dXf ea ec ed (ga K "OutOfRange") "value" (dVar 6)) (dVar 1)) (dOp dEq (dCB dLen (daCons (dVar 2) daNil)) (dVar 4)))))) WD)
    (dRet (dWk (dC (.bl false))))))

abbrev s_law : Stmt := top 51
abbrev nm_law : List Str := ["_law_script", "_law_source_here", "_law_tasks", "_law_k", "_law_way", "_law_pace", "_law_parts", "_law_ranks", "_law_task", "_law_walks", "_law_run", "_law_jobs", "_law_calls", "_law_key", "_law_slices", "_law_keys", "_law_job", "_law_dues", "_law_bad"]
theorem sc_law : FnScope nm_law ["_law_script"] (defScope s_law) := ⟨rfl, rfl, rfl, by decide +kernel, rfl, by decide +kernel, by decide +kernel⟩
def t_law (K : PySem.W.Frag) (WD : DWX) : DTS :=
    dSeq (dSet 1 (dCall (sp_law_source K) WD [] (daCons (dCall (sp_law_cell K) WD [] (daCons (dVar 0) (daCons (dC (.int 0)) daNil))) daNil)))
    (dSeq (dSet 2 (dLst true daNil))
    (dSeq (dFor (diR1 (daCons (dOp (dAdd false) (dC (.int 1)) (dCall (sp_law_draw K) WD [] (daCons (dVar 1) (daCons (dC (.int 3)) daNil)))) daNil)) (gN 3) (dDrop (dBM isL dAppend (dVar 2) (daCons (dCall (sp_law_small_task K) WD [] (daCons (dVar 1) (daCons (dC (.str "task")) daNil))) daNil))))
    (dFrz 2 (dSeq (dSet 1 (dCall (sp_law_source K) WD [] (daCons (dCall (sp_law_cell K) WD [] (daCons (dVar 0) (daCons (dC (.int 1)) daNil))) daNil)))
    (dSeq (dSet 4 (dCall (sp_law_draw K) WD [] (daCons (dVar 1) (daCons (dC (.int 6)) daNil))))
    (dSeq (dSet 5 (dOp (dAdd false) (dC (.int 1)) (dCall (sp_law_draw K) WD [] (daCons (dVar 1) (daCons (dC (.int 4)) daNil)))))
    (dSeq (dSet 6 (dOp (dAdd false) (dC (.int 1)) (dCall (sp_law_draw K) WD [] (daCons (dVar 1) (daCons (dC (.int 3)) daNil)))))
    (dSeq (dSet 7 (dLc false (diL (dVar 2)) (.one 8) [8] dYes (dOp dSub (dCall (sp_law_draw K) WD0 [] (daCons (dVar 1) (daCons (dC (.int 5)) daNil))) (dC (.int 2)))))
    (dSeq (dSet 9 (dLst true daNil))
    (dSeq (dFor (diL (dVar 2)) (gN 8) (dDrop (dBM isL dAppend (dVar 9) (daCons (dCall (sp_law_walk K) WD [] (daCons (dVar 1) (daCons (dVar 8) (daCons (dVar 6) daNil)))) daNil))))
    (dFrz 9 (dSeq (dSet 10 (dMakeN (ga K "Run") 2 1 (sp_Run_init K) WD (daCons (dLc false (diL (dVar 2)) (.one 8) [8] dYes (dMake (ga K "Task") (sp_Task_init K) WD0 [] (daCons (dOp dIx (dVar 8) (dC (.int 0))) (daCons (dOp dIx (dVar 8) (dC (.int 1))) (daCons (dOp dIx (dVar 8) (dC (.int 2))) daNil))))) (daCons (dVar 9) daNil)) (daCons (dVar 6) daNil)))
    (dSeq (dSet 11 (dProp (ga K "Run") (sp_Run_jobs K) (dVar 10)))
    (dSeq (dSet 12 (dLst true daNil))
    (dNdef 13 (("law" : Str) ++ ".<locals>." ++ "_law_key") (fun fa1 fc1 ob1 =>
    dSeq (dSet 14 (dCallDef [12, 4, 7] fa1 fc1 (("law" : Str) ++ ".<locals>." ++ "_law_key") ob1 1 1 (fun vs => sp_run_by K (fvC fa1 fc1 (("law" : Str) ++ ".<locals>." ++ "_law_key") vs (fun env ds m Q _ => ds.length = 1 ∧ (dSeq (dDrop (dBM isL dAppend (dVar 1) (daCons (dVar 0) daNil))) (dRet (dCall (sp_law_rank K) WD0 [] (daCons (dVar 0) (daCons (dVar 2) (daCons (dVar 3) daNil)))))) { nx := fun _ m => Q .non m, rt := Q } (startC ["_law_job", "_law_calls", "_law_way", "_law_ranks"] ds env) m))) WD (daCons (dVar 10) (daCons (dVar 13) daNil)) (daCons (dVar 5) daNil)))
    (dSeq (dSet 15 (dLc false (diL (dVar 11)) (.one 16) [16] dYes (dCall (sp_law_rank K) WD0 [] (daCons (dVar 16) (daCons (dVar 4) (daCons (dVar 7) daNil))))))
    (dSeq (dIfS (dOr (dTest (dOp dNe (dVar 12) (dVar 11))) (dNot (dTru (dCall (sp_law_same K) WD [] (daCons (dVar 14) (daCons (dCall (sp_law_play K) WD [] (daCons (dVar 11) (daCons (dVar 15) (daCons (dVar 5) daNil)))) daNil)))))) (dRet (dC (.bl false))) dNext)
    (dSeq (dSet 17 (dLc false (diL (dVar 11)) (.one 16) [16] dYes (dOp dIx (dVar 16) (dC (.int 5)))))
    (dSeq (dIfS (dNot (dTru (dCall (sp_law_same K) WD [] (daCons (dCallN 1 1 (sp_earliest_deadline K) WD (daCons (dVar 10) daNil) (daCons (dVar 5) daNil)) (daCons (dCall (sp_law_play K) WD [] (daCons (dVar 11) (daCons (dVar 17) (daCons (dVar 5) daNil)))) daNil))))) (dRet (dC (.bl false))) dNext)
    (dSeq (dFor (diL (dLst false (daCons (dC (.int 0)) (daCons (dC (.int 100)) (daCons (dUn dNeg (dC (.int 1))) daNil))))) (gN 18) (dIfS (dOr (dNot (dTru (dCall (sp_law_bad_speed K) WD [] (daCons (dVar 10) (daCons (dVar 18) (daCons (dVar 12) (daCons (dC (.int 0)) daNil))))))) (dNot (dTru (dCall (sp_law_bad_speed K) WD [] (daCons (dVar 10) (daCons (dVar 18) (daCons (dVar 12) (daCons (dC (.int 1)) daNil)))))))) (dRet (dC (.bl false))) dNext))
    (dSeq (dIfS (dTest (dOp dGt (dVar 5) (dC (.int 1)))) (dRet (dC (.bl true))) dNext)
    (dSeq (dIfS (dNot (dTru (dCall (sp_law_same K) WD [] (daCons (dCallDef0 [12, 4, 7] fa1 fc1 (("law" : Str) ++ ".<locals>." ++ "_law_key") ob1 (fun vs => sp_run_by K (fvC fa1 fc1 (("law" : Str) ++ ".<locals>." ++ "_law_key") vs (fun env ds m Q _ => ds.length = 1 ∧ (dSeq (dDrop (dBM isL dAppend (dVar 1) (daCons (dVar 0) daNil))) (dRet (dCall (sp_law_rank K) WD0 [] (daCons (dVar 0) (daCons (dVar 2) (daCons (dVar 3) daNil)))))) { nx := fun _ m => Q .non m, rt := Q } (startC ["_law_job", "_law_calls", "_law_way", "_law_ranks"] ds env) m))) WD [.int 1] (daCons (dVar 10) (daCons (dVar 13) daNil))) (daCons (dVar 14) daNil))))) (dRet (dC (.bl false))) dNext)
    (dRet (dAndV (dCall (sp_law_same K) WD [] (daCons (dCall (sp_earliest_deadline K) WD [.int 1] (daCons (dVar 10) daNil)) (daCons (dCall (sp_law_play K) WD [] (daCons (dVar 11) (daCons (dVar 17) (daCons (dC (.int 1)) daNil)))) daNil))) (dOp dEq (dProp (ga K "Run") (sp_Run_jobs K) (dVar 10)) (dVar 11)))))))))))))))))))))))))))

def da_UnknownKind_init : DefA := ⟨fun K => ma K (ga K "UnknownKind") "__init__", "__init__", "UnknownKind.__init__", defArgs s_UnknownKind_init, defBody s_UnknownKind_init, defScope s_UnknownKind_init, [], []⟩
def da_OutOfRange_init : DefA := ⟨fun K => ma K (ga K "OutOfRange") "__init__", "__init__", "OutOfRange.__init__", defArgs s_OutOfRange_init, defBody s_OutOfRange_init, defScope s_OutOfRange_init, [], []⟩
def da_WrongCount_init : DefA := ⟨fun K => ma K (ga K "WrongCount") "__init__", "__init__", "WrongCount.__init__", defArgs s_WrongCount_init, defBody s_WrongCount_init, defScope s_WrongCount_init, [], []⟩
def da_BadCost_init : DefA := ⟨fun K => ma K (ga K "BadCost") "__init__", "__init__", "BadCost.__init__", defArgs s_BadCost_init, defBody s_BadCost_init, defScope s_BadCost_init, [], []⟩
def da_BadRelease_init : DefA := ⟨fun K => ma K (ga K "BadRelease") "__init__", "__init__", "BadRelease.__init__", defArgs s_BadRelease_init, defBody s_BadRelease_init, defScope s_BadRelease_init, [], []⟩
def da_NoArrow_init : DefA := ⟨fun K => ma K (ga K "NoArrow") "__init__", "__init__", "NoArrow.__init__", defArgs s_NoArrow_init, defBody s_NoArrow_init, defScope s_NoArrow_init, [], []⟩
def da_GapTooShort_init : DefA := ⟨fun K => ma K (ga K "GapTooShort") "__init__", "__init__", "GapTooShort.__init__", defArgs s_GapTooShort_init, defBody s_GapTooShort_init, defScope s_GapTooShort_init, [], []⟩
def da_is_name : DefA := ⟨fun K => ga K "is_name", "is_name", "is_name", defArgs s_is_name, defBody s_is_name, defScope s_is_name, [], []⟩
def da_need_name : DefA := ⟨fun K => ga K "need_name", "need_name", "need_name", defArgs s_need_name, defBody s_need_name, defScope s_need_name, [], []⟩
def da_need_range : DefA := ⟨fun K => ga K "need_range", "need_range", "need_range", defArgs s_need_range, defBody s_need_range, defScope s_need_range, [], []⟩
def da_need_kind : DefA := ⟨fun K => ga K "need_kind", "need_kind", "need_kind", defArgs s_need_kind, defBody s_need_kind, defScope s_need_kind, [], []⟩
def da_checked_kinds : DefA := ⟨fun K => ga K "checked_kinds", "checked_kinds", "checked_kinds", defArgs s_checked_kinds, defBody s_checked_kinds, defScope s_checked_kinds, [], []⟩
def da_checked_arrows : DefA := ⟨fun K => ga K "checked_arrows", "checked_arrows", "checked_arrows", defArgs s_checked_arrows, defBody s_checked_arrows, defScope s_checked_arrows, [], []⟩
def da_Task_init : DefA := ⟨fun K => ma K (ga K "Task") "__init__", "__init__", "Task.__init__", defArgs s_Task_init, defBody s_Task_init, defScope s_Task_init, [.adr (dflA (fun K => ma K (ga K "Task") "__init__") 0)], []⟩
def da_Task_kinds : DefA := ⟨fun K => wad K "property" "Task" "kinds", "kinds", "Task.kinds", defArgs s_Task_kinds, defBody s_Task_kinds, defScope s_Task_kinds, [], []⟩
def da_Task_row_of : DefA := ⟨fun K => ma K (ga K "Task") "row_of", "row_of", "Task.row_of", defArgs s_Task_row_of, defBody s_Task_row_of, defScope s_Task_row_of, [], []⟩
def da_Task_cost_of : DefA := ⟨fun K => ma K (ga K "Task") "cost_of", "cost_of", "Task.cost_of", defArgs s_Task_cost_of, defBody s_Task_cost_of, defScope s_Task_cost_of, [], []⟩
def da_Task_deadline_of : DefA := ⟨fun K => ma K (ga K "Task") "deadline_of", "deadline_of", "Task.deadline_of", defArgs s_Task_deadline_of, defBody s_Task_deadline_of, defScope s_Task_deadline_of, [], []⟩
def da_Task_followers : DefA := ⟨fun K => ma K (ga K "Task") "followers", "followers", "Task.followers", defArgs s_Task_followers, defBody s_Task_followers, defScope s_Task_followers, [], []⟩
def da_gap_between : DefA := ⟨fun K => ga K "gap_between", "gap_between", "gap_between", defArgs s_gap_between, defBody s_gap_between, defScope s_gap_between, [], []⟩
def da_check_job : DefA := ⟨fun K => ga K "check_job", "check_job", "check_job", defArgs s_check_job, defBody s_check_job, defScope s_check_job, [], []⟩
def da_check_counts : DefA := ⟨fun K => ga K "check_counts", "check_counts", "check_counts", defArgs s_check_counts, defBody s_check_counts, defScope s_check_counts, [], []⟩
def da_Run_init : DefA := ⟨fun K => ma K (ga K "Run") "__init__", "__init__", "Run.__init__", defArgs s_Run_init, defBody s_Run_init, defScope s_Run_init, [], [("grain", .int 1)]⟩
def da_Run_jobs : DefA := ⟨fun K => wad K "property" "Run" "jobs", "jobs", "Run.jobs", defArgs s_Run_jobs, defBody s_Run_jobs, defScope s_Run_jobs, [], []⟩
def da_check_speed : DefA := ⟨fun K => ga K "check_speed", "check_speed", "check_speed", defArgs s_check_speed, defBody s_check_speed, defScope s_check_speed, [], []⟩
def da_add_slice : DefA := ⟨fun K => ga K "add_slice", "add_slice", "add_slice", defArgs s_add_slice, defBody s_add_slice, defScope s_add_slice, [], []⟩
def da_run_by : DefA := ⟨fun K => ga K "run_by", "run_by", "run_by", defArgs s_run_by, defBody s_run_by, defScope s_run_by, [], [("speed", .int 1)]⟩
def da_due_of : DefA := ⟨fun K => ga K "due_of", "due_of", "due_of", defArgs s_due_of, defBody s_due_of, defScope s_due_of, [], []⟩
def da_earliest_deadline : DefA := ⟨fun K => ga K "earliest_deadline", "earliest_deadline", "earliest_deadline", defArgs s_earliest_deadline, defBody s_earliest_deadline, defScope s_earliest_deadline, [], [("speed", .int 1)]⟩
def da_law_cell : DefA := ⟨fun K => ga K "_law_cell", "_law_cell", "_law_cell", defArgs s_law_cell, defBody s_law_cell, defScope s_law_cell, [], []⟩
def da_law_source : DefA := ⟨fun K => ga K "_law_source", "_law_source", "_law_source", defArgs s_law_source, defBody s_law_source, defScope s_law_source, [], []⟩
def da_law_draw : DefA := ⟨fun K => ga K "_law_draw", "_law_draw", "_law_draw", defArgs s_law_draw, defBody s_law_draw, defScope s_law_draw, [], []⟩
def da_law_small_task : DefA := ⟨fun K => ga K "_law_small_task", "_law_small_task", "_law_small_task", defArgs s_law_small_task, defBody s_law_small_task, defScope s_law_small_task, [], []⟩
def da_law_walk : DefA := ⟨fun K => ga K "_law_walk", "_law_walk", "_law_walk", defArgs s_law_walk, defBody s_law_walk, defScope s_law_walk, [], []⟩
def da_law_rank : DefA := ⟨fun K => ga K "_law_rank", "_law_rank", "_law_rank", defArgs s_law_rank, defBody s_law_rank, defScope s_law_rank, [], []⟩
def da_law_play : DefA := ⟨fun K => ga K "_law_play", "_law_play", "_law_play", defArgs s_law_play, defBody s_law_play, defScope s_law_play, [], []⟩
def da_law_same : DefA := ⟨fun K => ga K "_law_same", "_law_same", "_law_same", defArgs s_law_same, defBody s_law_same, defScope s_law_same, [], []⟩
def da_law_bad_speed : DefA := ⟨fun K => ga K "_law_bad_speed", "_law_bad_speed", "_law_bad_speed", defArgs s_law_bad_speed, defBody s_law_bad_speed, defScope s_law_bad_speed, [], []⟩
def da_law : DefA := ⟨fun K => ga K "law", "law", "law", defArgs s_law, defBody s_law, defScope s_law, [], []⟩
def fn : List DefA := [da_UnknownKind_init, da_OutOfRange_init, da_WrongCount_init, da_BadCost_init, da_BadRelease_init, da_NoArrow_init, da_GapTooShort_init, da_is_name, da_need_name, da_need_range, da_need_kind, da_checked_kinds, da_checked_arrows, da_Task_init, da_Task_kinds, da_Task_row_of, da_Task_cost_of, da_Task_deadline_of, da_Task_followers, da_gap_between, da_check_job, da_check_counts, da_Run_init, da_Run_jobs, da_check_speed, da_add_slice, da_run_by, da_due_of, da_earliest_deadline, da_law_cell, da_law_source, da_law_draw, da_law_small_task, da_law_walk, da_law_rank, da_law_play, da_law_same, da_law_bad_speed, da_law]
def fa : List (Fr0 → Bool) := [
  fun K => (He.Fa.glo "check_speed").ok K,
  fun K => (He.Fa.glo "add_slice").ok K,
  fun K => (He.Fa.glo "run_by").ok K,
  fun K => (He.Fa.glo "due_of").ok K,
  fun K => (He.Fa.glo "earliest_deadline").ok K,
  fun K => (He.Fa.glo "gap_between").ok K,
  fun K => (He.Fa.glo "check_job").ok K,
  fun K => (He.Fa.glo "check_counts").ok K,
  fun K => (He.Fa.glo "is_name").ok K,
  fun K => (He.Fa.glo "need_name").ok K,
  fun K => (He.Fa.glo "need_range").ok K,
  fun K => (He.Fa.glo "need_kind").ok K,
  fun K => (He.Fa.glo "checked_kinds").ok K,
  fun K => (He.Fa.glo "checked_arrows").ok K,
  fun K => (He.Fa.glo "_law_cell").ok K,
  fun K => (He.Fa.glo "_law_source").ok K,
  fun K => (He.Fa.glo "_law_draw").ok K,
  fun K => (He.Fa.glo "_law_small_task").ok K,
  fun K => (He.Fa.glo "_law_walk").ok K,
  fun K => (He.Fa.glo "_law_rank").ok K,
  fun K => (He.Fa.glo "_law_play").ok K,
  fun K => (He.Fa.glo "_law_same").ok K,
  fun K => (He.Fa.glo "_law_bad_speed").ok K,
  fun K => (He.Fa.glo "law").ok K,
  fun K => (He.Fa.glo "WrongCount").ok K,
  fun K => (He.Fa.glo "OutOfRange").ok K,
  fun K => (He.Fa.glo "UnknownKind").ok K,
  fun K => (He.Fa.glo "BadCost").ok K,
  fun K => (He.Fa.glo "BadRelease").ok K,
  fun K => (He.Fa.glo "NoArrow").ok K,
  fun K => (He.Fa.glo "GapTooShort").ok K,
  fun K => (He.Fa.glo "Run").ok K,
  fun K => (He.Fa.glo "Task").ok K,
  fun K => (He.Fa.free "all").ok K,
  fun K => (He.Fa.free "bool").ok K,
  fun K => (He.Fa.free "enumerate").ok K,
  fun K => (He.Fa.free "int").ok K,
  fun K => (He.Fa.free "isinstance").ok K,
  fun K => (He.Fa.free "len").ok K,
  fun K => (He.Fa.free "list").ok K,
  fun K => (He.Fa.free "max").ok K,
  fun K => (He.Fa.free "min").ok K,
  fun K => (He.Fa.free "range").ok K,
  fun K => (He.Fa.free "sorted").ok K,
  fun K => (He.Fa.free "sum").ok K,
  fun K => (He.Fa.int "SPEED_LIMIT" 99).ok K,
  fun K => (He.Fa.int "GRAIN_LIMIT" 60).ok K,
  fun K => (He.Fa.int "JOB_LIMIT" 400).ok K,
  fun K => (He.Fa.str "LETTERS" "abcdefghijklmnopqrstuvwxyz").ok K,
  fun K => (He.Fa.str "OTHER_SIGNS" "0123456789_").ok K,
  fun K => (He.Fa.int "LONGEST_NAME" 12).ok K,
  fun K => (He.Fa.int "MOST_KINDS" 4).ok K,
  fun K => (He.Fa.int "MOST_ARROWS" 12).ok K,
  fun K => (He.Fa.int "MOST_GAP" 12).ok K,
  fun K => (He.Fa.cls "Run").ok K,
  fun K => (He.Fa.mkr "Run").ok K,
  propB "Run" "jobs",
  fun K => (He.Fa.noat "Run" "grain").ok K,
  fun K => (He.Fa.noat "Run" "placed").ok K,
  fun K => (He.Fa.cls "Task").ok K,
  fun K => (He.Fa.mkr "Task").ok K,
  propB "Task" "kinds",
  fun K => (He.Fa.meth "Task" "row_of").ok K,
  fun K => (He.Fa.meth "Task" "cost_of").ok K,
  fun K => (He.Fa.meth "Task" "deadline_of").ok K,
  fun K => (He.Fa.meth "Task" "followers").ok K,
  fun K => (He.Fa.noat "Task" "name").ok K,
  fun K => (He.Fa.noat "Task" "kind_rows").ok K,
  fun K => (He.Fa.noat "Task" "arrow_rows").ok K,
  oexB "BadCost",
  exmB "BadCost" "OutOfRange" false,
  oexB "BadRelease",
  exmB "BadRelease" "OutOfRange" false,
  oexB "GapTooShort",
  exmB "GapTooShort" "OutOfRange" false,
  oexB "NoArrow",
  exmB "NoArrow" "OutOfRange" false,
  oexB "OutOfRange",
  exmB "OutOfRange" "OutOfRange" true,
  oexB "UnknownKind",
  exmB "UnknownKind" "OutOfRange" false,
  oexB "WrongCount",
  exmB "WrongCount" "OutOfRange" false,
  nofB "BadCost" "place",
  nofB "BadCost" "task",
  nofB "BadRelease" "place",
  nofB "BadRelease" "task",
  nofB "GapTooShort" "place",
  nofB "GapTooShort" "task",
  nofB "NoArrow" "place",
  nofB "NoArrow" "task",
  nofB "OutOfRange" "value",
  nofB "OutOfRange" "what",
  nofB "UnknownKind" "name",
  nofB "WrongCount" "count",
  nofB "WrongCount" "what",
  xfcB "OutOfRange",
  tup0B (dflA (fun K => ma K (ga K "Task") "__init__") 0),
  lamB 1,
  lamB 2,
  lamBN 9 "_law_noted",
  lamBN 10 "_law_key"]
structure Txt (K : Fr0) (mg : Str → Option Value) : Prop where
  says : Says fa fn K
  ex : ∃ h : Heap, K.In h ∧ h.Ns mainGlobals mg
section
variable {K : Fr0} {mg : Str → Option Value}
theorem Txt.g_check_speed (T : Txt K mg) : mg "check_speed" = some (.ref (ga K "check_speed")) := by
  obtain ⟨h, kin, g⟩ := T.ex
  exact He.glo_ok kin g (T.says.fact 0 rfl)
theorem Txt.g_add_slice (T : Txt K mg) : mg "add_slice" = some (.ref (ga K "add_slice")) := by
  obtain ⟨h, kin, g⟩ := T.ex
  exact He.glo_ok kin g (T.says.fact 1 rfl)
theorem Txt.g_run_by (T : Txt K mg) : mg "run_by" = some (.ref (ga K "run_by")) := by
  obtain ⟨h, kin, g⟩ := T.ex
  exact He.glo_ok kin g (T.says.fact 2 rfl)
theorem Txt.g_due_of (T : Txt K mg) : mg "due_of" = some (.ref (ga K "due_of")) := by
  obtain ⟨h, kin, g⟩ := T.ex
  exact He.glo_ok kin g (T.says.fact 3 rfl)
theorem Txt.g_earliest_deadline (T : Txt K mg) : mg "earliest_deadline" = some (.ref (ga K "earliest_deadline")) := by
  obtain ⟨h, kin, g⟩ := T.ex
  exact He.glo_ok kin g (T.says.fact 4 rfl)
theorem Txt.g_gap_between (T : Txt K mg) : mg "gap_between" = some (.ref (ga K "gap_between")) := by
  obtain ⟨h, kin, g⟩ := T.ex
  exact He.glo_ok kin g (T.says.fact 5 rfl)
theorem Txt.g_check_job (T : Txt K mg) : mg "check_job" = some (.ref (ga K "check_job")) := by
  obtain ⟨h, kin, g⟩ := T.ex
  exact He.glo_ok kin g (T.says.fact 6 rfl)
theorem Txt.g_check_counts (T : Txt K mg) : mg "check_counts" = some (.ref (ga K "check_counts")) := by
  obtain ⟨h, kin, g⟩ := T.ex
  exact He.glo_ok kin g (T.says.fact 7 rfl)
theorem Txt.g_is_name (T : Txt K mg) : mg "is_name" = some (.ref (ga K "is_name")) := by
  obtain ⟨h, kin, g⟩ := T.ex
  exact He.glo_ok kin g (T.says.fact 8 rfl)
theorem Txt.g_need_name (T : Txt K mg) : mg "need_name" = some (.ref (ga K "need_name")) := by
  obtain ⟨h, kin, g⟩ := T.ex
  exact He.glo_ok kin g (T.says.fact 9 rfl)
theorem Txt.g_need_range (T : Txt K mg) : mg "need_range" = some (.ref (ga K "need_range")) := by
  obtain ⟨h, kin, g⟩ := T.ex
  exact He.glo_ok kin g (T.says.fact 10 rfl)
theorem Txt.g_need_kind (T : Txt K mg) : mg "need_kind" = some (.ref (ga K "need_kind")) := by
  obtain ⟨h, kin, g⟩ := T.ex
  exact He.glo_ok kin g (T.says.fact 11 rfl)
theorem Txt.g_checked_kinds (T : Txt K mg) : mg "checked_kinds" = some (.ref (ga K "checked_kinds")) := by
  obtain ⟨h, kin, g⟩ := T.ex
  exact He.glo_ok kin g (T.says.fact 12 rfl)
theorem Txt.g_checked_arrows (T : Txt K mg) : mg "checked_arrows" = some (.ref (ga K "checked_arrows")) := by
  obtain ⟨h, kin, g⟩ := T.ex
  exact He.glo_ok kin g (T.says.fact 13 rfl)
theorem Txt.g_law_cell (T : Txt K mg) : mg "_law_cell" = some (.ref (ga K "_law_cell")) := by
  obtain ⟨h, kin, g⟩ := T.ex
  exact He.glo_ok kin g (T.says.fact 14 rfl)
theorem Txt.g_law_source (T : Txt K mg) : mg "_law_source" = some (.ref (ga K "_law_source")) := by
  obtain ⟨h, kin, g⟩ := T.ex
  exact He.glo_ok kin g (T.says.fact 15 rfl)
theorem Txt.g_law_draw (T : Txt K mg) : mg "_law_draw" = some (.ref (ga K "_law_draw")) := by
  obtain ⟨h, kin, g⟩ := T.ex
  exact He.glo_ok kin g (T.says.fact 16 rfl)
theorem Txt.g_law_small_task (T : Txt K mg) : mg "_law_small_task" = some (.ref (ga K "_law_small_task")) := by
  obtain ⟨h, kin, g⟩ := T.ex
  exact He.glo_ok kin g (T.says.fact 17 rfl)
theorem Txt.g_law_walk (T : Txt K mg) : mg "_law_walk" = some (.ref (ga K "_law_walk")) := by
  obtain ⟨h, kin, g⟩ := T.ex
  exact He.glo_ok kin g (T.says.fact 18 rfl)
theorem Txt.g_law_rank (T : Txt K mg) : mg "_law_rank" = some (.ref (ga K "_law_rank")) := by
  obtain ⟨h, kin, g⟩ := T.ex
  exact He.glo_ok kin g (T.says.fact 19 rfl)
theorem Txt.g_law_play (T : Txt K mg) : mg "_law_play" = some (.ref (ga K "_law_play")) := by
  obtain ⟨h, kin, g⟩ := T.ex
  exact He.glo_ok kin g (T.says.fact 20 rfl)
theorem Txt.g_law_same (T : Txt K mg) : mg "_law_same" = some (.ref (ga K "_law_same")) := by
  obtain ⟨h, kin, g⟩ := T.ex
  exact He.glo_ok kin g (T.says.fact 21 rfl)
theorem Txt.g_law_bad_speed (T : Txt K mg) : mg "_law_bad_speed" = some (.ref (ga K "_law_bad_speed")) := by
  obtain ⟨h, kin, g⟩ := T.ex
  exact He.glo_ok kin g (T.says.fact 22 rfl)
theorem Txt.g_law (T : Txt K mg) : mg "law" = some (.ref (ga K "law")) := by
  obtain ⟨h, kin, g⟩ := T.ex
  exact He.glo_ok kin g (T.says.fact 23 rfl)
theorem Txt.g_WrongCount (T : Txt K mg) : mg "WrongCount" = some (.ref (ga K "WrongCount")) := by
  obtain ⟨h, kin, g⟩ := T.ex
  exact He.glo_ok kin g (T.says.fact 24 rfl)
theorem Txt.g_OutOfRange (T : Txt K mg) : mg "OutOfRange" = some (.ref (ga K "OutOfRange")) := by
  obtain ⟨h, kin, g⟩ := T.ex
  exact He.glo_ok kin g (T.says.fact 25 rfl)
theorem Txt.g_UnknownKind (T : Txt K mg) : mg "UnknownKind" = some (.ref (ga K "UnknownKind")) := by
  obtain ⟨h, kin, g⟩ := T.ex
  exact He.glo_ok kin g (T.says.fact 26 rfl)
theorem Txt.g_BadCost (T : Txt K mg) : mg "BadCost" = some (.ref (ga K "BadCost")) := by
  obtain ⟨h, kin, g⟩ := T.ex
  exact He.glo_ok kin g (T.says.fact 27 rfl)
theorem Txt.g_BadRelease (T : Txt K mg) : mg "BadRelease" = some (.ref (ga K "BadRelease")) := by
  obtain ⟨h, kin, g⟩ := T.ex
  exact He.glo_ok kin g (T.says.fact 28 rfl)
theorem Txt.g_NoArrow (T : Txt K mg) : mg "NoArrow" = some (.ref (ga K "NoArrow")) := by
  obtain ⟨h, kin, g⟩ := T.ex
  exact He.glo_ok kin g (T.says.fact 29 rfl)
theorem Txt.g_GapTooShort (T : Txt K mg) : mg "GapTooShort" = some (.ref (ga K "GapTooShort")) := by
  obtain ⟨h, kin, g⟩ := T.ex
  exact He.glo_ok kin g (T.says.fact 30 rfl)
theorem Txt.g_Run (T : Txt K mg) : mg "Run" = some (.ref (ga K "Run")) := by
  obtain ⟨h, kin, g⟩ := T.ex
  exact He.glo_ok kin g (T.says.fact 31 rfl)
theorem Txt.g_Task (T : Txt K mg) : mg "Task" = some (.ref (ga K "Task")) := by
  obtain ⟨h, kin, g⟩ := T.ex
  exact He.glo_ok kin g (T.says.fact 32 rfl)
theorem Txt.b_all (T : Txt K mg) : mg "all" = none := by
  obtain ⟨h, kin, g⟩ := T.ex
  exact He.free_ok kin g (T.says.fact 33 rfl)
theorem Txt.b_bool (T : Txt K mg) : mg "bool" = none := by
  obtain ⟨h, kin, g⟩ := T.ex
  exact He.free_ok kin g (T.says.fact 34 rfl)
theorem Txt.b_enumerate (T : Txt K mg) : mg "enumerate" = none := by
  obtain ⟨h, kin, g⟩ := T.ex
  exact He.free_ok kin g (T.says.fact 35 rfl)
theorem Txt.b_int (T : Txt K mg) : mg "int" = none := by
  obtain ⟨h, kin, g⟩ := T.ex
  exact He.free_ok kin g (T.says.fact 36 rfl)
theorem Txt.b_isinstance (T : Txt K mg) : mg "isinstance" = none := by
  obtain ⟨h, kin, g⟩ := T.ex
  exact He.free_ok kin g (T.says.fact 37 rfl)
theorem Txt.b_len (T : Txt K mg) : mg "len" = none := by
  obtain ⟨h, kin, g⟩ := T.ex
  exact He.free_ok kin g (T.says.fact 38 rfl)
theorem Txt.b_list (T : Txt K mg) : mg "list" = none := by
  obtain ⟨h, kin, g⟩ := T.ex
  exact He.free_ok kin g (T.says.fact 39 rfl)
theorem Txt.b_max (T : Txt K mg) : mg "max" = none := by
  obtain ⟨h, kin, g⟩ := T.ex
  exact He.free_ok kin g (T.says.fact 40 rfl)
theorem Txt.b_min (T : Txt K mg) : mg "min" = none := by
  obtain ⟨h, kin, g⟩ := T.ex
  exact He.free_ok kin g (T.says.fact 41 rfl)
theorem Txt.b_range (T : Txt K mg) : mg "range" = none := by
  obtain ⟨h, kin, g⟩ := T.ex
  exact He.free_ok kin g (T.says.fact 42 rfl)
theorem Txt.b_sorted (T : Txt K mg) : mg "sorted" = none := by
  obtain ⟨h, kin, g⟩ := T.ex
  exact He.free_ok kin g (T.says.fact 43 rfl)
theorem Txt.b_sum (T : Txt K mg) : mg "sum" = none := by
  obtain ⟨h, kin, g⟩ := T.ex
  exact He.free_ok kin g (T.says.fact 44 rfl)
theorem Txt.k_SPEED_LIMIT (T : Txt K mg) : ∃ t, mg "SPEED_LIMIT" = some (.int 99 t) := by
  obtain ⟨h, kin, g⟩ := T.ex
  exact He.int_ok kin g (T.says.fact 45 rfl)
theorem Txt.k_GRAIN_LIMIT (T : Txt K mg) : ∃ t, mg "GRAIN_LIMIT" = some (.int 60 t) := by
  obtain ⟨h, kin, g⟩ := T.ex
  exact He.int_ok kin g (T.says.fact 46 rfl)
theorem Txt.k_JOB_LIMIT (T : Txt K mg) : ∃ t, mg "JOB_LIMIT" = some (.int 400 t) := by
  obtain ⟨h, kin, g⟩ := T.ex
  exact He.int_ok kin g (T.says.fact 47 rfl)
theorem Txt.k_LETTERS (T : Txt K mg) : ∃ t, mg "LETTERS" = some (.str "abcdefghijklmnopqrstuvwxyz" t) := by
  obtain ⟨h, kin, g⟩ := T.ex
  exact He.str_ok kin g (T.says.fact 48 rfl)
theorem Txt.k_OTHER_SIGNS (T : Txt K mg) : ∃ t, mg "OTHER_SIGNS" = some (.str "0123456789_" t) := by
  obtain ⟨h, kin, g⟩ := T.ex
  exact He.str_ok kin g (T.says.fact 49 rfl)
theorem Txt.k_LONGEST_NAME (T : Txt K mg) : ∃ t, mg "LONGEST_NAME" = some (.int 12 t) := by
  obtain ⟨h, kin, g⟩ := T.ex
  exact He.int_ok kin g (T.says.fact 50 rfl)
theorem Txt.k_MOST_KINDS (T : Txt K mg) : ∃ t, mg "MOST_KINDS" = some (.int 4 t) := by
  obtain ⟨h, kin, g⟩ := T.ex
  exact He.int_ok kin g (T.says.fact 51 rfl)
theorem Txt.k_MOST_ARROWS (T : Txt K mg) : ∃ t, mg "MOST_ARROWS" = some (.int 12 t) := by
  obtain ⟨h, kin, g⟩ := T.ex
  exact He.int_ok kin g (T.says.fact 52 rfl)
theorem Txt.k_MOST_GAP (T : Txt K mg) : ∃ t, mg "MOST_GAP" = some (.int 12 t) := by
  obtain ⟨h, kin, g⟩ := T.ex
  exact He.int_ok kin g (T.says.fact 53 rfl)
theorem Txt.cl_Run (T : Txt K mg) : Cls K (ga K "Run") := He.cls_ok (T.says.fact 54 rfl)
theorem Txt.mk_Run (T : Txt K mg) : Mk K (ga K "Run") (ma K (ga K "Run") "__init__") := He.mkr_ok (T.says.fact 55 rfl)
theorem Txt.p_Run_jobs (T : Txt K mg) : PropOf K (ga K "Run") "jobs" (pad K "Run" "jobs") (wad K "property" "Run" "jobs") := prop_of (T.says.fact 56 rfl)
theorem Txt.n_Run_grain (T : Txt K mg) : NoAttr K (ga K "Run") "grain" := He.noat_ok (T.says.fact 57 rfl)
theorem Txt.n_Run_placed (T : Txt K mg) : NoAttr K (ga K "Run") "placed" := He.noat_ok (T.says.fact 58 rfl)
theorem Txt.cl_Task (T : Txt K mg) : Cls K (ga K "Task") := He.cls_ok (T.says.fact 59 rfl)
theorem Txt.mk_Task (T : Txt K mg) : Mk K (ga K "Task") (ma K (ga K "Task") "__init__") := He.mkr_ok (T.says.fact 60 rfl)
theorem Txt.m_Task_row_of (T : Txt K mg) : Meth K (ga K "Task") "row_of" (ma K (ga K "Task") "row_of") := He.meth_ok (T.says.fact 62 rfl)
theorem Txt.m_Task_cost_of (T : Txt K mg) : Meth K (ga K "Task") "cost_of" (ma K (ga K "Task") "cost_of") := He.meth_ok (T.says.fact 63 rfl)
theorem Txt.m_Task_deadline_of (T : Txt K mg) : Meth K (ga K "Task") "deadline_of" (ma K (ga K "Task") "deadline_of") := He.meth_ok (T.says.fact 64 rfl)
theorem Txt.m_Task_followers (T : Txt K mg) : Meth K (ga K "Task") "followers" (ma K (ga K "Task") "followers") := He.meth_ok (T.says.fact 65 rfl)
theorem Txt.n_Task_name (T : Txt K mg) : NoAttr K (ga K "Task") "name" := He.noat_ok (T.says.fact 66 rfl)
theorem Txt.n_Task_kind_rows (T : Txt K mg) : NoAttr K (ga K "Task") "kind_rows" := He.noat_ok (T.says.fact 67 rfl)
theorem Txt.n_Task_arrow_rows (T : Txt K mg) : NoAttr K (ga K "Task") "arrow_rows" := He.noat_ok (T.says.fact 68 rfl)
theorem Txt.ox_BadCost (T : Txt K mg) : OexC K (ga K "BadCost") := (oex_of (T.says.fact 69 rfl)).1
theorem Txt.oxi_BadCost (T : Txt K mg) : PySem.W.findIn K (.ref (ga K "BadCost")) "__init__" = some (some (.ref (ma K (ga K "BadCost") "__init__"))) := (oex_of (T.says.fact 69 rfl)).2.1
theorem Txt.oxf_BadCost (T : Txt K mg) : PySem.W.typeIn K (.ref (ma K (ga K "BadCost") "__init__")) = some (.type "function") := (oex_of (T.says.fact 69 rfl)).2.2
theorem Txt.ox_BadRelease (T : Txt K mg) : OexC K (ga K "BadRelease") := (oex_of (T.says.fact 71 rfl)).1
theorem Txt.oxi_BadRelease (T : Txt K mg) : PySem.W.findIn K (.ref (ga K "BadRelease")) "__init__" = some (some (.ref (ma K (ga K "BadRelease") "__init__"))) := (oex_of (T.says.fact 71 rfl)).2.1
theorem Txt.oxf_BadRelease (T : Txt K mg) : PySem.W.typeIn K (.ref (ma K (ga K "BadRelease") "__init__")) = some (.type "function") := (oex_of (T.says.fact 71 rfl)).2.2
theorem Txt.ox_GapTooShort (T : Txt K mg) : OexC K (ga K "GapTooShort") := (oex_of (T.says.fact 73 rfl)).1
theorem Txt.oxi_GapTooShort (T : Txt K mg) : PySem.W.findIn K (.ref (ga K "GapTooShort")) "__init__" = some (some (.ref (ma K (ga K "GapTooShort") "__init__"))) := (oex_of (T.says.fact 73 rfl)).2.1
theorem Txt.oxf_GapTooShort (T : Txt K mg) : PySem.W.typeIn K (.ref (ma K (ga K "GapTooShort") "__init__")) = some (.type "function") := (oex_of (T.says.fact 73 rfl)).2.2
theorem Txt.ox_NoArrow (T : Txt K mg) : OexC K (ga K "NoArrow") := (oex_of (T.says.fact 75 rfl)).1
theorem Txt.oxi_NoArrow (T : Txt K mg) : PySem.W.findIn K (.ref (ga K "NoArrow")) "__init__" = some (some (.ref (ma K (ga K "NoArrow") "__init__"))) := (oex_of (T.says.fact 75 rfl)).2.1
theorem Txt.oxf_NoArrow (T : Txt K mg) : PySem.W.typeIn K (.ref (ma K (ga K "NoArrow") "__init__")) = some (.type "function") := (oex_of (T.says.fact 75 rfl)).2.2
theorem Txt.ox_OutOfRange (T : Txt K mg) : OexC K (ga K "OutOfRange") := (oex_of (T.says.fact 77 rfl)).1
theorem Txt.oxi_OutOfRange (T : Txt K mg) : PySem.W.findIn K (.ref (ga K "OutOfRange")) "__init__" = some (some (.ref (ma K (ga K "OutOfRange") "__init__"))) := (oex_of (T.says.fact 77 rfl)).2.1
theorem Txt.oxf_OutOfRange (T : Txt K mg) : PySem.W.typeIn K (.ref (ma K (ga K "OutOfRange") "__init__")) = some (.type "function") := (oex_of (T.says.fact 77 rfl)).2.2
theorem Txt.xm_OutOfRange_OutOfRange (T : Txt K mg) : PySem.W.exmOne K (.ref (ga K "OutOfRange")) (.ref (ga K "OutOfRange")) = some true := of_decide_eq_true (T.says.fact 78 rfl)
theorem Txt.ox_UnknownKind (T : Txt K mg) : OexC K (ga K "UnknownKind") := (oex_of (T.says.fact 79 rfl)).1
theorem Txt.oxi_UnknownKind (T : Txt K mg) : PySem.W.findIn K (.ref (ga K "UnknownKind")) "__init__" = some (some (.ref (ma K (ga K "UnknownKind") "__init__"))) := (oex_of (T.says.fact 79 rfl)).2.1
theorem Txt.oxf_UnknownKind (T : Txt K mg) : PySem.W.typeIn K (.ref (ma K (ga K "UnknownKind") "__init__")) = some (.type "function") := (oex_of (T.says.fact 79 rfl)).2.2
theorem Txt.ox_WrongCount (T : Txt K mg) : OexC K (ga K "WrongCount") := (oex_of (T.says.fact 81 rfl)).1
theorem Txt.oxi_WrongCount (T : Txt K mg) : PySem.W.findIn K (.ref (ga K "WrongCount")) "__init__" = some (some (.ref (ma K (ga K "WrongCount") "__init__"))) := (oex_of (T.says.fact 81 rfl)).2.1
theorem Txt.oxf_WrongCount (T : Txt K mg) : PySem.W.typeIn K (.ref (ma K (ga K "WrongCount") "__init__")) = some (.type "function") := (oex_of (T.says.fact 81 rfl)).2.2
theorem Txt.nf_BadCost_place (T : Txt K mg) : PySem.W.findIn K (.ref (ga K "BadCost")) "place" = some none := of_decide_eq_true (T.says.fact 83 rfl)
theorem Txt.nf_BadCost_task (T : Txt K mg) : PySem.W.findIn K (.ref (ga K "BadCost")) "task" = some none := of_decide_eq_true (T.says.fact 84 rfl)
theorem Txt.nf_BadRelease_place (T : Txt K mg) : PySem.W.findIn K (.ref (ga K "BadRelease")) "place" = some none := of_decide_eq_true (T.says.fact 85 rfl)
theorem Txt.nf_BadRelease_task (T : Txt K mg) : PySem.W.findIn K (.ref (ga K "BadRelease")) "task" = some none := of_decide_eq_true (T.says.fact 86 rfl)
theorem Txt.nf_GapTooShort_place (T : Txt K mg) : PySem.W.findIn K (.ref (ga K "GapTooShort")) "place" = some none := of_decide_eq_true (T.says.fact 87 rfl)
theorem Txt.nf_GapTooShort_task (T : Txt K mg) : PySem.W.findIn K (.ref (ga K "GapTooShort")) "task" = some none := of_decide_eq_true (T.says.fact 88 rfl)
theorem Txt.nf_NoArrow_place (T : Txt K mg) : PySem.W.findIn K (.ref (ga K "NoArrow")) "place" = some none := of_decide_eq_true (T.says.fact 89 rfl)
theorem Txt.nf_NoArrow_task (T : Txt K mg) : PySem.W.findIn K (.ref (ga K "NoArrow")) "task" = some none := of_decide_eq_true (T.says.fact 90 rfl)
theorem Txt.nf_OutOfRange_value (T : Txt K mg) : PySem.W.findIn K (.ref (ga K "OutOfRange")) "value" = some none := of_decide_eq_true (T.says.fact 91 rfl)
theorem Txt.nf_OutOfRange_what (T : Txt K mg) : PySem.W.findIn K (.ref (ga K "OutOfRange")) "what" = some none := of_decide_eq_true (T.says.fact 92 rfl)
theorem Txt.nf_UnknownKind_name (T : Txt K mg) : PySem.W.findIn K (.ref (ga K "UnknownKind")) "name" = some none := of_decide_eq_true (T.says.fact 93 rfl)
theorem Txt.nf_WrongCount_count (T : Txt K mg) : PySem.W.findIn K (.ref (ga K "WrongCount")) "count" = some none := of_decide_eq_true (T.says.fact 94 rfl)
theorem Txt.nf_WrongCount_what (T : Txt K mg) : PySem.W.findIn K (.ref (ga K "WrongCount")) "what" = some none := of_decide_eq_true (T.says.fact 95 rfl)
theorem Txt.xf_OutOfRange (T : Txt K mg) : XfC K (ga K "OutOfRange") := xfB_ok (T.says.fact 96 rfl)
theorem Txt.t0_Task_init (T : Txt K mg) : tup0B (dflA (fun K => ma K (ga K "Task") "__init__") 0) K = true := T.says.fact 97 rfl
theorem Txt.lam_Run_init (T : Txt K mg) : ∃ c Pt, tabAt K (ma K (ga K "Run") "__init__") "Run.__init__" = some (c, Pt) ∧ (c, Pt, ("Run.__init__" : Str) ++ ".<locals>." ++ "<lambda>") ∈ tbls3 K := lam_of (i := 1) (d := (some "Run", "__init__")) rfl (T.says.fact 98 rfl)
theorem Txt.lam_run_by (T : Txt K mg) : ∃ c Pt, tabAt K (ga K "run_by") "run_by" = some (c, Pt) ∧ (c, Pt, ("run_by" : Str) ++ ".<locals>." ++ "<lambda>") ∈ tbls3 K := lam_of (i := 2) (d := (none, "run_by")) rfl (T.says.fact 99 rfl)
theorem Txt.lam_law_bad_speed (T : Txt K mg) : ∃ c Pt, tabAt K (ga K "_law_bad_speed") "_law_bad_speed" = some (c, Pt) ∧ (c, Pt, ("_law_bad_speed" : Str) ++ ".<locals>." ++ "_law_noted") ∈ tbls3 K := lam_ofN (i := 9) (d := (none, "_law_bad_speed")) rfl (T.says.fact 100 rfl)
theorem Txt.lam_law (T : Txt K mg) : ∃ c Pt, tabAt K (ga K "law") "law" = some (c, Pt) ∧ (c, Pt, ("law" : Str) ++ ".<locals>." ++ "_law_key") ∈ tbls3 K := lam_ofN (i := 10) (d := (none, "law")) rfl (T.says.fact 101 rfl)
theorem Txt.d_UnknownKind_init (T : Txt K mg) : ∃ fd, FunD K "__init__" "UnknownKind.__init__" (defArgs s_UnknownKind_init) (defBody s_UnknownKind_init) (defScope s_UnknownKind_init) [] [] (ma K (ga K "UnknownKind") "__init__") fd := T.says.def_ 0 (d := da_UnknownKind_init) rfl
theorem Txt.d_OutOfRange_init (T : Txt K mg) : ∃ fd, FunD K "__init__" "OutOfRange.__init__" (defArgs s_OutOfRange_init) (defBody s_OutOfRange_init) (defScope s_OutOfRange_init) [] [] (ma K (ga K "OutOfRange") "__init__") fd := T.says.def_ 1 (d := da_OutOfRange_init) rfl
theorem Txt.d_WrongCount_init (T : Txt K mg) : ∃ fd, FunD K "__init__" "WrongCount.__init__" (defArgs s_WrongCount_init) (defBody s_WrongCount_init) (defScope s_WrongCount_init) [] [] (ma K (ga K "WrongCount") "__init__") fd := T.says.def_ 2 (d := da_WrongCount_init) rfl
theorem Txt.d_BadCost_init (T : Txt K mg) : ∃ fd, FunD K "__init__" "BadCost.__init__" (defArgs s_BadCost_init) (defBody s_BadCost_init) (defScope s_BadCost_init) [] [] (ma K (ga K "BadCost") "__init__") fd := T.says.def_ 3 (d := da_BadCost_init) rfl
theorem Txt.d_BadRelease_init (T : Txt K mg) : ∃ fd, FunD K "__init__" "BadRelease.__init__" (defArgs s_BadRelease_init) (defBody s_BadRelease_init) (defScope s_BadRelease_init) [] [] (ma K (ga K "BadRelease") "__init__") fd := T.says.def_ 4 (d := da_BadRelease_init) rfl
theorem Txt.d_NoArrow_init (T : Txt K mg) : ∃ fd, FunD K "__init__" "NoArrow.__init__" (defArgs s_NoArrow_init) (defBody s_NoArrow_init) (defScope s_NoArrow_init) [] [] (ma K (ga K "NoArrow") "__init__") fd := T.says.def_ 5 (d := da_NoArrow_init) rfl
theorem Txt.d_GapTooShort_init (T : Txt K mg) : ∃ fd, FunD K "__init__" "GapTooShort.__init__" (defArgs s_GapTooShort_init) (defBody s_GapTooShort_init) (defScope s_GapTooShort_init) [] [] (ma K (ga K "GapTooShort") "__init__") fd := T.says.def_ 6 (d := da_GapTooShort_init) rfl
theorem Txt.d_is_name (T : Txt K mg) : ∃ fd, FunD K "is_name" "is_name" (defArgs s_is_name) (defBody s_is_name) (defScope s_is_name) [] [] (ga K "is_name") fd := T.says.def_ 7 (d := da_is_name) rfl
theorem Txt.d_need_name (T : Txt K mg) : ∃ fd, FunD K "need_name" "need_name" (defArgs s_need_name) (defBody s_need_name) (defScope s_need_name) [] [] (ga K "need_name") fd := T.says.def_ 8 (d := da_need_name) rfl
theorem Txt.d_need_range (T : Txt K mg) : ∃ fd, FunD K "need_range" "need_range" (defArgs s_need_range) (defBody s_need_range) (defScope s_need_range) [] [] (ga K "need_range") fd := T.says.def_ 9 (d := da_need_range) rfl
theorem Txt.d_need_kind (T : Txt K mg) : ∃ fd, FunD K "need_kind" "need_kind" (defArgs s_need_kind) (defBody s_need_kind) (defScope s_need_kind) [] [] (ga K "need_kind") fd := T.says.def_ 10 (d := da_need_kind) rfl
theorem Txt.d_checked_kinds (T : Txt K mg) : ∃ fd, FunD K "checked_kinds" "checked_kinds" (defArgs s_checked_kinds) (defBody s_checked_kinds) (defScope s_checked_kinds) [] [] (ga K "checked_kinds") fd := T.says.def_ 11 (d := da_checked_kinds) rfl
theorem Txt.d_checked_arrows (T : Txt K mg) : ∃ fd, FunD K "checked_arrows" "checked_arrows" (defArgs s_checked_arrows) (defBody s_checked_arrows) (defScope s_checked_arrows) [] [] (ga K "checked_arrows") fd := T.says.def_ 12 (d := da_checked_arrows) rfl
theorem Txt.d_Task_init (T : Txt K mg) : ∃ fd, FunD K "__init__" "Task.__init__" (defArgs s_Task_init) (defBody s_Task_init) (defScope s_Task_init) [.ref ((dflA (fun K => ma K (ga K "Task") "__init__") 0) K)] [] (ma K (ga K "Task") "__init__") fd := T.says.def_ 13 (d := da_Task_init) rfl
theorem Txt.d_Task_row_of (T : Txt K mg) : ∃ fd, FunD K "row_of" "Task.row_of" (defArgs s_Task_row_of) (defBody s_Task_row_of) (defScope s_Task_row_of) [] [] (ma K (ga K "Task") "row_of") fd := T.says.def_ 15 (d := da_Task_row_of) rfl
theorem Txt.d_Task_cost_of (T : Txt K mg) : ∃ fd, FunD K "cost_of" "Task.cost_of" (defArgs s_Task_cost_of) (defBody s_Task_cost_of) (defScope s_Task_cost_of) [] [] (ma K (ga K "Task") "cost_of") fd := T.says.def_ 16 (d := da_Task_cost_of) rfl
theorem Txt.d_Task_deadline_of (T : Txt K mg) : ∃ fd, FunD K "deadline_of" "Task.deadline_of" (defArgs s_Task_deadline_of) (defBody s_Task_deadline_of) (defScope s_Task_deadline_of) [] [] (ma K (ga K "Task") "deadline_of") fd := T.says.def_ 17 (d := da_Task_deadline_of) rfl
theorem Txt.d_Task_followers (T : Txt K mg) : ∃ fd, FunD K "followers" "Task.followers" (defArgs s_Task_followers) (defBody s_Task_followers) (defScope s_Task_followers) [] [] (ma K (ga K "Task") "followers") fd := T.says.def_ 18 (d := da_Task_followers) rfl
theorem Txt.d_gap_between (T : Txt K mg) : ∃ fd, FunD K "gap_between" "gap_between" (defArgs s_gap_between) (defBody s_gap_between) (defScope s_gap_between) [] [] (ga K "gap_between") fd := T.says.def_ 19 (d := da_gap_between) rfl
theorem Txt.d_check_job (T : Txt K mg) : ∃ fd, FunD K "check_job" "check_job" (defArgs s_check_job) (defBody s_check_job) (defScope s_check_job) [] [] (ga K "check_job") fd := T.says.def_ 20 (d := da_check_job) rfl
theorem Txt.d_check_counts (T : Txt K mg) : ∃ fd, FunD K "check_counts" "check_counts" (defArgs s_check_counts) (defBody s_check_counts) (defScope s_check_counts) [] [] (ga K "check_counts") fd := T.says.def_ 21 (d := da_check_counts) rfl
theorem Txt.d_Run_init (T : Txt K mg) : ∃ fd, FunD K "__init__" "Run.__init__" (defArgs s_Run_init) (defBody s_Run_init) (defScope s_Run_init) [] [("grain", .int 1)] (ma K (ga K "Run") "__init__") fd := T.says.def_ 22 (d := da_Run_init) rfl
theorem Txt.d_Run_jobs (T : Txt K mg) : ∃ fd, FunD K "jobs" "Run.jobs" (defArgs s_Run_jobs) (defBody s_Run_jobs) (defScope s_Run_jobs) [] [] (wad K "property" "Run" "jobs") fd := T.says.def_ 23 (d := da_Run_jobs) rfl
theorem Txt.d_check_speed (T : Txt K mg) : ∃ fd, FunD K "check_speed" "check_speed" (defArgs s_check_speed) (defBody s_check_speed) (defScope s_check_speed) [] [] (ga K "check_speed") fd := T.says.def_ 24 (d := da_check_speed) rfl
theorem Txt.d_add_slice (T : Txt K mg) : ∃ fd, FunD K "add_slice" "add_slice" (defArgs s_add_slice) (defBody s_add_slice) (defScope s_add_slice) [] [] (ga K "add_slice") fd := T.says.def_ 25 (d := da_add_slice) rfl
theorem Txt.d_run_by (T : Txt K mg) : ∃ fd, FunD K "run_by" "run_by" (defArgs s_run_by) (defBody s_run_by) (defScope s_run_by) [] [("speed", .int 1)] (ga K "run_by") fd := T.says.def_ 26 (d := da_run_by) rfl
theorem Txt.d_due_of (T : Txt K mg) : ∃ fd, FunD K "due_of" "due_of" (defArgs s_due_of) (defBody s_due_of) (defScope s_due_of) [] [] (ga K "due_of") fd := T.says.def_ 27 (d := da_due_of) rfl
theorem Txt.d_earliest_deadline (T : Txt K mg) : ∃ fd, FunD K "earliest_deadline" "earliest_deadline" (defArgs s_earliest_deadline) (defBody s_earliest_deadline) (defScope s_earliest_deadline) [] [("speed", .int 1)] (ga K "earliest_deadline") fd := T.says.def_ 28 (d := da_earliest_deadline) rfl
theorem Txt.d_law_cell (T : Txt K mg) : ∃ fd, FunD K "_law_cell" "_law_cell" (defArgs s_law_cell) (defBody s_law_cell) (defScope s_law_cell) [] [] (ga K "_law_cell") fd := T.says.def_ 29 (d := da_law_cell) rfl
theorem Txt.d_law_source (T : Txt K mg) : ∃ fd, FunD K "_law_source" "_law_source" (defArgs s_law_source) (defBody s_law_source) (defScope s_law_source) [] [] (ga K "_law_source") fd := T.says.def_ 30 (d := da_law_source) rfl
theorem Txt.d_law_draw (T : Txt K mg) : ∃ fd, FunD K "_law_draw" "_law_draw" (defArgs s_law_draw) (defBody s_law_draw) (defScope s_law_draw) [] [] (ga K "_law_draw") fd := T.says.def_ 31 (d := da_law_draw) rfl
theorem Txt.d_law_small_task (T : Txt K mg) : ∃ fd, FunD K "_law_small_task" "_law_small_task" (defArgs s_law_small_task) (defBody s_law_small_task) (defScope s_law_small_task) [] [] (ga K "_law_small_task") fd := T.says.def_ 32 (d := da_law_small_task) rfl
theorem Txt.d_law_walk (T : Txt K mg) : ∃ fd, FunD K "_law_walk" "_law_walk" (defArgs s_law_walk) (defBody s_law_walk) (defScope s_law_walk) [] [] (ga K "_law_walk") fd := T.says.def_ 33 (d := da_law_walk) rfl
theorem Txt.d_law_rank (T : Txt K mg) : ∃ fd, FunD K "_law_rank" "_law_rank" (defArgs s_law_rank) (defBody s_law_rank) (defScope s_law_rank) [] [] (ga K "_law_rank") fd := T.says.def_ 34 (d := da_law_rank) rfl
theorem Txt.d_law_play (T : Txt K mg) : ∃ fd, FunD K "_law_play" "_law_play" (defArgs s_law_play) (defBody s_law_play) (defScope s_law_play) [] [] (ga K "_law_play") fd := T.says.def_ 35 (d := da_law_play) rfl
theorem Txt.d_law_same (T : Txt K mg) : ∃ fd, FunD K "_law_same" "_law_same" (defArgs s_law_same) (defBody s_law_same) (defScope s_law_same) [] [] (ga K "_law_same") fd := T.says.def_ 36 (d := da_law_same) rfl
theorem Txt.d_law_bad_speed (T : Txt K mg) : ∃ fd, FunD K "_law_bad_speed" "_law_bad_speed" (defArgs s_law_bad_speed) (defBody s_law_bad_speed) (defScope s_law_bad_speed) [] [] (ga K "_law_bad_speed") fd := T.says.def_ 37 (d := da_law_bad_speed) rfl
theorem Txt.d_law (T : Txt K mg) : ∃ fd, FunD K "law" "law" (defArgs s_law) (defBody s_law) (defScope s_law) [] [] (ga K "law") fd := T.says.def_ 38 (d := da_law) rfl
end
theorem len_is_name {K : Fr0} : ∀ ds m Q E, sp_is_name K ds m Q E → ds.length = (["text"] : List Str).length := by
  intro ds m Q E h
  repeat (first | (obtain ⟨rfl, _⟩ := h; rfl) | (obtain ⟨_, h⟩ := h))
theorem len_need_name {K : Fr0} : ∀ ds m Q E, sp_need_name K ds m Q E → ds.length = (["text"] : List Str).length := by
  intro ds m Q E h
  repeat (first | (obtain ⟨rfl, _⟩ := h; rfl) | (obtain ⟨_, h⟩ := h))
theorem len_need_range {K : Fr0} : ∀ ds m Q E, sp_need_range K ds m Q E → ds.length = (["what", "value", "least", "most"] : List Str).length := by
  intro ds m Q E h
  repeat (first | (obtain ⟨rfl, _⟩ := h; rfl) | (obtain ⟨_, h⟩ := h))
theorem len_need_kind {K : Fr0} : ∀ ds m Q E, sp_need_kind K ds m Q E → ds.length = (["name", "kind_rows"] : List Str).length := by
  intro ds m Q E h
  repeat (first | (obtain ⟨rfl, _⟩ := h; rfl) | (obtain ⟨_, h⟩ := h))
theorem len_checked_kinds {K : Fr0} : ∀ ds m Q E, sp_checked_kinds K ds m Q E → ds.length = (["kinds", "branching"] : List Str).length := by
  intro ds m Q E h
  repeat (first | (obtain ⟨rfl, _⟩ := h; rfl) | (obtain ⟨_, h⟩ := h))
theorem len_checked_arrows {K : Fr0} : ∀ ds m Q E, sp_checked_arrows K ds m Q E → ds.length = (["arrows", "kind_rows"] : List Str).length := by
  intro ds m Q E h
  repeat (first | (obtain ⟨rfl, _⟩ := h; rfl) | (obtain ⟨_, h⟩ := h))
theorem len_Task_init {K : Fr0} : ∀ ds m Q E, sp_Task_init K ds m Q E → ds.length = (["self", "name", "kinds", "arrows"] : List Str).length := by
  intro ds m Q E h
  repeat (first | (obtain ⟨rfl, _⟩ := h; rfl) | (obtain ⟨_, h⟩ := h))
theorem len_Task_row_of {K : Fr0} : ∀ ds m Q E, sp_Task_row_of K ds m Q E → ds.length = (["self", "kind"] : List Str).length := by
  intro ds m Q E h
  repeat (first | (obtain ⟨rfl, _⟩ := h; rfl) | (obtain ⟨_, h⟩ := h))
theorem len_Task_cost_of {K : Fr0} : ∀ ds m Q E, sp_Task_cost_of K ds m Q E → ds.length = (["self", "kind"] : List Str).length := by
  intro ds m Q E h
  repeat (first | (obtain ⟨rfl, _⟩ := h; rfl) | (obtain ⟨_, h⟩ := h))
theorem len_Task_deadline_of {K : Fr0} : ∀ ds m Q E, sp_Task_deadline_of K ds m Q E → ds.length = (["self", "kind"] : List Str).length := by
  intro ds m Q E h
  repeat (first | (obtain ⟨rfl, _⟩ := h; rfl) | (obtain ⟨_, h⟩ := h))
theorem len_Task_followers {K : Fr0} : ∀ ds m Q E, sp_Task_followers K ds m Q E → ds.length = (["self", "kind"] : List Str).length := by
  intro ds m Q E h
  repeat (first | (obtain ⟨rfl, _⟩ := h; rfl) | (obtain ⟨_, h⟩ := h))
theorem len_gap_between {K : Fr0} : ∀ ds m Q E, sp_gap_between K ds m Q E → ds.length = (["task", "first", "second"] : List Str).length := by
  intro ds m Q E h
  repeat (first | (obtain ⟨rfl, _⟩ := h; rfl) | (obtain ⟨_, h⟩ := h))
theorem len_check_job {K : Fr0} : ∀ ds m Q E, sp_check_job K ds m Q E → ds.length = (["task", "walk", "index", "place", "grain"] : List Str).length := by
  intro ds m Q E h
  repeat (first | (obtain ⟨rfl, _⟩ := h; rfl) | (obtain ⟨_, h⟩ := h))
theorem len_check_counts {K : Fr0} : ∀ ds m Q E, sp_check_counts K ds m Q E → ds.length = (["tasks", "walks", "grain"] : List Str).length := by
  intro ds m Q E h
  repeat (first | (obtain ⟨rfl, _⟩ := h; rfl) | (obtain ⟨_, h⟩ := h))
theorem len_Run_init {K : Fr0} : ∀ ds m Q E, sp_Run_init K ds m Q E → ds.length = (["self", "tasks", "walks", "grain"] : List Str).length := by
  intro ds m Q E h
  repeat (first | (obtain ⟨rfl, _⟩ := h; rfl) | (obtain ⟨_, h⟩ := h))
theorem len_Run_jobs {K : Fr0} : ∀ ds m Q E, sp_Run_jobs K ds m Q E → ds.length = (["self"] : List Str).length := by
  intro ds m Q E h
  repeat (first | (obtain ⟨rfl, _⟩ := h; rfl) | (obtain ⟨_, h⟩ := h))
theorem len_check_speed {K : Fr0} : ∀ ds m Q E, sp_check_speed K ds m Q E → ds.length = (["speed"] : List Str).length := by
  intro ds m Q E h
  repeat (first | (obtain ⟨rfl, _⟩ := h; rfl) | (obtain ⟨_, h⟩ := h))
theorem len_add_slice {K : Fr0} : ∀ ds m Q E, sp_add_slice K ds m Q E → ds.length = (["slices", "start", "end", "index"] : List Str).length := by
  intro ds m Q E h
  repeat (first | (obtain ⟨rfl, _⟩ := h; rfl) | (obtain ⟨_, h⟩ := h))
theorem len_due_of {K : Fr0} : ∀ ds m Q E, sp_due_of K ds m Q E → ds.length = (["job"] : List Str).length := by
  intro ds m Q E h
  repeat (first | (obtain ⟨rfl, _⟩ := h; rfl) | (obtain ⟨_, h⟩ := h))
theorem len_earliest_deadline {K : Fr0} : ∀ ds m Q E, sp_earliest_deadline K ds m Q E → ds.length = (["run", "speed"] : List Str).length := by
  intro ds m Q E h
  repeat (first | (obtain ⟨rfl, _⟩ := h; rfl) | (obtain ⟨_, h⟩ := h))
theorem len_law_cell {K : Fr0} : ∀ ds m Q E, sp_law_cell K ds m Q E → ds.length = (["_law_script", "_law_place"] : List Str).length := by
  intro ds m Q E h
  repeat (first | (obtain ⟨rfl, _⟩ := h; rfl) | (obtain ⟨_, h⟩ := h))
theorem len_law_source {K : Fr0} : ∀ ds m Q E, sp_law_source K ds m Q E → ds.length = (["_law_cell_here"] : List Str).length := by
  intro ds m Q E h
  repeat (first | (obtain ⟨rfl, _⟩ := h; rfl) | (obtain ⟨_, h⟩ := h))
theorem len_law_draw {K : Fr0} : ∀ ds m Q E, sp_law_draw K ds m Q E → ds.length = (["_law_source_here", "_law_limit"] : List Str).length := by
  intro ds m Q E h
  repeat (first | (obtain ⟨rfl, _⟩ := h; rfl) | (obtain ⟨_, h⟩ := h))
theorem len_law_small_task {K : Fr0} : ∀ ds m Q E, sp_law_small_task K ds m Q E → ds.length = (["_law_source_here", "_law_name"] : List Str).length := by
  intro ds m Q E h
  repeat (first | (obtain ⟨rfl, _⟩ := h; rfl) | (obtain ⟨_, h⟩ := h))
theorem len_law_walk {K : Fr0} : ∀ ds m Q E, sp_law_walk K ds m Q E → ds.length = (["_law_source_here", "_law_task", "_law_parts"] : List Str).length := by
  intro ds m Q E h
  repeat (first | (obtain ⟨rfl, _⟩ := h; rfl) | (obtain ⟨_, h⟩ := h))
theorem len_law_rank {K : Fr0} : ∀ ds m Q E, sp_law_rank K ds m Q E → ds.length = (["_law_job", "_law_way", "_law_ranks"] : List Str).length := by
  intro ds m Q E h
  repeat (first | (obtain ⟨rfl, _⟩ := h; rfl) | (obtain ⟨_, h⟩ := h))
theorem len_law_play {K : Fr0} : ∀ ds m Q E, sp_law_play K ds m Q E → ds.length = (["_law_jobs", "_law_keys", "_law_pace"] : List Str).length := by
  intro ds m Q E h
  repeat (first | (obtain ⟨rfl, _⟩ := h; rfl) | (obtain ⟨_, h⟩ := h))
theorem len_law_same {K : Fr0} : ∀ ds m Q E, sp_law_same K ds m Q E → ds.length = (["_law_actual", "_law_expected"] : List Str).length := by
  intro ds m Q E h
  repeat (first | (obtain ⟨rfl, _⟩ := h; rfl) | (obtain ⟨_, h⟩ := h))
theorem len_law_bad_speed {K : Fr0} : ∀ ds m Q E, sp_law_bad_speed K ds m Q E → ds.length = (["_law_run", "_law_pace", "_law_calls", "_law_way"] : List Str).length := by
  intro ds m Q E h
  repeat (first | (obtain ⟨rfl, _⟩ := h; rfl) | (obtain ⟨_, h⟩ := h))
theorem len_run_by {K : Fr0} {fv : FV} : ∀ ds m Q E, sp_run_by K fv ds m Q E → ds.length = (["run", "key", "speed"] : List Str).length := by
  intro ds m Q E h
  repeat (first | (obtain ⟨rfl, _⟩ := h; rfl) | (obtain ⟨_, h⟩ := h))
end LW

set_option Elab.async false
set_option linter.all false
set_option maxRecDepth 100000
set_option maxHeartbeats 0
namespace LW
open PySem PySem.Spec PyProof.Rows L2 DL
open He (ga ma)
abbrev R : PySem.W.OpenRow := PySem.W.OpenLaw.row PySem.Challenge.rw_walkdues_k08_slices_unit_by_unit
def adrs : List Addr := List.range 1500
abbrev hk : PySem.W.Hook := hookL adrs fa fn
def ob (s : PySem.W.SharedT) : Bool × AlA := obsLG adrs fa fn (HandSHeadRun.getT s)
theorem ob_eq (s : PySem.W.SharedT) : ob s = hk.obs s.abs := obsLG_eq (HandSHeadRun.getT_eq s)
def loose : List Str := (["_wall", "__name__", "DuesError", "BadName", "WrongCount", "OutOfRange", "Repeated", "RepeatedArrow", "UnknownKind", "BadCost", "BadRelease", "NoArrow", "GapTooShort", "SPEED_LIMIT", "check_speed", "add_slice", "run_by", "due_of", "earliest_deadline", "GRAIN_LIMIT"] : List Str) ++ (["JOB_LIMIT", "gap_between", "check_job", "check_counts", "Run", "LETTERS", "OTHER_SIGNS", "LONGEST_NAME", "MOST_KINDS", "MOST_ARROWS", "MOST_GAP", "is_name", "need_name", "need_range", "need_kind", "checked_kinds", "checked_arrows", "Task", "_law_cell", "_law_source"] : List Str) ++ (["_law_draw", "_law_small_task", "_law_walk", "_law_rank", "_law_play", "_law_same", "_law_bad_speed"] : List Str)
open PySem.W HandSHeadRun in
theorem run1 (w : World) (os : OsState) : (endF (stepQ (denQ tabQ) R.prog w) 12000 R.prog w os).map (fun s => (looksF R.prog (boot_heap w.params) s.abs, seenQ (PySem.W.view R.prog [51]) loose (importedModules R.prog.main.body) (fun s => xlAt (PySem.W.view R.prog [51]) [] s && recOk R.toRowW.records s) s.abs)) = some (true, openGood (PySem.W.view R.prog [51]) loose) := by
  kernel_rfl
open PySem.W HandSHeadRun in
theorem run2 (w : World) (os : OsState) : (endF (stepQ (denQ tabQ) R.prog w) 12000 R.prog w os).map (fun s => obsLG adrs fa [] (HandSHeadRun.getT s)) = some (true, valA []) := by
  kernel_rfl
open PySem.W HandSHeadRun in
theorem run3 (w : World) (os : OsState) : (endF (stepQ (denQ tabQ) R.prog w) 12000 R.prog w os).map (fun s => obsLG adrs [] fn (HandSHeadRun.getT s)) = some (true, valA fn) := by
  kernel_rfl
theorem run (w : World) : HandSHeadRun.RunEq R (PySem.W.view R.prog [51]) hk ob 12000 loose w := run_join (run1 w) (run2 w) (run3 w)
end LW

set_option Elab.async false
set_option linter.all false
set_option maxRecDepth 100000
set_option maxHeartbeats 4000000
namespace LW
open PySem PySem.Spec PyProof.Rows L2 DL
open He (ga ma)
local macro_rules | `(tactic| walk_at "zs") => `(tactic| try simp only [dIfS, dTest, dOp, dVar, dC, dCB, daCons, daNil, dSet, dRet, dNext, dDrop, dAsg, dPar, dAug, dAddI, dBreak, dCont, dRetN, slot, dLen, dCmpI, dSub, dAdd, dMul, dDiv, dMod, dPow, dNeg, dUn, dIx, dInt1, dAbs, dChain, dAnd, dOr, dNot, dAndV, dOrV, dNotV, dTru, dTruB, dIf, dTup, dLst, mkL, dSlice, dSl, doNone, doSome, dSum, dAll, dAny, dList, dTuple, dMax, dMin, eq_ii, ne_ii, eq_ss, ne_ss, eq_bb, ne_bb, eq_nn, ne_nn, dIsN, dNotN, dFgt, dIsB, dNotB, gN, gT, gsNil, gsCons, gSet, dBM, dAppend, dClear, dFld, dFldS, dProp, dCall, dMeth, dMake, dMakeN, daStar, dDictP, dCallO, dFor, dLc, diR1, diR2, diR3, diL, diT, diRv, diS, diE, dFmt, dFStr, dJs, dCallN, dFrzE, frz_l, in_ss, notin_ss, drR1, drR2, dListR, dRaise, dRaise0, dTryAs, dTry, dXf, dAddO, dInO, isL, insOf, Option.some.injEq, List.cons.injEq, D.int.injEq, D.bl.injEq, D.str.injEq, D.lst.injEq, D.tup.injEq, D.ref.injEq, MO.lst.injEq, MO.ins.injEq, mset_mset, and_true, true_and, and_self, and_assoc, exists_eq_left', exists_eq_left, exists_and_left, exists_and_right, exists_eq', List.set_cons_zero, List.set_cons_succ, decide_eq_true_eq, sqOf, lsOf, List.length_cons, List.length_nil, sizeLine_eq, List.append_nil, List.cons_append, List.nil_append, if_true, if_false, Bool.false_eq_true, reduceCtorEq, reduceIte, Nat.reduceAdd, Nat.reduceLeDiff, mset_same, Option.bind_some, List.length_map, Prod.mk.injEq, at0, at1, at2, at3, at4, at5, at6, at7, ix30, ix31, ix32, ix20, ix21, ix10, isi_ii, isi_ib, isi_ll, isi_bb, isi_ss, isi_tt, isi_is, isi_si, Bool.not_true, Bool.not_false, dCopyK, dGet2K, dDctR, dDisp1, dFrzEK])
local macro_rules | `(tactic| walk_at "zS") => `(tactic| try simp only [dSeq, dIfS, dTest, dOp, dVar, dC, dCB, daCons, daNil, dSet, dRet, dNext, dDrop, dAsg, dPar, dAug, dAddI, dBreak, dCont, dRetN, slot, dLen, dCmpI, dSub, dAdd, dMul, dDiv, dMod, dPow, dNeg, dUn, dIx, dInt1, dAbs, dChain, dAnd, dOr, dNot, dAndV, dOrV, dNotV, dTru, dTruB, dIf, dTup, dLst, mkL, dSlice, dSl, doNone, doSome, dSum, dAll, dAny, dList, dTuple, dMax, dMin, eq_ii, ne_ii, eq_ss, ne_ss, eq_bb, ne_bb, eq_nn, ne_nn, dIsN, dNotN, dFgt, dIsB, dNotB, gN, gT, gsNil, gsCons, gSet, dBM, dAppend, dClear, dFld, dFldS, dProp, dCall, dMeth, dMake, dMakeN, daStar, dDictP, dCallO, dFor, dLc, diR1, diR2, diR3, diL, diT, diRv, diS, diE, dFmt, dFStr, dJs, dCallN, dFrzE, frz_l, in_ss, notin_ss, drR1, drR2, dListR, dRaise, dRaise0, dTryAs, dTry, dXf, dAddO, dInO, isL, insOf, Option.some.injEq, List.cons.injEq, D.int.injEq, D.bl.injEq, D.str.injEq, D.lst.injEq, D.tup.injEq, D.ref.injEq, MO.lst.injEq, MO.ins.injEq, mset_mset, and_true, true_and, and_self, and_assoc, exists_eq_left', exists_eq_left, exists_and_left, exists_and_right, exists_eq', List.set_cons_zero, List.set_cons_succ, decide_eq_true_eq, sqOf, lsOf, List.length_cons, List.length_nil, sizeLine_eq, List.append_nil, List.cons_append, List.nil_append, if_true, if_false, Bool.false_eq_true, reduceCtorEq, reduceIte, Nat.reduceAdd, Nat.reduceLeDiff, mset_same, Option.bind_some, List.length_map, Prod.mk.injEq, at0, at1, at2, at3, at4, at5, at6, at7, ix30, ix31, ix32, ix20, ix21, ix10, isi_ii, isi_ib, isi_ll, isi_bb, isi_ss, isi_tt, isi_is, isi_si, Bool.not_true, Bool.not_false, dCopyK, dGet2K, dDctR, dDisp1, dFrzEK])
local macro_rules | `(tactic| walk_at "zn") => `(tactic| ((try simp only [dSeq]); (try simp only [dIfS, dTest, dOp, dVar, dC, dCB, daCons, daNil, dSet, dRet, dNext, dDrop, dAsg, dPar, dAug, dAddI, dBreak, dCont, dRetN, slot, dLen, dCmpI, dSub, dAdd, dMul, dDiv, dMod, dPow, dNeg, dUn, dIx, dInt1, dAbs, dChain, dAnd, dOr, dNot, dAndV, dOrV, dNotV, dTru, dTruB, dIf, dTup, dLst, mkL, dSlice, dSl, doNone, doSome, dSum, dAll, dAny, dList, dTuple, dMax, dMin, eq_ii, ne_ii, eq_ss, ne_ss, eq_bb, ne_bb, eq_nn, ne_nn, dIsN, dNotN, dFgt, dIsB, dNotB, gN, gT, gsNil, gsCons, gSet, dBM, dAppend, dClear, dFld, dFldS, dProp, dCall, dMeth, dMake, dMakeN, daStar, dDictP, dCallO, dFor, dLc, diR1, diR2, diR3, diL, diT, diRv, diS, diE, dFmt, dFStr, dJs, dCallN, dFrzE, frz_l, in_ss, notin_ss, drR1, drR2, dListR, dRaise, dRaise0, dTryAs, dTry, dXf, dAddO, dInO, isL, insOf, Option.some.injEq, List.cons.injEq, D.int.injEq, D.bl.injEq, D.str.injEq, D.lst.injEq, D.tup.injEq, D.ref.injEq, MO.lst.injEq, MO.ins.injEq, mset_mset, and_true, true_and, and_self, and_assoc, exists_eq_left', exists_eq_left, exists_and_left, exists_and_right, exists_eq', List.set_cons_zero, List.set_cons_succ, decide_eq_true_eq, sqOf, lsOf, List.length_cons, List.length_nil, sizeLine_eq, List.append_nil, List.cons_append, List.nil_append, if_true, if_false, Bool.false_eq_true, reduceCtorEq, reduceIte, Nat.reduceAdd, Nat.reduceLeDiff, mset_same, Option.bind_some, List.length_map, Prod.mk.injEq, at0, at1, at2, at3, at4, at5, at6, at7, ix30, ix31, ix32, ix20, ix21, ix10, isi_ii, isi_ib, isi_ll, isi_bb, isi_ss, isi_tt, isi_is, isi_si, Bool.not_true, Bool.not_false, dCopyK, dGet2K, dDctR, dDisp1, dFrzEK])))
theorem pure_is_name {K : Fr0} {mg : Str → Option Value} (T : Txt K mg) (ds : List D) (m : M) (Q : D → M → Prop) (E : XD → M → Prop) (h : sp_is_name K ds m Q E) : t_is_name K (fun x _ m => E x m) { nx := fun _ m => Q .non m, rt := Q } (startD nm_is_name ds) m := by
  obtain ⟨z, rfl, hz, q⟩ := h
  show t_is_name K _ _ [some (.str z), none] m
  unfold t_is_name
  walk_at "zn"
  refine ⟨by omega, ?_⟩
  have el : z.length = z.cps.size := rfl
  rw [el] at *
  unfold nameB at q
  by_cases h1 : 1 ≤ z.cps.size
  · rw [if_pos (by omega)]
    by_cases h2 : z.cps.size ≤ 12
    · rw [if_neg (by simp; omega)]
      refine ⟨by omega, ?_⟩
      obtain ⟨c, rest, hl⟩ : ∃ c rest, z.cps.toList = c :: rest := by
        cases e : z.cps.toList with
        | nil =>
          have : z.cps.size = 0 := by rw [← Array.length_toList, e]; rfl
          omega
        | cons c rest => exact ⟨c, rest, rfl⟩
      refine ⟨c, by rw [hl]; exact atI_nat (j := 0) rfl, ?_⟩
      rw [hl] at q
      dsimp only at q
      show (if (!inS LETTERS ⟨#[c]⟩) = true then _ else _)
      cases hc : inS LETTERS ⟨#[c]⟩ with
      | false =>
        rw [if_pos (by simp)]
        simpa [hc] using q
      | true =>
        rw [if_neg (by simp)]
        refine lc_pure (fun d => match d with | .str i => .bl (inS LETTERS i || inS SIGNS i) | _ => .non) (by rw [chars_len, sizeLine_eq]; simp; omega) (fun x hx => ?_) ?_
        · obtain ⟨c2, hc2, rfl⟩ := List.mem_map.mp hx
          refine ⟨_, rfl, fun Q' q' => ?_⟩
          simp only [wipeD]
          walk_at "zs"
          show (if inS LETTERS ⟨#[c2]⟩ = true then Q' (.bl true) m else Q' (.bl (inS SIGNS ⟨#[c2]⟩)) m)
          cases hc3 : inS LETTERS ⟨#[c2]⟩ with
          | true => rw [if_pos rfl]; simpa [hc3] using q'
          | false => rw [if_neg (by simp)]; simpa [hc3] using q'
        · refine ⟨(c :: rest).map fun c => inS LETTERS ⟨#[c]⟩ || inS SIGNS ⟨#[c]⟩, ?_, ?_⟩
          · unfold chars
            rw [hl, List.nil_append, List.map_map, List.map_map]
            rfl
          · rw [List.all_map]
            rw [hc, decide_eq_true ⟨h1, h2⟩, Bool.true_and, Bool.true_and] at q
            exact q
    · rw [if_pos (by simp; omega)]
      rw [decide_eq_false (by omega), Bool.false_and, Bool.false_and] at q
      exact q
  · rw [if_neg (by omega)]
    rw [decide_eq_false (by omega), Bool.false_and, Bool.false_and] at q
    exact q
def chL (c : Nat) : Bool := inS LETTERS ⟨#[c]⟩
def chOk (c : Nat) : Bool := inS LETTERS ⟨#[c]⟩ || inS SIGNS ⟨#[c]⟩
structure NmL (cs : List Nat) : Prop where
  le : cs.length ≤ 12
  hd : ∃ c r, cs = c :: r ∧ chL c = true
  all : ∀ c ∈ cs, chOk c = true
theorem of_nameB {z : Str} (h : nameB z = true) : NmL z.cps.toList := by
  unfold nameB at h
  rw [Bool.and_eq_true, Bool.and_eq_true] at h
  obtain ⟨⟨h1, h2⟩, h3⟩ := h
  have h1 := of_decide_eq_true h1
  refine ⟨by rw [Array.length_toList]; exact h1.2, ?_, List.all_eq_true.mp h3⟩
  cases e : z.cps.toList with
  | nil => rw [e] at h2; cases h2
  | cons c r => rw [e] at h2; exact ⟨c, r, rfl, h2⟩
theorem cps_cut (z : Str) (lo hi : Option Int) : (cutS z lo hi).cps.toList = (z.cps.toList.drop (HT.sIx z.length 0 lo)).take (HT.sIx z.length z.length hi - HT.sIx z.length 0 lo) := rfl
theorem notin_strs {x : Str} {zs : List Str} {m : M} {d : D} {Q : D → M → Prop} (hd : sqOf m d = some (zs.map D.str)) (q : Q (.bl (!decide (x ∈ zs))) m) : dIn true (.str x) d m Q := by
  cases d with
  | str j => cases hd
  | _ => exact ⟨_, hd, rfl, flat_strs zs, by rw [inD_strs]; exact q⟩
theorem nm_len {z : Str} (h : nameB z = true) : z.length ≤ 12 := by
  have := (of_nameB h).le
  rw [Array.length_toList] at this
  exact this
theorem ch_lt {c : Nat} (h : chOk c = true) : c < 0x110000 := by
  unfold chOk inS at h
  rw [PySem.StrLaws.found_one, PySem.StrLaws.found_one, Bool.or_eq_true, decide_eq_true_eq, decide_eq_true_eq] at h
  have h1 : ∀ c ∈ LETTERS.cps.toList, c < 0x110000 := by decide +kernel
  have h2 : ∀ c ∈ SIGNS.cps.toList, c < 0x110000 := by decide +kernel
  rcases h with h | h
  · exact h1 c h
  · exact h2 c h
theorem nm_ok {z : Str} (h : nameB z = true) : PyData.strOk z = true := by
  unfold PyData.strOk
  rw [← Array.all_toList, List.all_eq_true]
  intro c hc
  exact decide_eq_true (ch_lt ((of_nameB h).all c hc))
theorem cl_nm {n : Nat} {z : Str} (h : nameB z = true) : clB n (.str z) = true := by
  have e := nm_ok h
  cases n <;> exact e
theorem cut_to (z : Str) (k : Nat) : (cutS z none (some (k : Int))).cps.toList = z.cps.toList.take k := by
  rw [cps_cut, HT.sIx_none, HT.sIx_nat, List.drop_zero, Nat.sub_zero]
  show List.take (min k z.cps.size) z.cps.toList = _
  rw [← Array.length_toList, List.take_eq_take_iff]
  simp
theorem pure_need_name {K : Fr0} {mg : Str → Option Value} (T : Txt K mg) (ds : List D) (m : M) (Q : D → M → Prop) (E : XD → M → Prop) (h : sp_need_name K ds m Q E) : t_need_name K (fun x _ m => E x m) { nx := fun _ m => Q .non m, rt := Q } (startD nm_need_name ds) m := by
  obtain ⟨z, rfl, hz, hn, q⟩ := h
  show t_need_name K _ _ [some (.str z)] m
  unfold t_need_name
  walk_at "zs"
  refine ⟨z, rfl, hz, ?_⟩
  walk_at "zs"
  rw [hn]
  walk_at "zs"
  exact q
theorem pure_need_range {K : Fr0} {mg : Str → Option Value} (T : Txt K mg) (ds : List D) (m : M) (Q : D → M → Prop) (E : XD → M → Prop) (h : sp_need_range K ds m Q E) : t_need_range K (fun x _ m => E x m) { nx := fun _ m => Q .non m, rt := Q } (startD nm_need_range ds) m := by
  obtain ⟨x, v, lo, hi, rfl, h1, h2, q⟩ := h
  show t_need_range K _ _ [some x, some (.int v), some (.int lo), some (.int hi)] m
  unfold t_need_range
  walk_at "zs"
  rw [if_neg (by omega), if_neg (by omega)]
  exact q
def at0D : D → D
  | .tup (x :: _) => x
  | _ => .non
theorem at0_ks (ks : List Knd) : (ks.map Knd.D).map at0D = (names ks).map D.str := by
  rw [List.map_map, List.map_map]
  rfl
theorem pure_need_kind {K : Fr0} {mg : Str → Option Value} (T : Txt K mg) (ds : List D) (m : M) (Q : D → M → Prop) (E : XD → M → Prop) (h : sp_need_kind K ds m Q E) : t_need_kind K (fun x _ m => E x m) { nx := fun _ m => Q .non m, rt := Q } (startD nm_need_kind ds) m := by
  obtain ⟨z, ks, rfl, hz, hl, q⟩ := h
  show t_need_kind K _ _ [some (.str z), some (ksD ks), none] m
  unfold t_need_kind
  walk_at "zs"
  refine lc_pure at0D (by rw [sizeLine_eq]; simp; omega) (fun x hx => ?_) ?_
  · obtain ⟨k, hk, rfl⟩ := List.mem_map.mp hx
    refine ⟨_, rfl, fun Q' q' => ?_⟩
    simp only [wipeD, Knd.D]
    walk_at "zs"
    exact q'
  · rw [List.nil_append, at0_ks]
    refine notin_strs rfl ?_
    walk_at "zs"
    rw [if_neg (by simpa using hz)]
    exact q
theorem take_succ' {α : Type} {l : List α} {j : Nat} {a : α} (h : l[j]? = some a) : l.take (j + 1) = l.take j ++ [a] := by
  rw [List.take_add_one, h]
  rfl
theorem map_at {α β : Type} {f : α → β} {l : List α} {j : Nat} {d : β} (h : (l.map f)[j]? = some d) : ∃ a, l[j]? = some a ∧ d = f a := by
  rw [List.getElem?_map] at h
  cases e : l[j]? with
  | none => rw [e] at h; cases h
  | some a => rw [e] at h; cases h; exact ⟨a, rfl, rfl⟩
theorem nodup_take {α : Type} : ∀ {l : List α} {j : Nat} {a : α}, l.Nodup → l[j]? = some a → a ∉ l.take j
  | [], _, _, _, h => by cases h
  | x :: l, 0, a, _, _ => by simp
  | x :: l, j + 1, a, nd, h => by
    obtain ⟨n1, n2⟩ := List.nodup_cons.mp nd
    have h2 : l[j]? = some a := h
    have ih := nodup_take n2 h2
    rw [List.take_succ_cons, List.mem_cons]
    rintro (rfl | hm)
    · exact n1 (List.mem_of_getElem? h2)
    · exact ih hm
theorem mem_at {α : Type} {l : List α} {j : Nat} {a : α} (h : l[j]? = some a) : a ∈ l := List.mem_of_getElem? h
theorem len_at {α : Type} {l : List α} {j : Nat} {a : α} (h : l[j]? = some a) : j < l.length := (List.getElem?_eq_some_iff.mp h).1
theorem lc_mapD {α : Type} {g : α → D} {l : List α} {c : CT} {vs : List Nat} {te : DTE} {r : DSt} {m : M} {Q : List D → M → Prop} {f : α → D} (hz : l.length ≤ sizeLine) (h : ∀ a ∈ l, ∃ r2, ctD c (g a) (wipeD r vs) = some r2 ∧ ∀ Q' : D → M → Prop, Q' (f a) m → te r2 m Q') (q : Q (l.map f) m) : dLcL c vs dYes te (l.map g) [] r m Q := by
  have go : ∀ (l : List α) (acc : List D), acc.length + l.length ≤ sizeLine → (∀ a ∈ l, ∃ r2, ctD c (g a) (wipeD r vs) = some r2 ∧ ∀ Q' : D → M → Prop, Q' (f a) m → te r2 m Q') → Q (acc ++ l.map f) m → dLcL c vs dYes te (l.map g) acc r m Q := by
    intro l
    induction l with
    | nil => intro acc _ _ q; exact (by simpa using q : Q acc m)
    | cons a l ih =>
      intro acc hz h q
      obtain ⟨r2, e, t⟩ := h a List.mem_cons_self
      rw [List.length_cons] at hz
      refine ⟨r2, e, ?_⟩
      simp only [dYes, if_true]
      refine t _ ⟨by omega, ih _ (by rw [List.length_append]; simp; omega) (fun b hb => h b (List.mem_cons_of_mem _ hb)) ?_⟩
      rw [List.append_assoc]
      exact q
  exact go l [] (by simpa using hz) h (by simpa using q)
theorem lc_filterD {α : Type} {g : α → D} {l : List α} {c : CT} {vs : List Nat} {tt : DTT} {te : DTE} {r : DSt} {m : M} {Q : List D → M → Prop} {p : α → Bool} {f : α → D} (hz : l.length ≤ sizeLine) (h : ∀ a ∈ l, ∃ r2, ctD c (g a) (wipeD r vs) = some r2 ∧ (∀ Q' : Bool → M → Prop, Q' (p a) m → tt r2 m Q') ∧ (p a = true → ∀ Q' : D → M → Prop, Q' (f a) m → te r2 m Q')) (q : Q ((l.filter p).map f) m) : dLcL c vs tt te (l.map g) [] r m Q := by
  have go : ∀ (l : List α) (acc : List D), acc.length + l.length ≤ sizeLine → (∀ a ∈ l, ∃ r2, ctD c (g a) (wipeD r vs) = some r2 ∧ (∀ Q' : Bool → M → Prop, Q' (p a) m → tt r2 m Q') ∧ (p a = true → ∀ Q' : D → M → Prop, Q' (f a) m → te r2 m Q')) → Q (acc ++ (l.filter p).map f) m → dLcL c vs tt te (l.map g) acc r m Q := by
    intro l
    induction l with
    | nil => intro acc _ _ q; exact (by simpa using q : Q acc m)
    | cons a l ih =>
      intro acc hz h q
      obtain ⟨r2, e, t1, t2⟩ := h a List.mem_cons_self
      rw [List.length_cons] at hz
      refine ⟨r2, e, t1 _ ?_⟩
      rw [List.filter_cons] at q
      cases hp : p a with
      | false =>
        rw [hp] at q
        rw [if_neg (by simp)]
        exact ih acc (by omega) (fun b hb => h b (List.mem_cons_of_mem _ hb)) q
      | true =>
        rw [hp, if_pos rfl] at q
        rw [if_pos rfl]
        refine t2 hp _ ⟨by omega, ih _ (by rw [List.length_append]; simp; omega) (fun b hb => h b (List.mem_cons_of_mem _ hb)) ?_⟩
        rw [List.append_assoc]
        exact q
  exact go l [] (by simpa using hz) h (by simpa using q)
theorem pure_checked_kinds {K : Fr0} {mg : Str → Option Value} (T : Txt K mg) (ds : List D) (m : M) (Q : D → M → Prop) (E : XD → M → Prop) (h : sp_checked_kinds K ds m Q E) : t_checked_kinds K (fun x _ m => E x m) { nx := fun _ m => Q .non m, rt := Q } (startD nm_checked_kinds ds) m := by
  obtain ⟨ks, b, rfl, ok, hl, q⟩ := h
  show t_checked_kinds K _ _ [some (ksD ks), some (.bl b), none, none, none, none, none, none, none] m
  unfold t_checked_kinds
  simp only [dSeq]
  have e : ∀ (DD : DEnds) (r : DSt), (DD.nx ((r.set 2 (some (.int (if b = true then 9 else 99)))).set 3 (some (.int (if b = true then 24 else 99)))) m) → slot r 1 = some (.bl b) → dAsg (dIf (dTru (dVar 1)) (dTup (daCons (dC (.int 9)) (daCons (dC (.int 24)) daNil))) (dTup (daCons (dC (.int 99)) (daCons (dC (.int 99)) daNil)))) (gT 2 (gsCons (gN 2) (gsCons (gN 3) gsNil))) DD r m := by
    intro DD r h h1
    walk_at "zs"
    rw [h1]
    walk_at "zs"
    cases b <;> exact h
  refine e _ _ ?_ rfl
  clear e
  walk_at "zn"
  intro p hp
  walk_at "zn"
  obtain ⟨P1, hP1⟩ : ∃ P : Nat → DSt → M → Prop, ∀ j r m', P j r m' ↔ (m' = mset m p (.lst ((ks.take j).map Knd.D)) ∧ ∃ o5 o6 o7 o8, r = [some (ksD ks), some (.bl b), some (.int (if b = true then 9 else 99)), some (.int (if b = true then 24 else 99)), some (.ref p), o5, o6, o7, o8]) := ⟨_, fun _ _ _ => Iff.rfl⟩
  refine ⟨P1, (hP1 _ _ _).mpr ⟨rfl, _, _, _, _, rfl⟩, ?_, ?_⟩
  · intro j d r m' hd hp1
    obtain ⟨rfl, o5, o6, o7, o8, rfl⟩ := (hP1 _ _ _).mp hp1
    obtain ⟨k, hk, rfl⟩ := map_at hd
    have hm := mem_at hk
    have hj := len_at hk
    have nk := ok.nm k hm
    have zk := nm_len nk
    have ck := ok.c k hm
    have dk := ok.d k hm
    simp only [Knd.D]
    walk_at "zn"
    refine ⟨k.n, rfl, by omega, nk, ?_⟩
    walk_at "zn"
    refine lcM_pure (a := p) (xs := (ks.take j).map Knd.D) at0D (fun Q' q' => ⟨_, rfl, q'⟩) mset_same (by rw [sizeLine_eq]; simp; omega) (fun x hx => ?_) ?_
    · obtain ⟨k2, hk2, rfl⟩ := List.mem_map.mp hx
      refine ⟨_, rfl, fun Q' q' => ?_⟩
      simp only [wipeD, Knd.D]
      walk_at "zs"
      exact q'
    · simp only [mkL]
      rw [at0_ks]
      refine in_strs rfl ?_
      walk_at "zs"
      have hn : k.n ∉ names (ks.take j) := by
        have := nodup_take (l := names ks) (j := j) ok.nd (by rw [List.getElem?_map, hk]; rfl)
        rw [← List.map_take] at this
        exact this
      rw [if_neg hn]
      walk_at "zn"
      refine ⟨_, k.c, 1, _, rfl, ck.1, ck.2, ?_⟩
      walk_at "zn"
      refine ⟨_, k.d, 1, _, rfl, dk.1, dk.2, ?_⟩
      walk_at "zs"
      refine ⟨by simp; omega, (hP1 _ _ _).mpr ⟨?_, _, _, _, _, rfl⟩⟩
      rw [take_succ' hk, List.map_append]
      rfl
  · intro r m' hp1
    obtain ⟨rfl, o5, o6, o7, o8, rfl⟩ := (hP1 _ _ _).mp hp1
    rw [List.length_map, List.take_length]
    try simp only [dIfS, dTest, dOp, dVar, dC, dCB, daCons, daNil, dSet, dRet, dNext, dDrop, dAsg, dPar, dAug, dAddI, dBreak, dCont, dRetN, slot, dLen, dCmpI, dSub, dAdd, dMul, dDiv, dMod, dPow, dNeg, dUn, dIx, dInt1, dAbs, dChain, dAnd, dOr, dNot, dAndV, dOrV, dNotV, dTru, dTruB, dIf, dTup, dLst, mkL, dSlice, dSl, doNone, doSome, dSum, dAll, dAny, dList, dTuple, dMax, dMin, eq_ii, ne_ii, eq_ss, ne_ss, eq_bb, ne_bb, eq_nn, ne_nn, dIsN, dNotN, dFgt, dIsB, dNotB, gN, gT, gsNil, gsCons, gSet, dBM, dAppend, dClear, dFld, dFldS, dProp, dCall, dMeth, dMake, dMakeN, daStar, dDictP, dCallO, dFor, dLc, diR1, diR2, diR3, diL, diT, diRv, diS, diE, dFmt, dFStr, dJs, dCallN, dFrzE, frz_l, in_ss, notin_ss, drR1, drR2, dListR, dRaise, dRaise0, dTryAs, dTry, dXf, dAddO, dInO, isL, insOf, Option.some.injEq, List.cons.injEq, D.int.injEq, D.bl.injEq, D.str.injEq, D.lst.injEq, D.tup.injEq, D.ref.injEq, MO.lst.injEq, MO.ins.injEq, mset_mset, and_true, true_and, and_self, and_assoc, exists_eq_left', exists_eq_left, exists_and_left, exists_and_right, exists_eq', List.set_cons_zero, List.set_cons_succ, decide_eq_true_eq, sqOf, lsOf, List.length_cons, List.length_nil, sizeLine_eq, List.append_nil, List.cons_append, List.nil_append, if_true, if_false, Bool.false_eq_true, reduceCtorEq, reduceIte, Nat.reduceAdd, Nat.reduceLeDiff, mset_same, Option.bind_some, List.length_map, Prod.mk.injEq, at0, at1, at2, at3, at4, at5, at6, at7, ix30, ix31, ix32, ix20, ix21, ix10, isi_ii, isi_ib, isi_ll, isi_bb, isi_ss, isi_tt, isi_is, isi_si, Bool.not_true, Bool.not_false, dCopyK, dGet2K, dDctR, dDisp1, dFrzEK, mdel_mset hp]
    exact q
theorem Arr.cl (a : Arr) {n : Nat} (h1 : nameB a.f = true) (h2 : nameB a.s = true) : clB (n + 1) (.tup [.str a.f, .str a.s]) = true := by
  show ([D.str a.f, D.str a.s].all (clB n)) = true
  simp [cl_nm h1, cl_nm h2]
def at01D : D → D
  | .tup (x :: y :: _) => .tup [x, y]
  | _ => .non
def Arr.P (a : Arr) : DL.D := .tup [.str a.f, .str a.s]
theorem at01_as (as : List Arr) : (as.map Arr.D).map at01D = as.map Arr.P := by
  rw [List.map_map]
  rfl
theorem ArrP_mem {a : Arr} {as : List Arr} : Arr.P a ∈ as.map Arr.P ↔ (a.f, a.s) ∈ as.map fun a => (a.f, a.s) := by
  constructor
  · intro h
    obtain ⟨b, hb, e⟩ := List.mem_map.mp h
    unfold Arr.P at e
    injection e with e
    injection e with e1 e2
    injection e2 with e2 _
    injection e1 with e1
    injection e2 with e2
    exact List.mem_map.mpr ⟨b, hb, by rw [e1, e2]⟩
  · intro h
    obtain ⟨b, hb, e⟩ := List.mem_map.mp h
    refine List.mem_map.mpr ⟨b, hb, ?_⟩
    injection e with e1 e2
    unfold Arr.P
    rw [e1, e2]
theorem pure_checked_arrows {K : Fr0} {mg : Str → Option Value} (T : Txt K mg) (ds : List D) (m : M) (Q : D → M → Prop) (E : XD → M → Prop) (h : sp_checked_arrows K ds m Q E) : t_checked_arrows K (fun x _ m => E x m) { nx := fun _ m => Q .non m, rt := Q } (startD nm_checked_arrows ds) m := by
  obtain ⟨as, x, ks, rfl, hx, ok, hl, hk, hnm, q⟩ := h
  show t_checked_arrows K _ _ [some x, some (ksD ks), none, none, none, none, none] m
  unfold t_checked_arrows
  walk_at "zn"
  intro p hp
  simp only [dSeq]
  have hF : ∀ (g : DTG) (tb : DTS) (DD : DEnds) (m : M), dLoopI g tb (as.map Arr.D) DD [some x, some (ksD ks), some (.ref p), none, none, none, none] m → dFor (diQ (dVar 0)) g tb DD [some x, some (ksD ks), some (.ref p), none, none, none, none] m := by
    intro g tb DD m h
    show diQ (dVar 0) _ _ _
    refine ⟨x, rfl, ?_⟩
    cases x with
    | lst xs => cases hx; exact h
    | tup xs => cases hx; exact h
    | _ => cases hx
  refine hF _ _ _ _ ?_
  obtain ⟨P1, hP1⟩ : ∃ P : Nat → DSt → M → Prop, ∀ j r m', P j r m' ↔ (m' = mset m p (.lst ((as.take j).map Arr.D)) ∧ ∃ o3 o4 o5 o6, r = [some x, some (ksD ks), some (.ref p), o3, o4, o5, o6]) := ⟨_, fun _ _ _ => Iff.rfl⟩
  refine ⟨P1, (hP1 _ _ _).mpr ⟨rfl, _, _, _, _, rfl⟩, ?_, ?_⟩
  · intro j d r m' hd hp1
    obtain ⟨rfl, o3, o4, o5, o6, rfl⟩ := (hP1 _ _ _).mp hp1
    obtain ⟨a, ha, rfl⟩ := map_at hd
    have hm := mem_at ha
    have hj := len_at ha
    have gk := ok.g a hm
    have hf := ok.f a hm
    have hs := ok.s a hm
    have nmA : ∀ b ∈ as, nameB b.f = true ∧ nameB b.s = true := fun b hb => ⟨hnm _ (ok.f b hb), hnm _ (ok.s b hb)⟩
    simp only [Arr.D]
    walk_at "zn"
    refine ⟨a.f, ks, rfl, hf, hk, ?_⟩
    walk_at "zn"
    refine ⟨a.s, ks, rfl, hs, hk, ?_⟩
    walk_at "zn"
    refine ⟨_, a.g, 1, _, rfl, gk.1, gk.2, ?_⟩
    walk_at "zn"
    refine lcM_pure (a := p) (xs := (as.take j).map Arr.D) at01D (fun Q' q' => ⟨_, rfl, q'⟩) mset_same (by rw [sizeLine_eq]; simp; omega) (fun x hx => ?_) ?_
    · obtain ⟨k2, hk2, rfl⟩ := List.mem_map.mp hx
      refine ⟨_, rfl, fun Q' q' => ?_⟩
      simp only [wipeD, Arr.D]
      walk_at "zs"
      exact q'
    · simp only [mkL]
      rw [at01_as]
      refine dInD_data (n := 1) (x := Arr.P a) (ys := (as.take j).map Arr.P) (by omega) (Arr.cl a (nmA a hm).1 (nmA a hm).2) rfl rfl ?_ (fun b hb => ?_)
      · rw [List.all_map, List.all_eq_true]
        intro b hb
        have := nmA b (List.mem_of_mem_take hb)
        exact Arr.cl b this.1 this.2
      have hb2 : b = false := by
        have : Arr.P a ∉ (as.take j).map Arr.P := by
          rw [ArrP_mem]
          have := nodup_take (j := j) ok.nd (a := (a.f, a.s)) (by rw [List.getElem?_map, ha]; rfl)
          rw [← List.map_take] at this
          exact this
        cases b with
        | true => exact absurd (hb.mp rfl) this
        | false => rfl
      rw [hb2]
      walk_at "zs"
      refine ⟨by simp; omega, (hP1 _ _ _).mpr ⟨?_, _, _, _, _, rfl⟩⟩
      rw [take_succ' ha, List.map_append]
      rfl
  · intro r m' hp1
    obtain ⟨rfl, o3, o4, o5, o6, rfl⟩ := (hP1 _ _ _).mp hp1
    rw [List.length_map, List.take_length]
    try simp only [dIfS, dTest, dOp, dVar, dC, dCB, daCons, daNil, dSet, dRet, dNext, dDrop, dAsg, dPar, dAug, dAddI, dBreak, dCont, dRetN, slot, dLen, dCmpI, dSub, dAdd, dMul, dDiv, dMod, dPow, dNeg, dUn, dIx, dInt1, dAbs, dChain, dAnd, dOr, dNot, dAndV, dOrV, dNotV, dTru, dTruB, dIf, dTup, dLst, mkL, dSlice, dSl, doNone, doSome, dSum, dAll, dAny, dList, dTuple, dMax, dMin, eq_ii, ne_ii, eq_ss, ne_ss, eq_bb, ne_bb, eq_nn, ne_nn, dIsN, dNotN, dFgt, dIsB, dNotB, gN, gT, gsNil, gsCons, gSet, dBM, dAppend, dClear, dFld, dFldS, dProp, dCall, dMeth, dMake, dMakeN, daStar, dDictP, dCallO, dFor, dLc, diR1, diR2, diR3, diL, diT, diRv, diS, diE, dFmt, dFStr, dJs, dCallN, dFrzE, frz_l, in_ss, notin_ss, drR1, drR2, dListR, dRaise, dRaise0, dTryAs, dTry, dXf, dAddO, dInO, isL, insOf, Option.some.injEq, List.cons.injEq, D.int.injEq, D.bl.injEq, D.str.injEq, D.lst.injEq, D.tup.injEq, D.ref.injEq, MO.lst.injEq, MO.ins.injEq, mset_mset, and_true, true_and, and_self, and_assoc, exists_eq_left', exists_eq_left, exists_and_left, exists_and_right, exists_eq', List.set_cons_zero, List.set_cons_succ, decide_eq_true_eq, sqOf, lsOf, List.length_cons, List.length_nil, sizeLine_eq, List.append_nil, List.cons_append, List.nil_append, if_true, if_false, Bool.false_eq_true, reduceCtorEq, reduceIte, Nat.reduceAdd, Nat.reduceLeDiff, mset_same, Option.bind_some, List.length_map, Prod.mk.injEq, at0, at1, at2, at3, at4, at5, at6, at7, ix30, ix31, ix32, ix20, ix21, ix10, isi_ii, isi_ib, isi_ll, isi_bb, isi_ss, isi_tt, isi_is, isi_si, Bool.not_true, Bool.not_false, dCopyK, dGet2K, dDctR, dDisp1, dFrzEK, mdel_mset hp]
    exact q
theorem putT2 {a b : D} : putD "kind_rows" b [(("name" : Str), a)] = [(("name" : Str), a), ("kind_rows", b)] := rfl
theorem putT1 {a : D} : putD "name" a [] = [(("name" : Str), a)] := rfl
theorem lk2 {a b : D} : [(("name" : Str), a), ("kind_rows", b)].lookup ("kind_rows" : Str) = some b := rfl
section
variable {t : Tsk}
theorem lk_name : (taskF t).lookup ("name" : Str) = some (.str t.nm) := rfl
theorem lk_kinds : (taskF t).lookup ("kind_rows" : Str) = some (ksD t.ks) := rfl
theorem lk_arrows : (taskF t).lookup ("arrow_rows" : Str) = some (asD t.as) := rfl
end
theorem Tsk.Ok.nms {t : Tsk} (h : t.Ok) : ∀ z ∈ names t.ks, nameB z = true := fun z hz => by
  obtain ⟨k, hk, rfl⟩ := List.mem_map.mp hz
  exact h.ks.nm k hk
theorem sq0_len {m : M} {x : D} {xs : List D} (h : sq0 x = some xs) : x = .lst xs ∨ x = .tup xs := by
  cases x with
  | lst ys => cases h; exact .inl rfl
  | tup ys => cases h; exact .inr rfl
  | _ => cases h
theorem pure_Task_init {K : Fr0} {mg : Str → Option Value} (T : Txt K mg) (ds : List D) (m : M) (Q : D → M → Prop) (E : XD → M → Prop) (h : sp_Task_init K ds m Q E) : t_Task_init K (fun x _ m => E x m) { nx := fun _ m => Q .non m, rt := Q } (startD nm_Task_init ds) m := by
  obtain ⟨a, t, x, rfl, hx, ha, ok, q⟩ := h
  have z := nm_len ok.nm
  have k1 := ok.k1
  have k4 := ok.k4
  have a12 := ok.a12
  rcases sq0_len (m := m) hx with rfl | rfl
  · show t_Task_init K _ _ [some (.ref a), some (.str t.nm), some (ksD t.ks), some (.lst (t.as.map Arr.D))] m
    unfold t_Task_init
    walk_at "zn"
    refine ⟨t.nm, rfl, by omega, ok.nm, ?_⟩
    walk_at "zn"
    rw [if_pos (by omega), if_neg (by simp; omega)]
    walk_at "zn"
    rw [if_neg (by omega)]
    try simp only [dSeq]
    try simp only [dIfS, dTest, dOp, dVar, dC, dCB, daCons, daNil, dSet, dRet, dNext, dDrop, dAsg, dPar, dAug, dAddI, dBreak, dCont, dRetN, slot, dLen, dCmpI, dSub, dAdd, dMul, dDiv, dMod, dPow, dNeg, dUn, dIx, dInt1, dAbs, dChain, dAnd, dOr, dNot, dAndV, dOrV, dNotV, dTru, dTruB, dIf, dTup, dLst, mkL, dSlice, dSl, doNone, doSome, dSum, dAll, dAny, dList, dTuple, dMax, dMin, eq_ii, ne_ii, eq_ss, ne_ss, eq_bb, ne_bb, eq_nn, ne_nn, dIsN, dNotN, dFgt, dIsB, dNotB, gN, gT, gsNil, gsCons, gSet, dBM, dAppend, dClear, dFld, dFldS, dProp, dCall, dMeth, dMake, dMakeN, daStar, dDictP, dCallO, dFor, dLc, diR1, diR2, diR3, diL, diT, diRv, diS, diE, dFmt, dFStr, dJs, dCallN, dFrzE, frz_l, in_ss, notin_ss, drR1, drR2, dListR, dRaise, dRaise0, dTryAs, dTry, dXf, dAddO, dInO, isL, insOf, Option.some.injEq, List.cons.injEq, D.int.injEq, D.bl.injEq, D.str.injEq, D.lst.injEq, D.tup.injEq, D.ref.injEq, MO.lst.injEq, MO.ins.injEq, mset_mset, and_true, true_and, and_self, and_assoc, exists_eq_left', exists_eq_left, exists_and_left, exists_and_right, exists_eq', List.set_cons_zero, List.set_cons_succ, decide_eq_true_eq, sqOf, lsOf, List.length_cons, List.length_nil, sizeLine_eq, List.append_nil, List.cons_append, List.nil_append, if_true, if_false, Bool.false_eq_true, reduceCtorEq, reduceIte, Nat.reduceAdd, Nat.reduceLeDiff, mset_same, Option.bind_some, List.length_map, Prod.mk.injEq, at0, at1, at2, at3, at4, at5, at6, at7, ix30, ix31, ix32, ix20, ix21, ix10, isi_ii, isi_ib, isi_ll, isi_bb, isi_ss, isi_tt, isi_is, isi_si, Bool.not_true, Bool.not_false, dCopyK, dGet2K, dDctR, dDisp1, dFrzEK, T.cl_Task, T.n_Task_name, T.n_Task_kind_rows, T.n_Task_arrow_rows, taskD, lk_name, lk_kinds, lk_arrows, ha, putT1]
    try simp only [dSeq]
    try simp only [dIfS, dTest, dOp, dVar, dC, dCB, daCons, daNil, dSet, dRet, dNext, dDrop, dAsg, dPar, dAug, dAddI, dBreak, dCont, dRetN, slot, dLen, dCmpI, dSub, dAdd, dMul, dDiv, dMod, dPow, dNeg, dUn, dIx, dInt1, dAbs, dChain, dAnd, dOr, dNot, dAndV, dOrV, dNotV, dTru, dTruB, dIf, dTup, dLst, mkL, dSlice, dSl, doNone, doSome, dSum, dAll, dAny, dList, dTuple, dMax, dMin, eq_ii, ne_ii, eq_ss, ne_ss, eq_bb, ne_bb, eq_nn, ne_nn, dIsN, dNotN, dFgt, dIsB, dNotB, gN, gT, gsNil, gsCons, gSet, dBM, dAppend, dClear, dFld, dFldS, dProp, dCall, dMeth, dMake, dMakeN, daStar, dDictP, dCallO, dFor, dLc, diR1, diR2, diR3, diL, diT, diRv, diS, diE, dFmt, dFStr, dJs, dCallN, dFrzE, frz_l, in_ss, notin_ss, drR1, drR2, dListR, dRaise, dRaise0, dTryAs, dTry, dXf, dAddO, dInO, isL, insOf, Option.some.injEq, List.cons.injEq, D.int.injEq, D.bl.injEq, D.str.injEq, D.lst.injEq, D.tup.injEq, D.ref.injEq, MO.lst.injEq, MO.ins.injEq, mset_mset, and_true, true_and, and_self, and_assoc, exists_eq_left', exists_eq_left, exists_and_left, exists_and_right, exists_eq', List.set_cons_zero, List.set_cons_succ, decide_eq_true_eq, sqOf, lsOf, List.length_cons, List.length_nil, sizeLine_eq, List.append_nil, List.cons_append, List.nil_append, if_true, if_false, Bool.false_eq_true, reduceCtorEq, reduceIte, Nat.reduceAdd, Nat.reduceLeDiff, mset_same, Option.bind_some, List.length_map, Prod.mk.injEq, at0, at1, at2, at3, at4, at5, at6, at7, ix30, ix31, ix32, ix20, ix21, ix10, isi_ii, isi_ib, isi_ll, isi_bb, isi_ss, isi_tt, isi_is, isi_si, Bool.not_true, Bool.not_false, dCopyK, dGet2K, dDctR, dDisp1, dFrzEK, T.cl_Task, T.n_Task_name, T.n_Task_kind_rows, T.n_Task_arrow_rows, taskD, lk_name, lk_kinds, lk_arrows, putT2, lk2]
    refine ⟨by omega, t.ks, _, rfl, by have := ok.ks; simpa using this, by omega, ?_⟩
    refine ⟨_, _, mset_same, T.cl_Task, T.n_Task_kind_rows, by simp, T.cl_Task, T.n_Task_kind_rows, _, rfl, ?_⟩
    refine ⟨t.as, _, t.ks, rfl, rfl, ok.as, by omega, by omega, ok.nms, ?_⟩
    rw [mset_mset]
    refine ⟨_, _, mset_same, T.cl_Task, T.n_Task_arrow_rows, by show 2 < 1000; omega, ?_⟩
    rw [mset_mset]
    exact q
  · show t_Task_init K _ _ [some (.ref a), some (.str t.nm), some (ksD t.ks), some (.tup (t.as.map Arr.D))] m
    unfold t_Task_init
    walk_at "zn"
    refine ⟨t.nm, rfl, by omega, ok.nm, ?_⟩
    walk_at "zn"
    rw [if_pos (by omega), if_neg (by simp; omega)]
    walk_at "zn"
    rw [if_neg (by omega)]
    try simp only [dSeq]
    try simp only [dIfS, dTest, dOp, dVar, dC, dCB, daCons, daNil, dSet, dRet, dNext, dDrop, dAsg, dPar, dAug, dAddI, dBreak, dCont, dRetN, slot, dLen, dCmpI, dSub, dAdd, dMul, dDiv, dMod, dPow, dNeg, dUn, dIx, dInt1, dAbs, dChain, dAnd, dOr, dNot, dAndV, dOrV, dNotV, dTru, dTruB, dIf, dTup, dLst, mkL, dSlice, dSl, doNone, doSome, dSum, dAll, dAny, dList, dTuple, dMax, dMin, eq_ii, ne_ii, eq_ss, ne_ss, eq_bb, ne_bb, eq_nn, ne_nn, dIsN, dNotN, dFgt, dIsB, dNotB, gN, gT, gsNil, gsCons, gSet, dBM, dAppend, dClear, dFld, dFldS, dProp, dCall, dMeth, dMake, dMakeN, daStar, dDictP, dCallO, dFor, dLc, diR1, diR2, diR3, diL, diT, diRv, diS, diE, dFmt, dFStr, dJs, dCallN, dFrzE, frz_l, in_ss, notin_ss, drR1, drR2, dListR, dRaise, dRaise0, dTryAs, dTry, dXf, dAddO, dInO, isL, insOf, Option.some.injEq, List.cons.injEq, D.int.injEq, D.bl.injEq, D.str.injEq, D.lst.injEq, D.tup.injEq, D.ref.injEq, MO.lst.injEq, MO.ins.injEq, mset_mset, and_true, true_and, and_self, and_assoc, exists_eq_left', exists_eq_left, exists_and_left, exists_and_right, exists_eq', List.set_cons_zero, List.set_cons_succ, decide_eq_true_eq, sqOf, lsOf, List.length_cons, List.length_nil, sizeLine_eq, List.append_nil, List.cons_append, List.nil_append, if_true, if_false, Bool.false_eq_true, reduceCtorEq, reduceIte, Nat.reduceAdd, Nat.reduceLeDiff, mset_same, Option.bind_some, List.length_map, Prod.mk.injEq, at0, at1, at2, at3, at4, at5, at6, at7, ix30, ix31, ix32, ix20, ix21, ix10, isi_ii, isi_ib, isi_ll, isi_bb, isi_ss, isi_tt, isi_is, isi_si, Bool.not_true, Bool.not_false, dCopyK, dGet2K, dDctR, dDisp1, dFrzEK, T.cl_Task, T.n_Task_name, T.n_Task_kind_rows, T.n_Task_arrow_rows, taskD, lk_name, lk_kinds, lk_arrows, ha, putT1]
    try simp only [dSeq]
    try simp only [dIfS, dTest, dOp, dVar, dC, dCB, daCons, daNil, dSet, dRet, dNext, dDrop, dAsg, dPar, dAug, dAddI, dBreak, dCont, dRetN, slot, dLen, dCmpI, dSub, dAdd, dMul, dDiv, dMod, dPow, dNeg, dUn, dIx, dInt1, dAbs, dChain, dAnd, dOr, dNot, dAndV, dOrV, dNotV, dTru, dTruB, dIf, dTup, dLst, mkL, dSlice, dSl, doNone, doSome, dSum, dAll, dAny, dList, dTuple, dMax, dMin, eq_ii, ne_ii, eq_ss, ne_ss, eq_bb, ne_bb, eq_nn, ne_nn, dIsN, dNotN, dFgt, dIsB, dNotB, gN, gT, gsNil, gsCons, gSet, dBM, dAppend, dClear, dFld, dFldS, dProp, dCall, dMeth, dMake, dMakeN, daStar, dDictP, dCallO, dFor, dLc, diR1, diR2, diR3, diL, diT, diRv, diS, diE, dFmt, dFStr, dJs, dCallN, dFrzE, frz_l, in_ss, notin_ss, drR1, drR2, dListR, dRaise, dRaise0, dTryAs, dTry, dXf, dAddO, dInO, isL, insOf, Option.some.injEq, List.cons.injEq, D.int.injEq, D.bl.injEq, D.str.injEq, D.lst.injEq, D.tup.injEq, D.ref.injEq, MO.lst.injEq, MO.ins.injEq, mset_mset, and_true, true_and, and_self, and_assoc, exists_eq_left', exists_eq_left, exists_and_left, exists_and_right, exists_eq', List.set_cons_zero, List.set_cons_succ, decide_eq_true_eq, sqOf, lsOf, List.length_cons, List.length_nil, sizeLine_eq, List.append_nil, List.cons_append, List.nil_append, if_true, if_false, Bool.false_eq_true, reduceCtorEq, reduceIte, Nat.reduceAdd, Nat.reduceLeDiff, mset_same, Option.bind_some, List.length_map, Prod.mk.injEq, at0, at1, at2, at3, at4, at5, at6, at7, ix30, ix31, ix32, ix20, ix21, ix10, isi_ii, isi_ib, isi_ll, isi_bb, isi_ss, isi_tt, isi_is, isi_si, Bool.not_true, Bool.not_false, dCopyK, dGet2K, dDctR, dDisp1, dFrzEK, T.cl_Task, T.n_Task_name, T.n_Task_kind_rows, T.n_Task_arrow_rows, taskD, lk_name, lk_kinds, lk_arrows, putT2, lk2]
    refine ⟨by omega, t.ks, _, rfl, by have := ok.ks; simpa using this, by omega, ?_⟩
    refine ⟨_, _, mset_same, T.cl_Task, T.n_Task_kind_rows, by simp, T.cl_Task, T.n_Task_kind_rows, _, rfl, ?_⟩
    refine ⟨t.as, _, t.ks, rfl, rfl, ok.as, by omega, by omega, ok.nms, ?_⟩
    rw [mset_mset]
    refine ⟨_, _, mset_same, T.cl_Task, T.n_Task_arrow_rows, by show 2 < 1000; omega, ?_⟩
    rw [mset_mset]
    exact q
theorem none_Task_init {K : Fr0} : ∀ ds m Q E, sp_Task_init K ds m Q E → sp_Task_init K ds m (fun d m' => d = .non ∧ Q d m') E := by
  rintro ds m Q E ⟨a, t, x, rfl, hx, ha, ok, q⟩
  exact ⟨a, t, x, rfl, hx, ha, ok, rfl, q⟩
theorem kOf_is {t : Tsk} (ok : t.Ok) {k : Knd} (hk : k ∈ t.ks) : kOf t k.n = k := by
  unfold kOf
  cases e : t.ks.find? (fun x => decide (x.n = k.n)) with
  | none =>
    have := List.find?_eq_none.mp e k hk
    simp at this
  | some x =>
    have h1 := List.mem_of_find?_eq_some e
    have h2 : x.n = k.n := by simpa using List.find?_some e
    obtain ⟨i, hi⟩ := List.mem_iff_getElem?.mp h1
    obtain ⟨j, hj⟩ := List.mem_iff_getElem?.mp hk
    have e1 : (names t.ks)[i]? = some x.n := by rw [List.getElem?_map, hi]; rfl
    have e2 : (names t.ks)[j]? = some k.n := by rw [List.getElem?_map, hj]; rfl
    have ij : i = j := (List.getElem?_inj (by rw [List.length_map]; exact len_at hi) ok.ks.nd).mp (by rw [e1, e2, h2])
    subst ij
    rw [hi] at hj
    cases hj
    rfl
theorem known {t : Tsk} {z : Str} (h : z ∈ names t.ks) : ∃ k ∈ t.ks, k.n = z := by
  obtain ⟨k, hk, e⟩ := List.mem_map.mp h
  exact ⟨k, hk, e⟩
theorem pure_Task_row_of {K : Fr0} {mg : Str → Option Value} (T : Txt K mg) (ds : List D) (m : M) (Q : D → M → Prop) (E : XD → M → Prop) (h : sp_Task_row_of K ds m Q E) : t_Task_row_of K (fun x _ m => E x m) { nx := fun _ m => Q .non m, rt := Q } (startD nm_Task_row_of ds) m := by
  obtain ⟨t, x, z, rfl, rfl, ok, q, qe⟩ := h
  show t_Task_row_of K _ _ [some (taskD K t), some (.str z), none] m
  unfold t_Task_row_of
  try simp only [dSeq]
  try simp only [dIfS, dTest, dOp, dVar, dC, dCB, daCons, daNil, dSet, dRet, dNext, dDrop, dAsg, dPar, dAug, dAddI, dBreak, dCont, dRetN, slot, dLen, dCmpI, dSub, dAdd, dMul, dDiv, dMod, dPow, dNeg, dUn, dIx, dInt1, dAbs, dChain, dAnd, dOr, dNot, dAndV, dOrV, dNotV, dTru, dTruB, dIf, dTup, dLst, mkL, dSlice, dSl, doNone, doSome, dSum, dAll, dAny, dList, dTuple, dMax, dMin, eq_ii, ne_ii, eq_ss, ne_ss, eq_bb, ne_bb, eq_nn, ne_nn, dIsN, dNotN, dFgt, dIsB, dNotB, gN, gT, gsNil, gsCons, gSet, dBM, dAppend, dClear, dFld, dFldS, dProp, dCall, dMeth, dMake, dMakeN, daStar, dDictP, dCallO, dFor, dLc, diR1, diR2, diR3, diL, diT, diRv, diS, diE, dFmt, dFStr, dJs, dCallN, dFrzE, frz_l, in_ss, notin_ss, drR1, drR2, dListR, dRaise, dRaise0, dTryAs, dTry, dXf, dAddO, dInO, isL, insOf, Option.some.injEq, List.cons.injEq, D.int.injEq, D.bl.injEq, D.str.injEq, D.lst.injEq, D.tup.injEq, D.ref.injEq, MO.lst.injEq, MO.ins.injEq, mset_mset, and_true, true_and, and_self, and_assoc, exists_eq_left', exists_eq_left, exists_and_left, exists_and_right, exists_eq', List.set_cons_zero, List.set_cons_succ, decide_eq_true_eq, sqOf, lsOf, List.length_cons, List.length_nil, sizeLine_eq, List.append_nil, List.cons_append, List.nil_append, if_true, if_false, Bool.false_eq_true, reduceCtorEq, reduceIte, Nat.reduceAdd, Nat.reduceLeDiff, mset_same, Option.bind_some, List.length_map, Prod.mk.injEq, at0, at1, at2, at3, at4, at5, at6, at7, ix30, ix31, ix32, ix20, ix21, ix10, isi_ii, isi_ib, isi_ll, isi_bb, isi_ss, isi_tt, isi_is, isi_si, Bool.not_true, Bool.not_false, dCopyK, dGet2K, dDctR, dDisp1, dFrzEK, T.cl_Task, T.n_Task_name, T.n_Task_kind_rows, T.n_Task_arrow_rows, taskD, lk_name, lk_kinds, lk_arrows]
  obtain ⟨P1, hP1⟩ : ∃ P : Nat → DSt → M → Prop, ∀ j r m', P j r m' ↔ (m' = m ∧ (∀ i k, i < j → t.ks[i]? = some k → k.n ≠ z) ∧ ∃ o2, r = [some (taskD K t), some (.str z), o2]) := ⟨_, fun _ _ _ => Iff.rfl⟩
  refine ⟨P1, (hP1 _ _ _).mpr ⟨rfl, fun i k h => absurd h (Nat.not_lt_zero _), _, rfl⟩, ?_, ?_⟩
  · intro j d r m' hd hp1
    obtain ⟨rfl, hn, o2, rfl⟩ := (hP1 _ _ _).mp hp1
    obtain ⟨k, hk, rfl⟩ := map_at hd
    simp only [Knd.D]
    walk_at "zs"
    by_cases e : k.n = z
    · rw [if_pos e]
      exact q k (mem_at hk) e
    · rw [if_neg e]
      refine (hP1 _ _ _).mpr ⟨rfl, fun i k2 hi h2 => ?_, _, rfl⟩
      by_cases hij : i = j
      · subst hij
        rw [hk] at h2
        cases h2
        exact e
      · exact hn i k2 (by omega) h2
  · intro r m' hp1
    obtain ⟨rfl, hn, o2, rfl⟩ := (hP1 _ _ _).mp hp1
    rw [List.length_map] at hn
    walk_at "zs"
    refine qe fun hz => ?_
    obtain ⟨k, hk, e⟩ := known hz
    obtain ⟨i, hi⟩ := List.mem_iff_getElem?.mp hk
    exact hn i k (len_at hi) hi e
theorem pure_Task_cost_of {K : Fr0} {mg : Str → Option Value} (T : Txt K mg) (ds : List D) (m : M) (Q : D → M → Prop) (E : XD → M → Prop) (h : sp_Task_cost_of K ds m Q E) : t_Task_cost_of K (fun x _ m => E x m) { nx := fun _ m => Q .non m, rt := Q } (startD nm_Task_cost_of ds) m := by
  obtain ⟨t, x, z, rfl, rfl, ok, q, qe⟩ := h
  show t_Task_cost_of K _ _ [some (taskD K t), some (.str z)] m
  unfold t_Task_cost_of
  try simp only [dIfS, dTest, dOp, dVar, dC, dCB, daCons, daNil, dSet, dRet, dNext, dDrop, dAsg, dPar, dAug, dAddI, dBreak, dCont, dRetN, slot, dLen, dCmpI, dSub, dAdd, dMul, dDiv, dMod, dPow, dNeg, dUn, dIx, dInt1, dAbs, dChain, dAnd, dOr, dNot, dAndV, dOrV, dNotV, dTru, dTruB, dIf, dTup, dLst, mkL, dSlice, dSl, doNone, doSome, dSum, dAll, dAny, dList, dTuple, dMax, dMin, eq_ii, ne_ii, eq_ss, ne_ss, eq_bb, ne_bb, eq_nn, ne_nn, dIsN, dNotN, dFgt, dIsB, dNotB, gN, gT, gsNil, gsCons, gSet, dBM, dAppend, dClear, dFld, dFldS, dProp, dCall, dMeth, dMake, dMakeN, daStar, dDictP, dCallO, dFor, dLc, diR1, diR2, diR3, diL, diT, diRv, diS, diE, dFmt, dFStr, dJs, dCallN, dFrzE, frz_l, in_ss, notin_ss, drR1, drR2, dListR, dRaise, dRaise0, dTryAs, dTry, dXf, dAddO, dInO, isL, insOf, Option.some.injEq, List.cons.injEq, D.int.injEq, D.bl.injEq, D.str.injEq, D.lst.injEq, D.tup.injEq, D.ref.injEq, MO.lst.injEq, MO.ins.injEq, mset_mset, and_true, true_and, and_self, and_assoc, exists_eq_left', exists_eq_left, exists_and_left, exists_and_right, exists_eq', List.set_cons_zero, List.set_cons_succ, decide_eq_true_eq, sqOf, lsOf, List.length_cons, List.length_nil, sizeLine_eq, List.append_nil, List.cons_append, List.nil_append, if_true, if_false, Bool.false_eq_true, reduceCtorEq, reduceIte, Nat.reduceAdd, Nat.reduceLeDiff, mset_same, Option.bind_some, List.length_map, Prod.mk.injEq, at0, at1, at2, at3, at4, at5, at6, at7, ix30, ix31, ix32, ix20, ix21, ix10, isi_ii, isi_ib, isi_ll, isi_bb, isi_ss, isi_tt, isi_is, isi_si, Bool.not_true, Bool.not_false, dCopyK, dGet2K, dDctR, dDisp1, dFrzEK, T.cl_Task, T.n_Task_name, T.n_Task_kind_rows, T.n_Task_arrow_rows, taskD, lk_name, lk_kinds, lk_arrows]
  refine ⟨rfl, t, _, z, rfl, rfl, ok, fun k hk e => ?_, qe⟩
  simp only [Knd.D]
  walk_at "zs"
  exact q k hk e
theorem pure_Task_deadline_of {K : Fr0} {mg : Str → Option Value} (T : Txt K mg) (ds : List D) (m : M) (Q : D → M → Prop) (E : XD → M → Prop) (h : sp_Task_deadline_of K ds m Q E) : t_Task_deadline_of K (fun x _ m => E x m) { nx := fun _ m => Q .non m, rt := Q } (startD nm_Task_deadline_of ds) m := by
  obtain ⟨t, x, z, rfl, rfl, ok, q, qe⟩ := h
  show t_Task_deadline_of K _ _ [some (taskD K t), some (.str z)] m
  unfold t_Task_deadline_of
  try simp only [dIfS, dTest, dOp, dVar, dC, dCB, daCons, daNil, dSet, dRet, dNext, dDrop, dAsg, dPar, dAug, dAddI, dBreak, dCont, dRetN, slot, dLen, dCmpI, dSub, dAdd, dMul, dDiv, dMod, dPow, dNeg, dUn, dIx, dInt1, dAbs, dChain, dAnd, dOr, dNot, dAndV, dOrV, dNotV, dTru, dTruB, dIf, dTup, dLst, mkL, dSlice, dSl, doNone, doSome, dSum, dAll, dAny, dList, dTuple, dMax, dMin, eq_ii, ne_ii, eq_ss, ne_ss, eq_bb, ne_bb, eq_nn, ne_nn, dIsN, dNotN, dFgt, dIsB, dNotB, gN, gT, gsNil, gsCons, gSet, dBM, dAppend, dClear, dFld, dFldS, dProp, dCall, dMeth, dMake, dMakeN, daStar, dDictP, dCallO, dFor, dLc, diR1, diR2, diR3, diL, diT, diRv, diS, diE, dFmt, dFStr, dJs, dCallN, dFrzE, frz_l, in_ss, notin_ss, drR1, drR2, dListR, dRaise, dRaise0, dTryAs, dTry, dXf, dAddO, dInO, isL, insOf, Option.some.injEq, List.cons.injEq, D.int.injEq, D.bl.injEq, D.str.injEq, D.lst.injEq, D.tup.injEq, D.ref.injEq, MO.lst.injEq, MO.ins.injEq, mset_mset, and_true, true_and, and_self, and_assoc, exists_eq_left', exists_eq_left, exists_and_left, exists_and_right, exists_eq', List.set_cons_zero, List.set_cons_succ, decide_eq_true_eq, sqOf, lsOf, List.length_cons, List.length_nil, sizeLine_eq, List.append_nil, List.cons_append, List.nil_append, if_true, if_false, Bool.false_eq_true, reduceCtorEq, reduceIte, Nat.reduceAdd, Nat.reduceLeDiff, mset_same, Option.bind_some, List.length_map, Prod.mk.injEq, at0, at1, at2, at3, at4, at5, at6, at7, ix30, ix31, ix32, ix20, ix21, ix10, isi_ii, isi_ib, isi_ll, isi_bb, isi_ss, isi_tt, isi_is, isi_si, Bool.not_true, Bool.not_false, dCopyK, dGet2K, dDctR, dDisp1, dFrzEK, T.cl_Task, T.n_Task_name, T.n_Task_kind_rows, T.n_Task_arrow_rows, taskD, lk_name, lk_kinds, lk_arrows]
  refine ⟨rfl, t, _, z, rfl, rfl, ok, fun k hk e => ?_, qe⟩
  simp only [Knd.D]
  walk_at "zs"
  exact q k hk e
theorem foll_eq (t : Tsk) (z : Str) : List.map (fun d => match d with | .tup [_, x, y] => D.tup [x, y] | _ => .non) (List.filter (fun d => match d with | .tup [.str x, _, _] => decide (x = z) | _ => false) (t.as.map Arr.D)) = (foll t z).map folD := by
  unfold foll
  rw [List.filter_map, List.map_map]
  rfl
theorem pure_Task_followers {K : Fr0} {mg : Str → Option Value} (T : Txt K mg) (ds : List D) (m : M) (Q : D → M → Prop) (E : XD → M → Prop) (h : sp_Task_followers K ds m Q E) : t_Task_followers K (fun x _ m => E x m) { nx := fun _ m => Q .non m, rt := Q } (startD nm_Task_followers ds) m := by
  obtain ⟨t, x, z, rfl, rfl, ok, q, qe⟩ := h
  show t_Task_followers K _ _ [some (taskD K t), some (.str z), none, none, none] m
  unfold t_Task_followers
  try simp only [dSeq]
  try simp only [dIfS, dTest, dOp, dVar, dC, dCB, daCons, daNil, dSet, dRet, dNext, dDrop, dAsg, dPar, dAug, dAddI, dBreak, dCont, dRetN, slot, dLen, dCmpI, dSub, dAdd, dMul, dDiv, dMod, dPow, dNeg, dUn, dIx, dInt1, dAbs, dChain, dAnd, dOr, dNot, dAndV, dOrV, dNotV, dTru, dTruB, dIf, dTup, dLst, mkL, dSlice, dSl, doNone, doSome, dSum, dAll, dAny, dList, dTuple, dMax, dMin, eq_ii, ne_ii, eq_ss, ne_ss, eq_bb, ne_bb, eq_nn, ne_nn, dIsN, dNotN, dFgt, dIsB, dNotB, gN, gT, gsNil, gsCons, gSet, dBM, dAppend, dClear, dFld, dFldS, dProp, dCall, dMeth, dMake, dMakeN, daStar, dDictP, dCallO, dFor, dLc, diR1, diR2, diR3, diL, diT, diRv, diS, diE, dFmt, dFStr, dJs, dCallN, dFrzE, frz_l, in_ss, notin_ss, drR1, drR2, dListR, dRaise, dRaise0, dTryAs, dTry, dXf, dAddO, dInO, isL, insOf, Option.some.injEq, List.cons.injEq, D.int.injEq, D.bl.injEq, D.str.injEq, D.lst.injEq, D.tup.injEq, D.ref.injEq, MO.lst.injEq, MO.ins.injEq, mset_mset, and_true, true_and, and_self, and_assoc, exists_eq_left', exists_eq_left, exists_and_left, exists_and_right, exists_eq', List.set_cons_zero, List.set_cons_succ, decide_eq_true_eq, sqOf, lsOf, List.length_cons, List.length_nil, sizeLine_eq, List.append_nil, List.cons_append, List.nil_append, if_true, if_false, Bool.false_eq_true, reduceCtorEq, reduceIte, Nat.reduceAdd, Nat.reduceLeDiff, mset_same, Option.bind_some, List.length_map, Prod.mk.injEq, at0, at1, at2, at3, at4, at5, at6, at7, ix30, ix31, ix32, ix20, ix21, ix10, isi_ii, isi_ib, isi_ll, isi_bb, isi_ss, isi_tt, isi_is, isi_si, Bool.not_true, Bool.not_false, dCopyK, dGet2K, dDctR, dDisp1, dFrzEK, T.cl_Task, T.n_Task_name, T.n_Task_kind_rows, T.n_Task_arrow_rows, taskD, lk_name, lk_kinds, lk_arrows]
  have := ok.a12
  refine ⟨rfl, t, _, z, rfl, rfl, ok, fun k hk e => ?_, qe⟩
  try simp only [dSeq]
  try simp only [dIfS, dTest, dOp, dVar, dC, dCB, daCons, daNil, dSet, dRet, dNext, dDrop, dAsg, dPar, dAug, dAddI, dBreak, dCont, dRetN, slot, dLen, dCmpI, dSub, dAdd, dMul, dDiv, dMod, dPow, dNeg, dUn, dIx, dInt1, dAbs, dChain, dAnd, dOr, dNot, dAndV, dOrV, dNotV, dTru, dTruB, dIf, dTup, dLst, mkL, dSlice, dSl, doNone, doSome, dSum, dAll, dAny, dList, dTuple, dMax, dMin, eq_ii, ne_ii, eq_ss, ne_ss, eq_bb, ne_bb, eq_nn, ne_nn, dIsN, dNotN, dFgt, dIsB, dNotB, gN, gT, gsNil, gsCons, gSet, dBM, dAppend, dClear, dFld, dFldS, dProp, dCall, dMeth, dMake, dMakeN, daStar, dDictP, dCallO, dFor, dLc, diR1, diR2, diR3, diL, diT, diRv, diS, diE, dFmt, dFStr, dJs, dCallN, dFrzE, frz_l, in_ss, notin_ss, drR1, drR2, dListR, dRaise, dRaise0, dTryAs, dTry, dXf, dAddO, dInO, isL, insOf, Option.some.injEq, List.cons.injEq, D.int.injEq, D.bl.injEq, D.str.injEq, D.lst.injEq, D.tup.injEq, D.ref.injEq, MO.lst.injEq, MO.ins.injEq, mset_mset, and_true, true_and, and_self, and_assoc, exists_eq_left', exists_eq_left, exists_and_left, exists_and_right, exists_eq', List.set_cons_zero, List.set_cons_succ, decide_eq_true_eq, sqOf, lsOf, List.length_cons, List.length_nil, sizeLine_eq, List.append_nil, List.cons_append, List.nil_append, if_true, if_false, Bool.false_eq_true, reduceCtorEq, reduceIte, Nat.reduceAdd, Nat.reduceLeDiff, mset_same, Option.bind_some, List.length_map, Prod.mk.injEq, at0, at1, at2, at3, at4, at5, at6, at7, ix30, ix31, ix32, ix20, ix21, ix10, isi_ii, isi_ib, isi_ll, isi_bb, isi_ss, isi_tt, isi_is, isi_si, Bool.not_true, Bool.not_false, dCopyK, dGet2K, dDctR, dDisp1, dFrzEK, T.cl_Task, T.n_Task_name, T.n_Task_kind_rows, T.n_Task_arrow_rows, taskD, lk_name, lk_kinds, lk_arrows]
  refine lc_filter (fun d => match d with | .tup [.str x, _, _] => decide (x = z) | _ => false) (fun d => match d with | .tup [_, x, y] => D.tup [x, y] | _ => .non) (by rw [sizeLine_eq]; simp; omega) (fun x hx => ?_) ?_
  · obtain ⟨a, ha, rfl⟩ := List.mem_map.mp hx
    refine ⟨_, rfl, fun Q' q' => ?_, fun _ Q' q' => ?_⟩
    · simp only [wipeD, Arr.D]
      walk_at "zs"
      exact q'
    · simp only [wipeD, Arr.D]
      walk_at "zs"
      exact q'
  · rw [List.nil_append, foll_eq]
    exact q (by rw [← e]; exact List.mem_map_of_mem hk)
theorem pure_gap_between {K : Fr0} {mg : Str → Option Value} (T : Txt K mg) (ds : List D) (m : M) (Q : D → M → Prop) (E : XD → M → Prop) (h : sp_gap_between K ds m Q E) : t_gap_between K (fun x _ m => E x m) { nx := fun _ m => Q .non m, rt := Q } (startD nm_gap_between ds) m := by
  obtain ⟨t, x, z, w, rfl, rfl, ok, hz, q⟩ := h
  show t_gap_between K _ _ [some (taskD K t), some (.str z), some (.str w), none, none] m
  unfold t_gap_between
  try simp only [dSeq]
  try simp only [dIfS, dTest, dOp, dVar, dC, dCB, daCons, daNil, dSet, dRet, dNext, dDrop, dAsg, dPar, dAug, dAddI, dBreak, dCont, dRetN, slot, dLen, dCmpI, dSub, dAdd, dMul, dDiv, dMod, dPow, dNeg, dUn, dIx, dInt1, dAbs, dChain, dAnd, dOr, dNot, dAndV, dOrV, dNotV, dTru, dTruB, dIf, dTup, dLst, mkL, dSlice, dSl, doNone, doSome, dSum, dAll, dAny, dList, dTuple, dMax, dMin, eq_ii, ne_ii, eq_ss, ne_ss, eq_bb, ne_bb, eq_nn, ne_nn, dIsN, dNotN, dFgt, dIsB, dNotB, gN, gT, gsNil, gsCons, gSet, dBM, dAppend, dClear, dFld, dFldS, dProp, dCall, dMeth, dMake, dMakeN, daStar, dDictP, dCallO, dFor, dLc, diR1, diR2, diR3, diL, diT, diRv, diS, diE, dFmt, dFStr, dJs, dCallN, dFrzE, frz_l, in_ss, notin_ss, drR1, drR2, dListR, dRaise, dRaise0, dTryAs, dTry, dXf, dAddO, dInO, isL, insOf, Option.some.injEq, List.cons.injEq, D.int.injEq, D.bl.injEq, D.str.injEq, D.lst.injEq, D.tup.injEq, D.ref.injEq, MO.lst.injEq, MO.ins.injEq, mset_mset, and_true, true_and, and_self, and_assoc, exists_eq_left', exists_eq_left, exists_and_left, exists_and_right, exists_eq', List.set_cons_zero, List.set_cons_succ, decide_eq_true_eq, sqOf, lsOf, List.length_cons, List.length_nil, sizeLine_eq, List.append_nil, List.cons_append, List.nil_append, if_true, if_false, Bool.false_eq_true, reduceCtorEq, reduceIte, Nat.reduceAdd, Nat.reduceLeDiff, mset_same, Option.bind_some, List.length_map, Prod.mk.injEq, at0, at1, at2, at3, at4, at5, at6, at7, ix30, ix31, ix32, ix20, ix21, ix10, isi_ii, isi_ib, isi_ll, isi_bb, isi_ss, isi_tt, isi_is, isi_si, Bool.not_true, Bool.not_false, dCopyK, dGet2K, dDctR, dDisp1, dFrzEK, T.cl_Task, T.n_Task_name, T.n_Task_kind_rows, T.n_Task_arrow_rows, taskD, lk_name, lk_kinds, lk_arrows]
  refine ⟨rfl, t, _, z, rfl, rfl, ok, fun _ => ?_, fun h => absurd hz h⟩
  walk_at "zn"
  obtain ⟨P1, hP1⟩ : ∃ P : Nat → DSt → M → Prop, ∀ j r m', P j r m' ↔ (m' = m ∧ (∀ i a, i < j → (foll t z)[i]? = some a → a.s ≠ w) ∧ ∃ o3 o4, r = [some (taskD K t), some (.str z), some (.str w), o3, o4]) := ⟨_, fun _ _ _ => Iff.rfl⟩
  refine ⟨P1, (hP1 _ _ _).mpr ⟨rfl, fun i k h => absurd h (Nat.not_lt_zero _), _, _, rfl⟩, ?_, ?_⟩
  · intro j d r m' hd hp1
    obtain ⟨rfl, hn, o3, o4, rfl⟩ := (hP1 _ _ _).mp hp1
    obtain ⟨a, ha, rfl⟩ := map_at hd
    simp only [folD]
    walk_at "zs"
    by_cases e : a.s = w
    · rw [if_pos e]
      have : gapF t z w = some a.g := by
        unfold gapF
        rw [List.find?_eq_some_iff_getElem.mpr ⟨by simpa using e, j, len_at ha, (List.getElem?_eq_some_iff.mp ha).2, fun i hi => ?_⟩]
        · rfl
        · have hl := len_at ha
          have := hn i _ hi (List.getElem?_eq_getElem (by omega))
          simpa using this
      rw [this] at q
      exact q
    · rw [if_neg e]
      refine (hP1 _ _ _).mpr ⟨rfl, fun i k2 hi h2 => ?_, _, _, rfl⟩
      by_cases hij : i = j
      · subst hij
        rw [ha] at h2
        cases h2
        exact e
      · exact hn i k2 (by omega) h2
  · intro r m' hp1
    obtain ⟨rfl, hn, o3, o4, rfl⟩ := (hP1 _ _ _).mp hp1
    rw [List.length_map] at hn
    walk_at "zs"
    have : gapF t z w = none := by
      unfold gapF
      rw [List.find?_eq_none.mpr fun a ha => ?_]
      · rfl
      · obtain ⟨i, hi⟩ := List.mem_iff_getElem?.mp ha
        have := hn i a (len_at hi) hi
        simpa using this
    rw [this] at q
    exact q
section
variable {K : Fr0} {g : Int} {js : List Rw}
theorem lk_grain : (runF g js).lookup ("grain" : Str) = some (.int g) := rfl
theorem lk_placed : (runF g js).lookup ("placed" : Str) = some (.lst (js.map Rw.D)) := rfl
theorem putR1 {a : D} : putD "grain" a [] = [(("grain" : Str), a)] := rfl
theorem putR2 {a b : D} : putD "placed" b [(("grain" : Str), a)] = [(("grain" : Str), a), ("placed", b)] := rfl
end
theorem jAt_at {w : List Job} {p : Nat} (h : p < w.length) : w[p]? = some (jAt w p) := by
  unfold jAt
  rw [List.getD_eq_getElem?_getD, List.getElem?_eq_getElem h]
  rfl
theorem jAt_I {w : List Job} {p : Nat} (h : p < w.length) : atI (w.map Job.D) (p : Int) = some (jAt w p).D := atI_nat (by rw [List.getElem?_map, jAt_at h]; rfl)
theorem wAt_at {ws : List (List Job)} {i : Nat} (h : i < ws.length) : ws[i]? = some (wAt ws i) := by
  unfold wAt
  rw [List.getD_eq_getElem?_getD, List.getElem?_eq_getElem h]
  rfl
theorem tAt_at {ts : List Tsk} {i : Nat} (h : i < ts.length) : ts[i]? = some (tAt ts i) := by
  unfold tAt
  rw [List.getD_eq_getElem?_getD, List.getElem?_eq_getElem h]
  rfl
theorem tAt_I {f : Tsk → D} {ts : List Tsk} {i : Nat} (h : i < ts.length) : atI (ts.map f) (i : Int) = some (f (tAt ts i)) := atI_nat (by rw [List.getElem?_map, tAt_at h]; rfl)
theorem kn_b {t : Tsk} (ok : t.Ok) {k : Knd} (h : k ∈ t.ks) : (1 ≤ k.c ∧ k.c ≤ 99) ∧ 1 ≤ k.d ∧ k.d ≤ 99 := by
  have h1 := ok.ks.c k h
  have h2 := ok.ks.d k h
  cases hb : decide (0 < t.as.length) <;> rw [hb] at h1 h2 <;> simp at h1 h2 <;> omega
theorem gapF_b {t : Tsk} (ok : t.Ok) {z w : Str} {a : Int} (h : gapF t z w = some a) : 1 ≤ a ∧ a ≤ 12 := by
  unfold gapF at h
  obtain ⟨x, hx, rfl⟩ := Option.map_eq_some_iff.mp h
  exact ok.as.g x (List.mem_filter.mp (List.mem_of_find?_eq_some hx)).1
theorem pure_check_job {K : Fr0} {mg : Str → Option Value} (T : Txt K mg) (ds : List D) (m : M) (Q : D → M → Prop) (E : XD → M → Prop) (h : sp_check_job K ds m Q E) : t_check_job K (fun x _ m => E x m) { nx := fun _ m => Q .non m, rt := Q } (startD nm_check_job ds) m := by
  obtain ⟨t, x, w, i, p, g, rfl, rfl, ok, hp, hb, ⟨g1, g2⟩, o⟩ := h
  show t_check_job K _ _ [some (taskD K t), some (wkD w), some (.int i), some (.int p), some (.int g), none, none, none, none, none, none] m
  unfold t_check_job
  have ea := jAt_I hp
  unfold jobX at o
  generalize jAt w p = j at *
  try simp only [dSeq]
  try simp only [dIfS, dTest, dOp, dVar, dC, dCB, daCons, daNil, dSet, dRet, dNext, dDrop, dAsg, dPar, dAug, dAddI, dBreak, dCont, dRetN, slot, dLen, dCmpI, dSub, dAdd, dMul, dDiv, dMod, dPow, dNeg, dUn, dIx, dInt1, dAbs, dChain, dAnd, dOr, dNot, dAndV, dOrV, dNotV, dTru, dTruB, dIf, dTup, dLst, mkL, dSlice, dSl, doNone, doSome, dSum, dAll, dAny, dList, dTuple, dMax, dMin, eq_ii, ne_ii, eq_ss, ne_ss, eq_bb, ne_bb, eq_nn, ne_nn, dIsN, dNotN, dFgt, dIsB, dNotB, gN, gT, gsNil, gsCons, gSet, dBM, dAppend, dClear, dFld, dFldS, dProp, dCall, dMeth, dMake, dMakeN, daStar, dDictP, dCallO, dFor, dLc, diR1, diR2, diR3, diL, diT, diRv, diS, diE, dFmt, dFStr, dJs, dCallN, dFrzE, frz_l, in_ss, notin_ss, drR1, drR2, dListR, dRaise, dRaise0, dTryAs, dTry, dXf, dAddO, dInO, isL, insOf, Option.some.injEq, List.cons.injEq, D.int.injEq, D.bl.injEq, D.str.injEq, D.lst.injEq, D.tup.injEq, D.ref.injEq, MO.lst.injEq, MO.ins.injEq, mset_mset, and_true, true_and, and_self, and_assoc, exists_eq_left', exists_eq_left, exists_and_left, exists_and_right, exists_eq', List.set_cons_zero, List.set_cons_succ, decide_eq_true_eq, sqOf, lsOf, List.length_cons, List.length_nil, sizeLine_eq, List.append_nil, List.cons_append, List.nil_append, if_true, if_false, Bool.false_eq_true, reduceCtorEq, reduceIte, Nat.reduceAdd, Nat.reduceLeDiff, mset_same, Option.bind_some, List.length_map, Prod.mk.injEq, at0, at1, at2, at3, at4, at5, at6, at7, ix30, ix31, ix32, ix20, ix21, ix10, isi_ii, isi_ib, isi_ll, isi_bb, isi_ss, isi_tt, isi_is, isi_si, Bool.not_true, Bool.not_false, dCopyK, dGet2K, dDctR, dDisp1, dFrzEK, ea, Job.D]
  try simp only [dSeq]
  try simp only [dIfS, dTest, dOp, dVar, dC, dCB, daCons, daNil, dSet, dRet, dNext, dDrop, dAsg, dPar, dAug, dAddI, dBreak, dCont, dRetN, slot, dLen, dCmpI, dSub, dAdd, dMul, dDiv, dMod, dPow, dNeg, dUn, dIx, dInt1, dAbs, dChain, dAnd, dOr, dNot, dAndV, dOrV, dNotV, dTru, dTruB, dIf, dTup, dLst, mkL, dSlice, dSl, doNone, doSome, dSum, dAll, dAny, dList, dTuple, dMax, dMin, eq_ii, ne_ii, eq_ss, ne_ss, eq_bb, ne_bb, eq_nn, ne_nn, dIsN, dNotN, dFgt, dIsB, dNotB, gN, gT, gsNil, gsCons, gSet, dBM, dAppend, dClear, dFld, dFldS, dProp, dCall, dMeth, dMake, dMakeN, daStar, dDictP, dCallO, dFor, dLc, diR1, diR2, diR3, diL, diT, diRv, diS, diE, dFmt, dFStr, dJs, dCallN, dFrzE, frz_l, in_ss, notin_ss, drR1, drR2, dListR, dRaise, dRaise0, dTryAs, dTry, dXf, dAddO, dInO, isL, insOf, Option.some.injEq, List.cons.injEq, D.int.injEq, D.bl.injEq, D.str.injEq, D.lst.injEq, D.tup.injEq, D.ref.injEq, MO.lst.injEq, MO.ins.injEq, mset_mset, and_true, true_and, and_self, and_assoc, exists_eq_left', exists_eq_left, exists_and_left, exists_and_right, exists_eq', List.set_cons_zero, List.set_cons_succ, decide_eq_true_eq, sqOf, lsOf, List.length_cons, List.length_nil, sizeLine_eq, List.append_nil, List.cons_append, List.nil_append, if_true, if_false, Bool.false_eq_true, reduceCtorEq, reduceIte, Nat.reduceAdd, Nat.reduceLeDiff, mset_same, Option.bind_some, List.length_map, Prod.mk.injEq, at0, at1, at2, at3, at4, at5, at6, at7, ix30, ix31, ix32, ix20, ix21, ix10, isi_ii, isi_ib, isi_ll, isi_bb, isi_ss, isi_tt, isi_is, isi_si, Bool.not_true, Bool.not_false, dCopyK, dGet2K, dDctR, dDisp1, dFrzEK, T.cl_Task, T.n_Task_name, T.n_Task_kind_rows, T.n_Task_arrow_rows, taskD, lk_name, lk_kinds, lk_arrows]
  refine ⟨rfl, t, _, j.k, rfl, rfl, ok, fun k hk e => ?_, fun hz => ?_⟩
  · have hin : j.k ∈ names t.ks := by rw [← e]; exact List.mem_map_of_mem hk
    rw [if_neg (by simpa using hin), ← e, kOf_is ok hk] at o
    have kb := kn_b ok hk
    walk_at "zn"
    refine ⟨mul_small (by omega), ?_⟩
    walk_at "zn"
    by_cases c1 : 1 ≤ j.c ∧ j.c ≤ k.c * g
    · rw [if_neg (by simpa using c1)] at o
      rw [if_pos c1.1]
      walk_at "zs"
      rw [if_neg (by simpa using c1.2)]
      by_cases c2 : j.r < 0
      · rw [if_pos c2] at o
        rw [if_pos c2]
        walk_at "zs"
        exact o
      · rw [if_neg c2] at o
        rw [if_neg c2]
        walk_at "zn"
        by_cases c3 : p = 0
        · subst c3
          rw [if_pos rfl] at o
          walk_at "zs"
          exact o
        · rw [if_neg c3] at o
          rw [if_neg (by omega)]
          walk_at "zn"
          have eb := jAt_I (w := w) (p := p - 1) (by omega)
          rw [show ((p - 1 : Nat) : Int) = (p : Int) - 1 by omega] at eb
          try simp only [dSeq]
          try simp only [dIfS, dTest, dOp, dVar, dC, dCB, daCons, daNil, dSet, dRet, dNext, dDrop, dAsg, dPar, dAug, dAddI, dBreak, dCont, dRetN, slot, dLen, dCmpI, dSub, dAdd, dMul, dDiv, dMod, dPow, dNeg, dUn, dIx, dInt1, dAbs, dChain, dAnd, dOr, dNot, dAndV, dOrV, dNotV, dTru, dTruB, dIf, dTup, dLst, mkL, dSlice, dSl, doNone, doSome, dSum, dAll, dAny, dList, dTuple, dMax, dMin, eq_ii, ne_ii, eq_ss, ne_ss, eq_bb, ne_bb, eq_nn, ne_nn, dIsN, dNotN, dFgt, dIsB, dNotB, gN, gT, gsNil, gsCons, gSet, dBM, dAppend, dClear, dFld, dFldS, dProp, dCall, dMeth, dMake, dMakeN, daStar, dDictP, dCallO, dFor, dLc, diR1, diR2, diR3, diL, diT, diRv, diS, diE, dFmt, dFStr, dJs, dCallN, dFrzE, frz_l, in_ss, notin_ss, drR1, drR2, dListR, dRaise, dRaise0, dTryAs, dTry, dXf, dAddO, dInO, isL, insOf, Option.some.injEq, List.cons.injEq, D.int.injEq, D.bl.injEq, D.str.injEq, D.lst.injEq, D.tup.injEq, D.ref.injEq, MO.lst.injEq, MO.ins.injEq, mset_mset, and_true, true_and, and_self, and_assoc, exists_eq_left', exists_eq_left, exists_and_left, exists_and_right, exists_eq', List.set_cons_zero, List.set_cons_succ, decide_eq_true_eq, sqOf, lsOf, List.length_cons, List.length_nil, sizeLine_eq, List.append_nil, List.cons_append, List.nil_append, if_true, if_false, Bool.false_eq_true, reduceCtorEq, reduceIte, Nat.reduceAdd, Nat.reduceLeDiff, mset_same, Option.bind_some, List.length_map, Prod.mk.injEq, at0, at1, at2, at3, at4, at5, at6, at7, ix30, ix31, ix32, ix20, ix21, ix10, isi_ii, isi_ib, isi_ll, isi_bb, isi_ss, isi_tt, isi_is, isi_si, Bool.not_true, Bool.not_false, dCopyK, dGet2K, dDctR, dDisp1, dFrzEK, eb]
          generalize jAt w (p - 1) = b at *
          try simp only [dSeq]
          try simp only [dIfS, dTest, dOp, dVar, dC, dCB, daCons, daNil, dSet, dRet, dNext, dDrop, dAsg, dPar, dAug, dAddI, dBreak, dCont, dRetN, slot, dLen, dCmpI, dSub, dAdd, dMul, dDiv, dMod, dPow, dNeg, dUn, dIx, dInt1, dAbs, dChain, dAnd, dOr, dNot, dAndV, dOrV, dNotV, dTru, dTruB, dIf, dTup, dLst, mkL, dSlice, dSl, doNone, doSome, dSum, dAll, dAny, dList, dTuple, dMax, dMin, eq_ii, ne_ii, eq_ss, ne_ss, eq_bb, ne_bb, eq_nn, ne_nn, dIsN, dNotN, dFgt, dIsB, dNotB, gN, gT, gsNil, gsCons, gSet, dBM, dAppend, dClear, dFld, dFldS, dProp, dCall, dMeth, dMake, dMakeN, daStar, dDictP, dCallO, dFor, dLc, diR1, diR2, diR3, diL, diT, diRv, diS, diE, dFmt, dFStr, dJs, dCallN, dFrzE, frz_l, in_ss, notin_ss, drR1, drR2, dListR, dRaise, dRaise0, dTryAs, dTry, dXf, dAddO, dInO, isL, insOf, Option.some.injEq, List.cons.injEq, D.int.injEq, D.bl.injEq, D.str.injEq, D.lst.injEq, D.tup.injEq, D.ref.injEq, MO.lst.injEq, MO.ins.injEq, mset_mset, and_true, true_and, and_self, and_assoc, exists_eq_left', exists_eq_left, exists_and_left, exists_and_right, exists_eq', List.set_cons_zero, List.set_cons_succ, decide_eq_true_eq, sqOf, lsOf, List.length_cons, List.length_nil, sizeLine_eq, List.append_nil, List.cons_append, List.nil_append, if_true, if_false, Bool.false_eq_true, reduceCtorEq, reduceIte, Nat.reduceAdd, Nat.reduceLeDiff, mset_same, Option.bind_some, List.length_map, Prod.mk.injEq, at0, at1, at2, at3, at4, at5, at6, at7, ix30, ix31, ix32, ix20, ix21, ix10, isi_ii, isi_ib, isi_ll, isi_bb, isi_ss, isi_tt, isi_is, isi_si, Bool.not_true, Bool.not_false, dCopyK, dGet2K, dDctR, dDisp1, dFrzEK, Job.D]
          refine ⟨t, _, b.k, j.k, rfl, rfl, ok, hb (by omega), ?_⟩
          rw [e] at o
          cases hg : gapF t b.k j.k with
          | none =>
            rw [hg] at o
            walk_at "zn"
            exact o
          | some a =>
            rw [hg] at o
            have ab := gapF_b ok hg
            walk_at "zn"
            refine ⟨mul_small (by omega), ?_⟩
            by_cases c4 : j.r - b.r < a * g
            · rw [if_pos c4]
              have o : Out (if j.r - b.r < a * g then some (plX K "GapTooShort" i p) else none) (Q .non m) (fun x => E x m) := o
              rw [if_pos c4] at o
              walk_at "zs"
              exact o
            · rw [if_neg c4]
              have o : Out (if j.r - b.r < a * g then some (plX K "GapTooShort" i p) else none) (Q .non m) (fun x => E x m) := o
              rw [if_neg c4] at o
              exact o
    · rw [if_pos c1] at o
      by_cases c2 : 1 ≤ j.c
      · rw [if_pos c2]
        walk_at "zs"
        rw [if_pos (by simpa using fun h => c1 ⟨c2, h⟩)]
        exact o
      · rw [if_neg c2]
        walk_at "zs"
        exact o
  · rw [if_pos (by simpa using hz)] at o
    exact o
theorem pure_check_counts {K : Fr0} {mg : Str → Option Value} (T : Txt K mg) (ds : List D) (m : M) (Q : D → M → Prop) (E : XD → M → Prop) (h : sp_check_counts K ds m Q E) : t_check_counts K (fun x _ m => E x m) { nx := fun _ m => Q .non m, rt := Q } (startD nm_check_counts ds) m := by
  obtain ⟨ts, ws, g, rfl, h1, h2, o⟩ := h
  show t_check_counts K _ _ [some (.lst (ts.map (taskD K))), some (wksD ws), some (.int g), none, none] m
  unfold t_check_counts
  unfold cntsX at o
  walk_at "zn"
  have H : ¬ (1 ≤ g ∧ g ≤ 60) → E (rngX K "grain" g) m := fun h => by rw [if_pos h] at o; exact o
  by_cases c1 : 1 ≤ g
  · rw [if_pos c1]
    walk_at "zs"
    by_cases c2 : g ≤ 60
    · rw [if_neg (by simp; omega)] at o
      rw [if_neg (by simpa using c2)]
      walk_at "zn"
      by_cases c3 : ws.length = ts.length
      · rw [if_neg (by simpa using c3)] at o
        rw [if_neg (by simp; omega)]
        walk_at "zn"
        refine lc_mapD (g := wkD) (f := fun w => .int (w.length : Nat)) (by rw [sizeLine_eq]; omega) (fun w hw => ⟨_, rfl, fun Q' q' => ?_⟩) ?_
        · simp only [wipeD]
          walk_at "zs"
          exact q'
        walk_at "zs"
        refine ⟨ws.map fun w => ((w.length : Nat) : Int), by rw [List.map_map]; rfl, ?_⟩
        have es : (ws.map fun w => ((w.length : Nat) : Int)).sum = (many ws : Nat) := by
          unfold many
          clear o h2 c3
          induction ws with
          | nil => rfl
          | cons w ws ih => rw [List.map_cons, List.sum_cons, ih, List.map_cons, List.sum_cons]; omega
        rw [es]
        by_cases c4 : 400 < many ws
        · rw [if_pos c4] at o
          rw [if_pos (by omega)]
          exact o
        · rw [if_neg c4] at o
          rw [if_neg (by omega)]
          exact o
      · rw [if_pos c3] at o
        rw [if_pos (by simp; omega)]
        exact o
    · rw [if_pos (by simpa using c2)]
      exact H (by omega)
  · rw [if_neg c1]
    exact H (by omega)
theorem some_of {f : Nat → Option XD} {n j : Nat} {x : XD} (hj : j < n) (h0 : ∀ p, p < j → f p = none) (h1 : f j = some x) : (List.range n).findSome? f = some x := by
  obtain ⟨k, rfl⟩ : ∃ k, n = j + 1 + k := ⟨n - (j + 1), by omega⟩
  rw [List.range_add, List.findSome?_append, List.range_succ, List.findSome?_append]
  rw [show (List.range j).findSome? f = none from List.findSome?_eq_none_iff.mpr fun p hp => h0 p (List.mem_range.mp hp)]
  simp [h1]
theorem none_of' {f : Nat → Option XD} {n : Nat} (h0 : ∀ p, p < n → f p = none) : (List.range n).findSome? f = none := List.findSome?_eq_none_iff.mpr fun p hp => h0 p (List.mem_range.mp hp)
theorem len_many {w : List Job} {ws : List (List Job)} (h : w ∈ ws) : w.length ≤ many ws := by
  unfold many
  induction ws with
  | nil => cases h
  | cons x ws ih =>
    rw [List.map_cons, List.sum_cons]
    rcases List.mem_cons.mp h with rfl | h
    · omega
    · have := ih h
      omega
def rowsN (ts : List Tsk) (g : Int) (ws : List (List Job)) (n : Nat) : List Rw := (List.range n).flatMap fun i => rowsW (tAt ts i) g i (wAt ws i)
theorem rowsN_succ (ts : List Tsk) (g : Int) (ws : List (List Job)) (n : Nat) : rowsN ts g ws (n + 1) = rowsN ts g ws n ++ rowsW (tAt ts n) g n (wAt ws n) := by
  unfold rowsN
  rw [List.range_succ, List.flatMap_append]
  simp
theorem rowsN_len {ts : List Tsk} {g : Int} {ws : List (List Job)} {B : Nat} (h : ∀ w ∈ ws, w.length ≤ B) : ∀ n, n ≤ ws.length → (rowsN ts g ws n).length ≤ n * B
  | 0, _ => by simp [rowsN]
  | n + 1, hn => by
    have := rowsN_len (ts := ts) (g := g) h n (by omega)
    have h2 := h (wAt ws n) (mem_at (wAt_at (by omega)))
    rw [rowsN_succ, List.length_append, Nat.add_mul]
    unfold rowsW
    rw [List.length_map, List.length_range]
    omega
theorem rowP_succ (t : Tsk) (g : Int) (i : Nat) (w : List Job) (j : Nat) : (List.range (j + 1)).map (rowJ t g i w) = (List.range j).map (rowJ t g i w) ++ [rowJ t g i w j] := by
  rw [List.range_succ, List.map_append]
  rfl
def kyR (d : D) : D := match d with
  | .tup [i, p, _, r, _, _] => .tup [r, i, p]
  | d => d
def kyRP (d : D) : PyData := (toP (kyR d)).getD .none
theorem kyR_p (x : Rw) : toP (kyR x.D) = some (keyR x) := by
  show toP (.tup [.int x.r, .int x.i, .int x.p]) = _
  rw [toP, toPs, toPs, toPs, toPs, toP, toP, toP]
  rfl
theorem kyRP_p (x : Rw) : kyRP x.D = keyR x := by unfold kyRP; rw [kyR_p]; rfl
theorem toPs_map {α : Type} {f : α → D} {g : α → PyData} : ∀ {l : List α}, (∀ x ∈ l, toP (f x) = some (g x)) → toPs (l.map f) = some (l.map g)
  | [], _ => by rw [List.map_nil, toPs]; rfl
  | x :: l, h => by
    rw [List.map_cons, toPs, h x List.mem_cons_self, toPs_map (fun y hy => h y (List.mem_cons_of_mem _ hy))]
    rfl
theorem alike_keyR (a b : Rw) : PySem.W.alike (keyR a) (keyR b) = true := by
  unfold keyR
  rw [PySem.W.alike, PySem.W.alikeAll, PySem.W.alikeAll, PySem.W.alikeAll, PySem.W.alikeAll, PySem.W.alike, PySem.W.alike, PySem.W.alike]
  rfl
theorem depth_keyR (a : Rw) : (keyR a).depth ≤ 60 := by
  unfold keyR
  simp [PyData.depth, PyData.depthAll]
theorem sort_rows (l : List Rw) : (l.map Rw.D).mergeSort (PySem.W.dataLe false kyRP) = (srtR l).map Rw.D := by
  unfold srtR
  refine (List.map_mergeSort fun a _ b _ => ?_).symm
  unfold PySem.W.dataLe PySem.W.sortLe
  dsimp only
  rw [kyRP_p, kyRP_p]
theorem sortK_rows {tl te : DTE} {ip : Nat} {r : DSt} {m : M} {Q : D → M → Prop} {l : List Rw} (hl : ∀ Q' : D → M → Prop, Q' (.lst (l.map Rw.D)) m → tl r m Q') (hz : l.length ≤ sizeLine) (hk : ∀ x ∈ l, ∀ Q' : D → M → Prop, Q' (.tup [.int x.r, .int x.i, .int x.p]) m → te (r.set ip (some x.D)) m Q') (q : Q (.lst ((srtR l).map Rw.D)) m) : dSortK false tl ip te r m Q := by
  refine hl _ ⟨l.map Rw.D, kyR, kyRP, rfl, fun x hx Q' q' => ?_, ?_, ?_, ?_, ?_, ?_⟩
  · obtain ⟨c, hc, rfl⟩ := List.mem_map.mp hx
    exact hk c hc Q' q'
  · rw [List.map_map, List.map_map]
    refine toPs_map fun c _ => ?_
    show toP (kyR c.D) = some (kyRP c.D)
    rw [kyR_p, kyRP_p]
  · intro d hd d' hd'
    rw [List.map_map] at hd hd'
    obtain ⟨c, _, rfl⟩ := List.mem_map.mp hd
    obtain ⟨c', _, rfl⟩ := List.mem_map.mp hd'
    show PySem.W.alike (kyRP c.D) (kyRP c'.D) = true
    rw [kyRP_p, kyRP_p]
    exact alike_keyR _ _
  · refine .inl fun d hd => ?_
    rw [List.map_map] at hd
    obtain ⟨c, _, rfl⟩ := List.mem_map.mp hd
    exact ⟨_, _, kyRP_p c⟩
  · intro x hx
    obtain ⟨c, hc, rfl⟩ := List.mem_map.mp hx
    rw [kyRP_p]
    exact depth_keyR _
  · rw [sort_rows]
    exact q
theorem pure_Run_init {K : Fr0} {mg : Str → Option Value} (T : Txt K mg) (ds : List D) (m : M) (Q : D → M → Prop) (E : XD → M → Prop) (h : sp_Run_init K ds m Q E) : t_Run_init K (fun x _ m => E x m) { nx := fun _ m => Q .non m, rt := Q } (startD nm_Run_init ds) m := by
  obtain ⟨a, ts, ws, g, rfl, ha, ok, t1, w1, o⟩ := h
  show t_Run_init K _ _ [some (.ref a), some (.lst (ts.map (taskD K))), some (wksD ws), some (.int g), none, none, none, none, none, none, none, none, none, none] m
  unfold t_Run_init
  unfold runX at o
  walk_at "zn"
  refine ⟨ts, ws, g, rfl, t1, w1, ?_⟩
  cases hc : cntsX K ts ws g with
  | some x =>
    rw [hc] at o
    have o : ∀ m', MSub m m' → E x m' := o
    exact o m (MSub.refl m)
  | none =>
    rw [hc] at o
    have o : Out (allX K ts ws g) (Q .non (mset m a (.ins (ga K "Run") (runF g (jobsR ts g ws))))) fun x => ∀ m', MSub m m' → E x m' := o
    have hg : 1 ≤ g ∧ g ≤ 60 := by
      unfold cntsX at hc
      by_cases h : 1 ≤ g ∧ g ≤ 60
      · exact h
      · rw [if_pos h] at hc; cases hc
    have hlen : ws.length = ts.length := by
      unfold cntsX at hc
      rw [if_neg (by simpa using hg)] at hc
      by_cases h : ws.length = ts.length
      · exact h
      · rw [if_pos h] at hc; cases hc
    have h400 : many ws ≤ 400 := by
      unfold cntsX at hc
      rw [if_neg (by simpa using hg), if_neg (by simpa using hlen)] at hc
      by_cases h : 400 < many ws
      · rw [if_pos h] at hc; cases hc
      · omega
    have wl : ∀ w ∈ ws, w.length ≤ 400 := fun w hw => Nat.le_trans (len_many hw) h400
    simp only [Out]
    walk_at "zn"
    intro b hb
    have hba : b ≠ a := fun e => by rw [e, ha] at hb; cases hb
    have sub : ∀ u, MSub m (mset m b u) := fun u => MSub.set hb
    walk_at "zn"
    have H : ∀ x, allX K ts ws g = some x → ∀ m', MSub m m' → E x m' := fun x hx => by
      rw [hx] at o
      exact o
    have G : allX K ts ws g = none → Q .non (mset m a (.ins (ga K "Run") (runF g (jobsR ts g ws)))) := fun hx => by
      rw [hx] at o
      exact o
    clear o hc
    obtain ⟨P1, hP1⟩ : ∃ P : Nat → DSt → M → Prop, ∀ i rr m', P i rr m' ↔ (∃ o5 o6 o7 o8 o9 o10 o11 o12, (∀ i', i' < i → walkX K (tAt ts i') (wAt ws i') i' g = none) ∧ m' = mset m b (.lst ((rowsN ts g ws i).map Rw.D)) ∧ rr = [some (.ref a), some (.lst (ts.map (taskD K))), some (wksD ws), some (.int g), some (.ref b), o5, o6, o7, o8, o9, o10, o11, o12, none]) := ⟨_, fun _ _ _ => Iff.rfl⟩
    refine ⟨P1, (hP1 _ _ _).mpr ⟨_, _, _, _, _, _, _, _, fun i' h => absurd h (Nat.not_lt_zero _), rfl, rfl⟩, ?_, ?_⟩
    · intro i d rr m' hd hp
      obtain ⟨o5, o6, o7, o8, o9, o10, o11, o12, h0, rfl, rfl⟩ := (hP1 _ _ _).mp hp
      obtain ⟨x, hx, rfl⟩ := enumD_at hd
      obtain ⟨w, hw, rfl⟩ := map_at hx
      have hi := len_at hw
      have ew : wAt ws i = w := by
        have := wAt_at hi
        rw [hw] at this
        exact (Option.some.inj this).symm
      have tI := tAt_I (f := taskD K) (ts := ts) (i := i) (by omega)
      have okt := ok _ (mem_at (tAt_at (ts := ts) (i := i) (by omega)))
      have wl0 := wl w (mem_at hw)
      have r0 := rowsN_len (ts := ts) (g := g) wl i (by omega)
      have r1 : i * 400 ≤ 1000 * 400 := Nat.mul_le_mul_right 400 (show i ≤ 1000 by omega)
      obtain ⟨t, et⟩ : ∃ t, tAt ts i = t := ⟨_, rfl⟩
      rw [et] at tI okt
      try simp only [dSeq]
      try simp only [dIfS, dTest, dOp, dVar, dC, dCB, daCons, daNil, dSet, dRet, dNext, dDrop, dAsg, dPar, dAug, dAddI, dBreak, dCont, dRetN, slot, dLen, dCmpI, dSub, dAdd, dMul, dDiv, dMod, dPow, dNeg, dUn, dIx, dInt1, dAbs, dChain, dAnd, dOr, dNot, dAndV, dOrV, dNotV, dTru, dTruB, dIf, dTup, dLst, mkL, dSlice, dSl, doNone, doSome, dSum, dAll, dAny, dList, dTuple, dMax, dMin, eq_ii, ne_ii, eq_ss, ne_ss, eq_bb, ne_bb, eq_nn, ne_nn, dIsN, dNotN, dFgt, dIsB, dNotB, gN, gT, gsNil, gsCons, gSet, dBM, dAppend, dClear, dFld, dFldS, dProp, dCall, dMeth, dMake, dMakeN, daStar, dDictP, dCallO, dFor, dLc, diR1, diR2, diR3, diL, diT, diRv, diS, diE, dFmt, dFStr, dJs, dCallN, dFrzE, frz_l, in_ss, notin_ss, drR1, drR2, dListR, dRaise, dRaise0, dTryAs, dTry, dXf, dAddO, dInO, isL, insOf, Option.some.injEq, List.cons.injEq, D.int.injEq, D.bl.injEq, D.str.injEq, D.lst.injEq, D.tup.injEq, D.ref.injEq, MO.lst.injEq, MO.ins.injEq, mset_mset, and_true, true_and, and_self, and_assoc, exists_eq_left', exists_eq_left, exists_and_left, exists_and_right, exists_eq', List.set_cons_zero, List.set_cons_succ, decide_eq_true_eq, sqOf, lsOf, List.length_cons, List.length_nil, sizeLine_eq, List.append_nil, List.cons_append, List.nil_append, if_true, if_false, Bool.false_eq_true, reduceCtorEq, reduceIte, Nat.reduceAdd, Nat.reduceLeDiff, mset_same, Option.bind_some, List.length_map, Prod.mk.injEq, at0, at1, at2, at3, at4, at5, at6, at7, ix30, ix31, ix32, ix20, ix21, ix10, isi_ii, isi_ib, isi_ll, isi_bb, isi_ss, isi_tt, isi_is, isi_si, Bool.not_true, Bool.not_false, dCopyK, dGet2K, dDctR, dDisp1, dFrzEK, tI]
      obtain ⟨P2, hP2⟩ : ∃ P : Nat → DSt → M → Prop, ∀ j rr m', P j rr m' ↔ (∃ o8 o9 o10 o11 o12, (∀ p, p < j → jobX K t w i p g = none) ∧ m' = mset m b (.lst ((rowsN ts g ws i ++ (List.range j).map (rowJ t g i w)).map Rw.D)) ∧ rr = [some (.ref a), some (.lst (ts.map (taskD K))), some (wksD ws), some (.int g), some (.ref b), some (.int i), some (wkD w), some (taskD K t), o8, o9, o10, o11, o12, none]) := ⟨_, fun _ _ _ => Iff.rfl⟩
      refine ⟨P2, (hP2 _ _ _).mpr ⟨_, _, _, _, _, fun i' h => absurd h (Nat.not_lt_zero _), by simp, rfl⟩, ?_, ?_⟩
      · intro j d rr m' hd hp2
        obtain ⟨o8, o9, o10, o11, o12, h1, rfl, rfl⟩ := (hP2 _ _ _).mp hp2
        obtain ⟨x, hx, rfl⟩ := enumD_at hd
        obtain ⟨y, hy, rfl⟩ := map_at hx
        have hj := len_at hy
        have ey : jAt w j = y := by
          have := jAt_at hj
          rw [hy] at this
          exact (Option.some.inj this).symm
        try simp only [dSeq]
        try simp only [dIfS, dTest, dOp, dVar, dC, dCB, daCons, daNil, dSet, dRet, dNext, dDrop, dAsg, dPar, dAug, dAddI, dBreak, dCont, dRetN, slot, dLen, dCmpI, dSub, dAdd, dMul, dDiv, dMod, dPow, dNeg, dUn, dIx, dInt1, dAbs, dChain, dAnd, dOr, dNot, dAndV, dOrV, dNotV, dTru, dTruB, dIf, dTup, dLst, mkL, dSlice, dSl, doNone, doSome, dSum, dAll, dAny, dList, dTuple, dMax, dMin, eq_ii, ne_ii, eq_ss, ne_ss, eq_bb, ne_bb, eq_nn, ne_nn, dIsN, dNotN, dFgt, dIsB, dNotB, gN, gT, gsNil, gsCons, gSet, dBM, dAppend, dClear, dFld, dFldS, dProp, dCall, dMeth, dMake, dMakeN, daStar, dDictP, dCallO, dFor, dLc, diR1, diR2, diR3, diL, diT, diRv, diS, diE, dFmt, dFStr, dJs, dCallN, dFrzE, frz_l, in_ss, notin_ss, drR1, drR2, dListR, dRaise, dRaise0, dTryAs, dTry, dXf, dAddO, dInO, isL, insOf, Option.some.injEq, List.cons.injEq, D.int.injEq, D.bl.injEq, D.str.injEq, D.lst.injEq, D.tup.injEq, D.ref.injEq, MO.lst.injEq, MO.ins.injEq, mset_mset, and_true, true_and, and_self, and_assoc, exists_eq_left', exists_eq_left, exists_and_left, exists_and_right, exists_eq', List.set_cons_zero, List.set_cons_succ, decide_eq_true_eq, sqOf, lsOf, List.length_cons, List.length_nil, sizeLine_eq, List.append_nil, List.cons_append, List.nil_append, if_true, if_false, Bool.false_eq_true, reduceCtorEq, reduceIte, Nat.reduceAdd, Nat.reduceLeDiff, mset_same, Option.bind_some, List.length_map, Prod.mk.injEq, at0, at1, at2, at3, at4, at5, at6, at7, ix30, ix31, ix32, ix20, ix21, ix10, isi_ii, isi_ib, isi_ll, isi_bb, isi_ss, isi_tt, isi_is, isi_si, Bool.not_true, Bool.not_false, dCopyK, dGet2K, dDctR, dDisp1, dFrzEK, Job.D]
        have hb2 : 1 ≤ j → (jAt w (j - 1)).k ∈ names t.ks := fun h => by
          have := h1 (j - 1) (by omega)
          unfold jobX at this
          by_cases c : (jAt w (j - 1)).k ∈ names t.ks
          · exact c
          · rw [if_pos c] at this; cases this
        refine ⟨t, _, w, i, j, g, rfl, rfl, okt, hj, hb2, hg, ?_⟩
        cases hjx : jobX K t w i j g with
        | some x =>
          refine H x (some_of hi h0 ?_) _ (sub _)
          rw [ew, et]
          exact some_of hj h1 hjx
        | none =>
          have hin : y.k ∈ names t.ks := by
            unfold jobX at hjx
            rw [ey] at hjx
            by_cases c : y.k ∈ names t.ks
            · exact c
            · rw [if_pos c] at hjx; cases hjx
          obtain ⟨k, hk, ek⟩ := known hin
          have kb := kn_b okt hk
          simp only [Out]
          try simp only [dSeq]
          try simp only [dIfS, dTest, dOp, dVar, dC, dCB, daCons, daNil, dSet, dRet, dNext, dDrop, dAsg, dPar, dAug, dAddI, dBreak, dCont, dRetN, slot, dLen, dCmpI, dSub, dAdd, dMul, dDiv, dMod, dPow, dNeg, dUn, dIx, dInt1, dAbs, dChain, dAnd, dOr, dNot, dAndV, dOrV, dNotV, dTru, dTruB, dIf, dTup, dLst, mkL, dSlice, dSl, doNone, doSome, dSum, dAll, dAny, dList, dTuple, dMax, dMin, eq_ii, ne_ii, eq_ss, ne_ss, eq_bb, ne_bb, eq_nn, ne_nn, dIsN, dNotN, dFgt, dIsB, dNotB, gN, gT, gsNil, gsCons, gSet, dBM, dAppend, dClear, dFld, dFldS, dProp, dCall, dMeth, dMake, dMakeN, daStar, dDictP, dCallO, dFor, dLc, diR1, diR2, diR3, diL, diT, diRv, diS, diE, dFmt, dFStr, dJs, dCallN, dFrzE, frz_l, in_ss, notin_ss, drR1, drR2, dListR, dRaise, dRaise0, dTryAs, dTry, dXf, dAddO, dInO, isL, insOf, Option.some.injEq, List.cons.injEq, D.int.injEq, D.bl.injEq, D.str.injEq, D.lst.injEq, D.tup.injEq, D.ref.injEq, MO.lst.injEq, MO.ins.injEq, mset_mset, and_true, true_and, and_self, and_assoc, exists_eq_left', exists_eq_left, exists_and_left, exists_and_right, exists_eq', List.set_cons_zero, List.set_cons_succ, decide_eq_true_eq, sqOf, lsOf, List.length_cons, List.length_nil, sizeLine_eq, List.append_nil, List.cons_append, List.nil_append, if_true, if_false, Bool.false_eq_true, reduceCtorEq, reduceIte, Nat.reduceAdd, Nat.reduceLeDiff, mset_same, Option.bind_some, List.length_map, Prod.mk.injEq, at0, at1, at2, at3, at4, at5, at6, at7, ix30, ix31, ix32, ix20, ix21, ix10, isi_ii, isi_ib, isi_ll, isi_bb, isi_ss, isi_tt, isi_is, isi_si, Bool.not_true, Bool.not_false, dCopyK, dGet2K, dDctR, dDisp1, dFrzEK, T.cl_Task, T.n_Task_name, T.n_Task_kind_rows, T.n_Task_arrow_rows, taskD, lk_name, lk_kinds, lk_arrows]
          refine ⟨rfl, t, _, y.k, rfl, rfl, okt, fun k2 hk2 e2 => ?_, fun h => absurd hin h⟩
          have kb2 := kn_b okt hk2
          walk_at "zn"
          refine ⟨mul_small (by omega), ?_⟩
          walk_at "zn"
          refine ⟨by rw [List.length_append, List.length_map, List.length_range]; omega, (hP2 _ _ _).mpr ⟨_, _, _, _, _, fun p hp => ?_, ?_, rfl⟩⟩
          · by_cases e : p = j
            · subst e; exact hjx
            · exact h1 p (by omega)
          · rw [rowP_succ, ← List.append_assoc, List.map_append (l₁ := rowsN ts g ws i ++ _)]
            congr 3
            show [_] = [(rowJ t g i w j).D]
            unfold rowJ Rw.D
            rw [ey, ← e2, kOf_is okt hk2]
      · intro rr m' hp2
        obtain ⟨o8, o9, o10, o11, o12, h1, rfl, rfl⟩ := (hP2 _ _ _).mp hp2
        rw [enumD_len, List.length_map] at h1 ⊢
        refine (hP1 _ _ _).mpr ⟨_, _, _, _, _, _, _, _, fun i' hi' => ?_, ?_, rfl⟩
        · by_cases e : i' = i
          · subst e
            rw [ew, et]
            exact none_of' h1
          · exact h0 i' (by omega)
        · rw [rowsN_succ, ew, et]
          rfl
    · intro rr m' hp
      obtain ⟨o5, o6, o7, o8, o9, o10, o11, o12, h0, rfl, rfl⟩ := (hP1 _ _ _).mp hp
      rw [enumD_len, List.length_map] at h0 ⊢
      have hN := G (none_of' h0)
      refine ⟨b, _, rfl, mset_same, ?_⟩
      rw [mdel_mset hb]
      try simp only [dSeq]
      try simp only [dIfS, dTest, dOp, dVar, dC, dCB, daCons, daNil, dSet, dRet, dNext, dDrop, dAsg, dPar, dAug, dAddI, dBreak, dCont, dRetN, slot, dLen, dCmpI, dSub, dAdd, dMul, dDiv, dMod, dPow, dNeg, dUn, dIx, dInt1, dAbs, dChain, dAnd, dOr, dNot, dAndV, dOrV, dNotV, dTru, dTruB, dIf, dTup, dLst, mkL, dSlice, dSl, doNone, doSome, dSum, dAll, dAny, dList, dTuple, dMax, dMin, eq_ii, ne_ii, eq_ss, ne_ss, eq_bb, ne_bb, eq_nn, ne_nn, dIsN, dNotN, dFgt, dIsB, dNotB, gN, gT, gsNil, gsCons, gSet, dBM, dAppend, dClear, dFld, dFldS, dProp, dCall, dMeth, dMake, dMakeN, daStar, dDictP, dCallO, dFor, dLc, diR1, diR2, diR3, diL, diT, diRv, diS, diE, dFmt, dFStr, dJs, dCallN, dFrzE, frz_l, in_ss, notin_ss, drR1, drR2, dListR, dRaise, dRaise0, dTryAs, dTry, dXf, dAddO, dInO, isL, insOf, Option.some.injEq, List.cons.injEq, D.int.injEq, D.bl.injEq, D.str.injEq, D.lst.injEq, D.tup.injEq, D.ref.injEq, MO.lst.injEq, MO.ins.injEq, mset_mset, and_true, true_and, and_self, and_assoc, exists_eq_left', exists_eq_left, exists_and_left, exists_and_right, exists_eq', List.set_cons_zero, List.set_cons_succ, decide_eq_true_eq, sqOf, lsOf, List.length_cons, List.length_nil, sizeLine_eq, List.append_nil, List.cons_append, List.nil_append, if_true, if_false, Bool.false_eq_true, reduceCtorEq, reduceIte, Nat.reduceAdd, Nat.reduceLeDiff, mset_same, Option.bind_some, List.length_map, Prod.mk.injEq, at0, at1, at2, at3, at4, at5, at6, at7, ix30, ix31, ix32, ix20, ix21, ix10, isi_ii, isi_ib, isi_ll, isi_bb, isi_ss, isi_tt, isi_is, isi_si, Bool.not_true, Bool.not_false, dCopyK, dGet2K, dDctR, dDisp1, dFrzEK, T.cl_Run, T.n_Run_grain, T.n_Run_placed, runD, lk_grain, lk_placed, ha, putR1]
      refine ⟨by omega, sortK_rows (l := rowsN ts g ws ws.length) (fun Q' q' => ?_) ?_ (fun x hx Q' q' => ?_) ?_⟩
      · walk_at "zs"
        exact q'
      · have := rowsN_len (ts := ts) (g := g) wl ws.length (Nat.le_refl _)
        have : ws.length * 400 ≤ 1000 * 400 := Nat.mul_le_mul_right 400 w1
        rw [sizeLine_eq]
        omega
      · unfold Rw.D
        walk_at "zs"
        exact q'
      · try simp only [dSeq, dIfS, dTest, dOp, dVar, dC, dCB, daCons, daNil, dSet, dRet, dNext, dDrop, dAsg, dPar, dAug, dAddI, dBreak, dCont, dRetN, slot, dLen, dCmpI, dSub, dAdd, dMul, dDiv, dMod, dPow, dNeg, dUn, dIx, dInt1, dAbs, dChain, dAnd, dOr, dNot, dAndV, dOrV, dNotV, dTru, dTruB, dIf, dTup, dLst, mkL, dSlice, dSl, doNone, doSome, dSum, dAll, dAny, dList, dTuple, dMax, dMin, eq_ii, ne_ii, eq_ss, ne_ss, eq_bb, ne_bb, eq_nn, ne_nn, dIsN, dNotN, dFgt, dIsB, dNotB, gN, gT, gsNil, gsCons, gSet, dBM, dAppend, dClear, dFld, dFldS, dProp, dCall, dMeth, dMake, dMakeN, daStar, dDictP, dCallO, dFor, dLc, diR1, diR2, diR3, diL, diT, diRv, diS, diE, dFmt, dFStr, dJs, dCallN, dFrzE, frz_l, in_ss, notin_ss, drR1, drR2, dListR, dRaise, dRaise0, dTryAs, dTry, dXf, dAddO, dInO, isL, insOf, Option.some.injEq, List.cons.injEq, D.int.injEq, D.bl.injEq, D.str.injEq, D.lst.injEq, D.tup.injEq, D.ref.injEq, MO.lst.injEq, MO.ins.injEq, mset_mset, and_true, true_and, and_self, and_assoc, exists_eq_left', exists_eq_left, exists_and_left, exists_and_right, exists_eq', List.set_cons_zero, List.set_cons_succ, decide_eq_true_eq, sqOf, lsOf, List.length_cons, List.length_nil, sizeLine_eq, List.append_nil, List.cons_append, List.nil_append, if_true, if_false, Bool.false_eq_true, reduceCtorEq, reduceIte, Nat.reduceAdd, Nat.reduceLeDiff, mset_same, Option.bind_some, List.length_map, Prod.mk.injEq, at0, at1, at2, at3, at4, at5, at6, at7, ix30, ix31, ix32, ix20, ix21, ix10, isi_ii, isi_ib, isi_ll, isi_bb, isi_ss, isi_tt, isi_is, isi_si, Bool.not_true, Bool.not_false, dCopyK, dGet2K, dDctR, dDisp1, dFrzEK, T.cl_Run, T.n_Run_grain, T.n_Run_placed, runD, lk_grain, lk_placed, putR2]
        exact ⟨by omega, hN⟩
theorem pure_Run_jobs {K : Fr0} {mg : Str → Option Value} (T : Txt K mg) (ds : List D) (m : M) (Q : D → M → Prop) (E : XD → M → Prop) (h : sp_Run_jobs K ds m Q E) : t_Run_jobs K (fun x _ m => E x m) { nx := fun _ m => Q .non m, rt := Q } (startD nm_Run_jobs ds) m := by
  obtain ⟨g, js, rfl, q⟩ := h
  show t_Run_jobs K _ _ [some (runD K g js)] m
  unfold t_Run_jobs
  try simp only [dIfS, dTest, dOp, dVar, dC, dCB, daCons, daNil, dSet, dRet, dNext, dDrop, dAsg, dPar, dAug, dAddI, dBreak, dCont, dRetN, slot, dLen, dCmpI, dSub, dAdd, dMul, dDiv, dMod, dPow, dNeg, dUn, dIx, dInt1, dAbs, dChain, dAnd, dOr, dNot, dAndV, dOrV, dNotV, dTru, dTruB, dIf, dTup, dLst, mkL, dSlice, dSl, doNone, doSome, dSum, dAll, dAny, dList, dTuple, dMax, dMin, eq_ii, ne_ii, eq_ss, ne_ss, eq_bb, ne_bb, eq_nn, ne_nn, dIsN, dNotN, dFgt, dIsB, dNotB, gN, gT, gsNil, gsCons, gSet, dBM, dAppend, dClear, dFld, dFldS, dProp, dCall, dMeth, dMake, dMakeN, daStar, dDictP, dCallO, dFor, dLc, diR1, diR2, diR3, diL, diT, diRv, diS, diE, dFmt, dFStr, dJs, dCallN, dFrzE, frz_l, in_ss, notin_ss, drR1, drR2, dListR, dRaise, dRaise0, dTryAs, dTry, dXf, dAddO, dInO, isL, insOf, Option.some.injEq, List.cons.injEq, D.int.injEq, D.bl.injEq, D.str.injEq, D.lst.injEq, D.tup.injEq, D.ref.injEq, MO.lst.injEq, MO.ins.injEq, mset_mset, and_true, true_and, and_self, and_assoc, exists_eq_left', exists_eq_left, exists_and_left, exists_and_right, exists_eq', List.set_cons_zero, List.set_cons_succ, decide_eq_true_eq, sqOf, lsOf, List.length_cons, List.length_nil, sizeLine_eq, List.append_nil, List.cons_append, List.nil_append, if_true, if_false, Bool.false_eq_true, reduceCtorEq, reduceIte, Nat.reduceAdd, Nat.reduceLeDiff, mset_same, Option.bind_some, List.length_map, Prod.mk.injEq, at0, at1, at2, at3, at4, at5, at6, at7, ix30, ix31, ix32, ix20, ix21, ix10, isi_ii, isi_ib, isi_ll, isi_bb, isi_ss, isi_tt, isi_is, isi_si, Bool.not_true, Bool.not_false, dCopyK, dGet2K, dDctR, dDisp1, dFrzEK, T.cl_Run, T.n_Run_grain, T.n_Run_placed, runD, lk_grain, lk_placed]
  exact q
theorem none_Run_init {K : Fr0} : ∀ ds m Q E, sp_Run_init K ds m Q E → sp_Run_init K ds m (fun d m' => d = .non ∧ Q d m') E := by
  rintro ds m Q E ⟨a, ts, ws, g, rfl, ha, ok, t1, w1, o⟩
  refine ⟨a, ts, ws, g, rfl, ha, ok, t1, w1, ?_⟩
  cases h : runX K ts ws g with
  | none => rw [h] at o; exact ⟨rfl, o⟩
  | some x => rw [h] at o; exact o
theorem pure_law_cell {K : Fr0} {mg : Str → Option Value} (T : Txt K mg) (ds : List D) (m : M) (Q : D → M → Prop) (E : XD → M → Prop) (h : sp_law_cell K ds m Q E) : t_law_cell K (fun x _ m => E x m) { nx := fun _ m => Q .non m, rt := Q } (startD nm_law_cell ds) m := by
  obtain ⟨ns, i, rfl, h0, q⟩ := h
  show t_law_cell K _ _ [some (.rdl (ns.map D.int)), some (.int i)] m
  unfold t_law_cell
  walk_at "zS"
  unfold cellAt at q
  by_cases hi : i < ns.length
  · rw [if_pos hi, atI_ints h0 hi]
    rw [if_pos hi] at q
    exact ⟨_, rfl, q⟩
  · rw [if_neg hi]
    rw [if_neg hi] at q
    exact q
theorem pure_law_source {K : Fr0} {mg : Str → Option Value} (T : Txt K mg) (ds : List D) (m : M) (Q : D → M → Prop) (E : XD → M → Prop) (h : sp_law_source K ds m Q E) : t_law_source K (fun x _ m => E x m) { nx := fun _ m => Q .non m, rt := Q } (startD nm_law_source ds) m := by
  obtain ⟨c, rfl, q⟩ := h
  show t_law_source K _ _ [some (.int c)] m
  unfold t_law_source
  walk_at "zS"
  exact q
theorem pure_law_draw {K : Fr0} {mg : Str → Option Value} (T : Txt K mg) (ds : List D) (m : M) (Q : D → M → Prop) (E : XD → M → Prop) (h : sp_law_draw K ds m Q E) : t_law_draw K (fun x _ m => E x m) { nx := fun _ m => Q .non m, rt := Q } (startD nm_law_draw ds) m := by
  obtain ⟨a, lim, c, v, k, rfl, ha, ⟨l1, l2⟩, ⟨k0, k1⟩, q⟩ := h
  show t_law_draw K _ _ [some (.ref a), some (.int lim), none, none, none] m
  unfold t_law_draw
  try simp only [dSeq, dIfS, dTest, dOp, dVar, dC, dCB, daCons, daNil, dSet, dRet, dNext, dDrop, dAsg, dPar, dAug, dAddI, dBreak, dCont, dRetN, slot, dLen, dCmpI, dSub, dAdd, dMul, dDiv, dMod, dPow, dNeg, dUn, dIx, dInt1, dAbs, dChain, dAnd, dOr, dNot, dAndV, dOrV, dNotV, dTru, dTruB, dIf, dTup, dLst, mkL, dSlice, dSl, doNone, doSome, dSum, dAll, dAny, dList, dTuple, dMax, dMin, eq_ii, ne_ii, eq_ss, ne_ss, eq_bb, ne_bb, eq_nn, ne_nn, dIsN, dNotN, dFgt, dIsB, dNotB, gN, gT, gsNil, gsCons, gSet, dBM, dAppend, dClear, dFld, dFldS, dProp, dCall, dMeth, dMake, dMakeN, daStar, dDictP, dCallO, dFor, dLc, diR1, diR2, diR3, diL, diT, diRv, diS, diE, dFmt, dFStr, dJs, dCallN, dFrzE, frz_l, in_ss, notin_ss, drR1, drR2, dListR, dRaise, dRaise0, dTryAs, dTry, dXf, dAddO, dInO, isL, insOf, Option.some.injEq, List.cons.injEq, D.int.injEq, D.bl.injEq, D.str.injEq, D.lst.injEq, D.tup.injEq, D.ref.injEq, MO.lst.injEq, MO.ins.injEq, mset_mset, and_true, true_and, and_self, and_assoc, exists_eq_left', exists_eq_left, exists_and_left, exists_and_right, exists_eq', List.set_cons_zero, List.set_cons_succ, decide_eq_true_eq, sqOf, lsOf, List.length_cons, List.length_nil, sizeLine_eq, List.append_nil, List.cons_append, List.nil_append, if_true, if_false, Bool.false_eq_true, reduceCtorEq, reduceIte, Nat.reduceAdd, Nat.reduceLeDiff, mset_same, Option.bind_some, List.length_map, Prod.mk.injEq, at0, at1, at2, at3, at4, at5, at6, at7, ix30, ix31, ix32, ix20, ix21, ix10, isi_ii, isi_ib, isi_ll, isi_bb, isi_ss, isi_tt, isi_is, isi_si, Bool.not_true, Bool.not_false, dCopyK, dGet2K, dDctR, dDisp1, dFrzEK, ha, pool]
  refine ⟨⟨by omega, by omega, by decide⟩, ?_⟩
  by_cases hc : (10 : Int) ^ Int.toNat 18 ≤ c
  · rw [if_pos hc]
    exact ⟨by omega, wide_div (by omega) l2 (by decide) (by decide), q _ _ (Int.emod_nonneg _ (by omega)) (Int.emod_lt_of_pos _ (by omega))⟩
  · rw [if_neg hc]
    have c0 : 0 ≤ c % 2147483549 := Int.emod_nonneg _ (by omega)
    have c1 : c % 2147483549 < 2147483549 := Int.emod_lt_of_pos _ (by omega)
    generalize c % 2147483549 = s at *
    have z0 : 0 ≤ (s * 7919 + (k + 1) * 104711 + 12011) ^ Int.toNat 5 % 2147483647 := Int.emod_nonneg _ (by omega)
    have z1 : (s * 7919 + (k + 1) * 104711 + 12011) ^ Int.toNat 5 % 2147483647 < 2147483647 := Int.emod_lt_of_pos _ (by omega)
    generalize (s * 7919 + (k + 1) * 104711 + 12011) ^ Int.toNat 5 % 2147483647 = z at *
    have y0 : 0 ≤ (k + 1) * (k + 1) := Int.mul_nonneg (by omega) (by omega)
    have y1 : (k + 1) * (k + 1) ≤ 100001 * 100001 := Int.mul_le_mul (by omega) (by omega) (by omega) (by omega)
    generalize (k + 1) * (k + 1) = y at *
    refine ⟨by omega, mul_small (by omega), mul_small (by omega), ⟨by omega, by omega, by omega⟩, by omega, mul_small (by omega), mul_small (by omega), ⟨by omega, by omega, by omega⟩, by omega, div_ok (by omega) (by omega), by omega, ?_⟩
    exact q _ _ (Int.emod_nonneg _ (by omega)) (Int.emod_lt_of_pos _ (by omega))
theorem draw_k {K : Fr0} {a : Addr} {lim c v k : Int} {m : M} {Q : D → M → Prop} {E : XD → M → Prop} (l1 : 1 ≤ lim) (l2 : lim.natAbs < 2 ^ 200) (k0 : 0 ≤ k) (k1 : k ≤ 100000) (h : ∀ r v', 0 ≤ r → r < lim → Q (.int r) (mset m a (pool c v' (k + 1)))) (ha : m a = some (pool c v k)) : sp_law_draw K [.ref a, .int lim] m Q E := ⟨a, lim, c, v, k, rfl, ha, ⟨l1, l2⟩, ⟨k0, k1⟩, h⟩
theorem mset_id {m : M} {a : Addr} {o : MO} (h : m a = some o) : mset m a o = m := by
  funext b
  unfold mset
  by_cases e : b = a
  · rw [if_pos e, e, h]
  · rw [if_neg e]
theorem draw_s {K : Fr0} {a : Addr} {lim c v k : Int} {m : M} {Q : D → M → Prop} {E : XD → M → Prop} (l1 : 1 ≤ lim) (l2 : lim.natAbs < 2 ^ 200) (k0 : 0 ≤ k) (k1 : k ≤ 100000) (h : ∀ r v', 0 ≤ r → r < lim → Q (.int r) (mset m a (pool c v' (k + 1)))) : sp_law_draw K [.ref a, .int lim] (mset m a (pool c v k)) Q E :=
  draw_k l1 l2 k0 k1 (fun r v' h0 h1 => by rw [mset_mset]; exact h r v' h0 h1) mset_same
theorem pair_one {t : Tsk} (ok : t.Ok) {a b : Arr} (ha : a ∈ t.as) (hb : b ∈ t.as) (e1 : a.f = b.f) (e2 : a.s = b.s) : a = b := by
  obtain ⟨i, hi⟩ := List.mem_iff_getElem?.mp ha
  obtain ⟨j, hj⟩ := List.mem_iff_getElem?.mp hb
  have n1 : (t.as.map fun a => (a.f, a.s))[i]? = some (a.f, a.s) := by rw [List.getElem?_map, hi]; rfl
  have n2 : (t.as.map fun a => (a.f, a.s))[j]? = some (b.f, b.s) := by rw [List.getElem?_map, hj]; rfl
  have ij : i = j := (List.getElem?_inj (by rw [List.length_map]; exact len_at hi) ok.as.nd).mp (by rw [n1, n2, e1, e2])
  subst ij
  rw [hi] at hj
  exact Option.some.inj hj
theorem gapF_is {t : Tsk} (ok : t.Ok) {a : Arr} (ha : a ∈ t.as) : gapF t a.f a.s = some a.g := by
  unfold gapF
  cases e : (foll t a.f).find? (fun b => decide (b.s = a.s)) with
  | none =>
    have := List.find?_eq_none.mp e a (List.mem_filter.mpr ⟨ha, decide_eq_true rfl⟩)
    simp at this
  | some b =>
    have h1 := List.mem_filter.mp (List.mem_of_find?_eq_some e)
    have h2 := List.find?_some e
    have h2 := of_decide_eq_true h2
    rw [pair_one ok h1.1 ha (of_decide_eq_true h1.2) h2]
    rfl
theorem job_none {K : Fr0} {t : Tsk} (ok : t.Ok) {g : Int} {w : List Job} (h : WkOk t g w) (i : Nat) {p : Nat} (hp : p < w.length) : jobX K t w i p g = none := by
  obtain ⟨⟨k, hk, ek, c1, c2⟩, r0, lk⟩ := h p hp
  unfold jobX
  rw [if_neg (by rw [← ek]; simpa using List.mem_map_of_mem hk), ← ek, kOf_is ok hk, if_neg (by simpa using ⟨c1, c2⟩), if_neg (by omega)]
  by_cases h0 : p = 0
  · rw [if_pos h0]
  · rw [if_neg h0]
    obtain ⟨a, ha, e1, e2, e3⟩ := lk (by omega)
    rw [← e1, ek, ← e2, gapF_is ok ha]
    show (if _ then _ else none) = none
    rw [if_neg (by omega)]
theorem many_le {ws : List (List Job)} {B : Nat} (h : ∀ w ∈ ws, w.length ≤ B) : many ws ≤ ws.length * B := by
  unfold many
  induction ws with
  | nil => simp
  | cons w ws ih =>
    have := ih fun x hx => h x (List.mem_cons_of_mem _ hx)
    have := h w List.mem_cons_self
    rw [List.map_cons, List.sum_cons, List.length_cons, Nat.add_mul]
    omega
theorem run_none {K : Fr0} {ts : List Tsk} {ws : List (List Job)} {g : Int} (hg : 1 ≤ g ∧ g ≤ 60) (hl : ws.length = ts.length) (h4 : many ws ≤ 400) (ok : ∀ t ∈ ts, t.Ok) (wk : ∀ i, i < ws.length → WkOk (tAt ts i) g (wAt ws i)) : runX K ts ws g = none := by
  unfold runX
  rw [show cntsX K ts ws g = none by
    unfold cntsX
    rw [if_neg (by simpa using hg), if_neg (by simpa using hl), if_neg (by omega)]]
  show allX K ts ws g = none
  refine none_of' fun i hi => none_of' fun p hp => ?_
  exact job_none (ok _ (mem_at (tAt_at (by omega)))) (wk i hi) i hp
theorem le_key (x y : Rw) : PySem.W.dataLe false keyR x y = !(decide (y.r < x.r) || (!decide (x.r < y.r) && (decide ((y.i : Int) < x.i) || (!decide ((x.i : Int) < y.i) && (decide ((y.p : Int) < x.p) || (!decide ((x.p : Int) < y.p) && false)))))) := by
  unfold PySem.W.dataLe PySem.W.sortLe keyR
  simp only [PySem.W.keyToks, PySem.W.keyToksAll, List.cons_append, List.nil_append]
  show (!PyProof.Rows.lexLt PyProof.Rows.itemOrd _ _) = _
  simp only [PyProof.Rows.lexLt]
  simp [PyProof.Rows.itemLt, PyProof.Rows.itemOrd]
structure LtOk (lt : Nat → Nat → Bool) : Prop where
  ir : ∀ a, lt a a = false
  tr : ∀ a b c, lt a b = true → lt b c = true → lt a c = true
theorem klt_ok (kp : List PyData) : LtOk (klt kp) := ⟨fun _ => PyProof.Rows.lex_irrefl _, fun _ _ _ h1 h2 => PyProof.Rows.lex_trans _ _ _ h1 h2⟩
theorem minN_spec {lt : Nat → Nat → Bool} (ok : LtOk lt) : ∀ (xs : List Nat) (x : Nat), (minN lt (x :: xs)) ∈ x :: xs ∧ ∀ z ∈ x :: xs, lt z (minN lt (x :: xs)) = false := by
  have key : ∀ (xs seen : List Nat) (a : Nat), a ∈ seen → (∀ z ∈ seen, lt z a = false) → (xs.foldl (fun a y => if lt y a then y else a) a) ∈ seen ++ xs ∧ ∀ z ∈ seen ++ xs, lt z (xs.foldl (fun a y => if lt y a then y else a) a) = false := by
    intro xs
    induction xs with
    | nil => intro seen a ha h; rw [List.append_nil]; exact ⟨ha, h⟩
    | cons y ys ih =>
      intro seen a ha h
      rw [List.foldl_cons, show seen ++ y :: ys = (seen ++ [y]) ++ ys by simp]
      by_cases e : lt y a = true
      · rw [if_pos e]
        refine ih (seen ++ [y]) y (by simp) fun z hz => ?_
        rcases List.mem_append.mp hz with hz | hz
        · cases q : lt z y with
          | false => rfl
          | true => have := ok.tr _ _ _ q e; rw [h z hz] at this; cases this
        · rw [List.mem_singleton.mp hz]; exact ok.ir y
      · rw [if_neg e]
        refine ih (seen ++ [y]) a (List.mem_append_left _ ha) fun z hz => ?_
        rcases List.mem_append.mp hz with hz | hz
        · exact h z hz
        · rw [List.mem_singleton.mp hz]; simpa using e
  intro xs x
  have := key xs [x] x (by simp) (fun z hz => by rw [List.mem_singleton.mp hz]; exact ok.ir x)
  exact this
theorem tw_range (p : Nat → Bool) : ∀ (n up : Nat), ∃ a, a ≤ n ∧ (List.range' up n).takeWhile p = List.range' up a ∧ (∀ i, up ≤ i → i < up + a → p i = true) ∧ (a < n → p (up + a) = false)
  | 0, up => ⟨0, Nat.le_refl _, rfl, fun i h1 h2 => by omega, fun h => absurd h (Nat.lt_irrefl _)⟩
  | n + 1, up => by
    rw [List.range'_succ]
    by_cases e : p up = true
    · obtain ⟨a, h1, h2, h3, h4⟩ := tw_range p n (up + 1)
      refine ⟨a + 1, by omega, ?_, fun i h5 h6 => ?_, fun h => ?_⟩
      · rw [List.takeWhile_cons_of_pos e, h2, List.range'_succ]
      · by_cases q : i = up
        · rw [q]; exact e
        · exact h3 i (by omega) (by omega)
      · rw [show up + (a + 1) = up + 1 + a by omega]; exact h4 (by omega)
    · refine ⟨0, by omega, ?_, fun i h5 h6 => by omega, fun _ => by rw [Nat.add_zero]; simpa using e⟩
      rw [List.takeWhile_cons_of_neg e]
      rfl
theorem lfA_set {l : List Int} {i j : Nat} {x : Int} (h : i < l.length) : lfA (l.set i x) j = if j = i then x else lfA l j := by
  unfold lfA
  rw [List.getD_eq_getElem?_getD, List.getD_eq_getElem?_getD]
  by_cases e : j = i
  · subst e; rw [if_pos rfl, List.getElem?_set_self h]; rfl
  · rw [if_neg e, List.getElem?_set_ne (fun z => e z.symm)]
theorem dnL_app (ss : List Sl) (x : Sl) (j : Nat) : dnL (ss ++ [x]) j = if x.i = (j : Int) then dnL ss j + (x.e - x.s) else dnL ss j := by
  unfold dnL; rw [List.foldl_append]; rfl
theorem enL_app (ss : List Sl) (x : Sl) (j : Nat) : enL (ss ++ [x]) j = if x.i = (j : Int) then x.e else enL ss j := by
  unfold enL; rw [List.foldl_append]; rfl
theorem sAt_lt {ss ts : List Sl} {p : Nat} (h : p < ss.length) : sAt (ss ++ ts) p = sAt ss p := by
  unfold sAt; rw [List.getD_eq_getElem?_getD, List.getD_eq_getElem?_getD, List.getElem?_append_left h]
theorem sAt_last {ss : List Sl} {x : Sl} : sAt (ss ++ [x]) ss.length = x := by
  unfold sAt; rw [List.getD_eq_getElem?_getD, List.getElem?_append_right (Nat.le_refl _), Nat.sub_self]; rfl
theorem addSl_is (ss : List Sl) (s e : Int) (i : Nat) : (∃ pre y, ss = pre ++ [y] ∧ y.i = (i : Int) ∧ y.e = s ∧ addSl ss s e i = pre ++ [⟨y.s, e, i⟩]) ∨ (addSl ss s e i = ss ++ [⟨s, e, i⟩] ∧ ∀ pre y, ss = pre ++ [y] → ¬ (y.i = (i : Int) ∧ y.e = s)) := by
  rcases List.eq_nil_or_concat ss with rfl | ⟨pre, y, rfl⟩
  · exact .inr ⟨rfl, fun pre y h => by simp at h⟩
  · rw [List.concat_eq_append]
    unfold addSl
    rw [List.getLast?_append, List.getLast?_singleton, Option.some_or]
    by_cases h : y.i = (i : Int) ∧ y.e = s
    · refine .inl ⟨pre, y, rfl, h.1, h.2, ?_⟩
      simp [h]
    · refine .inr ⟨by simp [h], fun pre' y' e => ?_⟩
      have := List.append_inj' e rfl
      rw [← (List.cons.inj this.2).1]
      exact h
def freS (ss : List Sl) (p : Nat) : Int := if p = 0 then 0 else (sAt ss (p - 1)).e
structure SchI (J : List Rw) (lt : Nat → Nat → Bool) (v : Int) (s : SS) : Prop where
  up : s.up ≤ J.length
  lfl : s.lf.length = J.length
  wtu : ∀ i ∈ s.wt, i < s.up
  wtn : s.wt.Nodup
  pos : ∀ i, i < J.length → (i ∈ s.wt ∨ s.up ≤ i) → 1 ≤ lfA s.lf i
  zer : ∀ i, i < s.up → i ∉ s.wt → lfA s.lf i = 0
  rlo : ∀ i, i < s.up → relT J v i ≤ s.now
  rhi : ∀ i, s.up ≤ i → i < J.length → s.now ≤ relT J v i
  ix : ∀ x ∈ s.sl, 0 ≤ x.i ∧ x.i < J.length
  se : ∀ x ∈ s.sl, x.s < x.e
  rl : ∀ x ∈ s.sl, relT J v x.i.toNat ≤ x.s
  asc : ∀ p, p + 1 < s.sl.length → (sAt s.sl p).e ≤ (sAt s.sl (p + 1)).s
  tch : ∀ p, p + 1 < s.sl.length → (sAt s.sl p).e = (sAt s.sl (p + 1)).s → (sAt s.sl p).i ≠ (sAt s.sl (p + 1)).i
  lst : freS s.sl s.sl.length = s.now
  dn : ∀ j, j < J.length → dnL s.sl j = (rAt J j).c - lfA s.lf j
  enn : ∀ k, enL s.sl k ≤ s.now
  frz : ∀ k, k < J.length → lfA s.lf k = 0 → relT J v k < s.now
  idle : ∀ p k, p < s.sl.length → k < J.length → relT J v k < (sAt s.sl p).s → freS s.sl p < (sAt s.sl p).s → lfA s.lf k = 0 ∧ enL s.sl k ≤ freS s.sl p
  rank : ∀ p k, p < s.sl.length → k < J.length → (k : Int) ≠ (sAt s.sl p).i → relT J v k < (sAt s.sl p).e → (lfA s.lf k ≠ 0 ∨ (sAt s.sl p).s < enL s.sl k) → lt k (sAt s.sl p).i.toNat = false
theorem rel_mono {J : List Rw} {v : Int} (ok : JOk J) (hv : 1 ≤ v) {i j : Nat} (h : i ≤ j) (hj : j < J.length) : relT J v i ≤ relT J v j := Int.mul_le_mul_of_nonneg_right (ok.srt i j h hj) (by omega)
theorem rAt_get {J : List Rw} {j : Nat} (h : j < J.length) : J[j]? = some (rAt J j) := by
  unfold rAt; rw [List.getD_eq_getElem?_getD, List.getElem?_eq_getElem h]; rfl
theorem rAt_memJ {J : List Rw} {j : Nat} (h : j < J.length) : rAt J j ∈ J := List.mem_of_getElem? (rAt_get h)
theorem lfA_map {J : List Rw} {j : Nat} (h : j < J.length) : lfA (J.map Rw.c) j = (rAt J j).c := by
  unfold lfA; rw [List.getD_eq_getElem?_getD, List.getElem?_map, rAt_get h]; rfl
theorem sinv0 {J : List Rw} (ok : JOk J) {lt : Nat → Nat → Bool} {v : Int} (hv : 1 ≤ v) : SchI J lt v (s0S J) where
  up := Nat.zero_le _
  lfl := List.length_map _
  wtu := fun i h => absurd h List.not_mem_nil
  wtn := List.nodup_nil
  pos := fun i hi _ => by show 1 ≤ lfA (J.map Rw.c) i; rw [lfA_map hi]; exact ok.c _ (rAt_memJ hi)
  zer := fun i h => absurd h (Nat.not_lt_zero _)
  rlo := fun i h => absurd h (Nat.not_lt_zero _)
  rhi := fun i _ hi => Int.mul_nonneg (ok.r _ (rAt_memJ hi)) (by omega)
  ix := fun x h => absurd h List.not_mem_nil
  se := fun x h => absurd h List.not_mem_nil
  rl := fun x h => absurd h List.not_mem_nil
  asc := fun p h => absurd h (Nat.not_lt_zero _)
  tch := fun p h => absurd h (Nat.not_lt_zero _)
  lst := rfl
  dn := fun j hj => by show (0 : Int) = _ - lfA (J.map Rw.c) j; rw [lfA_map hj]; omega
  enn := fun k => Int.le_refl 0
  frz := fun k hk h => by
    have := ok.c _ (rAt_memJ hk)
    rw [← lfA_map hk] at this
    have h : lfA (J.map Rw.c) k = 0 := h
    omega
  idle := fun p k h => absurd h (Nat.not_lt_zero _)
  rank := fun p k h => absurd h (Nat.not_lt_zero _)
structure StF (J : List Rw) (lt : Nat → Nat → Bool) (v : Int) (s : SS) : Prop where
  now : s.now ≤ nowS J v s
  nowg : s.now < nowS J v s → s.wt = []
  up : s.up ≤ upS J v s ∧ upS J v s ≤ J.length
  wt : ∀ i, i ∈ wtS J v s ↔ i ∈ s.wt ∨ (s.up ≤ i ∧ i < upS J v s)
  wtn : (wtS J v s).Nodup
  wl : (wtS J v s).length + s.up = s.wt.length + upS J v s
  rlo : ∀ i, i < upS J v s → relT J v i ≤ nowS J v s
  rhi : ∀ i, upS J v s ≤ i → i < J.length → nowS J v s < relT J v i
  mem : ixS J lt v s ∈ wtS J v s
  mn : ∀ z ∈ wtS J v s, lt z (ixS J lt v s) = false
  ixl : ixS J lt v s < upS J v s
  lp : 1 ≤ lfA s.lf (ixS J lt v s)
  endg : nowS J v s < endS J lt v s
  lft : 0 ≤ lftS J lt v s ∧ lftS J lt v s < lfA s.lf (ixS J lt v s)
  endr : ∀ i, upS J v s ≤ i → i < J.length → endS J lt v s ≤ relT J v i
  fin : lftS J lt v s ≠ 0 → upS J v s < J.length ∧ endS J lt v s = relT J v (upS J v s)
  adm : s.up < J.length → relT J v s.up ≤ nowS J v s → s.up < upS J v s
theorem stf {J : List Rw} (ok : JOk J) {lt : Nat → Nat → Bool} (lo : LtOk lt) {v : Int} (hv : 1 ≤ v) {s : SS} (I : SchI J lt v s) (go : ¬ (s.wt = [] ∧ ¬ s.up < J.length)) : StF J lt v s := by
  obtain ⟨a, a1, a2, a3, a4⟩ := tw_range (fun i => decide (relT J v i ≤ nowS J v s)) (J.length - s.up) s.up
  have ea : admL J v (nowS J v s) s.up = List.range' s.up a := a2
  have eu : upS J v s = s.up + a := by unfold upS; rw [ea, List.length_range']
  have ew : wtS J v s = s.wt ++ List.range' s.up a := by unfold wtS; rw [ea]
  have iu := I.up
  have now : s.now ≤ nowS J v s := by
    unfold nowS
    split
    · exact Int.le_max_left _ _
    · exact Int.le_refl _
  have nowg : s.now < nowS J v s → s.wt = [] := fun h => by
    unfold nowS at h
    split at h
    · assumption
    · exact absurd h (Int.lt_irrefl _)
  have wt : ∀ i, i ∈ wtS J v s ↔ i ∈ s.wt ∨ (s.up ≤ i ∧ i < upS J v s) := fun i => by
    rw [ew, List.mem_append, List.mem_range'_1, eu]
  have rlo : ∀ i, i < upS J v s → relT J v i ≤ nowS J v s := fun i hi => by
    by_cases h : i < s.up
    · exact Int.le_trans (I.rlo i h) now
    · exact of_decide_eq_true (a3 i (by omega) (by omega))
  have rhi : ∀ i, upS J v s ≤ i → i < J.length → nowS J v s < relT J v i := fun i h1 h2 => by
    have := of_decide_eq_false (a4 (by omega))
    have := rel_mono (v := v) ok hv (i := s.up + a) (j := i) (by omega) h2
    omega
  have adm : s.up < J.length → relT J v s.up ≤ nowS J v s → s.up < upS J v s := fun h1 h2 => by
    rw [eu]
    cases a with
    | zero =>
      have := of_decide_eq_false (a4 (by omega))
      rw [Nat.add_zero] at this
      exact absurd h2 this
    | succ a => omega
  have ne : wtS J v s ≠ [] := fun h => by
    have h1 : s.wt = [] := by rw [ew] at h; exact (List.append_eq_nil_iff.mp h).1
    have h2 : s.up < J.length := Decidable.byContradiction fun z => go ⟨h1, z⟩
    have h3 : relT J v s.up ≤ nowS J v s := by unfold nowS; rw [if_pos h1]; exact Int.le_max_right _ _
    have h4 := adm h2 h3
    have : s.up ∈ wtS J v s := (wt _).mpr (.inr ⟨Nat.le_refl _, h4⟩)
    rw [h] at this
    cases this
  obtain ⟨w0, wr, hw⟩ : ∃ w0 wr, wtS J v s = w0 :: wr := by
    cases h : wtS J v s with
    | nil => exact absurd h ne
    | cons x xs => exact ⟨x, xs, rfl⟩
  obtain ⟨m1, m2⟩ := minN_spec lo wr w0
  rw [← hw] at m1 m2
  have mem : ixS J lt v s ∈ wtS J v s := m1
  have ixl : ixS J lt v s < upS J v s := by
    rcases (wt _).mp mem with h | h
    · have := I.wtu _ h; omega
    · exact h.2
  have lp : 1 ≤ lfA s.lf (ixS J lt v s) := by
    refine I.pos _ (by omega) ?_
    rcases (wt _).mp mem with h | h
    · exact .inl h
    · exact .inr h.1
  have ee : endS J lt v s ≤ nowS J v s + lfA s.lf (ixS J lt v s) := by
    unfold endS
    split
    · exact Int.min_le_left _ _
    · exact Int.le_refl _
  have endg : nowS J v s < endS J lt v s := by
    unfold endS
    split
    · rename_i h
      have := rhi _ (Nat.le_refl _) h
      omega
    · omega
  have endr : ∀ i, upS J v s ≤ i → i < J.length → endS J lt v s ≤ relT J v i := fun i h1 h2 => by
    have := rel_mono (v := v) ok hv h1 h2
    unfold endS
    rw [if_pos (by omega)]
    omega
  refine ⟨now, nowg, ⟨by omega, by omega⟩, wt, ?_, ?_, rlo, rhi, mem, m2, ixl, lp, endg, ?_, endr, fun h => ?_, adm⟩
  · rw [ew]
    refine List.nodup_append.mpr ⟨I.wtn, List.nodup_range', fun x hx y hy e => ?_⟩
    have := I.wtu x hx
    have := (List.mem_range'_1.mp hy).1
    omega
  · rw [ew, List.length_append, List.length_range', eu]
    omega
  · unfold lftS
    omega
  · unfold lftS at h
    by_cases q : upS J v s < J.length
    · refine ⟨q, ?_⟩
      unfold endS at h ⊢
      rw [if_pos q] at h ⊢
      omega
    · unfold endS at h
      rw [if_neg q] at h
      omega

theorem sch_step {J : List Rw} (ok : JOk J) {lt : Nat → Nat → Bool} (lo : LtOk lt) {v : Int} (hv : 1 ≤ v) {s : SS} (I : SchI J lt v s) (go : ¬ (s.wt = [] ∧ ¬ s.up < J.length)) : SchI J lt v (stepS J lt v s) := by
  have S := stf ok lo hv I go
  obtain ⟨N, hN⟩ : ∃ N, N = nowS J v s := ⟨_, rfl⟩
  obtain ⟨E, hE⟩ : ∃ E, E = endS J lt v s := ⟨_, rfl⟩
  obtain ⟨U, hU⟩ : ∃ U, U = upS J v s := ⟨_, rfl⟩
  obtain ⟨W, hW⟩ : ∃ W, W = wtS J v s := ⟨_, rfl⟩
  obtain ⟨i, hi⟩ : ∃ i, i = ixS J lt v s := ⟨_, rfl⟩
  obtain ⟨x, hx⟩ : ∃ x, x = lftS J lt v s := ⟨_, rfl⟩
  have xe : x = lfA s.lf i - (E - N) := by rw [hx, hi, hE, hN]; rfl
  have est : stepS J lt v s = ⟨E, U, s.lf.set i x, if x = 0 then W.erase i else W, addSl s.sl N E i⟩ := by rw [hN, hE, hU, hW, hi, hx]; rfl
  have c1 := S.now
  have c2 := S.nowg
  have c3 := S.up
  have c4 := S.wt
  have c5 := S.wtn
  have c6 := S.rlo
  have c7 := S.rhi
  have c8 := S.mem
  have c9 := S.mn
  have c10 := S.ixl
  have c11 := S.lp
  have c12 := S.endg
  have c13 := S.lft
  have c14 := S.endr
  rw [← hN] at c1 c2 c6 c7 c12
  rw [← hU] at c3 c6 c7 c10 c14
  rw [← hE] at c12 c14
  rw [← hi] at c8 c9 c10 c11 c13
  rw [← hW] at c4 c5 c8 c9
  rw [← hU] at c4
  rw [← hx] at c13
  have il : i < s.lf.length := by rw [I.lfl]; omega
  have lf' : ∀ j, lfA (s.lf.set i x) j = if j = i then x else lfA s.lf j := fun j => lfA_set il
  have wz : ∀ j, j ∈ (if x = 0 then W.erase i else W) ↔ (j ∈ W ∧ (j = i → x ≠ 0)) := fun j => by
    by_cases h : x = 0
    · rw [if_pos h, c5.mem_erase_iff]
      exact ⟨fun ⟨a, b⟩ => ⟨b, fun c => absurd c a⟩, fun ⟨a, b⟩ => ⟨fun c => b c h, a⟩⟩
    · rw [if_neg h]
      exact ⟨fun a => ⟨a, fun _ => h⟩, fun a => a.1⟩
  have nz : ∀ k, k < U → lfA s.lf k ≠ 0 → k ∈ W := fun k hk h => by
    refine (c4 k).mpr ?_
    by_cases h1 : k ∈ s.wt
    · exact .inl h1
    · by_cases h2 : s.up ≤ k
      · exact .inr ⟨h2, hk⟩
      · exact absurd (I.zer k (by omega) h1) h
  have kU : ∀ k, k < J.length → relT J v k < E → k < U := fun k hk h => by
    apply Decidable.byContradiction
    intro z
    have := c14 k (by omega) hk
    omega
  have ri : relT J v i ≤ N := c6 i c10
  have in0 : ((i : Nat) : Int).toNat = i := Int.toNat_natCast i
  rw [est]
  have slp : ((∀ z ∈ addSl s.sl N E i, 0 ≤ z.i ∧ z.i < J.length) ∧ (∀ z ∈ addSl s.sl N E i, z.s < z.e) ∧ (∀ z ∈ addSl s.sl N E i, relT J v z.i.toNat ≤ z.s)) ∧
      ((∀ p, p + 1 < (addSl s.sl N E i).length → (sAt (addSl s.sl N E i) p).e ≤ (sAt (addSl s.sl N E i) (p + 1)).s) ∧ (∀ p, p + 1 < (addSl s.sl N E i).length → (sAt (addSl s.sl N E i) p).e = (sAt (addSl s.sl N E i) (p + 1)).s → (sAt (addSl s.sl N E i) p).i ≠ (sAt (addSl s.sl N E i) (p + 1)).i) ∧
      freS (addSl s.sl N E i) (addSl s.sl N E i).length = E) ∧ (∀ j, j < J.length → dnL (addSl s.sl N E i) j = (rAt J j).c - lfA (s.lf.set i x) j) ∧ (∀ k, enL (addSl s.sl N E i) k = if k = i then E else enL s.sl k) ∧
      (∀ p k, p < (addSl s.sl N E i).length → k < J.length → relT J v k < (sAt (addSl s.sl N E i) p).s → freS (addSl s.sl N E i) p < (sAt (addSl s.sl N E i) p).s → lfA s.lf k = 0 ∧ enL s.sl k ≤ freS (addSl s.sl N E i) p) ∧
      ∀ p k, p < (addSl s.sl N E i).length → k < J.length → (k : Int) ≠ (sAt (addSl s.sl N E i) p).i → relT J v k < (sAt (addSl s.sl N E i) p).e → (lfA s.lf k ≠ 0 ∨ (k ≠ i ∧ (sAt (addSl s.sl N E i) p).s < enL s.sl k)) → lt k (sAt (addSl s.sl N E i) p).i.toNat = false := by
    rcases addSl_is s.sl N E i with ⟨pre, y, e1, yi, ye, e2⟩ | ⟨e2, nt⟩
    · rw [e2]
      have hl : s.sl.length = pre.length + 1 := by rw [e1, List.length_append, List.length_singleton]
      have hy : sAt s.sl pre.length = y := by rw [e1]; exact sAt_last
      have hyn : sAt (pre ++ [⟨y.s, E, i⟩]) pre.length = ⟨y.s, E, i⟩ := sAt_last
      have hp : ∀ q, q < pre.length → sAt (pre ++ [⟨y.s, E, i⟩]) q = sAt s.sl q := fun q hq => by rw [sAt_lt hq, e1, sAt_lt hq]
      have hs : ∀ q, q < pre.length + 1 → (sAt (pre ++ [⟨y.s, E, i⟩]) q).s = (sAt s.sl q).s ∧ (sAt (pre ++ [⟨y.s, E, i⟩]) q).i = (sAt s.sl q).i := fun q hq => by
        by_cases h : q < pre.length
        · rw [hp q h]; exact ⟨rfl, rfl⟩
        · rw [show q = pre.length by omega, hyn, hy]; exact ⟨rfl, yi.symm⟩
      have hfr : ∀ q, q < pre.length + 1 → freS (pre ++ [⟨y.s, E, i⟩]) q = freS s.sl q := fun q hq => by
        unfold freS
        split
        · rfl
        · rw [hp (q - 1) (by omega)]
      have nw : s.now = N := by
        have := I.lst
        unfold freS at this
        rw [if_neg (by omega), hl, Nat.add_sub_cancel, hy, ye] at this
        exact this.symm
      have ym : y ∈ s.sl := by rw [e1]; simp
      have hlen : (pre ++ [(⟨y.s, E, i⟩ : Sl)]).length = pre.length + 1 := by rw [List.length_append, List.length_singleton]
      rw [hlen]
      refine ⟨⟨fun z hz => ?_, fun z hz => ?_, fun z hz => ?_⟩, ⟨fun p hp1 => ?_, fun p hp1 he => ?_, ?_⟩, fun j hj => ?_, fun k => ?_, fun p k hp1 hk h1 h2 => ?_, fun p k hp1 hk h1 h2 h3 => ?_⟩
      · rcases List.mem_append.mp hz with hz | hz
        · exact I.ix z (by rw [e1]; exact List.mem_append_left _ hz)
        · rw [List.mem_singleton.mp hz]; show (0 : Int) ≤ i ∧ (i : Int) < J.length; omega
      · rcases List.mem_append.mp hz with hz | hz
        · exact I.se z (by rw [e1]; exact List.mem_append_left _ hz)
        · rw [List.mem_singleton.mp hz]; show y.s < E; have := I.se y ym; omega
      · rcases List.mem_append.mp hz with hz | hz
        · exact I.rl z (by rw [e1]; exact List.mem_append_left _ hz)
        · rw [List.mem_singleton.mp hz]
          have := I.rl y ym
          rw [yi] at this
          exact this
      · rw [(hs (p + 1) hp1).1, hp p (by omega)]
        exact I.asc p (by omega)
      · rw [(hs (p + 1) hp1).1, hp p (by omega)] at he
        rw [(hs (p + 1) hp1).2, hp p (by omega)]
        exact I.tch p (by omega) he
      · unfold freS
        rw [if_neg (by omega), Nat.add_sub_cancel, hyn]
      · have h1 := I.dn j hj
        rw [e1, dnL_app, yi] at h1
        rw [dnL_app, lf']
        show (if (i : Int) = j then dnL pre j + (E - y.s) else _) = _
        by_cases e : j = i
        · subst e
          rw [if_pos rfl] at h1 ⊢
          rw [if_pos rfl]
          omega
        · rw [if_neg (by omega)] at h1 ⊢
          rw [if_neg e]
          exact h1
      · rw [enL_app, e1, enL_app, yi]
        show (if (i : Int) = k then E else _) = _
        by_cases e : k = i
        · subst e; rw [if_pos rfl, if_pos rfl]
        · rw [if_neg (by omega), if_neg e, if_neg (by omega)]
      · rw [(hs p hp1).1] at h1 h2
        rw [hfr p hp1] at h2 ⊢
        exact I.idle p k (by omega) hk h1 h2
      · rw [(hs p hp1).1] at h3
        rw [(hs p hp1).2] at h1 ⊢
        by_cases q : p < pre.length
        · rw [hp p q] at h2
          exact I.rank p k (by omega) hk h1 h2 (h3.imp id And.right)
        · have q : p = pre.length := by omega
          subst q
          rw [hyn] at h2
          have h2 : relT J v k < E := h2
          rw [hy] at h1 h3 ⊢
          rw [yi] at h1 ⊢
          rw [in0]
          by_cases z : lfA s.lf k = 0
          · rcases h3 with h3 | h3
            · exact absurd z h3
            · have := I.rank pre.length k (by omega) hk (by rw [hy, yi]; exact h1) (by rw [hy, ye, ← nw]; exact I.frz k hk z) (.inr (by rw [hy]; exact h3.2))
              rw [hy, yi, in0] at this
              exact this
          · exact c9 k (nz k (kU k hk h2) z)
    · rw [e2]
      have hyn : sAt (s.sl ++ [⟨N, E, i⟩]) s.sl.length = ⟨N, E, i⟩ := sAt_last
      have hp : ∀ q, q < s.sl.length → sAt (s.sl ++ [⟨N, E, i⟩]) q = sAt s.sl q := fun q hq => sAt_lt hq
      have hfr : ∀ q, q < s.sl.length + 1 → freS (s.sl ++ [⟨N, E, i⟩]) q = freS s.sl q := fun q hq => by
        unfold freS
        split
        · rfl
        · rw [hp (q - 1) (by omega)]
      have hlen : (s.sl ++ [(⟨N, E, i⟩ : Sl)]).length = s.sl.length + 1 := by rw [List.length_append, List.length_singleton]
      have lst : ∀ p, p + 1 = s.sl.length → (sAt s.sl p).e = s.now := fun p hp1 => by
        have := I.lst
        unfold freS at this
        rw [if_neg (by omega), ← hp1, Nat.add_sub_cancel] at this
        exact this
      rw [hlen]
      refine ⟨⟨fun z hz => ?_, fun z hz => ?_, fun z hz => ?_⟩, ⟨fun p hp1 => ?_, fun p hp1 he => ?_, ?_⟩, fun j hj => ?_, fun k => ?_, fun p k hp1 hk h1 h2 => ?_, fun p k hp1 hk h1 h2 h3 => ?_⟩
      · rcases List.mem_append.mp hz with hz | hz
        · exact I.ix z hz
        · rw [List.mem_singleton.mp hz]; show (0 : Int) ≤ i ∧ (i : Int) < J.length; omega
      · rcases List.mem_append.mp hz with hz | hz
        · exact I.se z hz
        · rw [List.mem_singleton.mp hz]; exact c12
      · rcases List.mem_append.mp hz with hz | hz
        · exact I.rl z hz
        · rw [List.mem_singleton.mp hz]; exact ri
      · by_cases q : p + 1 < s.sl.length
        · rw [hp _ q, hp p (by omega)]; exact I.asc p q
        · have q : p + 1 = s.sl.length := by omega
          rw [q, hyn, hp p (by omega), lst p q]
          exact c1
      · by_cases q : p + 1 < s.sl.length
        · rw [hp _ q, hp p (by omega)] at he ⊢; exact I.tch p q he
        · have q : p + 1 = s.sl.length := by omega
          rw [q, hyn, hp p (by omega)] at he ⊢
          intro z
          rcases List.eq_nil_or_concat s.sl with e0 | ⟨pre, y, e0⟩
          · rw [e0] at q; cases q
          · rw [List.concat_eq_append] at e0
            have hpl : p = pre.length := by rw [e0, List.length_append, List.length_singleton] at q; omega
            rw [hpl, e0, sAt_last] at he z
            exact nt pre y e0 ⟨z, he⟩
      · unfold freS
        rw [if_neg (by omega), Nat.add_sub_cancel, hyn]
      · have h1 := I.dn j hj
        rw [dnL_app, lf']
        show (if (i : Int) = j then dnL s.sl j + (E - N) else _) = _
        by_cases e : j = i
        · subst e
          rw [if_pos rfl, if_pos rfl]
          omega
        · rw [if_neg (by omega), if_neg e]
          exact h1
      · rw [enL_app]
        show (if (i : Int) = k then E else _) = _
        by_cases e : k = i
        · subst e; rw [if_pos rfl, if_pos rfl]
        · rw [if_neg (by omega), if_neg e]
      · rw [hfr p hp1] at h2 ⊢
        by_cases q : p < s.sl.length
        · rw [hp p q] at h1 h2
          exact I.idle p k q hk h1 h2
        · have q : p = s.sl.length := by omega
          subst q
          rw [hyn] at h1 h2
          have h1 : relT J v k < N := h1
          have h2 : freS s.sl s.sl.length < N := h2
          rw [I.lst] at h2 ⊢
          have hw := c2 h2
          have ku : k < s.up := by
            apply Decidable.byContradiction
            intro z
            have h4 := rel_mono (v := v) ok hv (i := s.up) (j := k) (by omega) hk
            have h5 : N = max s.now (relT J v s.up) := by rw [hN]; unfold nowS; rw [if_pos hw]
            omega
          exact ⟨I.zer k ku (by rw [hw]; exact List.not_mem_nil), I.enn k⟩
      · by_cases q : p < s.sl.length
        · rw [hp p q] at h1 h2 h3 ⊢
          exact I.rank p k q hk h1 h2 (h3.imp id And.right)
        · have q : p = s.sl.length := by omega
          subst q
          rw [hyn] at h1 h2 h3 ⊢
          have h2 : relT J v k < E := h2
          show lt k ((i : Nat) : Int).toNat = false
          rw [in0]
          by_cases z : lfA s.lf k = 0
          · rcases h3 with h3 | h3
            · exact absurd z h3
            · have := I.enn k
              have h4 : N < enL s.sl k := h3.2
              omega
          · exact c9 k (nz k (kU k hk h2) z)
  obtain ⟨⟨a1, a2, a3⟩, ⟨a4, a5, a6⟩, a7, a8, a9, a10⟩ := slp
  refine ⟨by show U ≤ _; omega, by rw [List.length_set]; exact I.lfl, fun j hj => ?_, ?_, fun j hj h => ?_, fun j hj h => ?_, fun j hj => ?_, fun j h1 h2 => c14 j h1 h2, a1, a2, a3, a4, a5, a6, a7, fun k => ?_, fun k hk h => ?_, fun p k hp hk h1 h2 => ?_, fun p k hp hk h1 h2 h3 => ?_⟩
  · have := ((wz j).mp hj).1
    rcases (c4 j).mp this with h | h
    · have := I.wtu j h; show j < U; omega
    · exact h.2
  · show (if x = 0 then W.erase i else W).Nodup
    split
    · exact c5.erase i
    · exact c5
  · show 1 ≤ lfA (s.lf.set i x) j
    rw [lf']
    have h : j ∈ (if x = 0 then W.erase i else W) ∨ U ≤ j := h
    by_cases e : j = i
    · rw [if_pos e]
      rcases h with h | h
      · have := ((wz j).mp h).2 e; omega
      · omega
    · rw [if_neg e]
      refine I.pos j hj ?_
      rcases h with h | h
      · rcases (c4 j).mp ((wz j).mp h).1 with h | h
        · exact .inl h
        · exact .inr h.1
      · exact .inr (by omega)
  · show lfA (s.lf.set i x) j = 0
    rw [lf']
    have h : ¬ j ∈ (if x = 0 then W.erase i else W) := h
    rw [wz] at h
    by_cases e : j = i
    · rw [if_pos e]
      apply Decidable.byContradiction
      intro z
      exact h ⟨by rw [e]; exact c8, fun _ => z⟩
    · rw [if_neg e]
      apply Decidable.byContradiction
      intro z
      exact h ⟨nz j hj z, fun q => absurd q e⟩
  · have := c6 j hj; show relT J v j ≤ E; omega
  · show enL (addSl s.sl N E i) k ≤ E
    rw [a8]
    split
    · exact Int.le_refl _
    · have := I.enn k; omega
  · have h : lfA (s.lf.set i x) k = 0 := h
    show relT J v k < E
    rw [lf'] at h
    by_cases e : k = i
    · rw [e]; omega
    · rw [if_neg e] at h
      have := I.frz k hk h
      omega
  · show lfA (s.lf.set i x) k = 0 ∧ enL (addSl s.sl N E i) k ≤ freS (addSl s.sl N E i) p
    obtain ⟨b1, b2⟩ := a9 p k hp hk h1 h2
    have e : k ≠ i := fun e => by rw [e] at b1; omega
    rw [lf', if_neg e, a8, if_neg e]
    exact ⟨b1, b2⟩
  · refine a10 p k hp hk h1 h2 ?_
    have h3 : lfA (s.lf.set i x) k ≠ 0 ∨ (sAt (addSl s.sl N E i) p).s < enL (addSl s.sl N E i) k := h3
    rw [lf', a8] at h3
    by_cases e : k = i
    · exact .inl (by rw [e]; omega)
    · rw [if_neg e, if_neg e] at h3
      exact h3.imp id fun h => ⟨e, h⟩
def muS (J : List Rw) (v : Int) (s : SS) : Nat := s.wt.length + 2 * (J.length - s.up) + if s.up < J.length ∧ s.now < relT J v s.up then 1 else 0
theorem mu_step {J : List Rw} (ok : JOk J) {lt : Nat → Nat → Bool} (lo : LtOk lt) {v : Int} (hv : 1 ≤ v) {s : SS} (I : SchI J lt v s) (go : ¬ (s.wt = [] ∧ ¬ s.up < J.length)) : muS J v (stepS J lt v s) < muS J v s := by
  have S := stf ok lo hv I go
  have wl := S.wl
  have up := S.up
  have f1 : s.up < J.length → upS J v s = s.up → s.now < relT J v s.up := fun h1 h2 => by
    have h3 := S.rhi s.up (by omega) h1
    have h4 := S.now
    omega
  have f2 := S.fin
  have mem := S.mem
  have wp : 1 ≤ (wtS J v s).length := List.length_pos_of_mem mem
  unfold muS
  show (if lftS J lt v s = 0 then (wtS J v s).erase (ixS J lt v s) else wtS J v s).length + 2 * (J.length - upS J v s) + (if upS J v s < J.length ∧ endS J lt v s < relT J v (upS J v s) then 1 else 0) < _
  by_cases hx : lftS J lt v s = 0
  · rw [if_pos hx, List.length_erase_of_mem mem]
    by_cases ha : upS J v s = s.up
    · rw [ha]
      by_cases hl : s.up < J.length
      · rw [if_pos (⟨hl, f1 hl ha⟩ : s.up < J.length ∧ s.now < relT J v s.up)]
        split <;> omega
      · rw [if_neg (fun z : s.up < J.length ∧ endS J lt v s < relT J v s.up => hl z.1), if_neg (fun z : s.up < J.length ∧ s.now < relT J v s.up => hl z.1)]
        omega
    · split <;> split <;> omega
  · rw [if_neg hx]
    obtain ⟨g1, g2⟩ := f2 hx
    rw [if_neg (fun z : upS J v s < J.length ∧ endS J lt v s < relT J v (upS J v s) => by have := z.2; omega)]
    by_cases ha : upS J v s = s.up
    · rw [if_pos (⟨by omega, f1 (by omega) ha⟩ : s.up < J.length ∧ s.now < relT J v s.up)]
      omega
    · split <;> omega
theorem go_stop {J : List Rw} {lt : Nat → Nat → Bool} {v : Int} {s : SS} (h : s.wt = [] ∧ ¬ s.up < J.length) : ∀ n, goS J lt v n s = s
  | 0 => rfl
  | n + 1 => by unfold goS; rw [if_pos h]
theorem go_at {J : List Rw} (ok : JOk J) {lt : Nat → Nat → Bool} (lo : LtOk lt) {v : Int} (hv : 1 ≤ v) : ∀ (n : Nat) (s : SS), SchI J lt v s → muS J v s ≤ n → ((goS J lt v n s).wt = [] ∧ ¬ (goS J lt v n s).up < J.length) ∧ SchI J lt v (goS J lt v n s) ∧ goS J lt v (n + 1) s = goS J lt v n s := by
  intro n
  induction n with
  | zero =>
    intro s I h
    have h0 : s.wt = [] ∧ ¬ s.up < J.length := by
      unfold muS at h
      exact ⟨List.eq_nil_of_length_eq_zero (by omega), by omega⟩
    exact ⟨h0, I, go_stop h0 1⟩
  | succ n ih =>
    intro s I h
    by_cases go : s.wt = [] ∧ ¬ s.up < J.length
    · rw [go_stop go, go_stop go]
      exact ⟨go, I, rfl⟩
    · have e : ∀ k, goS J lt v (k + 1) s = goS J lt v k (stepS J lt v s) := fun k => by
        show (if _ then _ else _) = _
        rw [if_neg go]
      rw [e, e]
      have := mu_step ok lo hv I go
      exact ih _ (sch_step ok lo hv I go) (by omega)
theorem go_enough {J : List Rw} (ok : JOk J) {lt : Nat → Nat → Bool} (lo : LtOk lt) {v : Int} (hv : 1 ≤ v) {s : SS} (I : SchI J lt v s) : ∀ d, goS J lt v (muS J v s + d) s = goS J lt v (muS J v s) s
  | 0 => rfl
  | d + 1 => by
    rw [show muS J v s + (d + 1) = muS J v s + d + 1 by omega, (go_at ok lo hv (muS J v s + d) s I (by omega)).2.2]
    exact go_enough ok lo hv I d
theorem mu0 (J : List Rw) (v : Int) : muS J v (s0S J) ≤ 2 * J.length + 1 := by
  unfold muS
  show ([] : List Nat).length + 2 * (J.length - 0) + (if _ then 1 else 0) ≤ _
  rw [List.length_nil]
  split <;> omega
theorem addSl_len (ss : List Sl) (s e : Int) (i : Nat) : (addSl ss s e i).length ≤ ss.length + 1 := by
  rcases addSl_is ss s e i with ⟨pre, y, e1, _, _, e2⟩ | ⟨e2, _⟩
  · rw [e1, ← e1, e2, e1]
    simp
  · rw [e2]; simp
theorem go_len {J : List Rw} {lt : Nat → Nat → Bool} {v : Int} : ∀ (n : Nat) (s : SS), (goS J lt v n s).sl.length ≤ s.sl.length + n
  | 0, s => Nat.le_refl _
  | n + 1, s => by
    unfold goS
    split
    · omega
    · have h1 := go_len (J := J) (lt := lt) (v := v) n (stepS J lt v s)
      have h2 : (stepS J lt v s).sl.length ≤ s.sl.length + 1 := addSl_len _ _ _ _
      omega
theorem sched_len (J : List Rw) (lt : Nat → Nat → Bool) (v : Int) : (sched J lt v).length ≤ 2 * J.length + 1 := by
  have := go_len (J := J) (lt := lt) (v := v) (2 * J.length + 1) (s0S J)
  have h : (s0S J).sl.length = 0 := rfl
  unfold sched
  omega
theorem pure_check_speed {K : Fr0} {mg : Str → Option Value} (T : Txt K mg) (ds : List D) (m : M) (Q : D → M → Prop) (E : XD → M → Prop) (h : sp_check_speed K ds m Q E) : t_check_speed K (fun x _ m => E x m) { nx := fun _ m => Q .non m, rt := Q } (startD nm_check_speed ds) m := by
  obtain ⟨s, rfl, q, qe⟩ := h
  show t_check_speed K _ _ [some (.int s)] m
  unfold t_check_speed
  walk_at "zs"
  by_cases h1 : 1 ≤ s
  · rw [if_pos h1]
    by_cases h2 : s ≤ 99
    · rw [if_neg (by simp; omega)]
      exact q ⟨h1, h2⟩
    · rw [if_pos (by simp; omega)]
      exact qe (by omega)
  · rw [if_neg h1]
    exact qe (by omega)
theorem atl {α : Type} {xs : List α} {x : α} : atI (xs ++ [x]) (-1) = some x := by
  have e : ixN (xs ++ [x]).length (-1) = some xs.length := by
    unfold ixN
    rw [if_neg (by omega), List.length_append, List.length_singleton, if_pos (by omega)]
    congr 1
    omega
  unfold atI
  rw [e]
  show (xs ++ [x])[xs.length]? = some x
  rw [List.getElem?_append_right (Nat.le_refl _), Nat.sub_self]
  rfl
theorem pure_add_slice {K : Fr0} {mg : Str → Option Value} (T : Txt K mg) (ds : List D) (m : M) (Q : D → M → Prop) (E : XD → M → Prop) (h : sp_add_slice K ds m Q E) : t_add_slice K (fun x _ m => E x m) { nx := fun _ m => Q .non m, rt := Q } (startD nm_add_slice ds) m := by
  obtain ⟨a, ss, s, e, i, rfl, hm, hl, q⟩ := h
  show t_add_slice K _ _ [some (.ref a), some (.int s), some (.int e), some (.int i)] m
  unfold t_add_slice
  rcases List.eq_nil_or_concat ss with rfl | ⟨pre, y, rfl⟩
  · rw [List.map_nil] at hm
    try simp only [dIfS, dTest, dOp, dVar, dC, dCB, daCons, daNil, dSet, dRet, dNext, dDrop, dAsg, dPar, dAug, dAddI, dBreak, dCont, dRetN, slot, dLen, dCmpI, dSub, dAdd, dMul, dDiv, dMod, dPow, dNeg, dUn, dIx, dInt1, dAbs, dChain, dAnd, dOr, dNot, dAndV, dOrV, dNotV, dTru, dTruB, dIf, dTup, dLst, mkL, dSlice, dSl, doNone, doSome, dSum, dAll, dAny, dList, dTuple, dMax, dMin, eq_ii, ne_ii, eq_ss, ne_ss, eq_bb, ne_bb, eq_nn, ne_nn, dIsN, dNotN, dFgt, dIsB, dNotB, gN, gT, gsNil, gsCons, gSet, dBM, dAppend, dClear, dFld, dFldS, dProp, dCall, dMeth, dMake, dMakeN, daStar, dDictP, dCallO, dFor, dLc, diR1, diR2, diR3, diL, diT, diRv, diS, diE, dFmt, dFStr, dJs, dCallN, dFrzE, frz_l, in_ss, notin_ss, drR1, drR2, dListR, dRaise, dRaise0, dTryAs, dTry, dXf, dAddO, dInO, isL, insOf, Option.some.injEq, List.cons.injEq, D.int.injEq, D.bl.injEq, D.str.injEq, D.lst.injEq, D.tup.injEq, D.ref.injEq, MO.lst.injEq, MO.ins.injEq, mset_mset, and_true, true_and, and_self, and_assoc, exists_eq_left', exists_eq_left, exists_and_left, exists_and_right, exists_eq', List.set_cons_zero, List.set_cons_succ, decide_eq_true_eq, sqOf, lsOf, List.length_cons, List.length_nil, sizeLine_eq, List.append_nil, List.cons_append, List.nil_append, if_true, if_false, Bool.false_eq_true, reduceCtorEq, reduceIte, Nat.reduceAdd, Nat.reduceLeDiff, mset_same, Option.bind_some, List.length_map, Prod.mk.injEq, at0, at1, at2, at3, at4, at5, at6, at7, ix30, ix31, ix32, ix20, ix21, ix10, isi_ii, isi_ib, isi_ll, isi_bb, isi_ss, isi_tt, isi_is, isi_si, Bool.not_true, Bool.not_false, dCopyK, dGet2K, dDctR, dDisp1, dFrzEK, hm]
    rw [if_neg (by simp)]
    refine ⟨by omega, ?_⟩
    exact q
  · rw [List.concat_eq_append] at *
    have hx2 : atI ((pre ++ [y]).map Sl.D) (-1) = some y.D := by rw [List.map_append]; exact atl
    try simp only [dIfS, dTest, dOp, dVar, dC, dCB, daCons, daNil, dSet, dRet, dNext, dDrop, dAsg, dPar, dAug, dAddI, dBreak, dCont, dRetN, slot, dLen, dCmpI, dSub, dAdd, dMul, dDiv, dMod, dPow, dNeg, dUn, dIx, dInt1, dAbs, dChain, dAnd, dOr, dNot, dAndV, dOrV, dNotV, dTru, dTruB, dIf, dTup, dLst, mkL, dSlice, dSl, doNone, doSome, dSum, dAll, dAny, dList, dTuple, dMax, dMin, eq_ii, ne_ii, eq_ss, ne_ss, eq_bb, ne_bb, eq_nn, ne_nn, dIsN, dNotN, dFgt, dIsB, dNotB, gN, gT, gsNil, gsCons, gSet, dBM, dAppend, dClear, dFld, dFldS, dProp, dCall, dMeth, dMake, dMakeN, daStar, dDictP, dCallO, dFor, dLc, diR1, diR2, diR3, diL, diT, diRv, diS, diE, dFmt, dFStr, dJs, dCallN, dFrzE, frz_l, in_ss, notin_ss, drR1, drR2, dListR, dRaise, dRaise0, dTryAs, dTry, dXf, dAddO, dInO, isL, insOf, Option.some.injEq, List.cons.injEq, D.int.injEq, D.bl.injEq, D.str.injEq, D.lst.injEq, D.tup.injEq, D.ref.injEq, MO.lst.injEq, MO.ins.injEq, mset_mset, and_true, true_and, and_self, and_assoc, exists_eq_left', exists_eq_left, exists_and_left, exists_and_right, exists_eq', List.set_cons_zero, List.set_cons_succ, decide_eq_true_eq, sqOf, lsOf, List.length_cons, List.length_nil, sizeLine_eq, List.append_nil, List.cons_append, List.nil_append, if_true, if_false, Bool.false_eq_true, reduceCtorEq, reduceIte, Nat.reduceAdd, Nat.reduceLeDiff, mset_same, Option.bind_some, List.length_map, Prod.mk.injEq, at0, at1, at2, at3, at4, at5, at6, at7, ix30, ix31, ix32, ix20, ix21, ix10, isi_ii, isi_ib, isi_ll, isi_bb, isi_ss, isi_tt, isi_is, isi_si, Bool.not_true, Bool.not_false, dCopyK, dGet2K, dDctR, dDisp1, dFrzEK, hm, hx2, Sl.D]
    rw [if_pos (by simp)]
    have el : addSl (pre ++ [y]) s e i = if y.i = (i : Int) ∧ y.e = s then pre ++ [⟨y.s, e, i⟩] else pre ++ [y] ++ [⟨s, e, i⟩] := by
      unfold addSl
      rw [List.getLast?_append, List.getLast?_singleton, Option.some_or, List.dropLast_concat]
    have big : (pre ++ [y]).length < 16777216 := by omega
    have ea : (pre ++ [y]).map Sl.D ++ [D.tup [D.int s, D.int e, D.int i]] = (pre ++ [y] ++ [(⟨s, e, i⟩ : Sl)]).map Sl.D := by simp [Sl.D]
    by_cases h1 : y.i = (i : Int)
    · rw [if_pos h1]
      by_cases h2 : y.e = s
      · rw [if_pos h2]
        rw [if_pos ⟨h1, h2⟩] at el
        rw [el] at q
        refine ⟨pre.length, ?_, ?_⟩
        · unfold ixN
          rw [List.length_append, List.length_singleton]
          rw [if_neg (by omega), if_pos (by omega)]
          congr 1
          omega
        · have : ((pre ++ [y]).map Sl.D).set pre.length (D.tup [D.int y.s, D.int e, D.int i]) = (pre ++ [(⟨y.s, e, i⟩ : Sl)]).map Sl.D := by
            rw [List.map_append, List.set_append_right _ _ (by rw [List.length_map]; exact Nat.le_refl _), List.length_map, Nat.sub_self, List.map_append]
            rfl
          rw [this]
          exact q
      · rw [if_neg h2, ea]
        rw [if_neg (fun z => h2 z.2)] at el
        rw [el] at q
        exact ⟨big, q⟩
    · rw [if_neg h1, ea]
      rw [if_neg (fun z => h1 z.1)] at el
      rw [el] at q
      exact ⟨big, q⟩
theorem keysT_mono {fv : FV} {key : D} (mo : FvMono fv key) : ∀ (js : List D) (m : M) (Q Q' : List D → M → Prop), (∀ ds m', ds.length = js.length → Q ds m' → Q' ds m') → keysT fv key js m Q → keysT fv key js m Q'
  | [], m, Q, Q', h, q => h [] m rfl q
  | j :: js, m, Q, Q', h, q => mo _ _ _ _ (fun d m1 q1 => keysT_mono mo js m1 _ _ (fun ds m2 hl q2 => h (d :: ds) m2 (by rw [List.length_cons, List.length_cons, hl]) q2) q1) q
theorem lc_keys {fv : FV} {key : D} (mo : FvMono fv key) (hk : fv.is key) {a0 a2 a3 a4 a5 a6 a7 a8 a9 a10 a11 a12 : Option D} : ∀ (js acc : List D) (m : M) (Q : List D → M → Prop), acc.length + js.length ≤ sizeLine → keysT fv key js m (fun ds m2 => Q (acc ++ ds) m2) →
    dLcL (.one 5) [5] dYes (dCallV fv 1 (daCons (dVar 5) daNil)) js acc [a0, some key, a2, a3, a4, a5, a6, a7, a8, a9, a10, a11, a12] m Q
  | [], acc, m, Q, _, q => by
    have q : Q (acc ++ []) m := q
    rw [List.append_nil] at q
    exact q
  | j :: js, acc, m, Q, hl, q => by
    rw [List.length_cons] at hl
    refine ⟨[a0, some key, a2, a3, a4, some j, a6, a7, a8, a9, a10, a11, a12], rfl, ?_⟩
    simp only [dYes, if_true]
    refine ⟨key, rfl, hk, ?_⟩
    refine ⟨j, rfl, ?_⟩
    refine mo _ _ _ _ (fun d m1 q1 => ⟨by omega, lc_keys mo hk js (acc ++ [d]) m1 Q (by rw [List.length_append, List.length_singleton]; omega) (keysT_mono mo js m1 _ _ (fun ds m2 _ q2 => by rw [List.append_assoc]; exact q2) q1)⟩) q
theorem rb_ex {m1 : M} {al asl aw : Addr} (h1 : m1 al = none) (h2 : m1 asl = none) (h3 : m1 aw = none) (d1 : asl ≠ al) (d2 : aw ≠ al) (d3 : aw ≠ asl) (xs : List D) : ∃ RB : List Int → List Sl → List Nat → M,
    (∀ a : List Int, xs = a.map D.int → mset (mset (mset m1 al (.lst xs)) asl (.lst [])) aw (.lst []) = RB a [] []) ∧ (∀ a b c, RB a b c al = some (.lst (a.map D.int))) ∧ (∀ a b c, RB a b c asl = some (.lst (b.map Sl.D))) ∧ (∀ a b c, RB a b c aw = some (.lst (c.map fun (i : Nat) => D.int i))) ∧
    (∀ a b c a', mset (RB a b c) al (.lst (a'.map D.int)) = RB a' b c) ∧ (∀ a b c b', mset (RB a b c) asl (.lst (b'.map Sl.D)) = RB a b' c) ∧ (∀ a b c c', mset (RB a b c) aw (.lst (c'.map fun (i : Nat) => D.int i)) = RB a b c') ∧ ∀ a b c, MSub m1 (mdel (RB a b c) asl) := by
  refine ⟨fun a b c => mset (mset (mset m1 al (.lst (a.map D.int))) asl (.lst (b.map Sl.D))) aw (.lst (c.map fun (i : Nat) => D.int i)), fun a e => by rw [e]; rfl, fun a b c => ?_, fun a b c => ?_, fun a b c => mset_same, fun a b c a' => ?_, fun a b c b' => ?_, fun a b c c' => mset_mset, fun a b c => ?_⟩
  · dsimp only; rw [mset_ne d2.symm, mset_ne d1.symm, mset_same]
  · dsimp only; rw [mset_ne d3.symm, mset_same]
  · dsimp only; rw [mset_comm d2, mset_comm d1, mset_mset]
  · dsimp only; rw [mset_comm d3, mset_mset]
  · intro b' o e
    have n1 : b' ≠ al := fun z => by rw [z, h1] at e; cases e
    have n2 : b' ≠ asl := fun z => by rw [z, h2] at e; cases e
    have n3 : b' ≠ aw := fun z => by rw [z, h3] at e; cases e
    dsimp only; rw [mdel_ne n2, mset_ne n3, mset_ne n2, mset_ne n1]
    exact e
theorem minBy_is (kp : List PyData) (kpf : D → PyData) (hk : ∀ i : Nat, kpf (.int i) = krk kp i) : ∀ (wr : List Nat) (w0 : Nat), minBy kpf (.int w0) (wr.map fun (i : Nat) => D.int i) = .int (minN (klt kp) (w0 :: wr) : Nat) := by
  have key : ∀ (wr : List Nat) (w0 : Nat), (wr.map fun (i : Nat) => D.int i).foldl (fun a y => if PySem.W.dataLt (kpf y) (kpf a) then y else a) (.int w0) = .int (wr.foldl (fun a y => if klt kp y a then y else a) w0 : Nat) := by
    intro wr
    induction wr with
    | nil => intro w0; rfl
    | cons y ys ih =>
      intro w0
      rw [List.map_cons, List.foldl_cons, List.foldl_cons, hk, hk]
      show List.foldl _ (if klt kp y w0 = true then D.int y else D.int w0) _ = _
      by_cases h : klt kp y w0 = true
      · rw [if_pos h, if_pos h]; exact ih y
      · rw [if_neg h, if_neg h]; exact ih w0
  intro wr w0
  exact key wr w0
def kyD (kd : List D) : D → D
  | .int i => .tup [kd.getD i.toNat .non, .int i]
  | _ => .non
def kyP (kp : List PyData) : D → PyData
  | .int i => krk kp i.toNat
  | _ => .none
theorem ky_toPs {kd : List D} {kp : List PyData} (h : toPs kd = some kp) : ∀ (ws : List Nat), (∀ i ∈ ws, i < kd.length) → toPs ((ws.map fun (i : Nat) => D.int i).map (kyD kd)) = some ((ws.map fun (i : Nat) => D.int i).map (kyP kp))
  | [], _ => rfl
  | w :: ws, hw => by
    have e : kd[w]? = some (kd.getD w .non) := by
      rw [List.getD_eq_getElem?_getD, List.getElem?_eq_getElem (hw w List.mem_cons_self)]; rfl
    obtain ⟨p, h1, h2⟩ := toPs_get h e
    have ep : kp.getD w .none = p := by rw [List.getD_eq_getElem?_getD, h1]; rfl
    have ih := ky_toPs h ws fun i hi => hw i (List.mem_cons_of_mem _ hi)
    rw [List.map_cons, List.map_cons, List.map_cons, toPs, ih]
    have e1 : kyD kd (.int (w : Int)) = .tup [kd.getD w .non, .int w] := by show D.tup [kd.getD ((w : Nat) : Int).toNat .non, .int w] = _; rw [Int.toNat_natCast]
    have e2 : kyP kp (.int (w : Int)) = .tuple [p, .int w] := by show krk kp ((w : Nat) : Int).toNat = _; rw [Int.toNat_natCast]; unfold krk; rw [ep]
    rw [e1, e2]
    have e3 : toP (.tup [kd.getD w .non, .int w]) = some (.tuple [p, .int w]) := by
      generalize kd.getD w D.non = d0 at *
      simp [toP, toPs, h2]
    rw [e3]
    rfl
theorem ky_alike {kd : List D} {kp : List PyData} (h : KOk kd kp) (hl : kd.length = kp.length) (ws : List Nat) (hw : ∀ i ∈ ws, i < kd.length) : PySem.W.AlikeAll ((ws.map fun (i : Nat) => D.int i).map (kyP kp)) := by
  have at_ : ∀ x ∈ (ws.map fun (i : Nat) => D.int i).map (kyP kp), ∃ p ∈ kp, ∃ i : Nat, x = .tuple [p, .int i] := fun x hx => by
    obtain ⟨d, hd, rfl⟩ := List.mem_map.mp hx
    obtain ⟨i, hi, rfl⟩ := List.mem_map.mp hd
    have hlt := hw i hi
    refine ⟨kp.getD i .none, ?_, i, by show krk kp ((i : Nat) : Int).toNat = _; rw [Int.toNat_natCast]; rfl⟩
    rw [List.getD_eq_getElem?_getD, List.getElem?_eq_getElem (by omega)]
    exact List.getElem_mem _
  refine ⟨fun x hx y hy => ?_, fun x hx => ?_⟩
  · obtain ⟨p, hp, i, rfl⟩ := at_ x hx
    obtain ⟨q, hq, j, rfl⟩ := at_ y hy
    simp [PySem.W.alike, PySem.W.alikeAll, h.al p hp q hq]
  · obtain ⟨p, hp, i, rfl⟩ := at_ x hx
    simp
theorem toPs_len : ∀ {ds : List D} {ps : List PyData}, toPs ds = some ps → ds.length = ps.length
  | [], _, h => by cases h; rfl
  | k :: ks, ps, h => by
    rw [toPs] at h
    cases q : toP k with
    | none => rw [q] at h; cases h
    | some p =>
      cases q2 : toPs ks with
      | none => rw [q, q2] at h; cases h
      | some ps' =>
        rw [q, q2] at h
        cases h
        rw [List.length_cons, List.length_cons, toPs_len q2]
theorem ky_depth {kd : List D} {kp : List PyData} (h : KOk kd kp) (hl : kd.length = kp.length) (ws : List Nat) (hw : ∀ i ∈ ws, i < kd.length) : ∀ y ∈ ws.map fun (i : Nat) => D.int i, (kyP kp y).depth ≤ 60 := fun y hy => by
  obtain ⟨i, hi, rfl⟩ := List.mem_map.mp hy
  have hlt := hw i hi
  have : kp.getD i .none ∈ kp := by
    rw [List.getD_eq_getElem?_getD, List.getElem?_eq_getElem (by omega)]
    exact List.getElem_mem _
  have := h.dp _ this
  show (krk kp ((i : Nat) : Int).toNat).depth ≤ 60
  unfold krk
  rw [Int.toNat_natCast]
  generalize kp.getD i PyData.none = d0 at *
  simp [PyData.depth, PyData.depthAll]
  omega
abbrev rbR (K : Fr0) (g : Int) (J : List Rw) (key : D) (v : Int) (kd : List D) (al asl aw : Addr) (o5 : Option D) (now : Int) (up : Nat) (o11 o12 : Option D) : DSt :=
  [some (runD K g J), some key, some (.int v), some (.lst (J.map Rw.D)), some (.lst kd), o5, some (.ref al), some (.ref asl), some (.ref aw), some (.int now), some (.int up), o11, o12]
theorem rb_cond {K : Fr0} {g : Int} {J : List Rw} {key : D} {v : Int} {kd : List D} {al asl aw : Addr} {o5 : Option D} {now : Int} {up : Nat} {o11 o12 : Option D} {m : M} {wt : List Nat} (hw : m aw = some (.lst (wt.map fun (i : Nat) => D.int i))) {Q : Bool → M → Prop} (q : Q (!(decide (wt = [] ∧ ¬ up < J.length))) m) :
    dOr (dTru (dVar 8)) (dTest (dOp dLt (dVar 10) (dCB dLen (daCons (dVar 3) daNil)))) (rbR K g J key v kd al asl aw o5 now up o11 o12) m Q := by
  try simp only [dIfS, dTest, dOp, dVar, dC, dCB, daCons, daNil, dSet, dRet, dNext, dDrop, dAsg, dPar, dAug, dAddI, dBreak, dCont, dRetN, slot, dLen, dCmpI, dSub, dAdd, dMul, dDiv, dMod, dPow, dNeg, dUn, dIx, dInt1, dAbs, dChain, dAnd, dOr, dNot, dAndV, dOrV, dNotV, dTru, dTruB, dIf, dTup, dLst, mkL, dSlice, dSl, doNone, doSome, dSum, dAll, dAny, dList, dTuple, dMax, dMin, eq_ii, ne_ii, eq_ss, ne_ss, eq_bb, ne_bb, eq_nn, ne_nn, dIsN, dNotN, dFgt, dIsB, dNotB, gN, gT, gsNil, gsCons, gSet, dBM, dAppend, dClear, dFld, dFldS, dProp, dCall, dMeth, dMake, dMakeN, daStar, dDictP, dCallO, dFor, dLc, diR1, diR2, diR3, diL, diT, diRv, diS, diE, dFmt, dFStr, dJs, dCallN, dFrzE, frz_l, in_ss, notin_ss, drR1, drR2, dListR, dRaise, dRaise0, dTryAs, dTry, dXf, dAddO, dInO, isL, insOf, Option.some.injEq, List.cons.injEq, D.int.injEq, D.bl.injEq, D.str.injEq, D.lst.injEq, D.tup.injEq, D.ref.injEq, MO.lst.injEq, MO.ins.injEq, mset_mset, and_true, true_and, and_self, and_assoc, exists_eq_left', exists_eq_left, exists_and_left, exists_and_right, exists_eq', List.set_cons_zero, List.set_cons_succ, decide_eq_true_eq, sqOf, lsOf, List.length_cons, List.length_nil, sizeLine_eq, List.append_nil, List.cons_append, List.nil_append, if_true, if_false, Bool.false_eq_true, reduceCtorEq, reduceIte, Nat.reduceAdd, Nat.reduceLeDiff, mset_same, Option.bind_some, List.length_map, Prod.mk.injEq, at0, at1, at2, at3, at4, at5, at6, at7, ix30, ix31, ix32, ix20, ix21, ix10, isi_ii, isi_ib, isi_ll, isi_bb, isi_ss, isi_tt, isi_is, isi_si, Bool.not_true, Bool.not_false, dCopyK, dGet2K, dDctR, dDisp1, dFrzEK, hw]
  cases wt with
  | nil =>
    rw [List.map_nil]
    by_cases h : up < J.length
    · simpa [h] using q
    · simpa [h] using q
  | cons w ws =>
    simpa using q
theorem at_J {J : List Rw} {i : Nat} (h : i < J.length) : atI (J.map Rw.D) (i : Int) = some (rAt J i).D := atI_nat (by rw [List.getElem?_map, rAt_get h]; rfl)
theorem rel_mul {J : List Rw} (ok : JOk J) {v : Int} (hv : 1 ≤ v ∧ v ≤ 99) {i : Nat} (h : i < J.length) : MulOk (rAt J i).r v := by
  have h1 := ok.r _ (rAt_memJ h)
  have h2 := ok.rb _ (rAt_memJ h)
  exact mul_small (by omega)
theorem rb_now {K : Fr0} {g : Int} {J : List Rw} (ok : JOk J) {key : D} {v : Int} (hv : 1 ≤ v ∧ v ≤ 99) {kd : List D} {al asl aw : Addr} {o5 : Option D} {s : SS} {o11 o12 : Option D} {m : M} (hw : m aw = some (.lst (s.wt.map fun (i : Nat) => D.int i))) (go : ¬ (s.wt = [] ∧ ¬ s.up < J.length)) {DD : DEnds}
    (q : DD.nx (rbR K g J key v kd al asl aw o5 (nowS J v s) s.up o11 o12) m) :
    dIfS (dNot (dTru (dVar 8))) (dSet 9 (dCB dMax (daCons (dVar 9) (daCons (dOp (dMul false) (dOp dIx (dOp dIx (dVar 3) (dVar 10)) (dC (.int 3))) (dVar 2)) daNil)))) dNext DD (rbR K g J key v kd al asl aw o5 s.now s.up o11 o12) m := by
  by_cases h : s.wt = []
  · have hu : s.up < J.length := Decidable.byContradiction fun z => go ⟨h, z⟩
    rw [h, List.map_nil] at hw
    unfold nowS at q
    rw [if_pos h] at q
    try simp only [dIfS, dTest, dOp, dVar, dC, dCB, daCons, daNil, dSet, dRet, dNext, dDrop, dAsg, dPar, dAug, dAddI, dBreak, dCont, dRetN, slot, dLen, dCmpI, dSub, dAdd, dMul, dDiv, dMod, dPow, dNeg, dUn, dIx, dInt1, dAbs, dChain, dAnd, dOr, dNot, dAndV, dOrV, dNotV, dTru, dTruB, dIf, dTup, dLst, mkL, dSlice, dSl, doNone, doSome, dSum, dAll, dAny, dList, dTuple, dMax, dMin, eq_ii, ne_ii, eq_ss, ne_ss, eq_bb, ne_bb, eq_nn, ne_nn, dIsN, dNotN, dFgt, dIsB, dNotB, gN, gT, gsNil, gsCons, gSet, dBM, dAppend, dClear, dFld, dFldS, dProp, dCall, dMeth, dMake, dMakeN, daStar, dDictP, dCallO, dFor, dLc, diR1, diR2, diR3, diL, diT, diRv, diS, diE, dFmt, dFStr, dJs, dCallN, dFrzE, frz_l, in_ss, notin_ss, drR1, drR2, dListR, dRaise, dRaise0, dTryAs, dTry, dXf, dAddO, dInO, isL, insOf, Option.some.injEq, List.cons.injEq, D.int.injEq, D.bl.injEq, D.str.injEq, D.lst.injEq, D.tup.injEq, D.ref.injEq, MO.lst.injEq, MO.ins.injEq, mset_mset, and_true, true_and, and_self, and_assoc, exists_eq_left', exists_eq_left, exists_and_left, exists_and_right, exists_eq', List.set_cons_zero, List.set_cons_succ, decide_eq_true_eq, sqOf, lsOf, List.length_cons, List.length_nil, sizeLine_eq, List.append_nil, List.cons_append, List.nil_append, if_true, if_false, Bool.false_eq_true, reduceCtorEq, reduceIte, Nat.reduceAdd, Nat.reduceLeDiff, mset_same, Option.bind_some, List.length_map, Prod.mk.injEq, at0, at1, at2, at3, at4, at5, at6, at7, ix30, ix31, ix32, ix20, ix21, ix10, isi_ii, isi_ib, isi_ll, isi_bb, isi_ss, isi_tt, isi_is, isi_si, Bool.not_true, Bool.not_false, dCopyK, dGet2K, dDctR, dDisp1, dFrzEK, hw, at_J hu, Rw.D]
    rw [if_pos (by simp)]
    exact ⟨rel_mul ok hv hu, q⟩
  · unfold nowS at q
    rw [if_neg h] at q
    try simp only [dIfS, dTest, dOp, dVar, dC, dCB, daCons, daNil, dSet, dRet, dNext, dDrop, dAsg, dPar, dAug, dAddI, dBreak, dCont, dRetN, slot, dLen, dCmpI, dSub, dAdd, dMul, dDiv, dMod, dPow, dNeg, dUn, dIx, dInt1, dAbs, dChain, dAnd, dOr, dNot, dAndV, dOrV, dNotV, dTru, dTruB, dIf, dTup, dLst, mkL, dSlice, dSl, doNone, doSome, dSum, dAll, dAny, dList, dTuple, dMax, dMin, eq_ii, ne_ii, eq_ss, ne_ss, eq_bb, ne_bb, eq_nn, ne_nn, dIsN, dNotN, dFgt, dIsB, dNotB, gN, gT, gsNil, gsCons, gSet, dBM, dAppend, dClear, dFld, dFldS, dProp, dCall, dMeth, dMake, dMakeN, daStar, dDictP, dCallO, dFor, dLc, diR1, diR2, diR3, diL, diT, diRv, diS, diE, dFmt, dFStr, dJs, dCallN, dFrzE, frz_l, in_ss, notin_ss, drR1, drR2, dListR, dRaise, dRaise0, dTryAs, dTry, dXf, dAddO, dInO, isL, insOf, Option.some.injEq, List.cons.injEq, D.int.injEq, D.bl.injEq, D.str.injEq, D.lst.injEq, D.tup.injEq, D.ref.injEq, MO.lst.injEq, MO.ins.injEq, mset_mset, and_true, true_and, and_self, and_assoc, exists_eq_left', exists_eq_left, exists_and_left, exists_and_right, exists_eq', List.set_cons_zero, List.set_cons_succ, decide_eq_true_eq, sqOf, lsOf, List.length_cons, List.length_nil, sizeLine_eq, List.append_nil, List.cons_append, List.nil_append, if_true, if_false, Bool.false_eq_true, reduceCtorEq, reduceIte, Nat.reduceAdd, Nat.reduceLeDiff, mset_same, Option.bind_some, List.length_map, Prod.mk.injEq, at0, at1, at2, at3, at4, at5, at6, at7, ix30, ix31, ix32, ix20, ix21, ix10, isi_ii, isi_ib, isi_ll, isi_bb, isi_ss, isi_tt, isi_is, isi_si, Bool.not_true, Bool.not_false, dCopyK, dGet2K, dDctR, dDisp1, dFrzEK, hw]
    rw [if_neg (by simp [h])]
    exact q

theorem rb_adm {K : Fr0} {g : Int} {J : List Rw} (ok : JOk J) {key : D} {v : Int} (hv : 1 ≤ v ∧ v ≤ 99) {kd : List D} {al asl aw : Addr} {o5 : Option D} {N : Int} {up : Nat} {o11 o12 : Option D} {RB : List Int → List Sl → List Nat → M} (rw_ : ∀ a b c, RB a b c aw = some (.lst (c.map fun (i : Nat) => D.int i)))
    (sw : ∀ a b c c', mset (RB a b c) aw (.lst (c'.map fun (i : Nat) => D.int i)) = RB a b c') {lf : List Int} {sl : List Sl} {wt : List Nat} (hw : wt.length ≤ 10000) {DD : DEnds} (q : DD.nx (rbR K g J key v kd al asl aw o5 N (up + (admL J v N up).length) o11 o12) (RB lf sl (wt ++ admL J v N up))) :
    dWhile (dAnd (dTest (dOp dLt (dVar 10) (dCB dLen (daCons (dVar 3) daNil)))) (dTest (dOp dLe (dOp (dMul false) (dOp dIx (dOp dIx (dVar 3) (dVar 10)) (dC (.int 3))) (dVar 2)) (dVar 9)))) (dSeq (dDrop (dBM isL dAppend (dVar 8) (daCons (dVar 10) daNil)))
      (dAug 10 (dC (.int 1)) dAddI)) DD (rbR K g J key v kd al asl aw o5 N up o11 o12) (RB lf sl wt) := by
  obtain ⟨A, a1, a2, a3, a4⟩ := tw_range (fun i => decide (relT J v i ≤ N)) (J.length - up) up
  have ea : admL J v N up = List.range' up A := a2
  rw [ea, List.length_range'] at q
  have jl := ok.len
  refine ⟨fun n r m' => ∃ a, a ≤ A ∧ n = A - a ∧ r = rbR K g J key v kd al asl aw o5 N (up + a) o11 o12 ∧ m' = RB lf sl (wt ++ List.range' up a), ⟨_, 0, Nat.zero_le _, rfl, rfl, by rw [List.range'_zero, List.append_nil]⟩, ?_⟩
  rintro n r m' ⟨a, ha, rfl, rfl, rfl⟩
  by_cases h : a < A
  · have hu : up + a < J.length := by omega
    have hr := of_decide_eq_true (a3 (up + a) (by omega) (by omega))
    unfold relT at hr
    try simp only [dIfS, dTest, dOp, dVar, dC, dCB, daCons, daNil, dSet, dRet, dNext, dDrop, dAsg, dPar, dAug, dAddI, dBreak, dCont, dRetN, slot, dLen, dCmpI, dSub, dAdd, dMul, dDiv, dMod, dPow, dNeg, dUn, dIx, dInt1, dAbs, dChain, dAnd, dOr, dNot, dAndV, dOrV, dNotV, dTru, dTruB, dIf, dTup, dLst, mkL, dSlice, dSl, doNone, doSome, dSum, dAll, dAny, dList, dTuple, dMax, dMin, eq_ii, ne_ii, eq_ss, ne_ss, eq_bb, ne_bb, eq_nn, ne_nn, dIsN, dNotN, dFgt, dIsB, dNotB, gN, gT, gsNil, gsCons, gSet, dBM, dAppend, dClear, dFld, dFldS, dProp, dCall, dMeth, dMake, dMakeN, daStar, dDictP, dCallO, dFor, dLc, diR1, diR2, diR3, diL, diT, diRv, diS, diE, dFmt, dFStr, dJs, dCallN, dFrzE, frz_l, in_ss, notin_ss, drR1, drR2, dListR, dRaise, dRaise0, dTryAs, dTry, dXf, dAddO, dInO, isL, insOf, Option.some.injEq, List.cons.injEq, D.int.injEq, D.bl.injEq, D.str.injEq, D.lst.injEq, D.tup.injEq, D.ref.injEq, MO.lst.injEq, MO.ins.injEq, mset_mset, and_true, true_and, and_self, and_assoc, exists_eq_left', exists_eq_left, exists_and_left, exists_and_right, exists_eq', List.set_cons_zero, List.set_cons_succ, decide_eq_true_eq, sqOf, lsOf, List.length_cons, List.length_nil, sizeLine_eq, List.append_nil, List.cons_append, List.nil_append, if_true, if_false, Bool.false_eq_true, reduceCtorEq, reduceIte, Nat.reduceAdd, Nat.reduceLeDiff, mset_same, Option.bind_some, List.length_map, Prod.mk.injEq, at0, at1, at2, at3, at4, at5, at6, at7, ix30, ix31, ix32, ix20, ix21, ix10, isi_ii, isi_ib, isi_ll, isi_bb, isi_ss, isi_tt, isi_is, isi_si, Bool.not_true, Bool.not_false, dCopyK, dGet2K, dDctR, dDisp1, dFrzEK, at_J hu, Rw.D, rw_]
    rw [if_pos (by omega), if_pos hr]
    refine ⟨rel_mul ok hv hu, ?_⟩
    try simp only [dSeq]
    try simp only [dIfS, dTest, dOp, dVar, dC, dCB, daCons, daNil, dSet, dRet, dNext, dDrop, dAsg, dPar, dAug, dAddI, dBreak, dCont, dRetN, slot, dLen, dCmpI, dSub, dAdd, dMul, dDiv, dMod, dPow, dNeg, dUn, dIx, dInt1, dAbs, dChain, dAnd, dOr, dNot, dAndV, dOrV, dNotV, dTru, dTruB, dIf, dTup, dLst, mkL, dSlice, dSl, doNone, doSome, dSum, dAll, dAny, dList, dTuple, dMax, dMin, eq_ii, ne_ii, eq_ss, ne_ss, eq_bb, ne_bb, eq_nn, ne_nn, dIsN, dNotN, dFgt, dIsB, dNotB, gN, gT, gsNil, gsCons, gSet, dBM, dAppend, dClear, dFld, dFldS, dProp, dCall, dMeth, dMake, dMakeN, daStar, dDictP, dCallO, dFor, dLc, diR1, diR2, diR3, diL, diT, diRv, diS, diE, dFmt, dFStr, dJs, dCallN, dFrzE, frz_l, in_ss, notin_ss, drR1, drR2, dListR, dRaise, dRaise0, dTryAs, dTry, dXf, dAddO, dInO, isL, insOf, Option.some.injEq, List.cons.injEq, D.int.injEq, D.bl.injEq, D.str.injEq, D.lst.injEq, D.tup.injEq, D.ref.injEq, MO.lst.injEq, MO.ins.injEq, mset_mset, and_true, true_and, and_self, and_assoc, exists_eq_left', exists_eq_left, exists_and_left, exists_and_right, exists_eq', List.set_cons_zero, List.set_cons_succ, decide_eq_true_eq, sqOf, lsOf, List.length_cons, List.length_nil, sizeLine_eq, List.append_nil, List.cons_append, List.nil_append, if_true, if_false, Bool.false_eq_true, reduceCtorEq, reduceIte, Nat.reduceAdd, Nat.reduceLeDiff, mset_same, Option.bind_some, List.length_map, Prod.mk.injEq, at0, at1, at2, at3, at4, at5, at6, at7, ix30, ix31, ix32, ix20, ix21, ix10, isi_ii, isi_ib, isi_ll, isi_bb, isi_ss, isi_tt, isi_is, isi_si, Bool.not_true, Bool.not_false, dCopyK, dGet2K, dDctR, dDisp1, dFrzEK, rw_]
    refine ⟨by rw [List.length_append, List.length_range']; omega, ?_⟩
    have e1 : (wt ++ List.range' up a).map (fun (i : Nat) => D.int i) ++ [D.int ((up + a : Nat) : Int)] = (wt ++ List.range' up (a + 1)).map (fun (i : Nat) => D.int i) := by
      rw [List.range'_concat, ← List.append_assoc, List.map_append (l₂ := [_]), Nat.one_mul]
      rfl
    rw [e1, sw]
    refine ⟨A - (a + 1), by omega, a + 1, by omega, rfl, ?_, rfl⟩
    rw [show ((up + a : Nat) : Int) + 1 = ((up + (a + 1) : Nat) : Int) by omega]
  · have ea : a = A := by omega
    subst ea
    by_cases hu : up + a < J.length
    · have hr := of_decide_eq_false (a4 (by omega))
      unfold relT at hr
      try simp only [dIfS, dTest, dOp, dVar, dC, dCB, daCons, daNil, dSet, dRet, dNext, dDrop, dAsg, dPar, dAug, dAddI, dBreak, dCont, dRetN, slot, dLen, dCmpI, dSub, dAdd, dMul, dDiv, dMod, dPow, dNeg, dUn, dIx, dInt1, dAbs, dChain, dAnd, dOr, dNot, dAndV, dOrV, dNotV, dTru, dTruB, dIf, dTup, dLst, mkL, dSlice, dSl, doNone, doSome, dSum, dAll, dAny, dList, dTuple, dMax, dMin, eq_ii, ne_ii, eq_ss, ne_ss, eq_bb, ne_bb, eq_nn, ne_nn, dIsN, dNotN, dFgt, dIsB, dNotB, gN, gT, gsNil, gsCons, gSet, dBM, dAppend, dClear, dFld, dFldS, dProp, dCall, dMeth, dMake, dMakeN, daStar, dDictP, dCallO, dFor, dLc, diR1, diR2, diR3, diL, diT, diRv, diS, diE, dFmt, dFStr, dJs, dCallN, dFrzE, frz_l, in_ss, notin_ss, drR1, drR2, dListR, dRaise, dRaise0, dTryAs, dTry, dXf, dAddO, dInO, isL, insOf, Option.some.injEq, List.cons.injEq, D.int.injEq, D.bl.injEq, D.str.injEq, D.lst.injEq, D.tup.injEq, D.ref.injEq, MO.lst.injEq, MO.ins.injEq, mset_mset, and_true, true_and, and_self, and_assoc, exists_eq_left', exists_eq_left, exists_and_left, exists_and_right, exists_eq', List.set_cons_zero, List.set_cons_succ, decide_eq_true_eq, sqOf, lsOf, List.length_cons, List.length_nil, sizeLine_eq, List.append_nil, List.cons_append, List.nil_append, if_true, if_false, Bool.false_eq_true, reduceCtorEq, reduceIte, Nat.reduceAdd, Nat.reduceLeDiff, mset_same, Option.bind_some, List.length_map, Prod.mk.injEq, at0, at1, at2, at3, at4, at5, at6, at7, ix30, ix31, ix32, ix20, ix21, ix10, isi_ii, isi_ib, isi_ll, isi_bb, isi_ss, isi_tt, isi_is, isi_si, Bool.not_true, Bool.not_false, dCopyK, dGet2K, dDctR, dDisp1, dFrzEK, at_J hu, Rw.D]
      rw [if_pos (by omega), if_neg hr]
      exact ⟨rel_mul ok hv hu, q⟩
    · walk_at "zs"
      rw [if_neg (by omega)]
      exact q
theorem rb_min {K : Fr0} {g : Int} {J : List Rw} {key : D} {v : Int} {kd : List D} {kp : List PyData} (kok : KOk kd kp) (kl : kd.length = J.length) {al asl aw : Addr} {o5 : Option D} {N : Int} {up : Nat} {o11 o12 : Option D} {m : M} {wt : List Nat} (ne : wt ≠ []) (hwt : ∀ i ∈ wt, i < J.length) (hm : m aw = some (.lst (wt.map fun (i : Nat) => D.int i))) {DD : DEnds}
    (q : DD.nx (rbR K g J key v kd al asl aw o5 N up (some (.int (minN (klt kp) wt : Nat))) o12) m) :
    dSet 11 (dMinK (dVar 8) 5 (dTup (daCons (dOp dIx (dVar 4) (dVar 5)) (daCons (dVar 5) daNil)))) DD (rbR K g J key v kd al asl aw o5 N up o11 o12) m := by
  obtain ⟨w0, wr, rfl⟩ : ∃ w0 wr, wt = w0 :: wr := by
    cases wt with
    | nil => exact absurd rfl ne
    | cons a b => exact ⟨a, b, rfl⟩
  have hkl := toPs_len kok.ps
  have hw2 : ∀ i ∈ w0 :: wr, i < kd.length := fun i hi => by rw [kl]; exact hwt i hi
  refine ⟨.ref aw, rfl, aw, .int w0, wr.map fun (i : Nat) => D.int i, kyD kd, kyP kp, rfl, hm, fun y hy Q' q' => ?_, ?_, ?_, ?_, ?_⟩
  · obtain ⟨i, hi, rfl⟩ : ∃ i ∈ w0 :: wr, D.int (i : Nat) = y := by
      have : y ∈ (w0 :: wr).map fun (i : Nat) => D.int i := hy
      exact List.mem_map.mp this
    have hlt := hw2 i hi
    have e : atI kd (i : Int) = some (kd.getD i .non) := atI_nat (by rw [List.getD_eq_getElem?_getD, List.getElem?_eq_getElem hlt]; rfl)
    have q' : Q' (.tup [kd.getD ((i : Nat) : Int).toNat .non, .int i]) (mdel m aw) := q'
    rw [Int.toNat_natCast] at q'
    try simp only [dIfS, dTest, dOp, dVar, dC, dCB, daCons, daNil, dSet, dRet, dNext, dDrop, dAsg, dPar, dAug, dAddI, dBreak, dCont, dRetN, slot, dLen, dCmpI, dSub, dAdd, dMul, dDiv, dMod, dPow, dNeg, dUn, dIx, dInt1, dAbs, dChain, dAnd, dOr, dNot, dAndV, dOrV, dNotV, dTru, dTruB, dIf, dTup, dLst, mkL, dSlice, dSl, doNone, doSome, dSum, dAll, dAny, dList, dTuple, dMax, dMin, eq_ii, ne_ii, eq_ss, ne_ss, eq_bb, ne_bb, eq_nn, ne_nn, dIsN, dNotN, dFgt, dIsB, dNotB, gN, gT, gsNil, gsCons, gSet, dBM, dAppend, dClear, dFld, dFldS, dProp, dCall, dMeth, dMake, dMakeN, daStar, dDictP, dCallO, dFor, dLc, diR1, diR2, diR3, diL, diT, diRv, diS, diE, dFmt, dFStr, dJs, dCallN, dFrzE, frz_l, in_ss, notin_ss, drR1, drR2, dListR, dRaise, dRaise0, dTryAs, dTry, dXf, dAddO, dInO, isL, insOf, Option.some.injEq, List.cons.injEq, D.int.injEq, D.bl.injEq, D.str.injEq, D.lst.injEq, D.tup.injEq, D.ref.injEq, MO.lst.injEq, MO.ins.injEq, mset_mset, and_true, true_and, and_self, and_assoc, exists_eq_left', exists_eq_left, exists_and_left, exists_and_right, exists_eq', List.set_cons_zero, List.set_cons_succ, decide_eq_true_eq, sqOf, lsOf, List.length_cons, List.length_nil, sizeLine_eq, List.append_nil, List.cons_append, List.nil_append, if_true, if_false, Bool.false_eq_true, reduceCtorEq, reduceIte, Nat.reduceAdd, Nat.reduceLeDiff, mset_same, Option.bind_some, List.length_map, Prod.mk.injEq, at0, at1, at2, at3, at4, at5, at6, at7, ix30, ix31, ix32, ix20, ix21, ix10, isi_ii, isi_ib, isi_ll, isi_bb, isi_ss, isi_tt, isi_is, isi_si, Bool.not_true, Bool.not_false, dCopyK, dGet2K, dDctR, dDisp1, dFrzEK, e]
    exact q'
  · exact ky_toPs kok.ps (w0 :: wr) hw2
  · exact ky_alike kok hkl (w0 :: wr) hw2
  · exact ky_depth kok hkl (w0 :: wr) hw2
  · rw [minBy_is kp (kyP kp) (fun i => by show krk kp ((i : Nat) : Int).toNat = _; rw [Int.toNat_natCast])]
    exact q
theorem lf_at {l : List Int} {i : Nat} (h : i < l.length) : atI (l.map D.int) (i : Int) = some (.int (lfA l i)) := atI_nat (by unfold lfA; rw [List.getElem?_map, List.getD_eq_getElem?_getD, List.getElem?_eq_getElem h]; rfl)
theorem rb_end1 {K : Fr0} {g : Int} {J : List Rw} {key : D} {v : Int} {kd : List D} {al asl aw : Addr} {o5 : Option D} {N : Int} {up i : Nat} {o12 : Option D} {m : M} {lf : List Int} (hl : m al = some (.lst (lf.map D.int))) (hi : i < lf.length) {DD : DEnds}
    (q : DD.nx (rbR K g J key v kd al asl aw o5 N up (some (.int i)) (some (.int (N + lfA lf i)))) m) : dSet 12 (dOp (dAdd false) (dVar 9) (dOp dIx (dVar 6) (dVar 11))) DD (rbR K g J key v kd al asl aw o5 N up (some (.int i)) o12) m := by
  try simp only [dIfS, dTest, dOp, dVar, dC, dCB, daCons, daNil, dSet, dRet, dNext, dDrop, dAsg, dPar, dAug, dAddI, dBreak, dCont, dRetN, slot, dLen, dCmpI, dSub, dAdd, dMul, dDiv, dMod, dPow, dNeg, dUn, dIx, dInt1, dAbs, dChain, dAnd, dOr, dNot, dAndV, dOrV, dNotV, dTru, dTruB, dIf, dTup, dLst, mkL, dSlice, dSl, doNone, doSome, dSum, dAll, dAny, dList, dTuple, dMax, dMin, eq_ii, ne_ii, eq_ss, ne_ss, eq_bb, ne_bb, eq_nn, ne_nn, dIsN, dNotN, dFgt, dIsB, dNotB, gN, gT, gsNil, gsCons, gSet, dBM, dAppend, dClear, dFld, dFldS, dProp, dCall, dMeth, dMake, dMakeN, daStar, dDictP, dCallO, dFor, dLc, diR1, diR2, diR3, diL, diT, diRv, diS, diE, dFmt, dFStr, dJs, dCallN, dFrzE, frz_l, in_ss, notin_ss, drR1, drR2, dListR, dRaise, dRaise0, dTryAs, dTry, dXf, dAddO, dInO, isL, insOf, Option.some.injEq, List.cons.injEq, D.int.injEq, D.bl.injEq, D.str.injEq, D.lst.injEq, D.tup.injEq, D.ref.injEq, MO.lst.injEq, MO.ins.injEq, mset_mset, and_true, true_and, and_self, and_assoc, exists_eq_left', exists_eq_left, exists_and_left, exists_and_right, exists_eq', List.set_cons_zero, List.set_cons_succ, decide_eq_true_eq, sqOf, lsOf, List.length_cons, List.length_nil, sizeLine_eq, List.append_nil, List.cons_append, List.nil_append, if_true, if_false, Bool.false_eq_true, reduceCtorEq, reduceIte, Nat.reduceAdd, Nat.reduceLeDiff, mset_same, Option.bind_some, List.length_map, Prod.mk.injEq, at0, at1, at2, at3, at4, at5, at6, at7, ix30, ix31, ix32, ix20, ix21, ix10, isi_ii, isi_ib, isi_ll, isi_bb, isi_ss, isi_tt, isi_is, isi_si, Bool.not_true, Bool.not_false, dCopyK, dGet2K, dDctR, dDisp1, dFrzEK, hl, lf_at hi]
  exact q
theorem rb_end2 {K : Fr0} {g : Int} {J : List Rw} (ok : JOk J) {key : D} {v : Int} (hv : 1 ≤ v ∧ v ≤ 99) {kd : List D} {al asl aw : Addr} {o5 : Option D} {N e0 : Int} {up : Nat} {o11 : Option D} {m : M} {DD : DEnds}
    (q : DD.nx (rbR K g J key v kd al asl aw o5 N up o11 (some (.int (if up < J.length then min e0 (relT J v up) else e0)))) m) :
    dIfS (dTest (dOp dLt (dVar 10) (dCB dLen (daCons (dVar 3) daNil)))) (dSet 12 (dCB dMin (daCons (dVar 12) (daCons (dOp (dMul false) (dOp dIx (dOp dIx (dVar 3) (dVar 10)) (dC (.int 3))) (dVar 2)) daNil)))) dNext DD (rbR K g J key v kd al asl aw o5 N up o11 (some (.int e0))) m := by
  by_cases h : up < J.length
  · rw [if_pos h] at q
    try simp only [dIfS, dTest, dOp, dVar, dC, dCB, daCons, daNil, dSet, dRet, dNext, dDrop, dAsg, dPar, dAug, dAddI, dBreak, dCont, dRetN, slot, dLen, dCmpI, dSub, dAdd, dMul, dDiv, dMod, dPow, dNeg, dUn, dIx, dInt1, dAbs, dChain, dAnd, dOr, dNot, dAndV, dOrV, dNotV, dTru, dTruB, dIf, dTup, dLst, mkL, dSlice, dSl, doNone, doSome, dSum, dAll, dAny, dList, dTuple, dMax, dMin, eq_ii, ne_ii, eq_ss, ne_ss, eq_bb, ne_bb, eq_nn, ne_nn, dIsN, dNotN, dFgt, dIsB, dNotB, gN, gT, gsNil, gsCons, gSet, dBM, dAppend, dClear, dFld, dFldS, dProp, dCall, dMeth, dMake, dMakeN, daStar, dDictP, dCallO, dFor, dLc, diR1, diR2, diR3, diL, diT, diRv, diS, diE, dFmt, dFStr, dJs, dCallN, dFrzE, frz_l, in_ss, notin_ss, drR1, drR2, dListR, dRaise, dRaise0, dTryAs, dTry, dXf, dAddO, dInO, isL, insOf, Option.some.injEq, List.cons.injEq, D.int.injEq, D.bl.injEq, D.str.injEq, D.lst.injEq, D.tup.injEq, D.ref.injEq, MO.lst.injEq, MO.ins.injEq, mset_mset, and_true, true_and, and_self, and_assoc, exists_eq_left', exists_eq_left, exists_and_left, exists_and_right, exists_eq', List.set_cons_zero, List.set_cons_succ, decide_eq_true_eq, sqOf, lsOf, List.length_cons, List.length_nil, sizeLine_eq, List.append_nil, List.cons_append, List.nil_append, if_true, if_false, Bool.false_eq_true, reduceCtorEq, reduceIte, Nat.reduceAdd, Nat.reduceLeDiff, mset_same, Option.bind_some, List.length_map, Prod.mk.injEq, at0, at1, at2, at3, at4, at5, at6, at7, ix30, ix31, ix32, ix20, ix21, ix10, isi_ii, isi_ib, isi_ll, isi_bb, isi_ss, isi_tt, isi_is, isi_si, Bool.not_true, Bool.not_false, dCopyK, dGet2K, dDctR, dDisp1, dFrzEK, at_J h, Rw.D]
    rw [if_pos (by omega)]
    exact ⟨rel_mul ok hv h, q⟩
  · rw [if_neg h] at q
    walk_at "zs"
    rw [if_neg (by omega)]
    exact q
theorem rb_add {K : Fr0} {g : Int} {J : List Rw} {key : D} {v : Int} {kd : List D} {al asl aw : Addr} {o5 : Option D} {N E : Int} {up i : Nat} {W : DWX} {m : M} {sl : List Sl} (hs : m asl = some (.lst (sl.map Sl.D))) (hl : sl.length < 1000000) {DD : DEnds}
    (q : DD.nx (rbR K g J key v kd al asl aw o5 N up (some (.int i)) (some (.int E))) (mset m asl (.lst ((addSl sl N E i).map Sl.D)))) :
    dDrop (dCall (sp_add_slice K) W [] (daCons (dVar 7) (daCons (dVar 9) (daCons (dVar 12) (daCons (dVar 11) daNil))))) DD (rbR K g J key v kd al asl aw o5 N up (some (.int i)) (some (.int E))) m := by
  walk_at "zs"
  exact ⟨asl, sl, N, E, i, rfl, hs, hl, q⟩
theorem rb_left {K : Fr0} {g : Int} {J : List Rw} {key : D} {v : Int} {kd : List D} {al asl aw : Addr} {o5 : Option D} {N E : Int} {up i : Nat} {m : M} {lf : List Int} (hl : m al = some (.lst (lf.map D.int))) (hi : i < lf.length) {DD : DEnds}
    (q : DD.nx (rbR K g J key v kd al asl aw o5 N up (some (.int i)) (some (.int E))) (mset m al (.lst ((lf.set i (lfA lf i - (E - N))).map D.int)))) :
    dAugX (dVar 6) (dVar 11) (dOp dSub (dVar 12) (dVar 9)) (fun i j => i - j) DD (rbR K g J key v kd al asl aw o5 N up (some (.int i)) (some (.int E))) m := by
  refine ⟨.ref al, rfl, .int i, rfl, al, lf.map D.int, i, lfA lf i, rfl, rfl, hl, by unfold lfA; rw [List.getElem?_map, List.getD_eq_getElem?_getD, List.getElem?_eq_getElem hi]; rfl, ?_⟩
  walk_at "zs"
  refine ⟨_, hl, by rw [List.length_map]; exact hi, ?_⟩
  rw [List.map_set] at q
  exact q
theorem rb_fin {K : Fr0} {g : Int} {J : List Rw} {key : D} {v : Int} {kd : List D} {al asl aw : Addr} {o5 : Option D} {N E : Int} {up i : Nat} {RB : List Int → List Sl → List Nat → M} (ra : ∀ a b c, RB a b c al = some (.lst (a.map D.int))) (rw_ : ∀ a b c, RB a b c aw = some (.lst (c.map fun (i : Nat) => D.int i)))
    (sw : ∀ a b c c', mset (RB a b c) aw (.lst (c'.map fun (i : Nat) => D.int i)) = RB a b c') {lf : List Int} {sl : List Sl} {wt : List Nat} (hi : i < lf.length) (hm : i ∈ wt) {DD : DEnds}
    (q : DD.nx (rbR K g J key v kd al asl aw o5 N up (some (.int i)) (some (.int E))) (RB lf sl (if lfA lf i = 0 then wt.erase i else wt))) :
    dIfS (dTest (dOp dEq (dOp dIx (dVar 6) (dVar 11)) (dC (.int 0)))) (dDrop (dRem (dVar 8) (dVar 11))) dNext DD (rbR K g J key v kd al asl aw o5 N up (some (.int i)) (some (.int E))) (RB lf sl wt) := by
  try simp only [dIfS, dTest, dOp, dVar, dC, dCB, daCons, daNil, dSet, dRet, dNext, dDrop, dAsg, dPar, dAug, dAddI, dBreak, dCont, dRetN, slot, dLen, dCmpI, dSub, dAdd, dMul, dDiv, dMod, dPow, dNeg, dUn, dIx, dInt1, dAbs, dChain, dAnd, dOr, dNot, dAndV, dOrV, dNotV, dTru, dTruB, dIf, dTup, dLst, mkL, dSlice, dSl, doNone, doSome, dSum, dAll, dAny, dList, dTuple, dMax, dMin, eq_ii, ne_ii, eq_ss, ne_ss, eq_bb, ne_bb, eq_nn, ne_nn, dIsN, dNotN, dFgt, dIsB, dNotB, gN, gT, gsNil, gsCons, gSet, dBM, dAppend, dClear, dFld, dFldS, dProp, dCall, dMeth, dMake, dMakeN, daStar, dDictP, dCallO, dFor, dLc, diR1, diR2, diR3, diL, diT, diRv, diS, diE, dFmt, dFStr, dJs, dCallN, dFrzE, frz_l, in_ss, notin_ss, drR1, drR2, dListR, dRaise, dRaise0, dTryAs, dTry, dXf, dAddO, dInO, isL, insOf, Option.some.injEq, List.cons.injEq, D.int.injEq, D.bl.injEq, D.str.injEq, D.lst.injEq, D.tup.injEq, D.ref.injEq, MO.lst.injEq, MO.ins.injEq, mset_mset, and_true, true_and, and_self, and_assoc, exists_eq_left', exists_eq_left, exists_and_left, exists_and_right, exists_eq', List.set_cons_zero, List.set_cons_succ, decide_eq_true_eq, sqOf, lsOf, List.length_cons, List.length_nil, sizeLine_eq, List.append_nil, List.cons_append, List.nil_append, if_true, if_false, Bool.false_eq_true, reduceCtorEq, reduceIte, Nat.reduceAdd, Nat.reduceLeDiff, mset_same, Option.bind_some, List.length_map, Prod.mk.injEq, at0, at1, at2, at3, at4, at5, at6, at7, ix30, ix31, ix32, ix20, ix21, ix10, isi_ii, isi_ib, isi_ll, isi_bb, isi_ss, isi_tt, isi_is, isi_si, Bool.not_true, Bool.not_false, dCopyK, dGet2K, dDctR, dDisp1, dFrzEK, ra, lf_at hi]
  by_cases h : lfA lf i = 0
  · rw [if_pos h] at q ⊢
    have e1 : ∀ l : List Nat, (l.map fun (i : Nat) => (i : Int)).map D.int = l.map fun (i : Nat) => D.int i := fun l => by rw [List.map_map]; rfl
    have e2 : (wt.map fun (i : Nat) => (i : Int)).erase (i : Int) = (wt.erase i).map fun (i : Nat) => (i : Int) := by
      clear q hm
      induction wt with
      | nil => rfl
      | cons x xs ih =>
        rw [List.map_cons, List.erase_cons, List.erase_cons]
        by_cases hx : x = i
        · subst hx; simp
        · have : ¬ ((x : Int) == (i : Int)) = true := by simp; omega
          rw [if_neg this, if_neg (by simpa using hx), List.map_cons, ih]
    refine ⟨.ref aw, rfl, ⟨aw, _, rfl, rw_ _ _ _⟩, .int i, rfl, aw, wt.map fun (i : Nat) => (i : Int), i, rfl, rfl, ?_, List.mem_map.mpr ⟨i, hm, rfl⟩, ?_⟩
    · rw [rw_, e1]
    · rw [e2, e1, sw]
      exact q
  · rw [if_neg h] at q ⊢
    exact q
theorem keysT_pure {fv : FV} {key : D} {f : Rw → D} : ∀ (J : List Rw), (∀ x ∈ J, ∀ (m : M) (Q : D → M → Prop), Q (f x) m → fv.sp key [x.D] m Q (fun _ _ => False)) → ∀ (m : M) (Q : List D → M → Prop), Q (J.map f) m → keysT fv key (J.map Rw.D) m Q
  | [], _, m, Q, q => q
  | x :: J, h, m, Q, q => h x List.mem_cons_self m _ (keysT_pure J (fun y hy => h y (List.mem_cons_of_mem _ hy)) m _ q)
theorem pure_run_by {K : Fr0} {mg : Str → Option Value} (T : Txt K mg) (fv : FV) (ds : List D) (m : M) (Q : D → M → Prop) (E : XD → M → Prop) (h : sp_run_by K fv ds m Q E) : t_run_by K fv (fun x _ m => E x m) { nx := fun _ m => Q .non m, rt := Q } (startD nm_run_by ds) m := by
  obtain ⟨g, J, key, v, rfl, hk, mo, ok, qe, q⟩ := h
  show t_run_by K fv _ _ [some (runD K g J), some key, some (.int v), none, none, none, none, none, none, none, none, none, none] m
  unfold t_run_by
  walk_at "zn"
  refine ⟨v, rfl, fun hv => ?_, fun hv => qe hv⟩
  replace q := q hv
  try simp only [dSeq]
  try simp only [dIfS, dTest, dOp, dVar, dC, dCB, daCons, daNil, dSet, dRet, dNext, dDrop, dAsg, dPar, dAug, dAddI, dBreak, dCont, dRetN, slot, dLen, dCmpI, dSub, dAdd, dMul, dDiv, dMod, dPow, dNeg, dUn, dIx, dInt1, dAbs, dChain, dAnd, dOr, dNot, dAndV, dOrV, dNotV, dTru, dTruB, dIf, dTup, dLst, mkL, dSlice, dSl, doNone, doSome, dSum, dAll, dAny, dList, dTuple, dMax, dMin, eq_ii, ne_ii, eq_ss, ne_ss, eq_bb, ne_bb, eq_nn, ne_nn, dIsN, dNotN, dFgt, dIsB, dNotB, gN, gT, gsNil, gsCons, gSet, dBM, dAppend, dClear, dFld, dFldS, dProp, dCall, dMeth, dMake, dMakeN, daStar, dDictP, dCallO, dFor, dLc, diR1, diR2, diR3, diL, diT, diRv, diS, diE, dFmt, dFStr, dJs, dCallN, dFrzE, frz_l, in_ss, notin_ss, drR1, drR2, dListR, dRaise, dRaise0, dTryAs, dTry, dXf, dAddO, dInO, isL, insOf, Option.some.injEq, List.cons.injEq, D.int.injEq, D.bl.injEq, D.str.injEq, D.lst.injEq, D.tup.injEq, D.ref.injEq, MO.lst.injEq, MO.ins.injEq, mset_mset, and_true, true_and, and_self, and_assoc, exists_eq_left', exists_eq_left, exists_and_left, exists_and_right, exists_eq', List.set_cons_zero, List.set_cons_succ, decide_eq_true_eq, sqOf, lsOf, List.length_cons, List.length_nil, sizeLine_eq, List.append_nil, List.cons_append, List.nil_append, if_true, if_false, Bool.false_eq_true, reduceCtorEq, reduceIte, Nat.reduceAdd, Nat.reduceLeDiff, mset_same, Option.bind_some, List.length_map, Prod.mk.injEq, at0, at1, at2, at3, at4, at5, at6, at7, ix30, ix31, ix32, ix20, ix21, ix10, isi_ii, isi_ib, isi_ll, isi_bb, isi_ss, isi_tt, isi_is, isi_si, Bool.not_true, Bool.not_false, dCopyK, dGet2K, dDctR, dDisp1, dFrzEK, T.cl_Run, T.n_Run_grain, T.n_Run_placed, runD, lk_grain, lk_placed]
  refine ⟨g, J, rfl, ?_⟩
  have jl := ok.len
  walk_at "zn"
  refine lc_keys mo hk _ _ _ _ (by rw [List.length_nil, List.length_map, sizeLine_eq]; omega) (keysT_mono mo _ _ _ _ (fun kd m1 kl q1 => ?_) q)
  rw [List.length_map] at kl
  obtain ⟨kp, kok, q2⟩ := q1
  rw [List.nil_append]
  walk_at "zn"
  refine lc_mapD (g := Rw.D) (f := fun x => D.int x.c) (by rw [sizeLine_eq]; omega) (fun x hx => ⟨_, rfl, fun Q' q' => ?_⟩) ?_
  · simp only [wipeD, Rw.D]
    walk_at "zs"
    exact q'
  walk_at "zn"
  intro al hal
  walk_at "zn"
  intro asl hasl
  have d1 : asl ≠ al := fun e => by rw [e, mset_same] at hasl; cases hasl
  rw [mset_ne d1] at hasl
  walk_at "zn"
  intro aw haw
  have d3 : aw ≠ asl := fun e => by rw [e, mset_same] at haw; cases haw
  rw [mset_ne d3] at haw
  have d2 : aw ≠ al := fun e => by rw [e, mset_same] at haw; cases haw
  rw [mset_ne d2] at haw
  obtain ⟨RB, r0, ra, rs, rw_, sa, ss, sw, sub⟩ := rb_ex hal hasl haw d1 d2 d3 (J.map fun x => D.int x.c)
  rw [r0 (J.map Rw.c) (by rw [List.map_map]; rfl)]
  clear r0
  have lo := klt_ok kp
  have hv1 := hv.1
  have hkl := toPs_len kok.ps
  obtain ⟨jD, hjD⟩ : ∃ jD, jD = D.lst (J.map Rw.D) := ⟨_, rfl⟩
  try simp only [dSeq]
  try simp only [dIfS, dTest, dOp, dVar, dC, dCB, daCons, daNil, dSet, dRet, dNext, dDrop, dAsg, dPar, dAug, dAddI, dBreak, dCont, dRetN, slot, dLen, dCmpI, dSub, dAdd, dMul, dDiv, dMod, dPow, dNeg, dUn, dIx, dInt1, dAbs, dChain, dAnd, dOr, dNot, dAndV, dOrV, dNotV, dTru, dTruB, dIf, dTup, dLst, mkL, dSlice, dSl, doNone, doSome, dSum, dAll, dAny, dList, dTuple, dMax, dMin, eq_ii, ne_ii, eq_ss, ne_ss, eq_bb, ne_bb, eq_nn, ne_nn, dIsN, dNotN, dFgt, dIsB, dNotB, gN, gT, gsNil, gsCons, gSet, dBM, dAppend, dClear, dFld, dFldS, dProp, dCall, dMeth, dMake, dMakeN, daStar, dDictP, dCallO, dFor, dLc, diR1, diR2, diR3, diL, diT, diRv, diS, diE, dFmt, dFStr, dJs, dCallN, dFrzE, frz_l, in_ss, notin_ss, drR1, drR2, dListR, dRaise, dRaise0, dTryAs, dTry, dXf, dAddO, dInO, isL, insOf, Option.some.injEq, List.cons.injEq, D.int.injEq, D.bl.injEq, D.str.injEq, D.lst.injEq, D.tup.injEq, D.ref.injEq, MO.lst.injEq, MO.ins.injEq, mset_mset, and_true, true_and, and_self, and_assoc, exists_eq_left', exists_eq_left, exists_and_left, exists_and_right, exists_eq', List.set_cons_zero, List.set_cons_succ, decide_eq_true_eq, sqOf, lsOf, List.length_cons, List.length_nil, sizeLine_eq, List.append_nil, List.cons_append, List.nil_append, if_true, if_false, Bool.false_eq_true, reduceCtorEq, reduceIte, Nat.reduceAdd, Nat.reduceLeDiff, mset_same, Option.bind_some, List.length_map, Prod.mk.injEq, at0, at1, at2, at3, at4, at5, at6, at7, ix30, ix31, ix32, ix20, ix21, ix10, isi_ii, isi_ib, isi_ll, isi_bb, isi_ss, isi_tt, isi_is, isi_si, Bool.not_true, Bool.not_false, dCopyK, dGet2K, dDctR, dDisp1, dFrzEK, dSet2]
  refine ⟨fun n r m' => ∃ (s : SS) (o5 o11 o12 : Option D), SchI J (klt kp) v s ∧ n = muS J v s ∧ (∀ F, n ≤ F → (goS J (klt kp) v F s).sl = sched J (klt kp) v) ∧ s.sl.length + n ≤ 2 * J.length + 1 ∧ m' = RB s.lf s.sl s.wt ∧ r = rbR K g J key v kd al asl aw o5 s.now s.up o11 o12, ⟨_, s0S J, _, _, _, sinv0 ok hv1, rfl, fun F hF => ?_, ?_, rfl, rfl⟩, ?_⟩
  · obtain ⟨d, rfl⟩ : ∃ d, F = muS J v (s0S J) + d := ⟨F - muS J v (s0S J), by omega⟩
    rw [go_enough ok lo hv1 (sinv0 ok hv1)]
    obtain ⟨d2, e2⟩ : ∃ d2, 2 * J.length + 1 = muS J v (s0S J) + d2 := ⟨2 * J.length + 1 - muS J v (s0S J), by have := mu0 J v; omega⟩
    unfold sched
    rw [e2, go_enough ok lo hv1 (sinv0 ok hv1)]
  · have := mu0 J v
    show 0 + _ ≤ _
    omega
  rintro n r m' ⟨s, o5, o11, o12, I, rfl, hF, hsl, rfl, rfl⟩
  refine rb_cond (rw_ _ _ _) ?_
  by_cases go : s.wt = [] ∧ ¬ s.up < J.length
  · rw [decide_eq_true go]
    show (if false = true then _ else _)
    rw [if_neg (by decide)]
    have e := hF _ (Nat.le_refl _)
    rw [go_stop go] at e
    refine ⟨.ref asl, rfl, ?_⟩
    unfold frzV
    dsimp only
    rw [rs]
    exact ⟨m1, sub _ _ _, by rw [e]; exact q2⟩
  rw [decide_eq_false go]
  show (if true = true then _ else _)
  rw [if_pos rfl]
  have S := stf ok lo hv1 I go
  have mu := mu_step ok lo hv1 I go
  have wl := S.wl
  have up := S.up
  have ul := I.up
  have wtl : s.wt.length ≤ 2001 := by unfold muS at hsl; omega
  have ixl := S.ixl
  have lfl := I.lfl
  have il : ixS J (klt kp) v s < s.lf.length := by omega
  simp only [dSeq]
  refine rb_now ok hv (rw_ _ _ _) go ?_
  try simp only [dSeq]
  refine rb_adm ok hv rw_ sw (by omega) ?_
  try simp only [dSeq]
  refine rb_min kok kl (wt := wtS J v s) (fun h => ?_) (fun i hi => ?_) (rw_ _ _ _) ?_
  · have := S.mem
    rw [h] at this
    cases this
  · rcases (S.wt i).mp hi with h | h
    · have := I.wtu i h; omega
    · omega
  try simp only [dSeq]
  refine rb_end1 (ra _ _ _) il ?_
  try simp only [dSeq]
  refine rb_end2 ok hv ?_
  try simp only [dSeq]
  refine rb_add (rs _ _ _) (by omega) ?_
  rw [ss]
  try simp only [dSeq]
  refine rb_left (ra _ _ _) il ?_
  rw [sa]
  try simp only [dSeq]
  refine rb_fin ra rw_ sw (by rw [List.length_set]; exact il) S.mem ?_
  rw [lfA_set il, if_pos rfl]
  refine ⟨_, rfl, ?_⟩
  refine ⟨_, mu, stepS J (klt kp) v s, _, _, _, sch_step ok lo hv1 I go, rfl, fun F hF2 => ?_, ?_, rfl, rfl⟩
  · have I2 := sch_step ok lo hv1 I go
    obtain ⟨d, rfl⟩ : ∃ d, F = muS J v (stepS J (klt kp) v s) + d := ⟨F - muS J v (stepS J (klt kp) v s), by omega⟩
    obtain ⟨d2, e2⟩ : ∃ d2, muS J v s = muS J v (stepS J (klt kp) v s) + d2 + 1 := ⟨muS J v s - 1 - muS J v (stepS J (klt kp) v s), by omega⟩
    have e3 := hF _ (Nat.le_refl _)
    rw [e2] at e3
    have e4 : goS J (klt kp) v (muS J v (stepS J (klt kp) v s) + d2 + 1) s = goS J (klt kp) v (muS J v (stepS J (klt kp) v s) + d2) (stepS J (klt kp) v s) := by
      show (if _ then _ else _ : SS) = _
      rw [if_neg go]
    rw [e4, go_enough ok lo hv1 I2] at e3
    rw [go_enough ok lo hv1 I2]
    exact e3
  · have := addSl_len s.sl (nowS J v s) (endS J (klt kp) v s) (ixS J (klt kp) v s)
    show (addSl _ _ _ _).length + _ ≤ _
    omega
theorem rank_ok (rs : List Int) (w : Int) (J : List Rw) : KOk (J.map (rankD rs w)) (J.map (rankP rs w)) := by
  have one : ∀ x, toP (rankD rs w x) = some (rankP rs w x) := fun x => by
    unfold rankD rankP
    split <;> (try split) <;> (try split) <;> (try split) <;> (try split) <;> rfl
  refine ⟨?_, fun x hx y hy => ?_, fun x hx => ?_⟩
  · induction J with
    | nil => rfl
    | cons x xs ih => rw [List.map_cons, List.map_cons, toPs, one, ih]; rfl
  · obtain ⟨a, _, rfl⟩ := List.mem_map.mp hx
    obtain ⟨b, _, rfl⟩ := List.mem_map.mp hy
    unfold rankP
    split <;> (try split) <;> (try split) <;> (try split) <;> (try split) <;> rfl
  · obtain ⟨a, _, rfl⟩ := List.mem_map.mp hx
    unfold rankP
    split <;> (try split) <;> (try split) <;> (try split) <;> (try split) <;> (simp [PyData.depth, PyData.depthAll])
theorem pure_law_rank {K : Fr0} {mg : Str → Option Value} (T : Txt K mg) (ds : List D) (m : M) (Q : D → M → Prop) (E : XD → M → Prop) (h : sp_law_rank K ds m Q E) : t_law_rank K (fun x _ m => E x m) { nx := fun _ m => Q .non m, rt := Q } (startD nm_law_rank ds) m := by
  obtain ⟨x, w, rs, rfl, hi, q⟩ := h
  show t_law_rank K _ _ [some x.D, some (.int w), some (il rs)] m
  unfold t_law_rank
  unfold rankD at q
  have e3 : atI (rs.map D.int) (x.i : Int) = some (.int (rs.getD x.i 0)) := by
    have := atI_ints (cs := rs) (i := (x.i : Int)) (by omega) (by omega)
    rw [this, Int.toNat_natCast]
  try simp only [dSeq]
  try simp only [dIfS, dTest, dOp, dVar, dC, dCB, daCons, daNil, dSet, dRet, dNext, dDrop, dAsg, dPar, dAug, dAddI, dBreak, dCont, dRetN, slot, dLen, dCmpI, dSub, dAdd, dMul, dDiv, dMod, dPow, dNeg, dUn, dIx, dInt1, dAbs, dChain, dAnd, dOr, dNot, dAndV, dOrV, dNotV, dTru, dTruB, dIf, dTup, dLst, mkL, dSlice, dSl, doNone, doSome, dSum, dAll, dAny, dList, dTuple, dMax, dMin, eq_ii, ne_ii, eq_ss, ne_ss, eq_bb, ne_bb, eq_nn, ne_nn, dIsN, dNotN, dFgt, dIsB, dNotB, gN, gT, gsNil, gsCons, gSet, dBM, dAppend, dClear, dFld, dFldS, dProp, dCall, dMeth, dMake, dMakeN, daStar, dDictP, dCallO, dFor, dLc, diR1, diR2, diR3, diL, diT, diRv, diS, diE, dFmt, dFStr, dJs, dCallN, dFrzE, frz_l, in_ss, notin_ss, drR1, drR2, dListR, dRaise, dRaise0, dTryAs, dTry, dXf, dAddO, dInO, isL, insOf, Option.some.injEq, List.cons.injEq, D.int.injEq, D.bl.injEq, D.str.injEq, D.lst.injEq, D.tup.injEq, D.ref.injEq, MO.lst.injEq, MO.ins.injEq, mset_mset, and_true, true_and, and_self, and_assoc, exists_eq_left', exists_eq_left, exists_and_left, exists_and_right, exists_eq', List.set_cons_zero, List.set_cons_succ, decide_eq_true_eq, sqOf, lsOf, List.length_cons, List.length_nil, sizeLine_eq, List.append_nil, List.cons_append, List.nil_append, if_true, if_false, Bool.false_eq_true, reduceCtorEq, reduceIte, Nat.reduceAdd, Nat.reduceLeDiff, mset_same, Option.bind_some, List.length_map, Prod.mk.injEq, at0, at1, at2, at3, at4, at5, at6, at7, ix30, ix31, ix32, ix20, ix21, ix10, isi_ii, isi_ib, isi_ll, isi_bb, isi_ss, isi_tt, isi_is, isi_si, Bool.not_true, Bool.not_false, dCopyK, dGet2K, dDctR, dDisp1, dFrzEK, Rw.D, e3]
  by_cases h0 : w = 0
  · rw [if_pos h0] at q ⊢; exact q
  rw [if_neg h0] at q ⊢
  try simp only [dSeq]
  try simp only [dIfS, dTest, dOp, dVar, dC, dCB, daCons, daNil, dSet, dRet, dNext, dDrop, dAsg, dPar, dAug, dAddI, dBreak, dCont, dRetN, slot, dLen, dCmpI, dSub, dAdd, dMul, dDiv, dMod, dPow, dNeg, dUn, dIx, dInt1, dAbs, dChain, dAnd, dOr, dNot, dAndV, dOrV, dNotV, dTru, dTruB, dIf, dTup, dLst, mkL, dSlice, dSl, doNone, doSome, dSum, dAll, dAny, dList, dTuple, dMax, dMin, eq_ii, ne_ii, eq_ss, ne_ss, eq_bb, ne_bb, eq_nn, ne_nn, dIsN, dNotN, dFgt, dIsB, dNotB, gN, gT, gsNil, gsCons, gSet, dBM, dAppend, dClear, dFld, dFldS, dProp, dCall, dMeth, dMake, dMakeN, daStar, dDictP, dCallO, dFor, dLc, diR1, diR2, diR3, diL, diT, diRv, diS, diE, dFmt, dFStr, dJs, dCallN, dFrzE, frz_l, in_ss, notin_ss, drR1, drR2, dListR, dRaise, dRaise0, dTryAs, dTry, dXf, dAddO, dInO, isL, insOf, Option.some.injEq, List.cons.injEq, D.int.injEq, D.bl.injEq, D.str.injEq, D.lst.injEq, D.tup.injEq, D.ref.injEq, MO.lst.injEq, MO.ins.injEq, mset_mset, and_true, true_and, and_self, and_assoc, exists_eq_left', exists_eq_left, exists_and_left, exists_and_right, exists_eq', List.set_cons_zero, List.set_cons_succ, decide_eq_true_eq, sqOf, lsOf, List.length_cons, List.length_nil, sizeLine_eq, List.append_nil, List.cons_append, List.nil_append, if_true, if_false, Bool.false_eq_true, reduceCtorEq, reduceIte, Nat.reduceAdd, Nat.reduceLeDiff, mset_same, Option.bind_some, List.length_map, Prod.mk.injEq, at0, at1, at2, at3, at4, at5, at6, at7, ix30, ix31, ix32, ix20, ix21, ix10, isi_ii, isi_ib, isi_ll, isi_bb, isi_ss, isi_tt, isi_is, isi_si, Bool.not_true, Bool.not_false, dCopyK, dGet2K, dDctR, dDisp1, dFrzEK, Rw.D, e3]
  by_cases h1 : w = 1
  · rw [if_pos h1] at q ⊢; exact q
  rw [if_neg h1] at q ⊢
  try simp only [dSeq]
  try simp only [dIfS, dTest, dOp, dVar, dC, dCB, daCons, daNil, dSet, dRet, dNext, dDrop, dAsg, dPar, dAug, dAddI, dBreak, dCont, dRetN, slot, dLen, dCmpI, dSub, dAdd, dMul, dDiv, dMod, dPow, dNeg, dUn, dIx, dInt1, dAbs, dChain, dAnd, dOr, dNot, dAndV, dOrV, dNotV, dTru, dTruB, dIf, dTup, dLst, mkL, dSlice, dSl, doNone, doSome, dSum, dAll, dAny, dList, dTuple, dMax, dMin, eq_ii, ne_ii, eq_ss, ne_ss, eq_bb, ne_bb, eq_nn, ne_nn, dIsN, dNotN, dFgt, dIsB, dNotB, gN, gT, gsNil, gsCons, gSet, dBM, dAppend, dClear, dFld, dFldS, dProp, dCall, dMeth, dMake, dMakeN, daStar, dDictP, dCallO, dFor, dLc, diR1, diR2, diR3, diL, diT, diRv, diS, diE, dFmt, dFStr, dJs, dCallN, dFrzE, frz_l, in_ss, notin_ss, drR1, drR2, dListR, dRaise, dRaise0, dTryAs, dTry, dXf, dAddO, dInO, isL, insOf, Option.some.injEq, List.cons.injEq, D.int.injEq, D.bl.injEq, D.str.injEq, D.lst.injEq, D.tup.injEq, D.ref.injEq, MO.lst.injEq, MO.ins.injEq, mset_mset, and_true, true_and, and_self, and_assoc, exists_eq_left', exists_eq_left, exists_and_left, exists_and_right, exists_eq', List.set_cons_zero, List.set_cons_succ, decide_eq_true_eq, sqOf, lsOf, List.length_cons, List.length_nil, sizeLine_eq, List.append_nil, List.cons_append, List.nil_append, if_true, if_false, Bool.false_eq_true, reduceCtorEq, reduceIte, Nat.reduceAdd, Nat.reduceLeDiff, mset_same, Option.bind_some, List.length_map, Prod.mk.injEq, at0, at1, at2, at3, at4, at5, at6, at7, ix30, ix31, ix32, ix20, ix21, ix10, isi_ii, isi_ib, isi_ll, isi_bb, isi_ss, isi_tt, isi_is, isi_si, Bool.not_true, Bool.not_false, dCopyK, dGet2K, dDctR, dDisp1, dFrzEK, Rw.D, e3]
  by_cases h2 : w = 2
  · rw [if_pos h2] at q ⊢; exact q
  rw [if_neg h2] at q ⊢
  try simp only [dSeq]
  try simp only [dIfS, dTest, dOp, dVar, dC, dCB, daCons, daNil, dSet, dRet, dNext, dDrop, dAsg, dPar, dAug, dAddI, dBreak, dCont, dRetN, slot, dLen, dCmpI, dSub, dAdd, dMul, dDiv, dMod, dPow, dNeg, dUn, dIx, dInt1, dAbs, dChain, dAnd, dOr, dNot, dAndV, dOrV, dNotV, dTru, dTruB, dIf, dTup, dLst, mkL, dSlice, dSl, doNone, doSome, dSum, dAll, dAny, dList, dTuple, dMax, dMin, eq_ii, ne_ii, eq_ss, ne_ss, eq_bb, ne_bb, eq_nn, ne_nn, dIsN, dNotN, dFgt, dIsB, dNotB, gN, gT, gsNil, gsCons, gSet, dBM, dAppend, dClear, dFld, dFldS, dProp, dCall, dMeth, dMake, dMakeN, daStar, dDictP, dCallO, dFor, dLc, diR1, diR2, diR3, diL, diT, diRv, diS, diE, dFmt, dFStr, dJs, dCallN, dFrzE, frz_l, in_ss, notin_ss, drR1, drR2, dListR, dRaise, dRaise0, dTryAs, dTry, dXf, dAddO, dInO, isL, insOf, Option.some.injEq, List.cons.injEq, D.int.injEq, D.bl.injEq, D.str.injEq, D.lst.injEq, D.tup.injEq, D.ref.injEq, MO.lst.injEq, MO.ins.injEq, mset_mset, and_true, true_and, and_self, and_assoc, exists_eq_left', exists_eq_left, exists_and_left, exists_and_right, exists_eq', List.set_cons_zero, List.set_cons_succ, decide_eq_true_eq, sqOf, lsOf, List.length_cons, List.length_nil, sizeLine_eq, List.append_nil, List.cons_append, List.nil_append, if_true, if_false, Bool.false_eq_true, reduceCtorEq, reduceIte, Nat.reduceAdd, Nat.reduceLeDiff, mset_same, Option.bind_some, List.length_map, Prod.mk.injEq, at0, at1, at2, at3, at4, at5, at6, at7, ix30, ix31, ix32, ix20, ix21, ix10, isi_ii, isi_ib, isi_ll, isi_bb, isi_ss, isi_tt, isi_is, isi_si, Bool.not_true, Bool.not_false, dCopyK, dGet2K, dDctR, dDisp1, dFrzEK, Rw.D, e3]
  by_cases h3 : w = 3
  · rw [if_pos h3] at q ⊢; exact q
  rw [if_neg h3] at q ⊢
  try simp only [dSeq]
  try simp only [dIfS, dTest, dOp, dVar, dC, dCB, daCons, daNil, dSet, dRet, dNext, dDrop, dAsg, dPar, dAug, dAddI, dBreak, dCont, dRetN, slot, dLen, dCmpI, dSub, dAdd, dMul, dDiv, dMod, dPow, dNeg, dUn, dIx, dInt1, dAbs, dChain, dAnd, dOr, dNot, dAndV, dOrV, dNotV, dTru, dTruB, dIf, dTup, dLst, mkL, dSlice, dSl, doNone, doSome, dSum, dAll, dAny, dList, dTuple, dMax, dMin, eq_ii, ne_ii, eq_ss, ne_ss, eq_bb, ne_bb, eq_nn, ne_nn, dIsN, dNotN, dFgt, dIsB, dNotB, gN, gT, gsNil, gsCons, gSet, dBM, dAppend, dClear, dFld, dFldS, dProp, dCall, dMeth, dMake, dMakeN, daStar, dDictP, dCallO, dFor, dLc, diR1, diR2, diR3, diL, diT, diRv, diS, diE, dFmt, dFStr, dJs, dCallN, dFrzE, frz_l, in_ss, notin_ss, drR1, drR2, dListR, dRaise, dRaise0, dTryAs, dTry, dXf, dAddO, dInO, isL, insOf, Option.some.injEq, List.cons.injEq, D.int.injEq, D.bl.injEq, D.str.injEq, D.lst.injEq, D.tup.injEq, D.ref.injEq, MO.lst.injEq, MO.ins.injEq, mset_mset, and_true, true_and, and_self, and_assoc, exists_eq_left', exists_eq_left, exists_and_left, exists_and_right, exists_eq', List.set_cons_zero, List.set_cons_succ, decide_eq_true_eq, sqOf, lsOf, List.length_cons, List.length_nil, sizeLine_eq, List.append_nil, List.cons_append, List.nil_append, if_true, if_false, Bool.false_eq_true, reduceCtorEq, reduceIte, Nat.reduceAdd, Nat.reduceLeDiff, mset_same, Option.bind_some, List.length_map, Prod.mk.injEq, at0, at1, at2, at3, at4, at5, at6, at7, ix30, ix31, ix32, ix20, ix21, ix10, isi_ii, isi_ib, isi_ll, isi_bb, isi_ss, isi_tt, isi_is, isi_si, Bool.not_true, Bool.not_false, dCopyK, dGet2K, dDctR, dDisp1, dFrzEK, Rw.D, e3]
  by_cases h4 : w = 4
  · rw [if_pos h4] at q ⊢; exact q
  rw [if_neg h4] at q ⊢
  try simp only [dSeq]
  try simp only [dIfS, dTest, dOp, dVar, dC, dCB, daCons, daNil, dSet, dRet, dNext, dDrop, dAsg, dPar, dAug, dAddI, dBreak, dCont, dRetN, slot, dLen, dCmpI, dSub, dAdd, dMul, dDiv, dMod, dPow, dNeg, dUn, dIx, dInt1, dAbs, dChain, dAnd, dOr, dNot, dAndV, dOrV, dNotV, dTru, dTruB, dIf, dTup, dLst, mkL, dSlice, dSl, doNone, doSome, dSum, dAll, dAny, dList, dTuple, dMax, dMin, eq_ii, ne_ii, eq_ss, ne_ss, eq_bb, ne_bb, eq_nn, ne_nn, dIsN, dNotN, dFgt, dIsB, dNotB, gN, gT, gsNil, gsCons, gSet, dBM, dAppend, dClear, dFld, dFldS, dProp, dCall, dMeth, dMake, dMakeN, daStar, dDictP, dCallO, dFor, dLc, diR1, diR2, diR3, diL, diT, diRv, diS, diE, dFmt, dFStr, dJs, dCallN, dFrzE, frz_l, in_ss, notin_ss, drR1, drR2, dListR, dRaise, dRaise0, dTryAs, dTry, dXf, dAddO, dInO, isL, insOf, Option.some.injEq, List.cons.injEq, D.int.injEq, D.bl.injEq, D.str.injEq, D.lst.injEq, D.tup.injEq, D.ref.injEq, MO.lst.injEq, MO.ins.injEq, mset_mset, and_true, true_and, and_self, and_assoc, exists_eq_left', exists_eq_left, exists_and_left, exists_and_right, exists_eq', List.set_cons_zero, List.set_cons_succ, decide_eq_true_eq, sqOf, lsOf, List.length_cons, List.length_nil, sizeLine_eq, List.append_nil, List.cons_append, List.nil_append, if_true, if_false, Bool.false_eq_true, reduceCtorEq, reduceIte, Nat.reduceAdd, Nat.reduceLeDiff, mset_same, Option.bind_some, List.length_map, Prod.mk.injEq, at0, at1, at2, at3, at4, at5, at6, at7, ix30, ix31, ix32, ix20, ix21, ix10, isi_ii, isi_ib, isi_ll, isi_bb, isi_ss, isi_tt, isi_is, isi_si, Bool.not_true, Bool.not_false, dCopyK, dGet2K, dDctR, dDisp1, dFrzEK, Rw.D, e3]
  exact q
theorem due_ok (J : List Rw) : KOk (J.map fun x => D.int x.d) (dueP J) := by
  refine ⟨?_, fun x hx y hy => ?_, fun x hx => ?_⟩
  · unfold dueP
    induction J with
    | nil => rfl
    | cons x xs ih => rw [List.map_cons, List.map_cons, toPs, ih]; rfl
  · obtain ⟨a, _, rfl⟩ := List.mem_map.mp hx
    obtain ⟨b, _, rfl⟩ := List.mem_map.mp hy
    rfl
  · obtain ⟨a, _, rfl⟩ := List.mem_map.mp hx
    simp [PyData.depth]
theorem pure_due_of {K : Fr0} {mg : Str → Option Value} (T : Txt K mg) (ds : List D) (m : M) (Q : D → M → Prop) (E : XD → M → Prop) (h : sp_due_of K ds m Q E) : t_due_of K (fun x _ m => E x m) { nx := fun _ m => Q .non m, rt := Q } (startD nm_due_of ds) m := by
  obtain ⟨x, rfl, q⟩ := h
  show t_due_of K _ _ [some x.D] m
  unfold t_due_of
  try simp only [dIfS, dTest, dOp, dVar, dC, dCB, daCons, daNil, dSet, dRet, dNext, dDrop, dAsg, dPar, dAug, dAddI, dBreak, dCont, dRetN, slot, dLen, dCmpI, dSub, dAdd, dMul, dDiv, dMod, dPow, dNeg, dUn, dIx, dInt1, dAbs, dChain, dAnd, dOr, dNot, dAndV, dOrV, dNotV, dTru, dTruB, dIf, dTup, dLst, mkL, dSlice, dSl, doNone, doSome, dSum, dAll, dAny, dList, dTuple, dMax, dMin, eq_ii, ne_ii, eq_ss, ne_ss, eq_bb, ne_bb, eq_nn, ne_nn, dIsN, dNotN, dFgt, dIsB, dNotB, gN, gT, gsNil, gsCons, gSet, dBM, dAppend, dClear, dFld, dFldS, dProp, dCall, dMeth, dMake, dMakeN, daStar, dDictP, dCallO, dFor, dLc, diR1, diR2, diR3, diL, diT, diRv, diS, diE, dFmt, dFStr, dJs, dCallN, dFrzE, frz_l, in_ss, notin_ss, drR1, drR2, dListR, dRaise, dRaise0, dTryAs, dTry, dXf, dAddO, dInO, isL, insOf, Option.some.injEq, List.cons.injEq, D.int.injEq, D.bl.injEq, D.str.injEq, D.lst.injEq, D.tup.injEq, D.ref.injEq, MO.lst.injEq, MO.ins.injEq, mset_mset, and_true, true_and, and_self, and_assoc, exists_eq_left', exists_eq_left, exists_and_left, exists_and_right, exists_eq', List.set_cons_zero, List.set_cons_succ, decide_eq_true_eq, sqOf, lsOf, List.length_cons, List.length_nil, sizeLine_eq, List.append_nil, List.cons_append, List.nil_append, if_true, if_false, Bool.false_eq_true, reduceCtorEq, reduceIte, Nat.reduceAdd, Nat.reduceLeDiff, mset_same, Option.bind_some, List.length_map, Prod.mk.injEq, at0, at1, at2, at3, at4, at5, at6, at7, ix30, ix31, ix32, ix20, ix21, ix10, isi_ii, isi_ib, isi_ll, isi_bb, isi_ss, isi_tt, isi_is, isi_si, Bool.not_true, Bool.not_false, dCopyK, dGet2K, dDctR, dDisp1, dFrzEK, Rw.D]
  exact q
theorem pure_earliest_deadline {K : Fr0} {mg : Str → Option Value} (T : Txt K mg) (ds : List D) (m : M) (Q : D → M → Prop) (E : XD → M → Prop) (h : sp_earliest_deadline K ds m Q E) : t_earliest_deadline K (fun x _ m => E x m) { nx := fun _ m => Q .non m, rt := Q } (startD nm_earliest_deadline ds) m := by
  obtain ⟨g, J, v, rfl, jok, qe, q⟩ := h
  show t_earliest_deadline K _ _ [some (runD K g J), some (.int v)] m
  unfold t_earliest_deadline
  walk_at "zs"
  refine ⟨g, J, .ref (ga K "due_of"), v, rfl, rfl, fun ds m Q Q' hq hsp => ?_, jok, qe, fun hv => ?_⟩
  · obtain ⟨x, e, h⟩ := hsp
    exact ⟨x, e, hq _ _ h⟩
  · refine keysT_pure (f := fun x => D.int x.d) J (fun x hx m Q hq => ?_) _ _ ?_
    · exact ⟨x, rfl, hq⟩
    · exact ⟨dueP J, due_ok J, q hv⟩
theorem pure_law_same {K : Fr0} {mg : Str → Option Value} (T : Txt K mg) (ds : List D) (m : M) (Q : D → M → Prop) (E : XD → M → Prop) (h : sp_law_same K ds m Q E) : t_law_same K (fun x _ m => E x m) { nx := fun _ m => Q .non m, rt := Q } (startD nm_law_same ds) m := by
  obtain ⟨ss, rfl, sl, q⟩ := h
  show t_law_same K _ _ [some (slsD ss), some (slsD ss), none, none] m
  unfold t_law_same
  walk_at "zn"
  refine dNe_refl (n := 2) (by omega) ?_ ⟨false, rfl, ?_⟩
  · show ((ss.map Sl.D).all (clR 1)) = true
    simp [Sl.D, clR]
  rw [if_neg (by simp)]
  walk_at "zn"
  obtain ⟨P1, hP1⟩ : ∃ P : Nat → DSt → M → Prop, ∀ j rr m', P j rr m' ↔ (∃ o2 o3, m = m' ∧ rr = [some (slsD ss), some (slsD ss), o2, o3]) := ⟨_, fun _ _ _ => Iff.rfl⟩
  refine ⟨P1, (hP1 0 _ _).mpr ⟨_, _, rfl, rfl⟩, ?_, ?_⟩
  · intro j d rr m' hd hp1
    obtain ⟨o2, o3, rfl, rfl⟩ := (hP1 _ _ _).mp hp1
    obtain ⟨x, hx, rfl⟩ := map_at hd
    try simp only [dSeq]
    try simp only [dIfS, dTest, dOp, dVar, dC, dCB, daCons, daNil, dSet, dRet, dNext, dDrop, dAsg, dPar, dAug, dAddI, dBreak, dCont, dRetN, slot, dLen, dCmpI, dSub, dAdd, dMul, dDiv, dMod, dPow, dNeg, dUn, dIx, dInt1, dAbs, dChain, dAnd, dOr, dNot, dAndV, dOrV, dNotV, dTru, dTruB, dIf, dTup, dLst, mkL, dSlice, dSl, doNone, doSome, dSum, dAll, dAny, dList, dTuple, dMax, dMin, eq_ii, ne_ii, eq_ss, ne_ss, eq_bb, ne_bb, eq_nn, ne_nn, dIsN, dNotN, dFgt, dIsB, dNotB, gN, gT, gsNil, gsCons, gSet, dBM, dAppend, dClear, dFld, dFldS, dProp, dCall, dMeth, dMake, dMakeN, daStar, dDictP, dCallO, dFor, dLc, diR1, diR2, diR3, diL, diT, diRv, diS, diE, dFmt, dFStr, dJs, dCallN, dFrzE, frz_l, in_ss, notin_ss, drR1, drR2, dListR, dRaise, dRaise0, dTryAs, dTry, dXf, dAddO, dInO, isL, insOf, Option.some.injEq, List.cons.injEq, D.int.injEq, D.bl.injEq, D.str.injEq, D.lst.injEq, D.tup.injEq, D.ref.injEq, MO.lst.injEq, MO.ins.injEq, mset_mset, and_true, true_and, and_self, and_assoc, exists_eq_left', exists_eq_left, exists_and_left, exists_and_right, exists_eq', List.set_cons_zero, List.set_cons_succ, decide_eq_true_eq, sqOf, lsOf, List.length_cons, List.length_nil, sizeLine_eq, List.append_nil, List.cons_append, List.nil_append, if_true, if_false, Bool.false_eq_true, reduceCtorEq, reduceIte, Nat.reduceAdd, Nat.reduceLeDiff, mset_same, Option.bind_some, List.length_map, Prod.mk.injEq, at0, at1, at2, at3, at4, at5, at6, at7, ix30, ix31, ix32, ix20, ix21, ix10, isi_ii, isi_ib, isi_ll, isi_bb, isi_ss, isi_tt, isi_is, isi_si, Bool.not_true, Bool.not_false, dCopyK, dGet2K, dDctR, dDisp1, dFrzEK, Sl.D]
    obtain ⟨P2, hP2⟩ : ∃ P : Nat → DSt → M → Prop, ∀ i rr m', P i rr m' ↔ (∃ o3, m = m' ∧ rr = [some (slsD ss), some (slsD ss), some (.tup [.int x.s, .int x.e, .int x.i]), o3]) := ⟨_, fun _ _ _ => Iff.rfl⟩
    refine ⟨P2, (hP2 0 _ _).mpr ⟨_, rfl, rfl⟩, ?_, ?_⟩
    · intro i d rr m' hd hp2
      obtain ⟨o3, rfl, rfl⟩ := (hP2 _ _ _).mp hp2
      obtain ⟨v, rfl⟩ : ∃ v, d = .int v := by
        have hi := len_at hd
        have hi : i < 3 := hi
        have hc : i = 0 ∨ i = 1 ∨ i = 2 := by omega
        rcases hc with rfl | rfl | rfl
        all_goals cases hd
        all_goals exact ⟨_, rfl⟩
      walk_at "zs"
      exact (hP2 _ _ _).mpr ⟨_, rfl, rfl⟩
    · intro rr m' hp2
      obtain ⟨o3, rfl, rfl⟩ := (hP2 _ _ _).mp hp2
      exact (hP1 _ _ _).mpr ⟨_, _, rfl, rfl⟩
  · intro rr m' hp1
    obtain ⟨o2, o3, rfl, rfl⟩ := (hP1 _ _ _).mp hp1
    walk_at "zs"
    exact q
theorem pure_law_bad_speed {K : Fr0} {mg : Str → Option Value} (T : Txt K mg) (ds : List D) (m : M) (Q : D → M → Prop) (E : XD → M → Prop) (h : sp_law_bad_speed K ds m Q E) : t_law_bad_speed K (fun x _ m => E x m) { nx := fun _ m => Q .non m, rt := Q } (startD nm_law_bad_speed ds) m := by
  obtain ⟨g, J, v, w, b, xs, rfl, jok, hv, hb, hl, q⟩ := h
  show t_law_bad_speed K _ _ [some (runD K g J), some (.int v), some (.ref b), some (.int w), none, none, none] m
  unfold t_law_bad_speed
  try simp only [dSeq]
  try simp only [dIfS, dTest, dOp, dVar, dC, dCB, daCons, daNil, dSet, dRet, dNext, dDrop, dAsg, dPar, dAug, dAddI, dBreak, dCont, dRetN, slot, dLen, dCmpI, dSub, dAdd, dMul, dDiv, dMod, dPow, dNeg, dUn, dIx, dInt1, dAbs, dChain, dAnd, dOr, dNot, dAndV, dOrV, dNotV, dTru, dTruB, dIf, dTup, dLst, mkL, dSlice, dSl, doNone, doSome, dSum, dAll, dAny, dList, dTuple, dMax, dMin, eq_ii, ne_ii, eq_ss, ne_ss, eq_bb, ne_bb, eq_nn, ne_nn, dIsN, dNotN, dFgt, dIsB, dNotB, gN, gT, gsNil, gsCons, gSet, dBM, dAppend, dClear, dFld, dFldS, dProp, dCall, dMeth, dMake, dMakeN, daStar, dDictP, dCallO, dFor, dLc, diR1, diR2, diR3, diL, diT, diRv, diS, diE, dFmt, dFStr, dJs, dCallN, dFrzE, frz_l, in_ss, notin_ss, drR1, drR2, dListR, dRaise, dRaise0, dTryAs, dTry, dXf, dAddO, dInO, isL, insOf, Option.some.injEq, List.cons.injEq, D.int.injEq, D.bl.injEq, D.str.injEq, D.lst.injEq, D.tup.injEq, D.ref.injEq, MO.lst.injEq, MO.ins.injEq, mset_mset, and_true, true_and, and_self, and_assoc, exists_eq_left', exists_eq_left, exists_and_left, exists_and_right, exists_eq', List.set_cons_zero, List.set_cons_succ, decide_eq_true_eq, sqOf, lsOf, List.length_cons, List.length_nil, sizeLine_eq, List.append_nil, List.cons_append, List.nil_append, if_true, if_false, Bool.false_eq_true, reduceCtorEq, reduceIte, Nat.reduceAdd, Nat.reduceLeDiff, mset_same, Option.bind_some, List.length_map, Prod.mk.injEq, at0, at1, at2, at3, at4, at5, at6, at7, ix30, ix31, ix32, ix20, ix21, ix10, isi_ii, isi_ib, isi_ll, isi_bb, isi_ss, isi_tt, isi_is, isi_si, Bool.not_true, Bool.not_false, dCopyK, dGet2K, dDctR, dDisp1, dFrzEK, hb]
  intro fa fc ob hfa
  have hbf : b ≠ fa := fun e => by rw [e, hfa] at hb; cases hb
  have hbm : (mset m fa (.fn ob)) b = some (.lst xs) := by rw [mset_ne hbf]; exact hb
  have sub : MSub m (mset m fa (.fn ob)) := fun x o e => by rw [mset_ne (fun z => by rw [z, hfa] at e; cases e)]; exact e
  rw [dSeq, dTryAs]
  generalize hW : dCatchAs K _ _ _ _ _ = W
  have HW : W (rngX K "speed" v) [some (runD K g J), some (.int v), some (.ref b), some (.int w), some (.int xs.length), some (.clo fa fc (("_law_bad_speed" : Str) ++ ".<locals>." ++ "_law_noted") [] []), none] (mset m fa (.fn ob)) := by
    subst hW
    refine ⟨true, T.xm_OutOfRange_OutOfRange, fun _ a' d' ha' => ?_, nofun⟩
    try simp only [dIfS, dTest, dOp, dVar, dC, dCB, daCons, daNil, dSet, dRet, dNext, dDrop, dAsg, dPar, dAug, dAddI, dBreak, dCont, dRetN, slot, dLen, dCmpI, dSub, dAdd, dMul, dDiv, dMod, dPow, dNeg, dUn, dIx, dInt1, dAbs, dChain, dAnd, dOr, dNot, dAndV, dOrV, dNotV, dTru, dTruB, dIf, dTup, dLst, mkL, dSlice, dSl, doNone, doSome, dSum, dAll, dAny, dList, dTuple, dMax, dMin, eq_ii, ne_ii, eq_ss, ne_ss, eq_bb, ne_bb, eq_nn, ne_nn, dIsN, dNotN, dFgt, dIsB, dNotB, gN, gT, gsNil, gsCons, gSet, dBM, dAppend, dClear, dFld, dFldS, dProp, dCall, dMeth, dMake, dMakeN, daStar, dDictP, dCallO, dFor, dLc, diR1, diR2, diR3, diL, diT, diRv, diS, diE, dFmt, dFStr, dJs, dCallN, dFrzE, frz_l, in_ss, notin_ss, drR1, drR2, dListR, dRaise, dRaise0, dTryAs, dTry, dXf, dAddO, dInO, isL, insOf, Option.some.injEq, List.cons.injEq, D.int.injEq, D.bl.injEq, D.str.injEq, D.lst.injEq, D.tup.injEq, D.ref.injEq, MO.lst.injEq, MO.ins.injEq, mset_mset, and_true, true_and, and_self, and_assoc, exists_eq_left', exists_eq_left, exists_and_left, exists_and_right, exists_eq', List.set_cons_zero, List.set_cons_succ, decide_eq_true_eq, sqOf, lsOf, List.length_cons, List.length_nil, sizeLine_eq, List.append_nil, List.cons_append, List.nil_append, if_true, if_false, Bool.false_eq_true, reduceCtorEq, reduceIte, Nat.reduceAdd, Nat.reduceLeDiff, mset_same, Option.bind_some, List.length_map, Prod.mk.injEq, at0, at1, at2, at3, at4, at5, at6, at7, ix30, ix31, ix32, ix20, ix21, ix10, isi_ii, isi_ib, isi_ll, isi_bb, isi_ss, isi_tt, isi_is, isi_si, Bool.not_true, Bool.not_false, dCopyK, dGet2K, dDctR, dDisp1, dFrzEK, rngX]
    unfold dWk
    try simp only [dIfS, dTest, dOp, dVar, dC, dCB, daCons, daNil, dSet, dRet, dNext, dDrop, dAsg, dPar, dAug, dAddI, dBreak, dCont, dRetN, slot, dLen, dCmpI, dSub, dAdd, dMul, dDiv, dMod, dPow, dNeg, dUn, dIx, dInt1, dAbs, dChain, dAnd, dOr, dNot, dAndV, dOrV, dNotV, dTru, dTruB, dIf, dTup, dLst, mkL, dSlice, dSl, doNone, doSome, dSum, dAll, dAny, dList, dTuple, dMax, dMin, eq_ii, ne_ii, eq_ss, ne_ss, eq_bb, ne_bb, eq_nn, ne_nn, dIsN, dNotN, dFgt, dIsB, dNotB, gN, gT, gsNil, gsCons, gSet, dBM, dAppend, dClear, dFld, dFldS, dProp, dCall, dMeth, dMake, dMakeN, daStar, dDictP, dCallO, dFor, dLc, diR1, diR2, diR3, diL, diT, diRv, diS, diE, dFmt, dFStr, dJs, dCallN, dFrzE, frz_l, in_ss, notin_ss, drR1, drR2, dListR, dRaise, dRaise0, dTryAs, dTry, dXf, dAddO, dInO, isL, insOf, Option.some.injEq, List.cons.injEq, D.int.injEq, D.bl.injEq, D.str.injEq, D.lst.injEq, D.tup.injEq, D.ref.injEq, MO.lst.injEq, MO.ins.injEq, mset_mset, and_true, true_and, and_self, and_assoc, exists_eq_left', exists_eq_left, exists_and_left, exists_and_right, exists_eq', List.set_cons_zero, List.set_cons_succ, decide_eq_true_eq, sqOf, lsOf, List.length_cons, List.length_nil, sizeLine_eq, List.append_nil, List.cons_append, List.nil_append, if_true, if_false, Bool.false_eq_true, reduceCtorEq, reduceIte, Nat.reduceAdd, Nat.reduceLeDiff, mset_same, Option.bind_some, List.length_map, Prod.mk.injEq, at0, at1, at2, at3, at4, at5, at6, at7, ix30, ix31, ix32, ix20, ix21, ix10, isi_ii, isi_ib, isi_ll, isi_bb, isi_ss, isi_tt, isi_is, isi_si, Bool.not_true, Bool.not_false, dCopyK, dGet2K, dDctR, dDisp1, dFrzEK, hbm]
    refine ⟨_, rfl, _, rfl, ?_⟩
    walk_at "zs"
    refine ⟨_, rfl, _, rfl, ?_⟩
    try simp only [dIfS, dTest, dOp, dVar, dC, dCB, daCons, daNil, dSet, dRet, dNext, dDrop, dAsg, dPar, dAug, dAddI, dBreak, dCont, dRetN, slot, dLen, dCmpI, dSub, dAdd, dMul, dDiv, dMod, dPow, dNeg, dUn, dIx, dInt1, dAbs, dChain, dAnd, dOr, dNot, dAndV, dOrV, dNotV, dTru, dTruB, dIf, dTup, dLst, mkL, dSlice, dSl, doNone, doSome, dSum, dAll, dAny, dList, dTuple, dMax, dMin, eq_ii, ne_ii, eq_ss, ne_ss, eq_bb, ne_bb, eq_nn, ne_nn, dIsN, dNotN, dFgt, dIsB, dNotB, gN, gT, gsNil, gsCons, gSet, dBM, dAppend, dClear, dFld, dFldS, dProp, dCall, dMeth, dMake, dMakeN, daStar, dDictP, dCallO, dFor, dLc, diR1, diR2, diR3, diL, diT, diRv, diS, diE, dFmt, dFStr, dJs, dCallN, dFrzE, frz_l, in_ss, notin_ss, drR1, drR2, dListR, dRaise, dRaise0, dTryAs, dTry, dXf, dAddO, dInO, isL, insOf, Option.some.injEq, List.cons.injEq, D.int.injEq, D.bl.injEq, D.str.injEq, D.lst.injEq, D.tup.injEq, D.ref.injEq, MO.lst.injEq, MO.ins.injEq, mset_mset, and_true, true_and, and_self, and_assoc, exists_eq_left', exists_eq_left, exists_and_left, exists_and_right, exists_eq', List.set_cons_zero, List.set_cons_succ, decide_eq_true_eq, sqOf, lsOf, List.length_cons, List.length_nil, sizeLine_eq, List.append_nil, List.cons_append, List.nil_append, if_true, if_false, Bool.false_eq_true, reduceCtorEq, reduceIte, Nat.reduceAdd, Nat.reduceLeDiff, mset_same, Option.bind_some, List.length_map, Prod.mk.injEq, at0, at1, at2, at3, at4, at5, at6, at7, ix30, ix31, ix32, ix20, ix21, ix10, isi_ii, isi_ib, isi_ll, isi_bb, isi_ss, isi_tt, isi_is, isi_si, Bool.not_true, Bool.not_false, dCopyK, dGet2K, dDctR, dDisp1, dFrzEK, hbm]
    refine ⟨m, sub, ?_⟩
    simpa using q
  clear hW
  by_cases h0 : w = 0
  · subst h0
    walk_at "zs"
    refine ⟨_, rfl, _, rfl, _, rfl, rfl, rfl, mset_same, [runD K g J], [.ref b], rfl, rfl, fun vs => ?_⟩
    rw [mdel_mset hfa]
    refine ⟨g, J, _, v, rfl, ⟨_, rfl⟩, fun ds m Q Q' hq hsp => ?_, jok, fun _ _ => HW, fun h => absurd h hv⟩
    obtain ⟨env, e, hl, d, h1, hx, d1, h2, a, h3, x, h4, h5, h6⟩ := hsp
    exact ⟨env, e, hl, d, h1, hx, d1, h2, a, h3, x, h4, h5, hq _ _ h6⟩
  · walk_at "zs"
    rw [if_neg h0]
    exact ⟨g, J, v, rfl, jok, fun _ => HW, fun h => absurd h hv⟩
theorem at_map {α : Type} {g : α → D} {l : List α} {r : Int} (h0 : 0 ≤ r) (h1 : r < l.length) : ∃ x ∈ l, atI (l.map g) r = some (g x) := by
  obtain ⟨n, rfl⟩ : ∃ n : Nat, r = n := ⟨r.toNat, by omega⟩
  obtain ⟨x, hx⟩ : ∃ x, l[n]? = some x := ⟨_, List.getElem?_eq_getElem (by omega)⟩
  exact ⟨x, mem_at hx, atI_nat (by rw [List.getElem?_map, hx]; rfl)⟩
theorem nd_map {β : Type} {f : Nat → β} {n : Nat} (h : ∀ i, i < n → ∀ j, j < n → f i = f j → i = j) : ((List.range n).map f).Nodup :=
  List.pairwise_map.mpr (List.Pairwise.imp_of_mem (fun {x y} hx hy hne e => hne (h x (List.mem_range.mp hx) y (List.mem_range.mp hy) e)) List.nodup_range)
theorem dEq_nil {m : M} {x : D} {xs : List D} {n : Nat} {Q : D → M → Prop} (hn : n < 64) (h : vD m x = .lst xs) (c : xs.all (clB n) = true) (q : Q (.bl xs.isEmpty) m) : dEq x (.lst []) m Q := by
  refine dEq_data (n := n + 1) (by omega) (by rw [h]; exact c) rfl (fun b hb => ?_)
  rw [h] at hb
  cases xs with
  | nil =>
    have : b = true := hb.mpr rfl
    rw [this]
    exact q
  | cons y ys =>
    cases b with
    | false => exact q
    | true =>
      have := hb.mp rfl
      cases this
theorem cl_arr {a : Arr} {n : Nat} (h1 : nameB a.f = true) (h2 : nameB a.s = true) : clB (n + 1) a.D = true := by
  show ([D.str a.f, .str a.s, .int a.g].all (clB n)) = true
  simp [cl_nm h1, cl_nm h2]
  cases n <;> rfl
theorem pairs_nd {zs : List Str} {n : Nat} (hl : zs.length = n) (nd : zs.Nodup) : ((List.range (n * n)).map fun k => (zs.getD (k / n) "", zs.getD (k % n) "")).Nodup := by
  have inj : ∀ i j, i < n → j < n → zs.getD i "" = zs.getD j "" → i = j := by
    intro i j hi hj e
    rw [List.getD_eq_getElem?_getD, List.getD_eq_getElem?_getD, List.getElem?_eq_getElem (by omega), List.getElem?_eq_getElem (by omega)] at e
    have e : zs[i] = zs[j] := e
    exact (List.getElem?_inj (by omega) nd).mp (by rw [List.getElem?_eq_getElem (by omega), List.getElem?_eq_getElem (by omega), e])
  refine nd_map fun i hi j hj e => ?_
  have h0 : 0 < n := Nat.pos_of_ne_zero fun h => by subst h; omega
  injection e with e1 e2
  have d1 := inj _ _ ((Nat.div_lt_iff_lt_mul h0).mpr hi) ((Nat.div_lt_iff_lt_mul h0).mpr hj) e1
  have d2 := inj _ _ (Nat.mod_lt i h0) (Nat.mod_lt j h0) e2
  have m1 := Nat.mod_add_div i n
  have m2 := Nat.mod_add_div j n
  rw [d1, d2] at m1
  omega
structure AG (zs : List Str) (n q : Nat) (as : List Arr) : Prop where
  sub : (as.map fun a => (a.f, a.s)).Sublist ((List.range q).map fun k => (zs.getD (k / n) "", zs.getD (k % n) ""))
  g : ∀ a ∈ as, 1 ≤ a.g ∧ a.g ≤ 12
  len : as.length ≤ 12
theorem AG.up {zs : List Str} {n q : Nat} {as : List Arr} (h : AG zs n q as) : AG zs n (q + 1) as := ⟨by
  rw [List.range_succ, List.map_append]
  exact h.sub.trans (List.sublist_append_left _ _), h.g, h.len⟩
theorem AG.add {zs : List Str} {n q : Nat} {as : List Arr} (h : AG zs n q as) {g : Int} (hg : 1 ≤ g ∧ g ≤ 12) (hl : as.length < 12) : AG zs n (q + 1) (as ++ [⟨zs.getD (q / n) "", zs.getD (q % n) "", g⟩]) := ⟨by
  rw [List.range_succ, List.map_append, List.map_append]
  exact h.sub.append (List.Sublist.refl _), fun a ha => by
    rcases List.mem_append.mp ha with ha | ha
    · exact h.g a ha
    · rw [List.mem_singleton.mp ha]; exact hg, by rw [List.length_append, List.length_singleton]; omega⟩
theorem AG.ok {zs : List Str} {n : Nat} {as : List Arr} (h : AG zs n (n * n) as) (hl : zs.length = n) (nd : zs.Nodup) (hn : 0 < n) : AsOk zs as := by
  have mem : ∀ a ∈ as, ∃ k, k < n * n ∧ zs.getD (k / n) "" = a.f ∧ zs.getD (k % n) "" = a.s := fun a ha => by
    have := h.sub.subset (List.mem_map_of_mem (f := fun a : Arr => (a.f, a.s)) ha)
    obtain ⟨k, hk, e⟩ := List.mem_map.mp this
    injection e with e1 e2
    exact ⟨k, List.mem_range.mp hk, e1, e2⟩
  have at_ : ∀ i, i < n → zs.getD i "" ∈ zs := fun i hi => by
    rw [List.getD_eq_getElem?_getD, List.getElem?_eq_getElem (by omega)]
    exact List.getElem_mem (by omega)
  refine ⟨fun a ha => ?_, fun a ha => ?_, h.g, h.sub.nodup (pairs_nd hl nd)⟩
  · obtain ⟨k, hk, e1, _⟩ := mem a ha
    rw [← e1]
    exact at_ _ ((Nat.div_lt_iff_lt_mul hn).mpr hk)
  · obtain ⟨k, hk, _, e2⟩ := mem a ha
    rw [← e2]
    exact at_ _ (Nat.mod_lt _ hn)
theorem str_I {zs : List Str} {i : Nat} (h : i < zs.length) : atI (zs.map D.str) (i : Int) = some (.str (zs.getD i "")) := atI_nat (by
  rw [List.getElem?_map, List.getElem?_eq_getElem h, List.getD_eq_getElem?_getD, List.getElem?_eq_getElem h]
  rfl)
theorem Z_ok {e : Int} (h0 : 0 ≤ e) (h1 : e < 3) : ∃ Z : List Str, atI [D.lst [.str "a", .str "ab", .str "abc"], .lst [.str "go", .str "g", .str "gone"], .lst [.str "z_1", .str "z_2", .str "z"]] e = some (.lst (Z.map D.str)) ∧ Z.length = 3 ∧ Z.Nodup ∧ ∀ z ∈ Z, nameB z = true := by
  have : e = 0 ∨ e = 1 ∨ e = 2 := by omega
  rcases this with rfl | rfl | rfl
  · exact ⟨["a", "ab", "abc"], rfl, rfl, by decide +kernel, by decide +kernel⟩
  · exact ⟨["go", "g", "gone"], rfl, rfl, by decide +kernel, by decide +kernel⟩
  · exact ⟨["z_1", "z_2", "z"], rfl, rfl, by decide +kernel, by decide +kernel⟩
theorem pure_law_small_task {K : Fr0} {mg : Str → Option Value} (T : Txt K mg) (ds : List D) (m : M) (Q : D → M → Prop) (E : XD → M → Prop) (h : sp_law_small_task K ds m Q E) : t_law_small_task K (fun x _ m => E x m) { nx := fun _ m => Q .non m, rt := Q } (startD nm_law_small_task ds) m := by
  obtain ⟨a, z0, c, v, k, rfl, hz0, ha, ⟨k0, k1⟩, q⟩ := h
  have em : m = mset m a (pool c v k) := (mset_id ha).symm
  show t_law_small_task K _ _ [some (.ref a), some (.str z0), none, none, none, none, none, none, none, none, none, none, none] m
  rw [em]
  clear em
  unfold t_law_small_task
  walk_at "zn"
  refine draw_s (by omega) (by omega) (by omega) (by omega) (fun r v1 r0 r1 => ?_)
  walk_at "zn"
  obtain ⟨n, hn⟩ : ∃ n : Nat, 1 + r = n := ⟨(1 + r).toNat, by omega⟩
  rw [hn]
  have n3 : 1 ≤ n ∧ n ≤ 3 := by omega
  refine draw_s (by omega) (by omega) (by omega) (by omega) (fun e v2 e0 e1 => ?_)
  obtain ⟨Z, hZ, Zl, Znd, Znm⟩ := Z_ok e0 e1
  refine ⟨e, rfl, _, hZ, ?_⟩
  walk_at "zn"
  rw [DL.cut_to, ← List.map_take]
  obtain ⟨zs, hzs⟩ : ∃ zs, Z.take n = zs := ⟨_, rfl⟩
  have zl : zs.length = n := by rw [← hzs, List.length_take]; omega
  have nd : zs.Nodup := by rw [← hzs]; exact Znd.sublist (List.take_sublist _ _)
  have nms : ∀ z ∈ zs, nameB z = true := fun z hz => Znm z (by rw [← hzs] at hz; exact List.mem_of_mem_take hz)
  rw [hzs]
  clear hzs
  refine draw_s (by omega) (by omega) (by omega) (by omega) (fun sh v3 sh0 sh1 => ?_)
  walk_at "zn"
  intro p hp
  have hpa : p ≠ a := fun e => by rw [e, mset_same] at hp; cases hp
  have hp0 : m p = none := by rw [mset_ne hpa] at hp; exact hp
  rw [mset_comm hpa.symm]
  walk_at "zn"
  refine ⟨by omega, by omega, ?_⟩
  rw [Int.toNat_natCast]
  obtain ⟨P1, hP1⟩ : ∃ P : Nat → DSt → M → Prop, ∀ i rr m', P i rr m' ↔ (∃ (as : List Arr) (v' : Int) (o6 o7 o8 o9 : Option D), AG zs n (i * n) as ∧ m' = mset (mset m p (.lst (as.map Arr.D))) a (pool c v' (k + 1 + 1 + 1 + 2 * (i * n : Nat))) ∧ rr = [some (.ref a), some (.str z0), some (.int n), some (.lst (zs.map D.str)), some (.int sh), some (.ref p), o6, o7, o8, o9, none, none, none]) := ⟨_, fun _ _ _ => Iff.rfl⟩
  refine ⟨P1, (hP1 0 _ _).mpr ⟨[], v3, _, _, _, _, ⟨by simp, by simp, by simp⟩, by simp, rfl⟩, ?_, ?_⟩
  · intro i d rr m' hd hp1
    obtain ⟨as, v4, o6, o7, o8, o9, ag, rfl, rfl⟩ := (hP1 _ _ _).mp hp1
    obtain ⟨rfl, hi⟩ := rngD_at hd
    rw [Int.zero_add]
    walk_at "zn"
    refine ⟨by omega, by omega, ?_⟩
    rw [Int.toNat_natCast]
    obtain ⟨P2, hP2⟩ : ∃ P : Nat → DSt → M → Prop, ∀ j rr m', P j rr m' ↔ (∃ (as : List Arr) (v' : Int) (o7 o8 o9 : Option D), AG zs n (i * n + j) as ∧ m' = mset (mset m p (.lst (as.map Arr.D))) a (pool c v' (k + 1 + 1 + 1 + 2 * (i * n + j : Nat))) ∧ rr = [some (.ref a), some (.str z0), some (.int n), some (.lst (zs.map D.str)), some (.int sh), some (.ref p), some (.int i), o7, o8, o9, none, none, none]) := ⟨_, fun _ _ _ => Iff.rfl⟩
    refine ⟨P2, (hP2 0 _ _).mpr ⟨as, v4, _, _, _, ag, rfl, rfl⟩, ?_, ?_⟩
    · intro j d rr m' hd hp2
      obtain ⟨as, v5, o7, o8, o9, ag, rfl, rfl⟩ := (hP2 _ _ _).mp hp2
      obtain ⟨rfl, hj⟩ := rngD_at hd
      rw [Int.zero_add]
      have hin : i * n ≤ 2 * 3 := Nat.mul_le_mul (by omega) (by omega)
      have al : as.length ≤ i * n + j := by
        have := ag.sub.length_le
        simpa using this
      walk_at "zn"
      refine draw_s (by omega) (by omega) (by omega) (by omega) (fun r3 v6 r30 r31 => ?_)
      walk_at "zn"
      refine draw_s (by omega) (by omega) (by omega) (by omega) (fun r4 v7 r40 r41 => ?_)
      have eq1 : (i * n + j) / n = i := by rw [Nat.mul_comm, Nat.mul_add_div (by omega), Nat.div_eq_of_lt hj, Nat.add_zero]
      have eq2 : (i * n + j) % n = j := by rw [Nat.mul_comm, Nat.mul_add_mod, Nat.mod_eq_of_lt hj]
      have fin : ∀ (as' : List Arr), AG zs n (i * n + (j + 1)) as' → ∀ m2, m2 = mset (mset m p (.lst (as'.map Arr.D))) a (pool c v7 (k + 1 + 1 + 1 + 2 * (i * n + (j + 1) : Nat))) → ∀ o8 o9, P2 (j + 1) [some (.ref a), some (.str z0), some (.int n), some (.lst (zs.map D.str)), some (.int sh), some (.ref p), some (.int i), some (.int j), o8, o9, none, none, none] m2 := fun as' h m2 e o8 o9 => (hP2 _ _ _).mpr ⟨as', v7, _, _, _, h, e, rfl⟩
      have ek : k + 1 + 1 + 1 + 2 * ((i * n + j : Nat) : Int) + 1 + 1 = k + 1 + 1 + 1 + 2 * ((i * n + (j + 1) : Nat) : Int) := by omega
      rw [ek]
      walk_at "zn"
      by_cases c1 : r3 < sh
      · rw [if_pos (by simpa using c1)]
        try simp only [dSeq]
        try simp only [dIfS, dTest, dOp, dVar, dC, dCB, daCons, daNil, dSet, dRet, dNext, dDrop, dAsg, dPar, dAug, dAddI, dBreak, dCont, dRetN, slot, dLen, dCmpI, dSub, dAdd, dMul, dDiv, dMod, dPow, dNeg, dUn, dIx, dInt1, dAbs, dChain, dAnd, dOr, dNot, dAndV, dOrV, dNotV, dTru, dTruB, dIf, dTup, dLst, mkL, dSlice, dSl, doNone, doSome, dSum, dAll, dAny, dList, dTuple, dMax, dMin, eq_ii, ne_ii, eq_ss, ne_ss, eq_bb, ne_bb, eq_nn, ne_nn, dIsN, dNotN, dFgt, dIsB, dNotB, gN, gT, gsNil, gsCons, gSet, dBM, dAppend, dClear, dFld, dFldS, dProp, dCall, dMeth, dMake, dMakeN, daStar, dDictP, dCallO, dFor, dLc, diR1, diR2, diR3, diL, diT, diRv, diS, diE, dFmt, dFStr, dJs, dCallN, dFrzE, frz_l, in_ss, notin_ss, drR1, drR2, dListR, dRaise, dRaise0, dTryAs, dTry, dXf, dAddO, dInO, isL, insOf, Option.some.injEq, List.cons.injEq, D.int.injEq, D.bl.injEq, D.str.injEq, D.lst.injEq, D.tup.injEq, D.ref.injEq, MO.lst.injEq, MO.ins.injEq, mset_mset, and_true, true_and, and_self, and_assoc, exists_eq_left', exists_eq_left, exists_and_left, exists_and_right, exists_eq', List.set_cons_zero, List.set_cons_succ, decide_eq_true_eq, sqOf, lsOf, List.length_cons, List.length_nil, sizeLine_eq, List.append_nil, List.cons_append, List.nil_append, if_true, if_false, Bool.false_eq_true, reduceCtorEq, reduceIte, Nat.reduceAdd, Nat.reduceLeDiff, mset_same, Option.bind_some, List.length_map, Prod.mk.injEq, at0, at1, at2, at3, at4, at5, at6, at7, ix30, ix31, ix32, ix20, ix21, ix10, isi_ii, isi_ib, isi_ll, isi_bb, isi_ss, isi_tt, isi_is, isi_si, Bool.not_true, Bool.not_false, dCopyK, dGet2K, dDctR, dDisp1, dFrzEK, str_I (zs := zs) (i := i) (by omega), str_I (zs := zs) (i := j) (by omega)]
        refine ⟨⟨_, lsOf_ref (by rw [mset_ne hpa]; exact mset_same)⟩, _, by rw [mset_ne hpa]; exact mset_same, by rw [List.length_map]; omega, ?_⟩
        refine fin _ (ag.add (g := 1 + r4) ⟨by omega, by omega⟩ (by omega)) _ ?_ _ _
        rw [eq1, eq2, List.map_append, mset_comm hpa, mset_mset]
        exact mset_comm hpa.symm
      · rw [if_neg (by simpa using c1)]
        exact fin _ ag.up _ rfl _ _
    · intro rr m' hp2
      obtain ⟨as, v5, o7, o8, o9, ag, rfl, rfl⟩ := (hP2 _ _ _).mp hp2
      rw [rngD_len] at ag ⊢
      refine (hP1 _ _ _).mpr ⟨as, v5, _, _, _, _, by rw [Nat.add_mul, Nat.one_mul]; exact ag, by rw [Nat.add_mul, Nat.one_mul], rfl⟩
  · intro rr m' hp1
    obtain ⟨as, v4, o6, o7, o8, o9, ag, rfl, rfl⟩ := (hP1 _ _ _).mp hp1
    rw [rngD_len] at ag ⊢
    clear hp1 hP1 P1
    have aok := ag.ok zl nd (by omega)
    have nn : n * n ≤ 3 * 3 := Nat.mul_le_mul (by omega) (by omega)
    refine ⟨p, _, rfl, by rw [mset_ne hpa]; exact mset_same, ?_⟩
    rw [mdel_mset_ne hpa, mdel_mset hp0]
    walk_at "zn"
    intro b hb
    have hba : b ≠ a := fun e => by rw [e, mset_same] at hb; cases hb
    have hb0 : m b = none := by rw [mset_ne hba] at hb; exact hb
    rw [mset_comm hba.symm]
    walk_at "zn"
    obtain ⟨P1, hP1⟩ : ∃ P : Nat → DSt → M → Prop, ∀ j rr m', P j rr m' ↔ (∃ (ks : List Knd) (v' : Int) (o11 o12 : Option D), names ks = zs.take j ∧ (∀ x ∈ ks, 1 ≤ x.c ∧ x.c ≤ 9 ∧ 1 ≤ x.d ∧ x.d ≤ 24) ∧ m' = mset (mset m b (.lst (ks.map Knd.D))) a (pool c v' (k + 1 + 1 + 1 + 2 * (n * n : Nat) + 2 * j)) ∧ rr = [some (.ref a), some (.str z0), some (.int n), some (.lst (zs.map D.str)), some (.int sh), some (.lst (as.map Arr.D)), o6, o7, o8, o9, some (.ref b), o11, o12]) := ⟨_, fun _ _ _ => Iff.rfl⟩
    refine ⟨P1, (hP1 0 _ _).mpr ⟨[], v4, _, _, rfl, by simp, by simp, rfl⟩, ?_, ?_⟩
    · intro j d rr m' hd hp1
      obtain ⟨ks, v5, o11, o12, en, kb, rfl, rfl⟩ := (hP1 _ _ _).mp hp1
      obtain ⟨z, hz, rfl⟩ := map_at hd
      have hj := len_at hz
      have kl : ks.length = j := by
        have := congrArg List.length en
        rw [List.length_map, List.length_take] at this
        omega
      walk_at "zn"
      refine draw_s (by omega) (by omega) (by omega) (by omega) (fun x1 v6 x10 x11 => ?_)
      walk_at "zn"
      refine ⟨⟨_, lsOf_ref (by rw [mset_ne hba]; exact mset_same)⟩, ?_⟩
      refine draw_s (by omega) (by omega) (by omega) (by omega) (fun x2 v7 x20 x21 => ?_)
      refine ⟨_, by rw [mset_ne hba]; exact mset_same, by rw [List.length_map]; omega, (hP1 _ _ _).mpr ⟨ks ++ [⟨z, 1 + x1, 1 + x2⟩], v7, _, _, ?_, fun y hy => ?_, ?_, rfl⟩⟩
      · show (ks ++ [_]).map Knd.n = _
        rw [List.map_append, show ks.map Knd.n = zs.take j from en, take_succ' hz]
        rfl
      · rcases List.mem_append.mp hy with hy | hy
        · exact kb y hy
        · rw [List.mem_singleton.mp hy]
          exact ⟨by show 1 ≤ 1 + x1; omega, by show 1 + x1 ≤ 9; omega, by show 1 ≤ 1 + x2; omega, by show 1 + x2 ≤ 24; omega⟩
      · rw [mset_comm hba, mset_comm hba, mset_mset, mset_comm hba.symm, List.map_append, show k + 1 + 1 + 1 + 2 * ((n * n : Nat) : Int) + 2 * (j : Int) + 1 + 1 = k + 1 + 1 + 1 + 2 * ((n * n : Nat) : Int) + 2 * ((j + 1 : Nat) : Int) by omega]
        exact mset_comm hba
    · intro rr m' hp1
      obtain ⟨ks, v5, o11, o12, en, kb, rfl, rfl⟩ := (hP1 _ _ _).mp hp1
      rw [List.length_map, List.take_length] at en
      rw [List.length_map]
      have kl : ks.length = n := by
        have := congrArg List.length en
        rw [List.length_map] at this
        omega
      have al : as.length ≤ n * n := by
        have := ag.sub.length_le
        simpa using this
      refine ⟨b, _, rfl, by rw [mset_ne hba]; exact mset_same, ?_⟩
      rw [mdel_mset_ne hba, mdel_mset hb0]
      walk_at "zn"
      refine q ⟨z0, ks, as⟩ v5 _ ⟨hz0, by show 1 ≤ ks.length; omega, by show ks.length ≤ 4; omega, by show as.length ≤ 12; omega, ⟨fun y hy => nms y.n (by rw [← en]; exact List.mem_map_of_mem hy), by show (names ks).Nodup; rw [en]; exact nd, fun y hy => ?_, fun y hy => ?_⟩, by show AsOk (names ks) as; rw [en]; exact aok⟩ (by omega) (by omega)
      · have := kb y hy
        split <;> omega
      · have := kb y hy
        split <;> omega
theorem jAt_app {w : List Job} {j : Job} {p : Nat} (h : p < w.length) : jAt (w ++ [j]) p = jAt w p := by
  unfold jAt
  rw [List.getD_eq_getElem?_getD, List.getD_eq_getElem?_getD, List.getElem?_append_left h]
theorem jAt_last {w : List Job} {j : Job} : jAt (w ++ [j]) w.length = j := by
  unfold jAt
  rw [List.getD_eq_getElem?_getD, List.getElem?_append_right (Nat.le_refl _), Nat.sub_self]
  rfl
theorem WkOk.add {t : Tsk} {g : Int} {w : List Job} (h : WkOk t g w) {j : Job} {k : Knd} (hk : k ∈ t.ks) (e : k.n = j.k) (c1 : 1 ≤ j.c) (c2 : j.c ≤ k.c * g) (r0 : 0 ≤ j.r)
    (hl : 1 ≤ w.length → ∃ a ∈ t.as, a.f = (jAt w (w.length - 1)).k ∧ a.s = j.k ∧ a.g * g ≤ j.r - (jAt w (w.length - 1)).r) : WkOk t g (w ++ [j]) := by
  intro p hp
  rw [List.length_append, List.length_singleton] at hp
  by_cases hpl : p < w.length
  · rw [jAt_app hpl]
    obtain ⟨h1, h2, h3⟩ := h p hpl
    refine ⟨h1, h2, fun hp1 => ?_⟩
    rw [jAt_app (by omega)]
    exact h3 hp1
  · have ep : p = w.length := by omega
    subst ep
    rw [jAt_last]
    refine ⟨⟨k, hk, e, c1, c2⟩, r0, fun hp1 => ?_⟩
    rw [jAt_app (by omega)]
    exact hl hp1
theorem pure_law_walk {K : Fr0} {mg : Str → Option Value} (T : Txt K mg) (ds : List D) (m : M) (Q : D → M → Prop) (E : XD → M → Prop) (h : sp_law_walk K ds m Q E) : t_law_walk K (fun x _ m => E x m) { nx := fun _ m => Q .non m, rt := Q } (startD nm_law_walk ds) m := by
  obtain ⟨a, t, g, c, v, k, rfl, ha, ok, ⟨g1, g2⟩, ⟨k0, k1⟩, q⟩ := h
  have em : m = mset m a (pool c v k) := (mset_id ha).symm
  show t_law_walk K _ _ [some (.ref a), some (specL t), some (.int g), none, none, none, none, none, none, none, none, none] m
  rw [em]
  clear em
  unfold t_law_walk
  have hk1 := ok.k1
  have hk4 := ok.k4
  have ha12 := ok.a12
  have k14 : (1 : Int) ≤ (t.ks.length : Int) ∧ (t.ks.length : Int) ≤ 4 := by omega
  simp only [specL]
  generalize hS : D.lst [D.str t.nm, ksD t.ks, asD t.as] = S
  have hS1 : atI [D.str t.nm, ksD t.ks, asD t.as] 1 = some (ksD t.ks) := at1
  try simp only [dSeq]
  try simp only [dIfS, dTest, dOp, dVar, dC, dCB, daCons, daNil, dSet, dRet, dNext, dDrop, dAsg, dPar, dAug, dAddI, dBreak, dCont, dRetN, slot, dLen, dCmpI, dSub, dAdd, dMul, dDiv, dMod, dPow, dNeg, dUn, dIx, dInt1, dAbs, dChain, dAnd, dOr, dNot, dAndV, dOrV, dNotV, dTru, dTruB, dIf, dTup, dLst, mkL, dSlice, dSl, doNone, doSome, dSum, dAll, dAny, dList, dTuple, dMax, dMin, eq_ii, ne_ii, eq_ss, ne_ss, eq_bb, ne_bb, eq_nn, ne_nn, dIsN, dNotN, dFgt, dIsB, dNotB, gN, gT, gsNil, gsCons, gSet, dBM, dAppend, dClear, dFld, dFldS, dProp, dCall, dMeth, dMake, dMakeN, daStar, dDictP, dCallO, dFor, dLc, diR1, diR2, diR3, diL, diT, diRv, diS, diE, dFmt, dFStr, dJs, dCallN, dFrzE, frz_l, in_ss, notin_ss, drR1, drR2, dListR, dRaise, dRaise0, dTryAs, dTry, dXf, dAddO, dInO, isL, insOf, Option.some.injEq, List.cons.injEq, D.int.injEq, D.bl.injEq, D.str.injEq, D.lst.injEq, D.tup.injEq, D.ref.injEq, MO.lst.injEq, MO.ins.injEq, mset_mset, and_true, true_and, and_self, and_assoc, exists_eq_left', exists_eq_left, exists_and_left, exists_and_right, exists_eq', List.set_cons_zero, List.set_cons_succ, decide_eq_true_eq, sqOf, lsOf, List.length_cons, List.length_nil, sizeLine_eq, List.append_nil, List.cons_append, List.nil_append, if_true, if_false, Bool.false_eq_true, reduceCtorEq, reduceIte, Nat.reduceAdd, Nat.reduceLeDiff, mset_same, Option.bind_some, List.length_map, Prod.mk.injEq, at0, at1, at2, at3, at4, at5, at6, at7, ix30, ix31, ix32, ix20, ix21, ix10, isi_ii, isi_ib, isi_ll, isi_bb, isi_ss, isi_tt, isi_is, isi_si, Bool.not_true, Bool.not_false, dCopyK, dGet2K, dDctR, dDisp1, dFrzEK, ← hS]
  walk_at "zn"
  intro p hp
  have hpa : p ≠ a := fun e => by rw [e, mset_same] at hp; cases hp
  have hp0 : m p = none := by rw [mset_ne hpa] at hp; exact hp
  rw [mset_comm hpa.symm]
  walk_at "zn"
  refine draw_s (by omega) (by omega) (by omega) (by omega) (fun r v1 r0 r1 => ?_)
  obtain ⟨kd, hkd, ekd⟩ := at_map (g := Knd.D) (l := t.ks) r0 (by omega)
  try simp only [dSeq]
  try simp only [dIfS, dTest, dOp, dVar, dC, dCB, daCons, daNil, dSet, dRet, dNext, dDrop, dAsg, dPar, dAug, dAddI, dBreak, dCont, dRetN, slot, dLen, dCmpI, dSub, dAdd, dMul, dDiv, dMod, dPow, dNeg, dUn, dIx, dInt1, dAbs, dChain, dAnd, dOr, dNot, dAndV, dOrV, dNotV, dTru, dTruB, dIf, dTup, dLst, mkL, dSlice, dSl, doNone, doSome, dSum, dAll, dAny, dList, dTuple, dMax, dMin, eq_ii, ne_ii, eq_ss, ne_ss, eq_bb, ne_bb, eq_nn, ne_nn, dIsN, dNotN, dFgt, dIsB, dNotB, gN, gT, gsNil, gsCons, gSet, dBM, dAppend, dClear, dFld, dFldS, dProp, dCall, dMeth, dMake, dMakeN, daStar, dDictP, dCallO, dFor, dLc, diR1, diR2, diR3, diL, diT, diRv, diS, diE, dFmt, dFStr, dJs, dCallN, dFrzE, frz_l, in_ss, notin_ss, drR1, drR2, dListR, dRaise, dRaise0, dTryAs, dTry, dXf, dAddO, dInO, isL, insOf, Option.some.injEq, List.cons.injEq, D.int.injEq, D.bl.injEq, D.str.injEq, D.lst.injEq, D.tup.injEq, D.ref.injEq, MO.lst.injEq, MO.ins.injEq, mset_mset, and_true, true_and, and_self, and_assoc, exists_eq_left', exists_eq_left, exists_and_left, exists_and_right, exists_eq', List.set_cons_zero, List.set_cons_succ, decide_eq_true_eq, sqOf, lsOf, List.length_cons, List.length_nil, sizeLine_eq, List.append_nil, List.cons_append, List.nil_append, if_true, if_false, Bool.false_eq_true, reduceCtorEq, reduceIte, Nat.reduceAdd, Nat.reduceLeDiff, mset_same, Option.bind_some, List.length_map, Prod.mk.injEq, at0, at1, at2, at3, at4, at5, at6, at7, ix30, ix31, ix32, ix20, ix21, ix10, isi_ii, isi_ib, isi_ll, isi_bb, isi_ss, isi_tt, isi_is, isi_si, Bool.not_true, Bool.not_false, dCopyK, dGet2K, dDctR, dDisp1, dFrzEK, ekd]
  refine draw_s (by omega) (by omega) (by omega) (by omega) (fun mo v2 mo0 mo1 => ?_)
  walk_at "zn"
  refine draw_s (by omega) (by omega) (by omega) (by omega) (fun n0 v3 n00 n01 => ?_)
  refine ⟨n0, rfl, by omega, by omega, ?_⟩
  obtain ⟨n, hn⟩ : ∃ n : Nat, n0 = n := ⟨n0.toNat, by omega⟩
  subst hn
  rw [Int.toNat_natCast]
  have n12 : n ≤ 12 := by omega
  obtain ⟨P1, hP1⟩ : ∃ P : Nat → DSt → M → Prop, ∀ j rr m', P j rr m' ↔ (∃ (w : List Job) (kd : Knd) (mo v' k' : Int) (o7 o8 o9 o10 o11 : Option D), w.length = j ∧ WkOk t g w ∧ kd ∈ t.ks ∧ (0 ≤ mo ∧ mo ≤ 40 + 800 * j) ∧ (∀ y ∈ w, y.r ≤ 100000) ∧ (1 ≤ w.length → ∃ x ∈ t.as, x.f = (jAt w (w.length - 1)).k ∧ x.s = kd.n ∧ x.g * g ≤ mo - (jAt w (w.length - 1)).r) ∧ (k ≤ k' ∧ k' ≤ k + 3 + 5 * j) ∧ m' = mset (mset m p (.lst (w.map Job.D))) a (pool c v' k') ∧ rr = [some (.ref a), some (.lst [.str t.nm, ksD t.ks, asD t.as]), some (.int g), some (ksD t.ks), some (.ref p), some kd.D, some (.int mo), o7, o8, o9, o10, o11]) := ⟨_, fun _ _ _ => Iff.rfl⟩
  have END : ∀ (w : List Job) (v' k' : Int), w.length ≤ 12 → WkOk t g w → (∀ y ∈ w, y.r ≤ 100000) → k ≤ k' → k' ≤ k + 100 → frzV (mset (mset m p (.lst (w.map Job.D))) a (pool c v' k')) (.ref p) Q := by
    intro w v' k' h1 h2 h3 h4 h5
    simp only [frzV]
    rw [mset_ne hpa, mset_same]
    show Q (.lst _) (mdel _ _)
    rw [mdel_mset_ne hpa, mdel_mset hp0]
    exact q w v' k' h2 h1 h3 h4 h5
  refine ⟨P1, (hP1 0 _ _).mpr ⟨[], kd, mo, v3, k + 1 + 1 + 1, _, _, _, _, _, rfl, fun p hp => absurd hp (Nat.not_lt_zero _), hkd, ⟨by omega, by omega⟩, by simp, fun h => absurd h (by decide), ⟨by omega, by omega⟩, rfl, rfl⟩, ?_, ?_⟩
  · clear ekd hkd kd
    intro j d rr m' hd hp1
    obtain ⟨w, kd, mo, v4, k4, o7, o8, o9, o10, o11, wl, wok, hkd, ⟨m0, m1⟩, wr, lk, ⟨k40, k41⟩, rfl, rfl⟩ := (hP1 _ _ _).mp hp1
    obtain ⟨rfl, hj⟩ := rngD_at hd
    have kb := kn_b ok hkd
    have cg : 1 ≤ kd.c * g ∧ kd.c * g ≤ 99 * 60 := ⟨by have := Int.mul_le_mul kb.1.1 g1 (by omega) (by omega); omega, Int.mul_le_mul kb.1.2 g2 (by omega) (by omega)⟩
    try simp only [dSeq]
    try simp only [dIfS, dTest, dOp, dVar, dC, dCB, daCons, daNil, dSet, dRet, dNext, dDrop, dAsg, dPar, dAug, dAddI, dBreak, dCont, dRetN, slot, dLen, dCmpI, dSub, dAdd, dMul, dDiv, dMod, dPow, dNeg, dUn, dIx, dInt1, dAbs, dChain, dAnd, dOr, dNot, dAndV, dOrV, dNotV, dTru, dTruB, dIf, dTup, dLst, mkL, dSlice, dSl, doNone, doSome, dSum, dAll, dAny, dList, dTuple, dMax, dMin, eq_ii, ne_ii, eq_ss, ne_ss, eq_bb, ne_bb, eq_nn, ne_nn, dIsN, dNotN, dFgt, dIsB, dNotB, gN, gT, gsNil, gsCons, gSet, dBM, dAppend, dClear, dFld, dFldS, dProp, dCall, dMeth, dMake, dMakeN, daStar, dDictP, dCallO, dFor, dLc, diR1, diR2, diR3, diL, diT, diRv, diS, diE, dFmt, dFStr, dJs, dCallN, dFrzE, frz_l, in_ss, notin_ss, drR1, drR2, dListR, dRaise, dRaise0, dTryAs, dTry, dXf, dAddO, dInO, isL, insOf, Option.some.injEq, List.cons.injEq, D.int.injEq, D.bl.injEq, D.str.injEq, D.lst.injEq, D.tup.injEq, D.ref.injEq, MO.lst.injEq, MO.ins.injEq, mset_mset, and_true, true_and, and_self, and_assoc, exists_eq_left', exists_eq_left, exists_and_left, exists_and_right, exists_eq', List.set_cons_zero, List.set_cons_succ, decide_eq_true_eq, sqOf, lsOf, List.length_cons, List.length_nil, sizeLine_eq, List.append_nil, List.cons_append, List.nil_append, if_true, if_false, Bool.false_eq_true, reduceCtorEq, reduceIte, Nat.reduceAdd, Nat.reduceLeDiff, mset_same, Option.bind_some, List.length_map, Prod.mk.injEq, at0, at1, at2, at3, at4, at5, at6, at7, ix30, ix31, ix32, ix20, ix21, ix10, isi_ii, isi_ib, isi_ll, isi_bb, isi_ss, isi_tt, isi_is, isi_si, Bool.not_true, Bool.not_false, dCopyK, dGet2K, dDctR, dDisp1, dFrzEK, Knd.D]
    refine ⟨mul_small (by omega), ?_⟩
    refine draw_s (by omega) (by omega) (by omega) (by omega) (fun r5 v5 r50 r51 => ?_)
    walk_at "zn"
    refine draw_s (by omega) (by omega) (by omega) (by omega) (fun r6 v6 r60 r61 => ?_)
    simp only [dSeq]
    generalize hN : dSeq (dSet 9 _) _ = k9
    generalize hK : dDrop (dBM isL dAppend (dVar 4) _) = kk
    have H : ∀ (co : Int) (DD D2 : DEnds), DD.nx = k9 D2 → D2.nx = P1 (j + 1) → D2.rt = Q → 1 ≤ co → co ≤ kd.c * g → kk DD [some (.ref a), some (.lst [.str t.nm, ksD t.ks, asD t.as]), some (.int g), some (ksD t.ks), some (.ref p), some (.tup [.str kd.n, .int kd.c, .int kd.d]), some (.int mo), some (.int (0 + (j : Int))), some (.int co), o9, o10, o11] (mset (mset m p (.lst (w.map Job.D))) a (pool c v6 (k4 + 1 + 1))) := by
      intro co DD D2 e1 e2 e3 c0 c1
      have wok' : WkOk t g (w ++ [⟨kd.n, mo, co⟩]) := wok.add hkd rfl c0 c1 m0 lk
      have wr' : ∀ y ∈ w ++ [⟨kd.n, mo, co⟩], y.r ≤ 100000 := fun y hy => by
        rcases List.mem_append.mp hy with h | h
        · exact wr y h
        · rw [List.mem_singleton.mp h]
          show mo ≤ 100000
          omega
      have wl' : (w ++ [(⟨kd.n, mo, co⟩ : Job)]).length = j + 1 := by rw [List.length_append, List.length_singleton, wl]
      subst hK
      walk_at "zn"
      refine ⟨⟨_, lsOf_ref (by rw [mset_ne hpa]; exact mset_same)⟩, _, by rw [mset_ne hpa]; exact mset_same, by rw [List.length_map]; omega, ?_⟩
      have em : mset (mset (mset m p (.lst (w.map Job.D))) a (pool c v6 (k4 + 1 + 1))) p (.lst (w.map Job.D ++ [.tup [.str kd.n, .int mo, .int co]])) = mset (mset m p (.lst ((w ++ [(⟨kd.n, mo, co⟩ : Job)]).map Job.D))) a (pool c v6 (k4 + 1 + 1)) := by
        rw [mset_comm hpa, mset_mset, mset_comm hpa.symm, List.map_append]
        rfl
      rw [em, e1]
      clear em
      subst hN
      walk_at "zn"
      refine lc_filterD (g := Arr.D) (p := fun x : Arr => decide (x.f = kd.n)) (f := Arr.D) (by rw [sizeLine_eq]; omega) (fun x hx => ⟨_, rfl, fun Q' q' => ?_, fun _ Q' q' => ?_⟩) ?_
      · simp only [wipeD, Arr.D]
        walk_at "zs"
        exact q'
      · simp only [wipeD]
        walk_at "zs"
        exact q'
      rw [show (t.as.filter fun x : Arr => decide (x.f = kd.n)) = foll t kd.n from rfl]
      have fl : (foll t kd.n).length ≤ 12 := Nat.le_trans (List.length_filter_le _ _) ha12
      walk_at "zn"
      refine dEq_nil (n := 1) (by omega) (xs := (foll t kd.n).map Arr.D) rfl ?_ ⟨_, rfl, ?_⟩
      · rw [List.all_map, List.all_eq_true]
        intro x hx
        have hx := (List.mem_filter.mp hx).1
        exact cl_arr (ok.nms _ (ok.as.f x hx)) (ok.nms _ (ok.as.s x hx))
      cases hf : foll t kd.n with
      | nil =>
        rw [List.map_nil, if_pos (by rfl)]
        rw [e3]
        exact END _ v6 (k4 + 1 + 1) (by omega) wok' wr' (by omega) (by omega)
      | cons b bs =>
        rw [← hf]
        rw [if_neg (by rw [hf]; simp)]
        have f1 : 1 ≤ (foll t kd.n).length := by rw [hf]; simp
        walk_at "zn"
        refine draw_s (by omega) (by omega) (by omega) (by omega) (fun r7 v7 r70 r71 => ?_)
        obtain ⟨x, hx, ex⟩ := at_map (g := Arr.D) (l := foll t kd.n) r70 (by omega)
        have hx2 := List.mem_filter.mp hx
        have xb := ok.as.g x hx2.1
        have xg : 1 ≤ x.g * g ∧ x.g * g ≤ 12 * 60 := ⟨by have := Int.mul_le_mul xb.1 g1 (by omega) (by omega); omega, Int.mul_le_mul xb.2 g2 (by omega) (by omega)⟩
        try simp only [dSeq]
        try simp only [dIfS, dTest, dOp, dVar, dC, dCB, daCons, daNil, dSet, dRet, dNext, dDrop, dAsg, dPar, dAug, dAddI, dBreak, dCont, dRetN, slot, dLen, dCmpI, dSub, dAdd, dMul, dDiv, dMod, dPow, dNeg, dUn, dIx, dInt1, dAbs, dChain, dAnd, dOr, dNot, dAndV, dOrV, dNotV, dTru, dTruB, dIf, dTup, dLst, mkL, dSlice, dSl, doNone, doSome, dSum, dAll, dAny, dList, dTuple, dMax, dMin, eq_ii, ne_ii, eq_ss, ne_ss, eq_bb, ne_bb, eq_nn, ne_nn, dIsN, dNotN, dFgt, dIsB, dNotB, gN, gT, gsNil, gsCons, gSet, dBM, dAppend, dClear, dFld, dFldS, dProp, dCall, dMeth, dMake, dMakeN, daStar, dDictP, dCallO, dFor, dLc, diR1, diR2, diR3, diL, diT, diRv, diS, diE, dFmt, dFStr, dJs, dCallN, dFrzE, frz_l, in_ss, notin_ss, drR1, drR2, dListR, dRaise, dRaise0, dTryAs, dTry, dXf, dAddO, dInO, isL, insOf, Option.some.injEq, List.cons.injEq, D.int.injEq, D.bl.injEq, D.str.injEq, D.lst.injEq, D.tup.injEq, D.ref.injEq, MO.lst.injEq, MO.ins.injEq, mset_mset, and_true, true_and, and_self, and_assoc, exists_eq_left', exists_eq_left, exists_and_left, exists_and_right, exists_eq', List.set_cons_zero, List.set_cons_succ, decide_eq_true_eq, sqOf, lsOf, List.length_cons, List.length_nil, sizeLine_eq, List.append_nil, List.cons_append, List.nil_append, if_true, if_false, Bool.false_eq_true, reduceCtorEq, reduceIte, Nat.reduceAdd, Nat.reduceLeDiff, mset_same, Option.bind_some, List.length_map, Prod.mk.injEq, at0, at1, at2, at3, at4, at5, at6, at7, ix30, ix31, ix32, ix20, ix21, ix10, isi_ii, isi_ib, isi_ll, isi_bb, isi_ss, isi_tt, isi_is, isi_si, Bool.not_true, Bool.not_false, dCopyK, dGet2K, dDctR, dDisp1, dFrzEK, ex, Arr.D]
        refine ⟨mul_small (by omega), ?_⟩
        refine draw_s (by omega) (by omega) (by omega) (by omega) (fun r8 v8 r80 r81 => ?_)
        walk_at "zs"
        refine draw_s (by omega) (by omega) (by omega) (by omega) (fun r9 v9 r90 r91 => ?_)
        have r89 : 0 ≤ r8 * r9 ∧ r8 * r9 ≤ 2 * 29 := ⟨Int.mul_nonneg r80 r90, Int.mul_le_mul (by omega) (by omega) r90 (by omega)⟩
        walk_at "zs"
        refine ⟨mul_small (by omega), ?_⟩
        walk_at "zn"
        refine lc_filterD (g := Knd.D) (p := fun y : Knd => decide (y.n = x.s)) (f := Knd.D) (by rw [sizeLine_eq]; omega) (fun y hy => ⟨_, rfl, fun Q' q' => ?_, fun _ Q' q' => ?_⟩) ?_
        · simp only [wipeD, Knd.D]
          walk_at "zs"
          exact q'
        · simp only [wipeD]
          walk_at "zs"
          exact q'
        obtain ⟨k5, hk5, ek5⟩ := known (ok.as.s x hx2.1)
        obtain ⟨k6, hk6, ek6⟩ := at_map (g := Knd.D) (l := t.ks.filter fun y : Knd => decide (y.n = x.s)) (r := 0) (by omega) (by
          have := List.length_pos_of_mem (l := t.ks.filter fun y : Knd => decide (y.n = x.s)) (List.mem_filter.mpr ⟨hk5, decide_eq_true ek5⟩)
          omega)
        have hk62 := List.mem_filter.mp hk6
        try simp only [dIfS, dTest, dOp, dVar, dC, dCB, daCons, daNil, dSet, dRet, dNext, dDrop, dAsg, dPar, dAug, dAddI, dBreak, dCont, dRetN, slot, dLen, dCmpI, dSub, dAdd, dMul, dDiv, dMod, dPow, dNeg, dUn, dIx, dInt1, dAbs, dChain, dAnd, dOr, dNot, dAndV, dOrV, dNotV, dTru, dTruB, dIf, dTup, dLst, mkL, dSlice, dSl, doNone, doSome, dSum, dAll, dAny, dList, dTuple, dMax, dMin, eq_ii, ne_ii, eq_ss, ne_ss, eq_bb, ne_bb, eq_nn, ne_nn, dIsN, dNotN, dFgt, dIsB, dNotB, gN, gT, gsNil, gsCons, gSet, dBM, dAppend, dClear, dFld, dFldS, dProp, dCall, dMeth, dMake, dMakeN, daStar, dDictP, dCallO, dFor, dLc, diR1, diR2, diR3, diL, diT, diRv, diS, diE, dFmt, dFStr, dJs, dCallN, dFrzE, frz_l, in_ss, notin_ss, drR1, drR2, dListR, dRaise, dRaise0, dTryAs, dTry, dXf, dAddO, dInO, isL, insOf, Option.some.injEq, List.cons.injEq, D.int.injEq, D.bl.injEq, D.str.injEq, D.lst.injEq, D.tup.injEq, D.ref.injEq, MO.lst.injEq, MO.ins.injEq, mset_mset, and_true, true_and, and_self, and_assoc, exists_eq_left', exists_eq_left, exists_and_left, exists_and_right, exists_eq', List.set_cons_zero, List.set_cons_succ, decide_eq_true_eq, sqOf, lsOf, List.length_cons, List.length_nil, sizeLine_eq, List.append_nil, List.cons_append, List.nil_append, if_true, if_false, Bool.false_eq_true, reduceCtorEq, reduceIte, Nat.reduceAdd, Nat.reduceLeDiff, mset_same, Option.bind_some, List.length_map, Prod.mk.injEq, at0, at1, at2, at3, at4, at5, at6, at7, ix30, ix31, ix32, ix20, ix21, ix10, isi_ii, isi_ib, isi_ll, isi_bb, isi_ss, isi_tt, isi_is, isi_si, Bool.not_true, Bool.not_false, dCopyK, dGet2K, dDctR, dDisp1, dFrzEK, ek6]
        rw [e2]
        refine (hP1 _ _ _).mpr ⟨w ++ [⟨kd.n, mo, co⟩], k6, _, v9, _, _, _, _, _, _, wl', wok', hk62.1, ⟨?_, ?_⟩, wr', fun _ => ⟨x, hx2.1, ?_, ?_, ?_⟩, ⟨?_, ?_⟩, rfl, rfl⟩
        · omega
        · omega
        · rw [wl', show j + 1 - 1 = w.length by omega, jAt_last]
          exact of_decide_eq_true hx2.2
        · exact (of_decide_eq_true hk62.2).symm
        · rw [wl', show j + 1 - 1 = w.length by omega, jAt_last]
          show x.g * g ≤ mo + x.g * g + r8 * r9 - mo
          omega
        · omega
        · omega
    walk_at "zs"
    by_cases hr : r6 = 1
    · rw [if_pos hr]
      exact ⟨mul_small (by omega), H _ _ _ rfl rfl rfl (by omega) (by omega)⟩
    · rw [if_neg hr]
      exact H _ _ _ rfl rfl rfl (by omega) (by omega)
  · intro rr m' hp1
    obtain ⟨w, kd, mo, v4, k4, o7, o8, o9, o10, o11, wl, wok, hkd, ⟨m0, m1⟩, wr, lk, ⟨k40, k41⟩, rfl, rfl⟩ := (hP1 _ _ _).mp hp1
    rw [rngD_len] at *
    exact ⟨_, rfl, END w v4 k4 (by omega) wok wr k40 (by omega)⟩
structure PS' where
  lf : List Int
  sl : List Sl
def wtP (J : List Rw) (v t : Int) (lf : List Int) : List Nat := (List.range J.length).filter fun k => decide (relT J v k ≤ t ∧ 0 < lfA lf k)
def unitP (J : List Rw) (lt : Nat → Nat → Bool) (v t : Int) (p : PS') : PS' :=
  if wtP J v t p.lf = [] then p else ⟨p.lf.set (minN lt (wtP J v t p.lf)) (lfA p.lf (minN lt (wtP J v t p.lf)) - 1), addSl p.sl t (t + 1) (minN lt (wtP J v t p.lf))⟩
def playP (J : List Rw) (lt : Nat → Nat → Bool) (v : Int) : Nat → Int → PS' → PS'
  | 0, _, p => p
  | n + 1, t, p => playP J lt v n (t + 1) (unitP J lt v t p)
theorem playP_add {J : List Rw} {lt : Nat → Nat → Bool} {v : Int} : ∀ (m n : Nat) (t : Int) (p : PS'), playP J lt v (m + n) t p = playP J lt v n (t + m) (playP J lt v m t p)
  | 0, n, t, p => by rw [Nat.zero_add]; show _ = playP J lt v n (t + ((0 : Nat) : Int)) p; rw [show t + ((0 : Nat) : Int) = t by omega]
  | m + 1, n, t, p => by
    rw [show m + 1 + n = m + n + 1 by omega]
    show playP J lt v (m + n) (t + 1) _ = playP J lt v n (t + ((m + 1 : Nat) : Int)) (playP J lt v m (t + 1) _)
    rw [playP_add m n, show t + 1 + (m : Int) = t + ((m + 1 : Nat) : Int) by omega]
theorem addSl_grow (ss : List Sl) (s t e : Int) (i : Nat) : addSl (addSl ss s t i) t e i = addSl ss s e i := by
  rcases List.eq_nil_or_concat ss with rfl | ⟨pre, y, rfl⟩
  · simp [addSl]
  · rw [List.concat_eq_append]
    unfold addSl
    rw [List.getLast?_append, List.getLast?_singleton, Option.some_or]
    by_cases h : y.i = (i : Int) ∧ y.e = s
    · simp [h]
    · simp [h]
theorem minN_cg {lt : Nat → Nat → Bool} (lo : LtOk lt) {n : Nat} (tot : ∀ a b, a < n → b < n → a ≠ b → lt a b = true ∨ lt b a = true) {xs ys : List Nat} (bd : ∀ z ∈ xs, z < n) (hx : xs ≠ []) (h : ∀ z, z ∈ xs ↔ z ∈ ys) : minN lt xs = minN lt ys := by
  obtain ⟨x, xs, rfl⟩ : ∃ x r, xs = x :: r := by cases xs with | nil => exact absurd rfl hx | cons a b => exact ⟨a, b, rfl⟩
  obtain ⟨y, ys, rfl⟩ : ∃ x r, ys = x :: r := by
    cases ys with
    | nil => exact absurd ((h x).mp List.mem_cons_self) List.not_mem_nil
    | cons a b => exact ⟨a, b, rfl⟩
  obtain ⟨a1, a2⟩ := minN_spec lo xs x
  obtain ⟨b1, b2⟩ := minN_spec lo ys y
  apply Decidable.byContradiction
  intro ne
  rcases tot _ _ (bd _ a1) (bd _ ((h _).mpr b1)) ne with q | q
  · rw [b2 _ ((h _).mp a1)] at q; cases q
  · rw [a2 _ ((h _).mpr b1)] at q; cases q
theorem play_grow {J : List Rw} {lt : Nat → Nat → Bool} {v : Int} {i : Nat} : ∀ (n : Nat) (t : Int) (lf : List Int) (sl : List Sl), i < lf.length → (n : Int) ≤ lfA lf i →
    (∀ (d : Nat) (lf' : List Int), d < n → (∀ k, k ≠ i → lfA lf' k = lfA lf k) → 0 < lfA lf' i → wtP J v (t + d) lf' ≠ [] ∧ minN lt (wtP J v (t + d) lf') = i) →
    playP J lt v (n + 1) t ⟨lf, sl⟩ = playP J lt v 1 (t + n) (playP J lt v n t ⟨lf, sl⟩) ∧ (0 < n → playP J lt v n t ⟨lf, sl⟩ = ⟨lf.set i (lfA lf i - n), addSl sl t (t + n) i⟩)
  | 0, t, lf, sl, hi, hn, h => ⟨by rw [show (0 : Nat) + 1 = 0 + 1 from rfl]; exact playP_add 0 1 t _, fun z => absurd z (Nat.lt_irrefl 0)⟩
  | n + 1, t, lf, sl, hi, hn, h => by
    refine ⟨playP_add (n + 1) 1 t _, fun _ => ?_⟩
    have h1 := play_grow n t lf sl hi (by omega) fun d lf' hd => h d lf' (by omega)
    rw [h1.1]
    by_cases h0 : n = 0
    · subst h0
      obtain ⟨g1, g2⟩ := h 0 lf (by omega) (fun _ _ => rfl) (by omega)
      show unitP J lt v (t + ((0 : Nat) : Int)) ⟨lf, sl⟩ = _
      unfold unitP
      rw [if_neg g1]
      dsimp only
      rw [g2]
      rw [show t + ((0 : Nat) : Int) = t by omega]
      rfl
    · rw [h1.2 (by omega)]
      obtain ⟨g1, g2⟩ := h n (lf.set i (lfA lf i - n)) (by omega) (fun k hk => by rw [lfA_set hi, if_neg hk]) (by rw [lfA_set hi, if_pos rfl]; omega)
      show unitP J lt v (t + (n : Int)) ⟨lf.set i (lfA lf i - n), addSl sl t (t + n) i⟩ = _
      unfold unitP
      rw [if_neg g1]
      dsimp only
      rw [g2, lfA_set hi, if_pos rfl, List.set_set, addSl_grow]
      rw [show lfA lf i - (n : Int) - 1 = lfA lf i - ((n + 1 : Nat) : Int) by omega, show t + (n : Int) + 1 = t + ((n + 1 : Nat) : Int) by omega]
theorem play_idle {J : List Rw} {lt : Nat → Nat → Bool} {v : Int} : ∀ (n : Nat) (t : Int) (p : PS'), (∀ d : Nat, d < n → wtP J v (t + d) p.lf = []) → playP J lt v n t p = p
  | 0, _, _, _ => rfl
  | n + 1, t, p, h => by
    have e : unitP J lt v t p = p := by
      have := h 0 (by omega)
      rw [show t + ((0 : Nat) : Int) = t by omega] at this
      unfold unitP
      rw [if_pos this]
    show playP J lt v n (t + 1) (unitP J lt v t p) = p
    rw [e]
    exact play_idle n (t + 1) p fun d hd => by rw [show t + 1 + (d : Int) = t + ((d + 1 : Nat) : Int) by omega]; exact h (d + 1) (by omega)
theorem wtP_mem {J : List Rw} {v t : Int} {lf : List Int} {k : Nat} : k ∈ wtP J v t lf ↔ k < J.length ∧ relT J v k ≤ t ∧ 0 < lfA lf k := by
  unfold wtP
  rw [List.mem_filter, List.mem_range, decide_eq_true_eq]
theorem play_step {J : List Rw} (ok : JOk J) {lt : Nat → Nat → Bool} (lo : LtOk lt) (tot : ∀ a b, a < J.length → b < J.length → a ≠ b → lt a b = true ∨ lt b a = true) {v : Int} (hv : 1 ≤ v) {s : SS} (I : SchI J lt v s) (go : ¬ (s.wt = [] ∧ ¬ s.up < J.length)) :
    ∃ n : Nat, s.now + n = endS J lt v s ∧ playP J lt v n s.now ⟨s.lf, s.sl⟩ = ⟨(stepS J lt v s).lf, (stepS J lt v s).sl⟩ := by
  have S := stf ok lo hv I go
  have c1 := S.now
  have c12 := S.endg
  have up := S.up
  have lfl := I.lfl
  have ixl := S.ixl
  have lp := S.lp
  have lft := S.lft
  obtain ⟨n1, h1⟩ : ∃ n1 : Nat, s.now + n1 = nowS J v s := ⟨(nowS J v s - s.now).toNat, by omega⟩
  obtain ⟨n2, h2⟩ : ∃ n2 : Nat, nowS J v s + n2 = endS J lt v s := ⟨(endS J lt v s - nowS J v s).toNat, by omega⟩
  refine ⟨n1 + n2, by omega, ?_⟩
  rw [playP_add, play_idle n1 s.now ⟨s.lf, s.sl⟩ (fun d hd => ?_), h1]
  · have hl : lftS J lt v s = lfA s.lf (ixS J lt v s) - (endS J lt v s - nowS J v s) := rfl
    have g := (play_grow (J := J) (lt := lt) (v := v) (i := ixS J lt v s) n2 (nowS J v s) s.lf s.sl (by omega) (by omega) (fun d lf' hd ho hp => ?_)).2 (by omega)
    · rw [g, h2, show lfA s.lf (ixS J lt v s) - (n2 : Int) = lftS J lt v s by omega]
      rfl
    · have same : ∀ z, z ∈ wtP J v (nowS J v s + d) lf' ↔ z ∈ wtS J v s := fun z => by
        rw [wtP_mem]
        constructor
        · rintro ⟨a, b, c⟩
          have zu : z < upS J v s := by
            apply Decidable.byContradiction
            intro q
            have := S.endr z (by omega) a
            omega
          by_cases e : z = ixS J lt v s
          · rw [e]; exact S.mem
          · rw [ho z e] at c
            refine (S.wt z).mpr ?_
            by_cases q : z ∈ s.wt
            · exact .inl q
            · by_cases q2 : s.up ≤ z
              · exact .inr ⟨q2, zu⟩
              · have := I.zer z (by omega) q; omega
        · intro hz
          have zu : z < upS J v s := by
            rcases (S.wt z).mp hz with q | q
            · have := I.wtu z q; omega
            · exact q.2
          refine ⟨by omega, by have := S.rlo z zu; omega, ?_⟩
          by_cases e : z = ixS J lt v s
          · rw [e]; exact hp
          · rw [ho z e]
            have := I.pos z (by omega) (by
              rcases (S.wt z).mp hz with q | q
              · exact .inl q
              · exact .inr q.1)
            omega
      have ne : wtP J v (nowS J v s + d) lf' ≠ [] := fun e => by
        have := (same _).mpr S.mem
        rw [e] at this
        cases this
      exact ⟨ne, minN_cg lo tot (fun z hz => (wtP_mem.mp hz).1) ne same⟩
  · have hw : s.wt = [] := S.nowg (by omega)
    refine List.filter_eq_nil_iff.mpr fun k hk => ?_
    rw [decide_eq_true_eq]
    rintro ⟨a, b⟩
    have hk := List.mem_range.mp hk
    by_cases q : k < s.up
    · have := I.zer k q (by rw [hw]; exact List.not_mem_nil)
      have b : 0 < lfA s.lf k := b
      omega
    · have h4 := rel_mono (v := v) ok hv (i := s.up) (j := k) (by omega) hk
      have h5 : nowS J v s = max s.now (relT J v s.up) := by unfold nowS; rw [if_pos hw]
      omega
theorem play_go {J : List Rw} (ok : JOk J) {lt : Nat → Nat → Bool} (lo : LtOk lt) (tot : ∀ a b, a < J.length → b < J.length → a ≠ b → lt a b = true ∨ lt b a = true) {v : Int} (hv : 1 ≤ v) : ∀ (F : Nat) (s : SS), SchI J lt v s →
    ∃ n : Nat, s.now + n = (goS J lt v F s).now ∧ playP J lt v n s.now ⟨s.lf, s.sl⟩ = ⟨(goS J lt v F s).lf, (goS J lt v F s).sl⟩
  | 0, s, _ => ⟨0, by show s.now + ((0 : Nat) : Int) = s.now; omega, rfl⟩
  | F + 1, s, I => by
    unfold goS
    by_cases go : s.wt = [] ∧ ¬ s.up < J.length
    · rw [if_pos go]
      exact ⟨0, by omega, rfl⟩
    · rw [if_neg go]
      obtain ⟨n1, e1, p1⟩ := play_step ok lo tot hv I go
      obtain ⟨n2, e2, p2⟩ := play_go ok lo tot hv F (stepS J lt v s) (sch_step ok lo hv I go)
      have e1' : s.now + (n1 : Int) = (stepS J lt v s).now := e1
      refine ⟨n1 + n2, by omega, ?_⟩
      rw [playP_add, p1, e1']
      exact p2
def lastR (J : List Rw) (v : Int) : Int := J.foldl (fun a x => max a (x.r * v)) 0
def phiS (J : List Rw) (v : Int) (s : SS) : Int := max s.now (lastR J v) + s.lf.sum
theorem foldl_max {v : Int} : ∀ (J : List Rw) (a : Int), a ≤ J.foldl (fun a x => max a (x.r * v)) a ∧ ∀ x ∈ J, x.r * v ≤ J.foldl (fun a x => max a (x.r * v)) a
  | [], a => ⟨Int.le_refl _, fun x h => absurd h List.not_mem_nil⟩
  | y :: J, a => by
    obtain ⟨h1, h2⟩ := foldl_max (v := v) J (max a (y.r * v))
    rw [List.foldl_cons]
    refine ⟨by have := Int.le_max_left a (y.r * v); omega, fun x hx => ?_⟩
    rcases List.mem_cons.mp hx with rfl | hx
    · have := Int.le_max_right a (x.r * v); omega
    · exact h2 x hx
theorem rel_last {J : List Rw} {v : Int} {i : Nat} (h : i < J.length) : relT J v i ≤ lastR J v := (foldl_max J 0).2 _ (rAt_memJ h)
theorem sum_set {l : List Int} {i : Nat} {x : Int} (h : i < l.length) : (l.set i x).sum = l.sum - lfA l i + x := by
  induction l generalizing i with
  | nil => cases h
  | cons y l ih =>
    cases i with
    | zero => show x + l.sum = y + l.sum - y + x; omega
    | succ i =>
      have := ih (i := i) (by simpa using h)
      show y + (l.set i x).sum = y + l.sum - lfA l i + x
      omega
theorem phi_step {J : List Rw} (ok : JOk J) {lt : Nat → Nat → Bool} (lo : LtOk lt) {v : Int} (hv : 1 ≤ v) {s : SS} (I : SchI J lt v s) (go : ¬ (s.wt = [] ∧ ¬ s.up < J.length)) : phiS J v (stepS J lt v s) ≤ phiS J v s := by
  have S := stf ok lo hv I go
  have c1 := S.now
  have c12 := S.endg
  have ixl := S.ixl
  have up := S.up
  have lfl := I.lfl
  have hN : nowS J v s ≤ max s.now (lastR J v) := by
    unfold nowS
    split
    · rename_i hw
      have hu : s.up < J.length := Decidable.byContradiction fun z => go ⟨hw, z⟩
      have := rel_last (v := v) hu
      omega
    · omega
  show max (endS J lt v s) (lastR J v) + (s.lf.set (ixS J lt v s) (lftS J lt v s)).sum ≤ max s.now (lastR J v) + s.lf.sum
  rw [sum_set (by omega)]
  have hl : lftS J lt v s = lfA s.lf (ixS J lt v s) - (endS J lt v s - nowS J v s) := rfl
  omega
theorem phi_go {J : List Rw} (ok : JOk J) {lt : Nat → Nat → Bool} (lo : LtOk lt) {v : Int} (hv : 1 ≤ v) : ∀ (F : Nat) (s : SS), SchI J lt v s → phiS J v (goS J lt v F s) ≤ phiS J v s
  | 0, s, _ => Int.le_refl _
  | F + 1, s, I => by
    unfold goS
    by_cases go : s.wt = [] ∧ ¬ s.up < J.length
    · rw [if_pos go]; exact Int.le_refl _
    · rw [if_neg go]
      exact Int.le_trans (phi_go ok lo hv F _ (sch_step ok lo hv I go)) (phi_step ok lo hv I go)
theorem sum_zero {l : List Int} (h : ∀ j, j < l.length → lfA l j = 0) : l.sum = 0 := by
  induction l with
  | nil => rfl
  | cons y l ih =>
    have h0 := h 0 (by simp)
    have h1 := ih fun j hj => h (j + 1) (by simpa using hj)
    have h0 : y = 0 := h0
    rw [List.sum_cons, h0, h1]; rfl
theorem play_zero {J : List Rw} {lt : Nat → Nat → Bool} {v t : Int} {p : PS'} (h : ∀ j, j < J.length → lfA p.lf j = 0) (n : Nat) : playP J lt v n t p = p := play_idle n t p fun d _ => by
  refine List.filter_eq_nil_iff.mpr fun k hk => ?_
  rw [decide_eq_true_eq]
  rintro ⟨_, b⟩
  rw [h k (List.mem_range.mp hk)] at b
  omega
theorem play_all {J : List Rw} (ok : JOk J) {lt : Nat → Nat → Bool} (lo : LtOk lt) (tot : ∀ a b, a < J.length → b < J.length → a ≠ b → lt a b = true ∨ lt b a = true) {v : Int} (hv : 1 ≤ v) :
    ∃ (n : Nat) (lf : List Int), (n : Int) ≤ lastR J v + (J.map Rw.c).sum ∧ playP J lt v n 0 ⟨J.map Rw.c, []⟩ = ⟨lf, sched J lt v⟩ ∧ ∀ j, j < J.length → lfA lf j = 0 := by
  obtain ⟨n, e, p⟩ := play_go ok lo tot hv (2 * J.length + 1) (s0S J) (sinv0 ok hv)
  have g := go_at ok lo hv (2 * J.length + 1) (s0S J) (sinv0 ok hv) (mu0 J v)
  have ph := phi_go ok lo hv (2 * J.length + 1) (s0S J) (sinv0 ok hv)
  obtain ⟨s, hs⟩ : ∃ s, s = goS J lt v (2 * J.length + 1) (s0S J) := ⟨_, rfl⟩
  have hsl : s.sl = sched J lt v := by rw [hs]; rfl
  rw [← hs] at e p g ph
  have z : ∀ j, j < J.length → lfA s.lf j = 0 := fun j hj => g.2.1.zer j (by have := g.1.2; omega) (by rw [g.1.1]; exact List.not_mem_nil)
  have e0 : (0 : Int) + n = s.now := e
  refine ⟨n, s.lf, ?_, by rw [← hsl]; exact p, z⟩
  have h0 : s.lf.sum = 0 := sum_zero fun j hj => z j (by rw [← g.2.1.lfl]; exact hj)
  have ph : max s.now (lastR J v) + s.lf.sum ≤ max 0 (lastR J v) + (J.map Rw.c).sum := ph
  have hl : 0 ≤ lastR J v := (foldl_max (v := v) J 0).1
  omega
theorem toks_ne {x y : PyData} (h : PySem.W.alike x y = true) (q : PyData.eqv x y = false) : PySem.W.keyToks x ≠ PySem.W.keyToks y := fun e => by
  have t := (PySem.W.toks_eqv x y h).2 q [] [Sum.inl 0]
  rw [e, PyProof.Rows.lex_irrefl, PySem.W.lex_pre] at t
  exact absurd t (by decide)
theorem klt_tot {kd : List D} {kp : List PyData} (h : KOk kd kp) {a b : Nat} (ha : a < kp.length) (hb : b < kp.length) (ne : a ≠ b) : klt kp a b = true ∨ klt kp b a = true := by
  have ma : kp.getD a .none ∈ kp := by rw [List.getD_eq_getElem?_getD, List.getElem?_eq_getElem ha]; exact List.getElem_mem _
  have mb : kp.getD b .none ∈ kp := by rw [List.getD_eq_getElem?_getD, List.getElem?_eq_getElem hb]; exact List.getElem_mem _
  have al1 := h.al _ ma _ mb
  have al2 := h.al _ mb _ ma
  have e1 : klt kp a b = _ := PySem.W.dataLt_pair (x := kp.getD a .none) (y := .int a) (x' := kp.getD b .none) (y' := .int b) al1 rfl
  have e2 : klt kp b a = _ := PySem.W.dataLt_pair (x := kp.getD b .none) (y := .int b) (x' := kp.getD a .none) (y' := .int a) al2 rfl
  rw [e1, e2]
  generalize kp.getD a .none = x at *
  generalize kp.getD b .none = y at *
  cases q : PyData.eqv x y with
  | true =>
    have t := (PySem.W.toks_eqv x y al1).1 q
    have q2 : PyData.eqv y x = true := by
      cases q2 : PyData.eqv y x with
      | true => rfl
      | false => exact absurd t.symm (toks_ne al2 q2)
    have n1 : PyData.eqv (.int (a : Int)) (.int (b : Int)) = false := by simp [PyData.eqv]; omega
    have n2 : PyData.eqv (.int (b : Int)) (.int (a : Int)) = false := by simp [PyData.eqv]; omega
    rw [if_pos rfl, if_pos q2, n1, n2, PySem.W.dataLt_int, PySem.W.dataLt_int]
    simp
    omega
  | false =>
    have q2 : PyData.eqv y x = false := by
      cases q2 : PyData.eqv y x with
      | false => rfl
      | true => exact absurd ((PySem.W.toks_eqv y x al2).1 q2).symm (toks_ne al1 q)
    rw [if_neg (by decide), if_neg (by rw [q2]; decide)]
    cases d1 : PySem.W.dataLt x y with
    | true => exact .inl rfl
    | false =>
      cases d2 : PySem.W.dataLt y x with
      | true => exact .inr rfl
      | false => exact absurd (PyProof.Rows.lex_total _ _ d1 d2) (toks_ne al1 q)
def wkP (kd : List D) (k : Nat) : D := .tup [kd.getD k .non, .int k]
def toPN (d : D) : PyData := (toP d).getD .none
theorem wk_toP {kd : List D} {kp : List PyData} (kok : KOk kd kp) {k : Nat} (hk : k < kd.length) : toP (wkP kd k) = some (krk kp k) := by
  have h := ky_toPs kok.ps [k] (fun i hi => by rw [List.mem_singleton.mp hi]; exact hk)
  rw [List.map_cons, List.map_nil, List.map_cons, List.map_nil, List.map_cons, List.map_nil] at h
  have e1 : kyD kd (.int (k : Int)) = wkP kd k := by show D.tup [kd.getD ((k : Nat) : Int).toNat .non, .int k] = _; rw [Int.toNat_natCast]; rfl
  have e2 : kyP kp (.int (k : Int)) = krk kp k := by show krk kp ((k : Nat) : Int).toNat = _; rw [Int.toNat_natCast]
  rw [e1, e2, toPs] at h
  cases q : toP (wkP kd k) with
  | none => rw [q] at h; cases h
  | some p =>
    rw [q] at h
    cases h
    rfl
theorem wk_toPs {kd : List D} {kp : List PyData} (kok : KOk kd kp) : ∀ {wt : List Nat}, (∀ i ∈ wt, i < kd.length) → toPs (wt.map (wkP kd)) = some ((wt.map (wkP kd)).map toPN)
  | [], _ => rfl
  | w :: ws, hw => by
    have h := wk_toP kok (hw w List.mem_cons_self)
    rw [List.map_cons, List.map_cons, toPs, h, wk_toPs kok fun i hi => hw i (List.mem_cons_of_mem _ hi)]
    unfold toPN
    rw [h]
    rfl
theorem wk_mem {kd : List D} {kp : List PyData} (kok : KOk kd kp) {wt : List Nat} (hw : ∀ i ∈ wt, i < kd.length) {x : PyData} (hx : x ∈ (wt.map (wkP kd)).map toPN) : ∃ k ∈ wt, x = krk kp k := by
  obtain ⟨d, hd, rfl⟩ := List.mem_map.mp hx
  obtain ⟨k, hk, rfl⟩ := List.mem_map.mp hd
  refine ⟨k, hk, ?_⟩
  unfold toPN
  rw [wk_toP kok (hw k hk)]
  rfl
theorem wk_alike {kd : List D} {kp : List PyData} (kok : KOk kd kp) {wt : List Nat} (hw : ∀ i ∈ wt, i < kd.length) : PySem.W.AllAlike ((wt.map (wkP kd)).map toPN) := by
  have hl := toPs_len kok.ps
  intro x hx y hy
  obtain ⟨i, hi, rfl⟩ := wk_mem kok hw hx
  obtain ⟨j, hj, rfl⟩ := wk_mem kok hw hy
  have mem : ∀ k ∈ wt, kp.getD k .none ∈ kp := fun k hk => by
    have := hw k hk
    rw [List.getD_eq_getElem?_getD, List.getElem?_eq_getElem (by omega)]
    exact List.getElem_mem _
  have := kok.al _ (mem i hi) _ (mem j hj)
  unfold krk
  generalize kp.getD i PyData.none = p1 at *
  generalize kp.getD j PyData.none = p2 at *
  simp [PySem.W.alike, PySem.W.alikeAll, this]
theorem wk_sort {kd : List D} {kp : List PyData} (kok : KOk kd kp) {wt : List Nat} (hw : ∀ i ∈ wt, i < kd.length) : PySem.W.Sortable ((wt.map (wkP kd)).map toPN) := .inl fun x hx => by
  obtain ⟨i, hi, rfl⟩ := wk_mem kok hw hx
  exact ⟨_, _, rfl⟩
theorem wk_depth {kd : List D} {kp : List PyData} (kok : KOk kd kp) {wt : List Nat} (hw : ∀ i ∈ wt, i < kd.length) : ∀ x ∈ wt.map (wkP kd), (toPN x).depth ≤ 60 := fun x hx => by
  obtain ⟨k, hk, e⟩ := wk_mem kok hw (List.mem_map.mpr ⟨x, hx, rfl⟩)
  rw [e]
  have hlt := hw k hk
  have hl := toPs_len kok.ps
  have : kp.getD k .none ∈ kp := by
    rw [List.getD_eq_getElem?_getD, List.getElem?_eq_getElem (by omega)]
    exact List.getElem_mem _
  have := kok.dp _ this
  unfold krk
  generalize kp.getD k PyData.none = d0 at *
  simp [PyData.depth, PyData.depthAll]
  omega
theorem sort_pick {kd : List D} {kp : List PyData} (kok : KOk kd kp) {wt : List Nat} (hw : ∀ i ∈ wt, i < kd.length) (ne : wt ≠ []) : ∃ rest, (wt.map (wkP kd)).mergeSort (PySem.W.dataLe false toPN) = wkP kd (minN (klt kp) wt) :: rest := by
  have hl := toPs_len kok.ps
  have tot := PySem.W.sortLe_total (PyProof.Rows.listOrd PyProof.Rows.itemOrd) false (fun c : D => PySem.W.keyToks (toPN c))
  have pw := List.pairwise_mergeSort (le := PySem.W.dataLe false toPN) tot.trans (fun a b => Bool.or_eq_true_iff.mpr (tot.total a b)) (wt.map (wkP kd))
  have pm := List.mergeSort_perm (wt.map (wkP kd)) (PySem.W.dataLe false toPN)
  generalize (wt.map (wkP kd)).mergeSort (PySem.W.dataLe false toPN) = out at *
  cases out with
  | nil => exact absurd (List.map_eq_nil_iff.mp pm.symm.eq_nil) ne
  | cons x rest =>
    refine ⟨rest, ?_⟩
    obtain ⟨k, hk, rfl⟩ := List.mem_map.mp (pm.mem_iff.mp List.mem_cons_self)
    have le : ∀ z ∈ wt, klt kp z k = false := fun z hz => by
      by_cases e : wkP kd z = wkP kd k
      · have : (z : Int) = k := by
          unfold wkP at e
          injection e with e
          injection e with _ e
          injection e with e _
          injection e
        rw [show z = k by omega]
        exact (klt_ok kp).ir k
      · have hz' : wkP kd z ∈ rest := by
          rcases List.mem_cons.mp (pm.mem_iff.mpr (List.mem_map.mpr ⟨z, hz, rfl⟩)) with q | q
          · exact absurd q e
          · exact q
        have h := List.rel_of_pairwise_cons pw hz'
        rw [PySem.W.dataLe_eq] at h
        have h : (!PySem.W.dataLt (toPN (wkP kd z)) (toPN (wkP kd k))) = true := h
        unfold toPN at h
        rw [wk_toP kok (hw z hz), wk_toP kok (hw k hk)] at h
        have h : (!klt kp z k) = true := h
        simpa using h
    obtain ⟨w0, wr, e⟩ : ∃ w0 wr, wt = w0 :: wr := by
      cases wt with
      | nil => exact absurd rfl ne
      | cons a b => exact ⟨a, b, rfl⟩
    obtain ⟨m1, m2⟩ := minN_spec (klt_ok kp) wr w0
    rw [← e] at m1 m2
    have : k = minN (klt kp) wt := by
      apply Decidable.byContradiction
      intro q
      rcases klt_tot kok (show k < kp.length by have := hw k hk; omega) (show minN (klt kp) wt < kp.length by have := hw _ m1; omega) q with h | h
      · rw [m2 k hk] at h; cases h
      · rw [le _ m1] at h; cases h
    rw [← this]
structure PI (J : List Rw) (p : PS') : Prop where
  len : p.lf.length = J.length
  nn : ∀ k, 0 ≤ lfA p.lf k
  bd : (p.sl.length : Int) + p.lf.sum ≤ (J.map Rw.c).sum
theorem lfA_nn {l : List Int} (h : ∀ x ∈ l, 0 ≤ x) (k : Nat) : 0 ≤ lfA l k := by
  unfold lfA
  rw [List.getD_eq_getElem?_getD]
  cases e : l[k]? with
  | none => exact Int.le_refl 0
  | some x => exact h x (List.mem_of_getElem? e)
theorem pi0 {J : List Rw} (ok : JOk J) : PI J ⟨J.map Rw.c, []⟩ := ⟨List.length_map _, lfA_nn fun x hx => by obtain ⟨y, hy, rfl⟩ := List.mem_map.mp hx; have := ok.c y hy; omega, by show ((0 : Nat) : Int) + (J.map Rw.c).sum ≤ (J.map Rw.c).sum; omega⟩
theorem min_mem {lt : Nat → Nat → Bool} (lo : LtOk lt) {wt : List Nat} (ne : wt ≠ []) : minN lt wt ∈ wt := by
  cases wt with
  | nil => exact absurd rfl ne
  | cons a b => exact (minN_spec lo b a).1
theorem pi_unit {J : List Rw} {lt : Nat → Nat → Bool} (lo : LtOk lt) {v t : Int} {p : PS'} (h : PI J p) : PI J (unitP J lt v t p) := by
  unfold unitP
  split
  · exact h
  · rename_i ne
    have hm := wtP_mem.mp (min_mem lo ne)
    generalize minN lt (wtP J v t p.lf) = i at *
    have hl := h.len
    refine ⟨by rw [List.length_set]; exact hl, fun k => ?_, ?_⟩
    · dsimp only
      rw [lfA_set (by omega)]
      split
      · omega
      · exact h.nn k
    · dsimp only
      rw [sum_set (by omega)]
      have := addSl_len p.sl t (t + 1) i
      have := h.bd
      omega
theorem playP_succ {J : List Rw} {lt : Nat → Nat → Bool} {v : Int} (n : Nat) (t : Int) (p : PS') : playP J lt v (n + 1) t p = unitP J lt v (t + n) (playP J lt v n t p) := by
  rw [playP_add n 1]
  rfl
theorem nn_sum {l : List Int} (h : ∀ k, 0 ≤ lfA l k) : 0 ≤ l.sum ∧ (l.sum = 0 → ∀ k, lfA l k = 0) := by
  induction l with
  | nil => exact ⟨Int.le_refl 0, fun _ k => by unfold lfA; simp⟩
  | cons x l ih =>
    have h0 : 0 ≤ x := h 0
    have h1 := ih fun k => h (k + 1)
    rw [List.sum_cons]
    refine ⟨by omega, fun e k => ?_⟩
    cases k with
    | zero => show x = 0; omega
    | succ k => exact h1.2 (by omega) k
theorem pl_done {J : List Rw} {lt : Nat → Nat → Bool} {v : Int} {sc : List Sl} {lf : List Int} {N : Nat} (hN : playP J lt v N 0 ⟨J.map Rw.c, []⟩ = ⟨lf, sc⟩) (hz : ∀ j, j < J.length → lfA lf j = 0) {j : Nat} (h : N ≤ j ∨ ∀ k, k < J.length → lfA (playP J lt v j 0 ⟨J.map Rw.c, []⟩).lf k = 0) : (playP J lt v j 0 ⟨J.map Rw.c, []⟩).sl = sc := by
  by_cases c : N ≤ j
  · obtain ⟨d, rfl⟩ : ∃ d, j = N + d := ⟨j - N, by omega⟩
    rw [playP_add, hN, play_zero (p := ⟨lf, sc⟩) hz]
  · have h2 := h.resolve_left c
    clear h
    obtain ⟨d, rfl⟩ : ∃ d, N = j + d := ⟨N - j, by omega⟩
    rw [playP_add, play_zero (p := playP J lt v j 0 ⟨J.map Rw.c, []⟩) h2] at hN
    rw [hN]
theorem sum_le {l : List Int} {B : Int} (h : ∀ x ∈ l, x ≤ B) : l.sum ≤ B * l.length := by
  induction l with
  | nil => simp
  | cons x l ih =>
    have h0 := h x List.mem_cons_self
    have h1 := ih fun y hy => h y (List.mem_cons_of_mem _ hy)
    rw [List.sum_cons, List.length_cons]
    have : B * ((l.length + 1 : Nat) : Int) = B * l.length + B := by rw [show ((l.length + 1 : Nat) : Int) = (l.length : Int) + 1 by omega, Int.mul_add, Int.mul_one]
    omega
theorem pl_ex {m1 : M} {al asl : Addr} (h1 : m1 al = none) (h2 : m1 asl = none) (d1 : asl ≠ al) : ∃ RB : List Int → List Sl → M,
    (∀ a b, mset (mset m1 al (.lst (a.map D.int))) asl (.lst (b.map Sl.D)) = RB a b) ∧ (∀ a b, RB a b al = some (.lst (a.map D.int))) ∧ (∀ a b, RB a b asl = some (.lst (b.map Sl.D))) ∧
    (∀ a b a', mset (RB a b) al (.lst (a'.map D.int)) = RB a' b) ∧ (∀ a b b', mset (RB a b) asl (.lst (b'.map Sl.D)) = RB a b') ∧ ∀ a b, MSub m1 (mdel (RB a b) asl) := by
  refine ⟨fun a b => mset (mset m1 al (.lst (a.map D.int))) asl (.lst (b.map Sl.D)), fun a b => rfl, fun a b => ?_, fun a b => mset_same, fun a b a' => ?_, fun a b b' => mset_mset, fun a b => ?_⟩
  · dsimp only; rw [mset_ne d1.symm, mset_same]
  · dsimp only; rw [mset_comm d1, mset_mset]
  · intro b' o e
    have n1 : b' ≠ al := fun z => by rw [z, h1] at e; cases e
    have n2 : b' ≠ asl := fun z => by rw [z, h2] at e; cases e
    dsimp only; rw [mdel_ne n2, mset_ne n2, mset_ne n1]
    exact e
abbrev plR (J : List Rw) (kd : List D) (v : Int) (al asl : Addr) (o4 o5 o7 o8 o9 o10 : Option D) : DSt := [some (jbsD J), some (.lst kd), some (.int v), some (.ref al), o4, o5, some (.ref asl), o7, o8, o9, o10]
theorem pl_wait {J : List Rw} (ok : JOk J) {kd : List D} (kl : kd.length = J.length) {v t : Int} (hv : 1 ≤ v ∧ v ≤ 99) {al asl : Addr} {o4 o5 o8 o9 o10 : Option D} {m : M} {lf : List Int} (hl : m al = some (.lst (lf.map D.int))) (ll : lf.length = J.length) {DD : DEnds}
    (q : DD.nx (plR J kd v al asl o4 o5 (some (.int t)) (some (.lst ((wtP J v t lf).map (wkP kd)))) o9 o10) m) :
    dSet 8 (dLc false (diR1 (daCons (dCB dLen (daCons (dVar 0) daNil)) daNil)) (.one 9) [9] (dAnd (dTest (dOp dLe (dOp (dMul false) (dOp dIx (dOp dIx (dVar 0) (dVar 9)) (dC (.int 3))) (dVar 2)) (dVar 7))) (dTest (dOp dGt (dOp dIx (dVar 3) (dVar 9)) (dC (.int 0))))) (dTup (daCons (dOp dIx (dVar 1) (dVar 9)) (daCons (dVar 9) daNil)))) DD (plR J kd v al asl o4 o5 (some (.int t)) o8 o9 o10) m := by
  have jl := ok.len
  walk_at "zs"
  refine ⟨by omega, by omega, ?_⟩
  try rw [Int.toNat_natCast]
  refine lc_rngF (n := J.length) (fun k => decide (relT J v k ≤ t ∧ 0 < lfA lf k)) (wkP kd) (by rw [sizeLine_eq]; omega) (fun k hk Q' q' => ?_) (fun k hk hp Q' q' => ?_) ?_
  · rw [Int.zero_add]
    have e1 := at_J hk
    have e2 := lf_at (l := lf) (i := k) (by omega)
    simp only [wipeD]
    try simp only [dIfS, dTest, dOp, dVar, dC, dCB, daCons, daNil, dSet, dRet, dNext, dDrop, dAsg, dPar, dAug, dAddI, dBreak, dCont, dRetN, slot, dLen, dCmpI, dSub, dAdd, dMul, dDiv, dMod, dPow, dNeg, dUn, dIx, dInt1, dAbs, dChain, dAnd, dOr, dNot, dAndV, dOrV, dNotV, dTru, dTruB, dIf, dTup, dLst, mkL, dSlice, dSl, doNone, doSome, dSum, dAll, dAny, dList, dTuple, dMax, dMin, eq_ii, ne_ii, eq_ss, ne_ss, eq_bb, ne_bb, eq_nn, ne_nn, dIsN, dNotN, dFgt, dIsB, dNotB, gN, gT, gsNil, gsCons, gSet, dBM, dAppend, dClear, dFld, dFldS, dProp, dCall, dMeth, dMake, dMakeN, daStar, dDictP, dCallO, dFor, dLc, diR1, diR2, diR3, diL, diT, diRv, diS, diE, dFmt, dFStr, dJs, dCallN, dFrzE, frz_l, in_ss, notin_ss, drR1, drR2, dListR, dRaise, dRaise0, dTryAs, dTry, dXf, dAddO, dInO, isL, insOf, Option.some.injEq, List.cons.injEq, D.int.injEq, D.bl.injEq, D.str.injEq, D.lst.injEq, D.tup.injEq, D.ref.injEq, MO.lst.injEq, MO.ins.injEq, mset_mset, and_true, true_and, and_self, and_assoc, exists_eq_left', exists_eq_left, exists_and_left, exists_and_right, exists_eq', List.set_cons_zero, List.set_cons_succ, decide_eq_true_eq, sqOf, lsOf, List.length_cons, List.length_nil, sizeLine_eq, List.append_nil, List.cons_append, List.nil_append, if_true, if_false, Bool.false_eq_true, reduceCtorEq, reduceIte, Nat.reduceAdd, Nat.reduceLeDiff, mset_same, Option.bind_some, List.length_map, Prod.mk.injEq, at0, at1, at2, at3, at4, at5, at6, at7, ix30, ix31, ix32, ix20, ix21, ix10, isi_ii, isi_ib, isi_ll, isi_bb, isi_ss, isi_tt, isi_is, isi_si, Bool.not_true, Bool.not_false, dCopyK, dGet2K, dDctR, dDisp1, dFrzEK, e1, e2, Rw.D, hl]
    refine ⟨rel_mul ok hv hk, ?_⟩
    by_cases c1 : relT J v k ≤ t
    · rw [if_pos (show (rAt J k).r * v ≤ t from c1)]
      by_cases c2 : 0 < lfA lf k
      · simpa [c1, c2] using q'
      · simpa [c1, c2] using q'
    · rw [if_neg (show ¬ (rAt J k).r * v ≤ t from c1)]
      simpa [c1] using q'
  · rw [Int.zero_add]
    have e : atI kd (k : Int) = some (kd.getD k .non) := atI_nat (by rw [List.getD_eq_getElem?_getD, List.getElem?_eq_getElem (by omega)]; rfl)
    simp only [wipeD]
    try simp only [dIfS, dTest, dOp, dVar, dC, dCB, daCons, daNil, dSet, dRet, dNext, dDrop, dAsg, dPar, dAug, dAddI, dBreak, dCont, dRetN, slot, dLen, dCmpI, dSub, dAdd, dMul, dDiv, dMod, dPow, dNeg, dUn, dIx, dInt1, dAbs, dChain, dAnd, dOr, dNot, dAndV, dOrV, dNotV, dTru, dTruB, dIf, dTup, dLst, mkL, dSlice, dSl, doNone, doSome, dSum, dAll, dAny, dList, dTuple, dMax, dMin, eq_ii, ne_ii, eq_ss, ne_ss, eq_bb, ne_bb, eq_nn, ne_nn, dIsN, dNotN, dFgt, dIsB, dNotB, gN, gT, gsNil, gsCons, gSet, dBM, dAppend, dClear, dFld, dFldS, dProp, dCall, dMeth, dMake, dMakeN, daStar, dDictP, dCallO, dFor, dLc, diR1, diR2, diR3, diL, diT, diRv, diS, diE, dFmt, dFStr, dJs, dCallN, dFrzE, frz_l, in_ss, notin_ss, drR1, drR2, dListR, dRaise, dRaise0, dTryAs, dTry, dXf, dAddO, dInO, isL, insOf, Option.some.injEq, List.cons.injEq, D.int.injEq, D.bl.injEq, D.str.injEq, D.lst.injEq, D.tup.injEq, D.ref.injEq, MO.lst.injEq, MO.ins.injEq, mset_mset, and_true, true_and, and_self, and_assoc, exists_eq_left', exists_eq_left, exists_and_left, exists_and_right, exists_eq', List.set_cons_zero, List.set_cons_succ, decide_eq_true_eq, sqOf, lsOf, List.length_cons, List.length_nil, sizeLine_eq, List.append_nil, List.cons_append, List.nil_append, if_true, if_false, Bool.false_eq_true, reduceCtorEq, reduceIte, Nat.reduceAdd, Nat.reduceLeDiff, mset_same, Option.bind_some, List.length_map, Prod.mk.injEq, at0, at1, at2, at3, at4, at5, at6, at7, ix30, ix31, ix32, ix20, ix21, ix10, isi_ii, isi_ib, isi_ll, isi_bb, isi_ss, isi_tt, isi_is, isi_si, Bool.not_true, Bool.not_false, dCopyK, dGet2K, dDctR, dDisp1, dFrzEK, e]
    exact q'
  · exact q
theorem pl_work {J : List Rw} {kd : List D} {kp : List PyData} (kok : KOk kd kp) (kl : kd.length = J.length) {v t : Int} {al asl : Addr} {o4 o5 o9 o10 : Option D} {RB : List Int → List Sl → M} (ra : ∀ a b, RB a b al = some (.lst (a.map D.int))) (rs : ∀ a b, RB a b asl = some (.lst (b.map Sl.D)))
    (sa : ∀ a b a', mset (RB a b) al (.lst (a'.map D.int)) = RB a' b) (ss : ∀ a b b', mset (RB a b) asl (.lst (b'.map Sl.D)) = RB a b') {p : PS'} (ll : p.lf.length = J.length) (sl : p.sl.length < 10000000) {DD : DEnds}
    (q : ∀ o10, DD.nx (plR J kd v al asl o4 o5 (some (.int t)) (some (.lst ((wtP J v t p.lf).map (wkP kd)))) o9 o10) (RB (unitP J (klt kp) v t p).lf (unitP J (klt kp) v t p).sl)) :
    dIfS (dTest (dOp dNeZ (dVar 8) (dLst false daNil))) (dSeq (dSet 10 (dOp dIx (dOp dIx (dCB (dSortP false) (daCons (dVar 8) daNil)) (dC (.int 0))) (dC (.int 1))))
    (dSeq (dAsg (dOp dSub (dOp dIx (dVar 3) (dVar 10)) (dC (.int 1))) (gSet (dVar 3) (dVar 10)))
    (dIfS (dAnd (dTest (dOp dNeZ (dVar 6) (dLst false daNil))) (dAnd (dTest (dOp dEq (dOp dIx (dOp dIx (dVar 6) (dUn dNeg (dC (.int 1)))) (dC (.int 2))) (dVar 10))) (dTest (dOp dEq (dOp dIx (dOp dIx (dVar 6) (dUn dNeg (dC (.int 1)))) (dC (.int 1))) (dVar 7))))) (dAsg (dTup (daCons (dOp dIx (dOp dIx (dVar 6) (dUn dNeg (dC (.int 1)))) (dC (.int 0))) (daCons (dOp (dAdd false) (dVar 7) (dC (.int 1))) (daCons (dVar 10) daNil)))) (gSet (dVar 6) (dUn dNeg (dC (.int 1))))) (dDrop (dBM isL dAppend (dVar 6) (daCons (dTup (daCons (dVar 7) (daCons (dOp (dAdd false) (dVar 7) (dC (.int 1))) (daCons (dVar 10) daNil)))) daNil)))))) dNext DD (plR J kd v al asl o4 o5 (some (.int t)) (some (.lst ((wtP J v t p.lf).map (wkP kd)))) o9 o10) (RB p.lf p.sl) := by
  unfold unitP at q
  obtain ⟨plf, psl⟩ := p
  dsimp only at *
  by_cases ne : wtP J v t plf = []
  · rw [if_pos ne] at q
    rw [ne] at q ⊢
    try simp only [dIfS, dTest, dOp, dVar, dC, dCB, daCons, daNil, dSet, dRet, dNext, dDrop, dAsg, dPar, dAug, dAddI, dBreak, dCont, dRetN, slot, dLen, dCmpI, dSub, dAdd, dMul, dDiv, dMod, dPow, dNeg, dUn, dIx, dInt1, dAbs, dChain, dAnd, dOr, dNot, dAndV, dOrV, dNotV, dTru, dTruB, dIf, dTup, dLst, mkL, dSlice, dSl, doNone, doSome, dSum, dAll, dAny, dList, dTuple, dMax, dMin, eq_ii, ne_ii, eq_ss, ne_ss, eq_bb, ne_bb, eq_nn, ne_nn, dIsN, dNotN, dFgt, dIsB, dNotB, gN, gT, gsNil, gsCons, gSet, dBM, dAppend, dClear, dFld, dFldS, dProp, dCall, dMeth, dMake, dMakeN, daStar, dDictP, dCallO, dFor, dLc, diR1, diR2, diR3, diL, diT, diRv, diS, diE, dFmt, dFStr, dJs, dCallN, dFrzE, frz_l, in_ss, notin_ss, drR1, drR2, dListR, dRaise, dRaise0, dTryAs, dTry, dXf, dAddO, dInO, isL, insOf, Option.some.injEq, List.cons.injEq, D.int.injEq, D.bl.injEq, D.str.injEq, D.lst.injEq, D.tup.injEq, D.ref.injEq, MO.lst.injEq, MO.ins.injEq, mset_mset, and_true, true_and, and_self, and_assoc, exists_eq_left', exists_eq_left, exists_and_left, exists_and_right, exists_eq', List.set_cons_zero, List.set_cons_succ, decide_eq_true_eq, sqOf, lsOf, List.length_cons, List.length_nil, sizeLine_eq, List.append_nil, List.cons_append, List.nil_append, if_true, if_false, Bool.false_eq_true, reduceCtorEq, reduceIte, Nat.reduceAdd, Nat.reduceLeDiff, mset_same, Option.bind_some, List.length_map, Prod.mk.injEq, at0, at1, at2, at3, at4, at5, at6, at7, ix30, ix31, ix32, ix20, ix21, ix10, isi_ii, isi_ib, isi_ll, isi_bb, isi_ss, isi_tt, isi_is, isi_si, Bool.not_true, Bool.not_false, dCopyK, dGet2K, dDctR, dDisp1, dFrzEK, dNeZ]
    exact q _
  rw [if_neg ne] at q
  have hw : ∀ i ∈ wtP J v t plf, i < kd.length := fun i hi => by rw [kl]; exact (wtP_mem.mp hi).1
  have hm := wtP_mem.mp (min_mem (klt_ok kp) ne)
  obtain ⟨rest, hsort⟩ := sort_pick kok hw ne
  have hne : ((wtP J v t plf).map (wkP kd)).isEmpty = false := by
    cases h : wtP J v t plf with
    | nil => exact absurd h ne
    | cons a b => rfl
  have k1 := wk_toPs kok hw
  have k2 := wk_alike kok hw
  have k3 := wk_sort kok hw
  have k4 := wk_depth kok hw
  generalize wtP J v t plf = wt at *
  generalize minN (klt kp) wt = i at *
  generalize wt.map (wkP kd) = ws at *
  have il : i < plf.length := by omega
  have e2 := lf_at il
  try simp only [dSeq]
  try simp only [dIfS, dTest, dOp, dVar, dC, dCB, daCons, daNil, dSet, dRet, dNext, dDrop, dAsg, dPar, dAug, dAddI, dBreak, dCont, dRetN, slot, dLen, dCmpI, dSub, dAdd, dMul, dDiv, dMod, dPow, dNeg, dUn, dIx, dInt1, dAbs, dChain, dAnd, dOr, dNot, dAndV, dOrV, dNotV, dTru, dTruB, dIf, dTup, dLst, mkL, dSlice, dSl, doNone, doSome, dSum, dAll, dAny, dList, dTuple, dMax, dMin, eq_ii, ne_ii, eq_ss, ne_ss, eq_bb, ne_bb, eq_nn, ne_nn, dIsN, dNotN, dFgt, dIsB, dNotB, gN, gT, gsNil, gsCons, gSet, dBM, dAppend, dClear, dFld, dFldS, dProp, dCall, dMeth, dMake, dMakeN, daStar, dDictP, dCallO, dFor, dLc, diR1, diR2, diR3, diL, diT, diRv, diS, diE, dFmt, dFStr, dJs, dCallN, dFrzE, frz_l, in_ss, notin_ss, drR1, drR2, dListR, dRaise, dRaise0, dTryAs, dTry, dXf, dAddO, dInO, isL, insOf, Option.some.injEq, List.cons.injEq, D.int.injEq, D.bl.injEq, D.str.injEq, D.lst.injEq, D.tup.injEq, D.ref.injEq, MO.lst.injEq, MO.ins.injEq, mset_mset, and_true, true_and, and_self, and_assoc, exists_eq_left', exists_eq_left, exists_and_left, exists_and_right, exists_eq', List.set_cons_zero, List.set_cons_succ, decide_eq_true_eq, sqOf, lsOf, List.length_cons, List.length_nil, sizeLine_eq, List.append_nil, List.cons_append, List.nil_append, if_true, if_false, Bool.false_eq_true, reduceCtorEq, reduceIte, Nat.reduceAdd, Nat.reduceLeDiff, mset_same, Option.bind_some, List.length_map, Prod.mk.injEq, at0, at1, at2, at3, at4, at5, at6, at7, ix30, ix31, ix32, ix20, ix21, ix10, isi_ii, isi_ib, isi_ll, isi_bb, isi_ss, isi_tt, isi_is, isi_si, Bool.not_true, Bool.not_false, dCopyK, dGet2K, dDctR, dDisp1, dFrzEK, dNeZ, hne]
  try simp only [dSeq]
  try simp only [dIfS, dTest, dOp, dVar, dC, dCB, daCons, daNil, dSet, dRet, dNext, dDrop, dAsg, dPar, dAug, dAddI, dBreak, dCont, dRetN, slot, dLen, dCmpI, dSub, dAdd, dMul, dDiv, dMod, dPow, dNeg, dUn, dIx, dInt1, dAbs, dChain, dAnd, dOr, dNot, dAndV, dOrV, dNotV, dTru, dTruB, dIf, dTup, dLst, mkL, dSlice, dSl, doNone, doSome, dSum, dAll, dAny, dList, dTuple, dMax, dMin, eq_ii, ne_ii, eq_ss, ne_ss, eq_bb, ne_bb, eq_nn, ne_nn, dIsN, dNotN, dFgt, dIsB, dNotB, gN, gT, gsNil, gsCons, gSet, dBM, dAppend, dClear, dFld, dFldS, dProp, dCall, dMeth, dMake, dMakeN, daStar, dDictP, dCallO, dFor, dLc, diR1, diR2, diR3, diL, diT, diRv, diS, diE, dFmt, dFStr, dJs, dCallN, dFrzE, frz_l, in_ss, notin_ss, drR1, drR2, dListR, dRaise, dRaise0, dTryAs, dTry, dXf, dAddO, dInO, isL, insOf, Option.some.injEq, List.cons.injEq, D.int.injEq, D.bl.injEq, D.str.injEq, D.lst.injEq, D.tup.injEq, D.ref.injEq, MO.lst.injEq, MO.ins.injEq, mset_mset, and_true, true_and, and_self, and_assoc, exists_eq_left', exists_eq_left, exists_and_left, exists_and_right, exists_eq', List.set_cons_zero, List.set_cons_succ, decide_eq_true_eq, sqOf, lsOf, List.length_cons, List.length_nil, sizeLine_eq, List.append_nil, List.cons_append, List.nil_append, if_true, if_false, Bool.false_eq_true, reduceCtorEq, reduceIte, Nat.reduceAdd, Nat.reduceLeDiff, mset_same, Option.bind_some, List.length_map, Prod.mk.injEq, at0, at1, at2, at3, at4, at5, at6, at7, ix30, ix31, ix32, ix20, ix21, ix10, isi_ii, isi_ib, isi_ll, isi_bb, isi_ss, isi_tt, isi_is, isi_si, Bool.not_true, Bool.not_false, dCopyK, dGet2K, dDctR, dDisp1, dFrzEK, dSortP]
  refine ⟨toPN, k1, k2, k3, k4, ?_⟩
  rw [hsort]
  try simp only [dIfS, dTest, dOp, dVar, dC, dCB, daCons, daNil, dSet, dRet, dNext, dDrop, dAsg, dPar, dAug, dAddI, dBreak, dCont, dRetN, slot, dLen, dCmpI, dSub, dAdd, dMul, dDiv, dMod, dPow, dNeg, dUn, dIx, dInt1, dAbs, dChain, dAnd, dOr, dNot, dAndV, dOrV, dNotV, dTru, dTruB, dIf, dTup, dLst, mkL, dSlice, dSl, doNone, doSome, dSum, dAll, dAny, dList, dTuple, dMax, dMin, eq_ii, ne_ii, eq_ss, ne_ss, eq_bb, ne_bb, eq_nn, ne_nn, dIsN, dNotN, dFgt, dIsB, dNotB, gN, gT, gsNil, gsCons, gSet, dBM, dAppend, dClear, dFld, dFldS, dProp, dCall, dMeth, dMake, dMakeN, daStar, dDictP, dCallO, dFor, dLc, diR1, diR2, diR3, diL, diT, diRv, diS, diE, dFmt, dFStr, dJs, dCallN, dFrzE, frz_l, in_ss, notin_ss, drR1, drR2, dListR, dRaise, dRaise0, dTryAs, dTry, dXf, dAddO, dInO, isL, insOf, Option.some.injEq, List.cons.injEq, D.int.injEq, D.bl.injEq, D.str.injEq, D.lst.injEq, D.tup.injEq, D.ref.injEq, MO.lst.injEq, MO.ins.injEq, mset_mset, and_true, true_and, and_self, and_assoc, exists_eq_left', exists_eq_left, exists_and_left, exists_and_right, exists_eq', List.set_cons_zero, List.set_cons_succ, decide_eq_true_eq, sqOf, lsOf, List.length_cons, List.length_nil, sizeLine_eq, List.append_nil, List.cons_append, List.nil_append, if_true, if_false, Bool.false_eq_true, reduceCtorEq, reduceIte, Nat.reduceAdd, Nat.reduceLeDiff, mset_same, Option.bind_some, List.length_map, Prod.mk.injEq, at0, at1, at2, at3, at4, at5, at6, at7, ix30, ix31, ix32, ix20, ix21, ix10, isi_ii, isi_ib, isi_ll, isi_bb, isi_ss, isi_tt, isi_is, isi_si, Bool.not_true, Bool.not_false, dCopyK, dGet2K, dDctR, dDisp1, dFrzEK, wkP]
  try simp only [dSeq]
  try simp only [dIfS, dTest, dOp, dVar, dC, dCB, daCons, daNil, dSet, dRet, dNext, dDrop, dAsg, dPar, dAug, dAddI, dBreak, dCont, dRetN, slot, dLen, dCmpI, dSub, dAdd, dMul, dDiv, dMod, dPow, dNeg, dUn, dIx, dInt1, dAbs, dChain, dAnd, dOr, dNot, dAndV, dOrV, dNotV, dTru, dTruB, dIf, dTup, dLst, mkL, dSlice, dSl, doNone, doSome, dSum, dAll, dAny, dList, dTuple, dMax, dMin, eq_ii, ne_ii, eq_ss, ne_ss, eq_bb, ne_bb, eq_nn, ne_nn, dIsN, dNotN, dFgt, dIsB, dNotB, gN, gT, gsNil, gsCons, gSet, dBM, dAppend, dClear, dFld, dFldS, dProp, dCall, dMeth, dMake, dMakeN, daStar, dDictP, dCallO, dFor, dLc, diR1, diR2, diR3, diL, diT, diRv, diS, diE, dFmt, dFStr, dJs, dCallN, dFrzE, frz_l, in_ss, notin_ss, drR1, drR2, dListR, dRaise, dRaise0, dTryAs, dTry, dXf, dAddO, dInO, isL, insOf, Option.some.injEq, List.cons.injEq, D.int.injEq, D.bl.injEq, D.str.injEq, D.lst.injEq, D.tup.injEq, D.ref.injEq, MO.lst.injEq, MO.ins.injEq, mset_mset, and_true, true_and, and_self, and_assoc, exists_eq_left', exists_eq_left, exists_and_left, exists_and_right, exists_eq', List.set_cons_zero, List.set_cons_succ, decide_eq_true_eq, sqOf, lsOf, List.length_cons, List.length_nil, sizeLine_eq, List.append_nil, List.cons_append, List.nil_append, if_true, if_false, Bool.false_eq_true, reduceCtorEq, reduceIte, Nat.reduceAdd, Nat.reduceLeDiff, mset_same, Option.bind_some, List.length_map, Prod.mk.injEq, at0, at1, at2, at3, at4, at5, at6, at7, ix30, ix31, ix32, ix20, ix21, ix10, isi_ii, isi_ib, isi_ll, isi_bb, isi_ss, isi_tt, isi_is, isi_si, Bool.not_true, Bool.not_false, dCopyK, dGet2K, dDctR, dDisp1, dFrzEK, ra, e2]
  refine ⟨i, by unfold ixN; rw [if_pos (by omega), if_pos (by omega), Int.toNat_natCast], ?_⟩
  rw [← List.map_set, sa]
  generalize plf.set i (lfA plf i - 1) = lf2 at *
  rcases List.eq_nil_or_concat psl with rfl | ⟨pre, y, rfl⟩
  · have hr := rs lf2 []
    rw [List.map_nil] at hr
    try simp only [dIfS, dTest, dOp, dVar, dC, dCB, daCons, daNil, dSet, dRet, dNext, dDrop, dAsg, dPar, dAug, dAddI, dBreak, dCont, dRetN, slot, dLen, dCmpI, dSub, dAdd, dMul, dDiv, dMod, dPow, dNeg, dUn, dIx, dInt1, dAbs, dChain, dAnd, dOr, dNot, dAndV, dOrV, dNotV, dTru, dTruB, dIf, dTup, dLst, mkL, dSlice, dSl, doNone, doSome, dSum, dAll, dAny, dList, dTuple, dMax, dMin, eq_ii, ne_ii, eq_ss, ne_ss, eq_bb, ne_bb, eq_nn, ne_nn, dIsN, dNotN, dFgt, dIsB, dNotB, gN, gT, gsNil, gsCons, gSet, dBM, dAppend, dClear, dFld, dFldS, dProp, dCall, dMeth, dMake, dMakeN, daStar, dDictP, dCallO, dFor, dLc, diR1, diR2, diR3, diL, diT, diRv, diS, diE, dFmt, dFStr, dJs, dCallN, dFrzE, frz_l, in_ss, notin_ss, drR1, drR2, dListR, dRaise, dRaise0, dTryAs, dTry, dXf, dAddO, dInO, isL, insOf, Option.some.injEq, List.cons.injEq, D.int.injEq, D.bl.injEq, D.str.injEq, D.lst.injEq, D.tup.injEq, D.ref.injEq, MO.lst.injEq, MO.ins.injEq, mset_mset, and_true, true_and, and_self, and_assoc, exists_eq_left', exists_eq_left, exists_and_left, exists_and_right, exists_eq', List.set_cons_zero, List.set_cons_succ, decide_eq_true_eq, sqOf, lsOf, List.length_cons, List.length_nil, sizeLine_eq, List.append_nil, List.cons_append, List.nil_append, if_true, if_false, Bool.false_eq_true, reduceCtorEq, reduceIte, Nat.reduceAdd, Nat.reduceLeDiff, mset_same, Option.bind_some, List.length_map, Prod.mk.injEq, at0, at1, at2, at3, at4, at5, at6, at7, ix30, ix31, ix32, ix20, ix21, ix10, isi_ii, isi_ib, isi_ll, isi_bb, isi_ss, isi_tt, isi_is, isi_si, Bool.not_true, Bool.not_false, dCopyK, dGet2K, dDctR, dDisp1, dFrzEK, dNeZ, hr, List.isEmpty_nil]
    have := q (some (.int i))
    rw [← ss lf2 []] at this
    exact ⟨by omega, this⟩
  · rw [List.concat_eq_append] at *
    have hr := rs lf2 (pre ++ [y])
    have hx2 : atI ((pre ++ [y]).map Sl.D) (-1) = some y.D := by rw [List.map_append]; exact atl
    have he : ((pre ++ [y]).map Sl.D).isEmpty = false := by simp
    try simp only [dIfS, dTest, dOp, dVar, dC, dCB, daCons, daNil, dSet, dRet, dNext, dDrop, dAsg, dPar, dAug, dAddI, dBreak, dCont, dRetN, slot, dLen, dCmpI, dSub, dAdd, dMul, dDiv, dMod, dPow, dNeg, dUn, dIx, dInt1, dAbs, dChain, dAnd, dOr, dNot, dAndV, dOrV, dNotV, dTru, dTruB, dIf, dTup, dLst, mkL, dSlice, dSl, doNone, doSome, dSum, dAll, dAny, dList, dTuple, dMax, dMin, eq_ii, ne_ii, eq_ss, ne_ss, eq_bb, ne_bb, eq_nn, ne_nn, dIsN, dNotN, dFgt, dIsB, dNotB, gN, gT, gsNil, gsCons, gSet, dBM, dAppend, dClear, dFld, dFldS, dProp, dCall, dMeth, dMake, dMakeN, daStar, dDictP, dCallO, dFor, dLc, diR1, diR2, diR3, diL, diT, diRv, diS, diE, dFmt, dFStr, dJs, dCallN, dFrzE, frz_l, in_ss, notin_ss, drR1, drR2, dListR, dRaise, dRaise0, dTryAs, dTry, dXf, dAddO, dInO, isL, insOf, Option.some.injEq, List.cons.injEq, D.int.injEq, D.bl.injEq, D.str.injEq, D.lst.injEq, D.tup.injEq, D.ref.injEq, MO.lst.injEq, MO.ins.injEq, mset_mset, and_true, true_and, and_self, and_assoc, exists_eq_left', exists_eq_left, exists_and_left, exists_and_right, exists_eq', List.set_cons_zero, List.set_cons_succ, decide_eq_true_eq, sqOf, lsOf, List.length_cons, List.length_nil, sizeLine_eq, List.append_nil, List.cons_append, List.nil_append, if_true, if_false, Bool.false_eq_true, reduceCtorEq, reduceIte, Nat.reduceAdd, Nat.reduceLeDiff, mset_same, Option.bind_some, List.length_map, Prod.mk.injEq, at0, at1, at2, at3, at4, at5, at6, at7, ix30, ix31, ix32, ix20, ix21, ix10, isi_ii, isi_ib, isi_ll, isi_bb, isi_ss, isi_tt, isi_is, isi_si, Bool.not_true, Bool.not_false, dCopyK, dGet2K, dDctR, dDisp1, dFrzEK, dNeZ, hr, hx2, he, Sl.D]
    have el : addSl (pre ++ [y]) t (t + 1) i = if y.i = (i : Int) ∧ y.e = t then pre ++ [⟨y.s, t + 1, i⟩] else pre ++ [y] ++ [⟨t, t + 1, i⟩] := by
      unfold addSl
      rw [List.getLast?_append, List.getLast?_singleton, Option.some_or, List.dropLast_concat]
    have big : (pre ++ [y]).length < 16777216 := by omega
    have ea : (pre ++ [y]).map Sl.D ++ [D.tup [D.int t, D.int (t + 1), D.int i]] = (pre ++ [y] ++ [(⟨t, t + 1, i⟩ : Sl)]).map Sl.D := by simp [Sl.D]
    have q2 := q (some (.int i))
    dsimp only at q2
    rw [el] at q2
    by_cases c1 : y.i = (i : Int)
    · rw [if_pos c1]
      by_cases c2 : y.e = t
      · rw [if_pos c2]
        rw [if_pos ⟨c1, c2⟩] at q2
        refine ⟨pre.length, ?_, ?_⟩
        · unfold ixN
          rw [List.length_append, List.length_singleton]
          rw [if_neg (by omega), if_pos (by omega)]
          congr 1
          omega
        · have : ((pre ++ [y]).map Sl.D).set pre.length (D.tup [D.int y.s, D.int (t + 1), D.int i]) = (pre ++ [(⟨y.s, t + 1, i⟩ : Sl)]).map Sl.D := by
            rw [List.map_append, List.set_append_right _ _ (by rw [List.length_map]; exact Nat.le_refl _), List.length_map, Nat.sub_self, List.map_append]
            rfl
          rw [this, ss]
          exact q2
      · rw [if_neg c2, ea, ss]
        rw [if_neg (fun z => c2 z.2)] at q2
        exact ⟨big, q2⟩
    · rw [if_neg c1, ea, ss]
      rw [if_neg (fun z => c1 z.1)] at q2
      exact ⟨big, q2⟩
theorem pure_law_play {K : Fr0} {mg : Str → Option Value} (T : Txt K mg) (ds : List D) (m : M) (Q : D → M → Prop) (E : XD → M → Prop) (h : sp_law_play K ds m Q E) : t_law_play K (fun x _ m => E x m) { nx := fun _ m => Q .non m, rt := Q } (startD nm_law_play ds) m := by
  obtain ⟨J, kd, kp, v, rfl, jok, jl, jc, kok, kl, hv, q⟩ := h
  show t_law_play K _ _ [some (jbsD J), some (.lst kd), some (.int v), none, none, none, none, none, none, none, none] m
  unfold t_law_play
  walk_at "zn"
  refine lc_mapD (g := Rw.D) (f := fun x => D.int x.c) (by rw [sizeLine_eq]; omega) (fun x hx => ⟨_, rfl, fun Q' q' => ?_⟩) ?_
  · simp only [wipeD, Rw.D]
    walk_at "zs"
    exact q'
  have ec : (J.map fun x => D.int x.c) = (J.map Rw.c).map D.int := by rw [List.map_map]; rfl
  rw [ec]
  walk_at "zn"
  intro al hal
  walk_at "zn"
  walk_at "zn"
  obtain ⟨P1, hP1⟩ : ∃ P : Nat → DSt → M → Prop, ∀ j rr m', P j rr m' ↔ (∃ o4, m' = mset m al (.lst ((J.map Rw.c).map D.int)) ∧ rr = [some (jbsD J), some (.lst kd), some (.int v), some (.ref al), o4, some (.int ((J.take j).foldl (fun a x => max a (x.r * v)) 0)), none, none, none, none, none]) := ⟨_, fun _ _ _ => Iff.rfl⟩
  refine ⟨P1, (hP1 0 _ _).mpr ⟨_, rfl, rfl⟩, ?_, ?_⟩
  · intro j d rr m' hd hp
    obtain ⟨o4, rfl, rfl⟩ := (hP1 _ _ _).mp hp
    obtain ⟨x, hx, rfl⟩ := map_at hd
    try simp only [dIfS, dTest, dOp, dVar, dC, dCB, daCons, daNil, dSet, dRet, dNext, dDrop, dAsg, dPar, dAug, dAddI, dBreak, dCont, dRetN, slot, dLen, dCmpI, dSub, dAdd, dMul, dDiv, dMod, dPow, dNeg, dUn, dIx, dInt1, dAbs, dChain, dAnd, dOr, dNot, dAndV, dOrV, dNotV, dTru, dTruB, dIf, dTup, dLst, mkL, dSlice, dSl, doNone, doSome, dSum, dAll, dAny, dList, dTuple, dMax, dMin, eq_ii, ne_ii, eq_ss, ne_ss, eq_bb, ne_bb, eq_nn, ne_nn, dIsN, dNotN, dFgt, dIsB, dNotB, gN, gT, gsNil, gsCons, gSet, dBM, dAppend, dClear, dFld, dFldS, dProp, dCall, dMeth, dMake, dMakeN, daStar, dDictP, dCallO, dFor, dLc, diR1, diR2, diR3, diL, diT, diRv, diS, diE, dFmt, dFStr, dJs, dCallN, dFrzE, frz_l, in_ss, notin_ss, drR1, drR2, dListR, dRaise, dRaise0, dTryAs, dTry, dXf, dAddO, dInO, isL, insOf, Option.some.injEq, List.cons.injEq, D.int.injEq, D.bl.injEq, D.str.injEq, D.lst.injEq, D.tup.injEq, D.ref.injEq, MO.lst.injEq, MO.ins.injEq, mset_mset, and_true, true_and, and_self, and_assoc, exists_eq_left', exists_eq_left, exists_and_left, exists_and_right, exists_eq', List.set_cons_zero, List.set_cons_succ, decide_eq_true_eq, sqOf, lsOf, List.length_cons, List.length_nil, sizeLine_eq, List.append_nil, List.cons_append, List.nil_append, if_true, if_false, Bool.false_eq_true, reduceCtorEq, reduceIte, Nat.reduceAdd, Nat.reduceLeDiff, mset_same, Option.bind_some, List.length_map, Prod.mk.injEq, at0, at1, at2, at3, at4, at5, at6, at7, ix30, ix31, ix32, ix20, ix21, ix10, isi_ii, isi_ib, isi_ll, isi_bb, isi_ss, isi_tt, isi_is, isi_si, Bool.not_true, Bool.not_false, dCopyK, dGet2K, dDctR, dDisp1, dFrzEK, Rw.D]
    have e : (J.take (j + 1)).foldl (fun a x => max a (x.r * v)) 0 = max ((J.take j).foldl (fun a x => max a (x.r * v)) 0) (x.r * v) := by
      rw [List.take_add_one, hx, List.foldl_append]; rfl
    have hr := jok.rb x (mem_at hx)
    have hr0 := jok.r x (mem_at hx)
    exact ⟨mul_small (by omega), (hP1 _ _ _).mpr ⟨_, rfl, by rw [e]⟩⟩
  intro rr m' hp
  obtain ⟨o4, rfl, rfl⟩ := (hP1 _ _ _).mp hp
  rw [List.length_map, List.take_length]
  clear hp hP1 P1
  walk_at "zn"
  intro asl hasl
  have d1 : asl ≠ al := fun e => by rw [e, mset_same] at hasl; cases hasl
  rw [mset_ne d1] at hasl
  obtain ⟨RB, r0, ra, rs, sa, ss, sub⟩ := pl_ex hal hasl d1
  have r0 := r0 (J.map Rw.c) []
  rw [List.map_nil] at r0
  rw [r0]
  clear r0
  have hla : lastR J v = J.foldl (fun a x => max a (x.r * v)) 0 := rfl
  rw [← hla]
  have lo := klt_ok kp
  have hkl := toPs_len kok.ps
  obtain ⟨N, lf, hN, hpl, hz⟩ := play_all jok lo (fun a b ha hb ne => klt_tot kok (by omega) (by omega) ne) hv.1
  have la0 : 0 ≤ lastR J v := (foldl_max (v := v) J 0).1
  have laB : lastR J v ≤ 4 * 10 ^ 12 := by
    have : ∀ (J : List Rw) (a : Int), a ≤ 4 * 10 ^ 12 → (∀ x ∈ J, x.r * v ≤ 4 * 10 ^ 12) → J.foldl (fun a x => max a (x.r * v)) a ≤ 4 * 10 ^ 12 := by
      intro J
      induction J with
      | nil => intro a h _; exact h
      | cons y ys ih =>
        intro a h1 h2
        rw [List.foldl_cons]
        exact ih _ (by have := h2 y List.mem_cons_self; omega) fun x hx => h2 x (List.mem_cons_of_mem _ hx)
    refine this J 0 (by omega) fun x hx => ?_
    have h1 := jok.rb x hx
    have h0 := jok.r x hx
    have h2 : x.r * v ≤ x.r * 4 := Int.mul_le_mul_of_nonneg_left (by omega) h0
    omega
  have sB : (J.map Rw.c).sum ≤ 10 ^ 5 * ((J.map Rw.c).length : Int) := sum_le fun x hx => by
    obtain ⟨y, hy, rfl⟩ := List.mem_map.mp hx
    have := jc y hy
    omega
  rw [List.length_map] at sB
  have s0 := (nn_sum (pi0 jok).nn).1
  have s0 : 0 ≤ (J.map Rw.c).sum := s0
  try simp only [dSeq]
  try simp only [dIfS, dTest, dOp, dVar, dC, dCB, daCons, daNil, dSet, dRet, dNext, dDrop, dAsg, dPar, dAug, dAddI, dBreak, dCont, dRetN, slot, dLen, dCmpI, dSub, dAdd, dMul, dDiv, dMod, dPow, dNeg, dUn, dIx, dInt1, dAbs, dChain, dAnd, dOr, dNot, dAndV, dOrV, dNotV, dTru, dTruB, dIf, dTup, dLst, mkL, dSlice, dSl, doNone, doSome, dSum, dAll, dAny, dList, dTuple, dMax, dMin, eq_ii, ne_ii, eq_ss, ne_ss, eq_bb, ne_bb, eq_nn, ne_nn, dIsN, dNotN, dFgt, dIsB, dNotB, gN, gT, gsNil, gsCons, gSet, dBM, dAppend, dClear, dFld, dFldS, dProp, dCall, dMeth, dMake, dMakeN, daStar, dDictP, dCallO, dFor, dLc, diR1, diR2, diR3, diL, diT, diRv, diS, diE, dFmt, dFStr, dJs, dCallN, dFrzE, frz_l, in_ss, notin_ss, drR1, drR2, dListR, dRaise, dRaise0, dTryAs, dTry, dXf, dAddO, dInO, isL, insOf, Option.some.injEq, List.cons.injEq, D.int.injEq, D.bl.injEq, D.str.injEq, D.lst.injEq, D.tup.injEq, D.ref.injEq, MO.lst.injEq, MO.ins.injEq, mset_mset, and_true, true_and, and_self, and_assoc, exists_eq_left', exists_eq_left, exists_and_left, exists_and_right, exists_eq', List.set_cons_zero, List.set_cons_succ, decide_eq_true_eq, sqOf, lsOf, List.length_cons, List.length_nil, sizeLine_eq, List.append_nil, List.cons_append, List.nil_append, if_true, if_false, Bool.false_eq_true, reduceCtorEq, reduceIte, Nat.reduceAdd, Nat.reduceLeDiff, mset_same, Option.bind_some, List.length_map, Prod.mk.injEq, at0, at1, at2, at3, at4, at5, at6, at7, ix30, ix31, ix32, ix20, ix21, ix10, isi_ii, isi_ib, isi_ll, isi_bb, isi_ss, isi_tt, isi_is, isi_si, Bool.not_true, Bool.not_false, dCopyK, dGet2K, dDctR, dDisp1, dFrzEK, ra]
  refine ⟨_, rfl, by omega, by omega, ?_⟩
  obtain ⟨P2, hP2⟩ : ∃ P : Nat → DSt → M → Prop, ∀ j rr m', P j rr m' ↔ (∃ (o8 o9 o10 o7 : Option D), m' = RB (playP J (klt kp) v j 0 ⟨J.map Rw.c, []⟩).lf (playP J (klt kp) v j 0 ⟨J.map Rw.c, []⟩).sl ∧ PI J (playP J (klt kp) v j 0 ⟨J.map Rw.c, []⟩) ∧ rr = plR J kd v al asl o4 (some (.int (lastR J v))) o7 o8 o9 o10) := ⟨_, fun _ _ _ => Iff.rfl⟩
  have fin : ∀ p : PS', p.sl = sched J (klt kp) v → ∀ o7 o8 o9 o10, dRet (dWk (dFrzE (dVar 6))) { nx := fun _ m => Q .non m, rt := Q } (plR J kd v al asl o4 (some (.int (lastR J v))) o7 o8 o9 o10) (RB p.lf p.sl) := by
    intro p hp o7 o8 o9 o10
    refine ⟨.ref asl, rfl, ?_⟩
    unfold frzV
    dsimp only
    rw [rs]
    exact ⟨m, sub _ _, by rw [hp]; exact q⟩
  refine ⟨P2, (hP2 0 _ _).mpr ⟨_, _, _, _, rfl, pi0 jok, rfl⟩, ?_, ?_⟩
  · intro j d rr m' hd hp
    obtain ⟨o8, o9, o10, o7, rfl, pi, rfl⟩ := (hP2 _ _ _).mp hp
    obtain ⟨rfl, hj⟩ := rngD_at hd
    clear hd hp
    generalize hpp : playP J (klt kp) v j 0 ⟨J.map Rw.c, []⟩ = p at *
    obtain ⟨z0, z1⟩ := nn_sum pi.nn
    have hbd := pi.bd
    try simp only [dSeq]
    try simp only [dIfS, dTest, dOp, dVar, dC, dCB, daCons, daNil, dSet, dRet, dNext, dDrop, dAsg, dPar, dAug, dAddI, dBreak, dCont, dRetN, slot, dLen, dCmpI, dSub, dAdd, dMul, dDiv, dMod, dPow, dNeg, dUn, dIx, dInt1, dAbs, dChain, dAnd, dOr, dNot, dAndV, dOrV, dNotV, dTru, dTruB, dIf, dTup, dLst, mkL, dSlice, dSl, doNone, doSome, dSum, dAll, dAny, dList, dTuple, dMax, dMin, eq_ii, ne_ii, eq_ss, ne_ss, eq_bb, ne_bb, eq_nn, ne_nn, dIsN, dNotN, dFgt, dIsB, dNotB, gN, gT, gsNil, gsCons, gSet, dBM, dAppend, dClear, dFld, dFldS, dProp, dCall, dMeth, dMake, dMakeN, daStar, dDictP, dCallO, dFor, dLc, diR1, diR2, diR3, diL, diT, diRv, diS, diE, dFmt, dFStr, dJs, dCallN, dFrzE, frz_l, in_ss, notin_ss, drR1, drR2, dListR, dRaise, dRaise0, dTryAs, dTry, dXf, dAddO, dInO, isL, insOf, Option.some.injEq, List.cons.injEq, D.int.injEq, D.bl.injEq, D.str.injEq, D.lst.injEq, D.tup.injEq, D.ref.injEq, MO.lst.injEq, MO.ins.injEq, mset_mset, and_true, true_and, and_self, and_assoc, exists_eq_left', exists_eq_left, exists_and_left, exists_and_right, exists_eq', List.set_cons_zero, List.set_cons_succ, decide_eq_true_eq, sqOf, lsOf, List.length_cons, List.length_nil, sizeLine_eq, List.append_nil, List.cons_append, List.nil_append, if_true, if_false, Bool.false_eq_true, reduceCtorEq, reduceIte, Nat.reduceAdd, Nat.reduceLeDiff, mset_same, Option.bind_some, List.length_map, Prod.mk.injEq, at0, at1, at2, at3, at4, at5, at6, at7, ix30, ix31, ix32, ix20, ix21, ix10, isi_ii, isi_ib, isi_ll, isi_bb, isi_ss, isi_tt, isi_is, isi_si, Bool.not_true, Bool.not_false, dCopyK, dGet2K, dDctR, dDisp1, dFrzEK, ra]
    refine ⟨_, rfl, ?_⟩
    by_cases c : p.lf.sum = 0
    · rw [if_pos c]
      refine fin p ?_ _ _ _ _
      rw [← hpp]
      exact pl_done hpl hz (.inr fun k _ => by rw [hpp]; exact z1 c k)
    · rw [if_neg c]
      try simp only [dSeq]
      refine pl_wait jok kl ⟨hv.1, by omega⟩ (ra _ _) pi.len ?_
      try simp only [dSeq]
      refine pl_work kok kl ra rs sa ss pi.len (by omega) (fun o10 => ?_)
      refine (hP2 _ _ _).mpr ⟨_, _, _, _, ?_, ?_, rfl⟩
      · rw [playP_succ, hpp]
      · rw [playP_succ, hpp]
        exact pi_unit lo pi
  · intro rr m' hp
    obtain ⟨o8, o9, o10, o7, rfl, pi, rfl⟩ := (hP2 _ _ _).mp hp
    refine fin _ (pl_done hpl hz (.inl ?_)) _ _ _ _
    rw [rngD_len]
    omega
theorem le_key_iff (x y : Rw) : PySem.W.dataLe false keyR x y = true ↔ (x.r < y.r ∨ (x.r = y.r ∧ (x.i < y.i ∨ (x.i = y.i ∧ x.p ≤ y.p)))) := by
  rw [le_key]
  simp only [Bool.not_eq_true', Bool.or_eq_false_iff, Bool.and_eq_false_iff, decide_eq_false_iff_not, Bool.not_eq_false', decide_eq_true_eq, and_true, or_true, Bool.false_eq_true, or_false]
  omega
theorem jobs_srt (ts : List Tsk) (g : Int) (ws : List (List Job)) : (jobsR ts g ws).Pairwise fun x y => x.r ≤ y.r := by
  have h := List.pairwise_mergeSort (le := PySem.W.dataLe false keyR) (fun a b c h1 h2 => by rw [le_key_iff] at h1 h2 ⊢; omega) (fun a b => by
    rw [Bool.or_eq_true, le_key_iff, le_key_iff]; omega) (rowsR ts g ws)
  refine List.Pairwise.imp (fun h => ?_) h
  rw [le_key_iff] at h
  omega
theorem row_of {ts : List Tsk} {g : Int} {ws : List (List Job)} {x : Rw} (hx : x ∈ jobsR ts g ws) : ∃ i p, i < ws.length ∧ p < (wAt ws i).length ∧ x = rowJ (tAt ts i) g i (wAt ws i) p := by
  unfold jobsR srtR at hx
  have hx := (List.mergeSort_perm _ _).mem_iff.mp hx
  unfold rowsR at hx
  obtain ⟨i, hi, hx⟩ := List.mem_flatMap.mp hx
  unfold rowsW at hx
  obtain ⟨p, hp, rfl⟩ := List.mem_map.mp hx
  exact ⟨i, p, List.mem_range.mp hi, List.mem_range.mp hp, rfl⟩
theorem jobs_len (ts : List Tsk) (g : Int) (ws : List (List Job)) : (jobsR ts g ws).length = many ws := by
  have h1 : (jobsR ts g ws).length = (rowsR ts g ws).length := List.length_mergeSort _
  rw [h1]
  unfold rowsR many
  rw [List.length_flatMap]
  congr 1
  refine List.ext_getElem? fun i => ?_
  rw [List.getElem?_map, List.getElem?_map]
  by_cases hi : i < ws.length
  · rw [List.getElem?_range hi, wAt_at hi]
    show some (rowsW _ _ _ _).length = some _
    unfold rowsW
    rw [List.length_map, List.length_range]
  · rw [List.getElem?_eq_none (by rw [List.length_range]; omega), List.getElem?_eq_none (by omega)]
    rfl
theorem jobs_ok {ts : List Tsk} {g : Int} {ws : List (List Job)} (hl : many ws ≤ 1000) (wk : ∀ i, i < ws.length → WkOk (tAt ts i) g (wAt ws i)) (hr : ∀ w ∈ ws, ∀ j ∈ w, j.r ≤ 100000) : JOk (jobsR ts g ws) := by
  have at_ : ∀ x ∈ jobsR ts g ws, 1 ≤ x.c ∧ 0 ≤ x.r ∧ x.r ≤ 100000 := fun x hx => by
    obtain ⟨i, p, hi, hp, rfl⟩ := row_of hx
    obtain ⟨⟨k, _, _, c1, _⟩, r0, _⟩ := wk i hi p hp
    refine ⟨c1, r0, ?_⟩
    refine hr (wAt ws i) (mem_at (wAt_at hi)) (jAt (wAt ws i) p) ?_
    unfold jAt
    rw [List.getD_eq_getElem?_getD, List.getElem?_eq_getElem hp]
    exact List.getElem_mem _
  refine ⟨fun x hx => (at_ x hx).1, fun x hx => (at_ x hx).2.1, fun i j hij hj => ?_, by rw [jobs_len]; exact hl, fun x hx => by have := (at_ x hx).2.2; omega⟩
  have P := jobs_srt ts g ws
  rw [List.pairwise_iff_getElem] at P
  by_cases e : i = j
  · rw [e]; exact Int.le_refl _
  · have h := P i j (by omega) hj (by omega)
    have gi : rAt (jobsR ts g ws) i = (jobsR ts g ws)[i]'(by omega) := by unfold rAt; rw [List.getD_eq_getElem?_getD, List.getElem?_eq_getElem (by omega)]; rfl
    have gj : rAt (jobsR ts g ws) j = (jobsR ts g ws)[j] := by unfold rAt; rw [List.getD_eq_getElem?_getD, List.getElem?_eq_getElem hj]; rfl
    rw [gi, gj]
    exact h
theorem wAt_app {ws : List (List Job)} {w : List Job} {i : Nat} (h : i < ws.length) : wAt (ws ++ [w]) i = wAt ws i := by
  unfold wAt
  rw [List.getD_eq_getElem?_getD, List.getD_eq_getElem?_getD, List.getElem?_append_left h]
theorem wAt_last {ws : List (List Job)} {w : List Job} : wAt (ws ++ [w]) ws.length = w := by
  unfold wAt
  rw [List.getD_eq_getElem?_getD, List.getElem?_append_right (Nat.le_refl _), Nat.sub_self]
  rfl
structure WsOk (ts : List Tsk) (g : Int) (ws : List (List Job)) : Prop where
  w12 : ∀ w ∈ ws, w.length ≤ 12
  ok : ∀ i, i < ws.length → WkOk (tAt ts i) g (wAt ws i)
  rb : ∀ w ∈ ws, ∀ j ∈ w, j.r ≤ 100000
theorem WsOk.add {ts : List Tsk} {g : Int} {ws : List (List Job)} (h : WsOk ts g ws) {w : List Job} (hl : w.length ≤ 12) (hw : WkOk (tAt ts ws.length) g w) (hr : ∀ j ∈ w, j.r ≤ 100000) : WsOk ts g (ws ++ [w]) := by
  refine ⟨fun x hx => ?_, fun i hi => ?_, fun x hx => ?_⟩
  · rcases List.mem_append.mp hx with hx | hx
    · exact h.w12 x hx
    · rw [List.mem_singleton.mp hx]; exact hl
  · rw [List.length_append, List.length_singleton] at hi
    by_cases e : i < ws.length
    · rw [wAt_app e]; exact h.ok i e
    · have : i = ws.length := by omega
      subst this
      rw [wAt_last]; exact hw
  · rcases List.mem_append.mp hx with hx | hx
    · exact h.rb x hx
    · rw [List.mem_singleton.mp hx]; exact hr
theorem run_is4 {K : Fr0} {ts : List Tsk} {ws : List (List Job)} {g : Int} {m : M} {P : List (Str × D) → M → Prop} {E : XD → M → Prop} {x : Addr} (hg : 1 ≤ g ∧ g ≤ 60) (hl : ws.length = ts.length) (tl : ts.length ≤ 1000) (h4 : many ws ≤ 400) (ok : ∀ t ∈ ts, t.Ok) (wk : ∀ i, i < ws.length → WkOk (tAt ts i) g (wAt ws i))
    (q : P (runF g (jobsR ts g ws)) (mset m x (.ins (ga K "Run") (runF g (jobsR ts g ws))))) : sp_Run_init K [.ref x, .lst (ts.map (taskD K)), wksD ws, .int g] (mset m x (.ins (ga K "Run") [])) (fun _ m3 => ∃ fs, m3 x = some (.ins (ga K "Run") fs) ∧ P fs m3) E := by
  refine ⟨x, ts, ws, g, rfl, mset_same, ok, by omega, by omega, ?_⟩
  rw [run_none hg hl h4 ok wk]
  show ∃ fs, _
  rw [mset_mset]
  exact ⟨_, mset_same, q⟩
theorem lc_ranks {K : Fr0} {a : Addr} {c : Int} {r0 r2 r3 r4 r5 r6 r7 r8 : Option D} {rr : List (Option D)} {m : M} : ∀ (js acc : List D) (v k : Int) (Q : List D → M → Prop), acc.length + js.length ≤ sizeLine → 0 ≤ k → k + js.length ≤ 90000 →
    (∀ (rs : List Int) (v' : Int), rs.length = js.length → Q (acc ++ rs.map D.int) (mset m a (pool c v' (k + js.length)))) →
    dLcL (.one 8) [8] dYes (dOp dSub (dCall (sp_law_draw K) WD0 [] (daCons (dVar 1) (daCons (dC (.int 5)) daNil))) (dC (.int 2))) js acc (r0 :: some (.ref a) :: r2 :: r3 :: r4 :: r5 :: r6 :: r7 :: r8 :: rr) (mset m a (pool c v k)) Q
  | [], acc, v, k, Q, _, _, _, q => by
    have := q [] v rfl
    rw [List.map_nil, List.append_nil] at this
    have e : k + ((([] : List D).length : Nat) : Int) = k := by simp
    rw [e] at this
    exact this
  | j :: js, acc, v, k, Q, hl, k0, k1, q => by
    rw [List.length_cons] at hl k1
    refine ⟨r0 :: some (.ref a) :: r2 :: r3 :: r4 :: r5 :: r6 :: r7 :: some j :: rr, rfl, ?_⟩
    simp only [dYes, if_true]
    walk_at "zs"
    refine draw_s (by omega) (by omega) (by omega) (by omega) (fun r v1 r0 r1 => ?_)
    walk_at "zs"
    refine ⟨by rw [sizeLine_eq] at hl; omega, lc_ranks js _ v1 (k + 1) Q (by rw [List.length_append, List.length_singleton]; omega) (by omega) (by omega) fun rs v' hrs => ?_⟩
    have := q ((r - 2) :: rs) v' (by rw [List.length_cons, List.length_cons, hrs])
    rw [List.map_cons] at this
    rw [List.append_assoc]
    have e : k + 1 + (js.length : Int) = k + (((j :: js).length : Nat) : Int) := by rw [List.length_cons]; omega
    rw [e]
    exact this
abbrev keyB (K : Fr0) : List D → DSp := fun env ds m Q _ => ds.length = 1 ∧ (dSeq (dDrop (dBM isL dAppend (dVar 1) (daCons (dVar 0) daNil))) (dRet (dCall (sp_law_rank K) WD0 [] (daCons (dVar 0) (daCons (dVar 2) (daCons (dVar 3) daNil)))))) { nx := fun _ m => Q .non m, rt := Q } (startC ["_law_job", "_law_calls", "_law_way", "_law_ranks"] ds env) m
theorem keyB_mono {K : Fr0} {fa fc : Addr} {qn : Str} {vs : List V} {key : D} : FvMono (fvC fa fc qn vs (keyB K)) key := fun ds m Q Q' hq hsp => by
  obtain ⟨env, e, hl, d, h1, hx, d1, h2, a, h3, x, h4, h5, d4, k1, d5, k2, d6, k3, y, w, rs, e2, e3, k4, k5, k6⟩ := hsp
  exact ⟨env, e, hl, d, h1, hx, d1, h2, a, h3, x, h4, h5, d4, k1, d5, k2, d6, k3, y, w, rs, e2, e3, k4, k5, hq _ _ k6⟩
theorem keys_calls {K : Fr0} {fa fc b : Addr} {qn : Str} {vs : List V} {w : Int} {rs : List Int} : ∀ (J done : List Rw) (m : M) (Q : List D → M → Prop), m b = some (.lst (done.map Rw.D)) → done.length + J.length ≤ 100000 → (∀ x ∈ J, x.i < rs.length) →
    Q (J.map (rankD rs w)) (mset m b (.lst ((done ++ J).map Rw.D))) → keysT (fvC fa fc qn vs (keyB K)) (.clo fa fc qn [.ref b, .int w, il rs] vs) (J.map Rw.D) m Q
  | [], done, m, Q, hm, _, _, q => by
    rw [List.append_nil, mset_id hm] at q
    exact q
  | x :: J, done, m, Q, hm, hl, hi, q => by
    rw [List.length_cons] at hl
    refine ⟨_, rfl, rfl, ?_⟩
    show dSeq _ _ _ [some x.D, some (.ref b), some (.int w), some (il rs)] m
    try simp only [dSeq]
    try simp only [dIfS, dTest, dOp, dVar, dC, dCB, daCons, daNil, dSet, dRet, dNext, dDrop, dAsg, dPar, dAug, dAddI, dBreak, dCont, dRetN, slot, dLen, dCmpI, dSub, dAdd, dMul, dDiv, dMod, dPow, dNeg, dUn, dIx, dInt1, dAbs, dChain, dAnd, dOr, dNot, dAndV, dOrV, dNotV, dTru, dTruB, dIf, dTup, dLst, mkL, dSlice, dSl, doNone, doSome, dSum, dAll, dAny, dList, dTuple, dMax, dMin, eq_ii, ne_ii, eq_ss, ne_ss, eq_bb, ne_bb, eq_nn, ne_nn, dIsN, dNotN, dFgt, dIsB, dNotB, gN, gT, gsNil, gsCons, gSet, dBM, dAppend, dClear, dFld, dFldS, dProp, dCall, dMeth, dMake, dMakeN, daStar, dDictP, dCallO, dFor, dLc, diR1, diR2, diR3, diL, diT, diRv, diS, diE, dFmt, dFStr, dJs, dCallN, dFrzE, frz_l, in_ss, notin_ss, drR1, drR2, dListR, dRaise, dRaise0, dTryAs, dTry, dXf, dAddO, dInO, isL, insOf, Option.some.injEq, List.cons.injEq, D.int.injEq, D.bl.injEq, D.str.injEq, D.lst.injEq, D.tup.injEq, D.ref.injEq, MO.lst.injEq, MO.ins.injEq, mset_mset, and_true, true_and, and_self, and_assoc, exists_eq_left', exists_eq_left, exists_and_left, exists_and_right, exists_eq', List.set_cons_zero, List.set_cons_succ, decide_eq_true_eq, sqOf, lsOf, List.length_cons, List.length_nil, sizeLine_eq, List.append_nil, List.cons_append, List.nil_append, if_true, if_false, Bool.false_eq_true, reduceCtorEq, reduceIte, Nat.reduceAdd, Nat.reduceLeDiff, mset_same, Option.bind_some, List.length_map, Prod.mk.injEq, at0, at1, at2, at3, at4, at5, at6, at7, ix30, ix31, ix32, ix20, ix21, ix10, isi_ii, isi_ib, isi_ll, isi_bb, isi_ss, isi_tt, isi_is, isi_si, Bool.not_true, Bool.not_false, dCopyK, dGet2K, dDctR, dDisp1, dFrzEK, hm]
    refine ⟨by omega, ?_⟩
    walk_at "zn"
    refine ⟨x, w, rs, rfl, hi x List.mem_cons_self, ?_⟩
    refine keys_calls J (done ++ [x]) _ _ (by rw [List.map_append]; exact mset_same) (by rw [List.length_append, List.length_singleton]; omega) (fun y hy => hi y (List.mem_cons_of_mem _ hy)) ?_
    rw [mset_mset, List.append_assoc]
    exact q
theorem pure_law {K : Fr0} {mg : Str → Option Value} (T : Txt K mg) (ds : List D) (m : M) (Q : D → M → Prop) (E : XD → M → Prop) (h : spLaw ds m Q E) : t_law K (fun x _ m => E x m) { nx := fun _ m => Q .non m, rt := Q } (startD nm_law ds) m := by
  obtain ⟨ns, rfl, hn, rfl, q⟩ := h
  show t_law K _ _ [some (.rdl (ns.map D.int)), none, none, none, none, none, none, none, none, none, none, none, none, none, none, none, none, none, none] m0
  unfold t_law
  generalize hN : dNdef 13 _ _ = kN
  walk_at "zn"
  refine ⟨ns, 0, rfl, by omega, ?_⟩
  walk_at "zs"
  refine ⟨_, rfl, fun a ha => ?_⟩
  walk_at "zn"
  intro b hb
  have hba : b ≠ a := fun e => by rw [e, mset_same] at hb; cases hb
  have hb0 : m0 b = none := by rw [mset_ne hba] at hb; exact hb
  generalize cellAt ns 0 = c0
  rw [mset_comm hba.symm]
  walk_at "zn"
  refine draw_s (by omega) (by omega) (by omega) (by omega) (fun r v1 r0 r1 => ?_)
  walk_at "zs"
  refine ⟨by omega, by omega, ?_⟩
  obtain ⟨n, hn2⟩ : ∃ n : Nat, (1 + r).toNat = n := ⟨_, rfl⟩
  rw [hn2]
  have n3 : 1 ≤ n ∧ n ≤ 3 := by omega
  obtain ⟨P1, hP1⟩ : ∃ P : Nat → DSt → M → Prop, ∀ j rr m', P j rr m' ↔ (∃ (ts : List Tsk) (v' k' : Int) (o3 : Option D), ts.length = j ∧ (∀ t ∈ ts, t.Ok) ∧ 0 ≤ k' ∧ k' ≤ 1 + 100 * j ∧ m' = mset (mset m0 b (.lst (ts.map specL))) a (pool c0 v' k') ∧ rr = [some (.rdl (ns.map D.int)), some (.ref a), some (.ref b), o3, none, none, none, none, none, none, none, none, none, none, none, none, none, none, none]) := ⟨_, fun _ _ _ => Iff.rfl⟩
  refine ⟨P1, (hP1 0 _ _).mpr ⟨[], v1, _, _, rfl, fun t h => absurd h List.not_mem_nil, by omega, by omega, rfl, rfl⟩, ?_, ?_⟩
  · intro j d rr m' hd hp
    obtain ⟨ts, v2, k2, o3, hl, hf, k20, k21, rfl, rfl⟩ := (hP1 _ _ _).mp hp
    obtain ⟨rfl, hj⟩ := rngD_at hd
    walk_at "zs"
    refine ⟨⟨_, lsOf_ref (by rw [mset_ne hba]; exact mset_same)⟩, a, _, _, _, _, rfl, by decide +kernel, mset_same, ⟨k20, by omega⟩, fun t v3 k3 okt k30 k31 => ?_⟩
    refine ⟨_, by rw [mset_ne hba, mset_ne hba]; exact mset_same, by rw [List.length_map]; omega, (hP1 _ _ _).mpr ⟨ts ++ [t], v3, k3, _, by rw [List.length_append, List.length_singleton, hl], fun x hx => ?_, by omega, by omega, ?_, rfl⟩⟩
    · rcases List.mem_append.mp hx with h | h
      · exact hf x h
      · rw [List.mem_singleton.mp h]; exact okt
    · rw [mset_mset, mset_comm hba.symm, mset_mset, List.map_append]
      rfl
  intro rr m' hp
  obtain ⟨ts, v2, k2, o3, hl, ok, k20, k21, rfl, rfl⟩ := (hP1 _ _ _).mp hp
  rw [rngD_len] at hl
  clear hp hP1 P1
  refine ⟨b, _, rfl, by rw [mset_ne hba]; exact mset_same, ?_⟩
  rw [mdel_mset_ne hba, mdel_mset hb0]
  generalize mset m0 a _ = m1
  walk_at "zn"
  refine ⟨ns, 1, rfl, by omega, ?_⟩
  walk_at "zs"
  refine ⟨_, rfl, fun a2 ha2 => ?_⟩
  generalize cellAt ns 1 = c1
  walk_at "zn"
  refine draw_s (by omega) (by omega) (by omega) (by omega) (fun wy v3 w0 w1 => ?_)
  walk_at "zn"
  refine draw_s (by omega) (by omega) (by omega) (by omega) (fun r4 v4 r40 r41 => ?_)
  walk_at "zn"
  refine draw_s (by omega) (by omega) (by omega) (by omega) (fun r6 v6 r60 r61 => ?_)
  walk_at "zn"
  obtain ⟨g, hg⟩ : ∃ g : Int, 1 + r6 = g := ⟨_, rfl⟩
  obtain ⟨pc, hpc0⟩ : ∃ pc : Int, 1 + r4 = pc := ⟨_, rfl⟩
  rw [hg, hpc0]
  have gb : 1 ≤ g ∧ g ≤ 3 := by omega
  have hpc : 1 ≤ pc ∧ pc ≤ 4 := by omega
  have tl4 : ts.length ≤ 3 := by omega
  refine lc_ranks _ _ _ _ _ (by rw [List.length_nil, List.length_map, sizeLine_eq]; omega) (by omega) (by rw [List.length_map]; omega) (fun rs v7 hrs => ?_)
  rw [List.nil_append]
  rw [List.length_map] at hrs ⊢
  obtain ⟨k7, hk7⟩ : ∃ k7 : Int, 0 + 1 + 1 + 1 + (ts.length : Int) = k7 := ⟨_, rfl⟩
  rw [hk7]
  walk_at "zn"
  intro b2 hb2
  have hba2 : b2 ≠ a2 := fun e => by rw [e, mset_same] at hb2; cases hb2
  have hb20 : m1 b2 = none := by rw [mset_ne hba2] at hb2; exact hb2
  rw [mset_comm hba2.symm]
  walk_at "zn"
  obtain ⟨P1, hP1⟩ : ∃ P : Nat → DSt → M → Prop, ∀ j rr m', P j rr m' ↔ (∃ (ws : List (List Job)) (v' k' : Int) (o8 : Option D), ws.length = j ∧ WsOk ts g ws ∧ 0 ≤ k' ∧ k' ≤ 100 + 100 * j ∧ m' = mset (mset m1 b2 (.lst (ws.map wkD))) a2 (pool c1 v' k') ∧ rr = [some (.rdl (ns.map D.int)), some (.ref a2), some (.lst (ts.map specL)), o3, some (.int wy), some (.int pc), some (.int g), some (il rs), o8, some (.ref b2), none, none, none, none, none, none, none, none, none]) := ⟨_, fun _ _ _ => Iff.rfl⟩
  refine ⟨P1, (hP1 0 _ _).mpr ⟨[], v7, _, _, rfl, ⟨by simp, fun i hi => absurd hi (Nat.not_lt_zero _), by simp⟩, by omega, by omega, rfl, rfl⟩, ?_, ?_⟩
  · intro j d rr m' hd hp
    obtain ⟨ws, v6, k6, o8, wl, wok, k60, k61, rfl, rfl⟩ := (hP1 _ _ _).mp hp
    obtain ⟨t, ht, rfl⟩ := map_at hd
    have hj := len_at ht
    have et : tAt ts j = t := by
      have := tAt_at hj
      rw [ht] at this
      exact (Option.some.inj this).symm
    walk_at "zs"
    refine ⟨⟨_, lsOf_ref (by rw [mset_ne hba2]; exact mset_same)⟩, a2, t, g, _, _, _, rfl, mset_same, ok t (mem_at ht), ⟨gb.1, by omega⟩, ⟨k60, by omega⟩, fun w v7 k7 wk w12 wr k70 k71 => ?_⟩
    refine ⟨_, by rw [mset_ne hba2, mset_ne hba2]; exact mset_same, by rw [List.length_map]; omega, (hP1 _ _ _).mpr ⟨ws ++ [w], v7, k7, _, by rw [List.length_append, List.length_singleton, wl], wok.add w12 (by rw [wl, et]; exact wk) wr, by omega, by omega, ?_, rfl⟩⟩
    rw [mset_mset, mset_comm hba2.symm, mset_mset, List.map_append]
    rfl
  intro rr m' hp
  obtain ⟨ws, v8, k8, o8, wl, wok, k80, k81, rfl, rfl⟩ := (hP1 _ _ _).mp hp
  rw [List.length_map] at wl k81
  clear hp hP1 P1
  refine ⟨b2, _, rfl, by rw [mset_ne hba2]; exact mset_same, ?_⟩
  rw [mdel_mset_ne hba2, mdel_mset hb20]
  generalize mset m1 a2 _ = m2
  walk_at "zn"
  refine lc_mapD (g := specL) (f := taskD K) (by rw [sizeLine_eq]; omega) (fun t ht => ⟨_, rfl, fun Q' q' => ?_⟩) ?_
  · simp only [wipeD, specL]
    walk_at "zs"
    intro x hx
    refine ⟨x, t, asD t.as, rfl, rfl, mset_same, ok t ht, ?_⟩
    rw [mset_mset]
    refine ⟨_, mset_same, ?_⟩
    rw [mdel_mset hx]
    exact q'
  have m4 : many ws ≤ 36 := by
    have := many_le wok.w12
    have : ws.length * 12 ≤ 3 * 12 := Nat.mul_le_mul_right 12 (by omega)
    omega
  walk_at "zn"
  intro x hx
  refine run_is4 ⟨gb.1, by omega⟩ wl (by omega) (by omega) ok wok.ok ?_
  rw [mdel_mset hx]
  refine ⟨_, _, rfl, ?_⟩
  clear hx x
  try simp only [dSeq]
  try simp only [dIfS, dTest, dOp, dVar, dC, dCB, daCons, daNil, dSet, dRet, dNext, dDrop, dAsg, dPar, dAug, dAddI, dBreak, dCont, dRetN, slot, dLen, dCmpI, dSub, dAdd, dMul, dDiv, dMod, dPow, dNeg, dUn, dIx, dInt1, dAbs, dChain, dAnd, dOr, dNot, dAndV, dOrV, dNotV, dTru, dTruB, dIf, dTup, dLst, mkL, dSlice, dSl, doNone, doSome, dSum, dAll, dAny, dList, dTuple, dMax, dMin, eq_ii, ne_ii, eq_ss, ne_ss, eq_bb, ne_bb, eq_nn, ne_nn, dIsN, dNotN, dFgt, dIsB, dNotB, gN, gT, gsNil, gsCons, gSet, dBM, dAppend, dClear, dFld, dFldS, dProp, dCall, dMeth, dMake, dMakeN, daStar, dDictP, dCallO, dFor, dLc, diR1, diR2, diR3, diL, diT, diRv, diS, diE, dFmt, dFStr, dJs, dCallN, dFrzE, frz_l, in_ss, notin_ss, drR1, drR2, dListR, dRaise, dRaise0, dTryAs, dTry, dXf, dAddO, dInO, isL, insOf, Option.some.injEq, List.cons.injEq, D.int.injEq, D.bl.injEq, D.str.injEq, D.lst.injEq, D.tup.injEq, D.ref.injEq, MO.lst.injEq, MO.ins.injEq, mset_mset, and_true, true_and, and_self, and_assoc, exists_eq_left', exists_eq_left, exists_and_left, exists_and_right, exists_eq', List.set_cons_zero, List.set_cons_succ, decide_eq_true_eq, sqOf, lsOf, List.length_cons, List.length_nil, sizeLine_eq, List.append_nil, List.cons_append, List.nil_append, if_true, if_false, Bool.false_eq_true, reduceCtorEq, reduceIte, Nat.reduceAdd, Nat.reduceLeDiff, mset_same, Option.bind_some, List.length_map, Prod.mk.injEq, at0, at1, at2, at3, at4, at5, at6, at7, ix30, ix31, ix32, ix20, ix21, ix10, isi_ii, isi_ib, isi_ll, isi_bb, isi_ss, isi_tt, isi_is, isi_si, Bool.not_true, Bool.not_false, dCopyK, dGet2K, dDctR, dDisp1, dFrzEK, T.cl_Run, T.n_Run_grain, T.n_Run_placed, runD, lk_grain, lk_placed]
  intro b3 hb3
  have jok := jobs_ok (g := g) (ts := ts) (ws := ws) (by omega) wok.ok wok.rb
  have ji : ∀ x ∈ jobsR ts g ws, x.i < rs.length := fun x hx => by
    obtain ⟨i, p, hi, hp, rfl⟩ := row_of hx
    show i < rs.length
    omega
  have jl : (jobsR ts g ws).length ≤ 36 := by rw [jobs_len]; exact m4
  have jc : ∀ x ∈ jobsR ts g ws, x.c ≤ 10 ^ 5 := fun x hx => by
    obtain ⟨i, p, hi, hp, rfl⟩ := row_of hx
    obtain ⟨⟨kd, hk, _, c1, c2⟩, _, _⟩ := wok.ok i hi p hp
    have okt := ok _ (mem_at (tAt_at (show i < ts.length by omega)))
    have kb := (okt.ks.c kd hk).2
    have kb : kd.c ≤ 99 := by split at kb <;> omega
    have := Int.mul_le_mul kb gb.2 (by omega) (by omega)
    show (jAt (wAt ws i) p).c ≤ 10 ^ 5
    omega
  have js : ∀ x ∈ jobsR ts g ws, PyData.strOk x.k = true := fun x hx => by
    obtain ⟨i, p, hi, hp, rfl⟩ := row_of hx
    obtain ⟨⟨kd, hk, ek, c1, c2⟩, _, _⟩ := wok.ok i hi p hp
    have okt := ok _ (mem_at (tAt_at (show i < ts.length by omega)))
    show PyData.strOk (jAt (wAt ws i) p).k = true
    rw [← ek]
    exact nm_ok (okt.ks.nm kd hk)
  generalize hJ : jobsR ts g ws = J at *
  subst hN
  refine fun fa fc ob hfa => ?_
  have hba3 : b3 ≠ fa := fun e => by rw [e, mset_same] at hfa; cases hfa
  have hfa0 : m2 fa = none := by rw [mset_ne hba3.symm] at hfa; exact hfa
  obtain ⟨Mc, hMc⟩ : ∃ Mc : List Rw → M, ∀ cs, Mc cs = mset (mset m2 b3 (.lst (cs.map Rw.D))) fa (.fn ob) := ⟨_, fun _ => rfl⟩
  have Mb : ∀ cs, Mc cs b3 = some (.lst (cs.map Rw.D)) := fun cs => by rw [hMc, mset_ne hba3, mset_same]
  have Mf : ∀ cs, Mc cs fa = some (.fn ob) := fun cs => by rw [hMc, mset_same]
  have Md : ∀ cs, mdel (Mc cs) fa = mset m2 b3 (.lst (cs.map Rw.D)) := fun cs => by rw [hMc, mdel_mset (by rw [mset_ne hba3.symm]; exact hfa0)]
  have e0 : mset (mset m2 b3 (.lst [])) fa (.fn ob) = Mc [] := by rw [hMc]; rfl
  rw [e0]
  clear e0
  have hkey : ∀ (done : List Rw) (v : Int) (vs : List V) (Q : D → M → Prop) (E : XD → M → Prop), done.length ≤ 100 → (1 ≤ v ∧ v ≤ 99) → Q (slsD (sched J (klt (J.map (rankP rs wy))) v)) (mset m2 b3 (.lst ((done ++ J).map Rw.D))) →
      sp_run_by K (fvC fa fc (("law" : Str) ++ ".<locals>." ++ "_law_key") vs (keyB K)) [runD K g J, .clo fa fc (("law" : Str) ++ ".<locals>." ++ "_law_key") [.ref b3, .int wy, il rs] vs, .int v] (mdel (Mc done) fa) Q E := by
    intro done v vs Q E hd hv q
    refine ⟨g, J, _, v, rfl, ⟨_, rfl⟩, keyB_mono, jok, fun h => absurd hv h, fun _ => ?_⟩
    rw [Md]
    refine keys_calls J done _ _ mset_same (by omega) ji ?_
    refine ⟨J.map (rankP rs wy), rank_ok rs wy J, ?_⟩
    rw [mset_mset]
    exact q
  refine ⟨_, rfl, _, rfl, _, rfl, rfl, rfl, Mf _, [runD K g J], [.ref b3, .int wy, il rs], rfl, rfl, fun vs => ?_⟩
  refine hkey [] pc vs _ _ (by decide) ⟨hpc.1, by omega⟩ (fun _ => ?_)
  rw [← hMc]
  generalize hF : dCallDef0 _ _ _ _ _ _ _ _ _ = kF
  rw [List.nil_append]
  have cJ : clB 2 (jbsD J) = true := by
    show ((J.map Rw.D).all (clB 1)) = true
    rw [List.all_map, List.all_eq_true]
    intro x hx
    simp [Rw.D, clB, js x hx]
  have sc := sched_len J (klt (J.map (rankP rs wy))) pc
  walk_at "zn"
  refine lc_mapD (g := Rw.D) (f := rankD rs wy) (by rw [sizeLine_eq]; omega) (fun x hx => ⟨_, rfl, fun Q' q' => ?_⟩) ?_
  · simp only [wipeD]
    walk_at "zs"
    exact ⟨x, wy, rs, rfl, ji x hx, q'⟩
  walk_at "zn"
  refine dNe_data (n := 2) (by omega) (by rw [vD_ref (Mb J)]; exact cJ) cJ (fun bb hb => ?_)
  have hb1 : bb = true := hb.mpr (by rw [vD_ref (Mb J)]; rfl)
  subst hb1
  refine ⟨_, rfl, ?_⟩
  rw [if_neg (by decide)]
  have jce : ∀ x ∈ J, x.c ≤ 10 ^ 5 := jc
  refine ⟨J, J.map (rankD rs wy), J.map (rankP rs wy), pc, rfl, jok, by omega, jc, rank_ok rs wy J, List.length_map _, ⟨hpc.1, by omega⟩, ?_⟩
  refine ⟨_, rfl, by omega, ?_⟩
  generalize hs1 : sched J (klt (J.map (rankP rs wy))) pc = s1 at *
  walk_at "zn"
  refine lc_mapD (g := Rw.D) (f := fun x => D.int x.d) (by rw [sizeLine_eq]; omega) (fun x hx => ⟨_, rfl, fun Q' q' => ?_⟩) ?_
  · simp only [wipeD, Rw.D]
    walk_at "zs"
    exact q'
  have sc2 := sched_len J (klt (dueP J)) pc
  walk_at "zn"
  refine ⟨g, J, pc, rfl, jok, fun h => absurd (show 1 ≤ pc ∧ pc ≤ 99 by omega) h, fun _ => ?_⟩
  refine ⟨J, J.map fun x => D.int x.d, dueP J, pc, rfl, jok, by omega, jc, due_ok J, List.length_map _, ⟨hpc.1, by omega⟩, ?_⟩
  refine ⟨_, rfl, by omega, ?_⟩
  generalize hs2 : sched J (klt (dueP J)) pc = s2 at *
  walk_at "zn"
  obtain ⟨P2, hP2⟩ : ∃ P : Nat → DSt → M → Prop, ∀ j rr m', P j rr m' ↔ (∃ o18, m' = Mc J ∧ rr = [some (.rdl (ns.map D.int)), some (.ref a2), some (.lst (ts.map specL)), o3, some (.int wy), some (.int pc), some (.int g), some (il rs), o8, some (.lst (ws.map wkD)), some (runD K g J), some (jbsD J), some (.ref b3), some (.clo fa fc (("law" : Str) ++ ".<locals>." ++ "_law_key") [] []), some (slsD s1), some (.lst (J.map (rankD rs wy))), none, some (.lst (J.map fun x => D.int x.d)), o18]) := ⟨_, fun _ _ _ => Iff.rfl⟩
  refine ⟨P2, (hP2 0 _ _).mpr ⟨_, rfl, rfl⟩, ?_, ?_⟩
  · intro j d rr m' hd hp
    obtain ⟨o18, rfl, rfl⟩ := (hP2 _ _ _).mp hp
    obtain ⟨w, rfl, hw⟩ : ∃ w : Int, d = .int w ∧ ¬ (1 ≤ w ∧ w ≤ 99) := by
      have hi := len_at hd
      have hi : j < 3 := hi
      have hc : j = 0 ∨ j = 1 ∨ j = 2 := by omega
      rcases hc with rfl | rfl | rfl
      all_goals cases hd
      all_goals exact ⟨_, rfl, by omega⟩
    walk_at "zn"
    refine ⟨g, J, w, 0, b3, _, rfl, jok, hw, Mb _, by rw [List.length_map]; omega, ?_⟩
    walk_at "zs"
    refine ⟨g, J, w, 1, b3, _, rfl, jok, hw, Mb _, by rw [List.length_map]; omega, ?_⟩
    walk_at "zs"
    exact (hP2 _ _ _).mpr ⟨_, rfl, rfl⟩
  intro rr m' hp
  obtain ⟨o18, rfl, rfl⟩ := (hP2 _ _ _).mp hp
  clear hp hP2 P2
  walk_at "zn"
  split
  · exact q _
  have pc1 : pc = 1 := by omega
  subst pc1
  subst hF
  refine ⟨_, rfl, _, rfl, Mf _, [runD K g J], [.ref b3, .int wy, il rs], rfl, rfl, fun vs => ?_⟩
  refine hkey J 1 vs _ _ (by omega) ⟨by omega, by omega⟩ (fun _ => ?_)
  rw [← hMc, hs1]
  refine ⟨_, rfl, ?_⟩
  refine ⟨s1, rfl, by omega, ?_⟩
  walk_at "zn"
  refine ⟨g, J, 1, rfl, jok, fun h => absurd (show (1 : Int) ≤ 1 ∧ (1 : Int) ≤ 99 by omega) h, fun _ => ?_⟩
  refine ⟨J, J.map fun x => D.int x.d, dueP J, 1, rfl, jok, by omega, jc, due_ok J, List.length_map _, ⟨by omega, by omega⟩, ?_⟩
  rw [hs2]
  refine ⟨_, rfl, by omega, ?_⟩
  try simp only [dSeq]
  try simp only [dIfS, dTest, dOp, dVar, dC, dCB, daCons, daNil, dSet, dRet, dNext, dDrop, dAsg, dPar, dAug, dAddI, dBreak, dCont, dRetN, slot, dLen, dCmpI, dSub, dAdd, dMul, dDiv, dMod, dPow, dNeg, dUn, dIx, dInt1, dAbs, dChain, dAnd, dOr, dNot, dAndV, dOrV, dNotV, dTru, dTruB, dIf, dTup, dLst, mkL, dSlice, dSl, doNone, doSome, dSum, dAll, dAny, dList, dTuple, dMax, dMin, eq_ii, ne_ii, eq_ss, ne_ss, eq_bb, ne_bb, eq_nn, ne_nn, dIsN, dNotN, dFgt, dIsB, dNotB, gN, gT, gsNil, gsCons, gSet, dBM, dAppend, dClear, dFld, dFldS, dProp, dCall, dMeth, dMake, dMakeN, daStar, dDictP, dCallO, dFor, dLc, diR1, diR2, diR3, diL, diT, diRv, diS, diE, dFmt, dFStr, dJs, dCallN, dFrzE, frz_l, in_ss, notin_ss, drR1, drR2, dListR, dRaise, dRaise0, dTryAs, dTry, dXf, dAddO, dInO, isL, insOf, Option.some.injEq, List.cons.injEq, D.int.injEq, D.bl.injEq, D.str.injEq, D.lst.injEq, D.tup.injEq, D.ref.injEq, MO.lst.injEq, MO.ins.injEq, mset_mset, and_true, true_and, and_self, and_assoc, exists_eq_left', exists_eq_left, exists_and_left, exists_and_right, exists_eq', List.set_cons_zero, List.set_cons_succ, decide_eq_true_eq, sqOf, lsOf, List.length_cons, List.length_nil, sizeLine_eq, List.append_nil, List.cons_append, List.nil_append, if_true, if_false, Bool.false_eq_true, reduceCtorEq, reduceIte, Nat.reduceAdd, Nat.reduceLeDiff, mset_same, Option.bind_some, List.length_map, Prod.mk.injEq, at0, at1, at2, at3, at4, at5, at6, at7, ix30, ix31, ix32, ix20, ix21, ix10, isi_ii, isi_ib, isi_ll, isi_bb, isi_ss, isi_tt, isi_is, isi_si, Bool.not_true, Bool.not_false, dCopyK, dGet2K, dDctR, dDisp1, dFrzEK, T.cl_Run, T.n_Run_grain, T.n_Run_placed, runD, lk_grain, lk_placed]
  refine ⟨g, J, rfl, ?_⟩
  refine dEq_same (n := 2) (by omega) cJ rfl ?_
  exact q _
end LW

set_option Elab.async false
set_option linter.all false
set_option maxRecDepth 100000
set_option maxHeartbeats 4000000
namespace LW
open PySem PySem.Spec PyProof.Rows L2 DL
open He (ga ma)
theorem okx_UnknownKind {P : Program} {w : World} {K : PySem.W.Frag} {mg : Str → Option Value} {base : Heap} (T : Txt K mg) : ∃ fd, FnOk P w K mg base (L2.CX P w) 1 (ma K (ga K "UnknownKind") "__init__") fd ["self", "name"] (spX (ga K "UnknownKind") ["name"]) ∧ Binds K fd ["self", "name"] [] := by
  obtain ⟨fd, F⟩ := T.d_UnknownKind_init
  refine ⟨fd, fn_exc (k := 0) F sc_UnknownKind_init T.ox_UnknownKind ?_ rfl (by decide) (fun cdv A outer s H E => pss_cons (ps_ost (pv 0) (pv 1)) (pss_nil)), F.bindsN fun _ _ _ _ _ _ us hl => match us, hl with | [_, _], _ => rfl⟩
  intro g hg
  rcases List.mem_cons.mp hg with rfl | hg
  · exact T.nf_UnknownKind_name
  cases hg

theorem okx_OutOfRange {P : Program} {w : World} {K : PySem.W.Frag} {mg : Str → Option Value} {base : Heap} (T : Txt K mg) : ∃ fd, FnOk P w K mg base (L2.CX P w) 1 (ma K (ga K "OutOfRange") "__init__") fd ["self", "what", "value"] (spX (ga K "OutOfRange") ["what", "value"]) ∧ Binds K fd ["self", "what", "value"] [] := by
  obtain ⟨fd, F⟩ := T.d_OutOfRange_init
  refine ⟨fd, fn_exc (k := 0) F sc_OutOfRange_init T.ox_OutOfRange ?_ rfl (by decide) (fun cdv A outer s H E => pss_cons (ps_ost (pv 0) (pv 1)) (pss_cons (ps_ost (pv 0) (pv 2)) (pss_nil))), F.bindsN fun _ _ _ _ _ _ us hl => match us, hl with | [_, _, _], _ => rfl⟩
  intro g hg
  rcases List.mem_cons.mp hg with rfl | hg
  · exact T.nf_OutOfRange_what
  rcases List.mem_cons.mp hg with rfl | hg
  · exact T.nf_OutOfRange_value
  cases hg

theorem okx_WrongCount {P : Program} {w : World} {K : PySem.W.Frag} {mg : Str → Option Value} {base : Heap} (T : Txt K mg) : ∃ fd, FnOk P w K mg base (L2.CX P w) 1 (ma K (ga K "WrongCount") "__init__") fd ["self", "what", "count"] (spX (ga K "WrongCount") ["what", "count"]) ∧ Binds K fd ["self", "what", "count"] [] := by
  obtain ⟨fd, F⟩ := T.d_WrongCount_init
  refine ⟨fd, fn_exc (k := 0) F sc_WrongCount_init T.ox_WrongCount ?_ rfl (by decide) (fun cdv A outer s H E => pss_cons (ps_ost (pv 0) (pv 1)) (pss_cons (ps_ost (pv 0) (pv 2)) (pss_nil))), F.bindsN fun _ _ _ _ _ _ us hl => match us, hl with | [_, _, _], _ => rfl⟩
  intro g hg
  rcases List.mem_cons.mp hg with rfl | hg
  · exact T.nf_WrongCount_what
  rcases List.mem_cons.mp hg with rfl | hg
  · exact T.nf_WrongCount_count
  cases hg

theorem okx_BadCost {P : Program} {w : World} {K : PySem.W.Frag} {mg : Str → Option Value} {base : Heap} (T : Txt K mg) : ∃ fd, FnOk P w K mg base (L2.CX P w) 1 (ma K (ga K "BadCost") "__init__") fd ["self", "task", "place"] (spX (ga K "BadCost") ["task", "place"]) ∧ Binds K fd ["self", "task", "place"] [] := by
  obtain ⟨fd, F⟩ := T.d_BadCost_init
  refine ⟨fd, fn_exc (k := 0) F sc_BadCost_init T.ox_BadCost ?_ rfl (by decide) (fun cdv A outer s H E => pss_cons (ps_ost (pv 0) (pv 1)) (pss_cons (ps_ost (pv 0) (pv 2)) (pss_nil))), F.bindsN fun _ _ _ _ _ _ us hl => match us, hl with | [_, _, _], _ => rfl⟩
  intro g hg
  rcases List.mem_cons.mp hg with rfl | hg
  · exact T.nf_BadCost_task
  rcases List.mem_cons.mp hg with rfl | hg
  · exact T.nf_BadCost_place
  cases hg

theorem okx_BadRelease {P : Program} {w : World} {K : PySem.W.Frag} {mg : Str → Option Value} {base : Heap} (T : Txt K mg) : ∃ fd, FnOk P w K mg base (L2.CX P w) 1 (ma K (ga K "BadRelease") "__init__") fd ["self", "task", "place"] (spX (ga K "BadRelease") ["task", "place"]) ∧ Binds K fd ["self", "task", "place"] [] := by
  obtain ⟨fd, F⟩ := T.d_BadRelease_init
  refine ⟨fd, fn_exc (k := 0) F sc_BadRelease_init T.ox_BadRelease ?_ rfl (by decide) (fun cdv A outer s H E => pss_cons (ps_ost (pv 0) (pv 1)) (pss_cons (ps_ost (pv 0) (pv 2)) (pss_nil))), F.bindsN fun _ _ _ _ _ _ us hl => match us, hl with | [_, _, _], _ => rfl⟩
  intro g hg
  rcases List.mem_cons.mp hg with rfl | hg
  · exact T.nf_BadRelease_task
  rcases List.mem_cons.mp hg with rfl | hg
  · exact T.nf_BadRelease_place
  cases hg

theorem okx_NoArrow {P : Program} {w : World} {K : PySem.W.Frag} {mg : Str → Option Value} {base : Heap} (T : Txt K mg) : ∃ fd, FnOk P w K mg base (L2.CX P w) 1 (ma K (ga K "NoArrow") "__init__") fd ["self", "task", "place"] (spX (ga K "NoArrow") ["task", "place"]) ∧ Binds K fd ["self", "task", "place"] [] := by
  obtain ⟨fd, F⟩ := T.d_NoArrow_init
  refine ⟨fd, fn_exc (k := 0) F sc_NoArrow_init T.ox_NoArrow ?_ rfl (by decide) (fun cdv A outer s H E => pss_cons (ps_ost (pv 0) (pv 1)) (pss_cons (ps_ost (pv 0) (pv 2)) (pss_nil))), F.bindsN fun _ _ _ _ _ _ us hl => match us, hl with | [_, _, _], _ => rfl⟩
  intro g hg
  rcases List.mem_cons.mp hg with rfl | hg
  · exact T.nf_NoArrow_task
  rcases List.mem_cons.mp hg with rfl | hg
  · exact T.nf_NoArrow_place
  cases hg

theorem okx_GapTooShort {P : Program} {w : World} {K : PySem.W.Frag} {mg : Str → Option Value} {base : Heap} (T : Txt K mg) : ∃ fd, FnOk P w K mg base (L2.CX P w) 1 (ma K (ga K "GapTooShort") "__init__") fd ["self", "task", "place"] (spX (ga K "GapTooShort") ["task", "place"]) ∧ Binds K fd ["self", "task", "place"] [] := by
  obtain ⟨fd, F⟩ := T.d_GapTooShort_init
  refine ⟨fd, fn_exc (k := 0) F sc_GapTooShort_init T.ox_GapTooShort ?_ rfl (by decide) (fun cdv A outer s H E => pss_cons (ps_ost (pv 0) (pv 1)) (pss_cons (ps_ost (pv 0) (pv 2)) (pss_nil))), F.bindsN fun _ _ _ _ _ _ us hl => match us, hl with | [_, _, _], _ => rfl⟩
  intro g hg
  rcases List.mem_cons.mp hg with rfl | hg
  · exact T.nf_GapTooShort_task
  rcases List.mem_cons.mp hg with rfl | hg
  · exact T.nf_GapTooShort_place
  cases hg

theorem ok_is_name {P : Program} {w : World} {K : PySem.W.Frag} {mg : Str → Option Value} {base : Heap} (T : Txt K mg) (TB : TabBs K mg base)  : Good P w K mg base 1 (some "is_name") (ga K "is_name") ["text"] (sp_is_name K) := by
  obtain ⟨fd, F⟩ := T.d_is_name
  refine ⟨⟨fd, fn_d (k := 0) F sc_is_name len_is_name (t_is_name K) (fun cdv A outer s H E WD hr tk hp => ?_) (pure_is_name T), F.bindsN fun _ _ _ _ _ _ us hl => match us, hl with | [_], _ => rfl, F.kp⟩, T.g_is_name⟩
  refine dss_cons (ds_if (dt_w (dw_or (dt_not (dt_chain op_le od_cmpI op_le od_cmpI de_int (de_callB call_len cd_len rfl T.b_len (by decide +kernel) (da_cons (dv 0) da_nil)) (de_globI rfl T.k_LONGEST_NAME))) (dw_or1 (dt_cmp op_notInA od_notIn (de_ix (dv 0) de_int) (de_globS rfl T.k_LETTERS) (by rfl))))) (dss_one (ds_ret de_bl)) dss_nil) ?_
  exact dss_one (ds_ret (de_callB (cr_all rfl) cd_all rfl T.b_all (by decide +kernel) (da_cons (de_lc false (own := [("sign", 1)]) (c := .one 1) (te := dOrV (dOp (dIn false) (dVar 1) (dC (.str "abcdefghijklmnopqrstuvwxyz"))) (dOp (dIn false) (dVar 1) (dC (.str "0123456789_")))) (tt := dYes) rfl sc_is_name.nd (by simp [CT.in]) (di_str (dv 0)) (blkOk_by (own := [("sign", 1)]) (N := nm_is_name) (sc := defScope s_is_name) (by decide +kernel)) (fun _ _ _ _ _ => pg_ct1 (i := 1) sc_is_name.nd rfl (Or.inl rfl)) (fun _ _ _ _ _ => dts_nil) (fun _ _ _ _ _ => de_or (de_cmp op_inA od_in (dv 1) (de_globS rfl T.k_LETTERS) (by rfl)) (de_one (de_cmp op_inA od_in (dv 1) (de_globS rfl T.k_OTHER_SIGNS) (by rfl))))) da_nil)))

theorem ok_need_name {P : Program} {w : World} {K : PySem.W.Frag} {mg : Str → Option Value} {base : Heap} (T : Txt K mg) (TB : TabBs K mg base) (c_is_name : Good P w K mg base 1 (some "is_name") (ga K "is_name") ["text"] (sp_is_name K)) : Good P w K mg base 2 (some "need_name") (ga K "need_name") ["text"] (sp_need_name K) := by
  obtain ⟨_, c_is_name_ok, c_is_name_b, c_is_name_kp⟩ := c_is_name.ex
  have c_is_name_g := c_is_name.gl
  obtain ⟨fd, F⟩ := T.d_need_name
  refine ⟨⟨fd, fn_d (k := 1) F sc_need_name len_need_name (t_need_name K) (fun cdv A outer s H E WD hr tk hp => ?_) (pure_need_name T), F.bindsN fun _ _ _ _ _ _ us hl => match us, hl with | [_], _ => rfl, F.kp⟩, T.g_need_name⟩
  exact dss_one (ds_if (dt_not (dt_tru (de_call c_is_name_ok (hr.mono (by decide)) rfl c_is_name_g c_is_name_kp c_is_name_b .nil (fun _ => .nil) tk (da_cons (dv 0) da_nil)))) (dss_one ds_never) dss_nil)

theorem ok_need_range {P : Program} {w : World} {K : PySem.W.Frag} {mg : Str → Option Value} {base : Heap} (T : Txt K mg) (TB : TabBs K mg base)  : Good P w K mg base 1 (some "need_range") (ga K "need_range") ["what", "value", "least", "most"] (sp_need_range K) := by
  obtain ⟨fd, F⟩ := T.d_need_range
  refine ⟨⟨fd, fn_d (k := 0) F sc_need_range len_need_range (t_need_range K) (fun cdv A outer s H E WD hr tk hp => ?_) (pure_need_range T), F.bindsN fun _ _ _ _ _ _ us hl => match us, hl with | [_, _, _, _], _ => rfl, F.kp⟩, T.g_need_range⟩
  exact dss_one (ds_if (dt_w (dw_or (dt_cmp op_lt od_cmpI (dv 1) (dv 2) (nomark _)) (dw_or1 (dt_cmp op_gt od_cmpI (dv 1) (dv 3) (nomark _))))) (dss_one ds_never) dss_nil)

theorem ok_need_kind {P : Program} {w : World} {K : PySem.W.Frag} {mg : Str → Option Value} {base : Heap} (T : Txt K mg) (TB : TabBs K mg base)  : Good P w K mg base 1 (some "need_kind") (ga K "need_kind") ["name", "kind_rows"] (sp_need_kind K) := by
  obtain ⟨fd, F⟩ := T.d_need_kind
  refine ⟨⟨fd, fn_d (k := 0) F sc_need_kind len_need_kind (t_need_kind K) (fun cdv A outer s H E WD hr tk hp => ?_) (pure_need_kind T), F.bindsN fun _ _ _ _ _ _ us hl => match us, hl with | [_, _], _ => rfl, F.kp⟩, T.g_need_kind⟩
  exact dss_one (ds_if (dt_cmp op_notInA od_notIn (dv 0) (de_lc false (own := [("row", 2)]) (c := .one 2) (te := dOp dIx (dVar 2) (dC (.int 0))) (tt := dYes) rfl sc_need_kind.nd (by simp [CT.in]) (di_list (dv 1)) (blkOk_by (own := [("row", 2)]) (N := nm_need_kind) (sc := defScope s_need_kind) (by decide +kernel)) (fun _ _ _ _ _ => pg_ct1 (i := 2) sc_need_kind.nd rfl (Or.inl rfl)) (fun _ _ _ _ _ => dts_nil) (fun _ _ _ _ _ => de_ix (dv 2) de_int)) (by rfl)) (dss_one ds_never) dss_nil)

theorem ok_checked_kinds {P : Program} {w : World} {K : PySem.W.Frag} {mg : Str → Option Value} {base : Heap} (T : Txt K mg) (TB : TabBs K mg base) (c_need_name : Good P w K mg base 2 (some "need_name") (ga K "need_name") ["text"] (sp_need_name K)) (c_need_range : Good P w K mg base 1 (some "need_range") (ga K "need_range") ["what", "value", "least", "most"] (sp_need_range K)) : Good P w K mg base 3 (some "checked_kinds") (ga K "checked_kinds") ["kinds", "branching"] (sp_checked_kinds K) := by
  obtain ⟨_, c_need_name_ok, c_need_name_b, c_need_name_kp⟩ := c_need_name.ex
  have c_need_name_g := c_need_name.gl
  obtain ⟨_, c_need_range_ok, c_need_range_b, c_need_range_kp⟩ := c_need_range.ex
  have c_need_range_g := c_need_range.gl
  obtain ⟨fd, F⟩ := T.d_checked_kinds
  refine ⟨⟨fd, fn_d (k := 2) F sc_checked_kinds len_checked_kinds (t_checked_kinds K) (fun cdv A outer s H E WD hr tk hp => ?_) (pure_checked_kinds T), F.bindsN fun _ _ _ _ _ _ us hl => match us, hl with | [_, _], _ => rfl, F.kp⟩, T.g_checked_kinds⟩
  refine dss_cons (ds_asg (de_ifExp (dt_tru (dv 1)) (de_tup (da_cons de_int (da_cons de_int da_nil))) (de_tup (da_cons de_int (da_cons de_int da_nil)))) (dg_tup rfl (dgs_cons (dg_name (i := 2) sc_checked_kinds.nd rfl (Or.inl rfl)) (dgs_cons (dg_name (i := 3) sc_checked_kinds.nd rfl (Or.inl rfl)) dgs_nil)))) ?_
  refine dss_cons (ds_set (i := 4) sc_checked_kinds.nd rfl (Or.inl rfl) (de_lst true da_nil)) ?_
  refine dss_cons (ds_for hp rfl (di_list (dv 0)) (dg_tup rfl (dgs_cons (dg_name (i := 5) sc_checked_kinds.nd rfl (Or.inl rfl)) (dgs_cons (dg_name (i := 6) sc_checked_kinds.nd rfl (Or.inl rfl)) (dgs_cons (dg_name (i := 7) sc_checked_kinds.nd rfl (Or.inl rfl)) dgs_nil)))) (dss_cons (ds_expr (de_call c_need_name_ok (hr.mono (by decide)) rfl c_need_name_g c_need_name_kp c_need_name_b .nil (fun _ => .nil) tk (da_cons (dv 5) da_nil)))
    (dss_cons (ds_if (dt_cmp op_inA od_in (dv 5) (de_lcM false (own := [("row", 8)]) (c := .one 8) (te := dOp dIx (dVar 8) (dC (.int 0))) (tt := dYes) rfl sc_checked_kinds.nd (by simp [CT.in]) (dv 4) (blkOk_by (own := [("row", 8)]) (N := nm_checked_kinds) (sc := defScope s_checked_kinds) (by decide +kernel)) (fun _ _ _ _ _ => pg_ct1 (i := 8) sc_checked_kinds.nd rfl (Or.inl rfl)) (fun _ _ _ _ _ => dts_nil) (fun _ _ _ _ _ => de_ix (dv 8) de_int)) (by rfl)) (dss_one ds_never) dss_nil)
    (dss_cons (ds_expr (de_call c_need_range_ok (hr.mono (by decide)) rfl c_need_range_g c_need_range_kp c_need_range_b .nil (fun _ => .nil) tk (da_cons de_str (da_cons (dv 6) (da_cons de_int (da_cons (dv 2) da_nil))))))
    (dss_cons (ds_expr (de_call c_need_range_ok (hr.mono (by decide)) rfl c_need_range_g c_need_range_kp c_need_range_b .nil (fun _ => .nil) tk (da_cons de_str (da_cons (dv 7) (da_cons de_int (da_cons (dv 3) da_nil))))))
    (dss_one (ds_expr (de_bm PySem.F.plainAttrs_list PySem.F.slot_list_append PySem.F.type_list_append mt_append md_append (dv 4) (da_cons (de_tup (da_cons (dv 5) (da_cons (dv 6) (da_cons (dv 7) da_nil)))) da_nil))))))))) ?_
  exact dss_one (ds_ret (de_frz (dv 4)))

theorem ok_checked_arrows {P : Program} {w : World} {K : PySem.W.Frag} {mg : Str → Option Value} {base : Heap} (T : Txt K mg) (TB : TabBs K mg base) (c_need_kind : Good P w K mg base 1 (some "need_kind") (ga K "need_kind") ["name", "kind_rows"] (sp_need_kind K)) (c_need_range : Good P w K mg base 1 (some "need_range") (ga K "need_range") ["what", "value", "least", "most"] (sp_need_range K)) : Good P w K mg base 2 (some "checked_arrows") (ga K "checked_arrows") ["arrows", "kind_rows"] (sp_checked_arrows K) := by
  obtain ⟨_, c_need_kind_ok, c_need_kind_b, c_need_kind_kp⟩ := c_need_kind.ex
  have c_need_kind_g := c_need_kind.gl
  obtain ⟨_, c_need_range_ok, c_need_range_b, c_need_range_kp⟩ := c_need_range.ex
  have c_need_range_g := c_need_range.gl
  obtain ⟨fd, F⟩ := T.d_checked_arrows
  refine ⟨⟨fd, fn_d (k := 1) F sc_checked_arrows len_checked_arrows (t_checked_arrows K) (fun cdv A outer s H E WD hr tk hp => ?_) (pure_checked_arrows T), F.bindsN fun _ _ _ _ _ _ us hl => match us, hl with | [_, _], _ => rfl, F.kp⟩, T.g_checked_arrows⟩
  refine dss_cons (ds_set (i := 2) sc_checked_arrows.nd rfl (Or.inl rfl) (de_lst true da_nil)) ?_
  refine dss_cons (ds_for hp rfl (di_seq (dv 0)) (dg_tup rfl (dgs_cons (dg_name (i := 3) sc_checked_arrows.nd rfl (Or.inl rfl)) (dgs_cons (dg_name (i := 4) sc_checked_arrows.nd rfl (Or.inl rfl)) (dgs_cons (dg_name (i := 5) sc_checked_arrows.nd rfl (Or.inl rfl)) dgs_nil)))) (dss_cons (ds_expr (de_call c_need_kind_ok (hr.mono (by decide)) rfl c_need_kind_g c_need_kind_kp c_need_kind_b .nil (fun _ => .nil) tk (da_cons (dv 3) (da_cons (dv 1) da_nil))))
    (dss_cons (ds_expr (de_call c_need_kind_ok (hr.mono (by decide)) rfl c_need_kind_g c_need_kind_kp c_need_kind_b .nil (fun _ => .nil) tk (da_cons (dv 4) (da_cons (dv 1) da_nil))))
    (dss_cons (ds_expr (de_call c_need_range_ok (hr.mono (by decide)) rfl c_need_range_g c_need_range_kp c_need_range_b .nil (fun _ => .nil) tk (da_cons de_str (da_cons (dv 5) (da_cons de_int (da_cons (de_globI rfl T.k_MOST_GAP) da_nil))))))
    (dss_cons (ds_if (dt_cmp (op_inD hr.units) (od_inD false) (de_tup (da_cons (dv 3) (da_cons (dv 4) da_nil))) (de_lcM false (own := [("row", 6)]) (c := .one 6) (te := dTup (daCons (dOp dIx (dVar 6) (dC (.int 0))) (daCons (dOp dIx (dVar 6) (dC (.int 1))) daNil))) (tt := dYes) rfl sc_checked_arrows.nd (by simp [CT.in]) (dv 2) (blkOk_by (own := [("row", 6)]) (N := nm_checked_arrows) (sc := defScope s_checked_arrows) (by decide +kernel)) (fun _ _ _ _ _ => pg_ct1 (i := 6) sc_checked_arrows.nd rfl (Or.inl rfl)) (fun _ _ _ _ _ => dts_nil) (fun _ _ _ _ _ => de_tup (da_cons (de_ix (dv 6) de_int) (da_cons (de_ix (dv 6) de_int) da_nil)))) (by rfl)) (dss_one ds_never) dss_nil)
    (dss_one (ds_expr (de_bm PySem.F.plainAttrs_list PySem.F.slot_list_append PySem.F.type_list_append mt_append md_append (dv 2) (da_cons (de_tup (da_cons (dv 3) (da_cons (dv 4) (da_cons (dv 5) da_nil)))) da_nil))))))))) ?_
  exact dss_one (ds_ret (de_frz (dv 2)))

theorem ok_Task_init {P : Program} {w : World} {K : PySem.W.Frag} {mg : Str → Option Value} {base : Heap} (T : Txt K mg) (TB : TabBs K mg base) (c_need_name : Good P w K mg base 2 (some "need_name") (ga K "need_name") ["text"] (sp_need_name K)) (c_checked_kinds : Good P w K mg base 3 (some "checked_kinds") (ga K "checked_kinds") ["kinds", "branching"] (sp_checked_kinds K)) (c_checked_arrows : Good P w K mg base 2 (some "checked_arrows") (ga K "checked_arrows") ["arrows", "kind_rows"] (sp_checked_arrows K)) : GoodD P w K mg base 4 none (ma K (ga K "Task") "__init__") ["self", "name", "kinds", "arrows"] (sp_Task_init K) [.tup []] := by
  obtain ⟨_, c_need_name_ok, c_need_name_b, c_need_name_kp⟩ := c_need_name.ex
  have c_need_name_g := c_need_name.gl
  obtain ⟨_, c_checked_kinds_ok, c_checked_kinds_b, c_checked_kinds_kp⟩ := c_checked_kinds.ex
  have c_checked_kinds_g := c_checked_kinds.gl
  obtain ⟨_, c_checked_arrows_ok, c_checked_arrows_b, c_checked_arrows_kp⟩ := c_checked_arrows.ex
  have c_checked_arrows_g := c_checked_arrows.gl
  obtain ⟨fd, F⟩ := T.d_Task_init
  obtain ⟨dV, hdV, hbV⟩ := FunD.binds1 (ps := ["self", "name", "kinds", "arrows"]) F 3 0 (by simp) rfl (fun T kV doc pm an cdv ct us its h1 h2 => match us, its, h1, h2 with | [_, _, _], [_], _, _ => ⟨_, rfl, rfl⟩)
  obtain ⟨dW, hdW, hbW⟩ := FunD.binds1 (ps := ["self", "name", "kinds", "arrows"]) F 4 1 (by simp) rfl (fun T kV doc pm an cdv ct us its h1 h2 => match us, its, h1, h2 with | [_, _, _, _], [_], _, _ => ⟨_, rfl, rfl⟩)
  cases hdW
  refine ⟨⟨fd, fn_d (k := 3) F sc_Task_init len_Task_init (t_Task_init K) (fun cdv A outer s H E WD hr tk hp => ?_) (pure_Task_init T), F.kp, hbW, dV, _, hdV, hbV, fun G => tup0_of T.t0_Task_init G⟩, trivial⟩
  refine dss_cons (ds_expr (de_call c_need_name_ok (hr.mono (by decide)) rfl c_need_name_g c_need_name_kp c_need_name_b .nil (fun _ => .nil) tk (da_cons (dv 1) da_nil))) ?_
  refine dss_cons (ds_if (dt_not (dt_chain op_le od_cmpI op_le od_cmpI de_int (de_callB call_len cd_len rfl T.b_len (by decide +kernel) (da_cons (dv 2) da_nil)) (de_globI rfl T.k_MOST_KINDS))) (dss_one ds_never) dss_nil) ?_
  refine dss_cons (ds_if (dt_cmp op_gt od_cmpI (de_callB call_len cd_len rfl T.b_len (by decide +kernel) (da_cons (dv 3) da_nil)) (de_globI rfl T.k_MOST_ARROWS) (nomark _)) (dss_one ds_never) dss_nil) ?_
  refine dss_cons (ds_fld (dv 0) (dv 1)) ?_
  refine dss_cons (ds_fld (dv 0) (de_call c_checked_kinds_ok (hr.mono (by decide)) rfl c_checked_kinds_g c_checked_kinds_kp c_checked_kinds_b .nil (fun _ => .nil) tk (da_cons (dv 2) (da_cons (de_cmp op_gt od_cmpI (de_callB call_len cd_len rfl T.b_len (by decide +kernel) (da_cons (dv 3) da_nil)) de_int (nomark _)) da_nil)))) ?_
  exact dss_one (ds_fld (dv 0) (de_call c_checked_arrows_ok (hr.mono (by decide)) rfl c_checked_arrows_g c_checked_arrows_kp c_checked_arrows_b .nil (fun _ => .nil) tk (da_cons (dv 3) (da_cons (de_fld (dv 0)) da_nil))))

theorem ok_Task_row_of {P : Program} {w : World} {K : PySem.W.Frag} {mg : Str → Option Value} {base : Heap} (T : Txt K mg) (TB : TabBs K mg base)  : Good P w K mg base 3 none (ma K (ga K "Task") "row_of") ["self", "kind"] (sp_Task_row_of K) := by
  obtain ⟨_, x_UnknownKind_ok, x_UnknownKind_b⟩ := okx_UnknownKind (P := P) (w := w) (base := base) T
  obtain ⟨fd, F⟩ := T.d_Task_row_of
  refine ⟨⟨fd, fn_d (k := 2) F sc_Task_row_of len_Task_row_of (t_Task_row_of K) (fun cdv A outer s H E WD hr tk hp => ?_) (pure_Task_row_of T), F.bindsN fun _ _ _ _ _ _ us hl => match us, hl with | [_, _], _ => rfl, F.kp⟩, trivial⟩
  refine dss_cons (ds_for hp rfl (di_list (de_fld (dv 0))) (dg_name (i := 2) sc_Task_row_of.nd rfl (Or.inl rfl)) (dss_one (ds_if (dt_cmp (op_eqA hr.units) od_eq (de_ix (dv 2) de_int) (dv 1) (nomark _)) (dss_one (ds_ret (dv 2))) dss_nil))) ?_
  exact dss_one (ds_raise T.ox_UnknownKind T.oxi_UnknownKind T.oxf_UnknownKind x_UnknownKind_ok (hr.mono (by decide)) x_UnknownKind_b rfl T.g_UnknownKind (by decide) rfl tk (da_cons (dv 1) da_nil))

theorem ok_Task_cost_of {P : Program} {w : World} {K : PySem.W.Frag} {mg : Str → Option Value} {base : Heap} (T : Txt K mg) (TB : TabBs K mg base) (c_Task_row_of : Good P w K mg base 3 none (ma K (ga K "Task") "row_of") ["self", "kind"] (sp_Task_row_of K)) : Good P w K mg base 4 none (ma K (ga K "Task") "cost_of") ["self", "kind"] (sp_Task_cost_of K) := by
  obtain ⟨_, c_Task_row_of_ok, c_Task_row_of_b, c_Task_row_of_kp⟩ := c_Task_row_of.ex
  have c_Task_row_of_g := c_Task_row_of.gl
  obtain ⟨fd, F⟩ := T.d_Task_cost_of
  refine ⟨⟨fd, fn_d (k := 3) F sc_Task_cost_of len_Task_cost_of (t_Task_cost_of K) (fun cdv A outer s H E WD hr tk hp => ?_) (pure_Task_cost_of T), F.bindsN fun _ _ _ _ _ _ us hl => match us, hl with | [_, _], _ => rfl, F.kp⟩, trivial⟩
  exact dss_one (ds_ret (de_ix (de_meth (dv 0) T.cl_Task T.m_Task_row_of c_Task_row_of_ok (hr.mono (by decide)) c_Task_row_of_b .nil (fun _ => .nil) tk (da_cons (dv 1) da_nil)) de_int))

theorem ok_Task_deadline_of {P : Program} {w : World} {K : PySem.W.Frag} {mg : Str → Option Value} {base : Heap} (T : Txt K mg) (TB : TabBs K mg base) (c_Task_row_of : Good P w K mg base 3 none (ma K (ga K "Task") "row_of") ["self", "kind"] (sp_Task_row_of K)) : Good P w K mg base 4 none (ma K (ga K "Task") "deadline_of") ["self", "kind"] (sp_Task_deadline_of K) := by
  obtain ⟨_, c_Task_row_of_ok, c_Task_row_of_b, c_Task_row_of_kp⟩ := c_Task_row_of.ex
  have c_Task_row_of_g := c_Task_row_of.gl
  obtain ⟨fd, F⟩ := T.d_Task_deadline_of
  refine ⟨⟨fd, fn_d (k := 3) F sc_Task_deadline_of len_Task_deadline_of (t_Task_deadline_of K) (fun cdv A outer s H E WD hr tk hp => ?_) (pure_Task_deadline_of T), F.bindsN fun _ _ _ _ _ _ us hl => match us, hl with | [_, _], _ => rfl, F.kp⟩, trivial⟩
  exact dss_one (ds_ret (de_ix (de_meth (dv 0) T.cl_Task T.m_Task_row_of c_Task_row_of_ok (hr.mono (by decide)) c_Task_row_of_b .nil (fun _ => .nil) tk (da_cons (dv 1) da_nil)) de_int))

theorem ok_Task_followers {P : Program} {w : World} {K : PySem.W.Frag} {mg : Str → Option Value} {base : Heap} (T : Txt K mg) (TB : TabBs K mg base) (c_Task_row_of : Good P w K mg base 3 none (ma K (ga K "Task") "row_of") ["self", "kind"] (sp_Task_row_of K)) : Good P w K mg base 4 none (ma K (ga K "Task") "followers") ["self", "kind"] (sp_Task_followers K) := by
  obtain ⟨_, c_Task_row_of_ok, c_Task_row_of_b, c_Task_row_of_kp⟩ := c_Task_row_of.ex
  have c_Task_row_of_g := c_Task_row_of.gl
  obtain ⟨fd, F⟩ := T.d_Task_followers
  refine ⟨⟨fd, fn_d (k := 3) F sc_Task_followers len_Task_followers (t_Task_followers K) (fun cdv A outer s H E WD hr tk hp => ?_) (pure_Task_followers T), F.bindsN fun _ _ _ _ _ _ us hl => match us, hl with | [_, _], _ => rfl, F.kp⟩, trivial⟩
  refine dss_cons (ds_expr (de_meth (dv 0) T.cl_Task T.m_Task_row_of c_Task_row_of_ok (hr.mono (by decide)) c_Task_row_of_b .nil (fun _ => .nil) tk (da_cons (dv 1) da_nil))) ?_
  exact dss_one (ds_ret (de_lc false (own := [("first", 2), ("second", 3), ("gap", 4)]) (c := .tup [2, 3, 4]) (te := dTup (daCons (dVar 3) (daCons (dVar 4) daNil))) (tt := dTest (dOp dEq (dVar 2) (dVar 1))) rfl sc_Task_followers.nd (by simp [CT.in]) (di_list (de_fld (dv 0))) (blkOk_by (own := [("first", 2), ("second", 3), ("gap", 4)]) (N := nm_Task_followers) (sc := defScope s_Task_followers) (by decide +kernel)) (fun _ _ _ _ _ => pg_ctT rfl (js := [2, 3, 4]) (pgs_cons (pg_name (i := 2) sc_Task_followers.nd rfl (Or.inl rfl)) (pgs_cons (pg_name (i := 3) sc_Task_followers.nd rfl (Or.inl rfl)) (pgs_cons (pg_name (i := 4) sc_Task_followers.nd rfl (Or.inl rfl)) (pgs_nil))))) (fun _ _ _ _ _ => dts_one (dt_cmp (op_eqA hr.units) od_eq (dv 2) (dv 1) (nomark _))) (fun _ _ _ _ _ => de_tup (da_cons (dv 3) (da_cons (dv 4) da_nil)))))

theorem ok_gap_between {P : Program} {w : World} {K : PySem.W.Frag} {mg : Str → Option Value} {base : Heap} (T : Txt K mg) (TB : TabBs K mg base) (c_Task_followers : Good P w K mg base 4 none (ma K (ga K "Task") "followers") ["self", "kind"] (sp_Task_followers K)) : Good P w K mg base 5 (some "gap_between") (ga K "gap_between") ["task", "first", "second"] (sp_gap_between K) := by
  obtain ⟨_, c_Task_followers_ok, c_Task_followers_b, c_Task_followers_kp⟩ := c_Task_followers.ex
  have c_Task_followers_g := c_Task_followers.gl
  obtain ⟨fd, F⟩ := T.d_gap_between
  refine ⟨⟨fd, fn_d (k := 4) F sc_gap_between len_gap_between (t_gap_between K) (fun cdv A outer s H E WD hr tk hp => ?_) (pure_gap_between T), F.bindsN fun _ _ _ _ _ _ us hl => match us, hl with | [_, _, _], _ => rfl, F.kp⟩, T.g_gap_between⟩
  refine dss_cons (ds_for hp rfl (di_list (de_meth (dv 0) T.cl_Task T.m_Task_followers c_Task_followers_ok (hr.mono (by decide)) c_Task_followers_b .nil (fun _ => .nil) tk (da_cons (dv 1) da_nil))) (dg_tup rfl (dgs_cons (dg_name (i := 3) sc_gap_between.nd rfl (Or.inl rfl)) (dgs_cons (dg_name (i := 4) sc_gap_between.nd rfl (Or.inl rfl)) dgs_nil))) (dss_one (ds_if (dt_cmp (op_eqA hr.units) od_eq (dv 3) (dv 2) (nomark _)) (dss_one (ds_ret (dv 4))) dss_nil))) ?_
  exact dss_one (ds_ret de_non)

theorem ok_check_job {P : Program} {w : World} {K : PySem.W.Frag} {mg : Str → Option Value} {base : Heap} (T : Txt K mg) (TB : TabBs K mg base) (c_Task_cost_of : Good P w K mg base 4 none (ma K (ga K "Task") "cost_of") ["self", "kind"] (sp_Task_cost_of K)) (c_gap_between : Good P w K mg base 5 (some "gap_between") (ga K "gap_between") ["task", "first", "second"] (sp_gap_between K)) : Good P w K mg base 6 (some "check_job") (ga K "check_job") ["task", "walk", "index", "place", "grain"] (sp_check_job K) := by
  obtain ⟨_, c_Task_cost_of_ok, c_Task_cost_of_b, c_Task_cost_of_kp⟩ := c_Task_cost_of.ex
  have c_Task_cost_of_g := c_Task_cost_of.gl
  obtain ⟨_, c_gap_between_ok, c_gap_between_b, c_gap_between_kp⟩ := c_gap_between.ex
  have c_gap_between_g := c_gap_between.gl
  obtain ⟨_, x_BadCost_ok, x_BadCost_b⟩ := okx_BadCost (P := P) (w := w) (base := base) T
  obtain ⟨_, x_BadRelease_ok, x_BadRelease_b⟩ := okx_BadRelease (P := P) (w := w) (base := base) T
  obtain ⟨_, x_GapTooShort_ok, x_GapTooShort_b⟩ := okx_GapTooShort (P := P) (w := w) (base := base) T
  obtain ⟨_, x_NoArrow_ok, x_NoArrow_b⟩ := okx_NoArrow (P := P) (w := w) (base := base) T
  obtain ⟨fd, F⟩ := T.d_check_job
  refine ⟨⟨fd, fn_d (k := 5) F sc_check_job len_check_job (t_check_job K) (fun cdv A outer s H E WD hr tk hp => ?_) (pure_check_job T), F.bindsN fun _ _ _ _ _ _ us hl => match us, hl with | [_, _, _, _, _], _ => rfl, F.kp⟩, T.g_check_job⟩
  refine dss_cons (ds_asg (de_ix (dv 1) (dv 3)) (dg_tup rfl (dgs_cons (dg_name (i := 5) sc_check_job.nd rfl (Or.inl rfl)) (dgs_cons (dg_name (i := 6) sc_check_job.nd rfl (Or.inl rfl)) (dgs_cons (dg_name (i := 7) sc_check_job.nd rfl (Or.inl rfl)) dgs_nil))))) ?_
  refine dss_cons (ds_set (i := 8) sc_check_job.nd rfl (Or.inl rfl) (de_mul false (de_meth (dv 0) T.cl_Task T.m_Task_cost_of c_Task_cost_of_ok (hr.mono (by decide)) c_Task_cost_of_b .nil (fun _ => .nil) tk (da_cons (dv 5) da_nil)) (dv 4))) ?_
  refine dss_cons (ds_if (dt_not (dt_chain op_le od_cmpI op_le od_cmpI de_int (dv 7) (dv 8))) (dss_one (ds_raise T.ox_BadCost T.oxi_BadCost T.oxf_BadCost x_BadCost_ok (hr.mono (by decide)) x_BadCost_b rfl T.g_BadCost (by decide) rfl tk (da_cons (dv 2) (da_cons (dv 3) da_nil)))) dss_nil) ?_
  refine dss_cons (ds_if (dt_cmp op_lt od_cmpI (dv 6) de_int (nomark _)) (dss_one (ds_raise T.ox_BadRelease T.oxi_BadRelease T.oxf_BadRelease x_BadRelease_ok (hr.mono (by decide)) x_BadRelease_b rfl T.g_BadRelease (by decide) rfl tk (da_cons (dv 2) (da_cons (dv 3) da_nil)))) dss_nil) ?_
  refine dss_cons (ds_if (dt_cmp (op_eqA hr.units) od_eq (dv 3) de_int (nomark _)) (dss_one ds_retN) dss_nil) ?_
  refine dss_cons (ds_set (i := 9) sc_check_job.nd rfl (Or.inl rfl) (de_ix (dv 1) (de_sub (dv 3) de_int))) ?_
  refine dss_cons (ds_set (i := 10) sc_check_job.nd rfl (Or.inl rfl) (de_call c_gap_between_ok (hr.mono (by decide)) rfl c_gap_between_g c_gap_between_kp c_gap_between_b .nil (fun _ => .nil) tk (da_cons (dv 0) (da_cons (de_ix (dv 9) de_int) (da_cons (dv 5) da_nil))))) ?_
  refine dss_cons (ds_if (dt_cmp op_isN od_isN (dv 10) de_non (nomark _)) (dss_one (ds_raise T.ox_NoArrow T.oxi_NoArrow T.oxf_NoArrow x_NoArrow_ok (hr.mono (by decide)) x_NoArrow_b rfl T.g_NoArrow (by decide) rfl tk (da_cons (dv 2) (da_cons (dv 3) da_nil)))) dss_nil) ?_
  exact dss_one (ds_if (dt_cmp op_lt od_cmpI (de_sub (dv 6) (de_ix (dv 9) de_int)) (de_mul false (dv 10) (dv 4)) (nomark _)) (dss_one (ds_raise T.ox_GapTooShort T.oxi_GapTooShort T.oxf_GapTooShort x_GapTooShort_ok (hr.mono (by decide)) x_GapTooShort_b rfl T.g_GapTooShort (by decide) rfl tk (da_cons (dv 2) (da_cons (dv 3) da_nil)))) dss_nil)

theorem ok_check_counts {P : Program} {w : World} {K : PySem.W.Frag} {mg : Str → Option Value} {base : Heap} (T : Txt K mg) (TB : TabBs K mg base)  : Good P w K mg base 3 (some "check_counts") (ga K "check_counts") ["tasks", "walks", "grain"] (sp_check_counts K) := by
  obtain ⟨_, x_OutOfRange_ok, x_OutOfRange_b⟩ := okx_OutOfRange (P := P) (w := w) (base := base) T
  obtain ⟨_, x_WrongCount_ok, x_WrongCount_b⟩ := okx_WrongCount (P := P) (w := w) (base := base) T
  obtain ⟨fd, F⟩ := T.d_check_counts
  refine ⟨⟨fd, fn_d (k := 2) F sc_check_counts len_check_counts (t_check_counts K) (fun cdv A outer s H E WD hr tk hp => ?_) (pure_check_counts T), F.bindsN fun _ _ _ _ _ _ us hl => match us, hl with | [_, _, _], _ => rfl, F.kp⟩, T.g_check_counts⟩
  refine dss_cons (ds_if (dt_not (dt_chain op_le od_cmpI op_le od_cmpI de_int (dv 2) (de_globI rfl T.k_GRAIN_LIMIT))) (dss_one (ds_raise T.ox_OutOfRange T.oxi_OutOfRange T.oxf_OutOfRange x_OutOfRange_ok (hr.mono (by decide)) x_OutOfRange_b rfl T.g_OutOfRange (by decide) rfl tk (da_cons de_str (da_cons (dv 2) da_nil)))) dss_nil) ?_
  refine dss_cons (ds_if (dt_cmp (op_neA hr.units) od_ne (de_callB call_len cd_len rfl T.b_len (by decide +kernel) (da_cons (dv 1) da_nil)) (de_callB call_len cd_len rfl T.b_len (by decide +kernel) (da_cons (dv 0) da_nil)) (nomark _)) (dss_one (ds_raise T.ox_WrongCount T.oxi_WrongCount T.oxf_WrongCount x_WrongCount_ok (hr.mono (by decide)) x_WrongCount_b rfl T.g_WrongCount (by decide) rfl tk (da_cons de_str (da_cons (de_callB call_len cd_len rfl T.b_len (by decide +kernel) (da_cons (dv 1) da_nil)) da_nil)))) dss_nil) ?_
  refine dss_cons (ds_set (i := 3) sc_check_counts.nd rfl (Or.inl rfl) (de_callB (cr_sum rfl) cd_sum rfl T.b_sum (by decide +kernel) (da_cons (de_lc false (own := [("walk", 4)]) (c := .one 4) (te := dCB dLen (daCons (dVar 4) daNil)) (tt := dYes) rfl sc_check_counts.nd (by simp [CT.in]) (di_list (dv 1)) (blkOk_by (own := [("walk", 4)]) (N := nm_check_counts) (sc := defScope s_check_counts) (by decide +kernel)) (fun _ _ _ _ _ => pg_ct1 (i := 4) sc_check_counts.nd rfl (Or.inl rfl)) (fun _ _ _ _ _ => dts_nil) (fun _ _ _ _ _ => de_callB call_len cd_len rfl T.b_len (by decide +kernel) (da_cons (dv 4) da_nil))) da_nil))) ?_
  exact dss_one (ds_if (dt_cmp op_gt od_cmpI (dv 3) (de_globI rfl T.k_JOB_LIMIT) (nomark _)) (dss_one (ds_raise T.ox_WrongCount T.oxi_WrongCount T.oxf_WrongCount x_WrongCount_ok (hr.mono (by decide)) x_WrongCount_b rfl T.g_WrongCount (by decide) rfl tk (da_cons de_str (da_cons (dv 3) da_nil)))) dss_nil)

theorem ok_Run_init {P : Program} {w : World} {K : PySem.W.Frag} {mg : Str → Option Value} {base : Heap} (T : Txt K mg) (TB : TabBs K mg base) (c_check_counts : Good P w K mg base 3 (some "check_counts") (ga K "check_counts") ["tasks", "walks", "grain"] (sp_check_counts K)) (c_check_job : Good P w K mg base 6 (some "check_job") (ga K "check_job") ["task", "walk", "index", "place", "grain"] (sp_check_job K)) (c_Task_deadline_of : Good P w K mg base 4 none (ma K (ga K "Task") "deadline_of") ["self", "kind"] (sp_Task_deadline_of K)) : GoodK P w K mg base 7 none (ma K (ga K "Run") "__init__") ["self", "tasks", "walks", "grain"] (sp_Run_init K) 3 ["grain"] [.int 1] := by
  obtain ⟨_, c_check_counts_ok, c_check_counts_b, c_check_counts_kp⟩ := c_check_counts.ex
  have c_check_counts_g := c_check_counts.gl
  obtain ⟨_, c_check_job_ok, c_check_job_b, c_check_job_kp⟩ := c_check_job.ex
  have c_check_job_g := c_check_job.gl
  obtain ⟨_, c_Task_deadline_of_ok, c_Task_deadline_of_b, c_Task_deadline_of_kp⟩ := c_Task_deadline_of.ex
  have c_Task_deadline_of_g := c_Task_deadline_of.gl
  obtain ⟨lc, lP, lhc, lhx⟩ := T.lam_Run_init
  obtain ⟨fd, F⟩ := T.d_Run_init
  obtain ⟨dV, hdV, hbV⟩ := FunD.binds0 (ps := ["self", "tasks", "walks", "grain"]) F 3 (by simp) rfl (fun D doc pm an cdv ct us ks h1 h2 => match us, ks, h1, h2 with | [_, _, _], [_], _, _ => ⟨_, _, _, _, _, _, rfl, rfl, rfl⟩)
  refine ⟨⟨fd, fn_dL (k := 6) F lhc sc_Run_init len_Run_init (t_Run_init K) (fun A outer s H E WD hr tk hp => ?_) (pure_Run_init T), F.kp, kbn_all F 3 ["grain"] (fun _ _ _ _ _ _ us ws h1 h2 => match us, ws, h1, h2 with | [_, _, _], [_], _, _ => rfl), dV, _, hdV, hbV, fun G => .cons (.int 1) (.nil)⟩, trivial⟩
  refine dss_cons (ds_expr (de_call c_check_counts_ok (hr.mono (by decide)) rfl c_check_counts_g c_check_counts_kp c_check_counts_b .nil (fun _ => .nil) tk (da_cons (dv 1) (da_cons (dv 2) (da_cons (dv 3) da_nil))))) ?_
  refine dss_cons (ds_set (i := 4) sc_Run_init.nd rfl (Or.inl rfl) (de_lst true da_nil)) ?_
  refine dss_cons (ds_for hp rfl (di_enum rfl T.b_enumerate (da_cons (dv 2) da_nil)) (dg_tup rfl (dgs_cons (dg_name (i := 5) sc_Run_init.nd rfl (Or.inl rfl)) (dgs_cons (dg_name (i := 6) sc_Run_init.nd rfl (Or.inl rfl)) dgs_nil))) (dss_cons (ds_set (i := 7) sc_Run_init.nd rfl (Or.inl rfl) (de_ix (dv 1) (dv 5)))
    (dss_one (ds_for hp rfl (di_enum rfl T.b_enumerate (da_cons (dv 6) da_nil)) (dg_tup rfl (dgs_cons (dg_name (i := 8) sc_Run_init.nd rfl (Or.inl rfl)) (dgs_cons (dg_tup rfl (dgs_cons (dg_name (i := 9) sc_Run_init.nd rfl (Or.inl rfl)) (dgs_cons (dg_name (i := 10) sc_Run_init.nd rfl (Or.inl rfl)) (dgs_cons (dg_name (i := 11) sc_Run_init.nd rfl (Or.inl rfl)) dgs_nil)))) dgs_nil))) (dss_cons (ds_expr (de_call c_check_job_ok (hr.mono (by decide)) rfl c_check_job_g c_check_job_kp c_check_job_b .nil (fun _ => .nil) tk (da_cons (dv 7) (da_cons (dv 6) (da_cons (dv 5) (da_cons (dv 8) (da_cons (dv 3) da_nil)))))))
    (dss_cons (ds_set (i := 12) sc_Run_init.nd rfl (Or.inl rfl) (de_add false (dv 10) (de_mul false (de_meth (dv 7) T.cl_Task T.m_Task_deadline_of c_Task_deadline_of_ok (hr.mono (by decide)) c_Task_deadline_of_b .nil (fun _ => .nil) tk (da_cons (dv 9) da_nil)) (dv 3))))
    (dss_one (ds_expr (de_bm PySem.F.plainAttrs_list PySem.F.slot_list_append PySem.F.type_list_append mt_append md_append (dv 4) (da_cons (de_tup (da_cons (dv 5) (da_cons (dv 8) (da_cons (dv 9) (da_cons (dv 10) (da_cons (dv 11) (da_cons (dv 12) da_nil))))))) da_nil)))))))))) ?_
  refine dss_frz 4 ?_
  refine dss_cons (ds_fld (dv 0) (dv 3)) ?_
  exact dss_one (ds_fld (dv 0) (de_sortK false (k := 0) (ip := 13) (te := dTup (daCons (dOp dIx (dVar 13) (dC (.int 3))) (daCons (dOp dIx (dVar 13) (dC (.int 0))) (daCons (dOp dIx (dVar 13) (dC (.int 1))) daNil)))) (hr.mono (by decide)) rfl T.b_sorted (by decide +kernel) (dv 4) (lam1_by (sc := defScope s_Run_init) (by decide +kernel)) sc_Run_init.nd rfl TB lhx rfl rfl (fun _ _ _ _ _ _ => rfl) (fun _ _ _ _ _ => de_tup (da_cons (de_ix (dv 13) de_int) (da_cons (de_ix (dv 13) de_int) (da_cons (de_ix (dv 13) de_int) da_nil))))))

theorem ok_Run_jobs {P : Program} {w : World} {K : PySem.W.Frag} {mg : Str → Option Value} {base : Heap} (T : Txt K mg) (TB : TabBs K mg base)  : Good P w K mg base 1 none (wad K "property" "Run" "jobs") ["self"] (sp_Run_jobs K) := by
  obtain ⟨fd, F⟩ := T.d_Run_jobs
  refine ⟨⟨fd, fn_d (k := 0) F sc_Run_jobs len_Run_jobs (t_Run_jobs K) (fun cdv A outer s H E WD hr tk hp => ?_) (pure_Run_jobs T), F.bindsN fun _ _ _ _ _ _ us hl => match us, hl with | [_], _ => rfl, F.kp⟩, trivial⟩
  exact dss_one (ds_ret (de_callTy call_list_of (cd_list false) rfl T.b_list (by decide +kernel) (da_cons (de_fld (dv 0)) da_nil)))

theorem ok_check_speed {P : Program} {w : World} {K : PySem.W.Frag} {mg : Str → Option Value} {base : Heap} (T : Txt K mg) (TB : TabBs K mg base)  : Good P w K mg base 3 (some "check_speed") (ga K "check_speed") ["speed"] (sp_check_speed K) := by
  obtain ⟨_, x_OutOfRange_ok, x_OutOfRange_b⟩ := okx_OutOfRange (P := P) (w := w) (base := base) T
  obtain ⟨fd, F⟩ := T.d_check_speed
  refine ⟨⟨fd, fn_d (k := 2) F sc_check_speed len_check_speed (t_check_speed K) (fun cdv A outer s H E WD hr tk hp => ?_) (pure_check_speed T), F.bindsN fun _ _ _ _ _ _ us hl => match us, hl with | [_], _ => rfl, F.kp⟩, T.g_check_speed⟩
  exact dss_one (ds_if (dt_not (dt_chain op_le od_cmpI op_le od_cmpI de_int (dv 0) (de_globI rfl T.k_SPEED_LIMIT))) (dss_one (ds_raise T.ox_OutOfRange T.oxi_OutOfRange T.oxf_OutOfRange x_OutOfRange_ok (hr.mono (by decide)) x_OutOfRange_b rfl T.g_OutOfRange (by decide) rfl tk (da_cons de_str (da_cons (dv 0) da_nil)))) dss_nil)

theorem ok_add_slice {P : Program} {w : World} {K : PySem.W.Frag} {mg : Str → Option Value} {base : Heap} (T : Txt K mg) (TB : TabBs K mg base)  : Good P w K mg base 1 (some "add_slice") (ga K "add_slice") ["slices", "start", "end", "index"] (sp_add_slice K) := by
  obtain ⟨fd, F⟩ := T.d_add_slice
  refine ⟨⟨fd, fn_d (k := 0) F sc_add_slice len_add_slice (t_add_slice K) (fun cdv A outer s H E WD hr tk hp => ?_) (pure_add_slice T), F.bindsN fun _ _ _ _ _ _ us hl => match us, hl with | [_, _, _, _], _ => rfl, F.kp⟩, T.g_add_slice⟩
  exact dss_one (ds_if (dt_w (dw_and (dt_tru (dv 0)) (dw_and (dt_cmp (op_eqA hr.units) od_eq (de_ix (de_ix (dv 0) (de_neg de_int)) de_int) (dv 3) (nomark _)) (dw_and1 (dt_cmp (op_eqA hr.units) od_eq (de_ix (de_ix (dv 0) (de_neg de_int)) de_int) (dv 1) (nomark _)))))) (dss_one (ds_asg (de_tup (da_cons (de_ix (de_ix (dv 0) (de_neg de_int)) de_int) (da_cons (dv 2) (da_cons (dv 3) da_nil)))) (dg_sub (dv 0) (de_neg de_int)))) (dss_one (ds_expr (de_bm PySem.F.plainAttrs_list PySem.F.slot_list_append PySem.F.type_list_append mt_append md_append (dv 0) (da_cons (de_tup (da_cons (dv 1) (da_cons (dv 2) (da_cons (dv 3) da_nil)))) da_nil)))))

theorem ok_run_by {P : Program} {w : World} {K : PySem.W.Frag} {mg : Str → Option Value} {base : Heap} (T : Txt K mg) (TB : TabBs K mg base) {fv : FV} (hFV : FvOk P w K mg base 4 fv) (c_check_speed : Good P w K mg base 3 (some "check_speed") (ga K "check_speed") ["speed"] (sp_check_speed K)) (c_Run_jobs : Good P w K mg base 1 none (wad K "property" "Run" "jobs") ["self"] (sp_Run_jobs K)) (c_add_slice : Good P w K mg base 1 (some "add_slice") (ga K "add_slice") ["slices", "start", "end", "index"] (sp_add_slice K)) : GoodK P w K mg base 5 (some "run_by") (ga K "run_by") ["run", "key", "speed"] (sp_run_by K fv) 2 ["speed"] [.int 1] := by
  obtain ⟨_, c_check_speed_ok, c_check_speed_b, c_check_speed_kp⟩ := c_check_speed.ex
  have c_check_speed_g := c_check_speed.gl
  obtain ⟨_, c_Run_jobs_ok, c_Run_jobs_b, c_Run_jobs_kp⟩ := c_Run_jobs.ex
  have c_Run_jobs_g := c_Run_jobs.gl
  obtain ⟨_, c_add_slice_ok, c_add_slice_b, c_add_slice_kp⟩ := c_add_slice.ex
  have c_add_slice_g := c_add_slice.gl
  obtain ⟨lc, lP, lhc, lhx⟩ := T.lam_run_by
  obtain ⟨fd, F⟩ := T.d_run_by
  obtain ⟨dV, hdV, hbV⟩ := FunD.binds0 (ps := ["run", "key", "speed"]) F 2 (by simp) rfl (fun D doc pm an cdv ct us ks h1 h2 => match us, ks, h1, h2 with | [_, _], [_], _, _ => ⟨_, _, _, _, _, _, rfl, rfl, rfl⟩)
  refine ⟨⟨fd, fn_dL (k := 4) F lhc sc_run_by len_run_by (t_run_by K fv) (fun A outer s H E WD hr tk hp => ?_) (pure_run_by T fv), F.kp, kbn_all F 2 ["speed"] (fun _ _ _ _ _ _ us ws h1 h2 => match us, ws, h1, h2 with | [_, _], [_], _, _ => rfl), dV, _, hdV, hbV, fun G => .cons (.int 1) (.nil)⟩, T.g_run_by⟩
  refine dss_cons (ds_expr (de_call c_check_speed_ok (hr.mono (by decide)) rfl c_check_speed_g c_check_speed_kp c_check_speed_b .nil (fun _ => .nil) tk (da_cons (dv 2) da_nil))) ?_
  refine dss_cons (ds_set (i := 3) sc_run_by.nd rfl (Or.inl rfl) (de_prop (dv 0) T.cl_Run T.p_Run_jobs c_Run_jobs_ok (hr.mono (by decide)) c_Run_jobs_b)) ?_
  refine dss_cons (ds_set (i := 4) sc_run_by.nd rfl (Or.inr rfl) (de_lc false (own := [("job", 5)]) (c := .one 5) (te := dCallV fv 1 (daCons (dVar 5) daNil)) (tt := dYes) rfl sc_run_by.nd (by simp [CT.in]) (di_list (dv 3)) (blkOk_by (own := [("job", 5)]) (N := nm_run_by) (sc := defScope s_run_by) (by decide +kernel)) (fun _ _ _ _ _ => pg_ct1 (i := 5) sc_run_by.nd rfl (Or.inl rfl)) (fun _ _ _ _ _ => dts_nil) (fun _ _ _ _ _ => de_callV (i := 1) hFV (hr.mono (by decide)) (da_cons (dv 5) da_nil) rfl))) ?_
  refine dss_cons (ds_setLc true (i := 6) (hy := rfl) (hyl := rfl) (hsw := sw_true rfl rfl rfl (by decide +kernel)) (hc := rfl) (hN := sc_run_by.nd) (own := [("job", 5)]) (c := .one 5) (te := dOp dIx (dVar 5) (dC (.int 4))) (tt := dYes) (by simp [CT.in]) (di_list (dv 3)) (blkOk_by (own := [("job", 5)]) (N := nm_run_by) (sc := defScope s_run_by) (by decide +kernel)) (fun _ _ _ _ _ => pg_ct1 (i := 5) sc_run_by.nd rfl (Or.inl rfl)) (fun _ _ _ _ _ => dts_nil) (fun _ _ _ _ _ => de_ix (dv 5) de_int)) ?_
  refine dss_cons (ds_set (i := 7) sc_run_by.nd rfl (Or.inl rfl) (de_lst true da_nil)) ?_
  refine dss_cons (ds_set (i := 8) sc_run_by.nd rfl (Or.inl rfl) (de_lst true da_nil)) ?_
  refine dss_cons (ds_set2 (i := 9) (j := 10) sc_run_by.nd rfl rfl (Or.inl rfl) (Or.inl rfl) de_int) ?_
  refine dss_cons (ds_while hp (dt_w (dw_or (dt_tru (dv 8)) (dw_or1 (dt_cmp op_lt od_cmpI (dv 10) (de_callB call_len cd_len rfl T.b_len (by decide +kernel) (da_cons (dv 3) da_nil)) (nomark _))))) (dss_cons (ds_if (dt_not (dt_tru (dv 8))) (dss_one (ds_set (i := 9) sc_run_by.nd rfl (Or.inl rfl) (de_callB (call_maxA rfl) cd_max rfl T.b_max (by decide +kernel) (da_cons (dv 9) (da_cons (de_mul false (de_ix (de_ix (dv 3) (dv 10)) de_int) (dv 2)) da_nil))))) dss_nil)
    (dss_cons (ds_while hp (dt_w (dw_and (dt_cmp op_lt od_cmpI (dv 10) (de_callB call_len cd_len rfl T.b_len (by decide +kernel) (da_cons (dv 3) da_nil)) (nomark _)) (dw_and1 (dt_cmp op_le od_cmpI (de_mul false (de_ix (de_ix (dv 3) (dv 10)) de_int) (dv 2)) (dv 9) (nomark _))))) (dss_cons (ds_expr (de_bm PySem.F.plainAttrs_list PySem.F.slot_list_append PySem.F.type_list_append mt_append md_append (dv 8) (da_cons (dv 10) da_nil)))
    (dss_one (ds_aug (i := 10) sc_run_by.nd rfl (Or.inl rfl) de_int iop_add od_addI))))
    (dss_cons (ds_set (i := 11) sc_run_by.nd rfl (Or.inl rfl) (de_minK (k := 0) (ip := 5) (te := dTup (daCons (dOp dIx (dVar 4) (dVar 5)) (daCons (dVar 5) daNil))) (hr.mono (by decide)) rfl T.b_min (by decide +kernel) (dv 8) (lam1_by (sc := defScope s_run_by) (by decide +kernel)) sc_run_by.nd rfl TB lhx rfl rfl (fun _ _ _ _ _ _ => rfl) (fun _ _ _ _ _ => de_tup (da_cons (de_ix (dv 4) (dv 5)) (da_cons (dv 5) da_nil)))))
    (dss_cons (ds_set (i := 12) sc_run_by.nd rfl (Or.inl rfl) (de_add false (dv 9) (de_ix (dv 6) (dv 11))))
    (dss_cons (ds_if (dt_cmp op_lt od_cmpI (dv 10) (de_callB call_len cd_len rfl T.b_len (by decide +kernel) (da_cons (dv 3) da_nil)) (nomark _)) (dss_one (ds_set (i := 12) sc_run_by.nd rfl (Or.inl rfl) (de_callB (call_minA rfl) cd_min rfl T.b_min (by decide +kernel) (da_cons (dv 12) (da_cons (de_mul false (de_ix (de_ix (dv 3) (dv 10)) de_int) (dv 2)) da_nil))))) dss_nil)
    (dss_cons (ds_expr (de_call c_add_slice_ok (hr.mono (by decide)) rfl c_add_slice_g c_add_slice_kp c_add_slice_b .nil (fun _ => .nil) tk (da_cons (dv 7) (da_cons (dv 9) (da_cons (dv 12) (da_cons (dv 11) da_nil))))))
    (dss_cons (ds_augX (f := (fun i j => i - j)) (dv 6) (dv 11) (de_sub (dv 12) (dv 9)) ip_sub)
    (dss_cons (ds_if (dt_cmp (op_eqA hr.units) od_eq (de_ix (dv 6) (dv 11)) de_int (nomark _)) (dss_one (ds_expr (de_rem rfl tk (dv 8) (dv 11)))) dss_nil)
    (dss_one (ds_set (i := 9) sc_run_by.nd rfl (Or.inl rfl) (dv 12)))))))))))) ?_
  exact dss_one (ds_ret (de_wk (de_frz (dv 7))))

theorem ok_due_of {P : Program} {w : World} {K : PySem.W.Frag} {mg : Str → Option Value} {base : Heap} (T : Txt K mg) (TB : TabBs K mg base)  : Good P w K mg base 1 (some "due_of") (ga K "due_of") ["job"] (sp_due_of K) := by
  obtain ⟨fd, F⟩ := T.d_due_of
  refine ⟨⟨fd, fn_d (k := 0) F sc_due_of len_due_of (t_due_of K) (fun cdv A outer s H E WD hr tk hp => ?_) (pure_due_of T), F.bindsN fun _ _ _ _ _ _ us hl => match us, hl with | [_], _ => rfl, F.kp⟩, T.g_due_of⟩
  exact dss_one (ds_ret (de_ix (dv 0) de_int))

theorem ok_earliest_deadline {P : Program} {w : World} {K : PySem.W.Frag} {mg : Str → Option Value} {base : Heap} (T : Txt K mg) (TB : TabBs K mg base) (c_due_of : Good P w K mg base 1 (some "due_of") (ga K "due_of") ["job"] (sp_due_of K)) (ca_run_by : ∀ (base : Heap), TabBs K mg base → ∀ (fv : FV), FvOk P w K mg base 4 fv → GoodK P w K mg base 5 (some "run_by") (ga K "run_by") ["run", "key", "speed"] (sp_run_by K fv) 2 ["speed"] [.int 1]) : GoodK P w K mg base 6 (some "earliest_deadline") (ga K "earliest_deadline") ["run", "speed"] (sp_earliest_deadline K) 1 ["speed"] [.int 1] := by
  obtain ⟨_, c_due_of_ok, c_due_of_b, c_due_of_kp⟩ := c_due_of.ex
  have c_due_of_g := c_due_of.gl
  obtain ⟨_, Fd_due_of⟩ := T.d_due_of
  obtain ⟨_, v1_ok, v1_kp, v1_kb, _, _, v1_dv, v1_b, v1_dd⟩ := (ca_run_by base TB (fvG (ga K "due_of") (sp_due_of K)) ((fv_glob Fd_due_of c_due_of_ok c_due_of_b).mono (by decide))).ex
  have v1_g := (ca_run_by base TB (fvG (ga K "due_of") (sp_due_of K)) ((fv_glob Fd_due_of c_due_of_ok c_due_of_b).mono (by decide))).gl
  obtain ⟨fd, F⟩ := T.d_earliest_deadline
  obtain ⟨dV, hdV, hbV⟩ := FunD.binds0 (ps := ["run", "speed"]) F 1 (by simp) rfl (fun D doc pm an cdv ct us ks h1 h2 => match us, ks, h1, h2 with | [_], [_], _, _ => ⟨_, _, _, _, _, _, rfl, rfl, rfl⟩)
  refine ⟨⟨fd, fn_d (k := 5) F sc_earliest_deadline len_earliest_deadline (t_earliest_deadline K) (fun cdv A outer s H E WD hr tk hp => ?_) (pure_earliest_deadline T), F.kp, kbn_all F 1 ["speed"] (fun _ _ _ _ _ _ us ws h1 h2 => match us, ws, h1, h2 with | [_], [_], _, _ => rfl), dV, _, hdV, hbV, fun G => .cons (.int 1) (.nil)⟩, T.g_earliest_deadline⟩
  exact dss_one (ds_ret (de_callN (n := 2) v1_ok (hr.mono (by decide)) rfl v1_g v1_kp v1_kb tk (da_cons (dv 0) (da_cons (de_globR rfl T.g_due_of) da_nil)) (dk_cons (dv 1) dk_nil)))

theorem ok_law_cell {P : Program} {w : World} {K : PySem.W.Frag} {mg : Str → Option Value} {base : Heap} (T : Txt K mg) (TB : TabBs K mg base)  : Good P w K mg base 1 (some "_law_cell") (ga K "_law_cell") ["_law_script", "_law_place"] (sp_law_cell K) := by
  obtain ⟨fd, F⟩ := T.d_law_cell
  refine ⟨⟨fd, fn_d (k := 0) F sc_law_cell len_law_cell (t_law_cell K) (fun cdv A outer s H E WD hr tk hp => ?_) (pure_law_cell T), F.bindsN fun _ _ _ _ _ _ us hl => match us, hl with | [_, _], _ => rfl, F.kp⟩, T.g_law_cell⟩
  refine dss_cons (ds_if (dt_cmp op_lt od_cmpI (dv 1) (de_callB call_len cd_len rfl T.b_len (by decide +kernel) (da_cons (dv 0) da_nil)) (nomark _)) (dss_one (ds_ret (de_ix (dv 0) (dv 1)))) dss_nil) ?_
  exact dss_one (ds_ret de_int)

theorem ok_law_source {P : Program} {w : World} {K : PySem.W.Frag} {mg : Str → Option Value} {base : Heap} (T : Txt K mg) (TB : TabBs K mg base)  : Good P w K mg base 1 (some "_law_source") (ga K "_law_source") ["_law_cell_here"] (sp_law_source K) := by
  obtain ⟨fd, F⟩ := T.d_law_source
  refine ⟨⟨fd, fn_d (k := 0) F sc_law_source len_law_source (t_law_source K) (fun cdv A outer s H E WD hr tk hp => ?_) (pure_law_source T), F.bindsN fun _ _ _ _ _ _ us hl => match us, hl with | [_], _ => rfl, F.kp⟩, T.g_law_source⟩
  exact dss_one (ds_ret (de_lst true (da_cons (dv 0) (da_cons (dv 0) (da_cons de_int da_nil)))))

theorem ok_law_draw {P : Program} {w : World} {K : PySem.W.Frag} {mg : Str → Option Value} {base : Heap} (T : Txt K mg) (TB : TabBs K mg base)  : Good P w K mg base 1 (some "_law_draw") (ga K "_law_draw") ["_law_source_here", "_law_limit"] (sp_law_draw K) := by
  obtain ⟨fd, F⟩ := T.d_law_draw
  refine ⟨⟨fd, fn_d (k := 0) F sc_law_draw len_law_draw (t_law_draw K) (fun cdv A outer s H E WD hr tk hp => ?_) (pure_law_draw T), F.bindsN fun _ _ _ _ _ _ us hl => match us, hl with | [_, _], _ => rfl, F.kp⟩, T.g_law_draw⟩
  refine dss_cons (ds_asg (de_add false (de_ix (dv 0) de_int) de_int) (dg_sub (dv 0) de_int)) ?_
  refine dss_cons (ds_if (dt_cmp op_ge od_cmpI (de_ix (dv 0) de_int) (de_pow de_int de_int) (nomark _)) (dss_cons (ds_set (i := 2) sc_law_draw.nd rfl (Or.inl rfl) (de_mod (de_callTy call_int1 cd_int1 rfl T.b_int (by decide +kernel) (da_cons (de_ix (dv 0) de_int) da_nil)) (dv 1)))
    (dss_cons (ds_asg (de_div (de_ix (dv 0) de_int) (dv 1)) (dg_sub (dv 0) de_int))
    (dss_one (ds_ret (dv 2))))) dss_nil) ?_
  refine dss_cons (ds_set (i := 3) sc_law_draw.nd rfl (Or.inl rfl) (de_mod (de_callTy call_int1 cd_int1 rfl T.b_int (by decide +kernel) (da_cons (de_ix (dv 0) de_int) da_nil)) de_int)) ?_
  refine dss_cons (ds_set (i := 4) sc_law_draw.nd rfl (Or.inl rfl) (de_mod (de_callTy call_int1 cd_int1 rfl T.b_int (by decide +kernel) (da_cons (de_pow (de_callTy call_int1 cd_int1 rfl T.b_int (by decide +kernel) (da_cons (de_add false (de_add false (de_mul false (dv 3) de_int) (de_mul false (de_ix (dv 0) de_int) de_int)) de_int) da_nil)) de_int) da_nil)) de_int)) ?_
  refine dss_cons (ds_set (i := 4) sc_law_draw.nd rfl (Or.inl rfl) (de_mod (de_callTy call_int1 cd_int1 rfl T.b_int (by decide +kernel) (da_cons (de_pow (de_callTy call_int1 cd_int1 rfl T.b_int (by decide +kernel) (da_cons (de_add false (dv 4) (de_mul false (de_mul false (de_ix (dv 0) de_int) (de_ix (dv 0) de_int)) de_int)) da_nil)) de_int) da_nil)) de_int)) ?_
  exact dss_one (ds_ret (de_mod (de_div (dv 4) de_int) (dv 1)))

theorem ok_law_small_task {P : Program} {w : World} {K : PySem.W.Frag} {mg : Str → Option Value} {base : Heap} (T : Txt K mg) (TB : TabBs K mg base) (c_law_draw : Good P w K mg base 1 (some "_law_draw") (ga K "_law_draw") ["_law_source_here", "_law_limit"] (sp_law_draw K)) : Good P w K mg base 2 (some "_law_small_task") (ga K "_law_small_task") ["_law_source_here", "_law_name"] (sp_law_small_task K) := by
  obtain ⟨_, c_law_draw_ok, c_law_draw_b, c_law_draw_kp⟩ := c_law_draw.ex
  have c_law_draw_g := c_law_draw.gl
  obtain ⟨fd, F⟩ := T.d_law_small_task
  refine ⟨⟨fd, fn_d (k := 1) F sc_law_small_task len_law_small_task (t_law_small_task K) (fun cdv A outer s H E WD hr tk hp => ?_) (pure_law_small_task T), F.bindsN fun _ _ _ _ _ _ us hl => match us, hl with | [_, _], _ => rfl, F.kp⟩, T.g_law_small_task⟩
  refine dss_cons (ds_set (i := 2) sc_law_small_task.nd rfl (Or.inl rfl) (de_add false de_int (de_call c_law_draw_ok (hr.mono (by decide)) rfl c_law_draw_g c_law_draw_kp c_law_draw_b .nil (fun _ => .nil) tk (da_cons (dv 0) (da_cons de_int da_nil))))) ?_
  refine dss_cons (ds_set (i := 3) sc_law_small_task.nd rfl (Or.inl rfl) (de_slice false (de_ix (de_lst false (da_cons (de_lst false (da_cons de_str (da_cons de_str (da_cons de_str da_nil)))) (da_cons (de_lst false (da_cons de_str (da_cons de_str (da_cons de_str da_nil)))) (da_cons (de_lst false (da_cons de_str (da_cons de_str (da_cons de_str da_nil)))) da_nil)))) (de_call c_law_draw_ok (hr.mono (by decide)) rfl c_law_draw_g c_law_draw_kp c_law_draw_b .nil (fun _ => .nil) tk (da_cons (dv 0) (da_cons de_int da_nil)))) do_none (do_some (dv 2)))) ?_
  refine dss_cons (ds_set (i := 4) sc_law_small_task.nd rfl (Or.inl rfl) (de_call c_law_draw_ok (hr.mono (by decide)) rfl c_law_draw_g c_law_draw_kp c_law_draw_b .nil (fun _ => .nil) tk (da_cons (dv 0) (da_cons de_int da_nil)))) ?_
  refine dss_cons (ds_set (i := 5) sc_law_small_task.nd rfl (Or.inl rfl) (de_lst true da_nil)) ?_
  refine dss_cons (ds_for hp rfl (di_range1 rfl T.b_range (da_cons (dv 2) da_nil)) (dg_name (i := 6) sc_law_small_task.nd rfl (Or.inl rfl)) (dss_one (ds_for hp rfl (di_range1 rfl T.b_range (da_cons (dv 2) da_nil)) (dg_name (i := 7) sc_law_small_task.nd rfl (Or.inl rfl)) (dss_cons (ds_set (i := 8) sc_law_small_task.nd rfl (Or.inl rfl) (de_cmp op_lt od_cmpI (de_call c_law_draw_ok (hr.mono (by decide)) rfl c_law_draw_g c_law_draw_kp c_law_draw_b .nil (fun _ => .nil) tk (da_cons (dv 0) (da_cons de_int da_nil))) (dv 4) (nomark _)))
    (dss_cons (ds_set (i := 9) sc_law_small_task.nd rfl (Or.inl rfl) (de_add false de_int (de_call c_law_draw_ok (hr.mono (by decide)) rfl c_law_draw_g c_law_draw_kp c_law_draw_b .nil (fun _ => .nil) tk (da_cons (dv 0) (da_cons de_int da_nil)))))
    (dss_one (ds_if (dt_tru (dv 8)) (dss_one (ds_expr (de_bm PySem.F.plainAttrs_list PySem.F.slot_list_append PySem.F.type_list_append mt_append md_append (dv 5) (da_cons (de_tup (da_cons (de_ix (dv 3) (dv 6)) (da_cons (de_ix (dv 3) (dv 7)) (da_cons (dv 9) da_nil)))) da_nil)))) dss_nil))))))) ?_
  refine dss_frz 5 ?_
  refine dss_cons (ds_set (i := 10) sc_law_small_task.nd rfl (Or.inl rfl) (de_lst true da_nil)) ?_
  refine dss_cons (ds_for hp rfl (di_list (dv 3)) (dg_name (i := 11) sc_law_small_task.nd rfl (Or.inl rfl)) (dss_cons (ds_set (i := 12) sc_law_small_task.nd rfl (Or.inl rfl) (de_add false de_int (de_call c_law_draw_ok (hr.mono (by decide)) rfl c_law_draw_g c_law_draw_kp c_law_draw_b .nil (fun _ => .nil) tk (da_cons (dv 0) (da_cons de_int da_nil)))))
    (dss_one (ds_expr (de_bm PySem.F.plainAttrs_list PySem.F.slot_list_append PySem.F.type_list_append mt_append md_append (dv 10) (da_cons (de_tup (da_cons (dv 11) (da_cons (dv 12) (da_cons (de_add false de_int (de_call c_law_draw_ok (hr.mono (by decide)) rfl c_law_draw_g c_law_draw_kp c_law_draw_b .nil (fun _ => .nil) tk (da_cons (dv 0) (da_cons de_int da_nil)))) da_nil)))) da_nil)))))) ?_
  refine dss_frz 10 ?_
  exact dss_one (ds_ret (de_lst false (da_cons (dv 1) (da_cons (dv 10) (da_cons (dv 5) da_nil)))))

theorem ok_law_walk {P : Program} {w : World} {K : PySem.W.Frag} {mg : Str → Option Value} {base : Heap} (T : Txt K mg) (TB : TabBs K mg base) (c_law_draw : Good P w K mg base 1 (some "_law_draw") (ga K "_law_draw") ["_law_source_here", "_law_limit"] (sp_law_draw K)) : Good P w K mg base 2 (some "_law_walk") (ga K "_law_walk") ["_law_source_here", "_law_task", "_law_parts"] (sp_law_walk K) := by
  obtain ⟨_, c_law_draw_ok, c_law_draw_b, c_law_draw_kp⟩ := c_law_draw.ex
  have c_law_draw_g := c_law_draw.gl
  obtain ⟨fd, F⟩ := T.d_law_walk
  refine ⟨⟨fd, fn_d (k := 1) F sc_law_walk len_law_walk (t_law_walk K) (fun cdv A outer s H E WD hr tk hp => ?_) (pure_law_walk T), F.bindsN fun _ _ _ _ _ _ us hl => match us, hl with | [_, _, _], _ => rfl, F.kp⟩, T.g_law_walk⟩
  refine dss_cons (ds_set (i := 3) sc_law_walk.nd rfl (Or.inl rfl) (de_ix (dv 1) de_int)) ?_
  refine dss_cons (ds_set (i := 4) sc_law_walk.nd rfl (Or.inl rfl) (de_lst true da_nil)) ?_
  refine dss_cons (ds_set (i := 5) sc_law_walk.nd rfl (Or.inr rfl) (de_ix (dv 3) (de_call c_law_draw_ok (hr.mono (by decide)) rfl c_law_draw_g c_law_draw_kp c_law_draw_b .nil (fun _ => .nil) tk (da_cons (dv 0) (da_cons (de_callB call_len cd_len rfl T.b_len (by decide +kernel) (da_cons (dv 3) da_nil)) da_nil))))) ?_
  refine dss_cons (ds_set (i := 6) sc_law_walk.nd rfl (Or.inl rfl) (de_call c_law_draw_ok (hr.mono (by decide)) rfl c_law_draw_g c_law_draw_kp c_law_draw_b .nil (fun _ => .nil) tk (da_cons (dv 0) (da_cons de_int da_nil)))) ?_
  refine dss_cons (ds_for hp rfl (di_range1 rfl T.b_range (da_cons (de_call c_law_draw_ok (hr.mono (by decide)) rfl c_law_draw_g c_law_draw_kp c_law_draw_b .nil (fun _ => .nil) tk (da_cons (dv 0) (da_cons de_int da_nil))) da_nil)) (dg_name (i := 7) sc_law_walk.nd rfl (Or.inl rfl)) (dss_cons (ds_set (i := 8) sc_law_walk.nd rfl (Or.inl rfl) (de_add false de_int (de_call c_law_draw_ok (hr.mono (by decide)) rfl c_law_draw_g c_law_draw_kp c_law_draw_b .nil (fun _ => .nil) tk (da_cons (dv 0) (da_cons (de_mul false (de_ix (dv 5) de_int) (dv 2)) da_nil)))))
    (dss_cons (ds_if (dt_cmp (op_eqA hr.units) od_eq (de_call c_law_draw_ok (hr.mono (by decide)) rfl c_law_draw_g c_law_draw_kp c_law_draw_b .nil (fun _ => .nil) tk (da_cons (dv 0) (da_cons de_int da_nil))) de_int (nomark _)) (dss_one (ds_set (i := 8) sc_law_walk.nd rfl (Or.inl rfl) (de_mul false (de_ix (dv 5) de_int) (dv 2)))) dss_nil)
    (dss_cons (ds_expr (de_bm PySem.F.plainAttrs_list PySem.F.slot_list_append PySem.F.type_list_append mt_append md_append (dv 4) (da_cons (de_tup (da_cons (de_ix (dv 5) de_int) (da_cons (dv 6) (da_cons (dv 8) da_nil)))) da_nil)))
    (dss_cons (ds_setLc false (i := 9) (hy := rfl) (hyl := rfl) (hsw := sw_true rfl rfl rfl (by decide +kernel)) (hc := rfl) (hN := sc_law_walk.nd) (own := [("_law_arrow", 10)]) (c := .one 10) (te := dVar 10) (tt := dTest (dOp dEq (dOp dIx (dVar 10) (dC (.int 0))) (dOp dIx (dVar 5) (dC (.int 0))))) (by simp [CT.in]) (di_list (de_ix (dv 1) de_int)) (blkOk_by (own := [("_law_arrow", 10)]) (N := nm_law_walk) (sc := defScope s_law_walk) (by decide +kernel)) (fun _ _ _ _ _ => pg_ct1 (i := 10) sc_law_walk.nd rfl (Or.inl rfl)) (fun _ _ _ _ _ => dts_one (dt_cmp (op_eqA hr.units) od_eq (de_ix (dv 10) de_int) (de_ix (dv 5) de_int) (nomark _))) (fun _ _ _ _ _ => dv 10))
    (dss_cons (ds_if (dt_cmp (op_eqA hr.units) od_eq (dv 9) (de_lst false da_nil) (nomark _)) (dss_one (ds_ret (de_frz (dv 4)))) dss_nil)
    (dss_cons (ds_set (i := 10) sc_law_walk.nd rfl (Or.inr rfl) (de_ix (dv 9) (de_call c_law_draw_ok (hr.mono (by decide)) rfl c_law_draw_g c_law_draw_kp c_law_draw_b .nil (fun _ => .nil) tk (da_cons (dv 0) (da_cons (de_callB call_len cd_len rfl T.b_len (by decide +kernel) (da_cons (dv 9) da_nil)) da_nil)))))
    (dss_cons (ds_set (i := 6) sc_law_walk.nd rfl (Or.inl rfl) (de_add false (de_add false (dv 6) (de_mul false (de_ix (dv 10) de_int) (dv 2))) (de_mul false (de_call c_law_draw_ok (hr.mono (by decide)) rfl c_law_draw_g c_law_draw_kp c_law_draw_b .nil (fun _ => .nil) tk (da_cons (dv 0) (da_cons de_int da_nil))) (de_call c_law_draw_ok (hr.mono (by decide)) rfl c_law_draw_g c_law_draw_kp c_law_draw_b .nil (fun _ => .nil) tk (da_cons (dv 0) (da_cons de_int da_nil))))))
    (dss_one (ds_set (i := 5) sc_law_walk.nd rfl (Or.inr rfl) (de_ix (de_lc false (own := [("_law_row", 11)]) (c := .one 11) (te := dVar 11) (tt := dTest (dOp dEq (dOp dIx (dVar 11) (dC (.int 0))) (dOp dIx (dVar 10) (dC (.int 1))))) rfl sc_law_walk.nd (by simp [CT.in]) (di_list (dv 3)) (blkOk_by (own := [("_law_row", 11)]) (N := nm_law_walk) (sc := defScope s_law_walk) (by decide +kernel)) (fun _ _ _ _ _ => pg_ct1 (i := 11) sc_law_walk.nd rfl (Or.inl rfl)) (fun _ _ _ _ _ => dts_one (dt_cmp (op_eqA hr.units) od_eq (de_ix (dv 11) de_int) (de_ix (dv 10) de_int) (nomark _))) (fun _ _ _ _ _ => dv 11)) de_int))))))))))) ?_
  exact dss_one (ds_ret (de_frz (dv 4)))

theorem ok_law_rank {P : Program} {w : World} {K : PySem.W.Frag} {mg : Str → Option Value} {base : Heap} (T : Txt K mg) (TB : TabBs K mg base)  : Good P w K mg base 1 (some "_law_rank") (ga K "_law_rank") ["_law_job", "_law_way", "_law_ranks"] (sp_law_rank K) := by
  obtain ⟨fd, F⟩ := T.d_law_rank
  refine ⟨⟨fd, fn_d (k := 0) F sc_law_rank len_law_rank (t_law_rank K) (fun cdv A outer s H E WD hr tk hp => ?_) (pure_law_rank T), F.bindsN fun _ _ _ _ _ _ us hl => match us, hl with | [_, _, _], _ => rfl, F.kp⟩, T.g_law_rank⟩
  refine dss_cons (ds_if (dt_cmp (op_eqA hr.units) od_eq (dv 1) de_int (nomark _)) (dss_one (ds_ret (de_ix (dv 0) de_int))) dss_nil) ?_
  refine dss_cons (ds_if (dt_cmp (op_eqA hr.units) od_eq (dv 1) de_int (nomark _)) (dss_one (ds_ret (de_ix (dv 0) de_int))) dss_nil) ?_
  refine dss_cons (ds_if (dt_cmp (op_eqA hr.units) od_eq (dv 1) de_int (nomark _)) (dss_one (ds_ret (de_sub de_int (de_ix (dv 0) de_int)))) dss_nil) ?_
  refine dss_cons (ds_if (dt_cmp (op_eqA hr.units) od_eq (dv 1) de_int (nomark _)) (dss_one (ds_ret (de_ix (dv 2) (de_ix (dv 0) de_int)))) dss_nil) ?_
  refine dss_cons (ds_if (dt_cmp (op_eqA hr.units) od_eq (dv 1) de_int (nomark _)) (dss_one (ds_ret (de_tup (da_cons (de_ix (dv 0) de_int) (da_cons (de_sub de_int (de_ix (dv 0) de_int)) da_nil))))) dss_nil) ?_
  exact dss_one (ds_ret de_int)

theorem ok_law_play {P : Program} {w : World} {K : PySem.W.Frag} {mg : Str → Option Value} {base : Heap} (T : Txt K mg) (TB : TabBs K mg base)  : Good P w K mg base 1 (some "_law_play") (ga K "_law_play") ["_law_jobs", "_law_keys", "_law_pace"] (sp_law_play K) := by
  obtain ⟨fd, F⟩ := T.d_law_play
  refine ⟨⟨fd, fn_d (k := 0) F sc_law_play len_law_play (t_law_play K) (fun cdv A outer s H E WD hr tk hp => ?_) (pure_law_play T), F.bindsN fun _ _ _ _ _ _ us hl => match us, hl with | [_, _, _], _ => rfl, F.kp⟩, T.g_law_play⟩
  refine dss_cons (ds_set (i := 3) sc_law_play.nd rfl (Or.inr rfl) (de_lc true (own := [("_law_job", 4)]) (c := .one 4) (te := dOp dIx (dVar 4) (dC (.int 4))) (tt := dYes) rfl sc_law_play.nd (by simp [CT.in]) (di_list (dv 0)) (blkOk_by (own := [("_law_job", 4)]) (N := nm_law_play) (sc := defScope s_law_play) (by decide +kernel)) (fun _ _ _ _ _ => pg_ct1 (i := 4) sc_law_play.nd rfl (Or.inl rfl)) (fun _ _ _ _ _ => dts_nil) (fun _ _ _ _ _ => de_ix (dv 4) de_int))) ?_
  refine dss_cons (ds_set (i := 5) sc_law_play.nd rfl (Or.inl rfl) de_int) ?_
  refine dss_cons (ds_for hp rfl (di_list (dv 0)) (dg_name (i := 4) sc_law_play.nd rfl (Or.inl rfl)) (dss_one (ds_set (i := 5) sc_law_play.nd rfl (Or.inl rfl) (de_callB (call_maxA rfl) cd_max rfl T.b_max (by decide +kernel) (da_cons (dv 5) (da_cons (de_mul false (de_ix (dv 4) de_int) (dv 2)) da_nil)))))) ?_
  refine dss_cons (ds_set (i := 6) sc_law_play.nd rfl (Or.inl rfl) (de_lst true da_nil)) ?_
  refine dss_cons (ds_for hp rfl (di_range1 rfl T.b_range (da_cons (de_add false (dv 5) (de_callB (cr_sum rfl) cd_sum rfl T.b_sum (by decide +kernel) (da_cons (dv 3) da_nil))) da_nil)) (dg_name (i := 7) sc_law_play.nd rfl (Or.inr rfl)) (dss_cons (ds_if (dt_cmp (op_eqA hr.units) od_eq (de_callB (cr_sum rfl) cd_sum rfl T.b_sum (by decide +kernel) (da_cons (dv 3) da_nil)) de_int (nomark _)) (dss_one (ds_ret (de_wk (de_frz (dv 6))))) dss_nil)
    (dss_cons (ds_setLc false (i := 8) (hy := rfl) (hyl := rfl) (hsw := sw_true rfl rfl rfl (by decide +kernel)) (hc := rfl) (hN := sc_law_play.nd) (own := [("_law_k", 9)]) (c := .one 9) (te := dTup (daCons (dOp dIx (dVar 1) (dVar 9)) (daCons (dVar 9) daNil))) (tt := dAnd (dTest (dOp dLe (dOp (dMul false) (dOp dIx (dOp dIx (dVar 0) (dVar 9)) (dC (.int 3))) (dVar 2)) (dVar 7))) (dTest (dOp dGt (dOp dIx (dVar 3) (dVar 9)) (dC (.int 0))))) (by simp [CT.in]) (di_range1 rfl T.b_range (da_cons (de_callB call_len cd_len rfl T.b_len (by decide +kernel) (da_cons (dv 0) da_nil)) da_nil)) (blkOk_by (own := [("_law_k", 9)]) (N := nm_law_play) (sc := defScope s_law_play) (by decide +kernel)) (fun _ _ _ _ _ => pg_ct1 (i := 9) sc_law_play.nd rfl (Or.inl rfl)) (fun _ _ _ _ _ => dts_one (dt_w (dw_and (dt_cmp op_le od_cmpI (de_mul false (de_ix (de_ix (dv 0) (dv 9)) de_int) (dv 2)) (dv 7) (nomark _)) (dw_and1 (dt_cmp op_gt od_cmpI (de_ix (dv 3) (dv 9)) de_int (nomark _)))))) (fun _ _ _ _ _ => de_tup (da_cons (de_ix (dv 1) (dv 9)) (da_cons (dv 9) da_nil))))
    (dss_one (ds_if (dt_cmp (op_neZ hr.units) od_neZ (dv 8) (de_lst false da_nil) (nomark _)) (dss_cons (ds_set (i := 10) sc_law_play.nd rfl (Or.inl rfl) (de_ix (de_ix (de_callB (cr_sortedP (k := 0) (hr.mono (by decide))) (cd_sortP false) rfl T.b_sorted (by decide +kernel) (da_cons (dv 8) da_nil)) de_int) de_int))
    (dss_cons (ds_asg (de_sub (de_ix (dv 3) (dv 10)) de_int) (dg_sub (dv 3) (dv 10)))
    (dss_one (ds_if (dt_w (dw_and (dt_cmp (op_neZ hr.units) od_neZ (dv 6) (de_lst false da_nil) (nomark _)) (dw_and (dt_cmp (op_eqA hr.units) od_eq (de_ix (de_ix (dv 6) (de_neg de_int)) de_int) (dv 10) (nomark _)) (dw_and1 (dt_cmp (op_eqA hr.units) od_eq (de_ix (de_ix (dv 6) (de_neg de_int)) de_int) (dv 7) (nomark _)))))) (dss_one (ds_asg (de_tup (da_cons (de_ix (de_ix (dv 6) (de_neg de_int)) de_int) (da_cons (de_add false (dv 7) de_int) (da_cons (dv 10) da_nil)))) (dg_sub (dv 6) (de_neg de_int)))) (dss_one (ds_expr (de_bm PySem.F.plainAttrs_list PySem.F.slot_list_append PySem.F.type_list_append mt_append md_append (dv 6) (da_cons (de_tup (da_cons (dv 7) (da_cons (de_add false (dv 7) de_int) (da_cons (dv 10) da_nil)))) da_nil)))))))) dss_nil))))) ?_
  exact dss_one (ds_ret (de_wk (de_frz (dv 6))))

theorem ok_law_same {P : Program} {w : World} {K : PySem.W.Frag} {mg : Str → Option Value} {base : Heap} (T : Txt K mg) (TB : TabBs K mg base)  : Good P w K mg base 1 (some "_law_same") (ga K "_law_same") ["_law_actual", "_law_expected"] (sp_law_same K) := by
  obtain ⟨fd, F⟩ := T.d_law_same
  refine ⟨⟨fd, fn_d (k := 0) F sc_law_same len_law_same (t_law_same K) (fun cdv A outer s H E WD hr tk hp => ?_) (pure_law_same T), F.bindsN fun _ _ _ _ _ _ us hl => match us, hl with | [_, _], _ => rfl, F.kp⟩, T.g_law_same⟩
  refine dss_cons (ds_if (dt_w (dw_or (dt_not (dt_tru (de_callB call_isi cd_isi rfl T.b_isinstance (by decide +kernel) (da_cons (dv 0) (da_cons (de_ty rfl T.b_list (by decide +kernel)) da_nil))))) (dw_or1 (dt_cmp (op_neA hr.units) od_ne (dv 0) (dv 1) (nomark _))))) (dss_one (ds_ret de_bl)) dss_nil) ?_
  refine dss_cons (ds_for hp rfl (di_list (dv 0)) (dg_name (i := 2) sc_law_same.nd rfl (Or.inl rfl)) (dss_one (ds_for hp rfl (di_tup (dv 2)) (dg_name (i := 3) sc_law_same.nd rfl (Or.inl rfl)) (dss_one (ds_if (dt_w (dw_or (dt_not (dt_tru (de_callB call_isi cd_isi rfl T.b_isinstance (by decide +kernel) (da_cons (dv 3) (da_cons (de_ty rfl T.b_int (by decide +kernel)) da_nil))))) (dw_or1 (dt_tru (de_callB call_isi cd_isi rfl T.b_isinstance (by decide +kernel) (da_cons (dv 3) (da_cons (de_ty rfl T.b_bool (by decide +kernel)) da_nil))))))) (dss_one (ds_ret de_bl)) dss_nil))))) ?_
  exact dss_one (ds_ret de_bl)

theorem ok_law_bad_speed {P : Program} {w : World} {K : PySem.W.Frag} {mg : Str → Option Value} {base : Heap} (T : Txt K mg) (TB : TabBs K mg base) (c_earliest_deadline : GoodK P w K mg base 6 (some "earliest_deadline") (ga K "earliest_deadline") ["run", "speed"] (sp_earliest_deadline K) 1 ["speed"] [.int 1]) (ca_run_by : ∀ (base : Heap), TabBs K mg base → ∀ (fv : FV), FvOk P w K mg base 4 fv → GoodK P w K mg base 5 (some "run_by") (ga K "run_by") ["run", "key", "speed"] (sp_run_by K fv) 2 ["speed"] [.int 1]) : Good P w K mg base 7 (some "_law_bad_speed") (ga K "_law_bad_speed") ["_law_run", "_law_pace", "_law_calls", "_law_way"] (sp_law_bad_speed K) := by
  obtain ⟨_, c_earliest_deadline_ok, c_earliest_deadline_kp, c_earliest_deadline_kb, _, _, c_earliest_deadline_dv, c_earliest_deadline_b, c_earliest_deadline_dd⟩ := c_earliest_deadline.ex
  have c_earliest_deadline_g := c_earliest_deadline.gl
  obtain ⟨_, Fk_run_by⟩ := T.d_run_by
  obtain ⟨lc, lP, lhc, lhx⟩ := T.lam_law_bad_speed
  obtain ⟨fd, F⟩ := T.d_law_bad_speed
  refine ⟨⟨fd, fn_dL (k := 6) F lhc sc_law_bad_speed len_law_bad_speed (t_law_bad_speed K) (fun A outer s H E WD hr tk hp => ?_) (pure_law_bad_speed T), F.bindsN fun _ _ _ _ _ _ us hl => match us, hl with | [_, _, _, _], _ => rfl, F.kp⟩, T.g_law_bad_speed⟩
  refine dss_cons (ds_set (i := 4) sc_law_bad_speed.nd rfl (Or.inl rfl) (de_callB call_len cd_len rfl T.b_len (by decide +kernel) (da_cons (dv 2) da_nil))) ?_
  refine dss_ndef (i := 5) (fr := ["_law_calls"]) TB lhx rfl (by show NdefX.ndefB (defScope s_law_bad_speed) _ _ = true; decide +kernel) rfl rfl rfl sc_law_bad_speed.nd rfl (Or.inl rfl) (Or.inl rfl) (fun fa1 fc1 ob1 hob1 => ?_)
  refine dss_cons (ds_try_as (i := 6) (tb := fun WDx1 => dIfS (dTest (dOp dEq (dVar 3) (dC (.int 0)))) (dDrop (dCallDef [2] fa1 fc1 (("_law_bad_speed" : Str) ++ ".<locals>." ++ "_law_noted") ob1 1 1 (fun vs => sp_run_by K (fvC fa1 fc1 (("_law_bad_speed" : Str) ++ ".<locals>." ++ "_law_noted") vs (fun env ds m Q _ => ds.length = 1 ∧ (dSeq (dDrop (dBM isL dAppend (dVar 1) (daCons (dVar 0) daNil))) (dRet (dC (.int 0)))) { nx := fun _ m => Q .non m, rt := Q } (startC ["_law_job", "_law_calls"] ds env) m))) WDx1 (daCons (dVar 0) (daCons (dVar 5) daNil)) (daCons (dVar 1) daNil))) (dDrop (dCallN 1 1 (sp_earliest_deadline K) WDx1 (daCons (dVar 0) daNil) (daCons (dVar 1) daNil)))) (ts := fun ea ec ed => dRet (dWk (dAndV (dOp dEq (dXf ea ec ed (ga K "OutOfRange") "what" (dVar 6)) (dC (.str "speed"))) (dAndV (dOp dEq (dXf ea ec ed (ga K "OutOfRange") "value" (dVar 6)) (dVar 1)) (dOp dEq (dCB dLen (daCons (dVar 2) daNil)) (dVar 4)))))) rfl rfl sc_law_bad_speed.nd rfl rfl T.g_OutOfRange rfl tk (fun W WDx1 pn xe tk hp => dss_one (ds_if (dt_cmp (op_eqA hr.units) od_eq (dv 3) de_int (nomark _)) (dss_one (ds_expr (de_callDefW (n := 1) (fr := ["_law_calls"]) (js := [2]) (sp := (fun vs => sp_run_by K (fvC fa1 fc1 (("_law_bad_speed" : Str) ++ ".<locals>." ++ "_law_noted") vs (fun env ds m Q _ => ds.length = 1 ∧ (dSeq (dDrop (dBM isL dAppend (dVar 1) (daCons (dVar 0) daNil))) (dRet (dC (.int 0)))) { nx := fun _ m => Q .non m, rt := Q } (startC ["_law_job", "_law_calls"] ds env) m)))) hob1 (fun b vs TB' C => by obtain ⟨_, z_ok, _, z_kb, _⟩ := (ca_run_by b TB' _ ((fv_defW 0 ["_law_job", "_law_calls"] ["_law_job"] ["_law_calls"] (spk := (fun env ds m Q _ => ds.length = 1 ∧ (dSeq (dDrop (dBM isL dAppend (dVar 1) (daCons (dVar 0) daNil))) (dRet (dC (.int 0)))) { nx := fun _ m => Q .non m, rt := Q } (startC ["_law_job", "_law_calls"] ds env) m)) C (by decide +kernel) (fun _ _ _ _ _ _ _ _ us hl => match us, hl with | [_], _ => rfl) (fun _ _ _ _ _ h => h.1) (fun A outer s H hr hp => dss_cons (ds_expr (de_bm PySem.F.plainAttrs_list PySem.F.slot_list_append PySem.F.type_list_append mt_append md_append (dv 1) (da_cons (dv 0) da_nil))) (dss_one (ds_ret de_int))) (fun _ _ _ _ _ h => h.2)).mono (by decide))).ex; exact ⟨_, z_ok, z_kb⟩) (hr.mono (by decide)) rfl T.g_run_by Fk_run_by.kp tk TB (by show NdefX.ndefB (defScope s_law_bad_speed) _ _ = true; decide +kernel) rfl (fun _ => rfl) (da_cons (dv 0) (da_cons (dv 5) da_nil)) (dk_cons (dv 1) dk_nil)))) (dss_one (ds_expr (de_callN (n := 1) c_earliest_deadline_ok (hr.mono (by decide)) rfl c_earliest_deadline_g c_earliest_deadline_kp c_earliest_deadline_kb tk (da_cons (dv 0) da_nil) (dk_cons (dv 1) dk_nil)))))) (fun ea oe ec ed pn hz hv => dss_one (ds_ret (de_wk (de_and (de_cmp (op_eqA hr.units) od_eq (de_xf T.xf_OutOfRange T.nf_OutOfRange_what hz hv (dv 6)) de_str (nomark _)) (de_and (de_cmp (op_eqA hr.units) od_eq (de_xf T.xf_OutOfRange T.nf_OutOfRange_value hz hv (dv 6)) (dv 1) (nomark _)) (de_one (de_cmp (op_eqA hr.units) od_eq (de_callB call_len cd_len rfl T.b_len (by decide +kernel) (da_cons (dv 2) da_nil)) (dv 4) (nomark _))))))))) ?_
  exact dss_one (ds_ret (de_wk de_bl))

theorem law_ok {l : PySem.W.OpenLaw} {w : World} {K : PySem.W.Frag} {mg : Str → Option Value} {base : Heap} {fd : FuncData} (T : Txt K mg) (TB : TabBs K mg base) (F : FunD K "law" "law" (defArgs s_law) (defBody s_law) (defScope s_law) [] [] (ga K "law") fd) : FnOk l.prog w K mg base CX0 9 (ga K "law") fd ["_law_script"] (liftSp K spLaw) := by
  have c_law_source : Good l.prog w K mg base 1 (some "_law_source") (ga K "_law_source") ["_law_cell_here"] (sp_law_source K) := ok_law_source T TB
  have c_law_cell : Good l.prog w K mg base 1 (some "_law_cell") (ga K "_law_cell") ["_law_script", "_law_place"] (sp_law_cell K) := ok_law_cell T TB
  have c_law_draw : Good l.prog w K mg base 1 (some "_law_draw") (ga K "_law_draw") ["_law_source_here", "_law_limit"] (sp_law_draw K) := ok_law_draw T TB
  have c_law_small_task : Good l.prog w K mg base 2 (some "_law_small_task") (ga K "_law_small_task") ["_law_source_here", "_law_name"] (sp_law_small_task K) := ok_law_small_task T TB c_law_draw
  have c_law_walk : Good l.prog w K mg base 2 (some "_law_walk") (ga K "_law_walk") ["_law_source_here", "_law_task", "_law_parts"] (sp_law_walk K) := ok_law_walk T TB c_law_draw
  have c_check_counts : Good l.prog w K mg base 3 (some "check_counts") (ga K "check_counts") ["tasks", "walks", "grain"] (sp_check_counts K) := ok_check_counts T TB
  have c_Task_row_of : Good l.prog w K mg base 3 none (ma K (ga K "Task") "row_of") ["self", "kind"] (sp_Task_row_of K) := ok_Task_row_of T TB
  have c_Task_cost_of : Good l.prog w K mg base 4 none (ma K (ga K "Task") "cost_of") ["self", "kind"] (sp_Task_cost_of K) := ok_Task_cost_of T TB c_Task_row_of
  have c_Task_followers : Good l.prog w K mg base 4 none (ma K (ga K "Task") "followers") ["self", "kind"] (sp_Task_followers K) := ok_Task_followers T TB c_Task_row_of
  have c_gap_between : Good l.prog w K mg base 5 (some "gap_between") (ga K "gap_between") ["task", "first", "second"] (sp_gap_between K) := ok_gap_between T TB c_Task_followers
  have c_check_job : Good l.prog w K mg base 6 (some "check_job") (ga K "check_job") ["task", "walk", "index", "place", "grain"] (sp_check_job K) := ok_check_job T TB c_Task_cost_of c_gap_between
  have c_Task_deadline_of : Good l.prog w K mg base 4 none (ma K (ga K "Task") "deadline_of") ["self", "kind"] (sp_Task_deadline_of K) := ok_Task_deadline_of T TB c_Task_row_of
  have c_Run_init : GoodK l.prog w K mg base 7 none (ma K (ga K "Run") "__init__") ["self", "tasks", "walks", "grain"] (sp_Run_init K) 3 ["grain"] [.int 1] := ok_Run_init T TB c_check_counts c_check_job c_Task_deadline_of
  have c_is_name : Good l.prog w K mg base 1 (some "is_name") (ga K "is_name") ["text"] (sp_is_name K) := ok_is_name T TB
  have c_need_name : Good l.prog w K mg base 2 (some "need_name") (ga K "need_name") ["text"] (sp_need_name K) := ok_need_name T TB c_is_name
  have c_need_range : Good l.prog w K mg base 1 (some "need_range") (ga K "need_range") ["what", "value", "least", "most"] (sp_need_range K) := ok_need_range T TB
  have c_checked_kinds : Good l.prog w K mg base 3 (some "checked_kinds") (ga K "checked_kinds") ["kinds", "branching"] (sp_checked_kinds K) := ok_checked_kinds T TB c_need_name c_need_range
  have c_need_kind : Good l.prog w K mg base 1 (some "need_kind") (ga K "need_kind") ["name", "kind_rows"] (sp_need_kind K) := ok_need_kind T TB
  have c_checked_arrows : Good l.prog w K mg base 2 (some "checked_arrows") (ga K "checked_arrows") ["arrows", "kind_rows"] (sp_checked_arrows K) := ok_checked_arrows T TB c_need_kind c_need_range
  have c_Task_init : GoodD l.prog w K mg base 4 none (ma K (ga K "Task") "__init__") ["self", "name", "kinds", "arrows"] (sp_Task_init K) [.tup []] := ok_Task_init T TB c_need_name c_checked_kinds c_checked_arrows
  have c_Run_jobs : Good l.prog w K mg base 1 none (wad K "property" "Run" "jobs") ["self"] (sp_Run_jobs K) := ok_Run_jobs T TB
  have c_law_rank : Good l.prog w K mg base 1 (some "_law_rank") (ga K "_law_rank") ["_law_job", "_law_way", "_law_ranks"] (sp_law_rank K) := ok_law_rank T TB
  have c_law_same : Good l.prog w K mg base 1 (some "_law_same") (ga K "_law_same") ["_law_actual", "_law_expected"] (sp_law_same K) := ok_law_same T TB
  have c_law_play : Good l.prog w K mg base 1 (some "_law_play") (ga K "_law_play") ["_law_jobs", "_law_keys", "_law_pace"] (sp_law_play K) := ok_law_play T TB
  have c_due_of : Good l.prog w K mg base 1 (some "due_of") (ga K "due_of") ["job"] (sp_due_of K) := ok_due_of T TB
  have c_earliest_deadline : GoodK l.prog w K mg base 6 (some "earliest_deadline") (ga K "earliest_deadline") ["run", "speed"] (sp_earliest_deadline K) 1 ["speed"] [.int 1] := ok_earliest_deadline T TB c_due_of (fun base TB fv hFV => by have c_check_speed : Good l.prog w K mg base 3 (some "check_speed") (ga K "check_speed") ["speed"] (sp_check_speed K) := ok_check_speed T TB; have c_Run_jobs : Good l.prog w K mg base 1 none (wad K "property" "Run" "jobs") ["self"] (sp_Run_jobs K) := ok_Run_jobs T TB; have c_add_slice : Good l.prog w K mg base 1 (some "add_slice") (ga K "add_slice") ["slices", "start", "end", "index"] (sp_add_slice K) := ok_add_slice T TB; exact ok_run_by T TB hFV c_check_speed c_Run_jobs c_add_slice)
  have c_law_bad_speed : Good l.prog w K mg base 7 (some "_law_bad_speed") (ga K "_law_bad_speed") ["_law_run", "_law_pace", "_law_calls", "_law_way"] (sp_law_bad_speed K) := ok_law_bad_speed T TB c_earliest_deadline (fun base TB fv hFV => by have c_check_speed : Good l.prog w K mg base 3 (some "check_speed") (ga K "check_speed") ["speed"] (sp_check_speed K) := ok_check_speed T TB; have c_Run_jobs : Good l.prog w K mg base 1 none (wad K "property" "Run" "jobs") ["self"] (sp_Run_jobs K) := ok_Run_jobs T TB; have c_add_slice : Good l.prog w K mg base 1 (some "add_slice") (ga K "add_slice") ["slices", "start", "end", "index"] (sp_add_slice K) := ok_add_slice T TB; exact ok_run_by T TB hFV c_check_speed c_Run_jobs c_add_slice)
  have ca_run_by : ∀ (base : Heap), TabBs K mg base → ∀ (fv : FV), FvOk l.prog w K mg base 4 fv → GoodK l.prog w K mg base 5 (some "run_by") (ga K "run_by") ["run", "key", "speed"] (sp_run_by K fv) 2 ["speed"] [.int 1] := (fun base TB fv hFV => by have c_check_speed : Good l.prog w K mg base 3 (some "check_speed") (ga K "check_speed") ["speed"] (sp_check_speed K) := ok_check_speed T TB; have c_Run_jobs : Good l.prog w K mg base 1 none (wad K "property" "Run" "jobs") ["self"] (sp_Run_jobs K) := ok_Run_jobs T TB; have c_add_slice : Good l.prog w K mg base 1 (some "add_slice") (ga K "add_slice") ["slices", "start", "end", "index"] (sp_add_slice K) := ok_add_slice T TB; exact ok_run_by T TB hFV c_check_speed c_Run_jobs c_add_slice)
  have ca_law_rank : ∀ (base : Heap), TabBs K mg base → Good l.prog w K mg base 1 (some "_law_rank") (ga K "_law_rank") ["_law_job", "_law_way", "_law_ranks"] (sp_law_rank K) := (fun base TB => by exact ok_law_rank T TB)
  obtain ⟨_, c_law_source_ok, c_law_source_b, c_law_source_kp⟩ := c_law_source.ex
  have c_law_source_g := c_law_source.gl
  obtain ⟨_, c_law_cell_ok, c_law_cell_b, c_law_cell_kp⟩ := c_law_cell.ex
  have c_law_cell_g := c_law_cell.gl
  obtain ⟨_, c_law_draw_ok, c_law_draw_b, c_law_draw_kp⟩ := c_law_draw.ex
  have c_law_draw_g := c_law_draw.gl
  obtain ⟨_, c_law_small_task_ok, c_law_small_task_b, c_law_small_task_kp⟩ := c_law_small_task.ex
  have c_law_small_task_g := c_law_small_task.gl
  obtain ⟨_, c_law_walk_ok, c_law_walk_b, c_law_walk_kp⟩ := c_law_walk.ex
  have c_law_walk_g := c_law_walk.gl
  obtain ⟨_, c_Run_init_ok, c_Run_init_kp, c_Run_init_kb, _, _, c_Run_init_dv, c_Run_init_b, c_Run_init_dd⟩ := c_Run_init.ex
  have c_Run_init_g := c_Run_init.gl
  obtain ⟨_, c_Task_init_ok, c_Task_init_kp, c_Task_init_b, _, _, c_Task_init_dv, c_Task_init_db, c_Task_init_dd⟩ := c_Task_init.ex
  have c_Task_init_g := c_Task_init.gl
  obtain ⟨_, c_Run_jobs_ok, c_Run_jobs_b, c_Run_jobs_kp⟩ := c_Run_jobs.ex
  have c_Run_jobs_g := c_Run_jobs.gl
  obtain ⟨_, c_law_rank_ok, c_law_rank_b, c_law_rank_kp⟩ := c_law_rank.ex
  have c_law_rank_g := c_law_rank.gl
  obtain ⟨_, c_law_same_ok, c_law_same_b, c_law_same_kp⟩ := c_law_same.ex
  have c_law_same_g := c_law_same.gl
  obtain ⟨_, c_law_play_ok, c_law_play_b, c_law_play_kp⟩ := c_law_play.ex
  have c_law_play_g := c_law_play.gl
  obtain ⟨_, c_earliest_deadline_ok, c_earliest_deadline_kp, c_earliest_deadline_kb, _, _, c_earliest_deadline_dv, c_earliest_deadline_b, c_earliest_deadline_dd⟩ := c_earliest_deadline.ex
  have c_earliest_deadline_g := c_earliest_deadline.gl
  obtain ⟨_, c_law_bad_speed_ok, c_law_bad_speed_b, c_law_bad_speed_kp⟩ := c_law_bad_speed.ex
  have c_law_bad_speed_g := c_law_bad_speed.gl
  obtain ⟨_, Fk_run_by⟩ := T.d_run_by
  obtain ⟨lc, lP, lhc, lhx⟩ := T.lam_law
  refine fn_d0L (k := 8) F lhc sc_law (spLaw_len _) (t_law K) (fun A outer s H E hr tk hp => ?_) (fun ds m Q E h => pure_law T ds m Q (fun _ _ => False) h)
  refine dss_cons (ds_set (i := 1) sc_law.nd rfl (Or.inr rfl) (de_call c_law_source_ok (hr.mono (by decide)) rfl c_law_source_g c_law_source_kp c_law_source_b .nil (fun _ => .nil) tk (da_cons (de_call c_law_cell_ok (hr.mono (by decide)) rfl c_law_cell_g c_law_cell_kp c_law_cell_b .nil (fun _ => .nil) tk (da_cons (dv 0) (da_cons de_int da_nil))) da_nil))) ?_
  refine dss_cons (ds_set (i := 2) sc_law.nd rfl (Or.inl rfl) (de_lst true da_nil)) ?_
  refine dss_cons (ds_for hp rfl (di_range1 rfl T.b_range (da_cons (de_add false de_int (de_call c_law_draw_ok (hr.mono (by decide)) rfl c_law_draw_g c_law_draw_kp c_law_draw_b .nil (fun _ => .nil) tk (da_cons (dv 1) (da_cons de_int da_nil)))) da_nil)) (dg_name (i := 3) sc_law.nd rfl (Or.inl rfl)) (dss_one (ds_expr (de_bm PySem.F.plainAttrs_list PySem.F.slot_list_append PySem.F.type_list_append mt_append md_append (dv 2) (da_cons (de_call c_law_small_task_ok (hr.mono (by decide)) rfl c_law_small_task_g c_law_small_task_kp c_law_small_task_b .nil (fun _ => .nil) tk (da_cons (dv 1) (da_cons de_str da_nil))) da_nil))))) ?_
  refine dss_frz 2 ?_
  refine dss_cons (ds_set (i := 1) sc_law.nd rfl (Or.inr rfl) (de_call c_law_source_ok (hr.mono (by decide)) rfl c_law_source_g c_law_source_kp c_law_source_b .nil (fun _ => .nil) tk (da_cons (de_call c_law_cell_ok (hr.mono (by decide)) rfl c_law_cell_g c_law_cell_kp c_law_cell_b .nil (fun _ => .nil) tk (da_cons (dv 0) (da_cons de_int da_nil))) da_nil))) ?_
  refine dss_cons (ds_set (i := 4) sc_law.nd rfl (Or.inr rfl) (de_call c_law_draw_ok (hr.mono (by decide)) rfl c_law_draw_g c_law_draw_kp c_law_draw_b .nil (fun _ => .nil) tk (da_cons (dv 1) (da_cons de_int da_nil)))) ?_
  refine dss_cons (ds_set (i := 5) sc_law.nd rfl (Or.inl rfl) (de_add false de_int (de_call c_law_draw_ok (hr.mono (by decide)) rfl c_law_draw_g c_law_draw_kp c_law_draw_b .nil (fun _ => .nil) tk (da_cons (dv 1) (da_cons de_int da_nil))))) ?_
  refine dss_cons (ds_set (i := 6) sc_law.nd rfl (Or.inl rfl) (de_add false de_int (de_call c_law_draw_ok (hr.mono (by decide)) rfl c_law_draw_g c_law_draw_kp c_law_draw_b .nil (fun _ => .nil) tk (da_cons (dv 1) (da_cons de_int da_nil))))) ?_
  refine dss_cons (ds_set (i := 7) sc_law.nd rfl (Or.inr rfl) (de_lc false (own := [("_law_task", 8)]) (c := .one 8) (te := dOp dSub (dCall (sp_law_draw K) WD0 [] (daCons (dVar 1) (daCons (dC (.int 5)) daNil))) (dC (.int 2))) (tt := dYes) rfl sc_law.nd (by simp [CT.in]) (di_list (dv 2)) (blkOk_by (own := [("_law_task", 8)]) (N := nm_law) (sc := defScope s_law) (by decide +kernel)) (fun _ _ _ _ _ => pg_ct1 (i := 8) sc_law.nd rfl (Or.inl rfl)) (fun _ _ _ _ _ => dts_nil) (fun _ _ _ _ _ => de_sub (de_call c_law_draw_ok (hr.mono (by decide)) rfl c_law_draw_g c_law_draw_kp c_law_draw_b .nil (fun _ => .nil) takes0 (da_cons (dv 1) (da_cons de_int da_nil))) de_int))) ?_
  refine dss_cons (ds_set (i := 9) sc_law.nd rfl (Or.inl rfl) (de_lst true da_nil)) ?_
  refine dss_cons (ds_for hp rfl (di_list (dv 2)) (dg_name (i := 8) sc_law.nd rfl (Or.inl rfl)) (dss_one (ds_expr (de_bm PySem.F.plainAttrs_list PySem.F.slot_list_append PySem.F.type_list_append mt_append md_append (dv 9) (da_cons (de_call c_law_walk_ok (hr.mono (by decide)) rfl c_law_walk_g c_law_walk_kp c_law_walk_b .nil (fun _ => .nil) tk (da_cons (dv 1) (da_cons (dv 8) (da_cons (dv 6) da_nil)))) da_nil))))) ?_
  refine dss_frz 9 ?_
  refine dss_cons (ds_set (i := 10) sc_law.nd rfl (Or.inl rfl) (de_makeN (n := 2) T.mk_Run c_Run_init_ok (hr.mono (by decide)) rfl T.g_Run c_Run_init_kb tk (none_of none_Run_init) (da_cons (de_lc false (own := [("_law_task", 8)]) (c := .one 8) (te := dMake (ga K "Task") (sp_Task_init K) WD0 [] (daCons (dOp dIx (dVar 8) (dC (.int 0))) (daCons (dOp dIx (dVar 8) (dC (.int 1))) (daCons (dOp dIx (dVar 8) (dC (.int 2))) daNil)))) (tt := dYes) rfl sc_law.nd (by simp [CT.in]) (di_list (dv 2)) (blkOk_by (own := [("_law_task", 8)]) (N := nm_law) (sc := defScope s_law) (by decide +kernel)) (fun _ _ _ _ _ => pg_ct1 (i := 8) sc_law.nd rfl (Or.inl rfl)) (fun _ _ _ _ _ => dts_nil) (fun _ _ _ _ _ => de_make T.mk_Task c_Task_init_ok (hr.mono (by decide)) rfl T.g_Task c_Task_init_b .nil (fun _ => .nil) takes0 (none_of none_Task_init) (da_cons (de_ix (dv 8) de_int) (da_cons (de_ix (dv 8) de_int) (da_cons (de_ix (dv 8) de_int) da_nil))))) (da_cons (dv 9) da_nil)) (dk_cons (dv 6) dk_nil))) ?_
  refine dss_cons (ds_set (i := 11) sc_law.nd rfl (Or.inl rfl) (de_prop (dv 10) T.cl_Run T.p_Run_jobs c_Run_jobs_ok (hr.mono (by decide)) c_Run_jobs_b)) ?_
  refine dss_cons (ds_set (i := 12) sc_law.nd rfl (Or.inr rfl) (de_lst true da_nil)) ?_
  refine dss_ndef (i := 13) (fr := ["_law_calls", "_law_way", "_law_ranks"]) TB lhx rfl (by show NdefX.ndefB (defScope s_law) _ _ = true; decide +kernel) rfl rfl rfl sc_law.nd rfl (Or.inl rfl) (Or.inl rfl) (fun fa1 fc1 ob1 hob1 => ?_)
  refine dss_cons (ds_set (i := 14) sc_law.nd rfl (Or.inl rfl) (de_callDefW (n := 1) (fr := ["_law_calls", "_law_way", "_law_ranks"]) (js := [12, 4, 7]) (sp := (fun vs => sp_run_by K (fvC fa1 fc1 (("law" : Str) ++ ".<locals>." ++ "_law_key") vs (fun env ds m Q _ => ds.length = 1 ∧ (dSeq (dDrop (dBM isL dAppend (dVar 1) (daCons (dVar 0) daNil))) (dRet (dCall (sp_law_rank K) WD0 [] (daCons (dVar 0) (daCons (dVar 2) (daCons (dVar 3) daNil)))))) { nx := fun _ m => Q .non m, rt := Q } (startC ["_law_job", "_law_calls", "_law_way", "_law_ranks"] ds env) m)))) hob1 (fun b vs TB' C => by obtain ⟨_, c_law_rank_ok, c_law_rank_b, c_law_rank_kp⟩ := (ca_law_rank b TB' ).ex; have c_law_rank_g := (ca_law_rank b TB' ).gl; obtain ⟨_, z_ok, _, z_kb, _⟩ := (ca_run_by b TB' _ ((fv_defW 1 ["_law_job", "_law_calls", "_law_way", "_law_ranks"] ["_law_job"] ["_law_calls", "_law_way", "_law_ranks"] (spk := (fun env ds m Q _ => ds.length = 1 ∧ (dSeq (dDrop (dBM isL dAppend (dVar 1) (daCons (dVar 0) daNil))) (dRet (dCall (sp_law_rank K) WD0 [] (daCons (dVar 0) (daCons (dVar 2) (daCons (dVar 3) daNil)))))) { nx := fun _ m => Q .non m, rt := Q } (startC ["_law_job", "_law_calls", "_law_way", "_law_ranks"] ds env) m)) C (by decide +kernel) (fun _ _ _ _ _ _ _ _ us hl => match us, hl with | [_], _ => rfl) (fun _ _ _ _ _ h => h.1) (fun A outer s H hr hp => dss_cons (ds_expr (de_bm PySem.F.plainAttrs_list PySem.F.slot_list_append PySem.F.type_list_append mt_append md_append (dv 1) (da_cons (dv 0) da_nil))) (dss_one (ds_ret (de_call c_law_rank_ok (hr.mono (by decide)) rfl c_law_rank_g c_law_rank_kp c_law_rank_b .nil (fun _ => .nil) takes0 (da_cons (dv 0) (da_cons (dv 2) (da_cons (dv 3) da_nil))))))) (fun _ _ _ _ _ h => h.2)).mono (by decide))).ex; exact ⟨_, z_ok, z_kb⟩) (hr.mono (by decide)) rfl T.g_run_by Fk_run_by.kp tk TB (by show NdefX.ndefB (defScope s_law) _ _ = true; decide +kernel) rfl (fun _ => rfl) (da_cons (dv 10) (da_cons (dv 13) da_nil)) (dk_cons (dv 5) dk_nil))) ?_
  refine dss_cons (ds_setLc false (i := 15) (hy := rfl) (hyl := rfl) (hsw := sw_true rfl rfl rfl (by decide +kernel)) (hc := rfl) (hN := sc_law.nd) (own := [("_law_job", 16)]) (c := .one 16) (te := dCall (sp_law_rank K) WD0 [] (daCons (dVar 16) (daCons (dVar 4) (daCons (dVar 7) daNil)))) (tt := dYes) (by simp [CT.in]) (di_list (dv 11)) (blkOk_by (own := [("_law_job", 16)]) (N := nm_law) (sc := defScope s_law) (by decide +kernel)) (fun _ _ _ _ _ => pg_ct1 (i := 16) sc_law.nd rfl (Or.inl rfl)) (fun _ _ _ _ _ => dts_nil) (fun _ _ _ _ _ => de_call c_law_rank_ok (hr.mono (by decide)) rfl c_law_rank_g c_law_rank_kp c_law_rank_b .nil (fun _ => .nil) takes0 (da_cons (dv 16) (da_cons (dv 4) (da_cons (dv 7) da_nil))))) ?_
  refine dss_cons (ds_if (dt_w (dw_or (dt_cmp (op_neA hr.units) od_ne (dv 12) (dv 11) (nomark _)) (dw_or1 (dt_not (dt_tru (de_call c_law_same_ok (hr.mono (by decide)) rfl c_law_same_g c_law_same_kp c_law_same_b .nil (fun _ => .nil) tk (da_cons (dv 14) (da_cons (de_call c_law_play_ok (hr.mono (by decide)) rfl c_law_play_g c_law_play_kp c_law_play_b .nil (fun _ => .nil) tk (da_cons (dv 11) (da_cons (dv 15) (da_cons (dv 5) da_nil)))) da_nil)))))))) (dss_one (ds_ret de_bl)) dss_nil) ?_
  refine dss_cons (ds_setLc false (i := 17) (hy := rfl) (hyl := rfl) (hsw := sw_true rfl rfl rfl (by decide +kernel)) (hc := rfl) (hN := sc_law.nd) (own := [("_law_job", 16)]) (c := .one 16) (te := dOp dIx (dVar 16) (dC (.int 5))) (tt := dYes) (by simp [CT.in]) (di_list (dv 11)) (blkOk_by (own := [("_law_job", 16)]) (N := nm_law) (sc := defScope s_law) (by decide +kernel)) (fun _ _ _ _ _ => pg_ct1 (i := 16) sc_law.nd rfl (Or.inl rfl)) (fun _ _ _ _ _ => dts_nil) (fun _ _ _ _ _ => de_ix (dv 16) de_int)) ?_
  refine dss_cons (ds_if (dt_not (dt_tru (de_call c_law_same_ok (hr.mono (by decide)) rfl c_law_same_g c_law_same_kp c_law_same_b .nil (fun _ => .nil) tk (da_cons (de_callN (n := 1) c_earliest_deadline_ok (hr.mono (by decide)) rfl c_earliest_deadline_g c_earliest_deadline_kp c_earliest_deadline_kb tk (da_cons (dv 10) da_nil) (dk_cons (dv 5) dk_nil)) (da_cons (de_call c_law_play_ok (hr.mono (by decide)) rfl c_law_play_g c_law_play_kp c_law_play_b .nil (fun _ => .nil) tk (da_cons (dv 11) (da_cons (dv 17) (da_cons (dv 5) da_nil)))) da_nil))))) (dss_one (ds_ret de_bl)) dss_nil) ?_
  refine dss_cons (ds_for hp rfl (di_list (de_lst false (da_cons de_int (da_cons de_int (da_cons (de_neg de_int) da_nil))))) (dg_name (i := 18) sc_law.nd rfl (Or.inl rfl)) (dss_one (ds_if (dt_w (dw_or (dt_not (dt_tru (de_call c_law_bad_speed_ok (hr.mono (by decide)) rfl c_law_bad_speed_g c_law_bad_speed_kp c_law_bad_speed_b .nil (fun _ => .nil) tk (da_cons (dv 10) (da_cons (dv 18) (da_cons (dv 12) (da_cons de_int da_nil))))))) (dw_or1 (dt_not (dt_tru (de_call c_law_bad_speed_ok (hr.mono (by decide)) rfl c_law_bad_speed_g c_law_bad_speed_kp c_law_bad_speed_b .nil (fun _ => .nil) tk (da_cons (dv 10) (da_cons (dv 18) (da_cons (dv 12) (da_cons de_int da_nil)))))))))) (dss_one (ds_ret de_bl)) dss_nil))) ?_
  refine dss_cons (ds_if (dt_cmp op_gt od_cmpI (dv 5) de_int (nomark _)) (dss_one (ds_ret de_bl)) dss_nil) ?_
  refine dss_cons (ds_if (dt_not (dt_tru (de_call c_law_same_ok (hr.mono (by decide)) rfl c_law_same_g c_law_same_kp c_law_same_b .nil (fun _ => .nil) tk (da_cons (de_callDef0W (fr := ["_law_calls", "_law_way", "_law_ranks"]) (js := [12, 4, 7]) (sp := (fun vs => sp_run_by K (fvC fa1 fc1 (("law" : Str) ++ ".<locals>." ++ "_law_key") vs (fun env ds m Q _ => ds.length = 1 ∧ (dSeq (dDrop (dBM isL dAppend (dVar 1) (daCons (dVar 0) daNil))) (dRet (dCall (sp_law_rank K) WD0 [] (daCons (dVar 0) (daCons (dVar 2) (daCons (dVar 3) daNil)))))) { nx := fun _ m => Q .non m, rt := Q } (startC ["_law_job", "_law_calls", "_law_way", "_law_ranks"] ds env) m)))) hob1 (fun _ => ints_rps [1]) (fun b vs TB' C => by obtain ⟨_, c_law_rank_ok, c_law_rank_b, c_law_rank_kp⟩ := (ca_law_rank b TB' ).ex; have c_law_rank_g := (ca_law_rank b TB' ).gl; obtain ⟨_, z_ok, _, _, _, _, z_dv, z_b, z_dd⟩ := (ca_run_by b TB' _ ((fv_defW 1 ["_law_job", "_law_calls", "_law_way", "_law_ranks"] ["_law_job"] ["_law_calls", "_law_way", "_law_ranks"] (spk := (fun env ds m Q _ => ds.length = 1 ∧ (dSeq (dDrop (dBM isL dAppend (dVar 1) (daCons (dVar 0) daNil))) (dRet (dCall (sp_law_rank K) WD0 [] (daCons (dVar 0) (daCons (dVar 2) (daCons (dVar 3) daNil)))))) { nx := fun _ m => Q .non m, rt := Q } (startC ["_law_job", "_law_calls", "_law_way", "_law_ranks"] ds env) m)) C (by decide +kernel) (fun _ _ _ _ _ _ _ _ us hl => match us, hl with | [_], _ => rfl) (fun _ _ _ _ _ h => h.1) (fun A outer s H hr hp => dss_cons (ds_expr (de_bm PySem.F.plainAttrs_list PySem.F.slot_list_append PySem.F.type_list_append mt_append md_append (dv 1) (da_cons (dv 0) da_nil))) (dss_one (ds_ret (de_call c_law_rank_ok (hr.mono (by decide)) rfl c_law_rank_g c_law_rank_kp c_law_rank_b .nil (fun _ => .nil) takes0 (da_cons (dv 0) (da_cons (dv 2) (da_cons (dv 3) da_nil))))))) (fun _ _ _ _ _ h => h.2)).mono (by decide))).ex; have z_e := ints_vs (ns := [1]) (z_dd (fun _ => none)); subst z_e; exact ⟨_, z_ok, _, z_dv, z_b⟩) (fun _ => len_run_by) (hr.mono (by decide)) rfl T.g_run_by Fk_run_by.kp tk TB (by show NdefX.ndefB (defScope s_law) _ _ = true; decide +kernel) rfl (fun _ => rfl) (da_cons (dv 10) (da_cons (dv 13) da_nil))) (da_cons (dv 14) da_nil))))) (dss_one (ds_ret de_bl)) dss_nil) ?_
  exact dss_one (ds_ret (de_and (de_call c_law_same_ok (hr.mono (by decide)) rfl c_law_same_g c_law_same_kp c_law_same_b .nil (fun _ => .nil) tk (da_cons (de_call c_earliest_deadline_ok (hr.mono (by decide)) rfl c_earliest_deadline_g c_earliest_deadline_kp c_earliest_deadline_b c_earliest_deadline_dv c_earliest_deadline_dd tk (da_cons (dv 10) da_nil)) (da_cons (de_call c_law_play_ok (hr.mono (by decide)) rfl c_law_play_g c_law_play_kp c_law_play_b .nil (fun _ => .nil) tk (da_cons (dv 11) (da_cons (dv 17) (da_cons de_int da_nil)))) da_nil))) (de_one (de_cmp (op_eqA hr.units) od_eq (de_prop (dv 10) T.cl_Run T.p_Run_jobs c_Run_jobs_ok (hr.mono (by decide)) c_Run_jobs_b) (dv 11) (nomark _)))))

end LW

set_option Elab.async false
set_option linter.all false
set_option maxRecDepth 100000
set_option maxHeartbeats 0

open PySem PySem.W PySem.Calls PyProof.Rows in
set_option maxRecDepth 100000 in
set_option maxHeartbeats 0 in
theorem PySem.Challenge.cw_walkdues_k08_slices_unit_by_unit_holds : PySem.Challenge.rw_walkdues_k08_slices_unit_by_unit.Holds := by
  w_on; o_law
  refine HandSHeadRun.head_any (r := OpenLaw.row PySem.Challenge.rw_walkdues_k08_slices_unit_by_unit) (q := view (OpenLaw.row PySem.Challenge.rw_walkdues_k08_slices_unit_by_unit).prog [51]) (H := LW.hk) (ob := LW.ob) (M := 12000) (loose := LW.loose) (d := HandSHeadRun.topDef (OpenLaw.row PySem.Challenge.rw_walkdues_k08_slices_unit_by_unit).prog 51) (kwd := []) LW.ob_eq
    (by kernel_rfl) (fun s => by kernel_rfl) LW.run (by kernel_rfl) (by kernel_rfl) (by kernel_rfl) (by rfl) (by first | assumption | decide +kernel) (by decide +kernel) ⟨rfl, rfl, rfl, rfl, rfl, by decide +kernel⟩ ?hw ?hc
  case hw => w_witness2
  case hc =>
    refine DL.walk_tab (l := PySem.Challenge.rw_walkdues_k08_slices_unit_by_unit) (n := 63) (k := 9) (x := "_law_script") (CX := L2.CX0) rfl (by decide) (by kernel_rfl) ⟨rfl, by decide, by decide⟩ ?F (fun _ _ _ _ z => z)
    intro w mg fa h Y G hmg0
    obtain ⟨K, KX, c, tab⟩ := Y
    have hmg : mg ("law" : PySem.Str) = some (.ref fa) := by
      have e : (HandSHeadRun.topDef (OpenLaw.row PySem.Challenge.rw_walkdues_k08_slices_unit_by_unit).prog 51).name = ("law" : PySem.Str) := by kernel_rfl
      rw [← e]
      exact hmg0
    have T : LW.Txt K mg := ⟨c, h, KX, G⟩
    have e := hmg.symm.trans T.g_law
    cases e
    obtain ⟨fd, F⟩ := T.d_law
    have b := L2.FunD.bindsA (ps := ["_law_script"]) F fun _ _ _ _ _ _ us hl => match us, hl with | [_], _ => rfl
    exact ⟨K, fd, DL.liftSp K DL.spLaw, KX, tab, fun s v => b s [v] rfl, fun H a ns hl hT hS => DL.law_sp H a ns hl hT hS, fun base _ _ TB => LW.law_ok T TB F⟩

