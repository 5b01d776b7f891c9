import PyProof.Rows.All
import Wide.All
import OpenK.AllK
import Wide.FinOn
import KE.KStateDown
import HandS.ForMost
import HandS.ForExc
import HandS.Defaults
import HandS.Wide
import HandS.Lambda
import HandS.HeadHook1
import HandS.IsInst
import HandS.Text
import HandS.CallSlots
import HandS.NoneIn
import HandS.RevRange
import HandS.Property
import HandS.Star
import HandS.OwnEq
import HandS.SetFor
import Lean
import HandS.Head2
import HandS.HeadEnd
import HandS.HeadHook2
import HandS.EndTab
import KE.KNestM
import HandS.SortInts
import HandS.ExcInit
import HandS.ExcField
import HandS.TryOnly
import HandS.Small
import HandS.ClsMeth
import HandS.HeadNt
import HandS.Conv
import HandS.FStr
import HandS.Iter
import HandS.MakeKw
import HandS.Style
import HandS.TryMany
import KE.KExcIs
import HandS.ExcIs
import HandS.WideBits
import HandS.List
import PyProof.StrBlock2
import HandS.DictComp
import HandS.WordsDict
import HandS.Finally
import HandS.SortKw
import HandS.ListItems
import KE.DataMinMax
import KE.DataEq
import KE.SortKeyHeap
import HandS.DictTup
import HandS.DeepEq
import HandS.Dict
import HandS.Flow
import HandS.More
import HandS.HotCalls
import KE.KEqNest
import KE.KWithOwn
import HandS.Zip
import HandS.Nested
import KE.DataMinKey
import PyProof.Runs
import HandS.Remove
import KE.LtData
import HandS.ExcValue
import KE.DataFind
import HandS.Deep
import PySem.Challenge.RW_walkdues_k59_errors_made_by_hand
set_option Elab.async false
set_option linter.all false
set_option maxRecDepth 100000
set_option maxHeartbeats 4000000
namespace DL
open PySem PySem.Spec PyProof.Rows L2

inductive D where
  | non
  | bl (b : Bool)
  | int (i : Int)
  | str (x : Str)
  | ty (n : String)
  | ref (a : Addr)
  | lst (xs : List D)
  | rdl (xs : List D)
  | tup (xs : List D)
  | ins (C : Addr) (fs : List (Str × D))
  | exn (a : Addr) (d : Option Addr) (fs : List (Str × D))
  | dki (kvs : List (Key × Int))
  | dti (kvs : List (List Key × Int))
  | obj (a : Addr) (d : D)
  | clo (a c : Addr) (q : Str) (env : List D) (vs : List V)
def iV {κ : Type} (kvs : List (κ × Int)) : List (κ × V) := kvs.map fun p => (p.1, V.int p.2)

def TpK (K : PySem.W.Frag) (G : Hp) (a : Addr) (vs : List V) : Prop := SqT K G a vs ∧ (vs = [] ∨ G a = some (.tup vs))
mutual
inductive Rp (K : PySem.W.Frag) (G : Hp) : D → V → Prop
  | non : Rp K G .non .non
  | bl (b : Bool) : Rp K G (.bl b) (.bl b)
  | int (i : Int) : Rp K G (.int i) (.int i)
  | str (x : Str) : Rp K G (.str x) (.str x)
  | ty (n : String) : Rp K G (.ty n) (.ty n)
  | ref (a : Addr) : Rp K G (.ref a) (.ref a)
  | lst {a : Addr} {vs : List V} {ds : List D} : G a = some (.lst vs) → Rps K G ds vs → Rp K G (.lst ds) (.ref a)
  | rdl {a : Addr} {vs : List V} {ds : List D} : SqL K G a vs → Rps K G ds vs → Rp K G (.rdl ds) (.ref a)
  | tup {a : Addr} {vs : List V} {ds : List D} : TpK K G a vs → Rps K G ds vs → Rp K G (.tup ds) (.ref a)
  | ins {a C dx : Addr} {fv : List (Str × V)} {fs : List (Str × D)} : G a = some (.ins C dx fv) → Rpf K G fs fv → Rp K G (.ins C fs) (.ref a)
  | exn0 (a : Addr) : Rp K G (.exn a none []) (.ref a)
  | exnS {a d : Addr} {fv : List (Str × V)} {fs : List (Str × D)} : G d = some (.xd fv) → Rpf K G fs fv → Rp K G (.exn a (some d) fs) (.ref a)
  | dki {a : Addr} {o : Obj} {kvs : List (Key × Int)} : G a = some (.frz o (.dK (iV kvs))) → Rp K G (.dki kvs) (.ref a)
  | dti {a : Addr} {o : Obj} {kvs : List (List Key × Int)} : G a = some (.frz o (.dT (iV kvs))) → Rp K G (.dti kvs) (.ref a)
  | obj {a : Addr} {d : D} : Rp K G d (.ref a) → Rp K G (.obj a d) (.ref a)
  | clo {a c : Addr} {q : Str} {env : List D} {vs : List V} : G c = some (LamX.CodeO c q) → Rps K G env vs → Rp K G (.clo a c q env vs) (.ref a)
inductive Rps (K : PySem.W.Frag) (G : Hp) : List D → List V → Prop
  | nil : Rps K G [] []
  | cons {d : D} {ds : List D} {v : V} {vs : List V} : Rp K G d v → Rps K G ds vs → Rps K G (d :: ds) (v :: vs)
inductive Rpf (K : PySem.W.Frag) (G : Hp) : List (Str × D) → List (Str × V) → Prop
  | nil : Rpf K G [] []
  | cons {n : Str} {d : D} {ds : List (Str × D)} {v : V} {vs : List (Str × V)} : Rp K G d v → Rpf K G ds vs → Rpf K G ((n, d) :: ds) ((n, v) :: vs)
end

theorem same_sqt {K : PySem.W.Frag} {H H' : Hp} {a : Addr} {xs : List V} (e : Same H H') (h : SqT K H a xs) : SqT K H' a xs := by
  rcases h with (h | ⟨o, h⟩) | h
  · exact .inl (.inl (e _ _ h))
  · exact .inl (.inr ⟨o, e _ _ h⟩)
  · exact .inr h
theorem same_tpk {K : PySem.W.Frag} {H H' : Hp} {a : Addr} {xs : List V} (e : Same H H') (h : TpK K H a xs) : TpK K H' a xs := ⟨same_sqt e h.1, h.2.imp _root_.id fun z => e _ _ z⟩
theorem TpK.of {K : PySem.W.Frag} {H : Hp} {a : Addr} {xs : List V} (h : H a = some (.tup xs)) : TpK K H a xs := ⟨SqT.of h, .inr h⟩
instance {K : PySem.W.Frag} {H : Hp} {a : Addr} {xs : List V} : CoeOut (TpK K H a xs) (SqT K H a xs) := ⟨And.left⟩
section
variable {K : PySem.W.Frag} {G G' : Hp}
mutual
theorem Rp.mono (e : Same G G') : ∀ {d : D} {v : V}, Rp K G d v → Rp K G' d v
  | _, _, .non => .non
  | _, _, .bl b => .bl b
  | _, _, .int i => .int i
  | _, _, .str x => .str x
  | _, _, .ty n => .ty n
  | _, _, .ref a => .ref a
  | _, _, .lst h r => .lst (e _ _ h) (Rps.mono e r)
  | _, _, .rdl h r => .rdl (e.seq h) (Rps.mono e r)
  | _, _, .tup h r => .tup (same_tpk e h) (Rps.mono e r)
  | _, _, .ins h r => .ins (e _ _ h) (Rpf.mono e r)
  | _, _, .exn0 a => .exn0 a
  | _, _, .exnS h r => .exnS (e _ _ h) (Rpf.mono e r)
  | _, _, .dki h => .dki (e _ _ h)
  | _, _, .dti h => .dti (e _ _ h)
  | _, _, .obj h => .obj (Rp.mono e h)
  | _, _, .clo hc h => .clo (e _ _ hc) (Rps.mono e h)
theorem Rps.mono (e : Same G G') : ∀ {ds : List D} {vs : List V}, Rps K G ds vs → Rps K G' ds vs
  | _, _, .nil => .nil
  | _, _, .cons r t => .cons (Rp.mono e r) (Rps.mono e t)
theorem Rpf.mono (e : Same G G') : ∀ {ds : List (Str × D)} {vs : List (Str × V)}, Rpf K G ds vs → Rpf K G' ds vs
  | _, _, .nil => .nil
  | _, _, .cons r t => .cons (Rp.mono e r) (Rpf.mono e t)
end
theorem Rps.length : ∀ {ds : List D} {vs : List V}, Rps K G ds vs → ds.length = vs.length
  | _, _, .nil => rfl
  | _, _, .cons _ t => congrArg Nat.succ (Rps.length t)
theorem Rps.append : ∀ {ds es : List D} {vs us : List V}, Rps K G ds vs → Rps K G es us → Rps K G (ds ++ es) (vs ++ us)
  | _, _, _, _, .nil, s => s
  | _, _, _, _, .cons r t, s => .cons r (Rps.append t s)
theorem Rps.get : ∀ {ds : List D} {vs : List V} {i : Nat} {d : D}, Rps K G ds vs → ds[i]? = some d → ∃ v, vs[i]? = some v ∧ Rp K G d v
  | _, _, _, _, .nil, e => by simp at e
  | _, _, 0, _, .cons r _, e => by simp at e; subst e; exact ⟨_, rfl, r⟩
  | _, _, i + 1, d, .cons _ t, e => by
    obtain ⟨u, h1, h2⟩ := Rps.get (i := i) (d := d) t (by simpa using e)
    exact ⟨u, by simpa using h1, h2⟩
theorem Rps.reverse : ∀ {ds : List D} {vs : List V}, Rps K G ds vs → Rps K G ds.reverse vs.reverse
  | _, _, .nil => .nil
  | _, _, .cons r t => by
    rw [List.reverse_cons, List.reverse_cons]
    exact (Rps.reverse t).append (.cons r .nil)
theorem Rpf.lookup : ∀ {fs : List (Str × D)} {fv : List (Str × V)} {x : Str} {d : D}, Rpf K G fs fv → fs.lookup x = some d → ∃ v, fv.lookup x = some v ∧ Rp K G d v
  | _, _, _, _, .nil, e => by simp at e
  | _, _, x, d, .cons (n := n) r t, e => by
    rw [List.lookup_cons] at e
    cases q : (x == n) with
    | true =>
      rw [q] at e
      cases e
      exact ⟨_, by rw [List.lookup_cons, q], r⟩
    | false =>
      rw [q] at e
      obtain ⟨v, h1, h2⟩ := Rpf.lookup t e
      exact ⟨v, by rw [List.lookup_cons, q]; exact h1, h2⟩
theorem Rpf.length : ∀ {fs : List (Str × D)} {fv : List (Str × V)}, Rpf K G fs fv → fs.length = fv.length
  | _, _, .nil => rfl
  | _, _, .cons _ t => congrArg Nat.succ (Rpf.length t)
end
inductive MO where
  | lst (xs : List D)
  | dK (kvs : List (Key × D))
  | dT (kvs : List (List Key × D))
  | ins (C : Addr) (fs : List (Str × D))
  | fn (ob : Obj)
inductive Rpk {κ : Type} (K : PySem.W.Frag) (G : Hp) : List (κ × D) → List (κ × V) → Prop
  | nil : Rpk K G [] []
  | cons {k : κ} {d : D} {ds : List (κ × D)} {v : V} {vs : List (κ × V)} : Rp K G d v → Rpk K G ds vs → Rpk K G ((k, d) :: ds) ((k, v) :: vs)
theorem Rpk.mono {κ : Type} {K : PySem.W.Frag} {G G' : Hp} (e : Same G G') : ∀ {ds : List (κ × D)} {vs : List (κ × V)}, Rpk K G ds vs → Rpk K G' ds vs
  | _, _, .nil => .nil
  | _, _, .cons r t => .cons (r.mono e) (Rpk.mono e t)
def RpM (K : PySem.W.Frag) (G : Hp) : MO → HO → Prop
  | .lst ds, .lst vs => Rps K G ds vs
  | .dK ds, .dK vs => Rpk K G ds vs
  | .dT ds, .dT vs => Rpk K G ds vs
  | .ins C fs, .ins C' _ fv => C = C' ∧ Rpf K G fs fv
  | .fn ob, .frz ob' u => ob = ob' ∧ u = .ext fun _ => True
  | _, _ => False
theorem RpM.mono {K : PySem.W.Frag} {G G' : Hp} (e : Same G G') {m : MO} {o : HO} (h : RpM K G m o) : RpM K G' m o := by
  cases m with
  | lst ds => cases o with
    | lst vs => exact Rps.mono e h
    | _ => exact h.elim
  | dK ds => cases o with
    | dK vs => exact Rpk.mono e h
    | _ => exact h.elim
  | dT ds => cases o with
    | dT vs => exact Rpk.mono e h
    | _ => exact h.elim
  | ins C fs => cases o with
    | ins C' dx fv => exact ⟨h.1, h.2.mono e⟩
    | _ => exact h.elim
  | fn ob => cases o with
    | frz ob' u => exact h
    | _ => exact h.elim
abbrev M := Addr → Option MO
def mset (m : M) (a : Addr) (o : MO) : M := fun b => if b = a then some o else m b
def lamDefs : List (Option Str × Str) := [(none, "simple_cycles"), (some "Run", "__init__"), (none, "run_by"), (none, "calendar_slices"), (none, "_law_jobs"), (none, "_law_excess"), (none, "_law_refusal"), (none, "_law_key"), (none, "_law_scheduled"), (none, "_law_bad_speed"), (none, "law")]
def lamAd (K : PySem.W.Frag) (d : Option Str × Str) : Addr := match d.1 with
  | none => He.ga K d.2
  | some C => He.ma K (He.ga K C) d.2
def lamQ (d : Option Str × Str) : Str := match d.1 with
  | none => d.2
  | some C => C ++ "." ++ d.2
def nmIn : List Stmt → Str
  | [] => "<lambda>"
  | .FunctionDef n _ _ _ _ _ _ _ _ _ :: _ => n
  | _ :: r => nmIn r
def innerAt (K : PySem.W.Frag) (f : Addr) : Str := match K.lookup f with
  | some ⟨_, _, .func u, _⟩ => (match u.body with
    | .stmts b => nmIn b
    | _ => "<lambda>")
  | _ => "<lambda>"
def tabAt (K : PySem.W.Frag) (f : Addr) (q : Str) : Option (Addr × Addr) := match K.lookup f with
  | some ⟨_, _, .func u, _⟩ => if u.qualname = q then (match u.code with
    | .ref c => (match K.lookup c with
      | some ⟨_, _, .fields vs, _⟩ => (match (vs[11]? : Option Value) with
        | some (.ref P) => some (c, P)
        | _ => none)
      | _ => none)
    | _ => none) else none
  | _ => none
def tbls3 (K : PySem.W.Frag) : List (Addr × Addr × Str) := lamDefs.filterMap fun d => (tabAt K (lamAd K d) (lamQ d)).map fun x => (x.1, x.2, lamQ d ++ ".<locals>." ++ innerAt K (lamAd K d))
def tblsOf (K : PySem.W.Frag) : List (Addr × Str) := (tbls3 K).map fun x => (x.2.1, x.2.2)
def ntb (o : HO) : Prop := ∀ ps, o ≠ .tbl ps
def notT (o : HO) : Prop := (∀ ps, o ≠ .tbl ps) ∧ (∀ xs, o ≠ .tup xs) ∧ ∀ φ, o ≠ .ext φ
structure Rep (K : PySem.W.Frag) (G H F : Hp) (m : M) : Prop where
  ext : Same G H
  frm : Same F H
  dis : ∀ a o, F a = some o → G a = none
  mo : ∀ a o, m a = some o → G a = none ∧ F a = none ∧ ∃ u, H a = some u ∧ RpM K G o u
  tb : LamX.Tabs (tblsOf K) H
  gt : ∀ a o, G a = some o → ntb o
  ft : ∀ a o, F a = some o → notT o
section
variable {K : PySem.W.Frag} {G H F : Hp} {m : M} {p a : Addr} {o : HO} {u : MO}
theorem Rep.free (r : Rep K G H F m) (h : H p = none) : G p = none := r.ext.free h
end

section
variable {K : PySem.W.Frag} {G H F : Hp} {m : M} {p : Addr} {o u : HO}
theorem Rep.show (r : Rep K G H (upd F p o) m) (hF : F p = none) : Rep K G H F m := by
  refine ⟨r.ext, fun b v e => ?_, fun b v e => ?_, fun b v e => ?_, r.tb, r.gt, fun b v e => r.ft b v (by rw [upd_ne (fun q => by rw [q, hF] at e; cases e)]; exact e)⟩
  · exact r.frm b v (by rw [upd_ne (fun q => by rw [q, hF] at e; cases e)]; exact e)
  · exact r.dis b v (by rw [upd_ne (fun q => by rw [q, hF] at e; cases e)]; exact e)
  · obtain ⟨h1, h2, w, h3, h4⟩ := r.mo b v e
    have hb : b ≠ p := fun q => by rw [q, upd_same] at h2; cases h2
    rw [upd_ne hb] at h2
    exact ⟨h1, h2, w, h3, h4⟩
end

abbrev DSt := List (Option D)
structure Rs (K : PySem.W.Frag) (G : Hp) (r : DSt) (s : L2.St) : Prop where
  len : r.length = s.length
  at_ : ∀ (i : Nat) (d : D), r[i]? = some (some d) → ∃ v, s[i]? = some (some v) ∧ Rp K G d v
section
variable {K : PySem.W.Frag} {G G' : Hp} {r : DSt} {s : L2.St}
theorem Rs.mono (e : Same G G') (h : Rs K G r s) : Rs K G' r s := ⟨h.len, fun i d q => by
  obtain ⟨v, h1, h2⟩ := h.at_ i d q
  exact ⟨v, h1, h2.mono e⟩⟩
end
end DL

namespace DL
open PySem PySem.Spec PyProof.Rows L2

abbrev DTE := DSt → M → (D → M → Prop) → Prop
abbrev DTT := DSt → M → (Bool → M → Prop) → Prop
abbrev DTA := DSt → M → (List D → M → Prop) → Prop
structure XD where
  C : Addr
  fs : List (Str × D)
abbrev DWX := XD → DSt → M → Prop
def RpX (K : PySem.W.Frag) (G : Hp) (d : Option Addr) (fs : List (Str × D)) : Prop := (d = none ∧ fs = []) ∨ ∃ dd fv, d = some dd ∧ G dd = some (.xd fv) ∧ Rpf K G fs fv
theorem RpX.mono {K : PySem.W.Frag} {G G' : Hp} {d : Option Addr} {fs : List (Str × D)} (e : Same G G') (h : RpX K G d fs) : RpX K G' d fs := by
  rcases h with h | ⟨dd, fv, h1, h2, h3⟩
  · exact .inl h
  · exact .inr ⟨dd, fv, h1, e _ _ h2, h3.mono e⟩
def Lx (K : PySem.W.Frag) (W : WX) (WD : DWX) (G F : Hp) : Prop :=
  ∀ (G' H' : Hp) (m' : M) (r' : DSt) (s' : L2.St) (C : Addr) (fs : List (Str × D)) (d : Option Addr), Same G G' → Rep K G' H' F m' → Rs K G' r' s' → RpX K G' d fs → WD ⟨C, fs⟩ r' m' → W (.ref C) d s' H'
theorem Lx.mono {K : PySem.W.Frag} {W : WX} {WD : DWX} {G G' F : Hp} (e : Same G G') (h : Lx K W WD G F) : Lx K W WD G' F := fun G2 H2 m2 r2 s2 C fs d e2 => h G2 H2 m2 r2 s2 C fs d (e.trans e2)
def Kv (K : PySem.W.Frag) (G F : Hp) (QD : D → M → Prop) (Q : VK) : Prop := ∀ (G' H' : Hp) (m' : M) (d : D) (v : V), Same G G' → Rep K G' H' F m' → Rp K G' d v → QD d m' → Q v H'
theorem Kv.mono {K : PySem.W.Frag} {G G' F : Hp} {QD : D → M → Prop} {Q : VK} (e : Same G G') (h : Kv K G F QD Q) : Kv K G' F QD Q := fun G2 H2 m2 d v e2 => h G2 H2 m2 d v (e.trans e2)
structure Sx (K : PySem.W.Frag) (W : WX) (WD : DWX) (G H F : Hp) (r : DSt) (s : L2.St) (m : M) : Prop where
  rep : Rep K G H F m
  rs : Rs K G r s
  lx : Lx K W WD G F
section
variable {X : Cx} {e : Expr}
theorem PE.imp {t t' : TE} (h : PE X e t) (i : ∀ σ H Q, t' σ H Q → t σ H Q) : PE X e t' := ⟨fun pins s σ H Q I q => h.run pins s σ H Q I (i σ H Q q)⟩
theorem PT.imp {t t' : TT} (h : PT X e t) (i : ∀ σ H Q, t' σ H Q → t σ H Q) : PT X e t' := ⟨fun pins s σ H Q I q => h.run pins s σ H Q I (i σ H Q q)⟩
theorem PW.imp {t t' : TT} (h : PW X e t) (i : ∀ σ H Q, t' σ H Q → t σ H Q) : PW X e t' := ⟨fun wh pins s σ H Q I q => h.run wh pins s σ H Q I (i σ H Q q)⟩
theorem PA.imp {es : List Expr} {t t' : TA} (h : PA X es t) (i : ∀ σ H Q, t' σ H Q → t σ H Q) : PA X es t' := ⟨fun pos pins s σ H Q I q => h.run pos pins s σ H Q I (i σ H Q q)⟩
theorem PO.imp {e : Option Expr} {t t' : TO} (h : PO X e t) (i : ∀ σ H Q, t' σ H Q → t σ H Q) : PO X e t' := ⟨fun pins s σ H Q I q => h.run pins s σ H Q I (i σ H Q q)⟩
end

end DL

namespace DL
open PySem PySem.Spec PyProof.Rows L2

abbrev DRC := List D → M → (D → M → Prop) → Prop
end DL

namespace DL
open PySem PySem.Spec PyProof.Rows L2

structure DEnds where
  nx : DSt → M → Prop
  rt : D → M → Prop
  bk : DSt → M → Prop := fun _ _ => False
  ct : DSt → M → Prop := fun _ _ => False
abbrev DTS := DEnds → DSt → M → Prop
def Ks (K : PySem.W.Frag) (G F : Hp) (QD : DSt → M → Prop) (Q : L2.St → Hp → Prop) : Prop := ∀ (G' H' : Hp) (m' : M) (r' : DSt) (s' : L2.St), Same G G' → Rep K G' H' F m' → Rs K G' r' s' → QD r' m' → Q s' H'
theorem Ks.mono {K : PySem.W.Frag} {G G' F : Hp} {QD : DSt → M → Prop} {Q : L2.St → Hp → Prop} (e : Same G G') (h : Ks K G F QD Q) : Ks K G' F QD Q := fun G2 H2 m2 r2 s2 e2 => h G2 H2 m2 r2 s2 (e.trans e2)
structure Lk (K : PySem.W.Frag) (G F : Hp) (DD : DEnds) (E : Ends) : Prop where
  nx : Ks K G F DD.nx E.nx
  rt : Kv K G F DD.rt E.rt
  bk : Ks K G F DD.bk E.bk
  ct : Ks K G F DD.ct E.ct
theorem Lk.mono {K : PySem.W.Frag} {G G' F : Hp} {DD : DEnds} {E : Ends} (e : Same G G') (h : Lk K G F DD E) : Lk K G' F DD E := ⟨h.nx.mono e, h.rt.mono e, h.bk.mono e, h.ct.mono e⟩
theorem PS.imp {X : Cx} {st : Stmt} {t t' : TS} (h : PS X st t) (i : ∀ E σ H, t' E σ H → t E σ H) : PS X st t' := ⟨fun pins s σ H D I q => h.run pins s σ H D I (i D σ H q)⟩
theorem PSs.imp {X : Cx} {st : List Stmt} {t t' : TS} (h : PSs X st t) (i : ∀ E σ H, t' E σ H → t E σ H) : PSs X st t' := ⟨fun pins s σ H D I q => h.run pins s σ H D I (i D σ H q)⟩
theorem Sx.to {K : PySem.W.Frag} {W : WX} {WD : DWX} {G G' H H' F : Hp} {r r' : DSt} {s s' : L2.St} {m m' : M} (x : Sx K W WD G H F r s m) (e : Same G G') (h : Rep K G' H' F m') (q : Rs K G' r' s') : Sx K W WD G' H' F r' s' m' := ⟨h, q, x.lx.mono e⟩
abbrev DTG := D → DSt → M → (DSt → M → Prop) → Prop
theorem PG.imp {X : Cx} {tg : Expr} {t t' : TG} (h : PG X tg t) (i : ∀ v σ H Q, t' v σ H Q → t v σ H Q) : PG X tg t' := ⟨fun pins s σ H v u Q I r q => h.run pins s σ H v u Q I r (i v σ H Q q)⟩
theorem PGs.imp {X : Cx} {tg : List Expr} {t t' : TGs} (h : PGs X tg t) (i : ∀ v σ H Q, t' v σ H Q → t v σ H Q) : PGs X tg t' := ⟨fun pins s σ H v u Q I r q => h.run pins s σ H v u Q I r (i v σ H Q q)⟩
end DL

namespace DL
open PySem PySem.Spec PyProof.Rows L2

abbrev DTI := DSt → M → (List D → M → Prop) → Prop
theorem PI.imp {X : Cx} {tg iter : Expr} {t t' : TI} (h : PI X tg iter t) (i : ∀ σ H R, t' σ H R → t σ H R) : PI X tg iter t' := ⟨fun pins s σ H R I q => h.run pins s σ H R I (i σ H R q)⟩
inductive CT where
  | one (i : Nat)
  | tup (js : List Nat)
def CT.in (vs : List Nat) : CT → Prop
  | .one i => i ∈ vs
  | .tup js => ∀ j ∈ js, j ∈ vs
section
variable {X : Cx} {W : WX} {WD : DWX}
theorem PTs.imp {ifs : List Expr} {t t' : TT} (h : PTs X ifs t) (i : ∀ σ H Q, t' σ H Q → t σ H Q) : PTs X ifs t' := ⟨fun pins s σ H Q I q => h.run pins s σ H Q I (i σ H Q q)⟩
end
end DL

namespace DL
open PySem PySem.Spec PyProof.Rows L2

abbrev DSp := List D → M → (D → M → Prop) → (XD → M → Prop) → Prop
end DL

namespace DL
open PySem PySem.Spec PyProof.Rows L2

abbrev DRM := D → List D → M → (D → M → Prop) → Prop
end DL

namespace DL
open PySem PySem.Spec PyProof.Rows L2
open He (ga ma eqO eqO_ok ba)

abbrev Fr0 := PySem.W.Frag
structure DefA where
  ad : Fr0 → Addr
  name : Str
  qual : Str
  params : Arguments
  body : List Stmt
  scope : Scope
  dfl : List He.Dv := []
  kwd : List (Str × He.Dv) := []
def fnAt (K : Fr0) (a : Addr) : He.FnW := match K.lookup a with
  | some ⟨_, _, .func u, _⟩ => some (u.name, u.qualname, u.params, u.body, u.scope, u.globals, u.closure, u.builtins)
  | _ => none
def DefA.told (d : DefA) : He.FnW := some (d.name, d.qual, d.params, .stmts d.body, d.scope, mainGlobals, [], builtinsNs)
def DefA.vs (K : Fr0) (d : DefA) : List V := d.dfl.map (He.Dv.v K)
def DefA.ks (K : Fr0) (d : DefA) : List (Str × V) := d.kwd.map fun z => (z.1, z.2.v K)
def DefA.good (K : Fr0) (d : DefA) : Bool := PySem.W.keepIn K (.ref (d.ad K)) && (match K.lookup (d.ad K) with
  | some ⟨_, _, .func u, _⟩ => PySem.W.codeIn K u.code d.qual && (He.dflB K u.defaults (d.vs K) && He.kwdB K u.kwdefaults (d.ks K))
  | _ => false)
abbrev AlA : Type := Bool × List He.FnW
def obsA (fa : List (Fr0 → Bool)) (fn : List DefA) (K : Fr0) : AlA := (fa.all (fun f => f K) && fn.all (fun d => d.good K), fn.map fun d => fnAt K (d.ad K))
def valA (fn : List DefA) : AlA := (true, fn.map DefA.told)
def Says (fa : List (Fr0 → Bool)) (fn : List DefA) (K : Fr0) : Prop := obsA fa fn K = valA fn
def isTab (o : Obj) : Bool := match o with
  | ⟨.none, _, .fields vs, _⟩ => vs.isEmpty
  | _ => false
def frT (g : Addr → Option Obj) (as : List Addr) : Fr0 := (He.frG g as).filter fun p => !isTab p.2
theorem frG_mem {g : Addr → Option Obj} {as : List Addr} {p : Addr × Obj} (h : p ∈ He.frG g as) : g p.1 = some p.2 := by
  unfold He.frG at h
  obtain ⟨a, _, e⟩ := List.mem_filterMap.mp h
  cases q : g a with
  | none => rw [q] at e; cases e
  | some o => rw [q] at e; cases e; exact q
theorem frT_in {as : List Addr} {h : Heap} : (frT h.get? as).In h := fun a o e => by
  have m : (a, o) ∈ frT h.get? as := PySem.W.mem_of_lookupK e
  exact frG_mem (List.mem_filter.mp m).1
def emptyTab (o : Option Obj) : Bool := match o with
  | some ⟨.none, none, .fields vs, sl⟩ => vs.isEmpty && sl.isEmpty
  | _ => false
def tabsB (g : Addr → Option Obj) (K : Fr0) : Bool := (tbls3 K).all fun x => emptyTab (g x.2.1) && ((K.lookup x.2.1).isNone && (PySem.W.codeHdIn K x.1 x.2.1 && (tbls3 K).all fun y => !(x.2.1 == y.2.1) || decide (x.2.2 = y.2.2)))
structure TabAt (K : Fr0) (h : Heap) : Prop where
  emp : ∀ x ∈ tbls3 K, h.get? x.2.1 = some { cls := .none, data := .fields #[] }
  out : ∀ x ∈ tbls3 K, K.lookup x.2.1 = none
  hd : ∀ x ∈ tbls3 K, PySem.W.CodeHd h x.1 x.2.1
  one : ∀ x ∈ tbls3 K, ∀ y ∈ tbls3 K, x.2.1 = y.2.1 → x.2.2 = y.2.2
theorem tabsB_ok {K : Fr0} {h : Heap} (X : K.In h) (e : tabsB h.get? K = true) : TabAt K h := by
  have all := List.all_eq_true.mp e
  refine ⟨fun x hx => ?_, fun x hx => ?_, fun x hx => ?_, fun x hx y hy => ?_⟩
  · have e1 := (ba (all x hx)).1
    unfold emptyTab at e1
    split at e1
    · rename_i vs sl hq
      obtain ⟨e2, e3⟩ := ba e1
      rw [hq]
      have h1 : vs = #[] := Array.isEmpty_iff.mp e2
      have h2 : sl = #[] := Array.isEmpty_iff.mp e3
      subst h1; subst h2
      rfl
    · cases e1
  · exact Option.isNone_iff_eq_none.mp (ba (ba (all x hx)).2).1
  · exact PySem.W.codeHd_of_K X (ba (ba (ba (all x hx)).2).2).1
  · intro q
    have e1 := List.all_eq_true.mp (ba (ba (ba (all x hx)).2).2).2 y hy
    rw [Bool.or_eq_true, Bool.not_eq_true'] at e1
    rcases e1 with e1 | e1
    · rw [beq_eq_false_iff_ne] at e1
      exact absurd q e1
    · exact of_decide_eq_true e1
theorem TabAt.keeps {K : Fr0} {h h' : Heap} (t : TabAt K h) (k : ∀ b o, h.get? b = some o → h'.get? b = some o) : TabAt K h' := ⟨fun x hx => k _ _ (t.emp x hx), t.out, fun x hx => (t.hd x hx).keeps k, t.one⟩
def pad (K : Fr0) (C f : Str) : Addr := ma K (ga K C) f
end DL

namespace DL
open PySem PySem.Spec PyProof.Rows L2
open He (ga ma eqO eqO_ok ba)
def spX (C : Addr) (fs : List Str) : Sp := fun vs H Q _ => ∃ (a : Addr) (ws : List V), vs = .ref a :: ws ∧ ws.length = fs.length ∧ H a = some (exo a C none) ∧
  ∀ dx, H dx = none → dx ≠ a → Q .non (upd (upd H dx (exd dx (fs.zip ws).reverse)) a (exo a C (some dx)))
section
variable {X : Cx} {W : WX} {WD : DWX} {x n : Str} {c : Addr} {i : Nat} {body suite : List Stmt} {b₀ : Stmt} {np pos pos' : Pos} {tb : DWX → DTS}
abbrev DTX := Addr → Addr → Option Addr → DTS
end
def excB (C : Str) (K : Fr0) : Bool := PySem.W.excIn K (ga K C) [.type "ValueError", .type "Exception", .type "BaseException", .type "object"] "ValueError.__new__" && (PySem.W.keepIn K (.ref (ga K C)) && (decide (PySem.W.subIn K (.ref (ga K C)) (.type "BaseException") = some true) && decide (PySem.W.typeIn K (.ref (ga K C)) = some (.type "type"))))
def oexIn (K : PySem.W.Frag) (C : Addr) : Bool := match K.lookup C with
  | some ⟨.type "type", _, .cls cd, sl⟩ => (match cd.mro, sl.toList with
    | .ref C' :: bm, [_, _, _, _, some (.builtin n), _] => C' == C && (n == "ValueError.__new__" && (!cd.hasDel && (cd.hasDict && PySem.HandSPX.refsVE bm)))
    | _, _ => false)
  | _ => false
def oexB (C : Str) (K : Fr0) : Bool := oexIn K (ga K C) && (eqO (PySem.W.findIn K (.ref (ga K C)) "__setattr__") (some (some (.builtin "object.__setattr__"))) && (PySem.W.keepIn K (.ref (ga K C)) && (decide (PySem.W.subIn K (.ref (ga K C)) (.type "BaseException") = some true) && (decide (PySem.W.typeIn K (.ref (ga K C)) = some (.type "type")) &&
  (eqO (PySem.W.findIn K (.ref (ga K C)) "__init__") (some (some (.ref (pad K C "__init__")))) && decide (PySem.W.typeIn K (.ref (pad K C "__init__")) = some (.type "function")))))))
def nofB (C f : Str) (K : Fr0) : Bool := decide (PySem.W.findIn K (.ref (ga K C)) f = some none)
def xfcB (C : Str) (K : Fr0) : Bool := xfB K (ga K C)
end DL

namespace DL
open PySem PySem.Spec PyProof.Rows L2
open He (ga ma eqO eqO_ok ba)
abbrev DTR := DSt → M → (Int → Int → M → Prop) → Prop
theorem PRg.imp {X : Cx} {e : Expr} {t t' : L2.St → Hp → (Int → Int → Hp → Prop) → Prop} (h : PRg X e t) (i : ∀ σ H R, t' σ H R → t σ H R) : PRg X e t' := fun pins s σ H R I q => h pins s σ H R I (i σ H R q)
end DL

namespace DL
open PySem PySem.Spec PyProof.Rows L2
open He (ga ma eqO eqO_ok ba)
section
variable {X : Cx} {W : WX} {WD : DWX} {k n : Nat} {f : Addr} {fd : FuncData} {ps ks : List Str} {sp : DSp} {x : Str} {p pos kpos : Pos} {e : Expr} {es : List Expr} {kws : List Keyword} {t tk : DTA} {te : DTE} {nm : Option Str} {g : List Value → List Value → List Value} {gV : List V → List V → List V}
theorem PK.imp {t t' : TA} (h : PK X kws t) (i : ∀ σ H Q, t' σ H Q → t σ H Q) : PK X kws t' := ⟨fun pos pins s σ H Q I q => h.run pos pins s σ H Q I (i σ H Q q)⟩
end
end DL

namespace DL
open PySem PySem.Spec PyProof.Rows L2
abbrev Cls1 := Value × Option Nat × (Addr → Value → Option Addr → TS)
abbrev DCls := Value × Option Nat × DTX
end DL

namespace DL
open PySem PySem.Spec PyProof.Rows L2
open He (ga ba)
def xisB (C : Str) (K : Fr0) : Bool := decide (PySem.W.findIn K (.ref (ga K C)) "__getattribute__" = some (some (.builtin "BaseException.__getattribute__"))) && (decide (PySem.W.findIn K (.ref (ga K C)) "__getattr__" = some none) && (decide (PySem.W.subIn K (.ref (ga K C)) (.type "BaseException") = some true) && (PySem.W.hasDictIn K (ga K C) &&
  (decide (PySem.W.findIn K (.ref (ga K C)) "__class__" = some (some (.builtin "object.__class__"))) && (decide (PySem.W.specialIn K (.builtin "object.__class__") "__get__" = some (some (.builtin "getset_descriptor.__get__"))) && (decide (PySem.W.takesIn K (.builtin "object.__class__") = some true) && decide (PySem.W.mroIn K (ga K C) (.type "object") = some true)))))))
def kitTB (C : Str) (T : String) (b : Bool) (K : Fr0) : Bool := decide (PySem.W.kitOne K (.ref (ga K C)) (.type T) = some b)
def kitOB (C C' : Str) (b : Bool) (K : Fr0) : Bool := decide (PySem.W.kitOne K (.ref (ga K C)) (.ref (ga K C')) = some b)
end DL

namespace DL
open PySem PySem.Spec PyProof.Rows L2
def MSub (a b : M) : Prop := ∀ x o, a x = some o → b x = some o
theorem MSub.trans {a b c : M} (h : MSub a b) (k : MSub b c) : MSub a c := fun x o e => k x o (h x o e)
section
variable {κ : Type} [DecidableEq κ]
def valD (kvs : List (κ × D)) (k : κ) : Option D := (kvs.find? fun kv => decide (kv.1 = k)).map (·.2)
variable {K : PySem.W.Frag} {G : Hp}
theorem Rpk.length : ∀ {ds : List (κ × D)} {vs : List (κ × V)}, Rpk K G ds vs → ds.length = vs.length
  | _, _, .nil => rfl
  | _, _, .cons _ t => congrArg Nat.succ (Rpk.length t)
theorem Rpk.rep (k : κ) {d : D} {v : V} (q : Rp K G d v) : ∀ {ds : List (κ × D)} {vs : List (κ × V)}, Rpk K G ds vs → Rpk K G (ds.map fun kv => if kv.1 = k then (kv.1, d) else kv) (vs.map fun kv => if kv.1 = k then (kv.1, v) else kv)
  | _, _, .nil => .nil
  | _, _, .cons (k := j) r t => by
    rw [List.map_cons, List.map_cons]
    by_cases e : j = k
    · rw [if_pos e, if_pos e]
      exact .cons q (Rpk.rep k q t)
    · rw [if_neg e, if_neg e]
      exact .cons r (Rpk.rep k q t)
theorem Rpk.val (k : κ) : ∀ {ds : List (κ × D)} {vs : List (κ × V)}, Rpk K G ds vs → (valD ds k = none ∧ valV vs k = none) ∨ ∃ d v, valD ds k = some d ∧ valV vs k = some v ∧ Rp K G d v
  | _, _, .nil => .inl ⟨rfl, rfl⟩
  | _, _, .cons (k := j) (d := d) (v := v) r t => by
    by_cases e : j = k
    · refine .inr ⟨d, v, ?_, ?_, r⟩
      · simp [valD, e]
      · simp [valV, e]
    · rcases Rpk.val k t with ⟨h1, h2⟩ | ⟨d', v', h1, h2, h3⟩
      · refine .inl ⟨?_, ?_⟩
        · simp only [valD, List.find?_cons, decide_eq_false e]; exact h1
        · simp only [valV, List.find?_cons, decide_eq_false e]; exact h2
      · refine .inr ⟨d', v', ?_, ?_, h3⟩
        · simp only [valD, List.find?_cons, decide_eq_false e]; exact h1
        · simp only [valV, List.find?_cons, decide_eq_false e]; exact h2
end
end DL

namespace DL
open PySem PySem.Spec PyProof.Rows L2
open He (ga ma eqO eqO_ok ba)
def obsLG (as : List Addr) (fa : List (Fr0 → Bool)) (fn : List DefA) (g : Addr → Option Obj) : Bool × AlA := (tabsB g (frT g as), obsA fa fn (frT g as))
def hookL (as : List Addr) (fa : List (Fr0 → Bool)) (fn : List DefA) : PySem.W.Hook where
  α := Bool × AlA
  obs := fun s => obsLG as fa fn s.heap.get?
  val := fun _ => (true, valA fn)
  says := fun _ h => ∃ K : Fr0, K.In h ∧ Says fa fn K ∧ TabAt K h
  of := fun _ _ e => ⟨_, frT_in, (Prod.mk.inj e).2, tabsB_ok frT_in (Prod.mk.inj e).1⟩
  keeps := fun _ _ _ ⟨K, hK, c, t⟩ k => ⟨K, PySem.W.Frag.In.keeps hK k, c, t.keeps k⟩
theorem obsLG_eq {as : List Addr} {fa : List (Fr0 → Bool)} {fn : List DefA} {g : Addr → Option Obj} {s : Shared} (h : ∀ a, g a = s.heap.get? a) : obsLG as fa fn g = (hookL as fa fn).obs s := by
  have e : g = s.heap.get? := funext h
  subst e
  rfl
theorem obsLG_join {as : List Addr} {fa : List (Fr0 → Bool)} {fn : List DefA} {g : Addr → Option Obj} (h1 : obsLG as fa [] g = (true, valA [])) (h2 : obsLG as [] fn g = (true, valA fn)) : obsLG as fa fn g = (true, valA fn) := by
  have e1 : tabsB g (frT g as) = true := congrArg Prod.fst h1
  have e2 : (fa.all (fun f => f (frT g as)) && true) = true := congrArg (fun x => x.2.1) h1
  have e3 : (true && fn.all (fun d => d.good (frT g as))) = true := congrArg (fun x => x.2.1) h2
  have e4 : fn.map (fun d => fnAt (frT g as) (d.ad (frT g as))) = fn.map DefA.told := congrArg (fun x => x.2.2) h2
  rw [Bool.and_true] at e2
  rw [Bool.true_and] at e3
  unfold obsLG obsA valA
  rw [e1, e2, e3, e4]
  rfl
open PySem.W HandSHeadRun in
open PySem.W HandSHeadRun in
theorem run_join {r : OpenRow} {q : Program} {as : List Addr} {fa : List (Fr0 → Bool)} {fn : List DefA} {M : Nat} {loose : List Str} {w : World}
    (a : ∀ os : OsState, (endF (stepQ (denQ tabQ) r.prog w) M r.prog w os).map (fun s => (looksF r.prog (boot_heap w.params) s.abs, seenQ q loose (importedModules r.prog.main.body) (fun s => xlAt q [] s && recOk r.toRowW.records s) s.abs)) = some (true, openGood q loose))
    (b : ∀ os : OsState, (endF (stepQ (denQ tabQ) r.prog w) M r.prog w os).map (fun s => obsLG as fa [] (HandSHeadRun.getT s)) = some (true, valA []))
    (c : ∀ os : OsState, (endF (stepQ (denQ tabQ) r.prog w) M r.prog w os).map (fun s => obsLG as [] fn (HandSHeadRun.getT s)) = some (true, valA fn)) : RunEq r q (hookL as fa fn) (fun s => obsLG as fa fn (HandSHeadRun.getT s)) M loose w := fun os => by
  have a := a os
  have b := b os
  have c := c os
  generalize endF (stepQ (denQ tabQ) r.prog w) M r.prog w os = o at a b c ⊢
  cases o with
  | none => cases a
  | some s =>
    have e1 := Option.some.inj a
    have e2 := Option.some.inj b
    have e3 := Option.some.inj c
    have h1 := congrArg Prod.fst e1
    have h2 := congrArg Prod.snd e1
    show some (_, _, _) = some (true, openGood q loose, (true, valA fn))
    exact congrArg some (Prod.ext h1 (Prod.ext h2 (obsLG_join e2 e3)))
end DL

namespace DL
open PySem PySem.Spec PyProof.Rows L2
section
variable {K : PySem.W.Frag} {G G' : Hp}
def NoF (G G' : Hp) : Prop := ∀ b o, G b = some o → (∀ o' kv, o ≠ .frz o' (.dK kv)) → G' b = some o
theorem NoF.seq (e : NoF G G') {a : Addr} {xs : List V} (h : SqL K G a xs) : SqL K G' a xs := by
  rcases h with (h | ⟨o, h⟩) | h
  · exact .inl (.inl (e _ _ h (fun _ _ z => by cases z)))
  · exact .inl (.inr ⟨o, e _ _ h (fun _ _ z => by cases z)⟩)
  · exact .inr h
end
end DL

namespace PySem
end PySem
namespace ZL
end ZL
namespace DL
open PySem PySem.Spec PyProof.Rows L2 LamX
structure CF where
  name : Str
  qual : Str
  params : Arguments
  body : FuncBody
  scope : Scope
  cl : List (Str × Addr)
  c : Addr
abbrev CF.fd (F : CF) (doc pm ctv : Value) : FuncData := { name := F.name, qualname := F.qual, params := F.params, body := F.body, scope := F.scope, globals := mainGlobals, closure := F.cl, defaults := .none, kwdefaults := .none, doc, pyModule := pm, annotations := none, code := .ref F.c, closureTuple := ctv, builtins := builtinsNs }
abbrev CF.ob (F : CF) (doc pm ctv : Value) (od : Option Addr) (sl : Array (Option Value)) : Obj := ⟨.type "function", od, .func (F.fd doc pm ctv), sl⟩
structure FV where
  is : D → Prop
  sp : D → DSp
structure FvOk (P : Program) (w : World) (K : Fr0) (mg : Str → Option Value) (base : Heap) (k : Nat) (fv : FV) : Prop where
  at_ : ∀ x, fv.is x → ∀ (G : Hp) (v : V), Rp K G x v → ∃ a, v = .ref a ∧ ∀ h : Heap, K.In h → (∀ b o, base.get? b = some o → h.get? b = some o) → PySem.W.FnAt a h
  run : ∀ x, fv.is x → ∀ (A : Around) (outer : List Env) (s : Shared) (H : Hp) (us : List Value) (vs : List V) (a : Addr) (G F : Hp) (m : M) (ds : List D) (QD : D → M → Prop) (Q : VK), Room k A → Env0 P w K mg base A outer s H → Rep K G H F m → Rp K G x (.ref a) → Rps K G ds vs → Vals vs us →
    fv.sp x ds m QD (fun _ _ => False) → Kv K G F QD Q → codeAny (model P w) A (.call (.ref a) ⟨us, []⟩) (CR (L2.CX P w) outer P w H s Q (fun _ _ _ => False)) s
section
variable {P : Program} {w : World} {K : Fr0} {mg : Str → Option Value} {base : Heap} {j k : Nat} {fv gv : FV}
theorem FvOk.mono (o : FvOk P w K mg base j fv) (h : j ≤ k) : FvOk P w K mg base k fv := ⟨o.at_, fun x hx A outer s H us vs a G F m ds QD Q hr => o.run x hx A outer s H us vs a G F m ds QD Q (hr.mono h)⟩
end
end DL

namespace DL
open PySem PySem.Spec PyProof.Rows L2
open He (ga ma eqO eqO_ok ba)
def xisA (cs : List Str) (K : Fr0) : Bool := cs.all fun c => xisB c K
def kitA (cs ds : List Str) (K : Fr0) : Bool := cs.zipIdx.all fun x => ds.zipIdx.all fun y => kitOB x.1 y.1 (x.2 == y.2) K
def kitUp (cs : List Str) (c' : Str) (b : Bool) (K : Fr0) : Bool := cs.all fun c => kitOB c c' b K
def kitUpT (cs : List Str) (T : String) (b : Bool) (K : Fr0) : Bool := cs.all fun c => kitTB c T b K
end DL

namespace LW
open PySem PySem.Spec PyProof.Rows L2 DL
open He (ga ma)
def xNames : List Str := ["BadName", "WrongCount", "OutOfRange", "Repeated", "RepeatedArrow", "UnknownKind", "UnknownArrow", "BadLine", "BadCost", "BadRelease", "NoArrow", "GapTooShort", "UnknownJob", "EmptySlice", "Overlap", "TooEarly", "WrongAmount", "BadRow", "TooLong", "Falling", "BadCalendar", "Overloaded", "LateSet", "Clash", "NotOpen", "Refused", "Present", "Absent", "NothingToUndo"]
def xNames1 : List Str := xNames ++ (["DuesError"] : List Str)
structure PS where
  ns : List Int
  v : Int
  k : Int
def pm (a b : Addr) (s : PS) (m : M) : M := mset (mset m b (.lst (s.ns.map D.int))) a (.lst [.ref b, .int s.v, .int s.k])
end LW

namespace LW
open PySem PySem.Spec PyProof.Rows L2 DL
open He (ga ma)
def top (i : Nat) : Stmt := PySem.Challenge.pw_walkdues_k59_errors_made_by_hand.main.body.getD i (.Pass ⟨0, 0, 0, 0⟩)
abbrev s_BadName_init : Stmt := inClass (top 2) 0
abbrev s_WrongCount_init : Stmt := inClass (top 3) 0
abbrev s_OutOfRange_init : Stmt := inClass (top 4) 0
abbrev s_Repeated_init : Stmt := inClass (top 5) 0
abbrev s_RepeatedArrow_init : Stmt := inClass (top 6) 0
abbrev s_UnknownKind_init : Stmt := inClass (top 7) 0
abbrev s_UnknownArrow_init : Stmt := inClass (top 8) 0
abbrev s_BadLine_init : Stmt := inClass (top 9) 0
abbrev s_BadCost_init : Stmt := inClass (top 10) 0
abbrev s_BadRelease_init : Stmt := inClass (top 11) 0
abbrev s_NoArrow_init : Stmt := inClass (top 12) 0
abbrev s_GapTooShort_init : Stmt := inClass (top 13) 0
abbrev s_UnknownJob_init : Stmt := inClass (top 14) 0
abbrev s_EmptySlice_init : Stmt := inClass (top 15) 0
abbrev s_Overlap_init : Stmt := inClass (top 16) 0
abbrev s_TooEarly_init : Stmt := inClass (top 17) 0
abbrev s_WrongAmount_init : Stmt := inClass (top 18) 0
abbrev s_TooLong_init : Stmt := inClass (top 20) 0
abbrev s_Falling_init : Stmt := inClass (top 21) 0
abbrev s_BadCalendar_init : Stmt := inClass (top 22) 0
abbrev s_Overloaded_init : Stmt := inClass (top 23) 0
abbrev s_LateSet_init : Stmt := inClass (top 24) 0
abbrev s_Clash_init : Stmt := inClass (top 25) 0
abbrev s_NotOpen_init : Stmt := inClass (top 26) 0
abbrev s_Refused_init : Stmt := inClass (top 27) 0
abbrev s_Present_init : Stmt := inClass (top 28) 0
abbrev s_Absent_init : Stmt := inClass (top 29) 0
abbrev s_law_pool : Stmt := top 32
abbrev s_law_draw : Stmt := top 33
abbrev s_law_simple : Stmt := top 34
abbrev s_law_value : Stmt := top 35
abbrev s_law_marks : Stmt := top 36
abbrev s_law_own : Stmt := top 37
abbrev s_law_same : Stmt := top 38
abbrev s_law_first_ones : Stmt := top 39
abbrev s_law_second_ones : Stmt := top 40
abbrev s_law_third_ones : Stmt := top 41
abbrev s_law_fourth_ones : Stmt := top 42
abbrev s_law : Stmt := top 43
def da_BadName_init : DefA := ⟨fun K => ma K (ga K "BadName") "__init__", "__init__", "BadName.__init__", defArgs s_BadName_init, defBody s_BadName_init, defScope s_BadName_init, [], []⟩
def da_WrongCount_init : DefA := ⟨fun K => ma K (ga K "WrongCount") "__init__", "__init__", "WrongCount.__init__", defArgs s_WrongCount_init, defBody s_WrongCount_init, defScope s_WrongCount_init, [], []⟩
def da_OutOfRange_init : DefA := ⟨fun K => ma K (ga K "OutOfRange") "__init__", "__init__", "OutOfRange.__init__", defArgs s_OutOfRange_init, defBody s_OutOfRange_init, defScope s_OutOfRange_init, [], []⟩
def da_Repeated_init : DefA := ⟨fun K => ma K (ga K "Repeated") "__init__", "__init__", "Repeated.__init__", defArgs s_Repeated_init, defBody s_Repeated_init, defScope s_Repeated_init, [], []⟩
def da_RepeatedArrow_init : DefA := ⟨fun K => ma K (ga K "RepeatedArrow") "__init__", "__init__", "RepeatedArrow.__init__", defArgs s_RepeatedArrow_init, defBody s_RepeatedArrow_init, defScope s_RepeatedArrow_init, [], []⟩
def da_UnknownKind_init : DefA := ⟨fun K => ma K (ga K "UnknownKind") "__init__", "__init__", "UnknownKind.__init__", defArgs s_UnknownKind_init, defBody s_UnknownKind_init, defScope s_UnknownKind_init, [], []⟩
def da_UnknownArrow_init : DefA := ⟨fun K => ma K (ga K "UnknownArrow") "__init__", "__init__", "UnknownArrow.__init__", defArgs s_UnknownArrow_init, defBody s_UnknownArrow_init, defScope s_UnknownArrow_init, [], []⟩
def da_BadLine_init : DefA := ⟨fun K => ma K (ga K "BadLine") "__init__", "__init__", "BadLine.__init__", defArgs s_BadLine_init, defBody s_BadLine_init, defScope s_BadLine_init, [], []⟩
def da_BadCost_init : DefA := ⟨fun K => ma K (ga K "BadCost") "__init__", "__init__", "BadCost.__init__", defArgs s_BadCost_init, defBody s_BadCost_init, defScope s_BadCost_init, [], []⟩
def da_BadRelease_init : DefA := ⟨fun K => ma K (ga K "BadRelease") "__init__", "__init__", "BadRelease.__init__", defArgs s_BadRelease_init, defBody s_BadRelease_init, defScope s_BadRelease_init, [], []⟩
def da_NoArrow_init : DefA := ⟨fun K => ma K (ga K "NoArrow") "__init__", "__init__", "NoArrow.__init__", defArgs s_NoArrow_init, defBody s_NoArrow_init, defScope s_NoArrow_init, [], []⟩
def da_GapTooShort_init : DefA := ⟨fun K => ma K (ga K "GapTooShort") "__init__", "__init__", "GapTooShort.__init__", defArgs s_GapTooShort_init, defBody s_GapTooShort_init, defScope s_GapTooShort_init, [], []⟩
def da_UnknownJob_init : DefA := ⟨fun K => ma K (ga K "UnknownJob") "__init__", "__init__", "UnknownJob.__init__", defArgs s_UnknownJob_init, defBody s_UnknownJob_init, defScope s_UnknownJob_init, [], []⟩
def da_EmptySlice_init : DefA := ⟨fun K => ma K (ga K "EmptySlice") "__init__", "__init__", "EmptySlice.__init__", defArgs s_EmptySlice_init, defBody s_EmptySlice_init, defScope s_EmptySlice_init, [], []⟩
def da_Overlap_init : DefA := ⟨fun K => ma K (ga K "Overlap") "__init__", "__init__", "Overlap.__init__", defArgs s_Overlap_init, defBody s_Overlap_init, defScope s_Overlap_init, [], []⟩
def da_TooEarly_init : DefA := ⟨fun K => ma K (ga K "TooEarly") "__init__", "__init__", "TooEarly.__init__", defArgs s_TooEarly_init, defBody s_TooEarly_init, defScope s_TooEarly_init, [], []⟩
def da_WrongAmount_init : DefA := ⟨fun K => ma K (ga K "WrongAmount") "__init__", "__init__", "WrongAmount.__init__", defArgs s_WrongAmount_init, defBody s_WrongAmount_init, defScope s_WrongAmount_init, [], []⟩
def da_TooLong_init : DefA := ⟨fun K => ma K (ga K "TooLong") "__init__", "__init__", "TooLong.__init__", defArgs s_TooLong_init, defBody s_TooLong_init, defScope s_TooLong_init, [], []⟩
def da_Falling_init : DefA := ⟨fun K => ma K (ga K "Falling") "__init__", "__init__", "Falling.__init__", defArgs s_Falling_init, defBody s_Falling_init, defScope s_Falling_init, [], []⟩
def da_BadCalendar_init : DefA := ⟨fun K => ma K (ga K "BadCalendar") "__init__", "__init__", "BadCalendar.__init__", defArgs s_BadCalendar_init, defBody s_BadCalendar_init, defScope s_BadCalendar_init, [], []⟩
def da_Overloaded_init : DefA := ⟨fun K => ma K (ga K "Overloaded") "__init__", "__init__", "Overloaded.__init__", defArgs s_Overloaded_init, defBody s_Overloaded_init, defScope s_Overloaded_init, [], []⟩
def da_LateSet_init : DefA := ⟨fun K => ma K (ga K "LateSet") "__init__", "__init__", "LateSet.__init__", defArgs s_LateSet_init, defBody s_LateSet_init, defScope s_LateSet_init, [], []⟩
def da_Clash_init : DefA := ⟨fun K => ma K (ga K "Clash") "__init__", "__init__", "Clash.__init__", defArgs s_Clash_init, defBody s_Clash_init, defScope s_Clash_init, [], []⟩
def da_NotOpen_init : DefA := ⟨fun K => ma K (ga K "NotOpen") "__init__", "__init__", "NotOpen.__init__", defArgs s_NotOpen_init, defBody s_NotOpen_init, defScope s_NotOpen_init, [], []⟩
def da_Refused_init : DefA := ⟨fun K => ma K (ga K "Refused") "__init__", "__init__", "Refused.__init__", defArgs s_Refused_init, defBody s_Refused_init, defScope s_Refused_init, [], []⟩
def da_Present_init : DefA := ⟨fun K => ma K (ga K "Present") "__init__", "__init__", "Present.__init__", defArgs s_Present_init, defBody s_Present_init, defScope s_Present_init, [], []⟩
def da_Absent_init : DefA := ⟨fun K => ma K (ga K "Absent") "__init__", "__init__", "Absent.__init__", defArgs s_Absent_init, defBody s_Absent_init, defScope s_Absent_init, [], []⟩
def da_law_pool : DefA := ⟨fun K => ga K "_law_pool", "_law_pool", "_law_pool", defArgs s_law_pool, defBody s_law_pool, defScope s_law_pool, [], []⟩
def da_law_draw : DefA := ⟨fun K => ga K "_law_draw", "_law_draw", "_law_draw", defArgs s_law_draw, defBody s_law_draw, defScope s_law_draw, [], []⟩
def da_law_simple : DefA := ⟨fun K => ga K "_law_simple", "_law_simple", "_law_simple", defArgs s_law_simple, defBody s_law_simple, defScope s_law_simple, [], []⟩
def da_law_value : DefA := ⟨fun K => ga K "_law_value", "_law_value", "_law_value", defArgs s_law_value, defBody s_law_value, defScope s_law_value, [], []⟩
def da_law_marks : DefA := ⟨fun K => ga K "_law_marks", "_law_marks", "_law_marks", defArgs s_law_marks, defBody s_law_marks, defScope s_law_marks, [], []⟩
def da_law_own : DefA := ⟨fun K => ga K "_law_own", "_law_own", "_law_own", defArgs s_law_own, defBody s_law_own, defScope s_law_own, [], []⟩
def da_law_same : DefA := ⟨fun K => ga K "_law_same", "_law_same", "_law_same", defArgs s_law_same, defBody s_law_same, defScope s_law_same, [], []⟩
def da_law_first_ones : DefA := ⟨fun K => ga K "_law_first_ones", "_law_first_ones", "_law_first_ones", defArgs s_law_first_ones, defBody s_law_first_ones, defScope s_law_first_ones, [], []⟩
def da_law_second_ones : DefA := ⟨fun K => ga K "_law_second_ones", "_law_second_ones", "_law_second_ones", defArgs s_law_second_ones, defBody s_law_second_ones, defScope s_law_second_ones, [], []⟩
def da_law_third_ones : DefA := ⟨fun K => ga K "_law_third_ones", "_law_third_ones", "_law_third_ones", defArgs s_law_third_ones, defBody s_law_third_ones, defScope s_law_third_ones, [], []⟩
def da_law_fourth_ones : DefA := ⟨fun K => ga K "_law_fourth_ones", "_law_fourth_ones", "_law_fourth_ones", defArgs s_law_fourth_ones, defBody s_law_fourth_ones, defScope s_law_fourth_ones, [], []⟩
def da_law : DefA := ⟨fun K => ga K "law", "law", "law", defArgs s_law, defBody s_law, defScope s_law, [], []⟩
def fn : List DefA := [da_BadName_init, da_WrongCount_init, da_OutOfRange_init, da_Repeated_init, da_RepeatedArrow_init, da_UnknownKind_init, da_UnknownArrow_init, da_BadLine_init, da_BadCost_init, da_BadRelease_init, da_NoArrow_init, da_GapTooShort_init, da_UnknownJob_init, da_EmptySlice_init, da_Overlap_init, da_TooEarly_init, da_WrongAmount_init, da_TooLong_init, da_Falling_init, da_BadCalendar_init, da_Overloaded_init, da_LateSet_init, da_Clash_init, da_NotOpen_init, da_Refused_init, da_Present_init, da_Absent_init, da_law_pool, da_law_draw, da_law_simple, da_law_value, da_law_marks, da_law_own, da_law_same, da_law_first_ones, da_law_second_ones, da_law_third_ones, da_law_fourth_ones, da_law]
def fa : List (Fr0 → Bool) := [
  fun K => (He.Fa.glo "_law_pool").ok K,
  fun K => (He.Fa.glo "_law_draw").ok K,
  fun K => (He.Fa.glo "_law_simple").ok K,
  fun K => (He.Fa.glo "_law_value").ok K,
  fun K => (He.Fa.glo "_law_marks").ok K,
  fun K => (He.Fa.glo "_law_own").ok K,
  fun K => (He.Fa.glo "_law_same").ok K,
  fun K => (He.Fa.glo "_law_first_ones").ok K,
  fun K => (He.Fa.glo "_law_second_ones").ok K,
  fun K => (He.Fa.glo "_law_third_ones").ok K,
  fun K => (He.Fa.glo "_law_fourth_ones").ok K,
  fun K => (He.Fa.glo "law").ok K,
  fun K => (He.Fa.glo "DuesError").ok K,
  fun K => (He.Fa.glo "BadName").ok K,
  fun K => (He.Fa.glo "WrongCount").ok K,
  fun K => (He.Fa.glo "OutOfRange").ok K,
  fun K => (He.Fa.glo "Repeated").ok K,
  fun K => (He.Fa.glo "RepeatedArrow").ok K,
  fun K => (He.Fa.glo "UnknownKind").ok K,
  fun K => (He.Fa.glo "UnknownArrow").ok K,
  fun K => (He.Fa.glo "BadLine").ok K,
  fun K => (He.Fa.glo "BadCost").ok K,
  fun K => (He.Fa.glo "BadRelease").ok K,
  fun K => (He.Fa.glo "NoArrow").ok K,
  fun K => (He.Fa.glo "GapTooShort").ok K,
  fun K => (He.Fa.glo "UnknownJob").ok K,
  fun K => (He.Fa.glo "EmptySlice").ok K,
  fun K => (He.Fa.glo "Overlap").ok K,
  fun K => (He.Fa.glo "TooEarly").ok K,
  fun K => (He.Fa.glo "WrongAmount").ok K,
  fun K => (He.Fa.glo "BadRow").ok K,
  fun K => (He.Fa.glo "TooLong").ok K,
  fun K => (He.Fa.glo "Falling").ok K,
  fun K => (He.Fa.glo "BadCalendar").ok K,
  fun K => (He.Fa.glo "Overloaded").ok K,
  fun K => (He.Fa.glo "LateSet").ok K,
  fun K => (He.Fa.glo "Clash").ok K,
  fun K => (He.Fa.glo "NotOpen").ok K,
  fun K => (He.Fa.glo "Refused").ok K,
  fun K => (He.Fa.glo "Present").ok K,
  fun K => (He.Fa.glo "Absent").ok K,
  fun K => (He.Fa.glo "NothingToUndo").ok K,
  fun K => (He.Fa.free "ValueError").ok K,
  fun K => (He.Fa.free "bool").ok K,
  fun K => (He.Fa.free "int").ok K,
  fun K => (He.Fa.free "isinstance").ok K,
  fun K => (He.Fa.free "len").ok K,
  fun K => (He.Fa.free "range").ok K,
  oexB "Absent",
  oexB "BadCalendar",
  oexB "BadCost",
  oexB "BadLine",
  oexB "BadName",
  oexB "BadRelease",
  excB "BadRow",
  oexB "Clash",
  excB "DuesError",
  oexB "EmptySlice",
  oexB "Falling",
  oexB "GapTooShort",
  oexB "LateSet",
  oexB "NoArrow",
  oexB "NotOpen",
  excB "NothingToUndo",
  oexB "OutOfRange",
  oexB "Overlap",
  oexB "Overloaded",
  oexB "Present",
  oexB "Refused",
  oexB "Repeated",
  oexB "RepeatedArrow",
  oexB "TooEarly",
  oexB "TooLong",
  oexB "UnknownArrow",
  oexB "UnknownJob",
  oexB "UnknownKind",
  oexB "WrongAmount",
  oexB "WrongCount",
  nofB "Absent" "name",
  nofB "BadCalendar" "calendar",
  nofB "BadCost" "place",
  nofB "BadCost" "task",
  nofB "BadLine" "line",
  nofB "BadName" "name",
  nofB "BadRelease" "place",
  nofB "BadRelease" "task",
  nofB "Clash" "admitted",
  nofB "Clash" "refused",
  nofB "EmptySlice" "place",
  nofB "Falling" "gain",
  nofB "GapTooShort" "place",
  nofB "GapTooShort" "task",
  nofB "LateSet" "which",
  nofB "NoArrow" "place",
  nofB "NoArrow" "task",
  nofB "NotOpen" "answer",
  nofB "OutOfRange" "value",
  nofB "OutOfRange" "what",
  nofB "Overlap" "place",
  nofB "Overloaded" "cost",
  nofB "Overloaded" "length",
  nofB "Present" "name",
  nofB "Refused" "excess",
  nofB "Refused" "name",
  nofB "Refused" "ticks",
  nofB "Repeated" "name",
  nofB "RepeatedArrow" "first",
  nofB "RepeatedArrow" "second",
  nofB "TooEarly" "place",
  nofB "TooLong" "period",
  nofB "UnknownArrow" "first",
  nofB "UnknownArrow" "second",
  nofB "UnknownJob" "place",
  nofB "UnknownKind" "name",
  nofB "WrongAmount" "job",
  nofB "WrongCount" "count",
  nofB "WrongCount" "what",
  xfcB "Absent",
  xfcB "BadCalendar",
  xfcB "BadCost",
  xfcB "BadLine",
  xfcB "BadName",
  xfcB "BadRelease",
  xfcB "Clash",
  xfcB "EmptySlice",
  xfcB "Falling",
  xfcB "GapTooShort",
  xfcB "LateSet",
  xfcB "NoArrow",
  xfcB "NotOpen",
  xfcB "OutOfRange",
  xfcB "Overlap",
  xfcB "Overloaded",
  xfcB "Present",
  xfcB "Refused",
  xfcB "Repeated",
  xfcB "RepeatedArrow",
  xfcB "TooEarly",
  xfcB "TooLong",
  xfcB "UnknownArrow",
  xfcB "UnknownJob",
  xfcB "UnknownKind",
  xfcB "WrongAmount",
  xfcB "WrongCount",
  kitA xNames1 xNames,
  xisA xNames1,
  kitUp xNames1 "DuesError" true,
  kitUpT xNames1 "ValueError" true]
end LW

set_option maxHeartbeats 0
namespace LW
open PySem PySem.Spec PyProof.Rows L2 DL
open He (ga ma)
abbrev R : PySem.W.OpenRow := PySem.W.OpenLaw.row PySem.Challenge.rw_walkdues_k59_errors_made_by_hand
def adrs : List Addr := List.range 1500
abbrev hk : PySem.W.Hook := hookL adrs fa fn
def ob (s : PySem.W.SharedT) : Bool × AlA := obsLG adrs fa fn (HandSHeadRun.getT s)
theorem ob_eq (s : PySem.W.SharedT) : ob s = hk.obs s.abs := obsLG_eq (HandSHeadRun.getT_eq s)
def loose : List Str := (["__name__", "DuesError", "BadName", "WrongCount", "OutOfRange", "Repeated", "RepeatedArrow", "UnknownKind", "UnknownArrow", "BadLine", "BadCost", "BadRelease", "NoArrow", "GapTooShort", "UnknownJob", "EmptySlice", "Overlap", "TooEarly", "WrongAmount", "BadRow"] : List Str) ++ (["TooLong", "Falling", "BadCalendar", "Overloaded", "LateSet", "Clash", "NotOpen", "Refused", "Present", "Absent", "NothingToUndo", "_law_pool", "_law_draw", "_law_simple", "_law_value", "_law_marks", "_law_own", "_law_same", "_law_first_ones", "_law_second_ones"] : List Str) ++ (["_law_third_ones", "_law_fourth_ones"] : List Str)
open PySem.W HandSHeadRun in
theorem run1 (w : World) (os : OsState) : (endF (stepQ (denQ tabQ) R.prog w) 12000 R.prog w os).map (fun s => (looksF R.prog (boot_heap w.params) s.abs, seenQ (PySem.W.view R.prog [43]) loose (importedModules R.prog.main.body) (fun s => xlAt (PySem.W.view R.prog [43]) [] s && recOk R.toRowW.records s) s.abs)) = some (true, openGood (PySem.W.view R.prog [43]) loose) := by
  kernel_rfl
open PySem.W HandSHeadRun in
theorem run2 (w : World) (os : OsState) : (endF (stepQ (denQ tabQ) R.prog w) 12000 R.prog w os).map (fun s => obsLG adrs fa [] (HandSHeadRun.getT s)) = some (true, valA []) := by
  kernel_rfl
open PySem.W HandSHeadRun in
theorem run3 (w : World) (os : OsState) : (endF (stepQ (denQ tabQ) R.prog w) 12000 R.prog w os).map (fun s => obsLG adrs [] fn (HandSHeadRun.getT s)) = some (true, valA fn) := by
  kernel_rfl
theorem run (w : World) : HandSHeadRun.RunEq R (PySem.W.view R.prog [43]) hk ob 12000 loose w := run_join (run1 w) (run2 w) (run3 w)
open PySem PySem.W PySem.Calls PyProof.Rows in
def hd1 := HandSHeadRun.head_any (r := PySem.W.OpenLaw.row PySem.Challenge.rw_walkdues_k59_errors_made_by_hand) (q := PySem.W.view (PySem.W.OpenLaw.row PySem.Challenge.rw_walkdues_k59_errors_made_by_hand).prog [43]) (H := hk) (ob := ob) (M := 12000) (loose := loose) (d := HandSHeadRun.topDef (PySem.W.OpenLaw.row PySem.Challenge.rw_walkdues_k59_errors_made_by_hand).prog 43) (kwd := []) ob_eq
    (by kernel_rfl) (fun s => by kernel_rfl) run (by kernel_rfl) (by kernel_rfl) (by kernel_rfl) (by rfl) (by decide +kernel) (by decide +kernel) ⟨rfl, rfl, rfl, rfl, rfl, by decide +kernel⟩
end LW
set_option Elab.async false
set_option linter.all false
set_option maxRecDepth 100000
set_option maxHeartbeats 4000000
namespace DL
open PySem PySem.Spec PyProof.Rows L2

theorem same_new {H : Hp} {p : Addr} {o : HO} (h : H p = none) : Same H (upd H p o) := fun a u e => by
  rw [upd_ne (ne_of_none e h)]
  exact e
theorem same_mut {H H' : Hp} {p : Addr} {o : HO} (e : Same H H') (h : H p = none) : Same H (upd H' p o) := fun a u ha => by
  rw [upd_ne (ne_of_none ha h)]
  exact e a u ha

section
variable {K : PySem.W.Frag} {G G' : Hp}
theorem Rps.set {d : D} {v : V} (r : Rp K G d v) : ∀ {ds : List D} {vs : List V} (i : Nat), Rps K G ds vs → Rps K G (ds.set i d) (vs.set i v)
  | _, _, _, .nil => .nil
  | _, _, 0, .cons _ t => .cons r t
  | _, _, i + 1, .cons q t => .cons q (Rps.set r i t)
theorem Rps.take : ∀ {ds : List D} {vs : List V} (n : Nat), Rps K G ds vs → Rps K G (ds.take n) (vs.take n)
  | _, _, 0, _ => .nil
  | _, _, _ + 1, .nil => .nil
  | _, _, n + 1, .cons r t => .cons r (Rps.take n t)
theorem Rps.drop : ∀ {ds : List D} {vs : List V} (n : Nat), Rps K G ds vs → Rps K G (ds.drop n) (vs.drop n)
  | _, _, 0, r => r
  | _, _, _ + 1, .nil => .nil
  | _, _, n + 1, .cons _ t => Rps.drop n t
theorem Rps.eraseIdx : ∀ {ds : List D} {vs : List V} (i : Nat), Rps K G ds vs → Rps K G (ds.eraseIdx i) (vs.eraseIdx i)
  | _, _, _, .nil => .nil
  | _, _, 0, .cons _ t => t
  | _, _, i + 1, .cons r t => .cons r (Rps.eraseIdx i t)
theorem Rps.ofInts : ∀ (ns : List Int), Rps K G (ns.map D.int) (ns.map V.int)
  | [] => .nil
  | n :: ns => .cons (.int n) (Rps.ofInts ns)
theorem Rps.strs : ∀ {bs : List Str} {vs : List V}, Rps K G (bs.map D.str) vs → vs = bs.map V.str
  | [], _, .nil => rfl
  | n :: ns, _, .cons r t => by
    cases r
    rw [Rps.strs t]
    rfl
end
def putD (f : Str) (v : D) : List (Str × D) → List (Str × D)
  | [] => [(f, v)]
  | (g, x) :: r => if g = f then (g, v) :: r else (g, x) :: putD f v r
theorem RpM.ofFn {K : PySem.W.Frag} {G : Hp} {ob : Obj} {o : HO} (h : RpM K G (.fn ob) o) : o = .frz ob (.ext fun _ => True) := by
  cases o with
  | frz ob' u => obtain ⟨rfl, rfl⟩ := h; rfl
  | _ => exact h.elim
theorem RpM.ofLst {K : PySem.W.Frag} {G : Hp} {ds : List D} {o : HO} (h : RpM K G (.lst ds) o) : ∃ vs, o = .lst vs ∧ Rps K G ds vs := by
  cases o with
  | lst vs => exact ⟨vs, rfl, h⟩
  | _ => exact h.elim
def mdel (m : M) (a : Addr) : M := fun b => if b = a then none else m b
theorem mset_same {m : M} {a : Addr} {o : MO} : mset m a o a = some o := if_pos rfl
theorem mset_ne {m : M} {a b : Addr} {o : MO} (h : b ≠ a) : mset m a o b = m b := if_neg h
theorem mset_mset {m : M} {a : Addr} {o u : MO} : mset (mset m a o) a u = mset m a u := by
  funext b; unfold mset; split <;> rfl
theorem mset_comm {m : M} {a b : Addr} {o u : MO} (h : a ≠ b) : mset (mset m a o) b u = mset (mset m b u) a o := by
  funext c; unfold mset
  by_cases e : c = a
  · subst e; rw [if_neg h, if_pos rfl, if_pos rfl]
  · by_cases e2 : c = b
    · subst e2; rw [if_pos rfl, if_neg e, if_pos rfl]
    · rw [if_neg e2, if_neg e, if_neg e, if_neg e2]
def okO (o : HO) : Prop := (∀ ps, o ≠ .tbl ps) ∧ ∀ φ, o ≠ .ext φ
section
open LamX
theorem Tabs.new {T : List (Addr × Str)} {H : Hp} {p : Addr} {o : HO} (t : Tabs T H) (h : H p = none) : Tabs T (upd H p o) := t.ext fun b u e => by rw [upd_ne (ne_of_none e h)]; exact e
theorem Tabs.updO {T : List (Addr × Str)} {H : Hp} {p : Addr} {o w : HO} (t : Tabs T H) (h : H p = some w) (ho : okO w) : Tabs T (upd H p o) := fun z hz => by
  obtain ⟨ps, h1, h2, h3⟩ := t z hz
  have ne : z.1 ≠ p := fun e => by
    rw [e, h] at h1
    exact ho.1 ps (Option.some.inj h1)
  refine ⟨ps, by rw [upd_ne ne]; exact h1, h2, fun pos cv hc => ?_⟩
  obtain ⟨c, e1, e2⟩ := h3 pos cv hc
  have nc : c ≠ p := fun e => by
    rw [e, h] at e2
    exact ho.2 _ (Option.some.inj e2)
  exact ⟨c, e1, by rw [upd_ne nc]; exact e2⟩
end
theorem RpM.okO {K : PySem.W.Frag} {G : Hp} {u : MO} {o : HO} (h : RpM K G u o) : okO o := by
  cases u <;> cases o <;> first | exact h.elim | exact ⟨fun _ e => (by cases e), fun _ e => (by cases e)⟩
theorem nt_upd {F : Hp} {p : Addr} {o : HO} (h : ∀ a u, F a = some u → notT u) (ho : notT o) : ∀ a u, upd F p o a = some u → notT u := fun a u e => by
  by_cases hb : a = p
  · subst hb; rw [upd_same] at e; cases e; exact ho
  · rw [upd_ne hb] at e; exact h a u e
theorem ok_upd {F : Hp} {p : Addr} {o : HO} (h : ∀ a u, F a = some u → ntb u) (ho : okO o) : ∀ a u, upd F p o a = some u → ntb u := fun a u e => by
  by_cases hb : a = p
  · subst hb; rw [upd_same] at e; cases e; exact ho.1
  · rw [upd_ne hb] at e; exact h a u e
section
variable {K : PySem.W.Frag} {G H F : Hp} {m : M} {p a : Addr} {o : HO} {u : MO}
theorem Rep.mfree (r : Rep K G H F m) (h : H p = none) : m p = none := by
  cases q : m p with
  | none => rfl
  | some o =>
    obtain ⟨_, _, u, e, _⟩ := r.mo p o q
    rw [h] at e
    cases e
theorem Rep.froz (r : Rep K G H F m) (h : H p = none) (ho : okO o := by exact ⟨fun _ e => (by cases e), fun _ e => (by cases e)⟩) : Same G (upd G p o) ∧ Rep K (upd G p o) (upd H p o) F m := by
  have g := r.free h
  refine ⟨same_new g, fun b v e => ?_, fun b v e => ?_, fun b v e => ?_, fun b v e => ?_, Tabs.new r.tb h, ok_upd r.gt ho, r.ft⟩
  · by_cases hb : b = p
    · subst hb; rw [upd_same] at e ⊢; exact e
    · rw [upd_ne hb] at e ⊢; exact r.ext b v e
  · rw [upd_ne (ne_of_none (r.frm b v e) h)]; exact r.frm b v e
  · rw [upd_ne (ne_of_none (r.frm b v e) h)]; exact r.dis b v e
  · obtain ⟨h1, h2, u, h3, h4⟩ := r.mo b v e
    have hb : b ≠ p := ne_of_none h3 h
    exact ⟨by rw [upd_ne hb]; exact h1, h2, u, by rw [upd_ne hb]; exact h3, h4.mono (same_new g)⟩
theorem Rep.newm (r : Rep K G H F m) (h : H p = none) (hu : RpM K G u o) : Rep K G (upd H p o) F (mset m p u) := by
  refine ⟨same_mut r.ext (r.free h), fun b v e => ?_, r.dis, fun b v e => ?_, Tabs.new r.tb h, r.gt, r.ft⟩
  · rw [upd_ne (ne_of_none (r.frm b v e) h)]; exact r.frm b v e
  · by_cases hb : b = p
    · subst hb
      rw [mset_same] at e
      cases e
      exact ⟨r.free h, r.frm.free h, o, upd_same, hu⟩
    · rw [mset_ne hb] at e
      obtain ⟨h1, h2, w, h3, h4⟩ := r.mo b v e
      exact ⟨h1, h2, w, by rw [upd_ne hb]; exact h3, h4⟩
theorem Rep.write {v : MO} (r : Rep K G H F m) (h : m a = some v) (hu : RpM K G u o) : Rep K G (upd H a o) F (mset m a u) := by
  obtain ⟨g1, f1, w, h3, h4⟩ := r.mo a v h
  refine ⟨same_mut r.ext g1, fun b z e => ?_, r.dis, fun b z e => ?_, Tabs.updO r.tb h3 h4.okO, r.gt, r.ft⟩
  · have hb : b ≠ a := fun q => by rw [q, f1] at e; cases e
    rw [upd_ne hb]; exact r.frm b z e
  · by_cases hb : b = a
    · subst hb
      rw [mset_same] at e
      cases e
      exact ⟨g1, f1, o, upd_same, hu⟩
    · rw [mset_ne hb] at e
      obtain ⟨h1, h2, w, h3, h4⟩ := r.mo b z e
      exact ⟨h1, h2, w, by rw [upd_ne hb]; exact h3, h4⟩
end

section
variable {K : PySem.W.Frag} {G H F : Hp} {m : M} {p : Addr} {o u : HO}
theorem Rep.hide (r : Rep K G H F m) (h : H p = none) (ho : notT o := by exact ⟨fun _ e => (by cases e), fun _ e => (by cases e), fun _ e => (by cases e)⟩) : Rep K G (upd H p o) (upd F p o) m := by
  refine ⟨same_mut r.ext (r.free h), fun b v e => ?_, fun b v e => ?_, fun b v e => ?_, Tabs.new r.tb h, r.gt, nt_upd r.ft ho⟩
  · by_cases hb : b = p
    · subst hb; rw [upd_same] at e ⊢; exact e
    · rw [upd_ne hb] at e ⊢; exact r.frm b v e
  · by_cases hb : b = p
    · subst hb; exact r.free h
    · rw [upd_ne hb] at e; exact r.dis b v e
  · obtain ⟨h1, h2, w, h3, h4⟩ := r.mo b v e
    have hb : b ≠ p := ne_of_none h3 h
    exact ⟨h1, by rw [upd_ne hb]; exact h2, w, by rw [upd_ne hb]; exact h3, h4⟩
theorem Rep.turn (r : Rep K G H (upd F p o) m) (ho : notT u := by exact ⟨fun _ e => (by cases e), fun _ e => (by cases e), fun _ e => (by cases e)⟩) (hw : okO o := by exact ⟨fun _ e => (by cases e), fun _ e => (by cases e)⟩) : Rep K G (upd H p u) (upd F p u) m := by
  have g : G p = none := r.dis p o upd_same
  refine ⟨same_mut r.ext g, fun b v e => ?_, fun b v e => ?_, fun b v e => ?_, Tabs.updO r.tb (r.frm p o upd_same) hw, r.gt, fun a w e => ?_⟩
  · by_cases hb : b = p
    · subst hb; rw [upd_same] at e ⊢; exact e
    · rw [upd_ne hb] at e ⊢; exact r.frm b v (by rw [upd_ne hb]; exact e)
  · by_cases hb : b = p
    · subst hb; exact g
    · rw [upd_ne hb] at e; exact r.dis b v (by rw [upd_ne hb]; exact e)
  · obtain ⟨h1, h2, w, h3, h4⟩ := r.mo b v e
    have hb : b ≠ p := fun q => by rw [q, upd_same] at h2; cases h2
    rw [upd_ne hb] at h2
    exact ⟨h1, by rw [upd_ne hb]; exact h2, w, by rw [upd_ne hb]; exact h3, h4⟩
  · by_cases hb : a = p
    · subst hb; rw [upd_same] at e; cases e; exact ho
    · rw [upd_ne hb] at e; exact r.ft a w (by rw [upd_ne hb]; exact e)
theorem Rep.outL {ds : List D} {vs : List V} (r : Rep K G H (upd F p (.lst vs)) m) (hF : F p = none) (rs : Rps K G ds vs) : Same G (upd G p (.lst vs)) ∧ Rep K (upd G p (.lst vs)) H F m ∧ Rp K (upd G p (.lst vs)) (.lst ds) (.ref p) := by
  have g : G p = none := r.dis p _ upd_same
  have sm : Same G (upd G p (.lst vs)) := same_new g
  refine ⟨sm, ⟨fun b v e => ?_, (r.show hF).frm, fun b v e => ?_, fun b v e => ?_, r.tb, ok_upd r.gt ⟨fun _ e => (by cases e), fun _ e => (by cases e)⟩, (r.show hF).ft⟩, .lst upd_same (rs.mono sm)⟩
  · by_cases hb : b = p
    · subst hb; rw [upd_same] at e; rw [← e]; exact r.frm _ _ upd_same
    · rw [upd_ne hb] at e; exact r.ext b v e
  · rw [upd_ne (fun q => by rw [q, hF] at e; cases e)]; exact (r.show hF).dis b v e
  · obtain ⟨h1, h2, w, h3, h4⟩ := r.mo b v e
    have hb : b ≠ p := fun q => by rw [q, upd_same] at h2; cases h2
    rw [upd_ne hb] at h2
    exact ⟨by rw [upd_ne hb]; exact h1, h2, w, h3, h4.mono sm⟩
theorem Rep.outM {ds : List D} {vs : List V} (r : Rep K G H (upd F p (.lst vs)) m) (hF : F p = none) (rs : Rps K G ds vs) : m p = none ∧ Rep K G H F (mset m p (.lst ds)) := by
  have g : G p = none := r.dis p _ upd_same
  have mp : m p = none := by
    cases q : m p with
    | none => rfl
    | some w =>
      obtain ⟨_, h2, _⟩ := r.mo p w q
      rw [upd_same] at h2
      cases h2
  refine ⟨mp, r.ext, (r.show hF).frm, (r.show hF).dis, fun b v e => ?_, r.tb, r.gt, (r.show hF).ft⟩
  by_cases hb : b = p
  · subst hb
    rw [mset_same] at e
    cases e
    exact ⟨g, hF, _, r.frm _ _ upd_same, rs⟩
  · rw [mset_ne hb] at e
    obtain ⟨h1, h2, w, h3, h4⟩ := r.mo b v e
    rw [upd_ne hb] at h2
    exact ⟨h1, h2, w, h3, h4⟩
end

section
variable {K : PySem.W.Frag} {G G' : Hp} {r : DSt} {s : L2.St}
theorem Rs.set (h : Rs K G r s) {i : Nat} {d : D} {v : V} (q : Rp K G d v) : Rs K G (r.set i (some d)) (s.set i (some v)) := ⟨by simp [h.len], fun j e hj => by
  by_cases hi : i = j
  · subst hi
    by_cases hl : i < r.length
    · rw [List.getElem?_set_self hl] at hj
      cases hj
      exact ⟨v, by rw [List.getElem?_set_self (by rw [← h.len]; exact hl)], q⟩
    · rw [List.getElem?_eq_none (by simp; omega)] at hj
      cases hj
  · rw [List.getElem?_set_ne hi] at hj ⊢
    exact h.at_ j e hj⟩
end
end DL

set_option Elab.async false
set_option linter.all false
set_option maxRecDepth 100000
set_option maxHeartbeats 4000000
namespace DL
open PySem PySem.Spec PyProof.Rows L2

abbrev DO := DSt → M → (Option Int → M → Prop) → Prop
theorem Lx.no {K : PySem.W.Frag} {W : WX} {G F : Hp} : Lx K W (fun _ _ _ => False) G F := fun _ _ _ _ _ _ _ _ _ _ _ _ h => h.elim
theorem Sx.step {K : PySem.W.Frag} {W : WX} {WD : DWX} {G G' H H' F : Hp} {r : DSt} {s : L2.St} {m m' : M} (x : Sx K W WD G H F r s m) (e : Same G G') (h : Rep K G' H' F m') : Sx K W WD G' H' F r s m' := ⟨h, x.rs.mono e, x.lx.mono e⟩
def up (K : PySem.W.Frag) (W : WX) (WD : DWX) (t : DTE) : TE := fun σ H Q => ∃ (G F : Hp) (r : DSt) (m : M) (QD : D → M → Prop), Sx K W WD G H F r σ m ∧ t r m QD ∧ Kv K G F QD Q
def upT (K : PySem.W.Frag) (W : WX) (WD : DWX) (t : DTT) : TT := fun σ H Q => ∃ (G F : Hp) (r : DSt) (m : M) (QD : Bool → M → Prop), Sx K W WD G H F r σ m ∧ t r m QD ∧ ∀ G' H' m' b, Same G G' → Rep K G' H' F m' → QD b m' → Q b H'
def upA (K : PySem.W.Frag) (W : WX) (WD : DWX) (t : DTA) : TA := fun σ H Q => ∃ (G F : Hp) (r : DSt) (m : M) (QD : List D → M → Prop), Sx K W WD G H F r σ m ∧ t r m QD ∧ ∀ G' H' m' ds vs, Same G G' → Rep K G' H' F m' → Rps K G' ds vs → QD ds m' → Q vs H'
abbrev DE (X : Cx) (W : WX) (WD : DWX) (e : Expr) (t : DTE) : Prop := PE X e (up X.K W WD t)
abbrev DT (X : Cx) (W : WX) (WD : DWX) (e : Expr) (t : DTT) : Prop := PT X e (upT X.K W WD t)
abbrev DW (X : Cx) (W : WX) (WD : DWX) (e : Expr) (t : DTT) : Prop := PW X e (upT X.K W WD t)
abbrev DA (X : Cx) (W : WX) (WD : DWX) (es : List Expr) (t : DTA) : Prop := PA X es (upA X.K W WD t)
section
variable {X : Cx} {e : Expr}
end

def slot : DSt → Nat → Option D
  | [], _ => none
  | x :: _, 0 => x
  | _ :: r, n + 1 => slot r n
theorem slot_get : ∀ {r : DSt} {i : Nat} {d : D}, slot r i = some d → r[i]? = some (some d)
  | [], _, _, e => nomatch e
  | x :: r, 0, d, e => by
    have e' : x = some d := e
    rw [e']; rfl
  | x :: r, i + 1, d, e => by
    have := slot_get (r := r) (i := i) (d := d) e
    simpa using this
def dVar (i : Nat) : DTE := fun r m Q => ∃ d, slot r i = some d ∧ Q d m
def dC (d : D) : DTE := fun _ m Q => Q d m
section
variable {X : Cx} {W : WX} {WD : DWX} {pos : Pos}
theorem up_var {K : PySem.W.Frag} {i : Nat} {σ : L2.St} {H : Hp} {Q : VK} (h : up K W WD (dVar i) σ H Q) : tVar i σ H Q := by
  obtain ⟨G, F, r, m, QD, x, ⟨d, e, t⟩, k⟩ := h
  obtain ⟨v, e1, rv⟩ := x.rs.at_ i d (slot_get e)
  exact ⟨v, e1, k G H m d v (Same.refl G) x.rep rv t⟩
theorem up_c {K : PySem.W.Frag} {d : D} {v : V} {σ : L2.St} {H : Hp} {Q : VK} (hv : ∀ G, Rp K G d v) (h : up K W WD (dC d) σ H Q) : tC v σ H Q := by
  obtain ⟨G, F, r, m, QD, x, t, k⟩ := h
  exact k G H m d v (Same.refl G) x.rep (hv G) t
theorem dv (i : Nat) {x : Str} (hN : X.N[i]? = some x := by rfl) (hv : Vis X.env.scope x := by first | exact Or.inl rfl | exact Or.inr (Or.inl rfl) | exact Or.inr (Or.inr rfl)) (hd : (x == ("__debug__" : Str)) = false := by decide)
    (hcd : (x == ("__classdict__" : Str)) = false := by decide) : DE X W WD (.Name x pos) (dVar i) := PE.imp (pv i hN hv hd hcd) fun _ _ _ h => up_var h
theorem de_int {i j} : DE X W WD (.Constant (.int i) j pos) (dC (.int i)) := PE.imp pe_int fun _ _ _ h => up_c (fun _ => .int i) h
theorem de_bl {b j} : DE X W WD (.Constant (.bool b) j pos) (dC (.bl b)) := PE.imp pe_bl fun _ _ _ h => up_c (fun _ => .bl b) h
theorem de_non {j} : DE X W WD (.Constant .none j pos) (dC .non) := PE.imp pe_non fun _ _ _ h => up_c (fun _ => .non) h
theorem de_str {x j} : DE X W WD (.Constant (.str x) j pos) (dC (.str x)) := PE.imp pe_str fun _ _ _ h => up_c (fun _ => .str x) h
theorem de_globR {x : Str} {a : Addr} (hg : Gl X x) (hm : X.mg x = some (.ref a)) (hd : (x == ("__debug__" : Str)) = false := by decide) : DE X W WD (.Name x pos) (dC (.ref a)) :=
  PE.imp (pe_glob (v := .ref a) hg hm rfl hd) fun _ _ _ h => up_c (fun _ => .ref a) h
theorem de_ty {x : Str} {T : String} (hg : Gl X x) (hm : X.mg x = none) (hv : bootBuiltins x = some (.type T)) (hn : x ≠ "__name__" := by decide) (hd : (x == ("__debug__" : Str)) = false := by decide) : DE X W WD (.Name x pos) (dC (.ty T)) :=
  PE.imp (pe_bltn (v := .ty T) hg hm hv rfl hn hd) fun _ _ _ h => up_c (fun _ => .ty T) h
end

abbrev DR2 := D → D → M → (D → M → Prop) → Prop
def OpD (K : PySem.W.Frag) (r : R2) (rd : DR2) : Prop :=
  ∀ (G H F : Hp) (m : M) (x y : D) (vx vy : V) (QD : D → M → Prop) (Q : VK), Rep K G H F m → Rp K G x vx → Rp K G y vy → rd x y m QD → Kv K G F QD Q → r vx vy H Q
def dOp (rd : DR2) (ta tb : DTE) : DTE := fun r m Q => ta r m fun x m1 => tb r m1 fun y m2 => rd x y m2 Q
theorem up_op {K : PySem.W.Frag} {W : WX} {WD : DWX} {r : R2} {rd : DR2} {ta tb : DTE} {σ : L2.St} {H : Hp} {Q : VK} (hd : OpD K r rd) (h : up K W WD (dOp rd ta tb) σ H Q) : tOp r (up K W WD ta) (up K W WD tb) σ H Q := by
  obtain ⟨G, F, ρ, m, QD, x, t, k⟩ := h
  refine ⟨G, F, ρ, m, _, x, t, fun G1 H1 m1 d1 v1 e1 r1 p1 t1 => ?_⟩
  refine ⟨G1, F, ρ, m1, _, x.step e1 r1, t1, fun G2 H2 m2 d2 v2 e2 r2 p2 t2 => ?_⟩
  exact hd G2 H2 F m2 d1 d2 v1 v2 QD Q r2 (p1.mono e2) p2 t2 (k.mono (e1.trans e2))
abbrev DR1 := D → M → (D → M → Prop) → Prop
def UnD (K : PySem.W.Frag) (r : V → Hp → VK → Prop) (rd : DR1) : Prop :=
  ∀ (G H F : Hp) (m : M) (x : D) (vx : V) (QD : D → M → Prop) (Q : VK), Rep K G H F m → Rp K G x vx → rd x m QD → Kv K G F QD Q → r vx H Q
def dUn (rd : DR1) (ta : DTE) : DTE := fun r m Q => ta r m fun x m1 => rd x m1 Q
theorem up_un {K : PySem.W.Frag} {W : WX} {WD : DWX} {r : V → Hp → VK → Prop} {rd : DR1} {ta : DTE} {σ : L2.St} {H : Hp} {Q : VK} (hd : UnD K r rd) (h : up K W WD (dUn rd ta) σ H Q) : tUn r (up K W WD ta) σ H Q := by
  obtain ⟨G, F, ρ, m, QD, x, t, k⟩ := h
  exact ⟨G, F, ρ, m, _, x, t, fun G1 H1 m1 d1 v1 e1 r1 p1 t1 => hd G1 H1 F m1 d1 v1 QD Q r1 p1 t1 (k.mono e1)⟩
theorem Kv.here {K : PySem.W.Frag} {G H F : Hp} {m : M} {QD : D → M → Prop} {Q : VK} {d : D} {v : V} (k : Kv K G F QD Q) (r : Rep K G H F m) (p : Rp K G d v) (q : QD d m) : Q v H := k G H m d v (Same.refl G) r p q
def mkL (mt : Bool) (ds : List D) (m : M) (Q : D → M → Prop) : Prop := match mt with
  | true => ∀ p, m p = none → Q (.ref p) (mset m p (.lst ds))
  | false => Q (.lst ds) m
theorem mkL_ok {K : PySem.W.Frag} {G H F : Hp} {m : M} {QD : D → M → Prop} {Q : VK} {mt : Bool} {ds : List D} {vs : List V} {p : Addr} (k : Kv K G F QD Q) (r : Rep K G H F m) (rs : Rps K G ds vs) (h : H p = none) (q : mkL mt ds m QD) : Q (.ref p) (upd H p (.lst vs)) := by
  cases mt with
  | false =>
    obtain ⟨e, r1⟩ := r.froz (o := .lst vs) h
    exact k _ _ m (.lst ds) _ e r1 (.lst upd_same (rs.mono e)) q
  | true => exact k _ _ _ (.ref p) _ (Same.refl G) (r.newm (u := .lst ds) (o := .lst vs) h rs) (.ref p) (q p (r.mfree h))
theorem mkT_ok {K : PySem.W.Frag} {G H F : Hp} {m : M} {QD : D → M → Prop} {Q : VK} {ds : List D} {vs : List V} {p : Addr} (k : Kv K G F QD Q) (r : Rep K G H F m) (rs : Rps K G ds vs) (h : H p = none) (q : QD (.tup ds) m) : Q (.ref p) (upd H p (.tup vs)) := by
  obtain ⟨e, r1⟩ := r.froz (o := .tup vs) h
  exact k _ _ m (.tup ds) _ e r1 (.tup (TpK.of upd_same) (rs.mono e)) q

def MulOk (i j : Int) : Prop := CMul i j ∨ CMulW i j
def dAdd (mt : Bool) : DR2
  | .int i, .int j, m, Q => Q (.int (i + j)) m
  | .str a, .str b, m, Q => a.length + b.length ≤ sizeLine ∧ Q (.str (a ++ b)) m
  | .lst a, .lst b, m, Q => a.length + b.length ≤ sizeLine ∧ mkL mt (a ++ b) m Q
  | .ref a, .lst b, m, Q => ∃ xs, m a = some (.lst xs) ∧ xs.length + b.length ≤ sizeLine ∧ mkL mt (xs ++ b) m Q
  | _, _, _, _ => False
def dSub : DR2
  | .int i, .int j, m, Q => Q (.int (i - j)) m
  | _, _, _, _ => False
def dMul (mt : Bool) : DR2
  | .int i, .int j, m, Q => MulOk i j ∧ Q (.int (i * j)) m
  | .lst a, .int k, m, Q => (-(2 ^ 63) ≤ k ∧ k < 2 ^ 63) ∧ a.length * k.toNat ≤ sizeLine ∧ mkL mt (List.replicate k.toNat a).flatten m Q
  | _, _, _, _ => False
def dDiv : DR2
  | .int i, .int j, m, Q => CDivW i j ∧ Q (.int (i / j)) m
  | _, _, _, _ => False
def dMod : DR2
  | .int i, .int j, m, Q => 0 < j ∧ Q (.int (i % j)) m
  | _, _, _, _ => False
def dPow : DR2
  | .int i, .int j, m, Q => CPow i j ∧ Q (.int (i ^ j.toNat)) m
  | _, _, _, _ => False
def dNeg : DR1
  | .int i, m, Q => Q (.int (-i)) m
  | _, _, _ => False
section
variable {K : PySem.W.Frag} {X : Cx} {W : WX} {WD : DWX} {a b : Expr} {ta tb : DTE} {pos : Pos}
def rAddA (K : PySem.W.Frag) : R2 := fun x y H Q => rI0 (fun i j => .int (i + j)) x y H Q ∨ (∃ i j, x = .str i ∧ y = .str j ∧ i.length + j.length ≤ sizeLine ∧ Q (.str (i ++ j)) H) ∨ rCat x y H Q
theorem op_addA : OpR X (binaryOp .Add) (rAddA X.K) := op_add.or (op_add_str.or op_cat)
theorem od_add (mt : Bool) : OpD K (rAddA K) (dAdd mt) := by
  intro G H F m x y vx vy QD Q r px py t k
  cases x with
  | int i => cases y with
    | int j => cases px; cases py; exact .inl ⟨i, j, rfl, rfl, k.here r (.int _) t⟩
    | _ => exact t.elim
  | str i => cases y with
    | str j => cases px; cases py; exact .inr (.inl ⟨i, j, rfl, rfl, t.1, k.here r (.str _) t.2⟩)
    | _ => exact t.elim
  | lst xs => cases y with
    | lst ys =>
      cases px with | lst h1 r1 => cases py with | lst h2 r2 =>
      refine .inr (.inr ⟨_, _, _, _, rfl, rfl, r.ext _ _ h1, r.ext _ _ h2, by rw [← r1.length, ← r2.length]; exact t.1, fun p hp => ?_⟩)
      exact mkL_ok k r (r1.append r2) hp t.2
    | _ => exact t.elim
  | ref a => cases y with
    | lst ys =>
      cases px; cases py with | lst h2 r2 =>
      obtain ⟨xs, hm, hz, t⟩ := t
      obtain ⟨_, _, u, h1, h4⟩ := r.mo a _ hm
      obtain ⟨vs, rfl, r1⟩ := h4.ofLst
      refine .inr (.inr ⟨_, _, _, _, rfl, rfl, h1, r.ext _ _ h2, by rw [← r1.length, ← r2.length]; exact hz, fun p hp => ?_⟩)
      exact mkL_ok k r (r1.append r2) hp t
    | _ => exact t.elim
  | _ => exact t.elim
theorem od_I {C : Int → Int → Prop} {g : Int → Int → Int} {rd : DR2} (h1 : ∀ i j m Q, rd (.int i) (.int j) m Q → C i j ∧ Q (.int (g i j)) m) (h2 : ∀ x y m Q, rd x y m Q → ∃ i j, x = .int i ∧ y = .int j) : OpD K (rI C fun i j => .int (g i j)) rd := by
  intro G H F m x y vx vy QD Q r px py t k
  obtain ⟨i, j, rfl, rfl⟩ := h2 _ _ _ _ t
  cases px; cases py
  exact ⟨i, j, rfl, rfl, (h1 _ _ _ _ t).1, k.here r (.int _) (h1 _ _ _ _ t).2⟩
theorem od_div : OpD K (rI CDivW fun i j => .int (i / j)) dDiv := od_I (fun _ _ _ _ h => h) fun x y _ _ h => by
  cases x <;> cases y <;> first | exact ⟨_, _, rfl, rfl⟩ | exact h.elim
theorem od_mod : OpD K (rI (fun _ j => 0 < j) fun i j => .int (i % j)) dMod := od_I (fun _ _ _ _ h => h) fun x y _ _ h => by
  cases x <;> cases y <;> first | exact ⟨_, _, rfl, rfl⟩ | exact h.elim
theorem od_pow : OpD K (rI CPow fun i j => .int (i ^ j.toNat)) dPow := od_I (fun _ _ _ _ h => h) fun x y _ _ h => by
  cases x <;> cases y <;> first | exact ⟨_, _, rfl, rfl⟩ | exact h.elim
def rMulA : R2 := fun x y H Q => rI CMul (fun i j => .int (i * j)) x y H Q ∨ rI CMulW (fun i j => .int (i * j)) x y H Q ∨ rRep x y H Q
theorem op_mulA : OpR X (binaryOp .Mult) rMulA := op_mul.or (op_mulW.or op_rep)
theorem flat_rep {G : Hp} {ds : List D} {vs : List V} (h : Rps K G ds vs) : ∀ n : Nat, Rps K G (List.replicate n ds).flatten (List.replicate n vs).flatten
  | 0 => .nil
  | n + 1 => by
    rw [List.replicate_succ, List.replicate_succ, List.flatten_cons, List.flatten_cons]
    exact h.append (flat_rep h n)
theorem od_mul (mt : Bool) : OpD K rMulA (dMul mt) := by
  intro G H F m x y vx vy QD Q r px py t k
  cases x with
  | int i => cases y with
    | int j =>
      cases px; cases py
      rcases t.1 with c | c
      · exact .inl ⟨i, j, rfl, rfl, c, k.here r (.int _) t.2⟩
      · exact .inr (.inl ⟨i, j, rfl, rfl, c, k.here r (.int _) t.2⟩)
    | _ => exact t.elim
  | lst xs => cases y with
    | int j =>
      cases py
      cases px with | lst h1 r1 =>
      obtain ⟨⟨t1, t2⟩, t3, t4⟩ := t
      refine .inr (.inr ⟨_, j, _, rfl, rfl, r.ext _ _ h1, t1, t2, by rw [← r1.length]; exact t3, fun p hp => ?_⟩)
      exact mkL_ok k r (flat_rep r1 _) hp t4
    | _ => exact t.elim
  | _ => exact t.elim
theorem ud_neg : UnD K (rU fun i => .int (-i)) dNeg := by
  intro G H F m x vx QD Q r px t k
  cases x with
  | int i => cases px; exact ⟨i, rfl, k.here r (.int _) t⟩
  | _ => exact t.elim
theorem de_add (mt : Bool) (ha : DE X W WD a ta) (hb : DE X W WD b tb) : DE X W WD (.BinOp a .Add b pos) (dOp (dAdd mt) ta tb) := PE.imp (pe_op op_addA ha hb) fun _ _ _ h => up_op (od_add mt) h
theorem de_mul (mt : Bool) (ha : DE X W WD a ta) (hb : DE X W WD b tb) : DE X W WD (.BinOp a .Mult b pos) (dOp (dMul mt) ta tb) := PE.imp (pe_op op_mulA ha hb) fun _ _ _ h => up_op (od_mul mt) h
theorem de_div (ha : DE X W WD a ta) (hb : DE X W WD b tb) : DE X W WD (.BinOp a .FloorDiv b pos) (dOp dDiv ta tb) := PE.imp (pe_op op_fdivW ha hb) fun _ _ _ h => up_op od_div h
theorem de_mod (ha : DE X W WD a ta) (hb : DE X W WD b tb) : DE X W WD (.BinOp a .Mod b pos) (dOp dMod ta tb) := PE.imp (pe_op op_mod ha hb) fun _ _ _ h => up_op od_mod h
theorem de_pow (ha : DE X W WD a ta) (hb : DE X W WD b tb) : DE X W WD (.BinOp a .Pow b pos) (dOp dPow ta tb) := PE.imp (pe_op op_pow ha hb) fun _ _ _ h => up_op od_pow h
theorem de_neg (ha : DE X W WD a ta) : DE X W WD (.UnaryOp .USub a pos) (dUn dNeg ta) := PE.imp (pe_un un_neg ha) fun _ _ _ h => up_un ud_neg h
end

mutual
def toP : D → Option PyData
  | .non => some .none
  | .bl b => some (.bool b)
  | .int i => some (.int i)
  | .str x => some (.str x)
  | .lst xs => (toPs xs).map .list
  | .rdl xs => (toPs xs).map .list
  | .tup xs => (toPs xs).map .tuple
  | .ty _ => none
  | .ref _ => none
  | .ins _ _ => none
  | .exn _ _ _ => none
  | .dki _ => none
  | .dti _ => none
  | .clo _ _ _ _ _ => none
  | .obj _ _ => none
def toPs : List D → Option (List PyData)
  | [] => some []
  | x :: xs => (toP x).bind fun d => (toPs xs).map fun ds => d :: ds
end
mutual
theorem dp_of {K : PySem.W.Frag} {G : Hp} : ∀ (d : D) (p : PyData) (v : V), toP d = some p → Rp K G d v → Dp K G v p
  | .non, p, v, e, r => by cases e; cases r; exact .non
  | .bl b, p, v, e, r => by cases e; cases r; exact .bl b
  | .int i, p, v, e, r => by cases e; cases r; exact .int i
  | .str x, p, v, e, r => by cases e; cases r; exact .str x
  | .lst xs, p, v, e, r => by
    unfold toP at e
    cases q : toPs xs with
    | none => rw [q] at e; cases e
    | some ps =>
      rw [q] at e; cases e
      cases r with | lst h1 r1 => exact .lst (SqL.of h1) (dps_of xs ps _ q r1)
  | .rdl xs, p, v, e, r => by
    unfold toP at e
    cases q : toPs xs with
    | none => rw [q] at e; cases e
    | some ps =>
      rw [q] at e; cases e
      cases r with | rdl h1 r1 => exact .lst h1 (dps_of xs ps _ q r1)
  | .tup xs, p, v, e, r => by
    unfold toP at e
    cases q : toPs xs with
    | none => rw [q] at e; cases e
    | some ps =>
      rw [q] at e; cases e
      cases r with | tup h1 r1 => exact .tup h1 (dps_of xs ps _ q r1)
  | .ty _, p, v, e, r => by unfold toP at e; cases e
  | .ref _, p, v, e, r => by unfold toP at e; cases e
  | .ins _ _, p, v, e, r => by unfold toP at e; cases e
  | .exn _ _ _, p, v, e, r => by unfold toP at e; cases e
  | .dki _, p, v, e, r => by unfold toP at e; cases e
  | .dti _, p, v, e, r => by unfold toP at e; cases e
  | .clo _ _ _ _ _, p, v, e, r => by unfold toP at e; cases e
  | .obj _ _, p, v, e, r => by unfold toP at e; cases e
theorem dps_of {K : PySem.W.Frag} {G : Hp} : ∀ (ds : List D) (ps : List PyData) (vs : List V), toPs ds = some ps → Rps K G ds vs → DpAll K G vs ps
  | [], ps, vs, e, r => by unfold toPs at e; cases e; cases r; exact .nil
  | x :: xs, ps, vs, e, r => by
    unfold toPs at e
    cases q : toP x with
    | none => rw [q] at e; cases e
    | some d =>
      rw [q] at e
      cases q2 : toPs xs with
      | none => rw [q2] at e; cases e
      | some ds =>
        rw [q2] at e; cases e
        cases r with | cons r1 r2 => exact .cons (dp_of x d _ q r1) (dps_of xs ds _ q2 r2)
end
mutual
theorem Dp.same {K : PySem.W.Frag} {G H : Hp} (e : Same G H) : ∀ {v : V} {p : PyData}, Dp K G v p → Dp K H v p
  | _, _, .non => .non
  | _, _, .bl b => .bl b
  | _, _, .int i => .int i
  | _, _, .str x => .str x
  | _, _, .lst h r => .lst (e.seq h) (DpAll.same e r)
  | _, _, .tup h r => .tup (same_sqt e h) (DpAll.same e r)
theorem DpAll.same {K : PySem.W.Frag} {G H : Hp} (e : Same G H) : ∀ {v : List V} {p : List PyData}, DpAll K G v p → DpAll K H v p
  | _, _, .nil => .nil
  | _, _, .cons a b => .cons (Dp.same e a) (DpAll.same e b)
end
def datOf (m : M) : D → Option PyData
  | .ref a => (m a).bind fun o => match o with
    | .lst xs => (toPs xs).map .list
    | _ => none
  | d => toP d
theorem dat_ok {K : PySem.W.Frag} {G H F : Hp} {m : M} {d : D} {v : V} {p : PyData} (r : Rep K G H F m) (h : Rp K G d v) (e : datOf m d = some p) : Dp K H v p := by
  cases d with
  | ref a =>
    cases h
    dsimp only [datOf] at e
    cases q : m a with
    | none => rw [q] at e; cases e
    | some o =>
      rw [q] at e
      cases o with
      | lst xs =>
        obtain ⟨_, _, u, h3, h4⟩ := r.mo a _ q
        obtain ⟨vs, rfl, h4⟩ := h4.ofLst
        have e2 : (toPs xs).map PyData.list = some p := e
        cases q2 : toPs xs with
        | none => rw [q2] at e2; cases e2
        | some ps =>
          rw [q2] at e2; cases e2
          exact .lst (SqL.of h3) (DpAll.same r.ext (dps_of xs ps vs q2 h4))
      | _ => cases e
  | _ => exact Dp.same r.ext (dp_of _ p v e h)
def dEqB : D → D → Option Bool
  | .int i, .int j => some (decide (i = j))
  | .str i, .str j => some (decide (i = j))
  | .bl i, .bl j => some (decide (i = j))
  | .non, .non => some true
  | .non, .int _ => some false
  | .int _, .non => some false
  | .non, .str _ => some false
  | .str _, .non => some false
  | .non, .bl _ => some false
  | .bl _, .non => some false
  | .int _, .str _ => some false
  | .str _, .int _ => some false
  | _, _ => none
def dEq : DR2 := fun x y m Q => match dEqB x y with
  | some b => Q (.bl b) m
  | none => ∃ p q, datOf m x = some p ∧ datOf m y = some q ∧ SeqAt.shaped p = true ∧ SeqAt.shaped q = true ∧ Q (.bl (PyData.eqv p q)) m
def dNe : DR2 := fun x y m Q => match dEqB x y with
  | some b => Q (.bl (!b)) m
  | none => ∃ p q, datOf m x = some p ∧ datOf m y = some q ∧ SeqAt.shaped p = true ∧ SeqAt.shaped q = true ∧ Q (.bl (!PyData.eqv p q)) m
section
variable {K : PySem.W.Frag} {X : Cx} {W : WX} {WD : DWX} {a b c : Expr} {ta tb tc : DTE} {pos : Pos}
theorem dEqB_scal {G : Hp} {x y : D} {vx vy : V} {b : Bool} (h : dEqB x y = some b) (px : Rp K G x vx) (py : Rp K G y vy) : scal vx vy = true ∧ decide (vx = vy) = b := by
  cases x <;> cases y <;> first
    | (cases px; cases py; cases h; constructor
       · rfl
       · first | rfl | (simp))
    | cases h
def rEqA (K : PySem.W.Frag) : R2 := fun x y H Q => rEq x y H Q ∨ rEqD K x y H Q
def rNeA (K : PySem.W.Frag) : R2 := fun x y H Q => rNe x y H Q ∨ rNeD K x y H Q
theorem od_eq : OpD K (rEqA K) dEq := by
  intro G H F m x y vx vy QD Q r px py t k
  unfold dEq at t
  cases e : dEqB x y with
  | some b =>
    rw [e] at t
    obtain ⟨h1, h2⟩ := dEqB_scal e px py
    exact .inl ⟨h1, by rw [h2]; exact k.here r (.bl _) t⟩
  | none =>
    rw [e] at t
    obtain ⟨p, q, e1, e2, s1, s2, t⟩ := t
    exact .inr ⟨p, q, dat_ok r px e1, dat_ok r py e2, s1, s2, k.here r (.bl _) t⟩
theorem od_ne : OpD K (rNeA K) dNe := by
  intro G H F m x y vx vy QD Q r px py t k
  unfold dNe at t
  cases e : dEqB x y with
  | some b =>
    rw [e] at t
    obtain ⟨h1, h2⟩ := dEqB_scal e px py
    exact .inl ⟨h1, by rw [h2]; exact k.here r (.bl _) t⟩
  | none =>
    rw [e] at t
    obtain ⟨p, q, e1, e2, s1, s2, t⟩ := t
    exact .inr ⟨p, q, dat_ok r px e1, dat_ok r py e2, s1, s2, k.here r (.bl _) t⟩
theorem op_eqA (hu : X.A.units + 64 < cLine) : OpR X (compareOp .Eq) (rEqA X.K) := op_eq.or (op_eqD hu)
theorem op_neA (hu : X.A.units + 64 < cLine) : OpR X (compareOp .NotEq) (rNeA X.K) := op_ne.or (op_neD hu)
def dCmpI (f : Int → Int → Bool) : DR2
  | .int i, .int j, m, Q => Q (.bl (f i j)) m
  | _, _, _, _ => False
theorem od_cmpI {f : Int → Int → Bool} : OpD K (rI0 fun i j => .bl (f i j)) (dCmpI f) := by
  intro G H F m x y vx vy QD Q r px py t k
  cases x with
  | int i => cases y with
    | int j => cases px; cases py; exact ⟨i, j, rfl, rfl, k.here r (.bl _) t⟩
    | _ => exact t.elim
  | _ => exact t.elim
abbrev dGe : DR2 := dCmpI fun i j => decide (j ≤ i)
def dIsN : DR2 := fun x y m Q => y = .non ∧ (match x with
  | .non => Q (.bl true) m
  | _ => Q (.bl false) m)
def dNotN : DR2 := fun x y m Q => y = .non ∧ (match x with
  | .non => Q (.bl false) m
  | _ => Q (.bl true) m)
theorem de_cmp {op : CmpOp} {r : R2} {rd : DR2} (ho : OpR X (compareOp op) r) (hd : OpD X.K r rd) (ha : DE X W WD a ta) (hb : DE X W WD b tb) (hm : behindInMarks op b = false) : DE X W WD (.Compare a [op] [b] pos) (dOp rd ta tb) :=
  PE.imp (pe_cmpR ho ha hb hm) fun _ _ _ h => up_op hd h
def dTest (t : DTE) : DTT := fun r m Q => t r m fun d m1 => ∃ b, d = .bl b ∧ Q b m1
theorem upT_test {K : PySem.W.Frag} {t : DTE} {σ : L2.St} {H : Hp} {Q : Bool → Hp → Prop} (h : upT K W WD (dTest t) σ H Q) : tTest (up K W WD t) σ H Q := by
  obtain ⟨G, F, ρ, m, QD, x, t, k⟩ := h
  refine ⟨G, F, ρ, m, _, x, t, fun G1 H1 m1 d1 v1 e1 r1 p1 t1 => ?_⟩
  obtain ⟨b, rfl, t2⟩ := t1
  cases p1
  exact ⟨b, rfl, k G1 H1 m1 b e1 r1 t2⟩
theorem tTest_imp {t t' : TE} {σ : L2.St} {H : Hp} {Q : Bool → Hp → Prop} (h : tTest t' σ H Q) (i : ∀ Q, t' σ H Q → t σ H Q) : tTest t σ H Q := i _ h
theorem dt_cmp {op : CmpOp} {r : R2} {rd : DR2} (ho : OpR X (compareOp op) r) (hd : OpD X.K r rd) (ha : DE X W WD a ta) (hb : DE X W WD b tb) (hm : behindInMarks op b = false) : DT X W WD (.Compare a [op] [b] pos) (dTest (dOp rd ta tb)) :=
  PT.imp (pt_cmpR ho ha hb hm) fun _ _ _ h => tTest_imp (upT_test h) fun _ q => up_op hd q
def dChain (rd rd' : DR2) (ta tb tc : DTE) : DTE := fun r m Q => ta r m fun x m1 => tb r m1 fun y m2 => rd x y m2 fun z m3 => ∃ k, z = .bl k ∧ (if k = true then tc r m3 fun w m4 => rd' y w m4 Q else Q (.bl false) m3)
end
def dTruB (m : M) : D → Option Bool
  | .non => some false
  | .bl b => some b
  | .int i => some (i != 0)
  | .str z => if z.length ≤ sizeLine then some ((z.length : Int) != 0) else none
  | .lst xs => some (!xs.isEmpty)
  | .rdl xs => some (!xs.isEmpty)
  | .tup xs => some (!xs.isEmpty)
  | .ref a => (m a).bind fun o => match o with
    | .lst xs => some (!xs.isEmpty)
    | _ => none
  | _ => none
def dTru (t : DTE) : DTT := fun r m Q => t r m fun d m1 => ∃ b, dTruB m1 d = some b ∧ Q b m1
theorem isEmpty_rps {K : PySem.W.Frag} {G : Hp} {ds : List D} {vs : List V} (h : Rps K G ds vs) : ds.isEmpty = vs.isEmpty := by cases h <;> rfl
theorem tru_of {K : PySem.W.Frag} {G H F : Hp} {m : M} {d : D} {v : V} {b : Bool} (r : Rep K G H F m) (p : Rp K G d v) (e : dTruB m d = some b) : TruV K v H b := by
  cases d with
  | non => cases p; cases e; exact rfl
  | bl x => cases p; cases e; exact rfl
  | int i => cases p; cases e; exact rfl
  | str z =>
    cases p
    dsimp only [dTruB] at e
    by_cases hz : z.length ≤ sizeLine
    · rw [if_pos hz] at e; cases e; exact ⟨hz, rfl⟩
    · rw [if_neg hz] at e; cases e
  | lst xs => cases p with | lst h1 r1 => cases e; exact .inl ⟨_, SqL.of (r.ext _ _ h1), by rw [isEmpty_rps r1]⟩
  | rdl xs => cases p with | rdl h1 r1 => cases e; exact .inl ⟨_, r.ext.seq h1, by rw [isEmpty_rps r1]⟩
  | tup xs => cases p with | tup h1 r1 => cases e; exact .inr (.inl ⟨_, same_sqt r.ext h1, by rw [isEmpty_rps r1]⟩)
  | ref a =>
    cases p
    dsimp only [dTruB] at e
    cases q : m a with
    | none => rw [q] at e; cases e
    | some o =>
      rw [q] at e
      cases o with
      | lst xs =>
        obtain ⟨_, _, u, h3, h4⟩ := r.mo a _ q
        obtain ⟨vs, rfl, h4⟩ := h4.ofLst
        cases e
        exact .inl ⟨_, SqL.of h3, by rw [isEmpty_rps h4]⟩
      | _ => cases e
  | _ => cases e
section
variable {X : Cx} {W : WX} {WD : DWX} {a b : Expr} {ta tb : DTE} {pos : Pos} {t u : DTT} {rest : List Expr}
theorem dt_tru (ha : DE X W WD a ta) (he : ∀ whole, isTrue a X.env whole = (do let v ← whole; standAt a.pos; holding [v] (truthy v)) := by intro _; rfl) : DT X W WD a (dTru ta) := by
  refine PT.imp (pt_truth ha he) fun σ H Q h => ?_
  obtain ⟨G, F, ρ, m, QD, x, t, k⟩ := h
  refine ⟨G, F, ρ, m, _, x, t, fun G1 H1 m1 d1 v1 e1 r1 p1 t1 => ?_⟩
  obtain ⟨b, e, t2⟩ := t1
  exact ⟨b, tru_of r1 p1 e, k G1 H1 m1 b e1 r1 t2⟩
def dAnd (t u : DTT) : DTT := fun r m Q => t r m fun c m1 => if c = true then u r m1 Q else Q false m1
def dOr (t u : DTT) : DTT := fun r m Q => t r m fun c m1 => if c = true then Q true m1 else u r m1 Q
def dNot (t : DTT) : DTT := fun r m Q => t r m fun c m1 => Q (!c) m1
theorem dw_or1 (ha : DT X W WD a t) : DW X W WD (.BoolOp .Or [a] pos) t := pw_or1 ha
theorem dw_or (ha : DT X W WD a t) (hb : DW X W WD (.BoolOp .Or (b :: rest) pos) u) : DW X W WD (.BoolOp .Or (a :: b :: rest) pos) (dOr t u) := by
  refine PW.imp (pw_or ha hb) fun σ H Q h => ?_
  obtain ⟨G, F, ρ, m, QD, x, t, k⟩ := h
  refine ⟨G, F, ρ, m, _, x, t, fun G1 H1 m1 b e1 r1 t1 => ?_⟩
  cases b with
  | true => exact k G1 H1 m1 true e1 r1 t1
  | false => exact ⟨G1, F, ρ, m1, QD, x.step e1 r1, t1, fun G2 H2 m2 b e2 r2 t2 => k G2 H2 m2 b (e1.trans e2) r2 t2⟩
theorem dt_w (h : DW X W WD a t) : DT X W WD a t := PW.pt h
theorem dt_not (ha : DT X W WD a t) : DT X W WD (.UnaryOp .Not a pos) (dNot t) := by
  refine PT.imp (pt_not ha) fun σ H Q h => ?_
  obtain ⟨G, F, ρ, m, QD, x, t, k⟩ := h
  exact ⟨G, F, ρ, m, _, x, t, fun G1 H1 m1 b e1 r1 t1 => k G1 H1 m1 (!b) e1 r1 t1⟩
def dAndV (ta tb : DTE) : DTE := fun r m Q => ta r m fun d m1 => ∃ c, d = .bl c ∧ if c = true then tb r m1 Q else Q (.bl false) m1
def dOrV (ta tb : DTE) : DTE := fun r m Q => ta r m fun d m1 => ∃ c, d = .bl c ∧ if c = true then Q (.bl true) m1 else tb r m1 Q
def dNotV (ta : DTE) : DTE := fun r m Q => ta r m fun d m1 => ∃ c, d = .bl c ∧ Q (.bl (!c)) m1
theorem de_one {op} (h : DE X W WD a ta) : DE X W WD (.BoolOp op [a] pos) ta := pe_one h
theorem de_and (ha : DE X W WD a ta) (hb : DE X W WD (.BoolOp .And (b :: rest) pos) tb) : DE X W WD (.BoolOp .And (a :: b :: rest) pos) (dAndV ta tb) := by
  refine PE.imp (pe_and ha hb) fun σ H Q h => ?_
  obtain ⟨G, F, ρ, m, QD, x, t, k⟩ := h
  refine ⟨G, F, ρ, m, _, x, t, fun G1 H1 m1 d1 v1 e1 r1 p1 t1 => ?_⟩
  obtain ⟨c, rfl, t2⟩ := t1
  cases p1
  refine ⟨c, rfl, ?_⟩
  cases c with
  | true => exact ⟨G1, F, ρ, m1, QD, x.step e1 r1, t2, k.mono e1⟩
  | false => exact k G1 H1 m1 _ _ e1 r1 (.bl _) t2
def dIf (t : DTT) (ta tb : DTE) : DTE := fun r m Q => t r m fun c m1 => if c = true then ta r m1 Q else tb r m1 Q
end
end DL

set_option Elab.async false
set_option linter.all false
set_option maxRecDepth 100000
set_option maxHeartbeats 4000000
namespace DL
open PySem PySem.Spec PyProof.Rows L2

def daNil : DTA := fun _ m Q => Q [] m
def daCons (ta : DTE) (tr : DTA) : DTA := fun r m Q => ta r m fun x m1 => tr r m1 fun xs m2 => Q (x :: xs) m2
section
variable {X : Cx} {W : WX} {WD : DWX} {e : Expr} {es : List Expr} {te : DTE} {t : DTA} {pos : Pos}
theorem da_nil : DA X W WD [] daNil := by
  refine PA.imp pa_nil fun σ H Q h => ?_
  obtain ⟨G, F, ρ, m, QD, x, t, k⟩ := h
  exact k G H m [] [] (Same.refl G) x.rep .nil t
theorem da_cons (ha : DE X W WD e te) (hr : DA X W WD es t) (hs : starEach (e :: es) X.env = (false, eval e X.env) :: starEach es X.env := by rfl) : DA X W WD (e :: es) (daCons te t) := by
  refine PA.imp (pa_cons ha hr hs) fun σ H Q h => ?_
  obtain ⟨G, F, ρ, m, QD, x, t, k⟩ := h
  refine ⟨G, F, ρ, m, _, x, t, fun G1 H1 m1 d1 v1 e1 r1 p1 t1 => ?_⟩
  exact ⟨G1, F, ρ, m1, _, x.step e1 r1, t1, fun G2 H2 m2 ds vs e2 r2 p2 t2 => k G2 H2 m2 (d1 :: ds) (v1 :: vs) (e1.trans e2) r2 (.cons (p1.mono e2) p2) t2⟩
def dTup (t : DTA) : DTE := fun r m Q => t r m fun xs m1 => xs.length ≤ sizeLine ∧ Q (.tup xs) m1
def dLst (mt : Bool) (t : DTA) : DTE := fun r m Q => t r m fun xs m1 => xs.length ≤ sizeLine ∧ mkL mt xs m1 Q
theorem de_tup {x1} (h : DA X W WD es t) : DE X W WD (.Tuple es x1 pos) (dTup t) := by
  refine PE.imp (pe_tup h) fun σ H Q h => ?_
  obtain ⟨G, F, ρ, m, QD, x, t, k⟩ := h
  refine ⟨G, F, ρ, m, _, x, t, fun G1 H1 m1 ds vs e1 r1 p1 t1 => ⟨by rw [← p1.length]; exact t1.1, fun p hp => ?_⟩⟩
  exact mkT_ok (k.mono e1) r1 p1 hp t1.2
theorem de_lst (mt : Bool) (h : DA X W WD es t) : DE X W WD (.List es pos) (dLst mt t) := by
  refine PE.imp (pe_lst h) fun σ H Q h => ?_
  obtain ⟨G, F, ρ, m, QD, x, t, k⟩ := h
  refine ⟨G, F, ρ, m, _, x, t, fun G1 H1 m1 ds vs e1 r1 p1 t1 => ⟨by rw [← p1.length]; exact t1.1, fun p hp => ?_⟩⟩
  exact mkL_ok (k.mono e1) r1 p1 hp t1.2
end

def lsOf (m : M) : D → Option (List D)
  | .lst xs => some xs
  | .rdl xs => some xs
  | .ref a => (m a).bind fun o => match o with
    | .lst xs => some xs
    | _ => none
  | _ => none
theorem lsOf_ref {m : M} {a : Addr} {xs : List D} (h : m a = some (.lst xs)) : lsOf m (.ref a) = some xs := by
  dsimp only [lsOf]; rw [h]; rfl
theorem ls_ok {K : PySem.W.Frag} {G H F : Hp} {m : M} {d : D} {v : V} {xs : List D} (r : Rep K G H F m) (p : Rp K G d v) (e : lsOf m d = some xs) : ∃ a vs, v = .ref a ∧ SqL K H a vs ∧ Rps K G xs vs := by
  cases d with
  | lst ys => cases e; cases p with | lst h1 r1 => exact ⟨_, _, rfl, SqL.of (r.ext _ _ h1), r1⟩
  | rdl ys => cases e; cases p with | rdl h1 r1 => exact ⟨_, _, rfl, r.ext.seq h1, r1⟩
  | ref a =>
    cases p
    dsimp only [lsOf] at e
    cases q : m a with
    | none => rw [q] at e; cases e
    | some o =>
      rw [q] at e
      cases o with
      | lst zs =>
        obtain ⟨_, _, u, h3, h4⟩ := r.mo a _ q
        obtain ⟨vs, rfl, h4⟩ := h4.ofLst
        cases e
        exact ⟨_, _, rfl, SqL.of h3, h4⟩
      | _ => cases e
  | _ => cases e
def sqOf (m : M) : D → Option (List D)
  | .tup xs => some xs
  | d => lsOf m d
theorem sq_ok {K : PySem.W.Frag} {G H F : Hp} {m : M} {d : D} {v : V} {xs : List D} (r : Rep K G H F m) (p : Rp K G d v) (e : sqOf m d = some xs) : ∃ a vs, v = .ref a ∧ (SqL K H a vs ∨ SqT K H a vs) ∧ Rps K G xs vs := by
  cases d with
  | tup ys => cases e; cases p with | tup h1 r1 => exact ⟨_, _, rfl, .inr (same_sqt r.ext h1), r1⟩
  | _ =>
    obtain ⟨a, vs, h1, h2, h3⟩ := ls_ok r p e
    exact ⟨a, vs, h1, .inl h2, h3⟩
theorem rps_atI {K : PySem.W.Frag} {G : Hp} {ds : List D} {vs : List V} {i : Int} {d : D} (r : Rps K G ds vs) (h : atI ds i = some d) : ∃ v, atI vs i = some v ∧ Rp K G d v := by
  unfold atI at h ⊢
  rw [← r.length]
  cases q : ixN ds.length i with
  | none => rw [q] at h; cases h
  | some j =>
    rw [q] at h
    exact r.get (i := j) h
def dIx : DR2 := fun x y m Q => ∃ i, y = .int i ∧ match x with
  | .str z => z.length ≤ sizeLine ∧ ∃ c, atI z.cps.toList i = some c ∧ Q (.str ⟨#[c]⟩) m
  | x => ∃ xs d, sqOf m x = some xs ∧ atI xs i = some d ∧ Q d m
section
variable {K : PySem.W.Frag} {X : Cx} {W : WX} {WD : DWX} {a b e : Expr} {ta tb te : DTE} {pos : Pos}
theorem od_ix : OpD K (rIx K) dIx := by
  intro G H F m x y vx vy QD Q r px py t k
  obtain ⟨i, rfl, t⟩ := t
  cases py
  have go : (∃ xs d, sqOf m x = some xs ∧ atI xs i = some d ∧ QD d m) → rIx K vx (.int i) H Q := by
    rintro ⟨xs, d, e, h, t⟩
    obtain ⟨a, vs, rfl, hs, rs⟩ := sq_ok r px e
    obtain ⟨v, h1, h2⟩ := rps_atI rs h
    rcases hs with hs | hs
    · exact .inl ⟨a, vs, i, v, rfl, rfl, hs, h1, k.here r h2 t⟩
    · exact .inr (.inl ⟨a, vs, i, v, rfl, rfl, hs, h1, k.here r h2 t⟩)
  cases x with
  | str z =>
    cases px
    obtain ⟨hz, c, hc, t⟩ := t
    exact .inr (.inr ⟨z, i, c, rfl, rfl, hz, hc, k.here r (.str _) t⟩)
  | _ => exact go t
theorem de_ix (ha : DE X W WD a ta) (hb : DE X W WD b tb) (hs : PlainIx b := by intro _ _; rfl) : DE X W WD (.Subscript a b pos) (dOp dIx ta tb) := PE.imp (pe_ix ix_seq ha hb hs) fun _ _ _ h => up_op od_ix h
def doNone : DO := fun _ m Q => Q none m
def doSome (t : DTE) : DO := fun r m Q => t r m fun d m1 => ∃ i, d = .int i ∧ Q (some i) m1
def cutD {α : Type} (xs : List α) (lo hi : Option Int) : List α := (xs.drop (HT.sIx xs.length 0 lo)).take (HT.sIx xs.length xs.length hi - HT.sIx xs.length 0 lo)
def dSl (mt : Bool) (x : D) (lo hi : Option Int) (m : M) (Q : D → M → Prop) : Prop := match x with
  | .str z => z.length ≤ sizeLine ∧ Q (.str (cutS z lo hi)) m
  | .tup xs => ¬ (HT.sIx xs.length 0 lo = 0 ∧ HT.sIx xs.length xs.length hi = xs.length) ∧ Q (.tup (cutD xs lo hi)) m
  | x => ∃ xs, lsOf m x = some xs ∧ mkL mt (cutD xs lo hi) m Q
def dSlice (mt : Bool) (te : DTE) (tl th : DO) : DTE := fun r m Q => te r m fun x m1 => tl r m1 fun l m2 => th r m2 fun u m3 => dSl mt x l u m3 Q
def flatD : D → Bool
  | .non => true
  | .bl _ => true
  | .int _ => true
  | .str _ => true
  | _ => false
def eqD : D → D → Bool
  | .non, .non => true
  | .bl a, .bl b => a == b
  | .bl a, .int b => (if a then 1 else 0) == b
  | .int a, .bl b => a == (if b then 1 else 0)
  | .int a, .int b => a == b
  | .str a, .str b => a == b
  | _, _ => false
def inD (x : D) (xs : List D) : Bool := xs.any fun y => eqD y x
def dIn (neg : Bool) : DR2 := fun x y m Q => match x, y with
  | .str i, .str j => Q (.bl (if neg then !(!(Builtin.Str.occurrences j i 0 j.length 1).isEmpty) else !(Builtin.Str.occurrences j i 0 j.length 1).isEmpty)) m
  | x, y => ∃ xs, sqOf m y = some xs ∧ flatD x = true ∧ xs.all flatD = true ∧ Q (.bl (if neg then !inD x xs else inD x xs)) m
end
def CallD (K : PySem.W.Frag) (r : List V → Hp → VK → Prop) (rd : DRC) : Prop :=
  ∀ (G H F : Hp) (m : M) (ds : List D) (vs : List V) (QD : D → M → Prop) (Q : VK), Rep K G H F m → Rps K G ds vs → rd ds m QD → Kv K G F QD Q → r vs H Q
def dCB (rd : DRC) (t : DTA) : DTE := fun r m Q => t r m fun ds m1 => rd ds m1 Q
theorem up_cb {K : PySem.W.Frag} {W : WX} {WD : DWX} {r : List V → Hp → VK → Prop} {rd : DRC} {t : DTA} {σ : L2.St} {H : Hp} {Q : VK} (hd : CallD K r rd) (h : up K W WD (dCB rd t) σ H Q) : tCB r (upA K W WD t) σ H Q := by
  obtain ⟨G, F, ρ, m, QD, x, t, k⟩ := h
  exact ⟨G, F, ρ, m, _, x, t, fun G1 H1 m1 ds vs e1 r1 p1 t1 => hd G1 H1 F m1 ds vs QD Q r1 p1 t1 (k.mono e1)⟩
theorem CallR.or {X : Cx} {f : Value} {r r' : List V → Hp → VK → Prop} (h : CallR X f r) (h' : CallR X f r') : CallR X f (fun xs H Q => r xs H Q ∨ r' xs H Q) := fun pins s σ H xs us Q I v q => by
  rcases q with q | q
  · exact h pins s σ H xs us Q I v q
  · exact h' pins s σ H xs us Q I v q
section
variable {K : PySem.W.Frag} {X : Cx} {W : WX} {WD : DWX} {e : Expr} {es : List Expr} {t : DTA} {p pos : Pos} {r : List V → Hp → VK → Prop} {rd : DRC} {x : Str} {id T : String}
theorem de_callB (hc : CallR X (.builtin id) r) (hd : CallD X.K r rd) (hg : Gl X x) (hm : X.mg x = none) (hv : bootBuiltins x = some (.builtin id)) (ha : DA X W WD (e :: es) t) (hn : x ≠ "__name__" := by decide) (hdb : (x == ("__debug__" : Str)) = false := by decide)
    (he : starEach (e :: es) X.env = (false, eval e X.env) :: starEach es X.env := by rfl) (hpl : (backTo pos (starEach es X.env)).any (·.1) = false := by rfl) : DE X W WD (.Call (.Name x p) (e :: es) [] pos) (dCB rd t) :=
  PE.imp (pe_callB hc hg hm hv ha hn hdb he hpl) fun _ _ _ h => up_cb hd h
theorem de_callTy (hc : CallR X (.type T) r) (hd : CallD X.K r rd) (hg : Gl X x) (hm : X.mg x = none) (hv : bootBuiltins x = some (.type T)) (ha : DA X W WD (e :: es) t) (hn : x ≠ "__name__" := by decide) (hdb : (x == ("__debug__" : Str)) = false := by decide)
    (he : starEach (e :: es) X.env = (false, eval e X.env) :: starEach es X.env := by rfl) (hpl : (backTo pos (starEach es X.env)).any (·.1) = false := by rfl) : DE X W WD (.Call (.Name x p) (e :: es) [] pos) (dCB rd t) :=
  PE.imp (pe_callTy hc hg hm hv ha hn hdb he hpl) fun _ _ _ h => up_cb hd h
theorem rps1 {G : Hp} {d : D} {vs : List V} (h : Rps K G [d] vs) : ∃ v, vs = [v] ∧ Rp K G d v := by
  cases h with | cons r t => cases t; exact ⟨_, rfl, r⟩
theorem rps2 {G : Hp} {d e : D} {vs : List V} (h : Rps K G [d, e] vs) : ∃ v u, vs = [v, u] ∧ Rp K G d v ∧ Rp K G e u := by
  cases h with | cons r t => cases t with | cons r2 t2 => cases t2; exact ⟨_, _, rfl, r, r2⟩
def dLen : DRC := fun ds m Q => ∃ d, ds = [d] ∧ match d with
  | .str z => z.length ≤ sizeLine ∧ Q (.int z.length) m
  | d => ∃ xs, sqOf m d = some xs ∧ Q (.int xs.length) m
theorem cd_len : CallD K (fun xs H Q => ∃ x n, xs = [x] ∧ LenV K x H n ∧ Q (.int n) H) dLen := by
  intro G H F m ds vs QD Q r ps t k
  obtain ⟨d, rfl, t⟩ := t
  obtain ⟨v, rfl, p⟩ := rps1 ps
  have go : (∃ xs, sqOf m d = some xs ∧ QD (.int xs.length) m) → ∃ x n, [v] = [x] ∧ LenV K x H n ∧ Q (.int n) H := by
    rintro ⟨xs, e, t⟩
    obtain ⟨a, vs, rfl, hs, rs⟩ := sq_ok r p e
    refine ⟨_, xs.length, rfl, ?_, k.here r (.int _) t⟩
    rcases hs with hs | hs
    · exact .inl ⟨vs, hs, rs.length⟩
    · exact .inr ⟨vs, hs, rs.length⟩
  cases d with
  | str z => cases p; exact ⟨_, z.length, rfl, ⟨t.1, rfl⟩, k.here r (.int _) t.2⟩
  | _ => exact go t
def dInt1 : DRC := fun ds m Q => match ds with
  | [.int i] => Q (.int i) m
  | [.bl b] => Q (.int (if b then 1 else 0)) m
  | _ => False
theorem cd_int1 : CallD K (fun xs H Q => (∃ i, xs = [.int i] ∧ Q (.int i) H) ∨ ∃ k, xs = [.bl k] ∧ Q (.int (if k then 1 else 0)) H) dInt1 := by
  intro G H F m ds vs QD Q r ps t k
  match ds, t with
  | [.int i], t =>
    obtain ⟨v, rfl, p⟩ := rps1 ps
    cases p; exact .inl ⟨i, rfl, k.here r (.int _) t⟩
  | [.bl i], t =>
    obtain ⟨v, rfl, p⟩ := rps1 ps
    cases p; exact .inr ⟨i, rfl, k.here r (.int _) t⟩
def dAbs : DRC := fun ds m Q => match ds with
  | [.int i] => Q (.int (if i < 0 then -i else i)) m
  | _ => False
def dMax : DRC := fun ds m Q => match ds with
  | [d] => ∃ ns : List Int, lsOf m d = some (ns.map D.int) ∧ 0 < ns.length ∧ ∀ k, k ∈ ns → (∀ y, y ∈ ns → y ≤ k) → Q (.int k) m
  | [d, e] => ∃ i j, d = .int i ∧ e = .int j ∧ Q (.int (max i j)) m
  | _ => False
def dMin : DRC := fun ds m Q => match ds with
  | [d] => ∃ ns : List Int, lsOf m d = some (ns.map D.int) ∧ 0 < ns.length ∧ ∀ k, k ∈ ns → (∀ y, y ∈ ns → k ≤ y) → Q (.int k) m
  | [d, e] => ∃ i j, d = .int i ∧ e = .int j ∧ Q (.int (min i j)) m
  | _ => False
def dSum : DRC := fun ds m Q => ∃ d, ds = [d] ∧ ∃ ns : List Int, lsOf m d = some (ns.map D.int) ∧ Q (.int ns.sum) m
def dAll : DRC := fun ds m Q => ∃ d, ds = [d] ∧ ∃ bs : List Bool, lsOf m d = some (bs.map D.bl) ∧ Q (.bl (bs.all _root_.id)) m
def dAny : DRC := fun ds m Q => ∃ d, ds = [d] ∧ ∃ bs : List Bool, lsOf m d = some (bs.map D.bl) ∧ Q (.bl (bs.any _root_.id)) m
def dList (mt : Bool) : DRC := fun ds m Q => ∃ d, ds = [d] ∧ ∃ xs, sqOf m d = some xs ∧ mkL mt xs m Q
def dTuple : DRC := fun ds m Q => ∃ d, ds = [d] ∧ ∃ xs, sqOf m d = some xs ∧ Q (.tup xs) m
def tyName (m : M) : D → Option String
  | .non => some "NoneType"
  | .bl _ => some "bool"
  | .int _ => some "int"
  | .str _ => some "str"
  | .lst _ => some "list"
  | .tup _ => some "tuple"
  | .ref a => (m a).bind fun o => match o with
    | .lst _ => some "list"
    | .dK _ => some "dict"
    | .dT _ => some "dict"
    | _ => none
  | _ => none
theorem sqt_ty {H : Hp} {a : Addr} {vs : List V} (h : SqT K H a vs) : TyX K H (.ref a) (.type "tuple") := by
  rcases h with (h | ⟨o, h⟩) | ⟨o, its, n, h1, h2, _⟩
  · exact .base (.tup h)
  · exact .fTuple h
  · exact .kTuple h1 h2
theorem ty_ok {G H F : Hp} {m : M} {d : D} {v : V} {T : String} (r : Rep K G H F m) (p : Rp K G d v) (e : tyName m d = some T) : TyX K H v (.type T) := by
  cases d with
  | non => cases e; cases p; exact .base .non
  | bl b => cases e; cases p; exact .base (.bl b)
  | int b => cases e; cases p; exact .base (.int b)
  | str b => cases e; cases p; exact .base (.str b)
  | lst xs => cases e; cases p with | lst h1 r1 => exact .base (.lst (r.ext _ _ h1))
  | tup xs => cases e; cases p with | tup h1 r1 => exact sqt_ty (same_sqt r.ext h1.1)
  | ref a =>
    cases p
    dsimp only [tyName] at e
    cases q : m a with
    | none => rw [q] at e; cases e
    | some o =>
      rw [q] at e
      obtain ⟨_, _, u, h3, h4⟩ := r.mo a _ q
      cases o with
      | lst xs => cases e; obtain ⟨vs, rfl, _⟩ := h4.ofLst; exact .base (.lst h3)
      | dK xs => cases e; cases u with
        | dK kv => exact .base (.dK h3)
        | _ => exact h4.elim
      | dT xs => cases e; cases u with
        | dT kv => exact .base (.dT h3)
        | _ => exact h4.elim
      | _ => cases e
  | _ => cases e
structure ClsI (K : PySem.W.Frag) (C : Addr) : Prop where
  cl : Cls K C
  ha : PySem.W.findIn K (.ref C) "__class__" = some (some (.builtin "object.__class__"))
  hn : PySem.W.specialIn K (.builtin "object.__class__") "__get__" = some (some (.builtin "getset_descriptor.__get__"))
  tk : PySem.W.takesIn K (.builtin "object.__class__") = some true
  hm : PySem.W.mroIn K C (.type "object") = some true
def IsiD (K : PySem.W.Frag) (m : M) (d c : D) (b : Bool) : Prop :=
  ∃ u, ((∃ T, c = .ty T ∧ u = Value.type T) ∨ (∃ C, c = .ref C ∧ u = .ref C)) ∧
    ((∃ S, tyName m d = some S ∧ PySem.W.kitOne K (.type S) u = some b) ∨ (∃ C fs, d = .ins C fs ∧ ClsI K C ∧ PySem.W.kitOne K (.ref C) u = some b))
def dIsi (K : PySem.W.Frag) : DRC := fun ds m Q => ∃ d c b, ds = [d, c] ∧ IsiD K m d c b ∧ Q (.bl b) m
theorem cd_isi : CallD K (rIsi K) (dIsi K) := by
  intro G H F m ds vs QD Q r ps t k
  obtain ⟨d, c, b, rfl, ⟨u, hc, hd⟩, t⟩ := t
  obtain ⟨v, w, rfl, p, q⟩ := rps2 ps
  have cv : ClsV w u := by
    rcases hc with ⟨T, rfl, rfl⟩ | ⟨C, rfl, rfl⟩
    · cases q; exact .ty T
    · cases q; exact .own C
  rcases hd with ⟨S, e, hk⟩ | ⟨C, fs, rfl, I, hk⟩
  · exact ⟨v, w, .type S, u, b, rfl, cv, ty_ok r p e, hk, k.here r (.bl _) t⟩
  · cases p with | ins h1 r1 =>
    exact ⟨_, w, .ref C, u, b, rfl, cv, .base (.ins (r.ext _ _ h1) I.cl I.ha I.hn I.tk I.hm), hk, k.here r (.bl _) t⟩
end
end DL

set_option Elab.async false
set_option linter.all false
set_option maxRecDepth 100000
set_option maxHeartbeats 4000000
namespace DL
open PySem PySem.Spec PyProof.Rows L2

def upS (K : PySem.W.Frag) (W : WX) (WD : DWX) (t : DTS) : TS := fun E σ H => ∃ (G F : Hp) (r : DSt) (m : M) (DD : DEnds), Sx K W WD G H F r σ m ∧ t DD r m ∧ Lk K G F DD E
abbrev DS (X : Cx) (W : WX) (WD : DWX) (st : Stmt) (t : DTS) : Prop := PS X st (upS X.K W WD t)
abbrev DSs (X : Cx) (W : WX) (WD : DWX) (st : List Stmt) (t : DTS) : Prop := PSs X st (upS X.K W WD t)
def dNext : DTS := fun DD r m => DD.nx r m
def dSeq (t u : DTS) : DTS := fun DD r m => t { DD with nx := u DD } r m
section
variable {X : Cx} {W : WX} {WD : DWX} {st : Stmt} {rest : List Stmt} {t u : DTS} {e : Expr} {te : DTE} {pos : Pos}
theorem dss_nil : DSs X W WD [] dNext := by
  refine PSs.imp pss_nil fun E σ H h => ?_
  obtain ⟨G, F, r, m, DD, x, t, k⟩ := h
  exact k.nx G H m r σ (Same.refl G) x.rep x.rs t
theorem dss_cons (h1 : DS X W WD st t) (h2 : DSs X W WD rest u) : DSs X W WD (st :: rest) (dSeq t u) := by
  refine PSs.imp (pss_cons h1 h2) fun E σ H h => ?_
  obtain ⟨G, F, r, m, DD, x, t, k⟩ := h
  exact ⟨G, F, r, m, { DD with nx := u DD }, x, t, ⟨fun G1 H1 m1 r1 s1 e1 p1 q1 t1 => ⟨G1, F, r1, m1, DD, x.to e1 p1 q1, t1, k.mono e1⟩, k.rt, k.bk, k.ct⟩⟩
theorem dss_one (h1 : DS X W WD st t) : DSs X W WD [st] t := pss_one h1
def dBreak : DTS := fun DD r m => DD.bk r m
def dCont : DTS := fun DD r m => DD.ct r m
def dDrop (te : DTE) : DTS := fun DD r m => te r m fun _ m1 => DD.nx r m1
theorem ds_expr (he : DE X W WD e te) (hs : swapsWith e none pos.line X.env = pure false := by rfl) : DS X W WD (.Expr e pos) (dDrop te) := by
  refine PS.imp (ps_expr he hs) fun E σ H h => ?_
  obtain ⟨G, F, r, m, DD, x, t, k⟩ := h
  exact ⟨G, F, r, m, _, x, t, fun G1 H1 m1 d v e1 p1 q1 t1 => k.nx G1 H1 m1 r σ e1 p1 (x.rs.mono e1) t1⟩
def dRet (te : DTE) : DTS := fun DD r m => te r m DD.rt
theorem ds_ret (he : DE X W WD e te) : DS X W WD (.Return (some e) pos) (dRet te) := by
  refine PS.imp (ps_ret he) fun E σ H h => ?_
  obtain ⟨G, F, r, m, DD, x, t, k⟩ := h
  exact ⟨G, F, r, m, _, x, t, k.rt⟩
def frzV (m : M) (d : D) (Q : D → M → Prop) : Prop := match d with
  | .ref a => (match m a with
    | some (.lst ds) => Q (.lst ds) (mdel m a)
    | some (.ins C fs) => Q (.ins C fs) (mdel m a)
    | _ => False)
  | _ => False
def dFrzE (te : DTE) : DTE := fun r m Q => te r m fun d m1 => frzV m1 d Q
def dRetN : DTS := fun DD _ m => DD.rt .non m
def dIfS (c : DTT) (t u : DTS) : DTS := fun DD r m => c r m fun b m1 => if b = true then t DD r m1 else u DD r m1
theorem ds_if {c : Expr} {a b : List Stmt} {tc : DTT} (hc : DT X W WD c tc) (ha : DSs X W WD a t) (hb : DSs X W WD b u) : DS X W WD (.If c a b pos) (dIfS tc t u) := by
  refine PS.imp (ps_if hc ha hb) fun E σ H h => ?_
  obtain ⟨G, F, r, m, DD, x, t, k⟩ := h
  refine ⟨G, F, r, m, _, x, t, fun G1 H1 m1 b e1 p1 t1 => ?_⟩
  cases b with
  | true => exact ⟨G1, F, r, m1, DD, x.step e1 p1, t1, k.mono e1⟩
  | false => exact ⟨G1, F, r, m1, DD, x.step e1 p1, t1, k.mono e1⟩
end

abbrev DTGs := List D → DSt → M → (DSt → M → Prop) → Prop
def upG (K : PySem.W.Frag) (W : WX) (WD : DWX) (t : DTG) : TG := fun v σ H Q => ∃ (G F : Hp) (r : DSt) (m : M) (d : D) (QD : DSt → M → Prop), Sx K W WD G H F r σ m ∧ Rp K G d v ∧ t d r m QD ∧ Ks K G F QD Q
abbrev DG (X : Cx) (W : WX) (WD : DWX) (tg : Expr) (t : DTG) : Prop := PG X tg (upG X.K W WD t)
def gN (i : Nat) : DTG := fun d r m Q => Q (r.set i (some d)) m
def gsNil : DTGs := fun ds r m Q => ds = [] ∧ Q r m
def gsCons (t : DTG) (u : DTGs) : DTGs := fun ds r m Q => ∃ d rest, ds = d :: rest ∧ t d r m fun r1 m1 => u rest r1 m1 Q
def gT (n : Nat) (t : DTGs) : DTG := fun d r m Q => ∃ xs, sqOf m d = some xs ∧ xs.length = n ∧ t xs r m Q
section
variable {X : Cx} {W : WX} {WD : DWX} {pos : Pos}
theorem dg_name {i : Nat} {x : Str} (hN : X.N.Nodup) (hi : X.N[i]? = some x) (hx : Loc X.env.scope x) (hf : X.fn x = true ∨ X.env.scope.names.lookup x = some .local := by first | exact .inl rfl | exact .inr rfl | assumption) : DG X W WD (.Name x pos) (gN i) := by
  refine PG.imp (pg_name hN hi hx hf) fun v σ H Q h => ?_
  obtain ⟨G, F, r, m, d, QD, x, p, t, k⟩ := h
  exact k G H m _ _ (Same.refl G) x.rep (x.rs.set p) t
def gSet (to ti : DTE) : DTG := fun v r m Q => to r m fun o m1 => ti r m1 fun i m2 => ∃ a xs k j, o = .ref a ∧ i = .int k ∧ m2 a = some (.lst xs) ∧ ixN xs.length k = some j ∧ Q r (mset m2 a (.lst (xs.set j v)))
theorem dg_sub {o i : Expr} {to ti : DTE} (ho : DE X W WD o to) (hi : DE X W WD i ti)
    (ha : ∀ v, assign (.Subscript o i pos) X.env v = (do
      let ov ← holding [v] (eval o X.env)
      let iv ← holding [v, ov] (eval i X.env)
      standAt pos
      holding [v, ov, iv] (setItem ov iv v)
      release [v, ov, iv] []) := by intro _; rfl) : DG X W WD (.Subscript o i pos) (gSet to ti) := by
  refine PG.imp (pg_sub ho hi set_list ha) fun v σ H Q h => ?_
  obtain ⟨G, F, r, m, d, QD, x, p, t, k⟩ := h
  refine ⟨G, F, r, m, _, x, t, fun G1 H1 m1 d1 v1 e1 r1 p1 t1 => ?_⟩
  refine ⟨G1, F, r, m1, _, x.step e1 r1, t1, fun G2 H2 m2 d2 v2 e2 r2 p2 t2 => ?_⟩
  obtain ⟨a, xs, kk, j, rfl, rfl, hm, hj, t3⟩ := t2
  cases p1; cases p2
  obtain ⟨_, _, u, h3, h4⟩ := r2.mo a _ hm
  obtain ⟨vs, rfl, h4⟩ := h4.ofLst
  refine ⟨a, vs, kk, j, rfl, rfl, h3, by rw [← h4.length]; exact hj, ?_⟩
  exact k G2 _ _ r σ (e1.trans e2) (r2.write hm (show RpM X.K G2 (.lst (xs.set j d)) (.lst (vs.set j v)) from h4.set (p.mono (e1.trans e2)) j)) (x.rs.mono (e1.trans e2)) t3
def dAsg (te : DTE) (g : DTG) : DTS := fun DD r m => te r m fun d m1 => g d r m1 DD.nx
theorem ds_asg {tg e : Expr} {te : DTE} {g : DTG} (he : DE X W WD e te) (hg : DG X W WD tg g) (hs : swapsWithSole [tg] e pos.line X.env = pure false := by rfl) (hw : swappedStores [tg] e X.env = pure none := by rfl)
    (h1 : (assignEach [tg] X.env).map (·.2) = [assign tg X.env] := by rfl) : DS X W WD (.Assign [tg] e pos) (dAsg te g) := by
  refine PS.imp (ps_asg he hg hs hw h1) fun E σ H h => ?_
  obtain ⟨G, F, r, m, DD, x, t, k⟩ := h
  exact ⟨G, F, r, m, _, x, t, fun G1 H1 m1 d v e1 p1 q1 t1 => ⟨G1, F, r, m1, d, _, x.step e1 p1, q1, t1, k.nx.mono e1⟩⟩
def dSet (i : Nat) (te : DTE) : DTS := fun DD r m => te r m fun d m1 => DD.nx (r.set i (some d)) m1
theorem ds_set {i : Nat} {x : Str} {e : Expr} {te : DTE} {pos' : Pos} (hN : X.N.Nodup) (hi : X.N[i]? = some x) (hx : Loc X.env.scope x) (he : DE X W WD e te) (hs : swapsWith e (some (.Name x pos')) pos.line X.env = pure false := by rfl) (hf : X.fn x = true ∨ X.env.scope.names.lookup x = some .local := by first | exact .inl rfl | exact .inr rfl | assumption) :
    DS X W WD (.Assign [.Name x pos'] e pos) (dSet i te) := by
  refine PS.imp (ps_set (i := i) hN hi hx he hs hf) fun E σ H h => ?_
  obtain ⟨G, F, r, m, DD, x, t, k⟩ := h
  exact ⟨G, F, r, m, _, x, t, fun G1 H1 m1 d v e1 p1 q1 t1 => k.nx G1 H1 m1 _ _ e1 p1 ((x.rs.mono e1).set q1) t1⟩
def dPar (i j : Nat) (ta : DTA) : DTS := fun DD r m => ta r m fun ds m1 => ∃ d e, ds = [d, e] ∧ DD.nx ((r.set i (some d)).set j (some e)) m1
def dAddI : DR2
  | .int i, .int j, m, Q => Q (.int (i + j)) m
  | _, _, _, _ => False
def dAug (i : Nat) (te : DTE) (rd : DR2) : DTS := fun DD r m => ∃ x, slot r i = some x ∧ te r m fun y m1 => rd x y m1 fun z m2 => DD.nx (r.set i (some z)) m2
end
end DL

set_option Elab.async false
set_option linter.all false
set_option maxRecDepth 100000
set_option maxHeartbeats 4000000
namespace DL
open PySem PySem.Spec PyProof.Rows L2

structure ItD (K : PySem.W.Frag) (J : It) (G : Hp) (ds : List D) : Prop where
  stop : ∀ H, Same G H → J.stop ds.length H
  go : ∀ i H, i < ds.length → Same G H → J.go i H
  yld : ∀ (i : Nat) (G1 H F : Hp) (m : M) (x : V) (H' : Hp) (d : D), Same G G1 → Rep K G1 H F m → ds[i]? = some d → J.yld i H x H' → ∃ G2, Same G1 G2 ∧ Rep K G2 H' F m ∧ Rp K G2 d x
def upI (K : PySem.W.Frag) (W : WX) (WD : DWX) (t : DTI) : TI := fun σ H R => ∃ (G F : Hp) (r : DSt) (m : M) (QD : List D → M → Prop), Sx K W WD G H F r σ m ∧ t r m QD ∧ ∀ G' H' m' ds J, Same G G' → Rep K G' H' F m' → ItD K J G' ds → QD ds m' → R J H'
abbrev DI (X : Cx) (W : WX) (WD : DWX) (tg iter : Expr) (t : DTI) : Prop := PI X tg iter (upI X.K W WD t)
section
variable {X : Cx} {W : WX} {WD : DWX} {tg : Expr}
def rngD (lo : Int) (n : Nat) : List D := (List.range n).map fun (k : Nat) => D.int (lo + (k : Int))
theorem rngD_len (lo : Int) (n : Nat) : (rngD lo n).length = n := by simp [rngD]
theorem rngD_at {lo : Int} {n i : Nat} {d : D} (h : (rngD lo n)[i]? = some d) : d = .int (lo + (i : Int)) ∧ i < n := by
  unfold rngD at h
  rw [List.getElem?_map] at h
  by_cases hi : i < n
  · rw [List.getElem?_range hi] at h
    cases h
    exact ⟨rfl, hi⟩
  · rw [List.getElem?_eq_none (by simp; omega)] at h
    cases h
theorem it_list {K : PySem.W.Frag} {G : Hp} {a : Addr} {vs : List V} {ds : List D} (h : SqL K G a vs) (r : Rps K G ds vs) : ItD K (Itl K a) G ds where
  stop := fun H e => ⟨vs, e.seq h, by rw [r.length]; exact Nat.le_refl _⟩
  go := fun i H hi e => by
    have hv : i < vs.length := by rw [← r.length]; exact hi
    exact ⟨vs, vs[i], e.seq h, by simp [hv]⟩
  yld := fun i G1 H F m x H' d e rep hd y => by
    obtain ⟨rfl, y⟩ := y
    obtain ⟨v, h1, h2⟩ := r.get hd
    have q := y vs ((e.trans rep.ext).seq h)
    rw [h1] at q
    cases q
    exact ⟨G1, Same.refl G1, rep, h2.mono e⟩
theorem it_rng {K : PySem.W.Frag} {G : Hp} (lo : Int) (n : Nat) : ItD K (Itr lo n) G (rngD lo n) where
  stop := fun H e => by rw [rngD_len]; exact Nat.le_refl _
  go := fun i H hi e => by rw [rngD_len] at hi; exact hi
  yld := fun i G1 H F m x H' d e rep hd y => by
    obtain ⟨rfl, rfl⟩ := y
    obtain ⟨rfl, _⟩ := rngD_at hd
    exact ⟨G1, Same.refl G1, rep, .int _⟩
def diL (te : DTE) : DTI := fun r m Q => te r m fun d m1 => match d with
  | .lst xs => Q xs m1
  | .rdl xs => Q xs m1
  | _ => False
theorem di_list {l : Expr} {te : DTE} (hl : DE X W WD l te) : DI X W WD tg l (diL te) := by
  refine PI.imp (pi_list hl) fun σ H R h => ?_
  obtain ⟨G, F, r, m, QD, x, t, k⟩ := h
  refine ⟨G, F, r, m, _, x, t, fun G1 H1 m1 d1 v1 e1 r1 p1 t1 => ?_⟩
  cases d1 with
  | lst xs => cases p1 with | lst h1 q1 => exact ⟨_, rfl, ⟨_, SqL.of (r1.ext _ _ h1)⟩, k G1 H1 m1 xs _ e1 r1 (it_list (SqL.of h1) q1) t1⟩
  | rdl xs => cases p1 with | rdl h1 q1 => exact ⟨_, rfl, ⟨_, r1.ext.seq h1⟩, k G1 H1 m1 xs _ e1 r1 (it_list h1 q1) t1⟩
  | _ => exact t1.elim
def diT (te : DTE) : DTI := fun r m Q => te r m fun d m1 => match d with
  | .tup xs => Q xs m1
  | _ => False
def diR1 (ta : DTA) : DTI := fun r m Q => ta r m fun ds m1 => ∃ j : Int, ds = [.int j] ∧ (-(2 ^ 62) ≤ j ∧ j < 2 ^ 62) ∧ Q (rngD 0 j.toNat) m1
theorem di_range1 {a : Expr} {ta : DTA} {p pos : Pos} (hg : Gl X "range") (hm : X.mg "range" = none) (ha : DA X W WD [a] ta) (hs : starEach [a] X.env = [(false, eval a X.env)] := by rfl) : DI X W WD tg (.Call (.Name "range" p) [a] [] pos) (diR1 ta) := by
  refine PI.imp (pi_range1 hg hm ha hs) fun σ H R h => ?_
  obtain ⟨G, F, r, m, QD, x, t, k⟩ := h
  refine ⟨G, F, r, m, _, x, t, fun G1 H1 m1 ds vs e1 r1 p1 t1 => ?_⟩
  obtain ⟨j, rfl, ⟨h1, h2⟩, t2⟩ := t1
  obtain ⟨v, rfl, q⟩ := rps1 p1
  cases q
  exact ⟨j, rfl, h1, h2, k G1 H1 m1 _ _ e1 r1 (it_rng 0 j.toNat) t2⟩
def diR2 (ta : DTA) : DTI := fun r m Q => ta r m fun ds m1 => ∃ i j : Int, ds = [.int i, .int j] ∧ (-(2 ^ 62) ≤ i ∧ i < 2 ^ 62 ∧ -(2 ^ 62) ≤ j ∧ j < 2 ^ 62) ∧ Q (rngD i (j - i).toNat) m1
end

def dLoopI (g : DTG) (tb : DTS) (ds : List D) : DTS := fun DD r m => ∃ P : Nat → DSt → M → Prop, P 0 r m ∧ (∀ (i : Nat) (d : D) (r : DSt) (m : M), ds[i]? = some d → P i r m → g d r m fun r2 m2 => tb { DD with nx := P (i + 1), ct := P (i + 1), bk := DD.nx } r2 m2) ∧ ∀ r m, P ds.length r m → DD.nx r m
def dFor (ti : DTI) (g : DTG) (tb : DTS) : DTS := fun DD r m => ti r m fun ds m1 => dLoopI g tb ds DD r m1
section
variable {X : Cx} {W : WX} {WD : DWX} {tg iter : Expr} {body : List Stmt} {ti : DTI} {g : DTG} {tb : DTS} {pos : Pos}
theorem ds_for (hp : PassesOwn (model X.prog X.w) X.A X.env X.xe) (hc : X.calm = true) (hi : DI X W WD tg iter ti) (hg : DG X W WD tg g) (hb : DSs X W WD body tb)
    (hs : ∀ x, foldedSetIterable iter X.env x = pure x := by intro _; rfl) : DS X W WD (.For tg iter body [] pos) (dFor ti g tb) := by
  refine PS.imp (ps_for hp hc hi hg hb hs) fun E σ H h => ?_
  obtain ⟨G, F, r, m, DD, x, t, k⟩ := h
  refine ⟨G, F, r, m, _, x, t, fun G1 H1 m1 ds J e1 r1 it t1 => ?_⟩
  obtain ⟨P, p0, turn, done⟩ := t1
  refine ⟨fun i n σ H => n = ds.length - i ∧ i ≤ ds.length ∧ ∃ G2 r2 m2, Same G1 G2 ∧ Sx X.K W WD G2 H F r2 σ m2 ∧ P i r2 m2, ⟨ds.length, rfl, Nat.zero_le _, G1, r, m1, Same.refl G1, x.step e1 r1, p0⟩, ?_⟩
  rintro i n σ2 H2 ⟨rfl, hi, G2, r2, m2, e2, x2, p2⟩
  by_cases hlt : i < ds.length
  · have hd : ds[i]? = some ds[i] := by simp [hlt]
    refine .inr ⟨it.go i H2 hlt (e2.trans x2.rep.ext), fun σ3 H3 => ∃ G3 r3 m3, Same G1 G3 ∧ Sx X.K W WD G3 H3 F r3 σ3 m3 ∧ P (i + 1) r3 m3, fun σ3 H3 h3 => ⟨ds.length - (i + 1), by omega, rfl, hlt, h3⟩, fun v H3 y => ?_⟩
    obtain ⟨G3, e3, rep3, p3⟩ := it.yld i G2 H2 F m2 v H3 ds[i] e2 x2.rep hd y
    refine ⟨G3, F, r2, m2, ds[i], _, x2.step e3 rep3, p3, turn i ds[i] r2 m2 hd p2, fun G4 H4 m4 r4 s4 e4 rep4 rs4 t4 => ?_⟩
    have e14 : Same G1 G4 := (e2.trans e3).trans e4
    refine ⟨G4, F, r4, m4, _, x2.to (e3.trans e4) rep4 rs4, t4, ⟨fun G5 H5 m5 r5 s5 e5 rep5 rs5 t5 => ?_, k.rt.mono (e1.trans e14), k.nx.mono (e1.trans e14), fun G5 H5 m5 r5 s5 e5 rep5 rs5 t5 => ?_⟩⟩
    · exact ⟨G5, r5, m5, e14.trans e5, x2.to ((e3.trans e4).trans e5) rep5 rs5, t5⟩
    · exact ⟨G5, r5, m5, e14.trans e5, x2.to ((e3.trans e4).trans e5) rep5 rs5, t5⟩
  · have e : i = ds.length := by omega
    subst e
    exact .inl ⟨it.stop H2 (e2.trans x2.rep.ext), k.nx G2 H2 m2 r2 σ2 (e1.trans e2) x2.rep x2.rs (done r2 m2 p2)⟩
end

def setAll : DSt → List Nat → List D → Option DSt
  | r, [], [] => some r
  | r, j :: js, d :: ds => setAll (r.set j (some d)) js ds
  | _, _, _ => none
def ctD : CT → D → DSt → Option DSt
  | .one i, d, r => some (r.set i (some d))
  | .tup js, .tup ds, r => setAll r js ds
  | _, _, _ => none
def gNames : List Nat → TGs
  | [] => gNil
  | j :: js => gCons (gName j) (gNames js)
def ctG (K : PySem.W.Frag) : CT → TG
  | .one i => gName i
  | .tup js => gTup K js.length (gNames js)
theorem wipe_set (σ : L2.St) (j : Nat) (v : Option V) : ∀ vs : List Nat, j ∈ vs → wipe (σ.set j v) vs = wipe σ vs
  | [], h => nomatch h
  | k :: vs, h => by
    show (wipe (σ.set j v) vs).set k none = (wipe σ vs).set k none
    by_cases hk : j ∈ vs
    · rw [wipe_set σ j v vs hk]
    · have e : j = k := by
        rcases List.mem_cons.mp h with h | h
        · exact h
        · exact absurd h hk
      subst e
      have comm : ∀ (vs : List Nat) (σ : L2.St), j ∉ vs → wipe (σ.set j v) vs = (wipe σ vs).set j v := by
        intro vs
        induction vs with
        | nil => intro σ _; rfl
        | cons a vs ih =>
          intro σ hn
          show (wipe (σ.set j v) vs).set a none = ((wipe σ vs).set a none).set j v
          rw [ih σ (fun z => hn (List.mem_cons_of_mem _ z))]
          exact List.set_comm _ _ (fun z => hn (by rw [z]; exact List.mem_cons_self))
      rw [comm vs σ hk, List.set_set]
theorem wipe_wipe (σ : L2.St) : ∀ vs ws : List Nat, (∀ j ∈ vs, j ∈ ws) → wipe (wipe σ vs) ws = wipe σ ws
  | [], _, _ => rfl
  | k :: vs, ws, h => by
    show wipe ((wipe σ vs).set k none) ws = wipe σ ws
    rw [wipe_set _ k none ws (h k List.mem_cons_self), wipe_wipe σ vs ws fun j hj => h j (List.mem_cons_of_mem _ hj)]
def wipeD (r : DSt) : List Nat → DSt
  | [] => r
  | v :: vs => (wipeD r vs).set v none
theorem rs_none {K : PySem.W.Frag} {G : Hp} {r : DSt} {s : L2.St} (h : Rs K G r s) (i : Nat) (v : Option V) : Rs K G (r.set i none) (s.set i v) := ⟨by simp [h.len], fun j e hj => by
  by_cases hi : i = j
  · subst hi
    by_cases hl : i < r.length
    · rw [List.getElem?_set_self hl] at hj
      cases hj
    · rw [List.getElem?_eq_none (by simp; omega)] at hj
      cases hj
  · rw [List.getElem?_set_ne hi] at hj ⊢
    exact h.at_ j e hj⟩
theorem rs_wipe {K : PySem.W.Frag} {G : Hp} {r : DSt} {s : L2.St} (h : Rs K G r s) : ∀ vs : List Nat, Rs K G (wipeD r vs) (wipe s vs)
  | [] => h
  | v :: vs => rs_none (rs_wipe h vs) v none
theorem names_ok {K : PySem.W.Frag} {G : Hp} {vs : List Nat} {H : Hp} {Q : L2.St → Hp → Prop} {s0 : L2.St} : ∀ {js : List Nat} {r r2 : DSt} {s : L2.St} {ds : List D} {us : List V}, (∀ j ∈ js, j ∈ vs) → Rs K G r s → Rps K G ds us → setAll r js ds = some r2 → wipe s vs = s0 →
    (∀ s2, Rs K G r2 s2 → wipe s2 vs = s0 → Q s2 H) → gNames js us s H Q
  | [], r, r2, s, [], us, _, rs, p, e, w, k => by
    cases p; cases e
    exact ⟨rfl, k s rs w⟩
  | [], r, r2, s, d :: ds, us, _, rs, p, e, w, k => by cases e
  | j :: js, r, r2, s, [], us, _, rs, p, e, w, k => by cases e
  | j :: js, r, r2, s, d :: ds, us, hj, rs, p, e, w, k => by
    cases p with | cons p1 p2 =>
    refine ⟨_, _, rfl, ?_⟩
    exact names_ok (r2 := r2) (fun i hi => hj i (List.mem_cons_of_mem _ hi)) (rs.set p1) p2 e (by rw [wipe_set _ _ _ _ (hj j List.mem_cons_self)]; exact w) k
theorem setAll_len : ∀ {js : List Nat} {ds : List D} {r r2 : DSt}, setAll r js ds = some r2 → ds.length = js.length
  | [], [], _, _, _ => rfl
  | [], _ :: _, _, _, e => by cases e
  | _ :: _, [], _, _, e => by cases e
  | j :: js, d :: ds, r, r2, e => congrArg Nat.succ (setAll_len (js := js) (ds := ds) e)
theorem ct_ok {K : PySem.W.Frag} {G : Hp} {vs : List Nat} {H : Hp} {Q : L2.St → Hp → Prop} {c : CT} {r r2 : DSt} {s : L2.St} {d : D} {v : V} (hc : c.in vs) (rs : Rs K G r s) (p : Rp K G d v) (e : ctD c d r = some r2) (sm : Same G H)
    (k : ∀ s2, Rs K G r2 s2 → wipe s2 vs = wipe s vs → Q s2 H) : ctG K c v s H Q := by
  cases c with
  | one i =>
    cases e
    exact k _ (rs.set p) (wipe_set _ _ _ _ hc)
  | tup js =>
    cases d with
    | tup ds =>
      cases p with | tup h1 r1 =>
      exact ⟨_, _, rfl, same_sqt sm h1, by rw [← r1.length]; exact setAll_len e, names_ok hc rs r1 e rfl k⟩
    | _ => cases e
def dLcL (c : CT) (vs : List Nat) (tt : DTT) (te : DTE) : List D → List D → DSt → M → (List D → M → Prop) → Prop
  | [], acc, _, m, Q => Q acc m
  | x :: xs, acc, r, m, Q => ∃ r2, ctD c x (wipeD r vs) = some r2 ∧ tt r2 m fun b m1 => if b = true then te r2 m1 fun y m2 => acc.length < sizeLine ∧ dLcL c vs tt te xs (acc ++ [y]) r m2 Q else dLcL c vs tt te xs acc r m1 Q
def dLc (mt : Bool) (ti : DTI) (c : CT) (vs : List Nat) (tt : DTT) (te : DTE) : DTE := fun r m Q => ti r m fun ds m1 => dLcL c vs tt te ds [] r m1 fun acc m2 => mkL mt acc m2 Q
theorem lc_filter {c : CT} {vs : List Nat} {tt : DTT} {te : DTE} {r : DSt} {m : M} (p : D → Bool) (f : D → D) : ∀ {xs acc : List D} {Q : List D → M → Prop}, acc.length + xs.length ≤ sizeLine →
    (∀ x ∈ xs, ∃ r2, ctD c x (wipeD r vs) = some r2 ∧ (∀ Q' : Bool → M → Prop, Q' (p x) m → tt r2 m Q') ∧ (p x = true → ∀ Q' : D → M → Prop, Q' (f x) m → te r2 m Q')) → Q (acc ++ (xs.filter p).map f) m → dLcL c vs tt te xs acc r m Q
  | [], acc, Q, _, _, q => by
    show Q acc m
    rw [List.filter_nil, List.map_nil, List.append_nil] at q
    exact q
  | x :: xs, acc, Q, hz, h, q => by
    obtain ⟨r2, e, t, u⟩ := h x List.mem_cons_self
    have hz' : acc.length + (xs.length + 1) ≤ sizeLine := hz
    refine ⟨r2, e, t _ ?_⟩
    rw [List.filter_cons] at q
    cases hp : p x with
    | true =>
      rw [if_pos rfl]
      rw [hp, if_pos rfl] at q
      refine u hp _ ⟨by omega, lc_filter p f (by rw [List.length_append]; simp; omega) (fun y hy => h y (List.mem_cons_of_mem _ hy)) ?_⟩
      rw [List.append_assoc]
      exact q
    | false =>
      rw [if_neg Bool.false_ne_true]
      rw [hp, if_neg Bool.false_ne_true] at q
      exact lc_filter p f (by omega) (fun y hy => h y (List.mem_cons_of_mem _ hy)) q
section
variable {X : Cx} {W : WX} {WD : DWX}
abbrev DTs (X : Cx) (W : WX) (WD : DWX) (ifs : List Expr) (t : DTT) : Prop := PTs X ifs (upT X.K W WD t)
def dYes : DTT := fun _ m Q => Q true m
theorem dts_nil : DTs X W WD [] dYes := by
  refine PTs.imp pts_nil fun σ H Q h => ?_
  obtain ⟨G, F, ρ, m, QD, x, t, k⟩ := h
  exact k G H m true (Same.refl G) x.rep t
theorem dts_one {c : Expr} {t : DTT} (h : DT X W WD c t) : DTs X W WD [c] t := pts_one h
abbrev W0 : WX := fun _ _ _ _ => False
abbrev WD0 : DWX := fun _ _ _ => False
theorem lc_up {K : PySem.W.Frag} {ti : DTI} {c : CT} {vs : List Nat} {tt : DTT} {te : DTE} {mt : Bool} {σ : L2.St} {H : Hp} {Q : VK} (hc : c.in vs) (h : up K W WD (dLc mt ti c vs tt te) σ H Q) : tLc (upI K W WD ti) (ctG K c) (upT K W0 WD0 tt) (up K W0 WD0 te) vs σ H Q := by
  obtain ⟨G, F, r, m, QD, x, t, k⟩ := h
  refine ⟨G, F, r, m, _, x, t, fun G1 H1 m1 ds J e1 r1 it t1 => ?_⟩
  intro Dl hD
  have hF : F Dl = none := r1.frm.free hD
  refine ⟨fun i n H => n = ds.length - i ∧ i ≤ ds.length ∧ ∃ G2 m2 acc va, Same G1 G2 ∧ Rep K G2 H (upd F Dl (.lst va)) m2 ∧ Rps K G2 acc va ∧ dLcL c vs tt te (ds.drop i) acc r m2 (fun acc m => mkL mt acc m QD), ⟨ds.length, rfl, Nat.zero_le _, G1, m1, [], [], Same.refl G1, r1.hide hD, .nil, t1⟩, ?_⟩
  rintro i n H2 ⟨rfl, hi, G2, m2, acc, va, e2, rep2, ra, t2⟩
  by_cases hlt : i < ds.length
  · have hdrop : ds.drop i = ds[i] :: ds.drop (i + 1) := (List.getElem_cons_drop hlt).symm
    rw [hdrop] at t2
    obtain ⟨r2, ec, t2⟩ := t2
    refine .inr ⟨it.go i H2 hlt (e2.trans rep2.ext), fun H3 => ∃ G3 m3 acc va, Same G1 G3 ∧ Rep K G3 H3 (upd F Dl (.lst va)) m3 ∧ Rps K G3 acc va ∧ dLcL c vs tt te (ds.drop (i + 1)) acc r m3 (fun acc m => mkL mt acc m QD), fun H3 h3 => ⟨ds.length - (i + 1), by omega, rfl, hlt, h3⟩, fun v H3 y => ?_⟩
    obtain ⟨G3, e3, rep3, p3⟩ := it.yld i G2 H2 _ m2 v H3 ds[i] e2 rep2 (by simp [hlt]) y
    have e03 : Same G G3 := (e1.trans e2).trans e3
    refine ct_ok hc (rs_wipe (x.rs.mono e03) vs) p3 ec rep3.ext fun s2 rs2 w2 => ?_
    refine ⟨w2.trans (wipe_wipe σ vs vs fun _ h => h), G3, _, r2, m2, _, ⟨rep3, rs2, Lx.no⟩, t2, fun G4 H4 m4 b e4 rep4 t4 => ?_⟩
    cases b with
    | false => exact ⟨G4, m4, acc, va, (e2.trans e3).trans e4, rep4, ra.mono (e3.trans e4), t4⟩
    | true =>
      refine ⟨G4, _, r2, m4, _, ⟨rep4, rs2.mono e4, Lx.no⟩, t4, fun G5 H5 m5 d v e5 rep5 p5 t5 => ?_⟩
      have ra5 := ra.mono ((e3.trans e4).trans e5)
      exact ⟨va, rep5.frm Dl _ upd_same, by rw [← ra5.length]; exact t5.1, G5, m5, acc ++ [d], va ++ [v], ((e2.trans e3).trans e4).trans e5, rep5.turn, ra5.append (.cons p5 .nil), t5.2⟩
  · have e : i = ds.length := by omega
    subst e
    rw [List.drop_length] at t2
    refine .inl ⟨it.stop H2 (e2.trans rep2.ext), ?_⟩
    cases mt with
    | false =>
      obtain ⟨e3, rep3, p3⟩ := rep2.outL hF ra
      exact k _ H2 m2 _ _ ((e1.trans e2).trans e3) rep3 p3 t2
    | true =>
      obtain ⟨mp, rep3⟩ := rep2.outM hF ra
      exact k _ H2 _ _ _ (e1.trans e2) rep3 (.ref Dl) (t2 Dl mp)
theorem pg_ct1 {Y : Cx} {i : Nat} {x : Str} {pos : Pos} (hN : Y.N.Nodup) (hi : Y.N[i]? = some x) (hx : Loc Y.env.scope x) (hf : Y.fn x = true ∨ Y.env.scope.names.lookup x = some .local := by first | exact .inl rfl | exact .inr rfl | assumption) : PG Y (.Name x pos) (ctG Y.K (.one i)) := pg_name hN hi hx hf
theorem de_lc (mt : Bool) {elt tg iter : Expr} {ifs : List Expr} {scope : Scope} {own : List (Str × Nat)} {pos : Pos} {ti : DTI} {c : CT} {tt : DTT} {te : DTE} (hc : X.calm = true) (hN : X.N.Nodup) (hin : c.in (own.map (·.2))) (hi : DI X W WD tg iter ti) (ok : BlkOk X.N X.env.scope scope own)
    (hg : ∀ (s : Shared) (H : Hp) (C : Addr) (cl : List (Str × Addr)) (fp : List Addr), PG (X.blk s H scope (compEnvC scope cl C X.env) fp) tg (ctG X.K c)) (ht : ∀ (s : Shared) (H : Hp) (C : Addr) (cl : List (Str × Addr)) (fp : List Addr), DTs (X.blk s H scope (compEnvC scope cl C X.env) fp) W0 WD0 ifs tt)
    (he : ∀ (s : Shared) (H : Hp) (C : Addr) (cl : List (Str × Addr)) (fp : List Addr), DE (X.blk s H scope (compEnvC scope cl C X.env) fp) W0 WD0 elt te) (hs : ∀ x, foldedSetIterable iter X.env x = pure x := by intro _; rfl) :
    DE X W WD (.ListComp elt [⟨tg, iter, ifs, 0⟩] scope pos) (dLc mt ti c (own.map (·.2)) tt te) :=
  PE.imp (pe_lc hc hN hi ok hg ht he hs) fun _ _ _ h => lc_up hin h
end
end DL

set_option Elab.async false
set_option linter.all false
set_option maxRecDepth 100000
set_option maxHeartbeats 4000000
namespace DL
open PySem PySem.Spec PyProof.Rows L2

def liftSp (K : PySem.W.Frag) (sp : DSp) : Sp := fun vs H Q E => ∃ (G F : Hp) (m : M) (ds : List D) (QD : D → M → Prop) (ED : XD → M → Prop), Rep K G H F m ∧ Rps K G ds vs ∧ sp ds m QD ED ∧ Kv K G F QD Q ∧
  ∀ (G' H' : Hp) (m' : M) (C : Addr) (fs : List (Str × D)) (d : Option Addr), Same G G' → Rep K G' H' F m' → RpX K G' d fs → ED ⟨C, fs⟩ m' → E (.ref C) d H'
def startD (N : List Str) (ds : List D) : DSt := ds.map some ++ List.replicate (N.length - ds.length) none
theorem rs_start {K : PySem.W.Frag} {G : Hp} {N : List Str} {ds : List D} {vs : List V} (h : Rps K G ds vs) : Rs K G (startD N ds) (L2.start N vs) := by
  refine ⟨by simp [startD, L2.start, h.length], fun i d e => ?_⟩
  unfold startD at e
  unfold L2.start
  by_cases hi : i < ds.length
  · rw [List.getElem?_append_left (by simpa using hi), List.getElem?_map] at e
    cases q : ds[i]? with
    | none => rw [q] at e; cases e
    | some d2 =>
      rw [q] at e
      cases e
      obtain ⟨v, h1, h2⟩ := h.get q
      refine ⟨v, ?_, h2⟩
      rw [List.getElem?_append_left (by rw [List.length_map, ← h.length]; exact hi), List.getElem?_map, h1]
      rfl
  · rw [List.getElem?_append_right (by simpa using hi)] at e
    by_cases hj : i - ds.length < N.length - ds.length
    · rw [List.length_map, List.getElem?_replicate, if_pos hj] at e
      cases e
    · rw [List.length_map, List.getElem?_replicate, if_neg hj] at e
      cases e
section
variable {P : Program} {w : World} {K : PySem.W.Frag} {mg : Str → Option Value} {base : Heap} {x qual : Str} {params : Arguments} {body : List Stmt} {scope : Scope} {dvs : List V} {kws : List (Str × V)} {f : Addr} {fd : FuncData}
abbrev CXo (P : Program) (w : World) (K : PySem.W.Frag) (mg : Str → Option Value) (base : Heap) (N : List Str) (qual : Str) (scope : Scope) (f : Addr) (cdv : Value) (A : Around) (outer : List Env) (s : Shared) (H : Hp) (E : XK) : Cx := cxOf (L2.CX P w) P w K mg base N qual scope f cdv A outer s H E
abbrev WE0 (E : XK) : WX := fun cls d _ H => E cls d H
theorem fn_d {N ps : List Str} {k : Nat} {sp : DSp} (F : FunD K x qual params body scope dvs kws f fd) (S : FnScope N ps scope) (len : ∀ ds m Q E, sp ds m Q E → ds.length = ps.length) (t : DWX → DTS)
    (hb : ∀ (cdv : Value) (A : Around) (outer : List Env) (s : Shared) (H : Hp) (E : XK) (WD : DWX), Room k (A.deeper (envOfC qual scope s.heap.objs.size f cdv)) → Takes (CXo P w K mg base N qual scope f cdv A outer s H E) (WE0 E) →
      PassesOwn (model P w) (CXo P w K mg base N qual scope f cdv A outer s H E).A (CXo P w K mg base N qual scope f cdv A outer s H E).env (CXo P w K mg base N qual scope f cdv A outer s H E).xe → DSs (CXo P w K mg base N qual scope f cdv A outer s H E) (WE0 E) WD body (t WD))
    (pure_ : ∀ ds m Q E, sp ds m Q E → t (fun x _ m => E x m) { nx := fun _ m => Q .non m, rt := Q } (startD N ds) m) : FnOk P w K mg base (L2.CX P w) (k + 1) f fd ps (liftSp K sp) := by
  refine F.ok S (fun vs H Q E h => ?_) (fun cdv A outer s H vs Q E hr h => ?_)
  · obtain ⟨G, F, m, ds, QD, ED, rep, rs, hs, _⟩ := h
    rw [← rs.length]
    exact len ds m QD ED hs
  · obtain ⟨G, F, m, ds, QD, ED, rep, rs, hs, kv, kx⟩ := h
    refine ⟨_, hb cdv A outer s H E (fun x _ m => ED x m) hr (takes_of rfl rfl rfl rfl) (passes_of rfl), ?_⟩
    refine ⟨G, F, startD N ds, m, _, ⟨rep, rs_start rs, fun G' H' m' r' s' C fs d e r rs' rx wd => kx G' H' m' C fs d e r rx wd⟩, pure_ ds m QD ED hs, ⟨fun G' H' m' r' s' e r rs' q => kv G' H' m' _ _ e r .non q, kv, ?_, ?_⟩⟩
    · exact fun _ _ _ _ _ _ _ _ q => q.elim
    · exact fun _ _ _ _ _ _ _ _ q => q.elim
end

def dCall (sp : DSp) (WD : DWX) (dds : List D) (t : DTA) : DTE := fun r m Q => t r m fun ds m1 => sp (ds ++ dds) m1 Q fun x m2 => WD x r m2
theorem lift_call {K : PySem.W.Frag} {W : WX} {WD : DWX} {G H F : Hp} {r : DSt} {σ : L2.St} {m : M} {sp : DSp} {ds : List D} {vs : List V} {QD : D → M → Prop} {Q : VK} (x : Sx K W WD G H F r σ m) (rs : Rps K G ds vs) (t : sp ds m QD fun x m2 => WD x r m2) (k : Kv K G F QD Q) : liftSp K sp vs H Q (WE W σ) :=
  ⟨G, F, m, ds, QD, _, x.rep, rs, t, k, fun G' H' m' C fs d e r' rx wd => x.lx G' H' m' r σ C fs d e r' (x.rs.mono e) rx wd⟩
section
variable {X : Cx} {W : WX} {WD : DWX} {k : Nat} {f C g : Addr} {fd : FuncData} {ps : List Str} {sp : DSp} {dvs : List V} {dds : List D} {ds : List Value} {x mn : Str} {p pos apos : Pos} {e o : Expr} {es : List Expr} {ta : DTE} {t : DTA}
theorem de_call (F : FnOk X.prog X.w X.K X.mg X.base (L2.CX X.prog X.w) k f fd ps (liftSp X.K sp)) (hr : Room k X.A) (hg : Gl X x) (hm : X.mg x = some (.ref f)) (hk : PySem.W.keepIn X.K (.ref f) = true) (hb : Binds X.K fd ps ds) (hd : Vals dvs ds) (hdd : ∀ G, Rps X.K G dds dvs) (tk : Takes X W)
    (ha : DA X W WD (e :: es) t) (hdb : (x == ("__debug__" : Str)) = false := by decide) (he : starEach (e :: es) X.env = (false, eval e X.env) :: starEach es X.env := by rfl) (hpl : (backTo pos (starEach es X.env)).any (·.1) = false := by rfl) :
    DE X W WD (.Call (.Name x p) (e :: es) [] pos) (dCall sp WD dds t) := by
  refine PE.imp (pe_callSD (E := WE W) F hr hg hm hk hb hd (fun σ => passAt tk σ) ha hdb he hpl) fun σ H Q h => ?_
  obtain ⟨G, F, r, m, QD, x, t, k⟩ := h
  refine ⟨G, F, r, m, _, x, t, fun G1 H1 m1 ds vs e1 r1 p1 t1 => ?_⟩
  exact lift_call (x.step e1 r1) (p1.append (hdd G1)) t1 (k.mono e1)
def insOf (m : M) : D → Option (Addr × List (Str × D))
  | .ins C fs => some (C, fs)
  | .ref a => (m a).bind fun o => match o with
    | .ins C fs => some (C, fs)
    | _ => none
  | _ => none
def dFld (K : PySem.W.Frag) (ta : DTE) (f : Str) : DTE := fun r m Q => ta r m fun x m1 => ∃ C fs d, insOf m1 x = some (C, fs) ∧ Cls K C ∧ NoAttr K C f ∧ fs.lookup f = some d ∧ Q d m1
def dFldS (K : PySem.W.Frag) (ta tv : DTE) (f : Str) : DTS := fun DD r m => tv r m fun y m1 => ta r m1 fun x m2 => ∃ a C fs, x = .ref a ∧ m2 a = some (.ins C fs) ∧ Cls K C ∧ NoAttr K C f ∧ fs.length < 1000 ∧ DD.nx r (mset m2 a (.ins C (putD f y fs)))
def dMeth (C : Addr) (mn : Str) (sp : DSp) (WD : DWX) (dds : List D) (ta : DTE) (t : DTA) : DTE := fun r m Q => ta r m fun x m1 => ∃ fs, insOf m1 x = some (C, fs) ∧ fs.lookup mn = none ∧ t r m1 fun ds m2 => sp (x :: (ds ++ dds)) m2 Q fun x m2 => WD x r m2
def dProp (C : Addr) (sp : DSp) (ta : DTE) : DTE := fun r m Q => ta r m fun x m1 => ∃ fs, insOf m1 x = some (C, fs) ∧ sp [x] m1 Q fun _ _ => False
def dMake (C : Addr) (sp : DSp) (WD : DWX) (dds : List D) (t : DTA) : DTE := fun r m Q => t r m fun ds m1 => ∀ x, m1 x = none → sp (.ref x :: (ds ++ dds)) (mset m1 x (.ins C [])) (fun _ m2 => ∃ fs, m2 x = some (.ins C fs) ∧ Q (.ins C fs) (mdel m2 x)) fun x m2 => WD x r m2
def dCallO (C : Addr) (sp : DSp) (WD : DWX) (tf : DTE) (t : DTA) : DTE := fun r m Q => tf r m fun x m1 => (∃ fs, insOf m1 x = some (C, fs)) ∧ t r m1 fun ds m2 => ∃ fs, insOf m2 x = some (C, fs) ∧ sp (x :: ds) m2 Q fun x m2 => WD x r m2
end
end DL

set_option Elab.async false
set_option linter.all false
set_option maxRecDepth 100000
set_option maxHeartbeats 4000000
namespace DL
open PySem PySem.Spec PyProof.Rows L2

def MtD (K : PySem.W.Frag) (T : String) (r : V → List V → Hp → VK → Prop) (ty : D → M → Prop) (rd : DRM) : Prop :=
  (∀ (G H F : Hp) (m : M) (x : D) (vx : V), Rep K G H F m → Rp K G x vx → ty x m → tyV K T vx H) ∧
  ∀ (G H F : Hp) (m : M) (x : D) (vx : V) (ds : List D) (vs : List V) (QD : D → M → Prop) (Q : VK), Rep K G H F m → Rp K G x vx → Rps K G ds vs → rd x ds m QD → Kv K G F QD Q → r vx vs H Q
def dBM (ty : D → M → Prop) (rd : DRM) (to : DTE) (t : DTA) : DTE := fun r m Q => to r m fun x m1 => ty x m1 ∧ t r m1 fun ds m2 => rd x ds m2 Q
section
variable {K : PySem.W.Frag} {X : Cx} {W : WX} {WD : DWX} {o e : Expr} {es : List Expr} {to : DTE} {t : DTA} {name : Str} {apos cpos : Pos} {T id : String} {r : V → List V → Hp → VK → Prop} {ty : D → M → Prop} {rd : DRM}
theorem de_bm (pa : PlainAttrs T) (slot : Slot T name id) (hty : typeOf (.builtin id) = pure (.type "method_descriptor")) (hm : MtR X id r) (hd : MtD X.K T r ty rd) (ho : DE X W WD o to) (ha : DA X W WD (e :: es) t)
    (hbase : attributeBase o name X.env (eval o X.env) = eval o X.env := by rfl)
    (hfew : ((backTo cpos (starEach (e :: es) X.env)).all (fun x => !x.1) && (backToKw cpos (keywordEach [] X.env)).all (fun x => x.1.isSome)
      && decide ((e :: es).length + ([] : List Keyword).length + (if ([] : List Keyword).isEmpty then 0 else 1) < 30)) = true := by rfl)
    (hline : (apos.endLine == cpos.line) = true := by rfl) (hs : starEach (e :: es) X.env = (false, eval e X.env) :: starEach es X.env := by rfl) (hplain : (backTo cpos (starEach es X.env)).any (·.1) = false := by rfl) :
    DE X W WD (.Call (.Attribute o name apos) (e :: es) [] cpos) (dBM ty rd to t) := by
  refine PE.imp (pe_bm pa slot hty hm ho ha hbase hfew hline hs hplain) fun σ H Q h => ?_
  obtain ⟨G, F, r, m, QD, x, t, k⟩ := h
  refine ⟨G, F, r, m, _, x, t, fun G1 H1 m1 d1 v1 e1 r1 p1 t1 => ⟨hd.1 G1 H1 F m1 d1 v1 r1 p1 t1.1, ?_⟩⟩
  refine ⟨G1, F, r, m1, _, x.step e1 r1, t1.2, fun G2 H2 m2 ds vs e2 r2 p2 t2 => ?_⟩
  exact hd.2 G2 H2 F m2 d1 v1 ds vs QD Q r2 (p1.mono e2) p2 t2 (k.mono (e1.trans e2))
def isL (d : D) (m : M) : Prop := ∃ xs, lsOf m d = some xs
def isS (d : D) (_ : M) : Prop := ∃ z, d = .str z
theorem ty_list {G H F : Hp} {m : M} {x : D} {vx : V} (r : Rep K G H F m) (p : Rp K G x vx) (h : isL x m) : tyV K "list" vx H := by
  obtain ⟨xs, e⟩ := h
  obtain ⟨a, vs, rfl, hs, _⟩ := ls_ok r p e
  exact .inl ⟨rfl, vs, hs⟩
theorem ty_str {G H F : Hp} {m : M} {x : D} {vx : V} (r : Rep K G H F m) (p : Rp K G x vx) (h : isS x m) : tyV K "str" vx H := by
  obtain ⟨z, rfl⟩ := h
  cases p
  exact rfl
theorem mo_lst {G H F : Hp} {m : M} {a : Addr} {xs : List D} (r : Rep K G H F m) (h : m a = some (.lst xs)) : ∃ vs, H a = some (.lst vs) ∧ Rps K G xs vs := by
  obtain ⟨_, _, u, h3, h4⟩ := r.mo a _ h
  obtain ⟨vs, rfl, h4⟩ := h4.ofLst
  exact ⟨vs, h3, h4⟩
theorem wr_lst {G H F : Hp} {m : M} {a : Addr} {xs ys : List D} {us : List V} (r : Rep K G H F m) (h : m a = some (.lst xs)) (p : Rps K G ys us) : Rep K G (upd H a (.lst us)) F (mset m a (.lst ys)) := r.write h (show RpM K G (.lst ys) (.lst us) from p)
def dAppend : DRM := fun x ds m Q => ∃ a xs y, x = .ref a ∧ ds = [y] ∧ m a = some (.lst xs) ∧ xs.length < sizeLine ∧ Q .non (mset m a (.lst (xs ++ [y])))
def dClear : DRM := fun x ds m Q => ∃ a xs, x = .ref a ∧ ds = [] ∧ m a = some (.lst xs) ∧ Q .non (mset m a (.lst []))
def dPopAt : DRM := fun x ds m Q => ∃ a xs i j y, x = .ref a ∧ ds = [.int i] ∧ m a = some (.lst xs) ∧ (-(2 ^ 63) ≤ i ∧ i < 2 ^ 63) ∧ seqIndex? i xs.length = some j ∧ xs[j]? = some y ∧ Q y (mset m a (.lst (xs.eraseIdx j)))
theorem md_popAt : MtD K "list" rPopAt isL dPopAt := by
  refine ⟨fun G H F m x vx r p h => ty_list r p h, fun G H F m x vx ds vs QD Q r px ps t k => ?_⟩
  obtain ⟨a, xs, i, j, y, rfl, rfl, hm, ⟨h1, h2⟩, hj, hy, t⟩ := t
  cases px
  obtain ⟨v, rfl, p⟩ := rps1 ps
  cases p
  obtain ⟨vs, h3, h4⟩ := mo_lst r hm
  obtain ⟨v, h5, h6⟩ := h4.get hy
  exact ⟨a, vs, i, j, v, rfl, rfl, h3, h1, h2, by rw [← h4.length]; exact hj, h5, k.here (wr_lst r hm (h4.eraseIdx j)) h6 t⟩
end

section
variable {X : Cx} {W : WX} {WD : DWX} {k : Nat} {f C : Addr} {fd : FuncData} {ps : List Str} {sp : DSp} {a b : Expr} {ta tb : DTE} {pos : Pos}
end
end DL

set_option Elab.async false
set_option linter.all false
set_option maxRecDepth 100000
set_option maxHeartbeats 4000000
namespace DL
open PySem PySem.Spec PyProof.Rows L2
open He (ga ma eqO eqO_ok ba)

theorem DefA.fun_ {K : Fr0} {d : DefA} (e : fnAt K (d.ad K) = d.told) (c : d.good K = true) : ∃ fd, FunD K d.name d.qual d.params d.body d.scope (d.vs K) (d.ks K) (d.ad K) fd := by
  obtain ⟨kp, c2⟩ := ba c
  unfold fnAt at e
  cases look : K.lookup (d.ad K) with
  | none => rw [look] at c2; cases c2
  | some ob =>
    obtain ⟨oc, od, dt, osl⟩ := ob
    rw [look] at c2 e
    cases dt with
    | func u =>
      obtain ⟨n1, n2, n3, n4, n5, n6, n7, n8, n9, n10, n11, n12, n13, n14, n15⟩ := u
      have e2 : (some (n1, n2, n3, n4, n5, n6, n7, n15) : He.FnW) = some (d.name, d.qual, d.params, .stmts d.body, d.scope, mainGlobals, [], builtinsNs) := e
      simp only [Option.some.injEq, Prod.mk.injEq] at e2
      obtain ⟨rfl, rfl, rfl, rfl, rfl, rfl, rfl, rfl⟩ := e2
      obtain ⟨k1, k2⟩ := ba (show (PySem.W.codeIn K n13 d.qual && (He.dflB K n8 (d.vs K) && He.kwdB K n9 (d.ks K))) = true from c2)
      obtain ⟨k3, k4⟩ := ba k2
      exact ⟨_, ⟨oc, od, n8, n9, n10, n11, n12, n13, n14, osl, rfl, look, k1, He.dflB_ok k3, He.kwdB_ok k4⟩, kp⟩
    | _ => cases c2
section
variable {fa : List (Fr0 → Bool)} {fn : List DefA} {K : Fr0}
theorem Says.fact (c : Says fa fn K) (i : Nat) {f : Fr0 → Bool} (h : fa[i]? = some f := by rfl) : f K = true := by
  obtain ⟨c1, _⟩ := ba (show (fa.all (fun f => f K) && fn.all (fun d => d.good K)) = true from congrArg Prod.fst c)
  exact List.all_eq_true.mp c1 f (List.mem_of_getElem? h)
theorem Says.def_ (c : Says fa fn K) (i : Nat) {d : DefA} (h : fn[i]? = some d := by rfl) : ∃ fd, FunD K d.name d.qual d.params d.body d.scope (d.vs K) (d.ks K) (d.ad K) fd := by
  obtain ⟨_, c2⟩ := ba (show (fa.all (fun f => f K) && fn.all (fun d => d.good K)) = true from congrArg Prod.fst c)
  have e : fn.map (fun d => fnAt K (d.ad K)) = fn.map DefA.told := congrArg Prod.snd c
  have e2 : (fn.map fun d => fnAt K (d.ad K))[i]? = (fn.map DefA.told)[i]? := by rw [e]
  rw [List.getElem?_map, List.getElem?_map, h] at e2
  exact DefA.fun_ (Option.some.inj e2) (List.all_eq_true.mp c2 d (List.mem_of_getElem? h))
end
structure Good (P : Program) (w : World) (K : Fr0) (mg : Str → Option Value) (base : Heap) (k : Nat) (x : Option Str) (f : Addr) (ps : List Str) (sp : DSp) : Prop where
  ex : ∃ fd, FnOk P w K mg base (L2.CX P w) k f fd ps (liftSp K sp) ∧ Binds K fd ps [] ∧ PySem.W.keepIn K (.ref f) = true
  gl : match x with
    | some x => mg x = some (.ref f)
    | none => True
section
variable {P : Program} {w : World} {K : Fr0} {mg : Str → Option Value} {base : Heap} {x qual : Str} {params : Arguments} {body : List Stmt} {scope : Scope} {dvs : List V} {kws : List (Str × V)} {f : Addr} {fd : FuncData}
abbrev CXn (P : Program) (w : World) (K : Fr0) (mg : Str → Option Value) (base : Heap) (N : List Str) (qual : Str) (scope : Scope) (f : Addr) (cdv : Value) (A : Around) (outer : List Env) (s : Shared) (H : Hp) (E : XK) : Cx := (cxOf CX0 P w K mg base N qual scope f cdv A outer s H E).nox
theorem fn_d0 {N ps : List Str} {k : Nat} {sp : DSp} (F : FunD K x qual params body scope dvs kws f fd) (S : FnScope N ps scope) (len : ∀ ds m Q E, sp ds m Q E → ds.length = ps.length) (t : DWX → DTS)
    (hb : ∀ (cdv : Value) (A : Around) (outer : List Env) (s : Shared) (H : Hp) (E : XK), Room k (A.deeper (envOfC qual scope s.heap.objs.size f cdv)) → Takes (CXn P w K mg base N qual scope f cdv A outer s H E) W0 →
      PassesOwn (model P w) (CXn P w K mg base N qual scope f cdv A outer s H E).A (CXn P w K mg base N qual scope f cdv A outer s H E).env (CXn P w K mg base N qual scope f cdv A outer s H E).xe → DSs (CXn P w K mg base N qual scope f cdv A outer s H E) W0 WD0 body (t WD0))
    (pure_ : ∀ ds m Q E, sp ds m Q E → t WD0 { nx := fun _ m => Q .non m, rt := Q } (startD N ds) m) : FnOk P w K mg base CX0 (k + 1) f fd ps (liftSp K sp) := by
  refine F.ok S (fun vs H Q E h => ?_) (fun cdv A outer s H vs Q E hr h => ?_)
  · obtain ⟨G, F, m, ds, QD, ED, rep, rs, hs, _⟩ := h
    rw [← rs.length]
    exact len ds m QD ED hs
  · obtain ⟨G, F, m, ds, QD, ED, rep, rs, hs, kv, kx⟩ := h
    refine ⟨_, PSs.nox (hb cdv A outer s H E hr takes0 PassesOwn.never), ?_⟩
    refine ⟨G, F, startD N ds, m, _, ⟨rep, rs_start rs, Lx.no⟩, pure_ ds m QD ED hs, ⟨fun G' H' m' r' s' e r rs' q => kv G' H' m' _ _ e r .non q, kv, ?_, ?_⟩⟩
    · exact fun _ _ _ _ _ _ _ _ q => q.elim
    · exact fun _ _ _ _ _ _ _ _ q => q.elim
end
def m0 : M := fun _ => none
def spLaw : DSp := fun ds m Q _ => ∃ ns : List Int, ds = [.rdl (ns.map D.int)] ∧ ns.length ≤ 63 ∧ m = m0 ∧ ∀ m', Q (.bl true) m'
theorem spLaw_len (x : Str) (ds : List D) (m : M) (Q : D → M → Prop) (E : XD → M → Prop) (h : spLaw ds m Q E) : ds.length = [x].length := by
  obtain ⟨ns, rfl, _⟩ := h
  rfl
theorem law_sp {K : Fr0} (H : Hp) (a : Addr) (ns : List Int) (hl : ns.length ≤ 63) (hT : ∀ x ∈ tbls3 K, H x.2.1 = some (.tbl #[])) (hS : SqL K H a (ns.map V.int)) : liftSp K spLaw [.ref a] H (fun v _ => v = .bl true) fun _ _ _ => False := by
  have tb : LamX.Tabs (tblsOf K) H := fun p hp => by
    obtain ⟨x, hx, rfl⟩ := List.mem_map.mp hp
    exact LamX.TabS.nil (hT x hx)
  obtain ⟨G, hG, hok, hS2⟩ : ∃ G : Hp, Same G H ∧ (∀ b o, G b = some o → okO o) ∧ SqL K G a (ns.map V.int) := by
    rcases hS with hR | hR
    · refine ⟨fun b => if b = a then H b else none, fun b o e => ?_, fun b o e => ?_, .inl ?_⟩
      · by_cases hb : b = a
        · have e : (if b = a then H b else none) = some o := e
          rw [if_pos hb] at e
          exact e
        · have e : (if b = a then H b else none) = some o := e
          rw [if_neg hb] at e
          cases e
      · by_cases hb : b = a
        · have e : (if b = a then H b else none) = some o := e
          rw [if_pos hb, hb] at e
          rcases hR with hR | ⟨ob, hR⟩
          · rw [hR] at e; cases e; exact ⟨fun _ e => (by cases e), fun _ e => (by cases e)⟩
          · rw [hR] at e; cases e; exact ⟨fun _ e => (by cases e), fun _ e => (by cases e)⟩
        · have e : (if b = a then H b else none) = some o := e
          rw [if_neg hb] at e
          cases e
      · rcases hR with hR | ⟨ob, hR⟩
        · exact .inl ((if_pos rfl).trans hR)
        · exact .inr ⟨ob, (if_pos rfl).trans hR⟩
    · exact ⟨fun _ => none, fun _ _ e => (by cases e), fun _ _ e => (by cases e), .inr hR⟩
  refine ⟨G, fun _ => none, m0, [.rdl (ns.map D.int)], fun d _ => d = .bl true, fun _ _ => False, ⟨hG, (fun _ _ e => (by cases e)), (fun _ _ e => (by cases e)), (fun _ _ e => (by cases e)), tb, (fun b o e => (hok b o e).1), (fun _ _ e => (by cases e))⟩, .cons (.rdl hS2 (Rps.ofInts ns)) .nil, ⟨ns, rfl, hl, rfl, fun _ => rfl⟩, ?_, fun _ _ _ _ _ _ _ _ _ q => q.elim⟩
  rintro G' H' m' d v e r p rfl
  cases p
  rfl
structure TabBs (K : Fr0) (mg : Str → Option Value) (base : Heap) : Prop where
  tb : ∀ x ∈ tbls3 K, LamX.TabB base mg x.1 x.2.1
  one : ∀ x ∈ tbls3 K, ∀ y ∈ tbls3 K, x.2.1 = y.2.1 → x.2.2 = y.2.2
theorem walk_tab {l : PySem.W.OpenLaw} {n k : Nat} {q : Program} {loose : List Str} {XP : (Str → Option Value) → Heap → Prop} {YP : World → Heap → Prop} {d : DefRec} {CX : CXT} {x : Str} (hn : l.most = some n) (hn2 : n ≤ sizeLine) (hdf : d.params.defaults = []) (hr : Room k callerA)
    (F : ∀ (w : World) (mg : Str → Option Value) (fa : Addr) (h : Heap), YP w h → h.Ns mainGlobals mg → mg d.name = some (.ref fa) → ∃ (K : Fr0) (fd : FuncData) (sp : Sp), K.In h ∧ TabAt K h ∧ (∀ (s : Shared) (u : Value), BindsTo s fd ⟨[u], []⟩ [(x, u)]) ∧
        (∀ (H : Hp) (a : Addr) (ns : List Int), ns.length ≤ n → (∀ x ∈ tbls3 K, H x.2.1 = some (.tbl #[])) → SqL K H a (ns.map V.int) → sp [.ref a] H (fun v _ => v = .bl true) fun _ _ _ => False) ∧
        ∀ base : Heap, K.In base → base.Ns mainGlobals mg → TabBs K mg base → FnOk l.prog w K mg base CX k fa fd [x] sp)
    (hCX : ∀ (H : Hp) (s : Shared) (e : Value) (s' : Shared), CX [] H s (fun _ _ _ => False) e s' → False) : PySem.W.WalkO q loose XP YP l.row.toRowW d [] (fun f vs => PySem.call f vs) := by
  refine Att.attach_callB hn hdf fun w _ sh mg _ fa _ _ _ _ ad us zs GT Y _ _ _ hmg hob hin hle _ hge => ?_
  obtain ⟨K, fd, sp, KX, T, hb, hsp, hF⟩ := F w mg fa _ Y GT.T.g hmg
  have each : ∀ {φ : Addr × Addr → Prop}, (∀ x ∈ tbls3 K, φ (x.1, x.2.1)) → ∀ p ∈ (tbls3 K).map (fun x => (x.1, x.2.1)), φ p := fun h p hp => by
    obtain ⟨y, hy, rfl⟩ := List.mem_map.mp hp
    exact h y hy
  exact LamX.law_callTs (cs := (tbls3 K).map fun x => (x.1, x.2.1)) KX GT.T.g GT.T.b GT.T.builtins GT.T.nolimit hge (each T.emp) (each T.out) (each T.hd) GT.T.bmain hob hin (Nat.le_trans hle hn2) hr
    (fun base h1 h2 h3 => hF base h1 h2 ⟨fun y hy => h3 _ (List.mem_map.mpr ⟨y, hy, rfl⟩), T.one⟩) hb (fun H hH hS => hsp H ad zs hle (fun y hy => hH _ (List.mem_map.mpr ⟨y, hy, rfl⟩)) hS) fun H e s' => hCX H sh e s'
end DL

set_option Elab.async false
set_option linter.all false
set_option maxRecDepth 100000
set_option maxHeartbeats 4000000
namespace DL
open PySem PySem.Spec PyProof.Rows L2
theorem toPs_ints : ∀ ns : List Int, toPs (ns.map D.int) = some (ns.map PyData.int)
  | [] => rfl
  | n :: ns => by
    have ih := toPs_ints ns
    show (toPs (D.int n :: ns.map D.int)) = _
    rw [toPs, ih]
    rfl
theorem eqvAll_ints : ∀ ns ms : List Int, PyData.eqvAll (ns.map PyData.int) (ms.map PyData.int) = decide (ns = ms)
  | [], [] => rfl
  | [], _ :: _ => rfl
  | _ :: _, [] => rfl
  | n :: ns, k :: ks => by
    show (PyData.eqv (.int n) (.int k) && PyData.eqvAll (ns.map PyData.int) (ks.map PyData.int)) = _
    rw [eqvAll_ints ns ks]
    simp [PyData.eqv, Bool.decide_and, Bool.beq_eq_decide_eq]
theorem can_ints : ∀ ns : List Int, PyData.canLayAll0 (ns.map PyData.int) = true
  | [] => rfl
  | n :: ns => by
    show (PyData.canLay0 (.int n) && PyData.canLayAll0 (ns.map PyData.int)) = true
    rw [can_ints ns]
    rfl
theorem depth_ints : ∀ ns : List Int, PyData.depthAll (ns.map PyData.int) ≤ 1
  | [] => by simp [PyData.depthAll]
  | n :: ns => by
    have := depth_ints ns
    simp [PyData.depthAll, PyData.depth]
    omega
theorem shaped_ints (ns : List Int) : SeqAt.shaped (.list (ns.map PyData.int)) = true := by
  unfold SeqAt.shaped
  have h1 := can_ints ns
  have h2 := depth_ints ns
  have h3 : PyData.depth (.list (ns.map PyData.int)) ≤ 64 := by
    show PyData.depthAll (ns.map PyData.int) + 1 ≤ 64
    omega
  rw [decide_eq_true h3]
  show (PyData.canLayAll0 (ns.map PyData.int) && true) = true
  rw [h1]
  rfl
theorem dEq_ints {x y : D} {m : M} {ns ms : List Int} {Q : D → M → Prop} (hx : lsOf m x = some (ns.map D.int)) (hy : lsOf m y = some (ms.map D.int)) (h : Q (.bl (decide (ns = ms))) m) : dEq x y m Q := by
  have dat : ∀ {d : D} {ks : List Int}, lsOf m d = some (ks.map D.int) → datOf m d = some (.list (ks.map PyData.int)) ∧ dEqB d d = none ∧ ∀ e, dEqB d e = none := by
    intro d ks hd
    cases d with
    | lst xs => cases hd; refine ⟨?_, rfl, fun e => by cases e <;> rfl⟩; show (toPs _).map _ = _; rw [toPs_ints]; rfl
    | rdl xs => cases hd; refine ⟨?_, rfl, fun e => by cases e <;> rfl⟩; show (toPs _).map _ = _; rw [toPs_ints]; rfl
    | ref a =>
      refine ⟨?_, rfl, fun e => by cases e <;> rfl⟩
      dsimp only [lsOf] at hd
      dsimp only [datOf]
      cases q : m a with
      | none => rw [q] at hd; cases hd
      | some o =>
        rw [q] at hd
        cases o with
        | lst zs => cases hd; show (toPs _).map _ = _; rw [toPs_ints]; rfl
        | _ => cases hd
    | _ => cases hd
  unfold dEq
  rw [(dat hx).2.2 y]
  exact ⟨_, _, (dat hx).1, (dat hy).1, shaped_ints ns, shaped_ints ms, by rw [show PyData.eqv (.list (ns.map PyData.int)) (.list (ms.map PyData.int)) = decide (ns = ms) from eqvAll_ints ns ms]; exact h⟩
theorem dNe_ints {x y : D} {m : M} {ns ms : List Int} {Q : D → M → Prop} (hx : lsOf m x = some (ns.map D.int)) (hy : lsOf m y = some (ms.map D.int)) (h : Q (.bl (!decide (ns = ms))) m) : dNe x y m Q := by
  have e := dEq_ints (Q := fun d m' => ∃ b, d = .bl b ∧ m' = m ∧ b = decide (ns = ms)) hx hy ⟨_, rfl, rfl, rfl⟩
  unfold dEq at e
  unfold dNe
  cases q : dEqB x y with
  | some b =>
    rw [q] at e
    obtain ⟨b', e1, _, e3⟩ := e
    cases e1
    show Q (.bl (!b)) m
    rw [e3]
    exact h
  | none =>
    rw [q] at e
    obtain ⟨p, q', e1, e2, s1, s2, b, eb, _, e3⟩ := e
    refine ⟨p, q', e1, e2, s1, s2, ?_⟩
    cases eb
    rw [e3]
    exact h
section
variable {m : M} {Q : D → M → Prop} {i j : Int} {x y : Str} {b c : Bool}
theorem eq_ii : dEq (.int i) (.int j) m Q ↔ Q (.bl (decide (i = j))) m := Iff.rfl
theorem ne_ii : dNe (.int i) (.int j) m Q ↔ Q (.bl (!decide (i = j))) m := Iff.rfl
theorem eq_ss : dEq (.str x) (.str y) m Q ↔ Q (.bl (decide (x = y))) m := Iff.rfl
theorem ne_ss : dNe (.str x) (.str y) m Q ↔ Q (.bl (!decide (x = y))) m := Iff.rfl
theorem eq_bb : dEq (.bl b) (.bl c) m Q ↔ Q (.bl (decide (b = c))) m := Iff.rfl
theorem ne_bb : dNe (.bl b) (.bl c) m Q ↔ Q (.bl (!decide (b = c))) m := Iff.rfl
end
theorem mul_small {i j : Int} (h : -(2 ^ 64) < j ∧ j < 2 ^ 64) : DL.MulOk i j := .inl (.inr h)
theorem mul_smallL {i j : Int} (h : -(2 ^ 64) < i ∧ i < 2 ^ 64) : DL.MulOk i j := .inl (.inl h)
theorem div_ok {i j : Int} (h : 0 < j) (hb : j ≤ 1000000000) : CDivW i j := wide_div h (b := 40) (by omega) (by decide) (by decide)
section
variable {x y z u : D} {xs : List D}
theorem at0 : atI (x :: xs) 0 = some x := atI_nat (j := 0) rfl
theorem at1 : atI (x :: y :: xs) 1 = some y := atI_nat (j := 1) rfl
theorem at2 : atI (x :: y :: z :: xs) 2 = some z := atI_nat (j := 2) rfl
theorem at3 : atI (x :: y :: z :: u :: xs) 3 = some u := atI_nat (j := 3) rfl
theorem ix30 : ixN 3 0 = some 0 := by decide
theorem ix31 : ixN 3 1 = some 1 := by decide
theorem ix32 : ixN 3 2 = some 2 := by decide
theorem ix20 : ixN 2 0 = some 0 := by decide
theorem ix21 : ixN 2 1 = some 1 := by decide
theorem ix10 : ixN 1 0 = some 0 := by decide
end
section
variable {K : PySem.W.Frag} {m : M} {Q : D → M → Prop} {d : D}
theorem isi_ty {T S : String} {b : Bool} (h1 : tyName m d = some S) (h2 : PySem.W.kitOne K (.type S) (.type T) = some b) : dIsi K [d, .ty T] m Q ↔ Q (.bl b) m := by
  constructor
  · rintro ⟨d', c, b', e, ⟨u, hu, hd⟩, q⟩
    cases e
    rcases hu with ⟨T', e1, rfl⟩ | ⟨C, e1, rfl⟩
    · cases e1
      rcases hd with ⟨S', e2, e3⟩ | ⟨C, fs, e2, _, _⟩
      · rw [h1] at e2
        cases e2
        rw [h2] at e3
        cases e3
        exact q
      · rw [e2] at h1
        cases h1
    · cases e1
  · exact fun q => ⟨d, .ty T, b, rfl, ⟨_, .inl ⟨T, rfl, rfl⟩, .inl ⟨S, h1, h2⟩⟩, q⟩
theorem isi_ii {i : Int} : dIsi K [.int i, .ty "int"] m Q ↔ Q (.bl true) m := isi_ty rfl rfl
theorem isi_ib {i : Int} : dIsi K [.int i, .ty "bool"] m Q ↔ Q (.bl false) m := isi_ty rfl rfl
theorem isi_ll {xs : List D} : dIsi K [.lst xs, .ty "list"] m Q ↔ Q (.bl true) m := isi_ty rfl rfl
theorem isi_bb {b : Bool} : dIsi K [.bl b, .ty "bool"] m Q ↔ Q (.bl true) m := isi_ty rfl rfl
theorem isi_ss {x : Str} : dIsi K [.str x, .ty "str"] m Q ↔ Q (.bl true) m := isi_ty rfl rfl
theorem isi_tt {xs : List D} : dIsi K [.tup xs, .ty "tuple"] m Q ↔ Q (.bl true) m := isi_ty rfl rfl
theorem isi_is {i : Int} : dIsi K [.int i, .ty "str"] m Q ↔ Q (.bl false) m := isi_ty rfl rfl
theorem isi_si {x : Str} : dIsi K [.str x, .ty "int"] m Q ↔ Q (.bl false) m := isi_ty rfl rfl
end
end DL

set_option Elab.async false
set_option linter.all false
set_option maxRecDepth 100000
set_option maxHeartbeats 4000000
namespace DL
open PySem PySem.Spec PyProof.Rows L2
open He (ga ma eqO eqO_ok ba)
section
variable {X : Cx} {k : Nat} {f C : Addr} {fd : FuncData} {ps : List Str}
variable {sp : DSp}
end
section
variable {m : M} {Q : D → M → Prop} {i : Int}
theorem eq_nn : dEq .non .non m Q ↔ Q (.bl true) m := Iff.rfl
theorem ne_nn : dNe .non .non m Q ↔ Q (.bl false) m := Iff.rfl
end
end DL

set_option Elab.async false
set_option linter.all false
set_option maxRecDepth 100000
set_option maxHeartbeats 4000000
namespace DL
open PySem PySem.Spec PyProof.Rows L2
open He (ga ma eqO eqO_ok ba)
section
variable {X : Cx} {W : WX} {WD : DWX} {x : Str} {p pos pos' : Pos} {C : Addr} {bmB : List Value} {B newId initId : String}
def dRaise0 (C : Addr) (WD : DWX) : DTS := fun _ r m => WD ⟨C, []⟩ r m
structure ExC (K : PySem.W.Frag) (C : Addr) : Prop where
  q : PySem.W.excIn K C [.type "ValueError", .type "Exception", .type "BaseException", .type "object"] "ValueError.__new__" = true
  kC : PySem.W.keepIn K (.ref C) = true
  exC : PySem.W.subIn K (.ref C) (.type "BaseException") = some true
  tyC : PySem.W.typeIn K (.ref C) = some (.type "type")
end
def tSts (K : PySem.W.Frag) : List (Str × Nat) → TS
  | [] => tNext
  | (f, i) :: r => tSeq (tOst K f (tVar 0) (tVar i)) (tSts K r)
theorem sts_more {K : PySem.W.Frag} {C a dx : Addr} (T : OexC K C) : ∀ (l : List (Str × Nat)) (ws : List V) (σ : L2.St) (H : Hp) (fs : List (Str × V)) (E : Ends), (∀ q ∈ l, PySem.W.findIn K (.ref C) q.1 = some none) → l.length = ws.length → (∀ (j : Nat) (i : Nat × V), (l.map (·.2)).zip ws = (l.map (·.2)).zip ws → ((l.map (·.2)).zip ws)[j]? = some i → σ[i.1]? = some (some i.2)) → σ[0]? = some (some (.ref a)) → H a = some (exo a C (some dx)) → dx ≠ a → H dx = some (exd dx fs) → fs.length + l.length ≤ 900 →
    E.nx σ (upd H dx (exd dx (((l.map (·.1)).zip ws).reverse ++ fs))) → tSts K l E σ H
  | [], ws, σ, H, fs, E, _, hl, _, _, ha, _, hd, _, h => by
    have e : upd H dx (exd dx fs) = H := by
      funext b
      unfold upd
      by_cases hb : b = dx
      · rw [if_pos hb, hb, hd]
      · rw [if_neg hb]
    show E.nx σ H
    simpa [e] using h
  | (f, i) :: l, [], σ, H, fs, E, _, hl, _, _, _, _, _, _, _ => by cases hl
  | (f, i) :: l, w :: ws, σ, H, fs, E, hn, hl, hs, h0, ha, hne, hd, hz, h => by
    refine ⟨w, hs 0 (i, w) rfl rfl, .ref a, h0, a, C, rfl, T, hn _ List.mem_cons_self, .inr ⟨dx, fs, ha, hd, by omega, ?_⟩⟩
    refine sts_more T l ws σ _ _ E (fun q hq => hn q (List.mem_cons_of_mem _ hq)) (by simpa using hl) (fun j k _ hk => hs (j + 1) k rfl (by simpa using hk)) h0 (by rw [upd_ne (fun z => hne z.symm)]; exact ha) hne upd_same (by simp at hz ⊢; omega) ?_
    have e : ∀ o o', upd (upd H dx o) dx o' = upd H dx o' := fun o o' => by
      funext b
      unfold upd
      by_cases hb : b = dx
      · rw [if_pos hb, if_pos hb]
      · rw [if_neg hb, if_neg hb, if_neg hb]
    rw [e]
    simpa using h
theorem zipIdx_fst : ∀ (l : List Str) (n : Nat), (l.zipIdx n).map (·.1) = l
  | [], _ => rfl
  | x :: l, n => by simp
theorem zip_slots : ∀ (l : List Str) (n : Nat) (ws : List V), l.length = ws.length → ∀ (j : Nat) (i : Nat × V), (((l.zipIdx n).map (·.2)).zip ws)[j]? = some i → i.1 = n + j ∧ ws[j]? = some i.2
  | [], _, _, _, j, i, h => by simp at h
  | x :: l, n, [], hl, _, _, _ => by cases hl
  | x :: l, n, w :: ws, hl, 0, i, h => by
    simp at h
    subst h
    simp
  | x :: l, n, w :: ws, hl, j + 1, i, h => by
    have := zip_slots l (n + 1) ws (by simpa using hl) j i (by simpa using h)
    refine ⟨by omega, by simpa using this.2⟩
theorem fn_exc {P : Program} {w : World} {K : PySem.W.Frag} {mg : Str → Option Value} {base : Heap} {x qual : Str} {params : Arguments} {body : List Stmt} {scope : Scope} {dvs : List V} {kws : List (Str × V)} {fI C : Addr} {fd : FuncData} {N ps : List Str} {f : Str} {fs : List Str} {k : Nat}
    (F : FunD K x qual params body scope dvs kws fI fd) (S : FnScope N ps scope) (T : OexC K C) (hn : ∀ g ∈ f :: fs, PySem.W.findIn K (.ref C) g = some none) (hps : ps.length = fs.length + 2) (hz : fs.length ≤ 100)
    (hb : ∀ (cdv : Value) (A : Around) (outer : List Env) (s : Shared) (H : Hp) (E : XK), PSs (CXo P w K mg base N qual scope fI cdv A outer s H E) body (tSts K ((f :: fs).zipIdx 1))) : FnOk P w K mg base (L2.CX P w) (k + 1) fI fd ps (spX C (f :: fs)) := by
  refine F.ok S (fun vs H Q E h => ?_) (fun cdv A outer s H vs Q E hr h => ?_)
  · obtain ⟨a, ws, rfl, hl, _⟩ := h
    simp at hl ⊢
    omega
  · obtain ⟨a, ws, rfl, hl, ha, q⟩ := h
    refine ⟨_, hb cdv A outer s H E, ?_⟩
    obtain ⟨w, ws, rfl⟩ : ∃ w r, ws = w :: r := by
      cases ws with
      | nil => cases hl
      | cons w r => exact ⟨w, r, rfl⟩
    have hlen : ws.length = fs.length := by simpa using hl
    have hσ : ∀ (j : Nat) (v : V), (.ref a :: w :: ws)[j]? = some v → (L2.start N (.ref a :: w :: ws))[j]? = some (some v) := fun j v e => by
      unfold L2.start
      have hj : j < (V.ref a :: w :: ws).length := by
        rcases Nat.lt_or_ge j (V.ref a :: w :: ws).length with h | h
        · exact h
        · rw [List.getElem?_eq_none h] at e
          cases e
      rw [List.getElem?_append_left (by rw [List.length_map]; exact hj), List.getElem?_map, e]
      rfl
    refine ⟨w, hσ 1 w rfl, .ref a, hσ 0 _ rfl, a, C, rfl, T, hn f List.mem_cons_self, .inl ⟨ha, fun dx hd hne => ?_⟩⟩
    refine sts_more T (fs.zipIdx 2) ws _ _ [(f, w)] _ (fun g hg => hn _ (List.mem_cons_of_mem _ ?_)) (by simp [hlen]) (fun j i _ e => ?_) (hσ 0 _ rfl) upd_same hne (by rw [upd_ne hne]; exact upd_same) (by simp; omega) ?_
    · have := List.mem_map_of_mem (f := (·.1)) hg
      rw [zipIdx_fst] at this
      exact this
    · obtain ⟨e1, e2⟩ := zip_slots fs 2 ws hlen.symm j i e
      rw [e1]
      refine hσ _ _ ?_
      rw [show 2 + j = j + 2 by omega]
      simpa using e2
    · have e := q dx hd hne
      rw [zipIdx_fst]
      have e2 : upd (upd (upd H dx (exd dx [(f, w)])) a (exo a C (some dx))) dx (exd dx ((fs.zip ws).reverse ++ [(f, w)])) = upd (upd H dx (exd dx ((f :: fs).zip (w :: ws)).reverse)) a (exo a C (some dx)) := by
        funext b
        unfold upd
        by_cases h1 : b = dx
        · subst h1
          rw [if_pos rfl, if_neg hne, if_pos rfl]
          simp
        · rw [if_neg h1]
          by_cases h2 : b = a
          · rw [if_pos h2, if_pos h2]
          · rw [if_neg h2, if_neg h2, if_neg h1, if_neg h1]
      rw [e2]
      exact e
section
variable {X : Cx} {W : WX} {WD : DWX} {x : Str} {p pos pos' : Pos} {C fI : Addr} {fs ps : List Str} {k : Nat} {fd : FuncData} {e : Expr} {es : List Expr} {ta : DTA}
def dRaise (C : Addr) (fs : List Str) (WD : DWX) (ta : DTA) : DTS := fun _ r m => ta r m fun ds m1 => ds.length = fs.length ∧ WD ⟨C, (fs.zip ds).reverse⟩ r m1
theorem rpf_zip {K : PySem.W.Frag} {G : Hp} : ∀ {fs : List Str} {ds : List D} {vs : List V}, Rps K G ds vs → Rpf K G (fs.zip ds) (fs.zip vs)
  | [], _, _, _ => .nil
  | _ :: _, _, _, .nil => .nil
  | _ :: _, _, _, .cons r rs => .cons r (rpf_zip rs)
theorem rpf_app {K : PySem.W.Frag} {G : Hp} : ∀ {a b : List (Str × D)} {u v : List (Str × V)}, Rpf K G a u → Rpf K G b v → Rpf K G (a ++ b) (u ++ v)
  | _, _, _, _, .nil, h => h
  | _, _, _, _, .cons r t, h => .cons r (rpf_app t h)
theorem rpf_rev {K : PySem.W.Frag} {G : Hp} : ∀ {a : List (Str × D)} {u : List (Str × V)}, Rpf K G a u → Rpf K G a.reverse u.reverse
  | _, _, .nil => .nil
  | _, _, .cons r t => by
    rw [List.reverse_cons, List.reverse_cons]
    exact rpf_app (rpf_rev t) (.cons r .nil)
end
section
variable {X : Cx} {W : WX} {WD : DWX} {x n : Str} {c : Addr} {i : Nat} {body suite : List Stmt} {b₀ : Stmt} {np pos pos' : Pos} {tb : DWX → DTS}
def dCatch (K : PySem.W.Frag) (c : Addr) (ts : DTS) (WD : DWX) (DD : DEnds) : DWX := fun x r m => ∃ b, PySem.W.exmOne K (.ref x.C) (.ref c) = some b ∧ (b = true → ts DD r m) ∧ (b = false → WD x r m)
def dTry (K : PySem.W.Frag) (c : Addr) (tb : DWX → DTS) (ts : DTS) (WD : DWX) : DTS := fun DD r m => tb (dCatch K c ts WD DD) DD r m
def dCatchAs (K : PySem.W.Frag) (c : Addr) (i : Nat) (ts : DTX) (WD : DWX) (DD : DEnds) : DWX := fun x r m => ∃ b, PySem.W.exmOne K (.ref x.C) (.ref c) = some b ∧
  (b = true → ∀ a d, m a = none → ts a x.C d { nx := fun r' m' => DD.nx (r'.set i none) m', rt := DD.rt, bk := fun r' m' => DD.bk (r'.set i none) m', ct := fun r' m' => DD.ct (r'.set i none) m' } (r.set i (some (.exn a d x.fs))) m) ∧ (b = false → WD x r m)
def dTryAs (K : PySem.W.Frag) (c : Addr) (i : Nat) (tb : DWX → DTS) (ts : DTX) (WD : DWX) : DTS := fun DD r m => tb (dCatchAs K c i ts WD DD) DD r m
theorem rp_exn {K : PySem.W.Frag} {G : Hp} {a : Addr} {d : Option Addr} {fs : List (Str × D)} (h : RpX K G d fs) : Rp K G (.exn a d fs) (.ref a) := by
  rcases h with ⟨rfl, rfl⟩ | ⟨dd, fv, rfl, h1, h2⟩
  · exact .exn0 a
  · exact .exnS h1 h2
def dXf (a cls : Addr) (d : Option Addr) (C : Addr) (f : Str) (te : DTE) : DTE := fun r m Q => te r m fun v m1 => ∃ fs y, v = .exn a d fs ∧ cls = C ∧ fs.lookup f = some y ∧ Q y m1
theorem rpf_look {K : PySem.W.Frag} {G : Hp} {f : Str} : ∀ {a : List (Str × D)} {u : List (Str × V)} {y : D}, Rpf K G a u → a.lookup f = some y → ∃ v, u.lookup f = some v ∧ Rp K G y v
  | _, _, _, .nil, h => by cases h
  | _, _, y, .cons (n := n) (d := d) (v := v) r t, h => by
    rw [List.lookup_cons] at h ⊢
    cases e : f == n with
    | true =>
      rw [e] at h
      cases h
      exact ⟨v, rfl, r⟩
    | false =>
      rw [e] at h
      exact rpf_look t h
end
theorem exc_of {K : Fr0} {C : Str} (h : excB C K = true) : ExC K (ga K C) := by
  obtain ⟨h1, h⟩ := ba h
  obtain ⟨h2, h⟩ := ba h
  obtain ⟨h3, h4⟩ := ba h
  exact ⟨h1, h2, of_decide_eq_true h3, of_decide_eq_true h4⟩
theorem oex_in {K : PySem.W.Frag} {C : Addr} (q : oexIn K C = true) : ∃ nm q N bs bm sn sub ab col dd k0 k1 k2 k3 k5, K.lookup C = some (excClassObj nm q C N bs bm true sn sub ab col dd k0 k1 k2 k3 k5 "ValueError.__new__") ∧ PySem.HandSPX.refsVE bm = true := by
  unfold oexIn at q
  split at q
  · rename_i dd cd sl ho
    split at q
    · rename_i C' bm k0 k1 k2 k3 n k5 hm hs
      simp only [Bool.and_eq_true, beq_iff_eq, Bool.not_eq_true'] at q
      obtain ⟨rfl, rfl, hdel, hd, hr⟩ := q
      obtain ⟨nm, bs, mro, ns, qn, hd', sn, sub, ab, col, del⟩ := cd
      dsimp only at hm hdel hd
      subst hm hdel hd
      have hsl : sl = #[k0, k1, k2, k3, some (.builtin "ValueError.__new__"), k5] := by
        obtain ⟨l⟩ := sl
        simp only at hs
        rw [hs]
      subst hsl
      exact ⟨nm, qn, ns, bs, bm, sn, sub, ab, col, dd, k0, k1, k2, k3, k5, ho, hr⟩
    · cases q
  · cases q
theorem oex_of {K : Fr0} {C : Str} (h : oexB C K = true) : OexC K (ga K C) ∧ PySem.W.findIn K (.ref (ga K C)) "__init__" = some (some (.ref (ma K (ga K C) "__init__"))) ∧ PySem.W.typeIn K (.ref (ma K (ga K C) "__init__")) = some (.type "function") := by
  obtain ⟨h1, h⟩ := ba h
  obtain ⟨h2, h⟩ := ba h
  obtain ⟨h3, h⟩ := ba h
  obtain ⟨h4, h⟩ := ba h
  obtain ⟨h5, h⟩ := ba h
  obtain ⟨h6, h7⟩ := ba h
  exact ⟨⟨oex_in h1, eqO_ok h2, of_decide_eq_true h4, of_decide_eq_true h5, h3⟩, eqO_ok h6, of_decide_eq_true h7⟩
end DL

set_option Elab.async false
set_option linter.all false
set_option maxRecDepth 100000
set_option maxHeartbeats 4000000
namespace DL
open PySem PySem.Spec PyProof.Rows L2
open He (ga ma eqO eqO_ok ba)
section
variable {X : Cx} {W : WX} {WD : DWX} {a b e tg : Expr} {ta tb : DTE} {tr : DTR} {p pos : Pos}
def drR1 (ta : DTE) : DTR := fun r m Q => ta r m fun d m1 => ∃ n, d = .int n ∧ Q 0 n m1
def drR2 (ta tb : DTE) : DTR := fun r m Q => ta r m fun d m1 => tb r m1 fun d2 m2 => ∃ i j, d = .int i ∧ d2 = .int j ∧ Q i j m2
def revD (lo : Int) (n : Nat) : List D := (List.range n).map fun (k : Nat) => D.int (lo + (n : Int) - 1 - (k : Int))
def diRv (tr : DTR) : DTI := fun r m Q => tr r m fun a b m1 => (-(2 ^ 62) ≤ a ∧ a < 2 ^ 62 ∧ -(2 ^ 62) ≤ b ∧ b < 2 ^ 62) ∧ Q (revD a (b - a).toNat) m1
def dListR (mt : Bool) (tr : DTR) : DTE := fun r m Q => tr r m fun a b m1 => RgOk a b ∧ mkL mt (rngD a (b - a).toNat) m1 Q
end
structure SMet (K : PySem.W.Frag) (C : Addr) (m : Str) (p g : Addr) : Prop where
  rd : ClX.CRead K C (.type "type")
  at_ : PySem.W.findCls K (.ref C) (.type "type") m = some (.get (.builtin "staticmethod.__get__") (.ref p) .none (.ref C))
  rc : ∃ rest, PySem.W.recIn K p "staticmethod" = some (.ref g :: rest)
section
variable {X : Cx} {W : WX} {WD : DWX} {k : Nat} {C p g : Addr} {fd : FuncData} {ps : List Str} {sp : DSp} {x mn : Str} {np pos apos : Pos} {e : Expr} {es : List Expr} {t : DTA} {pl : Sem Bool}
end
section
variable {X : Cx} {W : WX} {WD : DWX} {k : Nat} {f C : Addr} {fd : FuncData} {ps : List Str} {sp : DSp} {a b : Expr} {ta tb : DTE} {pos : Pos}
def dAddO (C : Addr) (sp : DSp) (WD : DWX) (ta tb : DTE) : DTE := fun r m Q => ta r m fun x m1 => tb r m1 fun y m2 => ∃ fs gs, insOf m2 x = some (C, fs) ∧ insOf m2 y = some (C, gs) ∧ sp [x, y] m2 (fun d m' => (∃ C fs, d = .ins C fs) ∧ Q d m') fun x m2 => WD x r m2
def dInO (C : Addr) (sp : DSp) (b : Bool) : DR2 := fun x y m Q => ∃ fs, insOf m y = some (C, fs) ∧ sp [y, x] m (fun d m' => ∃ c : Bool, d = .bl c ∧ Q (.bl (c != b)) m') fun _ _ => False
end
end DL

set_option Elab.async false
set_option linter.all false
set_option maxRecDepth 100000
set_option maxHeartbeats 4000000
namespace DL
open PySem PySem.Spec PyProof.Rows L2
theorem cl_all {n : Nat} : ∀ {xs : List D}, (∀ x ∈ xs, ∃ p, toP x = some p ∧ p.canLay0 = true ∧ p.depth ≤ n) → ∃ ps, toPs xs = some ps ∧ PyData.canLayAll0 ps = true ∧ PyData.depthAll ps ≤ n
  | [], _ => ⟨[], by simp [toPs], rfl, by simp [PyData.depthAll]⟩
  | x :: xs, h => by
    obtain ⟨p, e, c, d⟩ := h x List.mem_cons_self
    obtain ⟨ps, e2, c2, d2⟩ := cl_all (xs := xs) fun y hy => h y (List.mem_cons_of_mem _ hy)
    refine ⟨p :: ps, by rw [toPs, e, e2]; rfl, ?_, ?_⟩
    · show (PyData.canLay0 p && PyData.canLayAll0 ps) = true
      rw [c, c2]; rfl
    · show max (PyData.depth p) (PyData.depthAll ps) ≤ n
      omega
theorem eqB_data {x y : D} {b : Bool} (h : dEqB x y = some b) : b = true ↔ x = y := by
  cases x <;> cases y <;> first
    | (cases h; done)
    | (cases h; simp)
section
variable {m : M} {n : Nat} {x y : D} {Q : D → M → Prop}
end
end DL

set_option Elab.async false
set_option linter.all false
set_option maxRecDepth 100000
set_option maxHeartbeats 4000000
namespace DL
open PySem PySem.Spec PyProof.Rows L2
open He (ga ma eqO eqO_ok ba)
def chars (z : Str) : List D := z.cps.toList.map fun c => D.str ⟨#[c]⟩
def enumD (ds : List D) : List D := ds.zipIdx.map fun p => .tup [.int (p.2 : Nat), p.1]
section
variable {X : Cx} {W : WX} {WD : DWX} {tg : Expr}
def diS (te : DTE) : DTI := fun r m Q => te r m fun d m1 => match d with
  | .str z => Q (chars z) m1
  | _ => False
def diE (ta : DTA) : DTI := fun r m Q => ta r m fun ds m1 => match ds with
  | [.lst xs] => Q (enumD xs) m1
  | [.rdl xs] => Q (enumD xs) m1
  | _ => False
end
section
variable {X : Cx} {W : WX} {WD : DWX}
def dFmt (te : DTE) : DTE := fun r m Q => te r m fun d m1 => match d with
  | .str y => y.length ≤ sizeLine ∧ Q (.str y) m1
  | .int i => i.natAbs.log2 < 1920 ∧ Q (.str (toString i)) m1
  | _ => False
def dJs : List DTE → Str → DSt → M → (Str → M → Prop) → Prop
  | [], acc, _, m, Q => Q acc m
  | t :: ts, acc, r, m, Q => t r m fun d m1 => ∃ y : Str, d = .str y ∧ (acc ++ y).length ≤ sizeLine ∧ dJs ts (acc ++ y) r m1 Q
def dFStr (ts : List DTE) : DTE := fun r m Q => dJs ts Str.empty r m fun out m1 => Q (.str out) m1
inductive DJ (X : Cx) (W : WX) (WD : DWX) : List Expr → List DTE → Prop where
  | nil : DJ X W WD [] []
  | cons {e : Expr} {t : DTE} {es : List Expr} {ts : List DTE} (h : DE X W WD e t) (r : DJ X W WD es ts) : DJ X W WD (e :: es) (t :: ts)
end
section
variable {K : PySem.W.Frag} {x qual : Str} {params : Arguments} {body : List Stmt} {scope : Scope} {dvs : List V} {kws : List (Str × V)} {f : Addr} {fd : FuncData} {ps : List Str}
end
structure GoodK (P : Program) (w : World) (K : Fr0) (mg : Str → Option Value) (base : Heap) (k : Nat) (x : Option Str) (f : Addr) (ps : List Str) (sp : DSp) (n : Nat) (ks : List Str) (dds : List D) : Prop where
  ex : ∃ fd, FnOk P w K mg base (L2.CX P w) k f fd ps (liftSp K sp) ∧ PySem.W.keepIn K (.ref f) = true ∧ KBn K fd ps n ks (fun us ws => us ++ ws) (fun vs zs => vs ++ zs) ∧ ∃ ds dvs, Vals dvs ds ∧ Binds K fd ps ds ∧ ∀ G, Rps K G dds dvs
  gl : match x with
    | some x => mg x = some (.ref f)
    | none => True
structure GoodD (P : Program) (w : World) (K : Fr0) (mg : Str → Option Value) (base : Heap) (k : Nat) (x : Option Str) (f : Addr) (ps : List Str) (sp : DSp) (dds : List D) : Prop where
  ex : ∃ fd, FnOk P w K mg base (L2.CX P w) k f fd ps (liftSp K sp) ∧ PySem.W.keepIn K (.ref f) = true ∧ Binds K fd ps [] ∧ ∃ ds dvs, Vals dvs ds ∧ Binds K fd ps ds ∧ ∀ G, Rps K G dds dvs
  gl : match x with
    | some x => mg x = some (.ref f)
    | none => True
section
variable {X : Cx} {W : WX} {WD : DWX} {k n : Nat} {f : Addr} {fd : FuncData} {ps ks : List Str} {sp : DSp} {x : Str} {p pos kpos : Pos} {e : Expr} {es : List Expr} {kws : List Keyword} {t tk : DTA} {te : DTE} {nm : Option Str} {g : List Value → List Value → List Value} {gV : List V → List V → List V}
def dCallN (n j : Nat) (sp : DSp) (WD : DWX) (t tk : DTA) : DTE := fun r m Q => t r m fun ds m1 => tk r m1 fun zs m2 => ds.length = n ∧ zs.length = j ∧ sp (ds ++ zs) m2 Q fun x m3 => WD x r m3
end
end DL

set_option Elab.async false
set_option linter.all false
set_option maxRecDepth 100000
set_option maxHeartbeats 4000000
namespace DL
open PySem PySem.Spec PyProof.Rows L2
section
variable {X : Cx} {W : WX} {WD : DWX}
end
end DL

set_option Elab.async false
set_option linter.all false
set_option maxRecDepth 100000
set_option maxHeartbeats 4000000
namespace DL
open PySem PySem.Spec PyProof.Rows L2
open He (ga ma eqO eqO_ok ba)
theorem frz_l {m : M} {a : Addr} {ds : List D} {Q : D → M → Prop} : frzV (mset m a (.lst ds)) (.ref a) Q ↔ Q (.lst ds) (mdel (mset m a (.lst ds)) a) := by
  unfold frzV
  dsimp only
  rw [mset_same]
theorem in_ss {i j : Str} {m : M} {Q : D → M → Prop} : dIn false (.str i) (.str j) m Q ↔ Q (.bl (!(Builtin.Str.occurrences j i 0 j.length 1).isEmpty)) m := Iff.rfl
theorem notin_ss {i j : Str} {m : M} {Q : D → M → Prop} : dIn true (.str i) (.str j) m Q ↔ Q (.bl (!(!(Builtin.Str.occurrences j i 0 j.length 1).isEmpty))) m := Iff.rfl
def clR : Nat → D → Bool
  | _, .non => true
  | _, .bl _ => true
  | _, .int _ => true
  | _, .str x => PyData.strOk x
  | n + 1, .lst xs => xs.all (clR n)
  | n + 1, .tup xs => xs.all (clR n)
  | _, _ => false
theorem clR_toP : ∀ (n : Nat) (x : D), clR n x = true → ∃ p, toP x = some p ∧ p.canLay0 = true ∧ p.depth ≤ n
  | n, .non, _ => ⟨.none, by rw [toP], rfl, by simp [PyData.depth]⟩
  | n, .bl i, _ => ⟨.bool i, by rw [toP], rfl, by simp [PyData.depth]⟩
  | n, .int i, _ => ⟨.int i, by rw [toP], rfl, by simp [PyData.depth]⟩
  | n, .str x, h => by
    refine ⟨.str x, by rw [toP], ?_, by simp [PyData.depth]⟩
    cases n <;> exact h
  | n + 1, .lst xs, h => by
    obtain ⟨ps, e, c, d⟩ := cl_all (n := n) fun x hx => clR_toP n x (List.all_eq_true.mp h x hx)
    exact ⟨.list ps, by rw [toP, e]; rfl, c, by show PyData.depthAll ps + 1 ≤ n + 1; omega⟩
  | n + 1, .tup xs, h => by
    obtain ⟨ps, e, c, d⟩ := cl_all (n := n) fun x hx => clR_toP n x (List.all_eq_true.mp h x hx)
    exact ⟨.tuple ps, by rw [toP, e]; rfl, c, by show PyData.depthAll ps + 1 ≤ n + 1; omega⟩
  | 0, .lst _, h => by cases h
  | 0, .tup _, h => by cases h
  | 0, .ty _, h => by cases h
  | 0, .ref _, h => by cases h
  | 0, .rdl _, h => by cases h
  | 0, .ins _ _, h => by cases h
  | 0, .exn _ _ _, h => by cases h
  | 0, .dki _, h => by cases h
  | 0, .dti _, h => by cases h
  | 0, .clo _ _ _ _ _, h => by cases h
  | 0, .obj _ _, h => by cases h
  | n + 1, .ty _, h => by cases h
  | n + 1, .ref _, h => by cases h
  | n + 1, .rdl _, h => by cases h
  | n + 1, .ins _ _, h => by cases h
  | n + 1, .exn _ _ _, h => by cases h
  | n + 1, .dki _, h => by cases h
  | n + 1, .dti _, h => by cases h
  | n + 1, .clo _ _ _ _ _, h => by cases h
  | n + 1, .obj _ _, h => by cases h
mutual
theorem eqv_refl : ∀ p : PyData, p.canLay0 = true → PyData.eqv p p = true
  | .none, _ => by simp [PyData.eqv]
  | .bool b, _ => by simp [PyData.eqv]
  | .int i, _ => by simp [PyData.eqv]
  | .str x, _ => by simp [PyData.eqv]
  | .list xs, h => by rw [PyData.eqv]; exact eqvAll_refl xs h
  | .tuple xs, h => by rw [PyData.eqv]; exact eqvAll_refl xs h
  | .dict _, h => by cases h
theorem eqvAll_refl : ∀ xs : List PyData, PyData.canLayAll0 xs = true → PyData.eqvAll xs xs = true
  | [], _ => by simp [PyData.eqvAll]
  | x :: xs, h => by
    have h : (PyData.canLay0 x && PyData.canLayAll0 xs) = true := h
    rw [Bool.and_eq_true] at h
    rw [PyData.eqvAll, eqv_refl x h.1, eqvAll_refl xs h.2]
    rfl
end
theorem eqB_refl {x : D} {b : Bool} (h : dEqB x x = some b) : b = true := (eqB_data h).mpr rfl
section
variable {m : M} {n : Nat} {x : D} {Q : D → M → Prop}
theorem dEq_refl (hn : n ≤ 64) (c : clR n x = true) (h : Q (.bl true) m) : dEq x x m Q := by
  unfold dEq
  cases e : dEqB x x with
  | some b => rw [eqB_refl e]; exact h
  | none =>
    obtain ⟨p, e1, l1, d1⟩ := clR_toP n x c
    have e2 : datOf m x = some p := by
      cases x with
      | ref a => cases n <;> cases c
      | _ => exact e1
    have sh : SeqAt.shaped p = true := by unfold SeqAt.shaped; rw [l1, decide_eq_true (by omega)]; rfl
    exact ⟨p, p, e2, e2, sh, sh, by rw [eqv_refl p l1]; exact h⟩
end
def dIsB : DR2 := fun x y m Q => ∃ a b : Bool, x = .bl a ∧ y = .bl b ∧ Q (.bl (decide (a = b))) m
def dNotB : DR2 := fun x y m Q => ∃ a b : Bool, x = .bl a ∧ y = .bl b ∧ Q (.bl (!decide (a = b))) m
theorem od_notB {K : PySem.W.Frag} : OpD K rNotB dNotB := by
  intro G H F m x y vx vy QD Q r px py t k
  obtain ⟨a, b, rfl, rfl, t⟩ := t
  cases px; cases py
  exact ⟨a, b, rfl, rfl, k.here r (.bl _) t⟩
end DL

set_option Elab.async false
set_option linter.all false
set_option maxRecDepth 100000
set_option maxHeartbeats 4000000
namespace DL
open PySem PySem.Spec PyProof.Rows L2
abbrev SuiteOk (X : Cx) (st : List Stmt) (ts : Addr → Value → Option Addr → TS) : Prop := ∀ (a : Addr) (oe : Obj) (cls : Value) (d : Option Addr) (pn : List (Addr × Obj)), Zc cls d oe → (∃ vs, oe.data = .fields vs) → PSs (X.suite a ((a, oe) :: pn)) st (ts a cls d)
inductive ClsOk (X : Cx) : List ExceptHandler → List Cls1 → Prop
  | nil : ClsOk X [] []
  | plain {x : Str} {c : Value} {ts : Addr → Value → Option Addr → TS} {b₀ : Stmt} {suite : List Stmt} {np p2 : Pos} {hds : List ExceptHandler} {l : List Cls1} (hc : Names X x c) (hsu : SuiteOk X (b₀ :: suite) ts) (r : ClsOk X hds l) :
      ClsOk X (.ExceptHandler (some (.Name x np)) none (b₀ :: suite) p2 :: hds) ((c, none, ts) :: l)
  | named {x n : Str} {i : Nat} {c : Value} {ts : Addr → Value → Option Addr → TS} {b₀ : Stmt} {suite : List Stmt} {np p2 : Pos} {hds : List ExceptHandler} {l : List Cls1} (hi : X.N[i]? = some n) (hln : X.env.kindOf n = some .local) (hc : Names X x c) (hsu : SuiteOk X (b₀ :: suite) ts) (r : ClsOk X hds l) :
      ClsOk X (.ExceptHandler (some (.Name x np)) (some n) (b₀ :: suite) p2 :: hds) ((c, some i, ts) :: l)
section
variable {X : Cx} {body : List Stmt} {h₀ : ExceptHandler} {hds : List ExceptHandler} {l : List Cls1} {pos : Pos} {tb : WX → TS} {Wout : WX}
end

abbrev DSuiteOk (X : Cx) (st : List Stmt) (ts : DTX) : Prop := ∀ (a : Addr) (oe : Obj) (C : Addr) (d : Option Addr) (pn : List (Addr × Obj)), Zc (.ref C) d oe → (∃ vs, oe.data = .fields vs) → DSs (X.suite a ((a, oe) :: pn)) W0 WD0 st (ts a C d)
inductive DClsOk (X : Cx) : List ExceptHandler → List DCls → Prop
  | nil : DClsOk X [] []
  | plain {x : Str} {c : Value} {ts : DTX} {b₀ : Stmt} {suite : List Stmt} {np p2 : Pos} {hds : List ExceptHandler} {l : List DCls} (hc : Names X x c) (hsu : DSuiteOk X (b₀ :: suite) ts) (r : DClsOk X hds l) :
      DClsOk X (.ExceptHandler (some (.Name x np)) none (b₀ :: suite) p2 :: hds) ((c, none, ts) :: l)
  | named {x n : Str} {i : Nat} {c : Value} {ts : DTX} {b₀ : Stmt} {suite : List Stmt} {np p2 : Pos} {hds : List ExceptHandler} {l : List DCls} (hi : X.N[i]? = some n) (hln : X.env.kindOf n = some .local) (hc : Names X x c) (hsu : DSuiteOk X (b₀ :: suite) ts) (r : DClsOk X hds l) :
      DClsOk X (.ExceptHandler (some (.Name x np)) (some n) (b₀ :: suite) p2 :: hds) ((c, some i, ts) :: l)
section
variable {X : Cx} {W : WX} {WD : DWX} {body : List Stmt} {h₀ : ExceptHandler} {hds : List ExceptHandler} {l : List DCls} {pos : Pos} {tb : DWX → DTS}
end
end DL

set_option Elab.async false
set_option linter.all false
set_option maxRecDepth 100000
set_option maxHeartbeats 4000000
namespace DL
open PySem PySem.Spec PyProof.Rows L2
open He (ga ba)
section
variable {K : PySem.W.Frag} {a ec C : Addr} {ed : Option Addr} {m : M} {Q : D → M → Prop} {fs : List (Str × D)} {b : Bool}
end
theorem xis_of {K : Fr0} {C : Str} (h : xisB C K = true) : ExcC K (ga K C) := by
  obtain ⟨h1, h⟩ := ba h
  obtain ⟨h2, h⟩ := ba h
  obtain ⟨h3, h⟩ := ba h
  obtain ⟨h4, h⟩ := ba h
  obtain ⟨h5, h⟩ := ba h
  obtain ⟨h6, h⟩ := ba h
  obtain ⟨h7, h8⟩ := ba h
  exact ⟨of_decide_eq_true h1, of_decide_eq_true h2, of_decide_eq_true h3, h4, of_decide_eq_true h5, of_decide_eq_true h6, of_decide_eq_true h7, of_decide_eq_true h8⟩
end DL

set_option Elab.async false
set_option linter.all false
set_option maxRecDepth 100000
set_option maxHeartbeats 4000000
namespace DL
open PySem PySem.Spec PyProof.Rows L2
section
variable {K : PySem.W.Frag} {X : Cx} {W : WX} {WD : DWX} {a b : Expr} {ta tb : DTE} {pos : Pos}
end
end DL

set_option Elab.async false
set_option linter.all false
set_option maxRecDepth 100000
set_option maxHeartbeats 4000000
namespace DL
open PySem PySem.Spec PyProof.Rows L2
theorem MSub.refl (m : M) : MSub m m := fun _ _ h => h
theorem MSub.set {m : M} {p : Addr} {o : MO} (h : m p = none) : MSub m (mset m p o) := fun x u e => by
  rw [mset_ne (fun q => by rw [q, h] at e; cases e)]
  exact e
theorem Rep.sub {K : PySem.W.Frag} {G H F : Hp} {m m2 : M} (r : Rep K G H F m) (h : MSub m2 m) : Rep K G H F m2 := ⟨r.ext, r.frm, r.dis, fun a o e => r.mo a o (h a o e), r.tb, r.gt, r.ft⟩
def dWk (te : DTE) : DTE := fun r m Q => te r m fun d m1 => ∃ m2, MSub m2 m1 ∧ Q d m2
section
variable {X : Cx} {W : WX} {WD : DWX} {e : Expr} {te : DTE}
theorem de_wk (he : DE X W WD e te) : DE X W WD e (dWk te) := by
  refine PE.imp he fun σ H Q h => ?_
  obtain ⟨G, F, r, m, QD, x, t, k⟩ := h
  refine ⟨G, F, r, m, _, x, t, fun G1 H1 m1 d v e1 p1 q1 t1 => ?_⟩
  obtain ⟨m2, hs, t2⟩ := t1
  exact k G1 H1 m2 d v e1 (p1.sub hs) q1 t2
end
def keyD : Key → D
  | .inl i => .int i
  | .inr x => .str x
section
variable {κ : Type} [DecidableEq κ]
def putKD (kvs : List (κ × D)) (k : κ) (v : D) : List (κ × D) :=
  if (kvs.any fun kv => decide (kv.1 = k)) = true then kvs.map (fun kv => if kv.1 = k then (kv.1, v) else kv) else kvs ++ [(k, v)]
variable {K : PySem.W.Frag} {G : Hp}
theorem Rpk.any (k : κ) : ∀ {ds : List (κ × D)} {vs : List (κ × V)}, Rpk K G ds vs → (ds.any fun kv => decide (kv.1 = k)) = (vs.any fun kv => decide (kv.1 = k))
  | _, _, .nil => rfl
  | _, _, .cons _ t => by rw [List.any_cons, List.any_cons, Rpk.any k t]
end
section
variable {K : PySem.W.Frag} {X : Cx} {W : WX} {WD : DWX} {a b : Expr} {ta tb tc : DTE} {pos pos' : Pos}
end
section
variable {X : Cx} {W : WX} {WD : DWX}
end
section
variable {K : PySem.W.Frag} {X : Cx} {W : WX} {WD : DWX}
end
end DL

set_option Elab.async false
set_option linter.all false
set_option maxRecDepth 100000
set_option maxHeartbeats 4000000
namespace DL
open PySem PySem.Spec PyProof.Rows L2
section
variable {K : PySem.W.Frag} {X : Cx} {W : WX} {WD : DWX}
def dJoin : DRM := fun x ds m Q => ∃ a d, ∃ ys : List Str, x = .str a ∧ ds = [d] ∧ sqOf m d = some (ys.map D.str) ∧ (ys.map (·.length)).sum + ys.length * a.length ≤ 16777216 ∧ Q (.str (PySem.Txt.join a ys)) m
theorem md_join : MtD K "str" (fun x xs H Q => ∃ a p, ∃ ys : List Str, x = .str a ∧ xs = [.ref p] ∧ (SqL K H p (ys.map V.str) ∨ SqT K H p (ys.map V.str)) ∧
    (ys.map (·.length)).sum + ys.length * a.length ≤ 16777216 ∧ Q (.str (PySem.Txt.join a ys)) H) isS dJoin := by
  refine ⟨fun G H F m x vx r p h => ty_str r p h, fun G H F m x vx ds vs QD Q r px ps t k => ?_⟩
  obtain ⟨z, d, ys, rfl, rfl, hs, hz, t⟩ := t
  cases px
  obtain ⟨v, rfl, p⟩ := rps1 ps
  obtain ⟨a, us, rfl, hq, rs⟩ := sq_ok r p hs
  have := rs.strs
  subst this
  exact ⟨z, a, ys, rfl, rfl, hq, hz, k.here r (.str _) t⟩
end
end DL

set_option Elab.async false
set_option linter.all false
set_option maxRecDepth 100000
set_option maxHeartbeats 4000000
namespace DL
open PySem PySem.Spec PyProof.Rows L2
section
variable {K : PySem.W.Frag} {X : Cx}
end
end DL

set_option Elab.async false
set_option linter.all false
set_option maxRecDepth 100000
set_option maxHeartbeats 4000000
namespace DL
open PySem PySem.Spec PyProof.Rows L2 LamX
structure Lam1 (sc scope : Scope) (p : Str) : Prop where
  kind : scope.kind = .function
  co : scope.isCoroutine = false
  gen : scope.isGenerator = false
  par : scope.names.lookup p = some .local
  own : ∀ y ∈ scope.names, y.2 = .local → y.1 = p
  cell : ∀ y ∈ scope.names, y.2 ≠ .cell
  free : ∀ y ∈ scope.names, y.2 = .free → sc.names.lookup y.1 = some .cell ∨ sc.names.lookup y.1 = some .free
section
variable {X : Cx} {pins : List (Addr × Obj)} {σ : L2.St} {H HZ : Hp} {s t : Shared}
theorem Lam1.has {scope : Scope} {p : Str} (L : Lam1 X.env.scope scope p) (ok : X.Ok) : ∀ y ∈ scope.names, y.2 = .free → ∃ c, X.env.cells.lookup y.1 = some c := fun y hy e =>
  (L.free y hy e).elim (fun k => ok.has _ (.inl k)) fun k => ok.has _ (.inr k)
structure Aft (X : Cx) (H H' : Hp) (s s' : Shared) : Prop where
  os : s'.os = s.os
  bare : AllBare s'.gens
  un : Un (frs X.stack) [] H H' s.heap s'.heap
  hok : HOk X.prog X.w H' s'.heap
end
section
variable {P : Program} {w : World} {fs : List Addr} {H0 Hc H' : Hp} {h0 hc h' : Heap}
end
theorem Tabs.stay {T : List (Addr × Str)} {H H' : Hp} (t : Tabs T H) (k : ∀ b o, H b = some o → ¬ okO o → H' b = some o) : Tabs T H' := fun z hz => by
  obtain ⟨ps, h1, h2, h3⟩ := t z hz
  refine ⟨ps, k _ _ h1 (fun o => o.1 ps rfl), h2, fun pos cv hc => ?_⟩
  obtain ⟨c, e1, e2⟩ := h3 pos cv hc
  exact ⟨c, e1, k _ _ e2 fun o => o.2 _ rfl⟩
end DL

set_option Elab.async false
set_option linter.all false
set_option maxRecDepth 100000
set_option maxHeartbeats 4000000
namespace DL
open PySem PySem.Spec PySem.W PyProof.Rows L2 LamX
end DL

set_option Elab.async false
set_option linter.all false
set_option maxRecDepth 100000
set_option maxHeartbeats 4000000
namespace DL
open PySem PySem.Spec PySem.W PyProof.Rows L2 LamX
section
variable {P : Program} {w : World} {K : Fr0} {mg : Str → Option Value} {base : Heap} {x qual : Str} {params : Arguments} {body : List Stmt} {scope : Scope} {dvs : List V} {kws : List (Str × V)} {f : Addr} {fd : FuncData}
end
end DL

set_option Elab.async false
set_option linter.all false
set_option maxRecDepth 100000
set_option maxHeartbeats 4000000
namespace DL
open PySem PySem.Spec PyProof.Rows L2
section
variable {X : Cx}
end
end DL

set_option Elab.async false
set_option linter.all false
set_option maxRecDepth 100000
set_option maxHeartbeats 4000000
namespace DL
open PySem PySem.Spec PyProof.Rows L2
section
variable {X : Cx} {W : WX} {WD : DWX}
variable {κ : Type} [DecidableEq κ]
end
section
variable {X : Cx} {W : WX} {WD : DWX}
end
end DL

set_option Elab.async false
set_option linter.all false
set_option maxRecDepth 100000
set_option maxHeartbeats 4000000
namespace DL
open PySem PySem.Spec PyProof.Rows L2
section
variable {X : Cx} {W : WX} {WD : DWX} {e : Expr} {td : TE} {apos cpos : Pos}
end
end DL

set_option Elab.async false
set_option linter.all false
set_option maxRecDepth 100000
set_option maxHeartbeats 4000000
namespace DL
open PySem PySem.Spec PyProof.Rows L2
def iD {κ : Type} (kvs : List (κ × Int)) : List (κ × D) := kvs.map fun p => (p.1, D.int p.2)
section
variable {X : Cx} {W : WX} {WD : DWX} {rest : List Stmt} {t : DTS}
end
end DL

set_option Elab.async false
set_option linter.all false
set_option maxRecDepth 100000
set_option maxHeartbeats 4000000
namespace DL
open PySem PySem.Spec PyProof.Rows L2
def fg : D → D
  | .obj _ d => d
  | d => d
theorem Rp.fg {K : PySem.W.Frag} {G : Hp} {d : D} {v : V} (h : Rp K G d v) : Rp K G (DL.fg d) v := by
  cases h with
  | obj h => exact h
  | non => exact .non
  | bl b => exact .bl b
  | int i => exact .int i
  | str x => exact .str x
  | ty n => exact .ty n
  | ref a => exact .ref a
  | lst h r => exact .lst h r
  | rdl h r => exact .rdl h r
  | tup h r => exact .tup h r
  | ins h r => exact .ins h r
  | exn0 a => exact .exn0 a
  | exnS h r => exact .exnS h r
  | dki h => exact .dki h
  | dti h => exact .dti h
  | clo hc h => exact .clo hc h
theorem Rps.fg {K : PySem.W.Frag} {G : Hp} : ∀ {ds : List D} {vs : List V}, Rps K G ds vs → Rps K G (ds.map DL.fg) vs
  | _, _, .nil => .nil
  | _, _, .cons r t => .cons r.fg (Rps.fg t)
section
variable {K : PySem.W.Frag} {X : Cx} {W : WX} {WD : DWX} {e : Expr} {te : DTE}
def dFgt (te : DTE) : DTE := fun r m Q => te r m fun d m1 => ∃ ds, d = .lst ds ∧ Q (.lst (ds.map fg)) m1
end
section
variable {X : Cx} {pins : List (Addr × Obj)} {σ : L2.St} {H : Hp} {s : Shared}
end
section
variable {K : PySem.W.Frag}
end
end DL

set_option Elab.async false
set_option linter.all false
set_option maxRecDepth 100000
set_option maxHeartbeats 4000000
namespace DL
open PySem PySem.Spec PyProof.Rows L2
section
variable {X : Cx} {W : WX} {WD : DWX} {e : Expr}
end
end DL

set_option Elab.async false
set_option linter.all false
set_option maxRecDepth 100000
set_option maxHeartbeats 4000000
namespace DL
open PySem PySem.Spec PyProof.Rows L2
inductive FrzAll : M → List D → List D → M → Prop
  | nil (m : M) : FrzAll m [] [] m
  | cons {m m' : M} {a : Addr} {ds xs ys : List D} : m a = some (.lst ds) → FrzAll (mdel m a) xs ys m' → FrzAll m (.ref a :: xs) (.lst ds :: ys) m'
section
variable {X : Cx} {W : WX} {WD : DWX} {rest : List Stmt} {t : DTS}
end
end DL

set_option Elab.async false
set_option linter.all false
set_option maxRecDepth 100000
set_option maxHeartbeats 4000000
namespace DL
open PySem PySem.Spec PyProof.Rows L2
section
variable {x0 x1 x2 x3 x4 x5 x6 x7 : D} {xs : List D}
theorem at4 : atI (x0 :: x1 :: x2 :: x3 :: x4 :: xs) 4 = some x4 := atI_nat (j := 4) rfl
theorem at5 : atI (x0 :: x1 :: x2 :: x3 :: x4 :: x5 :: xs) 5 = some x5 := atI_nat (j := 5) rfl
theorem at6 : atI (x0 :: x1 :: x2 :: x3 :: x4 :: x5 :: x6 :: xs) 6 = some x6 := atI_nat (j := 6) rfl
theorem at7 : atI (x0 :: x1 :: x2 :: x3 :: x4 :: x5 :: x6 :: x7 :: xs) 7 = some x7 := atI_nat (j := 7) rfl
end
open He (ga ma eqO eqO_ok ba)
end DL

set_option Elab.async false
set_option linter.all false
set_option maxRecDepth 100000
set_option maxHeartbeats 4000000
namespace DL
open PySem PySem.Spec PyProof.Rows L2
def daStar (te : DTE) (t : DTA) : DTA := fun r m Q => te r m fun x m1 => ∃ xs, sqOf m1 x = some xs ∧ t r m1 fun ys m2 => Q (xs ++ ys) m2
section
variable {X : Cx} {W : WX} {WD : DWX} {e : Expr} {es : List Expr} {te : DTE} {t : DTA} {p : Pos}
end
def mergeD (kvs : List (Key × D)) : List (Key × D) := kvs.foldl (fun acc kv => putKD acc kv.1 kv.2) []
def dDictP : DRC := fun ds m Q => ∃ d kvs, ds = [d] ∧ lsOf m d = some (kvs.map fun kv : Key × D => D.tup [keyD kv.1, kv.2]) ∧ ∀ p, m p = none → Q (.ref p) (mset m p (.dK (mergeD kvs)))
def dMakeN (C : Addr) (n j : Nat) (sp : DSp) (WD : DWX) (t tk : DTA) : DTE := fun r m Q => t r m fun ds m1 => tk r m1 fun zs m2 => ds.length = n ∧ zs.length = j ∧
  ∀ x, m2 x = none → sp (.ref x :: (ds ++ zs)) (mset m2 x (.ins C [])) (fun _ m3 => ∃ fs, m3 x = some (.ins C fs) ∧ Q (.ins C fs) (mdel m3 x)) fun x m3 => WD x r m3
section
variable {X : Cx} {W : WX} {WD : DWX} {e : Expr} {es : List Expr} {kws : List Keyword} {t tk : DTA} {sp : DSp} {k n : Nat} {f C : Addr} {fd : FuncData} {ps ks : List Str} {x : Str} {p pos : Pos}
end
end DL

set_option Elab.async false
set_option linter.all false
set_option maxRecDepth 100000
set_option maxHeartbeats 4000000
namespace DL
open PySem PySem.Spec PyProof.Rows L2
open He (ga ma eqO eqO_ok ba)
def dwnD (hi : Int) (n : Nat) : List D := (List.range n).map fun (k : Nat) => D.int (hi - (k : Int))
section
variable {X : Cx} {W : WX} {WD : DWX} {tg : Expr}
def diR3 (ta : DTA) : DTI := fun r m Q => ta r m fun ds m1 => ∃ i j : Int, ds = [.int i, .int j, .int (-1)] ∧ (-(2 ^ 62) ≤ i ∧ i < 2 ^ 62 ∧ -(2 ^ 62) ≤ j ∧ j < 2 ^ 62) ∧ Q (dwnD i (i - j).toNat) m1
end
end DL

set_option Elab.async false
set_option linter.all false
set_option maxRecDepth 100000
set_option maxHeartbeats 4000000
namespace DL
open PySem PySem.Spec PyProof.Rows L2
end DL

set_option Elab.async false
set_option linter.all false
set_option maxRecDepth 100000
set_option maxHeartbeats 4000000
namespace DL
open PySem PySem.Spec PyProof.Rows L2
section
variable {K : PySem.W.Frag} {X : Cx} {W : WX} {WD : DWX} {rest : List Stmt} {e : Expr} {te : DTE} {t : DTS}
end
end DL

set_option Elab.async false
set_option linter.all false
set_option maxRecDepth 100000
set_option maxHeartbeats 4000000
namespace DL
open PySem PySem.Spec PyProof.Rows L2
section
variable {X : Cx} {W : WX} {WD : DWX}
end
section
variable {K : PySem.W.Frag}
end
end DL

set_option Elab.async false
set_option linter.all false
set_option maxRecDepth 100000
set_option maxHeartbeats 4000000
namespace DL
open PySem PySem.Spec PyProof.Rows L2
end DL

set_option Elab.async false
set_option linter.all false
set_option maxRecDepth 100000
set_option maxHeartbeats 4000000
namespace DL
open PySem PySem.Spec PyProof.Rows L2
section
variable {X : Cx} {W : WX} {WD : DWX} {e : Expr} {te : DTE} {tb : DTS} {body : List Stmt}
end
end DL

set_option Elab.async false
set_option linter.all false
set_option maxRecDepth 100000
set_option maxHeartbeats 4000000
namespace DL
open PySem PySem.Spec PyProof.Rows L2
section
variable {X : Cx} {W : WX} {WD : DWX} {tg iter : Expr} {body : List Stmt} {ti : DTE} {g : DTG} {tb : DTS} {pos : Pos}
end
end DL

set_option Elab.async false
set_option linter.all false
set_option maxRecDepth 100000
set_option maxHeartbeats 4000000
namespace DL
open PySem PySem.Spec PyProof.Rows L2
section
variable {X : Cx} {W : WX} {WD : DWX} {o i e : Expr} {to ti te : DTE} {tpos pos : Pos}
end
end DL

set_option Elab.async false
set_option linter.all false
set_option maxRecDepth 100000
set_option maxHeartbeats 4000000
namespace DL
open PySem PySem.Spec PyProof.Rows L2
section
variable {X : Cx} {W : WX} {WD : DWX} {e : Expr} {body : List Stmt} {ta : DTA} {g : DTG} {tb : DTS} {pos p pos2 tpos : Pos} {elts : List Expr} {kk : Nat}
end
end DL

set_option Elab.async false
set_option linter.all false
set_option maxRecDepth 100000
set_option maxHeartbeats 4000000
namespace DL
open PySem PySem.Spec PyProof.Rows L2
def dctOf (m : M) : D → Option (List (Key × D))
  | .dki kvs => some (iD kvs)
  | .ref a => match m a with | some (.dK kvs) => some kvs | _ => none
  | _ => none
def dCopyK : DRC := fun ds m Q => ∃ d kvs, ds = [d] ∧ dctOf m d = some kvs ∧ ∀ p, m p = none → Q (.ref p) (mset m p (.dK kvs))
section
variable {K : PySem.W.Frag} {X : Cx} {W : WX} {WD : DWX} {o e f a b k v : Expr} {td ty tx ta tb te tk tv : DTE} {pos pos' apos cpos : Pos}
def dGet2K (td ty tx : DTE) : DTE := fun r m Q => td r m fun x m1 => (∃ k1, dctOf m1 x = some k1) ∧ ty r m1 fun y m2 => tx r m2 fun z m3 => ∃ kvs k, dctOf m3 x = some kvs ∧ y = keyD k ∧ Q ((valD kvs k).getD z) m3
def dDctR (f : Bool) : DR2 := fun x y m Q => ∃ kvs : List (Key × Int), x = .dki kvs ∧ y = .dki kvs ∧ (kvs.map (·.1)).Nodup ∧ Q (.bl f) m
def dDisp1 (tk tv : DTE) : DTE := fun r m Q => ∀ p, m p = none → tk r (mset m p (.dK [])) fun x m1 => tv r m1 fun y m2 => m2 p = some (.dK []) ∧ ∃ k, x = keyD k ∧ Q (.ref p) (mset m2 p (.dK [(k, y)]))
def dFrzEK (te : DTE) : DTE := fun r m Q => te r m fun d m1 => ∃ a kvs, d = .ref a ∧ m1 a = some (.dK (iD kvs)) ∧ Q (.dki kvs) (mdel m1 a)
end
end DL

set_option Elab.async false
set_option linter.all false
set_option maxRecDepth 100000
set_option maxHeartbeats 4000000
theorem L2H.RoomH.units {k : Nat} {A : PySem.Around} (r : L2H.RoomH k A) : A.units + 64 < PySem.cLine := by have := r.un; omega
namespace DL
open PySem PySem.Spec PyProof.Rows L2
open L2H (RoomH PinOk cxH)
structure FnX (P : Program) (w : World) (K : PySem.W.Frag) (mg : Str → Option Value) (base : Heap) (CX : CXT) (k : Nat) (f : Addr) (fd : FuncData) (ps : List Str) (sp : Addr → Addr → Option Addr → Sp) : Prop where
  len : ∀ a c d vs H Q E, sp a c d vs H Q E → vs.length = ps.length
  run : ∀ (A : Around) (outer : List Env) (s : Shared) (H : Hp) (args : Args) (us : List Value) (vs : List V) (Q : VK) (E : XK) (a c : Addr) (d : Option Addr) (oe : Obj), RoomH k A → PinOk outer H s (a, oe) → Zc (.ref c) d oe → (∃ vs, oe.data = .fields vs) → Env0 P w K mg base A outer s H → BindsTo s fd args (ps.zip us) → Vals vs us → sp a c d vs H Q E →
    codeAny (model P w) A (.call (.ref f) args) (CR CX outer P w H s Q E) s
section
variable {P : Program} {w : World} {K : PySem.W.Frag} {mg : Str → Option Value} {base : Heap} {x qual : Str} {params : Arguments} {body : List Stmt} {scope : Scope} {dvs : List V} {kws : List (Str × V)} {f : Addr} {fd : FuncData}
end
section
variable {X : Cx} {W : WX} {WD : DWX} {k : Nat} {f : Addr} {fd : FuncData} {ps : List Str} {sp : Addr → Addr → Option Addr → DSp} {x : Str} {p pos : Pos} {e : Expr} {es : List Expr} {t : DTA} {a c : Addr} {d : Option Addr} {oe : Obj}
end
structure GoodX (P : Program) (w : World) (K : Fr0) (mg : Str → Option Value) (base : Heap) (k : Nat) (x : Str) (f : Addr) (ps : List Str) (sp : Addr → Addr → Option Addr → DSp) : Prop where
  ex : ∃ fd, FnX P w K mg base (L2.CX P w) k f fd ps (fun a c d => liftSp K (sp a c d)) ∧ Binds K fd ps [] ∧ PySem.W.keepIn K (.ref f) = true
  gl : mg x = some (.ref f)
end DL

set_option Elab.async false
set_option linter.all false
set_option maxRecDepth 100000
set_option maxHeartbeats 4000000
namespace DL
open PySem PySem.Spec PyProof.Rows L2
mutual
def noK : D → Bool
  | .dki _ => false
  | .lst xs => noKs xs
  | .rdl xs => noKs xs
  | .tup xs => noKs xs
  | .ins _ fs => noKf fs
  | .exn _ _ fs => noKf fs
  | .obj _ d => noK d
  | .non => true
  | .bl _ => true
  | .int _ => true
  | .str _ => true
  | .ty _ => true
  | .ref _ => true
  | .dti _ => true
  | .clo _ _ _ _ _ => false
def noKs : List D → Bool
  | [] => true
  | x :: xs => noK x && noKs xs
def noKf : List (Str × D) → Bool
  | [] => true
  | (_, x) :: xs => noK x && noKf xs
end
def noKk {κ : Type} : List (κ × D) → Bool
  | [] => true
  | (_, x) :: xs => noK x && noKk xs
def noKM : MO → Bool
  | .lst xs => noKs xs
  | .dK kvs => noKk kvs
  | .dT kvs => noKk kvs
  | .ins _ fs => noKf fs
  | .fn _ => true
section
variable {K : PySem.W.Frag} {G G' : Hp}
theorem NoF.sqt (e : NoF G G') {a : Addr} {xs : List V} (h : SqT K G a xs) : SqT K G' a xs := by
  rcases h with (h | ⟨o, h⟩) | h
  · exact .inl (.inl (e _ _ h (fun _ _ z => by cases z)))
  · exact .inl (.inr ⟨o, e _ _ h (fun _ _ z => by cases z)⟩)
  · exact .inr h
theorem NoF.tpk (e : NoF G G') {a : Addr} {xs : List V} (h : TpK K G a xs) : TpK K G' a xs := ⟨e.sqt h.1, h.2.imp _root_.id fun z => e _ _ z (fun _ _ z => by cases z)⟩
theorem ba2 {a b : Bool} (h : (a && b) = true) : a = true ∧ b = true := by cases a <;> cases b <;> simp_all
mutual
theorem Rp.noF (e : NoF G G') : ∀ {d : D} {v : V}, Rp K G d v → noK d = true → Rp K G' d v
  | _, _, .non, _ => .non
  | _, _, .bl b, _ => .bl b
  | _, _, .int i, _ => .int i
  | _, _, .str x, _ => .str x
  | _, _, .ty n, _ => .ty n
  | _, _, .ref a, _ => .ref a
  | _, _, .lst h r, n => .lst (e _ _ h (fun _ _ z => by cases z)) (Rps.noF e r n)
  | _, _, .rdl h r, n => .rdl (e.seq h) (Rps.noF e r n)
  | _, _, .tup h r, n => .tup (e.tpk h) (Rps.noF e r n)
  | _, _, .ins h r, n => .ins (e _ _ h (fun _ _ z => by cases z)) (Rpf.noF e r n)
  | _, _, .exn0 a, _ => .exn0 a
  | _, _, .exnS h r, n => .exnS (e _ _ h (fun _ _ z => by cases z)) (Rpf.noF e r n)
  | _, _, .dki h, n => nomatch n
  | _, _, .dti h, _ => .dti (e _ _ h (fun _ _ z => by cases z))
  | _, _, .obj h, n => .obj (Rp.noF e h n)
  | _, _, .clo _ h, n => nomatch n
theorem Rps.noF (e : NoF G G') : ∀ {ds : List D} {vs : List V}, Rps K G ds vs → noKs ds = true → Rps K G' ds vs
  | _, _, .nil, _ => .nil
  | _, _, .cons r t, n => .cons (Rp.noF e r (ba2 n).1) (Rps.noF e t (ba2 n).2)
theorem Rpf.noF (e : NoF G G') : ∀ {ds : List (Str × D)} {vs : List (Str × V)}, Rpf K G ds vs → noKf ds = true → Rpf K G' ds vs
  | _, _, .nil, _ => .nil
  | _, _, .cons r t, n => .cons (Rp.noF e r (ba2 n).1) (Rpf.noF e t (ba2 n).2)
end
theorem Rpk.noF {κ : Type} (e : NoF G G') : ∀ {ds : List (κ × D)} {vs : List (κ × V)}, Rpk K G ds vs → noKk ds = true → Rpk K G' ds vs
  | _, _, .nil, _ => .nil
  | _, _, .cons r t, n => .cons (r.noF e (ba2 n).1) (Rpk.noF e t (ba2 n).2)
theorem RpM.noF (e : NoF G G') {m : MO} {o : HO} (h : RpM K G m o) (n : noKM m = true) : RpM K G' m o := by
  cases m with
  | lst ds => cases o with
    | lst vs => exact Rps.noF e h n
    | _ => exact h.elim
  | dK ds => cases o with
    | dK vs => exact Rpk.noF e h n
    | _ => exact h.elim
  | dT ds => cases o with
    | dT vs => exact Rpk.noF e h n
    | _ => exact h.elim
  | ins C fs => cases o with
    | ins C' dx fv => exact ⟨h.1, h.2.noF e n⟩
    | _ => exact h.elim
  | fn ob => cases o with
    | frz ob' u => exact h
    | _ => exact h.elim
end
section
variable {K : PySem.W.Frag} {G G' : Hp} {p : Addr} {kvs : List (Key × Int)}
end
section
variable {X : Cx} {W : WX} {WD : DWX} {e : Expr} {te : DTE}
end
section
variable {K : PySem.W.Frag} {X : Cx}
end
section
variable {X : Cx} {pins : List (Addr × Obj)} {σ : L2.St} {H : Hp} {s : Shared}
end
section
variable {K : PySem.W.Frag} {X : Cx}
end
section
variable {X : Cx} {W : WX} {WD : DWX} {e : Expr} {te : DTE}
end
end DL

set_option Elab.async false
set_option linter.all false
set_option maxRecDepth 100000
set_option maxHeartbeats 4000000
namespace DL
open PySem PySem.Spec PyProof.Rows L2 PySem.W
open L2H (RoomH PinOk cxH)
section
variable {prog : Program} {w : World} {A : Around} {E : Value → Shared → Prop} {s : Shared} {env : Env} {K : PySem.W.Frag} {x C fe fx : Addr} {ox : Obj} {od : Option Obj} {pos : Pos}
end
section
variable {X : Cx} {fe fx C : Addr} {fde fdx : FuncData} {ctx : Expr} {body : List Stmt} {pos : Pos} {te : TE} {tb : WX → TS} {spE spX : Sp} {spH : Addr → Addr → Option Addr → Sp} {W : WX} {k j i : Nat} {dfe dfx dfh : FuncData}
end
section
variable {X : Cx} {W : WX} {WD : DWX} {k n : Nat} {f C : Addr} {fd : FuncData} {ps ks : List Str} {sp : DSp} {dvs : List V} {dds : List D} {ds : List Value} {x : Str} {p pos : Pos} {e : Expr} {es : List Expr} {kws : List Keyword} {t tk : DTA}
end
end DL
set_option Elab.async false
set_option linter.all false
set_option maxRecDepth 100000
set_option maxHeartbeats 4000000
namespace DL
open PySem PySem.Spec PyProof.Rows L2
section
variable {K : PySem.W.Frag} {X : Cx} {W : WX} {WD : DWX} {a b o i e : Expr} {ta tb td ty tv : DTE} {pos pos' : Pos}
end
end DL

set_option Elab.async false
set_option linter.all false
set_option maxRecDepth 100000
set_option maxHeartbeats 4000000
namespace DL
open PySem PySem.Spec PyProof.Rows L2
section
variable {X : Cx} {W : WX} {WD : DWX}
end
end DL

set_option Elab.async false
set_option linter.all false
set_option maxRecDepth 100000
set_option maxHeartbeats 4000000
namespace PySem
open PyProof.Rows L2
section
variable {P : Program} {w : World} {A : Around} {E : Value → Shared → Prop} {s : Shared}
end
end PySem
namespace DL
open PySem PySem.Spec PyProof.Rows L2
section
variable {X : Cx} {W : WX} {WD : DWX}
end
end DL

set_option Elab.async false
set_option linter.all false
set_option maxRecDepth 100000
set_option maxHeartbeats 4000000
namespace ZL
open PySem PySem.Spec PyProof.Rows L2 RZ
section
variable {P : Program} {w : World} {A : Around} {E : Value → Shared → Prop} {s : Shared}
abbrev ZOut (h : Heap) (q tI tO T : Addr) (f : Bool) : Prop := h.get? q = some { cls := .type "zip", dict := none, data := .fields #[rawInt T, .bool f, .bool false, .ref tI, .ref tO], slots := #[] }
structure ZSt (h : Heap) (q tI tO j1 j2 t1 t2 : Addr) (i : Nat) (as : List Addr) : Prop where
  hI : IsPair h tI (.ref j1) (.ref j2)
  h1 : h.IsTupleIter j1 t1 i
  h2 : h.IsTupleIter j2 t2 i
  z : (as = [] ∧ IsZip h q tI tO .none ∧ ∃ x y, IsPair h tO x y) ∨ ∃ T f, ZOut h q tI tO T f ∧ T ∈ as
variable {R : Result → Shared → Prop} {vs : List (Key × Value)}
end
section
variable {X : Cx} {W : WX} {WD : DL.DWX}
open LiI (putT putT_off putT_at paired_ix)
end
end ZL
namespace DL
open PySem PySem.Spec PyProof.Rows L2 ZL
section
variable {X : Cx} {W : WX} {WD : DWX}
end
end DL

set_option Elab.async false
set_option linter.all false
set_option maxRecDepth 100000
set_option maxHeartbeats 4000000
namespace DL
open PySem PySem.Spec PyProof.Rows L2
open PySem.SeqAt
section
variable {X : Cx} {W : WX} {WD : DWX}
end
end DL

set_option Elab.async false
set_option linter.all false
set_option maxRecDepth 100000
set_option maxHeartbeats 4000000
namespace DL
open PySem PySem.Spec PyProof.Rows L2
section
variable {K : PySem.W.Frag} {X : Cx} {W : WX} {WD : DWX}
end
end DL

set_option Elab.async false
set_option linter.all false
set_option maxRecDepth 100000
set_option maxHeartbeats 4000000
namespace DL
open PySem PySem.Spec PyProof.Rows L2
open HT
section
variable {X : Cx} {W : WX} {WD : DWX}
end
end DL

set_option Elab.async false
set_option linter.all false
set_option maxRecDepth 100000
set_option maxHeartbeats 4000000
namespace DL
open PySem PySem.Spec PyProof.Rows L2 LamX
structure CloB (base : Heap) (F : CF) (fr : List Str) (a : Addr) (vs : List V) : Prop where
  ob : ∃ doc pm ctv od sl, base.get? a = some (F.ob doc pm ctv od sl)
  inj : ∀ x y c, F.cl.lookup x = some c → F.cl.lookup y = some c → x = y
  all : ∀ y c, F.cl.lookup y = some c → ∃ v, base.IsCell c v
  len : vs.length = fr.length
  has : ∀ (i : Nat) (y : Str), fr[i]? = some y → ∃ c, F.cl.lookup y = some c ∧ ∀ v, vs[i]? = some v → ∃ u, L2.RelV v u ∧ base.IsCell c (some u)
theorem CloB.cells {base h : Heap} {H : Hp} {F : CF} {fr : List Str} {a : Addr} {vs : List V} (C : CloB base F fr a vs) (bs : ∀ b o, base.get? b = some o → h.get? b = some o ∧ H b = none) : NdefX.CellsAt F.cl fr (vs.map some) h H := by
  refine ⟨by rw [List.length_map]; exact C.len, fun y c e => ?_, C.inj, fun i y e => ?_⟩
  · obtain ⟨v, o, ho, hd⟩ := C.all y c e
    obtain ⟨h1, h2⟩ := bs c o ho
    exact ⟨h2, v, o, h1, hd⟩
  · obtain ⟨c, hc, hv⟩ := C.has i y e
    refine ⟨c, hc, fun v ev => ?_⟩
    rw [List.getElem?_map] at ev
    cases q : vs[i]? with
    | none => rw [q] at ev; cases ev
    | some w =>
      rw [q] at ev
      cases ev
      obtain ⟨u, r, o, ho, hd⟩ := hv _ q
      exact ⟨u, r, o, (bs c o ho).1, hd⟩
section
variable {P : Program} {w : World} {K : Fr0} {mg : Str → Option Value} {base : Heap} {j k : Nat} {fv gv : FV}
end
section
variable {P : Program} {w : World} {K : Fr0} {mg : Str → Option Value} {base : Heap} {k : Nat} {F : CF} {fr ps N : List Str} {a : Addr} {vs : List V} {spk : List D → DSp}
end
end DL

set_option Elab.async false
set_option linter.all false
set_option maxRecDepth 100000
set_option maxHeartbeats 4000000
namespace DL
open PySem PySem.Spec PyProof.Rows L2 LamX
section
variable {X : Cx} {W : WX} {WD : DWX} {k i : Nat} {fv : FV} {x : Str} {p pos : Pos} {e : Expr} {es : List Expr} {t : DTA}
end
section
variable {X : Cx} {pins : List (Addr × Obj)} {σ : L2.St} {H : Hp} {s : Shared}
end
section
variable {X : Cx} {W : WX} {WD : DWX}
end
end DL

set_option Elab.async false
set_option linter.all false
set_option maxRecDepth 100000
set_option maxHeartbeats 4000000
namespace DL
open PySem PySem.Spec PyProof.Rows L2 LamX
section
variable {M : Model} {Γ : PySem.Ctx} {p : Pos} {t : Sem Fin} {fs : List Frame} {s s' : Shared} {e : End}
end
section
variable {α ι : Type} {M : Model}
end
end DL

set_option Elab.async false
set_option linter.all false
set_option maxRecDepth 100000
set_option maxHeartbeats 4000000
namespace DL
open PySem PySem.Spec PySem.W PyProof.Rows L2 LamX
end DL

set_option Elab.async false
set_option linter.all false
set_option maxRecDepth 100000
set_option maxHeartbeats 4000000
namespace DL
open PySem PySem.Spec PyProof.Rows L2 LamX
section
variable {X : Cx} {W : WX} {WD : DWX} {o e : Expr} {to te : DTE} {apos cpos : Pos}
end
section
variable {X : Cx} {W : WX} {WD : DWX}
end
end DL

set_option Elab.async false
set_option linter.all false
set_option maxRecDepth 100000
set_option maxHeartbeats 4000000
namespace DL
open PySem PySem.Spec PyProof.Rows L2 LamX
section
variable {P : Program} {w : World} {K : Fr0} {mg : Str → Option Value} {base : Heap} {x qual : Str} {params : Arguments} {body : List Stmt} {scope : Scope} {dvs : List V} {kws : List (Str × V)} {f : Addr} {fd : FuncData}
end
end DL

set_option Elab.async false
set_option linter.all false
set_option maxRecDepth 100000
set_option maxHeartbeats 4000000
namespace DL
open PySem PySem.Spec PySem.W PyProof.Rows L2
end DL

set_option Elab.async false
set_option linter.all false
set_option maxRecDepth 100000
set_option maxHeartbeats 4000000
namespace DL
open PySem PySem.Spec PyProof.Rows L2 LamX
def hdel (H : Hp) (a : Addr) : Hp := fun b => if b = a then none else H b
abbrev fnH (ob : Obj) : HO := .frz ob (.ext fun _ => True)
section
variable {P : Program} {w : World} {H H2 : Hp} {h h' : Heap} {a : Addr} {ob : Obj} {fs : List Addr}
end
section
variable {X : Cx} {pins : List (Addr × Obj)} {σ : L2.St} {H : Hp} {s : Shared}
end
end DL

set_option Elab.async false
set_option linter.all false
set_option maxRecDepth 100000
set_option maxHeartbeats 4000000
namespace DL
open PySem PySem.Spec PyProof.Rows L2 LamX
section
variable {X : Cx} {pins : List (Addr × Obj)} {σ : L2.St} {H : Hp} {s : Shared}
end
section
variable {X : Cx} {W : WX} {WD : DWX}
end
end DL

set_option Elab.async false
set_option linter.all false
set_option maxRecDepth 100000
set_option maxHeartbeats 4000000
namespace DL
open PySem PySem.Spec PyProof.Rows L2 LamX
section
variable {X : Cx} {W : WX} {WD : DWX} {pins : List (Addr × Obj)} {σ : L2.St} {s : Shared}
end
end DL

set_option Elab.async false
set_option linter.all false
set_option maxRecDepth 100000
set_option maxHeartbeats 4000000
namespace DL
open PySem PySem.Spec PyProof.Rows L2 LamX
end DL

set_option Elab.async false
set_option linter.all false
set_option maxRecDepth 100000
set_option maxHeartbeats 4000000
namespace DL
open PySem PySem.Spec PySem.W PyProof.Rows L2
end DL

set_option Elab.async false
set_option linter.all false
set_option maxRecDepth 100000
set_option maxHeartbeats 4000000
namespace DL
open PySem PySem.Spec PyProof.Rows L2
open He (ga ma eqO eqO_ok ba)
def ExOb (C : Addr) (d : Option Addr) (ob : Obj) : Prop := ob.cls = .ref C ∧ ob.dict = d ∧ ∃ vs, ob.data = .fields vs
theorem fnH_ok {P : Program} {w : World} {H : Hp} {h : Heap} {a : Addr} {ob : Obj} (e : h.get? a = some ob) : ObjOk P w H h a (fnH ob) := ⟨e, trivial, ⟨ob, e⟩, fun _ _ _ _ => trivial⟩
def tMkV (C : Addr) (sp : Sp) (ta : TA) : TE := fun σ H Q => ta σ H fun vs H1 => vs.length ≤ 1000 ∧ ∀ a, H1 a = none → sp (.ref a :: vs) (upd H1 a (exo a C none))
  (fun v H2 => v = .non ∧ ∃ (d : Addr) (fs : List (Str × V)), H2 a = some (exo a C (some d)) ∧ H2 d = some (exd d fs) ∧ H1 d = none ∧ ∀ ob, ExOb C (some d) ob → Q (.ref a) (upd (upd H2 d (.xd fs)) a (fnH ob))) (fun _ _ _ => False)
section
variable {X : Cx} {e : Expr} {es : List Expr} {ta : TA} {p pos : Pos}
theorem pe_makeX {x : Str} {C fI : Addr} {k : Nat} {fd : FuncData} {ps : List Str} {sp : Sp} (T : OexC X.K C) (iC : PySem.W.findIn X.K (.ref C) "__init__" = some (some (.ref fI))) (tI : PySem.W.typeIn X.K (.ref fI) = some (.type "function"))
    (F1 : FnOk X.prog X.w X.K X.mg X.base (L2.CX X.prog X.w) k fI fd ps sp) (hr : Room (k + 1) X.A) (hb : Binds X.K fd ps []) (hx : Passes (L2.CX X.prog X.w) X (fun _ _ _ => False)) (hg : Gl X x) (hm : X.mg x = some (.ref C)) (ha : PA X (e :: es) ta)
    (hdb : (x == ("__debug__" : Str)) = false := by decide) (he : starEach (e :: es) X.env = (false, eval e X.env) :: starEach es X.env := by rfl) (hpl : (backTo pos (starEach es X.env)).any (·.1) = false := by rfl) :
    PE X (.Call (.Name x p) (e :: es) [] pos) (tMkV C sp ta) := by
  refine ⟨fun pins s σ H Q I h => ?_⟩
  obtain ⟨nm, q, N, bs, bm, sn, sub, ab, col, dd, k0, k1, k2, k3, k5, hC, hbm⟩ := T.cls
  refine wpAny_Call_Name_kw (ld_glob I hg hm ?_ hdb)
  refine PySem.W.callWith_K (h₀ := X.base) I.ok.mod.kin T.kC (thn (ha.run pos pins s σ H _ I h) fun us s1 ⟨vs, H1, I1, r1, hz, q1⟩ => ⟨I1.kIn, ?_⟩) he hpl
  show wpAny _ _ (call (.ref C) us) _ _ _
  obtain ⟨hp, g, dr, tk, os⟩ := s1
  have hsz : hp.objs.size ≤ hp.objs.size + 1 := Nat.le_succ _
  have hn : H1 (hp.objs.size + 1) = none := I1.hok.fresh hsz
  have hq := q1 (hp.objs.size + 1) hn
  have kk : ∀ b o, hp.get? b = some o → ((hp.push (PySem.W.kdv_tup us)).push (PySem.HandSPX.excO C hp.objs.size)).get? b = some o := fun b o e => Heap.get?_push_of_some _ (Heap.get?_push_of_some _ e)
  have hget : ((hp.push (PySem.W.kdv_tup us)).push (PySem.HandSPX.excO C hp.objs.size)).get? (hp.objs.size + 1) = some (PySem.HandSPX.excO C hp.objs.size) := by heap_get
  have I2 : Inv X pins σ (upd H1 (hp.objs.size + 1) (exo (hp.objs.size + 1) C none)) ⟨(hp.push (PySem.W.kdv_tup us)).push (PySem.HandSPX.excO C hp.objs.size), g, dr, tk, os⟩ :=
    I1.laid (t' := tk) (a := hp.objs.size + 1) (o := exo (hp.objs.size + 1) C none) (h' := (hp.push (PySem.W.kdv_tup us)).push (PySem.HandSPX.excO C hp.objs.size)) kk hsz (exo_ok hget)
  have r2 : Vals (V.ref (hp.objs.size + 1) :: vs) (Value.ref (hp.objs.size + 1) :: us) := .cons rfl r1
  have hl : (Value.ref (hp.objs.size + 1) :: us).length = ps.length := by
    have e := r2.length
    rw [F1.len _ _ _ _ hq] at e
    exact e.symm
  have hus : us.length ≤ sizeLine := by
    rw [← Paired.length r1, sizeLine_eq]
    omega
  have hbz := hb _ (Value.ref (hp.objs.size + 1) :: us) I2.kIn (by rw [List.append_nil]; exact hl)
  rw [List.append_nil] at hbz
  refine wpAny_call (PySem.HandSPX.call_own F.excBase_ValueError (fun Y => PySem.HandSPX.refsVE_contains Y bm hbm) (I1.kIn _ _ hC) (PySem.W.looks_findIn I1.kIn iC) (fun self => PySem.W.bind_fn I1.kIn self tI) hus
    (codeAny_mono (F1.run _ X.stack _ _ ⟨Value.ref (hp.objs.size + 1) :: us, []⟩ (Value.ref (hp.objs.size + 1) :: us) _ _ (fun _ _ _ => False) (hr.make C us []) (I2.env0.make C us []) hbz r2 hq) fun r s' hq' => ?_))
  cases r with
  | error er => exact hx pins σ _ _ er s' I2 hq'
  | ok fl =>
    cases fl with
    | ret u =>
      obtain ⟨v, H2, os2, bare2, un2, hok2, rv, ev, d, fs, ea, ed, hd1, q2⟩ := hq'
      subst ev
      obtain ⟨h2, g2, d2, t2, os'⟩ := s'
      refine ⟨rv, ?_⟩
      obtain ⟨t0, hoe⟩ := exo_at hok2 ea
      obtain ⟨mA, hns, rel⟩ := exd_at hok2 ed
      have hda : d ≠ hp.objs.size + 1 := fun z => by
        obtain ⟨o, es, ep, e1, e2, _⟩ := hns
        rw [z, hoe] at e1
        have z2 := Option.some.inj e1
        subst z2
        cases e2
      have nha : ∀ {b : Addr} {o : Obj}, hp.get? b = some o → b ≠ hp.objs.size + 1 := fun {b o} z => Nat.ne_of_lt (Nat.lt_of_lt_of_le (Heap.lt_size z) hsz)
      have up : ∀ {b : Addr}, b ≠ hp.objs.size + 1 → H1 b = none → upd H1 (hp.objs.size + 1) (exo (hp.objs.size + 1) C none) b = none := fun {b} hb n => by rw [upd_ne hb]; exact n
      have nd : ∀ {b : Addr} {o : Obj}, hp.get? b = some o → H1 b = none → b ≠ d := fun {b o} z n e => by
        have y := un2.free b o (kk b o z) (up (nha z) n) (by simp)
        rw [e, ed] at y
        cases y
      obtain ⟨ob, hob⟩ : ∃ ob : Obj, ob = { cls := .ref C, dict := some d, data := .fields #[.ref t0, .none, .none, .none, .bool false, .none] } := ⟨_, rfl⟩
      rw [← hob] at hoe
      have U : Un (frs X.stack) [] H1 (upd (upd H2 d (.xd fs)) (hp.objs.size + 1) (fnH ob)) hp h2 := {
        keep := fun b o z n hf hx => un2.keep b o (kk b o z) (up (nha z) n) hf hx
        slot := fun b o z n hf hx => un2.slot b o (kk b o z) (up (nha z) n) hf hx
        free := fun b o z n hx => by
          rw [upd_ne (nha z), upd_ne (nd z n)]
          exact un2.free b o (kk b o z) (up (nha z) n) hx
        there := fun b o z hx => un2.there b o (kk b o z) hx
        tups := fun b xs z => by
          rw [upd_ne (ne_of_none z hn), upd_ne (ne_of_none z hd1)]
          exact un2.tups b xs (by rw [upd_ne (ne_of_none z hn)]; exact z)
        frzs := fun b o v z => by
          rw [upd_ne (ne_of_none z hn), upd_ne (ne_of_none z hd1)]
          exact un2.frzs b o v (by rw [upd_ne (ne_of_none z hn)]; exact z)
        tbls := fun b ps z => by
          rw [upd_ne (ne_of_none z hn), upd_ne (ne_of_none z hd1)]
          exact un2.tbls b ps (by rw [upd_ne (ne_of_none z hn)]; exact z) }
      have hok3 : HOk X.prog X.w (upd (upd H2 d (.xd fs)) (hp.objs.size + 1) (fnH ob)) h2 := fun b o z => by
        by_cases hba : b = hp.objs.size + 1
        · subst hba
          rw [upd_same] at z
          cases z
          exact fnH_ok hoe
        rw [upd_ne hba] at z
        by_cases hbd : b = d
        · subst hbd
          rw [upd_same] at z
          cases z
          exact ⟨mA, hns, rel⟩
        · rw [upd_ne hbd] at z
          exact (hok2 b o z).stay (fun _ _ _ y => y) (fun c hc => by rw [upd_ne (at_ne ea hc exo_own), upd_ne (at_ne ed hc exd_own)]; exact hc) (fun c xs hc => by rw [upd_ne (at_ne ea hc exo_tup), upd_ne (at_ne ed hc exd_tup)]; exact hc)
      have J : Inv X pins σ (upd (upd H2 d (.xd fs)) (hp.objs.size + 1) (fnH ob)) ⟨h2, g2, d2, t2, os'⟩ := I1.call' (ch := []) os2 U hok3 bare2 (fun b z => absurd z (by simp))
      exact ⟨.ref (hp.objs.size + 1), _, J, rfl, q2 ob ⟨by rw [hob], by rw [hob], _, by rw [hob]⟩⟩
    | next => exact False.elim hq'
    | brk => exact False.elim hq'
    | cont => exact False.elim hq'
theorem pe_makeX0 {C : Addr} {bmB : List Value} {B newId initId : String} {x : Str} (F : ExcBaseFacts B newId initId bmB) (q : PySem.W.excIn X.K C bmB newId = true) (gC : X.mg x = some (.ref C)) (kC : PySem.W.keepIn X.K (.ref C) = true) (hg : Gl X x) (hdb : (x == ("__debug__" : Str)) = false := by decide) :
    PE X (.Call (.Name x p) [] [] pos) (fun σ H Q => ∀ a ob, H a = none → ExOb C none ob → Q (.ref a) (upd H a (fnH ob))) := by
  refine ⟨fun pins s σ H Q I h => ?_⟩
  refine wpAny_Call_Name_kw (ld_glob I hg gC ?_ hdb)
  refine PySem.W.callWith_K0 I.kIn kC ?_
  show wpAny _ _ (call (.ref C) []) _ _ _
  obtain ⟨bm, N, nm, qn, bs, hdct, sn, sub, ab, col, dd, k0, k1, k2, k3, k5, mN, hC, hN, hni, T⟩ := exc_obj I.kIn q
  refine wpAny_call_exc_subT F T hC hN hni (fun h' a hm => ?_) (Nat.zero_le _)
  have hn : H a = none := I.hok.gone hm.new
  obtain ⟨t, ht, _, _⟩ := hm.there
  exact ⟨.ref a, upd H a (fnH _), I.laidN hm.keeps hm.new hn (fnH_ok ht), rfl, h a _ hn ⟨rfl, rfl, _, rfl⟩⟩
end
section
variable {X : Cx} {W : WX} {WD : DWX} {x : Str} {p pos : Pos} {C fI : Addr} {fs ps : List Str} {k : Nat} {fd : FuncData} {e : Expr} {es : List Expr} {ta : DTA}
def dMakeX (C : Addr) (fs : List Str) (ta : DTA) : DTE := fun r m Q => ta r m fun ds m1 => ds.length = fs.length ∧ ∀ a d ob, m1 a = none → ExOb C (some d) ob → Q (.exn a (some d) (fs.zip ds).reverse) (mset m1 a (.fn ob))
theorem de_makeX (T : OexC X.K C) (iC : PySem.W.findIn X.K (.ref C) "__init__" = some (some (.ref fI))) (tI : PySem.W.typeIn X.K (.ref fI) = some (.type "function")) (F1 : FnOk X.prog X.w X.K X.mg X.base (L2.CX X.prog X.w) k fI fd ps (spX C fs)) (hr : Room (k + 1) X.A) (hb : Binds X.K fd ps []) (hg : Gl X x) (hm : X.mg x = some (.ref C)) (hz : fs.length ≤ 100) (ha : DA X W WD (e :: es) ta)
    (hdb : (x == ("__debug__" : Str)) = false := by decide) (he : starEach (e :: es) X.env = (false, eval e X.env) :: starEach es X.env := by rfl) (hpl : (backTo pos (starEach es X.env)).any (·.1) = false := by rfl) :
    DE X W WD (.Call (.Name x p) (e :: es) [] pos) (dMakeX C fs ta) := by
  refine PE.imp (pe_makeX T iC tI F1 hr hb passL hg hm ha hdb he hpl) fun σ H Q h => ?_
  obtain ⟨G, F, r, m, QD, x, t, k⟩ := h
  refine ⟨G, F, r, m, _, x, t, fun G1 H1 m1 ds vs e1 r1 p1 t1 => ?_⟩
  obtain ⟨hl, t1⟩ := t1
  have hlv : vs.length = fs.length := by rw [← p1.length]; exact hl
  refine ⟨by omega, fun a ha => ⟨a, vs, rfl, hlv, upd_same, fun dx hd hne => ⟨rfl, dx, (fs.zip vs).reverse, upd_same, by rw [upd_ne hne]; exact upd_same, by rw [upd_ne hne] at hd; exact hd, fun ob hob => ?_⟩⟩⟩
  have hd1 : H1 dx = none := by rw [upd_ne hne] at hd; exact hd
  have eH : upd (upd (upd (upd (upd H1 a (exo a C none)) dx (exd dx (fs.zip vs).reverse)) a (exo a C (some dx))) dx (.xd (fs.zip vs).reverse)) a (fnH ob) = upd (upd H1 dx (.xd (fs.zip vs).reverse)) a (fnH ob) := by
    funext b
    unfold upd
    by_cases h2 : b = a
    · rw [if_pos h2, if_pos h2]
    · by_cases h1 : b = dx
      · simp [h1, hne]
      · simp [h1, h2]
  rw [eH]
  obtain ⟨s2, r2⟩ := r1.froz (o := .xd (fs.zip vs).reverse) hd1
  have ha2 : upd H1 dx (.xd (fs.zip vs).reverse) a = none := by rw [upd_ne (fun z => hne z.symm)]; exact ha
  have r3 := r2.newm (u := .fn ob) (o := fnH ob) ha2 ⟨rfl, rfl⟩
  exact k _ _ _ _ _ (e1.trans s2) r3 (rp_exn (.inr ⟨dx, _, rfl, upd_same, rpf_rev (rpf_zip (p1.mono s2))⟩)) (t1 a dx ob (r1.mfree ha) hob)
def dMakeX0 (C : Addr) : DTE := fun _ m Q => ∀ a ob, m a = none → ExOb C none ob → Q (.exn a none []) (mset m a (.fn ob))
theorem de_makeX0 (e : ExC X.K C) (gC : X.mg x = some (.ref C)) (hg : Gl X x) (hdb : (x == ("__debug__" : Str)) = false := by decide) : DE X W WD (.Call (.Name x p) [] [] pos) (dMakeX0 C) := by
  refine PE.imp (pe_makeX0 PySem.F.excBase_ValueError e.q gC e.kC hg hdb) fun σ H Q h => ?_
  obtain ⟨G, F, r, m, QD, x, t, k⟩ := h
  refine fun a ob ha hob => ?_
  exact k _ _ _ _ _ (Same.refl G) (x.rep.newm (u := .fn ob) (o := fnH ob) ha ⟨rfl, rfl⟩) (.exn0 a) (t a ob (x.rep.mfree ha) hob)
end
def rIsV (K : PySem.W.Frag) : List V → Hp → VK → Prop := fun xs H Q => ∃ (a C : Addr) (ed : Option Addr) (ob : Obj) (c : V) (cv : Value) (b : Bool), xs = [.ref a, c] ∧ ClsV c cv ∧ ExcC K C ∧ H a = some (fnH ob) ∧ ExOb C ed ob ∧ (ed = none ∨ ∃ dd fs, ed = some dd ∧ H dd = some (.xd fs)) ∧ PySem.W.kitOne K (.ref C) cv = some b ∧ Q (.bl b) H
theorem call_isV {X : Cx} : CallR X (.builtin "isinstance") (rIsV X.K) := by
  intro pins s σ H xs us Q I r h
  obtain ⟨a, ec, ed, oe, c, cv, b, rfl, hcv, C, hH, ⟨hz1, hz2, vs, hv⟩, hd, e, q⟩ := h
  cases r with
  | cons rx rr =>
    cases rr with
    | cons rt rr =>
      cases rr
      cases rx
      have ec' : ∀ u, RelV c u → u = cv := fun u ru => by
        cases hcv <;> cases ru <;> rfl
      have ec' := ec' _ rt
      subst ec'
      have hget : s.heap.get? a = some oe := (I.hok a _ hH).1
      have cl : (PySem.W.clsIn X.K ec).isSome = true := by
        have h1 := C.hd
        unfold PySem.W.hasDictIn at h1
        cases hc : PySem.W.clsIn X.K ec with
        | none => rw [hc] at h1; cases h1
        | some _ => rfl
      obtain ⟨od, J⟩ : ∃ od, PySem.W.InstAt s.heap a oe ec od := by
        rcases hd with rfl | ⟨dd, fs, rfl, hdd⟩
        · exact ⟨none, hget, hz1, by unfold PySem.W.notCls; rw [hv], by rw [hz2]; trivial⟩
        · obtain ⟨mA, hns, _⟩ : ObjOk X.prog X.w H s.heap dd (.xd fs) := I.hok dd _ hdd
          obtain ⟨od, ho, _⟩ := lookIn_ns hns
          exact ⟨some od, hget, hz1, by unfold PySem.W.notCls; rw [hv], by rw [hz2]; exact ho⟩
      exact PySem.W.kia_one (PySem.W.kitx_exc cl C.hg C.hk C.hs C.ha C.hn C.ht C.hm) I.kIn J e (fun z => nomatch z) fun tk => ⟨.bl b, H, I.kept (t' := tk) fun _ _ z => z, rfl, q⟩
def dIsV (K : PySem.W.Frag) : DRC := fun ds m Q => ∃ (a : Addr) (ed : Option Addr) (fs : List (Str × D)) (C : Addr) (ob : Obj) (c : D) (u : Value) (b : Bool), ds = [.exn a ed fs, c] ∧ ((∃ T, c = .ty T ∧ u = Value.type T) ∨ (∃ C, c = .ref C ∧ u = .ref C)) ∧ m a = some (.fn ob) ∧ ExOb C ed ob ∧ ExcC K C ∧ PySem.W.kitOne K (.ref C) u = some b ∧ Q (.bl b) m
theorem fn_at {K : PySem.W.Frag} {G H F : Hp} {m : M} {a : Addr} {ob : Obj} (r : Rep K G H F m) (h : m a = some (.fn ob)) : H a = some (fnH ob) := by
  obtain ⟨_, _, u, h1, h2⟩ := r.mo a _ h
  have e := h2.ofFn
  subst e
  exact h1
theorem cd_isV {K : PySem.W.Frag} : CallD K (rIsV K) (dIsV K) := by
  intro G H F m ds vs QD Q r ps t k
  obtain ⟨a, ed, fs, C, ob, c, u, b, rfl, hc, hm, hob, hx, hk, t⟩ := t
  obtain ⟨v, w, rfl, p, q⟩ := rps2 ps
  have cv : ClsV w u := by
    rcases hc with ⟨T, rfl, rfl⟩ | ⟨C, rfl, rfl⟩
    · cases q; exact .ty T
    · cases q; exact .own C
  have hH := fn_at r hm
  cases p with
  | exn0 a => exact ⟨a, C, none, ob, w, u, b, rfl, cv, hx, hH, hob, .inl rfl, hk, k.here r (.bl _) t⟩
  | exnS h1 h2 => exact ⟨a, C, _, ob, w, u, b, rfl, cv, hx, hH, hob, .inr ⟨_, _, rfl, r.ext _ _ h1⟩, hk, k.here r (.bl _) t⟩
theorem isv_ty {K : PySem.W.Frag} {a C : Addr} {ed : Option Addr} {fs : List (Str × D)} {ob : Obj} {m : M} {Q : D → M → Prop} {T : String} {b : Bool} (hm : m a = some (.fn ob)) (ho : ExOb C ed ob) (h : ExcC K C) (k : PySem.W.kitOne K (.ref C) (.type T) = some b) (q : Q (.bl b) m) : dIsV K [.exn a ed fs, .ty T] m Q :=
  ⟨a, ed, fs, C, ob, _, _, b, rfl, .inl ⟨T, rfl, rfl⟩, hm, ho, h, k, q⟩
theorem isv_own {K : PySem.W.Frag} {a C C' : Addr} {ed : Option Addr} {fs : List (Str × D)} {ob : Obj} {m : M} {Q : D → M → Prop} {b : Bool} (hm : m a = some (.fn ob)) (ho : ExOb C ed ob) (h : ExcC K C) (k : PySem.W.kitOne K (.ref C) (.ref C') = some b) (q : Q (.bl b) m) : dIsV K [.exn a ed fs, .ref C'] m Q :=
  ⟨a, ed, fs, C, ob, _, _, b, rfl, .inr ⟨C', rfl, rfl⟩, hm, ho, h, k, q⟩
def tXv (C : Addr) (f : Str) (te : TE) : TE := fun σ H Q => te σ H fun x H1 => ∃ (a dd : Addr) (ob : Obj) (fs : List (Str × V)) (v : V), x = .ref a ∧ H1 a = some (fnH ob) ∧ ExOb C (some dd) ob ∧ H1 dd = some (.xd fs) ∧ fs.lookup f = some v ∧ Q v H1
theorem pe_xv {X : Cx} {C : Addr} {e : Expr} {te : TE} {pos : Pos} {n : Str} (T : XfC X.K C) (hno : PySem.W.findIn X.K (.ref C) n = some none) (he : PE X e te) (hb : attributeBase e n X.env (eval e X.env) = eval e X.env := by rfl) :
    PE X (.Attribute e n pos) (tXv C n te) := by
  refine ⟨fun pins s σ H Q I h => ?_⟩
  refine attr_of hb (thn (he.run pins s σ H _ I h) fun u s1 hh => ?_)
  obtain ⟨x, H1, I1, rx, a, dd, oe, fs, v, ex, eH, ⟨hz1, hz2, vs, hd⟩, ea, l, q⟩ := hh
  subst ex
  obtain rfl : u = Value.ref a := rx
  have ha : s1.heap.get? a = some oe := (I1.hok a _ eH).1
  have hx : ObjOk X.prog X.w H1 s1.heap dd (.xd fs) := I1.hok dd _ ea
  obtain ⟨mA, hns, hr⟩ := hx
  obtain ⟨od, ho, hl⟩ := lookIn_ns hns
  obtain ⟨u, hu, ru⟩ := RelO.some_of (v := v) (o := mA n) (by rw [← l]; exact hr n)
  have J : PySem.W.InstAt s1.heap a oe C (some od) := ⟨ha, hz1, by unfold PySem.W.notCls; rw [hd] <;> rfl, by rw [hz2]; exact ho⟩
  exact HandSPX.exc_get I1.kIn J T.ga T.gg T.exC (PySem.W.findObj_own T.hdC hno rfl (by rw [hl, hu])) (handed_of ru) ⟨v, H1, I1.tok _, ru, q⟩
def dXv (C : Addr) (f : Str) (te : DTE) : DTE := fun r m Q => te r m fun v m1 => ∃ (a d : Addr) (fs : List (Str × D)) (ob : Obj) (y : D), v = .exn a (some d) fs ∧ m1 a = some (.fn ob) ∧ ExOb C (some d) ob ∧ fs.lookup f = some y ∧ Q y m1
theorem de_xv {X : Cx} {W : WX} {WD : DWX} {C : Addr} {e : Expr} {te : DTE} {f : Str} {pos : Pos} (T : XfC X.K C) (hno : PySem.W.findIn X.K (.ref C) f = some none) (he : DE X W WD e te) (hb : attributeBase e f X.env (eval e X.env) = eval e X.env := by rfl) :
    DE X W WD (.Attribute e f pos) (dXv C f te) := by
  refine PE.imp (pe_xv T hno he hb) fun σ H Q h => ?_
  obtain ⟨G, F, r, m, QD, x, t, k⟩ := h
  refine ⟨G, F, r, m, _, x, t, fun G1 H1 m1 d1 v1 e1 r1 p1 t1 => ?_⟩
  obtain ⟨a, d, fs, ob, y, rfl, hm, hob, hl, q⟩ := t1
  cases p1 with
  | exnS h1 h2 =>
    obtain ⟨v, hv, rv⟩ := rpf_look h2 hl
    exact ⟨a, d, ob, _, v, rfl, fn_at r1 hm, hob, r1.ext _ _ h1, hv, k G1 H1 m1 y v e1 r1 rv q⟩
theorem xisA_of {cs : List Str} {K : Fr0} (h : xisA cs K = true) {i : Nat} {c : Str} (e : cs[i]? = some c) : ExcC K (ga K c) := xis_of (List.all_eq_true.mp h c (List.mem_of_getElem? e))
theorem kitA_of {cs ds : List Str} {K : Fr0} (h : kitA cs ds K = true) {i j : Nat} {c c' : Str} (e : cs[i]? = some c) (e' : ds[j]? = some c') : PySem.W.kitOne K (.ref (ga K c)) (.ref (ga K c')) = some (i == j) := by
  have h1 := List.all_eq_true.mp h (c, i) (List.mk_mem_zipIdx_iff_getElem?.mpr e)
  have h2 := List.all_eq_true.mp h1 (c', j) (List.mk_mem_zipIdx_iff_getElem?.mpr e')
  exact of_decide_eq_true h2
theorem kitUp_of {cs : List Str} {K : Fr0} {c' : Str} {b : Bool} (h : kitUp cs c' b K = true) {i : Nat} {c : Str} (e : cs[i]? = some c) : PySem.W.kitOne K (.ref (ga K c)) (.ref (ga K c')) = some b := of_decide_eq_true (List.all_eq_true.mp h c (List.mem_of_getElem? e))
theorem kitUpT_of {cs : List Str} {K : Fr0} {T : String} {b : Bool} (h : kitUpT cs T b K = true) {i : Nat} {c : Str} (e : cs[i]? = some c) : PySem.W.kitOne K (.ref (ga K c)) (.type T) = some b := of_decide_eq_true (List.all_eq_true.mp h c (List.mem_of_getElem? e))
def rCountD (K : PySem.W.Frag) : V → List V → Hp → VK → Prop := fun x xs H Q => ∃ (a : Addr) (y : V) (d : PyData) (ds : List PyData), x = V.ref a ∧ xs = [y] ∧ Dp K H (V.ref a) (.list ds) ∧ Dp K H y d ∧
  SeqAt.shaped (.list ds) = true ∧ SeqAt.shaped d = true ∧ d.depth ≤ 60 ∧ Q (.int ((ds.countP fun z => PyData.eqv z d : Nat) : Int)) H
theorem mt_countD {X : Cx} (hu : X.A.units + 64 < cLine) : MtR X "list.count" (rCountD X.K) := by
  intro pins s σ H x xs v us Q I rx rxs h
  obtain ⟨a, y, d, ds, rfl, rfl, hl, hy, sl, sd, hdp, q⟩ := h
  cases rx
  cases rxs with
  | cons ry rt =>
    rename_i uy ut
    cases rt
    obtain ⟨bs, r1⟩ := Dp.reads I d y uy hy ry
    have hxs : PyData.canLayAll0 ds = true := SeqAt.canLay_of_shaped sl
    have hroom : X.A.units + 1 + min (PyData.depthAll ds) d.depth < cLine := by have := Nat.min_le_right (PyData.depthAll ds) d.depth; omega
    cases hl with
    | lst hs ha =>
      obtain ⟨its, rv, ⟨⟨cls, dd, data, sls⟩, n, ho, hc, hdn, hdt⟩, hlen⟩ := I.list hs
      simp only at hc hdt
      subst hc hdt
      obtain ⟨as, h4⟩ := Dp.readsAll I ds _ its ha rv
      have hmap : its.map (SeqAt.readOf s.heap) = ds := SeqAt.readsAll_map ds its as hxs h4
      refine call_meets PySem.F.slot_list_count ⟨_, ho, rfl⟩ PySem.F.entry_list_count (PySem.F.args_list_count_2 _ _)
        (SeqAt.list_countAt a its.toArray n dd sls uy (fun u => PyData.eqv (SeqAt.readOf s.heap u) d)) ⟨ho, SeqAt.items_eqAt (vs := its.toArray) (show ReadsAll s.heap its.toArray.toList ds as from h4) r1 hxs (SeqAt.canLay_of_shaped sd) hroom, ?_⟩
      have ec : its.toArray.toList.countP (fun u => PyData.eqv (SeqAt.readOf s.heap u) d) = ds.countP fun z => PyData.eqv z d := by
        rw [← hmap, List.countP_map]
        rfl
      refine ⟨.int ((ds.countP fun z => PyData.eqv z d : Nat) : Int), H, I.tok _, ⟨s.toks, ?_⟩, q⟩
      show Value.int ((its.toArray.toList.countP (fun u => PyData.eqv (SeqAt.readOf s.heap u) d) : Nat) : Int) s.toks = _
      rw [ec]
def dCountD : DRM := fun x ds m Q => ∃ (xs : List D) (y : D) (ps : List PyData) (p : PyData), lsOf m x = some xs ∧ ds = [y] ∧ toPs xs = some ps ∧ toP y = some p ∧ SeqAt.shaped (.list ps) = true ∧ SeqAt.shaped p = true ∧ p.depth ≤ 60 ∧ Q (.int ((ps.countP fun z => PyData.eqv z p : Nat) : Int)) m
theorem dp_list {K : PySem.W.Frag} {G H : Hp} {a : Addr} {us : List V} {xs : List D} {ps : List PyData} (e : Same G H) (hs : SqL K H a us) (rs : Rps K G xs us) (hp : toPs xs = some ps) : Dp K H (V.ref a) (.list ps) := .lst hs (DpAll.same e (dps_of xs ps us hp rs))
theorem md_countD {K : PySem.W.Frag} : MtD K "list" (rCountD K) isL dCountD := by
  refine ⟨fun G H F m x vx r p h => ty_list r p h, fun G H F m x vx ds vs QD Q r px ps t k => ?_⟩
  obtain ⟨xs, y, qs, p, e, rfl, hqs, hp, s1, s2, s3, t⟩ := t
  obtain ⟨a, us, rfl, hs, rs⟩ := ls_ok r px e
  obtain ⟨v, rfl, py⟩ := rps1 ps
  exact ⟨a, v, p, qs, rfl, rfl, dp_list r.ext hs rs hqs, Dp.same r.ext (dp_of y p _ hp py), s1, s2, s3, k.here r (.int _) t⟩
theorem toPs_bls : ∀ bs : List Bool, toPs (bs.map D.bl) = some (bs.map PyData.bool)
  | [] => by rw [List.map_nil, List.map_nil, toPs]
  | b :: bs => by rw [List.map_cons, List.map_cons, toPs, toPs_bls bs, toP]; rfl
theorem shaped_bls (bs : List Bool) : SeqAt.shaped (.list (bs.map PyData.bool)) = true := by
  have h1 : ∀ l : List Bool, PyData.canLayAll0 (l.map PyData.bool) = true := fun l => by
    induction l with
    | nil => rfl
    | cons b l ih => show (PyData.canLay0 (.bool b) && PyData.canLayAll0 (l.map PyData.bool)) = true; rw [ih]; rfl
  have h2 : ∀ l : List Bool, PyData.depthAll (l.map PyData.bool) ≤ 1 := fun l => by
    induction l with
    | nil => simp [PyData.depthAll]
    | cons b l ih =>
      show max (PyData.depth (.bool b)) (PyData.depthAll (l.map PyData.bool)) ≤ 1
      have : PyData.depth (.bool b) ≤ 1 := by simp [PyData.depth]
      omega
  unfold SeqAt.shaped
  have h3 : PyData.depth (.list (bs.map PyData.bool)) ≤ 64 := by
    have := h2 bs
    show PyData.depthAll _ + 1 ≤ 64
    omega
  rw [show PyData.canLay0 (.list (bs.map PyData.bool)) = true from h1 bs, decide_eq_true h3]
  rfl
theorem count_bls {m : M} {x : D} {bs : List Bool} {Q : D → M → Prop} (e : lsOf m x = some (bs.map D.bl)) (q : Q (.int ((bs.countP id : Nat) : Int)) m) : dCountD x [.bl true] m Q := by
  refine ⟨_, _, _, .bool true, e, rfl, toPs_bls bs, by rw [toP], shaped_bls bs, by decide, by simp [PyData.depth], ?_⟩
  rw [List.countP_map]
  rw [show ((fun z => PyData.eqv z (.bool true)) ∘ PyData.bool) = (id : Bool → Bool) from funext fun b => by cases b <;> simp [PyData.eqv]]
  exact q
end DL

set_option Elab.async false
set_option linter.all false
set_option maxRecDepth 100000
set_option maxHeartbeats 4000000
namespace LW
open PySem PySem.Spec PyProof.Rows L2 DL
open He (ga ma)
def LETTERS : Str := "abcdefghijklmnopqrstuvwxyz"
def SIGNS : Str := "0123456789_"
def inS (j i : Str) : Bool := !(Builtin.Str.occurrences j i 0 j.length 1).isEmpty
structure Pl (a b : Addr) (s : PS) (n : Int) : Prop where
  ne : a ≠ b
  v0 : 0 ≤ s.v
  v1 : s.v < 2147483647
  k0 : 0 ≤ s.k
  kn : s.k ≤ n
theorem Pl.up {a b : Addr} {s : PS} {n n' : Int} (h : Pl a b s n) (e : n ≤ n') : Pl a b s n' := ⟨h.ne, h.v0, h.v1, h.k0, by have := h.kn; omega⟩
def sp_law_pool (_ : Fr0) : DSp := fun ds m Q _ => ∃ ns : List Int, ds = [.rdl (ns.map D.int)] ∧ ns.length ≤ 63 ∧ ∀ a b s, m a = none → m b = none → Pl a b s 0 → Q (.ref a) (pm a b s m)
def sp_law_draw (_ : Fr0) : DSp := fun ds m Q _ => ∃ (a b : Addr) (s : PS) (n lim : Int) (m0 : M), ds = [.ref a, .int lim] ∧ m = pm a b s m0 ∧ Pl a b s n ∧ n ≤ 1000000000000 ∧ (1 ≤ lim ∧ lim.natAbs < 2 ^ 200) ∧
  ∀ r s', 0 ≤ r → r < lim → Pl a b s' (n + 1) → Q (.int r) (pm a b s' m0)
def Drw (ds rest : List D) (m : M) (lim c : Int) (R : D → Prop) (Q : D → M → Prop) : Prop := ∃ (a b : Addr) (s : PS) (n : Int) (m0 : M), ds = .ref a :: rest ∧ m = pm a b s m0 ∧ Pl a b s n ∧ n ≤ lim ∧ ∀ d s', R d → Pl a b s' (n + c) → Q d (pm a b s' m0)
def Smp (d : D) : Prop := d = .non ∨ (∃ b, d = .bl b) ∨ (∃ i, d = .int i) ∨ ∃ x, d = .str x ∧ PyData.strOk x = true
def Val (d : D) : Prop := Smp d ∨ ∃ a b c, d = .tup [a, .tup [b, c]] ∧ Smp a ∧ Smp b ∧ Smp c
def sp_law_simple (_ : Fr0) : DSp := fun ds m Q _ => Drw ds [] m 1000 20 Smp Q
def sp_law_value (_ : Fr0) : DSp := fun ds m Q _ => Drw ds [] m 500 100 Val Q
def Exv (K : Fr0) (m : M) (d : D) (p : Nat) : Prop := ∃ (a : Addr) (ed : Option Addr) (fs : List (Str × D)) (ob : Obj) (c : Str), d = .exn a ed fs ∧ m a = some (.fn ob) ∧ ExOb (He.ga K c) ed ob ∧ xNames1[p]? = some c
def marks (p : Nat) : List Bool := (List.range 29).map fun i => p == i
def sp_law_marks (K : Fr0) : DSp := fun ds m Q _ => ∃ (d : D) (p : Nat), ds = [d] ∧ Exv K m d p ∧ Q (.lst ((marks p).map D.bl)) m
def sp_law_own (K : Fr0) : DSp := fun ds m Q _ => ∃ (d : D) (p : Nat), ds = [d, .int p] ∧ Exv K m d p ∧ p < 29 ∧ Q (.bl true) m
def sp_law_same (_ : Fr0) : DSp := fun ds m Q _ => ∃ d : D, ds = [d, d] ∧ Val d ∧ Q (.bl true) m
def spOnes (K : Fr0) : DSp := fun ds m Q _ => ∃ a b c : D, ds = [a, b, c] ∧ Val a ∧ Val b ∧ Val c ∧ Q (.bl true) m
def sp_law_first_ones (K : Fr0) : DSp := spOnes K
def sp_law_second_ones (K : Fr0) : DSp := spOnes K
def sp_law_third_ones (K : Fr0) : DSp := spOnes K
def sp_law_fourth_ones (K : Fr0) : DSp := spOnes K
end LW

set_option Elab.async false
set_option linter.all false
set_option maxRecDepth 100000
set_option maxHeartbeats 4000000
namespace LW
open PySem PySem.Spec PyProof.Rows L2 DL
open He (ga ma)
abbrev nm_BadName_init : List Str := ["self", "name"]
theorem sc_BadName_init : FnScope nm_BadName_init ["self", "name"] (defScope s_BadName_init) := ⟨rfl, rfl, rfl, by decide +kernel, rfl, by decide +kernel, by decide +kernel⟩

abbrev nm_WrongCount_init : List Str := ["self", "what", "count"]
theorem sc_WrongCount_init : FnScope nm_WrongCount_init ["self", "what", "count"] (defScope s_WrongCount_init) := ⟨rfl, rfl, rfl, by decide +kernel, rfl, by decide +kernel, by decide +kernel⟩

abbrev nm_OutOfRange_init : List Str := ["self", "what", "value"]
theorem sc_OutOfRange_init : FnScope nm_OutOfRange_init ["self", "what", "value"] (defScope s_OutOfRange_init) := ⟨rfl, rfl, rfl, by decide +kernel, rfl, by decide +kernel, by decide +kernel⟩

abbrev nm_Repeated_init : List Str := ["self", "name"]
theorem sc_Repeated_init : FnScope nm_Repeated_init ["self", "name"] (defScope s_Repeated_init) := ⟨rfl, rfl, rfl, by decide +kernel, rfl, by decide +kernel, by decide +kernel⟩

abbrev nm_RepeatedArrow_init : List Str := ["self", "first", "second"]
theorem sc_RepeatedArrow_init : FnScope nm_RepeatedArrow_init ["self", "first", "second"] (defScope s_RepeatedArrow_init) := ⟨rfl, rfl, rfl, by decide +kernel, rfl, by decide +kernel, by decide +kernel⟩

abbrev nm_UnknownKind_init : List Str := ["self", "name"]
theorem sc_UnknownKind_init : FnScope nm_UnknownKind_init ["self", "name"] (defScope s_UnknownKind_init) := ⟨rfl, rfl, rfl, by decide +kernel, rfl, by decide +kernel, by decide +kernel⟩

abbrev nm_UnknownArrow_init : List Str := ["self", "first", "second"]
theorem sc_UnknownArrow_init : FnScope nm_UnknownArrow_init ["self", "first", "second"] (defScope s_UnknownArrow_init) := ⟨rfl, rfl, rfl, by decide +kernel, rfl, by decide +kernel, by decide +kernel⟩

abbrev nm_BadLine_init : List Str := ["self", "line"]
theorem sc_BadLine_init : FnScope nm_BadLine_init ["self", "line"] (defScope s_BadLine_init) := ⟨rfl, rfl, rfl, by decide +kernel, rfl, by decide +kernel, by decide +kernel⟩

abbrev nm_BadCost_init : List Str := ["self", "task", "place"]
theorem sc_BadCost_init : FnScope nm_BadCost_init ["self", "task", "place"] (defScope s_BadCost_init) := ⟨rfl, rfl, rfl, by decide +kernel, rfl, by decide +kernel, by decide +kernel⟩

abbrev nm_BadRelease_init : List Str := ["self", "task", "place"]
theorem sc_BadRelease_init : FnScope nm_BadRelease_init ["self", "task", "place"] (defScope s_BadRelease_init) := ⟨rfl, rfl, rfl, by decide +kernel, rfl, by decide +kernel, by decide +kernel⟩

abbrev nm_NoArrow_init : List Str := ["self", "task", "place"]
theorem sc_NoArrow_init : FnScope nm_NoArrow_init ["self", "task", "place"] (defScope s_NoArrow_init) := ⟨rfl, rfl, rfl, by decide +kernel, rfl, by decide +kernel, by decide +kernel⟩

abbrev nm_GapTooShort_init : List Str := ["self", "task", "place"]
theorem sc_GapTooShort_init : FnScope nm_GapTooShort_init ["self", "task", "place"] (defScope s_GapTooShort_init) := ⟨rfl, rfl, rfl, by decide +kernel, rfl, by decide +kernel, by decide +kernel⟩

abbrev nm_UnknownJob_init : List Str := ["self", "place"]
theorem sc_UnknownJob_init : FnScope nm_UnknownJob_init ["self", "place"] (defScope s_UnknownJob_init) := ⟨rfl, rfl, rfl, by decide +kernel, rfl, by decide +kernel, by decide +kernel⟩

abbrev nm_EmptySlice_init : List Str := ["self", "place"]
theorem sc_EmptySlice_init : FnScope nm_EmptySlice_init ["self", "place"] (defScope s_EmptySlice_init) := ⟨rfl, rfl, rfl, by decide +kernel, rfl, by decide +kernel, by decide +kernel⟩

abbrev nm_Overlap_init : List Str := ["self", "place"]
theorem sc_Overlap_init : FnScope nm_Overlap_init ["self", "place"] (defScope s_Overlap_init) := ⟨rfl, rfl, rfl, by decide +kernel, rfl, by decide +kernel, by decide +kernel⟩

abbrev nm_TooEarly_init : List Str := ["self", "place"]
theorem sc_TooEarly_init : FnScope nm_TooEarly_init ["self", "place"] (defScope s_TooEarly_init) := ⟨rfl, rfl, rfl, by decide +kernel, rfl, by decide +kernel, by decide +kernel⟩

abbrev nm_WrongAmount_init : List Str := ["self", "job"]
theorem sc_WrongAmount_init : FnScope nm_WrongAmount_init ["self", "job"] (defScope s_WrongAmount_init) := ⟨rfl, rfl, rfl, by decide +kernel, rfl, by decide +kernel, by decide +kernel⟩

abbrev nm_TooLong_init : List Str := ["self", "period"]
theorem sc_TooLong_init : FnScope nm_TooLong_init ["self", "period"] (defScope s_TooLong_init) := ⟨rfl, rfl, rfl, by decide +kernel, rfl, by decide +kernel, by decide +kernel⟩

abbrev nm_Falling_init : List Str := ["self", "gain"]
theorem sc_Falling_init : FnScope nm_Falling_init ["self", "gain"] (defScope s_Falling_init) := ⟨rfl, rfl, rfl, by decide +kernel, rfl, by decide +kernel, by decide +kernel⟩

abbrev nm_BadCalendar_init : List Str := ["self", "calendar"]
theorem sc_BadCalendar_init : FnScope nm_BadCalendar_init ["self", "calendar"] (defScope s_BadCalendar_init) := ⟨rfl, rfl, rfl, by decide +kernel, rfl, by decide +kernel, by decide +kernel⟩

abbrev nm_Overloaded_init : List Str := ["self", "cost", "length"]
theorem sc_Overloaded_init : FnScope nm_Overloaded_init ["self", "cost", "length"] (defScope s_Overloaded_init) := ⟨rfl, rfl, rfl, by decide +kernel, rfl, by decide +kernel, by decide +kernel⟩

abbrev nm_LateSet_init : List Str := ["self", "which"]
theorem sc_LateSet_init : FnScope nm_LateSet_init ["self", "which"] (defScope s_LateSet_init) := ⟨rfl, rfl, rfl, by decide +kernel, rfl, by decide +kernel, by decide +kernel⟩

abbrev nm_Clash_init : List Str := ["self", "admitted", "refused"]
theorem sc_Clash_init : FnScope nm_Clash_init ["self", "admitted", "refused"] (defScope s_Clash_init) := ⟨rfl, rfl, rfl, by decide +kernel, rfl, by decide +kernel, by decide +kernel⟩

abbrev nm_NotOpen_init : List Str := ["self", "answer"]
theorem sc_NotOpen_init : FnScope nm_NotOpen_init ["self", "answer"] (defScope s_NotOpen_init) := ⟨rfl, rfl, rfl, by decide +kernel, rfl, by decide +kernel, by decide +kernel⟩

abbrev nm_Refused_init : List Str := ["self", "name", "ticks", "excess"]
theorem sc_Refused_init : FnScope nm_Refused_init ["self", "name", "ticks", "excess"] (defScope s_Refused_init) := ⟨rfl, rfl, rfl, by decide +kernel, rfl, by decide +kernel, by decide +kernel⟩

abbrev nm_Present_init : List Str := ["self", "name"]
theorem sc_Present_init : FnScope nm_Present_init ["self", "name"] (defScope s_Present_init) := ⟨rfl, rfl, rfl, by decide +kernel, rfl, by decide +kernel, by decide +kernel⟩

abbrev nm_Absent_init : List Str := ["self", "name"]
theorem sc_Absent_init : FnScope nm_Absent_init ["self", "name"] (defScope s_Absent_init) := ⟨rfl, rfl, rfl, by decide +kernel, rfl, by decide +kernel, by decide +kernel⟩

abbrev nm_law_pool : List Str := ["_law_script", "_law_seed", "_law_cell"]
theorem sc_law_pool : FnScope nm_law_pool ["_law_script"] (defScope s_law_pool) := ⟨rfl, rfl, rfl, by decide +kernel, rfl, by decide +kernel, by decide +kernel⟩
def t_law_pool (K : PySem.W.Frag) (WD : DWX) : DTS :=
    dSeq (dSet 1 (dC (.int 1)))
    (dSeq (dFor (diL (dVar 0)) (gN 2) (dSet 1 (dOp dMod (dCB dInt1 (daCons (dOp (dAdd false) (dOp (dMul false) (dVar 1) (dC (.int 48271))) (dVar 2)) daNil)) (dC (.int 2147483647)))))
    (dRet (dLst true (daCons (dLc true (diL (dVar 0)) (.one 2) [2] (dTest (dOp dGe (dVar 2) (dOp dPow (dC (.int 10)) (dC (.int 18))))) (dVar 2)) (daCons (dVar 1) (daCons (dC (.int 0)) daNil))))))

abbrev nm_law_draw : List Str := ["_law_pool_here", "_law_limit", "_law_rest", "_law_value_here", "_law_first", "_law_second"]
theorem sc_law_draw : FnScope nm_law_draw ["_law_pool_here", "_law_limit"] (defScope s_law_draw) := ⟨rfl, rfl, rfl, by decide +kernel, rfl, by decide +kernel, by decide +kernel⟩
def t_law_draw (K : PySem.W.Frag) (WD : DWX) : DTS :=
    dSeq (dSet 2 (dOp dIx (dVar 0) (dC (.int 0))))
    (dSeq (dIfS (dTest (dOp dNe (dVar 2) (dLst false daNil))) (dSeq (dSet 3 (dOp dMod (dCB dInt1 (daCons (dOp dIx (dVar 2) (dC (.int 0))) daNil)) (dVar 1)))
    (dSeq (dAsg (dOp dDiv (dOp dIx (dVar 2) (dC (.int 0))) (dVar 1)) (gSet (dVar 2) (dC (.int 0))))
    (dSeq (dIfS (dTest (dOp dEq (dOp dIx (dVar 2) (dC (.int 0))) (dC (.int 0)))) (dDrop (dBM isL dPopAt (dVar 2) (daCons (dC (.int 0)) daNil))) dNext)
    (dRet (dVar 3))))) dNext)
    (dSeq (dAsg (dOp (dAdd false) (dOp dIx (dVar 0) (dC (.int 2))) (dC (.int 1))) (gSet (dVar 0) (dC (.int 2))))
    (dSeq (dSet 4 (dOp dMod (dOp dPow (dCB dInt1 (daCons (dOp (dAdd false) (dOp dIx (dVar 0) (dC (.int 1))) (dOp (dMul false) (dC (.int 7919)) (dOp dIx (dVar 0) (dC (.int 2))))) daNil)) (dC (.int 5))) (dC (.int 2147483647))))
    (dSeq (dSet 5 (dOp dMod (dCB dInt1 (daCons (dOp (dAdd false) (dOp (dMul false) (dVar 4) (dC (.int 48271))) (dOp dIx (dVar 0) (dC (.int 1)))) daNil)) (dC (.int 2147483629))))
    (dRet (dOp dMod (dOp dDiv (dCB dInt1 (daCons (dVar 5) daNil)) (dC (.int 8))) (dVar 1)))))))

abbrev nm_law_simple : List Str := ["_law_pool_here", "_law_what", "_law_word", "_law_k"]
theorem sc_law_simple : FnScope nm_law_simple ["_law_pool_here"] (defScope s_law_simple) := ⟨rfl, rfl, rfl, by decide +kernel, rfl, by decide +kernel, by decide +kernel⟩
def t_law_simple (K : PySem.W.Frag) (WD : DWX) : DTS :=
    dSeq (dSet 1 (dCall (sp_law_draw K) WD [] (daCons (dVar 0) (daCons (dC (.int 5)) daNil))))
    (dSeq (dSet 2 (dC (.str "abcXYZ 01_-.!?")))
    (dSeq (dIfS (dTest (dOp dEq (dVar 1) (dC (.int 0)))) (dRet (dOp dIx (dLst false (daCons (dC .non) (daCons (dC (.bl true)) (daCons (dC (.bl false)) (daCons (dC (.int 0)) daNil))))) (dCall (sp_law_draw K) WD [] (daCons (dVar 0) (daCons (dC (.int 4)) daNil))))) dNext)
    (dSeq (dIfS (dTest (dOp dEq (dVar 1) (dC (.int 1)))) (dRet (dOp (dAdd false) (dOp (dMul false) (dCall (sp_law_draw K) WD [] (daCons (dVar 0) (daCons (dOp dPow (dC (.int 10)) (dC (.int 9))) daNil))) (dOp dPow (dC (.int 10)) (dC (.int 21)))) (dCall (sp_law_draw K) WD [] (daCons (dVar 0) (daCons (dOp dPow (dC (.int 10)) (dC (.int 6))) daNil))))) dNext)
    (dSeq (dIfS (dTest (dOp dEq (dVar 1) (dC (.int 2)))) (dRet (dUn dNeg (dCall (sp_law_draw K) WD [] (daCons (dVar 0) (daCons (dOp dPow (dC (.int 10)) (dC (.int 6))) daNil))))) dNext)
    (dRet (dBM isS dJoin (dC (.str "")) (daCons (dLc false (diR1 (daCons (dCall (sp_law_draw K) WD [] (daCons (dVar 0) (daCons (dC (.int 13)) daNil))) daNil)) (.one 3) [3] dYes (dOp dIx (dVar 2) (dCall (sp_law_draw K) WD0 [] (daCons (dVar 0) (daCons (dCB dLen (daCons (dVar 2) daNil)) daNil))))) daNil)))))))

abbrev nm_law_value : List Str := ["_law_pool_here"]
theorem sc_law_value : FnScope nm_law_value ["_law_pool_here"] (defScope s_law_value) := ⟨rfl, rfl, rfl, by decide +kernel, rfl, by decide +kernel, by decide +kernel⟩
def t_law_value (K : PySem.W.Frag) (WD : DWX) : DTS :=
    dSeq (dIfS (dTest (dOp dEq (dCall (sp_law_draw K) WD [] (daCons (dVar 0) (daCons (dC (.int 4)) daNil))) (dC (.int 0)))) (dRet (dTup (daCons (dCall (sp_law_simple K) WD [] (daCons (dVar 0) daNil)) (daCons (dTup (daCons (dCall (sp_law_simple K) WD [] (daCons (dVar 0) daNil)) (daCons (dCall (sp_law_simple K) WD [] (daCons (dVar 0) daNil)) daNil))) daNil)))) dNext)
    (dRet (dCall (sp_law_simple K) WD [] (daCons (dVar 0) daNil)))

abbrev nm_law_marks : List Str := ["_law_e", "_law_marks_here"]
theorem sc_law_marks : FnScope nm_law_marks ["_law_e"] (defScope s_law_marks) := ⟨rfl, rfl, rfl, by decide +kernel, rfl, by decide +kernel, by decide +kernel⟩
def t_law_marks (K : PySem.W.Frag) (WD : DWX) : DTS :=
    dSeq (dSet 1 (dLst false (daCons (dCB (dIsV K) (daCons (dVar 0) (daCons (dC (.ref (ga K "BadName"))) daNil))) (daCons (dCB (dIsV K) (daCons (dVar 0) (daCons (dC (.ref (ga K "WrongCount"))) daNil))) (daCons (dCB (dIsV K) (daCons (dVar 0) (daCons (dC (.ref (ga K "OutOfRange"))) daNil))) daNil)))))
    (dSeq (dSet 1 (dOp (dAdd false) (dVar 1) (dLst false (daCons (dCB (dIsV K) (daCons (dVar 0) (daCons (dC (.ref (ga K "Repeated"))) daNil))) (daCons (dCB (dIsV K) (daCons (dVar 0) (daCons (dC (.ref (ga K "RepeatedArrow"))) daNil))) (daCons (dCB (dIsV K) (daCons (dVar 0) (daCons (dC (.ref (ga K "UnknownKind"))) daNil))) daNil))))))
    (dSeq (dSet 1 (dOp (dAdd false) (dVar 1) (dLst false (daCons (dCB (dIsV K) (daCons (dVar 0) (daCons (dC (.ref (ga K "UnknownArrow"))) daNil))) (daCons (dCB (dIsV K) (daCons (dVar 0) (daCons (dC (.ref (ga K "BadLine"))) daNil))) (daCons (dCB (dIsV K) (daCons (dVar 0) (daCons (dC (.ref (ga K "BadCost"))) daNil))) daNil))))))
    (dSeq (dSet 1 (dOp (dAdd false) (dVar 1) (dLst false (daCons (dCB (dIsV K) (daCons (dVar 0) (daCons (dC (.ref (ga K "BadRelease"))) daNil))) (daCons (dCB (dIsV K) (daCons (dVar 0) (daCons (dC (.ref (ga K "NoArrow"))) daNil))) (daCons (dCB (dIsV K) (daCons (dVar 0) (daCons (dC (.ref (ga K "GapTooShort"))) daNil))) daNil))))))
    (dSeq (dSet 1 (dOp (dAdd false) (dVar 1) (dLst false (daCons (dCB (dIsV K) (daCons (dVar 0) (daCons (dC (.ref (ga K "UnknownJob"))) daNil))) (daCons (dCB (dIsV K) (daCons (dVar 0) (daCons (dC (.ref (ga K "EmptySlice"))) daNil))) (daCons (dCB (dIsV K) (daCons (dVar 0) (daCons (dC (.ref (ga K "Overlap"))) daNil))) daNil))))))
    (dSeq (dSet 1 (dOp (dAdd false) (dVar 1) (dLst false (daCons (dCB (dIsV K) (daCons (dVar 0) (daCons (dC (.ref (ga K "TooEarly"))) daNil))) (daCons (dCB (dIsV K) (daCons (dVar 0) (daCons (dC (.ref (ga K "WrongAmount"))) daNil))) (daCons (dCB (dIsV K) (daCons (dVar 0) (daCons (dC (.ref (ga K "BadRow"))) daNil))) daNil))))))
    (dSeq (dSet 1 (dOp (dAdd false) (dVar 1) (dLst false (daCons (dCB (dIsV K) (daCons (dVar 0) (daCons (dC (.ref (ga K "TooLong"))) daNil))) (daCons (dCB (dIsV K) (daCons (dVar 0) (daCons (dC (.ref (ga K "Falling"))) daNil))) (daCons (dCB (dIsV K) (daCons (dVar 0) (daCons (dC (.ref (ga K "BadCalendar"))) daNil))) daNil))))))
    (dSeq (dSet 1 (dOp (dAdd false) (dVar 1) (dLst false (daCons (dCB (dIsV K) (daCons (dVar 0) (daCons (dC (.ref (ga K "Overloaded"))) daNil))) (daCons (dCB (dIsV K) (daCons (dVar 0) (daCons (dC (.ref (ga K "LateSet"))) daNil))) (daCons (dCB (dIsV K) (daCons (dVar 0) (daCons (dC (.ref (ga K "Clash"))) daNil))) daNil))))))
    (dSeq (dSet 1 (dOp (dAdd false) (dVar 1) (dLst false (daCons (dCB (dIsV K) (daCons (dVar 0) (daCons (dC (.ref (ga K "NotOpen"))) daNil))) (daCons (dCB (dIsV K) (daCons (dVar 0) (daCons (dC (.ref (ga K "Refused"))) daNil))) (daCons (dCB (dIsV K) (daCons (dVar 0) (daCons (dC (.ref (ga K "Present"))) daNil))) daNil))))))
    (dSeq (dSet 1 (dOp (dAdd false) (dVar 1) (dLst false (daCons (dCB (dIsV K) (daCons (dVar 0) (daCons (dC (.ref (ga K "Absent"))) daNil))) (daCons (dCB (dIsV K) (daCons (dVar 0) (daCons (dC (.ref (ga K "NothingToUndo"))) daNil))) daNil)))))
    (dRet (dVar 1)))))))))))

abbrev nm_law_own : List Str := ["_law_e", "_law_place", "_law_marks_here"]
theorem sc_law_own : FnScope nm_law_own ["_law_e", "_law_place"] (defScope s_law_own) := ⟨rfl, rfl, rfl, by decide +kernel, rfl, by decide +kernel, by decide +kernel⟩
def t_law_own (K : PySem.W.Frag) (WD : DWX) : DTS :=
    dSeq (dSet 2 (dCall (sp_law_marks K) WD [] (daCons (dVar 0) daNil)))
    (dSeq (dIfS (dOr (dTest (dOp dNe (dBM isL dCountD (dVar 2) (daCons (dC (.bl true)) daNil)) (dC (.int 1)))) (dTest (dOp dNotB (dOp dIx (dVar 2) (dVar 1)) (dC (.bl true))))) (dRet (dC (.bl false))) dNext)
    (dRet (dAndV (dCB (dIsV K) (daCons (dVar 0) (daCons (dC (.ref (ga K "DuesError"))) daNil))) (dCB (dIsV K) (daCons (dVar 0) (daCons (dC (.ty "ValueError")) daNil))))))

abbrev nm_law_same : List Str := ["_law_told", "_law_due"]
theorem sc_law_same : FnScope nm_law_same ["_law_told", "_law_due"] (defScope s_law_same) := ⟨rfl, rfl, rfl, by decide +kernel, rfl, by decide +kernel, by decide +kernel⟩
def t_law_same (K : PySem.W.Frag) (WD : DWX) : DTS :=
    dRet (dAndV (dOp dEq (dCB (dIsi K) (daCons (dVar 0) (daCons (dC (.ty "bool")) daNil))) (dCB (dIsi K) (daCons (dVar 1) (daCons (dC (.ty "bool")) daNil)))) (dOp dEq (dVar 0) (dVar 1)))

abbrev nm_law_first_ones : List Str := ["_law_a", "_law_b", "_law_c", "_law_e"]
theorem sc_law_first_ones : FnScope nm_law_first_ones ["_law_a", "_law_b", "_law_c"] (defScope s_law_first_ones) := ⟨rfl, rfl, rfl, by decide +kernel, rfl, by decide +kernel, by decide +kernel⟩
def t_law_first_ones (K : PySem.W.Frag) (WD : DWX) : DTS :=
    dSeq (dSet 3 (dMakeX (ga K "BadName") ["name"] (daCons (dVar 0) daNil)))
    (dSeq (dIfS (dOr (dNot (dTru (dCall (sp_law_own K) WD [] (daCons (dVar 3) (daCons (dC (.int 0)) daNil))))) (dNot (dTru (dCall (sp_law_same K) WD [] (daCons (dXv (ga K "BadName") "name" (dVar 3)) (daCons (dVar 0) daNil)))))) (dRet (dWk (dC (.bl false)))) dNext)
    (dSeq (dSet 3 (dMakeX (ga K "WrongCount") ["what", "count"] (daCons (dVar 0) (daCons (dVar 1) daNil))))
    (dSeq (dIfS (dOr (dNot (dTru (dCall (sp_law_own K) WD [] (daCons (dVar 3) (daCons (dC (.int 1)) daNil))))) (dOr (dNot (dTru (dCall (sp_law_same K) WD [] (daCons (dXv (ga K "WrongCount") "what" (dVar 3)) (daCons (dVar 0) daNil))))) (dNot (dTru (dCall (sp_law_same K) WD [] (daCons (dXv (ga K "WrongCount") "count" (dVar 3)) (daCons (dVar 1) daNil))))))) (dRet (dWk (dC (.bl false)))) dNext)
    (dSeq (dSet 3 (dMakeX (ga K "OutOfRange") ["what", "value"] (daCons (dVar 0) (daCons (dVar 1) daNil))))
    (dSeq (dIfS (dOr (dNot (dTru (dCall (sp_law_own K) WD [] (daCons (dVar 3) (daCons (dC (.int 2)) daNil))))) (dOr (dNot (dTru (dCall (sp_law_same K) WD [] (daCons (dXv (ga K "OutOfRange") "what" (dVar 3)) (daCons (dVar 0) daNil))))) (dNot (dTru (dCall (sp_law_same K) WD [] (daCons (dXv (ga K "OutOfRange") "value" (dVar 3)) (daCons (dVar 1) daNil))))))) (dRet (dWk (dC (.bl false)))) dNext)
    (dSeq (dSet 3 (dMakeX (ga K "Repeated") ["name"] (daCons (dVar 0) daNil)))
    (dSeq (dIfS (dOr (dNot (dTru (dCall (sp_law_own K) WD [] (daCons (dVar 3) (daCons (dC (.int 3)) daNil))))) (dNot (dTru (dCall (sp_law_same K) WD [] (daCons (dXv (ga K "Repeated") "name" (dVar 3)) (daCons (dVar 0) daNil)))))) (dRet (dWk (dC (.bl false)))) dNext)
    (dSeq (dSet 3 (dMakeX (ga K "RepeatedArrow") ["first", "second"] (daCons (dVar 0) (daCons (dVar 1) daNil))))
    (dSeq (dIfS (dOr (dNot (dTru (dCall (sp_law_own K) WD [] (daCons (dVar 3) (daCons (dC (.int 4)) daNil))))) (dOr (dNot (dTru (dCall (sp_law_same K) WD [] (daCons (dXv (ga K "RepeatedArrow") "first" (dVar 3)) (daCons (dVar 0) daNil))))) (dNot (dTru (dCall (sp_law_same K) WD [] (daCons (dXv (ga K "RepeatedArrow") "second" (dVar 3)) (daCons (dVar 1) daNil))))))) (dRet (dWk (dC (.bl false)))) dNext)
    (dSeq (dSet 3 (dMakeX (ga K "UnknownKind") ["name"] (daCons (dVar 0) daNil)))
    (dSeq (dIfS (dOr (dNot (dTru (dCall (sp_law_own K) WD [] (daCons (dVar 3) (daCons (dC (.int 5)) daNil))))) (dNot (dTru (dCall (sp_law_same K) WD [] (daCons (dXv (ga K "UnknownKind") "name" (dVar 3)) (daCons (dVar 0) daNil)))))) (dRet (dWk (dC (.bl false)))) dNext)
    (dSeq (dSet 3 (dMakeX (ga K "UnknownArrow") ["first", "second"] (daCons (dVar 0) (daCons (dVar 1) daNil))))
    (dSeq (dIfS (dOr (dNot (dTru (dCall (sp_law_own K) WD [] (daCons (dVar 3) (daCons (dC (.int 6)) daNil))))) (dOr (dNot (dTru (dCall (sp_law_same K) WD [] (daCons (dXv (ga K "UnknownArrow") "first" (dVar 3)) (daCons (dVar 0) daNil))))) (dNot (dTru (dCall (sp_law_same K) WD [] (daCons (dXv (ga K "UnknownArrow") "second" (dVar 3)) (daCons (dVar 1) daNil))))))) (dRet (dWk (dC (.bl false)))) dNext)
    (dSeq (dSet 3 (dMakeX (ga K "BadLine") ["line"] (daCons (dVar 0) daNil)))
    (dSeq (dIfS (dOr (dNot (dTru (dCall (sp_law_own K) WD [] (daCons (dVar 3) (daCons (dC (.int 7)) daNil))))) (dNot (dTru (dCall (sp_law_same K) WD [] (daCons (dXv (ga K "BadLine") "line" (dVar 3)) (daCons (dVar 0) daNil)))))) (dRet (dWk (dC (.bl false)))) dNext)
    (dSeq (dSet 3 (dMakeX (ga K "BadCost") ["task", "place"] (daCons (dVar 0) (daCons (dVar 1) daNil))))
    (dSeq (dIfS (dOr (dNot (dTru (dCall (sp_law_own K) WD [] (daCons (dVar 3) (daCons (dC (.int 8)) daNil))))) (dOr (dNot (dTru (dCall (sp_law_same K) WD [] (daCons (dXv (ga K "BadCost") "task" (dVar 3)) (daCons (dVar 0) daNil))))) (dNot (dTru (dCall (sp_law_same K) WD [] (daCons (dXv (ga K "BadCost") "place" (dVar 3)) (daCons (dVar 1) daNil))))))) (dRet (dWk (dC (.bl false)))) dNext)
    (dRet (dWk (dC (.bl true)))))))))))))))))))))

abbrev nm_law_second_ones : List Str := ["_law_a", "_law_b", "_law_c", "_law_e"]
theorem sc_law_second_ones : FnScope nm_law_second_ones ["_law_a", "_law_b", "_law_c"] (defScope s_law_second_ones) := ⟨rfl, rfl, rfl, by decide +kernel, rfl, by decide +kernel, by decide +kernel⟩
def t_law_second_ones (K : PySem.W.Frag) (WD : DWX) : DTS :=
    dSeq (dSet 3 (dMakeX (ga K "BadRelease") ["task", "place"] (daCons (dVar 0) (daCons (dVar 1) daNil))))
    (dSeq (dIfS (dOr (dNot (dTru (dCall (sp_law_own K) WD [] (daCons (dVar 3) (daCons (dC (.int 9)) daNil))))) (dOr (dNot (dTru (dCall (sp_law_same K) WD [] (daCons (dXv (ga K "BadRelease") "task" (dVar 3)) (daCons (dVar 0) daNil))))) (dNot (dTru (dCall (sp_law_same K) WD [] (daCons (dXv (ga K "BadRelease") "place" (dVar 3)) (daCons (dVar 1) daNil))))))) (dRet (dWk (dC (.bl false)))) dNext)
    (dSeq (dSet 3 (dMakeX (ga K "NoArrow") ["task", "place"] (daCons (dVar 0) (daCons (dVar 1) daNil))))
    (dSeq (dIfS (dOr (dNot (dTru (dCall (sp_law_own K) WD [] (daCons (dVar 3) (daCons (dC (.int 10)) daNil))))) (dOr (dNot (dTru (dCall (sp_law_same K) WD [] (daCons (dXv (ga K "NoArrow") "task" (dVar 3)) (daCons (dVar 0) daNil))))) (dNot (dTru (dCall (sp_law_same K) WD [] (daCons (dXv (ga K "NoArrow") "place" (dVar 3)) (daCons (dVar 1) daNil))))))) (dRet (dWk (dC (.bl false)))) dNext)
    (dSeq (dSet 3 (dMakeX (ga K "GapTooShort") ["task", "place"] (daCons (dVar 0) (daCons (dVar 1) daNil))))
    (dSeq (dIfS (dOr (dNot (dTru (dCall (sp_law_own K) WD [] (daCons (dVar 3) (daCons (dC (.int 11)) daNil))))) (dOr (dNot (dTru (dCall (sp_law_same K) WD [] (daCons (dXv (ga K "GapTooShort") "task" (dVar 3)) (daCons (dVar 0) daNil))))) (dNot (dTru (dCall (sp_law_same K) WD [] (daCons (dXv (ga K "GapTooShort") "place" (dVar 3)) (daCons (dVar 1) daNil))))))) (dRet (dWk (dC (.bl false)))) dNext)
    (dSeq (dSet 3 (dMakeX (ga K "UnknownJob") ["place"] (daCons (dVar 0) daNil)))
    (dSeq (dIfS (dOr (dNot (dTru (dCall (sp_law_own K) WD [] (daCons (dVar 3) (daCons (dC (.int 12)) daNil))))) (dNot (dTru (dCall (sp_law_same K) WD [] (daCons (dXv (ga K "UnknownJob") "place" (dVar 3)) (daCons (dVar 0) daNil)))))) (dRet (dWk (dC (.bl false)))) dNext)
    (dSeq (dSet 3 (dMakeX (ga K "EmptySlice") ["place"] (daCons (dVar 0) daNil)))
    (dSeq (dIfS (dOr (dNot (dTru (dCall (sp_law_own K) WD [] (daCons (dVar 3) (daCons (dC (.int 13)) daNil))))) (dNot (dTru (dCall (sp_law_same K) WD [] (daCons (dXv (ga K "EmptySlice") "place" (dVar 3)) (daCons (dVar 0) daNil)))))) (dRet (dWk (dC (.bl false)))) dNext)
    (dSeq (dSet 3 (dMakeX (ga K "Overlap") ["place"] (daCons (dVar 0) daNil)))
    (dSeq (dIfS (dOr (dNot (dTru (dCall (sp_law_own K) WD [] (daCons (dVar 3) (daCons (dC (.int 14)) daNil))))) (dNot (dTru (dCall (sp_law_same K) WD [] (daCons (dXv (ga K "Overlap") "place" (dVar 3)) (daCons (dVar 0) daNil)))))) (dRet (dWk (dC (.bl false)))) dNext)
    (dSeq (dSet 3 (dMakeX (ga K "TooEarly") ["place"] (daCons (dVar 0) daNil)))
    (dSeq (dIfS (dOr (dNot (dTru (dCall (sp_law_own K) WD [] (daCons (dVar 3) (daCons (dC (.int 15)) daNil))))) (dNot (dTru (dCall (sp_law_same K) WD [] (daCons (dXv (ga K "TooEarly") "place" (dVar 3)) (daCons (dVar 0) daNil)))))) (dRet (dWk (dC (.bl false)))) dNext)
    (dSeq (dSet 3 (dMakeX (ga K "WrongAmount") ["job"] (daCons (dVar 0) daNil)))
    (dSeq (dIfS (dOr (dNot (dTru (dCall (sp_law_own K) WD [] (daCons (dVar 3) (daCons (dC (.int 16)) daNil))))) (dNot (dTru (dCall (sp_law_same K) WD [] (daCons (dXv (ga K "WrongAmount") "job" (dVar 3)) (daCons (dVar 0) daNil)))))) (dRet (dWk (dC (.bl false)))) dNext)
    (dSeq (dSet 3 (dMakeX0 (ga K "BadRow")))
    (dSeq (dIfS (dNot (dTru (dCall (sp_law_own K) WD [] (daCons (dVar 3) (daCons (dC (.int 17)) daNil))))) (dRet (dWk (dC (.bl false)))) dNext)
    (dRet (dWk (dC (.bl true)))))))))))))))))))))

abbrev nm_law_third_ones : List Str := ["_law_a", "_law_b", "_law_c", "_law_e"]
theorem sc_law_third_ones : FnScope nm_law_third_ones ["_law_a", "_law_b", "_law_c"] (defScope s_law_third_ones) := ⟨rfl, rfl, rfl, by decide +kernel, rfl, by decide +kernel, by decide +kernel⟩
def t_law_third_ones (K : PySem.W.Frag) (WD : DWX) : DTS :=
    dSeq (dSet 3 (dMakeX (ga K "TooLong") ["period"] (daCons (dVar 0) daNil)))
    (dSeq (dIfS (dOr (dNot (dTru (dCall (sp_law_own K) WD [] (daCons (dVar 3) (daCons (dC (.int 18)) daNil))))) (dNot (dTru (dCall (sp_law_same K) WD [] (daCons (dXv (ga K "TooLong") "period" (dVar 3)) (daCons (dVar 0) daNil)))))) (dRet (dWk (dC (.bl false)))) dNext)
    (dSeq (dSet 3 (dMakeX (ga K "Falling") ["gain"] (daCons (dVar 0) daNil)))
    (dSeq (dIfS (dOr (dNot (dTru (dCall (sp_law_own K) WD [] (daCons (dVar 3) (daCons (dC (.int 19)) daNil))))) (dNot (dTru (dCall (sp_law_same K) WD [] (daCons (dXv (ga K "Falling") "gain" (dVar 3)) (daCons (dVar 0) daNil)))))) (dRet (dWk (dC (.bl false)))) dNext)
    (dSeq (dSet 3 (dMakeX (ga K "BadCalendar") ["calendar"] (daCons (dVar 0) daNil)))
    (dSeq (dIfS (dOr (dNot (dTru (dCall (sp_law_own K) WD [] (daCons (dVar 3) (daCons (dC (.int 20)) daNil))))) (dNot (dTru (dCall (sp_law_same K) WD [] (daCons (dXv (ga K "BadCalendar") "calendar" (dVar 3)) (daCons (dVar 0) daNil)))))) (dRet (dWk (dC (.bl false)))) dNext)
    (dSeq (dSet 3 (dMakeX (ga K "Overloaded") ["cost", "length"] (daCons (dVar 0) (daCons (dVar 1) daNil))))
    (dSeq (dIfS (dOr (dNot (dTru (dCall (sp_law_own K) WD [] (daCons (dVar 3) (daCons (dC (.int 21)) daNil))))) (dOr (dNot (dTru (dCall (sp_law_same K) WD [] (daCons (dXv (ga K "Overloaded") "cost" (dVar 3)) (daCons (dVar 0) daNil))))) (dNot (dTru (dCall (sp_law_same K) WD [] (daCons (dXv (ga K "Overloaded") "length" (dVar 3)) (daCons (dVar 1) daNil))))))) (dRet (dWk (dC (.bl false)))) dNext)
    (dSeq (dSet 3 (dMakeX (ga K "LateSet") ["which"] (daCons (dVar 0) daNil)))
    (dSeq (dIfS (dOr (dNot (dTru (dCall (sp_law_own K) WD [] (daCons (dVar 3) (daCons (dC (.int 22)) daNil))))) (dNot (dTru (dCall (sp_law_same K) WD [] (daCons (dXv (ga K "LateSet") "which" (dVar 3)) (daCons (dVar 0) daNil)))))) (dRet (dWk (dC (.bl false)))) dNext)
    (dSeq (dSet 3 (dMakeX (ga K "Clash") ["admitted", "refused"] (daCons (dVar 0) (daCons (dVar 1) daNil))))
    (dSeq (dIfS (dOr (dNot (dTru (dCall (sp_law_own K) WD [] (daCons (dVar 3) (daCons (dC (.int 23)) daNil))))) (dOr (dNot (dTru (dCall (sp_law_same K) WD [] (daCons (dXv (ga K "Clash") "admitted" (dVar 3)) (daCons (dVar 0) daNil))))) (dNot (dTru (dCall (sp_law_same K) WD [] (daCons (dXv (ga K "Clash") "refused" (dVar 3)) (daCons (dVar 1) daNil))))))) (dRet (dWk (dC (.bl false)))) dNext)
    (dSeq (dSet 3 (dMakeX (ga K "NotOpen") ["answer"] (daCons (dVar 0) daNil)))
    (dSeq (dIfS (dOr (dNot (dTru (dCall (sp_law_own K) WD [] (daCons (dVar 3) (daCons (dC (.int 24)) daNil))))) (dNot (dTru (dCall (sp_law_same K) WD [] (daCons (dXv (ga K "NotOpen") "answer" (dVar 3)) (daCons (dVar 0) daNil)))))) (dRet (dWk (dC (.bl false)))) dNext)
    (dSeq (dSet 3 (dMakeX (ga K "Refused") ["name", "ticks", "excess"] (daCons (dVar 0) (daCons (dVar 1) (daCons (dVar 2) daNil)))))
    (dSeq (dIfS (dOr (dNot (dTru (dCall (sp_law_own K) WD [] (daCons (dVar 3) (daCons (dC (.int 25)) daNil))))) (dOr (dNot (dTru (dCall (sp_law_same K) WD [] (daCons (dXv (ga K "Refused") "name" (dVar 3)) (daCons (dVar 0) daNil))))) (dOr (dNot (dTru (dCall (sp_law_same K) WD [] (daCons (dXv (ga K "Refused") "ticks" (dVar 3)) (daCons (dVar 1) daNil))))) (dNot (dTru (dCall (sp_law_same K) WD [] (daCons (dXv (ga K "Refused") "excess" (dVar 3)) (daCons (dVar 2) daNil)))))))) (dRet (dWk (dC (.bl false)))) dNext)
    (dSeq (dSet 3 (dMakeX (ga K "Present") ["name"] (daCons (dVar 0) daNil)))
    (dSeq (dIfS (dOr (dNot (dTru (dCall (sp_law_own K) WD [] (daCons (dVar 3) (daCons (dC (.int 26)) daNil))))) (dNot (dTru (dCall (sp_law_same K) WD [] (daCons (dXv (ga K "Present") "name" (dVar 3)) (daCons (dVar 0) daNil)))))) (dRet (dWk (dC (.bl false)))) dNext)
    (dRet (dWk (dC (.bl true)))))))))))))))))))))

abbrev nm_law_fourth_ones : List Str := ["_law_a", "_law_b", "_law_c", "_law_e"]
theorem sc_law_fourth_ones : FnScope nm_law_fourth_ones ["_law_a", "_law_b", "_law_c"] (defScope s_law_fourth_ones) := ⟨rfl, rfl, rfl, by decide +kernel, rfl, by decide +kernel, by decide +kernel⟩
def t_law_fourth_ones (K : PySem.W.Frag) (WD : DWX) : DTS :=
    dSeq (dSet 3 (dMakeX (ga K "Absent") ["name"] (daCons (dVar 0) daNil)))
    (dSeq (dIfS (dOr (dNot (dTru (dCall (sp_law_own K) WD [] (daCons (dVar 3) (daCons (dC (.int 27)) daNil))))) (dNot (dTru (dCall (sp_law_same K) WD [] (daCons (dXv (ga K "Absent") "name" (dVar 3)) (daCons (dVar 0) daNil)))))) (dRet (dWk (dC (.bl false)))) dNext)
    (dSeq (dSet 3 (dMakeX0 (ga K "NothingToUndo")))
    (dSeq (dIfS (dNot (dTru (dCall (sp_law_own K) WD [] (daCons (dVar 3) (daCons (dC (.int 28)) daNil))))) (dRet (dWk (dC (.bl false)))) dNext)
    (dRet (dWk (dC (.bl true)))))))

abbrev nm_law : List Str := ["_law_script", "_law_pool_here", "_law_a", "_law_b", "_law_c", "_law_e"]
theorem sc_law : FnScope nm_law ["_law_script"] (defScope s_law) := ⟨rfl, rfl, rfl, by decide +kernel, rfl, by decide +kernel, by decide +kernel⟩
def t_law (K : PySem.W.Frag) (WD : DWX) : DTS :=
    dSeq (dSet 1 (dCall (sp_law_pool K) WD [] (daCons (dVar 0) daNil)))
    (dSeq (dSet 2 (dCall (sp_law_value K) WD [] (daCons (dVar 1) daNil)))
    (dSeq (dSet 3 (dCall (sp_law_value K) WD [] (daCons (dVar 1) daNil)))
    (dSeq (dSet 4 (dCall (sp_law_value K) WD [] (daCons (dVar 1) daNil)))
    (dSeq (dIfS (dOr (dNot (dTru (dCall (sp_law_first_ones K) WD [] (daCons (dVar 2) (daCons (dVar 3) (daCons (dVar 4) daNil)))))) (dNot (dTru (dCall (sp_law_second_ones K) WD [] (daCons (dVar 3) (daCons (dVar 4) (daCons (dVar 2) daNil))))))) (dRet (dC (.bl false))) dNext)
    (dSeq (dIfS (dOr (dNot (dTru (dCall (sp_law_third_ones K) WD [] (daCons (dVar 4) (daCons (dVar 2) (daCons (dVar 3) daNil)))))) (dNot (dTru (dCall (sp_law_fourth_ones K) WD [] (daCons (dVar 2) (daCons (dVar 4) (daCons (dVar 3) daNil))))))) (dRet (dC (.bl false))) dNext)
    (dSeq (dSet 5 (dMakeX0 (ga K "DuesError")))
    (dRet (dAndV (dOp dEq (dBM isL dCountD (dCall (sp_law_marks K) WD [] (daCons (dVar 5) daNil)) (daCons (dC (.bl true)) daNil)) (dC (.int 0))) (dCB (dIsV K) (daCons (dVar 5) (daCons (dC (.ty "ValueError")) daNil)))))))))))

structure Txt (K : Fr0) (mg : Str → Option Value) : Prop where
  says : Says fa fn K
  ex : ∃ h : Heap, K.In h ∧ h.Ns mainGlobals mg
section
variable {K : Fr0} {mg : Str → Option Value}
theorem Txt.g_law_pool (T : Txt K mg) : mg "_law_pool" = some (.ref (ga K "_law_pool")) := by
  obtain ⟨h, kin, g⟩ := T.ex
  exact He.glo_ok kin g (T.says.fact 0 rfl)
theorem Txt.g_law_draw (T : Txt K mg) : mg "_law_draw" = some (.ref (ga K "_law_draw")) := by
  obtain ⟨h, kin, g⟩ := T.ex
  exact He.glo_ok kin g (T.says.fact 1 rfl)
theorem Txt.g_law_simple (T : Txt K mg) : mg "_law_simple" = some (.ref (ga K "_law_simple")) := by
  obtain ⟨h, kin, g⟩ := T.ex
  exact He.glo_ok kin g (T.says.fact 2 rfl)
theorem Txt.g_law_value (T : Txt K mg) : mg "_law_value" = some (.ref (ga K "_law_value")) := by
  obtain ⟨h, kin, g⟩ := T.ex
  exact He.glo_ok kin g (T.says.fact 3 rfl)
theorem Txt.g_law_marks (T : Txt K mg) : mg "_law_marks" = some (.ref (ga K "_law_marks")) := by
  obtain ⟨h, kin, g⟩ := T.ex
  exact He.glo_ok kin g (T.says.fact 4 rfl)
theorem Txt.g_law_own (T : Txt K mg) : mg "_law_own" = some (.ref (ga K "_law_own")) := by
  obtain ⟨h, kin, g⟩ := T.ex
  exact He.glo_ok kin g (T.says.fact 5 rfl)
theorem Txt.g_law_same (T : Txt K mg) : mg "_law_same" = some (.ref (ga K "_law_same")) := by
  obtain ⟨h, kin, g⟩ := T.ex
  exact He.glo_ok kin g (T.says.fact 6 rfl)
theorem Txt.g_law_first_ones (T : Txt K mg) : mg "_law_first_ones" = some (.ref (ga K "_law_first_ones")) := by
  obtain ⟨h, kin, g⟩ := T.ex
  exact He.glo_ok kin g (T.says.fact 7 rfl)
theorem Txt.g_law_second_ones (T : Txt K mg) : mg "_law_second_ones" = some (.ref (ga K "_law_second_ones")) := by
  obtain ⟨h, kin, g⟩ := T.ex
  exact He.glo_ok kin g (T.says.fact 8 rfl)
theorem Txt.g_law_third_ones (T : Txt K mg) : mg "_law_third_ones" = some (.ref (ga K "_law_third_ones")) := by
  obtain ⟨h, kin, g⟩ := T.ex
  exact He.glo_ok kin g (T.says.fact 9 rfl)
theorem Txt.g_law_fourth_ones (T : Txt K mg) : mg "_law_fourth_ones" = some (.ref (ga K "_law_fourth_ones")) := by
  obtain ⟨h, kin, g⟩ := T.ex
  exact He.glo_ok kin g (T.says.fact 10 rfl)
theorem Txt.g_law (T : Txt K mg) : mg "law" = some (.ref (ga K "law")) := by
  obtain ⟨h, kin, g⟩ := T.ex
  exact He.glo_ok kin g (T.says.fact 11 rfl)
theorem Txt.g_DuesError (T : Txt K mg) : mg "DuesError" = some (.ref (ga K "DuesError")) := by
  obtain ⟨h, kin, g⟩ := T.ex
  exact He.glo_ok kin g (T.says.fact 12 rfl)
theorem Txt.g_BadName (T : Txt K mg) : mg "BadName" = some (.ref (ga K "BadName")) := by
  obtain ⟨h, kin, g⟩ := T.ex
  exact He.glo_ok kin g (T.says.fact 13 rfl)
theorem Txt.g_WrongCount (T : Txt K mg) : mg "WrongCount" = some (.ref (ga K "WrongCount")) := by
  obtain ⟨h, kin, g⟩ := T.ex
  exact He.glo_ok kin g (T.says.fact 14 rfl)
theorem Txt.g_OutOfRange (T : Txt K mg) : mg "OutOfRange" = some (.ref (ga K "OutOfRange")) := by
  obtain ⟨h, kin, g⟩ := T.ex
  exact He.glo_ok kin g (T.says.fact 15 rfl)
theorem Txt.g_Repeated (T : Txt K mg) : mg "Repeated" = some (.ref (ga K "Repeated")) := by
  obtain ⟨h, kin, g⟩ := T.ex
  exact He.glo_ok kin g (T.says.fact 16 rfl)
theorem Txt.g_RepeatedArrow (T : Txt K mg) : mg "RepeatedArrow" = some (.ref (ga K "RepeatedArrow")) := by
  obtain ⟨h, kin, g⟩ := T.ex
  exact He.glo_ok kin g (T.says.fact 17 rfl)
theorem Txt.g_UnknownKind (T : Txt K mg) : mg "UnknownKind" = some (.ref (ga K "UnknownKind")) := by
  obtain ⟨h, kin, g⟩ := T.ex
  exact He.glo_ok kin g (T.says.fact 18 rfl)
theorem Txt.g_UnknownArrow (T : Txt K mg) : mg "UnknownArrow" = some (.ref (ga K "UnknownArrow")) := by
  obtain ⟨h, kin, g⟩ := T.ex
  exact He.glo_ok kin g (T.says.fact 19 rfl)
theorem Txt.g_BadLine (T : Txt K mg) : mg "BadLine" = some (.ref (ga K "BadLine")) := by
  obtain ⟨h, kin, g⟩ := T.ex
  exact He.glo_ok kin g (T.says.fact 20 rfl)
theorem Txt.g_BadCost (T : Txt K mg) : mg "BadCost" = some (.ref (ga K "BadCost")) := by
  obtain ⟨h, kin, g⟩ := T.ex
  exact He.glo_ok kin g (T.says.fact 21 rfl)
theorem Txt.g_BadRelease (T : Txt K mg) : mg "BadRelease" = some (.ref (ga K "BadRelease")) := by
  obtain ⟨h, kin, g⟩ := T.ex
  exact He.glo_ok kin g (T.says.fact 22 rfl)
theorem Txt.g_NoArrow (T : Txt K mg) : mg "NoArrow" = some (.ref (ga K "NoArrow")) := by
  obtain ⟨h, kin, g⟩ := T.ex
  exact He.glo_ok kin g (T.says.fact 23 rfl)
theorem Txt.g_GapTooShort (T : Txt K mg) : mg "GapTooShort" = some (.ref (ga K "GapTooShort")) := by
  obtain ⟨h, kin, g⟩ := T.ex
  exact He.glo_ok kin g (T.says.fact 24 rfl)
theorem Txt.g_UnknownJob (T : Txt K mg) : mg "UnknownJob" = some (.ref (ga K "UnknownJob")) := by
  obtain ⟨h, kin, g⟩ := T.ex
  exact He.glo_ok kin g (T.says.fact 25 rfl)
theorem Txt.g_EmptySlice (T : Txt K mg) : mg "EmptySlice" = some (.ref (ga K "EmptySlice")) := by
  obtain ⟨h, kin, g⟩ := T.ex
  exact He.glo_ok kin g (T.says.fact 26 rfl)
theorem Txt.g_Overlap (T : Txt K mg) : mg "Overlap" = some (.ref (ga K "Overlap")) := by
  obtain ⟨h, kin, g⟩ := T.ex
  exact He.glo_ok kin g (T.says.fact 27 rfl)
theorem Txt.g_TooEarly (T : Txt K mg) : mg "TooEarly" = some (.ref (ga K "TooEarly")) := by
  obtain ⟨h, kin, g⟩ := T.ex
  exact He.glo_ok kin g (T.says.fact 28 rfl)
theorem Txt.g_WrongAmount (T : Txt K mg) : mg "WrongAmount" = some (.ref (ga K "WrongAmount")) := by
  obtain ⟨h, kin, g⟩ := T.ex
  exact He.glo_ok kin g (T.says.fact 29 rfl)
theorem Txt.g_BadRow (T : Txt K mg) : mg "BadRow" = some (.ref (ga K "BadRow")) := by
  obtain ⟨h, kin, g⟩ := T.ex
  exact He.glo_ok kin g (T.says.fact 30 rfl)
theorem Txt.g_TooLong (T : Txt K mg) : mg "TooLong" = some (.ref (ga K "TooLong")) := by
  obtain ⟨h, kin, g⟩ := T.ex
  exact He.glo_ok kin g (T.says.fact 31 rfl)
theorem Txt.g_Falling (T : Txt K mg) : mg "Falling" = some (.ref (ga K "Falling")) := by
  obtain ⟨h, kin, g⟩ := T.ex
  exact He.glo_ok kin g (T.says.fact 32 rfl)
theorem Txt.g_BadCalendar (T : Txt K mg) : mg "BadCalendar" = some (.ref (ga K "BadCalendar")) := by
  obtain ⟨h, kin, g⟩ := T.ex
  exact He.glo_ok kin g (T.says.fact 33 rfl)
theorem Txt.g_Overloaded (T : Txt K mg) : mg "Overloaded" = some (.ref (ga K "Overloaded")) := by
  obtain ⟨h, kin, g⟩ := T.ex
  exact He.glo_ok kin g (T.says.fact 34 rfl)
theorem Txt.g_LateSet (T : Txt K mg) : mg "LateSet" = some (.ref (ga K "LateSet")) := by
  obtain ⟨h, kin, g⟩ := T.ex
  exact He.glo_ok kin g (T.says.fact 35 rfl)
theorem Txt.g_Clash (T : Txt K mg) : mg "Clash" = some (.ref (ga K "Clash")) := by
  obtain ⟨h, kin, g⟩ := T.ex
  exact He.glo_ok kin g (T.says.fact 36 rfl)
theorem Txt.g_NotOpen (T : Txt K mg) : mg "NotOpen" = some (.ref (ga K "NotOpen")) := by
  obtain ⟨h, kin, g⟩ := T.ex
  exact He.glo_ok kin g (T.says.fact 37 rfl)
theorem Txt.g_Refused (T : Txt K mg) : mg "Refused" = some (.ref (ga K "Refused")) := by
  obtain ⟨h, kin, g⟩ := T.ex
  exact He.glo_ok kin g (T.says.fact 38 rfl)
theorem Txt.g_Present (T : Txt K mg) : mg "Present" = some (.ref (ga K "Present")) := by
  obtain ⟨h, kin, g⟩ := T.ex
  exact He.glo_ok kin g (T.says.fact 39 rfl)
theorem Txt.g_Absent (T : Txt K mg) : mg "Absent" = some (.ref (ga K "Absent")) := by
  obtain ⟨h, kin, g⟩ := T.ex
  exact He.glo_ok kin g (T.says.fact 40 rfl)
theorem Txt.g_NothingToUndo (T : Txt K mg) : mg "NothingToUndo" = some (.ref (ga K "NothingToUndo")) := by
  obtain ⟨h, kin, g⟩ := T.ex
  exact He.glo_ok kin g (T.says.fact 41 rfl)
theorem Txt.b_ValueError (T : Txt K mg) : mg "ValueError" = none := by
  obtain ⟨h, kin, g⟩ := T.ex
  exact He.free_ok kin g (T.says.fact 42 rfl)
theorem Txt.b_bool (T : Txt K mg) : mg "bool" = none := by
  obtain ⟨h, kin, g⟩ := T.ex
  exact He.free_ok kin g (T.says.fact 43 rfl)
theorem Txt.b_int (T : Txt K mg) : mg "int" = none := by
  obtain ⟨h, kin, g⟩ := T.ex
  exact He.free_ok kin g (T.says.fact 44 rfl)
theorem Txt.b_isinstance (T : Txt K mg) : mg "isinstance" = none := by
  obtain ⟨h, kin, g⟩ := T.ex
  exact He.free_ok kin g (T.says.fact 45 rfl)
theorem Txt.b_len (T : Txt K mg) : mg "len" = none := by
  obtain ⟨h, kin, g⟩ := T.ex
  exact He.free_ok kin g (T.says.fact 46 rfl)
theorem Txt.b_range (T : Txt K mg) : mg "range" = none := by
  obtain ⟨h, kin, g⟩ := T.ex
  exact He.free_ok kin g (T.says.fact 47 rfl)
theorem Txt.ox_Absent (T : Txt K mg) : OexC K (ga K "Absent") := (oex_of (T.says.fact 48 rfl)).1
theorem Txt.oxi_Absent (T : Txt K mg) : PySem.W.findIn K (.ref (ga K "Absent")) "__init__" = some (some (.ref (ma K (ga K "Absent") "__init__"))) := (oex_of (T.says.fact 48 rfl)).2.1
theorem Txt.oxf_Absent (T : Txt K mg) : PySem.W.typeIn K (.ref (ma K (ga K "Absent") "__init__")) = some (.type "function") := (oex_of (T.says.fact 48 rfl)).2.2
theorem Txt.ox_BadCalendar (T : Txt K mg) : OexC K (ga K "BadCalendar") := (oex_of (T.says.fact 49 rfl)).1
theorem Txt.oxi_BadCalendar (T : Txt K mg) : PySem.W.findIn K (.ref (ga K "BadCalendar")) "__init__" = some (some (.ref (ma K (ga K "BadCalendar") "__init__"))) := (oex_of (T.says.fact 49 rfl)).2.1
theorem Txt.oxf_BadCalendar (T : Txt K mg) : PySem.W.typeIn K (.ref (ma K (ga K "BadCalendar") "__init__")) = some (.type "function") := (oex_of (T.says.fact 49 rfl)).2.2
theorem Txt.ox_BadCost (T : Txt K mg) : OexC K (ga K "BadCost") := (oex_of (T.says.fact 50 rfl)).1
theorem Txt.oxi_BadCost (T : Txt K mg) : PySem.W.findIn K (.ref (ga K "BadCost")) "__init__" = some (some (.ref (ma K (ga K "BadCost") "__init__"))) := (oex_of (T.says.fact 50 rfl)).2.1
theorem Txt.oxf_BadCost (T : Txt K mg) : PySem.W.typeIn K (.ref (ma K (ga K "BadCost") "__init__")) = some (.type "function") := (oex_of (T.says.fact 50 rfl)).2.2
theorem Txt.ox_BadLine (T : Txt K mg) : OexC K (ga K "BadLine") := (oex_of (T.says.fact 51 rfl)).1
theorem Txt.oxi_BadLine (T : Txt K mg) : PySem.W.findIn K (.ref (ga K "BadLine")) "__init__" = some (some (.ref (ma K (ga K "BadLine") "__init__"))) := (oex_of (T.says.fact 51 rfl)).2.1
theorem Txt.oxf_BadLine (T : Txt K mg) : PySem.W.typeIn K (.ref (ma K (ga K "BadLine") "__init__")) = some (.type "function") := (oex_of (T.says.fact 51 rfl)).2.2
theorem Txt.ox_BadName (T : Txt K mg) : OexC K (ga K "BadName") := (oex_of (T.says.fact 52 rfl)).1
theorem Txt.oxi_BadName (T : Txt K mg) : PySem.W.findIn K (.ref (ga K "BadName")) "__init__" = some (some (.ref (ma K (ga K "BadName") "__init__"))) := (oex_of (T.says.fact 52 rfl)).2.1
theorem Txt.oxf_BadName (T : Txt K mg) : PySem.W.typeIn K (.ref (ma K (ga K "BadName") "__init__")) = some (.type "function") := (oex_of (T.says.fact 52 rfl)).2.2
theorem Txt.ox_BadRelease (T : Txt K mg) : OexC K (ga K "BadRelease") := (oex_of (T.says.fact 53 rfl)).1
theorem Txt.oxi_BadRelease (T : Txt K mg) : PySem.W.findIn K (.ref (ga K "BadRelease")) "__init__" = some (some (.ref (ma K (ga K "BadRelease") "__init__"))) := (oex_of (T.says.fact 53 rfl)).2.1
theorem Txt.oxf_BadRelease (T : Txt K mg) : PySem.W.typeIn K (.ref (ma K (ga K "BadRelease") "__init__")) = some (.type "function") := (oex_of (T.says.fact 53 rfl)).2.2
theorem Txt.ex_BadRow (T : Txt K mg) : ExC K (ga K "BadRow") := exc_of (T.says.fact 54 rfl)
theorem Txt.ox_Clash (T : Txt K mg) : OexC K (ga K "Clash") := (oex_of (T.says.fact 55 rfl)).1
theorem Txt.oxi_Clash (T : Txt K mg) : PySem.W.findIn K (.ref (ga K "Clash")) "__init__" = some (some (.ref (ma K (ga K "Clash") "__init__"))) := (oex_of (T.says.fact 55 rfl)).2.1
theorem Txt.oxf_Clash (T : Txt K mg) : PySem.W.typeIn K (.ref (ma K (ga K "Clash") "__init__")) = some (.type "function") := (oex_of (T.says.fact 55 rfl)).2.2
theorem Txt.ex_DuesError (T : Txt K mg) : ExC K (ga K "DuesError") := exc_of (T.says.fact 56 rfl)
theorem Txt.ox_EmptySlice (T : Txt K mg) : OexC K (ga K "EmptySlice") := (oex_of (T.says.fact 57 rfl)).1
theorem Txt.oxi_EmptySlice (T : Txt K mg) : PySem.W.findIn K (.ref (ga K "EmptySlice")) "__init__" = some (some (.ref (ma K (ga K "EmptySlice") "__init__"))) := (oex_of (T.says.fact 57 rfl)).2.1
theorem Txt.oxf_EmptySlice (T : Txt K mg) : PySem.W.typeIn K (.ref (ma K (ga K "EmptySlice") "__init__")) = some (.type "function") := (oex_of (T.says.fact 57 rfl)).2.2
theorem Txt.ox_Falling (T : Txt K mg) : OexC K (ga K "Falling") := (oex_of (T.says.fact 58 rfl)).1
theorem Txt.oxi_Falling (T : Txt K mg) : PySem.W.findIn K (.ref (ga K "Falling")) "__init__" = some (some (.ref (ma K (ga K "Falling") "__init__"))) := (oex_of (T.says.fact 58 rfl)).2.1
theorem Txt.oxf_Falling (T : Txt K mg) : PySem.W.typeIn K (.ref (ma K (ga K "Falling") "__init__")) = some (.type "function") := (oex_of (T.says.fact 58 rfl)).2.2
theorem Txt.ox_GapTooShort (T : Txt K mg) : OexC K (ga K "GapTooShort") := (oex_of (T.says.fact 59 rfl)).1
theorem Txt.oxi_GapTooShort (T : Txt K mg) : PySem.W.findIn K (.ref (ga K "GapTooShort")) "__init__" = some (some (.ref (ma K (ga K "GapTooShort") "__init__"))) := (oex_of (T.says.fact 59 rfl)).2.1
theorem Txt.oxf_GapTooShort (T : Txt K mg) : PySem.W.typeIn K (.ref (ma K (ga K "GapTooShort") "__init__")) = some (.type "function") := (oex_of (T.says.fact 59 rfl)).2.2
theorem Txt.ox_LateSet (T : Txt K mg) : OexC K (ga K "LateSet") := (oex_of (T.says.fact 60 rfl)).1
theorem Txt.oxi_LateSet (T : Txt K mg) : PySem.W.findIn K (.ref (ga K "LateSet")) "__init__" = some (some (.ref (ma K (ga K "LateSet") "__init__"))) := (oex_of (T.says.fact 60 rfl)).2.1
theorem Txt.oxf_LateSet (T : Txt K mg) : PySem.W.typeIn K (.ref (ma K (ga K "LateSet") "__init__")) = some (.type "function") := (oex_of (T.says.fact 60 rfl)).2.2
theorem Txt.ox_NoArrow (T : Txt K mg) : OexC K (ga K "NoArrow") := (oex_of (T.says.fact 61 rfl)).1
theorem Txt.oxi_NoArrow (T : Txt K mg) : PySem.W.findIn K (.ref (ga K "NoArrow")) "__init__" = some (some (.ref (ma K (ga K "NoArrow") "__init__"))) := (oex_of (T.says.fact 61 rfl)).2.1
theorem Txt.oxf_NoArrow (T : Txt K mg) : PySem.W.typeIn K (.ref (ma K (ga K "NoArrow") "__init__")) = some (.type "function") := (oex_of (T.says.fact 61 rfl)).2.2
theorem Txt.ox_NotOpen (T : Txt K mg) : OexC K (ga K "NotOpen") := (oex_of (T.says.fact 62 rfl)).1
theorem Txt.oxi_NotOpen (T : Txt K mg) : PySem.W.findIn K (.ref (ga K "NotOpen")) "__init__" = some (some (.ref (ma K (ga K "NotOpen") "__init__"))) := (oex_of (T.says.fact 62 rfl)).2.1
theorem Txt.oxf_NotOpen (T : Txt K mg) : PySem.W.typeIn K (.ref (ma K (ga K "NotOpen") "__init__")) = some (.type "function") := (oex_of (T.says.fact 62 rfl)).2.2
theorem Txt.ex_NothingToUndo (T : Txt K mg) : ExC K (ga K "NothingToUndo") := exc_of (T.says.fact 63 rfl)
theorem Txt.ox_OutOfRange (T : Txt K mg) : OexC K (ga K "OutOfRange") := (oex_of (T.says.fact 64 rfl)).1
theorem Txt.oxi_OutOfRange (T : Txt K mg) : PySem.W.findIn K (.ref (ga K "OutOfRange")) "__init__" = some (some (.ref (ma K (ga K "OutOfRange") "__init__"))) := (oex_of (T.says.fact 64 rfl)).2.1
theorem Txt.oxf_OutOfRange (T : Txt K mg) : PySem.W.typeIn K (.ref (ma K (ga K "OutOfRange") "__init__")) = some (.type "function") := (oex_of (T.says.fact 64 rfl)).2.2
theorem Txt.ox_Overlap (T : Txt K mg) : OexC K (ga K "Overlap") := (oex_of (T.says.fact 65 rfl)).1
theorem Txt.oxi_Overlap (T : Txt K mg) : PySem.W.findIn K (.ref (ga K "Overlap")) "__init__" = some (some (.ref (ma K (ga K "Overlap") "__init__"))) := (oex_of (T.says.fact 65 rfl)).2.1
theorem Txt.oxf_Overlap (T : Txt K mg) : PySem.W.typeIn K (.ref (ma K (ga K "Overlap") "__init__")) = some (.type "function") := (oex_of (T.says.fact 65 rfl)).2.2
theorem Txt.ox_Overloaded (T : Txt K mg) : OexC K (ga K "Overloaded") := (oex_of (T.says.fact 66 rfl)).1
theorem Txt.oxi_Overloaded (T : Txt K mg) : PySem.W.findIn K (.ref (ga K "Overloaded")) "__init__" = some (some (.ref (ma K (ga K "Overloaded") "__init__"))) := (oex_of (T.says.fact 66 rfl)).2.1
theorem Txt.oxf_Overloaded (T : Txt K mg) : PySem.W.typeIn K (.ref (ma K (ga K "Overloaded") "__init__")) = some (.type "function") := (oex_of (T.says.fact 66 rfl)).2.2
theorem Txt.ox_Present (T : Txt K mg) : OexC K (ga K "Present") := (oex_of (T.says.fact 67 rfl)).1
theorem Txt.oxi_Present (T : Txt K mg) : PySem.W.findIn K (.ref (ga K "Present")) "__init__" = some (some (.ref (ma K (ga K "Present") "__init__"))) := (oex_of (T.says.fact 67 rfl)).2.1
theorem Txt.oxf_Present (T : Txt K mg) : PySem.W.typeIn K (.ref (ma K (ga K "Present") "__init__")) = some (.type "function") := (oex_of (T.says.fact 67 rfl)).2.2
theorem Txt.ox_Refused (T : Txt K mg) : OexC K (ga K "Refused") := (oex_of (T.says.fact 68 rfl)).1
theorem Txt.oxi_Refused (T : Txt K mg) : PySem.W.findIn K (.ref (ga K "Refused")) "__init__" = some (some (.ref (ma K (ga K "Refused") "__init__"))) := (oex_of (T.says.fact 68 rfl)).2.1
theorem Txt.oxf_Refused (T : Txt K mg) : PySem.W.typeIn K (.ref (ma K (ga K "Refused") "__init__")) = some (.type "function") := (oex_of (T.says.fact 68 rfl)).2.2
theorem Txt.ox_Repeated (T : Txt K mg) : OexC K (ga K "Repeated") := (oex_of (T.says.fact 69 rfl)).1
theorem Txt.oxi_Repeated (T : Txt K mg) : PySem.W.findIn K (.ref (ga K "Repeated")) "__init__" = some (some (.ref (ma K (ga K "Repeated") "__init__"))) := (oex_of (T.says.fact 69 rfl)).2.1
theorem Txt.oxf_Repeated (T : Txt K mg) : PySem.W.typeIn K (.ref (ma K (ga K "Repeated") "__init__")) = some (.type "function") := (oex_of (T.says.fact 69 rfl)).2.2
theorem Txt.ox_RepeatedArrow (T : Txt K mg) : OexC K (ga K "RepeatedArrow") := (oex_of (T.says.fact 70 rfl)).1
theorem Txt.oxi_RepeatedArrow (T : Txt K mg) : PySem.W.findIn K (.ref (ga K "RepeatedArrow")) "__init__" = some (some (.ref (ma K (ga K "RepeatedArrow") "__init__"))) := (oex_of (T.says.fact 70 rfl)).2.1
theorem Txt.oxf_RepeatedArrow (T : Txt K mg) : PySem.W.typeIn K (.ref (ma K (ga K "RepeatedArrow") "__init__")) = some (.type "function") := (oex_of (T.says.fact 70 rfl)).2.2
theorem Txt.ox_TooEarly (T : Txt K mg) : OexC K (ga K "TooEarly") := (oex_of (T.says.fact 71 rfl)).1
theorem Txt.oxi_TooEarly (T : Txt K mg) : PySem.W.findIn K (.ref (ga K "TooEarly")) "__init__" = some (some (.ref (ma K (ga K "TooEarly") "__init__"))) := (oex_of (T.says.fact 71 rfl)).2.1
theorem Txt.oxf_TooEarly (T : Txt K mg) : PySem.W.typeIn K (.ref (ma K (ga K "TooEarly") "__init__")) = some (.type "function") := (oex_of (T.says.fact 71 rfl)).2.2
theorem Txt.ox_TooLong (T : Txt K mg) : OexC K (ga K "TooLong") := (oex_of (T.says.fact 72 rfl)).1
theorem Txt.oxi_TooLong (T : Txt K mg) : PySem.W.findIn K (.ref (ga K "TooLong")) "__init__" = some (some (.ref (ma K (ga K "TooLong") "__init__"))) := (oex_of (T.says.fact 72 rfl)).2.1
theorem Txt.oxf_TooLong (T : Txt K mg) : PySem.W.typeIn K (.ref (ma K (ga K "TooLong") "__init__")) = some (.type "function") := (oex_of (T.says.fact 72 rfl)).2.2
theorem Txt.ox_UnknownArrow (T : Txt K mg) : OexC K (ga K "UnknownArrow") := (oex_of (T.says.fact 73 rfl)).1
theorem Txt.oxi_UnknownArrow (T : Txt K mg) : PySem.W.findIn K (.ref (ga K "UnknownArrow")) "__init__" = some (some (.ref (ma K (ga K "UnknownArrow") "__init__"))) := (oex_of (T.says.fact 73 rfl)).2.1
theorem Txt.oxf_UnknownArrow (T : Txt K mg) : PySem.W.typeIn K (.ref (ma K (ga K "UnknownArrow") "__init__")) = some (.type "function") := (oex_of (T.says.fact 73 rfl)).2.2
theorem Txt.ox_UnknownJob (T : Txt K mg) : OexC K (ga K "UnknownJob") := (oex_of (T.says.fact 74 rfl)).1
theorem Txt.oxi_UnknownJob (T : Txt K mg) : PySem.W.findIn K (.ref (ga K "UnknownJob")) "__init__" = some (some (.ref (ma K (ga K "UnknownJob") "__init__"))) := (oex_of (T.says.fact 74 rfl)).2.1
theorem Txt.oxf_UnknownJob (T : Txt K mg) : PySem.W.typeIn K (.ref (ma K (ga K "UnknownJob") "__init__")) = some (.type "function") := (oex_of (T.says.fact 74 rfl)).2.2
theorem Txt.ox_UnknownKind (T : Txt K mg) : OexC K (ga K "UnknownKind") := (oex_of (T.says.fact 75 rfl)).1
theorem Txt.oxi_UnknownKind (T : Txt K mg) : PySem.W.findIn K (.ref (ga K "UnknownKind")) "__init__" = some (some (.ref (ma K (ga K "UnknownKind") "__init__"))) := (oex_of (T.says.fact 75 rfl)).2.1
theorem Txt.oxf_UnknownKind (T : Txt K mg) : PySem.W.typeIn K (.ref (ma K (ga K "UnknownKind") "__init__")) = some (.type "function") := (oex_of (T.says.fact 75 rfl)).2.2
theorem Txt.ox_WrongAmount (T : Txt K mg) : OexC K (ga K "WrongAmount") := (oex_of (T.says.fact 76 rfl)).1
theorem Txt.oxi_WrongAmount (T : Txt K mg) : PySem.W.findIn K (.ref (ga K "WrongAmount")) "__init__" = some (some (.ref (ma K (ga K "WrongAmount") "__init__"))) := (oex_of (T.says.fact 76 rfl)).2.1
theorem Txt.oxf_WrongAmount (T : Txt K mg) : PySem.W.typeIn K (.ref (ma K (ga K "WrongAmount") "__init__")) = some (.type "function") := (oex_of (T.says.fact 76 rfl)).2.2
theorem Txt.ox_WrongCount (T : Txt K mg) : OexC K (ga K "WrongCount") := (oex_of (T.says.fact 77 rfl)).1
theorem Txt.oxi_WrongCount (T : Txt K mg) : PySem.W.findIn K (.ref (ga K "WrongCount")) "__init__" = some (some (.ref (ma K (ga K "WrongCount") "__init__"))) := (oex_of (T.says.fact 77 rfl)).2.1
theorem Txt.oxf_WrongCount (T : Txt K mg) : PySem.W.typeIn K (.ref (ma K (ga K "WrongCount") "__init__")) = some (.type "function") := (oex_of (T.says.fact 77 rfl)).2.2
theorem Txt.nf_Absent_name (T : Txt K mg) : PySem.W.findIn K (.ref (ga K "Absent")) "name" = some none := of_decide_eq_true (T.says.fact 78 rfl)
theorem Txt.nf_BadCalendar_calendar (T : Txt K mg) : PySem.W.findIn K (.ref (ga K "BadCalendar")) "calendar" = some none := of_decide_eq_true (T.says.fact 79 rfl)
theorem Txt.nf_BadCost_place (T : Txt K mg) : PySem.W.findIn K (.ref (ga K "BadCost")) "place" = some none := of_decide_eq_true (T.says.fact 80 rfl)
theorem Txt.nf_BadCost_task (T : Txt K mg) : PySem.W.findIn K (.ref (ga K "BadCost")) "task" = some none := of_decide_eq_true (T.says.fact 81 rfl)
theorem Txt.nf_BadLine_line (T : Txt K mg) : PySem.W.findIn K (.ref (ga K "BadLine")) "line" = some none := of_decide_eq_true (T.says.fact 82 rfl)
theorem Txt.nf_BadName_name (T : Txt K mg) : PySem.W.findIn K (.ref (ga K "BadName")) "name" = some none := of_decide_eq_true (T.says.fact 83 rfl)
theorem Txt.nf_BadRelease_place (T : Txt K mg) : PySem.W.findIn K (.ref (ga K "BadRelease")) "place" = some none := of_decide_eq_true (T.says.fact 84 rfl)
theorem Txt.nf_BadRelease_task (T : Txt K mg) : PySem.W.findIn K (.ref (ga K "BadRelease")) "task" = some none := of_decide_eq_true (T.says.fact 85 rfl)
theorem Txt.nf_Clash_admitted (T : Txt K mg) : PySem.W.findIn K (.ref (ga K "Clash")) "admitted" = some none := of_decide_eq_true (T.says.fact 86 rfl)
theorem Txt.nf_Clash_refused (T : Txt K mg) : PySem.W.findIn K (.ref (ga K "Clash")) "refused" = some none := of_decide_eq_true (T.says.fact 87 rfl)
theorem Txt.nf_EmptySlice_place (T : Txt K mg) : PySem.W.findIn K (.ref (ga K "EmptySlice")) "place" = some none := of_decide_eq_true (T.says.fact 88 rfl)
theorem Txt.nf_Falling_gain (T : Txt K mg) : PySem.W.findIn K (.ref (ga K "Falling")) "gain" = some none := of_decide_eq_true (T.says.fact 89 rfl)
theorem Txt.nf_GapTooShort_place (T : Txt K mg) : PySem.W.findIn K (.ref (ga K "GapTooShort")) "place" = some none := of_decide_eq_true (T.says.fact 90 rfl)
theorem Txt.nf_GapTooShort_task (T : Txt K mg) : PySem.W.findIn K (.ref (ga K "GapTooShort")) "task" = some none := of_decide_eq_true (T.says.fact 91 rfl)
theorem Txt.nf_LateSet_which (T : Txt K mg) : PySem.W.findIn K (.ref (ga K "LateSet")) "which" = some none := of_decide_eq_true (T.says.fact 92 rfl)
theorem Txt.nf_NoArrow_place (T : Txt K mg) : PySem.W.findIn K (.ref (ga K "NoArrow")) "place" = some none := of_decide_eq_true (T.says.fact 93 rfl)
theorem Txt.nf_NoArrow_task (T : Txt K mg) : PySem.W.findIn K (.ref (ga K "NoArrow")) "task" = some none := of_decide_eq_true (T.says.fact 94 rfl)
theorem Txt.nf_NotOpen_answer (T : Txt K mg) : PySem.W.findIn K (.ref (ga K "NotOpen")) "answer" = some none := of_decide_eq_true (T.says.fact 95 rfl)
theorem Txt.nf_OutOfRange_value (T : Txt K mg) : PySem.W.findIn K (.ref (ga K "OutOfRange")) "value" = some none := of_decide_eq_true (T.says.fact 96 rfl)
theorem Txt.nf_OutOfRange_what (T : Txt K mg) : PySem.W.findIn K (.ref (ga K "OutOfRange")) "what" = some none := of_decide_eq_true (T.says.fact 97 rfl)
theorem Txt.nf_Overlap_place (T : Txt K mg) : PySem.W.findIn K (.ref (ga K "Overlap")) "place" = some none := of_decide_eq_true (T.says.fact 98 rfl)
theorem Txt.nf_Overloaded_cost (T : Txt K mg) : PySem.W.findIn K (.ref (ga K "Overloaded")) "cost" = some none := of_decide_eq_true (T.says.fact 99 rfl)
theorem Txt.nf_Overloaded_length (T : Txt K mg) : PySem.W.findIn K (.ref (ga K "Overloaded")) "length" = some none := of_decide_eq_true (T.says.fact 100 rfl)
theorem Txt.nf_Present_name (T : Txt K mg) : PySem.W.findIn K (.ref (ga K "Present")) "name" = some none := of_decide_eq_true (T.says.fact 101 rfl)
theorem Txt.nf_Refused_excess (T : Txt K mg) : PySem.W.findIn K (.ref (ga K "Refused")) "excess" = some none := of_decide_eq_true (T.says.fact 102 rfl)
theorem Txt.nf_Refused_name (T : Txt K mg) : PySem.W.findIn K (.ref (ga K "Refused")) "name" = some none := of_decide_eq_true (T.says.fact 103 rfl)
theorem Txt.nf_Refused_ticks (T : Txt K mg) : PySem.W.findIn K (.ref (ga K "Refused")) "ticks" = some none := of_decide_eq_true (T.says.fact 104 rfl)
theorem Txt.nf_Repeated_name (T : Txt K mg) : PySem.W.findIn K (.ref (ga K "Repeated")) "name" = some none := of_decide_eq_true (T.says.fact 105 rfl)
theorem Txt.nf_RepeatedArrow_first (T : Txt K mg) : PySem.W.findIn K (.ref (ga K "RepeatedArrow")) "first" = some none := of_decide_eq_true (T.says.fact 106 rfl)
theorem Txt.nf_RepeatedArrow_second (T : Txt K mg) : PySem.W.findIn K (.ref (ga K "RepeatedArrow")) "second" = some none := of_decide_eq_true (T.says.fact 107 rfl)
theorem Txt.nf_TooEarly_place (T : Txt K mg) : PySem.W.findIn K (.ref (ga K "TooEarly")) "place" = some none := of_decide_eq_true (T.says.fact 108 rfl)
theorem Txt.nf_TooLong_period (T : Txt K mg) : PySem.W.findIn K (.ref (ga K "TooLong")) "period" = some none := of_decide_eq_true (T.says.fact 109 rfl)
theorem Txt.nf_UnknownArrow_first (T : Txt K mg) : PySem.W.findIn K (.ref (ga K "UnknownArrow")) "first" = some none := of_decide_eq_true (T.says.fact 110 rfl)
theorem Txt.nf_UnknownArrow_second (T : Txt K mg) : PySem.W.findIn K (.ref (ga K "UnknownArrow")) "second" = some none := of_decide_eq_true (T.says.fact 111 rfl)
theorem Txt.nf_UnknownJob_place (T : Txt K mg) : PySem.W.findIn K (.ref (ga K "UnknownJob")) "place" = some none := of_decide_eq_true (T.says.fact 112 rfl)
theorem Txt.nf_UnknownKind_name (T : Txt K mg) : PySem.W.findIn K (.ref (ga K "UnknownKind")) "name" = some none := of_decide_eq_true (T.says.fact 113 rfl)
theorem Txt.nf_WrongAmount_job (T : Txt K mg) : PySem.W.findIn K (.ref (ga K "WrongAmount")) "job" = some none := of_decide_eq_true (T.says.fact 114 rfl)
theorem Txt.nf_WrongCount_count (T : Txt K mg) : PySem.W.findIn K (.ref (ga K "WrongCount")) "count" = some none := of_decide_eq_true (T.says.fact 115 rfl)
theorem Txt.nf_WrongCount_what (T : Txt K mg) : PySem.W.findIn K (.ref (ga K "WrongCount")) "what" = some none := of_decide_eq_true (T.says.fact 116 rfl)
theorem Txt.xf_Absent (T : Txt K mg) : XfC K (ga K "Absent") := xfB_ok (T.says.fact 117 rfl)
theorem Txt.xf_BadCalendar (T : Txt K mg) : XfC K (ga K "BadCalendar") := xfB_ok (T.says.fact 118 rfl)
theorem Txt.xf_BadCost (T : Txt K mg) : XfC K (ga K "BadCost") := xfB_ok (T.says.fact 119 rfl)
theorem Txt.xf_BadLine (T : Txt K mg) : XfC K (ga K "BadLine") := xfB_ok (T.says.fact 120 rfl)
theorem Txt.xf_BadName (T : Txt K mg) : XfC K (ga K "BadName") := xfB_ok (T.says.fact 121 rfl)
theorem Txt.xf_BadRelease (T : Txt K mg) : XfC K (ga K "BadRelease") := xfB_ok (T.says.fact 122 rfl)
theorem Txt.xf_Clash (T : Txt K mg) : XfC K (ga K "Clash") := xfB_ok (T.says.fact 123 rfl)
theorem Txt.xf_EmptySlice (T : Txt K mg) : XfC K (ga K "EmptySlice") := xfB_ok (T.says.fact 124 rfl)
theorem Txt.xf_Falling (T : Txt K mg) : XfC K (ga K "Falling") := xfB_ok (T.says.fact 125 rfl)
theorem Txt.xf_GapTooShort (T : Txt K mg) : XfC K (ga K "GapTooShort") := xfB_ok (T.says.fact 126 rfl)
theorem Txt.xf_LateSet (T : Txt K mg) : XfC K (ga K "LateSet") := xfB_ok (T.says.fact 127 rfl)
theorem Txt.xf_NoArrow (T : Txt K mg) : XfC K (ga K "NoArrow") := xfB_ok (T.says.fact 128 rfl)
theorem Txt.xf_NotOpen (T : Txt K mg) : XfC K (ga K "NotOpen") := xfB_ok (T.says.fact 129 rfl)
theorem Txt.xf_OutOfRange (T : Txt K mg) : XfC K (ga K "OutOfRange") := xfB_ok (T.says.fact 130 rfl)
theorem Txt.xf_Overlap (T : Txt K mg) : XfC K (ga K "Overlap") := xfB_ok (T.says.fact 131 rfl)
theorem Txt.xf_Overloaded (T : Txt K mg) : XfC K (ga K "Overloaded") := xfB_ok (T.says.fact 132 rfl)
theorem Txt.xf_Present (T : Txt K mg) : XfC K (ga K "Present") := xfB_ok (T.says.fact 133 rfl)
theorem Txt.xf_Refused (T : Txt K mg) : XfC K (ga K "Refused") := xfB_ok (T.says.fact 134 rfl)
theorem Txt.xf_Repeated (T : Txt K mg) : XfC K (ga K "Repeated") := xfB_ok (T.says.fact 135 rfl)
theorem Txt.xf_RepeatedArrow (T : Txt K mg) : XfC K (ga K "RepeatedArrow") := xfB_ok (T.says.fact 136 rfl)
theorem Txt.xf_TooEarly (T : Txt K mg) : XfC K (ga K "TooEarly") := xfB_ok (T.says.fact 137 rfl)
theorem Txt.xf_TooLong (T : Txt K mg) : XfC K (ga K "TooLong") := xfB_ok (T.says.fact 138 rfl)
theorem Txt.xf_UnknownArrow (T : Txt K mg) : XfC K (ga K "UnknownArrow") := xfB_ok (T.says.fact 139 rfl)
theorem Txt.xf_UnknownJob (T : Txt K mg) : XfC K (ga K "UnknownJob") := xfB_ok (T.says.fact 140 rfl)
theorem Txt.xf_UnknownKind (T : Txt K mg) : XfC K (ga K "UnknownKind") := xfB_ok (T.says.fact 141 rfl)
theorem Txt.xf_WrongAmount (T : Txt K mg) : XfC K (ga K "WrongAmount") := xfB_ok (T.says.fact 142 rfl)
theorem Txt.xf_WrongCount (T : Txt K mg) : XfC K (ga K "WrongCount") := xfB_ok (T.says.fact 143 rfl)
theorem Txt.xka (T : Txt K mg) : kitA xNames1 xNames K = true := T.says.fact 144 rfl
theorem Txt.xia (T : Txt K mg) : xisA xNames1 K = true := T.says.fact 145 rfl
theorem Txt.xkd (T : Txt K mg) : kitUp xNames1 "DuesError" true K = true := T.says.fact 146 rfl
theorem Txt.xkv (T : Txt K mg) : kitUpT xNames1 "ValueError" true K = true := T.says.fact 147 rfl
theorem Txt.d_BadName_init (T : Txt K mg) : ∃ fd, FunD K "__init__" "BadName.__init__" (defArgs s_BadName_init) (defBody s_BadName_init) (defScope s_BadName_init) [] [] (ma K (ga K "BadName") "__init__") fd := T.says.def_ 0 (d := da_BadName_init) rfl
theorem Txt.d_WrongCount_init (T : Txt K mg) : ∃ fd, FunD K "__init__" "WrongCount.__init__" (defArgs s_WrongCount_init) (defBody s_WrongCount_init) (defScope s_WrongCount_init) [] [] (ma K (ga K "WrongCount") "__init__") fd := T.says.def_ 1 (d := da_WrongCount_init) rfl
theorem Txt.d_OutOfRange_init (T : Txt K mg) : ∃ fd, FunD K "__init__" "OutOfRange.__init__" (defArgs s_OutOfRange_init) (defBody s_OutOfRange_init) (defScope s_OutOfRange_init) [] [] (ma K (ga K "OutOfRange") "__init__") fd := T.says.def_ 2 (d := da_OutOfRange_init) rfl
theorem Txt.d_Repeated_init (T : Txt K mg) : ∃ fd, FunD K "__init__" "Repeated.__init__" (defArgs s_Repeated_init) (defBody s_Repeated_init) (defScope s_Repeated_init) [] [] (ma K (ga K "Repeated") "__init__") fd := T.says.def_ 3 (d := da_Repeated_init) rfl
theorem Txt.d_RepeatedArrow_init (T : Txt K mg) : ∃ fd, FunD K "__init__" "RepeatedArrow.__init__" (defArgs s_RepeatedArrow_init) (defBody s_RepeatedArrow_init) (defScope s_RepeatedArrow_init) [] [] (ma K (ga K "RepeatedArrow") "__init__") fd := T.says.def_ 4 (d := da_RepeatedArrow_init) rfl
theorem Txt.d_UnknownKind_init (T : Txt K mg) : ∃ fd, FunD K "__init__" "UnknownKind.__init__" (defArgs s_UnknownKind_init) (defBody s_UnknownKind_init) (defScope s_UnknownKind_init) [] [] (ma K (ga K "UnknownKind") "__init__") fd := T.says.def_ 5 (d := da_UnknownKind_init) rfl
theorem Txt.d_UnknownArrow_init (T : Txt K mg) : ∃ fd, FunD K "__init__" "UnknownArrow.__init__" (defArgs s_UnknownArrow_init) (defBody s_UnknownArrow_init) (defScope s_UnknownArrow_init) [] [] (ma K (ga K "UnknownArrow") "__init__") fd := T.says.def_ 6 (d := da_UnknownArrow_init) rfl
theorem Txt.d_BadLine_init (T : Txt K mg) : ∃ fd, FunD K "__init__" "BadLine.__init__" (defArgs s_BadLine_init) (defBody s_BadLine_init) (defScope s_BadLine_init) [] [] (ma K (ga K "BadLine") "__init__") fd := T.says.def_ 7 (d := da_BadLine_init) rfl
theorem Txt.d_BadCost_init (T : Txt K mg) : ∃ fd, FunD K "__init__" "BadCost.__init__" (defArgs s_BadCost_init) (defBody s_BadCost_init) (defScope s_BadCost_init) [] [] (ma K (ga K "BadCost") "__init__") fd := T.says.def_ 8 (d := da_BadCost_init) rfl
theorem Txt.d_BadRelease_init (T : Txt K mg) : ∃ fd, FunD K "__init__" "BadRelease.__init__" (defArgs s_BadRelease_init) (defBody s_BadRelease_init) (defScope s_BadRelease_init) [] [] (ma K (ga K "BadRelease") "__init__") fd := T.says.def_ 9 (d := da_BadRelease_init) rfl
theorem Txt.d_NoArrow_init (T : Txt K mg) : ∃ fd, FunD K "__init__" "NoArrow.__init__" (defArgs s_NoArrow_init) (defBody s_NoArrow_init) (defScope s_NoArrow_init) [] [] (ma K (ga K "NoArrow") "__init__") fd := T.says.def_ 10 (d := da_NoArrow_init) rfl
theorem Txt.d_GapTooShort_init (T : Txt K mg) : ∃ fd, FunD K "__init__" "GapTooShort.__init__" (defArgs s_GapTooShort_init) (defBody s_GapTooShort_init) (defScope s_GapTooShort_init) [] [] (ma K (ga K "GapTooShort") "__init__") fd := T.says.def_ 11 (d := da_GapTooShort_init) rfl
theorem Txt.d_UnknownJob_init (T : Txt K mg) : ∃ fd, FunD K "__init__" "UnknownJob.__init__" (defArgs s_UnknownJob_init) (defBody s_UnknownJob_init) (defScope s_UnknownJob_init) [] [] (ma K (ga K "UnknownJob") "__init__") fd := T.says.def_ 12 (d := da_UnknownJob_init) rfl
theorem Txt.d_EmptySlice_init (T : Txt K mg) : ∃ fd, FunD K "__init__" "EmptySlice.__init__" (defArgs s_EmptySlice_init) (defBody s_EmptySlice_init) (defScope s_EmptySlice_init) [] [] (ma K (ga K "EmptySlice") "__init__") fd := T.says.def_ 13 (d := da_EmptySlice_init) rfl
theorem Txt.d_Overlap_init (T : Txt K mg) : ∃ fd, FunD K "__init__" "Overlap.__init__" (defArgs s_Overlap_init) (defBody s_Overlap_init) (defScope s_Overlap_init) [] [] (ma K (ga K "Overlap") "__init__") fd := T.says.def_ 14 (d := da_Overlap_init) rfl
theorem Txt.d_TooEarly_init (T : Txt K mg) : ∃ fd, FunD K "__init__" "TooEarly.__init__" (defArgs s_TooEarly_init) (defBody s_TooEarly_init) (defScope s_TooEarly_init) [] [] (ma K (ga K "TooEarly") "__init__") fd := T.says.def_ 15 (d := da_TooEarly_init) rfl
theorem Txt.d_WrongAmount_init (T : Txt K mg) : ∃ fd, FunD K "__init__" "WrongAmount.__init__" (defArgs s_WrongAmount_init) (defBody s_WrongAmount_init) (defScope s_WrongAmount_init) [] [] (ma K (ga K "WrongAmount") "__init__") fd := T.says.def_ 16 (d := da_WrongAmount_init) rfl
theorem Txt.d_TooLong_init (T : Txt K mg) : ∃ fd, FunD K "__init__" "TooLong.__init__" (defArgs s_TooLong_init) (defBody s_TooLong_init) (defScope s_TooLong_init) [] [] (ma K (ga K "TooLong") "__init__") fd := T.says.def_ 17 (d := da_TooLong_init) rfl
theorem Txt.d_Falling_init (T : Txt K mg) : ∃ fd, FunD K "__init__" "Falling.__init__" (defArgs s_Falling_init) (defBody s_Falling_init) (defScope s_Falling_init) [] [] (ma K (ga K "Falling") "__init__") fd := T.says.def_ 18 (d := da_Falling_init) rfl
theorem Txt.d_BadCalendar_init (T : Txt K mg) : ∃ fd, FunD K "__init__" "BadCalendar.__init__" (defArgs s_BadCalendar_init) (defBody s_BadCalendar_init) (defScope s_BadCalendar_init) [] [] (ma K (ga K "BadCalendar") "__init__") fd := T.says.def_ 19 (d := da_BadCalendar_init) rfl
theorem Txt.d_Overloaded_init (T : Txt K mg) : ∃ fd, FunD K "__init__" "Overloaded.__init__" (defArgs s_Overloaded_init) (defBody s_Overloaded_init) (defScope s_Overloaded_init) [] [] (ma K (ga K "Overloaded") "__init__") fd := T.says.def_ 20 (d := da_Overloaded_init) rfl
theorem Txt.d_LateSet_init (T : Txt K mg) : ∃ fd, FunD K "__init__" "LateSet.__init__" (defArgs s_LateSet_init) (defBody s_LateSet_init) (defScope s_LateSet_init) [] [] (ma K (ga K "LateSet") "__init__") fd := T.says.def_ 21 (d := da_LateSet_init) rfl
theorem Txt.d_Clash_init (T : Txt K mg) : ∃ fd, FunD K "__init__" "Clash.__init__" (defArgs s_Clash_init) (defBody s_Clash_init) (defScope s_Clash_init) [] [] (ma K (ga K "Clash") "__init__") fd := T.says.def_ 22 (d := da_Clash_init) rfl
theorem Txt.d_NotOpen_init (T : Txt K mg) : ∃ fd, FunD K "__init__" "NotOpen.__init__" (defArgs s_NotOpen_init) (defBody s_NotOpen_init) (defScope s_NotOpen_init) [] [] (ma K (ga K "NotOpen") "__init__") fd := T.says.def_ 23 (d := da_NotOpen_init) rfl
theorem Txt.d_Refused_init (T : Txt K mg) : ∃ fd, FunD K "__init__" "Refused.__init__" (defArgs s_Refused_init) (defBody s_Refused_init) (defScope s_Refused_init) [] [] (ma K (ga K "Refused") "__init__") fd := T.says.def_ 24 (d := da_Refused_init) rfl
theorem Txt.d_Present_init (T : Txt K mg) : ∃ fd, FunD K "__init__" "Present.__init__" (defArgs s_Present_init) (defBody s_Present_init) (defScope s_Present_init) [] [] (ma K (ga K "Present") "__init__") fd := T.says.def_ 25 (d := da_Present_init) rfl
theorem Txt.d_Absent_init (T : Txt K mg) : ∃ fd, FunD K "__init__" "Absent.__init__" (defArgs s_Absent_init) (defBody s_Absent_init) (defScope s_Absent_init) [] [] (ma K (ga K "Absent") "__init__") fd := T.says.def_ 26 (d := da_Absent_init) rfl
theorem Txt.d_law_pool (T : Txt K mg) : ∃ fd, FunD K "_law_pool" "_law_pool" (defArgs s_law_pool) (defBody s_law_pool) (defScope s_law_pool) [] [] (ga K "_law_pool") fd := T.says.def_ 27 (d := da_law_pool) rfl
theorem Txt.d_law_draw (T : Txt K mg) : ∃ fd, FunD K "_law_draw" "_law_draw" (defArgs s_law_draw) (defBody s_law_draw) (defScope s_law_draw) [] [] (ga K "_law_draw") fd := T.says.def_ 28 (d := da_law_draw) rfl
theorem Txt.d_law_simple (T : Txt K mg) : ∃ fd, FunD K "_law_simple" "_law_simple" (defArgs s_law_simple) (defBody s_law_simple) (defScope s_law_simple) [] [] (ga K "_law_simple") fd := T.says.def_ 29 (d := da_law_simple) rfl
theorem Txt.d_law_value (T : Txt K mg) : ∃ fd, FunD K "_law_value" "_law_value" (defArgs s_law_value) (defBody s_law_value) (defScope s_law_value) [] [] (ga K "_law_value") fd := T.says.def_ 30 (d := da_law_value) rfl
theorem Txt.d_law_marks (T : Txt K mg) : ∃ fd, FunD K "_law_marks" "_law_marks" (defArgs s_law_marks) (defBody s_law_marks) (defScope s_law_marks) [] [] (ga K "_law_marks") fd := T.says.def_ 31 (d := da_law_marks) rfl
theorem Txt.d_law_own (T : Txt K mg) : ∃ fd, FunD K "_law_own" "_law_own" (defArgs s_law_own) (defBody s_law_own) (defScope s_law_own) [] [] (ga K "_law_own") fd := T.says.def_ 32 (d := da_law_own) rfl
theorem Txt.d_law_same (T : Txt K mg) : ∃ fd, FunD K "_law_same" "_law_same" (defArgs s_law_same) (defBody s_law_same) (defScope s_law_same) [] [] (ga K "_law_same") fd := T.says.def_ 33 (d := da_law_same) rfl
theorem Txt.d_law_first_ones (T : Txt K mg) : ∃ fd, FunD K "_law_first_ones" "_law_first_ones" (defArgs s_law_first_ones) (defBody s_law_first_ones) (defScope s_law_first_ones) [] [] (ga K "_law_first_ones") fd := T.says.def_ 34 (d := da_law_first_ones) rfl
theorem Txt.d_law_second_ones (T : Txt K mg) : ∃ fd, FunD K "_law_second_ones" "_law_second_ones" (defArgs s_law_second_ones) (defBody s_law_second_ones) (defScope s_law_second_ones) [] [] (ga K "_law_second_ones") fd := T.says.def_ 35 (d := da_law_second_ones) rfl
theorem Txt.d_law_third_ones (T : Txt K mg) : ∃ fd, FunD K "_law_third_ones" "_law_third_ones" (defArgs s_law_third_ones) (defBody s_law_third_ones) (defScope s_law_third_ones) [] [] (ga K "_law_third_ones") fd := T.says.def_ 36 (d := da_law_third_ones) rfl
theorem Txt.d_law_fourth_ones (T : Txt K mg) : ∃ fd, FunD K "_law_fourth_ones" "_law_fourth_ones" (defArgs s_law_fourth_ones) (defBody s_law_fourth_ones) (defScope s_law_fourth_ones) [] [] (ga K "_law_fourth_ones") fd := T.says.def_ 37 (d := da_law_fourth_ones) rfl
theorem Txt.d_law (T : Txt K mg) : ∃ fd, FunD K "law" "law" (defArgs s_law) (defBody s_law) (defScope s_law) [] [] (ga K "law") fd := T.says.def_ 38 (d := da_law) rfl
end
theorem len_law_pool {K : Fr0} : ∀ ds m Q E, sp_law_pool K ds m Q E → ds.length = (["_law_script"] : List Str).length := by
  intro ds m Q E h
  repeat (first | (obtain ⟨rfl, _⟩ := h; rfl) | (obtain ⟨_, h⟩ := h))
theorem len_law_draw {K : Fr0} : ∀ ds m Q E, sp_law_draw K ds m Q E → ds.length = (["_law_pool_here", "_law_limit"] : List Str).length := by
  intro ds m Q E h
  repeat (first | (obtain ⟨rfl, _⟩ := h; rfl) | (obtain ⟨_, h⟩ := h))
theorem len_law_simple {K : Fr0} : ∀ ds m Q E, sp_law_simple K ds m Q E → ds.length = (["_law_pool_here"] : List Str).length := by
  intro ds m Q E h
  repeat (first | (obtain ⟨rfl, _⟩ := h; rfl) | (obtain ⟨_, h⟩ := h))
theorem len_law_value {K : Fr0} : ∀ ds m Q E, sp_law_value K ds m Q E → ds.length = (["_law_pool_here"] : List Str).length := by
  intro ds m Q E h
  repeat (first | (obtain ⟨rfl, _⟩ := h; rfl) | (obtain ⟨_, h⟩ := h))
theorem len_law_marks {K : Fr0} : ∀ ds m Q E, sp_law_marks K ds m Q E → ds.length = (["_law_e"] : List Str).length := by
  intro ds m Q E h
  repeat (first | (obtain ⟨rfl, _⟩ := h; rfl) | (obtain ⟨_, h⟩ := h))
theorem len_law_own {K : Fr0} : ∀ ds m Q E, sp_law_own K ds m Q E → ds.length = (["_law_e", "_law_place"] : List Str).length := by
  intro ds m Q E h
  repeat (first | (obtain ⟨rfl, _⟩ := h; rfl) | (obtain ⟨_, h⟩ := h))
theorem len_law_same {K : Fr0} : ∀ ds m Q E, sp_law_same K ds m Q E → ds.length = (["_law_told", "_law_due"] : List Str).length := by
  intro ds m Q E h
  repeat (first | (obtain ⟨rfl, _⟩ := h; rfl) | (obtain ⟨_, h⟩ := h))
theorem len_law_first_ones {K : Fr0} : ∀ ds m Q E, sp_law_first_ones K ds m Q E → ds.length = (["_law_a", "_law_b", "_law_c"] : List Str).length := by
  intro ds m Q E h
  repeat (first | (obtain ⟨rfl, _⟩ := h; rfl) | (obtain ⟨_, h⟩ := h))
theorem len_law_second_ones {K : Fr0} : ∀ ds m Q E, sp_law_second_ones K ds m Q E → ds.length = (["_law_a", "_law_b", "_law_c"] : List Str).length := by
  intro ds m Q E h
  repeat (first | (obtain ⟨rfl, _⟩ := h; rfl) | (obtain ⟨_, h⟩ := h))
theorem len_law_third_ones {K : Fr0} : ∀ ds m Q E, sp_law_third_ones K ds m Q E → ds.length = (["_law_a", "_law_b", "_law_c"] : List Str).length := by
  intro ds m Q E h
  repeat (first | (obtain ⟨rfl, _⟩ := h; rfl) | (obtain ⟨_, h⟩ := h))
theorem len_law_fourth_ones {K : Fr0} : ∀ ds m Q E, sp_law_fourth_ones K ds m Q E → ds.length = (["_law_a", "_law_b", "_law_c"] : List Str).length := by
  intro ds m Q E h
  repeat (first | (obtain ⟨rfl, _⟩ := h; rfl) | (obtain ⟨_, h⟩ := h))
end LW

set_option Elab.async false
set_option linter.all false
set_option maxRecDepth 100000
set_option maxHeartbeats 0
namespace LW
open PySem PySem.Spec PyProof.Rows L2 DL
open He (ga ma)
end LW

set_option Elab.async false
set_option linter.all false
set_option maxRecDepth 100000
set_option maxHeartbeats 4000000
namespace LW
open PySem PySem.Spec PyProof.Rows L2 DL
open He (ga ma)
local macro_rules | `(tactic| walk_at "zs") => `(tactic| try simp only [dIfS, dTest, dOp, dVar, dC, dCB, daCons, daNil, dSet, dRet, dNext, dDrop, dAsg, dPar, dAug, dAddI, dBreak, dCont, dRetN, slot, dLen, dCmpI, dSub, dAdd, dMul, dDiv, dMod, dPow, dNeg, dUn, dIx, dInt1, dAbs, dChain, dAnd, dOr, dNot, dAndV, dOrV, dNotV, dTru, dTruB, dIf, dTup, dLst, mkL, dSlice, dSl, doNone, doSome, dSum, dAll, dAny, dList, dTuple, dMax, dMin, eq_ii, ne_ii, eq_ss, ne_ss, eq_bb, ne_bb, eq_nn, ne_nn, dIsN, dNotN, dFgt, dIsB, dNotB, gN, gT, gsNil, gsCons, gSet, dBM, dAppend, dClear, dFld, dFldS, dProp, dCall, dMeth, dMake, dMakeN, daStar, dDictP, dCallO, dFor, dLc, diR1, diR2, diR3, diL, diT, diRv, diS, diE, dFmt, dFStr, dJs, dCallN, dFrzE, frz_l, in_ss, notin_ss, drR1, drR2, dListR, dRaise, dRaise0, dTryAs, dTry, dXf, dAddO, dInO, isL, insOf, Option.some.injEq, List.cons.injEq, D.int.injEq, D.bl.injEq, D.str.injEq, D.lst.injEq, D.tup.injEq, D.ref.injEq, MO.lst.injEq, MO.ins.injEq, mset_mset, and_true, true_and, and_self, and_assoc, exists_eq_left', exists_eq_left, exists_and_left, exists_and_right, exists_eq', List.set_cons_zero, List.set_cons_succ, decide_eq_true_eq, sqOf, lsOf, List.length_cons, List.length_nil, sizeLine_eq, List.append_nil, List.cons_append, List.nil_append, if_true, if_false, Bool.false_eq_true, reduceCtorEq, reduceIte, Nat.reduceAdd, Nat.reduceLeDiff, mset_same, Option.bind_some, List.length_map, Prod.mk.injEq, at0, at1, at2, at3, at4, at5, at6, at7, ix30, ix31, ix32, ix20, ix21, ix10, isi_ii, isi_ib, isi_ll, isi_bb, isi_ss, isi_tt, isi_is, isi_si, Bool.not_true, Bool.not_false, dCopyK, dGet2K, dDctR, dDisp1, dFrzEK])
local macro_rules | `(tactic| walk_at "zS") => `(tactic| try simp only [dSeq, dIfS, dTest, dOp, dVar, dC, dCB, daCons, daNil, dSet, dRet, dNext, dDrop, dAsg, dPar, dAug, dAddI, dBreak, dCont, dRetN, slot, dLen, dCmpI, dSub, dAdd, dMul, dDiv, dMod, dPow, dNeg, dUn, dIx, dInt1, dAbs, dChain, dAnd, dOr, dNot, dAndV, dOrV, dNotV, dTru, dTruB, dIf, dTup, dLst, mkL, dSlice, dSl, doNone, doSome, dSum, dAll, dAny, dList, dTuple, dMax, dMin, eq_ii, ne_ii, eq_ss, ne_ss, eq_bb, ne_bb, eq_nn, ne_nn, dIsN, dNotN, dFgt, dIsB, dNotB, gN, gT, gsNil, gsCons, gSet, dBM, dAppend, dClear, dFld, dFldS, dProp, dCall, dMeth, dMake, dMakeN, daStar, dDictP, dCallO, dFor, dLc, diR1, diR2, diR3, diL, diT, diRv, diS, diE, dFmt, dFStr, dJs, dCallN, dFrzE, frz_l, in_ss, notin_ss, drR1, drR2, dListR, dRaise, dRaise0, dTryAs, dTry, dXf, dAddO, dInO, isL, insOf, Option.some.injEq, List.cons.injEq, D.int.injEq, D.bl.injEq, D.str.injEq, D.lst.injEq, D.tup.injEq, D.ref.injEq, MO.lst.injEq, MO.ins.injEq, mset_mset, and_true, true_and, and_self, and_assoc, exists_eq_left', exists_eq_left, exists_and_left, exists_and_right, exists_eq', List.set_cons_zero, List.set_cons_succ, decide_eq_true_eq, sqOf, lsOf, List.length_cons, List.length_nil, sizeLine_eq, List.append_nil, List.cons_append, List.nil_append, if_true, if_false, Bool.false_eq_true, reduceCtorEq, reduceIte, Nat.reduceAdd, Nat.reduceLeDiff, mset_same, Option.bind_some, List.length_map, Prod.mk.injEq, at0, at1, at2, at3, at4, at5, at6, at7, ix30, ix31, ix32, ix20, ix21, ix10, isi_ii, isi_ib, isi_ll, isi_bb, isi_ss, isi_tt, isi_is, isi_si, Bool.not_true, Bool.not_false, dCopyK, dGet2K, dDctR, dDisp1, dFrzEK])
local macro_rules | `(tactic| walk_at "zn") => `(tactic| ((try simp only [dSeq]); (try simp only [dIfS, dTest, dOp, dVar, dC, dCB, daCons, daNil, dSet, dRet, dNext, dDrop, dAsg, dPar, dAug, dAddI, dBreak, dCont, dRetN, slot, dLen, dCmpI, dSub, dAdd, dMul, dDiv, dMod, dPow, dNeg, dUn, dIx, dInt1, dAbs, dChain, dAnd, dOr, dNot, dAndV, dOrV, dNotV, dTru, dTruB, dIf, dTup, dLst, mkL, dSlice, dSl, doNone, doSome, dSum, dAll, dAny, dList, dTuple, dMax, dMin, eq_ii, ne_ii, eq_ss, ne_ss, eq_bb, ne_bb, eq_nn, ne_nn, dIsN, dNotN, dFgt, dIsB, dNotB, gN, gT, gsNil, gsCons, gSet, dBM, dAppend, dClear, dFld, dFldS, dProp, dCall, dMeth, dMake, dMakeN, daStar, dDictP, dCallO, dFor, dLc, diR1, diR2, diR3, diL, diT, diRv, diS, diE, dFmt, dFStr, dJs, dCallN, dFrzE, frz_l, in_ss, notin_ss, drR1, drR2, dListR, dRaise, dRaise0, dTryAs, dTry, dXf, dAddO, dInO, isL, insOf, Option.some.injEq, List.cons.injEq, D.int.injEq, D.bl.injEq, D.str.injEq, D.lst.injEq, D.tup.injEq, D.ref.injEq, MO.lst.injEq, MO.ins.injEq, mset_mset, and_true, true_and, and_self, and_assoc, exists_eq_left', exists_eq_left, exists_and_left, exists_and_right, exists_eq', List.set_cons_zero, List.set_cons_succ, decide_eq_true_eq, sqOf, lsOf, List.length_cons, List.length_nil, sizeLine_eq, List.append_nil, List.cons_append, List.nil_append, if_true, if_false, Bool.false_eq_true, reduceCtorEq, reduceIte, Nat.reduceAdd, Nat.reduceLeDiff, mset_same, Option.bind_some, List.length_map, Prod.mk.injEq, at0, at1, at2, at3, at4, at5, at6, at7, ix30, ix31, ix32, ix20, ix21, ix10, isi_ii, isi_ib, isi_ll, isi_bb, isi_ss, isi_tt, isi_is, isi_si, Bool.not_true, Bool.not_false, dCopyK, dGet2K, dDctR, dDisp1, dFrzEK])))
set_option hygiene false
local macro_rules | `(tactic| walk_at "z0") => `(tactic| try simp only [dIfS, dTest, dOp, dVar, dC, dCB, daCons, daNil, dSet, dRet, dNext, dDrop, dAsg, dPar, dAug, dAddI, dBreak, dCont, dRetN, slot, dLen, dCmpI, dSub, dAdd, dMul, dDiv, dMod, dPow, dNeg, dUn, dIx, dInt1, dAbs, dChain, dAnd, dOr, dNot, dAndV, dOrV, dNotV, dTru, dTruB, dIf, dTup, dLst, mkL, dSlice, dSl, doNone, doSome, dSum, dAll, dAny, dList, dTuple, dMax, dMin, eq_ii, ne_ii, eq_ss, ne_ss, eq_bb, ne_bb, eq_nn, ne_nn, dIsN, dNotN, dFgt, dIsB, dNotB, gN, gT, gsNil, gsCons, gSet, dBM, dAppend, dClear, dFld, dFldS, dProp, dCall, dMeth, dMake, dMakeN, daStar, dDictP, dCallO, dFor, dLc, diR1, diR2, diR3, diL, diT, diRv, diS, diE, dFmt, dFStr, dJs, dCallN, dFrzE, frz_l, in_ss, notin_ss, drR1, drR2, dListR, dRaise, dRaise0, dTryAs, dTry, dXf, dAddO, dInO, isL, insOf, Option.some.injEq, List.cons.injEq, D.int.injEq, D.bl.injEq, D.str.injEq, D.lst.injEq, D.tup.injEq, D.ref.injEq, MO.lst.injEq, MO.ins.injEq, mset_mset, and_true, true_and, and_self, and_assoc, exists_eq_left', exists_eq_left, exists_and_left, exists_and_right, exists_eq', List.set_cons_zero, List.set_cons_succ, decide_eq_true_eq, sqOf, lsOf, List.length_cons, List.length_nil, sizeLine_eq, List.append_nil, List.cons_append, List.nil_append, if_true, if_false, Bool.false_eq_true, reduceCtorEq, reduceIte, Nat.reduceAdd, Nat.reduceLeDiff, mset_same, Option.bind_some, List.length_map, Prod.mk.injEq, at0, at1, at2, at3, at4, at5, at6, at7, ix30, ix31, ix32, ix20, ix21, ix10, isi_ii, isi_ib, isi_ll, isi_bb, isi_ss, isi_tt, isi_is, isi_si, Bool.not_true, Bool.not_false, dCopyK, dGet2K, dDctR, dDisp1, dFrzEK, dMakeX, dMakeX0])
local macro_rules | `(tactic| walk_at "z1") => `(tactic| try simp only [dIfS, dTest, dOp, dVar, dC, dCB, daCons, daNil, dSet, dRet, dNext, dDrop, dAsg, dPar, dAug, dAddI, dBreak, dCont, dRetN, slot, dLen, dCmpI, dSub, dAdd, dMul, dDiv, dMod, dPow, dNeg, dUn, dIx, dInt1, dAbs, dChain, dAnd, dOr, dNot, dAndV, dOrV, dNotV, dTru, dTruB, dIf, dTup, dLst, mkL, dSlice, dSl, doNone, doSome, dSum, dAll, dAny, dList, dTuple, dMax, dMin, eq_ii, ne_ii, eq_ss, ne_ss, eq_bb, ne_bb, eq_nn, ne_nn, dIsN, dNotN, dFgt, dIsB, dNotB, gN, gT, gsNil, gsCons, gSet, dBM, dAppend, dClear, dFld, dFldS, dProp, dCall, dMeth, dMake, dMakeN, daStar, dDictP, dCallO, dFor, dLc, diR1, diR2, diR3, diL, diT, diRv, diS, diE, dFmt, dFStr, dJs, dCallN, dFrzE, frz_l, in_ss, notin_ss, drR1, drR2, dListR, dRaise, dRaise0, dTryAs, dTry, dXf, dAddO, dInO, isL, insOf, Option.some.injEq, List.cons.injEq, D.int.injEq, D.bl.injEq, D.str.injEq, D.lst.injEq, D.tup.injEq, D.ref.injEq, MO.lst.injEq, MO.ins.injEq, mset_mset, and_true, true_and, and_self, and_assoc, exists_eq_left', exists_eq_left, exists_and_left, exists_and_right, exists_eq', List.set_cons_zero, List.set_cons_succ, decide_eq_true_eq, sqOf, lsOf, List.length_cons, List.length_nil, sizeLine_eq, List.append_nil, List.cons_append, List.nil_append, if_true, if_false, Bool.false_eq_true, reduceCtorEq, reduceIte, Nat.reduceAdd, Nat.reduceLeDiff, mset_same, Option.bind_some, List.length_map, Prod.mk.injEq, at0, at1, at2, at3, at4, at5, at6, at7, ix30, ix31, ix32, ix20, ix21, ix10, isi_ii, isi_ib, isi_ll, isi_bb, isi_ss, isi_tt, isi_is, isi_si, Bool.not_true, Bool.not_false, dCopyK, dGet2K, dDctR, dDisp1, dFrzEK, pm_a, pm_wa])
local macro_rules | `(tactic| walk_at "z2") => `(tactic| try simp only [dIfS, dTest, dOp, dVar, dC, dCB, daCons, daNil, dSet, dRet, dNext, dDrop, dAsg, dPar, dAug, dAddI, dBreak, dCont, dRetN, slot, dLen, dCmpI, dSub, dAdd, dMul, dDiv, dMod, dPow, dNeg, dUn, dIx, dInt1, dAbs, dChain, dAnd, dOr, dNot, dAndV, dOrV, dNotV, dTru, dTruB, dIf, dTup, dLst, mkL, dSlice, dSl, doNone, doSome, dSum, dAll, dAny, dList, dTuple, dMax, dMin, eq_ii, ne_ii, eq_ss, ne_ss, eq_bb, ne_bb, eq_nn, ne_nn, dIsN, dNotN, dFgt, dIsB, dNotB, gN, gT, gsNil, gsCons, gSet, dBM, dAppend, dClear, dFld, dFldS, dProp, dCall, dMeth, dMake, dMakeN, daStar, dDictP, dCallO, dFor, dLc, diR1, diR2, diR3, diL, diT, diRv, diS, diE, dFmt, dFStr, dJs, dCallN, dFrzE, frz_l, in_ss, notin_ss, drR1, drR2, dListR, dRaise, dRaise0, dTryAs, dTry, dXf, dAddO, dInO, isL, insOf, Option.some.injEq, List.cons.injEq, D.int.injEq, D.bl.injEq, D.str.injEq, D.lst.injEq, D.tup.injEq, D.ref.injEq, MO.lst.injEq, MO.ins.injEq, mset_mset, and_true, true_and, and_self, and_assoc, exists_eq_left', exists_eq_left, exists_and_left, exists_and_right, exists_eq', List.set_cons_zero, List.set_cons_succ, decide_eq_true_eq, sqOf, lsOf, List.length_cons, List.length_nil, sizeLine_eq, List.append_nil, List.cons_append, List.nil_append, if_true, if_false, Bool.false_eq_true, reduceCtorEq, reduceIte, Nat.reduceAdd, Nat.reduceLeDiff, mset_same, Option.bind_some, List.length_map, Prod.mk.injEq, at0, at1, at2, at3, at4, at5, at6, at7, ix30, ix31, ix32, ix20, ix21, ix10, isi_ii, isi_ib, isi_ll, isi_bb, isi_ss, isi_tt, isi_is, isi_si, Bool.not_true, Bool.not_false, dCopyK, dGet2K, dDctR, dDisp1, dFrzEK, eb, e0])
local macro_rules | `(tactic| walk_at "z3") => `(tactic| try simp only [dIfS, dTest, dOp, dVar, dC, dCB, daCons, daNil, dSet, dRet, dNext, dDrop, dAsg, dPar, dAug, dAddI, dBreak, dCont, dRetN, slot, dLen, dCmpI, dSub, dAdd, dMul, dDiv, dMod, dPow, dNeg, dUn, dIx, dInt1, dAbs, dChain, dAnd, dOr, dNot, dAndV, dOrV, dNotV, dTru, dTruB, dIf, dTup, dLst, mkL, dSlice, dSl, doNone, doSome, dSum, dAll, dAny, dList, dTuple, dMax, dMin, eq_ii, ne_ii, eq_ss, ne_ss, eq_bb, ne_bb, eq_nn, ne_nn, dIsN, dNotN, dFgt, dIsB, dNotB, gN, gT, gsNil, gsCons, gSet, dBM, dAppend, dClear, dFld, dFldS, dProp, dCall, dMeth, dMake, dMakeN, daStar, dDictP, dCallO, dFor, dLc, diR1, diR2, diR3, diL, diT, diRv, diS, diE, dFmt, dFStr, dJs, dCallN, dFrzE, frz_l, in_ss, notin_ss, drR1, drR2, dListR, dRaise, dRaise0, dTryAs, dTry, dXf, dAddO, dInO, isL, insOf, Option.some.injEq, List.cons.injEq, D.int.injEq, D.bl.injEq, D.str.injEq, D.lst.injEq, D.tup.injEq, D.ref.injEq, MO.lst.injEq, MO.ins.injEq, mset_mset, and_true, true_and, and_self, and_assoc, exists_eq_left', exists_eq_left, exists_and_left, exists_and_right, exists_eq', List.set_cons_zero, List.set_cons_succ, decide_eq_true_eq, sqOf, lsOf, List.length_cons, List.length_nil, sizeLine_eq, List.append_nil, List.cons_append, List.nil_append, if_true, if_false, Bool.false_eq_true, reduceCtorEq, reduceIte, Nat.reduceAdd, Nat.reduceLeDiff, mset_same, Option.bind_some, List.length_map, Prod.mk.injEq, at0, at1, at2, at3, at4, at5, at6, at7, ix30, ix31, ix32, ix20, ix21, ix10, isi_ii, isi_ib, isi_ll, isi_bb, isi_ss, isi_tt, isi_is, isi_si, Bool.not_true, Bool.not_false, dCopyK, dGet2K, dDctR, dDisp1, dFrzEK, pm_a])
local macro_rules | `(tactic| walk_at "z4") => `(tactic| try simp only [dIfS, dTest, dOp, dVar, dC, dCB, daCons, daNil, dSet, dRet, dNext, dDrop, dAsg, dPar, dAug, dAddI, dBreak, dCont, dRetN, slot, dLen, dCmpI, dSub, dAdd, dMul, dDiv, dMod, dPow, dNeg, dUn, dIx, dInt1, dAbs, dChain, dAnd, dOr, dNot, dAndV, dOrV, dNotV, dTru, dTruB, dIf, dTup, dLst, mkL, dSlice, dSl, doNone, doSome, dSum, dAll, dAny, dList, dTuple, dMax, dMin, eq_ii, ne_ii, eq_ss, ne_ss, eq_bb, ne_bb, eq_nn, ne_nn, dIsN, dNotN, dFgt, dIsB, dNotB, gN, gT, gsNil, gsCons, gSet, dBM, dAppend, dClear, dFld, dFldS, dProp, dCall, dMeth, dMake, dMakeN, daStar, dDictP, dCallO, dFor, dLc, diR1, diR2, diR3, diL, diT, diRv, diS, diE, dFmt, dFStr, dJs, dCallN, dFrzE, frz_l, in_ss, notin_ss, drR1, drR2, dListR, dRaise, dRaise0, dTryAs, dTry, dXf, dAddO, dInO, isL, insOf, Option.some.injEq, List.cons.injEq, D.int.injEq, D.bl.injEq, D.str.injEq, D.lst.injEq, D.tup.injEq, D.ref.injEq, MO.lst.injEq, MO.ins.injEq, mset_mset, and_true, true_and, and_self, and_assoc, exists_eq_left', exists_eq_left, exists_and_left, exists_and_right, exists_eq', List.set_cons_zero, List.set_cons_succ, decide_eq_true_eq, sqOf, lsOf, List.length_cons, List.length_nil, sizeLine_eq, List.append_nil, List.cons_append, List.nil_append, if_true, if_false, Bool.false_eq_true, reduceCtorEq, reduceIte, Nat.reduceAdd, Nat.reduceLeDiff, mset_same, Option.bind_some, List.length_map, Prod.mk.injEq, at0, at1, at2, at3, at4, at5, at6, at7, ix30, ix31, ix32, ix20, ix21, ix10, isi_ii, isi_ib, isi_ll, isi_bb, isi_ss, isi_tt, isi_is, isi_si, Bool.not_true, Bool.not_false, dCopyK, dGet2K, dDctR, dDisp1, dFrzEK, dXv])
local macro_rules | `(tactic| walk_at "z5") => `(tactic| try simp only [dIfS, dTest, dOp, dVar, dC, dCB, daCons, daNil, dSet, dRet, dNext, dDrop, dAsg, dPar, dAug, dAddI, dBreak, dCont, dRetN, slot, dLen, dCmpI, dSub, dAdd, dMul, dDiv, dMod, dPow, dNeg, dUn, dIx, dInt1, dAbs, dChain, dAnd, dOr, dNot, dAndV, dOrV, dNotV, dTru, dTruB, dIf, dTup, dLst, mkL, dSlice, dSl, doNone, doSome, dSum, dAll, dAny, dList, dTuple, dMax, dMin, eq_ii, ne_ii, eq_ss, ne_ss, eq_bb, ne_bb, eq_nn, ne_nn, dIsN, dNotN, dFgt, dIsB, dNotB, gN, gT, gsNil, gsCons, gSet, dBM, dAppend, dClear, dFld, dFldS, dProp, dCall, dMeth, dMake, dMakeN, daStar, dDictP, dCallO, dFor, dLc, diR1, diR2, diR3, diL, diT, diRv, diS, diE, dFmt, dFStr, dJs, dCallN, dFrzE, frz_l, in_ss, notin_ss, drR1, drR2, dListR, dRaise, dRaise0, dTryAs, dTry, dXf, dAddO, dInO, isL, insOf, Option.some.injEq, List.cons.injEq, D.int.injEq, D.bl.injEq, D.str.injEq, D.lst.injEq, D.tup.injEq, D.ref.injEq, MO.lst.injEq, MO.ins.injEq, mset_mset, and_true, true_and, and_self, and_assoc, exists_eq_left', exists_eq_left, exists_and_left, exists_and_right, exists_eq', List.set_cons_zero, List.set_cons_succ, decide_eq_true_eq, sqOf, lsOf, List.length_cons, List.length_nil, sizeLine_eq, List.append_nil, List.cons_append, List.nil_append, if_true, if_false, Bool.false_eq_true, reduceCtorEq, reduceIte, Nat.reduceAdd, Nat.reduceLeDiff, mset_same, Option.bind_some, List.length_map, Prod.mk.injEq, at0, at1, at2, at3, at4, at5, at6, at7, ix30, ix31, ix32, ix20, ix21, ix10, isi_ii, isi_ib, isi_ll, isi_bb, isi_ss, isi_tt, isi_is, isi_si, Bool.not_true, Bool.not_false, dCopyK, dGet2K, dDctR, dDisp1, dFrzEK, dWk])
set_option hygiene true
theorem pm_a {a b : Addr} {s : PS} {m : M} : pm a b s m a = some (.lst [.ref b, .int s.v, .int s.k]) := mset_same
theorem pm_b {a b : Addr} {s : PS} {m : M} (h : a ≠ b) : pm a b s m b = some (.lst (s.ns.map D.int)) := by
  unfold pm
  rw [mset_ne (fun e => h e.symm), mset_same]
theorem pm_wb {a b : Addr} {s : PS} {m : M} {ns : List Int} (h : a ≠ b) : mset (pm a b s m) b (.lst (ns.map D.int)) = pm a b ⟨ns, s.v, s.k⟩ m := by
  unfold pm
  rw [mset_comm h, mset_mset]
theorem pm_wa {a b : Addr} {s : PS} {m : M} {v k : Int} : mset (pm a b s m) a (.lst [.ref b, .int v, .int k]) = pm a b ⟨s.ns, v, k⟩ m := by
  unfold pm
  rw [mset_mset]
theorem pure_law_pool {K : Fr0} {mg : Str → Option Value} (T : Txt K mg) (ds : List D) (m : M) (Q : D → M → Prop) (E : XD → M → Prop) (h : sp_law_pool K ds m Q E) : t_law_pool K (fun x _ m => E x m) { nx := fun _ m => Q .non m, rt := Q } (startD nm_law_pool ds) m := by
  obtain ⟨ns, rfl, hl, q⟩ := h
  show t_law_pool K _ _ [some (.rdl (ns.map D.int)), none, none] m
  unfold t_law_pool
  walk_at "zn"
  walk_at "zn"
  obtain ⟨P, hP⟩ : ∃ P : Nat → DSt → M → Prop, ∀ j r m', P j r m' ↔ m' = m ∧ ∃ v o2, 0 ≤ v ∧ v < 2147483647 ∧ r = [some (.rdl (ns.map D.int)), some (.int v), o2] := ⟨_, fun _ _ _ => Iff.rfl⟩
  refine ⟨P, (hP _ _ _).mpr ⟨rfl, 1, _, by omega, by omega, rfl⟩, ?_, ?_⟩
  · intro j d r m' hd hp
    obtain ⟨rfl, v, o2, v0, v1, rfl⟩ := (hP _ _ _).mp hp
    rw [List.getElem?_map] at hd
    cases e : ns[j]? with
    | none => rw [e] at hd; cases hd
    | some c =>
      rw [e] at hd
      cases hd
      walk_at "zs"
      exact ⟨mul_small (by omega), by omega, (hP _ _ _).mpr ⟨rfl, _, _, Int.emod_nonneg _ (by omega), Int.lt_of_lt_of_le (Int.emod_lt_of_pos _ (by omega)) (by omega), rfl⟩⟩
  intro r m' hp
  obtain ⟨rfl, v, o2, v0, v1, rfl⟩ := (hP _ _ _).mp hp
  walk_at "zs"
  refine lc_filter (fun d => match d with | .int c => decide ((10 : Int) ^ Int.toNat 18 ≤ c) | _ => false) (fun d => d) (by rw [sizeLine_eq]; simp; omega) (fun x hx => ?_) ?_
  · obtain ⟨c, hc, rfl⟩ := List.mem_map.mp hx
    refine ⟨_, rfl, fun Q' q' => ?_, fun _ Q' q' => ?_⟩
    · simp only [wipeD]
      walk_at "zs"
      exact ⟨⟨by omega, by omega, by decide⟩, q'⟩
    · simp only [wipeD]
      walk_at "zs"
      exact q'
  intro b hb
  walk_at "zs"
  intro a ha
  have hab : a ≠ b := fun e => by rw [e, mset_same] at ha; cases ha
  rw [mset_ne hab] at ha
  have e := q a b ⟨ns.filter fun c => decide ((10 : Int) ^ Int.toNat 18 ≤ c), v, 0⟩ ha hb ⟨hab, v0, v1, by show (0 : Int) ≤ 0; omega, by show (0 : Int) ≤ 0; omega⟩
  have e2 : List.map (fun d => d) (List.filter (fun d => match d with | .int c => decide ((10 : Int) ^ Int.toNat 18 ≤ c) | _ => false) (ns.map D.int)) = (ns.filter fun c => decide ((10 : Int) ^ Int.toNat 18 ≤ c)).map D.int := by
    rw [List.map_id'', List.filter_map]
    · rfl
    · intro x
      rfl
  rw [e2]
  exact e
theorem ixN_zero {n : Nat} : ixN (n + 1) 0 = some 0 := by
  unfold ixN
  simp
theorem seqIndex_zero {n : Nat} : seqIndex? 0 (n + 1) = some 0 := by
  unfold seqIndex?
  simp
theorem pure_law_draw {K : Fr0} {mg : Str → Option Value} (T : Txt K mg) (ds : List D) (m : M) (Q : D → M → Prop) (E : XD → M → Prop) (h : sp_law_draw K ds m Q E) : t_law_draw K (fun x _ m => E x m) { nx := fun _ m => Q .non m, rt := Q } (startD nm_law_draw ds) m := by
  obtain ⟨a, b, s, n, lim, m0, rfl, rfl, hp, hn, ⟨l1, l2⟩, q⟩ := h
  have hv0 := hp.v0
  have hv1 := hp.v1
  have hk0 := hp.k0
  have hkn := hp.kn
  show t_law_draw K _ _ [some (.ref a), some (.int lim), none, none, none, none] _
  unfold t_law_draw
  try simp only [dSeq]
  walk_at "z3"
  simp only [dSeq]
  walk_at "zs"
  refine dNe_ints (ns := s.ns) (ms := []) (lsOf_ref (pm_b hp.ne)) rfl ?_
  cases hns : s.ns with
  | nil =>
    refine ⟨_, rfl, ?_⟩
    rw [if_neg (by simp)]
    try simp only [dSeq]
    walk_at "z1"
    try simp only [dSeq]
    walk_at "z1"
    generalize hs1 : (⟨s.ns, s.v, s.k + 1⟩ : PS) = s1
    have p1 : Pl a b s1 (n + 1) := by subst hs1; exact ⟨hp.ne, hv0, hv1, by show 0 ≤ s.k + 1; omega, by show s.k + 1 ≤ n + 1; omega⟩
    have k0 := p1.k0
    have k1 := p1.kn
    have v0 := p1.v0
    have v1 := p1.v1
    refine ⟨mul_small (by omega), ⟨by omega, by omega, by omega⟩, by omega, ?_⟩
    have z0 : 0 ≤ (s1.v + 7919 * s1.k) ^ Int.toNat 5 % 2147483647 := Int.emod_nonneg _ (by omega)
    have z1 : (s1.v + 7919 * s1.k) ^ Int.toNat 5 % 2147483647 < 2147483647 := Int.emod_lt_of_pos _ (by omega)
    generalize (s1.v + 7919 * s1.k) ^ Int.toNat 5 % 2147483647 = z at *
    try simp only [dSeq]
    walk_at "z3"
    refine ⟨mul_small (by omega), by omega, ?_⟩
    have y0 : 0 ≤ (z * 48271 + s1.v) % 2147483629 := Int.emod_nonneg _ (by omega)
    generalize (z * 48271 + s1.v) % 2147483629 = y at *
    walk_at "zs"
    exact ⟨div_ok (by omega) (by omega), by omega, q _ _ (Int.emod_nonneg _ (by omega)) (Int.emod_lt_of_pos _ (by omega)) p1⟩
  | cons c rest =>
    have eb := pm_b (s := s) (m := m0) hp.ne
    rw [hns, List.map_cons] at eb
    refine ⟨_, rfl, ?_⟩
    rw [if_pos (by simp)]
    have e0 : ∀ x : D, atI (x :: rest.map D.int) 0 = some x := fun x => atI_nat (j := 0) rfl
    try simp only [dSeq]
    walk_at "z2"
    refine ⟨by omega, ?_⟩
    try simp only [dSeq]
    walk_at "z2"
    refine ⟨wide_div (by omega) l2 (by decide) (by decide), 0, ixN_zero, ?_⟩
    have ew : mset (pm a b s m0) b (.lst (D.int (c / lim) :: rest.map D.int)) = pm a b ⟨c / lim :: rest, s.v, s.k⟩ m0 := by rw [← List.map_cons]; exact pm_wb hp.ne
    have eb2 := pm_b (s := ⟨c / lim :: rest, s.v, s.k⟩) (m := m0) hp.ne
    rw [List.map_cons] at eb2
    have r0 : 0 ≤ c % lim := Int.emod_nonneg _ (by omega)
    have r1 : c % lim < lim := Int.emod_lt_of_pos _ (by omega)
    try simp only [dSeq]
    try simp only [dIfS, dTest, dOp, dVar, dC, dCB, daCons, daNil, dSet, dRet, dNext, dDrop, dAsg, dPar, dAug, dAddI, dBreak, dCont, dRetN, slot, dLen, dCmpI, dSub, dAdd, dMul, dDiv, dMod, dPow, dNeg, dUn, dIx, dInt1, dAbs, dChain, dAnd, dOr, dNot, dAndV, dOrV, dNotV, dTru, dTruB, dIf, dTup, dLst, mkL, dSlice, dSl, doNone, doSome, dSum, dAll, dAny, dList, dTuple, dMax, dMin, eq_ii, ne_ii, eq_ss, ne_ss, eq_bb, ne_bb, eq_nn, ne_nn, dIsN, dNotN, dFgt, dIsB, dNotB, gN, gT, gsNil, gsCons, gSet, dBM, dAppend, dClear, dFld, dFldS, dProp, dCall, dMeth, dMake, dMakeN, daStar, dDictP, dCallO, dFor, dLc, diR1, diR2, diR3, diL, diT, diRv, diS, diE, dFmt, dFStr, dJs, dCallN, dFrzE, frz_l, in_ss, notin_ss, drR1, drR2, dListR, dRaise, dRaise0, dTryAs, dTry, dXf, dAddO, dInO, isL, insOf, Option.some.injEq, List.cons.injEq, D.int.injEq, D.bl.injEq, D.str.injEq, D.lst.injEq, D.tup.injEq, D.ref.injEq, MO.lst.injEq, MO.ins.injEq, mset_mset, and_true, true_and, and_self, and_assoc, exists_eq_left', exists_eq_left, exists_and_left, exists_and_right, exists_eq', List.set_cons_zero, List.set_cons_succ, decide_eq_true_eq, sqOf, lsOf, List.length_cons, List.length_nil, sizeLine_eq, List.append_nil, List.cons_append, List.nil_append, if_true, if_false, Bool.false_eq_true, reduceCtorEq, reduceIte, Nat.reduceAdd, Nat.reduceLeDiff, mset_same, Option.bind_some, List.length_map, Prod.mk.injEq, at0, at1, at2, at3, at4, at5, at6, at7, ix30, ix31, ix32, ix20, ix21, ix10, isi_ii, isi_ib, isi_ll, isi_bb, isi_ss, isi_tt, isi_is, isi_si, Bool.not_true, Bool.not_false, dCopyK, dGet2K, dDctR, dDisp1, dFrzEK, ew, eb2, e0]
    by_cases hz : c / lim = 0
    · rw [if_pos hz]
      try simp only [dIfS, dTest, dOp, dVar, dC, dCB, daCons, daNil, dSet, dRet, dNext, dDrop, dAsg, dPar, dAug, dAddI, dBreak, dCont, dRetN, slot, dLen, dCmpI, dSub, dAdd, dMul, dDiv, dMod, dPow, dNeg, dUn, dIx, dInt1, dAbs, dChain, dAnd, dOr, dNot, dAndV, dOrV, dNotV, dTru, dTruB, dIf, dTup, dLst, mkL, dSlice, dSl, doNone, doSome, dSum, dAll, dAny, dList, dTuple, dMax, dMin, eq_ii, ne_ii, eq_ss, ne_ss, eq_bb, ne_bb, eq_nn, ne_nn, dIsN, dNotN, dFgt, dIsB, dNotB, gN, gT, gsNil, gsCons, gSet, dBM, dAppend, dClear, dFld, dFldS, dProp, dCall, dMeth, dMake, dMakeN, daStar, dDictP, dCallO, dFor, dLc, diR1, diR2, diR3, diL, diT, diRv, diS, diE, dFmt, dFStr, dJs, dCallN, dFrzE, frz_l, in_ss, notin_ss, drR1, drR2, dListR, dRaise, dRaise0, dTryAs, dTry, dXf, dAddO, dInO, isL, insOf, Option.some.injEq, List.cons.injEq, D.int.injEq, D.bl.injEq, D.str.injEq, D.lst.injEq, D.tup.injEq, D.ref.injEq, MO.lst.injEq, MO.ins.injEq, mset_mset, and_true, true_and, and_self, and_assoc, exists_eq_left', exists_eq_left, exists_and_left, exists_and_right, exists_eq', List.set_cons_zero, List.set_cons_succ, decide_eq_true_eq, sqOf, lsOf, List.length_cons, List.length_nil, sizeLine_eq, List.append_nil, List.cons_append, List.nil_append, if_true, if_false, Bool.false_eq_true, reduceCtorEq, reduceIte, Nat.reduceAdd, Nat.reduceLeDiff, mset_same, Option.bind_some, List.length_map, Prod.mk.injEq, at0, at1, at2, at3, at4, at5, at6, at7, ix30, ix31, ix32, ix20, ix21, ix10, isi_ii, isi_ib, isi_ll, isi_bb, isi_ss, isi_tt, isi_is, isi_si, Bool.not_true, Bool.not_false, dCopyK, dGet2K, dDctR, dDisp1, dFrzEK, eb2, dPopAt]
      refine ⟨by omega, by omega, 0, seqIndex_zero, ⟨_, rfl⟩, ?_⟩
      rw [show (D.int (c / lim) :: rest.map D.int).eraseIdx 0 = rest.map D.int from rfl, pm_wb hp.ne]
      exact q _ _ r0 r1 ⟨hp.ne, hv0, hv1, hk0, by show s.k ≤ n + 1; omega⟩
    · rw [if_neg hz]
      walk_at "zs"
      exact q _ _ r0 r1 ⟨hp.ne, hv0, hv1, hk0, by show s.k ≤ n + 1; omega⟩
theorem draw_p {K : Fr0} {a b : Addr} {s : PS} {n lim : Int} {m0 : M} {Q : D → M → Prop} {E : XD → M → Prop} (hp : Pl a b s n) (hn : n ≤ 1000000000000) (l1 : 1 ≤ lim) (l2 : lim.natAbs < 2 ^ 200) (h : ∀ r s', 0 ≤ r → r < lim → Pl a b s' (n + 1) → Q (.int r) (pm a b s' m0)) : sp_law_draw K [.ref a, .int lim] (pm a b s m0) Q E :=
  ⟨a, b, s, n, lim, m0, rfl, rfl, hp, hn, ⟨l1, l2⟩, h⟩
def chL (c : Nat) : Bool := inS LETTERS ⟨#[c]⟩
def chOk (c : Nat) : Bool := inS LETTERS ⟨#[c]⟩ || inS SIGNS ⟨#[c]⟩
structure NmL (cs : List Nat) : Prop where
  le : cs.length ≤ 12
  hd : ∃ c r, cs = c :: r ∧ chL c = true
  all : ∀ c ∈ cs, chOk c = true
theorem cps_app (x y : Str) : (x ++ y).cps.toList = x.cps.toList ++ y.cps.toList := by
  show (x.cps ++ y.cps).toList = _
  simp
theorem cps_join : ∀ ys : List Str, (PySem.Txt.join ("" : Str) ys).cps.toList = (ys.map fun y => y.cps.toList).flatten := by
  intro ys
  rw [TL.join_eq]
  have e : ("" : Str) = ⟨#[]⟩ := by decide +kernel
  rw [e]
  induction ys with
  | nil => rfl
  | cons y ys ih =>
    rw [PyProof.Rows.join_nil_cons, cps_app, ih]
    rfl
theorem lc_steps {c : CT} {vs : List Nat} {te : DTE} {r : DSt} (N : Nat) (hN : N ≤ sizeLine) (P : List D → M → Prop) : ∀ {xs acc : List D} {m : M} {Q : List D → M → Prop}, acc.length + xs.length = N → P acc m → (∀ x ∈ xs, ∀ acc m, acc.length < N → P acc m → ∃ r2, ctD c x (wipeD r vs) = some r2 ∧ ∀ Q' : D → M → Prop, (∀ y m2, P (acc ++ [y]) m2 → Q' y m2) → te r2 m Q') →
    (∀ acc' m', acc'.length = N → P acc' m' → Q acc' m') → dLcL c vs dYes te xs acc r m Q
  | [], acc, m, Q, hz, p, _, q => q acc m (by simpa using hz) p
  | x :: xs, acc, m, Q, hz, p, h, q => by
    rw [List.length_cons] at hz
    obtain ⟨r2, e, t⟩ := h x List.mem_cons_self acc m (by omega) p
    refine ⟨r2, e, ?_⟩
    simp only [dYes, if_true]
    refine t _ (fun y m2 p2 => ⟨by omega, ?_⟩)
    exact lc_steps N hN P (by rw [List.length_append]; simp; omega) p2 (fun y hy => h y (List.mem_cons_of_mem _ hy)) q
theorem join_chars : ∀ cs : List Nat, (PySem.Txt.join ("" : Str) (cs.map fun c => (⟨#[c]⟩ : Str))).cps.toList = cs := by
  intro cs
  rw [cps_join, List.map_map]
  induction cs with
  | nil => rfl
  | cons x xs ih =>
    rw [List.map_cons, List.flatten_cons, ih]
    rfl
theorem sub_new {m m0 : M} {x : Addr} {ob : MO} (h : MSub m m0) (n : m0 x = none) : MSub m (mset m0 x ob) := fun a o e => by
  by_cases hx : a = x
  · subst hx
    have := h _ _ e
    rw [n] at this
    cases this
  · rw [mset_ne hx]
    exact h _ _ e
def WRD : Str := "abcXYZ 01_-.!?"
theorem wrd_len : WRD.cps.toList.length = 14 := by decide +kernel
theorem wrd_ok : ∀ i : Nat, i < 14 → WRD.cps.toList.getD i 0 < 128 := by decide +kernel
theorem wrd_at {i : Int} (h0 : 0 ≤ i) (h1 : i < 14) : ∃ c, atI WRD.cps.toList i = some c ∧ c < 128 := by
  obtain ⟨k, rfl⟩ : ∃ k : Nat, i = k := ⟨i.toNat, by omega⟩
  have hk : k < WRD.cps.toList.length := by rw [wrd_len]; omega
  refine ⟨WRD.cps.toList.getD k 0, atI_nat ?_, wrd_ok k (by omega)⟩
  rw [List.getD_eq_getElem?_getD, List.getElem?_eq_getElem hk]
  rfl
theorem mul_big {x : Int} (h0 : 0 ≤ x) (h1 : x < 10 ^ Int.toNat 9) : DL.MulOk x (10 ^ Int.toNat 21) := mul_smallL ⟨by omega, by have : x < 1000000000 := h1; omega⟩
theorem pure_law_simple {K : Fr0} {mg : Str → Option Value} (T : Txt K mg) (ds : List D) (m : M) (Q : D → M → Prop) (E : XD → M → Prop) (h : sp_law_simple K ds m Q E) : t_law_simple K (fun x _ m => E x m) { nx := fun _ m => Q .non m, rt := Q } (startD nm_law_simple ds) m := by
  obtain ⟨a, b, s, n, m0, rfl, rfl, hp, hn, q⟩ := h
  show t_law_simple K _ _ [some (.ref a), none, none, none] _
  unfold t_law_simple
  walk_at "zn"
  refine draw_p hp (by omega) (by omega) (by omega) (fun r s1 r0 r1 p1 => ?_)
  walk_at "zn"
  walk_at "zn"
  by_cases h0 : r = 0
  · rw [if_pos h0]
    walk_at "zs"
    refine draw_p p1 (by omega) (by omega) (by omega) (fun r2 s2 r20 r21 p2 => ?_)
    rcases (show r2 = 0 ∨ r2 = 1 ∨ r2 = 2 ∨ r2 = 3 by omega) with rfl | rfl | rfl | rfl
    · exact ⟨_, rfl, _, rfl, q .non s2 (.inl rfl) (p2.up (by omega))⟩
    · exact ⟨_, rfl, _, rfl, q (.bl true) s2 (.inr (.inl ⟨_, rfl⟩)) (p2.up (by omega))⟩
    · exact ⟨_, rfl, _, rfl, q (.bl false) s2 (.inr (.inl ⟨_, rfl⟩)) (p2.up (by omega))⟩
    · exact ⟨_, rfl, _, rfl, q (.int 0) s2 (.inr (.inr (.inl ⟨_, rfl⟩))) (p2.up (by omega))⟩
  rw [if_neg h0]
  walk_at "zn"
  by_cases h1 : r = 1
  · rw [if_pos h1]
    walk_at "zs"
    refine ⟨⟨by omega, by omega, by decide⟩, draw_p p1 (by omega) (by decide) (by decide) (fun x s2 x0 x1 p2 => ?_)⟩
    refine ⟨⟨by omega, by omega, by decide⟩, mul_big x0 x1, ?_⟩
    refine ⟨⟨by omega, by omega, by decide⟩, draw_p p2 (by omega) (by decide) (by decide) (fun y s3 y0 y1 p3 => ?_)⟩
    exact q _ s3 (.inr (.inr (.inl ⟨_, rfl⟩))) (p3.up (by omega))
  rw [if_neg h1]
  walk_at "zn"
  by_cases h2 : r = 2
  · rw [if_pos h2]
    walk_at "zs"
    refine ⟨⟨by omega, by omega, by decide⟩, draw_p p1 (by omega) (by decide) (by decide) (fun x s2 x0 x1 p2 => ?_)⟩
    exact q _ s2 (.inr (.inr (.inl ⟨_, rfl⟩))) (p2.up (by omega))
  rw [if_neg h2]
  walk_at "zs"
  refine ⟨⟨_, rfl⟩, draw_p p1 (by omega) (by decide) (by decide) (fun j s2 j0 j1 p2 => ?_)⟩
  refine ⟨j, rfl, by omega, by omega, ?_⟩
  obtain ⟨P, hP⟩ : ∃ P : List D → M → Prop, ∀ acc m', P acc m' ↔ ∃ (cs : List Nat) (s' : PS), acc = cs.map (fun c => D.str ⟨#[c]⟩) ∧ (∀ c ∈ cs, c < 128) ∧ Pl a b s' (n + 2 + cs.length) ∧ m' = pm a b s' m0 := ⟨_, fun _ _ => Iff.rfl⟩
  refine lc_steps j.toNat (by rw [sizeLine_eq]; omega) P (by rw [rngD_len]; simp) ((hP _ _).mpr ⟨[], s2, rfl, by simp, p2.up (by simp; omega), rfl⟩) (fun x hx acc m' hlt hp' => ?_) (fun acc m' hl hp' => ?_)
  · obtain ⟨cs, s', rfl, hcs, p', rfl⟩ := (hP _ _).mp hp'
    rw [List.length_map] at hlt
    refine ⟨_, rfl, fun Q' q' => ?_⟩
    simp only [wipeD]
    walk_at "zs"
    rw [show (("abcXYZ 01_-.!?" : Str).length : Int) = 14 by decide +kernel]
    refine ⟨by decide +kernel, draw_p (lim := 14) p' (by omega) (by omega) (by omega) (fun j s3 j0 j1 p3 => ?_)⟩
    walk_at "zs"
    obtain ⟨c', hc', c1'⟩ := wrd_at j0 (by omega)
    refine ⟨by decide +kernel, c', hc', q' _ _ ((hP _ _).mpr ⟨cs ++ [c'], s3, by simp, fun y hy => ?_, p3.up (by simp; omega), rfl⟩)⟩
    rcases List.mem_append.mp hy with hy | hy
    · exact hcs y hy
    · rw [List.mem_singleton.mp hy]; exact c1'
  obtain ⟨cs, s', rfl, hcs, p', rfl⟩ := (hP _ _).mp hp'
  rw [List.length_map] at hl
  refine ⟨_, _, cs.map (fun c => ⟨#[c]⟩), rfl, rfl, by simp [sqOf, lsOf], ?_, ?_⟩
  · have e : (List.map (fun x => x.length) (List.map (fun c => (⟨#[c]⟩ : Str)) cs)) = List.replicate cs.length 1 := by
      rw [List.map_map]
      exact List.map_const' ..
    rw [e, show ("" : Str).length = 0 by decide +kernel]
    simp
    omega
  refine q _ s' (.inr (.inr (.inr ⟨_, rfl, ?_⟩))) (p'.up (by omega))
  have ej := join_chars cs
  unfold PyData.strOk
  rw [← Array.all_toList, ej]
  exact List.all_eq_true.mpr fun c hc => by have := hcs c hc; simp; omega
theorem xc_of {K : Fr0} {mg : Str → Option Value} (T : Txt K mg) {p : Nat} {c : Str} (e : xNames1[p]? = some c) : ExcC K (He.ga K c) := xisA_of T.xia e
theorem pure_law_marks {K : Fr0} {mg : Str → Option Value} (T : Txt K mg) (ds : List D) (m : M) (Q : D → M → Prop) (E : XD → M → Prop) (h : sp_law_marks K ds m Q E) : t_law_marks K (fun x _ m => E x m) { nx := fun _ m => Q .non m, rt := Q } (startD nm_law_marks ds) m := by
  obtain ⟨d, p, rfl, ⟨a, ed, fs, ob, c, rfl, hm, hob, e⟩, q⟩ := h
  have hx := xc_of T e
  show t_law_marks K _ _ [some (.exn a ed fs), none] m
  unfold t_law_marks
  walk_at "zn"
  refine isv_own hm hob hx (kitA_of T.xka e (show xNames[0]? = some _ from rfl)) ?_
  refine isv_own hm hob hx (kitA_of T.xka e (show xNames[1]? = some _ from rfl)) ?_
  refine isv_own hm hob hx (kitA_of T.xka e (show xNames[2]? = some _ from rfl)) ?_
  walk_at "zn"
  refine isv_own hm hob hx (kitA_of T.xka e (show xNames[3]? = some _ from rfl)) ?_
  refine isv_own hm hob hx (kitA_of T.xka e (show xNames[4]? = some _ from rfl)) ?_
  refine isv_own hm hob hx (kitA_of T.xka e (show xNames[5]? = some _ from rfl)) ?_
  walk_at "zn"
  refine isv_own hm hob hx (kitA_of T.xka e (show xNames[6]? = some _ from rfl)) ?_
  refine isv_own hm hob hx (kitA_of T.xka e (show xNames[7]? = some _ from rfl)) ?_
  refine isv_own hm hob hx (kitA_of T.xka e (show xNames[8]? = some _ from rfl)) ?_
  walk_at "zn"
  refine isv_own hm hob hx (kitA_of T.xka e (show xNames[9]? = some _ from rfl)) ?_
  refine isv_own hm hob hx (kitA_of T.xka e (show xNames[10]? = some _ from rfl)) ?_
  refine isv_own hm hob hx (kitA_of T.xka e (show xNames[11]? = some _ from rfl)) ?_
  walk_at "zn"
  refine isv_own hm hob hx (kitA_of T.xka e (show xNames[12]? = some _ from rfl)) ?_
  refine isv_own hm hob hx (kitA_of T.xka e (show xNames[13]? = some _ from rfl)) ?_
  refine isv_own hm hob hx (kitA_of T.xka e (show xNames[14]? = some _ from rfl)) ?_
  walk_at "zn"
  refine isv_own hm hob hx (kitA_of T.xka e (show xNames[15]? = some _ from rfl)) ?_
  refine isv_own hm hob hx (kitA_of T.xka e (show xNames[16]? = some _ from rfl)) ?_
  refine isv_own hm hob hx (kitA_of T.xka e (show xNames[17]? = some _ from rfl)) ?_
  walk_at "zn"
  refine isv_own hm hob hx (kitA_of T.xka e (show xNames[18]? = some _ from rfl)) ?_
  refine isv_own hm hob hx (kitA_of T.xka e (show xNames[19]? = some _ from rfl)) ?_
  refine isv_own hm hob hx (kitA_of T.xka e (show xNames[20]? = some _ from rfl)) ?_
  walk_at "zn"
  refine isv_own hm hob hx (kitA_of T.xka e (show xNames[21]? = some _ from rfl)) ?_
  refine isv_own hm hob hx (kitA_of T.xka e (show xNames[22]? = some _ from rfl)) ?_
  refine isv_own hm hob hx (kitA_of T.xka e (show xNames[23]? = some _ from rfl)) ?_
  walk_at "zn"
  refine isv_own hm hob hx (kitA_of T.xka e (show xNames[24]? = some _ from rfl)) ?_
  refine isv_own hm hob hx (kitA_of T.xka e (show xNames[25]? = some _ from rfl)) ?_
  refine isv_own hm hob hx (kitA_of T.xka e (show xNames[26]? = some _ from rfl)) ?_
  walk_at "zn"
  refine isv_own hm hob hx (kitA_of T.xka e (show xNames[27]? = some _ from rfl)) ?_
  refine isv_own hm hob hx (kitA_of T.xka e (show xNames[28]? = some _ from rfl)) ?_
  walk_at "zn"
  exact q
theorem cnt_marks : ∀ p, p < 29 → (marks p).countP id = 1 := by decide
theorem cnt_marks0 : (marks 29).countP id = 0 := by decide
theorem at_marks {p : Nat} (h : p < 29) : atI ((marks p).map D.bl) (p : Int) = some (.bl true) := by
  refine atI_nat ?_
  rw [List.getElem?_map]
  unfold marks
  rw [List.getElem?_map, List.getElem?_range h]
  simp
theorem pure_law_own {K : Fr0} {mg : Str → Option Value} (T : Txt K mg) (ds : List D) (m : M) (Q : D → M → Prop) (E : XD → M → Prop) (h : sp_law_own K ds m Q E) : t_law_own K (fun x _ m => E x m) { nx := fun _ m => Q .non m, rt := Q } (startD nm_law_own ds) m := by
  obtain ⟨d, p, rfl, ⟨a, ed, fs, ob, c, rfl, hm, hob, e⟩, hp, q⟩ := h
  have hx := xc_of T e
  show t_law_own K _ _ [some (.exn a ed fs), some (.int p), none] m
  unfold t_law_own
  walk_at "zn"
  refine ⟨_, p, rfl, ⟨a, ed, fs, ob, c, rfl, hm, hob, e⟩, ?_⟩
  walk_at "zn"
  refine count_bls rfl ?_
  rw [cnt_marks p hp]
  walk_at "zn"
  refine ⟨_, at_marks hp, ?_⟩
  walk_at "zn"
  rw [if_neg (by simp)]
  refine isv_own hm hob hx (kitUp_of T.xkd e) ?_
  walk_at "zn"
  exact isv_ty hm hob hx (kitUpT_of T.xkv e) q
theorem smp_clR {d : D} (h : Smp d) (n : Nat) : clR n d = true := by
  rcases h with rfl | ⟨b, rfl⟩ | ⟨i, rfl⟩ | ⟨x, rfl, h⟩ <;> cases n <;> first | rfl | exact h
theorem val_clR {d : D} (h : Val d) : clR 2 d = true := by
  rcases h with h | ⟨a, b, c, rfl, ha, hb, hc⟩
  · exact smp_clR h 2
  · show (clR 1 a && ((clR 0 b && (clR 0 c && true)) && true)) = true
    rw [smp_clR ha, smp_clR hb, smp_clR hc]
    rfl
theorem val_isi {K : PySem.W.Frag} {m : M} {d : D} (h : Val d) : ∃ b : Bool, ∀ Q : D → M → Prop, Q (.bl b) m → dIsi K [d, .ty "bool"] m Q := by
  rcases h with (rfl | ⟨b, rfl⟩ | ⟨i, rfl⟩ | ⟨x, rfl, h⟩) | ⟨a, b, c, rfl, ha, hb, hc⟩
  · exact ⟨false, fun Q q => (isi_ty rfl rfl).mpr q⟩
  · exact ⟨true, fun Q q => (isi_ty rfl rfl).mpr q⟩
  · exact ⟨false, fun Q q => (isi_ty rfl rfl).mpr q⟩
  · exact ⟨false, fun Q q => (isi_ty rfl rfl).mpr q⟩
  · exact ⟨false, fun Q q => (isi_ty rfl rfl).mpr q⟩
theorem pure_law_same {K : Fr0} {mg : Str → Option Value} (T : Txt K mg) (ds : List D) (m : M) (Q : D → M → Prop) (E : XD → M → Prop) (h : sp_law_same K ds m Q E) : t_law_same K (fun x _ m => E x m) { nx := fun _ m => Q .non m, rt := Q } (startD nm_law_same ds) m := by
  obtain ⟨d, rfl, vd, q⟩ := h
  show t_law_same K _ _ [some d, some d] m
  unfold t_law_same
  walk_at "zn"
  obtain ⟨b, hb⟩ := val_isi (K := K) (m := m) vd
  refine hb _ (hb _ ?_)
  walk_at "zn"
  exact dEq_refl (n := 2) (by omega) (val_clR vd) q
theorem pure_law_value {K : Fr0} {mg : Str → Option Value} (T : Txt K mg) (ds : List D) (m : M) (Q : D → M → Prop) (E : XD → M → Prop) (h : sp_law_value K ds m Q E) : t_law_value K (fun x _ m => E x m) { nx := fun _ m => Q .non m, rt := Q } (startD nm_law_value ds) m := by
  obtain ⟨a, b, s, n, m0, rfl, rfl, hp, hn, q⟩ := h
  show t_law_value K _ _ [some (.ref a)] _
  unfold t_law_value
  walk_at "zn"
  refine draw_p hp (by omega) (by omega) (by omega) (fun r s1 r0 r1 p1 => ?_)
  walk_at "zn"
  by_cases h0 : r = 0
  · rw [if_pos h0]
    refine ⟨a, b, s1, _, m0, rfl, rfl, p1, by omega, fun x s2 hx p2 => ?_⟩
    refine ⟨a, b, s2, _, m0, rfl, rfl, p2, by omega, fun y s3 hy p3 => ?_⟩
    refine ⟨a, b, s3, _, m0, rfl, rfl, p3, by omega, fun z s4 hz p4 => ?_⟩
    exact q _ s4 (.inr ⟨x, y, z, rfl, hx, hy, hz⟩) (p4.up (by omega))
  rw [if_neg h0]
  refine ⟨a, b, s1, _, m0, rfl, rfl, p1, by omega, fun x s2 hx p2 => ?_⟩
  exact q _ s2 (.inl hx) (p2.up (by omega))
theorem pure_law_first_ones {K : Fr0} {mg : Str → Option Value} (T : Txt K mg) (ds : List D) (m : M) (Q : D → M → Prop) (E : XD → M → Prop) (h : sp_law_first_ones K ds m Q E) : t_law_first_ones K (fun x _ m => E x m) { nx := fun _ m => Q .non m, rt := Q } (startD nm_law_first_ones ds) m := by
  obtain ⟨a, b, c, rfl, va, vb, vc, q⟩ := h
  show t_law_first_ones K _ _ [some a, some b, some c, none] m
  unfold t_law_first_ones
  have sb0 : MSub m m := fun _ _ e => e
  try simp only [dSeq]
  walk_at "z0"
  intro x1 d1 ob1 hx hob1
  obtain ⟨m1, hm1⟩ : ∃ mm, mm = mset m x1 (.fn ob1) := ⟨_, rfl⟩
  have hx1 : m1 x1 = some (.fn ob1) := by rw [hm1]; exact mset_same
  have sb1 : MSub m m1 := by rw [hm1]; exact sub_new sb0 hx
  rw [← hm1]
  clear hm1 hx sb0
  try simp only [dSeq]
  walk_at "z4"
  refine ⟨_, 0, rfl, ⟨x1, _, _, ob1, "BadName", rfl, hx1, hob1, rfl⟩, by decide, ?_⟩
  try simp only [dSeq]
  walk_at "z4"
  refine ⟨x1, d1, _, rfl, ob1, hx1, hob1, _, rfl, ?_⟩
  try simp only [dSeq]
  walk_at "z4"
  refine ⟨_, rfl, va, ?_⟩
  clear hx1 hob1
  try simp only [dSeq]
  walk_at "z0"
  intro x2 d2 ob2 hx hob2
  obtain ⟨m2, hm1⟩ : ∃ mm, mm = mset m1 x2 (.fn ob2) := ⟨_, rfl⟩
  have hx1 : m2 x2 = some (.fn ob2) := by rw [hm1]; exact mset_same
  have sb2 : MSub m m2 := by rw [hm1]; exact sub_new sb1 hx
  rw [← hm1]
  clear hm1 hx sb1
  try simp only [dSeq]
  walk_at "z4"
  refine ⟨_, 1, rfl, ⟨x2, _, _, ob2, "WrongCount", rfl, hx1, hob2, rfl⟩, by decide, ?_⟩
  try simp only [dSeq]
  walk_at "z4"
  refine ⟨x2, d2, _, rfl, ob2, hx1, hob2, _, rfl, ?_⟩
  try simp only [dSeq]
  walk_at "z4"
  refine ⟨_, rfl, va, ?_⟩
  try simp only [dSeq]
  walk_at "z4"
  refine ⟨x2, d2, _, rfl, ob2, hx1, hob2, _, rfl, ?_⟩
  try simp only [dSeq]
  walk_at "z4"
  refine ⟨_, rfl, vb, ?_⟩
  clear hx1 hob2
  try simp only [dSeq]
  walk_at "z0"
  intro x3 d3 ob3 hx hob3
  obtain ⟨m3, hm1⟩ : ∃ mm, mm = mset m2 x3 (.fn ob3) := ⟨_, rfl⟩
  have hx1 : m3 x3 = some (.fn ob3) := by rw [hm1]; exact mset_same
  have sb3 : MSub m m3 := by rw [hm1]; exact sub_new sb2 hx
  rw [← hm1]
  clear hm1 hx sb2
  try simp only [dSeq]
  walk_at "z4"
  refine ⟨_, 2, rfl, ⟨x3, _, _, ob3, "OutOfRange", rfl, hx1, hob3, rfl⟩, by decide, ?_⟩
  try simp only [dSeq]
  walk_at "z4"
  refine ⟨x3, d3, _, rfl, ob3, hx1, hob3, _, rfl, ?_⟩
  try simp only [dSeq]
  walk_at "z4"
  refine ⟨_, rfl, va, ?_⟩
  try simp only [dSeq]
  walk_at "z4"
  refine ⟨x3, d3, _, rfl, ob3, hx1, hob3, _, rfl, ?_⟩
  try simp only [dSeq]
  walk_at "z4"
  refine ⟨_, rfl, vb, ?_⟩
  clear hx1 hob3
  try simp only [dSeq]
  walk_at "z0"
  intro x4 d4 ob4 hx hob4
  obtain ⟨m4, hm1⟩ : ∃ mm, mm = mset m3 x4 (.fn ob4) := ⟨_, rfl⟩
  have hx1 : m4 x4 = some (.fn ob4) := by rw [hm1]; exact mset_same
  have sb4 : MSub m m4 := by rw [hm1]; exact sub_new sb3 hx
  rw [← hm1]
  clear hm1 hx sb3
  try simp only [dSeq]
  walk_at "z4"
  refine ⟨_, 3, rfl, ⟨x4, _, _, ob4, "Repeated", rfl, hx1, hob4, rfl⟩, by decide, ?_⟩
  try simp only [dSeq]
  walk_at "z4"
  refine ⟨x4, d4, _, rfl, ob4, hx1, hob4, _, rfl, ?_⟩
  try simp only [dSeq]
  walk_at "z4"
  refine ⟨_, rfl, va, ?_⟩
  clear hx1 hob4
  try simp only [dSeq]
  walk_at "z0"
  intro x5 d5 ob5 hx hob5
  obtain ⟨m5, hm1⟩ : ∃ mm, mm = mset m4 x5 (.fn ob5) := ⟨_, rfl⟩
  have hx1 : m5 x5 = some (.fn ob5) := by rw [hm1]; exact mset_same
  have sb5 : MSub m m5 := by rw [hm1]; exact sub_new sb4 hx
  rw [← hm1]
  clear hm1 hx sb4
  try simp only [dSeq]
  walk_at "z4"
  refine ⟨_, 4, rfl, ⟨x5, _, _, ob5, "RepeatedArrow", rfl, hx1, hob5, rfl⟩, by decide, ?_⟩
  try simp only [dSeq]
  walk_at "z4"
  refine ⟨x5, d5, _, rfl, ob5, hx1, hob5, _, rfl, ?_⟩
  try simp only [dSeq]
  walk_at "z4"
  refine ⟨_, rfl, va, ?_⟩
  try simp only [dSeq]
  walk_at "z4"
  refine ⟨x5, d5, _, rfl, ob5, hx1, hob5, _, rfl, ?_⟩
  try simp only [dSeq]
  walk_at "z4"
  refine ⟨_, rfl, vb, ?_⟩
  clear hx1 hob5
  try simp only [dSeq]
  walk_at "z0"
  intro x6 d6 ob6 hx hob6
  obtain ⟨m6, hm1⟩ : ∃ mm, mm = mset m5 x6 (.fn ob6) := ⟨_, rfl⟩
  have hx1 : m6 x6 = some (.fn ob6) := by rw [hm1]; exact mset_same
  have sb6 : MSub m m6 := by rw [hm1]; exact sub_new sb5 hx
  rw [← hm1]
  clear hm1 hx sb5
  try simp only [dSeq]
  walk_at "z4"
  refine ⟨_, 5, rfl, ⟨x6, _, _, ob6, "UnknownKind", rfl, hx1, hob6, rfl⟩, by decide, ?_⟩
  try simp only [dSeq]
  walk_at "z4"
  refine ⟨x6, d6, _, rfl, ob6, hx1, hob6, _, rfl, ?_⟩
  try simp only [dSeq]
  walk_at "z4"
  refine ⟨_, rfl, va, ?_⟩
  clear hx1 hob6
  try simp only [dSeq]
  walk_at "z0"
  intro x7 d7 ob7 hx hob7
  obtain ⟨m7, hm1⟩ : ∃ mm, mm = mset m6 x7 (.fn ob7) := ⟨_, rfl⟩
  have hx1 : m7 x7 = some (.fn ob7) := by rw [hm1]; exact mset_same
  have sb7 : MSub m m7 := by rw [hm1]; exact sub_new sb6 hx
  rw [← hm1]
  clear hm1 hx sb6
  try simp only [dSeq]
  walk_at "z4"
  refine ⟨_, 6, rfl, ⟨x7, _, _, ob7, "UnknownArrow", rfl, hx1, hob7, rfl⟩, by decide, ?_⟩
  try simp only [dSeq]
  walk_at "z4"
  refine ⟨x7, d7, _, rfl, ob7, hx1, hob7, _, rfl, ?_⟩
  try simp only [dSeq]
  walk_at "z4"
  refine ⟨_, rfl, va, ?_⟩
  try simp only [dSeq]
  walk_at "z4"
  refine ⟨x7, d7, _, rfl, ob7, hx1, hob7, _, rfl, ?_⟩
  try simp only [dSeq]
  walk_at "z4"
  refine ⟨_, rfl, vb, ?_⟩
  clear hx1 hob7
  try simp only [dSeq]
  walk_at "z0"
  intro x8 d8 ob8 hx hob8
  obtain ⟨m8, hm1⟩ : ∃ mm, mm = mset m7 x8 (.fn ob8) := ⟨_, rfl⟩
  have hx1 : m8 x8 = some (.fn ob8) := by rw [hm1]; exact mset_same
  have sb8 : MSub m m8 := by rw [hm1]; exact sub_new sb7 hx
  rw [← hm1]
  clear hm1 hx sb7
  try simp only [dSeq]
  walk_at "z4"
  refine ⟨_, 7, rfl, ⟨x8, _, _, ob8, "BadLine", rfl, hx1, hob8, rfl⟩, by decide, ?_⟩
  try simp only [dSeq]
  walk_at "z4"
  refine ⟨x8, d8, _, rfl, ob8, hx1, hob8, _, rfl, ?_⟩
  try simp only [dSeq]
  walk_at "z4"
  refine ⟨_, rfl, va, ?_⟩
  clear hx1 hob8
  try simp only [dSeq]
  walk_at "z0"
  intro x9 d9 ob9 hx hob9
  obtain ⟨m9, hm1⟩ : ∃ mm, mm = mset m8 x9 (.fn ob9) := ⟨_, rfl⟩
  have hx1 : m9 x9 = some (.fn ob9) := by rw [hm1]; exact mset_same
  have sb9 : MSub m m9 := by rw [hm1]; exact sub_new sb8 hx
  rw [← hm1]
  clear hm1 hx sb8
  try simp only [dSeq]
  walk_at "z4"
  refine ⟨_, 8, rfl, ⟨x9, _, _, ob9, "BadCost", rfl, hx1, hob9, rfl⟩, by decide, ?_⟩
  try simp only [dSeq]
  walk_at "z4"
  refine ⟨x9, d9, _, rfl, ob9, hx1, hob9, _, rfl, ?_⟩
  try simp only [dSeq]
  walk_at "z4"
  refine ⟨_, rfl, va, ?_⟩
  try simp only [dSeq]
  walk_at "z4"
  refine ⟨x9, d9, _, rfl, ob9, hx1, hob9, _, rfl, ?_⟩
  try simp only [dSeq]
  walk_at "z4"
  refine ⟨_, rfl, vb, ?_⟩
  clear hx1 hob9
  try simp only [dSeq]
  walk_at "z5"
  exact ⟨m, sb9, q⟩
theorem pure_law_second_ones {K : Fr0} {mg : Str → Option Value} (T : Txt K mg) (ds : List D) (m : M) (Q : D → M → Prop) (E : XD → M → Prop) (h : sp_law_second_ones K ds m Q E) : t_law_second_ones K (fun x _ m => E x m) { nx := fun _ m => Q .non m, rt := Q } (startD nm_law_second_ones ds) m := by
  obtain ⟨a, b, c, rfl, va, vb, vc, q⟩ := h
  show t_law_second_ones K _ _ [some a, some b, some c, none] m
  unfold t_law_second_ones
  have sb0 : MSub m m := fun _ _ e => e
  try simp only [dSeq]
  walk_at "z0"
  intro x1 d1 ob1 hx hob1
  obtain ⟨m1, hm1⟩ : ∃ mm, mm = mset m x1 (.fn ob1) := ⟨_, rfl⟩
  have hx1 : m1 x1 = some (.fn ob1) := by rw [hm1]; exact mset_same
  have sb1 : MSub m m1 := by rw [hm1]; exact sub_new sb0 hx
  rw [← hm1]
  clear hm1 hx sb0
  try simp only [dSeq]
  walk_at "z4"
  refine ⟨_, 9, rfl, ⟨x1, _, _, ob1, "BadRelease", rfl, hx1, hob1, rfl⟩, by decide, ?_⟩
  try simp only [dSeq]
  walk_at "z4"
  refine ⟨x1, d1, _, rfl, ob1, hx1, hob1, _, rfl, ?_⟩
  try simp only [dSeq]
  walk_at "z4"
  refine ⟨_, rfl, va, ?_⟩
  try simp only [dSeq]
  walk_at "z4"
  refine ⟨x1, d1, _, rfl, ob1, hx1, hob1, _, rfl, ?_⟩
  try simp only [dSeq]
  walk_at "z4"
  refine ⟨_, rfl, vb, ?_⟩
  clear hx1 hob1
  try simp only [dSeq]
  walk_at "z0"
  intro x2 d2 ob2 hx hob2
  obtain ⟨m2, hm1⟩ : ∃ mm, mm = mset m1 x2 (.fn ob2) := ⟨_, rfl⟩
  have hx1 : m2 x2 = some (.fn ob2) := by rw [hm1]; exact mset_same
  have sb2 : MSub m m2 := by rw [hm1]; exact sub_new sb1 hx
  rw [← hm1]
  clear hm1 hx sb1
  try simp only [dSeq]
  walk_at "z4"
  refine ⟨_, 10, rfl, ⟨x2, _, _, ob2, "NoArrow", rfl, hx1, hob2, rfl⟩, by decide, ?_⟩
  try simp only [dSeq]
  walk_at "z4"
  refine ⟨x2, d2, _, rfl, ob2, hx1, hob2, _, rfl, ?_⟩
  try simp only [dSeq]
  walk_at "z4"
  refine ⟨_, rfl, va, ?_⟩
  try simp only [dSeq]
  walk_at "z4"
  refine ⟨x2, d2, _, rfl, ob2, hx1, hob2, _, rfl, ?_⟩
  try simp only [dSeq]
  walk_at "z4"
  refine ⟨_, rfl, vb, ?_⟩
  clear hx1 hob2
  try simp only [dSeq]
  walk_at "z0"
  intro x3 d3 ob3 hx hob3
  obtain ⟨m3, hm1⟩ : ∃ mm, mm = mset m2 x3 (.fn ob3) := ⟨_, rfl⟩
  have hx1 : m3 x3 = some (.fn ob3) := by rw [hm1]; exact mset_same
  have sb3 : MSub m m3 := by rw [hm1]; exact sub_new sb2 hx
  rw [← hm1]
  clear hm1 hx sb2
  try simp only [dSeq]
  walk_at "z4"
  refine ⟨_, 11, rfl, ⟨x3, _, _, ob3, "GapTooShort", rfl, hx1, hob3, rfl⟩, by decide, ?_⟩
  try simp only [dSeq]
  walk_at "z4"
  refine ⟨x3, d3, _, rfl, ob3, hx1, hob3, _, rfl, ?_⟩
  try simp only [dSeq]
  walk_at "z4"
  refine ⟨_, rfl, va, ?_⟩
  try simp only [dSeq]
  walk_at "z4"
  refine ⟨x3, d3, _, rfl, ob3, hx1, hob3, _, rfl, ?_⟩
  try simp only [dSeq]
  walk_at "z4"
  refine ⟨_, rfl, vb, ?_⟩
  clear hx1 hob3
  try simp only [dSeq]
  walk_at "z0"
  intro x4 d4 ob4 hx hob4
  obtain ⟨m4, hm1⟩ : ∃ mm, mm = mset m3 x4 (.fn ob4) := ⟨_, rfl⟩
  have hx1 : m4 x4 = some (.fn ob4) := by rw [hm1]; exact mset_same
  have sb4 : MSub m m4 := by rw [hm1]; exact sub_new sb3 hx
  rw [← hm1]
  clear hm1 hx sb3
  try simp only [dSeq]
  walk_at "z4"
  refine ⟨_, 12, rfl, ⟨x4, _, _, ob4, "UnknownJob", rfl, hx1, hob4, rfl⟩, by decide, ?_⟩
  try simp only [dSeq]
  walk_at "z4"
  refine ⟨x4, d4, _, rfl, ob4, hx1, hob4, _, rfl, ?_⟩
  try simp only [dSeq]
  walk_at "z4"
  refine ⟨_, rfl, va, ?_⟩
  clear hx1 hob4
  try simp only [dSeq]
  walk_at "z0"
  intro x5 d5 ob5 hx hob5
  obtain ⟨m5, hm1⟩ : ∃ mm, mm = mset m4 x5 (.fn ob5) := ⟨_, rfl⟩
  have hx1 : m5 x5 = some (.fn ob5) := by rw [hm1]; exact mset_same
  have sb5 : MSub m m5 := by rw [hm1]; exact sub_new sb4 hx
  rw [← hm1]
  clear hm1 hx sb4
  try simp only [dSeq]
  walk_at "z4"
  refine ⟨_, 13, rfl, ⟨x5, _, _, ob5, "EmptySlice", rfl, hx1, hob5, rfl⟩, by decide, ?_⟩
  try simp only [dSeq]
  walk_at "z4"
  refine ⟨x5, d5, _, rfl, ob5, hx1, hob5, _, rfl, ?_⟩
  try simp only [dSeq]
  walk_at "z4"
  refine ⟨_, rfl, va, ?_⟩
  clear hx1 hob5
  try simp only [dSeq]
  walk_at "z0"
  intro x6 d6 ob6 hx hob6
  obtain ⟨m6, hm1⟩ : ∃ mm, mm = mset m5 x6 (.fn ob6) := ⟨_, rfl⟩
  have hx1 : m6 x6 = some (.fn ob6) := by rw [hm1]; exact mset_same
  have sb6 : MSub m m6 := by rw [hm1]; exact sub_new sb5 hx
  rw [← hm1]
  clear hm1 hx sb5
  try simp only [dSeq]
  walk_at "z4"
  refine ⟨_, 14, rfl, ⟨x6, _, _, ob6, "Overlap", rfl, hx1, hob6, rfl⟩, by decide, ?_⟩
  try simp only [dSeq]
  walk_at "z4"
  refine ⟨x6, d6, _, rfl, ob6, hx1, hob6, _, rfl, ?_⟩
  try simp only [dSeq]
  walk_at "z4"
  refine ⟨_, rfl, va, ?_⟩
  clear hx1 hob6
  try simp only [dSeq]
  walk_at "z0"
  intro x7 d7 ob7 hx hob7
  obtain ⟨m7, hm1⟩ : ∃ mm, mm = mset m6 x7 (.fn ob7) := ⟨_, rfl⟩
  have hx1 : m7 x7 = some (.fn ob7) := by rw [hm1]; exact mset_same
  have sb7 : MSub m m7 := by rw [hm1]; exact sub_new sb6 hx
  rw [← hm1]
  clear hm1 hx sb6
  try simp only [dSeq]
  walk_at "z4"
  refine ⟨_, 15, rfl, ⟨x7, _, _, ob7, "TooEarly", rfl, hx1, hob7, rfl⟩, by decide, ?_⟩
  try simp only [dSeq]
  walk_at "z4"
  refine ⟨x7, d7, _, rfl, ob7, hx1, hob7, _, rfl, ?_⟩
  try simp only [dSeq]
  walk_at "z4"
  refine ⟨_, rfl, va, ?_⟩
  clear hx1 hob7
  try simp only [dSeq]
  walk_at "z0"
  intro x8 d8 ob8 hx hob8
  obtain ⟨m8, hm1⟩ : ∃ mm, mm = mset m7 x8 (.fn ob8) := ⟨_, rfl⟩
  have hx1 : m8 x8 = some (.fn ob8) := by rw [hm1]; exact mset_same
  have sb8 : MSub m m8 := by rw [hm1]; exact sub_new sb7 hx
  rw [← hm1]
  clear hm1 hx sb7
  try simp only [dSeq]
  walk_at "z4"
  refine ⟨_, 16, rfl, ⟨x8, _, _, ob8, "WrongAmount", rfl, hx1, hob8, rfl⟩, by decide, ?_⟩
  try simp only [dSeq]
  walk_at "z4"
  refine ⟨x8, d8, _, rfl, ob8, hx1, hob8, _, rfl, ?_⟩
  try simp only [dSeq]
  walk_at "z4"
  refine ⟨_, rfl, va, ?_⟩
  clear hx1 hob8
  try simp only [dSeq]
  walk_at "z0"
  intro x9 ob9 hx hob9
  obtain ⟨m9, hm1⟩ : ∃ mm, mm = mset m8 x9 (.fn ob9) := ⟨_, rfl⟩
  have hx1 : m9 x9 = some (.fn ob9) := by rw [hm1]; exact mset_same
  have sb9 : MSub m m9 := by rw [hm1]; exact sub_new sb8 hx
  rw [← hm1]
  clear hm1 hx sb8
  try simp only [dSeq]
  walk_at "z4"
  refine ⟨_, 17, rfl, ⟨x9, _, _, ob9, "BadRow", rfl, hx1, hob9, rfl⟩, by decide, ?_⟩
  clear hx1 hob9
  try simp only [dSeq]
  walk_at "z5"
  exact ⟨m, sb9, q⟩
theorem pure_law_third_ones {K : Fr0} {mg : Str → Option Value} (T : Txt K mg) (ds : List D) (m : M) (Q : D → M → Prop) (E : XD → M → Prop) (h : sp_law_third_ones K ds m Q E) : t_law_third_ones K (fun x _ m => E x m) { nx := fun _ m => Q .non m, rt := Q } (startD nm_law_third_ones ds) m := by
  obtain ⟨a, b, c, rfl, va, vb, vc, q⟩ := h
  show t_law_third_ones K _ _ [some a, some b, some c, none] m
  unfold t_law_third_ones
  have sb0 : MSub m m := fun _ _ e => e
  try simp only [dSeq]
  walk_at "z0"
  intro x1 d1 ob1 hx hob1
  obtain ⟨m1, hm1⟩ : ∃ mm, mm = mset m x1 (.fn ob1) := ⟨_, rfl⟩
  have hx1 : m1 x1 = some (.fn ob1) := by rw [hm1]; exact mset_same
  have sb1 : MSub m m1 := by rw [hm1]; exact sub_new sb0 hx
  rw [← hm1]
  clear hm1 hx sb0
  try simp only [dSeq]
  walk_at "z4"
  refine ⟨_, 18, rfl, ⟨x1, _, _, ob1, "TooLong", rfl, hx1, hob1, rfl⟩, by decide, ?_⟩
  try simp only [dSeq]
  walk_at "z4"
  refine ⟨x1, d1, _, rfl, ob1, hx1, hob1, _, rfl, ?_⟩
  try simp only [dSeq]
  walk_at "z4"
  refine ⟨_, rfl, va, ?_⟩
  clear hx1 hob1
  try simp only [dSeq]
  walk_at "z0"
  intro x2 d2 ob2 hx hob2
  obtain ⟨m2, hm1⟩ : ∃ mm, mm = mset m1 x2 (.fn ob2) := ⟨_, rfl⟩
  have hx1 : m2 x2 = some (.fn ob2) := by rw [hm1]; exact mset_same
  have sb2 : MSub m m2 := by rw [hm1]; exact sub_new sb1 hx
  rw [← hm1]
  clear hm1 hx sb1
  try simp only [dSeq]
  walk_at "z4"
  refine ⟨_, 19, rfl, ⟨x2, _, _, ob2, "Falling", rfl, hx1, hob2, rfl⟩, by decide, ?_⟩
  try simp only [dSeq]
  walk_at "z4"
  refine ⟨x2, d2, _, rfl, ob2, hx1, hob2, _, rfl, ?_⟩
  try simp only [dSeq]
  walk_at "z4"
  refine ⟨_, rfl, va, ?_⟩
  clear hx1 hob2
  try simp only [dSeq]
  walk_at "z0"
  intro x3 d3 ob3 hx hob3
  obtain ⟨m3, hm1⟩ : ∃ mm, mm = mset m2 x3 (.fn ob3) := ⟨_, rfl⟩
  have hx1 : m3 x3 = some (.fn ob3) := by rw [hm1]; exact mset_same
  have sb3 : MSub m m3 := by rw [hm1]; exact sub_new sb2 hx
  rw [← hm1]
  clear hm1 hx sb2
  try simp only [dSeq]
  walk_at "z4"
  refine ⟨_, 20, rfl, ⟨x3, _, _, ob3, "BadCalendar", rfl, hx1, hob3, rfl⟩, by decide, ?_⟩
  try simp only [dSeq]
  walk_at "z4"
  refine ⟨x3, d3, _, rfl, ob3, hx1, hob3, _, rfl, ?_⟩
  try simp only [dSeq]
  walk_at "z4"
  refine ⟨_, rfl, va, ?_⟩
  clear hx1 hob3
  try simp only [dSeq]
  walk_at "z0"
  intro x4 d4 ob4 hx hob4
  obtain ⟨m4, hm1⟩ : ∃ mm, mm = mset m3 x4 (.fn ob4) := ⟨_, rfl⟩
  have hx1 : m4 x4 = some (.fn ob4) := by rw [hm1]; exact mset_same
  have sb4 : MSub m m4 := by rw [hm1]; exact sub_new sb3 hx
  rw [← hm1]
  clear hm1 hx sb3
  try simp only [dSeq]
  walk_at "z4"
  refine ⟨_, 21, rfl, ⟨x4, _, _, ob4, "Overloaded", rfl, hx1, hob4, rfl⟩, by decide, ?_⟩
  try simp only [dSeq]
  walk_at "z4"
  refine ⟨x4, d4, _, rfl, ob4, hx1, hob4, _, rfl, ?_⟩
  try simp only [dSeq]
  walk_at "z4"
  refine ⟨_, rfl, va, ?_⟩
  try simp only [dSeq]
  walk_at "z4"
  refine ⟨x4, d4, _, rfl, ob4, hx1, hob4, _, rfl, ?_⟩
  try simp only [dSeq]
  walk_at "z4"
  refine ⟨_, rfl, vb, ?_⟩
  clear hx1 hob4
  try simp only [dSeq]
  walk_at "z0"
  intro x5 d5 ob5 hx hob5
  obtain ⟨m5, hm1⟩ : ∃ mm, mm = mset m4 x5 (.fn ob5) := ⟨_, rfl⟩
  have hx1 : m5 x5 = some (.fn ob5) := by rw [hm1]; exact mset_same
  have sb5 : MSub m m5 := by rw [hm1]; exact sub_new sb4 hx
  rw [← hm1]
  clear hm1 hx sb4
  try simp only [dSeq]
  walk_at "z4"
  refine ⟨_, 22, rfl, ⟨x5, _, _, ob5, "LateSet", rfl, hx1, hob5, rfl⟩, by decide, ?_⟩
  try simp only [dSeq]
  walk_at "z4"
  refine ⟨x5, d5, _, rfl, ob5, hx1, hob5, _, rfl, ?_⟩
  try simp only [dSeq]
  walk_at "z4"
  refine ⟨_, rfl, va, ?_⟩
  clear hx1 hob5
  try simp only [dSeq]
  walk_at "z0"
  intro x6 d6 ob6 hx hob6
  obtain ⟨m6, hm1⟩ : ∃ mm, mm = mset m5 x6 (.fn ob6) := ⟨_, rfl⟩
  have hx1 : m6 x6 = some (.fn ob6) := by rw [hm1]; exact mset_same
  have sb6 : MSub m m6 := by rw [hm1]; exact sub_new sb5 hx
  rw [← hm1]
  clear hm1 hx sb5
  try simp only [dSeq]
  walk_at "z4"
  refine ⟨_, 23, rfl, ⟨x6, _, _, ob6, "Clash", rfl, hx1, hob6, rfl⟩, by decide, ?_⟩
  try simp only [dSeq]
  walk_at "z4"
  refine ⟨x6, d6, _, rfl, ob6, hx1, hob6, _, rfl, ?_⟩
  try simp only [dSeq]
  walk_at "z4"
  refine ⟨_, rfl, va, ?_⟩
  try simp only [dSeq]
  walk_at "z4"
  refine ⟨x6, d6, _, rfl, ob6, hx1, hob6, _, rfl, ?_⟩
  try simp only [dSeq]
  walk_at "z4"
  refine ⟨_, rfl, vb, ?_⟩
  clear hx1 hob6
  try simp only [dSeq]
  walk_at "z0"
  intro x7 d7 ob7 hx hob7
  obtain ⟨m7, hm1⟩ : ∃ mm, mm = mset m6 x7 (.fn ob7) := ⟨_, rfl⟩
  have hx1 : m7 x7 = some (.fn ob7) := by rw [hm1]; exact mset_same
  have sb7 : MSub m m7 := by rw [hm1]; exact sub_new sb6 hx
  rw [← hm1]
  clear hm1 hx sb6
  try simp only [dSeq]
  walk_at "z4"
  refine ⟨_, 24, rfl, ⟨x7, _, _, ob7, "NotOpen", rfl, hx1, hob7, rfl⟩, by decide, ?_⟩
  try simp only [dSeq]
  walk_at "z4"
  refine ⟨x7, d7, _, rfl, ob7, hx1, hob7, _, rfl, ?_⟩
  try simp only [dSeq]
  walk_at "z4"
  refine ⟨_, rfl, va, ?_⟩
  clear hx1 hob7
  try simp only [dSeq]
  walk_at "z0"
  intro x8 d8 ob8 hx hob8
  obtain ⟨m8, hm1⟩ : ∃ mm, mm = mset m7 x8 (.fn ob8) := ⟨_, rfl⟩
  have hx1 : m8 x8 = some (.fn ob8) := by rw [hm1]; exact mset_same
  have sb8 : MSub m m8 := by rw [hm1]; exact sub_new sb7 hx
  rw [← hm1]
  clear hm1 hx sb7
  try simp only [dSeq]
  walk_at "z4"
  refine ⟨_, 25, rfl, ⟨x8, _, _, ob8, "Refused", rfl, hx1, hob8, rfl⟩, by decide, ?_⟩
  try simp only [dSeq]
  walk_at "z4"
  refine ⟨x8, d8, _, rfl, ob8, hx1, hob8, _, rfl, ?_⟩
  try simp only [dSeq]
  walk_at "z4"
  refine ⟨_, rfl, va, ?_⟩
  try simp only [dSeq]
  walk_at "z4"
  refine ⟨x8, d8, _, rfl, ob8, hx1, hob8, _, rfl, ?_⟩
  try simp only [dSeq]
  walk_at "z4"
  refine ⟨_, rfl, vb, ?_⟩
  try simp only [dSeq]
  walk_at "z4"
  refine ⟨x8, d8, _, rfl, ob8, hx1, hob8, _, rfl, ?_⟩
  try simp only [dSeq]
  walk_at "z4"
  refine ⟨_, rfl, vc, ?_⟩
  clear hx1 hob8
  try simp only [dSeq]
  walk_at "z0"
  intro x9 d9 ob9 hx hob9
  obtain ⟨m9, hm1⟩ : ∃ mm, mm = mset m8 x9 (.fn ob9) := ⟨_, rfl⟩
  have hx1 : m9 x9 = some (.fn ob9) := by rw [hm1]; exact mset_same
  have sb9 : MSub m m9 := by rw [hm1]; exact sub_new sb8 hx
  rw [← hm1]
  clear hm1 hx sb8
  try simp only [dSeq]
  walk_at "z4"
  refine ⟨_, 26, rfl, ⟨x9, _, _, ob9, "Present", rfl, hx1, hob9, rfl⟩, by decide, ?_⟩
  try simp only [dSeq]
  walk_at "z4"
  refine ⟨x9, d9, _, rfl, ob9, hx1, hob9, _, rfl, ?_⟩
  try simp only [dSeq]
  walk_at "z4"
  refine ⟨_, rfl, va, ?_⟩
  clear hx1 hob9
  try simp only [dSeq]
  walk_at "z5"
  exact ⟨m, sb9, q⟩
theorem pure_law_fourth_ones {K : Fr0} {mg : Str → Option Value} (T : Txt K mg) (ds : List D) (m : M) (Q : D → M → Prop) (E : XD → M → Prop) (h : sp_law_fourth_ones K ds m Q E) : t_law_fourth_ones K (fun x _ m => E x m) { nx := fun _ m => Q .non m, rt := Q } (startD nm_law_fourth_ones ds) m := by
  obtain ⟨a, b, c, rfl, va, vb, vc, q⟩ := h
  show t_law_fourth_ones K _ _ [some a, some b, some c, none] m
  unfold t_law_fourth_ones
  have sb0 : MSub m m := fun _ _ e => e
  try simp only [dSeq]
  walk_at "z0"
  intro x1 d1 ob1 hx hob1
  obtain ⟨m1, hm1⟩ : ∃ mm, mm = mset m x1 (.fn ob1) := ⟨_, rfl⟩
  have hx1 : m1 x1 = some (.fn ob1) := by rw [hm1]; exact mset_same
  have sb1 : MSub m m1 := by rw [hm1]; exact sub_new sb0 hx
  rw [← hm1]
  clear hm1 hx sb0
  try simp only [dSeq]
  walk_at "z4"
  refine ⟨_, 27, rfl, ⟨x1, _, _, ob1, "Absent", rfl, hx1, hob1, rfl⟩, by decide, ?_⟩
  try simp only [dSeq]
  walk_at "z4"
  refine ⟨x1, d1, _, rfl, ob1, hx1, hob1, _, rfl, ?_⟩
  try simp only [dSeq]
  walk_at "z4"
  refine ⟨_, rfl, va, ?_⟩
  clear hx1 hob1
  try simp only [dSeq]
  walk_at "z0"
  intro x2 ob2 hx hob2
  obtain ⟨m2, hm1⟩ : ∃ mm, mm = mset m1 x2 (.fn ob2) := ⟨_, rfl⟩
  have hx1 : m2 x2 = some (.fn ob2) := by rw [hm1]; exact mset_same
  have sb2 : MSub m m2 := by rw [hm1]; exact sub_new sb1 hx
  rw [← hm1]
  clear hm1 hx sb1
  try simp only [dSeq]
  walk_at "z4"
  refine ⟨_, 28, rfl, ⟨x2, _, _, ob2, "NothingToUndo", rfl, hx1, hob2, rfl⟩, by decide, ?_⟩
  clear hx1 hob2
  try simp only [dSeq]
  walk_at "z5"
  exact ⟨m, sb2, q⟩
theorem pure_law {K : Fr0} {mg : Str → Option Value} (T : Txt K mg) (ds : List D) (m : M) (Q : D → M → Prop) (E : XD → M → Prop) (h : spLaw ds m Q E) : t_law K (fun x _ m => E x m) { nx := fun _ m => Q .non m, rt := Q } (startD nm_law ds) m := by
  obtain ⟨ns, rfl, hn, rfl, q⟩ := h
  show t_law K _ _ [some (.rdl (ns.map D.int)), none, none, none, none, none] m0
  unfold t_law
  walk_at "zn"
  refine ⟨ns, rfl, hn, fun a b s ha hb hp => ?_⟩
  walk_at "zn"
  refine ⟨a, b, s, _, m0, rfl, rfl, hp, by omega, fun va s1 ha p1 => ?_⟩
  walk_at "zn"
  refine ⟨a, b, s1, _, m0, rfl, rfl, p1, by omega, fun vb s2 hb p2 => ?_⟩
  walk_at "zn"
  refine ⟨a, b, s2, _, m0, rfl, rfl, p2, by omega, fun vc s3 hc p3 => ?_⟩
  walk_at "zn"
  refine ⟨va, vb, vc, rfl, ha, hb, hc, ?_⟩
  walk_at "zn"
  refine ⟨vb, vc, va, rfl, hb, hc, ha, ?_⟩
  walk_at "zn"
  refine ⟨vc, va, vb, rfl, hc, ha, hb, ?_⟩
  walk_at "zn"
  refine ⟨va, vc, vb, rfl, ha, hc, hb, ?_⟩
  generalize hK : dSeq _ _ = kk
  try simp only [dSeq]
  try simp only [dIfS, dTest, dOp, dVar, dC, dCB, daCons, daNil, dSet, dRet, dNext, dDrop, dAsg, dPar, dAug, dAddI, dBreak, dCont, dRetN, slot, dLen, dCmpI, dSub, dAdd, dMul, dDiv, dMod, dPow, dNeg, dUn, dIx, dInt1, dAbs, dChain, dAnd, dOr, dNot, dAndV, dOrV, dNotV, dTru, dTruB, dIf, dTup, dLst, mkL, dSlice, dSl, doNone, doSome, dSum, dAll, dAny, dList, dTuple, dMax, dMin, eq_ii, ne_ii, eq_ss, ne_ss, eq_bb, ne_bb, eq_nn, ne_nn, dIsN, dNotN, dFgt, dIsB, dNotB, gN, gT, gsNil, gsCons, gSet, dBM, dAppend, dClear, dFld, dFldS, dProp, dCall, dMeth, dMake, dMakeN, daStar, dDictP, dCallO, dFor, dLc, diR1, diR2, diR3, diL, diT, diRv, diS, diE, dFmt, dFStr, dJs, dCallN, dFrzE, frz_l, in_ss, notin_ss, drR1, drR2, dListR, dRaise, dRaise0, dTryAs, dTry, dXf, dAddO, dInO, isL, insOf, Option.some.injEq, List.cons.injEq, D.int.injEq, D.bl.injEq, D.str.injEq, D.lst.injEq, D.tup.injEq, D.ref.injEq, MO.lst.injEq, MO.ins.injEq, mset_mset, and_true, true_and, and_self, and_assoc, exists_eq_left', exists_eq_left, exists_and_left, exists_and_right, exists_eq', List.set_cons_zero, List.set_cons_succ, decide_eq_true_eq, sqOf, lsOf, List.length_cons, List.length_nil, sizeLine_eq, List.append_nil, List.cons_append, List.nil_append, if_true, if_false, Bool.false_eq_true, reduceCtorEq, reduceIte, Nat.reduceAdd, Nat.reduceLeDiff, mset_same, Option.bind_some, List.length_map, Prod.mk.injEq, at0, at1, at2, at3, at4, at5, at6, at7, ix30, ix31, ix32, ix20, ix21, ix10, isi_ii, isi_ib, isi_ll, isi_bb, isi_ss, isi_tt, isi_is, isi_si, Bool.not_true, Bool.not_false, dCopyK, dGet2K, dDctR, dDisp1, dFrzEK, dMakeX0]
  subst hK
  intro x ob hx hob
  refine ⟨_, 29, rfl, ⟨x, none, [], ob, "DuesError", rfl, mset_same, hob, rfl⟩, ?_⟩
  walk_at "zn"
  refine count_bls rfl ?_
  rw [cnt_marks0]
  walk_at "zn"
  exact isv_ty mset_same hob (xc_of T (p := 29) rfl) (kitUpT_of T.xkv (i := 29) rfl) (q _)
end LW

set_option Elab.async false
set_option linter.all false
set_option maxRecDepth 100000
set_option maxHeartbeats 4000000
namespace LW
open PySem PySem.Spec PyProof.Rows L2 DL
open He (ga ma)
theorem okx_BadName {P : Program} {w : World} {K : PySem.W.Frag} {mg : Str → Option Value} {base : Heap} (T : Txt K mg) : ∃ fd, FnOk P w K mg base (L2.CX P w) 1 (ma K (ga K "BadName") "__init__") fd ["self", "name"] (spX (ga K "BadName") ["name"]) ∧ Binds K fd ["self", "name"] [] := by
  obtain ⟨fd, F⟩ := T.d_BadName_init
  refine ⟨fd, fn_exc (k := 0) F sc_BadName_init T.ox_BadName ?_ rfl (by decide) (fun cdv A outer s H E => pss_cons (ps_ost (pv 0) (pv 1)) (pss_nil)), F.bindsN fun _ _ _ _ _ _ us hl => match us, hl with | [_, _], _ => rfl⟩
  intro g hg
  rcases List.mem_cons.mp hg with rfl | hg
  · exact T.nf_BadName_name
  cases hg

theorem okx_WrongCount {P : Program} {w : World} {K : PySem.W.Frag} {mg : Str → Option Value} {base : Heap} (T : Txt K mg) : ∃ fd, FnOk P w K mg base (L2.CX P w) 1 (ma K (ga K "WrongCount") "__init__") fd ["self", "what", "count"] (spX (ga K "WrongCount") ["what", "count"]) ∧ Binds K fd ["self", "what", "count"] [] := by
  obtain ⟨fd, F⟩ := T.d_WrongCount_init
  refine ⟨fd, fn_exc (k := 0) F sc_WrongCount_init T.ox_WrongCount ?_ rfl (by decide) (fun cdv A outer s H E => pss_cons (ps_ost (pv 0) (pv 1)) (pss_cons (ps_ost (pv 0) (pv 2)) (pss_nil))), F.bindsN fun _ _ _ _ _ _ us hl => match us, hl with | [_, _, _], _ => rfl⟩
  intro g hg
  rcases List.mem_cons.mp hg with rfl | hg
  · exact T.nf_WrongCount_what
  rcases List.mem_cons.mp hg with rfl | hg
  · exact T.nf_WrongCount_count
  cases hg

theorem okx_OutOfRange {P : Program} {w : World} {K : PySem.W.Frag} {mg : Str → Option Value} {base : Heap} (T : Txt K mg) : ∃ fd, FnOk P w K mg base (L2.CX P w) 1 (ma K (ga K "OutOfRange") "__init__") fd ["self", "what", "value"] (spX (ga K "OutOfRange") ["what", "value"]) ∧ Binds K fd ["self", "what", "value"] [] := by
  obtain ⟨fd, F⟩ := T.d_OutOfRange_init
  refine ⟨fd, fn_exc (k := 0) F sc_OutOfRange_init T.ox_OutOfRange ?_ rfl (by decide) (fun cdv A outer s H E => pss_cons (ps_ost (pv 0) (pv 1)) (pss_cons (ps_ost (pv 0) (pv 2)) (pss_nil))), F.bindsN fun _ _ _ _ _ _ us hl => match us, hl with | [_, _, _], _ => rfl⟩
  intro g hg
  rcases List.mem_cons.mp hg with rfl | hg
  · exact T.nf_OutOfRange_what
  rcases List.mem_cons.mp hg with rfl | hg
  · exact T.nf_OutOfRange_value
  cases hg

theorem okx_Repeated {P : Program} {w : World} {K : PySem.W.Frag} {mg : Str → Option Value} {base : Heap} (T : Txt K mg) : ∃ fd, FnOk P w K mg base (L2.CX P w) 1 (ma K (ga K "Repeated") "__init__") fd ["self", "name"] (spX (ga K "Repeated") ["name"]) ∧ Binds K fd ["self", "name"] [] := by
  obtain ⟨fd, F⟩ := T.d_Repeated_init
  refine ⟨fd, fn_exc (k := 0) F sc_Repeated_init T.ox_Repeated ?_ rfl (by decide) (fun cdv A outer s H E => pss_cons (ps_ost (pv 0) (pv 1)) (pss_nil)), F.bindsN fun _ _ _ _ _ _ us hl => match us, hl with | [_, _], _ => rfl⟩
  intro g hg
  rcases List.mem_cons.mp hg with rfl | hg
  · exact T.nf_Repeated_name
  cases hg

theorem okx_RepeatedArrow {P : Program} {w : World} {K : PySem.W.Frag} {mg : Str → Option Value} {base : Heap} (T : Txt K mg) : ∃ fd, FnOk P w K mg base (L2.CX P w) 1 (ma K (ga K "RepeatedArrow") "__init__") fd ["self", "first", "second"] (spX (ga K "RepeatedArrow") ["first", "second"]) ∧ Binds K fd ["self", "first", "second"] [] := by
  obtain ⟨fd, F⟩ := T.d_RepeatedArrow_init
  refine ⟨fd, fn_exc (k := 0) F sc_RepeatedArrow_init T.ox_RepeatedArrow ?_ rfl (by decide) (fun cdv A outer s H E => pss_cons (ps_ost (pv 0) (pv 1)) (pss_cons (ps_ost (pv 0) (pv 2)) (pss_nil))), F.bindsN fun _ _ _ _ _ _ us hl => match us, hl with | [_, _, _], _ => rfl⟩
  intro g hg
  rcases List.mem_cons.mp hg with rfl | hg
  · exact T.nf_RepeatedArrow_first
  rcases List.mem_cons.mp hg with rfl | hg
  · exact T.nf_RepeatedArrow_second
  cases hg

theorem okx_UnknownKind {P : Program} {w : World} {K : PySem.W.Frag} {mg : Str → Option Value} {base : Heap} (T : Txt K mg) : ∃ fd, FnOk P w K mg base (L2.CX P w) 1 (ma K (ga K "UnknownKind") "__init__") fd ["self", "name"] (spX (ga K "UnknownKind") ["name"]) ∧ Binds K fd ["self", "name"] [] := by
  obtain ⟨fd, F⟩ := T.d_UnknownKind_init
  refine ⟨fd, fn_exc (k := 0) F sc_UnknownKind_init T.ox_UnknownKind ?_ rfl (by decide) (fun cdv A outer s H E => pss_cons (ps_ost (pv 0) (pv 1)) (pss_nil)), F.bindsN fun _ _ _ _ _ _ us hl => match us, hl with | [_, _], _ => rfl⟩
  intro g hg
  rcases List.mem_cons.mp hg with rfl | hg
  · exact T.nf_UnknownKind_name
  cases hg

theorem okx_UnknownArrow {P : Program} {w : World} {K : PySem.W.Frag} {mg : Str → Option Value} {base : Heap} (T : Txt K mg) : ∃ fd, FnOk P w K mg base (L2.CX P w) 1 (ma K (ga K "UnknownArrow") "__init__") fd ["self", "first", "second"] (spX (ga K "UnknownArrow") ["first", "second"]) ∧ Binds K fd ["self", "first", "second"] [] := by
  obtain ⟨fd, F⟩ := T.d_UnknownArrow_init
  refine ⟨fd, fn_exc (k := 0) F sc_UnknownArrow_init T.ox_UnknownArrow ?_ rfl (by decide) (fun cdv A outer s H E => pss_cons (ps_ost (pv 0) (pv 1)) (pss_cons (ps_ost (pv 0) (pv 2)) (pss_nil))), F.bindsN fun _ _ _ _ _ _ us hl => match us, hl with | [_, _, _], _ => rfl⟩
  intro g hg
  rcases List.mem_cons.mp hg with rfl | hg
  · exact T.nf_UnknownArrow_first
  rcases List.mem_cons.mp hg with rfl | hg
  · exact T.nf_UnknownArrow_second
  cases hg

theorem okx_BadLine {P : Program} {w : World} {K : PySem.W.Frag} {mg : Str → Option Value} {base : Heap} (T : Txt K mg) : ∃ fd, FnOk P w K mg base (L2.CX P w) 1 (ma K (ga K "BadLine") "__init__") fd ["self", "line"] (spX (ga K "BadLine") ["line"]) ∧ Binds K fd ["self", "line"] [] := by
  obtain ⟨fd, F⟩ := T.d_BadLine_init
  refine ⟨fd, fn_exc (k := 0) F sc_BadLine_init T.ox_BadLine ?_ rfl (by decide) (fun cdv A outer s H E => pss_cons (ps_ost (pv 0) (pv 1)) (pss_nil)), F.bindsN fun _ _ _ _ _ _ us hl => match us, hl with | [_, _], _ => rfl⟩
  intro g hg
  rcases List.mem_cons.mp hg with rfl | hg
  · exact T.nf_BadLine_line
  cases hg

theorem okx_BadCost {P : Program} {w : World} {K : PySem.W.Frag} {mg : Str → Option Value} {base : Heap} (T : Txt K mg) : ∃ fd, FnOk P w K mg base (L2.CX P w) 1 (ma K (ga K "BadCost") "__init__") fd ["self", "task", "place"] (spX (ga K "BadCost") ["task", "place"]) ∧ Binds K fd ["self", "task", "place"] [] := by
  obtain ⟨fd, F⟩ := T.d_BadCost_init
  refine ⟨fd, fn_exc (k := 0) F sc_BadCost_init T.ox_BadCost ?_ rfl (by decide) (fun cdv A outer s H E => pss_cons (ps_ost (pv 0) (pv 1)) (pss_cons (ps_ost (pv 0) (pv 2)) (pss_nil))), F.bindsN fun _ _ _ _ _ _ us hl => match us, hl with | [_, _, _], _ => rfl⟩
  intro g hg
  rcases List.mem_cons.mp hg with rfl | hg
  · exact T.nf_BadCost_task
  rcases List.mem_cons.mp hg with rfl | hg
  · exact T.nf_BadCost_place
  cases hg

theorem okx_BadRelease {P : Program} {w : World} {K : PySem.W.Frag} {mg : Str → Option Value} {base : Heap} (T : Txt K mg) : ∃ fd, FnOk P w K mg base (L2.CX P w) 1 (ma K (ga K "BadRelease") "__init__") fd ["self", "task", "place"] (spX (ga K "BadRelease") ["task", "place"]) ∧ Binds K fd ["self", "task", "place"] [] := by
  obtain ⟨fd, F⟩ := T.d_BadRelease_init
  refine ⟨fd, fn_exc (k := 0) F sc_BadRelease_init T.ox_BadRelease ?_ rfl (by decide) (fun cdv A outer s H E => pss_cons (ps_ost (pv 0) (pv 1)) (pss_cons (ps_ost (pv 0) (pv 2)) (pss_nil))), F.bindsN fun _ _ _ _ _ _ us hl => match us, hl with | [_, _, _], _ => rfl⟩
  intro g hg
  rcases List.mem_cons.mp hg with rfl | hg
  · exact T.nf_BadRelease_task
  rcases List.mem_cons.mp hg with rfl | hg
  · exact T.nf_BadRelease_place
  cases hg

theorem okx_NoArrow {P : Program} {w : World} {K : PySem.W.Frag} {mg : Str → Option Value} {base : Heap} (T : Txt K mg) : ∃ fd, FnOk P w K mg base (L2.CX P w) 1 (ma K (ga K "NoArrow") "__init__") fd ["self", "task", "place"] (spX (ga K "NoArrow") ["task", "place"]) ∧ Binds K fd ["self", "task", "place"] [] := by
  obtain ⟨fd, F⟩ := T.d_NoArrow_init
  refine ⟨fd, fn_exc (k := 0) F sc_NoArrow_init T.ox_NoArrow ?_ rfl (by decide) (fun cdv A outer s H E => pss_cons (ps_ost (pv 0) (pv 1)) (pss_cons (ps_ost (pv 0) (pv 2)) (pss_nil))), F.bindsN fun _ _ _ _ _ _ us hl => match us, hl with | [_, _, _], _ => rfl⟩
  intro g hg
  rcases List.mem_cons.mp hg with rfl | hg
  · exact T.nf_NoArrow_task
  rcases List.mem_cons.mp hg with rfl | hg
  · exact T.nf_NoArrow_place
  cases hg

theorem okx_GapTooShort {P : Program} {w : World} {K : PySem.W.Frag} {mg : Str → Option Value} {base : Heap} (T : Txt K mg) : ∃ fd, FnOk P w K mg base (L2.CX P w) 1 (ma K (ga K "GapTooShort") "__init__") fd ["self", "task", "place"] (spX (ga K "GapTooShort") ["task", "place"]) ∧ Binds K fd ["self", "task", "place"] [] := by
  obtain ⟨fd, F⟩ := T.d_GapTooShort_init
  refine ⟨fd, fn_exc (k := 0) F sc_GapTooShort_init T.ox_GapTooShort ?_ rfl (by decide) (fun cdv A outer s H E => pss_cons (ps_ost (pv 0) (pv 1)) (pss_cons (ps_ost (pv 0) (pv 2)) (pss_nil))), F.bindsN fun _ _ _ _ _ _ us hl => match us, hl with | [_, _, _], _ => rfl⟩
  intro g hg
  rcases List.mem_cons.mp hg with rfl | hg
  · exact T.nf_GapTooShort_task
  rcases List.mem_cons.mp hg with rfl | hg
  · exact T.nf_GapTooShort_place
  cases hg

theorem okx_UnknownJob {P : Program} {w : World} {K : PySem.W.Frag} {mg : Str → Option Value} {base : Heap} (T : Txt K mg) : ∃ fd, FnOk P w K mg base (L2.CX P w) 1 (ma K (ga K "UnknownJob") "__init__") fd ["self", "place"] (spX (ga K "UnknownJob") ["place"]) ∧ Binds K fd ["self", "place"] [] := by
  obtain ⟨fd, F⟩ := T.d_UnknownJob_init
  refine ⟨fd, fn_exc (k := 0) F sc_UnknownJob_init T.ox_UnknownJob ?_ rfl (by decide) (fun cdv A outer s H E => pss_cons (ps_ost (pv 0) (pv 1)) (pss_nil)), F.bindsN fun _ _ _ _ _ _ us hl => match us, hl with | [_, _], _ => rfl⟩
  intro g hg
  rcases List.mem_cons.mp hg with rfl | hg
  · exact T.nf_UnknownJob_place
  cases hg

theorem okx_EmptySlice {P : Program} {w : World} {K : PySem.W.Frag} {mg : Str → Option Value} {base : Heap} (T : Txt K mg) : ∃ fd, FnOk P w K mg base (L2.CX P w) 1 (ma K (ga K "EmptySlice") "__init__") fd ["self", "place"] (spX (ga K "EmptySlice") ["place"]) ∧ Binds K fd ["self", "place"] [] := by
  obtain ⟨fd, F⟩ := T.d_EmptySlice_init
  refine ⟨fd, fn_exc (k := 0) F sc_EmptySlice_init T.ox_EmptySlice ?_ rfl (by decide) (fun cdv A outer s H E => pss_cons (ps_ost (pv 0) (pv 1)) (pss_nil)), F.bindsN fun _ _ _ _ _ _ us hl => match us, hl with | [_, _], _ => rfl⟩
  intro g hg
  rcases List.mem_cons.mp hg with rfl | hg
  · exact T.nf_EmptySlice_place
  cases hg

theorem okx_Overlap {P : Program} {w : World} {K : PySem.W.Frag} {mg : Str → Option Value} {base : Heap} (T : Txt K mg) : ∃ fd, FnOk P w K mg base (L2.CX P w) 1 (ma K (ga K "Overlap") "__init__") fd ["self", "place"] (spX (ga K "Overlap") ["place"]) ∧ Binds K fd ["self", "place"] [] := by
  obtain ⟨fd, F⟩ := T.d_Overlap_init
  refine ⟨fd, fn_exc (k := 0) F sc_Overlap_init T.ox_Overlap ?_ rfl (by decide) (fun cdv A outer s H E => pss_cons (ps_ost (pv 0) (pv 1)) (pss_nil)), F.bindsN fun _ _ _ _ _ _ us hl => match us, hl with | [_, _], _ => rfl⟩
  intro g hg
  rcases List.mem_cons.mp hg with rfl | hg
  · exact T.nf_Overlap_place
  cases hg

theorem okx_TooEarly {P : Program} {w : World} {K : PySem.W.Frag} {mg : Str → Option Value} {base : Heap} (T : Txt K mg) : ∃ fd, FnOk P w K mg base (L2.CX P w) 1 (ma K (ga K "TooEarly") "__init__") fd ["self", "place"] (spX (ga K "TooEarly") ["place"]) ∧ Binds K fd ["self", "place"] [] := by
  obtain ⟨fd, F⟩ := T.d_TooEarly_init
  refine ⟨fd, fn_exc (k := 0) F sc_TooEarly_init T.ox_TooEarly ?_ rfl (by decide) (fun cdv A outer s H E => pss_cons (ps_ost (pv 0) (pv 1)) (pss_nil)), F.bindsN fun _ _ _ _ _ _ us hl => match us, hl with | [_, _], _ => rfl⟩
  intro g hg
  rcases List.mem_cons.mp hg with rfl | hg
  · exact T.nf_TooEarly_place
  cases hg

theorem okx_WrongAmount {P : Program} {w : World} {K : PySem.W.Frag} {mg : Str → Option Value} {base : Heap} (T : Txt K mg) : ∃ fd, FnOk P w K mg base (L2.CX P w) 1 (ma K (ga K "WrongAmount") "__init__") fd ["self", "job"] (spX (ga K "WrongAmount") ["job"]) ∧ Binds K fd ["self", "job"] [] := by
  obtain ⟨fd, F⟩ := T.d_WrongAmount_init
  refine ⟨fd, fn_exc (k := 0) F sc_WrongAmount_init T.ox_WrongAmount ?_ rfl (by decide) (fun cdv A outer s H E => pss_cons (ps_ost (pv 0) (pv 1)) (pss_nil)), F.bindsN fun _ _ _ _ _ _ us hl => match us, hl with | [_, _], _ => rfl⟩
  intro g hg
  rcases List.mem_cons.mp hg with rfl | hg
  · exact T.nf_WrongAmount_job
  cases hg

theorem okx_TooLong {P : Program} {w : World} {K : PySem.W.Frag} {mg : Str → Option Value} {base : Heap} (T : Txt K mg) : ∃ fd, FnOk P w K mg base (L2.CX P w) 1 (ma K (ga K "TooLong") "__init__") fd ["self", "period"] (spX (ga K "TooLong") ["period"]) ∧ Binds K fd ["self", "period"] [] := by
  obtain ⟨fd, F⟩ := T.d_TooLong_init
  refine ⟨fd, fn_exc (k := 0) F sc_TooLong_init T.ox_TooLong ?_ rfl (by decide) (fun cdv A outer s H E => pss_cons (ps_ost (pv 0) (pv 1)) (pss_nil)), F.bindsN fun _ _ _ _ _ _ us hl => match us, hl with | [_, _], _ => rfl⟩
  intro g hg
  rcases List.mem_cons.mp hg with rfl | hg
  · exact T.nf_TooLong_period
  cases hg

theorem okx_Falling {P : Program} {w : World} {K : PySem.W.Frag} {mg : Str → Option Value} {base : Heap} (T : Txt K mg) : ∃ fd, FnOk P w K mg base (L2.CX P w) 1 (ma K (ga K "Falling") "__init__") fd ["self", "gain"] (spX (ga K "Falling") ["gain"]) ∧ Binds K fd ["self", "gain"] [] := by
  obtain ⟨fd, F⟩ := T.d_Falling_init
  refine ⟨fd, fn_exc (k := 0) F sc_Falling_init T.ox_Falling ?_ rfl (by decide) (fun cdv A outer s H E => pss_cons (ps_ost (pv 0) (pv 1)) (pss_nil)), F.bindsN fun _ _ _ _ _ _ us hl => match us, hl with | [_, _], _ => rfl⟩
  intro g hg
  rcases List.mem_cons.mp hg with rfl | hg
  · exact T.nf_Falling_gain
  cases hg

theorem okx_BadCalendar {P : Program} {w : World} {K : PySem.W.Frag} {mg : Str → Option Value} {base : Heap} (T : Txt K mg) : ∃ fd, FnOk P w K mg base (L2.CX P w) 1 (ma K (ga K "BadCalendar") "__init__") fd ["self", "calendar"] (spX (ga K "BadCalendar") ["calendar"]) ∧ Binds K fd ["self", "calendar"] [] := by
  obtain ⟨fd, F⟩ := T.d_BadCalendar_init
  refine ⟨fd, fn_exc (k := 0) F sc_BadCalendar_init T.ox_BadCalendar ?_ rfl (by decide) (fun cdv A outer s H E => pss_cons (ps_ost (pv 0) (pv 1)) (pss_nil)), F.bindsN fun _ _ _ _ _ _ us hl => match us, hl with | [_, _], _ => rfl⟩
  intro g hg
  rcases List.mem_cons.mp hg with rfl | hg
  · exact T.nf_BadCalendar_calendar
  cases hg

theorem okx_Overloaded {P : Program} {w : World} {K : PySem.W.Frag} {mg : Str → Option Value} {base : Heap} (T : Txt K mg) : ∃ fd, FnOk P w K mg base (L2.CX P w) 1 (ma K (ga K "Overloaded") "__init__") fd ["self", "cost", "length"] (spX (ga K "Overloaded") ["cost", "length"]) ∧ Binds K fd ["self", "cost", "length"] [] := by
  obtain ⟨fd, F⟩ := T.d_Overloaded_init
  refine ⟨fd, fn_exc (k := 0) F sc_Overloaded_init T.ox_Overloaded ?_ rfl (by decide) (fun cdv A outer s H E => pss_cons (ps_ost (pv 0) (pv 1)) (pss_cons (ps_ost (pv 0) (pv 2)) (pss_nil))), F.bindsN fun _ _ _ _ _ _ us hl => match us, hl with | [_, _, _], _ => rfl⟩
  intro g hg
  rcases List.mem_cons.mp hg with rfl | hg
  · exact T.nf_Overloaded_cost
  rcases List.mem_cons.mp hg with rfl | hg
  · exact T.nf_Overloaded_length
  cases hg

theorem okx_LateSet {P : Program} {w : World} {K : PySem.W.Frag} {mg : Str → Option Value} {base : Heap} (T : Txt K mg) : ∃ fd, FnOk P w K mg base (L2.CX P w) 1 (ma K (ga K "LateSet") "__init__") fd ["self", "which"] (spX (ga K "LateSet") ["which"]) ∧ Binds K fd ["self", "which"] [] := by
  obtain ⟨fd, F⟩ := T.d_LateSet_init
  refine ⟨fd, fn_exc (k := 0) F sc_LateSet_init T.ox_LateSet ?_ rfl (by decide) (fun cdv A outer s H E => pss_cons (ps_ost (pv 0) (pv 1)) (pss_nil)), F.bindsN fun _ _ _ _ _ _ us hl => match us, hl with | [_, _], _ => rfl⟩
  intro g hg
  rcases List.mem_cons.mp hg with rfl | hg
  · exact T.nf_LateSet_which
  cases hg

theorem okx_Clash {P : Program} {w : World} {K : PySem.W.Frag} {mg : Str → Option Value} {base : Heap} (T : Txt K mg) : ∃ fd, FnOk P w K mg base (L2.CX P w) 1 (ma K (ga K "Clash") "__init__") fd ["self", "admitted", "refused"] (spX (ga K "Clash") ["admitted", "refused"]) ∧ Binds K fd ["self", "admitted", "refused"] [] := by
  obtain ⟨fd, F⟩ := T.d_Clash_init
  refine ⟨fd, fn_exc (k := 0) F sc_Clash_init T.ox_Clash ?_ rfl (by decide) (fun cdv A outer s H E => pss_cons (ps_ost (pv 0) (pv 1)) (pss_cons (ps_ost (pv 0) (pv 2)) (pss_nil))), F.bindsN fun _ _ _ _ _ _ us hl => match us, hl with | [_, _, _], _ => rfl⟩
  intro g hg
  rcases List.mem_cons.mp hg with rfl | hg
  · exact T.nf_Clash_admitted
  rcases List.mem_cons.mp hg with rfl | hg
  · exact T.nf_Clash_refused
  cases hg

theorem okx_NotOpen {P : Program} {w : World} {K : PySem.W.Frag} {mg : Str → Option Value} {base : Heap} (T : Txt K mg) : ∃ fd, FnOk P w K mg base (L2.CX P w) 1 (ma K (ga K "NotOpen") "__init__") fd ["self", "answer"] (spX (ga K "NotOpen") ["answer"]) ∧ Binds K fd ["self", "answer"] [] := by
  obtain ⟨fd, F⟩ := T.d_NotOpen_init
  refine ⟨fd, fn_exc (k := 0) F sc_NotOpen_init T.ox_NotOpen ?_ rfl (by decide) (fun cdv A outer s H E => pss_cons (ps_ost (pv 0) (pv 1)) (pss_nil)), F.bindsN fun _ _ _ _ _ _ us hl => match us, hl with | [_, _], _ => rfl⟩
  intro g hg
  rcases List.mem_cons.mp hg with rfl | hg
  · exact T.nf_NotOpen_answer
  cases hg

theorem okx_Refused {P : Program} {w : World} {K : PySem.W.Frag} {mg : Str → Option Value} {base : Heap} (T : Txt K mg) : ∃ fd, FnOk P w K mg base (L2.CX P w) 1 (ma K (ga K "Refused") "__init__") fd ["self", "name", "ticks", "excess"] (spX (ga K "Refused") ["name", "ticks", "excess"]) ∧ Binds K fd ["self", "name", "ticks", "excess"] [] := by
  obtain ⟨fd, F⟩ := T.d_Refused_init
  refine ⟨fd, fn_exc (k := 0) F sc_Refused_init T.ox_Refused ?_ rfl (by decide) (fun cdv A outer s H E => pss_cons (ps_ost (pv 0) (pv 1)) (pss_cons (ps_ost (pv 0) (pv 2)) (pss_cons (ps_ost (pv 0) (pv 3)) (pss_nil)))), F.bindsN fun _ _ _ _ _ _ us hl => match us, hl with | [_, _, _, _], _ => rfl⟩
  intro g hg
  rcases List.mem_cons.mp hg with rfl | hg
  · exact T.nf_Refused_name
  rcases List.mem_cons.mp hg with rfl | hg
  · exact T.nf_Refused_ticks
  rcases List.mem_cons.mp hg with rfl | hg
  · exact T.nf_Refused_excess
  cases hg

theorem okx_Present {P : Program} {w : World} {K : PySem.W.Frag} {mg : Str → Option Value} {base : Heap} (T : Txt K mg) : ∃ fd, FnOk P w K mg base (L2.CX P w) 1 (ma K (ga K "Present") "__init__") fd ["self", "name"] (spX (ga K "Present") ["name"]) ∧ Binds K fd ["self", "name"] [] := by
  obtain ⟨fd, F⟩ := T.d_Present_init
  refine ⟨fd, fn_exc (k := 0) F sc_Present_init T.ox_Present ?_ rfl (by decide) (fun cdv A outer s H E => pss_cons (ps_ost (pv 0) (pv 1)) (pss_nil)), F.bindsN fun _ _ _ _ _ _ us hl => match us, hl with | [_, _], _ => rfl⟩
  intro g hg
  rcases List.mem_cons.mp hg with rfl | hg
  · exact T.nf_Present_name
  cases hg

theorem okx_Absent {P : Program} {w : World} {K : PySem.W.Frag} {mg : Str → Option Value} {base : Heap} (T : Txt K mg) : ∃ fd, FnOk P w K mg base (L2.CX P w) 1 (ma K (ga K "Absent") "__init__") fd ["self", "name"] (spX (ga K "Absent") ["name"]) ∧ Binds K fd ["self", "name"] [] := by
  obtain ⟨fd, F⟩ := T.d_Absent_init
  refine ⟨fd, fn_exc (k := 0) F sc_Absent_init T.ox_Absent ?_ rfl (by decide) (fun cdv A outer s H E => pss_cons (ps_ost (pv 0) (pv 1)) (pss_nil)), F.bindsN fun _ _ _ _ _ _ us hl => match us, hl with | [_, _], _ => rfl⟩
  intro g hg
  rcases List.mem_cons.mp hg with rfl | hg
  · exact T.nf_Absent_name
  cases hg

theorem ok_law_pool {P : Program} {w : World} {K : PySem.W.Frag} {mg : Str → Option Value} {base : Heap} (T : Txt K mg) (TB : TabBs K mg base)  : Good P w K mg base 1 (some "_law_pool") (ga K "_law_pool") ["_law_script"] (sp_law_pool K) := by
  obtain ⟨fd, F⟩ := T.d_law_pool
  refine ⟨⟨fd, fn_d (k := 0) F sc_law_pool len_law_pool (t_law_pool K) (fun cdv A outer s H E WD hr tk hp => ?_) (pure_law_pool T), F.bindsN fun _ _ _ _ _ _ us hl => match us, hl with | [_], _ => rfl, F.kp⟩, T.g_law_pool⟩
  refine dss_cons (ds_set (i := 1) sc_law_pool.nd rfl (Or.inl rfl) de_int) ?_
  refine dss_cons (ds_for hp rfl (di_list (dv 0)) (dg_name (i := 2) sc_law_pool.nd rfl (Or.inl rfl)) (dss_one (ds_set (i := 1) sc_law_pool.nd rfl (Or.inl rfl) (de_mod (de_callTy call_int1 cd_int1 rfl T.b_int (by decide +kernel) (da_cons (de_add false (de_mul false (dv 1) de_int) (dv 2)) da_nil)) de_int)))) ?_
  exact dss_one (ds_ret (de_lst true (da_cons (de_lc true (own := [("_law_cell", 2)]) (c := .one 2) (te := dVar 2) (tt := dTest (dOp dGe (dVar 2) (dOp dPow (dC (.int 10)) (dC (.int 18))))) rfl sc_law_pool.nd (by simp [CT.in]) (di_list (dv 0)) (blkOk_by (own := [("_law_cell", 2)]) (N := nm_law_pool) (sc := defScope s_law_pool) (by decide +kernel)) (fun _ _ _ _ _ => pg_ct1 (i := 2) sc_law_pool.nd rfl (Or.inl rfl)) (fun _ _ _ _ _ => dts_one (dt_cmp op_ge od_cmpI (dv 2) (de_pow de_int de_int) (nomark _))) (fun _ _ _ _ _ => dv 2)) (da_cons (dv 1) (da_cons de_int da_nil)))))

theorem ok_law_draw {P : Program} {w : World} {K : PySem.W.Frag} {mg : Str → Option Value} {base : Heap} (T : Txt K mg) (TB : TabBs K mg base)  : Good P w K mg base 1 (some "_law_draw") (ga K "_law_draw") ["_law_pool_here", "_law_limit"] (sp_law_draw K) := by
  obtain ⟨fd, F⟩ := T.d_law_draw
  refine ⟨⟨fd, fn_d (k := 0) F sc_law_draw len_law_draw (t_law_draw K) (fun cdv A outer s H E WD hr tk hp => ?_) (pure_law_draw T), F.bindsN fun _ _ _ _ _ _ us hl => match us, hl with | [_, _], _ => rfl, F.kp⟩, T.g_law_draw⟩
  refine dss_cons (ds_set (i := 2) sc_law_draw.nd rfl (Or.inl rfl) (de_ix (dv 0) de_int)) ?_
  refine dss_cons (ds_if (dt_cmp (op_neA hr.units) od_ne (dv 2) (de_lst false da_nil) (nomark _)) (dss_cons (ds_set (i := 3) sc_law_draw.nd rfl (Or.inl rfl) (de_mod (de_callTy call_int1 cd_int1 rfl T.b_int (by decide +kernel) (da_cons (de_ix (dv 2) de_int) da_nil)) (dv 1)))
    (dss_cons (ds_asg (de_div (de_ix (dv 2) de_int) (dv 1)) (dg_sub (dv 2) de_int))
    (dss_cons (ds_if (dt_cmp (op_eqA hr.units) od_eq (de_ix (dv 2) de_int) de_int (nomark _)) (dss_one (ds_expr (de_bm PySem.F.plainAttrs_list PySem.F.slot_list_pop PySem.F.type_list_pop mt_popAt md_popAt (dv 2) (da_cons de_int da_nil)))) dss_nil)
    (dss_one (ds_ret (dv 3)))))) dss_nil) ?_
  refine dss_cons (ds_asg (de_add false (de_ix (dv 0) de_int) de_int) (dg_sub (dv 0) de_int)) ?_
  refine dss_cons (ds_set (i := 4) sc_law_draw.nd rfl (Or.inl rfl) (de_mod (de_pow (de_callTy call_int1 cd_int1 rfl T.b_int (by decide +kernel) (da_cons (de_add false (de_ix (dv 0) de_int) (de_mul false de_int (de_ix (dv 0) de_int))) da_nil)) de_int) de_int)) ?_
  refine dss_cons (ds_set (i := 5) sc_law_draw.nd rfl (Or.inl rfl) (de_mod (de_callTy call_int1 cd_int1 rfl T.b_int (by decide +kernel) (da_cons (de_add false (de_mul false (dv 4) de_int) (de_ix (dv 0) de_int)) da_nil)) de_int)) ?_
  exact dss_one (ds_ret (de_mod (de_div (de_callTy call_int1 cd_int1 rfl T.b_int (by decide +kernel) (da_cons (dv 5) da_nil)) de_int) (dv 1)))

theorem ok_law_simple {P : Program} {w : World} {K : PySem.W.Frag} {mg : Str → Option Value} {base : Heap} (T : Txt K mg) (TB : TabBs K mg base) (c_law_draw : Good P w K mg base 1 (some "_law_draw") (ga K "_law_draw") ["_law_pool_here", "_law_limit"] (sp_law_draw K)) : Good P w K mg base 2 (some "_law_simple") (ga K "_law_simple") ["_law_pool_here"] (sp_law_simple K) := by
  obtain ⟨_, c_law_draw_ok, c_law_draw_b, c_law_draw_kp⟩ := c_law_draw.ex
  have c_law_draw_g := c_law_draw.gl
  obtain ⟨fd, F⟩ := T.d_law_simple
  refine ⟨⟨fd, fn_d (k := 1) F sc_law_simple len_law_simple (t_law_simple K) (fun cdv A outer s H E WD hr tk hp => ?_) (pure_law_simple T), F.bindsN fun _ _ _ _ _ _ us hl => match us, hl with | [_], _ => rfl, F.kp⟩, T.g_law_simple⟩
  refine dss_cons (ds_set (i := 1) sc_law_simple.nd rfl (Or.inl rfl) (de_call c_law_draw_ok (hr.mono (by decide)) rfl c_law_draw_g c_law_draw_kp c_law_draw_b .nil (fun _ => .nil) tk (da_cons (dv 0) (da_cons de_int da_nil)))) ?_
  refine dss_cons (ds_set (i := 2) sc_law_simple.nd rfl (Or.inr rfl) de_str) ?_
  refine dss_cons (ds_if (dt_cmp (op_eqA hr.units) od_eq (dv 1) de_int (nomark _)) (dss_one (ds_ret (de_ix (de_lst false (da_cons de_non (da_cons de_bl (da_cons de_bl (da_cons de_int da_nil))))) (de_call c_law_draw_ok (hr.mono (by decide)) rfl c_law_draw_g c_law_draw_kp c_law_draw_b .nil (fun _ => .nil) tk (da_cons (dv 0) (da_cons de_int da_nil)))))) dss_nil) ?_
  refine dss_cons (ds_if (dt_cmp (op_eqA hr.units) od_eq (dv 1) de_int (nomark _)) (dss_one (ds_ret (de_add false (de_mul false (de_call c_law_draw_ok (hr.mono (by decide)) rfl c_law_draw_g c_law_draw_kp c_law_draw_b .nil (fun _ => .nil) tk (da_cons (dv 0) (da_cons (de_pow de_int de_int) da_nil))) (de_pow de_int de_int)) (de_call c_law_draw_ok (hr.mono (by decide)) rfl c_law_draw_g c_law_draw_kp c_law_draw_b .nil (fun _ => .nil) tk (da_cons (dv 0) (da_cons (de_pow de_int de_int) da_nil)))))) dss_nil) ?_
  refine dss_cons (ds_if (dt_cmp (op_eqA hr.units) od_eq (dv 1) de_int (nomark _)) (dss_one (ds_ret (de_neg (de_call c_law_draw_ok (hr.mono (by decide)) rfl c_law_draw_g c_law_draw_kp c_law_draw_b .nil (fun _ => .nil) tk (da_cons (dv 0) (da_cons (de_pow de_int de_int) da_nil)))))) dss_nil) ?_
  exact dss_one (ds_ret (de_bm PySem.F.plainAttrs_str PySem.F.slot_str_join PySem.F.type_str_join mt_join md_join de_str (da_cons (de_lc false (own := [("_law_k", 3)]) (c := .one 3) (te := dOp dIx (dVar 2) (dCall (sp_law_draw K) WD0 [] (daCons (dVar 0) (daCons (dCB dLen (daCons (dVar 2) daNil)) daNil)))) (tt := dYes) rfl sc_law_simple.nd (by simp [CT.in]) (di_range1 rfl T.b_range (da_cons (de_call c_law_draw_ok (hr.mono (by decide)) rfl c_law_draw_g c_law_draw_kp c_law_draw_b .nil (fun _ => .nil) tk (da_cons (dv 0) (da_cons de_int da_nil))) da_nil)) (blkOk_by (own := [("_law_k", 3)]) (N := nm_law_simple) (sc := defScope s_law_simple) (by decide +kernel)) (fun _ _ _ _ _ => pg_ct1 (i := 3) sc_law_simple.nd rfl (Or.inl rfl)) (fun _ _ _ _ _ => dts_nil) (fun _ _ _ _ _ => de_ix (dv 2) (de_call c_law_draw_ok (hr.mono (by decide)) rfl c_law_draw_g c_law_draw_kp c_law_draw_b .nil (fun _ => .nil) takes0 (da_cons (dv 0) (da_cons (de_callB call_len cd_len rfl T.b_len (by decide +kernel) (da_cons (dv 2) da_nil)) da_nil))))) da_nil)))

theorem ok_law_value {P : Program} {w : World} {K : PySem.W.Frag} {mg : Str → Option Value} {base : Heap} (T : Txt K mg) (TB : TabBs K mg base) (c_law_draw : Good P w K mg base 1 (some "_law_draw") (ga K "_law_draw") ["_law_pool_here", "_law_limit"] (sp_law_draw K)) (c_law_simple : Good P w K mg base 2 (some "_law_simple") (ga K "_law_simple") ["_law_pool_here"] (sp_law_simple K)) : Good P w K mg base 3 (some "_law_value") (ga K "_law_value") ["_law_pool_here"] (sp_law_value K) := by
  obtain ⟨_, c_law_draw_ok, c_law_draw_b, c_law_draw_kp⟩ := c_law_draw.ex
  have c_law_draw_g := c_law_draw.gl
  obtain ⟨_, c_law_simple_ok, c_law_simple_b, c_law_simple_kp⟩ := c_law_simple.ex
  have c_law_simple_g := c_law_simple.gl
  obtain ⟨fd, F⟩ := T.d_law_value
  refine ⟨⟨fd, fn_d (k := 2) F sc_law_value len_law_value (t_law_value K) (fun cdv A outer s H E WD hr tk hp => ?_) (pure_law_value T), F.bindsN fun _ _ _ _ _ _ us hl => match us, hl with | [_], _ => rfl, F.kp⟩, T.g_law_value⟩
  refine dss_cons (ds_if (dt_cmp (op_eqA hr.units) od_eq (de_call c_law_draw_ok (hr.mono (by decide)) rfl c_law_draw_g c_law_draw_kp c_law_draw_b .nil (fun _ => .nil) tk (da_cons (dv 0) (da_cons de_int da_nil))) de_int (nomark _)) (dss_one (ds_ret (de_tup (da_cons (de_call c_law_simple_ok (hr.mono (by decide)) rfl c_law_simple_g c_law_simple_kp c_law_simple_b .nil (fun _ => .nil) tk (da_cons (dv 0) da_nil)) (da_cons (de_tup (da_cons (de_call c_law_simple_ok (hr.mono (by decide)) rfl c_law_simple_g c_law_simple_kp c_law_simple_b .nil (fun _ => .nil) tk (da_cons (dv 0) da_nil)) (da_cons (de_call c_law_simple_ok (hr.mono (by decide)) rfl c_law_simple_g c_law_simple_kp c_law_simple_b .nil (fun _ => .nil) tk (da_cons (dv 0) da_nil)) da_nil))) da_nil))))) dss_nil) ?_
  exact dss_one (ds_ret (de_call c_law_simple_ok (hr.mono (by decide)) rfl c_law_simple_g c_law_simple_kp c_law_simple_b .nil (fun _ => .nil) tk (da_cons (dv 0) da_nil)))

theorem ok_law_marks {P : Program} {w : World} {K : PySem.W.Frag} {mg : Str → Option Value} {base : Heap} (T : Txt K mg) (TB : TabBs K mg base)  : Good P w K mg base 1 (some "_law_marks") (ga K "_law_marks") ["_law_e"] (sp_law_marks K) := by
  obtain ⟨fd, F⟩ := T.d_law_marks
  refine ⟨⟨fd, fn_d (k := 0) F sc_law_marks len_law_marks (t_law_marks K) (fun cdv A outer s H E WD hr tk hp => ?_) (pure_law_marks T), F.bindsN fun _ _ _ _ _ _ us hl => match us, hl with | [_], _ => rfl, F.kp⟩, T.g_law_marks⟩
  refine dss_cons (ds_set (i := 1) sc_law_marks.nd rfl (Or.inl rfl) (de_lst false (da_cons (de_callB call_isV cd_isV rfl T.b_isinstance (by decide +kernel) (da_cons (dv 0) (da_cons (de_globR rfl T.g_BadName) da_nil))) (da_cons (de_callB call_isV cd_isV rfl T.b_isinstance (by decide +kernel) (da_cons (dv 0) (da_cons (de_globR rfl T.g_WrongCount) da_nil))) (da_cons (de_callB call_isV cd_isV rfl T.b_isinstance (by decide +kernel) (da_cons (dv 0) (da_cons (de_globR rfl T.g_OutOfRange) da_nil))) da_nil))))) ?_
  refine dss_cons (ds_set (i := 1) sc_law_marks.nd rfl (Or.inl rfl) (de_add false (dv 1) (de_lst false (da_cons (de_callB call_isV cd_isV rfl T.b_isinstance (by decide +kernel) (da_cons (dv 0) (da_cons (de_globR rfl T.g_Repeated) da_nil))) (da_cons (de_callB call_isV cd_isV rfl T.b_isinstance (by decide +kernel) (da_cons (dv 0) (da_cons (de_globR rfl T.g_RepeatedArrow) da_nil))) (da_cons (de_callB call_isV cd_isV rfl T.b_isinstance (by decide +kernel) (da_cons (dv 0) (da_cons (de_globR rfl T.g_UnknownKind) da_nil))) da_nil)))))) ?_
  refine dss_cons (ds_set (i := 1) sc_law_marks.nd rfl (Or.inl rfl) (de_add false (dv 1) (de_lst false (da_cons (de_callB call_isV cd_isV rfl T.b_isinstance (by decide +kernel) (da_cons (dv 0) (da_cons (de_globR rfl T.g_UnknownArrow) da_nil))) (da_cons (de_callB call_isV cd_isV rfl T.b_isinstance (by decide +kernel) (da_cons (dv 0) (da_cons (de_globR rfl T.g_BadLine) da_nil))) (da_cons (de_callB call_isV cd_isV rfl T.b_isinstance (by decide +kernel) (da_cons (dv 0) (da_cons (de_globR rfl T.g_BadCost) da_nil))) da_nil)))))) ?_
  refine dss_cons (ds_set (i := 1) sc_law_marks.nd rfl (Or.inl rfl) (de_add false (dv 1) (de_lst false (da_cons (de_callB call_isV cd_isV rfl T.b_isinstance (by decide +kernel) (da_cons (dv 0) (da_cons (de_globR rfl T.g_BadRelease) da_nil))) (da_cons (de_callB call_isV cd_isV rfl T.b_isinstance (by decide +kernel) (da_cons (dv 0) (da_cons (de_globR rfl T.g_NoArrow) da_nil))) (da_cons (de_callB call_isV cd_isV rfl T.b_isinstance (by decide +kernel) (da_cons (dv 0) (da_cons (de_globR rfl T.g_GapTooShort) da_nil))) da_nil)))))) ?_
  refine dss_cons (ds_set (i := 1) sc_law_marks.nd rfl (Or.inl rfl) (de_add false (dv 1) (de_lst false (da_cons (de_callB call_isV cd_isV rfl T.b_isinstance (by decide +kernel) (da_cons (dv 0) (da_cons (de_globR rfl T.g_UnknownJob) da_nil))) (da_cons (de_callB call_isV cd_isV rfl T.b_isinstance (by decide +kernel) (da_cons (dv 0) (da_cons (de_globR rfl T.g_EmptySlice) da_nil))) (da_cons (de_callB call_isV cd_isV rfl T.b_isinstance (by decide +kernel) (da_cons (dv 0) (da_cons (de_globR rfl T.g_Overlap) da_nil))) da_nil)))))) ?_
  refine dss_cons (ds_set (i := 1) sc_law_marks.nd rfl (Or.inl rfl) (de_add false (dv 1) (de_lst false (da_cons (de_callB call_isV cd_isV rfl T.b_isinstance (by decide +kernel) (da_cons (dv 0) (da_cons (de_globR rfl T.g_TooEarly) da_nil))) (da_cons (de_callB call_isV cd_isV rfl T.b_isinstance (by decide +kernel) (da_cons (dv 0) (da_cons (de_globR rfl T.g_WrongAmount) da_nil))) (da_cons (de_callB call_isV cd_isV rfl T.b_isinstance (by decide +kernel) (da_cons (dv 0) (da_cons (de_globR rfl T.g_BadRow) da_nil))) da_nil)))))) ?_
  refine dss_cons (ds_set (i := 1) sc_law_marks.nd rfl (Or.inl rfl) (de_add false (dv 1) (de_lst false (da_cons (de_callB call_isV cd_isV rfl T.b_isinstance (by decide +kernel) (da_cons (dv 0) (da_cons (de_globR rfl T.g_TooLong) da_nil))) (da_cons (de_callB call_isV cd_isV rfl T.b_isinstance (by decide +kernel) (da_cons (dv 0) (da_cons (de_globR rfl T.g_Falling) da_nil))) (da_cons (de_callB call_isV cd_isV rfl T.b_isinstance (by decide +kernel) (da_cons (dv 0) (da_cons (de_globR rfl T.g_BadCalendar) da_nil))) da_nil)))))) ?_
  refine dss_cons (ds_set (i := 1) sc_law_marks.nd rfl (Or.inl rfl) (de_add false (dv 1) (de_lst false (da_cons (de_callB call_isV cd_isV rfl T.b_isinstance (by decide +kernel) (da_cons (dv 0) (da_cons (de_globR rfl T.g_Overloaded) da_nil))) (da_cons (de_callB call_isV cd_isV rfl T.b_isinstance (by decide +kernel) (da_cons (dv 0) (da_cons (de_globR rfl T.g_LateSet) da_nil))) (da_cons (de_callB call_isV cd_isV rfl T.b_isinstance (by decide +kernel) (da_cons (dv 0) (da_cons (de_globR rfl T.g_Clash) da_nil))) da_nil)))))) ?_
  refine dss_cons (ds_set (i := 1) sc_law_marks.nd rfl (Or.inl rfl) (de_add false (dv 1) (de_lst false (da_cons (de_callB call_isV cd_isV rfl T.b_isinstance (by decide +kernel) (da_cons (dv 0) (da_cons (de_globR rfl T.g_NotOpen) da_nil))) (da_cons (de_callB call_isV cd_isV rfl T.b_isinstance (by decide +kernel) (da_cons (dv 0) (da_cons (de_globR rfl T.g_Refused) da_nil))) (da_cons (de_callB call_isV cd_isV rfl T.b_isinstance (by decide +kernel) (da_cons (dv 0) (da_cons (de_globR rfl T.g_Present) da_nil))) da_nil)))))) ?_
  refine dss_cons (ds_set (i := 1) sc_law_marks.nd rfl (Or.inl rfl) (de_add false (dv 1) (de_lst false (da_cons (de_callB call_isV cd_isV rfl T.b_isinstance (by decide +kernel) (da_cons (dv 0) (da_cons (de_globR rfl T.g_Absent) da_nil))) (da_cons (de_callB call_isV cd_isV rfl T.b_isinstance (by decide +kernel) (da_cons (dv 0) (da_cons (de_globR rfl T.g_NothingToUndo) da_nil))) da_nil))))) ?_
  exact dss_one (ds_ret (dv 1))

theorem ok_law_own {P : Program} {w : World} {K : PySem.W.Frag} {mg : Str → Option Value} {base : Heap} (T : Txt K mg) (TB : TabBs K mg base) (c_law_marks : Good P w K mg base 1 (some "_law_marks") (ga K "_law_marks") ["_law_e"] (sp_law_marks K)) : Good P w K mg base 2 (some "_law_own") (ga K "_law_own") ["_law_e", "_law_place"] (sp_law_own K) := by
  obtain ⟨_, c_law_marks_ok, c_law_marks_b, c_law_marks_kp⟩ := c_law_marks.ex
  have c_law_marks_g := c_law_marks.gl
  obtain ⟨fd, F⟩ := T.d_law_own
  refine ⟨⟨fd, fn_d (k := 1) F sc_law_own len_law_own (t_law_own K) (fun cdv A outer s H E WD hr tk hp => ?_) (pure_law_own T), F.bindsN fun _ _ _ _ _ _ us hl => match us, hl with | [_, _], _ => rfl, F.kp⟩, T.g_law_own⟩
  refine dss_cons (ds_set (i := 2) sc_law_own.nd rfl (Or.inl rfl) (de_call c_law_marks_ok (hr.mono (by decide)) rfl c_law_marks_g c_law_marks_kp c_law_marks_b .nil (fun _ => .nil) tk (da_cons (dv 0) da_nil))) ?_
  refine dss_cons (ds_if (dt_w (dw_or (dt_cmp (op_neA hr.units) od_ne (de_bm PySem.F.plainAttrs_list PySem.F.slot_list_count PySem.F.type_list_count (mt_countD hr.units) md_countD (dv 2) (da_cons de_bl da_nil)) de_int (nomark _)) (dw_or1 (dt_cmp op_notBl od_notB (de_ix (dv 2) (dv 1)) de_bl (nomark _))))) (dss_one (ds_ret de_bl)) dss_nil) ?_
  exact dss_one (ds_ret (de_and (de_callB call_isV cd_isV rfl T.b_isinstance (by decide +kernel) (da_cons (dv 0) (da_cons (de_globR rfl T.g_DuesError) da_nil))) (de_one (de_callB call_isV cd_isV rfl T.b_isinstance (by decide +kernel) (da_cons (dv 0) (da_cons (de_ty rfl T.b_ValueError (by decide +kernel)) da_nil))))))

theorem ok_law_same {P : Program} {w : World} {K : PySem.W.Frag} {mg : Str → Option Value} {base : Heap} (T : Txt K mg) (TB : TabBs K mg base)  : Good P w K mg base 1 (some "_law_same") (ga K "_law_same") ["_law_told", "_law_due"] (sp_law_same K) := by
  obtain ⟨fd, F⟩ := T.d_law_same
  refine ⟨⟨fd, fn_d (k := 0) F sc_law_same len_law_same (t_law_same K) (fun cdv A outer s H E WD hr tk hp => ?_) (pure_law_same T), F.bindsN fun _ _ _ _ _ _ us hl => match us, hl with | [_, _], _ => rfl, F.kp⟩, T.g_law_same⟩
  exact dss_one (ds_ret (de_and (de_cmp (op_eqA hr.units) od_eq (de_callB call_isi cd_isi rfl T.b_isinstance (by decide +kernel) (da_cons (dv 0) (da_cons (de_ty rfl T.b_bool (by decide +kernel)) da_nil))) (de_callB call_isi cd_isi rfl T.b_isinstance (by decide +kernel) (da_cons (dv 1) (da_cons (de_ty rfl T.b_bool (by decide +kernel)) da_nil))) (nomark _)) (de_one (de_cmp (op_eqA hr.units) od_eq (dv 0) (dv 1) (nomark _)))))

theorem ok_law_first_ones {P : Program} {w : World} {K : PySem.W.Frag} {mg : Str → Option Value} {base : Heap} (T : Txt K mg) (TB : TabBs K mg base) (c_law_own : Good P w K mg base 2 (some "_law_own") (ga K "_law_own") ["_law_e", "_law_place"] (sp_law_own K)) (c_law_same : Good P w K mg base 1 (some "_law_same") (ga K "_law_same") ["_law_told", "_law_due"] (sp_law_same K)) : Good P w K mg base 3 (some "_law_first_ones") (ga K "_law_first_ones") ["_law_a", "_law_b", "_law_c"] (sp_law_first_ones K) := by
  obtain ⟨_, c_law_own_ok, c_law_own_b, c_law_own_kp⟩ := c_law_own.ex
  have c_law_own_g := c_law_own.gl
  obtain ⟨_, c_law_same_ok, c_law_same_b, c_law_same_kp⟩ := c_law_same.ex
  have c_law_same_g := c_law_same.gl
  obtain ⟨_, x_BadCost_ok, x_BadCost_b⟩ := okx_BadCost (P := P) (w := w) (base := base) T
  obtain ⟨_, x_BadLine_ok, x_BadLine_b⟩ := okx_BadLine (P := P) (w := w) (base := base) T
  obtain ⟨_, x_BadName_ok, x_BadName_b⟩ := okx_BadName (P := P) (w := w) (base := base) T
  obtain ⟨_, x_OutOfRange_ok, x_OutOfRange_b⟩ := okx_OutOfRange (P := P) (w := w) (base := base) T
  obtain ⟨_, x_Repeated_ok, x_Repeated_b⟩ := okx_Repeated (P := P) (w := w) (base := base) T
  obtain ⟨_, x_RepeatedArrow_ok, x_RepeatedArrow_b⟩ := okx_RepeatedArrow (P := P) (w := w) (base := base) T
  obtain ⟨_, x_UnknownArrow_ok, x_UnknownArrow_b⟩ := okx_UnknownArrow (P := P) (w := w) (base := base) T
  obtain ⟨_, x_UnknownKind_ok, x_UnknownKind_b⟩ := okx_UnknownKind (P := P) (w := w) (base := base) T
  obtain ⟨_, x_WrongCount_ok, x_WrongCount_b⟩ := okx_WrongCount (P := P) (w := w) (base := base) T
  obtain ⟨fd, F⟩ := T.d_law_first_ones
  refine ⟨⟨fd, fn_d (k := 2) F sc_law_first_ones len_law_first_ones (t_law_first_ones K) (fun cdv A outer s H E WD hr tk hp => ?_) (pure_law_first_ones T), F.bindsN fun _ _ _ _ _ _ us hl => match us, hl with | [_, _, _], _ => rfl, F.kp⟩, T.g_law_first_ones⟩
  refine dss_cons (ds_set (i := 3) sc_law_first_ones.nd rfl (Or.inl rfl) (de_makeX T.ox_BadName T.oxi_BadName T.oxf_BadName x_BadName_ok (hr.mono (by decide)) x_BadName_b rfl T.g_BadName (by decide) (da_cons (dv 0) da_nil))) ?_
  refine dss_cons (ds_if (dt_w (dw_or (dt_not (dt_tru (de_call c_law_own_ok (hr.mono (by decide)) rfl c_law_own_g c_law_own_kp c_law_own_b .nil (fun _ => .nil) tk (da_cons (dv 3) (da_cons de_int da_nil))))) (dw_or1 (dt_not (dt_tru (de_call c_law_same_ok (hr.mono (by decide)) rfl c_law_same_g c_law_same_kp c_law_same_b .nil (fun _ => .nil) tk (da_cons (de_xv T.xf_BadName T.nf_BadName_name (dv 3)) (da_cons (dv 0) da_nil)))))))) (dss_one (ds_ret (de_wk de_bl))) dss_nil) ?_
  refine dss_cons (ds_set (i := 3) sc_law_first_ones.nd rfl (Or.inl rfl) (de_makeX T.ox_WrongCount T.oxi_WrongCount T.oxf_WrongCount x_WrongCount_ok (hr.mono (by decide)) x_WrongCount_b rfl T.g_WrongCount (by decide) (da_cons (dv 0) (da_cons (dv 1) da_nil)))) ?_
  refine dss_cons (ds_if (dt_w (dw_or (dt_not (dt_tru (de_call c_law_own_ok (hr.mono (by decide)) rfl c_law_own_g c_law_own_kp c_law_own_b .nil (fun _ => .nil) tk (da_cons (dv 3) (da_cons de_int da_nil))))) (dw_or (dt_not (dt_tru (de_call c_law_same_ok (hr.mono (by decide)) rfl c_law_same_g c_law_same_kp c_law_same_b .nil (fun _ => .nil) tk (da_cons (de_xv T.xf_WrongCount T.nf_WrongCount_what (dv 3)) (da_cons (dv 0) da_nil))))) (dw_or1 (dt_not (dt_tru (de_call c_law_same_ok (hr.mono (by decide)) rfl c_law_same_g c_law_same_kp c_law_same_b .nil (fun _ => .nil) tk (da_cons (de_xv T.xf_WrongCount T.nf_WrongCount_count (dv 3)) (da_cons (dv 1) da_nil))))))))) (dss_one (ds_ret (de_wk de_bl))) dss_nil) ?_
  refine dss_cons (ds_set (i := 3) sc_law_first_ones.nd rfl (Or.inl rfl) (de_makeX T.ox_OutOfRange T.oxi_OutOfRange T.oxf_OutOfRange x_OutOfRange_ok (hr.mono (by decide)) x_OutOfRange_b rfl T.g_OutOfRange (by decide) (da_cons (dv 0) (da_cons (dv 1) da_nil)))) ?_
  refine dss_cons (ds_if (dt_w (dw_or (dt_not (dt_tru (de_call c_law_own_ok (hr.mono (by decide)) rfl c_law_own_g c_law_own_kp c_law_own_b .nil (fun _ => .nil) tk (da_cons (dv 3) (da_cons de_int da_nil))))) (dw_or (dt_not (dt_tru (de_call c_law_same_ok (hr.mono (by decide)) rfl c_law_same_g c_law_same_kp c_law_same_b .nil (fun _ => .nil) tk (da_cons (de_xv T.xf_OutOfRange T.nf_OutOfRange_what (dv 3)) (da_cons (dv 0) da_nil))))) (dw_or1 (dt_not (dt_tru (de_call c_law_same_ok (hr.mono (by decide)) rfl c_law_same_g c_law_same_kp c_law_same_b .nil (fun _ => .nil) tk (da_cons (de_xv T.xf_OutOfRange T.nf_OutOfRange_value (dv 3)) (da_cons (dv 1) da_nil))))))))) (dss_one (ds_ret (de_wk de_bl))) dss_nil) ?_
  refine dss_cons (ds_set (i := 3) sc_law_first_ones.nd rfl (Or.inl rfl) (de_makeX T.ox_Repeated T.oxi_Repeated T.oxf_Repeated x_Repeated_ok (hr.mono (by decide)) x_Repeated_b rfl T.g_Repeated (by decide) (da_cons (dv 0) da_nil))) ?_
  refine dss_cons (ds_if (dt_w (dw_or (dt_not (dt_tru (de_call c_law_own_ok (hr.mono (by decide)) rfl c_law_own_g c_law_own_kp c_law_own_b .nil (fun _ => .nil) tk (da_cons (dv 3) (da_cons de_int da_nil))))) (dw_or1 (dt_not (dt_tru (de_call c_law_same_ok (hr.mono (by decide)) rfl c_law_same_g c_law_same_kp c_law_same_b .nil (fun _ => .nil) tk (da_cons (de_xv T.xf_Repeated T.nf_Repeated_name (dv 3)) (da_cons (dv 0) da_nil)))))))) (dss_one (ds_ret (de_wk de_bl))) dss_nil) ?_
  refine dss_cons (ds_set (i := 3) sc_law_first_ones.nd rfl (Or.inl rfl) (de_makeX T.ox_RepeatedArrow T.oxi_RepeatedArrow T.oxf_RepeatedArrow x_RepeatedArrow_ok (hr.mono (by decide)) x_RepeatedArrow_b rfl T.g_RepeatedArrow (by decide) (da_cons (dv 0) (da_cons (dv 1) da_nil)))) ?_
  refine dss_cons (ds_if (dt_w (dw_or (dt_not (dt_tru (de_call c_law_own_ok (hr.mono (by decide)) rfl c_law_own_g c_law_own_kp c_law_own_b .nil (fun _ => .nil) tk (da_cons (dv 3) (da_cons de_int da_nil))))) (dw_or (dt_not (dt_tru (de_call c_law_same_ok (hr.mono (by decide)) rfl c_law_same_g c_law_same_kp c_law_same_b .nil (fun _ => .nil) tk (da_cons (de_xv T.xf_RepeatedArrow T.nf_RepeatedArrow_first (dv 3)) (da_cons (dv 0) da_nil))))) (dw_or1 (dt_not (dt_tru (de_call c_law_same_ok (hr.mono (by decide)) rfl c_law_same_g c_law_same_kp c_law_same_b .nil (fun _ => .nil) tk (da_cons (de_xv T.xf_RepeatedArrow T.nf_RepeatedArrow_second (dv 3)) (da_cons (dv 1) da_nil))))))))) (dss_one (ds_ret (de_wk de_bl))) dss_nil) ?_
  refine dss_cons (ds_set (i := 3) sc_law_first_ones.nd rfl (Or.inl rfl) (de_makeX T.ox_UnknownKind T.oxi_UnknownKind T.oxf_UnknownKind x_UnknownKind_ok (hr.mono (by decide)) x_UnknownKind_b rfl T.g_UnknownKind (by decide) (da_cons (dv 0) da_nil))) ?_
  refine dss_cons (ds_if (dt_w (dw_or (dt_not (dt_tru (de_call c_law_own_ok (hr.mono (by decide)) rfl c_law_own_g c_law_own_kp c_law_own_b .nil (fun _ => .nil) tk (da_cons (dv 3) (da_cons de_int da_nil))))) (dw_or1 (dt_not (dt_tru (de_call c_law_same_ok (hr.mono (by decide)) rfl c_law_same_g c_law_same_kp c_law_same_b .nil (fun _ => .nil) tk (da_cons (de_xv T.xf_UnknownKind T.nf_UnknownKind_name (dv 3)) (da_cons (dv 0) da_nil)))))))) (dss_one (ds_ret (de_wk de_bl))) dss_nil) ?_
  refine dss_cons (ds_set (i := 3) sc_law_first_ones.nd rfl (Or.inl rfl) (de_makeX T.ox_UnknownArrow T.oxi_UnknownArrow T.oxf_UnknownArrow x_UnknownArrow_ok (hr.mono (by decide)) x_UnknownArrow_b rfl T.g_UnknownArrow (by decide) (da_cons (dv 0) (da_cons (dv 1) da_nil)))) ?_
  refine dss_cons (ds_if (dt_w (dw_or (dt_not (dt_tru (de_call c_law_own_ok (hr.mono (by decide)) rfl c_law_own_g c_law_own_kp c_law_own_b .nil (fun _ => .nil) tk (da_cons (dv 3) (da_cons de_int da_nil))))) (dw_or (dt_not (dt_tru (de_call c_law_same_ok (hr.mono (by decide)) rfl c_law_same_g c_law_same_kp c_law_same_b .nil (fun _ => .nil) tk (da_cons (de_xv T.xf_UnknownArrow T.nf_UnknownArrow_first (dv 3)) (da_cons (dv 0) da_nil))))) (dw_or1 (dt_not (dt_tru (de_call c_law_same_ok (hr.mono (by decide)) rfl c_law_same_g c_law_same_kp c_law_same_b .nil (fun _ => .nil) tk (da_cons (de_xv T.xf_UnknownArrow T.nf_UnknownArrow_second (dv 3)) (da_cons (dv 1) da_nil))))))))) (dss_one (ds_ret (de_wk de_bl))) dss_nil) ?_
  refine dss_cons (ds_set (i := 3) sc_law_first_ones.nd rfl (Or.inl rfl) (de_makeX T.ox_BadLine T.oxi_BadLine T.oxf_BadLine x_BadLine_ok (hr.mono (by decide)) x_BadLine_b rfl T.g_BadLine (by decide) (da_cons (dv 0) da_nil))) ?_
  refine dss_cons (ds_if (dt_w (dw_or (dt_not (dt_tru (de_call c_law_own_ok (hr.mono (by decide)) rfl c_law_own_g c_law_own_kp c_law_own_b .nil (fun _ => .nil) tk (da_cons (dv 3) (da_cons de_int da_nil))))) (dw_or1 (dt_not (dt_tru (de_call c_law_same_ok (hr.mono (by decide)) rfl c_law_same_g c_law_same_kp c_law_same_b .nil (fun _ => .nil) tk (da_cons (de_xv T.xf_BadLine T.nf_BadLine_line (dv 3)) (da_cons (dv 0) da_nil)))))))) (dss_one (ds_ret (de_wk de_bl))) dss_nil) ?_
  refine dss_cons (ds_set (i := 3) sc_law_first_ones.nd rfl (Or.inl rfl) (de_makeX T.ox_BadCost T.oxi_BadCost T.oxf_BadCost x_BadCost_ok (hr.mono (by decide)) x_BadCost_b rfl T.g_BadCost (by decide) (da_cons (dv 0) (da_cons (dv 1) da_nil)))) ?_
  refine dss_cons (ds_if (dt_w (dw_or (dt_not (dt_tru (de_call c_law_own_ok (hr.mono (by decide)) rfl c_law_own_g c_law_own_kp c_law_own_b .nil (fun _ => .nil) tk (da_cons (dv 3) (da_cons de_int da_nil))))) (dw_or (dt_not (dt_tru (de_call c_law_same_ok (hr.mono (by decide)) rfl c_law_same_g c_law_same_kp c_law_same_b .nil (fun _ => .nil) tk (da_cons (de_xv T.xf_BadCost T.nf_BadCost_task (dv 3)) (da_cons (dv 0) da_nil))))) (dw_or1 (dt_not (dt_tru (de_call c_law_same_ok (hr.mono (by decide)) rfl c_law_same_g c_law_same_kp c_law_same_b .nil (fun _ => .nil) tk (da_cons (de_xv T.xf_BadCost T.nf_BadCost_place (dv 3)) (da_cons (dv 1) da_nil))))))))) (dss_one (ds_ret (de_wk de_bl))) dss_nil) ?_
  exact dss_one (ds_ret (de_wk de_bl))

theorem ok_law_second_ones {P : Program} {w : World} {K : PySem.W.Frag} {mg : Str → Option Value} {base : Heap} (T : Txt K mg) (TB : TabBs K mg base) (c_law_own : Good P w K mg base 2 (some "_law_own") (ga K "_law_own") ["_law_e", "_law_place"] (sp_law_own K)) (c_law_same : Good P w K mg base 1 (some "_law_same") (ga K "_law_same") ["_law_told", "_law_due"] (sp_law_same K)) : Good P w K mg base 3 (some "_law_second_ones") (ga K "_law_second_ones") ["_law_a", "_law_b", "_law_c"] (sp_law_second_ones K) := by
  obtain ⟨_, c_law_own_ok, c_law_own_b, c_law_own_kp⟩ := c_law_own.ex
  have c_law_own_g := c_law_own.gl
  obtain ⟨_, c_law_same_ok, c_law_same_b, c_law_same_kp⟩ := c_law_same.ex
  have c_law_same_g := c_law_same.gl
  obtain ⟨_, x_BadRelease_ok, x_BadRelease_b⟩ := okx_BadRelease (P := P) (w := w) (base := base) T
  obtain ⟨_, x_EmptySlice_ok, x_EmptySlice_b⟩ := okx_EmptySlice (P := P) (w := w) (base := base) T
  obtain ⟨_, x_GapTooShort_ok, x_GapTooShort_b⟩ := okx_GapTooShort (P := P) (w := w) (base := base) T
  obtain ⟨_, x_NoArrow_ok, x_NoArrow_b⟩ := okx_NoArrow (P := P) (w := w) (base := base) T
  obtain ⟨_, x_Overlap_ok, x_Overlap_b⟩ := okx_Overlap (P := P) (w := w) (base := base) T
  obtain ⟨_, x_TooEarly_ok, x_TooEarly_b⟩ := okx_TooEarly (P := P) (w := w) (base := base) T
  obtain ⟨_, x_UnknownJob_ok, x_UnknownJob_b⟩ := okx_UnknownJob (P := P) (w := w) (base := base) T
  obtain ⟨_, x_WrongAmount_ok, x_WrongAmount_b⟩ := okx_WrongAmount (P := P) (w := w) (base := base) T
  obtain ⟨fd, F⟩ := T.d_law_second_ones
  refine ⟨⟨fd, fn_d (k := 2) F sc_law_second_ones len_law_second_ones (t_law_second_ones K) (fun cdv A outer s H E WD hr tk hp => ?_) (pure_law_second_ones T), F.bindsN fun _ _ _ _ _ _ us hl => match us, hl with | [_, _, _], _ => rfl, F.kp⟩, T.g_law_second_ones⟩
  refine dss_cons (ds_set (i := 3) sc_law_second_ones.nd rfl (Or.inl rfl) (de_makeX T.ox_BadRelease T.oxi_BadRelease T.oxf_BadRelease x_BadRelease_ok (hr.mono (by decide)) x_BadRelease_b rfl T.g_BadRelease (by decide) (da_cons (dv 0) (da_cons (dv 1) da_nil)))) ?_
  refine dss_cons (ds_if (dt_w (dw_or (dt_not (dt_tru (de_call c_law_own_ok (hr.mono (by decide)) rfl c_law_own_g c_law_own_kp c_law_own_b .nil (fun _ => .nil) tk (da_cons (dv 3) (da_cons de_int da_nil))))) (dw_or (dt_not (dt_tru (de_call c_law_same_ok (hr.mono (by decide)) rfl c_law_same_g c_law_same_kp c_law_same_b .nil (fun _ => .nil) tk (da_cons (de_xv T.xf_BadRelease T.nf_BadRelease_task (dv 3)) (da_cons (dv 0) da_nil))))) (dw_or1 (dt_not (dt_tru (de_call c_law_same_ok (hr.mono (by decide)) rfl c_law_same_g c_law_same_kp c_law_same_b .nil (fun _ => .nil) tk (da_cons (de_xv T.xf_BadRelease T.nf_BadRelease_place (dv 3)) (da_cons (dv 1) da_nil))))))))) (dss_one (ds_ret (de_wk de_bl))) dss_nil) ?_
  refine dss_cons (ds_set (i := 3) sc_law_second_ones.nd rfl (Or.inl rfl) (de_makeX T.ox_NoArrow T.oxi_NoArrow T.oxf_NoArrow x_NoArrow_ok (hr.mono (by decide)) x_NoArrow_b rfl T.g_NoArrow (by decide) (da_cons (dv 0) (da_cons (dv 1) da_nil)))) ?_
  refine dss_cons (ds_if (dt_w (dw_or (dt_not (dt_tru (de_call c_law_own_ok (hr.mono (by decide)) rfl c_law_own_g c_law_own_kp c_law_own_b .nil (fun _ => .nil) tk (da_cons (dv 3) (da_cons de_int da_nil))))) (dw_or (dt_not (dt_tru (de_call c_law_same_ok (hr.mono (by decide)) rfl c_law_same_g c_law_same_kp c_law_same_b .nil (fun _ => .nil) tk (da_cons (de_xv T.xf_NoArrow T.nf_NoArrow_task (dv 3)) (da_cons (dv 0) da_nil))))) (dw_or1 (dt_not (dt_tru (de_call c_law_same_ok (hr.mono (by decide)) rfl c_law_same_g c_law_same_kp c_law_same_b .nil (fun _ => .nil) tk (da_cons (de_xv T.xf_NoArrow T.nf_NoArrow_place (dv 3)) (da_cons (dv 1) da_nil))))))))) (dss_one (ds_ret (de_wk de_bl))) dss_nil) ?_
  refine dss_cons (ds_set (i := 3) sc_law_second_ones.nd rfl (Or.inl rfl) (de_makeX T.ox_GapTooShort T.oxi_GapTooShort T.oxf_GapTooShort x_GapTooShort_ok (hr.mono (by decide)) x_GapTooShort_b rfl T.g_GapTooShort (by decide) (da_cons (dv 0) (da_cons (dv 1) da_nil)))) ?_
  refine dss_cons (ds_if (dt_w (dw_or (dt_not (dt_tru (de_call c_law_own_ok (hr.mono (by decide)) rfl c_law_own_g c_law_own_kp c_law_own_b .nil (fun _ => .nil) tk (da_cons (dv 3) (da_cons de_int da_nil))))) (dw_or (dt_not (dt_tru (de_call c_law_same_ok (hr.mono (by decide)) rfl c_law_same_g c_law_same_kp c_law_same_b .nil (fun _ => .nil) tk (da_cons (de_xv T.xf_GapTooShort T.nf_GapTooShort_task (dv 3)) (da_cons (dv 0) da_nil))))) (dw_or1 (dt_not (dt_tru (de_call c_law_same_ok (hr.mono (by decide)) rfl c_law_same_g c_law_same_kp c_law_same_b .nil (fun _ => .nil) tk (da_cons (de_xv T.xf_GapTooShort T.nf_GapTooShort_place (dv 3)) (da_cons (dv 1) da_nil))))))))) (dss_one (ds_ret (de_wk de_bl))) dss_nil) ?_
  refine dss_cons (ds_set (i := 3) sc_law_second_ones.nd rfl (Or.inl rfl) (de_makeX T.ox_UnknownJob T.oxi_UnknownJob T.oxf_UnknownJob x_UnknownJob_ok (hr.mono (by decide)) x_UnknownJob_b rfl T.g_UnknownJob (by decide) (da_cons (dv 0) da_nil))) ?_
  refine dss_cons (ds_if (dt_w (dw_or (dt_not (dt_tru (de_call c_law_own_ok (hr.mono (by decide)) rfl c_law_own_g c_law_own_kp c_law_own_b .nil (fun _ => .nil) tk (da_cons (dv 3) (da_cons de_int da_nil))))) (dw_or1 (dt_not (dt_tru (de_call c_law_same_ok (hr.mono (by decide)) rfl c_law_same_g c_law_same_kp c_law_same_b .nil (fun _ => .nil) tk (da_cons (de_xv T.xf_UnknownJob T.nf_UnknownJob_place (dv 3)) (da_cons (dv 0) da_nil)))))))) (dss_one (ds_ret (de_wk de_bl))) dss_nil) ?_
  refine dss_cons (ds_set (i := 3) sc_law_second_ones.nd rfl (Or.inl rfl) (de_makeX T.ox_EmptySlice T.oxi_EmptySlice T.oxf_EmptySlice x_EmptySlice_ok (hr.mono (by decide)) x_EmptySlice_b rfl T.g_EmptySlice (by decide) (da_cons (dv 0) da_nil))) ?_
  refine dss_cons (ds_if (dt_w (dw_or (dt_not (dt_tru (de_call c_law_own_ok (hr.mono (by decide)) rfl c_law_own_g c_law_own_kp c_law_own_b .nil (fun _ => .nil) tk (da_cons (dv 3) (da_cons de_int da_nil))))) (dw_or1 (dt_not (dt_tru (de_call c_law_same_ok (hr.mono (by decide)) rfl c_law_same_g c_law_same_kp c_law_same_b .nil (fun _ => .nil) tk (da_cons (de_xv T.xf_EmptySlice T.nf_EmptySlice_place (dv 3)) (da_cons (dv 0) da_nil)))))))) (dss_one (ds_ret (de_wk de_bl))) dss_nil) ?_
  refine dss_cons (ds_set (i := 3) sc_law_second_ones.nd rfl (Or.inl rfl) (de_makeX T.ox_Overlap T.oxi_Overlap T.oxf_Overlap x_Overlap_ok (hr.mono (by decide)) x_Overlap_b rfl T.g_Overlap (by decide) (da_cons (dv 0) da_nil))) ?_
  refine dss_cons (ds_if (dt_w (dw_or (dt_not (dt_tru (de_call c_law_own_ok (hr.mono (by decide)) rfl c_law_own_g c_law_own_kp c_law_own_b .nil (fun _ => .nil) tk (da_cons (dv 3) (da_cons de_int da_nil))))) (dw_or1 (dt_not (dt_tru (de_call c_law_same_ok (hr.mono (by decide)) rfl c_law_same_g c_law_same_kp c_law_same_b .nil (fun _ => .nil) tk (da_cons (de_xv T.xf_Overlap T.nf_Overlap_place (dv 3)) (da_cons (dv 0) da_nil)))))))) (dss_one (ds_ret (de_wk de_bl))) dss_nil) ?_
  refine dss_cons (ds_set (i := 3) sc_law_second_ones.nd rfl (Or.inl rfl) (de_makeX T.ox_TooEarly T.oxi_TooEarly T.oxf_TooEarly x_TooEarly_ok (hr.mono (by decide)) x_TooEarly_b rfl T.g_TooEarly (by decide) (da_cons (dv 0) da_nil))) ?_
  refine dss_cons (ds_if (dt_w (dw_or (dt_not (dt_tru (de_call c_law_own_ok (hr.mono (by decide)) rfl c_law_own_g c_law_own_kp c_law_own_b .nil (fun _ => .nil) tk (da_cons (dv 3) (da_cons de_int da_nil))))) (dw_or1 (dt_not (dt_tru (de_call c_law_same_ok (hr.mono (by decide)) rfl c_law_same_g c_law_same_kp c_law_same_b .nil (fun _ => .nil) tk (da_cons (de_xv T.xf_TooEarly T.nf_TooEarly_place (dv 3)) (da_cons (dv 0) da_nil)))))))) (dss_one (ds_ret (de_wk de_bl))) dss_nil) ?_
  refine dss_cons (ds_set (i := 3) sc_law_second_ones.nd rfl (Or.inl rfl) (de_makeX T.ox_WrongAmount T.oxi_WrongAmount T.oxf_WrongAmount x_WrongAmount_ok (hr.mono (by decide)) x_WrongAmount_b rfl T.g_WrongAmount (by decide) (da_cons (dv 0) da_nil))) ?_
  refine dss_cons (ds_if (dt_w (dw_or (dt_not (dt_tru (de_call c_law_own_ok (hr.mono (by decide)) rfl c_law_own_g c_law_own_kp c_law_own_b .nil (fun _ => .nil) tk (da_cons (dv 3) (da_cons de_int da_nil))))) (dw_or1 (dt_not (dt_tru (de_call c_law_same_ok (hr.mono (by decide)) rfl c_law_same_g c_law_same_kp c_law_same_b .nil (fun _ => .nil) tk (da_cons (de_xv T.xf_WrongAmount T.nf_WrongAmount_job (dv 3)) (da_cons (dv 0) da_nil)))))))) (dss_one (ds_ret (de_wk de_bl))) dss_nil) ?_
  refine dss_cons (ds_set (i := 3) sc_law_second_ones.nd rfl (Or.inl rfl) (de_makeX0 T.ex_BadRow T.g_BadRow rfl)) ?_
  refine dss_cons (ds_if (dt_not (dt_tru (de_call c_law_own_ok (hr.mono (by decide)) rfl c_law_own_g c_law_own_kp c_law_own_b .nil (fun _ => .nil) tk (da_cons (dv 3) (da_cons de_int da_nil))))) (dss_one (ds_ret (de_wk de_bl))) dss_nil) ?_
  exact dss_one (ds_ret (de_wk de_bl))

theorem ok_law_third_ones {P : Program} {w : World} {K : PySem.W.Frag} {mg : Str → Option Value} {base : Heap} (T : Txt K mg) (TB : TabBs K mg base) (c_law_own : Good P w K mg base 2 (some "_law_own") (ga K "_law_own") ["_law_e", "_law_place"] (sp_law_own K)) (c_law_same : Good P w K mg base 1 (some "_law_same") (ga K "_law_same") ["_law_told", "_law_due"] (sp_law_same K)) : Good P w K mg base 3 (some "_law_third_ones") (ga K "_law_third_ones") ["_law_a", "_law_b", "_law_c"] (sp_law_third_ones K) := by
  obtain ⟨_, c_law_own_ok, c_law_own_b, c_law_own_kp⟩ := c_law_own.ex
  have c_law_own_g := c_law_own.gl
  obtain ⟨_, c_law_same_ok, c_law_same_b, c_law_same_kp⟩ := c_law_same.ex
  have c_law_same_g := c_law_same.gl
  obtain ⟨_, x_BadCalendar_ok, x_BadCalendar_b⟩ := okx_BadCalendar (P := P) (w := w) (base := base) T
  obtain ⟨_, x_Clash_ok, x_Clash_b⟩ := okx_Clash (P := P) (w := w) (base := base) T
  obtain ⟨_, x_Falling_ok, x_Falling_b⟩ := okx_Falling (P := P) (w := w) (base := base) T
  obtain ⟨_, x_LateSet_ok, x_LateSet_b⟩ := okx_LateSet (P := P) (w := w) (base := base) T
  obtain ⟨_, x_NotOpen_ok, x_NotOpen_b⟩ := okx_NotOpen (P := P) (w := w) (base := base) T
  obtain ⟨_, x_Overloaded_ok, x_Overloaded_b⟩ := okx_Overloaded (P := P) (w := w) (base := base) T
  obtain ⟨_, x_Present_ok, x_Present_b⟩ := okx_Present (P := P) (w := w) (base := base) T
  obtain ⟨_, x_Refused_ok, x_Refused_b⟩ := okx_Refused (P := P) (w := w) (base := base) T
  obtain ⟨_, x_TooLong_ok, x_TooLong_b⟩ := okx_TooLong (P := P) (w := w) (base := base) T
  obtain ⟨fd, F⟩ := T.d_law_third_ones
  refine ⟨⟨fd, fn_d (k := 2) F sc_law_third_ones len_law_third_ones (t_law_third_ones K) (fun cdv A outer s H E WD hr tk hp => ?_) (pure_law_third_ones T), F.bindsN fun _ _ _ _ _ _ us hl => match us, hl with | [_, _, _], _ => rfl, F.kp⟩, T.g_law_third_ones⟩
  refine dss_cons (ds_set (i := 3) sc_law_third_ones.nd rfl (Or.inl rfl) (de_makeX T.ox_TooLong T.oxi_TooLong T.oxf_TooLong x_TooLong_ok (hr.mono (by decide)) x_TooLong_b rfl T.g_TooLong (by decide) (da_cons (dv 0) da_nil))) ?_
  refine dss_cons (ds_if (dt_w (dw_or (dt_not (dt_tru (de_call c_law_own_ok (hr.mono (by decide)) rfl c_law_own_g c_law_own_kp c_law_own_b .nil (fun _ => .nil) tk (da_cons (dv 3) (da_cons de_int da_nil))))) (dw_or1 (dt_not (dt_tru (de_call c_law_same_ok (hr.mono (by decide)) rfl c_law_same_g c_law_same_kp c_law_same_b .nil (fun _ => .nil) tk (da_cons (de_xv T.xf_TooLong T.nf_TooLong_period (dv 3)) (da_cons (dv 0) da_nil)))))))) (dss_one (ds_ret (de_wk de_bl))) dss_nil) ?_
  refine dss_cons (ds_set (i := 3) sc_law_third_ones.nd rfl (Or.inl rfl) (de_makeX T.ox_Falling T.oxi_Falling T.oxf_Falling x_Falling_ok (hr.mono (by decide)) x_Falling_b rfl T.g_Falling (by decide) (da_cons (dv 0) da_nil))) ?_
  refine dss_cons (ds_if (dt_w (dw_or (dt_not (dt_tru (de_call c_law_own_ok (hr.mono (by decide)) rfl c_law_own_g c_law_own_kp c_law_own_b .nil (fun _ => .nil) tk (da_cons (dv 3) (da_cons de_int da_nil))))) (dw_or1 (dt_not (dt_tru (de_call c_law_same_ok (hr.mono (by decide)) rfl c_law_same_g c_law_same_kp c_law_same_b .nil (fun _ => .nil) tk (da_cons (de_xv T.xf_Falling T.nf_Falling_gain (dv 3)) (da_cons (dv 0) da_nil)))))))) (dss_one (ds_ret (de_wk de_bl))) dss_nil) ?_
  refine dss_cons (ds_set (i := 3) sc_law_third_ones.nd rfl (Or.inl rfl) (de_makeX T.ox_BadCalendar T.oxi_BadCalendar T.oxf_BadCalendar x_BadCalendar_ok (hr.mono (by decide)) x_BadCalendar_b rfl T.g_BadCalendar (by decide) (da_cons (dv 0) da_nil))) ?_
  refine dss_cons (ds_if (dt_w (dw_or (dt_not (dt_tru (de_call c_law_own_ok (hr.mono (by decide)) rfl c_law_own_g c_law_own_kp c_law_own_b .nil (fun _ => .nil) tk (da_cons (dv 3) (da_cons de_int da_nil))))) (dw_or1 (dt_not (dt_tru (de_call c_law_same_ok (hr.mono (by decide)) rfl c_law_same_g c_law_same_kp c_law_same_b .nil (fun _ => .nil) tk (da_cons (de_xv T.xf_BadCalendar T.nf_BadCalendar_calendar (dv 3)) (da_cons (dv 0) da_nil)))))))) (dss_one (ds_ret (de_wk de_bl))) dss_nil) ?_
  refine dss_cons (ds_set (i := 3) sc_law_third_ones.nd rfl (Or.inl rfl) (de_makeX T.ox_Overloaded T.oxi_Overloaded T.oxf_Overloaded x_Overloaded_ok (hr.mono (by decide)) x_Overloaded_b rfl T.g_Overloaded (by decide) (da_cons (dv 0) (da_cons (dv 1) da_nil)))) ?_
  refine dss_cons (ds_if (dt_w (dw_or (dt_not (dt_tru (de_call c_law_own_ok (hr.mono (by decide)) rfl c_law_own_g c_law_own_kp c_law_own_b .nil (fun _ => .nil) tk (da_cons (dv 3) (da_cons de_int da_nil))))) (dw_or (dt_not (dt_tru (de_call c_law_same_ok (hr.mono (by decide)) rfl c_law_same_g c_law_same_kp c_law_same_b .nil (fun _ => .nil) tk (da_cons (de_xv T.xf_Overloaded T.nf_Overloaded_cost (dv 3)) (da_cons (dv 0) da_nil))))) (dw_or1 (dt_not (dt_tru (de_call c_law_same_ok (hr.mono (by decide)) rfl c_law_same_g c_law_same_kp c_law_same_b .nil (fun _ => .nil) tk (da_cons (de_xv T.xf_Overloaded T.nf_Overloaded_length (dv 3)) (da_cons (dv 1) da_nil))))))))) (dss_one (ds_ret (de_wk de_bl))) dss_nil) ?_
  refine dss_cons (ds_set (i := 3) sc_law_third_ones.nd rfl (Or.inl rfl) (de_makeX T.ox_LateSet T.oxi_LateSet T.oxf_LateSet x_LateSet_ok (hr.mono (by decide)) x_LateSet_b rfl T.g_LateSet (by decide) (da_cons (dv 0) da_nil))) ?_
  refine dss_cons (ds_if (dt_w (dw_or (dt_not (dt_tru (de_call c_law_own_ok (hr.mono (by decide)) rfl c_law_own_g c_law_own_kp c_law_own_b .nil (fun _ => .nil) tk (da_cons (dv 3) (da_cons de_int da_nil))))) (dw_or1 (dt_not (dt_tru (de_call c_law_same_ok (hr.mono (by decide)) rfl c_law_same_g c_law_same_kp c_law_same_b .nil (fun _ => .nil) tk (da_cons (de_xv T.xf_LateSet T.nf_LateSet_which (dv 3)) (da_cons (dv 0) da_nil)))))))) (dss_one (ds_ret (de_wk de_bl))) dss_nil) ?_
  refine dss_cons (ds_set (i := 3) sc_law_third_ones.nd rfl (Or.inl rfl) (de_makeX T.ox_Clash T.oxi_Clash T.oxf_Clash x_Clash_ok (hr.mono (by decide)) x_Clash_b rfl T.g_Clash (by decide) (da_cons (dv 0) (da_cons (dv 1) da_nil)))) ?_
  refine dss_cons (ds_if (dt_w (dw_or (dt_not (dt_tru (de_call c_law_own_ok (hr.mono (by decide)) rfl c_law_own_g c_law_own_kp c_law_own_b .nil (fun _ => .nil) tk (da_cons (dv 3) (da_cons de_int da_nil))))) (dw_or (dt_not (dt_tru (de_call c_law_same_ok (hr.mono (by decide)) rfl c_law_same_g c_law_same_kp c_law_same_b .nil (fun _ => .nil) tk (da_cons (de_xv T.xf_Clash T.nf_Clash_admitted (dv 3)) (da_cons (dv 0) da_nil))))) (dw_or1 (dt_not (dt_tru (de_call c_law_same_ok (hr.mono (by decide)) rfl c_law_same_g c_law_same_kp c_law_same_b .nil (fun _ => .nil) tk (da_cons (de_xv T.xf_Clash T.nf_Clash_refused (dv 3)) (da_cons (dv 1) da_nil))))))))) (dss_one (ds_ret (de_wk de_bl))) dss_nil) ?_
  refine dss_cons (ds_set (i := 3) sc_law_third_ones.nd rfl (Or.inl rfl) (de_makeX T.ox_NotOpen T.oxi_NotOpen T.oxf_NotOpen x_NotOpen_ok (hr.mono (by decide)) x_NotOpen_b rfl T.g_NotOpen (by decide) (da_cons (dv 0) da_nil))) ?_
  refine dss_cons (ds_if (dt_w (dw_or (dt_not (dt_tru (de_call c_law_own_ok (hr.mono (by decide)) rfl c_law_own_g c_law_own_kp c_law_own_b .nil (fun _ => .nil) tk (da_cons (dv 3) (da_cons de_int da_nil))))) (dw_or1 (dt_not (dt_tru (de_call c_law_same_ok (hr.mono (by decide)) rfl c_law_same_g c_law_same_kp c_law_same_b .nil (fun _ => .nil) tk (da_cons (de_xv T.xf_NotOpen T.nf_NotOpen_answer (dv 3)) (da_cons (dv 0) da_nil)))))))) (dss_one (ds_ret (de_wk de_bl))) dss_nil) ?_
  refine dss_cons (ds_set (i := 3) sc_law_third_ones.nd rfl (Or.inl rfl) (de_makeX T.ox_Refused T.oxi_Refused T.oxf_Refused x_Refused_ok (hr.mono (by decide)) x_Refused_b rfl T.g_Refused (by decide) (da_cons (dv 0) (da_cons (dv 1) (da_cons (dv 2) da_nil))))) ?_
  refine dss_cons (ds_if (dt_w (dw_or (dt_not (dt_tru (de_call c_law_own_ok (hr.mono (by decide)) rfl c_law_own_g c_law_own_kp c_law_own_b .nil (fun _ => .nil) tk (da_cons (dv 3) (da_cons de_int da_nil))))) (dw_or (dt_not (dt_tru (de_call c_law_same_ok (hr.mono (by decide)) rfl c_law_same_g c_law_same_kp c_law_same_b .nil (fun _ => .nil) tk (da_cons (de_xv T.xf_Refused T.nf_Refused_name (dv 3)) (da_cons (dv 0) da_nil))))) (dw_or (dt_not (dt_tru (de_call c_law_same_ok (hr.mono (by decide)) rfl c_law_same_g c_law_same_kp c_law_same_b .nil (fun _ => .nil) tk (da_cons (de_xv T.xf_Refused T.nf_Refused_ticks (dv 3)) (da_cons (dv 1) da_nil))))) (dw_or1 (dt_not (dt_tru (de_call c_law_same_ok (hr.mono (by decide)) rfl c_law_same_g c_law_same_kp c_law_same_b .nil (fun _ => .nil) tk (da_cons (de_xv T.xf_Refused T.nf_Refused_excess (dv 3)) (da_cons (dv 2) da_nil)))))))))) (dss_one (ds_ret (de_wk de_bl))) dss_nil) ?_
  refine dss_cons (ds_set (i := 3) sc_law_third_ones.nd rfl (Or.inl rfl) (de_makeX T.ox_Present T.oxi_Present T.oxf_Present x_Present_ok (hr.mono (by decide)) x_Present_b rfl T.g_Present (by decide) (da_cons (dv 0) da_nil))) ?_
  refine dss_cons (ds_if (dt_w (dw_or (dt_not (dt_tru (de_call c_law_own_ok (hr.mono (by decide)) rfl c_law_own_g c_law_own_kp c_law_own_b .nil (fun _ => .nil) tk (da_cons (dv 3) (da_cons de_int da_nil))))) (dw_or1 (dt_not (dt_tru (de_call c_law_same_ok (hr.mono (by decide)) rfl c_law_same_g c_law_same_kp c_law_same_b .nil (fun _ => .nil) tk (da_cons (de_xv T.xf_Present T.nf_Present_name (dv 3)) (da_cons (dv 0) da_nil)))))))) (dss_one (ds_ret (de_wk de_bl))) dss_nil) ?_
  exact dss_one (ds_ret (de_wk de_bl))

theorem ok_law_fourth_ones {P : Program} {w : World} {K : PySem.W.Frag} {mg : Str → Option Value} {base : Heap} (T : Txt K mg) (TB : TabBs K mg base) (c_law_own : Good P w K mg base 2 (some "_law_own") (ga K "_law_own") ["_law_e", "_law_place"] (sp_law_own K)) (c_law_same : Good P w K mg base 1 (some "_law_same") (ga K "_law_same") ["_law_told", "_law_due"] (sp_law_same K)) : Good P w K mg base 3 (some "_law_fourth_ones") (ga K "_law_fourth_ones") ["_law_a", "_law_b", "_law_c"] (sp_law_fourth_ones K) := by
  obtain ⟨_, c_law_own_ok, c_law_own_b, c_law_own_kp⟩ := c_law_own.ex
  have c_law_own_g := c_law_own.gl
  obtain ⟨_, c_law_same_ok, c_law_same_b, c_law_same_kp⟩ := c_law_same.ex
  have c_law_same_g := c_law_same.gl
  obtain ⟨_, x_Absent_ok, x_Absent_b⟩ := okx_Absent (P := P) (w := w) (base := base) T
  obtain ⟨fd, F⟩ := T.d_law_fourth_ones
  refine ⟨⟨fd, fn_d (k := 2) F sc_law_fourth_ones len_law_fourth_ones (t_law_fourth_ones K) (fun cdv A outer s H E WD hr tk hp => ?_) (pure_law_fourth_ones T), F.bindsN fun _ _ _ _ _ _ us hl => match us, hl with | [_, _, _], _ => rfl, F.kp⟩, T.g_law_fourth_ones⟩
  refine dss_cons (ds_set (i := 3) sc_law_fourth_ones.nd rfl (Or.inl rfl) (de_makeX T.ox_Absent T.oxi_Absent T.oxf_Absent x_Absent_ok (hr.mono (by decide)) x_Absent_b rfl T.g_Absent (by decide) (da_cons (dv 0) da_nil))) ?_
  refine dss_cons (ds_if (dt_w (dw_or (dt_not (dt_tru (de_call c_law_own_ok (hr.mono (by decide)) rfl c_law_own_g c_law_own_kp c_law_own_b .nil (fun _ => .nil) tk (da_cons (dv 3) (da_cons de_int da_nil))))) (dw_or1 (dt_not (dt_tru (de_call c_law_same_ok (hr.mono (by decide)) rfl c_law_same_g c_law_same_kp c_law_same_b .nil (fun _ => .nil) tk (da_cons (de_xv T.xf_Absent T.nf_Absent_name (dv 3)) (da_cons (dv 0) da_nil)))))))) (dss_one (ds_ret (de_wk de_bl))) dss_nil) ?_
  refine dss_cons (ds_set (i := 3) sc_law_fourth_ones.nd rfl (Or.inl rfl) (de_makeX0 T.ex_NothingToUndo T.g_NothingToUndo rfl)) ?_
  refine dss_cons (ds_if (dt_not (dt_tru (de_call c_law_own_ok (hr.mono (by decide)) rfl c_law_own_g c_law_own_kp c_law_own_b .nil (fun _ => .nil) tk (da_cons (dv 3) (da_cons de_int da_nil))))) (dss_one (ds_ret (de_wk de_bl))) dss_nil) ?_
  exact dss_one (ds_ret (de_wk de_bl))

theorem law_ok {l : PySem.W.OpenLaw} {w : World} {K : PySem.W.Frag} {mg : Str → Option Value} {base : Heap} {fd : FuncData} (T : Txt K mg) (TB : TabBs K mg base) (F : FunD K "law" "law" (defArgs s_law) (defBody s_law) (defScope s_law) [] [] (ga K "law") fd) : FnOk l.prog w K mg base CX0 4 (ga K "law") fd ["_law_script"] (liftSp K spLaw) := by
  have c_law_pool : Good l.prog w K mg base 1 (some "_law_pool") (ga K "_law_pool") ["_law_script"] (sp_law_pool K) := ok_law_pool T TB
  have c_law_draw : Good l.prog w K mg base 1 (some "_law_draw") (ga K "_law_draw") ["_law_pool_here", "_law_limit"] (sp_law_draw K) := ok_law_draw T TB
  have c_law_simple : Good l.prog w K mg base 2 (some "_law_simple") (ga K "_law_simple") ["_law_pool_here"] (sp_law_simple K) := ok_law_simple T TB c_law_draw
  have c_law_value : Good l.prog w K mg base 3 (some "_law_value") (ga K "_law_value") ["_law_pool_here"] (sp_law_value K) := ok_law_value T TB c_law_draw c_law_simple
  have c_law_marks : Good l.prog w K mg base 1 (some "_law_marks") (ga K "_law_marks") ["_law_e"] (sp_law_marks K) := ok_law_marks T TB
  have c_law_own : Good l.prog w K mg base 2 (some "_law_own") (ga K "_law_own") ["_law_e", "_law_place"] (sp_law_own K) := ok_law_own T TB c_law_marks
  have c_law_same : Good l.prog w K mg base 1 (some "_law_same") (ga K "_law_same") ["_law_told", "_law_due"] (sp_law_same K) := ok_law_same T TB
  have c_law_first_ones : Good l.prog w K mg base 3 (some "_law_first_ones") (ga K "_law_first_ones") ["_law_a", "_law_b", "_law_c"] (sp_law_first_ones K) := ok_law_first_ones T TB c_law_own c_law_same
  have c_law_second_ones : Good l.prog w K mg base 3 (some "_law_second_ones") (ga K "_law_second_ones") ["_law_a", "_law_b", "_law_c"] (sp_law_second_ones K) := ok_law_second_ones T TB c_law_own c_law_same
  have c_law_third_ones : Good l.prog w K mg base 3 (some "_law_third_ones") (ga K "_law_third_ones") ["_law_a", "_law_b", "_law_c"] (sp_law_third_ones K) := ok_law_third_ones T TB c_law_own c_law_same
  have c_law_fourth_ones : Good l.prog w K mg base 3 (some "_law_fourth_ones") (ga K "_law_fourth_ones") ["_law_a", "_law_b", "_law_c"] (sp_law_fourth_ones K) := ok_law_fourth_ones T TB c_law_own c_law_same
  obtain ⟨_, c_law_pool_ok, c_law_pool_b, c_law_pool_kp⟩ := c_law_pool.ex
  have c_law_pool_g := c_law_pool.gl
  obtain ⟨_, c_law_value_ok, c_law_value_b, c_law_value_kp⟩ := c_law_value.ex
  have c_law_value_g := c_law_value.gl
  obtain ⟨_, c_law_first_ones_ok, c_law_first_ones_b, c_law_first_ones_kp⟩ := c_law_first_ones.ex
  have c_law_first_ones_g := c_law_first_ones.gl
  obtain ⟨_, c_law_second_ones_ok, c_law_second_ones_b, c_law_second_ones_kp⟩ := c_law_second_ones.ex
  have c_law_second_ones_g := c_law_second_ones.gl
  obtain ⟨_, c_law_third_ones_ok, c_law_third_ones_b, c_law_third_ones_kp⟩ := c_law_third_ones.ex
  have c_law_third_ones_g := c_law_third_ones.gl
  obtain ⟨_, c_law_fourth_ones_ok, c_law_fourth_ones_b, c_law_fourth_ones_kp⟩ := c_law_fourth_ones.ex
  have c_law_fourth_ones_g := c_law_fourth_ones.gl
  obtain ⟨_, c_law_marks_ok, c_law_marks_b, c_law_marks_kp⟩ := c_law_marks.ex
  have c_law_marks_g := c_law_marks.gl
  refine fn_d0 (k := 3) F sc_law (spLaw_len _) (t_law K) (fun cdv A outer s H E hr tk hp => ?_) (fun ds m Q E h => pure_law T ds m Q (fun _ _ => False) h)
  refine dss_cons (ds_set (i := 1) sc_law.nd rfl (Or.inl rfl) (de_call c_law_pool_ok (hr.mono (by decide)) rfl c_law_pool_g c_law_pool_kp c_law_pool_b .nil (fun _ => .nil) tk (da_cons (dv 0) da_nil))) ?_
  refine dss_cons (ds_set (i := 2) sc_law.nd rfl (Or.inl rfl) (de_call c_law_value_ok (hr.mono (by decide)) rfl c_law_value_g c_law_value_kp c_law_value_b .nil (fun _ => .nil) tk (da_cons (dv 1) da_nil))) ?_
  refine dss_cons (ds_set (i := 3) sc_law.nd rfl (Or.inl rfl) (de_call c_law_value_ok (hr.mono (by decide)) rfl c_law_value_g c_law_value_kp c_law_value_b .nil (fun _ => .nil) tk (da_cons (dv 1) da_nil))) ?_
  refine dss_cons (ds_set (i := 4) sc_law.nd rfl (Or.inl rfl) (de_call c_law_value_ok (hr.mono (by decide)) rfl c_law_value_g c_law_value_kp c_law_value_b .nil (fun _ => .nil) tk (da_cons (dv 1) da_nil))) ?_
  refine dss_cons (ds_if (dt_w (dw_or (dt_not (dt_tru (de_call c_law_first_ones_ok (hr.mono (by decide)) rfl c_law_first_ones_g c_law_first_ones_kp c_law_first_ones_b .nil (fun _ => .nil) tk (da_cons (dv 2) (da_cons (dv 3) (da_cons (dv 4) da_nil)))))) (dw_or1 (dt_not (dt_tru (de_call c_law_second_ones_ok (hr.mono (by decide)) rfl c_law_second_ones_g c_law_second_ones_kp c_law_second_ones_b .nil (fun _ => .nil) tk (da_cons (dv 3) (da_cons (dv 4) (da_cons (dv 2) da_nil))))))))) (dss_one (ds_ret de_bl)) dss_nil) ?_
  refine dss_cons (ds_if (dt_w (dw_or (dt_not (dt_tru (de_call c_law_third_ones_ok (hr.mono (by decide)) rfl c_law_third_ones_g c_law_third_ones_kp c_law_third_ones_b .nil (fun _ => .nil) tk (da_cons (dv 4) (da_cons (dv 2) (da_cons (dv 3) da_nil)))))) (dw_or1 (dt_not (dt_tru (de_call c_law_fourth_ones_ok (hr.mono (by decide)) rfl c_law_fourth_ones_g c_law_fourth_ones_kp c_law_fourth_ones_b .nil (fun _ => .nil) tk (da_cons (dv 2) (da_cons (dv 4) (da_cons (dv 3) da_nil))))))))) (dss_one (ds_ret de_bl)) dss_nil) ?_
  refine dss_cons (ds_set (i := 5) sc_law.nd rfl (Or.inl rfl) (de_makeX0 T.ex_DuesError T.g_DuesError rfl)) ?_
  exact dss_one (ds_ret (de_and (de_cmp (op_eqA hr.units) od_eq (de_bm PySem.F.plainAttrs_list PySem.F.slot_list_count PySem.F.type_list_count (mt_countD hr.units) md_countD (de_call c_law_marks_ok (hr.mono (by decide)) rfl c_law_marks_g c_law_marks_kp c_law_marks_b .nil (fun _ => .nil) tk (da_cons (dv 5) da_nil)) (da_cons de_bl da_nil)) de_int (nomark _)) (de_one (de_callB call_isV cd_isV rfl T.b_isinstance (by decide +kernel) (da_cons (dv 5) (da_cons (de_ty rfl T.b_ValueError (by decide +kernel)) da_nil))))))

end LW

set_option Elab.async false
set_option linter.all false
set_option maxRecDepth 100000
set_option maxHeartbeats 0

open PySem PySem.W PySem.Calls PyProof.Rows in
set_option maxRecDepth 100000 in
set_option maxHeartbeats 0 in
theorem PySem.Challenge.cw_walkdues_k59_errors_made_by_hand_holds : PySem.Challenge.rw_walkdues_k59_errors_made_by_hand.Holds := by
  w_on; o_law
  refine LW.hd1 ?hw ?hc
  case hw => w_witness2
  case hc =>
    refine DL.walk_tab (l := PySem.Challenge.rw_walkdues_k59_errors_made_by_hand) (n := 63) (k := 4) (x := "_law_script") (CX := L2.CX0) rfl (by decide) (by kernel_rfl) ⟨rfl, by decide, by decide⟩ ?F (fun _ _ _ _ z => z)
    intro w mg fa h Y G hmg0
    obtain ⟨K, KX, c, tab⟩ := Y
    have hmg : mg ("law" : PySem.Str) = some (.ref fa) := by
      have e : (HandSHeadRun.topDef (OpenLaw.row PySem.Challenge.rw_walkdues_k59_errors_made_by_hand).prog 43).name = ("law" : PySem.Str) := by kernel_rfl
      rw [← e]
      exact hmg0
    have T : LW.Txt K mg := ⟨c, h, KX, G⟩
    have e := hmg.symm.trans T.g_law
    cases e
    obtain ⟨fd, F⟩ := T.d_law
    have b := L2.FunD.bindsA (ps := ["_law_script"]) F fun _ _ _ _ _ _ us hl => match us, hl with | [_], _ => rfl
    exact ⟨K, fd, DL.liftSp K DL.spLaw, KX, tab, fun s v => b s [v] rfl, fun H a ns hl hT hS => DL.law_sp H a ns hl hT hS, fun base _ _ TB => LW.law_ok T TB F⟩


