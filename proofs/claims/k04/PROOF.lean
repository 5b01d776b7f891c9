import PyProof.Rows.All
import Wide.All
import OpenK.AllK
import Wide.FinOn
import KE.KStateDown
import HandS.ForMost
import HandS.ForExc
import HandS.Defaults
import HandS.Wide
import HandS.Lambda
import HandS.HeadHook1
import HandS.IsInst
import HandS.Text
import HandS.CallSlots
import HandS.NoneIn
import HandS.RevRange
import HandS.Property
import HandS.Star
import HandS.OwnEq
import HandS.SetFor
import Lean
import HandS.Head2
import HandS.HeadEnd
import HandS.HeadHook2
import HandS.EndTab
import KE.KNestM
import HandS.SortInts
import HandS.ExcInit
import HandS.ExcField
import HandS.TryOnly
import HandS.Small
import HandS.ClsMeth
import HandS.HeadNt
import HandS.Conv
import HandS.FStr
import HandS.Iter
import HandS.MakeKw
import HandS.Style
import HandS.TryMany
import KE.KExcIs
import HandS.ExcIs
import HandS.WideBits
import HandS.List
import PyProof.StrBlock2
import HandS.DictComp
import HandS.WordsDict
import HandS.Finally
import HandS.SortKw
import HandS.ListItems
import KE.DataMinMax
import KE.DataEq
import KE.SortKeyHeap
import HandS.DictTup
import HandS.DeepEq
import HandS.Dict
import HandS.Flow
import HandS.More
import HandS.HotCalls
import KE.KEqNest
import KE.KWithOwn
import HandS.Zip
import HandS.Nested
import KE.DataMinKey
import PyProof.Runs
import HandS.Remove
import KE.LtData
import HandS.ExcValue
import KE.DataFind
import HandS.Deep
import PyProof.RulesMatchSeq
import PyProof.Rows.MatchSeqLen
import KE.KUnpack
import PyProof.InstEq
import PySem.Challenge.RW_walkdues_k04_lines_spoiled
set_option Elab.async false
set_option linter.all false
set_option maxRecDepth 100000
set_option maxHeartbeats 4000000
namespace DL
open PySem PySem.Spec PyProof.Rows L2

inductive D where
  | non
  | bl (b : Bool)
  | int (i : Int)
  | str (x : Str)
  | ty (n : String)
  | ref (a : Addr)
  | lst (xs : List D)
  | rdl (xs : List D)
  | tup (xs : List D)
  | ins (C : Addr) (fs : List (Str × D))
  | exn (a : Addr) (d : Option Addr) (fs : List (Str × D))
  | dki (kvs : List (Key × Int))
  | dti (kvs : List (List Key × Int))
  | obj (a : Addr) (d : D)
  | clo (a c : Addr) (q : Str) (env : List D) (vs : List V)
def iV {κ : Type} (kvs : List (κ × Int)) : List (κ × V) := kvs.map fun p => (p.1, V.int p.2)

def TpK (K : PySem.W.Frag) (G : Hp) (a : Addr) (vs : List V) : Prop := SqT K G a vs ∧ (vs = [] ∨ G a = some (.tup vs))
mutual
inductive Rp (K : PySem.W.Frag) (G : Hp) : D → V → Prop
  | non : Rp K G .non .non
  | bl (b : Bool) : Rp K G (.bl b) (.bl b)
  | int (i : Int) : Rp K G (.int i) (.int i)
  | str (x : Str) : Rp K G (.str x) (.str x)
  | ty (n : String) : Rp K G (.ty n) (.ty n)
  | ref (a : Addr) : Rp K G (.ref a) (.ref a)
  | lst {a : Addr} {vs : List V} {ds : List D} : G a = some (.lst vs) → Rps K G ds vs → Rp K G (.lst ds) (.ref a)
  | rdl {a : Addr} {vs : List V} {ds : List D} : SqL K G a vs → Rps K G ds vs → Rp K G (.rdl ds) (.ref a)
  | tup {a : Addr} {vs : List V} {ds : List D} : TpK K G a vs → Rps K G ds vs → Rp K G (.tup ds) (.ref a)
  | ins {a C dx : Addr} {fv : List (Str × V)} {fs : List (Str × D)} : G a = some (.ins C dx fv) → Rpf K G fs fv → Rp K G (.ins C fs) (.ref a)
  | exn0 (a : Addr) : Rp K G (.exn a none []) (.ref a)
  | exnS {a d : Addr} {fv : List (Str × V)} {fs : List (Str × D)} : G d = some (.xd fv) → Rpf K G fs fv → Rp K G (.exn a (some d) fs) (.ref a)
  | dki {a : Addr} {o : Obj} {kvs : List (Key × Int)} : G a = some (.frz o (.dK (iV kvs))) → Rp K G (.dki kvs) (.ref a)
  | dti {a : Addr} {o : Obj} {kvs : List (List Key × Int)} : G a = some (.frz o (.dT (iV kvs))) → Rp K G (.dti kvs) (.ref a)
  | obj {a : Addr} {d : D} : Rp K G d (.ref a) → Rp K G (.obj a d) (.ref a)
  | clo {a c : Addr} {q : Str} {env : List D} {vs : List V} : G c = some (LamX.CodeO c q) → Rps K G env vs → Rp K G (.clo a c q env vs) (.ref a)
inductive Rps (K : PySem.W.Frag) (G : Hp) : List D → List V → Prop
  | nil : Rps K G [] []
  | cons {d : D} {ds : List D} {v : V} {vs : List V} : Rp K G d v → Rps K G ds vs → Rps K G (d :: ds) (v :: vs)
inductive Rpf (K : PySem.W.Frag) (G : Hp) : List (Str × D) → List (Str × V) → Prop
  | nil : Rpf K G [] []
  | cons {n : Str} {d : D} {ds : List (Str × D)} {v : V} {vs : List (Str × V)} : Rp K G d v → Rpf K G ds vs → Rpf K G ((n, d) :: ds) ((n, v) :: vs)
end

theorem same_sqt {K : PySem.W.Frag} {H H' : Hp} {a : Addr} {xs : List V} (e : Same H H') (h : SqT K H a xs) : SqT K H' a xs := by
  rcases h with (h | ⟨o, h⟩) | h
  · exact .inl (.inl (e _ _ h))
  · exact .inl (.inr ⟨o, e _ _ h⟩)
  · exact .inr h
theorem same_tpk {K : PySem.W.Frag} {H H' : Hp} {a : Addr} {xs : List V} (e : Same H H') (h : TpK K H a xs) : TpK K H' a xs := ⟨same_sqt e h.1, h.2.imp _root_.id fun z => e _ _ z⟩
theorem TpK.of {K : PySem.W.Frag} {H : Hp} {a : Addr} {xs : List V} (h : H a = some (.tup xs)) : TpK K H a xs := ⟨SqT.of h, .inr h⟩
instance {K : PySem.W.Frag} {H : Hp} {a : Addr} {xs : List V} : CoeOut (TpK K H a xs) (SqT K H a xs) := ⟨And.left⟩
section
variable {K : PySem.W.Frag} {G G' : Hp}
mutual
theorem Rp.mono (e : Same G G') : ∀ {d : D} {v : V}, Rp K G d v → Rp K G' d v
  | _, _, .non => .non
  | _, _, .bl b => .bl b
  | _, _, .int i => .int i
  | _, _, .str x => .str x
  | _, _, .ty n => .ty n
  | _, _, .ref a => .ref a
  | _, _, .lst h r => .lst (e _ _ h) (Rps.mono e r)
  | _, _, .rdl h r => .rdl (e.seq h) (Rps.mono e r)
  | _, _, .tup h r => .tup (same_tpk e h) (Rps.mono e r)
  | _, _, .ins h r => .ins (e _ _ h) (Rpf.mono e r)
  | _, _, .exn0 a => .exn0 a
  | _, _, .exnS h r => .exnS (e _ _ h) (Rpf.mono e r)
  | _, _, .dki h => .dki (e _ _ h)
  | _, _, .dti h => .dti (e _ _ h)
  | _, _, .obj h => .obj (Rp.mono e h)
  | _, _, .clo hc h => .clo (e _ _ hc) (Rps.mono e h)
theorem Rps.mono (e : Same G G') : ∀ {ds : List D} {vs : List V}, Rps K G ds vs → Rps K G' ds vs
  | _, _, .nil => .nil
  | _, _, .cons r t => .cons (Rp.mono e r) (Rps.mono e t)
theorem Rpf.mono (e : Same G G') : ∀ {ds : List (Str × D)} {vs : List (Str × V)}, Rpf K G ds vs → Rpf K G' ds vs
  | _, _, .nil => .nil
  | _, _, .cons r t => .cons (Rp.mono e r) (Rpf.mono e t)
end
theorem Rps.length : ∀ {ds : List D} {vs : List V}, Rps K G ds vs → ds.length = vs.length
  | _, _, .nil => rfl
  | _, _, .cons _ t => congrArg Nat.succ (Rps.length t)
theorem Rps.append : ∀ {ds es : List D} {vs us : List V}, Rps K G ds vs → Rps K G es us → Rps K G (ds ++ es) (vs ++ us)
  | _, _, _, _, .nil, s => s
  | _, _, _, _, .cons r t, s => .cons r (Rps.append t s)
theorem Rps.get : ∀ {ds : List D} {vs : List V} {i : Nat} {d : D}, Rps K G ds vs → ds[i]? = some d → ∃ v, vs[i]? = some v ∧ Rp K G d v
  | _, _, _, _, .nil, e => by simp at e
  | _, _, 0, _, .cons r _, e => by simp at e; subst e; exact ⟨_, rfl, r⟩
  | _, _, i + 1, d, .cons _ t, e => by
    obtain ⟨u, h1, h2⟩ := Rps.get (i := i) (d := d) t (by simpa using e)
    exact ⟨u, by simpa using h1, h2⟩
theorem Rps.reverse : ∀ {ds : List D} {vs : List V}, Rps K G ds vs → Rps K G ds.reverse vs.reverse
  | _, _, .nil => .nil
  | _, _, .cons r t => by
    rw [List.reverse_cons, List.reverse_cons]
    exact (Rps.reverse t).append (.cons r .nil)
theorem Rpf.lookup : ∀ {fs : List (Str × D)} {fv : List (Str × V)} {x : Str} {d : D}, Rpf K G fs fv → fs.lookup x = some d → ∃ v, fv.lookup x = some v ∧ Rp K G d v
  | _, _, _, _, .nil, e => by simp at e
  | _, _, x, d, .cons (n := n) r t, e => by
    rw [List.lookup_cons] at e
    cases q : (x == n) with
    | true =>
      rw [q] at e
      cases e
      exact ⟨_, by rw [List.lookup_cons, q], r⟩
    | false =>
      rw [q] at e
      obtain ⟨v, h1, h2⟩ := Rpf.lookup t e
      exact ⟨v, by rw [List.lookup_cons, q]; exact h1, h2⟩
theorem Rpf.length : ∀ {fs : List (Str × D)} {fv : List (Str × V)}, Rpf K G fs fv → fs.length = fv.length
  | _, _, .nil => rfl
  | _, _, .cons _ t => congrArg Nat.succ (Rpf.length t)
end
inductive MO where
  | lst (xs : List D)
  | dK (kvs : List (Key × D))
  | dT (kvs : List (List Key × D))
  | ins (C : Addr) (fs : List (Str × D))
  | fn (ob : Obj)
inductive Rpk {κ : Type} (K : PySem.W.Frag) (G : Hp) : List (κ × D) → List (κ × V) → Prop
  | nil : Rpk K G [] []
  | cons {k : κ} {d : D} {ds : List (κ × D)} {v : V} {vs : List (κ × V)} : Rp K G d v → Rpk K G ds vs → Rpk K G ((k, d) :: ds) ((k, v) :: vs)
theorem Rpk.mono {κ : Type} {K : PySem.W.Frag} {G G' : Hp} (e : Same G G') : ∀ {ds : List (κ × D)} {vs : List (κ × V)}, Rpk K G ds vs → Rpk K G' ds vs
  | _, _, .nil => .nil
  | _, _, .cons r t => .cons (r.mono e) (Rpk.mono e t)
def RpM (K : PySem.W.Frag) (G : Hp) : MO → HO → Prop
  | .lst ds, .lst vs => Rps K G ds vs
  | .dK ds, .dK vs => Rpk K G ds vs
  | .dT ds, .dT vs => Rpk K G ds vs
  | .ins C fs, .ins C' _ fv => C = C' ∧ Rpf K G fs fv
  | .fn ob, .frz ob' u => ob = ob' ∧ u = .ext fun _ => True
  | _, _ => False
theorem RpM.mono {K : PySem.W.Frag} {G G' : Hp} (e : Same G G') {m : MO} {o : HO} (h : RpM K G m o) : RpM K G' m o := by
  cases m with
  | lst ds => cases o with
    | lst vs => exact Rps.mono e h
    | _ => exact h.elim
  | dK ds => cases o with
    | dK vs => exact Rpk.mono e h
    | _ => exact h.elim
  | dT ds => cases o with
    | dT vs => exact Rpk.mono e h
    | _ => exact h.elim
  | ins C fs => cases o with
    | ins C' dx fv => exact ⟨h.1, h.2.mono e⟩
    | _ => exact h.elim
  | fn ob => cases o with
    | frz ob' u => exact h
    | _ => exact h.elim
abbrev M := Addr → Option MO
def mset (m : M) (a : Addr) (o : MO) : M := fun b => if b = a then some o else m b
def lamDefs : List (Option Str × Str) := [(none, "simple_cycles"), (some "Run", "__init__"), (none, "run_by"), (none, "calendar_slices"), (none, "_law_jobs"), (none, "_law_excess"), (none, "_law_refusal"), (none, "_law_key"), (none, "_law_scheduled"), (none, "_law_bad_speed"), (none, "law")]
def lamAd (K : PySem.W.Frag) (d : Option Str × Str) : Addr := match d.1 with
  | none => He.ga K d.2
  | some C => He.ma K (He.ga K C) d.2
def lamQ (d : Option Str × Str) : Str := match d.1 with
  | none => d.2
  | some C => C ++ "." ++ d.2
def nmIn : List Stmt → Str
  | [] => "<lambda>"
  | .FunctionDef n _ _ _ _ _ _ _ _ _ :: _ => n
  | _ :: r => nmIn r
def innerAt (K : PySem.W.Frag) (f : Addr) : Str := match K.lookup f with
  | some ⟨_, _, .func u, _⟩ => (match u.body with
    | .stmts b => nmIn b
    | _ => "<lambda>")
  | _ => "<lambda>"
def tabAt (K : PySem.W.Frag) (f : Addr) (q : Str) : Option (Addr × Addr) := match K.lookup f with
  | some ⟨_, _, .func u, _⟩ => if u.qualname = q then (match u.code with
    | .ref c => (match K.lookup c with
      | some ⟨_, _, .fields vs, _⟩ => (match (vs[11]? : Option Value) with
        | some (.ref P) => some (c, P)
        | _ => none)
      | _ => none)
    | _ => none) else none
  | _ => none
def tbls3 (K : PySem.W.Frag) : List (Addr × Addr × Str) := lamDefs.filterMap fun d => (tabAt K (lamAd K d) (lamQ d)).map fun x => (x.1, x.2, lamQ d ++ ".<locals>." ++ innerAt K (lamAd K d))
def tblsOf (K : PySem.W.Frag) : List (Addr × Str) := (tbls3 K).map fun x => (x.2.1, x.2.2)
def ntb (o : HO) : Prop := ∀ ps, o ≠ .tbl ps
def notT (o : HO) : Prop := (∀ ps, o ≠ .tbl ps) ∧ (∀ xs, o ≠ .tup xs) ∧ ∀ φ, o ≠ .ext φ
structure Rep (K : PySem.W.Frag) (G H F : Hp) (m : M) : Prop where
  ext : Same G H
  frm : Same F H
  dis : ∀ a o, F a = some o → G a = none
  mo : ∀ a o, m a = some o → G a = none ∧ F a = none ∧ ∃ u, H a = some u ∧ RpM K G o u
  tb : LamX.Tabs (tblsOf K) H
  gt : ∀ a o, G a = some o → ntb o
  ft : ∀ a o, F a = some o → notT o
section
variable {K : PySem.W.Frag} {G H F : Hp} {m : M} {p a : Addr} {o : HO} {u : MO}
theorem Rep.free (r : Rep K G H F m) (h : H p = none) : G p = none := r.ext.free h
end

section
variable {K : PySem.W.Frag} {G H F : Hp} {m : M} {p : Addr} {o u : HO}
theorem Rep.show (r : Rep K G H (upd F p o) m) (hF : F p = none) : Rep K G H F m := by
  refine ⟨r.ext, fun b v e => ?_, fun b v e => ?_, fun b v e => ?_, r.tb, r.gt, fun b v e => r.ft b v (by rw [upd_ne (fun q => by rw [q, hF] at e; cases e)]; exact e)⟩
  · exact r.frm b v (by rw [upd_ne (fun q => by rw [q, hF] at e; cases e)]; exact e)
  · exact r.dis b v (by rw [upd_ne (fun q => by rw [q, hF] at e; cases e)]; exact e)
  · obtain ⟨h1, h2, w, h3, h4⟩ := r.mo b v e
    have hb : b ≠ p := fun q => by rw [q, upd_same] at h2; cases h2
    rw [upd_ne hb] at h2
    exact ⟨h1, h2, w, h3, h4⟩
end

abbrev DSt := List (Option D)
structure Rs (K : PySem.W.Frag) (G : Hp) (r : DSt) (s : L2.St) : Prop where
  len : r.length = s.length
  at_ : ∀ (i : Nat) (d : D), r[i]? = some (some d) → ∃ v, s[i]? = some (some v) ∧ Rp K G d v
section
variable {K : PySem.W.Frag} {G G' : Hp} {r : DSt} {s : L2.St}
theorem Rs.mono (e : Same G G') (h : Rs K G r s) : Rs K G' r s := ⟨h.len, fun i d q => by
  obtain ⟨v, h1, h2⟩ := h.at_ i d q
  exact ⟨v, h1, h2.mono e⟩⟩
end
end DL

namespace DL
open PySem PySem.Spec PyProof.Rows L2

abbrev DTE := DSt → M → (D → M → Prop) → Prop
abbrev DTT := DSt → M → (Bool → M → Prop) → Prop
abbrev DTA := DSt → M → (List D → M → Prop) → Prop
structure XD where
  C : Addr
  fs : List (Str × D)
abbrev DWX := XD → DSt → M → Prop
def RpX (K : PySem.W.Frag) (G : Hp) (d : Option Addr) (fs : List (Str × D)) : Prop := (d = none ∧ fs = []) ∨ ∃ dd fv, d = some dd ∧ G dd = some (.xd fv) ∧ Rpf K G fs fv
theorem RpX.mono {K : PySem.W.Frag} {G G' : Hp} {d : Option Addr} {fs : List (Str × D)} (e : Same G G') (h : RpX K G d fs) : RpX K G' d fs := by
  rcases h with h | ⟨dd, fv, h1, h2, h3⟩
  · exact .inl h
  · exact .inr ⟨dd, fv, h1, e _ _ h2, h3.mono e⟩
def Lx (K : PySem.W.Frag) (W : WX) (WD : DWX) (G F : Hp) : Prop :=
  ∀ (G' H' : Hp) (m' : M) (r' : DSt) (s' : L2.St) (C : Addr) (fs : List (Str × D)) (d : Option Addr), Same G G' → Rep K G' H' F m' → Rs K G' r' s' → RpX K G' d fs → WD ⟨C, fs⟩ r' m' → W (.ref C) d s' H'
theorem Lx.mono {K : PySem.W.Frag} {W : WX} {WD : DWX} {G G' F : Hp} (e : Same G G') (h : Lx K W WD G F) : Lx K W WD G' F := fun G2 H2 m2 r2 s2 C fs d e2 => h G2 H2 m2 r2 s2 C fs d (e.trans e2)
def Kv (K : PySem.W.Frag) (G F : Hp) (QD : D → M → Prop) (Q : VK) : Prop := ∀ (G' H' : Hp) (m' : M) (d : D) (v : V), Same G G' → Rep K G' H' F m' → Rp K G' d v → QD d m' → Q v H'
theorem Kv.mono {K : PySem.W.Frag} {G G' F : Hp} {QD : D → M → Prop} {Q : VK} (e : Same G G') (h : Kv K G F QD Q) : Kv K G' F QD Q := fun G2 H2 m2 d v e2 => h G2 H2 m2 d v (e.trans e2)
structure Sx (K : PySem.W.Frag) (W : WX) (WD : DWX) (G H F : Hp) (r : DSt) (s : L2.St) (m : M) : Prop where
  rep : Rep K G H F m
  rs : Rs K G r s
  lx : Lx K W WD G F
section
variable {X : Cx} {e : Expr}
theorem PE.imp {t t' : TE} (h : PE X e t) (i : ∀ σ H Q, t' σ H Q → t σ H Q) : PE X e t' := ⟨fun pins s σ H Q I q => h.run pins s σ H Q I (i σ H Q q)⟩
theorem PT.imp {t t' : TT} (h : PT X e t) (i : ∀ σ H Q, t' σ H Q → t σ H Q) : PT X e t' := ⟨fun pins s σ H Q I q => h.run pins s σ H Q I (i σ H Q q)⟩
theorem PW.imp {t t' : TT} (h : PW X e t) (i : ∀ σ H Q, t' σ H Q → t σ H Q) : PW X e t' := ⟨fun wh pins s σ H Q I q => h.run wh pins s σ H Q I (i σ H Q q)⟩
theorem PA.imp {es : List Expr} {t t' : TA} (h : PA X es t) (i : ∀ σ H Q, t' σ H Q → t σ H Q) : PA X es t' := ⟨fun pos pins s σ H Q I q => h.run pos pins s σ H Q I (i σ H Q q)⟩
theorem PO.imp {e : Option Expr} {t t' : TO} (h : PO X e t) (i : ∀ σ H Q, t' σ H Q → t σ H Q) : PO X e t' := ⟨fun pins s σ H Q I q => h.run pins s σ H Q I (i σ H Q q)⟩
end

end DL

namespace DL
open PySem PySem.Spec PyProof.Rows L2

abbrev DRC := List D → M → (D → M → Prop) → Prop
end DL

namespace DL
open PySem PySem.Spec PyProof.Rows L2

structure DEnds where
  nx : DSt → M → Prop
  rt : D → M → Prop
  bk : DSt → M → Prop := fun _ _ => False
  ct : DSt → M → Prop := fun _ _ => False
abbrev DTS := DEnds → DSt → M → Prop
def Ks (K : PySem.W.Frag) (G F : Hp) (QD : DSt → M → Prop) (Q : L2.St → Hp → Prop) : Prop := ∀ (G' H' : Hp) (m' : M) (r' : DSt) (s' : L2.St), Same G G' → Rep K G' H' F m' → Rs K G' r' s' → QD r' m' → Q s' H'
theorem Ks.mono {K : PySem.W.Frag} {G G' F : Hp} {QD : DSt → M → Prop} {Q : L2.St → Hp → Prop} (e : Same G G') (h : Ks K G F QD Q) : Ks K G' F QD Q := fun G2 H2 m2 r2 s2 e2 => h G2 H2 m2 r2 s2 (e.trans e2)
structure Lk (K : PySem.W.Frag) (G F : Hp) (DD : DEnds) (E : Ends) : Prop where
  nx : Ks K G F DD.nx E.nx
  rt : Kv K G F DD.rt E.rt
  bk : Ks K G F DD.bk E.bk
  ct : Ks K G F DD.ct E.ct
theorem Lk.mono {K : PySem.W.Frag} {G G' F : Hp} {DD : DEnds} {E : Ends} (e : Same G G') (h : Lk K G F DD E) : Lk K G' F DD E := ⟨h.nx.mono e, h.rt.mono e, h.bk.mono e, h.ct.mono e⟩
theorem PS.imp {X : Cx} {st : Stmt} {t t' : TS} (h : PS X st t) (i : ∀ E σ H, t' E σ H → t E σ H) : PS X st t' := ⟨fun pins s σ H D I q => h.run pins s σ H D I (i D σ H q)⟩
theorem PSs.imp {X : Cx} {st : List Stmt} {t t' : TS} (h : PSs X st t) (i : ∀ E σ H, t' E σ H → t E σ H) : PSs X st t' := ⟨fun pins s σ H D I q => h.run pins s σ H D I (i D σ H q)⟩
theorem Sx.to {K : PySem.W.Frag} {W : WX} {WD : DWX} {G G' H H' F : Hp} {r r' : DSt} {s s' : L2.St} {m m' : M} (x : Sx K W WD G H F r s m) (e : Same G G') (h : Rep K G' H' F m') (q : Rs K G' r' s') : Sx K W WD G' H' F r' s' m' := ⟨h, q, x.lx.mono e⟩
abbrev DTG := D → DSt → M → (DSt → M → Prop) → Prop
theorem PG.imp {X : Cx} {tg : Expr} {t t' : TG} (h : PG X tg t) (i : ∀ v σ H Q, t' v σ H Q → t v σ H Q) : PG X tg t' := ⟨fun pins s σ H v u Q I r q => h.run pins s σ H v u Q I r (i v σ H Q q)⟩
theorem PGs.imp {X : Cx} {tg : List Expr} {t t' : TGs} (h : PGs X tg t) (i : ∀ v σ H Q, t' v σ H Q → t v σ H Q) : PGs X tg t' := ⟨fun pins s σ H v u Q I r q => h.run pins s σ H v u Q I r (i v σ H Q q)⟩
end DL

namespace DL
open PySem PySem.Spec PyProof.Rows L2

abbrev DTI := DSt → M → (List D → M → Prop) → Prop
theorem PI.imp {X : Cx} {tg iter : Expr} {t t' : TI} (h : PI X tg iter t) (i : ∀ σ H R, t' σ H R → t σ H R) : PI X tg iter t' := ⟨fun pins s σ H R I q => h.run pins s σ H R I (i σ H R q)⟩
inductive CT where
  | one (i : Nat)
  | tup (js : List Nat)
def CT.in (vs : List Nat) : CT → Prop
  | .one i => i ∈ vs
  | .tup js => ∀ j ∈ js, j ∈ vs
section
variable {X : Cx} {W : WX} {WD : DWX}
theorem PTs.imp {ifs : List Expr} {t t' : TT} (h : PTs X ifs t) (i : ∀ σ H Q, t' σ H Q → t σ H Q) : PTs X ifs t' := ⟨fun pins s σ H Q I q => h.run pins s σ H Q I (i σ H Q q)⟩
end
end DL

namespace DL
open PySem PySem.Spec PyProof.Rows L2

abbrev DSp := List D → M → (D → M → Prop) → (XD → M → Prop) → Prop
end DL

namespace DL
open PySem PySem.Spec PyProof.Rows L2

abbrev DRM := D → List D → M → (D → M → Prop) → Prop
end DL

namespace DL
open PySem PySem.Spec PyProof.Rows L2
open He (ga ma eqO eqO_ok ba)

abbrev Fr0 := PySem.W.Frag
structure DefA where
  ad : Fr0 → Addr
  name : Str
  qual : Str
  params : Arguments
  body : List Stmt
  scope : Scope
  dfl : List He.Dv := []
  kwd : List (Str × He.Dv) := []
def fnAt (K : Fr0) (a : Addr) : He.FnW := match K.lookup a with
  | some ⟨_, _, .func u, _⟩ => some (u.name, u.qualname, u.params, u.body, u.scope, u.globals, u.closure, u.builtins)
  | _ => none
def DefA.told (d : DefA) : He.FnW := some (d.name, d.qual, d.params, .stmts d.body, d.scope, mainGlobals, [], builtinsNs)
def DefA.vs (K : Fr0) (d : DefA) : List V := d.dfl.map (He.Dv.v K)
def DefA.ks (K : Fr0) (d : DefA) : List (Str × V) := d.kwd.map fun z => (z.1, z.2.v K)
def DefA.good (K : Fr0) (d : DefA) : Bool := PySem.W.keepIn K (.ref (d.ad K)) && (match K.lookup (d.ad K) with
  | some ⟨_, _, .func u, _⟩ => PySem.W.codeIn K u.code d.qual && (He.dflB K u.defaults (d.vs K) && He.kwdB K u.kwdefaults (d.ks K))
  | _ => false)
abbrev AlA : Type := Bool × List He.FnW
def obsA (fa : List (Fr0 → Bool)) (fn : List DefA) (K : Fr0) : AlA := (fa.all (fun f => f K) && fn.all (fun d => d.good K), fn.map fun d => fnAt K (d.ad K))
def valA (fn : List DefA) : AlA := (true, fn.map DefA.told)
def Says (fa : List (Fr0 → Bool)) (fn : List DefA) (K : Fr0) : Prop := obsA fa fn K = valA fn
def isTab (o : Obj) : Bool := match o with
  | ⟨.none, _, .fields vs, _⟩ => vs.isEmpty
  | _ => false
def frT (g : Addr → Option Obj) (as : List Addr) : Fr0 := (He.frG g as).filter fun p => !isTab p.2
theorem frG_mem {g : Addr → Option Obj} {as : List Addr} {p : Addr × Obj} (h : p ∈ He.frG g as) : g p.1 = some p.2 := by
  unfold He.frG at h
  obtain ⟨a, _, e⟩ := List.mem_filterMap.mp h
  cases q : g a with
  | none => rw [q] at e; cases e
  | some o => rw [q] at e; cases e; exact q
theorem frT_in {as : List Addr} {h : Heap} : (frT h.get? as).In h := fun a o e => by
  have m : (a, o) ∈ frT h.get? as := PySem.W.mem_of_lookupK e
  exact frG_mem (List.mem_filter.mp m).1
def emptyTab (o : Option Obj) : Bool := match o with
  | some ⟨.none, none, .fields vs, sl⟩ => vs.isEmpty && sl.isEmpty
  | _ => false
def tabsB (g : Addr → Option Obj) (K : Fr0) : Bool := (tbls3 K).all fun x => emptyTab (g x.2.1) && ((K.lookup x.2.1).isNone && (PySem.W.codeHdIn K x.1 x.2.1 && (tbls3 K).all fun y => !(x.2.1 == y.2.1) || decide (x.2.2 = y.2.2)))
structure TabAt (K : Fr0) (h : Heap) : Prop where
  emp : ∀ x ∈ tbls3 K, h.get? x.2.1 = some { cls := .none, data := .fields #[] }
  out : ∀ x ∈ tbls3 K, K.lookup x.2.1 = none
  hd : ∀ x ∈ tbls3 K, PySem.W.CodeHd h x.1 x.2.1
  one : ∀ x ∈ tbls3 K, ∀ y ∈ tbls3 K, x.2.1 = y.2.1 → x.2.2 = y.2.2
theorem tabsB_ok {K : Fr0} {h : Heap} (X : K.In h) (e : tabsB h.get? K = true) : TabAt K h := by
  have all := List.all_eq_true.mp e
  refine ⟨fun x hx => ?_, fun x hx => ?_, fun x hx => ?_, fun x hx y hy => ?_⟩
  · have e1 := (ba (all x hx)).1
    unfold emptyTab at e1
    split at e1
    · rename_i vs sl hq
      obtain ⟨e2, e3⟩ := ba e1
      rw [hq]
      have h1 : vs = #[] := Array.isEmpty_iff.mp e2
      have h2 : sl = #[] := Array.isEmpty_iff.mp e3
      subst h1; subst h2
      rfl
    · cases e1
  · exact Option.isNone_iff_eq_none.mp (ba (ba (all x hx)).2).1
  · exact PySem.W.codeHd_of_K X (ba (ba (ba (all x hx)).2).2).1
  · intro q
    have e1 := List.all_eq_true.mp (ba (ba (ba (all x hx)).2).2).2 y hy
    rw [Bool.or_eq_true, Bool.not_eq_true'] at e1
    rcases e1 with e1 | e1
    · rw [beq_eq_false_iff_ne] at e1
      exact absurd q e1
    · exact of_decide_eq_true e1
theorem TabAt.keeps {K : Fr0} {h h' : Heap} (t : TabAt K h) (k : ∀ b o, h.get? b = some o → h'.get? b = some o) : TabAt K h' := ⟨fun x hx => k _ _ (t.emp x hx), t.out, fun x hx => (t.hd x hx).keeps k, t.one⟩
def pad (K : Fr0) (C f : Str) : Addr := ma K (ga K C) f
def wad (K : Fr0) (T : String) (C f : Str) : Addr := match PySem.W.recIn K (pad K C f) T with
  | some (.ref g :: _) => g
  | _ => 0
def propB (C f : Str) (K : Fr0) : Bool := eqO (PySem.W.findIn K (.ref (ga K C)) f) (some (some (.ref (pad K C f)))) && (eqO (PySem.W.specialIn K (.ref (pad K C f)) "__get__") (some (some (.builtin "property.__get__"))) &&
  (decide (PySem.W.takesIn K (.ref (pad K C f)) = some true) && (match PySem.W.recIn K (pad K C f) "property" with
  | some (.ref _ :: _) => true
  | _ => false)))
end DL

namespace DL
open PySem PySem.Spec PyProof.Rows L2
open He (ga ma eqO eqO_ok ba)
def spX (C : Addr) (fs : List Str) : Sp := fun vs H Q _ => ∃ (a : Addr) (ws : List V), vs = .ref a :: ws ∧ ws.length = fs.length ∧ H a = some (exo a C none) ∧
  ∀ dx, H dx = none → dx ≠ a → Q .non (upd (upd H dx (exd dx (fs.zip ws).reverse)) a (exo a C (some dx)))
section
variable {X : Cx} {W : WX} {WD : DWX} {x n : Str} {c : Addr} {i : Nat} {body suite : List Stmt} {b₀ : Stmt} {np pos pos' : Pos} {tb : DWX → DTS}
abbrev DTX := Addr → Addr → Option Addr → DTS
end
def oexIn (K : PySem.W.Frag) (C : Addr) : Bool := match K.lookup C with
  | some ⟨.type "type", _, .cls cd, sl⟩ => (match cd.mro, sl.toList with
    | .ref C' :: bm, [_, _, _, _, some (.builtin n), _] => C' == C && (n == "ValueError.__new__" && (!cd.hasDel && (cd.hasDict && PySem.HandSPX.refsVE bm)))
    | _, _ => false)
  | _ => false
def oexB (C : Str) (K : Fr0) : Bool := oexIn K (ga K C) && (eqO (PySem.W.findIn K (.ref (ga K C)) "__setattr__") (some (some (.builtin "object.__setattr__"))) && (PySem.W.keepIn K (.ref (ga K C)) && (decide (PySem.W.subIn K (.ref (ga K C)) (.type "BaseException") = some true) && (decide (PySem.W.typeIn K (.ref (ga K C)) = some (.type "type")) &&
  (eqO (PySem.W.findIn K (.ref (ga K C)) "__init__") (some (some (.ref (pad K C "__init__")))) && decide (PySem.W.typeIn K (.ref (pad K C "__init__")) = some (.type "function")))))))
def nofB (C f : Str) (K : Fr0) : Bool := decide (PySem.W.findIn K (.ref (ga K C)) f = some none)
def exmB (C c : Str) (b : Bool) (K : Fr0) : Bool := decide (PySem.W.exmOne K (.ref (ga K C)) (.ref (ga K c)) = some b)
def xfcB (C : Str) (K : Fr0) : Bool := xfB K (ga K C)
end DL

namespace DL
open PySem PySem.Spec PyProof.Rows L2
open He (ga ma eqO eqO_ok ba)
abbrev DTR := DSt → M → (Int → Int → M → Prop) → Prop
theorem PRg.imp {X : Cx} {e : Expr} {t t' : L2.St → Hp → (Int → Int → Hp → Prop) → Prop} (h : PRg X e t) (i : ∀ σ H R, t' σ H R → t σ H R) : PRg X e t' := fun pins s σ H R I q => h pins s σ H R I (i σ H R q)
end DL

namespace DL
open PySem PySem.Spec PyProof.Rows L2
open He (ga ma eqO eqO_ok ba)
section
variable {X : Cx} {W : WX} {WD : DWX} {k n : Nat} {f : Addr} {fd : FuncData} {ps ks : List Str} {sp : DSp} {x : Str} {p pos kpos : Pos} {e : Expr} {es : List Expr} {kws : List Keyword} {t tk : DTA} {te : DTE} {nm : Option Str} {g : List Value → List Value → List Value} {gV : List V → List V → List V}
theorem PK.imp {t t' : TA} (h : PK X kws t) (i : ∀ σ H Q, t' σ H Q → t σ H Q) : PK X kws t' := ⟨fun pos pins s σ H Q I q => h.run pos pins s σ H Q I (i σ H Q q)⟩
end
def tup0B (ad : Fr0 → Addr) (K : Fr0) : Bool := match K.lookup (ad K) with
  | some ⟨.type "tuple", _, .seq its _, _⟩ => its.size == 0
  | _ => false
end DL

namespace DL
open PySem PySem.Spec PyProof.Rows L2
open He (ga ma eqO eqO_ok ba)
def dflA (f : Fr0 → Addr) (i : Nat) (K : Fr0) : Addr := match K.lookup (f K) with
  | some ⟨_, _, .func fd, _⟩ => (match fd.defaults with
    | .ref T => (match K.lookup T with
      | some ⟨_, _, .seq its _, _⟩ => (match its.toList[i]? with
        | some (.ref a) => a
        | _ => 0)
      | _ => 0)
    | _ => 0)
  | _ => 0
end DL

namespace DL
open PySem PySem.Spec PyProof.Rows L2
abbrev Cls1 := Value × Option Nat × (Addr → Value → Option Addr → TS)
abbrev DCls := Value × Option Nat × DTX
end DL

namespace DL
open PySem PySem.Spec PyProof.Rows L2
open He (ga ba)
def xisB (C : Str) (K : Fr0) : Bool := decide (PySem.W.findIn K (.ref (ga K C)) "__getattribute__" = some (some (.builtin "BaseException.__getattribute__"))) && (decide (PySem.W.findIn K (.ref (ga K C)) "__getattr__" = some none) && (decide (PySem.W.subIn K (.ref (ga K C)) (.type "BaseException") = some true) && (PySem.W.hasDictIn K (ga K C) &&
  (decide (PySem.W.findIn K (.ref (ga K C)) "__class__" = some (some (.builtin "object.__class__"))) && (decide (PySem.W.specialIn K (.builtin "object.__class__") "__get__" = some (some (.builtin "getset_descriptor.__get__"))) && (decide (PySem.W.takesIn K (.builtin "object.__class__") = some true) && decide (PySem.W.mroIn K (ga K C) (.type "object") = some true)))))))
def kitTB (C : Str) (T : String) (b : Bool) (K : Fr0) : Bool := decide (PySem.W.kitOne K (.ref (ga K C)) (.type T) = some b)
def kitOB (C C' : Str) (b : Bool) (K : Fr0) : Bool := decide (PySem.W.kitOne K (.ref (ga K C)) (.ref (ga K C')) = some b)
end DL

namespace DL
open PySem PySem.Spec PyProof.Rows L2
def MSub (a b : M) : Prop := ∀ x o, a x = some o → b x = some o
theorem MSub.trans {a b c : M} (h : MSub a b) (k : MSub b c) : MSub a c := fun x o e => k x o (h x o e)
section
variable {κ : Type} [DecidableEq κ]
def valD (kvs : List (κ × D)) (k : κ) : Option D := (kvs.find? fun kv => decide (kv.1 = k)).map (·.2)
variable {K : PySem.W.Frag} {G : Hp}
theorem Rpk.length : ∀ {ds : List (κ × D)} {vs : List (κ × V)}, Rpk K G ds vs → ds.length = vs.length
  | _, _, .nil => rfl
  | _, _, .cons _ t => congrArg Nat.succ (Rpk.length t)
theorem Rpk.rep (k : κ) {d : D} {v : V} (q : Rp K G d v) : ∀ {ds : List (κ × D)} {vs : List (κ × V)}, Rpk K G ds vs → Rpk K G (ds.map fun kv => if kv.1 = k then (kv.1, d) else kv) (vs.map fun kv => if kv.1 = k then (kv.1, v) else kv)
  | _, _, .nil => .nil
  | _, _, .cons (k := j) r t => by
    rw [List.map_cons, List.map_cons]
    by_cases e : j = k
    · rw [if_pos e, if_pos e]
      exact .cons q (Rpk.rep k q t)
    · rw [if_neg e, if_neg e]
      exact .cons r (Rpk.rep k q t)
theorem Rpk.val (k : κ) : ∀ {ds : List (κ × D)} {vs : List (κ × V)}, Rpk K G ds vs → (valD ds k = none ∧ valV vs k = none) ∨ ∃ d v, valD ds k = some d ∧ valV vs k = some v ∧ Rp K G d v
  | _, _, .nil => .inl ⟨rfl, rfl⟩
  | _, _, .cons (k := j) (d := d) (v := v) r t => by
    by_cases e : j = k
    · refine .inr ⟨d, v, ?_, ?_, r⟩
      · simp [valD, e]
      · simp [valV, e]
    · rcases Rpk.val k t with ⟨h1, h2⟩ | ⟨d', v', h1, h2, h3⟩
      · refine .inl ⟨?_, ?_⟩
        · simp only [valD, List.find?_cons, decide_eq_false e]; exact h1
        · simp only [valV, List.find?_cons, decide_eq_false e]; exact h2
      · refine .inr ⟨d', v', ?_, ?_, h3⟩
        · simp only [valD, List.find?_cons, decide_eq_false e]; exact h1
        · simp only [valV, List.find?_cons, decide_eq_false e]; exact h2
end
end DL

namespace DL
open PySem PySem.Spec PyProof.Rows L2
open He (ga ma eqO eqO_ok ba)
def obsLG (as : List Addr) (fa : List (Fr0 → Bool)) (fn : List DefA) (g : Addr → Option Obj) : Bool × AlA := (tabsB g (frT g as), obsA fa fn (frT g as))
def hookL (as : List Addr) (fa : List (Fr0 → Bool)) (fn : List DefA) : PySem.W.Hook where
  α := Bool × AlA
  obs := fun s => obsLG as fa fn s.heap.get?
  val := fun _ => (true, valA fn)
  says := fun _ h => ∃ K : Fr0, K.In h ∧ Says fa fn K ∧ TabAt K h
  of := fun _ _ e => ⟨_, frT_in, (Prod.mk.inj e).2, tabsB_ok frT_in (Prod.mk.inj e).1⟩
  keeps := fun _ _ _ ⟨K, hK, c, t⟩ k => ⟨K, PySem.W.Frag.In.keeps hK k, c, t.keeps k⟩
theorem obsLG_eq {as : List Addr} {fa : List (Fr0 → Bool)} {fn : List DefA} {g : Addr → Option Obj} {s : Shared} (h : ∀ a, g a = s.heap.get? a) : obsLG as fa fn g = (hookL as fa fn).obs s := by
  have e : g = s.heap.get? := funext h
  subst e
  rfl
theorem obsLG_join {as : List Addr} {fa : List (Fr0 → Bool)} {fn : List DefA} {g : Addr → Option Obj} (h1 : obsLG as fa [] g = (true, valA [])) (h2 : obsLG as [] fn g = (true, valA fn)) : obsLG as fa fn g = (true, valA fn) := by
  have e1 : tabsB g (frT g as) = true := congrArg Prod.fst h1
  have e2 : (fa.all (fun f => f (frT g as)) && true) = true := congrArg (fun x => x.2.1) h1
  have e3 : (true && fn.all (fun d => d.good (frT g as))) = true := congrArg (fun x => x.2.1) h2
  have e4 : fn.map (fun d => fnAt (frT g as) (d.ad (frT g as))) = fn.map DefA.told := congrArg (fun x => x.2.2) h2
  rw [Bool.and_true] at e2
  rw [Bool.true_and] at e3
  unfold obsLG obsA valA
  rw [e1, e2, e3, e4]
  rfl
open PySem.W HandSHeadRun in
open PySem.W HandSHeadRun in
theorem run_join {r : OpenRow} {q : Program} {as : List Addr} {fa : List (Fr0 → Bool)} {fn : List DefA} {M : Nat} {loose : List Str} {w : World}
    (a : ∀ os : OsState, (endF (stepQ (denQ tabQ) r.prog w) M r.prog w os).map (fun s => (looksF r.prog (boot_heap w.params) s.abs, seenQ q loose (importedModules r.prog.main.body) (fun s => xlAt q [] s && recOk r.toRowW.records s) s.abs)) = some (true, openGood q loose))
    (b : ∀ os : OsState, (endF (stepQ (denQ tabQ) r.prog w) M r.prog w os).map (fun s => obsLG as fa [] (HandSHeadRun.getT s)) = some (true, valA []))
    (c : ∀ os : OsState, (endF (stepQ (denQ tabQ) r.prog w) M r.prog w os).map (fun s => obsLG as [] fn (HandSHeadRun.getT s)) = some (true, valA fn)) : RunEq r q (hookL as fa fn) (fun s => obsLG as fa fn (HandSHeadRun.getT s)) M loose w := fun os => by
  have a := a os
  have b := b os
  have c := c os
  generalize endF (stepQ (denQ tabQ) r.prog w) M r.prog w os = o at a b c ⊢
  cases o with
  | none => cases a
  | some s =>
    have e1 := Option.some.inj a
    have e2 := Option.some.inj b
    have e3 := Option.some.inj c
    have h1 := congrArg Prod.fst e1
    have h2 := congrArg Prod.snd e1
    show some (_, _, _) = some (true, openGood q loose, (true, valA fn))
    exact congrArg some (Prod.ext h1 (Prod.ext h2 (obsLG_join e2 e3)))
end DL

namespace DL
open PySem PySem.Spec PyProof.Rows L2
section
variable {K : PySem.W.Frag} {G G' : Hp}
def NoF (G G' : Hp) : Prop := ∀ b o, G b = some o → (∀ o' kv, o ≠ .frz o' (.dK kv)) → G' b = some o
theorem NoF.seq (e : NoF G G') {a : Addr} {xs : List V} (h : SqL K G a xs) : SqL K G' a xs := by
  rcases h with (h | ⟨o, h⟩) | h
  · exact .inl (.inl (e _ _ h (fun _ _ z => by cases z)))
  · exact .inl (.inr ⟨o, e _ _ h (fun _ _ z => by cases z)⟩)
  · exact .inr h
end
end DL

namespace PySem
end PySem
namespace ZL
end ZL
namespace DL
open PySem PySem.Spec PyProof.Rows L2 LamX
structure CF where
  name : Str
  qual : Str
  params : Arguments
  body : FuncBody
  scope : Scope
  cl : List (Str × Addr)
  c : Addr
abbrev CF.fd (F : CF) (doc pm ctv : Value) : FuncData := { name := F.name, qualname := F.qual, params := F.params, body := F.body, scope := F.scope, globals := mainGlobals, closure := F.cl, defaults := .none, kwdefaults := .none, doc, pyModule := pm, annotations := none, code := .ref F.c, closureTuple := ctv, builtins := builtinsNs }
abbrev CF.ob (F : CF) (doc pm ctv : Value) (od : Option Addr) (sl : Array (Option Value)) : Obj := ⟨.type "function", od, .func (F.fd doc pm ctv), sl⟩
structure FV where
  is : D → Prop
  sp : D → DSp
structure FvOk (P : Program) (w : World) (K : Fr0) (mg : Str → Option Value) (base : Heap) (k : Nat) (fv : FV) : Prop where
  at_ : ∀ x, fv.is x → ∀ (G : Hp) (v : V), Rp K G x v → ∃ a, v = .ref a ∧ ∀ h : Heap, K.In h → (∀ b o, base.get? b = some o → h.get? b = some o) → PySem.W.FnAt a h
  run : ∀ x, fv.is x → ∀ (A : Around) (outer : List Env) (s : Shared) (H : Hp) (us : List Value) (vs : List V) (a : Addr) (G F : Hp) (m : M) (ds : List D) (QD : D → M → Prop) (Q : VK), Room k A → Env0 P w K mg base A outer s H → Rep K G H F m → Rp K G x (.ref a) → Rps K G ds vs → Vals vs us →
    fv.sp x ds m QD (fun _ _ => False) → Kv K G F QD Q → codeAny (model P w) A (.call (.ref a) ⟨us, []⟩) (CR (L2.CX P w) outer P w H s Q (fun _ _ _ => False)) s
section
variable {P : Program} {w : World} {K : Fr0} {mg : Str → Option Value} {base : Heap} {j k : Nat} {fv gv : FV}
theorem FvOk.mono (o : FvOk P w K mg base j fv) (h : j ≤ k) : FvOk P w K mg base k fv := ⟨o.at_, fun x hx A outer s H us vs a G F m ds QD Q hr => o.run x hx A outer s H us vs a G F m ds QD Q (hr.mono h)⟩
end
end DL

namespace DL
open PySem PySem.Spec PyProof.Rows L2
open He (ga ma eqO eqO_ok ba)
def kitUpT (cs : List Str) (T : String) (b : Bool) (K : Fr0) : Bool := cs.all fun c => kitTB c T b K
end DL

namespace L2
end L2
namespace LW
open PySem PySem.Spec PyProof.Rows L2 DL
open He (ga ma)
def LETTERS : Str := "abcdefghijklmnopqrstuvwxyz"
structure Knd where
  n : Str
  c : Int
  d : Int
structure Arr where
  f : Str
  s : Str
  g : Int
def Knd.D (k : Knd) : DL.D := .tup [.str k.n, .int k.c, .int k.d]
def Arr.D (a : Arr) : DL.D := .tup [.str a.f, .str a.s, .int a.g]
inductive Flt where
  | nm (z : Str)
  | cnt (w : Str) (n : Int)
  | rng (w : Str) (v : Int)
  | rep (z : Str)
  | repA (z w : Str)
  | unk (z : Str)
def Flt.X (K : Fr0) : Flt → XD
  | .nm z => ⟨ga K "BadName", [("name", .str z)]⟩
  | .cnt w n => ⟨ga K "WrongCount", [("count", .int n), ("what", .str w)]⟩
  | .rng w v => ⟨ga K "OutOfRange", [("value", .int v), ("what", .str w)]⟩
  | .rep z => ⟨ga K "Repeated", [("name", .str z)]⟩
  | .repA z w => ⟨ga K "RepeatedArrow", [("second", .str w), ("first", .str z)]⟩
  | .unk z => ⟨ga K "UnknownKind", [("name", .str z)]⟩
structure PS where
  ns : List Int
  v : Int
  k : Int
def pm (a b : Addr) (s : PS) (m : M) : M := mset (mset m b (.lst (s.ns.map D.int))) a (.lst [.ref b, .int s.v, .int s.k])
inductive Ln where
  | task (z : Str)
  | kind (z : Str) (c d : Int)
  | arrow (a b : Str) (g : Int)
def Ln.D : Ln → DL.D
  | .task z => .tup [.str "task", .str z]
  | .kind z c d => .tup [.str "kind", .str z, .int c, .int d]
  | .arrow a b g => .tup [.str "arrow", .str a, .str b, .int g]
def numS (i : Int) : Str := toString i
def Ln.txt : Ln → Str
  | .task z => "task " ++ z
  | .kind z c d => "kind " ++ z ++ " " ++ numS c ++ " " ++ numS d
  | .arrow a b g => "arrow " ++ a ++ " " ++ b ++ " " ++ numS g
def Ln.ws : Ln → List Str
  | .task z => ["task", z]
  | .kind z c d => ["kind", z, numS c, numS d]
  | .arrow a b g => ["arrow", a, b, numS g]
def Ln.line (r : Ln) : Str := r.txt ++ "\n"
def Bad.X (K : Fr0) (k : Nat) : XD := ⟨ga K "BadLine", [("line", .int k)]⟩
def xNames : List Str := ["BadName", "WrongCount", "OutOfRange", "Repeated", "RepeatedArrow", "UnknownKind", "BadLine"]
end LW

namespace LW
open PySem PySem.Spec PyProof.Rows L2 DL
open He (ga ma)
def top (i : Nat) : Stmt := PySem.Challenge.pw_walkdues_k04_lines_spoiled.main.body.getD i (.Pass ⟨0, 0, 0, 0⟩)
abbrev s_BadName_init : Stmt := inClass (top 3) 0
abbrev s_WrongCount_init : Stmt := inClass (top 4) 0
abbrev s_OutOfRange_init : Stmt := inClass (top 5) 0
abbrev s_Repeated_init : Stmt := inClass (top 6) 0
abbrev s_RepeatedArrow_init : Stmt := inClass (top 7) 0
abbrev s_UnknownKind_init : Stmt := inClass (top 8) 0
abbrev s_BadLine_init : Stmt := inClass (top 9) 0
abbrev s_is_name : Stmt := top 17
abbrev s_need_name : Stmt := top 18
abbrev s_need_range : Stmt := top 19
abbrev s_need_kind : Stmt := top 20
abbrev s_checked_kinds : Stmt := top 21
abbrev s_checked_arrows : Stmt := top 22
abbrev s_Task_init : Stmt := inClass (top 23) 0
abbrev s_Task_kinds : Stmt := inClass (top 23) 1
abbrev s_Task_arrows : Stmt := inClass (top 23) 2
abbrev s_number_of : Stmt := top 27
abbrev s_kind_parts : Stmt := top 28
abbrev s_arrow_parts : Stmt := top 29
abbrev s_line_parts : Stmt := top 30
abbrev s_read_lines : Stmt := top 31
abbrev s_read_tasks : Stmt := top 32
abbrev s_law_pool : Stmt := top 34
abbrev s_law_draw : Stmt := top 35
abbrev s_law_name : Stmt := top 36
abbrev s_law_fresh : Stmt := top 37
abbrev s_law_near : Stmt := top 38
abbrev s_law_number : Stmt := top 39
abbrev s_law_spec : Stmt := top 40
abbrev s_law_text : Stmt := top 41
abbrev s_law_sign : Stmt := top 42
abbrev s_law_spoil_sign : Stmt := top 43
abbrev s_law_spoil_line : Stmt := top 44
abbrev s_law_number_of : Stmt := top 45
abbrev s_law_parts : Stmt := top 46
abbrev s_law_is_name : Stmt := top 47
abbrev s_law_kind_fault : Stmt := top 48
abbrev s_law_arrow_fault : Stmt := top 49
abbrev s_law_task_fault : Stmt := top 50
abbrev s_law_due : Stmt := top 51
abbrev s_law_fault : Stmt := top 52
abbrev s_law_told : Stmt := top 53
abbrev s_law : Stmt := top 54
def da_BadName_init : DefA := ⟨fun K => ma K (ga K "BadName") "__init__", "__init__", "BadName.__init__", defArgs s_BadName_init, defBody s_BadName_init, defScope s_BadName_init, [], []⟩
def da_WrongCount_init : DefA := ⟨fun K => ma K (ga K "WrongCount") "__init__", "__init__", "WrongCount.__init__", defArgs s_WrongCount_init, defBody s_WrongCount_init, defScope s_WrongCount_init, [], []⟩
def da_OutOfRange_init : DefA := ⟨fun K => ma K (ga K "OutOfRange") "__init__", "__init__", "OutOfRange.__init__", defArgs s_OutOfRange_init, defBody s_OutOfRange_init, defScope s_OutOfRange_init, [], []⟩
def da_Repeated_init : DefA := ⟨fun K => ma K (ga K "Repeated") "__init__", "__init__", "Repeated.__init__", defArgs s_Repeated_init, defBody s_Repeated_init, defScope s_Repeated_init, [], []⟩
def da_RepeatedArrow_init : DefA := ⟨fun K => ma K (ga K "RepeatedArrow") "__init__", "__init__", "RepeatedArrow.__init__", defArgs s_RepeatedArrow_init, defBody s_RepeatedArrow_init, defScope s_RepeatedArrow_init, [], []⟩
def da_UnknownKind_init : DefA := ⟨fun K => ma K (ga K "UnknownKind") "__init__", "__init__", "UnknownKind.__init__", defArgs s_UnknownKind_init, defBody s_UnknownKind_init, defScope s_UnknownKind_init, [], []⟩
def da_BadLine_init : DefA := ⟨fun K => ma K (ga K "BadLine") "__init__", "__init__", "BadLine.__init__", defArgs s_BadLine_init, defBody s_BadLine_init, defScope s_BadLine_init, [], []⟩
def da_is_name : DefA := ⟨fun K => ga K "is_name", "is_name", "is_name", defArgs s_is_name, defBody s_is_name, defScope s_is_name, [], []⟩
def da_need_name : DefA := ⟨fun K => ga K "need_name", "need_name", "need_name", defArgs s_need_name, defBody s_need_name, defScope s_need_name, [], []⟩
def da_need_range : DefA := ⟨fun K => ga K "need_range", "need_range", "need_range", defArgs s_need_range, defBody s_need_range, defScope s_need_range, [], []⟩
def da_need_kind : DefA := ⟨fun K => ga K "need_kind", "need_kind", "need_kind", defArgs s_need_kind, defBody s_need_kind, defScope s_need_kind, [], []⟩
def da_checked_kinds : DefA := ⟨fun K => ga K "checked_kinds", "checked_kinds", "checked_kinds", defArgs s_checked_kinds, defBody s_checked_kinds, defScope s_checked_kinds, [], []⟩
def da_checked_arrows : DefA := ⟨fun K => ga K "checked_arrows", "checked_arrows", "checked_arrows", defArgs s_checked_arrows, defBody s_checked_arrows, defScope s_checked_arrows, [], []⟩
def da_Task_init : DefA := ⟨fun K => ma K (ga K "Task") "__init__", "__init__", "Task.__init__", defArgs s_Task_init, defBody s_Task_init, defScope s_Task_init, [.adr (dflA (fun K => ma K (ga K "Task") "__init__") 0)], []⟩
def da_Task_kinds : DefA := ⟨fun K => wad K "property" "Task" "kinds", "kinds", "Task.kinds", defArgs s_Task_kinds, defBody s_Task_kinds, defScope s_Task_kinds, [], []⟩
def da_Task_arrows : DefA := ⟨fun K => wad K "property" "Task" "arrows", "arrows", "Task.arrows", defArgs s_Task_arrows, defBody s_Task_arrows, defScope s_Task_arrows, [], []⟩
def da_number_of : DefA := ⟨fun K => ga K "number_of", "number_of", "number_of", defArgs s_number_of, defBody s_number_of, defScope s_number_of, [], []⟩
def da_kind_parts : DefA := ⟨fun K => ga K "kind_parts", "kind_parts", "kind_parts", defArgs s_kind_parts, defBody s_kind_parts, defScope s_kind_parts, [], []⟩
def da_arrow_parts : DefA := ⟨fun K => ga K "arrow_parts", "arrow_parts", "arrow_parts", defArgs s_arrow_parts, defBody s_arrow_parts, defScope s_arrow_parts, [], []⟩
def da_line_parts : DefA := ⟨fun K => ga K "line_parts", "line_parts", "line_parts", defArgs s_line_parts, defBody s_line_parts, defScope s_line_parts, [], []⟩
def da_read_lines : DefA := ⟨fun K => ga K "read_lines", "read_lines", "read_lines", defArgs s_read_lines, defBody s_read_lines, defScope s_read_lines, [], []⟩
def da_read_tasks : DefA := ⟨fun K => ga K "read_tasks", "read_tasks", "read_tasks", defArgs s_read_tasks, defBody s_read_tasks, defScope s_read_tasks, [], []⟩
def da_law_pool : DefA := ⟨fun K => ga K "_law_pool", "_law_pool", "_law_pool", defArgs s_law_pool, defBody s_law_pool, defScope s_law_pool, [], []⟩
def da_law_draw : DefA := ⟨fun K => ga K "_law_draw", "_law_draw", "_law_draw", defArgs s_law_draw, defBody s_law_draw, defScope s_law_draw, [], []⟩
def da_law_name : DefA := ⟨fun K => ga K "_law_name", "_law_name", "_law_name", defArgs s_law_name, defBody s_law_name, defScope s_law_name, [], []⟩
def da_law_fresh : DefA := ⟨fun K => ga K "_law_fresh", "_law_fresh", "_law_fresh", defArgs s_law_fresh, defBody s_law_fresh, defScope s_law_fresh, [], []⟩
def da_law_near : DefA := ⟨fun K => ga K "_law_near", "_law_near", "_law_near", defArgs s_law_near, defBody s_law_near, defScope s_law_near, [], []⟩
def da_law_number : DefA := ⟨fun K => ga K "_law_number", "_law_number", "_law_number", defArgs s_law_number, defBody s_law_number, defScope s_law_number, [], []⟩
def da_law_spec : DefA := ⟨fun K => ga K "_law_spec", "_law_spec", "_law_spec", defArgs s_law_spec, defBody s_law_spec, defScope s_law_spec, [], []⟩
def da_law_text : DefA := ⟨fun K => ga K "_law_text", "_law_text", "_law_text", defArgs s_law_text, defBody s_law_text, defScope s_law_text, [], []⟩
def da_law_sign : DefA := ⟨fun K => ga K "_law_sign", "_law_sign", "_law_sign", defArgs s_law_sign, defBody s_law_sign, defScope s_law_sign, [], []⟩
def da_law_spoil_sign : DefA := ⟨fun K => ga K "_law_spoil_sign", "_law_spoil_sign", "_law_spoil_sign", defArgs s_law_spoil_sign, defBody s_law_spoil_sign, defScope s_law_spoil_sign, [], []⟩
def da_law_spoil_line : DefA := ⟨fun K => ga K "_law_spoil_line", "_law_spoil_line", "_law_spoil_line", defArgs s_law_spoil_line, defBody s_law_spoil_line, defScope s_law_spoil_line, [], []⟩
def da_law_number_of : DefA := ⟨fun K => ga K "_law_number_of", "_law_number_of", "_law_number_of", defArgs s_law_number_of, defBody s_law_number_of, defScope s_law_number_of, [], []⟩
def da_law_parts : DefA := ⟨fun K => ga K "_law_parts", "_law_parts", "_law_parts", defArgs s_law_parts, defBody s_law_parts, defScope s_law_parts, [], []⟩
def da_law_is_name : DefA := ⟨fun K => ga K "_law_is_name", "_law_is_name", "_law_is_name", defArgs s_law_is_name, defBody s_law_is_name, defScope s_law_is_name, [], []⟩
def da_law_kind_fault : DefA := ⟨fun K => ga K "_law_kind_fault", "_law_kind_fault", "_law_kind_fault", defArgs s_law_kind_fault, defBody s_law_kind_fault, defScope s_law_kind_fault, [], []⟩
def da_law_arrow_fault : DefA := ⟨fun K => ga K "_law_arrow_fault", "_law_arrow_fault", "_law_arrow_fault", defArgs s_law_arrow_fault, defBody s_law_arrow_fault, defScope s_law_arrow_fault, [], []⟩
def da_law_task_fault : DefA := ⟨fun K => ga K "_law_task_fault", "_law_task_fault", "_law_task_fault", defArgs s_law_task_fault, defBody s_law_task_fault, defScope s_law_task_fault, [], []⟩
def da_law_due : DefA := ⟨fun K => ga K "_law_due", "_law_due", "_law_due", defArgs s_law_due, defBody s_law_due, defScope s_law_due, [], []⟩
def da_law_fault : DefA := ⟨fun K => ga K "_law_fault", "_law_fault", "_law_fault", defArgs s_law_fault, defBody s_law_fault, defScope s_law_fault, [], []⟩
def da_law_told : DefA := ⟨fun K => ga K "_law_told", "_law_told", "_law_told", defArgs s_law_told, defBody s_law_told, defScope s_law_told, [], []⟩
def da_law : DefA := ⟨fun K => ga K "law", "law", "law", defArgs s_law, defBody s_law, defScope s_law, [], []⟩
def fn : List DefA := [da_BadName_init, da_WrongCount_init, da_OutOfRange_init, da_Repeated_init, da_RepeatedArrow_init, da_UnknownKind_init, da_BadLine_init, da_is_name, da_need_name, da_need_range, da_need_kind, da_checked_kinds, da_checked_arrows, da_Task_init, da_Task_kinds, da_Task_arrows, da_number_of, da_kind_parts, da_arrow_parts, da_line_parts, da_read_lines, da_read_tasks, da_law_pool, da_law_draw, da_law_name, da_law_fresh, da_law_near, da_law_number, da_law_spec, da_law_text, da_law_sign, da_law_spoil_sign, da_law_spoil_line, da_law_number_of, da_law_parts, da_law_is_name, da_law_kind_fault, da_law_arrow_fault, da_law_task_fault, da_law_due, da_law_fault, da_law_told, da_law]
def fa : List (Fr0 → Bool) := [
  fun K => (He.Fa.glo "is_name").ok K,
  fun K => (He.Fa.glo "need_name").ok K,
  fun K => (He.Fa.glo "need_range").ok K,
  fun K => (He.Fa.glo "need_kind").ok K,
  fun K => (He.Fa.glo "checked_kinds").ok K,
  fun K => (He.Fa.glo "checked_arrows").ok K,
  fun K => (He.Fa.glo "number_of").ok K,
  fun K => (He.Fa.glo "kind_parts").ok K,
  fun K => (He.Fa.glo "arrow_parts").ok K,
  fun K => (He.Fa.glo "line_parts").ok K,
  fun K => (He.Fa.glo "read_lines").ok K,
  fun K => (He.Fa.glo "read_tasks").ok K,
  fun K => (He.Fa.glo "_law_pool").ok K,
  fun K => (He.Fa.glo "_law_draw").ok K,
  fun K => (He.Fa.glo "_law_name").ok K,
  fun K => (He.Fa.glo "_law_fresh").ok K,
  fun K => (He.Fa.glo "_law_near").ok K,
  fun K => (He.Fa.glo "_law_number").ok K,
  fun K => (He.Fa.glo "_law_spec").ok K,
  fun K => (He.Fa.glo "_law_text").ok K,
  fun K => (He.Fa.glo "_law_sign").ok K,
  fun K => (He.Fa.glo "_law_spoil_sign").ok K,
  fun K => (He.Fa.glo "_law_spoil_line").ok K,
  fun K => (He.Fa.glo "_law_number_of").ok K,
  fun K => (He.Fa.glo "_law_parts").ok K,
  fun K => (He.Fa.glo "_law_is_name").ok K,
  fun K => (He.Fa.glo "_law_kind_fault").ok K,
  fun K => (He.Fa.glo "_law_arrow_fault").ok K,
  fun K => (He.Fa.glo "_law_task_fault").ok K,
  fun K => (He.Fa.glo "_law_due").ok K,
  fun K => (He.Fa.glo "_law_fault").ok K,
  fun K => (He.Fa.glo "_law_told").ok K,
  fun K => (He.Fa.glo "law").ok K,
  fun K => (He.Fa.glo "DuesError").ok K,
  fun K => (He.Fa.glo "BadName").ok K,
  fun K => (He.Fa.glo "WrongCount").ok K,
  fun K => (He.Fa.glo "OutOfRange").ok K,
  fun K => (He.Fa.glo "Repeated").ok K,
  fun K => (He.Fa.glo "RepeatedArrow").ok K,
  fun K => (He.Fa.glo "UnknownKind").ok K,
  fun K => (He.Fa.glo "BadLine").ok K,
  fun K => (He.Fa.glo "Task").ok K,
  fun K => (He.Fa.free "ValueError").ok K,
  fun K => (He.Fa.free "all").ok K,
  fun K => (He.Fa.free "bool").ok K,
  fun K => (He.Fa.free "int").ok K,
  fun K => (He.Fa.free "isinstance").ok K,
  fun K => (He.Fa.free "len").ok K,
  fun K => (He.Fa.free "list").ok K,
  fun K => (He.Fa.free "min").ok K,
  fun K => (He.Fa.free "range").ok K,
  fun K => (He.Fa.free "str").ok K,
  fun K => (He.Fa.str "LETTERS" "abcdefghijklmnopqrstuvwxyz").ok K,
  fun K => (He.Fa.str "OTHER_SIGNS" "0123456789_").ok K,
  fun K => (He.Fa.int "LONGEST_NAME" 12).ok K,
  fun K => (He.Fa.int "MOST_KINDS" 4).ok K,
  fun K => (He.Fa.int "MOST_ARROWS" 12).ok K,
  fun K => (He.Fa.int "MOST_GAP" 12).ok K,
  fun K => (He.Fa.str "DIGITS" "0123456789").ok K,
  fun K => (He.Fa.int "LONGEST_NUMBER" 9).ok K,
  fun K => (He.Fa.cls "Task").ok K,
  fun K => (He.Fa.mkr "Task").ok K,
  propB "Task" "kinds",
  propB "Task" "arrows",
  fun K => (He.Fa.noat "Task" "name").ok K,
  fun K => (He.Fa.noat "Task" "kind_rows").ok K,
  fun K => (He.Fa.noat "Task" "arrow_rows").ok K,
  oexB "BadLine",
  exmB "BadLine" "DuesError" true,
  oexB "BadName",
  exmB "BadName" "DuesError" true,
  oexB "OutOfRange",
  exmB "OutOfRange" "DuesError" true,
  oexB "Repeated",
  exmB "Repeated" "DuesError" true,
  oexB "RepeatedArrow",
  exmB "RepeatedArrow" "DuesError" true,
  oexB "UnknownKind",
  exmB "UnknownKind" "DuesError" true,
  oexB "WrongCount",
  exmB "WrongCount" "DuesError" true,
  xisB "DuesError",
  xisB "BadName",
  kitOB "BadName" "BadLine" false,
  kitOB "BadName" "BadName" true,
  kitOB "BadName" "OutOfRange" false,
  kitOB "BadName" "Repeated" false,
  kitOB "BadName" "RepeatedArrow" false,
  kitOB "BadName" "UnknownKind" false,
  kitOB "BadName" "WrongCount" false,
  xisB "WrongCount",
  kitOB "WrongCount" "BadLine" false,
  kitOB "WrongCount" "BadName" false,
  kitOB "WrongCount" "OutOfRange" false,
  kitOB "WrongCount" "Repeated" false,
  kitOB "WrongCount" "RepeatedArrow" false,
  kitOB "WrongCount" "UnknownKind" false,
  kitOB "WrongCount" "WrongCount" true,
  xisB "OutOfRange",
  kitOB "OutOfRange" "BadLine" false,
  kitOB "OutOfRange" "BadName" false,
  kitOB "OutOfRange" "OutOfRange" true,
  kitOB "OutOfRange" "Repeated" false,
  kitOB "OutOfRange" "RepeatedArrow" false,
  kitOB "OutOfRange" "UnknownKind" false,
  kitOB "OutOfRange" "WrongCount" false,
  xisB "Repeated",
  kitOB "Repeated" "BadLine" false,
  kitOB "Repeated" "BadName" false,
  kitOB "Repeated" "OutOfRange" false,
  kitOB "Repeated" "Repeated" true,
  kitOB "Repeated" "RepeatedArrow" false,
  kitOB "Repeated" "UnknownKind" false,
  kitOB "Repeated" "WrongCount" false,
  xisB "RepeatedArrow",
  kitOB "RepeatedArrow" "BadLine" false,
  kitOB "RepeatedArrow" "BadName" false,
  kitOB "RepeatedArrow" "OutOfRange" false,
  kitOB "RepeatedArrow" "Repeated" false,
  kitOB "RepeatedArrow" "RepeatedArrow" true,
  kitOB "RepeatedArrow" "UnknownKind" false,
  kitOB "RepeatedArrow" "WrongCount" false,
  xisB "UnknownKind",
  kitOB "UnknownKind" "BadLine" false,
  kitOB "UnknownKind" "BadName" false,
  kitOB "UnknownKind" "OutOfRange" false,
  kitOB "UnknownKind" "Repeated" false,
  kitOB "UnknownKind" "RepeatedArrow" false,
  kitOB "UnknownKind" "UnknownKind" true,
  kitOB "UnknownKind" "WrongCount" false,
  xisB "BadLine",
  kitOB "BadLine" "BadLine" true,
  kitOB "BadLine" "BadName" false,
  kitOB "BadLine" "OutOfRange" false,
  kitOB "BadLine" "Repeated" false,
  kitOB "BadLine" "RepeatedArrow" false,
  kitOB "BadLine" "UnknownKind" false,
  kitOB "BadLine" "WrongCount" false,
  nofB "BadLine" "line",
  nofB "BadName" "name",
  nofB "OutOfRange" "value",
  nofB "OutOfRange" "what",
  nofB "Repeated" "name",
  nofB "RepeatedArrow" "first",
  nofB "RepeatedArrow" "second",
  nofB "UnknownKind" "name",
  nofB "WrongCount" "count",
  nofB "WrongCount" "what",
  xfcB "BadLine",
  xfcB "BadName",
  xfcB "DuesError",
  xfcB "OutOfRange",
  xfcB "Repeated",
  xfcB "RepeatedArrow",
  xfcB "UnknownKind",
  xfcB "WrongCount",
  tup0B (dflA (fun K => ma K (ga K "Task") "__init__") 0),
  kitUpT xNames "ValueError" true]
end LW

set_option maxHeartbeats 0
namespace LW
open PySem PySem.Spec PyProof.Rows L2 DL
open He (ga ma)
abbrev R : PySem.W.OpenRow := PySem.W.OpenLaw.row PySem.Challenge.rw_walkdues_k04_lines_spoiled
def adrs : List Addr := List.range 1500
abbrev hk : PySem.W.Hook := hookL adrs fa fn
def ob (s : PySem.W.SharedT) : Bool × AlA := obsLG adrs fa fn (HandSHeadRun.getT s)
theorem ob_eq (s : PySem.W.SharedT) : ob s = hk.obs s.abs := obsLG_eq (HandSHeadRun.getT_eq s)
def loose : List Str := (["_wall", "__name__", "DuesError", "BadName", "WrongCount", "OutOfRange", "Repeated", "RepeatedArrow", "UnknownKind", "BadLine", "LETTERS", "OTHER_SIGNS", "LONGEST_NAME", "MOST_KINDS", "MOST_ARROWS", "MOST_GAP", "is_name", "need_name", "need_range", "need_kind"] : List Str) ++ (["checked_kinds", "checked_arrows", "Task", "DIGITS", "LONGEST_NUMBER", "number_of", "kind_parts", "arrow_parts", "line_parts", "read_lines", "read_tasks", "_law_pool", "_law_draw", "_law_name", "_law_fresh", "_law_near", "_law_number", "_law_spec", "_law_text", "_law_sign"] : List Str) ++ (["_law_spoil_sign", "_law_spoil_line", "_law_number_of", "_law_parts", "_law_is_name", "_law_kind_fault", "_law_arrow_fault", "_law_task_fault", "_law_due", "_law_fault", "_law_told"] : List Str)
open PySem.W HandSHeadRun in
theorem run1 (w : World) (os : OsState) : (endF (stepQ (denQ tabQ) R.prog w) 12000 R.prog w os).map (fun s => (looksF R.prog (boot_heap w.params) s.abs, seenQ (PySem.W.view R.prog [54]) loose (importedModules R.prog.main.body) (fun s => xlAt (PySem.W.view R.prog [54]) [] s && recOk R.toRowW.records s) s.abs)) = some (true, openGood (PySem.W.view R.prog [54]) loose) := by
  kernel_rfl
open PySem.W HandSHeadRun in
theorem run2 (w : World) (os : OsState) : (endF (stepQ (denQ tabQ) R.prog w) 12000 R.prog w os).map (fun s => obsLG adrs fa [] (HandSHeadRun.getT s)) = some (true, valA []) := by
  kernel_rfl
open PySem.W HandSHeadRun in
theorem run3 (w : World) (os : OsState) : (endF (stepQ (denQ tabQ) R.prog w) 12000 R.prog w os).map (fun s => obsLG adrs [] fn (HandSHeadRun.getT s)) = some (true, valA fn) := by
  kernel_rfl
theorem run (w : World) : HandSHeadRun.RunEq R (PySem.W.view R.prog [54]) hk ob 12000 loose w := run_join (run1 w) (run2 w) (run3 w)
open PySem PySem.W PySem.Calls PyProof.Rows in
def hd1 := HandSHeadRun.head_any (r := PySem.W.OpenLaw.row PySem.Challenge.rw_walkdues_k04_lines_spoiled) (q := PySem.W.view (PySem.W.OpenLaw.row PySem.Challenge.rw_walkdues_k04_lines_spoiled).prog [54]) (H := hk) (ob := ob) (M := 12000) (loose := loose) (d := HandSHeadRun.topDef (PySem.W.OpenLaw.row PySem.Challenge.rw_walkdues_k04_lines_spoiled).prog 54) (kwd := []) ob_eq
    (by kernel_rfl) (fun s => by kernel_rfl) run (by kernel_rfl) (by kernel_rfl) (by kernel_rfl) (by rfl) (by decide +kernel) (by decide +kernel) ⟨rfl, rfl, rfl, rfl, rfl, by decide +kernel⟩
end LW
set_option Elab.async false
set_option linter.all false
set_option maxRecDepth 100000
set_option maxHeartbeats 4000000
namespace DL
open PySem PySem.Spec PyProof.Rows L2

theorem same_new {H : Hp} {p : Addr} {o : HO} (h : H p = none) : Same H (upd H p o) := fun a u e => by
  rw [upd_ne (ne_of_none e h)]
  exact e
theorem same_mut {H H' : Hp} {p : Addr} {o : HO} (e : Same H H') (h : H p = none) : Same H (upd H' p o) := fun a u ha => by
  rw [upd_ne (ne_of_none ha h)]
  exact e a u ha

section
variable {K : PySem.W.Frag} {G G' : Hp}
theorem Rps.set {d : D} {v : V} (r : Rp K G d v) : ∀ {ds : List D} {vs : List V} (i : Nat), Rps K G ds vs → Rps K G (ds.set i d) (vs.set i v)
  | _, _, _, .nil => .nil
  | _, _, 0, .cons _ t => .cons r t
  | _, _, i + 1, .cons q t => .cons q (Rps.set r i t)
theorem Rps.take : ∀ {ds : List D} {vs : List V} (n : Nat), Rps K G ds vs → Rps K G (ds.take n) (vs.take n)
  | _, _, 0, _ => .nil
  | _, _, _ + 1, .nil => .nil
  | _, _, n + 1, .cons r t => .cons r (Rps.take n t)
theorem Rps.drop : ∀ {ds : List D} {vs : List V} (n : Nat), Rps K G ds vs → Rps K G (ds.drop n) (vs.drop n)
  | _, _, 0, r => r
  | _, _, _ + 1, .nil => .nil
  | _, _, n + 1, .cons _ t => Rps.drop n t
theorem Rps.eraseIdx : ∀ {ds : List D} {vs : List V} (i : Nat), Rps K G ds vs → Rps K G (ds.eraseIdx i) (vs.eraseIdx i)
  | _, _, _, .nil => .nil
  | _, _, 0, .cons _ t => t
  | _, _, i + 1, .cons r t => .cons r (Rps.eraseIdx i t)
theorem Rps.ints : ∀ {ns : List Int} {vs : List V}, Rps K G (ns.map D.int) vs → vs = ns.map V.int
  | [], _, .nil => rfl
  | n :: ns, _, .cons r t => by
    cases r
    rw [Rps.ints t]
    rfl
theorem Rps.ofInts : ∀ (ns : List Int), Rps K G (ns.map D.int) (ns.map V.int)
  | [] => .nil
  | n :: ns => .cons (.int n) (Rps.ofInts ns)
theorem Rps.bls : ∀ {bs : List Bool} {vs : List V}, Rps K G (bs.map D.bl) vs → vs = bs.map V.bl
  | [], _, .nil => rfl
  | n :: ns, _, .cons r t => by
    cases r
    rw [Rps.bls t]
    rfl
theorem Rps.strs : ∀ {bs : List Str} {vs : List V}, Rps K G (bs.map D.str) vs → vs = bs.map V.str
  | [], _, .nil => rfl
  | n :: ns, _, .cons r t => by
    cases r
    rw [Rps.strs t]
    rfl
end
def putD (f : Str) (v : D) : List (Str × D) → List (Str × D)
  | [] => [(f, v)]
  | (g, x) :: r => if g = f then (g, v) :: r else (g, x) :: putD f v r
theorem Rpf.put {K : PySem.W.Frag} {G : Hp} {f : Str} {d : D} {v : V} (r : Rp K G d v) : ∀ {fs : List (Str × D)} {fv : List (Str × V)}, Rpf K G fs fv → Rpf K G (putD f d fs) (putF f v fv)
  | _, _, .nil => .cons r .nil
  | _, _, .cons (n := n) q t => by
    show Rpf K G (if n = f then _ else _) (if n = f then _ else _)
    by_cases h : n = f
    · rw [if_pos h, if_pos h]
      exact .cons r t
    · rw [if_neg h, if_neg h]
      exact .cons q (Rpf.put r t)

theorem RpM.ofLst {K : PySem.W.Frag} {G : Hp} {ds : List D} {o : HO} (h : RpM K G (.lst ds) o) : ∃ vs, o = .lst vs ∧ Rps K G ds vs := by
  cases o with
  | lst vs => exact ⟨vs, rfl, h⟩
  | _ => exact h.elim
theorem RpM.ofIns {K : PySem.W.Frag} {G : Hp} {C : Addr} {fs : List (Str × D)} {o : HO} (h : RpM K G (.ins C fs) o) : ∃ dx fv, o = .ins C dx fv ∧ Rpf K G fs fv := by
  cases o with
  | ins C' dx fv => obtain ⟨rfl, h⟩ := h; exact ⟨dx, fv, rfl, h⟩
  | _ => exact h.elim
def mdel (m : M) (a : Addr) : M := fun b => if b = a then none else m b
theorem mset_same {m : M} {a : Addr} {o : MO} : mset m a o a = some o := if_pos rfl
theorem mset_ne {m : M} {a b : Addr} {o : MO} (h : b ≠ a) : mset m a o b = m b := if_neg h
theorem mdel_same {m : M} {a : Addr} : mdel m a a = none := if_pos rfl
theorem mdel_ne {m : M} {a b : Addr} (h : b ≠ a) : mdel m a b = m b := if_neg h
theorem mset_mset {m : M} {a : Addr} {o u : MO} : mset (mset m a o) a u = mset m a u := by
  funext b; unfold mset; split <;> rfl
theorem mdel_mset {m : M} {a : Addr} {o : MO} (h : m a = none) : mdel (mset m a o) a = m := by
  funext b; unfold mdel mset
  by_cases e : b = a
  · rw [if_pos e, e, h]
  · rw [if_neg e, if_neg e]
theorem mset_comm {m : M} {a b : Addr} {o u : MO} (h : a ≠ b) : mset (mset m a o) b u = mset (mset m b u) a o := by
  funext c; unfold mset
  by_cases e : c = a
  · subst e; rw [if_neg h, if_pos rfl, if_pos rfl]
  · by_cases e2 : c = b
    · subst e2; rw [if_pos rfl, if_neg e, if_pos rfl]
    · rw [if_neg e2, if_neg e, if_neg e, if_neg e2]
theorem mdel_mset_ne {m : M} {a b : Addr} {o : MO} (h : a ≠ b) : mdel (mset m b o) a = mset (mdel m a) b o := by
  funext c
  by_cases e : c = a
  · subst e; rw [mdel_same, mset_ne h, mdel_same]
  · rw [mdel_ne e]
    by_cases e2 : c = b
    · subst e2; rw [mset_same, mset_same]
    · rw [mset_ne e2, mset_ne e2, mdel_ne e]

def okO (o : HO) : Prop := (∀ ps, o ≠ .tbl ps) ∧ ∀ φ, o ≠ .ext φ
section
open LamX
theorem Tabs.new {T : List (Addr × Str)} {H : Hp} {p : Addr} {o : HO} (t : Tabs T H) (h : H p = none) : Tabs T (upd H p o) := t.ext fun b u e => by rw [upd_ne (ne_of_none e h)]; exact e
theorem Tabs.updO {T : List (Addr × Str)} {H : Hp} {p : Addr} {o w : HO} (t : Tabs T H) (h : H p = some w) (ho : okO w) : Tabs T (upd H p o) := fun z hz => by
  obtain ⟨ps, h1, h2, h3⟩ := t z hz
  have ne : z.1 ≠ p := fun e => by
    rw [e, h] at h1
    exact ho.1 ps (Option.some.inj h1)
  refine ⟨ps, by rw [upd_ne ne]; exact h1, h2, fun pos cv hc => ?_⟩
  obtain ⟨c, e1, e2⟩ := h3 pos cv hc
  have nc : c ≠ p := fun e => by
    rw [e, h] at e2
    exact ho.2 _ (Option.some.inj e2)
  exact ⟨c, e1, by rw [upd_ne nc]; exact e2⟩
end
theorem RpM.okO {K : PySem.W.Frag} {G : Hp} {u : MO} {o : HO} (h : RpM K G u o) : okO o := by
  cases u <;> cases o <;> first | exact h.elim | exact ⟨fun _ e => (by cases e), fun _ e => (by cases e)⟩
theorem nt_upd {F : Hp} {p : Addr} {o : HO} (h : ∀ a u, F a = some u → notT u) (ho : notT o) : ∀ a u, upd F p o a = some u → notT u := fun a u e => by
  by_cases hb : a = p
  · subst hb; rw [upd_same] at e; cases e; exact ho
  · rw [upd_ne hb] at e; exact h a u e
theorem ok_upd {F : Hp} {p : Addr} {o : HO} (h : ∀ a u, F a = some u → ntb u) (ho : okO o) : ∀ a u, upd F p o a = some u → ntb u := fun a u e => by
  by_cases hb : a = p
  · subst hb; rw [upd_same] at e; cases e; exact ho.1
  · rw [upd_ne hb] at e; exact h a u e
section
variable {K : PySem.W.Frag} {G H F : Hp} {m : M} {p a : Addr} {o : HO} {u : MO}
theorem Rep.mfree (r : Rep K G H F m) (h : H p = none) : m p = none := by
  cases q : m p with
  | none => rfl
  | some o =>
    obtain ⟨_, _, u, e, _⟩ := r.mo p o q
    rw [h] at e
    cases e
theorem Rep.froz (r : Rep K G H F m) (h : H p = none) (ho : okO o := by exact ⟨fun _ e => (by cases e), fun _ e => (by cases e)⟩) : Same G (upd G p o) ∧ Rep K (upd G p o) (upd H p o) F m := by
  have g := r.free h
  refine ⟨same_new g, fun b v e => ?_, fun b v e => ?_, fun b v e => ?_, fun b v e => ?_, Tabs.new r.tb h, ok_upd r.gt ho, r.ft⟩
  · by_cases hb : b = p
    · subst hb; rw [upd_same] at e ⊢; exact e
    · rw [upd_ne hb] at e ⊢; exact r.ext b v e
  · rw [upd_ne (ne_of_none (r.frm b v e) h)]; exact r.frm b v e
  · rw [upd_ne (ne_of_none (r.frm b v e) h)]; exact r.dis b v e
  · obtain ⟨h1, h2, u, h3, h4⟩ := r.mo b v e
    have hb : b ≠ p := ne_of_none h3 h
    exact ⟨by rw [upd_ne hb]; exact h1, h2, u, by rw [upd_ne hb]; exact h3, h4.mono (same_new g)⟩
theorem Rep.junk (r : Rep K G H F m) (h : H p = none) : Rep K G (upd H p o) F m := by
  refine ⟨same_mut r.ext (r.free h), fun b v e => ?_, r.dis, fun b v e => ?_, Tabs.new r.tb h, r.gt, r.ft⟩
  · rw [upd_ne (ne_of_none (r.frm b v e) h)]; exact r.frm b v e
  · obtain ⟨h1, h2, u, h3, h4⟩ := r.mo b v e
    exact ⟨h1, h2, u, by rw [upd_ne (ne_of_none h3 h)]; exact h3, h4⟩
theorem Rep.newm (r : Rep K G H F m) (h : H p = none) (hu : RpM K G u o) : Rep K G (upd H p o) F (mset m p u) := by
  refine ⟨same_mut r.ext (r.free h), fun b v e => ?_, r.dis, fun b v e => ?_, Tabs.new r.tb h, r.gt, r.ft⟩
  · rw [upd_ne (ne_of_none (r.frm b v e) h)]; exact r.frm b v e
  · by_cases hb : b = p
    · subst hb
      rw [mset_same] at e
      cases e
      exact ⟨r.free h, r.frm.free h, o, upd_same, hu⟩
    · rw [mset_ne hb] at e
      obtain ⟨h1, h2, w, h3, h4⟩ := r.mo b v e
      exact ⟨h1, h2, w, by rw [upd_ne hb]; exact h3, h4⟩
theorem Rep.write {v : MO} (r : Rep K G H F m) (h : m a = some v) (hu : RpM K G u o) : Rep K G (upd H a o) F (mset m a u) := by
  obtain ⟨g1, f1, w, h3, h4⟩ := r.mo a v h
  refine ⟨same_mut r.ext g1, fun b z e => ?_, r.dis, fun b z e => ?_, Tabs.updO r.tb h3 h4.okO, r.gt, r.ft⟩
  · have hb : b ≠ a := fun q => by rw [q, f1] at e; cases e
    rw [upd_ne hb]; exact r.frm b z e
  · by_cases hb : b = a
    · subst hb
      rw [mset_same] at e
      cases e
      exact ⟨g1, f1, o, upd_same, hu⟩
    · rw [mset_ne hb] at e
      obtain ⟨h1, h2, w, h3, h4⟩ := r.mo b z e
      exact ⟨h1, h2, w, by rw [upd_ne hb]; exact h3, h4⟩
theorem Rep.freeze {ds : List D} (r : Rep K G H F m) (h : m a = some (.lst ds)) : ∃ G', Same G G' ∧ Rep K G' H F (mdel m a) ∧ Rp K G' (.lst ds) (.ref a) := by
  obtain ⟨g1, f1, w, h3, h4⟩ := r.mo a _ h
  obtain ⟨vs, rfl, h4⟩ := h4.ofLst
  have sm : Same G (upd G a (.lst vs)) := same_new g1
  refine ⟨upd G a (.lst vs), sm, ⟨fun b z e => ?_, r.frm, fun b z e => by rw [upd_ne (fun q => by rw [q, f1] at e; cases e)]; exact r.dis b z e, fun b z e => ?_, r.tb, ok_upd r.gt ⟨fun _ e => (by cases e), fun _ e => (by cases e)⟩, r.ft⟩, .lst upd_same (h4.mono sm)⟩
  · by_cases hb : b = a
    · subst hb; rw [upd_same] at e; rw [h3]; exact e
    · rw [upd_ne hb] at e; exact r.ext b z e
  · by_cases hb : b = a
    · subst hb; rw [mdel_same] at e; cases e
    · rw [mdel_ne hb] at e
      obtain ⟨h1, h2, w, h5, h6⟩ := r.mo b z e
      exact ⟨by rw [upd_ne hb]; exact h1, h2, w, h5, h6.mono sm⟩
theorem Rep.freezeI {C : Addr} {fs : List (Str × D)} (r : Rep K G H F m) (h : m a = some (.ins C fs)) : ∃ G', Same G G' ∧ Rep K G' H F (mdel m a) ∧ Rp K G' (.ins C fs) (.ref a) := by
  obtain ⟨g1, f1, w, h3, h4⟩ := r.mo a _ h
  obtain ⟨dx, fv, rfl, h5⟩ := h4.ofIns
  have sm : Same G (upd G a (.ins C dx fv)) := same_new g1
  refine ⟨upd G a (.ins C dx fv), sm, ⟨fun b z e => ?_, r.frm, fun b z e => by rw [upd_ne (fun q => by rw [q, f1] at e; cases e)]; exact r.dis b z e, fun b z e => ?_, r.tb, ok_upd r.gt ⟨fun _ e => (by cases e), fun _ e => (by cases e)⟩, r.ft⟩, .ins upd_same (h5.mono sm)⟩
  · by_cases hb : b = a
    · subst hb; rw [upd_same] at e; rw [h3]; exact e
    · rw [upd_ne hb] at e; exact r.ext b z e
  · by_cases hb : b = a
    · subst hb; rw [mdel_same] at e; cases e
    · rw [mdel_ne hb] at e
      obtain ⟨h1, h2, w, h5, h6⟩ := r.mo b z e
      exact ⟨by rw [upd_ne hb]; exact h1, h2, w, h5, h6.mono sm⟩
end

section
variable {K : PySem.W.Frag} {G H F : Hp} {m : M} {p : Addr} {o u : HO}
theorem Rep.hide (r : Rep K G H F m) (h : H p = none) (ho : notT o := by exact ⟨fun _ e => (by cases e), fun _ e => (by cases e), fun _ e => (by cases e)⟩) : Rep K G (upd H p o) (upd F p o) m := by
  refine ⟨same_mut r.ext (r.free h), fun b v e => ?_, fun b v e => ?_, fun b v e => ?_, Tabs.new r.tb h, r.gt, nt_upd r.ft ho⟩
  · by_cases hb : b = p
    · subst hb; rw [upd_same] at e ⊢; exact e
    · rw [upd_ne hb] at e ⊢; exact r.frm b v e
  · by_cases hb : b = p
    · subst hb; exact r.free h
    · rw [upd_ne hb] at e; exact r.dis b v e
  · obtain ⟨h1, h2, w, h3, h4⟩ := r.mo b v e
    have hb : b ≠ p := ne_of_none h3 h
    exact ⟨h1, by rw [upd_ne hb]; exact h2, w, by rw [upd_ne hb]; exact h3, h4⟩
theorem Rep.turn (r : Rep K G H (upd F p o) m) (ho : notT u := by exact ⟨fun _ e => (by cases e), fun _ e => (by cases e), fun _ e => (by cases e)⟩) (hw : okO o := by exact ⟨fun _ e => (by cases e), fun _ e => (by cases e)⟩) : Rep K G (upd H p u) (upd F p u) m := by
  have g : G p = none := r.dis p o upd_same
  refine ⟨same_mut r.ext g, fun b v e => ?_, fun b v e => ?_, fun b v e => ?_, Tabs.updO r.tb (r.frm p o upd_same) hw, r.gt, fun a w e => ?_⟩
  · by_cases hb : b = p
    · subst hb; rw [upd_same] at e ⊢; exact e
    · rw [upd_ne hb] at e ⊢; exact r.frm b v (by rw [upd_ne hb]; exact e)
  · by_cases hb : b = p
    · subst hb; exact g
    · rw [upd_ne hb] at e; exact r.dis b v (by rw [upd_ne hb]; exact e)
  · obtain ⟨h1, h2, w, h3, h4⟩ := r.mo b v e
    have hb : b ≠ p := fun q => by rw [q, upd_same] at h2; cases h2
    rw [upd_ne hb] at h2
    exact ⟨h1, by rw [upd_ne hb]; exact h2, w, by rw [upd_ne hb]; exact h3, h4⟩
  · by_cases hb : a = p
    · subst hb; rw [upd_same] at e; cases e; exact ho
    · rw [upd_ne hb] at e; exact r.ft a w (by rw [upd_ne hb]; exact e)
theorem Rep.outL {ds : List D} {vs : List V} (r : Rep K G H (upd F p (.lst vs)) m) (hF : F p = none) (rs : Rps K G ds vs) : Same G (upd G p (.lst vs)) ∧ Rep K (upd G p (.lst vs)) H F m ∧ Rp K (upd G p (.lst vs)) (.lst ds) (.ref p) := by
  have g : G p = none := r.dis p _ upd_same
  have sm : Same G (upd G p (.lst vs)) := same_new g
  refine ⟨sm, ⟨fun b v e => ?_, (r.show hF).frm, fun b v e => ?_, fun b v e => ?_, r.tb, ok_upd r.gt ⟨fun _ e => (by cases e), fun _ e => (by cases e)⟩, (r.show hF).ft⟩, .lst upd_same (rs.mono sm)⟩
  · by_cases hb : b = p
    · subst hb; rw [upd_same] at e; rw [← e]; exact r.frm _ _ upd_same
    · rw [upd_ne hb] at e; exact r.ext b v e
  · rw [upd_ne (fun q => by rw [q, hF] at e; cases e)]; exact (r.show hF).dis b v e
  · obtain ⟨h1, h2, w, h3, h4⟩ := r.mo b v e
    have hb : b ≠ p := fun q => by rw [q, upd_same] at h2; cases h2
    rw [upd_ne hb] at h2
    exact ⟨by rw [upd_ne hb]; exact h1, h2, w, h3, h4.mono sm⟩
theorem Rep.outM {ds : List D} {vs : List V} (r : Rep K G H (upd F p (.lst vs)) m) (hF : F p = none) (rs : Rps K G ds vs) : m p = none ∧ Rep K G H F (mset m p (.lst ds)) := by
  have g : G p = none := r.dis p _ upd_same
  have mp : m p = none := by
    cases q : m p with
    | none => rfl
    | some w =>
      obtain ⟨_, h2, _⟩ := r.mo p w q
      rw [upd_same] at h2
      cases h2
  refine ⟨mp, r.ext, (r.show hF).frm, (r.show hF).dis, fun b v e => ?_, r.tb, r.gt, (r.show hF).ft⟩
  by_cases hb : b = p
  · subst hb
    rw [mset_same] at e
    cases e
    exact ⟨g, hF, _, r.frm _ _ upd_same, rs⟩
  · rw [mset_ne hb] at e
    obtain ⟨h1, h2, w, h3, h4⟩ := r.mo b v e
    rw [upd_ne hb] at h2
    exact ⟨h1, h2, w, h3, h4⟩
end

section
variable {K : PySem.W.Frag} {G G' : Hp} {r : DSt} {s : L2.St}
theorem Rs.set (h : Rs K G r s) {i : Nat} {d : D} {v : V} (q : Rp K G d v) : Rs K G (r.set i (some d)) (s.set i (some v)) := ⟨by simp [h.len], fun j e hj => by
  by_cases hi : i = j
  · subst hi
    by_cases hl : i < r.length
    · rw [List.getElem?_set_self hl] at hj
      cases hj
      exact ⟨v, by rw [List.getElem?_set_self (by rw [← h.len]; exact hl)], q⟩
    · rw [List.getElem?_eq_none (by simp; omega)] at hj
      cases hj
  · rw [List.getElem?_set_ne hi] at hj ⊢
    exact h.at_ j e hj⟩
theorem Rs.setG (h : Rs K G r s) {i : Nat} {d : D} (hv : ∀ v, s[i]? = some (some v) → Rp K G d v) (hs : ∃ v : V, s[i]? = some (some v)) : Rs K G (r.set i (some d)) s := ⟨by simp [h.len], fun j e hj => by
  by_cases hi : i = j
  · subst hi
    by_cases hl : i < r.length
    · rw [List.getElem?_set_self hl] at hj
      cases hj
      obtain ⟨v, q⟩ := hs
      exact ⟨v, q, hv v q⟩
    · rw [List.getElem?_eq_none (by simp; omega)] at hj
      cases hj
  · rw [List.getElem?_set_ne hi] at hj
    exact h.at_ j e hj⟩
end
end DL

set_option Elab.async false
set_option linter.all false
set_option maxRecDepth 100000
set_option maxHeartbeats 4000000
namespace DL
open PySem PySem.Spec PyProof.Rows L2

abbrev DO := DSt → M → (Option Int → M → Prop) → Prop
theorem Lx.no {K : PySem.W.Frag} {W : WX} {G F : Hp} : Lx K W (fun _ _ _ => False) G F := fun _ _ _ _ _ _ _ _ _ _ _ _ h => h.elim
theorem Sx.step {K : PySem.W.Frag} {W : WX} {WD : DWX} {G G' H H' F : Hp} {r : DSt} {s : L2.St} {m m' : M} (x : Sx K W WD G H F r s m) (e : Same G G') (h : Rep K G' H' F m') : Sx K W WD G' H' F r s m' := ⟨h, x.rs.mono e, x.lx.mono e⟩
def up (K : PySem.W.Frag) (W : WX) (WD : DWX) (t : DTE) : TE := fun σ H Q => ∃ (G F : Hp) (r : DSt) (m : M) (QD : D → M → Prop), Sx K W WD G H F r σ m ∧ t r m QD ∧ Kv K G F QD Q
def upT (K : PySem.W.Frag) (W : WX) (WD : DWX) (t : DTT) : TT := fun σ H Q => ∃ (G F : Hp) (r : DSt) (m : M) (QD : Bool → M → Prop), Sx K W WD G H F r σ m ∧ t r m QD ∧ ∀ G' H' m' b, Same G G' → Rep K G' H' F m' → QD b m' → Q b H'
def upA (K : PySem.W.Frag) (W : WX) (WD : DWX) (t : DTA) : TA := fun σ H Q => ∃ (G F : Hp) (r : DSt) (m : M) (QD : List D → M → Prop), Sx K W WD G H F r σ m ∧ t r m QD ∧ ∀ G' H' m' ds vs, Same G G' → Rep K G' H' F m' → Rps K G' ds vs → QD ds m' → Q vs H'
def upO (K : PySem.W.Frag) (W : WX) (WD : DWX) (t : DO) : TO := fun σ H Q => ∃ (G F : Hp) (r : DSt) (m : M) (QD : Option Int → M → Prop), Sx K W WD G H F r σ m ∧ t r m QD ∧ ∀ G' H' m' o, Same G G' → Rep K G' H' F m' → QD o m' → Q o H'
abbrev DE (X : Cx) (W : WX) (WD : DWX) (e : Expr) (t : DTE) : Prop := PE X e (up X.K W WD t)
abbrev DT (X : Cx) (W : WX) (WD : DWX) (e : Expr) (t : DTT) : Prop := PT X e (upT X.K W WD t)
abbrev DW (X : Cx) (W : WX) (WD : DWX) (e : Expr) (t : DTT) : Prop := PW X e (upT X.K W WD t)
abbrev DA (X : Cx) (W : WX) (WD : DWX) (es : List Expr) (t : DTA) : Prop := PA X es (upA X.K W WD t)
abbrev DOp (X : Cx) (W : WX) (WD : DWX) (e : Option Expr) (t : DO) : Prop := PO X e (upO X.K W WD t)
section
variable {X : Cx} {e : Expr}
end

def slot : DSt → Nat → Option D
  | [], _ => none
  | x :: _, 0 => x
  | _ :: r, n + 1 => slot r n
theorem slot_get : ∀ {r : DSt} {i : Nat} {d : D}, slot r i = some d → r[i]? = some (some d)
  | [], _, _, e => nomatch e
  | x :: r, 0, d, e => by
    have e' : x = some d := e
    rw [e']; rfl
  | x :: r, i + 1, d, e => by
    have := slot_get (r := r) (i := i) (d := d) e
    simpa using this
def dVar (i : Nat) : DTE := fun r m Q => ∃ d, slot r i = some d ∧ Q d m
def dC (d : D) : DTE := fun _ m Q => Q d m
section
variable {X : Cx} {W : WX} {WD : DWX} {pos : Pos}
theorem up_var {K : PySem.W.Frag} {i : Nat} {σ : L2.St} {H : Hp} {Q : VK} (h : up K W WD (dVar i) σ H Q) : tVar i σ H Q := by
  obtain ⟨G, F, r, m, QD, x, ⟨d, e, t⟩, k⟩ := h
  obtain ⟨v, e1, rv⟩ := x.rs.at_ i d (slot_get e)
  exact ⟨v, e1, k G H m d v (Same.refl G) x.rep rv t⟩
theorem up_c {K : PySem.W.Frag} {d : D} {v : V} {σ : L2.St} {H : Hp} {Q : VK} (hv : ∀ G, Rp K G d v) (h : up K W WD (dC d) σ H Q) : tC v σ H Q := by
  obtain ⟨G, F, r, m, QD, x, t, k⟩ := h
  exact k G H m d v (Same.refl G) x.rep (hv G) t
theorem dv (i : Nat) {x : Str} (hN : X.N[i]? = some x := by rfl) (hv : Vis X.env.scope x := by first | exact Or.inl rfl | exact Or.inr (Or.inl rfl) | exact Or.inr (Or.inr rfl)) (hd : (x == ("__debug__" : Str)) = false := by decide)
    (hcd : (x == ("__classdict__" : Str)) = false := by decide) : DE X W WD (.Name x pos) (dVar i) := PE.imp (pv i hN hv hd hcd) fun _ _ _ h => up_var h
theorem de_int {i j} : DE X W WD (.Constant (.int i) j pos) (dC (.int i)) := PE.imp pe_int fun _ _ _ h => up_c (fun _ => .int i) h
theorem de_bl {b j} : DE X W WD (.Constant (.bool b) j pos) (dC (.bl b)) := PE.imp pe_bl fun _ _ _ h => up_c (fun _ => .bl b) h
theorem de_non {j} : DE X W WD (.Constant .none j pos) (dC .non) := PE.imp pe_non fun _ _ _ h => up_c (fun _ => .non) h
theorem de_str {x j} : DE X W WD (.Constant (.str x) j pos) (dC (.str x)) := PE.imp pe_str fun _ _ _ h => up_c (fun _ => .str x) h
theorem de_globI {x : Str} {i : Int} (hg : Gl X x) (hm : ∃ t, X.mg x = some (.int i t)) (hd : (x == ("__debug__" : Str)) = false := by decide) : DE X W WD (.Name x pos) (dC (.int i)) := by
  obtain ⟨t, hm⟩ := hm
  exact PE.imp (pe_glob (v := .int i) hg hm ⟨t, rfl⟩ hd) fun _ _ _ h => up_c (fun _ => .int i) h
theorem de_globS {x z : Str} (hg : Gl X x) (hm : ∃ t, X.mg x = some (.str z t)) (hd : (x == ("__debug__" : Str)) = false := by decide) : DE X W WD (.Name x pos) (dC (.str z)) := by
  obtain ⟨t, hm⟩ := hm
  exact PE.imp (pe_glob (v := .str z) hg hm ⟨t, rfl⟩ hd) fun _ _ _ h => up_c (fun _ => .str z) h
theorem de_globR {x : Str} {a : Addr} (hg : Gl X x) (hm : X.mg x = some (.ref a)) (hd : (x == ("__debug__" : Str)) = false := by decide) : DE X W WD (.Name x pos) (dC (.ref a)) :=
  PE.imp (pe_glob (v := .ref a) hg hm rfl hd) fun _ _ _ h => up_c (fun _ => .ref a) h
theorem de_ty {x : Str} {T : String} (hg : Gl X x) (hm : X.mg x = none) (hv : bootBuiltins x = some (.type T)) (hn : x ≠ "__name__" := by decide) (hd : (x == ("__debug__" : Str)) = false := by decide) : DE X W WD (.Name x pos) (dC (.ty T)) :=
  PE.imp (pe_bltn (v := .ty T) hg hm hv rfl hn hd) fun _ _ _ h => up_c (fun _ => .ty T) h
end

abbrev DR2 := D → D → M → (D → M → Prop) → Prop
def OpD (K : PySem.W.Frag) (r : R2) (rd : DR2) : Prop :=
  ∀ (G H F : Hp) (m : M) (x y : D) (vx vy : V) (QD : D → M → Prop) (Q : VK), Rep K G H F m → Rp K G x vx → Rp K G y vy → rd x y m QD → Kv K G F QD Q → r vx vy H Q
def dOp (rd : DR2) (ta tb : DTE) : DTE := fun r m Q => ta r m fun x m1 => tb r m1 fun y m2 => rd x y m2 Q
theorem up_op {K : PySem.W.Frag} {W : WX} {WD : DWX} {r : R2} {rd : DR2} {ta tb : DTE} {σ : L2.St} {H : Hp} {Q : VK} (hd : OpD K r rd) (h : up K W WD (dOp rd ta tb) σ H Q) : tOp r (up K W WD ta) (up K W WD tb) σ H Q := by
  obtain ⟨G, F, ρ, m, QD, x, t, k⟩ := h
  refine ⟨G, F, ρ, m, _, x, t, fun G1 H1 m1 d1 v1 e1 r1 p1 t1 => ?_⟩
  refine ⟨G1, F, ρ, m1, _, x.step e1 r1, t1, fun G2 H2 m2 d2 v2 e2 r2 p2 t2 => ?_⟩
  exact hd G2 H2 F m2 d1 d2 v1 v2 QD Q r2 (p1.mono e2) p2 t2 (k.mono (e1.trans e2))
abbrev DR1 := D → M → (D → M → Prop) → Prop
def UnD (K : PySem.W.Frag) (r : V → Hp → VK → Prop) (rd : DR1) : Prop :=
  ∀ (G H F : Hp) (m : M) (x : D) (vx : V) (QD : D → M → Prop) (Q : VK), Rep K G H F m → Rp K G x vx → rd x m QD → Kv K G F QD Q → r vx H Q
def dUn (rd : DR1) (ta : DTE) : DTE := fun r m Q => ta r m fun x m1 => rd x m1 Q
theorem up_un {K : PySem.W.Frag} {W : WX} {WD : DWX} {r : V → Hp → VK → Prop} {rd : DR1} {ta : DTE} {σ : L2.St} {H : Hp} {Q : VK} (hd : UnD K r rd) (h : up K W WD (dUn rd ta) σ H Q) : tUn r (up K W WD ta) σ H Q := by
  obtain ⟨G, F, ρ, m, QD, x, t, k⟩ := h
  exact ⟨G, F, ρ, m, _, x, t, fun G1 H1 m1 d1 v1 e1 r1 p1 t1 => hd G1 H1 F m1 d1 v1 QD Q r1 p1 t1 (k.mono e1)⟩
theorem Kv.here {K : PySem.W.Frag} {G H F : Hp} {m : M} {QD : D → M → Prop} {Q : VK} {d : D} {v : V} (k : Kv K G F QD Q) (r : Rep K G H F m) (p : Rp K G d v) (q : QD d m) : Q v H := k G H m d v (Same.refl G) r p q
def mkL (mt : Bool) (ds : List D) (m : M) (Q : D → M → Prop) : Prop := match mt with
  | true => ∀ p, m p = none → Q (.ref p) (mset m p (.lst ds))
  | false => Q (.lst ds) m
theorem mkL_ok {K : PySem.W.Frag} {G H F : Hp} {m : M} {QD : D → M → Prop} {Q : VK} {mt : Bool} {ds : List D} {vs : List V} {p : Addr} (k : Kv K G F QD Q) (r : Rep K G H F m) (rs : Rps K G ds vs) (h : H p = none) (q : mkL mt ds m QD) : Q (.ref p) (upd H p (.lst vs)) := by
  cases mt with
  | false =>
    obtain ⟨e, r1⟩ := r.froz (o := .lst vs) h
    exact k _ _ m (.lst ds) _ e r1 (.lst upd_same (rs.mono e)) q
  | true => exact k _ _ _ (.ref p) _ (Same.refl G) (r.newm (u := .lst ds) (o := .lst vs) h rs) (.ref p) (q p (r.mfree h))
theorem mkT_ok {K : PySem.W.Frag} {G H F : Hp} {m : M} {QD : D → M → Prop} {Q : VK} {ds : List D} {vs : List V} {p : Addr} (k : Kv K G F QD Q) (r : Rep K G H F m) (rs : Rps K G ds vs) (h : H p = none) (q : QD (.tup ds) m) : Q (.ref p) (upd H p (.tup vs)) := by
  obtain ⟨e, r1⟩ := r.froz (o := .tup vs) h
  exact k _ _ m (.tup ds) _ e r1 (.tup (TpK.of upd_same) (rs.mono e)) q

def MulOk (i j : Int) : Prop := CMul i j ∨ CMulW i j
def dAdd (mt : Bool) : DR2
  | .int i, .int j, m, Q => Q (.int (i + j)) m
  | .str a, .str b, m, Q => a.length + b.length ≤ sizeLine ∧ Q (.str (a ++ b)) m
  | .lst a, .lst b, m, Q => a.length + b.length ≤ sizeLine ∧ mkL mt (a ++ b) m Q
  | .ref a, .lst b, m, Q => ∃ xs, m a = some (.lst xs) ∧ xs.length + b.length ≤ sizeLine ∧ mkL mt (xs ++ b) m Q
  | _, _, _, _ => False
def dSub : DR2
  | .int i, .int j, m, Q => Q (.int (i - j)) m
  | _, _, _, _ => False
def dMul (mt : Bool) : DR2
  | .int i, .int j, m, Q => MulOk i j ∧ Q (.int (i * j)) m
  | .lst a, .int k, m, Q => (-(2 ^ 63) ≤ k ∧ k < 2 ^ 63) ∧ a.length * k.toNat ≤ sizeLine ∧ mkL mt (List.replicate k.toNat a).flatten m Q
  | _, _, _, _ => False
def dDiv : DR2
  | .int i, .int j, m, Q => CDivW i j ∧ Q (.int (i / j)) m
  | _, _, _, _ => False
def dMod : DR2
  | .int i, .int j, m, Q => 0 < j ∧ Q (.int (i % j)) m
  | _, _, _, _ => False
def dPow : DR2
  | .int i, .int j, m, Q => CPow i j ∧ Q (.int (i ^ j.toNat)) m
  | _, _, _, _ => False
def dNeg : DR1
  | .int i, m, Q => Q (.int (-i)) m
  | _, _, _ => False
section
variable {K : PySem.W.Frag} {X : Cx} {W : WX} {WD : DWX} {a b : Expr} {ta tb : DTE} {pos : Pos}
def rAddA (K : PySem.W.Frag) : R2 := fun x y H Q => rI0 (fun i j => .int (i + j)) x y H Q ∨ (∃ i j, x = .str i ∧ y = .str j ∧ i.length + j.length ≤ sizeLine ∧ Q (.str (i ++ j)) H) ∨ rCat x y H Q
theorem op_addA : OpR X (binaryOp .Add) (rAddA X.K) := op_add.or (op_add_str.or op_cat)
theorem od_add (mt : Bool) : OpD K (rAddA K) (dAdd mt) := by
  intro G H F m x y vx vy QD Q r px py t k
  cases x with
  | int i => cases y with
    | int j => cases px; cases py; exact .inl ⟨i, j, rfl, rfl, k.here r (.int _) t⟩
    | _ => exact t.elim
  | str i => cases y with
    | str j => cases px; cases py; exact .inr (.inl ⟨i, j, rfl, rfl, t.1, k.here r (.str _) t.2⟩)
    | _ => exact t.elim
  | lst xs => cases y with
    | lst ys =>
      cases px with | lst h1 r1 => cases py with | lst h2 r2 =>
      refine .inr (.inr ⟨_, _, _, _, rfl, rfl, r.ext _ _ h1, r.ext _ _ h2, by rw [← r1.length, ← r2.length]; exact t.1, fun p hp => ?_⟩)
      exact mkL_ok k r (r1.append r2) hp t.2
    | _ => exact t.elim
  | ref a => cases y with
    | lst ys =>
      cases px; cases py with | lst h2 r2 =>
      obtain ⟨xs, hm, hz, t⟩ := t
      obtain ⟨_, _, u, h1, h4⟩ := r.mo a _ hm
      obtain ⟨vs, rfl, r1⟩ := h4.ofLst
      refine .inr (.inr ⟨_, _, _, _, rfl, rfl, h1, r.ext _ _ h2, by rw [← r1.length, ← r2.length]; exact hz, fun p hp => ?_⟩)
      exact mkL_ok k r (r1.append r2) hp t
    | _ => exact t.elim
  | _ => exact t.elim
theorem od_I {C : Int → Int → Prop} {g : Int → Int → Int} {rd : DR2} (h1 : ∀ i j m Q, rd (.int i) (.int j) m Q → C i j ∧ Q (.int (g i j)) m) (h2 : ∀ x y m Q, rd x y m Q → ∃ i j, x = .int i ∧ y = .int j) : OpD K (rI C fun i j => .int (g i j)) rd := by
  intro G H F m x y vx vy QD Q r px py t k
  obtain ⟨i, j, rfl, rfl⟩ := h2 _ _ _ _ t
  cases px; cases py
  exact ⟨i, j, rfl, rfl, (h1 _ _ _ _ t).1, k.here r (.int _) (h1 _ _ _ _ t).2⟩
theorem od_I0 {g : Int → Int → Int} {rd : DR2} (h1 : ∀ i j m Q, rd (.int i) (.int j) m Q → Q (.int (g i j)) m) (h2 : ∀ x y m Q, rd x y m Q → ∃ i j, x = .int i ∧ y = .int j) : OpD K (rI0 fun i j => .int (g i j)) rd := by
  intro G H F m x y vx vy QD Q r px py t k
  obtain ⟨i, j, rfl, rfl⟩ := h2 _ _ _ _ t
  cases px; cases py
  exact ⟨i, j, rfl, rfl, k.here r (.int _) (h1 _ _ _ _ t)⟩
theorem od_sub : OpD K (rI0 fun i j => .int (i - j)) dSub := od_I0 (fun _ _ _ _ h => h) fun x y _ _ h => by
  cases x <;> cases y <;> first | exact ⟨_, _, rfl, rfl⟩ | exact h.elim
theorem od_div : OpD K (rI CDivW fun i j => .int (i / j)) dDiv := od_I (fun _ _ _ _ h => h) fun x y _ _ h => by
  cases x <;> cases y <;> first | exact ⟨_, _, rfl, rfl⟩ | exact h.elim
theorem od_mod : OpD K (rI (fun _ j => 0 < j) fun i j => .int (i % j)) dMod := od_I (fun _ _ _ _ h => h) fun x y _ _ h => by
  cases x <;> cases y <;> first | exact ⟨_, _, rfl, rfl⟩ | exact h.elim
theorem od_pow : OpD K (rI CPow fun i j => .int (i ^ j.toNat)) dPow := od_I (fun _ _ _ _ h => h) fun x y _ _ h => by
  cases x <;> cases y <;> first | exact ⟨_, _, rfl, rfl⟩ | exact h.elim
def rMulA : R2 := fun x y H Q => rI CMul (fun i j => .int (i * j)) x y H Q ∨ rI CMulW (fun i j => .int (i * j)) x y H Q ∨ rRep x y H Q
theorem op_mulA : OpR X (binaryOp .Mult) rMulA := op_mul.or (op_mulW.or op_rep)
theorem flat_rep {G : Hp} {ds : List D} {vs : List V} (h : Rps K G ds vs) : ∀ n : Nat, Rps K G (List.replicate n ds).flatten (List.replicate n vs).flatten
  | 0 => .nil
  | n + 1 => by
    rw [List.replicate_succ, List.replicate_succ, List.flatten_cons, List.flatten_cons]
    exact h.append (flat_rep h n)
theorem od_mul (mt : Bool) : OpD K rMulA (dMul mt) := by
  intro G H F m x y vx vy QD Q r px py t k
  cases x with
  | int i => cases y with
    | int j =>
      cases px; cases py
      rcases t.1 with c | c
      · exact .inl ⟨i, j, rfl, rfl, c, k.here r (.int _) t.2⟩
      · exact .inr (.inl ⟨i, j, rfl, rfl, c, k.here r (.int _) t.2⟩)
    | _ => exact t.elim
  | lst xs => cases y with
    | int j =>
      cases py
      cases px with | lst h1 r1 =>
      obtain ⟨⟨t1, t2⟩, t3, t4⟩ := t
      refine .inr (.inr ⟨_, j, _, rfl, rfl, r.ext _ _ h1, t1, t2, by rw [← r1.length]; exact t3, fun p hp => ?_⟩)
      exact mkL_ok k r (flat_rep r1 _) hp t4
    | _ => exact t.elim
  | _ => exact t.elim
theorem ud_neg : UnD K (rU fun i => .int (-i)) dNeg := by
  intro G H F m x vx QD Q r px t k
  cases x with
  | int i => cases px; exact ⟨i, rfl, k.here r (.int _) t⟩
  | _ => exact t.elim
theorem de_add (mt : Bool) (ha : DE X W WD a ta) (hb : DE X W WD b tb) : DE X W WD (.BinOp a .Add b pos) (dOp (dAdd mt) ta tb) := PE.imp (pe_op op_addA ha hb) fun _ _ _ h => up_op (od_add mt) h
theorem de_sub (ha : DE X W WD a ta) (hb : DE X W WD b tb) : DE X W WD (.BinOp a .Sub b pos) (dOp dSub ta tb) := PE.imp (pe_op op_sub ha hb) fun _ _ _ h => up_op od_sub h
theorem de_mul (mt : Bool) (ha : DE X W WD a ta) (hb : DE X W WD b tb) : DE X W WD (.BinOp a .Mult b pos) (dOp (dMul mt) ta tb) := PE.imp (pe_op op_mulA ha hb) fun _ _ _ h => up_op (od_mul mt) h
theorem de_div (ha : DE X W WD a ta) (hb : DE X W WD b tb) : DE X W WD (.BinOp a .FloorDiv b pos) (dOp dDiv ta tb) := PE.imp (pe_op op_fdivW ha hb) fun _ _ _ h => up_op od_div h
theorem de_mod (ha : DE X W WD a ta) (hb : DE X W WD b tb) : DE X W WD (.BinOp a .Mod b pos) (dOp dMod ta tb) := PE.imp (pe_op op_mod ha hb) fun _ _ _ h => up_op od_mod h
theorem de_pow (ha : DE X W WD a ta) (hb : DE X W WD b tb) : DE X W WD (.BinOp a .Pow b pos) (dOp dPow ta tb) := PE.imp (pe_op op_pow ha hb) fun _ _ _ h => up_op od_pow h
theorem de_neg (ha : DE X W WD a ta) : DE X W WD (.UnaryOp .USub a pos) (dUn dNeg ta) := PE.imp (pe_un un_neg ha) fun _ _ _ h => up_un ud_neg h
end

mutual
def toP : D → Option PyData
  | .non => some .none
  | .bl b => some (.bool b)
  | .int i => some (.int i)
  | .str x => some (.str x)
  | .lst xs => (toPs xs).map .list
  | .rdl xs => (toPs xs).map .list
  | .tup xs => (toPs xs).map .tuple
  | .ty _ => none
  | .ref _ => none
  | .ins _ _ => none
  | .exn _ _ _ => none
  | .dki _ => none
  | .dti _ => none
  | .clo _ _ _ _ _ => none
  | .obj _ _ => none
def toPs : List D → Option (List PyData)
  | [] => some []
  | x :: xs => (toP x).bind fun d => (toPs xs).map fun ds => d :: ds
end
mutual
theorem dp_of {K : PySem.W.Frag} {G : Hp} : ∀ (d : D) (p : PyData) (v : V), toP d = some p → Rp K G d v → Dp K G v p
  | .non, p, v, e, r => by cases e; cases r; exact .non
  | .bl b, p, v, e, r => by cases e; cases r; exact .bl b
  | .int i, p, v, e, r => by cases e; cases r; exact .int i
  | .str x, p, v, e, r => by cases e; cases r; exact .str x
  | .lst xs, p, v, e, r => by
    unfold toP at e
    cases q : toPs xs with
    | none => rw [q] at e; cases e
    | some ps =>
      rw [q] at e; cases e
      cases r with | lst h1 r1 => exact .lst (SqL.of h1) (dps_of xs ps _ q r1)
  | .rdl xs, p, v, e, r => by
    unfold toP at e
    cases q : toPs xs with
    | none => rw [q] at e; cases e
    | some ps =>
      rw [q] at e; cases e
      cases r with | rdl h1 r1 => exact .lst h1 (dps_of xs ps _ q r1)
  | .tup xs, p, v, e, r => by
    unfold toP at e
    cases q : toPs xs with
    | none => rw [q] at e; cases e
    | some ps =>
      rw [q] at e; cases e
      cases r with | tup h1 r1 => exact .tup h1 (dps_of xs ps _ q r1)
  | .ty _, p, v, e, r => by unfold toP at e; cases e
  | .ref _, p, v, e, r => by unfold toP at e; cases e
  | .ins _ _, p, v, e, r => by unfold toP at e; cases e
  | .exn _ _ _, p, v, e, r => by unfold toP at e; cases e
  | .dki _, p, v, e, r => by unfold toP at e; cases e
  | .dti _, p, v, e, r => by unfold toP at e; cases e
  | .clo _ _ _ _ _, p, v, e, r => by unfold toP at e; cases e
  | .obj _ _, p, v, e, r => by unfold toP at e; cases e
theorem dps_of {K : PySem.W.Frag} {G : Hp} : ∀ (ds : List D) (ps : List PyData) (vs : List V), toPs ds = some ps → Rps K G ds vs → DpAll K G vs ps
  | [], ps, vs, e, r => by unfold toPs at e; cases e; cases r; exact .nil
  | x :: xs, ps, vs, e, r => by
    unfold toPs at e
    cases q : toP x with
    | none => rw [q] at e; cases e
    | some d =>
      rw [q] at e
      cases q2 : toPs xs with
      | none => rw [q2] at e; cases e
      | some ds =>
        rw [q2] at e; cases e
        cases r with | cons r1 r2 => exact .cons (dp_of x d _ q r1) (dps_of xs ds _ q2 r2)
end
mutual
theorem Dp.same {K : PySem.W.Frag} {G H : Hp} (e : Same G H) : ∀ {v : V} {p : PyData}, Dp K G v p → Dp K H v p
  | _, _, .non => .non
  | _, _, .bl b => .bl b
  | _, _, .int i => .int i
  | _, _, .str x => .str x
  | _, _, .lst h r => .lst (e.seq h) (DpAll.same e r)
  | _, _, .tup h r => .tup (same_sqt e h) (DpAll.same e r)
theorem DpAll.same {K : PySem.W.Frag} {G H : Hp} (e : Same G H) : ∀ {v : List V} {p : List PyData}, DpAll K G v p → DpAll K H v p
  | _, _, .nil => .nil
  | _, _, .cons a b => .cons (Dp.same e a) (DpAll.same e b)
end
def datOf (m : M) : D → Option PyData
  | .ref a => (m a).bind fun o => match o with
    | .lst xs => (toPs xs).map .list
    | _ => none
  | d => toP d
theorem dat_ok {K : PySem.W.Frag} {G H F : Hp} {m : M} {d : D} {v : V} {p : PyData} (r : Rep K G H F m) (h : Rp K G d v) (e : datOf m d = some p) : Dp K H v p := by
  cases d with
  | ref a =>
    cases h
    dsimp only [datOf] at e
    cases q : m a with
    | none => rw [q] at e; cases e
    | some o =>
      rw [q] at e
      cases o with
      | lst xs =>
        obtain ⟨_, _, u, h3, h4⟩ := r.mo a _ q
        obtain ⟨vs, rfl, h4⟩ := h4.ofLst
        have e2 : (toPs xs).map PyData.list = some p := e
        cases q2 : toPs xs with
        | none => rw [q2] at e2; cases e2
        | some ps =>
          rw [q2] at e2; cases e2
          exact .lst (SqL.of h3) (DpAll.same r.ext (dps_of xs ps vs q2 h4))
      | _ => cases e
  | _ => exact Dp.same r.ext (dp_of _ p v e h)
def dEqB : D → D → Option Bool
  | .int i, .int j => some (decide (i = j))
  | .str i, .str j => some (decide (i = j))
  | .bl i, .bl j => some (decide (i = j))
  | .non, .non => some true
  | .non, .int _ => some false
  | .int _, .non => some false
  | .non, .str _ => some false
  | .str _, .non => some false
  | .non, .bl _ => some false
  | .bl _, .non => some false
  | .int _, .str _ => some false
  | .str _, .int _ => some false
  | _, _ => none
def dEq : DR2 := fun x y m Q => match dEqB x y with
  | some b => Q (.bl b) m
  | none => ∃ p q, datOf m x = some p ∧ datOf m y = some q ∧ SeqAt.shaped p = true ∧ SeqAt.shaped q = true ∧ Q (.bl (PyData.eqv p q)) m
def dNe : DR2 := fun x y m Q => match dEqB x y with
  | some b => Q (.bl (!b)) m
  | none => ∃ p q, datOf m x = some p ∧ datOf m y = some q ∧ SeqAt.shaped p = true ∧ SeqAt.shaped q = true ∧ Q (.bl (!PyData.eqv p q)) m
section
variable {K : PySem.W.Frag} {X : Cx} {W : WX} {WD : DWX} {a b c : Expr} {ta tb tc : DTE} {pos : Pos}
theorem dEqB_scal {G : Hp} {x y : D} {vx vy : V} {b : Bool} (h : dEqB x y = some b) (px : Rp K G x vx) (py : Rp K G y vy) : scal vx vy = true ∧ decide (vx = vy) = b := by
  cases x <;> cases y <;> first
    | (cases px; cases py; cases h; constructor
       · rfl
       · first | rfl | (simp))
    | cases h
def rEqA (K : PySem.W.Frag) : R2 := fun x y H Q => rEq x y H Q ∨ rEqD K x y H Q
def rNeA (K : PySem.W.Frag) : R2 := fun x y H Q => rNe x y H Q ∨ rNeD K x y H Q
theorem od_eq : OpD K (rEqA K) dEq := by
  intro G H F m x y vx vy QD Q r px py t k
  unfold dEq at t
  cases e : dEqB x y with
  | some b =>
    rw [e] at t
    obtain ⟨h1, h2⟩ := dEqB_scal e px py
    exact .inl ⟨h1, by rw [h2]; exact k.here r (.bl _) t⟩
  | none =>
    rw [e] at t
    obtain ⟨p, q, e1, e2, s1, s2, t⟩ := t
    exact .inr ⟨p, q, dat_ok r px e1, dat_ok r py e2, s1, s2, k.here r (.bl _) t⟩
theorem od_ne : OpD K (rNeA K) dNe := by
  intro G H F m x y vx vy QD Q r px py t k
  unfold dNe at t
  cases e : dEqB x y with
  | some b =>
    rw [e] at t
    obtain ⟨h1, h2⟩ := dEqB_scal e px py
    exact .inl ⟨h1, by rw [h2]; exact k.here r (.bl _) t⟩
  | none =>
    rw [e] at t
    obtain ⟨p, q, e1, e2, s1, s2, t⟩ := t
    exact .inr ⟨p, q, dat_ok r px e1, dat_ok r py e2, s1, s2, k.here r (.bl _) t⟩
theorem op_eqA (hu : X.A.units + 64 < cLine) : OpR X (compareOp .Eq) (rEqA X.K) := op_eq.or (op_eqD hu)
theorem op_neA (hu : X.A.units + 64 < cLine) : OpR X (compareOp .NotEq) (rNeA X.K) := op_ne.or (op_neD hu)
def dCmpI (f : Int → Int → Bool) : DR2
  | .int i, .int j, m, Q => Q (.bl (f i j)) m
  | _, _, _, _ => False
theorem od_cmpI {f : Int → Int → Bool} : OpD K (rI0 fun i j => .bl (f i j)) (dCmpI f) := by
  intro G H F m x y vx vy QD Q r px py t k
  cases x with
  | int i => cases y with
    | int j => cases px; cases py; exact ⟨i, j, rfl, rfl, k.here r (.bl _) t⟩
    | _ => exact t.elim
  | _ => exact t.elim
abbrev dLt : DR2 := dCmpI fun i j => decide (i < j)
abbrev dLe : DR2 := dCmpI fun i j => decide (i ≤ j)
abbrev dGt : DR2 := dCmpI fun i j => decide (j < i)
abbrev dGe : DR2 := dCmpI fun i j => decide (j ≤ i)
def dIsN : DR2 := fun x y m Q => y = .non ∧ (match x with
  | .non => Q (.bl true) m
  | _ => Q (.bl false) m)
def dNotN : DR2 := fun x y m Q => y = .non ∧ (match x with
  | .non => Q (.bl false) m
  | _ => Q (.bl true) m)
theorem od_isN : OpD K (fun x y H Q => y = .non ∧ Q (.bl (decide (x = .non))) H) dIsN := by
  intro G H F m x y vx vy QD Q r px py t k
  obtain ⟨rfl, t⟩ := t
  cases py
  refine ⟨rfl, ?_⟩
  cases px <;> exact k.here r (.bl _) t
theorem de_cmp {op : CmpOp} {r : R2} {rd : DR2} (ho : OpR X (compareOp op) r) (hd : OpD X.K r rd) (ha : DE X W WD a ta) (hb : DE X W WD b tb) (hm : behindInMarks op b = false) : DE X W WD (.Compare a [op] [b] pos) (dOp rd ta tb) :=
  PE.imp (pe_cmpR ho ha hb hm) fun _ _ _ h => up_op hd h
def dTest (t : DTE) : DTT := fun r m Q => t r m fun d m1 => ∃ b, d = .bl b ∧ Q b m1
theorem upT_test {K : PySem.W.Frag} {t : DTE} {σ : L2.St} {H : Hp} {Q : Bool → Hp → Prop} (h : upT K W WD (dTest t) σ H Q) : tTest (up K W WD t) σ H Q := by
  obtain ⟨G, F, ρ, m, QD, x, t, k⟩ := h
  refine ⟨G, F, ρ, m, _, x, t, fun G1 H1 m1 d1 v1 e1 r1 p1 t1 => ?_⟩
  obtain ⟨b, rfl, t2⟩ := t1
  cases p1
  exact ⟨b, rfl, k G1 H1 m1 b e1 r1 t2⟩
theorem tTest_imp {t t' : TE} {σ : L2.St} {H : Hp} {Q : Bool → Hp → Prop} (h : tTest t' σ H Q) (i : ∀ Q, t' σ H Q → t σ H Q) : tTest t σ H Q := i _ h
theorem dt_cmp {op : CmpOp} {r : R2} {rd : DR2} (ho : OpR X (compareOp op) r) (hd : OpD X.K r rd) (ha : DE X W WD a ta) (hb : DE X W WD b tb) (hm : behindInMarks op b = false) : DT X W WD (.Compare a [op] [b] pos) (dTest (dOp rd ta tb)) :=
  PT.imp (pt_cmpR ho ha hb hm) fun _ _ _ h => tTest_imp (upT_test h) fun _ q => up_op hd q
def dChain (rd rd' : DR2) (ta tb tc : DTE) : DTE := fun r m Q => ta r m fun x m1 => tb r m1 fun y m2 => rd x y m2 fun z m3 => ∃ k, z = .bl k ∧ (if k = true then tc r m3 fun w m4 => rd' y w m4 Q else Q (.bl false) m3)
theorem up_chain {K : PySem.W.Frag} {r r' : R2} {rd rd' : DR2} {ta tb tc : DTE} {σ : L2.St} {H : Hp} {Q : VK} (hd : OpD K r rd) (hd' : OpD K r' rd') (h : up K W WD (dChain rd rd' ta tb tc) σ H Q) : tChain r r' (up K W WD ta) (up K W WD tb) (up K W WD tc) σ H Q := by
  obtain ⟨G, F, ρ, m, QD, x, t, k⟩ := h
  refine ⟨G, F, ρ, m, _, x, t, fun G1 H1 m1 d1 v1 e1 r1 p1 t1 => ?_⟩
  refine ⟨G1, F, ρ, m1, _, x.step e1 r1, t1, fun G2 H2 m2 d2 v2 e2 r2 p2 t2 => ?_⟩
  refine hd G2 H2 F m2 d1 d2 v1 v2 _ _ r2 (p1.mono e2) p2 t2 fun G3 H3 m3 d3 v3 e3 r3 p3 t3 => ?_
  obtain ⟨b, rfl, t4⟩ := t3
  cases p3
  refine ⟨b, rfl, ?_⟩
  cases b with
  | false => exact k G3 H3 m3 _ _ ((e1.trans e2).trans e3) r3 (.bl _) t4
  | true =>
    refine ⟨G3, F, ρ, m3, _, x.step ((e1.trans e2).trans e3) r3, t4, fun G4 H4 m4 d4 v4 e4 r4 p4 t5 => ?_⟩
    exact hd' G4 H4 F m4 d2 d4 v2 v4 QD Q r4 (p2.mono (e3.trans e4)) p4 t5 (k.mono (((e1.trans e2).trans e3).trans e4))
theorem dt_chain {op op' : CmpOp} {r r' : R2} {rd rd' : DR2} (ho : OpR X (compareOp op) r) (hd : OpD X.K r rd) (ho' : OpR X (compareOp op') r') (hd' : OpD X.K r' rd') (ha : DE X W WD a ta) (hb : DE X W WD b tb) (hc : DE X W WD c tc)
    (hm : lastMarks [op, op'] [b, c] = false := by with_unfolding_all rfl) : DT X W WD (.Compare a [op, op'] [b, c] pos) (dTest (dChain rd rd' ta tb tc)) := PT.imp (pt_chain ho ho' ha hb hc hm) fun _ _ _ h => tTest_imp (upT_test h) fun _ q => up_chain hd hd' q
end
def dTruB (m : M) : D → Option Bool
  | .non => some false
  | .bl b => some b
  | .int i => some (i != 0)
  | .str z => if z.length ≤ sizeLine then some ((z.length : Int) != 0) else none
  | .lst xs => some (!xs.isEmpty)
  | .rdl xs => some (!xs.isEmpty)
  | .tup xs => some (!xs.isEmpty)
  | .ref a => (m a).bind fun o => match o with
    | .lst xs => some (!xs.isEmpty)
    | _ => none
  | _ => none
def dTru (t : DTE) : DTT := fun r m Q => t r m fun d m1 => ∃ b, dTruB m1 d = some b ∧ Q b m1
theorem isEmpty_rps {K : PySem.W.Frag} {G : Hp} {ds : List D} {vs : List V} (h : Rps K G ds vs) : ds.isEmpty = vs.isEmpty := by cases h <;> rfl
theorem tru_of {K : PySem.W.Frag} {G H F : Hp} {m : M} {d : D} {v : V} {b : Bool} (r : Rep K G H F m) (p : Rp K G d v) (e : dTruB m d = some b) : TruV K v H b := by
  cases d with
  | non => cases p; cases e; exact rfl
  | bl x => cases p; cases e; exact rfl
  | int i => cases p; cases e; exact rfl
  | str z =>
    cases p
    dsimp only [dTruB] at e
    by_cases hz : z.length ≤ sizeLine
    · rw [if_pos hz] at e; cases e; exact ⟨hz, rfl⟩
    · rw [if_neg hz] at e; cases e
  | lst xs => cases p with | lst h1 r1 => cases e; exact .inl ⟨_, SqL.of (r.ext _ _ h1), by rw [isEmpty_rps r1]⟩
  | rdl xs => cases p with | rdl h1 r1 => cases e; exact .inl ⟨_, r.ext.seq h1, by rw [isEmpty_rps r1]⟩
  | tup xs => cases p with | tup h1 r1 => cases e; exact .inr (.inl ⟨_, same_sqt r.ext h1, by rw [isEmpty_rps r1]⟩)
  | ref a =>
    cases p
    dsimp only [dTruB] at e
    cases q : m a with
    | none => rw [q] at e; cases e
    | some o =>
      rw [q] at e
      cases o with
      | lst xs =>
        obtain ⟨_, _, u, h3, h4⟩ := r.mo a _ q
        obtain ⟨vs, rfl, h4⟩ := h4.ofLst
        cases e
        exact .inl ⟨_, SqL.of h3, by rw [isEmpty_rps h4]⟩
      | _ => cases e
  | _ => cases e
section
variable {X : Cx} {W : WX} {WD : DWX} {a b : Expr} {ta tb : DTE} {pos : Pos} {t u : DTT} {rest : List Expr}
theorem dt_tru (ha : DE X W WD a ta) (he : ∀ whole, isTrue a X.env whole = (do let v ← whole; standAt a.pos; holding [v] (truthy v)) := by intro _; rfl) : DT X W WD a (dTru ta) := by
  refine PT.imp (pt_truth ha he) fun σ H Q h => ?_
  obtain ⟨G, F, ρ, m, QD, x, t, k⟩ := h
  refine ⟨G, F, ρ, m, _, x, t, fun G1 H1 m1 d1 v1 e1 r1 p1 t1 => ?_⟩
  obtain ⟨b, e, t2⟩ := t1
  exact ⟨b, tru_of r1 p1 e, k G1 H1 m1 b e1 r1 t2⟩
def dAnd (t u : DTT) : DTT := fun r m Q => t r m fun c m1 => if c = true then u r m1 Q else Q false m1
def dOr (t u : DTT) : DTT := fun r m Q => t r m fun c m1 => if c = true then Q true m1 else u r m1 Q
def dNot (t : DTT) : DTT := fun r m Q => t r m fun c m1 => Q (!c) m1
theorem dw_and1 (ha : DT X W WD a t) : DW X W WD (.BoolOp .And [a] pos) t := pw_and1 ha
theorem dw_or1 (ha : DT X W WD a t) : DW X W WD (.BoolOp .Or [a] pos) t := pw_or1 ha
theorem dw_and (ha : DT X W WD a t) (hb : DW X W WD (.BoolOp .And (b :: rest) pos) u) : DW X W WD (.BoolOp .And (a :: b :: rest) pos) (dAnd t u) := by
  refine PW.imp (pw_and ha hb) fun σ H Q h => ?_
  obtain ⟨G, F, ρ, m, QD, x, t, k⟩ := h
  refine ⟨G, F, ρ, m, _, x, t, fun G1 H1 m1 b e1 r1 t1 => ?_⟩
  cases b with
  | false => exact k G1 H1 m1 false e1 r1 t1
  | true => exact ⟨G1, F, ρ, m1, QD, x.step e1 r1, t1, fun G2 H2 m2 b e2 r2 t2 => k G2 H2 m2 b (e1.trans e2) r2 t2⟩
theorem dw_or (ha : DT X W WD a t) (hb : DW X W WD (.BoolOp .Or (b :: rest) pos) u) : DW X W WD (.BoolOp .Or (a :: b :: rest) pos) (dOr t u) := by
  refine PW.imp (pw_or ha hb) fun σ H Q h => ?_
  obtain ⟨G, F, ρ, m, QD, x, t, k⟩ := h
  refine ⟨G, F, ρ, m, _, x, t, fun G1 H1 m1 b e1 r1 t1 => ?_⟩
  cases b with
  | true => exact k G1 H1 m1 true e1 r1 t1
  | false => exact ⟨G1, F, ρ, m1, QD, x.step e1 r1, t1, fun G2 H2 m2 b e2 r2 t2 => k G2 H2 m2 b (e1.trans e2) r2 t2⟩
theorem dt_w (h : DW X W WD a t) : DT X W WD a t := PW.pt h
theorem dt_not (ha : DT X W WD a t) : DT X W WD (.UnaryOp .Not a pos) (dNot t) := by
  refine PT.imp (pt_not ha) fun σ H Q h => ?_
  obtain ⟨G, F, ρ, m, QD, x, t, k⟩ := h
  exact ⟨G, F, ρ, m, _, x, t, fun G1 H1 m1 b e1 r1 t1 => k G1 H1 m1 (!b) e1 r1 t1⟩
def dAndV (ta tb : DTE) : DTE := fun r m Q => ta r m fun d m1 => ∃ c, d = .bl c ∧ if c = true then tb r m1 Q else Q (.bl false) m1
def dOrV (ta tb : DTE) : DTE := fun r m Q => ta r m fun d m1 => ∃ c, d = .bl c ∧ if c = true then Q (.bl true) m1 else tb r m1 Q
def dNotV (ta : DTE) : DTE := fun r m Q => ta r m fun d m1 => ∃ c, d = .bl c ∧ Q (.bl (!c)) m1
theorem de_one {op} (h : DE X W WD a ta) : DE X W WD (.BoolOp op [a] pos) ta := pe_one h
theorem de_or (ha : DE X W WD a ta) (hb : DE X W WD (.BoolOp .Or (b :: rest) pos) tb) : DE X W WD (.BoolOp .Or (a :: b :: rest) pos) (dOrV ta tb) := by
  refine PE.imp (pe_or ha hb) fun σ H Q h => ?_
  obtain ⟨G, F, ρ, m, QD, x, t, k⟩ := h
  refine ⟨G, F, ρ, m, _, x, t, fun G1 H1 m1 d1 v1 e1 r1 p1 t1 => ?_⟩
  obtain ⟨c, rfl, t2⟩ := t1
  cases p1
  refine ⟨c, rfl, ?_⟩
  cases c with
  | false => exact ⟨G1, F, ρ, m1, QD, x.step e1 r1, t2, k.mono e1⟩
  | true => exact k G1 H1 m1 _ _ e1 r1 (.bl _) t2
def dIf (t : DTT) (ta tb : DTE) : DTE := fun r m Q => t r m fun c m1 => if c = true then ta r m1 Q else tb r m1 Q
theorem de_ifExp {c : Expr} (hc : DT X W WD c t) (ha : DE X W WD a ta) (hb : DE X W WD b tb) : DE X W WD (.IfExp c a b pos) (dIf t ta tb) := by
  refine PE.imp (pe_ifExp hc ha hb) fun σ H Q h => ?_
  obtain ⟨G, F, ρ, m, QD, x, t, k⟩ := h
  refine ⟨G, F, ρ, m, _, x, t, fun G1 H1 m1 b e1 r1 t1 => ?_⟩
  cases b with
  | true => exact ⟨G1, F, ρ, m1, QD, x.step e1 r1, t1, k.mono e1⟩
  | false => exact ⟨G1, F, ρ, m1, QD, x.step e1 r1, t1, k.mono e1⟩
end
end DL

set_option Elab.async false
set_option linter.all false
set_option maxRecDepth 100000
set_option maxHeartbeats 4000000
namespace DL
open PySem PySem.Spec PyProof.Rows L2

def daNil : DTA := fun _ m Q => Q [] m
def daCons (ta : DTE) (tr : DTA) : DTA := fun r m Q => ta r m fun x m1 => tr r m1 fun xs m2 => Q (x :: xs) m2
section
variable {X : Cx} {W : WX} {WD : DWX} {e : Expr} {es : List Expr} {te : DTE} {t : DTA} {pos : Pos}
theorem da_nil : DA X W WD [] daNil := by
  refine PA.imp pa_nil fun σ H Q h => ?_
  obtain ⟨G, F, ρ, m, QD, x, t, k⟩ := h
  exact k G H m [] [] (Same.refl G) x.rep .nil t
theorem da_cons (ha : DE X W WD e te) (hr : DA X W WD es t) (hs : starEach (e :: es) X.env = (false, eval e X.env) :: starEach es X.env := by rfl) : DA X W WD (e :: es) (daCons te t) := by
  refine PA.imp (pa_cons ha hr hs) fun σ H Q h => ?_
  obtain ⟨G, F, ρ, m, QD, x, t, k⟩ := h
  refine ⟨G, F, ρ, m, _, x, t, fun G1 H1 m1 d1 v1 e1 r1 p1 t1 => ?_⟩
  exact ⟨G1, F, ρ, m1, _, x.step e1 r1, t1, fun G2 H2 m2 ds vs e2 r2 p2 t2 => k G2 H2 m2 (d1 :: ds) (v1 :: vs) (e1.trans e2) r2 (.cons (p1.mono e2) p2) t2⟩
def dTup (t : DTA) : DTE := fun r m Q => t r m fun xs m1 => xs.length ≤ sizeLine ∧ Q (.tup xs) m1
def dLst (mt : Bool) (t : DTA) : DTE := fun r m Q => t r m fun xs m1 => xs.length ≤ sizeLine ∧ mkL mt xs m1 Q
theorem de_tup {x1} (h : DA X W WD es t) : DE X W WD (.Tuple es x1 pos) (dTup t) := by
  refine PE.imp (pe_tup h) fun σ H Q h => ?_
  obtain ⟨G, F, ρ, m, QD, x, t, k⟩ := h
  refine ⟨G, F, ρ, m, _, x, t, fun G1 H1 m1 ds vs e1 r1 p1 t1 => ⟨by rw [← p1.length]; exact t1.1, fun p hp => ?_⟩⟩
  exact mkT_ok (k.mono e1) r1 p1 hp t1.2
theorem de_lst (mt : Bool) (h : DA X W WD es t) : DE X W WD (.List es pos) (dLst mt t) := by
  refine PE.imp (pe_lst h) fun σ H Q h => ?_
  obtain ⟨G, F, ρ, m, QD, x, t, k⟩ := h
  refine ⟨G, F, ρ, m, _, x, t, fun G1 H1 m1 ds vs e1 r1 p1 t1 => ⟨by rw [← p1.length]; exact t1.1, fun p hp => ?_⟩⟩
  exact mkL_ok (k.mono e1) r1 p1 hp t1.2
end

def lsOf (m : M) : D → Option (List D)
  | .lst xs => some xs
  | .rdl xs => some xs
  | .ref a => (m a).bind fun o => match o with
    | .lst xs => some xs
    | _ => none
  | _ => none
theorem lsOf_ref {m : M} {a : Addr} {xs : List D} (h : m a = some (.lst xs)) : lsOf m (.ref a) = some xs := by
  dsimp only [lsOf]; rw [h]; rfl
theorem ls_ok {K : PySem.W.Frag} {G H F : Hp} {m : M} {d : D} {v : V} {xs : List D} (r : Rep K G H F m) (p : Rp K G d v) (e : lsOf m d = some xs) : ∃ a vs, v = .ref a ∧ SqL K H a vs ∧ Rps K G xs vs := by
  cases d with
  | lst ys => cases e; cases p with | lst h1 r1 => exact ⟨_, _, rfl, SqL.of (r.ext _ _ h1), r1⟩
  | rdl ys => cases e; cases p with | rdl h1 r1 => exact ⟨_, _, rfl, r.ext.seq h1, r1⟩
  | ref a =>
    cases p
    dsimp only [lsOf] at e
    cases q : m a with
    | none => rw [q] at e; cases e
    | some o =>
      rw [q] at e
      cases o with
      | lst zs =>
        obtain ⟨_, _, u, h3, h4⟩ := r.mo a _ q
        obtain ⟨vs, rfl, h4⟩ := h4.ofLst
        cases e
        exact ⟨_, _, rfl, SqL.of h3, h4⟩
      | _ => cases e
  | _ => cases e
def sqOf (m : M) : D → Option (List D)
  | .tup xs => some xs
  | d => lsOf m d
theorem sq_ok {K : PySem.W.Frag} {G H F : Hp} {m : M} {d : D} {v : V} {xs : List D} (r : Rep K G H F m) (p : Rp K G d v) (e : sqOf m d = some xs) : ∃ a vs, v = .ref a ∧ (SqL K H a vs ∨ SqT K H a vs) ∧ Rps K G xs vs := by
  cases d with
  | tup ys => cases e; cases p with | tup h1 r1 => exact ⟨_, _, rfl, .inr (same_sqt r.ext h1), r1⟩
  | _ =>
    obtain ⟨a, vs, h1, h2, h3⟩ := ls_ok r p e
    exact ⟨a, vs, h1, .inl h2, h3⟩
theorem rps_atI {K : PySem.W.Frag} {G : Hp} {ds : List D} {vs : List V} {i : Int} {d : D} (r : Rps K G ds vs) (h : atI ds i = some d) : ∃ v, atI vs i = some v ∧ Rp K G d v := by
  unfold atI at h ⊢
  rw [← r.length]
  cases q : ixN ds.length i with
  | none => rw [q] at h; cases h
  | some j =>
    rw [q] at h
    exact r.get (i := j) h
def dIx : DR2 := fun x y m Q => ∃ i, y = .int i ∧ match x with
  | .str z => z.length ≤ sizeLine ∧ ∃ c, atI z.cps.toList i = some c ∧ Q (.str ⟨#[c]⟩) m
  | x => ∃ xs d, sqOf m x = some xs ∧ atI xs i = some d ∧ Q d m
section
variable {K : PySem.W.Frag} {X : Cx} {W : WX} {WD : DWX} {a b e : Expr} {ta tb te : DTE} {pos : Pos}
theorem od_ix : OpD K (rIx K) dIx := by
  intro G H F m x y vx vy QD Q r px py t k
  obtain ⟨i, rfl, t⟩ := t
  cases py
  have go : (∃ xs d, sqOf m x = some xs ∧ atI xs i = some d ∧ QD d m) → rIx K vx (.int i) H Q := by
    rintro ⟨xs, d, e, h, t⟩
    obtain ⟨a, vs, rfl, hs, rs⟩ := sq_ok r px e
    obtain ⟨v, h1, h2⟩ := rps_atI rs h
    rcases hs with hs | hs
    · exact .inl ⟨a, vs, i, v, rfl, rfl, hs, h1, k.here r h2 t⟩
    · exact .inr (.inl ⟨a, vs, i, v, rfl, rfl, hs, h1, k.here r h2 t⟩)
  cases x with
  | str z =>
    cases px
    obtain ⟨hz, c, hc, t⟩ := t
    exact .inr (.inr ⟨z, i, c, rfl, rfl, hz, hc, k.here r (.str _) t⟩)
  | _ => exact go t
theorem de_ix (ha : DE X W WD a ta) (hb : DE X W WD b tb) (hs : PlainIx b := by intro _ _; rfl) : DE X W WD (.Subscript a b pos) (dOp dIx ta tb) := PE.imp (pe_ix ix_seq ha hb hs) fun _ _ _ h => up_op od_ix h
def doNone : DO := fun _ m Q => Q none m
def doSome (t : DTE) : DO := fun r m Q => t r m fun d m1 => ∃ i, d = .int i ∧ Q (some i) m1
theorem do_none : DOp X W WD none doNone := by
  refine PO.imp po_none fun σ H Q h => ?_
  obtain ⟨G, F, ρ, m, QD, x, t, k⟩ := h
  exact k G H m none (Same.refl G) x.rep t
theorem do_some (h : DE X W WD e te) : DOp X W WD (some e) (doSome te) := by
  refine PO.imp (po_some h) fun σ H Q h => ?_
  obtain ⟨G, F, ρ, m, QD, x, t, k⟩ := h
  refine ⟨G, F, ρ, m, _, x, t, fun G1 H1 m1 d1 v1 e1 r1 p1 t1 => ?_⟩
  obtain ⟨i, rfl, t2⟩ := t1
  cases p1
  exact ⟨i, rfl, k G1 H1 m1 (some i) e1 r1 t2⟩
def cutD {α : Type} (xs : List α) (lo hi : Option Int) : List α := (xs.drop (HT.sIx xs.length 0 lo)).take (HT.sIx xs.length xs.length hi - HT.sIx xs.length 0 lo)
theorem cut_rps {G : Hp} {ds : List D} {vs : List V} (r : Rps K G ds vs) (lo hi : Option Int) : Rps K G (cutD ds lo hi) (cutV vs lo hi) := by
  unfold cutD cutV
  rw [r.length]
  exact (r.drop _).take _
def dSl (mt : Bool) (x : D) (lo hi : Option Int) (m : M) (Q : D → M → Prop) : Prop := match x with
  | .str z => z.length ≤ sizeLine ∧ Q (.str (cutS z lo hi)) m
  | .tup xs => ¬ (HT.sIx xs.length 0 lo = 0 ∧ HT.sIx xs.length xs.length hi = xs.length) ∧ Q (.tup (cutD xs lo hi)) m
  | x => ∃ xs, lsOf m x = some xs ∧ mkL mt (cutD xs lo hi) m Q
def rSlA (K : PySem.W.Frag) : V → Option Int → Option Int → Hp → VK → Prop := fun x lo hi H Q => rSlL K x lo hi H Q ∨ rSlT K x lo hi H Q ∨ rSlS x lo hi H Q
theorem sl_any : SlR X (rSlA X.K) := sl_list.or (sl_tup.or sl_str)
theorem sl_ok {G H F : Hp} {m : M} {x : D} {vx : V} {mt : Bool} {lo hi : Option Int} {QD : D → M → Prop} {Q : VK} (r : Rep K G H F m) (px : Rp K G x vx) (t : dSl mt x lo hi m QD) (k : Kv K G F QD Q) : rSlA K vx lo hi H Q := by
  have go : (∃ xs, lsOf m x = some xs ∧ mkL mt (cutD xs lo hi) m QD) → rSlA K vx lo hi H Q := by
    rintro ⟨xs, e, t⟩
    obtain ⟨a, vs, rfl, hs, rs⟩ := ls_ok r px e
    exact .inl ⟨a, vs, rfl, hs, fun p hp => mkL_ok k r (cut_rps rs lo hi) hp t⟩
  cases x with
  | str z => cases px; exact .inr (.inr ⟨z, rfl, t.1, k.here r (.str _) t.2⟩)
  | tup xs =>
    cases px with | tup h1 r1 =>
    refine .inr (.inl ⟨_, _, rfl, same_sqt r.ext h1, by rw [← r1.length]; exact t.1, fun p hp => mkT_ok k r (cut_rps r1 lo hi) hp t.2⟩)
  | _ => exact go t
def dSlice (mt : Bool) (te : DTE) (tl th : DO) : DTE := fun r m Q => te r m fun x m1 => tl r m1 fun l m2 => th r m2 fun u m3 => dSl mt x l u m3 Q
theorem de_slice (mt : Bool) {lo hi : Option Expr} {tl th : DO} {p2 : Pos} (he : DE X W WD e te) (hl : DOp X W WD lo tl) (hu : DOp X W WD hi th) : DE X W WD (.Subscript e (.Slice lo hi none p2) pos) (dSlice mt te tl th) := by
  refine PE.imp (pe_slice sl_any he hl hu) fun σ H Q h => ?_
  obtain ⟨G, F, ρ, m, QD, x, t, k⟩ := h
  refine ⟨G, F, ρ, m, _, x, t, fun G1 H1 m1 d1 v1 e1 r1 p1 t1 => ?_⟩
  refine ⟨G1, F, ρ, m1, _, x.step e1 r1, t1, fun G2 H2 m2 l e2 r2 t2 => ?_⟩
  refine ⟨G2, F, ρ, m2, _, x.step (e1.trans e2) r2, t2, fun G3 H3 m3 u e3 r3 t3 => ?_⟩
  exact sl_ok r3 (p1.mono (e2.trans e3)) t3 (k.mono ((e1.trans e2).trans e3))
def flatD : D → Bool
  | .non => true
  | .bl _ => true
  | .int _ => true
  | .str _ => true
  | _ => false
def eqD : D → D → Bool
  | .non, .non => true
  | .bl a, .bl b => a == b
  | .bl a, .int b => (if a then 1 else 0) == b
  | .int a, .bl b => a == (if b then 1 else 0)
  | .int a, .int b => a == b
  | .str a, .str b => a == b
  | _, _ => false
def inD (x : D) (xs : List D) : Bool := xs.any fun y => eqD y x
theorem flat_ok {G : Hp} {d : D} {v : V} (p : Rp K G d v) (h : flatD d = true) : flatV v = true := by
  cases p <;> first | rfl | cases h
theorem eqD_ok {G : Hp} {d e : D} {v u : V} (p : Rp K G d v) (q : Rp K G e u) (h : flatD d = true) (h2 : flatD e = true) : eqV v u = eqD d e := by
  cases p <;> first | (cases q <;> first | rfl | cases h2) | cases h
theorem flats_ok {G : Hp} : ∀ {ds : List D} {vs : List V}, Rps K G ds vs → ds.all flatD = true → vs.all flatV = true
  | _, _, .nil, _ => rfl
  | _, _, .cons r t, h => by
    rw [List.all_cons, Bool.and_eq_true] at h ⊢
    exact ⟨flat_ok r h.1, flats_ok t h.2⟩
theorem inD_ok {G : Hp} {x : D} {vx : V} (p : Rp K G x vx) (hx : flatD x = true) : ∀ {ds : List D} {vs : List V}, Rps K G ds vs → ds.all flatD = true → inV vx vs = inD x ds
  | _, _, .nil, _ => rfl
  | _, _, .cons (d := d) (v := v) r t, h => by
    rw [List.all_cons, Bool.and_eq_true] at h
    have ih := inD_ok p hx t h.2
    unfold inV inD at ih ⊢
    rw [List.any_cons, List.any_cons, ih, eqD_ok r p h.1 hx]
def dIn (neg : Bool) : DR2 := fun x y m Q => match x, y with
  | .str i, .str j => Q (.bl (if neg then !(!(Builtin.Str.occurrences j i 0 j.length 1).isEmpty) else !(Builtin.Str.occurrences j i 0 j.length 1).isEmpty)) m
  | x, y => ∃ xs, sqOf m y = some xs ∧ flatD x = true ∧ xs.all flatD = true ∧ Q (.bl (if neg then !inD x xs else inD x xs)) m
def rInA (K : PySem.W.Frag) : R2 := fun x y H Q => (∃ i j, x = .str i ∧ y = .str j ∧ Q (.bl (!(Builtin.Str.occurrences j i 0 j.length 1).isEmpty)) H) ∨ rIn K false x y H Q
def rNotInA (K : PySem.W.Frag) : R2 := fun x y H Q => (∃ i j, x = .str i ∧ y = .str j ∧ Q (.bl (!(!(Builtin.Str.occurrences j i 0 j.length 1).isEmpty))) H) ∨ rIn K true x y H Q
theorem op_inA : OpR X (compareOp .In) (rInA X.K) := op_in_str.or op_in_seq
theorem op_notInA : OpR X (compareOp .NotIn) (rNotInA X.K) := op_notin_str.or op_notIn_seq
theorem in_go {G H F : Hp} {m : M} {x y : D} {vx vy : V} {neg : Bool} {QD : D → M → Prop} {Q : VK} (r : Rep K G H F m) (px : Rp K G x vx) (py : Rp K G y vy) (k : Kv K G F QD Q)
    (t : ∃ xs, sqOf m y = some xs ∧ flatD x = true ∧ xs.all flatD = true ∧ QD (.bl (if neg then !inD x xs else inD x xs)) m) : rIn K neg vx vy H Q := by
  obtain ⟨xs, e, f1, f2, t⟩ := t
  obtain ⟨a, vs, rfl, hs, rs⟩ := sq_ok r py e
  refine ⟨a, vs, rfl, hs, flat_ok px f1, flats_ok rs f2, ?_⟩
  rw [inD_ok px f1 rs f2]
  exact k.here r (.bl _) t
theorem od_in : OpD K (rInA K) (dIn false) := by
  intro G H F m x y vx vy QD Q r px py t k
  cases x with
  | str i => cases y with
    | str j => cases px; cases py; exact .inl ⟨i, j, rfl, rfl, k.here r (.bl _) t⟩
    | _ => exact .inr (in_go r px py k t)
  | _ => exact .inr (in_go r px py k t)
theorem od_notIn : OpD K (rNotInA K) (dIn true) := by
  intro G H F m x y vx vy QD Q r px py t k
  cases x with
  | str i => cases y with
    | str j => cases px; cases py; exact .inl ⟨i, j, rfl, rfl, k.here r (.bl _) t⟩
    | _ => exact .inr (in_go r px py k t)
  | _ => exact .inr (in_go r px py k t)
end
def CallD (K : PySem.W.Frag) (r : List V → Hp → VK → Prop) (rd : DRC) : Prop :=
  ∀ (G H F : Hp) (m : M) (ds : List D) (vs : List V) (QD : D → M → Prop) (Q : VK), Rep K G H F m → Rps K G ds vs → rd ds m QD → Kv K G F QD Q → r vs H Q
def dCB (rd : DRC) (t : DTA) : DTE := fun r m Q => t r m fun ds m1 => rd ds m1 Q
theorem up_cb {K : PySem.W.Frag} {W : WX} {WD : DWX} {r : List V → Hp → VK → Prop} {rd : DRC} {t : DTA} {σ : L2.St} {H : Hp} {Q : VK} (hd : CallD K r rd) (h : up K W WD (dCB rd t) σ H Q) : tCB r (upA K W WD t) σ H Q := by
  obtain ⟨G, F, ρ, m, QD, x, t, k⟩ := h
  exact ⟨G, F, ρ, m, _, x, t, fun G1 H1 m1 ds vs e1 r1 p1 t1 => hd G1 H1 F m1 ds vs QD Q r1 p1 t1 (k.mono e1)⟩
theorem CallR.or {X : Cx} {f : Value} {r r' : List V → Hp → VK → Prop} (h : CallR X f r) (h' : CallR X f r') : CallR X f (fun xs H Q => r xs H Q ∨ r' xs H Q) := fun pins s σ H xs us Q I v q => by
  rcases q with q | q
  · exact h pins s σ H xs us Q I v q
  · exact h' pins s σ H xs us Q I v q
section
variable {K : PySem.W.Frag} {X : Cx} {W : WX} {WD : DWX} {e : Expr} {es : List Expr} {t : DTA} {p pos : Pos} {r : List V → Hp → VK → Prop} {rd : DRC} {x : Str} {id T : String}
theorem de_callB (hc : CallR X (.builtin id) r) (hd : CallD X.K r rd) (hg : Gl X x) (hm : X.mg x = none) (hv : bootBuiltins x = some (.builtin id)) (ha : DA X W WD (e :: es) t) (hn : x ≠ "__name__" := by decide) (hdb : (x == ("__debug__" : Str)) = false := by decide)
    (he : starEach (e :: es) X.env = (false, eval e X.env) :: starEach es X.env := by rfl) (hpl : (backTo pos (starEach es X.env)).any (·.1) = false := by rfl) : DE X W WD (.Call (.Name x p) (e :: es) [] pos) (dCB rd t) :=
  PE.imp (pe_callB hc hg hm hv ha hn hdb he hpl) fun _ _ _ h => up_cb hd h
theorem de_callTy (hc : CallR X (.type T) r) (hd : CallD X.K r rd) (hg : Gl X x) (hm : X.mg x = none) (hv : bootBuiltins x = some (.type T)) (ha : DA X W WD (e :: es) t) (hn : x ≠ "__name__" := by decide) (hdb : (x == ("__debug__" : Str)) = false := by decide)
    (he : starEach (e :: es) X.env = (false, eval e X.env) :: starEach es X.env := by rfl) (hpl : (backTo pos (starEach es X.env)).any (·.1) = false := by rfl) : DE X W WD (.Call (.Name x p) (e :: es) [] pos) (dCB rd t) :=
  PE.imp (pe_callTy hc hg hm hv ha hn hdb he hpl) fun _ _ _ h => up_cb hd h
theorem rps1 {G : Hp} {d : D} {vs : List V} (h : Rps K G [d] vs) : ∃ v, vs = [v] ∧ Rp K G d v := by
  cases h with | cons r t => cases t; exact ⟨_, rfl, r⟩
theorem rps2 {G : Hp} {d e : D} {vs : List V} (h : Rps K G [d, e] vs) : ∃ v u, vs = [v, u] ∧ Rp K G d v ∧ Rp K G e u := by
  cases h with | cons r t => cases t with | cons r2 t2 => cases t2; exact ⟨_, _, rfl, r, r2⟩
def dLen : DRC := fun ds m Q => ∃ d, ds = [d] ∧ match d with
  | .str z => z.length ≤ sizeLine ∧ Q (.int z.length) m
  | d => ∃ xs, sqOf m d = some xs ∧ Q (.int xs.length) m
theorem cd_len : CallD K (fun xs H Q => ∃ x n, xs = [x] ∧ LenV K x H n ∧ Q (.int n) H) dLen := by
  intro G H F m ds vs QD Q r ps t k
  obtain ⟨d, rfl, t⟩ := t
  obtain ⟨v, rfl, p⟩ := rps1 ps
  have go : (∃ xs, sqOf m d = some xs ∧ QD (.int xs.length) m) → ∃ x n, [v] = [x] ∧ LenV K x H n ∧ Q (.int n) H := by
    rintro ⟨xs, e, t⟩
    obtain ⟨a, vs, rfl, hs, rs⟩ := sq_ok r p e
    refine ⟨_, xs.length, rfl, ?_, k.here r (.int _) t⟩
    rcases hs with hs | hs
    · exact .inl ⟨vs, hs, rs.length⟩
    · exact .inr ⟨vs, hs, rs.length⟩
  cases d with
  | str z => cases p; exact ⟨_, z.length, rfl, ⟨t.1, rfl⟩, k.here r (.int _) t.2⟩
  | _ => exact go t
def dInt1 : DRC := fun ds m Q => match ds with
  | [.int i] => Q (.int i) m
  | [.bl b] => Q (.int (if b then 1 else 0)) m
  | _ => False
theorem cd_int1 : CallD K (fun xs H Q => (∃ i, xs = [.int i] ∧ Q (.int i) H) ∨ ∃ k, xs = [.bl k] ∧ Q (.int (if k then 1 else 0)) H) dInt1 := by
  intro G H F m ds vs QD Q r ps t k
  match ds, t with
  | [.int i], t =>
    obtain ⟨v, rfl, p⟩ := rps1 ps
    cases p; exact .inl ⟨i, rfl, k.here r (.int _) t⟩
  | [.bl i], t =>
    obtain ⟨v, rfl, p⟩ := rps1 ps
    cases p; exact .inr ⟨i, rfl, k.here r (.int _) t⟩
def dAbs : DRC := fun ds m Q => match ds with
  | [.int i] => Q (.int (if i < 0 then -i else i)) m
  | _ => False
def dMax : DRC := fun ds m Q => match ds with
  | [d] => ∃ ns : List Int, lsOf m d = some (ns.map D.int) ∧ 0 < ns.length ∧ ∀ k, k ∈ ns → (∀ y, y ∈ ns → y ≤ k) → Q (.int k) m
  | [d, e] => ∃ i j, d = .int i ∧ e = .int j ∧ Q (.int (max i j)) m
  | _ => False
def dMin : DRC := fun ds m Q => match ds with
  | [d] => ∃ ns : List Int, lsOf m d = some (ns.map D.int) ∧ 0 < ns.length ∧ ∀ k, k ∈ ns → (∀ y, y ∈ ns → k ≤ y) → Q (.int k) m
  | [d, e] => ∃ i j, d = .int i ∧ e = .int j ∧ Q (.int (min i j)) m
  | _ => False
def rMinA (K : PySem.W.Frag) : List V → Hp → VK → Prop := fun xs H Q => (∃ i j, xs = [.int i, .int j] ∧ Q (.int (if j < i then j else i)) H) ∨ rMin K xs H Q
theorem call_minA (hc : X.calm = true) : CallR X (.builtin "min") (rMinA X.K) := CallR.or (call_min2 hc) (cr_min hc)
theorem cd_min : CallD K (rMinA K) dMin := by
  intro G H F m ds vs QD Q r ps t k
  have one : ∀ (d : D), ds = [d] → (∃ ns : List Int, lsOf m d = some (ns.map D.int) ∧ 0 < ns.length ∧ ∀ k, k ∈ ns → (∀ y, y ∈ ns → k ≤ y) → QD (.int k) m) → rMinA K vs H Q := by
    rintro d rfl ⟨ns, e, h0, t⟩
    obtain ⟨v, rfl, p⟩ := rps1 ps
    obtain ⟨a, us, rfl, hs, rs⟩ := ls_ok r p e
    rw [rs.ints] at hs
    exact .inr ⟨a, ns, rfl, hs, h0, fun z h1 h2 => k.here r (.int _) (t z h1 h2)⟩
  match ds, t with
  | [d, e], t =>
    obtain ⟨i, j, rfl, rfl, t⟩ := t
    obtain ⟨v, u, rfl, p, q⟩ := rps2 ps
    cases p; cases q
    refine .inl ⟨i, j, rfl, ?_⟩
    have e : (if j < i then j else i) = min i j := by split <;> omega
    rw [e]
    exact k.here r (.int _) t
  | [d], t => exact one d rfl t
def dSum : DRC := fun ds m Q => ∃ d, ds = [d] ∧ ∃ ns : List Int, lsOf m d = some (ns.map D.int) ∧ Q (.int ns.sum) m
def dAll : DRC := fun ds m Q => ∃ d, ds = [d] ∧ ∃ bs : List Bool, lsOf m d = some (bs.map D.bl) ∧ Q (.bl (bs.all _root_.id)) m
def dAny : DRC := fun ds m Q => ∃ d, ds = [d] ∧ ∃ bs : List Bool, lsOf m d = some (bs.map D.bl) ∧ Q (.bl (bs.any _root_.id)) m
theorem cd_all : CallD K (rAll K) dAll := by
  intro G H F m ds vs QD Q r ps t k
  obtain ⟨d, rfl, ns, e, t⟩ := t
  obtain ⟨v, rfl, p⟩ := rps1 ps
  obtain ⟨a, us, rfl, hs, rs⟩ := ls_ok r p e
  rw [rs.bls] at hs
  exact ⟨a, ns, rfl, hs, k.here r (.bl _) t⟩
def dList (mt : Bool) : DRC := fun ds m Q => ∃ d, ds = [d] ∧ ∃ xs, sqOf m d = some xs ∧ mkL mt xs m Q
theorem cd_list (mt : Bool) : CallD K (fun xs H Q => ∃ p ys, xs = [.ref p] ∧ (SqL K H p ys ∨ SqT K H p ys) ∧ ∀ l, H l = none → Q (.ref l) (upd H l (.lst ys))) (dList mt) := by
  intro G H F m ds vs QD Q r ps t k
  obtain ⟨d, rfl, xs, e, t⟩ := t
  obtain ⟨v, rfl, p⟩ := rps1 ps
  obtain ⟨a, us, rfl, hs, rs⟩ := sq_ok r p e
  exact ⟨a, us, rfl, hs, fun l hl => mkL_ok k r rs hl t⟩
def dTuple : DRC := fun ds m Q => ∃ d, ds = [d] ∧ ∃ xs, sqOf m d = some xs ∧ Q (.tup xs) m
def tyName (m : M) : D → Option String
  | .non => some "NoneType"
  | .bl _ => some "bool"
  | .int _ => some "int"
  | .str _ => some "str"
  | .lst _ => some "list"
  | .tup _ => some "tuple"
  | .ref a => (m a).bind fun o => match o with
    | .lst _ => some "list"
    | .dK _ => some "dict"
    | .dT _ => some "dict"
    | _ => none
  | _ => none
theorem sqt_ty {H : Hp} {a : Addr} {vs : List V} (h : SqT K H a vs) : TyX K H (.ref a) (.type "tuple") := by
  rcases h with (h | ⟨o, h⟩) | ⟨o, its, n, h1, h2, _⟩
  · exact .base (.tup h)
  · exact .fTuple h
  · exact .kTuple h1 h2
theorem ty_ok {G H F : Hp} {m : M} {d : D} {v : V} {T : String} (r : Rep K G H F m) (p : Rp K G d v) (e : tyName m d = some T) : TyX K H v (.type T) := by
  cases d with
  | non => cases e; cases p; exact .base .non
  | bl b => cases e; cases p; exact .base (.bl b)
  | int b => cases e; cases p; exact .base (.int b)
  | str b => cases e; cases p; exact .base (.str b)
  | lst xs => cases e; cases p with | lst h1 r1 => exact .base (.lst (r.ext _ _ h1))
  | tup xs => cases e; cases p with | tup h1 r1 => exact sqt_ty (same_sqt r.ext h1.1)
  | ref a =>
    cases p
    dsimp only [tyName] at e
    cases q : m a with
    | none => rw [q] at e; cases e
    | some o =>
      rw [q] at e
      obtain ⟨_, _, u, h3, h4⟩ := r.mo a _ q
      cases o with
      | lst xs => cases e; obtain ⟨vs, rfl, _⟩ := h4.ofLst; exact .base (.lst h3)
      | dK xs => cases e; cases u with
        | dK kv => exact .base (.dK h3)
        | _ => exact h4.elim
      | dT xs => cases e; cases u with
        | dT kv => exact .base (.dT h3)
        | _ => exact h4.elim
      | _ => cases e
  | _ => cases e
structure ClsI (K : PySem.W.Frag) (C : Addr) : Prop where
  cl : Cls K C
  ha : PySem.W.findIn K (.ref C) "__class__" = some (some (.builtin "object.__class__"))
  hn : PySem.W.specialIn K (.builtin "object.__class__") "__get__" = some (some (.builtin "getset_descriptor.__get__"))
  tk : PySem.W.takesIn K (.builtin "object.__class__") = some true
  hm : PySem.W.mroIn K C (.type "object") = some true
def IsiD (K : PySem.W.Frag) (m : M) (d c : D) (b : Bool) : Prop :=
  ∃ u, ((∃ T, c = .ty T ∧ u = Value.type T) ∨ (∃ C, c = .ref C ∧ u = .ref C)) ∧
    ((∃ S, tyName m d = some S ∧ PySem.W.kitOne K (.type S) u = some b) ∨ (∃ C fs, d = .ins C fs ∧ ClsI K C ∧ PySem.W.kitOne K (.ref C) u = some b))
def dIsi (K : PySem.W.Frag) : DRC := fun ds m Q => ∃ d c b, ds = [d, c] ∧ IsiD K m d c b ∧ Q (.bl b) m
theorem cd_isi : CallD K (rIsi K) (dIsi K) := by
  intro G H F m ds vs QD Q r ps t k
  obtain ⟨d, c, b, rfl, ⟨u, hc, hd⟩, t⟩ := t
  obtain ⟨v, w, rfl, p, q⟩ := rps2 ps
  have cv : ClsV w u := by
    rcases hc with ⟨T, rfl, rfl⟩ | ⟨C, rfl, rfl⟩
    · cases q; exact .ty T
    · cases q; exact .own C
  rcases hd with ⟨S, e, hk⟩ | ⟨C, fs, rfl, I, hk⟩
  · exact ⟨v, w, .type S, u, b, rfl, cv, ty_ok r p e, hk, k.here r (.bl _) t⟩
  · cases p with | ins h1 r1 =>
    exact ⟨_, w, .ref C, u, b, rfl, cv, .base (.ins (r.ext _ _ h1) I.cl I.ha I.hn I.tk I.hm), hk, k.here r (.bl _) t⟩
end
end DL

set_option Elab.async false
set_option linter.all false
set_option maxRecDepth 100000
set_option maxHeartbeats 4000000
namespace DL
open PySem PySem.Spec PyProof.Rows L2

def upS (K : PySem.W.Frag) (W : WX) (WD : DWX) (t : DTS) : TS := fun E σ H => ∃ (G F : Hp) (r : DSt) (m : M) (DD : DEnds), Sx K W WD G H F r σ m ∧ t DD r m ∧ Lk K G F DD E
abbrev DS (X : Cx) (W : WX) (WD : DWX) (st : Stmt) (t : DTS) : Prop := PS X st (upS X.K W WD t)
abbrev DSs (X : Cx) (W : WX) (WD : DWX) (st : List Stmt) (t : DTS) : Prop := PSs X st (upS X.K W WD t)
def dNext : DTS := fun DD r m => DD.nx r m
def dSeq (t u : DTS) : DTS := fun DD r m => t { DD with nx := u DD } r m
section
variable {X : Cx} {W : WX} {WD : DWX} {st : Stmt} {rest : List Stmt} {t u : DTS} {e : Expr} {te : DTE} {pos : Pos}
theorem dss_nil : DSs X W WD [] dNext := by
  refine PSs.imp pss_nil fun E σ H h => ?_
  obtain ⟨G, F, r, m, DD, x, t, k⟩ := h
  exact k.nx G H m r σ (Same.refl G) x.rep x.rs t
theorem dss_cons (h1 : DS X W WD st t) (h2 : DSs X W WD rest u) : DSs X W WD (st :: rest) (dSeq t u) := by
  refine PSs.imp (pss_cons h1 h2) fun E σ H h => ?_
  obtain ⟨G, F, r, m, DD, x, t, k⟩ := h
  exact ⟨G, F, r, m, { DD with nx := u DD }, x, t, ⟨fun G1 H1 m1 r1 s1 e1 p1 q1 t1 => ⟨G1, F, r1, m1, DD, x.to e1 p1 q1, t1, k.mono e1⟩, k.rt, k.bk, k.ct⟩⟩
theorem dss_one (h1 : DS X W WD st t) : DSs X W WD [st] t := pss_one h1
def dBreak : DTS := fun DD r m => DD.bk r m
def dCont : DTS := fun DD r m => DD.ct r m
def dDrop (te : DTE) : DTS := fun DD r m => te r m fun _ m1 => DD.nx r m1
theorem ds_expr (he : DE X W WD e te) (hs : swapsWith e none pos.line X.env = pure false := by rfl) : DS X W WD (.Expr e pos) (dDrop te) := by
  refine PS.imp (ps_expr he hs) fun E σ H h => ?_
  obtain ⟨G, F, r, m, DD, x, t, k⟩ := h
  exact ⟨G, F, r, m, _, x, t, fun G1 H1 m1 d v e1 p1 q1 t1 => k.nx G1 H1 m1 r σ e1 p1 (x.rs.mono e1) t1⟩
def dRet (te : DTE) : DTS := fun DD r m => te r m DD.rt
theorem ds_ret (he : DE X W WD e te) : DS X W WD (.Return (some e) pos) (dRet te) := by
  refine PS.imp (ps_ret he) fun E σ H h => ?_
  obtain ⟨G, F, r, m, DD, x, t, k⟩ := h
  exact ⟨G, F, r, m, _, x, t, k.rt⟩
def frzV (m : M) (d : D) (Q : D → M → Prop) : Prop := match d with
  | .ref a => (match m a with
    | some (.lst ds) => Q (.lst ds) (mdel m a)
    | some (.ins C fs) => Q (.ins C fs) (mdel m a)
    | _ => False)
  | _ => False
theorem frzV_ok {K : PySem.W.Frag} {G H F : Hp} {m : M} {d : D} {v : V} {QD : D → M → Prop} {Q : VK} (k : Kv K G F QD Q) (r : Rep K G H F m) (p : Rp K G d v) (t : frzV m d QD) : Q v H := by
  cases d with
  | ref a =>
    cases p
    dsimp only [frzV] at t
    cases q : m a with
    | none => rw [q] at t; exact t.elim
    | some o =>
      rw [q] at t
      cases o with
      | lst ds =>
        obtain ⟨G', e, r', p'⟩ := r.freeze q
        exact k G' H _ _ _ e r' p' t
      | ins C fs =>
        obtain ⟨G', e, r', p'⟩ := r.freezeI q
        exact k G' H _ _ _ e r' p' t
      | _ => exact t.elim
  | _ => exact t.elim
def dFrzE (te : DTE) : DTE := fun r m Q => te r m fun d m1 => frzV m1 d Q
theorem de_frz (he : DE X W WD e te) : DE X W WD e (dFrzE te) := by
  refine PE.imp he fun σ H Q h => ?_
  obtain ⟨G, F, r, m, QD, x, t, k⟩ := h
  exact ⟨G, F, r, m, _, x, t, fun G1 H1 m1 d v e1 p1 q1 t1 => frzV_ok (k.mono e1) p1 q1 t1⟩
def dRetN : DTS := fun DD _ m => DD.rt .non m
def dIfS (c : DTT) (t u : DTS) : DTS := fun DD r m => c r m fun b m1 => if b = true then t DD r m1 else u DD r m1
theorem ds_if {c : Expr} {a b : List Stmt} {tc : DTT} (hc : DT X W WD c tc) (ha : DSs X W WD a t) (hb : DSs X W WD b u) : DS X W WD (.If c a b pos) (dIfS tc t u) := by
  refine PS.imp (ps_if hc ha hb) fun E σ H h => ?_
  obtain ⟨G, F, r, m, DD, x, t, k⟩ := h
  refine ⟨G, F, r, m, _, x, t, fun G1 H1 m1 b e1 p1 t1 => ?_⟩
  cases b with
  | true => exact ⟨G1, F, r, m1, DD, x.step e1 p1, t1, k.mono e1⟩
  | false => exact ⟨G1, F, r, m1, DD, x.step e1 p1, t1, k.mono e1⟩
def dFrz (i : Nat) (t : DTS) : DTS := fun DD r m => ∃ a ds, slot r i = some (.ref a) ∧ m a = some (.lst ds) ∧ t DD (r.set i (some (.lst ds))) (mdel m a)
theorem dss_frz (i : Nat) (h : DSs X W WD rest t) : DSs X W WD rest (dFrz i t) := by
  refine PSs.imp h fun E σ H h => ?_
  obtain ⟨G, F, r, m, DD, x, ⟨a, ds, e1, e2, t⟩, k⟩ := h
  obtain ⟨G', e, r', p'⟩ := x.rep.freeze e2
  obtain ⟨v, e3, pv⟩ := x.rs.at_ i _ (slot_get e1)
  cases pv
  refine ⟨G', F, _, _, DD, ⟨r', (x.rs.mono e).setG (fun v hv => ?_) ⟨_, e3⟩, x.lx.mono e⟩, t, k.mono e⟩
  rw [e3] at hv
  cases hv
  exact p'
end

abbrev DTGs := List D → DSt → M → (DSt → M → Prop) → Prop
def upG (K : PySem.W.Frag) (W : WX) (WD : DWX) (t : DTG) : TG := fun v σ H Q => ∃ (G F : Hp) (r : DSt) (m : M) (d : D) (QD : DSt → M → Prop), Sx K W WD G H F r σ m ∧ Rp K G d v ∧ t d r m QD ∧ Ks K G F QD Q
def upGs (K : PySem.W.Frag) (W : WX) (WD : DWX) (t : DTGs) : TGs := fun vs σ H Q => ∃ (G F : Hp) (r : DSt) (m : M) (ds : List D) (QD : DSt → M → Prop), Sx K W WD G H F r σ m ∧ Rps K G ds vs ∧ t ds r m QD ∧ Ks K G F QD Q
abbrev DG (X : Cx) (W : WX) (WD : DWX) (tg : Expr) (t : DTG) : Prop := PG X tg (upG X.K W WD t)
abbrev DGs (X : Cx) (W : WX) (WD : DWX) (ts : List Expr) (t : DTGs) : Prop := PGs X ts (upGs X.K W WD t)
def gN (i : Nat) : DTG := fun d r m Q => Q (r.set i (some d)) m
def gsNil : DTGs := fun ds r m Q => ds = [] ∧ Q r m
def gsCons (t : DTG) (u : DTGs) : DTGs := fun ds r m Q => ∃ d rest, ds = d :: rest ∧ t d r m fun r1 m1 => u rest r1 m1 Q
def gT (n : Nat) (t : DTGs) : DTG := fun d r m Q => ∃ xs, sqOf m d = some xs ∧ xs.length = n ∧ t xs r m Q
theorem PG.either {X : Cx} {tg : Expr} {t t' : TG} (h : PG X tg t) (h' : PG X tg t') : PG X tg (fun v σ H Q => t v σ H Q ∨ t' v σ H Q) := ⟨fun pins s σ H v u Q I r q => by
  rcases q with q | q
  · exact h.run pins s σ H v u Q I r q
  · exact h'.run pins s σ H v u Q I r q⟩
section
variable {X : Cx} {W : WX} {WD : DWX} {pos : Pos}
theorem dg_name {i : Nat} {x : Str} (hN : X.N.Nodup) (hi : X.N[i]? = some x) (hx : Loc X.env.scope x) (hf : X.fn x = true ∨ X.env.scope.names.lookup x = some .local := by first | exact .inl rfl | exact .inr rfl | assumption) : DG X W WD (.Name x pos) (gN i) := by
  refine PG.imp (pg_name hN hi hx hf) fun v σ H Q h => ?_
  obtain ⟨G, F, r, m, d, QD, x, p, t, k⟩ := h
  exact k G H m _ _ (Same.refl G) x.rep (x.rs.set p) t
theorem dgs_nil : DGs X W WD [] gsNil := by
  refine PGs.imp pgs_nil fun v σ H Q h => ?_
  obtain ⟨G, F, r, m, d, QD, x, p, ⟨rfl, t⟩, k⟩ := h
  cases p
  exact ⟨rfl, k G H m _ _ (Same.refl G) x.rep x.rs t⟩
theorem dgs_cons {e : Expr} {es : List Expr} {t : DTG} {u : DTGs} (h1 : DG X W WD e t) (h2 : DGs X W WD es u)
    (hs : (assignEach (e :: es) X.env).map (·.2) = assign e X.env :: (assignEach es X.env).map (·.2) := by rfl) : DGs X W WD (e :: es) (gsCons t u) := by
  refine PGs.imp (pgs_cons h1 h2 hs) fun v σ H Q h => ?_
  obtain ⟨G, F, r, m, ds, QD, x, p, ⟨d, rest, rfl, t⟩, k⟩ := h
  cases p with | cons p1 p2 =>
  refine ⟨_, _, rfl, G, F, r, m, d, _, x, p1, t, fun G1 H1 m1 r1 s1 e1 q1 q2 t1 => ?_⟩
  exact ⟨G1, F, r1, m1, rest, QD, x.to e1 q1 q2, p2.mono e1, t1, k.mono e1⟩
theorem dg_tup {es : List Expr} {k : Nat} {t : DTGs} {n : Nat} (hc : X.calm = true) (h : DGs X W WD es t)
    (hn : (assignEach es X.env).length = n := by rfl) (hst : (assignEach es X.env).findIdx? (·.1) = none := by rfl) : DG X W WD (.Tuple es k pos) (gT n t) := by
  refine PG.imp (PG.either (pg_tup hc h hn hst) (pg_unl hc h hn hst)) fun v σ H Q h => ?_
  obtain ⟨G, F, r, m, d, QD, x, p, ⟨xs, e, hl, t⟩, k⟩ := h
  obtain ⟨a, vs, rfl, hs, r1⟩ := sq_ok x.rep p e
  rcases hs with hs | hs
  · exact .inr ⟨_, _, rfl, hs, by rw [← r1.length]; exact hl, G, F, r, m, xs, QD, x, r1, t, k⟩
  · exact .inl ⟨_, _, rfl, hs, by rw [← r1.length]; exact hl, G, F, r, m, xs, QD, x, r1, t, k⟩
def gSet (to ti : DTE) : DTG := fun v r m Q => to r m fun o m1 => ti r m1 fun i m2 => ∃ a xs k j, o = .ref a ∧ i = .int k ∧ m2 a = some (.lst xs) ∧ ixN xs.length k = some j ∧ Q r (mset m2 a (.lst (xs.set j v)))
theorem dg_sub {o i : Expr} {to ti : DTE} (ho : DE X W WD o to) (hi : DE X W WD i ti)
    (ha : ∀ v, assign (.Subscript o i pos) X.env v = (do
      let ov ← holding [v] (eval o X.env)
      let iv ← holding [v, ov] (eval i X.env)
      standAt pos
      holding [v, ov, iv] (setItem ov iv v)
      release [v, ov, iv] []) := by intro _; rfl) : DG X W WD (.Subscript o i pos) (gSet to ti) := by
  refine PG.imp (pg_sub ho hi set_list ha) fun v σ H Q h => ?_
  obtain ⟨G, F, r, m, d, QD, x, p, t, k⟩ := h
  refine ⟨G, F, r, m, _, x, t, fun G1 H1 m1 d1 v1 e1 r1 p1 t1 => ?_⟩
  refine ⟨G1, F, r, m1, _, x.step e1 r1, t1, fun G2 H2 m2 d2 v2 e2 r2 p2 t2 => ?_⟩
  obtain ⟨a, xs, kk, j, rfl, rfl, hm, hj, t3⟩ := t2
  cases p1; cases p2
  obtain ⟨_, _, u, h3, h4⟩ := r2.mo a _ hm
  obtain ⟨vs, rfl, h4⟩ := h4.ofLst
  refine ⟨a, vs, kk, j, rfl, rfl, h3, by rw [← h4.length]; exact hj, ?_⟩
  exact k G2 _ _ r σ (e1.trans e2) (r2.write hm (show RpM X.K G2 (.lst (xs.set j d)) (.lst (vs.set j v)) from h4.set (p.mono (e1.trans e2)) j)) (x.rs.mono (e1.trans e2)) t3
def dAsg (te : DTE) (g : DTG) : DTS := fun DD r m => te r m fun d m1 => g d r m1 DD.nx
theorem ds_asg {tg e : Expr} {te : DTE} {g : DTG} (he : DE X W WD e te) (hg : DG X W WD tg g) (hs : swapsWithSole [tg] e pos.line X.env = pure false := by rfl) (hw : swappedStores [tg] e X.env = pure none := by rfl)
    (h1 : (assignEach [tg] X.env).map (·.2) = [assign tg X.env] := by rfl) : DS X W WD (.Assign [tg] e pos) (dAsg te g) := by
  refine PS.imp (ps_asg he hg hs hw h1) fun E σ H h => ?_
  obtain ⟨G, F, r, m, DD, x, t, k⟩ := h
  exact ⟨G, F, r, m, _, x, t, fun G1 H1 m1 d v e1 p1 q1 t1 => ⟨G1, F, r, m1, d, _, x.step e1 p1, q1, t1, k.nx.mono e1⟩⟩
def dSet (i : Nat) (te : DTE) : DTS := fun DD r m => te r m fun d m1 => DD.nx (r.set i (some d)) m1
theorem ds_set {i : Nat} {x : Str} {e : Expr} {te : DTE} {pos' : Pos} (hN : X.N.Nodup) (hi : X.N[i]? = some x) (hx : Loc X.env.scope x) (he : DE X W WD e te) (hs : swapsWith e (some (.Name x pos')) pos.line X.env = pure false := by rfl) (hf : X.fn x = true ∨ X.env.scope.names.lookup x = some .local := by first | exact .inl rfl | exact .inr rfl | assumption) :
    DS X W WD (.Assign [.Name x pos'] e pos) (dSet i te) := by
  refine PS.imp (ps_set (i := i) hN hi hx he hs hf) fun E σ H h => ?_
  obtain ⟨G, F, r, m, DD, x, t, k⟩ := h
  exact ⟨G, F, r, m, _, x, t, fun G1 H1 m1 d v e1 p1 q1 t1 => k.nx G1 H1 m1 _ _ e1 p1 ((x.rs.mono e1).set q1) t1⟩
def dPar (i j : Nat) (ta : DTA) : DTS := fun DD r m => ta r m fun ds m1 => ∃ d e, ds = [d, e] ∧ DD.nx ((r.set i (some d)).set j (some e)) m1
def dAddI : DR2
  | .int i, .int j, m, Q => Q (.int (i + j)) m
  | _, _, _, _ => False
def dAug (i : Nat) (te : DTE) (rd : DR2) : DTS := fun DD r m => ∃ x, slot r i = some x ∧ te r m fun y m1 => rd x y m1 fun z m2 => DD.nx (r.set i (some z)) m2
end
end DL

set_option Elab.async false
set_option linter.all false
set_option maxRecDepth 100000
set_option maxHeartbeats 4000000
namespace DL
open PySem PySem.Spec PyProof.Rows L2

structure ItD (K : PySem.W.Frag) (J : It) (G : Hp) (ds : List D) : Prop where
  stop : ∀ H, Same G H → J.stop ds.length H
  go : ∀ i H, i < ds.length → Same G H → J.go i H
  yld : ∀ (i : Nat) (G1 H F : Hp) (m : M) (x : V) (H' : Hp) (d : D), Same G G1 → Rep K G1 H F m → ds[i]? = some d → J.yld i H x H' → ∃ G2, Same G1 G2 ∧ Rep K G2 H' F m ∧ Rp K G2 d x
def upI (K : PySem.W.Frag) (W : WX) (WD : DWX) (t : DTI) : TI := fun σ H R => ∃ (G F : Hp) (r : DSt) (m : M) (QD : List D → M → Prop), Sx K W WD G H F r σ m ∧ t r m QD ∧ ∀ G' H' m' ds J, Same G G' → Rep K G' H' F m' → ItD K J G' ds → QD ds m' → R J H'
abbrev DI (X : Cx) (W : WX) (WD : DWX) (tg iter : Expr) (t : DTI) : Prop := PI X tg iter (upI X.K W WD t)
section
variable {X : Cx} {W : WX} {WD : DWX} {tg : Expr}
def rngD (lo : Int) (n : Nat) : List D := (List.range n).map fun (k : Nat) => D.int (lo + (k : Int))
theorem rngD_len (lo : Int) (n : Nat) : (rngD lo n).length = n := by simp [rngD]
theorem rngD_at {lo : Int} {n i : Nat} {d : D} (h : (rngD lo n)[i]? = some d) : d = .int (lo + (i : Int)) ∧ i < n := by
  unfold rngD at h
  rw [List.getElem?_map] at h
  by_cases hi : i < n
  · rw [List.getElem?_range hi] at h
    cases h
    exact ⟨rfl, hi⟩
  · rw [List.getElem?_eq_none (by simp; omega)] at h
    cases h
theorem it_list {K : PySem.W.Frag} {G : Hp} {a : Addr} {vs : List V} {ds : List D} (h : SqL K G a vs) (r : Rps K G ds vs) : ItD K (Itl K a) G ds where
  stop := fun H e => ⟨vs, e.seq h, by rw [r.length]; exact Nat.le_refl _⟩
  go := fun i H hi e => by
    have hv : i < vs.length := by rw [← r.length]; exact hi
    exact ⟨vs, vs[i], e.seq h, by simp [hv]⟩
  yld := fun i G1 H F m x H' d e rep hd y => by
    obtain ⟨rfl, y⟩ := y
    obtain ⟨v, h1, h2⟩ := r.get hd
    have q := y vs ((e.trans rep.ext).seq h)
    rw [h1] at q
    cases q
    exact ⟨G1, Same.refl G1, rep, h2.mono e⟩
theorem it_tup {K : PySem.W.Frag} {G : Hp} {a : Addr} {vs : List V} {ds : List D} (h : SqT K G a vs) (r : Rps K G ds vs) : ItD K (Itt K a) G ds where
  stop := fun H e => ⟨vs, same_sqt e h, by rw [r.length]; exact Nat.le_refl _⟩
  go := fun i H hi e => by
    have hv : i < vs.length := by rw [← r.length]; exact hi
    exact ⟨vs, vs[i], same_sqt e h, by simp [hv]⟩
  yld := fun i G1 H F m x H' d e rep hd y => by
    obtain ⟨rfl, y⟩ := y
    obtain ⟨v, h1, h2⟩ := r.get hd
    have q := y vs (same_sqt (e.trans rep.ext) h)
    rw [h1] at q
    cases q
    exact ⟨G1, Same.refl G1, rep, h2.mono e⟩
theorem it_rng {K : PySem.W.Frag} {G : Hp} (lo : Int) (n : Nat) : ItD K (Itr lo n) G (rngD lo n) where
  stop := fun H e => by rw [rngD_len]; exact Nat.le_refl _
  go := fun i H hi e => by rw [rngD_len] at hi; exact hi
  yld := fun i G1 H F m x H' d e rep hd y => by
    obtain ⟨rfl, rfl⟩ := y
    obtain ⟨rfl, _⟩ := rngD_at hd
    exact ⟨G1, Same.refl G1, rep, .int _⟩
def diL (te : DTE) : DTI := fun r m Q => te r m fun d m1 => match d with
  | .lst xs => Q xs m1
  | .rdl xs => Q xs m1
  | _ => False
theorem di_list {l : Expr} {te : DTE} (hl : DE X W WD l te) : DI X W WD tg l (diL te) := by
  refine PI.imp (pi_list hl) fun σ H R h => ?_
  obtain ⟨G, F, r, m, QD, x, t, k⟩ := h
  refine ⟨G, F, r, m, _, x, t, fun G1 H1 m1 d1 v1 e1 r1 p1 t1 => ?_⟩
  cases d1 with
  | lst xs => cases p1 with | lst h1 q1 => exact ⟨_, rfl, ⟨_, SqL.of (r1.ext _ _ h1)⟩, k G1 H1 m1 xs _ e1 r1 (it_list (SqL.of h1) q1) t1⟩
  | rdl xs => cases p1 with | rdl h1 q1 => exact ⟨_, rfl, ⟨_, r1.ext.seq h1⟩, k G1 H1 m1 xs _ e1 r1 (it_list h1 q1) t1⟩
  | _ => exact t1.elim
def diT (te : DTE) : DTI := fun r m Q => te r m fun d m1 => match d with
  | .tup xs => Q xs m1
  | _ => False
def diR1 (ta : DTA) : DTI := fun r m Q => ta r m fun ds m1 => ∃ j : Int, ds = [.int j] ∧ (-(2 ^ 62) ≤ j ∧ j < 2 ^ 62) ∧ Q (rngD 0 j.toNat) m1
theorem di_range1 {a : Expr} {ta : DTA} {p pos : Pos} (hg : Gl X "range") (hm : X.mg "range" = none) (ha : DA X W WD [a] ta) (hs : starEach [a] X.env = [(false, eval a X.env)] := by rfl) : DI X W WD tg (.Call (.Name "range" p) [a] [] pos) (diR1 ta) := by
  refine PI.imp (pi_range1 hg hm ha hs) fun σ H R h => ?_
  obtain ⟨G, F, r, m, QD, x, t, k⟩ := h
  refine ⟨G, F, r, m, _, x, t, fun G1 H1 m1 ds vs e1 r1 p1 t1 => ?_⟩
  obtain ⟨j, rfl, ⟨h1, h2⟩, t2⟩ := t1
  obtain ⟨v, rfl, q⟩ := rps1 p1
  cases q
  exact ⟨j, rfl, h1, h2, k G1 H1 m1 _ _ e1 r1 (it_rng 0 j.toNat) t2⟩
def diR2 (ta : DTA) : DTI := fun r m Q => ta r m fun ds m1 => ∃ i j : Int, ds = [.int i, .int j] ∧ (-(2 ^ 62) ≤ i ∧ i < 2 ^ 62 ∧ -(2 ^ 62) ≤ j ∧ j < 2 ^ 62) ∧ Q (rngD i (j - i).toNat) m1
end

def dLoopI (g : DTG) (tb : DTS) (ds : List D) : DTS := fun DD r m => ∃ P : Nat → DSt → M → Prop, P 0 r m ∧ (∀ (i : Nat) (d : D) (r : DSt) (m : M), ds[i]? = some d → P i r m → g d r m fun r2 m2 => tb { DD with nx := P (i + 1), ct := P (i + 1), bk := DD.nx } r2 m2) ∧ ∀ r m, P ds.length r m → DD.nx r m
def dFor (ti : DTI) (g : DTG) (tb : DTS) : DTS := fun DD r m => ti r m fun ds m1 => dLoopI g tb ds DD r m1
section
variable {X : Cx} {W : WX} {WD : DWX} {tg iter : Expr} {body : List Stmt} {ti : DTI} {g : DTG} {tb : DTS} {pos : Pos}
theorem ds_for (hp : PassesOwn (model X.prog X.w) X.A X.env X.xe) (hc : X.calm = true) (hi : DI X W WD tg iter ti) (hg : DG X W WD tg g) (hb : DSs X W WD body tb)
    (hs : ∀ x, foldedSetIterable iter X.env x = pure x := by intro _; rfl) : DS X W WD (.For tg iter body [] pos) (dFor ti g tb) := by
  refine PS.imp (ps_for hp hc hi hg hb hs) fun E σ H h => ?_
  obtain ⟨G, F, r, m, DD, x, t, k⟩ := h
  refine ⟨G, F, r, m, _, x, t, fun G1 H1 m1 ds J e1 r1 it t1 => ?_⟩
  obtain ⟨P, p0, turn, done⟩ := t1
  refine ⟨fun i n σ H => n = ds.length - i ∧ i ≤ ds.length ∧ ∃ G2 r2 m2, Same G1 G2 ∧ Sx X.K W WD G2 H F r2 σ m2 ∧ P i r2 m2, ⟨ds.length, rfl, Nat.zero_le _, G1, r, m1, Same.refl G1, x.step e1 r1, p0⟩, ?_⟩
  rintro i n σ2 H2 ⟨rfl, hi, G2, r2, m2, e2, x2, p2⟩
  by_cases hlt : i < ds.length
  · have hd : ds[i]? = some ds[i] := by simp [hlt]
    refine .inr ⟨it.go i H2 hlt (e2.trans x2.rep.ext), fun σ3 H3 => ∃ G3 r3 m3, Same G1 G3 ∧ Sx X.K W WD G3 H3 F r3 σ3 m3 ∧ P (i + 1) r3 m3, fun σ3 H3 h3 => ⟨ds.length - (i + 1), by omega, rfl, hlt, h3⟩, fun v H3 y => ?_⟩
    obtain ⟨G3, e3, rep3, p3⟩ := it.yld i G2 H2 F m2 v H3 ds[i] e2 x2.rep hd y
    refine ⟨G3, F, r2, m2, ds[i], _, x2.step e3 rep3, p3, turn i ds[i] r2 m2 hd p2, fun G4 H4 m4 r4 s4 e4 rep4 rs4 t4 => ?_⟩
    have e14 : Same G1 G4 := (e2.trans e3).trans e4
    refine ⟨G4, F, r4, m4, _, x2.to (e3.trans e4) rep4 rs4, t4, ⟨fun G5 H5 m5 r5 s5 e5 rep5 rs5 t5 => ?_, k.rt.mono (e1.trans e14), k.nx.mono (e1.trans e14), fun G5 H5 m5 r5 s5 e5 rep5 rs5 t5 => ?_⟩⟩
    · exact ⟨G5, r5, m5, e14.trans e5, x2.to ((e3.trans e4).trans e5) rep5 rs5, t5⟩
    · exact ⟨G5, r5, m5, e14.trans e5, x2.to ((e3.trans e4).trans e5) rep5 rs5, t5⟩
  · have e : i = ds.length := by omega
    subst e
    exact .inl ⟨it.stop H2 (e2.trans x2.rep.ext), k.nx G2 H2 m2 r2 σ2 (e1.trans e2) x2.rep x2.rs (done r2 m2 p2)⟩
end

def setAll : DSt → List Nat → List D → Option DSt
  | r, [], [] => some r
  | r, j :: js, d :: ds => setAll (r.set j (some d)) js ds
  | _, _, _ => none
def ctD : CT → D → DSt → Option DSt
  | .one i, d, r => some (r.set i (some d))
  | .tup js, .tup ds, r => setAll r js ds
  | _, _, _ => none
def gNames : List Nat → TGs
  | [] => gNil
  | j :: js => gCons (gName j) (gNames js)
def ctG (K : PySem.W.Frag) : CT → TG
  | .one i => gName i
  | .tup js => gTup K js.length (gNames js)
theorem wipe_set (σ : L2.St) (j : Nat) (v : Option V) : ∀ vs : List Nat, j ∈ vs → wipe (σ.set j v) vs = wipe σ vs
  | [], h => nomatch h
  | k :: vs, h => by
    show (wipe (σ.set j v) vs).set k none = (wipe σ vs).set k none
    by_cases hk : j ∈ vs
    · rw [wipe_set σ j v vs hk]
    · have e : j = k := by
        rcases List.mem_cons.mp h with h | h
        · exact h
        · exact absurd h hk
      subst e
      have comm : ∀ (vs : List Nat) (σ : L2.St), j ∉ vs → wipe (σ.set j v) vs = (wipe σ vs).set j v := by
        intro vs
        induction vs with
        | nil => intro σ _; rfl
        | cons a vs ih =>
          intro σ hn
          show (wipe (σ.set j v) vs).set a none = ((wipe σ vs).set a none).set j v
          rw [ih σ (fun z => hn (List.mem_cons_of_mem _ z))]
          exact List.set_comm _ _ (fun z => hn (by rw [z]; exact List.mem_cons_self))
      rw [comm vs σ hk, List.set_set]
theorem wipe_wipe (σ : L2.St) : ∀ vs ws : List Nat, (∀ j ∈ vs, j ∈ ws) → wipe (wipe σ vs) ws = wipe σ ws
  | [], _, _ => rfl
  | k :: vs, ws, h => by
    show wipe ((wipe σ vs).set k none) ws = wipe σ ws
    rw [wipe_set _ k none ws (h k List.mem_cons_self), wipe_wipe σ vs ws fun j hj => h j (List.mem_cons_of_mem _ hj)]
def wipeD (r : DSt) : List Nat → DSt
  | [] => r
  | v :: vs => (wipeD r vs).set v none
theorem rs_none {K : PySem.W.Frag} {G : Hp} {r : DSt} {s : L2.St} (h : Rs K G r s) (i : Nat) (v : Option V) : Rs K G (r.set i none) (s.set i v) := ⟨by simp [h.len], fun j e hj => by
  by_cases hi : i = j
  · subst hi
    by_cases hl : i < r.length
    · rw [List.getElem?_set_self hl] at hj
      cases hj
    · rw [List.getElem?_eq_none (by simp; omega)] at hj
      cases hj
  · rw [List.getElem?_set_ne hi] at hj ⊢
    exact h.at_ j e hj⟩
theorem rs_wipe {K : PySem.W.Frag} {G : Hp} {r : DSt} {s : L2.St} (h : Rs K G r s) : ∀ vs : List Nat, Rs K G (wipeD r vs) (wipe s vs)
  | [] => h
  | v :: vs => rs_none (rs_wipe h vs) v none
theorem names_ok {K : PySem.W.Frag} {G : Hp} {vs : List Nat} {H : Hp} {Q : L2.St → Hp → Prop} {s0 : L2.St} : ∀ {js : List Nat} {r r2 : DSt} {s : L2.St} {ds : List D} {us : List V}, (∀ j ∈ js, j ∈ vs) → Rs K G r s → Rps K G ds us → setAll r js ds = some r2 → wipe s vs = s0 →
    (∀ s2, Rs K G r2 s2 → wipe s2 vs = s0 → Q s2 H) → gNames js us s H Q
  | [], r, r2, s, [], us, _, rs, p, e, w, k => by
    cases p; cases e
    exact ⟨rfl, k s rs w⟩
  | [], r, r2, s, d :: ds, us, _, rs, p, e, w, k => by cases e
  | j :: js, r, r2, s, [], us, _, rs, p, e, w, k => by cases e
  | j :: js, r, r2, s, d :: ds, us, hj, rs, p, e, w, k => by
    cases p with | cons p1 p2 =>
    refine ⟨_, _, rfl, ?_⟩
    exact names_ok (r2 := r2) (fun i hi => hj i (List.mem_cons_of_mem _ hi)) (rs.set p1) p2 e (by rw [wipe_set _ _ _ _ (hj j List.mem_cons_self)]; exact w) k
theorem setAll_len : ∀ {js : List Nat} {ds : List D} {r r2 : DSt}, setAll r js ds = some r2 → ds.length = js.length
  | [], [], _, _, _ => rfl
  | [], _ :: _, _, _, e => by cases e
  | _ :: _, [], _, _, e => by cases e
  | j :: js, d :: ds, r, r2, e => congrArg Nat.succ (setAll_len (js := js) (ds := ds) e)
theorem ct_ok {K : PySem.W.Frag} {G : Hp} {vs : List Nat} {H : Hp} {Q : L2.St → Hp → Prop} {c : CT} {r r2 : DSt} {s : L2.St} {d : D} {v : V} (hc : c.in vs) (rs : Rs K G r s) (p : Rp K G d v) (e : ctD c d r = some r2) (sm : Same G H)
    (k : ∀ s2, Rs K G r2 s2 → wipe s2 vs = wipe s vs → Q s2 H) : ctG K c v s H Q := by
  cases c with
  | one i =>
    cases e
    exact k _ (rs.set p) (wipe_set _ _ _ _ hc)
  | tup js =>
    cases d with
    | tup ds =>
      cases p with | tup h1 r1 =>
      exact ⟨_, _, rfl, same_sqt sm h1, by rw [← r1.length]; exact setAll_len e, names_ok hc rs r1 e rfl k⟩
    | _ => cases e
def dLcL (c : CT) (vs : List Nat) (tt : DTT) (te : DTE) : List D → List D → DSt → M → (List D → M → Prop) → Prop
  | [], acc, _, m, Q => Q acc m
  | x :: xs, acc, r, m, Q => ∃ r2, ctD c x (wipeD r vs) = some r2 ∧ tt r2 m fun b m1 => if b = true then te r2 m1 fun y m2 => acc.length < sizeLine ∧ dLcL c vs tt te xs (acc ++ [y]) r m2 Q else dLcL c vs tt te xs acc r m1 Q
def dLc (mt : Bool) (ti : DTI) (c : CT) (vs : List Nat) (tt : DTT) (te : DTE) : DTE := fun r m Q => ti r m fun ds m1 => dLcL c vs tt te ds [] r m1 fun acc m2 => mkL mt acc m2 Q
theorem lc_pure {c : CT} {vs : List Nat} {te : DTE} {r : DSt} {m : M} (f : D → D) : ∀ {xs acc : List D} {Q : List D → M → Prop}, acc.length + xs.length ≤ sizeLine → (∀ x ∈ xs, ∃ r2, ctD c x (wipeD r vs) = some r2 ∧ ∀ Q' : D → M → Prop, Q' (f x) m → te r2 m Q') → Q (acc ++ xs.map f) m → dLcL c vs (fun _ m Q => Q true m) te xs acc r m Q
  | [], acc, Q, _, _, q => by
    show Q acc m
    rw [List.map_nil, List.append_nil] at q
    exact q
  | x :: xs, acc, Q, hz, h, q => by
    obtain ⟨r2, e, t⟩ := h x List.mem_cons_self
    have hz' : acc.length + (xs.length + 1) ≤ sizeLine := hz
    refine ⟨r2, e, ?_⟩
    show (if true = true then _ else _)
    rw [if_pos rfl]
    refine t _ ⟨by omega, lc_pure f (by rw [List.length_append]; simp; omega) (fun y hy => h y (List.mem_cons_of_mem _ hy)) ?_⟩
    rw [List.append_assoc]
    exact q
theorem lc_filter {c : CT} {vs : List Nat} {tt : DTT} {te : DTE} {r : DSt} {m : M} (p : D → Bool) (f : D → D) : ∀ {xs acc : List D} {Q : List D → M → Prop}, acc.length + xs.length ≤ sizeLine →
    (∀ x ∈ xs, ∃ r2, ctD c x (wipeD r vs) = some r2 ∧ (∀ Q' : Bool → M → Prop, Q' (p x) m → tt r2 m Q') ∧ (p x = true → ∀ Q' : D → M → Prop, Q' (f x) m → te r2 m Q')) → Q (acc ++ (xs.filter p).map f) m → dLcL c vs tt te xs acc r m Q
  | [], acc, Q, _, _, q => by
    show Q acc m
    rw [List.filter_nil, List.map_nil, List.append_nil] at q
    exact q
  | x :: xs, acc, Q, hz, h, q => by
    obtain ⟨r2, e, t, u⟩ := h x List.mem_cons_self
    have hz' : acc.length + (xs.length + 1) ≤ sizeLine := hz
    refine ⟨r2, e, t _ ?_⟩
    rw [List.filter_cons] at q
    cases hp : p x with
    | true =>
      rw [if_pos rfl]
      rw [hp, if_pos rfl] at q
      refine u hp _ ⟨by omega, lc_filter p f (by rw [List.length_append]; simp; omega) (fun y hy => h y (List.mem_cons_of_mem _ hy)) ?_⟩
      rw [List.append_assoc]
      exact q
    | false =>
      rw [if_neg Bool.false_ne_true]
      rw [hp, if_neg Bool.false_ne_true] at q
      exact lc_filter p f (by omega) (fun y hy => h y (List.mem_cons_of_mem _ hy)) q
section
variable {X : Cx} {W : WX} {WD : DWX}
abbrev DTs (X : Cx) (W : WX) (WD : DWX) (ifs : List Expr) (t : DTT) : Prop := PTs X ifs (upT X.K W WD t)
def dYes : DTT := fun _ m Q => Q true m
theorem dts_nil : DTs X W WD [] dYes := by
  refine PTs.imp pts_nil fun σ H Q h => ?_
  obtain ⟨G, F, ρ, m, QD, x, t, k⟩ := h
  exact k G H m true (Same.refl G) x.rep t
theorem dts_one {c : Expr} {t : DTT} (h : DT X W WD c t) : DTs X W WD [c] t := pts_one h
abbrev W0 : WX := fun _ _ _ _ => False
abbrev WD0 : DWX := fun _ _ _ => False
theorem lc_up {K : PySem.W.Frag} {ti : DTI} {c : CT} {vs : List Nat} {tt : DTT} {te : DTE} {mt : Bool} {σ : L2.St} {H : Hp} {Q : VK} (hc : c.in vs) (h : up K W WD (dLc mt ti c vs tt te) σ H Q) : tLc (upI K W WD ti) (ctG K c) (upT K W0 WD0 tt) (up K W0 WD0 te) vs σ H Q := by
  obtain ⟨G, F, r, m, QD, x, t, k⟩ := h
  refine ⟨G, F, r, m, _, x, t, fun G1 H1 m1 ds J e1 r1 it t1 => ?_⟩
  intro Dl hD
  have hF : F Dl = none := r1.frm.free hD
  refine ⟨fun i n H => n = ds.length - i ∧ i ≤ ds.length ∧ ∃ G2 m2 acc va, Same G1 G2 ∧ Rep K G2 H (upd F Dl (.lst va)) m2 ∧ Rps K G2 acc va ∧ dLcL c vs tt te (ds.drop i) acc r m2 (fun acc m => mkL mt acc m QD), ⟨ds.length, rfl, Nat.zero_le _, G1, m1, [], [], Same.refl G1, r1.hide hD, .nil, t1⟩, ?_⟩
  rintro i n H2 ⟨rfl, hi, G2, m2, acc, va, e2, rep2, ra, t2⟩
  by_cases hlt : i < ds.length
  · have hdrop : ds.drop i = ds[i] :: ds.drop (i + 1) := (List.getElem_cons_drop hlt).symm
    rw [hdrop] at t2
    obtain ⟨r2, ec, t2⟩ := t2
    refine .inr ⟨it.go i H2 hlt (e2.trans rep2.ext), fun H3 => ∃ G3 m3 acc va, Same G1 G3 ∧ Rep K G3 H3 (upd F Dl (.lst va)) m3 ∧ Rps K G3 acc va ∧ dLcL c vs tt te (ds.drop (i + 1)) acc r m3 (fun acc m => mkL mt acc m QD), fun H3 h3 => ⟨ds.length - (i + 1), by omega, rfl, hlt, h3⟩, fun v H3 y => ?_⟩
    obtain ⟨G3, e3, rep3, p3⟩ := it.yld i G2 H2 _ m2 v H3 ds[i] e2 rep2 (by simp [hlt]) y
    have e03 : Same G G3 := (e1.trans e2).trans e3
    refine ct_ok hc (rs_wipe (x.rs.mono e03) vs) p3 ec rep3.ext fun s2 rs2 w2 => ?_
    refine ⟨w2.trans (wipe_wipe σ vs vs fun _ h => h), G3, _, r2, m2, _, ⟨rep3, rs2, Lx.no⟩, t2, fun G4 H4 m4 b e4 rep4 t4 => ?_⟩
    cases b with
    | false => exact ⟨G4, m4, acc, va, (e2.trans e3).trans e4, rep4, ra.mono (e3.trans e4), t4⟩
    | true =>
      refine ⟨G4, _, r2, m4, _, ⟨rep4, rs2.mono e4, Lx.no⟩, t4, fun G5 H5 m5 d v e5 rep5 p5 t5 => ?_⟩
      have ra5 := ra.mono ((e3.trans e4).trans e5)
      exact ⟨va, rep5.frm Dl _ upd_same, by rw [← ra5.length]; exact t5.1, G5, m5, acc ++ [d], va ++ [v], ((e2.trans e3).trans e4).trans e5, rep5.turn, ra5.append (.cons p5 .nil), t5.2⟩
  · have e : i = ds.length := by omega
    subst e
    rw [List.drop_length] at t2
    refine .inl ⟨it.stop H2 (e2.trans rep2.ext), ?_⟩
    cases mt with
    | false =>
      obtain ⟨e3, rep3, p3⟩ := rep2.outL hF ra
      exact k _ H2 m2 _ _ ((e1.trans e2).trans e3) rep3 p3 t2
    | true =>
      obtain ⟨mp, rep3⟩ := rep2.outM hF ra
      exact k _ H2 _ _ _ (e1.trans e2) rep3 (.ref Dl) (t2 Dl mp)
theorem pg_ct1 {Y : Cx} {i : Nat} {x : Str} {pos : Pos} (hN : Y.N.Nodup) (hi : Y.N[i]? = some x) (hx : Loc Y.env.scope x) (hf : Y.fn x = true ∨ Y.env.scope.names.lookup x = some .local := by first | exact .inl rfl | exact .inr rfl | assumption) : PG Y (.Name x pos) (ctG Y.K (.one i)) := pg_name hN hi hx hf
theorem pg_ctT {Y : Cx} {es : List Expr} {js : List Nat} {k : Nat} {pos : Pos} (hc : Y.calm = true) (h : PGs Y es (gNames js)) (hn : (assignEach es Y.env).length = js.length := by rfl) (hst : (assignEach es Y.env).findIdx? (·.1) = none := by rfl) : PG Y (.Tuple es k pos) (ctG Y.K (.tup js)) := pg_tup hc h hn hst
theorem de_lc (mt : Bool) {elt tg iter : Expr} {ifs : List Expr} {scope : Scope} {own : List (Str × Nat)} {pos : Pos} {ti : DTI} {c : CT} {tt : DTT} {te : DTE} (hc : X.calm = true) (hN : X.N.Nodup) (hin : c.in (own.map (·.2))) (hi : DI X W WD tg iter ti) (ok : BlkOk X.N X.env.scope scope own)
    (hg : ∀ (s : Shared) (H : Hp) (C : Addr) (cl : List (Str × Addr)) (fp : List Addr), PG (X.blk s H scope (compEnvC scope cl C X.env) fp) tg (ctG X.K c)) (ht : ∀ (s : Shared) (H : Hp) (C : Addr) (cl : List (Str × Addr)) (fp : List Addr), DTs (X.blk s H scope (compEnvC scope cl C X.env) fp) W0 WD0 ifs tt)
    (he : ∀ (s : Shared) (H : Hp) (C : Addr) (cl : List (Str × Addr)) (fp : List Addr), DE (X.blk s H scope (compEnvC scope cl C X.env) fp) W0 WD0 elt te) (hs : ∀ x, foldedSetIterable iter X.env x = pure x := by intro _; rfl) :
    DE X W WD (.ListComp elt [⟨tg, iter, ifs, 0⟩] scope pos) (dLc mt ti c (own.map (·.2)) tt te) :=
  PE.imp (pe_lc hc hN hi ok hg ht he hs) fun _ _ _ h => lc_up hin h
theorem ds_setLc (mt : Bool) {i : Nat} {y : Str} {py : Pos} {elt tg iter : Expr} {ifs : List Expr} {scope : Scope} {own : List (Str × Nat)} {pos spos : Pos} {ti : DTI} {c : CT} {tt : DTT} {te : DTE} (hc : X.calm = true) (hN : X.N.Nodup) (hy : X.N[i]? = some y) (hyl : X.env.scope.names.lookup y = some .local)
    (hsw : swapsWith (.ListComp elt [⟨tg, iter, ifs, 0⟩] scope pos) (some (.Name y py)) spos.line X.env = pure true) (hin : c.in (own.map (·.2))) (hi : DI X W WD tg iter ti) (ok : BlkOk X.N X.env.scope scope own)
    (hg : ∀ (s : Shared) (H : Hp) (C : Addr) (cl : List (Str × Addr)) (fp : List Addr), PG (X.blk s H scope (compEnvC scope cl C X.env) fp) tg (ctG X.K c)) (ht : ∀ (s : Shared) (H : Hp) (C : Addr) (cl : List (Str × Addr)) (fp : List Addr), DTs (X.blk s H scope (compEnvC scope cl C X.env) fp) W0 WD0 ifs tt)
    (he : ∀ (s : Shared) (H : Hp) (C : Addr) (cl : List (Str × Addr)) (fp : List Addr), DE (X.blk s H scope (compEnvC scope cl C X.env) fp) W0 WD0 elt te) (hs : ∀ x, foldedSetIterable iter X.env x = pure x := by intro _; rfl) :
    DS X W WD (.Assign [.Name y py] (.ListComp elt [⟨tg, iter, ifs, 0⟩] scope pos) spos) (dSet i (dLc mt ti c (own.map (·.2)) tt te)) := by
  refine PS.imp (ps_setLc (tt := upT X.K W0 WD0 tt) (te := up X.K W0 WD0 te) hc hN hy hyl hsw hi ok hg ht he hs) fun E σ H h => ?_
  obtain ⟨G, F, r, m, DD, x, t, k⟩ := h
  have h2 : up X.K W WD (dLc mt ti c (own.map (·.2)) tt te) σ H (fun v H1 => E.nx (σ.set i (some v)) H1) := ⟨G, F, r, m, _, x, t, fun G1 H1 m1 d v e1 p1 q1 t1 => k.nx G1 H1 m1 _ _ e1 p1 ((x.rs.mono e1).set q1) t1⟩
  exact lc_up hin h2
end
end DL

set_option Elab.async false
set_option linter.all false
set_option maxRecDepth 100000
set_option maxHeartbeats 4000000
namespace DL
open PySem PySem.Spec PyProof.Rows L2

def liftSp (K : PySem.W.Frag) (sp : DSp) : Sp := fun vs H Q E => ∃ (G F : Hp) (m : M) (ds : List D) (QD : D → M → Prop) (ED : XD → M → Prop), Rep K G H F m ∧ Rps K G ds vs ∧ sp ds m QD ED ∧ Kv K G F QD Q ∧
  ∀ (G' H' : Hp) (m' : M) (C : Addr) (fs : List (Str × D)) (d : Option Addr), Same G G' → Rep K G' H' F m' → RpX K G' d fs → ED ⟨C, fs⟩ m' → E (.ref C) d H'
def startD (N : List Str) (ds : List D) : DSt := ds.map some ++ List.replicate (N.length - ds.length) none
theorem rs_start {K : PySem.W.Frag} {G : Hp} {N : List Str} {ds : List D} {vs : List V} (h : Rps K G ds vs) : Rs K G (startD N ds) (L2.start N vs) := by
  refine ⟨by simp [startD, L2.start, h.length], fun i d e => ?_⟩
  unfold startD at e
  unfold L2.start
  by_cases hi : i < ds.length
  · rw [List.getElem?_append_left (by simpa using hi), List.getElem?_map] at e
    cases q : ds[i]? with
    | none => rw [q] at e; cases e
    | some d2 =>
      rw [q] at e
      cases e
      obtain ⟨v, h1, h2⟩ := h.get q
      refine ⟨v, ?_, h2⟩
      rw [List.getElem?_append_left (by rw [List.length_map, ← h.length]; exact hi), List.getElem?_map, h1]
      rfl
  · rw [List.getElem?_append_right (by simpa using hi)] at e
    by_cases hj : i - ds.length < N.length - ds.length
    · rw [List.length_map, List.getElem?_replicate, if_pos hj] at e
      cases e
    · rw [List.length_map, List.getElem?_replicate, if_neg hj] at e
      cases e
section
variable {P : Program} {w : World} {K : PySem.W.Frag} {mg : Str → Option Value} {base : Heap} {x qual : Str} {params : Arguments} {body : List Stmt} {scope : Scope} {dvs : List V} {kws : List (Str × V)} {f : Addr} {fd : FuncData}
abbrev CXo (P : Program) (w : World) (K : PySem.W.Frag) (mg : Str → Option Value) (base : Heap) (N : List Str) (qual : Str) (scope : Scope) (f : Addr) (cdv : Value) (A : Around) (outer : List Env) (s : Shared) (H : Hp) (E : XK) : Cx := cxOf (L2.CX P w) P w K mg base N qual scope f cdv A outer s H E
abbrev WE0 (E : XK) : WX := fun cls d _ H => E cls d H
theorem fn_d {N ps : List Str} {k : Nat} {sp : DSp} (F : FunD K x qual params body scope dvs kws f fd) (S : FnScope N ps scope) (len : ∀ ds m Q E, sp ds m Q E → ds.length = ps.length) (t : DWX → DTS)
    (hb : ∀ (cdv : Value) (A : Around) (outer : List Env) (s : Shared) (H : Hp) (E : XK) (WD : DWX), Room k (A.deeper (envOfC qual scope s.heap.objs.size f cdv)) → Takes (CXo P w K mg base N qual scope f cdv A outer s H E) (WE0 E) →
      PassesOwn (model P w) (CXo P w K mg base N qual scope f cdv A outer s H E).A (CXo P w K mg base N qual scope f cdv A outer s H E).env (CXo P w K mg base N qual scope f cdv A outer s H E).xe → DSs (CXo P w K mg base N qual scope f cdv A outer s H E) (WE0 E) WD body (t WD))
    (pure_ : ∀ ds m Q E, sp ds m Q E → t (fun x _ m => E x m) { nx := fun _ m => Q .non m, rt := Q } (startD N ds) m) : FnOk P w K mg base (L2.CX P w) (k + 1) f fd ps (liftSp K sp) := by
  refine F.ok S (fun vs H Q E h => ?_) (fun cdv A outer s H vs Q E hr h => ?_)
  · obtain ⟨G, F, m, ds, QD, ED, rep, rs, hs, _⟩ := h
    rw [← rs.length]
    exact len ds m QD ED hs
  · obtain ⟨G, F, m, ds, QD, ED, rep, rs, hs, kv, kx⟩ := h
    refine ⟨_, hb cdv A outer s H E (fun x _ m => ED x m) hr (takes_of rfl rfl rfl rfl) (passes_of rfl), ?_⟩
    refine ⟨G, F, startD N ds, m, _, ⟨rep, rs_start rs, fun G' H' m' r' s' C fs d e r rs' rx wd => kx G' H' m' C fs d e r rx wd⟩, pure_ ds m QD ED hs, ⟨fun G' H' m' r' s' e r rs' q => kv G' H' m' _ _ e r .non q, kv, ?_, ?_⟩⟩
    · exact fun _ _ _ _ _ _ _ _ q => q.elim
    · exact fun _ _ _ _ _ _ _ _ q => q.elim
end

def dCall (sp : DSp) (WD : DWX) (dds : List D) (t : DTA) : DTE := fun r m Q => t r m fun ds m1 => sp (ds ++ dds) m1 Q fun x m2 => WD x r m2
theorem lift_call {K : PySem.W.Frag} {W : WX} {WD : DWX} {G H F : Hp} {r : DSt} {σ : L2.St} {m : M} {sp : DSp} {ds : List D} {vs : List V} {QD : D → M → Prop} {Q : VK} (x : Sx K W WD G H F r σ m) (rs : Rps K G ds vs) (t : sp ds m QD fun x m2 => WD x r m2) (k : Kv K G F QD Q) : liftSp K sp vs H Q (WE W σ) :=
  ⟨G, F, m, ds, QD, _, x.rep, rs, t, k, fun G' H' m' C fs d e r' rx wd => x.lx G' H' m' r σ C fs d e r' (x.rs.mono e) rx wd⟩
section
variable {X : Cx} {W : WX} {WD : DWX} {k : Nat} {f C g : Addr} {fd : FuncData} {ps : List Str} {sp : DSp} {dvs : List V} {dds : List D} {ds : List Value} {x mn : Str} {p pos apos : Pos} {e o : Expr} {es : List Expr} {ta : DTE} {t : DTA}
theorem de_call (F : FnOk X.prog X.w X.K X.mg X.base (L2.CX X.prog X.w) k f fd ps (liftSp X.K sp)) (hr : Room k X.A) (hg : Gl X x) (hm : X.mg x = some (.ref f)) (hk : PySem.W.keepIn X.K (.ref f) = true) (hb : Binds X.K fd ps ds) (hd : Vals dvs ds) (hdd : ∀ G, Rps X.K G dds dvs) (tk : Takes X W)
    (ha : DA X W WD (e :: es) t) (hdb : (x == ("__debug__" : Str)) = false := by decide) (he : starEach (e :: es) X.env = (false, eval e X.env) :: starEach es X.env := by rfl) (hpl : (backTo pos (starEach es X.env)).any (·.1) = false := by rfl) :
    DE X W WD (.Call (.Name x p) (e :: es) [] pos) (dCall sp WD dds t) := by
  refine PE.imp (pe_callSD (E := WE W) F hr hg hm hk hb hd (fun σ => passAt tk σ) ha hdb he hpl) fun σ H Q h => ?_
  obtain ⟨G, F, r, m, QD, x, t, k⟩ := h
  refine ⟨G, F, r, m, _, x, t, fun G1 H1 m1 ds vs e1 r1 p1 t1 => ?_⟩
  exact lift_call (x.step e1 r1) (p1.append (hdd G1)) t1 (k.mono e1)
def insOf (m : M) : D → Option (Addr × List (Str × D))
  | .ins C fs => some (C, fs)
  | .ref a => (m a).bind fun o => match o with
    | .ins C fs => some (C, fs)
    | _ => none
  | _ => none
theorem ins_ok {K : PySem.W.Frag} {G H F : Hp} {m : M} {d : D} {v : V} {C : Addr} {fs : List (Str × D)} (r : Rep K G H F m) (p : Rp K G d v) (e : insOf m d = some (C, fs)) : ∃ a dx fv, v = .ref a ∧ H a = some (.ins C dx fv) ∧ Rpf K G fs fv := by
  cases d with
  | ins C' fs' => cases e; cases p with | ins h1 r1 => exact ⟨_, _, _, rfl, r.ext _ _ h1, r1⟩
  | ref a =>
    cases p
    dsimp only [insOf] at e
    cases q : m a with
    | none => rw [q] at e; cases e
    | some o =>
      rw [q] at e
      cases o with
      | ins C' fs' =>
        obtain ⟨_, _, u, h3, h4⟩ := r.mo a _ q
        obtain ⟨dx, fv, rfl, h5⟩ := h4.ofIns
        cases e
        exact ⟨_, _, _, rfl, h3, h5⟩
      | _ => cases e
  | _ => cases e
def dFld (K : PySem.W.Frag) (ta : DTE) (f : Str) : DTE := fun r m Q => ta r m fun x m1 => ∃ C fs d, insOf m1 x = some (C, fs) ∧ Cls K C ∧ NoAttr K C f ∧ fs.lookup f = some d ∧ Q d m1
theorem de_fld {f : Str} (he : DE X W WD e ta) (hb : attributeBase e f X.env (eval e X.env) = eval e X.env := by rfl) : DE X W WD (.Attribute e f pos) (dFld X.K ta f) := by
  refine PE.imp (pe_fld he hb) fun σ H Q h => ?_
  obtain ⟨G, F, r, m, QD, x, t, k⟩ := h
  refine ⟨G, F, r, m, _, x, t, fun G1 H1 m1 d1 v1 e1 r1 p1 t1 => ?_⟩
  obtain ⟨C, fs, d, e2, c, n, l, t2⟩ := t1
  obtain ⟨a, dx, fv, rfl, h1, h2⟩ := ins_ok r1 p1 e2
  obtain ⟨v, l2, q2⟩ := h2.lookup l
  exact ⟨a, C, dx, fv, v, rfl, h1, c, n, l2, k G1 H1 m1 d v e1 r1 q2 t2⟩
def dFldS (K : PySem.W.Frag) (ta tv : DTE) (f : Str) : DTS := fun DD r m => tv r m fun y m1 => ta r m1 fun x m2 => ∃ a C fs, x = .ref a ∧ m2 a = some (.ins C fs) ∧ Cls K C ∧ NoAttr K C f ∧ fs.length < 1000 ∧ DD.nx r (mset m2 a (.ins C (putD f y fs)))
theorem ds_fld {value : Expr} {tv : DTE} {f : Str} {pos' : Pos} (ha : DE X W WD o ta) (hv : DE X W WD value tv) (hs : swapsWith value (some (.Attribute o f pos')) pos.line X.env = pure false := by rfl) : DS X W WD (.Assign [.Attribute o f pos'] value pos) (dFldS X.K ta tv f) := by
  refine PS.imp (ps_fld ha hv hs) fun E σ H h => ?_
  obtain ⟨G, F, r, m, DD, x, t, k⟩ := h
  refine ⟨G, F, r, m, _, x, t, fun G1 H1 m1 d1 v1 e1 r1 p1 t1 => ?_⟩
  refine ⟨G1, F, r, m1, _, x.step e1 r1, t1, fun G2 H2 m2 d2 v2 e2 r2 p2 t2 => ?_⟩
  obtain ⟨a, C, fs, rfl, hm, c, n, l, t3⟩ := t2
  cases p2
  obtain ⟨_, _, u, h3, h4⟩ := r2.mo a _ hm
  obtain ⟨dx, fv, rfl, h5⟩ := h4.ofIns
  refine ⟨a, C, dx, fv, rfl, h3, c, n, by rw [← h5.length]; exact l, ?_⟩
  exact k.nx G2 _ _ r σ (e1.trans e2) (r2.write hm (show RpM X.K G2 (.ins C (putD f d1 fs)) (.ins C dx (putF f v1 fv)) from ⟨rfl, h5.put (p1.mono e2)⟩)) (x.rs.mono (e1.trans e2)) t3
def dMeth (C : Addr) (mn : Str) (sp : DSp) (WD : DWX) (dds : List D) (ta : DTE) (t : DTA) : DTE := fun r m Q => ta r m fun x m1 => ∃ fs, insOf m1 x = some (C, fs) ∧ fs.lookup mn = none ∧ t r m1 fun ds m2 => sp (x :: (ds ++ dds)) m2 Q fun x m2 => WD x r m2
def dProp (C : Addr) (sp : DSp) (ta : DTE) : DTE := fun r m Q => ta r m fun x m1 => ∃ fs, insOf m1 x = some (C, fs) ∧ sp [x] m1 Q fun _ _ => False
theorem de_prop {fn : Str} {pa : Addr} (he : DE X W WD e ta) (c : Cls X.K C) (hp : PropOf X.K C fn pa g) (F : FnOk X.prog X.w X.K X.mg X.base (L2.CX X.prog X.w) k g fd ps (liftSp X.K sp)) (hr : Room (k + 1) X.A) (hb : Binds X.K fd ps [])
    (hab : attributeBase e fn X.env (eval e X.env) = eval e X.env := by rfl) : DE X W WD (.Attribute e fn pos) (dProp C sp ta) := by
  refine PE.imp (pe_prop (E := E0) he c hp F hr hb .nil passL hab) fun σ H Q h => ?_
  obtain ⟨G, F, r, m, QD, x, t, k⟩ := h
  refine ⟨G, F, r, m, _, x, t, fun G1 H1 m1 d1 v1 e1 r1 p1 t1 => ?_⟩
  obtain ⟨fs, e2, t2⟩ := t1
  obtain ⟨a, dx, fv, rfl, h1, h2⟩ := ins_ok r1 p1 e2
  exact ⟨a, dx, fv, rfl, h1, G1, F, m1, [d1], QD, _, r1, .cons p1 .nil, t2, k.mono e1, fun _ _ _ _ _ _ _ _ _ q => q.elim⟩
def tMakeS (C : Addr) (sp : Sp) (dvs : List V) (E : L2.St → XK) (t : TA) : TE := fun σ H Q => t σ H fun vs H1 => ∀ x dx, H1 x = none → H1 dx = none → dx ≠ x →
  sp (.ref x :: (vs ++ dvs)) (upd (upd H1 dx (.own x)) x (.ins C dx [])) (fun v H2 => v = .non ∧ Q (.ref x) H2) (E σ)
theorem run_makeS {CX : CXT} {sp : Sp} {E : XK} {pins : List (Addr × Obj)} {σ : L2.St} {H : Hp} {s : Shared} {Q : VK} {us : List Value} {vs : List V} (M : Mk X.K C f) (F : FnOk X.prog X.w X.K X.mg X.base CX k f fd ps sp) (hr : Room (k + 1) X.A) (hb : Binds X.K fd ps ds) (hd : Vals dvs ds)
    (hx : PassesAt CX X σ E) (I : Inv X pins σ H s) (r : Vals vs us)
    (h : ∀ x dx, H x = none → H dx = none → dx ≠ x → sp (.ref x :: (vs ++ dvs)) (upd (upd H dx (.own x)) x (.ins C dx [])) (fun v H2 => v = .non ∧ Q (.ref x) H2) E) :
    wpAny (model X.prog X.w) X.A (call (.ref C) us) (EP X pins σ Q) X.xe s := by
  have hq := h (s.heap.objs.size + 1) s.heap.objs.size (I.hok.fresh (Nat.le_succ _)) (I.hok.fresh (Nat.le_refl _)) (Nat.ne_of_lt (Nat.lt_succ_self _))
  have I2 := Inv.made (C := C) I
  have r2 : Vals (V.ref (s.heap.objs.size + 1) :: (vs ++ dvs)) (Value.ref (s.heap.objs.size + 1) :: (us ++ ds)) := .cons rfl (r.append hd)
  have hl : (Value.ref (s.heap.objs.size + 1) :: us ++ ds).length = ps.length := by
    have e := r2.length
    rw [F.len _ _ _ _ hq] at e
    exact e.symm
  refine wpAny_call (make_map (f := f) I.kIn M.makes M.init (beq_iff_eq.mp M.fn) (codeAny_mono (F.run _ X.stack _ _ ⟨Value.ref (s.heap.objs.size + 1) :: us, []⟩ (Value.ref (s.heap.objs.size + 1) :: (us ++ ds)) _ _ E (hr.make C us [])
    (I2.env0.make C us []) (hb _ (Value.ref (s.heap.objs.size + 1) :: us) I2.kIn hl) r2 hq) fun r s' hq' => ?_))
  cases r with
  | error e => exact hx pins _ _ e s' I2 hq'
  | ok fl =>
    cases fl with
    | ret u =>
      obtain ⟨v, H', I3, rv, ev, q3⟩ := I2.after hq'
      subst ev
      exact ⟨rv, ⟨V.ref (s.heap.objs.size + 1), H', I3, rfl, q3⟩⟩
    | next => exact False.elim hq'
    | brk => exact False.elim hq'
    | cont => exact False.elim hq'
theorem pe_makeS {CX : CXT} {sp : Sp} {E : L2.St → XK} {t : TA} (M : Mk X.K C f) (F : FnOk X.prog X.w X.K X.mg X.base CX k f fd ps sp) (hr : Room (k + 1) X.A) (hg : Gl X x) (hm : X.mg x = some (.ref C)) (hb : Binds X.K fd ps ds) (hd : Vals dvs ds) (hx : ∀ σ, PassesAt CX X σ (E σ))
    (ha : PA X (e :: es) t) (hdb : (x == ("__debug__" : Str)) = false := by decide) (he : starEach (e :: es) X.env = (false, eval e X.env) :: starEach es X.env := by rfl) (hpl : (backTo pos (starEach es X.env)).any (·.1) = false := by rfl) :
    PE X (.Call (.Name x p) (e :: es) [] pos) (tMakeS C sp dvs E t) := by
  refine ⟨fun pins s σ H Q I h => ?_⟩
  refine wpAny_Call_Name_kw (ld_glob I hg hm ?_ hdb)
  refine PySem.W.callWith_K (h₀ := X.base) I.ok.mod.kin M.kp (thn (ha.run pos pins s σ H _ I h) fun us s1 ⟨vs, H1, I1, r, q⟩ => ⟨I1.kIn, ?_⟩) he hpl
  exact run_makeS M F hr hb hd (hx σ) I1 r q
def dMake (C : Addr) (sp : DSp) (WD : DWX) (dds : List D) (t : DTA) : DTE := fun r m Q => t r m fun ds m1 => ∀ x, m1 x = none → sp (.ref x :: (ds ++ dds)) (mset m1 x (.ins C [])) (fun _ m2 => ∃ fs, m2 x = some (.ins C fs) ∧ Q (.ins C fs) (mdel m2 x)) fun x m2 => WD x r m2
theorem de_make (M : Mk X.K C f) (F : FnOk X.prog X.w X.K X.mg X.base (L2.CX X.prog X.w) k f fd ps (liftSp X.K sp)) (hr : Room (k + 1) X.A) (hg : Gl X x) (hm : X.mg x = some (.ref C)) (hb : Binds X.K fd ps ds) (hd : Vals dvs ds) (hdd : ∀ G, Rps X.K G dds dvs) (tk : Takes X W)
    (hn : ∀ vs H Q E, liftSp X.K sp vs H Q E → liftSp X.K sp vs H (fun v H' => v = .non ∧ Q v H') E)
    (ha : DA X W WD (e :: es) t) (hdb : (x == ("__debug__" : Str)) = false := by decide) (he : starEach (e :: es) X.env = (false, eval e X.env) :: starEach es X.env := by rfl) (hpl : (backTo pos (starEach es X.env)).any (·.1) = false := by rfl) :
    DE X W WD (.Call (.Name x p) (e :: es) [] pos) (dMake C sp WD dds t) := by
  refine PE.imp (pe_makeS (E := WE W) M F hr hg hm hb hd (fun σ => passAt tk σ) ha hdb he hpl) fun σ H Q h => ?_
  obtain ⟨G, F, r, m, QD, x, t, k⟩ := h
  refine ⟨G, F, r, m, _, x, t, fun G1 H1 m1 ds vs e1 r1 p1 t1 => ?_⟩
  intro y dx hy hdx ne
  have r2 : Rep X.K G1 (upd (upd H1 dx (.own y)) y (.ins C dx [])) F (mset m1 y (.ins C [])) := (r1.junk (o := .own y) hdx).newm (u := .ins C []) (by rw [upd_ne (Ne.symm ne)]; exact hy) ⟨rfl, .nil⟩
  refine hn _ _ (fun _ H2 => Q (.ref y) H2) _ ?_
  refine lift_call (QD := fun _ m2 => ∃ fs, m2 y = some (.ins C fs) ∧ QD (.ins C fs) (mdel m2 y)) (x.step e1 r2) (.cons (.ref y) (p1.append (hdd G1))) (t1 y (r1.mfree hy)) fun G3 H3 m3 d v e3 r3 p3 t3 => ?_
  obtain ⟨fs, hm3, t4⟩ := t3
  obtain ⟨G4, e4, r4, p4⟩ := r3.freezeI hm3
  exact k G4 H3 _ _ _ ((e1.trans e3).trans e4) r4 p4 t4
theorem none_of {K : PySem.W.Frag} {sp : DSp} (h : ∀ ds m Q E, sp ds m Q E → sp ds m (fun d m' => d = .non ∧ Q d m') E) (vs : List V) (H : Hp) (Q : VK) (E : XK) (q : liftSp K sp vs H Q E) : liftSp K sp vs H (fun v H' => v = .non ∧ Q v H') E := by
  obtain ⟨G, F, m, ds, QD, ED, rep, rs, hs, kv, kx⟩ := q
  refine ⟨G, F, m, ds, _, ED, rep, rs, h ds m QD ED hs, fun G' H' m' d v e r p q => ?_, kx⟩
  obtain ⟨rfl, q⟩ := q
  cases p
  exact ⟨rfl, kv G' H' m' _ _ e r .non q⟩
def dCallO (C : Addr) (sp : DSp) (WD : DWX) (tf : DTE) (t : DTA) : DTE := fun r m Q => tf r m fun x m1 => (∃ fs, insOf m1 x = some (C, fs)) ∧ t r m1 fun ds m2 => ∃ fs, insOf m2 x = some (C, fs) ∧ sp (x :: ds) m2 Q fun x m2 => WD x r m2
end
end DL

set_option Elab.async false
set_option linter.all false
set_option maxRecDepth 100000
set_option maxHeartbeats 4000000
namespace DL
open PySem PySem.Spec PyProof.Rows L2

def MtD (K : PySem.W.Frag) (T : String) (r : V → List V → Hp → VK → Prop) (ty : D → M → Prop) (rd : DRM) : Prop :=
  (∀ (G H F : Hp) (m : M) (x : D) (vx : V), Rep K G H F m → Rp K G x vx → ty x m → tyV K T vx H) ∧
  ∀ (G H F : Hp) (m : M) (x : D) (vx : V) (ds : List D) (vs : List V) (QD : D → M → Prop) (Q : VK), Rep K G H F m → Rp K G x vx → Rps K G ds vs → rd x ds m QD → Kv K G F QD Q → r vx vs H Q
def dBM (ty : D → M → Prop) (rd : DRM) (to : DTE) (t : DTA) : DTE := fun r m Q => to r m fun x m1 => ty x m1 ∧ t r m1 fun ds m2 => rd x ds m2 Q
section
variable {K : PySem.W.Frag} {X : Cx} {W : WX} {WD : DWX} {o e : Expr} {es : List Expr} {to : DTE} {t : DTA} {name : Str} {apos cpos : Pos} {T id : String} {r : V → List V → Hp → VK → Prop} {ty : D → M → Prop} {rd : DRM}
theorem de_bm (pa : PlainAttrs T) (slot : Slot T name id) (hty : typeOf (.builtin id) = pure (.type "method_descriptor")) (hm : MtR X id r) (hd : MtD X.K T r ty rd) (ho : DE X W WD o to) (ha : DA X W WD (e :: es) t)
    (hbase : attributeBase o name X.env (eval o X.env) = eval o X.env := by rfl)
    (hfew : ((backTo cpos (starEach (e :: es) X.env)).all (fun x => !x.1) && (backToKw cpos (keywordEach [] X.env)).all (fun x => x.1.isSome)
      && decide ((e :: es).length + ([] : List Keyword).length + (if ([] : List Keyword).isEmpty then 0 else 1) < 30)) = true := by rfl)
    (hline : (apos.endLine == cpos.line) = true := by rfl) (hs : starEach (e :: es) X.env = (false, eval e X.env) :: starEach es X.env := by rfl) (hplain : (backTo cpos (starEach es X.env)).any (·.1) = false := by rfl) :
    DE X W WD (.Call (.Attribute o name apos) (e :: es) [] cpos) (dBM ty rd to t) := by
  refine PE.imp (pe_bm pa slot hty hm ho ha hbase hfew hline hs hplain) fun σ H Q h => ?_
  obtain ⟨G, F, r, m, QD, x, t, k⟩ := h
  refine ⟨G, F, r, m, _, x, t, fun G1 H1 m1 d1 v1 e1 r1 p1 t1 => ⟨hd.1 G1 H1 F m1 d1 v1 r1 p1 t1.1, ?_⟩⟩
  refine ⟨G1, F, r, m1, _, x.step e1 r1, t1.2, fun G2 H2 m2 ds vs e2 r2 p2 t2 => ?_⟩
  exact hd.2 G2 H2 F m2 d1 v1 ds vs QD Q r2 (p1.mono e2) p2 t2 (k.mono (e1.trans e2))
def isL (d : D) (m : M) : Prop := ∃ xs, lsOf m d = some xs
def isS (d : D) (_ : M) : Prop := ∃ z, d = .str z
theorem ty_list {G H F : Hp} {m : M} {x : D} {vx : V} (r : Rep K G H F m) (p : Rp K G x vx) (h : isL x m) : tyV K "list" vx H := by
  obtain ⟨xs, e⟩ := h
  obtain ⟨a, vs, rfl, hs, _⟩ := ls_ok r p e
  exact .inl ⟨rfl, vs, hs⟩
theorem ty_str {G H F : Hp} {m : M} {x : D} {vx : V} (r : Rep K G H F m) (p : Rp K G x vx) (h : isS x m) : tyV K "str" vx H := by
  obtain ⟨z, rfl⟩ := h
  cases p
  exact rfl
theorem mo_lst {G H F : Hp} {m : M} {a : Addr} {xs : List D} (r : Rep K G H F m) (h : m a = some (.lst xs)) : ∃ vs, H a = some (.lst vs) ∧ Rps K G xs vs := by
  obtain ⟨_, _, u, h3, h4⟩ := r.mo a _ h
  obtain ⟨vs, rfl, h4⟩ := h4.ofLst
  exact ⟨vs, h3, h4⟩
theorem wr_lst {G H F : Hp} {m : M} {a : Addr} {xs ys : List D} {us : List V} (r : Rep K G H F m) (h : m a = some (.lst xs)) (p : Rps K G ys us) : Rep K G (upd H a (.lst us)) F (mset m a (.lst ys)) := r.write h (show RpM K G (.lst ys) (.lst us) from p)
def dAppend : DRM := fun x ds m Q => ∃ a xs y, x = .ref a ∧ ds = [y] ∧ m a = some (.lst xs) ∧ xs.length < sizeLine ∧ Q .non (mset m a (.lst (xs ++ [y])))
theorem md_append : MtD K "list" rAppend isL dAppend := by
  refine ⟨fun G H F m x vx r p h => ty_list r p h, fun G H F m x vx ds vs QD Q r px ps t k => ?_⟩
  obtain ⟨a, xs, y, rfl, rfl, hm, hz, t⟩ := t
  cases px
  obtain ⟨v, rfl, p⟩ := rps1 ps
  obtain ⟨vs, h3, h4⟩ := mo_lst r hm
  exact ⟨a, vs, v, rfl, rfl, h3, by rw [← h4.length]; exact hz, k.here (wr_lst r hm (h4.append (.cons p .nil))) .non t⟩
def dClear : DRM := fun x ds m Q => ∃ a xs, x = .ref a ∧ ds = [] ∧ m a = some (.lst xs) ∧ Q .non (mset m a (.lst []))
def dPopAt : DRM := fun x ds m Q => ∃ a xs i j y, x = .ref a ∧ ds = [.int i] ∧ m a = some (.lst xs) ∧ (-(2 ^ 63) ≤ i ∧ i < 2 ^ 63) ∧ seqIndex? i xs.length = some j ∧ xs[j]? = some y ∧ Q y (mset m a (.lst (xs.eraseIdx j)))
theorem md_popAt : MtD K "list" rPopAt isL dPopAt := by
  refine ⟨fun G H F m x vx r p h => ty_list r p h, fun G H F m x vx ds vs QD Q r px ps t k => ?_⟩
  obtain ⟨a, xs, i, j, y, rfl, rfl, hm, ⟨h1, h2⟩, hj, hy, t⟩ := t
  cases px
  obtain ⟨v, rfl, p⟩ := rps1 ps
  cases p
  obtain ⟨vs, h3, h4⟩ := mo_lst r hm
  obtain ⟨v, h5, h6⟩ := h4.get hy
  exact ⟨a, vs, i, j, v, rfl, rfl, h3, h1, h2, by rw [← h4.length]; exact hj, h5, k.here (wr_lst r hm (h4.eraseIdx j)) h6 t⟩
end

section
variable {X : Cx} {W : WX} {WD : DWX} {k : Nat} {f C : Addr} {fd : FuncData} {ps : List Str} {sp : DSp} {a b : Expr} {ta tb : DTE} {pos : Pos}
end
end DL

set_option Elab.async false
set_option linter.all false
set_option maxRecDepth 100000
set_option maxHeartbeats 4000000
namespace DL
open PySem PySem.Spec PyProof.Rows L2
open He (ga ma eqO eqO_ok ba)

theorem DefA.fun_ {K : Fr0} {d : DefA} (e : fnAt K (d.ad K) = d.told) (c : d.good K = true) : ∃ fd, FunD K d.name d.qual d.params d.body d.scope (d.vs K) (d.ks K) (d.ad K) fd := by
  obtain ⟨kp, c2⟩ := ba c
  unfold fnAt at e
  cases look : K.lookup (d.ad K) with
  | none => rw [look] at c2; cases c2
  | some ob =>
    obtain ⟨oc, od, dt, osl⟩ := ob
    rw [look] at c2 e
    cases dt with
    | func u =>
      obtain ⟨n1, n2, n3, n4, n5, n6, n7, n8, n9, n10, n11, n12, n13, n14, n15⟩ := u
      have e2 : (some (n1, n2, n3, n4, n5, n6, n7, n15) : He.FnW) = some (d.name, d.qual, d.params, .stmts d.body, d.scope, mainGlobals, [], builtinsNs) := e
      simp only [Option.some.injEq, Prod.mk.injEq] at e2
      obtain ⟨rfl, rfl, rfl, rfl, rfl, rfl, rfl, rfl⟩ := e2
      obtain ⟨k1, k2⟩ := ba (show (PySem.W.codeIn K n13 d.qual && (He.dflB K n8 (d.vs K) && He.kwdB K n9 (d.ks K))) = true from c2)
      obtain ⟨k3, k4⟩ := ba k2
      exact ⟨_, ⟨oc, od, n8, n9, n10, n11, n12, n13, n14, osl, rfl, look, k1, He.dflB_ok k3, He.kwdB_ok k4⟩, kp⟩
    | _ => cases c2
section
variable {fa : List (Fr0 → Bool)} {fn : List DefA} {K : Fr0}
theorem Says.fact (c : Says fa fn K) (i : Nat) {f : Fr0 → Bool} (h : fa[i]? = some f := by rfl) : f K = true := by
  obtain ⟨c1, _⟩ := ba (show (fa.all (fun f => f K) && fn.all (fun d => d.good K)) = true from congrArg Prod.fst c)
  exact List.all_eq_true.mp c1 f (List.mem_of_getElem? h)
theorem Says.def_ (c : Says fa fn K) (i : Nat) {d : DefA} (h : fn[i]? = some d := by rfl) : ∃ fd, FunD K d.name d.qual d.params d.body d.scope (d.vs K) (d.ks K) (d.ad K) fd := by
  obtain ⟨_, c2⟩ := ba (show (fa.all (fun f => f K) && fn.all (fun d => d.good K)) = true from congrArg Prod.fst c)
  have e : fn.map (fun d => fnAt K (d.ad K)) = fn.map DefA.told := congrArg Prod.snd c
  have e2 : (fn.map fun d => fnAt K (d.ad K))[i]? = (fn.map DefA.told)[i]? := by rw [e]
  rw [List.getElem?_map, List.getElem?_map, h] at e2
  exact DefA.fun_ (Option.some.inj e2) (List.all_eq_true.mp c2 d (List.mem_of_getElem? h))
end
theorem prop_of {K : Fr0} {C f : Str} (h : propB C f K = true) : PropOf K (ga K C) f (pad K C f) (wad K "property" C f) := by
  obtain ⟨h1, h⟩ := ba h
  obtain ⟨h2, h⟩ := ba h
  obtain ⟨h3, h4⟩ := ba h
  refine ⟨eqO_ok h1, eqO_ok h2, of_decide_eq_true h3, ?_⟩
  unfold wad
  split at h4
  · rename_i g rest e
    rw [e]
    exact ⟨rest, rfl⟩
  · cases h4
structure Good (P : Program) (w : World) (K : Fr0) (mg : Str → Option Value) (base : Heap) (k : Nat) (x : Option Str) (f : Addr) (ps : List Str) (sp : DSp) : Prop where
  ex : ∃ fd, FnOk P w K mg base (L2.CX P w) k f fd ps (liftSp K sp) ∧ Binds K fd ps [] ∧ PySem.W.keepIn K (.ref f) = true
  gl : match x with
    | some x => mg x = some (.ref f)
    | none => True
section
variable {P : Program} {w : World} {K : Fr0} {mg : Str → Option Value} {base : Heap} {x qual : Str} {params : Arguments} {body : List Stmt} {scope : Scope} {dvs : List V} {kws : List (Str × V)} {f : Addr} {fd : FuncData}
abbrev CXn (P : Program) (w : World) (K : Fr0) (mg : Str → Option Value) (base : Heap) (N : List Str) (qual : Str) (scope : Scope) (f : Addr) (cdv : Value) (A : Around) (outer : List Env) (s : Shared) (H : Hp) (E : XK) : Cx := (cxOf CX0 P w K mg base N qual scope f cdv A outer s H E).nox
theorem fn_d0 {N ps : List Str} {k : Nat} {sp : DSp} (F : FunD K x qual params body scope dvs kws f fd) (S : FnScope N ps scope) (len : ∀ ds m Q E, sp ds m Q E → ds.length = ps.length) (t : DWX → DTS)
    (hb : ∀ (cdv : Value) (A : Around) (outer : List Env) (s : Shared) (H : Hp) (E : XK), Room k (A.deeper (envOfC qual scope s.heap.objs.size f cdv)) → Takes (CXn P w K mg base N qual scope f cdv A outer s H E) W0 →
      PassesOwn (model P w) (CXn P w K mg base N qual scope f cdv A outer s H E).A (CXn P w K mg base N qual scope f cdv A outer s H E).env (CXn P w K mg base N qual scope f cdv A outer s H E).xe → DSs (CXn P w K mg base N qual scope f cdv A outer s H E) W0 WD0 body (t WD0))
    (pure_ : ∀ ds m Q E, sp ds m Q E → t WD0 { nx := fun _ m => Q .non m, rt := Q } (startD N ds) m) : FnOk P w K mg base CX0 (k + 1) f fd ps (liftSp K sp) := by
  refine F.ok S (fun vs H Q E h => ?_) (fun cdv A outer s H vs Q E hr h => ?_)
  · obtain ⟨G, F, m, ds, QD, ED, rep, rs, hs, _⟩ := h
    rw [← rs.length]
    exact len ds m QD ED hs
  · obtain ⟨G, F, m, ds, QD, ED, rep, rs, hs, kv, kx⟩ := h
    refine ⟨_, PSs.nox (hb cdv A outer s H E hr takes0 PassesOwn.never), ?_⟩
    refine ⟨G, F, startD N ds, m, _, ⟨rep, rs_start rs, Lx.no⟩, pure_ ds m QD ED hs, ⟨fun G' H' m' r' s' e r rs' q => kv G' H' m' _ _ e r .non q, kv, ?_, ?_⟩⟩
    · exact fun _ _ _ _ _ _ _ _ q => q.elim
    · exact fun _ _ _ _ _ _ _ _ q => q.elim
end
def m0 : M := fun _ => none
def spLaw : DSp := fun ds m Q _ => ∃ ns : List Int, ds = [.rdl (ns.map D.int)] ∧ ns.length ≤ 63 ∧ m = m0 ∧ ∀ m', Q (.bl true) m'
theorem spLaw_len (x : Str) (ds : List D) (m : M) (Q : D → M → Prop) (E : XD → M → Prop) (h : spLaw ds m Q E) : ds.length = [x].length := by
  obtain ⟨ns, rfl, _⟩ := h
  rfl
theorem law_sp {K : Fr0} (H : Hp) (a : Addr) (ns : List Int) (hl : ns.length ≤ 63) (hT : ∀ x ∈ tbls3 K, H x.2.1 = some (.tbl #[])) (hS : SqL K H a (ns.map V.int)) : liftSp K spLaw [.ref a] H (fun v _ => v = .bl true) fun _ _ _ => False := by
  have tb : LamX.Tabs (tblsOf K) H := fun p hp => by
    obtain ⟨x, hx, rfl⟩ := List.mem_map.mp hp
    exact LamX.TabS.nil (hT x hx)
  obtain ⟨G, hG, hok, hS2⟩ : ∃ G : Hp, Same G H ∧ (∀ b o, G b = some o → okO o) ∧ SqL K G a (ns.map V.int) := by
    rcases hS with hR | hR
    · refine ⟨fun b => if b = a then H b else none, fun b o e => ?_, fun b o e => ?_, .inl ?_⟩
      · by_cases hb : b = a
        · have e : (if b = a then H b else none) = some o := e
          rw [if_pos hb] at e
          exact e
        · have e : (if b = a then H b else none) = some o := e
          rw [if_neg hb] at e
          cases e
      · by_cases hb : b = a
        · have e : (if b = a then H b else none) = some o := e
          rw [if_pos hb, hb] at e
          rcases hR with hR | ⟨ob, hR⟩
          · rw [hR] at e; cases e; exact ⟨fun _ e => (by cases e), fun _ e => (by cases e)⟩
          · rw [hR] at e; cases e; exact ⟨fun _ e => (by cases e), fun _ e => (by cases e)⟩
        · have e : (if b = a then H b else none) = some o := e
          rw [if_neg hb] at e
          cases e
      · rcases hR with hR | ⟨ob, hR⟩
        · exact .inl ((if_pos rfl).trans hR)
        · exact .inr ⟨ob, (if_pos rfl).trans hR⟩
    · exact ⟨fun _ => none, fun _ _ e => (by cases e), fun _ _ e => (by cases e), .inr hR⟩
  refine ⟨G, fun _ => none, m0, [.rdl (ns.map D.int)], fun d _ => d = .bl true, fun _ _ => False, ⟨hG, (fun _ _ e => (by cases e)), (fun _ _ e => (by cases e)), (fun _ _ e => (by cases e)), tb, (fun b o e => (hok b o e).1), (fun _ _ e => (by cases e))⟩, .cons (.rdl hS2 (Rps.ofInts ns)) .nil, ⟨ns, rfl, hl, rfl, fun _ => rfl⟩, ?_, fun _ _ _ _ _ _ _ _ _ q => q.elim⟩
  rintro G' H' m' d v e r p rfl
  cases p
  rfl
structure TabBs (K : Fr0) (mg : Str → Option Value) (base : Heap) : Prop where
  tb : ∀ x ∈ tbls3 K, LamX.TabB base mg x.1 x.2.1
  one : ∀ x ∈ tbls3 K, ∀ y ∈ tbls3 K, x.2.1 = y.2.1 → x.2.2 = y.2.2
theorem walk_tab {l : PySem.W.OpenLaw} {n k : Nat} {q : Program} {loose : List Str} {XP : (Str → Option Value) → Heap → Prop} {YP : World → Heap → Prop} {d : DefRec} {CX : CXT} {x : Str} (hn : l.most = some n) (hn2 : n ≤ sizeLine) (hdf : d.params.defaults = []) (hr : Room k callerA)
    (F : ∀ (w : World) (mg : Str → Option Value) (fa : Addr) (h : Heap), YP w h → h.Ns mainGlobals mg → mg d.name = some (.ref fa) → ∃ (K : Fr0) (fd : FuncData) (sp : Sp), K.In h ∧ TabAt K h ∧ (∀ (s : Shared) (u : Value), BindsTo s fd ⟨[u], []⟩ [(x, u)]) ∧
        (∀ (H : Hp) (a : Addr) (ns : List Int), ns.length ≤ n → (∀ x ∈ tbls3 K, H x.2.1 = some (.tbl #[])) → SqL K H a (ns.map V.int) → sp [.ref a] H (fun v _ => v = .bl true) fun _ _ _ => False) ∧
        ∀ base : Heap, K.In base → base.Ns mainGlobals mg → TabBs K mg base → FnOk l.prog w K mg base CX k fa fd [x] sp)
    (hCX : ∀ (H : Hp) (s : Shared) (e : Value) (s' : Shared), CX [] H s (fun _ _ _ => False) e s' → False) : PySem.W.WalkO q loose XP YP l.row.toRowW d [] (fun f vs => PySem.call f vs) := by
  refine Att.attach_callB hn hdf fun w _ sh mg _ fa _ _ _ _ ad us zs GT Y _ _ _ hmg hob hin hle _ hge => ?_
  obtain ⟨K, fd, sp, KX, T, hb, hsp, hF⟩ := F w mg fa _ Y GT.T.g hmg
  have each : ∀ {φ : Addr × Addr → Prop}, (∀ x ∈ tbls3 K, φ (x.1, x.2.1)) → ∀ p ∈ (tbls3 K).map (fun x => (x.1, x.2.1)), φ p := fun h p hp => by
    obtain ⟨y, hy, rfl⟩ := List.mem_map.mp hp
    exact h y hy
  exact LamX.law_callTs (cs := (tbls3 K).map fun x => (x.1, x.2.1)) KX GT.T.g GT.T.b GT.T.builtins GT.T.nolimit hge (each T.emp) (each T.out) (each T.hd) GT.T.bmain hob hin (Nat.le_trans hle hn2) hr
    (fun base h1 h2 h3 => hF base h1 h2 ⟨fun y hy => h3 _ (List.mem_map.mpr ⟨y, hy, rfl⟩), T.one⟩) hb (fun H hH hS => hsp H ad zs hle (fun y hy => hH _ (List.mem_map.mpr ⟨y, hy, rfl⟩)) hS) fun H e s' => hCX H sh e s'
end DL

set_option Elab.async false
set_option linter.all false
set_option maxRecDepth 100000
set_option maxHeartbeats 4000000
namespace DL
open PySem PySem.Spec PyProof.Rows L2
theorem toPs_ints : ∀ ns : List Int, toPs (ns.map D.int) = some (ns.map PyData.int)
  | [] => rfl
  | n :: ns => by
    have ih := toPs_ints ns
    show (toPs (D.int n :: ns.map D.int)) = _
    rw [toPs, ih]
    rfl
theorem eqvAll_ints : ∀ ns ms : List Int, PyData.eqvAll (ns.map PyData.int) (ms.map PyData.int) = decide (ns = ms)
  | [], [] => rfl
  | [], _ :: _ => rfl
  | _ :: _, [] => rfl
  | n :: ns, k :: ks => by
    show (PyData.eqv (.int n) (.int k) && PyData.eqvAll (ns.map PyData.int) (ks.map PyData.int)) = _
    rw [eqvAll_ints ns ks]
    simp [PyData.eqv, Bool.decide_and, Bool.beq_eq_decide_eq]
theorem can_ints : ∀ ns : List Int, PyData.canLayAll0 (ns.map PyData.int) = true
  | [] => rfl
  | n :: ns => by
    show (PyData.canLay0 (.int n) && PyData.canLayAll0 (ns.map PyData.int)) = true
    rw [can_ints ns]
    rfl
theorem depth_ints : ∀ ns : List Int, PyData.depthAll (ns.map PyData.int) ≤ 1
  | [] => by simp [PyData.depthAll]
  | n :: ns => by
    have := depth_ints ns
    simp [PyData.depthAll, PyData.depth]
    omega
theorem shaped_ints (ns : List Int) : SeqAt.shaped (.list (ns.map PyData.int)) = true := by
  unfold SeqAt.shaped
  have h1 := can_ints ns
  have h2 := depth_ints ns
  have h3 : PyData.depth (.list (ns.map PyData.int)) ≤ 64 := by
    show PyData.depthAll (ns.map PyData.int) + 1 ≤ 64
    omega
  rw [decide_eq_true h3]
  show (PyData.canLayAll0 (ns.map PyData.int) && true) = true
  rw [h1]
  rfl
theorem dEq_ints {x y : D} {m : M} {ns ms : List Int} {Q : D → M → Prop} (hx : lsOf m x = some (ns.map D.int)) (hy : lsOf m y = some (ms.map D.int)) (h : Q (.bl (decide (ns = ms))) m) : dEq x y m Q := by
  have dat : ∀ {d : D} {ks : List Int}, lsOf m d = some (ks.map D.int) → datOf m d = some (.list (ks.map PyData.int)) ∧ dEqB d d = none ∧ ∀ e, dEqB d e = none := by
    intro d ks hd
    cases d with
    | lst xs => cases hd; refine ⟨?_, rfl, fun e => by cases e <;> rfl⟩; show (toPs _).map _ = _; rw [toPs_ints]; rfl
    | rdl xs => cases hd; refine ⟨?_, rfl, fun e => by cases e <;> rfl⟩; show (toPs _).map _ = _; rw [toPs_ints]; rfl
    | ref a =>
      refine ⟨?_, rfl, fun e => by cases e <;> rfl⟩
      dsimp only [lsOf] at hd
      dsimp only [datOf]
      cases q : m a with
      | none => rw [q] at hd; cases hd
      | some o =>
        rw [q] at hd
        cases o with
        | lst zs => cases hd; show (toPs _).map _ = _; rw [toPs_ints]; rfl
        | _ => cases hd
    | _ => cases hd
  unfold dEq
  rw [(dat hx).2.2 y]
  exact ⟨_, _, (dat hx).1, (dat hy).1, shaped_ints ns, shaped_ints ms, by rw [show PyData.eqv (.list (ns.map PyData.int)) (.list (ms.map PyData.int)) = decide (ns = ms) from eqvAll_ints ns ms]; exact h⟩
theorem dNe_ints {x y : D} {m : M} {ns ms : List Int} {Q : D → M → Prop} (hx : lsOf m x = some (ns.map D.int)) (hy : lsOf m y = some (ms.map D.int)) (h : Q (.bl (!decide (ns = ms))) m) : dNe x y m Q := by
  have e := dEq_ints (Q := fun d m' => ∃ b, d = .bl b ∧ m' = m ∧ b = decide (ns = ms)) hx hy ⟨_, rfl, rfl, rfl⟩
  unfold dEq at e
  unfold dNe
  cases q : dEqB x y with
  | some b =>
    rw [q] at e
    obtain ⟨b', e1, _, e3⟩ := e
    cases e1
    show Q (.bl (!b)) m
    rw [e3]
    exact h
  | none =>
    rw [q] at e
    obtain ⟨p, q', e1, e2, s1, s2, b, eb, _, e3⟩ := e
    refine ⟨p, q', e1, e2, s1, s2, ?_⟩
    cases eb
    rw [e3]
    exact h
section
variable {m : M} {Q : D → M → Prop} {i j : Int} {x y : Str} {b c : Bool}
theorem eq_ii : dEq (.int i) (.int j) m Q ↔ Q (.bl (decide (i = j))) m := Iff.rfl
theorem ne_ii : dNe (.int i) (.int j) m Q ↔ Q (.bl (!decide (i = j))) m := Iff.rfl
theorem eq_ss : dEq (.str x) (.str y) m Q ↔ Q (.bl (decide (x = y))) m := Iff.rfl
theorem ne_ss : dNe (.str x) (.str y) m Q ↔ Q (.bl (!decide (x = y))) m := Iff.rfl
theorem eq_bb : dEq (.bl b) (.bl c) m Q ↔ Q (.bl (decide (b = c))) m := Iff.rfl
theorem ne_bb : dNe (.bl b) (.bl c) m Q ↔ Q (.bl (!decide (b = c))) m := Iff.rfl
end
theorem cut_to {α : Type} (xs : List α) (k : Nat) : cutD xs none (some (k : Int)) = xs.take k := by
  unfold cutD
  rw [HT.sIx_nat, HT.sIx_none]
  by_cases h : k ≤ xs.length
  · rw [Nat.min_eq_left h]
    simp
  · rw [Nat.min_eq_right (by omega)]
    have e : xs.take k = xs := List.take_of_length_le (by omega)
    rw [e]
    simp
theorem mul_small {i j : Int} (h : -(2 ^ 64) < j ∧ j < 2 ^ 64) : DL.MulOk i j := .inl (.inr h)
theorem div_ok {i j : Int} (h : 0 < j) (hb : j ≤ 1000000000) : CDivW i j := wide_div h (b := 40) (by omega) (by decide) (by decide)
theorem rng_map (lo : Int) (n : Nat) (f : D → D) : (rngD lo n).map f = (List.range n).map fun (k : Nat) => f (.int (lo + (k : Int))) := by
  unfold rngD
  rw [List.map_map]
  rfl
theorem rng_mem {lo : Int} {n : Nat} {x : D} (h : x ∈ rngD lo n) : ∃ k : Nat, k < n ∧ x = .int (lo + (k : Int)) := by
  unfold rngD at h
  obtain ⟨k, hk, rfl⟩ := List.mem_map.mp h
  exact ⟨k, List.mem_range.mp hk, rfl⟩
theorem lc_rng {i : Nat} {vs : List Nat} {te : DTE} {r : DSt} {m : M} {lo : Int} {n : Nat} {Q : List D → M → Prop} (f : Nat → D) (hz : n ≤ sizeLine) (h : ∀ k : Nat, k < n → ∀ Q' : D → M → Prop, Q' (f k) m → te ((wipeD r vs).set i (some (.int (lo + (k : Int))))) m Q') (q : Q ((List.range n).map f) m) : dLcL (.one i) vs dYes te (rngD lo n) [] r m Q := by
  refine lc_pure (fun x => match x with | .int j => f (j - lo).toNat | _ => .non) (by rw [rngD_len]; simpa using hz) (fun x hx => ?_) ?_
  · obtain ⟨k, hk, rfl⟩ := rng_mem hx
    refine ⟨_, rfl, fun Q' q' => h k hk Q' ?_⟩
    have e : (lo + (k : Int) - lo).toNat = k := by omega
    dsimp only at q'
    rw [e] at q'
    exact q'
  · rw [rng_map, List.nil_append]
    have e : ((List.range n).map fun (k : Nat) => f (lo + (k : Int) - lo).toNat) = (List.range n).map f := by
      congr 1
      funext k
      congr 1
      omega
    dsimp only
    rw [e]
    exact q
section
variable {x y z u : D} {xs : List D}
theorem at0 : atI (x :: xs) 0 = some x := atI_nat (j := 0) rfl
theorem at1 : atI (x :: y :: xs) 1 = some y := atI_nat (j := 1) rfl
theorem at2 : atI (x :: y :: z :: xs) 2 = some z := atI_nat (j := 2) rfl
theorem at3 : atI (x :: y :: z :: u :: xs) 3 = some u := atI_nat (j := 3) rfl
theorem ix30 : ixN 3 0 = some 0 := by decide
theorem ix31 : ixN 3 1 = some 1 := by decide
theorem ix32 : ixN 3 2 = some 2 := by decide
theorem ix20 : ixN 2 0 = some 0 := by decide
theorem ix21 : ixN 2 1 = some 1 := by decide
theorem ix10 : ixN 1 0 = some 0 := by decide
end
section
variable {K : PySem.W.Frag} {m : M} {Q : D → M → Prop} {d : D}
theorem isi_ty {T S : String} {b : Bool} (h1 : tyName m d = some S) (h2 : PySem.W.kitOne K (.type S) (.type T) = some b) : dIsi K [d, .ty T] m Q ↔ Q (.bl b) m := by
  constructor
  · rintro ⟨d', c, b', e, ⟨u, hu, hd⟩, q⟩
    cases e
    rcases hu with ⟨T', e1, rfl⟩ | ⟨C, e1, rfl⟩
    · cases e1
      rcases hd with ⟨S', e2, e3⟩ | ⟨C, fs, e2, _, _⟩
      · rw [h1] at e2
        cases e2
        rw [h2] at e3
        cases e3
        exact q
      · rw [e2] at h1
        cases h1
    · cases e1
  · exact fun q => ⟨d, .ty T, b, rfl, ⟨_, .inl ⟨T, rfl, rfl⟩, .inl ⟨S, h1, h2⟩⟩, q⟩
theorem isi_ii {i : Int} : dIsi K [.int i, .ty "int"] m Q ↔ Q (.bl true) m := isi_ty rfl rfl
theorem isi_ib {i : Int} : dIsi K [.int i, .ty "bool"] m Q ↔ Q (.bl false) m := isi_ty rfl rfl
theorem isi_ll {xs : List D} : dIsi K [.lst xs, .ty "list"] m Q ↔ Q (.bl true) m := isi_ty rfl rfl
theorem isi_bb {b : Bool} : dIsi K [.bl b, .ty "bool"] m Q ↔ Q (.bl true) m := isi_ty rfl rfl
theorem isi_ss {x : Str} : dIsi K [.str x, .ty "str"] m Q ↔ Q (.bl true) m := isi_ty rfl rfl
theorem isi_tt {xs : List D} : dIsi K [.tup xs, .ty "tuple"] m Q ↔ Q (.bl true) m := isi_ty rfl rfl
theorem isi_is {i : Int} : dIsi K [.int i, .ty "str"] m Q ↔ Q (.bl false) m := isi_ty rfl rfl
theorem isi_si {x : Str} : dIsi K [.str x, .ty "int"] m Q ↔ Q (.bl false) m := isi_ty rfl rfl
end
end DL

set_option Elab.async false
set_option linter.all false
set_option maxRecDepth 100000
set_option maxHeartbeats 4000000
namespace DL
open PySem PySem.Spec PyProof.Rows L2
open He (ga ma eqO eqO_ok ba)
section
variable {X : Cx} {k : Nat} {f C : Addr} {fd : FuncData} {ps : List Str}
variable {sp : DSp}
end
section
variable {m : M} {Q : D → M → Prop} {i : Int}
theorem eq_nn : dEq .non .non m Q ↔ Q (.bl true) m := Iff.rfl
theorem ne_nn : dNe .non .non m Q ↔ Q (.bl false) m := Iff.rfl
end
end DL

set_option Elab.async false
set_option linter.all false
set_option maxRecDepth 100000
set_option maxHeartbeats 4000000
namespace DL
open PySem PySem.Spec PyProof.Rows L2
open He (ga ma eqO eqO_ok ba)
section
variable {X : Cx} {W : WX} {WD : DWX} {x : Str} {p pos pos' : Pos} {C : Addr} {bmB : List Value} {B newId initId : String}
def dRaise0 (C : Addr) (WD : DWX) : DTS := fun _ r m => WD ⟨C, []⟩ r m
structure ExC (K : PySem.W.Frag) (C : Addr) : Prop where
  q : PySem.W.excIn K C [.type "ValueError", .type "Exception", .type "BaseException", .type "object"] "ValueError.__new__" = true
  kC : PySem.W.keepIn K (.ref C) = true
  exC : PySem.W.subIn K (.ref C) (.type "BaseException") = some true
  tyC : PySem.W.typeIn K (.ref C) = some (.type "type")
end
def tSts (K : PySem.W.Frag) : List (Str × Nat) → TS
  | [] => tNext
  | (f, i) :: r => tSeq (tOst K f (tVar 0) (tVar i)) (tSts K r)
theorem sts_more {K : PySem.W.Frag} {C a dx : Addr} (T : OexC K C) : ∀ (l : List (Str × Nat)) (ws : List V) (σ : L2.St) (H : Hp) (fs : List (Str × V)) (E : Ends), (∀ q ∈ l, PySem.W.findIn K (.ref C) q.1 = some none) → l.length = ws.length → (∀ (j : Nat) (i : Nat × V), (l.map (·.2)).zip ws = (l.map (·.2)).zip ws → ((l.map (·.2)).zip ws)[j]? = some i → σ[i.1]? = some (some i.2)) → σ[0]? = some (some (.ref a)) → H a = some (exo a C (some dx)) → dx ≠ a → H dx = some (exd dx fs) → fs.length + l.length ≤ 900 →
    E.nx σ (upd H dx (exd dx (((l.map (·.1)).zip ws).reverse ++ fs))) → tSts K l E σ H
  | [], ws, σ, H, fs, E, _, hl, _, _, ha, _, hd, _, h => by
    have e : upd H dx (exd dx fs) = H := by
      funext b
      unfold upd
      by_cases hb : b = dx
      · rw [if_pos hb, hb, hd]
      · rw [if_neg hb]
    show E.nx σ H
    simpa [e] using h
  | (f, i) :: l, [], σ, H, fs, E, _, hl, _, _, _, _, _, _, _ => by cases hl
  | (f, i) :: l, w :: ws, σ, H, fs, E, hn, hl, hs, h0, ha, hne, hd, hz, h => by
    refine ⟨w, hs 0 (i, w) rfl rfl, .ref a, h0, a, C, rfl, T, hn _ List.mem_cons_self, .inr ⟨dx, fs, ha, hd, by omega, ?_⟩⟩
    refine sts_more T l ws σ _ _ E (fun q hq => hn q (List.mem_cons_of_mem _ hq)) (by simpa using hl) (fun j k _ hk => hs (j + 1) k rfl (by simpa using hk)) h0 (by rw [upd_ne (fun z => hne z.symm)]; exact ha) hne upd_same (by simp at hz ⊢; omega) ?_
    have e : ∀ o o', upd (upd H dx o) dx o' = upd H dx o' := fun o o' => by
      funext b
      unfold upd
      by_cases hb : b = dx
      · rw [if_pos hb, if_pos hb]
      · rw [if_neg hb, if_neg hb, if_neg hb]
    rw [e]
    simpa using h
theorem zipIdx_fst : ∀ (l : List Str) (n : Nat), (l.zipIdx n).map (·.1) = l
  | [], _ => rfl
  | x :: l, n => by simp
theorem zip_slots : ∀ (l : List Str) (n : Nat) (ws : List V), l.length = ws.length → ∀ (j : Nat) (i : Nat × V), (((l.zipIdx n).map (·.2)).zip ws)[j]? = some i → i.1 = n + j ∧ ws[j]? = some i.2
  | [], _, _, _, j, i, h => by simp at h
  | x :: l, n, [], hl, _, _, _ => by cases hl
  | x :: l, n, w :: ws, hl, 0, i, h => by
    simp at h
    subst h
    simp
  | x :: l, n, w :: ws, hl, j + 1, i, h => by
    have := zip_slots l (n + 1) ws (by simpa using hl) j i (by simpa using h)
    refine ⟨by omega, by simpa using this.2⟩
theorem fn_exc {P : Program} {w : World} {K : PySem.W.Frag} {mg : Str → Option Value} {base : Heap} {x qual : Str} {params : Arguments} {body : List Stmt} {scope : Scope} {dvs : List V} {kws : List (Str × V)} {fI C : Addr} {fd : FuncData} {N ps : List Str} {f : Str} {fs : List Str} {k : Nat}
    (F : FunD K x qual params body scope dvs kws fI fd) (S : FnScope N ps scope) (T : OexC K C) (hn : ∀ g ∈ f :: fs, PySem.W.findIn K (.ref C) g = some none) (hps : ps.length = fs.length + 2) (hz : fs.length ≤ 100)
    (hb : ∀ (cdv : Value) (A : Around) (outer : List Env) (s : Shared) (H : Hp) (E : XK), PSs (CXo P w K mg base N qual scope fI cdv A outer s H E) body (tSts K ((f :: fs).zipIdx 1))) : FnOk P w K mg base (L2.CX P w) (k + 1) fI fd ps (spX C (f :: fs)) := by
  refine F.ok S (fun vs H Q E h => ?_) (fun cdv A outer s H vs Q E hr h => ?_)
  · obtain ⟨a, ws, rfl, hl, _⟩ := h
    simp at hl ⊢
    omega
  · obtain ⟨a, ws, rfl, hl, ha, q⟩ := h
    refine ⟨_, hb cdv A outer s H E, ?_⟩
    obtain ⟨w, ws, rfl⟩ : ∃ w r, ws = w :: r := by
      cases ws with
      | nil => cases hl
      | cons w r => exact ⟨w, r, rfl⟩
    have hlen : ws.length = fs.length := by simpa using hl
    have hσ : ∀ (j : Nat) (v : V), (.ref a :: w :: ws)[j]? = some v → (L2.start N (.ref a :: w :: ws))[j]? = some (some v) := fun j v e => by
      unfold L2.start
      have hj : j < (V.ref a :: w :: ws).length := by
        rcases Nat.lt_or_ge j (V.ref a :: w :: ws).length with h | h
        · exact h
        · rw [List.getElem?_eq_none h] at e
          cases e
      rw [List.getElem?_append_left (by rw [List.length_map]; exact hj), List.getElem?_map, e]
      rfl
    refine ⟨w, hσ 1 w rfl, .ref a, hσ 0 _ rfl, a, C, rfl, T, hn f List.mem_cons_self, .inl ⟨ha, fun dx hd hne => ?_⟩⟩
    refine sts_more T (fs.zipIdx 2) ws _ _ [(f, w)] _ (fun g hg => hn _ (List.mem_cons_of_mem _ ?_)) (by simp [hlen]) (fun j i _ e => ?_) (hσ 0 _ rfl) upd_same hne (by rw [upd_ne hne]; exact upd_same) (by simp; omega) ?_
    · have := List.mem_map_of_mem (f := (·.1)) hg
      rw [zipIdx_fst] at this
      exact this
    · obtain ⟨e1, e2⟩ := zip_slots fs 2 ws hlen.symm j i e
      rw [e1]
      refine hσ _ _ ?_
      rw [show 2 + j = j + 2 by omega]
      simpa using e2
    · have e := q dx hd hne
      rw [zipIdx_fst]
      have e2 : upd (upd (upd H dx (exd dx [(f, w)])) a (exo a C (some dx))) dx (exd dx ((fs.zip ws).reverse ++ [(f, w)])) = upd (upd H dx (exd dx ((f :: fs).zip (w :: ws)).reverse)) a (exo a C (some dx)) := by
        funext b
        unfold upd
        by_cases h1 : b = dx
        · subst h1
          rw [if_pos rfl, if_neg hne, if_pos rfl]
          simp
        · rw [if_neg h1]
          by_cases h2 : b = a
          · rw [if_pos h2, if_pos h2]
          · rw [if_neg h2, if_neg h2, if_neg h1, if_neg h1]
      rw [e2]
      exact e
section
variable {X : Cx} {W : WX} {WD : DWX} {x : Str} {p pos pos' : Pos} {C fI : Addr} {fs ps : List Str} {k : Nat} {fd : FuncData} {e : Expr} {es : List Expr} {ta : DTA}
def dRaise (C : Addr) (fs : List Str) (WD : DWX) (ta : DTA) : DTS := fun _ r m => ta r m fun ds m1 => ds.length = fs.length ∧ WD ⟨C, (fs.zip ds).reverse⟩ r m1
theorem rpf_zip {K : PySem.W.Frag} {G : Hp} : ∀ {fs : List Str} {ds : List D} {vs : List V}, Rps K G ds vs → Rpf K G (fs.zip ds) (fs.zip vs)
  | [], _, _, _ => .nil
  | _ :: _, _, _, .nil => .nil
  | _ :: _, _, _, .cons r rs => .cons r (rpf_zip rs)
theorem rpf_app {K : PySem.W.Frag} {G : Hp} : ∀ {a b : List (Str × D)} {u v : List (Str × V)}, Rpf K G a u → Rpf K G b v → Rpf K G (a ++ b) (u ++ v)
  | _, _, _, _, .nil, h => h
  | _, _, _, _, .cons r t, h => .cons r (rpf_app t h)
theorem rpf_rev {K : PySem.W.Frag} {G : Hp} : ∀ {a : List (Str × D)} {u : List (Str × V)}, Rpf K G a u → Rpf K G a.reverse u.reverse
  | _, _, .nil => .nil
  | _, _, .cons r t => by
    rw [List.reverse_cons, List.reverse_cons]
    exact rpf_app (rpf_rev t) (.cons r .nil)
theorem ds_raise (T : OexC X.K C) (iC : PySem.W.findIn X.K (.ref C) "__init__" = some (some (.ref fI))) (tI : PySem.W.typeIn X.K (.ref fI) = some (.type "function")) (F1 : FnOk X.prog X.w X.K X.mg X.base (L2.CX X.prog X.w) k fI fd ps (spX C fs)) (hr : Room (k + 1) X.A) (hb : Binds X.K fd ps []) (hg : Gl X x) (hm : X.mg x = some (.ref C)) (hz : fs.length ≤ 100) (hc : X.calm = true) (tk : Takes X W) (ha : DA X W WD (e :: es) ta)
    (hdb : (x == ("__debug__" : Str)) = false := by decide) (he : starEach (e :: es) X.env = (false, eval e X.env) :: starEach es X.env := by rfl) (hpl : (backTo pos (starEach es X.env)).any (·.1) = false := by rfl) :
    DS X W WD (.Raise (some (.Call (.Name x p) (e :: es) [] pos)) none pos') (dRaise C fs WD ta) := by
  refine PS.imp (ps_raise hc tk (pmk_oex T iC tI F1 hr hb .nil passL hg hm ha hdb he hpl)) fun E σ H h => ?_
  obtain ⟨G, F, r, m, DD, x, t, k⟩ := h
  refine ⟨G, F, r, m, _, x, t, fun G1 H1 m1 ds vs e1 r1 p1 t1 => ?_⟩
  obtain ⟨hl, t1⟩ := t1
  have hlv : vs.length = fs.length := by rw [← p1.length]; exact hl
  refine ⟨by omega, fun a ha => ⟨a, vs, by simp, hlv, upd_same, fun dx hd hne => ⟨rfl, dx, _, upd_same, by rw [upd_ne hne]; exact upd_same, by rw [upd_ne hne] at hd; exact hd, ?_⟩⟩⟩
  have hd1 : H1 dx = none := by rw [upd_ne hne] at hd; exact hd
  have eH : upd (del (upd (upd (upd H1 a (exo a C none)) dx (exd dx (fs.zip vs).reverse)) a (exo a C (some dx))) a) dx (.xd (fs.zip vs).reverse) = upd H1 dx (.xd (fs.zip vs).reverse) := by
    funext b
    unfold upd del
    by_cases h1 : b = dx
    · rw [if_pos h1, if_pos h1]
    · rw [if_neg h1, if_neg h1]
      by_cases h2 : b = a
      · rw [if_pos h2, h2, ha]
      · rw [if_neg h2]
        dsimp only
        rw [if_neg h2, if_neg h1, if_neg h2]
  rw [eH]
  obtain ⟨s2, r2⟩ := r1.froz (o := .xd (fs.zip vs).reverse) hd1
  exact x.lx _ _ m1 r σ C _ (some dx) (e1.trans s2) r2 ((x.rs.mono e1).mono s2) (.inr ⟨dx, _, rfl, upd_same, rpf_rev (rpf_zip (p1.mono s2))⟩) t1
end
section
variable {X : Cx} {W : WX} {WD : DWX} {x n : Str} {c : Addr} {i : Nat} {body suite : List Stmt} {b₀ : Stmt} {np pos pos' : Pos} {tb : DWX → DTS}
def dCatch (K : PySem.W.Frag) (c : Addr) (ts : DTS) (WD : DWX) (DD : DEnds) : DWX := fun x r m => ∃ b, PySem.W.exmOne K (.ref x.C) (.ref c) = some b ∧ (b = true → ts DD r m) ∧ (b = false → WD x r m)
def dTry (K : PySem.W.Frag) (c : Addr) (tb : DWX → DTS) (ts : DTS) (WD : DWX) : DTS := fun DD r m => tb (dCatch K c ts WD DD) DD r m
def dCatchAs (K : PySem.W.Frag) (c : Addr) (i : Nat) (ts : DTX) (WD : DWX) (DD : DEnds) : DWX := fun x r m => ∃ b, PySem.W.exmOne K (.ref x.C) (.ref c) = some b ∧
  (b = true → ∀ a d, m a = none → ts a x.C d { nx := fun r' m' => DD.nx (r'.set i none) m', rt := DD.rt, bk := fun r' m' => DD.bk (r'.set i none) m', ct := fun r' m' => DD.ct (r'.set i none) m' } (r.set i (some (.exn a d x.fs))) m) ∧ (b = false → WD x r m)
def dTryAs (K : PySem.W.Frag) (c : Addr) (i : Nat) (tb : DWX → DTS) (ts : DTX) (WD : DWX) : DTS := fun DD r m => tb (dCatchAs K c i ts WD DD) DD r m
theorem rp_exn {K : PySem.W.Frag} {G : Hp} {a : Addr} {d : Option Addr} {fs : List (Str × D)} (h : RpX K G d fs) : Rp K G (.exn a d fs) (.ref a) := by
  rcases h with ⟨rfl, rfl⟩ | ⟨dd, fv, rfl, h1, h2⟩
  · exact .exn0 a
  · exact .exnS h1 h2
theorem ds_try_as {ts : DTX} (hs : X.stack = X.env :: X.outer) (hf : X.env.frame = some X.env.locals) (hN : X.N.Nodup) (hi : X.N[i]? = some n) (hln : X.env.kindOf n = some .local) (hc : X.mg x = some (.ref c)) (hg : Gl X x) (tk : Takes X W)
    (hb : ∀ (W : WX) (WD : DWX) (pn : List (Addr × Obj)) (xe : Value → Shared → Prop), Takes (X.tr pn xe) W → PassesOwn (model X.prog X.w) X.A X.env xe → DSs (X.tr pn xe) W WD body (tb WD))
    (hsu : ∀ (a : Addr) (oe : Obj) (C : Addr) (d : Option Addr) (pn : List (Addr × Obj)), Zc (.ref C) d oe → (∃ vs, oe.data = .fields vs) → DSs (X.suite a ((a, oe) :: pn)) W0 WD0 (b₀ :: suite) (ts a C d)) (hdb : (x == ("__debug__" : Str)) = false := by decide) :
    DS X W WD (.Try body [.ExceptHandler (some (.Name x np)) (some n) (b₀ :: suite) pos'] [] [] pos) (dTryAs X.K c i tb ts WD) := by
  refine PS.imp (ps_try_as (i := i) (tb := fun W E σ H => ∃ WD', upS X.K W WD' (tb WD') E σ H) (ts := fun a cls d E σ H => ∃ C, cls = .ref C ∧ upS X.K W0 WD0 (ts a C d) E σ H) hs hf hN hi hln ⟨hg, hdb, .inl hc⟩ tk (fun W pn xe tk' hp' => ⟨fun pins s σ H E I h => ?_⟩) (fun a oe cls d pn hz hv => ⟨fun pins s σ H E I h => ?_⟩)) fun E σ H h => ?_
  · obtain ⟨WD', h⟩ := h
    exact (hb W WD' pn xe tk' hp').run pins s σ H E I h
  · obtain ⟨C, rfl, h⟩ := h
    exact (hsu a oe C d pn hz hv).run pins s σ H E I h
  · obtain ⟨G, F, r, m, DD, x, t, k⟩ := h
    refine ⟨dCatchAs X.K c i ts WD DD, G, F, r, m, DD, ⟨x.rep, x.rs, fun G' H' m' r' s' C fs d e r1 rs1 rx wd => ?_⟩, t, k⟩
    obtain ⟨b, eb, h1, h2⟩ := wd
    refine ⟨b, eb, fun hb a ha => ⟨C, rfl, G', F, _, m', _, ⟨r1, rs1.set (rp_exn rx), Lx.no⟩, h1 hb a d (r1.mfree ha), ?_⟩, fun hb => x.lx G' H' m' r' s' C fs d e r1 rs1 rx (h2 hb)⟩
    have k' := k.mono e
    exact ⟨fun G2 H2 m2 r2 s2 e2 rep2 rs2 t2 => k'.nx G2 H2 m2 _ _ e2 rep2 (rs_none rs2 i none) t2, k'.rt, fun G2 H2 m2 r2 s2 e2 rep2 rs2 t2 => k'.bk G2 H2 m2 _ _ e2 rep2 (rs_none rs2 i none) t2, fun G2 H2 m2 r2 s2 e2 rep2 rs2 t2 => k'.ct G2 H2 m2 _ _ e2 rep2 (rs_none rs2 i none) t2⟩
def dXf (a cls : Addr) (d : Option Addr) (C : Addr) (f : Str) (te : DTE) : DTE := fun r m Q => te r m fun v m1 => ∃ fs y, v = .exn a d fs ∧ cls = C ∧ fs.lookup f = some y ∧ Q y m1
theorem rpf_look {K : PySem.W.Frag} {G : Hp} {f : Str} : ∀ {a : List (Str × D)} {u : List (Str × V)} {y : D}, Rpf K G a u → a.lookup f = some y → ∃ v, u.lookup f = some v ∧ Rp K G y v
  | _, _, _, .nil, h => by cases h
  | _, _, y, .cons (n := n) (d := d) (v := v) r t, h => by
    rw [List.lookup_cons] at h ⊢
    cases e : f == n with
    | true =>
      rw [e] at h
      cases h
      exact ⟨v, rfl, r⟩
    | false =>
      rw [e] at h
      exact rpf_look t h
end
theorem oex_in {K : PySem.W.Frag} {C : Addr} (q : oexIn K C = true) : ∃ nm q N bs bm sn sub ab col dd k0 k1 k2 k3 k5, K.lookup C = some (excClassObj nm q C N bs bm true sn sub ab col dd k0 k1 k2 k3 k5 "ValueError.__new__") ∧ PySem.HandSPX.refsVE bm = true := by
  unfold oexIn at q
  split at q
  · rename_i dd cd sl ho
    split at q
    · rename_i C' bm k0 k1 k2 k3 n k5 hm hs
      simp only [Bool.and_eq_true, beq_iff_eq, Bool.not_eq_true'] at q
      obtain ⟨rfl, rfl, hdel, hd, hr⟩ := q
      obtain ⟨nm, bs, mro, ns, qn, hd', sn, sub, ab, col, del⟩ := cd
      dsimp only at hm hdel hd
      subst hm hdel hd
      have hsl : sl = #[k0, k1, k2, k3, some (.builtin "ValueError.__new__"), k5] := by
        obtain ⟨l⟩ := sl
        simp only at hs
        rw [hs]
      subst hsl
      exact ⟨nm, qn, ns, bs, bm, sn, sub, ab, col, dd, k0, k1, k2, k3, k5, ho, hr⟩
    · cases q
  · cases q
theorem oex_of {K : Fr0} {C : Str} (h : oexB C K = true) : OexC K (ga K C) ∧ PySem.W.findIn K (.ref (ga K C)) "__init__" = some (some (.ref (ma K (ga K C) "__init__"))) ∧ PySem.W.typeIn K (.ref (ma K (ga K C) "__init__")) = some (.type "function") := by
  obtain ⟨h1, h⟩ := ba h
  obtain ⟨h2, h⟩ := ba h
  obtain ⟨h3, h⟩ := ba h
  obtain ⟨h4, h⟩ := ba h
  obtain ⟨h5, h⟩ := ba h
  obtain ⟨h6, h7⟩ := ba h
  exact ⟨⟨oex_in h1, eqO_ok h2, of_decide_eq_true h4, of_decide_eq_true h5, h3⟩, eqO_ok h6, of_decide_eq_true h7⟩
end DL

set_option Elab.async false
set_option linter.all false
set_option maxRecDepth 100000
set_option maxHeartbeats 4000000
namespace DL
open PySem PySem.Spec PyProof.Rows L2
open He (ga ma eqO eqO_ok ba)
section
variable {X : Cx} {W : WX} {WD : DWX} {a b e tg : Expr} {ta tb : DTE} {tr : DTR} {p pos : Pos}
def drR1 (ta : DTE) : DTR := fun r m Q => ta r m fun d m1 => ∃ n, d = .int n ∧ Q 0 n m1
def drR2 (ta tb : DTE) : DTR := fun r m Q => ta r m fun d m1 => tb r m1 fun d2 m2 => ∃ i j, d = .int i ∧ d2 = .int j ∧ Q i j m2
def revD (lo : Int) (n : Nat) : List D := (List.range n).map fun (k : Nat) => D.int (lo + (n : Int) - 1 - (k : Int))
def diRv (tr : DTR) : DTI := fun r m Q => tr r m fun a b m1 => (-(2 ^ 62) ≤ a ∧ a < 2 ^ 62 ∧ -(2 ^ 62) ≤ b ∧ b < 2 ^ 62) ∧ Q (revD a (b - a).toNat) m1
def dListR (mt : Bool) (tr : DTR) : DTE := fun r m Q => tr r m fun a b m1 => RgOk a b ∧ mkL mt (rngD a (b - a).toNat) m1 Q
end
structure SMet (K : PySem.W.Frag) (C : Addr) (m : Str) (p g : Addr) : Prop where
  rd : ClX.CRead K C (.type "type")
  at_ : PySem.W.findCls K (.ref C) (.type "type") m = some (.get (.builtin "staticmethod.__get__") (.ref p) .none (.ref C))
  rc : ∃ rest, PySem.W.recIn K p "staticmethod" = some (.ref g :: rest)
section
variable {X : Cx} {W : WX} {WD : DWX} {k : Nat} {C p g : Addr} {fd : FuncData} {ps : List Str} {sp : DSp} {x mn : Str} {np pos apos : Pos} {e : Expr} {es : List Expr} {t : DTA} {pl : Sem Bool}
end
section
variable {X : Cx} {W : WX} {WD : DWX} {k : Nat} {f C : Addr} {fd : FuncData} {ps : List Str} {sp : DSp} {a b : Expr} {ta tb : DTE} {pos : Pos}
def dAddO (C : Addr) (sp : DSp) (WD : DWX) (ta tb : DTE) : DTE := fun r m Q => ta r m fun x m1 => tb r m1 fun y m2 => ∃ fs gs, insOf m2 x = some (C, fs) ∧ insOf m2 y = some (C, gs) ∧ sp [x, y] m2 (fun d m' => (∃ C fs, d = .ins C fs) ∧ Q d m') fun x m2 => WD x r m2
def dInO (C : Addr) (sp : DSp) (b : Bool) : DR2 := fun x y m Q => ∃ fs, insOf m y = some (C, fs) ∧ sp [y, x] m (fun d m' => ∃ c : Bool, d = .bl c ∧ Q (.bl (c != b)) m') fun _ _ => False
end
end DL

set_option Elab.async false
set_option linter.all false
set_option maxRecDepth 100000
set_option maxHeartbeats 4000000
namespace DL
open PySem PySem.Spec PyProof.Rows L2
def clB : Nat → D → Bool
  | _, .non => true
  | _, .int _ => true
  | _, .str x => PyData.strOk x
  | n + 1, .lst xs => xs.all (clB n)
  | n + 1, .tup xs => xs.all (clB n)
  | _, _ => false
theorem cl_all {n : Nat} : ∀ {xs : List D}, (∀ x ∈ xs, ∃ p, toP x = some p ∧ p.canLay0 = true ∧ p.depth ≤ n) → ∃ ps, toPs xs = some ps ∧ PyData.canLayAll0 ps = true ∧ PyData.depthAll ps ≤ n
  | [], _ => ⟨[], by simp [toPs], rfl, by simp [PyData.depthAll]⟩
  | x :: xs, h => by
    obtain ⟨p, e, c, d⟩ := h x List.mem_cons_self
    obtain ⟨ps, e2, c2, d2⟩ := cl_all (xs := xs) fun y hy => h y (List.mem_cons_of_mem _ hy)
    refine ⟨p :: ps, by rw [toPs, e, e2]; rfl, ?_, ?_⟩
    · show (PyData.canLay0 p && PyData.canLayAll0 ps) = true
      rw [c, c2]; rfl
    · show max (PyData.depth p) (PyData.depthAll ps) ≤ n
      omega
theorem cl_toP : ∀ (n : Nat) (x : D), clB n x = true → ∃ p, toP x = some p ∧ p.canLay0 = true ∧ p.depth ≤ n
  | n, .non, _ => ⟨.none, by rw [toP], rfl, by simp [PyData.depth]⟩
  | n, .int i, _ => ⟨.int i, by rw [toP], rfl, by simp [PyData.depth]⟩
  | n, .str x, h => by
    refine ⟨.str x, by rw [toP], ?_, by simp [PyData.depth]⟩
    cases n <;> exact h
  | n + 1, .lst xs, h => by
    obtain ⟨ps, e, c, d⟩ := cl_all (n := n) fun x hx => cl_toP n x (List.all_eq_true.mp h x hx)
    exact ⟨.list ps, by rw [toP, e]; rfl, c, by show PyData.depthAll ps + 1 ≤ n + 1; omega⟩
  | n + 1, .tup xs, h => by
    obtain ⟨ps, e, c, d⟩ := cl_all (n := n) fun x hx => cl_toP n x (List.all_eq_true.mp h x hx)
    exact ⟨.tuple ps, by rw [toP, e]; rfl, c, by show PyData.depthAll ps + 1 ≤ n + 1; omega⟩
  | 0, .lst _, h => by cases h
  | 0, .tup _, h => by cases h
  | 0, .bl _, h => by cases h
  | 0, .ty _, h => by cases h
  | 0, .ref _, h => by cases h
  | 0, .rdl _, h => by cases h
  | 0, .ins _ _, h => by cases h
  | 0, .exn _ _ _, h => by cases h
  | 0, .dki _, h => by cases h
  | 0, .dti _, h => by cases h
  | 0, .clo _ _ _ _ _, h => by cases h
  | 0, .obj _ _, h => by cases h
  | n + 1, .bl _, h => by cases h
  | n + 1, .ty _, h => by cases h
  | n + 1, .ref _, h => by cases h
  | n + 1, .rdl _, h => by cases h
  | n + 1, .ins _ _, h => by cases h
  | n + 1, .exn _ _ _, h => by cases h
  | n + 1, .dki _, h => by cases h
  | n + 1, .dti _, h => by cases h
  | n + 1, .clo _ _ _ _ _, h => by cases h
  | n + 1, .obj _ _, h => by cases h
theorem toPs_cons {x : D} {xs : List D} {p : List PyData} (e : toPs (x :: xs) = some p) : ∃ a as, p = a :: as ∧ toP x = some a ∧ toPs xs = some as := by
  rw [toPs] at e
  cases e1 : toP x with
  | none => rw [e1] at e; cases e
  | some a =>
    rw [e1] at e
    cases e2 : toPs xs with
    | none => rw [e2] at e; cases e
    | some as => rw [e2] at e; cases e; exact ⟨a, as, rfl, rfl, rfl⟩
theorem cl_eqAll {n : Nat} (ih : ∀ (x y : D) (p q : PyData), clB n x = true → clB n y = true → toP x = some p → toP y = some q → (PyData.eqv p q = true ↔ x = y)) : ∀ (xs ys : List D) (ps qs : List PyData), xs.all (clB n) = true → ys.all (clB n) = true → toPs xs = some ps → toPs ys = some qs → (PyData.eqvAll ps qs = true ↔ xs = ys)
  | [], [], ps, qs, _, _, e1, e2 => by
    rw [toPs] at e1 e2; cases e1; cases e2
    exact ⟨fun _ => rfl, fun _ => by simp [PyData.eqvAll]⟩
  | [], y :: ys, ps, qs, _, _, e1, e2 => by
    rw [toPs] at e1; cases e1
    obtain ⟨a, as, rfl, _, _⟩ := toPs_cons e2
    simp [PyData.eqvAll]
  | x :: xs, [], ps, qs, _, _, e1, e2 => by
    rw [toPs] at e2; cases e2
    obtain ⟨a, as, rfl, _, _⟩ := toPs_cons e1
    simp [PyData.eqvAll]
  | x :: xs, y :: ys, ps, qs, c1, c2, e1, e2 => by
    obtain ⟨a, as, rfl, f1, f2⟩ := toPs_cons e1
    obtain ⟨b, bs, rfl, g1, g2⟩ := toPs_cons e2
    rw [List.all_cons, Bool.and_eq_true] at c1 c2
    have h1 := ih x y a b c1.1 c2.1 f1 g1
    have h2 := cl_eqAll ih xs ys as bs c1.2 c2.2 f2 g2
    rw [PyData.eqvAll, Bool.and_eq_true, h1, h2, List.cons.injEq]
theorem toP_lst {xs : List D} {p : PyData} (e : toP (.lst xs) = some p) : ∃ ps, p = .list ps ∧ toPs xs = some ps := by
  rw [toP] at e
  cases q : toPs xs with
  | none => rw [q] at e; cases e
  | some ps => rw [q] at e; cases e; exact ⟨ps, rfl, rfl⟩
theorem toP_tup {xs : List D} {p : PyData} (e : toP (.tup xs) = some p) : ∃ ps, p = .tuple ps ∧ toPs xs = some ps := by
  rw [toP] at e
  cases q : toPs xs with
  | none => rw [q] at e; cases e
  | some ps => rw [q] at e; cases e; exact ⟨ps, rfl, rfl⟩
theorem cl0 {x : D} (h : clB 0 x = true) : x = .non ∨ (∃ i, x = .int i) ∨ ∃ i, x = .str i := by
  cases x with
  | non => exact .inl rfl
  | int i => exact .inr (.inl ⟨i, rfl⟩)
  | str i => exact .inr (.inr ⟨i, rfl⟩)
  | _ => cases h
theorem cl_eqv : ∀ (n : Nat) (x y : D) (p q : PyData), clB n x = true → clB n y = true → toP x = some p → toP y = some q → (PyData.eqv p q = true ↔ x = y) := by
  intro n
  induction n with
  | zero =>
    intro x y p q c1 c2 e1 e2
    rcases cl0 c1 with rfl | ⟨i, rfl⟩ | ⟨i, rfl⟩ <;> rcases cl0 c2 with rfl | ⟨j, rfl⟩ | ⟨j, rfl⟩ <;> (rw [toP] at e1; rw [toP] at e2; cases e1; cases e2; simp [PyData.eqv])
  | succ n ih =>
    intro x y p q c1 c2 e1 e2
    cases x with
    | lst xs =>
      obtain ⟨ps, rfl, f1⟩ := toP_lst e1
      cases y with
      | lst ys =>
        obtain ⟨qs, rfl, f2⟩ := toP_lst e2
        have := cl_eqAll ih xs ys ps qs c1 c2 f1 f2
        rw [PyData.eqv, this, D.lst.injEq]
      | tup ys => obtain ⟨qs, rfl, f2⟩ := toP_tup e2; simp [PyData.eqv]
      | non => rw [toP] at e2; cases e2; simp [PyData.eqv]
      | int _ => rw [toP] at e2; cases e2; simp [PyData.eqv]
      | str _ => rw [toP] at e2; cases e2; simp [PyData.eqv]
      | _ => cases c2
    | tup xs =>
      obtain ⟨ps, rfl, f1⟩ := toP_tup e1
      cases y with
      | lst ys => obtain ⟨qs, rfl, f2⟩ := toP_lst e2; simp [PyData.eqv]
      | tup ys =>
        obtain ⟨qs, rfl, f2⟩ := toP_tup e2
        have := cl_eqAll ih xs ys ps qs c1 c2 f1 f2
        rw [PyData.eqv, this, D.tup.injEq]
      | non => rw [toP] at e2; cases e2; simp [PyData.eqv]
      | int _ => rw [toP] at e2; cases e2; simp [PyData.eqv]
      | str _ => rw [toP] at e2; cases e2; simp [PyData.eqv]
      | _ => cases c2
    | non =>
      rw [toP] at e1; cases e1
      cases y with
      | lst ys => obtain ⟨qs, rfl, f2⟩ := toP_lst e2; simp [PyData.eqv]
      | tup ys => obtain ⟨qs, rfl, f2⟩ := toP_tup e2; simp [PyData.eqv]
      | non => rw [toP] at e2; cases e2; simp [PyData.eqv]
      | int _ => rw [toP] at e2; cases e2; simp [PyData.eqv]
      | str _ => rw [toP] at e2; cases e2; simp [PyData.eqv]
      | _ => cases c2
    | int i =>
      rw [toP] at e1; cases e1
      cases y with
      | lst ys => obtain ⟨qs, rfl, f2⟩ := toP_lst e2; simp [PyData.eqv]
      | tup ys => obtain ⟨qs, rfl, f2⟩ := toP_tup e2; simp [PyData.eqv]
      | non => rw [toP] at e2; cases e2; simp [PyData.eqv]
      | int _ => rw [toP] at e2; cases e2; simp [PyData.eqv]
      | str _ => rw [toP] at e2; cases e2; simp [PyData.eqv]
      | _ => cases c2
    | str i =>
      rw [toP] at e1; cases e1
      cases y with
      | lst ys => obtain ⟨qs, rfl, f2⟩ := toP_lst e2; simp [PyData.eqv]
      | tup ys => obtain ⟨qs, rfl, f2⟩ := toP_tup e2; simp [PyData.eqv]
      | non => rw [toP] at e2; cases e2; simp [PyData.eqv]
      | int _ => rw [toP] at e2; cases e2; simp [PyData.eqv]
      | str _ => rw [toP] at e2; cases e2; simp [PyData.eqv]
      | _ => cases c2
    | _ => cases c1
def vD (m : M) : D → D
  | .ref a => match m a with
    | some (.lst xs) => .lst xs
    | _ => .ref a
  | d => d
theorem vD_ref {m : M} {a : Addr} {xs : List D} (h : m a = some (.lst xs)) : vD m (.ref a) = .lst xs := by
  show (match m a with | some (.lst xs) => D.lst xs | _ => D.ref a) = _
  rw [h]
theorem dat_vD {m : M} {n : Nat} {x : D} (c : clB n (vD m x) = true) : ∃ p, datOf m x = some p ∧ toP (vD m x) = some p ∧ p.canLay0 = true ∧ p.depth ≤ n := by
  obtain ⟨p, e, c1, d1⟩ := cl_toP n _ c
  refine ⟨p, ?_, e, c1, d1⟩
  cases x with
  | ref a =>
    cases q : m a with
    | none =>
      have : vD m (.ref a) = .ref a := by show (match m a with | some (.lst xs) => D.lst xs | _ => D.ref a) = _; rw [q]
      rw [this] at c
      cases n <;> cases c
    | some o =>
      cases o with
      | lst xs =>
        rw [vD_ref q, toP] at e
        dsimp only [datOf]
        rw [q]
        exact e
      | _ =>
        have : vD m (.ref a) = .ref a := by show (match m a with | some (.lst xs) => D.lst xs | _ => D.ref a) = _; rw [q]
        rw [this] at c
        cases n <;> cases c
  | _ => exact e
theorem eqB_data {x y : D} {b : Bool} (h : dEqB x y = some b) : b = true ↔ x = y := by
  cases x <;> cases y <;> first
    | (cases h; done)
    | (cases h; simp)
theorem eqB_vD {m : M} {x y : D} {b : Bool} (h : dEqB x y = some b) : vD m x = x ∧ vD m y = y := by
  cases x <;> cases y <;> first
    | (cases h; done)
    | exact ⟨rfl, rfl⟩
section
variable {m : M} {n : Nat} {x y : D} {Q : D → M → Prop}
theorem dEq_data (hn : n ≤ 64) (c1 : clB n (vD m x) = true) (c2 : clB n (vD m y) = true) (h : ∀ b : Bool, (b = true ↔ vD m x = vD m y) → Q (.bl b) m) : dEq x y m Q := by
  unfold dEq
  cases e : dEqB x y with
  | some b =>
    obtain ⟨h1, h2⟩ := eqB_vD (m := m) e
    exact h b (by rw [h1, h2]; exact eqB_data e)
  | none =>
    obtain ⟨p, e1, f1, l1, d1⟩ := dat_vD c1
    obtain ⟨q, e2, f2, l2, d2⟩ := dat_vD c2
    refine ⟨p, q, e1, e2, ?_, ?_, h _ (cl_eqv n _ _ p q c1 c2 f1 f2)⟩
    · unfold SeqAt.shaped; rw [l1, decide_eq_true (by omega)]; rfl
    · unfold SeqAt.shaped; rw [l2, decide_eq_true (by omega)]; rfl
theorem dNe_data (hn : n ≤ 64) (c1 : clB n (vD m x) = true) (c2 : clB n (vD m y) = true) (h : ∀ b : Bool, (b = true ↔ vD m x = vD m y) → Q (.bl !b) m) : dNe x y m Q := by
  unfold dNe
  cases e : dEqB x y with
  | some b =>
    obtain ⟨h1, h2⟩ := eqB_vD (m := m) e
    exact h b (by rw [h1, h2]; exact eqB_data e)
  | none =>
    obtain ⟨p, e1, f1, l1, d1⟩ := dat_vD c1
    obtain ⟨q, e2, f2, l2, d2⟩ := dat_vD c2
    refine ⟨p, q, e1, e2, ?_, ?_, h _ (cl_eqv n _ _ p q c1 c2 f1 f2)⟩
    · unfold SeqAt.shaped; rw [l1, decide_eq_true (by omega)]; rfl
    · unfold SeqAt.shaped; rw [l2, decide_eq_true (by omega)]; rfl
theorem dEq_same (hn : n ≤ 64) (c1 : clB n x = true) (hx : vD m x = x) (h : Q (.bl true) m) : dEq x x m Q :=
  dEq_data hn (by rw [hx]; exact c1) (by rw [hx]; exact c1) fun b hb => by rw [hb.mpr rfl]; exact h
theorem dNe_same (hn : n ≤ 64) (c1 : clB n x = true) (hx : vD m x = x) (h : Q (.bl false) m) : dNe x x m Q :=
  dNe_data hn (by rw [hx]; exact c1) (by rw [hx]; exact c1) fun b hb => by rw [hb.mpr rfl]; exact h
end
end DL

set_option Elab.async false
set_option linter.all false
set_option maxRecDepth 100000
set_option maxHeartbeats 4000000
namespace DL
open PySem PySem.Spec PyProof.Rows L2
open He (ga ma eqO eqO_ok ba)
def chars (z : Str) : List D := z.cps.toList.map fun c => D.str ⟨#[c]⟩
theorem chars_len (z : Str) : (chars z).length = z.cps.size := by simp [chars]
theorem it_str {K : PySem.W.Frag} {G : Hp} (z : Str) : ItD K (Its z) G (chars z) where
  stop := fun H e => by rw [chars_len]; exact Nat.le_refl _
  go := fun i H hi e => by rw [chars_len] at hi; exact hi
  yld := fun i G1 H F m x H' d e rep hd y => by
    obtain ⟨rfl, c, hc, rfl⟩ := y
    unfold chars at hd
    rw [List.getElem?_map] at hd
    have : z.cps.toList[i]? = some c := by simpa using hc
    rw [this] at hd
    cases hd
    exact ⟨G1, Same.refl G1, rep, .str _⟩
def enumD (ds : List D) : List D := ds.zipIdx.map fun p => .tup [.int (p.2 : Nat), p.1]
section
variable {X : Cx} {W : WX} {WD : DWX} {tg : Expr}
def diS (te : DTE) : DTI := fun r m Q => te r m fun d m1 => match d with
  | .str z => Q (chars z) m1
  | _ => False
theorem di_str {l : Expr} {te : DTE} (hl : DE X W WD l te) : DI X W WD tg l (diS te) := by
  refine PI.imp (pi_str hl) fun σ H R h => ?_
  obtain ⟨G, F, r, m, QD, x, t, k⟩ := h
  refine ⟨G, F, r, m, _, x, t, fun G1 H1 m1 d1 v1 e1 r1 p1 t1 => ?_⟩
  cases d1 with
  | str z => cases p1; exact ⟨_, rfl, k G1 H1 m1 _ _ e1 r1 (it_str z) t1⟩
  | _ => exact t1.elim
def diE (ta : DTA) : DTI := fun r m Q => ta r m fun ds m1 => match ds with
  | [.lst xs] => Q (enumD xs) m1
  | [.rdl xs] => Q (enumD xs) m1
  | _ => False
end
section
variable {X : Cx} {W : WX} {WD : DWX}
def dFmt (te : DTE) : DTE := fun r m Q => te r m fun d m1 => match d with
  | .str y => y.length ≤ sizeLine ∧ Q (.str y) m1
  | .int i => i.natAbs.log2 < 1920 ∧ Q (.str (toString i)) m1
  | _ => False
def dJs : List DTE → Str → DSt → M → (Str → M → Prop) → Prop
  | [], acc, _, m, Q => Q acc m
  | t :: ts, acc, r, m, Q => t r m fun d m1 => ∃ y : Str, d = .str y ∧ (acc ++ y).length ≤ sizeLine ∧ dJs ts (acc ++ y) r m1 Q
def dFStr (ts : List DTE) : DTE := fun r m Q => dJs ts Str.empty r m fun out m1 => Q (.str out) m1
inductive DJ (X : Cx) (W : WX) (WD : DWX) : List Expr → List DTE → Prop where
  | nil : DJ X W WD [] []
  | cons {e : Expr} {t : DTE} {es : List Expr} {ts : List DTE} (h : DE X W WD e t) (r : DJ X W WD es ts) : DJ X W WD (e :: es) (t :: ts)
end
section
variable {K : PySem.W.Frag} {x qual : Str} {params : Arguments} {body : List Stmt} {scope : Scope} {dvs : List V} {kws : List (Str × V)} {f : Addr} {fd : FuncData} {ps : List Str}
end
structure GoodK (P : Program) (w : World) (K : Fr0) (mg : Str → Option Value) (base : Heap) (k : Nat) (x : Option Str) (f : Addr) (ps : List Str) (sp : DSp) (n : Nat) (ks : List Str) (dds : List D) : Prop where
  ex : ∃ fd, FnOk P w K mg base (L2.CX P w) k f fd ps (liftSp K sp) ∧ PySem.W.keepIn K (.ref f) = true ∧ KBn K fd ps n ks (fun us ws => us ++ ws) (fun vs zs => vs ++ zs) ∧ ∃ ds dvs, Vals dvs ds ∧ Binds K fd ps ds ∧ ∀ G, Rps K G dds dvs
  gl : match x with
    | some x => mg x = some (.ref f)
    | none => True
structure GoodD (P : Program) (w : World) (K : Fr0) (mg : Str → Option Value) (base : Heap) (k : Nat) (x : Option Str) (f : Addr) (ps : List Str) (sp : DSp) (dds : List D) : Prop where
  ex : ∃ fd, FnOk P w K mg base (L2.CX P w) k f fd ps (liftSp K sp) ∧ PySem.W.keepIn K (.ref f) = true ∧ Binds K fd ps [] ∧ ∃ ds dvs, Vals dvs ds ∧ Binds K fd ps ds ∧ ∀ G, Rps K G dds dvs
  gl : match x with
    | some x => mg x = some (.ref f)
    | none => True
section
variable {X : Cx} {W : WX} {WD : DWX} {k n : Nat} {f : Addr} {fd : FuncData} {ps ks : List Str} {sp : DSp} {x : Str} {p pos kpos : Pos} {e : Expr} {es : List Expr} {kws : List Keyword} {t tk : DTA} {te : DTE} {nm : Option Str} {g : List Value → List Value → List Value} {gV : List V → List V → List V}
def dCallN (n j : Nat) (sp : DSp) (WD : DWX) (t tk : DTA) : DTE := fun r m Q => t r m fun ds m1 => tk r m1 fun zs m2 => ds.length = n ∧ zs.length = j ∧ sp (ds ++ zs) m2 Q fun x m3 => WD x r m3
end
theorem tup0_of {ad : Fr0 → Addr} {K : Fr0} (h : tup0B ad K = true) (G : Hp) : Rps K G [.tup []] [.ref (ad K)] := by
  unfold tup0B at h
  split at h
  · rename_i od its n sl e
    have hz : its.size = 0 := by simpa using h
    have : its.toList = [] := by
      have : its.toList.length = 0 := by simpa using hz
      exact List.eq_nil_of_length_eq_zero this
    refine .cons (.tup (vs := []) ⟨.inr ⟨_, its, n, e, rfl, rfl, by rw [hz]; exact Nat.zero_le _, ?_⟩, .inl rfl⟩ .nil) .nil
    rw [this]
    exact .nil
  · cases h
end DL

set_option Elab.async false
set_option linter.all false
set_option maxRecDepth 100000
set_option maxHeartbeats 4000000
namespace DL
open PySem PySem.Spec PyProof.Rows L2
theorem Rep.lend {K : PySem.W.Frag} {G H F : Hp} {m : M} {a : Addr} {xs : List D} (r : Rep K G H F m) (h : m a = some (.lst xs)) : ∃ vs, F a = none ∧ Rps K G xs vs ∧ Rep K G H (upd F a (.lst vs)) (mdel m a) := by
  obtain ⟨g1, f1, w, h3, h4⟩ := r.mo a _ h
  obtain ⟨vs, rfl, h4⟩ := h4.ofLst
  refine ⟨vs, f1, h4, r.ext, fun b v e => ?_, fun b v e => ?_, fun b v e => ?_, r.tb, r.gt, nt_upd r.ft ⟨fun _ e => (by cases e), fun _ e => (by cases e), fun _ e => (by cases e)⟩⟩
  · by_cases hb : b = a
    · subst hb; rw [upd_same] at e; rw [← e]; exact h3
    · rw [upd_ne hb] at e; exact r.frm b v e
  · by_cases hb : b = a
    · subst hb; exact g1
    · rw [upd_ne hb] at e; exact r.dis b v e
  · by_cases hb : b = a
    · subst hb; rw [mdel_same] at e; cases e
    · rw [mdel_ne hb] at e
      obtain ⟨h1, h2, u, h5, h6⟩ := r.mo b v e
      exact ⟨h1, by rw [upd_ne hb]; exact h2, u, h5, h6⟩
theorem upd_comm {H : Hp} {a b : Addr} {o u : HO} (h : a ≠ b) : upd (upd H a o) b u = upd (upd H b u) a o := by
  funext c
  unfold upd
  by_cases e : c = a
  · subst e; rw [if_neg h, if_pos rfl, if_pos rfl]
  · by_cases e2 : c = b
    · subst e2; rw [if_pos rfl, if_neg e, if_pos rfl]
    · rw [if_neg e2, if_neg e, if_neg e, if_neg e2]
def dLcM (mt : Bool) (ti : DTE) (c : CT) (vs : List Nat) (tt : DTT) (te : DTE) : DTE := fun r m Q => ti r m fun d m1 => ∃ a xs, d = .ref a ∧ m1 a = some (.lst xs) ∧ dLcL c vs tt te xs [] r (mdel m1 a) fun acc m2 => m2 a = none → mkL mt acc (mset m2 a (.lst xs)) Q
section
variable {X : Cx} {W : WX} {WD : DWX}
theorem lc_upM {K : PySem.W.Frag} {ti : DTE} {c : CT} {vs : List Nat} {tt : DTT} {te : DTE} {mt : Bool} {σ : L2.St} {H : Hp} {Q : VK} (hc : c.in vs) (h : up K W WD (dLcM mt ti c vs tt te) σ H Q) : tLc (fun σ H R => up K W WD ti σ H fun v H1 => ∃ a, v = .ref a ∧ (∃ xs, SqL K H1 a xs) ∧ R (Itl K a) H1) (ctG K c) (upT K W0 WD0 tt) (up K W0 WD0 te) vs σ H Q := by
  obtain ⟨G, F, r, m, QD, x, t, k⟩ := h
  refine ⟨G, F, r, m, _, x, t, fun G1 H1 m1 d1 v1 e1 r1 p1 t1 => ?_⟩
  obtain ⟨a, xs, rfl, hm, t1⟩ := t1
  cases p1
  obtain ⟨us, hFa, rxs, r1'⟩ := r1.lend hm
  have ha1 : H1 a = some (.lst us) := r1'.frm a _ upd_same
  refine ⟨a, rfl, ⟨us, SqL.of ha1⟩, ?_⟩
  intro Dl hD
  have hF : (upd F a (.lst us)) Dl = none := r1'.frm.free hD
  have hDa : Dl ≠ a := fun z => by subst z; rw [ha1] at hD; cases hD
  refine ⟨fun i n H => n = xs.length - i ∧ i ≤ xs.length ∧ ∃ G2 m2 acc va, Same G1 G2 ∧ Rep K G2 H (upd (upd F a (.lst us)) Dl (.lst va)) m2 ∧ Rps K G2 acc va ∧ dLcL c vs tt te (xs.drop i) acc r m2 (fun acc m => m a = none → mkL mt acc (mset m a (.lst xs)) QD), ⟨xs.length, rfl, Nat.zero_le _, G1, _, [], [], Same.refl G1, r1'.hide hD, .nil, t1⟩, ?_⟩
  rintro i n H2 ⟨rfl, hi, G2, m2, acc, va, e2, rep2, ra, t2⟩
  have ha2 : H2 a = some (.lst us) := rep2.frm a _ (by rw [upd_ne (fun z => hDa z.symm), upd_same])
  by_cases hlt : i < xs.length
  · have hdrop : xs.drop i = xs[i] :: xs.drop (i + 1) := (List.getElem_cons_drop hlt).symm
    rw [hdrop] at t2
    obtain ⟨r2, ec, t2⟩ := t2
    have hv : i < us.length := by rw [← rxs.length]; exact hlt
    refine .inr ⟨⟨us, us[i], SqL.of ha2, by simp [hv]⟩, fun H3 => ∃ G3 m3 acc va, Same G1 G3 ∧ Rep K G3 H3 (upd (upd F a (.lst us)) Dl (.lst va)) m3 ∧ Rps K G3 acc va ∧ dLcL c vs tt te (xs.drop (i + 1)) acc r m3 (fun acc m => m a = none → mkL mt acc (mset m a (.lst xs)) QD), fun H3 h3 => ⟨xs.length - (i + 1), by omega, rfl, hlt, h3⟩, fun v H3 y => ?_⟩
    obtain ⟨rfl, y⟩ := y
    obtain ⟨w, hw1, hw2⟩ := rxs.get (show xs[i]? = some xs[i] by simp [hlt])
    have q := y us (SqL.of ha2)
    rw [hw1] at q
    cases q
    have p3 : Rp K G2 xs[i] v := hw2.mono e2
    have e03 : Same G G2 := e1.trans e2
    refine ct_ok hc (rs_wipe (x.rs.mono e03) vs) p3 ec rep2.ext fun s2 rs2 w2 => ?_
    refine ⟨w2.trans (wipe_wipe σ vs vs fun _ h => h), G2, _, r2, m2, _, ⟨rep2, rs2, Lx.no⟩, t2, fun G4 H4 m4 b e4 rep4 t4 => ?_⟩
    cases b with
    | false => exact ⟨G4, m4, acc, va, e2.trans e4, rep4, ra.mono e4, t4⟩
    | true =>
      refine ⟨G4, _, r2, m4, _, ⟨rep4, rs2.mono e4, Lx.no⟩, t4, fun G5 H5 m5 d v e5 rep5 p5 t5 => ?_⟩
      have ra5 := ra.mono (e4.trans e5)
      exact ⟨va, rep5.frm Dl _ upd_same, by rw [← ra5.length]; exact t5.1, G5, m5, acc ++ [d], va ++ [v], (e2.trans e4).trans e5, rep5.turn, ra5.append (.cons p5 .nil), t5.2⟩
  · have e : i = xs.length := by omega
    subst e
    rw [List.drop_length] at t2
    refine .inl ⟨⟨us, SqL.of ha2, by rw [rxs.length]; exact Nat.le_refl _⟩, ?_⟩
    have hFD : F Dl = none := by rw [upd_ne hDa] at hF; exact hF
    rw [upd_comm (fun z => hDa z.symm)] at rep2
    obtain ⟨ma, rep3⟩ := rep2.outM (by rw [upd_ne (fun z => hDa z.symm)]; exact hFa) (rxs.mono e2)
    have t3 := t2 ma
    cases mt with
    | false =>
      obtain ⟨e3, rep4, p4⟩ := rep3.outL hFD ra
      exact k _ H2 _ _ _ ((e1.trans e2).trans e3) rep4 p4 t3
    | true =>
      obtain ⟨mp, rep4⟩ := rep3.outM hFD ra
      exact k _ H2 _ _ _ (e1.trans e2) rep4 (.ref Dl) (t3 Dl mp)
theorem de_lcM (mt : Bool) {elt tg iter : Expr} {ifs : List Expr} {scope : Scope} {own : List (Str × Nat)} {pos : Pos} {ti : DTE} {c : CT} {tt : DTT} {te : DTE} (hc : X.calm = true) (hN : X.N.Nodup) (hin : c.in (own.map (·.2))) (hi : DE X W WD iter ti) (ok : BlkOk X.N X.env.scope scope own)
    (hg : ∀ (s : Shared) (H : Hp) (C : Addr) (cl : List (Str × Addr)) (fp : List Addr), PG (X.blk s H scope (compEnvC scope cl C X.env) fp) tg (ctG X.K c)) (ht : ∀ (s : Shared) (H : Hp) (C : Addr) (cl : List (Str × Addr)) (fp : List Addr), DTs (X.blk s H scope (compEnvC scope cl C X.env) fp) W0 WD0 ifs tt)
    (he : ∀ (s : Shared) (H : Hp) (C : Addr) (cl : List (Str × Addr)) (fp : List Addr), DE (X.blk s H scope (compEnvC scope cl C X.env) fp) W0 WD0 elt te) (hs : ∀ x, foldedSetIterable iter X.env x = pure x := by intro _; rfl) :
    DE X W WD (.ListComp elt [⟨tg, iter, ifs, 0⟩] scope pos) (dLcM mt ti c (own.map (·.2)) tt te) :=
  PE.imp (pe_lc hc hN (pi_list hi) ok hg ht he hs) fun _ _ _ h => lc_upM hin h
end
theorem lcM_pure {mt : Bool} {ti : DTE} {c : CT} {vs : List Nat} {te : DTE} {r : DSt} {m : M} {a : Addr} {xs : List D} {Q : D → M → Prop} (f : D → D) (ht : ∀ Q' : D → M → Prop, Q' (.ref a) m → ti r m Q') (ha : m a = some (.lst xs)) (hz : xs.length ≤ sizeLine)
    (h : ∀ x ∈ xs, ∃ r2, ctD c x (wipeD r vs) = some r2 ∧ ∀ Q' : D → M → Prop, Q' (f x) (mdel m a) → te r2 (mdel m a) Q') (q : mkL mt (xs.map f) m Q) : dLcM mt ti c vs dYes te r m Q := by
  refine ht _ ⟨a, xs, rfl, ha, lc_pure f (by simpa using hz) h fun _ => ?_⟩
  have e : mset (mdel m a) a (.lst xs) = m := by
    funext b
    unfold mset mdel
    by_cases hb : b = a
    · rw [if_pos hb, hb, ha]
    · rw [if_neg hb, if_neg hb]
  rw [e, List.nil_append]
  exact q
end DL

set_option Elab.async false
set_option linter.all false
set_option maxRecDepth 100000
set_option maxHeartbeats 4000000
namespace DL
open PySem PySem.Spec PyProof.Rows L2
open He (ga ma eqO eqO_ok ba)
theorem frz_l {m : M} {a : Addr} {ds : List D} {Q : D → M → Prop} : frzV (mset m a (.lst ds)) (.ref a) Q ↔ Q (.lst ds) (mdel (mset m a (.lst ds)) a) := by
  unfold frzV
  dsimp only
  rw [mset_same]
theorem in_ss {i j : Str} {m : M} {Q : D → M → Prop} : dIn false (.str i) (.str j) m Q ↔ Q (.bl (!(Builtin.Str.occurrences j i 0 j.length 1).isEmpty)) m := Iff.rfl
theorem notin_ss {i j : Str} {m : M} {Q : D → M → Prop} : dIn true (.str i) (.str j) m Q ↔ Q (.bl (!(!(Builtin.Str.occurrences j i 0 j.length 1).isEmpty))) m := Iff.rfl
theorem inD_strs (x : Str) : ∀ zs : List Str, inD (.str x) (zs.map D.str) = decide (x ∈ zs)
  | [] => rfl
  | z :: zs => by
    have ih := inD_strs x zs
    unfold inD at ih ⊢
    rw [List.map_cons, List.any_cons, ih]
    show ((z == x) || decide (x ∈ zs)) = _
    by_cases h : z = x
    · subst h; simp
    · have h2 : (z == x) = false := by simpa using h
      rw [h2, Bool.false_or]
      refine decide_eq_decide.mpr ⟨List.mem_cons_of_mem _, fun hm => ?_⟩
      rcases List.mem_cons.mp hm with e | e
      · exact absurd e.symm h
      · exact e
theorem flat_strs (zs : List Str) : (zs.map D.str).all flatD = true := by
  rw [List.all_map, List.all_eq_true]
  intro _ _
  rfl
theorem in_strs {x : Str} {zs : List Str} {m : M} {d : D} {Q : D → M → Prop} (hd : sqOf m d = some (zs.map D.str)) (q : Q (.bl (decide (x ∈ zs))) m) : dIn false (.str x) d m Q := by
  cases d with
  | str j => cases hd
  | _ => exact ⟨_, hd, rfl, flat_strs zs, by rw [inD_strs]; exact q⟩
mutual
theorem eqv_refl : ∀ p : PyData, p.canLay0 = true → PyData.eqv p p = true
  | .none, _ => by simp [PyData.eqv]
  | .bool b, _ => by simp [PyData.eqv]
  | .int i, _ => by simp [PyData.eqv]
  | .str x, _ => by simp [PyData.eqv]
  | .list xs, h => by rw [PyData.eqv]; exact eqvAll_refl xs h
  | .tuple xs, h => by rw [PyData.eqv]; exact eqvAll_refl xs h
  | .dict _, h => by cases h
theorem eqvAll_refl : ∀ xs : List PyData, PyData.canLayAll0 xs = true → PyData.eqvAll xs xs = true
  | [], _ => by simp [PyData.eqvAll]
  | x :: xs, h => by
    have h : (PyData.canLay0 x && PyData.canLayAll0 xs) = true := h
    rw [Bool.and_eq_true] at h
    rw [PyData.eqvAll, eqv_refl x h.1, eqvAll_refl xs h.2]
    rfl
end
section
variable {m : M} {n : Nat} {x : D} {Q : D → M → Prop}
end
def dIsB : DR2 := fun x y m Q => ∃ a b : Bool, x = .bl a ∧ y = .bl b ∧ Q (.bl (decide (a = b))) m
def dNotB : DR2 := fun x y m Q => ∃ a b : Bool, x = .bl a ∧ y = .bl b ∧ Q (.bl (!decide (a = b))) m
end DL

set_option Elab.async false
set_option linter.all false
set_option maxRecDepth 100000
set_option maxHeartbeats 4000000
namespace DL
open PySem PySem.Spec PyProof.Rows L2
abbrev SuiteOk (X : Cx) (st : List Stmt) (ts : Addr → Value → Option Addr → TS) : Prop := ∀ (a : Addr) (oe : Obj) (cls : Value) (d : Option Addr) (pn : List (Addr × Obj)), Zc cls d oe → (∃ vs, oe.data = .fields vs) → PSs (X.suite a ((a, oe) :: pn)) st (ts a cls d)
inductive ClsOk (X : Cx) : List ExceptHandler → List Cls1 → Prop
  | nil : ClsOk X [] []
  | plain {x : Str} {c : Value} {ts : Addr → Value → Option Addr → TS} {b₀ : Stmt} {suite : List Stmt} {np p2 : Pos} {hds : List ExceptHandler} {l : List Cls1} (hc : Names X x c) (hsu : SuiteOk X (b₀ :: suite) ts) (r : ClsOk X hds l) :
      ClsOk X (.ExceptHandler (some (.Name x np)) none (b₀ :: suite) p2 :: hds) ((c, none, ts) :: l)
  | named {x n : Str} {i : Nat} {c : Value} {ts : Addr → Value → Option Addr → TS} {b₀ : Stmt} {suite : List Stmt} {np p2 : Pos} {hds : List ExceptHandler} {l : List Cls1} (hi : X.N[i]? = some n) (hln : X.env.kindOf n = some .local) (hc : Names X x c) (hsu : SuiteOk X (b₀ :: suite) ts) (r : ClsOk X hds l) :
      ClsOk X (.ExceptHandler (some (.Name x np)) (some n) (b₀ :: suite) p2 :: hds) ((c, some i, ts) :: l)
section
variable {X : Cx} {body : List Stmt} {h₀ : ExceptHandler} {hds : List ExceptHandler} {l : List Cls1} {pos : Pos} {tb : WX → TS} {Wout : WX}
end

abbrev DSuiteOk (X : Cx) (st : List Stmt) (ts : DTX) : Prop := ∀ (a : Addr) (oe : Obj) (C : Addr) (d : Option Addr) (pn : List (Addr × Obj)), Zc (.ref C) d oe → (∃ vs, oe.data = .fields vs) → DSs (X.suite a ((a, oe) :: pn)) W0 WD0 st (ts a C d)
inductive DClsOk (X : Cx) : List ExceptHandler → List DCls → Prop
  | nil : DClsOk X [] []
  | plain {x : Str} {c : Value} {ts : DTX} {b₀ : Stmt} {suite : List Stmt} {np p2 : Pos} {hds : List ExceptHandler} {l : List DCls} (hc : Names X x c) (hsu : DSuiteOk X (b₀ :: suite) ts) (r : DClsOk X hds l) :
      DClsOk X (.ExceptHandler (some (.Name x np)) none (b₀ :: suite) p2 :: hds) ((c, none, ts) :: l)
  | named {x n : Str} {i : Nat} {c : Value} {ts : DTX} {b₀ : Stmt} {suite : List Stmt} {np p2 : Pos} {hds : List ExceptHandler} {l : List DCls} (hi : X.N[i]? = some n) (hln : X.env.kindOf n = some .local) (hc : Names X x c) (hsu : DSuiteOk X (b₀ :: suite) ts) (r : DClsOk X hds l) :
      DClsOk X (.ExceptHandler (some (.Name x np)) (some n) (b₀ :: suite) p2 :: hds) ((c, some i, ts) :: l)
section
variable {X : Cx} {W : WX} {WD : DWX} {body : List Stmt} {h₀ : ExceptHandler} {hds : List ExceptHandler} {l : List DCls} {pos : Pos} {tb : DWX → DTS}
end
end DL

set_option Elab.async false
set_option linter.all false
set_option maxRecDepth 100000
set_option maxHeartbeats 4000000
namespace DL
open PySem PySem.Spec PyProof.Rows L2
open He (ga ba)
def rIsX (K : PySem.W.Frag) (a ec : Addr) (ed : Option Addr) : List V → Hp → VK → Prop := fun xs H Q => ∃ (c : V) (cv : Value) (b : Bool), xs = [.ref a, c] ∧ ClsV c cv ∧ ExcC K ec ∧ (ed = none ∨ ∃ dd fs, ed = some dd ∧ H dd = some (.xd fs)) ∧ PySem.W.kitOne K (.ref ec) cv = some b ∧ Q (.bl b) H
def dIsX (K : PySem.W.Frag) (a ec : Addr) (ed : Option Addr) : DRC := fun ds m Q => ∃ (fs : List (Str × D)) (c : D) (u : Value) (b : Bool), ds = [.exn a ed fs, c] ∧ ((∃ T, c = .ty T ∧ u = Value.type T) ∨ (∃ C, c = .ref C ∧ u = .ref C)) ∧ ExcC K ec ∧ PySem.W.kitOne K (.ref ec) u = some b ∧ Q (.bl b) m
theorem cd_isX {K : PySem.W.Frag} {a ec : Addr} {ed : Option Addr} : CallD K (rIsX K a ec ed) (dIsX K a ec ed) := by
  intro G H F m ds vs QD Q r ps t k
  obtain ⟨fs, c, u, b, rfl, hc, hx, hk, t⟩ := t
  obtain ⟨v, w, rfl, p, q⟩ := rps2 ps
  have cv : ClsV w u := by
    rcases hc with ⟨T, rfl, rfl⟩ | ⟨C, rfl, rfl⟩
    · cases q; exact .ty T
    · cases q; exact .own C
  cases p with
  | exn0 a => exact ⟨w, u, b, rfl, cv, hx, .inl rfl, hk, k.here r (.bl _) t⟩
  | exnS h1 h2 => exact ⟨w, u, b, rfl, cv, hx, .inr ⟨_, _, rfl, r.ext _ _ h1⟩, hk, k.here r (.bl _) t⟩
section
variable {K : PySem.W.Frag} {a ec C : Addr} {ed : Option Addr} {m : M} {Q : D → M → Prop} {fs : List (Str × D)} {b : Bool}
theorem isx_ty {T : String} (h : ExcC K ec) (k : PySem.W.kitOne K (.ref ec) (.type T) = some b) : dIsX K a ec ed [.exn a ed fs, .ty T] m Q ↔ Q (.bl b) m := by
  constructor
  · rintro ⟨fs', c, u, b', e, hc, _, hk, q⟩
    cases e
    rcases hc with ⟨T', e, rfl⟩ | ⟨C, e, _⟩
    · cases e; rw [k] at hk; cases hk; exact q
    · cases e
  · exact fun q => ⟨fs, _, _, b, rfl, .inl ⟨T, rfl, rfl⟩, h, k, q⟩
theorem isx_own (h : ExcC K ec) (k : PySem.W.kitOne K (.ref ec) (.ref C) = some b) : dIsX K a ec ed [.exn a ed fs, .ref C] m Q ↔ Q (.bl b) m := by
  constructor
  · rintro ⟨fs', c, u, b', e, hc, _, hk, q⟩
    cases e
    rcases hc with ⟨T', e, rfl⟩ | ⟨C, e, rfl⟩
    · cases e
    · cases e; rw [k] at hk; cases hk; exact q
  · exact fun q => ⟨fs, _, _, b, rfl, .inr ⟨C, rfl, rfl⟩, h, k, q⟩
end
theorem xis_of {K : Fr0} {C : Str} (h : xisB C K = true) : ExcC K (ga K C) := by
  obtain ⟨h1, h⟩ := ba h
  obtain ⟨h2, h⟩ := ba h
  obtain ⟨h3, h⟩ := ba h
  obtain ⟨h4, h⟩ := ba h
  obtain ⟨h5, h⟩ := ba h
  obtain ⟨h6, h⟩ := ba h
  obtain ⟨h7, h8⟩ := ba h
  exact ⟨of_decide_eq_true h1, of_decide_eq_true h2, of_decide_eq_true h3, h4, of_decide_eq_true h5, of_decide_eq_true h6, of_decide_eq_true h7, of_decide_eq_true h8⟩
end DL

set_option Elab.async false
set_option linter.all false
set_option maxRecDepth 100000
set_option maxHeartbeats 4000000
namespace DL
open PySem PySem.Spec PyProof.Rows L2
def rMulS : R2 := fun x y H Q => ∃ z n, x = .str z ∧ y = .int n ∧ PySem.MulOk z n ∧ Q (.str (PySem.Txt.mul z n)) H
def dMulS : DR2 := fun x y m Q => ∃ z n, x = .str z ∧ y = .int n ∧ PySem.MulOk z n ∧ Q (.str (PySem.Txt.mul z n)) m
section
variable {K : PySem.W.Frag} {X : Cx} {W : WX} {WD : DWX} {a b : Expr} {ta tb : DTE} {pos : Pos}
theorem op_mulS : OpR X (binaryOp .Mult) rMulS := by
  intro pins s σ H x y v u Q I rx ry h
  obtain ⟨z, n, rfl, rfl, ok, q⟩ := h
  obtain ⟨t, rfl⟩ := rx
  obtain ⟨t', rfl⟩ := ry
  exact PySem.SB.mul ok fun t2 k => ⟨.str (PySem.Txt.mul z n), H, I.tok k, ⟨_, rfl⟩, q⟩
theorem od_mulS : OpD K rMulS dMulS := by
  intro G H F m x y vx vy QD Q r px py t k
  obtain ⟨z, n, rfl, rfl, ok, t⟩ := t
  cases px; cases py
  exact ⟨z, n, rfl, rfl, ok, k.here r (.str _) t⟩
theorem de_mulS (ha : DE X W WD a ta) (hb : DE X W WD b tb) : DE X W WD (.BinOp a .Mult b pos) (dOp dMulS ta tb) := PE.imp (pe_op op_mulS ha hb) fun _ _ _ h => up_op od_mulS h
end
end DL

set_option Elab.async false
set_option linter.all false
set_option maxRecDepth 100000
set_option maxHeartbeats 4000000
namespace DL
open PySem PySem.Spec PyProof.Rows L2
theorem MSub.refl (m : M) : MSub m m := fun _ _ h => h
theorem MSub.set {m : M} {p : Addr} {o : MO} (h : m p = none) : MSub m (mset m p o) := fun x u e => by
  rw [mset_ne (fun q => by rw [q, h] at e; cases e)]
  exact e
theorem Rep.sub {K : PySem.W.Frag} {G H F : Hp} {m m2 : M} (r : Rep K G H F m) (h : MSub m2 m) : Rep K G H F m2 := ⟨r.ext, r.frm, r.dis, fun a o e => r.mo a o (h a o e), r.tb, r.gt, r.ft⟩
def dWk (te : DTE) : DTE := fun r m Q => te r m fun d m1 => ∃ m2, MSub m2 m1 ∧ Q d m2
section
variable {X : Cx} {W : WX} {WD : DWX} {e : Expr} {te : DTE}
theorem de_wk (he : DE X W WD e te) : DE X W WD e (dWk te) := by
  refine PE.imp he fun σ H Q h => ?_
  obtain ⟨G, F, r, m, QD, x, t, k⟩ := h
  refine ⟨G, F, r, m, _, x, t, fun G1 H1 m1 d v e1 p1 q1 t1 => ?_⟩
  obtain ⟨m2, hs, t2⟩ := t1
  exact k G1 H1 m2 d v e1 (p1.sub hs) q1 t2
end
def keyD : Key → D
  | .inl i => .int i
  | .inr x => .str x
section
variable {κ : Type} [DecidableEq κ]
def putKD (kvs : List (κ × D)) (k : κ) (v : D) : List (κ × D) :=
  if (kvs.any fun kv => decide (kv.1 = k)) = true then kvs.map (fun kv => if kv.1 = k then (kv.1, v) else kv) else kvs ++ [(k, v)]
variable {K : PySem.W.Frag} {G : Hp}
theorem Rpk.any (k : κ) : ∀ {ds : List (κ × D)} {vs : List (κ × V)}, Rpk K G ds vs → (ds.any fun kv => decide (kv.1 = k)) = (vs.any fun kv => decide (kv.1 = k))
  | _, _, .nil => rfl
  | _, _, .cons _ t => by rw [List.any_cons, List.any_cons, Rpk.any k t]
theorem Rpk.app : ∀ {ds es : List (κ × D)} {vs us : List (κ × V)}, Rpk K G ds vs → Rpk K G es us → Rpk K G (ds ++ es) (vs ++ us)
  | _, _, _, _, .nil, h => h
  | _, _, _, _, .cons r t, h => .cons r (Rpk.app t h)
theorem Rpk.put (k : κ) {d : D} {v : V} (q : Rp K G d v) {ds : List (κ × D)} {vs : List (κ × V)} (h : Rpk K G ds vs) : Rpk K G (putKD ds k d) (putK vs k v) := by
  unfold putKD putK
  rw [h.any k]
  by_cases e : (vs.any fun kv => decide (kv.1 = k)) = true
  · rw [if_pos e, if_pos e]
    exact h.rep k q
  · rw [if_neg e, if_neg e]
    exact h.app (.cons q .nil)
end
section
variable {K : PySem.W.Frag} {X : Cx} {W : WX} {WD : DWX} {a b : Expr} {ta tb tc : DTE} {pos pos' : Pos}
end
section
variable {X : Cx} {W : WX} {WD : DWX}
end
section
variable {K : PySem.W.Frag} {X : Cx} {W : WX} {WD : DWX}
end
end DL

set_option Elab.async false
set_option linter.all false
set_option maxRecDepth 100000
set_option maxHeartbeats 4000000
namespace DL
open PySem PySem.Spec PyProof.Rows L2
section
variable {K : PySem.W.Frag} {X : Cx} {W : WX} {WD : DWX}
def dJoin : DRM := fun x ds m Q => ∃ a d, ∃ ys : List Str, x = .str a ∧ ds = [d] ∧ sqOf m d = some (ys.map D.str) ∧ (ys.map (·.length)).sum + ys.length * a.length ≤ 16777216 ∧ Q (.str (PySem.Txt.join a ys)) m
theorem md_join : MtD K "str" (fun x xs H Q => ∃ a p, ∃ ys : List Str, x = .str a ∧ xs = [.ref p] ∧ (SqL K H p (ys.map V.str) ∨ SqT K H p (ys.map V.str)) ∧
    (ys.map (·.length)).sum + ys.length * a.length ≤ 16777216 ∧ Q (.str (PySem.Txt.join a ys)) H) isS dJoin := by
  refine ⟨fun G H F m x vx r p h => ty_str r p h, fun G H F m x vx ds vs QD Q r px ps t k => ?_⟩
  obtain ⟨z, d, ys, rfl, rfl, hs, hz, t⟩ := t
  cases px
  obtain ⟨v, rfl, p⟩ := rps1 ps
  obtain ⟨a, us, rfl, hq, rs⟩ := sq_ok r p hs
  have := rs.strs
  subst this
  exact ⟨z, a, ys, rfl, rfl, hq, hz, k.here r (.str _) t⟩
def dFind : DRM := fun x ds m Q => ∃ z y, x = .str z ∧ ds = [.str y] ∧ Q (.int (PySem.Txt.find z y)) m
theorem md_find : MtD K "str" (fun x xs H Q => ∃ a b, x = .str a ∧ xs = [.str b] ∧ Q (.int (PySem.Txt.find a b)) H) isS dFind := by
  refine ⟨fun G H F m x vx r p h => ty_str r p h, fun G H F m x vx ds vs QD Q r px ps t k => ?_⟩
  obtain ⟨z, y, rfl, rfl, t⟩ := t
  cases px
  obtain ⟨v, rfl, p⟩ := rps1 ps
  cases p
  exact ⟨z, y, rfl, rfl, k.here r (.int _) t⟩
def dUpper : DRM := fun x ds m Q => ∃ z, x = .str z ∧ ds = [] ∧ z.length ≤ 5592405 ∧ Q (.str (PySem.Txt.upper z)) m
theorem md_upper : MtD K "str" (fun x xs H Q => ∃ a, x = .str a ∧ xs = [] ∧ a.length ≤ 5592405 ∧ Q (.str (PySem.Txt.upper a)) H) isS dUpper := by
  refine ⟨fun G H F m x vx r p h => ty_str r p h, fun G H F m x vx ds vs QD Q r px ps t k => ?_⟩
  obtain ⟨z, rfl, rfl, hz, t⟩ := t
  cases px; cases ps
  exact ⟨z, rfl, rfl, hz, k.here r (.str _) t⟩
def dStrI : DRC := fun ds m Q => ∃ i : Int, ds = [.int i] ∧ i.natAbs.log2 < 1920 ∧ Q (.str (toString i)) m
theorem cd_strI : CallD K (fun xs H Q => ∃ i, xs = [.int i] ∧ i.natAbs.log2 < 1920 ∧ Q (.str (toString i)) H) dStrI := by
  intro G H F m ds vs QD Q r ps t k
  obtain ⟨i, rfl, hz, t⟩ := t
  obtain ⟨v, rfl, p⟩ := rps1 ps
  cases p
  exact ⟨i, rfl, hz, k.here r (.str _) t⟩
def dInsert : DRM := fun x ds m Q => ∃ a xs i y, x = .ref a ∧ ds = [.int i, y] ∧ m a = some (.lst xs) ∧ xs.length < sizeLine ∧ (0 ≤ i ∧ i < 2 ^ 63) ∧ Q .non (mset m a (.lst (xs.take i.toNat ++ [y] ++ xs.drop i.toNat)))
theorem md_insert : MtD K "list" (fun x vs H Q => ∃ (l : Addr) (xs : List V) (i : Int) (y : V), x = .ref l ∧ vs = [.int i, y] ∧ H l = some (.lst xs) ∧ xs.length < sizeLine ∧ 0 ≤ i ∧ i < 2 ^ 63 ∧
    Q .non (upd H l (.lst (xs.take i.toNat ++ [y] ++ xs.drop i.toNat)))) isL dInsert := by
  refine ⟨fun G H F m x vx r p h => ty_list r p h, fun G H F m x vx ds vs QD Q r px ps t k => ?_⟩
  obtain ⟨a, xs, i, y, rfl, rfl, hm, hz, ⟨h1, h2⟩, t⟩ := t
  cases px
  obtain ⟨v, w, rfl, p, q⟩ := rps2 ps
  cases p
  obtain ⟨us, h3, h4⟩ := mo_lst r hm
  exact ⟨a, us, i, w, rfl, rfl, h3, by rw [← h4.length]; exact hz, h1, h2, k.here (wr_lst r hm (((h4.take _).append (.cons q .nil)).append (h4.drop _))) .non t⟩
def diQ (te : DTE) : DTI := fun r m Q => te r m fun d m1 => match d with
  | .lst xs => Q xs m1
  | .rdl xs => Q xs m1
  | .tup xs => Q xs m1
  | _ => False
def iSeq (K : PySem.W.Frag) (tl : TE) : TI := fun σ H R => tl σ H fun x H1 => ∃ a, x = .ref a ∧ (((∃ xs, SqL K H1 a xs) ∧ R (Itl K a) H1) ∨ ((∃ xs, SqT K H1 a xs) ∧ R (Itt K a) H1))
theorem pi_seq {tg l : Expr} {tl : TE} (hl : PE X l tl) : PI X tg l (iSeq X.K tl) := by
  constructor
  intro pins s σ H R I h
  refine thn (hl.run pins s σ H _ I h) (fun v s1 z => ?_)
  obtain ⟨x, H1, J, rx, a, rfl, q⟩ := z
  cases rx
  have fz : ∀ b ∈ [s1.heap.objs.size], FpOk X pins H1 b := by
    intro b hb
    rw [List.mem_singleton.mp hb]
    exact J.fpOk (Nat.le_refl _) (J.hok.fresh (Nat.le_refl _))
  have kp : ∀ ob, Inv X pins σ H1 { s1 with heap := s1.heap.push ob } := fun ob => J.kept (t' := s1.toks) fun b o e => Heap.get?_push_of_some ob e
  rcases q with ⟨⟨xs, hq⟩, q⟩ | ⟨⟨xs, hq⟩, q⟩
  · obtain ⟨its, _, pl, _⟩ := J.list hq
    exact wpAny_pyIter_list pl.isList ⟨_, [s1.heap.objs.size], _, _, H1, rfl, kp _, turn_list a _, ⟨_, Heap.get?_push_size _ rfl, rfl, rfl⟩, fz, q⟩
  · obtain ⟨its, _, pt, _⟩ := J.tuple hq
    exact wpAny_pyIter_tuple (show s1.heap.IsTuple a its.toArray from pt) ⟨_, [s1.heap.objs.size], _, _, H1, rfl, kp _, turn_tuple a _, ⟨_, Heap.get?_push_size _ rfl, rfl, rfl⟩, fz, q⟩
theorem di_seq {tg l : Expr} {te : DTE} (hl : DE X W WD l te) : DI X W WD tg l (diQ te) := by
  refine PI.imp (pi_seq hl) fun σ H R h => ?_
  obtain ⟨G, F, r, m, QD, x, t, k⟩ := h
  refine ⟨G, F, r, m, _, x, t, fun G1 H1 m1 d1 v1 e1 r1 p1 t1 => ?_⟩
  cases d1 with
  | lst xs => cases p1 with | lst h1 q1 => exact ⟨_, rfl, .inl ⟨⟨_, SqL.of (r1.ext _ _ h1)⟩, k G1 H1 m1 xs _ e1 r1 (it_list (SqL.of h1) q1) t1⟩⟩
  | rdl xs => cases p1 with | rdl h1 q1 => exact ⟨_, rfl, .inl ⟨⟨_, r1.ext.seq h1⟩, k G1 H1 m1 xs _ e1 r1 (it_list h1 q1) t1⟩⟩
  | tup xs => cases p1 with | tup h1 q1 => exact ⟨_, rfl, .inr ⟨⟨_, same_sqt r1.ext h1.1⟩, k G1 H1 m1 xs _ e1 r1 (it_tup h1 q1) t1⟩⟩
  | _ => exact t1.elim
end
end DL

set_option Elab.async false
set_option linter.all false
set_option maxRecDepth 100000
set_option maxHeartbeats 4000000
namespace DL
open PySem PySem.Spec PyProof.Rows L2
def rInD (K : PySem.W.Frag) (neg : Bool) : R2 := fun x y H Q => ∃ d ds, Dp K H x d ∧ Dp K H y (.list ds) ∧ PyData.plainAll ds = true ∧ d.plain = true ∧ d.depth ≤ 60 ∧ Q (.bl (if neg then !(ds.any fun e => PyData.eqv e d) else ds.any fun e => PyData.eqv e d)) H
section
variable {K : PySem.W.Frag} {X : Cx}
theorem op_inD (hu : X.A.units + 64 < cLine) : OpR X (compareOp .In) (rInD X.K false) := by
  intro pins s σ H x y v u Q I rx ry h
  obtain ⟨d, ds, hd, he, p1, p2, hz, q⟩ := h
  obtain ⟨as, r1⟩ := Dp.reads I d x v hd rx
  obtain ⟨bs, r2⟩ := Dp.reads I (.list ds) y u he ry
  exact SeqAt.in_list_data r2 r1 p1 p2 (by omega) ⟨.bl _, H, I, rfl, q⟩
def dInD (neg : Bool) : DR2 := fun x y m Q => ∃ d ds, datOf m x = some d ∧ datOf m y = some (.list ds) ∧ PyData.plainAll ds = true ∧ d.plain = true ∧ d.depth ≤ 60 ∧ Q (.bl (if neg then !(ds.any fun e => PyData.eqv e d) else ds.any fun e => PyData.eqv e d)) m
theorem od_inD (neg : Bool) : OpD K (rInD K neg) (dInD neg) := by
  intro G H F m x y vx vy QD Q r px py t k
  obtain ⟨d, ds, e1, e2, p1, p2, hz, t⟩ := t
  exact ⟨d, ds, dat_ok r px e1, dat_ok r py e2, p1, p2, hz, k.here r (.bl _) t⟩
end
theorem toPs_some {n : Nat} : ∀ {ys : List D}, ys.all (clB n) = true → ∃ ps, toPs ys = some ps ∧ PyData.canLayAll0 ps = true
  | [], _ => ⟨[], rfl, rfl⟩
  | y :: ys, h => by
    rw [List.all_cons, Bool.and_eq_true] at h
    obtain ⟨p, e, c1, _⟩ := cl_toP n y h.1
    obtain ⟨ps, es, cs⟩ := toPs_some h.2
    refine ⟨p :: ps, by rw [toPs, e, es]; rfl, ?_⟩
    show (p.canLay0 && PyData.canLayAll0 ps) = true
    rw [c1, cs]
    rfl
theorem any_eqv {n : Nat} {x : D} {p : PyData} (cx : clB n x = true) (ex : toP x = some p) : ∀ {ys : List D} {ps : List PyData}, ys.all (clB n) = true → toPs ys = some ps → ((ps.any fun e => PyData.eqv e p) = true ↔ x ∈ ys)
  | [], ps, _, e => by
    cases e
    simp
  | y :: ys, ps, h, e => by
    rw [List.all_cons, Bool.and_eq_true] at h
    obtain ⟨q, e1, _, _⟩ := cl_toP n y h.1
    obtain ⟨qs, e2, _⟩ := toPs_some h.2
    rw [toPs, e1, e2] at e
    cases e
    have h1 := cl_eqv n y x q p h.1 cx e1 ex
    rw [List.any_cons, Bool.or_eq_true, any_eqv cx ex h.2 e2, h1, List.mem_cons, eq_comm]
theorem dInD_data {neg : Bool} {m : M} {n : Nat} {x y : D} {ys : List D} {Q : D → M → Prop} (hn : n ≤ 60) (c1 : clB n x = true) (hx : vD m x = x) (hy : vD m y = .lst ys) (c2 : ys.all (clB n) = true) (h : ∀ b : Bool, (b = true ↔ x ∈ ys) → Q (.bl (if neg then !b else b)) m) : dInD neg x y m Q := by
  obtain ⟨p, e1, f1, l1, d1⟩ := dat_vD (m := m) (x := x) (n := n) (by rw [hx]; exact c1)
  obtain ⟨ps, es, cs⟩ := toPs_some c2
  have e2 : datOf m y = some (.list ps) := by
    obtain ⟨q, g1, g2, _, _⟩ := dat_vD (m := m) (x := y) (n := n + 1) (by rw [hy]; exact c2)
    rw [hy, toP, es] at g2
    rw [g1]
    exact g2.symm
  rw [hx] at f1
  exact ⟨p, ps, e1, e2, PyData.plainAll_of_canLay0 ps cs, PyData.plain_of_canLay0 p l1, by omega, h _ (any_eqv c1 f1 c2 es)⟩
end DL

set_option Elab.async false
set_option linter.all false
set_option maxRecDepth 100000
set_option maxHeartbeats 4000000
namespace DL
open PySem PySem.Spec PyProof.Rows L2 LamX
structure Lam1 (sc scope : Scope) (p : Str) : Prop where
  kind : scope.kind = .function
  co : scope.isCoroutine = false
  gen : scope.isGenerator = false
  par : scope.names.lookup p = some .local
  own : ∀ y ∈ scope.names, y.2 = .local → y.1 = p
  cell : ∀ y ∈ scope.names, y.2 ≠ .cell
  free : ∀ y ∈ scope.names, y.2 = .free → sc.names.lookup y.1 = some .cell ∨ sc.names.lookup y.1 = some .free
section
variable {X : Cx} {pins : List (Addr × Obj)} {σ : L2.St} {H HZ : Hp} {s t : Shared}
theorem Lam1.has {scope : Scope} {p : Str} (L : Lam1 X.env.scope scope p) (ok : X.Ok) : ∀ y ∈ scope.names, y.2 = .free → ∃ c, X.env.cells.lookup y.1 = some c := fun y hy e =>
  (L.free y hy e).elim (fun k => ok.has _ (.inl k)) fun k => ok.has _ (.inr k)
structure Aft (X : Cx) (H H' : Hp) (s s' : Shared) : Prop where
  os : s'.os = s.os
  bare : AllBare s'.gens
  un : Un (frs X.stack) [] H H' s.heap s'.heap
  hok : HOk X.prog X.w H' s'.heap
end
section
variable {P : Program} {w : World} {fs : List Addr} {H0 Hc H' : Hp} {h0 hc h' : Heap}
end
theorem Rep.made {K : PySem.W.Frag} {G H H1 F : Hp} {m : M} (r : Rep K G H F m) (e : ExtN H H1) (t : Tabs (tblsOf K) H1) : Rep K G H1 F m where
  ext := fun b o q => e b o (r.ext b o q) (r.gt b o q)
  frm := fun b o q => e b o (r.frm b o q) (r.ft b o q).1
  dis := r.dis
  mo := fun b o q => by
    obtain ⟨h1, h2, u, h3, h4⟩ := r.mo b o q
    exact ⟨h1, h2, u, e b u h3 h4.okO.1, h4⟩
  tb := t
  gt := r.gt
  ft := r.ft
end DL

set_option Elab.async false
set_option linter.all false
set_option maxRecDepth 100000
set_option maxHeartbeats 4000000
namespace DL
open PySem PySem.Spec PySem.W PyProof.Rows L2 LamX
end DL

set_option Elab.async false
set_option linter.all false
set_option maxRecDepth 100000
set_option maxHeartbeats 4000000
namespace DL
open PySem PySem.Spec PySem.W PyProof.Rows L2 LamX
section
variable {P : Program} {w : World} {K : Fr0} {mg : Str → Option Value} {base : Heap} {x qual : Str} {params : Arguments} {body : List Stmt} {scope : Scope} {dvs : List V} {kws : List (Str × V)} {f : Addr} {fd : FuncData}
end
end DL

set_option Elab.async false
set_option linter.all false
set_option maxRecDepth 100000
set_option maxHeartbeats 4000000
namespace DL
open PySem PySem.Spec PyProof.Rows L2
section
variable {X : Cx}
end
end DL

set_option Elab.async false
set_option linter.all false
set_option maxRecDepth 100000
set_option maxHeartbeats 4000000
namespace DL
open PySem PySem.Spec PyProof.Rows L2
section
variable {X : Cx} {W : WX} {WD : DWX}
variable {κ : Type} [DecidableEq κ]
end
section
variable {X : Cx} {W : WX} {WD : DWX}
end
end DL

set_option Elab.async false
set_option linter.all false
set_option maxRecDepth 100000
set_option maxHeartbeats 4000000
namespace DL
open PySem PySem.Spec PyProof.Rows L2
section
variable {X : Cx} {W : WX} {WD : DWX} {e : Expr} {td : TE} {apos cpos : Pos}
end
end DL

set_option Elab.async false
set_option linter.all false
set_option maxRecDepth 100000
set_option maxHeartbeats 4000000
namespace DL
open PySem PySem.Spec PyProof.Rows L2
def iD {κ : Type} (kvs : List (κ × Int)) : List (κ × D) := kvs.map fun p => (p.1, D.int p.2)
section
variable {X : Cx} {W : WX} {WD : DWX} {rest : List Stmt} {t : DTS}
end
end DL

set_option Elab.async false
set_option linter.all false
set_option maxRecDepth 100000
set_option maxHeartbeats 4000000
namespace DL
open PySem PySem.Spec PyProof.Rows L2
def fg : D → D
  | .obj _ d => d
  | d => d
theorem Rp.fg {K : PySem.W.Frag} {G : Hp} {d : D} {v : V} (h : Rp K G d v) : Rp K G (DL.fg d) v := by
  cases h with
  | obj h => exact h
  | non => exact .non
  | bl b => exact .bl b
  | int i => exact .int i
  | str x => exact .str x
  | ty n => exact .ty n
  | ref a => exact .ref a
  | lst h r => exact .lst h r
  | rdl h r => exact .rdl h r
  | tup h r => exact .tup h r
  | ins h r => exact .ins h r
  | exn0 a => exact .exn0 a
  | exnS h r => exact .exnS h r
  | dki h => exact .dki h
  | dti h => exact .dti h
  | clo hc h => exact .clo hc h
theorem Rps.fg {K : PySem.W.Frag} {G : Hp} : ∀ {ds : List D} {vs : List V}, Rps K G ds vs → Rps K G (ds.map DL.fg) vs
  | _, _, .nil => .nil
  | _, _, .cons r t => .cons r.fg (Rps.fg t)
section
variable {K : PySem.W.Frag} {X : Cx} {W : WX} {WD : DWX} {e : Expr} {te : DTE}
def dFgt (te : DTE) : DTE := fun r m Q => te r m fun d m1 => ∃ ds, d = .lst ds ∧ Q (.lst (ds.map fg)) m1
end
section
variable {X : Cx} {pins : List (Addr × Obj)} {σ : L2.St} {H : Hp} {s : Shared}
theorem all_yes (n : Nat) : ((List.range n).all fun _ => true) = true := List.all_eq_true.mpr fun _ _ => rfl
end
section
variable {K : PySem.W.Frag}
end
end DL

set_option Elab.async false
set_option linter.all false
set_option maxRecDepth 100000
set_option maxHeartbeats 4000000
namespace DL
open PySem PySem.Spec PyProof.Rows L2
section
variable {X : Cx} {W : WX} {WD : DWX} {e : Expr}
end
end DL

set_option Elab.async false
set_option linter.all false
set_option maxRecDepth 100000
set_option maxHeartbeats 4000000
namespace DL
open PySem PySem.Spec PyProof.Rows L2
inductive FrzAll : M → List D → List D → M → Prop
  | nil (m : M) : FrzAll m [] [] m
  | cons {m m' : M} {a : Addr} {ds xs ys : List D} : m a = some (.lst ds) → FrzAll (mdel m a) xs ys m' → FrzAll m (.ref a :: xs) (.lst ds :: ys) m'
section
variable {X : Cx} {W : WX} {WD : DWX} {rest : List Stmt} {t : DTS}
end
end DL

set_option Elab.async false
set_option linter.all false
set_option maxRecDepth 100000
set_option maxHeartbeats 4000000
namespace DL
open PySem PySem.Spec PyProof.Rows L2
section
variable {x0 x1 x2 x3 x4 x5 x6 x7 : D} {xs : List D}
theorem at4 : atI (x0 :: x1 :: x2 :: x3 :: x4 :: xs) 4 = some x4 := atI_nat (j := 4) rfl
theorem at5 : atI (x0 :: x1 :: x2 :: x3 :: x4 :: x5 :: xs) 5 = some x5 := atI_nat (j := 5) rfl
theorem at6 : atI (x0 :: x1 :: x2 :: x3 :: x4 :: x5 :: x6 :: xs) 6 = some x6 := atI_nat (j := 6) rfl
theorem at7 : atI (x0 :: x1 :: x2 :: x3 :: x4 :: x5 :: x6 :: x7 :: xs) 7 = some x7 := atI_nat (j := 7) rfl
end
open He (ga ma eqO eqO_ok ba)
end DL

set_option Elab.async false
set_option linter.all false
set_option maxRecDepth 100000
set_option maxHeartbeats 4000000
namespace DL
open PySem PySem.Spec PyProof.Rows L2
def daStar (te : DTE) (t : DTA) : DTA := fun r m Q => te r m fun x m1 => ∃ xs, sqOf m1 x = some xs ∧ t r m1 fun ys m2 => Q (xs ++ ys) m2
section
variable {X : Cx} {W : WX} {WD : DWX} {e : Expr} {es : List Expr} {te : DTE} {t : DTA} {p : Pos}
end
def mergeD (kvs : List (Key × D)) : List (Key × D) := kvs.foldl (fun acc kv => putKD acc kv.1 kv.2) []
def dDictP : DRC := fun ds m Q => ∃ d kvs, ds = [d] ∧ lsOf m d = some (kvs.map fun kv : Key × D => D.tup [keyD kv.1, kv.2]) ∧ ∀ p, m p = none → Q (.ref p) (mset m p (.dK (mergeD kvs)))
def dMakeN (C : Addr) (n j : Nat) (sp : DSp) (WD : DWX) (t tk : DTA) : DTE := fun r m Q => t r m fun ds m1 => tk r m1 fun zs m2 => ds.length = n ∧ zs.length = j ∧
  ∀ x, m2 x = none → sp (.ref x :: (ds ++ zs)) (mset m2 x (.ins C [])) (fun _ m3 => ∃ fs, m3 x = some (.ins C fs) ∧ Q (.ins C fs) (mdel m3 x)) fun x m3 => WD x r m3
section
variable {X : Cx} {W : WX} {WD : DWX} {e : Expr} {es : List Expr} {kws : List Keyword} {t tk : DTA} {sp : DSp} {k n : Nat} {f C : Addr} {fd : FuncData} {ps ks : List Str} {x : Str} {p pos : Pos}
end
end DL

set_option Elab.async false
set_option linter.all false
set_option maxRecDepth 100000
set_option maxHeartbeats 4000000
namespace DL
open PySem PySem.Spec PyProof.Rows L2
open He (ga ma eqO eqO_ok ba)
def dwnD (hi : Int) (n : Nat) : List D := (List.range n).map fun (k : Nat) => D.int (hi - (k : Int))
section
variable {X : Cx} {W : WX} {WD : DWX} {tg : Expr}
def diR3 (ta : DTA) : DTI := fun r m Q => ta r m fun ds m1 => ∃ i j : Int, ds = [.int i, .int j, .int (-1)] ∧ (-(2 ^ 62) ≤ i ∧ i < 2 ^ 62 ∧ -(2 ^ 62) ≤ j ∧ j < 2 ^ 62) ∧ Q (dwnD i (i - j).toNat) m1
end
end DL

set_option Elab.async false
set_option linter.all false
set_option maxRecDepth 100000
set_option maxHeartbeats 4000000
namespace DL
open PySem PySem.Spec PyProof.Rows L2
theorem rps_strs {K : PySem.W.Frag} {G : Hp} : ∀ ns : List Str, Rps K G (ns.map D.str) (ns.map V.str)
  | [] => .nil
  | n :: ns => .cons (.str n) (rps_strs ns)
theorem lt_irrefl : ∀ l : List Nat, ltCps l l = false
  | [] => rfl
  | a :: l => by simp [ltCps, lt_irrefl l]
theorem str_ext {a b : Str} (h : a.cps.toList = b.cps.toList) : a = b := by
  obtain ⟨a⟩ := a
  obtain ⟨b⟩ := b
  exact congrArg Str.mk (Array.toList_inj.mp h)
end DL

set_option Elab.async false
set_option linter.all false
set_option maxRecDepth 100000
set_option maxHeartbeats 4000000
namespace DL
open PySem PySem.Spec PyProof.Rows L2
section
variable {K : PySem.W.Frag} {X : Cx} {W : WX} {WD : DWX} {rest : List Stmt} {e : Expr} {te : DTE} {t : DTS}
end
end DL

set_option Elab.async false
set_option linter.all false
set_option maxRecDepth 100000
set_option maxHeartbeats 4000000
namespace DL
open PySem PySem.Spec PyProof.Rows L2
section
variable {X : Cx} {W : WX} {WD : DWX}
def rEqZ (K : PySem.W.Frag) (f : Bool → Bool) : R2 := fun x y H Q => ∃ a b xs, x = .ref a ∧ y = .ref b ∧ SqL K H a xs ∧ SqL K H b [] ∧ Q (.bl (f xs.isEmpty)) H
theorem op_eqZ (hu : X.A.units + 64 < cLine) : OpR X (compareOp .Eq) (rEqZ X.K id) := by
  intro pins s σ H x y v u Q I kx ky h
  obtain ⟨a, b, xs, rfl, rfl, ha, hb, q⟩ := h
  cases (show v = Value.ref a from kx)
  cases (show u = Value.ref b from ky)
  obtain ⟨ua, q1, o1, _⟩ := I.list ha
  obtain ⟨ub, q2, o2, _⟩ := I.list hb
  have l1 := q1.length
  have l2 := q2.length
  cases xs with
  | nil =>
    have hz : ua.toArray.size = ub.toArray.size := by simpa [← l1, ← l2]
    have hx := SeqAt.RcAt.lists (A := X.A) (e := fun _ => true) o1.isList o2.isList hz (by omega) (fun j h1 h2 => by
      have : j < ua.length := by simpa using h1
      rw [← l1] at this
      cases this)
    rw [all_yes] at hx
    exact hx _ _ _ _ ⟨.bl true, H, I, rfl, q⟩
  | cons z zs =>
    have hz : (ua.toArray.size != ub.toArray.size) = true := by
      simp only [List.length_cons] at l1
      simp [← l1, ← l2]
    exact (SeqAt.RcAt.lists_lengths (A := X.A) o1.isList o2.isList hz (by omega)) _ _ _ _ ⟨.bl false, H, I, rfl, q⟩
end
section
variable {K : PySem.W.Frag}
def dEqZ : DR2 := fun x y m Q => ∃ xs, lsOf m x = some xs ∧ lsOf m y = some [] ∧ Q (.bl xs.isEmpty) m
theorem lsZ_of {G H F : Hp} {m : M} {x y : D} {vx vy : V} {xs : List D} (r : Rep K G H F m) (px : Rp K G x vx) (py : Rp K G y vy) (h1 : lsOf m x = some xs) (h2 : lsOf m y = some []) : ∃ a b us, vx = .ref a ∧ vy = .ref b ∧ SqL K H a us ∧ SqL K H b [] ∧ us.isEmpty = xs.isEmpty := by
  obtain ⟨a, us, rfl, sa, ra⟩ := ls_ok r px h1
  obtain ⟨b, ws, rfl, sb, rb⟩ := ls_ok r py h2
  cases rb
  exact ⟨a, b, us, rfl, rfl, sa, sb, (isEmpty_rps ra).symm⟩
theorem od_eqZ : OpD K (rEqZ K id) dEqZ := by
  intro G H F m x y vx vy QD Q r px py t k
  obtain ⟨xs, h1, h2, t⟩ := t
  obtain ⟨a, b, us, rfl, rfl, sa, sb, e⟩ := lsZ_of r px py h1 h2
  exact ⟨a, b, us, rfl, rfl, sa, sb, k.here r (.bl _) (by rw [id, e]; exact t)⟩
end
end DL

set_option Elab.async false
set_option linter.all false
set_option maxRecDepth 100000
set_option maxHeartbeats 4000000
namespace DL
open PySem PySem.Spec PyProof.Rows L2
end DL

set_option Elab.async false
set_option linter.all false
set_option maxRecDepth 100000
set_option maxHeartbeats 4000000
namespace DL
open PySem PySem.Spec PyProof.Rows L2
section
variable {X : Cx} {W : WX} {WD : DWX} {e : Expr} {te : DTE} {tb : DTS} {body : List Stmt}
end
end DL

set_option Elab.async false
set_option linter.all false
set_option maxRecDepth 100000
set_option maxHeartbeats 4000000
namespace DL
open PySem PySem.Spec PyProof.Rows L2
section
variable {X : Cx} {W : WX} {WD : DWX} {tg iter : Expr} {body : List Stmt} {ti : DTE} {g : DTG} {tb : DTS} {pos : Pos}
end
end DL

set_option Elab.async false
set_option linter.all false
set_option maxRecDepth 100000
set_option maxHeartbeats 4000000
namespace DL
open PySem PySem.Spec PyProof.Rows L2
section
variable {X : Cx} {W : WX} {WD : DWX} {o i e : Expr} {to ti te : DTE} {tpos pos : Pos}
end
end DL

set_option Elab.async false
set_option linter.all false
set_option maxRecDepth 100000
set_option maxHeartbeats 4000000
namespace DL
open PySem PySem.Spec PyProof.Rows L2
section
variable {X : Cx} {W : WX} {WD : DWX} {e : Expr} {body : List Stmt} {ta : DTA} {g : DTG} {tb : DTS} {pos p pos2 tpos : Pos} {elts : List Expr} {kk : Nat}
end
end DL

set_option Elab.async false
set_option linter.all false
set_option maxRecDepth 100000
set_option maxHeartbeats 4000000
namespace DL
open PySem PySem.Spec PyProof.Rows L2
def dctOf (m : M) : D → Option (List (Key × D))
  | .dki kvs => some (iD kvs)
  | .ref a => match m a with | some (.dK kvs) => some kvs | _ => none
  | _ => none
def dCopyK : DRC := fun ds m Q => ∃ d kvs, ds = [d] ∧ dctOf m d = some kvs ∧ ∀ p, m p = none → Q (.ref p) (mset m p (.dK kvs))
section
variable {K : PySem.W.Frag} {X : Cx} {W : WX} {WD : DWX} {o e f a b k v : Expr} {td ty tx ta tb te tk tv : DTE} {pos pos' apos cpos : Pos}
def dGet2K (td ty tx : DTE) : DTE := fun r m Q => td r m fun x m1 => (∃ k1, dctOf m1 x = some k1) ∧ ty r m1 fun y m2 => tx r m2 fun z m3 => ∃ kvs k, dctOf m3 x = some kvs ∧ y = keyD k ∧ Q ((valD kvs k).getD z) m3
def dDctR (f : Bool) : DR2 := fun x y m Q => ∃ kvs : List (Key × Int), x = .dki kvs ∧ y = .dki kvs ∧ (kvs.map (·.1)).Nodup ∧ Q (.bl f) m
def dDisp1 (tk tv : DTE) : DTE := fun r m Q => ∀ p, m p = none → tk r (mset m p (.dK [])) fun x m1 => tv r m1 fun y m2 => m2 p = some (.dK []) ∧ ∃ k, x = keyD k ∧ Q (.ref p) (mset m2 p (.dK [(k, y)]))
def dFrzEK (te : DTE) : DTE := fun r m Q => te r m fun d m1 => ∃ a kvs, d = .ref a ∧ m1 a = some (.dK (iD kvs)) ∧ Q (.dki kvs) (mdel m1 a)
end
end DL

set_option Elab.async false
set_option linter.all false
set_option maxRecDepth 100000
set_option maxHeartbeats 4000000
theorem L2H.RoomH.units {k : Nat} {A : PySem.Around} (r : L2H.RoomH k A) : A.units + 64 < PySem.cLine := by have := r.un; omega
namespace DL
open PySem PySem.Spec PyProof.Rows L2
open L2H (RoomH PinOk cxH)
structure FnX (P : Program) (w : World) (K : PySem.W.Frag) (mg : Str → Option Value) (base : Heap) (CX : CXT) (k : Nat) (f : Addr) (fd : FuncData) (ps : List Str) (sp : Addr → Addr → Option Addr → Sp) : Prop where
  len : ∀ a c d vs H Q E, sp a c d vs H Q E → vs.length = ps.length
  run : ∀ (A : Around) (outer : List Env) (s : Shared) (H : Hp) (args : Args) (us : List Value) (vs : List V) (Q : VK) (E : XK) (a c : Addr) (d : Option Addr) (oe : Obj), RoomH k A → PinOk outer H s (a, oe) → Zc (.ref c) d oe → (∃ vs, oe.data = .fields vs) → Env0 P w K mg base A outer s H → BindsTo s fd args (ps.zip us) → Vals vs us → sp a c d vs H Q E →
    codeAny (model P w) A (.call (.ref f) args) (CR CX outer P w H s Q E) s
theorem fn_ofX {CX : CXT} {P : Program} {w : World} {K : PySem.W.Frag} {mg : Str → Option Value} {base : Heap} {k : Nat} {f : Addr} {name qual : Str} {params : Arguments} {body : List Stmt} {scope : Scope} {dV kV doc pm cdv ct oc : Value} {an od : Option Addr}
    {osl : Array (Option Value)} {N ps : List Str} {sp : Addr → Addr → Option Addr → Sp} (lk : K.lookup f = some ⟨oc, od, .func (PySem.W.fnOf name qual params body scope dV kV doc pm an cdv ct), osl⟩) (hcd : PySem.W.codeIn K cdv qual = true) (S : FnScope N ps scope)
    (len : ∀ a c d vs H Q E, sp a c d vs H Q E → vs.length = ps.length)
    (hbody : ∀ (A : Around) (outer : List Env) (s : Shared) (H : Hp) (vs : List V) (Q : VK) (E : XK) (a c : Addr) (d : Option Addr) (oe : Obj), RoomH k (A.deeper (envOfC qual scope s.heap.objs.size f cdv)) → Zc (.ref c) d oe → (∃ vs, oe.data = .fields vs) → sp a c d vs H Q E →
      ∃ t, PSs (cxH CX P w K mg base N qual scope f cdv A outer s H E (a, oe)) body t ∧ t { nx := fun _ H' => Q .non H', rt := Q } (L2.start N vs) H) :
    FnX P w K mg base CX (k + 1) f (PySem.W.fnOf name qual params body scope dV kV doc pm an cdv ct) ps sp := by
  refine ⟨len, fun A outer s H args us vs Q E a c d oe hr hpin hz hf e0 hb r hsp => ?_⟩
  have hl := len _ _ _ _ _ _ _ hsp
  have KX : K.In s.heap := e0.mod.kin.keeps fun b o e => (e0.bs b o e).1
  have lim : s.heap.NoLimit := e0.mod.nolimit.keeps fun b o e => (e0.bs b o e).1
  have hkind : ∀ y ∈ ps.zip us, scope.names.lookup y.1 = some .local ∨ (scope.names.lookup y.1 = some .cell ∧ ((cellsFrom (s.heap.objs.size + 1) scope.names []).lookup y.1).isSome = true) := fun ⟨n, v⟩ hy => by
    rcases S.par n (List.of_mem_zip hy).1 with q | q
    · exact .inl q
    · exact .inr ⟨q, PySem.W.cellsFrom_some _ _ _ (.inl q)⟩
  refine codeAny_call_function hr.depth (KX _ _ lk) rfl S.co S.gen rfl (PySem.W.codeRec_of KX hcd) (hb _ _ _ _ ?_)
  refine wpAny_newFunctionEnv_cells S.kind hkind fun env he s1 x => ?_
  subst he
  refine ⟨lim.keeps x.toInCall.keep, codeAny_func ?_⟩
  obtain ⟨t, ht, hq⟩ := hbody A outer s H vs Q E a c d oe (hr.deeper _) hz hf hsp
  have I : Inv (cxH CX P w K mg base N qual scope f cdv A outer s H E (a, oe)) [] (L2.start N vs) H s1 := L2H.inv_startH S hpin e0 hl r x
  refine wpAny_mono (ht.run [] s1 (L2.start N vs) H _ I hq) (fun fl s' hs => ?_) fun e s' hs => hs
  have fin : ∀ {σ' : L2.St} {H' : Hp} {v : V} {u : Value}, Inv (cxH CX P w K mg base N qual scope f cdv A outer s H E (a, oe)) [] σ' H' s' → RelV v u → Q v H' → CE outer P w H s Q u s' :=
    fun {σ' H' v u} J rv q => ⟨v, H', J.os, J.bare, J.base, J.hok, rv, q⟩
  cases fl with
  | ret u =>
    obtain ⟨v, σ', H', J, rv, q⟩ := hs
    exact fin J rv q
  | next =>
    obtain ⟨σ', H', J, q⟩ := hs
    exact fin (v := V.non) (u := Value.none) J rfl q
  | brk =>
    obtain ⟨_, _, _, q⟩ := hs
    exact False.elim q
  | cont =>
    obtain ⟨_, _, _, q⟩ := hs
    exact False.elim q
section
variable {P : Program} {w : World} {K : PySem.W.Frag} {mg : Str → Option Value} {base : Heap} {x qual : Str} {params : Arguments} {body : List Stmt} {scope : Scope} {dvs : List V} {kws : List (Str × V)} {f : Addr} {fd : FuncData}
theorem fn_dX {N ps : List Str} {k : Nat} {sp : Addr → Addr → Option Addr → DSp} (F : FunD K x qual params body scope dvs kws f fd) (S : FnScope N ps scope) (len : ∀ a c d ds m Q E, sp a c d ds m Q E → ds.length = ps.length) (t : Addr → Addr → Option Addr → DTS)
    (hb : ∀ (cdv : Value) (A : Around) (outer : List Env) (s : Shared) (H : Hp) (E : XK) (ea ec : Addr) (ed : Option Addr) (oe : Obj), RoomH k (A.deeper (envOfC qual scope s.heap.objs.size f cdv)) → Zc (.ref ec) ed oe → (∃ vs, oe.data = .fields vs) →
      DSs (cxH (L2.CX P w) P w K mg base N qual scope f cdv A outer s H E (ea, oe)) W0 WD0 body (t ea ec ed))
    (pure_ : ∀ a c d ds m Q E, sp a c d ds m Q E → t a c d { nx := fun _ m => Q .non m, rt := Q } (startD N ds) m) : FnX P w K mg base (L2.CX P w) (k + 1) f fd ps (fun a c d => liftSp K (sp a c d)) := by
  obtain ⟨oc, od, dV, kV, doc, pm, an, cdv, ct, osl, rfl, lk, hcd, _, _⟩ := F.ex
  refine fn_ofX lk hcd S (fun a c d vs H Q E h => ?_) fun A outer s H vs Q E a c d oe hr hz hf h => ?_
  · obtain ⟨G, F, m, ds, QD, ED, rep, rs, hs, _⟩ := h
    rw [← rs.length]
    exact len a c d ds m QD ED hs
  · obtain ⟨G, F, m, ds, QD, ED, rep, rs, hs, kv, kx⟩ := h
    refine ⟨_, hb cdv A outer s H E a c d oe hr hz hf, ?_⟩
    refine ⟨G, F, startD N ds, m, _, ⟨rep, rs_start rs, Lx.no⟩, pure_ a c d ds m QD ED hs, ⟨fun G' H' m' r' s' e r rs' q => kv G' H' m' _ _ e r .non q, kv, ?_, ?_⟩⟩
    · exact fun _ _ _ _ _ _ _ _ q => q.elim
    · exact fun _ _ _ _ _ _ _ _ q => q.elim
end
section
variable {X : Cx} {W : WX} {WD : DWX} {k : Nat} {f : Addr} {fd : FuncData} {ps : List Str} {sp : Addr → Addr → Option Addr → DSp} {x : Str} {p pos : Pos} {e : Expr} {es : List Expr} {t : DTA} {a c : Addr} {d : Option Addr} {oe : Obj}
theorem run_fnX {CX : CXT} {sp : Addr → Addr → Option Addr → Sp} {E : L2.St → XK} {pins : List (Addr × Obj)} {σ : L2.St} {H : Hp} {s : Shared} {Q : VK} {us : List Value} {vs : List V} (F : FnX X.prog X.w X.K X.mg X.base CX k f fd ps sp) (hr : RoomH k X.A) (hp : (a, oe) ∈ X.pn) (hz : Zc (.ref c) d oe) (hv : ∃ vs, oe.data = .fields vs) (hb : Binds X.K fd ps []) (hx : PassesAt CX X σ (E σ))
    (I : Inv X pins σ H s) (r : Vals vs us) (h : sp a c d vs H Q (E σ)) : wpAny (model X.prog X.w) X.A (call (.ref f) us) (EP X pins σ Q) X.xe s := by
  have hl : us.length = ps.length := by rw [← r.length]; exact F.len _ _ _ _ _ _ _ h
  have b := hb s us I.kIn (by rw [List.append_nil]; exact hl)
  rw [List.append_nil] at b
  have P1 := I.pin (a, oe) (List.mem_append_left _ hp)
  have hpin : PinOk X.stack H s (a, oe) := ⟨P1.1, P1.2.1, fun hm => (List.mem_cons.mp (I.stkSub a hm)).elim P1.2.2.1 P1.2.2.2.1, P1.2.2.2.2⟩
  refine wpAny_call (codeAny_mono (F.run X.A X.stack s H ⟨us, []⟩ us vs Q (E σ) a c d oe hr hpin hz hv I.env0 b r h) fun r s' hq => ?_)
  cases r with
  | error e => exact hx pins H s e s' I hq
  | ok fl =>
    cases fl with
    | ret u => exact I.after hq
    | next => exact False.elim hq
    | brk => exact False.elim hq
    | cont => exact False.elim hq
theorem roomS {a : Addr} {pn : List (Addr × Obj)} (r : Room k X.A) : RoomH k (X.suite a pn).A := ⟨r.dp, r.un⟩
theorem de_callX (F : FnX X.prog X.w X.K X.mg X.base (L2.CX X.prog X.w) k f fd ps (fun a c d => liftSp X.K (sp a c d))) (hr : RoomH k X.A) (hp : (a, oe) ∈ X.pn) (hz : Zc (.ref c) d oe) (hv : ∃ vs, oe.data = .fields vs) (hg : Gl X x) (hm : X.mg x = some (.ref f)) (hk : PySem.W.keepIn X.K (.ref f) = true) (hb : Binds X.K fd ps []) (tk : Takes X W)
    (ha : DA X W WD (e :: es) t) (hdb : (x == ("__debug__" : Str)) = false := by decide) (he : starEach (e :: es) X.env = (false, eval e X.env) :: starEach es X.env := by rfl) (hpl : (backTo pos (starEach es X.env)).any (·.1) = false := by rfl) :
    DE X W WD (.Call (.Name x p) (e :: es) [] pos) (dCall (sp a c d) WD [] t) := by
  refine PE.imp (t := tCallS (fun vs H Q E => liftSp X.K (sp a c d) vs H Q E) (WE W) (upA X.K W WD t)) ⟨fun pins s σ H Q I h => ?_⟩ fun σ H Q h => ?_
  · refine wpAny_Call_Name_kw (ld_glob I hg hm ?_ hdb)
    refine PySem.W.callWith_K (h₀ := X.base) I.ok.mod.kin hk (thn (ha.run pos pins s σ H _ I h) fun us s1 ⟨vs, H1, I1, r, q⟩ => ⟨I1.kIn, ?_⟩) he hpl
    exact run_fnX F hr hp hz hv hb (passAt tk σ) I1 r q
  · obtain ⟨G, F, r, m, QD, x, t, k⟩ := h
    refine ⟨G, F, r, m, _, x, t, fun G1 H1 m1 ds vs e1 r1 p1 t1 => ?_⟩
    rw [List.append_nil] at t1
    exact lift_call (x.step e1 r1) p1 t1 (k.mono e1)
theorem pe_xfP {C : Addr} {cls : Value} {e : Expr} {te : TE} {pos : Pos} {n : Str} (hp : (a, oe) ∈ X.pn) (T : XfC X.K C) (hno : PySem.W.findIn X.K (.ref C) n = some none)
    (hz : Zc cls d oe) (hf : ∃ vs, oe.data = .fields vs) (he : PE X e te) (hb : attributeBase e n X.env (eval e X.env) = eval e X.env := by rfl) : PE X (.Attribute e n pos) (tXf a cls d C n te) := by
  refine ⟨fun pins s σ H Q I h => ?_⟩
  refine attr_of hb (thn (he.run pins s σ H _ I h) fun u s1 hh => ?_)
  obtain ⟨x, H1, I1, rx, ex, ec, dd, fs, v, ed, ea, l, q⟩ := hh
  subst ex
  obtain rfl : u = Value.ref a := rx
  subst ec
  subst ed
  obtain ⟨ha, _⟩ := I1.pin (a, oe) (List.mem_append_left _ hp)
  obtain ⟨vs, hd⟩ := hf
  have hx : ObjOk X.prog X.w H1 s1.heap dd (.xd fs) := I1.hok dd _ ea
  obtain ⟨mA, hns, hr⟩ := hx
  obtain ⟨od, ho, hl⟩ := lookIn_ns hns
  obtain ⟨u, hu, ru⟩ := RelO.some_of (v := v) (o := mA n) (by rw [← l]; exact hr n)
  have J : PySem.W.InstAt s1.heap a oe C (some od) := ⟨ha, hz.1, by unfold PySem.W.notCls; rw [hd] <;> rfl, by rw [hz.2]; exact ho⟩
  exact HandSPX.exc_get I1.kIn J T.ga T.gg T.exC (PySem.W.findObj_own T.hdC hno rfl (by rw [hl, hu])) (handed_of ru) ⟨v, H1, I1.tok _, ru, q⟩
theorem de_xfP {C : Addr} {te : DTE} {f : Str} (hp : (a, oe) ∈ X.pn) (T : XfC X.K C) (hno : PySem.W.findIn X.K (.ref C) f = some none) (hz : Zc (.ref c) d oe) (hf : ∃ vs, oe.data = .fields vs)
    (he : DE X W WD e te) (hb : attributeBase e f X.env (eval e X.env) = eval e X.env := by rfl) : DE X W WD (.Attribute e f pos) (dXf a c d C f te) := by
  refine PE.imp (pe_xfP hp T hno hz hf he hb) fun σ H Q h => ?_
  obtain ⟨G, F, r, m, QD, x, t, k⟩ := h
  refine ⟨G, F, r, m, _, x, t, fun G1 H1 m1 d1 v1 e1 r1 p1 t1 => ?_⟩
  obtain ⟨fs, y, rfl, rfl, hl, q⟩ := t1
  cases p1 with
  | exn0 a => cases hl
  | exnS h1 h2 =>
    obtain ⟨v, hv, rv⟩ := rpf_look h2 hl
    exact ⟨rfl, rfl, _, _, v, rfl, r1.ext _ _ h1, hv, k G1 H1 m1 y v e1 r1 rv q⟩
theorem call_isXP (hp : (a, oe) ∈ X.pn) (hz : Zc (.ref c) d oe) (hv : ∃ vs, oe.data = .fields vs) : CallR X (.builtin "isinstance") (rIsX X.K a c d) := by
  intro pins s σ H xs us Q I r h
  obtain ⟨c', cv, b, rfl, hcv, C, hd, e, q⟩ := h
  cases r with
  | cons rx rr =>
    cases rr with
    | cons rt rr =>
      cases rr
      cases rx
      have ec' : ∀ u, RelV c' u → u = cv := fun u ru => by
        cases hcv <;> cases ru <;> rfl
      have ec' := ec' _ rt
      subst ec'
      obtain ⟨hget, _⟩ := I.pin (a, oe) (List.mem_append.mpr (.inl hp))
      obtain ⟨vs, hv⟩ := hv
      have cl : (PySem.W.clsIn X.K c).isSome = true := by
        have h1 := C.hd
        unfold PySem.W.hasDictIn at h1
        cases hc : PySem.W.clsIn X.K c with
        | none => rw [hc] at h1; cases h1
        | some _ => rfl
      obtain ⟨od, J⟩ : ∃ od, PySem.W.InstAt s.heap a oe c od := by
        rcases hd with rfl | ⟨dd, fs, rfl, hdd⟩
        · exact ⟨none, hget, hz.1, by unfold PySem.W.notCls; rw [hv], by rw [hz.2]; trivial⟩
        · obtain ⟨mA, hns, _⟩ : ObjOk X.prog X.w H s.heap dd (.xd fs) := I.hok dd _ hdd
          obtain ⟨od, ho, _⟩ := lookIn_ns hns
          exact ⟨some od, hget, hz.1, by unfold PySem.W.notCls; rw [hv], by rw [hz.2]; exact ho⟩
      exact PySem.W.kia_one (PySem.W.kitx_exc cl C.hg C.hk C.hs C.ha C.hn C.ht C.hm) I.kIn J e (fun z => nomatch z) fun tk => ⟨.bl b, H, I.kept (t' := tk) fun _ _ z => z, rfl, q⟩
end
structure GoodX (P : Program) (w : World) (K : Fr0) (mg : Str → Option Value) (base : Heap) (k : Nat) (x : Str) (f : Addr) (ps : List Str) (sp : Addr → Addr → Option Addr → DSp) : Prop where
  ex : ∃ fd, FnX P w K mg base (L2.CX P w) k f fd ps (fun a c d => liftSp K (sp a c d)) ∧ Binds K fd ps [] ∧ PySem.W.keepIn K (.ref f) = true
  gl : mg x = some (.ref f)
end DL

set_option Elab.async false
set_option linter.all false
set_option maxRecDepth 100000
set_option maxHeartbeats 4000000
namespace DL
open PySem PySem.Spec PyProof.Rows L2
mutual
def noK : D → Bool
  | .dki _ => false
  | .lst xs => noKs xs
  | .rdl xs => noKs xs
  | .tup xs => noKs xs
  | .ins _ fs => noKf fs
  | .exn _ _ fs => noKf fs
  | .obj _ d => noK d
  | .non => true
  | .bl _ => true
  | .int _ => true
  | .str _ => true
  | .ty _ => true
  | .ref _ => true
  | .dti _ => true
  | .clo _ _ _ _ _ => false
def noKs : List D → Bool
  | [] => true
  | x :: xs => noK x && noKs xs
def noKf : List (Str × D) → Bool
  | [] => true
  | (_, x) :: xs => noK x && noKf xs
end
def noKk {κ : Type} : List (κ × D) → Bool
  | [] => true
  | (_, x) :: xs => noK x && noKk xs
def noKM : MO → Bool
  | .lst xs => noKs xs
  | .dK kvs => noKk kvs
  | .dT kvs => noKk kvs
  | .ins _ fs => noKf fs
  | .fn _ => true
section
variable {K : PySem.W.Frag} {G G' : Hp}
theorem NoF.sqt (e : NoF G G') {a : Addr} {xs : List V} (h : SqT K G a xs) : SqT K G' a xs := by
  rcases h with (h | ⟨o, h⟩) | h
  · exact .inl (.inl (e _ _ h (fun _ _ z => by cases z)))
  · exact .inl (.inr ⟨o, e _ _ h (fun _ _ z => by cases z)⟩)
  · exact .inr h
theorem NoF.tpk (e : NoF G G') {a : Addr} {xs : List V} (h : TpK K G a xs) : TpK K G' a xs := ⟨e.sqt h.1, h.2.imp _root_.id fun z => e _ _ z (fun _ _ z => by cases z)⟩
theorem ba2 {a b : Bool} (h : (a && b) = true) : a = true ∧ b = true := by cases a <;> cases b <;> simp_all
mutual
theorem Rp.noF (e : NoF G G') : ∀ {d : D} {v : V}, Rp K G d v → noK d = true → Rp K G' d v
  | _, _, .non, _ => .non
  | _, _, .bl b, _ => .bl b
  | _, _, .int i, _ => .int i
  | _, _, .str x, _ => .str x
  | _, _, .ty n, _ => .ty n
  | _, _, .ref a, _ => .ref a
  | _, _, .lst h r, n => .lst (e _ _ h (fun _ _ z => by cases z)) (Rps.noF e r n)
  | _, _, .rdl h r, n => .rdl (e.seq h) (Rps.noF e r n)
  | _, _, .tup h r, n => .tup (e.tpk h) (Rps.noF e r n)
  | _, _, .ins h r, n => .ins (e _ _ h (fun _ _ z => by cases z)) (Rpf.noF e r n)
  | _, _, .exn0 a, _ => .exn0 a
  | _, _, .exnS h r, n => .exnS (e _ _ h (fun _ _ z => by cases z)) (Rpf.noF e r n)
  | _, _, .dki h, n => nomatch n
  | _, _, .dti h, _ => .dti (e _ _ h (fun _ _ z => by cases z))
  | _, _, .obj h, n => .obj (Rp.noF e h n)
  | _, _, .clo _ h, n => nomatch n
theorem Rps.noF (e : NoF G G') : ∀ {ds : List D} {vs : List V}, Rps K G ds vs → noKs ds = true → Rps K G' ds vs
  | _, _, .nil, _ => .nil
  | _, _, .cons r t, n => .cons (Rp.noF e r (ba2 n).1) (Rps.noF e t (ba2 n).2)
theorem Rpf.noF (e : NoF G G') : ∀ {ds : List (Str × D)} {vs : List (Str × V)}, Rpf K G ds vs → noKf ds = true → Rpf K G' ds vs
  | _, _, .nil, _ => .nil
  | _, _, .cons r t, n => .cons (Rp.noF e r (ba2 n).1) (Rpf.noF e t (ba2 n).2)
end
theorem Rpk.noF {κ : Type} (e : NoF G G') : ∀ {ds : List (κ × D)} {vs : List (κ × V)}, Rpk K G ds vs → noKk ds = true → Rpk K G' ds vs
  | _, _, .nil, _ => .nil
  | _, _, .cons r t, n => .cons (r.noF e (ba2 n).1) (Rpk.noF e t (ba2 n).2)
theorem RpM.noF (e : NoF G G') {m : MO} {o : HO} (h : RpM K G m o) (n : noKM m = true) : RpM K G' m o := by
  cases m with
  | lst ds => cases o with
    | lst vs => exact Rps.noF e h n
    | _ => exact h.elim
  | dK ds => cases o with
    | dK vs => exact Rpk.noF e h n
    | _ => exact h.elim
  | dT ds => cases o with
    | dT vs => exact Rpk.noF e h n
    | _ => exact h.elim
  | ins C fs => cases o with
    | ins C' dx fv => exact ⟨h.1, h.2.noF e n⟩
    | _ => exact h.elim
  | fn ob => cases o with
    | frz ob' u => exact h
    | _ => exact h.elim
end
section
variable {K : PySem.W.Frag} {G G' : Hp} {p : Addr} {kvs : List (Key × Int)}
end
section
variable {X : Cx} {W : WX} {WD : DWX} {e : Expr} {te : DTE}
end
section
variable {K : PySem.W.Frag} {X : Cx}
end
section
variable {X : Cx} {pins : List (Addr × Obj)} {σ : L2.St} {H : Hp} {s : Shared}
end
section
variable {K : PySem.W.Frag} {X : Cx}
end
section
variable {X : Cx} {W : WX} {WD : DWX} {e : Expr} {te : DTE}
end
end DL

set_option Elab.async false
set_option linter.all false
set_option maxRecDepth 100000
set_option maxHeartbeats 4000000
namespace DL
open PySem PySem.Spec PyProof.Rows L2 PySem.W
open L2H (RoomH PinOk cxH)
section
variable {prog : Program} {w : World} {A : Around} {E : Value → Shared → Prop} {s : Shared} {env : Env} {K : PySem.W.Frag} {x C fe fx : Addr} {ox : Obj} {od : Option Obj} {pos : Pos}
end
section
variable {X : Cx} {fe fx C : Addr} {fde fdx : FuncData} {ctx : Expr} {body : List Stmt} {pos : Pos} {te : TE} {tb : WX → TS} {spE spX : Sp} {spH : Addr → Addr → Option Addr → Sp} {W : WX} {k j i : Nat} {dfe dfx dfh : FuncData}
end
section
variable {X : Cx} {W : WX} {WD : DWX} {k n : Nat} {f C : Addr} {fd : FuncData} {ps ks : List Str} {sp : DSp} {dvs : List V} {dds : List D} {ds : List Value} {x : Str} {p pos : Pos} {e : Expr} {es : List Expr} {kws : List Keyword} {t tk : DTA}
end
end DL
set_option Elab.async false
set_option linter.all false
set_option maxRecDepth 100000
set_option maxHeartbeats 4000000
namespace DL
open PySem PySem.Spec PyProof.Rows L2
section
variable {K : PySem.W.Frag} {X : Cx} {W : WX} {WD : DWX} {a b o i e : Expr} {ta tb td ty tv : DTE} {pos pos' : Pos}
end
end DL

set_option Elab.async false
set_option linter.all false
set_option maxRecDepth 100000
set_option maxHeartbeats 4000000
namespace DL
open PySem PySem.Spec PyProof.Rows L2
section
variable {X : Cx} {W : WX} {WD : DWX}
end
end DL

set_option Elab.async false
set_option linter.all false
set_option maxRecDepth 100000
set_option maxHeartbeats 4000000
namespace PySem
open PyProof.Rows L2
section
variable {P : Program} {w : World} {A : Around} {E : Value → Shared → Prop} {s : Shared}
end
end PySem
namespace DL
open PySem PySem.Spec PyProof.Rows L2
section
variable {X : Cx} {W : WX} {WD : DWX}
end
end DL

set_option Elab.async false
set_option linter.all false
set_option maxRecDepth 100000
set_option maxHeartbeats 4000000
namespace ZL
open PySem PySem.Spec PyProof.Rows L2 RZ
section
variable {P : Program} {w : World} {A : Around} {E : Value → Shared → Prop} {s : Shared}
abbrev ZOut (h : Heap) (q tI tO T : Addr) (f : Bool) : Prop := h.get? q = some { cls := .type "zip", dict := none, data := .fields #[rawInt T, .bool f, .bool false, .ref tI, .ref tO], slots := #[] }
structure ZSt (h : Heap) (q tI tO j1 j2 t1 t2 : Addr) (i : Nat) (as : List Addr) : Prop where
  hI : IsPair h tI (.ref j1) (.ref j2)
  h1 : h.IsTupleIter j1 t1 i
  h2 : h.IsTupleIter j2 t2 i
  z : (as = [] ∧ IsZip h q tI tO .none ∧ ∃ x y, IsPair h tO x y) ∨ ∃ T f, ZOut h q tI tO T f ∧ T ∈ as
variable {R : Result → Shared → Prop} {vs : List (Key × Value)}
end
section
variable {X : Cx} {W : WX} {WD : DL.DWX}
open LiI (putT putT_off putT_at paired_ix)
theorem str_vals : ∀ {zs : List Str} {us : List Value}, Vals (zs.map V.str) us → ∀ i : Nat, i < zs.length → ∃ t, us.toArray[i]? = some (Value.str (zs.getD i "") t)
  | [], _, .nil, i, h => by simp at h
  | z :: zs, _, .cons r t, i, h => by
    cases i with
    | zero =>
      obtain ⟨k, rfl⟩ := r
      exact ⟨k, by simp⟩
    | succ i =>
      obtain ⟨k, e⟩ := str_vals t i (by simpa using h)
      exact ⟨k, by simpa using e⟩
end
end ZL
namespace DL
open PySem PySem.Spec PyProof.Rows L2 ZL
section
variable {X : Cx} {W : WX} {WD : DWX}
end
end DL

set_option Elab.async false
set_option linter.all false
set_option maxRecDepth 100000
set_option maxHeartbeats 4000000
namespace DL
open PySem PySem.Spec PyProof.Rows L2
open PySem.SeqAt
section
variable {X : Cx} {W : WX} {WD : DWX}
end
end DL

set_option Elab.async false
set_option linter.all false
set_option maxRecDepth 100000
set_option maxHeartbeats 4000000
namespace DL
open PySem PySem.Spec PyProof.Rows L2
section
variable {K : PySem.W.Frag} {X : Cx} {W : WX} {WD : DWX}
end
end DL

set_option Elab.async false
set_option linter.all false
set_option maxRecDepth 100000
set_option maxHeartbeats 4000000
namespace DL
open PySem PySem.Spec PyProof.Rows L2
open HT
section
variable {X : Cx} {W : WX} {WD : DWX}
end
end DL

set_option Elab.async false
set_option linter.all false
set_option maxRecDepth 100000
set_option maxHeartbeats 4000000
namespace DL
open PySem PySem.Spec PyProof.Rows L2 LamX
structure CloB (base : Heap) (F : CF) (fr : List Str) (a : Addr) (vs : List V) : Prop where
  ob : ∃ doc pm ctv od sl, base.get? a = some (F.ob doc pm ctv od sl)
  inj : ∀ x y c, F.cl.lookup x = some c → F.cl.lookup y = some c → x = y
  all : ∀ y c, F.cl.lookup y = some c → ∃ v, base.IsCell c v
  len : vs.length = fr.length
  has : ∀ (i : Nat) (y : Str), fr[i]? = some y → ∃ c, F.cl.lookup y = some c ∧ ∀ v, vs[i]? = some v → ∃ u, L2.RelV v u ∧ base.IsCell c (some u)
theorem CloB.cells {base h : Heap} {H : Hp} {F : CF} {fr : List Str} {a : Addr} {vs : List V} (C : CloB base F fr a vs) (bs : ∀ b o, base.get? b = some o → h.get? b = some o ∧ H b = none) : NdefX.CellsAt F.cl fr (vs.map some) h H := by
  refine ⟨by rw [List.length_map]; exact C.len, fun y c e => ?_, C.inj, fun i y e => ?_⟩
  · obtain ⟨v, o, ho, hd⟩ := C.all y c e
    obtain ⟨h1, h2⟩ := bs c o ho
    exact ⟨h2, v, o, h1, hd⟩
  · obtain ⟨c, hc, hv⟩ := C.has i y e
    refine ⟨c, hc, fun v ev => ?_⟩
    rw [List.getElem?_map] at ev
    cases q : vs[i]? with
    | none => rw [q] at ev; cases ev
    | some w =>
      rw [q] at ev
      cases ev
      obtain ⟨u, r, o, ho, hd⟩ := hv _ q
      exact ⟨u, r, o, (bs c o ho).1, hd⟩
section
variable {P : Program} {w : World} {K : Fr0} {mg : Str → Option Value} {base : Heap} {j k : Nat} {fv gv : FV}
end
section
variable {P : Program} {w : World} {K : Fr0} {mg : Str → Option Value} {base : Heap} {k : Nat} {F : CF} {fr ps N : List Str} {a : Addr} {vs : List V} {spk : List D → DSp}
end
end DL

set_option Elab.async false
set_option linter.all false
set_option maxRecDepth 100000
set_option maxHeartbeats 4000000
namespace DL
open PySem PySem.Spec PyProof.Rows L2 LamX
section
variable {X : Cx} {W : WX} {WD : DWX} {k i : Nat} {fv : FV} {x : Str} {p pos : Pos} {e : Expr} {es : List Expr} {t : DTA}
end
section
variable {X : Cx} {pins : List (Addr × Obj)} {σ : L2.St} {H : Hp} {s : Shared}
end
section
variable {X : Cx} {W : WX} {WD : DWX}
end
end DL

set_option Elab.async false
set_option linter.all false
set_option maxRecDepth 100000
set_option maxHeartbeats 4000000
namespace DL
open PySem PySem.Spec PyProof.Rows L2 LamX
section
variable {M : Model} {Γ : PySem.Ctx} {p : Pos} {t : Sem Fin} {fs : List Frame} {s s' : Shared} {e : End}
end
section
variable {α ι : Type} {M : Model}
end
end DL

set_option Elab.async false
set_option linter.all false
set_option maxRecDepth 100000
set_option maxHeartbeats 4000000
namespace DL
open PySem PySem.Spec PySem.W PyProof.Rows L2 LamX
end DL

set_option Elab.async false
set_option linter.all false
set_option maxRecDepth 100000
set_option maxHeartbeats 4000000
namespace DL
open PySem PySem.Spec PyProof.Rows L2 LamX
section
variable {X : Cx} {W : WX} {WD : DWX} {o e : Expr} {to te : DTE} {apos cpos : Pos}
end
section
variable {X : Cx} {W : WX} {WD : DWX}
end
end DL

set_option Elab.async false
set_option linter.all false
set_option maxRecDepth 100000
set_option maxHeartbeats 4000000
namespace DL
open PySem PySem.Spec PyProof.Rows L2 LamX
section
variable {P : Program} {w : World} {K : Fr0} {mg : Str → Option Value} {base : Heap} {x qual : Str} {params : Arguments} {body : List Stmt} {scope : Scope} {dvs : List V} {kws : List (Str × V)} {f : Addr} {fd : FuncData}
end
end DL

set_option Elab.async false
set_option linter.all false
set_option maxRecDepth 100000
set_option maxHeartbeats 4000000
namespace DL
open PySem PySem.Spec PySem.W PyProof.Rows L2
end DL

set_option Elab.async false
set_option linter.all false
set_option maxRecDepth 100000
set_option maxHeartbeats 4000000
namespace DL
open PySem PySem.Spec PyProof.Rows L2 LamX
def hdel (H : Hp) (a : Addr) : Hp := fun b => if b = a then none else H b
section
variable {P : Program} {w : World} {H H2 : Hp} {h h' : Heap} {a : Addr} {ob : Obj} {fs : List Addr}
end
section
variable {X : Cx} {pins : List (Addr × Obj)} {σ : L2.St} {H : Hp} {s : Shared}
end
end DL

set_option Elab.async false
set_option linter.all false
set_option maxRecDepth 100000
set_option maxHeartbeats 4000000
namespace DL
open PySem PySem.Spec PyProof.Rows L2 LamX
section
variable {X : Cx} {pins : List (Addr × Obj)} {σ : L2.St} {H : Hp} {s : Shared}
end
section
variable {X : Cx} {W : WX} {WD : DWX}
end
end DL

set_option Elab.async false
set_option linter.all false
set_option maxRecDepth 100000
set_option maxHeartbeats 4000000
namespace DL
open PySem PySem.Spec PyProof.Rows L2 LamX
section
variable {X : Cx} {W : WX} {WD : DWX} {pins : List (Addr × Obj)} {σ : L2.St} {s : Shared}
end
end DL

set_option Elab.async false
set_option linter.all false
set_option maxRecDepth 100000
set_option maxHeartbeats 4000000
namespace DL
open PySem PySem.Spec PyProof.Rows L2 LamX
end DL

set_option Elab.async false
set_option linter.all false
set_option maxRecDepth 100000
set_option maxHeartbeats 4000000
namespace DL
open PySem PySem.Spec PySem.W PyProof.Rows L2
end DL

set_option Elab.async false
set_option linter.all false
set_option maxRecDepth 100000
set_option maxHeartbeats 4000000
namespace DL
open PySem PySem.Spec PyProof.Rows L2
open He (ga ma eqO eqO_ok ba)
section
variable {X : Cx} {e : Expr} {es : List Expr} {ta : TA} {p pos : Pos}
end
section
variable {X : Cx} {W : WX} {WD : DWX} {x : Str} {p pos : Pos} {C fI : Addr} {fs ps : List Str} {k : Nat} {fd : FuncData} {e : Expr} {es : List Expr} {ta : DTA}
end
theorem kitUpT_of {cs : List Str} {K : Fr0} {T : String} {b : Bool} (h : kitUpT cs T b K = true) {i : Nat} {c : Str} (e : cs[i]? = some c) : PySem.W.kitOne K (.ref (ga K c)) (.type T) = some b := of_decide_eq_true (List.all_eq_true.mp h c (List.mem_of_getElem? e))
end DL

set_option Elab.async false
set_option linter.all false
set_option maxRecDepth 100000
set_option maxHeartbeats 4000000
namespace DL
open PySem PySem.Spec PyProof.Rows L2
section
variable {X : Cx} {W : WX} {WD : DWX}
end
end DL

set_option Elab.async false
set_option linter.all false
set_option maxRecDepth 100000
set_option maxHeartbeats 4000000
namespace DL
open PySem PySem.Spec PyProof.Rows L2
def dSplit (mt : Bool) : DRM := fun x ds m Q => ∃ a b, x = .str a ∧ ds = [.str b] ∧ (b.length == 0) = false ∧ a.length + 2 ≤ sizeLine ∧ mkL mt ((PySem.Txt.split a b).map D.str) m Q
theorem md_split {K : PySem.W.Frag} (mt : Bool) : MtD K "str" (fun x xs H Q => ∃ a b, x = .str a ∧ xs = [.str b] ∧ (b.length == 0) = false ∧ a.length + 2 ≤ sizeLine ∧ rNewStrs (PySem.Txt.split a b) H Q) isS (dSplit mt) := by
  refine ⟨(md_upper (K := K)).1, fun G H F m x vx ds vs QD Q r rx ps t k => ?_⟩
  obtain ⟨a, b, rfl, rfl, hb, hz, t⟩ := t
  cases rx
  obtain ⟨v, rfl, p⟩ := rps1 ps
  cases p
  exact ⟨a, b, rfl, rfl, hb, hz, fun p hp => mkL_ok k r (rps_strs _) hp t⟩
def dIntS : DRC := fun ds m Q => ∃ a n, ds = [.str a] ∧ PySem.intText? a = some n ∧ a.length ≤ 640 ∧ Q (.int n) m
theorem cd_intS {K : PySem.W.Frag} : CallD K (fun xs H Q => ∃ a n, xs = [.str a] ∧ PySem.intText? a = some n ∧ a.length ≤ 640 ∧ Q (.int n) H) dIntS := by
  intro G H F m ds vs QD Q r ps t k
  obtain ⟨a, n, rfl, hn, hl, t⟩ := t
  obtain ⟨v, rfl, p⟩ := rps1 ps
  cases p
  exact ⟨a, n, rfl, hn, hl, k G H m _ _ (Same.refl G) r (.int n) t⟩
inductive Caps (X : Cx) : List Pattern → List Nat → List Str → Prop
  | nil : Caps X [] [] []
  | cons {i : Nat} {n : Str} {pos : Pos} {ps is ns} (hi : X.N[i]? = some n) (hx : Loc X.env.scope n) (hf : X.fn n = true ∨ X.env.scope.names.lookup n = some .local) (h : Caps X ps is ns) : Caps X (.MatchAs none (some n) pos :: ps) (i :: is) (n :: ns)
theorem Caps.len1 {X : Cx} {ps is ns} (h : Caps X ps is ns) : ps.length = is.length ∧ ns.length = is.length := by
  induction h with
  | nil => exact ⟨rfl, rfl⟩
  | cons _ _ _ _ ih => exact ⟨congrArg (· + 1) ih.1, congrArg (· + 1) ih.2⟩
theorem Caps.nostar {X : Cx} {ps is ns} (h : Caps X ps is ns) : ps.findIdx? (·.isStar) = none := by
  induction h with
  | nil => rfl
  | cons _ _ _ _ ih => rw [List.findIdx?_cons, if_neg (by intro e; cases e), ih]; rfl
theorem caps_each {X : Cx} {M : Model} {A : Around} {E : Value → Shared → Prop} {s : Shared} {env : Env} {ps is ns} (h : Caps X ps is ns) : ∀ {us : List Value} {Q : Option (List (Str × Value)) → Shared → Prop}, us.length = is.length → Q (some (ns.zip us)) s → wpAny M A (matchEach ps env us) Q E s := by
  induction h with
  | nil => intro us Q hl hq; cases us with
    | nil => exact wpAny_matchEach_nil hq
    | cons u us => cases hl
  | @cons i n pos ps is ns _ _ _ _ ih => intro us Q hl hq; cases us with
    | nil => cases hl
    | cons u us => exact wpAny_matchEach_cons (wpAny_matchPattern_Capture (ih (Nat.succ.inj hl) hq))
def setsD (r : DSt) : List Nat → List D → DSt
  | i :: is, d :: ds => setsD (r.set i (some d)) is ds
  | _, _ => r
def setsV (r : L2.St) : List Nat → List V → L2.St
  | i :: is, d :: ds => setsV (r.set i (some d)) is ds
  | _, _ => r
theorem rs_sets {K : PySem.W.Frag} {G : Hp} : ∀ {is : List Nat} {ds : List D} {vs : List V} {r : DSt} {σ : L2.St}, Rs K G r σ → Rps K G ds vs → Rs K G (setsD r is ds) (setsV σ is vs)
  | [], [], _, _, _, x, .nil => x
  | [], _ :: _, _, _, _, x, .cons _ _ => x
  | _ :: _, [], _, _, _, x, .nil => x
  | i :: is, _ :: _, _, _, _, x, .cons p ps => rs_sets (is := is) (Rs.set (i := i) x p) ps
theorem caps_bind {X : Cx} {M : Model} {A : Around} {E : Value → Shared → Prop} {pins : List (Addr × Obj)} {H : Hp} {ps is ns} (hN : X.N.Nodup) (h : Caps X ps is ns) : ∀ {s : Shared} {σ : L2.St} {us : List Value} {vs : List V} {Q : Unit → Shared → Prop}, Inv X pins σ H s → Vals vs us → us.length = is.length →
    (∀ s', Inv X pins (setsV σ is vs) H s' → Q () s') → wpAny M A (assignInOrder ((ns.zip us).map fun (n, _) => bindName X.env n) ((ns.zip us).map (·.2))) Q E s := by
  induction h with
  | nil => intro s σ us vs Q I r hl hq; exact wpAny_assignInOrder_none (hq s I)
  | @cons i n pos ps is ns hi hx hf _ ih =>
    intro s σ us vs Q I r hl hq
    cases r with
    | nil => cases hl
    | cons p r => exact wpAny_assignInOrder_more (wpAny_bindName (store_ok I hN hi hx p (fun s1 I1 => ih I1 r (Nat.succ.inj hl) hq) hf))
def dCase (kw : Str) (is : List Nat) (t : DTS) (u : List Str → DTS) : List Str → DTS := fun ws DD r m =>
  if ws.head? = some kw ∧ ws.length = is.length + 1 then t DD (setsD r is (ws.tail.map D.str)) m else u ws DD r m
inductive DMs (X : Cx) (W : WX) (WD : DWX) : List MatchCase → (List Str → DTS) → Prop
  | last {pos : Pos} {body : List Stmt} {t : DTS} (h : DSs X W WD body t) : DMs X W WD [⟨.MatchAs none none pos, none, body⟩] (fun _ => t)
  | cons {kw : Str} {j : Nat} {p1 p2 p3 : Pos} {ps : List Pattern} {is : List Nat} {ns : List Str} {body : List Stmt} {rest : List MatchCase} {t : DTS} {u : List Str → DTS} (hp : Caps X ps is ns) (h : DSs X W WD body t) (hr : DMs X W WD rest u) :
      DMs X W WD (⟨.MatchSequence (.MatchValue (.Constant (.str kw) j p1) p2 :: ps) p3, none, body⟩ :: rest) (dCase kw is t u)
theorem PlainL.isList {h : Heap} {a : Addr} {its : Array Value} (x : PlainL h a its) : h.IsList a its := let ⟨o, n, e, c, _, d⟩ := x; ⟨o, e, c, n, d⟩
theorem str_vals : ∀ {ws : List Str} {us : List Value}, Vals (ws.map V.str) us → us.length = ws.length
  | [], _, .nil => rfl
  | _ :: ws, _, .cons _ r => congrArg (· + 1) (str_vals (ws := ws) r)
theorem vals_split {x : V} {xs : List V} {us : List Value} (h : Vals (x :: xs) us) : ∃ u us', us = u :: us' ∧ RelV x u ∧ Vals xs us' := by
  cases h with
  | cons p q => exact ⟨_, _, rfl, p, q⟩
theorem ms_run {X : Cx} {W : WX} {WD : DWX} (hc : X.calm = true) (hN : X.N.Nodup) {cases : List MatchCase} {T : List Str → DTS} (h : DMs X W WD cases T) : ∀ {pins : List (Addr × Obj)} {s : Shared} {σ : L2.St} {H G F : Hp} {E : Ends} {r : DSt} {m : M} {DD : DEnds} {ws : List Str} {a : Addr} {first : Bool},
    Inv X pins σ H s → Sx X.K W WD G H F r σ m → SqL X.K H a (ws.map V.str) → T ws DD r m → Lk X.K G F DD E → wpAny (model X.prog X.w) X.A (matchCases cases X.env (.ref a) first) (SP X pins E) X.xe s := by
  induction h with
  | last h =>
    intro pins s σ H G F E r m DD ws a first I x hs t k
    refine wpAny_matchCases_cons (wpAny_matchPattern_Capture ?_)
    refine wpAny_assignInOrder_none ?_
    exact h.run pins s σ H E I ⟨G, F, r, m, DD, x, t, k⟩
  | @cons kw j p1 p2 p3 ps is ns body rest tb u hp h hr ih =>
    intro pins s σ H G F E r m DD ws a first I x hs t k
    obtain ⟨its, ru, pl, hz⟩ := I.list hs
    have hfit : ((its.toArray.size : Nat) : Int) < 2 ^ 63 := by
      have := ru.length
      simp only [List.size_toArray]
      have : (sizeLine : Int) < 2 ^ 63 := by decide
      omega
    have hstar : (Pattern.MatchValue (.Constant (.str kw) j p1) p2 :: ps).findIdx? (·.isStar) = none := by
      rw [List.findIdx?_cons, if_neg (by intro e; cases e), hp.nostar]; rfl
    have hwild : ((Pattern.MatchValue (.Constant (.str kw) j p1) p2 :: ps).all fun p => p.isWildcard || (p.isStar && p.names.isEmpty)) = false := by
      rw [List.all_cons]; rfl
    have hlu : its.length = ws.length := str_vals ru
    have hlp : (Pattern.MatchValue (.Constant (.str kw) j p1) p2 :: ps).length = is.length + 1 := congrArg (· + 1) hp.len1.1
    refine wpAny_matchCases_cons ?_
    by_cases hn : ws.length = is.length + 1
    · refine matchSeq_list_hit (PlainL.isList pl) hfit (by rw [hlp, List.size_toArray]; omega) ?_ hstar hwild
      rw [show (Pattern.MatchValue (.Constant (.str kw) j p1) p2 :: ps).length = its.toArray.size by rw [hlp, List.size_toArray]; omega]
      refine PySem.W.kun_itemsOf (I.ok.hd hc) (PlainL.isList pl) fun h' he => ?_
      have I1 : Inv X pins σ H { s with heap := h', toks := s.toks + 1 + 1 } := I.kept fun b o e => he b o (Nat.ne_of_lt (Heap.lt_size e)) e
      clear hlu pl hfit he
      cases ws with
      | nil => cases hn
      | cons w ws =>
        obtain ⟨u0, its, rfl, r1, rv⟩ := vals_split (show Vals (V.str w :: ws.map V.str) its from ru)
        obtain ⟨tk, rfl⟩ := r1
        have hl2 : ws.length = is.length := Nat.succ.inj hn
        refine wpAny_matchEach_cons (wpAny_matchPattern_Value (Calls.Constant_str ?_))
        refine eq_str (wpAny_truthy_bool ?_)
        by_cases e : w = kw
        · rw [if_pos (by rw [e]; exact beq_self_eq_true _)]
          have hl3 := str_vals rv
          refine caps_each hp (by omega) ?_
          have t := (show (if (w :: ws).head? = some kw ∧ (w :: ws).length = is.length + 1 then tb DD (setsD r is ((w :: ws).tail.map D.str)) m else u (w :: ws) DD r m) from t)
          rw [if_pos ⟨by rw [e]; rfl, hn⟩] at t
          refine caps_bind hN hp (I1.tok _) rv (by omega) fun s' I' => ?_
          exact h.run pins s' _ H E I' ⟨G, F, _, m, DD, x.to (Same.refl G) x.rep (rs_sets x.rs (rps_strs ws)), t, k⟩
        · rw [if_neg (fun h => e (eq_of_beq h))]
          have t := (show (if (w :: ws).head? = some kw ∧ (w :: ws).length = is.length + 1 then tb DD (setsD r is ((w :: ws).tail.map D.str)) m else u (w :: ws) DD r m) from t)
          rw [if_neg (fun h => e (Option.some.inj h.1))] at t
          exact ih (I1.tok _) x hs t k
    · refine matchSeq_list_miss (PlainL.isList pl) hfit (by rw [hlp, List.size_toArray]; omega) ?_ hstar hwild
      have t := (show (if ws.head? = some kw ∧ ws.length = is.length + 1 then tb DD (setsD r is (ws.tail.map D.str)) m else u ws DD r m) from t)
      rw [if_neg (fun h => hn h.2)] at t
      exact ih (I.tok _) x hs t k
def dMatch (te : DTE) (T : List Str → DTS) : DTS := fun DD r m => te r m fun d m1 => ∃ ws : List Str, lsOf m1 d = some (ws.map D.str) ∧ T ws DD r m1
theorem ds_match {X : Cx} {W : WX} {WD : DWX} {e : Expr} {cases : List MatchCase} {pos : Pos} {te : DTE} {T : List Str → DTS} (hc : X.calm = true) (hN : X.N.Nodup) (he : DE X W WD e te) (h : DMs X W WD cases T) : DS X W WD (.Match e cases pos) (dMatch te T) := by
  refine ⟨fun pins s σ H D I q => ?_⟩
  obtain ⟨G, F, r, m, DD, x, t, k⟩ := q
  refine wpAny_Match (thn (he.run pins s σ H (fun v H1 => ∃ (G1 : Hp) (m1 : M) (a : Addr) (ws : List Str), v = .ref a ∧ Sx X.K W WD G1 H1 F r σ m1 ∧ SqL X.K H1 a (ws.map V.str) ∧ T ws DD r m1 ∧ Lk X.K G1 F DD D) I ⟨G, F, r, m, _, x, t, fun G1 H1 m1 d v e1 p1 q1 t1 => ?_⟩) fun v s1 ⟨y, H1, I1, r1, q1⟩ => ?_)
  · obtain ⟨ws, hw, t1⟩ := t1
    obtain ⟨a, us, rfl, hs, rs⟩ := ls_ok p1 q1 hw
    rw [rs.strs] at hs
    exact ⟨G1, m1, a, ws, rfl, x.step e1 p1, hs, t1, k.mono e1⟩
  · obtain ⟨G1, m1, a, ws, rfl, x1, hs, t1, k1⟩ := q1
    cases (show v = Value.ref a from r1)
    exact ms_run hc hN h I1 x1 hs t1 k1
end DL

set_option Elab.async false
set_option linter.all false
set_option maxRecDepth 100000
set_option maxHeartbeats 4000000
namespace DL
open PySem PySem.Spec PyProof.Rows L2
inductive FrzG : M → List D → List D → M → Prop
  | nil (m : M) : FrzG m [] [] m
  | keep {m m' : M} {x : D} {xs ys : List D} : FrzG m xs ys m' → FrzG m (x :: xs) (x :: ys) m'
  | lst {m m' : M} {a : Addr} {ds xs ys : List D} : m a = some (.lst ds) → FrzG (mdel m a) xs ys m' → FrzG m (.ref a :: xs) (.lst ds :: ys) m'
  | tup {m m1 m' : M} {zs ws xs ys : List D} : FrzG m zs ws m1 → FrzG m1 xs ys m' → FrzG m (.tup zs :: xs) (.tup ws :: ys) m'
theorem Rep.freezeG {K : PySem.W.Frag} {H F : Hp} : ∀ {m m' : M} {xs ys : List D}, FrzG m xs ys m' → ∀ {G : Hp} {vs : List V}, Rep K G H F m → Rps K G xs vs → ∃ G', Same G G' ∧ Rep K G' H F m' ∧ Rps K G' ys vs
  | _, _, _, _, .nil m, G, vs, r, q => ⟨G, fun _ _ h => h, r, q⟩
  | _, _, _, _, .keep t, G, _, r, .cons p q => by
    obtain ⟨G2, e2, r2, q2⟩ := Rep.freezeG t r q
    exact ⟨G2, e2, r2, .cons (p.mono e2) q2⟩
  | _, _, _, _, .lst h t, G, _, r, .cons p q => by
    cases p
    obtain ⟨G1, e1, r1, p1⟩ := r.freeze h
    obtain ⟨G2, e2, r2, q2⟩ := Rep.freezeG t r1 (q.mono e1)
    exact ⟨G2, e1.trans e2, r2, .cons (p1.mono e2) q2⟩
  | _, _, _, _, .tup h t, G, _, r, .cons p q => by
    cases p with
    | tup hk rs =>
      obtain ⟨G1, e1, r1, p1⟩ := Rep.freezeG h r rs
      obtain ⟨G2, e2, r2, q2⟩ := Rep.freezeG t r1 (q.mono e1)
      exact ⟨G2, e1.trans e2, r2, .cons (.tup (same_tpk (e1.trans e2) hk) (p1.mono e2)) q2⟩
section
variable {X : Cx} {W : WX} {WD : DWX} {rest : List Stmt} {t : DTS}
def dFrzG (i : Nat) (t : DTS) : DTS := fun DD r m => ∃ xs ys m', slot r i = some (.lst xs) ∧ FrzG m xs ys m' ∧ t DD (r.set i (some (.lst ys))) m'
theorem dss_frzG (i : Nat) (h : DSs X W WD rest t) : DSs X W WD rest (dFrzG i t) := by
  refine PSs.imp h fun E σ H h => ?_
  obtain ⟨G, F, r, m, DD, x, ⟨xs, ys, m', e1, e2, t⟩, k⟩ := h
  obtain ⟨v, e3, pv⟩ := x.rs.at_ i _ (slot_get e1)
  cases pv with
  | lst h1 r1 =>
    obtain ⟨G', e, r', q'⟩ := Rep.freezeG e2 x.rep r1
    refine ⟨G', F, _, _, DD, ⟨r', (x.rs.mono e).setG (fun v hv => ?_) ⟨_, e3⟩, x.lx.mono e⟩, t, k.mono e⟩
    rw [e3] at hv
    cases hv
    exact .lst (e _ _ h1) q'
end
end DL

set_option Elab.async false
set_option linter.all false
set_option maxRecDepth 100000
set_option maxHeartbeats 4000000
namespace DL
open PySem PySem.Spec PyProof.Rows L2
section
variable {X : Cx} {pins : List (Addr × Obj)} {σ : L2.St} {H : Hp} {s : Shared}
end
section
variable {X : Cx}
end
end DL

set_option Elab.async false
set_option linter.all false
set_option maxRecDepth 100000
set_option maxHeartbeats 4000000
namespace DL
open PySem PySem.Spec PyProof.Rows L2
section
variable {X : Cx} {W : WX} {WD : DWX}
variable {a b e : Expr} {es : List Expr} {ta : DTE} {tb : DTA} {pos p2 p3 : Pos}
end
end DL

set_option Elab.async false
set_option linter.all false
set_option maxRecDepth 100000
set_option maxHeartbeats 4000000
namespace DL
open PySem PySem.Spec PyProof.Rows L2 He
section
open PySem.W PySem.F
variable {prog : Program} {w : World} {A : Around} {E : Value → Shared → Prop} {s : Shared} {K : Frag} {x y C f : Addr} {ox oy : Obj} {od oe : Option Obj} {name : Str}
end
section
variable {X : Cx} {C : Addr}
structure CmpO (K : PySem.W.Frag) (C : Addr) : Prop where
  eq : PySem.W.findIn K (.ref C) "__eq__" = some (some (.builtin "object.__eq__"))
  ne : PySem.W.findIn K (.ref C) "__ne__" = some (some (.builtin "object.__ne__"))
  mro : PySem.W.mroIn K C (.type "object") = some true
end
section
variable {K : PySem.W.Frag}
end
section
variable {X : Cx} {W : WX} {WD : DWX} {k : Nat} {f C : Addr} {fd : FuncData} {ps ks : List Str} {sp : DSp} {x : Str} {p pos : Pos} {kws : List Keyword} {tk : DTA}
end
structure GoodR (P : Program) (w : World) (K : Fr0) (mg : Str → Option Value) (base : Heap) (k : Nat) (x : Option Str) (f : Addr) (ps : List Str) (sp : DSp) (dds : List D) (ks : List Str) : Prop where
  ex : ∃ fd, FnOk P w K mg base (L2.CX P w) k f fd ps (liftSp K sp) ∧ PySem.W.keepIn K (.ref f) = true ∧ Binds K fd ps [] ∧ KBn K fd ps 1 ks (fun us ws => us ++ ws.reverse) (fun vs zs => vs ++ zs.reverse) ∧ ∃ ds dvs, Vals dvs ds ∧ Binds K fd ps ds ∧ ∀ G, Rps K G dds dvs
  gl : match x with
    | some x => mg x = some (.ref f)
    | none => True
end DL

set_option Elab.async false
set_option linter.all false
set_option maxRecDepth 100000
set_option maxHeartbeats 4000000
namespace DL
open PySem PySem.Spec PyProof.Rows L2
section
variable {X : Cx} {W : WX} {WD : DWX} {tg iter : Expr} {body : List Stmt} {te : DTE} {g : DTG} {tb : DTS} {pos : Pos}
end
end DL

set_option Elab.async false
set_option linter.all false
set_option maxRecDepth 100000
set_option maxHeartbeats 4000000
namespace PySem
namespace HandSPX
section
variable {M : Model} {A : Around} {env : Env} {outer : List Env} {E : Value → Shared → Prop} {s : Shared} {base : Heap} {e L : Addr} {Z : Obj → Prop}
theorem looks_any {v : Value} {Q : Unit → Shared → Prop} (hZ : Steady Z) (hfr : A.frames = some (env :: outer)) (hf : env.frame = some L) (hkb : base.StaysIn s.heap) (hen : base.get? e = none) (hl : s.heap.FunFrames base (env :: outer)) (hv : TracedZ s.heap base e Z v) (hvL : (v == rawInt L) = false)
    (hQ : ∀ h', HeldZ base (env :: outer) e Z L h' → s.heap.UpToSlots h' → Q () { s with heap := h' }) : wpAny M A (noteFrame (.ref e) env) Q E s := by
  obtain ⟨oe, vs, T, oT, ts, he, hz, hd, h1, hnT, hTe, hT, hdT, h3⟩ := hv
  unfold noteFrame
  simp only [hf]
  refine wpAny_bind (wpAny_field he hd h1 ?_)
  rw [if_pos (show (Value.ref T != Value.none) = true from by simp)]
  refine wpAny_bind (wpAny_field hT hdT h3 ?_)
  rw [if_neg (show ¬ ((v == rawInt L) = true) from by simp [hvL])]
  refine wpAny_bind (wpAny_setField hT hdT (Array.getElem?_eq_some_iff.mp h3).1 ?_)
  have other : ∀ b, b ≠ T → (s.heap.update T (Obj.mapFields (·.setIfInBounds 3 Value.none))).get? b = s.heap.get? b := fun b hb => Heap.get?_update_other _ _ (Ne.symm hb)
  have noRecord : ∀ b o, s.heap.get? b = some o → (∀ vs, o.data ≠ .fields vs) → b ≠ T := fun b o hb hnf q => by
    rw [q, hT] at hb; injection hb with hb; subst hb; exact hnf ts hdT
  refine wpAny_entryZ hZ hfr (hl.of_keeps fun b o hb hnf => ⟨o, (other b (noRecord b o hb hnf)).trans hb, rfl⟩) hf ((other e (Ne.symm hTe)).trans he)
    (fun b o hbo => (other b fun q => by rw [q, hnT] at hbo; cases hbo).trans (hkb b o hbo)) hen hd (Array.getElem?_eq_some_iff.mp h1).1 hz fun h' hN => ?_
  obtain ⟨x1, x2, x3, x4⟩ := hN
  exact hQ h' ⟨x1, hen, x2, x3⟩ fun b o hb hnf => x4 b o ((other b (noRecord b o hb hnf)).trans hb) hnf
theorem passes_on {α : Type} {w : String} {Q : α → Shared → Prop} {l : List Env} (hf : env.frame = some L) (hh : HeldZ base l e Z L s.heap)
    (hQ : ∀ h', HeldZ base l e Z L h' → s.heap.UpToSlots h' → E (.ref e) { s with heap := h' }) : wpAny M A (passOn w (.ref e) env : Sem α) Q E s := by
  obtain ⟨oe, vs, T, oT, ts, he, hz, hd, h1, hr⟩ := hh.2.2.2
  unfold passOn
  refine wpAny_bind (wpAny_field he hd h1 ?_)
  rw [if_neg (by simp)]
  rw [hf]
  exact wpAny_bind (setFlight_onZ hh fun h' h1 h2 => wpAny_throw (hQ h' h1 h2))
end
end HandSPX
end PySem
namespace L2
open PySem PySem.Spec PyProof.Rows
theorem noteFrame_frame {e : Value} {env ce : Env} (h : ce.frame = env.frame) : noteFrame e ce = noteFrame e env := by
  unfold noteFrame PySem.frameOf
  rw [h]
theorem Sky.held {M : Model} {A : Around} {E : Value → Shared → Prop} {s : Shared} {B : Heap} {env ce : Env} {outer : List Env} {L C a : Addr} {Z : Obj → Prop} {Q : Unit → Shared → Prop} (hZ : HandSPX.Steady Z) (hfr : A.frames = some (env :: outer)) (hf : env.frame = some L) (hce : ce.frame = env.frame) (hC : C ≠ L)
    (x : Sky B (env :: outer) a Z C s.heap) (hQ : ∀ h', HandSPX.HeldZ B (env :: outer) a Z L h' → s.heap.UpToSlots h' → Q () { s with heap := h' }) : wpAny M A (noteFrame (.ref a) ce) Q E s := by
  rw [noteFrame_frame hce]
  rcases x with ⟨hB, hn, hl, oe, vs, he, hz, hd, h1⟩ | fl | hh
  · exact HandSPX.look_newZ hZ hfr hl hf he hB hn hd h1 hz hQ
  · exact HandSPX.looks_onZ hZ hfr hf fl hQ
  · obtain ⟨f1, f2, f3, f4⟩ := hh
    refine HandSPX.looks_any hZ hfr hf f1 f2 f3 f4 ?_ hQ
    have : ¬ ((C : Int) = (L : Int)) := fun q => hC (Int.ofNat.inj q)
    simpa [rawInt] using this
def compPostF (M : Model) (A : Around) (E : Value → Shared → Prop) (use : Option (Value → Sem Unit)) (Q : Value → Shared → Prop) (acc : Value) (C : Addr) (fr : Option Addr) (r : Result) (s' : Shared) : Prop :=
  match r, use with
  | .ok _, none => ∃ m, s'.heap.Ns C m ∧ ∀ h', Heap.SameBut C s'.heap h' → Q acc { s' with heap := h' }
  | .ok _, some u => wpAny M A (u acc) (fun _ s'' => ∃ m, s''.heap.Ns C m ∧ ∀ h', Heap.SameBut C s''.heap h' → Q .none { s'' with heap := h' }) E s'
  | .error x, _ => ∃ m, s'.heap.Ns C m ∧ ∀ h', Heap.SameBut C s'.heap h' → ∀ cenv : Env, cenv.locals = C → cenv.frame = fr → wpAny M A (passOn "comprehension.variables-let-go" x cenv : Sem Value) (fun _ _ => False) E { s' with heap := h' }
section
variable {M : Model} {A : Around} {E : Value → Shared → Prop} {s : Shared} {env : Env}
theorem wpAny_comprehension_freeF {e : Expr} {scope : Scope} {pos : Pos} {newAcc first : Sem Value} {g : Comprehension} {gs : List Comprehension} {cl : List (Str × Addr)} {use : Option (Value → Sem Unit)}
    {Q : Value → Shared → Prop}
    (hcl : clausesOf e = g :: gs) (hs : ∀ x, foldedSetIterable g.iter env x = pure x) (hclos : closureFor scope env = pure cl)
    (hkind : scope.kind = .function) (hnames : ∀ x ∈ scope.names, x.2 = .local → scope.names.lookup x.1 = some .local)
    (h : wpAny M A first (fun x s₁ => wpAny M A (pyIter x) (fun it s₂ => wpAny M A newAcc (fun acc s₃ =>
      wpAny M A (newFunctionEnv scope env.globals cl [] env.qual none .none (some env)) (fun cenv s₄ =>
        codeAny M A (.compStart e 0 it acc { cenv with scope := relabel scope env }) (compPostF M A E use Q acc cenv.locals cenv.frame) s₄) E s₃) E s₂) E s₁) E s) :
    wpAny M A (comprehension e scope env pos newAcc false first use) Q E s := by
  unfold comprehension
  rw [hclos, hcl]
  refine wpAny_bind (wpAny_mono h (fun x s₁ h₁ => wpAny_bind (wpAny_standAt (wpAny_bind (wpAny_of_eq (hs x) (wpAny_bind (wpAny_holding (wpAny_mono h₁ (fun it s₂ h₂ =>
    wpAny_standIf (wpAny_bind (wpAny_mono h₂ (fun acc s₃ h₃ => wpAny_bind (wpAny_pure (wpAny_bind (wpAny_mono h₃ (fun cenv s₄ h₄ => ?_) fun _ _ h' => h')))) fun _ _ h' => h')))
      fun _ _ h' => h'))))))) fun _ _ h' => h')
  dsimp only
  have hv : ∀ x ∈ (scope.names.filter fun x => (x.2 == .local || x.2 == .cell) && x.1 != (".0" : Str)).reverse, x.2 = .local →
      Env.kindOf { cenv with scope := relabel scope env } x.1 = some .local := fun x hx hl => lookup_relabel_local (hnames x (List.mem_filter.mp (List.mem_reverse.mp hx)).1 hl)
  have hv' : ∀ x ∈ (scope.names.filter fun x => (x.2 == .local || x.2 == .cell) && x.1 != (".0" : Str)).reverse.drop 1 ++ (scope.names.filter fun x => (x.2 == .local || x.2 == .cell) && x.1 != (".0" : Str)).reverse.take 1,
      x.2 = .local → Env.kindOf { cenv with scope := relabel scope env } x.1 = some .local := fun x hx hl => by
    rcases List.mem_append.mp hx with h1 | h1
    · exact hv x (List.mem_of_mem_drop h1) hl
    · exact hv x (List.mem_of_mem_take h1) hl
  refine wpAny_holding (wpAny_bind (wpAny_attempt (wpAny_holding (wpAny_run (codeAny_mono h₄ fun r s' hr => ?_)))))
  cases r with
  | ok f =>
    cases use with
    | none =>
      obtain ⟨m, hn, hr⟩ := hr
      exact wpAny_bind (wpAny_holding (wpAny_comp_letGo (cenv := { cenv with scope := relabel scope env }) hkind _ s' m hv hn fun h' m' _ hs' => wpAny_pure (hr h' hs')))
    | some u =>
      refine wpAny_bind (wpAny_rule (wpAny_bind (wpAny_holding (wpAny_mono hr (fun _ s'' hr' => ?_) fun _ _ h' => h'))))
      obtain ⟨m, hn, hr'⟩ := hr'
      exact wpAny_bind (wpAny_comp_letGo (cenv := { cenv with scope := relabel scope env }) hkind _ s'' m hv' hn fun h' m' _ hs' => wpAny_pure (hr' h' hs'))
  | error x =>
    have hr' : ∃ m, s'.heap.Ns cenv.locals m ∧ ∀ h', Heap.SameBut cenv.locals s'.heap h' → ∀ cenv' : Env, cenv'.locals = cenv.locals → cenv'.frame = cenv.frame → wpAny M A (passOn "comprehension.variables-let-go" x cenv' : Sem Value) (fun _ _ => False) E { s' with heap := h' } := by cases use <;> exact hr
    obtain ⟨m, hn, hr⟩ := hr'
    exact wpAny_bind (wpAny_holding (wpAny_comp_letGo (cenv := { cenv with scope := relabel scope env }) hkind _ s' m hv hn fun h' m' _ hs' => wpAny_mono (hr h' hs' _ rfl rfl) (fun _ _ f => f.elim) fun _ _ y => y))
end
end L2

set_option Elab.async false
set_option linter.all false
set_option maxRecDepth 100000
set_option maxHeartbeats 4000000
namespace L2
open PySem PySem.Spec PyProof.Rows
theorem funFrames_but {base h h' : Heap} {C : Addr} (k : ∀ b, b ≠ C → h'.get? b = h.get? b) : ∀ {l : List Env}, h.FunFrames base l → C ∉ frs l → h'.FunFrames base l
  | [], _, _ => trivial
  | env :: l, h, hn => by
    obtain ⟨hk, ⟨L, o, hf, hb, ho, hd⟩, hr⟩ := h
    have hL : L ≠ C := fun z => hn (List.mem_filterMap.mpr ⟨env, List.mem_cons_self, by rw [hf, z]⟩)
    exact ⟨hk, ⟨L, o, hf, hb, (k L hL).trans ho, hd⟩, funFrames_but k hr fun q => by
      obtain ⟨e, he, q⟩ := List.mem_filterMap.mp q
      exact hn (List.mem_filterMap.mpr ⟨e, List.mem_cons_of_mem _ he, q⟩)⟩
abbrev Cx.blkX (X : Cx) (s : Shared) (H : Hp) (scope : Scope) (cenv : Env) (fp : List Addr) (xe : Value → Shared → Prop) : Cx := { X.blk s H scope cenv fp with xe := xe }
theorem takes_blk {X : Cx} {pins : List (Addr × Obj)} {σ : St} {H3 : Hp} {s3 : Shared} {scope : Scope} {ce : Env} {fp : List Addr} {W : WX} {use : Option (Value → Sem Unit)} {Qf : Value → Shared → Prop} {acc : Value} {C : Addr}
    (I3 : Inv X pins σ H3 s3) (hs : X.stack = X.env :: X.outer) (hf : X.env.frame = some X.env.locals) (tk : Takes X W) (hCl : ce.locals = C) (hcf : ce.frame = X.env.frame) (hCs : s3.heap.objs.size ≤ C) (hfp : ∀ b ∈ fp, FpOk X pins H3 b) :
    Takes (X.blkX s3 H3 scope ce fp (notedBy (model X.prog X.w) X.A ce fun e s' => compPostF (model X.prog X.w) X.A X.xe use Qf acc C X.env.frame (.error e) s')) (fun cls d _ H' => W cls d σ H') := by
  rintro u s' ⟨a, B, sI, pins', σ', H', cls, d, rfl, I', nb, up, sky, na, os, ag, w⟩
  obtain ⟨mL, hnL, _⟩ := I3.loc
  have hLC : X.env.locals < C := Nat.lt_of_lt_of_le (Heap.Ns.lt hnL) hCs
  have hfr : X.A.frames = some (X.env :: X.outer) := by rw [I3.ok.frames, hs]
  have I7 : Inv X pins σ H' sI := I3.call' (ch := fp) I'.os I'.base I'.hok I'.bare fun b hb => ⟨(hfp b hb).2.2.2.1, (hfp b hb).2.1, (hfp b hb).2.2.2.2.1, (hfp b hb).2.2.2.2.2⟩
  have nC : H' C = none := by
    have z : H' ce.locals = none := I'.free
    rw [hCl] at z
    exact z
  obtain ⟨f0, f1, f2, f3, f4, f5⟩ := I3.fpOk hCs nC
  obtain ⟨m, hn, _⟩ := I'.loc
  have hn : sI.heap.Ns ce.locals m := hn
  rw [hCl] at hn
  have sky : Sky B X.stack a (Zc cls d) ce.locals s'.heap := sky
  rw [hs, hCl] at sky
  have nfr : C ∉ frs X.stack := fun hm => by
    obtain ⟨_, o, e, _⟩ := I3.stack.mem hm
    exact absurd (Nat.lt_of_lt_of_le (Heap.lt_size e) hCs) (Nat.lt_irrefl _)
  show wpAny _ X.A (noteFrame (.ref a) ce) _ _ s'
  refine Sky.held Zc.steady hfr hf hcf (Ne.symm (Nat.ne_of_lt hLC)) sky fun h1 hh up1 => ?_
  obtain ⟨o, es, ep, ho, hd, hk⟩ := hn
  have BC : B.get? C = some o := nb C o ho nfr
  obtain ⟨sl, e1⟩ := up C o ho (by rw [hd]; intro vs q; cases q)
  obtain ⟨sl1, e2⟩ := up1 C _ e1 (by show ∀ vs, o.data ≠ _; rw [hd]; intro vs q; cases q)
  refine ⟨m, ⟨_, es, ep, e2, hd, hk⟩, fun h2 sb cenv hc hcf2 => ?_⟩
  have hide : ∀ {h : Heap} {b : Addr}, h.get? b = none → (PySem.W.hideAll h [C]).get? b = none := fun {h b} n => by
    cases q : (PySem.W.hideAll h [C]).get? b with
    | none => rfl
    | some o =>
      have z := PySem.W.of_hideAll _ q
      rw [n] at z; cases z
  have hne : ∀ {h : Heap} {b : Addr} {o : Obj}, (PySem.W.hideAll h [C]).get? b = some o → b ≠ C := fun {h b o} q z => by
    rw [z, PySem.W.hideAll_none _ (by simp)] at q; cases q
  have hB' : HandSPX.HeldZ (PySem.W.hideAll B [C]) (X.env :: X.outer) a (Zc cls d) X.env.locals h2 := by
    obtain ⟨g1, g2, g3, oe, vs, T, oT, ts, he, hz, hde, h1', hnT, hTe, hT, hdT, h3⟩ := hh
    have aC : a ≠ C := fun z => by rw [z, BC] at g2; cases g2
    have TC : T ≠ C := fun z => by rw [z, BC] at hnT; cases hnT
    refine ⟨fun b o q => (sb.2 b (hne q)).trans (g1 b o (PySem.W.of_hideAll _ q)), hide g2, ?_, oe, vs, T, oT, ts, (sb.2 a aC).trans he, hz, hde, h1', hide hnT, hTe, (sb.2 T TC).trans hT, hdT, h3⟩
    have g4 : h1.FunFrames (PySem.W.hideAll B [C]) (X.env :: X.outer) := funFrames_none g3 fun b hb => hide (g3.mem hb).1
    exact funFrames_but sb.2 g4 (by rw [← hs]; exact nfr)
  refine HandSPX.passes_on (env := cenv) (l := X.env :: X.outer) (L := X.env.locals) (base := PySem.W.hideAll B [C]) (Z := Zc cls d) (hcf2.trans hf) ?_ ?_
  · exact hB'
  · intro h3 hh3 up3
    have hh3 : HandSPX.HeldZ (PySem.W.hideAll B [C]) (X.env :: X.outer) a (Zc cls d) X.env.locals h3 := hh3
    have up3 : h2.UpToSlots h3 := up3
    have up1 : s'.heap.UpToSlots h1 := up1
    refine tk _ _ ⟨a, PySem.W.hideAll B [C], { sI with heap := PySem.W.hideAll sI.heap [C], toks := sI.toks }, pins, σ, H', cls, d, rfl, I7.turned (it := C) (t' := sI.toks) (fun b o hb e => PySem.W.hideAll_get _ e (by simpa using hb)) f0 f1 f3 f4 f5, fun b o e hb => ?_, fun b o e hnf => ?_, ?_, na, os, ag, w⟩
    · exact PySem.W.hideAll_get _ (nb b o (PySem.W.of_hideAll _ e) hb) (by simpa using hne e)
    · obtain ⟨x1, q1⟩ := up b o (PySem.W.of_hideAll _ e) hnf
      obtain ⟨x2, q2⟩ := up1 b _ q1 hnf
      have q3 := (sb.2 b (hne e)).trans q2
      obtain ⟨x3, q4⟩ := up3 b _ q3 hnf
      exact ⟨x3, q4⟩
    · rw [hs]
      exact .inr (.inr hh3)
end L2

set_option Elab.async false
set_option linter.all false
set_option maxRecDepth 100000
set_option maxHeartbeats 4000000
namespace L2
open PySem PySem.Spec PyProof.Rows
section
variable {X : Cx}
theorem lc_coreX {pins : List (Addr × Obj)} {s : Shared} {σ : St} {H : Hp} {Q : VK} {elt tg iter : Expr} {ifs : List Expr} {scope : Scope} {own : List (Str × Nat)} {pos pos' : Pos} {wi : TI} {g : TG} {tt : TT} {te : TE} {use : Option (Value → Sem Unit)} {Wx : WX} {Qf : Value → Shared → Prop}
    (hst : X.stack = X.env :: X.outer) (hfr : X.env.frame = some X.env.locals) (tk : Takes X Wx) (hc : X.calm = true) (hN : X.N.Nodup) (I : Inv X pins σ H s) (hi : PI X tg iter wi) (ok : BlkOk X.N X.env.scope scope own)
    (hg : ∀ (s : Shared) (H : Hp) (C : Addr) (cl : List (Str × Addr)) (fp : List Addr) (xe : Value → Shared → Prop), Takes (X.blkX s H scope (compEnvC scope cl C X.env) fp xe) (fun cls d _ H' => Wx cls d σ H') → PG (X.blkX s H scope (compEnvC scope cl C X.env) fp xe) tg g) (ht : ∀ (s : Shared) (H : Hp) (C : Addr) (cl : List (Str × Addr)) (fp : List Addr) (xe : Value → Shared → Prop), Takes (X.blkX s H scope (compEnvC scope cl C X.env) fp xe) (fun cls d _ H' => Wx cls d σ H') → PTs (X.blkX s H scope (compEnvC scope cl C X.env) fp xe) ifs tt)
    (he : ∀ (s : Shared) (H : Hp) (C : Addr) (cl : List (Str × Addr)) (fp : List Addr) (xe : Value → Shared → Prop), Takes (X.blkX s H scope (compEnvC scope cl C X.env) fp xe) (fun cls d _ H' => Wx cls d σ H') → PE (X.blkX s H scope (compEnvC scope cl C X.env) fp xe) elt te) (hs : ∀ x, foldedSetIterable iter X.env x = pure x)
    (h : tLc wi g tt te (own.map (·.2)) σ H Q)
    (hRR : ∀ D C s' m H', Inv X pins σ H' s' → Q (.ref D) H' → s'.heap.Ns C m → FpOk X pins H' C → compPostF (model X.prog X.w) X.A X.xe use Qf (.ref D) C X.env.frame (.ok .next) s') :
    wpAny (model X.prog X.w) X.A (comprehension (.ListComp elt [⟨tg, iter, ifs, 0⟩] scope pos) scope X.env pos' (newList []) false (eval iter X.env) use) Qf X.xe s := by
  have hfree : ∀ y ∈ scope.names, y.2 = .free → ∃ c, X.env.cells.lookup y.1 = some c := fun y hy e => by
    rcases ok.free y hy e with k | k
    · exact I.ok.has _ (.inl k)
    · exact I.ok.has _ (.inr k)
  refine wpAny_comprehension_freeF (use := use) rfl hs (closure_ok hfree) ok.kind (fun y hy e => by rw [ok.uniq y hy, e])
    (thn (hi.run pins s σ H _ I h) fun xv s1 hx => thn hx fun itv s2 h2 => ?_)
  obtain ⟨it, fp, tn, J, H2, e, I2, T, st2, f2, q⟩ := h2
  subst e
  refine wpAny_newObj_type (newEnv_comp ?_) (by show 0 ≤ sizeLine; decide)
  generalize hD : s2.heap.objs.size = D
  have hDn : H2 D = none := I2.hok.fresh (Nat.le_of_eq hD)
  obtain ⟨W, ⟨m0, w0⟩, turn⟩ := q D hDn
  generalize hs3 : ({ s2 with heap := s2.heap.push { cls := .type "list", data := .seq ([] : List Value).toArray } } : Shared) = s3
  have I3 : Inv X pins σ (upd H2 D (.lst [])) s3 := by
    rw [← hs3]
    refine I2.laid (t' := s2.toks) (fun b o e => Heap.get?_push_of_some _ e) (Nat.le_of_eq hD) ⟨Nat.zero_le _, [], 0, .nil, ?_⟩
    rw [← hD]
    exact Heap.get?_push_size _ rfl
  have h3 : s3.heap = s2.heap.push { cls := .type "list", data := .seq ([] : List Value).toArray } := by rw [← hs3]
  have sz : ∀ b ∈ fp, b < s2.heap.objs.size := fun b hb => by
    obtain ⟨o, e, _⟩ := T.obj _ _ st2 b hb
    exact Heap.lt_size e
  have f3 : ∀ b ∈ fp, FpOk X pins (upd H2 D (.lst [])) b ∧ b < s3.heap.objs.size := fun b hb => by
    have hlt := sz b hb
    refine ⟨⟨?_, (f2 b hb).2⟩, by rw [h3, Heap.size_push]; exact Nat.lt_succ_of_lt hlt⟩
    rw [upd_ne (by rw [← hD]; exact Nat.ne_of_lt hlt)]
    exact (f2 b hb).1
  have st3 : tn 0 s3.heap := T.keep _ _ _ st2 fun b _ o e => by rw [h3]; exact Heap.get?_push_of_some _ e
  have I4 := block_start I3 ok hN f3
  have pg := hg s3 (upd H2 D (.lst [])) s3.heap.objs.size (cellsFrom (s3.heap.objs.size + 1) scope.names (cloFrom X.env.cells scope.names [])) fp
  have pt := ht s3 (upd H2 D (.lst [])) s3.heap.objs.size (cellsFrom (s3.heap.objs.size + 1) scope.names (cloFrom X.env.cells scope.names [])) fp
  have pe := he s3 (upd H2 D (.lst [])) s3.heap.objs.size (cellsFrom (s3.heap.objs.size + 1) scope.names (cloFrom X.env.cells scope.names [])) fp
  show codeAny _ _ (.compStart (.ListComp elt [⟨tg, iter, ifs, 0⟩] scope pos) 0 (.ref it) (.ref D) (compEnvC scope (cellsFrom (s3.heap.objs.size + 1) scope.names (cloFrom X.env.cells scope.names [])) s3.heap.objs.size X.env)) (compPostF (model X.prog X.w) X.A X.xe use Qf (.ref D) s3.heap.objs.size X.env.frame) { s3 with heap := pushCells (s3.heap.push { cls := .type "dict", data := .dict #[] }) scope.names }
  have nfp : ∀ b ∈ fp, (upd H2 D (.lst [])) b = none := fun b hb => (f3 b hb).1.1
  generalize hce : compEnvC scope (cellsFrom (s3.heap.objs.size + 1) scope.names (cloFrom X.env.cells scope.names [])) s3.heap.objs.size X.env = ce at I4 pg pt pe ⊢
  have cL : ce.locals = s3.heap.objs.size := by subst hce; rfl
  generalize hH3 : upd H2 D (.lst []) = H3 at I3 I4 pg pt pe w0 nfp f3
  generalize hs4 : ({ s3 with heap := pushCells (s3.heap.push { cls := .type "dict", data := .dict #[] }) scope.names } : Shared) = s4 at I4 ⊢
  have st4 : tn 0 s4.heap := T.keep _ _ _ st3 fun b _ o e => by rw [← hs4]; exact pushCells_keeps _ _ _ _ (Heap.get?_push_of_some _ e)
  have cF : ce.frame = X.env.frame := by subst hce; rfl
  have tkb := takes_blk (use := use) (Qf := Qf) (acc := .ref D) (scope := scope) (fp := fp) I3 hst hfr tk cL cF (Nat.le_refl _) fun b hb => (f3 b hb).1
  have I4 : Inv (X.blkX s3 H3 scope ce fp (notedBy (model X.prog X.w) X.A ce fun e s' => compPostF (model X.prog X.w) X.A X.xe use Qf (.ref D) s3.heap.objs.size X.env.frame (.error e) s')) [] (wipe σ (own.map (·.2))) H3 s4 := I4.toTry _
  have pg := pg _ tkb
  have pt := pt _ tkb
  have pe := pe _ tkb
  have stat : ∀ {σ' : St} {H' : Hp} {s' : Shared}, Inv (X.blkX s3 H3 scope ce fp (notedBy (model X.prog X.w) X.A ce fun e s' => compPostF (model X.prog X.w) X.A X.xe use Qf (.ref D) s3.heap.objs.size X.env.frame (.error e) s')) [] σ' H' s' → (∀ b ∈ fp, H' b = none) → ∀ b ∈ fp, FpOk (X.blkX s3 H3 scope ce fp (notedBy (model X.prog X.w) X.A ce fun e s' => compPostF (model X.prog X.w) X.A X.xe use Qf (.ref D) s3.heap.objs.size X.env.frame (.error e) s')) [] H' b := fun {σ' H' s'} I' hn b hb =>
    ⟨hn b hb, (I'.ok.exf b hb).1, I'.ok.exfs b hb, .inl hb, fun x c e => (I'.ok.exf b hb).2 x c e, fun p hp => absurd (show p ∈ ([] : List (Addr × Obj)) ++ [] from hp) (by simp)⟩
  have loop : codeAny (model X.prog X.w) X.A (.compLoop (.ListComp elt [⟨tg, iter, ifs, 0⟩] scope pos) 0 (.ref it) (.ref D) ce) (compPostF (model X.prog X.w) X.A X.xe use Qf (.ref D) s3.heap.objs.size X.env.frame) s4 := by
    refine compLoop_any (fun n s' => ∃ i H', Inv (X.blkX s3 H3 scope ce fp (notedBy (model X.prog X.w) X.A ce fun e s' => compPostF (model X.prog X.w) X.A X.xe use Qf (.ref D) s3.heap.objs.size X.env.frame (.error e) s')) [] (wipe σ (own.map (·.2))) H' s' ∧ tn i s'.heap ∧ (∀ b ∈ fp, H' b = none) ∧ W i n H') ?_ m0 ⟨0, H3, I4, st4, nfp, w0⟩
    rintro n s5 ⟨i, H5, I5, st5, n5, w5⟩
    rcases turn i n H5 w5 with ⟨stop, qq⟩ | ⟨go, Nx, hNx, step⟩
    · have td := T.done (X.blkX s3 H3 scope ce fp (notedBy (model X.prog X.w) X.A ce fun e s' => compPostF (model X.prog X.w) X.A X.xe use Qf (.ref D) s3.heap.objs.size X.env.frame (.error e) s')) rfl rfl rfl hc i [] s5 _ H5 (fun _ _ => False) I5 (stat I5 n5) st5 stop
      refine thnF td fun r s6 ⟨hr, I6⟩ => ?_
      subst hr
      have I7 : Inv X pins σ H5 s6 := I3.call' (ch := fp) I6.os I6.base I6.hok I6.bare fun b hb => ⟨(f3 b hb).1.2.2.2.1, (f3 b hb).1.2.1, (f3 b hb).1.2.2.2.2.1, (f3 b hb).1.2.2.2.2.2⟩
      have nC : H5 s3.heap.objs.size = none := by
        have z : H5 ce.locals = none := I6.free
        rw [cL] at z
        exact z
      obtain ⟨m, hn, _⟩ := I6.loc
      have hn : s6.heap.Ns ce.locals m := hn
      rw [cL] at hn
      exact hRR D s3.heap.objs.size s6 m H5 I7 qq hn (I3.fpOk (Nat.le_refl _) nC)
    · have ti := T.item (X.blkX s3 H3 scope ce fp (notedBy (model X.prog X.w) X.A ce fun e s' => compPostF (model X.prog X.w) X.A X.xe use Qf (.ref D) s3.heap.objs.size X.env.frame (.error e) s')) rfl rfl rfl hc i [] s5 _ H5 (fun _ _ => False) I5 (stat I5 n5) st5 go
      refine thnF ti fun r s6 ⟨u, hr, h6⟩ => ?_
      subst hr
      refine thnF h6 fun _ s7 ⟨x, H7, I7, r7, y7, st7, n7⟩ => ?_
      have I7' := I7.pinned (stat I7 n7) (T.obj _ _ st7)
      refine wpAny_mono (pg.run _ s7 _ H7 x u _ I7' r7 (step x H7 y7)) (fun _ s8 ⟨σ8, H8, I8, hw8, q8⟩ => ?_) fun _ _ z => z
      refine wpAny_mono (pt.run _ s8 σ8 H8 _ I8 q8) (fun b s9 ⟨H9, I9, q9⟩ => ?_) fun _ _ z => z
      have fin : ∀ {s' : Shared} {H' : Hp}, Inv (X.blkX s3 H3 scope ce fp (notedBy (model X.prog X.w) X.A ce fun e s' => compPostF (model X.prog X.w) X.A X.xe use Qf (.ref D) s3.heap.objs.size X.env.frame (.error e) s')) ([] ++ pinsAt fp s7.heap) σ8 H' s' → Nx H' → ∃ m, m < n ∧ ∃ i H', Inv (X.blkX s3 H3 scope ce fp (notedBy (model X.prog X.w) X.A ce fun e s' => compPostF (model X.prog X.w) X.A X.xe use Qf (.ref D) s3.heap.objs.size X.env.frame (.error e) s')) [] (wipe σ (own.map (·.2))) H' s' ∧ tn i s'.heap ∧ (∀ b ∈ fp, H' b = none) ∧ W i m H' := fun {s' H'} I' nx => by
        obtain ⟨m', hm, w'⟩ := hNx H' nx
        have pin' : ∀ b ∈ fp, ∀ o, s7.heap.get? b = some o → s'.heap.get? b = some o ∧ H' b = none := fun b hb o e =>
          let z := I'.pin (b, o) (List.mem_append_right _ (List.mem_append_right _ (mem_pinsAt hb e)))
          ⟨z.1, z.2.1⟩
        have hl : (wipe σ (own.map (·.2))).length = σ8.length := by rw [← hw8, wipe_length]
        refine ⟨m', hm, i + 1, H', (I'.unpinned (pins := [])).weak hl (fun j v e => ?_), T.keep _ _ _ st7 fun b hb o e => (pin' b hb o e).1, fun b hb => ?_, w'⟩
        · rw [← hw8] at e
          exact (wipe_some e).1
        · obtain ⟨o, e, _⟩ := T.obj _ _ st7 b hb
          exact (pin' b hb o e).2
      cases b with
      | false =>
        simp only [Bool.false_eq_true, if_false] at q9 ⊢
        exact fin I9 q9
      | true =>
        simp only [if_true] at q9 ⊢
        refine wpAny_mono (pe.run _ s9 σ8 H9 _ I9 q9) (fun z s10 ⟨yv, H10, I10, r10, acc, hD10, hz10, nx⟩ => ?_) fun _ _ z => z
        exact app_ok (X := X.blkX s3 H3 scope ce fp (notedBy (model X.prog X.w) X.A ce fun e s' => compPostF (model X.prog X.w) X.A X.xe use Qf (.ref D) s3.heap.objs.size X.env.frame (.error e) s')) I10 hD10 hz10 r10 fun s11 I11 => fin I11 nx
  exact codeAny_compStart_list loop (T.self X.A 0 _ _ _ st4 loop)
end
end L2

set_option Elab.async false
set_option linter.all false
set_option maxRecDepth 100000
set_option maxHeartbeats 4000000
namespace L2
open PySem PySem.Spec PyProof.Rows
abbrev WX.blk (W : WX) (σ : St) : WX := fun cls d _ H => W cls d σ H
section
variable {X : Cx}
theorem pe_lcX {pins : List (Addr × Obj)} {s : Shared} {σ : St} {H : Hp} {Q : VK} {elt tg iter : Expr} {ifs : List Expr} {scope : Scope} {own : List (Str × Nat)} {pos : Pos} {wi : TI} {g : TG} {tt : TT} {te : TE} {Wx : WX}
    (hst : X.stack = X.env :: X.outer) (hfr : X.env.frame = some X.env.locals) (tk : Takes X Wx) (hc : X.calm = true) (hN : X.N.Nodup) (I : Inv X pins σ H s) (hi : PI X tg iter wi) (ok : BlkOk X.N X.env.scope scope own)
    (hg : ∀ (s : Shared) (H : Hp) (C : Addr) (cl : List (Str × Addr)) (fp : List Addr) (xe : Value → Shared → Prop), Takes (X.blkX s H scope (compEnvC scope cl C X.env) fp xe) (Wx.blk σ) → PG (X.blkX s H scope (compEnvC scope cl C X.env) fp xe) tg g)
    (ht : ∀ (s : Shared) (H : Hp) (C : Addr) (cl : List (Str × Addr)) (fp : List Addr) (xe : Value → Shared → Prop), Takes (X.blkX s H scope (compEnvC scope cl C X.env) fp xe) (Wx.blk σ) → PTs (X.blkX s H scope (compEnvC scope cl C X.env) fp xe) ifs tt)
    (he : ∀ (s : Shared) (H : Hp) (C : Addr) (cl : List (Str × Addr)) (fp : List Addr) (xe : Value → Shared → Prop), Takes (X.blkX s H scope (compEnvC scope cl C X.env) fp xe) (Wx.blk σ) → PE (X.blkX s H scope (compEnvC scope cl C X.env) fp xe) elt te) (hs : ∀ x, foldedSetIterable iter X.env x = pure x)
    (h : tLc wi g tt te (own.map (·.2)) σ H Q) :
    wpAny (model X.prog X.w) X.A (eval (.ListComp elt [⟨tg, iter, ifs, 0⟩] scope pos) X.env) (EP X pins σ Q) X.xe s := by
  rw [eval_ListComp]
  refine lc_coreX hst hfr tk hc hN I hi ok hg ht he hs h fun D C s' m H' I' q hn ff => ⟨m, hn, fun h2 sb => ?_⟩
  obtain ⟨g0, g1, g2, g3, g4, g5⟩ := ff
  have J := I'.turned (t' := s'.toks) (fun b o hb e => (sb.2 b hb).trans e) g0 g1 g3 g4 g5
  exact ⟨.ref D, H', J, rfl, q⟩
end
end L2
namespace DL
open PySem PySem.Spec PyProof.Rows L2
abbrev DWX.blk (WD : DWX) (r : DSt) : DWX := fun x _ m => WD x r m
theorem Lx.blk {K : PySem.W.Frag} {W : WX} {WD : DWX} {G F : Hp} {r : DSt} {σ : L2.St} {Dl : Addr} {acc : List D} {va : List V} (rs : Rs K G r σ) (hF : F Dl = none) (ra : Rps K G acc va) (h : Lx K W WD G F) : Lx K (W.blk σ) (WD.blk r) G (upd F Dl (.lst va)) := by
  intro G' H' m' r' s' C fs d e rep _ rx w
  obtain ⟨e3, rep3, _⟩ := rep.outL hF (ra.mono e)
  exact h _ H' m' r σ C fs d (e.trans e3) rep3 (rs.mono (e.trans e3)) (rx.mono e3) w
theorem lc_upX {K : PySem.W.Frag} {W : WX} {WD : DWX} {ti : DTI} {c : CT} {vs : List Nat} {tt : DTT} {te : DTE} {mt : Bool} {σ : L2.St} {G H F : Hp} {r : DSt} {m : M} {QD : D → M → Prop} {Q : VK} (hc : c.in vs) (x : Sx K W WD G H F r σ m) (t : dLc mt ti c vs tt te r m QD) (k : Kv K G F QD Q) :
    tLc (upI K W WD ti) (ctG K c) (upT K (W.blk σ) (WD.blk r) tt) (up K (W.blk σ) (WD.blk r) te) vs σ H Q := by
  refine ⟨G, F, r, m, _, x, t, fun G1 H1 m1 ds J e1 r1 it t1 Dl hD => ?_⟩
  have hF : F Dl = none := r1.frm.free hD
  have x1 := x.step e1 r1
  refine ⟨fun i n H => n + i = ds.length ∧ ∃ G2 m2 acc va, Same G1 G2 ∧ Rep K G2 H (upd F Dl (.lst va)) m2 ∧ Rps K G2 acc va ∧ dLcL c vs tt te (ds.drop i) acc r m2 (fun acc m => mkL mt acc m QD), ⟨ds.length, rfl, G1, m1, [], [], Same.refl G1, r1.hide hD, .nil, t1⟩, ?_⟩
  rintro i n H2 ⟨hn, G2, m2, acc, va, e2, rep2, ra, t2⟩
  cases n with
  | zero =>
    have ei : i = ds.length := by omega
    subst ei
    rw [List.drop_length] at t2
    refine .inl ⟨it.stop H2 (e2.trans rep2.ext), ?_⟩
    cases mt with
    | false =>
      obtain ⟨e3, rep3, p3⟩ := rep2.outL hF ra
      exact k _ H2 m2 _ _ ((e1.trans e2).trans e3) rep3 p3 t2
    | true =>
      obtain ⟨mp, rep3⟩ := rep2.outM hF ra
      exact k _ H2 _ _ _ (e1.trans e2) rep3 (.ref Dl) (t2 Dl mp)
  | succ n =>
    have hlt : i < ds.length := by omega
    rw [← List.getElem_cons_drop hlt] at t2
    obtain ⟨r2, ec, t2⟩ := t2
    refine .inr ⟨it.go i H2 hlt (e2.trans rep2.ext), fun H3 => ∃ G3 m3 acc va, Same G1 G3 ∧ Rep K G3 H3 (upd F Dl (.lst va)) m3 ∧ Rps K G3 acc va ∧ dLcL c vs tt te (ds.drop (i + 1)) acc r m3 (fun acc m => mkL mt acc m QD), fun H3 h3 => ⟨n, by omega, by omega, h3⟩, fun v H3 y => ?_⟩
    obtain ⟨G3, e3, rep3, p3⟩ := it.yld i G2 H2 _ m2 v H3 ds[i] e2 rep2 (by simp [hlt]) y
    have e13 : Same G1 G3 := e2.trans e3
    refine ct_ok hc (rs_wipe (x1.rs.mono e13) vs) p3 ec rep3.ext fun s2 rs2 w2 => ⟨w2.trans (wipe_wipe σ vs vs fun _ h => h), ?_⟩
    have lx3 : Lx K (W.blk σ) (WD.blk r) G3 (upd F Dl (.lst va)) := (x1.lx.mono e13).blk (x1.rs.mono e13) hF (ra.mono e3)
    refine ⟨G3, _, r2, m2, _, ⟨rep3, rs2, lx3⟩, t2, fun G4 H4 m4 b e4 rep4 t4 => ?_⟩
    have e14 := e13.trans e4
    cases b with
    | false => exact ⟨G4, m4, acc, va, e14, rep4, ra.mono (e3.trans e4), t4⟩
    | true =>
      refine ⟨G4, _, r2, m4, _, ⟨rep4, rs2.mono e4, lx3.mono e4⟩, t4, fun G5 H5 m5 d v e5 rep5 p5 t5 => ?_⟩
      have ra5 := ra.mono ((e3.trans e4).trans e5)
      exact ⟨va, rep5.frm Dl _ upd_same, by rw [← ra5.length]; exact t5.1, G5, m5, acc ++ [d], va ++ [v], e14.trans e5, rep5.turn, ra5.append (.cons p5 .nil), t5.2⟩
def dLcX (mt : Bool) (ti : DTI) (c : CT) (vs : List Nat) (tt : DSt → DTT) (te : DSt → DTE) : DTE := fun r => dLc mt ti c vs (tt r) (te r) r
theorem de_lcX {X : Cx} {W : WX} {WD : DWX} (mt : Bool) {elt tg iter : Expr} {ifs : List Expr} {scope : Scope} {own : List (Str × Nat)} {pos : Pos} {ti : DTI} {c : CT} {tt : DSt → DTT} {te : DSt → DTE}
    (hst : X.stack = X.env :: X.outer) (hfr : X.env.frame = some X.env.locals) (tk : Takes X W) (hc : X.calm = true) (hN : X.N.Nodup) (hin : c.in (own.map (·.2))) (hi : DI X W WD tg iter ti) (ok : BlkOk X.N X.env.scope scope own)
    (hg : ∀ (W' : WX) (s : Shared) (H : Hp) (C : Addr) (cl : List (Str × Addr)) (fp : List Addr) (xe : Value → Shared → Prop), Takes (X.blkX s H scope (compEnvC scope cl C X.env) fp xe) W' → PG (X.blkX s H scope (compEnvC scope cl C X.env) fp xe) tg (ctG X.K c))
    (ht : ∀ (W' : WX) (r : DSt) (s : Shared) (H : Hp) (C : Addr) (cl : List (Str × Addr)) (fp : List Addr) (xe : Value → Shared → Prop), Takes (X.blkX s H scope (compEnvC scope cl C X.env) fp xe) W' → DTs (X.blkX s H scope (compEnvC scope cl C X.env) fp xe) W' (WD.blk r) ifs (tt r))
    (he : ∀ (W' : WX) (r : DSt) (s : Shared) (H : Hp) (C : Addr) (cl : List (Str × Addr)) (fp : List Addr) (xe : Value → Shared → Prop), Takes (X.blkX s H scope (compEnvC scope cl C X.env) fp xe) W' → DE (X.blkX s H scope (compEnvC scope cl C X.env) fp xe) W' (WD.blk r) elt (te r))
    (hs : ∀ x, foldedSetIterable iter X.env x = pure x := by intro _; rfl) :
    DE X W WD (.ListComp elt [⟨tg, iter, ifs, 0⟩] scope pos) (dLcX mt ti c (own.map (·.2)) tt te) := by
  refine ⟨fun pins s σ H Q I h => ?_⟩
  obtain ⟨G, F, r, m, QD, x, t, k⟩ := h
  exact pe_lcX hst hfr tk hc hN I hi ok (hg (W.blk σ)) (ht (W.blk σ) r) (he (W.blk σ) r) hs (lc_upX hin x t k)
end DL

set_option Elab.async false
set_option linter.all false
set_option maxRecDepth 100000
set_option maxHeartbeats 4000000
namespace LW
open PySem PySem.Spec PyProof.Rows L2 DL
open He (ga ma)
def SIGNS : Str := "0123456789_"
def inS (j i : Str) : Bool := !(Builtin.Str.occurrences j i 0 j.length 1).isEmpty
def nameB (z : Str) : Bool := decide (1 ≤ z.cps.size ∧ z.cps.size ≤ 12) && (match z.cps.toList with
  | c :: _ => inS LETTERS ⟨#[c]⟩
  | [] => false) && z.cps.toList.all fun c => inS LETTERS ⟨#[c]⟩ || inS SIGNS ⟨#[c]⟩
def sp_is_name (_ : Fr0) : DSp := fun ds m Q _ => ∃ z : Str, ds = [.str z] ∧ z.length ≤ 1000000 ∧ Q (.bl (nameB z)) m
structure Tsk where
  nm : Str
  ks : List Knd
  as : List Arr
abbrev ksD (ks : List Knd) : D := .lst (ks.map Knd.D)
abbrev asD (as : List Arr) : D := .lst (as.map Arr.D)
abbrev names (ks : List Knd) : List Str := ks.map Knd.n
structure KsOk (b : Bool) (ks : List Knd) : Prop where
  nm : ∀ k ∈ ks, nameB k.n = true
  nd : (names ks).Nodup
  c : ∀ k ∈ ks, 1 ≤ k.c ∧ k.c ≤ (if b then 9 else 99)
  d : ∀ k ∈ ks, 1 ≤ k.d ∧ k.d ≤ (if b then 24 else 99)
structure AsOk (ns : List Str) (as : List Arr) : Prop where
  f : ∀ a ∈ as, a.f ∈ ns
  s : ∀ a ∈ as, a.s ∈ ns
  g : ∀ a ∈ as, 1 ≤ a.g ∧ a.g ≤ 12
  nd : (as.map fun a => (a.f, a.s)).Nodup
structure Tsk.Ok (t : Tsk) : Prop where
  nm : nameB t.nm = true
  k1 : 1 ≤ t.ks.length
  k4 : t.ks.length ≤ 4
  a12 : t.as.length ≤ 12
  ks : KsOk (decide (0 < t.as.length)) t.ks
  as : AsOk (names t.ks) t.as
def taskF (t : Tsk) : List (Str × D) := [("name", .str t.nm), ("kind_rows", ksD t.ks), ("arrow_rows", asD t.as)]
def taskD (K : Fr0) (t : Tsk) : D := .ins (ga K "Task") (taskF t)
def sq0 : D → Option (List D)
  | .lst xs => some xs
  | .tup xs => some xs
  | _ => none
def kndF (b : Bool) : List Str → List Knd → Option Flt
  | _, [] => none
  | seen, k :: ks => if nameB k.n = true then (if k.n ∈ seen then some (.rep k.n) else if k.c < 1 ∨ (if b = true then 9 else 99) < k.c then some (.rng "cost" k.c) else if k.d < 1 ∨ (if b = true then 24 else 99) < k.d then some (.rng "deadline" k.d) else kndF b (seen ++ [k.n]) ks) else some (.nm k.n)
def arrF (ns : List Str) : List (Str × Str) → List Arr → Option Flt
  | _, [] => none
  | seen, a :: as => if a.f ∈ ns then (if a.s ∈ ns then (if a.g < 1 ∨ 12 < a.g then some (.rng "gap" a.g) else if (a.f, a.s) ∈ seen then some (.repA a.f a.s) else arrF ns (seen ++ [(a.f, a.s)]) as) else some (.unk a.s)) else some (.unk a.f)
def tskF (t : Tsk) : Option Flt :=
  if nameB t.nm = true then (if 1 ≤ t.ks.length ∧ t.ks.length ≤ 4 then (if t.as.length ≤ 12 then (match kndF (decide (0 < t.as.length)) [] t.ks with
    | some f => some f
    | none => arrF (names t.ks) [] t.as) else some (.cnt "arrows" t.as.length)) else some (.cnt "kinds" t.ks.length)) else some (.nm t.nm)
def OutF (K : Fr0) (o : Option Flt) (m : M) (q : Prop) (E : XD → M → Prop) : Prop := match o with
  | none => q
  | some f => ∀ m', MSub m m' → E (f.X K) m'
def sp_need_name (K : Fr0) : DSp := fun ds m Q E => ∃ z : Str, ds = [.str z] ∧ z.length ≤ 1000000 ∧ (nameB z = true → Q .non m) ∧ (nameB z ≠ true → E (Flt.X K (.nm z)) m)
def sp_need_range (K : Fr0) : DSp := fun ds m Q E => ∃ (w : Str) (v lo hi : Int), ds = [.str w, .int v, .int lo, .int hi] ∧ (¬ (v < lo ∨ hi < v) → Q .non m) ∧ (v < lo ∨ hi < v → E (Flt.X K (.rng w v)) m)
def sp_need_kind (K : Fr0) : DSp := fun ds m Q E => ∃ (z : Str) (ks : List Knd), ds = [.str z, ksD ks] ∧ ks.length ≤ 100 ∧ (z ∈ names ks → Q .non m) ∧ (z ∉ names ks → E (Flt.X K (.unk z)) m)
def sp_checked_kinds (K : Fr0) : DSp := fun ds m Q E => ∃ (ks : List Knd) (b : Bool) (x : D), ds = [x, .bl b] ∧ sq0 x = some (ks.map Knd.D) ∧ ks.length ≤ 100 ∧ (∀ k ∈ ks, k.n.length ≤ 1000000) ∧ OutF K (kndF b [] ks) m (Q (ksD ks) m) E
def sp_checked_arrows (K : Fr0) : DSp := fun ds m Q E => ∃ (as : List Arr) (x : D) (ks : List Knd), ds = [x, ksD ks] ∧ sq0 x = some (as.map Arr.D) ∧ as.length ≤ 100 ∧ ks.length ≤ 100 ∧ (∀ z ∈ names ks, nameB z = true) ∧ OutF K (arrF (names ks) [] as) m (Q (asD as) m) E
def sp_Task_init (K : Fr0) : DSp := fun ds m Q E => ∃ (a : Addr) (t : Tsk) (y x : D), ds = [.ref a, .str t.nm, y, x] ∧ sq0 y = some (t.ks.map Knd.D) ∧ sq0 x = some (t.as.map Arr.D) ∧ m a = some (.ins (ga K "Task") []) ∧ t.nm.length ≤ 1000000 ∧ t.ks.length ≤ 100 ∧ t.as.length ≤ 100 ∧ (∀ k ∈ t.ks, k.n.length ≤ 1000000) ∧
  OutF K (tskF t) (mdel m a) (Q .non (mset m a (.ins (ga K "Task") (taskF t)))) E
def sp_Task_kinds (K : Fr0) : DSp := fun ds m Q _ => ∃ (t : Tsk) (x : D), ds = [x] ∧ x = taskD K t ∧ Q (ksD t.ks) m
def sp_Task_arrows (K : Fr0) : DSp := fun ds m Q _ => ∃ (t : Tsk) (x : D), ds = [x] ∧ x = taskD K t ∧ Q (asD t.as) m
structure Pl (a b : Addr) (s : PS) (n : Int) : Prop where
  ne : a ≠ b
  v0 : 0 ≤ s.v
  v1 : s.v < 2147483647
  k0 : 0 ≤ s.k
  kn : s.k ≤ n
theorem Pl.up {a b : Addr} {s : PS} {n n' : Int} (h : Pl a b s n) (e : n ≤ n') : Pl a b s n' := ⟨h.ne, h.v0, h.v1, h.k0, by have := h.kn; omega⟩
def sp_law_pool (_ : Fr0) : DSp := fun ds m Q _ => ∃ ns : List Int, ds = [.rdl (ns.map D.int)] ∧ ns.length ≤ 63 ∧ ∀ a b s, m a = none → m b = none → Pl a b s 0 → Q (.ref a) (pm a b s m)
def sp_law_draw (_ : Fr0) : DSp := fun ds m Q _ => ∃ (a b : Addr) (s : PS) (n lim : Int) (m0 : M), ds = [.ref a, .int lim] ∧ m = pm a b s m0 ∧ Pl a b s n ∧ n ≤ 1000000000000 ∧ (1 ≤ lim ∧ lim.natAbs < 2 ^ 200) ∧
  ∀ r s', 0 ≤ r → r < lim → Pl a b s' (n + 1) → Q (.int r) (pm a b s' m0)
def Drw (ds rest : List D) (m : M) (lim c : Int) (R : D → Prop) (Q : D → M → Prop) : Prop := ∃ (a b : Addr) (s : PS) (n : Int) (m0 : M), ds = .ref a :: rest ∧ m = pm a b s m0 ∧ Pl a b s n ∧ n ≤ lim ∧ ∀ d s', R d → Pl a b s' (n + c) → Q d (pm a b s' m0)
def sp_law_number (_ : Fr0) : DSp := fun ds m Q _ => ∃ (x : D) (a b : Addr) (s : PS) (n most : Int) (m0 : M), ds = [x, .int most] ∧ x = .ref a ∧ m = pm a b s m0 ∧ Pl a b s n ∧ n ≤ 100000000000 ∧ (1 ≤ most ∧ most ≤ 1000000) ∧
  ∀ r s', 1 ≤ r → r ≤ most → Pl a b s' (n + 2) → Q (.int r) (pm a b s' m0)
def sp_law_name (_ : Fr0) : DSp := fun ds m Q _ => ∃ (x : D) (a b : Addr) (s : PS) (n : Int) (m0 : M), ds = [x] ∧ x = .ref a ∧ m = pm a b s m0 ∧ Pl a b s n ∧ n ≤ 100000000000 ∧
  ∀ z s', nameB z = true → Pl a b s' (n + 13) → Q (.str z) (pm a b s' m0)
def sp_law_fresh (_ : Fr0) : DSp := fun ds m Q _ => ∃ (z : Str) (x : D) (zs : List Str), ds = [.str z, x] ∧ lsOf m x = some (zs.map D.str) ∧ nameB z = true ∧ zs.length ≤ 4 ∧ ∀ y, nameB y = true → y ∉ zs → Q (.str y) m
def sp_law_near (_ : Fr0) : DSp := fun ds m Q _ => ∃ (w x : D) (a b : Addr) (s : PS) (n : Int) (m0 : M) (zs : List Str), ds = [w, x] ∧ w = .ref a ∧ m = pm a b s m0 ∧ (∀ s', vD (pm a b s' m0) x = .lst (zs.map D.str)) ∧ Pl a b s n ∧ n ≤ 10000000000 ∧ (∀ z ∈ zs, nameB z = true) ∧ zs.length ≤ 4 ∧
  ∀ z s', nameB z = true → z ∉ zs → Pl a b s' (n + 20) → Q (.str z) (pm a b s' m0)
def specD (t : Tsk) : D := .tup [.str t.nm, ksD t.ks, asD t.as]
def sp_law_spec (_ : Fr0) : DSp := fun ds m Q _ => ∃ (x : D) (a b : Addr) (s : PS) (n : Int) (m0 : M), ds = [x] ∧ x = .ref a ∧ m = pm a b s m0 ∧ Pl a b s n ∧ n ≤ 1000000000 ∧
  ∀ t s', t.Ok → Pl a b s' (n + 1000) → Q (specD t) (pm a b s' m0)
def Ln.Ok : Ln → Prop
  | .task z => nameB z = true
  | .kind z c d => nameB z = true ∧ (1 ≤ c ∧ c ≤ 99) ∧ (1 ≤ d ∧ d ≤ 99)
  | .arrow a b g => nameB a = true ∧ nameB b = true ∧ (1 ≤ g ∧ g ≤ 99)
def txtC (rs : List Ln) : List Nat := rs.flatMap fun r => r.line.cps.toList
def txtL (rs : List Ln) : Str := ⟨(txtC rs).toArray⟩
def upL (f : Tsk → Tsk) : List Tsk → List Tsk
  | [] => []
  | [t] => [f t]
  | t :: ts => t :: upL f ts
def addL (ts : List Tsk) : Ln → List Tsk
  | .task z => ts ++ [⟨z, [], []⟩]
  | .kind z c d => upL (fun t => { t with ks := t.ks ++ [⟨z, c, d⟩] }) ts
  | .arrow a b g => upL (fun t => { t with as := t.as ++ [⟨a, b, g⟩] }) ts
def kLn (k : Knd) : Ln := .kind k.n k.c k.d
def aLn (a : Arr) : Ln := .arrow a.f a.s a.g
def rowsT (t : Tsk) : List Ln := .task t.nm :: (t.ks.map kLn ++ t.as.map aLn)
def rowsOf (ts : List Tsk) : List Ln := ts.flatMap rowsT
structure RdOk (rs : List Ln) (ts : List Tsk) : Prop where
  ok : ∀ r ∈ rs, r.Ok
  hd : rs = [] ∨ ∃ z r, rs = .task z :: r
  ad : rs.foldl addL [] = ts
  ln : rs.length ≤ 1000
def digB (c : Nat) : Bool := decide (48 ≤ c ∧ c ≤ 57)
def numP (w : Str) : Option Int := if 1 ≤ w.length ∧ w.length ≤ 9 then (if w.cps.toList.all digB = true then (if w.cps.toList.head? = some 48 ∧ w.length ≠ 1 then none else PySem.intText? w) else none) else none
def numD : Option Int → D
  | none => .non
  | some n => .int n
def kindP (z c d : Str) : Option Ln := match numP c, numP d with
  | some a, some b => some (.kind z a b)
  | _, _ => none
def arrP (z w g : Str) : Option Ln := match numP g with
  | some a => some (.arrow z w a)
  | none => none
def lnD : Option Ln → D
  | none => .non
  | some r => r.D
def wordsP : List Str → Option Ln
  | [k, z] => if k = "task" then some (.task z) else none
  | [k, z, c, d] => if k = "kind" then kindP z c d else if k = "arrow" then arrP z c d else none
  | _ => none
def lineP (x : Str) : Option Ln := if ("" : Str) ∈ PySem.Txt.split x " " then none else wordsP (PySem.Txt.split x " ")
def Ln.isT : Ln → Bool
  | .task _ => true
  | _ => false
def rdL : Nat → List Ln → List Str → Nat ⊕ List Ln
  | _, acc, [] => .inr acc
  | n, acc, [l] => if l = "" then .inr acc else .inl (n + 1)
  | n, acc, l :: ls => match lineP l with
    | none => .inl (n + 1)
    | some r => if r.isT = true ∨ acc ≠ [] then rdL (n + 1) (acc ++ [r]) ls else .inl (n + 1)
inductive Ans where
  | bad (k : Nat)
  | flt (f : Flt)
  | ok (ts : List Tsk)
def ansL (ts : List Tsk) : Ans := match ts.findSome? tskF with
  | some f => .flt f
  | none => .ok ts
def ansT (z : Str) : Ans := match rdL 0 [] (PySem.Txt.split z "\n") with
  | .inl k => .bad k
  | .inr rs => ansL (rs.foldl addL [])
structure TxOk (z : Str) : Prop where
  len : z.length ≤ 1000000
  nl : (PySem.Txt.split z "\n").length ≤ 100
def sp_number_of (_ : Fr0) : DSp := fun ds m Q _ => ∃ w : Str, ds = [.str w] ∧ w.length ≤ 1000000 ∧ Q (numD (numP w)) m
def sp_kind_parts (_ : Fr0) : DSp := fun ds m Q _ => ∃ z c d : Str, ds = [.str z, .str c, .str d] ∧ c.length ≤ 1000000 ∧ d.length ≤ 1000000 ∧ Q (lnD (kindP z c d)) m
def sp_arrow_parts (_ : Fr0) : DSp := fun ds m Q _ => ∃ z w g : Str, ds = [.str z, .str w, .str g] ∧ g.length ≤ 1000000 ∧ Q (lnD (arrP z w g)) m
def sp_line_parts (_ : Fr0) : DSp := fun ds m Q _ => ∃ x : Str, ds = [.str x] ∧ x.length ≤ 1000000 ∧ Q (lnD (lineP x)) m
def sp_read_lines (K : Fr0) : DSp := fun ds m Q E => ∃ z : Str, ds = [.str z] ∧ TxOk z ∧ (match rdL 0 [] (PySem.Txt.split z "\n") with
  | .inl k => ∀ m', MSub m m' → E (Bad.X K k) m'
  | .inr rs => Q (.lst (rs.map Ln.D)) m)
def sp_read_tasks (K : Fr0) : DSp := fun ds m Q E => ∃ z : Str, ds = [.str z] ∧ TxOk z ∧ (match ansT z with
  | .bad k => ∀ m', MSub m m' → E (Bad.X K k) m'
  | .flt f => ∀ m', MSub m m' → E (f.X K) m'
  | .ok ts => Q (.lst (ts.map (taskD K))) m)
structure Tx (i : Nat) (z : Str) : Prop where
  len : z.length ≤ 10000 * 4 ^ i
  nl : z.cps.toList.count 10 ≤ 70 + i
  ch : ∀ c ∈ z.cps.toList, c < 128
def StA (n : Nat) (z : Str) : Prop := z.length ≤ n ∧ ∀ c ∈ z.cps.toList, c < 128
def sp_law_text (_ : Fr0) : DSp := fun ds m Q _ => ∃ ts : List Tsk, ds = [.lst (ts.map specD)] ∧ (∀ t ∈ ts, t.Ok) ∧ ts.length ≤ 4 ∧ Q (.str (txtL (rowsOf ts))) m
def sp_law_sign (_ : Fr0) : DSp := fun ds m Q _ => Drw ds [] m 2000000 1 (fun d => ∃ c : Nat, d = .str ⟨#[c]⟩ ∧ c < 128) Q
def sp_law_spoil_sign (_ : Fr0) : DSp := fun ds m Q _ => ∃ (i : Nat) (z : Str), Tx i z ∧ i < 3 ∧ Drw ds [.str z] m 1000000 10 (fun d => ∃ z', d = .str z' ∧ Tx (i + 1) z') Q
def sp_law_spoil_line (_ : Fr0) : DSp := fun ds m Q _ => ∃ (i : Nat) (z : Str), Tx i z ∧ i < 3 ∧ Drw ds [.str z] m 1000000 10 (fun d => ∃ z', d = .str z' ∧ Tx (i + 1) z') Q
def numL : Option Int → D
  | none => .int (-1)
  | some n => .int n
def lpD : Option Ln → D
  | none => .lst []
  | some (.task z) => .lst [.str "task", .str z]
  | some (.kind z c d) => .lst [.str "kind", .str z, .int c, .int d]
  | some (.arrow a b g) => .lst [.str "arrow", .str a, .str b, .int g]
def sp_law_number_of (_ : Fr0) : DSp := fun ds m Q _ => ∃ w : Str, ds = [.str w] ∧ w.length ≤ 1000000 ∧ Q (numL (numP w)) m
def sp_law_parts (_ : Fr0) : DSp := fun ds m Q _ => ∃ x : Str, ds = [.str x] ∧ x.length ≤ 1000000 ∧ Q (lpD (lineP x)) m
def sp_law_is_name (_ : Fr0) : DSp := fun ds m Q _ => ∃ z : Str, ds = [.str z] ∧ StA 1000000 z ∧ Q (.bl (nameB z)) m
def dueD : Option Flt → D
  | none => .tup [.str "fine"]
  | some (.nm z) => .tup [.str "BadName", .str z]
  | some (.cnt w n) => .tup [.str "WrongCount", .str w, .int n]
  | some (.rng w v) => .tup [.str "OutOfRange", .str w, .int v]
  | some (.rep z) => .tup [.str "Repeated", .str z]
  | some (.repA z w) => .tup [.str "RepeatedArrow", .str z, .str w]
  | some (.unk z) => .tup [.str "UnknownKind", .str z]
def limL (b : Bool) : D := .lst [.int (if b = true then 9 else 99), .int (if b = true then 24 else 99)]
structure SzT (t : Tsk) : Prop where
  nm : StA 1000000 t.nm
  kl : t.ks.length ≤ 100
  k : ∀ k ∈ t.ks, StA 1000000 k.n
  al : t.as.length ≤ 100
  a : ∀ a ∈ t.as, StA 1000000 a.f ∧ StA 1000000 a.s
def sp_law_kind_fault (_ : Fr0) : DSp := fun ds m Q _ => ∃ (ks : List Knd) (b : Bool), ds = [ksD ks, limL b] ∧ ks.length ≤ 100 ∧ (∀ k ∈ ks, StA 1000000 k.n) ∧ Q (dueD (kndF b [] ks)) m
def sp_law_arrow_fault (_ : Fr0) : DSp := fun ds m Q _ => ∃ (as : List Arr) (ns : List Str), ds = [asD as, .lst (ns.map D.str)] ∧ as.length ≤ 100 ∧ ns.length ≤ 100 ∧ (∀ a ∈ as, StA 1000000 a.f ∧ StA 1000000 a.s) ∧ Q (dueD (arrF ns [] as)) m
def sp_law_task_fault (_ : Fr0) : DSp := fun ds m Q _ => ∃ t : Tsk, ds = [specD t] ∧ SzT t ∧ Q (dueD (tskF t)) m
def ansD : Ans → D
  | .bad k => .tup [.str "BadLine", .int k]
  | .flt f => dueD (some f)
  | .ok ts => .tup [.str "tasks", .lst (ts.map specD)]
def sp_law_due (_ : Fr0) : DSp := fun ds m Q _ => ∃ z : Str, ds = [.str z] ∧ Tx 3 z ∧ Q (ansD (ansT z)) m
def erX (K : Fr0) : Flt ⊕ Nat → XD
  | .inl f => f.X K
  | .inr k => Bad.X K k
def erD : Flt ⊕ Nat → D
  | .inl f => dueD (some f)
  | .inr k => ansD (.bad k)
def sp_law_fault (K : Fr0) (ea ec : Addr) (ed : Option Addr) : DSp := fun ds m Q _ => ∃ y : Flt ⊕ Nat, ds = [.exn ea ed (erX K y).fs] ∧ ec = (erX K y).C ∧ Q (erD y) m
def sp_law_told (_ : Fr0) : DSp := fun ds m Q _ => ∃ z : Str, ds = [.str z] ∧ Tx 3 z ∧ Q (ansD (ansT z)) m
end LW

set_option Elab.async false
set_option linter.all false
set_option maxRecDepth 100000
set_option maxHeartbeats 4000000
namespace LW
open PySem PySem.Spec PyProof.Rows L2 DL
open He (ga ma)
abbrev nm_BadName_init : List Str := ["self", "name"]
theorem sc_BadName_init : FnScope nm_BadName_init ["self", "name"] (defScope s_BadName_init) := ⟨rfl, rfl, rfl, by decide +kernel, rfl, by decide +kernel, by decide +kernel⟩

abbrev nm_WrongCount_init : List Str := ["self", "what", "count"]
theorem sc_WrongCount_init : FnScope nm_WrongCount_init ["self", "what", "count"] (defScope s_WrongCount_init) := ⟨rfl, rfl, rfl, by decide +kernel, rfl, by decide +kernel, by decide +kernel⟩

abbrev nm_OutOfRange_init : List Str := ["self", "what", "value"]
theorem sc_OutOfRange_init : FnScope nm_OutOfRange_init ["self", "what", "value"] (defScope s_OutOfRange_init) := ⟨rfl, rfl, rfl, by decide +kernel, rfl, by decide +kernel, by decide +kernel⟩

abbrev nm_Repeated_init : List Str := ["self", "name"]
theorem sc_Repeated_init : FnScope nm_Repeated_init ["self", "name"] (defScope s_Repeated_init) := ⟨rfl, rfl, rfl, by decide +kernel, rfl, by decide +kernel, by decide +kernel⟩

abbrev nm_RepeatedArrow_init : List Str := ["self", "first", "second"]
theorem sc_RepeatedArrow_init : FnScope nm_RepeatedArrow_init ["self", "first", "second"] (defScope s_RepeatedArrow_init) := ⟨rfl, rfl, rfl, by decide +kernel, rfl, by decide +kernel, by decide +kernel⟩

abbrev nm_UnknownKind_init : List Str := ["self", "name"]
theorem sc_UnknownKind_init : FnScope nm_UnknownKind_init ["self", "name"] (defScope s_UnknownKind_init) := ⟨rfl, rfl, rfl, by decide +kernel, rfl, by decide +kernel, by decide +kernel⟩

abbrev nm_BadLine_init : List Str := ["self", "line"]
theorem sc_BadLine_init : FnScope nm_BadLine_init ["self", "line"] (defScope s_BadLine_init) := ⟨rfl, rfl, rfl, by decide +kernel, rfl, by decide +kernel, by decide +kernel⟩

abbrev nm_is_name : List Str := ["text", "sign"]
theorem sc_is_name : FnScope nm_is_name ["text"] (defScope s_is_name) := ⟨rfl, rfl, rfl, by decide +kernel, rfl, by decide +kernel, by decide +kernel⟩
def t_is_name (K : PySem.W.Frag) (WD : DWX) : DTS :=
    dSeq (dIfS (dOr (dNot (dTest (dChain dLe dLe (dC (.int 1)) (dCB dLen (daCons (dVar 0) daNil)) (dC (.int 12))))) (dTest (dOp (dIn true) (dOp dIx (dVar 0) (dC (.int 0))) (dC (.str "abcdefghijklmnopqrstuvwxyz"))))) (dRet (dC (.bl false))) dNext)
    (dRet (dCB dAll (daCons (dLc false (diS (dVar 0)) (.one 1) [1] dYes (dOrV (dOp (dIn false) (dVar 1) (dC (.str "abcdefghijklmnopqrstuvwxyz"))) (dOp (dIn false) (dVar 1) (dC (.str "0123456789_"))))) daNil)))

abbrev nm_need_name : List Str := ["text"]
theorem sc_need_name : FnScope nm_need_name ["text"] (defScope s_need_name) := ⟨rfl, rfl, rfl, by decide +kernel, rfl, by decide +kernel, by decide +kernel⟩
def t_need_name (K : PySem.W.Frag) (WD : DWX) : DTS :=
    dIfS (dNot (dTru (dCall (sp_is_name K) WD [] (daCons (dVar 0) daNil)))) (dRaise (ga K "BadName") ["name"] WD (daCons (dVar 0) daNil)) dNext

abbrev nm_need_range : List Str := ["what", "value", "least", "most"]
theorem sc_need_range : FnScope nm_need_range ["what", "value", "least", "most"] (defScope s_need_range) := ⟨rfl, rfl, rfl, by decide +kernel, rfl, by decide +kernel, by decide +kernel⟩
def t_need_range (K : PySem.W.Frag) (WD : DWX) : DTS :=
    dIfS (dOr (dTest (dOp dLt (dVar 1) (dVar 2))) (dTest (dOp dGt (dVar 1) (dVar 3)))) (dRaise (ga K "OutOfRange") ["what", "value"] WD (daCons (dVar 0) (daCons (dVar 1) daNil))) dNext

abbrev nm_need_kind : List Str := ["name", "kind_rows", "row"]
theorem sc_need_kind : FnScope nm_need_kind ["name", "kind_rows"] (defScope s_need_kind) := ⟨rfl, rfl, rfl, by decide +kernel, rfl, by decide +kernel, by decide +kernel⟩
def t_need_kind (K : PySem.W.Frag) (WD : DWX) : DTS :=
    dIfS (dTest (dOp (dIn true) (dVar 0) (dLc false (diL (dVar 1)) (.one 2) [2] dYes (dOp dIx (dVar 2) (dC (.int 0)))))) (dRaise (ga K "UnknownKind") ["name"] WD (daCons (dVar 0) daNil)) dNext

abbrev nm_checked_kinds : List Str := ["kinds", "branching", "most_cost", "most_deadline", "rows", "name", "cost", "deadline", "row"]
theorem sc_checked_kinds : FnScope nm_checked_kinds ["kinds", "branching"] (defScope s_checked_kinds) := ⟨rfl, rfl, rfl, by decide +kernel, rfl, by decide +kernel, by decide +kernel⟩
def t_checked_kinds (K : PySem.W.Frag) (WD : DWX) : DTS :=
    dSeq (dAsg (dIf (dTru (dVar 1)) (dTup (daCons (dC (.int 9)) (daCons (dC (.int 24)) daNil))) (dTup (daCons (dC (.int 99)) (daCons (dC (.int 99)) daNil)))) (gT 2 (gsCons (gN 2) (gsCons (gN 3) gsNil))))
    (dSeq (dSet 4 (dLst true daNil))
    (dSeq (dFor (diQ (dVar 0)) (gT 3 (gsCons (gN 5) (gsCons (gN 6) (gsCons (gN 7) gsNil)))) (dSeq (dDrop (dCall (sp_need_name K) WD [] (daCons (dVar 5) daNil)))
    (dSeq (dIfS (dTest (dOp (dIn false) (dVar 5) (dLcM false (dVar 4) (.one 8) [8] dYes (dOp dIx (dVar 8) (dC (.int 0)))))) (dRaise (ga K "Repeated") ["name"] WD (daCons (dVar 5) daNil)) dNext)
    (dSeq (dDrop (dCall (sp_need_range K) WD [] (daCons (dC (.str "cost")) (daCons (dVar 6) (daCons (dC (.int 1)) (daCons (dVar 2) daNil))))))
    (dSeq (dDrop (dCall (sp_need_range K) WD [] (daCons (dC (.str "deadline")) (daCons (dVar 7) (daCons (dC (.int 1)) (daCons (dVar 3) daNil))))))
    (dDrop (dBM isL dAppend (dVar 4) (daCons (dTup (daCons (dVar 5) (daCons (dVar 6) (daCons (dVar 7) daNil)))) daNil))))))))
    (dRet (dFrzE (dVar 4)))))

abbrev nm_checked_arrows : List Str := ["arrows", "kind_rows", "rows", "first", "second", "gap", "row"]
theorem sc_checked_arrows : FnScope nm_checked_arrows ["arrows", "kind_rows"] (defScope s_checked_arrows) := ⟨rfl, rfl, rfl, by decide +kernel, rfl, by decide +kernel, by decide +kernel⟩
def t_checked_arrows (K : PySem.W.Frag) (WD : DWX) : DTS :=
    dSeq (dSet 2 (dLst true daNil))
    (dSeq (dFor (diQ (dVar 0)) (gT 3 (gsCons (gN 3) (gsCons (gN 4) (gsCons (gN 5) gsNil)))) (dSeq (dDrop (dCall (sp_need_kind K) WD [] (daCons (dVar 3) (daCons (dVar 1) daNil))))
    (dSeq (dDrop (dCall (sp_need_kind K) WD [] (daCons (dVar 4) (daCons (dVar 1) daNil))))
    (dSeq (dDrop (dCall (sp_need_range K) WD [] (daCons (dC (.str "gap")) (daCons (dVar 5) (daCons (dC (.int 1)) (daCons (dC (.int 12)) daNil))))))
    (dSeq (dIfS (dTest (dOp (dInD false) (dTup (daCons (dVar 3) (daCons (dVar 4) daNil))) (dLcM false (dVar 2) (.one 6) [6] dYes (dTup (daCons (dOp dIx (dVar 6) (dC (.int 0))) (daCons (dOp dIx (dVar 6) (dC (.int 1))) daNil)))))) (dRaise (ga K "RepeatedArrow") ["first", "second"] WD (daCons (dVar 3) (daCons (dVar 4) daNil))) dNext)
    (dDrop (dBM isL dAppend (dVar 2) (daCons (dTup (daCons (dVar 3) (daCons (dVar 4) (daCons (dVar 5) daNil)))) daNil))))))))
    (dRet (dFrzE (dVar 2))))

abbrev nm_Task_init : List Str := ["self", "name", "kinds", "arrows"]
theorem sc_Task_init : FnScope nm_Task_init ["self", "name", "kinds", "arrows"] (defScope s_Task_init) := ⟨rfl, rfl, rfl, by decide +kernel, rfl, by decide +kernel, by decide +kernel⟩
def t_Task_init (K : PySem.W.Frag) (WD : DWX) : DTS :=
    dSeq (dDrop (dCall (sp_need_name K) WD [] (daCons (dVar 1) daNil)))
    (dSeq (dIfS (dNot (dTest (dChain dLe dLe (dC (.int 1)) (dCB dLen (daCons (dVar 2) daNil)) (dC (.int 4))))) (dRaise (ga K "WrongCount") ["what", "count"] WD (daCons (dC (.str "kinds")) (daCons (dCB dLen (daCons (dVar 2) daNil)) daNil))) dNext)
    (dSeq (dIfS (dTest (dOp dGt (dCB dLen (daCons (dVar 3) daNil)) (dC (.int 12)))) (dRaise (ga K "WrongCount") ["what", "count"] WD (daCons (dC (.str "arrows")) (daCons (dCB dLen (daCons (dVar 3) daNil)) daNil))) dNext)
    (dSeq (dFldS K (dVar 0) (dVar 1) "name")
    (dSeq (dFldS K (dVar 0) (dCall (sp_checked_kinds K) WD [] (daCons (dVar 2) (daCons (dOp dGt (dCB dLen (daCons (dVar 3) daNil)) (dC (.int 0))) daNil))) "kind_rows")
    (dFldS K (dVar 0) (dCall (sp_checked_arrows K) WD [] (daCons (dVar 3) (daCons (dFld K (dVar 0) "kind_rows") daNil))) "arrow_rows")))))

abbrev nm_Task_kinds : List Str := ["self"]
theorem sc_Task_kinds : FnScope nm_Task_kinds ["self"] (defScope s_Task_kinds) := ⟨rfl, rfl, rfl, by decide +kernel, rfl, by decide +kernel, by decide +kernel⟩
def t_Task_kinds (K : PySem.W.Frag) (WD : DWX) : DTS :=
    dRet (dCB (dList false) (daCons (dFld K (dVar 0) "kind_rows") daNil))

abbrev nm_Task_arrows : List Str := ["self"]
theorem sc_Task_arrows : FnScope nm_Task_arrows ["self"] (defScope s_Task_arrows) := ⟨rfl, rfl, rfl, by decide +kernel, rfl, by decide +kernel, by decide +kernel⟩
def t_Task_arrows (K : PySem.W.Frag) (WD : DWX) : DTS :=
    dRet (dCB (dList false) (daCons (dFld K (dVar 0) "arrow_rows") daNil))

abbrev nm_number_of : List Str := ["word", "sign"]
theorem sc_number_of : FnScope nm_number_of ["word"] (defScope s_number_of) := ⟨rfl, rfl, rfl, by decide +kernel, rfl, by decide +kernel, by decide +kernel⟩
def t_number_of (K : PySem.W.Frag) (WD : DWX) : DTS :=
    dSeq (dIfS (dOr (dNot (dTest (dChain dLe dLe (dC (.int 1)) (dCB dLen (daCons (dVar 0) daNil)) (dC (.int 9))))) (dNot (dTru (dCB dAll (daCons (dLc false (diS (dVar 0)) (.one 1) [1] dYes (dOp (dIn false) (dVar 1) (dC (.str "0123456789")))) daNil))))) (dRet (dC .non)) dNext)
    (dSeq (dIfS (dAnd (dTest (dOp dEq (dOp dIx (dVar 0) (dC (.int 0))) (dC (.str "0")))) (dTest (dOp dNe (dVar 0) (dC (.str "0"))))) (dRet (dC .non)) dNext)
    (dRet (dCB dIntS (daCons (dVar 0) daNil))))

abbrev nm_kind_parts : List Str := ["name", "cost", "deadline", "numbers"]
theorem sc_kind_parts : FnScope nm_kind_parts ["name", "cost", "deadline"] (defScope s_kind_parts) := ⟨rfl, rfl, rfl, by decide +kernel, rfl, by decide +kernel, by decide +kernel⟩
def t_kind_parts (K : PySem.W.Frag) (WD : DWX) : DTS :=
    dSeq (dSet 3 (dLst false (daCons (dCall (sp_number_of K) WD [] (daCons (dVar 1) daNil)) (daCons (dCall (sp_number_of K) WD [] (daCons (dVar 2) daNil)) daNil))))
    (dSeq (dIfS (dTest (dOp (dIn false) (dC .non) (dVar 3))) (dRet (dC .non)) dNext)
    (dRet (dTup (daCons (dC (.str "kind")) (daCons (dVar 0) (daCons (dOp dIx (dVar 3) (dC (.int 0))) (daCons (dOp dIx (dVar 3) (dC (.int 1))) daNil)))))))

abbrev nm_arrow_parts : List Str := ["first", "second", "gap", "number"]
theorem sc_arrow_parts : FnScope nm_arrow_parts ["first", "second", "gap"] (defScope s_arrow_parts) := ⟨rfl, rfl, rfl, by decide +kernel, rfl, by decide +kernel, by decide +kernel⟩
def t_arrow_parts (K : PySem.W.Frag) (WD : DWX) : DTS :=
    dSeq (dSet 3 (dCall (sp_number_of K) WD [] (daCons (dVar 2) daNil)))
    (dSeq (dIfS (dTest (dOp dIsN (dVar 3) (dC .non))) (dRet (dC .non)) dNext)
    (dRet (dTup (daCons (dC (.str "arrow")) (daCons (dVar 0) (daCons (dVar 1) (daCons (dVar 3) daNil)))))))

abbrev nm_line_parts : List Str := ["line", "words", "name", "cost", "deadline", "first", "second", "gap"]
theorem sc_line_parts : FnScope nm_line_parts ["line"] (defScope s_line_parts) := ⟨rfl, rfl, rfl, by decide +kernel, rfl, by decide +kernel, by decide +kernel⟩
def t_line_parts (K : PySem.W.Frag) (WD : DWX) : DTS :=
    dSeq (dSet 1 (dBM isS (dSplit false) (dVar 0) (daCons (dC (.str " ")) daNil)))
    (dSeq (dIfS (dTest (dOp (dIn false) (dC (.str "")) (dVar 1))) (dRet (dC .non)) dNext)
    (dMatch (dVar 1) (dCase "task" [2] (dRet (dTup (daCons (dC (.str "task")) (daCons (dVar 2) daNil)))) (dCase "kind" [2, 3, 4] (dRet (dCall (sp_kind_parts K) WD [] (daCons (dVar 2) (daCons (dVar 3) (daCons (dVar 4) daNil))))) (dCase "arrow" [5, 6, 7] (dRet (dCall (sp_arrow_parts K) WD [] (daCons (dVar 5) (daCons (dVar 6) (daCons (dVar 7) daNil))))) (fun _ => dRet (dC .non)))))))

abbrev nm_read_lines : List Str := ["text", "lines", "rows", "at", "parts"]
theorem sc_read_lines : FnScope nm_read_lines ["text"] (defScope s_read_lines) := ⟨rfl, rfl, rfl, by decide +kernel, rfl, by decide +kernel, by decide +kernel⟩
def t_read_lines (K : PySem.W.Frag) (WD : DWX) : DTS :=
    dSeq (dSet 1 (dBM isS (dSplit false) (dVar 0) (daCons (dC (.str "\n")) daNil)))
    (dSeq (dSet 2 (dLst true daNil))
    (dSeq (dFor (diR1 (daCons (dOp dSub (dCB dLen (daCons (dVar 1) daNil)) (dC (.int 1))) daNil)) (gN 3) (dSeq (dSet 4 (dCall (sp_line_parts K) WD [] (daCons (dOp dIx (dVar 1) (dVar 3)) daNil)))
    (dSeq (dIfS (dOr (dTest (dOp dIsN (dVar 4) (dC .non))) (dAnd (dTest (dOp dNe (dOp dIx (dVar 4) (dC (.int 0))) (dC (.str "task")))) (dTest (dOp dEqZ (dVar 2) (dLst false daNil))))) (dRaise (ga K "BadLine") ["line"] WD (daCons (dOp (dAdd false) (dVar 3) (dC (.int 1))) daNil)) dNext)
    (dDrop (dBM isL dAppend (dVar 2) (daCons (dVar 4) daNil))))))
    (dFrz 2 (dSeq (dIfS (dTest (dOp dNe (dOp dIx (dVar 1) (dUn dNeg (dC (.int 1)))) (dC (.str "")))) (dRaise (ga K "BadLine") ["line"] WD (daCons (dCB dLen (daCons (dVar 1) daNil)) daNil)) dNext)
    (dRet (dWk (dVar 2)))))))

abbrev nm_read_tasks : List Str := ["text", "drafts", "parts", "name", "kinds", "arrows"]
theorem sc_read_tasks : FnScope nm_read_tasks ["text"] (defScope s_read_tasks) := ⟨rfl, rfl, rfl, by decide +kernel, rfl, by decide +kernel, by decide +kernel⟩
def t_read_tasks (K : PySem.W.Frag) (WD : DWX) : DTS :=
    dSeq (dSet 1 (dLst true daNil))
    (dSeq (dFor (diL (dCall (sp_read_lines K) WD [] (daCons (dVar 0) daNil))) (gN 2) (dIfS (dTest (dOp dEq (dOp dIx (dVar 2) (dC (.int 0))) (dC (.str "task")))) (dDrop (dBM isL dAppend (dVar 1) (daCons (dTup (daCons (dOp dIx (dVar 2) (dC (.int 1))) (daCons (dLst true daNil) (daCons (dLst true daNil) daNil)))) daNil))) (dIfS (dTest (dOp dEq (dOp dIx (dVar 2) (dC (.int 0))) (dC (.str "kind")))) (dDrop (dBM isL dAppend (dOp dIx (dOp dIx (dVar 1) (dUn dNeg (dC (.int 1)))) (dC (.int 1))) (daCons (dTup (daCons (dOp dIx (dVar 2) (dC (.int 1))) (daCons (dOp dIx (dVar 2) (dC (.int 2))) (daCons (dOp dIx (dVar 2) (dC (.int 3))) daNil)))) daNil))) (dDrop (dBM isL dAppend (dOp dIx (dOp dIx (dVar 1) (dUn dNeg (dC (.int 1)))) (dC (.int 2))) (daCons (dTup (daCons (dOp dIx (dVar 2) (dC (.int 1))) (daCons (dOp dIx (dVar 2) (dC (.int 2))) (daCons (dOp dIx (dVar 2) (dC (.int 3))) daNil)))) daNil))))))
    (dFrz 1 (dFrzG 1 (dRet (dWk (dLcX false (diL (dVar 1)) (.tup [3, 4, 5]) [3, 4, 5] (fun rX => dYes) (fun rX => dMake (ga K "Task") (sp_Task_init K) (DWX.blk WD rX) [] (daCons (dVar 3) (daCons (dVar 4) (daCons (dVar 5) daNil))))))))))

abbrev nm_law_pool : List Str := ["_law_script", "_law_seed", "_law_cell"]
theorem sc_law_pool : FnScope nm_law_pool ["_law_script"] (defScope s_law_pool) := ⟨rfl, rfl, rfl, by decide +kernel, rfl, by decide +kernel, by decide +kernel⟩
def t_law_pool (K : PySem.W.Frag) (WD : DWX) : DTS :=
    dSeq (dSet 1 (dC (.int 1)))
    (dSeq (dFor (diL (dVar 0)) (gN 2) (dSet 1 (dOp dMod (dCB dInt1 (daCons (dOp (dAdd false) (dOp (dMul false) (dVar 1) (dC (.int 48271))) (dVar 2)) daNil)) (dC (.int 2147483647)))))
    (dRet (dLst true (daCons (dLc true (diL (dVar 0)) (.one 2) [2] (dTest (dOp dGe (dVar 2) (dOp dPow (dC (.int 10)) (dC (.int 18))))) (dVar 2)) (daCons (dVar 1) (daCons (dC (.int 0)) daNil))))))

abbrev nm_law_draw : List Str := ["_law_pool_here", "_law_limit", "_law_rest", "_law_value", "_law_first", "_law_second"]
theorem sc_law_draw : FnScope nm_law_draw ["_law_pool_here", "_law_limit"] (defScope s_law_draw) := ⟨rfl, rfl, rfl, by decide +kernel, rfl, by decide +kernel, by decide +kernel⟩
def t_law_draw (K : PySem.W.Frag) (WD : DWX) : DTS :=
    dSeq (dSet 2 (dOp dIx (dVar 0) (dC (.int 0))))
    (dSeq (dIfS (dTest (dOp dNe (dVar 2) (dLst false daNil))) (dSeq (dSet 3 (dOp dMod (dCB dInt1 (daCons (dOp dIx (dVar 2) (dC (.int 0))) daNil)) (dVar 1)))
    (dSeq (dAsg (dOp dDiv (dOp dIx (dVar 2) (dC (.int 0))) (dVar 1)) (gSet (dVar 2) (dC (.int 0))))
    (dSeq (dIfS (dTest (dOp dEq (dOp dIx (dVar 2) (dC (.int 0))) (dC (.int 0)))) (dDrop (dBM isL dPopAt (dVar 2) (daCons (dC (.int 0)) daNil))) dNext)
    (dRet (dVar 3))))) dNext)
    (dSeq (dAsg (dOp (dAdd false) (dOp dIx (dVar 0) (dC (.int 2))) (dC (.int 1))) (gSet (dVar 0) (dC (.int 2))))
    (dSeq (dSet 4 (dOp dMod (dOp dPow (dCB dInt1 (daCons (dOp (dAdd false) (dOp dIx (dVar 0) (dC (.int 1))) (dOp (dMul false) (dC (.int 7919)) (dOp dIx (dVar 0) (dC (.int 2))))) daNil)) (dC (.int 5))) (dC (.int 2147483647))))
    (dSeq (dSet 5 (dOp dMod (dCB dInt1 (daCons (dOp (dAdd false) (dOp (dMul false) (dVar 4) (dC (.int 48271))) (dOp dIx (dVar 0) (dC (.int 1)))) daNil)) (dC (.int 2147483629))))
    (dRet (dOp dMod (dOp dDiv (dCB dInt1 (daCons (dVar 5) daNil)) (dC (.int 8))) (dVar 1)))))))

abbrev nm_law_name : List Str := ["_law_pool_here", "_law_signs", "_law_size", "_law_k"]
theorem sc_law_name : FnScope nm_law_name ["_law_pool_here"] (defScope s_law_name) := ⟨rfl, rfl, rfl, by decide +kernel, rfl, by decide +kernel, by decide +kernel⟩
def t_law_name (K : PySem.W.Frag) (WD : DWX) : DTS :=
    dSeq (dSet 1 (dC (.str "abcdefghijklmnopqrstuvwxyz0123456789_")))
    (dSeq (dSet 2 (dCall (sp_law_draw K) WD [] (daCons (dVar 0) (daCons (dC (.int 12)) daNil))))
    (dRet (dOp (dAdd false) (dOp dIx (dVar 1) (dCall (sp_law_draw K) WD [] (daCons (dVar 0) (daCons (dC (.int 26)) daNil)))) (dBM isS dJoin (dC (.str "")) (daCons (dLc false (diR1 (daCons (dVar 2) daNil)) (.one 3) [3] dYes (dOp dIx (dVar 1) (dCall (sp_law_draw K) WD0 [] (daCons (dVar 0) (daCons (dC (.int 37)) daNil))))) daNil)))))

abbrev nm_law_fresh : List Str := ["_law_word", "_law_taken", "_law_sign_here"]
theorem sc_law_fresh : FnScope nm_law_fresh ["_law_word", "_law_taken"] (defScope s_law_fresh) := ⟨rfl, rfl, rfl, by decide +kernel, rfl, by decide +kernel, by decide +kernel⟩
def t_law_fresh (K : PySem.W.Frag) (WD : DWX) : DTS :=
    dSeq (dIfS (dTest (dOp (dIn true) (dVar 0) (dVar 1))) (dRet (dVar 0)) dNext)
    (dRet (dOp dIx (dLc false (diS (dC (.str "01234"))) (.one 2) [2] (dTest (dOp (dIn true) (dOp (dAdd false) (dSlice false (dVar 0) doNone (doSome (dC (.int 11)))) (dVar 2)) (dVar 1))) (dOp (dAdd false) (dSlice false (dVar 0) doNone (doSome (dC (.int 11)))) (dVar 2))) (dC (.int 0))))

abbrev nm_law_near : List Str := ["_law_pool_here", "_law_taken", "_law_signs", "_law_manner", "_law_word", "_law_at"]
theorem sc_law_near : FnScope nm_law_near ["_law_pool_here", "_law_taken"] (defScope s_law_near) := ⟨rfl, rfl, rfl, by decide +kernel, rfl, by decide +kernel, by decide +kernel⟩
def t_law_near (K : PySem.W.Frag) (WD : DWX) : DTS :=
    dSeq (dSet 2 (dC (.str "abcdefghijklmnopqrstuvwxyz0123456789_")))
    (dSeq (dSet 3 (dCall (sp_law_draw K) WD [] (daCons (dVar 0) (daCons (dC (.int 3)) daNil))))
    (dSeq (dSet 4 (dCall (sp_law_name K) WD [] (daCons (dVar 0) daNil)))
    (dSeq (dSet 5 (dOp (dAdd false) (dC (.int 1)) (dCall (sp_law_draw K) WD [] (daCons (dVar 0) (daCons (dC (.int 11)) daNil)))))
    (dSeq (dIfS (dAnd (dTest (dOp dNe (dVar 1) (dLst false daNil))) (dTest (dOp dEq (dVar 3) (dC (.int 1))))) (dSet 4 (dOp (dAdd false) (dSlice false (dOp dIx (dVar 1) (dC (.int 0))) doNone (doSome (dC (.int 11)))) (dOp dIx (dVar 2) (dCall (sp_law_draw K) WD [] (daCons (dVar 0) (daCons (dC (.int 37)) daNil)))))) dNext)
    (dSeq (dIfS (dAnd (dTest (dOp dNe (dVar 1) (dLst false daNil))) (dTest (dOp dEq (dVar 3) (dC (.int 2))))) (dSet 4 (dSlice false (dOp (dAdd false) (dOp (dAdd false) (dSlice false (dOp dIx (dVar 1) (dC (.int 0))) doNone (doSome (dVar 5))) (dOp dIx (dVar 2) (dCall (sp_law_draw K) WD [] (daCons (dVar 0) (daCons (dC (.int 37)) daNil))))) (dSlice false (dOp dIx (dVar 1) (dC (.int 0))) (doSome (dOp (dAdd false) (dVar 5) (dC (.int 1)))) doNone)) doNone (doSome (dC (.int 12))))) dNext)
    (dRet (dCall (sp_law_fresh K) WD [] (daCons (dVar 4) (daCons (dVar 1) daNil)))))))))

abbrev nm_law_number : List Str := ["_law_pool_here", "_law_most", "_law_manner"]
theorem sc_law_number : FnScope nm_law_number ["_law_pool_here", "_law_most"] (defScope s_law_number) := ⟨rfl, rfl, rfl, by decide +kernel, rfl, by decide +kernel, by decide +kernel⟩
def t_law_number (K : PySem.W.Frag) (WD : DWX) : DTS :=
    dSeq (dSet 2 (dCall (sp_law_draw K) WD [] (daCons (dVar 0) (daCons (dC (.int 4)) daNil))))
    (dSeq (dIfS (dTest (dOp dEq (dVar 2) (dC (.int 0)))) (dRet (dC (.int 1))) dNext)
    (dSeq (dIfS (dTest (dOp dEq (dVar 2) (dC (.int 1)))) (dRet (dVar 1)) dNext)
    (dRet (dOp (dAdd false) (dC (.int 1)) (dCall (sp_law_draw K) WD [] (daCons (dVar 0) (daCons (dVar 1) daNil)))))))

abbrev nm_law_spec : List Str := ["_law_pool_here", "_law_size", "_law_many", "_law_limits", "_law_taken", "_law_rows", "_law_k", "_law_word", "_law_pairs", "_law_ties", "_law_pair"]
theorem sc_law_spec : FnScope nm_law_spec ["_law_pool_here"] (defScope s_law_spec) := ⟨rfl, rfl, rfl, by decide +kernel, rfl, by decide +kernel, by decide +kernel⟩
def t_law_spec (K : PySem.W.Frag) (WD : DWX) : DTS :=
    dSeq (dSet 1 (dOp (dAdd false) (dC (.int 1)) (dCall (sp_law_draw K) WD [] (daCons (dVar 0) (daCons (dC (.int 4)) daNil)))))
    (dSeq (dSet 2 (dCall (sp_law_draw K) WD [] (daCons (dVar 0) (daCons (dOp (dAdd false) (dC (.int 1)) (dCB dMin (daCons (dC (.int 12)) (daCons (dOp (dMul false) (dVar 1) (dVar 1)) daNil)))) daNil))))
    (dSeq (dSet 3 (dOp dIx (dLst false (daCons (dLst false (daCons (dC (.int 99)) (daCons (dC (.int 99)) daNil))) (daCons (dLst false (daCons (dC (.int 9)) (daCons (dC (.int 24)) daNil))) daNil))) (dCB dInt1 (daCons (dOp dGt (dVar 2) (dC (.int 0))) daNil))))
    (dSeq (dSet 4 (dLst true daNil))
    (dSeq (dSet 5 (dLst true daNil))
    (dSeq (dFor (diR1 (daCons (dVar 1) daNil)) (gN 6) (dSeq (dSet 7 (dCall (sp_law_near K) WD [] (daCons (dVar 0) (daCons (dVar 4) daNil))))
    (dSeq (dDrop (dBM isL dAppend (dVar 4) (daCons (dVar 7) daNil)))
    (dDrop (dBM isL dAppend (dVar 5) (daCons (dTup (daCons (dVar 7) (daCons (dCall (sp_law_number K) WD [] (daCons (dVar 0) (daCons (dOp dIx (dVar 3) (dC (.int 0))) daNil))) (daCons (dCall (sp_law_number K) WD [] (daCons (dVar 0) (daCons (dOp dIx (dVar 3) (dC (.int 1))) daNil))) daNil)))) daNil))))))
    (dFrz 4 (dFrz 5 (dSeq (dSet 8 (dLc true (diR1 (daCons (dOp (dMul false) (dVar 1) (dVar 1)) daNil)) (.one 6) [6] dYes (dTup (daCons (dOp dIx (dVar 4) (dOp dDiv (dVar 6) (dVar 1))) (daCons (dOp dIx (dVar 4) (dOp dMod (dVar 6) (dVar 1))) daNil)))))
    (dSeq (dSet 9 (dLst true daNil))
    (dSeq (dFor (diR1 (daCons (dVar 2) daNil)) (gN 6) (dSeq (dSet 10 (dBM isL dPopAt (dVar 8) (daCons (dCall (sp_law_draw K) WD [] (daCons (dVar 0) (daCons (dCB dLen (daCons (dVar 8) daNil)) daNil))) daNil)))
    (dDrop (dBM isL dAppend (dVar 9) (daCons (dTup (daCons (dOp dIx (dVar 10) (dC (.int 0))) (daCons (dOp dIx (dVar 10) (dC (.int 1))) (daCons (dCall (sp_law_number K) WD [] (daCons (dVar 0) (daCons (dC (.int 12)) daNil))) daNil)))) daNil)))))
    (dFrz 9 (dRet (dWk (dTup (daCons (dCall (sp_law_name K) WD [] (daCons (dVar 0) daNil)) (daCons (dVar 5) (daCons (dVar 9) daNil)))))))))))))))))

abbrev nm_law_text : List Str := ["_law_specs", "_law_text_here", "_law_spec_here", "_law_rows", "_law_row", "_law_tie"]
theorem sc_law_text : FnScope nm_law_text ["_law_specs"] (defScope s_law_text) := ⟨rfl, rfl, rfl, by decide +kernel, rfl, by decide +kernel, by decide +kernel⟩
def t_law_text (K : PySem.W.Frag) (WD : DWX) : DTS :=
    dSeq (dSet 1 (dC (.str "")))
    (dSeq (dFor (diL (dVar 0)) (gN 2) (dSeq (dSet 1 (dOp (dAdd false) (dOp (dAdd false) (dOp (dAdd false) (dVar 1) (dC (.str "task "))) (dOp dIx (dVar 2) (dC (.int 0)))) (dC (.str "\n"))))
    (dSeq (dSet 3 (dLc false (diL (dOp dIx (dVar 2) (dC (.int 1)))) (.one 4) [4] dYes (dOp (dAdd false) (dOp (dAdd false) (dOp (dAdd false) (dOp (dAdd false) (dOp (dAdd false) (dC (.str "kind ")) (dOp dIx (dVar 4) (dC (.int 0)))) (dC (.str " "))) (dCB dStrI (daCons (dOp dIx (dVar 4) (dC (.int 1))) daNil))) (dC (.str " "))) (dCB dStrI (daCons (dOp dIx (dVar 4) (dC (.int 2))) daNil)))))
    (dSeq (dSet 3 (dOp (dAdd false) (dVar 3) (dLc false (diL (dOp dIx (dVar 2) (dC (.int 2)))) (.one 5) [5] dYes (dOp (dAdd false) (dOp (dAdd false) (dOp (dAdd false) (dOp (dAdd false) (dOp (dAdd false) (dC (.str "arrow ")) (dOp dIx (dVar 5) (dC (.int 0)))) (dC (.str " "))) (dOp dIx (dVar 5) (dC (.int 1)))) (dC (.str " "))) (dCB dStrI (daCons (dOp dIx (dVar 5) (dC (.int 2))) daNil))))))
    (dSet 1 (dOp (dAdd false) (dVar 1) (dBM isS dJoin (dC (.str "")) (daCons (dLc false (diL (dVar 3)) (.one 4) [4] dYes (dOp (dAdd false) (dVar 4) (dC (.str "\n")))) daNil))))))))
    (dRet (dVar 1)))

abbrev nm_law_sign : List Str := ["_law_pool_here", "_law_signs"]
theorem sc_law_sign : FnScope nm_law_sign ["_law_pool_here"] (defScope s_law_sign) := ⟨rfl, rfl, rfl, by decide +kernel, rfl, by decide +kernel, by decide +kernel⟩
def t_law_sign (K : PySem.W.Frag) (WD : DWX) : DTS :=
    dSeq (dSet 1 (dC (.str " !\"#$&'()*+,-./0123456789:;<=>?@ABCDEFGHIJKLMNOPQRSTUVWXYZ[\\]^_`abcdefghijklmnopqrstuvwxyz{|}~\n")))
    (dRet (dOp dIx (dVar 1) (dCall (sp_law_draw K) WD [] (daCons (dVar 0) (daCons (dCB dLen (daCons (dVar 1) daNil)) daNil)))))

abbrev nm_law_spoil_sign : List Str := ["_law_pool_here", "_law_text_here", "_law_what", "_law_at"]
theorem sc_law_spoil_sign : FnScope nm_law_spoil_sign ["_law_pool_here", "_law_text_here"] (defScope s_law_spoil_sign) := ⟨rfl, rfl, rfl, by decide +kernel, rfl, by decide +kernel, by decide +kernel⟩
def t_law_spoil_sign (K : PySem.W.Frag) (WD : DWX) : DTS :=
    dSeq (dSet 2 (dCall (sp_law_draw K) WD [] (daCons (dVar 0) (daCons (dC (.int 4)) daNil))))
    (dSeq (dSet 3 (dCall (sp_law_draw K) WD [] (daCons (dVar 0) (daCons (dOp (dAdd false) (dCB dLen (daCons (dVar 1) daNil)) (dC (.int 1))) daNil))))
    (dSeq (dIfS (dTest (dOp dEq (dVar 2) (dC (.int 0)))) (dRet (dOp (dAdd false) (dOp (dAdd false) (dSlice false (dVar 1) doNone (doSome (dVar 3))) (dCall (sp_law_sign K) WD [] (daCons (dVar 0) daNil))) (dSlice false (dVar 1) (doSome (dVar 3)) doNone))) dNext)
    (dSeq (dIfS (dTest (dOp dEq (dVar 2) (dC (.int 1)))) (dRet (dOp (dAdd false) (dSlice false (dVar 1) doNone (doSome (dVar 3))) (dSlice false (dVar 1) (doSome (dOp (dAdd false) (dVar 3) (dC (.int 1)))) doNone))) dNext)
    (dSeq (dIfS (dTest (dOp dEq (dVar 2) (dC (.int 2)))) (dRet (dOp (dAdd false) (dOp (dAdd false) (dSlice false (dVar 1) doNone (doSome (dVar 3))) (dCall (sp_law_sign K) WD [] (daCons (dVar 0) daNil))) (dSlice false (dVar 1) (doSome (dOp (dAdd false) (dVar 3) (dC (.int 1)))) doNone))) dNext)
    (dRet (dOp dIx (dLst false (daCons (dSlice false (dVar 1) doNone (doSome (dUn dNeg (dC (.int 1))))) (daCons (dOp (dAdd false) (dVar 1) (dC (.str "\n"))) (daCons (dOp (dAdd false) (dVar 1) (dC (.str "task"))) (daCons (dOp (dAdd false) (dVar 1) (dC (.str " \n"))) (daCons (dOp (dAdd false) (dC (.str "\n")) (dVar 1)) daNil)))))) (dCall (sp_law_draw K) WD [] (daCons (dVar 0) (daCons (dC (.int 5)) daNil)))))))))

abbrev nm_law_spoil_line : List Str := ["_law_pool_here", "_law_text_here", "_law_lines", "_law_what", "_law_at", "_law_to", "_law_line", "_law_words", "_law_odd"]
theorem sc_law_spoil_line : FnScope nm_law_spoil_line ["_law_pool_here", "_law_text_here"] (defScope s_law_spoil_line) := ⟨rfl, rfl, rfl, by decide +kernel, rfl, by decide +kernel, by decide +kernel⟩
def t_law_spoil_line (K : PySem.W.Frag) (WD : DWX) : DTS :=
    dSeq (dSet 2 (dBM isS (dSplit true) (dVar 1) (daCons (dC (.str "\n")) daNil)))
    (dSeq (dSet 3 (dCall (sp_law_draw K) WD [] (daCons (dVar 0) (daCons (dC (.int 4)) daNil))))
    (dSeq (dSet 4 (dCall (sp_law_draw K) WD [] (daCons (dVar 0) (daCons (dCB dLen (daCons (dVar 2) daNil)) daNil))))
    (dSeq (dSet 5 (dCall (sp_law_draw K) WD [] (daCons (dVar 0) (daCons (dCB dLen (daCons (dVar 2) daNil)) daNil))))
    (dSeq (dSet 6 (dOp dIx (dVar 2) (dVar 4)))
    (dSeq (dIfS (dTest (dOp dEq (dVar 3) (dC (.int 0)))) (dDrop (dBM isL dPopAt (dVar 2) (daCons (dVar 4) daNil))) dNext)
    (dSeq (dIfS (dTest (dOp dEq (dVar 3) (dC (.int 1)))) (dDrop (dBM isL dInsert (dVar 2) (daCons (dVar 5) (daCons (dVar 6) daNil)))) dNext)
    (dSeq (dIfS (dTest (dOp dEq (dVar 3) (dC (.int 2)))) (dSeq (dAsg (dOp dIx (dVar 2) (dVar 5)) (gSet (dVar 2) (dVar 4)))
    (dAsg (dVar 6) (gSet (dVar 2) (dVar 5)))) dNext)
    (dSeq (dIfS (dTest (dOp dEq (dVar 3) (dC (.int 3)))) (dSeq (dSet 7 (dBM isS (dSplit true) (dVar 6) (daCons (dC (.str " ")) daNil)))
    (dSeq (dSet 8 (dLst false (daCons (dOp (dAdd false) (dC (.str "0")) (dOp dIx (dVar 7) (dUn dNeg (dC (.int 1))))) (daCons (dOp (dAdd false) (dC (.str "+")) (dOp dIx (dVar 7) (dUn dNeg (dC (.int 1))))) (daCons (dOp (dAdd false) (dC (.str "-")) (dOp dIx (dVar 7) (dUn dNeg (dC (.int 1))))) (daCons (dC (.str "00")) (daCons (dC (.str "0")) (daCons (dC (.str "1234567890")) (daCons (dOp dMulS (dC (.str "9")) (dC (.int 5000))) (daCons (dC (.str "123456789")) daNil))))))))))
    (dSeq (dAsg (dOp dIx (dVar 8) (dCall (sp_law_draw K) WD [] (daCons (dVar 0) (daCons (dC (.int 8)) daNil)))) (gSet (dVar 7) (dUn dNeg (dC (.int 1)))))
    (dAsg (dBM isS dJoin (dC (.str " ")) (daCons (dVar 7) daNil)) (gSet (dVar 2) (dVar 4)))))) dNext)
    (dFrz 2 (dRet (dWk (dBM isS dJoin (dC (.str "\n")) (daCons (dVar 2) daNil)))))))))))))

abbrev nm_law_number_of : List Str := ["_law_word", "_law_sign_here"]
theorem sc_law_number_of : FnScope nm_law_number_of ["_law_word"] (defScope s_law_number_of) := ⟨rfl, rfl, rfl, by decide +kernel, rfl, by decide +kernel, by decide +kernel⟩
def t_law_number_of (K : PySem.W.Frag) (WD : DWX) : DTS :=
    dSeq (dIfS (dOr (dNot (dTest (dChain dLe dLe (dC (.int 1)) (dCB dLen (daCons (dVar 0) daNil)) (dC (.int 9))))) (dAnd (dTest (dOp dEq (dOp dIx (dVar 0) (dC (.int 0))) (dC (.str "0")))) (dTest (dOp dGt (dCB dLen (daCons (dVar 0) daNil)) (dC (.int 1)))))) (dRet (dUn dNeg (dC (.int 1)))) dNext)
    (dSeq (dFor (diS (dVar 0)) (gN 1) (dIfS (dTest (dOp (dIn true) (dVar 1) (dC (.str "0123456789")))) (dRet (dUn dNeg (dC (.int 1)))) dNext))
    (dRet (dCB dIntS (daCons (dVar 0) daNil))))

abbrev nm_law_parts : List Str := ["_law_line", "_law_words", "_law_last", "_law_middle"]
theorem sc_law_parts : FnScope nm_law_parts ["_law_line"] (defScope s_law_parts) := ⟨rfl, rfl, rfl, by decide +kernel, rfl, by decide +kernel, by decide +kernel⟩
def t_law_parts (K : PySem.W.Frag) (WD : DWX) : DTS :=
    dSeq (dSet 1 (dBM isS (dSplit false) (dVar 0) (daCons (dC (.str " ")) daNil)))
    (dSeq (dIfS (dOr (dTest (dOp (dIn false) (dC (.str "")) (dVar 1))) (dTest (dOp (dIn true) (dOp dIx (dVar 1) (dC (.int 0))) (dLst false (daCons (dC (.str "task")) (daCons (dC (.str "kind")) (daCons (dC (.str "arrow")) daNil))))))) (dRet (dWk (dLst false daNil))) dNext)
    (dSeq (dIfS (dTest (dOp dNe (dCB dLen (daCons (dVar 1) daNil)) (dOp dIx (dLst false (daCons (dC (.int 4)) (daCons (dC (.int 2)) daNil))) (dCB dInt1 (daCons (dOp dEq (dOp dIx (dVar 1) (dC (.int 0))) (dC (.str "task"))) daNil))))) (dRet (dWk (dLst false daNil))) dNext)
    (dSeq (dIfS (dTest (dOp dEq (dOp dIx (dVar 1) (dC (.int 0))) (dC (.str "task")))) (dRet (dWk (dVar 1))) dNext)
    (dSeq (dSet 2 (dCall (sp_law_number_of K) WD [] (daCons (dOp dIx (dVar 1) (dC (.int 3))) daNil)))
    (dSeq (dIfS (dAnd (dTest (dOp dEq (dOp dIx (dVar 1) (dC (.int 0))) (dC (.str "arrow")))) (dTest (dOp dGe (dVar 2) (dC (.int 0))))) (dRet (dWk (dLst false (daCons (dOp dIx (dVar 1) (dC (.int 0))) (daCons (dOp dIx (dVar 1) (dC (.int 1))) (daCons (dOp dIx (dVar 1) (dC (.int 2))) (daCons (dVar 2) daNil))))))) dNext)
    (dSeq (dSet 3 (dCall (sp_law_number_of K) WD [] (daCons (dOp dIx (dVar 1) (dC (.int 2))) daNil)))
    (dSeq (dIfS (dAnd (dTest (dOp dEq (dOp dIx (dVar 1) (dC (.int 0))) (dC (.str "kind")))) (dAnd (dTest (dOp dGe (dVar 3) (dC (.int 0)))) (dTest (dOp dGe (dVar 2) (dC (.int 0)))))) (dRet (dWk (dLst false (daCons (dOp dIx (dVar 1) (dC (.int 0))) (daCons (dOp dIx (dVar 1) (dC (.int 1))) (daCons (dVar 3) (daCons (dVar 2) daNil))))))) dNext)
    (dRet (dWk (dLst false daNil))))))))))

abbrev nm_law_is_name : List Str := ["_law_word", "_law_signs", "_law_sign_here"]
theorem sc_law_is_name : FnScope nm_law_is_name ["_law_word"] (defScope s_law_is_name) := ⟨rfl, rfl, rfl, by decide +kernel, rfl, by decide +kernel, by decide +kernel⟩
def t_law_is_name (K : PySem.W.Frag) (WD : DWX) : DTS :=
    dSeq (dSet 1 (dC (.str "abcdefghijklmnopqrstuvwxyz0123456789_")))
    (dSeq (dIfS (dOr (dNot (dTest (dChain dLe dLe (dC (.int 1)) (dCB dLen (daCons (dVar 0) daNil)) (dC (.int 12))))) (dTest (dOp dGe (dBM isS dFind (dVar 1) (daCons (dOp dIx (dVar 0) (dC (.int 0))) daNil)) (dC (.int 26))))) (dRet (dC (.bl false))) dNext)
    (dRet (dCB dAll (daCons (dLc false (diS (dVar 0)) (.one 2) [2] dYes (dOp (dIn false) (dVar 2) (dVar 1))) daNil))))

abbrev nm_law_kind_fault : List Str := ["_law_rows", "_law_limits", "_law_seen", "_law_word", "_law_cost", "_law_deadline"]
theorem sc_law_kind_fault : FnScope nm_law_kind_fault ["_law_rows", "_law_limits"] (defScope s_law_kind_fault) := ⟨rfl, rfl, rfl, by decide +kernel, rfl, by decide +kernel, by decide +kernel⟩
def t_law_kind_fault (K : PySem.W.Frag) (WD : DWX) : DTS :=
    dSeq (dSet 2 (dLst true daNil))
    (dSeq (dFor (diL (dVar 0)) (gT 3 (gsCons (gN 3) (gsCons (gN 4) (gsCons (gN 5) gsNil)))) (dSeq (dIfS (dNot (dTru (dCall (sp_law_is_name K) WD [] (daCons (dVar 3) daNil)))) (dRet (dWk (dTup (daCons (dC (.str "BadName")) (daCons (dVar 3) daNil))))) dNext)
    (dSeq (dIfS (dTest (dOp (dIn false) (dVar 3) (dVar 2))) (dRet (dWk (dTup (daCons (dC (.str "Repeated")) (daCons (dVar 3) daNil))))) dNext)
    (dSeq (dIfS (dNot (dTest (dChain dLe dLe (dC (.int 1)) (dVar 4) (dOp dIx (dVar 1) (dC (.int 0)))))) (dRet (dWk (dTup (daCons (dC (.str "OutOfRange")) (daCons (dC (.str "cost")) (daCons (dVar 4) daNil)))))) dNext)
    (dSeq (dIfS (dNot (dTest (dChain dLe dLe (dC (.int 1)) (dVar 5) (dOp dIx (dVar 1) (dC (.int 1)))))) (dRet (dWk (dTup (daCons (dC (.str "OutOfRange")) (daCons (dC (.str "deadline")) (daCons (dVar 5) daNil)))))) dNext)
    (dDrop (dBM isL dAppend (dVar 2) (daCons (dVar 3) daNil))))))))
    (dRet (dWk (dTup (daCons (dC (.str "fine")) daNil)))))

abbrev nm_law_arrow_fault : List Str := ["_law_ties", "_law_taken", "_law_seen", "_law_first", "_law_second", "_law_gap"]
theorem sc_law_arrow_fault : FnScope nm_law_arrow_fault ["_law_ties", "_law_taken"] (defScope s_law_arrow_fault) := ⟨rfl, rfl, rfl, by decide +kernel, rfl, by decide +kernel, by decide +kernel⟩
def t_law_arrow_fault (K : PySem.W.Frag) (WD : DWX) : DTS :=
    dSeq (dSet 2 (dLst true daNil))
    (dSeq (dFor (diL (dVar 0)) (gT 3 (gsCons (gN 3) (gsCons (gN 4) (gsCons (gN 5) gsNil)))) (dSeq (dIfS (dTest (dOp (dIn true) (dVar 3) (dVar 1))) (dRet (dWk (dTup (daCons (dC (.str "UnknownKind")) (daCons (dVar 3) daNil))))) dNext)
    (dSeq (dIfS (dTest (dOp (dIn true) (dVar 4) (dVar 1))) (dRet (dWk (dTup (daCons (dC (.str "UnknownKind")) (daCons (dVar 4) daNil))))) dNext)
    (dSeq (dIfS (dNot (dTest (dChain dLe dLe (dC (.int 1)) (dVar 5) (dC (.int 12))))) (dRet (dWk (dTup (daCons (dC (.str "OutOfRange")) (daCons (dC (.str "gap")) (daCons (dVar 5) daNil)))))) dNext)
    (dSeq (dIfS (dTest (dOp (dInD false) (dTup (daCons (dVar 3) (daCons (dVar 4) daNil))) (dVar 2))) (dRet (dWk (dTup (daCons (dC (.str "RepeatedArrow")) (daCons (dVar 3) (daCons (dVar 4) daNil)))))) dNext)
    (dDrop (dBM isL dAppend (dVar 2) (daCons (dTup (daCons (dVar 3) (daCons (dVar 4) daNil))) daNil))))))))
    (dRet (dWk (dTup (daCons (dC (.str "fine")) daNil)))))

abbrev nm_law_task_fault : List Str := ["_law_spec_here", "_law_due_here", "_law_row"]
theorem sc_law_task_fault : FnScope nm_law_task_fault ["_law_spec_here"] (defScope s_law_task_fault) := ⟨rfl, rfl, rfl, by decide +kernel, rfl, by decide +kernel, by decide +kernel⟩
def t_law_task_fault (K : PySem.W.Frag) (WD : DWX) : DTS :=
    dSeq (dIfS (dNot (dTru (dCall (sp_law_is_name K) WD [] (daCons (dOp dIx (dVar 0) (dC (.int 0))) daNil)))) (dRet (dTup (daCons (dC (.str "BadName")) (daCons (dOp dIx (dVar 0) (dC (.int 0))) daNil)))) dNext)
    (dSeq (dIfS (dNot (dTest (dChain dLe dLe (dC (.int 1)) (dCB dLen (daCons (dOp dIx (dVar 0) (dC (.int 1))) daNil)) (dC (.int 4))))) (dRet (dTup (daCons (dC (.str "WrongCount")) (daCons (dC (.str "kinds")) (daCons (dCB dLen (daCons (dOp dIx (dVar 0) (dC (.int 1))) daNil)) daNil))))) dNext)
    (dSeq (dIfS (dTest (dOp dGt (dCB dLen (daCons (dOp dIx (dVar 0) (dC (.int 2))) daNil)) (dC (.int 12)))) (dRet (dTup (daCons (dC (.str "WrongCount")) (daCons (dC (.str "arrows")) (daCons (dCB dLen (daCons (dOp dIx (dVar 0) (dC (.int 2))) daNil)) daNil))))) dNext)
    (dSeq (dSet 1 (dCall (sp_law_kind_fault K) WD [] (daCons (dOp dIx (dVar 0) (dC (.int 1))) (daCons (dOp dIx (dLst false (daCons (dLst false (daCons (dC (.int 99)) (daCons (dC (.int 99)) daNil))) (daCons (dLst false (daCons (dC (.int 9)) (daCons (dC (.int 24)) daNil))) daNil))) (dCB dInt1 (daCons (dOp dNe (dOp dIx (dVar 0) (dC (.int 2))) (dLst false daNil)) daNil))) daNil))))
    (dSeq (dIfS (dTest (dOp dNe (dVar 1) (dTup (daCons (dC (.str "fine")) daNil)))) (dRet (dVar 1)) dNext)
    (dRet (dCall (sp_law_arrow_fault K) WD [] (daCons (dOp dIx (dVar 0) (dC (.int 2))) (daCons (dLc false (diL (dOp dIx (dVar 0) (dC (.int 1)))) (.one 2) [2] dYes (dOp dIx (dVar 2) (dC (.int 0)))) daNil))))))))

abbrev nm_law_due : List Str := ["_law_text_here", "_law_lines", "_law_specs", "_law_k", "_law_parts_here", "_law_rows", "_law_ties", "_law_spec_here", "_law_due_here"]
theorem sc_law_due : FnScope nm_law_due ["_law_text_here"] (defScope s_law_due) := ⟨rfl, rfl, rfl, by decide +kernel, rfl, by decide +kernel, by decide +kernel⟩
def t_law_due (K : PySem.W.Frag) (WD : DWX) : DTS :=
    dSeq (dSet 1 (dBM isS (dSplit false) (dVar 0) (daCons (dC (.str "\n")) daNil)))
    (dSeq (dSet 2 (dLst true daNil))
    (dSeq (dFor (diR1 (daCons (dOp dSub (dCB dLen (daCons (dVar 1) daNil)) (dC (.int 1))) daNil)) (gN 3) (dSeq (dSet 4 (dCall (sp_law_parts K) WD [] (daCons (dOp dIx (dVar 1) (dVar 3)) daNil)))
    (dSeq (dIfS (dOr (dTest (dOp dEq (dVar 4) (dLst false daNil))) (dAnd (dTest (dOp dNe (dOp dIx (dVar 4) (dC (.int 0))) (dC (.str "task")))) (dTest (dOp dEqZ (dVar 2) (dLst false daNil))))) (dRet (dWk (dTup (daCons (dC (.str "BadLine")) (daCons (dOp (dAdd false) (dVar 3) (dC (.int 1))) daNil))))) dNext)
    (dSeq (dIfS (dTest (dOp dEq (dOp dIx (dVar 4) (dC (.int 0))) (dC (.str "task")))) (dDrop (dBM isL dAppend (dVar 2) (daCons (dTup (daCons (dOp dIx (dVar 4) (dC (.int 1))) (daCons (dLst true daNil) (daCons (dLst true daNil) daNil)))) daNil))) dNext)
    (dSeq (dIfS (dTest (dOp dEq (dOp dIx (dVar 4) (dC (.int 0))) (dC (.str "kind")))) (dSeq (dSet 5 (dOp dIx (dOp dIx (dVar 2) (dUn dNeg (dC (.int 1)))) (dC (.int 1))))
    (dDrop (dBM isL dAppend (dVar 5) (daCons (dTup (daCons (dOp dIx (dVar 4) (dC (.int 1))) (daCons (dOp dIx (dVar 4) (dC (.int 2))) (daCons (dOp dIx (dVar 4) (dC (.int 3))) daNil)))) daNil)))) dNext)
    (dIfS (dTest (dOp dEq (dOp dIx (dVar 4) (dC (.int 0))) (dC (.str "arrow")))) (dSeq (dSet 6 (dOp dIx (dOp dIx (dVar 2) (dUn dNeg (dC (.int 1)))) (dC (.int 2))))
    (dDrop (dBM isL dAppend (dVar 6) (daCons (dTup (daCons (dOp dIx (dVar 4) (dC (.int 1))) (daCons (dOp dIx (dVar 4) (dC (.int 2))) (daCons (dOp dIx (dVar 4) (dC (.int 3))) daNil)))) daNil)))) dNext))))))
    (dFrz 2 (dSeq (dIfS (dTest (dOp dNe (dOp dIx (dVar 1) (dUn dNeg (dC (.int 1)))) (dC (.str "")))) (dRet (dWk (dTup (daCons (dC (.str "BadLine")) (daCons (dCB dLen (daCons (dVar 1) daNil)) daNil))))) dNext)
    (dFrzG 2 (dSeq (dFor (diL (dVar 2)) (gN 7) (dSeq (dSet 8 (dCall (sp_law_task_fault K) WD [] (daCons (dVar 7) daNil)))
    (dIfS (dTest (dOp dNe (dVar 8) (dTup (daCons (dC (.str "fine")) daNil)))) (dRet (dWk (dVar 8))) dNext)))
    (dRet (dWk (dTup (daCons (dC (.str "tasks")) (daCons (dVar 2) daNil)))))))))))

abbrev nm_law_fault : List Str := ["_law_e"]
theorem sc_law_fault : FnScope nm_law_fault ["_law_e"] (defScope s_law_fault) := ⟨rfl, rfl, rfl, by decide +kernel, rfl, by decide +kernel, by decide +kernel⟩
def t_law_fault (K : PySem.W.Frag) (ea ec : Addr) (ed : Option Addr) : DTS :=
    dSeq (dIfS (dNot (dTru (dCB (dIsX K ea ec ed) (daCons (dVar 0) (daCons (dC (.ty "ValueError")) daNil))))) (dRet (dTup (daCons (dC (.str "strange")) daNil))) dNext)
    (dSeq (dIfS (dTru (dCB (dIsX K ea ec ed) (daCons (dVar 0) (daCons (dC (.ref (ga K "BadLine"))) daNil)))) (dRet (dTup (daCons (dC (.str "BadLine")) (daCons (dXf ea ec ed (ga K "BadLine") "line" (dVar 0)) daNil)))) dNext)
    (dSeq (dIfS (dTru (dCB (dIsX K ea ec ed) (daCons (dVar 0) (daCons (dC (.ref (ga K "BadName"))) daNil)))) (dRet (dTup (daCons (dC (.str "BadName")) (daCons (dXf ea ec ed (ga K "BadName") "name" (dVar 0)) daNil)))) dNext)
    (dSeq (dIfS (dTru (dCB (dIsX K ea ec ed) (daCons (dVar 0) (daCons (dC (.ref (ga K "WrongCount"))) daNil)))) (dRet (dTup (daCons (dC (.str "WrongCount")) (daCons (dXf ea ec ed (ga K "WrongCount") "what" (dVar 0)) (daCons (dXf ea ec ed (ga K "WrongCount") "count" (dVar 0)) daNil))))) dNext)
    (dSeq (dIfS (dTru (dCB (dIsX K ea ec ed) (daCons (dVar 0) (daCons (dC (.ref (ga K "OutOfRange"))) daNil)))) (dRet (dTup (daCons (dC (.str "OutOfRange")) (daCons (dXf ea ec ed (ga K "OutOfRange") "what" (dVar 0)) (daCons (dXf ea ec ed (ga K "OutOfRange") "value" (dVar 0)) daNil))))) dNext)
    (dSeq (dIfS (dTru (dCB (dIsX K ea ec ed) (daCons (dVar 0) (daCons (dC (.ref (ga K "Repeated"))) daNil)))) (dRet (dTup (daCons (dC (.str "Repeated")) (daCons (dXf ea ec ed (ga K "Repeated") "name" (dVar 0)) daNil)))) dNext)
    (dSeq (dIfS (dTru (dCB (dIsX K ea ec ed) (daCons (dVar 0) (daCons (dC (.ref (ga K "RepeatedArrow"))) daNil)))) (dRet (dTup (daCons (dC (.str "RepeatedArrow")) (daCons (dXf ea ec ed (ga K "RepeatedArrow") "first" (dVar 0)) (daCons (dXf ea ec ed (ga K "RepeatedArrow") "second" (dVar 0)) daNil))))) dNext)
    (dSeq (dIfS (dTru (dCB (dIsX K ea ec ed) (daCons (dVar 0) (daCons (dC (.ref (ga K "UnknownKind"))) daNil)))) (dRet (dTup (daCons (dC (.str "UnknownKind")) (daCons (dXf ea ec ed (ga K "UnknownKind") "name" (dVar 0)) daNil)))) dNext)
    (dRet (dTup (daCons (dC (.str "strange")) daNil))))))))))

abbrev nm_law_told : List Str := ["_law_text_here", "_law_tasks", "_law_e", "_law_task"]
theorem sc_law_told : FnScope nm_law_told ["_law_text_here"] (defScope s_law_told) := ⟨rfl, rfl, rfl, by decide +kernel, rfl, by decide +kernel, by decide +kernel⟩
def t_law_told (K : PySem.W.Frag) (WD : DWX) : DTS :=
    dSeq (dTryAs K (ga K "DuesError") 2 (fun WDx1 => dSet 1 (dCall (sp_read_tasks K) WDx1 [] (daCons (dVar 0) daNil))) (fun ea ec ed => dRet (dWk (dCall (sp_law_fault K ea ec ed) WD0 [] (daCons (dVar 2) daNil)))) WD)
    (dRet (dWk (dTup (daCons (dC (.str "tasks")) (daCons (dLc false (diL (dVar 1)) (.one 3) [3] dYes (dTup (daCons (dFld K (dVar 3) "name") (daCons (dProp (ga K "Task") (sp_Task_kinds K) (dVar 3)) (daCons (dProp (ga K "Task") (sp_Task_arrows K) (dVar 3)) daNil))))) daNil)))))

abbrev nm_law : List Str := ["_law_script", "_law_pool_here", "_law_many", "_law_text_here", "_law_k", "_law_due_here", "_law_told_here"]
theorem sc_law : FnScope nm_law ["_law_script"] (defScope s_law) := ⟨rfl, rfl, rfl, by decide +kernel, rfl, by decide +kernel, by decide +kernel⟩
def t_law (K : PySem.W.Frag) (WD : DWX) : DTS :=
    dSeq (dSet 1 (dCall (sp_law_pool K) WD [] (daCons (dVar 0) daNil)))
    (dSeq (dSet 2 (dCall (sp_law_draw K) WD [] (daCons (dVar 1) (daCons (dC (.int 4)) daNil))))
    (dSeq (dSet 3 (dCall (sp_law_text K) WD [] (daCons (dLc false (diR1 (daCons (dCall (sp_law_draw K) WD [] (daCons (dVar 1) (daCons (dC (.int 5)) daNil))) daNil)) (.one 4) [4] dYes (dCall (sp_law_spec K) WD0 [] (daCons (dVar 1) daNil))) daNil)))
    (dSeq (dIfS (dTest (dOp dNe (dCall (sp_law_told K) WD [] (daCons (dVar 3) daNil)) (dCall (sp_law_due K) WD [] (daCons (dVar 3) daNil)))) (dRet (dC (.bl false))) dNext)
    (dSeq (dFor (diR1 (daCons (dVar 2) daNil)) (gN 4) (dIfS (dTest (dOp dEq (dCall (sp_law_draw K) WD [] (daCons (dVar 1) (daCons (dC (.int 2)) daNil))) (dC (.int 0)))) (dSet 3 (dCall (sp_law_spoil_sign K) WD [] (daCons (dVar 1) (daCons (dVar 3) daNil)))) (dSet 3 (dCall (sp_law_spoil_line K) WD [] (daCons (dVar 1) (daCons (dVar 3) daNil))))))
    (dSeq (dSet 5 (dCall (sp_law_due K) WD [] (daCons (dVar 3) daNil)))
    (dSeq (dSet 6 (dCall (sp_law_told K) WD [] (daCons (dVar 3) daNil)))
    (dSeq (dIfS (dOr (dTest (dOp dNe (dVar 6) (dVar 5))) (dAnd (dTest (dOp dEq (dOp dIx (dVar 5) (dC (.int 0))) (dC (.str "BadLine")))) (dTru (dCB (dIsi K) (daCons (dOp dIx (dVar 6) (dC (.int 1))) (daCons (dC (.ty "bool")) daNil)))))) (dRet (dC (.bl false))) dNext)
    (dRet (dOp dEq (dCall (sp_law_told K) WD [] (daCons (dVar 3) daNil)) (dVar 5))))))))))

structure Txt (K : Fr0) (mg : Str → Option Value) : Prop where
  says : Says fa fn K
  ex : ∃ h : Heap, K.In h ∧ h.Ns mainGlobals mg
section
variable {K : Fr0} {mg : Str → Option Value}
theorem Txt.g_is_name (T : Txt K mg) : mg "is_name" = some (.ref (ga K "is_name")) := by
  obtain ⟨h, kin, g⟩ := T.ex
  exact He.glo_ok kin g (T.says.fact 0 rfl)
theorem Txt.g_need_name (T : Txt K mg) : mg "need_name" = some (.ref (ga K "need_name")) := by
  obtain ⟨h, kin, g⟩ := T.ex
  exact He.glo_ok kin g (T.says.fact 1 rfl)
theorem Txt.g_need_range (T : Txt K mg) : mg "need_range" = some (.ref (ga K "need_range")) := by
  obtain ⟨h, kin, g⟩ := T.ex
  exact He.glo_ok kin g (T.says.fact 2 rfl)
theorem Txt.g_need_kind (T : Txt K mg) : mg "need_kind" = some (.ref (ga K "need_kind")) := by
  obtain ⟨h, kin, g⟩ := T.ex
  exact He.glo_ok kin g (T.says.fact 3 rfl)
theorem Txt.g_checked_kinds (T : Txt K mg) : mg "checked_kinds" = some (.ref (ga K "checked_kinds")) := by
  obtain ⟨h, kin, g⟩ := T.ex
  exact He.glo_ok kin g (T.says.fact 4 rfl)
theorem Txt.g_checked_arrows (T : Txt K mg) : mg "checked_arrows" = some (.ref (ga K "checked_arrows")) := by
  obtain ⟨h, kin, g⟩ := T.ex
  exact He.glo_ok kin g (T.says.fact 5 rfl)
theorem Txt.g_number_of (T : Txt K mg) : mg "number_of" = some (.ref (ga K "number_of")) := by
  obtain ⟨h, kin, g⟩ := T.ex
  exact He.glo_ok kin g (T.says.fact 6 rfl)
theorem Txt.g_kind_parts (T : Txt K mg) : mg "kind_parts" = some (.ref (ga K "kind_parts")) := by
  obtain ⟨h, kin, g⟩ := T.ex
  exact He.glo_ok kin g (T.says.fact 7 rfl)
theorem Txt.g_arrow_parts (T : Txt K mg) : mg "arrow_parts" = some (.ref (ga K "arrow_parts")) := by
  obtain ⟨h, kin, g⟩ := T.ex
  exact He.glo_ok kin g (T.says.fact 8 rfl)
theorem Txt.g_line_parts (T : Txt K mg) : mg "line_parts" = some (.ref (ga K "line_parts")) := by
  obtain ⟨h, kin, g⟩ := T.ex
  exact He.glo_ok kin g (T.says.fact 9 rfl)
theorem Txt.g_read_lines (T : Txt K mg) : mg "read_lines" = some (.ref (ga K "read_lines")) := by
  obtain ⟨h, kin, g⟩ := T.ex
  exact He.glo_ok kin g (T.says.fact 10 rfl)
theorem Txt.g_read_tasks (T : Txt K mg) : mg "read_tasks" = some (.ref (ga K "read_tasks")) := by
  obtain ⟨h, kin, g⟩ := T.ex
  exact He.glo_ok kin g (T.says.fact 11 rfl)
theorem Txt.g_law_pool (T : Txt K mg) : mg "_law_pool" = some (.ref (ga K "_law_pool")) := by
  obtain ⟨h, kin, g⟩ := T.ex
  exact He.glo_ok kin g (T.says.fact 12 rfl)
theorem Txt.g_law_draw (T : Txt K mg) : mg "_law_draw" = some (.ref (ga K "_law_draw")) := by
  obtain ⟨h, kin, g⟩ := T.ex
  exact He.glo_ok kin g (T.says.fact 13 rfl)
theorem Txt.g_law_name (T : Txt K mg) : mg "_law_name" = some (.ref (ga K "_law_name")) := by
  obtain ⟨h, kin, g⟩ := T.ex
  exact He.glo_ok kin g (T.says.fact 14 rfl)
theorem Txt.g_law_fresh (T : Txt K mg) : mg "_law_fresh" = some (.ref (ga K "_law_fresh")) := by
  obtain ⟨h, kin, g⟩ := T.ex
  exact He.glo_ok kin g (T.says.fact 15 rfl)
theorem Txt.g_law_near (T : Txt K mg) : mg "_law_near" = some (.ref (ga K "_law_near")) := by
  obtain ⟨h, kin, g⟩ := T.ex
  exact He.glo_ok kin g (T.says.fact 16 rfl)
theorem Txt.g_law_number (T : Txt K mg) : mg "_law_number" = some (.ref (ga K "_law_number")) := by
  obtain ⟨h, kin, g⟩ := T.ex
  exact He.glo_ok kin g (T.says.fact 17 rfl)
theorem Txt.g_law_spec (T : Txt K mg) : mg "_law_spec" = some (.ref (ga K "_law_spec")) := by
  obtain ⟨h, kin, g⟩ := T.ex
  exact He.glo_ok kin g (T.says.fact 18 rfl)
theorem Txt.g_law_text (T : Txt K mg) : mg "_law_text" = some (.ref (ga K "_law_text")) := by
  obtain ⟨h, kin, g⟩ := T.ex
  exact He.glo_ok kin g (T.says.fact 19 rfl)
theorem Txt.g_law_sign (T : Txt K mg) : mg "_law_sign" = some (.ref (ga K "_law_sign")) := by
  obtain ⟨h, kin, g⟩ := T.ex
  exact He.glo_ok kin g (T.says.fact 20 rfl)
theorem Txt.g_law_spoil_sign (T : Txt K mg) : mg "_law_spoil_sign" = some (.ref (ga K "_law_spoil_sign")) := by
  obtain ⟨h, kin, g⟩ := T.ex
  exact He.glo_ok kin g (T.says.fact 21 rfl)
theorem Txt.g_law_spoil_line (T : Txt K mg) : mg "_law_spoil_line" = some (.ref (ga K "_law_spoil_line")) := by
  obtain ⟨h, kin, g⟩ := T.ex
  exact He.glo_ok kin g (T.says.fact 22 rfl)
theorem Txt.g_law_number_of (T : Txt K mg) : mg "_law_number_of" = some (.ref (ga K "_law_number_of")) := by
  obtain ⟨h, kin, g⟩ := T.ex
  exact He.glo_ok kin g (T.says.fact 23 rfl)
theorem Txt.g_law_parts (T : Txt K mg) : mg "_law_parts" = some (.ref (ga K "_law_parts")) := by
  obtain ⟨h, kin, g⟩ := T.ex
  exact He.glo_ok kin g (T.says.fact 24 rfl)
theorem Txt.g_law_is_name (T : Txt K mg) : mg "_law_is_name" = some (.ref (ga K "_law_is_name")) := by
  obtain ⟨h, kin, g⟩ := T.ex
  exact He.glo_ok kin g (T.says.fact 25 rfl)
theorem Txt.g_law_kind_fault (T : Txt K mg) : mg "_law_kind_fault" = some (.ref (ga K "_law_kind_fault")) := by
  obtain ⟨h, kin, g⟩ := T.ex
  exact He.glo_ok kin g (T.says.fact 26 rfl)
theorem Txt.g_law_arrow_fault (T : Txt K mg) : mg "_law_arrow_fault" = some (.ref (ga K "_law_arrow_fault")) := by
  obtain ⟨h, kin, g⟩ := T.ex
  exact He.glo_ok kin g (T.says.fact 27 rfl)
theorem Txt.g_law_task_fault (T : Txt K mg) : mg "_law_task_fault" = some (.ref (ga K "_law_task_fault")) := by
  obtain ⟨h, kin, g⟩ := T.ex
  exact He.glo_ok kin g (T.says.fact 28 rfl)
theorem Txt.g_law_due (T : Txt K mg) : mg "_law_due" = some (.ref (ga K "_law_due")) := by
  obtain ⟨h, kin, g⟩ := T.ex
  exact He.glo_ok kin g (T.says.fact 29 rfl)
theorem Txt.g_law_fault (T : Txt K mg) : mg "_law_fault" = some (.ref (ga K "_law_fault")) := by
  obtain ⟨h, kin, g⟩ := T.ex
  exact He.glo_ok kin g (T.says.fact 30 rfl)
theorem Txt.g_law_told (T : Txt K mg) : mg "_law_told" = some (.ref (ga K "_law_told")) := by
  obtain ⟨h, kin, g⟩ := T.ex
  exact He.glo_ok kin g (T.says.fact 31 rfl)
theorem Txt.g_law (T : Txt K mg) : mg "law" = some (.ref (ga K "law")) := by
  obtain ⟨h, kin, g⟩ := T.ex
  exact He.glo_ok kin g (T.says.fact 32 rfl)
theorem Txt.g_DuesError (T : Txt K mg) : mg "DuesError" = some (.ref (ga K "DuesError")) := by
  obtain ⟨h, kin, g⟩ := T.ex
  exact He.glo_ok kin g (T.says.fact 33 rfl)
theorem Txt.g_BadName (T : Txt K mg) : mg "BadName" = some (.ref (ga K "BadName")) := by
  obtain ⟨h, kin, g⟩ := T.ex
  exact He.glo_ok kin g (T.says.fact 34 rfl)
theorem Txt.g_WrongCount (T : Txt K mg) : mg "WrongCount" = some (.ref (ga K "WrongCount")) := by
  obtain ⟨h, kin, g⟩ := T.ex
  exact He.glo_ok kin g (T.says.fact 35 rfl)
theorem Txt.g_OutOfRange (T : Txt K mg) : mg "OutOfRange" = some (.ref (ga K "OutOfRange")) := by
  obtain ⟨h, kin, g⟩ := T.ex
  exact He.glo_ok kin g (T.says.fact 36 rfl)
theorem Txt.g_Repeated (T : Txt K mg) : mg "Repeated" = some (.ref (ga K "Repeated")) := by
  obtain ⟨h, kin, g⟩ := T.ex
  exact He.glo_ok kin g (T.says.fact 37 rfl)
theorem Txt.g_RepeatedArrow (T : Txt K mg) : mg "RepeatedArrow" = some (.ref (ga K "RepeatedArrow")) := by
  obtain ⟨h, kin, g⟩ := T.ex
  exact He.glo_ok kin g (T.says.fact 38 rfl)
theorem Txt.g_UnknownKind (T : Txt K mg) : mg "UnknownKind" = some (.ref (ga K "UnknownKind")) := by
  obtain ⟨h, kin, g⟩ := T.ex
  exact He.glo_ok kin g (T.says.fact 39 rfl)
theorem Txt.g_BadLine (T : Txt K mg) : mg "BadLine" = some (.ref (ga K "BadLine")) := by
  obtain ⟨h, kin, g⟩ := T.ex
  exact He.glo_ok kin g (T.says.fact 40 rfl)
theorem Txt.g_Task (T : Txt K mg) : mg "Task" = some (.ref (ga K "Task")) := by
  obtain ⟨h, kin, g⟩ := T.ex
  exact He.glo_ok kin g (T.says.fact 41 rfl)
theorem Txt.b_ValueError (T : Txt K mg) : mg "ValueError" = none := by
  obtain ⟨h, kin, g⟩ := T.ex
  exact He.free_ok kin g (T.says.fact 42 rfl)
theorem Txt.b_all (T : Txt K mg) : mg "all" = none := by
  obtain ⟨h, kin, g⟩ := T.ex
  exact He.free_ok kin g (T.says.fact 43 rfl)
theorem Txt.b_bool (T : Txt K mg) : mg "bool" = none := by
  obtain ⟨h, kin, g⟩ := T.ex
  exact He.free_ok kin g (T.says.fact 44 rfl)
theorem Txt.b_int (T : Txt K mg) : mg "int" = none := by
  obtain ⟨h, kin, g⟩ := T.ex
  exact He.free_ok kin g (T.says.fact 45 rfl)
theorem Txt.b_isinstance (T : Txt K mg) : mg "isinstance" = none := by
  obtain ⟨h, kin, g⟩ := T.ex
  exact He.free_ok kin g (T.says.fact 46 rfl)
theorem Txt.b_len (T : Txt K mg) : mg "len" = none := by
  obtain ⟨h, kin, g⟩ := T.ex
  exact He.free_ok kin g (T.says.fact 47 rfl)
theorem Txt.b_list (T : Txt K mg) : mg "list" = none := by
  obtain ⟨h, kin, g⟩ := T.ex
  exact He.free_ok kin g (T.says.fact 48 rfl)
theorem Txt.b_min (T : Txt K mg) : mg "min" = none := by
  obtain ⟨h, kin, g⟩ := T.ex
  exact He.free_ok kin g (T.says.fact 49 rfl)
theorem Txt.b_range (T : Txt K mg) : mg "range" = none := by
  obtain ⟨h, kin, g⟩ := T.ex
  exact He.free_ok kin g (T.says.fact 50 rfl)
theorem Txt.b_str (T : Txt K mg) : mg "str" = none := by
  obtain ⟨h, kin, g⟩ := T.ex
  exact He.free_ok kin g (T.says.fact 51 rfl)
theorem Txt.k_LETTERS (T : Txt K mg) : ∃ t, mg "LETTERS" = some (.str "abcdefghijklmnopqrstuvwxyz" t) := by
  obtain ⟨h, kin, g⟩ := T.ex
  exact He.str_ok kin g (T.says.fact 52 rfl)
theorem Txt.k_OTHER_SIGNS (T : Txt K mg) : ∃ t, mg "OTHER_SIGNS" = some (.str "0123456789_" t) := by
  obtain ⟨h, kin, g⟩ := T.ex
  exact He.str_ok kin g (T.says.fact 53 rfl)
theorem Txt.k_LONGEST_NAME (T : Txt K mg) : ∃ t, mg "LONGEST_NAME" = some (.int 12 t) := by
  obtain ⟨h, kin, g⟩ := T.ex
  exact He.int_ok kin g (T.says.fact 54 rfl)
theorem Txt.k_MOST_KINDS (T : Txt K mg) : ∃ t, mg "MOST_KINDS" = some (.int 4 t) := by
  obtain ⟨h, kin, g⟩ := T.ex
  exact He.int_ok kin g (T.says.fact 55 rfl)
theorem Txt.k_MOST_ARROWS (T : Txt K mg) : ∃ t, mg "MOST_ARROWS" = some (.int 12 t) := by
  obtain ⟨h, kin, g⟩ := T.ex
  exact He.int_ok kin g (T.says.fact 56 rfl)
theorem Txt.k_MOST_GAP (T : Txt K mg) : ∃ t, mg "MOST_GAP" = some (.int 12 t) := by
  obtain ⟨h, kin, g⟩ := T.ex
  exact He.int_ok kin g (T.says.fact 57 rfl)
theorem Txt.k_DIGITS (T : Txt K mg) : ∃ t, mg "DIGITS" = some (.str "0123456789" t) := by
  obtain ⟨h, kin, g⟩ := T.ex
  exact He.str_ok kin g (T.says.fact 58 rfl)
theorem Txt.k_LONGEST_NUMBER (T : Txt K mg) : ∃ t, mg "LONGEST_NUMBER" = some (.int 9 t) := by
  obtain ⟨h, kin, g⟩ := T.ex
  exact He.int_ok kin g (T.says.fact 59 rfl)
theorem Txt.cl_Task (T : Txt K mg) : Cls K (ga K "Task") := He.cls_ok (T.says.fact 60 rfl)
theorem Txt.mk_Task (T : Txt K mg) : Mk K (ga K "Task") (ma K (ga K "Task") "__init__") := He.mkr_ok (T.says.fact 61 rfl)
theorem Txt.p_Task_kinds (T : Txt K mg) : PropOf K (ga K "Task") "kinds" (pad K "Task" "kinds") (wad K "property" "Task" "kinds") := prop_of (T.says.fact 62 rfl)
theorem Txt.p_Task_arrows (T : Txt K mg) : PropOf K (ga K "Task") "arrows" (pad K "Task" "arrows") (wad K "property" "Task" "arrows") := prop_of (T.says.fact 63 rfl)
theorem Txt.n_Task_name (T : Txt K mg) : NoAttr K (ga K "Task") "name" := He.noat_ok (T.says.fact 64 rfl)
theorem Txt.n_Task_kind_rows (T : Txt K mg) : NoAttr K (ga K "Task") "kind_rows" := He.noat_ok (T.says.fact 65 rfl)
theorem Txt.n_Task_arrow_rows (T : Txt K mg) : NoAttr K (ga K "Task") "arrow_rows" := He.noat_ok (T.says.fact 66 rfl)
theorem Txt.ox_BadLine (T : Txt K mg) : OexC K (ga K "BadLine") := (oex_of (T.says.fact 67 rfl)).1
theorem Txt.oxi_BadLine (T : Txt K mg) : PySem.W.findIn K (.ref (ga K "BadLine")) "__init__" = some (some (.ref (ma K (ga K "BadLine") "__init__"))) := (oex_of (T.says.fact 67 rfl)).2.1
theorem Txt.oxf_BadLine (T : Txt K mg) : PySem.W.typeIn K (.ref (ma K (ga K "BadLine") "__init__")) = some (.type "function") := (oex_of (T.says.fact 67 rfl)).2.2
theorem Txt.xm_BadLine_DuesError (T : Txt K mg) : PySem.W.exmOne K (.ref (ga K "BadLine")) (.ref (ga K "DuesError")) = some true := of_decide_eq_true (T.says.fact 68 rfl)
theorem Txt.ox_BadName (T : Txt K mg) : OexC K (ga K "BadName") := (oex_of (T.says.fact 69 rfl)).1
theorem Txt.oxi_BadName (T : Txt K mg) : PySem.W.findIn K (.ref (ga K "BadName")) "__init__" = some (some (.ref (ma K (ga K "BadName") "__init__"))) := (oex_of (T.says.fact 69 rfl)).2.1
theorem Txt.oxf_BadName (T : Txt K mg) : PySem.W.typeIn K (.ref (ma K (ga K "BadName") "__init__")) = some (.type "function") := (oex_of (T.says.fact 69 rfl)).2.2
theorem Txt.xm_BadName_DuesError (T : Txt K mg) : PySem.W.exmOne K (.ref (ga K "BadName")) (.ref (ga K "DuesError")) = some true := of_decide_eq_true (T.says.fact 70 rfl)
theorem Txt.ox_OutOfRange (T : Txt K mg) : OexC K (ga K "OutOfRange") := (oex_of (T.says.fact 71 rfl)).1
theorem Txt.oxi_OutOfRange (T : Txt K mg) : PySem.W.findIn K (.ref (ga K "OutOfRange")) "__init__" = some (some (.ref (ma K (ga K "OutOfRange") "__init__"))) := (oex_of (T.says.fact 71 rfl)).2.1
theorem Txt.oxf_OutOfRange (T : Txt K mg) : PySem.W.typeIn K (.ref (ma K (ga K "OutOfRange") "__init__")) = some (.type "function") := (oex_of (T.says.fact 71 rfl)).2.2
theorem Txt.xm_OutOfRange_DuesError (T : Txt K mg) : PySem.W.exmOne K (.ref (ga K "OutOfRange")) (.ref (ga K "DuesError")) = some true := of_decide_eq_true (T.says.fact 72 rfl)
theorem Txt.ox_Repeated (T : Txt K mg) : OexC K (ga K "Repeated") := (oex_of (T.says.fact 73 rfl)).1
theorem Txt.oxi_Repeated (T : Txt K mg) : PySem.W.findIn K (.ref (ga K "Repeated")) "__init__" = some (some (.ref (ma K (ga K "Repeated") "__init__"))) := (oex_of (T.says.fact 73 rfl)).2.1
theorem Txt.oxf_Repeated (T : Txt K mg) : PySem.W.typeIn K (.ref (ma K (ga K "Repeated") "__init__")) = some (.type "function") := (oex_of (T.says.fact 73 rfl)).2.2
theorem Txt.xm_Repeated_DuesError (T : Txt K mg) : PySem.W.exmOne K (.ref (ga K "Repeated")) (.ref (ga K "DuesError")) = some true := of_decide_eq_true (T.says.fact 74 rfl)
theorem Txt.ox_RepeatedArrow (T : Txt K mg) : OexC K (ga K "RepeatedArrow") := (oex_of (T.says.fact 75 rfl)).1
theorem Txt.oxi_RepeatedArrow (T : Txt K mg) : PySem.W.findIn K (.ref (ga K "RepeatedArrow")) "__init__" = some (some (.ref (ma K (ga K "RepeatedArrow") "__init__"))) := (oex_of (T.says.fact 75 rfl)).2.1
theorem Txt.oxf_RepeatedArrow (T : Txt K mg) : PySem.W.typeIn K (.ref (ma K (ga K "RepeatedArrow") "__init__")) = some (.type "function") := (oex_of (T.says.fact 75 rfl)).2.2
theorem Txt.xm_RepeatedArrow_DuesError (T : Txt K mg) : PySem.W.exmOne K (.ref (ga K "RepeatedArrow")) (.ref (ga K "DuesError")) = some true := of_decide_eq_true (T.says.fact 76 rfl)
theorem Txt.ox_UnknownKind (T : Txt K mg) : OexC K (ga K "UnknownKind") := (oex_of (T.says.fact 77 rfl)).1
theorem Txt.oxi_UnknownKind (T : Txt K mg) : PySem.W.findIn K (.ref (ga K "UnknownKind")) "__init__" = some (some (.ref (ma K (ga K "UnknownKind") "__init__"))) := (oex_of (T.says.fact 77 rfl)).2.1
theorem Txt.oxf_UnknownKind (T : Txt K mg) : PySem.W.typeIn K (.ref (ma K (ga K "UnknownKind") "__init__")) = some (.type "function") := (oex_of (T.says.fact 77 rfl)).2.2
theorem Txt.xm_UnknownKind_DuesError (T : Txt K mg) : PySem.W.exmOne K (.ref (ga K "UnknownKind")) (.ref (ga K "DuesError")) = some true := of_decide_eq_true (T.says.fact 78 rfl)
theorem Txt.ox_WrongCount (T : Txt K mg) : OexC K (ga K "WrongCount") := (oex_of (T.says.fact 79 rfl)).1
theorem Txt.oxi_WrongCount (T : Txt K mg) : PySem.W.findIn K (.ref (ga K "WrongCount")) "__init__" = some (some (.ref (ma K (ga K "WrongCount") "__init__"))) := (oex_of (T.says.fact 79 rfl)).2.1
theorem Txt.oxf_WrongCount (T : Txt K mg) : PySem.W.typeIn K (.ref (ma K (ga K "WrongCount") "__init__")) = some (.type "function") := (oex_of (T.says.fact 79 rfl)).2.2
theorem Txt.xm_WrongCount_DuesError (T : Txt K mg) : PySem.W.exmOne K (.ref (ga K "WrongCount")) (.ref (ga K "DuesError")) = some true := of_decide_eq_true (T.says.fact 80 rfl)
theorem Txt.xi_BadName (T : Txt K mg) : ExcC K (ga K "BadName") := xis_of (T.says.fact 82 rfl)
theorem Txt.xk_BadName_BadLine (T : Txt K mg) : PySem.W.kitOne K (.ref (ga K "BadName")) (.ref (ga K "BadLine")) = some false := of_decide_eq_true (T.says.fact 83 rfl)
theorem Txt.xk_BadName_BadName (T : Txt K mg) : PySem.W.kitOne K (.ref (ga K "BadName")) (.ref (ga K "BadName")) = some true := of_decide_eq_true (T.says.fact 84 rfl)
theorem Txt.xi_WrongCount (T : Txt K mg) : ExcC K (ga K "WrongCount") := xis_of (T.says.fact 90 rfl)
theorem Txt.xk_WrongCount_BadLine (T : Txt K mg) : PySem.W.kitOne K (.ref (ga K "WrongCount")) (.ref (ga K "BadLine")) = some false := of_decide_eq_true (T.says.fact 91 rfl)
theorem Txt.xk_WrongCount_BadName (T : Txt K mg) : PySem.W.kitOne K (.ref (ga K "WrongCount")) (.ref (ga K "BadName")) = some false := of_decide_eq_true (T.says.fact 92 rfl)
theorem Txt.xk_WrongCount_WrongCount (T : Txt K mg) : PySem.W.kitOne K (.ref (ga K "WrongCount")) (.ref (ga K "WrongCount")) = some true := of_decide_eq_true (T.says.fact 97 rfl)
theorem Txt.xi_OutOfRange (T : Txt K mg) : ExcC K (ga K "OutOfRange") := xis_of (T.says.fact 98 rfl)
theorem Txt.xk_OutOfRange_BadLine (T : Txt K mg) : PySem.W.kitOne K (.ref (ga K "OutOfRange")) (.ref (ga K "BadLine")) = some false := of_decide_eq_true (T.says.fact 99 rfl)
theorem Txt.xk_OutOfRange_BadName (T : Txt K mg) : PySem.W.kitOne K (.ref (ga K "OutOfRange")) (.ref (ga K "BadName")) = some false := of_decide_eq_true (T.says.fact 100 rfl)
theorem Txt.xk_OutOfRange_OutOfRange (T : Txt K mg) : PySem.W.kitOne K (.ref (ga K "OutOfRange")) (.ref (ga K "OutOfRange")) = some true := of_decide_eq_true (T.says.fact 101 rfl)
theorem Txt.xk_OutOfRange_WrongCount (T : Txt K mg) : PySem.W.kitOne K (.ref (ga K "OutOfRange")) (.ref (ga K "WrongCount")) = some false := of_decide_eq_true (T.says.fact 105 rfl)
theorem Txt.xi_Repeated (T : Txt K mg) : ExcC K (ga K "Repeated") := xis_of (T.says.fact 106 rfl)
theorem Txt.xk_Repeated_BadLine (T : Txt K mg) : PySem.W.kitOne K (.ref (ga K "Repeated")) (.ref (ga K "BadLine")) = some false := of_decide_eq_true (T.says.fact 107 rfl)
theorem Txt.xk_Repeated_BadName (T : Txt K mg) : PySem.W.kitOne K (.ref (ga K "Repeated")) (.ref (ga K "BadName")) = some false := of_decide_eq_true (T.says.fact 108 rfl)
theorem Txt.xk_Repeated_OutOfRange (T : Txt K mg) : PySem.W.kitOne K (.ref (ga K "Repeated")) (.ref (ga K "OutOfRange")) = some false := of_decide_eq_true (T.says.fact 109 rfl)
theorem Txt.xk_Repeated_Repeated (T : Txt K mg) : PySem.W.kitOne K (.ref (ga K "Repeated")) (.ref (ga K "Repeated")) = some true := of_decide_eq_true (T.says.fact 110 rfl)
theorem Txt.xk_Repeated_WrongCount (T : Txt K mg) : PySem.W.kitOne K (.ref (ga K "Repeated")) (.ref (ga K "WrongCount")) = some false := of_decide_eq_true (T.says.fact 113 rfl)
theorem Txt.xi_RepeatedArrow (T : Txt K mg) : ExcC K (ga K "RepeatedArrow") := xis_of (T.says.fact 114 rfl)
theorem Txt.xk_RepeatedArrow_BadLine (T : Txt K mg) : PySem.W.kitOne K (.ref (ga K "RepeatedArrow")) (.ref (ga K "BadLine")) = some false := of_decide_eq_true (T.says.fact 115 rfl)
theorem Txt.xk_RepeatedArrow_BadName (T : Txt K mg) : PySem.W.kitOne K (.ref (ga K "RepeatedArrow")) (.ref (ga K "BadName")) = some false := of_decide_eq_true (T.says.fact 116 rfl)
theorem Txt.xk_RepeatedArrow_OutOfRange (T : Txt K mg) : PySem.W.kitOne K (.ref (ga K "RepeatedArrow")) (.ref (ga K "OutOfRange")) = some false := of_decide_eq_true (T.says.fact 117 rfl)
theorem Txt.xk_RepeatedArrow_Repeated (T : Txt K mg) : PySem.W.kitOne K (.ref (ga K "RepeatedArrow")) (.ref (ga K "Repeated")) = some false := of_decide_eq_true (T.says.fact 118 rfl)
theorem Txt.xk_RepeatedArrow_RepeatedArrow (T : Txt K mg) : PySem.W.kitOne K (.ref (ga K "RepeatedArrow")) (.ref (ga K "RepeatedArrow")) = some true := of_decide_eq_true (T.says.fact 119 rfl)
theorem Txt.xk_RepeatedArrow_WrongCount (T : Txt K mg) : PySem.W.kitOne K (.ref (ga K "RepeatedArrow")) (.ref (ga K "WrongCount")) = some false := of_decide_eq_true (T.says.fact 121 rfl)
theorem Txt.xi_UnknownKind (T : Txt K mg) : ExcC K (ga K "UnknownKind") := xis_of (T.says.fact 122 rfl)
theorem Txt.xk_UnknownKind_BadLine (T : Txt K mg) : PySem.W.kitOne K (.ref (ga K "UnknownKind")) (.ref (ga K "BadLine")) = some false := of_decide_eq_true (T.says.fact 123 rfl)
theorem Txt.xk_UnknownKind_BadName (T : Txt K mg) : PySem.W.kitOne K (.ref (ga K "UnknownKind")) (.ref (ga K "BadName")) = some false := of_decide_eq_true (T.says.fact 124 rfl)
theorem Txt.xk_UnknownKind_OutOfRange (T : Txt K mg) : PySem.W.kitOne K (.ref (ga K "UnknownKind")) (.ref (ga K "OutOfRange")) = some false := of_decide_eq_true (T.says.fact 125 rfl)
theorem Txt.xk_UnknownKind_Repeated (T : Txt K mg) : PySem.W.kitOne K (.ref (ga K "UnknownKind")) (.ref (ga K "Repeated")) = some false := of_decide_eq_true (T.says.fact 126 rfl)
theorem Txt.xk_UnknownKind_RepeatedArrow (T : Txt K mg) : PySem.W.kitOne K (.ref (ga K "UnknownKind")) (.ref (ga K "RepeatedArrow")) = some false := of_decide_eq_true (T.says.fact 127 rfl)
theorem Txt.xk_UnknownKind_UnknownKind (T : Txt K mg) : PySem.W.kitOne K (.ref (ga K "UnknownKind")) (.ref (ga K "UnknownKind")) = some true := of_decide_eq_true (T.says.fact 128 rfl)
theorem Txt.xk_UnknownKind_WrongCount (T : Txt K mg) : PySem.W.kitOne K (.ref (ga K "UnknownKind")) (.ref (ga K "WrongCount")) = some false := of_decide_eq_true (T.says.fact 129 rfl)
theorem Txt.xi_BadLine (T : Txt K mg) : ExcC K (ga K "BadLine") := xis_of (T.says.fact 130 rfl)
theorem Txt.xk_BadLine_BadLine (T : Txt K mg) : PySem.W.kitOne K (.ref (ga K "BadLine")) (.ref (ga K "BadLine")) = some true := of_decide_eq_true (T.says.fact 131 rfl)
theorem Txt.nf_BadLine_line (T : Txt K mg) : PySem.W.findIn K (.ref (ga K "BadLine")) "line" = some none := of_decide_eq_true (T.says.fact 138 rfl)
theorem Txt.nf_BadName_name (T : Txt K mg) : PySem.W.findIn K (.ref (ga K "BadName")) "name" = some none := of_decide_eq_true (T.says.fact 139 rfl)
theorem Txt.nf_OutOfRange_value (T : Txt K mg) : PySem.W.findIn K (.ref (ga K "OutOfRange")) "value" = some none := of_decide_eq_true (T.says.fact 140 rfl)
theorem Txt.nf_OutOfRange_what (T : Txt K mg) : PySem.W.findIn K (.ref (ga K "OutOfRange")) "what" = some none := of_decide_eq_true (T.says.fact 141 rfl)
theorem Txt.nf_Repeated_name (T : Txt K mg) : PySem.W.findIn K (.ref (ga K "Repeated")) "name" = some none := of_decide_eq_true (T.says.fact 142 rfl)
theorem Txt.nf_RepeatedArrow_first (T : Txt K mg) : PySem.W.findIn K (.ref (ga K "RepeatedArrow")) "first" = some none := of_decide_eq_true (T.says.fact 143 rfl)
theorem Txt.nf_RepeatedArrow_second (T : Txt K mg) : PySem.W.findIn K (.ref (ga K "RepeatedArrow")) "second" = some none := of_decide_eq_true (T.says.fact 144 rfl)
theorem Txt.nf_UnknownKind_name (T : Txt K mg) : PySem.W.findIn K (.ref (ga K "UnknownKind")) "name" = some none := of_decide_eq_true (T.says.fact 145 rfl)
theorem Txt.nf_WrongCount_count (T : Txt K mg) : PySem.W.findIn K (.ref (ga K "WrongCount")) "count" = some none := of_decide_eq_true (T.says.fact 146 rfl)
theorem Txt.nf_WrongCount_what (T : Txt K mg) : PySem.W.findIn K (.ref (ga K "WrongCount")) "what" = some none := of_decide_eq_true (T.says.fact 147 rfl)
theorem Txt.xf_BadLine (T : Txt K mg) : XfC K (ga K "BadLine") := xfB_ok (T.says.fact 148 rfl)
theorem Txt.xf_BadName (T : Txt K mg) : XfC K (ga K "BadName") := xfB_ok (T.says.fact 149 rfl)
theorem Txt.xf_OutOfRange (T : Txt K mg) : XfC K (ga K "OutOfRange") := xfB_ok (T.says.fact 151 rfl)
theorem Txt.xf_Repeated (T : Txt K mg) : XfC K (ga K "Repeated") := xfB_ok (T.says.fact 152 rfl)
theorem Txt.xf_RepeatedArrow (T : Txt K mg) : XfC K (ga K "RepeatedArrow") := xfB_ok (T.says.fact 153 rfl)
theorem Txt.xf_UnknownKind (T : Txt K mg) : XfC K (ga K "UnknownKind") := xfB_ok (T.says.fact 154 rfl)
theorem Txt.xf_WrongCount (T : Txt K mg) : XfC K (ga K "WrongCount") := xfB_ok (T.says.fact 155 rfl)
theorem Txt.t0_Task_init (T : Txt K mg) : tup0B (dflA (fun K => ma K (ga K "Task") "__init__") 0) K = true := T.says.fact 156 rfl
theorem Txt.xkv (T : Txt K mg) : kitUpT xNames "ValueError" true K = true := T.says.fact 157 rfl
theorem Txt.d_BadName_init (T : Txt K mg) : ∃ fd, FunD K "__init__" "BadName.__init__" (defArgs s_BadName_init) (defBody s_BadName_init) (defScope s_BadName_init) [] [] (ma K (ga K "BadName") "__init__") fd := T.says.def_ 0 (d := da_BadName_init) rfl
theorem Txt.d_WrongCount_init (T : Txt K mg) : ∃ fd, FunD K "__init__" "WrongCount.__init__" (defArgs s_WrongCount_init) (defBody s_WrongCount_init) (defScope s_WrongCount_init) [] [] (ma K (ga K "WrongCount") "__init__") fd := T.says.def_ 1 (d := da_WrongCount_init) rfl
theorem Txt.d_OutOfRange_init (T : Txt K mg) : ∃ fd, FunD K "__init__" "OutOfRange.__init__" (defArgs s_OutOfRange_init) (defBody s_OutOfRange_init) (defScope s_OutOfRange_init) [] [] (ma K (ga K "OutOfRange") "__init__") fd := T.says.def_ 2 (d := da_OutOfRange_init) rfl
theorem Txt.d_Repeated_init (T : Txt K mg) : ∃ fd, FunD K "__init__" "Repeated.__init__" (defArgs s_Repeated_init) (defBody s_Repeated_init) (defScope s_Repeated_init) [] [] (ma K (ga K "Repeated") "__init__") fd := T.says.def_ 3 (d := da_Repeated_init) rfl
theorem Txt.d_RepeatedArrow_init (T : Txt K mg) : ∃ fd, FunD K "__init__" "RepeatedArrow.__init__" (defArgs s_RepeatedArrow_init) (defBody s_RepeatedArrow_init) (defScope s_RepeatedArrow_init) [] [] (ma K (ga K "RepeatedArrow") "__init__") fd := T.says.def_ 4 (d := da_RepeatedArrow_init) rfl
theorem Txt.d_UnknownKind_init (T : Txt K mg) : ∃ fd, FunD K "__init__" "UnknownKind.__init__" (defArgs s_UnknownKind_init) (defBody s_UnknownKind_init) (defScope s_UnknownKind_init) [] [] (ma K (ga K "UnknownKind") "__init__") fd := T.says.def_ 5 (d := da_UnknownKind_init) rfl
theorem Txt.d_BadLine_init (T : Txt K mg) : ∃ fd, FunD K "__init__" "BadLine.__init__" (defArgs s_BadLine_init) (defBody s_BadLine_init) (defScope s_BadLine_init) [] [] (ma K (ga K "BadLine") "__init__") fd := T.says.def_ 6 (d := da_BadLine_init) rfl
theorem Txt.d_is_name (T : Txt K mg) : ∃ fd, FunD K "is_name" "is_name" (defArgs s_is_name) (defBody s_is_name) (defScope s_is_name) [] [] (ga K "is_name") fd := T.says.def_ 7 (d := da_is_name) rfl
theorem Txt.d_need_name (T : Txt K mg) : ∃ fd, FunD K "need_name" "need_name" (defArgs s_need_name) (defBody s_need_name) (defScope s_need_name) [] [] (ga K "need_name") fd := T.says.def_ 8 (d := da_need_name) rfl
theorem Txt.d_need_range (T : Txt K mg) : ∃ fd, FunD K "need_range" "need_range" (defArgs s_need_range) (defBody s_need_range) (defScope s_need_range) [] [] (ga K "need_range") fd := T.says.def_ 9 (d := da_need_range) rfl
theorem Txt.d_need_kind (T : Txt K mg) : ∃ fd, FunD K "need_kind" "need_kind" (defArgs s_need_kind) (defBody s_need_kind) (defScope s_need_kind) [] [] (ga K "need_kind") fd := T.says.def_ 10 (d := da_need_kind) rfl
theorem Txt.d_checked_kinds (T : Txt K mg) : ∃ fd, FunD K "checked_kinds" "checked_kinds" (defArgs s_checked_kinds) (defBody s_checked_kinds) (defScope s_checked_kinds) [] [] (ga K "checked_kinds") fd := T.says.def_ 11 (d := da_checked_kinds) rfl
theorem Txt.d_checked_arrows (T : Txt K mg) : ∃ fd, FunD K "checked_arrows" "checked_arrows" (defArgs s_checked_arrows) (defBody s_checked_arrows) (defScope s_checked_arrows) [] [] (ga K "checked_arrows") fd := T.says.def_ 12 (d := da_checked_arrows) rfl
theorem Txt.d_Task_init (T : Txt K mg) : ∃ fd, FunD K "__init__" "Task.__init__" (defArgs s_Task_init) (defBody s_Task_init) (defScope s_Task_init) [.ref ((dflA (fun K => ma K (ga K "Task") "__init__") 0) K)] [] (ma K (ga K "Task") "__init__") fd := T.says.def_ 13 (d := da_Task_init) rfl
theorem Txt.d_Task_kinds (T : Txt K mg) : ∃ fd, FunD K "kinds" "Task.kinds" (defArgs s_Task_kinds) (defBody s_Task_kinds) (defScope s_Task_kinds) [] [] (wad K "property" "Task" "kinds") fd := T.says.def_ 14 (d := da_Task_kinds) rfl
theorem Txt.d_Task_arrows (T : Txt K mg) : ∃ fd, FunD K "arrows" "Task.arrows" (defArgs s_Task_arrows) (defBody s_Task_arrows) (defScope s_Task_arrows) [] [] (wad K "property" "Task" "arrows") fd := T.says.def_ 15 (d := da_Task_arrows) rfl
theorem Txt.d_number_of (T : Txt K mg) : ∃ fd, FunD K "number_of" "number_of" (defArgs s_number_of) (defBody s_number_of) (defScope s_number_of) [] [] (ga K "number_of") fd := T.says.def_ 16 (d := da_number_of) rfl
theorem Txt.d_kind_parts (T : Txt K mg) : ∃ fd, FunD K "kind_parts" "kind_parts" (defArgs s_kind_parts) (defBody s_kind_parts) (defScope s_kind_parts) [] [] (ga K "kind_parts") fd := T.says.def_ 17 (d := da_kind_parts) rfl
theorem Txt.d_arrow_parts (T : Txt K mg) : ∃ fd, FunD K "arrow_parts" "arrow_parts" (defArgs s_arrow_parts) (defBody s_arrow_parts) (defScope s_arrow_parts) [] [] (ga K "arrow_parts") fd := T.says.def_ 18 (d := da_arrow_parts) rfl
theorem Txt.d_line_parts (T : Txt K mg) : ∃ fd, FunD K "line_parts" "line_parts" (defArgs s_line_parts) (defBody s_line_parts) (defScope s_line_parts) [] [] (ga K "line_parts") fd := T.says.def_ 19 (d := da_line_parts) rfl
theorem Txt.d_read_lines (T : Txt K mg) : ∃ fd, FunD K "read_lines" "read_lines" (defArgs s_read_lines) (defBody s_read_lines) (defScope s_read_lines) [] [] (ga K "read_lines") fd := T.says.def_ 20 (d := da_read_lines) rfl
theorem Txt.d_read_tasks (T : Txt K mg) : ∃ fd, FunD K "read_tasks" "read_tasks" (defArgs s_read_tasks) (defBody s_read_tasks) (defScope s_read_tasks) [] [] (ga K "read_tasks") fd := T.says.def_ 21 (d := da_read_tasks) rfl
theorem Txt.d_law_pool (T : Txt K mg) : ∃ fd, FunD K "_law_pool" "_law_pool" (defArgs s_law_pool) (defBody s_law_pool) (defScope s_law_pool) [] [] (ga K "_law_pool") fd := T.says.def_ 22 (d := da_law_pool) rfl
theorem Txt.d_law_draw (T : Txt K mg) : ∃ fd, FunD K "_law_draw" "_law_draw" (defArgs s_law_draw) (defBody s_law_draw) (defScope s_law_draw) [] [] (ga K "_law_draw") fd := T.says.def_ 23 (d := da_law_draw) rfl
theorem Txt.d_law_name (T : Txt K mg) : ∃ fd, FunD K "_law_name" "_law_name" (defArgs s_law_name) (defBody s_law_name) (defScope s_law_name) [] [] (ga K "_law_name") fd := T.says.def_ 24 (d := da_law_name) rfl
theorem Txt.d_law_fresh (T : Txt K mg) : ∃ fd, FunD K "_law_fresh" "_law_fresh" (defArgs s_law_fresh) (defBody s_law_fresh) (defScope s_law_fresh) [] [] (ga K "_law_fresh") fd := T.says.def_ 25 (d := da_law_fresh) rfl
theorem Txt.d_law_near (T : Txt K mg) : ∃ fd, FunD K "_law_near" "_law_near" (defArgs s_law_near) (defBody s_law_near) (defScope s_law_near) [] [] (ga K "_law_near") fd := T.says.def_ 26 (d := da_law_near) rfl
theorem Txt.d_law_number (T : Txt K mg) : ∃ fd, FunD K "_law_number" "_law_number" (defArgs s_law_number) (defBody s_law_number) (defScope s_law_number) [] [] (ga K "_law_number") fd := T.says.def_ 27 (d := da_law_number) rfl
theorem Txt.d_law_spec (T : Txt K mg) : ∃ fd, FunD K "_law_spec" "_law_spec" (defArgs s_law_spec) (defBody s_law_spec) (defScope s_law_spec) [] [] (ga K "_law_spec") fd := T.says.def_ 28 (d := da_law_spec) rfl
theorem Txt.d_law_text (T : Txt K mg) : ∃ fd, FunD K "_law_text" "_law_text" (defArgs s_law_text) (defBody s_law_text) (defScope s_law_text) [] [] (ga K "_law_text") fd := T.says.def_ 29 (d := da_law_text) rfl
theorem Txt.d_law_sign (T : Txt K mg) : ∃ fd, FunD K "_law_sign" "_law_sign" (defArgs s_law_sign) (defBody s_law_sign) (defScope s_law_sign) [] [] (ga K "_law_sign") fd := T.says.def_ 30 (d := da_law_sign) rfl
theorem Txt.d_law_spoil_sign (T : Txt K mg) : ∃ fd, FunD K "_law_spoil_sign" "_law_spoil_sign" (defArgs s_law_spoil_sign) (defBody s_law_spoil_sign) (defScope s_law_spoil_sign) [] [] (ga K "_law_spoil_sign") fd := T.says.def_ 31 (d := da_law_spoil_sign) rfl
theorem Txt.d_law_spoil_line (T : Txt K mg) : ∃ fd, FunD K "_law_spoil_line" "_law_spoil_line" (defArgs s_law_spoil_line) (defBody s_law_spoil_line) (defScope s_law_spoil_line) [] [] (ga K "_law_spoil_line") fd := T.says.def_ 32 (d := da_law_spoil_line) rfl
theorem Txt.d_law_number_of (T : Txt K mg) : ∃ fd, FunD K "_law_number_of" "_law_number_of" (defArgs s_law_number_of) (defBody s_law_number_of) (defScope s_law_number_of) [] [] (ga K "_law_number_of") fd := T.says.def_ 33 (d := da_law_number_of) rfl
theorem Txt.d_law_parts (T : Txt K mg) : ∃ fd, FunD K "_law_parts" "_law_parts" (defArgs s_law_parts) (defBody s_law_parts) (defScope s_law_parts) [] [] (ga K "_law_parts") fd := T.says.def_ 34 (d := da_law_parts) rfl
theorem Txt.d_law_is_name (T : Txt K mg) : ∃ fd, FunD K "_law_is_name" "_law_is_name" (defArgs s_law_is_name) (defBody s_law_is_name) (defScope s_law_is_name) [] [] (ga K "_law_is_name") fd := T.says.def_ 35 (d := da_law_is_name) rfl
theorem Txt.d_law_kind_fault (T : Txt K mg) : ∃ fd, FunD K "_law_kind_fault" "_law_kind_fault" (defArgs s_law_kind_fault) (defBody s_law_kind_fault) (defScope s_law_kind_fault) [] [] (ga K "_law_kind_fault") fd := T.says.def_ 36 (d := da_law_kind_fault) rfl
theorem Txt.d_law_arrow_fault (T : Txt K mg) : ∃ fd, FunD K "_law_arrow_fault" "_law_arrow_fault" (defArgs s_law_arrow_fault) (defBody s_law_arrow_fault) (defScope s_law_arrow_fault) [] [] (ga K "_law_arrow_fault") fd := T.says.def_ 37 (d := da_law_arrow_fault) rfl
theorem Txt.d_law_task_fault (T : Txt K mg) : ∃ fd, FunD K "_law_task_fault" "_law_task_fault" (defArgs s_law_task_fault) (defBody s_law_task_fault) (defScope s_law_task_fault) [] [] (ga K "_law_task_fault") fd := T.says.def_ 38 (d := da_law_task_fault) rfl
theorem Txt.d_law_due (T : Txt K mg) : ∃ fd, FunD K "_law_due" "_law_due" (defArgs s_law_due) (defBody s_law_due) (defScope s_law_due) [] [] (ga K "_law_due") fd := T.says.def_ 39 (d := da_law_due) rfl
theorem Txt.d_law_fault (T : Txt K mg) : ∃ fd, FunD K "_law_fault" "_law_fault" (defArgs s_law_fault) (defBody s_law_fault) (defScope s_law_fault) [] [] (ga K "_law_fault") fd := T.says.def_ 40 (d := da_law_fault) rfl
theorem Txt.d_law_told (T : Txt K mg) : ∃ fd, FunD K "_law_told" "_law_told" (defArgs s_law_told) (defBody s_law_told) (defScope s_law_told) [] [] (ga K "_law_told") fd := T.says.def_ 41 (d := da_law_told) rfl
theorem Txt.d_law (T : Txt K mg) : ∃ fd, FunD K "law" "law" (defArgs s_law) (defBody s_law) (defScope s_law) [] [] (ga K "law") fd := T.says.def_ 42 (d := da_law) rfl
end
theorem len_law_fault {K : Fr0} : ∀ a c d ds m Q E, sp_law_fault K a c d ds m Q E → ds.length = (["_law_e"] : List Str).length := by
  intro a c d ds m Q E h
  repeat (first | (obtain ⟨rfl, _⟩ := h; rfl) | (obtain ⟨_, h⟩ := h))
theorem len_is_name {K : Fr0} : ∀ ds m Q E, sp_is_name K ds m Q E → ds.length = (["text"] : List Str).length := by
  intro ds m Q E h
  repeat (first | (obtain ⟨rfl, _⟩ := h; rfl) | (obtain ⟨_, h⟩ := h))
theorem len_need_name {K : Fr0} : ∀ ds m Q E, sp_need_name K ds m Q E → ds.length = (["text"] : List Str).length := by
  intro ds m Q E h
  repeat (first | (obtain ⟨rfl, _⟩ := h; rfl) | (obtain ⟨_, h⟩ := h))
theorem len_need_range {K : Fr0} : ∀ ds m Q E, sp_need_range K ds m Q E → ds.length = (["what", "value", "least", "most"] : List Str).length := by
  intro ds m Q E h
  repeat (first | (obtain ⟨rfl, _⟩ := h; rfl) | (obtain ⟨_, h⟩ := h))
theorem len_need_kind {K : Fr0} : ∀ ds m Q E, sp_need_kind K ds m Q E → ds.length = (["name", "kind_rows"] : List Str).length := by
  intro ds m Q E h
  repeat (first | (obtain ⟨rfl, _⟩ := h; rfl) | (obtain ⟨_, h⟩ := h))
theorem len_checked_kinds {K : Fr0} : ∀ ds m Q E, sp_checked_kinds K ds m Q E → ds.length = (["kinds", "branching"] : List Str).length := by
  intro ds m Q E h
  repeat (first | (obtain ⟨rfl, _⟩ := h; rfl) | (obtain ⟨_, h⟩ := h))
theorem len_checked_arrows {K : Fr0} : ∀ ds m Q E, sp_checked_arrows K ds m Q E → ds.length = (["arrows", "kind_rows"] : List Str).length := by
  intro ds m Q E h
  repeat (first | (obtain ⟨rfl, _⟩ := h; rfl) | (obtain ⟨_, h⟩ := h))
theorem len_Task_init {K : Fr0} : ∀ ds m Q E, sp_Task_init K ds m Q E → ds.length = (["self", "name", "kinds", "arrows"] : List Str).length := by
  intro ds m Q E h
  repeat (first | (obtain ⟨rfl, _⟩ := h; rfl) | (obtain ⟨_, h⟩ := h))
theorem len_Task_kinds {K : Fr0} : ∀ ds m Q E, sp_Task_kinds K ds m Q E → ds.length = (["self"] : List Str).length := by
  intro ds m Q E h
  repeat (first | (obtain ⟨rfl, _⟩ := h; rfl) | (obtain ⟨_, h⟩ := h))
theorem len_Task_arrows {K : Fr0} : ∀ ds m Q E, sp_Task_arrows K ds m Q E → ds.length = (["self"] : List Str).length := by
  intro ds m Q E h
  repeat (first | (obtain ⟨rfl, _⟩ := h; rfl) | (obtain ⟨_, h⟩ := h))
theorem len_number_of {K : Fr0} : ∀ ds m Q E, sp_number_of K ds m Q E → ds.length = (["word"] : List Str).length := by
  intro ds m Q E h
  repeat (first | (obtain ⟨rfl, _⟩ := h; rfl) | (obtain ⟨_, h⟩ := h))
theorem len_kind_parts {K : Fr0} : ∀ ds m Q E, sp_kind_parts K ds m Q E → ds.length = (["name", "cost", "deadline"] : List Str).length := by
  intro ds m Q E h
  repeat (first | (obtain ⟨rfl, _⟩ := h; rfl) | (obtain ⟨_, h⟩ := h))
theorem len_arrow_parts {K : Fr0} : ∀ ds m Q E, sp_arrow_parts K ds m Q E → ds.length = (["first", "second", "gap"] : List Str).length := by
  intro ds m Q E h
  repeat (first | (obtain ⟨rfl, _⟩ := h; rfl) | (obtain ⟨_, h⟩ := h))
theorem len_line_parts {K : Fr0} : ∀ ds m Q E, sp_line_parts K ds m Q E → ds.length = (["line"] : List Str).length := by
  intro ds m Q E h
  repeat (first | (obtain ⟨rfl, _⟩ := h; rfl) | (obtain ⟨_, h⟩ := h))
theorem len_read_lines {K : Fr0} : ∀ ds m Q E, sp_read_lines K ds m Q E → ds.length = (["text"] : List Str).length := by
  intro ds m Q E h
  repeat (first | (obtain ⟨rfl, _⟩ := h; rfl) | (obtain ⟨_, h⟩ := h))
theorem len_read_tasks {K : Fr0} : ∀ ds m Q E, sp_read_tasks K ds m Q E → ds.length = (["text"] : List Str).length := by
  intro ds m Q E h
  repeat (first | (obtain ⟨rfl, _⟩ := h; rfl) | (obtain ⟨_, h⟩ := h))
theorem len_law_pool {K : Fr0} : ∀ ds m Q E, sp_law_pool K ds m Q E → ds.length = (["_law_script"] : List Str).length := by
  intro ds m Q E h
  repeat (first | (obtain ⟨rfl, _⟩ := h; rfl) | (obtain ⟨_, h⟩ := h))
theorem len_law_draw {K : Fr0} : ∀ ds m Q E, sp_law_draw K ds m Q E → ds.length = (["_law_pool_here", "_law_limit"] : List Str).length := by
  intro ds m Q E h
  repeat (first | (obtain ⟨rfl, _⟩ := h; rfl) | (obtain ⟨_, h⟩ := h))
theorem len_law_name {K : Fr0} : ∀ ds m Q E, sp_law_name K ds m Q E → ds.length = (["_law_pool_here"] : List Str).length := by
  intro ds m Q E h
  repeat (first | (obtain ⟨rfl, _⟩ := h; rfl) | (obtain ⟨_, h⟩ := h))
theorem len_law_fresh {K : Fr0} : ∀ ds m Q E, sp_law_fresh K ds m Q E → ds.length = (["_law_word", "_law_taken"] : List Str).length := by
  intro ds m Q E h
  repeat (first | (obtain ⟨rfl, _⟩ := h; rfl) | (obtain ⟨_, h⟩ := h))
theorem len_law_near {K : Fr0} : ∀ ds m Q E, sp_law_near K ds m Q E → ds.length = (["_law_pool_here", "_law_taken"] : List Str).length := by
  intro ds m Q E h
  repeat (first | (obtain ⟨rfl, _⟩ := h; rfl) | (obtain ⟨_, h⟩ := h))
theorem len_law_number {K : Fr0} : ∀ ds m Q E, sp_law_number K ds m Q E → ds.length = (["_law_pool_here", "_law_most"] : List Str).length := by
  intro ds m Q E h
  repeat (first | (obtain ⟨rfl, _⟩ := h; rfl) | (obtain ⟨_, h⟩ := h))
theorem len_law_spec {K : Fr0} : ∀ ds m Q E, sp_law_spec K ds m Q E → ds.length = (["_law_pool_here"] : List Str).length := by
  intro ds m Q E h
  repeat (first | (obtain ⟨rfl, _⟩ := h; rfl) | (obtain ⟨_, h⟩ := h))
theorem len_law_text {K : Fr0} : ∀ ds m Q E, sp_law_text K ds m Q E → ds.length = (["_law_specs"] : List Str).length := by
  intro ds m Q E h
  repeat (first | (obtain ⟨rfl, _⟩ := h; rfl) | (obtain ⟨_, h⟩ := h))
theorem len_law_sign {K : Fr0} : ∀ ds m Q E, sp_law_sign K ds m Q E → ds.length = (["_law_pool_here"] : List Str).length := by
  intro ds m Q E h
  repeat (first | (obtain ⟨rfl, _⟩ := h; rfl) | (obtain ⟨_, h⟩ := h))
theorem len_law_spoil_sign {K : Fr0} : ∀ ds m Q E, sp_law_spoil_sign K ds m Q E → ds.length = (["_law_pool_here", "_law_text_here"] : List Str).length := by
  intro ds m Q E h
  repeat (first | (obtain ⟨rfl, _⟩ := h; rfl) | (obtain ⟨_, h⟩ := h))
theorem len_law_spoil_line {K : Fr0} : ∀ ds m Q E, sp_law_spoil_line K ds m Q E → ds.length = (["_law_pool_here", "_law_text_here"] : List Str).length := by
  intro ds m Q E h
  repeat (first | (obtain ⟨rfl, _⟩ := h; rfl) | (obtain ⟨_, h⟩ := h))
theorem len_law_number_of {K : Fr0} : ∀ ds m Q E, sp_law_number_of K ds m Q E → ds.length = (["_law_word"] : List Str).length := by
  intro ds m Q E h
  repeat (first | (obtain ⟨rfl, _⟩ := h; rfl) | (obtain ⟨_, h⟩ := h))
theorem len_law_parts {K : Fr0} : ∀ ds m Q E, sp_law_parts K ds m Q E → ds.length = (["_law_line"] : List Str).length := by
  intro ds m Q E h
  repeat (first | (obtain ⟨rfl, _⟩ := h; rfl) | (obtain ⟨_, h⟩ := h))
theorem len_law_is_name {K : Fr0} : ∀ ds m Q E, sp_law_is_name K ds m Q E → ds.length = (["_law_word"] : List Str).length := by
  intro ds m Q E h
  repeat (first | (obtain ⟨rfl, _⟩ := h; rfl) | (obtain ⟨_, h⟩ := h))
theorem len_law_kind_fault {K : Fr0} : ∀ ds m Q E, sp_law_kind_fault K ds m Q E → ds.length = (["_law_rows", "_law_limits"] : List Str).length := by
  intro ds m Q E h
  repeat (first | (obtain ⟨rfl, _⟩ := h; rfl) | (obtain ⟨_, h⟩ := h))
theorem len_law_arrow_fault {K : Fr0} : ∀ ds m Q E, sp_law_arrow_fault K ds m Q E → ds.length = (["_law_ties", "_law_taken"] : List Str).length := by
  intro ds m Q E h
  repeat (first | (obtain ⟨rfl, _⟩ := h; rfl) | (obtain ⟨_, h⟩ := h))
theorem len_law_task_fault {K : Fr0} : ∀ ds m Q E, sp_law_task_fault K ds m Q E → ds.length = (["_law_spec_here"] : List Str).length := by
  intro ds m Q E h
  repeat (first | (obtain ⟨rfl, _⟩ := h; rfl) | (obtain ⟨_, h⟩ := h))
theorem len_law_due {K : Fr0} : ∀ ds m Q E, sp_law_due K ds m Q E → ds.length = (["_law_text_here"] : List Str).length := by
  intro ds m Q E h
  repeat (first | (obtain ⟨rfl, _⟩ := h; rfl) | (obtain ⟨_, h⟩ := h))
theorem len_law_told {K : Fr0} : ∀ ds m Q E, sp_law_told K ds m Q E → ds.length = (["_law_text_here"] : List Str).length := by
  intro ds m Q E h
  repeat (first | (obtain ⟨rfl, _⟩ := h; rfl) | (obtain ⟨_, h⟩ := h))
end LW

set_option Elab.async false
set_option linter.all false
set_option maxRecDepth 100000
set_option maxHeartbeats 0
namespace LW
open PySem PySem.Spec PyProof.Rows L2 DL
open He (ga ma)
end LW

set_option Elab.async false
set_option linter.all false
set_option maxRecDepth 100000
set_option maxHeartbeats 4000000
namespace LW
open PySem PySem.Spec PyProof.Rows L2 DL
open He (ga ma)
local macro_rules | `(tactic| walk_at "zs") => `(tactic| try simp only [dIfS, dTest, dOp, dVar, dC, dCB, daCons, daNil, dSet, dRet, dNext, dDrop, dAsg, dPar, dAug, dAddI, dBreak, dCont, dRetN, slot, dLen, dCmpI, dSub, dAdd, dMul, dDiv, dMod, dPow, dNeg, dUn, dIx, dInt1, dAbs, dChain, dAnd, dOr, dNot, dAndV, dOrV, dNotV, dTru, dTruB, dIf, dTup, dLst, mkL, dSlice, dSl, doNone, doSome, dSum, dAll, dAny, dList, dTuple, dMax, dMin, eq_ii, ne_ii, eq_ss, ne_ss, eq_bb, ne_bb, eq_nn, ne_nn, dIsN, dNotN, dFgt, dIsB, dNotB, gN, gT, gsNil, gsCons, gSet, dBM, dAppend, dClear, dFld, dFldS, dProp, dCall, dMeth, dMake, dMakeN, daStar, dDictP, dCallO, dFor, dLc, diR1, diR2, diR3, diL, diT, diRv, diS, diE, dFmt, dFStr, dJs, dCallN, dFrzE, frz_l, in_ss, notin_ss, drR1, drR2, dListR, dRaise, dRaise0, dTryAs, dTry, dXf, dAddO, dInO, isL, insOf, Option.some.injEq, List.cons.injEq, D.int.injEq, D.bl.injEq, D.str.injEq, D.lst.injEq, D.tup.injEq, D.ref.injEq, MO.lst.injEq, MO.ins.injEq, mset_mset, and_true, true_and, and_self, and_assoc, exists_eq_left', exists_eq_left, exists_and_left, exists_and_right, exists_eq', List.set_cons_zero, List.set_cons_succ, decide_eq_true_eq, sqOf, lsOf, List.length_cons, List.length_nil, sizeLine_eq, List.append_nil, List.cons_append, List.nil_append, if_true, if_false, Bool.false_eq_true, reduceCtorEq, reduceIte, Nat.reduceAdd, Nat.reduceLeDiff, mset_same, Option.bind_some, List.length_map, Prod.mk.injEq, at0, at1, at2, at3, at4, at5, at6, at7, ix30, ix31, ix32, ix20, ix21, ix10, isi_ii, isi_ib, isi_ll, isi_bb, isi_ss, isi_tt, isi_is, isi_si, Bool.not_true, Bool.not_false, dCopyK, dGet2K, dDctR, dDisp1, dFrzEK])
local macro_rules | `(tactic| walk_at "zS") => `(tactic| try simp only [dSeq, dIfS, dTest, dOp, dVar, dC, dCB, daCons, daNil, dSet, dRet, dNext, dDrop, dAsg, dPar, dAug, dAddI, dBreak, dCont, dRetN, slot, dLen, dCmpI, dSub, dAdd, dMul, dDiv, dMod, dPow, dNeg, dUn, dIx, dInt1, dAbs, dChain, dAnd, dOr, dNot, dAndV, dOrV, dNotV, dTru, dTruB, dIf, dTup, dLst, mkL, dSlice, dSl, doNone, doSome, dSum, dAll, dAny, dList, dTuple, dMax, dMin, eq_ii, ne_ii, eq_ss, ne_ss, eq_bb, ne_bb, eq_nn, ne_nn, dIsN, dNotN, dFgt, dIsB, dNotB, gN, gT, gsNil, gsCons, gSet, dBM, dAppend, dClear, dFld, dFldS, dProp, dCall, dMeth, dMake, dMakeN, daStar, dDictP, dCallO, dFor, dLc, diR1, diR2, diR3, diL, diT, diRv, diS, diE, dFmt, dFStr, dJs, dCallN, dFrzE, frz_l, in_ss, notin_ss, drR1, drR2, dListR, dRaise, dRaise0, dTryAs, dTry, dXf, dAddO, dInO, isL, insOf, Option.some.injEq, List.cons.injEq, D.int.injEq, D.bl.injEq, D.str.injEq, D.lst.injEq, D.tup.injEq, D.ref.injEq, MO.lst.injEq, MO.ins.injEq, mset_mset, and_true, true_and, and_self, and_assoc, exists_eq_left', exists_eq_left, exists_and_left, exists_and_right, exists_eq', List.set_cons_zero, List.set_cons_succ, decide_eq_true_eq, sqOf, lsOf, List.length_cons, List.length_nil, sizeLine_eq, List.append_nil, List.cons_append, List.nil_append, if_true, if_false, Bool.false_eq_true, reduceCtorEq, reduceIte, Nat.reduceAdd, Nat.reduceLeDiff, mset_same, Option.bind_some, List.length_map, Prod.mk.injEq, at0, at1, at2, at3, at4, at5, at6, at7, ix30, ix31, ix32, ix20, ix21, ix10, isi_ii, isi_ib, isi_ll, isi_bb, isi_ss, isi_tt, isi_is, isi_si, Bool.not_true, Bool.not_false, dCopyK, dGet2K, dDctR, dDisp1, dFrzEK])
local macro_rules | `(tactic| walk_at "zn") => `(tactic| ((try simp only [dSeq]); (try simp only [dIfS, dTest, dOp, dVar, dC, dCB, daCons, daNil, dSet, dRet, dNext, dDrop, dAsg, dPar, dAug, dAddI, dBreak, dCont, dRetN, slot, dLen, dCmpI, dSub, dAdd, dMul, dDiv, dMod, dPow, dNeg, dUn, dIx, dInt1, dAbs, dChain, dAnd, dOr, dNot, dAndV, dOrV, dNotV, dTru, dTruB, dIf, dTup, dLst, mkL, dSlice, dSl, doNone, doSome, dSum, dAll, dAny, dList, dTuple, dMax, dMin, eq_ii, ne_ii, eq_ss, ne_ss, eq_bb, ne_bb, eq_nn, ne_nn, dIsN, dNotN, dFgt, dIsB, dNotB, gN, gT, gsNil, gsCons, gSet, dBM, dAppend, dClear, dFld, dFldS, dProp, dCall, dMeth, dMake, dMakeN, daStar, dDictP, dCallO, dFor, dLc, diR1, diR2, diR3, diL, diT, diRv, diS, diE, dFmt, dFStr, dJs, dCallN, dFrzE, frz_l, in_ss, notin_ss, drR1, drR2, dListR, dRaise, dRaise0, dTryAs, dTry, dXf, dAddO, dInO, isL, insOf, Option.some.injEq, List.cons.injEq, D.int.injEq, D.bl.injEq, D.str.injEq, D.lst.injEq, D.tup.injEq, D.ref.injEq, MO.lst.injEq, MO.ins.injEq, mset_mset, and_true, true_and, and_self, and_assoc, exists_eq_left', exists_eq_left, exists_and_left, exists_and_right, exists_eq', List.set_cons_zero, List.set_cons_succ, decide_eq_true_eq, sqOf, lsOf, List.length_cons, List.length_nil, sizeLine_eq, List.append_nil, List.cons_append, List.nil_append, if_true, if_false, Bool.false_eq_true, reduceCtorEq, reduceIte, Nat.reduceAdd, Nat.reduceLeDiff, mset_same, Option.bind_some, List.length_map, Prod.mk.injEq, at0, at1, at2, at3, at4, at5, at6, at7, ix30, ix31, ix32, ix20, ix21, ix10, isi_ii, isi_ib, isi_ll, isi_bb, isi_ss, isi_tt, isi_is, isi_si, Bool.not_true, Bool.not_false, dCopyK, dGet2K, dDctR, dDisp1, dFrzEK])))
set_option hygiene false
local macro_rules | `(tactic| walk_at "z0") => `(tactic| try simp only [dIfS, dTest, dOp, dVar, dC, dCB, daCons, daNil, dSet, dRet, dNext, dDrop, dAsg, dPar, dAug, dAddI, dBreak, dCont, dRetN, slot, dLen, dCmpI, dSub, dAdd, dMul, dDiv, dMod, dPow, dNeg, dUn, dIx, dInt1, dAbs, dChain, dAnd, dOr, dNot, dAndV, dOrV, dNotV, dTru, dTruB, dIf, dTup, dLst, mkL, dSlice, dSl, doNone, doSome, dSum, dAll, dAny, dList, dTuple, dMax, dMin, eq_ii, ne_ii, eq_ss, ne_ss, eq_bb, ne_bb, eq_nn, ne_nn, dIsN, dNotN, dFgt, dIsB, dNotB, gN, gT, gsNil, gsCons, gSet, dBM, dAppend, dClear, dFld, dFldS, dProp, dCall, dMeth, dMake, dMakeN, daStar, dDictP, dCallO, dFor, dLc, diR1, diR2, diR3, diL, diT, diRv, diS, diE, dFmt, dFStr, dJs, dCallN, dFrzE, frz_l, in_ss, notin_ss, drR1, drR2, dListR, dRaise, dRaise0, dTryAs, dTry, dXf, dAddO, dInO, isL, insOf, Option.some.injEq, List.cons.injEq, D.int.injEq, D.bl.injEq, D.str.injEq, D.lst.injEq, D.tup.injEq, D.ref.injEq, MO.lst.injEq, MO.ins.injEq, mset_mset, and_true, true_and, and_self, and_assoc, exists_eq_left', exists_eq_left, exists_and_left, exists_and_right, exists_eq', List.set_cons_zero, List.set_cons_succ, decide_eq_true_eq, sqOf, lsOf, List.length_cons, List.length_nil, sizeLine_eq, List.append_nil, List.cons_append, List.nil_append, if_true, if_false, Bool.false_eq_true, reduceCtorEq, reduceIte, Nat.reduceAdd, Nat.reduceLeDiff, mset_same, Option.bind_some, List.length_map, Prod.mk.injEq, at0, at1, at2, at3, at4, at5, at6, at7, ix30, ix31, ix32, ix20, ix21, ix10, isi_ii, isi_ib, isi_ll, isi_bb, isi_ss, isi_tt, isi_is, isi_si, Bool.not_true, Bool.not_false, dCopyK, dGet2K, dDctR, dDisp1, dFrzEK, T.cl_Task, T.n_Task_name, T.n_Task_kind_rows, T.n_Task_arrow_rows, taskD, lk_name, lk_kinds, lk_arrows, putT2, lk2])
local macro_rules | `(tactic| walk_at "z1") => `(tactic| try simp only [dIfS, dTest, dOp, dVar, dC, dCB, daCons, daNil, dSet, dRet, dNext, dDrop, dAsg, dPar, dAug, dAddI, dBreak, dCont, dRetN, slot, dLen, dCmpI, dSub, dAdd, dMul, dDiv, dMod, dPow, dNeg, dUn, dIx, dInt1, dAbs, dChain, dAnd, dOr, dNot, dAndV, dOrV, dNotV, dTru, dTruB, dIf, dTup, dLst, mkL, dSlice, dSl, doNone, doSome, dSum, dAll, dAny, dList, dTuple, dMax, dMin, eq_ii, ne_ii, eq_ss, ne_ss, eq_bb, ne_bb, eq_nn, ne_nn, dIsN, dNotN, dFgt, dIsB, dNotB, gN, gT, gsNil, gsCons, gSet, dBM, dAppend, dClear, dFld, dFldS, dProp, dCall, dMeth, dMake, dMakeN, daStar, dDictP, dCallO, dFor, dLc, diR1, diR2, diR3, diL, diT, diRv, diS, diE, dFmt, dFStr, dJs, dCallN, dFrzE, frz_l, in_ss, notin_ss, drR1, drR2, dListR, dRaise, dRaise0, dTryAs, dTry, dXf, dAddO, dInO, isL, insOf, Option.some.injEq, List.cons.injEq, D.int.injEq, D.bl.injEq, D.str.injEq, D.lst.injEq, D.tup.injEq, D.ref.injEq, MO.lst.injEq, MO.ins.injEq, mset_mset, and_true, true_and, and_self, and_assoc, exists_eq_left', exists_eq_left, exists_and_left, exists_and_right, exists_eq', List.set_cons_zero, List.set_cons_succ, decide_eq_true_eq, sqOf, lsOf, List.length_cons, List.length_nil, sizeLine_eq, List.append_nil, List.cons_append, List.nil_append, if_true, if_false, Bool.false_eq_true, reduceCtorEq, reduceIte, Nat.reduceAdd, Nat.reduceLeDiff, mset_same, Option.bind_some, List.length_map, Prod.mk.injEq, at0, at1, at2, at3, at4, at5, at6, at7, ix30, ix31, ix32, ix20, ix21, ix10, isi_ii, isi_ib, isi_ll, isi_bb, isi_ss, isi_tt, isi_is, isi_si, Bool.not_true, Bool.not_false, dCopyK, dGet2K, dDctR, dDisp1, dFrzEK, T.cl_Task, T.n_Task_name, T.n_Task_kind_rows, T.n_Task_arrow_rows, taskD, lk_name, lk_kinds, lk_arrows, ha, putT1])
local macro_rules | `(tactic| walk_at "z2") => `(tactic| try simp only [dIfS, dTest, dOp, dVar, dC, dCB, daCons, daNil, dSet, dRet, dNext, dDrop, dAsg, dPar, dAug, dAddI, dBreak, dCont, dRetN, slot, dLen, dCmpI, dSub, dAdd, dMul, dDiv, dMod, dPow, dNeg, dUn, dIx, dInt1, dAbs, dChain, dAnd, dOr, dNot, dAndV, dOrV, dNotV, dTru, dTruB, dIf, dTup, dLst, mkL, dSlice, dSl, doNone, doSome, dSum, dAll, dAny, dList, dTuple, dMax, dMin, eq_ii, ne_ii, eq_ss, ne_ss, eq_bb, ne_bb, eq_nn, ne_nn, dIsN, dNotN, dFgt, dIsB, dNotB, gN, gT, gsNil, gsCons, gSet, dBM, dAppend, dClear, dFld, dFldS, dProp, dCall, dMeth, dMake, dMakeN, daStar, dDictP, dCallO, dFor, dLc, diR1, diR2, diR3, diL, diT, diRv, diS, diE, dFmt, dFStr, dJs, dCallN, dFrzE, frz_l, in_ss, notin_ss, drR1, drR2, dListR, dRaise, dRaise0, dTryAs, dTry, dXf, dAddO, dInO, isL, insOf, Option.some.injEq, List.cons.injEq, D.int.injEq, D.bl.injEq, D.str.injEq, D.lst.injEq, D.tup.injEq, D.ref.injEq, MO.lst.injEq, MO.ins.injEq, mset_mset, and_true, true_and, and_self, and_assoc, exists_eq_left', exists_eq_left, exists_and_left, exists_and_right, exists_eq', List.set_cons_zero, List.set_cons_succ, decide_eq_true_eq, sqOf, lsOf, List.length_cons, List.length_nil, sizeLine_eq, List.append_nil, List.cons_append, List.nil_append, if_true, if_false, Bool.false_eq_true, reduceCtorEq, reduceIte, Nat.reduceAdd, Nat.reduceLeDiff, mset_same, Option.bind_some, List.length_map, Prod.mk.injEq, at0, at1, at2, at3, at4, at5, at6, at7, ix30, ix31, ix32, ix20, ix21, ix10, isi_ii, isi_ib, isi_ll, isi_bb, isi_ss, isi_tt, isi_is, isi_si, Bool.not_true, Bool.not_false, dCopyK, dGet2K, dDctR, dDisp1, dFrzEK, mdel_mset hp])
local macro_rules | `(tactic| walk_at "z3") => `(tactic| try simp only [dIfS, dTest, dOp, dVar, dC, dCB, daCons, daNil, dSet, dRet, dNext, dDrop, dAsg, dPar, dAug, dAddI, dBreak, dCont, dRetN, slot, dLen, dCmpI, dSub, dAdd, dMul, dDiv, dMod, dPow, dNeg, dUn, dIx, dInt1, dAbs, dChain, dAnd, dOr, dNot, dAndV, dOrV, dNotV, dTru, dTruB, dIf, dTup, dLst, mkL, dSlice, dSl, doNone, doSome, dSum, dAll, dAny, dList, dTuple, dMax, dMin, eq_ii, ne_ii, eq_ss, ne_ss, eq_bb, ne_bb, eq_nn, ne_nn, dIsN, dNotN, dFgt, dIsB, dNotB, gN, gT, gsNil, gsCons, gSet, dBM, dAppend, dClear, dFld, dFldS, dProp, dCall, dMeth, dMake, dMakeN, daStar, dDictP, dCallO, dFor, dLc, diR1, diR2, diR3, diL, diT, diRv, diS, diE, dFmt, dFStr, dJs, dCallN, dFrzE, frz_l, in_ss, notin_ss, drR1, drR2, dListR, dRaise, dRaise0, dTryAs, dTry, dXf, dAddO, dInO, isL, insOf, Option.some.injEq, List.cons.injEq, D.int.injEq, D.bl.injEq, D.str.injEq, D.lst.injEq, D.tup.injEq, D.ref.injEq, MO.lst.injEq, MO.ins.injEq, mset_mset, and_true, true_and, and_self, and_assoc, exists_eq_left', exists_eq_left, exists_and_left, exists_and_right, exists_eq', List.set_cons_zero, List.set_cons_succ, decide_eq_true_eq, sqOf, lsOf, List.length_cons, List.length_nil, sizeLine_eq, List.append_nil, List.cons_append, List.nil_append, if_true, if_false, Bool.false_eq_true, reduceCtorEq, reduceIte, Nat.reduceAdd, Nat.reduceLeDiff, mset_same, Option.bind_some, List.length_map, Prod.mk.injEq, at0, at1, at2, at3, at4, at5, at6, at7, ix30, ix31, ix32, ix20, ix21, ix10, isi_ii, isi_ib, isi_ll, isi_bb, isi_ss, isi_tt, isi_is, isi_si, Bool.not_true, Bool.not_false, dCopyK, dGet2K, dDctR, dDisp1, dFrzEK, pm_a, pm_wa])
local macro_rules | `(tactic| walk_at "z4") => `(tactic| try simp only [dIfS, dTest, dOp, dVar, dC, dCB, daCons, daNil, dSet, dRet, dNext, dDrop, dAsg, dPar, dAug, dAddI, dBreak, dCont, dRetN, slot, dLen, dCmpI, dSub, dAdd, dMul, dDiv, dMod, dPow, dNeg, dUn, dIx, dInt1, dAbs, dChain, dAnd, dOr, dNot, dAndV, dOrV, dNotV, dTru, dTruB, dIf, dTup, dLst, mkL, dSlice, dSl, doNone, doSome, dSum, dAll, dAny, dList, dTuple, dMax, dMin, eq_ii, ne_ii, eq_ss, ne_ss, eq_bb, ne_bb, eq_nn, ne_nn, dIsN, dNotN, dFgt, dIsB, dNotB, gN, gT, gsNil, gsCons, gSet, dBM, dAppend, dClear, dFld, dFldS, dProp, dCall, dMeth, dMake, dMakeN, daStar, dDictP, dCallO, dFor, dLc, diR1, diR2, diR3, diL, diT, diRv, diS, diE, dFmt, dFStr, dJs, dCallN, dFrzE, frz_l, in_ss, notin_ss, drR1, drR2, dListR, dRaise, dRaise0, dTryAs, dTry, dXf, dAddO, dInO, isL, insOf, Option.some.injEq, List.cons.injEq, D.int.injEq, D.bl.injEq, D.str.injEq, D.lst.injEq, D.tup.injEq, D.ref.injEq, MO.lst.injEq, MO.ins.injEq, mset_mset, and_true, true_and, and_self, and_assoc, exists_eq_left', exists_eq_left, exists_and_left, exists_and_right, exists_eq', List.set_cons_zero, List.set_cons_succ, decide_eq_true_eq, sqOf, lsOf, List.length_cons, List.length_nil, sizeLine_eq, List.append_nil, List.cons_append, List.nil_append, if_true, if_false, Bool.false_eq_true, reduceCtorEq, reduceIte, Nat.reduceAdd, Nat.reduceLeDiff, mset_same, Option.bind_some, List.length_map, Prod.mk.injEq, at0, at1, at2, at3, at4, at5, at6, at7, ix30, ix31, ix32, ix20, ix21, ix10, isi_ii, isi_ib, isi_ll, isi_bb, isi_ss, isi_tt, isi_is, isi_si, Bool.not_true, Bool.not_false, dCopyK, dGet2K, dDctR, dDisp1, dFrzEK, dSplit, mkL])
local macro_rules | `(tactic| walk_at "z5") => `(tactic| try simp only [dIfS, dTest, dOp, dVar, dC, dCB, daCons, daNil, dSet, dRet, dNext, dDrop, dAsg, dPar, dAug, dAddI, dBreak, dCont, dRetN, slot, dLen, dCmpI, dSub, dAdd, dMul, dDiv, dMod, dPow, dNeg, dUn, dIx, dInt1, dAbs, dChain, dAnd, dOr, dNot, dAndV, dOrV, dNotV, dTru, dTruB, dIf, dTup, dLst, mkL, dSlice, dSl, doNone, doSome, dSum, dAll, dAny, dList, dTuple, dMax, dMin, eq_ii, ne_ii, eq_ss, ne_ss, eq_bb, ne_bb, eq_nn, ne_nn, dIsN, dNotN, dFgt, dIsB, dNotB, gN, gT, gsNil, gsCons, gSet, dBM, dAppend, dClear, dFld, dFldS, dProp, dCall, dMeth, dMake, dMakeN, daStar, dDictP, dCallO, dFor, dLc, diR1, diR2, diR3, diL, diT, diRv, diS, diE, dFmt, dFStr, dJs, dCallN, dFrzE, frz_l, in_ss, notin_ss, drR1, drR2, dListR, dRaise, dRaise0, dTryAs, dTry, dXf, dAddO, dInO, isL, insOf, Option.some.injEq, List.cons.injEq, D.int.injEq, D.bl.injEq, D.str.injEq, D.lst.injEq, D.tup.injEq, D.ref.injEq, MO.lst.injEq, MO.ins.injEq, mset_mset, and_true, true_and, and_self, and_assoc, exists_eq_left', exists_eq_left, exists_and_left, exists_and_right, exists_eq', List.set_cons_zero, List.set_cons_succ, decide_eq_true_eq, sqOf, lsOf, List.length_cons, List.length_nil, sizeLine_eq, List.append_nil, List.cons_append, List.nil_append, if_true, if_false, Bool.false_eq_true, reduceCtorEq, reduceIte, Nat.reduceAdd, Nat.reduceLeDiff, mset_same, Option.bind_some, List.length_map, Prod.mk.injEq, at0, at1, at2, at3, at4, at5, at6, at7, ix30, ix31, ix32, ix20, ix21, ix10, isi_ii, isi_ib, isi_ll, isi_bb, isi_ss, isi_tt, isi_is, isi_si, Bool.not_true, Bool.not_false, dCopyK, dGet2K, dDctR, dDisp1, dFrzEK, eb, e0])
local macro_rules | `(tactic| walk_at "z6") => `(tactic| try simp only [dIfS, dTest, dOp, dVar, dC, dCB, daCons, daNil, dSet, dRet, dNext, dDrop, dAsg, dPar, dAug, dAddI, dBreak, dCont, dRetN, slot, dLen, dCmpI, dSub, dAdd, dMul, dDiv, dMod, dPow, dNeg, dUn, dIx, dInt1, dAbs, dChain, dAnd, dOr, dNot, dAndV, dOrV, dNotV, dTru, dTruB, dIf, dTup, dLst, mkL, dSlice, dSl, doNone, doSome, dSum, dAll, dAny, dList, dTuple, dMax, dMin, eq_ii, ne_ii, eq_ss, ne_ss, eq_bb, ne_bb, eq_nn, ne_nn, dIsN, dNotN, dFgt, dIsB, dNotB, gN, gT, gsNil, gsCons, gSet, dBM, dAppend, dClear, dFld, dFldS, dProp, dCall, dMeth, dMake, dMakeN, daStar, dDictP, dCallO, dFor, dLc, diR1, diR2, diR3, diL, diT, diRv, diS, diE, dFmt, dFStr, dJs, dCallN, dFrzE, frz_l, in_ss, notin_ss, drR1, drR2, dListR, dRaise, dRaise0, dTryAs, dTry, dXf, dAddO, dInO, isL, insOf, Option.some.injEq, List.cons.injEq, D.int.injEq, D.bl.injEq, D.str.injEq, D.lst.injEq, D.tup.injEq, D.ref.injEq, MO.lst.injEq, MO.ins.injEq, mset_mset, and_true, true_and, and_self, and_assoc, exists_eq_left', exists_eq_left, exists_and_left, exists_and_right, exists_eq', List.set_cons_zero, List.set_cons_succ, decide_eq_true_eq, sqOf, lsOf, List.length_cons, List.length_nil, sizeLine_eq, List.append_nil, List.cons_append, List.nil_append, if_true, if_false, Bool.false_eq_true, reduceCtorEq, reduceIte, Nat.reduceAdd, Nat.reduceLeDiff, mset_same, Option.bind_some, List.length_map, Prod.mk.injEq, at0, at1, at2, at3, at4, at5, at6, at7, ix30, ix31, ix32, ix20, ix21, ix10, isi_ii, isi_ib, isi_ll, isi_bb, isi_ss, isi_tt, isi_is, isi_si, Bool.not_true, Bool.not_false, dCopyK, dGet2K, dDctR, dDisp1, dFrzEK, pm_a])
local macro_rules | `(tactic| walk_at "z7") => `(tactic| try simp only [dIfS, dTest, dOp, dVar, dC, dCB, daCons, daNil, dSet, dRet, dNext, dDrop, dAsg, dPar, dAug, dAddI, dBreak, dCont, dRetN, slot, dLen, dCmpI, dSub, dAdd, dMul, dDiv, dMod, dPow, dNeg, dUn, dIx, dInt1, dAbs, dChain, dAnd, dOr, dNot, dAndV, dOrV, dNotV, dTru, dTruB, dIf, dTup, dLst, mkL, dSlice, dSl, doNone, doSome, dSum, dAll, dAny, dList, dTuple, dMax, dMin, eq_ii, ne_ii, eq_ss, ne_ss, eq_bb, ne_bb, eq_nn, ne_nn, dIsN, dNotN, dFgt, dIsB, dNotB, gN, gT, gsNil, gsCons, gSet, dBM, dAppend, dClear, dFld, dFldS, dProp, dCall, dMeth, dMake, dMakeN, daStar, dDictP, dCallO, dFor, dLc, diR1, diR2, diR3, diL, diT, diRv, diS, diE, dFmt, dFStr, dJs, dCallN, dFrzE, frz_l, in_ss, notin_ss, drR1, drR2, dListR, dRaise, dRaise0, dTryAs, dTry, dXf, dAddO, dInO, isL, insOf, Option.some.injEq, List.cons.injEq, D.int.injEq, D.bl.injEq, D.str.injEq, D.lst.injEq, D.tup.injEq, D.ref.injEq, MO.lst.injEq, MO.ins.injEq, mset_mset, and_true, true_and, and_self, and_assoc, exists_eq_left', exists_eq_left, exists_and_left, exists_and_right, exists_eq', List.set_cons_zero, List.set_cons_succ, decide_eq_true_eq, sqOf, lsOf, List.length_cons, List.length_nil, sizeLine_eq, List.append_nil, List.cons_append, List.nil_append, if_true, if_false, Bool.false_eq_true, reduceCtorEq, reduceIte, Nat.reduceAdd, Nat.reduceLeDiff, mset_same, Option.bind_some, List.length_map, Prod.mk.injEq, at0, at1, at2, at3, at4, at5, at6, at7, ix30, ix31, ix32, ix20, ix21, ix10, isi_ii, isi_ib, isi_ll, isi_bb, isi_ss, isi_tt, isi_is, isi_si, Bool.not_true, Bool.not_false, dCopyK, dGet2K, dDctR, dDisp1, dFrzEK, dWk])
set_option hygiene true
theorem pure_is_name {K : Fr0} {mg : Str → Option Value} (T : Txt K mg) (ds : List D) (m : M) (Q : D → M → Prop) (E : XD → M → Prop) (h : sp_is_name K ds m Q E) : t_is_name K (fun x _ m => E x m) { nx := fun _ m => Q .non m, rt := Q } (startD nm_is_name ds) m := by
  obtain ⟨z, rfl, hz, q⟩ := h
  show t_is_name K _ _ [some (.str z), none] m
  unfold t_is_name
  walk_at "zn"
  refine ⟨by omega, ?_⟩
  have el : z.length = z.cps.size := rfl
  rw [el] at *
  unfold nameB at q
  by_cases h1 : 1 ≤ z.cps.size
  · rw [if_pos (by omega)]
    by_cases h2 : z.cps.size ≤ 12
    · rw [if_neg (by simp; omega)]
      refine ⟨by omega, ?_⟩
      obtain ⟨c, rest, hl⟩ : ∃ c rest, z.cps.toList = c :: rest := by
        cases e : z.cps.toList with
        | nil =>
          have : z.cps.size = 0 := by rw [← Array.length_toList, e]; rfl
          omega
        | cons c rest => exact ⟨c, rest, rfl⟩
      refine ⟨c, by rw [hl]; exact atI_nat (j := 0) rfl, ?_⟩
      rw [hl] at q
      dsimp only at q
      show (if (!inS LETTERS ⟨#[c]⟩) = true then _ else _)
      cases hc : inS LETTERS ⟨#[c]⟩ with
      | false =>
        rw [if_pos (by simp)]
        simpa [hc] using q
      | true =>
        rw [if_neg (by simp)]
        refine lc_pure (fun d => match d with | .str i => .bl (inS LETTERS i || inS SIGNS i) | _ => .non) (by rw [chars_len, sizeLine_eq]; simp; omega) (fun x hx => ?_) ?_
        · obtain ⟨c2, hc2, rfl⟩ := List.mem_map.mp hx
          refine ⟨_, rfl, fun Q' q' => ?_⟩
          simp only [wipeD]
          walk_at "zs"
          show (if inS LETTERS ⟨#[c2]⟩ = true then Q' (.bl true) m else Q' (.bl (inS SIGNS ⟨#[c2]⟩)) m)
          cases hc3 : inS LETTERS ⟨#[c2]⟩ with
          | true => rw [if_pos rfl]; simpa [hc3] using q'
          | false => rw [if_neg (by simp)]; simpa [hc3] using q'
        · refine ⟨(c :: rest).map fun c => inS LETTERS ⟨#[c]⟩ || inS SIGNS ⟨#[c]⟩, ?_, ?_⟩
          · unfold chars
            rw [hl, List.nil_append, List.map_map, List.map_map]
            rfl
          · rw [List.all_map]
            rw [hc, decide_eq_true ⟨h1, h2⟩, Bool.true_and, Bool.true_and] at q
            exact q
    · rw [if_pos (by simp; omega)]
      rw [decide_eq_false (by omega), Bool.false_and, Bool.false_and] at q
      exact q
  · rw [if_neg (by omega)]
    rw [decide_eq_false (by omega), Bool.false_and, Bool.false_and] at q
    exact q
theorem pm_a {a b : Addr} {s : PS} {m : M} : pm a b s m a = some (.lst [.ref b, .int s.v, .int s.k]) := mset_same
theorem pm_b {a b : Addr} {s : PS} {m : M} (h : a ≠ b) : pm a b s m b = some (.lst (s.ns.map D.int)) := by
  unfold pm
  rw [mset_ne (fun e => h e.symm), mset_same]
theorem pm_ne {a b c : Addr} {s : PS} {m : M} (h : c ≠ a) (h2 : c ≠ b) : pm a b s m c = m c := by
  unfold pm
  rw [mset_ne h, mset_ne h2]
theorem pm_free {a b c : Addr} {s : PS} {m : M} (h : pm a b s m c = none) : c ≠ a ∧ c ≠ b ∧ m c = none := by
  have h1 : c ≠ a := fun e => by rw [e, pm_a] at h; cases h
  have h2 : c ≠ b := fun e => by
    unfold pm at h
    rw [mset_ne h1, e, mset_same] at h
    cases h
  exact ⟨h1, h2, by rw [pm_ne h1 h2] at h; exact h⟩
theorem pm_mset {a b c : Addr} {s : PS} {m : M} {o : MO} (h : c ≠ a) (h2 : c ≠ b) : mset (pm a b s m) c o = pm a b s (mset m c o) := by
  unfold pm
  rw [mset_comm (fun e => h e.symm), mset_comm (fun e => h2 e.symm)]
theorem pm_mdel {a b c : Addr} {s : PS} {m : M} (h : c ≠ a) (h2 : c ≠ b) : mdel (pm a b s m) c = pm a b s (mdel m c) := by
  unfold pm
  rw [mdel_mset_ne h, mdel_mset_ne h2]
theorem pm_wb {a b : Addr} {s : PS} {m : M} {ns : List Int} (h : a ≠ b) : mset (pm a b s m) b (.lst (ns.map D.int)) = pm a b ⟨ns, s.v, s.k⟩ m := by
  unfold pm
  rw [mset_comm h, mset_mset]
theorem pm_wa {a b : Addr} {s : PS} {m : M} {v k : Int} : mset (pm a b s m) a (.lst [.ref b, .int v, .int k]) = pm a b ⟨s.ns, v, k⟩ m := by
  unfold pm
  rw [mset_mset]
theorem pure_law_pool {K : Fr0} {mg : Str → Option Value} (T : Txt K mg) (ds : List D) (m : M) (Q : D → M → Prop) (E : XD → M → Prop) (h : sp_law_pool K ds m Q E) : t_law_pool K (fun x _ m => E x m) { nx := fun _ m => Q .non m, rt := Q } (startD nm_law_pool ds) m := by
  obtain ⟨ns, rfl, hl, q⟩ := h
  show t_law_pool K _ _ [some (.rdl (ns.map D.int)), none, none] m
  unfold t_law_pool
  walk_at "zn"
  walk_at "zn"
  obtain ⟨P, hP⟩ : ∃ P : Nat → DSt → M → Prop, ∀ j r m', P j r m' ↔ m' = m ∧ ∃ v o2, 0 ≤ v ∧ v < 2147483647 ∧ r = [some (.rdl (ns.map D.int)), some (.int v), o2] := ⟨_, fun _ _ _ => Iff.rfl⟩
  refine ⟨P, (hP _ _ _).mpr ⟨rfl, 1, _, by omega, by omega, rfl⟩, ?_, ?_⟩
  · intro j d r m' hd hp
    obtain ⟨rfl, v, o2, v0, v1, rfl⟩ := (hP _ _ _).mp hp
    rw [List.getElem?_map] at hd
    cases e : ns[j]? with
    | none => rw [e] at hd; cases hd
    | some c =>
      rw [e] at hd
      cases hd
      walk_at "zs"
      exact ⟨mul_small (by omega), by omega, (hP _ _ _).mpr ⟨rfl, _, _, Int.emod_nonneg _ (by omega), Int.lt_of_lt_of_le (Int.emod_lt_of_pos _ (by omega)) (by omega), rfl⟩⟩
  intro r m' hp
  obtain ⟨rfl, v, o2, v0, v1, rfl⟩ := (hP _ _ _).mp hp
  walk_at "zs"
  refine lc_filter (fun d => match d with | .int c => decide ((10 : Int) ^ Int.toNat 18 ≤ c) | _ => false) (fun d => d) (by rw [sizeLine_eq]; simp; omega) (fun x hx => ?_) ?_
  · obtain ⟨c, hc, rfl⟩ := List.mem_map.mp hx
    refine ⟨_, rfl, fun Q' q' => ?_, fun _ Q' q' => ?_⟩
    · simp only [wipeD]
      walk_at "zs"
      exact ⟨⟨by omega, by omega, by decide⟩, q'⟩
    · simp only [wipeD]
      walk_at "zs"
      exact q'
  intro b hb
  walk_at "zs"
  intro a ha
  have hab : a ≠ b := fun e => by rw [e, mset_same] at ha; cases ha
  rw [mset_ne hab] at ha
  have e := q a b ⟨ns.filter fun c => decide ((10 : Int) ^ Int.toNat 18 ≤ c), v, 0⟩ ha hb ⟨hab, v0, v1, by show (0 : Int) ≤ 0; omega, by show (0 : Int) ≤ 0; omega⟩
  have e2 : List.map (fun d => d) (List.filter (fun d => match d with | .int c => decide ((10 : Int) ^ Int.toNat 18 ≤ c) | _ => false) (ns.map D.int)) = (ns.filter fun c => decide ((10 : Int) ^ Int.toNat 18 ≤ c)).map D.int := by
    rw [List.map_id'', List.filter_map]
    · rfl
    · intro x
      rfl
  rw [e2]
  exact e
theorem ixN_zero {n : Nat} : ixN (n + 1) 0 = some 0 := by
  unfold ixN
  simp
theorem seqIndex_zero {n : Nat} : seqIndex? 0 (n + 1) = some 0 := by
  unfold seqIndex?
  simp
theorem pure_law_draw {K : Fr0} {mg : Str → Option Value} (T : Txt K mg) (ds : List D) (m : M) (Q : D → M → Prop) (E : XD → M → Prop) (h : sp_law_draw K ds m Q E) : t_law_draw K (fun x _ m => E x m) { nx := fun _ m => Q .non m, rt := Q } (startD nm_law_draw ds) m := by
  obtain ⟨a, b, s, n, lim, m0, rfl, rfl, hp, hn, ⟨l1, l2⟩, q⟩ := h
  have hv0 := hp.v0
  have hv1 := hp.v1
  have hk0 := hp.k0
  have hkn := hp.kn
  show t_law_draw K _ _ [some (.ref a), some (.int lim), none, none, none, none] _
  unfold t_law_draw
  try simp only [dSeq]
  walk_at "z6"
  simp only [dSeq]
  walk_at "zs"
  refine dNe_ints (ns := s.ns) (ms := []) (lsOf_ref (pm_b hp.ne)) rfl ?_
  cases hns : s.ns with
  | nil =>
    refine ⟨_, rfl, ?_⟩
    rw [if_neg (by simp)]
    try simp only [dSeq]
    walk_at "z3"
    try simp only [dSeq]
    walk_at "z3"
    generalize hs1 : (⟨s.ns, s.v, s.k + 1⟩ : PS) = s1
    have p1 : Pl a b s1 (n + 1) := by subst hs1; exact ⟨hp.ne, hv0, hv1, by show 0 ≤ s.k + 1; omega, by show s.k + 1 ≤ n + 1; omega⟩
    have k0 := p1.k0
    have k1 := p1.kn
    have v0 := p1.v0
    have v1 := p1.v1
    refine ⟨mul_small (by omega), ⟨by omega, by omega, by omega⟩, by omega, ?_⟩
    have z0 : 0 ≤ (s1.v + 7919 * s1.k) ^ Int.toNat 5 % 2147483647 := Int.emod_nonneg _ (by omega)
    have z1 : (s1.v + 7919 * s1.k) ^ Int.toNat 5 % 2147483647 < 2147483647 := Int.emod_lt_of_pos _ (by omega)
    generalize (s1.v + 7919 * s1.k) ^ Int.toNat 5 % 2147483647 = z at *
    try simp only [dSeq]
    walk_at "z6"
    refine ⟨mul_small (by omega), by omega, ?_⟩
    have y0 : 0 ≤ (z * 48271 + s1.v) % 2147483629 := Int.emod_nonneg _ (by omega)
    generalize (z * 48271 + s1.v) % 2147483629 = y at *
    walk_at "zs"
    exact ⟨div_ok (by omega) (by omega), by omega, q _ _ (Int.emod_nonneg _ (by omega)) (Int.emod_lt_of_pos _ (by omega)) p1⟩
  | cons c rest =>
    have eb := pm_b (s := s) (m := m0) hp.ne
    rw [hns, List.map_cons] at eb
    refine ⟨_, rfl, ?_⟩
    rw [if_pos (by simp)]
    have e0 : ∀ x : D, atI (x :: rest.map D.int) 0 = some x := fun x => atI_nat (j := 0) rfl
    try simp only [dSeq]
    walk_at "z5"
    refine ⟨by omega, ?_⟩
    try simp only [dSeq]
    walk_at "z5"
    refine ⟨wide_div (by omega) l2 (by decide) (by decide), 0, ixN_zero, ?_⟩
    have ew : mset (pm a b s m0) b (.lst (D.int (c / lim) :: rest.map D.int)) = pm a b ⟨c / lim :: rest, s.v, s.k⟩ m0 := by rw [← List.map_cons]; exact pm_wb hp.ne
    have eb2 := pm_b (s := ⟨c / lim :: rest, s.v, s.k⟩) (m := m0) hp.ne
    rw [List.map_cons] at eb2
    have r0 : 0 ≤ c % lim := Int.emod_nonneg _ (by omega)
    have r1 : c % lim < lim := Int.emod_lt_of_pos _ (by omega)
    try simp only [dSeq]
    try simp only [dIfS, dTest, dOp, dVar, dC, dCB, daCons, daNil, dSet, dRet, dNext, dDrop, dAsg, dPar, dAug, dAddI, dBreak, dCont, dRetN, slot, dLen, dCmpI, dSub, dAdd, dMul, dDiv, dMod, dPow, dNeg, dUn, dIx, dInt1, dAbs, dChain, dAnd, dOr, dNot, dAndV, dOrV, dNotV, dTru, dTruB, dIf, dTup, dLst, mkL, dSlice, dSl, doNone, doSome, dSum, dAll, dAny, dList, dTuple, dMax, dMin, eq_ii, ne_ii, eq_ss, ne_ss, eq_bb, ne_bb, eq_nn, ne_nn, dIsN, dNotN, dFgt, dIsB, dNotB, gN, gT, gsNil, gsCons, gSet, dBM, dAppend, dClear, dFld, dFldS, dProp, dCall, dMeth, dMake, dMakeN, daStar, dDictP, dCallO, dFor, dLc, diR1, diR2, diR3, diL, diT, diRv, diS, diE, dFmt, dFStr, dJs, dCallN, dFrzE, frz_l, in_ss, notin_ss, drR1, drR2, dListR, dRaise, dRaise0, dTryAs, dTry, dXf, dAddO, dInO, isL, insOf, Option.some.injEq, List.cons.injEq, D.int.injEq, D.bl.injEq, D.str.injEq, D.lst.injEq, D.tup.injEq, D.ref.injEq, MO.lst.injEq, MO.ins.injEq, mset_mset, and_true, true_and, and_self, and_assoc, exists_eq_left', exists_eq_left, exists_and_left, exists_and_right, exists_eq', List.set_cons_zero, List.set_cons_succ, decide_eq_true_eq, sqOf, lsOf, List.length_cons, List.length_nil, sizeLine_eq, List.append_nil, List.cons_append, List.nil_append, if_true, if_false, Bool.false_eq_true, reduceCtorEq, reduceIte, Nat.reduceAdd, Nat.reduceLeDiff, mset_same, Option.bind_some, List.length_map, Prod.mk.injEq, at0, at1, at2, at3, at4, at5, at6, at7, ix30, ix31, ix32, ix20, ix21, ix10, isi_ii, isi_ib, isi_ll, isi_bb, isi_ss, isi_tt, isi_is, isi_si, Bool.not_true, Bool.not_false, dCopyK, dGet2K, dDctR, dDisp1, dFrzEK, ew, eb2, e0]
    by_cases hz : c / lim = 0
    · rw [if_pos hz]
      try simp only [dIfS, dTest, dOp, dVar, dC, dCB, daCons, daNil, dSet, dRet, dNext, dDrop, dAsg, dPar, dAug, dAddI, dBreak, dCont, dRetN, slot, dLen, dCmpI, dSub, dAdd, dMul, dDiv, dMod, dPow, dNeg, dUn, dIx, dInt1, dAbs, dChain, dAnd, dOr, dNot, dAndV, dOrV, dNotV, dTru, dTruB, dIf, dTup, dLst, mkL, dSlice, dSl, doNone, doSome, dSum, dAll, dAny, dList, dTuple, dMax, dMin, eq_ii, ne_ii, eq_ss, ne_ss, eq_bb, ne_bb, eq_nn, ne_nn, dIsN, dNotN, dFgt, dIsB, dNotB, gN, gT, gsNil, gsCons, gSet, dBM, dAppend, dClear, dFld, dFldS, dProp, dCall, dMeth, dMake, dMakeN, daStar, dDictP, dCallO, dFor, dLc, diR1, diR2, diR3, diL, diT, diRv, diS, diE, dFmt, dFStr, dJs, dCallN, dFrzE, frz_l, in_ss, notin_ss, drR1, drR2, dListR, dRaise, dRaise0, dTryAs, dTry, dXf, dAddO, dInO, isL, insOf, Option.some.injEq, List.cons.injEq, D.int.injEq, D.bl.injEq, D.str.injEq, D.lst.injEq, D.tup.injEq, D.ref.injEq, MO.lst.injEq, MO.ins.injEq, mset_mset, and_true, true_and, and_self, and_assoc, exists_eq_left', exists_eq_left, exists_and_left, exists_and_right, exists_eq', List.set_cons_zero, List.set_cons_succ, decide_eq_true_eq, sqOf, lsOf, List.length_cons, List.length_nil, sizeLine_eq, List.append_nil, List.cons_append, List.nil_append, if_true, if_false, Bool.false_eq_true, reduceCtorEq, reduceIte, Nat.reduceAdd, Nat.reduceLeDiff, mset_same, Option.bind_some, List.length_map, Prod.mk.injEq, at0, at1, at2, at3, at4, at5, at6, at7, ix30, ix31, ix32, ix20, ix21, ix10, isi_ii, isi_ib, isi_ll, isi_bb, isi_ss, isi_tt, isi_is, isi_si, Bool.not_true, Bool.not_false, dCopyK, dGet2K, dDctR, dDisp1, dFrzEK, eb2, dPopAt]
      refine ⟨by omega, by omega, 0, seqIndex_zero, ⟨_, rfl⟩, ?_⟩
      rw [show (D.int (c / lim) :: rest.map D.int).eraseIdx 0 = rest.map D.int from rfl, pm_wb hp.ne]
      exact q _ _ r0 r1 ⟨hp.ne, hv0, hv1, hk0, by show s.k ≤ n + 1; omega⟩
    · rw [if_neg hz]
      walk_at "zs"
      exact q _ _ r0 r1 ⟨hp.ne, hv0, hv1, hk0, by show s.k ≤ n + 1; omega⟩
theorem draw_p {K : Fr0} {a b : Addr} {s : PS} {n lim : Int} {m0 : M} {Q : D → M → Prop} {E : XD → M → Prop} (hp : Pl a b s n) (hn : n ≤ 1000000000000) (l1 : 1 ≤ lim) (l2 : lim.natAbs < 2 ^ 200) (h : ∀ r s', 0 ≤ r → r < lim → Pl a b s' (n + 1) → Q (.int r) (pm a b s' m0)) : sp_law_draw K [.ref a, .int lim] (pm a b s m0) Q E :=
  ⟨a, b, s, n, lim, m0, rfl, rfl, hp, hn, ⟨l1, l2⟩, h⟩
theorem num_p {K : Fr0} {a b : Addr} {s : PS} {n lim : Int} {m0 : M} {Q : D → M → Prop} {E : XD → M → Prop} (hp : Pl a b s n) (hn : n ≤ 100000000000) (l1 : 1 ≤ lim) (l2 : lim ≤ 1000000) (h : ∀ r s', 1 ≤ r → r ≤ lim → Pl a b s' (n + 2) → Q (.int r) (pm a b s' m0)) : sp_law_number K [.ref a, .int lim] (pm a b s m0) Q E :=
  ⟨_, a, b, s, n, lim, m0, rfl, rfl, rfl, hp, hn, ⟨l1, l2⟩, h⟩
theorem pure_law_number {K : Fr0} {mg : Str → Option Value} (T : Txt K mg) (ds : List D) (m : M) (Q : D → M → Prop) (E : XD → M → Prop) (h : sp_law_number K ds m Q E) : t_law_number K (fun x _ m => E x m) { nx := fun _ m => Q .non m, rt := Q } (startD nm_law_number ds) m := by
  obtain ⟨x, a, b, s, n, most, m0, rfl, rfl, rfl, hp, hn, ⟨h1, h2⟩, q⟩ := h
  show t_law_number K _ _ [some (.ref a), some (.int most), none] _
  unfold t_law_number
  walk_at "zn"
  refine draw_p hp (by omega) (by omega) (by omega) (fun r s1 r0 r1 p1 => ?_)
  walk_at "zn"
  by_cases e0 : r = 0
  · rw [if_pos e0]
    walk_at "zs"
    exact q 1 s1 (by omega) (by omega) (p1.up (by omega))
  rw [if_neg e0]
  walk_at "zn"
  by_cases e1 : r = 1
  · rw [if_pos e1]
    walk_at "zs"
    exact q most s1 (by omega) (by omega) (p1.up (by omega))
  rw [if_neg e1]
  walk_at "zs"
  refine draw_p p1 (by omega) (by omega) (by omega) (fun r2 s2 r20 r21 p2 => ?_)
  walk_at "zs"
  exact q (1 + r2) s2 (by omega) (by omega) (p2.up (by omega))
def chL (c : Nat) : Bool := inS LETTERS ⟨#[c]⟩
def chOk (c : Nat) : Bool := inS LETTERS ⟨#[c]⟩ || inS SIGNS ⟨#[c]⟩
structure NmL (cs : List Nat) : Prop where
  le : cs.length ≤ 12
  hd : ∃ c r, cs = c :: r ∧ chL c = true
  all : ∀ c ∈ cs, chOk c = true
theorem nameB_of {z : Str} (h : NmL z.cps.toList) : nameB z = true := by
  obtain ⟨c, r, e, hc⟩ := h.hd
  unfold nameB
  have hl : z.cps.size = z.cps.toList.length := (Array.length_toList).symm
  have h1 := h.le
  have h2 : z.cps.toList.length = r.length + 1 := by rw [e]; rfl
  have h3 : (z.cps.toList.all fun c => inS LETTERS ⟨#[c]⟩ || inS SIGNS ⟨#[c]⟩) = true := List.all_eq_true.mpr h.all
  rw [h3, decide_eq_true ⟨by omega, by omega⟩, e]
  show (true && chL c && true) = true
  rw [hc]
  rfl
theorem of_nameB {z : Str} (h : nameB z = true) : NmL z.cps.toList := by
  unfold nameB at h
  rw [Bool.and_eq_true, Bool.and_eq_true] at h
  obtain ⟨⟨h1, h2⟩, h3⟩ := h
  have h1 := of_decide_eq_true h1
  refine ⟨by rw [Array.length_toList]; exact h1.2, ?_, List.all_eq_true.mp h3⟩
  cases e : z.cps.toList with
  | nil => rw [e] at h2; cases h2
  | cons c r => rw [e] at h2; exact ⟨c, r, rfl, h2⟩
theorem cps_app (x y : Str) : (x ++ y).cps.toList = x.cps.toList ++ y.cps.toList := by
  show (x.cps ++ y.cps).toList = _
  simp
theorem cps_cut (z : Str) (lo hi : Option Int) : (cutS z lo hi).cps.toList = (z.cps.toList.drop (HT.sIx z.length 0 lo)).take (HT.sIx z.length z.length hi - HT.sIx z.length 0 lo) := rfl
theorem str_ext {x y : Str} (h : x.cps.toList = y.cps.toList) : x = y := by
  cases x with | mk a => cases y with | mk b =>
  have : a = b := Array.toList_inj.mp h
  rw [this]
theorem cps_join : ∀ ys : List Str, (PySem.Txt.join ("" : Str) ys).cps.toList = (ys.map fun y => y.cps.toList).flatten := by
  intro ys
  rw [TL.join_eq]
  have e : ("" : Str) = ⟨#[]⟩ := by decide +kernel
  rw [e]
  induction ys with
  | nil => rfl
  | cons y ys ih =>
    rw [PyProof.Rows.join_nil_cons, cps_app, ih]
    rfl
def SIG : Str := "abcdefghijklmnopqrstuvwxyz0123456789_"
theorem sig_len : SIG.cps.toList.length = 37 := by decide +kernel
theorem sig_ok : ∀ i : Nat, i < 37 → chOk (SIG.cps.toList.getD i 0) = true := by decide +kernel
theorem sig_l : ∀ i : Nat, i < 26 → chL (SIG.cps.toList.getD i 0) = true := by decide +kernel
theorem sig_at {i : Int} (h0 : 0 ≤ i) (h1 : i < 37) : ∃ c, atI SIG.cps.toList i = some c ∧ chOk c = true ∧ (i < 26 → chL c = true) := by
  obtain ⟨k, rfl⟩ : ∃ k : Nat, i = k := ⟨i.toNat, by omega⟩
  have hk : k < SIG.cps.toList.length := by rw [sig_len]; omega
  refine ⟨SIG.cps.toList.getD k 0, atI_nat ?_, sig_ok k (by omega), fun h => sig_l k (by omega)⟩
  rw [List.getD_eq_getElem?_getD, List.getElem?_eq_getElem hk]
  rfl
theorem lc_steps {c : CT} {vs : List Nat} {te : DTE} {r : DSt} (N : Nat) (hN : N ≤ sizeLine) (P : List D → M → Prop) : ∀ {xs acc : List D} {m : M} {Q : List D → M → Prop}, acc.length + xs.length = N → P acc m → (∀ x ∈ xs, ∀ acc m, acc.length < N → P acc m → ∃ r2, ctD c x (wipeD r vs) = some r2 ∧ ∀ Q' : D → M → Prop, (∀ y m2, P (acc ++ [y]) m2 → Q' y m2) → te r2 m Q') →
    (∀ acc' m', acc'.length = N → P acc' m' → Q acc' m') → dLcL c vs dYes te xs acc r m Q
  | [], acc, m, Q, hz, p, _, q => q acc m (by simpa using hz) p
  | x :: xs, acc, m, Q, hz, p, h, q => by
    rw [List.length_cons] at hz
    obtain ⟨r2, e, t⟩ := h x List.mem_cons_self acc m (by omega) p
    refine ⟨r2, e, ?_⟩
    simp only [dYes, if_true]
    refine t _ (fun y m2 p2 => ⟨by omega, ?_⟩)
    exact lc_steps N hN P (by rw [List.length_append]; simp; omega) p2 (fun y hy => h y (List.mem_cons_of_mem _ hy)) q
theorem join_chars : ∀ cs : List Nat, (PySem.Txt.join ("" : Str) (cs.map fun c => (⟨#[c]⟩ : Str))).cps.toList = cs := by
  intro cs
  rw [cps_join, List.map_map]
  induction cs with
  | nil => rfl
  | cons x xs ih =>
    rw [List.map_cons, List.flatten_cons, ih]
    rfl
theorem sq_ls {m : M} {x : D} {xs : List D} (h : lsOf m x = some xs) : sqOf m x = some xs := by
  cases x <;> first | exact h | cases h
theorem php : ∀ (l zs : List Str), l.Nodup → (∀ x ∈ l, x ∈ zs) → l.length ≤ zs.length
  | [], _, _, _ => Nat.zero_le _
  | x :: l, zs, nd, h => by
    have hx := h x List.mem_cons_self
    obtain ⟨n1, n2⟩ := List.nodup_cons.mp nd
    have ih := php l (zs.erase x) n2 (fun y hy => (List.mem_erase_of_ne (fun e => n1 (by rw [← e]; exact hy))).mpr (h y (List.mem_cons_of_mem _ hy)))
    rw [List.length_erase_of_mem hx] at ih
    have : 0 < zs.length := List.length_pos_of_mem hx
    rw [List.length_cons]
    omega
def cand (z : Str) (c : Nat) : Str := cutS z none (some 11) ++ ⟨#[c]⟩
theorem cand_cps (z : Str) (c : Nat) : (cand z c).cps.toList = z.cps.toList.take 11 ++ [c] := by
  unfold cand
  rw [cps_app, cps_cut, HT.sIx_none, show (some (11 : Int)) = some ((11 : Nat) : Int) from rfl, HT.sIx_nat]
  show List.take _ (List.drop 0 _) ++ [c] = _
  rw [List.drop_zero, Nat.sub_zero]
  congr 1
  show List.take (min 11 z.cps.size) z.cps.toList = _
  rw [← Array.length_toList, List.take_eq_take_iff]
  simp
theorem take_nm {cs : List Nat} {k : Nat} (h : NmL cs) (hk : 1 ≤ k) : ∃ c r, cs.take k = c :: r ∧ chL c = true := by
  obtain ⟨c, r, rfl, hc⟩ := h.hd
  cases k with
  | zero => omega
  | succ k => exact ⟨c, r.take k, rfl, hc⟩
theorem cand_ok {z : Str} {c : Nat} (h : nameB z = true) (hc : chOk c = true) : nameB (cand z c) = true := by
  have n := of_nameB h
  refine nameB_of ⟨?_, ?_, ?_⟩
  · rw [cand_cps, List.length_append, List.length_take]
    simp
    omega
  · rw [cand_cps]
    obtain ⟨d, r, e, hd⟩ := take_nm n (show 1 ≤ 11 by omega)
    exact ⟨d, r ++ [c], by rw [e]; rfl, hd⟩
  · rw [cand_cps]
    intro y hy
    rcases List.mem_append.mp hy with hy | hy
    · exact n.all y (List.mem_of_mem_take hy)
    · rw [List.mem_singleton.mp hy]; exact hc
theorem cand_inj {z : Str} {c d : Nat} (h : cand z c = cand z d) : c = d := by
  have e := congrArg (fun s : Str => s.cps.toList) h
  simp only [cand_cps] at e
  have := List.append_cancel_left e
  simpa using this
theorem digs : (("01234" : Str).cps.toList) = [48, 49, 50, 51, 52] := by decide +kernel
theorem dig_ok : ∀ c ∈ [48, 49, 50, 51, 52], chOk c = true := by decide +kernel
theorem cand_some {z : Str} {zs : List Str} (h : zs.length ≤ 4) : ∃ c r, ([48, 49, 50, 51, 52].filter fun c => decide (cand z c ∉ zs)) = c :: r ∧ c ∈ [48, 49, 50, 51, 52] ∧ cand z c ∉ zs := by
  cases e : ([48, 49, 50, 51, 52].filter fun c => decide (cand z c ∉ zs)) with
  | nil =>
    exfalso
    have hall : ∀ c ∈ [48, 49, 50, 51, 52], cand z c ∈ zs := fun c hc => by
      have := List.filter_eq_nil_iff.mp e c hc
      simpa using this
    have := php ([48, 49, 50, 51, 52].map (cand z)) zs (by
      have nd : ([48, 49, 50, 51, 52] : List Nat).Nodup := by decide
      exact List.Pairwise.map _ (fun a b hab e => hab (cand_inj e)) nd) (fun x hx => by
      obtain ⟨c, hc, rfl⟩ := List.mem_map.mp hx
      exact hall c hc)
    simp at this
    omega
  | cons c r =>
    have hm : c ∈ ([48, 49, 50, 51, 52].filter fun c => decide (cand z c ∉ zs)) := by rw [e]; exact List.mem_cons_self
    rw [List.mem_filter] at hm
    exact ⟨c, r, rfl, hm.1, by simpa using hm.2⟩
theorem notin_strs {x : Str} {zs : List Str} {m : M} {d : D} {Q : D → M → Prop} (hd : sqOf m d = some (zs.map D.str)) (q : Q (.bl (!decide (x ∈ zs))) m) : dIn true (.str x) d m Q := by
  cases d with
  | str j => cases hd
  | _ => exact ⟨_, hd, rfl, flat_strs zs, by rw [inD_strs]; exact q⟩
theorem nm_len {z : Str} (h : nameB z = true) : z.length ≤ 12 := by
  have := (of_nameB h).le
  rw [Array.length_toList] at this
  exact this
theorem ls_vD {m : M} {x : D} {xs : List D} (h : vD m x = .lst xs) : lsOf m x = some xs := by
  cases x with
  | lst ys => cases h; rfl
  | ref a =>
    dsimp only [vD] at h
    cases q : m a with
    | none => rw [q] at h; cases h
    | some o =>
      rw [q] at h
      cases o with
      | lst ys => cases h; exact lsOf_ref q
      | _ => cases h
  | _ => cases h
theorem ch_lt {c : Nat} (h : chOk c = true) : c < 0x110000 := by
  unfold chOk inS at h
  rw [PySem.StrLaws.found_one, PySem.StrLaws.found_one, Bool.or_eq_true, decide_eq_true_eq, decide_eq_true_eq] at h
  have h1 : ∀ c ∈ LETTERS.cps.toList, c < 0x110000 := by decide +kernel
  have h2 : ∀ c ∈ SIGNS.cps.toList, c < 0x110000 := by decide +kernel
  rcases h with h | h
  · exact h1 c h
  · exact h2 c h
theorem nm_ok {z : Str} (h : nameB z = true) : PyData.strOk z = true := by
  unfold PyData.strOk
  rw [← Array.all_toList, List.all_eq_true]
  intro c hc
  exact decide_eq_true (ch_lt ((of_nameB h).all c hc))
theorem cl_nm {n : Nat} {z : Str} (h : nameB z = true) : clB n (.str z) = true := by
  have e := nm_ok h
  cases n <;> exact e
theorem cl_nms {n : Nat} {zs : List Str} (h : ∀ z ∈ zs, nameB z = true) : (zs.map D.str).all (clB n) = true := by
  rw [List.all_map, List.all_eq_true]
  intro z hz
  exact cl_nm (h z hz)
theorem dNe_nil {m : M} {x : D} {xs : List D} {n : Nat} {Q : D → M → Prop} (hn : n < 64) (h : vD m x = .lst xs) (c : xs.all (clB n) = true) (q : Q (.bl !xs.isEmpty) m) : dNe x (.lst []) m Q := by
  refine dNe_data (n := n + 1) (by omega) (by rw [h]; exact c) rfl (fun b hb => ?_)
  rw [h] at hb
  cases xs with
  | nil =>
    have : b = true := hb.mpr rfl
    rw [this]
    exact q
  | cons y ys =>
    cases b with
    | false => exact q
    | true =>
      have := hb.mp rfl
      cases this
theorem put_ok {cs : List Nat} {k c : Nat} (h : NmL cs) (hk : 1 ≤ k) (hc : chOk c = true) (tl : List Nat) (ht : ∀ y ∈ tl, chOk y = true) : NmL ((cs.take k ++ [c] ++ tl).take 12) := by
  obtain ⟨d, r, e, hd⟩ := take_nm h hk
  refine ⟨?_, ⟨d, (r ++ [c] ++ tl).take 11, by rw [e]; rfl, hd⟩, fun y hy => ?_⟩
  · rw [List.length_take]
    omega
  · have := List.mem_of_mem_take hy
    rcases List.mem_append.mp this with hy | hy
    · rcases List.mem_append.mp hy with hy | hy
      · exact h.all y (List.mem_of_mem_take hy)
      · rw [List.mem_singleton.mp hy]; exact hc
    · exact ht y hy
theorem cut_to (z : Str) (k : Nat) : (cutS z none (some (k : Int))).cps.toList = z.cps.toList.take k := by
  rw [cps_cut, HT.sIx_none, HT.sIx_nat, List.drop_zero, Nat.sub_zero]
  show List.take (min k z.cps.size) z.cps.toList = _
  rw [← Array.length_toList, List.take_eq_take_iff]
  simp
theorem cut_fro (z : Str) (k : Nat) : (cutS z (some (k : Int)) none).cps.toList = z.cps.toList.drop k := by
  rw [cps_cut, HT.sIx_none, HT.sIx_nat]
  show List.take (z.cps.size - min k z.cps.size) (List.drop (min k z.cps.size) z.cps.toList) = _
  have hl : z.cps.size = z.cps.toList.length := (Array.length_toList).symm
  rw [hl]
  by_cases h : k ≤ z.cps.toList.length
  · rw [Nat.min_eq_left h]
    exact List.take_of_length_le (by simp)
  · rw [Nat.min_eq_right (by omega), List.drop_length, List.drop_eq_nil_of_le (by omega)]
    simp
theorem swap_ok {y : Str} {c : Nat} {k : Int} (h : nameB y = true) (k0 : 0 ≤ k) (hc : chOk c = true) : nameB (cutS (cutS y none (some (1 + k)) ++ ⟨#[c]⟩ ++ cutS y (some (1 + k + 1)) none) none (some 12)) = true := by
  obtain ⟨j, rfl⟩ : ∃ j : Nat, k = j := ⟨k.toNat, by omega⟩
  have n := of_nameB h
  refine nameB_of ?_
  rw [show (some (12 : Int)) = some ((12 : Nat) : Int) from rfl, cut_to, cps_app, cps_app, show (1 + (j : Int)) = ((1 + j : Nat) : Int) by omega, cut_to, show (((1 + j : Nat) : Int) + 1) = ((1 + j + 1 : Nat) : Int) by omega, cut_fro]
  exact put_ok n (by omega) hc _ (fun z hz => n.all z (List.mem_of_mem_drop hz))
theorem cut_len2 {y : Str} (h : nameB y = true) (lo hi : Option Int) : (cutS y lo hi).length ≤ 12 := Nat.le_trans (cutS_length y lo hi) (nm_len h)
theorem app_len (x y : Str) : (x ++ y).length = x.length + y.length := by
  show (x.cps ++ y.cps).size = _
  rw [Array.size_append]
  rfl
theorem pure_law_name {K : Fr0} {mg : Str → Option Value} (T : Txt K mg) (ds : List D) (m : M) (Q : D → M → Prop) (E : XD → M → Prop) (h : sp_law_name K ds m Q E) : t_law_name K (fun x _ m => E x m) { nx := fun _ m => Q .non m, rt := Q } (startD nm_law_name ds) m := by
  obtain ⟨x, a, b, s, n, m0, rfl, rfl, rfl, hp, hn, q⟩ := h
  show t_law_name K _ _ [some (.ref a), none, none, none] _
  unfold t_law_name
  walk_at "zn"
  walk_at "zn"
  refine draw_p hp (by omega) (by omega) (by omega) (fun r s1 r0 r1 p1 => ?_)
  walk_at "zs"
  refine draw_p p1 (by omega) (by omega) (by omega) (fun i s2 i0 i1 p2 => ?_)
  walk_at "zs"
  obtain ⟨c, hc, c1, c2⟩ := sig_at i0 (by omega)
  refine ⟨by decide +kernel, c, hc, ⟨_, rfl⟩, by omega, by omega, ?_⟩
  obtain ⟨P, hP⟩ : ∃ P : List D → M → Prop, ∀ acc m', P acc m' ↔ ∃ (cs : List Nat) (s' : PS), acc = cs.map (fun c => D.str ⟨#[c]⟩) ∧ (∀ c ∈ cs, chOk c = true) ∧ Pl a b s' (n + 2 + cs.length) ∧ m' = pm a b s' m0 := ⟨_, fun _ _ => Iff.rfl⟩
  refine lc_steps r.toNat (by rw [sizeLine_eq]; omega) P (by rw [rngD_len]; simp) ((hP _ _).mpr ⟨[], s2, rfl, by simp, p2.up (by simp; omega), rfl⟩) (fun x hx acc m' hlt hp' => ?_) (fun acc m' hl hp' => ?_)
  · obtain ⟨cs, s', rfl, hcs, p', rfl⟩ := (hP _ _).mp hp'
    rw [List.length_map] at hlt
    refine ⟨_, rfl, fun Q' q' => ?_⟩
    simp only [wipeD]
    walk_at "zs"
    refine draw_p p' (by omega) (by omega) (by omega) (fun j s3 j0 j1 p3 => ?_)
    walk_at "zs"
    obtain ⟨c', hc', c1', _⟩ := sig_at j0 (by omega)
    refine ⟨by decide +kernel, c', hc', q' _ _ ((hP _ _).mpr ⟨cs ++ [c'], s3, by simp, fun y hy => ?_, p3.up (by simp; omega), rfl⟩)⟩
    rcases List.mem_append.mp hy with hy | hy
    · exact hcs y hy
    · rw [List.mem_singleton.mp hy]; exact c1'
  · obtain ⟨cs, s', rfl, hcs, p', rfl⟩ := (hP _ _).mp hp'
    rw [List.length_map] at hl
    refine ⟨_, _, cs.map (fun c => ⟨#[c]⟩), rfl, rfl, by simp [sqOf, lsOf], ?_, ?_⟩
    · have e : (List.map (fun x => x.length) (List.map (fun c => (⟨#[c]⟩ : Str)) cs)) = List.replicate cs.length 1 := by
        rw [List.map_map]
        exact List.map_const' ..
      rw [e, show ("" : Str).length = 0 by decide +kernel]
      simp
      omega
    have ej := join_chars cs
    have e2 : ((⟨#[c]⟩ : Str) ++ PySem.Txt.join ("" : Str) (cs.map fun c => (⟨#[c]⟩ : Str))).cps.toList = c :: cs := by
      rw [cps_app, ej]
      rfl
    refine ⟨?_, q _ s' (nameB_of ⟨?_, ⟨c, cs, e2, c2 (by omega)⟩, ?_⟩) (p'.up (by omega))⟩
    · have e3 : (PySem.Txt.join ("" : Str) (cs.map fun c => (⟨#[c]⟩ : Str))).length = cs.length := by
        rw [← congrArg List.length ej, Array.length_toList]
        rfl
      rw [e3]
      show 1 + cs.length ≤ _
      omega
    · rw [e2]
      simp
      omega
    · rw [e2]
      intro y hy
      rcases List.mem_cons.mp hy with rfl | hy
      · exact c1
      · exact hcs y hy
theorem pure_law_fresh {K : Fr0} {mg : Str → Option Value} (T : Txt K mg) (ds : List D) (m : M) (Q : D → M → Prop) (E : XD → M → Prop) (h : sp_law_fresh K ds m Q E) : t_law_fresh K (fun x _ m => E x m) { nx := fun _ m => Q .non m, rt := Q } (startD nm_law_fresh ds) m := by
  obtain ⟨z, x, zs, rfl, hx, hz, hl, q⟩ := h
  show t_law_fresh K _ _ [some (.str z), some x, none] m
  unfold t_law_fresh
  walk_at "zn"
  refine notin_strs (sq_ls hx) ⟨_, rfl, ?_⟩
  by_cases hin : z ∈ zs
  · rw [if_neg (by simpa using hin)]
    have zl := nm_len hz
    have cl : ∀ c : Nat, (cutS z none (some 11)).length + (⟨#[c]⟩ : Str).length ≤ 16777216 := fun c => by
      have := cutS_length z none (some 11)
      show _ + 1 ≤ _
      omega
    refine lc_filter (fun d => match d with | .str y => !decide (cutS z none (some 11) ++ y ∈ zs) | _ => false) (fun d => match d with | .str y => .str (cutS z none (some 11) ++ y) | _ => .non) (by rw [chars_len]; decide +kernel) (fun y hy => ?_) ?_
    · obtain ⟨c, hc, rfl⟩ := List.mem_map.mp hy
      refine ⟨_, rfl, fun Q' q' => ?_, fun _ Q' q' => ?_⟩
      · simp only [wipeD]
        walk_at "zs"
        refine ⟨by omega, cl c, notin_strs (sq_ls hx) ⟨_, rfl, q'⟩⟩
      · simp only [wipeD]
        walk_at "zs"
        exact ⟨by omega, cl c, q'⟩
    · have e : List.map (fun d => match d with | .str y => D.str (cutS z none (some 11) ++ y) | _ => .non) (List.filter (fun d => match d with | .str y => !decide (cutS z none (some 11) ++ y ∈ zs) | _ => false) (chars ("01234" : Str))) = ([48, 49, 50, 51, 52].filter fun c => decide (cand z c ∉ zs)).map fun c => D.str (cand z c) := by
        unfold chars
        rw [digs, List.filter_map, List.map_map]
        congr 1
        refine List.filter_congr fun c _ => ?_
        show (!decide (cand z c ∈ zs)) = _
        simp
      rw [List.nil_append, e]
      obtain ⟨c, r, e1, hc, hn⟩ := cand_some (z := z) hl
      rw [e1]
      exact ⟨_, atI_nat (j := 0) rfl, q _ (cand_ok hz (dig_ok c hc)) hn⟩
  · rw [if_pos (by simpa using hin)]
    exact q z hz hin
theorem name_p {K : Fr0} {a b : Addr} {s : PS} {n : Int} {m0 : M} {Q : D → M → Prop} {E : XD → M → Prop} (hp : Pl a b s n) (hn : n ≤ 100000000000) (h : ∀ z s', nameB z = true → Pl a b s' (n + 13) → Q (.str z) (pm a b s' m0)) : sp_law_name K [.ref a] (pm a b s m0) Q E :=
  ⟨_, a, b, s, n, m0, rfl, rfl, rfl, hp, hn, h⟩
theorem vD_all {a b : Addr} {m0 : M} {x : D} {xs : List D} (s0 : PS) (h : ∀ s', vD (pm a b s' m0) x = .lst xs) : x = .lst xs ∨ ∃ c, x = .ref c ∧ ∀ s', pm a b s' m0 c = some (.lst xs) := by
  cases x with
  | lst ys => exact .inl (h s0)
  | ref c =>
    refine .inr ⟨c, rfl, fun s' => ?_⟩
    have := ls_vD (h s')
    dsimp only [lsOf] at this
    cases q : pm a b s' m0 c with
    | none => rw [q] at this; cases this
    | some o =>
      rw [q] at this
      cases o with
      | lst ys => cases this; rfl
      | _ => cases this
  | _ => cases h s0
theorem fresh_p {K : Fr0} {z : Str} {x : D} {zs : List Str} {m : M} {Q : D → M → Prop} {E : XD → M → Prop} (h : vD m x = .lst (zs.map D.str)) (hz : nameB z = true) (hl : zs.length ≤ 4) (q : ∀ y, nameB y = true → y ∉ zs → Q (.str y) m) : sp_law_fresh K [.str z, x] m Q E := ⟨z, x, zs, rfl, ls_vD h, hz, hl, q⟩
theorem pure_law_near {K : Fr0} {mg : Str → Option Value} (T : Txt K mg) (ds : List D) (m : M) (Q : D → M → Prop) (E : XD → M → Prop) (h : sp_law_near K ds m Q E) : t_law_near K (fun x _ m => E x m) { nx := fun _ m => Q .non m, rt := Q } (startD nm_law_near ds) m := by
  obtain ⟨w, x, a, b, s, n, m0, zs, rfl, rfl, rfl, hx, hp, hn, hz, hl, q⟩ := h
  show t_law_near K _ _ [some (.ref a), some x, none, none, none, none] _
  unfold t_law_near
  walk_at "zn"
  walk_at "zn"
  refine draw_p hp (by omega) (by omega) (by omega) (fun mn s1 r0 r1 p1 => ?_)
  walk_at "zn"
  refine name_p p1 (by omega) (fun z s2 hzn p2 => ?_)
  walk_at "zn"
  refine draw_p p2 (by omega) (by omega) (by omega) (fun at_ s3 at0 at1 p3 => ?_)
  walk_at "zs"
  have hsig := sig_len
  have sl : (Str.ofString "abcdefghijklmnopqrstuvwxyz0123456789_").length ≤ 16777216 := by decide +kernel
  have e0 : ∀ (y : Str) (ys : List Str), atI ((y :: ys).map D.str) 0 = some (.str y) := fun y ys => atI_nat (j := 0) rfl
  generalize hK : dSeq (dIfS _ _ _) (dRet _) = kk
  have H : ∀ z s', nameB z = true → Pl a b s' (n + 16) → kk { nx := fun _ m => Q .non m, rt := Q } [some (.ref a), some x, some (.str (Str.ofString "abcdefghijklmnopqrstuvwxyz0123456789_")), some (.int mn), some (.str z), some (.int (1 + at_))] (pm a b s' m0) := by
    intro z s' hz' p'
    subst hK
    generalize hK2 : dRet _ = k2
    have H2 : ∀ z s', nameB z = true → Pl a b s' (n + 17) → k2 { nx := fun _ m => Q .non m, rt := Q } [some (.ref a), some x, some (.str (Str.ofString "abcdefghijklmnopqrstuvwxyz0123456789_")), some (.int mn), some (.str z), some (.int (1 + at_))] (pm a b s' m0) := by
      intro z s' hz' p'
      subst hK2
      walk_at "zs"
      exact fresh_p (hx s') hz' hl fun y hy hny => q y s' hy hny (p'.up (by omega))
    rcases vD_all s hx with rfl | ⟨c, rfl, hc⟩
    · walk_at "zn"
      refine dNe_nil (n := 0) (by omega) (hx s') (cl_nms hz) ⟨_, rfl, ?_⟩
      cases zs with
      | nil => exact H2 z s' hz' (p'.up (by omega))
      | cons y ys =>
        rw [if_pos (by rfl)]
        have hy := hz y List.mem_cons_self
        by_cases e2 : mn = 2
        · rw [if_pos e2, e0 y ys]
          refine ⟨_, rfl, by have := nm_len hy; omega, ?_⟩
          refine draw_p p' (by omega) (by omega) (by omega) (fun i s4 i0 i1 p4 => ?_)
          obtain ⟨c, hc, c1, _⟩ := sig_at i0 i1
          have l1 := cut_len2 hy none (some (1 + at_))
          have l2 := cut_len2 hy (some (1 + at_ + 1)) none
          have l3 : (⟨#[c]⟩ : Str).length = 1 := rfl
          refine ⟨_, rfl, sl, c, hc, by omega, _, rfl, by have := nm_len hy; omega, by rw [app_len]; omega, by rw [app_len, app_len]; omega, ?_⟩
          exact H2 _ s4 (swap_ok hy at0 c1) (p4.up (by omega))
        · rw [if_neg e2]
          exact H2 z s' hz' (p'.up (by omega))
    · try simp only [dSeq]
      try simp only [dIfS, dTest, dOp, dVar, dC, dCB, daCons, daNil, dSet, dRet, dNext, dDrop, dAsg, dPar, dAug, dAddI, dBreak, dCont, dRetN, slot, dLen, dCmpI, dSub, dAdd, dMul, dDiv, dMod, dPow, dNeg, dUn, dIx, dInt1, dAbs, dChain, dAnd, dOr, dNot, dAndV, dOrV, dNotV, dTru, dTruB, dIf, dTup, dLst, mkL, dSlice, dSl, doNone, doSome, dSum, dAll, dAny, dList, dTuple, dMax, dMin, eq_ii, ne_ii, eq_ss, ne_ss, eq_bb, ne_bb, eq_nn, ne_nn, dIsN, dNotN, dFgt, dIsB, dNotB, gN, gT, gsNil, gsCons, gSet, dBM, dAppend, dClear, dFld, dFldS, dProp, dCall, dMeth, dMake, dMakeN, daStar, dDictP, dCallO, dFor, dLc, diR1, diR2, diR3, diL, diT, diRv, diS, diE, dFmt, dFStr, dJs, dCallN, dFrzE, frz_l, in_ss, notin_ss, drR1, drR2, dListR, dRaise, dRaise0, dTryAs, dTry, dXf, dAddO, dInO, isL, insOf, Option.some.injEq, List.cons.injEq, D.int.injEq, D.bl.injEq, D.str.injEq, D.lst.injEq, D.tup.injEq, D.ref.injEq, MO.lst.injEq, MO.ins.injEq, mset_mset, and_true, true_and, and_self, and_assoc, exists_eq_left', exists_eq_left, exists_and_left, exists_and_right, exists_eq', List.set_cons_zero, List.set_cons_succ, decide_eq_true_eq, sqOf, lsOf, List.length_cons, List.length_nil, sizeLine_eq, List.append_nil, List.cons_append, List.nil_append, if_true, if_false, Bool.false_eq_true, reduceCtorEq, reduceIte, Nat.reduceAdd, Nat.reduceLeDiff, mset_same, Option.bind_some, List.length_map, Prod.mk.injEq, at0, at1, at2, at3, at4, at5, at6, at7, ix30, ix31, ix32, ix20, ix21, ix10, isi_ii, isi_ib, isi_ll, isi_bb, isi_ss, isi_tt, isi_is, isi_si, Bool.not_true, Bool.not_false, dCopyK, dGet2K, dDctR, dDisp1, dFrzEK, hc s']
      refine dNe_nil (n := 0) (by omega) (hx s') (cl_nms hz) ⟨_, rfl, ?_⟩
      cases zs with
      | nil => exact H2 z s' hz' (p'.up (by omega))
      | cons y ys =>
        rw [if_pos (by rfl)]
        have hy := hz y List.mem_cons_self
        by_cases e2 : mn = 2
        · rw [if_pos e2]
          refine ⟨_, by rw [hc s']; rfl, _, e0 y ys, by have := nm_len hy; omega, ?_⟩
          refine draw_p p' (by omega) (by omega) (by omega) (fun i s4 i0 i1 p4 => ?_)
          obtain ⟨c', hc', c1, _⟩ := sig_at i0 i1
          have l1 := cut_len2 hy none (some (1 + at_))
          have l2 := cut_len2 hy (some (1 + at_ + 1)) none
          have l3 : (⟨#[c']⟩ : Str).length = 1 := rfl
          refine ⟨_, rfl, sl, c', hc', by omega, _, by rw [hc s4]; rfl, _, e0 y ys, by have := nm_len hy; omega, by rw [app_len]; omega, by rw [app_len, app_len]; omega, ?_⟩
          exact H2 _ s4 (swap_ok hy at0 c1) (p4.up (by omega))
        · rw [if_neg e2]
          exact H2 z s' hz' (p'.up (by omega))
  rcases vD_all s hx with rfl | ⟨c, rfl, hc⟩
  · walk_at "zn"
    refine dNe_nil (n := 0) (by omega) (hx s3) (cl_nms hz) ⟨_, rfl, ?_⟩
    cases zs with
    | nil => exact H z s3 hzn (p3.up (by omega))
    | cons y ys =>
      rw [if_pos (by rfl)]
      have hy := hz y List.mem_cons_self
      by_cases e2 : mn = 1
      · rw [if_pos e2, e0 y ys]
        refine ⟨_, rfl, by have := nm_len hy; omega, ?_⟩
        refine draw_p p3 (by omega) (by omega) (by omega) (fun i s4 i0 i1 p4 => ?_)
        obtain ⟨c, hc, c1, _⟩ := sig_at i0 i1
        have l1 := cut_len2 hy none (some 11)
        have l3 : (⟨#[c]⟩ : Str).length = 1 := rfl
        exact ⟨_, rfl, sl, c, hc, by omega, H _ s4 (cand_ok hy c1) (p4.up (by omega))⟩
      · rw [if_neg e2]
        exact H z s3 hzn (p3.up (by omega))
  · walk_at "zn"
    refine dNe_nil (n := 0) (by omega) (hx s3) (cl_nms hz) ⟨_, rfl, ?_⟩
    cases zs with
    | nil => exact H z s3 hzn (p3.up (by omega))
    | cons y ys =>
      rw [if_pos (by rfl)]
      have hy := hz y List.mem_cons_self
      by_cases e2 : mn = 1
      · rw [if_pos e2]
        refine ⟨_, by rw [hc s3]; rfl, _, e0 y ys, by have := nm_len hy; omega, ?_⟩
        refine draw_p p3 (by omega) (by omega) (by omega) (fun i s4 i0 i1 p4 => ?_)
        obtain ⟨c', hc', c1, _⟩ := sig_at i0 i1
        have l1 := cut_len2 hy none (some 11)
        have l3 : (⟨#[c']⟩ : Str).length = 1 := rfl
        exact ⟨_, rfl, sl, c', hc', by omega, H _ s4 (cand_ok hy c1) (p4.up (by omega))⟩
      · rw [if_neg e2]
        exact H z s3 hzn (p3.up (by omega))
theorem sub_refl {m : M} : MSub m m := fun _ _ e => e
theorem sub_set {m m2 : M} {p : Addr} {o : MO} (h : MSub m m2) (n : m p = none) : MSub m (mset m2 p o) := fun a u e => by
  by_cases hx : a = p
  · subst hx
    rw [n] at e
    cases e
  · rw [mset_ne hx]
    exact h _ _ e
theorem sub_del {m m2 : M} {p : Addr} (h : MSub m m2) : MSub (mdel m p) m2 := fun a u e => by
  by_cases hx : a = p
  · subst hx
    rw [mdel_same] at e
    cases e
  · rw [mdel_ne hx] at e
    exact h _ _ e
theorem pure_need_name {K : Fr0} {mg : Str → Option Value} (T : Txt K mg) (ds : List D) (m : M) (Q : D → M → Prop) (E : XD → M → Prop) (h : sp_need_name K ds m Q E) : t_need_name K (fun x _ m => E x m) { nx := fun _ m => Q .non m, rt := Q } (startD nm_need_name ds) m := by
  obtain ⟨z, rfl, hz, q, qe⟩ := h
  show t_need_name K _ _ [some (.str z)] m
  unfold t_need_name
  walk_at "zs"
  refine ⟨z, rfl, hz, ?_⟩
  walk_at "zs"
  by_cases h : nameB z = true
  · rw [h]
    walk_at "zs"
    exact q h
  · rw [Bool.eq_false_iff.mpr h]
    walk_at "zs"
    exact qe h
theorem pure_need_range {K : Fr0} {mg : Str → Option Value} (T : Txt K mg) (ds : List D) (m : M) (Q : D → M → Prop) (E : XD → M → Prop) (h : sp_need_range K ds m Q E) : t_need_range K (fun x _ m => E x m) { nx := fun _ m => Q .non m, rt := Q } (startD nm_need_range ds) m := by
  obtain ⟨w, v, lo, hi, rfl, q, qe⟩ := h
  show t_need_range K _ _ [some (.str w), some (.int v), some (.int lo), some (.int hi)] m
  unfold t_need_range
  walk_at "zs"
  by_cases h1 : v < lo
  · rw [if_pos h1]
    exact qe (.inl h1)
  rw [if_neg h1]
  by_cases h2 : hi < v
  · rw [if_pos h2]
    exact qe (.inr h2)
  rw [if_neg h2]
  exact q (by omega)
def at0D : D → D
  | .tup (x :: _) => x
  | _ => .non
theorem at0_ks (ks : List Knd) : (ks.map Knd.D).map at0D = (names ks).map D.str := by
  rw [List.map_map, List.map_map]
  rfl
theorem pure_need_kind {K : Fr0} {mg : Str → Option Value} (T : Txt K mg) (ds : List D) (m : M) (Q : D → M → Prop) (E : XD → M → Prop) (h : sp_need_kind K ds m Q E) : t_need_kind K (fun x _ m => E x m) { nx := fun _ m => Q .non m, rt := Q } (startD nm_need_kind ds) m := by
  obtain ⟨z, ks, rfl, hl, q, qe⟩ := h
  show t_need_kind K _ _ [some (.str z), some (ksD ks), none] m
  unfold t_need_kind
  walk_at "zs"
  refine lc_pure at0D (by rw [sizeLine_eq]; simp; omega) (fun x hx => ?_) ?_
  · obtain ⟨k, hk, rfl⟩ := List.mem_map.mp hx
    refine ⟨_, rfl, fun Q' q' => ?_⟩
    simp only [wipeD, Knd.D]
    walk_at "zs"
    exact q'
  · rw [List.nil_append, at0_ks]
    refine notin_strs rfl ?_
    walk_at "zs"
    by_cases hz : z ∈ names ks
    · rw [if_neg (by simpa using hz)]
      exact q hz
    · rw [if_pos (by simpa using hz)]
      exact qe hz
theorem take_succ' {α : Type} {l : List α} {j : Nat} {a : α} (h : l[j]? = some a) : l.take (j + 1) = l.take j ++ [a] := by
  rw [List.take_add_one, h]
  rfl
theorem map_at {α β : Type} {f : α → β} {l : List α} {j : Nat} {d : β} (h : (l.map f)[j]? = some d) : ∃ a, l[j]? = some a ∧ d = f a := by
  rw [List.getElem?_map] at h
  cases e : l[j]? with
  | none => rw [e] at h; cases h
  | some a => rw [e] at h; cases h; exact ⟨a, rfl, rfl⟩
theorem nodup_take {α : Type} : ∀ {l : List α} {j : Nat} {a : α}, l.Nodup → l[j]? = some a → a ∉ l.take j
  | [], _, _, _, h => by cases h
  | x :: l, 0, a, _, _ => by simp
  | x :: l, j + 1, a, nd, h => by
    obtain ⟨n1, n2⟩ := List.nodup_cons.mp nd
    have h2 : l[j]? = some a := h
    have ih := nodup_take n2 h2
    rw [List.take_succ_cons, List.mem_cons]
    rintro (rfl | hm)
    · exact n1 (List.mem_of_getElem? h2)
    · exact ih hm
theorem mem_at {α : Type} {l : List α} {j : Nat} {a : α} (h : l[j]? = some a) : a ∈ l := List.mem_of_getElem? h
theorem len_at {α : Type} {l : List α} {j : Nat} {a : α} (h : l[j]? = some a) : j < l.length := (List.getElem?_eq_some_iff.mp h).1
theorem lc_mapD {α : Type} {g : α → D} {l : List α} {c : CT} {vs : List Nat} {te : DTE} {r : DSt} {m : M} {Q : List D → M → Prop} {f : α → D} (hz : l.length ≤ sizeLine) (h : ∀ a ∈ l, ∃ r2, ctD c (g a) (wipeD r vs) = some r2 ∧ ∀ Q' : D → M → Prop, Q' (f a) m → te r2 m Q') (q : Q (l.map f) m) : dLcL c vs dYes te (l.map g) [] r m Q := by
  have go : ∀ (l : List α) (acc : List D), acc.length + l.length ≤ sizeLine → (∀ a ∈ l, ∃ r2, ctD c (g a) (wipeD r vs) = some r2 ∧ ∀ Q' : D → M → Prop, Q' (f a) m → te r2 m Q') → Q (acc ++ l.map f) m → dLcL c vs dYes te (l.map g) acc r m Q := by
    intro l
    induction l with
    | nil => intro acc _ _ q; exact (by simpa using q : Q acc m)
    | cons a l ih =>
      intro acc hz h q
      obtain ⟨r2, e, t⟩ := h a List.mem_cons_self
      rw [List.length_cons] at hz
      refine ⟨r2, e, ?_⟩
      simp only [dYes, if_true]
      refine t _ ⟨by omega, ih _ (by rw [List.length_append]; simp; omega) (fun b hb => h b (List.mem_cons_of_mem _ hb)) ?_⟩
      rw [List.append_assoc]
      exact q
  exact go l [] (by simpa using hz) h (by simpa using q)
theorem seq_for {r : DSt} {i : Nat} {x : D} {xs : List D} (hx : sq0 x = some xs) (hs : slot r i = some x) (g : DTG) (tb : DTS) (DD : DEnds) (m : M) (h : dLoopI g tb xs DD r m) : dFor (diQ (dVar i)) g tb DD r m := by
  show diQ (dVar i) _ _ _
  refine ⟨x, hs, ?_⟩
  cases x with
  | lst xs => cases hx; exact h
  | tup xs => cases hx; exact h
  | _ => cases hx
theorem seq_len {x : D} {xs : List D} (h : sq0 x = some xs) : x = .lst xs ∨ x = .tup xs := by
  cases x with
  | lst ys => cases h; exact .inl rfl
  | tup ys => cases h; exact .inr rfl
  | _ => cases h
theorem pure_checked_kinds {K : Fr0} {mg : Str → Option Value} (T : Txt K mg) (ds : List D) (m : M) (Q : D → M → Prop) (E : XD → M → Prop) (h : sp_checked_kinds K ds m Q E) : t_checked_kinds K (fun x _ m => E x m) { nx := fun _ m => Q .non m, rt := Q } (startD nm_checked_kinds ds) m := by
  obtain ⟨ks, b, x, rfl, hx, hl, hz, q⟩ := h
  show t_checked_kinds K _ _ [some x, some (.bl b), none, none, none, none, none, none, none] m
  unfold t_checked_kinds
  simp only [dSeq]
  have e : ∀ (DD : DEnds) (r : DSt), (DD.nx ((r.set 2 (some (.int (if b = true then 9 else 99)))).set 3 (some (.int (if b = true then 24 else 99)))) m) → slot r 1 = some (.bl b) → dAsg (dIf (dTru (dVar 1)) (dTup (daCons (dC (.int 9)) (daCons (dC (.int 24)) daNil))) (dTup (daCons (dC (.int 99)) (daCons (dC (.int 99)) daNil)))) (gT 2 (gsCons (gN 2) (gsCons (gN 3) gsNil))) DD r m := by
    intro DD r h h1
    walk_at "zs"
    rw [h1]
    walk_at "zs"
    cases b <;> exact h
  refine e _ _ ?_ rfl
  clear e
  generalize hC : (if b = true then 9 else 99 : Int) = cC
  generalize hD : (if b = true then 24 else 99 : Int) = cD
  walk_at "zn"
  intro p hp
  simp only [dSeq]
  refine seq_for hx rfl _ _ _ _ ?_
  obtain ⟨P1, hP1⟩ : ∃ P : Nat → DSt → M → Prop, ∀ j r m', P j r m' ↔ (m' = mset m p (.lst ((ks.take j).map Knd.D)) ∧ OutF K (kndF b (names (ks.take j)) (ks.drop j)) m (Q (ksD ks) m) E ∧ ∃ o5 o6 o7 o8, r = [some x, some (.bl b), some (.int cC), some (.int cD), some (.ref p), o5, o6, o7, o8]) := ⟨_, fun _ _ _ => Iff.rfl⟩
  refine ⟨P1, (hP1 0 _ _).mpr ⟨rfl, q, _, _, _, _, rfl⟩, ?_, ?_⟩
  · intro j d r m' hd hp1
    obtain ⟨rfl, q, o5, o6, o7, o8, rfl⟩ := (hP1 _ _ _).mp hp1
    obtain ⟨k, hk, rfl⟩ := map_at hd
    have hj := len_at hk
    have zk := hz k (mem_at hk)
    have hdrop : ks.drop j = k :: ks.drop (j + 1) := by
      rw [← List.getElem_cons_drop hj]
      congr 1
      exact (List.getElem?_eq_some_iff.mp hk).2
    rw [hdrop] at q
    unfold kndF at q
    have sb : MSub m (mset m p (.lst ((ks.take j).map Knd.D))) := sub_set sub_refl hp
    simp only [Knd.D]
    walk_at "zn"
    refine ⟨k.n, rfl, zk, fun nk => ?_, fun nk => ?_⟩
    rotate_left
    · rw [if_neg nk] at q
      exact q _ sb
    rw [if_pos nk] at q
    walk_at "zn"
    refine lcM_pure (a := p) (xs := (ks.take j).map Knd.D) at0D (fun Q' q' => ⟨_, rfl, q'⟩) mset_same (by rw [sizeLine_eq]; simp; omega) (fun x hx => ?_) ?_
    · obtain ⟨k2, hk2, rfl⟩ := List.mem_map.mp hx
      refine ⟨_, rfl, fun Q' q' => ?_⟩
      simp only [wipeD, Knd.D]
      walk_at "zs"
      exact q'
    · simp only [mkL]
      rw [at0_ks]
      refine in_strs rfl ?_
      walk_at "zs"
      by_cases hn : k.n ∈ names (ks.take j)
      · rw [if_pos hn] at q ⊢
        exact q _ sb
      rw [if_neg hn] at q ⊢
      walk_at "zn"
      refine ⟨_, k.c, 1, _, rfl, fun ck => ?_, fun ck => ?_⟩
      rotate_left
      · rw [hC, if_pos ck] at q
        exact q _ sb
      rw [hC, if_neg ck] at q
      walk_at "zn"
      refine ⟨_, k.d, 1, _, rfl, fun dk => ?_, fun dk => ?_⟩
      rotate_left
      · rw [hD, if_pos dk] at q
        exact q _ sb
      rw [hD, if_neg dk] at q
      walk_at "zs"
      refine ⟨by simp; omega, (hP1 _ _ _).mpr ⟨?_, ?_, _, _, _, _, rfl⟩⟩
      · rw [take_succ' hk, List.map_append]
        rfl
      · rw [take_succ' hk]
        unfold names at q ⊢
        rw [List.map_append]
        exact q
  · intro r m' hp1
    obtain ⟨rfl, q, o5, o6, o7, o8, rfl⟩ := (hP1 _ _ _).mp hp1
    rw [List.length_map, List.take_length]
    rw [List.length_map, List.drop_length] at q
    walk_at "z2"
    exact q
theorem Arr.cl (a : Arr) {n : Nat} (h1 : nameB a.f = true) (h2 : nameB a.s = true) : clB (n + 1) (.tup [.str a.f, .str a.s]) = true := by
  show ([D.str a.f, D.str a.s].all (clB n)) = true
  simp [cl_nm h1, cl_nm h2]
def at01D : D → D
  | .tup (x :: y :: _) => .tup [x, y]
  | _ => .non
def Arr.P (a : Arr) : DL.D := .tup [.str a.f, .str a.s]
theorem at01_as (as : List Arr) : (as.map Arr.D).map at01D = as.map Arr.P := by
  rw [List.map_map]
  rfl
theorem ArrP_mem {a : Arr} {as : List Arr} : Arr.P a ∈ as.map Arr.P ↔ (a.f, a.s) ∈ as.map fun a => (a.f, a.s) := by
  constructor
  · intro h
    obtain ⟨b, hb, e⟩ := List.mem_map.mp h
    unfold Arr.P at e
    injection e with e
    injection e with e1 e2
    injection e2 with e2 _
    injection e1 with e1
    injection e2 with e2
    exact List.mem_map.mpr ⟨b, hb, by rw [e1, e2]⟩
  · intro h
    obtain ⟨b, hb, e⟩ := List.mem_map.mp h
    refine List.mem_map.mpr ⟨b, hb, ?_⟩
    injection e with e1 e2
    unfold Arr.P
    rw [e1, e2]
theorem pure_checked_arrows {K : Fr0} {mg : Str → Option Value} (T : Txt K mg) (ds : List D) (m : M) (Q : D → M → Prop) (E : XD → M → Prop) (h : sp_checked_arrows K ds m Q E) : t_checked_arrows K (fun x _ m => E x m) { nx := fun _ m => Q .non m, rt := Q } (startD nm_checked_arrows ds) m := by
  obtain ⟨as, x, ks, rfl, hx, hl, hk, hnm, q⟩ := h
  show t_checked_arrows K _ _ [some x, some (ksD ks), none, none, none, none, none] m
  unfold t_checked_arrows
  walk_at "zn"
  intro p hp
  simp only [dSeq]
  refine seq_for hx rfl _ _ _ _ ?_
  obtain ⟨P1, hP1⟩ : ∃ P : Nat → DSt → M → Prop, ∀ j r m', P j r m' ↔ (m' = mset m p (.lst ((as.take j).map Arr.D)) ∧ (∀ a ∈ as.take j, a.f ∈ names ks ∧ a.s ∈ names ks) ∧ OutF K (arrF (names ks) ((as.take j).map fun a => (a.f, a.s)) (as.drop j)) m (Q (asD as) m) E ∧ ∃ o3 o4 o5 o6, r = [some x, some (ksD ks), some (.ref p), o3, o4, o5, o6]) := ⟨_, fun _ _ _ => Iff.rfl⟩
  refine ⟨P1, (hP1 0 _ _).mpr ⟨rfl, fun a h => absurd h List.not_mem_nil, q, _, _, _, _, rfl⟩, ?_, ?_⟩
  · intro j d r m' hd hp1
    obtain ⟨rfl, hin, q, o3, o4, o5, o6, rfl⟩ := (hP1 _ _ _).mp hp1
    obtain ⟨a, ha, rfl⟩ := map_at hd
    have hj := len_at ha
    have hdrop : as.drop j = a :: as.drop (j + 1) := by
      rw [← List.getElem_cons_drop hj]
      congr 1
      exact (List.getElem?_eq_some_iff.mp ha).2
    rw [hdrop] at q
    unfold arrF at q
    have sb : MSub m (mset m p (.lst ((as.take j).map Arr.D))) := sub_set sub_refl hp
    simp only [Arr.D]
    walk_at "zn"
    refine ⟨a.f, ks, rfl, hk, fun hf => ?_, fun hf => ?_⟩
    rotate_left
    · rw [if_neg hf] at q
      exact q _ sb
    rw [if_pos hf] at q
    walk_at "zn"
    refine ⟨a.s, ks, rfl, hk, fun hs => ?_, fun hs => ?_⟩
    rotate_left
    · rw [if_neg hs] at q
      exact q _ sb
    rw [if_pos hs] at q
    walk_at "zn"
    refine ⟨_, a.g, 1, _, rfl, fun gk => ?_, fun gk => ?_⟩
    rotate_left
    · rw [if_pos gk] at q
      exact q _ sb
    rw [if_neg gk] at q
    walk_at "zn"
    refine lcM_pure (a := p) (xs := (as.take j).map Arr.D) at01D (fun Q' q' => ⟨_, rfl, q'⟩) mset_same (by rw [sizeLine_eq]; simp; omega) (fun x hx => ?_) ?_
    · obtain ⟨k2, hk2, rfl⟩ := List.mem_map.mp hx
      refine ⟨_, rfl, fun Q' q' => ?_⟩
      simp only [wipeD, Arr.D]
      walk_at "zs"
      exact q'
    · simp only [mkL]
      rw [at01_as]
      refine dInD_data (n := 1) (x := Arr.P a) (ys := (as.take j).map Arr.P) (by omega) (Arr.cl a (hnm _ hf) (hnm _ hs)) rfl rfl ?_ (fun b hb => ?_)
      · rw [List.all_map, List.all_eq_true]
        intro b hb
        have := hin b hb
        exact Arr.cl b (hnm _ this.1) (hnm _ this.2)
      rw [ArrP_mem] at hb
      cases b with
      | true =>
        rw [if_pos (hb.mp rfl)] at q
        walk_at "zs"
        exact q _ sb
      | false =>
        rw [if_neg (fun h => Bool.false_ne_true (hb.mpr h))] at q
        walk_at "zs"
        refine ⟨by simp; omega, (hP1 _ _ _).mpr ⟨?_, fun b hb => ?_, ?_, _, _, _, _, rfl⟩⟩
        · rw [take_succ' ha, List.map_append]
          rfl
        · rw [take_succ' ha] at hb
          rcases List.mem_append.mp hb with h | h
          · exact hin b h
          · rw [List.mem_singleton.mp h]; exact ⟨hf, hs⟩
        · rw [take_succ' ha, List.map_append]
          exact q
  · intro r m' hp1
    obtain ⟨rfl, hin, q, o3, o4, o5, o6, rfl⟩ := (hP1 _ _ _).mp hp1
    rw [List.length_map, List.take_length]
    rw [List.length_map, List.drop_length] at q
    walk_at "z2"
    exact q
theorem putT2 {a b : D} : putD "kind_rows" b [(("name" : Str), a)] = [(("name" : Str), a), ("kind_rows", b)] := rfl
theorem putT1 {a : D} : putD "name" a [] = [(("name" : Str), a)] := rfl
theorem lk2 {a b : D} : [(("name" : Str), a), ("kind_rows", b)].lookup ("kind_rows" : Str) = some b := rfl
section
variable {t : Tsk}
theorem lk_name : (taskF t).lookup ("name" : Str) = some (.str t.nm) := rfl
theorem lk_kinds : (taskF t).lookup ("kind_rows" : Str) = some (ksD t.ks) := rfl
theorem lk_arrows : (taskF t).lookup ("arrow_rows" : Str) = some (asD t.as) := rfl
end
theorem kndF_nms {b : Bool} : ∀ {seen : List Str} {ks : List Knd}, kndF b seen ks = none → ∀ z ∈ names ks, nameB z = true
  | _, [], _, z, h => by cases h
  | seen, k :: ks, e, z, h => by
    unfold kndF at e
    by_cases hk : nameB k.n = true
    · rw [if_pos hk] at e
      by_cases h1 : k.n ∈ seen
      · rw [if_pos h1] at e; cases e
      rw [if_neg h1] at e
      by_cases h2 : k.c < 1 ∨ (if b = true then 9 else 99) < k.c
      · rw [if_pos h2] at e; cases e
      rw [if_neg h2] at e
      by_cases h3 : k.d < 1 ∨ (if b = true then 24 else 99) < k.d
      · rw [if_pos h3] at e; cases e
      rw [if_neg h3] at e
      rcases List.mem_cons.mp h with rfl | h
      · exact hk
      · exact kndF_nms e z h
    · rw [if_neg hk] at e; cases e
theorem sub_ins {m m' : M} {a : Addr} {o : MO} (h : MSub (mset m a o) m') : MSub (mdel m a) m' := fun b u e => by
  by_cases hx : b = a
  · subst hx
    rw [mdel_same] at e
    cases e
  · rw [mdel_ne hx] at e
    exact h b u (by rw [mset_ne hx]; exact e)
theorem pure_Task_init {K : Fr0} {mg : Str → Option Value} (T : Txt K mg) (ds : List D) (m : M) (Q : D → M → Prop) (E : XD → M → Prop) (h : sp_Task_init K ds m Q E) : t_Task_init K (fun x _ m => E x m) { nx := fun _ m => Q .non m, rt := Q } (startD nm_Task_init ds) m := by
  obtain ⟨a, t, y, x, rfl, hy, hx, ha, z, lk, la, zk, q⟩ := h
  unfold tskF at q
  have hz : ∀ n : Nat, n ≤ 100 → n ≤ sizeLine := fun n h => by rw [sizeLine_eq]; omega
  rcases seq_len hy with rfl | rfl <;> rcases seq_len hx with rfl | rfl
  · show t_Task_init K _ _ [some (.ref a), some (.str t.nm), some (.lst (t.ks.map Knd.D)), some (.lst (t.as.map Arr.D))] m
    unfold t_Task_init
    walk_at "zn"
    refine ⟨t.nm, rfl, z, fun nk => ?_, fun nk => ?_⟩
    rotate_left
    · rw [if_neg nk] at q
      exact q _ (sub_del sub_refl)
    rw [if_pos nk] at q
    walk_at "zn"
    by_cases k14 : 1 ≤ t.ks.length ∧ t.ks.length ≤ 4
    rotate_left
    · rw [if_neg k14] at q
      have q := q _ (sub_del sub_refl)
      by_cases h1 : (1 : Int) ≤ t.ks.length
      · rw [if_pos h1, if_pos (by simp; omega)]
        exact q
      · rw [if_neg h1]
        exact q
    rw [if_pos k14] at q
    rw [if_pos (by omega), if_neg (by simp; omega)]
    walk_at "zn"
    by_cases a12 : t.as.length ≤ 12
    rotate_left
    · rw [if_neg a12] at q
      rw [if_pos (by omega)]
      exact q _ (sub_del sub_refl)
    rw [if_pos a12] at q
    rw [if_neg (by omega)]
    try simp only [dSeq]
    walk_at "z1"
    try simp only [dSeq]
    walk_at "z0"
    refine ⟨by omega, t.ks, _, _, rfl, rfl, lk, zk, ?_⟩
    rw [show decide ((0 : Int) < (t.as.length : Int)) = decide (0 < t.as.length) by simp]
    cases hk : kndF (decide (0 < t.as.length)) [] t.ks with
    | some f =>
      rw [hk] at q
      exact fun m' hs => q m' (sub_ins hs)
    | none =>
      rw [hk] at q
      refine ⟨_, _, mset_same, T.cl_Task, T.n_Task_kind_rows, by simp, T.cl_Task, T.n_Task_kind_rows, _, rfl, ?_⟩
      refine ⟨t.as, _, t.ks, rfl, rfl, la, lk, kndF_nms hk, ?_⟩
      rw [mset_mset]
      cases hf : arrF (names t.ks) [] t.as with
      | some f =>
        rw [hf] at q
        exact fun m' hs => q m' (sub_ins hs)
      | none =>
        rw [hf] at q
        refine ⟨_, _, mset_same, T.cl_Task, T.n_Task_arrow_rows, by show 2 < 1000; omega, ?_⟩
        rw [mset_mset]
        exact q
  · show t_Task_init K _ _ [some (.ref a), some (.str t.nm), some (.lst (t.ks.map Knd.D)), some (.tup (t.as.map Arr.D))] m
    unfold t_Task_init
    walk_at "zn"
    refine ⟨t.nm, rfl, z, fun nk => ?_, fun nk => ?_⟩
    rotate_left
    · rw [if_neg nk] at q
      exact q _ (sub_del sub_refl)
    rw [if_pos nk] at q
    walk_at "zn"
    by_cases k14 : 1 ≤ t.ks.length ∧ t.ks.length ≤ 4
    rotate_left
    · rw [if_neg k14] at q
      have q := q _ (sub_del sub_refl)
      by_cases h1 : (1 : Int) ≤ t.ks.length
      · rw [if_pos h1, if_pos (by simp; omega)]
        exact q
      · rw [if_neg h1]
        exact q
    rw [if_pos k14] at q
    rw [if_pos (by omega), if_neg (by simp; omega)]
    walk_at "zn"
    by_cases a12 : t.as.length ≤ 12
    rotate_left
    · rw [if_neg a12] at q
      rw [if_pos (by omega)]
      exact q _ (sub_del sub_refl)
    rw [if_pos a12] at q
    rw [if_neg (by omega)]
    try simp only [dSeq]
    walk_at "z1"
    try simp only [dSeq]
    walk_at "z0"
    refine ⟨by omega, t.ks, _, _, rfl, rfl, lk, zk, ?_⟩
    rw [show decide ((0 : Int) < (t.as.length : Int)) = decide (0 < t.as.length) by simp]
    cases hk : kndF (decide (0 < t.as.length)) [] t.ks with
    | some f =>
      rw [hk] at q
      exact fun m' hs => q m' (sub_ins hs)
    | none =>
      rw [hk] at q
      refine ⟨_, _, mset_same, T.cl_Task, T.n_Task_kind_rows, by simp, T.cl_Task, T.n_Task_kind_rows, _, rfl, ?_⟩
      refine ⟨t.as, _, t.ks, rfl, rfl, la, lk, kndF_nms hk, ?_⟩
      rw [mset_mset]
      cases hf : arrF (names t.ks) [] t.as with
      | some f =>
        rw [hf] at q
        exact fun m' hs => q m' (sub_ins hs)
      | none =>
        rw [hf] at q
        refine ⟨_, _, mset_same, T.cl_Task, T.n_Task_arrow_rows, by show 2 < 1000; omega, ?_⟩
        rw [mset_mset]
        exact q
  · show t_Task_init K _ _ [some (.ref a), some (.str t.nm), some (.tup (t.ks.map Knd.D)), some (.lst (t.as.map Arr.D))] m
    unfold t_Task_init
    walk_at "zn"
    refine ⟨t.nm, rfl, z, fun nk => ?_, fun nk => ?_⟩
    rotate_left
    · rw [if_neg nk] at q
      exact q _ (sub_del sub_refl)
    rw [if_pos nk] at q
    walk_at "zn"
    by_cases k14 : 1 ≤ t.ks.length ∧ t.ks.length ≤ 4
    rotate_left
    · rw [if_neg k14] at q
      have q := q _ (sub_del sub_refl)
      by_cases h1 : (1 : Int) ≤ t.ks.length
      · rw [if_pos h1, if_pos (by simp; omega)]
        exact q
      · rw [if_neg h1]
        exact q
    rw [if_pos k14] at q
    rw [if_pos (by omega), if_neg (by simp; omega)]
    walk_at "zn"
    by_cases a12 : t.as.length ≤ 12
    rotate_left
    · rw [if_neg a12] at q
      rw [if_pos (by omega)]
      exact q _ (sub_del sub_refl)
    rw [if_pos a12] at q
    rw [if_neg (by omega)]
    try simp only [dSeq]
    walk_at "z1"
    try simp only [dSeq]
    walk_at "z0"
    refine ⟨by omega, t.ks, _, _, rfl, rfl, lk, zk, ?_⟩
    rw [show decide ((0 : Int) < (t.as.length : Int)) = decide (0 < t.as.length) by simp]
    cases hk : kndF (decide (0 < t.as.length)) [] t.ks with
    | some f =>
      rw [hk] at q
      exact fun m' hs => q m' (sub_ins hs)
    | none =>
      rw [hk] at q
      refine ⟨_, _, mset_same, T.cl_Task, T.n_Task_kind_rows, by simp, T.cl_Task, T.n_Task_kind_rows, _, rfl, ?_⟩
      refine ⟨t.as, _, t.ks, rfl, rfl, la, lk, kndF_nms hk, ?_⟩
      rw [mset_mset]
      cases hf : arrF (names t.ks) [] t.as with
      | some f =>
        rw [hf] at q
        exact fun m' hs => q m' (sub_ins hs)
      | none =>
        rw [hf] at q
        refine ⟨_, _, mset_same, T.cl_Task, T.n_Task_arrow_rows, by show 2 < 1000; omega, ?_⟩
        rw [mset_mset]
        exact q
  · show t_Task_init K _ _ [some (.ref a), some (.str t.nm), some (.tup (t.ks.map Knd.D)), some (.tup (t.as.map Arr.D))] m
    unfold t_Task_init
    walk_at "zn"
    refine ⟨t.nm, rfl, z, fun nk => ?_, fun nk => ?_⟩
    rotate_left
    · rw [if_neg nk] at q
      exact q _ (sub_del sub_refl)
    rw [if_pos nk] at q
    walk_at "zn"
    by_cases k14 : 1 ≤ t.ks.length ∧ t.ks.length ≤ 4
    rotate_left
    · rw [if_neg k14] at q
      have q := q _ (sub_del sub_refl)
      by_cases h1 : (1 : Int) ≤ t.ks.length
      · rw [if_pos h1, if_pos (by simp; omega)]
        exact q
      · rw [if_neg h1]
        exact q
    rw [if_pos k14] at q
    rw [if_pos (by omega), if_neg (by simp; omega)]
    walk_at "zn"
    by_cases a12 : t.as.length ≤ 12
    rotate_left
    · rw [if_neg a12] at q
      rw [if_pos (by omega)]
      exact q _ (sub_del sub_refl)
    rw [if_pos a12] at q
    rw [if_neg (by omega)]
    try simp only [dSeq]
    walk_at "z1"
    try simp only [dSeq]
    walk_at "z0"
    refine ⟨by omega, t.ks, _, _, rfl, rfl, lk, zk, ?_⟩
    rw [show decide ((0 : Int) < (t.as.length : Int)) = decide (0 < t.as.length) by simp]
    cases hk : kndF (decide (0 < t.as.length)) [] t.ks with
    | some f =>
      rw [hk] at q
      exact fun m' hs => q m' (sub_ins hs)
    | none =>
      rw [hk] at q
      refine ⟨_, _, mset_same, T.cl_Task, T.n_Task_kind_rows, by simp, T.cl_Task, T.n_Task_kind_rows, _, rfl, ?_⟩
      refine ⟨t.as, _, t.ks, rfl, rfl, la, lk, kndF_nms hk, ?_⟩
      rw [mset_mset]
      cases hf : arrF (names t.ks) [] t.as with
      | some f =>
        rw [hf] at q
        exact fun m' hs => q m' (sub_ins hs)
      | none =>
        rw [hf] at q
        refine ⟨_, _, mset_same, T.cl_Task, T.n_Task_arrow_rows, by show 2 < 1000; omega, ?_⟩
        rw [mset_mset]
        exact q
theorem none_Task_init {K : Fr0} : ∀ ds m Q E, sp_Task_init K ds m Q E → sp_Task_init K ds m (fun d m' => d = .non ∧ Q d m') E := by
  rintro ds m Q E ⟨a, t, y, x, rfl, hy, hx, ha, z, lk, la, zk, q⟩
  refine ⟨a, t, y, x, rfl, hy, hx, ha, z, lk, la, zk, ?_⟩
  unfold OutF at q ⊢
  split at q
  · exact ⟨rfl, q⟩
  · exact q
theorem pure_Task_kinds {K : Fr0} {mg : Str → Option Value} (T : Txt K mg) (ds : List D) (m : M) (Q : D → M → Prop) (E : XD → M → Prop) (h : sp_Task_kinds K ds m Q E) : t_Task_kinds K (fun x _ m => E x m) { nx := fun _ m => Q .non m, rt := Q } (startD nm_Task_kinds ds) m := by
  obtain ⟨t, x, rfl, rfl, q⟩ := h
  show t_Task_kinds K _ _ [some (taskD K t)] m
  unfold t_Task_kinds
  try simp only [dSeq, dIfS, dTest, dOp, dVar, dC, dCB, daCons, daNil, dSet, dRet, dNext, dDrop, dAsg, dPar, dAug, dAddI, dBreak, dCont, dRetN, slot, dLen, dCmpI, dSub, dAdd, dMul, dDiv, dMod, dPow, dNeg, dUn, dIx, dInt1, dAbs, dChain, dAnd, dOr, dNot, dAndV, dOrV, dNotV, dTru, dTruB, dIf, dTup, dLst, mkL, dSlice, dSl, doNone, doSome, dSum, dAll, dAny, dList, dTuple, dMax, dMin, eq_ii, ne_ii, eq_ss, ne_ss, eq_bb, ne_bb, eq_nn, ne_nn, dIsN, dNotN, dFgt, dIsB, dNotB, gN, gT, gsNil, gsCons, gSet, dBM, dAppend, dClear, dFld, dFldS, dProp, dCall, dMeth, dMake, dMakeN, daStar, dDictP, dCallO, dFor, dLc, diR1, diR2, diR3, diL, diT, diRv, diS, diE, dFmt, dFStr, dJs, dCallN, dFrzE, frz_l, in_ss, notin_ss, drR1, drR2, dListR, dRaise, dRaise0, dTryAs, dTry, dXf, dAddO, dInO, isL, insOf, Option.some.injEq, List.cons.injEq, D.int.injEq, D.bl.injEq, D.str.injEq, D.lst.injEq, D.tup.injEq, D.ref.injEq, MO.lst.injEq, MO.ins.injEq, mset_mset, and_true, true_and, and_self, and_assoc, exists_eq_left', exists_eq_left, exists_and_left, exists_and_right, exists_eq', List.set_cons_zero, List.set_cons_succ, decide_eq_true_eq, sqOf, lsOf, List.length_cons, List.length_nil, sizeLine_eq, List.append_nil, List.cons_append, List.nil_append, if_true, if_false, Bool.false_eq_true, reduceCtorEq, reduceIte, Nat.reduceAdd, Nat.reduceLeDiff, mset_same, Option.bind_some, List.length_map, Prod.mk.injEq, at0, at1, at2, at3, at4, at5, at6, at7, ix30, ix31, ix32, ix20, ix21, ix10, isi_ii, isi_ib, isi_ll, isi_bb, isi_ss, isi_tt, isi_is, isi_si, Bool.not_true, Bool.not_false, dCopyK, dGet2K, dDctR, dDisp1, dFrzEK, T.cl_Task, T.n_Task_name, T.n_Task_kind_rows, T.n_Task_arrow_rows, taskD, lk_name, lk_kinds, lk_arrows]
  exact q
theorem at_last {α : Type} {xs : List α} {x : α} (h : xs[xs.length - 1]? = some x) : atI xs (-1) = some x := by
  have hl : 1 ≤ xs.length := by
    cases xs with
    | nil => cases h
    | cons y ys => simp
  unfold atI ixN
  rw [if_neg (by omega)]
  rw [if_pos (by omega)]
  show xs[(-1 + (xs.length : Int)).toNat]? = some x
  rw [show (-1 + (xs.length : Int)).toNat = xs.length - 1 by omega]
  exact h
theorem near_p {K : Fr0} {a b : Addr} {s : PS} {n : Int} {m0 : M} {x : D} {zs : List Str} {Q : D → M → Prop} {E : XD → M → Prop} (hp : Pl a b s n) (hn : n ≤ 10000000000) (hx : ∀ s', vD (pm a b s' m0) x = .lst (zs.map D.str)) (hz : ∀ z ∈ zs, nameB z = true) (hl : zs.length ≤ 4) (h : ∀ z s', nameB z = true → z ∉ zs → Pl a b s' (n + 20) → Q (.str z) (pm a b s' m0)) : sp_law_near K [.ref a, x] (pm a b s m0) Q E :=
  ⟨_, x, a, b, s, n, m0, zs, rfl, rfl, rfl, hx, hp, hn, hz, hl, h⟩
theorem pm_vD {a b c : Addr} {s : PS} {m : M} {xs : List D} (h : c ≠ a) (h2 : c ≠ b) (hm : m c = some (.lst xs)) : vD (pm a b s m) (.ref c) = .lst xs := vD_ref (by rw [pm_ne h h2]; exact hm)
theorem pairs_nd {zs : List Str} {n : Nat} (hl : zs.length = n) (nd : zs.Nodup) : ((List.range (n * n)).map fun k => (zs.getD (k / n) "", zs.getD (k % n) "")).Nodup := by
  have inj : ∀ i j, i < n → j < n → zs.getD i "" = zs.getD j "" → i = j := by
    intro i j hi hj e
    rw [List.getD_eq_getElem?_getD, List.getD_eq_getElem?_getD, List.getElem?_eq_getElem (by omega), List.getElem?_eq_getElem (by omega)] at e
    have e : zs[i] = zs[j] := e
    rcases Nat.lt_trichotomy i j with h | h | h
    · exact absurd (List.mem_iff_getElem?.mpr ⟨i, by rw [List.getElem?_take, if_pos h]; exact List.getElem?_eq_getElem (by omega)⟩) (nodup_take (j := j) nd (a := zs[i]) (by rw [e]; exact List.getElem?_eq_getElem (by omega)))
    · exact h
    · exact absurd (List.mem_iff_getElem?.mpr ⟨j, by rw [List.getElem?_take, if_pos h]; exact List.getElem?_eq_getElem (by omega)⟩) (nodup_take (j := i) nd (a := zs[j]) (by rw [← e]; exact List.getElem?_eq_getElem (by omega)))
  have hn : ∀ k, k < n * n → 0 < n := fun k hk => by
    rcases Nat.eq_zero_or_pos n with h | h
    · subst h; omega
    · exact h
  refine List.pairwise_map.mpr (List.Pairwise.imp_of_mem (fun {i j} hi hj hne e => hne ?_) List.nodup_range)
  have hi := List.mem_range.mp hi
  have hj := List.mem_range.mp hj
  have h0 := hn i hi
  injection e with e1 e2
  have d1 := inj _ _ ((Nat.div_lt_iff_lt_mul h0).mpr hi) ((Nat.div_lt_iff_lt_mul h0).mpr hj) e1
  have d2 := inj _ _ (Nat.mod_lt i h0) (Nat.mod_lt j h0) e2
  have m1 := Nat.mod_add_div i n
  have m2 := Nat.mod_add_div j n
  rw [d1, d2] at m1
  omega
theorem names_app (ks : List Knd) (k : Knd) : names (ks ++ [k]) = names ks ++ [k.n] := List.map_append
def PrD (x : Str × Str) : D := .tup [.str x.1, .str x.2]
theorem pure_law_spec {K : Fr0} {mg : Str → Option Value} (T : Txt K mg) (ds : List D) (m : M) (Q : D → M → Prop) (E : XD → M → Prop) (h : sp_law_spec K ds m Q E) : t_law_spec K (fun x _ m => E x m) { nx := fun _ m => Q .non m, rt := Q } (startD nm_law_spec ds) m := by
  obtain ⟨x, a, b, s, n, m0, rfl, rfl, rfl, hp, hn, q⟩ := h
  show t_law_spec K _ _ [some (.ref a), none, none, none, none, none, none, none, none, none, none] _
  unfold t_law_spec
  walk_at "zn"
  refine draw_p hp (by omega) (by omega) (by omega) (fun r s1 r0 r1 p1 => ?_)
  obtain ⟨size, hsz, z1, z4⟩ : ∃ size : Nat, 1 + r = size ∧ 1 ≤ size ∧ size ≤ 4 := ⟨(1 + r).toNat, by omega, by omega, by omega⟩
  try simp only [dSeq]
  try simp only [dIfS, dTest, dOp, dVar, dC, dCB, daCons, daNil, dSet, dRet, dNext, dDrop, dAsg, dPar, dAug, dAddI, dBreak, dCont, dRetN, slot, dLen, dCmpI, dSub, dAdd, dMul, dDiv, dMod, dPow, dNeg, dUn, dIx, dInt1, dAbs, dChain, dAnd, dOr, dNot, dAndV, dOrV, dNotV, dTru, dTruB, dIf, dTup, dLst, mkL, dSlice, dSl, doNone, doSome, dSum, dAll, dAny, dList, dTuple, dMax, dMin, eq_ii, ne_ii, eq_ss, ne_ss, eq_bb, ne_bb, eq_nn, ne_nn, dIsN, dNotN, dFgt, dIsB, dNotB, gN, gT, gsNil, gsCons, gSet, dBM, dAppend, dClear, dFld, dFldS, dProp, dCall, dMeth, dMake, dMakeN, daStar, dDictP, dCallO, dFor, dLc, diR1, diR2, diR3, diL, diT, diRv, diS, diE, dFmt, dFStr, dJs, dCallN, dFrzE, frz_l, in_ss, notin_ss, drR1, drR2, dListR, dRaise, dRaise0, dTryAs, dTry, dXf, dAddO, dInO, isL, insOf, Option.some.injEq, List.cons.injEq, D.int.injEq, D.bl.injEq, D.str.injEq, D.lst.injEq, D.tup.injEq, D.ref.injEq, MO.lst.injEq, MO.ins.injEq, mset_mset, and_true, true_and, and_self, and_assoc, exists_eq_left', exists_eq_left, exists_and_left, exists_and_right, exists_eq', List.set_cons_zero, List.set_cons_succ, decide_eq_true_eq, sqOf, lsOf, List.length_cons, List.length_nil, sizeLine_eq, List.append_nil, List.cons_append, List.nil_append, if_true, if_false, Bool.false_eq_true, reduceCtorEq, reduceIte, Nat.reduceAdd, Nat.reduceLeDiff, mset_same, Option.bind_some, List.length_map, Prod.mk.injEq, at0, at1, at2, at3, at4, at5, at6, at7, ix30, ix31, ix32, ix20, ix21, ix10, isi_ii, isi_ib, isi_ll, isi_bb, isi_ss, isi_tt, isi_is, isi_si, Bool.not_true, Bool.not_false, dCopyK, dGet2K, dDctR, dDisp1, dFrzEK, hsz]
  have hss : (size : Int) * size ≤ 16 ∧ 1 ≤ (size : Int) * size := by
    have : size = 1 ∨ size = 2 ∨ size = 3 ∨ size = 4 := by omega
    rcases this with rfl | rfl | rfl | rfl <;> decide
  refine ⟨mul_small (by omega), ?_⟩
  refine draw_p p1 (by omega) (by omega) (by omega) (fun many s2 m0' m1 p2 => ?_)
  walk_at "zn"
  obtain ⟨bb, hbb⟩ : ∃ bb : Bool, bb = decide (0 < many) := ⟨_, rfl⟩
  refine ⟨.lst [.int (if bb = true then 9 else 99), .int (if bb = true then 24 else 99)], ?_, ?_⟩
  · by_cases h : 0 < many
    · rw [hbb, decide_eq_true h, if_pos h]; rfl
    · rw [hbb, decide_eq_false h, if_neg h]; rfl
  generalize hC : (if bb = true then 9 else 99 : Int) = cC
  generalize hD : (if bb = true then 24 else 99 : Int) = cD
  have hC9 : 9 ≤ cC ∧ cC ≤ 99 := by rw [← hC]; split <;> omega
  have hD9 : 24 ≤ cD ∧ cD ≤ 99 := by rw [← hD]; split <;> omega
  walk_at "zn"
  intro p4 hp4
  obtain ⟨n4a, n4b, n4⟩ := pm_free hp4
  rw [pm_mset n4a n4b]
  walk_at "zn"
  intro p5 hp5
  obtain ⟨n5a, n5b, n5⟩ := pm_free hp5
  have n54 : p5 ≠ p4 := fun e => by rw [e, mset_same] at n5; cases n5
  rw [mset_ne n54] at n5
  rw [pm_mset n5a n5b]
  walk_at "zn"
  refine ⟨by omega, by omega, ?_⟩
  rw [show ((size : Int)).toNat = size by omega]
  obtain ⟨P1, hP1⟩ : ∃ P : Nat → DSt → M → Prop, ∀ j r m', P j r m' ↔ (∃ (ks : List Knd) (s' : PS), ks.length = j ∧ KsOk bb ks ∧ Pl a b s' (n + 2 + 24 * j) ∧ m' = pm a b s' (mset (mset m0 p4 (.lst ((names ks).map D.str))) p5 (.lst (ks.map Knd.D))) ∧ ∃ o6 o7, r = [some (.ref a), some (.int size), some (.int many), some (.lst [.int cC, .int cD]), some (.ref p4), some (.ref p5), o6, o7, none, none, none]) := ⟨_, fun _ _ _ => Iff.rfl⟩
  refine ⟨P1, (hP1 _ _ _).mpr ⟨[], s2, rfl, ⟨by simp, by simp, by simp, by simp⟩, p2.up (by omega), rfl, _, _, rfl⟩, ?_, ?_⟩
  · intro j d r m' hd hp1
    obtain ⟨ks, s', hl, kok, p', rfl, o6, o7, rfl⟩ := (hP1 _ _ _).mp hp1
    obtain ⟨rfl, hj⟩ := rngD_at hd
    have e4 : ∀ s', vD (pm a b s' (mset (mset m0 p4 (.lst ((names ks).map D.str))) p5 (.lst (ks.map Knd.D)))) (.ref p4) = .lst ((names ks).map D.str) := fun s' => pm_vD n4a n4b (by rw [mset_ne n54.symm]; exact mset_same)
    walk_at "zn"
    refine near_p p' (by omega) e4 (fun z hz => by obtain ⟨k, hk, rfl⟩ := List.mem_map.mp hz; exact kok.nm k hk) (by simp; omega) (fun z s3 hz hnz p3 => ?_)
    walk_at "zn"
    refine ⟨⟨_, ls_vD (e4 s3)⟩, _, by rw [pm_ne n4a n4b, mset_ne n54.symm]; exact mset_same, by simp; omega, ?_⟩
    rw [pm_mset n4a n4b, mset_comm n54, mset_mset]
    walk_at "zs"
    refine ⟨⟨_, lsOf_ref (by rw [pm_ne n5a n5b]; exact mset_same)⟩, ?_⟩
    refine num_p p3 (by omega) (by omega) (by omega) (fun c s4 c1 c2 p4' => ?_)
    refine num_p p4' (by omega) (by omega) (by omega) (fun d s5 d1 d2 p5' => ?_)
    refine ⟨_, by rw [pm_ne n5a n5b]; exact mset_same, by simp; omega, (hP1 _ _ _).mpr ⟨ks ++ [⟨z, c, d⟩], s5, by simp; omega, ⟨?_, ?_, ?_, ?_⟩, p5'.up (by omega), ?_, _, _, rfl⟩⟩
    · intro k hk
      rcases List.mem_append.mp hk with hk | hk
      · exact kok.nm k hk
      · rw [List.mem_singleton.mp hk]; exact hz
    · rw [names_app, List.nodup_append]
      exact ⟨kok.nd, by simp, fun u hu v hv e => by rw [List.mem_singleton.mp hv] at e; rw [e] at hu; exact hnz hu⟩
    · intro k hk
      rcases List.mem_append.mp hk with hk | hk
      · exact kok.c k hk
      · rw [List.mem_singleton.mp hk, hC]; exact ⟨c1, c2⟩
    · intro k hk
      rcases List.mem_append.mp hk with hk | hk
      · exact kok.d k hk
      · rw [List.mem_singleton.mp hk, hD]; exact ⟨d1, d2⟩
    · rw [pm_mset n5a n5b, mset_mset]
      rw [List.map_append, names_app, List.map_append]
      rfl
  intro r m' hp1
  obtain ⟨ks, s', hl, kok, p', rfl, o6, o7, rfl⟩ := (hP1 _ _ _).mp hp1
  rw [rngD_len] at hl p'
  clear hp1 hP1 P1
  refine ⟨p4, _, rfl, by rw [pm_ne n4a n4b, mset_ne n54.symm]; exact mset_same, p5, _, rfl, by rw [mdel_ne n54, pm_ne n5a n5b]; exact mset_same, ?_⟩
  rw [pm_mdel n4a n4b, mdel_mset_ne n54.symm, mdel_mset n4, pm_mdel n5a n5b, mdel_mset n5]
  walk_at "zn"
  refine ⟨mul_small (by omega), by omega, by omega, ?_⟩
  have zl : (names ks).length = size := by rw [List.length_map]; exact hl
  have esq : ((size : Int) * size).toNat = size * size := by
    rw [← Int.natCast_mul]; omega
  have szq : size * size ≤ 16 := by
    have : ((size * size : Nat) : Int) = (size : Int) * size := Int.natCast_mul _ _
    omega
  rw [esq]
  have atS : ∀ i : Nat, i < size → atI ((names ks).map D.str) (i : Int) = some (.str ((names ks).getD i "")) := fun i hi => by
    refine atI_nat ?_
    rw [List.getElem?_map, List.getElem?_eq_getElem (by omega), List.getD_eq_getElem?_getD, List.getElem?_eq_getElem (by omega)]
    rfl
  refine lc_rng (fun k => PrD ((names ks).getD (k / size) "", (names ks).getD (k % size) "")) (by rw [sizeLine_eq]; omega) (fun k hk Q' q' => ?_) ?_
  · simp only [wipeD]
    walk_at "zs"
    rw [Int.zero_add]
    have h1 : k / size < size := (Nat.div_lt_iff_lt_mul (by omega)).mpr hk
    have h2 := Nat.mod_lt k (show 0 < size by omega)
    refine ⟨div_ok (by omega) (by omega), _, by rw [← Int.natCast_ediv]; exact atS _ h1, by omega, _, by rw [← Int.natCast_emod]; exact atS _ h2, q'⟩
  intro p8 hp8
  obtain ⟨n8a, n8b, n8⟩ := pm_free hp8
  rw [pm_mset n8a n8b]
  walk_at "zn"
  intro p9 hp9
  obtain ⟨n9a, n9b, n9⟩ := pm_free hp9
  have n98 : p9 ≠ p8 := fun e => by rw [e, mset_same] at n9; cases n9
  rw [mset_ne n98] at n9
  rw [pm_mset n9a n9b]
  obtain ⟨mn, hmn⟩ : ∃ mn : Nat, many = mn := ⟨many.toNat, by omega⟩
  subst hmn
  walk_at "zn"
  refine ⟨by omega, by omega, ?_⟩
  rw [Int.toNat_natCast]
  have eP : ((List.range (size * size)).map fun k => PrD ((names ks).getD (k / size) "", (names ks).getD (k % size) "")) = ((List.range (size * size)).map fun k => ((names ks).getD (k / size) "", (names ks).getD (k % size) "")).map PrD := by
    rw [List.map_map]
    rfl
  have pin : ∀ x ∈ ((List.range (size * size)).map fun k => ((names ks).getD (k / size) "", (names ks).getD (k % size) "")), x.1 ∈ names ks ∧ x.2 ∈ names ks := by
    intro x hx
    obtain ⟨k, hk, rfl⟩ := List.mem_map.mp hx
    have hk := List.mem_range.mp hk
    have h1 : k / size < size := (Nat.div_lt_iff_lt_mul (by omega)).mpr hk
    have h2 := Nat.mod_lt k (show 0 < size by omega)
    have g : ∀ i, i < size → (names ks).getD i "" ∈ names ks := fun i hi => by
      rw [List.getD_eq_getElem?_getD, List.getElem?_eq_getElem (by omega)]
      exact List.getElem_mem _
    exact ⟨g _ h1, g _ h2⟩
  have pnd := pairs_nd zl kok.nd
  have plen : ((List.range (size * size)).map fun k => ((names ks).getD (k / size) "", (names ks).getD (k % size) "")).length = size * size := by simp
  rw [eP]
  generalize ((List.range (size * size)).map fun k => ((names ks).getD (k / size) "", (names ks).getD (k % size) "")) = prs at *
  have mle : mn ≤ size * size ∧ mn ≤ 12 := by
    have : ((size * size : Nat) : Int) = (size : Int) * size := Int.natCast_mul _ _
    omega
  obtain ⟨P1, hP1⟩ : ∃ P : Nat → DSt → M → Prop, ∀ j r m', P j r m' ↔ (∃ (as : List Arr) (rest : List (Str × Str)) (s' : PS), as.length = j ∧ rest.length + j = size * size ∧ AsOk (names ks) as ∧ rest.Nodup ∧ (∀ x ∈ rest, x.1 ∈ names ks ∧ x.2 ∈ names ks ∧ x ∉ as.map fun a => (a.f, a.s)) ∧ Pl a b s' (n + 2 + 24 * size + 3 * j) ∧ m' = pm a b s' (mset (mset m0 p8 (.lst (rest.map PrD))) p9 (.lst (as.map Arr.D))) ∧ ∃ o6 o7 o10, r = [some (.ref a), some (.int size), some (.int mn), some (.lst [.int cC, .int cD]), some (.lst ((names ks).map D.str)), some (ksD ks), o6, o7, some (.ref p8), some (.ref p9), o10]) := ⟨_, fun _ _ _ => Iff.rfl⟩
  refine ⟨P1, (hP1 _ _ _).mpr ⟨[], prs, s', rfl, by omega, ⟨by simp, by simp, by simp, by simp⟩, pnd, fun x hx => ⟨(pin x hx).1, (pin x hx).2, by simp⟩, p'.up (by omega), rfl, _, _, _, rfl⟩, ?_, ?_⟩
  · intro j d r m' hd hp1
    obtain ⟨as, rest, s3, hl2, hr, aok, rnd, rin, p3, rfl, o6, o7, o10, rfl⟩ := (hP1 _ _ _).mp hp1
    obtain ⟨rfl, hj⟩ := rngD_at hd
    have e8 : ∀ s', pm a b s' (mset (mset m0 p8 (.lst (rest.map PrD))) p9 (.lst (as.map Arr.D))) p8 = some (.lst (rest.map PrD)) := fun s' => by rw [pm_ne n8a n8b, mset_ne n98.symm]; exact mset_same
    try simp only [dSeq]
    try simp only [dIfS, dTest, dOp, dVar, dC, dCB, daCons, daNil, dSet, dRet, dNext, dDrop, dAsg, dPar, dAug, dAddI, dBreak, dCont, dRetN, slot, dLen, dCmpI, dSub, dAdd, dMul, dDiv, dMod, dPow, dNeg, dUn, dIx, dInt1, dAbs, dChain, dAnd, dOr, dNot, dAndV, dOrV, dNotV, dTru, dTruB, dIf, dTup, dLst, mkL, dSlice, dSl, doNone, doSome, dSum, dAll, dAny, dList, dTuple, dMax, dMin, eq_ii, ne_ii, eq_ss, ne_ss, eq_bb, ne_bb, eq_nn, ne_nn, dIsN, dNotN, dFgt, dIsB, dNotB, gN, gT, gsNil, gsCons, gSet, dBM, dAppend, dClear, dFld, dFldS, dProp, dCall, dMeth, dMake, dMakeN, daStar, dDictP, dCallO, dFor, dLc, diR1, diR2, diR3, diL, diT, diRv, diS, diE, dFmt, dFStr, dJs, dCallN, dFrzE, frz_l, in_ss, notin_ss, drR1, drR2, dListR, dRaise, dRaise0, dTryAs, dTry, dXf, dAddO, dInO, isL, insOf, Option.some.injEq, List.cons.injEq, D.int.injEq, D.bl.injEq, D.str.injEq, D.lst.injEq, D.tup.injEq, D.ref.injEq, MO.lst.injEq, MO.ins.injEq, mset_mset, and_true, true_and, and_self, and_assoc, exists_eq_left', exists_eq_left, exists_and_left, exists_and_right, exists_eq', List.set_cons_zero, List.set_cons_succ, decide_eq_true_eq, sqOf, lsOf, List.length_cons, List.length_nil, sizeLine_eq, List.append_nil, List.cons_append, List.nil_append, if_true, if_false, Bool.false_eq_true, reduceCtorEq, reduceIte, Nat.reduceAdd, Nat.reduceLeDiff, mset_same, Option.bind_some, List.length_map, Prod.mk.injEq, at0, at1, at2, at3, at4, at5, at6, at7, ix30, ix31, ix32, ix20, ix21, ix10, isi_ii, isi_ib, isi_ll, isi_bb, isi_ss, isi_tt, isi_is, isi_si, Bool.not_true, Bool.not_false, dCopyK, dGet2K, dDctR, dDisp1, dFrzEK, e8]
    refine draw_p p3 (by omega) (by omega) (by omega) (fun i s4 i0 i1 p4 => ?_)
    obtain ⟨iN, rfl⟩ : ∃ iN : Nat, i = iN := ⟨i.toNat, by omega⟩
    obtain ⟨pr, hpr⟩ : ∃ pr, rest[iN]? = some pr := ⟨_, List.getElem?_eq_getElem (by omega)⟩
    have hprm := mem_at hpr
    obtain ⟨g1, g2, g3⟩ := rin pr hprm
    refine ⟨p8, _, iN, iN, PrD pr, rfl, rfl, e8 s4, ⟨by omega, by omega⟩, by unfold seqIndex?; simp; omega, by rw [List.getElem?_map, hpr]; rfl, ?_⟩
    have e9 : (rest.map PrD).eraseIdx iN = (rest.eraseIdx iN).map PrD := by simp only [List.eraseIdx_eq_take_drop_succ, List.map_append, List.map_take, List.map_drop]
    rw [e9, pm_mset n8a n8b, mset_comm n98, mset_mset]
    have rnd' : (rest.eraseIdx iN).Nodup := rnd.sublist (List.eraseIdx_sublist ..)
    have hni : pr ∉ rest.eraseIdx iN := by
      intro hm
      rw [List.eraseIdx_eq_take_drop_succ] at hm
      obtain ⟨hlt, hpe⟩ := List.getElem?_eq_some_iff.mp hpr
      have esp : rest = rest.take iN ++ pr :: rest.drop (iN + 1) := by
        rw [← hpe, List.getElem_cons_drop, List.take_append_drop]
      rw [esp, List.nodup_append] at rnd
      rcases List.mem_append.mp hm with hm | hm
      · exact rnd.2.2 pr hm pr List.mem_cons_self rfl
      · exact (List.nodup_cons.mp rnd.2.1).1 hm
    have hel : (rest.eraseIdx iN).length + (j + 1) = size * size := by rw [List.length_eraseIdx, if_pos (by omega)]; omega
    have hes : ∀ x ∈ rest.eraseIdx iN, x ∈ rest := fun x hx => List.mem_of_mem_eraseIdx hx
    generalize rest.eraseIdx iN = rest' at *
    refine ⟨⟨_, lsOf_ref (by rw [pm_ne n9a n9b]; exact mset_same)⟩, ?_⟩
    simp only [PrD]
    walk_at "zs"
    refine num_p p4 (by omega) (by omega) (by omega) (fun g s5 gg1 gg2 p5 => ?_)
    refine ⟨_, by rw [pm_ne n9a n9b]; exact mset_same, by simp; omega, (hP1 _ _ _).mpr ⟨as ++ [⟨pr.1, pr.2, g⟩], rest', s5, by simp; omega, hel, ⟨?_, ?_, ?_, ?_⟩, rnd', fun x hx => ⟨(rin x (hes x hx)).1, (rin x (hes x hx)).2.1, ?_⟩, p5.up (by omega), ?_, _, _, _, rfl⟩⟩
    · intro y hy
      rcases List.mem_append.mp hy with hy | hy
      · exact aok.f y hy
      · rw [List.mem_singleton.mp hy]; exact g1
    · intro y hy
      rcases List.mem_append.mp hy with hy | hy
      · exact aok.s y hy
      · rw [List.mem_singleton.mp hy]; exact g2
    · intro y hy
      rcases List.mem_append.mp hy with hy | hy
      · exact aok.g y hy
      · rw [List.mem_singleton.mp hy]; exact ⟨gg1, gg2⟩
    · rw [List.map_append, List.nodup_append]
      exact ⟨aok.nd, by simp, fun u hu v hv e => by rw [List.mem_singleton.mp hv] at e; rw [e] at hu; exact g3 hu⟩
    · rw [List.map_append]
      intro hm
      rcases List.mem_append.mp hm with hm | hm
      · exact (rin x (hes x hx)).2.2 hm
      · rw [List.mem_singleton.mp hm] at hx; exact hni hx
    · rw [pm_mset n9a n9b, mset_mset, List.map_append]
      rfl
  intro r m' hp1
  obtain ⟨as, rest, s3, hl2, hr, aok, rnd, rin, p3, rfl, o6, o7, o10, rfl⟩ := (hP1 _ _ _).mp hp1
  rw [rngD_len] at hl2 p3 hr
  refine ⟨p9, _, rfl, by rw [pm_ne n9a n9b]; exact mset_same, ?_⟩
  rw [pm_mdel n9a n9b, mdel_mset (by rw [mset_ne n98]; exact n9)]
  walk_at "z7"
  refine name_p p3 (by omega) (fun z s4 hz p4 => ⟨pm a b s4 m0, ?_, ?_⟩)
  · intro c o hc
    by_cases ca : c = a
    · subst ca; rw [pm_a] at hc ⊢; exact hc
    · by_cases cb : c = b
      · subst cb; rw [pm_b p4.ne] at hc ⊢; exact hc
      · rw [pm_ne ca cb] at hc ⊢
        rw [mset_ne (fun e => by rw [e, n8] at hc; cases hc)]
        exact hc
  · refine q ⟨z, ks, as⟩ s4 ⟨hz, by show 1 ≤ ks.length; omega, by show ks.length ≤ 4; omega, by show as.length ≤ 12; omega, ?_, aok⟩ (p4.up (by omega))
    have : decide (0 < as.length) = bb := by rw [hbb, hl2]; simp
    show KsOk (decide (0 < as.length)) ks
    rw [this]
    exact kok
theorem found1 (w : Str) (c : Nat) : inS w ⟨#[c]⟩ = decide (c ∈ w.cps.toList) := StrLaws.found_one w c
theorem nm_ch {z : Str} (h : nameB z = true) : ∀ c ∈ z.cps.toList, 48 ≤ c := by
  unfold nameB at h
  simp only [Bool.and_eq_true] at h
  intro c hc
  have h2 := List.all_eq_true.mp h.2 c hc
  rw [found1, found1, Bool.or_eq_true, decide_eq_true_eq, decide_eq_true_eq] at h2
  have a1 : ∀ c ∈ LETTERS.cps.toList, 48 ≤ c := by decide +kernel
  have a2 : ∀ c ∈ SIGNS.cps.toList, 48 ≤ c := by decide +kernel
  rcases h2 with h2 | h2
  · exact a1 c h2
  · exact a2 c h2
theorem nm_len12 {z : Str} (h : nameB z = true) : 1 ≤ z.length ∧ z.length ≤ 12 := by
  unfold nameB at h
  simp only [Bool.and_eq_true, decide_eq_true_eq] at h
  exact h.1.1
theorem dig99 : ∀ k : Fin 100, ((Nat.toDigits 10 k.val).map Char.toNat).all (fun c => decide (48 ≤ c ∧ c ≤ 57)) = true ∧ ((Nat.toDigits 10 k.val).map Char.toNat).length ≤ 2 ∧ (k.val = 0 ∨ ((Nat.toDigits 10 k.val).map Char.toNat).head? ≠ some 48) ∧ Nat.toDigits 10 k.val ≠ [] := by decide +kernel
structure NumOk (w : Str) (n : Int) : Prop where
  ch : ∀ c ∈ w.cps.toList, 48 ≤ c ∧ c ≤ 57
  ne : ∃ c r, w.cps.toList = c :: r ∧ c ≠ 48
  l1 : 1 ≤ w.length
  l2 : w.length ≤ 2
  rd : PySem.intText? w = some n
theorem num_ok {n : Int} (h : 1 ≤ n ∧ n ≤ 99) : NumOk (numS n) n := by
  have er := PySem.W.KIN.num_reads (n := n) (by omega) (by omega)
  obtain ⟨k, rfl⟩ := Int.eq_ofNat_of_zero_le (show 0 ≤ n by omega)
  have e := PySem.W.KIN.signs_num k
  obtain ⟨h1, h2, h3, h4⟩ := dig99 ⟨k, by omega⟩
  have e : (numS ((k : Nat) : Int)).cps.toList = (Nat.toDigits 10 k).map Char.toNat := e
  have el : (numS ((k : Nat) : Int)).length = ((Nat.toDigits 10 k).map Char.toNat).length := by
    rw [← e]
    exact (Array.length_toList).symm
  dsimp only at h1 h2 h3 h4
  generalize hg : (Nat.toDigits 10 k).map Char.toNat = l at *
  cases l with
  | nil => exact absurd (List.map_eq_nil_iff.mp hg) h4
  | cons c r =>
    refine ⟨fun c hc => ?_, ⟨c, r, e, fun e2 => ?_⟩, by rw [el]; simp, by rw [el]; exact h2, er⟩
    · rw [e] at hc
      have := List.all_eq_true.mp h1 c hc
      simpa using this
    · rcases h3 with h3 | h3
      · omega
      · exact h3 (by rw [e2]; rfl)
def jn (c : Nat) : List (List Nat) → List Nat
  | [] => []
  | [a] => a
  | a :: b :: r => a ++ c :: jn c (b :: r)
theorem jn_cut {c : Nat} : ∀ {a b A B : List Nat}, c ∉ a → c ∉ b → a ++ c :: A = b ++ c :: B → a = b ∧ A = B
  | [], [], _, _, _, _, h => ⟨rfl, (List.cons.inj h).2⟩
  | [], x :: b, _, _, _, hb, h => absurd (List.cons.inj h).1 (fun e => hb (by rw [e]; exact List.mem_cons_self))
  | x :: a, [], _, _, ha, _, h => absurd (List.cons.inj h).1 (fun e => ha (by rw [← e]; exact List.mem_cons_self))
  | x :: a, y :: b, _, _, ha, hb, h => by
    obtain ⟨e1, e2⟩ := List.cons.inj h
    obtain ⟨e3, e4⟩ := jn_cut (fun m => ha (List.mem_cons_of_mem _ m)) (fun m => hb (List.mem_cons_of_mem _ m)) e2
    exact ⟨by rw [e1, e3], e4⟩
theorem jn_inj {c : Nat} : ∀ {ls ys : List (List Nat)}, ls ≠ [] → ys ≠ [] → (∀ l ∈ ls, c ∉ l) → (∀ l ∈ ys, c ∉ l) → jn c ls = jn c ys → ls = ys
  | [], _, h, _, _, _, _ => absurd rfl h
  | _, [], _, h, _, _, _ => absurd rfl h
  | [a], [b], _, _, _, _, h => by rw [show a = b from h]
  | [a], b :: d :: r, _, _, ha, _, h => by
    have h : a = b ++ c :: jn c (d :: r) := h
    exact absurd (ha a List.mem_cons_self) (by rw [h]; simp)
  | a :: d :: r, [b], _, _, _, hb, h => by
    have h : a ++ c :: jn c (d :: r) = b := h
    exact absurd (hb b List.mem_cons_self) (by rw [← h]; simp)
  | a :: d :: r, b :: e :: s, _, _, ha, hb, h => by
    obtain ⟨e1, e2⟩ := jn_cut (ha a List.mem_cons_self) (hb b List.mem_cons_self) (show a ++ c :: jn c (d :: r) = b ++ c :: jn c (e :: s) from h)
    rw [e1, jn_inj (List.cons_ne_nil _ _) (List.cons_ne_nil _ _) (fun l hl => ha l (List.mem_cons_of_mem _ hl)) (fun l hl => hb l (List.mem_cons_of_mem _ hl)) e2]
theorem join_jn (c : Nat) : ∀ ls : List Str, (Str.join ⟨#[c]⟩ ls).cps.toList = jn c (ls.map fun z => z.cps.toList)
  | [] => rfl
  | [a] => rfl
  | a :: b :: r => by
    show (a ++ ⟨#[c]⟩ ++ Str.join ⟨#[c]⟩ (b :: r)).cps.toList = _
    rw [cps_app, cps_app, join_jn c (b :: r)]
    simp [jn]
theorem map_cps_inj : ∀ {a b : List Str}, (a.map fun z => z.cps.toList) = (b.map fun z => z.cps.toList) → a = b
  | [], [], _ => rfl
  | [], _ :: _, h => by cases h
  | _ :: _, [], h => by cases h
  | x :: a, y :: b, h => by
    obtain ⟨h1, h2⟩ := List.cons.inj h
    rw [str_ext h1, map_cps_inj h2]
theorem split_is {c : Nat} {x : Str} {ls : List Str} (h0 : ls ≠ []) (hf : ∀ l ∈ ls, c ∉ l.cps.toList) (e : x.cps.toList = jn c (ls.map fun z => z.cps.toList)) : PySem.Txt.split x ⟨#[c]⟩ = ls := by
  have e1 := congrArg (fun z : Str => z.cps.toList) (StrLaws.join_split x ⟨#[c]⟩)
  have e1 : (Str.join ⟨#[c]⟩ (PySem.Txt.split x ⟨#[c]⟩)).cps.toList = x.cps.toList := e1
  rw [join_jn, e] at e1
  have hne : PySem.Txt.split x ⟨#[c]⟩ ≠ [] := by
    unfold PySem.Txt.split
    split
    · exact List.cons_ne_nil _ _
    · split
      · exact List.cons_ne_nil _ _
      · intro h
        have h := congrArg List.length h
        rw [len_partsBetween] at h
        simp at h
  refine map_cps_inj (jn_inj (c := c) (fun h => hne (List.map_eq_nil_iff.mp h)) (fun h => h0 (List.map_eq_nil_iff.mp h)) ?_ ?_ e1)
  · intro l hl
    obtain ⟨z, hz, rfl⟩ := List.mem_map.mp hl
    exact StrLaws.split_free x c z hz
  · intro l hl
    obtain ⟨z, hz, rfl⟩ := List.mem_map.mp hl
    exact hf z hz
theorem Ln.Ok.ws {r : Ln} (h : r.Ok) : ∀ w ∈ r.ws, w ≠ "" ∧ w.length ≤ 12 ∧ ∀ c ∈ w.cps.toList, 48 ≤ c := by
  have nn : ∀ {z : Str}, nameB z = true → z ≠ "" ∧ z.length ≤ 12 ∧ ∀ c ∈ z.cps.toList, 48 ≤ c := fun h => ⟨fun e => by rw [e] at h; exact absurd h (by decide +kernel), (nm_len12 h).2, nm_ch h⟩
  have nu : ∀ {n : Int}, 1 ≤ n ∧ n ≤ 99 → numS n ≠ "" ∧ (numS n).length ≤ 12 ∧ ∀ c ∈ (numS n).cps.toList, 48 ≤ c := fun h => ⟨fun e => by have := (num_ok h).l1; rw [e] at this; exact absurd this (by decide +kernel), by have := (num_ok h).l2; omega, fun c hc => ((num_ok h).ch c hc).1⟩
  have k1 : ("task" : Str) ≠ "" ∧ ("task" : Str).length ≤ 12 ∧ ∀ c ∈ ("task" : Str).cps.toList, 48 ≤ c := by decide +kernel
  have k2 : ("kind" : Str) ≠ "" ∧ ("kind" : Str).length ≤ 12 ∧ ∀ c ∈ ("kind" : Str).cps.toList, 48 ≤ c := by decide +kernel
  have k3 : ("arrow" : Str) ≠ "" ∧ ("arrow" : Str).length ≤ 12 ∧ ∀ c ∈ ("arrow" : Str).cps.toList, 48 ≤ c := by decide +kernel
  intro w hw
  cases r with
  | task z =>
    simp only [Ln.ws, List.mem_cons, List.not_mem_nil, or_false] at hw
    rcases hw with rfl | rfl
    · exact k1
    · exact nn h
  | kind z c d =>
    simp only [Ln.ws, List.mem_cons, List.not_mem_nil, or_false] at hw
    rcases hw with rfl | rfl | rfl | rfl
    · exact k2
    · exact nn h.1
    · exact nu h.2.1
    · exact nu h.2.2
  | arrow a b g =>
    simp only [Ln.ws, List.mem_cons, List.not_mem_nil, or_false] at hw
    rcases hw with rfl | rfl | rfl | rfl
    · exact k3
    · exact nn h.1
    · exact nn h.2.1
    · exact nu h.2.2
theorem lit_task : ("task " : Str).cps.toList = ("task" : Str).cps.toList ++ [32] := by decide +kernel
theorem lit_kind : ("kind " : Str).cps.toList = ("kind" : Str).cps.toList ++ [32] := by decide +kernel
theorem lit_arrow : ("arrow " : Str).cps.toList = ("arrow" : Str).cps.toList ++ [32] := by decide +kernel
theorem lit_sp : (" " : Str).cps.toList = [32] := by decide +kernel
theorem lit_nl : ("\n" : Str).cps.toList = [10] := by decide +kernel
theorem sp_is : (" " : Str) = ⟨#[32]⟩ := str_ext lit_sp
theorem nl_is : ("\n" : Str) = ⟨#[10]⟩ := str_ext lit_nl
theorem txt_jn (r : Ln) : r.txt.cps.toList = jn 32 (r.ws.map fun z => z.cps.toList) := by
  cases r <;> simp [Ln.txt, Ln.ws, cps_app, jn, lit_task, lit_kind, lit_arrow, lit_sp]
theorem Ln.Ok.split {r : Ln} (h : r.Ok) : PySem.Txt.split r.txt " " = r.ws := by
  rw [sp_is]
  refine split_is (by cases r <;> simp [Ln.ws]) (fun l hl hc => ?_) (txt_jn r)
  have := (h.ws l hl).2.2 32 hc
  omega
theorem Ln.Ok.ch {r : Ln} (h : r.Ok) : 10 ∉ r.txt.cps.toList := by
  rw [txt_jn]
  have a : ∀ ls : List (List Nat), (∀ l ∈ ls, 10 ∉ l) → 10 ∉ jn 32 ls := by
    intro ls
    induction ls with
    | nil => intro _; simp [jn]
    | cons x ls ih =>
      intro hx
      cases ls with
      | nil => exact hx x List.mem_cons_self
      | cons y ls =>
        have i := ih fun l hl => hx l (List.mem_cons_of_mem _ hl)
        have i2 := hx x List.mem_cons_self
        simp only [jn, List.mem_append, List.mem_cons, not_or]
        exact ⟨i2, by decide, i⟩
  refine a _ fun l hl hc => ?_
  obtain ⟨w, hw, rfl⟩ := List.mem_map.mp hl
  have := (h.ws w hw).2.2 10 hc
  omega
theorem txtL_cps (rs : List Ln) : (txtL rs).cps.toList = txtC rs := rfl
theorem len_cps (z : Str) : z.length = z.cps.toList.length := (Array.length_toList).symm
theorem len_app (a b : Str) : (a ++ b).length = a.length + b.length := by rw [len_cps, len_cps, len_cps, cps_app, List.length_append]
theorem Ln.Ok.len {r : Ln} (h : r.Ok) : r.txt.length ≤ 60 := by
  have l := fun w hw => (h.ws w hw).2.1
  cases r with
  | task z =>
    have := l z (by simp [Ln.ws])
    simp only [Ln.txt, len_app]
    have e : ("task " : Str).length = 5 := by decide +kernel
    omega
  | kind z c d =>
    have h1 := l z (by simp [Ln.ws])
    have h2 := l (numS c) (by simp [Ln.ws])
    have h3 := l (numS d) (by simp [Ln.ws])
    simp only [Ln.txt, len_app]
    have e : ("kind " : Str).length = 5 := by decide +kernel
    have e2 : (" " : Str).length = 1 := by decide +kernel
    omega
  | arrow a b g =>
    have h1 := l a (by simp [Ln.ws])
    have h2 := l b (by simp [Ln.ws])
    have h3 := l (numS g) (by simp [Ln.ws])
    simp only [Ln.txt, len_app]
    have e : ("arrow " : Str).length = 6 := by decide +kernel
    have e2 : (" " : Str).length = 1 := by decide +kernel
    omega
theorem Ln.Ok.len2 {r : Ln} (h : r.Ok) : r.line.length ≤ 61 := by
  have := h.len
  have e : ("\n" : Str).length = 1 := by decide +kernel
  simp only [Ln.line, len_app]
  omega
theorem txtL_len : ∀ {rs : List Ln}, (∀ r ∈ rs, r.Ok) → (txtL rs).length ≤ 61 * rs.length
  | [], _ => by decide +kernel
  | r :: rs, h => by
    have i := txtL_len fun r hr => h r (List.mem_cons_of_mem _ hr)
    have i2 := (h r List.mem_cons_self).len2
    rw [len_cps, txtL_cps] at i ⊢
    show (r.line.cps.toList ++ txtC rs).length ≤ _
    rw [len_cps] at i2
    rw [List.length_append, List.length_cons]
    omega
theorem join0 : ∀ ls : List Str, (PySem.Txt.join "" ls).cps.toList = ls.flatMap fun z => z.cps.toList := by
  intro ls
  have h : ∀ ls : List Str, (Str.join "" ls).cps.toList = ls.flatMap fun z => z.cps.toList := by
    intro ls
    induction ls with
    | nil => rfl
    | cons a ls ih =>
      cases ls with
      | nil => simp [Str.join]
      | cons b ls =>
        show (a ++ "" ++ Str.join "" (b :: ls)).cps.toList = _
        rw [cps_app, cps_app, ih]
        have e : ("" : Str).cps.toList = [] := by decide +kernel
        rw [e, List.append_nil]
        rfl
  exact (congrArg (fun z : Str => z.cps.toList) (StrLaws.glued_eq_join "" ls)).trans (h ls)
theorem join_lines (rs : List Ln) : PySem.Txt.join "" (rs.map Ln.line) = txtL rs := str_ext (by rw [join0, List.flatMap_map]; rfl)
theorem lines_sum : ∀ {rs : List Ln}, (∀ r ∈ rs, r.Ok) → ((rs.map Ln.line).map (·.length)).sum ≤ 61 * rs.length
  | [], _ => by simp
  | r :: rs, h => by
    have i := lines_sum fun r hr => h r (List.mem_cons_of_mem _ hr)
    have i2 := (h r List.mem_cons_self).len2
    simp only [List.map_cons, List.sum_cons, List.length_cons]
    omega
theorem Tsk.Ok.rows {t : Tsk} (h : t.Ok) : (∀ r ∈ rowsT t, r.Ok) ∧ (rowsT t).length ≤ 17 := by
  have k4 := h.k4
  have a12 := h.a12
  refine ⟨fun r hr => ?_, by simp [rowsT]; omega⟩
  rcases List.mem_cons.mp hr with rfl | hr
  · exact h.nm
  · rcases List.mem_append.mp hr with hr | hr
    · obtain ⟨k, hk, rfl⟩ := List.mem_map.mp hr
      have c := h.ks.c k hk
      have d := h.ks.d k hk
      refine ⟨h.ks.nm k hk, ⟨c.1, ?_⟩, ⟨d.1, ?_⟩⟩
      · have := c.2; split at this <;> omega
      · have := d.2; split at this <;> omega
    · obtain ⟨a, ha, rfl⟩ := List.mem_map.mp hr
      have g := h.as.g a ha
      have nn : ∀ z ∈ names t.ks, nameB z = true := fun z hz => by
        obtain ⟨k, hk, rfl⟩ := List.mem_map.mp hz
        exact h.ks.nm k hk
      exact ⟨nn _ (h.as.f a ha), nn _ (h.as.s a ha), g.1, by have := g.2; omega⟩
theorem rowsOf_ok {ts : List Tsk} (h : ∀ t ∈ ts, t.Ok) : (∀ r ∈ rowsOf ts, r.Ok) ∧ (rowsOf ts).length ≤ 17 * ts.length := by
  induction ts with
  | nil => exact ⟨nofun, by simp [rowsOf]⟩
  | cons t ts ih =>
    obtain ⟨i1, i2⟩ := ih fun t ht => h t (List.mem_cons_of_mem _ ht)
    obtain ⟨j1, j2⟩ := (h t List.mem_cons_self).rows
    have e : rowsOf (t :: ts) = rowsT t ++ rowsOf ts := rfl
    refine ⟨fun r hr => ?_, by rw [e, List.length_append, List.length_cons]; omega⟩
    rw [e] at hr
    rcases List.mem_append.mp hr with hr | hr
    · exact j1 r hr
    · exact i1 r hr
theorem upL_app (f : Tsk → Tsk) (t : Tsk) : ∀ ts : List Tsk, upL f (ts ++ [t]) = ts ++ [f t]
  | [] => rfl
  | [a] => rfl
  | a :: b :: r => by
    show a :: upL f (b :: r ++ [t]) = _
    rw [upL_app f t (b :: r)]
    rfl
theorem dig_eq (c : Nat) : inS "0123456789" ⟨#[c]⟩ = digB c := by
  rw [found1, show ("0123456789" : Str).cps.toList = [48, 49, 50, 51, 52, 53, 54, 55, 56, 57] by decide +kernel]
  unfold digB
  simp only [List.mem_cons, List.not_mem_nil, or_false]
  congr 1
  exact propext ⟨fun h => by omega, fun h => by omega⟩
theorem num_rd {w : Str} (h1 : 1 ≤ w.length) (h2 : w.length ≤ 9) (hd : w.cps.toList.all digB = true) : ∃ n : Nat, PySem.intText? w = some (n : Int) :=
  ⟨_, PySem.intText_digits (fun c hc => by
    have := List.all_eq_true.mp hd c hc
    unfold digB at this
    exact of_decide_eq_true this) (fun e => by rw [len_cps, e] at h1; exact absurd h1 (by simp)) (by omega)⟩
theorem numP_nn {w : Str} {n : Int} (h : numP w = some n) : 0 ≤ n := by
  unfold numP at h
  by_cases h1 : 1 ≤ w.length ∧ w.length ≤ 9
  · rw [if_pos h1] at h
    by_cases hd : w.cps.toList.all digB = true
    · rw [if_pos hd] at h
      by_cases h2 : w.cps.toList.head? = some 48 ∧ w.length ≠ 1
      · rw [if_pos h2] at h; cases h
      · rw [if_neg h2] at h
        obtain ⟨k, hk⟩ := num_rd h1.1 h1.2 hd
        rw [hk] at h
        cases h
        omega
    · rw [if_neg hd] at h; cases h
  · rw [if_neg h1] at h; cases h
theorem cps_cons {w : Str} (h : 1 ≤ w.length) : ∃ c r, w.cps.toList = c :: r := by
  rw [len_cps] at h
  cases e : w.cps.toList with
  | nil => rw [e] at h; simp at h
  | cons c r => exact ⟨c, r, rfl⟩
theorem zero_is {w : Str} {c : Nat} {r : List Nat} (h : w.cps.toList = c :: r) : w = "0" ↔ c = 48 ∧ w.length = 1 := by
  have e0 : ("0" : Str).cps.toList = [48] := by decide +kernel
  constructor
  · intro e
    have e2 := congrArg (fun z : Str => z.cps.toList) e
    rw [e0, h] at e2
    exact ⟨(List.cons.inj e2).1, by rw [len_cps, h, (List.cons.inj e2).2]; rfl⟩
  · rintro ⟨rfl, e⟩
    rw [len_cps, h] at e
    refine str_ext ?_
    rw [h, e0, List.length_eq_zero_iff.mp (show r.length = 0 by simpa using e)]
theorem chr_zero {c : Nat} : ((⟨#[c]⟩ : Str) = "0") ↔ c = 48 := by
  constructor
  · intro e
    have e2 := congrArg (fun z : Str => z.cps.toList) e
    exact (List.cons.inj (show [c] = [48] from e2)).1
  · rintro rfl
    decide +kernel
theorem pure_number_of {K : Fr0} {mg : Str → Option Value} (T : Txt K mg) (ds : List D) (m : M) (Q : D → M → Prop) (E : XD → M → Prop) (h : sp_number_of K ds m Q E) : t_number_of K (fun x _ m => E x m) { nx := fun _ m => Q .non m, rt := Q } (startD nm_number_of ds) m := by
  obtain ⟨w, rfl, hw, q⟩ := h
  show t_number_of K _ _ [some (.str w), none] m
  unfold t_number_of
  unfold numP at q
  walk_at "zn"
  by_cases l1 : 1 ≤ w.length
  rotate_left
  · rw [if_neg (by omega)]
    rw [if_neg (by omega)] at q
    exact ⟨by omega, q⟩
  rw [if_pos (by omega)]
  refine ⟨by omega, ?_⟩
  by_cases l2 : w.length ≤ 9
  rotate_left
  · rw [if_pos (by simp; omega)]
    rw [if_neg (by omega)] at q
    exact q
  rw [if_neg (by simp; omega)]
  rw [if_pos ⟨l1, l2⟩] at q
  refine lc_pure (fun d => match d with | .str i => .bl (inS "0123456789" i) | _ => .non) (by rw [chars_len, sizeLine_eq]; simp; have : w.cps.size ≤ 9 := l2; omega) (fun x hx => ?_) ?_
  · obtain ⟨c2, hc2, rfl⟩ := List.mem_map.mp hx
    refine ⟨_, rfl, fun Q' q' => ?_⟩
    simp only [wipeD]
    walk_at "zs"
    exact q'
  obtain ⟨c, r, hc⟩ := cps_cons l1
  refine ⟨w.cps.toList.map digB, ?_, ?_⟩
  · unfold chars
    rw [List.nil_append, List.map_map, List.map_map]
    refine List.map_congr_left fun c _ => ?_
    exact congrArg D.bl (dig_eq c)
  rw [List.all_map]
  by_cases hd : w.cps.toList.all digB = true
  rotate_left
  · rw [if_neg hd] at q
    rw [if_pos (by simpa using hd)]
    exact q
  rw [if_pos hd] at q
  rw [if_neg (by simpa using hd)]
  walk_at "zn"
  refine ⟨by omega, c, by rw [hc]; exact atI_nat (j := 0) rfl, ?_⟩
  obtain ⟨k, hk⟩ := num_rd l1 l2 hd
  rw [hk, hc] at q
  have ez := zero_is hc
  by_cases h48 : c = 48
  · subst h48
    rw [if_pos (chr_zero.mpr rfl)]
    by_cases e1 : w.length = 1
    · rw [if_neg (by simp [e1])] at q
      rw [if_neg (by simp [ez.mpr ⟨rfl, e1⟩])]
      walk_at "zn"
      exact ⟨_, _, rfl, hk, by omega, q⟩
    · rw [if_pos ⟨rfl, e1⟩] at q
      rw [if_pos (by simp; exact fun e => e1 (ez.mp e).2)]
      exact q
  · rw [if_neg (fun e => h48 (chr_zero.mp e))]
    rw [if_neg (fun e => h48 (Option.some.inj e.1))] at q
    walk_at "zn"
    exact ⟨_, _, rfl, hk, by omega, q⟩
theorem pure_kind_parts {K : Fr0} {mg : Str → Option Value} (T : Txt K mg) (ds : List D) (m : M) (Q : D → M → Prop) (E : XD → M → Prop) (h : sp_kind_parts K ds m Q E) : t_kind_parts K (fun x _ m => E x m) { nx := fun _ m => Q .non m, rt := Q } (startD nm_kind_parts ds) m := by
  obtain ⟨z, c, d, rfl, hc, hd, q⟩ := h
  show t_kind_parts K _ _ [some (.str z), some (.str c), some (.str d), none] m
  unfold t_kind_parts
  unfold kindP at q
  walk_at "zn"
  refine ⟨c, rfl, hc, ?_⟩
  walk_at "zn"
  refine ⟨d, rfl, hd, ?_⟩
  walk_at "zn"
  have fl : ∀ o : Option Int, flatD (numD o) = true := fun o => by cases o <;> rfl
  cases hx : numP c with
  | none => 
    rw [hx] at q
    refine ⟨_, rfl, rfl, by simp [fl], true, rfl, ?_⟩
    rw [if_pos rfl]
    exact q
  | some a =>
    cases hy : numP d with
    | none =>
      rw [hx, hy] at q
      simp only [numD]
      refine ⟨_, rfl, rfl, rfl, true, rfl, ?_⟩
      rw [if_pos rfl]
      exact q
    | some b =>
      rw [hx, hy] at q
      simp only [numD]
      refine ⟨_, rfl, rfl, rfl, false, rfl, ?_⟩
      rw [if_neg (by decide)]
      exact q
theorem pure_arrow_parts {K : Fr0} {mg : Str → Option Value} (T : Txt K mg) (ds : List D) (m : M) (Q : D → M → Prop) (E : XD → M → Prop) (h : sp_arrow_parts K ds m Q E) : t_arrow_parts K (fun x _ m => E x m) { nx := fun _ m => Q .non m, rt := Q } (startD nm_arrow_parts ds) m := by
  obtain ⟨z, w, g, rfl, hg, q⟩ := h
  show t_arrow_parts K _ _ [some (.str z), some (.str w), some (.str g), none] m
  unfold t_arrow_parts
  unfold arrP at q
  walk_at "zn"
  refine ⟨g, rfl, hg, ?_⟩
  cases hx : numP g with
  | none =>
    rw [hx] at q
    simp only [numD]
    walk_at "zn"
    exact q
  | some a =>
    rw [hx] at q
    simp only [numD]
    walk_at "zn"
    exact q
theorem split_ne (x : Str) (c : Nat) : PySem.Txt.split x ⟨#[c]⟩ ≠ [] := by
  unfold PySem.Txt.split
  split
  · exact List.cons_ne_nil _ _
  · split
    · exact List.cons_ne_nil _ _
    · intro h
      have h := congrArg List.length h
      rw [len_partsBetween] at h
      simp at h
theorem split_jn (x : Str) (c : Nat) : jn c ((PySem.Txt.split x ⟨#[c]⟩).map fun z => z.cps.toList) = x.cps.toList := by
  have e1 := congrArg (fun z : Str => z.cps.toList) (StrLaws.join_split x ⟨#[c]⟩)
  have e1 : (Str.join ⟨#[c]⟩ (PySem.Txt.split x ⟨#[c]⟩)).cps.toList = x.cps.toList := e1
  rw [join_jn] at e1
  exact e1
theorem jn_part {c : Nat} : ∀ {ls : List (List Nat)} {l : List Nat}, l ∈ ls → l.length ≤ (jn c ls).length ∧ ∀ x ∈ l, x ∈ jn c ls
  | [a], l, h => by
    rw [List.mem_singleton.mp h]
    exact ⟨Nat.le_refl _, fun _ h => h⟩
  | a :: b :: r, l, h => by
    show l.length ≤ (a ++ c :: jn c (b :: r)).length ∧ ∀ x ∈ l, x ∈ a ++ c :: jn c (b :: r)
    rcases List.mem_cons.mp h with rfl | h
    · exact ⟨by simp, fun x hx => List.mem_append_left _ hx⟩
    · obtain ⟨h1, h2⟩ := jn_part (c := c) h
      refine ⟨?_, fun x hx => List.mem_append_right _ (List.mem_cons_of_mem _ (h2 x hx))⟩
      rw [List.length_append, List.length_cons]
      omega
theorem split_part {x w : Str} {c : Nat} (h : w ∈ PySem.Txt.split x ⟨#[c]⟩) : w.length ≤ x.length ∧ (∀ d ∈ w.cps.toList, d ∈ x.cps.toList) ∧ c ∉ w.cps.toList := by
  have h1 := jn_part (c := c) (List.mem_map_of_mem (f := fun z : Str => z.cps.toList) h)
  rw [split_jn] at h1
  exact ⟨by rw [len_cps, len_cps]; exact h1.1, h1.2, StrLaws.split_free x c w h⟩
theorem in_strs1 (ws : List Str) (z : Str) : inD (.str z) (ws.map D.str) = decide (z ∈ ws) := by
  unfold inD
  rw [List.any_map, Bool.eq_iff_iff, List.any_eq_true, decide_eq_true_eq]
  constructor
  · rintro ⟨w, hw, e⟩
    have e2 : decide (w = z) = true := e
    rw [← of_decide_eq_true e2]
    exact hw
  · exact fun h => ⟨z, h, decide_eq_true rfl⟩
theorem hit {kw : Str} {is : List Nat} {t : DTS} {u : List Str → DTS} {ws vs : List Str} {DD : DEnds} {r : DSt} {m : M} (e : ws = kw :: vs) (hl : vs.length = is.length) (h : t DD (setsD r is (vs.map D.str)) m) : dCase kw is t u ws DD r m := by
  subst e
  show (if (kw :: vs).head? = some kw ∧ (kw :: vs).length = is.length + 1 then _ else _)
  rw [if_pos ⟨rfl, by rw [List.length_cons, hl]⟩]
  exact h
theorem miss {kw : Str} {is : List Nat} {t : DTS} {u : List Str → DTS} {ws : List Str} {DD : DEnds} {r : DSt} {m : M} (h : ¬ (ws.head? = some kw ∧ ws.length = is.length + 1)) (g : u ws DD r m) : dCase kw is t u ws DD r m := by
  show (if _ then _ else _)
  rw [if_neg h]
  exact g
theorem pure_line_parts {K : Fr0} {mg : Str → Option Value} (T : Txt K mg) (ds : List D) (m : M) (Q : D → M → Prop) (E : XD → M → Prop) (h : sp_line_parts K ds m Q E) : t_line_parts K (fun x _ m => E x m) { nx := fun _ m => Q .non m, rt := Q } (startD nm_line_parts ds) m := by
  obtain ⟨x, rfl, hx, q⟩ := h
  show t_line_parts K _ _ [some (.str x), none, none, none, none, none, none, none] m
  unfold t_line_parts
  unfold lineP at q
  try simp only [dSeq]
  walk_at "z4"
  refine ⟨⟨_, rfl⟩, by decide +kernel, by omega, ?_⟩
  have hws : ∀ w ∈ PySem.Txt.split x " ", w.length ≤ x.length := fun w hw => (split_part (c := 32) (by rw [← sp_is]; exact hw)).1
  generalize PySem.Txt.split x " " = ws at *
  have hfl : (ws.map D.str).all flatD = true := by rw [List.all_map]; exact List.all_eq_true.mpr fun _ _ => rfl
  rw [dSeq]
  walk_at "zs"
  refine ⟨_, rfl, rfl, hfl, _, by rw [if_neg (by decide), in_strs1], ?_⟩
  by_cases he : ("" : Str) ∈ ws
  · rw [if_pos he] at q
    rw [if_pos (decide_eq_true he)]
    walk_at "zs"
    exact q
  rw [if_neg he] at q
  rw [if_neg (by simpa using he)]
  unfold dMatch
  walk_at "zs"
  refine ⟨ws, rfl, ?_⟩
  have sz : ∀ w ∈ ws, w.length ≤ 1000000 := fun w hw => Nat.le_trans (hws w hw) hx
  match ws, q, sz with
  | [], q, sz => 
    refine miss (by simp) (miss (by simp) (miss (by simp) ?_))
    walk_at "zs"
    exact q
  | [a], q, sz => 
    refine miss (by simp) (miss (by simp) (miss (by simp) ?_))
    walk_at "zs"
    exact q
  | [a, b, c], q, sz => 
    refine miss (by simp) (miss (by simp) (miss (by simp) ?_))
    walk_at "zs"
    exact q
  | a :: b :: c :: d :: e :: r, q, sz => 
    refine miss (by simp) (miss (by simp) (miss (by simp) ?_))
    walk_at "zs"
    exact q
  | [k, z], q, sz => 
    have q : Q (lnD (if k = "task" then some (.task z) else none)) m := q
    by_cases hk : k = "task"
    · subst hk
      refine hit (vs := [z]) rfl rfl ?_
      simp only [List.map_cons, List.map_nil, setsD]
      walk_at "zs"
      exact q
    · rw [if_neg hk] at q
      refine miss (by simp [hk]) (miss (by simp) (miss (by simp) ?_))
      walk_at "zs"
      exact q
  | [k, z, c, d], q, sz =>
    have q : Q (lnD (if k = "kind" then kindP z c d else if k = "arrow" then arrP z c d else none)) m := q
    have n3 : ("arrow" : Str) ≠ "kind" := by decide +kernel
    have hc := sz c (by simp)
    have hd := sz d (by simp)
    by_cases hk : k = "kind"
    · subst hk
      rw [if_pos rfl] at q
      refine miss (by simp) (hit (vs := [z, c, d]) rfl rfl ?_)
      simp only [List.map_cons, List.map_nil, setsD]
      walk_at "zs"
      exact ⟨z, c, d, rfl, hc, hd, q⟩
    rw [if_neg hk] at q
    by_cases ha : k = "arrow"
    · subst ha
      rw [if_pos rfl] at q
      refine miss (by simp) (miss (by simp [hk]) (hit (vs := [z, c, d]) rfl rfl ?_))
      simp only [List.map_cons, List.map_nil, setsD]
      walk_at "zs"
      exact ⟨z, c, d, rfl, hd, q⟩
    · rw [if_neg ha] at q
      refine miss (by simp) (miss (by simp [hk]) (miss (by simp [ha]) ?_))
      walk_at "zs"
      exact q
def OutR (K : Fr0) (o : Nat ⊕ List Ln) (m : M) (q : List Ln → Prop) (E : XD → M → Prop) : Prop := match o with
  | .inl k => ∀ m', MSub m m' → E (Bad.X K k) m'
  | .inr rs => q rs
theorem rdL_step {n : Nat} {acc : List Ln} {l y : Str} {ls : List Str} : rdL n acc (l :: y :: ls) = (match lineP l with
    | none => .inl (n + 1)
    | some r => if r.isT = true ∨ acc ≠ [] then rdL (n + 1) (acc ++ [r]) (y :: ls) else .inl (n + 1)) := rfl
theorem rdL_last {n : Nat} {acc : List Ln} {l : Str} : rdL n acc [l] = if l = "" then .inr acc else .inl (n + 1) := rfl
theorem drop2 {α : Type} {ls : List α} {j : Nat} (h : j + 1 < ls.length) : ∃ l y r, ls.drop j = l :: y :: r ∧ ls[j]? = some l ∧ ls.drop (j + 1) = y :: r := by
  have e1 := (List.getElem_cons_drop (show j < ls.length by omega)).symm
  have e2 := (List.getElem_cons_drop h).symm
  exact ⟨ls[j], ls[j + 1], ls.drop (j + 1 + 1), by rw [e1, e2], by simp, e2⟩
theorem pure_read_lines {K : Fr0} {mg : Str → Option Value} (T : Txt K mg) (ds : List D) (m : M) (Q : D → M → Prop) (E : XD → M → Prop) (h : sp_read_lines K ds m Q E) : t_read_lines K (fun x _ m => E x m) { nx := fun _ m => Q .non m, rt := Q } (startD nm_read_lines ds) m := by
  obtain ⟨z, rfl, ok, q⟩ := h
  have zl := ok.len
  have hnl := ok.nl
  have q : OutR K (rdL 0 [] (PySem.Txt.split z "\n")) m (fun rs => Q (.lst (rs.map Ln.D)) m) E := q
  have hws : ∀ w ∈ PySem.Txt.split z "\n", w.length ≤ z.length := fun w hw => (split_part (c := 10) (by rw [← nl_is]; exact hw)).1
  have hne : PySem.Txt.split z "\n" ≠ [] := by rw [nl_is]; exact split_ne z 10
  show t_read_lines K _ _ [some (.str z), none, none, none, none] m
  unfold t_read_lines
  try simp only [dSeq]
  walk_at "z4"
  generalize PySem.Txt.split z "\n" = ls at *
  refine ⟨⟨_, rfl⟩, by decide +kernel, by omega, ?_⟩
  walk_at "zn"
  intro p hp
  walk_at "zn"
  have hl1 : 1 ≤ ls.length := List.length_pos_iff.mpr hne
  refine ⟨by omega, by omega, ?_⟩
  rw [show (((ls.length : Nat) : Int) - 1).toNat = ls.length - 1 by omega]
  obtain ⟨P1, hP1⟩ : ∃ P : Nat → DSt → M → Prop, ∀ j r m', P j r m' ↔ (j ≤ ls.length - 1 ∧ ∃ acc : List Ln, m' = mset m p (.lst (acc.map Ln.D)) ∧ acc.length ≤ j ∧ OutR K (rdL j acc (ls.drop j)) m (fun rs => Q (.lst (rs.map Ln.D)) m) E ∧ ∃ o3 o4, r = [some (.str z), some (.lst (ls.map D.str)), some (.ref p), o3, o4]) := ⟨_, fun _ _ _ => Iff.rfl⟩
  refine ⟨P1, (hP1 0 _ _).mpr ⟨by omega, [], rfl, by simp, q, _, _, rfl⟩, ?_, ?_⟩
  · intro j d r m' hd hp1
    obtain ⟨hj0, acc, rfl, ha, q, o3, o4, rfl⟩ := (hP1 _ _ _).mp hp1
    obtain ⟨rfl, hj⟩ := rngD_at hd
    obtain ⟨l, y, rest, e1, e2, e3⟩ := drop2 (ls := ls) (j := j) (by omega)
    rw [e1, rdL_step] at q
    generalize hK : dSeq (dIfS (dOr _ _) _ _) _ = kk
    walk_at "zn"
    rw [Int.zero_add]
    refine ⟨_, atI_nat (by rw [List.getElem?_map, e2]; rfl), l, rfl, by have := hws l (List.mem_of_getElem? e2); omega, ?_⟩
    subst hK
    have sb : MSub m (mset m p (.lst (acc.map Ln.D))) := MSub.set hp
    cases hx : lineP l with
    | none =>
      rw [hx] at q
      simp only [lnD]
      walk_at "zn"
      exact q _ sb
    | some x =>
      rw [hx] at q
      have q : OutR K (if x.isT = true ∨ acc ≠ [] then rdL (j + 1) (acc ++ [x]) (ls.drop (j + 1)) else .inl (j + 1)) m (fun rs => Q (.lst (rs.map Ln.D)) m) E := by rw [e3]; exact q
      have hP : ∀ o3, (x.isT = true ∨ acc ≠ []) → P1 (j + 1) [some (.str z), some (.lst (ls.map D.str)), some (.ref p), o3, some x.D] (mset m p (.lst (acc.map Ln.D ++ [x.D]))) := fun o3 hc => by
        rw [if_pos hc] at q
        exact (hP1 _ _ _).mpr ⟨by omega, acc ++ [x], by rw [List.map_append]; rfl, by rw [List.length_append]; simp; omega, q, _, _, rfl⟩
      have hem : ∀ b : Bool, b = (acc.map Ln.D).isEmpty → (b = true ↔ acc = []) := fun b e => by
        rw [e, List.isEmpty_iff, List.map_eq_nil_iff]
      have nr : acc = [] → x.isT = false → E (Bad.X K (j + 1)) (mset m p (.lst (acc.map Ln.D))) := fun e1 e2 => by
        rw [if_neg (by rw [e1, e2]; simp)] at q
        exact q _ sb
      cases x with
      | task z =>
        have hP := fun o3 => hP o3 (.inl rfl)
        simp only [lnD, Ln.D] at hP ⊢
        walk_at "zn"
        rw [if_neg (by simp)]
        refine ⟨by omega, ?_⟩
        exact hP _
      | kind z c d =>
        simp only [lnD, Ln.D] at hP ⊢
        walk_at "zn"
        rw [if_pos (show (!decide (("kind" : Str) = "task")) = true by decide +kernel)]
        refine ⟨_, lsOf_ref mset_same, rfl, _, rfl, ?_⟩
        by_cases h0 : acc = []
        · rw [if_pos ((hem _ rfl).mpr h0)]
          exact nr h0 rfl
        rw [if_neg (fun e => h0 ((hem _ rfl).mp e))]
        refine ⟨⟨_, lsOf_ref mset_same⟩, _, mset_same, by simp; omega, ?_⟩
        rw [mset_mset]
        exact hP _ (.inr h0)
      | arrow z c d =>
        simp only [lnD, Ln.D] at hP ⊢
        walk_at "zn"
        rw [if_pos (show (!decide (("arrow" : Str) = "task")) = true by decide +kernel)]
        refine ⟨_, lsOf_ref mset_same, rfl, _, rfl, ?_⟩
        by_cases h0 : acc = []
        · rw [if_pos ((hem _ rfl).mpr h0)]
          exact nr h0 rfl
        rw [if_neg (fun e => h0 ((hem _ rfl).mp e))]
        refine ⟨⟨_, lsOf_ref mset_same⟩, _, mset_same, by simp; omega, ?_⟩
        rw [mset_mset]
        exact hP _ (.inr h0)
  intro r m' hp1
  obtain ⟨_, acc, rfl, ha, q, o3, o4, rfl⟩ := (hP1 _ _ _).mp hp1
  rw [rngD_len] at q ha
  refine ⟨p, _, rfl, mset_same, ?_⟩
  rw [mdel_mset hp]
  obtain ⟨l, hl⟩ : ∃ l, ls[ls.length - 1]? = some l := ⟨_, List.getElem?_eq_getElem (by omega)⟩
  have hdr : ls.drop (ls.length - 1) = [l] := by
    have e := (List.getElem_cons_drop (show ls.length - 1 < ls.length by omega)).symm
    rw [e, List.drop_eq_nil_of_le (by omega)]
    rw [List.getElem?_eq_getElem (by omega)] at hl
    rw [Option.some.inj hl]
  rw [hdr, rdL_last] at q
  walk_at "zn"
  refine ⟨.str l, at_last (by rw [List.length_map, List.getElem?_map, hl]; rfl), ?_⟩
  walk_at "zn"
  by_cases h0 : l = ""
  · rw [if_pos h0] at q
    rw [if_neg (by simp [h0])]
    try simp only [dSeq]
    walk_at "z7"
    exact ⟨m, sub_refl, q⟩
  · rw [if_neg h0] at q
    rw [if_pos (by simp [h0])]
    walk_at "zn"
    rw [show ls.length - 1 + 1 = ls.length by omega] at q
    exact q m sub_refl
theorem addL_ne {ts : List Tsk} (r : Ln) (h : ts ≠ []) : addL ts r ≠ [] := by
  have u : ∀ f : Tsk → Tsk, upL f ts ≠ [] := fun f => by
    cases ts with
    | nil => exact absurd rfl h
    | cons a l => cases l <;> exact List.cons_ne_nil _ _
  cases r with
  | task z => simp [addL]
  | kind z c d => exact u _
  | arrow a b g => exact u _
structure Drf where
  t : Tsk
  k : Addr
  a : Addr
def Drf.D (x : Drf) : DL.D := .tup [.str x.t.nm, .ref x.k, .ref x.a]
def drA (L : List Drf) : List Addr := L.flatMap fun x => [x.k, x.a]
structure DrM (m m' : M) (L : List Drf) : Prop where
  own : ∀ x ∈ L, m' x.k = some (.lst (x.t.ks.map Knd.D)) ∧ m' x.a = some (.lst (x.t.as.map Arr.D))
  fr : ∀ b ∈ drA L, m b = none
  nd : (drA L).Nodup
  rest : ∀ b, b ∉ drA L → m' b = m b
theorem drA_cons (x : Drf) (L : List Drf) : drA (x :: L) = x.k :: x.a :: drA L := rfl
theorem drA_app (L L' : List Drf) : drA (L ++ L') = drA L ++ drA L' := List.flatMap_append
theorem drA_mem {x : Drf} {L : List Drf} (h : x ∈ L) : x.k ∈ drA L ∧ x.a ∈ drA L := ⟨List.mem_flatMap.mpr ⟨x, h, by simp⟩, List.mem_flatMap.mpr ⟨x, h, by simp⟩⟩
theorem DrM.frz {m : M} : ∀ {L : List Drf} {m' : M}, DrM m m' L → FrzG m' (L.map Drf.D) (L.map fun x => specD x.t) m
  | [], m', h => by
    have e : m' = m := funext fun b => h.rest b (by simp [drA])
    rw [e]
    exact .nil m
  | x :: L, m', h => by
    obtain ⟨o1, o2⟩ := h.own x List.mem_cons_self
    have nd := h.nd
    rw [drA_cons, List.nodup_cons, List.nodup_cons] at nd
    obtain ⟨n1, n2, n3⟩ := nd
    have hka : x.a ≠ x.k := fun e => n1 (by rw [← e]; exact List.mem_cons_self)
    refine .tup (.keep (.lst o1 (.lst (by rw [mdel_ne hka]; exact o2) (.nil _)))) (DrM.frz ⟨fun y hy => ?_, fun b hb => h.fr b (by rw [drA_cons]; exact List.mem_cons_of_mem _ (List.mem_cons_of_mem _ hb)), n3, fun b hb => ?_⟩)
    · obtain ⟨y1, y2⟩ := drA_mem hy
      have a1 : y.k ≠ x.k := fun e => n1 (List.mem_cons_of_mem _ (by rw [← e]; exact y1))
      have a2 : y.a ≠ x.k := fun e => n1 (List.mem_cons_of_mem _ (by rw [← e]; exact y2))
      have a3 : y.k ≠ x.a := fun e => n2 (by rw [← e]; exact y1)
      have a4 : y.a ≠ x.a := fun e => n2 (by rw [← e]; exact y2)
      rw [mdel_ne a3, mdel_ne a1, mdel_ne a4, mdel_ne a2]
      exact h.own y (List.mem_cons_of_mem _ hy)
    · by_cases e1 : b = x.a
      · subst e1
        rw [mdel_same]
        exact (h.fr _ (by rw [drA_cons]; simp)).symm
      · rw [mdel_ne e1]
        by_cases e2 : b = x.k
        · subst e2
          rw [mdel_same]
          exact (h.fr _ (by rw [drA_cons]; simp)).symm
        · rw [mdel_ne e2]
          exact h.rest b (by rw [drA_cons]; simp only [List.mem_cons, not_or]; exact ⟨e2, e1, hb⟩)
theorem DrM.new {m m' : M} {L : List Drf} {k a : Addr} {z : Str} (h : DrM m m' L) (hk : m' k = none) (ha : m' a = none) (hm : m k = none) (hn : m a = none) (hka : a ≠ k) : DrM m (mset (mset m' k (.lst [])) a (.lst [])) (L ++ [⟨⟨z, [], []⟩, k, a⟩]) := by
  have nk : k ∉ drA L := fun e => by
    obtain ⟨x, hx, e⟩ := List.mem_flatMap.mp e
    obtain ⟨o1, o2⟩ := h.own x hx
    simp only [List.mem_cons, List.not_mem_nil, or_false] at e
    rcases e with e | e
    · rw [← e, hk] at o1; cases o1
    · rw [← e, hk] at o2; cases o2
  have na : a ∉ drA L := fun e => by
    obtain ⟨x, hx, e⟩ := List.mem_flatMap.mp e
    obtain ⟨o1, o2⟩ := h.own x hx
    simp only [List.mem_cons, List.not_mem_nil, or_false] at e
    rcases e with e | e
    · rw [← e, ha] at o1; cases o1
    · rw [← e, ha] at o2; cases o2
  have e0 : drA (L ++ [⟨⟨z, [], []⟩, k, a⟩]) = drA L ++ [k, a] := by rw [drA_app]; rfl
  refine ⟨fun x hx => ?_, fun b hb => ?_, ?_, fun b hb => ?_⟩
  · rcases List.mem_append.mp hx with hx | hx
    · obtain ⟨y1, y2⟩ := drA_mem hx
      have a1 : x.k ≠ k := fun e => nk (by rw [← e]; exact y1)
      have a2 : x.a ≠ k := fun e => nk (by rw [← e]; exact y2)
      have a3 : x.k ≠ a := fun e => na (by rw [← e]; exact y1)
      have a4 : x.a ≠ a := fun e => na (by rw [← e]; exact y2)
      rw [mset_ne a3, mset_ne a1, mset_ne a4, mset_ne a2]
      exact h.own x hx
    · rw [List.mem_singleton.mp hx]
      exact ⟨by rw [mset_ne hka.symm, mset_same]; rfl, by rw [mset_same]; rfl⟩
  · rw [e0] at hb
    rcases List.mem_append.mp hb with hb | hb
    · exact h.fr b hb
    · simp only [List.mem_cons, List.not_mem_nil, or_false] at hb
      rcases hb with rfl | rfl
      · exact hm
      · exact hn
  · rw [e0, List.nodup_append]
    refine ⟨h.nd, by simp; exact hka.symm, fun b hb c hc e => ?_⟩
    subst e
    simp only [List.mem_cons, List.not_mem_nil, or_false] at hc
    rcases hc with rfl | rfl
    · exact nk hb
    · exact na hb
  · rw [e0] at hb
    simp only [List.mem_append, List.mem_cons, List.not_mem_nil, or_false, not_or] at hb
    rw [mset_ne hb.2.2, mset_ne hb.2.1]
    exact h.rest b hb.1
theorem DrM.upK {m m' : M} {L : List Drf} {t : Tsk} {k a : Addr} (q : Knd) (h : DrM m m' (L ++ [⟨t, k, a⟩])) : DrM m (mset m' k (.lst (t.ks.map Knd.D ++ [q.D]))) (L ++ [⟨{ t with ks := t.ks ++ [q] }, k, a⟩]) := by
  have e0 : ∀ t : Tsk, drA (L ++ [⟨t, k, a⟩]) = drA L ++ [k, a] := fun t => by rw [drA_app]; rfl
  have nd := h.nd
  rw [e0, List.nodup_append] at nd
  obtain ⟨_, n2, n3⟩ := nd
  have hka : a ≠ k := fun e => by rw [e] at n2; simp at n2
  refine ⟨fun x hx => ?_, fun b hb => h.fr b (by rw [e0] at hb ⊢; exact hb), by rw [e0]; rw [← e0 t]; exact h.nd, fun b hb => ?_⟩
  · rcases List.mem_append.mp hx with hx | hx
    · obtain ⟨y1, y2⟩ := drA_mem hx
      rw [mset_ne (fun e => n3 _ y1 k (by simp) e), mset_ne (fun e => n3 _ y2 k (by simp) e)]
      exact h.own x (List.mem_append_left _ hx)
    · rw [List.mem_singleton.mp hx]
      refine ⟨by rw [mset_same, List.map_append]; rfl, ?_⟩
      rw [mset_ne hka]
      exact (h.own ⟨t, k, a⟩ (by simp)).2
  · rw [e0] at hb
    have hbk : b ≠ k := fun e => hb (by rw [e]; simp)
    rw [mset_ne hbk]
    exact h.rest b (by rw [e0]; exact hb)
theorem DrM.upA {m m' : M} {L : List Drf} {t : Tsk} {k a : Addr} (q : Arr) (h : DrM m m' (L ++ [⟨t, k, a⟩])) : DrM m (mset m' a (.lst (t.as.map Arr.D ++ [q.D]))) (L ++ [⟨{ t with as := t.as ++ [q] }, k, a⟩]) := by
  have e0 : ∀ t : Tsk, drA (L ++ [⟨t, k, a⟩]) = drA L ++ [k, a] := fun t => by rw [drA_app]; rfl
  have nd := h.nd
  rw [e0, List.nodup_append] at nd
  obtain ⟨_, n2, n3⟩ := nd
  have hka : k ≠ a := fun e => by rw [e] at n2; simp at n2
  refine ⟨fun x hx => ?_, fun b hb => h.fr b (by rw [e0] at hb ⊢; exact hb), by rw [e0]; rw [← e0 t]; exact h.nd, fun b hb => ?_⟩
  · rcases List.mem_append.mp hx with hx | hx
    · obtain ⟨y1, y2⟩ := drA_mem hx
      rw [mset_ne (fun e => n3 _ y1 a (by simp) e), mset_ne (fun e => n3 _ y2 a (by simp) e)]
      exact h.own x (List.mem_append_left _ hx)
    · rw [List.mem_singleton.mp hx]
      refine ⟨?_, by rw [mset_same, List.map_append]; rfl⟩
      rw [mset_ne hka]
      exact (h.own ⟨t, k, a⟩ (by simp)).1
  · rw [e0] at hb
    have hbk : b ≠ a := fun e => hb (by rw [e]; simp)
    rw [mset_ne hbk]
    exact h.rest b (by rw [e0]; exact hb)
theorem DrM.free {m m' : M} {L : List Drf} {b : Addr} (h : DrM m m' L) (hb : m' b = none) : m b = none := by
  by_cases e : b ∈ drA L
  · exact h.fr b e
  · rw [← h.rest b e]; exact hb
theorem mset_over {m : M} {p k a : Addr} {x u v y : MO} : mset (mset (mset (mset m p x) k u) a v) p y = mset (mset (mset m k u) a v) p y := by
  funext b
  unfold mset
  by_cases e : b = p
  · rw [if_pos e, if_pos e]
  · rw [if_neg e, if_neg e]
    simp only [if_neg e]
theorem rdL_all {P : Ln → Prop} : ∀ {ls : List Str} {n : Nat} {acc rs : List Ln}, (∀ l ∈ ls, ∀ r, lineP l = some r → P r) → (∀ r ∈ acc, P r) → rdL n acc ls = .inr rs → (∀ r ∈ rs, P r) ∧ rs.length ≤ acc.length + ls.length ∧ ((acc = [] ∨ ∃ z r, acc = .task z :: r) → (rs = [] ∨ ∃ z r, rs = .task z :: r))
  | [], n, acc, rs, _, ha, e => by
    cases e
    exact ⟨ha, by simp, fun h => h⟩
  | [l], n, acc, rs, _, ha, e => by
    rw [rdL_last] at e
    by_cases h : l = ""
    · rw [if_pos h] at e
      cases e
      exact ⟨ha, by simp, fun h => h⟩
    · rw [if_neg h] at e; cases e
  | l :: y :: ls, n, acc, rs, hl, ha, e => by
    rw [rdL_step] at e
    cases hx : lineP l with
    | none => rw [hx] at e; cases e
    | some r =>
      rw [hx] at e
      have e : (if r.isT = true ∨ acc ≠ [] then rdL (n + 1) (acc ++ [r]) (y :: ls) else .inl (n + 1)) = .inr rs := e
      by_cases hc : r.isT = true ∨ acc ≠ []
      rotate_left
      · rw [if_neg hc] at e; cases e
      rw [if_pos hc] at e
      obtain ⟨i1, i2, i3⟩ := rdL_all (P := P) (ls := y :: ls) (fun l h => hl l (List.mem_cons_of_mem _ h)) (fun x hx2 => by
        rcases List.mem_append.mp hx2 with h | h
        · exact ha x h
        · rw [List.mem_singleton.mp h]; exact hl l List.mem_cons_self r hx) e
      refine ⟨i1, by rw [List.length_append] at i2; simp at i2 ⊢; omega, fun h => i3 ?_⟩
      rcases h with h | ⟨z, t, h⟩
      · subst h
        rcases hc with hc | hc
        · cases r with
          | task z => exact .inr ⟨z, [], rfl⟩
          | kind z c d => cases hc
          | arrow z c d => cases hc
        · exact absurd rfl hc
      · exact .inr ⟨z, t ++ [r], by rw [h]; rfl⟩
def LnP (P : Str → Prop) : Ln → Prop
  | .task z => P z
  | .kind z _ _ => P z
  | .arrow a b _ => P a ∧ P b
theorem lineP_p {P : Str → Prop} {x : Str} {r : Ln} (h : ∀ w ∈ PySem.Txt.split x " ", P w) (e : lineP x = some r) : LnP P r := by
  unfold lineP at e
  by_cases h0 : ("" : Str) ∈ PySem.Txt.split x " "
  · rw [if_pos h0] at e; cases e
  rw [if_neg h0] at e
  generalize PySem.Txt.split x " " = ws at *
  match ws, h, e with
  | [], h, e => cases e
  | [a], h, e => cases e
  | [a, b, c], h, e => cases e
  | a :: b :: c :: d :: f :: t, h, e => cases e
  | [k, z], h, e =>
    have e : (if k = "task" then some (Ln.task z) else none) = some r := e
    by_cases hk : k = "task"
    · rw [if_pos hk] at e; cases e; exact h z (by simp)
    · rw [if_neg hk] at e; cases e
  | [k, z, c, d], h, e =>
    have e : (if k = "kind" then kindP z c d else if k = "arrow" then arrP z c d else none) = some r := e
    by_cases hk : k = "kind"
    · rw [if_pos hk] at e
      unfold kindP at e
      cases hx : numP c with
      | none => rw [hx] at e; cases e
      | some a =>
        cases hy : numP d with
        | none => rw [hx, hy] at e; cases e
        | some b => rw [hx, hy] at e; cases e; exact h z (by simp)
    rw [if_neg hk] at e
    by_cases ha : k = "arrow"
    · rw [if_pos ha] at e
      unfold arrP at e
      cases hx : numP d with
      | none => rw [hx] at e; cases e
      | some a => rw [hx] at e; cases e; exact ⟨h z (by simp), h c (by simp)⟩
    · rw [if_neg ha] at e; cases e
structure TkP (P : Str → Prop) (n : Nat) (t : Tsk) : Prop where
  nm : P t.nm
  kl : t.ks.length + t.as.length ≤ n
  k : ∀ k ∈ t.ks, P k.n
  a : ∀ a ∈ t.as, P a.f ∧ P a.s
theorem TkP.up {P : Str → Prop} {n k : Nat} {t : Tsk} (h : TkP P n t) (e : n ≤ k) : TkP P k t := ⟨h.nm, by have := h.kl; omega, h.k, h.a⟩
theorem upL_p {P P' : Tsk → Prop} {f : Tsk → Tsk} (h1 : ∀ t, P t → P' (f t)) (h2 : ∀ t, P t → P' t) : ∀ {ts : List Tsk}, (∀ t ∈ ts, P t) → ∀ t ∈ upL f ts, P' t
  | [], _, t, ht => by cases ht
  | [a], h, t, ht => by rw [List.mem_singleton.mp ht]; exact h1 a (h a List.mem_cons_self)
  | a :: b :: r, h, t, ht => by
    rcases List.mem_cons.mp ht with rfl | ht
    · exact h2 _ (h _ List.mem_cons_self)
    · exact upL_p h1 h2 (ts := b :: r) (fun t ht => h t (List.mem_cons_of_mem _ ht)) t ht
theorem addL_p {P : Str → Prop} {n : Nat} {ts : List Tsk} {r : Ln} (h : ∀ t ∈ ts, TkP P n t) (hr : LnP P r) : ∀ t ∈ addL ts r, TkP P (n + 1) t := by
  cases r with
  | task z =>
    intro t ht
    rcases List.mem_append.mp ht with ht | ht
    · exact (h t ht).up (by omega)
    · rw [List.mem_singleton.mp ht]
      exact ⟨hr, by simp, nofun, nofun⟩
  | kind z c d =>
    refine upL_p (P := TkP P n) (fun t o => ⟨o.nm, ?_, fun k hk => ?_, o.a⟩) (fun t o => o.up (by omega)) h
    · have := o.kl
      simp
      omega
    · rcases List.mem_append.mp hk with hk | hk
      · exact o.k k hk
      · rw [List.mem_singleton.mp hk]; exact hr
  | arrow z w c =>
    refine upL_p (P := TkP P n) (fun t o => ⟨o.nm, ?_, o.k, fun k hk => ?_⟩) (fun t o => o.up (by omega)) h
    · have := o.kl
      simp
      omega
    · rcases List.mem_append.mp hk with hk | hk
      · exact o.a k hk
      · rw [List.mem_singleton.mp hk]; exact hr
theorem addL_len (ts : List Tsk) (r : Ln) : (addL ts r).length ≤ ts.length + 1 := by
  have u : ∀ (f : Tsk → Tsk) (ts : List Tsk), (upL f ts).length = ts.length := by
    intro f ts
    induction ts with
    | nil => rfl
    | cons a l ih =>
      cases l with
      | nil => rfl
      | cons b r => show (upL f (b :: r)).length + 1 = _; rw [ih]; rfl
  cases r with
  | task z => simp [addL]
  | kind z c d => show (upL _ _).length ≤ _; rw [u]; omega
  | arrow z c d => show (upL _ _).length ≤ _; rw [u]; omega
theorem fold_p {P : Str → Prop} : ∀ {rs : List Ln} {n : Nat} {ts : List Tsk}, (∀ t ∈ ts, TkP P n t) → (∀ r ∈ rs, LnP P r) → (∀ t ∈ rs.foldl addL ts, TkP P (n + rs.length) t) ∧ (rs.foldl addL ts).length ≤ ts.length + rs.length
  | [], n, ts, h, _ => ⟨fun t ht => (h t ht).up (by omega), by simp⟩
  | r :: rs, n, ts, h, hr => by
    obtain ⟨i1, i2⟩ := fold_p (rs := rs) (addL_p h (hr r List.mem_cons_self)) fun x hx => hr x (List.mem_cons_of_mem _ hx)
    have := addL_len ts r
    refine ⟨fun t ht => (i1 t ht).up (by simp; omega), ?_⟩
    show (rs.foldl addL (addL ts r)).length ≤ _
    simp
    omega
theorem read_p {P : Str → Prop} {z : Str} {rs : List Ln} (hP : ∀ w : Str, w.length ≤ z.length → (∀ d ∈ w.cps.toList, d ∈ z.cps.toList) → P w) (hn : (PySem.Txt.split z "\n").length ≤ 100) (e : rdL 0 [] (PySem.Txt.split z "\n") = .inr rs) :
    (∀ r ∈ rs, LnP P r) ∧ rs.length ≤ 100 ∧ (rs = [] ∨ ∃ w r, rs = .task w :: r) ∧ (∀ t ∈ rs.foldl addL [], TkP P 100 t) ∧ (rs.foldl addL []).length ≤ 100 := by
  obtain ⟨i1, i2, i3⟩ := rdL_all (P := LnP P) (fun l hl r hr => lineP_p (fun w hw => by
    have a := split_part (c := 10) (by rw [← nl_is]; exact hl)
    have b := split_part (c := 32) (by rw [← sp_is]; exact hw)
    exact hP w (Nat.le_trans b.1 a.1) fun d hd => a.2.1 d (b.2.1 d hd)) hr) (fun _ h => absurd h List.not_mem_nil) e
  have i2 : rs.length ≤ 100 := by simp at i2; omega
  obtain ⟨j1, j2⟩ := fold_p (rs := rs) (n := 0) (ts := []) (fun _ h => absurd h List.not_mem_nil) i1
  exact ⟨i1, i2, i3 (.inl rfl), fun t ht => (j1 t ht).up (by omega), by simp at j2; omega⟩
def OutA (K : Fr0) (a : Ans) (m : M) (q : List Tsk → Prop) (E : XD → M → Prop) : Prop := match a with
  | .bad k => ∀ m', MSub m m' → E (Bad.X K k) m'
  | .flt f => ∀ m', MSub m m' → E (f.X K) m'
  | .ok ts => q ts
theorem lc_tasks {K : Fr0} {te : DTE} {r : DSt} {m : M} {E : XD → M → Prop} {Q : List D → M → Prop} (hte : ∀ (t : Tsk) (Q' : D → M → Prop), TkP (fun z => z.length ≤ 1000000) 100 t → OutF K (tskF t) m (Q' (taskD K t) m) E → ∃ r2, ctD (.tup [3, 4, 5]) (specD t) (wipeD r [3, 4, 5]) = some r2 ∧ te r2 m Q') :
    ∀ {ts : List Tsk} {acc : List D}, acc.length + ts.length ≤ 1000 → (∀ t ∈ ts, TkP (fun z => z.length ≤ 1000000) 100 t) → OutF K (ts.findSome? tskF) m (Q (acc ++ ts.map (taskD K)) m) E → dLcL (.tup [3, 4, 5]) [3, 4, 5] dYes te (ts.map specD) acc r m Q
  | [], acc, _, _, q => by
    rw [List.map_nil, List.append_nil] at q
    exact q
  | t :: ts, acc, hl, ht, q => by
    have ih := fun (a : D) (h : OutF K (ts.findSome? tskF) m (Q ((acc ++ [a]) ++ ts.map (taskD K)) m) E) => lc_tasks (Q := Q) (ts := ts) (acc := acc ++ [a]) hte (by rw [List.length_append]; simp at hl ⊢; omega) (fun t h => ht t (List.mem_cons_of_mem _ h)) h
    have hz : acc.length < sizeLine := by rw [sizeLine_eq]; simp at hl; omega
    have hQ : OutF K (tskF t) m ((fun y m2 => acc.length < sizeLine ∧ dLcL (.tup [3, 4, 5]) [3, 4, 5] dYes te (ts.map specD) (acc ++ [y]) r m2 Q) (taskD K t) m) E := by
      rw [List.findSome?_cons] at q
      cases hf : tskF t with
      | some f => rw [hf] at q; exact q
      | none =>
        rw [hf] at q
        refine ⟨hz, ih _ ?_⟩
        rw [List.append_assoc]
        exact q
    obtain ⟨r2, e, h⟩ := hte t (fun y m2 => acc.length < sizeLine ∧ dLcL (.tup [3, 4, 5]) [3, 4, 5] dYes te (ts.map specD) (acc ++ [y]) r m2 Q) (ht t List.mem_cons_self) hQ
    refine ⟨r2, e, ?_⟩
    unfold dYes
    simp only [if_true]
    exact h
theorem pure_read_tasks {K : Fr0} {mg : Str → Option Value} (T : Txt K mg) (ds : List D) (m : M) (Q : D → M → Prop) (E : XD → M → Prop) (h : sp_read_tasks K ds m Q E) : t_read_tasks K (fun x _ m => E x m) { nx := fun _ m => Q .non m, rt := Q } (startD nm_read_tasks ds) m := by
  obtain ⟨z, rfl, ok, q⟩ := h
  have q : OutA K (ansT z) m (fun ts => Q (.lst (ts.map (taskD K))) m) E := q
  have zl := ok.len
  show t_read_tasks K _ _ [some (.str z), none, none, none, none, none] m
  unfold t_read_tasks
  walk_at "zn"
  intro p hp
  walk_at "zn"
  refine ⟨z, rfl, ok, ?_⟩
  unfold ansT at q
  cases hrs : rdL 0 [] (PySem.Txt.split z "\n") with
  | inl k =>
    rw [hrs] at q
    exact fun m' hs => q m' ((MSub.set hp).trans hs)
  | inr rs =>
  rw [hrs] at q
  have q : OutA K (ansL (rs.foldl addL [])) m (fun ts => Q (.lst (ts.map (taskD K))) m) E := q
  obtain ⟨_, hn, hhd, htk, htl⟩ := read_p (P := fun w => w.length ≤ 1000000) (fun w h _ => Nat.le_trans h zl) ok.nl hrs
  dsimp only
  have hm1 : ∀ {L : List Drf} {m1 : M}, DrM m m1 L → p ∉ drA L → m1 p = none := fun h hn => by rw [h.rest p hn]; exact hp
  obtain ⟨P1, hP1⟩ : ∃ P : Nat → DSt → M → Prop, ∀ j r m', P j r m' ↔ (∃ (L : List Drf) (m1 : M), DrM m m1 L ∧ p ∉ drA L ∧ L.map Drf.t = (rs.take j).foldl addL [] ∧ (∀ x ∈ L, x.t.ks.length + x.t.as.length ≤ j) ∧ L.length ≤ j ∧ m' = mset m1 p (.lst (L.map Drf.D)) ∧ ∃ o2, r = [some (.str z), some (.ref p), o2, none, none, none]) := ⟨_, fun _ _ _ => Iff.rfl⟩
  refine ⟨P1, (hP1 0 _ _).mpr ⟨[], m, ⟨nofun, nofun, List.nodup_nil, fun _ _ => rfl⟩, nofun, rfl, nofun, Nat.le_refl _, rfl, _, rfl⟩, ?_, ?_⟩
  · intro j d r m' hd hp1
    obtain ⟨L, m1, hL, hpn, ht, hsz, hll, rfl, o2, rfl⟩ := (hP1 _ _ _).mp hp1
    have hj : j < rs.length := by
      have := (List.getElem?_eq_some_iff.mp hd).1
      simpa using this
    obtain rfl : d = rs[j].D := by
      rw [List.getElem?_map, List.getElem?_eq_getElem hj] at hd
      exact (Option.some.inj hd).symm
    have htk : (rs.take (j + 1)).foldl addL [] = addL ((rs.take j).foldl addL []) rs[j] := by
      rw [← List.take_append_getElem hj, List.foldl_append]
      rfl
    have hj0 : (∃ z, rs[j] = .task z) ∨ L ≠ [] := by
      rcases hhd with e | ⟨z, l, e⟩
      · subst e
        exact absurd hj (by simp)
      · by_cases h0 : j = 0
        · subst h0
          exact .inl ⟨z, by simp [e]⟩
        · refine .inr fun e2 => ?_
          rw [e2] at ht
          have ne : ∀ (l2 : List Ln) (us : List Tsk), us ≠ [] → l2.foldl addL us ≠ [] := by
            intro l2
            induction l2 with
            | nil => exact fun us h => h
            | cons y l2 ih => exact fun us h => ih _ (addL_ne y h)
          obtain ⟨i, rfl⟩ : ∃ i, j = i + 1 := ⟨j - 1, by omega⟩
          rw [e, List.take_succ_cons] at ht
          exact ne (l.take i) [⟨z, [], []⟩] (List.cons_ne_nil _ _) ht.symm
    have hmp := hm1 hL hpn
    generalize rs[j] = x at htk hj0
    cases x with
    | task z =>
      simp only [Ln.D]
      walk_at "zn"
      intro k hk a ha
      have kp : p ≠ k := fun e => by rw [e, mset_same] at hk; cases hk
      have ka : a ≠ k := fun e => by rw [e, mset_same] at ha; cases ha
      rw [mset_ne ka] at ha
      have ap : p ≠ a := fun e => by rw [e, mset_same] at ha; cases ha
      rw [mset_ne kp.symm] at hk
      rw [mset_ne ap.symm] at ha
      refine ⟨_, by rw [mset_ne ap, mset_ne kp, mset_same], by rw [List.length_map]; omega, (hP1 _ _ _).mpr ⟨L ++ [⟨⟨z, [], []⟩, k, a⟩], _, hL.new hk ha (hL.free hk) (hL.free ha) ka, ?_, ?_, ?_, ?_, by rw [mset_over, List.map_append]; rfl, _, rfl⟩⟩
      · rw [drA_app]
        intro e
        rcases List.mem_append.mp e with e | e
        · exact hpn e
        · have e : p ∈ [k, a] := e
          simp only [List.mem_cons, List.not_mem_nil, or_false] at e
          rcases e with e | e
          · exact kp e
          · exact ap e
      · rw [htk, ← ht, List.map_append]
        rfl
      · intro y hy
        rcases List.mem_append.mp hy with hy | hy
        · have := hsz y hy
          omega
        · rw [List.mem_singleton.mp hy]
          simp
      · simp
        omega
    | kind z c d =>
      obtain ⟨L0, ⟨t, k, a⟩, rfl⟩ : ∃ L0 x, L = L0 ++ [x] := by
        have hLn := hj0.resolve_left (by rintro ⟨z, e⟩; cases e)
        exact ⟨_, _, (List.dropLast_concat_getLast hLn).symm⟩
      have hx := hsz ⟨t, k, a⟩ (by simp)
      have ox := hL.own ⟨t, k, a⟩ (by simp)
      have kp : k ≠ p := fun e => hpn (by rw [drA_app, ← e]; simp [drA])
      dsimp only at hx ox
      simp only [Ln.D]
      walk_at "zn"
      rw [if_neg (show ¬ ("kind" : Str) = "task" by decide +kernel)]
      refine ⟨(⟨t, k, a⟩ : Drf).D, at_last (by simp), ?_⟩
      simp only [Drf.D]
      walk_at "zs"
      have e1 : mset m1 p (.lst ((L0 ++ [(⟨t, k, a⟩ : Drf)]).map Drf.D)) k = some (.lst (t.ks.map Knd.D)) := by rw [mset_ne kp]; exact ox.1
      refine ⟨⟨_, lsOf_ref e1⟩, _, e1, by simp; omega, ?_⟩
      rw [mset_comm kp.symm]
      refine (hP1 _ _ _).mpr ⟨L0 ++ [⟨{ t with ks := t.ks ++ [⟨z, c, d⟩] }, k, a⟩], _, hL.upK ⟨z, c, d⟩, ?_, ?_, ?_, ?_, by rw [List.map_append, List.map_append]; rfl, _, rfl⟩
      · intro e
        rw [drA_app] at e hpn
        exact hpn e
      · rw [htk, ← ht, List.map_append, List.map_append]
        exact (upL_app (fun t => { t with ks := t.ks ++ [⟨z, c, d⟩] }) t (L0.map Drf.t)).symm
      · intro y hy
        rcases List.mem_append.mp hy with hy | hy
        · have := hsz y (List.mem_append_left _ hy)
          omega
        · rw [List.mem_singleton.mp hy]
          simp
          omega
      · rw [List.length_append] at hll ⊢
        simp at hll ⊢
        omega
    | arrow z w c =>
      obtain ⟨L0, ⟨t, k, a⟩, rfl⟩ : ∃ L0 x, L = L0 ++ [x] := by
        have hLn := hj0.resolve_left (by rintro ⟨z, e⟩; cases e)
        exact ⟨_, _, (List.dropLast_concat_getLast hLn).symm⟩
      have hx := hsz ⟨t, k, a⟩ (by simp)
      have ox := hL.own ⟨t, k, a⟩ (by simp)
      have ap : a ≠ p := fun e => hpn (by rw [drA_app, ← e]; simp [drA])
      dsimp only at hx ox
      simp only [Ln.D]
      walk_at "zn"
      rw [if_neg (show ¬ ("arrow" : Str) = "task" by decide +kernel), if_neg (show ¬ ("arrow" : Str) = "kind" by decide +kernel)]
      refine ⟨(⟨t, k, a⟩ : Drf).D, at_last (by simp), ?_⟩
      simp only [Drf.D]
      walk_at "zs"
      have e1 : mset m1 p (.lst ((L0 ++ [(⟨t, k, a⟩ : Drf)]).map Drf.D)) a = some (.lst (t.as.map Arr.D)) := by rw [mset_ne ap]; exact ox.2
      refine ⟨⟨_, lsOf_ref e1⟩, _, e1, by simp; omega, ?_⟩
      rw [mset_comm ap.symm]
      refine (hP1 _ _ _).mpr ⟨L0 ++ [⟨{ t with as := t.as ++ [⟨z, w, c⟩] }, k, a⟩], _, hL.upA ⟨z, w, c⟩, ?_, ?_, ?_, ?_, by rw [List.map_append, List.map_append]; rfl, _, rfl⟩
      · intro e
        rw [drA_app] at e hpn
        exact hpn e
      · rw [htk, ← ht, List.map_append, List.map_append]
        exact (upL_app (fun t => { t with as := t.as ++ [⟨z, w, c⟩] }) t (L0.map Drf.t)).symm
      · intro y hy
        rcases List.mem_append.mp hy with hy | hy
        · have := hsz y (List.mem_append_left _ hy)
          omega
        · rw [List.mem_singleton.mp hy]
          simp
          omega
      · rw [List.length_append] at hll ⊢
        simp at hll ⊢
        omega
  intro r m' hp1
  obtain ⟨L, m1, hL, hpn, ht, hsz, hll, rfl, o2, rfl⟩ := (hP1 _ _ _).mp hp1
  walk_at "zn"
  refine ⟨p, _, rfl, mset_same, ?_⟩
  rw [mdel_mset (hm1 hL hpn)]
  refine ⟨_, _, _, rfl, hL.frz, ?_⟩
  generalize hts0 : rs.foldl addL [] = ts at *
  have hts : (L.map fun x => specD x.t) = ts.map specD := by
    have e : L.map Drf.t = ts := by
      rw [ht, List.length_map, List.take_length, hts0]
    rw [← e, List.map_map]
    rfl
  rw [hts]
  try simp only [dSeq]
  try simp only [dIfS, dTest, dOp, dVar, dC, dCB, daCons, daNil, dSet, dRet, dNext, dDrop, dAsg, dPar, dAug, dAddI, dBreak, dCont, dRetN, slot, dLen, dCmpI, dSub, dAdd, dMul, dDiv, dMod, dPow, dNeg, dUn, dIx, dInt1, dAbs, dChain, dAnd, dOr, dNot, dAndV, dOrV, dNotV, dTru, dTruB, dIf, dTup, dLst, mkL, dSlice, dSl, doNone, doSome, dSum, dAll, dAny, dList, dTuple, dMax, dMin, eq_ii, ne_ii, eq_ss, ne_ss, eq_bb, ne_bb, eq_nn, ne_nn, dIsN, dNotN, dFgt, dIsB, dNotB, gN, gT, gsNil, gsCons, gSet, dBM, dAppend, dClear, dFld, dFldS, dProp, dCall, dMeth, dMake, dMakeN, daStar, dDictP, dCallO, dFor, dLc, diR1, diR2, diR3, diL, diT, diRv, diS, diE, dFmt, dFStr, dJs, dCallN, dFrzE, frz_l, in_ss, notin_ss, drR1, drR2, dListR, dRaise, dRaise0, dTryAs, dTry, dXf, dAddO, dInO, isL, insOf, Option.some.injEq, List.cons.injEq, D.int.injEq, D.bl.injEq, D.str.injEq, D.lst.injEq, D.tup.injEq, D.ref.injEq, MO.lst.injEq, MO.ins.injEq, mset_mset, and_true, true_and, and_self, and_assoc, exists_eq_left', exists_eq_left, exists_and_left, exists_and_right, exists_eq', List.set_cons_zero, List.set_cons_succ, decide_eq_true_eq, sqOf, lsOf, List.length_cons, List.length_nil, sizeLine_eq, List.append_nil, List.cons_append, List.nil_append, if_true, if_false, Bool.false_eq_true, reduceCtorEq, reduceIte, Nat.reduceAdd, Nat.reduceLeDiff, mset_same, Option.bind_some, List.length_map, Prod.mk.injEq, at0, at1, at2, at3, at4, at5, at6, at7, ix30, ix31, ix32, ix20, ix21, ix10, isi_ii, isi_ib, isi_ll, isi_bb, isi_ss, isi_tt, isi_is, isi_si, Bool.not_true, Bool.not_false, dCopyK, dGet2K, dDctR, dDisp1, dFrzEK, dWk, dLcX, DWX.blk]
  refine lc_tasks (K := K) (E := E) (fun t Q' tk hq => ⟨_, rfl, ?_⟩) (acc := []) (by simp; omega) htk ?_
  · simp only [wipeD]
    walk_at "zs"
    have k1 := tk.nm
    have k2 := tk.kl
    intro a ha
    refine ⟨a, t, _, _, rfl, rfl, rfl, mset_same, by exact k1, by omega, by omega, fun k hk => tk.k k hk, ?_⟩
    rw [mdel_mset ha]
    cases hf : tskF t with
    | some f =>
      rw [hf] at hq
      exact fun m' hs => hq m' hs
    | none =>
      rw [hf] at hq
      rw [mset_mset]
      refine ⟨_, mset_same, ?_⟩
      rw [mdel_mset ha]
      exact hq
  · unfold ansL at q
    cases hf : ts.findSome? tskF with
    | some f => rw [hf] at q; exact q
    | none =>
      rw [hf] at q
      exact ⟨m, sub_refl, q⟩
theorem StA.ok {n : Nat} {z : Str} (h : StA n z) : PyData.strOk z = true := by
  unfold PyData.strOk
  rw [← Array.all_toList, List.all_eq_true]
  intro c hc
  have := h.2 c hc
  simp
  omega
theorem StA.up {n k : Nat} {z : Str} (h : StA n z) (e : n ≤ k) : StA k z := ⟨Nat.le_trans h.1 e, h.2⟩
theorem StA.app {n k : Nat} {z w : Str} (h : StA n z) (g : StA k w) : StA (n + k) (z ++ w) := by
  refine ⟨?_, fun c hc => ?_⟩
  · have e : (z ++ w).length = z.length + w.length := by
      show (z.cps ++ w.cps).size = _
      simp
      rfl
    rw [e]
    have := h.1
    have := g.1
    omega
  · rw [cps_app] at hc
    rcases List.mem_append.mp hc with hc | hc
    · exact h.2 c hc
    · exact g.2 c hc
theorem log99 {n : Int} (h : 1 ≤ n ∧ n ≤ 99) : n.natAbs.log2 < 1920 := Nat.lt_of_le_of_lt (Nat.log2_le_self _) (by omega)
theorem len_lits : ("task " : Str).length = 5 ∧ ("kind " : Str).length = 5 ∧ ("arrow " : Str).length = 6 ∧ (" " : Str).length = 1 ∧ ("\n" : Str).length = 1 ∧ Str.empty.length = 0 := by decide +kernel
theorem rowsOf_snoc {ts : List Tsk} {t : Tsk} {j : Nat} (h : ts[j]? = some t) : rowsOf (ts.take (j + 1)) = rowsOf (ts.take j) ++ rowsT t := by
  have hj := (List.getElem?_eq_some_iff.mp h).1
  rw [← List.take_append_getElem hj]
  unfold rowsOf
  rw [List.flatMap_append]
  have e : ts[j] = t := (List.getElem?_eq_some_iff.mp h).2
  rw [e]
  simp
theorem lines_ok {t : Tsk} (tk : t.Ok) : (∀ r ∈ t.ks.map kLn, r.Ok) ∧ (∀ r ∈ t.as.map aLn, r.Ok) := ⟨fun r hr => tk.rows.1 r (List.mem_cons_of_mem _ (List.mem_append_left _ hr)), fun r hr => tk.rows.1 r (List.mem_cons_of_mem _ (List.mem_append_right _ hr))⟩
theorem jn_join (l : List Ln) : (l.map fun r => D.str r.line) = (l.map Ln.line).map D.str := by rw [List.map_map]; rfl
theorem txt_step2 (R : List Ln) (t : Tsk) : txtL R ++ "task " ++ t.nm ++ "\n" ++ txtL (t.ks.map kLn ++ t.as.map aLn) = txtL (R ++ rowsT t) := str_ext (by
  simp only [cps_app, txtL_cps, txtC, rowsT, List.flatMap_append, List.flatMap_cons, Ln.line, Ln.txt, List.append_assoc])
theorem pure_law_text {K : Fr0} {mg : Str → Option Value} (T : Txt K mg) (ds : List D) (m : M) (Q : D → M → Prop) (E : XD → M → Prop) (h : sp_law_text K ds m Q E) : t_law_text K (fun x _ m => E x m) { nx := fun _ m => Q .non m, rt := Q } (startD nm_law_text ds) m := by
  obtain ⟨ts, rfl, tok, tl, q⟩ := h
  obtain ⟨y1, y2, y3, y4, y5, y6⟩ := len_lits
  have eN : ∀ i : Int, (toString i : Str) = numS i := fun _ => rfl
  show t_law_text K _ _ [some (.lst (ts.map specD)), none, none, none, none, none] m
  unfold t_law_text
  walk_at "zn"
  obtain ⟨P1, hP1⟩ : ∃ P : Nat → DSt → M → Prop, ∀ j r m', P j r m' ↔ (m = m' ∧ ∃ o2 o3 o4 o5, r = [some (.lst (ts.map specD)), some (.str (txtL (rowsOf (ts.take j)))), o2, o3, o4, o5]) := ⟨_, fun _ _ _ => Iff.rfl⟩
  have e00 : ("" : Str) = txtL (rowsOf (ts.take 0)) := str_ext (by show ("" : Str).cps.toList = []; decide +kernel)
  walk_at "zn"
  refine ⟨P1, (hP1 0 _ _).mpr ⟨rfl, _, _, _, _, by rw [e00]⟩, ?_, ?_⟩
  · intro j d r m' hd hp1
    obtain ⟨rfl, o2, o3, o4, o5, rfl⟩ := (hP1 _ _ _).mp hp1
    obtain ⟨t, ht, rfl⟩ : ∃ t, ts[j]? = some t ∧ specD t = d := by
      rw [List.getElem?_map] at hd
      exact Option.map_eq_some_iff.mp hd
    have tk := tok t (List.mem_of_getElem? ht)
    have hsub : ∀ t ∈ ts.take j, t.Ok := fun t ht => tok t (List.mem_of_mem_take ht)
    have hRl : (txtL (rowsOf (ts.take j))).length ≤ 61 * (17 * 50) := by
      obtain ⟨h1, h2⟩ := rowsOf_ok hsub
      have h3 := txtL_len h1
      have h4 : (ts.take j).length ≤ 50 := by rw [List.length_take]; omega
      have h5 : (rowsOf (ts.take j)).length ≤ 17 * 50 := by omega
      omega
    have hsn := rowsOf_snoc ht
    generalize rowsOf (ts.take j) = R at *
    generalize hK : dSeq (dSet 3 (dLc _ _ _ _ _ _)) _ = kk
    simp only [specD]
    walk_at "zn"
    simp only [len_app]
    have h1 := (nm_len12 tk.nm).2
    refine ⟨by omega, by omega, by omega, ?_⟩
    subst hK
    obtain ⟨g1, g2⟩ := lines_ok tk
    have k4 := tk.k4
    have a12 := tk.a12
    have hk : ∀ k ∈ t.ks, (kLn k).Ok := fun k hk => g1 _ (List.mem_map_of_mem hk)
    have ha : ∀ k ∈ t.as, (aLn k).Ok := fun k hk => g2 _ (List.mem_map_of_mem hk)
    walk_at "zn"
    refine lc_mapD (g := Knd.D) (f := fun k : Knd => D.str (kLn k).txt) (l := t.ks) (by rw [sizeLine_eq]; omega) (fun k hk2 => ?_) ?_
    · refine ⟨_, rfl, fun Q' q' => ?_⟩
      have h1 := (nm_len12 (hk k hk2).1).2
      have hc : (numS k.c).length ≤ 2 := (num_ok (hk k hk2).2.1).l2
      have hd2 : (numS k.d).length ≤ 2 := (num_ok (hk k hk2).2.2).l2
      have hk1 := log99 (hk k hk2).2.1
      have hk3 := log99 (hk k hk2).2.2
      have q' : Q' (.str ("kind " ++ k.n ++ " " ++ numS k.c ++ " " ++ numS k.d)) m := q'
      simp only [wipeD, Knd.D]
      walk_at "zs"
      simp only [len_app]
      refine ⟨by omega, by omega, _, rfl, hk1, ?_⟩
      simp only [eN, len_app]
      refine ⟨by omega, by omega, _, rfl, hk3, ?_⟩
      simp only [eN, len_app]
      exact ⟨by omega, q'⟩
    walk_at "zn"
    refine lc_mapD (g := Arr.D) (f := fun a : Arr => D.str (aLn a).txt) (l := t.as) (by rw [sizeLine_eq]; omega) (fun k hk2 => ?_) ?_
    · refine ⟨_, rfl, fun Q' q' => ?_⟩
      have h1 := (nm_len12 (ha k hk2).1).2
      have h2 := (nm_len12 (ha k hk2).2.1).2
      have hc : (numS k.g).length ≤ 2 := (num_ok (ha k hk2).2.2).l2
      have hk2 := log99 (ha k hk2).2.2
      have q' : Q' (.str ("arrow " ++ k.f ++ " " ++ k.s ++ " " ++ numS k.g)) m := q'
      simp only [wipeD, Arr.D]
      walk_at "zs"
      simp only [len_app]
      refine ⟨by omega, by omega, by omega, by omega, _, rfl, hk2, ?_⟩
      simp only [eN, len_app]
      exact ⟨by omega, q'⟩
    refine ⟨by rw [List.length_map]; omega, ⟨_, rfl⟩, ?_⟩
    have eR : (t.ks.map fun k => D.str (kLn k).txt) ++ (t.as.map fun a => D.str (aLn a).txt) = (t.ks.map kLn ++ t.as.map aLn).map fun r => D.str r.txt := by
      rw [List.map_append, List.map_map, List.map_map]
      rfl
    have gR : ∀ r ∈ t.ks.map kLn ++ t.as.map aLn, r.Ok := fun r hr => (List.mem_append.mp hr).elim (g1 r) (g2 r)
    have lR : (t.ks.map kLn ++ t.as.map aLn).length ≤ 16 := by simp; omega
    rw [eR]
    have eT := txt_step2 R t
    generalize t.ks.map kLn ++ t.as.map aLn = rs at *
    refine lc_mapD (g := fun r : Ln => D.str r.txt) (f := fun r : Ln => D.str r.line) (l := rs) (by rw [sizeLine_eq]; omega) (fun r hr => ?_) ?_
    · refine ⟨_, rfl, fun Q' q' => ?_⟩
      have h1 := (gR r hr).len
      simp only [wipeD]
      walk_at "zs"
      exact ⟨by omega, q'⟩
    have s1 := lines_sum gR
    have l1 := txtL_len gR
    have e0 : ("" : Str).length = 0 := by decide +kernel
    refine ⟨_, _, rs.map Ln.line, rfl, rfl, by rw [jn_join]; rfl, by rw [e0, Nat.mul_zero]; omega, ?_⟩
    rw [join_lines]
    walk_at "zn"
    simp only [len_app]
    refine ⟨by omega, ?_⟩
    rw [eT]
    exact (hP1 _ _ _).mpr ⟨rfl, _, _, _, _, by rw [hsn]⟩
  intro r m' hp1
  obtain ⟨rfl, o2, o3, o4, o5, rfl⟩ := (hP1 _ _ _).mp hp1
  rw [show (ts.map specD).length = ts.length from List.length_map _, List.take_length]
  walk_at "zn"
  exact q
def ALL : Str := " !\"#$&'()*+,-./0123456789:;<=>?@ABCDEFGHIJKLMNOPQRSTUVWXYZ[\\]^_`abcdefghijklmnopqrstuvwxyz{|}~\n"
theorem all_len : ALL.cps.toList.length = 95 := by decide +kernel
theorem all_ok : ∀ i : Nat, i < 95 → ALL.cps.toList.getD i 0 < 128 := by decide +kernel
theorem all_at {i : Int} (h0 : 0 ≤ i) (h1 : i < 95) : ∃ c, atI ALL.cps.toList i = some c ∧ c < 128 := by
  obtain ⟨k, rfl⟩ : ∃ k : Nat, i = k := ⟨i.toNat, by omega⟩
  have hk : k < ALL.cps.toList.length := by rw [all_len]; omega
  refine ⟨ALL.cps.toList.getD k 0, atI_nat ?_, all_ok k (by omega)⟩
  rw [List.getD_eq_getElem?_getD, List.getElem?_eq_getElem hk]
  rfl
theorem pure_law_sign {K : Fr0} {mg : Str → Option Value} (T : Txt K mg) (ds : List D) (m : M) (Q : D → M → Prop) (E : XD → M → Prop) (h : sp_law_sign K ds m Q E) : t_law_sign K (fun x _ m => E x m) { nx := fun _ m => Q .non m, rt := Q } (startD nm_law_sign ds) m := by
  obtain ⟨a, b, s, n, m0, rfl, rfl, hp, hn, q⟩ := h
  show t_law_sign K _ _ [some (.ref a), none] _
  unfold t_law_sign
  walk_at "zn"
  have lb : ((" !\"#$&'()*+,-./0123456789:;<=>?@ABCDEFGHIJKLMNOPQRSTUVWXYZ[\\]^_`abcdefghijklmnopqrstuvwxyz{|}~\n" : Str).length : Int) = 95 := by decide +kernel
  walk_at "zn"
  rw [lb]
  refine ⟨by decide +kernel, draw_p hp (by omega) (by decide) (by decide) (fun r s1 r0 r1 p1 => ?_)⟩
  obtain ⟨c, hc, c1⟩ := all_at r0 (by omega)
  exact ⟨_, rfl, by decide +kernel, c, hc, q _ s1 ⟨c, rfl, c1⟩ p1⟩
theorem Tx.of {i : Nat} {z z' : Str} (h : Tx i z) (h1 : z'.length ≤ z.length + 100) (h2 : z'.cps.toList.count 10 ≤ z.cps.toList.count 10 + 1) (h3 : ∀ c ∈ z'.cps.toList, c < 128) : Tx (i + 1) z' := by
  have := h.len
  have := h.nl
  have e : 10000 * 4 ^ (i + 1) = 4 * (10000 * 4 ^ i) := by rw [Nat.pow_succ]; omega
  have e2 : 0 < 4 ^ i := Nat.pow_pos (by decide)
  refine ⟨by rw [e]; omega, by omega, h3⟩
theorem Tx.bnd {i : Nat} {z : Str} (h : Tx i z) (hi : i ≤ 3) : z.length ≤ 640000 := by
  have := h.len
  have e : 4 ^ i ≤ 4 ^ 3 := Nat.pow_le_pow_right (by omega) hi
  omega
theorem Tx.piece {i : Nat} {z : Str} {a b : Nat} (h : Tx i z) (hab : a ≤ b) (w z' : Str) (hw : w.length ≤ 10) (hc : w.cps.toList.count 10 ≤ 1) (hw2 : ∀ c ∈ w.cps.toList, c < 128) (e : z'.cps.toList = z.cps.toList.take a ++ w.cps.toList ++ z.cps.toList.drop b) : Tx (i + 1) z' := by
  have sl : (z.cps.toList.take a ++ z.cps.toList.drop b).Sublist z.cps.toList := by
    have h1 : (z.cps.toList.take a ++ z.cps.toList.drop a) = z.cps.toList := List.take_append_drop a _
    have h2 : (z.cps.toList.drop b).Sublist (z.cps.toList.drop a) := by
      rw [show b = a + (b - a) by omega, ← List.drop_drop]
      exact List.drop_sublist _ _
    have := List.Sublist.append (List.Sublist.refl (z.cps.toList.take a)) h2
    rw [h1] at this
    exact this
  have l := sl.length_le
  have c := sl.count_le 10
  rw [List.length_append] at l
  rw [List.count_append] at c
  refine h.of ?_ ?_ ?_
  · rw [len_cps, e, List.length_append, List.length_append, ← len_cps w, len_cps z]
    omega
  · rw [e, List.count_append, List.count_append]
    omega
  · intro d hd
    rw [e] at hd
    rcases List.mem_append.mp hd with hd | hd
    · rcases List.mem_append.mp hd with hd | hd
      · exact h.ch d (List.mem_of_mem_take hd)
      · exact hw2 d hd
    · exact h.ch d (List.mem_of_mem_drop hd)
theorem pure_law_spoil_sign {K : Fr0} {mg : Str → Option Value} (T : Txt K mg) (ds : List D) (m : M) (Q : D → M → Prop) (E : XD → M → Prop) (h : sp_law_spoil_sign K ds m Q E) : t_law_spoil_sign K (fun x _ m => E x m) { nx := fun _ m => Q .non m, rt := Q } (startD nm_law_spoil_sign ds) m := by
  obtain ⟨i, z, hz, hi, a, b, s, n, m0, rfl, rfl, hp, hn, q⟩ := h
  have zl := hz.bnd (by omega)
  show t_law_spoil_sign K _ _ [some (.ref a), some (.str z), none, none] _
  unfold t_law_spoil_sign
  walk_at "zn"
  refine draw_p hp (by omega) (by decide) (by decide) (fun w s1 w0 w1 p1 => ?_)
  walk_at "zn"
  refine ⟨by omega, draw_p p1 (by omega) (by omega) (by omega) (fun at_ s2 a0 a1 p2 => ?_)⟩
  obtain ⟨k, rfl⟩ : ∃ k : Nat, at_ = k := ⟨at_.toNat, by omega⟩
  have q := fun z' (s' : PS) (j : Int) (h : Tx (i + 1) z') (p : Pl a b s' j) (e : j ≤ n + 10) => q (.str z') s' ⟨z', rfl, h⟩ (p.up e)
  have l1 := (show (cutS z none (some (k : Int))).length ≤ z.length by rw [len_cps, cut_to, List.length_take, len_cps]; omega)
  have l2 := (show ∀ k : Nat, (cutS z (some (k : Int)) none).length ≤ z.length from fun k => by rw [len_cps, cut_fro, List.length_drop, len_cps]; omega)
  have l3 := l2 (k + 1)
  have l2 := l2 k
  have ek : (k : Int) + 1 = ((k + 1 : Nat) : Int) := by omega
  walk_at "zn"
  by_cases e0 : w = 0
  · rw [if_pos e0]
    walk_at "zs"
    refine ⟨by omega, a, b, s2, _, m0, rfl, rfl, p2, by omega, ?_⟩
    rintro _ s3 ⟨c, rfl, c1⟩ p3
    walk_at "zs"
    have lc : (⟨#[c]⟩ : Str).length = 1 := rfl
    simp only [len_app]
    rw [lc]
    refine ⟨by omega, by omega, by omega, q _ s3 _ (hz.piece (Nat.le_refl k) ⟨#[c]⟩ _ (by rw [lc]; omega) ?_ ?_ (by rw [cps_app, cps_app, cut_to, cut_fro])) p3 (by omega)⟩
    · show [c].count 10 ≤ 1
      exact List.count_le_length
    · intro d hd
      rw [List.mem_singleton.mp hd]; exact c1
  rw [if_neg e0]
  walk_at "zn"
  by_cases e1 : w = 1
  · rw [if_pos e1]
    walk_at "zs"
    rw [ek]
    have em : (⟨#[]⟩ : Str).length = 0 := rfl
    refine ⟨by omega, by omega, by omega, q _ s2 _ (hz.piece (Nat.le_succ k) ⟨#[]⟩ _ (by rw [em]; omega) (by decide) nofun (by rw [cps_app, cut_to, cut_fro, List.append_nil])) p2 (by omega)⟩
  rw [if_neg e1]
  walk_at "zn"
  by_cases e2 : w = 2
  · rw [if_pos e2]
    walk_at "zs"
    refine ⟨by omega, a, b, s2, _, m0, rfl, rfl, p2, by omega, ?_⟩
    rintro _ s3 ⟨c, rfl, c1⟩ p3
    walk_at "zs"
    have lc : (⟨#[c]⟩ : Str).length = 1 := rfl
    simp only [len_app]
    rw [ek, lc]
    refine ⟨by omega, by omega, by omega, q _ s3 _ (hz.piece (Nat.le_succ k) ⟨#[c]⟩ _ (by rw [lc]; omega) ?_ ?_ (by rw [cps_app, cps_app, cut_to, cut_fro])) p3 (by omega)⟩
    · show [c].count 10 ≤ 1
      exact List.count_le_length
    · intro d hd
      rw [List.mem_singleton.mp hd]; exact c1
  rw [if_neg e2]
  walk_at "zn"
  have b1 : ("\n" : Str).length = 1 := by decide +kernel
  have b2 : ("task" : Str).length = 4 := by decide +kernel
  have b3 : (" \n" : Str).length = 2 := by decide +kernel
  refine ⟨by omega, by omega, by omega, by omega, by omega, draw_p p2 (by omega) (by decide) (by decide) (fun r s3 r0 r1 p3 => ?_)⟩
  have ap : ∀ w : Str, w.length ≤ 10 → w.cps.toList.count 10 ≤ 1 → (∀ c ∈ w.cps.toList, c < 128) → Tx (i + 1) (z ++ w) ∧ Tx (i + 1) (w ++ z) := fun w h1 h2 h3 => by
    refine ⟨hz.of ?_ ?_ ?_, hz.of ?_ ?_ ?_⟩
    · rw [len_app]; omega
    · rw [cps_app, List.count_append]; omega
    · intro c hc
      rw [cps_app] at hc
      exact (List.mem_append.mp hc).elim (hz.ch c) (h3 c)
    · rw [len_app]; omega
    · rw [cps_app, List.count_append]; omega
    · intro c hc
      rw [cps_app] at hc
      exact (List.mem_append.mp hc).elim (h3 c) (hz.ch c)
  rcases (show r = 0 ∨ r = 1 ∨ r = 2 ∨ r = 3 ∨ r = 4 by omega) with rfl | rfl | rfl | rfl | rfl
  · refine ⟨_, rfl, _, rfl, q _ s3 _ ?_ p3 (by omega)⟩
    have sl : (cutS z none (some (-1))).cps.toList.Sublist z.cps.toList := by
      rw [cps_cut]
      exact (List.take_sublist _ _).trans (List.drop_sublist _ _)
    have l := sl.length_le
    have c := sl.count_le 10
    refine hz.of (by rw [len_cps, len_cps z]; omega) (by omega) fun d hd => hz.ch d (sl.subset hd)
  · exact ⟨_, rfl, _, rfl, q _ s3 _ (ap "\n" (by omega) (by decide +kernel) (by decide +kernel)).1 p3 (by omega)⟩
  · exact ⟨_, rfl, _, rfl, q _ s3 _ (ap "task" (by omega) (by decide +kernel) (by decide +kernel)).1 p3 (by omega)⟩
  · exact ⟨_, rfl, _, rfl, q _ s3 _ (ap " \n" (by omega) (by decide +kernel) (by decide +kernel)).1 p3 (by omega)⟩
  · exact ⟨_, rfl, _, rfl, q _ s3 _ (ap "\n" (by omega) (by decide +kernel) (by decide +kernel)).2 p3 (by omega)⟩
def tot (ls : List Str) : Nat := (ls.map fun z => z.length + 1).sum
structure LsOk (c T N : Nat) (ls : List Str) : Prop where
  t : tot ls ≤ T
  n : ls.length ≤ N
  ch : ∀ z ∈ ls, c ∉ z.cps.toList ∧ ∀ d ∈ z.cps.toList, d < 128
theorem tot_cons (z : Str) (ls : List Str) : tot (z :: ls) = z.length + 1 + tot ls := by unfold tot; rw [List.map_cons, List.sum_cons]
theorem tot_mem {z : Str} : ∀ {ls : List Str}, z ∈ ls → z.length + 1 ≤ tot ls
  | x :: ls, h => by
    rw [tot_cons]
    rcases List.mem_cons.mp h with rfl | h
    · omega
    · have := tot_mem h
      omega
theorem tot_app (a b : List Str) : tot (a ++ b) = tot a + tot b := by unfold tot; rw [List.map_append, List.sum_append]
theorem tot_sub {a b : List Str} (h : a.Sublist b) : tot a ≤ tot b := by
  induction h with
  | slnil => exact Nat.le_refl _
  | cons x _ ih => rw [tot_cons]; omega
  | cons_cons x _ ih => rw [tot_cons, tot_cons]; omega
theorem tot_set (w : Str) : ∀ (ls : List Str) (j : Nat), tot (ls.set j w) ≤ tot ls + (w.length + 1)
  | [], _ => by simp [tot]
  | x :: ls, 0 => by rw [List.set_cons_zero, tot_cons, tot_cons]; omega
  | x :: ls, j + 1 => by
    rw [List.set_cons_succ, tot_cons, tot_cons]
    have := tot_set w ls j
    omega
theorem jn_tot (c : Nat) : ∀ {ls : List Str}, ls ≠ [] → (jn c (ls.map fun z => z.cps.toList)).length + 1 = tot ls
  | [], h => absurd rfl h
  | [a], _ => by
    show a.cps.toList.length + 1 = _
    rw [← len_cps]
    simp [tot]
  | a :: b :: r, _ => by
    show (a.cps.toList ++ c :: jn c ((b :: r).map fun z => z.cps.toList)).length + 1 = _
    have := jn_tot c (ls := b :: r) (List.cons_ne_nil _ _)
    rw [tot_cons, List.length_append, List.length_cons, ← len_cps a]
    omega
theorem jn_count (c : Nat) : ∀ {ls : List Str}, ls ≠ [] → (∀ z ∈ ls, c ∉ z.cps.toList) → (jn c (ls.map fun z => z.cps.toList)).count c + 1 = ls.length
  | [], h, _ => absurd rfl h
  | [a], _, h => by
    show a.cps.toList.count c + 1 = 1
    rw [List.count_eq_zero.mpr (h a List.mem_cons_self)]
  | a :: b :: r, _, h => by
    show (a.cps.toList ++ c :: jn c ((b :: r).map fun z => z.cps.toList)).count c + 1 = _
    have := jn_count c (ls := b :: r) (List.cons_ne_nil _ _) fun z hz => h z (List.mem_cons_of_mem _ hz)
    rw [List.count_append, List.count_eq_zero.mpr (h a List.mem_cons_self), List.count_cons_self, List.length_cons]
    omega
theorem jn_chr (c : Nat) {P : Nat → Prop} (hc : P c) : ∀ {ls : List Str}, (∀ z ∈ ls, ∀ d ∈ z.cps.toList, P d) → ∀ d ∈ jn c (ls.map fun z => z.cps.toList), P d
  | [], _, d, hd => absurd hd List.not_mem_nil
  | [a], h, d, hd => h a List.mem_cons_self d hd
  | a :: b :: r, h, d, hd => by
    have hd : d ∈ a.cps.toList ++ c :: jn c ((b :: r).map fun z => z.cps.toList) := hd
    rcases List.mem_append.mp hd with hd | hd
    · exact h a List.mem_cons_self d hd
    · rcases List.mem_cons.mp hd with rfl | hd
      · exact hc
      · exact jn_chr c hc (ls := b :: r) (fun z hz => h z (List.mem_cons_of_mem _ hz)) d hd
theorem txt_join (c : Nat) (ls : List Str) : (PySem.Txt.join ⟨#[c]⟩ ls).cps.toList = jn c (ls.map fun z => z.cps.toList) := (congrArg (fun z : Str => z.cps.toList) (StrLaws.glued_eq_join ⟨#[c]⟩ ls)).trans (join_jn c ls)
theorem ls_split {z : Str} {T c : Nat} (h : z.length ≤ T) (hc : ∀ d ∈ z.cps.toList, d < 128) : LsOk c (T + 1) (z.cps.toList.count c + 1) (PySem.Txt.split z ⟨#[c]⟩) := by
  have e1 := jn_tot c (split_ne z c)
  have e2 := jn_count c (split_ne z c) fun w hw => (split_part hw).2.2
  rw [split_jn] at e1 e2
  rw [← len_cps] at e1
  exact ⟨by omega, by omega, fun w hw => ⟨(split_part hw).2.2, fun d hd => hc d ((split_part hw).2.1 d hd)⟩⟩
theorem LsOk.join {c T N : Nat} {ls : List Str} (h : LsOk c T N ls) (hc : c < 128) : (PySem.Txt.join ⟨#[c]⟩ ls).length ≤ T ∧ (PySem.Txt.join ⟨#[c]⟩ ls).cps.toList.count c ≤ N - 1 ∧ ∀ d ∈ (PySem.Txt.join ⟨#[c]⟩ ls).cps.toList, d < 128 := by
  have ht := h.t
  have hn := h.n
  rw [len_cps, txt_join]
  refine ⟨?_, ?_, jn_chr c hc fun z hz => (h.ch z hz).2⟩
  · by_cases e : ls = []
    · rw [e]; exact Nat.zero_le _
    · have := jn_tot c e
      omega
  · by_cases e : ls = []
    · rw [e]; exact Nat.zero_le _
    · have := jn_count c e fun z hz => (h.ch z hz).1
      omega
theorem Tx.lines {i : Nat} {z : Str} (h : Tx i z) : LsOk 10 (10000 * 4 ^ i + 1) (71 + i) (PySem.Txt.split z "\n") := by
  rw [nl_is]
  obtain ⟨a, b, c⟩ := ls_split (c := 10) h.len h.ch
  exact ⟨a, by have := h.nl; omega, c⟩
theorem LsOk.tx {i : Nat} {ls : List Str} (h : LsOk 10 (3 * (10000 * 4 ^ i + 1) + 6000) (71 + (i + 1)) ls) : Tx (i + 1) (PySem.Txt.join "\n" ls) := by
  rw [nl_is]
  obtain ⟨a, b, c⟩ := h.join (by decide)
  have e : 10000 * 4 ^ (i + 1) = 4 * (10000 * 4 ^ i) := by rw [Nat.pow_succ]; omega
  have e2 : 0 < 4 ^ i := Nat.pow_pos (by decide)
  exact ⟨by rw [e]; omega, by omega, c⟩
theorem seqIx {i : Int} {n : Nat} (h0 : 0 ≤ i) (h1 : i < n) : ∃ j : Nat, i = j ∧ j < n ∧ seqIndex? i n = some j := by
  obtain ⟨j, rfl⟩ : ∃ j : Nat, i = j := ⟨i.toNat, by omega⟩
  refine ⟨j, rfl, by omega, ?_⟩
  unfold seqIndex?
  simp
  omega
theorem sum_tot : ∀ ls : List Str, (ls.map (·.length)).sum ≤ tot ls
  | [] => by simp [tot]
  | x :: l => by
    have := sum_tot l
    rw [tot_cons, List.map_cons, List.sum_cons]
    omega
theorem erase_map {α β : Type} (f : α → β) : ∀ (ls : List α) (j : Nat), (ls.map f).eraseIdx j = (ls.eraseIdx j).map f
  | [], _ => rfl
  | x :: ls, 0 => rfl
  | x :: ls, j + 1 => by
    show f x :: (ls.map f).eraseIdx j = f x :: (ls.eraseIdx j).map f
    rw [erase_map f ls j]
theorem pure_law_spoil_line {K : Fr0} {mg : Str → Option Value} (T : Txt K mg) (ds : List D) (m : M) (Q : D → M → Prop) (E : XD → M → Prop) (h : sp_law_spoil_line K ds m Q E) : t_law_spoil_line K (fun x _ m => E x m) { nx := fun _ m => Q .non m, rt := Q } (startD nm_law_spoil_line ds) m := by
  obtain ⟨i, z, hz, hi, a, b, s, n, m0, rfl, rfl, hp, hn, q⟩ := h
  have zl := hz.bnd (by omega)
  have hls := hz.lines
  have hne : PySem.Txt.split z "\n" ≠ [] := by rw [nl_is]; exact split_ne z 10
  show t_law_spoil_line K _ _ [some (.ref a), some (.str z), none, none, none, none, none, none, none] _
  unfold t_law_spoil_line
  try simp only [dSeq]
  walk_at "z4"
  generalize PySem.Txt.split z "\n" = ls at *
  have hB : 10000 * 4 ^ i ≤ 640000 := by
    have e : 4 ^ i ≤ 4 ^ 3 := Nat.pow_le_pow_right (by omega) (by omega)
    omega
  generalize hB0 : 10000 * 4 ^ i = B at *
  have l1 : 1 ≤ ls.length := List.length_pos_iff.mpr hne
  have ln := hls.n
  have lt := hls.t
  refine ⟨⟨_, rfl⟩, by decide +kernel, by omega, fun p hp0 => ?_⟩
  obtain ⟨pa, pb, p0⟩ := pm_free hp0
  walk_at "zn"
  rw [pm_mset pa pb]
  refine draw_p hp (by omega) (by decide) (by decide) (fun w s1 w0 w1 p1 => ?_)
  walk_at "zn"
  refine ⟨_, by rw [pm_ne pa pb, mset_same]; rfl, ?_⟩
  rw [List.length_map]
  refine draw_p p1 (by omega) (by omega) (by omega) (fun at_ s2 a0 a1 p2 => ?_)
  walk_at "zn"
  refine ⟨_, by rw [pm_ne pa pb, mset_same]; rfl, ?_⟩
  rw [List.length_map]
  refine draw_p p2 (by omega) (by omega) (by omega) (fun to_ s3 t0 t1 p3 => ?_)
  obtain ⟨j, rfl, hj, ej⟩ := seqIx a0 a1
  obtain ⟨k, rfl, hk, ek⟩ := seqIx t0 t1
  have hlj : (ls.map D.str)[j]? = some (.str ls[j]) := by rw [List.getElem?_map, List.getElem?_eq_getElem hj]; rfl
  have hlk : (ls.map D.str)[k]? = some (.str ls[k]) := by rw [List.getElem?_map, List.getElem?_eq_getElem hk]; rfl
  have mj := List.getElem_mem hj
  have mk := List.getElem_mem hk
  have cj := hls.ch _ mj
  have ck := hls.ch _ mk
  have tj := tot_mem mj
  have tk := tot_mem mk
  generalize hx : ls[j] = x at *
  generalize hy : ls[k] = y at *
  generalize hK : dFrz 2 _ = kk
  have H : ∀ (ls' : List Str) (s' : PS) (m1 : M) (o6 o7 o8 : Option D), LsOk 10 (3 * (B + 1) + 6000) (71 + (i + 1)) ls' → Pl a b s' (n + 5) → MSub m0 m1 → m1 p = none → kk { nx := fun x m => Q D.non m, rt := Q } [some (.ref a), some (.str z), some (.ref p), some (.int w), some (.int (j : Int)), some (.int (k : Int)), o6, o7, o8] (pm a b s' (mset m1 p (.lst (ls'.map D.str)))) := by
    intro ls' s' m1 o6 o7 o8 hl hpl hs hf
    subst hK
    have jl : ("\n" : Str).length = 1 := by decide +kernel
    have jt := hl.t
    have jn2 := hl.n
    have hz' : Tx (i + 1) (PySem.Txt.join "\n" ls') := by
      rw [← hB0] at hl
      exact hl.tx
    try simp only [dSeq]
    walk_at "z7"
    refine ⟨p, _, rfl, by rw [pm_ne pa pb, mset_same], ?_⟩
    rw [pm_mdel pa pb, mdel_mset hf]
    try simp only [dSeq]
    walk_at "z7"
    refine ⟨⟨_, rfl⟩, _, _, ls', rfl, rfl, rfl, ?_, _, ?_, q _ s' ⟨_, rfl, hz'⟩ (hpl.up (by omega))⟩
    · have e := sum_tot ls'
      rw [jl, Nat.mul_one]
      omega
    · intro c o e
      by_cases h1 : c = a
      · rw [h1, pm_a] at e ⊢; exact e
      by_cases h2 : c = b
      · rw [h2, pm_b hpl.ne] at e ⊢; exact e
      rw [pm_ne h1 h2] at e ⊢
      exact hs c o e
  walk_at "zn"
  refine ⟨_, by rw [pm_ne pa pb, mset_same]; rfl, _, atI_nat hlj, ?_⟩
  have HL : ∀ ls' : List Str, tot ls' ≤ 3 * (B + 1) + 6000 → ls'.length ≤ 72 + i → (∀ z ∈ ls', z ∈ ls ∨ (10 ∉ z.cps.toList ∧ ∀ d ∈ z.cps.toList, d < 128)) → LsOk 10 (3 * (B + 1) + 6000) (71 + (i + 1)) ls' := fun ls' h1 h2 h3 => ⟨h1, by omega, fun z hz => (h3 z hz).elim (hls.ch z) id⟩
  by_cases e0 : w = 0
  · subst e0
    rw [dSeq]
    walk_at "zs"
    refine ⟨⟨_, by rw [pm_ne pa pb, mset_same]; rfl⟩, p, _, _, j, _, rfl, rfl, by rw [pm_ne pa pb, mset_same], by omega, by rw [List.length_map]; exact ej, hlj, ?_⟩
    rw [pm_mset pa pb, mset_mset]
    try dsimp only
    rw [dSeq]
    walk_at "zs"
    rw [if_neg (by decide)]
    rw [dSeq]
    walk_at "zs"
    rw [if_neg (by decide)]
    rw [dSeq]
    walk_at "zs"
    rw [if_neg (by decide)]
    rw [erase_map]
    refine H _ _ m0 _ _ _ (HL _ ?_ ?_ fun z hz => .inl ((List.eraseIdx_sublist ls j).subset hz)) (p3.up (by omega)) sub_refl p0
    · have := tot_sub (List.eraseIdx_sublist ls j)
      omega
    · have := (List.eraseIdx_sublist ls j).length_le
      omega
  rw [dSeq]
  walk_at "zs"
  rw [if_neg (by omega)]
  by_cases e1 : w = 1
  · subst e1
    rw [dSeq]
    walk_at "zs"
    refine ⟨⟨_, by rw [pm_ne pa pb, mset_same]; rfl⟩, p, _, _, _, rfl, rfl, by rw [pm_ne pa pb, mset_same], by rw [List.length_map, sizeLine_eq]; omega, by omega, ?_⟩
    rw [pm_mset pa pb, mset_mset]
    try dsimp only
    rw [dSeq]
    walk_at "zs"
    rw [if_neg (by decide)]
    rw [dSeq]
    walk_at "zs"
    rw [if_neg (by decide)]
    rw [Int.toNat_natCast, ← List.map_take, ← List.map_drop, show [D.str x] = [x].map D.str from rfl, ← List.map_append, ← List.map_append]
    have et : tot (ls.take k ++ [x] ++ ls.drop k) = tot ls + (x.length + 1) := by
      rw [tot_app, tot_app]
      have := tot_app (ls.take k) (ls.drop k)
      rw [List.take_append_drop] at this
      rw [this]
      simp [tot]
      omega
    refine H _ _ m0 _ _ _ (HL _ (by omega) ?_ fun z hz => .inl ?_) (p3.up (by omega)) sub_refl p0
    · rw [List.length_append, List.length_append, List.length_take, List.length_drop, List.length_singleton]
      omega
    · rcases List.mem_append.mp hz with hz | hz
      · rcases List.mem_append.mp hz with hz | hz
        · exact List.mem_of_mem_take hz
        · rw [List.mem_singleton.mp hz]; exact mj
      · exact List.mem_of_mem_drop hz
  rw [dSeq]
  walk_at "zs"
  rw [if_neg (by omega)]
  by_cases e2 : w = 2
  · subst e2
    rw [dSeq]
    walk_at "zs"
    rw [dSeq]
    walk_at "zs"
    have ix : ∀ {n : Nat} {j : Nat}, j < n → ixN n (j : Int) = some j := fun {n j} h => by
      unfold ixN
      simp
      omega
    refine ⟨_, by rw [pm_ne pa pb, mset_same]; rfl, _, atI_nat hlk, _, by rw [pm_ne pa pb, mset_same], j, ix (by rw [List.length_map]; exact hj), k, ix (by rw [List.length_set, List.length_map]; exact hk), ?_⟩
    rw [pm_mset pa pb, mset_mset]
    try dsimp only
    rw [dSeq]
    walk_at "zs"
    rw [if_neg (by decide)]
    have em : ((ls.map D.str).set j (.str y)).set k (.str x) = ((ls.set j y).set k x).map D.str := by rw [List.map_set, List.map_set]
    rw [em]
    refine H _ _ m0 _ _ _ (HL _ ?_ (by rw [List.length_set, List.length_set]; omega) fun z hz => .inl ?_) (p3.up (by omega)) sub_refl p0
    · have g1 := tot_set y ls j
      have g2 := tot_set x (ls.set j y) k
      omega
    · rcases List.mem_or_eq_of_mem_set hz with hz | rfl
      · rcases List.mem_or_eq_of_mem_set hz with hz | rfl
        · exact hz
        · exact mk
      · exact mj
  rw [dSeq]
  walk_at "zs"
  rw [if_neg (by omega)]
  have e3 : w = 3 := by omega
  subst e3
  rw [dSeq]
  walk_at "zs"
  rw [dSeq]
  walk_at "zs"
  have hws := ls_split (z := x) (c := 32) (Nat.le_refl _) cj.2
  have hwn : PySem.Txt.split x " " ≠ [] := by rw [sp_is]; exact split_ne x 32
  have hwc : ∀ w ∈ PySem.Txt.split x " ", 10 ∉ w.cps.toList := fun w hw hc => cj.1 ((split_part (c := 32) (by rw [← sp_is]; exact hw)).2.1 10 hc)
  rw [← sp_is] at hws
  walk_at "z4"
  generalize PySem.Txt.split x " " = ws at *
  refine ⟨⟨_, rfl⟩, by decide +kernel, by omega, fun p2 hp2 => ?_⟩
  obtain ⟨p2a, p2b, p20⟩ := pm_free hp2
  have p2p : p2 ≠ p := fun e => by rw [e, mset_same] at p20; cases p20
  rw [pm_mset p2a p2b]
  obtain ⟨lw, hlw⟩ : ∃ lw, ws[ws.length - 1]? = some lw := ⟨_, List.getElem?_eq_getElem (by have := List.length_pos_iff.mpr hwn; omega)⟩
  have wl : 1 ≤ ws.length := List.length_pos_iff.mpr hwn
  have mlw := List.mem_of_getElem? hlw
  have clw := hws.ch lw mlw
  have tlw := tot_mem mlw
  have twt := hws.t
  have wsn := tot_app ws []
  have hat : atI (ws.map D.str) (-1) = some (.str lw) := at_last (by rw [List.length_map, List.getElem?_map, hlw]; rfl)
  have q1 : ("0" : Str).length = 1 := by decide +kernel
  have q2 : ("+" : Str).length = 1 := by decide +kernel
  have q3 : ("-" : Str).length = 1 := by decide +kernel
  have hget : ∀ (s : PS) (M : M), pm a b s (mset M p2 (.lst (ws.map D.str))) p2 = some (.lst (ws.map D.str)) := fun s M => by rw [pm_ne p2a p2b, mset_same]
  rw [dSeq]
  walk_at "zs"
  refine ⟨_, by rw [hget]; rfl, _, hat, ?_⟩
  walk_at "zs"
  refine ⟨by omega, _, by rw [hget]; rfl, _, hat, ?_⟩
  walk_at "zs"
  refine ⟨by omega, _, by rw [hget]; rfl, _, hat, ?_⟩
  walk_at "zs"
  refine ⟨by omega, _, _, rfl, rfl, ?_, ?_⟩
  · exact ⟨by decide +kernel, fun _ _ => by decide +kernel, fun _ _ => by decide +kernel⟩
  have n1 : (PySem.Txt.mul "9" 5000).length = 5000 ∧ ∀ d ∈ (PySem.Txt.mul "9" 5000).cps.toList, d < 128 ∧ d ≠ 10 := by decide +kernel
  generalize PySem.Txt.mul "9" 5000 = nines at *
  dsimp only
  rw [dSeq]
  walk_at "zs"
  refine draw_p p3 (by omega) (by decide) (by decide) (fun r s4 r0 r1 p4 => ?_)
  obtain ⟨ow, ho, hol, hoc⟩ : ∃ ow : Str, atI [D.str (Str.ofString "0" ++ lw), D.str (Str.ofString "+" ++ lw), D.str (Str.ofString "-" ++ lw), D.str (Str.ofString "00"), D.str (Str.ofString "0"), D.str (Str.ofString "1234567890"), D.str nines, D.str (Str.ofString "123456789")] r = some (.str ow) ∧ ow.length ≤ lw.length + 5000 ∧ ∀ d ∈ ow.cps.toList, d < 128 ∧ d ≠ 10 := by
    have lc : ∀ d ∈ lw.cps.toList, d < 128 ∧ d ≠ 10 := fun d hd => ⟨clw.2 d hd, fun e => hwc lw mlw (by rw [← e]; exact hd)⟩
    have ap : ∀ w : Str, (∀ d ∈ w.cps.toList, d < 128 ∧ d ≠ 10) → ∀ d ∈ (w ++ lw).cps.toList, d < 128 ∧ d ≠ 10 := fun w h d hd => by
      rw [cps_app] at hd
      exact (List.mem_append.mp hd).elim (h d) (lc d)
    have q4 : ("00" : Str).length = 2 := by decide +kernel
    have q5 : ("1234567890" : Str).length = 10 := by decide +kernel
    have q6 : ("123456789" : Str).length = 9 := by decide +kernel
    rcases (show r = 0 ∨ r = 1 ∨ r = 2 ∨ r = 3 ∨ r = 4 ∨ r = 5 ∨ r = 6 ∨ r = 7 by omega) with rfl | rfl | rfl | rfl | rfl | rfl | rfl | rfl
    · exact ⟨_, rfl, by rw [len_app]; omega, ap _ (by decide +kernel)⟩
    · exact ⟨_, rfl, by rw [len_app]; omega, ap _ (by decide +kernel)⟩
    · exact ⟨_, rfl, by rw [len_app]; omega, ap _ (by decide +kernel)⟩
    · exact ⟨_, rfl, by omega, by decide +kernel⟩
    · exact ⟨_, rfl, by omega, by decide +kernel⟩
    · exact ⟨_, rfl, by omega, by decide +kernel⟩
    · exact ⟨_, rfl, by omega, n1.2⟩
    · exact ⟨_, rfl, by omega, by decide +kernel⟩
  have ixm : ∀ {n : Nat}, 1 ≤ n → ixN n (-1) = some (n - 1) := fun {n} h => by
    unfold ixN
    simp
    omega
  have ix : ∀ {n : Nat} {j : Nat}, j < n → ixN n (j : Int) = some j := fun {n j} h => by
    unfold ixN
    simp
    omega
  refine ⟨_, rfl, _, ho, _, hget _ _, ws.length - 1, by rw [List.length_map]; exact ixm wl, ⟨_, rfl⟩, ?_⟩
  have em : (ws.map D.str).set (ws.length - 1) (.str ow) = (ws.set (ws.length - 1) ow).map D.str := by rw [List.map_set]
  rw [pm_mset p2a p2b, mset_mset, em]
  have tw := tot_set ow ws (ws.length - 1)
  have wsc : ∀ z ∈ ws.set (ws.length - 1) ow, ∀ d ∈ z.cps.toList, d < 128 ∧ d ≠ 10 := fun z hz d hd => by
    rcases List.mem_or_eq_of_mem_set hz with hz | rfl
    · exact ⟨(hws.ch z hz).2 d hd, fun e => hwc z hz (by rw [← e]; exact hd)⟩
    · exact hoc d hd
  have wlen : (ws.set (ws.length - 1) ow).length ≤ 640001 := by
    rw [List.length_set]
    have h2 : ∀ l : List Str, l.length ≤ tot l := fun l => by
      induction l with
      | nil => simp
      | cons y l ih => rw [tot_cons, List.length_cons]; omega
    have := h2 ws
    omega
  generalize ws.set (ws.length - 1) ow = ws2 at *
  have q7 : (" " : Str).length = 1 := by decide +kernel
  have hst := sum_tot ws2
  refine ⟨_, _, ws2, rfl, rfl, ?_, by rw [q7, Nat.mul_one]; omega, ?_⟩
  · show (pm a b s4 _ p2).bind _ = _
    rw [pm_ne p2a p2b, mset_same]
    rfl
  refine ⟨_, by rw [pm_ne pa pb, mset_ne (fun e => p2p e.symm), mset_same], j, by rw [List.length_map]; exact ix hj, ?_⟩
  rw [pm_mset pa pb]
  have jl : (PySem.Txt.join " " ws2).length ≤ tot ws2 ∧ ∀ d ∈ (PySem.Txt.join " " ws2).cps.toList, d < 128 ∧ d ≠ 10 := by
    rw [sp_is]
    rw [len_cps, txt_join]
    refine ⟨?_, jn_chr 32 (by omega) wsc⟩
    by_cases e : ws2 = []
    · rw [e]; exact Nat.zero_le _
    · have := jn_tot 32 e
      omega
  generalize PySem.Txt.join " " ws2 = nl at *
  have eM : mset (mset (mset m0 p (.lst (ls.map D.str))) p2 (.lst (ws2.map D.str))) p (.lst ((ls.map D.str).set j (.str nl))) = mset (mset m0 p2 (.lst (ws2.map D.str))) p (.lst ((ls.set j nl).map D.str)) := by
    rw [List.map_set, mset_comm (fun e => p2p e.symm), mset_mset]
  rw [eM]
  have tn := tot_set nl ls j
  have p20' : m0 p2 = none := by rw [mset_ne p2p] at p20; exact p20
  refine H _ _ _ _ _ _ (HL _ (by omega) (by rw [List.length_set]; omega) fun z hz => ?_) (p4.up (by omega)) (MSub.set p20') (by rw [mset_ne (fun e => p2p e.symm)]; exact p0)
  rcases List.mem_or_eq_of_mem_set hz with hz | rfl
  · exact .inl hz
  · exact .inr ⟨fun h => (jl.2 10 h).2 rfl, fun d hd => (jl.2 d hd).1⟩
def FltS : Flt → Prop
  | .nm z => PyData.strOk z = true
  | .cnt w _ => PyData.strOk w = true
  | .rng w _ => PyData.strOk w = true
  | .rep z => PyData.strOk z = true
  | .repA z w => PyData.strOk z = true ∧ PyData.strOk w = true
  | .unk z => PyData.strOk z = true
theorem as_cl {as : List Arr} {n : Nat} (h : ∀ a ∈ as, StA n a.f ∧ StA n a.s) : (as.map Arr.D).all (clB 1) = true := by
  rw [List.all_map, List.all_eq_true]
  intro a ha
  obtain ⟨h1, h2⟩ := h a ha
  show (PyData.strOk a.f && (PyData.strOk a.s && (true && true))) = true
  rw [h1.ok, h2.ok]
  rfl
theorem ks_cl {ks : List Knd} {n : Nat} (h : ∀ k ∈ ks, StA n k.n) : (ks.map Knd.D).all (clB 1) = true := by
  rw [List.all_map, List.all_eq_true]
  intro k hk
  show (PyData.strOk k.n && (true && (true && true))) = true
  rw [(h k hk).ok]
  rfl
theorem sig_find : ∀ c : Nat, c < 128 → ((26 : Int) ≤ PySem.Txt.find SIG ⟨#[c]⟩ → chL c = false) ∧ (¬ (26 : Int) ≤ PySem.Txt.find SIG ⟨#[c]⟩ → chOk c = true → chL c = true) ∧ (inS SIG ⟨#[c]⟩ = chOk c) := by decide +kernel
theorem all_congr {α : Type} {l : List α} {f g : α → Bool} (h : ∀ x ∈ l, f x = g x) : l.all f = l.all g := by
  rw [Bool.eq_iff_iff, List.all_eq_true, List.all_eq_true]
  exact ⟨fun k x hx => (h x hx) ▸ k x hx, fun k x hx => (h x hx).symm ▸ k x hx⟩
theorem pure_law_is_name {K : Fr0} {mg : Str → Option Value} (T : Txt K mg) (ds : List D) (m : M) (Q : D → M → Prop) (E : XD → M → Prop) (h : sp_law_is_name K ds m Q E) : t_law_is_name K (fun x _ m => E x m) { nx := fun _ m => Q .non m, rt := Q } (startD nm_law_is_name ds) m := by
  obtain ⟨z, rfl, hz, q⟩ := h
  have zl := hz.1
  show t_law_is_name K _ _ [some (.str z), none, none] _
  unfold t_law_is_name
  walk_at "zn"
  walk_at "zn"
  refine ⟨by omega, ?_⟩
  have el : z.length = z.cps.size := rfl
  rw [el] at *
  unfold nameB at q
  by_cases h1 : 1 ≤ z.cps.size
  rotate_left
  · rw [if_neg (by omega)]
    have : decide (1 ≤ z.cps.size ∧ z.cps.size ≤ 12) = false := decide_eq_false (by omega)
    rw [this] at q
    exact q
  rw [if_pos (by omega)]
  by_cases h2 : z.cps.size ≤ 12
  rotate_left
  · rw [if_pos (by simp; omega)]
    have : decide (1 ≤ z.cps.size ∧ z.cps.size ≤ 12) = false := decide_eq_false (by omega)
    rw [this] at q
    exact q
  rw [if_neg (by simp; omega)]
  obtain ⟨c, rest, hl⟩ : ∃ c rest, z.cps.toList = c :: rest := by
    cases e : z.cps.toList with
    | nil =>
      have : z.cps.size = 0 := by rw [← Array.length_toList, e]; rfl
      omega
    | cons c rest => exact ⟨c, rest, rfl⟩
  have hc := hz.2
  rw [hl] at q hc
  dsimp only at q
  obtain ⟨f1, f2, f3⟩ := sig_find c (hc c List.mem_cons_self)
  rw [decide_eq_true ⟨h1, h2⟩] at q
  refine ⟨⟨_, rfl⟩, by omega, c, by rw [hl]; exact atI_nat (j := 0) rfl, _, _, rfl, rfl, ?_⟩
  walk_at "zn"
  by_cases g : (26 : Int) ≤ PySem.Txt.find (Str.ofString "abcdefghijklmnopqrstuvwxyz0123456789_") ⟨#[c]⟩
  · rw [if_pos g]
    rw [show inS LETTERS ⟨#[c]⟩ = false from f1 g] at q
    exact q
  rw [if_neg g]
  refine lc_pure (fun d => match d with | .str i => .bl (inS SIG i) | _ => .non) (by rw [chars_len, sizeLine_eq]; simp; omega) (fun x hx => ?_) ?_
  · obtain ⟨c2, hc2, rfl⟩ := List.mem_map.mp hx
    refine ⟨_, rfl, fun Q' q' => ?_⟩
    simp only [wipeD]
    walk_at "zs"
    exact q'
  · refine ⟨(c :: rest).map fun c => inS SIG ⟨#[c]⟩, ?_, ?_⟩
    · unfold chars
      rw [hl, List.nil_append, List.map_map, List.map_map]
      rfl
    · rw [List.all_map]
      have e2 : (c :: rest).all (id ∘ fun c => inS SIG ⟨#[c]⟩) = (inS LETTERS ⟨#[c]⟩ && (c :: rest).all fun c => inS LETTERS ⟨#[c]⟩ || inS SIGNS ⟨#[c]⟩) := by
        have e3 : (c :: rest).all (id ∘ fun c => inS SIG ⟨#[c]⟩) = (c :: rest).all fun c => inS LETTERS ⟨#[c]⟩ || inS SIGNS ⟨#[c]⟩ := by
          refine all_congr fun x hx => ?_
          exact (sig_find x (hc x hx)).2.2
        rw [e3]
        cases hx : (c :: rest).all fun c => inS LETTERS ⟨#[c]⟩ || inS SIGNS ⟨#[c]⟩ with
        | false => rw [Bool.and_false]
        | true =>
          rw [Bool.and_true]
          exact (f2 g (List.all_eq_true.mp hx c List.mem_cons_self)).symm
      rw [e2]
      exact q
theorem pure_law_kind_fault {K : Fr0} {mg : Str → Option Value} (T : Txt K mg) (ds : List D) (m : M) (Q : D → M → Prop) (E : XD → M → Prop) (h : sp_law_kind_fault K ds m Q E) : t_law_kind_fault K (fun x _ m => E x m) { nx := fun _ m => Q .non m, rt := Q } (startD nm_law_kind_fault ds) m := by
  obtain ⟨ks, b, rfl, hl, hz, q⟩ := h
  show t_law_kind_fault K _ _ [some (ksD ks), some (limL b), none, none, none, none] m
  unfold t_law_kind_fault limL
  generalize hC : (if b = true then 9 else 99 : Int) = cC
  generalize hD : (if b = true then 24 else 99 : Int) = cD
  try simp only [dSeq]
  walk_at "z7"
  intro p hp
  try simp only [dSeq]
  walk_at "z7"
  have sb : ∀ o, MSub m (mset m p o) := fun o => sub_set sub_refl hp
  obtain ⟨P1, hP1⟩ : ∃ P : Nat → DSt → M → Prop, ∀ j r m', P j r m' ↔ (m' = mset m p (.lst ((names (ks.take j)).map D.str)) ∧ Q (dueD (kndF b (names (ks.take j)) (ks.drop j))) m ∧ ∃ o3 o4 o5, r = [some (ksD ks), some (.lst [.int cC, .int cD]), some (.ref p), o3, o4, o5]) := ⟨_, fun _ _ _ => Iff.rfl⟩
  refine ⟨P1, (hP1 0 _ _).mpr ⟨rfl, q, _, _, _, rfl⟩, ?_, ?_⟩
  · intro j d r m' hd hp1
    obtain ⟨rfl, q, o3, o4, o5, rfl⟩ := (hP1 _ _ _).mp hp1
    obtain ⟨k, hk, rfl⟩ := map_at hd
    have hj := len_at hk
    have zk := hz k (mem_at hk)
    have hdrop : ks.drop j = k :: ks.drop (j + 1) := by
      rw [← List.getElem_cons_drop hj]
      congr 1
      exact (List.getElem?_eq_some_iff.mp hk).2
    rw [hdrop] at q
    unfold kndF at q
    rw [hC, hD] at q
    simp only [Knd.D]
    try simp only [dSeq]
    walk_at "z7"
    refine ⟨k.n, rfl, zk, ?_⟩
    try simp only [dSeq]
    walk_at "z7"
    by_cases nk : nameB k.n = true
    rotate_left
    · rw [if_neg nk] at q
      rw [if_pos (by simp [nk])]
      exact ⟨m, sb _, q⟩
    rw [if_pos nk] at q
    rw [if_neg (by simp [nk])]
    try simp only [dSeq]
    walk_at "z7"
    refine in_strs (lsOf_ref mset_same) ?_
    try simp only [dSeq]
    walk_at "z7"
    by_cases hn : k.n ∈ names (ks.take j)
    · rw [if_pos hn] at q ⊢
      exact ⟨m, sb _, q⟩
    rw [if_neg hn] at q ⊢
    try simp only [dSeq]
    walk_at "z7"
    by_cases c1 : 1 ≤ k.c
    rotate_left
    · rw [if_neg c1]
      rw [if_pos (by omega)] at q
      exact ⟨m, sb _, q⟩
    rw [if_pos c1]
    by_cases c2 : k.c ≤ cC
    rotate_left
    · rw [if_pos (by simp; omega)]
      rw [if_pos (by omega)] at q
      exact ⟨m, sb _, q⟩
    rw [if_neg (by simp; omega)]
    rw [if_neg (by omega)] at q
    by_cases d1 : 1 ≤ k.d
    rotate_left
    · rw [if_neg d1]
      rw [if_pos (by omega)] at q
      exact ⟨m, sb _, q⟩
    rw [if_pos d1]
    by_cases d2 : k.d ≤ cD
    rotate_left
    · rw [if_pos (by simp; omega)]
      rw [if_pos (by omega)] at q
      exact ⟨m, sb _, q⟩
    rw [if_neg (by simp; omega)]
    rw [if_neg (by omega)] at q
    refine ⟨by rw [List.length_take]; omega, (hP1 _ _ _).mpr ⟨?_, ?_, _, _, _, rfl⟩⟩
    · rw [take_succ' hk]
      unfold names
      rw [List.map_append, List.map_append]
      rfl
    · rw [take_succ' hk]
      unfold names at q ⊢
      rw [List.map_append]
      exact q
  · intro r m' hp1
    obtain ⟨rfl, q, o3, o4, o5, rfl⟩ := (hP1 _ _ _).mp hp1
    rw [List.length_map, List.drop_length] at q
    try simp only [dSeq]
    walk_at "z7"
    exact ⟨m, sb _, q⟩
theorem pure_law_arrow_fault {K : Fr0} {mg : Str → Option Value} (T : Txt K mg) (ds : List D) (m : M) (Q : D → M → Prop) (E : XD → M → Prop) (h : sp_law_arrow_fault K ds m Q E) : t_law_arrow_fault K (fun x _ m => E x m) { nx := fun _ m => Q .non m, rt := Q } (startD nm_law_arrow_fault ds) m := by
  obtain ⟨as, ns, rfl, hl, hln, hz, q⟩ := h
  show t_law_arrow_fault K _ _ [some (asD as), some (.lst (ns.map D.str)), none, none, none, none] m
  unfold t_law_arrow_fault
  try simp only [dSeq]
  walk_at "z7"
  intro p hp
  try simp only [dSeq]
  walk_at "z7"
  have sb : ∀ o, MSub m (mset m p o) := fun o => sub_set sub_refl hp
  obtain ⟨P1, hP1⟩ : ∃ P : Nat → DSt → M → Prop, ∀ j r m', P j r m' ↔ (m' = mset m p (.lst ((as.take j).map Arr.P)) ∧ Q (dueD (arrF ns ((as.take j).map fun a => (a.f, a.s)) (as.drop j))) m ∧ ∃ o3 o4 o5, r = [some (asD as), some (.lst (ns.map D.str)), some (.ref p), o3, o4, o5]) := ⟨_, fun _ _ _ => Iff.rfl⟩
  refine ⟨P1, (hP1 0 _ _).mpr ⟨rfl, q, _, _, _, rfl⟩, ?_, ?_⟩
  · intro j d r m' hd hp1
    obtain ⟨rfl, q, o3, o4, o5, rfl⟩ := (hP1 _ _ _).mp hp1
    obtain ⟨y, hy, rfl⟩ := map_at hd
    have hj := len_at hy
    obtain ⟨zf, zs⟩ := hz y (mem_at hy)
    have hdrop : as.drop j = y :: as.drop (j + 1) := by
      rw [← List.getElem_cons_drop hj]
      congr 1
      exact (List.getElem?_eq_some_iff.mp hy).2
    rw [hdrop] at q
    unfold arrF at q
    simp only [Arr.D]
    try simp only [dSeq]
    walk_at "z7"
    refine notin_strs rfl ?_
    try simp only [dSeq]
    walk_at "z7"
    by_cases hf : y.f ∈ ns
    rotate_left
    · rw [if_neg hf] at q
      rw [if_pos (by simp [hf])]
      exact ⟨m, sb _, q⟩
    rw [if_pos hf] at q
    rw [if_neg (by simp [hf])]
    try simp only [dSeq]
    walk_at "z7"
    refine notin_strs rfl ?_
    try simp only [dSeq]
    walk_at "z7"
    by_cases hs : y.s ∈ ns
    rotate_left
    · rw [if_neg hs] at q
      rw [if_pos (by simp [hs])]
      exact ⟨m, sb _, q⟩
    rw [if_pos hs] at q
    rw [if_neg (by simp [hs])]
    try simp only [dSeq]
    walk_at "z7"
    by_cases c1 : 1 ≤ y.g
    rotate_left
    · rw [if_neg c1]
      rw [if_pos (by omega)] at q
      exact ⟨m, sb _, q⟩
    rw [if_pos c1]
    by_cases c2 : y.g ≤ 12
    rotate_left
    · rw [if_pos (by simp; omega)]
      rw [if_pos (by omega)] at q
      exact ⟨m, sb _, q⟩
    rw [if_neg (by simp; omega)]
    rw [if_neg (by omega)] at q
    have pc : ∀ x ∈ as, clB 1 (Arr.P x) = true := fun x hx => by
      obtain ⟨h1, h2⟩ := hz x hx
      show (PyData.strOk x.f && (PyData.strOk x.s && true)) = true
      rw [h1.ok, h2.ok]
      rfl
    refine dInD_data (n := 1) (x := Arr.P y) (ys := (as.take j).map Arr.P) (by omega) (pc y (mem_at hy)) rfl (vD_ref mset_same) ?_ (fun b hb => ?_)
    · rw [List.all_map, List.all_eq_true]
      exact fun x hx => pc x (List.mem_of_mem_take hx)
    rw [ArrP_mem] at hb
    try simp only [dSeq]
    walk_at "z7"
    cases b with
    | true =>
      rw [if_pos (hb.mp rfl)] at q
      exact ⟨m, sb _, q⟩
    | false =>
      rw [if_neg (fun h => Bool.false_ne_true (hb.mpr h))] at q
      rw [if_neg (by decide)]
      refine ⟨by rw [List.length_take]; omega, (hP1 _ _ _).mpr ⟨?_, ?_, _, _, _, rfl⟩⟩
      · rw [take_succ' hy, List.map_append]
        rfl
      · rw [take_succ' hy, List.map_append]
        exact q
  · intro r m' hp1
    obtain ⟨rfl, q, o3, o4, o5, rfl⟩ := (hP1 _ _ _).mp hp1
    rw [List.length_map, List.drop_length] at q
    try simp only [dSeq]
    walk_at "z7"
    exact ⟨m, sb _, q⟩
theorem kndF_s {b : Bool} {n : Nat} : ∀ {seen : List Str} {ks : List Knd}, (∀ k ∈ ks, StA n k.n) → ∀ f, kndF b seen ks = some f → FltS f
  | _, [], _, f, e => by cases e
  | seen, k :: ks, h, f, e => by
    have hk := (h k List.mem_cons_self).ok
    unfold kndF at e
    by_cases h0 : nameB k.n = true
    · rw [if_pos h0] at e
      by_cases h1 : k.n ∈ seen
      · rw [if_pos h1] at e; cases e; exact hk
      rw [if_neg h1] at e
      by_cases h2 : k.c < 1 ∨ (if b = true then 9 else 99) < k.c
      · rw [if_pos h2] at e; cases e; show PyData.strOk _ = true; decide +kernel
      rw [if_neg h2] at e
      by_cases h3 : k.d < 1 ∨ (if b = true then 24 else 99) < k.d
      · rw [if_pos h3] at e; cases e; show PyData.strOk _ = true; decide +kernel
      rw [if_neg h3] at e
      exact kndF_s (fun x hx => h x (List.mem_cons_of_mem _ hx)) f e
    · rw [if_neg h0] at e; cases e; exact hk
theorem arrF_s {ns : List Str} {n : Nat} : ∀ {seen : List (Str × Str)} {as : List Arr}, (∀ a ∈ as, StA n a.f ∧ StA n a.s) → ∀ f, arrF ns seen as = some f → FltS f
  | _, [], _, f, e => by cases e
  | seen, y :: as, h, f, e => by
    obtain ⟨hf, hs⟩ := h y List.mem_cons_self
    unfold arrF at e
    by_cases h0 : y.f ∈ ns
    · rw [if_pos h0] at e
      by_cases h1 : y.s ∈ ns
      · rw [if_pos h1] at e
        by_cases h2 : y.g < 1 ∨ 12 < y.g
        · rw [if_pos h2] at e; cases e; show PyData.strOk _ = true; decide +kernel
        rw [if_neg h2] at e
        by_cases h3 : (y.f, y.s) ∈ seen
        · rw [if_pos h3] at e; cases e; exact ⟨hf.ok, hs.ok⟩
        rw [if_neg h3] at e
        exact arrF_s (fun x hx => h x (List.mem_cons_of_mem _ hx)) f e
      · rw [if_neg h1] at e; cases e; exact hs.ok
    · rw [if_neg h0] at e; cases e; exact hf.ok
theorem due_cl {o : Option Flt} (h : ∀ f, o = some f → FltS f) : clB 1 (dueD o) = true := by
  have k1 : PyData.strOk ("fine" : Str) = true := by decide +kernel
  have k2 : PyData.strOk ("BadName" : Str) = true := by decide +kernel
  have k3 : PyData.strOk ("WrongCount" : Str) = true := by decide +kernel
  have k4 : PyData.strOk ("OutOfRange" : Str) = true := by decide +kernel
  have k5 : PyData.strOk ("Repeated" : Str) = true := by decide +kernel
  have k6 : PyData.strOk ("RepeatedArrow" : Str) = true := by decide +kernel
  have k7 : PyData.strOk ("UnknownKind" : Str) = true := by decide +kernel
  cases o with
  | none => show (PyData.strOk ("fine" : Str) && true) = true; rw [k1]; rfl
  | some f =>
    have hf := h f rfl
    cases f with
    | nm z => show (PyData.strOk ("BadName" : Str) && (PyData.strOk z && true)) = true; rw [k2, show PyData.strOk z = true from hf]; rfl
    | cnt w n => show (PyData.strOk ("WrongCount" : Str) && (PyData.strOk w && (true && true))) = true; rw [k3, show PyData.strOk w = true from hf]; rfl
    | rng w n => show (PyData.strOk ("OutOfRange" : Str) && (PyData.strOk w && (true && true))) = true; rw [k4, show PyData.strOk w = true from hf]; rfl
    | rep z => show (PyData.strOk ("Repeated" : Str) && (PyData.strOk z && true)) = true; rw [k5, show PyData.strOk z = true from hf]; rfl
    | repA z w => show (PyData.strOk ("RepeatedArrow" : Str) && (PyData.strOk z && (PyData.strOk w && true))) = true; rw [k6, hf.1, hf.2]; rfl
    | unk z => show (PyData.strOk ("UnknownKind" : Str) && (PyData.strOk z && true)) = true; rw [k7, show PyData.strOk z = true from hf]; rfl
theorem due_fine {o : Option Flt} : dueD o = .tup [.str "fine"] ↔ o = none := by
  constructor
  · intro h
    cases o with
    | none => rfl
    | some f => cases f <;> (unfold dueD at h; injection h with h; injection h with h1 h2; cases h2)
  · rintro rfl
    rfl
theorem vD_due {m : M} (o : Option Flt) : vD m (dueD o) = dueD o := by
  cases o with
  | none => rfl
  | some f => cases f <;> rfl
theorem pure_law_task_fault {K : Fr0} {mg : Str → Option Value} (T : Txt K mg) (ds : List D) (m : M) (Q : D → M → Prop) (E : XD → M → Prop) (h : sp_law_task_fault K ds m Q E) : t_law_task_fault K (fun x _ m => E x m) { nx := fun _ m => Q .non m, rt := Q } (startD nm_law_task_fault ds) m := by
  obtain ⟨t, rfl, sz, q⟩ := h
  have nl := sz.nm.1
  have kl := sz.kl
  have al := sz.al
  unfold tskF at q
  show t_law_task_fault K _ _ [some (specD t), none, none] m
  unfold t_law_task_fault
  simp only [specD]
  walk_at "zn"
  refine ⟨t.nm, rfl, sz.nm, ?_⟩
  walk_at "zn"
  by_cases nk : nameB t.nm = true
  rotate_left
  · rw [if_neg nk] at q
    rw [if_pos (by simp [nk])]
    exact q
  rw [if_pos nk] at q
  rw [if_neg (by simp [nk])]
  by_cases k14 : 1 ≤ t.ks.length ∧ t.ks.length ≤ 4
  rotate_left
  · rw [if_neg k14] at q
    by_cases h1 : (1 : Int) ≤ t.ks.length
    · rw [if_pos h1, if_pos (by simp; omega)]
      exact q
    · rw [if_neg h1]
      exact q
  rw [if_pos k14] at q
  rw [if_pos (by omega), if_neg (by simp; omega)]
  walk_at "zn"
  by_cases a12 : t.as.length ≤ 12
  rotate_left
  · rw [if_neg a12] at q
    rw [if_pos (by omega)]
    exact q
  rw [if_pos a12] at q
  rw [if_neg (by omega)]
  walk_at "zn"
  refine dNe_nil (n := 1) (by omega) rfl (as_cl sz.a) ?_
  walk_at "zn"
  obtain ⟨b, hb⟩ : ∃ b : Bool, b = decide (0 < t.as.length) := ⟨_, rfl⟩
  rw [← hb] at q
  have hLL : atI [D.lst [.int 99, .int 99], .lst [.int 9, .int 24]] (if (!(t.as.map Arr.D).isEmpty) = true then 1 else 0) = some (limL b) := by
    cases h : t.as with
    | nil =>
      rw [h] at hb
      rw [hb]
      rfl
    | cons x xs =>
      rw [h] at hb
      have : b = true := by rw [hb]; simp
      rw [this]
      rfl
  refine ⟨_, hLL, t.ks, b, rfl, by omega, sz.k, ?_⟩
  walk_at "zn"
  have hs := fun f e => kndF_s (b := b) (n := 1000000) (seen := []) (ks := t.ks) sz.k f e
  refine dNe_data (n := 1) (by omega) (by rw [vD_due]; exact due_cl hs) (by exact due_cl (o := none) fun f e => by cases e) (fun c hc => ?_)
  rw [vD_due] at hc
  have hc2 : c = true ↔ kndF b [] t.ks = none := hc.trans due_fine
  cases hk : kndF b [] t.ks with
  | some f =>
    rw [hk] at q hc2
    obtain rfl : c = false := Bool.eq_false_iff.mpr fun e => by cases hc2.mp e
    walk_at "zn"
    exact q
  | none =>
    rw [hk] at q hc2
    obtain rfl : c = true := hc2.mpr rfl
    walk_at "zn"
    refine lc_mapD (g := Knd.D) (f := fun k : Knd => D.str k.n) (l := t.ks) (by rw [sizeLine_eq]; omega) (fun k hk => ?_) ?_
    · refine ⟨_, rfl, fun Q' q' => ?_⟩
      simp only [wipeD, Knd.D]
      walk_at "zs"
      exact q'
    refine ⟨t.as, names t.ks, ?_, by omega, by simp; omega, sz.a, q⟩
    rw [List.map_map]
    rfl
theorem tskF_s {t : Tsk} {n : Nat} (h0 : StA n t.nm) (h1 : ∀ k ∈ t.ks, StA n k.n) (h2 : ∀ a ∈ t.as, StA n a.f ∧ StA n a.s) : ∀ f, tskF t = some f → FltS f := by
  intro f e
  unfold tskF at e
  by_cases nk : nameB t.nm = true
  · rw [if_pos nk] at e
    by_cases k14 : 1 ≤ t.ks.length ∧ t.ks.length ≤ 4
    · rw [if_pos k14] at e
      by_cases a12 : t.as.length ≤ 12
      · rw [if_pos a12] at e
        cases hk : kndF (decide (0 < t.as.length)) [] t.ks with
        | some g =>
          rw [hk] at e
          cases e
          exact kndF_s h1 _ hk
        | none =>
          rw [hk] at e
          exact arrF_s h2 f e
      · rw [if_neg a12] at e; cases e; show PyData.strOk _ = true; decide +kernel
    · rw [if_neg k14] at e; cases e; show PyData.strOk _ = true; decide +kernel
  · rw [if_neg nk] at e; cases e; exact h0.ok
theorem pure_law_number_of {K : Fr0} {mg : Str → Option Value} (T : Txt K mg) (ds : List D) (m : M) (Q : D → M → Prop) (E : XD → M → Prop) (h : sp_law_number_of K ds m Q E) : t_law_number_of K (fun x _ m => E x m) { nx := fun _ m => Q .non m, rt := Q } (startD nm_law_number_of ds) m := by
  obtain ⟨w, rfl, hw, q⟩ := h
  show t_law_number_of K _ _ [some (.str w), none] m
  unfold t_law_number_of
  unfold numP at q
  generalize hK : dSeq (dFor _ _ _) _ = kk
  walk_at "zn"
  refine ⟨by omega, ?_⟩
  by_cases l1 : 1 ≤ w.length
  rotate_left
  · rw [if_neg (by omega)] at q
    rw [if_neg (by omega)]
    exact q
  rw [if_pos (by omega)]
  by_cases l2 : w.length ≤ 9
  rotate_left
  · rw [if_neg (by omega)] at q
    rw [if_pos (by simp; omega)]
    exact q
  rw [if_pos ⟨l1, l2⟩] at q
  rw [if_neg (by simp; omega)]
  obtain ⟨c, r, hc⟩ := cps_cons l1
  have H : Q (numL (if w.cps.toList.all digB = true then PySem.intText? w else none)) m → kk { nx := fun x m => Q D.non m, rt := Q } [some (.str w), none] m := by
    intro q
    subst hK
    walk_at "zn"
    obtain ⟨P1, hP1⟩ : ∃ P : Nat → DSt → M → Prop, ∀ j r m', P j r m' ↔ (m = m' ∧ Q (numL (if (w.cps.toList.drop j).all digB = true then PySem.intText? w else none)) m ∧ (w.cps.toList.take j).all digB = true ∧ ∃ o, r = [some (.str w), o]) := ⟨_, fun _ _ _ => Iff.rfl⟩
    refine ⟨P1, (hP1 0 _ _).mpr ⟨rfl, q, rfl, _, rfl⟩, ?_, ?_⟩
    · intro j d r m' hd hp1
      obtain ⟨rfl, q, ht, o, rfl⟩ := (hP1 _ _ _).mp hp1
      obtain ⟨c, hc, rfl⟩ := map_at hd
      have hj := len_at hc
      have hdr := (List.getElem_cons_drop hj).symm
      rw [(List.getElem?_eq_some_iff.mp hc).2] at hdr
      have htk := take_succ' hc
      rw [hdr, List.all_cons] at q
      walk_at "zn"
      show (if (!inS "0123456789" ⟨#[c]⟩) = true then _ else _)
      rw [dig_eq]
      cases hb : digB c with
      | false =>
        rw [hb, Bool.false_and, if_neg (by decide)] at q
        exact q
      | true =>
        rw [hb, Bool.true_and] at q
        rw [if_neg (by decide)]
        refine (hP1 _ _ _).mpr ⟨rfl, q, ?_, _, rfl⟩
        rw [htk, List.all_append, ht]
        simp [hb]
    intro r m' hp1
    obtain ⟨rfl, q, ht, o, rfl⟩ := (hP1 _ _ _).mp hp1
    have el : (chars w).length = w.cps.toList.length := by unfold chars; rw [List.length_map]
    rw [el, List.take_length] at ht
    rw [el, List.drop_length, show ([] : List Nat).all digB = true from rfl, if_pos rfl] at q
    obtain ⟨k, hk⟩ := num_rd l1 l2 ht
    rw [hk] at q
    walk_at "zn"
    exact ⟨_, _, rfl, hk, by omega, q⟩
  refine ⟨by omega, c, by rw [hc]; exact atI_nat (j := 0) rfl, ?_⟩
  by_cases h48 : c = 48
  · subst h48
    rw [if_pos (chr_zero.mpr rfl)]
    refine ⟨by omega, ?_⟩
    by_cases e1 : w.length = 1
    · rw [if_neg (by omega)]
      refine H ?_
      rw [if_neg (show ¬ (w.cps.toList.head? = some 48 ∧ w.length ≠ 1) from fun e => e.2 e1)] at q
      exact q
    · rw [if_pos (by omega)]
      rw [if_pos (show w.cps.toList.head? = some 48 ∧ w.length ≠ 1 from ⟨by rw [hc]; rfl, e1⟩)] at q
      rw [show (if w.cps.toList.all digB = true then none else none : Option Int) = none by split <;> rfl] at q
      exact q
  · rw [if_neg (fun e => h48 (chr_zero.mp e))]
    rw [if_neg (show ¬ (w.cps.toList.head? = some 48 ∧ w.length ≠ 1) from fun e => by rw [hc] at e; exact h48 (Option.some.inj e.1))] at q
    exact H q
theorem wordsP_odd {k : Str} {r : List Str} (h1 : k ≠ "task" ∨ r.length ≠ 1) (h2 : k ≠ "kind" ∨ r.length ≠ 3) (h3 : k ≠ "arrow" ∨ r.length ≠ 3) : wordsP (k :: r) = none := by
  match r, h1, h2, h3 with
  | [], _, _, _ => rfl
  | [z], h1, _, _ =>
    show (if k = "task" then _ else _) = _
    rw [if_neg (by simpa using h1)]
  | [_, _], _, _, _ => rfl
  | [z, c, d], _, h2, h3 =>
    show (if k = "kind" then _ else if k = "arrow" then _ else _) = _
    rw [if_neg (by simpa using h2), if_neg (by simpa using h3)]
  | _ :: _ :: _ :: _ :: _, _, _, _ => rfl
theorem pure_law_parts {K : Fr0} {mg : Str → Option Value} (T : Txt K mg) (ds : List D) (m : M) (Q : D → M → Prop) (E : XD → M → Prop) (h : sp_law_parts K ds m Q E) : t_law_parts K (fun x _ m => E x m) { nx := fun _ m => Q .non m, rt := Q } (startD nm_law_parts ds) m := by
  obtain ⟨x, rfl, hx, q⟩ := h
  unfold lineP at q
  show t_law_parts K _ _ [some (.str x), none, none, none] m
  unfold t_law_parts
  try simp only [dSeq]
  walk_at "z4"
  have hws : ∀ w ∈ PySem.Txt.split x " ", w.length ≤ x.length := fun w hw => (split_part (c := 32) (by rw [← sp_is]; exact hw)).1
  have hwn : PySem.Txt.split x " " ≠ [] := by rw [sp_is]; exact split_ne x 32
  generalize PySem.Txt.split x " " = ws at *
  have hfl : (ws.map D.str).all flatD = true := by rw [List.all_map]; exact List.all_eq_true.mpr fun _ _ => rfl
  refine ⟨⟨_, rfl⟩, by decide +kernel, by omega, ?_⟩
  rw [dSeq]
  walk_at "zs"
  refine ⟨_, rfl, rfl, hfl, _, by rw [if_neg (by decide), in_strs1], ?_⟩
  by_cases he : ("" : Str) ∈ ws
  · rw [if_pos he] at q
    rw [if_pos (decide_eq_true he)]
    walk_at "z7"
    exact ⟨m, sub_refl, q⟩
  rw [if_neg he] at q
  rw [if_neg (by simpa using he)]
  obtain ⟨k, r, rfl⟩ : ∃ k r, ws = k :: r := by
    cases ws with
    | nil => exact absurd rfl hwn
    | cons k r => exact ⟨k, r, rfl⟩
  refine ⟨.str k, atI_nat (j := 0) rfl, ?_⟩
  refine notin_strs (zs := ["task", "kind", "arrow"]) rfl ?_
  walk_at "zs"
  have n1 : ("kind" : Str) ≠ "task" := by decide +kernel
  have n2 : ("arrow" : Str) ≠ "task" := by decide +kernel
  have n3 : ("arrow" : Str) ≠ "kind" := by decide +kernel
  by_cases hk : k ∈ (["task", "kind", "arrow"] : List Str)
  rotate_left
  · simp only [List.mem_cons, List.not_mem_nil, or_false, not_or] at hk
    rw [wordsP_odd (.inl hk.1) (.inl hk.2.1) (.inl hk.2.2)] at q
    rw [if_pos (by simp [hk])]
    walk_at "z7"
    exact ⟨m, sub_refl, q⟩
  rw [if_neg (by rw [decide_eq_true hk]; decide)]
  simp only [List.mem_cons, List.not_mem_nil, or_false] at hk
  walk_at "zn"
  refine ⟨.str k, atI_nat (j := 0) rfl, ?_⟩
  by_cases ht : k = "task"
  · subst ht
    walk_at "zs"
    by_cases hl : r.length = 1
    rotate_left
    · rw [wordsP_odd (.inr hl) (.inl fun e => n1 e.symm) (.inl fun e => n2 e.symm)] at q
      rw [if_pos (by simp; omega)]
      try simp only [dSeq]
      walk_at "z7"
      exact ⟨m, sub_refl, q⟩
    rw [if_neg (by simp; omega)]
    obtain ⟨z, rfl⟩ : ∃ z, r = [z] := by
      match r, hl with
      | [z], _ => exact ⟨z, rfl⟩
    try simp only [dSeq]
    walk_at "z7"
    refine ⟨_, atI_nat (j := 0) rfl, ?_⟩
    try simp only [dSeq]
    walk_at "z7"
    exact ⟨m, sub_refl, q⟩
  have hk := hk.resolve_left ht
  walk_at "zs"
  refine ⟨.int 4, by rw [if_neg ht]; rfl, ?_⟩
  walk_at "zs"
  by_cases hl : r.length = 3
  rotate_left
  · rw [wordsP_odd (.inl ht) (.inr hl) (.inr hl)] at q
    rw [if_pos (by simp; omega)]
    try simp only [dSeq]
    walk_at "z7"
    exact ⟨m, sub_refl, q⟩
  rw [if_neg (by simp; omega)]
  obtain ⟨z, c, d, rfl⟩ : ∃ z c d, r = [z, c, d] := by
    match r, hl with
    | [z, c, d], _ => exact ⟨z, c, d, rfl⟩
  have lc := hws c (by simp)
  have ld := hws d (by simp)
  have q : Q (lpD (if k = "kind" then kindP z c d else if k = "arrow" then arrP z c d else none)) m := q
  try simp only [dSeq]
  walk_at "z7"
  refine ⟨_, atI_nat (j := 0) rfl, ?_⟩
  try simp only [dSeq]
  walk_at "z7"
  rw [if_neg ht]
  try simp only [dSeq]
  walk_at "z7"
  refine ⟨_, atI_nat (j := 3) rfl, d, rfl, by omega, ?_⟩
  rcases hk with rfl | rfl
  · rw [if_pos rfl] at q
    unfold kindP at q
    try simp only [dSeq]
    walk_at "z7"
    refine ⟨_, atI_nat (j := 0) rfl, ?_⟩
    try simp only [dSeq]
    walk_at "z7"
    rw [if_neg (fun e => n3 e.symm)]
    refine ⟨_, atI_nat (j := 2) rfl, c, rfl, by omega, ?_⟩
    refine ⟨_, atI_nat (j := 0) rfl, ?_⟩
    cases hc : numP c with
    | none =>
      rw [hc] at q
      simp only [numL]
      walk_at "zs"
      exact ⟨m, sub_refl, q⟩
    | some a =>
      have h0 := numP_nn hc
      cases hd : numP d with
      | none =>
        rw [hc, hd] at q
        simp only [numL]
        walk_at "zs"
        rw [if_pos (by omega)]
        exact ⟨m, sub_refl, q⟩
      | some b =>
        have h1 := numP_nn hd
        rw [hc, hd] at q
        simp only [numL]
        walk_at "zs"
        rw [if_pos (by omega), if_pos (by omega)]
        exact ⟨_, atI_nat (j := 0) rfl, _, atI_nat (j := 1) rfl, m, sub_refl, q⟩
  · rw [if_neg n3, if_pos rfl] at q
    unfold arrP at q
    try simp only [dSeq]
    walk_at "z7"
    refine ⟨_, atI_nat (j := 0) rfl, ?_⟩
    try simp only [dSeq]
    walk_at "z7"
    cases hd : numP d with
    | none =>
      rw [hd] at q
      simp only [numL]
      walk_at "zs"
      refine ⟨_, atI_nat (j := 2) rfl, c, rfl, by omega, ?_⟩
      refine ⟨_, atI_nat (j := 0) rfl, ?_⟩
      walk_at "zs"
      rw [if_neg n3]
      exact ⟨m, sub_refl, q⟩
    | some b =>
      have h1 := numP_nn hd
      rw [hd] at q
      simp only [numL]
      walk_at "zs"
      rw [if_pos (by omega)]
      exact ⟨_, atI_nat (j := 0) rfl, _, atI_nat (j := 1) rfl, _, atI_nat (j := 2) rfl, m, sub_refl, q⟩
theorem dEq_nil {m : M} {x : D} {xs : List D} {n : Nat} {Q : D → M → Prop} (hn : n < 64) (h : vD m x = .lst xs) (c : xs.all (clB n) = true) (q : Q (.bl xs.isEmpty) m) : dEq x (.lst []) m Q := by
  refine dEq_data (n := n + 1) (by omega) (by rw [h]; exact c) rfl (fun b hb => ?_)
  rw [h] at hb
  cases xs with
  | nil =>
    have : b = true := hb.mpr rfl
    rw [this]
    exact q
  | cons y ys =>
    cases b with
    | false => exact q
    | true =>
      have := hb.mp rfl
      cases this
theorem DrM.sub {m m' : M} {L : List Drf} (h : DrM m m' L) : MSub m m' := fun b o e => by
  by_cases hb : b ∈ drA L
  · rw [h.fr b hb] at e; cases e
  · rw [h.rest b hb]; exact e
def OutZ (o : Nat ⊕ List Ln) (m : M) (Q : D → M → Prop) : Prop := match o with
  | .inl k => Q (ansD (.bad k)) m
  | .inr rs => Q (ansD (ansL (rs.foldl addL []))) m
theorem outZ {z : Str} {m : M} {Q : D → M → Prop} (h : Q (ansD (ansT z)) m) : OutZ (rdL 0 [] (PySem.Txt.split z "\n")) m Q := by
  unfold ansT at h
  cases e : rdL 0 [] (PySem.Txt.split z "\n") with
  | inl k => rw [e] at h; exact h
  | inr rs => rw [e] at h; exact h
theorem pure_law_due {K : Fr0} {mg : Str → Option Value} (T : Txt K mg) (ds : List D) (m : M) (Q : D → M → Prop) (E : XD → M → Prop) (h : sp_law_due K ds m Q E) : t_law_due K (fun x _ m => E x m) { nx := fun _ m => Q .non m, rt := Q } (startD nm_law_due ds) m := by
  obtain ⟨z, rfl, tx, q⟩ := h
  have zl := tx.bnd (Nat.le_refl 3)
  have hnl := tx.lines.n
  have q := outZ q
  have hws : ∀ w ∈ PySem.Txt.split z "\n", w.length ≤ z.length := fun w hw => (split_part (c := 10) (by rw [← nl_is]; exact hw)).1
  have hlc : ∀ w ∈ PySem.Txt.split z "\n", w.length ≤ z.length ∧ ∀ d ∈ w.cps.toList, d ∈ z.cps.toList := fun w hw => by
    have a := split_part (c := 10) (by rw [← nl_is]; exact hw)
    exact ⟨a.1, a.2.1⟩
  have hne : PySem.Txt.split z "\n" ≠ [] := by rw [nl_is]; exact split_ne z 10
  have hrd := fun rs => read_p (P := StA 1000000) (z := z) (rs := rs) (fun w h1 h2 => ⟨by omega, fun c hc => tx.ch c (h2 c hc)⟩) (by omega)
  show t_law_due K _ _ [some (.str z), none, none, none, none, none, none, none, none] m
  unfold t_law_due
  try simp only [dSeq]
  walk_at "z4"
  generalize PySem.Txt.split z "\n" = ls at *
  refine ⟨⟨_, rfl⟩, by decide +kernel, by omega, ?_⟩
  walk_at "zn"
  intro p hp
  walk_at "zn"
  have hl1 : 1 ≤ ls.length := List.length_pos_iff.mpr hne
  refine ⟨by omega, by omega, ?_⟩
  rw [show (((ls.length : Nat) : Int) - 1).toNat = ls.length - 1 by omega]
  have hm1 : ∀ {L : List Drf} {m1 : M}, DrM m m1 L → p ∉ drA L → m1 p = none := fun h hn => by rw [h.rest p hn]; exact hp
  obtain ⟨P1, hP1⟩ : ∃ P : Nat → DSt → M → Prop, ∀ j r m', P j r m' ↔ (j ≤ ls.length - 1 ∧ ∃ (acc : List Ln) (L : List Drf) (m1 : M), DrM m m1 L ∧ p ∉ drA L ∧ L.map Drf.t = acc.foldl addL [] ∧ (acc = [] ↔ L = []) ∧ (∀ x ∈ L, x.t.ks.length + x.t.as.length ≤ j) ∧ L.length ≤ j ∧ m' = mset m1 p (.lst (L.map Drf.D)) ∧ rdL 0 [] ls = rdL j acc (ls.drop j) ∧ ∃ o3 o4 o5 o6, r = [some (.str z), some (.lst (ls.map D.str)), some (.ref p), o3, o4, o5, o6, none, none]) := ⟨_, fun _ _ _ => Iff.rfl⟩
  refine ⟨P1, (hP1 0 _ _).mpr ⟨by omega, [], [], m, ⟨nofun, nofun, List.nodup_nil, fun _ _ => rfl⟩, nofun, rfl, by simp, nofun, Nat.le_refl _, rfl, rfl, _, _, _, _, rfl⟩, ?_, ?_⟩
  · intro j d r m' hd hp1
    obtain ⟨hj0, acc, L, m1, hL, hpn, ht, hal, hsz, hll, rfl, hr0, o3, o4, o5, o6, rfl⟩ := (hP1 _ _ _).mp hp1
    obtain ⟨rfl, hj⟩ := rngD_at hd
    obtain ⟨l, y, rest, e1, e2, e3⟩ := drop2 (ls := ls) (j := j) (by omega)
    have hmp := hm1 hL hpn
    have sb : MSub m (mset m1 p (.lst (L.map Drf.D))) := hL.sub.trans (MSub.set hmp)
    have hr1 := hr0
    rw [e1, rdL_step] at hr1
    generalize hK : dSeq (dIfS (dOr _ _) _ _) _ = kk
    walk_at "zn"
    rw [Int.zero_add]
    refine ⟨_, atI_nat (by rw [List.getElem?_map, e2]; rfl), l, rfl, by have := hws l (List.mem_of_getElem? e2); omega, ?_⟩
    subst hK
    cases hx : lineP l with
    | none =>
      rw [hx] at hr1
      rw [hr1] at q
      simp only [lpD]
      try simp only [dSeq]
      walk_at "z7"
      refine dEq_nil (n := 1) (by omega) rfl rfl ?_
      refine ⟨_, rfl, ?_⟩
      simp only [List.isEmpty_nil, if_true]
      exact ⟨m, sb, q⟩
    | some x =>
      rw [hx] at hr1
      have hr1 : rdL 0 [] ls = (if x.isT = true ∨ acc ≠ [] then rdL (j + 1) (acc ++ [x]) (ls.drop (j + 1)) else .inl (j + 1)) := by rw [e3]; exact hr1
      have htk : (acc ++ [x]).foldl addL [] = addL (acc.foldl addL []) x := by
        rw [List.foldl_append]
        rfl
      have lml := List.mem_of_getElem? e2
      have hcl := lineP_p (P := StA 1000000) (fun w hw => by
        have b := split_part (c := 32) (by rw [← sp_is]; exact hw)
        have a := hlc l lml
        exact ⟨by omega, fun d hd => tx.ch d (a.2 d (b.2.1 d hd))⟩) hx
      have bad : x.isT = false → L = [] → Q (ansD (.bad (j + 1))) m := fun h1 h2 => by
        rw [if_neg (by rw [hal.mpr h2, h1]; simp)] at hr1
        rw [hr1] at q
        exact q
      cases x with
      | task w =>
        have nm : PyData.strOk w = true := StA.ok hcl
        rw [if_pos (.inl rfl)] at hr1
        simp only [lpD]
        try simp only [dSeq]
        walk_at "z7"
        refine dEq_nil (n := 1) (by omega) rfl (by simp [clB, nm]; decide +kernel) ?_
        refine ⟨_, rfl, ?_⟩
        simp only [List.isEmpty_cons, Bool.false_eq_true, if_false]
        rw [if_neg (by decide)]
        rw [dSeq]
        walk_at "zs"
        intro k hk a ha
        have kp : p ≠ k := fun e => by rw [e, mset_same] at hk; cases hk
        have ka : a ≠ k := fun e => by rw [e, mset_same] at ha; cases ha
        rw [mset_ne ka] at ha
        have ap : p ≠ a := fun e => by rw [e, mset_same] at ha; cases ha
        rw [mset_ne kp.symm] at hk
        rw [mset_ne ap.symm] at ha
        refine ⟨_, by rw [mset_ne ap, mset_ne kp, mset_same], by rw [List.length_map]; omega, ?_⟩
        walk_at "zn"
        rw [if_neg (show ¬ ("task" : Str) = "kind" by decide +kernel)]
        walk_at "zn"
        rw [if_neg (show ¬ ("task" : Str) = "arrow" by decide +kernel)]
        refine (hP1 _ _ _).mpr ⟨by omega, acc ++ [.task w], L ++ [⟨⟨w, [], []⟩, k, a⟩], _, hL.new hk ha (hL.free hk) (hL.free ha) ka, ?_, ?_, ?_, ?_, ?_, by rw [mset_over, List.map_append]; rfl, hr1, _, _, _, _, rfl⟩
        · rw [drA_app]
          intro e
          rcases List.mem_append.mp e with e | e
          · exact hpn e
          · have e : p ∈ [k, a] := e
            simp only [List.mem_cons, List.not_mem_nil, or_false] at e
            rcases e with e | e
            · exact kp e
            · exact ap e
        · rw [htk, ← ht, List.map_append]
          rfl
        · simp
        · intro y hy
          rcases List.mem_append.mp hy with hy | hy
          · have := hsz y hy
            omega
          · rw [List.mem_singleton.mp hy]
            simp
        · simp
          omega
      | kind w c d =>
        have nm : PyData.strOk w = true := StA.ok hcl
        simp only [lpD]
        try simp only [dSeq]
        walk_at "z7"
        refine dEq_nil (n := 1) (by omega) rfl (by simp [clB, nm]; decide +kernel) ?_
        refine ⟨_, rfl, ?_⟩
        simp only [List.isEmpty_cons, Bool.false_eq_true, if_false]
        rw [if_pos (show (!decide (("kind" : Str) = "task")) = true by decide +kernel)]
        refine ⟨_, lsOf_ref mset_same, rfl, _, rfl, ?_⟩
        by_cases h0 : L = []
        · rw [if_pos (by rw [h0]; rfl)]
          exact ⟨m, sb, bad rfl h0⟩
        rw [if_neg (by simpa using h0)]
        have hr1 : rdL 0 [] ls = rdL (j + 1) (acc ++ [.kind w c d]) (ls.drop (j + 1)) := by
          rw [if_pos (.inr fun e => h0 (hal.mp e))] at hr1
          exact hr1
        obtain ⟨L0, ⟨t, k, a⟩, rfl⟩ : ∃ L0 x, L = L0 ++ [x] := ⟨_, _, (List.dropLast_concat_getLast h0).symm⟩
        have hx := hsz ⟨t, k, a⟩ (by simp)
        have ox := hL.own ⟨t, k, a⟩ (by simp)
        have kp : k ≠ p := fun e => hpn (by rw [drA_app, ← e]; simp [drA])
        dsimp only at hx ox
        walk_at "zn"
        rw [if_neg (show ¬ ("kind" : Str) = "task" by decide +kernel)]
        rw [dSeq]
        walk_at "zs"
        rw [dSeq, dSet]
        walk_at "zs"
        refine ⟨(⟨t, k, a⟩ : Drf).D, at_last (by simp), ?_⟩
        simp only [Drf.D]
        walk_at "zs"
        have e1 : mset m1 p (.lst ((L0 ++ [(⟨t, k, a⟩ : Drf)]).map Drf.D)) k = some (.lst (t.ks.map Knd.D)) := by rw [mset_ne kp]; exact ox.1
        refine ⟨⟨_, lsOf_ref e1⟩, _, e1, by simp; omega, ?_⟩
        rw [mset_comm kp.symm]
        rw [if_neg (show ¬ ("kind" : Str) = "arrow" by decide +kernel)]
        refine (hP1 _ _ _).mpr ⟨by omega, acc ++ [.kind w c d], L0 ++ [⟨{ t with ks := t.ks ++ [⟨w, c, d⟩] }, k, a⟩], _, hL.upK ⟨w, c, d⟩, ?_, ?_, by simp, ?_, ?_, by rw [List.map_append, List.map_append]; rfl, hr1, _, _, _, _, rfl⟩
        · intro e
          rw [drA_app] at e hpn
          exact hpn e
        · rw [htk, ← ht, List.map_append, List.map_append]
          exact (upL_app (fun t => { t with ks := t.ks ++ [⟨w, c, d⟩] }) t (L0.map Drf.t)).symm
        · intro y hy
          rcases List.mem_append.mp hy with hy | hy
          · have := hsz y (List.mem_append_left _ hy)
            omega
          · rw [List.mem_singleton.mp hy]
            simp
            omega
        · rw [List.length_append] at hll ⊢
          simp at hll ⊢
          omega
      | arrow w c d =>
        have nm : PyData.strOk w = true := StA.ok hcl.1
        have nm2 : PyData.strOk c = true := StA.ok hcl.2
        simp only [lpD]
        try simp only [dSeq]
        walk_at "z7"
        refine dEq_nil (n := 1) (by omega) rfl (by simp [clB, nm, nm2]; decide +kernel) ?_
        refine ⟨_, rfl, ?_⟩
        simp only [List.isEmpty_cons, Bool.false_eq_true, if_false]
        rw [if_pos (show (!decide (("arrow" : Str) = "task")) = true by decide +kernel)]
        refine ⟨_, lsOf_ref mset_same, rfl, _, rfl, ?_⟩
        by_cases h0 : L = []
        · rw [if_pos (by rw [h0]; rfl)]
          exact ⟨m, sb, bad rfl h0⟩
        rw [if_neg (by simpa using h0)]
        have hr1 : rdL 0 [] ls = rdL (j + 1) (acc ++ [.arrow w c d]) (ls.drop (j + 1)) := by
          rw [if_pos (.inr fun e => h0 (hal.mp e))] at hr1
          exact hr1
        obtain ⟨L0, ⟨t, k, a⟩, rfl⟩ : ∃ L0 x, L = L0 ++ [x] := ⟨_, _, (List.dropLast_concat_getLast h0).symm⟩
        have hx := hsz ⟨t, k, a⟩ (by simp)
        have ox := hL.own ⟨t, k, a⟩ (by simp)
        have kp : a ≠ p := fun e => hpn (by rw [drA_app, ← e]; simp [drA])
        dsimp only at hx ox
        walk_at "zn"
        rw [if_neg (show ¬ ("arrow" : Str) = "task" by decide +kernel)]
        rw [dSeq]
        walk_at "zs"
        rw [if_neg (show ¬ ("arrow" : Str) = "kind" by decide +kernel)]
        rw [dSeq, dSet]
        walk_at "zs"
        refine ⟨(⟨t, k, a⟩ : Drf).D, at_last (by simp), ?_⟩
        simp only [Drf.D]
        walk_at "zs"
        have e1 : mset m1 p (.lst ((L0 ++ [(⟨t, k, a⟩ : Drf)]).map Drf.D)) a = some (.lst (t.as.map Arr.D)) := by rw [mset_ne kp]; exact ox.2
        refine ⟨⟨_, lsOf_ref e1⟩, _, e1, by simp; omega, ?_⟩
        rw [mset_comm kp.symm]
        refine (hP1 _ _ _).mpr ⟨by omega, acc ++ [.arrow w c d], L0 ++ [⟨{ t with as := t.as ++ [⟨w, c, d⟩] }, k, a⟩], _, hL.upA ⟨w, c, d⟩, ?_, ?_, by simp, ?_, ?_, by rw [List.map_append, List.map_append]; rfl, hr1, _, _, _, _, rfl⟩
        · intro e
          rw [drA_app] at e hpn
          exact hpn e
        · rw [htk, ← ht, List.map_append, List.map_append]
          exact (upL_app (fun t => { t with as := t.as ++ [⟨w, c, d⟩] }) t (L0.map Drf.t)).symm
        · intro y hy
          rcases List.mem_append.mp hy with hy | hy
          · have := hsz y (List.mem_append_left _ hy)
            omega
          · rw [List.mem_singleton.mp hy]
            simp
            omega
        · rw [List.length_append] at hll ⊢
          simp at hll ⊢
          omega
  intro r m' hp1
  obtain ⟨_, acc, L, m1, hL, hpn, ht, hal, hsz, hll, rfl, hr0, o3, o4, o5, o6, rfl⟩ := (hP1 _ _ _).mp hp1
  rw [rngD_len] at hr0
  have hmp := hm1 hL hpn
  refine ⟨p, _, rfl, mset_same, ?_⟩
  rw [mdel_mset hmp]
  obtain ⟨l, hl⟩ : ∃ l, ls[ls.length - 1]? = some l := ⟨_, List.getElem?_eq_getElem (by omega)⟩
  have hdr : ls.drop (ls.length - 1) = [l] := by
    have e := (List.getElem_cons_drop (show ls.length - 1 < ls.length by omega)).symm
    rw [e, List.drop_eq_nil_of_le (by omega)]
    rw [List.getElem?_eq_getElem (by omega)] at hl
    rw [Option.some.inj hl]
  rw [hdr, rdL_last] at hr0
  walk_at "zn"
  refine ⟨.str l, at_last (by rw [List.length_map, List.getElem?_map, hl]; rfl), ?_⟩
  walk_at "zn"
  by_cases h0 : l = ""
  rotate_left
  · rw [if_neg h0] at hr0
    rw [if_pos (by simp [h0])]
    try simp only [dSeq]
    walk_at "z7"
    rw [hr0] at q
    have q : Q (ansD (.bad (ls.length - 1 + 1))) m := q
    rw [show ls.length - 1 + 1 = ls.length by omega] at q
    exact ⟨m, hL.sub, q⟩
  rw [if_pos h0] at hr0
  rw [if_neg (by simp [h0])]
  rw [hr0] at q
  obtain ⟨_, _, _, htkp, htl⟩ := hrd acc hr0
  have q : Q (ansD (ansL (acc.foldl addL []))) m := q
  generalize acc.foldl addL [] = ts at *
  walk_at "zn"
  refine ⟨_, _, _, rfl, hL.frz, ?_⟩
  have hts : (L.map fun x => specD x.t) = ts.map specD := by
    rw [← ht, List.map_map]
    rfl
  rw [hts]
  rw [dSeq]
  walk_at "zs"
  obtain ⟨P2, hP2⟩ : ∃ P : Nat → DSt → M → Prop, ∀ j r m', P j r m' ↔ (m = m' ∧ Q (ansD (match (ts.drop j).findSome? tskF with | some f => .flt f | none => .ok ts)) m ∧ ∃ o7 o8, r = [some (.str z), some (.lst (ls.map D.str)), some (.lst (ts.map specD)), o3, o4, o5, o6, o7, o8]) := ⟨_, fun _ _ _ => Iff.rfl⟩
  refine ⟨P2, (hP2 0 _ _).mpr ⟨rfl, q, _, _, rfl⟩, ?_, ?_⟩
  · intro j d r m' hd hp2
    obtain ⟨rfl, q, o7, o8, rfl⟩ := (hP2 _ _ _).mp hp2
    obtain ⟨t, ht, rfl⟩ := map_at hd
    have hj := len_at ht
    have tk := htkp t (mem_at ht)
    have hdr := (List.getElem_cons_drop hj).symm
    rw [(List.getElem?_eq_some_iff.mp ht).2] at hdr
    rw [hdr, List.findSome?_cons] at q
    have kl := tk.kl
    have hfs := tskF_s tk.nm tk.k tk.a
    try simp only [dSeq]
    walk_at "z7"
    refine ⟨t, rfl, ⟨tk.nm, by omega, tk.k, by omega, tk.a⟩, ?_⟩
    try simp only [dSeq]
    walk_at "z7"
    refine dNe_data (n := 1) (by omega) (by rw [vD_due]; exact due_cl hfs) (by exact due_cl (o := none) fun f e => by cases e) (fun c hc => ?_)
    rw [vD_due] at hc
    have hc2 : c = true ↔ tskF t = none := hc.trans due_fine
    cases hk : tskF t with
    | some f =>
      rw [hk] at q hc2
      obtain rfl : c = false := Bool.eq_false_iff.mpr fun e => by cases hc2.mp e
      try simp only [dSeq]
      walk_at "z7"
      exact ⟨m, sub_refl, q⟩
    | none =>
      rw [hk] at q hc2
      obtain rfl : c = true := hc2.mpr rfl
      try simp only [dSeq]
      walk_at "z7"
      exact (hP2 _ _ _).mpr ⟨rfl, q, _, _, rfl⟩
  intro r m' hp2
  obtain ⟨rfl, q, o7, o8, rfl⟩ := (hP2 _ _ _).mp hp2
  rw [List.length_map, List.drop_length] at q
  try simp only [dSeq]
  walk_at "z7"
  exact ⟨m, sub_refl, q⟩
theorem pure_law_fault {K : Fr0} {mg : Str → Option Value} (T : Txt K mg) (ea ec : Addr) (ed : Option Addr) (ds : List D) (m : M) (Q : D → M → Prop) (E : XD → M → Prop) (h : sp_law_fault K ea ec ed ds m Q E) : t_law_fault K ea ec ed { nx := fun _ m => Q .non m, rt := Q } (startD nm_law_fault ds) m := by
  obtain ⟨f, rfl, rfl, q⟩ := h
  show t_law_fault K _ _ _ _ [some (.exn ea ed (erX K f).fs)] m
  unfold t_law_fault
  cases f with
  | inr k =>
    simp only [erX, Bad.X]
    walk_at "zn"
    refine (isx_ty T.xi_BadLine (kitUpT_of T.xkv (i := 6) rfl)).mpr ?_
    walk_at "zn"
    refine (isx_own T.xi_BadLine T.xk_BadLine_BadLine).mpr ?_
    walk_at "zn"
    exact ⟨_, rfl, _, rfl, q⟩
  | inl f =>
  cases f with
  | nm z =>
    simp only [erX, Flt.X]
    walk_at "zn"
    refine (isx_ty T.xi_BadName (kitUpT_of T.xkv (i := 0) rfl)).mpr ?_
    walk_at "zn"
    refine (isx_own T.xi_BadName T.xk_BadName_BadLine).mpr ?_
    walk_at "zn"
    refine (isx_own T.xi_BadName T.xk_BadName_BadName).mpr ?_
    walk_at "zn"
    exact ⟨_, rfl, _, rfl, q⟩
  | cnt w n =>
    simp only [erX, Flt.X]
    walk_at "zn"
    refine (isx_ty T.xi_WrongCount (kitUpT_of T.xkv (i := 1) rfl)).mpr ?_
    walk_at "zn"
    refine (isx_own T.xi_WrongCount T.xk_WrongCount_BadLine).mpr ?_
    walk_at "zn"
    refine (isx_own T.xi_WrongCount T.xk_WrongCount_BadName).mpr ?_
    walk_at "zn"
    refine (isx_own T.xi_WrongCount T.xk_WrongCount_WrongCount).mpr ?_
    walk_at "zn"
    exact ⟨_, rfl, _, rfl, _, rfl, _, rfl, q⟩
  | rng w n =>
    simp only [erX, Flt.X]
    walk_at "zn"
    refine (isx_ty T.xi_OutOfRange (kitUpT_of T.xkv (i := 2) rfl)).mpr ?_
    walk_at "zn"
    refine (isx_own T.xi_OutOfRange T.xk_OutOfRange_BadLine).mpr ?_
    walk_at "zn"
    refine (isx_own T.xi_OutOfRange T.xk_OutOfRange_BadName).mpr ?_
    walk_at "zn"
    refine (isx_own T.xi_OutOfRange T.xk_OutOfRange_WrongCount).mpr ?_
    walk_at "zn"
    refine (isx_own T.xi_OutOfRange T.xk_OutOfRange_OutOfRange).mpr ?_
    walk_at "zn"
    exact ⟨_, rfl, _, rfl, _, rfl, _, rfl, q⟩
  | rep z =>
    simp only [erX, Flt.X]
    walk_at "zn"
    refine (isx_ty T.xi_Repeated (kitUpT_of T.xkv (i := 3) rfl)).mpr ?_
    walk_at "zn"
    refine (isx_own T.xi_Repeated T.xk_Repeated_BadLine).mpr ?_
    walk_at "zn"
    refine (isx_own T.xi_Repeated T.xk_Repeated_BadName).mpr ?_
    walk_at "zn"
    refine (isx_own T.xi_Repeated T.xk_Repeated_WrongCount).mpr ?_
    walk_at "zn"
    refine (isx_own T.xi_Repeated T.xk_Repeated_OutOfRange).mpr ?_
    walk_at "zn"
    refine (isx_own T.xi_Repeated T.xk_Repeated_Repeated).mpr ?_
    walk_at "zn"
    exact ⟨_, rfl, _, rfl, q⟩
  | repA z w =>
    simp only [erX, Flt.X]
    walk_at "zn"
    refine (isx_ty T.xi_RepeatedArrow (kitUpT_of T.xkv (i := 4) rfl)).mpr ?_
    walk_at "zn"
    refine (isx_own T.xi_RepeatedArrow T.xk_RepeatedArrow_BadLine).mpr ?_
    walk_at "zn"
    refine (isx_own T.xi_RepeatedArrow T.xk_RepeatedArrow_BadName).mpr ?_
    walk_at "zn"
    refine (isx_own T.xi_RepeatedArrow T.xk_RepeatedArrow_WrongCount).mpr ?_
    walk_at "zn"
    refine (isx_own T.xi_RepeatedArrow T.xk_RepeatedArrow_OutOfRange).mpr ?_
    walk_at "zn"
    refine (isx_own T.xi_RepeatedArrow T.xk_RepeatedArrow_Repeated).mpr ?_
    walk_at "zn"
    refine (isx_own T.xi_RepeatedArrow T.xk_RepeatedArrow_RepeatedArrow).mpr ?_
    walk_at "zn"
    exact ⟨_, rfl, _, rfl, _, rfl, _, rfl, q⟩
  | unk z =>
    simp only [erX, Flt.X]
    walk_at "zn"
    refine (isx_ty T.xi_UnknownKind (kitUpT_of T.xkv (i := 5) rfl)).mpr ?_
    walk_at "zn"
    refine (isx_own T.xi_UnknownKind T.xk_UnknownKind_BadLine).mpr ?_
    walk_at "zn"
    refine (isx_own T.xi_UnknownKind T.xk_UnknownKind_BadName).mpr ?_
    walk_at "zn"
    refine (isx_own T.xi_UnknownKind T.xk_UnknownKind_WrongCount).mpr ?_
    walk_at "zn"
    refine (isx_own T.xi_UnknownKind T.xk_UnknownKind_OutOfRange).mpr ?_
    walk_at "zn"
    refine (isx_own T.xi_UnknownKind T.xk_UnknownKind_Repeated).mpr ?_
    walk_at "zn"
    refine (isx_own T.xi_UnknownKind T.xk_UnknownKind_RepeatedArrow).mpr ?_
    walk_at "zn"
    refine (isx_own T.xi_UnknownKind T.xk_UnknownKind_UnknownKind).mpr ?_
    walk_at "zn"
    exact ⟨_, rfl, _, rfl, q⟩
theorem pure_law_told {K : Fr0} {mg : Str → Option Value} (T : Txt K mg) (ds : List D) (m : M) (Q : D → M → Prop) (E : XD → M → Prop) (h : sp_law_told K ds m Q E) : t_law_told K (fun x _ m => E x m) { nx := fun _ m => Q .non m, rt := Q } (startD nm_law_told ds) m := by
  obtain ⟨z, rfl, tx, q⟩ := h
  have zl := tx.bnd (Nat.le_refl 3)
  have hnl := tx.lines.n
  show t_law_told K _ _ [some (.str z), none, none, none] m
  unfold t_law_told
  rw [dSeq, dTryAs]
  generalize hW : dCatchAs K _ _ _ _ _ = W
  have WX : ∀ (f : Flt) (m' : M), ansT z = .flt f → MSub m m' → W (f.X K) [some (.str z), none, none, none] m' := by
    intro f m' hf sb
    subst hW
    simp only [dCatchAs]
    refine ⟨true, by cases f <;> first | exact T.xm_BadName_DuesError | exact T.xm_WrongCount_DuesError | exact T.xm_OutOfRange_DuesError | exact T.xm_Repeated_DuesError | exact T.xm_RepeatedArrow_DuesError | exact T.xm_UnknownKind_DuesError, fun _ a d ha => ?_, fun h => absurd h (by decide)⟩
    try simp only [dSeq]
    walk_at "z7"
    refine ⟨.inl f, rfl, rfl, m, sb, ?_⟩
    rw [hf] at q
    exact q
  have WB : ∀ (k : Nat) (m' : M), ansT z = .bad k → MSub m m' → W (Bad.X K k) [some (.str z), none, none, none] m' := by
    intro k m' hf sb
    subst hW
    simp only [dCatchAs]
    refine ⟨true, T.xm_BadLine_DuesError, fun _ a d ha => ?_, fun h => absurd h (by decide)⟩
    try simp only [dSeq]
    walk_at "z7"
    refine ⟨.inr k, rfl, rfl, m, sb, ?_⟩
    rw [hf] at q
    exact q
  walk_at "zn"
  refine ⟨z, rfl, ⟨by omega, by omega⟩, ?_⟩
  cases ha : ansT z with
  | bad k => exact fun m' hs => WB k m' ha hs
  | flt f => exact fun m' hs => WX f m' ha hs
  | ok ts =>
    rw [ha] at q
    have q : Q (.tup [.str "tasks", .lst (ts.map specD)]) m := q
    have hts : ts.length ≤ 100 := by
      unfold ansT at ha
      cases e : rdL 0 [] (PySem.Txt.split z "\n") with
      | inl k => rw [e] at ha; cases ha
      | inr rs =>
        rw [e] at ha
        obtain ⟨_, _, _, _, h5⟩ := read_p (P := fun _ => True) (fun _ _ _ => trivial) (by omega) e
        have ha : ansL (rs.foldl addL []) = .ok ts := ha
        unfold ansL at ha
        cases hf : (rs.foldl addL []).findSome? tskF with
        | some f => rw [hf] at ha; cases ha
        | none => rw [hf] at ha; cases ha; exact h5
    dsimp only
    try simp only [dSeq]
    walk_at "z7"
    refine lc_mapD (g := taskD K) (f := specD) (l := ts) (by rw [sizeLine_eq]; omega) (fun t ht => ?_) ?_
    · refine ⟨_, rfl, fun Q' q' => ?_⟩
      simp only [wipeD]
      try simp only [dSeq, dIfS, dTest, dOp, dVar, dC, dCB, daCons, daNil, dSet, dRet, dNext, dDrop, dAsg, dPar, dAug, dAddI, dBreak, dCont, dRetN, slot, dLen, dCmpI, dSub, dAdd, dMul, dDiv, dMod, dPow, dNeg, dUn, dIx, dInt1, dAbs, dChain, dAnd, dOr, dNot, dAndV, dOrV, dNotV, dTru, dTruB, dIf, dTup, dLst, mkL, dSlice, dSl, doNone, doSome, dSum, dAll, dAny, dList, dTuple, dMax, dMin, eq_ii, ne_ii, eq_ss, ne_ss, eq_bb, ne_bb, eq_nn, ne_nn, dIsN, dNotN, dFgt, dIsB, dNotB, gN, gT, gsNil, gsCons, gSet, dBM, dAppend, dClear, dFld, dFldS, dProp, dCall, dMeth, dMake, dMakeN, daStar, dDictP, dCallO, dFor, dLc, diR1, diR2, diR3, diL, diT, diRv, diS, diE, dFmt, dFStr, dJs, dCallN, dFrzE, frz_l, in_ss, notin_ss, drR1, drR2, dListR, dRaise, dRaise0, dTryAs, dTry, dXf, dAddO, dInO, isL, insOf, Option.some.injEq, List.cons.injEq, D.int.injEq, D.bl.injEq, D.str.injEq, D.lst.injEq, D.tup.injEq, D.ref.injEq, MO.lst.injEq, MO.ins.injEq, mset_mset, and_true, true_and, and_self, and_assoc, exists_eq_left', exists_eq_left, exists_and_left, exists_and_right, exists_eq', List.set_cons_zero, List.set_cons_succ, decide_eq_true_eq, sqOf, lsOf, List.length_cons, List.length_nil, sizeLine_eq, List.append_nil, List.cons_append, List.nil_append, if_true, if_false, Bool.false_eq_true, reduceCtorEq, reduceIte, Nat.reduceAdd, Nat.reduceLeDiff, mset_same, Option.bind_some, List.length_map, Prod.mk.injEq, at0, at1, at2, at3, at4, at5, at6, at7, ix30, ix31, ix32, ix20, ix21, ix10, isi_ii, isi_ib, isi_ll, isi_bb, isi_ss, isi_tt, isi_is, isi_si, Bool.not_true, Bool.not_false, dCopyK, dGet2K, dDctR, dDisp1, dFrzEK, T.cl_Task, T.n_Task_name, T.n_Task_kind_rows, T.n_Task_arrow_rows, taskD, lk_name, lk_kinds, lk_arrows]
      exact ⟨t, _, rfl, rfl, t, _, rfl, rfl, q'⟩
    exact ⟨m, sub_refl, q⟩
theorem pure_Task_arrows {K : Fr0} {mg : Str → Option Value} (T : Txt K mg) (ds : List D) (m : M) (Q : D → M → Prop) (E : XD → M → Prop) (h : sp_Task_arrows K ds m Q E) : t_Task_arrows K (fun x _ m => E x m) { nx := fun _ m => Q .non m, rt := Q } (startD nm_Task_arrows ds) m := by
  obtain ⟨t, x, rfl, rfl, q⟩ := h
  show t_Task_arrows K _ _ [some (taskD K t)] m
  unfold t_Task_arrows
  try simp only [dSeq, dIfS, dTest, dOp, dVar, dC, dCB, daCons, daNil, dSet, dRet, dNext, dDrop, dAsg, dPar, dAug, dAddI, dBreak, dCont, dRetN, slot, dLen, dCmpI, dSub, dAdd, dMul, dDiv, dMod, dPow, dNeg, dUn, dIx, dInt1, dAbs, dChain, dAnd, dOr, dNot, dAndV, dOrV, dNotV, dTru, dTruB, dIf, dTup, dLst, mkL, dSlice, dSl, doNone, doSome, dSum, dAll, dAny, dList, dTuple, dMax, dMin, eq_ii, ne_ii, eq_ss, ne_ss, eq_bb, ne_bb, eq_nn, ne_nn, dIsN, dNotN, dFgt, dIsB, dNotB, gN, gT, gsNil, gsCons, gSet, dBM, dAppend, dClear, dFld, dFldS, dProp, dCall, dMeth, dMake, dMakeN, daStar, dDictP, dCallO, dFor, dLc, diR1, diR2, diR3, diL, diT, diRv, diS, diE, dFmt, dFStr, dJs, dCallN, dFrzE, frz_l, in_ss, notin_ss, drR1, drR2, dListR, dRaise, dRaise0, dTryAs, dTry, dXf, dAddO, dInO, isL, insOf, Option.some.injEq, List.cons.injEq, D.int.injEq, D.bl.injEq, D.str.injEq, D.lst.injEq, D.tup.injEq, D.ref.injEq, MO.lst.injEq, MO.ins.injEq, mset_mset, and_true, true_and, and_self, and_assoc, exists_eq_left', exists_eq_left, exists_and_left, exists_and_right, exists_eq', List.set_cons_zero, List.set_cons_succ, decide_eq_true_eq, sqOf, lsOf, List.length_cons, List.length_nil, sizeLine_eq, List.append_nil, List.cons_append, List.nil_append, if_true, if_false, Bool.false_eq_true, reduceCtorEq, reduceIte, Nat.reduceAdd, Nat.reduceLeDiff, mset_same, Option.bind_some, List.length_map, Prod.mk.injEq, at0, at1, at2, at3, at4, at5, at6, at7, ix30, ix31, ix32, ix20, ix21, ix10, isi_ii, isi_ib, isi_ll, isi_bb, isi_ss, isi_tt, isi_is, isi_si, Bool.not_true, Bool.not_false, dCopyK, dGet2K, dDctR, dDisp1, dFrzEK, T.cl_Task, T.n_Task_name, T.n_Task_kind_rows, T.n_Task_arrow_rows, taskD, lk_name, lk_kinds, lk_arrows]
  exact q
theorem spec_p {K : Fr0} {a b : Addr} {s : PS} {n : Int} {m0 : M} {Q : D → M → Prop} {E : XD → M → Prop} (hp : Pl a b s n) (hn : n ≤ 1000000000) (h : ∀ t s', t.Ok → Pl a b s' (n + 1000) → Q (specD t) (pm a b s' m0)) : sp_law_spec K [.ref a] (pm a b s m0) Q E :=
  ⟨_, a, b, s, n, m0, rfl, rfl, rfl, hp, hn, h⟩
theorem Tx.up {i j : Nat} {z : Str} (h : Tx i z) (e : i ≤ j) : Tx j z := by
  have h1 := h.len
  have h2 := h.nl
  have e : 4 ^ i ≤ 4 ^ j := Nat.pow_le_pow_right (by omega) e
  exact ⟨by omega, by omega, h.ch⟩
theorem tx_specs {ts : List Tsk} (h : ∀ t ∈ ts, t.Ok) (hl : ts.length ≤ 4) : Tx 0 (txtL (rowsOf ts)) := by
  obtain ⟨h1, h2⟩ := rowsOf_ok h
  have h3 := txtL_len h1
  have cnt : ∀ rs : List Ln, (∀ r ∈ rs, r.Ok) → (txtC rs).count 10 = rs.length := by
    intro rs
    induction rs with
    | nil => intro _; rfl
    | cons r rs ih =>
      intro h
      show (r.line.cps.toList ++ txtC rs).count 10 = _
      rw [List.count_append, ih fun x hx => h x (List.mem_cons_of_mem _ hx), Ln.line, cps_app, lit_nl, List.count_append, List.count_eq_zero.mpr (h r List.mem_cons_self).ch]
      simp
      omega
  have chr : ∀ c ∈ (txtL (rowsOf ts)).cps.toList, c < 128 := by
    intro c hc
    have hc : c ∈ txtC (rowsOf ts) := hc
    obtain ⟨r, hr, hc⟩ := List.mem_flatMap.mp hc
    rw [Ln.line, cps_app, lit_nl] at hc
    rcases List.mem_append.mp hc with hc | hc
    · rw [txt_jn] at hc
      have ok := h1 r hr
      have nm : ∀ z : Str, nameB z = true → ∀ d ∈ z.cps.toList, d < 128 := fun z hz d hd => by
        unfold nameB at hz
        simp only [Bool.and_eq_true] at hz
        have h2 := List.all_eq_true.mp hz.2 d hd
        rw [found1, found1, Bool.or_eq_true, decide_eq_true_eq, decide_eq_true_eq] at h2
        have a1 : ∀ c ∈ LETTERS.cps.toList, c < 128 := by decide +kernel
        have a2 : ∀ c ∈ SIGNS.cps.toList, c < 128 := by decide +kernel
        exact h2.elim (a1 d) (a2 d)
      have nu : ∀ n : Int, 1 ≤ n ∧ n ≤ 99 → ∀ d ∈ (numS n).cps.toList, d < 128 := fun n hn d hd => by have := (num_ok hn).ch d hd; omega
      refine jn_chr 32 (P := fun d => d < 128) (by omega) (fun z hz => ?_) c hc
      have k1 : ∀ d ∈ ("task" : Str).cps.toList, d < 128 := by decide +kernel
      have k2 : ∀ d ∈ ("kind" : Str).cps.toList, d < 128 := by decide +kernel
      have k3 : ∀ d ∈ ("arrow" : Str).cps.toList, d < 128 := by decide +kernel
      cases r with
      | task w =>
        simp only [Ln.ws, List.mem_cons, List.not_mem_nil, or_false] at hz
        rcases hz with rfl | rfl
        · exact k1
        · exact nm _ ok
      | kind w c d =>
        simp only [Ln.ws, List.mem_cons, List.not_mem_nil, or_false] at hz
        rcases hz with rfl | rfl | rfl | rfl
        · exact k2
        · exact nm _ ok.1
        · exact nu _ ok.2.1
        · exact nu _ ok.2.2
      | arrow w c d =>
        simp only [Ln.ws, List.mem_cons, List.not_mem_nil, or_false] at hz
        rcases hz with rfl | rfl | rfl | rfl
        · exact k3
        · exact nm _ ok.1
        · exact nm _ ok.2.1
        · exact nu _ ok.2.2
    · rw [List.mem_singleton.mp hc]; omega
  refine ⟨by omega, ?_, chr⟩
  rw [txtL_cps, cnt _ h1]
  omega
theorem ans_cl {z : Str} (tx : Tx 3 z) : ∃ n, n ≤ 10 ∧ clB n (ansD (ansT z)) = true := by
  have zl := tx.bnd (Nat.le_refl 3)
  have hnl := tx.lines.n
  have hb : PyData.strOk ("BadLine" : Str) = true := by decide +kernel
  have ht : PyData.strOk ("tasks" : Str) = true := by decide +kernel
  unfold ansT
  cases e : rdL 0 [] (PySem.Txt.split z "\n") with
  | inl k =>
    refine ⟨1, by omega, ?_⟩
    show (PyData.strOk ("BadLine" : Str) && (true && true)) = true
    rw [hb]
    rfl
  | inr rs =>
    obtain ⟨_, _, _, h4, h5⟩ := read_p (P := StA 1000000) (fun w h1 h2 => ⟨by omega, fun c hc => tx.ch c (h2 c hc)⟩) (by omega) e
    show ∃ n, n ≤ 10 ∧ clB n (ansD (ansL (rs.foldl addL []))) = true
    generalize rs.foldl addL [] = ts at *
    unfold ansL
    cases hf : ts.findSome? tskF with
    | some f =>
      obtain ⟨t, ht, hf⟩ := List.exists_of_findSome?_eq_some hf
      have tk := h4 t ht
      exact ⟨1, by omega, due_cl (o := some f) fun g hg => by cases hg; exact tskF_s tk.nm tk.k tk.a f hf⟩
    | none =>
      refine ⟨5, by omega, ?_⟩
      show (PyData.strOk ("tasks" : Str) && ((ts.map specD).all (clB 3) && true)) = true
      rw [ht, Bool.true_and, Bool.and_true, List.all_map, List.all_eq_true]
      intro t ht
      have tk := h4 t ht
      show (PyData.strOk t.nm && ((t.ks.map Knd.D).all (clB 1) && ((t.as.map Arr.D).all (clB 1) && true))) = true
      rw [StA.ok tk.nm, ks_cl tk.k, as_cl tk.a]
      rfl
theorem vD_ans {m : M} (a : Ans) : vD m (ansD a) = ansD a := by
  cases a with
  | bad k => rfl
  | flt f => exact vD_due _
  | ok ts => rfl
theorem pure_law {K : Fr0} {mg : Str → Option Value} (T : Txt K mg) (ds : List D) (m : M) (Q : D → M → Prop) (E : XD → M → Prop) (h : spLaw ds m Q E) : t_law K (fun x _ m => E x m) { nx := fun _ m => Q .non m, rt := Q } (startD nm_law ds) m := by
  obtain ⟨ns, rfl, hl, rfl, q⟩ := h
  generalize m0 = m at *
  show t_law K _ _ [some (.rdl (ns.map D.int)), none, none, none, none, none, none] m
  unfold t_law
  rw [dSeq]
  walk_at "zn"
  refine ⟨ns, rfl, hl, fun a b s ha hb p0 => ?_⟩
  walk_at "zn"
  refine draw_p p0 (by omega) (by omega) (by omega) (fun w s1 w0 w1 p1 => ?_)
  walk_at "zn"
  refine draw_p p1 (by omega) (by omega) (by omega) (fun c s2 c0 c1 p2 => ?_)
  walk_at "zs"
  refine ⟨by omega, by omega, ?_⟩
  obtain ⟨P, hP⟩ : ∃ P : List D → M → Prop, ∀ acc m', P acc m' ↔ ∃ (ts : List Tsk) (s' : PS), acc = ts.map specD ∧ (∀ t ∈ ts, t.Ok) ∧ Pl a b s' (4 + 1000 * ts.length) ∧ m' = pm a b s' m := ⟨_, fun _ _ => Iff.rfl⟩
  refine lc_steps c.toNat (by rw [sizeLine_eq]; omega) P (by rw [rngD_len]; simp) ((hP _ _).mpr ⟨[], s2, rfl, by simp, p2.up (by simp), rfl⟩) (fun x hx acc m' hlt hp' => ?_) (fun acc m' hl2 hp' => ?_)
  · obtain ⟨ts, s', rfl, hts, p', rfl⟩ := (hP _ _).mp hp'
    rw [List.length_map] at hlt
    refine ⟨_, rfl, fun Q' q' => ?_⟩
    simp only [wipeD]
    walk_at "zs"
    refine spec_p p' (by omega) (fun t s2 ok p2 => q' _ _ ((hP _ _).mpr ⟨ts ++ [t], s2, by rw [List.map_append]; rfl, fun y hy => ?_, p2.up (by simp; omega), rfl⟩))
    rcases List.mem_append.mp hy with hy | hy
    · exact hts y hy
    · rw [List.mem_singleton.mp hy]; exact ok
  obtain ⟨ts, s2, rfl, hts, p2, rfl⟩ := (hP _ _).mp hp'
  rw [List.length_map] at hl2
  have tl : ts.length ≤ 4 := by omega
  clear hP hp' P
  have p2 := p2.up (show (4 + 1000 * (ts.length : Int)) ≤ 10000 by omega)
  refine ⟨ts, rfl, hts, tl, ?_⟩
  have tx0 := tx_specs hts tl
  generalize txtL (rowsOf ts) = z at *
  walk_at "zn"
  have tx3 := tx0.up (show 0 ≤ 3 by omega)
  refine ⟨z, rfl, tx3, ?_⟩
  walk_at "zn"
  refine ⟨z, rfl, tx3, ?_⟩
  obtain ⟨n, hn, hcl⟩ := ans_cl tx3
  refine dNe_same (n := n) (by omega) hcl (vD_ans _) ?_
  walk_at "zn"
  refine ⟨by omega, by omega, ?_⟩
  obtain ⟨P1, hP1⟩ : ∃ P : Nat → DSt → M → Prop, ∀ j r m', P j r m' ↔ (∃ (z : Str) (s' : PS) (o4 : Option D), Tx j z ∧ Pl a b s' (10000 + 20 * j) ∧ m' = pm a b s' m ∧ r = [some (.rdl (ns.map D.int)), some (.ref a), some (.int w), some (.str z), o4, none, none]) := ⟨_, fun _ _ _ => Iff.rfl⟩
  refine ⟨P1, (hP1 0 _ _).mpr ⟨z, s2, _, tx0, p2.up (by omega), rfl, rfl⟩, ?_, ?_⟩
  · intro j d r m' hd hp1
    obtain ⟨z, s', o4, tx, p3, rfl, rfl⟩ := (hP1 _ _ _).mp hp1
    obtain ⟨rfl, hj⟩ := rngD_at hd
    walk_at "zn"
    refine draw_p p3 (by omega) (by omega) (by omega) (fun u s3 u0 u1 p4 => ?_)
    walk_at "zn"
    by_cases hu : u = 0
    · rw [if_pos hu]
      walk_at "zn"
      refine ⟨j, z, tx, by omega, a, b, s3, _, m, rfl, rfl, p4, by omega, ?_⟩
      rintro _ s4 ⟨z', rfl, tx'⟩ p5
      walk_at "zn"
      exact (hP1 _ _ _).mpr ⟨z', s4, _, tx', p5.up (by omega), rfl, rfl⟩
    · rw [if_neg hu]
      walk_at "zn"
      refine ⟨j, z, tx, by omega, a, b, s3, _, m, rfl, rfl, p4, by omega, ?_⟩
      rintro _ s4 ⟨z', rfl, tx'⟩ p5
      walk_at "zn"
      exact (hP1 _ _ _).mpr ⟨z', s4, _, tx', p5.up (by omega), rfl, rfl⟩
  intro r m' hp1
  obtain ⟨z, s', o4, tx, p3, rfl, rfl⟩ := (hP1 _ _ _).mp hp1
  have tx := tx.up (show (rngD 0 w.toNat).length ≤ 3 by rw [rngD_len]; omega)
  obtain ⟨n, hn, hcl⟩ := ans_cl tx
  walk_at "zn"
  refine ⟨z, rfl, tx, ?_⟩
  walk_at "zn"
  refine ⟨z, rfl, tx, ?_⟩
  walk_at "zn"
  refine dNe_same (n := n) (by omega) hcl (vD_ans _) ?_
  have fin : sp_law_told K [.str z] (pm a b s' m) (fun x m1 => dEq x (ansD (ansT z)) m1 Q) fun x m2 => E x m2 := ⟨z, rfl, tx, dEq_same (n := n) (by omega) hcl (vD_ans _) (q _)⟩
  generalize hA : ansD (ansT z) = A at *
  cases hT : ansT z with
  | bad k =>
    rw [hT] at hA
    subst hA
    simp only [ansD] at fin ⊢
    walk_at "zn"
    exact fin
  | flt f =>
    rw [hT] at hA
    subst hA
    cases f <;> simp only [ansD, dueD] at fin ⊢
    · walk_at "zn"
      rw [if_neg (by decide +kernel)]
      walk_at "zn"
      exact fin
    · walk_at "zn"
      rw [if_neg (by decide +kernel)]
      walk_at "zn"
      exact fin
    · walk_at "zn"
      rw [if_neg (by decide +kernel)]
      walk_at "zn"
      exact fin
    · walk_at "zn"
      rw [if_neg (by decide +kernel)]
      walk_at "zn"
      exact fin
    · walk_at "zn"
      rw [if_neg (by decide +kernel)]
      walk_at "zn"
      exact fin
    · walk_at "zn"
      rw [if_neg (by decide +kernel)]
      walk_at "zn"
      exact fin
  | ok ts =>
    rw [hT] at hA
    subst hA
    simp only [ansD] at fin ⊢
    walk_at "zn"
    rw [if_neg (by decide +kernel)]
    walk_at "zn"
    exact fin
end LW

set_option Elab.async false
set_option linter.all false
set_option maxRecDepth 100000
set_option maxHeartbeats 4000000
namespace LW
open PySem PySem.Spec PyProof.Rows L2 DL
open He (ga ma)
theorem okx_BadName {P : Program} {w : World} {K : PySem.W.Frag} {mg : Str → Option Value} {base : Heap} (T : Txt K mg) : ∃ fd, FnOk P w K mg base (L2.CX P w) 1 (ma K (ga K "BadName") "__init__") fd ["self", "name"] (spX (ga K "BadName") ["name"]) ∧ Binds K fd ["self", "name"] [] := by
  obtain ⟨fd, F⟩ := T.d_BadName_init
  refine ⟨fd, fn_exc (k := 0) F sc_BadName_init T.ox_BadName ?_ rfl (by decide) (fun cdv A outer s H E => pss_cons (ps_ost (pv 0) (pv 1)) (pss_nil)), F.bindsN fun _ _ _ _ _ _ us hl => match us, hl with | [_, _], _ => rfl⟩
  intro g hg
  rcases List.mem_cons.mp hg with rfl | hg
  · exact T.nf_BadName_name
  cases hg

theorem okx_WrongCount {P : Program} {w : World} {K : PySem.W.Frag} {mg : Str → Option Value} {base : Heap} (T : Txt K mg) : ∃ fd, FnOk P w K mg base (L2.CX P w) 1 (ma K (ga K "WrongCount") "__init__") fd ["self", "what", "count"] (spX (ga K "WrongCount") ["what", "count"]) ∧ Binds K fd ["self", "what", "count"] [] := by
  obtain ⟨fd, F⟩ := T.d_WrongCount_init
  refine ⟨fd, fn_exc (k := 0) F sc_WrongCount_init T.ox_WrongCount ?_ rfl (by decide) (fun cdv A outer s H E => pss_cons (ps_ost (pv 0) (pv 1)) (pss_cons (ps_ost (pv 0) (pv 2)) (pss_nil))), F.bindsN fun _ _ _ _ _ _ us hl => match us, hl with | [_, _, _], _ => rfl⟩
  intro g hg
  rcases List.mem_cons.mp hg with rfl | hg
  · exact T.nf_WrongCount_what
  rcases List.mem_cons.mp hg with rfl | hg
  · exact T.nf_WrongCount_count
  cases hg

theorem okx_OutOfRange {P : Program} {w : World} {K : PySem.W.Frag} {mg : Str → Option Value} {base : Heap} (T : Txt K mg) : ∃ fd, FnOk P w K mg base (L2.CX P w) 1 (ma K (ga K "OutOfRange") "__init__") fd ["self", "what", "value"] (spX (ga K "OutOfRange") ["what", "value"]) ∧ Binds K fd ["self", "what", "value"] [] := by
  obtain ⟨fd, F⟩ := T.d_OutOfRange_init
  refine ⟨fd, fn_exc (k := 0) F sc_OutOfRange_init T.ox_OutOfRange ?_ rfl (by decide) (fun cdv A outer s H E => pss_cons (ps_ost (pv 0) (pv 1)) (pss_cons (ps_ost (pv 0) (pv 2)) (pss_nil))), F.bindsN fun _ _ _ _ _ _ us hl => match us, hl with | [_, _, _], _ => rfl⟩
  intro g hg
  rcases List.mem_cons.mp hg with rfl | hg
  · exact T.nf_OutOfRange_what
  rcases List.mem_cons.mp hg with rfl | hg
  · exact T.nf_OutOfRange_value
  cases hg

theorem okx_Repeated {P : Program} {w : World} {K : PySem.W.Frag} {mg : Str → Option Value} {base : Heap} (T : Txt K mg) : ∃ fd, FnOk P w K mg base (L2.CX P w) 1 (ma K (ga K "Repeated") "__init__") fd ["self", "name"] (spX (ga K "Repeated") ["name"]) ∧ Binds K fd ["self", "name"] [] := by
  obtain ⟨fd, F⟩ := T.d_Repeated_init
  refine ⟨fd, fn_exc (k := 0) F sc_Repeated_init T.ox_Repeated ?_ rfl (by decide) (fun cdv A outer s H E => pss_cons (ps_ost (pv 0) (pv 1)) (pss_nil)), F.bindsN fun _ _ _ _ _ _ us hl => match us, hl with | [_, _], _ => rfl⟩
  intro g hg
  rcases List.mem_cons.mp hg with rfl | hg
  · exact T.nf_Repeated_name
  cases hg

theorem okx_RepeatedArrow {P : Program} {w : World} {K : PySem.W.Frag} {mg : Str → Option Value} {base : Heap} (T : Txt K mg) : ∃ fd, FnOk P w K mg base (L2.CX P w) 1 (ma K (ga K "RepeatedArrow") "__init__") fd ["self", "first", "second"] (spX (ga K "RepeatedArrow") ["first", "second"]) ∧ Binds K fd ["self", "first", "second"] [] := by
  obtain ⟨fd, F⟩ := T.d_RepeatedArrow_init
  refine ⟨fd, fn_exc (k := 0) F sc_RepeatedArrow_init T.ox_RepeatedArrow ?_ rfl (by decide) (fun cdv A outer s H E => pss_cons (ps_ost (pv 0) (pv 1)) (pss_cons (ps_ost (pv 0) (pv 2)) (pss_nil))), F.bindsN fun _ _ _ _ _ _ us hl => match us, hl with | [_, _, _], _ => rfl⟩
  intro g hg
  rcases List.mem_cons.mp hg with rfl | hg
  · exact T.nf_RepeatedArrow_first
  rcases List.mem_cons.mp hg with rfl | hg
  · exact T.nf_RepeatedArrow_second
  cases hg

theorem okx_UnknownKind {P : Program} {w : World} {K : PySem.W.Frag} {mg : Str → Option Value} {base : Heap} (T : Txt K mg) : ∃ fd, FnOk P w K mg base (L2.CX P w) 1 (ma K (ga K "UnknownKind") "__init__") fd ["self", "name"] (spX (ga K "UnknownKind") ["name"]) ∧ Binds K fd ["self", "name"] [] := by
  obtain ⟨fd, F⟩ := T.d_UnknownKind_init
  refine ⟨fd, fn_exc (k := 0) F sc_UnknownKind_init T.ox_UnknownKind ?_ rfl (by decide) (fun cdv A outer s H E => pss_cons (ps_ost (pv 0) (pv 1)) (pss_nil)), F.bindsN fun _ _ _ _ _ _ us hl => match us, hl with | [_, _], _ => rfl⟩
  intro g hg
  rcases List.mem_cons.mp hg with rfl | hg
  · exact T.nf_UnknownKind_name
  cases hg

theorem okx_BadLine {P : Program} {w : World} {K : PySem.W.Frag} {mg : Str → Option Value} {base : Heap} (T : Txt K mg) : ∃ fd, FnOk P w K mg base (L2.CX P w) 1 (ma K (ga K "BadLine") "__init__") fd ["self", "line"] (spX (ga K "BadLine") ["line"]) ∧ Binds K fd ["self", "line"] [] := by
  obtain ⟨fd, F⟩ := T.d_BadLine_init
  refine ⟨fd, fn_exc (k := 0) F sc_BadLine_init T.ox_BadLine ?_ rfl (by decide) (fun cdv A outer s H E => pss_cons (ps_ost (pv 0) (pv 1)) (pss_nil)), F.bindsN fun _ _ _ _ _ _ us hl => match us, hl with | [_, _], _ => rfl⟩
  intro g hg
  rcases List.mem_cons.mp hg with rfl | hg
  · exact T.nf_BadLine_line
  cases hg

theorem ok_is_name {P : Program} {w : World} {K : PySem.W.Frag} {mg : Str → Option Value} {base : Heap} (T : Txt K mg) (TB : TabBs K mg base)  : Good P w K mg base 1 (some "is_name") (ga K "is_name") ["text"] (sp_is_name K) := by
  obtain ⟨fd, F⟩ := T.d_is_name
  refine ⟨⟨fd, fn_d (k := 0) F sc_is_name len_is_name (t_is_name K) (fun cdv A outer s H E WD hr tk hp => ?_) (pure_is_name T), F.bindsN fun _ _ _ _ _ _ us hl => match us, hl with | [_], _ => rfl, F.kp⟩, T.g_is_name⟩
  refine dss_cons (ds_if (dt_w (dw_or (dt_not (dt_chain op_le od_cmpI op_le od_cmpI de_int (de_callB call_len cd_len rfl T.b_len (by decide +kernel) (da_cons (dv 0) da_nil)) (de_globI rfl T.k_LONGEST_NAME))) (dw_or1 (dt_cmp op_notInA od_notIn (de_ix (dv 0) de_int) (de_globS rfl T.k_LETTERS) (by rfl))))) (dss_one (ds_ret de_bl)) dss_nil) ?_
  exact dss_one (ds_ret (de_callB (cr_all rfl) cd_all rfl T.b_all (by decide +kernel) (da_cons (de_lc false (own := [("sign", 1)]) (c := .one 1) (te := dOrV (dOp (dIn false) (dVar 1) (dC (.str "abcdefghijklmnopqrstuvwxyz"))) (dOp (dIn false) (dVar 1) (dC (.str "0123456789_")))) (tt := dYes) rfl sc_is_name.nd (by simp [CT.in]) (di_str (dv 0)) (blkOk_by (own := [("sign", 1)]) (N := nm_is_name) (sc := defScope s_is_name) (by decide +kernel)) (fun _ _ _ _ _ => pg_ct1 (i := 1) sc_is_name.nd rfl (Or.inl rfl)) (fun _ _ _ _ _ => dts_nil) (fun _ _ _ _ _ => de_or (de_cmp op_inA od_in (dv 1) (de_globS rfl T.k_LETTERS) (by rfl)) (de_one (de_cmp op_inA od_in (dv 1) (de_globS rfl T.k_OTHER_SIGNS) (by rfl))))) da_nil)))

theorem ok_need_name {P : Program} {w : World} {K : PySem.W.Frag} {mg : Str → Option Value} {base : Heap} (T : Txt K mg) (TB : TabBs K mg base) (c_is_name : Good P w K mg base 1 (some "is_name") (ga K "is_name") ["text"] (sp_is_name K)) : Good P w K mg base 3 (some "need_name") (ga K "need_name") ["text"] (sp_need_name K) := by
  obtain ⟨_, c_is_name_ok, c_is_name_b, c_is_name_kp⟩ := c_is_name.ex
  have c_is_name_g := c_is_name.gl
  obtain ⟨_, x_BadName_ok, x_BadName_b⟩ := okx_BadName (P := P) (w := w) (base := base) T
  obtain ⟨fd, F⟩ := T.d_need_name
  refine ⟨⟨fd, fn_d (k := 2) F sc_need_name len_need_name (t_need_name K) (fun cdv A outer s H E WD hr tk hp => ?_) (pure_need_name T), F.bindsN fun _ _ _ _ _ _ us hl => match us, hl with | [_], _ => rfl, F.kp⟩, T.g_need_name⟩
  exact dss_one (ds_if (dt_not (dt_tru (de_call c_is_name_ok (hr.mono (by decide)) rfl c_is_name_g c_is_name_kp c_is_name_b .nil (fun _ => .nil) tk (da_cons (dv 0) da_nil)))) (dss_one (ds_raise T.ox_BadName T.oxi_BadName T.oxf_BadName x_BadName_ok (hr.mono (by decide)) x_BadName_b rfl T.g_BadName (by decide) rfl tk (da_cons (dv 0) da_nil))) dss_nil)

theorem ok_need_range {P : Program} {w : World} {K : PySem.W.Frag} {mg : Str → Option Value} {base : Heap} (T : Txt K mg) (TB : TabBs K mg base)  : Good P w K mg base 3 (some "need_range") (ga K "need_range") ["what", "value", "least", "most"] (sp_need_range K) := by
  obtain ⟨_, x_OutOfRange_ok, x_OutOfRange_b⟩ := okx_OutOfRange (P := P) (w := w) (base := base) T
  obtain ⟨fd, F⟩ := T.d_need_range
  refine ⟨⟨fd, fn_d (k := 2) F sc_need_range len_need_range (t_need_range K) (fun cdv A outer s H E WD hr tk hp => ?_) (pure_need_range T), F.bindsN fun _ _ _ _ _ _ us hl => match us, hl with | [_, _, _, _], _ => rfl, F.kp⟩, T.g_need_range⟩
  exact dss_one (ds_if (dt_w (dw_or (dt_cmp op_lt od_cmpI (dv 1) (dv 2) (nomark _)) (dw_or1 (dt_cmp op_gt od_cmpI (dv 1) (dv 3) (nomark _))))) (dss_one (ds_raise T.ox_OutOfRange T.oxi_OutOfRange T.oxf_OutOfRange x_OutOfRange_ok (hr.mono (by decide)) x_OutOfRange_b rfl T.g_OutOfRange (by decide) rfl tk (da_cons (dv 0) (da_cons (dv 1) da_nil)))) dss_nil)

theorem ok_need_kind {P : Program} {w : World} {K : PySem.W.Frag} {mg : Str → Option Value} {base : Heap} (T : Txt K mg) (TB : TabBs K mg base)  : Good P w K mg base 3 (some "need_kind") (ga K "need_kind") ["name", "kind_rows"] (sp_need_kind K) := by
  obtain ⟨_, x_UnknownKind_ok, x_UnknownKind_b⟩ := okx_UnknownKind (P := P) (w := w) (base := base) T
  obtain ⟨fd, F⟩ := T.d_need_kind
  refine ⟨⟨fd, fn_d (k := 2) F sc_need_kind len_need_kind (t_need_kind K) (fun cdv A outer s H E WD hr tk hp => ?_) (pure_need_kind T), F.bindsN fun _ _ _ _ _ _ us hl => match us, hl with | [_, _], _ => rfl, F.kp⟩, T.g_need_kind⟩
  exact dss_one (ds_if (dt_cmp op_notInA od_notIn (dv 0) (de_lc false (own := [("row", 2)]) (c := .one 2) (te := dOp dIx (dVar 2) (dC (.int 0))) (tt := dYes) rfl sc_need_kind.nd (by simp [CT.in]) (di_list (dv 1)) (blkOk_by (own := [("row", 2)]) (N := nm_need_kind) (sc := defScope s_need_kind) (by decide +kernel)) (fun _ _ _ _ _ => pg_ct1 (i := 2) sc_need_kind.nd rfl (Or.inl rfl)) (fun _ _ _ _ _ => dts_nil) (fun _ _ _ _ _ => de_ix (dv 2) de_int)) (by rfl)) (dss_one (ds_raise T.ox_UnknownKind T.oxi_UnknownKind T.oxf_UnknownKind x_UnknownKind_ok (hr.mono (by decide)) x_UnknownKind_b rfl T.g_UnknownKind (by decide) rfl tk (da_cons (dv 0) da_nil))) dss_nil)

theorem ok_checked_kinds {P : Program} {w : World} {K : PySem.W.Frag} {mg : Str → Option Value} {base : Heap} (T : Txt K mg) (TB : TabBs K mg base) (c_need_name : Good P w K mg base 3 (some "need_name") (ga K "need_name") ["text"] (sp_need_name K)) (c_need_range : Good P w K mg base 3 (some "need_range") (ga K "need_range") ["what", "value", "least", "most"] (sp_need_range K)) : Good P w K mg base 4 (some "checked_kinds") (ga K "checked_kinds") ["kinds", "branching"] (sp_checked_kinds K) := by
  obtain ⟨_, c_need_name_ok, c_need_name_b, c_need_name_kp⟩ := c_need_name.ex
  have c_need_name_g := c_need_name.gl
  obtain ⟨_, c_need_range_ok, c_need_range_b, c_need_range_kp⟩ := c_need_range.ex
  have c_need_range_g := c_need_range.gl
  obtain ⟨_, x_Repeated_ok, x_Repeated_b⟩ := okx_Repeated (P := P) (w := w) (base := base) T
  obtain ⟨fd, F⟩ := T.d_checked_kinds
  refine ⟨⟨fd, fn_d (k := 3) F sc_checked_kinds len_checked_kinds (t_checked_kinds K) (fun cdv A outer s H E WD hr tk hp => ?_) (pure_checked_kinds T), F.bindsN fun _ _ _ _ _ _ us hl => match us, hl with | [_, _], _ => rfl, F.kp⟩, T.g_checked_kinds⟩
  refine dss_cons (ds_asg (de_ifExp (dt_tru (dv 1)) (de_tup (da_cons de_int (da_cons de_int da_nil))) (de_tup (da_cons de_int (da_cons de_int da_nil)))) (dg_tup rfl (dgs_cons (dg_name (i := 2) sc_checked_kinds.nd rfl (Or.inl rfl)) (dgs_cons (dg_name (i := 3) sc_checked_kinds.nd rfl (Or.inl rfl)) dgs_nil)))) ?_
  refine dss_cons (ds_set (i := 4) sc_checked_kinds.nd rfl (Or.inl rfl) (de_lst true da_nil)) ?_
  refine dss_cons (ds_for hp rfl (di_seq (dv 0)) (dg_tup rfl (dgs_cons (dg_name (i := 5) sc_checked_kinds.nd rfl (Or.inl rfl)) (dgs_cons (dg_name (i := 6) sc_checked_kinds.nd rfl (Or.inl rfl)) (dgs_cons (dg_name (i := 7) sc_checked_kinds.nd rfl (Or.inl rfl)) dgs_nil)))) (dss_cons (ds_expr (de_call c_need_name_ok (hr.mono (by decide)) rfl c_need_name_g c_need_name_kp c_need_name_b .nil (fun _ => .nil) tk (da_cons (dv 5) da_nil)))
    (dss_cons (ds_if (dt_cmp op_inA od_in (dv 5) (de_lcM false (own := [("row", 8)]) (c := .one 8) (te := dOp dIx (dVar 8) (dC (.int 0))) (tt := dYes) rfl sc_checked_kinds.nd (by simp [CT.in]) (dv 4) (blkOk_by (own := [("row", 8)]) (N := nm_checked_kinds) (sc := defScope s_checked_kinds) (by decide +kernel)) (fun _ _ _ _ _ => pg_ct1 (i := 8) sc_checked_kinds.nd rfl (Or.inl rfl)) (fun _ _ _ _ _ => dts_nil) (fun _ _ _ _ _ => de_ix (dv 8) de_int)) (by rfl)) (dss_one (ds_raise T.ox_Repeated T.oxi_Repeated T.oxf_Repeated x_Repeated_ok (hr.mono (by decide)) x_Repeated_b rfl T.g_Repeated (by decide) rfl tk (da_cons (dv 5) da_nil))) dss_nil)
    (dss_cons (ds_expr (de_call c_need_range_ok (hr.mono (by decide)) rfl c_need_range_g c_need_range_kp c_need_range_b .nil (fun _ => .nil) tk (da_cons de_str (da_cons (dv 6) (da_cons de_int (da_cons (dv 2) da_nil))))))
    (dss_cons (ds_expr (de_call c_need_range_ok (hr.mono (by decide)) rfl c_need_range_g c_need_range_kp c_need_range_b .nil (fun _ => .nil) tk (da_cons de_str (da_cons (dv 7) (da_cons de_int (da_cons (dv 3) da_nil))))))
    (dss_one (ds_expr (de_bm PySem.F.plainAttrs_list PySem.F.slot_list_append PySem.F.type_list_append mt_append md_append (dv 4) (da_cons (de_tup (da_cons (dv 5) (da_cons (dv 6) (da_cons (dv 7) da_nil)))) da_nil))))))))) ?_
  exact dss_one (ds_ret (de_frz (dv 4)))

theorem ok_checked_arrows {P : Program} {w : World} {K : PySem.W.Frag} {mg : Str → Option Value} {base : Heap} (T : Txt K mg) (TB : TabBs K mg base) (c_need_kind : Good P w K mg base 3 (some "need_kind") (ga K "need_kind") ["name", "kind_rows"] (sp_need_kind K)) (c_need_range : Good P w K mg base 3 (some "need_range") (ga K "need_range") ["what", "value", "least", "most"] (sp_need_range K)) : Good P w K mg base 4 (some "checked_arrows") (ga K "checked_arrows") ["arrows", "kind_rows"] (sp_checked_arrows K) := by
  obtain ⟨_, c_need_kind_ok, c_need_kind_b, c_need_kind_kp⟩ := c_need_kind.ex
  have c_need_kind_g := c_need_kind.gl
  obtain ⟨_, c_need_range_ok, c_need_range_b, c_need_range_kp⟩ := c_need_range.ex
  have c_need_range_g := c_need_range.gl
  obtain ⟨_, x_RepeatedArrow_ok, x_RepeatedArrow_b⟩ := okx_RepeatedArrow (P := P) (w := w) (base := base) T
  obtain ⟨fd, F⟩ := T.d_checked_arrows
  refine ⟨⟨fd, fn_d (k := 3) F sc_checked_arrows len_checked_arrows (t_checked_arrows K) (fun cdv A outer s H E WD hr tk hp => ?_) (pure_checked_arrows T), F.bindsN fun _ _ _ _ _ _ us hl => match us, hl with | [_, _], _ => rfl, F.kp⟩, T.g_checked_arrows⟩
  refine dss_cons (ds_set (i := 2) sc_checked_arrows.nd rfl (Or.inl rfl) (de_lst true da_nil)) ?_
  refine dss_cons (ds_for hp rfl (di_seq (dv 0)) (dg_tup rfl (dgs_cons (dg_name (i := 3) sc_checked_arrows.nd rfl (Or.inl rfl)) (dgs_cons (dg_name (i := 4) sc_checked_arrows.nd rfl (Or.inl rfl)) (dgs_cons (dg_name (i := 5) sc_checked_arrows.nd rfl (Or.inl rfl)) dgs_nil)))) (dss_cons (ds_expr (de_call c_need_kind_ok (hr.mono (by decide)) rfl c_need_kind_g c_need_kind_kp c_need_kind_b .nil (fun _ => .nil) tk (da_cons (dv 3) (da_cons (dv 1) da_nil))))
    (dss_cons (ds_expr (de_call c_need_kind_ok (hr.mono (by decide)) rfl c_need_kind_g c_need_kind_kp c_need_kind_b .nil (fun _ => .nil) tk (da_cons (dv 4) (da_cons (dv 1) da_nil))))
    (dss_cons (ds_expr (de_call c_need_range_ok (hr.mono (by decide)) rfl c_need_range_g c_need_range_kp c_need_range_b .nil (fun _ => .nil) tk (da_cons de_str (da_cons (dv 5) (da_cons de_int (da_cons (de_globI rfl T.k_MOST_GAP) da_nil))))))
    (dss_cons (ds_if (dt_cmp (op_inD hr.units) (od_inD false) (de_tup (da_cons (dv 3) (da_cons (dv 4) da_nil))) (de_lcM false (own := [("row", 6)]) (c := .one 6) (te := dTup (daCons (dOp dIx (dVar 6) (dC (.int 0))) (daCons (dOp dIx (dVar 6) (dC (.int 1))) daNil))) (tt := dYes) rfl sc_checked_arrows.nd (by simp [CT.in]) (dv 2) (blkOk_by (own := [("row", 6)]) (N := nm_checked_arrows) (sc := defScope s_checked_arrows) (by decide +kernel)) (fun _ _ _ _ _ => pg_ct1 (i := 6) sc_checked_arrows.nd rfl (Or.inl rfl)) (fun _ _ _ _ _ => dts_nil) (fun _ _ _ _ _ => de_tup (da_cons (de_ix (dv 6) de_int) (da_cons (de_ix (dv 6) de_int) da_nil)))) (by rfl)) (dss_one (ds_raise T.ox_RepeatedArrow T.oxi_RepeatedArrow T.oxf_RepeatedArrow x_RepeatedArrow_ok (hr.mono (by decide)) x_RepeatedArrow_b rfl T.g_RepeatedArrow (by decide) rfl tk (da_cons (dv 3) (da_cons (dv 4) da_nil)))) dss_nil)
    (dss_one (ds_expr (de_bm PySem.F.plainAttrs_list PySem.F.slot_list_append PySem.F.type_list_append mt_append md_append (dv 2) (da_cons (de_tup (da_cons (dv 3) (da_cons (dv 4) (da_cons (dv 5) da_nil)))) da_nil))))))))) ?_
  exact dss_one (ds_ret (de_frz (dv 2)))

theorem ok_Task_init {P : Program} {w : World} {K : PySem.W.Frag} {mg : Str → Option Value} {base : Heap} (T : Txt K mg) (TB : TabBs K mg base) (c_need_name : Good P w K mg base 3 (some "need_name") (ga K "need_name") ["text"] (sp_need_name K)) (c_checked_kinds : Good P w K mg base 4 (some "checked_kinds") (ga K "checked_kinds") ["kinds", "branching"] (sp_checked_kinds K)) (c_checked_arrows : Good P w K mg base 4 (some "checked_arrows") (ga K "checked_arrows") ["arrows", "kind_rows"] (sp_checked_arrows K)) : GoodD P w K mg base 5 none (ma K (ga K "Task") "__init__") ["self", "name", "kinds", "arrows"] (sp_Task_init K) [.tup []] := by
  obtain ⟨_, c_need_name_ok, c_need_name_b, c_need_name_kp⟩ := c_need_name.ex
  have c_need_name_g := c_need_name.gl
  obtain ⟨_, c_checked_kinds_ok, c_checked_kinds_b, c_checked_kinds_kp⟩ := c_checked_kinds.ex
  have c_checked_kinds_g := c_checked_kinds.gl
  obtain ⟨_, c_checked_arrows_ok, c_checked_arrows_b, c_checked_arrows_kp⟩ := c_checked_arrows.ex
  have c_checked_arrows_g := c_checked_arrows.gl
  obtain ⟨_, x_WrongCount_ok, x_WrongCount_b⟩ := okx_WrongCount (P := P) (w := w) (base := base) T
  obtain ⟨fd, F⟩ := T.d_Task_init
  obtain ⟨dV, hdV, hbV⟩ := FunD.binds1 (ps := ["self", "name", "kinds", "arrows"]) F 3 0 (by simp) rfl (fun T kV doc pm an cdv ct us its h1 h2 => match us, its, h1, h2 with | [_, _, _], [_], _, _ => ⟨_, rfl, rfl⟩)
  obtain ⟨dW, hdW, hbW⟩ := FunD.binds1 (ps := ["self", "name", "kinds", "arrows"]) F 4 1 (by simp) rfl (fun T kV doc pm an cdv ct us its h1 h2 => match us, its, h1, h2 with | [_, _, _, _], [_], _, _ => ⟨_, rfl, rfl⟩)
  cases hdW
  refine ⟨⟨fd, fn_d (k := 4) F sc_Task_init len_Task_init (t_Task_init K) (fun cdv A outer s H E WD hr tk hp => ?_) (pure_Task_init T), F.kp, hbW, dV, _, hdV, hbV, fun G => tup0_of T.t0_Task_init G⟩, trivial⟩
  refine dss_cons (ds_expr (de_call c_need_name_ok (hr.mono (by decide)) rfl c_need_name_g c_need_name_kp c_need_name_b .nil (fun _ => .nil) tk (da_cons (dv 1) da_nil))) ?_
  refine dss_cons (ds_if (dt_not (dt_chain op_le od_cmpI op_le od_cmpI de_int (de_callB call_len cd_len rfl T.b_len (by decide +kernel) (da_cons (dv 2) da_nil)) (de_globI rfl T.k_MOST_KINDS))) (dss_one (ds_raise T.ox_WrongCount T.oxi_WrongCount T.oxf_WrongCount x_WrongCount_ok (hr.mono (by decide)) x_WrongCount_b rfl T.g_WrongCount (by decide) rfl tk (da_cons de_str (da_cons (de_callB call_len cd_len rfl T.b_len (by decide +kernel) (da_cons (dv 2) da_nil)) da_nil)))) dss_nil) ?_
  refine dss_cons (ds_if (dt_cmp op_gt od_cmpI (de_callB call_len cd_len rfl T.b_len (by decide +kernel) (da_cons (dv 3) da_nil)) (de_globI rfl T.k_MOST_ARROWS) (nomark _)) (dss_one (ds_raise T.ox_WrongCount T.oxi_WrongCount T.oxf_WrongCount x_WrongCount_ok (hr.mono (by decide)) x_WrongCount_b rfl T.g_WrongCount (by decide) rfl tk (da_cons de_str (da_cons (de_callB call_len cd_len rfl T.b_len (by decide +kernel) (da_cons (dv 3) da_nil)) da_nil)))) dss_nil) ?_
  refine dss_cons (ds_fld (dv 0) (dv 1)) ?_
  refine dss_cons (ds_fld (dv 0) (de_call c_checked_kinds_ok (hr.mono (by decide)) rfl c_checked_kinds_g c_checked_kinds_kp c_checked_kinds_b .nil (fun _ => .nil) tk (da_cons (dv 2) (da_cons (de_cmp op_gt od_cmpI (de_callB call_len cd_len rfl T.b_len (by decide +kernel) (da_cons (dv 3) da_nil)) de_int (nomark _)) da_nil)))) ?_
  exact dss_one (ds_fld (dv 0) (de_call c_checked_arrows_ok (hr.mono (by decide)) rfl c_checked_arrows_g c_checked_arrows_kp c_checked_arrows_b .nil (fun _ => .nil) tk (da_cons (dv 3) (da_cons (de_fld (dv 0)) da_nil))))

theorem ok_Task_kinds {P : Program} {w : World} {K : PySem.W.Frag} {mg : Str → Option Value} {base : Heap} (T : Txt K mg) (TB : TabBs K mg base)  : Good P w K mg base 1 none (wad K "property" "Task" "kinds") ["self"] (sp_Task_kinds K) := by
  obtain ⟨fd, F⟩ := T.d_Task_kinds
  refine ⟨⟨fd, fn_d (k := 0) F sc_Task_kinds len_Task_kinds (t_Task_kinds K) (fun cdv A outer s H E WD hr tk hp => ?_) (pure_Task_kinds T), F.bindsN fun _ _ _ _ _ _ us hl => match us, hl with | [_], _ => rfl, F.kp⟩, trivial⟩
  exact dss_one (ds_ret (de_callTy call_list_of (cd_list false) rfl T.b_list (by decide +kernel) (da_cons (de_fld (dv 0)) da_nil)))

theorem ok_Task_arrows {P : Program} {w : World} {K : PySem.W.Frag} {mg : Str → Option Value} {base : Heap} (T : Txt K mg) (TB : TabBs K mg base)  : Good P w K mg base 1 none (wad K "property" "Task" "arrows") ["self"] (sp_Task_arrows K) := by
  obtain ⟨fd, F⟩ := T.d_Task_arrows
  refine ⟨⟨fd, fn_d (k := 0) F sc_Task_arrows len_Task_arrows (t_Task_arrows K) (fun cdv A outer s H E WD hr tk hp => ?_) (pure_Task_arrows T), F.bindsN fun _ _ _ _ _ _ us hl => match us, hl with | [_], _ => rfl, F.kp⟩, trivial⟩
  exact dss_one (ds_ret (de_callTy call_list_of (cd_list false) rfl T.b_list (by decide +kernel) (da_cons (de_fld (dv 0)) da_nil)))

theorem ok_number_of {P : Program} {w : World} {K : PySem.W.Frag} {mg : Str → Option Value} {base : Heap} (T : Txt K mg) (TB : TabBs K mg base)  : Good P w K mg base 1 (some "number_of") (ga K "number_of") ["word"] (sp_number_of K) := by
  obtain ⟨fd, F⟩ := T.d_number_of
  refine ⟨⟨fd, fn_d (k := 0) F sc_number_of len_number_of (t_number_of K) (fun cdv A outer s H E WD hr tk hp => ?_) (pure_number_of T), F.bindsN fun _ _ _ _ _ _ us hl => match us, hl with | [_], _ => rfl, F.kp⟩, T.g_number_of⟩
  refine dss_cons (ds_if (dt_w (dw_or (dt_not (dt_chain op_le od_cmpI op_le od_cmpI de_int (de_callB call_len cd_len rfl T.b_len (by decide +kernel) (da_cons (dv 0) da_nil)) (de_globI rfl T.k_LONGEST_NUMBER))) (dw_or1 (dt_not (dt_tru (de_callB (cr_all rfl) cd_all rfl T.b_all (by decide +kernel) (da_cons (de_lc false (own := [("sign", 1)]) (c := .one 1) (te := dOp (dIn false) (dVar 1) (dC (.str "0123456789"))) (tt := dYes) rfl sc_number_of.nd (by simp [CT.in]) (di_str (dv 0)) (blkOk_by (own := [("sign", 1)]) (N := nm_number_of) (sc := defScope s_number_of) (by decide +kernel)) (fun _ _ _ _ _ => pg_ct1 (i := 1) sc_number_of.nd rfl (Or.inl rfl)) (fun _ _ _ _ _ => dts_nil) (fun _ _ _ _ _ => de_cmp op_inA od_in (dv 1) (de_globS rfl T.k_DIGITS) (by rfl))) da_nil))))))) (dss_one (ds_ret de_non)) dss_nil) ?_
  refine dss_cons (ds_if (dt_w (dw_and (dt_cmp (op_eqA hr.units) od_eq (de_ix (dv 0) de_int) de_str (nomark _)) (dw_and1 (dt_cmp (op_neA hr.units) od_ne (dv 0) de_str (nomark _))))) (dss_one (ds_ret de_non)) dss_nil) ?_
  exact dss_one (ds_ret (de_callTy call_int_str cd_intS rfl T.b_int (by decide +kernel) (da_cons (dv 0) da_nil)))

theorem ok_kind_parts {P : Program} {w : World} {K : PySem.W.Frag} {mg : Str → Option Value} {base : Heap} (T : Txt K mg) (TB : TabBs K mg base) (c_number_of : Good P w K mg base 1 (some "number_of") (ga K "number_of") ["word"] (sp_number_of K)) : Good P w K mg base 2 (some "kind_parts") (ga K "kind_parts") ["name", "cost", "deadline"] (sp_kind_parts K) := by
  obtain ⟨_, c_number_of_ok, c_number_of_b, c_number_of_kp⟩ := c_number_of.ex
  have c_number_of_g := c_number_of.gl
  obtain ⟨fd, F⟩ := T.d_kind_parts
  refine ⟨⟨fd, fn_d (k := 1) F sc_kind_parts len_kind_parts (t_kind_parts K) (fun cdv A outer s H E WD hr tk hp => ?_) (pure_kind_parts T), F.bindsN fun _ _ _ _ _ _ us hl => match us, hl with | [_, _, _], _ => rfl, F.kp⟩, T.g_kind_parts⟩
  refine dss_cons (ds_set (i := 3) sc_kind_parts.nd rfl (Or.inl rfl) (de_lst false (da_cons (de_call c_number_of_ok (hr.mono (by decide)) rfl c_number_of_g c_number_of_kp c_number_of_b .nil (fun _ => .nil) tk (da_cons (dv 1) da_nil)) (da_cons (de_call c_number_of_ok (hr.mono (by decide)) rfl c_number_of_g c_number_of_kp c_number_of_b .nil (fun _ => .nil) tk (da_cons (dv 2) da_nil)) da_nil)))) ?_
  refine dss_cons (ds_if (dt_cmp op_inA od_in de_non (dv 3) (by rfl)) (dss_one (ds_ret de_non)) dss_nil) ?_
  exact dss_one (ds_ret (de_tup (da_cons de_str (da_cons (dv 0) (da_cons (de_ix (dv 3) de_int) (da_cons (de_ix (dv 3) de_int) da_nil))))))

theorem ok_arrow_parts {P : Program} {w : World} {K : PySem.W.Frag} {mg : Str → Option Value} {base : Heap} (T : Txt K mg) (TB : TabBs K mg base) (c_number_of : Good P w K mg base 1 (some "number_of") (ga K "number_of") ["word"] (sp_number_of K)) : Good P w K mg base 2 (some "arrow_parts") (ga K "arrow_parts") ["first", "second", "gap"] (sp_arrow_parts K) := by
  obtain ⟨_, c_number_of_ok, c_number_of_b, c_number_of_kp⟩ := c_number_of.ex
  have c_number_of_g := c_number_of.gl
  obtain ⟨fd, F⟩ := T.d_arrow_parts
  refine ⟨⟨fd, fn_d (k := 1) F sc_arrow_parts len_arrow_parts (t_arrow_parts K) (fun cdv A outer s H E WD hr tk hp => ?_) (pure_arrow_parts T), F.bindsN fun _ _ _ _ _ _ us hl => match us, hl with | [_, _, _], _ => rfl, F.kp⟩, T.g_arrow_parts⟩
  refine dss_cons (ds_set (i := 3) sc_arrow_parts.nd rfl (Or.inl rfl) (de_call c_number_of_ok (hr.mono (by decide)) rfl c_number_of_g c_number_of_kp c_number_of_b .nil (fun _ => .nil) tk (da_cons (dv 2) da_nil))) ?_
  refine dss_cons (ds_if (dt_cmp op_isN od_isN (dv 3) de_non (nomark _)) (dss_one (ds_ret de_non)) dss_nil) ?_
  exact dss_one (ds_ret (de_tup (da_cons de_str (da_cons (dv 0) (da_cons (dv 1) (da_cons (dv 3) da_nil))))))

theorem ok_line_parts {P : Program} {w : World} {K : PySem.W.Frag} {mg : Str → Option Value} {base : Heap} (T : Txt K mg) (TB : TabBs K mg base) (c_arrow_parts : Good P w K mg base 2 (some "arrow_parts") (ga K "arrow_parts") ["first", "second", "gap"] (sp_arrow_parts K)) (c_kind_parts : Good P w K mg base 2 (some "kind_parts") (ga K "kind_parts") ["name", "cost", "deadline"] (sp_kind_parts K)) : Good P w K mg base 3 (some "line_parts") (ga K "line_parts") ["line"] (sp_line_parts K) := by
  obtain ⟨_, c_arrow_parts_ok, c_arrow_parts_b, c_arrow_parts_kp⟩ := c_arrow_parts.ex
  have c_arrow_parts_g := c_arrow_parts.gl
  obtain ⟨_, c_kind_parts_ok, c_kind_parts_b, c_kind_parts_kp⟩ := c_kind_parts.ex
  have c_kind_parts_g := c_kind_parts.gl
  obtain ⟨fd, F⟩ := T.d_line_parts
  refine ⟨⟨fd, fn_d (k := 2) F sc_line_parts len_line_parts (t_line_parts K) (fun cdv A outer s H E WD hr tk hp => ?_) (pure_line_parts T), F.bindsN fun _ _ _ _ _ _ us hl => match us, hl with | [_], _ => rfl, F.kp⟩, T.g_line_parts⟩
  refine dss_cons (ds_set (i := 1) sc_line_parts.nd rfl (Or.inl rfl) (de_bm PySem.F.plainAttrs_str PySem.F.slot_str_split PySem.F.type_str_split mt_split (md_split false) (dv 0) (da_cons de_str da_nil))) ?_
  refine dss_cons (ds_if (dt_cmp op_inA od_in de_str (dv 1) (by rfl)) (dss_one (ds_ret de_non)) dss_nil) ?_
  exact dss_one (ds_match rfl sc_line_parts.nd (dv 1) (DMs.cons (.cons (i := 2) rfl (Or.inl rfl) (by first | exact .inl rfl | exact .inr rfl) .nil) (dss_one (ds_ret (de_tup (da_cons de_str (da_cons (dv 2) da_nil))))) (DMs.cons (.cons (i := 2) rfl (Or.inl rfl) (by first | exact .inl rfl | exact .inr rfl) (.cons (i := 3) rfl (Or.inl rfl) (by first | exact .inl rfl | exact .inr rfl) (.cons (i := 4) rfl (Or.inl rfl) (by first | exact .inl rfl | exact .inr rfl) .nil))) (dss_one (ds_ret (de_call c_kind_parts_ok (hr.mono (by decide)) rfl c_kind_parts_g c_kind_parts_kp c_kind_parts_b .nil (fun _ => .nil) tk (da_cons (dv 2) (da_cons (dv 3) (da_cons (dv 4) da_nil)))))) (DMs.cons (.cons (i := 5) rfl (Or.inl rfl) (by first | exact .inl rfl | exact .inr rfl) (.cons (i := 6) rfl (Or.inl rfl) (by first | exact .inl rfl | exact .inr rfl) (.cons (i := 7) rfl (Or.inl rfl) (by first | exact .inl rfl | exact .inr rfl) .nil))) (dss_one (ds_ret (de_call c_arrow_parts_ok (hr.mono (by decide)) rfl c_arrow_parts_g c_arrow_parts_kp c_arrow_parts_b .nil (fun _ => .nil) tk (da_cons (dv 5) (da_cons (dv 6) (da_cons (dv 7) da_nil)))))) (DMs.last (dss_one (ds_ret de_non)))))))

theorem ok_read_lines {P : Program} {w : World} {K : PySem.W.Frag} {mg : Str → Option Value} {base : Heap} (T : Txt K mg) (TB : TabBs K mg base) (c_line_parts : Good P w K mg base 3 (some "line_parts") (ga K "line_parts") ["line"] (sp_line_parts K)) : Good P w K mg base 4 (some "read_lines") (ga K "read_lines") ["text"] (sp_read_lines K) := by
  obtain ⟨_, c_line_parts_ok, c_line_parts_b, c_line_parts_kp⟩ := c_line_parts.ex
  have c_line_parts_g := c_line_parts.gl
  obtain ⟨_, x_BadLine_ok, x_BadLine_b⟩ := okx_BadLine (P := P) (w := w) (base := base) T
  obtain ⟨fd, F⟩ := T.d_read_lines
  refine ⟨⟨fd, fn_d (k := 3) F sc_read_lines len_read_lines (t_read_lines K) (fun cdv A outer s H E WD hr tk hp => ?_) (pure_read_lines T), F.bindsN fun _ _ _ _ _ _ us hl => match us, hl with | [_], _ => rfl, F.kp⟩, T.g_read_lines⟩
  refine dss_cons (ds_set (i := 1) sc_read_lines.nd rfl (Or.inl rfl) (de_bm PySem.F.plainAttrs_str PySem.F.slot_str_split PySem.F.type_str_split mt_split (md_split false) (dv 0) (da_cons de_str da_nil))) ?_
  refine dss_cons (ds_set (i := 2) sc_read_lines.nd rfl (Or.inl rfl) (de_lst true da_nil)) ?_
  refine dss_cons (ds_for hp rfl (di_range1 rfl T.b_range (da_cons (de_sub (de_callB call_len cd_len rfl T.b_len (by decide +kernel) (da_cons (dv 1) da_nil)) de_int) da_nil)) (dg_name (i := 3) sc_read_lines.nd rfl (Or.inl rfl)) (dss_cons (ds_set (i := 4) sc_read_lines.nd rfl (Or.inl rfl) (de_call c_line_parts_ok (hr.mono (by decide)) rfl c_line_parts_g c_line_parts_kp c_line_parts_b .nil (fun _ => .nil) tk (da_cons (de_ix (dv 1) (dv 3)) da_nil)))
    (dss_cons (ds_if (dt_w (dw_or (dt_cmp op_isN od_isN (dv 4) de_non (nomark _)) (dw_or1 (dt_w (dw_and (dt_cmp (op_neA hr.units) od_ne (de_ix (dv 4) de_int) de_str (nomark _)) (dw_and1 (dt_cmp (op_eqZ hr.units) od_eqZ (dv 2) (de_lst false da_nil) (nomark _)))))))) (dss_one (ds_raise T.ox_BadLine T.oxi_BadLine T.oxf_BadLine x_BadLine_ok (hr.mono (by decide)) x_BadLine_b rfl T.g_BadLine (by decide) rfl tk (da_cons (de_add false (dv 3) de_int) da_nil))) dss_nil)
    (dss_one (ds_expr (de_bm PySem.F.plainAttrs_list PySem.F.slot_list_append PySem.F.type_list_append mt_append md_append (dv 2) (da_cons (dv 4) da_nil))))))) ?_
  refine dss_frz 2 ?_
  refine dss_cons (ds_if (dt_cmp (op_neA hr.units) od_ne (de_ix (dv 1) (de_neg de_int)) de_str (nomark _)) (dss_one (ds_raise T.ox_BadLine T.oxi_BadLine T.oxf_BadLine x_BadLine_ok (hr.mono (by decide)) x_BadLine_b rfl T.g_BadLine (by decide) rfl tk (da_cons (de_callB call_len cd_len rfl T.b_len (by decide +kernel) (da_cons (dv 1) da_nil)) da_nil))) dss_nil) ?_
  exact dss_one (ds_ret (de_wk (dv 2)))

theorem ok_read_tasks {P : Program} {w : World} {K : PySem.W.Frag} {mg : Str → Option Value} {base : Heap} (T : Txt K mg) (TB : TabBs K mg base) (c_read_lines : Good P w K mg base 4 (some "read_lines") (ga K "read_lines") ["text"] (sp_read_lines K)) (c_Task_init : GoodD P w K mg base 5 none (ma K (ga K "Task") "__init__") ["self", "name", "kinds", "arrows"] (sp_Task_init K) [.tup []]) : Good P w K mg base 7 (some "read_tasks") (ga K "read_tasks") ["text"] (sp_read_tasks K) := by
  obtain ⟨_, c_read_lines_ok, c_read_lines_b, c_read_lines_kp⟩ := c_read_lines.ex
  have c_read_lines_g := c_read_lines.gl
  obtain ⟨_, c_Task_init_ok, c_Task_init_kp, c_Task_init_b, _, _, c_Task_init_dv, c_Task_init_db, c_Task_init_dd⟩ := c_Task_init.ex
  have c_Task_init_g := c_Task_init.gl
  obtain ⟨fd, F⟩ := T.d_read_tasks
  refine ⟨⟨fd, fn_d (k := 6) F sc_read_tasks len_read_tasks (t_read_tasks K) (fun cdv A outer s H E WD hr tk hp => ?_) (pure_read_tasks T), F.bindsN fun _ _ _ _ _ _ us hl => match us, hl with | [_], _ => rfl, F.kp⟩, T.g_read_tasks⟩
  refine dss_cons (ds_set (i := 1) sc_read_tasks.nd rfl (Or.inl rfl) (de_lst true da_nil)) ?_
  refine dss_cons (ds_for hp rfl (di_list (de_call c_read_lines_ok (hr.mono (by decide)) rfl c_read_lines_g c_read_lines_kp c_read_lines_b .nil (fun _ => .nil) tk (da_cons (dv 0) da_nil))) (dg_name (i := 2) sc_read_tasks.nd rfl (Or.inl rfl)) (dss_one (ds_if (dt_cmp (op_eqA hr.units) od_eq (de_ix (dv 2) de_int) de_str (nomark _)) (dss_one (ds_expr (de_bm PySem.F.plainAttrs_list PySem.F.slot_list_append PySem.F.type_list_append mt_append md_append (dv 1) (da_cons (de_tup (da_cons (de_ix (dv 2) de_int) (da_cons (de_lst true da_nil) (da_cons (de_lst true da_nil) da_nil)))) da_nil)))) (dss_one (ds_if (dt_cmp (op_eqA hr.units) od_eq (de_ix (dv 2) de_int) de_str (nomark _)) (dss_one (ds_expr (de_bm PySem.F.plainAttrs_list PySem.F.slot_list_append PySem.F.type_list_append mt_append md_append (de_ix (de_ix (dv 1) (de_neg de_int)) de_int) (da_cons (de_tup (da_cons (de_ix (dv 2) de_int) (da_cons (de_ix (dv 2) de_int) (da_cons (de_ix (dv 2) de_int) da_nil)))) da_nil)))) (dss_one (ds_expr (de_bm PySem.F.plainAttrs_list PySem.F.slot_list_append PySem.F.type_list_append mt_append md_append (de_ix (de_ix (dv 1) (de_neg de_int)) de_int) (da_cons (de_tup (da_cons (de_ix (dv 2) de_int) (da_cons (de_ix (dv 2) de_int) (da_cons (de_ix (dv 2) de_int) da_nil)))) da_nil))))))))) ?_
  refine dss_frz 1 ?_
  refine dss_frzG 1 ?_
  exact dss_one (ds_ret (de_wk (de_lcX false (own := [("name", 3), ("kinds", 4), ("arrows", 5)]) (c := .tup [3, 4, 5]) (te := fun rX => dMake (ga K "Task") (sp_Task_init K) (DWX.blk WD rX) [] (daCons (dVar 3) (daCons (dVar 4) (daCons (dVar 5) daNil)))) (tt := fun rX => dYes) rfl rfl tk rfl sc_read_tasks.nd (by simp [CT.in]) (di_list (dv 1)) (blkOk_by (own := [("name", 3), ("kinds", 4), ("arrows", 5)]) (N := nm_read_tasks) (sc := defScope s_read_tasks) (by decide +kernel)) (fun _ _ _ _ _ _ _ tkb => pg_ctT rfl (js := [3, 4, 5]) (pgs_cons (pg_name (i := 3) sc_read_tasks.nd rfl (Or.inl rfl)) (pgs_cons (pg_name (i := 4) sc_read_tasks.nd rfl (Or.inl rfl)) (pgs_cons (pg_name (i := 5) sc_read_tasks.nd rfl (Or.inl rfl)) (pgs_nil))))) (fun _ rX _ _ _ _ _ _ tkb => dts_nil) (fun _ rX _ _ _ _ _ _ tkb => de_make T.mk_Task c_Task_init_ok (hr.mono (by decide)) rfl T.g_Task c_Task_init_b .nil (fun _ => .nil) tkb (none_of none_Task_init) (da_cons (dv 3) (da_cons (dv 4) (da_cons (dv 5) da_nil)))))))

theorem ok_law_pool {P : Program} {w : World} {K : PySem.W.Frag} {mg : Str → Option Value} {base : Heap} (T : Txt K mg) (TB : TabBs K mg base)  : Good P w K mg base 1 (some "_law_pool") (ga K "_law_pool") ["_law_script"] (sp_law_pool K) := by
  obtain ⟨fd, F⟩ := T.d_law_pool
  refine ⟨⟨fd, fn_d (k := 0) F sc_law_pool len_law_pool (t_law_pool K) (fun cdv A outer s H E WD hr tk hp => ?_) (pure_law_pool T), F.bindsN fun _ _ _ _ _ _ us hl => match us, hl with | [_], _ => rfl, F.kp⟩, T.g_law_pool⟩
  refine dss_cons (ds_set (i := 1) sc_law_pool.nd rfl (Or.inl rfl) de_int) ?_
  refine dss_cons (ds_for hp rfl (di_list (dv 0)) (dg_name (i := 2) sc_law_pool.nd rfl (Or.inl rfl)) (dss_one (ds_set (i := 1) sc_law_pool.nd rfl (Or.inl rfl) (de_mod (de_callTy call_int1 cd_int1 rfl T.b_int (by decide +kernel) (da_cons (de_add false (de_mul false (dv 1) de_int) (dv 2)) da_nil)) de_int)))) ?_
  exact dss_one (ds_ret (de_lst true (da_cons (de_lc true (own := [("_law_cell", 2)]) (c := .one 2) (te := dVar 2) (tt := dTest (dOp dGe (dVar 2) (dOp dPow (dC (.int 10)) (dC (.int 18))))) rfl sc_law_pool.nd (by simp [CT.in]) (di_list (dv 0)) (blkOk_by (own := [("_law_cell", 2)]) (N := nm_law_pool) (sc := defScope s_law_pool) (by decide +kernel)) (fun _ _ _ _ _ => pg_ct1 (i := 2) sc_law_pool.nd rfl (Or.inl rfl)) (fun _ _ _ _ _ => dts_one (dt_cmp op_ge od_cmpI (dv 2) (de_pow de_int de_int) (nomark _))) (fun _ _ _ _ _ => dv 2)) (da_cons (dv 1) (da_cons de_int da_nil)))))

theorem ok_law_draw {P : Program} {w : World} {K : PySem.W.Frag} {mg : Str → Option Value} {base : Heap} (T : Txt K mg) (TB : TabBs K mg base)  : Good P w K mg base 1 (some "_law_draw") (ga K "_law_draw") ["_law_pool_here", "_law_limit"] (sp_law_draw K) := by
  obtain ⟨fd, F⟩ := T.d_law_draw
  refine ⟨⟨fd, fn_d (k := 0) F sc_law_draw len_law_draw (t_law_draw K) (fun cdv A outer s H E WD hr tk hp => ?_) (pure_law_draw T), F.bindsN fun _ _ _ _ _ _ us hl => match us, hl with | [_, _], _ => rfl, F.kp⟩, T.g_law_draw⟩
  refine dss_cons (ds_set (i := 2) sc_law_draw.nd rfl (Or.inl rfl) (de_ix (dv 0) de_int)) ?_
  refine dss_cons (ds_if (dt_cmp (op_neA hr.units) od_ne (dv 2) (de_lst false da_nil) (nomark _)) (dss_cons (ds_set (i := 3) sc_law_draw.nd rfl (Or.inl rfl) (de_mod (de_callTy call_int1 cd_int1 rfl T.b_int (by decide +kernel) (da_cons (de_ix (dv 2) de_int) da_nil)) (dv 1)))
    (dss_cons (ds_asg (de_div (de_ix (dv 2) de_int) (dv 1)) (dg_sub (dv 2) de_int))
    (dss_cons (ds_if (dt_cmp (op_eqA hr.units) od_eq (de_ix (dv 2) de_int) de_int (nomark _)) (dss_one (ds_expr (de_bm PySem.F.plainAttrs_list PySem.F.slot_list_pop PySem.F.type_list_pop mt_popAt md_popAt (dv 2) (da_cons de_int da_nil)))) dss_nil)
    (dss_one (ds_ret (dv 3)))))) dss_nil) ?_
  refine dss_cons (ds_asg (de_add false (de_ix (dv 0) de_int) de_int) (dg_sub (dv 0) de_int)) ?_
  refine dss_cons (ds_set (i := 4) sc_law_draw.nd rfl (Or.inl rfl) (de_mod (de_pow (de_callTy call_int1 cd_int1 rfl T.b_int (by decide +kernel) (da_cons (de_add false (de_ix (dv 0) de_int) (de_mul false de_int (de_ix (dv 0) de_int))) da_nil)) de_int) de_int)) ?_
  refine dss_cons (ds_set (i := 5) sc_law_draw.nd rfl (Or.inl rfl) (de_mod (de_callTy call_int1 cd_int1 rfl T.b_int (by decide +kernel) (da_cons (de_add false (de_mul false (dv 4) de_int) (de_ix (dv 0) de_int)) da_nil)) de_int)) ?_
  exact dss_one (ds_ret (de_mod (de_div (de_callTy call_int1 cd_int1 rfl T.b_int (by decide +kernel) (da_cons (dv 5) da_nil)) de_int) (dv 1)))

theorem ok_law_name {P : Program} {w : World} {K : PySem.W.Frag} {mg : Str → Option Value} {base : Heap} (T : Txt K mg) (TB : TabBs K mg base) (c_law_draw : Good P w K mg base 1 (some "_law_draw") (ga K "_law_draw") ["_law_pool_here", "_law_limit"] (sp_law_draw K)) : Good P w K mg base 2 (some "_law_name") (ga K "_law_name") ["_law_pool_here"] (sp_law_name K) := by
  obtain ⟨_, c_law_draw_ok, c_law_draw_b, c_law_draw_kp⟩ := c_law_draw.ex
  have c_law_draw_g := c_law_draw.gl
  obtain ⟨fd, F⟩ := T.d_law_name
  refine ⟨⟨fd, fn_d (k := 1) F sc_law_name len_law_name (t_law_name K) (fun cdv A outer s H E WD hr tk hp => ?_) (pure_law_name T), F.bindsN fun _ _ _ _ _ _ us hl => match us, hl with | [_], _ => rfl, F.kp⟩, T.g_law_name⟩
  refine dss_cons (ds_set (i := 1) sc_law_name.nd rfl (Or.inr rfl) de_str) ?_
  refine dss_cons (ds_set (i := 2) sc_law_name.nd rfl (Or.inl rfl) (de_call c_law_draw_ok (hr.mono (by decide)) rfl c_law_draw_g c_law_draw_kp c_law_draw_b .nil (fun _ => .nil) tk (da_cons (dv 0) (da_cons de_int da_nil)))) ?_
  exact dss_one (ds_ret (de_add false (de_ix (dv 1) (de_call c_law_draw_ok (hr.mono (by decide)) rfl c_law_draw_g c_law_draw_kp c_law_draw_b .nil (fun _ => .nil) tk (da_cons (dv 0) (da_cons de_int da_nil)))) (de_bm PySem.F.plainAttrs_str PySem.F.slot_str_join PySem.F.type_str_join mt_join md_join de_str (da_cons (de_lc false (own := [("_law_k", 3)]) (c := .one 3) (te := dOp dIx (dVar 1) (dCall (sp_law_draw K) WD0 [] (daCons (dVar 0) (daCons (dC (.int 37)) daNil)))) (tt := dYes) rfl sc_law_name.nd (by simp [CT.in]) (di_range1 rfl T.b_range (da_cons (dv 2) da_nil)) (blkOk_by (own := [("_law_k", 3)]) (N := nm_law_name) (sc := defScope s_law_name) (by decide +kernel)) (fun _ _ _ _ _ => pg_ct1 (i := 3) sc_law_name.nd rfl (Or.inl rfl)) (fun _ _ _ _ _ => dts_nil) (fun _ _ _ _ _ => de_ix (dv 1) (de_call c_law_draw_ok (hr.mono (by decide)) rfl c_law_draw_g c_law_draw_kp c_law_draw_b .nil (fun _ => .nil) takes0 (da_cons (dv 0) (da_cons de_int da_nil))))) da_nil))))

theorem ok_law_fresh {P : Program} {w : World} {K : PySem.W.Frag} {mg : Str → Option Value} {base : Heap} (T : Txt K mg) (TB : TabBs K mg base)  : Good P w K mg base 1 (some "_law_fresh") (ga K "_law_fresh") ["_law_word", "_law_taken"] (sp_law_fresh K) := by
  obtain ⟨fd, F⟩ := T.d_law_fresh
  refine ⟨⟨fd, fn_d (k := 0) F sc_law_fresh len_law_fresh (t_law_fresh K) (fun cdv A outer s H E WD hr tk hp => ?_) (pure_law_fresh T), F.bindsN fun _ _ _ _ _ _ us hl => match us, hl with | [_, _], _ => rfl, F.kp⟩, T.g_law_fresh⟩
  refine dss_cons (ds_if (dt_cmp op_notInA od_notIn (dv 0) (dv 1) (by rfl)) (dss_one (ds_ret (dv 0))) dss_nil) ?_
  exact dss_one (ds_ret (de_ix (de_lc false (own := [("_law_sign_here", 2)]) (c := .one 2) (te := dOp (dAdd false) (dSlice false (dVar 0) doNone (doSome (dC (.int 11)))) (dVar 2)) (tt := dTest (dOp (dIn true) (dOp (dAdd false) (dSlice false (dVar 0) doNone (doSome (dC (.int 11)))) (dVar 2)) (dVar 1))) rfl sc_law_fresh.nd (by simp [CT.in]) (di_str de_str) (blkOk_by (own := [("_law_sign_here", 2)]) (N := nm_law_fresh) (sc := defScope s_law_fresh) (by decide +kernel)) (fun _ _ _ _ _ => pg_ct1 (i := 2) sc_law_fresh.nd rfl (Or.inl rfl)) (fun _ _ _ _ _ => dts_one (dt_cmp op_notInA od_notIn (de_add false (de_slice false (dv 0) do_none (do_some de_int)) (dv 2)) (dv 1) (by rfl))) (fun _ _ _ _ _ => de_add false (de_slice false (dv 0) do_none (do_some de_int)) (dv 2))) de_int))

theorem ok_law_near {P : Program} {w : World} {K : PySem.W.Frag} {mg : Str → Option Value} {base : Heap} (T : Txt K mg) (TB : TabBs K mg base) (c_law_draw : Good P w K mg base 1 (some "_law_draw") (ga K "_law_draw") ["_law_pool_here", "_law_limit"] (sp_law_draw K)) (c_law_name : Good P w K mg base 2 (some "_law_name") (ga K "_law_name") ["_law_pool_here"] (sp_law_name K)) (c_law_fresh : Good P w K mg base 1 (some "_law_fresh") (ga K "_law_fresh") ["_law_word", "_law_taken"] (sp_law_fresh K)) : Good P w K mg base 3 (some "_law_near") (ga K "_law_near") ["_law_pool_here", "_law_taken"] (sp_law_near K) := by
  obtain ⟨_, c_law_draw_ok, c_law_draw_b, c_law_draw_kp⟩ := c_law_draw.ex
  have c_law_draw_g := c_law_draw.gl
  obtain ⟨_, c_law_name_ok, c_law_name_b, c_law_name_kp⟩ := c_law_name.ex
  have c_law_name_g := c_law_name.gl
  obtain ⟨_, c_law_fresh_ok, c_law_fresh_b, c_law_fresh_kp⟩ := c_law_fresh.ex
  have c_law_fresh_g := c_law_fresh.gl
  obtain ⟨fd, F⟩ := T.d_law_near
  refine ⟨⟨fd, fn_d (k := 2) F sc_law_near len_law_near (t_law_near K) (fun cdv A outer s H E WD hr tk hp => ?_) (pure_law_near T), F.bindsN fun _ _ _ _ _ _ us hl => match us, hl with | [_, _], _ => rfl, F.kp⟩, T.g_law_near⟩
  refine dss_cons (ds_set (i := 2) sc_law_near.nd rfl (Or.inl rfl) de_str) ?_
  refine dss_cons (ds_set (i := 3) sc_law_near.nd rfl (Or.inl rfl) (de_call c_law_draw_ok (hr.mono (by decide)) rfl c_law_draw_g c_law_draw_kp c_law_draw_b .nil (fun _ => .nil) tk (da_cons (dv 0) (da_cons de_int da_nil)))) ?_
  refine dss_cons (ds_set (i := 4) sc_law_near.nd rfl (Or.inl rfl) (de_call c_law_name_ok (hr.mono (by decide)) rfl c_law_name_g c_law_name_kp c_law_name_b .nil (fun _ => .nil) tk (da_cons (dv 0) da_nil))) ?_
  refine dss_cons (ds_set (i := 5) sc_law_near.nd rfl (Or.inl rfl) (de_add false de_int (de_call c_law_draw_ok (hr.mono (by decide)) rfl c_law_draw_g c_law_draw_kp c_law_draw_b .nil (fun _ => .nil) tk (da_cons (dv 0) (da_cons de_int da_nil))))) ?_
  refine dss_cons (ds_if (dt_w (dw_and (dt_cmp (op_neA hr.units) od_ne (dv 1) (de_lst false da_nil) (nomark _)) (dw_and1 (dt_cmp (op_eqA hr.units) od_eq (dv 3) de_int (nomark _))))) (dss_one (ds_set (i := 4) sc_law_near.nd rfl (Or.inl rfl) (de_add false (de_slice false (de_ix (dv 1) de_int) do_none (do_some de_int)) (de_ix (dv 2) (de_call c_law_draw_ok (hr.mono (by decide)) rfl c_law_draw_g c_law_draw_kp c_law_draw_b .nil (fun _ => .nil) tk (da_cons (dv 0) (da_cons de_int da_nil))))))) dss_nil) ?_
  refine dss_cons (ds_if (dt_w (dw_and (dt_cmp (op_neA hr.units) od_ne (dv 1) (de_lst false da_nil) (nomark _)) (dw_and1 (dt_cmp (op_eqA hr.units) od_eq (dv 3) de_int (nomark _))))) (dss_one (ds_set (i := 4) sc_law_near.nd rfl (Or.inl rfl) (de_slice false (de_add false (de_add false (de_slice false (de_ix (dv 1) de_int) do_none (do_some (dv 5))) (de_ix (dv 2) (de_call c_law_draw_ok (hr.mono (by decide)) rfl c_law_draw_g c_law_draw_kp c_law_draw_b .nil (fun _ => .nil) tk (da_cons (dv 0) (da_cons de_int da_nil))))) (de_slice false (de_ix (dv 1) de_int) (do_some (de_add false (dv 5) de_int)) do_none)) do_none (do_some de_int)))) dss_nil) ?_
  exact dss_one (ds_ret (de_call c_law_fresh_ok (hr.mono (by decide)) rfl c_law_fresh_g c_law_fresh_kp c_law_fresh_b .nil (fun _ => .nil) tk (da_cons (dv 4) (da_cons (dv 1) da_nil))))

theorem ok_law_number {P : Program} {w : World} {K : PySem.W.Frag} {mg : Str → Option Value} {base : Heap} (T : Txt K mg) (TB : TabBs K mg base) (c_law_draw : Good P w K mg base 1 (some "_law_draw") (ga K "_law_draw") ["_law_pool_here", "_law_limit"] (sp_law_draw K)) : Good P w K mg base 2 (some "_law_number") (ga K "_law_number") ["_law_pool_here", "_law_most"] (sp_law_number K) := by
  obtain ⟨_, c_law_draw_ok, c_law_draw_b, c_law_draw_kp⟩ := c_law_draw.ex
  have c_law_draw_g := c_law_draw.gl
  obtain ⟨fd, F⟩ := T.d_law_number
  refine ⟨⟨fd, fn_d (k := 1) F sc_law_number len_law_number (t_law_number K) (fun cdv A outer s H E WD hr tk hp => ?_) (pure_law_number T), F.bindsN fun _ _ _ _ _ _ us hl => match us, hl with | [_, _], _ => rfl, F.kp⟩, T.g_law_number⟩
  refine dss_cons (ds_set (i := 2) sc_law_number.nd rfl (Or.inl rfl) (de_call c_law_draw_ok (hr.mono (by decide)) rfl c_law_draw_g c_law_draw_kp c_law_draw_b .nil (fun _ => .nil) tk (da_cons (dv 0) (da_cons de_int da_nil)))) ?_
  refine dss_cons (ds_if (dt_cmp (op_eqA hr.units) od_eq (dv 2) de_int (nomark _)) (dss_one (ds_ret de_int)) dss_nil) ?_
  refine dss_cons (ds_if (dt_cmp (op_eqA hr.units) od_eq (dv 2) de_int (nomark _)) (dss_one (ds_ret (dv 1))) dss_nil) ?_
  exact dss_one (ds_ret (de_add false de_int (de_call c_law_draw_ok (hr.mono (by decide)) rfl c_law_draw_g c_law_draw_kp c_law_draw_b .nil (fun _ => .nil) tk (da_cons (dv 0) (da_cons (dv 1) da_nil)))))

theorem ok_law_spec {P : Program} {w : World} {K : PySem.W.Frag} {mg : Str → Option Value} {base : Heap} (T : Txt K mg) (TB : TabBs K mg base) (c_law_draw : Good P w K mg base 1 (some "_law_draw") (ga K "_law_draw") ["_law_pool_here", "_law_limit"] (sp_law_draw K)) (c_law_near : Good P w K mg base 3 (some "_law_near") (ga K "_law_near") ["_law_pool_here", "_law_taken"] (sp_law_near K)) (c_law_number : Good P w K mg base 2 (some "_law_number") (ga K "_law_number") ["_law_pool_here", "_law_most"] (sp_law_number K)) (c_law_name : Good P w K mg base 2 (some "_law_name") (ga K "_law_name") ["_law_pool_here"] (sp_law_name K)) : Good P w K mg base 4 (some "_law_spec") (ga K "_law_spec") ["_law_pool_here"] (sp_law_spec K) := by
  obtain ⟨_, c_law_draw_ok, c_law_draw_b, c_law_draw_kp⟩ := c_law_draw.ex
  have c_law_draw_g := c_law_draw.gl
  obtain ⟨_, c_law_near_ok, c_law_near_b, c_law_near_kp⟩ := c_law_near.ex
  have c_law_near_g := c_law_near.gl
  obtain ⟨_, c_law_number_ok, c_law_number_b, c_law_number_kp⟩ := c_law_number.ex
  have c_law_number_g := c_law_number.gl
  obtain ⟨_, c_law_name_ok, c_law_name_b, c_law_name_kp⟩ := c_law_name.ex
  have c_law_name_g := c_law_name.gl
  obtain ⟨fd, F⟩ := T.d_law_spec
  refine ⟨⟨fd, fn_d (k := 3) F sc_law_spec len_law_spec (t_law_spec K) (fun cdv A outer s H E WD hr tk hp => ?_) (pure_law_spec T), F.bindsN fun _ _ _ _ _ _ us hl => match us, hl with | [_], _ => rfl, F.kp⟩, T.g_law_spec⟩
  refine dss_cons (ds_set (i := 1) sc_law_spec.nd rfl (Or.inr rfl) (de_add false de_int (de_call c_law_draw_ok (hr.mono (by decide)) rfl c_law_draw_g c_law_draw_kp c_law_draw_b .nil (fun _ => .nil) tk (da_cons (dv 0) (da_cons de_int da_nil))))) ?_
  refine dss_cons (ds_set (i := 2) sc_law_spec.nd rfl (Or.inl rfl) (de_call c_law_draw_ok (hr.mono (by decide)) rfl c_law_draw_g c_law_draw_kp c_law_draw_b .nil (fun _ => .nil) tk (da_cons (dv 0) (da_cons (de_add false de_int (de_callB (call_minA rfl) cd_min rfl T.b_min (by decide +kernel) (da_cons de_int (da_cons (de_mul false (dv 1) (dv 1)) da_nil)))) da_nil)))) ?_
  refine dss_cons (ds_set (i := 3) sc_law_spec.nd rfl (Or.inl rfl) (de_ix (de_lst false (da_cons (de_lst false (da_cons de_int (da_cons de_int da_nil))) (da_cons (de_lst false (da_cons de_int (da_cons de_int da_nil))) da_nil))) (de_callTy call_int1 cd_int1 rfl T.b_int (by decide +kernel) (da_cons (de_cmp op_gt od_cmpI (dv 2) de_int (nomark _)) da_nil)))) ?_
  refine dss_cons (ds_set (i := 4) sc_law_spec.nd rfl (Or.inr rfl) (de_lst true da_nil)) ?_
  refine dss_cons (ds_set (i := 5) sc_law_spec.nd rfl (Or.inl rfl) (de_lst true da_nil)) ?_
  refine dss_cons (ds_for hp rfl (di_range1 rfl T.b_range (da_cons (dv 1) da_nil)) (dg_name (i := 6) sc_law_spec.nd rfl (Or.inl rfl)) (dss_cons (ds_set (i := 7) sc_law_spec.nd rfl (Or.inl rfl) (de_call c_law_near_ok (hr.mono (by decide)) rfl c_law_near_g c_law_near_kp c_law_near_b .nil (fun _ => .nil) tk (da_cons (dv 0) (da_cons (dv 4) da_nil))))
    (dss_cons (ds_expr (de_bm PySem.F.plainAttrs_list PySem.F.slot_list_append PySem.F.type_list_append mt_append md_append (dv 4) (da_cons (dv 7) da_nil)))
    (dss_one (ds_expr (de_bm PySem.F.plainAttrs_list PySem.F.slot_list_append PySem.F.type_list_append mt_append md_append (dv 5) (da_cons (de_tup (da_cons (dv 7) (da_cons (de_call c_law_number_ok (hr.mono (by decide)) rfl c_law_number_g c_law_number_kp c_law_number_b .nil (fun _ => .nil) tk (da_cons (dv 0) (da_cons (de_ix (dv 3) de_int) da_nil))) (da_cons (de_call c_law_number_ok (hr.mono (by decide)) rfl c_law_number_g c_law_number_kp c_law_number_b .nil (fun _ => .nil) tk (da_cons (dv 0) (da_cons (de_ix (dv 3) de_int) da_nil))) da_nil)))) da_nil))))))) ?_
  refine dss_frz 4 ?_
  refine dss_frz 5 ?_
  refine dss_cons (ds_setLc true (i := 8) (hy := rfl) (hyl := rfl) (hsw := sw_true rfl rfl rfl (by decide +kernel)) (hc := rfl) (hN := sc_law_spec.nd) (own := [("_law_k", 6)]) (c := .one 6) (te := dTup (daCons (dOp dIx (dVar 4) (dOp dDiv (dVar 6) (dVar 1))) (daCons (dOp dIx (dVar 4) (dOp dMod (dVar 6) (dVar 1))) daNil))) (tt := dYes) (by simp [CT.in]) (di_range1 rfl T.b_range (da_cons (de_mul false (dv 1) (dv 1)) da_nil)) (blkOk_by (own := [("_law_k", 6)]) (N := nm_law_spec) (sc := defScope s_law_spec) (by decide +kernel)) (fun _ _ _ _ _ => pg_ct1 (i := 6) sc_law_spec.nd rfl (Or.inl rfl)) (fun _ _ _ _ _ => dts_nil) (fun _ _ _ _ _ => de_tup (da_cons (de_ix (dv 4) (de_div (dv 6) (dv 1))) (da_cons (de_ix (dv 4) (de_mod (dv 6) (dv 1))) da_nil)))) ?_
  refine dss_cons (ds_set (i := 9) sc_law_spec.nd rfl (Or.inl rfl) (de_lst true da_nil)) ?_
  refine dss_cons (ds_for hp rfl (di_range1 rfl T.b_range (da_cons (dv 2) da_nil)) (dg_name (i := 6) sc_law_spec.nd rfl (Or.inl rfl)) (dss_cons (ds_set (i := 10) sc_law_spec.nd rfl (Or.inl rfl) (de_bm PySem.F.plainAttrs_list PySem.F.slot_list_pop PySem.F.type_list_pop mt_popAt md_popAt (dv 8) (da_cons (de_call c_law_draw_ok (hr.mono (by decide)) rfl c_law_draw_g c_law_draw_kp c_law_draw_b .nil (fun _ => .nil) tk (da_cons (dv 0) (da_cons (de_callB call_len cd_len rfl T.b_len (by decide +kernel) (da_cons (dv 8) da_nil)) da_nil))) da_nil)))
    (dss_one (ds_expr (de_bm PySem.F.plainAttrs_list PySem.F.slot_list_append PySem.F.type_list_append mt_append md_append (dv 9) (da_cons (de_tup (da_cons (de_ix (dv 10) de_int) (da_cons (de_ix (dv 10) de_int) (da_cons (de_call c_law_number_ok (hr.mono (by decide)) rfl c_law_number_g c_law_number_kp c_law_number_b .nil (fun _ => .nil) tk (da_cons (dv 0) (da_cons de_int da_nil))) da_nil)))) da_nil)))))) ?_
  refine dss_frz 9 ?_
  exact dss_one (ds_ret (de_wk (de_tup (da_cons (de_call c_law_name_ok (hr.mono (by decide)) rfl c_law_name_g c_law_name_kp c_law_name_b .nil (fun _ => .nil) tk (da_cons (dv 0) da_nil)) (da_cons (dv 5) (da_cons (dv 9) da_nil))))))

theorem ok_law_text {P : Program} {w : World} {K : PySem.W.Frag} {mg : Str → Option Value} {base : Heap} (T : Txt K mg) (TB : TabBs K mg base)  : Good P w K mg base 1 (some "_law_text") (ga K "_law_text") ["_law_specs"] (sp_law_text K) := by
  obtain ⟨fd, F⟩ := T.d_law_text
  refine ⟨⟨fd, fn_d (k := 0) F sc_law_text len_law_text (t_law_text K) (fun cdv A outer s H E WD hr tk hp => ?_) (pure_law_text T), F.bindsN fun _ _ _ _ _ _ us hl => match us, hl with | [_], _ => rfl, F.kp⟩, T.g_law_text⟩
  refine dss_cons (ds_set (i := 1) sc_law_text.nd rfl (Or.inl rfl) de_str) ?_
  refine dss_cons (ds_for hp rfl (di_list (dv 0)) (dg_name (i := 2) sc_law_text.nd rfl (Or.inl rfl)) (dss_cons (ds_set (i := 1) sc_law_text.nd rfl (Or.inl rfl) (de_add false (de_add false (de_add false (dv 1) de_str) (de_ix (dv 2) de_int)) de_str))
    (dss_cons (ds_setLc false (i := 3) (hy := rfl) (hyl := rfl) (hsw := sw_true rfl rfl rfl (by decide +kernel)) (hc := rfl) (hN := sc_law_text.nd) (own := [("_law_row", 4)]) (c := .one 4) (te := dOp (dAdd false) (dOp (dAdd false) (dOp (dAdd false) (dOp (dAdd false) (dOp (dAdd false) (dC (.str "kind ")) (dOp dIx (dVar 4) (dC (.int 0)))) (dC (.str " "))) (dCB dStrI (daCons (dOp dIx (dVar 4) (dC (.int 1))) daNil))) (dC (.str " "))) (dCB dStrI (daCons (dOp dIx (dVar 4) (dC (.int 2))) daNil))) (tt := dYes) (by simp [CT.in]) (di_list (de_ix (dv 2) de_int)) (blkOk_by (own := [("_law_row", 4)]) (N := nm_law_text) (sc := defScope s_law_text) (by decide +kernel)) (fun _ _ _ _ _ => pg_ct1 (i := 4) sc_law_text.nd rfl (Or.inl rfl)) (fun _ _ _ _ _ => dts_nil) (fun _ _ _ _ _ => de_add false (de_add false (de_add false (de_add false (de_add false de_str (de_ix (dv 4) de_int)) de_str) (de_callTy call_str_int cd_strI rfl T.b_str (by decide +kernel) (da_cons (de_ix (dv 4) de_int) da_nil))) de_str) (de_callTy call_str_int cd_strI rfl T.b_str (by decide +kernel) (da_cons (de_ix (dv 4) de_int) da_nil))))
    (dss_cons (ds_set (i := 3) sc_law_text.nd rfl (Or.inl rfl) (de_add false (dv 3) (de_lc false (own := [("_law_tie", 5)]) (c := .one 5) (te := dOp (dAdd false) (dOp (dAdd false) (dOp (dAdd false) (dOp (dAdd false) (dOp (dAdd false) (dC (.str "arrow ")) (dOp dIx (dVar 5) (dC (.int 0)))) (dC (.str " "))) (dOp dIx (dVar 5) (dC (.int 1)))) (dC (.str " "))) (dCB dStrI (daCons (dOp dIx (dVar 5) (dC (.int 2))) daNil))) (tt := dYes) rfl sc_law_text.nd (by simp [CT.in]) (di_list (de_ix (dv 2) de_int)) (blkOk_by (own := [("_law_tie", 5)]) (N := nm_law_text) (sc := defScope s_law_text) (by decide +kernel)) (fun _ _ _ _ _ => pg_ct1 (i := 5) sc_law_text.nd rfl (Or.inl rfl)) (fun _ _ _ _ _ => dts_nil) (fun _ _ _ _ _ => de_add false (de_add false (de_add false (de_add false (de_add false de_str (de_ix (dv 5) de_int)) de_str) (de_ix (dv 5) de_int)) de_str) (de_callTy call_str_int cd_strI rfl T.b_str (by decide +kernel) (da_cons (de_ix (dv 5) de_int) da_nil))))))
    (dss_one (ds_set (i := 1) sc_law_text.nd rfl (Or.inl rfl) (de_add false (dv 1) (de_bm PySem.F.plainAttrs_str PySem.F.slot_str_join PySem.F.type_str_join mt_join md_join de_str (da_cons (de_lc false (own := [("_law_row", 4)]) (c := .one 4) (te := dOp (dAdd false) (dVar 4) (dC (.str "\n"))) (tt := dYes) rfl sc_law_text.nd (by simp [CT.in]) (di_list (dv 3)) (blkOk_by (own := [("_law_row", 4)]) (N := nm_law_text) (sc := defScope s_law_text) (by decide +kernel)) (fun _ _ _ _ _ => pg_ct1 (i := 4) sc_law_text.nd rfl (Or.inl rfl)) (fun _ _ _ _ _ => dts_nil) (fun _ _ _ _ _ => de_add false (dv 4) de_str)) da_nil))))))))) ?_
  exact dss_one (ds_ret (dv 1))

theorem ok_law_sign {P : Program} {w : World} {K : PySem.W.Frag} {mg : Str → Option Value} {base : Heap} (T : Txt K mg) (TB : TabBs K mg base) (c_law_draw : Good P w K mg base 1 (some "_law_draw") (ga K "_law_draw") ["_law_pool_here", "_law_limit"] (sp_law_draw K)) : Good P w K mg base 2 (some "_law_sign") (ga K "_law_sign") ["_law_pool_here"] (sp_law_sign K) := by
  obtain ⟨_, c_law_draw_ok, c_law_draw_b, c_law_draw_kp⟩ := c_law_draw.ex
  have c_law_draw_g := c_law_draw.gl
  obtain ⟨fd, F⟩ := T.d_law_sign
  refine ⟨⟨fd, fn_d (k := 1) F sc_law_sign len_law_sign (t_law_sign K) (fun cdv A outer s H E WD hr tk hp => ?_) (pure_law_sign T), F.bindsN fun _ _ _ _ _ _ us hl => match us, hl with | [_], _ => rfl, F.kp⟩, T.g_law_sign⟩
  refine dss_cons (ds_set (i := 1) sc_law_sign.nd rfl (Or.inl rfl) de_str) ?_
  exact dss_one (ds_ret (de_ix (dv 1) (de_call c_law_draw_ok (hr.mono (by decide)) rfl c_law_draw_g c_law_draw_kp c_law_draw_b .nil (fun _ => .nil) tk (da_cons (dv 0) (da_cons (de_callB call_len cd_len rfl T.b_len (by decide +kernel) (da_cons (dv 1) da_nil)) da_nil)))))

theorem ok_law_spoil_sign {P : Program} {w : World} {K : PySem.W.Frag} {mg : Str → Option Value} {base : Heap} (T : Txt K mg) (TB : TabBs K mg base) (c_law_draw : Good P w K mg base 1 (some "_law_draw") (ga K "_law_draw") ["_law_pool_here", "_law_limit"] (sp_law_draw K)) (c_law_sign : Good P w K mg base 2 (some "_law_sign") (ga K "_law_sign") ["_law_pool_here"] (sp_law_sign K)) : Good P w K mg base 3 (some "_law_spoil_sign") (ga K "_law_spoil_sign") ["_law_pool_here", "_law_text_here"] (sp_law_spoil_sign K) := by
  obtain ⟨_, c_law_draw_ok, c_law_draw_b, c_law_draw_kp⟩ := c_law_draw.ex
  have c_law_draw_g := c_law_draw.gl
  obtain ⟨_, c_law_sign_ok, c_law_sign_b, c_law_sign_kp⟩ := c_law_sign.ex
  have c_law_sign_g := c_law_sign.gl
  obtain ⟨fd, F⟩ := T.d_law_spoil_sign
  refine ⟨⟨fd, fn_d (k := 2) F sc_law_spoil_sign len_law_spoil_sign (t_law_spoil_sign K) (fun cdv A outer s H E WD hr tk hp => ?_) (pure_law_spoil_sign T), F.bindsN fun _ _ _ _ _ _ us hl => match us, hl with | [_, _], _ => rfl, F.kp⟩, T.g_law_spoil_sign⟩
  refine dss_cons (ds_set (i := 2) sc_law_spoil_sign.nd rfl (Or.inl rfl) (de_call c_law_draw_ok (hr.mono (by decide)) rfl c_law_draw_g c_law_draw_kp c_law_draw_b .nil (fun _ => .nil) tk (da_cons (dv 0) (da_cons de_int da_nil)))) ?_
  refine dss_cons (ds_set (i := 3) sc_law_spoil_sign.nd rfl (Or.inl rfl) (de_call c_law_draw_ok (hr.mono (by decide)) rfl c_law_draw_g c_law_draw_kp c_law_draw_b .nil (fun _ => .nil) tk (da_cons (dv 0) (da_cons (de_add false (de_callB call_len cd_len rfl T.b_len (by decide +kernel) (da_cons (dv 1) da_nil)) de_int) da_nil)))) ?_
  refine dss_cons (ds_if (dt_cmp (op_eqA hr.units) od_eq (dv 2) de_int (nomark _)) (dss_one (ds_ret (de_add false (de_add false (de_slice false (dv 1) do_none (do_some (dv 3))) (de_call c_law_sign_ok (hr.mono (by decide)) rfl c_law_sign_g c_law_sign_kp c_law_sign_b .nil (fun _ => .nil) tk (da_cons (dv 0) da_nil))) (de_slice false (dv 1) (do_some (dv 3)) do_none)))) dss_nil) ?_
  refine dss_cons (ds_if (dt_cmp (op_eqA hr.units) od_eq (dv 2) de_int (nomark _)) (dss_one (ds_ret (de_add false (de_slice false (dv 1) do_none (do_some (dv 3))) (de_slice false (dv 1) (do_some (de_add false (dv 3) de_int)) do_none)))) dss_nil) ?_
  refine dss_cons (ds_if (dt_cmp (op_eqA hr.units) od_eq (dv 2) de_int (nomark _)) (dss_one (ds_ret (de_add false (de_add false (de_slice false (dv 1) do_none (do_some (dv 3))) (de_call c_law_sign_ok (hr.mono (by decide)) rfl c_law_sign_g c_law_sign_kp c_law_sign_b .nil (fun _ => .nil) tk (da_cons (dv 0) da_nil))) (de_slice false (dv 1) (do_some (de_add false (dv 3) de_int)) do_none)))) dss_nil) ?_
  exact dss_one (ds_ret (de_ix (de_lst false (da_cons (de_slice false (dv 1) do_none (do_some (de_neg de_int))) (da_cons (de_add false (dv 1) de_str) (da_cons (de_add false (dv 1) de_str) (da_cons (de_add false (dv 1) de_str) (da_cons (de_add false de_str (dv 1)) da_nil)))))) (de_call c_law_draw_ok (hr.mono (by decide)) rfl c_law_draw_g c_law_draw_kp c_law_draw_b .nil (fun _ => .nil) tk (da_cons (dv 0) (da_cons de_int da_nil)))))

theorem ok_law_spoil_line {P : Program} {w : World} {K : PySem.W.Frag} {mg : Str → Option Value} {base : Heap} (T : Txt K mg) (TB : TabBs K mg base) (c_law_draw : Good P w K mg base 1 (some "_law_draw") (ga K "_law_draw") ["_law_pool_here", "_law_limit"] (sp_law_draw K)) : Good P w K mg base 2 (some "_law_spoil_line") (ga K "_law_spoil_line") ["_law_pool_here", "_law_text_here"] (sp_law_spoil_line K) := by
  obtain ⟨_, c_law_draw_ok, c_law_draw_b, c_law_draw_kp⟩ := c_law_draw.ex
  have c_law_draw_g := c_law_draw.gl
  obtain ⟨fd, F⟩ := T.d_law_spoil_line
  refine ⟨⟨fd, fn_d (k := 1) F sc_law_spoil_line len_law_spoil_line (t_law_spoil_line K) (fun cdv A outer s H E WD hr tk hp => ?_) (pure_law_spoil_line T), F.bindsN fun _ _ _ _ _ _ us hl => match us, hl with | [_, _], _ => rfl, F.kp⟩, T.g_law_spoil_line⟩
  refine dss_cons (ds_set (i := 2) sc_law_spoil_line.nd rfl (Or.inl rfl) (de_bm PySem.F.plainAttrs_str PySem.F.slot_str_split PySem.F.type_str_split mt_split (md_split true) (dv 1) (da_cons de_str da_nil))) ?_
  refine dss_cons (ds_set (i := 3) sc_law_spoil_line.nd rfl (Or.inl rfl) (de_call c_law_draw_ok (hr.mono (by decide)) rfl c_law_draw_g c_law_draw_kp c_law_draw_b .nil (fun _ => .nil) tk (da_cons (dv 0) (da_cons de_int da_nil)))) ?_
  refine dss_cons (ds_set (i := 4) sc_law_spoil_line.nd rfl (Or.inl rfl) (de_call c_law_draw_ok (hr.mono (by decide)) rfl c_law_draw_g c_law_draw_kp c_law_draw_b .nil (fun _ => .nil) tk (da_cons (dv 0) (da_cons (de_callB call_len cd_len rfl T.b_len (by decide +kernel) (da_cons (dv 2) da_nil)) da_nil)))) ?_
  refine dss_cons (ds_set (i := 5) sc_law_spoil_line.nd rfl (Or.inl rfl) (de_call c_law_draw_ok (hr.mono (by decide)) rfl c_law_draw_g c_law_draw_kp c_law_draw_b .nil (fun _ => .nil) tk (da_cons (dv 0) (da_cons (de_callB call_len cd_len rfl T.b_len (by decide +kernel) (da_cons (dv 2) da_nil)) da_nil)))) ?_
  refine dss_cons (ds_set (i := 6) sc_law_spoil_line.nd rfl (Or.inl rfl) (de_ix (dv 2) (dv 4))) ?_
  refine dss_cons (ds_if (dt_cmp (op_eqA hr.units) od_eq (dv 3) de_int (nomark _)) (dss_one (ds_expr (de_bm PySem.F.plainAttrs_list PySem.F.slot_list_pop PySem.F.type_list_pop mt_popAt md_popAt (dv 2) (da_cons (dv 4) da_nil)))) dss_nil) ?_
  refine dss_cons (ds_if (dt_cmp (op_eqA hr.units) od_eq (dv 3) de_int (nomark _)) (dss_one (ds_expr (de_bm PySem.F.plainAttrs_list PySem.F.slot_list_insert PySem.F.type_list_insert mt_insert md_insert (dv 2) (da_cons (dv 5) (da_cons (dv 6) da_nil))))) dss_nil) ?_
  refine dss_cons (ds_if (dt_cmp (op_eqA hr.units) od_eq (dv 3) de_int (nomark _)) (dss_cons (ds_asg (de_ix (dv 2) (dv 5)) (dg_sub (dv 2) (dv 4)))
    (dss_one (ds_asg (dv 6) (dg_sub (dv 2) (dv 5))))) dss_nil) ?_
  refine dss_cons (ds_if (dt_cmp (op_eqA hr.units) od_eq (dv 3) de_int (nomark _)) (dss_cons (ds_set (i := 7) sc_law_spoil_line.nd rfl (Or.inl rfl) (de_bm PySem.F.plainAttrs_str PySem.F.slot_str_split PySem.F.type_str_split mt_split (md_split true) (dv 6) (da_cons de_str da_nil)))
    (dss_cons (ds_set (i := 8) sc_law_spoil_line.nd rfl (Or.inl rfl) (de_lst false (da_cons (de_add false de_str (de_ix (dv 7) (de_neg de_int))) (da_cons (de_add false de_str (de_ix (dv 7) (de_neg de_int))) (da_cons (de_add false de_str (de_ix (dv 7) (de_neg de_int))) (da_cons de_str (da_cons de_str (da_cons de_str (da_cons (de_mulS de_str de_int) (da_cons de_str da_nil))))))))))
    (dss_cons (ds_asg (de_ix (dv 8) (de_call c_law_draw_ok (hr.mono (by decide)) rfl c_law_draw_g c_law_draw_kp c_law_draw_b .nil (fun _ => .nil) tk (da_cons (dv 0) (da_cons de_int da_nil)))) (dg_sub (dv 7) (de_neg de_int)))
    (dss_one (ds_asg (de_bm PySem.F.plainAttrs_str PySem.F.slot_str_join PySem.F.type_str_join mt_join md_join de_str (da_cons (dv 7) da_nil)) (dg_sub (dv 2) (dv 4))))))) dss_nil) ?_
  refine dss_frz 2 ?_
  exact dss_one (ds_ret (de_wk (de_bm PySem.F.plainAttrs_str PySem.F.slot_str_join PySem.F.type_str_join mt_join md_join de_str (da_cons (dv 2) da_nil))))

theorem ok_law_number_of {P : Program} {w : World} {K : PySem.W.Frag} {mg : Str → Option Value} {base : Heap} (T : Txt K mg) (TB : TabBs K mg base)  : Good P w K mg base 1 (some "_law_number_of") (ga K "_law_number_of") ["_law_word"] (sp_law_number_of K) := by
  obtain ⟨fd, F⟩ := T.d_law_number_of
  refine ⟨⟨fd, fn_d (k := 0) F sc_law_number_of len_law_number_of (t_law_number_of K) (fun cdv A outer s H E WD hr tk hp => ?_) (pure_law_number_of T), F.bindsN fun _ _ _ _ _ _ us hl => match us, hl with | [_], _ => rfl, F.kp⟩, T.g_law_number_of⟩
  refine dss_cons (ds_if (dt_w (dw_or (dt_not (dt_chain op_le od_cmpI op_le od_cmpI de_int (de_callB call_len cd_len rfl T.b_len (by decide +kernel) (da_cons (dv 0) da_nil)) de_int)) (dw_or1 (dt_w (dw_and (dt_cmp (op_eqA hr.units) od_eq (de_ix (dv 0) de_int) de_str (nomark _)) (dw_and1 (dt_cmp op_gt od_cmpI (de_callB call_len cd_len rfl T.b_len (by decide +kernel) (da_cons (dv 0) da_nil)) de_int (nomark _)))))))) (dss_one (ds_ret (de_neg de_int))) dss_nil) ?_
  refine dss_cons (ds_for hp rfl (di_str (dv 0)) (dg_name (i := 1) sc_law_number_of.nd rfl (Or.inl rfl)) (dss_one (ds_if (dt_cmp op_notInA od_notIn (dv 1) de_str (by rfl)) (dss_one (ds_ret (de_neg de_int))) dss_nil))) ?_
  exact dss_one (ds_ret (de_callTy call_int_str cd_intS rfl T.b_int (by decide +kernel) (da_cons (dv 0) da_nil)))

theorem ok_law_parts {P : Program} {w : World} {K : PySem.W.Frag} {mg : Str → Option Value} {base : Heap} (T : Txt K mg) (TB : TabBs K mg base) (c_law_number_of : Good P w K mg base 1 (some "_law_number_of") (ga K "_law_number_of") ["_law_word"] (sp_law_number_of K)) : Good P w K mg base 2 (some "_law_parts") (ga K "_law_parts") ["_law_line"] (sp_law_parts K) := by
  obtain ⟨_, c_law_number_of_ok, c_law_number_of_b, c_law_number_of_kp⟩ := c_law_number_of.ex
  have c_law_number_of_g := c_law_number_of.gl
  obtain ⟨fd, F⟩ := T.d_law_parts
  refine ⟨⟨fd, fn_d (k := 1) F sc_law_parts len_law_parts (t_law_parts K) (fun cdv A outer s H E WD hr tk hp => ?_) (pure_law_parts T), F.bindsN fun _ _ _ _ _ _ us hl => match us, hl with | [_], _ => rfl, F.kp⟩, T.g_law_parts⟩
  refine dss_cons (ds_set (i := 1) sc_law_parts.nd rfl (Or.inl rfl) (de_bm PySem.F.plainAttrs_str PySem.F.slot_str_split PySem.F.type_str_split mt_split (md_split false) (dv 0) (da_cons de_str da_nil))) ?_
  refine dss_cons (ds_if (dt_w (dw_or (dt_cmp op_inA od_in de_str (dv 1) (by rfl)) (dw_or1 (dt_cmp op_notInA od_notIn (de_ix (dv 1) de_int) (de_lst false (da_cons de_str (da_cons de_str (da_cons de_str da_nil)))) (by rfl))))) (dss_one (ds_ret (de_wk (de_lst false da_nil)))) dss_nil) ?_
  refine dss_cons (ds_if (dt_cmp (op_neA hr.units) od_ne (de_callB call_len cd_len rfl T.b_len (by decide +kernel) (da_cons (dv 1) da_nil)) (de_ix (de_lst false (da_cons de_int (da_cons de_int da_nil))) (de_callTy call_int1 cd_int1 rfl T.b_int (by decide +kernel) (da_cons (de_cmp (op_eqA hr.units) od_eq (de_ix (dv 1) de_int) de_str (nomark _)) da_nil))) (nomark _)) (dss_one (ds_ret (de_wk (de_lst false da_nil)))) dss_nil) ?_
  refine dss_cons (ds_if (dt_cmp (op_eqA hr.units) od_eq (de_ix (dv 1) de_int) de_str (nomark _)) (dss_one (ds_ret (de_wk (dv 1)))) dss_nil) ?_
  refine dss_cons (ds_set (i := 2) sc_law_parts.nd rfl (Or.inl rfl) (de_call c_law_number_of_ok (hr.mono (by decide)) rfl c_law_number_of_g c_law_number_of_kp c_law_number_of_b .nil (fun _ => .nil) tk (da_cons (de_ix (dv 1) de_int) da_nil))) ?_
  refine dss_cons (ds_if (dt_w (dw_and (dt_cmp (op_eqA hr.units) od_eq (de_ix (dv 1) de_int) de_str (nomark _)) (dw_and1 (dt_cmp op_ge od_cmpI (dv 2) de_int (nomark _))))) (dss_one (ds_ret (de_wk (de_lst false (da_cons (de_ix (dv 1) de_int) (da_cons (de_ix (dv 1) de_int) (da_cons (de_ix (dv 1) de_int) (da_cons (dv 2) da_nil)))))))) dss_nil) ?_
  refine dss_cons (ds_set (i := 3) sc_law_parts.nd rfl (Or.inl rfl) (de_call c_law_number_of_ok (hr.mono (by decide)) rfl c_law_number_of_g c_law_number_of_kp c_law_number_of_b .nil (fun _ => .nil) tk (da_cons (de_ix (dv 1) de_int) da_nil))) ?_
  refine dss_cons (ds_if (dt_w (dw_and (dt_cmp (op_eqA hr.units) od_eq (de_ix (dv 1) de_int) de_str (nomark _)) (dw_and (dt_cmp op_ge od_cmpI (dv 3) de_int (nomark _)) (dw_and1 (dt_cmp op_ge od_cmpI (dv 2) de_int (nomark _)))))) (dss_one (ds_ret (de_wk (de_lst false (da_cons (de_ix (dv 1) de_int) (da_cons (de_ix (dv 1) de_int) (da_cons (dv 3) (da_cons (dv 2) da_nil)))))))) dss_nil) ?_
  exact dss_one (ds_ret (de_wk (de_lst false da_nil)))

theorem ok_law_is_name {P : Program} {w : World} {K : PySem.W.Frag} {mg : Str → Option Value} {base : Heap} (T : Txt K mg) (TB : TabBs K mg base)  : Good P w K mg base 1 (some "_law_is_name") (ga K "_law_is_name") ["_law_word"] (sp_law_is_name K) := by
  obtain ⟨fd, F⟩ := T.d_law_is_name
  refine ⟨⟨fd, fn_d (k := 0) F sc_law_is_name len_law_is_name (t_law_is_name K) (fun cdv A outer s H E WD hr tk hp => ?_) (pure_law_is_name T), F.bindsN fun _ _ _ _ _ _ us hl => match us, hl with | [_], _ => rfl, F.kp⟩, T.g_law_is_name⟩
  refine dss_cons (ds_set (i := 1) sc_law_is_name.nd rfl (Or.inr rfl) de_str) ?_
  refine dss_cons (ds_if (dt_w (dw_or (dt_not (dt_chain op_le od_cmpI op_le od_cmpI de_int (de_callB call_len cd_len rfl T.b_len (by decide +kernel) (da_cons (dv 0) da_nil)) de_int)) (dw_or1 (dt_cmp op_ge od_cmpI (de_bm PySem.F.plainAttrs_str PySem.F.slot_str_find PySem.F.type_str_find mt_find md_find (dv 1) (da_cons (de_ix (dv 0) de_int) da_nil)) de_int (nomark _))))) (dss_one (ds_ret de_bl)) dss_nil) ?_
  exact dss_one (ds_ret (de_callB (cr_all rfl) cd_all rfl T.b_all (by decide +kernel) (da_cons (de_lc false (own := [("_law_sign_here", 2)]) (c := .one 2) (te := dOp (dIn false) (dVar 2) (dVar 1)) (tt := dYes) rfl sc_law_is_name.nd (by simp [CT.in]) (di_str (dv 0)) (blkOk_by (own := [("_law_sign_here", 2)]) (N := nm_law_is_name) (sc := defScope s_law_is_name) (by decide +kernel)) (fun _ _ _ _ _ => pg_ct1 (i := 2) sc_law_is_name.nd rfl (Or.inl rfl)) (fun _ _ _ _ _ => dts_nil) (fun _ _ _ _ _ => de_cmp op_inA od_in (dv 2) (dv 1) (by rfl))) da_nil)))

theorem ok_law_kind_fault {P : Program} {w : World} {K : PySem.W.Frag} {mg : Str → Option Value} {base : Heap} (T : Txt K mg) (TB : TabBs K mg base) (c_law_is_name : Good P w K mg base 1 (some "_law_is_name") (ga K "_law_is_name") ["_law_word"] (sp_law_is_name K)) : Good P w K mg base 2 (some "_law_kind_fault") (ga K "_law_kind_fault") ["_law_rows", "_law_limits"] (sp_law_kind_fault K) := by
  obtain ⟨_, c_law_is_name_ok, c_law_is_name_b, c_law_is_name_kp⟩ := c_law_is_name.ex
  have c_law_is_name_g := c_law_is_name.gl
  obtain ⟨fd, F⟩ := T.d_law_kind_fault
  refine ⟨⟨fd, fn_d (k := 1) F sc_law_kind_fault len_law_kind_fault (t_law_kind_fault K) (fun cdv A outer s H E WD hr tk hp => ?_) (pure_law_kind_fault T), F.bindsN fun _ _ _ _ _ _ us hl => match us, hl with | [_, _], _ => rfl, F.kp⟩, T.g_law_kind_fault⟩
  refine dss_cons (ds_set (i := 2) sc_law_kind_fault.nd rfl (Or.inl rfl) (de_lst true da_nil)) ?_
  refine dss_cons (ds_for hp rfl (di_list (dv 0)) (dg_tup rfl (dgs_cons (dg_name (i := 3) sc_law_kind_fault.nd rfl (Or.inl rfl)) (dgs_cons (dg_name (i := 4) sc_law_kind_fault.nd rfl (Or.inl rfl)) (dgs_cons (dg_name (i := 5) sc_law_kind_fault.nd rfl (Or.inl rfl)) dgs_nil)))) (dss_cons (ds_if (dt_not (dt_tru (de_call c_law_is_name_ok (hr.mono (by decide)) rfl c_law_is_name_g c_law_is_name_kp c_law_is_name_b .nil (fun _ => .nil) tk (da_cons (dv 3) da_nil)))) (dss_one (ds_ret (de_wk (de_tup (da_cons de_str (da_cons (dv 3) da_nil)))))) dss_nil)
    (dss_cons (ds_if (dt_cmp op_inA od_in (dv 3) (dv 2) (by rfl)) (dss_one (ds_ret (de_wk (de_tup (da_cons de_str (da_cons (dv 3) da_nil)))))) dss_nil)
    (dss_cons (ds_if (dt_not (dt_chain op_le od_cmpI op_le od_cmpI de_int (dv 4) (de_ix (dv 1) de_int))) (dss_one (ds_ret (de_wk (de_tup (da_cons de_str (da_cons de_str (da_cons (dv 4) da_nil))))))) dss_nil)
    (dss_cons (ds_if (dt_not (dt_chain op_le od_cmpI op_le od_cmpI de_int (dv 5) (de_ix (dv 1) de_int))) (dss_one (ds_ret (de_wk (de_tup (da_cons de_str (da_cons de_str (da_cons (dv 5) da_nil))))))) dss_nil)
    (dss_one (ds_expr (de_bm PySem.F.plainAttrs_list PySem.F.slot_list_append PySem.F.type_list_append mt_append md_append (dv 2) (da_cons (dv 3) da_nil))))))))) ?_
  exact dss_one (ds_ret (de_wk (de_tup (da_cons de_str da_nil))))

theorem ok_law_arrow_fault {P : Program} {w : World} {K : PySem.W.Frag} {mg : Str → Option Value} {base : Heap} (T : Txt K mg) (TB : TabBs K mg base)  : Good P w K mg base 1 (some "_law_arrow_fault") (ga K "_law_arrow_fault") ["_law_ties", "_law_taken"] (sp_law_arrow_fault K) := by
  obtain ⟨fd, F⟩ := T.d_law_arrow_fault
  refine ⟨⟨fd, fn_d (k := 0) F sc_law_arrow_fault len_law_arrow_fault (t_law_arrow_fault K) (fun cdv A outer s H E WD hr tk hp => ?_) (pure_law_arrow_fault T), F.bindsN fun _ _ _ _ _ _ us hl => match us, hl with | [_, _], _ => rfl, F.kp⟩, T.g_law_arrow_fault⟩
  refine dss_cons (ds_set (i := 2) sc_law_arrow_fault.nd rfl (Or.inl rfl) (de_lst true da_nil)) ?_
  refine dss_cons (ds_for hp rfl (di_list (dv 0)) (dg_tup rfl (dgs_cons (dg_name (i := 3) sc_law_arrow_fault.nd rfl (Or.inl rfl)) (dgs_cons (dg_name (i := 4) sc_law_arrow_fault.nd rfl (Or.inl rfl)) (dgs_cons (dg_name (i := 5) sc_law_arrow_fault.nd rfl (Or.inl rfl)) dgs_nil)))) (dss_cons (ds_if (dt_cmp op_notInA od_notIn (dv 3) (dv 1) (by rfl)) (dss_one (ds_ret (de_wk (de_tup (da_cons de_str (da_cons (dv 3) da_nil)))))) dss_nil)
    (dss_cons (ds_if (dt_cmp op_notInA od_notIn (dv 4) (dv 1) (by rfl)) (dss_one (ds_ret (de_wk (de_tup (da_cons de_str (da_cons (dv 4) da_nil)))))) dss_nil)
    (dss_cons (ds_if (dt_not (dt_chain op_le od_cmpI op_le od_cmpI de_int (dv 5) de_int)) (dss_one (ds_ret (de_wk (de_tup (da_cons de_str (da_cons de_str (da_cons (dv 5) da_nil))))))) dss_nil)
    (dss_cons (ds_if (dt_cmp (op_inD hr.units) (od_inD false) (de_tup (da_cons (dv 3) (da_cons (dv 4) da_nil))) (dv 2) (by rfl)) (dss_one (ds_ret (de_wk (de_tup (da_cons de_str (da_cons (dv 3) (da_cons (dv 4) da_nil))))))) dss_nil)
    (dss_one (ds_expr (de_bm PySem.F.plainAttrs_list PySem.F.slot_list_append PySem.F.type_list_append mt_append md_append (dv 2) (da_cons (de_tup (da_cons (dv 3) (da_cons (dv 4) da_nil))) da_nil))))))))) ?_
  exact dss_one (ds_ret (de_wk (de_tup (da_cons de_str da_nil))))

theorem ok_law_task_fault {P : Program} {w : World} {K : PySem.W.Frag} {mg : Str → Option Value} {base : Heap} (T : Txt K mg) (TB : TabBs K mg base) (c_law_is_name : Good P w K mg base 1 (some "_law_is_name") (ga K "_law_is_name") ["_law_word"] (sp_law_is_name K)) (c_law_kind_fault : Good P w K mg base 2 (some "_law_kind_fault") (ga K "_law_kind_fault") ["_law_rows", "_law_limits"] (sp_law_kind_fault K)) (c_law_arrow_fault : Good P w K mg base 1 (some "_law_arrow_fault") (ga K "_law_arrow_fault") ["_law_ties", "_law_taken"] (sp_law_arrow_fault K)) : Good P w K mg base 3 (some "_law_task_fault") (ga K "_law_task_fault") ["_law_spec_here"] (sp_law_task_fault K) := by
  obtain ⟨_, c_law_is_name_ok, c_law_is_name_b, c_law_is_name_kp⟩ := c_law_is_name.ex
  have c_law_is_name_g := c_law_is_name.gl
  obtain ⟨_, c_law_kind_fault_ok, c_law_kind_fault_b, c_law_kind_fault_kp⟩ := c_law_kind_fault.ex
  have c_law_kind_fault_g := c_law_kind_fault.gl
  obtain ⟨_, c_law_arrow_fault_ok, c_law_arrow_fault_b, c_law_arrow_fault_kp⟩ := c_law_arrow_fault.ex
  have c_law_arrow_fault_g := c_law_arrow_fault.gl
  obtain ⟨fd, F⟩ := T.d_law_task_fault
  refine ⟨⟨fd, fn_d (k := 2) F sc_law_task_fault len_law_task_fault (t_law_task_fault K) (fun cdv A outer s H E WD hr tk hp => ?_) (pure_law_task_fault T), F.bindsN fun _ _ _ _ _ _ us hl => match us, hl with | [_], _ => rfl, F.kp⟩, T.g_law_task_fault⟩
  refine dss_cons (ds_if (dt_not (dt_tru (de_call c_law_is_name_ok (hr.mono (by decide)) rfl c_law_is_name_g c_law_is_name_kp c_law_is_name_b .nil (fun _ => .nil) tk (da_cons (de_ix (dv 0) de_int) da_nil)))) (dss_one (ds_ret (de_tup (da_cons de_str (da_cons (de_ix (dv 0) de_int) da_nil))))) dss_nil) ?_
  refine dss_cons (ds_if (dt_not (dt_chain op_le od_cmpI op_le od_cmpI de_int (de_callB call_len cd_len rfl T.b_len (by decide +kernel) (da_cons (de_ix (dv 0) de_int) da_nil)) de_int)) (dss_one (ds_ret (de_tup (da_cons de_str (da_cons de_str (da_cons (de_callB call_len cd_len rfl T.b_len (by decide +kernel) (da_cons (de_ix (dv 0) de_int) da_nil)) da_nil)))))) dss_nil) ?_
  refine dss_cons (ds_if (dt_cmp op_gt od_cmpI (de_callB call_len cd_len rfl T.b_len (by decide +kernel) (da_cons (de_ix (dv 0) de_int) da_nil)) de_int (nomark _)) (dss_one (ds_ret (de_tup (da_cons de_str (da_cons de_str (da_cons (de_callB call_len cd_len rfl T.b_len (by decide +kernel) (da_cons (de_ix (dv 0) de_int) da_nil)) da_nil)))))) dss_nil) ?_
  refine dss_cons (ds_set (i := 1) sc_law_task_fault.nd rfl (Or.inl rfl) (de_call c_law_kind_fault_ok (hr.mono (by decide)) rfl c_law_kind_fault_g c_law_kind_fault_kp c_law_kind_fault_b .nil (fun _ => .nil) tk (da_cons (de_ix (dv 0) de_int) (da_cons (de_ix (de_lst false (da_cons (de_lst false (da_cons de_int (da_cons de_int da_nil))) (da_cons (de_lst false (da_cons de_int (da_cons de_int da_nil))) da_nil))) (de_callTy call_int1 cd_int1 rfl T.b_int (by decide +kernel) (da_cons (de_cmp (op_neA hr.units) od_ne (de_ix (dv 0) de_int) (de_lst false da_nil) (nomark _)) da_nil))) da_nil)))) ?_
  refine dss_cons (ds_if (dt_cmp (op_neA hr.units) od_ne (dv 1) (de_tup (da_cons de_str da_nil)) (nomark _)) (dss_one (ds_ret (dv 1))) dss_nil) ?_
  exact dss_one (ds_ret (de_call c_law_arrow_fault_ok (hr.mono (by decide)) rfl c_law_arrow_fault_g c_law_arrow_fault_kp c_law_arrow_fault_b .nil (fun _ => .nil) tk (da_cons (de_ix (dv 0) de_int) (da_cons (de_lc false (own := [("_law_row", 2)]) (c := .one 2) (te := dOp dIx (dVar 2) (dC (.int 0))) (tt := dYes) rfl sc_law_task_fault.nd (by simp [CT.in]) (di_list (de_ix (dv 0) de_int)) (blkOk_by (own := [("_law_row", 2)]) (N := nm_law_task_fault) (sc := defScope s_law_task_fault) (by decide +kernel)) (fun _ _ _ _ _ => pg_ct1 (i := 2) sc_law_task_fault.nd rfl (Or.inl rfl)) (fun _ _ _ _ _ => dts_nil) (fun _ _ _ _ _ => de_ix (dv 2) de_int)) da_nil))))

theorem ok_law_due {P : Program} {w : World} {K : PySem.W.Frag} {mg : Str → Option Value} {base : Heap} (T : Txt K mg) (TB : TabBs K mg base) (c_law_parts : Good P w K mg base 2 (some "_law_parts") (ga K "_law_parts") ["_law_line"] (sp_law_parts K)) (c_law_task_fault : Good P w K mg base 3 (some "_law_task_fault") (ga K "_law_task_fault") ["_law_spec_here"] (sp_law_task_fault K)) : Good P w K mg base 4 (some "_law_due") (ga K "_law_due") ["_law_text_here"] (sp_law_due K) := by
  obtain ⟨_, c_law_parts_ok, c_law_parts_b, c_law_parts_kp⟩ := c_law_parts.ex
  have c_law_parts_g := c_law_parts.gl
  obtain ⟨_, c_law_task_fault_ok, c_law_task_fault_b, c_law_task_fault_kp⟩ := c_law_task_fault.ex
  have c_law_task_fault_g := c_law_task_fault.gl
  obtain ⟨fd, F⟩ := T.d_law_due
  refine ⟨⟨fd, fn_d (k := 3) F sc_law_due len_law_due (t_law_due K) (fun cdv A outer s H E WD hr tk hp => ?_) (pure_law_due T), F.bindsN fun _ _ _ _ _ _ us hl => match us, hl with | [_], _ => rfl, F.kp⟩, T.g_law_due⟩
  refine dss_cons (ds_set (i := 1) sc_law_due.nd rfl (Or.inl rfl) (de_bm PySem.F.plainAttrs_str PySem.F.slot_str_split PySem.F.type_str_split mt_split (md_split false) (dv 0) (da_cons de_str da_nil))) ?_
  refine dss_cons (ds_set (i := 2) sc_law_due.nd rfl (Or.inl rfl) (de_lst true da_nil)) ?_
  refine dss_cons (ds_for hp rfl (di_range1 rfl T.b_range (da_cons (de_sub (de_callB call_len cd_len rfl T.b_len (by decide +kernel) (da_cons (dv 1) da_nil)) de_int) da_nil)) (dg_name (i := 3) sc_law_due.nd rfl (Or.inl rfl)) (dss_cons (ds_set (i := 4) sc_law_due.nd rfl (Or.inl rfl) (de_call c_law_parts_ok (hr.mono (by decide)) rfl c_law_parts_g c_law_parts_kp c_law_parts_b .nil (fun _ => .nil) tk (da_cons (de_ix (dv 1) (dv 3)) da_nil)))
    (dss_cons (ds_if (dt_w (dw_or (dt_cmp (op_eqA hr.units) od_eq (dv 4) (de_lst false da_nil) (nomark _)) (dw_or1 (dt_w (dw_and (dt_cmp (op_neA hr.units) od_ne (de_ix (dv 4) de_int) de_str (nomark _)) (dw_and1 (dt_cmp (op_eqZ hr.units) od_eqZ (dv 2) (de_lst false da_nil) (nomark _)))))))) (dss_one (ds_ret (de_wk (de_tup (da_cons de_str (da_cons (de_add false (dv 3) de_int) da_nil)))))) dss_nil)
    (dss_cons (ds_if (dt_cmp (op_eqA hr.units) od_eq (de_ix (dv 4) de_int) de_str (nomark _)) (dss_one (ds_expr (de_bm PySem.F.plainAttrs_list PySem.F.slot_list_append PySem.F.type_list_append mt_append md_append (dv 2) (da_cons (de_tup (da_cons (de_ix (dv 4) de_int) (da_cons (de_lst true da_nil) (da_cons (de_lst true da_nil) da_nil)))) da_nil)))) dss_nil)
    (dss_cons (ds_if (dt_cmp (op_eqA hr.units) od_eq (de_ix (dv 4) de_int) de_str (nomark _)) (dss_cons (ds_set (i := 5) sc_law_due.nd rfl (Or.inl rfl) (de_ix (de_ix (dv 2) (de_neg de_int)) de_int))
    (dss_one (ds_expr (de_bm PySem.F.plainAttrs_list PySem.F.slot_list_append PySem.F.type_list_append mt_append md_append (dv 5) (da_cons (de_tup (da_cons (de_ix (dv 4) de_int) (da_cons (de_ix (dv 4) de_int) (da_cons (de_ix (dv 4) de_int) da_nil)))) da_nil))))) dss_nil)
    (dss_one (ds_if (dt_cmp (op_eqA hr.units) od_eq (de_ix (dv 4) de_int) de_str (nomark _)) (dss_cons (ds_set (i := 6) sc_law_due.nd rfl (Or.inl rfl) (de_ix (de_ix (dv 2) (de_neg de_int)) de_int))
    (dss_one (ds_expr (de_bm PySem.F.plainAttrs_list PySem.F.slot_list_append PySem.F.type_list_append mt_append md_append (dv 6) (da_cons (de_tup (da_cons (de_ix (dv 4) de_int) (da_cons (de_ix (dv 4) de_int) (da_cons (de_ix (dv 4) de_int) da_nil)))) da_nil))))) dss_nil))))))) ?_
  refine dss_frz 2 ?_
  refine dss_cons (ds_if (dt_cmp (op_neA hr.units) od_ne (de_ix (dv 1) (de_neg de_int)) de_str (nomark _)) (dss_one (ds_ret (de_wk (de_tup (da_cons de_str (da_cons (de_callB call_len cd_len rfl T.b_len (by decide +kernel) (da_cons (dv 1) da_nil)) da_nil)))))) dss_nil) ?_
  refine dss_frzG 2 ?_
  refine dss_cons (ds_for hp rfl (di_list (dv 2)) (dg_name (i := 7) sc_law_due.nd rfl (Or.inl rfl)) (dss_cons (ds_set (i := 8) sc_law_due.nd rfl (Or.inl rfl) (de_call c_law_task_fault_ok (hr.mono (by decide)) rfl c_law_task_fault_g c_law_task_fault_kp c_law_task_fault_b .nil (fun _ => .nil) tk (da_cons (dv 7) da_nil)))
    (dss_one (ds_if (dt_cmp (op_neA hr.units) od_ne (dv 8) (de_tup (da_cons de_str da_nil)) (nomark _)) (dss_one (ds_ret (de_wk (dv 8)))) dss_nil)))) ?_
  exact dss_one (ds_ret (de_wk (de_tup (da_cons de_str (da_cons (dv 2) da_nil)))))

theorem ok_law_fault {P : Program} {w : World} {K : PySem.W.Frag} {mg : Str → Option Value} {base : Heap} (T : Txt K mg) (TB : TabBs K mg base) : GoodX P w K mg base 1 "_law_fault" (ga K "_law_fault") ["_law_e"] (sp_law_fault K) := by
  obtain ⟨fd, F⟩ := T.d_law_fault
  refine ⟨⟨fd, fn_dX (k := 0) F sc_law_fault len_law_fault (t_law_fault K) (fun cdv A outer s H E ea ec ed oe hr hz hv => ?_) (pure_law_fault T), F.bindsN fun _ _ _ _ _ _ us hl => match us, hl with | [_], _ => rfl, F.kp⟩, T.g_law_fault⟩
  refine dss_cons (ds_if (dt_not (dt_tru (de_callB (call_isXP List.mem_cons_self hz hv) cd_isX rfl T.b_isinstance (by decide +kernel) (da_cons (dv 0) (da_cons (de_ty rfl T.b_ValueError (by decide +kernel)) da_nil))))) (dss_one (ds_ret (de_tup (da_cons de_str da_nil)))) dss_nil) ?_
  refine dss_cons (ds_if (dt_tru (de_callB (call_isXP List.mem_cons_self hz hv) cd_isX rfl T.b_isinstance (by decide +kernel) (da_cons (dv 0) (da_cons (de_globR rfl T.g_BadLine) da_nil)))) (dss_one (ds_ret (de_tup (da_cons de_str (da_cons (de_xfP List.mem_cons_self T.xf_BadLine T.nf_BadLine_line hz hv (dv 0)) da_nil))))) dss_nil) ?_
  refine dss_cons (ds_if (dt_tru (de_callB (call_isXP List.mem_cons_self hz hv) cd_isX rfl T.b_isinstance (by decide +kernel) (da_cons (dv 0) (da_cons (de_globR rfl T.g_BadName) da_nil)))) (dss_one (ds_ret (de_tup (da_cons de_str (da_cons (de_xfP List.mem_cons_self T.xf_BadName T.nf_BadName_name hz hv (dv 0)) da_nil))))) dss_nil) ?_
  refine dss_cons (ds_if (dt_tru (de_callB (call_isXP List.mem_cons_self hz hv) cd_isX rfl T.b_isinstance (by decide +kernel) (da_cons (dv 0) (da_cons (de_globR rfl T.g_WrongCount) da_nil)))) (dss_one (ds_ret (de_tup (da_cons de_str (da_cons (de_xfP List.mem_cons_self T.xf_WrongCount T.nf_WrongCount_what hz hv (dv 0)) (da_cons (de_xfP List.mem_cons_self T.xf_WrongCount T.nf_WrongCount_count hz hv (dv 0)) da_nil)))))) dss_nil) ?_
  refine dss_cons (ds_if (dt_tru (de_callB (call_isXP List.mem_cons_self hz hv) cd_isX rfl T.b_isinstance (by decide +kernel) (da_cons (dv 0) (da_cons (de_globR rfl T.g_OutOfRange) da_nil)))) (dss_one (ds_ret (de_tup (da_cons de_str (da_cons (de_xfP List.mem_cons_self T.xf_OutOfRange T.nf_OutOfRange_what hz hv (dv 0)) (da_cons (de_xfP List.mem_cons_self T.xf_OutOfRange T.nf_OutOfRange_value hz hv (dv 0)) da_nil)))))) dss_nil) ?_
  refine dss_cons (ds_if (dt_tru (de_callB (call_isXP List.mem_cons_self hz hv) cd_isX rfl T.b_isinstance (by decide +kernel) (da_cons (dv 0) (da_cons (de_globR rfl T.g_Repeated) da_nil)))) (dss_one (ds_ret (de_tup (da_cons de_str (da_cons (de_xfP List.mem_cons_self T.xf_Repeated T.nf_Repeated_name hz hv (dv 0)) da_nil))))) dss_nil) ?_
  refine dss_cons (ds_if (dt_tru (de_callB (call_isXP List.mem_cons_self hz hv) cd_isX rfl T.b_isinstance (by decide +kernel) (da_cons (dv 0) (da_cons (de_globR rfl T.g_RepeatedArrow) da_nil)))) (dss_one (ds_ret (de_tup (da_cons de_str (da_cons (de_xfP List.mem_cons_self T.xf_RepeatedArrow T.nf_RepeatedArrow_first hz hv (dv 0)) (da_cons (de_xfP List.mem_cons_self T.xf_RepeatedArrow T.nf_RepeatedArrow_second hz hv (dv 0)) da_nil)))))) dss_nil) ?_
  refine dss_cons (ds_if (dt_tru (de_callB (call_isXP List.mem_cons_self hz hv) cd_isX rfl T.b_isinstance (by decide +kernel) (da_cons (dv 0) (da_cons (de_globR rfl T.g_UnknownKind) da_nil)))) (dss_one (ds_ret (de_tup (da_cons de_str (da_cons (de_xfP List.mem_cons_self T.xf_UnknownKind T.nf_UnknownKind_name hz hv (dv 0)) da_nil))))) dss_nil) ?_
  exact dss_one (ds_ret (de_tup (da_cons de_str da_nil)))

theorem ok_law_told {P : Program} {w : World} {K : PySem.W.Frag} {mg : Str → Option Value} {base : Heap} (T : Txt K mg) (TB : TabBs K mg base) (c_read_tasks : Good P w K mg base 7 (some "read_tasks") (ga K "read_tasks") ["text"] (sp_read_tasks K)) (c_law_fault : GoodX P w K mg base 1 "_law_fault" (ga K "_law_fault") ["_law_e"] (sp_law_fault K)) (c_Task_arrows : Good P w K mg base 1 none (wad K "property" "Task" "arrows") ["self"] (sp_Task_arrows K)) (c_Task_kinds : Good P w K mg base 1 none (wad K "property" "Task" "kinds") ["self"] (sp_Task_kinds K)) : Good P w K mg base 8 (some "_law_told") (ga K "_law_told") ["_law_text_here"] (sp_law_told K) := by
  obtain ⟨_, c_read_tasks_ok, c_read_tasks_b, c_read_tasks_kp⟩ := c_read_tasks.ex
  have c_read_tasks_g := c_read_tasks.gl
  obtain ⟨_, c_law_fault_ok, c_law_fault_b, c_law_fault_kp⟩ := c_law_fault.ex
  have c_law_fault_g := c_law_fault.gl
  obtain ⟨_, c_Task_arrows_ok, c_Task_arrows_b, c_Task_arrows_kp⟩ := c_Task_arrows.ex
  have c_Task_arrows_g := c_Task_arrows.gl
  obtain ⟨_, c_Task_kinds_ok, c_Task_kinds_b, c_Task_kinds_kp⟩ := c_Task_kinds.ex
  have c_Task_kinds_g := c_Task_kinds.gl
  obtain ⟨fd, F⟩ := T.d_law_told
  refine ⟨⟨fd, fn_d (k := 7) F sc_law_told len_law_told (t_law_told K) (fun cdv A outer s H E WD hr tk hp => ?_) (pure_law_told T), F.bindsN fun _ _ _ _ _ _ us hl => match us, hl with | [_], _ => rfl, F.kp⟩, T.g_law_told⟩
  refine dss_cons (ds_try_as (i := 2) (tb := fun WDx1 => dSet 1 (dCall (sp_read_tasks K) WDx1 [] (daCons (dVar 0) daNil))) (ts := fun ea ec ed => dRet (dWk (dCall (sp_law_fault K ea ec ed) WD0 [] (daCons (dVar 2) daNil)))) rfl rfl sc_law_told.nd rfl rfl T.g_DuesError rfl tk (fun W WDx1 pn xe tk hp => dss_one (ds_set (i := 1) sc_law_told.nd rfl (Or.inl rfl) (de_call c_read_tasks_ok (hr.mono (by decide)) rfl c_read_tasks_g c_read_tasks_kp c_read_tasks_b .nil (fun _ => .nil) tk (da_cons (dv 0) da_nil)))) (fun ea oe ec ed pn hz hv => dss_one (ds_ret (de_wk (de_callX c_law_fault_ok (roomS (hr.mono (by decide))) List.mem_cons_self hz hv rfl c_law_fault_g c_law_fault_kp c_law_fault_b takes0 (da_cons (dv 2) da_nil)))))) ?_
  exact dss_one (ds_ret (de_wk (de_tup (da_cons de_str (da_cons (de_lc false (own := [("_law_task", 3)]) (c := .one 3) (te := dTup (daCons (dFld K (dVar 3) "name") (daCons (dProp (ga K "Task") (sp_Task_kinds K) (dVar 3)) (daCons (dProp (ga K "Task") (sp_Task_arrows K) (dVar 3)) daNil)))) (tt := dYes) rfl sc_law_told.nd (by simp [CT.in]) (di_list (dv 1)) (blkOk_by (own := [("_law_task", 3)]) (N := nm_law_told) (sc := defScope s_law_told) (by decide +kernel)) (fun _ _ _ _ _ => pg_ct1 (i := 3) sc_law_told.nd rfl (Or.inl rfl)) (fun _ _ _ _ _ => dts_nil) (fun _ _ _ _ _ => de_tup (da_cons (de_fld (dv 3)) (da_cons (de_prop (dv 3) T.cl_Task T.p_Task_kinds c_Task_kinds_ok (hr.mono (by decide)) c_Task_kinds_b) (da_cons (de_prop (dv 3) T.cl_Task T.p_Task_arrows c_Task_arrows_ok (hr.mono (by decide)) c_Task_arrows_b) da_nil))))) da_nil)))))

theorem law_ok {l : PySem.W.OpenLaw} {w : World} {K : PySem.W.Frag} {mg : Str → Option Value} {base : Heap} {fd : FuncData} (T : Txt K mg) (TB : TabBs K mg base) (F : FunD K "law" "law" (defArgs s_law) (defBody s_law) (defScope s_law) [] [] (ga K "law") fd) : FnOk l.prog w K mg base CX0 9 (ga K "law") fd ["_law_script"] (liftSp K spLaw) := by
  have c_law_pool : Good l.prog w K mg base 1 (some "_law_pool") (ga K "_law_pool") ["_law_script"] (sp_law_pool K) := ok_law_pool T TB
  have c_law_draw : Good l.prog w K mg base 1 (some "_law_draw") (ga K "_law_draw") ["_law_pool_here", "_law_limit"] (sp_law_draw K) := ok_law_draw T TB
  have c_law_text : Good l.prog w K mg base 1 (some "_law_text") (ga K "_law_text") ["_law_specs"] (sp_law_text K) := ok_law_text T TB
  have c_law_name : Good l.prog w K mg base 2 (some "_law_name") (ga K "_law_name") ["_law_pool_here"] (sp_law_name K) := ok_law_name T TB c_law_draw
  have c_law_fresh : Good l.prog w K mg base 1 (some "_law_fresh") (ga K "_law_fresh") ["_law_word", "_law_taken"] (sp_law_fresh K) := ok_law_fresh T TB
  have c_law_near : Good l.prog w K mg base 3 (some "_law_near") (ga K "_law_near") ["_law_pool_here", "_law_taken"] (sp_law_near K) := ok_law_near T TB c_law_draw c_law_name c_law_fresh
  have c_law_number : Good l.prog w K mg base 2 (some "_law_number") (ga K "_law_number") ["_law_pool_here", "_law_most"] (sp_law_number K) := ok_law_number T TB c_law_draw
  have c_law_spec : Good l.prog w K mg base 4 (some "_law_spec") (ga K "_law_spec") ["_law_pool_here"] (sp_law_spec K) := ok_law_spec T TB c_law_draw c_law_near c_law_number c_law_name
  have c_number_of : Good l.prog w K mg base 1 (some "number_of") (ga K "number_of") ["word"] (sp_number_of K) := ok_number_of T TB
  have c_arrow_parts : Good l.prog w K mg base 2 (some "arrow_parts") (ga K "arrow_parts") ["first", "second", "gap"] (sp_arrow_parts K) := ok_arrow_parts T TB c_number_of
  have c_kind_parts : Good l.prog w K mg base 2 (some "kind_parts") (ga K "kind_parts") ["name", "cost", "deadline"] (sp_kind_parts K) := ok_kind_parts T TB c_number_of
  have c_line_parts : Good l.prog w K mg base 3 (some "line_parts") (ga K "line_parts") ["line"] (sp_line_parts K) := ok_line_parts T TB c_arrow_parts c_kind_parts
  have c_read_lines : Good l.prog w K mg base 4 (some "read_lines") (ga K "read_lines") ["text"] (sp_read_lines K) := ok_read_lines T TB c_line_parts
  have c_is_name : Good l.prog w K mg base 1 (some "is_name") (ga K "is_name") ["text"] (sp_is_name K) := ok_is_name T TB
  have c_need_name : Good l.prog w K mg base 3 (some "need_name") (ga K "need_name") ["text"] (sp_need_name K) := ok_need_name T TB c_is_name
  have c_need_range : Good l.prog w K mg base 3 (some "need_range") (ga K "need_range") ["what", "value", "least", "most"] (sp_need_range K) := ok_need_range T TB
  have c_checked_kinds : Good l.prog w K mg base 4 (some "checked_kinds") (ga K "checked_kinds") ["kinds", "branching"] (sp_checked_kinds K) := ok_checked_kinds T TB c_need_name c_need_range
  have c_need_kind : Good l.prog w K mg base 3 (some "need_kind") (ga K "need_kind") ["name", "kind_rows"] (sp_need_kind K) := ok_need_kind T TB
  have c_checked_arrows : Good l.prog w K mg base 4 (some "checked_arrows") (ga K "checked_arrows") ["arrows", "kind_rows"] (sp_checked_arrows K) := ok_checked_arrows T TB c_need_kind c_need_range
  have c_Task_init : GoodD l.prog w K mg base 5 none (ma K (ga K "Task") "__init__") ["self", "name", "kinds", "arrows"] (sp_Task_init K) [.tup []] := ok_Task_init T TB c_need_name c_checked_kinds c_checked_arrows
  have c_read_tasks : Good l.prog w K mg base 7 (some "read_tasks") (ga K "read_tasks") ["text"] (sp_read_tasks K) := ok_read_tasks T TB c_read_lines c_Task_init
  have c_law_fault : GoodX l.prog w K mg base 1 "_law_fault" (ga K "_law_fault") ["_law_e"] (sp_law_fault K) := ok_law_fault T TB
  have c_Task_arrows : Good l.prog w K mg base 1 none (wad K "property" "Task" "arrows") ["self"] (sp_Task_arrows K) := ok_Task_arrows T TB
  have c_Task_kinds : Good l.prog w K mg base 1 none (wad K "property" "Task" "kinds") ["self"] (sp_Task_kinds K) := ok_Task_kinds T TB
  have c_law_told : Good l.prog w K mg base 8 (some "_law_told") (ga K "_law_told") ["_law_text_here"] (sp_law_told K) := ok_law_told T TB c_read_tasks c_law_fault c_Task_arrows c_Task_kinds
  have c_law_number_of : Good l.prog w K mg base 1 (some "_law_number_of") (ga K "_law_number_of") ["_law_word"] (sp_law_number_of K) := ok_law_number_of T TB
  have c_law_parts : Good l.prog w K mg base 2 (some "_law_parts") (ga K "_law_parts") ["_law_line"] (sp_law_parts K) := ok_law_parts T TB c_law_number_of
  have c_law_is_name : Good l.prog w K mg base 1 (some "_law_is_name") (ga K "_law_is_name") ["_law_word"] (sp_law_is_name K) := ok_law_is_name T TB
  have c_law_kind_fault : Good l.prog w K mg base 2 (some "_law_kind_fault") (ga K "_law_kind_fault") ["_law_rows", "_law_limits"] (sp_law_kind_fault K) := ok_law_kind_fault T TB c_law_is_name
  have c_law_arrow_fault : Good l.prog w K mg base 1 (some "_law_arrow_fault") (ga K "_law_arrow_fault") ["_law_ties", "_law_taken"] (sp_law_arrow_fault K) := ok_law_arrow_fault T TB
  have c_law_task_fault : Good l.prog w K mg base 3 (some "_law_task_fault") (ga K "_law_task_fault") ["_law_spec_here"] (sp_law_task_fault K) := ok_law_task_fault T TB c_law_is_name c_law_kind_fault c_law_arrow_fault
  have c_law_due : Good l.prog w K mg base 4 (some "_law_due") (ga K "_law_due") ["_law_text_here"] (sp_law_due K) := ok_law_due T TB c_law_parts c_law_task_fault
  have c_law_sign : Good l.prog w K mg base 2 (some "_law_sign") (ga K "_law_sign") ["_law_pool_here"] (sp_law_sign K) := ok_law_sign T TB c_law_draw
  have c_law_spoil_sign : Good l.prog w K mg base 3 (some "_law_spoil_sign") (ga K "_law_spoil_sign") ["_law_pool_here", "_law_text_here"] (sp_law_spoil_sign K) := ok_law_spoil_sign T TB c_law_draw c_law_sign
  have c_law_spoil_line : Good l.prog w K mg base 2 (some "_law_spoil_line") (ga K "_law_spoil_line") ["_law_pool_here", "_law_text_here"] (sp_law_spoil_line K) := ok_law_spoil_line T TB c_law_draw
  obtain ⟨_, c_law_pool_ok, c_law_pool_b, c_law_pool_kp⟩ := c_law_pool.ex
  have c_law_pool_g := c_law_pool.gl
  obtain ⟨_, c_law_draw_ok, c_law_draw_b, c_law_draw_kp⟩ := c_law_draw.ex
  have c_law_draw_g := c_law_draw.gl
  obtain ⟨_, c_law_text_ok, c_law_text_b, c_law_text_kp⟩ := c_law_text.ex
  have c_law_text_g := c_law_text.gl
  obtain ⟨_, c_law_spec_ok, c_law_spec_b, c_law_spec_kp⟩ := c_law_spec.ex
  have c_law_spec_g := c_law_spec.gl
  obtain ⟨_, c_law_told_ok, c_law_told_b, c_law_told_kp⟩ := c_law_told.ex
  have c_law_told_g := c_law_told.gl
  obtain ⟨_, c_law_due_ok, c_law_due_b, c_law_due_kp⟩ := c_law_due.ex
  have c_law_due_g := c_law_due.gl
  obtain ⟨_, c_law_spoil_sign_ok, c_law_spoil_sign_b, c_law_spoil_sign_kp⟩ := c_law_spoil_sign.ex
  have c_law_spoil_sign_g := c_law_spoil_sign.gl
  obtain ⟨_, c_law_spoil_line_ok, c_law_spoil_line_b, c_law_spoil_line_kp⟩ := c_law_spoil_line.ex
  have c_law_spoil_line_g := c_law_spoil_line.gl
  refine fn_d0 (k := 8) F sc_law (spLaw_len _) (t_law K) (fun cdv A outer s H E hr tk hp => ?_) (fun ds m Q E h => pure_law T ds m Q (fun _ _ => False) h)
  refine dss_cons (ds_set (i := 1) sc_law.nd rfl (Or.inr rfl) (de_call c_law_pool_ok (hr.mono (by decide)) rfl c_law_pool_g c_law_pool_kp c_law_pool_b .nil (fun _ => .nil) tk (da_cons (dv 0) da_nil))) ?_
  refine dss_cons (ds_set (i := 2) sc_law.nd rfl (Or.inl rfl) (de_call c_law_draw_ok (hr.mono (by decide)) rfl c_law_draw_g c_law_draw_kp c_law_draw_b .nil (fun _ => .nil) tk (da_cons (dv 1) (da_cons de_int da_nil)))) ?_
  refine dss_cons (ds_set (i := 3) sc_law.nd rfl (Or.inl rfl) (de_call c_law_text_ok (hr.mono (by decide)) rfl c_law_text_g c_law_text_kp c_law_text_b .nil (fun _ => .nil) tk (da_cons (de_lc false (own := [("_law_k", 4)]) (c := .one 4) (te := dCall (sp_law_spec K) WD0 [] (daCons (dVar 1) daNil)) (tt := dYes) rfl sc_law.nd (by simp [CT.in]) (di_range1 rfl T.b_range (da_cons (de_call c_law_draw_ok (hr.mono (by decide)) rfl c_law_draw_g c_law_draw_kp c_law_draw_b .nil (fun _ => .nil) tk (da_cons (dv 1) (da_cons de_int da_nil))) da_nil)) (blkOk_by (own := [("_law_k", 4)]) (N := nm_law) (sc := defScope s_law) (by decide +kernel)) (fun _ _ _ _ _ => pg_ct1 (i := 4) sc_law.nd rfl (Or.inl rfl)) (fun _ _ _ _ _ => dts_nil) (fun _ _ _ _ _ => de_call c_law_spec_ok (hr.mono (by decide)) rfl c_law_spec_g c_law_spec_kp c_law_spec_b .nil (fun _ => .nil) takes0 (da_cons (dv 1) da_nil))) da_nil))) ?_
  refine dss_cons (ds_if (dt_cmp (op_neA hr.units) od_ne (de_call c_law_told_ok (hr.mono (by decide)) rfl c_law_told_g c_law_told_kp c_law_told_b .nil (fun _ => .nil) tk (da_cons (dv 3) da_nil)) (de_call c_law_due_ok (hr.mono (by decide)) rfl c_law_due_g c_law_due_kp c_law_due_b .nil (fun _ => .nil) tk (da_cons (dv 3) da_nil)) (nomark _)) (dss_one (ds_ret de_bl)) dss_nil) ?_
  refine dss_cons (ds_for hp rfl (di_range1 rfl T.b_range (da_cons (dv 2) da_nil)) (dg_name (i := 4) sc_law.nd rfl (Or.inl rfl)) (dss_one (ds_if (dt_cmp (op_eqA hr.units) od_eq (de_call c_law_draw_ok (hr.mono (by decide)) rfl c_law_draw_g c_law_draw_kp c_law_draw_b .nil (fun _ => .nil) tk (da_cons (dv 1) (da_cons de_int da_nil))) de_int (nomark _)) (dss_one (ds_set (i := 3) sc_law.nd rfl (Or.inl rfl) (de_call c_law_spoil_sign_ok (hr.mono (by decide)) rfl c_law_spoil_sign_g c_law_spoil_sign_kp c_law_spoil_sign_b .nil (fun _ => .nil) tk (da_cons (dv 1) (da_cons (dv 3) da_nil))))) (dss_one (ds_set (i := 3) sc_law.nd rfl (Or.inl rfl) (de_call c_law_spoil_line_ok (hr.mono (by decide)) rfl c_law_spoil_line_g c_law_spoil_line_kp c_law_spoil_line_b .nil (fun _ => .nil) tk (da_cons (dv 1) (da_cons (dv 3) da_nil)))))))) ?_
  refine dss_cons (ds_set (i := 5) sc_law.nd rfl (Or.inl rfl) (de_call c_law_due_ok (hr.mono (by decide)) rfl c_law_due_g c_law_due_kp c_law_due_b .nil (fun _ => .nil) tk (da_cons (dv 3) da_nil))) ?_
  refine dss_cons (ds_set (i := 6) sc_law.nd rfl (Or.inl rfl) (de_call c_law_told_ok (hr.mono (by decide)) rfl c_law_told_g c_law_told_kp c_law_told_b .nil (fun _ => .nil) tk (da_cons (dv 3) da_nil))) ?_
  refine dss_cons (ds_if (dt_w (dw_or (dt_cmp (op_neA hr.units) od_ne (dv 6) (dv 5) (nomark _)) (dw_or1 (dt_w (dw_and (dt_cmp (op_eqA hr.units) od_eq (de_ix (dv 5) de_int) de_str (nomark _)) (dw_and1 (dt_tru (de_callB call_isi cd_isi rfl T.b_isinstance (by decide +kernel) (da_cons (de_ix (dv 6) de_int) (da_cons (de_ty rfl T.b_bool (by decide +kernel)) da_nil)))))))))) (dss_one (ds_ret de_bl)) dss_nil) ?_
  exact dss_one (ds_ret (de_cmp (op_eqA hr.units) od_eq (de_call c_law_told_ok (hr.mono (by decide)) rfl c_law_told_g c_law_told_kp c_law_told_b .nil (fun _ => .nil) tk (da_cons (dv 3) da_nil)) (dv 5) (nomark _)))

end LW

set_option Elab.async false
set_option linter.all false
set_option maxRecDepth 100000
set_option maxHeartbeats 0

open PySem PySem.W PySem.Calls PyProof.Rows in
set_option maxRecDepth 100000 in
set_option maxHeartbeats 0 in
theorem PySem.Challenge.cw_walkdues_k04_lines_spoiled_holds : PySem.Challenge.rw_walkdues_k04_lines_spoiled.Holds := by
  w_on; o_law
  refine LW.hd1 ?hw ?hc
  case hw => w_witness2
  case hc =>
    refine DL.walk_tab (l := PySem.Challenge.rw_walkdues_k04_lines_spoiled) (n := 63) (k := 9) (x := "_law_script") (CX := L2.CX0) rfl (by decide) (by kernel_rfl) ⟨rfl, by decide, by decide⟩ ?F (fun _ _ _ _ z => z)
    intro w mg fa h Y G hmg0
    obtain ⟨K, KX, c, tab⟩ := Y
    have hmg : mg ("law" : PySem.Str) = some (.ref fa) := by
      have e : (HandSHeadRun.topDef (OpenLaw.row PySem.Challenge.rw_walkdues_k04_lines_spoiled).prog 54).name = ("law" : PySem.Str) := by kernel_rfl
      rw [← e]
      exact hmg0
    have T : LW.Txt K mg := ⟨c, h, KX, G⟩
    have e := hmg.symm.trans T.g_law
    cases e
    obtain ⟨fd, F⟩ := T.d_law
    have b := L2.FunD.bindsA (ps := ["_law_script"]) F fun _ _ _ _ _ _ us hl => match us, hl with | [_], _ => rfl
    exact ⟨K, fd, DL.liftSp K DL.spLaw, KX, tab, fun s v => b s [v] rfl, fun H a ns hl hT hS => DL.law_sp H a ns hl hT hS, fun base _ _ TB => LW.law_ok T TB F⟩


