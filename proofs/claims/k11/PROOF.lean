import PyProof.Rows.All
import Wide.All
import OpenK.AllK
import Wide.FinOn
import KE.KStateDown
import HandS.ForMost
import HandS.ForExc
import HandS.Defaults
import HandS.Wide
import HandS.Lambda
import HandS.HeadHook1
import HandS.IsInst
import HandS.Text
import HandS.CallSlots
import HandS.NoneIn
import HandS.RevRange
import HandS.Property
import HandS.Star
import HandS.OwnEq
import HandS.SetFor
import Lean
import HandS.Head2
import HandS.HeadEnd
import HandS.HeadHook2
import HandS.EndTab
import KE.KNestM
import HandS.SortInts
import HandS.ExcInit
import HandS.ExcField
import HandS.TryOnly
import HandS.Small
import HandS.ClsMeth
import HandS.HeadNt
import HandS.Conv
import HandS.FStr
import HandS.Iter
import HandS.MakeKw
import HandS.Style
import HandS.TryMany
import KE.KExcIs
import HandS.ExcIs
import HandS.WideBits
import HandS.List
import PyProof.StrBlock2
import HandS.DictComp
import HandS.WordsDict
import HandS.Finally
import HandS.SortKw
import HandS.ListItems
import KE.DataMinMax
import KE.DataEq
import KE.SortKeyHeap
import HandS.DictTup
import HandS.DeepEq
import HandS.Dict
import HandS.Flow
import HandS.More
import HandS.HotCalls
import KE.KEqNest
import KE.KWithOwn
import HandS.Zip
import HandS.Nested
import KE.DataMinKey
import PyProof.Runs
import HandS.Remove
import KE.LtData
import HandS.ExcValue
import KE.DataFind
import HandS.Deep
import PyProof.RulesMatchSeq
import PyProof.Rows.MatchSeqLen
import KE.KUnpack
import PyProof.InstEq
import HandS.GenList
import HandS.SetBool
import HandS.Strs
import PySem.Challenge.RW_walkdues_k11_intervals_of_a_run
set_option Elab.async false
set_option linter.all false
set_option maxRecDepth 100000
set_option maxHeartbeats 4000000
namespace DL
open PySem PySem.Spec PyProof.Rows L2

inductive D where
  | non
  | bl (b : Bool)
  | int (i : Int)
  | str (x : Str)
  | ty (n : String)
  | ref (a : Addr)
  | lst (xs : List D)
  | rdl (xs : List D)
  | tup (xs : List D)
  | ins (C : Addr) (fs : List (Str × D))
  | exn (a : Addr) (d : Option Addr) (fs : List (Str × D))
  | dki (kvs : List (Key × Int))
  | dti (kvs : List (List Key × Int))
  | obj (a : Addr) (d : D)
  | clo (a c : Addr) (q : Str) (env : List D) (vs : List V)
def iV {κ : Type} (kvs : List (κ × Int)) : List (κ × V) := kvs.map fun p => (p.1, V.int p.2)

def TpK (K : PySem.W.Frag) (G : Hp) (a : Addr) (vs : List V) : Prop := SqT K G a vs ∧ (vs = [] ∨ G a = some (.tup vs))
mutual
inductive Rp (K : PySem.W.Frag) (G : Hp) : D → V → Prop
  | non : Rp K G .non .non
  | bl (b : Bool) : Rp K G (.bl b) (.bl b)
  | int (i : Int) : Rp K G (.int i) (.int i)
  | str (x : Str) : Rp K G (.str x) (.str x)
  | ty (n : String) : Rp K G (.ty n) (.ty n)
  | ref (a : Addr) : Rp K G (.ref a) (.ref a)
  | lst {a : Addr} {vs : List V} {ds : List D} : G a = some (.lst vs) → Rps K G ds vs → Rp K G (.lst ds) (.ref a)
  | rdl {a : Addr} {vs : List V} {ds : List D} : SqL K G a vs → Rps K G ds vs → Rp K G (.rdl ds) (.ref a)
  | tup {a : Addr} {vs : List V} {ds : List D} : TpK K G a vs → Rps K G ds vs → Rp K G (.tup ds) (.ref a)
  | ins {a C dx : Addr} {fv : List (Str × V)} {fs : List (Str × D)} : G a = some (.ins C dx fv) → Rpf K G fs fv → Rp K G (.ins C fs) (.ref a)
  | exn0 (a : Addr) : Rp K G (.exn a none []) (.ref a)
  | exnS {a d : Addr} {fv : List (Str × V)} {fs : List (Str × D)} : G d = some (.xd fv) → Rpf K G fs fv → Rp K G (.exn a (some d) fs) (.ref a)
  | dki {a : Addr} {o : Obj} {kvs : List (Key × Int)} : G a = some (.frz o (.dK (iV kvs))) → Rp K G (.dki kvs) (.ref a)
  | dti {a : Addr} {o : Obj} {kvs : List (List Key × Int)} : G a = some (.frz o (.dT (iV kvs))) → Rp K G (.dti kvs) (.ref a)
  | obj {a : Addr} {d : D} : Rp K G d (.ref a) → Rp K G (.obj a d) (.ref a)
  | clo {a c : Addr} {q : Str} {env : List D} {vs : List V} : G c = some (LamX.CodeO c q) → Rps K G env vs → Rp K G (.clo a c q env vs) (.ref a)
inductive Rps (K : PySem.W.Frag) (G : Hp) : List D → List V → Prop
  | nil : Rps K G [] []
  | cons {d : D} {ds : List D} {v : V} {vs : List V} : Rp K G d v → Rps K G ds vs → Rps K G (d :: ds) (v :: vs)
inductive Rpf (K : PySem.W.Frag) (G : Hp) : List (Str × D) → List (Str × V) → Prop
  | nil : Rpf K G [] []
  | cons {n : Str} {d : D} {ds : List (Str × D)} {v : V} {vs : List (Str × V)} : Rp K G d v → Rpf K G ds vs → Rpf K G ((n, d) :: ds) ((n, v) :: vs)
end

theorem same_sqt {K : PySem.W.Frag} {H H' : Hp} {a : Addr} {xs : List V} (e : Same H H') (h : SqT K H a xs) : SqT K H' a xs := by
  rcases h with (h | ⟨o, h⟩) | h
  · exact .inl (.inl (e _ _ h))
  · exact .inl (.inr ⟨o, e _ _ h⟩)
  · exact .inr h
theorem same_tpk {K : PySem.W.Frag} {H H' : Hp} {a : Addr} {xs : List V} (e : Same H H') (h : TpK K H a xs) : TpK K H' a xs := ⟨same_sqt e h.1, h.2.imp _root_.id fun z => e _ _ z⟩
theorem TpK.of {K : PySem.W.Frag} {H : Hp} {a : Addr} {xs : List V} (h : H a = some (.tup xs)) : TpK K H a xs := ⟨SqT.of h, .inr h⟩
instance {K : PySem.W.Frag} {H : Hp} {a : Addr} {xs : List V} : CoeOut (TpK K H a xs) (SqT K H a xs) := ⟨And.left⟩
section
variable {K : PySem.W.Frag} {G G' : Hp}
mutual
theorem Rp.mono (e : Same G G') : ∀ {d : D} {v : V}, Rp K G d v → Rp K G' d v
  | _, _, .non => .non
  | _, _, .bl b => .bl b
  | _, _, .int i => .int i
  | _, _, .str x => .str x
  | _, _, .ty n => .ty n
  | _, _, .ref a => .ref a
  | _, _, .lst h r => .lst (e _ _ h) (Rps.mono e r)
  | _, _, .rdl h r => .rdl (e.seq h) (Rps.mono e r)
  | _, _, .tup h r => .tup (same_tpk e h) (Rps.mono e r)
  | _, _, .ins h r => .ins (e _ _ h) (Rpf.mono e r)
  | _, _, .exn0 a => .exn0 a
  | _, _, .exnS h r => .exnS (e _ _ h) (Rpf.mono e r)
  | _, _, .dki h => .dki (e _ _ h)
  | _, _, .dti h => .dti (e _ _ h)
  | _, _, .obj h => .obj (Rp.mono e h)
  | _, _, .clo hc h => .clo (e _ _ hc) (Rps.mono e h)
theorem Rps.mono (e : Same G G') : ∀ {ds : List D} {vs : List V}, Rps K G ds vs → Rps K G' ds vs
  | _, _, .nil => .nil
  | _, _, .cons r t => .cons (Rp.mono e r) (Rps.mono e t)
theorem Rpf.mono (e : Same G G') : ∀ {ds : List (Str × D)} {vs : List (Str × V)}, Rpf K G ds vs → Rpf K G' ds vs
  | _, _, .nil => .nil
  | _, _, .cons r t => .cons (Rp.mono e r) (Rpf.mono e t)
end
theorem Rps.length : ∀ {ds : List D} {vs : List V}, Rps K G ds vs → ds.length = vs.length
  | _, _, .nil => rfl
  | _, _, .cons _ t => congrArg Nat.succ (Rps.length t)
theorem Rps.append : ∀ {ds es : List D} {vs us : List V}, Rps K G ds vs → Rps K G es us → Rps K G (ds ++ es) (vs ++ us)
  | _, _, _, _, .nil, s => s
  | _, _, _, _, .cons r t, s => .cons r (Rps.append t s)
theorem Rps.get : ∀ {ds : List D} {vs : List V} {i : Nat} {d : D}, Rps K G ds vs → ds[i]? = some d → ∃ v, vs[i]? = some v ∧ Rp K G d v
  | _, _, _, _, .nil, e => by simp at e
  | _, _, 0, _, .cons r _, e => by simp at e; subst e; exact ⟨_, rfl, r⟩
  | _, _, i + 1, d, .cons _ t, e => by
    obtain ⟨u, h1, h2⟩ := Rps.get (i := i) (d := d) t (by simpa using e)
    exact ⟨u, by simpa using h1, h2⟩
theorem Rps.reverse : ∀ {ds : List D} {vs : List V}, Rps K G ds vs → Rps K G ds.reverse vs.reverse
  | _, _, .nil => .nil
  | _, _, .cons r t => by
    rw [List.reverse_cons, List.reverse_cons]
    exact (Rps.reverse t).append (.cons r .nil)
theorem Rpf.lookup : ∀ {fs : List (Str × D)} {fv : List (Str × V)} {x : Str} {d : D}, Rpf K G fs fv → fs.lookup x = some d → ∃ v, fv.lookup x = some v ∧ Rp K G d v
  | _, _, _, _, .nil, e => by simp at e
  | _, _, x, d, .cons (n := n) r t, e => by
    rw [List.lookup_cons] at e
    cases q : (x == n) with
    | true =>
      rw [q] at e
      cases e
      exact ⟨_, by rw [List.lookup_cons, q], r⟩
    | false =>
      rw [q] at e
      obtain ⟨v, h1, h2⟩ := Rpf.lookup t e
      exact ⟨v, by rw [List.lookup_cons, q]; exact h1, h2⟩
theorem Rpf.length : ∀ {fs : List (Str × D)} {fv : List (Str × V)}, Rpf K G fs fv → fs.length = fv.length
  | _, _, .nil => rfl
  | _, _, .cons _ t => congrArg Nat.succ (Rpf.length t)
end
inductive MO where
  | lst (xs : List D)
  | dK (kvs : List (Key × D))
  | dT (kvs : List (List Key × D))
  | ins (C : Addr) (fs : List (Str × D))
  | fn (ob : Obj)
inductive Rpk {κ : Type} (K : PySem.W.Frag) (G : Hp) : List (κ × D) → List (κ × V) → Prop
  | nil : Rpk K G [] []
  | cons {k : κ} {d : D} {ds : List (κ × D)} {v : V} {vs : List (κ × V)} : Rp K G d v → Rpk K G ds vs → Rpk K G ((k, d) :: ds) ((k, v) :: vs)
theorem Rpk.mono {κ : Type} {K : PySem.W.Frag} {G G' : Hp} (e : Same G G') : ∀ {ds : List (κ × D)} {vs : List (κ × V)}, Rpk K G ds vs → Rpk K G' ds vs
  | _, _, .nil => .nil
  | _, _, .cons r t => .cons (r.mono e) (Rpk.mono e t)
def RpM (K : PySem.W.Frag) (G : Hp) : MO → HO → Prop
  | .lst ds, .lst vs => Rps K G ds vs
  | .dK ds, .dK vs => Rpk K G ds vs
  | .dT ds, .dT vs => Rpk K G ds vs
  | .ins C fs, .ins C' _ fv => C = C' ∧ Rpf K G fs fv
  | .fn ob, .frz ob' u => ob = ob' ∧ u = .ext fun _ => True
  | _, _ => False
theorem RpM.mono {K : PySem.W.Frag} {G G' : Hp} (e : Same G G') {m : MO} {o : HO} (h : RpM K G m o) : RpM K G' m o := by
  cases m with
  | lst ds => cases o with
    | lst vs => exact Rps.mono e h
    | _ => exact h.elim
  | dK ds => cases o with
    | dK vs => exact Rpk.mono e h
    | _ => exact h.elim
  | dT ds => cases o with
    | dT vs => exact Rpk.mono e h
    | _ => exact h.elim
  | ins C fs => cases o with
    | ins C' dx fv => exact ⟨h.1, h.2.mono e⟩
    | _ => exact h.elim
  | fn ob => cases o with
    | frz ob' u => exact h
    | _ => exact h.elim
abbrev M := Addr → Option MO
def lamDefs : List (Option Str × Str) := [(none, "simple_cycles"), (some "Run", "__init__"), (none, "run_by"), (none, "calendar_slices"), (none, "_law_jobs"), (none, "_law_excess"), (none, "_law_refusal"), (none, "_law_key"), (none, "_law_scheduled"), (none, "_law_bad_speed"), (none, "law")]
def lamAd (K : PySem.W.Frag) (d : Option Str × Str) : Addr := match d.1 with
  | none => He.ga K d.2
  | some C => He.ma K (He.ga K C) d.2
def lamQ (d : Option Str × Str) : Str := match d.1 with
  | none => d.2
  | some C => C ++ "." ++ d.2
def nmIn : List Stmt → Str
  | [] => "<lambda>"
  | .FunctionDef n _ _ _ _ _ _ _ _ _ :: _ => n
  | _ :: r => nmIn r
def innerAt (K : PySem.W.Frag) (f : Addr) : Str := match K.lookup f with
  | some ⟨_, _, .func u, _⟩ => (match u.body with
    | .stmts b => nmIn b
    | _ => "<lambda>")
  | _ => "<lambda>"
def tabAt (K : PySem.W.Frag) (f : Addr) (q : Str) : Option (Addr × Addr) := match K.lookup f with
  | some ⟨_, _, .func u, _⟩ => if u.qualname = q then (match u.code with
    | .ref c => (match K.lookup c with
      | some ⟨_, _, .fields vs, _⟩ => (match (vs[11]? : Option Value) with
        | some (.ref P) => some (c, P)
        | _ => none)
      | _ => none)
    | _ => none) else none
  | _ => none
def tbls3 (K : PySem.W.Frag) : List (Addr × Addr × Str) := lamDefs.filterMap fun d => (tabAt K (lamAd K d) (lamQ d)).map fun x => (x.1, x.2, lamQ d ++ ".<locals>." ++ innerAt K (lamAd K d))
def tblsOf (K : PySem.W.Frag) : List (Addr × Str) := (tbls3 K).map fun x => (x.2.1, x.2.2)
def ntb (o : HO) : Prop := ∀ ps, o ≠ .tbl ps
def notT (o : HO) : Prop := (∀ ps, o ≠ .tbl ps) ∧ (∀ xs, o ≠ .tup xs) ∧ ∀ φ, o ≠ .ext φ
structure Rep (K : PySem.W.Frag) (G H F : Hp) (m : M) : Prop where
  ext : Same G H
  frm : Same F H
  dis : ∀ a o, F a = some o → G a = none
  mo : ∀ a o, m a = some o → G a = none ∧ F a = none ∧ ∃ u, H a = some u ∧ RpM K G o u
  tb : LamX.Tabs (tblsOf K) H
  gt : ∀ a o, G a = some o → ntb o
  ft : ∀ a o, F a = some o → notT o
section
variable {K : PySem.W.Frag} {G H F : Hp} {m : M} {p a : Addr} {o : HO} {u : MO}
theorem Rep.free (r : Rep K G H F m) (h : H p = none) : G p = none := r.ext.free h
end

section
variable {K : PySem.W.Frag} {G H F : Hp} {m : M} {p : Addr} {o u : HO}
theorem Rep.show (r : Rep K G H (upd F p o) m) (hF : F p = none) : Rep K G H F m := by
  refine ⟨r.ext, fun b v e => ?_, fun b v e => ?_, fun b v e => ?_, r.tb, r.gt, fun b v e => r.ft b v (by rw [upd_ne (fun q => by rw [q, hF] at e; cases e)]; exact e)⟩
  · exact r.frm b v (by rw [upd_ne (fun q => by rw [q, hF] at e; cases e)]; exact e)
  · exact r.dis b v (by rw [upd_ne (fun q => by rw [q, hF] at e; cases e)]; exact e)
  · obtain ⟨h1, h2, w, h3, h4⟩ := r.mo b v e
    have hb : b ≠ p := fun q => by rw [q, upd_same] at h2; cases h2
    rw [upd_ne hb] at h2
    exact ⟨h1, h2, w, h3, h4⟩
end

abbrev DSt := List (Option D)
structure Rs (K : PySem.W.Frag) (G : Hp) (r : DSt) (s : L2.St) : Prop where
  len : r.length = s.length
  at_ : ∀ (i : Nat) (d : D), r[i]? = some (some d) → ∃ v, s[i]? = some (some v) ∧ Rp K G d v
section
variable {K : PySem.W.Frag} {G G' : Hp} {r : DSt} {s : L2.St}
theorem Rs.mono (e : Same G G') (h : Rs K G r s) : Rs K G' r s := ⟨h.len, fun i d q => by
  obtain ⟨v, h1, h2⟩ := h.at_ i d q
  exact ⟨v, h1, h2.mono e⟩⟩
end
end DL

namespace DL
open PySem PySem.Spec PyProof.Rows L2

abbrev DTE := DSt → M → (D → M → Prop) → Prop
abbrev DTT := DSt → M → (Bool → M → Prop) → Prop
abbrev DTA := DSt → M → (List D → M → Prop) → Prop
structure XD where
  C : Addr
  fs : List (Str × D)
abbrev DWX := XD → DSt → M → Prop
def RpX (K : PySem.W.Frag) (G : Hp) (d : Option Addr) (fs : List (Str × D)) : Prop := (d = none ∧ fs = []) ∨ ∃ dd fv, d = some dd ∧ G dd = some (.xd fv) ∧ Rpf K G fs fv
theorem RpX.mono {K : PySem.W.Frag} {G G' : Hp} {d : Option Addr} {fs : List (Str × D)} (e : Same G G') (h : RpX K G d fs) : RpX K G' d fs := by
  rcases h with h | ⟨dd, fv, h1, h2, h3⟩
  · exact .inl h
  · exact .inr ⟨dd, fv, h1, e _ _ h2, h3.mono e⟩
def Lx (K : PySem.W.Frag) (W : WX) (WD : DWX) (G F : Hp) : Prop :=
  ∀ (G' H' : Hp) (m' : M) (r' : DSt) (s' : L2.St) (C : Addr) (fs : List (Str × D)) (d : Option Addr), Same G G' → Rep K G' H' F m' → Rs K G' r' s' → RpX K G' d fs → WD ⟨C, fs⟩ r' m' → W (.ref C) d s' H'
theorem Lx.mono {K : PySem.W.Frag} {W : WX} {WD : DWX} {G G' F : Hp} (e : Same G G') (h : Lx K W WD G F) : Lx K W WD G' F := fun G2 H2 m2 r2 s2 C fs d e2 => h G2 H2 m2 r2 s2 C fs d (e.trans e2)
def Kv (K : PySem.W.Frag) (G F : Hp) (QD : D → M → Prop) (Q : VK) : Prop := ∀ (G' H' : Hp) (m' : M) (d : D) (v : V), Same G G' → Rep K G' H' F m' → Rp K G' d v → QD d m' → Q v H'
theorem Kv.mono {K : PySem.W.Frag} {G G' F : Hp} {QD : D → M → Prop} {Q : VK} (e : Same G G') (h : Kv K G F QD Q) : Kv K G' F QD Q := fun G2 H2 m2 d v e2 => h G2 H2 m2 d v (e.trans e2)
structure Sx (K : PySem.W.Frag) (W : WX) (WD : DWX) (G H F : Hp) (r : DSt) (s : L2.St) (m : M) : Prop where
  rep : Rep K G H F m
  rs : Rs K G r s
  lx : Lx K W WD G F
section
variable {X : Cx} {e : Expr}
theorem PE.imp {t t' : TE} (h : PE X e t) (i : ∀ σ H Q, t' σ H Q → t σ H Q) : PE X e t' := ⟨fun pins s σ H Q I q => h.run pins s σ H Q I (i σ H Q q)⟩
theorem PT.imp {t t' : TT} (h : PT X e t) (i : ∀ σ H Q, t' σ H Q → t σ H Q) : PT X e t' := ⟨fun pins s σ H Q I q => h.run pins s σ H Q I (i σ H Q q)⟩
theorem PW.imp {t t' : TT} (h : PW X e t) (i : ∀ σ H Q, t' σ H Q → t σ H Q) : PW X e t' := ⟨fun wh pins s σ H Q I q => h.run wh pins s σ H Q I (i σ H Q q)⟩
theorem PA.imp {es : List Expr} {t t' : TA} (h : PA X es t) (i : ∀ σ H Q, t' σ H Q → t σ H Q) : PA X es t' := ⟨fun pos pins s σ H Q I q => h.run pos pins s σ H Q I (i σ H Q q)⟩
theorem PO.imp {e : Option Expr} {t t' : TO} (h : PO X e t) (i : ∀ σ H Q, t' σ H Q → t σ H Q) : PO X e t' := ⟨fun pins s σ H Q I q => h.run pins s σ H Q I (i σ H Q q)⟩
end

end DL

namespace DL
open PySem PySem.Spec PyProof.Rows L2

abbrev DRC := List D → M → (D → M → Prop) → Prop
end DL

namespace DL
open PySem PySem.Spec PyProof.Rows L2

structure DEnds where
  nx : DSt → M → Prop
  rt : D → M → Prop
  bk : DSt → M → Prop := fun _ _ => False
  ct : DSt → M → Prop := fun _ _ => False
abbrev DTS := DEnds → DSt → M → Prop
def Ks (K : PySem.W.Frag) (G F : Hp) (QD : DSt → M → Prop) (Q : L2.St → Hp → Prop) : Prop := ∀ (G' H' : Hp) (m' : M) (r' : DSt) (s' : L2.St), Same G G' → Rep K G' H' F m' → Rs K G' r' s' → QD r' m' → Q s' H'
theorem Ks.mono {K : PySem.W.Frag} {G G' F : Hp} {QD : DSt → M → Prop} {Q : L2.St → Hp → Prop} (e : Same G G') (h : Ks K G F QD Q) : Ks K G' F QD Q := fun G2 H2 m2 r2 s2 e2 => h G2 H2 m2 r2 s2 (e.trans e2)
structure Lk (K : PySem.W.Frag) (G F : Hp) (DD : DEnds) (E : Ends) : Prop where
  nx : Ks K G F DD.nx E.nx
  rt : Kv K G F DD.rt E.rt
  bk : Ks K G F DD.bk E.bk
  ct : Ks K G F DD.ct E.ct
theorem Lk.mono {K : PySem.W.Frag} {G G' F : Hp} {DD : DEnds} {E : Ends} (e : Same G G') (h : Lk K G F DD E) : Lk K G' F DD E := ⟨h.nx.mono e, h.rt.mono e, h.bk.mono e, h.ct.mono e⟩
theorem PS.imp {X : Cx} {st : Stmt} {t t' : TS} (h : PS X st t) (i : ∀ E σ H, t' E σ H → t E σ H) : PS X st t' := ⟨fun pins s σ H D I q => h.run pins s σ H D I (i D σ H q)⟩
theorem PSs.imp {X : Cx} {st : List Stmt} {t t' : TS} (h : PSs X st t) (i : ∀ E σ H, t' E σ H → t E σ H) : PSs X st t' := ⟨fun pins s σ H D I q => h.run pins s σ H D I (i D σ H q)⟩
theorem Sx.to {K : PySem.W.Frag} {W : WX} {WD : DWX} {G G' H H' F : Hp} {r r' : DSt} {s s' : L2.St} {m m' : M} (x : Sx K W WD G H F r s m) (e : Same G G') (h : Rep K G' H' F m') (q : Rs K G' r' s') : Sx K W WD G' H' F r' s' m' := ⟨h, q, x.lx.mono e⟩
abbrev DTG := D → DSt → M → (DSt → M → Prop) → Prop
theorem PG.imp {X : Cx} {tg : Expr} {t t' : TG} (h : PG X tg t) (i : ∀ v σ H Q, t' v σ H Q → t v σ H Q) : PG X tg t' := ⟨fun pins s σ H v u Q I r q => h.run pins s σ H v u Q I r (i v σ H Q q)⟩
theorem PGs.imp {X : Cx} {tg : List Expr} {t t' : TGs} (h : PGs X tg t) (i : ∀ v σ H Q, t' v σ H Q → t v σ H Q) : PGs X tg t' := ⟨fun pins s σ H v u Q I r q => h.run pins s σ H v u Q I r (i v σ H Q q)⟩
end DL

namespace DL
open PySem PySem.Spec PyProof.Rows L2

abbrev DTI := DSt → M → (List D → M → Prop) → Prop
theorem PI.imp {X : Cx} {tg iter : Expr} {t t' : TI} (h : PI X tg iter t) (i : ∀ σ H R, t' σ H R → t σ H R) : PI X tg iter t' := ⟨fun pins s σ H R I q => h.run pins s σ H R I (i σ H R q)⟩
inductive CT where
  | one (i : Nat)
  | tup (js : List Nat)
def CT.in (vs : List Nat) : CT → Prop
  | .one i => i ∈ vs
  | .tup js => ∀ j ∈ js, j ∈ vs
section
variable {X : Cx} {W : WX} {WD : DWX}
theorem PTs.imp {ifs : List Expr} {t t' : TT} (h : PTs X ifs t) (i : ∀ σ H Q, t' σ H Q → t σ H Q) : PTs X ifs t' := ⟨fun pins s σ H Q I q => h.run pins s σ H Q I (i σ H Q q)⟩
end
end DL

namespace DL
open PySem PySem.Spec PyProof.Rows L2

abbrev DSp := List D → M → (D → M → Prop) → (XD → M → Prop) → Prop
end DL

namespace DL
open PySem PySem.Spec PyProof.Rows L2

abbrev DRM := D → List D → M → (D → M → Prop) → Prop
end DL

namespace DL
open PySem PySem.Spec PyProof.Rows L2
open He (ga ma eqO eqO_ok ba)

abbrev Fr0 := PySem.W.Frag
structure DefA where
  ad : Fr0 → Addr
  name : Str
  qual : Str
  params : Arguments
  body : List Stmt
  scope : Scope
  dfl : List He.Dv := []
  kwd : List (Str × He.Dv) := []
def fnAt (K : Fr0) (a : Addr) : He.FnW := match K.lookup a with
  | some ⟨_, _, .func u, _⟩ => some (u.name, u.qualname, u.params, u.body, u.scope, u.globals, u.closure, u.builtins)
  | _ => none
def DefA.told (d : DefA) : He.FnW := some (d.name, d.qual, d.params, .stmts d.body, d.scope, mainGlobals, [], builtinsNs)
def DefA.vs (K : Fr0) (d : DefA) : List V := d.dfl.map (He.Dv.v K)
def DefA.ks (K : Fr0) (d : DefA) : List (Str × V) := d.kwd.map fun z => (z.1, z.2.v K)
def DefA.good (K : Fr0) (d : DefA) : Bool := PySem.W.keepIn K (.ref (d.ad K)) && (match K.lookup (d.ad K) with
  | some ⟨_, _, .func u, _⟩ => PySem.W.codeIn K u.code d.qual && (He.dflB K u.defaults (d.vs K) && He.kwdB K u.kwdefaults (d.ks K))
  | _ => false)
abbrev AlA : Type := Bool × List He.FnW
def obsA (fa : List (Fr0 → Bool)) (fn : List DefA) (K : Fr0) : AlA := (fa.all (fun f => f K) && fn.all (fun d => d.good K), fn.map fun d => fnAt K (d.ad K))
def valA (fn : List DefA) : AlA := (true, fn.map DefA.told)
def Says (fa : List (Fr0 → Bool)) (fn : List DefA) (K : Fr0) : Prop := obsA fa fn K = valA fn
def isTab (o : Obj) : Bool := match o with
  | ⟨.none, _, .fields vs, _⟩ => vs.isEmpty
  | _ => false
def frT (g : Addr → Option Obj) (as : List Addr) : Fr0 := (He.frG g as).filter fun p => !isTab p.2
theorem frG_mem {g : Addr → Option Obj} {as : List Addr} {p : Addr × Obj} (h : p ∈ He.frG g as) : g p.1 = some p.2 := by
  unfold He.frG at h
  obtain ⟨a, _, e⟩ := List.mem_filterMap.mp h
  cases q : g a with
  | none => rw [q] at e; cases e
  | some o => rw [q] at e; cases e; exact q
theorem frT_in {as : List Addr} {h : Heap} : (frT h.get? as).In h := fun a o e => by
  have m : (a, o) ∈ frT h.get? as := PySem.W.mem_of_lookupK e
  exact frG_mem (List.mem_filter.mp m).1
def emptyTab (o : Option Obj) : Bool := match o with
  | some ⟨.none, none, .fields vs, sl⟩ => vs.isEmpty && sl.isEmpty
  | _ => false
def tabsB (g : Addr → Option Obj) (K : Fr0) : Bool := (tbls3 K).all fun x => emptyTab (g x.2.1) && ((K.lookup x.2.1).isNone && (PySem.W.codeHdIn K x.1 x.2.1 && (tbls3 K).all fun y => !(x.2.1 == y.2.1) || decide (x.2.2 = y.2.2)))
structure TabAt (K : Fr0) (h : Heap) : Prop where
  emp : ∀ x ∈ tbls3 K, h.get? x.2.1 = some { cls := .none, data := .fields #[] }
  out : ∀ x ∈ tbls3 K, K.lookup x.2.1 = none
  hd : ∀ x ∈ tbls3 K, PySem.W.CodeHd h x.1 x.2.1
  one : ∀ x ∈ tbls3 K, ∀ y ∈ tbls3 K, x.2.1 = y.2.1 → x.2.2 = y.2.2
theorem tabsB_ok {K : Fr0} {h : Heap} (X : K.In h) (e : tabsB h.get? K = true) : TabAt K h := by
  have all := List.all_eq_true.mp e
  refine ⟨fun x hx => ?_, fun x hx => ?_, fun x hx => ?_, fun x hx y hy => ?_⟩
  · have e1 := (ba (all x hx)).1
    unfold emptyTab at e1
    split at e1
    · rename_i vs sl hq
      obtain ⟨e2, e3⟩ := ba e1
      rw [hq]
      have h1 : vs = #[] := Array.isEmpty_iff.mp e2
      have h2 : sl = #[] := Array.isEmpty_iff.mp e3
      subst h1; subst h2
      rfl
    · cases e1
  · exact Option.isNone_iff_eq_none.mp (ba (ba (all x hx)).2).1
  · exact PySem.W.codeHd_of_K X (ba (ba (ba (all x hx)).2).2).1
  · intro q
    have e1 := List.all_eq_true.mp (ba (ba (ba (all x hx)).2).2).2 y hy
    rw [Bool.or_eq_true, Bool.not_eq_true'] at e1
    rcases e1 with e1 | e1
    · rw [beq_eq_false_iff_ne] at e1
      exact absurd q e1
    · exact of_decide_eq_true e1
theorem TabAt.keeps {K : Fr0} {h h' : Heap} (t : TabAt K h) (k : ∀ b o, h.get? b = some o → h'.get? b = some o) : TabAt K h' := ⟨fun x hx => k _ _ (t.emp x hx), t.out, fun x hx => (t.hd x hx).keeps k, t.one⟩
def pad (K : Fr0) (C f : Str) : Addr := ma K (ga K C) f
def wad (K : Fr0) (T : String) (C f : Str) : Addr := match PySem.W.recIn K (pad K C f) T with
  | some (.ref g :: _) => g
  | _ => 0
def propB (C f : Str) (K : Fr0) : Bool := eqO (PySem.W.findIn K (.ref (ga K C)) f) (some (some (.ref (pad K C f)))) && (eqO (PySem.W.specialIn K (.ref (pad K C f)) "__get__") (some (some (.builtin "property.__get__"))) &&
  (decide (PySem.W.takesIn K (.ref (pad K C f)) = some true) && (match PySem.W.recIn K (pad K C f) "property" with
  | some (.ref _ :: _) => true
  | _ => false)))
end DL

namespace DL
open PySem PySem.Spec PyProof.Rows L2
open He (ga ma eqO eqO_ok ba)
def spX (C : Addr) (fs : List Str) : Sp := fun vs H Q _ => ∃ (a : Addr) (ws : List V), vs = .ref a :: ws ∧ ws.length = fs.length ∧ H a = some (exo a C none) ∧
  ∀ dx, H dx = none → dx ≠ a → Q .non (upd (upd H dx (exd dx (fs.zip ws).reverse)) a (exo a C (some dx)))
section
variable {X : Cx} {W : WX} {WD : DWX} {x n : Str} {c : Addr} {i : Nat} {body suite : List Stmt} {b₀ : Stmt} {np pos pos' : Pos} {tb : DWX → DTS}
abbrev DTX := Addr → Addr → Option Addr → DTS
end
def oexIn (K : PySem.W.Frag) (C : Addr) : Bool := match K.lookup C with
  | some ⟨.type "type", _, .cls cd, sl⟩ => (match cd.mro, sl.toList with
    | .ref C' :: bm, [_, _, _, _, some (.builtin n), _] => C' == C && (n == "ValueError.__new__" && (!cd.hasDel && (cd.hasDict && PySem.HandSPX.refsVE bm)))
    | _, _ => false)
  | _ => false
def oexB (C : Str) (K : Fr0) : Bool := oexIn K (ga K C) && (eqO (PySem.W.findIn K (.ref (ga K C)) "__setattr__") (some (some (.builtin "object.__setattr__"))) && (PySem.W.keepIn K (.ref (ga K C)) && (decide (PySem.W.subIn K (.ref (ga K C)) (.type "BaseException") = some true) && (decide (PySem.W.typeIn K (.ref (ga K C)) = some (.type "type")) &&
  (eqO (PySem.W.findIn K (.ref (ga K C)) "__init__") (some (some (.ref (pad K C "__init__")))) && decide (PySem.W.typeIn K (.ref (pad K C "__init__")) = some (.type "function")))))))
def nofB (C f : Str) (K : Fr0) : Bool := decide (PySem.W.findIn K (.ref (ga K C)) f = some none)
def exmB (C c : Str) (b : Bool) (K : Fr0) : Bool := decide (PySem.W.exmOne K (.ref (ga K C)) (.ref (ga K c)) = some b)
def xfcB (C : Str) (K : Fr0) : Bool := xfB K (ga K C)
end DL

namespace DL
open PySem PySem.Spec PyProof.Rows L2
open He (ga ma eqO eqO_ok ba)
abbrev DTR := DSt → M → (Int → Int → M → Prop) → Prop
theorem PRg.imp {X : Cx} {e : Expr} {t t' : L2.St → Hp → (Int → Int → Hp → Prop) → Prop} (h : PRg X e t) (i : ∀ σ H R, t' σ H R → t σ H R) : PRg X e t' := fun pins s σ H R I q => h pins s σ H R I (i σ H R q)
end DL

namespace DL
open PySem PySem.Spec PyProof.Rows L2
open He (ga ma eqO eqO_ok ba)
section
variable {X : Cx} {W : WX} {WD : DWX} {k n : Nat} {f : Addr} {fd : FuncData} {ps ks : List Str} {sp : DSp} {x : Str} {p pos kpos : Pos} {e : Expr} {es : List Expr} {kws : List Keyword} {t tk : DTA} {te : DTE} {nm : Option Str} {g : List Value → List Value → List Value} {gV : List V → List V → List V}
theorem PK.imp {t t' : TA} (h : PK X kws t) (i : ∀ σ H Q, t' σ H Q → t σ H Q) : PK X kws t' := ⟨fun pos pins s σ H Q I q => h.run pos pins s σ H Q I (i σ H Q q)⟩
end
def tup0B (ad : Fr0 → Addr) (K : Fr0) : Bool := match K.lookup (ad K) with
  | some ⟨.type "tuple", _, .seq its _, _⟩ => its.size == 0
  | _ => false
end DL

namespace DL
open PySem PySem.Spec PyProof.Rows L2
open He (ga ma eqO eqO_ok ba)
def dflA (f : Fr0 → Addr) (i : Nat) (K : Fr0) : Addr := match K.lookup (f K) with
  | some ⟨_, _, .func fd, _⟩ => (match fd.defaults with
    | .ref T => (match K.lookup T with
      | some ⟨_, _, .seq its _, _⟩ => (match its.toList[i]? with
        | some (.ref a) => a
        | _ => 0)
      | _ => 0)
    | _ => 0)
  | _ => 0
end DL

namespace DL
open PySem PySem.Spec PyProof.Rows L2
abbrev Cls1 := Value × Option Nat × (Addr → Value → Option Addr → TS)
abbrev DCls := Value × Option Nat × DTX
end DL

namespace DL
open PySem PySem.Spec PyProof.Rows L2
def MSub (a b : M) : Prop := ∀ x o, a x = some o → b x = some o
theorem MSub.trans {a b c : M} (h : MSub a b) (k : MSub b c) : MSub a c := fun x o e => k x o (h x o e)
section
variable {κ : Type} [DecidableEq κ]
def valD (kvs : List (κ × D)) (k : κ) : Option D := (kvs.find? fun kv => decide (kv.1 = k)).map (·.2)
variable {K : PySem.W.Frag} {G : Hp}
theorem Rpk.length : ∀ {ds : List (κ × D)} {vs : List (κ × V)}, Rpk K G ds vs → ds.length = vs.length
  | _, _, .nil => rfl
  | _, _, .cons _ t => congrArg Nat.succ (Rpk.length t)
theorem Rpk.rep (k : κ) {d : D} {v : V} (q : Rp K G d v) : ∀ {ds : List (κ × D)} {vs : List (κ × V)}, Rpk K G ds vs → Rpk K G (ds.map fun kv => if kv.1 = k then (kv.1, d) else kv) (vs.map fun kv => if kv.1 = k then (kv.1, v) else kv)
  | _, _, .nil => .nil
  | _, _, .cons (k := j) r t => by
    rw [List.map_cons, List.map_cons]
    by_cases e : j = k
    · rw [if_pos e, if_pos e]
      exact .cons q (Rpk.rep k q t)
    · rw [if_neg e, if_neg e]
      exact .cons r (Rpk.rep k q t)
theorem Rpk.val (k : κ) : ∀ {ds : List (κ × D)} {vs : List (κ × V)}, Rpk K G ds vs → (valD ds k = none ∧ valV vs k = none) ∨ ∃ d v, valD ds k = some d ∧ valV vs k = some v ∧ Rp K G d v
  | _, _, .nil => .inl ⟨rfl, rfl⟩
  | _, _, .cons (k := j) (d := d) (v := v) r t => by
    by_cases e : j = k
    · refine .inr ⟨d, v, ?_, ?_, r⟩
      · simp [valD, e]
      · simp [valV, e]
    · rcases Rpk.val k t with ⟨h1, h2⟩ | ⟨d', v', h1, h2, h3⟩
      · refine .inl ⟨?_, ?_⟩
        · simp only [valD, List.find?_cons, decide_eq_false e]; exact h1
        · simp only [valV, List.find?_cons, decide_eq_false e]; exact h2
      · refine .inr ⟨d', v', ?_, ?_, h3⟩
        · simp only [valD, List.find?_cons, decide_eq_false e]; exact h1
        · simp only [valV, List.find?_cons, decide_eq_false e]; exact h2
end
end DL

namespace DL
open PySem PySem.Spec PySem.W PyProof.Rows L2 LamX
def lamBN (i : Nat) (n : Str) (K : Fr0) : Bool := match lamDefs[i]? with
  | some d => (tabAt K (lamAd K d) (lamQ d)).isSome && decide (innerAt K (lamAd K d) = n)
  | none => false
abbrev lamB (i : Nat) (K : Fr0) : Bool := lamBN i "<lambda>" K
end DL

namespace DL
open PySem PySem.Spec PyProof.Rows L2
open He (ga ma eqO eqO_ok ba)
def obsLG (as : List Addr) (fa : List (Fr0 → Bool)) (fn : List DefA) (g : Addr → Option Obj) : Bool × AlA := (tabsB g (frT g as), obsA fa fn (frT g as))
def hookL (as : List Addr) (fa : List (Fr0 → Bool)) (fn : List DefA) : PySem.W.Hook where
  α := Bool × AlA
  obs := fun s => obsLG as fa fn s.heap.get?
  val := fun _ => (true, valA fn)
  says := fun _ h => ∃ K : Fr0, K.In h ∧ Says fa fn K ∧ TabAt K h
  of := fun _ _ e => ⟨_, frT_in, (Prod.mk.inj e).2, tabsB_ok frT_in (Prod.mk.inj e).1⟩
  keeps := fun _ _ _ ⟨K, hK, c, t⟩ k => ⟨K, PySem.W.Frag.In.keeps hK k, c, t.keeps k⟩
theorem obsLG_eq {as : List Addr} {fa : List (Fr0 → Bool)} {fn : List DefA} {g : Addr → Option Obj} {s : Shared} (h : ∀ a, g a = s.heap.get? a) : obsLG as fa fn g = (hookL as fa fn).obs s := by
  have e : g = s.heap.get? := funext h
  subst e
  rfl
theorem obsLG_join {as : List Addr} {fa : List (Fr0 → Bool)} {fn : List DefA} {g : Addr → Option Obj} (h1 : obsLG as fa [] g = (true, valA [])) (h2 : obsLG as [] fn g = (true, valA fn)) : obsLG as fa fn g = (true, valA fn) := by
  have e1 : tabsB g (frT g as) = true := congrArg Prod.fst h1
  have e2 : (fa.all (fun f => f (frT g as)) && true) = true := congrArg (fun x => x.2.1) h1
  have e3 : (true && fn.all (fun d => d.good (frT g as))) = true := congrArg (fun x => x.2.1) h2
  have e4 : fn.map (fun d => fnAt (frT g as) (d.ad (frT g as))) = fn.map DefA.told := congrArg (fun x => x.2.2) h2
  rw [Bool.and_true] at e2
  rw [Bool.true_and] at e3
  unfold obsLG obsA valA
  rw [e1, e2, e3, e4]
  rfl
open PySem.W HandSHeadRun in
open PySem.W HandSHeadRun in
theorem run_join {r : OpenRow} {q : Program} {as : List Addr} {fa : List (Fr0 → Bool)} {fn : List DefA} {M : Nat} {loose : List Str} {w : World}
    (a : ∀ os : OsState, (endF (stepQ (denQ tabQ) r.prog w) M r.prog w os).map (fun s => (looksF r.prog (boot_heap w.params) s.abs, seenQ q loose (importedModules r.prog.main.body) (fun s => xlAt q [] s && recOk r.toRowW.records s) s.abs)) = some (true, openGood q loose))
    (b : ∀ os : OsState, (endF (stepQ (denQ tabQ) r.prog w) M r.prog w os).map (fun s => obsLG as fa [] (HandSHeadRun.getT s)) = some (true, valA []))
    (c : ∀ os : OsState, (endF (stepQ (denQ tabQ) r.prog w) M r.prog w os).map (fun s => obsLG as [] fn (HandSHeadRun.getT s)) = some (true, valA fn)) : RunEq r q (hookL as fa fn) (fun s => obsLG as fa fn (HandSHeadRun.getT s)) M loose w := fun os => by
  have a := a os
  have b := b os
  have c := c os
  generalize endF (stepQ (denQ tabQ) r.prog w) M r.prog w os = o at a b c ⊢
  cases o with
  | none => cases a
  | some s =>
    have e1 := Option.some.inj a
    have e2 := Option.some.inj b
    have e3 := Option.some.inj c
    have h1 := congrArg Prod.fst e1
    have h2 := congrArg Prod.snd e1
    show some (_, _, _) = some (true, openGood q loose, (true, valA fn))
    exact congrArg some (Prod.ext h1 (Prod.ext h2 (obsLG_join e2 e3)))
end DL

namespace DL
open PySem PySem.Spec PyProof.Rows L2
section
variable {K : PySem.W.Frag} {G G' : Hp}
def NoF (G G' : Hp) : Prop := ∀ b o, G b = some o → (∀ o' kv, o ≠ .frz o' (.dK kv)) → G' b = some o
theorem NoF.seq (e : NoF G G') {a : Addr} {xs : List V} (h : SqL K G a xs) : SqL K G' a xs := by
  rcases h with (h | ⟨o, h⟩) | h
  · exact .inl (.inl (e _ _ h (fun _ _ z => by cases z)))
  · exact .inl (.inr ⟨o, e _ _ h (fun _ _ z => by cases z)⟩)
  · exact .inr h
end
end DL

namespace PySem
end PySem
namespace ZL
end ZL
namespace DL
open PySem PySem.Spec PyProof.Rows L2 LamX
structure CF where
  name : Str
  qual : Str
  params : Arguments
  body : FuncBody
  scope : Scope
  cl : List (Str × Addr)
  c : Addr
abbrev CF.fd (F : CF) (doc pm ctv : Value) : FuncData := { name := F.name, qualname := F.qual, params := F.params, body := F.body, scope := F.scope, globals := mainGlobals, closure := F.cl, defaults := .none, kwdefaults := .none, doc, pyModule := pm, annotations := none, code := .ref F.c, closureTuple := ctv, builtins := builtinsNs }
abbrev CF.ob (F : CF) (doc pm ctv : Value) (od : Option Addr) (sl : Array (Option Value)) : Obj := ⟨.type "function", od, .func (F.fd doc pm ctv), sl⟩
structure FV where
  is : D → Prop
  sp : D → DSp
structure FvOk (P : Program) (w : World) (K : Fr0) (mg : Str → Option Value) (base : Heap) (k : Nat) (fv : FV) : Prop where
  at_ : ∀ x, fv.is x → ∀ (G : Hp) (v : V), Rp K G x v → ∃ a, v = .ref a ∧ ∀ h : Heap, K.In h → (∀ b o, base.get? b = some o → h.get? b = some o) → PySem.W.FnAt a h
  run : ∀ x, fv.is x → ∀ (A : Around) (outer : List Env) (s : Shared) (H : Hp) (us : List Value) (vs : List V) (a : Addr) (G F : Hp) (m : M) (ds : List D) (QD : D → M → Prop) (Q : VK), Room k A → Env0 P w K mg base A outer s H → Rep K G H F m → Rp K G x (.ref a) → Rps K G ds vs → Vals vs us →
    fv.sp x ds m QD (fun _ _ => False) → Kv K G F QD Q → codeAny (model P w) A (.call (.ref a) ⟨us, []⟩) (CR (L2.CX P w) outer P w H s Q (fun _ _ _ => False)) s
section
variable {P : Program} {w : World} {K : Fr0} {mg : Str → Option Value} {base : Heap} {j k : Nat} {fv gv : FV}
theorem FvOk.mono (o : FvOk P w K mg base j fv) (h : j ≤ k) : FvOk P w K mg base k fv := ⟨o.at_, fun x hx A outer s H us vs a G F m ds QD Q hr => o.run x hx A outer s H us vs a G F m ds QD Q (hr.mono h)⟩
end
end DL

namespace L2
end L2
namespace GenF
open PySem
open Sem (wp)
def isG : Frame → Bool
  | .gen .. => true
  | _ => false
def NoG (fs : List Frame) : Prop := ∀ F ∈ fs, isG F = false
theorem NoG.nil : NoG [] := fun _ h => absurd h List.not_mem_nil
theorem NoG.tail {F : Frame} {fs : List Frame} (h : NoG (F :: fs)) : NoG fs := fun x hx => h x (List.mem_cons_of_mem _ hx)
theorem NoG.split : ∀ {fs : List Frame}, NoG fs → splitAtGen fs = none
  | [], _ => rfl
  | F :: fs, h => by
    cases F with
    | gen => exact absurd (h _ List.mem_cons_self) (by simp [isG])
    | ret => 
      have i := NoG.split h.tail
      show (splitAtGen fs).map _ = none
      rw [i]
      rfl
end GenF

namespace DL
open PySem PySem.Spec PyProof.Rows L2 GenW
structure GP where
  X : Cx
  m : M
  ys : List D
  CW : Nat → Shared → Hp → Hp → Hp → Prop
end DL

namespace DL
open PySem PySem.Spec PyProof.Rows L2 GenW
abbrev DSpG := List D → M → (List D → Prop) → Prop
end DL

namespace LW
open PySem PySem.Spec PyProof.Rows L2 DL
open He (ga ma)
def LETTERS : Str := "abcdefghijklmnopqrstuvwxyz"
structure Knd where
  n : Str
  c : Int
  d : Int
structure Arr where
  f : Str
  s : Str
  g : Int
def Knd.D (k : Knd) : DL.D := .tup [.str k.n, .int k.c, .int k.d]
def Arr.D (a : Arr) : DL.D := .tup [.str a.f, .str a.s, .int a.g]
structure Job where
  k : Str
  r : Int
  c : Int
def Job.D (j : Job) : DL.D := .tup [.str j.k, .int j.r, .int j.c]
structure Rw where
  i : Nat
  p : Nat
  k : Str
  r : Int
  c : Int
  d : Int
def Rw.D (x : Rw) : DL.D := .tup [.int x.i, .int x.p, .str x.k, .int x.r, .int x.c, .int x.d]
structure IRow where
  a : Int
  b : Int
  t : Int
def IRow.D (x : IRow) : DL.D := .tup [.int x.a, .int x.b, .int x.t]
end LW

namespace LW
open PySem PySem.Spec PyProof.Rows L2 DL
open He (ga ma)
def top (i : Nat) : Stmt := PySem.Challenge.pw_walkdues_k11_intervals_of_a_run.main.body.getD i (.Pass ⟨0, 0, 0, 0⟩)
abbrev s_UnknownKind_init : Stmt := inClass (top 8) 0
abbrev s_OutOfRange_init : Stmt := inClass (top 5) 0
abbrev s_WrongCount_init : Stmt := inClass (top 4) 0
abbrev s_BadCost_init : Stmt := inClass (top 9) 0
abbrev s_BadRelease_init : Stmt := inClass (top 10) 0
abbrev s_NoArrow_init : Stmt := inClass (top 11) 0
abbrev s_GapTooShort_init : Stmt := inClass (top 12) 0
abbrev s_is_name : Stmt := top 34
abbrev s_need_name : Stmt := top 35
abbrev s_need_range : Stmt := top 36
abbrev s_need_kind : Stmt := top 37
abbrev s_checked_kinds : Stmt := top 38
abbrev s_checked_arrows : Stmt := top 39
abbrev s_Task_init : Stmt := inClass (top 40) 0
abbrev s_Task_kinds : Stmt := inClass (top 40) 1
abbrev s_Task_row_of : Stmt := inClass (top 40) 3
abbrev s_Task_cost_of : Stmt := inClass (top 40) 4
abbrev s_Task_deadline_of : Stmt := inClass (top 40) 5
abbrev s_Task_followers : Stmt := inClass (top 40) 6
abbrev s_gap_between : Stmt := top 23
abbrev s_check_job : Stmt := top 24
abbrev s_check_counts : Stmt := top 25
abbrev s_Run_init : Stmt := inClass (top 26) 0
abbrev s_Run_jobs : Stmt := inClass (top 26) 1
abbrev s_check_speed : Stmt := top 15
abbrev s_costs_by_due : Stmt := top 17
abbrev s_interval_demands : Stmt := top 18
abbrev s_heaviest_interval : Stmt := top 19
abbrev s_law_cell : Stmt := top 42
abbrev s_law_source : Stmt := top 43
abbrev s_law_draw : Stmt := top 44
abbrev s_law_names : Stmt := top 45
abbrev s_law_task : Stmt := top 46
abbrev s_law_walk : Stmt := top 47
abbrev s_law_distinct : Stmt := top 48
abbrev s_law_demands : Stmt := top 49
abbrev s_law_heaviest : Stmt := top 50
abbrev s_law_outcome : Stmt := top 51
abbrev s_law : Stmt := top 52
def da_UnknownKind_init : DefA := ⟨fun K => ma K (ga K "UnknownKind") "__init__", "__init__", "UnknownKind.__init__", defArgs s_UnknownKind_init, defBody s_UnknownKind_init, defScope s_UnknownKind_init, [], []⟩
def da_OutOfRange_init : DefA := ⟨fun K => ma K (ga K "OutOfRange") "__init__", "__init__", "OutOfRange.__init__", defArgs s_OutOfRange_init, defBody s_OutOfRange_init, defScope s_OutOfRange_init, [], []⟩
def da_WrongCount_init : DefA := ⟨fun K => ma K (ga K "WrongCount") "__init__", "__init__", "WrongCount.__init__", defArgs s_WrongCount_init, defBody s_WrongCount_init, defScope s_WrongCount_init, [], []⟩
def da_BadCost_init : DefA := ⟨fun K => ma K (ga K "BadCost") "__init__", "__init__", "BadCost.__init__", defArgs s_BadCost_init, defBody s_BadCost_init, defScope s_BadCost_init, [], []⟩
def da_BadRelease_init : DefA := ⟨fun K => ma K (ga K "BadRelease") "__init__", "__init__", "BadRelease.__init__", defArgs s_BadRelease_init, defBody s_BadRelease_init, defScope s_BadRelease_init, [], []⟩
def da_NoArrow_init : DefA := ⟨fun K => ma K (ga K "NoArrow") "__init__", "__init__", "NoArrow.__init__", defArgs s_NoArrow_init, defBody s_NoArrow_init, defScope s_NoArrow_init, [], []⟩
def da_GapTooShort_init : DefA := ⟨fun K => ma K (ga K "GapTooShort") "__init__", "__init__", "GapTooShort.__init__", defArgs s_GapTooShort_init, defBody s_GapTooShort_init, defScope s_GapTooShort_init, [], []⟩
def da_is_name : DefA := ⟨fun K => ga K "is_name", "is_name", "is_name", defArgs s_is_name, defBody s_is_name, defScope s_is_name, [], []⟩
def da_need_name : DefA := ⟨fun K => ga K "need_name", "need_name", "need_name", defArgs s_need_name, defBody s_need_name, defScope s_need_name, [], []⟩
def da_need_range : DefA := ⟨fun K => ga K "need_range", "need_range", "need_range", defArgs s_need_range, defBody s_need_range, defScope s_need_range, [], []⟩
def da_need_kind : DefA := ⟨fun K => ga K "need_kind", "need_kind", "need_kind", defArgs s_need_kind, defBody s_need_kind, defScope s_need_kind, [], []⟩
def da_checked_kinds : DefA := ⟨fun K => ga K "checked_kinds", "checked_kinds", "checked_kinds", defArgs s_checked_kinds, defBody s_checked_kinds, defScope s_checked_kinds, [], []⟩
def da_checked_arrows : DefA := ⟨fun K => ga K "checked_arrows", "checked_arrows", "checked_arrows", defArgs s_checked_arrows, defBody s_checked_arrows, defScope s_checked_arrows, [], []⟩
def da_Task_init : DefA := ⟨fun K => ma K (ga K "Task") "__init__", "__init__", "Task.__init__", defArgs s_Task_init, defBody s_Task_init, defScope s_Task_init, [.adr (dflA (fun K => ma K (ga K "Task") "__init__") 0)], []⟩
def da_Task_kinds : DefA := ⟨fun K => wad K "property" "Task" "kinds", "kinds", "Task.kinds", defArgs s_Task_kinds, defBody s_Task_kinds, defScope s_Task_kinds, [], []⟩
def da_Task_row_of : DefA := ⟨fun K => ma K (ga K "Task") "row_of", "row_of", "Task.row_of", defArgs s_Task_row_of, defBody s_Task_row_of, defScope s_Task_row_of, [], []⟩
def da_Task_cost_of : DefA := ⟨fun K => ma K (ga K "Task") "cost_of", "cost_of", "Task.cost_of", defArgs s_Task_cost_of, defBody s_Task_cost_of, defScope s_Task_cost_of, [], []⟩
def da_Task_deadline_of : DefA := ⟨fun K => ma K (ga K "Task") "deadline_of", "deadline_of", "Task.deadline_of", defArgs s_Task_deadline_of, defBody s_Task_deadline_of, defScope s_Task_deadline_of, [], []⟩
def da_Task_followers : DefA := ⟨fun K => ma K (ga K "Task") "followers", "followers", "Task.followers", defArgs s_Task_followers, defBody s_Task_followers, defScope s_Task_followers, [], []⟩
def da_gap_between : DefA := ⟨fun K => ga K "gap_between", "gap_between", "gap_between", defArgs s_gap_between, defBody s_gap_between, defScope s_gap_between, [], []⟩
def da_check_job : DefA := ⟨fun K => ga K "check_job", "check_job", "check_job", defArgs s_check_job, defBody s_check_job, defScope s_check_job, [], []⟩
def da_check_counts : DefA := ⟨fun K => ga K "check_counts", "check_counts", "check_counts", defArgs s_check_counts, defBody s_check_counts, defScope s_check_counts, [], []⟩
def da_Run_init : DefA := ⟨fun K => ma K (ga K "Run") "__init__", "__init__", "Run.__init__", defArgs s_Run_init, defBody s_Run_init, defScope s_Run_init, [], [("grain", .int 1)]⟩
def da_Run_jobs : DefA := ⟨fun K => wad K "property" "Run" "jobs", "jobs", "Run.jobs", defArgs s_Run_jobs, defBody s_Run_jobs, defScope s_Run_jobs, [], []⟩
def da_check_speed : DefA := ⟨fun K => ga K "check_speed", "check_speed", "check_speed", defArgs s_check_speed, defBody s_check_speed, defScope s_check_speed, [], []⟩
def da_costs_by_due : DefA := ⟨fun K => ga K "costs_by_due", "costs_by_due", "costs_by_due", defArgs s_costs_by_due, defBody s_costs_by_due, defScope s_costs_by_due, [], []⟩
def da_interval_demands : DefA := ⟨fun K => ga K "interval_demands", "interval_demands", "interval_demands", defArgs s_interval_demands, defBody s_interval_demands, defScope s_interval_demands, [], []⟩
def da_heaviest_interval : DefA := ⟨fun K => ga K "heaviest_interval", "heaviest_interval", "heaviest_interval", defArgs s_heaviest_interval, defBody s_heaviest_interval, defScope s_heaviest_interval, [], [("speed", .int 1)]⟩
def da_law_cell : DefA := ⟨fun K => ga K "_law_cell", "_law_cell", "_law_cell", defArgs s_law_cell, defBody s_law_cell, defScope s_law_cell, [], []⟩
def da_law_source : DefA := ⟨fun K => ga K "_law_source", "_law_source", "_law_source", defArgs s_law_source, defBody s_law_source, defScope s_law_source, [], []⟩
def da_law_draw : DefA := ⟨fun K => ga K "_law_draw", "_law_draw", "_law_draw", defArgs s_law_draw, defBody s_law_draw, defScope s_law_draw, [], []⟩
def da_law_names : DefA := ⟨fun K => ga K "_law_names", "_law_names", "_law_names", defArgs s_law_names, defBody s_law_names, defScope s_law_names, [], []⟩
def da_law_task : DefA := ⟨fun K => ga K "_law_task", "_law_task", "_law_task", defArgs s_law_task, defBody s_law_task, defScope s_law_task, [], []⟩
def da_law_walk : DefA := ⟨fun K => ga K "_law_walk", "_law_walk", "_law_walk", defArgs s_law_walk, defBody s_law_walk, defScope s_law_walk, [], []⟩
def da_law_distinct : DefA := ⟨fun K => ga K "_law_distinct", "_law_distinct", "_law_distinct", defArgs s_law_distinct, defBody s_law_distinct, defScope s_law_distinct, [], []⟩
def da_law_demands : DefA := ⟨fun K => ga K "_law_demands", "_law_demands", "_law_demands", defArgs s_law_demands, defBody s_law_demands, defScope s_law_demands, [], []⟩
def da_law_heaviest : DefA := ⟨fun K => ga K "_law_heaviest", "_law_heaviest", "_law_heaviest", defArgs s_law_heaviest, defBody s_law_heaviest, defScope s_law_heaviest, [], []⟩
def da_law_outcome : DefA := ⟨fun K => ga K "_law_outcome", "_law_outcome", "_law_outcome", defArgs s_law_outcome, defBody s_law_outcome, defScope s_law_outcome, [], []⟩
def da_law : DefA := ⟨fun K => ga K "law", "law", "law", defArgs s_law, defBody s_law, defScope s_law, [], []⟩
def fn : List DefA := [da_UnknownKind_init, da_OutOfRange_init, da_WrongCount_init, da_BadCost_init, da_BadRelease_init, da_NoArrow_init, da_GapTooShort_init, da_is_name, da_need_name, da_need_range, da_need_kind, da_checked_kinds, da_checked_arrows, da_Task_init, da_Task_kinds, da_Task_row_of, da_Task_cost_of, da_Task_deadline_of, da_Task_followers, da_gap_between, da_check_job, da_check_counts, da_Run_init, da_Run_jobs, da_check_speed, da_costs_by_due, da_interval_demands, da_heaviest_interval, da_law_cell, da_law_source, da_law_draw, da_law_names, da_law_task, da_law_walk, da_law_distinct, da_law_demands, da_law_heaviest, da_law_outcome, da_law]
def fa : List (Fr0 → Bool) := [
  fun K => (He.Fa.glo "check_speed").ok K,
  fun K => (He.Fa.glo "costs_by_due").ok K,
  fun K => (He.Fa.glo "interval_demands").ok K,
  fun K => (He.Fa.glo "heaviest_interval").ok K,
  fun K => (He.Fa.glo "gap_between").ok K,
  fun K => (He.Fa.glo "check_job").ok K,
  fun K => (He.Fa.glo "check_counts").ok K,
  fun K => (He.Fa.glo "is_name").ok K,
  fun K => (He.Fa.glo "need_name").ok K,
  fun K => (He.Fa.glo "need_range").ok K,
  fun K => (He.Fa.glo "need_kind").ok K,
  fun K => (He.Fa.glo "checked_kinds").ok K,
  fun K => (He.Fa.glo "checked_arrows").ok K,
  fun K => (He.Fa.glo "_law_cell").ok K,
  fun K => (He.Fa.glo "_law_source").ok K,
  fun K => (He.Fa.glo "_law_draw").ok K,
  fun K => (He.Fa.glo "_law_names").ok K,
  fun K => (He.Fa.glo "_law_task").ok K,
  fun K => (He.Fa.glo "_law_walk").ok K,
  fun K => (He.Fa.glo "_law_distinct").ok K,
  fun K => (He.Fa.glo "_law_demands").ok K,
  fun K => (He.Fa.glo "_law_heaviest").ok K,
  fun K => (He.Fa.glo "_law_outcome").ok K,
  fun K => (He.Fa.glo "law").ok K,
  fun K => (He.Fa.glo "WrongCount").ok K,
  fun K => (He.Fa.glo "OutOfRange").ok K,
  fun K => (He.Fa.glo "UnknownKind").ok K,
  fun K => (He.Fa.glo "BadCost").ok K,
  fun K => (He.Fa.glo "BadRelease").ok K,
  fun K => (He.Fa.glo "NoArrow").ok K,
  fun K => (He.Fa.glo "GapTooShort").ok K,
  fun K => (He.Fa.glo "Run").ok K,
  fun K => (He.Fa.glo "Task").ok K,
  fun K => (He.Fa.free "all").ok K,
  fun K => (He.Fa.free "enumerate").ok K,
  fun K => (He.Fa.free "int").ok K,
  fun K => (He.Fa.free "len").ok K,
  fun K => (He.Fa.free "list").ok K,
  fun K => (He.Fa.free "range").ok K,
  fun K => (He.Fa.free "sorted").ok K,
  fun K => (He.Fa.free "sum").ok K,
  fun K => (He.Fa.int "SPEED_LIMIT" 99).ok K,
  fun K => (He.Fa.int "GRAIN_LIMIT" 60).ok K,
  fun K => (He.Fa.int "JOB_LIMIT" 400).ok K,
  fun K => (He.Fa.str "LETTERS" "abcdefghijklmnopqrstuvwxyz").ok K,
  fun K => (He.Fa.str "OTHER_SIGNS" "0123456789_").ok K,
  fun K => (He.Fa.int "LONGEST_NAME" 12).ok K,
  fun K => (He.Fa.int "MOST_KINDS" 4).ok K,
  fun K => (He.Fa.int "MOST_ARROWS" 12).ok K,
  fun K => (He.Fa.int "MOST_GAP" 12).ok K,
  fun K => (He.Fa.cls "Run").ok K,
  fun K => (He.Fa.mkr "Run").ok K,
  propB "Run" "jobs",
  fun K => (He.Fa.noat "Run" "grain").ok K,
  fun K => (He.Fa.noat "Run" "placed").ok K,
  fun K => (He.Fa.cls "Task").ok K,
  fun K => (He.Fa.mkr "Task").ok K,
  propB "Task" "kinds",
  fun K => (He.Fa.meth "Task" "row_of").ok K,
  fun K => (He.Fa.meth "Task" "cost_of").ok K,
  fun K => (He.Fa.meth "Task" "deadline_of").ok K,
  fun K => (He.Fa.meth "Task" "followers").ok K,
  fun K => (He.Fa.noat "Task" "name").ok K,
  fun K => (He.Fa.noat "Task" "kind_rows").ok K,
  fun K => (He.Fa.noat "Task" "arrow_rows").ok K,
  oexB "BadCost",
  exmB "BadCost" "OutOfRange" false,
  oexB "BadRelease",
  exmB "BadRelease" "OutOfRange" false,
  oexB "GapTooShort",
  exmB "GapTooShort" "OutOfRange" false,
  oexB "NoArrow",
  exmB "NoArrow" "OutOfRange" false,
  oexB "OutOfRange",
  exmB "OutOfRange" "OutOfRange" true,
  oexB "UnknownKind",
  exmB "UnknownKind" "OutOfRange" false,
  oexB "WrongCount",
  exmB "WrongCount" "OutOfRange" false,
  nofB "BadCost" "place",
  nofB "BadCost" "task",
  nofB "BadRelease" "place",
  nofB "BadRelease" "task",
  nofB "GapTooShort" "place",
  nofB "GapTooShort" "task",
  nofB "NoArrow" "place",
  nofB "NoArrow" "task",
  nofB "OutOfRange" "value",
  nofB "OutOfRange" "what",
  nofB "UnknownKind" "name",
  nofB "WrongCount" "count",
  nofB "WrongCount" "what",
  xfcB "OutOfRange",
  tup0B (dflA (fun K => ma K (ga K "Task") "__init__") 0),
  lamB 1]
end LW

set_option maxHeartbeats 0
namespace LW
open PySem PySem.Spec PyProof.Rows L2 DL
open He (ga ma)
abbrev R : PySem.W.OpenRow := PySem.W.OpenLaw.row PySem.Challenge.rw_walkdues_k11_intervals_of_a_run
def adrs : List Addr := List.range 1500
abbrev hk : PySem.W.Hook := hookL adrs fa fn
def ob (s : PySem.W.SharedT) : Bool × AlA := obsLG adrs fa fn (HandSHeadRun.getT s)
theorem ob_eq (s : PySem.W.SharedT) : ob s = hk.obs s.abs := obsLG_eq (HandSHeadRun.getT_eq s)
def loose : List Str := (["_wall", "__name__", "DuesError", "BadName", "WrongCount", "OutOfRange", "Repeated", "RepeatedArrow", "UnknownKind", "BadCost", "BadRelease", "NoArrow", "GapTooShort", "SPEED_LIMIT", "check_speed", "costs_by_due", "interval_demands", "heaviest_interval", "GRAIN_LIMIT", "JOB_LIMIT"] : List Str) ++ (["gap_between", "check_job", "check_counts", "Run", "LETTERS", "OTHER_SIGNS", "LONGEST_NAME", "MOST_KINDS", "MOST_ARROWS", "MOST_GAP", "is_name", "need_name", "need_range", "need_kind", "checked_kinds", "checked_arrows", "Task", "_law_cell", "_law_source", "_law_draw"] : List Str) ++ (["_law_names", "_law_task", "_law_walk", "_law_distinct", "_law_demands", "_law_heaviest", "_law_outcome"] : List Str)
open PySem.W HandSHeadRun in
theorem run1 (w : World) (os : OsState) : (endF (stepQ (denQ tabQ) R.prog w) 12000 R.prog w os).map (fun s => (looksF R.prog (boot_heap w.params) s.abs, seenQ (PySem.W.view R.prog [52]) loose (importedModules R.prog.main.body) (fun s => xlAt (PySem.W.view R.prog [52]) [] s && recOk R.toRowW.records s) s.abs)) = some (true, openGood (PySem.W.view R.prog [52]) loose) := by
  kernel_rfl
open PySem.W HandSHeadRun in
theorem run2 (w : World) (os : OsState) : (endF (stepQ (denQ tabQ) R.prog w) 12000 R.prog w os).map (fun s => obsLG adrs fa [] (HandSHeadRun.getT s)) = some (true, valA []) := by
  kernel_rfl
open PySem.W HandSHeadRun in
theorem run3 (w : World) (os : OsState) : (endF (stepQ (denQ tabQ) R.prog w) 12000 R.prog w os).map (fun s => obsLG adrs [] fn (HandSHeadRun.getT s)) = some (true, valA fn) := by
  kernel_rfl
theorem run (w : World) : HandSHeadRun.RunEq R (PySem.W.view R.prog [52]) hk ob 12000 loose w := run_join (run1 w) (run2 w) (run3 w)
open PySem PySem.W PySem.Calls PyProof.Rows in
def hd1 := HandSHeadRun.head_any (r := PySem.W.OpenLaw.row PySem.Challenge.rw_walkdues_k11_intervals_of_a_run) (q := PySem.W.view (PySem.W.OpenLaw.row PySem.Challenge.rw_walkdues_k11_intervals_of_a_run).prog [52]) (H := hk) (ob := ob) (M := 12000) (loose := loose) (d := HandSHeadRun.topDef (PySem.W.OpenLaw.row PySem.Challenge.rw_walkdues_k11_intervals_of_a_run).prog 52) (kwd := []) ob_eq
    (by kernel_rfl) (fun s => by kernel_rfl) run (by kernel_rfl) (by kernel_rfl) (by kernel_rfl) (by rfl) (by decide +kernel) (by decide +kernel) ⟨rfl, rfl, rfl, rfl, rfl, by decide +kernel⟩
end LW
set_option Elab.async false
set_option linter.all false
set_option maxRecDepth 100000
set_option maxHeartbeats 4000000
namespace DL
open PySem PySem.Spec PyProof.Rows L2

theorem same_new {H : Hp} {p : Addr} {o : HO} (h : H p = none) : Same H (upd H p o) := fun a u e => by
  rw [upd_ne (ne_of_none e h)]
  exact e
theorem same_mut {H H' : Hp} {p : Addr} {o : HO} (e : Same H H') (h : H p = none) : Same H (upd H' p o) := fun a u ha => by
  rw [upd_ne (ne_of_none ha h)]
  exact e a u ha

section
variable {K : PySem.W.Frag} {G G' : Hp}
theorem Rps.set {d : D} {v : V} (r : Rp K G d v) : ∀ {ds : List D} {vs : List V} (i : Nat), Rps K G ds vs → Rps K G (ds.set i d) (vs.set i v)
  | _, _, _, .nil => .nil
  | _, _, 0, .cons _ t => .cons r t
  | _, _, i + 1, .cons q t => .cons q (Rps.set r i t)
theorem Rps.take : ∀ {ds : List D} {vs : List V} (n : Nat), Rps K G ds vs → Rps K G (ds.take n) (vs.take n)
  | _, _, 0, _ => .nil
  | _, _, _ + 1, .nil => .nil
  | _, _, n + 1, .cons r t => .cons r (Rps.take n t)
theorem Rps.drop : ∀ {ds : List D} {vs : List V} (n : Nat), Rps K G ds vs → Rps K G (ds.drop n) (vs.drop n)
  | _, _, 0, r => r
  | _, _, _ + 1, .nil => .nil
  | _, _, n + 1, .cons _ t => Rps.drop n t
theorem Rps.ints : ∀ {ns : List Int} {vs : List V}, Rps K G (ns.map D.int) vs → vs = ns.map V.int
  | [], _, .nil => rfl
  | n :: ns, _, .cons r t => by
    cases r
    rw [Rps.ints t]
    rfl
theorem Rps.ofInts : ∀ (ns : List Int), Rps K G (ns.map D.int) (ns.map V.int)
  | [] => .nil
  | n :: ns => .cons (.int n) (Rps.ofInts ns)
theorem Rps.bls : ∀ {bs : List Bool} {vs : List V}, Rps K G (bs.map D.bl) vs → vs = bs.map V.bl
  | [], _, .nil => rfl
  | n :: ns, _, .cons r t => by
    cases r
    rw [Rps.bls t]
    rfl
theorem Rpf.lookupN : ∀ {fs : List (Str × D)} {fv : List (Str × V)} {x : Str}, Rpf K G fs fv → fs.lookup x = none → fv.lookup x = none
  | _, _, _, .nil, e => rfl
  | _, _, x, .cons (n := n) r t, e => by
    rw [List.lookup_cons] at e ⊢
    cases q : (x == n) with
    | true =>
      rw [q] at e
      cases e
    | false =>
      rw [q] at e
      exact Rpf.lookupN t e
end
def putD (f : Str) (v : D) : List (Str × D) → List (Str × D)
  | [] => [(f, v)]
  | (g, x) :: r => if g = f then (g, v) :: r else (g, x) :: putD f v r
theorem Rpf.put {K : PySem.W.Frag} {G : Hp} {f : Str} {d : D} {v : V} (r : Rp K G d v) : ∀ {fs : List (Str × D)} {fv : List (Str × V)}, Rpf K G fs fv → Rpf K G (putD f d fs) (putF f v fv)
  | _, _, .nil => .cons r .nil
  | _, _, .cons (n := n) q t => by
    show Rpf K G (if n = f then _ else _) (if n = f then _ else _)
    by_cases h : n = f
    · rw [if_pos h, if_pos h]
      exact .cons r t
    · rw [if_neg h, if_neg h]
      exact .cons q (Rpf.put r t)

theorem RpM.ofLst {K : PySem.W.Frag} {G : Hp} {ds : List D} {o : HO} (h : RpM K G (.lst ds) o) : ∃ vs, o = .lst vs ∧ Rps K G ds vs := by
  cases o with
  | lst vs => exact ⟨vs, rfl, h⟩
  | _ => exact h.elim
theorem RpM.ofIns {K : PySem.W.Frag} {G : Hp} {C : Addr} {fs : List (Str × D)} {o : HO} (h : RpM K G (.ins C fs) o) : ∃ dx fv, o = .ins C dx fv ∧ Rpf K G fs fv := by
  cases o with
  | ins C' dx fv => obtain ⟨rfl, h⟩ := h; exact ⟨dx, fv, rfl, h⟩
  | _ => exact h.elim
def mset (m : M) (a : Addr) (o : MO) : M := fun b => if b = a then some o else m b
def mdel (m : M) (a : Addr) : M := fun b => if b = a then none else m b
theorem mset_same {m : M} {a : Addr} {o : MO} : mset m a o a = some o := if_pos rfl
theorem mset_ne {m : M} {a b : Addr} {o : MO} (h : b ≠ a) : mset m a o b = m b := if_neg h
theorem mdel_same {m : M} {a : Addr} : mdel m a a = none := if_pos rfl
theorem mdel_ne {m : M} {a b : Addr} (h : b ≠ a) : mdel m a b = m b := if_neg h
theorem mset_mset {m : M} {a : Addr} {o u : MO} : mset (mset m a o) a u = mset m a u := by
  funext b; unfold mset; split <;> rfl
theorem mdel_mset {m : M} {a : Addr} {o : MO} (h : m a = none) : mdel (mset m a o) a = m := by
  funext b; unfold mdel mset
  by_cases e : b = a
  · rw [if_pos e, e, h]
  · rw [if_neg e, if_neg e]
theorem mset_comm {m : M} {a b : Addr} {o u : MO} (h : a ≠ b) : mset (mset m a o) b u = mset (mset m b u) a o := by
  funext c; unfold mset
  by_cases e : c = a
  · subst e; rw [if_neg h, if_pos rfl, if_pos rfl]
  · by_cases e2 : c = b
    · subst e2; rw [if_pos rfl, if_neg e, if_pos rfl]
    · rw [if_neg e2, if_neg e, if_neg e, if_neg e2]
theorem mdel_mset_ne {m : M} {a b : Addr} {o : MO} (h : a ≠ b) : mdel (mset m b o) a = mset (mdel m a) b o := by
  funext c
  by_cases e : c = a
  · subst e; rw [mdel_same, mset_ne h, mdel_same]
  · rw [mdel_ne e]
    by_cases e2 : c = b
    · subst e2; rw [mset_same, mset_same]
    · rw [mset_ne e2, mset_ne e2, mdel_ne e]

def okO (o : HO) : Prop := (∀ ps, o ≠ .tbl ps) ∧ ∀ φ, o ≠ .ext φ
section
open LamX
theorem Tabs.new {T : List (Addr × Str)} {H : Hp} {p : Addr} {o : HO} (t : Tabs T H) (h : H p = none) : Tabs T (upd H p o) := t.ext fun b u e => by rw [upd_ne (ne_of_none e h)]; exact e
theorem Tabs.updO {T : List (Addr × Str)} {H : Hp} {p : Addr} {o w : HO} (t : Tabs T H) (h : H p = some w) (ho : okO w) : Tabs T (upd H p o) := fun z hz => by
  obtain ⟨ps, h1, h2, h3⟩ := t z hz
  have ne : z.1 ≠ p := fun e => by
    rw [e, h] at h1
    exact ho.1 ps (Option.some.inj h1)
  refine ⟨ps, by rw [upd_ne ne]; exact h1, h2, fun pos cv hc => ?_⟩
  obtain ⟨c, e1, e2⟩ := h3 pos cv hc
  have nc : c ≠ p := fun e => by
    rw [e, h] at e2
    exact ho.2 _ (Option.some.inj e2)
  exact ⟨c, e1, by rw [upd_ne nc]; exact e2⟩
end
theorem RpM.okO {K : PySem.W.Frag} {G : Hp} {u : MO} {o : HO} (h : RpM K G u o) : okO o := by
  cases u <;> cases o <;> first | exact h.elim | exact ⟨fun _ e => (by cases e), fun _ e => (by cases e)⟩
theorem nt_upd {F : Hp} {p : Addr} {o : HO} (h : ∀ a u, F a = some u → notT u) (ho : notT o) : ∀ a u, upd F p o a = some u → notT u := fun a u e => by
  by_cases hb : a = p
  · subst hb; rw [upd_same] at e; cases e; exact ho
  · rw [upd_ne hb] at e; exact h a u e
theorem ok_upd {F : Hp} {p : Addr} {o : HO} (h : ∀ a u, F a = some u → ntb u) (ho : okO o) : ∀ a u, upd F p o a = some u → ntb u := fun a u e => by
  by_cases hb : a = p
  · subst hb; rw [upd_same] at e; cases e; exact ho.1
  · rw [upd_ne hb] at e; exact h a u e
section
variable {K : PySem.W.Frag} {G H F : Hp} {m : M} {p a : Addr} {o : HO} {u : MO}
theorem Rep.mfree (r : Rep K G H F m) (h : H p = none) : m p = none := by
  cases q : m p with
  | none => rfl
  | some o =>
    obtain ⟨_, _, u, e, _⟩ := r.mo p o q
    rw [h] at e
    cases e
theorem Rep.froz (r : Rep K G H F m) (h : H p = none) (ho : okO o := by exact ⟨fun _ e => (by cases e), fun _ e => (by cases e)⟩) : Same G (upd G p o) ∧ Rep K (upd G p o) (upd H p o) F m := by
  have g := r.free h
  refine ⟨same_new g, fun b v e => ?_, fun b v e => ?_, fun b v e => ?_, fun b v e => ?_, Tabs.new r.tb h, ok_upd r.gt ho, r.ft⟩
  · by_cases hb : b = p
    · subst hb; rw [upd_same] at e ⊢; exact e
    · rw [upd_ne hb] at e ⊢; exact r.ext b v e
  · rw [upd_ne (ne_of_none (r.frm b v e) h)]; exact r.frm b v e
  · rw [upd_ne (ne_of_none (r.frm b v e) h)]; exact r.dis b v e
  · obtain ⟨h1, h2, u, h3, h4⟩ := r.mo b v e
    have hb : b ≠ p := ne_of_none h3 h
    exact ⟨by rw [upd_ne hb]; exact h1, h2, u, by rw [upd_ne hb]; exact h3, h4.mono (same_new g)⟩
theorem Rep.junk (r : Rep K G H F m) (h : H p = none) : Rep K G (upd H p o) F m := by
  refine ⟨same_mut r.ext (r.free h), fun b v e => ?_, r.dis, fun b v e => ?_, Tabs.new r.tb h, r.gt, r.ft⟩
  · rw [upd_ne (ne_of_none (r.frm b v e) h)]; exact r.frm b v e
  · obtain ⟨h1, h2, u, h3, h4⟩ := r.mo b v e
    exact ⟨h1, h2, u, by rw [upd_ne (ne_of_none h3 h)]; exact h3, h4⟩
theorem Rep.newm (r : Rep K G H F m) (h : H p = none) (hu : RpM K G u o) : Rep K G (upd H p o) F (mset m p u) := by
  refine ⟨same_mut r.ext (r.free h), fun b v e => ?_, r.dis, fun b v e => ?_, Tabs.new r.tb h, r.gt, r.ft⟩
  · rw [upd_ne (ne_of_none (r.frm b v e) h)]; exact r.frm b v e
  · by_cases hb : b = p
    · subst hb
      rw [mset_same] at e
      cases e
      exact ⟨r.free h, r.frm.free h, o, upd_same, hu⟩
    · rw [mset_ne hb] at e
      obtain ⟨h1, h2, w, h3, h4⟩ := r.mo b v e
      exact ⟨h1, h2, w, by rw [upd_ne hb]; exact h3, h4⟩
theorem Rep.write {v : MO} (r : Rep K G H F m) (h : m a = some v) (hu : RpM K G u o) : Rep K G (upd H a o) F (mset m a u) := by
  obtain ⟨g1, f1, w, h3, h4⟩ := r.mo a v h
  refine ⟨same_mut r.ext g1, fun b z e => ?_, r.dis, fun b z e => ?_, Tabs.updO r.tb h3 h4.okO, r.gt, r.ft⟩
  · have hb : b ≠ a := fun q => by rw [q, f1] at e; cases e
    rw [upd_ne hb]; exact r.frm b z e
  · by_cases hb : b = a
    · subst hb
      rw [mset_same] at e
      cases e
      exact ⟨g1, f1, o, upd_same, hu⟩
    · rw [mset_ne hb] at e
      obtain ⟨h1, h2, w, h3, h4⟩ := r.mo b z e
      exact ⟨h1, h2, w, by rw [upd_ne hb]; exact h3, h4⟩
theorem Rep.freeze {ds : List D} (r : Rep K G H F m) (h : m a = some (.lst ds)) : ∃ G', Same G G' ∧ Rep K G' H F (mdel m a) ∧ Rp K G' (.lst ds) (.ref a) := by
  obtain ⟨g1, f1, w, h3, h4⟩ := r.mo a _ h
  obtain ⟨vs, rfl, h4⟩ := h4.ofLst
  have sm : Same G (upd G a (.lst vs)) := same_new g1
  refine ⟨upd G a (.lst vs), sm, ⟨fun b z e => ?_, r.frm, fun b z e => by rw [upd_ne (fun q => by rw [q, f1] at e; cases e)]; exact r.dis b z e, fun b z e => ?_, r.tb, ok_upd r.gt ⟨fun _ e => (by cases e), fun _ e => (by cases e)⟩, r.ft⟩, .lst upd_same (h4.mono sm)⟩
  · by_cases hb : b = a
    · subst hb; rw [upd_same] at e; rw [h3]; exact e
    · rw [upd_ne hb] at e; exact r.ext b z e
  · by_cases hb : b = a
    · subst hb; rw [mdel_same] at e; cases e
    · rw [mdel_ne hb] at e
      obtain ⟨h1, h2, w, h5, h6⟩ := r.mo b z e
      exact ⟨by rw [upd_ne hb]; exact h1, h2, w, h5, h6.mono sm⟩
theorem Rep.freezeI {C : Addr} {fs : List (Str × D)} (r : Rep K G H F m) (h : m a = some (.ins C fs)) : ∃ G', Same G G' ∧ Rep K G' H F (mdel m a) ∧ Rp K G' (.ins C fs) (.ref a) := by
  obtain ⟨g1, f1, w, h3, h4⟩ := r.mo a _ h
  obtain ⟨dx, fv, rfl, h5⟩ := h4.ofIns
  have sm : Same G (upd G a (.ins C dx fv)) := same_new g1
  refine ⟨upd G a (.ins C dx fv), sm, ⟨fun b z e => ?_, r.frm, fun b z e => by rw [upd_ne (fun q => by rw [q, f1] at e; cases e)]; exact r.dis b z e, fun b z e => ?_, r.tb, ok_upd r.gt ⟨fun _ e => (by cases e), fun _ e => (by cases e)⟩, r.ft⟩, .ins upd_same (h5.mono sm)⟩
  · by_cases hb : b = a
    · subst hb; rw [upd_same] at e; rw [h3]; exact e
    · rw [upd_ne hb] at e; exact r.ext b z e
  · by_cases hb : b = a
    · subst hb; rw [mdel_same] at e; cases e
    · rw [mdel_ne hb] at e
      obtain ⟨h1, h2, w, h5, h6⟩ := r.mo b z e
      exact ⟨by rw [upd_ne hb]; exact h1, h2, w, h5, h6.mono sm⟩
end

section
variable {K : PySem.W.Frag} {G H F : Hp} {m : M} {p : Addr} {o u : HO}
theorem Rep.hide (r : Rep K G H F m) (h : H p = none) (ho : notT o := by exact ⟨fun _ e => (by cases e), fun _ e => (by cases e), fun _ e => (by cases e)⟩) : Rep K G (upd H p o) (upd F p o) m := by
  refine ⟨same_mut r.ext (r.free h), fun b v e => ?_, fun b v e => ?_, fun b v e => ?_, Tabs.new r.tb h, r.gt, nt_upd r.ft ho⟩
  · by_cases hb : b = p
    · subst hb; rw [upd_same] at e ⊢; exact e
    · rw [upd_ne hb] at e ⊢; exact r.frm b v e
  · by_cases hb : b = p
    · subst hb; exact r.free h
    · rw [upd_ne hb] at e; exact r.dis b v e
  · obtain ⟨h1, h2, w, h3, h4⟩ := r.mo b v e
    have hb : b ≠ p := ne_of_none h3 h
    exact ⟨h1, by rw [upd_ne hb]; exact h2, w, by rw [upd_ne hb]; exact h3, h4⟩
theorem Rep.turn (r : Rep K G H (upd F p o) m) (ho : notT u := by exact ⟨fun _ e => (by cases e), fun _ e => (by cases e), fun _ e => (by cases e)⟩) (hw : okO o := by exact ⟨fun _ e => (by cases e), fun _ e => (by cases e)⟩) : Rep K G (upd H p u) (upd F p u) m := by
  have g : G p = none := r.dis p o upd_same
  refine ⟨same_mut r.ext g, fun b v e => ?_, fun b v e => ?_, fun b v e => ?_, Tabs.updO r.tb (r.frm p o upd_same) hw, r.gt, fun a w e => ?_⟩
  · by_cases hb : b = p
    · subst hb; rw [upd_same] at e ⊢; exact e
    · rw [upd_ne hb] at e ⊢; exact r.frm b v (by rw [upd_ne hb]; exact e)
  · by_cases hb : b = p
    · subst hb; exact g
    · rw [upd_ne hb] at e; exact r.dis b v (by rw [upd_ne hb]; exact e)
  · obtain ⟨h1, h2, w, h3, h4⟩ := r.mo b v e
    have hb : b ≠ p := fun q => by rw [q, upd_same] at h2; cases h2
    rw [upd_ne hb] at h2
    exact ⟨h1, by rw [upd_ne hb]; exact h2, w, by rw [upd_ne hb]; exact h3, h4⟩
  · by_cases hb : a = p
    · subst hb; rw [upd_same] at e; cases e; exact ho
    · rw [upd_ne hb] at e; exact r.ft a w (by rw [upd_ne hb]; exact e)
theorem Rep.outL {ds : List D} {vs : List V} (r : Rep K G H (upd F p (.lst vs)) m) (hF : F p = none) (rs : Rps K G ds vs) : Same G (upd G p (.lst vs)) ∧ Rep K (upd G p (.lst vs)) H F m ∧ Rp K (upd G p (.lst vs)) (.lst ds) (.ref p) := by
  have g : G p = none := r.dis p _ upd_same
  have sm : Same G (upd G p (.lst vs)) := same_new g
  refine ⟨sm, ⟨fun b v e => ?_, (r.show hF).frm, fun b v e => ?_, fun b v e => ?_, r.tb, ok_upd r.gt ⟨fun _ e => (by cases e), fun _ e => (by cases e)⟩, (r.show hF).ft⟩, .lst upd_same (rs.mono sm)⟩
  · by_cases hb : b = p
    · subst hb; rw [upd_same] at e; rw [← e]; exact r.frm _ _ upd_same
    · rw [upd_ne hb] at e; exact r.ext b v e
  · rw [upd_ne (fun q => by rw [q, hF] at e; cases e)]; exact (r.show hF).dis b v e
  · obtain ⟨h1, h2, w, h3, h4⟩ := r.mo b v e
    have hb : b ≠ p := fun q => by rw [q, upd_same] at h2; cases h2
    rw [upd_ne hb] at h2
    exact ⟨by rw [upd_ne hb]; exact h1, h2, w, h3, h4.mono sm⟩
theorem Rep.outM {ds : List D} {vs : List V} (r : Rep K G H (upd F p (.lst vs)) m) (hF : F p = none) (rs : Rps K G ds vs) : m p = none ∧ Rep K G H F (mset m p (.lst ds)) := by
  have g : G p = none := r.dis p _ upd_same
  have mp : m p = none := by
    cases q : m p with
    | none => rfl
    | some w =>
      obtain ⟨_, h2, _⟩ := r.mo p w q
      rw [upd_same] at h2
      cases h2
  refine ⟨mp, r.ext, (r.show hF).frm, (r.show hF).dis, fun b v e => ?_, r.tb, r.gt, (r.show hF).ft⟩
  by_cases hb : b = p
  · subst hb
    rw [mset_same] at e
    cases e
    exact ⟨g, hF, _, r.frm _ _ upd_same, rs⟩
  · rw [mset_ne hb] at e
    obtain ⟨h1, h2, w, h3, h4⟩ := r.mo b v e
    rw [upd_ne hb] at h2
    exact ⟨h1, h2, w, h3, h4⟩
end

theorem Rep.knowC {K : PySem.W.Frag} {G H F : Hp} {m : M} {c : Addr} {q : Str} (r : Rep K G H F m) (h : H c = some (LamX.CodeO c q)) : ∃ G', Same G G' ∧ Rep K G' H F m ∧ G' c = some (LamX.CodeO c q) := by
  cases e : G c with
  | some o =>
    have := r.ext c o e
    rw [h] at this
    cases this
    exact ⟨G, Same.refl G, r, e⟩
  | none =>
    have fq : F c = none := by
      cases z : F c with
      | none => rfl
      | some o =>
        have := r.frm c o z
        rw [h] at this
        cases this
        exact absurd rfl ((r.ft c _ z).2.2 _)
    have sm : Same G (upd G c (LamX.CodeO c q)) := same_new e
    refine ⟨upd G c (LamX.CodeO c q), sm, ⟨fun b v z => ?_, r.frm, fun b v z => ?_, fun b v z => ?_, r.tb, fun b v z => ?_, r.ft⟩, upd_same⟩
    · by_cases hb : b = c
      · subst hb; rw [upd_same] at z; rw [← z]; exact h
      · rw [upd_ne hb] at z; exact r.ext b v z
    · rw [upd_ne (fun y => by rw [y, fq] at z; cases z)]; exact r.dis b v z
    · obtain ⟨h1, h2, w, h3, h4⟩ := r.mo b v z
      have hb : b ≠ c := fun y => by
        rw [y, h] at h3
        cases h3
        exact h4.okO.2 _ rfl
      exact ⟨by rw [upd_ne hb]; exact h1, h2, w, h3, h4.mono sm⟩
    · by_cases hb : b = c
      · subst hb; rw [upd_same] at z; cases z; exact fun ps => LamX.codeO_ne ps
      · rw [upd_ne hb] at z; exact r.gt b v z

section
variable {K : PySem.W.Frag} {G G' : Hp} {r : DSt} {s : L2.St}
theorem Rs.set (h : Rs K G r s) {i : Nat} {d : D} {v : V} (q : Rp K G d v) : Rs K G (r.set i (some d)) (s.set i (some v)) := ⟨by simp [h.len], fun j e hj => by
  by_cases hi : i = j
  · subst hi
    by_cases hl : i < r.length
    · rw [List.getElem?_set_self hl] at hj
      cases hj
      exact ⟨v, by rw [List.getElem?_set_self (by rw [← h.len]; exact hl)], q⟩
    · rw [List.getElem?_eq_none (by simp; omega)] at hj
      cases hj
  · rw [List.getElem?_set_ne hi] at hj ⊢
    exact h.at_ j e hj⟩
theorem Rs.setG (h : Rs K G r s) {i : Nat} {d : D} (hv : ∀ v, s[i]? = some (some v) → Rp K G d v) (hs : ∃ v : V, s[i]? = some (some v)) : Rs K G (r.set i (some d)) s := ⟨by simp [h.len], fun j e hj => by
  by_cases hi : i = j
  · subst hi
    by_cases hl : i < r.length
    · rw [List.getElem?_set_self hl] at hj
      cases hj
      obtain ⟨v, q⟩ := hs
      exact ⟨v, q, hv v q⟩
    · rw [List.getElem?_eq_none (by simp; omega)] at hj
      cases hj
  · rw [List.getElem?_set_ne hi] at hj
    exact h.at_ j e hj⟩
end
end DL

set_option Elab.async false
set_option linter.all false
set_option maxRecDepth 100000
set_option maxHeartbeats 4000000
namespace DL
open PySem PySem.Spec PyProof.Rows L2

abbrev DO := DSt → M → (Option Int → M → Prop) → Prop
theorem Lx.no {K : PySem.W.Frag} {W : WX} {G F : Hp} : Lx K W (fun _ _ _ => False) G F := fun _ _ _ _ _ _ _ _ _ _ _ _ h => h.elim
theorem Sx.step {K : PySem.W.Frag} {W : WX} {WD : DWX} {G G' H H' F : Hp} {r : DSt} {s : L2.St} {m m' : M} (x : Sx K W WD G H F r s m) (e : Same G G') (h : Rep K G' H' F m') : Sx K W WD G' H' F r s m' := ⟨h, x.rs.mono e, x.lx.mono e⟩
def up (K : PySem.W.Frag) (W : WX) (WD : DWX) (t : DTE) : TE := fun σ H Q => ∃ (G F : Hp) (r : DSt) (m : M) (QD : D → M → Prop), Sx K W WD G H F r σ m ∧ t r m QD ∧ Kv K G F QD Q
def upT (K : PySem.W.Frag) (W : WX) (WD : DWX) (t : DTT) : TT := fun σ H Q => ∃ (G F : Hp) (r : DSt) (m : M) (QD : Bool → M → Prop), Sx K W WD G H F r σ m ∧ t r m QD ∧ ∀ G' H' m' b, Same G G' → Rep K G' H' F m' → QD b m' → Q b H'
def upA (K : PySem.W.Frag) (W : WX) (WD : DWX) (t : DTA) : TA := fun σ H Q => ∃ (G F : Hp) (r : DSt) (m : M) (QD : List D → M → Prop), Sx K W WD G H F r σ m ∧ t r m QD ∧ ∀ G' H' m' ds vs, Same G G' → Rep K G' H' F m' → Rps K G' ds vs → QD ds m' → Q vs H'
def upO (K : PySem.W.Frag) (W : WX) (WD : DWX) (t : DO) : TO := fun σ H Q => ∃ (G F : Hp) (r : DSt) (m : M) (QD : Option Int → M → Prop), Sx K W WD G H F r σ m ∧ t r m QD ∧ ∀ G' H' m' o, Same G G' → Rep K G' H' F m' → QD o m' → Q o H'
abbrev DE (X : Cx) (W : WX) (WD : DWX) (e : Expr) (t : DTE) : Prop := PE X e (up X.K W WD t)
abbrev DT (X : Cx) (W : WX) (WD : DWX) (e : Expr) (t : DTT) : Prop := PT X e (upT X.K W WD t)
abbrev DW (X : Cx) (W : WX) (WD : DWX) (e : Expr) (t : DTT) : Prop := PW X e (upT X.K W WD t)
abbrev DA (X : Cx) (W : WX) (WD : DWX) (es : List Expr) (t : DTA) : Prop := PA X es (upA X.K W WD t)
abbrev DOp (X : Cx) (W : WX) (WD : DWX) (e : Option Expr) (t : DO) : Prop := PO X e (upO X.K W WD t)
section
variable {X : Cx} {e : Expr}
end

def slot : DSt → Nat → Option D
  | [], _ => none
  | x :: _, 0 => x
  | _ :: r, n + 1 => slot r n
theorem slot_get : ∀ {r : DSt} {i : Nat} {d : D}, slot r i = some d → r[i]? = some (some d)
  | [], _, _, e => nomatch e
  | x :: r, 0, d, e => by
    have e' : x = some d := e
    rw [e']; rfl
  | x :: r, i + 1, d, e => by
    have := slot_get (r := r) (i := i) (d := d) e
    simpa using this
def dVar (i : Nat) : DTE := fun r m Q => ∃ d, slot r i = some d ∧ Q d m
def dC (d : D) : DTE := fun _ m Q => Q d m
section
variable {X : Cx} {W : WX} {WD : DWX} {pos : Pos}
theorem up_var {K : PySem.W.Frag} {i : Nat} {σ : L2.St} {H : Hp} {Q : VK} (h : up K W WD (dVar i) σ H Q) : tVar i σ H Q := by
  obtain ⟨G, F, r, m, QD, x, ⟨d, e, t⟩, k⟩ := h
  obtain ⟨v, e1, rv⟩ := x.rs.at_ i d (slot_get e)
  exact ⟨v, e1, k G H m d v (Same.refl G) x.rep rv t⟩
theorem up_c {K : PySem.W.Frag} {d : D} {v : V} {σ : L2.St} {H : Hp} {Q : VK} (hv : ∀ G, Rp K G d v) (h : up K W WD (dC d) σ H Q) : tC v σ H Q := by
  obtain ⟨G, F, r, m, QD, x, t, k⟩ := h
  exact k G H m d v (Same.refl G) x.rep (hv G) t
theorem dv (i : Nat) {x : Str} (hN : X.N[i]? = some x := by rfl) (hv : Vis X.env.scope x := by first | exact Or.inl rfl | exact Or.inr (Or.inl rfl) | exact Or.inr (Or.inr rfl)) (hd : (x == ("__debug__" : Str)) = false := by decide)
    (hcd : (x == ("__classdict__" : Str)) = false := by decide) : DE X W WD (.Name x pos) (dVar i) := PE.imp (pv i hN hv hd hcd) fun _ _ _ h => up_var h
theorem de_int {i j} : DE X W WD (.Constant (.int i) j pos) (dC (.int i)) := PE.imp pe_int fun _ _ _ h => up_c (fun _ => .int i) h
theorem de_bl {b j} : DE X W WD (.Constant (.bool b) j pos) (dC (.bl b)) := PE.imp pe_bl fun _ _ _ h => up_c (fun _ => .bl b) h
theorem de_non {j} : DE X W WD (.Constant .none j pos) (dC .non) := PE.imp pe_non fun _ _ _ h => up_c (fun _ => .non) h
theorem de_str {x j} : DE X W WD (.Constant (.str x) j pos) (dC (.str x)) := PE.imp pe_str fun _ _ _ h => up_c (fun _ => .str x) h
theorem de_globI {x : Str} {i : Int} (hg : Gl X x) (hm : ∃ t, X.mg x = some (.int i t)) (hd : (x == ("__debug__" : Str)) = false := by decide) : DE X W WD (.Name x pos) (dC (.int i)) := by
  obtain ⟨t, hm⟩ := hm
  exact PE.imp (pe_glob (v := .int i) hg hm ⟨t, rfl⟩ hd) fun _ _ _ h => up_c (fun _ => .int i) h
theorem de_globS {x z : Str} (hg : Gl X x) (hm : ∃ t, X.mg x = some (.str z t)) (hd : (x == ("__debug__" : Str)) = false := by decide) : DE X W WD (.Name x pos) (dC (.str z)) := by
  obtain ⟨t, hm⟩ := hm
  exact PE.imp (pe_glob (v := .str z) hg hm ⟨t, rfl⟩ hd) fun _ _ _ h => up_c (fun _ => .str z) h
end

abbrev DR2 := D → D → M → (D → M → Prop) → Prop
def OpD (K : PySem.W.Frag) (r : R2) (rd : DR2) : Prop :=
  ∀ (G H F : Hp) (m : M) (x y : D) (vx vy : V) (QD : D → M → Prop) (Q : VK), Rep K G H F m → Rp K G x vx → Rp K G y vy → rd x y m QD → Kv K G F QD Q → r vx vy H Q
def dOp (rd : DR2) (ta tb : DTE) : DTE := fun r m Q => ta r m fun x m1 => tb r m1 fun y m2 => rd x y m2 Q
theorem up_op {K : PySem.W.Frag} {W : WX} {WD : DWX} {r : R2} {rd : DR2} {ta tb : DTE} {σ : L2.St} {H : Hp} {Q : VK} (hd : OpD K r rd) (h : up K W WD (dOp rd ta tb) σ H Q) : tOp r (up K W WD ta) (up K W WD tb) σ H Q := by
  obtain ⟨G, F, ρ, m, QD, x, t, k⟩ := h
  refine ⟨G, F, ρ, m, _, x, t, fun G1 H1 m1 d1 v1 e1 r1 p1 t1 => ?_⟩
  refine ⟨G1, F, ρ, m1, _, x.step e1 r1, t1, fun G2 H2 m2 d2 v2 e2 r2 p2 t2 => ?_⟩
  exact hd G2 H2 F m2 d1 d2 v1 v2 QD Q r2 (p1.mono e2) p2 t2 (k.mono (e1.trans e2))
abbrev DR1 := D → M → (D → M → Prop) → Prop
def UnD (K : PySem.W.Frag) (r : V → Hp → VK → Prop) (rd : DR1) : Prop :=
  ∀ (G H F : Hp) (m : M) (x : D) (vx : V) (QD : D → M → Prop) (Q : VK), Rep K G H F m → Rp K G x vx → rd x m QD → Kv K G F QD Q → r vx H Q
def dUn (rd : DR1) (ta : DTE) : DTE := fun r m Q => ta r m fun x m1 => rd x m1 Q
theorem up_un {K : PySem.W.Frag} {W : WX} {WD : DWX} {r : V → Hp → VK → Prop} {rd : DR1} {ta : DTE} {σ : L2.St} {H : Hp} {Q : VK} (hd : UnD K r rd) (h : up K W WD (dUn rd ta) σ H Q) : tUn r (up K W WD ta) σ H Q := by
  obtain ⟨G, F, ρ, m, QD, x, t, k⟩ := h
  exact ⟨G, F, ρ, m, _, x, t, fun G1 H1 m1 d1 v1 e1 r1 p1 t1 => hd G1 H1 F m1 d1 v1 QD Q r1 p1 t1 (k.mono e1)⟩
theorem Kv.here {K : PySem.W.Frag} {G H F : Hp} {m : M} {QD : D → M → Prop} {Q : VK} {d : D} {v : V} (k : Kv K G F QD Q) (r : Rep K G H F m) (p : Rp K G d v) (q : QD d m) : Q v H := k G H m d v (Same.refl G) r p q
def mkL (mt : Bool) (ds : List D) (m : M) (Q : D → M → Prop) : Prop := match mt with
  | true => ∀ p, m p = none → Q (.ref p) (mset m p (.lst ds))
  | false => Q (.lst ds) m
theorem mkL_ok {K : PySem.W.Frag} {G H F : Hp} {m : M} {QD : D → M → Prop} {Q : VK} {mt : Bool} {ds : List D} {vs : List V} {p : Addr} (k : Kv K G F QD Q) (r : Rep K G H F m) (rs : Rps K G ds vs) (h : H p = none) (q : mkL mt ds m QD) : Q (.ref p) (upd H p (.lst vs)) := by
  cases mt with
  | false =>
    obtain ⟨e, r1⟩ := r.froz (o := .lst vs) h
    exact k _ _ m (.lst ds) _ e r1 (.lst upd_same (rs.mono e)) q
  | true => exact k _ _ _ (.ref p) _ (Same.refl G) (r.newm (u := .lst ds) (o := .lst vs) h rs) (.ref p) (q p (r.mfree h))
theorem mkT_ok {K : PySem.W.Frag} {G H F : Hp} {m : M} {QD : D → M → Prop} {Q : VK} {ds : List D} {vs : List V} {p : Addr} (k : Kv K G F QD Q) (r : Rep K G H F m) (rs : Rps K G ds vs) (h : H p = none) (q : QD (.tup ds) m) : Q (.ref p) (upd H p (.tup vs)) := by
  obtain ⟨e, r1⟩ := r.froz (o := .tup vs) h
  exact k _ _ m (.tup ds) _ e r1 (.tup (TpK.of upd_same) (rs.mono e)) q

def MulOk (i j : Int) : Prop := CMul i j ∨ CMulW i j
def dAdd (mt : Bool) : DR2
  | .int i, .int j, m, Q => Q (.int (i + j)) m
  | .str a, .str b, m, Q => a.length + b.length ≤ sizeLine ∧ Q (.str (a ++ b)) m
  | .lst a, .lst b, m, Q => a.length + b.length ≤ sizeLine ∧ mkL mt (a ++ b) m Q
  | .ref a, .lst b, m, Q => ∃ xs, m a = some (.lst xs) ∧ xs.length + b.length ≤ sizeLine ∧ mkL mt (xs ++ b) m Q
  | _, _, _, _ => False
def dSub : DR2
  | .int i, .int j, m, Q => Q (.int (i - j)) m
  | _, _, _, _ => False
def dMul (mt : Bool) : DR2
  | .int i, .int j, m, Q => MulOk i j ∧ Q (.int (i * j)) m
  | .lst a, .int k, m, Q => (-(2 ^ 63) ≤ k ∧ k < 2 ^ 63) ∧ a.length * k.toNat ≤ sizeLine ∧ mkL mt (List.replicate k.toNat a).flatten m Q
  | _, _, _, _ => False
def dDiv : DR2
  | .int i, .int j, m, Q => CDivW i j ∧ Q (.int (i / j)) m
  | _, _, _, _ => False
def dMod : DR2
  | .int i, .int j, m, Q => 0 < j ∧ Q (.int (i % j)) m
  | _, _, _, _ => False
def dPow : DR2
  | .int i, .int j, m, Q => CPow i j ∧ Q (.int (i ^ j.toNat)) m
  | _, _, _, _ => False
def dNeg : DR1
  | .int i, m, Q => Q (.int (-i)) m
  | _, _, _ => False
section
variable {K : PySem.W.Frag} {X : Cx} {W : WX} {WD : DWX} {a b : Expr} {ta tb : DTE} {pos : Pos}
def rAddA (K : PySem.W.Frag) : R2 := fun x y H Q => rI0 (fun i j => .int (i + j)) x y H Q ∨ (∃ i j, x = .str i ∧ y = .str j ∧ i.length + j.length ≤ sizeLine ∧ Q (.str (i ++ j)) H) ∨ rCat x y H Q
theorem op_addA : OpR X (binaryOp .Add) (rAddA X.K) := op_add.or (op_add_str.or op_cat)
theorem od_add (mt : Bool) : OpD K (rAddA K) (dAdd mt) := by
  intro G H F m x y vx vy QD Q r px py t k
  cases x with
  | int i => cases y with
    | int j => cases px; cases py; exact .inl ⟨i, j, rfl, rfl, k.here r (.int _) t⟩
    | _ => exact t.elim
  | str i => cases y with
    | str j => cases px; cases py; exact .inr (.inl ⟨i, j, rfl, rfl, t.1, k.here r (.str _) t.2⟩)
    | _ => exact t.elim
  | lst xs => cases y with
    | lst ys =>
      cases px with | lst h1 r1 => cases py with | lst h2 r2 =>
      refine .inr (.inr ⟨_, _, _, _, rfl, rfl, r.ext _ _ h1, r.ext _ _ h2, by rw [← r1.length, ← r2.length]; exact t.1, fun p hp => ?_⟩)
      exact mkL_ok k r (r1.append r2) hp t.2
    | _ => exact t.elim
  | ref a => cases y with
    | lst ys =>
      cases px; cases py with | lst h2 r2 =>
      obtain ⟨xs, hm, hz, t⟩ := t
      obtain ⟨_, _, u, h1, h4⟩ := r.mo a _ hm
      obtain ⟨vs, rfl, r1⟩ := h4.ofLst
      refine .inr (.inr ⟨_, _, _, _, rfl, rfl, h1, r.ext _ _ h2, by rw [← r1.length, ← r2.length]; exact hz, fun p hp => ?_⟩)
      exact mkL_ok k r (r1.append r2) hp t
    | _ => exact t.elim
  | _ => exact t.elim
theorem od_I {C : Int → Int → Prop} {g : Int → Int → Int} {rd : DR2} (h1 : ∀ i j m Q, rd (.int i) (.int j) m Q → C i j ∧ Q (.int (g i j)) m) (h2 : ∀ x y m Q, rd x y m Q → ∃ i j, x = .int i ∧ y = .int j) : OpD K (rI C fun i j => .int (g i j)) rd := by
  intro G H F m x y vx vy QD Q r px py t k
  obtain ⟨i, j, rfl, rfl⟩ := h2 _ _ _ _ t
  cases px; cases py
  exact ⟨i, j, rfl, rfl, (h1 _ _ _ _ t).1, k.here r (.int _) (h1 _ _ _ _ t).2⟩
theorem od_I0 {g : Int → Int → Int} {rd : DR2} (h1 : ∀ i j m Q, rd (.int i) (.int j) m Q → Q (.int (g i j)) m) (h2 : ∀ x y m Q, rd x y m Q → ∃ i j, x = .int i ∧ y = .int j) : OpD K (rI0 fun i j => .int (g i j)) rd := by
  intro G H F m x y vx vy QD Q r px py t k
  obtain ⟨i, j, rfl, rfl⟩ := h2 _ _ _ _ t
  cases px; cases py
  exact ⟨i, j, rfl, rfl, k.here r (.int _) (h1 _ _ _ _ t)⟩
theorem od_sub : OpD K (rI0 fun i j => .int (i - j)) dSub := od_I0 (fun _ _ _ _ h => h) fun x y _ _ h => by
  cases x <;> cases y <;> first | exact ⟨_, _, rfl, rfl⟩ | exact h.elim
theorem od_div : OpD K (rI CDivW fun i j => .int (i / j)) dDiv := od_I (fun _ _ _ _ h => h) fun x y _ _ h => by
  cases x <;> cases y <;> first | exact ⟨_, _, rfl, rfl⟩ | exact h.elim
theorem od_mod : OpD K (rI (fun _ j => 0 < j) fun i j => .int (i % j)) dMod := od_I (fun _ _ _ _ h => h) fun x y _ _ h => by
  cases x <;> cases y <;> first | exact ⟨_, _, rfl, rfl⟩ | exact h.elim
theorem od_pow : OpD K (rI CPow fun i j => .int (i ^ j.toNat)) dPow := od_I (fun _ _ _ _ h => h) fun x y _ _ h => by
  cases x <;> cases y <;> first | exact ⟨_, _, rfl, rfl⟩ | exact h.elim
def rMulA : R2 := fun x y H Q => rI CMul (fun i j => .int (i * j)) x y H Q ∨ rI CMulW (fun i j => .int (i * j)) x y H Q ∨ rRep x y H Q
theorem op_mulA : OpR X (binaryOp .Mult) rMulA := op_mul.or (op_mulW.or op_rep)
theorem flat_rep {G : Hp} {ds : List D} {vs : List V} (h : Rps K G ds vs) : ∀ n : Nat, Rps K G (List.replicate n ds).flatten (List.replicate n vs).flatten
  | 0 => .nil
  | n + 1 => by
    rw [List.replicate_succ, List.replicate_succ, List.flatten_cons, List.flatten_cons]
    exact h.append (flat_rep h n)
theorem od_mul (mt : Bool) : OpD K rMulA (dMul mt) := by
  intro G H F m x y vx vy QD Q r px py t k
  cases x with
  | int i => cases y with
    | int j =>
      cases px; cases py
      rcases t.1 with c | c
      · exact .inl ⟨i, j, rfl, rfl, c, k.here r (.int _) t.2⟩
      · exact .inr (.inl ⟨i, j, rfl, rfl, c, k.here r (.int _) t.2⟩)
    | _ => exact t.elim
  | lst xs => cases y with
    | int j =>
      cases py
      cases px with | lst h1 r1 =>
      obtain ⟨⟨t1, t2⟩, t3, t4⟩ := t
      refine .inr (.inr ⟨_, j, _, rfl, rfl, r.ext _ _ h1, t1, t2, by rw [← r1.length]; exact t3, fun p hp => ?_⟩)
      exact mkL_ok k r (flat_rep r1 _) hp t4
    | _ => exact t.elim
  | _ => exact t.elim
theorem ud_neg : UnD K (rU fun i => .int (-i)) dNeg := by
  intro G H F m x vx QD Q r px t k
  cases x with
  | int i => cases px; exact ⟨i, rfl, k.here r (.int _) t⟩
  | _ => exact t.elim
theorem de_add (mt : Bool) (ha : DE X W WD a ta) (hb : DE X W WD b tb) : DE X W WD (.BinOp a .Add b pos) (dOp (dAdd mt) ta tb) := PE.imp (pe_op op_addA ha hb) fun _ _ _ h => up_op (od_add mt) h
theorem de_sub (ha : DE X W WD a ta) (hb : DE X W WD b tb) : DE X W WD (.BinOp a .Sub b pos) (dOp dSub ta tb) := PE.imp (pe_op op_sub ha hb) fun _ _ _ h => up_op od_sub h
theorem de_mul (mt : Bool) (ha : DE X W WD a ta) (hb : DE X W WD b tb) : DE X W WD (.BinOp a .Mult b pos) (dOp (dMul mt) ta tb) := PE.imp (pe_op op_mulA ha hb) fun _ _ _ h => up_op (od_mul mt) h
theorem de_div (ha : DE X W WD a ta) (hb : DE X W WD b tb) : DE X W WD (.BinOp a .FloorDiv b pos) (dOp dDiv ta tb) := PE.imp (pe_op op_fdivW ha hb) fun _ _ _ h => up_op od_div h
theorem de_mod (ha : DE X W WD a ta) (hb : DE X W WD b tb) : DE X W WD (.BinOp a .Mod b pos) (dOp dMod ta tb) := PE.imp (pe_op op_mod ha hb) fun _ _ _ h => up_op od_mod h
theorem de_pow (ha : DE X W WD a ta) (hb : DE X W WD b tb) : DE X W WD (.BinOp a .Pow b pos) (dOp dPow ta tb) := PE.imp (pe_op op_pow ha hb) fun _ _ _ h => up_op od_pow h
theorem de_neg (ha : DE X W WD a ta) : DE X W WD (.UnaryOp .USub a pos) (dUn dNeg ta) := PE.imp (pe_un un_neg ha) fun _ _ _ h => up_un ud_neg h
end

mutual
def toP : D → Option PyData
  | .non => some .none
  | .bl b => some (.bool b)
  | .int i => some (.int i)
  | .str x => some (.str x)
  | .lst xs => (toPs xs).map .list
  | .rdl xs => (toPs xs).map .list
  | .tup xs => (toPs xs).map .tuple
  | .ty _ => none
  | .ref _ => none
  | .ins _ _ => none
  | .exn _ _ _ => none
  | .dki _ => none
  | .dti _ => none
  | .clo _ _ _ _ _ => none
  | .obj _ _ => none
def toPs : List D → Option (List PyData)
  | [] => some []
  | x :: xs => (toP x).bind fun d => (toPs xs).map fun ds => d :: ds
end
mutual
theorem dp_of {K : PySem.W.Frag} {G : Hp} : ∀ (d : D) (p : PyData) (v : V), toP d = some p → Rp K G d v → Dp K G v p
  | .non, p, v, e, r => by cases e; cases r; exact .non
  | .bl b, p, v, e, r => by cases e; cases r; exact .bl b
  | .int i, p, v, e, r => by cases e; cases r; exact .int i
  | .str x, p, v, e, r => by cases e; cases r; exact .str x
  | .lst xs, p, v, e, r => by
    unfold toP at e
    cases q : toPs xs with
    | none => rw [q] at e; cases e
    | some ps =>
      rw [q] at e; cases e
      cases r with | lst h1 r1 => exact .lst (SqL.of h1) (dps_of xs ps _ q r1)
  | .rdl xs, p, v, e, r => by
    unfold toP at e
    cases q : toPs xs with
    | none => rw [q] at e; cases e
    | some ps =>
      rw [q] at e; cases e
      cases r with | rdl h1 r1 => exact .lst h1 (dps_of xs ps _ q r1)
  | .tup xs, p, v, e, r => by
    unfold toP at e
    cases q : toPs xs with
    | none => rw [q] at e; cases e
    | some ps =>
      rw [q] at e; cases e
      cases r with | tup h1 r1 => exact .tup h1 (dps_of xs ps _ q r1)
  | .ty _, p, v, e, r => by unfold toP at e; cases e
  | .ref _, p, v, e, r => by unfold toP at e; cases e
  | .ins _ _, p, v, e, r => by unfold toP at e; cases e
  | .exn _ _ _, p, v, e, r => by unfold toP at e; cases e
  | .dki _, p, v, e, r => by unfold toP at e; cases e
  | .dti _, p, v, e, r => by unfold toP at e; cases e
  | .clo _ _ _ _ _, p, v, e, r => by unfold toP at e; cases e
  | .obj _ _, p, v, e, r => by unfold toP at e; cases e
theorem dps_of {K : PySem.W.Frag} {G : Hp} : ∀ (ds : List D) (ps : List PyData) (vs : List V), toPs ds = some ps → Rps K G ds vs → DpAll K G vs ps
  | [], ps, vs, e, r => by unfold toPs at e; cases e; cases r; exact .nil
  | x :: xs, ps, vs, e, r => by
    unfold toPs at e
    cases q : toP x with
    | none => rw [q] at e; cases e
    | some d =>
      rw [q] at e
      cases q2 : toPs xs with
      | none => rw [q2] at e; cases e
      | some ds =>
        rw [q2] at e; cases e
        cases r with | cons r1 r2 => exact .cons (dp_of x d _ q r1) (dps_of xs ds _ q2 r2)
end
mutual
theorem Dp.same {K : PySem.W.Frag} {G H : Hp} (e : Same G H) : ∀ {v : V} {p : PyData}, Dp K G v p → Dp K H v p
  | _, _, .non => .non
  | _, _, .bl b => .bl b
  | _, _, .int i => .int i
  | _, _, .str x => .str x
  | _, _, .lst h r => .lst (e.seq h) (DpAll.same e r)
  | _, _, .tup h r => .tup (same_sqt e h) (DpAll.same e r)
theorem DpAll.same {K : PySem.W.Frag} {G H : Hp} (e : Same G H) : ∀ {v : List V} {p : List PyData}, DpAll K G v p → DpAll K H v p
  | _, _, .nil => .nil
  | _, _, .cons a b => .cons (Dp.same e a) (DpAll.same e b)
end
def datOf (m : M) : D → Option PyData
  | .ref a => (m a).bind fun o => match o with
    | .lst xs => (toPs xs).map .list
    | _ => none
  | d => toP d
theorem dat_ok {K : PySem.W.Frag} {G H F : Hp} {m : M} {d : D} {v : V} {p : PyData} (r : Rep K G H F m) (h : Rp K G d v) (e : datOf m d = some p) : Dp K H v p := by
  cases d with
  | ref a =>
    cases h
    dsimp only [datOf] at e
    cases q : m a with
    | none => rw [q] at e; cases e
    | some o =>
      rw [q] at e
      cases o with
      | lst xs =>
        obtain ⟨_, _, u, h3, h4⟩ := r.mo a _ q
        obtain ⟨vs, rfl, h4⟩ := h4.ofLst
        have e2 : (toPs xs).map PyData.list = some p := e
        cases q2 : toPs xs with
        | none => rw [q2] at e2; cases e2
        | some ps =>
          rw [q2] at e2; cases e2
          exact .lst (SqL.of h3) (DpAll.same r.ext (dps_of xs ps vs q2 h4))
      | _ => cases e
  | _ => exact Dp.same r.ext (dp_of _ p v e h)
def dEqB : D → D → Option Bool
  | .int i, .int j => some (decide (i = j))
  | .str i, .str j => some (decide (i = j))
  | .bl i, .bl j => some (decide (i = j))
  | .non, .non => some true
  | .non, .int _ => some false
  | .int _, .non => some false
  | .non, .str _ => some false
  | .str _, .non => some false
  | .non, .bl _ => some false
  | .bl _, .non => some false
  | .int _, .str _ => some false
  | .str _, .int _ => some false
  | _, _ => none
def dEq : DR2 := fun x y m Q => match dEqB x y with
  | some b => Q (.bl b) m
  | none => ∃ p q, datOf m x = some p ∧ datOf m y = some q ∧ SeqAt.shaped p = true ∧ SeqAt.shaped q = true ∧ Q (.bl (PyData.eqv p q)) m
def dNe : DR2 := fun x y m Q => match dEqB x y with
  | some b => Q (.bl (!b)) m
  | none => ∃ p q, datOf m x = some p ∧ datOf m y = some q ∧ SeqAt.shaped p = true ∧ SeqAt.shaped q = true ∧ Q (.bl (!PyData.eqv p q)) m
section
variable {K : PySem.W.Frag} {X : Cx} {W : WX} {WD : DWX} {a b c : Expr} {ta tb tc : DTE} {pos : Pos}
theorem dEqB_scal {G : Hp} {x y : D} {vx vy : V} {b : Bool} (h : dEqB x y = some b) (px : Rp K G x vx) (py : Rp K G y vy) : scal vx vy = true ∧ decide (vx = vy) = b := by
  cases x <;> cases y <;> first
    | (cases px; cases py; cases h; constructor
       · rfl
       · first | rfl | (simp))
    | cases h
def rEqA (K : PySem.W.Frag) : R2 := fun x y H Q => rEq x y H Q ∨ rEqD K x y H Q
def rNeA (K : PySem.W.Frag) : R2 := fun x y H Q => rNe x y H Q ∨ rNeD K x y H Q
theorem od_eq : OpD K (rEqA K) dEq := by
  intro G H F m x y vx vy QD Q r px py t k
  unfold dEq at t
  cases e : dEqB x y with
  | some b =>
    rw [e] at t
    obtain ⟨h1, h2⟩ := dEqB_scal e px py
    exact .inl ⟨h1, by rw [h2]; exact k.here r (.bl _) t⟩
  | none =>
    rw [e] at t
    obtain ⟨p, q, e1, e2, s1, s2, t⟩ := t
    exact .inr ⟨p, q, dat_ok r px e1, dat_ok r py e2, s1, s2, k.here r (.bl _) t⟩
theorem od_ne : OpD K (rNeA K) dNe := by
  intro G H F m x y vx vy QD Q r px py t k
  unfold dNe at t
  cases e : dEqB x y with
  | some b =>
    rw [e] at t
    obtain ⟨h1, h2⟩ := dEqB_scal e px py
    exact .inl ⟨h1, by rw [h2]; exact k.here r (.bl _) t⟩
  | none =>
    rw [e] at t
    obtain ⟨p, q, e1, e2, s1, s2, t⟩ := t
    exact .inr ⟨p, q, dat_ok r px e1, dat_ok r py e2, s1, s2, k.here r (.bl _) t⟩
theorem op_eqA (hu : X.A.units + 64 < cLine) : OpR X (compareOp .Eq) (rEqA X.K) := op_eq.or (op_eqD hu)
theorem op_neA (hu : X.A.units + 64 < cLine) : OpR X (compareOp .NotEq) (rNeA X.K) := op_ne.or (op_neD hu)
def dCmpI (f : Int → Int → Bool) : DR2
  | .int i, .int j, m, Q => Q (.bl (f i j)) m
  | _, _, _, _ => False
theorem od_cmpI {f : Int → Int → Bool} : OpD K (rI0 fun i j => .bl (f i j)) (dCmpI f) := by
  intro G H F m x y vx vy QD Q r px py t k
  cases x with
  | int i => cases y with
    | int j => cases px; cases py; exact ⟨i, j, rfl, rfl, k.here r (.bl _) t⟩
    | _ => exact t.elim
  | _ => exact t.elim
abbrev dLt : DR2 := dCmpI fun i j => decide (i < j)
abbrev dLe : DR2 := dCmpI fun i j => decide (i ≤ j)
abbrev dGt : DR2 := dCmpI fun i j => decide (j < i)
abbrev dGe : DR2 := dCmpI fun i j => decide (j ≤ i)
def dIsN : DR2 := fun x y m Q => y = .non ∧ (match x with
  | .non => Q (.bl true) m
  | _ => Q (.bl false) m)
def dNotN : DR2 := fun x y m Q => y = .non ∧ (match x with
  | .non => Q (.bl false) m
  | _ => Q (.bl true) m)
theorem od_isN : OpD K (fun x y H Q => y = .non ∧ Q (.bl (decide (x = .non))) H) dIsN := by
  intro G H F m x y vx vy QD Q r px py t k
  obtain ⟨rfl, t⟩ := t
  cases py
  refine ⟨rfl, ?_⟩
  cases px <;> exact k.here r (.bl _) t
theorem de_cmp {op : CmpOp} {r : R2} {rd : DR2} (ho : OpR X (compareOp op) r) (hd : OpD X.K r rd) (ha : DE X W WD a ta) (hb : DE X W WD b tb) (hm : behindInMarks op b = false) : DE X W WD (.Compare a [op] [b] pos) (dOp rd ta tb) :=
  PE.imp (pe_cmpR ho ha hb hm) fun _ _ _ h => up_op hd h
def dTest (t : DTE) : DTT := fun r m Q => t r m fun d m1 => ∃ b, d = .bl b ∧ Q b m1
theorem upT_test {K : PySem.W.Frag} {t : DTE} {σ : L2.St} {H : Hp} {Q : Bool → Hp → Prop} (h : upT K W WD (dTest t) σ H Q) : tTest (up K W WD t) σ H Q := by
  obtain ⟨G, F, ρ, m, QD, x, t, k⟩ := h
  refine ⟨G, F, ρ, m, _, x, t, fun G1 H1 m1 d1 v1 e1 r1 p1 t1 => ?_⟩
  obtain ⟨b, rfl, t2⟩ := t1
  cases p1
  exact ⟨b, rfl, k G1 H1 m1 b e1 r1 t2⟩
theorem tTest_imp {t t' : TE} {σ : L2.St} {H : Hp} {Q : Bool → Hp → Prop} (h : tTest t' σ H Q) (i : ∀ Q, t' σ H Q → t σ H Q) : tTest t σ H Q := i _ h
theorem dt_cmp {op : CmpOp} {r : R2} {rd : DR2} (ho : OpR X (compareOp op) r) (hd : OpD X.K r rd) (ha : DE X W WD a ta) (hb : DE X W WD b tb) (hm : behindInMarks op b = false) : DT X W WD (.Compare a [op] [b] pos) (dTest (dOp rd ta tb)) :=
  PT.imp (pt_cmpR ho ha hb hm) fun _ _ _ h => tTest_imp (upT_test h) fun _ q => up_op hd q
def dChain (rd rd' : DR2) (ta tb tc : DTE) : DTE := fun r m Q => ta r m fun x m1 => tb r m1 fun y m2 => rd x y m2 fun z m3 => ∃ k, z = .bl k ∧ (if k = true then tc r m3 fun w m4 => rd' y w m4 Q else Q (.bl false) m3)
theorem up_chain {K : PySem.W.Frag} {r r' : R2} {rd rd' : DR2} {ta tb tc : DTE} {σ : L2.St} {H : Hp} {Q : VK} (hd : OpD K r rd) (hd' : OpD K r' rd') (h : up K W WD (dChain rd rd' ta tb tc) σ H Q) : tChain r r' (up K W WD ta) (up K W WD tb) (up K W WD tc) σ H Q := by
  obtain ⟨G, F, ρ, m, QD, x, t, k⟩ := h
  refine ⟨G, F, ρ, m, _, x, t, fun G1 H1 m1 d1 v1 e1 r1 p1 t1 => ?_⟩
  refine ⟨G1, F, ρ, m1, _, x.step e1 r1, t1, fun G2 H2 m2 d2 v2 e2 r2 p2 t2 => ?_⟩
  refine hd G2 H2 F m2 d1 d2 v1 v2 _ _ r2 (p1.mono e2) p2 t2 fun G3 H3 m3 d3 v3 e3 r3 p3 t3 => ?_
  obtain ⟨b, rfl, t4⟩ := t3
  cases p3
  refine ⟨b, rfl, ?_⟩
  cases b with
  | false => exact k G3 H3 m3 _ _ ((e1.trans e2).trans e3) r3 (.bl _) t4
  | true =>
    refine ⟨G3, F, ρ, m3, _, x.step ((e1.trans e2).trans e3) r3, t4, fun G4 H4 m4 d4 v4 e4 r4 p4 t5 => ?_⟩
    exact hd' G4 H4 F m4 d2 d4 v2 v4 QD Q r4 (p2.mono (e3.trans e4)) p4 t5 (k.mono (((e1.trans e2).trans e3).trans e4))
theorem dt_chain {op op' : CmpOp} {r r' : R2} {rd rd' : DR2} (ho : OpR X (compareOp op) r) (hd : OpD X.K r rd) (ho' : OpR X (compareOp op') r') (hd' : OpD X.K r' rd') (ha : DE X W WD a ta) (hb : DE X W WD b tb) (hc : DE X W WD c tc)
    (hm : lastMarks [op, op'] [b, c] = false := by with_unfolding_all rfl) : DT X W WD (.Compare a [op, op'] [b, c] pos) (dTest (dChain rd rd' ta tb tc)) := PT.imp (pt_chain ho ho' ha hb hc hm) fun _ _ _ h => tTest_imp (upT_test h) fun _ q => up_chain hd hd' q
end
def dTruB (m : M) : D → Option Bool
  | .non => some false
  | .bl b => some b
  | .int i => some (i != 0)
  | .str z => if z.length ≤ sizeLine then some ((z.length : Int) != 0) else none
  | .lst xs => some (!xs.isEmpty)
  | .rdl xs => some (!xs.isEmpty)
  | .tup xs => some (!xs.isEmpty)
  | .ref a => (m a).bind fun o => match o with
    | .lst xs => some (!xs.isEmpty)
    | _ => none
  | _ => none
def dTru (t : DTE) : DTT := fun r m Q => t r m fun d m1 => ∃ b, dTruB m1 d = some b ∧ Q b m1
theorem isEmpty_rps {K : PySem.W.Frag} {G : Hp} {ds : List D} {vs : List V} (h : Rps K G ds vs) : ds.isEmpty = vs.isEmpty := by cases h <;> rfl
theorem tru_of {K : PySem.W.Frag} {G H F : Hp} {m : M} {d : D} {v : V} {b : Bool} (r : Rep K G H F m) (p : Rp K G d v) (e : dTruB m d = some b) : TruV K v H b := by
  cases d with
  | non => cases p; cases e; exact rfl
  | bl x => cases p; cases e; exact rfl
  | int i => cases p; cases e; exact rfl
  | str z =>
    cases p
    dsimp only [dTruB] at e
    by_cases hz : z.length ≤ sizeLine
    · rw [if_pos hz] at e; cases e; exact ⟨hz, rfl⟩
    · rw [if_neg hz] at e; cases e
  | lst xs => cases p with | lst h1 r1 => cases e; exact .inl ⟨_, SqL.of (r.ext _ _ h1), by rw [isEmpty_rps r1]⟩
  | rdl xs => cases p with | rdl h1 r1 => cases e; exact .inl ⟨_, r.ext.seq h1, by rw [isEmpty_rps r1]⟩
  | tup xs => cases p with | tup h1 r1 => cases e; exact .inr (.inl ⟨_, same_sqt r.ext h1, by rw [isEmpty_rps r1]⟩)
  | ref a =>
    cases p
    dsimp only [dTruB] at e
    cases q : m a with
    | none => rw [q] at e; cases e
    | some o =>
      rw [q] at e
      cases o with
      | lst xs =>
        obtain ⟨_, _, u, h3, h4⟩ := r.mo a _ q
        obtain ⟨vs, rfl, h4⟩ := h4.ofLst
        cases e
        exact .inl ⟨_, SqL.of h3, by rw [isEmpty_rps h4]⟩
      | _ => cases e
  | _ => cases e
section
variable {X : Cx} {W : WX} {WD : DWX} {a b : Expr} {ta tb : DTE} {pos : Pos} {t u : DTT} {rest : List Expr}
theorem dt_tru (ha : DE X W WD a ta) (he : ∀ whole, isTrue a X.env whole = (do let v ← whole; standAt a.pos; holding [v] (truthy v)) := by intro _; rfl) : DT X W WD a (dTru ta) := by
  refine PT.imp (pt_truth ha he) fun σ H Q h => ?_
  obtain ⟨G, F, ρ, m, QD, x, t, k⟩ := h
  refine ⟨G, F, ρ, m, _, x, t, fun G1 H1 m1 d1 v1 e1 r1 p1 t1 => ?_⟩
  obtain ⟨b, e, t2⟩ := t1
  exact ⟨b, tru_of r1 p1 e, k G1 H1 m1 b e1 r1 t2⟩
def dAnd (t u : DTT) : DTT := fun r m Q => t r m fun c m1 => if c = true then u r m1 Q else Q false m1
def dOr (t u : DTT) : DTT := fun r m Q => t r m fun c m1 => if c = true then Q true m1 else u r m1 Q
def dNot (t : DTT) : DTT := fun r m Q => t r m fun c m1 => Q (!c) m1
theorem dw_and1 (ha : DT X W WD a t) : DW X W WD (.BoolOp .And [a] pos) t := pw_and1 ha
theorem dw_or1 (ha : DT X W WD a t) : DW X W WD (.BoolOp .Or [a] pos) t := pw_or1 ha
theorem dw_and (ha : DT X W WD a t) (hb : DW X W WD (.BoolOp .And (b :: rest) pos) u) : DW X W WD (.BoolOp .And (a :: b :: rest) pos) (dAnd t u) := by
  refine PW.imp (pw_and ha hb) fun σ H Q h => ?_
  obtain ⟨G, F, ρ, m, QD, x, t, k⟩ := h
  refine ⟨G, F, ρ, m, _, x, t, fun G1 H1 m1 b e1 r1 t1 => ?_⟩
  cases b with
  | false => exact k G1 H1 m1 false e1 r1 t1
  | true => exact ⟨G1, F, ρ, m1, QD, x.step e1 r1, t1, fun G2 H2 m2 b e2 r2 t2 => k G2 H2 m2 b (e1.trans e2) r2 t2⟩
theorem dw_or (ha : DT X W WD a t) (hb : DW X W WD (.BoolOp .Or (b :: rest) pos) u) : DW X W WD (.BoolOp .Or (a :: b :: rest) pos) (dOr t u) := by
  refine PW.imp (pw_or ha hb) fun σ H Q h => ?_
  obtain ⟨G, F, ρ, m, QD, x, t, k⟩ := h
  refine ⟨G, F, ρ, m, _, x, t, fun G1 H1 m1 b e1 r1 t1 => ?_⟩
  cases b with
  | true => exact k G1 H1 m1 true e1 r1 t1
  | false => exact ⟨G1, F, ρ, m1, QD, x.step e1 r1, t1, fun G2 H2 m2 b e2 r2 t2 => k G2 H2 m2 b (e1.trans e2) r2 t2⟩
theorem dt_w (h : DW X W WD a t) : DT X W WD a t := PW.pt h
theorem dt_not (ha : DT X W WD a t) : DT X W WD (.UnaryOp .Not a pos) (dNot t) := by
  refine PT.imp (pt_not ha) fun σ H Q h => ?_
  obtain ⟨G, F, ρ, m, QD, x, t, k⟩ := h
  exact ⟨G, F, ρ, m, _, x, t, fun G1 H1 m1 b e1 r1 t1 => k G1 H1 m1 (!b) e1 r1 t1⟩
def dAndV (ta tb : DTE) : DTE := fun r m Q => ta r m fun d m1 => ∃ c, d = .bl c ∧ if c = true then tb r m1 Q else Q (.bl false) m1
def dOrV (ta tb : DTE) : DTE := fun r m Q => ta r m fun d m1 => ∃ c, d = .bl c ∧ if c = true then Q (.bl true) m1 else tb r m1 Q
def dNotV (ta : DTE) : DTE := fun r m Q => ta r m fun d m1 => ∃ c, d = .bl c ∧ Q (.bl (!c)) m1
theorem de_one {op} (h : DE X W WD a ta) : DE X W WD (.BoolOp op [a] pos) ta := pe_one h
theorem de_and (ha : DE X W WD a ta) (hb : DE X W WD (.BoolOp .And (b :: rest) pos) tb) : DE X W WD (.BoolOp .And (a :: b :: rest) pos) (dAndV ta tb) := by
  refine PE.imp (pe_and ha hb) fun σ H Q h => ?_
  obtain ⟨G, F, ρ, m, QD, x, t, k⟩ := h
  refine ⟨G, F, ρ, m, _, x, t, fun G1 H1 m1 d1 v1 e1 r1 p1 t1 => ?_⟩
  obtain ⟨c, rfl, t2⟩ := t1
  cases p1
  refine ⟨c, rfl, ?_⟩
  cases c with
  | true => exact ⟨G1, F, ρ, m1, QD, x.step e1 r1, t2, k.mono e1⟩
  | false => exact k G1 H1 m1 _ _ e1 r1 (.bl _) t2
theorem de_or (ha : DE X W WD a ta) (hb : DE X W WD (.BoolOp .Or (b :: rest) pos) tb) : DE X W WD (.BoolOp .Or (a :: b :: rest) pos) (dOrV ta tb) := by
  refine PE.imp (pe_or ha hb) fun σ H Q h => ?_
  obtain ⟨G, F, ρ, m, QD, x, t, k⟩ := h
  refine ⟨G, F, ρ, m, _, x, t, fun G1 H1 m1 d1 v1 e1 r1 p1 t1 => ?_⟩
  obtain ⟨c, rfl, t2⟩ := t1
  cases p1
  refine ⟨c, rfl, ?_⟩
  cases c with
  | false => exact ⟨G1, F, ρ, m1, QD, x.step e1 r1, t2, k.mono e1⟩
  | true => exact k G1 H1 m1 _ _ e1 r1 (.bl _) t2
def dIf (t : DTT) (ta tb : DTE) : DTE := fun r m Q => t r m fun c m1 => if c = true then ta r m1 Q else tb r m1 Q
theorem de_ifExp {c : Expr} (hc : DT X W WD c t) (ha : DE X W WD a ta) (hb : DE X W WD b tb) : DE X W WD (.IfExp c a b pos) (dIf t ta tb) := by
  refine PE.imp (pe_ifExp hc ha hb) fun σ H Q h => ?_
  obtain ⟨G, F, ρ, m, QD, x, t, k⟩ := h
  refine ⟨G, F, ρ, m, _, x, t, fun G1 H1 m1 b e1 r1 t1 => ?_⟩
  cases b with
  | true => exact ⟨G1, F, ρ, m1, QD, x.step e1 r1, t1, k.mono e1⟩
  | false => exact ⟨G1, F, ρ, m1, QD, x.step e1 r1, t1, k.mono e1⟩
end
end DL

set_option Elab.async false
set_option linter.all false
set_option maxRecDepth 100000
set_option maxHeartbeats 4000000
namespace DL
open PySem PySem.Spec PyProof.Rows L2

def daNil : DTA := fun _ m Q => Q [] m
def daCons (ta : DTE) (tr : DTA) : DTA := fun r m Q => ta r m fun x m1 => tr r m1 fun xs m2 => Q (x :: xs) m2
section
variable {X : Cx} {W : WX} {WD : DWX} {e : Expr} {es : List Expr} {te : DTE} {t : DTA} {pos : Pos}
theorem da_nil : DA X W WD [] daNil := by
  refine PA.imp pa_nil fun σ H Q h => ?_
  obtain ⟨G, F, ρ, m, QD, x, t, k⟩ := h
  exact k G H m [] [] (Same.refl G) x.rep .nil t
theorem da_cons (ha : DE X W WD e te) (hr : DA X W WD es t) (hs : starEach (e :: es) X.env = (false, eval e X.env) :: starEach es X.env := by rfl) : DA X W WD (e :: es) (daCons te t) := by
  refine PA.imp (pa_cons ha hr hs) fun σ H Q h => ?_
  obtain ⟨G, F, ρ, m, QD, x, t, k⟩ := h
  refine ⟨G, F, ρ, m, _, x, t, fun G1 H1 m1 d1 v1 e1 r1 p1 t1 => ?_⟩
  exact ⟨G1, F, ρ, m1, _, x.step e1 r1, t1, fun G2 H2 m2 ds vs e2 r2 p2 t2 => k G2 H2 m2 (d1 :: ds) (v1 :: vs) (e1.trans e2) r2 (.cons (p1.mono e2) p2) t2⟩
def dTup (t : DTA) : DTE := fun r m Q => t r m fun xs m1 => xs.length ≤ sizeLine ∧ Q (.tup xs) m1
def dLst (mt : Bool) (t : DTA) : DTE := fun r m Q => t r m fun xs m1 => xs.length ≤ sizeLine ∧ mkL mt xs m1 Q
theorem de_tup {x1} (h : DA X W WD es t) : DE X W WD (.Tuple es x1 pos) (dTup t) := by
  refine PE.imp (pe_tup h) fun σ H Q h => ?_
  obtain ⟨G, F, ρ, m, QD, x, t, k⟩ := h
  refine ⟨G, F, ρ, m, _, x, t, fun G1 H1 m1 ds vs e1 r1 p1 t1 => ⟨by rw [← p1.length]; exact t1.1, fun p hp => ?_⟩⟩
  exact mkT_ok (k.mono e1) r1 p1 hp t1.2
theorem de_lst (mt : Bool) (h : DA X W WD es t) : DE X W WD (.List es pos) (dLst mt t) := by
  refine PE.imp (pe_lst h) fun σ H Q h => ?_
  obtain ⟨G, F, ρ, m, QD, x, t, k⟩ := h
  refine ⟨G, F, ρ, m, _, x, t, fun G1 H1 m1 ds vs e1 r1 p1 t1 => ⟨by rw [← p1.length]; exact t1.1, fun p hp => ?_⟩⟩
  exact mkL_ok (k.mono e1) r1 p1 hp t1.2
end

def lsOf (m : M) : D → Option (List D)
  | .lst xs => some xs
  | .rdl xs => some xs
  | .ref a => (m a).bind fun o => match o with
    | .lst xs => some xs
    | _ => none
  | _ => none
theorem lsOf_ref {m : M} {a : Addr} {xs : List D} (h : m a = some (.lst xs)) : lsOf m (.ref a) = some xs := by
  dsimp only [lsOf]; rw [h]; rfl
theorem ls_ok {K : PySem.W.Frag} {G H F : Hp} {m : M} {d : D} {v : V} {xs : List D} (r : Rep K G H F m) (p : Rp K G d v) (e : lsOf m d = some xs) : ∃ a vs, v = .ref a ∧ SqL K H a vs ∧ Rps K G xs vs := by
  cases d with
  | lst ys => cases e; cases p with | lst h1 r1 => exact ⟨_, _, rfl, SqL.of (r.ext _ _ h1), r1⟩
  | rdl ys => cases e; cases p with | rdl h1 r1 => exact ⟨_, _, rfl, r.ext.seq h1, r1⟩
  | ref a =>
    cases p
    dsimp only [lsOf] at e
    cases q : m a with
    | none => rw [q] at e; cases e
    | some o =>
      rw [q] at e
      cases o with
      | lst zs =>
        obtain ⟨_, _, u, h3, h4⟩ := r.mo a _ q
        obtain ⟨vs, rfl, h4⟩ := h4.ofLst
        cases e
        exact ⟨_, _, rfl, SqL.of h3, h4⟩
      | _ => cases e
  | _ => cases e
def sqOf (m : M) : D → Option (List D)
  | .tup xs => some xs
  | d => lsOf m d
theorem sq_ok {K : PySem.W.Frag} {G H F : Hp} {m : M} {d : D} {v : V} {xs : List D} (r : Rep K G H F m) (p : Rp K G d v) (e : sqOf m d = some xs) : ∃ a vs, v = .ref a ∧ (SqL K H a vs ∨ SqT K H a vs) ∧ Rps K G xs vs := by
  cases d with
  | tup ys => cases e; cases p with | tup h1 r1 => exact ⟨_, _, rfl, .inr (same_sqt r.ext h1), r1⟩
  | _ =>
    obtain ⟨a, vs, h1, h2, h3⟩ := ls_ok r p e
    exact ⟨a, vs, h1, .inl h2, h3⟩
theorem rps_atI {K : PySem.W.Frag} {G : Hp} {ds : List D} {vs : List V} {i : Int} {d : D} (r : Rps K G ds vs) (h : atI ds i = some d) : ∃ v, atI vs i = some v ∧ Rp K G d v := by
  unfold atI at h ⊢
  rw [← r.length]
  cases q : ixN ds.length i with
  | none => rw [q] at h; cases h
  | some j =>
    rw [q] at h
    exact r.get (i := j) h
def dIx : DR2 := fun x y m Q => ∃ i, y = .int i ∧ match x with
  | .str z => z.length ≤ sizeLine ∧ ∃ c, atI z.cps.toList i = some c ∧ Q (.str ⟨#[c]⟩) m
  | x => ∃ xs d, sqOf m x = some xs ∧ atI xs i = some d ∧ Q d m
section
variable {K : PySem.W.Frag} {X : Cx} {W : WX} {WD : DWX} {a b e : Expr} {ta tb te : DTE} {pos : Pos}
theorem od_ix : OpD K (rIx K) dIx := by
  intro G H F m x y vx vy QD Q r px py t k
  obtain ⟨i, rfl, t⟩ := t
  cases py
  have go : (∃ xs d, sqOf m x = some xs ∧ atI xs i = some d ∧ QD d m) → rIx K vx (.int i) H Q := by
    rintro ⟨xs, d, e, h, t⟩
    obtain ⟨a, vs, rfl, hs, rs⟩ := sq_ok r px e
    obtain ⟨v, h1, h2⟩ := rps_atI rs h
    rcases hs with hs | hs
    · exact .inl ⟨a, vs, i, v, rfl, rfl, hs, h1, k.here r h2 t⟩
    · exact .inr (.inl ⟨a, vs, i, v, rfl, rfl, hs, h1, k.here r h2 t⟩)
  cases x with
  | str z =>
    cases px
    obtain ⟨hz, c, hc, t⟩ := t
    exact .inr (.inr ⟨z, i, c, rfl, rfl, hz, hc, k.here r (.str _) t⟩)
  | _ => exact go t
theorem de_ix (ha : DE X W WD a ta) (hb : DE X W WD b tb) (hs : PlainIx b := by intro _ _; rfl) : DE X W WD (.Subscript a b pos) (dOp dIx ta tb) := PE.imp (pe_ix ix_seq ha hb hs) fun _ _ _ h => up_op od_ix h
def doNone : DO := fun _ m Q => Q none m
def doSome (t : DTE) : DO := fun r m Q => t r m fun d m1 => ∃ i, d = .int i ∧ Q (some i) m1
theorem do_none : DOp X W WD none doNone := by
  refine PO.imp po_none fun σ H Q h => ?_
  obtain ⟨G, F, ρ, m, QD, x, t, k⟩ := h
  exact k G H m none (Same.refl G) x.rep t
theorem do_some (h : DE X W WD e te) : DOp X W WD (some e) (doSome te) := by
  refine PO.imp (po_some h) fun σ H Q h => ?_
  obtain ⟨G, F, ρ, m, QD, x, t, k⟩ := h
  refine ⟨G, F, ρ, m, _, x, t, fun G1 H1 m1 d1 v1 e1 r1 p1 t1 => ?_⟩
  obtain ⟨i, rfl, t2⟩ := t1
  cases p1
  exact ⟨i, rfl, k G1 H1 m1 (some i) e1 r1 t2⟩
def cutD {α : Type} (xs : List α) (lo hi : Option Int) : List α := (xs.drop (HT.sIx xs.length 0 lo)).take (HT.sIx xs.length xs.length hi - HT.sIx xs.length 0 lo)
theorem cut_rps {G : Hp} {ds : List D} {vs : List V} (r : Rps K G ds vs) (lo hi : Option Int) : Rps K G (cutD ds lo hi) (cutV vs lo hi) := by
  unfold cutD cutV
  rw [r.length]
  exact (r.drop _).take _
def dSl (mt : Bool) (x : D) (lo hi : Option Int) (m : M) (Q : D → M → Prop) : Prop := match x with
  | .str z => z.length ≤ sizeLine ∧ Q (.str (cutS z lo hi)) m
  | .tup xs => ¬ (HT.sIx xs.length 0 lo = 0 ∧ HT.sIx xs.length xs.length hi = xs.length) ∧ Q (.tup (cutD xs lo hi)) m
  | x => ∃ xs, lsOf m x = some xs ∧ mkL mt (cutD xs lo hi) m Q
def rSlA (K : PySem.W.Frag) : V → Option Int → Option Int → Hp → VK → Prop := fun x lo hi H Q => rSlL K x lo hi H Q ∨ rSlT K x lo hi H Q ∨ rSlS x lo hi H Q
theorem sl_any : SlR X (rSlA X.K) := sl_list.or (sl_tup.or sl_str)
theorem sl_ok {G H F : Hp} {m : M} {x : D} {vx : V} {mt : Bool} {lo hi : Option Int} {QD : D → M → Prop} {Q : VK} (r : Rep K G H F m) (px : Rp K G x vx) (t : dSl mt x lo hi m QD) (k : Kv K G F QD Q) : rSlA K vx lo hi H Q := by
  have go : (∃ xs, lsOf m x = some xs ∧ mkL mt (cutD xs lo hi) m QD) → rSlA K vx lo hi H Q := by
    rintro ⟨xs, e, t⟩
    obtain ⟨a, vs, rfl, hs, rs⟩ := ls_ok r px e
    exact .inl ⟨a, vs, rfl, hs, fun p hp => mkL_ok k r (cut_rps rs lo hi) hp t⟩
  cases x with
  | str z => cases px; exact .inr (.inr ⟨z, rfl, t.1, k.here r (.str _) t.2⟩)
  | tup xs =>
    cases px with | tup h1 r1 =>
    refine .inr (.inl ⟨_, _, rfl, same_sqt r.ext h1, by rw [← r1.length]; exact t.1, fun p hp => mkT_ok k r (cut_rps r1 lo hi) hp t.2⟩)
  | _ => exact go t
def dSlice (mt : Bool) (te : DTE) (tl th : DO) : DTE := fun r m Q => te r m fun x m1 => tl r m1 fun l m2 => th r m2 fun u m3 => dSl mt x l u m3 Q
theorem de_slice (mt : Bool) {lo hi : Option Expr} {tl th : DO} {p2 : Pos} (he : DE X W WD e te) (hl : DOp X W WD lo tl) (hu : DOp X W WD hi th) : DE X W WD (.Subscript e (.Slice lo hi none p2) pos) (dSlice mt te tl th) := by
  refine PE.imp (pe_slice sl_any he hl hu) fun σ H Q h => ?_
  obtain ⟨G, F, ρ, m, QD, x, t, k⟩ := h
  refine ⟨G, F, ρ, m, _, x, t, fun G1 H1 m1 d1 v1 e1 r1 p1 t1 => ?_⟩
  refine ⟨G1, F, ρ, m1, _, x.step e1 r1, t1, fun G2 H2 m2 l e2 r2 t2 => ?_⟩
  refine ⟨G2, F, ρ, m2, _, x.step (e1.trans e2) r2, t2, fun G3 H3 m3 u e3 r3 t3 => ?_⟩
  exact sl_ok r3 (p1.mono (e2.trans e3)) t3 (k.mono ((e1.trans e2).trans e3))
def flatD : D → Bool
  | .non => true
  | .bl _ => true
  | .int _ => true
  | .str _ => true
  | _ => false
def eqD : D → D → Bool
  | .non, .non => true
  | .bl a, .bl b => a == b
  | .bl a, .int b => (if a then 1 else 0) == b
  | .int a, .bl b => a == (if b then 1 else 0)
  | .int a, .int b => a == b
  | .str a, .str b => a == b
  | _, _ => false
def inD (x : D) (xs : List D) : Bool := xs.any fun y => eqD y x
theorem flat_ok {G : Hp} {d : D} {v : V} (p : Rp K G d v) (h : flatD d = true) : flatV v = true := by
  cases p <;> first | rfl | cases h
theorem eqD_ok {G : Hp} {d e : D} {v u : V} (p : Rp K G d v) (q : Rp K G e u) (h : flatD d = true) (h2 : flatD e = true) : eqV v u = eqD d e := by
  cases p <;> first | (cases q <;> first | rfl | cases h2) | cases h
theorem flats_ok {G : Hp} : ∀ {ds : List D} {vs : List V}, Rps K G ds vs → ds.all flatD = true → vs.all flatV = true
  | _, _, .nil, _ => rfl
  | _, _, .cons r t, h => by
    rw [List.all_cons, Bool.and_eq_true] at h ⊢
    exact ⟨flat_ok r h.1, flats_ok t h.2⟩
theorem inD_ok {G : Hp} {x : D} {vx : V} (p : Rp K G x vx) (hx : flatD x = true) : ∀ {ds : List D} {vs : List V}, Rps K G ds vs → ds.all flatD = true → inV vx vs = inD x ds
  | _, _, .nil, _ => rfl
  | _, _, .cons (d := d) (v := v) r t, h => by
    rw [List.all_cons, Bool.and_eq_true] at h
    have ih := inD_ok p hx t h.2
    unfold inV inD at ih ⊢
    rw [List.any_cons, List.any_cons, ih, eqD_ok r p h.1 hx]
def dIn (neg : Bool) : DR2 := fun x y m Q => match x, y with
  | .str i, .str j => Q (.bl (if neg then !(!(Builtin.Str.occurrences j i 0 j.length 1).isEmpty) else !(Builtin.Str.occurrences j i 0 j.length 1).isEmpty)) m
  | x, y => ∃ xs, sqOf m y = some xs ∧ flatD x = true ∧ xs.all flatD = true ∧ Q (.bl (if neg then !inD x xs else inD x xs)) m
def rInA (K : PySem.W.Frag) : R2 := fun x y H Q => (∃ i j, x = .str i ∧ y = .str j ∧ Q (.bl (!(Builtin.Str.occurrences j i 0 j.length 1).isEmpty)) H) ∨ rIn K false x y H Q
def rNotInA (K : PySem.W.Frag) : R2 := fun x y H Q => (∃ i j, x = .str i ∧ y = .str j ∧ Q (.bl (!(!(Builtin.Str.occurrences j i 0 j.length 1).isEmpty))) H) ∨ rIn K true x y H Q
theorem op_inA : OpR X (compareOp .In) (rInA X.K) := op_in_str.or op_in_seq
theorem op_notInA : OpR X (compareOp .NotIn) (rNotInA X.K) := op_notin_str.or op_notIn_seq
theorem in_go {G H F : Hp} {m : M} {x y : D} {vx vy : V} {neg : Bool} {QD : D → M → Prop} {Q : VK} (r : Rep K G H F m) (px : Rp K G x vx) (py : Rp K G y vy) (k : Kv K G F QD Q)
    (t : ∃ xs, sqOf m y = some xs ∧ flatD x = true ∧ xs.all flatD = true ∧ QD (.bl (if neg then !inD x xs else inD x xs)) m) : rIn K neg vx vy H Q := by
  obtain ⟨xs, e, f1, f2, t⟩ := t
  obtain ⟨a, vs, rfl, hs, rs⟩ := sq_ok r py e
  refine ⟨a, vs, rfl, hs, flat_ok px f1, flats_ok rs f2, ?_⟩
  rw [inD_ok px f1 rs f2]
  exact k.here r (.bl _) t
theorem od_in : OpD K (rInA K) (dIn false) := by
  intro G H F m x y vx vy QD Q r px py t k
  cases x with
  | str i => cases y with
    | str j => cases px; cases py; exact .inl ⟨i, j, rfl, rfl, k.here r (.bl _) t⟩
    | _ => exact .inr (in_go r px py k t)
  | _ => exact .inr (in_go r px py k t)
theorem od_notIn : OpD K (rNotInA K) (dIn true) := by
  intro G H F m x y vx vy QD Q r px py t k
  cases x with
  | str i => cases y with
    | str j => cases px; cases py; exact .inl ⟨i, j, rfl, rfl, k.here r (.bl _) t⟩
    | _ => exact .inr (in_go r px py k t)
  | _ => exact .inr (in_go r px py k t)
end
def CallD (K : PySem.W.Frag) (r : List V → Hp → VK → Prop) (rd : DRC) : Prop :=
  ∀ (G H F : Hp) (m : M) (ds : List D) (vs : List V) (QD : D → M → Prop) (Q : VK), Rep K G H F m → Rps K G ds vs → rd ds m QD → Kv K G F QD Q → r vs H Q
def dCB (rd : DRC) (t : DTA) : DTE := fun r m Q => t r m fun ds m1 => rd ds m1 Q
theorem up_cb {K : PySem.W.Frag} {W : WX} {WD : DWX} {r : List V → Hp → VK → Prop} {rd : DRC} {t : DTA} {σ : L2.St} {H : Hp} {Q : VK} (hd : CallD K r rd) (h : up K W WD (dCB rd t) σ H Q) : tCB r (upA K W WD t) σ H Q := by
  obtain ⟨G, F, ρ, m, QD, x, t, k⟩ := h
  exact ⟨G, F, ρ, m, _, x, t, fun G1 H1 m1 ds vs e1 r1 p1 t1 => hd G1 H1 F m1 ds vs QD Q r1 p1 t1 (k.mono e1)⟩
theorem CallR.or {X : Cx} {f : Value} {r r' : List V → Hp → VK → Prop} (h : CallR X f r) (h' : CallR X f r') : CallR X f (fun xs H Q => r xs H Q ∨ r' xs H Q) := fun pins s σ H xs us Q I v q => by
  rcases q with q | q
  · exact h pins s σ H xs us Q I v q
  · exact h' pins s σ H xs us Q I v q
section
variable {K : PySem.W.Frag} {X : Cx} {W : WX} {WD : DWX} {e : Expr} {es : List Expr} {t : DTA} {p pos : Pos} {r : List V → Hp → VK → Prop} {rd : DRC} {x : Str} {id T : String}
theorem de_callB (hc : CallR X (.builtin id) r) (hd : CallD X.K r rd) (hg : Gl X x) (hm : X.mg x = none) (hv : bootBuiltins x = some (.builtin id)) (ha : DA X W WD (e :: es) t) (hn : x ≠ "__name__" := by decide) (hdb : (x == ("__debug__" : Str)) = false := by decide)
    (he : starEach (e :: es) X.env = (false, eval e X.env) :: starEach es X.env := by rfl) (hpl : (backTo pos (starEach es X.env)).any (·.1) = false := by rfl) : DE X W WD (.Call (.Name x p) (e :: es) [] pos) (dCB rd t) :=
  PE.imp (pe_callB hc hg hm hv ha hn hdb he hpl) fun _ _ _ h => up_cb hd h
theorem de_callTy (hc : CallR X (.type T) r) (hd : CallD X.K r rd) (hg : Gl X x) (hm : X.mg x = none) (hv : bootBuiltins x = some (.type T)) (ha : DA X W WD (e :: es) t) (hn : x ≠ "__name__" := by decide) (hdb : (x == ("__debug__" : Str)) = false := by decide)
    (he : starEach (e :: es) X.env = (false, eval e X.env) :: starEach es X.env := by rfl) (hpl : (backTo pos (starEach es X.env)).any (·.1) = false := by rfl) : DE X W WD (.Call (.Name x p) (e :: es) [] pos) (dCB rd t) :=
  PE.imp (pe_callTy hc hg hm hv ha hn hdb he hpl) fun _ _ _ h => up_cb hd h
theorem rps1 {G : Hp} {d : D} {vs : List V} (h : Rps K G [d] vs) : ∃ v, vs = [v] ∧ Rp K G d v := by
  cases h with | cons r t => cases t; exact ⟨_, rfl, r⟩
def dLen : DRC := fun ds m Q => ∃ d, ds = [d] ∧ match d with
  | .str z => z.length ≤ sizeLine ∧ Q (.int z.length) m
  | d => ∃ xs, sqOf m d = some xs ∧ Q (.int xs.length) m
theorem cd_len : CallD K (fun xs H Q => ∃ x n, xs = [x] ∧ LenV K x H n ∧ Q (.int n) H) dLen := by
  intro G H F m ds vs QD Q r ps t k
  obtain ⟨d, rfl, t⟩ := t
  obtain ⟨v, rfl, p⟩ := rps1 ps
  have go : (∃ xs, sqOf m d = some xs ∧ QD (.int xs.length) m) → ∃ x n, [v] = [x] ∧ LenV K x H n ∧ Q (.int n) H := by
    rintro ⟨xs, e, t⟩
    obtain ⟨a, vs, rfl, hs, rs⟩ := sq_ok r p e
    refine ⟨_, xs.length, rfl, ?_, k.here r (.int _) t⟩
    rcases hs with hs | hs
    · exact .inl ⟨vs, hs, rs.length⟩
    · exact .inr ⟨vs, hs, rs.length⟩
  cases d with
  | str z => cases p; exact ⟨_, z.length, rfl, ⟨t.1, rfl⟩, k.here r (.int _) t.2⟩
  | _ => exact go t
def dInt1 : DRC := fun ds m Q => match ds with
  | [.int i] => Q (.int i) m
  | [.bl b] => Q (.int (if b then 1 else 0)) m
  | _ => False
theorem cd_int1 : CallD K (fun xs H Q => (∃ i, xs = [.int i] ∧ Q (.int i) H) ∨ ∃ k, xs = [.bl k] ∧ Q (.int (if k then 1 else 0)) H) dInt1 := by
  intro G H F m ds vs QD Q r ps t k
  match ds, t with
  | [.int i], t =>
    obtain ⟨v, rfl, p⟩ := rps1 ps
    cases p; exact .inl ⟨i, rfl, k.here r (.int _) t⟩
  | [.bl i], t =>
    obtain ⟨v, rfl, p⟩ := rps1 ps
    cases p; exact .inr ⟨i, rfl, k.here r (.int _) t⟩
def dAbs : DRC := fun ds m Q => match ds with
  | [.int i] => Q (.int (if i < 0 then -i else i)) m
  | _ => False
def dMax : DRC := fun ds m Q => match ds with
  | [d] => ∃ ns : List Int, lsOf m d = some (ns.map D.int) ∧ 0 < ns.length ∧ ∀ k, k ∈ ns → (∀ y, y ∈ ns → y ≤ k) → Q (.int k) m
  | [d, e] => ∃ i j, d = .int i ∧ e = .int j ∧ Q (.int (max i j)) m
  | _ => False
def dMin : DRC := fun ds m Q => match ds with
  | [d] => ∃ ns : List Int, lsOf m d = some (ns.map D.int) ∧ 0 < ns.length ∧ ∀ k, k ∈ ns → (∀ y, y ∈ ns → k ≤ y) → Q (.int k) m
  | [d, e] => ∃ i j, d = .int i ∧ e = .int j ∧ Q (.int (min i j)) m
  | _ => False
def dSum : DRC := fun ds m Q => ∃ d, ds = [d] ∧ ∃ ns : List Int, lsOf m d = some (ns.map D.int) ∧ Q (.int ns.sum) m
def dAll : DRC := fun ds m Q => ∃ d, ds = [d] ∧ ∃ bs : List Bool, lsOf m d = some (bs.map D.bl) ∧ Q (.bl (bs.all _root_.id)) m
def dAny : DRC := fun ds m Q => ∃ d, ds = [d] ∧ ∃ bs : List Bool, lsOf m d = some (bs.map D.bl) ∧ Q (.bl (bs.any _root_.id)) m
theorem cd_sum : CallD K (rSum K) dSum := by
  intro G H F m ds vs QD Q r ps t k
  obtain ⟨d, rfl, ns, e, t⟩ := t
  obtain ⟨v, rfl, p⟩ := rps1 ps
  obtain ⟨a, us, rfl, hs, rs⟩ := ls_ok r p e
  rw [rs.ints] at hs
  exact ⟨a, ns, rfl, hs, k.here r (.int _) t⟩
theorem cd_all : CallD K (rAll K) dAll := by
  intro G H F m ds vs QD Q r ps t k
  obtain ⟨d, rfl, ns, e, t⟩ := t
  obtain ⟨v, rfl, p⟩ := rps1 ps
  obtain ⟨a, us, rfl, hs, rs⟩ := ls_ok r p e
  rw [rs.bls] at hs
  exact ⟨a, ns, rfl, hs, k.here r (.bl _) t⟩
def dList (mt : Bool) : DRC := fun ds m Q => ∃ d, ds = [d] ∧ ∃ xs, sqOf m d = some xs ∧ mkL mt xs m Q
theorem cd_list (mt : Bool) : CallD K (fun xs H Q => ∃ p ys, xs = [.ref p] ∧ (SqL K H p ys ∨ SqT K H p ys) ∧ ∀ l, H l = none → Q (.ref l) (upd H l (.lst ys))) (dList mt) := by
  intro G H F m ds vs QD Q r ps t k
  obtain ⟨d, rfl, xs, e, t⟩ := t
  obtain ⟨v, rfl, p⟩ := rps1 ps
  obtain ⟨a, us, rfl, hs, rs⟩ := sq_ok r p e
  exact ⟨a, us, rfl, hs, fun l hl => mkL_ok k r rs hl t⟩
def dTuple : DRC := fun ds m Q => ∃ d, ds = [d] ∧ ∃ xs, sqOf m d = some xs ∧ Q (.tup xs) m
def tyName (m : M) : D → Option String
  | .non => some "NoneType"
  | .bl _ => some "bool"
  | .int _ => some "int"
  | .str _ => some "str"
  | .lst _ => some "list"
  | .tup _ => some "tuple"
  | .ref a => (m a).bind fun o => match o with
    | .lst _ => some "list"
    | .dK _ => some "dict"
    | .dT _ => some "dict"
    | _ => none
  | _ => none
structure ClsI (K : PySem.W.Frag) (C : Addr) : Prop where
  cl : Cls K C
  ha : PySem.W.findIn K (.ref C) "__class__" = some (some (.builtin "object.__class__"))
  hn : PySem.W.specialIn K (.builtin "object.__class__") "__get__" = some (some (.builtin "getset_descriptor.__get__"))
  tk : PySem.W.takesIn K (.builtin "object.__class__") = some true
  hm : PySem.W.mroIn K C (.type "object") = some true
def IsiD (K : PySem.W.Frag) (m : M) (d c : D) (b : Bool) : Prop :=
  ∃ u, ((∃ T, c = .ty T ∧ u = Value.type T) ∨ (∃ C, c = .ref C ∧ u = .ref C)) ∧
    ((∃ S, tyName m d = some S ∧ PySem.W.kitOne K (.type S) u = some b) ∨ (∃ C fs, d = .ins C fs ∧ ClsI K C ∧ PySem.W.kitOne K (.ref C) u = some b))
def dIsi (K : PySem.W.Frag) : DRC := fun ds m Q => ∃ d c b, ds = [d, c] ∧ IsiD K m d c b ∧ Q (.bl b) m
end
end DL

set_option Elab.async false
set_option linter.all false
set_option maxRecDepth 100000
set_option maxHeartbeats 4000000
namespace DL
open PySem PySem.Spec PyProof.Rows L2

def upS (K : PySem.W.Frag) (W : WX) (WD : DWX) (t : DTS) : TS := fun E σ H => ∃ (G F : Hp) (r : DSt) (m : M) (DD : DEnds), Sx K W WD G H F r σ m ∧ t DD r m ∧ Lk K G F DD E
abbrev DS (X : Cx) (W : WX) (WD : DWX) (st : Stmt) (t : DTS) : Prop := PS X st (upS X.K W WD t)
abbrev DSs (X : Cx) (W : WX) (WD : DWX) (st : List Stmt) (t : DTS) : Prop := PSs X st (upS X.K W WD t)
def dNext : DTS := fun DD r m => DD.nx r m
def dSeq (t u : DTS) : DTS := fun DD r m => t { DD with nx := u DD } r m
section
variable {X : Cx} {W : WX} {WD : DWX} {st : Stmt} {rest : List Stmt} {t u : DTS} {e : Expr} {te : DTE} {pos : Pos}
theorem dss_nil : DSs X W WD [] dNext := by
  refine PSs.imp pss_nil fun E σ H h => ?_
  obtain ⟨G, F, r, m, DD, x, t, k⟩ := h
  exact k.nx G H m r σ (Same.refl G) x.rep x.rs t
theorem dss_cons (h1 : DS X W WD st t) (h2 : DSs X W WD rest u) : DSs X W WD (st :: rest) (dSeq t u) := by
  refine PSs.imp (pss_cons h1 h2) fun E σ H h => ?_
  obtain ⟨G, F, r, m, DD, x, t, k⟩ := h
  exact ⟨G, F, r, m, { DD with nx := u DD }, x, t, ⟨fun G1 H1 m1 r1 s1 e1 p1 q1 t1 => ⟨G1, F, r1, m1, DD, x.to e1 p1 q1, t1, k.mono e1⟩, k.rt, k.bk, k.ct⟩⟩
theorem dss_one (h1 : DS X W WD st t) : DSs X W WD [st] t := pss_one h1
def dBreak : DTS := fun DD r m => DD.bk r m
def dCont : DTS := fun DD r m => DD.ct r m
def dDrop (te : DTE) : DTS := fun DD r m => te r m fun _ m1 => DD.nx r m1
theorem ds_expr (he : DE X W WD e te) (hs : swapsWith e none pos.line X.env = pure false := by rfl) : DS X W WD (.Expr e pos) (dDrop te) := by
  refine PS.imp (ps_expr he hs) fun E σ H h => ?_
  obtain ⟨G, F, r, m, DD, x, t, k⟩ := h
  exact ⟨G, F, r, m, _, x, t, fun G1 H1 m1 d v e1 p1 q1 t1 => k.nx G1 H1 m1 r σ e1 p1 (x.rs.mono e1) t1⟩
def dRet (te : DTE) : DTS := fun DD r m => te r m DD.rt
theorem ds_ret (he : DE X W WD e te) : DS X W WD (.Return (some e) pos) (dRet te) := by
  refine PS.imp (ps_ret he) fun E σ H h => ?_
  obtain ⟨G, F, r, m, DD, x, t, k⟩ := h
  exact ⟨G, F, r, m, _, x, t, k.rt⟩
def frzV (m : M) (d : D) (Q : D → M → Prop) : Prop := match d with
  | .ref a => (match m a with
    | some (.lst ds) => Q (.lst ds) (mdel m a)
    | some (.ins C fs) => Q (.ins C fs) (mdel m a)
    | _ => False)
  | _ => False
theorem frzV_ok {K : PySem.W.Frag} {G H F : Hp} {m : M} {d : D} {v : V} {QD : D → M → Prop} {Q : VK} (k : Kv K G F QD Q) (r : Rep K G H F m) (p : Rp K G d v) (t : frzV m d QD) : Q v H := by
  cases d with
  | ref a =>
    cases p
    dsimp only [frzV] at t
    cases q : m a with
    | none => rw [q] at t; exact t.elim
    | some o =>
      rw [q] at t
      cases o with
      | lst ds =>
        obtain ⟨G', e, r', p'⟩ := r.freeze q
        exact k G' H _ _ _ e r' p' t
      | ins C fs =>
        obtain ⟨G', e, r', p'⟩ := r.freezeI q
        exact k G' H _ _ _ e r' p' t
      | _ => exact t.elim
  | _ => exact t.elim
def dFrzE (te : DTE) : DTE := fun r m Q => te r m fun d m1 => frzV m1 d Q
theorem de_frz (he : DE X W WD e te) : DE X W WD e (dFrzE te) := by
  refine PE.imp he fun σ H Q h => ?_
  obtain ⟨G, F, r, m, QD, x, t, k⟩ := h
  exact ⟨G, F, r, m, _, x, t, fun G1 H1 m1 d v e1 p1 q1 t1 => frzV_ok (k.mono e1) p1 q1 t1⟩
def dRetN : DTS := fun DD _ m => DD.rt .non m
theorem ds_retN : DS X W WD (.Return none pos) dRetN := by
  refine PS.imp ps_retN fun E σ H h => ?_
  obtain ⟨G, F, r, m, DD, x, t, k⟩ := h
  exact k.rt G H m _ _ (Same.refl G) x.rep .non t
def dIfS (c : DTT) (t u : DTS) : DTS := fun DD r m => c r m fun b m1 => if b = true then t DD r m1 else u DD r m1
theorem ds_if {c : Expr} {a b : List Stmt} {tc : DTT} (hc : DT X W WD c tc) (ha : DSs X W WD a t) (hb : DSs X W WD b u) : DS X W WD (.If c a b pos) (dIfS tc t u) := by
  refine PS.imp (ps_if hc ha hb) fun E σ H h => ?_
  obtain ⟨G, F, r, m, DD, x, t, k⟩ := h
  refine ⟨G, F, r, m, _, x, t, fun G1 H1 m1 b e1 p1 t1 => ?_⟩
  cases b with
  | true => exact ⟨G1, F, r, m1, DD, x.step e1 p1, t1, k.mono e1⟩
  | false => exact ⟨G1, F, r, m1, DD, x.step e1 p1, t1, k.mono e1⟩
def dFrz (i : Nat) (t : DTS) : DTS := fun DD r m => ∃ a ds, slot r i = some (.ref a) ∧ m a = some (.lst ds) ∧ t DD (r.set i (some (.lst ds))) (mdel m a)
theorem dss_frz (i : Nat) (h : DSs X W WD rest t) : DSs X W WD rest (dFrz i t) := by
  refine PSs.imp h fun E σ H h => ?_
  obtain ⟨G, F, r, m, DD, x, ⟨a, ds, e1, e2, t⟩, k⟩ := h
  obtain ⟨G', e, r', p'⟩ := x.rep.freeze e2
  obtain ⟨v, e3, pv⟩ := x.rs.at_ i _ (slot_get e1)
  cases pv
  refine ⟨G', F, _, _, DD, ⟨r', (x.rs.mono e).setG (fun v hv => ?_) ⟨_, e3⟩, x.lx.mono e⟩, t, k.mono e⟩
  rw [e3] at hv
  cases hv
  exact p'
end

abbrev DTGs := List D → DSt → M → (DSt → M → Prop) → Prop
def upG (K : PySem.W.Frag) (W : WX) (WD : DWX) (t : DTG) : TG := fun v σ H Q => ∃ (G F : Hp) (r : DSt) (m : M) (d : D) (QD : DSt → M → Prop), Sx K W WD G H F r σ m ∧ Rp K G d v ∧ t d r m QD ∧ Ks K G F QD Q
def upGs (K : PySem.W.Frag) (W : WX) (WD : DWX) (t : DTGs) : TGs := fun vs σ H Q => ∃ (G F : Hp) (r : DSt) (m : M) (ds : List D) (QD : DSt → M → Prop), Sx K W WD G H F r σ m ∧ Rps K G ds vs ∧ t ds r m QD ∧ Ks K G F QD Q
abbrev DG (X : Cx) (W : WX) (WD : DWX) (tg : Expr) (t : DTG) : Prop := PG X tg (upG X.K W WD t)
abbrev DGs (X : Cx) (W : WX) (WD : DWX) (ts : List Expr) (t : DTGs) : Prop := PGs X ts (upGs X.K W WD t)
def gN (i : Nat) : DTG := fun d r m Q => Q (r.set i (some d)) m
def gsNil : DTGs := fun ds r m Q => ds = [] ∧ Q r m
def gsCons (t : DTG) (u : DTGs) : DTGs := fun ds r m Q => ∃ d rest, ds = d :: rest ∧ t d r m fun r1 m1 => u rest r1 m1 Q
def gT (n : Nat) (t : DTGs) : DTG := fun d r m Q => ∃ xs, sqOf m d = some xs ∧ xs.length = n ∧ t xs r m Q
theorem PG.either {X : Cx} {tg : Expr} {t t' : TG} (h : PG X tg t) (h' : PG X tg t') : PG X tg (fun v σ H Q => t v σ H Q ∨ t' v σ H Q) := ⟨fun pins s σ H v u Q I r q => by
  rcases q with q | q
  · exact h.run pins s σ H v u Q I r q
  · exact h'.run pins s σ H v u Q I r q⟩
section
variable {X : Cx} {W : WX} {WD : DWX} {pos : Pos}
theorem dg_name {i : Nat} {x : Str} (hN : X.N.Nodup) (hi : X.N[i]? = some x) (hx : Loc X.env.scope x) (hf : X.fn x = true ∨ X.env.scope.names.lookup x = some .local := by first | exact .inl rfl | exact .inr rfl | assumption) : DG X W WD (.Name x pos) (gN i) := by
  refine PG.imp (pg_name hN hi hx hf) fun v σ H Q h => ?_
  obtain ⟨G, F, r, m, d, QD, x, p, t, k⟩ := h
  exact k G H m _ _ (Same.refl G) x.rep (x.rs.set p) t
theorem dgs_nil : DGs X W WD [] gsNil := by
  refine PGs.imp pgs_nil fun v σ H Q h => ?_
  obtain ⟨G, F, r, m, d, QD, x, p, ⟨rfl, t⟩, k⟩ := h
  cases p
  exact ⟨rfl, k G H m _ _ (Same.refl G) x.rep x.rs t⟩
theorem dgs_cons {e : Expr} {es : List Expr} {t : DTG} {u : DTGs} (h1 : DG X W WD e t) (h2 : DGs X W WD es u)
    (hs : (assignEach (e :: es) X.env).map (·.2) = assign e X.env :: (assignEach es X.env).map (·.2) := by rfl) : DGs X W WD (e :: es) (gsCons t u) := by
  refine PGs.imp (pgs_cons h1 h2 hs) fun v σ H Q h => ?_
  obtain ⟨G, F, r, m, ds, QD, x, p, ⟨d, rest, rfl, t⟩, k⟩ := h
  cases p with | cons p1 p2 =>
  refine ⟨_, _, rfl, G, F, r, m, d, _, x, p1, t, fun G1 H1 m1 r1 s1 e1 q1 q2 t1 => ?_⟩
  exact ⟨G1, F, r1, m1, rest, QD, x.to e1 q1 q2, p2.mono e1, t1, k.mono e1⟩
theorem dg_tup {es : List Expr} {k : Nat} {t : DTGs} {n : Nat} (hc : X.calm = true) (h : DGs X W WD es t)
    (hn : (assignEach es X.env).length = n := by rfl) (hst : (assignEach es X.env).findIdx? (·.1) = none := by rfl) : DG X W WD (.Tuple es k pos) (gT n t) := by
  refine PG.imp (PG.either (pg_tup hc h hn hst) (pg_unl hc h hn hst)) fun v σ H Q h => ?_
  obtain ⟨G, F, r, m, d, QD, x, p, ⟨xs, e, hl, t⟩, k⟩ := h
  obtain ⟨a, vs, rfl, hs, r1⟩ := sq_ok x.rep p e
  rcases hs with hs | hs
  · exact .inr ⟨_, _, rfl, hs, by rw [← r1.length]; exact hl, G, F, r, m, xs, QD, x, r1, t, k⟩
  · exact .inl ⟨_, _, rfl, hs, by rw [← r1.length]; exact hl, G, F, r, m, xs, QD, x, r1, t, k⟩
def gSet (to ti : DTE) : DTG := fun v r m Q => to r m fun o m1 => ti r m1 fun i m2 => ∃ a xs k j, o = .ref a ∧ i = .int k ∧ m2 a = some (.lst xs) ∧ ixN xs.length k = some j ∧ Q r (mset m2 a (.lst (xs.set j v)))
theorem dg_sub {o i : Expr} {to ti : DTE} (ho : DE X W WD o to) (hi : DE X W WD i ti)
    (ha : ∀ v, assign (.Subscript o i pos) X.env v = (do
      let ov ← holding [v] (eval o X.env)
      let iv ← holding [v, ov] (eval i X.env)
      standAt pos
      holding [v, ov, iv] (setItem ov iv v)
      release [v, ov, iv] []) := by intro _; rfl) : DG X W WD (.Subscript o i pos) (gSet to ti) := by
  refine PG.imp (pg_sub ho hi set_list ha) fun v σ H Q h => ?_
  obtain ⟨G, F, r, m, d, QD, x, p, t, k⟩ := h
  refine ⟨G, F, r, m, _, x, t, fun G1 H1 m1 d1 v1 e1 r1 p1 t1 => ?_⟩
  refine ⟨G1, F, r, m1, _, x.step e1 r1, t1, fun G2 H2 m2 d2 v2 e2 r2 p2 t2 => ?_⟩
  obtain ⟨a, xs, kk, j, rfl, rfl, hm, hj, t3⟩ := t2
  cases p1; cases p2
  obtain ⟨_, _, u, h3, h4⟩ := r2.mo a _ hm
  obtain ⟨vs, rfl, h4⟩ := h4.ofLst
  refine ⟨a, vs, kk, j, rfl, rfl, h3, by rw [← h4.length]; exact hj, ?_⟩
  exact k G2 _ _ r σ (e1.trans e2) (r2.write hm (show RpM X.K G2 (.lst (xs.set j d)) (.lst (vs.set j v)) from h4.set (p.mono (e1.trans e2)) j)) (x.rs.mono (e1.trans e2)) t3
def dAsg (te : DTE) (g : DTG) : DTS := fun DD r m => te r m fun d m1 => g d r m1 DD.nx
theorem ds_asg {tg e : Expr} {te : DTE} {g : DTG} (he : DE X W WD e te) (hg : DG X W WD tg g) (hs : swapsWithSole [tg] e pos.line X.env = pure false := by rfl) (hw : swappedStores [tg] e X.env = pure none := by rfl)
    (h1 : (assignEach [tg] X.env).map (·.2) = [assign tg X.env] := by rfl) : DS X W WD (.Assign [tg] e pos) (dAsg te g) := by
  refine PS.imp (ps_asg he hg hs hw h1) fun E σ H h => ?_
  obtain ⟨G, F, r, m, DD, x, t, k⟩ := h
  exact ⟨G, F, r, m, _, x, t, fun G1 H1 m1 d v e1 p1 q1 t1 => ⟨G1, F, r, m1, d, _, x.step e1 p1, q1, t1, k.nx.mono e1⟩⟩
def dSet (i : Nat) (te : DTE) : DTS := fun DD r m => te r m fun d m1 => DD.nx (r.set i (some d)) m1
theorem ds_set {i : Nat} {x : Str} {e : Expr} {te : DTE} {pos' : Pos} (hN : X.N.Nodup) (hi : X.N[i]? = some x) (hx : Loc X.env.scope x) (he : DE X W WD e te) (hs : swapsWith e (some (.Name x pos')) pos.line X.env = pure false := by rfl) (hf : X.fn x = true ∨ X.env.scope.names.lookup x = some .local := by first | exact .inl rfl | exact .inr rfl | assumption) :
    DS X W WD (.Assign [.Name x pos'] e pos) (dSet i te) := by
  refine PS.imp (ps_set (i := i) hN hi hx he hs hf) fun E σ H h => ?_
  obtain ⟨G, F, r, m, DD, x, t, k⟩ := h
  exact ⟨G, F, r, m, _, x, t, fun G1 H1 m1 d v e1 p1 q1 t1 => k.nx G1 H1 m1 _ _ e1 p1 ((x.rs.mono e1).set q1) t1⟩
def dPar (i j : Nat) (ta : DTA) : DTS := fun DD r m => ta r m fun ds m1 => ∃ d e, ds = [d, e] ∧ DD.nx ((r.set i (some d)).set j (some e)) m1
def dAddI : DR2
  | .int i, .int j, m, Q => Q (.int (i + j)) m
  | _, _, _, _ => False
theorem od_addI {K : PySem.W.Frag} : OpD K (rI0 fun i j => .int (i + j)) dAddI := od_I0 (fun _ _ _ _ h => h) fun x y _ _ h => by
  cases x <;> cases y <;> first | exact ⟨_, _, rfl, rfl⟩ | exact h.elim
def dAug (i : Nat) (te : DTE) (rd : DR2) : DTS := fun DD r m => ∃ x, slot r i = some x ∧ te r m fun y m1 => rd x y m1 fun z m2 => DD.nx (r.set i (some z)) m2
theorem ds_aug {i : Nat} {x : Str} {e : Expr} {te : DTE} {op : Operator} {ri : R2} {rd : DR2} {pos' : Pos} (hN : X.N.Nodup) (hi : X.N[i]? = some x) (hx : Loc X.env.scope x) (he : DE X W WD e te) (ho : OpR X (inplaceOp op) ri) (hd : OpD X.K ri rd)
    (hf : X.fn x = true ∨ X.env.scope.names.lookup x = some .local := by first | exact .inl rfl | exact .inr rfl | assumption) :
    DS X W WD (.AugAssign (.Name x pos') op e pos) (dAug i te rd) := by
  refine PS.imp (ps_aug (i := i) (ti := ri) hN hi hx he (fun pins s σ H x y v u Q I rx ry q => ho pins s σ H x y v u Q I rx ry q) hf) fun E σ H h => ?_
  obtain ⟨G, F, r, m, DD, x, ⟨d0, e0, t⟩, k⟩ := h
  obtain ⟨v0, e1, p0⟩ := x.rs.at_ i _ (slot_get e0)
  refine ⟨v0, e1, G, F, r, m, _, x, t, fun G1 H1 m1 d v e1 p1 q1 t1 => ?_⟩
  refine hd G1 H1 F m1 d0 d v0 v _ _ p1 (p0.mono e1) q1 t1 fun G2 H2 m2 z vz e2 p2 q2 t2 => ?_
  exact k.nx G2 H2 m2 _ _ (e1.trans e2) p2 ((x.rs.mono (e1.trans e2)).set q2) t2
end
end DL

set_option Elab.async false
set_option linter.all false
set_option maxRecDepth 100000
set_option maxHeartbeats 4000000
namespace DL
open PySem PySem.Spec PyProof.Rows L2

structure ItD (K : PySem.W.Frag) (J : It) (G : Hp) (ds : List D) : Prop where
  stop : ∀ H, Same G H → J.stop ds.length H
  go : ∀ i H, i < ds.length → Same G H → J.go i H
  yld : ∀ (i : Nat) (G1 H F : Hp) (m : M) (x : V) (H' : Hp) (d : D), Same G G1 → Rep K G1 H F m → ds[i]? = some d → J.yld i H x H' → ∃ G2, Same G1 G2 ∧ Rep K G2 H' F m ∧ Rp K G2 d x
def upI (K : PySem.W.Frag) (W : WX) (WD : DWX) (t : DTI) : TI := fun σ H R => ∃ (G F : Hp) (r : DSt) (m : M) (QD : List D → M → Prop), Sx K W WD G H F r σ m ∧ t r m QD ∧ ∀ G' H' m' ds J, Same G G' → Rep K G' H' F m' → ItD K J G' ds → QD ds m' → R J H'
abbrev DI (X : Cx) (W : WX) (WD : DWX) (tg iter : Expr) (t : DTI) : Prop := PI X tg iter (upI X.K W WD t)
section
variable {X : Cx} {W : WX} {WD : DWX} {tg : Expr}
def rngD (lo : Int) (n : Nat) : List D := (List.range n).map fun (k : Nat) => D.int (lo + (k : Int))
theorem rngD_len (lo : Int) (n : Nat) : (rngD lo n).length = n := by simp [rngD]
theorem rngD_at {lo : Int} {n i : Nat} {d : D} (h : (rngD lo n)[i]? = some d) : d = .int (lo + (i : Int)) ∧ i < n := by
  unfold rngD at h
  rw [List.getElem?_map] at h
  by_cases hi : i < n
  · rw [List.getElem?_range hi] at h
    cases h
    exact ⟨rfl, hi⟩
  · rw [List.getElem?_eq_none (by simp; omega)] at h
    cases h
theorem it_list {K : PySem.W.Frag} {G : Hp} {a : Addr} {vs : List V} {ds : List D} (h : SqL K G a vs) (r : Rps K G ds vs) : ItD K (Itl K a) G ds where
  stop := fun H e => ⟨vs, e.seq h, by rw [r.length]; exact Nat.le_refl _⟩
  go := fun i H hi e => by
    have hv : i < vs.length := by rw [← r.length]; exact hi
    exact ⟨vs, vs[i], e.seq h, by simp [hv]⟩
  yld := fun i G1 H F m x H' d e rep hd y => by
    obtain ⟨rfl, y⟩ := y
    obtain ⟨v, h1, h2⟩ := r.get hd
    have q := y vs ((e.trans rep.ext).seq h)
    rw [h1] at q
    cases q
    exact ⟨G1, Same.refl G1, rep, h2.mono e⟩
theorem it_tup {K : PySem.W.Frag} {G : Hp} {a : Addr} {vs : List V} {ds : List D} (h : SqT K G a vs) (r : Rps K G ds vs) : ItD K (Itt K a) G ds where
  stop := fun H e => ⟨vs, same_sqt e h, by rw [r.length]; exact Nat.le_refl _⟩
  go := fun i H hi e => by
    have hv : i < vs.length := by rw [← r.length]; exact hi
    exact ⟨vs, vs[i], same_sqt e h, by simp [hv]⟩
  yld := fun i G1 H F m x H' d e rep hd y => by
    obtain ⟨rfl, y⟩ := y
    obtain ⟨v, h1, h2⟩ := r.get hd
    have q := y vs (same_sqt (e.trans rep.ext) h)
    rw [h1] at q
    cases q
    exact ⟨G1, Same.refl G1, rep, h2.mono e⟩
theorem it_rng {K : PySem.W.Frag} {G : Hp} (lo : Int) (n : Nat) : ItD K (Itr lo n) G (rngD lo n) where
  stop := fun H e => by rw [rngD_len]; exact Nat.le_refl _
  go := fun i H hi e => by rw [rngD_len] at hi; exact hi
  yld := fun i G1 H F m x H' d e rep hd y => by
    obtain ⟨rfl, rfl⟩ := y
    obtain ⟨rfl, _⟩ := rngD_at hd
    exact ⟨G1, Same.refl G1, rep, .int _⟩
def diL (te : DTE) : DTI := fun r m Q => te r m fun d m1 => match d with
  | .lst xs => Q xs m1
  | .rdl xs => Q xs m1
  | _ => False
theorem di_list {l : Expr} {te : DTE} (hl : DE X W WD l te) : DI X W WD tg l (diL te) := by
  refine PI.imp (pi_list hl) fun σ H R h => ?_
  obtain ⟨G, F, r, m, QD, x, t, k⟩ := h
  refine ⟨G, F, r, m, _, x, t, fun G1 H1 m1 d1 v1 e1 r1 p1 t1 => ?_⟩
  cases d1 with
  | lst xs => cases p1 with | lst h1 q1 => exact ⟨_, rfl, ⟨_, SqL.of (r1.ext _ _ h1)⟩, k G1 H1 m1 xs _ e1 r1 (it_list (SqL.of h1) q1) t1⟩
  | rdl xs => cases p1 with | rdl h1 q1 => exact ⟨_, rfl, ⟨_, r1.ext.seq h1⟩, k G1 H1 m1 xs _ e1 r1 (it_list h1 q1) t1⟩
  | _ => exact t1.elim
def diT (te : DTE) : DTI := fun r m Q => te r m fun d m1 => match d with
  | .tup xs => Q xs m1
  | _ => False
def diR1 (ta : DTA) : DTI := fun r m Q => ta r m fun ds m1 => ∃ j : Int, ds = [.int j] ∧ (-(2 ^ 62) ≤ j ∧ j < 2 ^ 62) ∧ Q (rngD 0 j.toNat) m1
theorem di_range1 {a : Expr} {ta : DTA} {p pos : Pos} (hg : Gl X "range") (hm : X.mg "range" = none) (ha : DA X W WD [a] ta) (hs : starEach [a] X.env = [(false, eval a X.env)] := by rfl) : DI X W WD tg (.Call (.Name "range" p) [a] [] pos) (diR1 ta) := by
  refine PI.imp (pi_range1 hg hm ha hs) fun σ H R h => ?_
  obtain ⟨G, F, r, m, QD, x, t, k⟩ := h
  refine ⟨G, F, r, m, _, x, t, fun G1 H1 m1 ds vs e1 r1 p1 t1 => ?_⟩
  obtain ⟨j, rfl, ⟨h1, h2⟩, t2⟩ := t1
  obtain ⟨v, rfl, q⟩ := rps1 p1
  cases q
  exact ⟨j, rfl, h1, h2, k G1 H1 m1 _ _ e1 r1 (it_rng 0 j.toNat) t2⟩
def diR2 (ta : DTA) : DTI := fun r m Q => ta r m fun ds m1 => ∃ i j : Int, ds = [.int i, .int j] ∧ (-(2 ^ 62) ≤ i ∧ i < 2 ^ 62 ∧ -(2 ^ 62) ≤ j ∧ j < 2 ^ 62) ∧ Q (rngD i (j - i).toNat) m1
end

def dLoopI (g : DTG) (tb : DTS) (ds : List D) : DTS := fun DD r m => ∃ P : Nat → DSt → M → Prop, P 0 r m ∧ (∀ (i : Nat) (d : D) (r : DSt) (m : M), ds[i]? = some d → P i r m → g d r m fun r2 m2 => tb { DD with nx := P (i + 1), ct := P (i + 1), bk := DD.nx } r2 m2) ∧ ∀ r m, P ds.length r m → DD.nx r m
def dFor (ti : DTI) (g : DTG) (tb : DTS) : DTS := fun DD r m => ti r m fun ds m1 => dLoopI g tb ds DD r m1
section
variable {X : Cx} {W : WX} {WD : DWX} {tg iter : Expr} {body : List Stmt} {ti : DTI} {g : DTG} {tb : DTS} {pos : Pos}
theorem ds_for (hp : PassesOwn (model X.prog X.w) X.A X.env X.xe) (hc : X.calm = true) (hi : DI X W WD tg iter ti) (hg : DG X W WD tg g) (hb : DSs X W WD body tb)
    (hs : ∀ x, foldedSetIterable iter X.env x = pure x := by intro _; rfl) : DS X W WD (.For tg iter body [] pos) (dFor ti g tb) := by
  refine PS.imp (ps_for hp hc hi hg hb hs) fun E σ H h => ?_
  obtain ⟨G, F, r, m, DD, x, t, k⟩ := h
  refine ⟨G, F, r, m, _, x, t, fun G1 H1 m1 ds J e1 r1 it t1 => ?_⟩
  obtain ⟨P, p0, turn, done⟩ := t1
  refine ⟨fun i n σ H => n = ds.length - i ∧ i ≤ ds.length ∧ ∃ G2 r2 m2, Same G1 G2 ∧ Sx X.K W WD G2 H F r2 σ m2 ∧ P i r2 m2, ⟨ds.length, rfl, Nat.zero_le _, G1, r, m1, Same.refl G1, x.step e1 r1, p0⟩, ?_⟩
  rintro i n σ2 H2 ⟨rfl, hi, G2, r2, m2, e2, x2, p2⟩
  by_cases hlt : i < ds.length
  · have hd : ds[i]? = some ds[i] := by simp [hlt]
    refine .inr ⟨it.go i H2 hlt (e2.trans x2.rep.ext), fun σ3 H3 => ∃ G3 r3 m3, Same G1 G3 ∧ Sx X.K W WD G3 H3 F r3 σ3 m3 ∧ P (i + 1) r3 m3, fun σ3 H3 h3 => ⟨ds.length - (i + 1), by omega, rfl, hlt, h3⟩, fun v H3 y => ?_⟩
    obtain ⟨G3, e3, rep3, p3⟩ := it.yld i G2 H2 F m2 v H3 ds[i] e2 x2.rep hd y
    refine ⟨G3, F, r2, m2, ds[i], _, x2.step e3 rep3, p3, turn i ds[i] r2 m2 hd p2, fun G4 H4 m4 r4 s4 e4 rep4 rs4 t4 => ?_⟩
    have e14 : Same G1 G4 := (e2.trans e3).trans e4
    refine ⟨G4, F, r4, m4, _, x2.to (e3.trans e4) rep4 rs4, t4, ⟨fun G5 H5 m5 r5 s5 e5 rep5 rs5 t5 => ?_, k.rt.mono (e1.trans e14), k.nx.mono (e1.trans e14), fun G5 H5 m5 r5 s5 e5 rep5 rs5 t5 => ?_⟩⟩
    · exact ⟨G5, r5, m5, e14.trans e5, x2.to ((e3.trans e4).trans e5) rep5 rs5, t5⟩
    · exact ⟨G5, r5, m5, e14.trans e5, x2.to ((e3.trans e4).trans e5) rep5 rs5, t5⟩
  · have e : i = ds.length := by omega
    subst e
    exact .inl ⟨it.stop H2 (e2.trans x2.rep.ext), k.nx G2 H2 m2 r2 σ2 (e1.trans e2) x2.rep x2.rs (done r2 m2 p2)⟩
end

def setAll : DSt → List Nat → List D → Option DSt
  | r, [], [] => some r
  | r, j :: js, d :: ds => setAll (r.set j (some d)) js ds
  | _, _, _ => none
def ctD : CT → D → DSt → Option DSt
  | .one i, d, r => some (r.set i (some d))
  | .tup js, .tup ds, r => setAll r js ds
  | _, _, _ => none
def gNames : List Nat → TGs
  | [] => gNil
  | j :: js => gCons (gName j) (gNames js)
def ctG (K : PySem.W.Frag) : CT → TG
  | .one i => gName i
  | .tup js => gTup K js.length (gNames js)
theorem wipe_set (σ : L2.St) (j : Nat) (v : Option V) : ∀ vs : List Nat, j ∈ vs → wipe (σ.set j v) vs = wipe σ vs
  | [], h => nomatch h
  | k :: vs, h => by
    show (wipe (σ.set j v) vs).set k none = (wipe σ vs).set k none
    by_cases hk : j ∈ vs
    · rw [wipe_set σ j v vs hk]
    · have e : j = k := by
        rcases List.mem_cons.mp h with h | h
        · exact h
        · exact absurd h hk
      subst e
      have comm : ∀ (vs : List Nat) (σ : L2.St), j ∉ vs → wipe (σ.set j v) vs = (wipe σ vs).set j v := by
        intro vs
        induction vs with
        | nil => intro σ _; rfl
        | cons a vs ih =>
          intro σ hn
          show (wipe (σ.set j v) vs).set a none = ((wipe σ vs).set a none).set j v
          rw [ih σ (fun z => hn (List.mem_cons_of_mem _ z))]
          exact List.set_comm _ _ (fun z => hn (by rw [z]; exact List.mem_cons_self))
      rw [comm vs σ hk, List.set_set]
theorem wipe_wipe (σ : L2.St) : ∀ vs ws : List Nat, (∀ j ∈ vs, j ∈ ws) → wipe (wipe σ vs) ws = wipe σ ws
  | [], _, _ => rfl
  | k :: vs, ws, h => by
    show wipe ((wipe σ vs).set k none) ws = wipe σ ws
    rw [wipe_set _ k none ws (h k List.mem_cons_self), wipe_wipe σ vs ws fun j hj => h j (List.mem_cons_of_mem _ hj)]
def wipeD (r : DSt) : List Nat → DSt
  | [] => r
  | v :: vs => (wipeD r vs).set v none
theorem rs_none {K : PySem.W.Frag} {G : Hp} {r : DSt} {s : L2.St} (h : Rs K G r s) (i : Nat) (v : Option V) : Rs K G (r.set i none) (s.set i v) := ⟨by simp [h.len], fun j e hj => by
  by_cases hi : i = j
  · subst hi
    by_cases hl : i < r.length
    · rw [List.getElem?_set_self hl] at hj
      cases hj
    · rw [List.getElem?_eq_none (by simp; omega)] at hj
      cases hj
  · rw [List.getElem?_set_ne hi] at hj ⊢
    exact h.at_ j e hj⟩
theorem rs_wipe {K : PySem.W.Frag} {G : Hp} {r : DSt} {s : L2.St} (h : Rs K G r s) : ∀ vs : List Nat, Rs K G (wipeD r vs) (wipe s vs)
  | [] => h
  | v :: vs => rs_none (rs_wipe h vs) v none
theorem names_ok {K : PySem.W.Frag} {G : Hp} {vs : List Nat} {H : Hp} {Q : L2.St → Hp → Prop} {s0 : L2.St} : ∀ {js : List Nat} {r r2 : DSt} {s : L2.St} {ds : List D} {us : List V}, (∀ j ∈ js, j ∈ vs) → Rs K G r s → Rps K G ds us → setAll r js ds = some r2 → wipe s vs = s0 →
    (∀ s2, Rs K G r2 s2 → wipe s2 vs = s0 → Q s2 H) → gNames js us s H Q
  | [], r, r2, s, [], us, _, rs, p, e, w, k => by
    cases p; cases e
    exact ⟨rfl, k s rs w⟩
  | [], r, r2, s, d :: ds, us, _, rs, p, e, w, k => by cases e
  | j :: js, r, r2, s, [], us, _, rs, p, e, w, k => by cases e
  | j :: js, r, r2, s, d :: ds, us, hj, rs, p, e, w, k => by
    cases p with | cons p1 p2 =>
    refine ⟨_, _, rfl, ?_⟩
    exact names_ok (r2 := r2) (fun i hi => hj i (List.mem_cons_of_mem _ hi)) (rs.set p1) p2 e (by rw [wipe_set _ _ _ _ (hj j List.mem_cons_self)]; exact w) k
theorem setAll_len : ∀ {js : List Nat} {ds : List D} {r r2 : DSt}, setAll r js ds = some r2 → ds.length = js.length
  | [], [], _, _, _ => rfl
  | [], _ :: _, _, _, e => by cases e
  | _ :: _, [], _, _, e => by cases e
  | j :: js, d :: ds, r, r2, e => congrArg Nat.succ (setAll_len (js := js) (ds := ds) e)
theorem ct_ok {K : PySem.W.Frag} {G : Hp} {vs : List Nat} {H : Hp} {Q : L2.St → Hp → Prop} {c : CT} {r r2 : DSt} {s : L2.St} {d : D} {v : V} (hc : c.in vs) (rs : Rs K G r s) (p : Rp K G d v) (e : ctD c d r = some r2) (sm : Same G H)
    (k : ∀ s2, Rs K G r2 s2 → wipe s2 vs = wipe s vs → Q s2 H) : ctG K c v s H Q := by
  cases c with
  | one i =>
    cases e
    exact k _ (rs.set p) (wipe_set _ _ _ _ hc)
  | tup js =>
    cases d with
    | tup ds =>
      cases p with | tup h1 r1 =>
      exact ⟨_, _, rfl, same_sqt sm h1, by rw [← r1.length]; exact setAll_len e, names_ok hc rs r1 e rfl k⟩
    | _ => cases e
def dLcL (c : CT) (vs : List Nat) (tt : DTT) (te : DTE) : List D → List D → DSt → M → (List D → M → Prop) → Prop
  | [], acc, _, m, Q => Q acc m
  | x :: xs, acc, r, m, Q => ∃ r2, ctD c x (wipeD r vs) = some r2 ∧ tt r2 m fun b m1 => if b = true then te r2 m1 fun y m2 => acc.length < sizeLine ∧ dLcL c vs tt te xs (acc ++ [y]) r m2 Q else dLcL c vs tt te xs acc r m1 Q
def dLc (mt : Bool) (ti : DTI) (c : CT) (vs : List Nat) (tt : DTT) (te : DTE) : DTE := fun r m Q => ti r m fun ds m1 => dLcL c vs tt te ds [] r m1 fun acc m2 => mkL mt acc m2 Q
theorem lc_pure {c : CT} {vs : List Nat} {te : DTE} {r : DSt} {m : M} (f : D → D) : ∀ {xs acc : List D} {Q : List D → M → Prop}, acc.length + xs.length ≤ sizeLine → (∀ x ∈ xs, ∃ r2, ctD c x (wipeD r vs) = some r2 ∧ ∀ Q' : D → M → Prop, Q' (f x) m → te r2 m Q') → Q (acc ++ xs.map f) m → dLcL c vs (fun _ m Q => Q true m) te xs acc r m Q
  | [], acc, Q, _, _, q => by
    show Q acc m
    rw [List.map_nil, List.append_nil] at q
    exact q
  | x :: xs, acc, Q, hz, h, q => by
    obtain ⟨r2, e, t⟩ := h x List.mem_cons_self
    have hz' : acc.length + (xs.length + 1) ≤ sizeLine := hz
    refine ⟨r2, e, ?_⟩
    show (if true = true then _ else _)
    rw [if_pos rfl]
    refine t _ ⟨by omega, lc_pure f (by rw [List.length_append]; simp; omega) (fun y hy => h y (List.mem_cons_of_mem _ hy)) ?_⟩
    rw [List.append_assoc]
    exact q
theorem lc_filter {c : CT} {vs : List Nat} {tt : DTT} {te : DTE} {r : DSt} {m : M} (p : D → Bool) (f : D → D) : ∀ {xs acc : List D} {Q : List D → M → Prop}, acc.length + xs.length ≤ sizeLine →
    (∀ x ∈ xs, ∃ r2, ctD c x (wipeD r vs) = some r2 ∧ (∀ Q' : Bool → M → Prop, Q' (p x) m → tt r2 m Q') ∧ (p x = true → ∀ Q' : D → M → Prop, Q' (f x) m → te r2 m Q')) → Q (acc ++ (xs.filter p).map f) m → dLcL c vs tt te xs acc r m Q
  | [], acc, Q, _, _, q => by
    show Q acc m
    rw [List.filter_nil, List.map_nil, List.append_nil] at q
    exact q
  | x :: xs, acc, Q, hz, h, q => by
    obtain ⟨r2, e, t, u⟩ := h x List.mem_cons_self
    have hz' : acc.length + (xs.length + 1) ≤ sizeLine := hz
    refine ⟨r2, e, t _ ?_⟩
    rw [List.filter_cons] at q
    cases hp : p x with
    | true =>
      rw [if_pos rfl]
      rw [hp, if_pos rfl] at q
      refine u hp _ ⟨by omega, lc_filter p f (by rw [List.length_append]; simp; omega) (fun y hy => h y (List.mem_cons_of_mem _ hy)) ?_⟩
      rw [List.append_assoc]
      exact q
    | false =>
      rw [if_neg Bool.false_ne_true]
      rw [hp, if_neg Bool.false_ne_true] at q
      exact lc_filter p f (by omega) (fun y hy => h y (List.mem_cons_of_mem _ hy)) q
section
variable {X : Cx} {W : WX} {WD : DWX}
abbrev DTs (X : Cx) (W : WX) (WD : DWX) (ifs : List Expr) (t : DTT) : Prop := PTs X ifs (upT X.K W WD t)
def dYes : DTT := fun _ m Q => Q true m
theorem dts_nil : DTs X W WD [] dYes := by
  refine PTs.imp pts_nil fun σ H Q h => ?_
  obtain ⟨G, F, ρ, m, QD, x, t, k⟩ := h
  exact k G H m true (Same.refl G) x.rep t
theorem dts_one {c : Expr} {t : DTT} (h : DT X W WD c t) : DTs X W WD [c] t := pts_one h
abbrev W0 : WX := fun _ _ _ _ => False
abbrev WD0 : DWX := fun _ _ _ => False
theorem lc_up {K : PySem.W.Frag} {ti : DTI} {c : CT} {vs : List Nat} {tt : DTT} {te : DTE} {mt : Bool} {σ : L2.St} {H : Hp} {Q : VK} (hc : c.in vs) (h : up K W WD (dLc mt ti c vs tt te) σ H Q) : tLc (upI K W WD ti) (ctG K c) (upT K W0 WD0 tt) (up K W0 WD0 te) vs σ H Q := by
  obtain ⟨G, F, r, m, QD, x, t, k⟩ := h
  refine ⟨G, F, r, m, _, x, t, fun G1 H1 m1 ds J e1 r1 it t1 => ?_⟩
  intro Dl hD
  have hF : F Dl = none := r1.frm.free hD
  refine ⟨fun i n H => n = ds.length - i ∧ i ≤ ds.length ∧ ∃ G2 m2 acc va, Same G1 G2 ∧ Rep K G2 H (upd F Dl (.lst va)) m2 ∧ Rps K G2 acc va ∧ dLcL c vs tt te (ds.drop i) acc r m2 (fun acc m => mkL mt acc m QD), ⟨ds.length, rfl, Nat.zero_le _, G1, m1, [], [], Same.refl G1, r1.hide hD, .nil, t1⟩, ?_⟩
  rintro i n H2 ⟨rfl, hi, G2, m2, acc, va, e2, rep2, ra, t2⟩
  by_cases hlt : i < ds.length
  · have hdrop : ds.drop i = ds[i] :: ds.drop (i + 1) := (List.getElem_cons_drop hlt).symm
    rw [hdrop] at t2
    obtain ⟨r2, ec, t2⟩ := t2
    refine .inr ⟨it.go i H2 hlt (e2.trans rep2.ext), fun H3 => ∃ G3 m3 acc va, Same G1 G3 ∧ Rep K G3 H3 (upd F Dl (.lst va)) m3 ∧ Rps K G3 acc va ∧ dLcL c vs tt te (ds.drop (i + 1)) acc r m3 (fun acc m => mkL mt acc m QD), fun H3 h3 => ⟨ds.length - (i + 1), by omega, rfl, hlt, h3⟩, fun v H3 y => ?_⟩
    obtain ⟨G3, e3, rep3, p3⟩ := it.yld i G2 H2 _ m2 v H3 ds[i] e2 rep2 (by simp [hlt]) y
    have e03 : Same G G3 := (e1.trans e2).trans e3
    refine ct_ok hc (rs_wipe (x.rs.mono e03) vs) p3 ec rep3.ext fun s2 rs2 w2 => ?_
    refine ⟨w2.trans (wipe_wipe σ vs vs fun _ h => h), G3, _, r2, m2, _, ⟨rep3, rs2, Lx.no⟩, t2, fun G4 H4 m4 b e4 rep4 t4 => ?_⟩
    cases b with
    | false => exact ⟨G4, m4, acc, va, (e2.trans e3).trans e4, rep4, ra.mono (e3.trans e4), t4⟩
    | true =>
      refine ⟨G4, _, r2, m4, _, ⟨rep4, rs2.mono e4, Lx.no⟩, t4, fun G5 H5 m5 d v e5 rep5 p5 t5 => ?_⟩
      have ra5 := ra.mono ((e3.trans e4).trans e5)
      exact ⟨va, rep5.frm Dl _ upd_same, by rw [← ra5.length]; exact t5.1, G5, m5, acc ++ [d], va ++ [v], ((e2.trans e3).trans e4).trans e5, rep5.turn, ra5.append (.cons p5 .nil), t5.2⟩
  · have e : i = ds.length := by omega
    subst e
    rw [List.drop_length] at t2
    refine .inl ⟨it.stop H2 (e2.trans rep2.ext), ?_⟩
    cases mt with
    | false =>
      obtain ⟨e3, rep3, p3⟩ := rep2.outL hF ra
      exact k _ H2 m2 _ _ ((e1.trans e2).trans e3) rep3 p3 t2
    | true =>
      obtain ⟨mp, rep3⟩ := rep2.outM hF ra
      exact k _ H2 _ _ _ (e1.trans e2) rep3 (.ref Dl) (t2 Dl mp)
theorem pg_ct1 {Y : Cx} {i : Nat} {x : Str} {pos : Pos} (hN : Y.N.Nodup) (hi : Y.N[i]? = some x) (hx : Loc Y.env.scope x) (hf : Y.fn x = true ∨ Y.env.scope.names.lookup x = some .local := by first | exact .inl rfl | exact .inr rfl | assumption) : PG Y (.Name x pos) (ctG Y.K (.one i)) := pg_name hN hi hx hf
theorem pg_ctT {Y : Cx} {es : List Expr} {js : List Nat} {k : Nat} {pos : Pos} (hc : Y.calm = true) (h : PGs Y es (gNames js)) (hn : (assignEach es Y.env).length = js.length := by rfl) (hst : (assignEach es Y.env).findIdx? (·.1) = none := by rfl) : PG Y (.Tuple es k pos) (ctG Y.K (.tup js)) := pg_tup hc h hn hst
theorem de_lc (mt : Bool) {elt tg iter : Expr} {ifs : List Expr} {scope : Scope} {own : List (Str × Nat)} {pos : Pos} {ti : DTI} {c : CT} {tt : DTT} {te : DTE} (hc : X.calm = true) (hN : X.N.Nodup) (hin : c.in (own.map (·.2))) (hi : DI X W WD tg iter ti) (ok : BlkOk X.N X.env.scope scope own)
    (hg : ∀ (s : Shared) (H : Hp) (C : Addr) (cl : List (Str × Addr)) (fp : List Addr), PG (X.blk s H scope (compEnvC scope cl C X.env) fp) tg (ctG X.K c)) (ht : ∀ (s : Shared) (H : Hp) (C : Addr) (cl : List (Str × Addr)) (fp : List Addr), DTs (X.blk s H scope (compEnvC scope cl C X.env) fp) W0 WD0 ifs tt)
    (he : ∀ (s : Shared) (H : Hp) (C : Addr) (cl : List (Str × Addr)) (fp : List Addr), DE (X.blk s H scope (compEnvC scope cl C X.env) fp) W0 WD0 elt te) (hs : ∀ x, foldedSetIterable iter X.env x = pure x := by intro _; rfl) :
    DE X W WD (.ListComp elt [⟨tg, iter, ifs, 0⟩] scope pos) (dLc mt ti c (own.map (·.2)) tt te) :=
  PE.imp (pe_lc hc hN hi ok hg ht he hs) fun _ _ _ h => lc_up hin h
theorem ds_setLc (mt : Bool) {i : Nat} {y : Str} {py : Pos} {elt tg iter : Expr} {ifs : List Expr} {scope : Scope} {own : List (Str × Nat)} {pos spos : Pos} {ti : DTI} {c : CT} {tt : DTT} {te : DTE} (hc : X.calm = true) (hN : X.N.Nodup) (hy : X.N[i]? = some y) (hyl : X.env.scope.names.lookup y = some .local)
    (hsw : swapsWith (.ListComp elt [⟨tg, iter, ifs, 0⟩] scope pos) (some (.Name y py)) spos.line X.env = pure true) (hin : c.in (own.map (·.2))) (hi : DI X W WD tg iter ti) (ok : BlkOk X.N X.env.scope scope own)
    (hg : ∀ (s : Shared) (H : Hp) (C : Addr) (cl : List (Str × Addr)) (fp : List Addr), PG (X.blk s H scope (compEnvC scope cl C X.env) fp) tg (ctG X.K c)) (ht : ∀ (s : Shared) (H : Hp) (C : Addr) (cl : List (Str × Addr)) (fp : List Addr), DTs (X.blk s H scope (compEnvC scope cl C X.env) fp) W0 WD0 ifs tt)
    (he : ∀ (s : Shared) (H : Hp) (C : Addr) (cl : List (Str × Addr)) (fp : List Addr), DE (X.blk s H scope (compEnvC scope cl C X.env) fp) W0 WD0 elt te) (hs : ∀ x, foldedSetIterable iter X.env x = pure x := by intro _; rfl) :
    DS X W WD (.Assign [.Name y py] (.ListComp elt [⟨tg, iter, ifs, 0⟩] scope pos) spos) (dSet i (dLc mt ti c (own.map (·.2)) tt te)) := by
  refine PS.imp (ps_setLc (tt := upT X.K W0 WD0 tt) (te := up X.K W0 WD0 te) hc hN hy hyl hsw hi ok hg ht he hs) fun E σ H h => ?_
  obtain ⟨G, F, r, m, DD, x, t, k⟩ := h
  have h2 : up X.K W WD (dLc mt ti c (own.map (·.2)) tt te) σ H (fun v H1 => E.nx (σ.set i (some v)) H1) := ⟨G, F, r, m, _, x, t, fun G1 H1 m1 d v e1 p1 q1 t1 => k.nx G1 H1 m1 _ _ e1 p1 ((x.rs.mono e1).set q1) t1⟩
  exact lc_up hin h2
end
end DL

set_option Elab.async false
set_option linter.all false
set_option maxRecDepth 100000
set_option maxHeartbeats 4000000
namespace DL
open PySem PySem.Spec PyProof.Rows L2

def liftSp (K : PySem.W.Frag) (sp : DSp) : Sp := fun vs H Q E => ∃ (G F : Hp) (m : M) (ds : List D) (QD : D → M → Prop) (ED : XD → M → Prop), Rep K G H F m ∧ Rps K G ds vs ∧ sp ds m QD ED ∧ Kv K G F QD Q ∧
  ∀ (G' H' : Hp) (m' : M) (C : Addr) (fs : List (Str × D)) (d : Option Addr), Same G G' → Rep K G' H' F m' → RpX K G' d fs → ED ⟨C, fs⟩ m' → E (.ref C) d H'
def startD (N : List Str) (ds : List D) : DSt := ds.map some ++ List.replicate (N.length - ds.length) none
theorem rs_start {K : PySem.W.Frag} {G : Hp} {N : List Str} {ds : List D} {vs : List V} (h : Rps K G ds vs) : Rs K G (startD N ds) (L2.start N vs) := by
  refine ⟨by simp [startD, L2.start, h.length], fun i d e => ?_⟩
  unfold startD at e
  unfold L2.start
  by_cases hi : i < ds.length
  · rw [List.getElem?_append_left (by simpa using hi), List.getElem?_map] at e
    cases q : ds[i]? with
    | none => rw [q] at e; cases e
    | some d2 =>
      rw [q] at e
      cases e
      obtain ⟨v, h1, h2⟩ := h.get q
      refine ⟨v, ?_, h2⟩
      rw [List.getElem?_append_left (by rw [List.length_map, ← h.length]; exact hi), List.getElem?_map, h1]
      rfl
  · rw [List.getElem?_append_right (by simpa using hi)] at e
    by_cases hj : i - ds.length < N.length - ds.length
    · rw [List.length_map, List.getElem?_replicate, if_pos hj] at e
      cases e
    · rw [List.length_map, List.getElem?_replicate, if_neg hj] at e
      cases e
section
variable {P : Program} {w : World} {K : PySem.W.Frag} {mg : Str → Option Value} {base : Heap} {x qual : Str} {params : Arguments} {body : List Stmt} {scope : Scope} {dvs : List V} {kws : List (Str × V)} {f : Addr} {fd : FuncData}
abbrev CXo (P : Program) (w : World) (K : PySem.W.Frag) (mg : Str → Option Value) (base : Heap) (N : List Str) (qual : Str) (scope : Scope) (f : Addr) (cdv : Value) (A : Around) (outer : List Env) (s : Shared) (H : Hp) (E : XK) : Cx := cxOf (L2.CX P w) P w K mg base N qual scope f cdv A outer s H E
abbrev WE0 (E : XK) : WX := fun cls d _ H => E cls d H
theorem fn_d {N ps : List Str} {k : Nat} {sp : DSp} (F : FunD K x qual params body scope dvs kws f fd) (S : FnScope N ps scope) (len : ∀ ds m Q E, sp ds m Q E → ds.length = ps.length) (t : DWX → DTS)
    (hb : ∀ (cdv : Value) (A : Around) (outer : List Env) (s : Shared) (H : Hp) (E : XK) (WD : DWX), Room k (A.deeper (envOfC qual scope s.heap.objs.size f cdv)) → Takes (CXo P w K mg base N qual scope f cdv A outer s H E) (WE0 E) →
      PassesOwn (model P w) (CXo P w K mg base N qual scope f cdv A outer s H E).A (CXo P w K mg base N qual scope f cdv A outer s H E).env (CXo P w K mg base N qual scope f cdv A outer s H E).xe → DSs (CXo P w K mg base N qual scope f cdv A outer s H E) (WE0 E) WD body (t WD))
    (pure_ : ∀ ds m Q E, sp ds m Q E → t (fun x _ m => E x m) { nx := fun _ m => Q .non m, rt := Q } (startD N ds) m) : FnOk P w K mg base (L2.CX P w) (k + 1) f fd ps (liftSp K sp) := by
  refine F.ok S (fun vs H Q E h => ?_) (fun cdv A outer s H vs Q E hr h => ?_)
  · obtain ⟨G, F, m, ds, QD, ED, rep, rs, hs, _⟩ := h
    rw [← rs.length]
    exact len ds m QD ED hs
  · obtain ⟨G, F, m, ds, QD, ED, rep, rs, hs, kv, kx⟩ := h
    refine ⟨_, hb cdv A outer s H E (fun x _ m => ED x m) hr (takes_of rfl rfl rfl rfl) (passes_of rfl), ?_⟩
    refine ⟨G, F, startD N ds, m, _, ⟨rep, rs_start rs, fun G' H' m' r' s' C fs d e r rs' rx wd => kx G' H' m' C fs d e r rx wd⟩, pure_ ds m QD ED hs, ⟨fun G' H' m' r' s' e r rs' q => kv G' H' m' _ _ e r .non q, kv, ?_, ?_⟩⟩
    · exact fun _ _ _ _ _ _ _ _ q => q.elim
    · exact fun _ _ _ _ _ _ _ _ q => q.elim
end

def dCall (sp : DSp) (WD : DWX) (dds : List D) (t : DTA) : DTE := fun r m Q => t r m fun ds m1 => sp (ds ++ dds) m1 Q fun x m2 => WD x r m2
theorem lift_call {K : PySem.W.Frag} {W : WX} {WD : DWX} {G H F : Hp} {r : DSt} {σ : L2.St} {m : M} {sp : DSp} {ds : List D} {vs : List V} {QD : D → M → Prop} {Q : VK} (x : Sx K W WD G H F r σ m) (rs : Rps K G ds vs) (t : sp ds m QD fun x m2 => WD x r m2) (k : Kv K G F QD Q) : liftSp K sp vs H Q (WE W σ) :=
  ⟨G, F, m, ds, QD, _, x.rep, rs, t, k, fun G' H' m' C fs d e r' rx wd => x.lx G' H' m' r σ C fs d e r' (x.rs.mono e) rx wd⟩
section
variable {X : Cx} {W : WX} {WD : DWX} {k : Nat} {f C g : Addr} {fd : FuncData} {ps : List Str} {sp : DSp} {dvs : List V} {dds : List D} {ds : List Value} {x mn : Str} {p pos apos : Pos} {e o : Expr} {es : List Expr} {ta : DTE} {t : DTA}
theorem de_call (F : FnOk X.prog X.w X.K X.mg X.base (L2.CX X.prog X.w) k f fd ps (liftSp X.K sp)) (hr : Room k X.A) (hg : Gl X x) (hm : X.mg x = some (.ref f)) (hk : PySem.W.keepIn X.K (.ref f) = true) (hb : Binds X.K fd ps ds) (hd : Vals dvs ds) (hdd : ∀ G, Rps X.K G dds dvs) (tk : Takes X W)
    (ha : DA X W WD (e :: es) t) (hdb : (x == ("__debug__" : Str)) = false := by decide) (he : starEach (e :: es) X.env = (false, eval e X.env) :: starEach es X.env := by rfl) (hpl : (backTo pos (starEach es X.env)).any (·.1) = false := by rfl) :
    DE X W WD (.Call (.Name x p) (e :: es) [] pos) (dCall sp WD dds t) := by
  refine PE.imp (pe_callSD (E := WE W) F hr hg hm hk hb hd (fun σ => passAt tk σ) ha hdb he hpl) fun σ H Q h => ?_
  obtain ⟨G, F, r, m, QD, x, t, k⟩ := h
  refine ⟨G, F, r, m, _, x, t, fun G1 H1 m1 ds vs e1 r1 p1 t1 => ?_⟩
  exact lift_call (x.step e1 r1) (p1.append (hdd G1)) t1 (k.mono e1)
def insOf (m : M) : D → Option (Addr × List (Str × D))
  | .ins C fs => some (C, fs)
  | .ref a => (m a).bind fun o => match o with
    | .ins C fs => some (C, fs)
    | _ => none
  | _ => none
theorem ins_ok {K : PySem.W.Frag} {G H F : Hp} {m : M} {d : D} {v : V} {C : Addr} {fs : List (Str × D)} (r : Rep K G H F m) (p : Rp K G d v) (e : insOf m d = some (C, fs)) : ∃ a dx fv, v = .ref a ∧ H a = some (.ins C dx fv) ∧ Rpf K G fs fv := by
  cases d with
  | ins C' fs' => cases e; cases p with | ins h1 r1 => exact ⟨_, _, _, rfl, r.ext _ _ h1, r1⟩
  | ref a =>
    cases p
    dsimp only [insOf] at e
    cases q : m a with
    | none => rw [q] at e; cases e
    | some o =>
      rw [q] at e
      cases o with
      | ins C' fs' =>
        obtain ⟨_, _, u, h3, h4⟩ := r.mo a _ q
        obtain ⟨dx, fv, rfl, h5⟩ := h4.ofIns
        cases e
        exact ⟨_, _, _, rfl, h3, h5⟩
      | _ => cases e
  | _ => cases e
def dFld (K : PySem.W.Frag) (ta : DTE) (f : Str) : DTE := fun r m Q => ta r m fun x m1 => ∃ C fs d, insOf m1 x = some (C, fs) ∧ Cls K C ∧ NoAttr K C f ∧ fs.lookup f = some d ∧ Q d m1
theorem de_fld {f : Str} (he : DE X W WD e ta) (hb : attributeBase e f X.env (eval e X.env) = eval e X.env := by rfl) : DE X W WD (.Attribute e f pos) (dFld X.K ta f) := by
  refine PE.imp (pe_fld he hb) fun σ H Q h => ?_
  obtain ⟨G, F, r, m, QD, x, t, k⟩ := h
  refine ⟨G, F, r, m, _, x, t, fun G1 H1 m1 d1 v1 e1 r1 p1 t1 => ?_⟩
  obtain ⟨C, fs, d, e2, c, n, l, t2⟩ := t1
  obtain ⟨a, dx, fv, rfl, h1, h2⟩ := ins_ok r1 p1 e2
  obtain ⟨v, l2, q2⟩ := h2.lookup l
  exact ⟨a, C, dx, fv, v, rfl, h1, c, n, l2, k G1 H1 m1 d v e1 r1 q2 t2⟩
def dFldS (K : PySem.W.Frag) (ta tv : DTE) (f : Str) : DTS := fun DD r m => tv r m fun y m1 => ta r m1 fun x m2 => ∃ a C fs, x = .ref a ∧ m2 a = some (.ins C fs) ∧ Cls K C ∧ NoAttr K C f ∧ fs.length < 1000 ∧ DD.nx r (mset m2 a (.ins C (putD f y fs)))
theorem ds_fld {value : Expr} {tv : DTE} {f : Str} {pos' : Pos} (ha : DE X W WD o ta) (hv : DE X W WD value tv) (hs : swapsWith value (some (.Attribute o f pos')) pos.line X.env = pure false := by rfl) : DS X W WD (.Assign [.Attribute o f pos'] value pos) (dFldS X.K ta tv f) := by
  refine PS.imp (ps_fld ha hv hs) fun E σ H h => ?_
  obtain ⟨G, F, r, m, DD, x, t, k⟩ := h
  refine ⟨G, F, r, m, _, x, t, fun G1 H1 m1 d1 v1 e1 r1 p1 t1 => ?_⟩
  refine ⟨G1, F, r, m1, _, x.step e1 r1, t1, fun G2 H2 m2 d2 v2 e2 r2 p2 t2 => ?_⟩
  obtain ⟨a, C, fs, rfl, hm, c, n, l, t3⟩ := t2
  cases p2
  obtain ⟨_, _, u, h3, h4⟩ := r2.mo a _ hm
  obtain ⟨dx, fv, rfl, h5⟩ := h4.ofIns
  refine ⟨a, C, dx, fv, rfl, h3, c, n, by rw [← h5.length]; exact l, ?_⟩
  exact k.nx G2 _ _ r σ (e1.trans e2) (r2.write hm (show RpM X.K G2 (.ins C (putD f d1 fs)) (.ins C dx (putF f v1 fv)) from ⟨rfl, h5.put (p1.mono e2)⟩)) (x.rs.mono (e1.trans e2)) t3
def dMeth (C : Addr) (mn : Str) (sp : DSp) (WD : DWX) (dds : List D) (ta : DTE) (t : DTA) : DTE := fun r m Q => ta r m fun x m1 => ∃ fs, insOf m1 x = some (C, fs) ∧ fs.lookup mn = none ∧ t r m1 fun ds m2 => sp (x :: (ds ++ dds)) m2 Q fun x m2 => WD x r m2
def tMethS (C : Addr) (m : Str) (sp : Sp) (dvs : List V) (E : L2.St → XK) (ta : TE) (t : TA) : TE := fun σ H Q => ta σ H fun x H1 => ∃ a dx fs, x = .ref a ∧ H1 a = some (.ins C dx fs) ∧ fs.lookup m = none ∧
  t σ H1 fun vs H2 => sp (x :: (vs ++ dvs)) H2 Q (E σ)
theorem pe_methS {pl : Sem Bool} {sp : Sp} {E : L2.St → XK} {ta : TE} {t : TA} {CX : CXT} (he : PE X o ta) (c : Cls X.K C) (hm : Meth X.K C mn f) (F : FnOk X.prog X.w X.K X.mg X.base CX k f fd ps sp) (hr : Room k X.A) (hb : Binds X.K fd ps ds) (hd : Vals dvs ds) (hx : ∀ σ, PassesAt CX X σ (E σ)) (ha : PA X (e :: es) t)
    (hst : starEach (e :: es) X.env = (false, eval e X.env) :: starEach es X.env := by rfl) (hpl : (backTo pos (starEach es X.env)).any (·.1) = false := by rfl)
    (ht : eval (.Call (.Attribute o mn apos) (e :: es) [] pos) X.env = (do
      let ov ← eval o X.env
      standAt apos.atName
      let (f, first) ← holding [ov] (getMethod ov mn pl)
      callWith pos f first (backTo pos (starEach (e :: es) X.env)) (backToKw pos (keywordEach [] X.env))) := by rfl) :
    PE X (.Call (.Attribute o mn apos) (e :: es) [] pos) (tMethS C mn sp dvs E ta t) := by
  refine ⟨fun pins s σ H Q I h => ?_⟩
  refine PySem.W.methodCall_KW (pl := pl) (thn (he.run pins s σ H _ I h) fun u s1 ⟨x, H1, I1, rx, a, dx, fs, ex, ea, l, q⟩ => ?_) ht
  subst ex
  obtain rfl : u = Value.ref a := rx
  refine getmeth_ok I1 ea c hm l ?_
  refine PySem.W.callWith_K (first := [.ref a]) (h₀ := X.base) I.ok.mod.kin hm.kp (thn (ha.run pos pins s1 σ H1 _ I1 q) fun us s2 ⟨vs, H2, I2, r, q2⟩ => ⟨I2.kIn, ?_⟩) hst hpl
  exact run_fnSD (us := .ref a :: us) (vs := .ref a :: vs) F hr hb hd (hx σ) I2 (.cons rfl r) q2
theorem up_meth {K : PySem.W.Frag} {σ : L2.St} {H : Hp} {Q : VK} (hdd : ∀ G, Rps K G dds dvs) (h : up K W WD (dMeth C mn sp WD dds ta t) σ H Q) : tMethS C mn (liftSp K sp) dvs (WE W) (up K W WD ta) (upA K W WD t) σ H Q := by
  obtain ⟨G, F, r, m, QD, x, t, k⟩ := h
  refine ⟨G, F, r, m, _, x, t, fun G1 H1 m1 d1 v1 e1 r1 p1 t1 => ?_⟩
  obtain ⟨fs, e2, l, t2⟩ := t1
  obtain ⟨a, dx, fv, rfl, h1, h2⟩ := ins_ok r1 p1 e2
  refine ⟨a, dx, fv, rfl, h1, h2.lookupN l, G1, F, r, m1, _, x.step e1 r1, t2, fun G2 H2 m2 ds vs e3 r3 p3 t3 => ?_⟩
  exact lift_call (x.step (e1.trans e3) r3) (.cons (p1.mono e3) (p3.append (hdd G2))) t3 (k.mono (e1.trans e3))
theorem de_meth {pl : Sem Bool} (he : DE X W WD o ta) (c : Cls X.K C) (hm : Meth X.K C mn f) (F : FnOk X.prog X.w X.K X.mg X.base (L2.CX X.prog X.w) k f fd ps (liftSp X.K sp)) (hr : Room k X.A) (hb : Binds X.K fd ps ds) (hd : Vals dvs ds) (hdd : ∀ G, Rps X.K G dds dvs) (tk : Takes X W) (ha : DA X W WD (e :: es) t)
    (hst : starEach (e :: es) X.env = (false, eval e X.env) :: starEach es X.env := by rfl) (hpl : (backTo pos (starEach es X.env)).any (·.1) = false := by rfl)
    (ht : eval (.Call (.Attribute o mn apos) (e :: es) [] pos) X.env = (do
      let ov ← eval o X.env
      standAt apos.atName
      let (f, first) ← holding [ov] (getMethod ov mn pl)
      callWith pos f first (backTo pos (starEach (e :: es) X.env)) (backToKw pos (keywordEach [] X.env))) := by rfl) :
    DE X W WD (.Call (.Attribute o mn apos) (e :: es) [] pos) (dMeth C mn sp WD dds ta t) := PE.imp (pe_methS (E := WE W) he c hm F hr hb hd (fun σ => passAt tk σ) ha hst hpl ht) fun _ _ _ h => up_meth hdd h
def dProp (C : Addr) (sp : DSp) (ta : DTE) : DTE := fun r m Q => ta r m fun x m1 => ∃ fs, insOf m1 x = some (C, fs) ∧ sp [x] m1 Q fun _ _ => False
theorem de_prop {fn : Str} {pa : Addr} (he : DE X W WD e ta) (c : Cls X.K C) (hp : PropOf X.K C fn pa g) (F : FnOk X.prog X.w X.K X.mg X.base (L2.CX X.prog X.w) k g fd ps (liftSp X.K sp)) (hr : Room (k + 1) X.A) (hb : Binds X.K fd ps [])
    (hab : attributeBase e fn X.env (eval e X.env) = eval e X.env := by rfl) : DE X W WD (.Attribute e fn pos) (dProp C sp ta) := by
  refine PE.imp (pe_prop (E := E0) he c hp F hr hb .nil passL hab) fun σ H Q h => ?_
  obtain ⟨G, F, r, m, QD, x, t, k⟩ := h
  refine ⟨G, F, r, m, _, x, t, fun G1 H1 m1 d1 v1 e1 r1 p1 t1 => ?_⟩
  obtain ⟨fs, e2, t2⟩ := t1
  obtain ⟨a, dx, fv, rfl, h1, h2⟩ := ins_ok r1 p1 e2
  exact ⟨a, dx, fv, rfl, h1, G1, F, m1, [d1], QD, _, r1, .cons p1 .nil, t2, k.mono e1, fun _ _ _ _ _ _ _ _ _ q => q.elim⟩
def tMakeS (C : Addr) (sp : Sp) (dvs : List V) (E : L2.St → XK) (t : TA) : TE := fun σ H Q => t σ H fun vs H1 => ∀ x dx, H1 x = none → H1 dx = none → dx ≠ x →
  sp (.ref x :: (vs ++ dvs)) (upd (upd H1 dx (.own x)) x (.ins C dx [])) (fun v H2 => v = .non ∧ Q (.ref x) H2) (E σ)
theorem run_makeS {CX : CXT} {sp : Sp} {E : XK} {pins : List (Addr × Obj)} {σ : L2.St} {H : Hp} {s : Shared} {Q : VK} {us : List Value} {vs : List V} (M : Mk X.K C f) (F : FnOk X.prog X.w X.K X.mg X.base CX k f fd ps sp) (hr : Room (k + 1) X.A) (hb : Binds X.K fd ps ds) (hd : Vals dvs ds)
    (hx : PassesAt CX X σ E) (I : Inv X pins σ H s) (r : Vals vs us)
    (h : ∀ x dx, H x = none → H dx = none → dx ≠ x → sp (.ref x :: (vs ++ dvs)) (upd (upd H dx (.own x)) x (.ins C dx [])) (fun v H2 => v = .non ∧ Q (.ref x) H2) E) :
    wpAny (model X.prog X.w) X.A (call (.ref C) us) (EP X pins σ Q) X.xe s := by
  have hq := h (s.heap.objs.size + 1) s.heap.objs.size (I.hok.fresh (Nat.le_succ _)) (I.hok.fresh (Nat.le_refl _)) (Nat.ne_of_lt (Nat.lt_succ_self _))
  have I2 := Inv.made (C := C) I
  have r2 : Vals (V.ref (s.heap.objs.size + 1) :: (vs ++ dvs)) (Value.ref (s.heap.objs.size + 1) :: (us ++ ds)) := .cons rfl (r.append hd)
  have hl : (Value.ref (s.heap.objs.size + 1) :: us ++ ds).length = ps.length := by
    have e := r2.length
    rw [F.len _ _ _ _ hq] at e
    exact e.symm
  refine wpAny_call (make_map (f := f) I.kIn M.makes M.init (beq_iff_eq.mp M.fn) (codeAny_mono (F.run _ X.stack _ _ ⟨Value.ref (s.heap.objs.size + 1) :: us, []⟩ (Value.ref (s.heap.objs.size + 1) :: (us ++ ds)) _ _ E (hr.make C us [])
    (I2.env0.make C us []) (hb _ (Value.ref (s.heap.objs.size + 1) :: us) I2.kIn hl) r2 hq) fun r s' hq' => ?_))
  cases r with
  | error e => exact hx pins _ _ e s' I2 hq'
  | ok fl =>
    cases fl with
    | ret u =>
      obtain ⟨v, H', I3, rv, ev, q3⟩ := I2.after hq'
      subst ev
      exact ⟨rv, ⟨V.ref (s.heap.objs.size + 1), H', I3, rfl, q3⟩⟩
    | next => exact False.elim hq'
    | brk => exact False.elim hq'
    | cont => exact False.elim hq'
theorem pe_makeS {CX : CXT} {sp : Sp} {E : L2.St → XK} {t : TA} (M : Mk X.K C f) (F : FnOk X.prog X.w X.K X.mg X.base CX k f fd ps sp) (hr : Room (k + 1) X.A) (hg : Gl X x) (hm : X.mg x = some (.ref C)) (hb : Binds X.K fd ps ds) (hd : Vals dvs ds) (hx : ∀ σ, PassesAt CX X σ (E σ))
    (ha : PA X (e :: es) t) (hdb : (x == ("__debug__" : Str)) = false := by decide) (he : starEach (e :: es) X.env = (false, eval e X.env) :: starEach es X.env := by rfl) (hpl : (backTo pos (starEach es X.env)).any (·.1) = false := by rfl) :
    PE X (.Call (.Name x p) (e :: es) [] pos) (tMakeS C sp dvs E t) := by
  refine ⟨fun pins s σ H Q I h => ?_⟩
  refine wpAny_Call_Name_kw (ld_glob I hg hm ?_ hdb)
  refine PySem.W.callWith_K (h₀ := X.base) I.ok.mod.kin M.kp (thn (ha.run pos pins s σ H _ I h) fun us s1 ⟨vs, H1, I1, r, q⟩ => ⟨I1.kIn, ?_⟩) he hpl
  exact run_makeS M F hr hb hd (hx σ) I1 r q
def dMake (C : Addr) (sp : DSp) (WD : DWX) (dds : List D) (t : DTA) : DTE := fun r m Q => t r m fun ds m1 => ∀ x, m1 x = none → sp (.ref x :: (ds ++ dds)) (mset m1 x (.ins C [])) (fun _ m2 => ∃ fs, m2 x = some (.ins C fs) ∧ Q (.ins C fs) (mdel m2 x)) fun x m2 => WD x r m2
theorem de_make (M : Mk X.K C f) (F : FnOk X.prog X.w X.K X.mg X.base (L2.CX X.prog X.w) k f fd ps (liftSp X.K sp)) (hr : Room (k + 1) X.A) (hg : Gl X x) (hm : X.mg x = some (.ref C)) (hb : Binds X.K fd ps ds) (hd : Vals dvs ds) (hdd : ∀ G, Rps X.K G dds dvs) (tk : Takes X W)
    (hn : ∀ vs H Q E, liftSp X.K sp vs H Q E → liftSp X.K sp vs H (fun v H' => v = .non ∧ Q v H') E)
    (ha : DA X W WD (e :: es) t) (hdb : (x == ("__debug__" : Str)) = false := by decide) (he : starEach (e :: es) X.env = (false, eval e X.env) :: starEach es X.env := by rfl) (hpl : (backTo pos (starEach es X.env)).any (·.1) = false := by rfl) :
    DE X W WD (.Call (.Name x p) (e :: es) [] pos) (dMake C sp WD dds t) := by
  refine PE.imp (pe_makeS (E := WE W) M F hr hg hm hb hd (fun σ => passAt tk σ) ha hdb he hpl) fun σ H Q h => ?_
  obtain ⟨G, F, r, m, QD, x, t, k⟩ := h
  refine ⟨G, F, r, m, _, x, t, fun G1 H1 m1 ds vs e1 r1 p1 t1 => ?_⟩
  intro y dx hy hdx ne
  have r2 : Rep X.K G1 (upd (upd H1 dx (.own y)) y (.ins C dx [])) F (mset m1 y (.ins C [])) := (r1.junk (o := .own y) hdx).newm (u := .ins C []) (by rw [upd_ne (Ne.symm ne)]; exact hy) ⟨rfl, .nil⟩
  refine hn _ _ (fun _ H2 => Q (.ref y) H2) _ ?_
  refine lift_call (QD := fun _ m2 => ∃ fs, m2 y = some (.ins C fs) ∧ QD (.ins C fs) (mdel m2 y)) (x.step e1 r2) (.cons (.ref y) (p1.append (hdd G1))) (t1 y (r1.mfree hy)) fun G3 H3 m3 d v e3 r3 p3 t3 => ?_
  obtain ⟨fs, hm3, t4⟩ := t3
  obtain ⟨G4, e4, r4, p4⟩ := r3.freezeI hm3
  exact k G4 H3 _ _ _ ((e1.trans e3).trans e4) r4 p4 t4
theorem none_of {K : PySem.W.Frag} {sp : DSp} (h : ∀ ds m Q E, sp ds m Q E → sp ds m (fun d m' => d = .non ∧ Q d m') E) (vs : List V) (H : Hp) (Q : VK) (E : XK) (q : liftSp K sp vs H Q E) : liftSp K sp vs H (fun v H' => v = .non ∧ Q v H') E := by
  obtain ⟨G, F, m, ds, QD, ED, rep, rs, hs, kv, kx⟩ := q
  refine ⟨G, F, m, ds, _, ED, rep, rs, h ds m QD ED hs, fun G' H' m' d v e r p q => ?_, kx⟩
  obtain ⟨rfl, q⟩ := q
  cases p
  exact ⟨rfl, kv G' H' m' _ _ e r .non q⟩
def dCallO (C : Addr) (sp : DSp) (WD : DWX) (tf : DTE) (t : DTA) : DTE := fun r m Q => tf r m fun x m1 => (∃ fs, insOf m1 x = some (C, fs)) ∧ t r m1 fun ds m2 => ∃ fs, insOf m2 x = some (C, fs) ∧ sp (x :: ds) m2 Q fun x m2 => WD x r m2
end
end DL

set_option Elab.async false
set_option linter.all false
set_option maxRecDepth 100000
set_option maxHeartbeats 4000000
namespace DL
open PySem PySem.Spec PyProof.Rows L2

def MtD (K : PySem.W.Frag) (T : String) (r : V → List V → Hp → VK → Prop) (ty : D → M → Prop) (rd : DRM) : Prop :=
  (∀ (G H F : Hp) (m : M) (x : D) (vx : V), Rep K G H F m → Rp K G x vx → ty x m → tyV K T vx H) ∧
  ∀ (G H F : Hp) (m : M) (x : D) (vx : V) (ds : List D) (vs : List V) (QD : D → M → Prop) (Q : VK), Rep K G H F m → Rp K G x vx → Rps K G ds vs → rd x ds m QD → Kv K G F QD Q → r vx vs H Q
def dBM (ty : D → M → Prop) (rd : DRM) (to : DTE) (t : DTA) : DTE := fun r m Q => to r m fun x m1 => ty x m1 ∧ t r m1 fun ds m2 => rd x ds m2 Q
section
variable {K : PySem.W.Frag} {X : Cx} {W : WX} {WD : DWX} {o e : Expr} {es : List Expr} {to : DTE} {t : DTA} {name : Str} {apos cpos : Pos} {T id : String} {r : V → List V → Hp → VK → Prop} {ty : D → M → Prop} {rd : DRM}
theorem de_bm (pa : PlainAttrs T) (slot : Slot T name id) (hty : typeOf (.builtin id) = pure (.type "method_descriptor")) (hm : MtR X id r) (hd : MtD X.K T r ty rd) (ho : DE X W WD o to) (ha : DA X W WD (e :: es) t)
    (hbase : attributeBase o name X.env (eval o X.env) = eval o X.env := by rfl)
    (hfew : ((backTo cpos (starEach (e :: es) X.env)).all (fun x => !x.1) && (backToKw cpos (keywordEach [] X.env)).all (fun x => x.1.isSome)
      && decide ((e :: es).length + ([] : List Keyword).length + (if ([] : List Keyword).isEmpty then 0 else 1) < 30)) = true := by rfl)
    (hline : (apos.endLine == cpos.line) = true := by rfl) (hs : starEach (e :: es) X.env = (false, eval e X.env) :: starEach es X.env := by rfl) (hplain : (backTo cpos (starEach es X.env)).any (·.1) = false := by rfl) :
    DE X W WD (.Call (.Attribute o name apos) (e :: es) [] cpos) (dBM ty rd to t) := by
  refine PE.imp (pe_bm pa slot hty hm ho ha hbase hfew hline hs hplain) fun σ H Q h => ?_
  obtain ⟨G, F, r, m, QD, x, t, k⟩ := h
  refine ⟨G, F, r, m, _, x, t, fun G1 H1 m1 d1 v1 e1 r1 p1 t1 => ⟨hd.1 G1 H1 F m1 d1 v1 r1 p1 t1.1, ?_⟩⟩
  refine ⟨G1, F, r, m1, _, x.step e1 r1, t1.2, fun G2 H2 m2 ds vs e2 r2 p2 t2 => ?_⟩
  exact hd.2 G2 H2 F m2 d1 v1 ds vs QD Q r2 (p1.mono e2) p2 t2 (k.mono (e1.trans e2))
def isL (d : D) (m : M) : Prop := ∃ xs, lsOf m d = some xs
theorem ty_list {G H F : Hp} {m : M} {x : D} {vx : V} (r : Rep K G H F m) (p : Rp K G x vx) (h : isL x m) : tyV K "list" vx H := by
  obtain ⟨xs, e⟩ := h
  obtain ⟨a, vs, rfl, hs, _⟩ := ls_ok r p e
  exact .inl ⟨rfl, vs, hs⟩
theorem mo_lst {G H F : Hp} {m : M} {a : Addr} {xs : List D} (r : Rep K G H F m) (h : m a = some (.lst xs)) : ∃ vs, H a = some (.lst vs) ∧ Rps K G xs vs := by
  obtain ⟨_, _, u, h3, h4⟩ := r.mo a _ h
  obtain ⟨vs, rfl, h4⟩ := h4.ofLst
  exact ⟨vs, h3, h4⟩
theorem wr_lst {G H F : Hp} {m : M} {a : Addr} {xs ys : List D} {us : List V} (r : Rep K G H F m) (h : m a = some (.lst xs)) (p : Rps K G ys us) : Rep K G (upd H a (.lst us)) F (mset m a (.lst ys)) := r.write h (show RpM K G (.lst ys) (.lst us) from p)
def dAppend : DRM := fun x ds m Q => ∃ a xs y, x = .ref a ∧ ds = [y] ∧ m a = some (.lst xs) ∧ xs.length < sizeLine ∧ Q .non (mset m a (.lst (xs ++ [y])))
theorem md_append : MtD K "list" rAppend isL dAppend := by
  refine ⟨fun G H F m x vx r p h => ty_list r p h, fun G H F m x vx ds vs QD Q r px ps t k => ?_⟩
  obtain ⟨a, xs, y, rfl, rfl, hm, hz, t⟩ := t
  cases px
  obtain ⟨v, rfl, p⟩ := rps1 ps
  obtain ⟨vs, h3, h4⟩ := mo_lst r hm
  exact ⟨a, vs, v, rfl, rfl, h3, by rw [← h4.length]; exact hz, k.here (wr_lst r hm (h4.append (.cons p .nil))) .non t⟩
def dClear : DRM := fun x ds m Q => ∃ a xs, x = .ref a ∧ ds = [] ∧ m a = some (.lst xs) ∧ Q .non (mset m a (.lst []))
end

section
variable {X : Cx} {W : WX} {WD : DWX} {k : Nat} {f C : Addr} {fd : FuncData} {ps : List Str} {sp : DSp} {a b : Expr} {ta tb : DTE} {pos : Pos}
end
def dNever : DTS := fun _ _ _ => False
theorem ds_never {X : Cx} {W : WX} {WD : DWX} {st : Stmt} : DS X W WD st dNever := PS.imp ps_never fun _ _ _ h => by
  obtain ⟨_, _, _, _, _, _, t, _⟩ := h
  exact t
end DL

set_option Elab.async false
set_option linter.all false
set_option maxRecDepth 100000
set_option maxHeartbeats 4000000
namespace DL
open PySem PySem.Spec PyProof.Rows L2
open He (ga ma eqO eqO_ok ba)

theorem DefA.fun_ {K : Fr0} {d : DefA} (e : fnAt K (d.ad K) = d.told) (c : d.good K = true) : ∃ fd, FunD K d.name d.qual d.params d.body d.scope (d.vs K) (d.ks K) (d.ad K) fd := by
  obtain ⟨kp, c2⟩ := ba c
  unfold fnAt at e
  cases look : K.lookup (d.ad K) with
  | none => rw [look] at c2; cases c2
  | some ob =>
    obtain ⟨oc, od, dt, osl⟩ := ob
    rw [look] at c2 e
    cases dt with
    | func u =>
      obtain ⟨n1, n2, n3, n4, n5, n6, n7, n8, n9, n10, n11, n12, n13, n14, n15⟩ := u
      have e2 : (some (n1, n2, n3, n4, n5, n6, n7, n15) : He.FnW) = some (d.name, d.qual, d.params, .stmts d.body, d.scope, mainGlobals, [], builtinsNs) := e
      simp only [Option.some.injEq, Prod.mk.injEq] at e2
      obtain ⟨rfl, rfl, rfl, rfl, rfl, rfl, rfl, rfl⟩ := e2
      obtain ⟨k1, k2⟩ := ba (show (PySem.W.codeIn K n13 d.qual && (He.dflB K n8 (d.vs K) && He.kwdB K n9 (d.ks K))) = true from c2)
      obtain ⟨k3, k4⟩ := ba k2
      exact ⟨_, ⟨oc, od, n8, n9, n10, n11, n12, n13, n14, osl, rfl, look, k1, He.dflB_ok k3, He.kwdB_ok k4⟩, kp⟩
    | _ => cases c2
section
variable {fa : List (Fr0 → Bool)} {fn : List DefA} {K : Fr0}
theorem Says.fact (c : Says fa fn K) (i : Nat) {f : Fr0 → Bool} (h : fa[i]? = some f := by rfl) : f K = true := by
  obtain ⟨c1, _⟩ := ba (show (fa.all (fun f => f K) && fn.all (fun d => d.good K)) = true from congrArg Prod.fst c)
  exact List.all_eq_true.mp c1 f (List.mem_of_getElem? h)
theorem Says.def_ (c : Says fa fn K) (i : Nat) {d : DefA} (h : fn[i]? = some d := by rfl) : ∃ fd, FunD K d.name d.qual d.params d.body d.scope (d.vs K) (d.ks K) (d.ad K) fd := by
  obtain ⟨_, c2⟩ := ba (show (fa.all (fun f => f K) && fn.all (fun d => d.good K)) = true from congrArg Prod.fst c)
  have e : fn.map (fun d => fnAt K (d.ad K)) = fn.map DefA.told := congrArg Prod.snd c
  have e2 : (fn.map fun d => fnAt K (d.ad K))[i]? = (fn.map DefA.told)[i]? := by rw [e]
  rw [List.getElem?_map, List.getElem?_map, h] at e2
  exact DefA.fun_ (Option.some.inj e2) (List.all_eq_true.mp c2 d (List.mem_of_getElem? h))
end
theorem prop_of {K : Fr0} {C f : Str} (h : propB C f K = true) : PropOf K (ga K C) f (pad K C f) (wad K "property" C f) := by
  obtain ⟨h1, h⟩ := ba h
  obtain ⟨h2, h⟩ := ba h
  obtain ⟨h3, h4⟩ := ba h
  refine ⟨eqO_ok h1, eqO_ok h2, of_decide_eq_true h3, ?_⟩
  unfold wad
  split at h4
  · rename_i g rest e
    rw [e]
    exact ⟨rest, rfl⟩
  · cases h4
structure Good (P : Program) (w : World) (K : Fr0) (mg : Str → Option Value) (base : Heap) (k : Nat) (x : Option Str) (f : Addr) (ps : List Str) (sp : DSp) : Prop where
  ex : ∃ fd, FnOk P w K mg base (L2.CX P w) k f fd ps (liftSp K sp) ∧ Binds K fd ps [] ∧ PySem.W.keepIn K (.ref f) = true
  gl : match x with
    | some x => mg x = some (.ref f)
    | none => True
section
variable {P : Program} {w : World} {K : Fr0} {mg : Str → Option Value} {base : Heap} {x qual : Str} {params : Arguments} {body : List Stmt} {scope : Scope} {dvs : List V} {kws : List (Str × V)} {f : Addr} {fd : FuncData}
abbrev CXn (P : Program) (w : World) (K : Fr0) (mg : Str → Option Value) (base : Heap) (N : List Str) (qual : Str) (scope : Scope) (f : Addr) (cdv : Value) (A : Around) (outer : List Env) (s : Shared) (H : Hp) (E : XK) : Cx := (cxOf CX0 P w K mg base N qual scope f cdv A outer s H E).nox
theorem fn_d0 {N ps : List Str} {k : Nat} {sp : DSp} (F : FunD K x qual params body scope dvs kws f fd) (S : FnScope N ps scope) (len : ∀ ds m Q E, sp ds m Q E → ds.length = ps.length) (t : DWX → DTS)
    (hb : ∀ (cdv : Value) (A : Around) (outer : List Env) (s : Shared) (H : Hp) (E : XK), Room k (A.deeper (envOfC qual scope s.heap.objs.size f cdv)) → Takes (CXn P w K mg base N qual scope f cdv A outer s H E) W0 →
      PassesOwn (model P w) (CXn P w K mg base N qual scope f cdv A outer s H E).A (CXn P w K mg base N qual scope f cdv A outer s H E).env (CXn P w K mg base N qual scope f cdv A outer s H E).xe → DSs (CXn P w K mg base N qual scope f cdv A outer s H E) W0 WD0 body (t WD0))
    (pure_ : ∀ ds m Q E, sp ds m Q E → t WD0 { nx := fun _ m => Q .non m, rt := Q } (startD N ds) m) : FnOk P w K mg base CX0 (k + 1) f fd ps (liftSp K sp) := by
  refine F.ok S (fun vs H Q E h => ?_) (fun cdv A outer s H vs Q E hr h => ?_)
  · obtain ⟨G, F, m, ds, QD, ED, rep, rs, hs, _⟩ := h
    rw [← rs.length]
    exact len ds m QD ED hs
  · obtain ⟨G, F, m, ds, QD, ED, rep, rs, hs, kv, kx⟩ := h
    refine ⟨_, PSs.nox (hb cdv A outer s H E hr takes0 PassesOwn.never), ?_⟩
    refine ⟨G, F, startD N ds, m, _, ⟨rep, rs_start rs, Lx.no⟩, pure_ ds m QD ED hs, ⟨fun G' H' m' r' s' e r rs' q => kv G' H' m' _ _ e r .non q, kv, ?_, ?_⟩⟩
    · exact fun _ _ _ _ _ _ _ _ q => q.elim
    · exact fun _ _ _ _ _ _ _ _ q => q.elim
end
def m0 : M := fun _ => none
def spLaw : DSp := fun ds m Q _ => ∃ ns : List Int, ds = [.rdl (ns.map D.int)] ∧ ns.length ≤ 63 ∧ m = m0 ∧ ∀ m', Q (.bl true) m'
theorem spLaw_len (x : Str) (ds : List D) (m : M) (Q : D → M → Prop) (E : XD → M → Prop) (h : spLaw ds m Q E) : ds.length = [x].length := by
  obtain ⟨ns, rfl, _⟩ := h
  rfl
theorem law_sp {K : Fr0} (H : Hp) (a : Addr) (ns : List Int) (hl : ns.length ≤ 63) (hT : ∀ x ∈ tbls3 K, H x.2.1 = some (.tbl #[])) (hS : SqL K H a (ns.map V.int)) : liftSp K spLaw [.ref a] H (fun v _ => v = .bl true) fun _ _ _ => False := by
  have tb : LamX.Tabs (tblsOf K) H := fun p hp => by
    obtain ⟨x, hx, rfl⟩ := List.mem_map.mp hp
    exact LamX.TabS.nil (hT x hx)
  obtain ⟨G, hG, hok, hS2⟩ : ∃ G : Hp, Same G H ∧ (∀ b o, G b = some o → okO o) ∧ SqL K G a (ns.map V.int) := by
    rcases hS with hR | hR
    · refine ⟨fun b => if b = a then H b else none, fun b o e => ?_, fun b o e => ?_, .inl ?_⟩
      · by_cases hb : b = a
        · have e : (if b = a then H b else none) = some o := e
          rw [if_pos hb] at e
          exact e
        · have e : (if b = a then H b else none) = some o := e
          rw [if_neg hb] at e
          cases e
      · by_cases hb : b = a
        · have e : (if b = a then H b else none) = some o := e
          rw [if_pos hb, hb] at e
          rcases hR with hR | ⟨ob, hR⟩
          · rw [hR] at e; cases e; exact ⟨fun _ e => (by cases e), fun _ e => (by cases e)⟩
          · rw [hR] at e; cases e; exact ⟨fun _ e => (by cases e), fun _ e => (by cases e)⟩
        · have e : (if b = a then H b else none) = some o := e
          rw [if_neg hb] at e
          cases e
      · rcases hR with hR | ⟨ob, hR⟩
        · exact .inl ((if_pos rfl).trans hR)
        · exact .inr ⟨ob, (if_pos rfl).trans hR⟩
    · exact ⟨fun _ => none, fun _ _ e => (by cases e), fun _ _ e => (by cases e), .inr hR⟩
  refine ⟨G, fun _ => none, m0, [.rdl (ns.map D.int)], fun d _ => d = .bl true, fun _ _ => False, ⟨hG, (fun _ _ e => (by cases e)), (fun _ _ e => (by cases e)), (fun _ _ e => (by cases e)), tb, (fun b o e => (hok b o e).1), (fun _ _ e => (by cases e))⟩, .cons (.rdl hS2 (Rps.ofInts ns)) .nil, ⟨ns, rfl, hl, rfl, fun _ => rfl⟩, ?_, fun _ _ _ _ _ _ _ _ _ q => q.elim⟩
  rintro G' H' m' d v e r p rfl
  cases p
  rfl
structure TabBs (K : Fr0) (mg : Str → Option Value) (base : Heap) : Prop where
  tb : ∀ x ∈ tbls3 K, LamX.TabB base mg x.1 x.2.1
  one : ∀ x ∈ tbls3 K, ∀ y ∈ tbls3 K, x.2.1 = y.2.1 → x.2.2 = y.2.2
theorem walk_tab {l : PySem.W.OpenLaw} {n k : Nat} {q : Program} {loose : List Str} {XP : (Str → Option Value) → Heap → Prop} {YP : World → Heap → Prop} {d : DefRec} {CX : CXT} {x : Str} (hn : l.most = some n) (hn2 : n ≤ sizeLine) (hdf : d.params.defaults = []) (hr : Room k callerA)
    (F : ∀ (w : World) (mg : Str → Option Value) (fa : Addr) (h : Heap), YP w h → h.Ns mainGlobals mg → mg d.name = some (.ref fa) → ∃ (K : Fr0) (fd : FuncData) (sp : Sp), K.In h ∧ TabAt K h ∧ (∀ (s : Shared) (u : Value), BindsTo s fd ⟨[u], []⟩ [(x, u)]) ∧
        (∀ (H : Hp) (a : Addr) (ns : List Int), ns.length ≤ n → (∀ x ∈ tbls3 K, H x.2.1 = some (.tbl #[])) → SqL K H a (ns.map V.int) → sp [.ref a] H (fun v _ => v = .bl true) fun _ _ _ => False) ∧
        ∀ base : Heap, K.In base → base.Ns mainGlobals mg → TabBs K mg base → FnOk l.prog w K mg base CX k fa fd [x] sp)
    (hCX : ∀ (H : Hp) (s : Shared) (e : Value) (s' : Shared), CX [] H s (fun _ _ _ => False) e s' → False) : PySem.W.WalkO q loose XP YP l.row.toRowW d [] (fun f vs => PySem.call f vs) := by
  refine Att.attach_callB hn hdf fun w _ sh mg _ fa _ _ _ _ ad us zs GT Y _ _ _ hmg hob hin hle _ hge => ?_
  obtain ⟨K, fd, sp, KX, T, hb, hsp, hF⟩ := F w mg fa _ Y GT.T.g hmg
  have each : ∀ {φ : Addr × Addr → Prop}, (∀ x ∈ tbls3 K, φ (x.1, x.2.1)) → ∀ p ∈ (tbls3 K).map (fun x => (x.1, x.2.1)), φ p := fun h p hp => by
    obtain ⟨y, hy, rfl⟩ := List.mem_map.mp hp
    exact h y hy
  exact LamX.law_callTs (cs := (tbls3 K).map fun x => (x.1, x.2.1)) KX GT.T.g GT.T.b GT.T.builtins GT.T.nolimit hge (each T.emp) (each T.out) (each T.hd) GT.T.bmain hob hin (Nat.le_trans hle hn2) hr
    (fun base h1 h2 h3 => hF base h1 h2 ⟨fun y hy => h3 _ (List.mem_map.mpr ⟨y, hy, rfl⟩), T.one⟩) hb (fun H hH hS => hsp H ad zs hle (fun y hy => hH _ (List.mem_map.mpr ⟨y, hy, rfl⟩)) hS) fun H e s' => hCX H sh e s'
end DL

set_option Elab.async false
set_option linter.all false
set_option maxRecDepth 100000
set_option maxHeartbeats 4000000
namespace DL
open PySem PySem.Spec PyProof.Rows L2
section
variable {m : M} {Q : D → M → Prop} {i j : Int} {x y : Str} {b c : Bool}
theorem eq_ii : dEq (.int i) (.int j) m Q ↔ Q (.bl (decide (i = j))) m := Iff.rfl
theorem ne_ii : dNe (.int i) (.int j) m Q ↔ Q (.bl (!decide (i = j))) m := Iff.rfl
theorem eq_ss : dEq (.str x) (.str y) m Q ↔ Q (.bl (decide (x = y))) m := Iff.rfl
theorem ne_ss : dNe (.str x) (.str y) m Q ↔ Q (.bl (!decide (x = y))) m := Iff.rfl
theorem eq_bb : dEq (.bl b) (.bl c) m Q ↔ Q (.bl (decide (b = c))) m := Iff.rfl
theorem ne_bb : dNe (.bl b) (.bl c) m Q ↔ Q (.bl (!decide (b = c))) m := Iff.rfl
end
theorem cut_to {α : Type} (xs : List α) (k : Nat) : cutD xs none (some (k : Int)) = xs.take k := by
  unfold cutD
  rw [HT.sIx_nat, HT.sIx_none]
  by_cases h : k ≤ xs.length
  · rw [Nat.min_eq_left h]
    simp
  · rw [Nat.min_eq_right (by omega)]
    have e : xs.take k = xs := List.take_of_length_le (by omega)
    rw [e]
    simp
theorem atI_ints {cs : List Int} {i : Int} (h0 : 0 ≤ i) (h : i < cs.length) : atI (cs.map D.int) i = some (.int (cs.getD i.toNat 0)) := by
  obtain ⟨n, rfl⟩ : ∃ n : Nat, i = n := ⟨i.toNat, by omega⟩
  have hn : n < cs.length := by omega
  refine atI_nat ?_
  rw [List.getElem?_map]
  simp [List.getD_eq_getElem?_getD, hn]
theorem mul_small {i j : Int} (h : -(2 ^ 64) < j ∧ j < 2 ^ 64) : DL.MulOk i j := .inl (.inr h)
theorem mul_smallL {i j : Int} (h : -(2 ^ 64) < i ∧ i < 2 ^ 64) : DL.MulOk i j := .inl (.inl h)
theorem div_ok {i j : Int} (h : 0 < j) (hb : j ≤ 1000000000) : CDivW i j := wide_div h (b := 40) (by omega) (by decide) (by decide)
theorem rng_map (lo : Int) (n : Nat) (f : D → D) : (rngD lo n).map f = (List.range n).map fun (k : Nat) => f (.int (lo + (k : Int))) := by
  unfold rngD
  rw [List.map_map]
  rfl
theorem rng_mem {lo : Int} {n : Nat} {x : D} (h : x ∈ rngD lo n) : ∃ k : Nat, k < n ∧ x = .int (lo + (k : Int)) := by
  unfold rngD at h
  obtain ⟨k, hk, rfl⟩ := List.mem_map.mp h
  exact ⟨k, List.mem_range.mp hk, rfl⟩
theorem lc_rng {i : Nat} {vs : List Nat} {te : DTE} {r : DSt} {m : M} {lo : Int} {n : Nat} {Q : List D → M → Prop} (f : Nat → D) (hz : n ≤ sizeLine) (h : ∀ k : Nat, k < n → ∀ Q' : D → M → Prop, Q' (f k) m → te ((wipeD r vs).set i (some (.int (lo + (k : Int))))) m Q') (q : Q ((List.range n).map f) m) : dLcL (.one i) vs dYes te (rngD lo n) [] r m Q := by
  refine lc_pure (fun x => match x with | .int j => f (j - lo).toNat | _ => .non) (by rw [rngD_len]; simpa using hz) (fun x hx => ?_) ?_
  · obtain ⟨k, hk, rfl⟩ := rng_mem hx
    refine ⟨_, rfl, fun Q' q' => h k hk Q' ?_⟩
    have e : (lo + (k : Int) - lo).toNat = k := by omega
    dsimp only at q'
    rw [e] at q'
    exact q'
  · rw [rng_map, List.nil_append]
    have e : ((List.range n).map fun (k : Nat) => f (lo + (k : Int) - lo).toNat) = (List.range n).map f := by
      congr 1
      funext k
      congr 1
      omega
    dsimp only
    rw [e]
    exact q
section
variable {x y z u : D} {xs : List D}
theorem at0 : atI (x :: xs) 0 = some x := atI_nat (j := 0) rfl
theorem at1 : atI (x :: y :: xs) 1 = some y := atI_nat (j := 1) rfl
theorem at2 : atI (x :: y :: z :: xs) 2 = some z := atI_nat (j := 2) rfl
theorem at3 : atI (x :: y :: z :: u :: xs) 3 = some u := atI_nat (j := 3) rfl
theorem ix30 : ixN 3 0 = some 0 := by decide
theorem ix31 : ixN 3 1 = some 1 := by decide
theorem ix32 : ixN 3 2 = some 2 := by decide
theorem ix20 : ixN 2 0 = some 0 := by decide
theorem ix21 : ixN 2 1 = some 1 := by decide
theorem ix10 : ixN 1 0 = some 0 := by decide
end
section
variable {K : PySem.W.Frag} {m : M} {Q : D → M → Prop} {d : D}
theorem isi_ty {T S : String} {b : Bool} (h1 : tyName m d = some S) (h2 : PySem.W.kitOne K (.type S) (.type T) = some b) : dIsi K [d, .ty T] m Q ↔ Q (.bl b) m := by
  constructor
  · rintro ⟨d', c, b', e, ⟨u, hu, hd⟩, q⟩
    cases e
    rcases hu with ⟨T', e1, rfl⟩ | ⟨C, e1, rfl⟩
    · cases e1
      rcases hd with ⟨S', e2, e3⟩ | ⟨C, fs, e2, _, _⟩
      · rw [h1] at e2
        cases e2
        rw [h2] at e3
        cases e3
        exact q
      · rw [e2] at h1
        cases h1
    · cases e1
  · exact fun q => ⟨d, .ty T, b, rfl, ⟨_, .inl ⟨T, rfl, rfl⟩, .inl ⟨S, h1, h2⟩⟩, q⟩
theorem isi_ii {i : Int} : dIsi K [.int i, .ty "int"] m Q ↔ Q (.bl true) m := isi_ty rfl rfl
theorem isi_ib {i : Int} : dIsi K [.int i, .ty "bool"] m Q ↔ Q (.bl false) m := isi_ty rfl rfl
theorem isi_ll {xs : List D} : dIsi K [.lst xs, .ty "list"] m Q ↔ Q (.bl true) m := isi_ty rfl rfl
theorem isi_bb {b : Bool} : dIsi K [.bl b, .ty "bool"] m Q ↔ Q (.bl true) m := isi_ty rfl rfl
theorem isi_ss {x : Str} : dIsi K [.str x, .ty "str"] m Q ↔ Q (.bl true) m := isi_ty rfl rfl
theorem isi_tt {xs : List D} : dIsi K [.tup xs, .ty "tuple"] m Q ↔ Q (.bl true) m := isi_ty rfl rfl
theorem isi_is {i : Int} : dIsi K [.int i, .ty "str"] m Q ↔ Q (.bl false) m := isi_ty rfl rfl
theorem isi_si {x : Str} : dIsi K [.str x, .ty "int"] m Q ↔ Q (.bl false) m := isi_ty rfl rfl
end
end DL

set_option Elab.async false
set_option linter.all false
set_option maxRecDepth 100000
set_option maxHeartbeats 4000000
namespace DL
open PySem PySem.Spec PyProof.Rows L2
theorem rps_ints {K : PySem.W.Frag} {G : Hp} : ∀ ns : List Int, Rps K G (ns.map D.int) (ns.map V.int)
  | [] => .nil
  | n :: ns => .cons (.int n) (rps_ints ns)
def dSorted (mt : Bool) : DRC := fun ds m Q => ∃ d, ds = [d] ∧ ∃ ns : List Int, lsOf m d = some (ns.map D.int) ∧ ∀ out : List Int, out.Perm ns → out.Pairwise (· ≤ ·) → mkL mt (out.map D.int) m Q
theorem cd_sorted {K : PySem.W.Frag} (mt : Bool) : CallD K (rSortedI K) (dSorted mt) := by
  intro G H F m ds vs QD Q r ps t k
  obtain ⟨d, rfl, ns, e, t⟩ := t
  obtain ⟨v, rfl, p⟩ := rps1 ps
  obtain ⟨a, us, rfl, hs, rs⟩ := ls_ok r p e
  rw [rs.ints] at hs
  exact ⟨a, ns, rfl, hs, fun out l h1 h2 hl => mkL_ok k r (rps_ints out) hl (t out h1 h2)⟩
open He (ga ma eqO eqO_ok ba)
section
variable {X : Cx} {k : Nat} {f C : Addr} {fd : FuncData} {ps : List Str}
variable {sp : DSp}
end
section
variable {m : M} {Q : D → M → Prop} {i : Int}
theorem eq_nn : dEq .non .non m Q ↔ Q (.bl true) m := Iff.rfl
theorem ne_nn : dNe .non .non m Q ↔ Q (.bl false) m := Iff.rfl
end
end DL

set_option Elab.async false
set_option linter.all false
set_option maxRecDepth 100000
set_option maxHeartbeats 4000000
namespace DL
open PySem PySem.Spec PyProof.Rows L2
open He (ga ma eqO eqO_ok ba)
section
variable {X : Cx} {W : WX} {WD : DWX} {x : Str} {p pos pos' : Pos} {C : Addr} {bmB : List Value} {B newId initId : String}
def dRaise0 (C : Addr) (WD : DWX) : DTS := fun _ r m => WD ⟨C, []⟩ r m
structure ExC (K : PySem.W.Frag) (C : Addr) : Prop where
  q : PySem.W.excIn K C [.type "ValueError", .type "Exception", .type "BaseException", .type "object"] "ValueError.__new__" = true
  kC : PySem.W.keepIn K (.ref C) = true
  exC : PySem.W.subIn K (.ref C) (.type "BaseException") = some true
  tyC : PySem.W.typeIn K (.ref C) = some (.type "type")
end
def tSts (K : PySem.W.Frag) : List (Str × Nat) → TS
  | [] => tNext
  | (f, i) :: r => tSeq (tOst K f (tVar 0) (tVar i)) (tSts K r)
theorem sts_more {K : PySem.W.Frag} {C a dx : Addr} (T : OexC K C) : ∀ (l : List (Str × Nat)) (ws : List V) (σ : L2.St) (H : Hp) (fs : List (Str × V)) (E : Ends), (∀ q ∈ l, PySem.W.findIn K (.ref C) q.1 = some none) → l.length = ws.length → (∀ (j : Nat) (i : Nat × V), (l.map (·.2)).zip ws = (l.map (·.2)).zip ws → ((l.map (·.2)).zip ws)[j]? = some i → σ[i.1]? = some (some i.2)) → σ[0]? = some (some (.ref a)) → H a = some (exo a C (some dx)) → dx ≠ a → H dx = some (exd dx fs) → fs.length + l.length ≤ 900 →
    E.nx σ (upd H dx (exd dx (((l.map (·.1)).zip ws).reverse ++ fs))) → tSts K l E σ H
  | [], ws, σ, H, fs, E, _, hl, _, _, ha, _, hd, _, h => by
    have e : upd H dx (exd dx fs) = H := by
      funext b
      unfold upd
      by_cases hb : b = dx
      · rw [if_pos hb, hb, hd]
      · rw [if_neg hb]
    show E.nx σ H
    simpa [e] using h
  | (f, i) :: l, [], σ, H, fs, E, _, hl, _, _, _, _, _, _, _ => by cases hl
  | (f, i) :: l, w :: ws, σ, H, fs, E, hn, hl, hs, h0, ha, hne, hd, hz, h => by
    refine ⟨w, hs 0 (i, w) rfl rfl, .ref a, h0, a, C, rfl, T, hn _ List.mem_cons_self, .inr ⟨dx, fs, ha, hd, by omega, ?_⟩⟩
    refine sts_more T l ws σ _ _ E (fun q hq => hn q (List.mem_cons_of_mem _ hq)) (by simpa using hl) (fun j k _ hk => hs (j + 1) k rfl (by simpa using hk)) h0 (by rw [upd_ne (fun z => hne z.symm)]; exact ha) hne upd_same (by simp at hz ⊢; omega) ?_
    have e : ∀ o o', upd (upd H dx o) dx o' = upd H dx o' := fun o o' => by
      funext b
      unfold upd
      by_cases hb : b = dx
      · rw [if_pos hb, if_pos hb]
      · rw [if_neg hb, if_neg hb, if_neg hb]
    rw [e]
    simpa using h
theorem zipIdx_fst : ∀ (l : List Str) (n : Nat), (l.zipIdx n).map (·.1) = l
  | [], _ => rfl
  | x :: l, n => by simp
theorem zip_slots : ∀ (l : List Str) (n : Nat) (ws : List V), l.length = ws.length → ∀ (j : Nat) (i : Nat × V), (((l.zipIdx n).map (·.2)).zip ws)[j]? = some i → i.1 = n + j ∧ ws[j]? = some i.2
  | [], _, _, _, j, i, h => by simp at h
  | x :: l, n, [], hl, _, _, _ => by cases hl
  | x :: l, n, w :: ws, hl, 0, i, h => by
    simp at h
    subst h
    simp
  | x :: l, n, w :: ws, hl, j + 1, i, h => by
    have := zip_slots l (n + 1) ws (by simpa using hl) j i (by simpa using h)
    refine ⟨by omega, by simpa using this.2⟩
theorem fn_exc {P : Program} {w : World} {K : PySem.W.Frag} {mg : Str → Option Value} {base : Heap} {x qual : Str} {params : Arguments} {body : List Stmt} {scope : Scope} {dvs : List V} {kws : List (Str × V)} {fI C : Addr} {fd : FuncData} {N ps : List Str} {f : Str} {fs : List Str} {k : Nat}
    (F : FunD K x qual params body scope dvs kws fI fd) (S : FnScope N ps scope) (T : OexC K C) (hn : ∀ g ∈ f :: fs, PySem.W.findIn K (.ref C) g = some none) (hps : ps.length = fs.length + 2) (hz : fs.length ≤ 100)
    (hb : ∀ (cdv : Value) (A : Around) (outer : List Env) (s : Shared) (H : Hp) (E : XK), PSs (CXo P w K mg base N qual scope fI cdv A outer s H E) body (tSts K ((f :: fs).zipIdx 1))) : FnOk P w K mg base (L2.CX P w) (k + 1) fI fd ps (spX C (f :: fs)) := by
  refine F.ok S (fun vs H Q E h => ?_) (fun cdv A outer s H vs Q E hr h => ?_)
  · obtain ⟨a, ws, rfl, hl, _⟩ := h
    simp at hl ⊢
    omega
  · obtain ⟨a, ws, rfl, hl, ha, q⟩ := h
    refine ⟨_, hb cdv A outer s H E, ?_⟩
    obtain ⟨w, ws, rfl⟩ : ∃ w r, ws = w :: r := by
      cases ws with
      | nil => cases hl
      | cons w r => exact ⟨w, r, rfl⟩
    have hlen : ws.length = fs.length := by simpa using hl
    have hσ : ∀ (j : Nat) (v : V), (.ref a :: w :: ws)[j]? = some v → (L2.start N (.ref a :: w :: ws))[j]? = some (some v) := fun j v e => by
      unfold L2.start
      have hj : j < (V.ref a :: w :: ws).length := by
        rcases Nat.lt_or_ge j (V.ref a :: w :: ws).length with h | h
        · exact h
        · rw [List.getElem?_eq_none h] at e
          cases e
      rw [List.getElem?_append_left (by rw [List.length_map]; exact hj), List.getElem?_map, e]
      rfl
    refine ⟨w, hσ 1 w rfl, .ref a, hσ 0 _ rfl, a, C, rfl, T, hn f List.mem_cons_self, .inl ⟨ha, fun dx hd hne => ?_⟩⟩
    refine sts_more T (fs.zipIdx 2) ws _ _ [(f, w)] _ (fun g hg => hn _ (List.mem_cons_of_mem _ ?_)) (by simp [hlen]) (fun j i _ e => ?_) (hσ 0 _ rfl) upd_same hne (by rw [upd_ne hne]; exact upd_same) (by simp; omega) ?_
    · have := List.mem_map_of_mem (f := (·.1)) hg
      rw [zipIdx_fst] at this
      exact this
    · obtain ⟨e1, e2⟩ := zip_slots fs 2 ws hlen.symm j i e
      rw [e1]
      refine hσ _ _ ?_
      rw [show 2 + j = j + 2 by omega]
      simpa using e2
    · have e := q dx hd hne
      rw [zipIdx_fst]
      have e2 : upd (upd (upd H dx (exd dx [(f, w)])) a (exo a C (some dx))) dx (exd dx ((fs.zip ws).reverse ++ [(f, w)])) = upd (upd H dx (exd dx ((f :: fs).zip (w :: ws)).reverse)) a (exo a C (some dx)) := by
        funext b
        unfold upd
        by_cases h1 : b = dx
        · subst h1
          rw [if_pos rfl, if_neg hne, if_pos rfl]
          simp
        · rw [if_neg h1]
          by_cases h2 : b = a
          · rw [if_pos h2, if_pos h2]
          · rw [if_neg h2, if_neg h2, if_neg h1, if_neg h1]
      rw [e2]
      exact e
section
variable {X : Cx} {W : WX} {WD : DWX} {x : Str} {p pos pos' : Pos} {C fI : Addr} {fs ps : List Str} {k : Nat} {fd : FuncData} {e : Expr} {es : List Expr} {ta : DTA}
def dRaise (C : Addr) (fs : List Str) (WD : DWX) (ta : DTA) : DTS := fun _ r m => ta r m fun ds m1 => ds.length = fs.length ∧ WD ⟨C, (fs.zip ds).reverse⟩ r m1
theorem rpf_zip {K : PySem.W.Frag} {G : Hp} : ∀ {fs : List Str} {ds : List D} {vs : List V}, Rps K G ds vs → Rpf K G (fs.zip ds) (fs.zip vs)
  | [], _, _, _ => .nil
  | _ :: _, _, _, .nil => .nil
  | _ :: _, _, _, .cons r rs => .cons r (rpf_zip rs)
theorem rpf_app {K : PySem.W.Frag} {G : Hp} : ∀ {a b : List (Str × D)} {u v : List (Str × V)}, Rpf K G a u → Rpf K G b v → Rpf K G (a ++ b) (u ++ v)
  | _, _, _, _, .nil, h => h
  | _, _, _, _, .cons r t, h => .cons r (rpf_app t h)
theorem rpf_rev {K : PySem.W.Frag} {G : Hp} : ∀ {a : List (Str × D)} {u : List (Str × V)}, Rpf K G a u → Rpf K G a.reverse u.reverse
  | _, _, .nil => .nil
  | _, _, .cons r t => by
    rw [List.reverse_cons, List.reverse_cons]
    exact rpf_app (rpf_rev t) (.cons r .nil)
theorem ds_raise (T : OexC X.K C) (iC : PySem.W.findIn X.K (.ref C) "__init__" = some (some (.ref fI))) (tI : PySem.W.typeIn X.K (.ref fI) = some (.type "function")) (F1 : FnOk X.prog X.w X.K X.mg X.base (L2.CX X.prog X.w) k fI fd ps (spX C fs)) (hr : Room (k + 1) X.A) (hb : Binds X.K fd ps []) (hg : Gl X x) (hm : X.mg x = some (.ref C)) (hz : fs.length ≤ 100) (hc : X.calm = true) (tk : Takes X W) (ha : DA X W WD (e :: es) ta)
    (hdb : (x == ("__debug__" : Str)) = false := by decide) (he : starEach (e :: es) X.env = (false, eval e X.env) :: starEach es X.env := by rfl) (hpl : (backTo pos (starEach es X.env)).any (·.1) = false := by rfl) :
    DS X W WD (.Raise (some (.Call (.Name x p) (e :: es) [] pos)) none pos') (dRaise C fs WD ta) := by
  refine PS.imp (ps_raise hc tk (pmk_oex T iC tI F1 hr hb .nil passL hg hm ha hdb he hpl)) fun E σ H h => ?_
  obtain ⟨G, F, r, m, DD, x, t, k⟩ := h
  refine ⟨G, F, r, m, _, x, t, fun G1 H1 m1 ds vs e1 r1 p1 t1 => ?_⟩
  obtain ⟨hl, t1⟩ := t1
  have hlv : vs.length = fs.length := by rw [← p1.length]; exact hl
  refine ⟨by omega, fun a ha => ⟨a, vs, by simp, hlv, upd_same, fun dx hd hne => ⟨rfl, dx, _, upd_same, by rw [upd_ne hne]; exact upd_same, by rw [upd_ne hne] at hd; exact hd, ?_⟩⟩⟩
  have hd1 : H1 dx = none := by rw [upd_ne hne] at hd; exact hd
  have eH : upd (del (upd (upd (upd H1 a (exo a C none)) dx (exd dx (fs.zip vs).reverse)) a (exo a C (some dx))) a) dx (.xd (fs.zip vs).reverse) = upd H1 dx (.xd (fs.zip vs).reverse) := by
    funext b
    unfold upd del
    by_cases h1 : b = dx
    · rw [if_pos h1, if_pos h1]
    · rw [if_neg h1, if_neg h1]
      by_cases h2 : b = a
      · rw [if_pos h2, h2, ha]
      · rw [if_neg h2]
        dsimp only
        rw [if_neg h2, if_neg h1, if_neg h2]
  rw [eH]
  obtain ⟨s2, r2⟩ := r1.froz (o := .xd (fs.zip vs).reverse) hd1
  exact x.lx _ _ m1 r σ C _ (some dx) (e1.trans s2) r2 ((x.rs.mono e1).mono s2) (.inr ⟨dx, _, rfl, upd_same, rpf_rev (rpf_zip (p1.mono s2))⟩) t1
end
section
variable {X : Cx} {W : WX} {WD : DWX} {x n : Str} {c : Addr} {i : Nat} {body suite : List Stmt} {b₀ : Stmt} {np pos pos' : Pos} {tb : DWX → DTS}
def dCatch (K : PySem.W.Frag) (c : Addr) (ts : DTS) (WD : DWX) (DD : DEnds) : DWX := fun x r m => ∃ b, PySem.W.exmOne K (.ref x.C) (.ref c) = some b ∧ (b = true → ts DD r m) ∧ (b = false → WD x r m)
def dTry (K : PySem.W.Frag) (c : Addr) (tb : DWX → DTS) (ts : DTS) (WD : DWX) : DTS := fun DD r m => tb (dCatch K c ts WD DD) DD r m
def dCatchAs (K : PySem.W.Frag) (c : Addr) (i : Nat) (ts : DTX) (WD : DWX) (DD : DEnds) : DWX := fun x r m => ∃ b, PySem.W.exmOne K (.ref x.C) (.ref c) = some b ∧
  (b = true → ∀ a d, m a = none → ts a x.C d { nx := fun r' m' => DD.nx (r'.set i none) m', rt := DD.rt, bk := fun r' m' => DD.bk (r'.set i none) m', ct := fun r' m' => DD.ct (r'.set i none) m' } (r.set i (some (.exn a d x.fs))) m) ∧ (b = false → WD x r m)
def dTryAs (K : PySem.W.Frag) (c : Addr) (i : Nat) (tb : DWX → DTS) (ts : DTX) (WD : DWX) : DTS := fun DD r m => tb (dCatchAs K c i ts WD DD) DD r m
theorem rp_exn {K : PySem.W.Frag} {G : Hp} {a : Addr} {d : Option Addr} {fs : List (Str × D)} (h : RpX K G d fs) : Rp K G (.exn a d fs) (.ref a) := by
  rcases h with ⟨rfl, rfl⟩ | ⟨dd, fv, rfl, h1, h2⟩
  · exact .exn0 a
  · exact .exnS h1 h2
theorem ds_try_as {ts : DTX} (hs : X.stack = X.env :: X.outer) (hf : X.env.frame = some X.env.locals) (hN : X.N.Nodup) (hi : X.N[i]? = some n) (hln : X.env.kindOf n = some .local) (hc : X.mg x = some (.ref c)) (hg : Gl X x) (tk : Takes X W)
    (hb : ∀ (W : WX) (WD : DWX) (pn : List (Addr × Obj)) (xe : Value → Shared → Prop), Takes (X.tr pn xe) W → PassesOwn (model X.prog X.w) X.A X.env xe → DSs (X.tr pn xe) W WD body (tb WD))
    (hsu : ∀ (a : Addr) (oe : Obj) (C : Addr) (d : Option Addr) (pn : List (Addr × Obj)), Zc (.ref C) d oe → (∃ vs, oe.data = .fields vs) → DSs (X.suite a ((a, oe) :: pn)) W0 WD0 (b₀ :: suite) (ts a C d)) (hdb : (x == ("__debug__" : Str)) = false := by decide) :
    DS X W WD (.Try body [.ExceptHandler (some (.Name x np)) (some n) (b₀ :: suite) pos'] [] [] pos) (dTryAs X.K c i tb ts WD) := by
  refine PS.imp (ps_try_as (i := i) (tb := fun W E σ H => ∃ WD', upS X.K W WD' (tb WD') E σ H) (ts := fun a cls d E σ H => ∃ C, cls = .ref C ∧ upS X.K W0 WD0 (ts a C d) E σ H) hs hf hN hi hln ⟨hg, hdb, .inl hc⟩ tk (fun W pn xe tk' hp' => ⟨fun pins s σ H E I h => ?_⟩) (fun a oe cls d pn hz hv => ⟨fun pins s σ H E I h => ?_⟩)) fun E σ H h => ?_
  · obtain ⟨WD', h⟩ := h
    exact (hb W WD' pn xe tk' hp').run pins s σ H E I h
  · obtain ⟨C, rfl, h⟩ := h
    exact (hsu a oe C d pn hz hv).run pins s σ H E I h
  · obtain ⟨G, F, r, m, DD, x, t, k⟩ := h
    refine ⟨dCatchAs X.K c i ts WD DD, G, F, r, m, DD, ⟨x.rep, x.rs, fun G' H' m' r' s' C fs d e r1 rs1 rx wd => ?_⟩, t, k⟩
    obtain ⟨b, eb, h1, h2⟩ := wd
    refine ⟨b, eb, fun hb a ha => ⟨C, rfl, G', F, _, m', _, ⟨r1, rs1.set (rp_exn rx), Lx.no⟩, h1 hb a d (r1.mfree ha), ?_⟩, fun hb => x.lx G' H' m' r' s' C fs d e r1 rs1 rx (h2 hb)⟩
    have k' := k.mono e
    exact ⟨fun G2 H2 m2 r2 s2 e2 rep2 rs2 t2 => k'.nx G2 H2 m2 _ _ e2 rep2 (rs_none rs2 i none) t2, k'.rt, fun G2 H2 m2 r2 s2 e2 rep2 rs2 t2 => k'.bk G2 H2 m2 _ _ e2 rep2 (rs_none rs2 i none) t2, fun G2 H2 m2 r2 s2 e2 rep2 rs2 t2 => k'.ct G2 H2 m2 _ _ e2 rep2 (rs_none rs2 i none) t2⟩
def dXf (a cls : Addr) (d : Option Addr) (C : Addr) (f : Str) (te : DTE) : DTE := fun r m Q => te r m fun v m1 => ∃ fs y, v = .exn a d fs ∧ cls = C ∧ fs.lookup f = some y ∧ Q y m1
theorem rpf_look {K : PySem.W.Frag} {G : Hp} {f : Str} : ∀ {a : List (Str × D)} {u : List (Str × V)} {y : D}, Rpf K G a u → a.lookup f = some y → ∃ v, u.lookup f = some v ∧ Rp K G y v
  | _, _, _, .nil, h => by cases h
  | _, _, y, .cons (n := n) (d := d) (v := v) r t, h => by
    rw [List.lookup_cons] at h ⊢
    cases e : f == n with
    | true =>
      rw [e] at h
      cases h
      exact ⟨v, rfl, r⟩
    | false =>
      rw [e] at h
      exact rpf_look t h
theorem de_xf {a cls C : Addr} {oe : Obj} {d : Option Addr} {pn : List (Addr × Obj)} {e : Expr} {te : DTE} {f : Str} {W : WX} {WD : DWX} (T : XfC X.K C) (hno : PySem.W.findIn X.K (.ref C) f = some none) (hz : Zc (.ref cls) d oe) (hf : ∃ vs, oe.data = .fields vs)
    (he : DE (X.suite a ((a, oe) :: pn)) W WD e te) (hb : attributeBase e f X.env (eval e X.env) = eval e X.env := by rfl) : DE (X.suite a ((a, oe) :: pn)) W WD (.Attribute e f pos) (dXf a cls d C f te) := by
  refine PE.imp (pe_xf T hno hz hf he hb) fun σ H Q h => ?_
  obtain ⟨G, F, r, m, QD, x, t, k⟩ := h
  refine ⟨G, F, r, m, _, x, t, fun G1 H1 m1 d1 v1 e1 r1 p1 t1 => ?_⟩
  obtain ⟨fs, y, rfl, rfl, hl, q⟩ := t1
  cases p1 with
  | exn0 a => cases hl
  | exnS h1 h2 =>
    obtain ⟨v, hv, rv⟩ := rpf_look h2 hl
    exact ⟨rfl, rfl, _, _, v, rfl, r1.ext _ _ h1, hv, k G1 H1 m1 y v e1 r1 rv q⟩
end
theorem oex_in {K : PySem.W.Frag} {C : Addr} (q : oexIn K C = true) : ∃ nm q N bs bm sn sub ab col dd k0 k1 k2 k3 k5, K.lookup C = some (excClassObj nm q C N bs bm true sn sub ab col dd k0 k1 k2 k3 k5 "ValueError.__new__") ∧ PySem.HandSPX.refsVE bm = true := by
  unfold oexIn at q
  split at q
  · rename_i dd cd sl ho
    split at q
    · rename_i C' bm k0 k1 k2 k3 n k5 hm hs
      simp only [Bool.and_eq_true, beq_iff_eq, Bool.not_eq_true'] at q
      obtain ⟨rfl, rfl, hdel, hd, hr⟩ := q
      obtain ⟨nm, bs, mro, ns, qn, hd', sn, sub, ab, col, del⟩ := cd
      dsimp only at hm hdel hd
      subst hm hdel hd
      have hsl : sl = #[k0, k1, k2, k3, some (.builtin "ValueError.__new__"), k5] := by
        obtain ⟨l⟩ := sl
        simp only at hs
        rw [hs]
      subst hsl
      exact ⟨nm, qn, ns, bs, bm, sn, sub, ab, col, dd, k0, k1, k2, k3, k5, ho, hr⟩
    · cases q
  · cases q
theorem oex_of {K : Fr0} {C : Str} (h : oexB C K = true) : OexC K (ga K C) ∧ PySem.W.findIn K (.ref (ga K C)) "__init__" = some (some (.ref (ma K (ga K C) "__init__"))) ∧ PySem.W.typeIn K (.ref (ma K (ga K C) "__init__")) = some (.type "function") := by
  obtain ⟨h1, h⟩ := ba h
  obtain ⟨h2, h⟩ := ba h
  obtain ⟨h3, h⟩ := ba h
  obtain ⟨h4, h⟩ := ba h
  obtain ⟨h5, h⟩ := ba h
  obtain ⟨h6, h7⟩ := ba h
  exact ⟨⟨oex_in h1, eqO_ok h2, of_decide_eq_true h4, of_decide_eq_true h5, h3⟩, eqO_ok h6, of_decide_eq_true h7⟩
end DL

set_option Elab.async false
set_option linter.all false
set_option maxRecDepth 100000
set_option maxHeartbeats 4000000
namespace DL
open PySem PySem.Spec PyProof.Rows L2
open He (ga ma eqO eqO_ok ba)
section
variable {X : Cx} {W : WX} {WD : DWX} {a b e tg : Expr} {ta tb : DTE} {tr : DTR} {p pos : Pos}
def drR1 (ta : DTE) : DTR := fun r m Q => ta r m fun d m1 => ∃ n, d = .int n ∧ Q 0 n m1
def drR2 (ta tb : DTE) : DTR := fun r m Q => ta r m fun d m1 => tb r m1 fun d2 m2 => ∃ i j, d = .int i ∧ d2 = .int j ∧ Q i j m2
def revD (lo : Int) (n : Nat) : List D := (List.range n).map fun (k : Nat) => D.int (lo + (n : Int) - 1 - (k : Int))
def diRv (tr : DTR) : DTI := fun r m Q => tr r m fun a b m1 => (-(2 ^ 62) ≤ a ∧ a < 2 ^ 62 ∧ -(2 ^ 62) ≤ b ∧ b < 2 ^ 62) ∧ Q (revD a (b - a).toNat) m1
def dListR (mt : Bool) (tr : DTR) : DTE := fun r m Q => tr r m fun a b m1 => RgOk a b ∧ mkL mt (rngD a (b - a).toNat) m1 Q
end
structure SMet (K : PySem.W.Frag) (C : Addr) (m : Str) (p g : Addr) : Prop where
  rd : ClX.CRead K C (.type "type")
  at_ : PySem.W.findCls K (.ref C) (.type "type") m = some (.get (.builtin "staticmethod.__get__") (.ref p) .none (.ref C))
  rc : ∃ rest, PySem.W.recIn K p "staticmethod" = some (.ref g :: rest)
section
variable {X : Cx} {W : WX} {WD : DWX} {k : Nat} {C p g : Addr} {fd : FuncData} {ps : List Str} {sp : DSp} {x mn : Str} {np pos apos : Pos} {e : Expr} {es : List Expr} {t : DTA} {pl : Sem Bool}
end
section
variable {X : Cx} {W : WX} {WD : DWX} {k : Nat} {f C : Addr} {fd : FuncData} {ps : List Str} {sp : DSp} {a b : Expr} {ta tb : DTE} {pos : Pos}
def dAddO (C : Addr) (sp : DSp) (WD : DWX) (ta tb : DTE) : DTE := fun r m Q => ta r m fun x m1 => tb r m1 fun y m2 => ∃ fs gs, insOf m2 x = some (C, fs) ∧ insOf m2 y = some (C, gs) ∧ sp [x, y] m2 (fun d m' => (∃ C fs, d = .ins C fs) ∧ Q d m') fun x m2 => WD x r m2
def dInO (C : Addr) (sp : DSp) (b : Bool) : DR2 := fun x y m Q => ∃ fs, insOf m y = some (C, fs) ∧ sp [y, x] m (fun d m' => ∃ c : Bool, d = .bl c ∧ Q (.bl (c != b)) m') fun _ _ => False
end
end DL

set_option Elab.async false
set_option linter.all false
set_option maxRecDepth 100000
set_option maxHeartbeats 4000000
namespace DL
open PySem PySem.Spec PyProof.Rows L2
def clB : Nat → D → Bool
  | _, .non => true
  | _, .int _ => true
  | _, .str x => PyData.strOk x
  | n + 1, .lst xs => xs.all (clB n)
  | n + 1, .tup xs => xs.all (clB n)
  | _, _ => false
theorem cl_all {n : Nat} : ∀ {xs : List D}, (∀ x ∈ xs, ∃ p, toP x = some p ∧ p.canLay0 = true ∧ p.depth ≤ n) → ∃ ps, toPs xs = some ps ∧ PyData.canLayAll0 ps = true ∧ PyData.depthAll ps ≤ n
  | [], _ => ⟨[], by simp [toPs], rfl, by simp [PyData.depthAll]⟩
  | x :: xs, h => by
    obtain ⟨p, e, c, d⟩ := h x List.mem_cons_self
    obtain ⟨ps, e2, c2, d2⟩ := cl_all (xs := xs) fun y hy => h y (List.mem_cons_of_mem _ hy)
    refine ⟨p :: ps, by rw [toPs, e, e2]; rfl, ?_, ?_⟩
    · show (PyData.canLay0 p && PyData.canLayAll0 ps) = true
      rw [c, c2]; rfl
    · show max (PyData.depth p) (PyData.depthAll ps) ≤ n
      omega
theorem cl_toP : ∀ (n : Nat) (x : D), clB n x = true → ∃ p, toP x = some p ∧ p.canLay0 = true ∧ p.depth ≤ n
  | n, .non, _ => ⟨.none, by rw [toP], rfl, by simp [PyData.depth]⟩
  | n, .int i, _ => ⟨.int i, by rw [toP], rfl, by simp [PyData.depth]⟩
  | n, .str x, h => by
    refine ⟨.str x, by rw [toP], ?_, by simp [PyData.depth]⟩
    cases n <;> exact h
  | n + 1, .lst xs, h => by
    obtain ⟨ps, e, c, d⟩ := cl_all (n := n) fun x hx => cl_toP n x (List.all_eq_true.mp h x hx)
    exact ⟨.list ps, by rw [toP, e]; rfl, c, by show PyData.depthAll ps + 1 ≤ n + 1; omega⟩
  | n + 1, .tup xs, h => by
    obtain ⟨ps, e, c, d⟩ := cl_all (n := n) fun x hx => cl_toP n x (List.all_eq_true.mp h x hx)
    exact ⟨.tuple ps, by rw [toP, e]; rfl, c, by show PyData.depthAll ps + 1 ≤ n + 1; omega⟩
  | 0, .lst _, h => by cases h
  | 0, .tup _, h => by cases h
  | 0, .bl _, h => by cases h
  | 0, .ty _, h => by cases h
  | 0, .ref _, h => by cases h
  | 0, .rdl _, h => by cases h
  | 0, .ins _ _, h => by cases h
  | 0, .exn _ _ _, h => by cases h
  | 0, .dki _, h => by cases h
  | 0, .dti _, h => by cases h
  | 0, .clo _ _ _ _ _, h => by cases h
  | 0, .obj _ _, h => by cases h
  | n + 1, .bl _, h => by cases h
  | n + 1, .ty _, h => by cases h
  | n + 1, .ref _, h => by cases h
  | n + 1, .rdl _, h => by cases h
  | n + 1, .ins _ _, h => by cases h
  | n + 1, .exn _ _ _, h => by cases h
  | n + 1, .dki _, h => by cases h
  | n + 1, .dti _, h => by cases h
  | n + 1, .clo _ _ _ _ _, h => by cases h
  | n + 1, .obj _ _, h => by cases h
theorem toPs_cons {x : D} {xs : List D} {p : List PyData} (e : toPs (x :: xs) = some p) : ∃ a as, p = a :: as ∧ toP x = some a ∧ toPs xs = some as := by
  rw [toPs] at e
  cases e1 : toP x with
  | none => rw [e1] at e; cases e
  | some a =>
    rw [e1] at e
    cases e2 : toPs xs with
    | none => rw [e2] at e; cases e
    | some as => rw [e2] at e; cases e; exact ⟨a, as, rfl, rfl, rfl⟩
theorem cl_eqAll {n : Nat} (ih : ∀ (x y : D) (p q : PyData), clB n x = true → clB n y = true → toP x = some p → toP y = some q → (PyData.eqv p q = true ↔ x = y)) : ∀ (xs ys : List D) (ps qs : List PyData), xs.all (clB n) = true → ys.all (clB n) = true → toPs xs = some ps → toPs ys = some qs → (PyData.eqvAll ps qs = true ↔ xs = ys)
  | [], [], ps, qs, _, _, e1, e2 => by
    rw [toPs] at e1 e2; cases e1; cases e2
    exact ⟨fun _ => rfl, fun _ => by simp [PyData.eqvAll]⟩
  | [], y :: ys, ps, qs, _, _, e1, e2 => by
    rw [toPs] at e1; cases e1
    obtain ⟨a, as, rfl, _, _⟩ := toPs_cons e2
    simp [PyData.eqvAll]
  | x :: xs, [], ps, qs, _, _, e1, e2 => by
    rw [toPs] at e2; cases e2
    obtain ⟨a, as, rfl, _, _⟩ := toPs_cons e1
    simp [PyData.eqvAll]
  | x :: xs, y :: ys, ps, qs, c1, c2, e1, e2 => by
    obtain ⟨a, as, rfl, f1, f2⟩ := toPs_cons e1
    obtain ⟨b, bs, rfl, g1, g2⟩ := toPs_cons e2
    rw [List.all_cons, Bool.and_eq_true] at c1 c2
    have h1 := ih x y a b c1.1 c2.1 f1 g1
    have h2 := cl_eqAll ih xs ys as bs c1.2 c2.2 f2 g2
    rw [PyData.eqvAll, Bool.and_eq_true, h1, h2, List.cons.injEq]
theorem toP_lst {xs : List D} {p : PyData} (e : toP (.lst xs) = some p) : ∃ ps, p = .list ps ∧ toPs xs = some ps := by
  rw [toP] at e
  cases q : toPs xs with
  | none => rw [q] at e; cases e
  | some ps => rw [q] at e; cases e; exact ⟨ps, rfl, rfl⟩
theorem toP_tup {xs : List D} {p : PyData} (e : toP (.tup xs) = some p) : ∃ ps, p = .tuple ps ∧ toPs xs = some ps := by
  rw [toP] at e
  cases q : toPs xs with
  | none => rw [q] at e; cases e
  | some ps => rw [q] at e; cases e; exact ⟨ps, rfl, rfl⟩
theorem cl0 {x : D} (h : clB 0 x = true) : x = .non ∨ (∃ i, x = .int i) ∨ ∃ i, x = .str i := by
  cases x with
  | non => exact .inl rfl
  | int i => exact .inr (.inl ⟨i, rfl⟩)
  | str i => exact .inr (.inr ⟨i, rfl⟩)
  | _ => cases h
theorem cl_eqv : ∀ (n : Nat) (x y : D) (p q : PyData), clB n x = true → clB n y = true → toP x = some p → toP y = some q → (PyData.eqv p q = true ↔ x = y) := by
  intro n
  induction n with
  | zero =>
    intro x y p q c1 c2 e1 e2
    rcases cl0 c1 with rfl | ⟨i, rfl⟩ | ⟨i, rfl⟩ <;> rcases cl0 c2 with rfl | ⟨j, rfl⟩ | ⟨j, rfl⟩ <;> (rw [toP] at e1; rw [toP] at e2; cases e1; cases e2; simp [PyData.eqv])
  | succ n ih =>
    intro x y p q c1 c2 e1 e2
    cases x with
    | lst xs =>
      obtain ⟨ps, rfl, f1⟩ := toP_lst e1
      cases y with
      | lst ys =>
        obtain ⟨qs, rfl, f2⟩ := toP_lst e2
        have := cl_eqAll ih xs ys ps qs c1 c2 f1 f2
        rw [PyData.eqv, this, D.lst.injEq]
      | tup ys => obtain ⟨qs, rfl, f2⟩ := toP_tup e2; simp [PyData.eqv]
      | non => rw [toP] at e2; cases e2; simp [PyData.eqv]
      | int _ => rw [toP] at e2; cases e2; simp [PyData.eqv]
      | str _ => rw [toP] at e2; cases e2; simp [PyData.eqv]
      | _ => cases c2
    | tup xs =>
      obtain ⟨ps, rfl, f1⟩ := toP_tup e1
      cases y with
      | lst ys => obtain ⟨qs, rfl, f2⟩ := toP_lst e2; simp [PyData.eqv]
      | tup ys =>
        obtain ⟨qs, rfl, f2⟩ := toP_tup e2
        have := cl_eqAll ih xs ys ps qs c1 c2 f1 f2
        rw [PyData.eqv, this, D.tup.injEq]
      | non => rw [toP] at e2; cases e2; simp [PyData.eqv]
      | int _ => rw [toP] at e2; cases e2; simp [PyData.eqv]
      | str _ => rw [toP] at e2; cases e2; simp [PyData.eqv]
      | _ => cases c2
    | non =>
      rw [toP] at e1; cases e1
      cases y with
      | lst ys => obtain ⟨qs, rfl, f2⟩ := toP_lst e2; simp [PyData.eqv]
      | tup ys => obtain ⟨qs, rfl, f2⟩ := toP_tup e2; simp [PyData.eqv]
      | non => rw [toP] at e2; cases e2; simp [PyData.eqv]
      | int _ => rw [toP] at e2; cases e2; simp [PyData.eqv]
      | str _ => rw [toP] at e2; cases e2; simp [PyData.eqv]
      | _ => cases c2
    | int i =>
      rw [toP] at e1; cases e1
      cases y with
      | lst ys => obtain ⟨qs, rfl, f2⟩ := toP_lst e2; simp [PyData.eqv]
      | tup ys => obtain ⟨qs, rfl, f2⟩ := toP_tup e2; simp [PyData.eqv]
      | non => rw [toP] at e2; cases e2; simp [PyData.eqv]
      | int _ => rw [toP] at e2; cases e2; simp [PyData.eqv]
      | str _ => rw [toP] at e2; cases e2; simp [PyData.eqv]
      | _ => cases c2
    | str i =>
      rw [toP] at e1; cases e1
      cases y with
      | lst ys => obtain ⟨qs, rfl, f2⟩ := toP_lst e2; simp [PyData.eqv]
      | tup ys => obtain ⟨qs, rfl, f2⟩ := toP_tup e2; simp [PyData.eqv]
      | non => rw [toP] at e2; cases e2; simp [PyData.eqv]
      | int _ => rw [toP] at e2; cases e2; simp [PyData.eqv]
      | str _ => rw [toP] at e2; cases e2; simp [PyData.eqv]
      | _ => cases c2
    | _ => cases c1
def vD (m : M) : D → D
  | .ref a => match m a with
    | some (.lst xs) => .lst xs
    | _ => .ref a
  | d => d
theorem vD_ref {m : M} {a : Addr} {xs : List D} (h : m a = some (.lst xs)) : vD m (.ref a) = .lst xs := by
  show (match m a with | some (.lst xs) => D.lst xs | _ => D.ref a) = _
  rw [h]
theorem dat_vD {m : M} {n : Nat} {x : D} (c : clB n (vD m x) = true) : ∃ p, datOf m x = some p ∧ toP (vD m x) = some p ∧ p.canLay0 = true ∧ p.depth ≤ n := by
  obtain ⟨p, e, c1, d1⟩ := cl_toP n _ c
  refine ⟨p, ?_, e, c1, d1⟩
  cases x with
  | ref a =>
    cases q : m a with
    | none =>
      have : vD m (.ref a) = .ref a := by show (match m a with | some (.lst xs) => D.lst xs | _ => D.ref a) = _; rw [q]
      rw [this] at c
      cases n <;> cases c
    | some o =>
      cases o with
      | lst xs =>
        rw [vD_ref q, toP] at e
        dsimp only [datOf]
        rw [q]
        exact e
      | _ =>
        have : vD m (.ref a) = .ref a := by show (match m a with | some (.lst xs) => D.lst xs | _ => D.ref a) = _; rw [q]
        rw [this] at c
        cases n <;> cases c
  | _ => exact e
theorem eqB_data {x y : D} {b : Bool} (h : dEqB x y = some b) : b = true ↔ x = y := by
  cases x <;> cases y <;> first
    | (cases h; done)
    | (cases h; simp)
theorem eqB_vD {m : M} {x y : D} {b : Bool} (h : dEqB x y = some b) : vD m x = x ∧ vD m y = y := by
  cases x <;> cases y <;> first
    | (cases h; done)
    | exact ⟨rfl, rfl⟩
section
variable {m : M} {n : Nat} {x y : D} {Q : D → M → Prop}
theorem dEq_data (hn : n ≤ 64) (c1 : clB n (vD m x) = true) (c2 : clB n (vD m y) = true) (h : ∀ b : Bool, (b = true ↔ vD m x = vD m y) → Q (.bl b) m) : dEq x y m Q := by
  unfold dEq
  cases e : dEqB x y with
  | some b =>
    obtain ⟨h1, h2⟩ := eqB_vD (m := m) e
    exact h b (by rw [h1, h2]; exact eqB_data e)
  | none =>
    obtain ⟨p, e1, f1, l1, d1⟩ := dat_vD c1
    obtain ⟨q, e2, f2, l2, d2⟩ := dat_vD c2
    refine ⟨p, q, e1, e2, ?_, ?_, h _ (cl_eqv n _ _ p q c1 c2 f1 f2)⟩
    · unfold SeqAt.shaped; rw [l1, decide_eq_true (by omega)]; rfl
    · unfold SeqAt.shaped; rw [l2, decide_eq_true (by omega)]; rfl
end
end DL

set_option Elab.async false
set_option linter.all false
set_option maxRecDepth 100000
set_option maxHeartbeats 4000000
namespace DL
open PySem PySem.Spec PyProof.Rows L2
open He (ga ma eqO eqO_ok ba)
def chars (z : Str) : List D := z.cps.toList.map fun c => D.str ⟨#[c]⟩
theorem chars_len (z : Str) : (chars z).length = z.cps.size := by simp [chars]
theorem it_str {K : PySem.W.Frag} {G : Hp} (z : Str) : ItD K (Its z) G (chars z) where
  stop := fun H e => by rw [chars_len]; exact Nat.le_refl _
  go := fun i H hi e => by rw [chars_len] at hi; exact hi
  yld := fun i G1 H F m x H' d e rep hd y => by
    obtain ⟨rfl, c, hc, rfl⟩ := y
    unfold chars at hd
    rw [List.getElem?_map] at hd
    have : z.cps.toList[i]? = some c := by simpa using hc
    rw [this] at hd
    cases hd
    exact ⟨G1, Same.refl G1, rep, .str _⟩
def enumD (ds : List D) : List D := ds.zipIdx.map fun p => .tup [.int (p.2 : Nat), p.1]
theorem enumD_len (ds : List D) : (enumD ds).length = ds.length := by simp [enumD]
theorem enumD_at {ds : List D} {i : Nat} {d : D} (h : (enumD ds)[i]? = some d) : ∃ x, ds[i]? = some x ∧ d = .tup [.int (i : Nat), x] := by
  unfold enumD at h
  rw [List.getElem?_map] at h
  cases q : ds.zipIdx[i]? with
  | none => rw [q] at h; cases h
  | some p =>
    rw [q] at h
    cases h
    rw [List.getElem?_zipIdx] at q
    cases q2 : ds[i]? with
    | none => rw [q2] at q; cases q
    | some x =>
      rw [q2] at q
      cases q
      exact ⟨x, rfl, by simp⟩
theorem it_enum {K : PySem.W.Frag} {G : Hp} {a : Addr} {vs : List V} {ds : List D} (h : SqL K G a vs) (r : Rps K G ds vs) : ItD K (Ite K a) G (enumD ds) where
  stop := fun H e => ⟨vs, e.seq h, by rw [enumD_len, r.length]; exact Nat.le_refl _⟩
  go := fun i H hi e => by
    rw [enumD_len] at hi
    have hv : i < vs.length := by rw [← r.length]; exact hi
    exact ⟨vs, vs[i], e.seq h, by simp [hv]⟩
  yld := fun i G1 H F m x H' d e rep hd y => by
    obtain ⟨T, v, rfl, hT, rfl, hy⟩ := y
    obtain ⟨u, hu, rfl⟩ := enumD_at hd
    obtain ⟨w, h1, h2⟩ := r.get hu
    have q := hy vs ((e.trans rep.ext).seq h)
    rw [h1] at q
    cases q
    obtain ⟨e2, r2⟩ := rep.froz (o := .tup [.int (i : Nat), v]) hT
    exact ⟨_, e2, r2, .tup (TpK.of upd_same) (.cons (.int _) (.cons (h2.mono (e.trans e2)) .nil))⟩
section
variable {X : Cx} {W : WX} {WD : DWX} {tg : Expr}
def diS (te : DTE) : DTI := fun r m Q => te r m fun d m1 => match d with
  | .str z => Q (chars z) m1
  | _ => False
theorem di_str {l : Expr} {te : DTE} (hl : DE X W WD l te) : DI X W WD tg l (diS te) := by
  refine PI.imp (pi_str hl) fun σ H R h => ?_
  obtain ⟨G, F, r, m, QD, x, t, k⟩ := h
  refine ⟨G, F, r, m, _, x, t, fun G1 H1 m1 d1 v1 e1 r1 p1 t1 => ?_⟩
  cases d1 with
  | str z => cases p1; exact ⟨_, rfl, k G1 H1 m1 _ _ e1 r1 (it_str z) t1⟩
  | _ => exact t1.elim
def diE (ta : DTA) : DTI := fun r m Q => ta r m fun ds m1 => match ds with
  | [.lst xs] => Q (enumD xs) m1
  | [.rdl xs] => Q (enumD xs) m1
  | _ => False
theorem di_enum {e : Expr} {ta : DTA} {p pos tpos : Pos} {elts : List Expr} {kk : Nat} (hg : Gl X "enumerate") (hm : X.mg "enumerate" = none) (ha : DA X W WD [e] ta) (hs : starEach [e] X.env = [(false, eval e X.env)] := by rfl) : DI X W WD (.Tuple elts kk tpos) (.Call (.Name "enumerate" p) [e] [] pos) (diE ta) := by
  refine PI.imp (pi_enum hg hm ha hs) fun σ H R h => ?_
  obtain ⟨G, F, r, m, QD, x, t, k⟩ := h
  refine ⟨G, F, r, m, _, x, t, fun G1 H1 m1 ds vs e1 r1 p1 t1 => ?_⟩
  match ds, t1 with
  | [.lst xs], t1 =>
    obtain ⟨v, rfl, q⟩ := rps1 p1
    cases q with | lst h1 q1 => exact ⟨_, _, rfl, SqL.of (r1.ext _ _ h1), k G1 H1 m1 _ _ e1 r1 (it_enum (SqL.of h1) q1) t1⟩
  | [.rdl xs], t1 =>
    obtain ⟨v, rfl, q⟩ := rps1 p1
    cases q with | rdl h1 q1 => exact ⟨_, _, rfl, r1.ext.seq h1, k G1 H1 m1 _ _ e1 r1 (it_enum h1 q1) t1⟩
end
section
variable {X : Cx} {W : WX} {WD : DWX}
def dFmt (te : DTE) : DTE := fun r m Q => te r m fun d m1 => match d with
  | .str y => y.length ≤ sizeLine ∧ Q (.str y) m1
  | .int i => i.natAbs.log2 < 1920 ∧ Q (.str (toString i)) m1
  | _ => False
def dJs : List DTE → Str → DSt → M → (Str → M → Prop) → Prop
  | [], acc, _, m, Q => Q acc m
  | t :: ts, acc, r, m, Q => t r m fun d m1 => ∃ y : Str, d = .str y ∧ (acc ++ y).length ≤ sizeLine ∧ dJs ts (acc ++ y) r m1 Q
def dFStr (ts : List DTE) : DTE := fun r m Q => dJs ts Str.empty r m fun out m1 => Q (.str out) m1
inductive DJ (X : Cx) (W : WX) (WD : DWX) : List Expr → List DTE → Prop where
  | nil : DJ X W WD [] []
  | cons {e : Expr} {t : DTE} {es : List Expr} {ts : List DTE} (h : DE X W WD e t) (r : DJ X W WD es ts) : DJ X W WD (e :: es) (t :: ts)
theorem DJ.pj {es : List Expr} {ts : List DTE} (h : DJ X W WD es ts) : PJ X es (ts.map (up X.K W WD)) := by
  induction h with
  | nil => exact .nil
  | cons h _ ih => exact .cons h ih
end
section
variable {K : PySem.W.Frag} {x qual : Str} {params : Arguments} {body : List Stmt} {scope : Scope} {dvs : List V} {kws : List (Str × V)} {f : Addr} {fd : FuncData} {ps : List Str}
theorem kbn_all (F : FunD K x qual params body scope [] kws f fd) (n : Nat) (ks : List Str)
    (h : ∀ (kV doc pm : Value) (an : Option Addr) (cdv ct : Value) (us ws : List Value), us.length = n → ws.length = ks.length → bindArgs (PySem.W.fnOf x qual params body scope .none kV doc pm an cdv ct) ⟨us, ks.zip ws⟩ = pure (ps.zip (us ++ ws))) : KBn K fd ps n ks (fun us ws => us ++ ws) (fun vs zs => vs ++ zs) := by
  obtain ⟨oc, od, dV, kV, doc, pm, an, cdv, ct, osl, rfl, lk, hcd, hD, hK⟩ := F.ex
  rcases hD with ⟨_, rfl⟩ | ⟨e, _⟩
  · exact ⟨fun s us ws X l1 l2 => .of_eq (h kV doc pm an cdv ct us ws l1 l2), fun r1 r2 => r1.append r2⟩
  · exact absurd rfl e
end
structure GoodK (P : Program) (w : World) (K : Fr0) (mg : Str → Option Value) (base : Heap) (k : Nat) (x : Option Str) (f : Addr) (ps : List Str) (sp : DSp) (n : Nat) (ks : List Str) (dds : List D) : Prop where
  ex : ∃ fd, FnOk P w K mg base (L2.CX P w) k f fd ps (liftSp K sp) ∧ PySem.W.keepIn K (.ref f) = true ∧ KBn K fd ps n ks (fun us ws => us ++ ws) (fun vs zs => vs ++ zs) ∧ ∃ ds dvs, Vals dvs ds ∧ Binds K fd ps ds ∧ ∀ G, Rps K G dds dvs
  gl : match x with
    | some x => mg x = some (.ref f)
    | none => True
structure GoodD (P : Program) (w : World) (K : Fr0) (mg : Str → Option Value) (base : Heap) (k : Nat) (x : Option Str) (f : Addr) (ps : List Str) (sp : DSp) (dds : List D) : Prop where
  ex : ∃ fd, FnOk P w K mg base (L2.CX P w) k f fd ps (liftSp K sp) ∧ PySem.W.keepIn K (.ref f) = true ∧ Binds K fd ps [] ∧ ∃ ds dvs, Vals dvs ds ∧ Binds K fd ps ds ∧ ∀ G, Rps K G dds dvs
  gl : match x with
    | some x => mg x = some (.ref f)
    | none => True
section
variable {X : Cx} {W : WX} {WD : DWX} {k n : Nat} {f : Addr} {fd : FuncData} {ps ks : List Str} {sp : DSp} {x : Str} {p pos kpos : Pos} {e : Expr} {es : List Expr} {kws : List Keyword} {t tk : DTA} {te : DTE} {nm : Option Str} {g : List Value → List Value → List Value} {gV : List V → List V → List V}
abbrev DK (X : Cx) (W : WX) (WD : DWX) (kws : List Keyword) (t : DTA) : Prop := PK X kws (upA X.K W WD t)
theorem dk_nil : DK X W WD [] daNil := by
  refine PK.imp pk_nil fun σ H Q h => ?_
  obtain ⟨G, F, ρ, m, QD, x, t, k⟩ := h
  exact k G H m [] [] (Same.refl G) x.rep .nil t
theorem dk_cons (ha : DE X W WD e te) (hr : DK X W WD kws t) : DK X W WD (⟨nm, e, kpos⟩ :: kws) (daCons te t) := by
  refine PK.imp (pk_cons ha hr) fun σ H Q h => ?_
  obtain ⟨G, F, ρ, m, QD, x, t, k⟩ := h
  refine ⟨G, F, ρ, m, _, x, t, fun G1 H1 m1 d1 v1 e1 r1 p1 t1 => ?_⟩
  exact ⟨G1, F, ρ, m1, _, x.step e1 r1, t1, fun G2 H2 m2 ds vs e2 r2 p2 t2 => k G2 H2 m2 (d1 :: ds) (v1 :: vs) (e1.trans e2) r2 (.cons (p1.mono e2) p2) t2⟩
def dCallN (n j : Nat) (sp : DSp) (WD : DWX) (t tk : DTA) : DTE := fun r m Q => t r m fun ds m1 => tk r m1 fun zs m2 => ds.length = n ∧ zs.length = j ∧ sp (ds ++ zs) m2 Q fun x m3 => WD x r m3
theorem run_fnNS {CX : CXT} {sp : Sp} {E : XK} {pins : List (Addr × Obj)} {σ : L2.St} {H : Hp} {s : Shared} {Q : VK} {us ws : List Value} {vs zs : List V} (F : FnOk X.prog X.w X.K X.mg X.base CX k f fd ps sp) (hr : Room k X.A) (hb : KBn X.K fd ps n ks g gV) (hx : PassesAt CX X σ E)
    (I : Inv X pins σ H s) (r : Vals vs us) (rz : Vals zs ws) (l1 : vs.length = n) (l2 : zs.length = ks.length) (h : sp (gV vs zs) H Q E) : wpAny (model X.prog X.w) X.A (call (.ref f) us (ks.zip ws)) (EP X pins σ Q) X.xe s := by
  have r2 := hb.rel r rz
  refine wpAny_call (codeAny_mono (F.run X.A X.stack s H ⟨us, ks.zip ws⟩ (g us ws) (gV vs zs) Q E hr I.env0 (hb.to s us ws I.kIn (r.length.symm.trans l1) (rz.length.symm.trans l2)) r2 h) fun r s' hq => ?_)
  cases r with
  | error e => exact hx pins H s e s' I hq
  | ok fl =>
    cases fl with
    | ret u => exact I.after hq
    | next => exact False.elim hq
    | brk => exact False.elim hq
    | cont => exact False.elim hq
theorem de_callN {j : Nat} (F : FnOk X.prog X.w X.K X.mg X.base (L2.CX X.prog X.w) k f fd ps (liftSp X.K sp)) (hr : Room k X.A) (hg : Gl X x) (hm : X.mg x = some (.ref f)) (hk : PySem.W.keepIn X.K (.ref f) = true) (hb : KBn X.K fd ps n ks (fun us ws => us ++ ws) (fun vs zs => vs ++ zs)) (tk' : Takes X W)
    (ha : DA X W WD (e :: es) t) (hkw : DK X W WD kws tk) (hall : (backToKw pos (keywordEach kws X.env)).all (·.1.isSome) = true := by rfl) (hks : (backToKw pos (keywordEach kws X.env)).filterMap (·.1) = ks := by rfl)
    (hdb : (x == ("__debug__" : Str)) = false := by decide) (he : starEach (e :: es) X.env = (false, eval e X.env) :: starEach es X.env := by rfl)
    (hpl : ((backTo pos (starEach (e :: es) X.env)).any (·.1) || (backToKw pos (keywordEach kws X.env)).any (·.1.isNone)) = false := by rfl) (hj : ks.length = j := by rfl) :
    DE X W WD (.Call (.Name x p) (e :: es) kws pos) (dCallN n j sp WD t tk) := by
  subst hj
  refine PE.imp (t := fun σ H Q => upA X.K W WD t σ H fun vs H1 => upA X.K W WD tk σ H1 fun zs H2 => vs.length = n ∧ zs.length = ks.length ∧ liftSp X.K sp (vs ++ zs) H2 Q (WE W σ)) ⟨fun pins s σ H Q I h => ?_⟩ fun σ H Q h => ?_
  · refine wpAny_Call_Name_kw (ld_glob I hg hm ?_ hdb)
    refine PySem.W.callWith_KW (h₀ := X.base) I.ok.mod.kin hk hall (thn (ha.run pos pins s σ H _ I h) fun us s1 ⟨vs, H1, I1, r, q⟩ => ?_) hpl he
    refine thn (hkw.run pos pins s1 σ H1 _ I1 q) fun ws s2 ⟨zs, H2, I2, rz, l1, l2, q2⟩ => ⟨I2.kIn, ?_⟩
    rw [hks]
    exact run_fnNS F hr hb (passAt tk' σ) I2 r rz l1 l2 q2
  · obtain ⟨G, F, r, m, QD, x, t, k⟩ := h
    refine ⟨G, F, r, m, _, x, t, fun G1 H1 m1 ds vs e1 r1 p1 t1 => ?_⟩
    refine ⟨G1, F, r, m1, _, x.step e1 r1, t1, fun G2 H2 m2 zs ws e2 r2 p2 t2 => ?_⟩
    obtain ⟨l1, l2, t2⟩ := t2
    exact ⟨by rw [← p1.length]; exact l1, by rw [← p2.length]; exact l2, lift_call (x.step (e1.trans e2) r2) ((p1.mono e2).append p2) t2 (k.mono (e1.trans e2))⟩
end
theorem tup0_of {ad : Fr0 → Addr} {K : Fr0} (h : tup0B ad K = true) (G : Hp) : Rps K G [.tup []] [.ref (ad K)] := by
  unfold tup0B at h
  split at h
  · rename_i od its n sl e
    have hz : its.size = 0 := by simpa using h
    have : its.toList = [] := by
      have : its.toList.length = 0 := by simpa using hz
      exact List.eq_nil_of_length_eq_zero this
    refine .cons (.tup (vs := []) ⟨.inr ⟨_, its, n, e, rfl, rfl, by rw [hz]; exact Nat.zero_le _, ?_⟩, .inl rfl⟩ .nil) .nil
    rw [this]
    exact .nil
  · cases h
end DL

set_option Elab.async false
set_option linter.all false
set_option maxRecDepth 100000
set_option maxHeartbeats 4000000
namespace DL
open PySem PySem.Spec PyProof.Rows L2
theorem Rep.lend {K : PySem.W.Frag} {G H F : Hp} {m : M} {a : Addr} {xs : List D} (r : Rep K G H F m) (h : m a = some (.lst xs)) : ∃ vs, F a = none ∧ Rps K G xs vs ∧ Rep K G H (upd F a (.lst vs)) (mdel m a) := by
  obtain ⟨g1, f1, w, h3, h4⟩ := r.mo a _ h
  obtain ⟨vs, rfl, h4⟩ := h4.ofLst
  refine ⟨vs, f1, h4, r.ext, fun b v e => ?_, fun b v e => ?_, fun b v e => ?_, r.tb, r.gt, nt_upd r.ft ⟨fun _ e => (by cases e), fun _ e => (by cases e), fun _ e => (by cases e)⟩⟩
  · by_cases hb : b = a
    · subst hb; rw [upd_same] at e; rw [← e]; exact h3
    · rw [upd_ne hb] at e; exact r.frm b v e
  · by_cases hb : b = a
    · subst hb; exact g1
    · rw [upd_ne hb] at e; exact r.dis b v e
  · by_cases hb : b = a
    · subst hb; rw [mdel_same] at e; cases e
    · rw [mdel_ne hb] at e
      obtain ⟨h1, h2, u, h5, h6⟩ := r.mo b v e
      exact ⟨h1, by rw [upd_ne hb]; exact h2, u, h5, h6⟩
theorem upd_comm {H : Hp} {a b : Addr} {o u : HO} (h : a ≠ b) : upd (upd H a o) b u = upd (upd H b u) a o := by
  funext c
  unfold upd
  by_cases e : c = a
  · subst e; rw [if_neg h, if_pos rfl, if_pos rfl]
  · by_cases e2 : c = b
    · subst e2; rw [if_pos rfl, if_neg e, if_pos rfl]
    · rw [if_neg e2, if_neg e, if_neg e, if_neg e2]
def dLcM (mt : Bool) (ti : DTE) (c : CT) (vs : List Nat) (tt : DTT) (te : DTE) : DTE := fun r m Q => ti r m fun d m1 => ∃ a xs, d = .ref a ∧ m1 a = some (.lst xs) ∧ dLcL c vs tt te xs [] r (mdel m1 a) fun acc m2 => m2 a = none → mkL mt acc (mset m2 a (.lst xs)) Q
section
variable {X : Cx} {W : WX} {WD : DWX}
theorem lc_upM {K : PySem.W.Frag} {ti : DTE} {c : CT} {vs : List Nat} {tt : DTT} {te : DTE} {mt : Bool} {σ : L2.St} {H : Hp} {Q : VK} (hc : c.in vs) (h : up K W WD (dLcM mt ti c vs tt te) σ H Q) : tLc (fun σ H R => up K W WD ti σ H fun v H1 => ∃ a, v = .ref a ∧ (∃ xs, SqL K H1 a xs) ∧ R (Itl K a) H1) (ctG K c) (upT K W0 WD0 tt) (up K W0 WD0 te) vs σ H Q := by
  obtain ⟨G, F, r, m, QD, x, t, k⟩ := h
  refine ⟨G, F, r, m, _, x, t, fun G1 H1 m1 d1 v1 e1 r1 p1 t1 => ?_⟩
  obtain ⟨a, xs, rfl, hm, t1⟩ := t1
  cases p1
  obtain ⟨us, hFa, rxs, r1'⟩ := r1.lend hm
  have ha1 : H1 a = some (.lst us) := r1'.frm a _ upd_same
  refine ⟨a, rfl, ⟨us, SqL.of ha1⟩, ?_⟩
  intro Dl hD
  have hF : (upd F a (.lst us)) Dl = none := r1'.frm.free hD
  have hDa : Dl ≠ a := fun z => by subst z; rw [ha1] at hD; cases hD
  refine ⟨fun i n H => n = xs.length - i ∧ i ≤ xs.length ∧ ∃ G2 m2 acc va, Same G1 G2 ∧ Rep K G2 H (upd (upd F a (.lst us)) Dl (.lst va)) m2 ∧ Rps K G2 acc va ∧ dLcL c vs tt te (xs.drop i) acc r m2 (fun acc m => m a = none → mkL mt acc (mset m a (.lst xs)) QD), ⟨xs.length, rfl, Nat.zero_le _, G1, _, [], [], Same.refl G1, r1'.hide hD, .nil, t1⟩, ?_⟩
  rintro i n H2 ⟨rfl, hi, G2, m2, acc, va, e2, rep2, ra, t2⟩
  have ha2 : H2 a = some (.lst us) := rep2.frm a _ (by rw [upd_ne (fun z => hDa z.symm), upd_same])
  by_cases hlt : i < xs.length
  · have hdrop : xs.drop i = xs[i] :: xs.drop (i + 1) := (List.getElem_cons_drop hlt).symm
    rw [hdrop] at t2
    obtain ⟨r2, ec, t2⟩ := t2
    have hv : i < us.length := by rw [← rxs.length]; exact hlt
    refine .inr ⟨⟨us, us[i], SqL.of ha2, by simp [hv]⟩, fun H3 => ∃ G3 m3 acc va, Same G1 G3 ∧ Rep K G3 H3 (upd (upd F a (.lst us)) Dl (.lst va)) m3 ∧ Rps K G3 acc va ∧ dLcL c vs tt te (xs.drop (i + 1)) acc r m3 (fun acc m => m a = none → mkL mt acc (mset m a (.lst xs)) QD), fun H3 h3 => ⟨xs.length - (i + 1), by omega, rfl, hlt, h3⟩, fun v H3 y => ?_⟩
    obtain ⟨rfl, y⟩ := y
    obtain ⟨w, hw1, hw2⟩ := rxs.get (show xs[i]? = some xs[i] by simp [hlt])
    have q := y us (SqL.of ha2)
    rw [hw1] at q
    cases q
    have p3 : Rp K G2 xs[i] v := hw2.mono e2
    have e03 : Same G G2 := e1.trans e2
    refine ct_ok hc (rs_wipe (x.rs.mono e03) vs) p3 ec rep2.ext fun s2 rs2 w2 => ?_
    refine ⟨w2.trans (wipe_wipe σ vs vs fun _ h => h), G2, _, r2, m2, _, ⟨rep2, rs2, Lx.no⟩, t2, fun G4 H4 m4 b e4 rep4 t4 => ?_⟩
    cases b with
    | false => exact ⟨G4, m4, acc, va, e2.trans e4, rep4, ra.mono e4, t4⟩
    | true =>
      refine ⟨G4, _, r2, m4, _, ⟨rep4, rs2.mono e4, Lx.no⟩, t4, fun G5 H5 m5 d v e5 rep5 p5 t5 => ?_⟩
      have ra5 := ra.mono (e4.trans e5)
      exact ⟨va, rep5.frm Dl _ upd_same, by rw [← ra5.length]; exact t5.1, G5, m5, acc ++ [d], va ++ [v], (e2.trans e4).trans e5, rep5.turn, ra5.append (.cons p5 .nil), t5.2⟩
  · have e : i = xs.length := by omega
    subst e
    rw [List.drop_length] at t2
    refine .inl ⟨⟨us, SqL.of ha2, by rw [rxs.length]; exact Nat.le_refl _⟩, ?_⟩
    have hFD : F Dl = none := by rw [upd_ne hDa] at hF; exact hF
    rw [upd_comm (fun z => hDa z.symm)] at rep2
    obtain ⟨ma, rep3⟩ := rep2.outM (by rw [upd_ne (fun z => hDa z.symm)]; exact hFa) (rxs.mono e2)
    have t3 := t2 ma
    cases mt with
    | false =>
      obtain ⟨e3, rep4, p4⟩ := rep3.outL hFD ra
      exact k _ H2 _ _ _ ((e1.trans e2).trans e3) rep4 p4 t3
    | true =>
      obtain ⟨mp, rep4⟩ := rep3.outM hFD ra
      exact k _ H2 _ _ _ (e1.trans e2) rep4 (.ref Dl) (t3 Dl mp)
theorem de_lcM (mt : Bool) {elt tg iter : Expr} {ifs : List Expr} {scope : Scope} {own : List (Str × Nat)} {pos : Pos} {ti : DTE} {c : CT} {tt : DTT} {te : DTE} (hc : X.calm = true) (hN : X.N.Nodup) (hin : c.in (own.map (·.2))) (hi : DE X W WD iter ti) (ok : BlkOk X.N X.env.scope scope own)
    (hg : ∀ (s : Shared) (H : Hp) (C : Addr) (cl : List (Str × Addr)) (fp : List Addr), PG (X.blk s H scope (compEnvC scope cl C X.env) fp) tg (ctG X.K c)) (ht : ∀ (s : Shared) (H : Hp) (C : Addr) (cl : List (Str × Addr)) (fp : List Addr), DTs (X.blk s H scope (compEnvC scope cl C X.env) fp) W0 WD0 ifs tt)
    (he : ∀ (s : Shared) (H : Hp) (C : Addr) (cl : List (Str × Addr)) (fp : List Addr), DE (X.blk s H scope (compEnvC scope cl C X.env) fp) W0 WD0 elt te) (hs : ∀ x, foldedSetIterable iter X.env x = pure x := by intro _; rfl) :
    DE X W WD (.ListComp elt [⟨tg, iter, ifs, 0⟩] scope pos) (dLcM mt ti c (own.map (·.2)) tt te) :=
  PE.imp (pe_lc hc hN (pi_list hi) ok hg ht he hs) fun _ _ _ h => lc_upM hin h
end
theorem lcM_pure {mt : Bool} {ti : DTE} {c : CT} {vs : List Nat} {te : DTE} {r : DSt} {m : M} {a : Addr} {xs : List D} {Q : D → M → Prop} (f : D → D) (ht : ∀ Q' : D → M → Prop, Q' (.ref a) m → ti r m Q') (ha : m a = some (.lst xs)) (hz : xs.length ≤ sizeLine)
    (h : ∀ x ∈ xs, ∃ r2, ctD c x (wipeD r vs) = some r2 ∧ ∀ Q' : D → M → Prop, Q' (f x) (mdel m a) → te r2 (mdel m a) Q') (q : mkL mt (xs.map f) m Q) : dLcM mt ti c vs dYes te r m Q := by
  refine ht _ ⟨a, xs, rfl, ha, lc_pure f (by simpa using hz) h fun _ => ?_⟩
  have e : mset (mdel m a) a (.lst xs) = m := by
    funext b
    unfold mset mdel
    by_cases hb : b = a
    · rw [if_pos hb, hb, ha]
    · rw [if_neg hb, if_neg hb]
  rw [e, List.nil_append]
  exact q
end DL

set_option Elab.async false
set_option linter.all false
set_option maxRecDepth 100000
set_option maxHeartbeats 4000000
namespace DL
open PySem PySem.Spec PyProof.Rows L2
open He (ga ma eqO eqO_ok ba)
theorem frz_l {m : M} {a : Addr} {ds : List D} {Q : D → M → Prop} : frzV (mset m a (.lst ds)) (.ref a) Q ↔ Q (.lst ds) (mdel (mset m a (.lst ds)) a) := by
  unfold frzV
  dsimp only
  rw [mset_same]
theorem in_ss {i j : Str} {m : M} {Q : D → M → Prop} : dIn false (.str i) (.str j) m Q ↔ Q (.bl (!(Builtin.Str.occurrences j i 0 j.length 1).isEmpty)) m := Iff.rfl
theorem notin_ss {i j : Str} {m : M} {Q : D → M → Prop} : dIn true (.str i) (.str j) m Q ↔ Q (.bl (!(!(Builtin.Str.occurrences j i 0 j.length 1).isEmpty))) m := Iff.rfl
theorem inD_strs (x : Str) : ∀ zs : List Str, inD (.str x) (zs.map D.str) = decide (x ∈ zs)
  | [] => rfl
  | z :: zs => by
    have ih := inD_strs x zs
    unfold inD at ih ⊢
    rw [List.map_cons, List.any_cons, ih]
    show ((z == x) || decide (x ∈ zs)) = _
    by_cases h : z = x
    · subst h; simp
    · have h2 : (z == x) = false := by simpa using h
      rw [h2, Bool.false_or]
      refine decide_eq_decide.mpr ⟨List.mem_cons_of_mem _, fun hm => ?_⟩
      rcases List.mem_cons.mp hm with e | e
      · exact absurd e.symm h
      · exact e
theorem flat_strs (zs : List Str) : (zs.map D.str).all flatD = true := by
  rw [List.all_map, List.all_eq_true]
  intro _ _
  rfl
theorem in_strs {x : Str} {zs : List Str} {m : M} {d : D} {Q : D → M → Prop} (hd : sqOf m d = some (zs.map D.str)) (q : Q (.bl (decide (x ∈ zs))) m) : dIn false (.str x) d m Q := by
  cases d with
  | str j => cases hd
  | _ => exact ⟨_, hd, rfl, flat_strs zs, by rw [inD_strs]; exact q⟩
def clR : Nat → D → Bool
  | _, .non => true
  | _, .bl _ => true
  | _, .int _ => true
  | _, .str x => PyData.strOk x
  | n + 1, .lst xs => xs.all (clR n)
  | n + 1, .tup xs => xs.all (clR n)
  | _, _ => false
theorem clR_toP : ∀ (n : Nat) (x : D), clR n x = true → ∃ p, toP x = some p ∧ p.canLay0 = true ∧ p.depth ≤ n
  | n, .non, _ => ⟨.none, by rw [toP], rfl, by simp [PyData.depth]⟩
  | n, .bl i, _ => ⟨.bool i, by rw [toP], rfl, by simp [PyData.depth]⟩
  | n, .int i, _ => ⟨.int i, by rw [toP], rfl, by simp [PyData.depth]⟩
  | n, .str x, h => by
    refine ⟨.str x, by rw [toP], ?_, by simp [PyData.depth]⟩
    cases n <;> exact h
  | n + 1, .lst xs, h => by
    obtain ⟨ps, e, c, d⟩ := cl_all (n := n) fun x hx => clR_toP n x (List.all_eq_true.mp h x hx)
    exact ⟨.list ps, by rw [toP, e]; rfl, c, by show PyData.depthAll ps + 1 ≤ n + 1; omega⟩
  | n + 1, .tup xs, h => by
    obtain ⟨ps, e, c, d⟩ := cl_all (n := n) fun x hx => clR_toP n x (List.all_eq_true.mp h x hx)
    exact ⟨.tuple ps, by rw [toP, e]; rfl, c, by show PyData.depthAll ps + 1 ≤ n + 1; omega⟩
  | 0, .lst _, h => by cases h
  | 0, .tup _, h => by cases h
  | 0, .ty _, h => by cases h
  | 0, .ref _, h => by cases h
  | 0, .rdl _, h => by cases h
  | 0, .ins _ _, h => by cases h
  | 0, .exn _ _ _, h => by cases h
  | 0, .dki _, h => by cases h
  | 0, .dti _, h => by cases h
  | 0, .clo _ _ _ _ _, h => by cases h
  | 0, .obj _ _, h => by cases h
  | n + 1, .ty _, h => by cases h
  | n + 1, .ref _, h => by cases h
  | n + 1, .rdl _, h => by cases h
  | n + 1, .ins _ _, h => by cases h
  | n + 1, .exn _ _ _, h => by cases h
  | n + 1, .dki _, h => by cases h
  | n + 1, .dti _, h => by cases h
  | n + 1, .clo _ _ _ _ _, h => by cases h
  | n + 1, .obj _ _, h => by cases h
mutual
theorem eqv_refl : ∀ p : PyData, p.canLay0 = true → PyData.eqv p p = true
  | .none, _ => by simp [PyData.eqv]
  | .bool b, _ => by simp [PyData.eqv]
  | .int i, _ => by simp [PyData.eqv]
  | .str x, _ => by simp [PyData.eqv]
  | .list xs, h => by rw [PyData.eqv]; exact eqvAll_refl xs h
  | .tuple xs, h => by rw [PyData.eqv]; exact eqvAll_refl xs h
  | .dict _, h => by cases h
theorem eqvAll_refl : ∀ xs : List PyData, PyData.canLayAll0 xs = true → PyData.eqvAll xs xs = true
  | [], _ => by simp [PyData.eqvAll]
  | x :: xs, h => by
    have h : (PyData.canLay0 x && PyData.canLayAll0 xs) = true := h
    rw [Bool.and_eq_true] at h
    rw [PyData.eqvAll, eqv_refl x h.1, eqvAll_refl xs h.2]
    rfl
end
theorem eqB_refl {x : D} {b : Bool} (h : dEqB x x = some b) : b = true := (eqB_data h).mpr rfl
section
variable {m : M} {n : Nat} {x : D} {Q : D → M → Prop}
theorem dEq_refl (hn : n ≤ 64) (c : clR n x = true) (h : Q (.bl true) m) : dEq x x m Q := by
  unfold dEq
  cases e : dEqB x x with
  | some b => rw [eqB_refl e]; exact h
  | none =>
    obtain ⟨p, e1, l1, d1⟩ := clR_toP n x c
    have e2 : datOf m x = some p := by
      cases x with
      | ref a => cases n <;> cases c
      | _ => exact e1
    have sh : SeqAt.shaped p = true := by unfold SeqAt.shaped; rw [l1, decide_eq_true (by omega)]; rfl
    exact ⟨p, p, e2, e2, sh, sh, by rw [eqv_refl p l1]; exact h⟩
theorem dNe_refl (hn : n ≤ 64) (c : clR n x = true) (h : Q (.bl false) m) : dNe x x m Q := by
  unfold dNe
  cases e : dEqB x x with
  | some b => rw [eqB_refl e]; exact h
  | none =>
    obtain ⟨p, e1, l1, d1⟩ := clR_toP n x c
    have e2 : datOf m x = some p := by
      cases x with
      | ref a => cases n <;> cases c
      | _ => exact e1
    have sh : SeqAt.shaped p = true := by unfold SeqAt.shaped; rw [l1, decide_eq_true (by omega)]; rfl
    exact ⟨p, p, e2, e2, sh, sh, by rw [eqv_refl p l1]; exact h⟩
end
def dIsB : DR2 := fun x y m Q => ∃ a b : Bool, x = .bl a ∧ y = .bl b ∧ Q (.bl (decide (a = b))) m
def dNotB : DR2 := fun x y m Q => ∃ a b : Bool, x = .bl a ∧ y = .bl b ∧ Q (.bl (!decide (a = b))) m
end DL

set_option Elab.async false
set_option linter.all false
set_option maxRecDepth 100000
set_option maxHeartbeats 4000000
namespace DL
open PySem PySem.Spec PyProof.Rows L2
abbrev SuiteOk (X : Cx) (st : List Stmt) (ts : Addr → Value → Option Addr → TS) : Prop := ∀ (a : Addr) (oe : Obj) (cls : Value) (d : Option Addr) (pn : List (Addr × Obj)), Zc cls d oe → (∃ vs, oe.data = .fields vs) → PSs (X.suite a ((a, oe) :: pn)) st (ts a cls d)
inductive ClsOk (X : Cx) : List ExceptHandler → List Cls1 → Prop
  | nil : ClsOk X [] []
  | plain {x : Str} {c : Value} {ts : Addr → Value → Option Addr → TS} {b₀ : Stmt} {suite : List Stmt} {np p2 : Pos} {hds : List ExceptHandler} {l : List Cls1} (hc : Names X x c) (hsu : SuiteOk X (b₀ :: suite) ts) (r : ClsOk X hds l) :
      ClsOk X (.ExceptHandler (some (.Name x np)) none (b₀ :: suite) p2 :: hds) ((c, none, ts) :: l)
  | named {x n : Str} {i : Nat} {c : Value} {ts : Addr → Value → Option Addr → TS} {b₀ : Stmt} {suite : List Stmt} {np p2 : Pos} {hds : List ExceptHandler} {l : List Cls1} (hi : X.N[i]? = some n) (hln : X.env.kindOf n = some .local) (hc : Names X x c) (hsu : SuiteOk X (b₀ :: suite) ts) (r : ClsOk X hds l) :
      ClsOk X (.ExceptHandler (some (.Name x np)) (some n) (b₀ :: suite) p2 :: hds) ((c, some i, ts) :: l)
section
variable {X : Cx} {body : List Stmt} {h₀ : ExceptHandler} {hds : List ExceptHandler} {l : List Cls1} {pos : Pos} {tb : WX → TS} {Wout : WX}
end

def dCut (i : Nat) (DD : DEnds) : DEnds := { nx := fun r' m' => DD.nx (r'.set i none) m', rt := DD.rt, bk := fun r' m' => DD.bk (r'.set i none) m', ct := fun r' m' => DD.ct (r'.set i none) m' }
abbrev DSuiteOk (X : Cx) (st : List Stmt) (ts : DTX) : Prop := ∀ (a : Addr) (oe : Obj) (C : Addr) (d : Option Addr) (pn : List (Addr × Obj)), Zc (.ref C) d oe → (∃ vs, oe.data = .fields vs) → DSs (X.suite a ((a, oe) :: pn)) W0 WD0 st (ts a C d)
inductive DClsOk (X : Cx) : List ExceptHandler → List DCls → Prop
  | nil : DClsOk X [] []
  | plain {x : Str} {c : Value} {ts : DTX} {b₀ : Stmt} {suite : List Stmt} {np p2 : Pos} {hds : List ExceptHandler} {l : List DCls} (hc : Names X x c) (hsu : DSuiteOk X (b₀ :: suite) ts) (r : DClsOk X hds l) :
      DClsOk X (.ExceptHandler (some (.Name x np)) none (b₀ :: suite) p2 :: hds) ((c, none, ts) :: l)
  | named {x n : Str} {i : Nat} {c : Value} {ts : DTX} {b₀ : Stmt} {suite : List Stmt} {np p2 : Pos} {hds : List ExceptHandler} {l : List DCls} (hi : X.N[i]? = some n) (hln : X.env.kindOf n = some .local) (hc : Names X x c) (hsu : DSuiteOk X (b₀ :: suite) ts) (r : DClsOk X hds l) :
      DClsOk X (.ExceptHandler (some (.Name x np)) (some n) (b₀ :: suite) p2 :: hds) ((c, some i, ts) :: l)
section
variable {X : Cx} {W : WX} {WD : DWX} {body : List Stmt} {h₀ : ExceptHandler} {hds : List ExceptHandler} {l : List DCls} {pos : Pos} {tb : DWX → DTS}
end
end DL

set_option Elab.async false
set_option linter.all false
set_option maxRecDepth 100000
set_option maxHeartbeats 4000000
namespace DL
open PySem PySem.Spec PyProof.Rows L2
open He (ga ba)
section
variable {K : PySem.W.Frag} {a ec C : Addr} {ed : Option Addr} {m : M} {Q : D → M → Prop} {fs : List (Str × D)} {b : Bool}
end
end DL

set_option Elab.async false
set_option linter.all false
set_option maxRecDepth 100000
set_option maxHeartbeats 4000000
namespace DL
open PySem PySem.Spec PyProof.Rows L2
def rMulS : R2 := fun x y H Q => ∃ z n, x = .str z ∧ y = .int n ∧ PySem.MulOk z n ∧ Q (.str (PySem.Txt.mul z n)) H
def dMulS : DR2 := fun x y m Q => ∃ z n, x = .str z ∧ y = .int n ∧ PySem.MulOk z n ∧ Q (.str (PySem.Txt.mul z n)) m
section
variable {K : PySem.W.Frag} {X : Cx} {W : WX} {WD : DWX} {a b : Expr} {ta tb : DTE} {pos : Pos}
theorem op_mulS : OpR X (binaryOp .Mult) rMulS := by
  intro pins s σ H x y v u Q I rx ry h
  obtain ⟨z, n, rfl, rfl, ok, q⟩ := h
  obtain ⟨t, rfl⟩ := rx
  obtain ⟨t', rfl⟩ := ry
  exact PySem.SB.mul ok fun t2 k => ⟨.str (PySem.Txt.mul z n), H, I.tok k, ⟨_, rfl⟩, q⟩
theorem od_mulS : OpD K rMulS dMulS := by
  intro G H F m x y vx vy QD Q r px py t k
  obtain ⟨z, n, rfl, rfl, ok, t⟩ := t
  cases px; cases py
  exact ⟨z, n, rfl, rfl, ok, k.here r (.str _) t⟩
theorem de_mulS (ha : DE X W WD a ta) (hb : DE X W WD b tb) : DE X W WD (.BinOp a .Mult b pos) (dOp dMulS ta tb) := PE.imp (pe_op op_mulS ha hb) fun _ _ _ h => up_op od_mulS h
end
end DL

set_option Elab.async false
set_option linter.all false
set_option maxRecDepth 100000
set_option maxHeartbeats 4000000
namespace DL
open PySem PySem.Spec PyProof.Rows L2
theorem _root_.L2.Room.units1 {k : Nat} {A : Around} (r : L2.Room k A) : A.units + 1 < cLine := by
  have := r.units
  omega
theorem MSub.refl (m : M) : MSub m m := fun _ _ h => h
theorem MSub.set {m : M} {p : Addr} {o : MO} (h : m p = none) : MSub m (mset m p o) := fun x u e => by
  rw [mset_ne (fun q => by rw [q, h] at e; cases e)]
  exact e
theorem Rep.sub {K : PySem.W.Frag} {G H F : Hp} {m m2 : M} (r : Rep K G H F m) (h : MSub m2 m) : Rep K G H F m2 := ⟨r.ext, r.frm, r.dis, fun a o e => r.mo a o (h a o e), r.tb, r.gt, r.ft⟩
section
variable {X : Cx} {W : WX} {WD : DWX} {e : Expr} {te : DTE}
end
def keyD : Key → D
  | .inl i => .int i
  | .inr x => .str x
theorem rp_key {K : PySem.W.Frag} {G : Hp} {k : Key} {v : V} (h : Rp K G (keyD k) v) : v = kV k := by
  cases k <;> (cases h; rfl)
section
variable {κ : Type} [DecidableEq κ]
def putKD (kvs : List (κ × D)) (k : κ) (v : D) : List (κ × D) :=
  if (kvs.any fun kv => decide (kv.1 = k)) = true then kvs.map (fun kv => if kv.1 = k then (kv.1, v) else kv) else kvs ++ [(k, v)]
variable {K : PySem.W.Frag} {G : Hp}
theorem Rpk.any (k : κ) : ∀ {ds : List (κ × D)} {vs : List (κ × V)}, Rpk K G ds vs → (ds.any fun kv => decide (kv.1 = k)) = (vs.any fun kv => decide (kv.1 = k))
  | _, _, .nil => rfl
  | _, _, .cons _ t => by rw [List.any_cons, List.any_cons, Rpk.any k t]
theorem Rpk.app : ∀ {ds es : List (κ × D)} {vs us : List (κ × V)}, Rpk K G ds vs → Rpk K G es us → Rpk K G (ds ++ es) (vs ++ us)
  | _, _, _, _, .nil, h => h
  | _, _, _, _, .cons r t, h => .cons r (Rpk.app t h)
theorem Rpk.put (k : κ) {d : D} {v : V} (q : Rp K G d v) {ds : List (κ × D)} {vs : List (κ × V)} (h : Rpk K G ds vs) : Rpk K G (putKD ds k d) (putK vs k v) := by
  unfold putKD putK
  rw [h.any k]
  by_cases e : (vs.any fun kv => decide (kv.1 = k)) = true
  · rw [if_pos e, if_pos e]
    exact h.rep k q
  · rw [if_neg e, if_neg e]
    exact h.app (.cons q .nil)
end
theorem mo_dK {K : PySem.W.Frag} {G H F : Hp} {m : M} {a : Addr} {kvs : List (Key × D)} (r : Rep K G H F m) (h : m a = some (.dK kvs)) : ∃ vs, H a = some (.dK vs) ∧ Rpk K G kvs vs := by
  obtain ⟨_, _, u, h3, h4⟩ := r.mo a _ h
  cases u with
  | dK vs => exact ⟨vs, h3, h4⟩
  | _ => exact h4.elim
section
variable {K : PySem.W.Frag} {X : Cx} {W : WX} {WD : DWX} {a b : Expr} {ta tb tc : DTE} {pos pos' : Pos}
def dNewK : DTE := fun _ m Q => ∀ p, m p = none → Q (.ref p) (mset m p (.dK []))
theorem de_newK : DE X W WD (.Dict [] [] pos) dNewK := by
  refine PE.imp pe_dnewK fun σ H Q h => ?_
  obtain ⟨G, F, r, m, QD, x, t, k⟩ := h
  intro p hp
  exact k G _ _ (.ref p) _ (Same.refl G) (x.rep.newm (u := .dK []) (o := .dK []) hp (show RpM X.K G (.dK []) (.dK []) from Rpk.nil)) (.ref p) (t p (x.rep.mfree hp))
def dPutK (td ty tv : DTE) : DTS := fun DD r m => tv r m fun v m1 => td r m1 fun x m2 => ty r m2 fun y m3 => ∃ a kvs k, x = .ref a ∧ m3 a = some (.dK kvs) ∧ y = keyD k ∧ kvs.length < sizeLine ∧ DD.nx r (mset m3 a (.dK (putKD kvs k v)))
theorem ds_putK {o i e : Expr} {td ty tv : DTE} (hu : X.A.units + 1 < cLine) (ho : DE X W WD o td) (hi : DE X W WD i ty) (hv : DE X W WD e tv) (hs : swapsWith e (some (.Subscript o i pos')) pos.line X.env = pure false := by rfl) :
    DS X W WD (.Assign [.Subscript o i pos'] e pos) (dPutK td ty tv) := by
  refine PS.imp (ps_dput hu ho hi hv hs) fun E σ H h => ?_
  obtain ⟨G, F, r, m, DD, x, t, k⟩ := h
  refine ⟨G, F, r, m, _, x, t, fun G1 H1 m1 d1 v1 e1 r1 p1 t1 => ?_⟩
  refine ⟨G1, F, r, m1, _, x.step e1 r1, t1, fun G2 H2 m2 d2 v2 e2 r2 p2 t2 => ?_⟩
  refine ⟨G2, F, r, m2, _, x.step (e1.trans e2) r2, t2, fun G3 H3 m3 d3 v3 e3 r3 p3 t3 => ?_⟩
  obtain ⟨ad, kvs, key, rfl, hm, rfl, hz, t4⟩ := t3
  cases p2
  have := rp_key p3
  subst this
  obtain ⟨vs, hH, hk⟩ := mo_dK r3 hm
  have e := (e1.trans e2).trans e3
  refine ⟨ad, _, rfl, .inl ⟨vs, key, hH, rfl, by rw [← hk.length]; exact hz, rfl⟩, ?_⟩
  exact k.nx G3 _ _ r σ e (r3.write hm (show RpM X.K G3 (.dK (putKD kvs key d1)) (.dK (putK vs key v1)) from hk.put key (p1.mono (e2.trans e3)))) (x.rs.mono e) t4
end
section
variable {X : Cx} {W : WX} {WD : DWX}
end
section
variable {K : PySem.W.Frag} {X : Cx} {W : WX} {WD : DWX}
end
end DL

set_option Elab.async false
set_option linter.all false
set_option maxRecDepth 100000
set_option maxHeartbeats 4000000
namespace DL
open PySem PySem.Spec PyProof.Rows L2
section
variable {K : PySem.W.Frag} {X : Cx} {W : WX} {WD : DWX}
def diQ (te : DTE) : DTI := fun r m Q => te r m fun d m1 => match d with
  | .lst xs => Q xs m1
  | .rdl xs => Q xs m1
  | .tup xs => Q xs m1
  | _ => False
def iSeq (K : PySem.W.Frag) (tl : TE) : TI := fun σ H R => tl σ H fun x H1 => ∃ a, x = .ref a ∧ (((∃ xs, SqL K H1 a xs) ∧ R (Itl K a) H1) ∨ ((∃ xs, SqT K H1 a xs) ∧ R (Itt K a) H1))
theorem pi_seq {tg l : Expr} {tl : TE} (hl : PE X l tl) : PI X tg l (iSeq X.K tl) := by
  constructor
  intro pins s σ H R I h
  refine thn (hl.run pins s σ H _ I h) (fun v s1 z => ?_)
  obtain ⟨x, H1, J, rx, a, rfl, q⟩ := z
  cases rx
  have fz : ∀ b ∈ [s1.heap.objs.size], FpOk X pins H1 b := by
    intro b hb
    rw [List.mem_singleton.mp hb]
    exact J.fpOk (Nat.le_refl _) (J.hok.fresh (Nat.le_refl _))
  have kp : ∀ ob, Inv X pins σ H1 { s1 with heap := s1.heap.push ob } := fun ob => J.kept (t' := s1.toks) fun b o e => Heap.get?_push_of_some ob e
  rcases q with ⟨⟨xs, hq⟩, q⟩ | ⟨⟨xs, hq⟩, q⟩
  · obtain ⟨its, _, pl, _⟩ := J.list hq
    exact wpAny_pyIter_list pl.isList ⟨_, [s1.heap.objs.size], _, _, H1, rfl, kp _, turn_list a _, ⟨_, Heap.get?_push_size _ rfl, rfl, rfl⟩, fz, q⟩
  · obtain ⟨its, _, pt, _⟩ := J.tuple hq
    exact wpAny_pyIter_tuple (show s1.heap.IsTuple a its.toArray from pt) ⟨_, [s1.heap.objs.size], _, _, H1, rfl, kp _, turn_tuple a _, ⟨_, Heap.get?_push_size _ rfl, rfl, rfl⟩, fz, q⟩
theorem di_seq {tg l : Expr} {te : DTE} (hl : DE X W WD l te) : DI X W WD tg l (diQ te) := by
  refine PI.imp (pi_seq hl) fun σ H R h => ?_
  obtain ⟨G, F, r, m, QD, x, t, k⟩ := h
  refine ⟨G, F, r, m, _, x, t, fun G1 H1 m1 d1 v1 e1 r1 p1 t1 => ?_⟩
  cases d1 with
  | lst xs => cases p1 with | lst h1 q1 => exact ⟨_, rfl, .inl ⟨⟨_, SqL.of (r1.ext _ _ h1)⟩, k G1 H1 m1 xs _ e1 r1 (it_list (SqL.of h1) q1) t1⟩⟩
  | rdl xs => cases p1 with | rdl h1 q1 => exact ⟨_, rfl, .inl ⟨⟨_, r1.ext.seq h1⟩, k G1 H1 m1 xs _ e1 r1 (it_list h1 q1) t1⟩⟩
  | tup xs => cases p1 with | tup h1 q1 => exact ⟨_, rfl, .inr ⟨⟨_, same_sqt r1.ext h1.1⟩, k G1 H1 m1 xs _ e1 r1 (it_tup h1 q1) t1⟩⟩
  | _ => exact t1.elim
end
end DL

set_option Elab.async false
set_option linter.all false
set_option maxRecDepth 100000
set_option maxHeartbeats 4000000
namespace DL
open PySem PySem.Spec PyProof.Rows L2
def rInD (K : PySem.W.Frag) (neg : Bool) : R2 := fun x y H Q => ∃ d ds, Dp K H x d ∧ Dp K H y (.list ds) ∧ PyData.plainAll ds = true ∧ d.plain = true ∧ d.depth ≤ 60 ∧ Q (.bl (if neg then !(ds.any fun e => PyData.eqv e d) else ds.any fun e => PyData.eqv e d)) H
section
variable {K : PySem.W.Frag} {X : Cx}
theorem op_inD (hu : X.A.units + 64 < cLine) : OpR X (compareOp .In) (rInD X.K false) := by
  intro pins s σ H x y v u Q I rx ry h
  obtain ⟨d, ds, hd, he, p1, p2, hz, q⟩ := h
  obtain ⟨as, r1⟩ := Dp.reads I d x v hd rx
  obtain ⟨bs, r2⟩ := Dp.reads I (.list ds) y u he ry
  exact SeqAt.in_list_data r2 r1 p1 p2 (by omega) ⟨.bl _, H, I, rfl, q⟩
def dInD (neg : Bool) : DR2 := fun x y m Q => ∃ d ds, datOf m x = some d ∧ datOf m y = some (.list ds) ∧ PyData.plainAll ds = true ∧ d.plain = true ∧ d.depth ≤ 60 ∧ Q (.bl (if neg then !(ds.any fun e => PyData.eqv e d) else ds.any fun e => PyData.eqv e d)) m
theorem od_inD (neg : Bool) : OpD K (rInD K neg) (dInD neg) := by
  intro G H F m x y vx vy QD Q r px py t k
  obtain ⟨d, ds, e1, e2, p1, p2, hz, t⟩ := t
  exact ⟨d, ds, dat_ok r px e1, dat_ok r py e2, p1, p2, hz, k.here r (.bl _) t⟩
end
theorem toPs_some {n : Nat} : ∀ {ys : List D}, ys.all (clB n) = true → ∃ ps, toPs ys = some ps ∧ PyData.canLayAll0 ps = true
  | [], _ => ⟨[], rfl, rfl⟩
  | y :: ys, h => by
    rw [List.all_cons, Bool.and_eq_true] at h
    obtain ⟨p, e, c1, _⟩ := cl_toP n y h.1
    obtain ⟨ps, es, cs⟩ := toPs_some h.2
    refine ⟨p :: ps, by rw [toPs, e, es]; rfl, ?_⟩
    show (p.canLay0 && PyData.canLayAll0 ps) = true
    rw [c1, cs]
    rfl
theorem any_eqv {n : Nat} {x : D} {p : PyData} (cx : clB n x = true) (ex : toP x = some p) : ∀ {ys : List D} {ps : List PyData}, ys.all (clB n) = true → toPs ys = some ps → ((ps.any fun e => PyData.eqv e p) = true ↔ x ∈ ys)
  | [], ps, _, e => by
    cases e
    simp
  | y :: ys, ps, h, e => by
    rw [List.all_cons, Bool.and_eq_true] at h
    obtain ⟨q, e1, _, _⟩ := cl_toP n y h.1
    obtain ⟨qs, e2, _⟩ := toPs_some h.2
    rw [toPs, e1, e2] at e
    cases e
    have h1 := cl_eqv n y x q p h.1 cx e1 ex
    rw [List.any_cons, Bool.or_eq_true, any_eqv cx ex h.2 e2, h1, List.mem_cons, eq_comm]
theorem dInD_data {neg : Bool} {m : M} {n : Nat} {x y : D} {ys : List D} {Q : D → M → Prop} (hn : n ≤ 60) (c1 : clB n x = true) (hx : vD m x = x) (hy : vD m y = .lst ys) (c2 : ys.all (clB n) = true) (h : ∀ b : Bool, (b = true ↔ x ∈ ys) → Q (.bl (if neg then !b else b)) m) : dInD neg x y m Q := by
  obtain ⟨p, e1, f1, l1, d1⟩ := dat_vD (m := m) (x := x) (n := n) (by rw [hx]; exact c1)
  obtain ⟨ps, es, cs⟩ := toPs_some c2
  have e2 : datOf m y = some (.list ps) := by
    obtain ⟨q, g1, g2, _, _⟩ := dat_vD (m := m) (x := y) (n := n + 1) (by rw [hy]; exact c2)
    rw [hy, toP, es] at g2
    rw [g1]
    exact g2.symm
  rw [hx] at f1
  exact ⟨p, ps, e1, e2, PyData.plainAll_of_canLay0 ps cs, PyData.plain_of_canLay0 p l1, by omega, h _ (any_eqv c1 f1 c2 es)⟩
end DL

set_option Elab.async false
set_option linter.all false
set_option maxRecDepth 100000
set_option maxHeartbeats 4000000
namespace DL
open PySem PySem.Spec PyProof.Rows L2 LamX
structure Lam1 (sc scope : Scope) (p : Str) : Prop where
  kind : scope.kind = .function
  co : scope.isCoroutine = false
  gen : scope.isGenerator = false
  par : scope.names.lookup p = some .local
  own : ∀ y ∈ scope.names, y.2 = .local → y.1 = p
  cell : ∀ y ∈ scope.names, y.2 ≠ .cell
  free : ∀ y ∈ scope.names, y.2 = .free → sc.names.lookup y.1 = some .cell ∨ sc.names.lookup y.1 = some .free
def lam1B (sc scope : Scope) (p : Str) : Bool := decide (scope.kind = .function) && (!scope.isCoroutine && (!scope.isGenerator && (decide (scope.names.lookup p = some .local) &&
  scope.names.all fun y => (!decide (y.2 = .local) || decide (y.1 = p)) && (!decide (y.2 = .cell) && (!decide (y.2 = .free) || (decide (sc.names.lookup y.1 = some .cell) || decide (sc.names.lookup y.1 = some .free)))))))
theorem lam1_by {sc scope : Scope} {p : Str} (h : lam1B sc scope p = true) : Lam1 sc scope p := by
  unfold lam1B at h
  obtain ⟨h1, h⟩ := He.ba h
  obtain ⟨h2, h⟩ := He.ba h
  obtain ⟨h3, h⟩ := He.ba h
  obtain ⟨h4, h⟩ := He.ba h
  have all := List.all_eq_true.mp h
  refine ⟨of_decide_eq_true h1, by simpa using h2, by simpa using h3, of_decide_eq_true h4, fun y hy e => ?_, fun y hy e => ?_, fun y hy e => ?_⟩
  · have z := (He.ba (all y hy)).1
    rw [decide_eq_true e] at z
    exact of_decide_eq_true (by simpa using z)
  · have z := (He.ba (He.ba (all y hy)).2).1
    rw [decide_eq_true e] at z
    cases z
  · have z := (He.ba (He.ba (all y hy)).2).2
    rw [decide_eq_true e, Bool.not_true, Bool.false_or, Bool.or_eq_true] at z
    rcases z with z | z
    · exact .inl (of_decide_eq_true z)
    · exact .inr (of_decide_eq_true z)
section
variable {X : Cx} {pins : List (Addr × Obj)} {σ : L2.St} {H HZ : Hp} {s t : Shared}
theorem Lam1.has {scope : Scope} {p : Str} (L : Lam1 X.env.scope scope p) (ok : X.Ok) : ∀ y ∈ scope.names, y.2 = .free → ∃ c, X.env.cells.lookup y.1 = some c := fun y hy e =>
  (L.free y hy e).elim (fun k => ok.has _ (.inl k)) fun k => ok.has _ (.inr k)
theorem lam_start1 {B : Around} {out : List Env} {E : XK} {scope : Scope} {f d : Addr} {hp : Heap} {tk ip : Nat} {p : Str} {x : V} {u : Value} (I : Inv X pins σ H s) (L : Lam1 X.env.scope scope p) (hN : X.N.Nodup) (hip : X.N[ip]? = some p) (rx : RelV x u)
    (e0 : Env0 X.prog X.w X.K X.mg X.base B out t HZ) (hd : B.handled = none) (un : Un (frs X.stack) [] H HZ s.heap t.heap) (hns : hp.Ns t.heap.objs.size fun y => ([(p, u)] : List (Str × Value)).reverse.lookup y) (kp : ∀ b o, t.heap.get? b = some o → hp.get? b = some o) :
    Inv (lamCx X B out t HZ E scope f d) [] (σ.set ip (some x)) HZ { t with heap := hp, toks := tk } := by
  have hfr := L.has I.ok
  have back : ∀ {y c}, (cloFrom X.env.cells scope.names []).lookup y = some c → X.env.cells.lookup y = some c := fun {y c} e => by
    rcases cloFrom_mem (PySem.mem_of_lookup e) with hm | ⟨h1, h2⟩
    · cases hm
    · obtain ⟨c1, hc⟩ := hfr _ h1 rfl
      have hc : X.env.cells.lookup y = some c1 := hc
      have same : c = c1 := by rw [h2, hc] <;> rfl
      rw [same]
      exact hc
  have fwd : ∀ {y}, scope.names.lookup y = some .free → ∃ c, (cloFrom X.env.cells scope.names []).lookup y = some c := fun {y} hl => mem_lookup (cloFrom_has (cells := X.env.cells) (acc := []) (PySem.mem_of_lookup hl))
  have cellK : ∀ {c : Addr} {v : Option Value}, H c = none → s.heap.IsCell c v → hp.IsCell c v := fun {c v} n ⟨o, ho, hdt⟩ => by
    obtain ⟨sl, q⟩ := un.any ho n (by simp)
    exact ⟨_, kp _ _ q, hdt⟩
  have noX : ∀ b : Addr, b ∉ (lamCx X B out t HZ E scope f d).ex := fun b z => absurd (show b ∈ ([] : List Addr) from z) (by simp)
  refine ⟨⟨e0.mod, L.kind, rfl, rfl, Nat.le_refl _, fun y z c e1 e2 => I.ok.inj y z c (back e1) (back e2), fun y hy => ?_, fun y c z _ => (by have z : false = true := z; cases z), fun _ => hd, Around.frames_deeper e0.frames, .inr ⟨rfl, rfl⟩, fun b z => absurd z (noX b), e0.bs, e0.bsz, fun b _ _ => noX b, fun b z => absurd z (noX b), e0.funs, e0.frf⟩,
    rfl, e0.bare, Un.kept kp, ⟨_, hns, fun i y v e1 e2 e3 => ?_⟩, fun y c e => ?_, e0.hok.fresh (Nat.le_refl _), fun y c e => ?_, fun q hq => absurd (show q ∈ ([] : List (Addr × Obj)) ++ [] from hq) (by simp), e0.hok.kept kp, by rw [List.length_set]; exact I.len⟩
  · have hy : scope.names.lookup y = some .cell ∨ scope.names.lookup y = some .free := hy
    rcases hy with hy | hy
    · exact absurd rfl (L.cell _ (PySem.mem_of_lookup hy))
    · exact fwd hy
  · have e1 : X.N[i]? = some y := e1
    have e3 : Vis scope y := e3
    rcases e3 with k | k | k
    · have hy : y = p := L.own _ (PySem.mem_of_lookup k) rfl
      subst hy
      have hi : i = ip := nodup_ix hN e1 hip
      subst hi
      have hlt : i < σ.length := by
        have := I.len
        have := (List.getElem?_eq_some_iff.mp e1).1
        omega
      rw [List.getElem?_set_self hlt] at e2
      cases e2
      refine ⟨u, rx, .inl ⟨k, ?_⟩⟩
      show ([(y, u)] : List (Str × Value)).reverse.lookup y = some u
      simp
    · exact absurd rfl (L.cell _ (PySem.mem_of_lookup k))
    · have hne : ip ≠ i := fun z => by
        subst z
        rw [hip] at e1
        cases e1
        rw [L.par] at k
        cases k
      rw [List.getElem?_set_ne hne] at e2
      obtain ⟨m, hn, hl⟩ := I.loc
      have hvis : Vis X.env.scope y := (L.free _ (PySem.mem_of_lookup k) rfl).elim (fun k => .inr (.inl k)) (fun k => .inr (.inr k))
      obtain ⟨w', r, q⟩ := hl i y v e1 e2 hvis
      obtain ⟨c2, h2⟩ := fwd k
      refine ⟨w', r, .inr ⟨.inr k, c2, h2, ?_⟩⟩
      have c1 := back h2
      rcases q with ⟨k', _⟩ | ⟨_, c3, e', z⟩
      · have k' : X.env.scope.names.lookup y = some .local := k'
        rcases L.free _ (PySem.mem_of_lookup k) rfl with k2 | k2 <;> rw [show X.env.scope.names.lookup y = _ from k2] at k' <;> cases k'
      · rw [c1] at e'
        cases e'
        exact cellK (I.freeC y _ c1) z
  · obtain ⟨w', z⟩ := I.cell y c (back e)
    exact ⟨w', cellK (I.freeC y c (back e)) z⟩
  · obtain ⟨v, o, ho, hdt⟩ := I.cell y c (back e)
    exact un.free c o ho (I.freeC y c (back e)) (by simp)
structure Aft (X : Cx) (H H' : Hp) (s s' : Shared) : Prop where
  os : s'.os = s.os
  bare : AllBare s'.gens
  un : Un (frs X.stack) [] H H' s.heap s'.heap
  hok : HOk X.prog X.w H' s'.heap
theorem lam_turn {B : Around} {k ip : Nat} {p : Str} {params : Arguments} {body : Expr} {scope : Scope} {f d : Addr} {pm ctv u : Value} {x : V} {tb : TE} {Q : VK} (I : Inv X pins σ H s) (L : Lam1 X.env.scope scope p) (hN : X.N.Nodup) (hip : X.N[ip]? = some p) (rx : RelV x u)
    (hf : t.heap.get? f = some (PySem.W.kla_obj "<lambda>" (X.env.qual ++ "<lambda>") params body scope (cloFrom X.env.cells scope.names []) pm d ctv)) (hcd : HZ d = some (CodeO d (X.env.qual ++ "<lambda>")))
    (hbind : ∀ (q : Str) (cl : List (Str × Addr)) (pm cv ctv u : Value), bindArgs (PySem.W.kla_fn "<lambda>" q params body scope cl pm cv ctv) ⟨[u], []⟩ = pure [(p, u)])
    (hr : Room (k + 1) B) (e0 : Env0 X.prog X.w X.K X.mg X.base B X.stack t HZ) (un : Un (frs X.stack) [] H HZ s.heap t.heap)
    (hbody : PE (lamCx X B X.stack t HZ (fun _ _ _ => False) scope f d) body tb) (ht : tb (σ.set ip (some x)) HZ Q) :
    wpAny (model X.prog X.w) B (call (.ref f) [u]) (fun v t' => ∃ w H', Aft X HZ H' t t' ∧ RelV w v ∧ Q w H') (fun _ _ => False) t := by
  obtain ⟨⟨oc, vs, tt, hoc, hdc, hvc⟩, _, _⟩ := e0.hok d _ hcd
  refine wpAny_call ?_
  have rc : codeAny (model X.prog X.w) B (.call (.ref f) ⟨[u], []⟩) (CR (L2.CX X.prog X.w) X.stack X.prog X.w HZ t Q (fun _ _ _ => False)) t := by
    refine PySem.W.kla_callFunE hr.depth hf rfl L.co L.gen rfl ⟨d, oc, vs, tt, rfl, hoc, hdc, hvc⟩ ?_
    rw [hbind]
    refine wpAny_pure (wpAny_newFunctionEnv (fun y hy => L.cell y hy) (fun y hy => ?_) (fun hp hns hsb => ⟨?_, ?_⟩) L.kind)
    · rw [List.mem_singleton.mp hy]; exact L.par
    · exact (e0.mod.nolimit.keeps fun b o e => (e0.bs b o e).1).fresh _ hsb
    show codeAny _ _ (.expr body (lamEnv X scope t.heap.objs.size f d)) _ _
    have kp : ∀ b o, t.heap.get? b = some o → hp.get? b = some o := fun b o e => hsb.extBut b o (Nat.ne_of_lt (Heap.lt_size e)) (Heap.get?_push_of_some _ e)
    have J := lam_start1 (E := fun _ _ _ => False) (f := f) (d := d) (tk := t.toks + ([(p, u)] : List (Str × Value)).length) I L hN hip rx e0 hr.hd un hns kp
    refine PySem.W.kla_codeExpr (wpAny_mono (hbody.run [] _ _ HZ Q J ht) (fun v s' hq => ?_) fun e s' hq => hq)
    obtain ⟨w', H', J', rv, q⟩ := hq
    exact ⟨w', H', J'.os, J'.bare, J'.base, J'.hok, rv, q⟩
  refine codeAny_mono rc fun r s' hq => ?_
  cases r with
  | error e =>
    obtain ⟨_, _, _, _, _, _, _, _, _, _, _, _, z⟩ := hq
    exact z.elim
  | ok fl =>
    cases fl with
    | ret v =>
      obtain ⟨w, H', h1, h2, h3, h4, h5, h6⟩ := hq
      exact ⟨w, H', ⟨h1, h2, h3, h4⟩, h5, h6⟩
    | next => exact False.elim hq
    | brk => exact False.elim hq
    | cont => exact False.elim hq
end
section
variable {P : Program} {w : World} {fs : List Addr} {H0 Hc H' : Hp} {h0 hc h' : Heap}
theorem un_out (ok : HOk P w H0 h0) (u : Un fs [] H0 Hc h0 hc) (e : ∀ b, b < h0.objs.size → H' b = Hc b) (k : ∀ b o, b < h0.objs.size → hc.get? b = some o → h'.get? b = some o) : Un fs [] H0 H' h0 h' where
  keep := fun b o q n hb hx => k b o (Heap.lt_size q) (u.keep b o q n hb hx)
  slot := fun b o q n hb hx => by
    obtain ⟨sl, z⟩ := u.slot b o q n hb hx
    exact ⟨sl, k b _ (Heap.lt_size q) z⟩
  free := fun b o q n hx => by rw [e b (Heap.lt_size q)]; exact u.free b o q n hx
  there := fun b o q hx => by
    obtain ⟨o', z⟩ := u.there b o q hx
    exact ⟨o', k b _ (Heap.lt_size q) z⟩
  tups := fun b xs q => by rw [e b (ok b _ q).lt]; exact u.tups b xs q
  frzs := fun b o v q => by rw [e b (ok b _ q).lt]; exact u.frzs b o v q
  tbls := fun b ps q => by rw [e b (ok b _ q).lt]; exact u.tbls b ps q
end
theorem Tabs.stay {T : List (Addr × Str)} {H H' : Hp} (t : Tabs T H) (k : ∀ b o, H b = some o → ¬ okO o → H' b = some o) : Tabs T H' := fun z hz => by
  obtain ⟨ps, h1, h2, h3⟩ := t z hz
  refine ⟨ps, k _ _ h1 (fun o => o.1 ps rfl), h2, fun pos cv hc => ?_⟩
  obtain ⟨c, e1, e2⟩ := h3 pos cv hc
  exact ⟨c, e1, k _ _ e2 fun o => o.2 _ rfl⟩
theorem Rep.made {K : PySem.W.Frag} {G H H1 F : Hp} {m : M} (r : Rep K G H F m) (e : ExtN H H1) (t : Tabs (tblsOf K) H1) : Rep K G H1 F m where
  ext := fun b o q => e b o (r.ext b o q) (r.gt b o q)
  frm := fun b o q => e b o (r.frm b o q) (r.ft b o q).1
  dis := r.dis
  mo := fun b o q => by
    obtain ⟨h1, h2, u, h3, h4⟩ := r.mo b o q
    exact ⟨h1, h2, u, e b u h3 h4.okO.1, h4⟩
  tb := t
  gt := r.gt
  ft := r.ft
theorem vals_at : ∀ {xs : List V} {us : List Value}, Vals xs us → ∀ {j : Nat} {u : Value}, us[j]? = some u → ∃ x, xs[j]? = some x ∧ RelV x u
  | _, _, .nil, _, _, h => by cases h
  | _, _, .cons r t, 0, _, h => by cases h; exact ⟨_, rfl, r⟩
  | _, _, .cons r t, j + 1, _, h => vals_at t h
theorem vals_len : ∀ {xs : List V} {us : List Value}, Vals xs us → xs.length = us.length
  | _, _, .nil => rfl
  | _, _, .cons _ t => congrArg Nat.succ (vals_len t)
theorem vals_snoc : ∀ {xs : List V} {us : List Value} {x : V} {u : Value}, Vals xs us → RelV x u → Vals (xs ++ [x]) (us ++ [u])
  | _, _, _, _, .nil, r => .cons r .nil
  | _, _, _, _, .cons r t, r2 => .cons r (vals_snoc t r2)
theorem rps_snoc {K : PySem.W.Frag} {G : Hp} : ∀ {ds : List D} {vs : List V} {d : D} {v : V}, Rps K G ds vs → Rp K G d v → Rps K G (ds ++ [d]) (vs ++ [v])
  | _, _, _, _, .nil, r => .cons r .nil
  | _, _, _, _, .cons r t, r2 => .cons r (rps_snoc t r2)
theorem each_reads {X : Cx} {pins : List (Addr × Obj)} {σ : L2.St} {G H : Hp} {s : Shared} (I : Inv X pins σ H s) (e : Same G H) : ∀ {ks : List D} {vs : List V} {us : List Value} {ps : List PyData}, Rps X.K G ks vs → Vals vs us → toPs ks = some ps → PySem.W.EachIs (fun v k => ∃ as, Reads s.heap v k as) us ps
  | [], _, _, _, .nil, .nil, h => by cases h; exact .nil
  | k :: ks, _, _, _, .cons a b, .cons r t, h => by
    rw [toPs] at h
    cases q : toP k with
    | none => rw [q] at h; cases h
    | some p =>
      cases q2 : toPs ks with
      | none => rw [q, q2] at h; cases h
      | some ps =>
        rw [q, q2] at h
        cases h
        exact .cons (Dp.reads I p _ _ (Dp.same e (dp_of k p _ q a)) r) (each_reads I e b t q2)
end DL

set_option Elab.async false
set_option linter.all false
set_option maxRecDepth 100000
set_option maxHeartbeats 4000000
namespace DL
open PySem PySem.Spec PySem.W PyProof.Rows L2 LamX
theorem each_zip {K : PySem.W.Frag} {G0 G : Hp} (sg : Same G0 G) : ∀ {ds : List D} {xs : List V} {its : List Value}, Rps K G0 ds xs → Vals xs its → EachIs (fun (v : Value) (b : D × V) => RelV b.2 v ∧ Rp K G b.1 b.2) its (ds.zip xs)
  | _, _, _, .nil, .nil => .nil
  | _, _, _, .cons a b, .cons r t => .cons ⟨r, a.mono sg⟩ (each_zip sg b t)
theorem lam_sort {X : Cx} {pins : List (Addr × Obj)} {σ : L2.St} {H0 G0 F : Hp} {s0 : Shared} {r : DSt} {m : M} {k ip : Nat} {p : Str} {params : Arguments} {body : Expr} {scope : Scope} {f d l : Addr} {pm ctv : Value} {te : DTE} {ds : List D} {xs : List V} {key : D → D} {kp : D → PyData} {Q : Value → Shared → Prop}
    (I : Inv X pins σ H0 s0) (L : Lam1 X.env.scope scope p) (hN : X.N.Nodup) (hip : X.N[ip]? = some p) (hf : s0.heap.get? f = some (kla_obj "<lambda>" (X.env.qual ++ "<lambda>") params body scope (cloFrom X.env.cells scope.names []) pm d ctv)) (hfn : H0 f = none) (hfr : f ∉ frs X.stack) (hcd : H0 d = some (CodeO d (X.env.qual ++ "<lambda>")))
    (hbind : ∀ (q : Str) (cl : List (Str × Addr)) (pm cv ctv u : Value), bindArgs (kla_fn "<lambda>" q params body scope cl pm cv ctv) ⟨[u], []⟩ = pure [(p, u)]) (hr : Room (k + 3) X.A)
    (hbody : ∀ (B : Around) (t : Shared) (HZ : Hp), Room k (B.deeper (lamEnv X scope t.heap.objs.size f d)) → PE (lamCx X B X.stack t HZ (fun _ _ _ => False) scope f d) body (up X.K W0 WD0 te))
    (rep : Rep X.K G0 H0 F m) (rs : Rs X.K G0 r σ) (hl : SqL X.K H0 l xs) (rx : Rps X.K G0 ds xs) (hkey : ∀ x ∈ ds, ∀ Q' : D → M → Prop, Q' (key x) m → te (r.set ip (some x)) m Q')
    (hp : toPs (ds.map key) = some (ds.map kp)) (hal : AllAlike (ds.map kp)) (hsk : Sortable (ds.map kp)) (hdep : ∀ x ∈ ds, (kp x).depth ≤ 60)
    (fin : ∀ (a : Addr) (G' H' : Hp) (t' : Shared) (outV : List V), F a = none → Same G0 G' → Rep X.K G' H' (upd F a (.lst outV)) m → Rps X.K G' (ds.mergeSort (dataLe false kp)) outV → Inv X pins σ H' t' → Q (.ref a) t') :
    wpAny (model X.prog X.w) X.A (call (.builtin "sorted") [.ref l] [(Str.ofString "key", .ref f)]) Q X.xe s0 := by
  obtain ⟨G1, sg1, rep, hGd⟩ := rep.knowC hcd
  replace rs := rs.mono sg1
  replace rx := rx.mono sg1
  replace fin : ∀ (a : Addr) (G' H' : Hp) (t' : Shared) (outV : List V), F a = none → Same G1 G' → Rep X.K G' H' (upd F a (.lst outV)) m → Rps X.K G' (ds.mergeSort (dataLe false kp)) outV → Inv X pins σ H' t' → Q (.ref a) t' := fun a G' H' t' outV h1 h2 => fin a G' H' t' outV h1 (sg1.trans h2)
  clear sg1
  obtain ⟨its, rv, pl, hz⟩ := I.list hl
  have li : its.length = ds.length := by rw [← vals_len rv, ← rx.length]
  refine sorted_of_sort pl.isList (by rw [← vals_len rv]; exact hz) (ksk_s1 _ _) (fun x => ksk_l1 _ _) fun E' => ?_
  rw [ksk_t1]
  have ca := copyHeap_at s0.heap its
  obtain ⟨e1, ho1⟩ : ∃ e1, ((copyHeap s0.heap its).update (s0.heap.objs.size + 1) (Obj.mapSeq fun _ => (#[] : Array Value))).get? (s0.heap.objs.size + 1) = some (seqObj "list" #[] e1) := ⟨_, get?_update_seq ca fun _ => #[]⟩
  unfold ksk_tree
  refine wpAny_bind (listItems_at ca rfl (wpAny_bind (listUpdate_at ca rfl (wpAny_bind (seqEpoch_at ho1 rfl (wpAny_bind (wpAny_newTuple (wpAny_bind (wpAny_newList (wpAny_holding ?_) (Nat.zero_le _))) (by show its.length ≤ _; rw [← vals_len rv]; exact hz))))) (by rw [List.size_toArray, ← vals_len rv]; exact hz) (Nat.zero_le _))))
  have hkS : (((copyHeap s0.heap its).update (s0.heap.objs.size + 1) (Obj.mapSeq fun _ => (#[] : Array Value))).push (seqObj "tuple" its.toArray 0)).objs.size = s0.heap.objs.size + 3 := by
    rw [size_push', Heap.size_update]
    unfold copyHeap
    rw [size_push', Heap.size_update, size_push']
  have old : ∀ b o, s0.heap.get? b = some o → (sortingHeap (copyHeap s0.heap its) (s0.heap.objs.size + 1) its).get? b = some o := fun b o e => sortingHeap_old (Nat.ne_of_lt (Nat.lt_succ_of_lt (Heap.lt_size e))) (copyHeap_old e)
  have na : (sortingHeap (copyHeap s0.heap its) (s0.heap.objs.size + 1) its).get? (s0.heap.objs.size + 1) = some (seqObj "list" #[] e1) := Heap.get?_push_of_some _ (Heap.get?_push_of_some _ ho1)
  have nk : (sortingHeap (copyHeap s0.heap its) (s0.heap.objs.size + 1) its).get? (((copyHeap s0.heap its).update (s0.heap.objs.size + 1) (Obj.mapSeq fun _ => (#[] : Array Value))).push (seqObj "tuple" its.toArray 0)).objs.size = some (seqObj "list" #[] 0) := Heap.get?_push_size _ rfl
  show wpAny _ _ (ksk_rest _ _ _ _ _ _) _ _ { s0 with heap := sortingHeap (copyHeap s0.heap its) (s0.heap.objs.size + 1) its }
  generalize hS : sortingHeap (copyHeap s0.heap its) (s0.heap.objs.size + 1) its = hpS at *
  rw [hkS] at *
  generalize hsa : s0.heap.objs.size + 1 = a at *
  generalize hsk2 : s0.heap.objs.size + 3 = kS at *
  clear hS ho1 ca
  have ga : s0.heap.objs.size ≤ a := by omega
  have gk : s0.heap.objs.size ≤ kS := by omega
  have nka : kS ≠ a := by omega
  have Ha : H0 a = none := I.hok.fresh ga
  have Hk : H0 kS = none := I.hok.fresh gk
  obtain ⟨JJ, hJ⟩ : ∃ JJ : Nat → Shared → Prop, ∀ i t, JJ i t ↔ ∃ (G Hc : Hp) (kv : List V), t.os = s0.os ∧ AllBare t.gens ∧ Un (frs X.stack) [] H0 Hc s0.heap t.heap ∧ HOk X.prog X.w Hc t.heap ∧ Same G1 G ∧ Rep X.K G Hc (upd (upd F a (.frz (seqObj "list" #[] e1) (.lst []))) kS (.lst kv)) m ∧ Rps X.K G ((ds.take i).map key) kv := ⟨_, fun _ _ => Iff.rfl⟩
  have ltn : ∀ b, b < s0.heap.objs.size → b ≠ a ∧ b ≠ kS := fun b hb => ⟨by omega, by omega⟩
  have start : JJ 0 { s0 with heap := hpS } := by
    have rep2 := (rep.hide (o := .frz (seqObj "list" #[] e1) (.lst [])) Ha).hide (p := kS) (o := .lst []) (by rw [upd_ne nka]; exact Hk)
    refine (hJ _ _).mpr ⟨G1, _, [], rfl, I.bare, un_out I.hok Un.refl (fun b hb => ?_) (fun b o _ e => old b o e), ?_, Same.refl G1, rep2, .nil⟩
    · rw [upd_ne (ltn b hb).2, upd_ne (ltn b hb).1]
    · intro b o e
      by_cases hb : b = kS
      · subst hb
        rw [upd_same] at e
        cases e
        exact ⟨Nat.zero_le _, [], 0, .nil, nk⟩
      · rw [upd_ne hb] at e
        by_cases hb2 : b = a
        · subst hb2
          rw [upd_same] at e
          cases e
          exact ⟨na, Nat.zero_le _, [], e1, .nil, na⟩
        · rw [upd_ne hb2] at e
          refine (I.hok b o e).stay (fun c v _ q => old c v q) (fun c q => ?_) fun c ys q => ?_
          · rw [upd_ne (ne_of_none q Hk), upd_ne (ne_of_none q Ha)]; exact q
          · rw [upd_ne (ne_of_none q Hk), upd_ne (ne_of_none q Ha)]; exact q
  have inv_of : ∀ {Hc : Hp} {t : Shared}, t.os = s0.os → AllBare t.gens → Un (frs X.stack) [] H0 Hc s0.heap t.heap → HOk X.prog X.w Hc t.heap → Inv X pins σ Hc t := fun {Hc t} h1 h2 h3 h4 => I.call' h1 h3 h4 h2 (fun b hb => nomatch hb)
  unfold ksk_rest
  refine wpAny_bind (wpAny_rule ?_)
  rw [List.forIn_toArray]
  refine wpAny_bind (ksk_fold JJ its 0 _ start ?step ?done)
  case step =>
    intro j u t hu hj
    rw [Nat.zero_add] at *
    obtain ⟨G, Hc, kv, os, bare, un, hok, sg, rp, rk⟩ := (hJ _ _).mp hj
    have It := inv_of os bare un hok
    obtain ⟨x, hx, rxu⟩ := vals_at rv hu
    obtain ⟨dj, hdj, rdj⟩ : ∃ dj, ds[j]? = some dj ∧ Rp X.K G1 dj x := by
      obtain ⟨dj, hdj⟩ : ∃ dj, ds[j]? = some dj := ⟨_, List.getElem?_eq_getElem (by rw [← li]; exact (List.getElem?_eq_some_iff.mp hu).1)⟩
      obtain ⟨v, h1, h2⟩ := rx.get hdj
      rw [hx] at h1
      cases h1
      exact ⟨dj, hdj, h2⟩
    have hdm : dj ∈ ds := List.mem_of_getElem? hdj
    have hf' := un.keep f _ hf hfn hfr (by simp)
    have hcd' : Hc d = some (CodeO d (X.env.qual ++ "<lambda>")) := rp.ext d _ (sg d _ hGd)
    have e0 : Env0 X.prog X.w X.K X.mg X.base X.A.in1.in1 X.stack t Hc := ⟨It.env0.frames, It.env0.mod, It.env0.bs, It.env0.bsz, It.env0.funs, It.env0.frf, hok, bare⟩
    have turn := lam_turn (B := X.A.in1.in1) (k := k) (Q := fun v H' => ∃ G', Same G G' ∧ Rep X.K G' H' (upd (upd F a (.frz (seqObj "list" #[] e1) (.lst []))) kS (.lst kv)) m ∧ Rp X.K G' (key dj) v) It L hN hip rxu hf' hcd' hbind (hr.in1.in1) e0 Un.refl (hbody _ t Hc ((hr.in1.in1).deeper _))
      ⟨G, _, r.set ip (some dj), m, fun y m' => y = key dj ∧ m' = m, ⟨rp, (rs.mono sg).set (rdj.mono sg), Lx.no⟩, hkey dj hdm _ ⟨rfl, rfl⟩, fun G' H' m' y v e r' q ⟨h1, h2⟩ => ⟨G', e, by rw [← h2]; exact r', by rw [← h1]; exact q⟩⟩
    refine wpAny_bind (wpAny_attempt (wpAny_mono turn (fun v t' he => ?_) fun _ _ hF => hF.elim))
    obtain ⟨w', H', af, rw', G', sg', rp', rk'⟩ := he
    have hk1 := rp'.frm kS _ upd_same
    obtain ⟨z, ks, n, vk, ek⟩ := af.hok kS _ hk1
    have hlen : kv.length = j := by
      rw [← rk.length, List.length_map, List.length_take]
      have := (List.getElem?_eq_some_iff.mp hdj).1
      omega
    have hlv := vals_len vk
    have hjl : j < its.length := (List.getElem?_eq_some_iff.mp hu).1
    have hits : its.length ≤ sizeLine := by rw [← vals_len rv]; exact hz
    have s1 := Heap.SameBut.update t'.heap kS (Obj.mapSeq (·.push v))
    obtain ⟨c2, hc2⟩ : ∃ c2, (t'.heap.update kS (Obj.mapSeq (·.push v))).get? kS = some (seqObj "list" (ks.toArray.push v) c2) := ⟨_, get?_update_seq ek (·.push v)⟩
    try dsimp only
    refine wpAny_bind (listUpdate_at ek rfl ?_ (by rw [List.size_toArray]; omega) (by rw [Array.size_push, List.size_toArray]; omega))
    refine wpAny_pure ⟨rfl, (hJ _ _).mpr ⟨G', upd H' kS (.lst (kv ++ [w'])), kv ++ [w'], af.os.trans os, af.bare, ?_, ?_, sg.trans sg', rp'.turn, ?_⟩⟩
    · refine un_out I.hok (un.trans af.un) (fun b hb => by rw [upd_ne (ltn b hb).2]) (fun b o hb e => (s1.2 b (ltn b hb).2).trans e)
    · refine af.hok.write (x := kS) (e := kS) (by rw [hk1]; trivial) (.inl rfl) (fun b o hb e => (s1.2 b hb).trans e) ⟨_, hc2⟩ ⟨by rw [List.length_append]; simp; omega, ks ++ [v], c2, vals_snoc vk rw', ?_⟩
      rw [hc2]
      simp [seqObj]
    · have et : ds.take (j + 1) = ds.take j ++ [dj] := by rw [List.take_add_one, hdj]; rfl
      rw [et, List.map_append]
      exact rps_snoc (rk.mono sg') rk'
  case done =>
    intro t ht
    obtain ⟨G, Hc, kv, os, bare, un, hok, sg, rp, rk⟩ := (hJ _ _).mp ht
    rw [Nat.zero_add, List.take_of_length_le (by omega)] at rk
    have It := inv_of os bare un hok
    have hk1 := rp.frm kS _ upd_same
    have ha1 : Hc a = some (.frz (seqObj "list" #[] e1) (.lst [])) := rp.frm a _ (by rw [upd_ne nka.symm, upd_same])
    obtain ⟨z, ks, n, vk, ek⟩ := hok kS _ hk1
    have hna := (hok a _ ha1).1
    have hlk : ks.length = its.length := by rw [← vals_len vk, ← rk.length, List.length_map, li]
    have each := each_reads It rp.ext rk vk hp
    try dsimp only
    refine wpAny_bind (listItems_at ek rfl ?_)
    have hu : ∀ y, y ∈ ds.map kp → X.A.in1.in1.units + y.depth < cLine := fun y hy => by
      obtain ⟨x, hx, rfl⟩ := List.mem_map.mp hy
      have := hdep x hx
      have := hr.in1.in1.units
      omega
    refine keyH_end (κ := dataKind t.heap (ds.map kp)) (h₁ := hideAll t.heap [kS]) (fun b o _ e => of_hideAll _ e) (hideAll_none _ (by simp)) ek hna nka (SortsAt.data (s := t) each hal hsk hu) (by rw [List.size_toArray]; exact hlk) (by rw [← vals_len rv]; exact hz) fun h' tk c kb hD => ⟨rfl, ?_⟩
    have kept : ∀ b o, b ≠ a → b ≠ kS → t.heap.get? b = some o → h'.get? b = some o := fun b o h1 h2 e => kb b o h1 (hideAll_get _ e (by simpa using h2))
    have ezip : (ds.zip xs).map (fun b => kp b.1) = ds.map kp := by
      have e : (ds.zip xs).map Prod.fst = ds := List.map_fst_zip (by rw [rx.length]; exact Nat.le_refl _)
      conv => rhs; rw [← e, List.map_map]
      rfl
    have ko : KeyedOut false ((ds.zip xs).map fun b => kp b.1) its (sortVals (dataKind t.heap (ds.map kp)) false ks its) := by
      rw [ezip]
      exact ⟨t.heap, ks, hal, by simp, each⟩
    have eb : EachIs (fun (v : Value) (b : D × V) => RelV b.2 v ∧ Rp X.K G b.1 b.2) its (ds.zip xs) := by
      exact each_zip sg rx rv
    have eo := keyedOut_each (fun b : D × V => kp b.1) ko eb
    obtain ⟨bs, hbs⟩ : ∃ bs, bs = (ds.zip xs).mergeSort (dataLe false fun b : D × V => kp b.1) := ⟨_, rfl⟩
    rw [← hbs] at eo
    have esort : bs.map (·.1) = ds.mergeSort (dataLe false kp) := by
      have e : (ds.zip xs).map Prod.fst = ds := List.map_fst_zip (by rw [rx.length]; exact Nat.le_refl _)
      have e2 := List.map_mergeSort (r := dataLe false fun b : D × V => kp b.1) (s := dataLe false kp) (f := Prod.fst) (l := ds.zip xs) (fun a _ b _ => rfl)
      rw [e] at e2
      rw [hbs]
      exact e2
    obtain ⟨outU, hoU⟩ : ∃ outU, outU = sortVals (dataKind t.heap (ds.map kp)) false ks its := ⟨_, rfl⟩
    rw [← hoU] at eo
    have hD : h'.get? a = some (seqObj "list" outU.toArray c) := by rw [hoU]; simpa using hD
    have vo : Vals (bs.map (·.2)) outU ∧ Rps X.K G (bs.map (·.1)) (bs.map (·.2)) := by
      clear hbs esort hoU hD
      induction eo with
      | nil => exact ⟨.nil, .nil⟩
      | cons r _ ih => exact ⟨.cons r.1 ih.1, .cons r.2 ih.2⟩
    rw [esort] at vo
    have lo : (bs.map (·.2)).length ≤ sizeLine := by
      rw [List.length_map, hbs, List.length_mergeSort, List.length_zip, rx.length]
      omega
    generalize bs.map (·.2) = outV at *
    have repF : Rep X.K G Hc F m := by
      have r1 := rp.show (p := kS) (by rw [upd_ne nka]; exact rep.frm.free Hk)
      exact r1.show (p := a) (rep.frm.free Ha)
    have Ga : G a = none := rp.dis a _ (by rw [upd_ne nka.symm, upd_same])
    have Gk : G kS = none := rp.dis kS _ upd_same
    have Fa : F a = none := rep.frm.free Ha
    have Fk : F kS = none := rep.frm.free Hk
    have mne : ∀ b o, m b = some o → b ≠ a ∧ b ≠ kS := fun b o e => by
      obtain ⟨_, _, u, h3, _⟩ := rep.mo b o e
      exact ⟨ne_of_none h3 Ha, ne_of_none h3 Hk⟩
    obtain ⟨Hf, hHf⟩ : ∃ Hf : Hp, ∀ b, Hf b = if b = kS then none else if b = a then some (.lst outV) else Hc b := ⟨fun b => if b = kS then none else if b = a then some (.lst outV) else Hc b, fun _ => rfl⟩
    have hfa : Hf a = some (.lst outV) := by rw [hHf, if_neg nka.symm, if_pos rfl]
    have hfo : ∀ b, b ≠ a → b ≠ kS → Hf b = Hc b := fun b h1 h2 => by rw [hHf, if_neg h2, if_neg h1]
    have own_ne : ∀ b x, Hc b = some (.own x) → b ≠ a ∧ b ≠ kS := fun b x e => ⟨fun z => (by rw [z, ha1] at e; cases e), fun z => (by rw [z, hk1] at e; cases e)⟩
    have tup_ne : ∀ b ys, Hc b = some (.tup ys) → b ≠ a ∧ b ≠ kS := fun b x e => ⟨fun z => (by rw [z, ha1] at e; cases e), fun z => (by rw [z, hk1] at e; cases e)⟩
    have hokf : HOk X.prog X.w Hf h' := by
      intro b o e
      by_cases hb : b = kS
      · subst hb; rw [hHf, if_pos rfl] at e; cases e
      · by_cases hb2 : b = a
        · subst hb2
          rw [hfa] at e
          cases e
          exact ⟨lo, outU, c, vo.1, hD⟩
        · rw [hfo b hb2 hb] at e
          refine (hok b o e).stay (fun c v hc q => ?_) (fun c q => by rw [hfo c (own_ne c b q).1 (own_ne c b q).2]; exact q) fun c ys q => by rw [hfo c (tup_ne c ys q).1 (tup_ne c ys q).2]; exact q
          rcases hc with rfl | hc
          · exact kept _ v hb2 hb q
          · exact kept c v (own_ne c b hc).1 (own_ne c b hc).2 q
    refine fin a G Hf _ outV Fa sg ⟨fun b o e => ?_, fun b o e => ?_, fun b o e => ?_, fun b o e => ?_, ?_, rp.gt, nt_upd rep.ft ⟨fun _ e => (by cases e), fun _ e => (by cases e), fun _ e => (by cases e)⟩⟩ vo.2 (inv_of (t := { t with heap := h', toks := tk }) os bare (un_out I.hok un (fun b hb => hfo b (ltn b hb).1 (ltn b hb).2) fun b o hb e => kept b o (ltn b hb).1 (ltn b hb).2 e) hokf)
    · rw [hfo b (fun z => by rw [z, Ga] at e; cases e) (fun z => by rw [z, Gk] at e; cases e)]
      exact rp.ext b o e
    · by_cases hb : b = a
      · subst hb; rw [upd_same] at e; cases e; exact hfa
      · rw [upd_ne hb] at e
        rw [hfo b hb (fun z => by rw [z, Fk] at e; cases e)]
        exact repF.frm b o e
    · by_cases hb : b = a
      · subst hb; exact Ga
      · rw [upd_ne hb] at e; exact repF.dis b o e
    · obtain ⟨h1, h2, u, h3, h4⟩ := repF.mo b o e
      have hb := mne b o e
      exact ⟨h1, by rw [upd_ne hb.1]; exact h2, u, by rw [hfo b hb.1 hb.2]; exact h3, h4⟩
    · refine Tabs.stay rp.tb fun b o e ho => ?_
      rw [hfo b (fun z => ?_) (fun z => ?_)]
      · exact e
      · rw [z, ha1] at e
        cases e
        exact ho ⟨fun _ e => (by cases e), fun _ e => (by cases e)⟩
      · rw [z, hk1] at e
        cases e
        exact ho ⟨fun _ e => (by cases e), fun _ e => (by cases e)⟩
end DL

set_option Elab.async false
set_option linter.all false
set_option maxRecDepth 100000
set_option maxHeartbeats 4000000
namespace DL
open PySem PySem.Spec PySem.W PyProof.Rows L2 LamX
def dSortK (mt : Bool) (tl : DTE) (ip : Nat) (te : DTE) : DTE := fun r m Q => tl r m fun d m1 => ∃ (ds : List D) (key : D → D) (kp : D → PyData), lsOf m1 d = some ds ∧ (∀ x ∈ ds, ∀ Q' : D → M → Prop, Q' (key x) m1 → te (r.set ip (some x)) m1 Q') ∧
  toPs (ds.map key) = some (ds.map kp) ∧ AllAlike (ds.map kp) ∧ Sortable (ds.map kp) ∧ (∀ x ∈ ds, (kp x).depth ≤ 60) ∧ mkL mt (ds.mergeSort (dataLe false kp)) m1 Q
theorem de_sortK (mt : Bool) {X : Cx} {W : WX} {WD : DWX} {k ip : Nat} {p : Str} {e body : Expr} {params : Arguments} {scope : Scope} {c Pt : Addr} {tl te : DTE} {pf lpos kpos pos : Pos} (hr : Room (k + 3) X.A) (hg : Gl X "sorted") (hm : X.mg "sorted" = none) (hv : bootBuiltins "sorted" = some (.builtin "sorted"))
    (he : DE X W WD e tl) (L : Lam1 X.env.scope scope p) (hN : X.N.Nodup) (hip : X.N[ip]? = some p) (TB : TabBs X.K X.mg X.base) (hx : (c, Pt, X.env.qual ++ "<lambda>") ∈ tbls3 X.K) (hcode : X.env.code = .ref c) (hdef : defaultsOf params X.env = ([], []))
    (hbind : ∀ (q : Str) (cl : List (Str × Addr)) (pm cv ctv u : Value), bindArgs (kla_fn "<lambda>" q params body scope cl pm cv ctv) ⟨[u], []⟩ = pure [(p, u)])
    (hb : ∀ (B : Around) (t : Shared) (HZ : Hp) (f d : Addr), DE (lamCx X B X.stack t HZ (fun _ _ _ => False) scope f d) W0 WD0 body te)
    (hea : backTo pos (starEach [e] X.env) = (false, eval e X.env) :: backTo pos (starEach [] X.env) := by rfl) (hpl : (backTo pos (starEach [e] X.env)).any (·.1) = false := by rfl)
    (hall : (backToKw pos (keywordEach [⟨some "key", .Lambda params body scope lpos, kpos⟩] X.env)).all (·.1.isSome) = true := by rfl) (hnone : (backToKw pos (keywordEach [⟨some "key", .Lambda params body scope lpos, kpos⟩] X.env)).any (·.1.isNone) = false := by rfl) :
    DE X W WD (.Call (.Name "sorted" pf) [e] [⟨some "key", .Lambda params body scope lpos, kpos⟩] pos) (dSortK mt tl ip te) := by
  refine ⟨fun pins s σ H Q I h => ?_⟩
  obtain ⟨G, F, r, m, QD, x, t, kk⟩ := h
  refine wpAny_Call_Name_kw (ld_blt I hg hm hv ?_ (by decide) (by decide))
  refine PyProof.Rows.callWith_kw ?_ hea hpl hall hnone
  rw [hea]
  have run1 := he.run pins s σ H (fun v H1 => ∃ (G1 : Hp) (m1 : M) (d : D), Same G G1 ∧ Rep X.K G1 H1 F m1 ∧ Rp X.K G1 d v ∧ ∃ (ds : List D) (key : D → D) (kp : D → PyData), lsOf m1 d = some ds ∧ (∀ x ∈ ds, ∀ Q' : D → M → Prop, Q' (key x) m1 → te (r.set ip (some x)) m1 Q') ∧
    toPs (ds.map key) = some (ds.map kp) ∧ AllAlike (ds.map kp) ∧ Sortable (ds.map kp) ∧ (∀ x ∈ ds, (kp x).depth ≤ 60) ∧ mkL mt (ds.mergeSort (dataLe false kp)) m1 QD) I ⟨G, F, r, m, _, x, t, fun G1 H1 m1 d v e1 r1 p1 t1 => ⟨G1, m1, d, e1, r1, p1, t1⟩⟩
  refine Calls.spliced_cons (thn run1 fun u s1 ⟨v, H1, I1, rv, G1, m1, d, e1, rep1, p1, t1⟩ => ?_)
  refine Calls.spliced_nil ?_
  obtain ⟨ds, key, kp, hls, hkey, hp, hal, hsk, hdep, t2⟩ := t1
  obtain ⟨l, xs, rfl, hl, rx⟩ := ls_ok rep1 p1 hls
  obtain rfl : u = Value.ref l := rv
  show wpAny _ _ (evalAll ((do let v ← eval (.Lambda params body scope lpos) X.env; standAt pos; pure v) :: [])) _ _ s1
  have hmT : (Pt, X.env.qual ++ "<lambda>") ∈ tblsOf X.K := List.mem_map.mpr ⟨_, hx, rfl⟩
  refine wpAny_evalAll_cons (wpAny_bind (lam_make2 I1 (TB.tb _ hx) hcode hmT (fun q hq e => ?_) rep1.tb hdef (L.has I1.ok) fun f c' pm ctv H2 s2 I2 eN T2 hf hfn hfr hco => wpAny_bind (wpAny_standAt (wpAny_pure (wpAny_evalAll_nil ?_)))))
  · obtain ⟨y, hy, rfl⟩ := List.mem_map.mp hq
    exact TB.one y hy _ hx e
  · have rep2 := rep1.made eN T2
    obtain ⟨l2, xs2, e2, hl2, rx2⟩ := ls_ok rep2 p1 hls
    cases e2
    refine lam_sort I2 L hN hip hf hfn hfr hco hbind hr (fun B t HZ _ => hb B t HZ f c') rep2 (x.rs.mono e1) hl2 rx2 hkey hp hal hsk hdep fun a G3 H3 s3 outV hF sg rep3 ro I3 => ?_
    cases mt with
    | false =>
      obtain ⟨sm, rep4, p4⟩ := rep3.outL hF ro
      exact ⟨V.ref a, H3, I3, rfl, kk _ H3 m1 _ _ ((e1.trans sg).trans sm) rep4 p4 t2⟩
    | true =>
      obtain ⟨mp, rep4⟩ := rep3.outM hF ro
      exact ⟨V.ref a, H3, I3, rfl, kk _ H3 _ _ _ (e1.trans sg) rep4 (.ref a) (t2 a mp)⟩
section
variable {P : Program} {w : World} {K : Fr0} {mg : Str → Option Value} {base : Heap} {x qual : Str} {params : Arguments} {body : List Stmt} {scope : Scope} {dvs : List V} {kws : List (Str × V)} {f : Addr} {fd : FuncData}
theorem tab_code {oc dV kV doc pm cdv ct : Value} {od an : Option Addr} {osl : Array (Option Value)} (lk : K.lookup f = some ⟨oc, od, .func (fnOf x qual params body scope dV kV doc pm an cdv ct), osl⟩) {c Pt : Addr} (h : tabAt K f qual = some (c, Pt)) : cdv = .ref c := by
  unfold tabAt at h
  rw [lk] at h
  dsimp only at h
  rw [if_pos rfl] at h
  cases cdv with
  | ref c' =>
    dsimp only at h
    split at h
    · split at h
      · cases h; rfl
      · cases h
    · cases h
  | _ => cases h
theorem fn_dL {N ps : List Str} {k : Nat} {sp : DSp} {c Pt : Addr} (F : FunD K x qual params body scope dvs kws f fd) (hc : tabAt K f qual = some (c, Pt)) (S : FnScope N ps scope) (len : ∀ ds m Q E, sp ds m Q E → ds.length = ps.length) (t : DWX → DTS)
    (hb : ∀ (A : Around) (outer : List Env) (s : Shared) (H : Hp) (E : XK) (WD : DWX), Room k (A.deeper (envOfC qual scope s.heap.objs.size f (.ref c))) → Takes (CXo P w K mg base N qual scope f (.ref c) A outer s H E) (WE0 E) →
      PassesOwn (model P w) (CXo P w K mg base N qual scope f (.ref c) A outer s H E).A (CXo P w K mg base N qual scope f (.ref c) A outer s H E).env (CXo P w K mg base N qual scope f (.ref c) A outer s H E).xe → DSs (CXo P w K mg base N qual scope f (.ref c) A outer s H E) (WE0 E) WD body (t WD))
    (pure_ : ∀ ds m Q E, sp ds m Q E → t (fun x _ m => E x m) { nx := fun _ m => Q .non m, rt := Q } (startD N ds) m) : FnOk P w K mg base (L2.CX P w) (k + 1) f fd ps (liftSp K sp) := by
  obtain ⟨c1, c2, c3, c4, c5, c6, c7, cdv, c9, c10, rfl, look, hq, _, _⟩ := F.ex
  have hcv := tab_code look hc
  subst hcv
  refine fn_of look hq S (fun vs H Q E h => ?_) fun A outer s H vs Q E hr h => ?_
  · obtain ⟨G, F, m, ds, QD, ED, rep, rs, hs, _⟩ := h
    rw [← rs.length]
    exact len ds m QD ED hs
  · obtain ⟨G, F, m, ds, QD, ED, rep, rs, hs, kv, kx⟩ := h
    refine ⟨_, hb A outer s H E (fun x _ m => ED x m) hr (takes_of rfl rfl rfl rfl) (passes_of rfl), ?_⟩
    refine ⟨G, F, startD N ds, m, _, ⟨rep, rs_start rs, fun G' H' m' r' s' C fs d e r rs' rx wd => kx G' H' m' C fs d e r rx wd⟩, pure_ ds m QD ED hs, ⟨fun G' H' m' r' s' e r rs' q => kv G' H' m' _ _ e r .non q, kv, ?_, ?_⟩⟩
    · exact fun _ _ _ _ _ _ _ _ q => q.elim
    · exact fun _ _ _ _ _ _ _ _ q => q.elim
end
theorem lam_ofN {i : Nat} {n : Str} {K : Fr0} {d : Option Str × Str} (hd : lamDefs[i]? = some d) (h : lamBN i n K = true) : ∃ c Pt, tabAt K (lamAd K d) (lamQ d) = some (c, Pt) ∧ (c, Pt, lamQ d ++ ".<locals>." ++ n) ∈ tbls3 K := by
  unfold lamBN at h
  rw [hd] at h
  obtain ⟨h, h2⟩ := He.ba h
  obtain ⟨⟨c, Pt⟩, e⟩ := Option.isSome_iff_exists.mp h
  refine ⟨c, Pt, e, List.mem_filterMap.mpr ⟨d, List.mem_of_getElem? hd, ?_⟩⟩
  rw [e, of_decide_eq_true h2]
  rfl
theorem lam_of {i : Nat} {K : Fr0} {d : Option Str × Str} (hd : lamDefs[i]? = some d) (h : lamB i K = true) : ∃ c Pt, tabAt K (lamAd K d) (lamQ d) = some (c, Pt) ∧ (c, Pt, lamQ d ++ ".<locals>." ++ "<lambda>") ∈ tbls3 K := lam_ofN hd h
end DL

set_option Elab.async false
set_option linter.all false
set_option maxRecDepth 100000
set_option maxHeartbeats 4000000
namespace DL
open PySem PySem.Spec PyProof.Rows L2
section
variable {X : Cx}
end
end DL

set_option Elab.async false
set_option linter.all false
set_option maxRecDepth 100000
set_option maxHeartbeats 4000000
namespace DL
open PySem PySem.Spec PyProof.Rows L2
section
variable {X : Cx} {W : WX} {WD : DWX}
def tLk (t : TE) : TE := fun σ H Q => t σ H fun v H1 => ∃ d u, v = .ref d ∧ H1 d = some u ∧ Mut (some u) ∧ ∀ o, Q v (upd H1 d (.frz o u))
theorem pe_lk {e : Expr} {t : TE} (h : PE X e t) : PE X e (tLk t) := by
  refine ⟨fun pins s σ H Q I q => thn (h.run pins s σ H _ I q) fun v s1 ⟨x, H1, I1, rx, d, u, e1, e2, mu, k⟩ => ?_⟩
  obtain ⟨o, I2⟩ := I1.lock e2 mu
  exact ⟨x, _, I2, rx, k o⟩
variable {κ : Type} [DecidableEq κ]
def putI (kvs : List (κ × Int)) (k : κ) (i : Int) : List (κ × Int) := if (kvs.any fun kv => decide (kv.1 = k)) = true then kvs.map (fun kv => if kv.1 = k then (kv.1, i) else kv) else kvs ++ [(k, i)]
def valI (kvs : List (κ × Int)) (k : κ) : Option Int := (kvs.find? fun kv => decide (kv.1 = k)).map (·.2)
end
section
variable {X : Cx} {W : WX} {WD : DWX}
end
end DL

set_option Elab.async false
set_option linter.all false
set_option maxRecDepth 100000
set_option maxHeartbeats 4000000
namespace DL
open PySem PySem.Spec PyProof.Rows L2
section
variable {X : Cx} {W : WX} {WD : DWX} {e : Expr} {td : TE} {apos cpos : Pos}
end
end DL

set_option Elab.async false
set_option linter.all false
set_option maxRecDepth 100000
set_option maxHeartbeats 4000000
namespace DL
open PySem PySem.Spec PyProof.Rows L2
def iD {κ : Type} (kvs : List (κ × Int)) : List (κ × D) := kvs.map fun p => (p.1, D.int p.2)
theorem rpk_iD {κ : Type} {K : PySem.W.Frag} {G : Hp} : ∀ {kvs : List (κ × Int)} {vs : List (κ × V)}, Rpk K G (iD kvs) vs → vs = iV kvs
  | [], _, .nil => rfl
  | (k, i) :: kvs, _, .cons a b => by
    cases a
    rw [rpk_iD b]
    rfl
theorem Rep.freezeK {K : PySem.W.Frag} {G H F : Hp} {m : M} {a : Addr} {kvs : List (Key × Int)} (r : Rep K G H F m) (h : m a = some (.dK (iD kvs))) : H a = some (.dK (iV kvs)) ∧ ∀ o, ∃ G', Same G G' ∧ Rep K G' (upd H a (.frz o (.dK (iV kvs)))) F (mdel m a) ∧ Rp K G' (.dki kvs) (.ref a) := by
  obtain ⟨g1, f1, w, h3, h4⟩ := r.mo a _ h
  obtain ⟨vs, hH, hk⟩ := mo_dK r h
  have := rpk_iD hk
  subst this
  refine ⟨hH, fun o => ?_⟩
  have sm : Same G (upd G a (.frz o (.dK (iV kvs)))) := same_new g1
  refine ⟨_, sm, ⟨fun b z e => ?_, fun b z e => ?_, fun b z e => ?_, fun b z e => ?_, Tabs.updO r.tb h3 h4.okO, ok_upd r.gt ⟨fun _ e => (by cases e), fun _ e => (by cases e)⟩, r.ft⟩, .dki upd_same⟩
  · by_cases hb : b = a
    · subst hb; rw [upd_same] at e ⊢; exact e
    · rw [upd_ne hb] at e ⊢; exact r.ext b z e
  · rw [upd_ne (fun q => by rw [q, f1] at e; cases e)]; exact r.frm b z e
  · rw [upd_ne (fun q => by rw [q, f1] at e; cases e)]; exact r.dis b z e
  · by_cases hb : b = a
    · subst hb; rw [mdel_same] at e; cases e
    · rw [mdel_ne hb] at e
      obtain ⟨h1, h2, w', h5, h6⟩ := r.mo b z e
      exact ⟨by rw [upd_ne hb]; exact h1, h2, w', by rw [upd_ne hb]; exact h5, h6.mono sm⟩
section
variable {X : Cx} {W : WX} {WD : DWX} {rest : List Stmt} {t : DTS}
end
end DL

set_option Elab.async false
set_option linter.all false
set_option maxRecDepth 100000
set_option maxHeartbeats 4000000
namespace DL
open PySem PySem.Spec PyProof.Rows L2
def fg : D → D
  | .obj _ d => d
  | d => d
theorem Rp.fg {K : PySem.W.Frag} {G : Hp} {d : D} {v : V} (h : Rp K G d v) : Rp K G (DL.fg d) v := by
  cases h with
  | obj h => exact h
  | non => exact .non
  | bl b => exact .bl b
  | int i => exact .int i
  | str x => exact .str x
  | ty n => exact .ty n
  | ref a => exact .ref a
  | lst h r => exact .lst h r
  | rdl h r => exact .rdl h r
  | tup h r => exact .tup h r
  | ins h r => exact .ins h r
  | exn0 a => exact .exn0 a
  | exnS h r => exact .exnS h r
  | dki h => exact .dki h
  | dti h => exact .dti h
  | clo hc h => exact .clo hc h
theorem Rps.fg {K : PySem.W.Frag} {G : Hp} : ∀ {ds : List D} {vs : List V}, Rps K G ds vs → Rps K G (ds.map DL.fg) vs
  | _, _, .nil => .nil
  | _, _, .cons r t => .cons r.fg (Rps.fg t)
section
variable {K : PySem.W.Frag} {X : Cx} {W : WX} {WD : DWX} {e : Expr} {te : DTE}
def dFgt (te : DTE) : DTE := fun r m Q => te r m fun d m1 => ∃ ds, d = .lst ds ∧ Q (.lst (ds.map fg)) m1
end
section
variable {X : Cx} {pins : List (Addr × Obj)} {σ : L2.St} {H : Hp} {s : Shared}
theorem all_yes (n : Nat) : ((List.range n).all fun _ => true) = true := List.all_eq_true.mpr fun _ _ => rfl
end
section
variable {K : PySem.W.Frag}
end
end DL

set_option Elab.async false
set_option linter.all false
set_option maxRecDepth 100000
set_option maxHeartbeats 4000000
namespace DL
open PySem PySem.Spec PyProof.Rows L2
section
variable {X : Cx} {W : WX} {WD : DWX} {e : Expr}
end
end DL

set_option Elab.async false
set_option linter.all false
set_option maxRecDepth 100000
set_option maxHeartbeats 4000000
namespace DL
open PySem PySem.Spec PyProof.Rows L2
inductive FrzAll : M → List D → List D → M → Prop
  | nil (m : M) : FrzAll m [] [] m
  | cons {m m' : M} {a : Addr} {ds xs ys : List D} : m a = some (.lst ds) → FrzAll (mdel m a) xs ys m' → FrzAll m (.ref a :: xs) (.lst ds :: ys) m'
section
variable {X : Cx} {W : WX} {WD : DWX} {rest : List Stmt} {t : DTS}
end
end DL

set_option Elab.async false
set_option linter.all false
set_option maxRecDepth 100000
set_option maxHeartbeats 4000000
namespace DL
open PySem PySem.Spec PyProof.Rows L2
section
variable {x0 x1 x2 x3 x4 x5 x6 x7 : D} {xs : List D}
theorem at4 : atI (x0 :: x1 :: x2 :: x3 :: x4 :: xs) 4 = some x4 := atI_nat (j := 4) rfl
theorem at5 : atI (x0 :: x1 :: x2 :: x3 :: x4 :: x5 :: xs) 5 = some x5 := atI_nat (j := 5) rfl
theorem at6 : atI (x0 :: x1 :: x2 :: x3 :: x4 :: x5 :: x6 :: xs) 6 = some x6 := atI_nat (j := 6) rfl
theorem at7 : atI (x0 :: x1 :: x2 :: x3 :: x4 :: x5 :: x6 :: x7 :: xs) 7 = some x7 := atI_nat (j := 7) rfl
end
open He (ga ma eqO eqO_ok ba)
end DL

set_option Elab.async false
set_option linter.all false
set_option maxRecDepth 100000
set_option maxHeartbeats 4000000
namespace DL
open PySem PySem.Spec PyProof.Rows L2
def daStar (te : DTE) (t : DTA) : DTA := fun r m Q => te r m fun x m1 => ∃ xs, sqOf m1 x = some xs ∧ t r m1 fun ys m2 => Q (xs ++ ys) m2
section
variable {X : Cx} {W : WX} {WD : DWX} {e : Expr} {es : List Expr} {te : DTE} {t : DTA} {p : Pos}
end
def mergeD (kvs : List (Key × D)) : List (Key × D) := kvs.foldl (fun acc kv => putKD acc kv.1 kv.2) []
def dDictP : DRC := fun ds m Q => ∃ d kvs, ds = [d] ∧ lsOf m d = some (kvs.map fun kv : Key × D => D.tup [keyD kv.1, kv.2]) ∧ ∀ p, m p = none → Q (.ref p) (mset m p (.dK (mergeD kvs)))
def dMakeN (C : Addr) (n j : Nat) (sp : DSp) (WD : DWX) (t tk : DTA) : DTE := fun r m Q => t r m fun ds m1 => tk r m1 fun zs m2 => ds.length = n ∧ zs.length = j ∧
  ∀ x, m2 x = none → sp (.ref x :: (ds ++ zs)) (mset m2 x (.ins C [])) (fun _ m3 => ∃ fs, m3 x = some (.ins C fs) ∧ Q (.ins C fs) (mdel m3 x)) fun x m3 => WD x r m3
section
variable {X : Cx} {W : WX} {WD : DWX} {e : Expr} {es : List Expr} {kws : List Keyword} {t tk : DTA} {sp : DSp} {k n : Nat} {f C : Addr} {fd : FuncData} {ps ks : List Str} {x : Str} {p pos : Pos}
theorem run_makeNS {CX : CXT} {sp : Sp} {E : XK} {g : List Value → List Value → List Value} {gV : List V → List V → List V} {pins : List (Addr × Obj)} {σ : L2.St} {H : Hp} {s : Shared} {Q : VK} {us ws : List Value} {vs zs : List V} (M : Mk X.K C f) (F : FnOk X.prog X.w X.K X.mg X.base CX k f fd ps sp) (hr : Room (k + 1) X.A) (hb : KBn X.K fd ps (n + 1) ks g gV)
    (hx : PassesAt CX X σ E) (I : Inv X pins σ H s) (r : Vals vs us) (rz : Vals zs ws) (l1 : vs.length = n) (l2 : zs.length = ks.length)
    (h : ∀ y dy, H y = none → H dy = none → dy ≠ y → sp (gV (.ref y :: vs) zs) (upd (upd H dy (.own y)) y (.ins C dy [])) (fun u H2 => u = .non ∧ Q (.ref y) H2) E) : wpAny (model X.prog X.w) X.A (call (.ref C) us (ks.zip ws)) (EP X pins σ Q) X.xe s := by
  obtain ⟨N, hN⟩ : ∃ N, N = s.heap.objs.size := ⟨_, rfl⟩
  have new : ∀ b, N ≤ b → H b = none := fun b hb => I.hok.fresh (by omega)
  have made := Inv.made (C := C) I
  have rs : Vals (V.ref (N + 1) :: vs) (Value.ref (N + 1) :: us) := .cons rfl r
  have q := h (N + 1) N (new _ (Nat.le_succ N)) (new _ (Nat.le_refl _)) (Nat.ne_of_lt (Nat.lt_succ_self N))
  subst hN
  have lu : (Value.ref (s.heap.objs.size + 1) :: us).length = n + 1 := by rw [List.length_cons, ← r.length, l1]
  have lw : ws.length = ks.length := by rw [← rz.length, l2]
  refine wpAny_call (make_map (f := f) I.kIn M.makes M.init (beq_iff_eq.mp M.fn) (codeAny_mono (F.run _ X.stack _ _ ⟨.ref (s.heap.objs.size + 1) :: us, ks.zip ws⟩ (g (.ref (s.heap.objs.size + 1) :: us) ws) _ _ E
    (hr.make C us (ks.zip ws)) (made.env0.make C us (ks.zip ws)) (hb.to _ (.ref (s.heap.objs.size + 1) :: us) ws made.kIn lu lw) (hb.rel rs rz) q) fun out s' hq => ?_))
  cases out with
  | error x => exact hx pins _ _ x s' made hq
  | ok fl => cases fl with
    | ret u =>
      obtain ⟨v, H', I3, rv, ev, q3⟩ := made.after hq
      subst ev
      exact ⟨rv, .ref (s.heap.objs.size + 1), H', I3, rfl, q3⟩
    | next => exact hq.elim
    | brk => exact hq.elim
    | cont => exact hq.elim
theorem de_makeN {j : Nat} (M : Mk X.K C f) (F : FnOk X.prog X.w X.K X.mg X.base (L2.CX X.prog X.w) k f fd ps (liftSp X.K sp)) (hr : Room (k + 1) X.A) (hg : Gl X x) (hm : X.mg x = some (.ref C)) (hb : KBn X.K fd ps (n + 1) ks (fun us ws => us ++ ws) (fun vs zs => vs ++ zs)) (tk' : Takes X W)
    (hn : ∀ vs H Q E, liftSp X.K sp vs H Q E → liftSp X.K sp vs H (fun v H' => v = .non ∧ Q v H') E)
    (ha : DA X W WD (e :: es) t) (hkw : DK X W WD kws tk) (hall : (backToKw pos (keywordEach kws X.env)).all (·.1.isSome) = true := by rfl) (hks : (backToKw pos (keywordEach kws X.env)).filterMap (·.1) = ks := by rfl)
    (hdb : (x == ("__debug__" : Str)) = false := by decide) (he : starEach (e :: es) X.env = (false, eval e X.env) :: starEach es X.env := by rfl)
    (hpl : ((backTo pos (starEach (e :: es) X.env)).any (·.1) || (backToKw pos (keywordEach kws X.env)).any (·.1.isNone)) = false := by rfl) (hj : ks.length = j := by rfl) :
    DE X W WD (.Call (.Name x p) (e :: es) kws pos) (dMakeN C n j sp WD t tk) := by
  subst hj
  refine PE.imp (t := fun σ H Q => upA X.K W WD t σ H fun vs H1 => upA X.K W WD tk σ H1 fun zs H2 => vs.length = n ∧ zs.length = ks.length ∧ ∀ x dx, H2 x = none → H2 dx = none → dx ≠ x → liftSp X.K sp (.ref x :: vs ++ zs) (upd (upd H2 dx (.own x)) x (.ins C dx [])) (fun v H2 => v = .non ∧ Q (.ref x) H2) (WE W σ)) ⟨fun pins s σ H Q I h => ?_⟩ fun σ H Q h => ?_
  · refine wpAny_Call_Name_kw (ld_glob I hg hm ?_ hdb)
    refine PySem.W.callWith_KW (h₀ := X.base) I.ok.mod.kin M.kp hall (thn (ha.run pos pins s σ H _ I h) fun us s1 ⟨vs, H1, I1, r, q⟩ => ?_) hpl he
    refine thn (hkw.run pos pins s1 σ H1 _ I1 q) fun ws s2 ⟨zs, H2, I2, rz, l1, l2, q2⟩ => ⟨I2.kIn, ?_⟩
    rw [hks]
    exact run_makeNS M F hr hb (passAt tk' σ) I2 r rz l1 l2 q2
  · obtain ⟨G, F, r, m, QD, x, t, k⟩ := h
    refine ⟨G, F, r, m, _, x, t, fun G1 H1 m1 ds vs e1 r1 p1 t1 => ?_⟩
    refine ⟨G1, F, r, m1, _, x.step e1 r1, t1, fun G2 H2 m2 zs ws e2 r2 p2 t2 => ?_⟩
    obtain ⟨l1, l2, t2⟩ := t2
    refine ⟨by rw [← p1.length]; exact l1, by rw [← p2.length]; exact l2, fun y dx hy hdx ne => ?_⟩
    have r3 : Rep X.K G2 (upd (upd H2 dx (.own y)) y (.ins C dx [])) F (mset m2 y (.ins C [])) := (r2.junk (o := .own y) hdx).newm (u := .ins C []) (by rw [upd_ne (Ne.symm ne)]; exact hy) ⟨rfl, .nil⟩
    refine hn _ _ (fun _ H2 => Q (.ref y) H2) _ ?_
    have e12 := e1.trans e2
    refine lift_call (QD := fun _ m3 => ∃ fs, m3 y = some (.ins C fs) ∧ QD (.ins C fs) (mdel m3 y)) (x.step e12 r3) (.cons (.ref y) ((p1.mono e2).append p2)) (t2 y (r2.mfree hy)) fun G3 H3 m3 d v e3 r3 p3 t3 => ?_
    obtain ⟨fs, hm3, t4⟩ := t3
    obtain ⟨G4, e4, r4, p4⟩ := r3.freezeI hm3
    exact k G4 H3 _ _ _ ((e12.trans e3).trans e4) r4 p4 t4
end
end DL

set_option Elab.async false
set_option linter.all false
set_option maxRecDepth 100000
set_option maxHeartbeats 4000000
namespace DL
open PySem PySem.Spec PyProof.Rows L2
open He (ga ma eqO eqO_ok ba)
def dwnD (hi : Int) (n : Nat) : List D := (List.range n).map fun (k : Nat) => D.int (hi - (k : Int))
section
variable {X : Cx} {W : WX} {WD : DWX} {tg : Expr}
def diR3 (ta : DTA) : DTI := fun r m Q => ta r m fun ds m1 => ∃ i j : Int, ds = [.int i, .int j, .int (-1)] ∧ (-(2 ^ 62) ≤ i ∧ i < 2 ^ 62 ∧ -(2 ^ 62) ≤ j ∧ j < 2 ^ 62) ∧ Q (dwnD i (i - j).toNat) m1
end
end DL

set_option Elab.async false
set_option linter.all false
set_option maxRecDepth 100000
set_option maxHeartbeats 4000000
namespace DL
open PySem PySem.Spec PyProof.Rows L2
theorem lt_irrefl : ∀ l : List Nat, ltCps l l = false
  | [] => rfl
  | a :: l => by simp [ltCps, lt_irrefl l]
end DL

set_option Elab.async false
set_option linter.all false
set_option maxRecDepth 100000
set_option maxHeartbeats 4000000
namespace DL
open PySem PySem.Spec PyProof.Rows L2
section
variable {K : PySem.W.Frag} {X : Cx} {W : WX} {WD : DWX} {rest : List Stmt} {e : Expr} {te : DTE} {t : DTS}
end
end DL

set_option Elab.async false
set_option linter.all false
set_option maxRecDepth 100000
set_option maxHeartbeats 4000000
namespace DL
open PySem PySem.Spec PyProof.Rows L2
section
variable {X : Cx} {W : WX} {WD : DWX}
def rEqZ (K : PySem.W.Frag) (f : Bool → Bool) : R2 := fun x y H Q => ∃ a b xs, x = .ref a ∧ y = .ref b ∧ SqL K H a xs ∧ SqL K H b [] ∧ Q (.bl (f xs.isEmpty)) H
theorem op_eqZ (hu : X.A.units + 64 < cLine) : OpR X (compareOp .Eq) (rEqZ X.K id) := by
  intro pins s σ H x y v u Q I kx ky h
  obtain ⟨a, b, xs, rfl, rfl, ha, hb, q⟩ := h
  cases (show v = Value.ref a from kx)
  cases (show u = Value.ref b from ky)
  obtain ⟨ua, q1, o1, _⟩ := I.list ha
  obtain ⟨ub, q2, o2, _⟩ := I.list hb
  have l1 := q1.length
  have l2 := q2.length
  cases xs with
  | nil =>
    have hz : ua.toArray.size = ub.toArray.size := by simpa [← l1, ← l2]
    have hx := SeqAt.RcAt.lists (A := X.A) (e := fun _ => true) o1.isList o2.isList hz (by omega) (fun j h1 h2 => by
      have : j < ua.length := by simpa using h1
      rw [← l1] at this
      cases this)
    rw [all_yes] at hx
    exact hx _ _ _ _ ⟨.bl true, H, I, rfl, q⟩
  | cons z zs =>
    have hz : (ua.toArray.size != ub.toArray.size) = true := by
      simp only [List.length_cons] at l1
      simp [← l1, ← l2]
    exact (SeqAt.RcAt.lists_lengths (A := X.A) o1.isList o2.isList hz (by omega)) _ _ _ _ ⟨.bl false, H, I, rfl, q⟩
end
section
variable {K : PySem.W.Frag}
def dEqZ : DR2 := fun x y m Q => ∃ xs, lsOf m x = some xs ∧ lsOf m y = some [] ∧ Q (.bl xs.isEmpty) m
theorem lsZ_of {G H F : Hp} {m : M} {x y : D} {vx vy : V} {xs : List D} (r : Rep K G H F m) (px : Rp K G x vx) (py : Rp K G y vy) (h1 : lsOf m x = some xs) (h2 : lsOf m y = some []) : ∃ a b us, vx = .ref a ∧ vy = .ref b ∧ SqL K H a us ∧ SqL K H b [] ∧ us.isEmpty = xs.isEmpty := by
  obtain ⟨a, us, rfl, sa, ra⟩ := ls_ok r px h1
  obtain ⟨b, ws, rfl, sb, rb⟩ := ls_ok r py h2
  cases rb
  exact ⟨a, b, us, rfl, rfl, sa, sb, (isEmpty_rps ra).symm⟩
theorem od_eqZ : OpD K (rEqZ K id) dEqZ := by
  intro G H F m x y vx vy QD Q r px py t k
  obtain ⟨xs, h1, h2, t⟩ := t
  obtain ⟨a, b, us, rfl, rfl, sa, sb, e⟩ := lsZ_of r px py h1 h2
  exact ⟨a, b, us, rfl, rfl, sa, sb, k.here r (.bl _) (by rw [id, e]; exact t)⟩
end
end DL

set_option Elab.async false
set_option linter.all false
set_option maxRecDepth 100000
set_option maxHeartbeats 4000000
namespace DL
open PySem PySem.Spec PyProof.Rows L2
end DL

set_option Elab.async false
set_option linter.all false
set_option maxRecDepth 100000
set_option maxHeartbeats 4000000
namespace DL
open PySem PySem.Spec PyProof.Rows L2
section
variable {X : Cx} {W : WX} {WD : DWX} {e : Expr} {te : DTE} {tb : DTS} {body : List Stmt}
end
end DL

set_option Elab.async false
set_option linter.all false
set_option maxRecDepth 100000
set_option maxHeartbeats 4000000
namespace DL
open PySem PySem.Spec PyProof.Rows L2
section
variable {X : Cx} {W : WX} {WD : DWX} {tg iter : Expr} {body : List Stmt} {ti : DTE} {g : DTG} {tb : DTS} {pos : Pos}
end
end DL

set_option Elab.async false
set_option linter.all false
set_option maxRecDepth 100000
set_option maxHeartbeats 4000000
namespace DL
open PySem PySem.Spec PyProof.Rows L2
section
variable {X : Cx} {W : WX} {WD : DWX} {o i e : Expr} {to ti te : DTE} {tpos pos : Pos}
end
end DL

set_option Elab.async false
set_option linter.all false
set_option maxRecDepth 100000
set_option maxHeartbeats 4000000
namespace DL
open PySem PySem.Spec PyProof.Rows L2
section
variable {X : Cx} {W : WX} {WD : DWX} {e : Expr} {body : List Stmt} {ta : DTA} {g : DTG} {tb : DTS} {pos p pos2 tpos : Pos} {elts : List Expr} {kk : Nat}
end
end DL

set_option Elab.async false
set_option linter.all false
set_option maxRecDepth 100000
set_option maxHeartbeats 4000000
namespace DL
open PySem PySem.Spec PyProof.Rows L2
def dctOf (m : M) : D → Option (List (Key × D))
  | .dki kvs => some (iD kvs)
  | .ref a => match m a with | some (.dK kvs) => some kvs | _ => none
  | _ => none
theorem rpk_iV {κ : Type} {K : PySem.W.Frag} {G : Hp} : ∀ {kvs : List (κ × Int)}, Rpk K G (iD kvs) (iV kvs)
  | [] => .nil
  | (k, i) :: kvs => .cons (.int i) (rpk_iV (kvs := kvs))
theorem dct_ok {K : PySem.W.Frag} {G H F : Hp} {m : M} {d : D} {v : V} {kvs : List (Key × D)} (r : Rep K G H F m) (p : Rp K G d v) (h : dctOf m d = some kvs) : ∃ a vs, v = .ref a ∧ Rd H a (.dK vs) ∧ Rpk K G kvs vs := by
  cases p with
  | dki h1 =>
    cases h
    exact ⟨_, _, rfl, .inr ⟨_, r.ext _ _ h1⟩, rpk_iV⟩
  | ref a =>
    unfold dctOf at h
    dsimp only at h
    cases q : m a with
    | none => rw [q] at h; cases h
    | some o =>
      rw [q] at h
      cases o with
      | dK ks =>
        cases h
        obtain ⟨vs, h1, h2⟩ := mo_dK r q
        exact ⟨a, vs, rfl, .inl h1, h2⟩
      | _ => cases h
  | _ => cases h
def dCopyK : DRC := fun ds m Q => ∃ d kvs, ds = [d] ∧ dctOf m d = some kvs ∧ ∀ p, m p = none → Q (.ref p) (mset m p (.dK kvs))
section
variable {K : PySem.W.Frag} {X : Cx} {W : WX} {WD : DWX} {o e f a b k v : Expr} {td ty tx ta tb te tk tv : DTE} {pos pos' apos cpos : Pos}
def dGet2K (td ty tx : DTE) : DTE := fun r m Q => td r m fun x m1 => (∃ k1, dctOf m1 x = some k1) ∧ ty r m1 fun y m2 => tx r m2 fun z m3 => ∃ kvs k, dctOf m3 x = some kvs ∧ y = keyD k ∧ Q ((valD kvs k).getD z) m3
theorem de_get2K (hu : X.A.units + 1 < cLine) (ho : DE X W WD o td) (he : DE X W WD e ty) (hf : DE X W WD f tx) (m : M2 X o "get" apos e f cpos) : DE X W WD (.Call (.Attribute o "get" apos) [e, f] [] cpos) (dGet2K td ty tx) := by
  refine PE.imp (pe_dget2 hu ho he hf m) fun σ H Q h => ?_
  obtain ⟨G, F, r, m, QD, x, t, k⟩ := h
  refine ⟨G, F, r, m, _, x, t, fun G1 H1 m1 d1 v1 e1 r1 p1 t1 => ?_⟩
  obtain ⟨⟨k1, hk1⟩, t1⟩ := t1
  obtain ⟨a, us1, rfl, hH1, _⟩ := dct_ok r1 p1 hk1
  refine ⟨a, rfl, .inl ⟨_, hH1⟩, G1, F, r, m1, _, x.step e1 r1, t1, fun G2 H2 m2 d2 v2 e2 r2 p2 t2 => ?_⟩
  refine ⟨G2, F, r, m2, _, x.step (e1.trans e2) r2, t2, fun G3 H3 m3 d3 v3 e3 r3 p3 t3 => ?_⟩
  obtain ⟨kvs, key, hk, rfl, t4⟩ := t3
  have := rp_key p2
  subst this
  obtain ⟨a2, us, ea, hH, hr⟩ := dct_ok r3 (p1.mono (e2.trans e3)) hk
  cases ea
  refine ⟨valV us key, .inl ⟨us, key, hH, rfl, rfl⟩, ?_⟩
  rcases hr.val key with ⟨h1, h2⟩ | ⟨d', v', h1, h2, h3⟩
  · rw [h1] at t4
    rw [h2]
    exact k G3 H3 m3 _ _ ((e1.trans e2).trans e3) r3 p3 t4
  · rw [h1] at t4
    rw [h2]
    exact k G3 H3 m3 _ _ ((e1.trans e2).trans e3) r3 h3 t4
def dDctR (f : Bool) : DR2 := fun x y m Q => ∃ kvs : List (Key × Int), x = .dki kvs ∧ y = .dki kvs ∧ (kvs.map (·.1)).Nodup ∧ Q (.bl f) m
def dDisp1 (tk tv : DTE) : DTE := fun r m Q => ∀ p, m p = none → tk r (mset m p (.dK [])) fun x m1 => tv r m1 fun y m2 => m2 p = some (.dK []) ∧ ∃ k, x = keyD k ∧ Q (.ref p) (mset m2 p (.dK [(k, y)]))
def dFrzEK (te : DTE) : DTE := fun r m Q => te r m fun d m1 => ∃ a kvs, d = .ref a ∧ m1 a = some (.dK (iD kvs)) ∧ Q (.dki kvs) (mdel m1 a)
theorem de_frzEK (he : DE X W WD e te) : DE X W WD e (dFrzEK te) := by
  refine PE.imp (pe_lk he) fun σ H Q h => ?_
  obtain ⟨G, F, r, m, QD, x, t, k⟩ := h
  refine ⟨G, F, r, m, _, x, t, fun G1 H1 m1 d v e1 r1 p1 t1 => ?_⟩
  obtain ⟨a, kvs, rfl, hm, t2⟩ := t1
  cases p1
  obtain ⟨hH, hz⟩ := r1.freezeK hm
  refine ⟨a, _, rfl, hH, trivial, fun o => ?_⟩
  obtain ⟨G', e, r', p'⟩ := hz o
  exact k G' _ _ _ _ (e1.trans e) r' p' t2
end
theorem iD_put {κ : Type} [DecidableEq κ] (kvs : List (κ × Int)) (k : κ) (i : Int) : putKD (iD kvs) k (.int i) = iD (putI kvs k i) := by
  unfold putI putKD
  have e : ((iD kvs).any fun kv => decide (kv.1 = k)) = kvs.any fun kv => decide (kv.1 = k) := by
    unfold iD
    rw [List.any_map]
    rfl
  rw [e]
  split
  · unfold iD
    rw [List.map_map, List.map_map]
    refine List.map_congr_left fun p _ => ?_
    dsimp only [Function.comp]
    split <;> rfl
  · unfold iD
    rw [List.map_append]
    rfl
theorem iD_val {κ : Type} [DecidableEq κ] (kvs : List (κ × Int)) (k : κ) : valD (iD kvs) k = (valI kvs k).map D.int := by
  induction kvs with
  | nil => rfl
  | cons p r ih =>
    unfold valD valI at *
    unfold iD at *
    rw [List.map_cons, List.find?_cons, List.find?_cons]
    by_cases h : p.1 = k
    · rw [decide_eq_true h]
      rfl
    · rw [decide_eq_false h]
      exact ih
end DL

set_option Elab.async false
set_option linter.all false
set_option maxRecDepth 100000
set_option maxHeartbeats 4000000
theorem L2H.RoomH.units {k : Nat} {A : PySem.Around} (r : L2H.RoomH k A) : A.units + 64 < PySem.cLine := by have := r.un; omega
theorem L2H.RoomH.units1 {k : Nat} {A : PySem.Around} (r : L2H.RoomH k A) : A.units + 1 < PySem.cLine := by have := r.un; omega
namespace DL
open PySem PySem.Spec PyProof.Rows L2
open L2H (RoomH PinOk cxH)
structure FnX (P : Program) (w : World) (K : PySem.W.Frag) (mg : Str → Option Value) (base : Heap) (CX : CXT) (k : Nat) (f : Addr) (fd : FuncData) (ps : List Str) (sp : Addr → Addr → Option Addr → Sp) : Prop where
  len : ∀ a c d vs H Q E, sp a c d vs H Q E → vs.length = ps.length
  run : ∀ (A : Around) (outer : List Env) (s : Shared) (H : Hp) (args : Args) (us : List Value) (vs : List V) (Q : VK) (E : XK) (a c : Addr) (d : Option Addr) (oe : Obj), RoomH k A → PinOk outer H s (a, oe) → Zc (.ref c) d oe → (∃ vs, oe.data = .fields vs) → Env0 P w K mg base A outer s H → BindsTo s fd args (ps.zip us) → Vals vs us → sp a c d vs H Q E →
    codeAny (model P w) A (.call (.ref f) args) (CR CX outer P w H s Q E) s
section
variable {P : Program} {w : World} {K : PySem.W.Frag} {mg : Str → Option Value} {base : Heap} {x qual : Str} {params : Arguments} {body : List Stmt} {scope : Scope} {dvs : List V} {kws : List (Str × V)} {f : Addr} {fd : FuncData}
end
section
variable {X : Cx} {W : WX} {WD : DWX} {k : Nat} {f : Addr} {fd : FuncData} {ps : List Str} {sp : Addr → Addr → Option Addr → DSp} {x : Str} {p pos : Pos} {e : Expr} {es : List Expr} {t : DTA} {a c : Addr} {d : Option Addr} {oe : Obj}
end
structure GoodX (P : Program) (w : World) (K : Fr0) (mg : Str → Option Value) (base : Heap) (k : Nat) (x : Str) (f : Addr) (ps : List Str) (sp : Addr → Addr → Option Addr → DSp) : Prop where
  ex : ∃ fd, FnX P w K mg base (L2.CX P w) k f fd ps (fun a c d => liftSp K (sp a c d)) ∧ Binds K fd ps [] ∧ PySem.W.keepIn K (.ref f) = true
  gl : mg x = some (.ref f)
end DL

set_option Elab.async false
set_option linter.all false
set_option maxRecDepth 100000
set_option maxHeartbeats 4000000
namespace DL
open PySem PySem.Spec PyProof.Rows L2
mutual
def noK : D → Bool
  | .dki _ => false
  | .lst xs => noKs xs
  | .rdl xs => noKs xs
  | .tup xs => noKs xs
  | .ins _ fs => noKf fs
  | .exn _ _ fs => noKf fs
  | .obj _ d => noK d
  | .non => true
  | .bl _ => true
  | .int _ => true
  | .str _ => true
  | .ty _ => true
  | .ref _ => true
  | .dti _ => true
  | .clo _ _ _ _ _ => false
def noKs : List D → Bool
  | [] => true
  | x :: xs => noK x && noKs xs
def noKf : List (Str × D) → Bool
  | [] => true
  | (_, x) :: xs => noK x && noKf xs
end
def noKk {κ : Type} : List (κ × D) → Bool
  | [] => true
  | (_, x) :: xs => noK x && noKk xs
def noKM : MO → Bool
  | .lst xs => noKs xs
  | .dK kvs => noKk kvs
  | .dT kvs => noKk kvs
  | .ins _ fs => noKf fs
  | .fn _ => true
section
variable {K : PySem.W.Frag} {G G' : Hp}
theorem NoF.sqt (e : NoF G G') {a : Addr} {xs : List V} (h : SqT K G a xs) : SqT K G' a xs := by
  rcases h with (h | ⟨o, h⟩) | h
  · exact .inl (.inl (e _ _ h (fun _ _ z => by cases z)))
  · exact .inl (.inr ⟨o, e _ _ h (fun _ _ z => by cases z)⟩)
  · exact .inr h
theorem NoF.tpk (e : NoF G G') {a : Addr} {xs : List V} (h : TpK K G a xs) : TpK K G' a xs := ⟨e.sqt h.1, h.2.imp _root_.id fun z => e _ _ z (fun _ _ z => by cases z)⟩
theorem ba2 {a b : Bool} (h : (a && b) = true) : a = true ∧ b = true := by cases a <;> cases b <;> simp_all
mutual
theorem Rp.noF (e : NoF G G') : ∀ {d : D} {v : V}, Rp K G d v → noK d = true → Rp K G' d v
  | _, _, .non, _ => .non
  | _, _, .bl b, _ => .bl b
  | _, _, .int i, _ => .int i
  | _, _, .str x, _ => .str x
  | _, _, .ty n, _ => .ty n
  | _, _, .ref a, _ => .ref a
  | _, _, .lst h r, n => .lst (e _ _ h (fun _ _ z => by cases z)) (Rps.noF e r n)
  | _, _, .rdl h r, n => .rdl (e.seq h) (Rps.noF e r n)
  | _, _, .tup h r, n => .tup (e.tpk h) (Rps.noF e r n)
  | _, _, .ins h r, n => .ins (e _ _ h (fun _ _ z => by cases z)) (Rpf.noF e r n)
  | _, _, .exn0 a, _ => .exn0 a
  | _, _, .exnS h r, n => .exnS (e _ _ h (fun _ _ z => by cases z)) (Rpf.noF e r n)
  | _, _, .dki h, n => nomatch n
  | _, _, .dti h, _ => .dti (e _ _ h (fun _ _ z => by cases z))
  | _, _, .obj h, n => .obj (Rp.noF e h n)
  | _, _, .clo _ h, n => nomatch n
theorem Rps.noF (e : NoF G G') : ∀ {ds : List D} {vs : List V}, Rps K G ds vs → noKs ds = true → Rps K G' ds vs
  | _, _, .nil, _ => .nil
  | _, _, .cons r t, n => .cons (Rp.noF e r (ba2 n).1) (Rps.noF e t (ba2 n).2)
theorem Rpf.noF (e : NoF G G') : ∀ {ds : List (Str × D)} {vs : List (Str × V)}, Rpf K G ds vs → noKf ds = true → Rpf K G' ds vs
  | _, _, .nil, _ => .nil
  | _, _, .cons r t, n => .cons (Rp.noF e r (ba2 n).1) (Rpf.noF e t (ba2 n).2)
end
theorem Rpk.noF {κ : Type} (e : NoF G G') : ∀ {ds : List (κ × D)} {vs : List (κ × V)}, Rpk K G ds vs → noKk ds = true → Rpk K G' ds vs
  | _, _, .nil, _ => .nil
  | _, _, .cons r t, n => .cons (r.noF e (ba2 n).1) (Rpk.noF e t (ba2 n).2)
theorem RpM.noF (e : NoF G G') {m : MO} {o : HO} (h : RpM K G m o) (n : noKM m = true) : RpM K G' m o := by
  cases m with
  | lst ds => cases o with
    | lst vs => exact Rps.noF e h n
    | _ => exact h.elim
  | dK ds => cases o with
    | dK vs => exact Rpk.noF e h n
    | _ => exact h.elim
  | dT ds => cases o with
    | dT vs => exact Rpk.noF e h n
    | _ => exact h.elim
  | ins C fs => cases o with
    | ins C' dx fv => exact ⟨h.1, h.2.noF e n⟩
    | _ => exact h.elim
  | fn ob => cases o with
    | frz ob' u => exact h
    | _ => exact h.elim
end
section
variable {K : PySem.W.Frag} {G G' : Hp} {p : Addr} {kvs : List (Key × Int)}
end
section
variable {X : Cx} {W : WX} {WD : DWX} {e : Expr} {te : DTE}
end
section
variable {K : PySem.W.Frag} {X : Cx}
end
section
variable {X : Cx} {pins : List (Addr × Obj)} {σ : L2.St} {H : Hp} {s : Shared}
end
section
variable {K : PySem.W.Frag} {X : Cx}
end
section
variable {X : Cx} {W : WX} {WD : DWX} {e : Expr} {te : DTE}
end
end DL

set_option Elab.async false
set_option linter.all false
set_option maxRecDepth 100000
set_option maxHeartbeats 4000000
namespace DL
open PySem PySem.Spec PyProof.Rows L2 PySem.W
open L2H (RoomH PinOk cxH)
section
variable {prog : Program} {w : World} {A : Around} {E : Value → Shared → Prop} {s : Shared} {env : Env} {K : PySem.W.Frag} {x C fe fx : Addr} {ox : Obj} {od : Option Obj} {pos : Pos}
end
section
variable {X : Cx} {fe fx C : Addr} {fde fdx : FuncData} {ctx : Expr} {body : List Stmt} {pos : Pos} {te : TE} {tb : WX → TS} {spE spX : Sp} {spH : Addr → Addr → Option Addr → Sp} {W : WX} {k j i : Nat} {dfe dfx dfh : FuncData}
theorem ps_never {X : Cx} {st : List Stmt} : PSs X st fun _ _ _ => False := ⟨fun _ _ _ _ _ _ h => h.elim⟩
end
section
variable {X : Cx} {W : WX} {WD : DWX} {k n : Nat} {f C : Addr} {fd : FuncData} {ps ks : List Str} {sp : DSp} {dvs : List V} {dds : List D} {ds : List Value} {x : Str} {p pos : Pos} {e : Expr} {es : List Expr} {kws : List Keyword} {t tk : DTA}
end
end DL
set_option Elab.async false
set_option linter.all false
set_option maxRecDepth 100000
set_option maxHeartbeats 4000000
namespace DL
open PySem PySem.Spec PyProof.Rows L2
section
variable {K : PySem.W.Frag} {X : Cx} {W : WX} {WD : DWX} {a b o i e : Expr} {ta tb td ty tv : DTE} {pos pos' : Pos}
end
end DL

set_option Elab.async false
set_option linter.all false
set_option maxRecDepth 100000
set_option maxHeartbeats 4000000
namespace DL
open PySem PySem.Spec PyProof.Rows L2
section
variable {X : Cx} {W : WX} {WD : DWX}
end
end DL

set_option Elab.async false
set_option linter.all false
set_option maxRecDepth 100000
set_option maxHeartbeats 4000000
namespace PySem
open PyProof.Rows L2
section
variable {P : Program} {w : World} {A : Around} {E : Value → Shared → Prop} {s : Shared}
end
end PySem
namespace DL
open PySem PySem.Spec PyProof.Rows L2
section
variable {X : Cx} {W : WX} {WD : DWX}
end
end DL

set_option Elab.async false
set_option linter.all false
set_option maxRecDepth 100000
set_option maxHeartbeats 4000000
namespace ZL
open PySem PySem.Spec PyProof.Rows L2 RZ
section
variable {P : Program} {w : World} {A : Around} {E : Value → Shared → Prop} {s : Shared}
abbrev ZOut (h : Heap) (q tI tO T : Addr) (f : Bool) : Prop := h.get? q = some { cls := .type "zip", dict := none, data := .fields #[rawInt T, .bool f, .bool false, .ref tI, .ref tO], slots := #[] }
structure ZSt (h : Heap) (q tI tO j1 j2 t1 t2 : Addr) (i : Nat) (as : List Addr) : Prop where
  hI : IsPair h tI (.ref j1) (.ref j2)
  h1 : h.IsTupleIter j1 t1 i
  h2 : h.IsTupleIter j2 t2 i
  z : (as = [] ∧ IsZip h q tI tO .none ∧ ∃ x y, IsPair h tO x y) ∨ ∃ T f, ZOut h q tI tO T f ∧ T ∈ as
variable {R : Result → Shared → Prop} {vs : List (Key × Value)}
end
section
variable {X : Cx} {W : WX} {WD : DL.DWX}
open LiI (putT putT_off putT_at paired_ix)
end
end ZL
namespace DL
open PySem PySem.Spec PyProof.Rows L2 ZL
section
variable {X : Cx} {W : WX} {WD : DWX}
end
end DL

set_option Elab.async false
set_option linter.all false
set_option maxRecDepth 100000
set_option maxHeartbeats 4000000
namespace DL
open PySem PySem.Spec PyProof.Rows L2
open PySem.SeqAt
section
variable {X : Cx} {W : WX} {WD : DWX}
end
end DL

set_option Elab.async false
set_option linter.all false
set_option maxRecDepth 100000
set_option maxHeartbeats 4000000
namespace DL
open PySem PySem.Spec PyProof.Rows L2
section
variable {K : PySem.W.Frag} {X : Cx} {W : WX} {WD : DWX}
end
end DL

set_option Elab.async false
set_option linter.all false
set_option maxRecDepth 100000
set_option maxHeartbeats 4000000
namespace DL
open PySem PySem.Spec PyProof.Rows L2
open HT
section
variable {X : Cx} {W : WX} {WD : DWX}
end
end DL

set_option Elab.async false
set_option linter.all false
set_option maxRecDepth 100000
set_option maxHeartbeats 4000000
namespace DL
open PySem PySem.Spec PyProof.Rows L2 LamX
abbrev CF.nf (F : CF) : NdefX.NF := ⟨F.name, F.qual, F.params, [], F.scope, F.cl, F.c⟩
structure CloB (base : Heap) (F : CF) (fr : List Str) (a : Addr) (vs : List V) : Prop where
  ob : ∃ doc pm ctv od sl, base.get? a = some (F.ob doc pm ctv od sl)
  inj : ∀ x y c, F.cl.lookup x = some c → F.cl.lookup y = some c → x = y
  all : ∀ y c, F.cl.lookup y = some c → ∃ v, base.IsCell c v
  len : vs.length = fr.length
  has : ∀ (i : Nat) (y : Str), fr[i]? = some y → ∃ c, F.cl.lookup y = some c ∧ ∀ v, vs[i]? = some v → ∃ u, L2.RelV v u ∧ base.IsCell c (some u)
theorem CloB.cells {base h : Heap} {H : Hp} {F : CF} {fr : List Str} {a : Addr} {vs : List V} (C : CloB base F fr a vs) (bs : ∀ b o, base.get? b = some o → h.get? b = some o ∧ H b = none) : NdefX.CellsAt F.cl fr (vs.map some) h H := by
  refine ⟨by rw [List.length_map]; exact C.len, fun y c e => ?_, C.inj, fun i y e => ?_⟩
  · obtain ⟨v, o, ho, hd⟩ := C.all y c e
    obtain ⟨h1, h2⟩ := bs c o ho
    exact ⟨h2, v, o, h1, hd⟩
  · obtain ⟨c, hc, hv⟩ := C.has i y e
    refine ⟨c, hc, fun v ev => ?_⟩
    rw [List.getElem?_map] at ev
    cases q : vs[i]? with
    | none => rw [q] at ev; cases ev
    | some w =>
      rw [q] at ev
      cases ev
      obtain ⟨u, r, o, ho, hd⟩ := hv _ q
      exact ⟨u, r, o, (bs c o ho).1, hd⟩
section
variable {P : Program} {w : World} {K : Fr0} {mg : Str → Option Value} {base : Heap} {j k : Nat} {fv gv : FV}
end
section
variable {P : Program} {w : World} {K : Fr0} {mg : Str → Option Value} {base : Heap} {k : Nat} {F : CF} {fr ps N : List Str} {a : Addr} {vs : List V} {spk : List D → DSp}
end
end DL

set_option Elab.async false
set_option linter.all false
set_option maxRecDepth 100000
set_option maxHeartbeats 4000000
namespace DL
open PySem PySem.Spec PyProof.Rows L2 LamX
section
variable {X : Cx} {W : WX} {WD : DWX} {k i : Nat} {fv : FV} {x : Str} {p pos : Pos} {e : Expr} {es : List Expr} {t : DTA}
end
section
variable {X : Cx} {pins : List (Addr × Obj)} {σ : L2.St} {H : Hp} {s : Shared}
end
section
variable {X : Cx} {W : WX} {WD : DWX}
end
end DL

set_option Elab.async false
set_option linter.all false
set_option maxRecDepth 100000
set_option maxHeartbeats 4000000
namespace DL
open PySem PySem.Spec PyProof.Rows L2 LamX
section
variable {M : Model} {Γ : PySem.Ctx} {p : Pos} {t : Sem Fin} {fs : List Frame} {s s' : Shared} {e : End}
end
section
variable {α ι : Type} {M : Model}
end
end DL

set_option Elab.async false
set_option linter.all false
set_option maxRecDepth 100000
set_option maxHeartbeats 4000000
namespace DL
open PySem PySem.Spec PySem.W PyProof.Rows L2 LamX
end DL

set_option Elab.async false
set_option linter.all false
set_option maxRecDepth 100000
set_option maxHeartbeats 4000000
namespace DL
open PySem PySem.Spec PyProof.Rows L2 LamX
section
variable {X : Cx} {W : WX} {WD : DWX} {o e : Expr} {to te : DTE} {apos cpos : Pos}
end
section
variable {X : Cx} {W : WX} {WD : DWX}
end
end DL

set_option Elab.async false
set_option linter.all false
set_option maxRecDepth 100000
set_option maxHeartbeats 4000000
namespace DL
open PySem PySem.Spec PyProof.Rows L2 LamX
section
variable {P : Program} {w : World} {K : Fr0} {mg : Str → Option Value} {base : Heap} {x qual : Str} {params : Arguments} {body : List Stmt} {scope : Scope} {dvs : List V} {kws : List (Str × V)} {f : Addr} {fd : FuncData}
end
end DL

set_option Elab.async false
set_option linter.all false
set_option maxRecDepth 100000
set_option maxHeartbeats 4000000
namespace DL
open PySem PySem.Spec PySem.W PyProof.Rows L2
end DL

set_option Elab.async false
set_option linter.all false
set_option maxRecDepth 100000
set_option maxHeartbeats 4000000
namespace DL
open PySem PySem.Spec PyProof.Rows L2 LamX
def hdel (H : Hp) (a : Addr) : Hp := fun b => if b = a then none else H b
section
variable {P : Program} {w : World} {H H2 : Hp} {h h' : Heap} {a : Addr} {ob : Obj} {fs : List Addr}
end
section
variable {X : Cx} {pins : List (Addr × Obj)} {σ : L2.St} {H : Hp} {s : Shared}
end
end DL

set_option Elab.async false
set_option linter.all false
set_option maxRecDepth 100000
set_option maxHeartbeats 4000000
namespace DL
open PySem PySem.Spec PyProof.Rows L2 LamX
section
variable {X : Cx} {pins : List (Addr × Obj)} {σ : L2.St} {H : Hp} {s : Shared}
end
section
variable {X : Cx} {W : WX} {WD : DWX}
end
end DL

set_option Elab.async false
set_option linter.all false
set_option maxRecDepth 100000
set_option maxHeartbeats 4000000
namespace DL
open PySem PySem.Spec PyProof.Rows L2 LamX
section
variable {X : Cx} {W : WX} {WD : DWX} {pins : List (Addr × Obj)} {σ : L2.St} {s : Shared}
end
end DL

set_option Elab.async false
set_option linter.all false
set_option maxRecDepth 100000
set_option maxHeartbeats 4000000
namespace DL
open PySem PySem.Spec PyProof.Rows L2 LamX
end DL

set_option Elab.async false
set_option linter.all false
set_option maxRecDepth 100000
set_option maxHeartbeats 4000000
namespace DL
open PySem PySem.Spec PySem.W PyProof.Rows L2
end DL

set_option Elab.async false
set_option linter.all false
set_option maxRecDepth 100000
set_option maxHeartbeats 4000000
namespace DL
open PySem PySem.Spec PyProof.Rows L2
open He (ga ma eqO eqO_ok ba)
section
variable {X : Cx} {e : Expr} {es : List Expr} {ta : TA} {p pos : Pos}
end
section
variable {X : Cx} {W : WX} {WD : DWX} {x : Str} {p pos : Pos} {C fI : Addr} {fs ps : List Str} {k : Nat} {fd : FuncData} {e : Expr} {es : List Expr} {ta : DTA}
end
end DL

set_option Elab.async false
set_option linter.all false
set_option maxRecDepth 100000
set_option maxHeartbeats 4000000
namespace DL
open PySem PySem.Spec PyProof.Rows L2
section
variable {X : Cx} {W : WX} {WD : DWX}
end
end DL

set_option Elab.async false
set_option linter.all false
set_option maxRecDepth 100000
set_option maxHeartbeats 4000000
namespace DL
open PySem PySem.Spec PyProof.Rows L2
inductive Caps (X : Cx) : List Pattern → List Nat → List Str → Prop
  | nil : Caps X [] [] []
  | cons {i : Nat} {n : Str} {pos : Pos} {ps is ns} (hi : X.N[i]? = some n) (hx : Loc X.env.scope n) (hf : X.fn n = true ∨ X.env.scope.names.lookup n = some .local) (h : Caps X ps is ns) : Caps X (.MatchAs none (some n) pos :: ps) (i :: is) (n :: ns)
def setsD (r : DSt) : List Nat → List D → DSt
  | i :: is, d :: ds => setsD (r.set i (some d)) is ds
  | _, _ => r
def dCase (kw : Str) (is : List Nat) (t : DTS) (u : List Str → DTS) : List Str → DTS := fun ws DD r m =>
  if ws.head? = some kw ∧ ws.length = is.length + 1 then t DD (setsD r is (ws.tail.map D.str)) m else u ws DD r m
inductive DMs (X : Cx) (W : WX) (WD : DWX) : List MatchCase → (List Str → DTS) → Prop
  | last {pos : Pos} {body : List Stmt} {t : DTS} (h : DSs X W WD body t) : DMs X W WD [⟨.MatchAs none none pos, none, body⟩] (fun _ => t)
  | cons {kw : Str} {j : Nat} {p1 p2 p3 : Pos} {ps : List Pattern} {is : List Nat} {ns : List Str} {body : List Stmt} {rest : List MatchCase} {t : DTS} {u : List Str → DTS} (hp : Caps X ps is ns) (h : DSs X W WD body t) (hr : DMs X W WD rest u) :
      DMs X W WD (⟨.MatchSequence (.MatchValue (.Constant (.str kw) j p1) p2 :: ps) p3, none, body⟩ :: rest) (dCase kw is t u)
theorem PlainL.isList {h : Heap} {a : Addr} {its : Array Value} (x : PlainL h a its) : h.IsList a its := let ⟨o, n, e, c, _, d⟩ := x; ⟨o, e, c, n, d⟩
end DL

set_option Elab.async false
set_option linter.all false
set_option maxRecDepth 100000
set_option maxHeartbeats 4000000
namespace DL
open PySem PySem.Spec PyProof.Rows L2
inductive FrzG : M → List D → List D → M → Prop
  | nil (m : M) : FrzG m [] [] m
  | keep {m m' : M} {x : D} {xs ys : List D} : FrzG m xs ys m' → FrzG m (x :: xs) (x :: ys) m'
  | lst {m m' : M} {a : Addr} {ds xs ys : List D} : m a = some (.lst ds) → FrzG (mdel m a) xs ys m' → FrzG m (.ref a :: xs) (.lst ds :: ys) m'
  | tup {m m1 m' : M} {zs ws xs ys : List D} : FrzG m zs ws m1 → FrzG m1 xs ys m' → FrzG m (.tup zs :: xs) (.tup ws :: ys) m'
section
variable {X : Cx} {W : WX} {WD : DWX} {rest : List Stmt} {t : DTS}
end
end DL

set_option Elab.async false
set_option linter.all false
set_option maxRecDepth 100000
set_option maxHeartbeats 4000000
namespace DL
open PySem PySem.Spec PyProof.Rows L2
section
variable {X : Cx} {pins : List (Addr × Obj)} {σ : L2.St} {H : Hp} {s : Shared}
end
section
variable {X : Cx}
end
end DL

set_option Elab.async false
set_option linter.all false
set_option maxRecDepth 100000
set_option maxHeartbeats 4000000
namespace DL
open PySem PySem.Spec PyProof.Rows L2
section
variable {X : Cx} {W : WX} {WD : DWX}
variable {a b e : Expr} {es : List Expr} {ta : DTE} {tb : DTA} {pos p2 p3 : Pos}
end
end DL

set_option Elab.async false
set_option linter.all false
set_option maxRecDepth 100000
set_option maxHeartbeats 4000000
namespace DL
open PySem PySem.Spec PyProof.Rows L2 He
section
open PySem.W PySem.F
variable {prog : Program} {w : World} {A : Around} {E : Value → Shared → Prop} {s : Shared} {K : Frag} {x y C f : Addr} {ox oy : Obj} {od oe : Option Obj} {name : Str}
end
section
variable {X : Cx} {C : Addr}
structure CmpO (K : PySem.W.Frag) (C : Addr) : Prop where
  eq : PySem.W.findIn K (.ref C) "__eq__" = some (some (.builtin "object.__eq__"))
  ne : PySem.W.findIn K (.ref C) "__ne__" = some (some (.builtin "object.__ne__"))
  mro : PySem.W.mroIn K C (.type "object") = some true
end
section
variable {K : PySem.W.Frag}
end
section
variable {X : Cx} {W : WX} {WD : DWX} {k : Nat} {f C : Addr} {fd : FuncData} {ps ks : List Str} {sp : DSp} {x : Str} {p pos : Pos} {kws : List Keyword} {tk : DTA}
end
structure GoodR (P : Program) (w : World) (K : Fr0) (mg : Str → Option Value) (base : Heap) (k : Nat) (x : Option Str) (f : Addr) (ps : List Str) (sp : DSp) (dds : List D) (ks : List Str) : Prop where
  ex : ∃ fd, FnOk P w K mg base (L2.CX P w) k f fd ps (liftSp K sp) ∧ PySem.W.keepIn K (.ref f) = true ∧ Binds K fd ps [] ∧ KBn K fd ps 1 ks (fun us ws => us ++ ws.reverse) (fun vs zs => vs ++ zs.reverse) ∧ ∃ ds dvs, Vals dvs ds ∧ Binds K fd ps ds ∧ ∀ G, Rps K G dds dvs
  gl : match x with
    | some x => mg x = some (.ref f)
    | none => True
end DL

set_option Elab.async false
set_option linter.all false
set_option maxRecDepth 100000
set_option maxHeartbeats 4000000
namespace DL
open PySem PySem.Spec PyProof.Rows L2
section
variable {X : Cx} {W : WX} {WD : DWX} {tg iter : Expr} {body : List Stmt} {te : DTE} {g : DTG} {tb : DTS} {pos : Pos}
end
end DL

set_option Elab.async false
set_option linter.all false
set_option maxRecDepth 100000
set_option maxHeartbeats 4000000
namespace PySem
namespace HandSPX
section
variable {M : Model} {A : Around} {env : Env} {outer : List Env} {E : Value → Shared → Prop} {s : Shared} {base : Heap} {e L : Addr} {Z : Obj → Prop}
end
end HandSPX
end PySem
namespace L2
open PySem PySem.Spec PyProof.Rows
section
variable {M : Model} {A : Around} {E : Value → Shared → Prop} {s : Shared} {env : Env}
end
end L2

set_option Elab.async false
set_option linter.all false
set_option maxRecDepth 100000
set_option maxHeartbeats 4000000
namespace L2
open PySem PySem.Spec PyProof.Rows
end L2

set_option Elab.async false
set_option linter.all false
set_option maxRecDepth 100000
set_option maxHeartbeats 4000000
namespace L2
open PySem PySem.Spec PyProof.Rows
section
variable {X : Cx}
end
end L2

set_option Elab.async false
set_option linter.all false
set_option maxRecDepth 100000
set_option maxHeartbeats 4000000
namespace L2
open PySem PySem.Spec PyProof.Rows
abbrev WX.blk (W : WX) (σ : St) : WX := fun cls d _ H => W cls d σ H
section
variable {X : Cx}
end
end L2
namespace DL
open PySem PySem.Spec PyProof.Rows L2
abbrev DWX.blk (WD : DWX) (r : DSt) : DWX := fun x _ m => WD x r m
theorem Lx.blk {K : PySem.W.Frag} {W : WX} {WD : DWX} {G F : Hp} {r : DSt} {σ : L2.St} {Dl : Addr} {acc : List D} {va : List V} (rs : Rs K G r σ) (hF : F Dl = none) (ra : Rps K G acc va) (h : Lx K W WD G F) : Lx K (W.blk σ) (WD.blk r) G (upd F Dl (.lst va)) := by
  intro G' H' m' r' s' C fs d e rep _ rx w
  obtain ⟨e3, rep3, _⟩ := rep.outL hF (ra.mono e)
  exact h _ H' m' r σ C fs d (e.trans e3) rep3 (rs.mono (e.trans e3)) (rx.mono e3) w
end DL

set_option Elab.async false
set_option linter.all false
set_option maxRecDepth 100000
set_option maxHeartbeats 4000000
namespace GenF
open PySem
open Sem (wp)
def dead : GenState → GenState
  | .suspended _ l c p fs cl => .suspended (fun _ => .unsupported "asleep") l c p fs cl
  | x => x
def isSusp : GenState → Bool
  | .suspended .. => true
  | _ => false
theorem NoG.app {a b : List Frame} (h : NoG a) (g : NoG b) : NoG (a ++ b) := fun x hx => (List.mem_append.mp hx).elim (h x) (g x)
def EndOk : End → Prop
  | .susp _ _ _ _ _ _ fs => NoG fs
  | _ => True
theorem seen_dead (x : GenState) : (dead x).seen = x.seen := by cases x <;> rfl
theorem bare_dead (x : GenState) : (dead x).bare = x.bare := by cases x <;> rfl
theorem runs_unsup {M : Model} {Γ : Ctx} {p : Pos} {t : Sem PySem.Fin} {w : String} {fs : List Frame} {s s' : Shared} {e : End} (h : Runs M Γ p t fs s e s') : t = .unsupported w → False := by
  induction h with
  | segRet _ _ ih _ => exact ih
  | segGen _ _ ih _ => exact ih
  | segSuspOut _ _ ih => exact ih
  | segSuspGen _ _ _ _ ih _ => exact ih
  | _ => intro q; cases q
structure Put (I : Nat → Option GenState) (a b : Array GenState) : Prop where
  size : a.size = b.size
  at_ : ∀ i x, I i = some x → a[i]? = some (dead x) ∧ b[i]? = some x ∧ isSusp x = true
  rest : ∀ i, I i = none → a[i]? = b[i]? ∧ ∀ k l c p fs cl, a[i]? = some (.suspended k l c p fs cl) → NoG fs
section
variable {I : Nat → Option GenState} {a b : Array GenState}
theorem Put.push (P : Put I a b) (c : Code) : Put I (a.push (.fresh c)) (b.push (.fresh c)) where
  size := by rw [Array.size_push, Array.size_push, P.size]
  at_ := fun i x h => by
    obtain ⟨h1, h2, h3⟩ := P.at_ i x h
    have l1 : i < a.size := (Array.getElem?_eq_some_iff.mp h1).1
    have l2 : i < b.size := (Array.getElem?_eq_some_iff.mp h2).1
    rw [Array.getElem?_push, Array.getElem?_push, if_neg (by omega), if_neg (by omega)]
    exact ⟨h1, h2, h3⟩
  rest := fun i h => by
    obtain ⟨h1, h2⟩ := P.rest i h
    rw [Array.getElem?_push, Array.getElem?_push, P.size]
    by_cases e : i = b.size
    · rw [if_pos e, if_pos e]
      exact ⟨rfl, fun k l c p fs cl q => by cases q⟩
    · rw [if_neg e, if_neg e]
      exact ⟨h1, h2⟩
theorem Put.set (P : Put I a b) {g : Nat} {x : GenState} (hg : I g = none) (hx : ∀ k l c p fs cl, x = .suspended k l c p fs cl → NoG fs) : Put I (a.setIfInBounds g x) (b.setIfInBounds g x) where
  size := by rw [Array.size_setIfInBounds, Array.size_setIfInBounds, P.size]
  at_ := fun i y h => by
    have hne : g ≠ i := fun e => by rw [e, h] at hg; cases hg
    rw [Array.getElem?_setIfInBounds_ne hne, Array.getElem?_setIfInBounds_ne hne]
    exact P.at_ i y h
  rest := fun i h => by
    by_cases e : g = i
    · subst e
      rw [Array.getElem?_setIfInBounds_self, Array.getElem?_setIfInBounds_self, P.size]
      refine ⟨rfl, fun k l c p fs cl q => ?_⟩
      by_cases hl : g < b.size
      · rw [if_pos hl] at q
        exact hx k l c p fs cl (Option.some.inj q)
      · rw [if_neg hl] at q; cases q
    · rw [Array.getElem?_setIfInBounds_ne e, Array.getElem?_setIfInBounds_ne e]
      exact P.rest i h
theorem Put.none_of (P : Put I a b) {g : Nat} {y : GenState} (h : a[g]? = some y) (hy : isSusp y = false) : I g = none := by
  cases e : I g with
  | none => rfl
  | some x =>
    obtain ⟨h1, _, h3⟩ := P.at_ g x e
    rw [h] at h1
    cases h1
    cases x <;> first | (cases h3; done) | (cases hy; done)
theorem Put.look (P : Put I a b) {g : Nat} {y : GenState} (h : a[g]? = some y) (hy : isSusp y = false) : b[g]? = some y := by
  rw [← (P.rest g (P.none_of h hy)).1]; exact h
end
theorem lookG {I : Nat → Option GenState} {a b : Array GenState} (P : Put I a b) {g : Nat} {st : GenState} (h : a[g]? = some st) : ∃ x, b[g]? = some x ∧ x.seen = st.seen := by
  cases e : I g with
  | none => exact ⟨st, by rw [← (P.rest g e).1]; exact h, rfl⟩
  | some x =>
    obtain ⟨h1, h2, _⟩ := P.at_ g x e
    rw [h] at h1
    cases h1
    exact ⟨x, h2, (seen_dead x).symm⟩
theorem lookS {I : Nat → Option GenState} {a b : Array GenState} (P : Put I a b) {g : Nat} {k : Resume → Sem PySem.Fin} {l : List Value} {c : Code} {p : Pos} {fs : List Frame} {cl : Bool} (h : a[g]? = some (.suspended k l c p fs cl)) :
    (I g = none ∧ b[g]? = some (.suspended k l c p fs cl) ∧ NoG fs) ∨ k = fun _ => .unsupported "asleep" := by
  cases e : I g with
  | none =>
    obtain ⟨a1, a2⟩ := P.rest g e
    exact .inl ⟨rfl, by rw [← a1]; exact h, a2 _ _ _ _ _ _ h⟩
  | some x =>
    obtain ⟨h1, _, h3⟩ := P.at_ g x e
    rw [h] at h1
    cases x with
    | suspended => cases h1; exact .inr rfl
    | _ => cases h3
theorem gen_ok {e : End} (h : EndOk e) : ∀ k l c p fs cl, e.genState = .suspended k l c p fs cl → NoG fs := by
  intro k l c p fs cl q
  cases e with
  | ret => cases q
  | susp => cases q; exact h
section
variable {M : Model} {I : Nat → Option GenState}
theorem runs_put {Γ : Ctx} {p : Pos} {t : Sem PySem.Fin} {fs : List Frame} {s s' : Shared} {e : End} (h : Runs M Γ p t fs s e s') : NoG fs → ∀ b, Put I s.gens b → EndOk e ∧ ∃ b', Runs M Γ p t fs { s with gens := b } e { s' with gens := b' } ∧ Put I s'.gens b' := by
  induction h with
  | done => exact fun _ b P => ⟨trivial, b, .done, P⟩
  | raise => exact fun _ b P => ⟨trivial, b, .raise, P⟩
  | again hq _ ih => exact fun n b P => let ⟨o, b', r, q⟩ := ih n b P; ⟨o, b', .again hq r, q⟩
  | rule _ ih => exact fun n b P => let ⟨o, b', r, q⟩ := ih n b P; ⟨o, b', .rule r, q⟩
  | «at» _ ih => exact fun n b P => let ⟨o, b', r, q⟩ := ih n b P; ⟨o, b', .at r, q⟩
  | load hg _ ih => exact fun n b P => let ⟨o, b', r, q⟩ := ih n b P; ⟨o, b', .load hg r, q⟩
  | update hg _ ih => exact fun n b P => let ⟨o, b', r, q⟩ := ih n b P; ⟨o, b', .update hg r, q⟩
  | loadIfAlive _ ih => exact fun n b P => let ⟨o, b', r, q⟩ := ih n b P; ⟨o, b', .loadIfAlive r, q⟩
  | point _ ih => exact fun n b P => let ⟨o, b', r, q⟩ := ih n b P; ⟨o, b', .point r, q⟩
  | alloc _ ih => exact fun n b P => let ⟨o, b', r, q⟩ := ih n b P; ⟨o, b', .alloc r, q⟩
  | fresh _ ih => exact fun n b P => let ⟨o, b', r, q⟩ := ih n b P; ⟨o, b', .fresh r, q⟩
  | ask _ ih => exact fun n b P => let ⟨o, b', r, q⟩ := ih n b P; ⟨o, b', .ask r, q⟩
  | choose hn _ ih => exact fun n b P => let ⟨o, b', r, q⟩ := ih n b P; ⟨o, b', .choose hn r, q⟩
  | os _ ih => exact fun n b P => let ⟨o, b', r, q⟩ := ih n b P; ⟨o, b', .os r, q⟩
  | handled _ ih => exact fun n b P => let ⟨o, b', r, q⟩ := ih n b P; ⟨o, b', .handled r, q⟩
  | stack _ ih => exact fun n b P => let ⟨o, b', r, q⟩ := ih n b P; ⟨o, b', .stack r, q⟩
  | thread _ ih => exact fun n b P => let ⟨o, b', r, q⟩ := ih n b P; ⟨o, b', .thread r, q⟩
  | newGen _ ih =>
    intro n b P
    obtain ⟨o, b', r, q⟩ := ih n (b.push _) (P.push _)
    rw [P.size] at r
    exact ⟨o, b', .newGen r, q⟩
  | genState hg _ ih =>
    intro n b P
    obtain ⟨o, b', r, q⟩ := ih n b P
    obtain ⟨x, hx, es⟩ := lookG P hg
    rw [← es] at r
    exact ⟨o, b', .genState hx r, q⟩
  | call _ _ ih1 ih2 =>
    intro n b P
    obtain ⟨o1, b1, r1, q1⟩ := ih1 .nil b P
    obtain ⟨o2, b2, r2, q2⟩ := ih2 n b1 q1
    exact ⟨o2, b2, .call r1 r2, q2⟩
  | callSusp _ ih =>
    intro n b P
    obtain ⟨o1, b1, r1, q1⟩ := ih .nil b P
    refine ⟨NoG.app o1 fun F hF => ?_, b1, .callSusp r1, q1⟩
    rw [List.mem_singleton.mp hF]
    rfl
  | «yield» => exact fun _ b P => ⟨NoG.nil, b, .yield, P⟩
  | resumeFresh hg _ hq _ ih1 ih2 =>
    intro n b P
    have hI := P.none_of hg rfl
    obtain ⟨o1, b1, r1, q1⟩ := ih1 .nil (b.setIfInBounds _ .running) (P.set hI fun _ _ _ _ _ _ q => by cases q)
    obtain ⟨o2, b2, r2, q2⟩ := ih2 n (b1.setIfInBounds _ _) (q1.set hI (gen_ok o1))
    exact ⟨o2, b2, .resumeFresh (P.look hg rfl) r1 hq r2, q2⟩
  | resumeSuspended hg h1 hq _ ih1 ih2 =>
    intro n b P
    rcases lookS P hg with ⟨hI, hb, nf⟩ | hk
    · obtain ⟨o1, b1, r1, q1⟩ := ih1 nf (b.setIfInBounds _ .running) (P.set hI fun _ _ _ _ _ _ q => by cases q)
      obtain ⟨o2, b2, r2, q2⟩ := ih2 n (b1.setIfInBounds _ _) (q1.set hI (gen_ok o1))
      exact ⟨o2, b2, .resumeSuspended hb r1 hq r2, q2⟩
    · subst hk
      exact (runs_unsup h1 rfl).elim
  | resumeJustStarted hg hv _ ih => exact fun n b P => let ⟨o, b', r, q⟩ := ih n b P; ⟨o, b', .resumeJustStarted (P.look hg rfl) hv r, q⟩
  | resumeThrowFresh hg _ ih =>
    intro n b P
    have hI := P.none_of hg rfl
    obtain ⟨o, b', r, q⟩ := ih n (b.setIfInBounds _ .finished) (P.set hI fun _ _ _ _ _ _ q => by cases q)
    exact ⟨o, b', .resumeThrowFresh (P.look hg rfl) r, q⟩
  | resumeRunning hg _ ih => exact fun n b P => let ⟨o, b', r, q⟩ := ih n b P; ⟨o, b', .resumeRunning (P.look hg rfl) r, q⟩
  | resumeFinished hg _ ih => exact fun n b P => let ⟨o, b', r, q⟩ := ih n b P; ⟨o, b', .resumeFinished (P.look hg rfl) r, q⟩
  | segRet _ _ ih1 ih2 =>
    intro n b P
    obtain ⟨_, b1, r1, q1⟩ := ih1 .nil b P
    obtain ⟨o2, b2, r2, q2⟩ := ih2 n.tail b1 q1
    exact ⟨o2, b2, .segRet r1 r2, q2⟩
  | segGen _ _ _ _ => exact fun n => absurd (n _ List.mem_cons_self) (by simp [isG])
  | segSuspOut hs _ ih =>
    intro n b P
    obtain ⟨o1, b1, r1, q1⟩ := ih .nil b P
    exact ⟨NoG.app o1 n, b1, .segSuspOut hs r1, q1⟩
  | segSuspGen hs _ _ _ _ _ =>
    intro n
    rw [n.split] at hs
    cases hs
theorem wakes_put {Γ : Ctx} {p : Pos} {g : Nat} {r : Resume} {s s' : Shared} {res : GenResult} (h : Wakes M Γ p g r s res s') {b : Array GenState} (P : Put I s.gens b) : ∃ b', Wakes M Γ p g r { s with gens := b } res { s' with gens := b' } ∧ Put I s'.gens b' := by
  unfold Wakes at h ⊢
  split at h
  · exact h.elim
  · rename_i c hg
    have hI := P.none_of hg rfl
    have hb : b[g]? = _ := P.look hg rfl
    simp only [hb]
    split at h
    · obtain ⟨e1, s1, r1, hq, rfl, rfl⟩ := h
      obtain ⟨o1, b1, r1, q1⟩ := runs_put r1 .nil (b.setIfInBounds g .running) (P.set hI fun _ _ _ _ _ _ q => by cases q)
      exact ⟨_, ⟨e1, { s1 with gens := b1 }, r1, hq, rfl, rfl⟩, q1.set hI (gen_ok o1)⟩
    · obtain ⟨rfl, rfl⟩ := h
      exact ⟨b, ⟨rfl, rfl⟩, P⟩
    · obtain ⟨rfl, rfl⟩ := h
      exact ⟨_, ⟨rfl, rfl⟩, P.set hI fun _ _ _ _ _ _ q => by cases q⟩
  · rename_i hg
    rcases lookS P hg with ⟨hI, hb, nf⟩ | hk
    · have hb : b[g]? = _ := hb
      simp only [hb]
      obtain ⟨e1, s1, r1, hq, rfl, rfl⟩ := h
      obtain ⟨o1, b1, r1, q1⟩ := runs_put r1 nf (b.setIfInBounds g .running) (P.set hI fun _ _ _ _ _ _ q => by cases q)
      exact ⟨_, ⟨e1, { s1 with gens := b1 }, r1, hq, rfl, rfl⟩, q1.set hI (gen_ok o1)⟩
    · subst hk
      obtain ⟨e1, s1, r1, _⟩ := h
      exact (runs_unsup r1 rfl).elim
  · rename_i hg
    have hb : b[g]? = _ := P.look hg rfl
    simp only [hb]
    obtain ⟨rfl, rfl⟩ := h
    exact ⟨b, ⟨rfl, rfl⟩, P⟩
  · rename_i hg
    have hb : b[g]? = _ := P.look hg rfl
    simp only [hb]
    obtain ⟨rfl, rfl⟩ := h
    exact ⟨b, ⟨rfl, rfl⟩, P⟩
def Beh {α : Type} (I : Nat → Option GenState) (Q : α → Shared → Prop) : α → Shared → Prop := fun v s' => ∃ a b, Q v a ∧ Put I a.gens b ∧ s' = { a with gens := b }
theorem wp_put {α : Type} {Γ : Ctx} {Q : α → Shared → Prop} {E : Value → Shared → Prop} (t : Sem α) : ∀ (p : Pos) (s : Shared) (b : Array GenState), Put I s.gens b → Sem.wp M Γ t (fun v _ s => Q v s) (fun e _ s => E e s) p s → Sem.wp M Γ t (fun v _ s => Beh I Q v s) (fun e _ s => Beh I E e s) p { s with gens := b } := by
  induction t with
  | pure a => intro p s b P h; simp only [Sem.wp] at h ⊢; exact ⟨s, b, h, P, rfl⟩
  | raise e => intro p s b P h; simp only [Sem.wp] at h ⊢; exact ⟨s, b, h, P, rfl⟩
  | unsupported w => intro p s b P h; simp only [Sem.wp] at h
  | finish e => intro p s b P h; simp only [Sem.wp] at h
  | rule g k ih => intro p s b P h; simp only [Sem.wp] at h ⊢; exact ih _ _ _ _ P h
  | «at» q k ih => intro p s b P h; simp only [Sem.wp] at h ⊢; exact ih _ _ _ _ P h
  | load a g k ih =>
    intro p s b P h
    simp only [Sem.wp] at h ⊢
    obtain ⟨o, ho, h⟩ := h
    exact ⟨o, ho, ih _ _ _ _ P h⟩
  | update a g f k ih =>
    intro p s b P h
    simp only [Sem.wp] at h ⊢
    exact ⟨h.1, ih _ _ { s with heap := s.heap.update a f } b P h.2⟩
  | loadIfAlive a k ih => intro p s b P h; simp only [Sem.wp] at h ⊢; exact ih _ _ _ _ P h
  | point l k ih => intro p s b P h; simp only [Sem.wp] at h ⊢; exact ih _ _ _ _ P h
  | register a k ih => intro p s b P h; simp only [Sem.wp] at h
  | alloc o k ih => intro p s b P h; simp only [Sem.wp] at h ⊢; exact ih _ _ { s with heap := s.heap.push o } b P h
  | fresh k ih => intro p s b P h; simp only [Sem.wp] at h ⊢; exact ih _ _ { s with toks := s.toks + 1 } b P h
  | ask k ih => intro p s b P h; simp only [Sem.wp] at h ⊢; exact ih _ _ _ _ P h
  | choose a n k ih => intro p s b P h; simp only [Sem.wp] at h ⊢; exact ⟨h.1, ih _ _ { s with drawn := s.drawn.bump a } b P h.2⟩
  | os q l k ih => intro p s b P h; simp only [Sem.wp] at h ⊢; exact ih _ _ { s with os := (Os.step s.os q).1 } b P h
  | call c hh g l k ih =>
    intro p s b P h
    simp only [Sem.wp] at h ⊢
    obtain ⟨r, s', hr, h⟩ := h
    obtain ⟨_, b', r', q⟩ := runs_put (show Runs _ _ _ _ _ _ _ _ from hr) .nil b P
    exact ⟨r, _, r', ih _ _ s' b' q h⟩
  | handled o k ih => intro p s b P h; simp only [Sem.wp] at h ⊢; exact ih _ _ _ _ P h
  | newGen c k ih =>
    intro p s b P h
    simp only [Sem.wp] at h ⊢
    have := ih _ _ { s with gens := s.gens.push (.fresh c) } (b.push (.fresh c)) (P.push c) h
    rw [P.size] at this
    exact this
  | genState g k ih =>
    intro p s b P h
    simp only [Sem.wp] at h ⊢
    obtain ⟨o, ho, h⟩ := h
    obtain ⟨x, hx, es⟩ := lookG P ho
    rw [← es] at h
    exact ⟨x, hx, ih _ _ _ _ P h⟩
  | resume g r l k ih =>
    intro p s b P h
    simp only [Sem.wp] at h ⊢
    obtain ⟨a, s', hr, h⟩ := h
    obtain ⟨b', r', q⟩ := wakes_put hr P
    exact ⟨a, _, r', ih _ _ s' b' q h⟩
  | «yield» v g l k ih => intro p s b P h; simp only [Sem.wp] at h
  | stack k ih => intro p s b P h; simp only [Sem.wp] at h ⊢; exact ih _ _ _ _ P h
  | fork c k ih => intro p s b P h; simp only [Sem.wp] at h
  | thread k ih => intro p s b P h; simp only [Sem.wp] at h ⊢; exact ih _ _ _ _ P h
  | «await» a f d l k ih => intro p s b P h; simp only [Sem.wp] at h
end
def who (s : Shared) (i : Nat) : Option GenState := match s.gens[i]? with
  | some x => if isSusp x = true then some x else none
  | none => none
theorem who_put (s : Shared) : Put (who s) (s.gens.map dead) s.gens where
  size := Array.size_map
  at_ := fun i x h => by
    unfold who at h
    cases e : s.gens[i]? with
    | none => rw [e] at h; cases h
    | some y =>
      rw [e] at h
      by_cases hy : isSusp y = true
      · have h : (if isSusp y = true then some y else none) = some x := h
        rw [if_pos hy] at h
        cases h
        exact ⟨by rw [Array.getElem?_map, e]; rfl, rfl, hy⟩
      · have h : (if isSusp y = true then some y else none) = some x := h
        rw [if_neg hy] at h; cases h
  rest := fun i h => by
    unfold who at h
    cases e : s.gens[i]? with
    | none =>
      rw [Array.getElem?_map, e]
      exact ⟨rfl, fun _ _ _ _ _ _ q => by cases q⟩
    | some y =>
      rw [e] at h
      have h : (if isSusp y = true then some y else none) = none := h
      have hy : isSusp y ≠ true := fun hy => by rw [if_pos hy] at h; cases h
      rw [Array.getElem?_map, e]
      cases y <;> first | (exact absurd rfl hy; done) | exact ⟨rfl, fun _ _ _ _ _ _ q => by cases q⟩
def asleep (s : Shared) : Shared := { s with gens := s.gens.map dead }
open PyProof.Rows in
theorem asleep_bare {s : Shared} (h : AllBare s.gens) : AllBare (asleep s).gens := fun y hy => by
  obtain ⟨x, hx, rfl⟩ := Array.mem_map.mp hy
  rw [bare_dead]
  exact h x hx
open PyProof.Rows in
theorem put_bare {I : Nat → Option GenState} {a b : Array GenState} (P : Put I a b) (h : AllBare a) : AllBare b := fun y hy => by
  obtain ⟨i, hi, rfl⟩ := Array.mem_iff_getElem.mp hy
  have e : b[i]? = some b[i] := Array.getElem?_eq_getElem hi
  cases hI : I i with
  | none =>
    obtain ⟨h1, _⟩ := P.rest i hI
    rw [e] at h1
    exact h _ (Array.mem_of_getElem? h1)
  | some x =>
    obtain ⟨h1, h2, _⟩ := P.at_ i x hI
    rw [e] at h2
    cases h2
    rw [← bare_dead]
    exact h _ (Array.mem_of_getElem? h1)
theorem wpAny_asleep {α : Type} {M : Model} {A : Around} {t : Sem α} {Q : α → Shared → Prop} {E : Value → Shared → Prop} {s : Shared} (h : wpAny M A t Q E (asleep s)) : wpAny M A t (Beh (who s) Q) (Beh (who s) E) s :=
  fun Γ p hi => wp_put t p (asleep s) s.gens (who_put s) (h Γ p hi)
end GenF

set_option Elab.async false
set_option linter.all false
set_option maxRecDepth 100000
set_option maxHeartbeats 4000000
namespace DL
open PySem PySem.Spec PyProof.Rows L2 GenW
def cutH (h : Heap) (n : Nat) : Heap := { h with objs := h.objs.extract 0 n }
theorem cutH_lt {h : Heap} {n b : Nat} (hb : b < n) : (cutH h n).get? b = h.get? b := by
  unfold cutH Heap.get?
  simp only
  rw [Array.getElem?_extract]
  by_cases hs : b < h.objs.size
  · rw [if_pos (by omega)]
    simp
  · rw [if_neg (by omega), Array.getElem?_eq_none (by omega)]
theorem cutH_ge {h : Heap} {n b : Nat} (hb : n ≤ b) : (cutH h n).get? b = none := by
  unfold cutH Heap.get?
  simp only
  rw [Array.getElem?_extract, if_neg (by omega)]
theorem cutH_of {h : Heap} {n b : Nat} {o : Obj} (e : (cutH h n).get? b = some o) : b < n ∧ h.get? b = some o := by
  by_cases hb : b < n
  · exact ⟨hb, by rw [← cutH_lt hb]; exact e⟩
  · rw [cutH_ge (by omega)] at e; cases e
theorem cutH_size {h : Heap} {n : Nat} (hn : n ≤ h.objs.size) : (cutH h n).objs.size = n := by
  show (h.objs.extract 0 n).size = n
  rw [Array.size_extract]
  omega
theorem funFrames_cut {base h : Heap} {n : Nat} : ∀ {l : List Env}, h.FunFrames base l → (∀ b ∈ frs l, b < n) → (cutH h n).FunFrames base l
  | [], _, _ => trivial
  | env :: l, hl, hb => by
    obtain ⟨hk, ⟨L, o, hf, hn, ho, hd⟩, hr⟩ := hl
    have hL : L < n := hb L (List.mem_filterMap.mpr ⟨env, List.mem_cons_self, hf⟩)
    exact ⟨hk, ⟨L, o, hf, hn, by rw [cutH_lt hL]; exact ho, hd⟩, funFrames_cut hr fun b h => hb b (by
      obtain ⟨e, he, q⟩ := List.mem_filterMap.mp h
      exact List.mem_filterMap.mpr ⟨e, List.mem_cons_of_mem _ he, q⟩)⟩
def cutS (s : Shared) (n : Nat) : Shared := { s with heap := cutH s.heap n }
abbrev Cx.re (X : Cx) (s : Shared) (H : Hp) : Cx := { X with s_0 := cutS s X.env.locals, H_0 := H }
structure Aw (X : Cx) (F : Hp) (m : M) (priv : List (Addr × Obj)) (s : Shared) (G : Hp) (s' : Shared) (H' G' : Hp) : Prop where
  os : s'.os = s.os
  bare : AllBare s'.gens
  keep : ∀ p ∈ priv, s'.heap.get? p.1 = some p.2 ∧ H' p.1 = none
  hok : HOk X.prog X.w H' s'.heap
  same : Same G G'
  rep : Rep X.K G' H' F m
  bs : ∀ b o, X.base.get? b = some o → s'.heap.get? b = some o ∧ H' b = none
  funs : s'.heap.FunFrames X.base X.outer
  frf : ∀ b ∈ X.fs, H' b = none
structure GenX (X : Cx) : Prop where
  ex : X.ex = []
  nc : ∀ x, X.env.cells.lookup x = none
  xe : ∀ e s, X.xe e s → False
theorem rebase {X : Cx} (g : GenX X) {F : Hp} {m : M} {ip : List (Addr × Obj)} {sA s s' : Shared} {HA H G H' G' : Hp} {σ : L2.St} {oL : Obj} (I : Inv (Cx.re X sA HA) ip σ H s) (hL : s.heap.get? X.env.locals = some oL)
    (w : Aw X F m ((X.env.locals, oL) :: (X.pn ++ ip)) s G s' H' G') : Inv (Cx.re X s' H') ip σ H' s' := by
  have kL := w.keep _ List.mem_cons_self
  have lt : X.env.locals < s'.heap.objs.size := Heap.lt_size kL.1
  have sz : (cutH s'.heap X.env.locals).objs.size = X.env.locals := cutH_size (Nat.le_of_lt lt)
  have szA : (cutH sA.heap X.env.locals).objs.size ≤ X.env.locals := I.ok.above
  have bz : X.base.objs.size ≤ X.env.locals := Nat.le_trans I.ok.bsz szA
  have fz : ∀ b ∈ X.fs, b < X.env.locals := fun b hb => by
    obtain ⟨_, o, ho, _⟩ := I.ok.funs.mem hb
    exact (cutH_of ho).1
  have nox : ∀ b : Addr, b ∉ X.ex := fun b => by rw [g.ex]; exact List.not_mem_nil
  have noc : ∀ {p : Prop} {x : Str} {c : Addr}, X.env.cells.lookup x = some c → p := fun {p x c} e => by rw [g.nc] at e; cases e
  refine ⟨⟨I.ok.mod, I.ok.kind, I.ok.glob, I.ok.blt, Nat.le_of_eq sz, I.ok.inj, I.ok.has, fun x c _ e => noc e, I.ok.hd, I.ok.frames, I.ok.stk, I.ok.exf, fun b o e => ?_, by show _ ≤ (cutH s'.heap X.env.locals).objs.size; rw [sz]; exact bz, fun b o _ => nox b, fun b hb => absurd hb (nox b), funFrames_cut w.funs fz, w.frf⟩,
    rfl, w.bare, Un.kept fun b o e => (cutH_of e).2, ?_, fun x c e => noc e, kL.2, fun x c e => noc e, fun p hp => ?_, w.hok, I.len⟩
  · obtain ⟨h1, h2⟩ := w.bs b o e
    have hb : b < X.env.locals := Nat.lt_of_lt_of_le (Heap.lt_size e) bz
    exact ⟨(cutH_lt hb).trans h1, h2⟩
  · obtain ⟨mm, ⟨o, es, ep, ho, hd, hk⟩, q⟩ := I.loc
    have ho : s.heap.get? X.env.locals = some o := ho
    have e : o = oL := by rw [hL] at ho; exact (Option.some.inj ho).symm
    subst e
    refine ⟨mm, ⟨o, es, ep, kL.1, hd, hk⟩, fun i x v h1 h2 h3 => ?_⟩
    obtain ⟨u, r, lk⟩ := q i x v h1 h2 h3
    refine ⟨u, r, ?_⟩
    rcases lk with lk | ⟨_, c, hc, _⟩
    · exact .inl lk
    · exact noc hc
  · obtain ⟨_, _, h3, h4, h5⟩ := I.pin p hp
    obtain ⟨k1, k2⟩ := w.keep p (List.mem_cons_of_mem _ hp)
    exact ⟨k1, k2, h3, h4, h5⟩
def GRun (g : GP) (ip : List (Addr × Obj)) (Gb : Hp) (j : Nat) (r : DSt) (mm : M) (s₀ s : Shared) : Prop :=
  ∃ F H0 G0 G H σ, g.X.env.locals ≤ s₀.heap.objs.size ∧ g.CW j s₀ H0 G0 F ∧ Same Gb G ∧ Same G0 G ∧ Inv (Cx.re g.X s₀ H0) ip σ H s ∧ Rep g.X.K G H F mm ∧ Rs g.X.K G r σ
def DY (g : GP) : Protocol := fun n s₀ v s kap => ∃ (j : Nat) (F H0 G0 G H : Hp) (d : D) (x : V) (priv : List (Addr × Obj)), n + 1 + j = sizeLine ∧ g.CW j s₀ H0 G0 F ∧ Same G0 G ∧ s.os = s₀.os ∧ AllBare s.gens ∧
  Un g.X.fs [] H0 H (cutH s₀.heap g.X.env.locals) s.heap ∧ HOk g.X.prog g.X.w H s.heap ∧ Rep g.X.K G H F g.m ∧ Rp g.X.K G d x ∧ RelV x v ∧ g.ys[j]? = some d ∧
  (∀ p ∈ priv, s.heap.get? p.1 = some p.2 ∧ H p.1 = none ∧ g.X.env.locals ≤ p.1 ∧ ∀ v, p.2.data ≠ .cell v) ∧ (∀ p ∈ g.X.pn, p ∈ priv) ∧
  ∀ s' H' G' F', Aw g.X F' g.m priv s G s' H' G' → g.CW (j + 1) s' H' G' F' → kap (.send .none) s'
abbrev DRF (g : GP) (s₀ s : Shared) : Prop := ∃ F H0 G0 G H, g.CW g.ys.length s₀ H0 G0 F ∧ Same G0 G ∧ s.os = s₀.os ∧ AllBare s.gens ∧
  Un g.X.fs [] H0 H (cutH s₀.heap g.X.env.locals) s.heap ∧ HOk g.X.prog g.X.w H s.heap ∧ Rep g.X.K G H F g.m ∧ ∀ p ∈ g.X.pn, s.heap.get? p.1 = some p.2
def DR (g : GP) : GenEnd := fun n s₀ r s => (r = .ok (.ret .none) ∨ r = .ok .next) ∧ DRF g s₀ s
structure GD where
  nx : Nat → DSt → M → Prop
  bk : Nat → DSt → M → Prop := fun _ _ _ => False
  ct : Nat → DSt → M → Prop := fun _ _ _ => False
abbrev DGn := GD → Nat → DSt → M → Prop
def GSPd (g : GP) (ip : List (Addr × Obj)) (Gb : Hp) (DD : GD) (j : Nat) (f : Flow) (s₀ s : Shared) : Prop := match f with
  | .next => ∃ r mm, GRun g ip Gb j r mm s₀ s ∧ DD.nx j r mm
  | .brk => ∃ r mm, GRun g ip Gb j r mm s₀ s ∧ DD.bk j r mm
  | .cont => ∃ r mm, GRun g ip Gb j r mm s₀ s ∧ DD.ct j r mm
  | .ret _ => False
structure GCd (g : GP) (A : Around) (c : Code) (fs : List Frame) (gd : Bool → Bool) : Prop where
  over : A.over c fs = g.X.A
  split : splitAtGen fs = none
  guard : fs.any Frame.guarded = false
  gd : gd false = false
def GKd (g : GP) (ip : List (Addr × Obj)) (Gb : Hp) (A : Around) (R : GenEnd) (c : Code) (fs : List Frame) (K : Flow → Sem PySem.Fin) (DD : GD) : Prop :=
  ∀ (n j : Nat) (s₀ s : Shared) (f : Flow), n + j = sizeLine → GSPd g ip Gb DD j f s₀ s → Seg (model g.X.prog g.X.w) A R (DY g) n s₀ c (K f) fs s
def IpOk (g : GP) (ip : List (Addr × Obj)) : Prop := ∀ p ∈ g.X.pn ++ ip, g.X.env.locals < p.1
structure DGS (g : GP) (st : Stmt) (t : DGn) : Prop where
  run : ∀ (A : Around) (ip : List (Addr × Obj)) (Gb : Hp) (R : GenEnd) (n j : Nat) (s₀ : Shared) (c : Code) (fs : List Frame) (K : Flow → Sem PySem.Fin) (J : Value → Sem PySem.Fin) (gd : Bool → Bool) (lv : List Value → List Value) (s : Shared) (r : DSt) (mm : M) (DD : GD),
    IpOk g ip → GCd g A c fs gd → n + j = sizeLine → GKd g ip Gb A R c fs K DD → GRun g ip Gb j r mm s₀ s → t DD j r mm → Seg (model g.X.prog g.X.w) A R (DY g) n s₀ c ((exec st g.X.env).wrap K J gd lv) fs s
structure DGSs (g : GP) (st : List Stmt) (t : DGn) : Prop where
  run : ∀ (A : Around) (ip : List (Addr × Obj)) (Gb : Hp) (R : GenEnd) (n j : Nat) (s₀ : Shared) (c : Code) (fs : List Frame) (K : Flow → Sem PySem.Fin) (J : Value → Sem PySem.Fin) (gd : Bool → Bool) (lv : List Value → List Value) (s : Shared) (r : DSt) (mm : M) (DD : GD),
    IpOk g ip → GCd g A c fs gd → n + j = sizeLine → GKd g ip Gb A R c fs K DD → GRun g ip Gb j r mm s₀ s → t DD j r mm → Seg (model g.X.prog g.X.w) A R (DY g) n s₀ c ((execs st g.X.env).wrap K J gd lv) fs s
section
variable {g : GP} {st : Stmt} {rest : List Stmt} {pos : Pos}
def gPl (t : DTS) : DGn := fun DD j r m => t { nx := DD.nx j, rt := fun _ _ => False, bk := DD.bk j, ct := DD.ct j } r m
def endsG (g : GP) (F G0 Gb : Hp) (DD : GD) (j : Nat) : Ends where
  nx := fun σ H => ∃ G r m, Same Gb G ∧ Same G0 G ∧ Rep g.X.K G H F m ∧ Rs g.X.K G r σ ∧ DD.nx j r m
  rt := fun _ _ => False
  bk := fun σ H => ∃ G r m, Same Gb G ∧ Same G0 G ∧ Rep g.X.K G H F m ∧ Rs g.X.K G r σ ∧ DD.bk j r m
  ct := fun σ H => ∃ G r m, Same Gb G ∧ Same G0 G ∧ Rep g.X.K G H F m ∧ Rs g.X.K G r σ ∧ DD.ct j r m
theorem lk_ends {F G0 Gb G : Hp} {DD : GD} {j : Nat} (eb : Same Gb G) (e : Same G0 G) : Lk g.X.K G F { nx := DD.nx j, rt := fun _ _ => False, bk := DD.bk j, ct := DD.ct j } (endsG g F G0 Gb DD j) where
  nx := fun G' H' m' r' s' e' rep rs q => ⟨G', r', m', eb.trans e', e.trans e', rep, rs, q⟩
  rt := fun _ _ _ _ _ _ _ _ q => q.elim
  bk := fun G' H' m' r' s' e' rep rs q => ⟨G', r', m', eb.trans e', e.trans e', rep, rs, q⟩
  ct := fun G' H' m' r' s' e' rep rs q => ⟨G', r', m', eb.trans e', e.trans e', rep, rs, q⟩
theorem sp_gspd {ip : List (Addr × Obj)} {j : Nat} {s₀ s : Shared} {F H0 G0 Gb : Hp} {DD : GD} {f : Flow} (hz : g.X.env.locals ≤ s₀.heap.objs.size) (cw : g.CW j s₀ H0 G0 F) (h : SP (Cx.re g.X s₀ H0) ip (endsG g F G0 Gb DD j) f s) : GSPd g ip Gb DD j f s₀ s := by
  cases f with
  | next => obtain ⟨σ, H, I, G, r, m, eb, e, rep, rs, q⟩ := h; exact ⟨r, m, ⟨F, H0, G0, G, H, σ, hz, cw, eb, e, I, rep, rs⟩, q⟩
  | brk => obtain ⟨σ, H, I, G, r, m, eb, e, rep, rs, q⟩ := h; exact ⟨r, m, ⟨F, H0, G0, G, H, σ, hz, cw, eb, e, I, rep, rs⟩, q⟩
  | cont => obtain ⟨σ, H, I, G, r, m, eb, e, rep, rs, q⟩ := h; exact ⟨r, m, ⟨F, H0, G0, G, H, σ, hz, cw, eb, e, I, rep, rs⟩, q⟩
  | ret u => obtain ⟨v, σ, H, I, r, q⟩ := h; exact q
theorem dgs_plain (gx : GenX g.X) {t : DTS} (h : ∀ s H, DS (Cx.re g.X s H) W0 WD0 st t) : DGS g st (gPl t) := by
  refine ⟨fun A ip Gb R n j s₀ c fs K J gd lv s r mm DD hip gc hn k hI ht => ?_⟩
  obtain ⟨F, H0, G0, G, H, σ, hz, cw, eb, e, I, rep, rs⟩ := hI
  refine seg_wrap ?_
  rw [gc.over]
  refine wpAny_mono ((h s₀ H0).run ip s σ H (endsG g F G0 Gb DD j) I ⟨G, F, r, mm, _, ⟨rep, rs, Lx.no⟩, ht, lk_ends eb e⟩) (fun f s' hs => k n j s₀ s' f hn (sp_gspd hz cw hs)) fun x s' hx => (gx.xe _ _ hx).elim
def gNil : DGn := fun DD j r m => DD.nx j r m
theorem dgss_nil : DGSs g [] gNil := by
  refine ⟨fun A ip Gb R n j s₀ c fs K J gd lv s r mm DD hip gc hn k hI ht => ?_⟩
  exact seg_execs_nil (k n j s₀ s .next hn ⟨r, mm, hI, ht⟩)
def gSeq (t u : DGn) : DGn := fun DD j r m => t { DD with nx := u DD } j r m
theorem dgss_cons {t u : DGn} (a : DGS g st t) (b : DGSs g rest u) : DGSs g (st :: rest) (gSeq t u) := by
  refine ⟨fun A ip Gb R n j s₀ c fs K J gd lv s r mm DD hip gc hn k hI ht => ?_⟩
  refine seg_execs_cons (a.run A ip Gb R n j s₀ c fs _ J gd lv s r mm _ hip gc hn (fun n' j' s₀' s' f hn' hs => ?_) hI ht)
  cases f with
  | next =>
    obtain ⟨r', m', I', q⟩ := hs
    exact b.run A ip Gb R n' j' s₀' c fs K J gd lv s' r' m' DD hip gc hn' k I' q
  | brk => exact k n' j' s₀' s' .brk hn' hs
  | cont => exact k n' j' s₀' s' .cont hn' hs
  | ret u => exact hs.elim
theorem dgss_one {t : DGn} (a : DGS g st t) : DGSs g [st] t := by
  refine ⟨fun A ip Gb R n j s₀ c fs K J gd lv s r mm DD hip gc hn k hI ht => ?_⟩
  refine (dgss_cons a dgss_nil).run A ip Gb R n j s₀ c fs K J gd lv s r mm DD hip gc hn k hI ?_
  exact ht
def gIf (c : DTT) (t u : DGn) : DGn := fun DD j r m => c r m fun b m1 => if b = true then t DD j r m1 else u DD j r m1
theorem dgs_if (gx : GenX g.X) {test : Expr} {body orelse : List Stmt} {tc : DTT} {t u : DGn} (hc : ∀ s H, DT (Cx.re g.X s H) W0 WD0 test tc) (ht : DGSs g body t) (hu : DGSs g orelse u) : DGS g (.If test body orelse pos) (gIf tc t u) := by
  refine ⟨fun A ip Gb R n j s₀ c fs K J gd lv s r mm DD hip gc hn k hI ht' => ?_⟩
  obtain ⟨F, H0, G0, G, H, σ, hz, cw, eb, e, I, rep, rs⟩ := hI
  rw [exec_If]
  refine seg_bind_wrap (wpAny_standAt ?_)
  refine seg_bind_wrap ?_
  rw [gc.over]
  refine wpAny_mono ((hc s₀ H0).run ip s σ H (fun b H' => ∃ G' m', Same Gb G' ∧ Same G0 G' ∧ Rep g.X.K G' H' F m' ∧ Rs g.X.K G' r σ ∧ if b = true then t DD j r m' else u DD j r m') I ⟨G, F, r, mm, _, ⟨rep, rs, Lx.no⟩, ht', fun G' H' m' b e' rep' q => ⟨G', m', eb.trans e', e.trans e', rep', rs.mono e', q⟩⟩) (fun b s' hs => ?_) fun x s' hx => (gx.xe _ _ hx).elim
  obtain ⟨H', I', G', m', eb', e', rep', rs', q⟩ := hs
  cases b with
  | true =>
    rw [if_pos rfl] at q ⊢
    exact ht.run A ip Gb R n j s₀ c fs K J gd lv s' r m' DD hip gc hn k ⟨F, H0, G0, G', H', σ, hz, cw, eb', e', I', rep', rs'⟩ q
  | false =>
    rw [if_neg Bool.false_ne_true] at q ⊢
    exact hu.run A ip Gb R n j s₀ c fs K J gd lv s' r m' DD hip gc hn k ⟨F, H0, G0, G', H', σ, hz, cw, eb', e', I', rep', rs'⟩ q
def gYield (ys : List D) (m0 : M) (te : DTE) : DGn := fun DD j r m => j < sizeLine ∧ te r m fun d m1 => (ys[j]? = some d ∧ m1 = m0) ∧ DD.nx (j + 1) r m1
theorem dgs_yield (gx : GenX g.X) {e : Expr} {yp : Pos} {te : DTE} (he : ∀ s H, DE (Cx.re g.X s H) W0 WD0 e te) (hco : g.X.env.scope.isCoroutine = false) (hi : interactive g.X.env = false) : DGS g (.Expr (.Yield (some e) yp) pos) (gYield g.ys g.m te) := by
  refine ⟨fun A ip Gb R n j s₀ c fs K J gd lv s r mm DD hip gc hn k hI ht => ?_⟩
  obtain ⟨F, H0, G0, G, H, σ, hz, cw, eb, e0, I, rep, rs⟩ := hI
  obtain ⟨hlt, ht⟩ := ht
  obtain ⟨n, rfl⟩ : ∃ m, n = m + 1 := ⟨n - 1, by omega⟩
  refine seg_Expr_Yield gc.split gc.gd gc.guard ?_ hco hi
  rw [gc.over]
  refine wpAny_mono ((he s₀ H0).run ip s σ H (fun x H' => ∃ G' m' d, Same Gb G' ∧ Same G0 G' ∧ Rep g.X.K G' H' F m' ∧ Rs g.X.K G' r σ ∧ Rp g.X.K G' d x ∧ (g.ys[j]? = some d ∧ m' = g.m) ∧ DD.nx (j + 1) r m') I
    ⟨G, F, r, mm, _, ⟨rep, rs, Lx.no⟩, ht, fun G' H' m' d v e' rep' rp q => ⟨G', m', d, eb.trans e', e0.trans e', rep', rs.mono e', rp, q⟩⟩) (fun v s' hv => ?_) fun x s' hx => (gx.xe _ _ hx).elim
  obtain ⟨x, H1, I1, rv, G1, m1, d, eb1, e1, rep1, rs1, rp1, ⟨hd, rfl⟩, q⟩ := hv
  obtain ⟨mL, ⟨oL, es, ep, hoL, hdL, hkL⟩, _⟩ := I1.loc
  have hoL : s'.heap.get? g.X.env.locals = some oL := hoL
  intro kap hk
  refine ⟨j, F, H0, G0, G1, H1, d, x, (g.X.env.locals, oL) :: (g.X.pn ++ ip), hn, cw, e1, I1.os, I1.bare, ?_, I1.hok, rep1, rp1, rv, hd, fun p hp => ?_, fun p hp => List.mem_cons_of_mem _ (List.mem_append_left _ hp), fun s'' H'' G'' F'' w cw' => hk .none s'' ?_⟩
  · have b := I1.base
    have hex : (Cx.re g.X s₀ H0).ex = [] := gx.ex
    rw [hex] at b
    exact b
  · rcases List.mem_cons.mp hp with rfl | hp
    · exact ⟨hoL, I1.free, Nat.le_refl _, fun v q => by rw [hdL] at q; cases q⟩
    · obtain ⟨h1, h2, _, _, h5⟩ := I1.pin p hp
      exact ⟨h1, h2, Nat.le_of_lt (hip p hp), h5⟩
  · have J := rebase gx I1 hoL w
    exact k n (j + 1) s'' s'' .next (by omega) ⟨r, g.m, ⟨F'', H'', G'', G'', H'', σ, Nat.le_of_lt (Heap.lt_size (w.keep _ List.mem_cons_self).1), cw', eb1.trans w.same, Same.refl _, J, w.rep, rs1.mono w.same⟩, q⟩
end
end DL

set_option Elab.async false
set_option linter.all false
set_option maxRecDepth 100000
set_option maxHeartbeats 4000000
namespace DL
open PySem PySem.Spec PyProof.Rows L2 GenW
section
variable {prog : Program} {w : World} {A : Around} {R : GenEnd} {Y : Protocol} {n : Nat} {s₀ : Shared} {fs : List Frame} {s : Shared} {env : Env} {c : Code} {K : Flow → Sem PySem.Fin} {J : Value → Sem PySem.Fin} {gd : Bool → Bool} {lv : List Value → List Value}
theorem seg_runOwn {c' : Code} (h : ∀ p, Seg (model prog w) A R Y n s₀ c' ((model prog w).den c') (.ret (fun r => ((match r with | .ok f => (.pure f : Sem Flow) | .error e => .raise e).onRaise (cameBack env)).wrap K J gd lv) none (gd false) (lv []) c p [] :: fs) s) :
    Seg (model prog w) A R Y n s₀ c ((runOwn c' env).wrap K J gd lv) fs s := seg_call h
theorem seg_forLoop {tg : Expr} {it : Value} {body : List Stmt}
    (h : wpAny (model prog w) (A.over (.forLoop tg it body [] env) fs) (pyNext it) (fun r s1 => match r with
      | none => Seg (model prog w) A R Y n s₀ (.block [] env) (leafOf (.ok .next)) fs s1
      | some v => wpAny (model prog w) (A.over (.forLoop tg it body [] env) fs) (letOwnedTupleGo tg it v) (fun _ s2 => wpAny (model prog w) (A.over (.forLoop tg it body [] env) fs) (assign tg env v) (fun _ s3 =>
          Seg (model prog w) A R Y n s₀ (.forLoop tg it body [] env) ((execs body env).wrap (fun f => match f with
            | .next | .cont => .pure (.again (.forLoop tg it body [] env))
            | .brk => .pure (.done .next)
            | .ret v => .pure (.done (.ret v))) (fun e => (do noteFrame e env; theTreesLotGoes e : Sem Unit).wrap (fun _ => .raise e) .raise id id) id id) fs s3) (fun _ _ => False) s2) (fun _ _ => False) s1) (fun _ _ => False) s) :
    Seg (model prog w) A R Y n s₀ (.forLoop tg it body [] env) ((model prog w).den (.forLoop tg it body [] env)) fs s := by
  show Seg _ A R Y n s₀ _ ((forTurn tg it body [] env).onRaise (fun x => do noteFrame x env; theTreesLotGoes x)) fs s
  unfold forTurn
  rw [Sem.onRaise_eq_wrap]
  refine seg_bind_wrap (wpAny_standAt ?_)
  refine seg_bind_wrap (wpAny_onRaise (wpAny_mono h (fun r s1 h1 => ?_) fun _ _ x => x.elim))
  cases r with
  | none =>
    show Seg _ A R Y n s₀ _ (.pure (.again (.block [] env))) fs s1
    exact seg_again rfl h1
  | some v =>
    show Seg _ A R Y n s₀ _ ((letOwnedTupleGo tg it v >>= fun _ => _).wrap _ _ _ _) fs s1
    refine seg_bind_wrap (wpAny_mono h1 (fun _ s2 h2 => ?_) fun _ _ x => x.elim)
    refine seg_bind_wrap (wpAny_mono h2 (fun _ s3 h3 => ?_) fun _ _ x => x.elim)
    rw [Sem.bind_eq_wrap', Sem.wrap_wrap]
    rw [Sem.wrap_congr (execs body env) _ _ (K' := fun f => match f with
            | .next | .cont => .pure (.again (.forLoop tg it body [] env))
            | .brk => .pure (.done .next)
            | .ret v => .pure (.done (.ret v))) (H' := (fun e => (do noteFrame e env; theTreesLotGoes e : Sem Unit).wrap (fun _ => .raise e) .raise id id))
        (fun f => by cases f <;> rfl)
        (fun e => by first | exact Sem.bind_eq_wrap _ _ | (show (do noteFrame e env; theTreesLotGoes e : Sem Unit).bind (fun _ => .raise e) = _; rw [Sem.bind_eq_wrap]))]
    exact h3
end
section
variable {g : GP} {pos : Pos}
def gFor (ti : DTI) (gg : DTG) (tb : DGn) : DGn := fun DD j r m => ti r m fun ds m1 => ∃ P : Nat → Nat → DSt → M → Prop, P 0 j r m1 ∧
  (∀ (i : Nat) (d : D) (j : Nat) (r : DSt) (m : M), ds[i]? = some d → P i j r m → gg d r m fun r2 m2 => tb { nx := P (i + 1), ct := P (i + 1), bk := DD.nx } j r2 m2) ∧ ∀ j r m, P ds.length j r m → DD.nx j r m
theorem gc_for {A : Around} {c c' : Code} {fs : List Frame} {gd : Bool → Bool} {k : Result → Sem PySem.Fin} {l kp : List Value} {p : Pos} (gc : GCd g A c fs gd) (hw : c'.weight = 0) (hu : c'.cUnits = 0) : GCd g A c' (.ret k none (gd false) l c p kp :: fs) id where
  over := (over_loop hw hu).trans gc.over
  split := by
    show (splitAtGen fs).map _ = none
    rw [gc.split]; rfl
  guard := by
    show (gd false || fs.any Frame.guarded) = false
    rw [gc.gd, gc.guard]; rfl
  gd := rfl
theorem dgs_for (gx : GenX g.X) (hcalm : g.X.calm = true) {tg iter : Expr} {body : List Stmt} {ti : DTI} {gg : DTG} {tb : DGn} (hi : ∀ s H, DI (Cx.re g.X s H) W0 WD0 tg iter ti) (hg : ∀ s H, DG (Cx.re g.X s H) W0 WD0 tg gg) (hb : DGSs g body tb)
    (hs : ∀ x, foldedSetIterable iter g.X.env x = pure x := by intro _; rfl) : DGS g (.For tg iter body [] pos) (gFor ti gg tb) := by
  refine ⟨fun A ip Gb R n j s₀ c fs K J gd lv s r mm DD hip gc hn k hI ht => ?_⟩
  obtain ⟨F, H0, G0, G, H, σ, hz, cw, eb0, e0, I, rep, rs⟩ := hI
  rw [exec_For]
  refine seg_bind_wrap (wpAny_standAt ?_)
  refine seg_bind_wrap ?_
  rw [gc.over]
  refine wpAny_mono ((hi s₀ H0).run ip s σ H (fun Jt H' => ∃ G' m' ds, Same Gb G' ∧ Same G0 G' ∧ Rep g.X.K G' H' F m' ∧ Rs g.X.K G' r σ ∧ ItD g.X.K Jt G' ds ∧ ∃ P : Nat → Nat → DSt → M → Prop, P 0 j r m' ∧
    (∀ (i : Nat) (d : D) (j : Nat) (r : DSt) (m : M), ds[i]? = some d → P i j r m → gg d r m fun r2 m2 => tb { nx := P (i + 1), ct := P (i + 1), bk := DD.nx } j r2 m2) ∧ ∀ j r m, P ds.length j r m → DD.nx j r m) I
    ⟨G, F, r, mm, _, ⟨rep, rs, Lx.no⟩, ht, fun G' H' m' ds Jt e' rep' it q => ⟨G', m', ds, eb0.trans e', e0.trans e', rep', rs.mono e', it, q⟩⟩) (fun v s1 hv => ?_) fun x s' hx => (gx.xe _ _ hx).elim
  refine seg_bind_wrap (wpAny_of_eq (hs v) ?_)
  refine seg_bind_wrap (wpAny_standAt ?_)
  refine seg_bind_wrap (wpAny_holding ?_)
  rw [gc.over]
  refine wpAny_mono hv (fun itv s2 h2 => ?_) fun x s' hx => (gx.xe _ _ hx).elim
  obtain ⟨it, fp, tn, Jt, H2, rfl, I2, T, st2, f2, G2, m2, ds, eb2, e2, rep2, rs2, itd, P, p0, turn, done⟩ := h2
  have szc : (cutH s₀.heap g.X.env.locals).objs.size = g.X.env.locals := cutH_size hz
  have fpL : ∀ b ∈ fp, g.X.env.locals < b ∧ b ∉ g.X.fs ∧ ∀ p ∈ g.X.pn ++ ip, p.1 ≠ b := fun b hb => by
    obtain ⟨_, q1, q2, q3, _, q5⟩ := f2 b hb
    have q3 : b ∈ g.X.ex ∨ (cutH s₀.heap g.X.env.locals).objs.size ≤ b := q3
    rw [gx.ex, szc] at q3
    have q3 := q3.resolve_left List.not_mem_nil
    have q1 : b ≠ g.X.env.locals := q1
    exact ⟨Nat.lt_of_le_of_ne q3 (Ne.symm q1), q2, q5⟩
  have fpOk : ∀ {s₀' : Shared} {H0' H' : Hp}, g.X.env.locals ≤ s₀'.heap.objs.size → (∀ b ∈ fp, H' b = none) → ∀ b ∈ fp, FpOk (Cx.re g.X s₀' H0') ip H' b := fun {s₀' H0' H'} hz' hn b hb => by
    obtain ⟨q1, q2, q3⟩ := fpL b hb
    refine ⟨hn b hb, Nat.ne_of_gt q1, q2, .inr ?_, fun x c e => absurd (show g.X.env.cells.lookup x = some c from e) (by rw [gx.nc]; exact fun q => by cases q), q3⟩
    show (cutH s₀'.heap g.X.env.locals).objs.size ≤ b
    rw [cutH_size hz']
    exact Nat.le_of_lt q1
  refine seg_runOwn fun p => ?_
  have gl := fun (kk : Result → Sem PySem.Fin) => gc_for (k := kk) (c' := .forLoop tg (.ref it) body [] g.X.env) (l := lv []) (kp := []) (p := p) gc rfl rfl
  have loop : ∀ (mz n j : Nat) (s₀ s : Shared) (i : Nat) (F H0 G0 G H : Hp) (σ : L2.St) (r : DSt) (m : M), mz + i = ds.length → n + j = sizeLine → g.X.env.locals ≤ s₀.heap.objs.size → g.CW j s₀ H0 G0 F → Same G0 G → Same G2 G → Inv (Cx.re g.X s₀ H0) ip σ H s → Rep g.X.K G H F m → Rs g.X.K G r σ → tn i s.heap → (∀ b ∈ fp, H b = none) → P i j r m →
      Seg (model g.X.prog g.X.w) A R (DY g) n s₀ (.forLoop tg (.ref it) body [] g.X.env) ((model g.X.prog g.X.w).den (.forLoop tg (.ref it) body [] g.X.env))
        (.ret (fun r => ((match r with | .ok f => (.pure f : Sem Flow) | .error e => .raise e).onRaise (cameBack g.X.env)).wrap K J gd lv) none (gd false) (lv []) c p [] :: fs) s := by
    intro mz
    induction mz with
    | zero =>
      intro n j s₀ s i F H0 G0 G H σ r m hi hn hz cw e0 e2 I rep rs st fr pw
      have hi : i = ds.length := by omega
      subst hi
      refine seg_forLoop ?_
      rw [(gl _).over]
      refine wpAny_mono (T.done (Cx.re g.X s₀ H0) rfl rfl rfl hcalm ds.length ip s σ H (fun _ _ => False) I (fpOk hz fr) st (itd.stop H (e2.trans rep.ext))) (fun q s1 hq => ?_) fun _ _ x => x.elim
      obtain ⟨rfl, I1⟩ := hq
      exact seg_leaf (.ok .next) (k n j s₀ s1 .next hn ⟨r, m, ⟨F, H0, G0, G, H, σ, hz, cw, eb2.trans e2, e0, I1, rep, rs⟩, done j r m pw⟩)
    | succ mz ih =>
      intro n j s₀ s i F H0 G0 G H σ r m hi hn hz cw e0 e2 I rep rs st fr pw
      have hlt : i < ds.length := by omega
      refine seg_forLoop ?_
      rw [(gl _).over]
      refine wpAny_mono (T.item (Cx.re g.X s₀ H0) rfl rfl rfl hcalm i ip s σ H (fun _ _ => False) I (fpOk hz fr) st (itd.go i H hlt (e2.trans rep.ext))) (fun q s1 hq => ?_) fun _ _ x => x.elim
      obtain ⟨u, rfl, hq⟩ := hq
      refine wpAny_mono hq (fun _ s3 h3 => ?_) fun _ _ x => x.elim
      obtain ⟨x, H3, I3, r3, y3, st3, fr3⟩ := h3
      obtain ⟨G3, e3, rep3, p3⟩ := itd.yld i G H F m x H3 ds[i] e2 rep (by simp [hlt]) y3
      have I3' := I3.pinned (fpOk hz fr3) (T.obj _ _ st3)
      refine wpAny_mono ((hg s₀ H0).run (ip ++ pinsAt fp s3.heap) s3 σ H3 x u (fun σ' H' => ∃ G' r' m', Same G3 G' ∧ Rep g.X.K G' H' F m' ∧ Rs g.X.K G' r' σ' ∧ tb { nx := P (i + 1), ct := P (i + 1), bk := DD.nx } j r' m') I3' r3
        ⟨G3, F, r, m, ds[i], _, ⟨rep3, rs.mono e3, Lx.no⟩, p3, turn i ds[i] j r m (by simp [hlt]) pw, fun G' H' m' r' s' e' rep' rs' q => ⟨G', r', m', e', rep', rs', q⟩⟩) (fun _ s4 h4 => ?_) fun _ _ hx => (gx.xe _ _ hx).elim
      obtain ⟨σ4, H4, I4, G4, r4, m4, e4, rep4, rs4, q4⟩ := h4
      have hip' : IpOk g (ip ++ pinsAt fp s3.heap) := fun p hp => by
        rcases List.mem_append.mp hp with hp | hp
        · exact hip p (List.mem_append_left _ hp)
        · rcases List.mem_append.mp hp with hp | hp
          · exact hip p (List.mem_append_right _ hp)
          · exact (fpL _ (of_pinsAt hp).1).1
      refine hb.run A (ip ++ pinsAt fp s3.heap) G4 R n j s₀ _ _ _ _ id id s4 r4 m4 _ hip' (gl _) hn (fun n' j' s₀' s5 f hn' hs5 => ?_) ⟨F, H0, G0, G4, H4, σ4, hz, cw, Same.refl _, (e0.trans e3).trans e4, I4, rep4, rs4⟩ q4
      have again : ∀ r' m', GRun g (ip ++ pinsAt fp s3.heap) G4 j' r' m' s₀' s5 → P (i + 1) j' r' m' → Seg (model g.X.prog g.X.w) A R (DY g) n' s₀' (.forLoop tg (.ref it) body [] g.X.env) (.pure (.again (.forLoop tg (.ref it) body [] g.X.env)))
          (.ret (fun r => ((match r with | .ok f => (.pure f : Sem Flow) | .error e => .raise e).onRaise (cameBack g.X.env)).wrap K J gd lv) none (gd false) (lv []) c p [] :: fs) s5 := fun r' m' hr q => by
        obtain ⟨F', H0', G0', G', H', σ', hz', cw', eb', e0', I', rep', rs'⟩ := hr
        have e2' : Same G2 G' := ((e2.trans e3).trans e4).trans eb'
        refine seg_again rfl (ih n' j' s₀' s5 (i + 1) F' H0' G0' G' H' σ' r' m' (by omega) hn' hz' cw' e0' e2' I'.unpinned rep' rs' (T.keep _ _ _ st3 fun b hb o e => (I'.pin (b, o) (List.mem_append_right _ (List.mem_append_right _ (mem_pinsAt hb e)))).1) (fun b hb => ?_) q)
        obtain ⟨o, e, d⟩ := T.obj _ _ st3 b hb
        exact (I'.pin (b, o) (List.mem_append_right _ (List.mem_append_right _ (mem_pinsAt hb e)))).2.1
      cases f with
      | next => obtain ⟨r', m', hr, q⟩ := hs5; exact again r' m' hr q
      | cont => obtain ⟨r', m', hr, q⟩ := hs5; exact again r' m' hr q
      | brk =>
        obtain ⟨r', m', hr, q⟩ := hs5
        obtain ⟨F', H0', G0', G', H', σ', hz', cw', eb', e0', I', rep', rs'⟩ := hr
        exact seg_leaf (.ok .next) (k n' j' s₀' s5 .next hn' ⟨r', m', ⟨F', H0', G0', G', H', σ', hz', cw', eb2.trans (((e2.trans e3).trans e4).trans eb'), e0', I'.unpinned, rep', rs'⟩, q⟩)
      | ret v => exact hs5.elim
  exact loop ds.length n j s₀ s2 0 F H0 G0 G2 H2 σ r m2 (by omega) hn hz cw e2 (Same.refl _) I2 rep2 rs2 st2 (fun b hb => (f2 b hb).1) p0
end
end DL

set_option Elab.async false
set_option linter.all false
set_option maxRecDepth 100000
set_option maxHeartbeats 4000000
namespace DL
open PySem PySem.Spec PyProof.Rows L2 GenW
def gxOf (P : Program) (w : World) (K : PySem.W.Frag) (mg : Str → Option Value) (base : Heap) (N : List Str) (qual : Str) (scope : Scope) (f : Addr) (cd : Value) (A : Around) (outer : List Env) (s : Shared) (H : Hp) (pn : List (Addr × Obj)) : Cx :=
  { cxOf (L2.CX P w) P w K mg base N qual scope f cd A outer s H (fun _ _ _ => False) with pn := pn, xe := fun _ _ => False }
theorem cutS_self (s : Shared) : cutS s s.heap.objs.size = s := by
  unfold cutS cutH
  simp
def GMadeD (P : Program) (w : World) (K : PySem.W.Frag) (mg : Str → Option Value) (base : Heap) (k : Nat) (outer : List Env) (H : Hp) (s : Shared) (G F : Hp) (m : M) (Q : List D → Prop) (u : Value) (s' : Shared) : Prop :=
  ∃ (N : List Str) (qual : Str) (scope : Scope) (f : Addr) (cd : Value) (a : Addr) (go : Obj) (g : Nat) (c : Code) (oL : Obj) (ys : List D), u = .ref a ∧ s.heap.objs.size < a ∧ s'.heap.get? a = some go ∧ (∀ h : Heap, h.get? a = some go → h.IsGen a g) ∧ (∀ v, go.data ≠ .cell v) ∧ s'.gens[g]? = some (.fresh c) ∧ s'.os = s.os ∧ AllBare s'.gens ∧
    (∀ b o, s.heap.get? b = some o → s'.heap.get? b = some o) ∧ s'.heap.get? s.heap.objs.size = some oL ∧ (∀ v, oL.data ≠ .cell v) ∧ Q ys ∧ ys.length < sizeLine ∧
    (∀ A H0, Cx.re (gxOf P w K mg base N qual scope f cd A outer s H [(a, go)]) s H0 = { gxOf P w K mg base N qual scope f cd A outer s H [(a, go)] with H_0 := H0 }) ∧
    ∀ (A : Around) (CW : Nat → Shared → Hp → Hp → Hp → Prop) (s2 : Shared) (H2 G2 F2 : Hp), Room k A → A.frames = some outer → Aw (gxOf P w K mg base N qual scope f cd A outer s H [(a, go)]) F2 m [(s.heap.objs.size, oL), (a, go)] s' G s2 H2 G2 → CW 0 s2 H2 G2 F2 →
      Seg (model P w) A (DR ⟨gxOf P w K mg base N qual scope f cd A outer s H [(a, go)], m, ys, CW⟩) (DY ⟨gxOf P w K mg base N qual scope f cd A outer s H [(a, go)], m, ys, CW⟩) sizeLine s2 c ((model P w).den c) [] s2
structure GFnD (P : Program) (w : World) (K : PySem.W.Frag) (mg : Str → Option Value) (base : Heap) (k : Nat) (f : Addr) (fd : FuncData) (ps : List Str) (sp : DSpG) : Prop where
  len : ∀ ds m Q, sp ds m Q → ds.length = ps.length
  run : ∀ (A : Around) (outer : List Env) (s : Shared) (H G F : Hp) (m : M) (args : Args) (us : List Value) (vs : List V) (ds : List D) (Q : List D → Prop), Room k A → Env0 P w K mg base A outer s H → BindsTo s fd args (ps.zip us) → Vals vs us → Rep K G H F m → Rps K G ds vs → sp ds m Q →
    codeAny (model P w) A (.call (.ref f) args) (fun r s' => match r with | .ok (.ret u) => GMadeD P w K mg base k outer H s G F m Q u s' | _ => False) s
theorem gfnD_of {P : Program} {w : World} {K : PySem.W.Frag} {mg : Str → Option Value} {base : Heap} {k : Nat} {f : Addr} {name qual : Str} {params : Arguments} {body : List Stmt} {scope : Scope} {dV kV doc pm cdv ct oc : Value} {an od : Option Addr}
    {osl : Array (Option Value)} {N ps : List Str} {sp : DSpG} (lk : K.lookup f = some ⟨oc, od, .func (PySem.W.fnOf name qual params body scope dV kV doc pm an cdv ct), osl⟩) (hcd : PySem.W.codeIn K cdv qual = true) (S : GScope N ps scope)
    (hnc2 : ∀ n, cellsFrom n scope.names [] = []) (len : ∀ ds m Q, sp ds m Q → ds.length = ps.length) (t : List D → M → DGn)
    (hbody : ∀ (g : GP) (A : Around) (outer : List Env) (s : Shared) (H : Hp) (pn : List (Addr × Obj)), g.X = gxOf P w K mg base N qual scope f cdv A outer s H pn → Room k (A.deeper (envOfC qual scope s.heap.objs.size f cdv)) → DGSs g body (t g.ys g.m))
    (pure_ : ∀ ds m Q, sp ds m Q → ∃ ys, Q ys ∧ ys.length < sizeLine ∧ t ys m { nx := fun j _ m' => j = ys.length ∧ m' = m } 0 (startD N ds) m) :
    GFnD P w K mg base (k + 1) f (PySem.W.fnOf name qual params body scope dV kV doc pm an cdv ct) ps sp := by
  refine ⟨len, fun A outer s H G F m args us vs ds Q hr e0 hb r rep rps hsp => ?_⟩
  have hl : vs.length = ps.length := by rw [← rps.length]; exact len _ _ _ hsp
  obtain ⟨ys, hQ, hlt, ht⟩ := pure_ ds m Q hsp
  have KX : K.In s.heap := e0.mod.kin.keeps fun b o e => (e0.bs b o e).1
  have lim : s.heap.NoLimit := e0.mod.nolimit.keeps fun b o e => (e0.bs b o e).1
  have hkind : ∀ y ∈ ps.zip us, scope.names.lookup y.1 = some .local ∨ (scope.names.lookup y.1 = some .cell ∧ ((cellsFrom (s.heap.objs.size + 1) scope.names []).lookup y.1).isSome = true) := fun ⟨n, v⟩ hy => by
    rcases S.par n (List.of_mem_zip hy).1 with q | q
    · exact .inl q
    · exact .inr ⟨q, PySem.W.cellsFrom_some _ _ _ (.inl q)⟩
  refine codeAny_call_generator hr.depth (KX _ _ lk) rfl S.co S.gen rfl (PySem.W.codeRec_of KX hcd) (hb _ _ _ _ ?_)
  refine wpAny_newFunctionEnv_cells S.kind hkind fun env he s1 x => ?_
  subst he
  have lim1 : s1.heap.NoLimit := lim.keeps x.toInCall.keep
  refine ⟨lim1, ?_⟩
  obtain ⟨h1, tk, es1, hk1⟩ := x.done
  have os1 : s1.os = s.os := by rw [es1]
  have gen1 : s1.gens = s.gens := by rw [es1]
  have lt1 : s.heap.objs.size < s1.heap.objs.size := x.toInCall.ns.lt
  have kp1 : ∀ b o, s.heap.get? b = some o → s1.heap.get? b = some o := x.toInCall.keep
  have main : ∀ (go : Obj) (nm qn : Value) (tk2 : Nat), go.cls = .type "generator" → go.data = .fields #[.int s1.gens.size 0, nm, qn] → go.slots = #[] → (∀ h : Heap, (h.push go).get? h.objs.size = some go) →
      GMadeD P w K mg base (k + 1) outer H s G F m Q (.ref s1.heap.objs.size) { s1 with gens := s1.gens.push (.fresh (.func body (envOfC qual scope s.heap.objs.size f cdv))), toks := tk2, heap := s1.heap.push go } := by
    intro go nm qn tk2 hgc hgd0 hgs hgp
    have hgen : ∀ h : Heap, h.get? s1.heap.objs.size = some go → h.IsGen s1.heap.objs.size s1.gens.size := fun h e => ⟨go, nm, qn, e, hgc, hgd0, hgs⟩
    have hpushed : (s1.heap.push go).get? s1.heap.objs.size = some go := hgp _
    have hgd : ∀ v, go.data ≠ .cell v := fun v q => by rw [hgd0] at q; cases q
    obtain ⟨oL, esL, epL, hoL, hdL, hkL⟩ := x.toInCall.ns
    have hoL2 : (s1.heap.push go).get? s.heap.objs.size = some oL := Heap.get?_push_of_some _ hoL
    have hba : AllBare (s1.gens.push (.fresh (.func body (envOfC qual scope s.heap.objs.size f cdv)))) := AllBare.push (by rw [gen1]; exact e0.bare) rfl
    refine ⟨N, qual, scope, f, cdv, s1.heap.objs.size, go, s1.gens.size, _, oL, ys, rfl, lt1, hpushed, hgen, hgd, Array.getElem?_push_size .., os1, hba, fun b o e => Heap.get?_push_of_some _ (kp1 b o e), hoL2, fun v q => (by rw [hdL] at q; cases q), hQ, hlt, fun A H0 => ?_, ?_⟩
    · show ({ gxOf P w K mg base N qual scope f cdv A outer s H [(s1.heap.objs.size, go)] with s_0 := cutS s s.heap.objs.size, H_0 := H0 } : Cx) = _
      rw [cutS_self]
      rfl
    intro Aw' CW s2 H2 G2 F2 hrw hfr w' cw
    have e0w : Env0 P w K mg base Aw' outer s H := ⟨hfr, e0.mod, e0.bs, e0.bsz, e0.funs, e0.frf, e0.hok, e0.bare⟩
    have I1 : Inv (gcxOf P w K mg base N qual scope f cdv Aw' outer s H (fun _ _ _ => False) []) [] (L2.start N vs) H s1 := inv_startG S hrw.hd e0w hl r x
    have kp : ∀ b o, s1.heap.get? b = some o → (s1.heap.push go).get? b = some o := fun b o e => Heap.get?_push_of_some _ e
    have I2 : Inv (gcxOf P w K mg base N qual scope f cdv Aw' outer s H (fun _ _ _ => False) []) [] (L2.start N vs) H { s1 with gens := s1.gens.push (.fresh (.func body (envOfC qual scope s.heap.objs.size f cdv))), toks := tk2, heap := s1.heap.push go } :=
      I1.call' (ch := []) rfl (Un.kept kp) (I1.hok.kept kp) hba fun b z => by simp at z
    have I3 : Inv (Cx.re (gxOf P w K mg base N qual scope f cdv Aw' outer s H [(s1.heap.objs.size, go)]) s H) [] (L2.start N vs) H { s1 with gens := s1.gens.push (.fresh (.func body (envOfC qual scope s.heap.objs.size f cdv))), toks := tk2, heap := s1.heap.push go } := by
      have eX : Cx.re (gxOf P w K mg base N qual scope f cdv Aw' outer s H [(s1.heap.objs.size, go)]) s H = gxOf P w K mg base N qual scope f cdv Aw' outer s H [(s1.heap.objs.size, go)] := by
        show ({ gxOf P w K mg base N qual scope f cdv Aw' outer s H [(s1.heap.objs.size, go)] with s_0 := cutS s s.heap.objs.size, H_0 := H } : Cx) = _
        rw [cutS_self]
        rfl
      rw [eX]
      refine ⟨⟨I2.ok.mod, I2.ok.kind, I2.ok.glob, I2.ok.blt, I2.ok.above, I2.ok.inj, I2.ok.has, I2.ok.cab, I2.ok.hd, I2.ok.frames, I2.ok.stk, I2.ok.exf, I2.ok.bs, I2.ok.bsz, I2.ok.noex, I2.ok.exfs, I2.ok.funs, I2.ok.frf⟩, I2.os, I2.bare, I2.base, I2.loc, I2.cell, I2.free, I2.freeC, fun p hp => ?_, I2.hok, I2.len⟩
      have hp : p ∈ [(s1.heap.objs.size, go)] ++ ([] : List (Addr × Obj)) := hp
      rw [List.append_nil] at hp
      rw [List.mem_singleton.mp hp]
      exact ⟨hpushed, I1.hok.fresh (Nat.le_refl _), Nat.ne_of_gt lt1, I1.nofs (Nat.le_refl _), hgd⟩
    have gx : GenX (gxOf P w K mg base N qual scope f cdv Aw' outer s H [(s1.heap.objs.size, go)]) := ⟨rfl, fun y => by show (cellsFrom (s.heap.objs.size + 1) scope.names []).lookup y = none; rw [hnc2]; rfl, fun _ _ h => h⟩
    have J := rebase gx I3 hoL2 w'
    have hb := hbody ⟨gxOf P w K mg base N qual scope f cdv Aw' outer s H [(s1.heap.objs.size, go)], m, ys, CW⟩ Aw' outer s H _ rfl (hrw.deeper _)
    refine seg_func ?_
    refine hb.run Aw' [] G2 (DR ⟨gxOf P w K mg base N qual scope f cdv Aw' outer s H [(s1.heap.objs.size, go)], m, ys, CW⟩) sizeLine 0 s2 _ [] _ _ id id s2 (startD N ds) m _ (fun p hp => ?_) ⟨over_func, rfl, rfl, rfl⟩ (Nat.add_zero _) (fun n j s₀ s' fl hn hs => ?_)
      ⟨F2, H2, G2, G2, H2, _, Nat.le_of_lt (Heap.lt_size (w'.keep _ List.mem_cons_self).1), cw, Same.refl _, Same.refl _, J, w'.rep, (rs_start rps).mono w'.same⟩ ht
    · have hp : p ∈ [(s1.heap.objs.size, go)] ++ ([] : List (Addr × Obj)) := hp
      rw [List.append_nil] at hp
      rw [List.mem_singleton.mp hp]
      exact lt1
    · cases fl with
      | next =>
        obtain ⟨r', mm, ⟨F0, H0, G0, G', H', σ', hz, cw', eb, e0', I, rep', rs'⟩, rfl, rfl⟩ := hs
        exact seg_end (.ok (.ret .none)) ⟨.inl rfl, F0, H0, G0, G', H', cw', e0', I.os, I.bare, I.base, I.hok, rep', fun p hp => (I.pin p (List.mem_append_left _ hp)).1⟩
      | brk => obtain ⟨_, _, _, q⟩ := hs; exact q.elim
      | cont => obtain ⟨_, _, _, q⟩ := hs; exact q.elim
      | ret u => exact hs.elim
  exact main _ _ _ _ rfl rfl rfl fun h => Heap.get?_push_size _ rfl
end DL

set_option Elab.async false
set_option linter.all false
set_option maxRecDepth 100000
set_option maxHeartbeats 4000000
namespace DL
open PySem PySem.Spec PyProof.Rows L2 GenW GenF
section
def goesN (M : Model) (A : Around) (R : GenEnd) (Y : Protocol) (y : GenState) : Nat → Resume → Shared → Prop
  | 0 => fun _ _ => False
  | j + 1 => fun r t => y.Goes M A R Y j r t
theorem resume_s {M : Model} {A : Around} {R : GenEnd} {Y : Protocol} {n : Nat} {E : Value → Shared → Prop} {s : Shared} {i : Nat} {x : GenState} {r : Resume} {l : List Value} {α : Type} {k : GenResult → Sem α} {Q : α → Shared → Prop} (hx : s.gens[i]? = some x) (hgo : x.Goes M A R Y n r (s.setGen i .running))
    (hend : ∀ u t, R n (s.setGen i .running) u t → wpAny M A (k (End.ret u).result) Q E (t.setGen i .finished))
    (hout : ∀ v t y, y.bare = true → isSusp y = true → Y (n - 1) (s.setGen i .running) v t (goesN M A R Y y n) → wpAny M A (k (.yielded v)) Q E (t.setGen i y)) :
    wpAny M A (.resume i r l k) Q E s := by
  intro Γ p hΓ
  rw [Sem.wp_resume]
  have behind : ∀ e t, SegEnd R Y n (Seg.next M A R Y n) (s.setGen i .running) e t → e.quiet = true ∧ Sem.wp M Γ (k e.result) (fun a _ s' => Q a s') (fun e _ s' => E e s') p (t.setGen i e.genState) := fun e t he => by
    cases e with
    | ret u => exact ⟨rfl, hend u t he Γ p hΓ⟩
    | susp v g₀ l₀ k₀ c₀ p₀ fs₀ =>
      refine ⟨he.1, hout v t _ (End.bare_of_quiet he.1) rfl ?_ Γ p hΓ⟩
      cases n with
      | zero => exact he.2
      | succ j => exact he.2
  cases x with
  | running => exact hgo.elim
  | finished => exact hgo.elim
  | fresh c =>
    obtain ⟨rfl, hs⟩ := hgo
    obtain ⟨e, t, hr, he⟩ := seg_iff.mp hs (Γ.wake c p) p rfl (hΓ.wake c p)
    obtain ⟨q1, q2⟩ := behind e t he
    refine ⟨_, _, ?_, q2⟩
    unfold Wakes
    rw [hx]
    exact ⟨e, t, hr, q1, rfl, rfl⟩
  | suspended k₀ l₀ c₀ p₀ fs₀ cl =>
    obtain ⟨e, t, hr, he⟩ := seg_iff.mp hgo (Γ.wake c₀ p) p₀ rfl (hΓ.wake c₀ p)
    obtain ⟨q1, q2⟩ := behind e t he
    refine ⟨_, _, ?_, q2⟩
    unfold Wakes
    rw [hx]
    exact ⟨e, t, hr, q1, rfl, rfl⟩
end
section
variable {P : Program} {w : World} {A : Around} {E : Value → Shared → Prop} {s : Shared}
theorem next_s {a : Addr} {i n : Nat} {x : GenState} {F : Nat → Shared → Shared → Prop} {Y : Protocol} {Q : Option Value → Shared → Prop} (hh : A.handled = none) (hl : s.heap.NoLimit) (hroom : A.depth < recursionLimit) (hg : s.heap.IsGen a i) (hx : s.gens[i]? = some x)
    (hgo : x.Goes (model P w) A.in1 (fun n s₀ r s₁ => (r = .ok (.ret .none) ∨ r = .ok .next) ∧ F n s₀ s₁) Y n (.send .none) (s.setGen i .running))
    (hout : ∀ v t y, y.bare = true → isSusp y = true → Y (n - 1) (s.setGen i .running) v t (goesN (model P w) A.in1 (fun n s₀ r s₁ => (r = .ok (.ret .none) ∨ r = .ok .next) ∧ F n s₀ s₁) Y y n) → Q (some v) (t.setGen i y))
    (hend : ∀ t, F n (s.setGen i .running) t → ∀ h', (∀ b o, t.heap.get? b = some o → h'.get? b = some o) → Q none { t.setGen i .finished with heap := h' }) :
    wpAny (model P w) A (pyNext (.ref a)) Q E s := by
  unfold pyNext
  refine wpAny_bind (wpAny_attempt (wpAny_callSpecial?_slot (name := Str.ofString "__next__") hg.typeIs slot_gen_next (wpAny_call_entry slot_gen_next hg.typeIs entry_gen_next ?_ (args_gen_next _))))
  show wpAny _ A.in1 (Builtin.Generator.genWake (.ref a) (.send .none)) _ _ s
  unfold Builtin.Generator.genWake
  refine wpAny_bind (wpAny_holding (wpAny_genNumber hg (wpAny_bind (wpAny_genState hx ?_))))
  cases x with
  | running => exact hgo.elim
  | finished => exact hgo.elim
  | _ =>
    refine wpAny_bind (wpAny_roomToWake hl hroom ?_)
    show wpAny _ A.in1 (.resume i (.send .none) [] _) _ _ s
    refine resume_s hx hgo (fun u t hu => ?_) (fun v t y hb hs hv => ?_)
    · obtain ⟨hr, hp⟩ := hu
      have hres : End.result (.ret u) = .returned .none := by rcases hr with rfl | rfl <;> rfl
      first | rw [hres] | simp only [hres]
      show wpAny _ A.in1 (newExc (.type "StopIteration") [] >>= _) _ _ _
      refine wpAny_bind ?_
      simp only [newExc, newTuple]
      refine wpAny_bind (wpAny_newObj_type ?_ (by size_fits))
      refine wpAny_bind (m := firstArgMember _ _) (wpAny_of_eq (a := Value.none) (by first | rfl | (simp only [firstArgMember]; rfl)) ?_)
      refine wpAny_newObj_type ?_ (by size_fits)
      simp only [raiseNew]
      refine wpAny_bind (wpAny_bind (wpAny_handled ?_))
      first | rw [show A.in1.handled = none from hh] | rw [hh]
      refine wpAny_throw ?_
      refine wpAny_bind (wpAny_isInstance (T := "StopIteration") (b := true) ⟨_, Heap.get?_push_size _ rfl, rfl⟩ isSubtype_stop ?_)
      exact wpAny_pure (hend t hp _ fun b o hb => Heap.get?_push_of_some _ (Heap.get?_push_of_some _ hb))
    · exact wpAny_pure ⟨v, rfl, wpAny_pure (hout v t y hb hs hv)⟩
end
end DL

set_option Elab.async false
set_option linter.all false
set_option maxRecDepth 100000
set_option maxHeartbeats 4000000
namespace DL
open PySem PySem.Spec PyProof.Rows L2 GenW GenF
theorem Inv.gens {X : Cx} {pins : List (Addr × Obj)} {σ : L2.St} {H : Hp} {s : Shared} {g : Array GenState} (I : Inv X pins σ H s) (hb : AllBare g) : Inv X pins σ H { s with gens := g } :=
  I.call' (ch := []) rfl Un.refl I.hok hb fun b z => by simp at z
theorem inv_xe {X : Cx} {f f' : Value → Shared → Prop} {pins : List (Addr × Obj)} {σ : L2.St} {H : Hp} {s : Shared} (I : Inv { X with xe := f } pins σ H s) : Inv { X with xe := f' } pins σ H s :=
  ⟨⟨I.ok.mod, I.ok.kind, I.ok.glob, I.ok.blt, I.ok.above, I.ok.inj, I.ok.has, I.ok.cab, I.ok.hd, I.ok.frames, I.ok.stk, I.ok.exf, I.ok.bs, I.ok.bsz, I.ok.noex, I.ok.exfs, I.ok.funs, I.ok.frf⟩, I.os, I.bare, I.base, I.loc, I.cell, I.free, I.freeC, I.pin, I.hok, I.len⟩
abbrev Cx.nox (X : Cx) : Cx := { X with xe := fun _ _ => False }
theorem run_asleep {α : Type} {M : Model} {A : Around} {t : Sem α} {Q : α → Shared → Prop} {s : Shared} (h : wpAny M A t Q (fun _ _ => False) (asleep s)) :
    wpAny M A t (fun v s' => ∃ a, Q v a ∧ s' = { a with gens := s'.gens } ∧ (∀ (i : Nat) (x : GenState), s.gens[i]? = some x → isSusp x = true → s'.gens[i]? = some x) ∧ (AllBare a.gens → AllBare s'.gens)) (fun _ _ => False) s := by
  refine wpAny_mono (wpAny_asleep h) (fun v s' q => ?_) fun e s' q => ?_
  · obtain ⟨a, b, hq, P, rfl⟩ := q
    refine ⟨a, hq, rfl, fun i x hx hs => ?_, fun hb => put_bare P hb⟩
    have hw : who s i = some x := by
      unfold who
      rw [hx]
      show (if isSusp x = true then some x else none) = some x
      rw [if_pos hs]
    exact (P.at_ i x hw).2.1
  · obtain ⟨_, _, hq, _⟩ := q
    exact hq.elim
def dLoopM (gg : DTG) (tb : DTS) (ys : List D) (m : M) : DTS := fun DD r mm => mm = m ∧ ∃ P : Nat → DSt → Prop, P 0 r ∧
  (∀ (j : Nat) (d : D) (r : DSt), ys[j]? = some d → P j r → gg d r m fun r2 m2 => tb { DD with nx := fun r' m' => m' = m ∧ P (j + 1) r', ct := fun r' m' => m' = m ∧ P (j + 1) r', bk := DD.nx } r2 m2) ∧ ∀ r, P ys.length r → DD.nx r m
def dForG (sp : DSpG) (ta : DTA) (gg : DTG) (tb : DTS) : DTS := fun DD r m => ta r m fun ds m1 => sp ds m1 fun ys => dLoopM gg tb ys m1 DD r m1
section
variable {X : Cx} {W : WX} {WD : DWX} {k : Nat} {f : Addr} {fd : FuncData} {ps : List Str} {sp : DSpG} {x : Str} {p pos cpos : Pos} {e : Expr} {es : List Expr} {t : DTA} {tg : Expr} {body : List Stmt} {gg : DTG} {tb : DTS}
theorem ds_forG (F : GFnD X.prog X.w X.K X.mg X.base k f fd ps sp) (hp : PassesOwn (model X.prog X.w) X.A X.env X.xe) (hc : X.calm = true) (hr : Room (k + 1) X.A) (hg : Gl X x) (hm : X.mg x = some (.ref f)) (hk : PySem.W.keepIn X.K (.ref f) = true) (hb : Binds X.K fd ps [])
    (ha : DA X W WD (e :: es) t) (htg : DG (Cx.nox X) W0 WD0 tg gg) (hbd : DSs (Cx.nox X) W0 WD0 body tb) (hdb : (x == ("__debug__" : Str)) = false := by decide) (he : starEach (e :: es) X.env = (false, eval e X.env) :: starEach es X.env := by rfl) (hpl : (backTo cpos (starEach es X.env)).any (·.1) = false := by rfl)
    (hs : ∀ v, foldedSetIterable (.Call (.Name x p) (e :: es) [] cpos) X.env v = pure v := by intro _; rfl) :
    DS X W WD (.For tg (.Call (.Name x p) (e :: es) [] cpos) body [] pos) (dForG sp t gg tb) := by
  refine ⟨fun pins s σ H E I h => ?_⟩
  obtain ⟨G, Fh, r, m, DD, sx, tt, kk⟩ := h
  refine wpAny_For ?_ hs
  refine wpAny_Call_Name_kw (ld_glob I hg hm ?_ hdb)
  refine PySem.W.callWith_K (h₀ := X.base) I.ok.mod.kin hk (thn (ha.run cpos pins s σ H (fun vs H' => ∃ G' m' ds, Same G G' ∧ Rep X.K G' H' Fh m' ∧ Rps X.K G' ds vs ∧ sp ds m' fun ys => dLoopM gg tb ys m' DD r m') I ⟨G, Fh, r, m, _, sx, tt, fun G' H' m' ds vs e1 r1 p1 q => ⟨G', m', ds, e1, r1, p1, q⟩⟩) fun us s1 hus => ?_) he hpl
  obtain ⟨vs, H1, I1, rv1, G1, m1, ds, e1, rep1, rp1, hsp⟩ := hus
  refine ⟨I1.kIn, ?_⟩
  have hl : (us ++ ([] : List Value)).length = ps.length := by rw [List.append_nil, ← rv1.length, ← rp1.length]; exact F.len _ _ _ hsp
  have b1 := hb s1 us I1.kIn hl
  rw [List.append_nil] at b1
  refine wpAny_call (codeAny_mono (F.run X.A X.stack s1 H1 G1 Fh m1 ⟨us, []⟩ us vs ds _ (hr.mono (Nat.le_succ k)) I1.env0 b1 rv1 rep1 rp1 hsp) fun rr s2 hq => ?_)
  cases rr with
  | error e => exact hq.elim
  | ok fl =>
  cases fl with
  | next => exact hq.elim
  | brk => exact hq.elim
  | cont => exact hq.elim
  | ret u =>
  obtain ⟨N, qual, scope, fa, cd, a, go, gi, c, oL, ys, rfl, hLa, hgo, hgen, hgc, hgs, hos, hba, hkp, hoL, hLc, ⟨_, P, p0, turn, done⟩, hys, _, wake⟩ := hq
  refine wpAny_pyIter_gen (hgen _ hgo) ?_
  have lt : X.env.locals < s1.heap.objs.size := I1.lt
  have sz : X.s_0.heap.objs.size ≤ s1.heap.objs.size := I1.sz
  have clt : ∀ y c, X.env.cells.lookup y = some c → c < s1.heap.objs.size := fun y c q => by
    obtain ⟨v, q⟩ := I1.cell y c q
    exact q.lt
  have plt : ∀ q ∈ X.pn ++ pins, q.1 < s1.heap.objs.size := fun q hq => Heap.lt_size (I1.pin q hq).1
  have flt : ∀ b ∈ X.fs, b < s1.heap.objs.size := fun b hb => by
    obtain ⟨_, o, ho, _⟩ := I1.ok.funs.mem hb
    exact Nat.lt_of_lt_of_le (Heap.lt_size ho) sz
  have I2 : Inv X pins σ H1 s2 := I1.call' (ch := []) hos (Un.kept hkp) (I1.hok.kept hkp) hba fun b z => by simp at z
  obtain ⟨G5, hG5⟩ : ∃ G5 : Hp, G5 = G := ⟨_, rfl⟩
  obtain ⟨CW, hCW⟩ : ∃ CW : Nat → Shared → Hp → Hp → Hp → Prop, ∀ j s H G F, CW j s H G F ↔ Fh = F ∧ ∃ σ r, Inv X pins σ H s ∧ Rs X.K G r σ ∧ P j r ∧ Same G5 G := ⟨_, fun _ _ _ _ _ => Iff.rfl⟩
  have wk := fun s3 H3 G3 F3 => wake X.A.in1 CW s3 H3 G3 F3 hr.in1 I1.ok.frames
  generalize hX : gxOf X.prog X.w X.K X.mg X.base N qual scope fa cd X.A.in1 X.stack s1 H1 [(a, go)] = X' at wk
  have hXl : X'.env.locals = s1.heap.objs.size := by rw [← hX]; rfl
  have hXf : X'.fs = frs X.stack := by rw [← hX]; rfl
  have hXp : X'.prog = X.prog := by rw [← hX]; rfl
  have hXw : X'.w = X.w := by rw [← hX]; rfl
  have hXk : X'.K = X.K := by rw [← hX]; rfl
  have hXb : X'.base = X.base := by rw [← hX]; rfl
  have hXo : X'.outer = X.stack := by rw [← hX]; rfl
  have hXn : X'.pn = [(a, go)] := by rw [← hX]; rfl
  have awake : ∀ {j : Nat} {s3 sS : Shared} {σ3 : L2.St} {H3 G3 GS : Hp} {priv : List (Addr × Obj)}, Inv X pins σ3 H3 s3 → Rep X.K G3 H3 Fh m1 → Same GS G3 → sS.os = X.s_0.os → (∀ q ∈ priv, s3.heap.get? q.1 = some q.2 ∧ H3 q.1 = none) → Aw X' Fh m1 priv sS GS (s3.setGen gi .running) H3 G3 := fun {j s3 sS σ3 H3 G3 GS priv} I3 rep3 sm os3 pr => by
    refine ⟨I3.os.trans os3.symm, allBare_setGen I3.bare rfl, pr, ?_, sm, ?_, ?_, ?_, ?_⟩
    · rw [hXp, hXw]; exact I3.hok
    · rw [hXk]; exact rep3
    · rw [hXb]; exact I3.bs
    · rw [hXb, hXo]; exact I3.stack
    · rw [hXf]; exact I3.stkFree
  obtain ⟨LI, hLI⟩ : ∃ LI : Nat → Shared → Prop, ∀ n s, LI n s ↔ ∃ (j : Nat) (σ3 : L2.St) (r3 : DSt) (H3 G3 GS : Hp) (y : GenState) (priv : List (Addr × Obj)) (sS : Shared), n + j = ys.length ∧ s.gens[gi]? = some y ∧ Inv X pins σ3 H3 s ∧ Rep X.K G3 H3 Fh m1 ∧ Rs X.K G3 r3 σ3 ∧ P j r3 ∧ Same GS G3 ∧ Same G G3 ∧ sS.os = X.s_0.os ∧
    (∀ q ∈ priv, s.heap.get? q.1 = some q.2 ∧ H3 q.1 = none) ∧ (a, go) ∈ priv ∧ ∀ s3 H3 G3 F3, Aw X' F3 m1 priv sS GS s3 H3 G3 → CW j s3 H3 G3 F3 → y.Goes (model X.prog X.w) X.A.in1 (DR ⟨X', m1, ys, CW⟩) (DY ⟨X', m1, ys, CW⟩) (sizeLine - j) (.send .none) s3 := ⟨_, fun _ _ => Iff.rfl⟩
  have back : ∀ {σ0 : L2.St} {H0 H4 : Hp} {s₀ t : Shared}, Inv X pins σ0 H0 s₀ → t.os = s₀.os → AllBare t.gens → Un (frs X.stack) [] H0 H4 (cutH s₀.heap s1.heap.objs.size) t.heap → HOk X.prog X.w H4 t.heap → Inv X pins σ0 H4 t := fun {σ0 H0 H4 s₀ t} I0 os0 ba0 un0 ok0 => by
    have nil : ∀ b : Addr, b ∉ ([] : List Addr) := fun _ => List.not_mem_nil
    have low : ∀ {b : Addr} {o : Obj}, s₀.heap.get? b = some o → b ∉ (List.range s₀.heap.objs.size).filter (fun b => decide (s1.heap.objs.size ≤ b)) → (cutH s₀.heap s1.heap.objs.size).get? b = some o := fun {b o} q hx => by
      rw [cutH_lt]
      · exact q
      · refine Nat.lt_of_not_le fun hle => hx (List.mem_filter.mpr ⟨List.mem_range.mpr (Heap.lt_size q), decide_eq_true hle⟩)
    refine I0.call' (ch := (List.range s₀.heap.objs.size).filter (fun b => decide (s1.heap.objs.size ≤ b))) os0 ⟨fun b o q n hb hx => un0.keep b o (low q hx) n hb (nil b), fun b o q n hb hx => un0.slot b o (low q hx) n hb (nil b), fun b o q n hx => un0.free b o (low q hx) n (nil b), fun b o q hx => un0.there b o (low q hx) (nil b), un0.tups, un0.frzs, un0.tbls⟩ ok0 ba0 fun b hb => ?_
    have hb : s1.heap.objs.size ≤ b := of_decide_eq_true (List.mem_filter.mp hb).2
    exact ⟨.inr (Nat.le_trans sz hb), Nat.ne_of_gt (Nat.lt_of_lt_of_le lt hb), fun y c q => Nat.ne_of_lt (Nat.lt_of_lt_of_le (clt y c q) hb), fun q hq => Nat.ne_of_lt (Nat.lt_of_lt_of_le (plt q hq) hb)⟩
  refine codeAny_forLoop_any LI (fun n s3 hli => ?_) ys.length ((hLI _ _).mpr ?_)
  rotate_left
  · refine ⟨0, σ, r, H1, G1, G1, _, [(s1.heap.objs.size, oL), (a, go)], s2, by omega, hgs, I2, rep1, sx.rs.mono e1, p0, Same.refl _, e1, hos.trans I1.os, fun q hq => ?_, by simp, fun s3 H3 G3 F3 w cw => ⟨rfl, wk s3 H3 G3 F3 w cw⟩⟩
    rcases List.mem_cons.mp hq with rfl | hq
    · exact ⟨hoL, I1.hok.fresh (Nat.le_refl _)⟩
    · rw [List.mem_singleton.mp hq]
      exact ⟨hgo, I1.hok.fresh (Nat.le_of_lt hLa)⟩
  obtain ⟨j, σ3, r3, H3, G3, GS, y, priv, sS, hn, hy, I3, rep3, rs3, pj, sm, smG, os3, pr, hgp, hwk⟩ := (hLI _ _).mp hli
  have hgi : gi + 1 ≤ s3.gens.size := (Array.getElem?_eq_some_iff.mp hy).1
  refine wpAny_gsz hgi ?_
  refine next_s (F := fun _ s₀ s => DRF ⟨X', m1, ys, CW⟩ s₀ s) (Y := DY ⟨X', m1, ys, CW⟩) (n := sizeLine - j) (I3.ok.hd hc) I3.nolimit hr.depth (hgen _ (pr _ hgp).1) hy ?_ ?_ ?_
  · exact hwk _ H3 G3 Fh (awake (j := j) I3 rep3 sm os3 pr) ((hCW _ _ _ _ _).mpr ⟨rfl, σ3, r3, Inv.gens I3 (allBare_setGen I3.bare rfl), rs3, pj, by rw [hG5]; exact smG⟩)
  · intro v t y' hyb hys hY hsz
    obtain ⟨j', F4, H0, G0, G4, H4, d, x4, priv', hn', cw, e0, os4, ba4, un4, hok4, rep4, rp4, rv4, hd, hpr', hpn', kap⟩ := hY
    obtain ⟨rfl, σ0, r0, I0, rs0, p0', sm0⟩ := (hCW _ _ _ _ _).mp cw
    have hd : ys[j']? = some d := hd
    have hjl : j' < ys.length := (List.getElem?_eq_some_iff.mp hd).1
    have hjz : j ≤ ys.length := by omega
    obtain rfl : j' = j := by omega
    have un4 : Un (frs X.stack) [] H0 H4 (cutH s3.heap s1.heap.objs.size) t.heap := by
      have := un4
      rw [show (⟨X', m1, ys, CW⟩ : GP).X = X' from rfl, hXf, hXl] at this
      exact this
    have hok4 : HOk X.prog X.w H4 t.heap := by rw [← hXp, ← hXw]; exact hok4
    have rep4 : Rep X.K G4 H4 Fh m1 := by rw [← hXk]; exact rep4
    have rp4 : Rp X.K G4 d x4 := by rw [← hXk]; exact rp4
    have I4 : Inv X pins σ0 H4 t := back I0 os4 ba4 un4 hok4
    have I5 : Inv X pins σ0 H4 (t.setGen gi y') := Inv.gens I4 (allBare_setGen I4.bare hyb)
    have I6 : Inv X (pins ++ priv') σ0 H4 (t.setGen gi y') := I5.pins_of fun q hq => by
      rcases List.mem_append.mp hq with hq | hq
      · exact I5.pin q (List.mem_append_right _ hq)
      · obtain ⟨q1, q2, q3, q4⟩ := hpr' q hq
        have q3 : X'.env.locals ≤ q.1 := q3
        rw [hXl] at q3
        exact ⟨q1, q2, Nat.ne_of_gt (Nat.lt_of_lt_of_le lt q3), fun hf => absurd (Nat.lt_of_lt_of_le (flt _ hf) q3) (Nat.lt_irrefl _), q4⟩
    have hgp' : (a, go) ∈ priv' := hpn' _ (by show (a, go) ∈ X'.pn; rw [hXn]; exact List.mem_singleton.mpr rfl)
    have hgt : t.heap.get? a = some go := (hpr' _ hgp').1
    have hyt : (t.setGen gi y').gens[gi]? = some y' := setGen_at (by have := hsz; rw [setGen_size] at this; omega)
    show wpAny _ _ (letOwnedTupleGo tg (.ref a) v) _ _ _
    obtain ⟨og, nm, qn, ho, hcl, hdat, _⟩ := hgen t.heap hgt
    refine go_of (s := t.setGen gi y') ho hcl hdat (by decide) ?_
    have J6 : Inv (Cx.nox X) (pins ++ priv') σ0 H4 (asleep (t.setGen gi y')) := inv_xe (X := X) (f := X.xe) (Inv.gens I6 (asleep_bare I6.bare))
    refine wpAny_mono (run_asleep (htg.run (pins ++ priv') _ σ0 H4 x4 v (fun σ' H' => ∃ G' r' m', Same G4 G' ∧ Rep X.K G' H' Fh m' ∧ Rs X.K G' r' σ' ∧ tb { DD with nx := fun r' m' => m' = m1 ∧ P (j' + 1) r', ct := fun r' m' => m' = m1 ∧ P (j' + 1) r', bk := DD.nx } r' m') J6 rv4
      ⟨G4, Fh, r0, m1, d, _, ⟨rep4, rs0.mono e0, Lx.no⟩, rp4, turn j' d r0 hd p0', fun G' H' m' r' s' e' rep' rs' q => ⟨G', r', m', e', rep', rs', q⟩⟩)) (fun _ s6 h6 => ?_) fun _ _ hx => hx.elim
    obtain ⟨a6, ⟨σ6, H6, I7, G6, r6, m6, e6, rep6, rs6, q6⟩, es6, kp6, ba6⟩ := h6
    have hy6 : s6.gens[gi]? = some y' := kp6 gi y' hyt hys
    have I7 : Inv X (pins ++ priv') σ6 H6 s6 := by
      rw [es6]
      exact Inv.gens (inv_xe (X := X) (f := fun _ _ => False) (f' := X.xe) I7) (ba6 I7.bare)
    have J7 : Inv (Cx.nox X) (pins ++ priv') σ6 H6 (asleep s6) := inv_xe (X := X) (f := X.xe) (Inv.gens I7 (asleep_bare I7.bare))
    refine wpAny_mono (run_asleep (hbd.run (pins ++ priv') _ σ6 H6 { nx := fun σ' H' => ∃ G' r', Same G6 G' ∧ Rep X.K G' H' Fh m1 ∧ Rs X.K G' r' σ' ∧ P (j' + 1) r', rt := E.rt, bk := E.nx, ct := fun σ' H' => ∃ G' r', Same G6 G' ∧ Rep X.K G' H' Fh m1 ∧ Rs X.K G' r' σ' ∧ P (j' + 1) r' } J7
      ⟨G6, Fh, r6, m6, _, ⟨rep6, rs6, Lx.no⟩, q6, ⟨fun G' H' m' r' s' e' rep' rs' q => ?_, ?_, ?_, fun G' H' m' r' s' e' rep' rs' q => ?_⟩⟩)) (fun fl s7 h7 => ?_) fun _ _ hx => hx.elim
    · obtain ⟨rfl, q⟩ := q
      exact ⟨G', r', e', rep', rs', q⟩
    · exact kk.rt.mono (((hG5 ▸ sm0).trans e0).trans (e6))
    · exact kk.nx.mono (((hG5 ▸ sm0).trans e0).trans (e6))
    · obtain ⟨rfl, q⟩ := q
      exact ⟨G', r', e', rep', rs', q⟩
    obtain ⟨a7, h7, es7, kp7, ba7⟩ := h7
    have hy7 : s7.gens[gi]? = some y' := kp7 gi y' hy6 hys
    have up7 : ∀ {σ7 : L2.St} {H7 : Hp}, Inv (Cx.nox X) (pins ++ priv') σ7 H7 a7 → Inv X (pins ++ priv') σ7 H7 s7 := fun {σ7 H7} I => by
      rw [es7]
      exact Inv.gens (inv_xe (X := X) (f := fun _ _ => False) (f' := X.xe) I) (ba7 I.bare)
    have again : ∀ {σ7 : L2.St} {H7 : Hp}, Inv (Cx.nox X) (pins ++ priv') σ7 H7 a7 → (∃ G' r', Same G6 G' ∧ Rep X.K G' H7 Fh m1 ∧ Rs X.K G' r' σ7 ∧ P (j' + 1) r') → ∃ n', n' < n ∧ LI n' s7 := fun {σ7 H7} I q => by
      obtain ⟨G7, r7, e7, rep7, rs7, pj7⟩ := q
      have I8 := up7 I
      refine ⟨n - 1, by omega, (hLI _ _).mpr ⟨j' + 1, σ7, r7, H7, G7, G4, y', priv', t, by omega, hy7, I8.unpinned, rep7, rs7, pj7, e6.trans e7, ((hG5 ▸ sm0 : Same G G0).trans e0).trans (e6.trans e7), I4.os, fun q hq => ?_, hgp', fun s8 H8 G8 F8 w8 cw8 => ?_⟩⟩
      · have := I8.pin q (List.mem_append_right _ (List.mem_append_right _ hq))
        exact ⟨this.1, this.2.1⟩
      · have := kap s8 H8 G8 F8 w8 cw8
        obtain ⟨mm, hmm⟩ : ∃ mm, sizeLine - j' = mm + 1 := ⟨sizeLine - j' - 1, by omega⟩
        rw [hmm] at this
        rw [show sizeLine - (j' + 1) = mm by omega]
        exact this
    cases fl with
    | next => obtain ⟨σ7, H7, I, q⟩ := h7; exact again I q
    | cont => obtain ⟨σ7, H7, I, q⟩ := h7; exact again I q
    | brk => obtain ⟨σ7, H7, I, q⟩ := h7; exact ⟨σ7, H7, (up7 I).unpinned, q⟩
    | ret u => obtain ⟨v7, σ7, H7, I, rv7, q⟩ := h7; exact ⟨v7, σ7, H7, (up7 I).unpinned, rv7, q⟩
  · intro t ht h' hk' _
    obtain ⟨F4, H0, G0, G4, H4, cw, e0, os4, ba4, un4, hok4, rep4, _⟩ := ht
    obtain ⟨rfl, σ0, r0, I0, rs0, p0', sm0⟩ := (hCW _ _ _ _ _).mp cw
    have un4 : Un (frs X.stack) [] H0 H4 (cutH s3.heap s1.heap.objs.size) t.heap := by
      have := un4
      rw [show (⟨X', m1, ys, CW⟩ : GP).X = X' from rfl, hXf, hXl] at this
      exact this
    have hok4 : HOk X.prog X.w H4 t.heap := by rw [← hXp, ← hXw]; exact hok4
    have rep4 : Rep X.K G4 H4 Fh m1 := by rw [← hXk]; exact rep4
    have I4 : Inv X pins σ0 H4 t := back I0 os4 ba4 un4 hok4
    refine wpAny_execs_nil ⟨σ0, H4, ?_, ?_⟩
    · exact (Inv.gens I4 (allBare_setGen I4.bare rfl) : Inv X pins σ0 H4 (t.setGen gi .finished)).kept (t' := t.toks) hk'
    · exact kk.nx G4 H4 m1 r0 σ0 ((hG5 ▸ sm0 : Same G G0).trans e0) rep4 (rs0.mono e0) (done r0 p0')
end
end DL

set_option Elab.async false
set_option linter.all false
set_option maxRecDepth 100000
set_option maxHeartbeats 4000000
namespace L2
open PySem PySem.Spec PyProof.Rows
section
variable {X : Cx}
theorem addI_ok {pins : List (Addr × Obj)} {σ : St} {H : Hp} {s : Shared} {E : Value → Shared → Prop} {D : Addr} {S : Int → Bool} {n : Nat} {y : Int} {tk : Tok} {Q : Value → Shared → Prop} (I : Inv X pins σ H s) (hD : H D = some (SetO X.w D S n)) (room : n + 1 < scanBound)
    (h : ∀ s', Inv X pins σ (upd H D (SetO X.w D (fun j => S j || decide (j = y)) (if S y = true then n else n + 1))) s' → Q .none s') : wpAny (model X.prog X.w) X.A (call (.builtin "set.add") [.ref D, .int y tk]) Q E s := by
  refine setR_add (setO_get I hD) room fun h' sb new => ?_
  have he : ∃ u, h'.get? D = some u := by
    have ⟨o, _, _, _, ho, _⟩ := new
    exact ⟨o, ho⟩
  exact h _ (I.write (e := D) (t' := s.toks + 1) (by rw [hD]; trivial) (.inl rfl) (fun b u hb hu => (sb.2 b hb).trans hu) he (setO_new new))
def tScI (w : World) (wi : TI) (g : TG) (tt : TT) (te : TE) (vs : List Nat) : TE := fun σ H Q => wi σ H fun J H1 => ∀ D, H1 D = none → ∃ W : Nat → Nat → Hp → Prop, (∃ m, W 0 m (upd H1 D (SetO w D (fun _ => false) 0))) ∧ ∀ i m H, W i m H →
  (J.stop i H ∧ Q (.ref D) H) ∨ (J.go i H ∧ ∃ Nx : Hp → Prop, (∀ H', Nx H' → ∃ m', m' < m ∧ W (i + 1) m' H') ∧ ∀ x H', J.yld i H x H' → g x (wipe σ vs) H' fun σ2 H2 => wipe σ2 vs = wipe σ vs ∧ tt σ2 H2 fun b H3 =>
    if b = true then te σ2 H3 fun y H4 => ∃ (c : Int) (S : Int → Bool) (n : Nat), y = .int c ∧ H4 D = some (SetO w D S n) ∧ n + 1 < scanBound ∧ Nx (upd H4 D (SetO w D (fun j => S j || decide (j = c)) (if S c = true then n else n + 1))) else Nx H3)
theorem sc_coreI {pins : List (Addr × Obj)} {s : Shared} {σ : St} {H : Hp} {Q : VK} {elt tg iter : Expr} {ifs : List Expr} {scope : Scope} {own : List (Str × Nat)} {pos pos' : Pos} {wi : TI} {g : TG} {tt : TT} {te : TE} {use : Option (Value → Sem Unit)} {Qf : Value → Shared → Prop}
    (hc : X.calm = true) (hN : X.N.Nodup) (I : Inv X pins σ H s) (hi : PI X tg iter wi) (ok : BlkOk X.N X.env.scope scope own)
    (hg : ∀ (s : Shared) (H : Hp) (C : Addr) (cl : List (Str × Addr)) (fp : List Addr), PG (X.blk s H scope (compEnvC scope cl C X.env) fp) tg g) (ht : ∀ (s : Shared) (H : Hp) (C : Addr) (cl : List (Str × Addr)) (fp : List Addr), PTs (X.blk s H scope (compEnvC scope cl C X.env) fp) ifs tt)
    (he : ∀ (s : Shared) (H : Hp) (C : Addr) (cl : List (Str × Addr)) (fp : List Addr), PE (X.blk s H scope (compEnvC scope cl C X.env) fp) elt te) (hs : ∀ x, foldedSetIterable iter X.env x = pure x)
    (h : tScI X.w wi g tt te (own.map (·.2)) σ H Q)
    (hRR : ∀ D C s' m H', Inv X pins σ H' s' → Q (.ref D) H' → s'.heap.Ns C m → FpOk X pins H' C → compPost (model X.prog X.w) X.A X.xe use Qf (.ref D) C (.ok .next) s') :
    wpAny (model X.prog X.w) X.A (comprehension (.SetComp elt [⟨tg, iter, ifs, 0⟩] scope pos) scope X.env pos' (newSet (.type "set")) false (eval iter X.env) use) Qf X.xe s := by
  have hfree : ∀ y ∈ scope.names, y.2 = .free → ∃ c, X.env.cells.lookup y.1 = some c := fun y hy e => by
    rcases ok.free y hy e with k | k
    · exact I.ok.has _ (.inl k)
    · exact I.ok.has _ (.inr k)
  refine wpAny_comprehension_free (use := use) rfl hs (closure_ok hfree) ok.kind (fun y hy e => by rw [ok.uniq y hy, e])
    (thn (hi.run pins s σ H _ I h) fun xv s1 hx => thn hx fun itv s2 h2 => ?_)
  obtain ⟨it, fp, tn, J, H2, e, I2, T, st2, f2, q⟩ := h2
  subst e
  refine PpSet.newSet_ok (newEnv_comp ?_)
  generalize hD : s2.heap.objs.size = D
  have hDn : H2 D = none := I2.hok.fresh (Nat.le_of_eq hD)
  obtain ⟨W, ⟨m0, w0⟩, turn⟩ := q D hDn
  generalize hs3 : ({ s2 with heap := s2.heap.push { cls := .type "set", dict := none, data := .set #[] 0 (.fresh 0 0 (!X.w.params.followText "set-order")) } } : Shared) = s3
  have I3 : Inv X pins σ (upd H2 D (SetO X.w D (fun _ => false) 0)) s3 := by
    rw [← hs3]
    refine I2.laid (t' := s2.toks) (fun b o e => Heap.get?_push_of_some _ e) (Nat.le_of_eq hD) ?_
    rw [← hD]
    exact setO_new (setR_fresh X.w)
  have h3 : s3.heap = s2.heap.push { cls := .type "set", dict := none, data := .set #[] 0 (.fresh 0 0 (!X.w.params.followText "set-order")) } := by rw [← hs3]
  have sz : ∀ b ∈ fp, b < s2.heap.objs.size := fun b hb => by
    obtain ⟨o, e, _⟩ := T.obj _ _ st2 b hb
    exact Heap.lt_size e
  have f3 : ∀ b ∈ fp, FpOk X pins (upd H2 D (SetO X.w D (fun _ => false) 0)) b ∧ b < s3.heap.objs.size := fun b hb => by
    have hlt := sz b hb
    refine ⟨⟨?_, (f2 b hb).2⟩, by rw [h3, Heap.size_push]; exact Nat.lt_succ_of_lt hlt⟩
    rw [upd_ne (by rw [← hD]; exact Nat.ne_of_lt hlt)]
    exact (f2 b hb).1
  have st3 : tn 0 s3.heap := T.keep _ _ _ st2 fun b _ o e => by rw [h3]; exact Heap.get?_push_of_some _ e
  have I4 := block_start I3 ok hN f3
  have pg := hg s3 (upd H2 D (SetO X.w D (fun _ => false) 0)) s3.heap.objs.size (cellsFrom (s3.heap.objs.size + 1) scope.names (cloFrom X.env.cells scope.names [])) fp
  have pt := ht s3 (upd H2 D (SetO X.w D (fun _ => false) 0)) s3.heap.objs.size (cellsFrom (s3.heap.objs.size + 1) scope.names (cloFrom X.env.cells scope.names [])) fp
  have pe := he s3 (upd H2 D (SetO X.w D (fun _ => false) 0)) s3.heap.objs.size (cellsFrom (s3.heap.objs.size + 1) scope.names (cloFrom X.env.cells scope.names [])) fp
  show codeAny _ _ (.compStart (.SetComp elt [⟨tg, iter, ifs, 0⟩] scope pos) 0 (.ref it) (.ref D) (compEnvC scope (cellsFrom (s3.heap.objs.size + 1) scope.names (cloFrom X.env.cells scope.names [])) s3.heap.objs.size X.env)) (compPost (model X.prog X.w) X.A X.xe use Qf (.ref D) s3.heap.objs.size) { s3 with heap := pushCells (s3.heap.push { cls := .type "dict", data := .dict #[] }) scope.names }
  have nfp : ∀ b ∈ fp, (upd H2 D (SetO X.w D (fun _ => false) 0)) b = none := fun b hb => (f3 b hb).1.1
  generalize hce : compEnvC scope (cellsFrom (s3.heap.objs.size + 1) scope.names (cloFrom X.env.cells scope.names [])) s3.heap.objs.size X.env = ce at I4 pg pt pe ⊢
  have cL : ce.locals = s3.heap.objs.size := by subst hce; rfl
  generalize hH3 : upd H2 D (SetO X.w D (fun _ => false) 0) = H3 at I3 I4 pg pt pe w0 nfp f3
  generalize hs4 : ({ s3 with heap := pushCells (s3.heap.push { cls := .type "dict", data := .dict #[] }) scope.names } : Shared) = s4 at I4 ⊢
  have st4 : tn 0 s4.heap := T.keep _ _ _ st3 fun b _ o e => by rw [← hs4]; exact pushCells_keeps _ _ _ _ (Heap.get?_push_of_some _ e)
  have stat : ∀ {σ' : St} {H' : Hp} {s' : Shared}, Inv (X.blk s3 H3 scope ce fp) [] σ' H' s' → (∀ b ∈ fp, H' b = none) → ∀ b ∈ fp, FpOk (X.blk s3 H3 scope ce fp) [] H' b := fun {σ' H' s'} I' hn b hb =>
    ⟨hn b hb, (I'.ok.exf b hb).1, I'.ok.exfs b hb, .inl hb, fun x c e => (I'.ok.exf b hb).2 x c e, fun p hp => absurd (show p ∈ ([] : List (Addr × Obj)) ++ [] from hp) (by simp)⟩
  have loop : codeAny (model X.prog X.w) X.A (.compLoop (.SetComp elt [⟨tg, iter, ifs, 0⟩] scope pos) 0 (.ref it) (.ref D) ce) (compPost (model X.prog X.w) X.A X.xe use Qf (.ref D) s3.heap.objs.size) s4 := by
    refine PpSet.compLoopS_any (fun n s' => ∃ i H', Inv (X.blk s3 H3 scope ce fp) [] (wipe σ (own.map (·.2))) H' s' ∧ tn i s'.heap ∧ (∀ b ∈ fp, H' b = none) ∧ W i n H') ?_ m0 ⟨0, H3, I4, st4, nfp, w0⟩
    rintro n s5 ⟨i, H5, I5, st5, n5, w5⟩
    rcases turn i n H5 w5 with ⟨stop, qq⟩ | ⟨go, Nx, hNx, step⟩
    · have td := T.done (X.blk s3 H3 scope ce fp) rfl rfl rfl hc i [] s5 _ H5 (fun _ _ => False) I5 (stat I5 n5) st5 stop
      refine thnF td fun r s6 ⟨hr, I6⟩ => ?_
      subst hr
      have I7 : Inv X pins σ H5 s6 := I3.call' (ch := fp) I6.os I6.base I6.hok I6.bare fun b hb => ⟨(f3 b hb).1.2.2.2.1, (f3 b hb).1.2.1, (f3 b hb).1.2.2.2.2.1, (f3 b hb).1.2.2.2.2.2⟩
      have nC : H5 s3.heap.objs.size = none := by
        have z : H5 ce.locals = none := I6.free
        rw [cL] at z
        exact z
      obtain ⟨m, hn, _⟩ := I6.loc
      have hn : s6.heap.Ns ce.locals m := hn
      rw [cL] at hn
      exact hRR D s3.heap.objs.size s6 m H5 I7 qq hn (I3.fpOk (Nat.le_refl _) nC)
    · have ti := T.item (X.blk s3 H3 scope ce fp) rfl rfl rfl hc i [] s5 _ H5 (fun _ _ => False) I5 (stat I5 n5) st5 go
      refine thnF ti fun r s6 ⟨u, hr, h6⟩ => ?_
      subst hr
      refine thnF h6 fun _ s7 ⟨x, H7, I7, r7, y7, st7, n7⟩ => ?_
      have I7' := I7.pinned (stat I7 n7) (T.obj _ _ st7)
      refine thnF (pg.run _ s7 _ H7 x u _ I7' r7 (step x H7 y7)) fun _ s8 ⟨σ8, H8, I8, hw8, q8⟩ => ?_
      refine thnF (pt.run _ s8 σ8 H8 _ I8 q8) fun b s9 ⟨H9, I9, q9⟩ => ?_
      have fin : ∀ {s' : Shared} {H' : Hp}, Inv (X.blk s3 H3 scope ce fp) ([] ++ pinsAt fp s7.heap) σ8 H' s' → Nx H' → ∃ m, m < n ∧ ∃ i H', Inv (X.blk s3 H3 scope ce fp) [] (wipe σ (own.map (·.2))) H' s' ∧ tn i s'.heap ∧ (∀ b ∈ fp, H' b = none) ∧ W i m H' := fun {s' H'} I' nx => by
        obtain ⟨m', hm, w'⟩ := hNx H' nx
        have pin' : ∀ b ∈ fp, ∀ o, s7.heap.get? b = some o → s'.heap.get? b = some o ∧ H' b = none := fun b hb o e =>
          let z := I'.pin (b, o) (List.mem_append_right _ (List.mem_append_right _ (mem_pinsAt hb e)))
          ⟨z.1, z.2.1⟩
        have hl : (wipe σ (own.map (·.2))).length = σ8.length := by rw [← hw8, wipe_length]
        refine ⟨m', hm, i + 1, H', (I'.unpinned (pins := [])).weak hl (fun j v e => ?_), T.keep _ _ _ st7 fun b hb o e => (pin' b hb o e).1, fun b hb => ?_, w'⟩
        · rw [← hw8] at e
          exact (wipe_some e).1
        · obtain ⟨o, e, _⟩ := T.obj _ _ st7 b hb
          exact (pin' b hb o e).2
      cases b with
      | false =>
        simp only [Bool.false_eq_true, if_false] at q9 ⊢
        exact fin I9 q9
      | true =>
        simp only [if_true] at q9 ⊢
        refine thnF (pe.run _ s9 σ8 H9 _ I9 q9) fun z s10 ⟨yv, H10, I10, r10, cb, S0, n0, ey, hD10, hz10, nx⟩ => ?_
        subst ey
        obtain ⟨tk, rfl⟩ : ∃ tk, z = Value.int cb tk := r10
        exact addI_ok (X := X.blk s3 H3 scope ce fp) I10 hD10 hz10 fun s11 I11 => fin I11 nx
  exact PpSet.codeAny_compStart_set loop (T.self X.A 0 _ _ _ st4 loop)
theorem pe_scI {elt tg iter : Expr} {ifs : List Expr} {scope : Scope} {own : List (Str × Nat)} {pos : Pos} {wi : TI} {g : TG} {tt : TT} {te : TE} (hc : X.calm = true) (hN : X.N.Nodup) (hi : PI X tg iter wi) (ok : BlkOk X.N X.env.scope scope own)
    (hg : ∀ (s : Shared) (H : Hp) (C : Addr) (cl : List (Str × Addr)) (fp : List Addr), PG (X.blk s H scope (compEnvC scope cl C X.env) fp) tg g) (ht : ∀ (s : Shared) (H : Hp) (C : Addr) (cl : List (Str × Addr)) (fp : List Addr), PTs (X.blk s H scope (compEnvC scope cl C X.env) fp) ifs tt)
    (he : ∀ (s : Shared) (H : Hp) (C : Addr) (cl : List (Str × Addr)) (fp : List Addr), PE (X.blk s H scope (compEnvC scope cl C X.env) fp) elt te) (hs : ∀ x, foldedSetIterable iter X.env x = pure x := by intro _; rfl) :
    PE X (.SetComp elt [⟨tg, iter, ifs, 0⟩] scope pos) (tScI X.w wi g tt te (own.map (·.2))) := by
  refine ⟨fun pins s σ H Q I h => ?_⟩
  rw [PpSet.eval_SetComp]
  refine sc_coreI hc hN I hi ok hg ht he hs h fun D C s' m H' I' q hn f => ⟨m, hn, fun h'' sb => ?_⟩
  obtain ⟨f0, f1, f2, f3, f4, f5⟩ := f
  exact ⟨.ref D, H', I'.turned (t' := s'.toks) (fun b o hb e => (sb.2 b hb).trans e) f0 f1 f3 f4 f5, rfl, q⟩
end

theorem sorted_setA {P : Program} {w : World} {A : Around} {E : Value → Shared → Prop} {s : Shared} {a : Addr} {S : Int → Bool} {n : Nat} {Q : Value → Shared → Prop} (R : SetR w s.heap a S n) (hh : A.handled = none) (hz : n ≤ sizeLine)
    (hQ : ∀ s' p (out : Array Value) (c : Nat) (ns : List Int), (∀ b o, s.heap.get? b = some o → s'.heap.get? b = some o) → s'.gens = s.gens → s'.os = s.os → s.heap.objs.size ≤ p →
      s'.heap.get? p = some (seqObj "list" out c) → IntsAre out.toList ns → ns.Pairwise (· < ·) → (∀ k, k ∈ ns ↔ S k = true) → ns.length = n → Q (.ref p) s') :
    wpAny (model P w) A (call (.builtin "sorted") [.ref a]) Q E s := by
  obtain ⟨o, es, ep, t, ho, hex, hd, g, nd, hm, hb, hf, hn, hr, hl⟩ := R
  refine Calls.call_function_entry kind_sorted plain_sorted entry_sorted (args_sorted1 _) ?_
  unfold Builtin.«sorted»
  refine wpAny_bind (m := checkCount "sorted" 1 1 _) (wpAny_pure ?_)
  refine wpAny_bind (collect_set (A := A.in1) hh ⟨o, ho, hex.1, hd⟩ hf hb hr hl fun s1 vs k1 hz1 g1 o1 pm => ?_)
  have hvl : vs.length = n := by rw [pm.length_eq, List.length_map, Array.length_toList]; exact hn
  have hI : IntsAre vs (vs.map SrtO.iv) := SrtO.ints_iv fun v hv => by
    obtain ⟨e, he, q⟩ := List.mem_map.mp (pm.mem_iff.mp hv)
    obtain ⟨k, tk, h1, _⟩ := g e he
    exact ⟨k, tk, by rw [← q]; exact h1⟩
  have pk : (vs.map SrtO.iv).Perm (es.toList.map keyOf) := by
    have q := pm.map SrtO.iv
    rw [List.map_map] at q
    exact q
  refine wpAny_bind (wpAny_newList ?_ (by rw [hvl]; exact hz))
  have hoL : (s1.heap.push (seqObj "list" vs.toArray 0)).get? s1.heap.objs.size = some (seqObj "list" vs.toArray 0) := Heap.get?_push_size _ rfl
  refine wpAny_bind (wpAny_holding (wpAny_call_entry slot_list_sort ⟨_, hoL, rfl⟩ entry_list_sort (SrtO.list_sort_ord SrtO.swo_int hoL (by rw [hvl]; exact hz) (fun h2 => SrtO.ints_sortable hI h2) fun out h1 h2 => ⟨_, rfl, ?_⟩) (args_list_sort _)))
  obtain ⟨a1, a2, a3⟩ := SrtO.ints_out hI h1 h2
  obtain ⟨c, hc⟩ := sortedHeap_at (vs := vs) (out := out.toArray) hoL
  have pn : (out.map SrtO.iv).Perm (es.toList.map keyOf) := a2.trans pk
  refine wpAny_pure ⟨_, rfl, hQ _ s1.heap.objs.size out.toArray c (out.map SrtO.iv) (fun b u e => ?_) g1 o1 hz1 hc a1 (lt_of_le_nodup _ a3 (pn.nodup_iff.mpr nd)) (fun k => by rw [pn.mem_iff, ← hm k]) ?_⟩
  · have q := k1 b u e
    have hlt := Heap.lt_size q
    show (sortedHeap (s1.heap.push (seqObj "list" vs.toArray 0)) s1.heap.objs.size vs out.toArray).get? b = some u
    rw [sortedHeap_old (Nat.ne_of_lt hlt) (by rw [size_push']; exact Nat.lt_succ_of_lt hlt)]
    exact Heap.get?_push_of_some _ q
  · rw [pn.length_eq, List.length_map, Array.length_toList]; exact hn
def rSortedSA (w : World) : List V → Hp → VK → Prop := fun vs H Q => ∃ (a : Addr) (S : Int → Bool) (n : Nat), vs = [V.ref a] ∧ H a = some (SetO w a S n) ∧ n ≤ sizeLine ∧
  ∀ (ns : List Int) (p : Addr), ns.Pairwise (· < ·) → (∀ k : Int, k ∈ ns ↔ S k = true) → ns.length = n → H p = none → Q (.ref p) (upd H p (.lst (ns.map V.int)))
theorem cr_sortedSA {X : Cx} (hc : X.calm = true) : CallR X (.builtin "sorted") (rSortedSA X.w) := by
  intro pins s σ H vs us Q I r h
  obtain ⟨a, S, n, rfl, ha, hz, q⟩ := h
  rw [Vals.ref1 r]
  refine sorted_setA (setO_get I ha) (I.ok.hd hc) hz fun s' p out c ns k g o hp hg hi hs hm hl => ?_
  have hlen : (ns.map V.int).length ≤ sizeLine := by rw [List.length_map, hl]; exact hz
  have hn : H p = none := I.hok.fresh hp
  have J : Inv X pins σ (upd H p (.lst (ns.map V.int))) { s with heap := s'.heap, gens := s'.gens, drawn := s'.drawn, toks := s'.toks } :=
    I.call (ch := []) (Un.laid k hp hn) (I.hok.laid k hp ⟨hlen, out.toList, c, vals_of_ints hi, hg⟩) (by rw [g]; exact I.bare) (fun _ z => nomatch z)
  have e : s' = { s with heap := s'.heap, gens := s'.gens, drawn := s'.drawn, toks := s'.toks } := by
    cases s'
    cases s
    cases o
    rfl
  rw [e]
  exact ⟨.ref p, _, J, rfl, q ns p hs hm hl hn⟩
end L2

namespace DL
open PySem PySem.Spec PyProof.Rows L2
def tupI (c : Int) : D → Option Int
  | .tup ts => match atI ts c with
    | some (.int k) => some k
    | _ => none
  | _ => none
def dSortSc (mt : Bool) (tl : DTE) (i : Nat) (c : Int) : DTE := fun r m Q => i < r.length ∧ tl r m fun d m1 => ∃ (ds : List D) (ks : List Int), lsOf m1 d = some ds ∧ ds.map (tupI c) = ks.map some ∧ ds.length < scanBound ∧ ds.length ≤ sizeLine ∧
  ∀ out : List Int, out.Pairwise (· < ·) → (∀ k, k ∈ out ↔ k ∈ ks) → mkL mt (out.map D.int) m1 Q
section
variable {X : Cx} {W : WX} {WD : DWX}
theorem de_sortSc (mt : Bool) {c : Int} {i k2 : Nat} {x : Str} {l : Expr} {tl : DTE} {scope : Scope} {own : List (Str × Nat)} {pf p1 p2 p3 p4 pos pos2 : Pos} (hc : X.calm = true) (hN : X.N.Nodup) (hin : i ∈ own.map (·.2)) (hi : DE X W WD l tl) (ok : BlkOk X.N X.env.scope scope own)
    (hg : ∀ (s : Shared) (H : Hp) (C : Addr) (cl : List (Str × Addr)) (fp : List Addr), PG (X.blk s H scope (compEnvC scope cl C X.env) fp) (.Name x p4) (ctG X.K (.one i))) (hv : ∀ (s : Shared) (H : Hp) (C : Addr) (cl : List (Str × Addr)) (fp : List Addr), PE (X.blk s H scope (compEnvC scope cl C X.env) fp) (.Name x p1) (tVar i))
    (hg2 : Gl X "sorted") (hm : X.mg "sorted" = none) (hb : bootBuiltins "sorted" = some (.builtin "sorted"))
    (hs : ∀ y, foldedSetIterable l X.env y = pure y := by intro _; rfl)
    (he : starEach [.SetComp (.Subscript (.Name x p1) (.Constant (.int c) k2 p2) p3) [⟨.Name x p4, l, [], 0⟩] scope pos] X.env = (false, eval (.SetComp (.Subscript (.Name x p1) (.Constant (.int c) k2 p2) p3) [⟨.Name x p4, l, [], 0⟩] scope pos) X.env) :: starEach [] X.env := by rfl) :
    DE X W WD (.Call (.Name "sorted" pf) [.SetComp (.Subscript (.Name x p1) (.Constant (.int c) k2 p2) p3) [⟨.Name x p4, l, [], 0⟩] scope pos] [] pos2) (dSortSc mt tl i c) := by
  have P1 : PE X (.SetComp (.Subscript (.Name x p1) (.Constant (.int c) k2 p2) p3) [⟨.Name x p4, l, [], 0⟩] scope pos) (tScI X.w (iList X.K (up X.K W WD tl)) (gName i) tYes (tOp (rIx X.K) (tVar i) (tC (.int c))) (own.map (·.2))) :=
    pe_scI hc hN (pi_list hi) ok hg (fun s H C cl fp => pts_nil) (fun s H C cl fp => pe_ix ix_seq (hv s H C cl fp) pe_int (by intro _ _; rfl)) hs
  refine PE.imp (pe_callB (cr_sortedSA hc) hg2 hm hb (pa_cons P1 pa_nil he) (he := he)) fun σ H Q h => ?_
  obtain ⟨G, F, r, m, QD, x, ⟨hir, t⟩, k⟩ := h
  show up X.K W WD tl σ H fun v H1 => ∃ a, v = .ref a ∧ (∃ xs, SqL X.K H1 a xs) ∧ _
  refine ⟨G, F, r, m, _, x, t, fun G1 H1 m1 d v e1 r1 p1 t1 => ?_⟩
  obtain ⟨ds, ks, e, ek, hz, hz2, q⟩ := t1
  obtain ⟨a, us, rfl, hs, rs⟩ := ls_ok r1 p1 e
  refine ⟨a, rfl, ⟨us, hs⟩, fun D hD => ?_⟩
  have lk : ks.length = ds.length := by
    have := congrArg List.length ek
    rw [List.length_map, List.length_map] at this
    exact this.symm
  have lu : ds.length = us.length := rs.length
  have hsD : ∀ S n, SqL X.K (upd H1 D (SetO X.w D S n)) a us := fun S n => (same_new hD).seq hs
  refine ⟨fun i m H => m = ds.length - i ∧ i ≤ ds.length ∧ ∃ S n, H = upd H1 D (SetO X.w D S n) ∧ n ≤ i ∧ ∀ k, S k = true ↔ k ∈ ks.take i, ⟨_, rfl, Nat.zero_le _, _, _, rfl, Nat.le_refl _, fun k => by simp⟩, ?_⟩
  rintro j mm H2 ⟨rfl, hj, S, n, rfl, hn, hS⟩
  by_cases hlt : j < ds.length
  · refine .inr ⟨⟨us, us[j]'(by omega), hsD S n, by simp [lu ▸ hlt]⟩, fun H' => ∃ S n, H' = upd H1 D (SetO X.w D S n) ∧ n ≤ j + 1 ∧ ∀ k, S k = true ↔ k ∈ ks.take (j + 1), fun H' h' => ⟨_, by omega, rfl, hlt, h'⟩, fun y H' yy => ?_⟩
    obtain ⟨rfl, yy⟩ := yy
    have hy := yy us (hsD S n)
    have hl : i < (wipe σ (own.map (·.2))).length := by rw [wipe_length, ← x.rs.len]; exact hir
    show wipe _ _ = wipe _ _ ∧ _
    refine ⟨(wipe_set _ _ _ _ hin).trans (wipe_wipe σ _ _ fun _ h => h), ?_⟩
    show ∃ v, ((wipe σ (own.map (·.2))).set i (some y))[i]? = some (some v) ∧ _
    refine ⟨y, by rw [List.getElem?_set_self hl], ?_⟩
    have hd : ds[j]? = some ds[j] := by simp [hlt]
    obtain ⟨v, hv1, hv2⟩ := rs.get hd
    rw [hy] at hv1
    cases hv1
    have hk : (ds.map (tupI c))[j]? = (ks.map some)[j]? := by rw [ek]
    rw [List.getElem?_map, hd, List.getElem?_map] at hk
    have hjk : ks[j]? = some (ks[j]'(by omega)) := by simp [lk ▸ hlt]
    rw [hjk] at hk
    have hk : tupI c ds[j] = some (ks[j]'(by omega)) := Option.some.inj hk
    generalize hkk : ks[j]'(by omega) = kk at hk hjk
    have hit : ∃ ts, ds[j] = DL.D.tup ts ∧ atI ts c = some (DL.D.int kk) := by
      revert hk
      cases ds[j] with
      | tup ts =>
        intro hk
        refine ⟨ts, rfl, ?_⟩
        dsimp only [tupI] at hk
        revert hk
        cases hat : atI ts c with
        | none => intro hk; cases hk
        | some z => cases z <;> intro hk <;> first | (cases hk; rfl) | cases hk
      | _ => intro hk; cases hk
    obtain ⟨ts, ets, hat⟩ := hit
    rw [ets] at hv2
    cases hv2 with
    | @tup b vs _ h3 h4 =>
      obtain ⟨w, hw1, hw2⟩ := rps_atI h4 hat
      cases hw2
      have e2 : Same G1 (upd H1 D (SetO X.w D S n)) := r1.ext.trans (same_new hD)
      refine .inr (.inl ⟨b, vs, c, _, rfl, rfl, same_sqt e2 h3.1, hw1, ?_⟩)
      refine ⟨kk, S, n, rfl, upd_same, by omega, fun z => S z || decide (z = kk), if S kk = true then n else n + 1, upd_upd, by split <;> omega, fun z => ?_⟩
      rw [List.take_add_one, hjk, Bool.or_eq_true, hS, decide_eq_true_eq, List.mem_append]
      simp
  · have ej : j = ds.length := by omega
    subst ej
    refine .inl ⟨⟨us, hsD S n, by omega⟩, ?_⟩
    refine ⟨D, S, n, rfl, upd_same, by omega, fun ns p h1 h2 h3 hp => ?_⟩
    refine mkL_ok (k.mono e1) (r1.junk hD) (rps_ints ns) hp (q ns h1 fun k => ?_)
    rw [h2, hS, ← lk, List.take_length]
end
end DL

set_option Elab.async false
set_option linter.all false
set_option maxRecDepth 100000
set_option maxHeartbeats 4000000
namespace DL
open PySem PySem.Spec PyProof.Rows L2 GenW GenF
def dListG (mt : Bool) (sp : DSpG) (ta : DTA) : DTE := fun r m Q => ta r m fun ds m1 => sp ds m1 fun ys => mkL mt ys m1 Q
section
variable {X : Cx} {W : WX} {WD : DWX} {k : Nat} {f : Addr} {fd : FuncData} {ps : List Str} {sp : DSpG} {x : Str} {p pl pos cpos : Pos} {e : Expr} {es : List Expr} {t : DTA}
theorem de_listG (mt : Bool) (GF : GFnD X.prog X.w X.K X.mg X.base k f fd ps sp) (hc : X.calm = true) (hr : Room (k + 3) X.A) (hg : Gl X x) (hm : X.mg x = some (.ref f)) (hk : PySem.W.keepIn X.K (.ref f) = true) (hb : Binds X.K fd ps [])
    (ha : DA X W WD (e :: es) t) (hgl : Gl X "list") (hml : X.mg "list" = none) (hvl : bootBuiltins "list" = some (.type "list")) (hdb : (x == ("__debug__" : Str)) = false := by decide) (he : starEach (e :: es) X.env = (false, eval e X.env) :: starEach es X.env := by rfl) (hpl : (backTo cpos (starEach es X.env)).any (·.1) = false := by rfl)
    (he2 : starEach [.Call (.Name x p) (e :: es) [] cpos] X.env = (false, eval (.Call (.Name x p) (e :: es) [] cpos) X.env) :: starEach [] X.env := by rfl) :
    DE X W WD (.Call (.Name "list" pl) [.Call (.Name x p) (e :: es) [] cpos] [] pos) (dListG mt sp t) := by
  refine ⟨fun pins s σ H Q I h => ?_⟩
  obtain ⟨G, Fh, r, m, QD, sx, tt, kk⟩ := h
  refine wpAny_Call_Name_kw (ld_blt I hgl hml hvl ?_ (by decide) (by decide))
  refine PyProof.Rows.callWith_type1 (thn (Q := fun us s2 => ∃ u s1 H1 G1 m1, us = [u] ∧ Same G G1 ∧ Inv X pins σ H1 s1 ∧ Rep X.K G1 H1 Fh m1 ∧ GMadeD X.prog X.w X.K X.mg X.base k X.stack H1 s1 G1 Fh m1 (fun ys => mkL mt ys m1 QD) u s2) ?_ fun us s2 h2 => ?_) he2 rfl
  · rw [he2]
    show wpAny _ _ (spliced ((false, eval (.Call (.Name x p) (e :: es) [] cpos) X.env) :: backTo pos (starEach [] X.env))) _ _ s
    refine Calls.spliced_cons ?_
    refine wpAny_Call_Name_kw (ld_glob I hg hm ?_ hdb)
    refine PySem.W.callWith_K (h₀ := X.base) I.ok.mod.kin hk (thn (ha.run cpos pins s σ H (fun vs H' => ∃ G' m' ds, Same G G' ∧ Rep X.K G' H' Fh m' ∧ Rps X.K G' ds vs ∧ sp ds m' fun ys => mkL mt ys m' QD) I ⟨G, Fh, r, m, _, sx, tt, fun G' H' m' ds vs e1 r1 p1 q => ⟨G', m', ds, e1, r1, p1, q⟩⟩) fun us s1 hus => ?_) he hpl
    obtain ⟨vs, H1, I1, rv1, G1, m1, ds, e1, rep1, rp1, hsp⟩ := hus
    refine ⟨I1.kIn, ?_⟩
    have hl : (us ++ ([] : List Value)).length = ps.length := by rw [List.append_nil, ← rv1.length, ← rp1.length]; exact GF.len _ _ _ hsp
    have b1 := hb s1 us I1.kIn hl
    rw [List.append_nil] at b1
    refine wpAny_call (codeAny_mono (GF.run X.A X.stack s1 H1 G1 Fh m1 ⟨us, []⟩ us vs ds _ (hr.mono (Nat.le_add_right k 3)) I1.env0 b1 rv1 rep1 rp1 hsp) fun rr s2 hq => ?_)
    cases rr with
    | error e => exact hq.elim
    | ok fl =>
    cases fl with
    | next => exact hq.elim
    | brk => exact hq.elim
    | cont => exact hq.elim
    | ret u => exact Calls.spliced_nil ⟨u, s1, H1, G1, m1, rfl, e1, I1, rep1, hq⟩
  obtain ⟨u, s1, H1, G1, m1, rfl, e1, I1, rep1, hq⟩ := h2
  obtain ⟨N, qual, scope, fa, cd, a, go, gi, c, oL, ys, rfl, hLa, hgo, hgen, hgc, hgs, hos, hba, hkp, hoL, hLc, hys, hyl, _, wake⟩ := hq
  have lt : X.env.locals < s1.heap.objs.size := I1.lt
  have sz : X.s_0.heap.objs.size ≤ s1.heap.objs.size := I1.sz
  have clt : ∀ y c, X.env.cells.lookup y = some c → c < s1.heap.objs.size := fun y c q => by
    obtain ⟨v, q⟩ := I1.cell y c q
    exact q.lt
  have plt : ∀ q ∈ X.pn ++ pins, q.1 < s1.heap.objs.size := fun q hq => Heap.lt_size (I1.pin q hq).1
  have I2 : Inv X pins σ H1 s2 := I1.call' (ch := []) hos (Un.kept hkp) (I1.hok.kept hkp) hba fun b z => by simp at z
  have sz2 : s1.heap.objs.size ≤ s2.heap.objs.size := Nat.le_of_lt (Heap.lt_size hoL)
  obtain ⟨S, hSd⟩ : ∃ S, S = s2.heap.objs.size := ⟨_, rfl⟩
  have hSn : H1 S = none := I2.hok.fresh (by rw [hSd]; exact Nat.le_refl _)
  have hFS : Fh S = none := rep1.frm.free hSn
  have hSa : S ≠ a := by rw [hSd]; exact Nat.ne_of_gt (Heap.lt_size hgo)
  obtain ⟨CW, hCW⟩ : ∃ CW : Nat → Shared → Hp → Hp → Hp → Prop, ∀ j s H G F, CW j s H G F ↔ ∃ vs, F = upd Fh S (.lst vs) ∧ Rps X.K G (ys.take j) vs ∧ Inv X pins σ H s ∧ Same G1 G := ⟨_, fun _ _ _ _ _ => Iff.rfl⟩
  have wk := fun s3 H3 G3 F3 => wake X.A.in1.in1.in1 CW s3 H3 G3 F3 hr.in1.in1.in1 I1.ok.frames
  generalize hX : gxOf X.prog X.w X.K X.mg X.base N qual scope fa cd X.A.in1.in1.in1 X.stack s1 H1 [(a, go)] = X' at wk
  have hXl : X'.env.locals = s1.heap.objs.size := by rw [← hX]; rfl
  have hXf : X'.fs = frs X.stack := by rw [← hX]; rfl
  have hXp : X'.prog = X.prog := by rw [← hX]; rfl
  have hXw : X'.w = X.w := by rw [← hX]; rfl
  have hXk : X'.K = X.K := by rw [← hX]; rfl
  have hXb : X'.base = X.base := by rw [← hX]; rfl
  have hXo : X'.outer = X.stack := by rw [← hX]; rfl
  have hXn : X'.pn = [(a, go)] := by rw [← hX]; rfl
  have awake : ∀ {s3 sS : Shared} {H3 G3 GS F3 : Hp} {priv : List (Addr × Obj)}, Inv X pins σ H3 s3 → Rep X.K G3 H3 F3 m1 → Same GS G3 → sS.os = X.s_0.os → (∀ q ∈ priv, s3.heap.get? q.1 = some q.2 ∧ H3 q.1 = none) → Aw X' F3 m1 priv sS GS (s3.setGen gi .running) H3 G3 := fun {s3 sS H3 G3 GS F3 priv} I3 rep3 sm os3 pr => by
    refine ⟨I3.os.trans os3.symm, allBare_setGen I3.bare rfl, pr, ?_, sm, ?_, ?_, ?_, ?_⟩
    · rw [hXp, hXw]; exact I3.hok
    · rw [hXk]; exact rep3
    · rw [hXb]; exact I3.bs
    · rw [hXb, hXo]; exact I3.stack
    · rw [hXf]; exact I3.stkFree
  obtain ⟨LI, hLI⟩ : ∃ LI : Nat → Shared → Prop, ∀ n s, LI n s ↔ ∃ (j : Nat) (H3 G3 GS : Hp) (y : GenState) (priv : List (Addr × Obj)) (sS : Shared) (vs : List V), n + j = ys.length ∧ s.gens[gi]? = some y ∧ Inv X pins σ H3 s ∧ Rep X.K G3 H3 (upd Fh S (.lst vs)) m1 ∧ Rps X.K G3 (ys.take j) vs ∧ Same GS G3 ∧ Same G1 G3 ∧ sS.os = X.s_0.os ∧
    (∀ q ∈ priv, s.heap.get? q.1 = some q.2 ∧ H3 q.1 = none) ∧ (a, go) ∈ priv ∧ ∀ s3 H3 G3 F3, Aw X' F3 m1 priv sS GS s3 H3 G3 → CW j s3 H3 G3 F3 → y.Goes (model X.prog X.w) X.A.in1.in1.in1 (DR ⟨X', m1, ys, CW⟩) (DY ⟨X', m1, ys, CW⟩) (sizeLine - j) (.send .none) s3 := ⟨_, fun _ _ => Iff.rfl⟩
  have back : ∀ {H0 H4 : Hp} {s₀ t : Shared}, Inv X pins σ H0 s₀ → t.os = s₀.os → AllBare t.gens → Un (frs X.stack) [] H0 H4 (cutH s₀.heap s1.heap.objs.size) t.heap → HOk X.prog X.w H4 t.heap → Inv X pins σ H4 t := fun {H0 H4 s₀ t} I0 os0 ba0 un0 ok0 => by
    have nil : ∀ b : Addr, b ∉ ([] : List Addr) := fun _ => List.not_mem_nil
    have low : ∀ {b : Addr} {o : Obj}, s₀.heap.get? b = some o → b ∉ (List.range s₀.heap.objs.size).filter (fun b => decide (s1.heap.objs.size ≤ b)) → (cutH s₀.heap s1.heap.objs.size).get? b = some o := fun {b o} q hx => by
      rw [cutH_lt]
      · exact q
      · refine Nat.lt_of_not_le fun hle => hx (List.mem_filter.mpr ⟨List.mem_range.mpr (Heap.lt_size q), decide_eq_true hle⟩)
    refine I0.call' (ch := (List.range s₀.heap.objs.size).filter (fun b => decide (s1.heap.objs.size ≤ b))) os0 ⟨fun b o q n hb hx => un0.keep b o (low q hx) n hb (nil b), fun b o q n hb hx => un0.slot b o (low q hx) n hb (nil b), fun b o q n hx => un0.free b o (low q hx) n (nil b), fun b o q hx => un0.there b o (low q hx) (nil b), un0.tups, un0.frzs, un0.tbls⟩ ok0 ba0 fun b hb => ?_
    have hb : s1.heap.objs.size ≤ b := of_decide_eq_true (List.mem_filter.mp hb).2
    exact ⟨.inr (Nat.le_trans sz hb), Nat.ne_of_gt (Nat.lt_of_lt_of_le lt hb), fun y c q => Nat.ne_of_lt (Nat.lt_of_lt_of_le (clt y c q) hb), fun q hq => Nat.ne_of_lt (Nat.lt_of_lt_of_le (plt q hq) hb)⟩
  have drain : ∀ (R : Result → Shared → Prop), (∀ s' H4 G4 vs, Inv X pins σ H4 s' → Rep X.K G4 H4 (upd Fh S (.lst vs)) m1 → Rps X.K G4 ys vs → Same G1 G4 → R (.ok (.ret .none)) s') → ∀ (n : Nat) (s : Shared), LI n s → codeAny (model X.prog X.w) X.A.in1 (.builtin "list.extend.loop" ⟨[.ref S, .ref a, .none], []⟩) R s := by
    intro R hend n
    induction n using Nat.strongRecOn with
    | ind n ih =>
    intro s3 hli
    obtain ⟨j, H3, G3, GS, y, priv, sS, vs, hn, hy, I3, rep3, rv3, sm, smG, os3, pr, hgp, hwk⟩ := (hLI _ _).mp hli
    have hgl : gi < s3.gens.size := (Array.getElem?_eq_some_iff.mp hy).1
    refine codeAny_builtin F.entry_extend_loop ?_
    rw [Around.under_plainId F.plain_extend_loop _]
    show wpAny _ X.A.in1.in1 (pyNext (.ref a) >>= _) _ _ s3
    refine wpAny_bind (wpAny_gsz (n := gi + 1) hgl ?_)
    refine next_s (A := X.A.in1.in1) (F := fun _ s₀ s => DRF ⟨X', m1, ys, CW⟩ s₀ s) (Y := DY ⟨X', m1, ys, CW⟩) (n := sizeLine - j) (I3.ok.hd hc) I3.nolimit hr.depth (hgen _ (pr _ hgp).1) hy ?_ ?_ ?_
    · exact hwk _ H3 G3 _ (awake I3 rep3 sm os3 pr) ((hCW _ _ _ _ _).mpr ⟨vs, rfl, rv3, Inv.gens I3 (allBare_setGen I3.bare rfl), smG⟩)
    · intro v t y' hyb hys hY hsz
      obtain ⟨j', F4, H0, G0, G4, H4, d, x4, priv', hn', cw, e0, os4, ba4, un4, hok4, rep4, rp4, rv4, hd, hpr', hpn', kap⟩ := hY
      obtain ⟨vs0, rfl, rv0, I0, sm0⟩ := (hCW _ _ _ _ _).mp cw
      have hd : ys[j']? = some d := hd
      have hjl : j' < ys.length := (List.getElem?_eq_some_iff.mp hd).1
      have hjz : j ≤ ys.length := by omega
      obtain rfl : j' = j := by omega
      have un4 : Un (frs X.stack) [] H0 H4 (cutH s3.heap s1.heap.objs.size) t.heap := by
        have := un4
        rw [show (⟨X', m1, ys, CW⟩ : GP).X = X' from rfl, hXf, hXl] at this
        exact this
      have hok4 : HOk X.prog X.w H4 t.heap := by rw [← hXp, ← hXw]; exact hok4
      have rep4 : Rep X.K G4 H4 (upd Fh S (.lst vs0)) m1 := by rw [← hXk]; exact rep4
      have rp4 : Rp X.K G4 d x4 := by rw [← hXk]; exact rp4
      have I4 : Inv X pins σ H4 t := back I0 os4 ba4 un4 hok4
      have I5 : Inv X pins σ H4 (t.setGen gi y') := Inv.gens I4 (allBare_setGen I4.bare hyb)
      have rvG : Rps X.K G4 (ys.take j') vs0 := rv0.mono e0
      have h4S : H4 S = some (.lst vs0) := rep4.frm S _ upd_same
      have hvl : vs0.length = j' := by rw [← rvG.length, List.length_take]; omega
      obtain ⟨hz0, its, cnt, hvals, hob⟩ := hok4 S _ h4S
      have hsz' : its.length = j' := by rw [← hvals.length, hvl]
      have hgp' : (a, go) ∈ priv' := hpn' _ (by show (a, go) ∈ X'.pn; rw [hXn]; exact List.mem_singleton.mpr rfl)
      have hS1 : (t.setGen gi y').heap.get? S = some { cls := .type "list", data := .seq its.toArray cnt } := hob
      show wpAny _ X.A.in1.in1 (updateSeq S (·.push v) >>= _) _ _ _
      refine wpAny_bind ?_
      have hss : its.toArray.size = j' := by rw [List.size_toArray]; exact hsz'
      refine wpAny_updateSeq hS1 rfl (wpAny_pure ⟨plainId_quiet F.plain_extend_loop _, ?_⟩) (by show its.toArray.size ≤ _; omega) (by show (its.toArray.push v).size ≤ sizeLine + 1; rw [Array.size_push]; omega)
      have hgt : (t.setGen gi y').gens[gi]? = some y' := setGen_at (by have := hsz; rw [setGen_size] at this; omega)
      have hnew := Heap.get?_update_self (Obj.mapSeq (·.push v)) hS1 rfl
      have keep : ∀ b o, b ≠ S → t.heap.get? b = some o → (t.heap.update S (Obj.mapSeq (·.push v))).get? b = some o := fun b o hb q => (Heap.get?_update_other _ _ (Ne.symm hb)).trans q
      obtain ⟨cn, hcn⟩ : ∃ cn, Obj.mapSeq (·.push v) { cls := .type "list", data := .seq its.toArray cnt } = { cls := .type "list", data := .seq (its ++ [v]).toArray cn } := ⟨_, by rw [show (its ++ [v]).toArray = its.toArray.push v by simp]; rfl⟩
      have I6 : Inv X pins σ (upd H4 S (.lst (vs0 ++ [x4]))) { t.setGen gi y' with heap := t.heap.update S (Obj.mapSeq (·.push v)) } := by
        refine I5.write (e := S) (t' := t.toks) (by rw [h4S]; trivial) (.inl rfl) keep ⟨_, hnew⟩ ⟨by rw [List.length_append, hvl]; show j' + 1 ≤ _; omega, its ++ [v], cn, hvals.append (.cons rv4 .nil), ?_⟩
        exact (show (t.heap.update S (Obj.mapSeq (·.push v))).get? S = _ from hnew).trans (congrArg some hcn)
      have rep6 : Rep X.K G4 (upd H4 S (.lst (vs0 ++ [x4]))) (upd Fh S (.lst (vs0 ++ [x4]))) m1 := rep4.turn
      refine ih (n - 1) (by omega) _ ((hLI _ _).mpr ⟨j' + 1, _, G4, G4, y', priv', t, vs0 ++ [x4], by omega, hgt, I6, rep6, ?_, Same.refl _, sm0.trans e0, I4.os, fun q hq => ?_, hgp', fun s8 H8 G8 F8 w8 cw8 => ?_⟩)
      · rw [List.take_add_one, hd]
        exact rvG.append (.cons rp4 .nil)
      · obtain ⟨q1, q2, q3, q4⟩ := hpr' q hq
        have hqS : q.1 ≠ S := fun z => by rw [z, h4S] at q2; cases q2
        exact ⟨keep _ _ hqS q1, by rw [upd_ne hqS]; exact q2⟩
      · have := kap s8 H8 G8 F8 w8 cw8
        obtain ⟨mm, hmm⟩ : ∃ mm, sizeLine - j' = mm + 1 := ⟨sizeLine - j' - 1, by omega⟩
        rw [hmm] at this
        rw [show sizeLine - (j' + 1) = mm by omega]
        exact this
    · intro t ht h' hk' _
      obtain ⟨F4, H0, G0, G4, H4, cw, e0, os4, ba4, un4, hok4, rep4, _⟩ := ht
      obtain ⟨vs0, rfl, rv0, I0, sm0⟩ := (hCW _ _ _ _ _).mp cw
      have un4 : Un (frs X.stack) [] H0 H4 (cutH s3.heap s1.heap.objs.size) t.heap := by
        have := un4
        rw [show (⟨X', m1, ys, CW⟩ : GP).X = X' from rfl, hXf, hXl] at this
        exact this
      have hok4 : HOk X.prog X.w H4 t.heap := by rw [← hXp, ← hXw]; exact hok4
      have rep4 : Rep X.K G4 H4 (upd Fh S (.lst vs0)) m1 := by rw [← hXk]; exact rep4
      have I4 : Inv X pins σ H4 t := back I0 os4 ba4 un4 hok4
      refine wpAny_pure (hend _ H4 G4 vs0 ?_ rep4 ?_ (sm0.trans e0))
      · exact (Inv.gens I4 (allBare_setGen I4.bare rfl) : Inv X pins σ H4 (t.setGen gi .finished)).kept (t' := t.toks) hk'
      · have := rv0.mono e0
        rw [show (⟨X', m1, ys, CW⟩ : GP).ys = ys from rfl, List.take_length] at this
        exact this
  have hS : (s2.heap.push { cls := .type "list", data := .seq #[] }).get? S = some { cls := .type "list", data := .seq #[] } := by rw [hSd]; exact Heap.get?_push_size _ rfl
  refine callType_codes (Q₁ := fun obj s₁ => obj = .ref S ∧ s₁ = { s2 with heap := s2.heap.push { cls := .type "list", data := .seq #[] } }) F.called_list (F.typeCall_list_1 _) F.entry_list_init
    (code_list_new _ ⟨by rw [hSd], rfl⟩) fun obj s₁ h₁ => ?_
  obtain ⟨rfl, rfl⟩ := h₁
  refine ⟨⟨_, hS, rfl⟩, F.args_list_init_2 _ _, ?_⟩
  show wpAny _ X.A.in1.in1 (do let old ← Builtin.List.listItems (.ref S); Builtin.List.listUpdate (.ref S) (fun _ => #[]); letGo old.toList.reverse; Builtin.List.listExtendWith (.ref S) (.ref a) .none) _ _ _
  refine wpAny_bind ?_
  unfold Builtin.List.listItems
  refine wpAny_bind (wpAny_seqItems hS rfl (wpAny_pure ?_))
  show wpAny _ X.A.in1.in1 (updateSeq S (fun _ => #[]) >>= fun _ => letGo (#[] : Array Value).toList.reverse >>= fun _ => Builtin.List.listExtendWith (.ref S) (.ref a) .none) _ _ _
  refine wpAny_bind (wpAny_updateSeq hS rfl ?_)
  have hS2 := Heap.get?_update_self (Obj.mapSeq (fun _ => (#[] : Array Value))) hS rfl
  refine wpAny_bind (wpAny_letGo ?_)
  unfold Builtin.List.listExtendWith
  have up : ∀ (h : Heap) (f : Obj → Obj), (∀ b o, s2.heap.get? b = some o → h.get? b = some o) → ∀ b o, s2.heap.get? b = some o → (h.update S f).get? b = some o := fun h f q b o e =>
    (Heap.get?_update_other _ _ (Ne.symm (by rw [hSd]; exact Nat.ne_of_lt (Heap.lt_size e)))).trans (q b o e)
  have k1 : ∀ b o, s2.heap.get? b = some o → (s2.heap.push { cls := .type "list", data := .seq #[] }).get? b = some o := fun b o e => Heap.get?_push_of_some _ e
  have k2 := up _ (Obj.mapSeq (fun _ => (#[] : Array Value))) k1
  have gty : ∀ {h : Heap}, (∀ b o, s2.heap.get? b = some o → h.get? b = some o) → h.IsGen a gi := fun {h} q => hgen h (q _ _ hgo)
  refine wpAny_bind (wpAny_typeOf (Heap.IsGen.typeIs (s := { s2 with heap := _ }) (gty k2)) ?_)
  have h1 : Builtin.List.listSameRef (.ref S) (.ref a) = false := by simp [Builtin.List.listSameRef, hSa]
  have h2 : (Value.type "generator" == Value.type "list") = false := by decide
  have h3 : (Value.type "generator" == Value.type "tuple") = false := by decide
  simp only [h1, h2, h3, Bool.or_false, Bool.false_eq_true, if_false]
  refine wpAny_bind (wpAny_pyIter_gen (s := { s2 with heap := _ }) (gty k2) ?_)
  refine wpAny_bind (wpAny_holding ?_)
  unfold Builtin.List.listLengthHint
  refine wpAny_bind (wpAny_specialOf (Heap.IsGen.typeIs (s := { s2 with heap := _ }) (gty k2)) F.gen_no_len ?_)
  show wpAny _ X.A.in1.in1 (specialOf (Value.ref a) (Str.ofString "__length_hint__") >>= _) _ _ _
  refine wpAny_bind (wpAny_specialOf (Heap.IsGen.typeIs (s := { s2 with heap := _ }) (gty k2)) F.gen_no_hint ?_)
  refine wpAny_pure ?_
  show wpAny _ X.A.in1.in1 (rule "list.extend.makes-room" >>= fun _ => Builtin.List.listTouch (.ref S) >>= fun _ =>
    again (.builtin "list.extend.loop" ⟨[.ref S, .ref a, .none], []⟩)) _ _ _
  refine wpAny_bind (wpAny_rule ?_)
  refine wpAny_bind ?_
  show wpAny _ X.A.in1.in1 (updateSeq S (·.push .none) >>= fun _ => updateSeq S (·.pop)) _ _ _
  refine wpAny_bind (wpAny_updateSeq hS2 rfl ?_)
  have hS3 := Heap.get?_update_self (Obj.mapSeq (·.push Value.none)) hS2 rfl
  refine wpAny_updateSeq (hz := by seq_fits) hS3 rfl ?_
  have hS4 := Heap.get?_update_self (Obj.mapSeq (·.pop)) hS3 rfl
  have k4 := up _ (Obj.mapSeq (·.pop)) (up _ (Obj.mapSeq (·.push Value.none)) k2)
  refine wpAny_pure ⟨plainId_quiet F.plain_extend_loop _, ?_⟩
  have hSz : s2.heap.objs.size ≤ S := by rw [hSd]; exact Nat.le_refl _
  have I4 : Inv X pins σ (upd H1 S (.lst [])) { s2 with heap := (((s2.heap.push { cls := .type "list", data := .seq #[] }).update S (Obj.mapSeq (fun _ => (#[] : Array Value)))).update S (Obj.mapSeq (·.push Value.none))).update S (Obj.mapSeq (·.pop)), toks := s2.toks } :=
    I2.laid k4 hSz ⟨Nat.zero_le _, [], _, .nil, hS4⟩
  have rep4 : Rep X.K G1 (upd H1 S (.lst [])) (upd Fh S (.lst [])) m1 := rep1.hide hSn
  refine drain _ (fun s' H4 G4 vs I5 rep5 rv5 e5 => ⟨rfl, ?_⟩) ys.length _ ((hLI _ _).mpr ?_)
  · refine ⟨0, _, G1, G1, _, [(s1.heap.objs.size, oL), (a, go)], s2, [], by omega, hgs, I4, rep4, .nil, Same.refl _, Same.refl _, I2.os, fun q hq => ?_, by simp, fun s3 H3 G3 F3 w cw => ⟨rfl, wk s3 H3 G3 F3 w cw⟩⟩
    rcases List.mem_cons.mp hq with rfl | hq
    · exact ⟨k4 _ _ hoL, (by rw [upd_ne (by rw [hSd]; exact Nat.ne_of_lt (Heap.lt_size hoL))]; exact I1.hok.fresh (Nat.le_refl _))⟩
    · rw [List.mem_singleton.mp hq]
      exact ⟨k4 _ _ hgo, (by rw [upd_ne (Ne.symm hSa)]; exact I1.hok.fresh (Nat.le_of_lt hLa))⟩
  · refine ⟨.ref S, H4, I5, rfl, ?_⟩
    cases mt with
    | false =>
      obtain ⟨e6, rep6, p6⟩ := rep5.outL hFS rv5
      exact kk _ H4 m1 _ _ ((e1.trans e5).trans e6) rep6 p6 hys
    | true =>
      obtain ⟨mp, rep6⟩ := rep5.outM hFS rv5
      exact kk _ H4 _ _ _ (e1.trans e5) rep6 (.ref S) (hys S mp)
end
end DL

set_option Elab.async false
set_option linter.all false
set_option maxRecDepth 100000
set_option maxHeartbeats 4000000
namespace DL
open PySem PySem.Spec PyProof.Rows L2 GenW
structure GoodG (P : Program) (w : World) (K : Fr0) (mg : Str → Option Value) (base : Heap) (k : Nat) (x : Str) (f : Addr) (ps : List Str) (sp : DSpG) : Prop where
  ex : ∃ fd, GFnD P w K mg base k f fd ps sp ∧ Binds K fd ps [] ∧ PySem.W.keepIn K (.ref f) = true
  gl : mg x = some (.ref f)
theorem fn_g {P : Program} {w : World} {K : Fr0} {mg : Str → Option Value} {base : Heap} {x qual : Str} {params : Arguments} {body : List Stmt} {scope : Scope} {dvs : List V} {kws : List (Str × V)} {f : Addr} {fd : FuncData} {N ps : List Str} {k : Nat} {sp : DSpG}
    (F : FunD K x qual params body scope dvs kws f fd) (S : GScope N ps scope) (hnc2 : ∀ n, cellsFrom n scope.names [] = []) (len : ∀ ds m Q, sp ds m Q → ds.length = ps.length) (t : List D → M → DGn)
    (hb : ∀ (cdv : Value) (A : Around) (outer : List Env) (s : Shared) (H : Hp) (pn : List (Addr × Obj)) (m0 : M) (ys : List D) (CW : Nat → Shared → Hp → Hp → Hp → Prop), Room k (A.deeper (envOfC qual scope s.heap.objs.size f cdv)) → GenX (gxOf P w K mg base N qual scope f cdv A outer s H pn) →
      DGSs ⟨gxOf P w K mg base N qual scope f cdv A outer s H pn, m0, ys, CW⟩ body (t ys m0))
    (pure_ : ∀ ds m Q, sp ds m Q → ∃ ys, Q ys ∧ ys.length < sizeLine ∧ t ys m { nx := fun j _ m' => j = ys.length ∧ m' = m } 0 (startD N ds) m) : GFnD P w K mg base (k + 1) f fd ps sp := by
  obtain ⟨oc, od, dV, kV, doc, pm, an, cdv, ct, osl, rfl, lk, hcd, _, _⟩ := F.ex
  refine gfnD_of lk hcd S hnc2 len t (fun g A outer s H pn e hr => ?_) pure_
  obtain ⟨X, m0, ys, CW⟩ := g
  cases e
  exact hb cdv A outer s H pn m0 ys CW hr ⟨rfl, fun y => by show (cellsFrom (s.heap.objs.size + 1) scope.names []).lookup y = none; rw [hnc2]; rfl, fun _ _ h => h⟩
end DL

set_option Elab.async false
set_option linter.all false
set_option maxRecDepth 100000
set_option maxHeartbeats 4000000
namespace LW
open PySem PySem.Spec PyProof.Rows L2 DL
open He (ga ma)
abbrev il (ns : List Int) : D := .lst (ns.map D.int)
def SIGNS : Str := "0123456789_"
def inS (j i : Str) : Bool := !(Builtin.Str.occurrences j i 0 j.length 1).isEmpty
def nameB (z : Str) : Bool := decide (1 ≤ z.cps.size ∧ z.cps.size ≤ 12) && (match z.cps.toList with
  | c :: _ => inS LETTERS ⟨#[c]⟩
  | [] => false) && z.cps.toList.all fun c => inS LETTERS ⟨#[c]⟩ || inS SIGNS ⟨#[c]⟩
def sp_is_name (_ : Fr0) : DSp := fun ds m Q _ => ∃ z : Str, ds = [.str z] ∧ z.length ≤ 1000000 ∧ Q (.bl (nameB z)) m
structure Tsk where
  nm : Str
  ks : List Knd
  as : List Arr
abbrev ksD (ks : List Knd) : D := .lst (ks.map Knd.D)
abbrev asD (as : List Arr) : D := .lst (as.map Arr.D)
abbrev names (ks : List Knd) : List Str := ks.map Knd.n
structure KsOk (b : Bool) (ks : List Knd) : Prop where
  nm : ∀ k ∈ ks, nameB k.n = true
  nd : (names ks).Nodup
  c : ∀ k ∈ ks, 1 ≤ k.c ∧ k.c ≤ (if b then 9 else 99)
  d : ∀ k ∈ ks, 1 ≤ k.d ∧ k.d ≤ (if b then 24 else 99)
structure AsOk (ns : List Str) (as : List Arr) : Prop where
  f : ∀ a ∈ as, a.f ∈ ns
  s : ∀ a ∈ as, a.s ∈ ns
  g : ∀ a ∈ as, 1 ≤ a.g ∧ a.g ≤ 12
  nd : (as.map fun a => (a.f, a.s)).Nodup
structure Tsk.Ok (t : Tsk) : Prop where
  nm : nameB t.nm = true
  k1 : 1 ≤ t.ks.length
  k4 : t.ks.length ≤ 4
  a12 : t.as.length ≤ 12
  ks : KsOk (decide (0 < t.as.length)) t.ks
  as : AsOk (names t.ks) t.as
def taskF (t : Tsk) : List (Str × D) := [("name", .str t.nm), ("kind_rows", ksD t.ks), ("arrow_rows", asD t.as)]
def taskD (K : Fr0) (t : Tsk) : D := .ins (ga K "Task") (taskF t)
def sq0 : D → Option (List D)
  | .lst xs => some xs
  | .tup xs => some xs
  | _ => none
def sp_need_name (_ : Fr0) : DSp := fun ds m Q _ => ∃ z : Str, ds = [.str z] ∧ z.length ≤ 1000000 ∧ nameB z = true ∧ Q .non m
def sp_need_range (_ : Fr0) : DSp := fun ds m Q _ => ∃ (x : D) (v lo hi : Int), ds = [x, .int v, .int lo, .int hi] ∧ lo ≤ v ∧ v ≤ hi ∧ Q .non m
def sp_need_kind (_ : Fr0) : DSp := fun ds m Q _ => ∃ (z : Str) (ks : List Knd), ds = [.str z, ksD ks] ∧ z ∈ names ks ∧ ks.length ≤ 100 ∧ Q .non m
def sp_checked_kinds (_ : Fr0) : DSp := fun ds m Q _ => ∃ (ks : List Knd) (b : Bool), ds = [ksD ks, .bl b] ∧ KsOk b ks ∧ ks.length ≤ 100 ∧ Q (ksD ks) m
def sp_checked_arrows (_ : Fr0) : DSp := fun ds m Q _ => ∃ (as : List Arr) (x : D) (ks : List Knd), ds = [x, ksD ks] ∧ sq0 x = some (as.map Arr.D) ∧ AsOk (names ks) as ∧ as.length ≤ 100 ∧ ks.length ≤ 100 ∧ (∀ z ∈ names ks, nameB z = true) ∧ Q (asD as) m
def sp_Task_init (K : Fr0) : DSp := fun ds m Q _ => ∃ (a : Addr) (t : Tsk) (x : D), ds = [.ref a, .str t.nm, ksD t.ks, x] ∧ sq0 x = some (t.as.map Arr.D) ∧ m a = some (.ins (ga K "Task") []) ∧ t.Ok ∧ Q .non (mset m a (.ins (ga K "Task") (taskF t)))
def foll (t : Tsk) (z : Str) : List Arr := t.as.filter fun a => decide (a.f = z)
def folD (a : Arr) : D := .tup [.str a.s, .int a.g]
def jAt (w : List Job) (p : Nat) : Job := w.getD p ⟨"", 0, 0⟩
def t0 : Tsk := ⟨"", [], []⟩
def tAt (ts : List Tsk) (i : Nat) : Tsk := ts.getD i t0
def wAt (ws : List (List Job)) (i : Nat) : List Job := ws.getD i []
abbrev wkD (w : List Job) : D := .lst (w.map Job.D)
abbrev wksD (ws : List (List Job)) : D := .lst (ws.map wkD)
def kOf (t : Tsk) (z : Str) : Knd := (t.ks.find? fun k => decide (k.n = z)).getD ⟨z, 0, 0⟩
def rowJ (t : Tsk) (g : Int) (i : Nat) (w : List Job) (p : Nat) : Rw := ⟨i, p, (jAt w p).k, (jAt w p).r, (jAt w p).c, (jAt w p).r + (kOf t (jAt w p).k).d * g⟩
def rowsW (t : Tsk) (g : Int) (i : Nat) (w : List Job) : List Rw := (List.range w.length).map (rowJ t g i w)
def rowsR (ts : List Tsk) (g : Int) (ws : List (List Job)) : List Rw := (List.range ws.length).flatMap fun i => rowsW (tAt ts i) g i (wAt ws i)
def keyR (x : Rw) : PyData := .tuple [.int x.r, .int x.i, .int x.p]
def srtR (l : List Rw) : List Rw := l.mergeSort (PySem.W.dataLe false keyR)
def jobsR (ts : List Tsk) (g : Int) (ws : List (List Job)) : List Rw := srtR (rowsR ts g ws)
def runF (g : Int) (js : List Rw) : List (Str × D) := [("grain", .int g), ("placed", .lst (js.map Rw.D))]
def runD (K : Fr0) (g : Int) (js : List Rw) : D := .ins (ga K "Run") (runF g js)
def unkK (K : Fr0) (z : Str) : XD := ⟨ga K "UnknownKind", [("name", .str z)]⟩
def plX (K : Fr0) (C : Str) (i p : Nat) : XD := ⟨ga K C, [("place", .int p), ("task", .int i)]⟩
def rngX (K : Fr0) (z : Str) (v : Int) : XD := ⟨ga K "OutOfRange", [("value", .int v), ("what", .str z)]⟩
def cntX (K : Fr0) (z : Str) (v : Int) : XD := ⟨ga K "WrongCount", [("count", .int v), ("what", .str z)]⟩
def gapF (t : Tsk) (z w : Str) : Option Int := ((foll t z).find? fun a => decide (a.s = w)).map Arr.g
def jobX (K : Fr0) (t : Tsk) (w : List Job) (i p : Nat) (g : Int) : Option XD :=
  if (jAt w p).k ∉ names t.ks then some (unkK K (jAt w p).k)
  else if ¬ (1 ≤ (jAt w p).c ∧ (jAt w p).c ≤ (kOf t (jAt w p).k).c * g) then some (plX K "BadCost" i p)
  else if (jAt w p).r < 0 then some (plX K "BadRelease" i p)
  else if p = 0 then none
  else match gapF t (jAt w (p - 1)).k (jAt w p).k with
    | none => some (plX K "NoArrow" i p)
    | some a => if (jAt w p).r - (jAt w (p - 1)).r < a * g then some (plX K "GapTooShort" i p) else none
def walkX (K : Fr0) (t : Tsk) (w : List Job) (i : Nat) (g : Int) : Option XD := (List.range w.length).findSome? fun p => jobX K t w i p g
def allX (K : Fr0) (ts : List Tsk) (ws : List (List Job)) (g : Int) : Option XD := (List.range ws.length).findSome? fun i => walkX K (tAt ts i) (wAt ws i) i g
def many (ws : List (List Job)) : Nat := (ws.map List.length).sum
def cntsX (K : Fr0) (ts : List Tsk) (ws : List (List Job)) (g : Int) : Option XD :=
  if ¬ (1 ≤ g ∧ g ≤ 60) then some (rngX K "grain" g) else if ws.length ≠ ts.length then some (cntX K "walks" ws.length) else if 400 < many ws then some (cntX K "jobs" (many ws)) else none
def runX (K : Fr0) (ts : List Tsk) (ws : List (List Job)) (g : Int) : Option XD := match cntsX K ts ws g with
  | some x => some x
  | none => allX K ts ws g
def Out (o : Option XD) (q : Prop) (e : XD → Prop) : Prop := match o with
  | none => q
  | some x => e x
def sp_Task_row_of (K : Fr0) : DSp := fun ds m Q E => ∃ (t : Tsk) (x : D) (z : Str), ds = [x, .str z] ∧ x = taskD K t ∧ t.Ok ∧ (∀ k ∈ t.ks, k.n = z → Q k.D m) ∧ (z ∉ names t.ks → E (unkK K z) m)
def sp_Task_cost_of (K : Fr0) : DSp := fun ds m Q E => ∃ (t : Tsk) (x : D) (z : Str), ds = [x, .str z] ∧ x = taskD K t ∧ t.Ok ∧ (∀ k ∈ t.ks, k.n = z → Q (.int k.c) m) ∧ (z ∉ names t.ks → E (unkK K z) m)
def sp_Task_deadline_of (K : Fr0) : DSp := fun ds m Q E => ∃ (t : Tsk) (x : D) (z : Str), ds = [x, .str z] ∧ x = taskD K t ∧ t.Ok ∧ (∀ k ∈ t.ks, k.n = z → Q (.int k.d) m) ∧ (z ∉ names t.ks → E (unkK K z) m)
def sp_Task_followers (K : Fr0) : DSp := fun ds m Q E => ∃ (t : Tsk) (x : D) (z : Str), ds = [x, .str z] ∧ x = taskD K t ∧ t.Ok ∧ (z ∈ names t.ks → Q (.lst ((foll t z).map folD)) m) ∧ (z ∉ names t.ks → E (unkK K z) m)
def sp_gap_between (K : Fr0) : DSp := fun ds m Q _ => ∃ (t : Tsk) (x : D) (z w : Str), ds = [x, .str z, .str w] ∧ x = taskD K t ∧ t.Ok ∧ z ∈ names t.ks ∧ Q (match gapF t z w with | some a => .int a | none => .non) m
def sp_check_job (K : Fr0) : DSp := fun ds m Q E => ∃ (t : Tsk) (x : D) (w : List Job) (i p : Nat) (g : Int), ds = [x, wkD w, .int i, .int p, .int g] ∧ x = taskD K t ∧ t.Ok ∧ p < w.length ∧ (1 ≤ p → (jAt w (p - 1)).k ∈ names t.ks) ∧ (1 ≤ g ∧ g ≤ 60) ∧ Out (jobX K t w i p g) (Q .non m) fun x => E x m
def sp_check_counts (K : Fr0) : DSp := fun ds m Q E => ∃ (ts : List Tsk) (ws : List (List Job)) (g : Int), ds = [.lst (ts.map (taskD K)), wksD ws, .int g] ∧ ts.length ≤ 1000 ∧ ws.length ≤ 1000 ∧ Out (cntsX K ts ws g) (Q .non m) fun x => E x m
def sp_Run_init (K : Fr0) : DSp := fun ds m Q E => ∃ (a : Addr) (ts : List Tsk) (ws : List (List Job)) (g : Int), ds = [.ref a, .lst (ts.map (taskD K)), wksD ws, .int g] ∧ m a = some (.ins (ga K "Run") []) ∧ (∀ t ∈ ts, t.Ok) ∧ ts.length ≤ 1000 ∧ ws.length ≤ 1000 ∧ Out (runX K ts ws g) (Q .non (mset m a (.ins (ga K "Run") (runF g (jobsR ts g ws))))) fun x => ∀ m', MSub m m' → E x m'
def sp_Run_jobs (K : Fr0) : DSp := fun ds m Q _ => ∃ (g : Int) (js : List Rw), ds = [runD K g js] ∧ Q (.lst (js.map Rw.D)) m
abbrev jbsD (J : List Rw) : D := .lst (J.map Rw.D)
def sp_check_speed (K : Fr0) : DSp := fun ds m Q E => ∃ v : Int, ds = [.int v] ∧ (1 ≤ v ∧ v ≤ 99 → Q .non m) ∧ (¬ (1 ≤ v ∧ v ≤ 99) → E (rngX K "speed" v) m)
def rAt (J : List Rw) (j : Nat) : Rw := J.getD j ⟨0, 0, "", 0, 0, 0⟩
structure JOk (J : List Rw) : Prop where
  c : ∀ x ∈ J, 1 ≤ x.c
  r : ∀ x ∈ J, 0 ≤ x.r
  srt : ∀ i j, i ≤ j → j < J.length → (rAt J i).r ≤ (rAt J j).r
  len : J.length ≤ 1000
  rb : ∀ x ∈ J, x.r ≤ 10 ^ 12
abbrev rowsD (l : List IRow) : D := .lst (l.map IRow.D)
def insI (x : Int) : List Int → List Int
  | [] => [x]
  | y :: l => if x < y then x :: y :: l else if x = y then y :: l else y :: insI x l
def dist (l : List Int) : List Int := l.foldr insI []
def dueC (J : List Rw) (a e : Int) : Int := ((J.filter fun x => decide (a ≤ x.r) && decide (x.d = e)).map Rw.c).sum
def demC (J : List Rw) (a b : Int) : Int := ((J.filter fun x => decide (a ≤ x.r) && decide (x.d ≤ b)).map Rw.c).sum
def rowI1 (J : List Rw) (a b : Int) : List IRow := if 0 < demC J a b then [⟨a, b, demC J a b⟩] else []
def rowsA (J : List Rw) (a : Int) (bs : List Int) : List IRow := bs.flatMap (rowI1 J a)
def rowsI (J : List Rw) : List IRow := (dist (J.map Rw.r)).flatMap fun a => rowsA J a (dist (J.map Rw.d))
def hvS (v : Int) (best : Option IRow) (x : IRow) : Option IRow :=
  let ex := x.t - (x.b - x.a) * v
  match best with
  | none => some ⟨ex, x.a, x.b⟩
  | some y => if ex > y.a then some ⟨ex, x.a, x.b⟩ else some y
def hvL (v : Int) (l : List IRow) : Option IRow := l.foldl (hvS v) none
def bsD : Option IRow → D
  | none => .non
  | some y => y.D
def sp_costs_by_due (_ : Fr0) : DSp := fun ds m Q _ => ∃ (J : List Rw) (a : Int), ds = [jbsD J, .int a] ∧ J.length ≤ 1000 ∧ ∀ kvs : List (Key × Int), (∀ e : Int, (valI kvs (.inl e)).getD 0 = dueC J a e) → Q (.dki kvs) m
def sp_interval_demands (K : Fr0) : DSpG := fun ds m Q => ∃ (g : Int) (J : List Rw), ds = [runD K g J] ∧ J.length ≤ 1000 ∧ Q ((rowsI J).map IRow.D)
def sp_heaviest_interval (K : Fr0) : DSp := fun ds m Q E => ∃ (g : Int) (J : List Rw) (v : Int), ds = [runD K g J, .int v] ∧ J.length ≤ 1000 ∧ (¬ (1 ≤ v ∧ v ≤ 99) → E (rngX K "speed" v) m) ∧ (1 ≤ v ∧ v ≤ 99 → Q (bsD (hvL v (rowsI J))) m)
def cellAt (ns : List Int) (i : Int) : Int := if i < ns.length then ns.getD i.toNat 0 else 0
def sp_law_cell (_ : Fr0) : DSp := fun ds m Q _ => ∃ (ns : List Int) (i : Int), ds = [.rdl (ns.map D.int), .int i] ∧ 0 ≤ i ∧ Q (.int (cellAt ns i)) m
def pool (c v k : Int) : MO := .lst [.int c, .int v, .int k]
def sp_law_source (_ : Fr0) : DSp := fun ds m Q _ => ∃ c : Int, ds = [.int c] ∧ ∀ a, m a = none → Q (.ref a) (mset m a (pool c c 0))
def sp_law_draw (_ : Fr0) : DSp := fun ds m Q _ => ∃ (a : Addr) (lim c v k : Int), ds = [.ref a, .int lim] ∧ m a = some (pool c v k) ∧ (1 ≤ lim ∧ lim.natAbs < 2 ^ 200) ∧ (0 ≤ k ∧ k ≤ 100000) ∧
  ∀ r v', 0 ≤ r → r < lim → Q (.int r) (mset m a (pool c v' (k + 1)))
def specL (t : Tsk) : D := .lst [.str t.nm, ksD t.ks, asD t.as]
def sp_law_names (_ : Fr0) : DSp := fun ds m Q _ => ∃ (a : Addr) (n : Nat) (c v k : Int), ds = [.ref a, .int n] ∧ m a = some (pool c v k) ∧ (1 ≤ n ∧ n ≤ 4) ∧ (0 ≤ k ∧ k ≤ 10000) ∧ ∀ (zs : List Str) (v' k' : Int), zs.length = n → zs.Nodup → (∀ z ∈ zs, nameB z = true) → k ≤ k' → k' ≤ k + 20 → Q (.lst (zs.map D.str)) (mset m a (pool c v' k'))
def sp_law_task (_ : Fr0) : DSp := fun ds m Q _ => ∃ (a : Addr) (c v k : Int), ds = [.ref a] ∧ m a = some (pool c v k) ∧ (0 ≤ k ∧ k ≤ 5000) ∧ ∀ (t : Tsk) (v' k' : Int), t.Ok → k ≤ k' → k' ≤ k + 100 → Q (specL t) (mset m a (pool c v' k'))
def WkOk (t : Tsk) (g : Int) (w : List Job) : Prop := ∀ p, p < w.length → (∃ k ∈ t.ks, k.n = (jAt w p).k ∧ 1 ≤ (jAt w p).c ∧ (jAt w p).c ≤ k.c * g) ∧ 0 ≤ (jAt w p).r ∧ (1 ≤ p → ∃ a ∈ t.as, a.f = (jAt w (p - 1)).k ∧ a.s = (jAt w p).k ∧ a.g * g ≤ (jAt w p).r - (jAt w (p - 1)).r)
def sp_law_walk (_ : Fr0) : DSp := fun ds m Q _ => ∃ (a : Addr) (t : Tsk) (g c v k : Int), ds = [.ref a, specL t, .int g] ∧ m a = some (pool c v k) ∧ t.Ok ∧ (1 ≤ g ∧ g ≤ 60) ∧ (0 ≤ k ∧ k ≤ 5000) ∧ ∀ (w : List Job) (v' k' : Int), WkOk t g w → w.length ≤ 12 → (∀ j ∈ w, j.r ≤ 100000) → k ≤ k' → k' ≤ k + 100 → Q (wkD w) (mset m a (pool c v' k'))
def sp_law_distinct (_ : Fr0) : DSp := fun ds m Q _ => ∃ ns : List Int, ds = [il ns] ∧ ns.length ≤ 1000 ∧ Q (il (dist ns)) m
def sp_law_demands (_ : Fr0) : DSp := fun ds m Q _ => ∃ J : List Rw, ds = [jbsD J] ∧ J.length ≤ 1000 ∧ Q (rowsD (rowsI J)) m
def sp_law_heaviest (_ : Fr0) : DSp := fun ds m Q _ => ∃ (R : List IRow) (v : Int), ds = [rowsD R, .int v] ∧ R.length ≤ 1000000 ∧ (1 ≤ v ∧ v ≤ 99) ∧ Q (bsD (hvL v R)) m
def sp_law_outcome (K : Fr0) : DSp := fun ds m Q _ => ∃ (g : Int) (J : List Rw) (v : Int), ds = [runD K g J, .int v] ∧ J.length ≤ 1000 ∧ (1 ≤ v ∧ v ≤ 99 → Q (bsD (hvL v (rowsI J))) m) ∧ (¬ (1 ≤ v ∧ v ≤ 99) → Q (.tup [.str "speed", .int v]) m)
end LW

set_option Elab.async false
set_option linter.all false
set_option maxRecDepth 100000
set_option maxHeartbeats 4000000
namespace LW
open PySem PySem.Spec PyProof.Rows L2 DL
open He (ga ma)
abbrev nm_UnknownKind_init : List Str := ["self", "name"]
theorem sc_UnknownKind_init : FnScope nm_UnknownKind_init ["self", "name"] (defScope s_UnknownKind_init) := ⟨rfl, rfl, rfl, by decide +kernel, rfl, by decide +kernel, by decide +kernel⟩

abbrev nm_OutOfRange_init : List Str := ["self", "what", "value"]
theorem sc_OutOfRange_init : FnScope nm_OutOfRange_init ["self", "what", "value"] (defScope s_OutOfRange_init) := ⟨rfl, rfl, rfl, by decide +kernel, rfl, by decide +kernel, by decide +kernel⟩

abbrev nm_WrongCount_init : List Str := ["self", "what", "count"]
theorem sc_WrongCount_init : FnScope nm_WrongCount_init ["self", "what", "count"] (defScope s_WrongCount_init) := ⟨rfl, rfl, rfl, by decide +kernel, rfl, by decide +kernel, by decide +kernel⟩

abbrev nm_BadCost_init : List Str := ["self", "task", "place"]
theorem sc_BadCost_init : FnScope nm_BadCost_init ["self", "task", "place"] (defScope s_BadCost_init) := ⟨rfl, rfl, rfl, by decide +kernel, rfl, by decide +kernel, by decide +kernel⟩

abbrev nm_BadRelease_init : List Str := ["self", "task", "place"]
theorem sc_BadRelease_init : FnScope nm_BadRelease_init ["self", "task", "place"] (defScope s_BadRelease_init) := ⟨rfl, rfl, rfl, by decide +kernel, rfl, by decide +kernel, by decide +kernel⟩

abbrev nm_NoArrow_init : List Str := ["self", "task", "place"]
theorem sc_NoArrow_init : FnScope nm_NoArrow_init ["self", "task", "place"] (defScope s_NoArrow_init) := ⟨rfl, rfl, rfl, by decide +kernel, rfl, by decide +kernel, by decide +kernel⟩

abbrev nm_GapTooShort_init : List Str := ["self", "task", "place"]
theorem sc_GapTooShort_init : FnScope nm_GapTooShort_init ["self", "task", "place"] (defScope s_GapTooShort_init) := ⟨rfl, rfl, rfl, by decide +kernel, rfl, by decide +kernel, by decide +kernel⟩

abbrev nm_is_name : List Str := ["text", "sign"]
theorem sc_is_name : FnScope nm_is_name ["text"] (defScope s_is_name) := ⟨rfl, rfl, rfl, by decide +kernel, rfl, by decide +kernel, by decide +kernel⟩
def t_is_name (K : PySem.W.Frag) (WD : DWX) : DTS :=
    dSeq (dIfS (dOr (dNot (dTest (dChain dLe dLe (dC (.int 1)) (dCB dLen (daCons (dVar 0) daNil)) (dC (.int 12))))) (dTest (dOp (dIn true) (dOp dIx (dVar 0) (dC (.int 0))) (dC (.str "abcdefghijklmnopqrstuvwxyz"))))) (dRet (dC (.bl false))) dNext)
    (dRet (dCB dAll (daCons (dLc false (diS (dVar 0)) (.one 1) [1] dYes (dOrV (dOp (dIn false) (dVar 1) (dC (.str "abcdefghijklmnopqrstuvwxyz"))) (dOp (dIn false) (dVar 1) (dC (.str "0123456789_"))))) daNil)))

abbrev nm_need_name : List Str := ["text"]
theorem sc_need_name : FnScope nm_need_name ["text"] (defScope s_need_name) := ⟨rfl, rfl, rfl, by decide +kernel, rfl, by decide +kernel, by decide +kernel⟩
def t_need_name (K : PySem.W.Frag) (WD : DWX) : DTS :=
    dIfS (dNot (dTru (dCall (sp_is_name K) WD [] (daCons (dVar 0) daNil)))) dNever dNext

abbrev nm_need_range : List Str := ["what", "value", "least", "most"]
theorem sc_need_range : FnScope nm_need_range ["what", "value", "least", "most"] (defScope s_need_range) := ⟨rfl, rfl, rfl, by decide +kernel, rfl, by decide +kernel, by decide +kernel⟩
def t_need_range (K : PySem.W.Frag) (WD : DWX) : DTS :=
    dIfS (dOr (dTest (dOp dLt (dVar 1) (dVar 2))) (dTest (dOp dGt (dVar 1) (dVar 3)))) dNever dNext

abbrev nm_need_kind : List Str := ["name", "kind_rows", "row"]
theorem sc_need_kind : FnScope nm_need_kind ["name", "kind_rows"] (defScope s_need_kind) := ⟨rfl, rfl, rfl, by decide +kernel, rfl, by decide +kernel, by decide +kernel⟩
def t_need_kind (K : PySem.W.Frag) (WD : DWX) : DTS :=
    dIfS (dTest (dOp (dIn true) (dVar 0) (dLc false (diL (dVar 1)) (.one 2) [2] dYes (dOp dIx (dVar 2) (dC (.int 0)))))) dNever dNext

abbrev nm_checked_kinds : List Str := ["kinds", "branching", "most_cost", "most_deadline", "rows", "name", "cost", "deadline", "row"]
theorem sc_checked_kinds : FnScope nm_checked_kinds ["kinds", "branching"] (defScope s_checked_kinds) := ⟨rfl, rfl, rfl, by decide +kernel, rfl, by decide +kernel, by decide +kernel⟩
def t_checked_kinds (K : PySem.W.Frag) (WD : DWX) : DTS :=
    dSeq (dAsg (dIf (dTru (dVar 1)) (dTup (daCons (dC (.int 9)) (daCons (dC (.int 24)) daNil))) (dTup (daCons (dC (.int 99)) (daCons (dC (.int 99)) daNil)))) (gT 2 (gsCons (gN 2) (gsCons (gN 3) gsNil))))
    (dSeq (dSet 4 (dLst true daNil))
    (dSeq (dFor (diL (dVar 0)) (gT 3 (gsCons (gN 5) (gsCons (gN 6) (gsCons (gN 7) gsNil)))) (dSeq (dDrop (dCall (sp_need_name K) WD [] (daCons (dVar 5) daNil)))
    (dSeq (dIfS (dTest (dOp (dIn false) (dVar 5) (dLcM false (dVar 4) (.one 8) [8] dYes (dOp dIx (dVar 8) (dC (.int 0)))))) dNever dNext)
    (dSeq (dDrop (dCall (sp_need_range K) WD [] (daCons (dC (.str "cost")) (daCons (dVar 6) (daCons (dC (.int 1)) (daCons (dVar 2) daNil))))))
    (dSeq (dDrop (dCall (sp_need_range K) WD [] (daCons (dC (.str "deadline")) (daCons (dVar 7) (daCons (dC (.int 1)) (daCons (dVar 3) daNil))))))
    (dDrop (dBM isL dAppend (dVar 4) (daCons (dTup (daCons (dVar 5) (daCons (dVar 6) (daCons (dVar 7) daNil)))) daNil))))))))
    (dRet (dFrzE (dVar 4)))))

abbrev nm_checked_arrows : List Str := ["arrows", "kind_rows", "rows", "first", "second", "gap", "row"]
theorem sc_checked_arrows : FnScope nm_checked_arrows ["arrows", "kind_rows"] (defScope s_checked_arrows) := ⟨rfl, rfl, rfl, by decide +kernel, rfl, by decide +kernel, by decide +kernel⟩
def t_checked_arrows (K : PySem.W.Frag) (WD : DWX) : DTS :=
    dSeq (dSet 2 (dLst true daNil))
    (dSeq (dFor (diQ (dVar 0)) (gT 3 (gsCons (gN 3) (gsCons (gN 4) (gsCons (gN 5) gsNil)))) (dSeq (dDrop (dCall (sp_need_kind K) WD [] (daCons (dVar 3) (daCons (dVar 1) daNil))))
    (dSeq (dDrop (dCall (sp_need_kind K) WD [] (daCons (dVar 4) (daCons (dVar 1) daNil))))
    (dSeq (dDrop (dCall (sp_need_range K) WD [] (daCons (dC (.str "gap")) (daCons (dVar 5) (daCons (dC (.int 1)) (daCons (dC (.int 12)) daNil))))))
    (dSeq (dIfS (dTest (dOp (dInD false) (dTup (daCons (dVar 3) (daCons (dVar 4) daNil))) (dLcM false (dVar 2) (.one 6) [6] dYes (dTup (daCons (dOp dIx (dVar 6) (dC (.int 0))) (daCons (dOp dIx (dVar 6) (dC (.int 1))) daNil)))))) dNever dNext)
    (dDrop (dBM isL dAppend (dVar 2) (daCons (dTup (daCons (dVar 3) (daCons (dVar 4) (daCons (dVar 5) daNil)))) daNil))))))))
    (dRet (dFrzE (dVar 2))))

abbrev nm_Task_init : List Str := ["self", "name", "kinds", "arrows"]
theorem sc_Task_init : FnScope nm_Task_init ["self", "name", "kinds", "arrows"] (defScope s_Task_init) := ⟨rfl, rfl, rfl, by decide +kernel, rfl, by decide +kernel, by decide +kernel⟩
def t_Task_init (K : PySem.W.Frag) (WD : DWX) : DTS :=
    dSeq (dDrop (dCall (sp_need_name K) WD [] (daCons (dVar 1) daNil)))
    (dSeq (dIfS (dNot (dTest (dChain dLe dLe (dC (.int 1)) (dCB dLen (daCons (dVar 2) daNil)) (dC (.int 4))))) dNever dNext)
    (dSeq (dIfS (dTest (dOp dGt (dCB dLen (daCons (dVar 3) daNil)) (dC (.int 12)))) dNever dNext)
    (dSeq (dFldS K (dVar 0) (dVar 1) "name")
    (dSeq (dFldS K (dVar 0) (dCall (sp_checked_kinds K) WD [] (daCons (dVar 2) (daCons (dOp dGt (dCB dLen (daCons (dVar 3) daNil)) (dC (.int 0))) daNil))) "kind_rows")
    (dFldS K (dVar 0) (dCall (sp_checked_arrows K) WD [] (daCons (dVar 3) (daCons (dFld K (dVar 0) "kind_rows") daNil))) "arrow_rows")))))

abbrev nm_Task_row_of : List Str := ["self", "kind", "row"]
theorem sc_Task_row_of : FnScope nm_Task_row_of ["self", "kind"] (defScope s_Task_row_of) := ⟨rfl, rfl, rfl, by decide +kernel, rfl, by decide +kernel, by decide +kernel⟩
def t_Task_row_of (K : PySem.W.Frag) (WD : DWX) : DTS :=
    dSeq (dFor (diL (dFld K (dVar 0) "kind_rows")) (gN 2) (dIfS (dTest (dOp dEq (dOp dIx (dVar 2) (dC (.int 0))) (dVar 1))) (dRet (dVar 2)) dNext))
    (dRaise (ga K "UnknownKind") ["name"] WD (daCons (dVar 1) daNil))

abbrev nm_Task_cost_of : List Str := ["self", "kind"]
theorem sc_Task_cost_of : FnScope nm_Task_cost_of ["self", "kind"] (defScope s_Task_cost_of) := ⟨rfl, rfl, rfl, by decide +kernel, rfl, by decide +kernel, by decide +kernel⟩
def t_Task_cost_of (K : PySem.W.Frag) (WD : DWX) : DTS :=
    dRet (dOp dIx (dMeth (ga K "Task") "row_of" (sp_Task_row_of K) WD [] (dVar 0) (daCons (dVar 1) daNil)) (dC (.int 1)))

abbrev nm_Task_deadline_of : List Str := ["self", "kind"]
theorem sc_Task_deadline_of : FnScope nm_Task_deadline_of ["self", "kind"] (defScope s_Task_deadline_of) := ⟨rfl, rfl, rfl, by decide +kernel, rfl, by decide +kernel, by decide +kernel⟩
def t_Task_deadline_of (K : PySem.W.Frag) (WD : DWX) : DTS :=
    dRet (dOp dIx (dMeth (ga K "Task") "row_of" (sp_Task_row_of K) WD [] (dVar 0) (daCons (dVar 1) daNil)) (dC (.int 2)))

abbrev nm_Task_followers : List Str := ["self", "kind", "first", "second", "gap"]
theorem sc_Task_followers : FnScope nm_Task_followers ["self", "kind"] (defScope s_Task_followers) := ⟨rfl, rfl, rfl, by decide +kernel, rfl, by decide +kernel, by decide +kernel⟩
def t_Task_followers (K : PySem.W.Frag) (WD : DWX) : DTS :=
    dSeq (dDrop (dMeth (ga K "Task") "row_of" (sp_Task_row_of K) WD [] (dVar 0) (daCons (dVar 1) daNil)))
    (dRet (dLc false (diL (dFld K (dVar 0) "arrow_rows")) (.tup [2, 3, 4]) [2, 3, 4] (dTest (dOp dEq (dVar 2) (dVar 1))) (dTup (daCons (dVar 3) (daCons (dVar 4) daNil)))))

abbrev nm_gap_between : List Str := ["task", "first", "second", "kind", "gap"]
theorem sc_gap_between : FnScope nm_gap_between ["task", "first", "second"] (defScope s_gap_between) := ⟨rfl, rfl, rfl, by decide +kernel, rfl, by decide +kernel, by decide +kernel⟩
def t_gap_between (K : PySem.W.Frag) (WD : DWX) : DTS :=
    dSeq (dFor (diL (dMeth (ga K "Task") "followers" (sp_Task_followers K) WD [] (dVar 0) (daCons (dVar 1) daNil))) (gT 2 (gsCons (gN 3) (gsCons (gN 4) gsNil))) (dIfS (dTest (dOp dEq (dVar 3) (dVar 2))) (dRet (dVar 4)) dNext))
    (dRet (dC .non))

abbrev nm_check_job : List Str := ["task", "walk", "index", "place", "grain", "kind", "release", "cost", "full", "before", "gap"]
theorem sc_check_job : FnScope nm_check_job ["task", "walk", "index", "place", "grain"] (defScope s_check_job) := ⟨rfl, rfl, rfl, by decide +kernel, rfl, by decide +kernel, by decide +kernel⟩
def t_check_job (K : PySem.W.Frag) (WD : DWX) : DTS :=
    dSeq (dAsg (dOp dIx (dVar 1) (dVar 3)) (gT 3 (gsCons (gN 5) (gsCons (gN 6) (gsCons (gN 7) gsNil)))))
    (dSeq (dSet 8 (dOp (dMul false) (dMeth (ga K "Task") "cost_of" (sp_Task_cost_of K) WD [] (dVar 0) (daCons (dVar 5) daNil)) (dVar 4)))
    (dSeq (dIfS (dNot (dTest (dChain dLe dLe (dC (.int 1)) (dVar 7) (dVar 8)))) (dRaise (ga K "BadCost") ["task", "place"] WD (daCons (dVar 2) (daCons (dVar 3) daNil))) dNext)
    (dSeq (dIfS (dTest (dOp dLt (dVar 6) (dC (.int 0)))) (dRaise (ga K "BadRelease") ["task", "place"] WD (daCons (dVar 2) (daCons (dVar 3) daNil))) dNext)
    (dSeq (dIfS (dTest (dOp dEq (dVar 3) (dC (.int 0)))) dRetN dNext)
    (dSeq (dSet 9 (dOp dIx (dVar 1) (dOp dSub (dVar 3) (dC (.int 1)))))
    (dSeq (dSet 10 (dCall (sp_gap_between K) WD [] (daCons (dVar 0) (daCons (dOp dIx (dVar 9) (dC (.int 0))) (daCons (dVar 5) daNil)))))
    (dSeq (dIfS (dTest (dOp dIsN (dVar 10) (dC .non))) (dRaise (ga K "NoArrow") ["task", "place"] WD (daCons (dVar 2) (daCons (dVar 3) daNil))) dNext)
    (dIfS (dTest (dOp dLt (dOp dSub (dVar 6) (dOp dIx (dVar 9) (dC (.int 1)))) (dOp (dMul false) (dVar 10) (dVar 4)))) (dRaise (ga K "GapTooShort") ["task", "place"] WD (daCons (dVar 2) (daCons (dVar 3) daNil))) dNext))))))))

abbrev nm_check_counts : List Str := ["tasks", "walks", "grain", "total", "walk"]
theorem sc_check_counts : FnScope nm_check_counts ["tasks", "walks", "grain"] (defScope s_check_counts) := ⟨rfl, rfl, rfl, by decide +kernel, rfl, by decide +kernel, by decide +kernel⟩
def t_check_counts (K : PySem.W.Frag) (WD : DWX) : DTS :=
    dSeq (dIfS (dNot (dTest (dChain dLe dLe (dC (.int 1)) (dVar 2) (dC (.int 60))))) (dRaise (ga K "OutOfRange") ["what", "value"] WD (daCons (dC (.str "grain")) (daCons (dVar 2) daNil))) dNext)
    (dSeq (dIfS (dTest (dOp dNe (dCB dLen (daCons (dVar 1) daNil)) (dCB dLen (daCons (dVar 0) daNil)))) (dRaise (ga K "WrongCount") ["what", "count"] WD (daCons (dC (.str "walks")) (daCons (dCB dLen (daCons (dVar 1) daNil)) daNil))) dNext)
    (dSeq (dSet 3 (dCB dSum (daCons (dLc false (diL (dVar 1)) (.one 4) [4] dYes (dCB dLen (daCons (dVar 4) daNil))) daNil)))
    (dIfS (dTest (dOp dGt (dVar 3) (dC (.int 400)))) (dRaise (ga K "WrongCount") ["what", "count"] WD (daCons (dC (.str "jobs")) (daCons (dVar 3) daNil))) dNext)))

abbrev nm_Run_init : List Str := ["self", "tasks", "walks", "grain", "rows", "index", "walk", "task", "place", "kind", "release", "cost", "due", "row"]
theorem sc_Run_init : FnScope nm_Run_init ["self", "tasks", "walks", "grain"] (defScope s_Run_init) := ⟨rfl, rfl, rfl, by decide +kernel, rfl, by decide +kernel, by decide +kernel⟩
def t_Run_init (K : PySem.W.Frag) (WD : DWX) : DTS :=
    dSeq (dDrop (dCall (sp_check_counts K) WD [] (daCons (dVar 1) (daCons (dVar 2) (daCons (dVar 3) daNil)))))
    (dSeq (dSet 4 (dLst true daNil))
    (dSeq (dFor (diE (daCons (dVar 2) daNil)) (gT 2 (gsCons (gN 5) (gsCons (gN 6) gsNil))) (dSeq (dSet 7 (dOp dIx (dVar 1) (dVar 5)))
    (dFor (diE (daCons (dVar 6) daNil)) (gT 2 (gsCons (gN 8) (gsCons (gT 3 (gsCons (gN 9) (gsCons (gN 10) (gsCons (gN 11) gsNil)))) gsNil))) (dSeq (dDrop (dCall (sp_check_job K) WD [] (daCons (dVar 7) (daCons (dVar 6) (daCons (dVar 5) (daCons (dVar 8) (daCons (dVar 3) daNil)))))))
    (dSeq (dSet 12 (dOp (dAdd false) (dVar 10) (dOp (dMul false) (dMeth (ga K "Task") "deadline_of" (sp_Task_deadline_of K) WD [] (dVar 7) (daCons (dVar 9) daNil)) (dVar 3))))
    (dDrop (dBM isL dAppend (dVar 4) (daCons (dTup (daCons (dVar 5) (daCons (dVar 8) (daCons (dVar 9) (daCons (dVar 10) (daCons (dVar 11) (daCons (dVar 12) daNil))))))) daNil))))))))
    (dFrz 4 (dSeq (dFldS K (dVar 0) (dVar 3) "grain")
    (dFldS K (dVar 0) (dSortK false (dVar 4) 13 (dTup (daCons (dOp dIx (dVar 13) (dC (.int 3))) (daCons (dOp dIx (dVar 13) (dC (.int 0))) (daCons (dOp dIx (dVar 13) (dC (.int 1))) daNil))))) "placed")))))

abbrev nm_Run_jobs : List Str := ["self"]
theorem sc_Run_jobs : FnScope nm_Run_jobs ["self"] (defScope s_Run_jobs) := ⟨rfl, rfl, rfl, by decide +kernel, rfl, by decide +kernel, by decide +kernel⟩
def t_Run_jobs (K : PySem.W.Frag) (WD : DWX) : DTS :=
    dRet (dCB (dList false) (daCons (dFld K (dVar 0) "placed") daNil))

abbrev nm_check_speed : List Str := ["speed"]
theorem sc_check_speed : FnScope nm_check_speed ["speed"] (defScope s_check_speed) := ⟨rfl, rfl, rfl, by decide +kernel, rfl, by decide +kernel, by decide +kernel⟩
def t_check_speed (K : PySem.W.Frag) (WD : DWX) : DTS :=
    dIfS (dNot (dTest (dChain dLe dLe (dC (.int 1)) (dVar 0) (dC (.int 99))))) (dRaise (ga K "OutOfRange") ["what", "value"] WD (daCons (dC (.str "speed")) (daCons (dVar 0) daNil))) dNext

abbrev nm_costs_by_due : List Str := ["jobs", "start", "costs", "job"]
theorem sc_costs_by_due : FnScope nm_costs_by_due ["jobs", "start"] (defScope s_costs_by_due) := ⟨rfl, rfl, rfl, by decide +kernel, rfl, by decide +kernel, by decide +kernel⟩
def t_costs_by_due (K : PySem.W.Frag) (WD : DWX) : DTS :=
    dSeq (dSet 2 dNewK)
    (dSeq (dFor (diL (dVar 0)) (gN 3) (dIfS (dTest (dOp dGe (dOp dIx (dVar 3) (dC (.int 3))) (dVar 1))) (dPutK (dVar 2) (dOp dIx (dVar 3) (dC (.int 5))) (dOp (dAdd false) (dGet2K (dVar 2) (dOp dIx (dVar 3) (dC (.int 5))) (dC (.int 0))) (dOp dIx (dVar 3) (dC (.int 4))))) dNext))
    (dRet (dFrzEK (dVar 2))))

abbrev nm_interval_demands : List Str := ["run", "jobs", "starts", "job", "ends", "start", "costs", "demand", "end"]
theorem sc_interval_demands : GScope nm_interval_demands ["run"] (defScope s_interval_demands) := ⟨rfl, rfl, rfl, by decide +kernel, rfl, by decide +kernel, by decide +kernel⟩
def t_interval_demands (K : PySem.W.Frag) (ys : List D) (m0 : M) : DGn :=
    gSeq (gPl (dSet 1 (dProp (ga K "Run") (sp_Run_jobs K) (dVar 0))))
    (gSeq (gPl (dSet 2 (dSortSc false (dVar 1) 3 3)))
    (gSeq (gPl (dSet 4 (dSortSc false (dVar 1) 3 5)))
    (gFor (diL (dVar 2)) (gN 5) (gSeq (gPl (dSet 6 (dCall (sp_costs_by_due K) WD0 [] (daCons (dVar 1) (daCons (dVar 5) daNil)))))
    (gSeq (gPl (dSet 7 (dC (.int 0))))
    (gFor (diL (dVar 4)) (gN 8) (gSeq (gPl (dAug 7 (dGet2K (dVar 6) (dVar 8) (dC (.int 0))) dAddI))
    (gIf (dTest (dOp dGt (dVar 7) (dC (.int 0)))) (gYield ys m0 (dTup (daCons (dVar 5) (daCons (dVar 8) (daCons (dVar 7) daNil))))) gNil))))))))

abbrev nm_heaviest_interval : List Str := ["run", "speed", "best", "start", "end", "demand", "excess"]
theorem sc_heaviest_interval : FnScope nm_heaviest_interval ["run", "speed"] (defScope s_heaviest_interval) := ⟨rfl, rfl, rfl, by decide +kernel, rfl, by decide +kernel, by decide +kernel⟩
def t_heaviest_interval (K : PySem.W.Frag) (WD : DWX) : DTS :=
    dSeq (dDrop (dCall (sp_check_speed K) WD [] (daCons (dVar 1) daNil)))
    (dSeq (dSet 2 (dC .non))
    (dSeq (dForG (sp_interval_demands K) (daCons (dVar 0) daNil) (gT 3 (gsCons (gN 3) (gsCons (gN 4) (gsCons (gN 5) gsNil)))) (dSeq (dSet 6 (dOp dSub (dVar 5) (dOp (dMul false) (dOp dSub (dVar 4) (dVar 3)) (dVar 1))))
    (dIfS (dOr (dTest (dOp dIsN (dVar 2) (dC .non))) (dTest (dOp dGt (dVar 6) (dOp dIx (dVar 2) (dC (.int 0)))))) (dSet 2 (dTup (daCons (dVar 6) (daCons (dVar 3) (daCons (dVar 4) daNil))))) dNext)))
    (dRet (dVar 2))))

abbrev nm_law_cell : List Str := ["_law_script", "_law_place"]
theorem sc_law_cell : FnScope nm_law_cell ["_law_script", "_law_place"] (defScope s_law_cell) := ⟨rfl, rfl, rfl, by decide +kernel, rfl, by decide +kernel, by decide +kernel⟩
def t_law_cell (K : PySem.W.Frag) (WD : DWX) : DTS :=
    dSeq (dIfS (dTest (dOp dLt (dVar 1) (dCB dLen (daCons (dVar 0) daNil)))) (dRet (dOp dIx (dVar 0) (dVar 1))) dNext)
    (dRet (dC (.int 0)))

abbrev nm_law_source : List Str := ["_law_cell_here"]
theorem sc_law_source : FnScope nm_law_source ["_law_cell_here"] (defScope s_law_source) := ⟨rfl, rfl, rfl, by decide +kernel, rfl, by decide +kernel, by decide +kernel⟩
def t_law_source (K : PySem.W.Frag) (WD : DWX) : DTS :=
    dRet (dLst true (daCons (dVar 0) (daCons (dVar 0) (daCons (dC (.int 0)) daNil))))

abbrev nm_law_draw : List Str := ["_law_source_here", "_law_limit", "_law_digit", "_law_seed", "_law_mixed"]
theorem sc_law_draw : FnScope nm_law_draw ["_law_source_here", "_law_limit"] (defScope s_law_draw) := ⟨rfl, rfl, rfl, by decide +kernel, rfl, by decide +kernel, by decide +kernel⟩
def t_law_draw (K : PySem.W.Frag) (WD : DWX) : DTS :=
    dSeq (dAsg (dOp (dAdd false) (dOp dIx (dVar 0) (dC (.int 2))) (dC (.int 1))) (gSet (dVar 0) (dC (.int 2))))
    (dSeq (dIfS (dTest (dOp dGe (dOp dIx (dVar 0) (dC (.int 0))) (dOp dPow (dC (.int 10)) (dC (.int 18))))) (dSeq (dSet 2 (dOp dMod (dCB dInt1 (daCons (dOp dIx (dVar 0) (dC (.int 1))) daNil)) (dVar 1)))
    (dSeq (dAsg (dOp dDiv (dOp dIx (dVar 0) (dC (.int 1))) (dVar 1)) (gSet (dVar 0) (dC (.int 1))))
    (dRet (dVar 2)))) dNext)
    (dSeq (dSet 3 (dOp dMod (dCB dInt1 (daCons (dOp dIx (dVar 0) (dC (.int 0))) daNil)) (dC (.int 2147483489))))
    (dSeq (dSet 4 (dOp dMod (dCB dInt1 (daCons (dOp dPow (dCB dInt1 (daCons (dOp (dAdd false) (dOp (dAdd false) (dOp (dMul false) (dVar 3) (dC (.int 7919))) (dOp (dMul false) (dOp dIx (dVar 0) (dC (.int 2))) (dC (.int 104693)))) (dC (.int 12011))) daNil)) (dC (.int 5))) daNil)) (dC (.int 2147483647))))
    (dSeq (dSet 4 (dOp dMod (dCB dInt1 (daCons (dOp dPow (dCB dInt1 (daCons (dOp (dAdd false) (dVar 4) (dOp (dMul false) (dOp (dMul false) (dOp dIx (dVar 0) (dC (.int 2))) (dOp dIx (dVar 0) (dC (.int 2)))) (dC (.int 40577)))) daNil)) (dC (.int 3))) daNil)) (dC (.int 2147483179))))
    (dRet (dOp dMod (dOp dDiv (dVar 4) (dC (.int 16))) (dVar 1)))))))

abbrev nm_law_names : List Str := ["_law_source_here", "_law_many", "_law_signs", "_law_size", "_law_stem", "_law_k", "_law_place", "_law_first"]
theorem sc_law_names : FnScope nm_law_names ["_law_source_here", "_law_many"] (defScope s_law_names) := ⟨rfl, rfl, rfl, by decide +kernel, rfl, by decide +kernel, by decide +kernel⟩
def t_law_names (K : PySem.W.Frag) (WD : DWX) : DTS :=
    dSeq (dSet 2 (dC (.str "abcdefghijklmnopqrstuvwxyz0123456789_")))
    (dSeq (dSet 3 (dOp (dAdd false) (dC (.int 1)) (dCall (sp_law_draw K) WD [] (daCons (dVar 0) (daCons (dC (.int 5)) daNil)))))
    (dSeq (dSet 4 (dOp dIx (dVar 2) (dCall (sp_law_draw K) WD [] (daCons (dVar 0) (daCons (dC (.int 26)) daNil)))))
    (dSeq (dFor (diR1 (daCons (dVar 3) daNil)) (gN 5) (dSet 4 (dOp (dAdd false) (dVar 4) (dOp dIx (dVar 2) (dCall (sp_law_draw K) WD [] (daCons (dVar 0) (daCons (dC (.int 37)) daNil)))))))
    (dSeq (dSet 6 (dOp (dAdd false) (dC (.int 1)) (dCall (sp_law_draw K) WD [] (daCons (dVar 0) (daCons (dVar 3) daNil)))))
    (dSeq (dSet 7 (dCall (sp_law_draw K) WD [] (daCons (dVar 0) (daCons (dC (.int 37)) daNil))))
    (dSeq (dIfS (dTest (dOp dEq (dCall (sp_law_draw K) WD [] (daCons (dVar 0) (daCons (dC (.int 3)) daNil))) (dC (.int 1)))) (dRet (dLc false (diR1 (daCons (dVar 1) daNil)) (.one 5) [5] dYes (dOp (dAdd false) (dVar 4) (dOp dMulS (dC (.str "x")) (dVar 5))))) dNext)
    (dRet (dLc false (diR1 (daCons (dVar 1) daNil)) (.one 5) [5] dYes (dOp (dAdd false) (dOp (dAdd false) (dSlice false (dVar 4) doNone (doSome (dVar 6))) (dOp dIx (dVar 2) (dOp dMod (dOp (dAdd false) (dVar 7) (dOp (dMul false) (dC (.int 11)) (dVar 5))) (dC (.int 37))))) (dSlice false (dVar 4) (doSome (dVar 6)) doNone))))))))))

abbrev nm_law_task : List Str := ["_law_source_here", "_law_many", "_law_names_here", "_law_share", "_law_arrows", "_law_first", "_law_second", "_law_chosen", "_law_gap", "_law_costs", "_law_deadlines", "_law_kinds", "_law_name", "_law_cost"]
theorem sc_law_task : FnScope nm_law_task ["_law_source_here"] (defScope s_law_task) := ⟨rfl, rfl, rfl, by decide +kernel, rfl, by decide +kernel, by decide +kernel⟩
def t_law_task (K : PySem.W.Frag) (WD : DWX) : DTS :=
    dSeq (dSet 1 (dOp (dAdd false) (dC (.int 1)) (dCall (sp_law_draw K) WD [] (daCons (dVar 0) (daCons (dC (.int 4)) daNil)))))
    (dSeq (dSet 2 (dCall (sp_law_names K) WD [] (daCons (dVar 0) (daCons (dVar 1) daNil))))
    (dSeq (dSet 3 (dCall (sp_law_draw K) WD [] (daCons (dVar 0) (daCons (dC (.int 6)) daNil))))
    (dSeq (dSet 4 (dLst true daNil))
    (dSeq (dFor (diR1 (daCons (dVar 1) daNil)) (gN 5) (dFor (diR1 (daCons (dVar 1) daNil)) (gN 6) (dSeq (dSet 7 (dOp dLt (dCall (sp_law_draw K) WD [] (daCons (dVar 0) (daCons (dC (.int 5)) daNil))) (dVar 3)))
    (dSeq (dSet 8 (dOp (dAdd false) (dC (.int 1)) (dCall (sp_law_draw K) WD [] (daCons (dVar 0) (daCons (dC (.int 12)) daNil)))))
    (dIfS (dAnd (dTru (dVar 7)) (dTest (dOp dLt (dCB dLen (daCons (dVar 4) daNil)) (dC (.int 12))))) (dDrop (dBM isL dAppend (dVar 4) (daCons (dTup (daCons (dOp dIx (dVar 2) (dVar 5)) (daCons (dOp dIx (dVar 2) (dVar 6)) (daCons (dVar 8) daNil)))) daNil))) dNext)))))
    (dFrz 4 (dSeq (dSet 9 (dC (.int 9)))
    (dSeq (dSet 10 (dC (.int 24)))
    (dSeq (dIfS (dTest (dOp dEq (dVar 4) (dLst false daNil))) (dSeq (dSet 9 (dC (.int 99)))
    (dSet 10 (dC (.int 99)))) dNext)
    (dSeq (dSet 11 (dLst true daNil))
    (dSeq (dFor (diL (dVar 2)) (gN 12) (dSeq (dSet 13 (dOp (dAdd false) (dC (.int 1)) (dCall (sp_law_draw K) WD [] (daCons (dVar 0) (daCons (dVar 9) daNil)))))
    (dDrop (dBM isL dAppend (dVar 11) (daCons (dTup (daCons (dVar 12) (daCons (dVar 13) (daCons (dOp (dAdd false) (dC (.int 1)) (dCall (sp_law_draw K) WD [] (daCons (dVar 0) (daCons (dVar 10) daNil)))) daNil)))) daNil)))))
    (dFrz 11 (dRet (dLst false (daCons (dOp dIx (dVar 2) (dCall (sp_law_draw K) WD [] (daCons (dVar 0) (daCons (dVar 1) daNil)))) (daCons (dVar 11) (daCons (dVar 4) daNil))))))))))))))))

abbrev nm_law_walk : List Str := ["_law_source_here", "_law_task_here", "_law_parts", "_law_kinds", "_law_walk_here", "_law_kind", "_law_moment", "_law_k", "_law_cost", "_law_ways", "_law_arrow", "_law_row"]
theorem sc_law_walk : FnScope nm_law_walk ["_law_source_here", "_law_task_here", "_law_parts"] (defScope s_law_walk) := ⟨rfl, rfl, rfl, by decide +kernel, rfl, by decide +kernel, by decide +kernel⟩
def t_law_walk (K : PySem.W.Frag) (WD : DWX) : DTS :=
    dSeq (dSet 3 (dOp dIx (dVar 1) (dC (.int 1))))
    (dSeq (dSet 4 (dLst true daNil))
    (dSeq (dSet 5 (dOp dIx (dVar 3) (dCall (sp_law_draw K) WD [] (daCons (dVar 0) (daCons (dCB dLen (daCons (dVar 3) daNil)) daNil)))))
    (dSeq (dSet 6 (dCall (sp_law_draw K) WD [] (daCons (dVar 0) (daCons (dC (.int 40)) daNil))))
    (dSeq (dFor (diR1 (daCons (dCall (sp_law_draw K) WD [] (daCons (dVar 0) (daCons (dC (.int 9)) daNil))) daNil)) (gN 7) (dSeq (dSet 8 (dOp (dAdd false) (dC (.int 1)) (dCall (sp_law_draw K) WD [] (daCons (dVar 0) (daCons (dOp (dMul false) (dOp dIx (dVar 5) (dC (.int 1))) (dVar 2)) daNil)))))
    (dSeq (dIfS (dTest (dOp dEq (dCall (sp_law_draw K) WD [] (daCons (dVar 0) (daCons (dC (.int 3)) daNil))) (dC (.int 1)))) (dSet 8 (dOp (dMul false) (dOp dIx (dVar 5) (dC (.int 1))) (dVar 2))) dNext)
    (dSeq (dDrop (dBM isL dAppend (dVar 4) (daCons (dTup (daCons (dOp dIx (dVar 5) (dC (.int 0))) (daCons (dVar 6) (daCons (dVar 8) daNil)))) daNil)))
    (dSeq (dSet 9 (dLc false (diL (dOp dIx (dVar 1) (dC (.int 2)))) (.one 10) [10] (dTest (dOp dEq (dOp dIx (dVar 10) (dC (.int 0))) (dOp dIx (dVar 5) (dC (.int 0))))) (dVar 10)))
    (dSeq (dIfS (dTest (dOp dEq (dVar 9) (dLst false daNil))) (dRet (dFrzE (dVar 4))) dNext)
    (dSeq (dSet 10 (dOp dIx (dVar 9) (dCall (sp_law_draw K) WD [] (daCons (dVar 0) (daCons (dCB dLen (daCons (dVar 9) daNil)) daNil)))))
    (dSeq (dSet 6 (dOp (dAdd false) (dOp (dAdd false) (dVar 6) (dOp (dMul false) (dOp dIx (dVar 10) (dC (.int 2))) (dVar 2))) (dOp (dMul false) (dCall (sp_law_draw K) WD [] (daCons (dVar 0) (daCons (dC (.int 3)) daNil))) (dCall (sp_law_draw K) WD [] (daCons (dVar 0) (daCons (dC (.int 30)) daNil))))))
    (dSet 5 (dOp dIx (dLc false (diL (dVar 3)) (.one 11) [11] (dTest (dOp dEq (dOp dIx (dVar 11) (dC (.int 0))) (dOp dIx (dVar 10) (dC (.int 1))))) (dVar 11)) (dC (.int 0))))))))))))
    (dRet (dFrzE (dVar 4)))))))

abbrev nm_law_distinct : List Str := ["_law_values", "_law_found", "_law_value"]
theorem sc_law_distinct : FnScope nm_law_distinct ["_law_values"] (defScope s_law_distinct) := ⟨rfl, rfl, rfl, by decide +kernel, rfl, by decide +kernel, by decide +kernel⟩
def t_law_distinct (K : PySem.W.Frag) (WD : DWX) : DTS :=
    dSeq (dSet 1 (dLst true daNil))
    (dSeq (dFor (diL (dCB (dSorted false) (daCons (dVar 0) daNil))) (gN 2) (dIfS (dOr (dTest (dOp dEqZ (dVar 1) (dLst false daNil))) (dTest (dOp dNe (dOp dIx (dVar 1) (dUn dNeg (dC (.int 1)))) (dVar 2)))) (dDrop (dBM isL dAppend (dVar 1) (daCons (dVar 2) daNil))) dNext))
    (dRet (dFrzE (dVar 1))))

abbrev nm_law_demands : List Str := ["_law_jobs", "_law_rows", "_law_start", "_law_job", "_law_end", "_law_total"]
theorem sc_law_demands : FnScope nm_law_demands ["_law_jobs"] (defScope s_law_demands) := ⟨rfl, rfl, rfl, by decide +kernel, rfl, by decide +kernel, by decide +kernel⟩
def t_law_demands (K : PySem.W.Frag) (WD : DWX) : DTS :=
    dSeq (dSet 1 (dLst true daNil))
    (dSeq (dFor (diL (dCall (sp_law_distinct K) WD [] (daCons (dLc false (diL (dVar 0)) (.one 3) [3] dYes (dOp dIx (dVar 3) (dC (.int 3)))) daNil))) (gN 2) (dFor (diL (dCall (sp_law_distinct K) WD [] (daCons (dLc false (diL (dVar 0)) (.one 3) [3] dYes (dOp dIx (dVar 3) (dC (.int 5)))) daNil))) (gN 4) (dSeq (dSet 5 (dCB dSum (daCons (dLc false (diL (dVar 0)) (.one 3) [3] (dAnd (dTest (dOp dLe (dVar 2) (dOp dIx (dVar 3) (dC (.int 3))))) (dTest (dOp dLe (dOp dIx (dVar 3) (dC (.int 5))) (dVar 4)))) (dOp dIx (dVar 3) (dC (.int 4)))) daNil)))
    (dIfS (dTest (dOp dGt (dVar 5) (dC (.int 0)))) (dDrop (dBM isL dAppend (dVar 1) (daCons (dTup (daCons (dVar 2) (daCons (dVar 4) (daCons (dVar 5) daNil)))) daNil))) dNext))))
    (dRet (dFrzE (dVar 1))))

abbrev nm_law_heaviest : List Str := ["_law_rows", "_law_pace", "_law_best", "_law_start", "_law_end", "_law_total", "_law_excess"]
theorem sc_law_heaviest : FnScope nm_law_heaviest ["_law_rows", "_law_pace"] (defScope s_law_heaviest) := ⟨rfl, rfl, rfl, by decide +kernel, rfl, by decide +kernel, by decide +kernel⟩
def t_law_heaviest (K : PySem.W.Frag) (WD : DWX) : DTS :=
    dSeq (dSet 2 (dC .non))
    (dSeq (dFor (diL (dVar 0)) (gT 3 (gsCons (gN 3) (gsCons (gN 4) (gsCons (gN 5) gsNil)))) (dSeq (dSet 6 (dOp dSub (dVar 5) (dOp (dMul false) (dOp dSub (dVar 4) (dVar 3)) (dVar 1))))
    (dIfS (dOr (dTest (dOp dIsN (dVar 2) (dC .non))) (dTest (dOp dGt (dVar 6) (dOp dIx (dVar 2) (dC (.int 0)))))) (dSet 2 (dTup (daCons (dVar 6) (daCons (dVar 3) (daCons (dVar 4) daNil))))) dNext)))
    (dRet (dVar 2)))

abbrev nm_law_outcome : List Str := ["_law_run", "_law_pace", "e"]
theorem sc_law_outcome : FnScope nm_law_outcome ["_law_run", "_law_pace"] (defScope s_law_outcome) := ⟨rfl, rfl, rfl, by decide +kernel, rfl, by decide +kernel, by decide +kernel⟩
def t_law_outcome (K : PySem.W.Frag) (WD : DWX) : DTS :=
    dTryAs K (ga K "OutOfRange") 2 (fun WDx1 => dRet (dCallN 1 1 (sp_heaviest_interval K) WDx1 (daCons (dVar 0) daNil) (daCons (dVar 1) daNil))) (fun ea ec ed => dRet (dTup (daCons (dXf ea ec ed (ga K "OutOfRange") "what" (dVar 2)) (daCons (dXf ea ec ed (ga K "OutOfRange") "value" (dVar 2)) daNil)))) WD

abbrev nm_law : List Str := ["_law_script", "_law_source_here", "_law_tasks", "_law_k", "_law_pace", "_law_asked", "_law_parts", "_law_walks", "_law_task_here", "_law_run", "_law_jobs", "_law_walk_here", "_law_expected"]
theorem sc_law : FnScope nm_law ["_law_script"] (defScope s_law) := ⟨rfl, rfl, rfl, by decide +kernel, rfl, by decide +kernel, by decide +kernel⟩
def t_law (K : PySem.W.Frag) (WD : DWX) : DTS :=
    dSeq (dSet 1 (dCall (sp_law_source K) WD [] (daCons (dCall (sp_law_cell K) WD [] (daCons (dVar 0) (daCons (dC (.int 0)) daNil))) daNil)))
    (dSeq (dSet 2 (dLst true daNil))
    (dSeq (dFor (diR1 (daCons (dOp (dAdd false) (dC (.int 1)) (dCall (sp_law_draw K) WD [] (daCons (dVar 1) (daCons (dC (.int 3)) daNil)))) daNil)) (gN 3) (dDrop (dBM isL dAppend (dVar 2) (daCons (dCall (sp_law_task K) WD [] (daCons (dVar 1) daNil)) daNil))))
    (dFrz 2 (dSeq (dSet 1 (dCall (sp_law_source K) WD [] (daCons (dCall (sp_law_cell K) WD [] (daCons (dVar 0) (daCons (dC (.int 1)) daNil))) daNil)))
    (dSeq (dSet 4 (dOp (dAdd false) (dC (.int 1)) (dCall (sp_law_draw K) WD [] (daCons (dVar 1) (daCons (dC (.int 99)) daNil)))))
    (dSeq (dSet 5 (dOp dIx (dLst false (daCons (dC (.int 1)) (daCons (dC (.int 2)) (daCons (dVar 4) (daCons (dVar 4) (daCons (dC (.int 0)) (daCons (dC (.int 100)) daNil))))))) (dCall (sp_law_draw K) WD [] (daCons (dVar 1) (daCons (dC (.int 6)) daNil)))))
    (dSeq (dSet 6 (dOp (dAdd false) (dC (.int 1)) (dCall (sp_law_draw K) WD [] (daCons (dVar 1) (daCons (dC (.int 60)) daNil)))))
    (dSeq (dIfS (dTest (dOp dEq (dCall (sp_law_draw K) WD [] (daCons (dVar 1) (daCons (dC (.int 2)) daNil))) (dC (.int 0)))) (dSet 6 (dC (.int 1))) dNext)
    (dSeq (dSet 7 (dLst true daNil))
    (dSeq (dFor (diL (dVar 2)) (gN 8) (dDrop (dBM isL dAppend (dVar 7) (daCons (dCall (sp_law_walk K) WD [] (daCons (dVar 1) (daCons (dVar 8) (daCons (dVar 6) daNil)))) daNil))))
    (dFrz 7 (dSeq (dSet 9 (dMakeN (ga K "Run") 2 1 (sp_Run_init K) WD (daCons (dLc false (diL (dVar 2)) (.one 8) [8] dYes (dMake (ga K "Task") (sp_Task_init K) WD0 [] (daCons (dOp dIx (dVar 8) (dC (.int 0))) (daCons (dOp dIx (dVar 8) (dC (.int 1))) (daCons (dOp dIx (dVar 8) (dC (.int 2))) daNil))))) (daCons (dVar 7) daNil)) (daCons (dVar 6) daNil)))
    (dSeq (dSet 10 (dProp (ga K "Run") (sp_Run_jobs K) (dVar 9)))
    (dSeq (dIfS (dTest (dOp dNe (dCB dLen (daCons (dVar 10) daNil)) (dCB dSum (daCons (dLc false (diL (dVar 7)) (.one 11) [11] dYes (dCB dLen (daCons (dVar 11) daNil))) daNil)))) (dRet (dC (.bl false))) dNext)
    (dSeq (dSet 12 (dCall (sp_law_demands K) WD [] (daCons (dVar 10) daNil)))
    (dSeq (dIfS (dTest (dOp dNe (dListG false (sp_interval_demands K) (daCons (dVar 9) daNil)) (dVar 12))) (dRet (dC (.bl false))) dNext)
    (dSeq (dIfS (dOr (dTest (dOp dEq (dVar 5) (dC (.int 0)))) (dTest (dOp dEq (dVar 5) (dC (.int 100))))) (dRet (dOp dEq (dCall (sp_law_outcome K) WD [] (daCons (dVar 9) (daCons (dVar 5) daNil))) (dTup (daCons (dC (.str "speed")) (daCons (dVar 5) daNil))))) dNext)
    (dSeq (dIfS (dTest (dOp dNe (dCall (sp_law_outcome K) WD [] (daCons (dVar 9) (daCons (dVar 5) daNil))) (dCall (sp_law_heaviest K) WD [] (daCons (dVar 12) (daCons (dVar 5) daNil))))) (dRet (dC (.bl false))) dNext)
    (dRet (dAndV (dOp dEq (dCall (sp_heaviest_interval K) WD [.int 1] (daCons (dVar 9) daNil)) (dCall (sp_law_heaviest K) WD [] (daCons (dVar 12) (daCons (dC (.int 1)) daNil)))) (dOp dEq (dProp (ga K "Run") (sp_Run_jobs K) (dVar 9)) (dVar 10))))))))))))))))))))))

structure Txt (K : Fr0) (mg : Str → Option Value) : Prop where
  says : Says fa fn K
  ex : ∃ h : Heap, K.In h ∧ h.Ns mainGlobals mg
section
variable {K : Fr0} {mg : Str → Option Value}
theorem Txt.g_check_speed (T : Txt K mg) : mg "check_speed" = some (.ref (ga K "check_speed")) := by
  obtain ⟨h, kin, g⟩ := T.ex
  exact He.glo_ok kin g (T.says.fact 0 rfl)
theorem Txt.g_costs_by_due (T : Txt K mg) : mg "costs_by_due" = some (.ref (ga K "costs_by_due")) := by
  obtain ⟨h, kin, g⟩ := T.ex
  exact He.glo_ok kin g (T.says.fact 1 rfl)
theorem Txt.g_interval_demands (T : Txt K mg) : mg "interval_demands" = some (.ref (ga K "interval_demands")) := by
  obtain ⟨h, kin, g⟩ := T.ex
  exact He.glo_ok kin g (T.says.fact 2 rfl)
theorem Txt.g_heaviest_interval (T : Txt K mg) : mg "heaviest_interval" = some (.ref (ga K "heaviest_interval")) := by
  obtain ⟨h, kin, g⟩ := T.ex
  exact He.glo_ok kin g (T.says.fact 3 rfl)
theorem Txt.g_gap_between (T : Txt K mg) : mg "gap_between" = some (.ref (ga K "gap_between")) := by
  obtain ⟨h, kin, g⟩ := T.ex
  exact He.glo_ok kin g (T.says.fact 4 rfl)
theorem Txt.g_check_job (T : Txt K mg) : mg "check_job" = some (.ref (ga K "check_job")) := by
  obtain ⟨h, kin, g⟩ := T.ex
  exact He.glo_ok kin g (T.says.fact 5 rfl)
theorem Txt.g_check_counts (T : Txt K mg) : mg "check_counts" = some (.ref (ga K "check_counts")) := by
  obtain ⟨h, kin, g⟩ := T.ex
  exact He.glo_ok kin g (T.says.fact 6 rfl)
theorem Txt.g_is_name (T : Txt K mg) : mg "is_name" = some (.ref (ga K "is_name")) := by
  obtain ⟨h, kin, g⟩ := T.ex
  exact He.glo_ok kin g (T.says.fact 7 rfl)
theorem Txt.g_need_name (T : Txt K mg) : mg "need_name" = some (.ref (ga K "need_name")) := by
  obtain ⟨h, kin, g⟩ := T.ex
  exact He.glo_ok kin g (T.says.fact 8 rfl)
theorem Txt.g_need_range (T : Txt K mg) : mg "need_range" = some (.ref (ga K "need_range")) := by
  obtain ⟨h, kin, g⟩ := T.ex
  exact He.glo_ok kin g (T.says.fact 9 rfl)
theorem Txt.g_need_kind (T : Txt K mg) : mg "need_kind" = some (.ref (ga K "need_kind")) := by
  obtain ⟨h, kin, g⟩ := T.ex
  exact He.glo_ok kin g (T.says.fact 10 rfl)
theorem Txt.g_checked_kinds (T : Txt K mg) : mg "checked_kinds" = some (.ref (ga K "checked_kinds")) := by
  obtain ⟨h, kin, g⟩ := T.ex
  exact He.glo_ok kin g (T.says.fact 11 rfl)
theorem Txt.g_checked_arrows (T : Txt K mg) : mg "checked_arrows" = some (.ref (ga K "checked_arrows")) := by
  obtain ⟨h, kin, g⟩ := T.ex
  exact He.glo_ok kin g (T.says.fact 12 rfl)
theorem Txt.g_law_cell (T : Txt K mg) : mg "_law_cell" = some (.ref (ga K "_law_cell")) := by
  obtain ⟨h, kin, g⟩ := T.ex
  exact He.glo_ok kin g (T.says.fact 13 rfl)
theorem Txt.g_law_source (T : Txt K mg) : mg "_law_source" = some (.ref (ga K "_law_source")) := by
  obtain ⟨h, kin, g⟩ := T.ex
  exact He.glo_ok kin g (T.says.fact 14 rfl)
theorem Txt.g_law_draw (T : Txt K mg) : mg "_law_draw" = some (.ref (ga K "_law_draw")) := by
  obtain ⟨h, kin, g⟩ := T.ex
  exact He.glo_ok kin g (T.says.fact 15 rfl)
theorem Txt.g_law_names (T : Txt K mg) : mg "_law_names" = some (.ref (ga K "_law_names")) := by
  obtain ⟨h, kin, g⟩ := T.ex
  exact He.glo_ok kin g (T.says.fact 16 rfl)
theorem Txt.g_law_task (T : Txt K mg) : mg "_law_task" = some (.ref (ga K "_law_task")) := by
  obtain ⟨h, kin, g⟩ := T.ex
  exact He.glo_ok kin g (T.says.fact 17 rfl)
theorem Txt.g_law_walk (T : Txt K mg) : mg "_law_walk" = some (.ref (ga K "_law_walk")) := by
  obtain ⟨h, kin, g⟩ := T.ex
  exact He.glo_ok kin g (T.says.fact 18 rfl)
theorem Txt.g_law_distinct (T : Txt K mg) : mg "_law_distinct" = some (.ref (ga K "_law_distinct")) := by
  obtain ⟨h, kin, g⟩ := T.ex
  exact He.glo_ok kin g (T.says.fact 19 rfl)
theorem Txt.g_law_demands (T : Txt K mg) : mg "_law_demands" = some (.ref (ga K "_law_demands")) := by
  obtain ⟨h, kin, g⟩ := T.ex
  exact He.glo_ok kin g (T.says.fact 20 rfl)
theorem Txt.g_law_heaviest (T : Txt K mg) : mg "_law_heaviest" = some (.ref (ga K "_law_heaviest")) := by
  obtain ⟨h, kin, g⟩ := T.ex
  exact He.glo_ok kin g (T.says.fact 21 rfl)
theorem Txt.g_law_outcome (T : Txt K mg) : mg "_law_outcome" = some (.ref (ga K "_law_outcome")) := by
  obtain ⟨h, kin, g⟩ := T.ex
  exact He.glo_ok kin g (T.says.fact 22 rfl)
theorem Txt.g_law (T : Txt K mg) : mg "law" = some (.ref (ga K "law")) := by
  obtain ⟨h, kin, g⟩ := T.ex
  exact He.glo_ok kin g (T.says.fact 23 rfl)
theorem Txt.g_WrongCount (T : Txt K mg) : mg "WrongCount" = some (.ref (ga K "WrongCount")) := by
  obtain ⟨h, kin, g⟩ := T.ex
  exact He.glo_ok kin g (T.says.fact 24 rfl)
theorem Txt.g_OutOfRange (T : Txt K mg) : mg "OutOfRange" = some (.ref (ga K "OutOfRange")) := by
  obtain ⟨h, kin, g⟩ := T.ex
  exact He.glo_ok kin g (T.says.fact 25 rfl)
theorem Txt.g_UnknownKind (T : Txt K mg) : mg "UnknownKind" = some (.ref (ga K "UnknownKind")) := by
  obtain ⟨h, kin, g⟩ := T.ex
  exact He.glo_ok kin g (T.says.fact 26 rfl)
theorem Txt.g_BadCost (T : Txt K mg) : mg "BadCost" = some (.ref (ga K "BadCost")) := by
  obtain ⟨h, kin, g⟩ := T.ex
  exact He.glo_ok kin g (T.says.fact 27 rfl)
theorem Txt.g_BadRelease (T : Txt K mg) : mg "BadRelease" = some (.ref (ga K "BadRelease")) := by
  obtain ⟨h, kin, g⟩ := T.ex
  exact He.glo_ok kin g (T.says.fact 28 rfl)
theorem Txt.g_NoArrow (T : Txt K mg) : mg "NoArrow" = some (.ref (ga K "NoArrow")) := by
  obtain ⟨h, kin, g⟩ := T.ex
  exact He.glo_ok kin g (T.says.fact 29 rfl)
theorem Txt.g_GapTooShort (T : Txt K mg) : mg "GapTooShort" = some (.ref (ga K "GapTooShort")) := by
  obtain ⟨h, kin, g⟩ := T.ex
  exact He.glo_ok kin g (T.says.fact 30 rfl)
theorem Txt.g_Run (T : Txt K mg) : mg "Run" = some (.ref (ga K "Run")) := by
  obtain ⟨h, kin, g⟩ := T.ex
  exact He.glo_ok kin g (T.says.fact 31 rfl)
theorem Txt.g_Task (T : Txt K mg) : mg "Task" = some (.ref (ga K "Task")) := by
  obtain ⟨h, kin, g⟩ := T.ex
  exact He.glo_ok kin g (T.says.fact 32 rfl)
theorem Txt.b_all (T : Txt K mg) : mg "all" = none := by
  obtain ⟨h, kin, g⟩ := T.ex
  exact He.free_ok kin g (T.says.fact 33 rfl)
theorem Txt.b_enumerate (T : Txt K mg) : mg "enumerate" = none := by
  obtain ⟨h, kin, g⟩ := T.ex
  exact He.free_ok kin g (T.says.fact 34 rfl)
theorem Txt.b_int (T : Txt K mg) : mg "int" = none := by
  obtain ⟨h, kin, g⟩ := T.ex
  exact He.free_ok kin g (T.says.fact 35 rfl)
theorem Txt.b_len (T : Txt K mg) : mg "len" = none := by
  obtain ⟨h, kin, g⟩ := T.ex
  exact He.free_ok kin g (T.says.fact 36 rfl)
theorem Txt.b_list (T : Txt K mg) : mg "list" = none := by
  obtain ⟨h, kin, g⟩ := T.ex
  exact He.free_ok kin g (T.says.fact 37 rfl)
theorem Txt.b_range (T : Txt K mg) : mg "range" = none := by
  obtain ⟨h, kin, g⟩ := T.ex
  exact He.free_ok kin g (T.says.fact 38 rfl)
theorem Txt.b_sorted (T : Txt K mg) : mg "sorted" = none := by
  obtain ⟨h, kin, g⟩ := T.ex
  exact He.free_ok kin g (T.says.fact 39 rfl)
theorem Txt.b_sum (T : Txt K mg) : mg "sum" = none := by
  obtain ⟨h, kin, g⟩ := T.ex
  exact He.free_ok kin g (T.says.fact 40 rfl)
theorem Txt.k_SPEED_LIMIT (T : Txt K mg) : ∃ t, mg "SPEED_LIMIT" = some (.int 99 t) := by
  obtain ⟨h, kin, g⟩ := T.ex
  exact He.int_ok kin g (T.says.fact 41 rfl)
theorem Txt.k_GRAIN_LIMIT (T : Txt K mg) : ∃ t, mg "GRAIN_LIMIT" = some (.int 60 t) := by
  obtain ⟨h, kin, g⟩ := T.ex
  exact He.int_ok kin g (T.says.fact 42 rfl)
theorem Txt.k_JOB_LIMIT (T : Txt K mg) : ∃ t, mg "JOB_LIMIT" = some (.int 400 t) := by
  obtain ⟨h, kin, g⟩ := T.ex
  exact He.int_ok kin g (T.says.fact 43 rfl)
theorem Txt.k_LETTERS (T : Txt K mg) : ∃ t, mg "LETTERS" = some (.str "abcdefghijklmnopqrstuvwxyz" t) := by
  obtain ⟨h, kin, g⟩ := T.ex
  exact He.str_ok kin g (T.says.fact 44 rfl)
theorem Txt.k_OTHER_SIGNS (T : Txt K mg) : ∃ t, mg "OTHER_SIGNS" = some (.str "0123456789_" t) := by
  obtain ⟨h, kin, g⟩ := T.ex
  exact He.str_ok kin g (T.says.fact 45 rfl)
theorem Txt.k_LONGEST_NAME (T : Txt K mg) : ∃ t, mg "LONGEST_NAME" = some (.int 12 t) := by
  obtain ⟨h, kin, g⟩ := T.ex
  exact He.int_ok kin g (T.says.fact 46 rfl)
theorem Txt.k_MOST_KINDS (T : Txt K mg) : ∃ t, mg "MOST_KINDS" = some (.int 4 t) := by
  obtain ⟨h, kin, g⟩ := T.ex
  exact He.int_ok kin g (T.says.fact 47 rfl)
theorem Txt.k_MOST_ARROWS (T : Txt K mg) : ∃ t, mg "MOST_ARROWS" = some (.int 12 t) := by
  obtain ⟨h, kin, g⟩ := T.ex
  exact He.int_ok kin g (T.says.fact 48 rfl)
theorem Txt.k_MOST_GAP (T : Txt K mg) : ∃ t, mg "MOST_GAP" = some (.int 12 t) := by
  obtain ⟨h, kin, g⟩ := T.ex
  exact He.int_ok kin g (T.says.fact 49 rfl)
theorem Txt.cl_Run (T : Txt K mg) : Cls K (ga K "Run") := He.cls_ok (T.says.fact 50 rfl)
theorem Txt.mk_Run (T : Txt K mg) : Mk K (ga K "Run") (ma K (ga K "Run") "__init__") := He.mkr_ok (T.says.fact 51 rfl)
theorem Txt.p_Run_jobs (T : Txt K mg) : PropOf K (ga K "Run") "jobs" (pad K "Run" "jobs") (wad K "property" "Run" "jobs") := prop_of (T.says.fact 52 rfl)
theorem Txt.n_Run_grain (T : Txt K mg) : NoAttr K (ga K "Run") "grain" := He.noat_ok (T.says.fact 53 rfl)
theorem Txt.n_Run_placed (T : Txt K mg) : NoAttr K (ga K "Run") "placed" := He.noat_ok (T.says.fact 54 rfl)
theorem Txt.cl_Task (T : Txt K mg) : Cls K (ga K "Task") := He.cls_ok (T.says.fact 55 rfl)
theorem Txt.mk_Task (T : Txt K mg) : Mk K (ga K "Task") (ma K (ga K "Task") "__init__") := He.mkr_ok (T.says.fact 56 rfl)
theorem Txt.m_Task_row_of (T : Txt K mg) : Meth K (ga K "Task") "row_of" (ma K (ga K "Task") "row_of") := He.meth_ok (T.says.fact 58 rfl)
theorem Txt.m_Task_cost_of (T : Txt K mg) : Meth K (ga K "Task") "cost_of" (ma K (ga K "Task") "cost_of") := He.meth_ok (T.says.fact 59 rfl)
theorem Txt.m_Task_deadline_of (T : Txt K mg) : Meth K (ga K "Task") "deadline_of" (ma K (ga K "Task") "deadline_of") := He.meth_ok (T.says.fact 60 rfl)
theorem Txt.m_Task_followers (T : Txt K mg) : Meth K (ga K "Task") "followers" (ma K (ga K "Task") "followers") := He.meth_ok (T.says.fact 61 rfl)
theorem Txt.n_Task_name (T : Txt K mg) : NoAttr K (ga K "Task") "name" := He.noat_ok (T.says.fact 62 rfl)
theorem Txt.n_Task_kind_rows (T : Txt K mg) : NoAttr K (ga K "Task") "kind_rows" := He.noat_ok (T.says.fact 63 rfl)
theorem Txt.n_Task_arrow_rows (T : Txt K mg) : NoAttr K (ga K "Task") "arrow_rows" := He.noat_ok (T.says.fact 64 rfl)
theorem Txt.ox_BadCost (T : Txt K mg) : OexC K (ga K "BadCost") := (oex_of (T.says.fact 65 rfl)).1
theorem Txt.oxi_BadCost (T : Txt K mg) : PySem.W.findIn K (.ref (ga K "BadCost")) "__init__" = some (some (.ref (ma K (ga K "BadCost") "__init__"))) := (oex_of (T.says.fact 65 rfl)).2.1
theorem Txt.oxf_BadCost (T : Txt K mg) : PySem.W.typeIn K (.ref (ma K (ga K "BadCost") "__init__")) = some (.type "function") := (oex_of (T.says.fact 65 rfl)).2.2
theorem Txt.ox_BadRelease (T : Txt K mg) : OexC K (ga K "BadRelease") := (oex_of (T.says.fact 67 rfl)).1
theorem Txt.oxi_BadRelease (T : Txt K mg) : PySem.W.findIn K (.ref (ga K "BadRelease")) "__init__" = some (some (.ref (ma K (ga K "BadRelease") "__init__"))) := (oex_of (T.says.fact 67 rfl)).2.1
theorem Txt.oxf_BadRelease (T : Txt K mg) : PySem.W.typeIn K (.ref (ma K (ga K "BadRelease") "__init__")) = some (.type "function") := (oex_of (T.says.fact 67 rfl)).2.2
theorem Txt.ox_GapTooShort (T : Txt K mg) : OexC K (ga K "GapTooShort") := (oex_of (T.says.fact 69 rfl)).1
theorem Txt.oxi_GapTooShort (T : Txt K mg) : PySem.W.findIn K (.ref (ga K "GapTooShort")) "__init__" = some (some (.ref (ma K (ga K "GapTooShort") "__init__"))) := (oex_of (T.says.fact 69 rfl)).2.1
theorem Txt.oxf_GapTooShort (T : Txt K mg) : PySem.W.typeIn K (.ref (ma K (ga K "GapTooShort") "__init__")) = some (.type "function") := (oex_of (T.says.fact 69 rfl)).2.2
theorem Txt.ox_NoArrow (T : Txt K mg) : OexC K (ga K "NoArrow") := (oex_of (T.says.fact 71 rfl)).1
theorem Txt.oxi_NoArrow (T : Txt K mg) : PySem.W.findIn K (.ref (ga K "NoArrow")) "__init__" = some (some (.ref (ma K (ga K "NoArrow") "__init__"))) := (oex_of (T.says.fact 71 rfl)).2.1
theorem Txt.oxf_NoArrow (T : Txt K mg) : PySem.W.typeIn K (.ref (ma K (ga K "NoArrow") "__init__")) = some (.type "function") := (oex_of (T.says.fact 71 rfl)).2.2
theorem Txt.ox_OutOfRange (T : Txt K mg) : OexC K (ga K "OutOfRange") := (oex_of (T.says.fact 73 rfl)).1
theorem Txt.oxi_OutOfRange (T : Txt K mg) : PySem.W.findIn K (.ref (ga K "OutOfRange")) "__init__" = some (some (.ref (ma K (ga K "OutOfRange") "__init__"))) := (oex_of (T.says.fact 73 rfl)).2.1
theorem Txt.oxf_OutOfRange (T : Txt K mg) : PySem.W.typeIn K (.ref (ma K (ga K "OutOfRange") "__init__")) = some (.type "function") := (oex_of (T.says.fact 73 rfl)).2.2
theorem Txt.xm_OutOfRange_OutOfRange (T : Txt K mg) : PySem.W.exmOne K (.ref (ga K "OutOfRange")) (.ref (ga K "OutOfRange")) = some true := of_decide_eq_true (T.says.fact 74 rfl)
theorem Txt.ox_UnknownKind (T : Txt K mg) : OexC K (ga K "UnknownKind") := (oex_of (T.says.fact 75 rfl)).1
theorem Txt.oxi_UnknownKind (T : Txt K mg) : PySem.W.findIn K (.ref (ga K "UnknownKind")) "__init__" = some (some (.ref (ma K (ga K "UnknownKind") "__init__"))) := (oex_of (T.says.fact 75 rfl)).2.1
theorem Txt.oxf_UnknownKind (T : Txt K mg) : PySem.W.typeIn K (.ref (ma K (ga K "UnknownKind") "__init__")) = some (.type "function") := (oex_of (T.says.fact 75 rfl)).2.2
theorem Txt.ox_WrongCount (T : Txt K mg) : OexC K (ga K "WrongCount") := (oex_of (T.says.fact 77 rfl)).1
theorem Txt.oxi_WrongCount (T : Txt K mg) : PySem.W.findIn K (.ref (ga K "WrongCount")) "__init__" = some (some (.ref (ma K (ga K "WrongCount") "__init__"))) := (oex_of (T.says.fact 77 rfl)).2.1
theorem Txt.oxf_WrongCount (T : Txt K mg) : PySem.W.typeIn K (.ref (ma K (ga K "WrongCount") "__init__")) = some (.type "function") := (oex_of (T.says.fact 77 rfl)).2.2
theorem Txt.nf_BadCost_place (T : Txt K mg) : PySem.W.findIn K (.ref (ga K "BadCost")) "place" = some none := of_decide_eq_true (T.says.fact 79 rfl)
theorem Txt.nf_BadCost_task (T : Txt K mg) : PySem.W.findIn K (.ref (ga K "BadCost")) "task" = some none := of_decide_eq_true (T.says.fact 80 rfl)
theorem Txt.nf_BadRelease_place (T : Txt K mg) : PySem.W.findIn K (.ref (ga K "BadRelease")) "place" = some none := of_decide_eq_true (T.says.fact 81 rfl)
theorem Txt.nf_BadRelease_task (T : Txt K mg) : PySem.W.findIn K (.ref (ga K "BadRelease")) "task" = some none := of_decide_eq_true (T.says.fact 82 rfl)
theorem Txt.nf_GapTooShort_place (T : Txt K mg) : PySem.W.findIn K (.ref (ga K "GapTooShort")) "place" = some none := of_decide_eq_true (T.says.fact 83 rfl)
theorem Txt.nf_GapTooShort_task (T : Txt K mg) : PySem.W.findIn K (.ref (ga K "GapTooShort")) "task" = some none := of_decide_eq_true (T.says.fact 84 rfl)
theorem Txt.nf_NoArrow_place (T : Txt K mg) : PySem.W.findIn K (.ref (ga K "NoArrow")) "place" = some none := of_decide_eq_true (T.says.fact 85 rfl)
theorem Txt.nf_NoArrow_task (T : Txt K mg) : PySem.W.findIn K (.ref (ga K "NoArrow")) "task" = some none := of_decide_eq_true (T.says.fact 86 rfl)
theorem Txt.nf_OutOfRange_value (T : Txt K mg) : PySem.W.findIn K (.ref (ga K "OutOfRange")) "value" = some none := of_decide_eq_true (T.says.fact 87 rfl)
theorem Txt.nf_OutOfRange_what (T : Txt K mg) : PySem.W.findIn K (.ref (ga K "OutOfRange")) "what" = some none := of_decide_eq_true (T.says.fact 88 rfl)
theorem Txt.nf_UnknownKind_name (T : Txt K mg) : PySem.W.findIn K (.ref (ga K "UnknownKind")) "name" = some none := of_decide_eq_true (T.says.fact 89 rfl)
theorem Txt.nf_WrongCount_count (T : Txt K mg) : PySem.W.findIn K (.ref (ga K "WrongCount")) "count" = some none := of_decide_eq_true (T.says.fact 90 rfl)
theorem Txt.nf_WrongCount_what (T : Txt K mg) : PySem.W.findIn K (.ref (ga K "WrongCount")) "what" = some none := of_decide_eq_true (T.says.fact 91 rfl)
theorem Txt.xf_OutOfRange (T : Txt K mg) : XfC K (ga K "OutOfRange") := xfB_ok (T.says.fact 92 rfl)
theorem Txt.t0_Task_init (T : Txt K mg) : tup0B (dflA (fun K => ma K (ga K "Task") "__init__") 0) K = true := T.says.fact 93 rfl
theorem Txt.lam_Run_init (T : Txt K mg) : ∃ c Pt, tabAt K (ma K (ga K "Run") "__init__") "Run.__init__" = some (c, Pt) ∧ (c, Pt, ("Run.__init__" : Str) ++ ".<locals>." ++ "<lambda>") ∈ tbls3 K := lam_of (i := 1) (d := (some "Run", "__init__")) rfl (T.says.fact 94 rfl)
theorem Txt.d_UnknownKind_init (T : Txt K mg) : ∃ fd, FunD K "__init__" "UnknownKind.__init__" (defArgs s_UnknownKind_init) (defBody s_UnknownKind_init) (defScope s_UnknownKind_init) [] [] (ma K (ga K "UnknownKind") "__init__") fd := T.says.def_ 0 (d := da_UnknownKind_init) rfl
theorem Txt.d_OutOfRange_init (T : Txt K mg) : ∃ fd, FunD K "__init__" "OutOfRange.__init__" (defArgs s_OutOfRange_init) (defBody s_OutOfRange_init) (defScope s_OutOfRange_init) [] [] (ma K (ga K "OutOfRange") "__init__") fd := T.says.def_ 1 (d := da_OutOfRange_init) rfl
theorem Txt.d_WrongCount_init (T : Txt K mg) : ∃ fd, FunD K "__init__" "WrongCount.__init__" (defArgs s_WrongCount_init) (defBody s_WrongCount_init) (defScope s_WrongCount_init) [] [] (ma K (ga K "WrongCount") "__init__") fd := T.says.def_ 2 (d := da_WrongCount_init) rfl
theorem Txt.d_BadCost_init (T : Txt K mg) : ∃ fd, FunD K "__init__" "BadCost.__init__" (defArgs s_BadCost_init) (defBody s_BadCost_init) (defScope s_BadCost_init) [] [] (ma K (ga K "BadCost") "__init__") fd := T.says.def_ 3 (d := da_BadCost_init) rfl
theorem Txt.d_BadRelease_init (T : Txt K mg) : ∃ fd, FunD K "__init__" "BadRelease.__init__" (defArgs s_BadRelease_init) (defBody s_BadRelease_init) (defScope s_BadRelease_init) [] [] (ma K (ga K "BadRelease") "__init__") fd := T.says.def_ 4 (d := da_BadRelease_init) rfl
theorem Txt.d_NoArrow_init (T : Txt K mg) : ∃ fd, FunD K "__init__" "NoArrow.__init__" (defArgs s_NoArrow_init) (defBody s_NoArrow_init) (defScope s_NoArrow_init) [] [] (ma K (ga K "NoArrow") "__init__") fd := T.says.def_ 5 (d := da_NoArrow_init) rfl
theorem Txt.d_GapTooShort_init (T : Txt K mg) : ∃ fd, FunD K "__init__" "GapTooShort.__init__" (defArgs s_GapTooShort_init) (defBody s_GapTooShort_init) (defScope s_GapTooShort_init) [] [] (ma K (ga K "GapTooShort") "__init__") fd := T.says.def_ 6 (d := da_GapTooShort_init) rfl
theorem Txt.d_is_name (T : Txt K mg) : ∃ fd, FunD K "is_name" "is_name" (defArgs s_is_name) (defBody s_is_name) (defScope s_is_name) [] [] (ga K "is_name") fd := T.says.def_ 7 (d := da_is_name) rfl
theorem Txt.d_need_name (T : Txt K mg) : ∃ fd, FunD K "need_name" "need_name" (defArgs s_need_name) (defBody s_need_name) (defScope s_need_name) [] [] (ga K "need_name") fd := T.says.def_ 8 (d := da_need_name) rfl
theorem Txt.d_need_range (T : Txt K mg) : ∃ fd, FunD K "need_range" "need_range" (defArgs s_need_range) (defBody s_need_range) (defScope s_need_range) [] [] (ga K "need_range") fd := T.says.def_ 9 (d := da_need_range) rfl
theorem Txt.d_need_kind (T : Txt K mg) : ∃ fd, FunD K "need_kind" "need_kind" (defArgs s_need_kind) (defBody s_need_kind) (defScope s_need_kind) [] [] (ga K "need_kind") fd := T.says.def_ 10 (d := da_need_kind) rfl
theorem Txt.d_checked_kinds (T : Txt K mg) : ∃ fd, FunD K "checked_kinds" "checked_kinds" (defArgs s_checked_kinds) (defBody s_checked_kinds) (defScope s_checked_kinds) [] [] (ga K "checked_kinds") fd := T.says.def_ 11 (d := da_checked_kinds) rfl
theorem Txt.d_checked_arrows (T : Txt K mg) : ∃ fd, FunD K "checked_arrows" "checked_arrows" (defArgs s_checked_arrows) (defBody s_checked_arrows) (defScope s_checked_arrows) [] [] (ga K "checked_arrows") fd := T.says.def_ 12 (d := da_checked_arrows) rfl
theorem Txt.d_Task_init (T : Txt K mg) : ∃ fd, FunD K "__init__" "Task.__init__" (defArgs s_Task_init) (defBody s_Task_init) (defScope s_Task_init) [.ref ((dflA (fun K => ma K (ga K "Task") "__init__") 0) K)] [] (ma K (ga K "Task") "__init__") fd := T.says.def_ 13 (d := da_Task_init) rfl
theorem Txt.d_Task_row_of (T : Txt K mg) : ∃ fd, FunD K "row_of" "Task.row_of" (defArgs s_Task_row_of) (defBody s_Task_row_of) (defScope s_Task_row_of) [] [] (ma K (ga K "Task") "row_of") fd := T.says.def_ 15 (d := da_Task_row_of) rfl
theorem Txt.d_Task_cost_of (T : Txt K mg) : ∃ fd, FunD K "cost_of" "Task.cost_of" (defArgs s_Task_cost_of) (defBody s_Task_cost_of) (defScope s_Task_cost_of) [] [] (ma K (ga K "Task") "cost_of") fd := T.says.def_ 16 (d := da_Task_cost_of) rfl
theorem Txt.d_Task_deadline_of (T : Txt K mg) : ∃ fd, FunD K "deadline_of" "Task.deadline_of" (defArgs s_Task_deadline_of) (defBody s_Task_deadline_of) (defScope s_Task_deadline_of) [] [] (ma K (ga K "Task") "deadline_of") fd := T.says.def_ 17 (d := da_Task_deadline_of) rfl
theorem Txt.d_Task_followers (T : Txt K mg) : ∃ fd, FunD K "followers" "Task.followers" (defArgs s_Task_followers) (defBody s_Task_followers) (defScope s_Task_followers) [] [] (ma K (ga K "Task") "followers") fd := T.says.def_ 18 (d := da_Task_followers) rfl
theorem Txt.d_gap_between (T : Txt K mg) : ∃ fd, FunD K "gap_between" "gap_between" (defArgs s_gap_between) (defBody s_gap_between) (defScope s_gap_between) [] [] (ga K "gap_between") fd := T.says.def_ 19 (d := da_gap_between) rfl
theorem Txt.d_check_job (T : Txt K mg) : ∃ fd, FunD K "check_job" "check_job" (defArgs s_check_job) (defBody s_check_job) (defScope s_check_job) [] [] (ga K "check_job") fd := T.says.def_ 20 (d := da_check_job) rfl
theorem Txt.d_check_counts (T : Txt K mg) : ∃ fd, FunD K "check_counts" "check_counts" (defArgs s_check_counts) (defBody s_check_counts) (defScope s_check_counts) [] [] (ga K "check_counts") fd := T.says.def_ 21 (d := da_check_counts) rfl
theorem Txt.d_Run_init (T : Txt K mg) : ∃ fd, FunD K "__init__" "Run.__init__" (defArgs s_Run_init) (defBody s_Run_init) (defScope s_Run_init) [] [("grain", .int 1)] (ma K (ga K "Run") "__init__") fd := T.says.def_ 22 (d := da_Run_init) rfl
theorem Txt.d_Run_jobs (T : Txt K mg) : ∃ fd, FunD K "jobs" "Run.jobs" (defArgs s_Run_jobs) (defBody s_Run_jobs) (defScope s_Run_jobs) [] [] (wad K "property" "Run" "jobs") fd := T.says.def_ 23 (d := da_Run_jobs) rfl
theorem Txt.d_check_speed (T : Txt K mg) : ∃ fd, FunD K "check_speed" "check_speed" (defArgs s_check_speed) (defBody s_check_speed) (defScope s_check_speed) [] [] (ga K "check_speed") fd := T.says.def_ 24 (d := da_check_speed) rfl
theorem Txt.d_costs_by_due (T : Txt K mg) : ∃ fd, FunD K "costs_by_due" "costs_by_due" (defArgs s_costs_by_due) (defBody s_costs_by_due) (defScope s_costs_by_due) [] [] (ga K "costs_by_due") fd := T.says.def_ 25 (d := da_costs_by_due) rfl
theorem Txt.d_interval_demands (T : Txt K mg) : ∃ fd, FunD K "interval_demands" "interval_demands" (defArgs s_interval_demands) (defBody s_interval_demands) (defScope s_interval_demands) [] [] (ga K "interval_demands") fd := T.says.def_ 26 (d := da_interval_demands) rfl
theorem Txt.d_heaviest_interval (T : Txt K mg) : ∃ fd, FunD K "heaviest_interval" "heaviest_interval" (defArgs s_heaviest_interval) (defBody s_heaviest_interval) (defScope s_heaviest_interval) [] [("speed", .int 1)] (ga K "heaviest_interval") fd := T.says.def_ 27 (d := da_heaviest_interval) rfl
theorem Txt.d_law_cell (T : Txt K mg) : ∃ fd, FunD K "_law_cell" "_law_cell" (defArgs s_law_cell) (defBody s_law_cell) (defScope s_law_cell) [] [] (ga K "_law_cell") fd := T.says.def_ 28 (d := da_law_cell) rfl
theorem Txt.d_law_source (T : Txt K mg) : ∃ fd, FunD K "_law_source" "_law_source" (defArgs s_law_source) (defBody s_law_source) (defScope s_law_source) [] [] (ga K "_law_source") fd := T.says.def_ 29 (d := da_law_source) rfl
theorem Txt.d_law_draw (T : Txt K mg) : ∃ fd, FunD K "_law_draw" "_law_draw" (defArgs s_law_draw) (defBody s_law_draw) (defScope s_law_draw) [] [] (ga K "_law_draw") fd := T.says.def_ 30 (d := da_law_draw) rfl
theorem Txt.d_law_names (T : Txt K mg) : ∃ fd, FunD K "_law_names" "_law_names" (defArgs s_law_names) (defBody s_law_names) (defScope s_law_names) [] [] (ga K "_law_names") fd := T.says.def_ 31 (d := da_law_names) rfl
theorem Txt.d_law_task (T : Txt K mg) : ∃ fd, FunD K "_law_task" "_law_task" (defArgs s_law_task) (defBody s_law_task) (defScope s_law_task) [] [] (ga K "_law_task") fd := T.says.def_ 32 (d := da_law_task) rfl
theorem Txt.d_law_walk (T : Txt K mg) : ∃ fd, FunD K "_law_walk" "_law_walk" (defArgs s_law_walk) (defBody s_law_walk) (defScope s_law_walk) [] [] (ga K "_law_walk") fd := T.says.def_ 33 (d := da_law_walk) rfl
theorem Txt.d_law_distinct (T : Txt K mg) : ∃ fd, FunD K "_law_distinct" "_law_distinct" (defArgs s_law_distinct) (defBody s_law_distinct) (defScope s_law_distinct) [] [] (ga K "_law_distinct") fd := T.says.def_ 34 (d := da_law_distinct) rfl
theorem Txt.d_law_demands (T : Txt K mg) : ∃ fd, FunD K "_law_demands" "_law_demands" (defArgs s_law_demands) (defBody s_law_demands) (defScope s_law_demands) [] [] (ga K "_law_demands") fd := T.says.def_ 35 (d := da_law_demands) rfl
theorem Txt.d_law_heaviest (T : Txt K mg) : ∃ fd, FunD K "_law_heaviest" "_law_heaviest" (defArgs s_law_heaviest) (defBody s_law_heaviest) (defScope s_law_heaviest) [] [] (ga K "_law_heaviest") fd := T.says.def_ 36 (d := da_law_heaviest) rfl
theorem Txt.d_law_outcome (T : Txt K mg) : ∃ fd, FunD K "_law_outcome" "_law_outcome" (defArgs s_law_outcome) (defBody s_law_outcome) (defScope s_law_outcome) [] [] (ga K "_law_outcome") fd := T.says.def_ 37 (d := da_law_outcome) rfl
theorem Txt.d_law (T : Txt K mg) : ∃ fd, FunD K "law" "law" (defArgs s_law) (defBody s_law) (defScope s_law) [] [] (ga K "law") fd := T.says.def_ 38 (d := da_law) rfl
end
theorem len_is_name {K : Fr0} : ∀ ds m Q E, sp_is_name K ds m Q E → ds.length = (["text"] : List Str).length := by
  intro ds m Q E h
  repeat (first | (obtain ⟨rfl, _⟩ := h; rfl) | (obtain ⟨_, h⟩ := h))
theorem len_need_name {K : Fr0} : ∀ ds m Q E, sp_need_name K ds m Q E → ds.length = (["text"] : List Str).length := by
  intro ds m Q E h
  repeat (first | (obtain ⟨rfl, _⟩ := h; rfl) | (obtain ⟨_, h⟩ := h))
theorem len_need_range {K : Fr0} : ∀ ds m Q E, sp_need_range K ds m Q E → ds.length = (["what", "value", "least", "most"] : List Str).length := by
  intro ds m Q E h
  repeat (first | (obtain ⟨rfl, _⟩ := h; rfl) | (obtain ⟨_, h⟩ := h))
theorem len_need_kind {K : Fr0} : ∀ ds m Q E, sp_need_kind K ds m Q E → ds.length = (["name", "kind_rows"] : List Str).length := by
  intro ds m Q E h
  repeat (first | (obtain ⟨rfl, _⟩ := h; rfl) | (obtain ⟨_, h⟩ := h))
theorem len_checked_kinds {K : Fr0} : ∀ ds m Q E, sp_checked_kinds K ds m Q E → ds.length = (["kinds", "branching"] : List Str).length := by
  intro ds m Q E h
  repeat (first | (obtain ⟨rfl, _⟩ := h; rfl) | (obtain ⟨_, h⟩ := h))
theorem len_checked_arrows {K : Fr0} : ∀ ds m Q E, sp_checked_arrows K ds m Q E → ds.length = (["arrows", "kind_rows"] : List Str).length := by
  intro ds m Q E h
  repeat (first | (obtain ⟨rfl, _⟩ := h; rfl) | (obtain ⟨_, h⟩ := h))
theorem len_Task_init {K : Fr0} : ∀ ds m Q E, sp_Task_init K ds m Q E → ds.length = (["self", "name", "kinds", "arrows"] : List Str).length := by
  intro ds m Q E h
  repeat (first | (obtain ⟨rfl, _⟩ := h; rfl) | (obtain ⟨_, h⟩ := h))
theorem len_Task_row_of {K : Fr0} : ∀ ds m Q E, sp_Task_row_of K ds m Q E → ds.length = (["self", "kind"] : List Str).length := by
  intro ds m Q E h
  repeat (first | (obtain ⟨rfl, _⟩ := h; rfl) | (obtain ⟨_, h⟩ := h))
theorem len_Task_cost_of {K : Fr0} : ∀ ds m Q E, sp_Task_cost_of K ds m Q E → ds.length = (["self", "kind"] : List Str).length := by
  intro ds m Q E h
  repeat (first | (obtain ⟨rfl, _⟩ := h; rfl) | (obtain ⟨_, h⟩ := h))
theorem len_Task_deadline_of {K : Fr0} : ∀ ds m Q E, sp_Task_deadline_of K ds m Q E → ds.length = (["self", "kind"] : List Str).length := by
  intro ds m Q E h
  repeat (first | (obtain ⟨rfl, _⟩ := h; rfl) | (obtain ⟨_, h⟩ := h))
theorem len_Task_followers {K : Fr0} : ∀ ds m Q E, sp_Task_followers K ds m Q E → ds.length = (["self", "kind"] : List Str).length := by
  intro ds m Q E h
  repeat (first | (obtain ⟨rfl, _⟩ := h; rfl) | (obtain ⟨_, h⟩ := h))
theorem len_gap_between {K : Fr0} : ∀ ds m Q E, sp_gap_between K ds m Q E → ds.length = (["task", "first", "second"] : List Str).length := by
  intro ds m Q E h
  repeat (first | (obtain ⟨rfl, _⟩ := h; rfl) | (obtain ⟨_, h⟩ := h))
theorem len_check_job {K : Fr0} : ∀ ds m Q E, sp_check_job K ds m Q E → ds.length = (["task", "walk", "index", "place", "grain"] : List Str).length := by
  intro ds m Q E h
  repeat (first | (obtain ⟨rfl, _⟩ := h; rfl) | (obtain ⟨_, h⟩ := h))
theorem len_check_counts {K : Fr0} : ∀ ds m Q E, sp_check_counts K ds m Q E → ds.length = (["tasks", "walks", "grain"] : List Str).length := by
  intro ds m Q E h
  repeat (first | (obtain ⟨rfl, _⟩ := h; rfl) | (obtain ⟨_, h⟩ := h))
theorem len_Run_init {K : Fr0} : ∀ ds m Q E, sp_Run_init K ds m Q E → ds.length = (["self", "tasks", "walks", "grain"] : List Str).length := by
  intro ds m Q E h
  repeat (first | (obtain ⟨rfl, _⟩ := h; rfl) | (obtain ⟨_, h⟩ := h))
theorem len_Run_jobs {K : Fr0} : ∀ ds m Q E, sp_Run_jobs K ds m Q E → ds.length = (["self"] : List Str).length := by
  intro ds m Q E h
  repeat (first | (obtain ⟨rfl, _⟩ := h; rfl) | (obtain ⟨_, h⟩ := h))
theorem len_check_speed {K : Fr0} : ∀ ds m Q E, sp_check_speed K ds m Q E → ds.length = (["speed"] : List Str).length := by
  intro ds m Q E h
  repeat (first | (obtain ⟨rfl, _⟩ := h; rfl) | (obtain ⟨_, h⟩ := h))
theorem len_costs_by_due {K : Fr0} : ∀ ds m Q E, sp_costs_by_due K ds m Q E → ds.length = (["jobs", "start"] : List Str).length := by
  intro ds m Q E h
  repeat (first | (obtain ⟨rfl, _⟩ := h; rfl) | (obtain ⟨_, h⟩ := h))
theorem len_heaviest_interval {K : Fr0} : ∀ ds m Q E, sp_heaviest_interval K ds m Q E → ds.length = (["run", "speed"] : List Str).length := by
  intro ds m Q E h
  repeat (first | (obtain ⟨rfl, _⟩ := h; rfl) | (obtain ⟨_, h⟩ := h))
theorem len_law_cell {K : Fr0} : ∀ ds m Q E, sp_law_cell K ds m Q E → ds.length = (["_law_script", "_law_place"] : List Str).length := by
  intro ds m Q E h
  repeat (first | (obtain ⟨rfl, _⟩ := h; rfl) | (obtain ⟨_, h⟩ := h))
theorem len_law_source {K : Fr0} : ∀ ds m Q E, sp_law_source K ds m Q E → ds.length = (["_law_cell_here"] : List Str).length := by
  intro ds m Q E h
  repeat (first | (obtain ⟨rfl, _⟩ := h; rfl) | (obtain ⟨_, h⟩ := h))
theorem len_law_draw {K : Fr0} : ∀ ds m Q E, sp_law_draw K ds m Q E → ds.length = (["_law_source_here", "_law_limit"] : List Str).length := by
  intro ds m Q E h
  repeat (first | (obtain ⟨rfl, _⟩ := h; rfl) | (obtain ⟨_, h⟩ := h))
theorem len_law_names {K : Fr0} : ∀ ds m Q E, sp_law_names K ds m Q E → ds.length = (["_law_source_here", "_law_many"] : List Str).length := by
  intro ds m Q E h
  repeat (first | (obtain ⟨rfl, _⟩ := h; rfl) | (obtain ⟨_, h⟩ := h))
theorem len_law_task {K : Fr0} : ∀ ds m Q E, sp_law_task K ds m Q E → ds.length = (["_law_source_here"] : List Str).length := by
  intro ds m Q E h
  repeat (first | (obtain ⟨rfl, _⟩ := h; rfl) | (obtain ⟨_, h⟩ := h))
theorem len_law_walk {K : Fr0} : ∀ ds m Q E, sp_law_walk K ds m Q E → ds.length = (["_law_source_here", "_law_task_here", "_law_parts"] : List Str).length := by
  intro ds m Q E h
  repeat (first | (obtain ⟨rfl, _⟩ := h; rfl) | (obtain ⟨_, h⟩ := h))
theorem len_law_distinct {K : Fr0} : ∀ ds m Q E, sp_law_distinct K ds m Q E → ds.length = (["_law_values"] : List Str).length := by
  intro ds m Q E h
  repeat (first | (obtain ⟨rfl, _⟩ := h; rfl) | (obtain ⟨_, h⟩ := h))
theorem len_law_demands {K : Fr0} : ∀ ds m Q E, sp_law_demands K ds m Q E → ds.length = (["_law_jobs"] : List Str).length := by
  intro ds m Q E h
  repeat (first | (obtain ⟨rfl, _⟩ := h; rfl) | (obtain ⟨_, h⟩ := h))
theorem len_law_heaviest {K : Fr0} : ∀ ds m Q E, sp_law_heaviest K ds m Q E → ds.length = (["_law_rows", "_law_pace"] : List Str).length := by
  intro ds m Q E h
  repeat (first | (obtain ⟨rfl, _⟩ := h; rfl) | (obtain ⟨_, h⟩ := h))
theorem len_law_outcome {K : Fr0} : ∀ ds m Q E, sp_law_outcome K ds m Q E → ds.length = (["_law_run", "_law_pace"] : List Str).length := by
  intro ds m Q E h
  repeat (first | (obtain ⟨rfl, _⟩ := h; rfl) | (obtain ⟨_, h⟩ := h))
theorem len_interval_demands {K : Fr0} : ∀ ds m Q, sp_interval_demands K ds m Q → ds.length = (["run"] : List Str).length := by
  intro ds m Q h
  repeat (first | (obtain ⟨rfl, _⟩ := h; rfl) | (obtain ⟨_, h⟩ := h))
end LW

set_option Elab.async false
set_option linter.all false
set_option maxRecDepth 100000
set_option maxHeartbeats 0
namespace LW
open PySem PySem.Spec PyProof.Rows L2 DL
open He (ga ma)
end LW

set_option Elab.async false
set_option linter.all false
set_option maxRecDepth 100000
set_option maxHeartbeats 4000000
namespace LW
open PySem PySem.Spec PyProof.Rows L2 DL
open He (ga ma)
local macro_rules | `(tactic| walk_at "zs") => `(tactic| try simp only [dIfS, dTest, dOp, dVar, dC, dCB, daCons, daNil, dSet, dRet, dNext, dDrop, dAsg, dPar, dAug, dAddI, dBreak, dCont, dRetN, slot, dLen, dCmpI, dSub, dAdd, dMul, dDiv, dMod, dPow, dNeg, dUn, dIx, dInt1, dAbs, dChain, dAnd, dOr, dNot, dAndV, dOrV, dNotV, dTru, dTruB, dIf, dTup, dLst, mkL, dSlice, dSl, doNone, doSome, dSum, dAll, dAny, dList, dTuple, dMax, dMin, eq_ii, ne_ii, eq_ss, ne_ss, eq_bb, ne_bb, eq_nn, ne_nn, dIsN, dNotN, dFgt, dIsB, dNotB, gN, gT, gsNil, gsCons, gSet, dBM, dAppend, dClear, dFld, dFldS, dProp, dCall, dMeth, dMake, dMakeN, daStar, dDictP, dCallO, dFor, dLc, diR1, diR2, diR3, diL, diT, diRv, diS, diE, dFmt, dFStr, dJs, dCallN, dFrzE, frz_l, in_ss, notin_ss, drR1, drR2, dListR, dRaise, dRaise0, dTryAs, dTry, dXf, dAddO, dInO, isL, insOf, Option.some.injEq, List.cons.injEq, D.int.injEq, D.bl.injEq, D.str.injEq, D.lst.injEq, D.tup.injEq, D.ref.injEq, MO.lst.injEq, MO.ins.injEq, mset_mset, and_true, true_and, and_self, and_assoc, exists_eq_left', exists_eq_left, exists_and_left, exists_and_right, exists_eq', List.set_cons_zero, List.set_cons_succ, decide_eq_true_eq, sqOf, lsOf, List.length_cons, List.length_nil, sizeLine_eq, List.append_nil, List.cons_append, List.nil_append, if_true, if_false, Bool.false_eq_true, reduceCtorEq, reduceIte, Nat.reduceAdd, Nat.reduceLeDiff, mset_same, Option.bind_some, List.length_map, Prod.mk.injEq, at0, at1, at2, at3, at4, at5, at6, at7, ix30, ix31, ix32, ix20, ix21, ix10, isi_ii, isi_ib, isi_ll, isi_bb, isi_ss, isi_tt, isi_is, isi_si, Bool.not_true, Bool.not_false, dCopyK, dGet2K, dDctR, dDisp1, dFrzEK])
local macro_rules | `(tactic| walk_at "zS") => `(tactic| try simp only [dSeq, dIfS, dTest, dOp, dVar, dC, dCB, daCons, daNil, dSet, dRet, dNext, dDrop, dAsg, dPar, dAug, dAddI, dBreak, dCont, dRetN, slot, dLen, dCmpI, dSub, dAdd, dMul, dDiv, dMod, dPow, dNeg, dUn, dIx, dInt1, dAbs, dChain, dAnd, dOr, dNot, dAndV, dOrV, dNotV, dTru, dTruB, dIf, dTup, dLst, mkL, dSlice, dSl, doNone, doSome, dSum, dAll, dAny, dList, dTuple, dMax, dMin, eq_ii, ne_ii, eq_ss, ne_ss, eq_bb, ne_bb, eq_nn, ne_nn, dIsN, dNotN, dFgt, dIsB, dNotB, gN, gT, gsNil, gsCons, gSet, dBM, dAppend, dClear, dFld, dFldS, dProp, dCall, dMeth, dMake, dMakeN, daStar, dDictP, dCallO, dFor, dLc, diR1, diR2, diR3, diL, diT, diRv, diS, diE, dFmt, dFStr, dJs, dCallN, dFrzE, frz_l, in_ss, notin_ss, drR1, drR2, dListR, dRaise, dRaise0, dTryAs, dTry, dXf, dAddO, dInO, isL, insOf, Option.some.injEq, List.cons.injEq, D.int.injEq, D.bl.injEq, D.str.injEq, D.lst.injEq, D.tup.injEq, D.ref.injEq, MO.lst.injEq, MO.ins.injEq, mset_mset, and_true, true_and, and_self, and_assoc, exists_eq_left', exists_eq_left, exists_and_left, exists_and_right, exists_eq', List.set_cons_zero, List.set_cons_succ, decide_eq_true_eq, sqOf, lsOf, List.length_cons, List.length_nil, sizeLine_eq, List.append_nil, List.cons_append, List.nil_append, if_true, if_false, Bool.false_eq_true, reduceCtorEq, reduceIte, Nat.reduceAdd, Nat.reduceLeDiff, mset_same, Option.bind_some, List.length_map, Prod.mk.injEq, at0, at1, at2, at3, at4, at5, at6, at7, ix30, ix31, ix32, ix20, ix21, ix10, isi_ii, isi_ib, isi_ll, isi_bb, isi_ss, isi_tt, isi_is, isi_si, Bool.not_true, Bool.not_false, dCopyK, dGet2K, dDctR, dDisp1, dFrzEK])
local macro_rules | `(tactic| walk_at "zn") => `(tactic| ((try simp only [dSeq]); (try simp only [dIfS, dTest, dOp, dVar, dC, dCB, daCons, daNil, dSet, dRet, dNext, dDrop, dAsg, dPar, dAug, dAddI, dBreak, dCont, dRetN, slot, dLen, dCmpI, dSub, dAdd, dMul, dDiv, dMod, dPow, dNeg, dUn, dIx, dInt1, dAbs, dChain, dAnd, dOr, dNot, dAndV, dOrV, dNotV, dTru, dTruB, dIf, dTup, dLst, mkL, dSlice, dSl, doNone, doSome, dSum, dAll, dAny, dList, dTuple, dMax, dMin, eq_ii, ne_ii, eq_ss, ne_ss, eq_bb, ne_bb, eq_nn, ne_nn, dIsN, dNotN, dFgt, dIsB, dNotB, gN, gT, gsNil, gsCons, gSet, dBM, dAppend, dClear, dFld, dFldS, dProp, dCall, dMeth, dMake, dMakeN, daStar, dDictP, dCallO, dFor, dLc, diR1, diR2, diR3, diL, diT, diRv, diS, diE, dFmt, dFStr, dJs, dCallN, dFrzE, frz_l, in_ss, notin_ss, drR1, drR2, dListR, dRaise, dRaise0, dTryAs, dTry, dXf, dAddO, dInO, isL, insOf, Option.some.injEq, List.cons.injEq, D.int.injEq, D.bl.injEq, D.str.injEq, D.lst.injEq, D.tup.injEq, D.ref.injEq, MO.lst.injEq, MO.ins.injEq, mset_mset, and_true, true_and, and_self, and_assoc, exists_eq_left', exists_eq_left, exists_and_left, exists_and_right, exists_eq', List.set_cons_zero, List.set_cons_succ, decide_eq_true_eq, sqOf, lsOf, List.length_cons, List.length_nil, sizeLine_eq, List.append_nil, List.cons_append, List.nil_append, if_true, if_false, Bool.false_eq_true, reduceCtorEq, reduceIte, Nat.reduceAdd, Nat.reduceLeDiff, mset_same, Option.bind_some, List.length_map, Prod.mk.injEq, at0, at1, at2, at3, at4, at5, at6, at7, ix30, ix31, ix32, ix20, ix21, ix10, isi_ii, isi_ib, isi_ll, isi_bb, isi_ss, isi_tt, isi_is, isi_si, Bool.not_true, Bool.not_false, dCopyK, dGet2K, dDctR, dDisp1, dFrzEK])))
set_option hygiene false
local macro_rules | `(tactic| walk_at "z0") => `(tactic| try simp only [dIfS, dTest, dOp, dVar, dC, dCB, daCons, daNil, dSet, dRet, dNext, dDrop, dAsg, dPar, dAug, dAddI, dBreak, dCont, dRetN, slot, dLen, dCmpI, dSub, dAdd, dMul, dDiv, dMod, dPow, dNeg, dUn, dIx, dInt1, dAbs, dChain, dAnd, dOr, dNot, dAndV, dOrV, dNotV, dTru, dTruB, dIf, dTup, dLst, mkL, dSlice, dSl, doNone, doSome, dSum, dAll, dAny, dList, dTuple, dMax, dMin, eq_ii, ne_ii, eq_ss, ne_ss, eq_bb, ne_bb, eq_nn, ne_nn, dIsN, dNotN, dFgt, dIsB, dNotB, gN, gT, gsNil, gsCons, gSet, dBM, dAppend, dClear, dFld, dFldS, dProp, dCall, dMeth, dMake, dMakeN, daStar, dDictP, dCallO, dFor, dLc, diR1, diR2, diR3, diL, diT, diRv, diS, diE, dFmt, dFStr, dJs, dCallN, dFrzE, frz_l, in_ss, notin_ss, drR1, drR2, dListR, dRaise, dRaise0, dTryAs, dTry, dXf, dAddO, dInO, isL, insOf, Option.some.injEq, List.cons.injEq, D.int.injEq, D.bl.injEq, D.str.injEq, D.lst.injEq, D.tup.injEq, D.ref.injEq, MO.lst.injEq, MO.ins.injEq, mset_mset, and_true, true_and, and_self, and_assoc, exists_eq_left', exists_eq_left, exists_and_left, exists_and_right, exists_eq', List.set_cons_zero, List.set_cons_succ, decide_eq_true_eq, sqOf, lsOf, List.length_cons, List.length_nil, sizeLine_eq, List.append_nil, List.cons_append, List.nil_append, if_true, if_false, Bool.false_eq_true, reduceCtorEq, reduceIte, Nat.reduceAdd, Nat.reduceLeDiff, mset_same, Option.bind_some, List.length_map, Prod.mk.injEq, at0, at1, at2, at3, at4, at5, at6, at7, ix30, ix31, ix32, ix20, ix21, ix10, isi_ii, isi_ib, isi_ll, isi_bb, isi_ss, isi_tt, isi_is, isi_si, Bool.not_true, Bool.not_false, dCopyK, dGet2K, dDctR, dDisp1, dFrzEK, T.cl_Task, T.n_Task_name, T.n_Task_kind_rows, T.n_Task_arrow_rows, taskD, lk_name, lk_kinds, lk_arrows, putT2, lk2])
local macro_rules | `(tactic| walk_at "z1") => `(tactic| try simp only [dIfS, dTest, dOp, dVar, dC, dCB, daCons, daNil, dSet, dRet, dNext, dDrop, dAsg, dPar, dAug, dAddI, dBreak, dCont, dRetN, slot, dLen, dCmpI, dSub, dAdd, dMul, dDiv, dMod, dPow, dNeg, dUn, dIx, dInt1, dAbs, dChain, dAnd, dOr, dNot, dAndV, dOrV, dNotV, dTru, dTruB, dIf, dTup, dLst, mkL, dSlice, dSl, doNone, doSome, dSum, dAll, dAny, dList, dTuple, dMax, dMin, eq_ii, ne_ii, eq_ss, ne_ss, eq_bb, ne_bb, eq_nn, ne_nn, dIsN, dNotN, dFgt, dIsB, dNotB, gN, gT, gsNil, gsCons, gSet, dBM, dAppend, dClear, dFld, dFldS, dProp, dCall, dMeth, dMake, dMakeN, daStar, dDictP, dCallO, dFor, dLc, diR1, diR2, diR3, diL, diT, diRv, diS, diE, dFmt, dFStr, dJs, dCallN, dFrzE, frz_l, in_ss, notin_ss, drR1, drR2, dListR, dRaise, dRaise0, dTryAs, dTry, dXf, dAddO, dInO, isL, insOf, Option.some.injEq, List.cons.injEq, D.int.injEq, D.bl.injEq, D.str.injEq, D.lst.injEq, D.tup.injEq, D.ref.injEq, MO.lst.injEq, MO.ins.injEq, mset_mset, and_true, true_and, and_self, and_assoc, exists_eq_left', exists_eq_left, exists_and_left, exists_and_right, exists_eq', List.set_cons_zero, List.set_cons_succ, decide_eq_true_eq, sqOf, lsOf, List.length_cons, List.length_nil, sizeLine_eq, List.append_nil, List.cons_append, List.nil_append, if_true, if_false, Bool.false_eq_true, reduceCtorEq, reduceIte, Nat.reduceAdd, Nat.reduceLeDiff, mset_same, Option.bind_some, List.length_map, Prod.mk.injEq, at0, at1, at2, at3, at4, at5, at6, at7, ix30, ix31, ix32, ix20, ix21, ix10, isi_ii, isi_ib, isi_ll, isi_bb, isi_ss, isi_tt, isi_is, isi_si, Bool.not_true, Bool.not_false, dCopyK, dGet2K, dDctR, dDisp1, dFrzEK, T.cl_Task, T.n_Task_name, T.n_Task_kind_rows, T.n_Task_arrow_rows, taskD, lk_name, lk_kinds, lk_arrows, ha, putT1])
local macro_rules | `(tactic| walk_at "z2") => `(tactic| try simp only [dIfS, dTest, dOp, dVar, dC, dCB, daCons, daNil, dSet, dRet, dNext, dDrop, dAsg, dPar, dAug, dAddI, dBreak, dCont, dRetN, slot, dLen, dCmpI, dSub, dAdd, dMul, dDiv, dMod, dPow, dNeg, dUn, dIx, dInt1, dAbs, dChain, dAnd, dOr, dNot, dAndV, dOrV, dNotV, dTru, dTruB, dIf, dTup, dLst, mkL, dSlice, dSl, doNone, doSome, dSum, dAll, dAny, dList, dTuple, dMax, dMin, eq_ii, ne_ii, eq_ss, ne_ss, eq_bb, ne_bb, eq_nn, ne_nn, dIsN, dNotN, dFgt, dIsB, dNotB, gN, gT, gsNil, gsCons, gSet, dBM, dAppend, dClear, dFld, dFldS, dProp, dCall, dMeth, dMake, dMakeN, daStar, dDictP, dCallO, dFor, dLc, diR1, diR2, diR3, diL, diT, diRv, diS, diE, dFmt, dFStr, dJs, dCallN, dFrzE, frz_l, in_ss, notin_ss, drR1, drR2, dListR, dRaise, dRaise0, dTryAs, dTry, dXf, dAddO, dInO, isL, insOf, Option.some.injEq, List.cons.injEq, D.int.injEq, D.bl.injEq, D.str.injEq, D.lst.injEq, D.tup.injEq, D.ref.injEq, MO.lst.injEq, MO.ins.injEq, mset_mset, and_true, true_and, and_self, and_assoc, exists_eq_left', exists_eq_left, exists_and_left, exists_and_right, exists_eq', List.set_cons_zero, List.set_cons_succ, decide_eq_true_eq, sqOf, lsOf, List.length_cons, List.length_nil, sizeLine_eq, List.append_nil, List.cons_append, List.nil_append, if_true, if_false, Bool.false_eq_true, reduceCtorEq, reduceIte, Nat.reduceAdd, Nat.reduceLeDiff, mset_same, Option.bind_some, List.length_map, Prod.mk.injEq, at0, at1, at2, at3, at4, at5, at6, at7, ix30, ix31, ix32, ix20, ix21, ix10, isi_ii, isi_ib, isi_ll, isi_bb, isi_ss, isi_tt, isi_is, isi_si, Bool.not_true, Bool.not_false, dCopyK, dGet2K, dDctR, dDisp1, dFrzEK, T.cl_Task, T.n_Task_name, T.n_Task_kind_rows, T.n_Task_arrow_rows, taskD, lk_name, lk_kinds, lk_arrows])
local macro_rules | `(tactic| walk_at "z3") => `(tactic| try simp only [dIfS, dTest, dOp, dVar, dC, dCB, daCons, daNil, dSet, dRet, dNext, dDrop, dAsg, dPar, dAug, dAddI, dBreak, dCont, dRetN, slot, dLen, dCmpI, dSub, dAdd, dMul, dDiv, dMod, dPow, dNeg, dUn, dIx, dInt1, dAbs, dChain, dAnd, dOr, dNot, dAndV, dOrV, dNotV, dTru, dTruB, dIf, dTup, dLst, mkL, dSlice, dSl, doNone, doSome, dSum, dAll, dAny, dList, dTuple, dMax, dMin, eq_ii, ne_ii, eq_ss, ne_ss, eq_bb, ne_bb, eq_nn, ne_nn, dIsN, dNotN, dFgt, dIsB, dNotB, gN, gT, gsNil, gsCons, gSet, dBM, dAppend, dClear, dFld, dFldS, dProp, dCall, dMeth, dMake, dMakeN, daStar, dDictP, dCallO, dFor, dLc, diR1, diR2, diR3, diL, diT, diRv, diS, diE, dFmt, dFStr, dJs, dCallN, dFrzE, frz_l, in_ss, notin_ss, drR1, drR2, dListR, dRaise, dRaise0, dTryAs, dTry, dXf, dAddO, dInO, isL, insOf, Option.some.injEq, List.cons.injEq, D.int.injEq, D.bl.injEq, D.str.injEq, D.lst.injEq, D.tup.injEq, D.ref.injEq, MO.lst.injEq, MO.ins.injEq, mset_mset, and_true, true_and, and_self, and_assoc, exists_eq_left', exists_eq_left, exists_and_left, exists_and_right, exists_eq', List.set_cons_zero, List.set_cons_succ, decide_eq_true_eq, sqOf, lsOf, List.length_cons, List.length_nil, sizeLine_eq, List.append_nil, List.cons_append, List.nil_append, if_true, if_false, Bool.false_eq_true, reduceCtorEq, reduceIte, Nat.reduceAdd, Nat.reduceLeDiff, mset_same, Option.bind_some, List.length_map, Prod.mk.injEq, at0, at1, at2, at3, at4, at5, at6, at7, ix30, ix31, ix32, ix20, ix21, ix10, isi_ii, isi_ib, isi_ll, isi_bb, isi_ss, isi_tt, isi_is, isi_si, Bool.not_true, Bool.not_false, dCopyK, dGet2K, dDctR, dDisp1, dFrzEK, T.cl_Run, T.n_Run_grain, T.n_Run_placed, runD, lk_grain, lk_placed])
local macro_rules | `(tactic| walk_at "z4") => `(tactic| try simp only [dIfS, dTest, dOp, dVar, dC, dCB, daCons, daNil, dSet, dRet, dNext, dDrop, dAsg, dPar, dAug, dAddI, dBreak, dCont, dRetN, slot, dLen, dCmpI, dSub, dAdd, dMul, dDiv, dMod, dPow, dNeg, dUn, dIx, dInt1, dAbs, dChain, dAnd, dOr, dNot, dAndV, dOrV, dNotV, dTru, dTruB, dIf, dTup, dLst, mkL, dSlice, dSl, doNone, doSome, dSum, dAll, dAny, dList, dTuple, dMax, dMin, eq_ii, ne_ii, eq_ss, ne_ss, eq_bb, ne_bb, eq_nn, ne_nn, dIsN, dNotN, dFgt, dIsB, dNotB, gN, gT, gsNil, gsCons, gSet, dBM, dAppend, dClear, dFld, dFldS, dProp, dCall, dMeth, dMake, dMakeN, daStar, dDictP, dCallO, dFor, dLc, diR1, diR2, diR3, diL, diT, diRv, diS, diE, dFmt, dFStr, dJs, dCallN, dFrzE, frz_l, in_ss, notin_ss, drR1, drR2, dListR, dRaise, dRaise0, dTryAs, dTry, dXf, dAddO, dInO, isL, insOf, Option.some.injEq, List.cons.injEq, D.int.injEq, D.bl.injEq, D.str.injEq, D.lst.injEq, D.tup.injEq, D.ref.injEq, MO.lst.injEq, MO.ins.injEq, mset_mset, and_true, true_and, and_self, and_assoc, exists_eq_left', exists_eq_left, exists_and_left, exists_and_right, exists_eq', List.set_cons_zero, List.set_cons_succ, decide_eq_true_eq, sqOf, lsOf, List.length_cons, List.length_nil, sizeLine_eq, List.append_nil, List.cons_append, List.nil_append, if_true, if_false, Bool.false_eq_true, reduceCtorEq, reduceIte, Nat.reduceAdd, Nat.reduceLeDiff, mset_same, Option.bind_some, List.length_map, Prod.mk.injEq, at0, at1, at2, at3, at4, at5, at6, at7, ix30, ix31, ix32, ix20, ix21, ix10, isi_ii, isi_ib, isi_ll, isi_bb, isi_ss, isi_tt, isi_is, isi_si, Bool.not_true, Bool.not_false, dCopyK, dGet2K, dDctR, dDisp1, dFrzEK, IRow.D, bsD, dGt])
local macro_rules | `(tactic| walk_at "z5") => `(tactic| try simp only [dIfS, dTest, dOp, dVar, dC, dCB, daCons, daNil, dSet, dRet, dNext, dDrop, dAsg, dPar, dAug, dAddI, dBreak, dCont, dRetN, slot, dLen, dCmpI, dSub, dAdd, dMul, dDiv, dMod, dPow, dNeg, dUn, dIx, dInt1, dAbs, dChain, dAnd, dOr, dNot, dAndV, dOrV, dNotV, dTru, dTruB, dIf, dTup, dLst, mkL, dSlice, dSl, doNone, doSome, dSum, dAll, dAny, dList, dTuple, dMax, dMin, eq_ii, ne_ii, eq_ss, ne_ss, eq_bb, ne_bb, eq_nn, ne_nn, dIsN, dNotN, dFgt, dIsB, dNotB, gN, gT, gsNil, gsCons, gSet, dBM, dAppend, dClear, dFld, dFldS, dProp, dCall, dMeth, dMake, dMakeN, daStar, dDictP, dCallO, dFor, dLc, diR1, diR2, diR3, diL, diT, diRv, diS, diE, dFmt, dFStr, dJs, dCallN, dFrzE, frz_l, in_ss, notin_ss, drR1, drR2, dListR, dRaise, dRaise0, dTryAs, dTry, dXf, dAddO, dInO, isL, insOf, Option.some.injEq, List.cons.injEq, D.int.injEq, D.bl.injEq, D.str.injEq, D.lst.injEq, D.tup.injEq, D.ref.injEq, MO.lst.injEq, MO.ins.injEq, mset_mset, and_true, true_and, and_self, and_assoc, exists_eq_left', exists_eq_left, exists_and_left, exists_and_right, exists_eq', List.set_cons_zero, List.set_cons_succ, decide_eq_true_eq, sqOf, lsOf, List.length_cons, List.length_nil, sizeLine_eq, List.append_nil, List.cons_append, List.nil_append, if_true, if_false, Bool.false_eq_true, reduceCtorEq, reduceIte, Nat.reduceAdd, Nat.reduceLeDiff, mset_same, Option.bind_some, List.length_map, Prod.mk.injEq, at0, at1, at2, at3, at4, at5, at6, at7, ix30, ix31, ix32, ix20, ix21, ix10, isi_ii, isi_ib, isi_ll, isi_bb, isi_ss, isi_tt, isi_is, isi_si, Bool.not_true, Bool.not_false, dCopyK, dGet2K, dDctR, dDisp1, dFrzEK, mdel_mset hp])
local macro_rules | `(tactic| walk_at "z6") => `(tactic| try simp only [dIfS, dTest, dOp, dVar, dC, dCB, daCons, daNil, dSet, dRet, dNext, dDrop, dAsg, dPar, dAug, dAddI, dBreak, dCont, dRetN, slot, dLen, dCmpI, dSub, dAdd, dMul, dDiv, dMod, dPow, dNeg, dUn, dIx, dInt1, dAbs, dChain, dAnd, dOr, dNot, dAndV, dOrV, dNotV, dTru, dTruB, dIf, dTup, dLst, mkL, dSlice, dSl, doNone, doSome, dSum, dAll, dAny, dList, dTuple, dMax, dMin, eq_ii, ne_ii, eq_ss, ne_ss, eq_bb, ne_bb, eq_nn, ne_nn, dIsN, dNotN, dFgt, dIsB, dNotB, gN, gT, gsNil, gsCons, gSet, dBM, dAppend, dClear, dFld, dFldS, dProp, dCall, dMeth, dMake, dMakeN, daStar, dDictP, dCallO, dFor, dLc, diR1, diR2, diR3, diL, diT, diRv, diS, diE, dFmt, dFStr, dJs, dCallN, dFrzE, frz_l, in_ss, notin_ss, drR1, drR2, dListR, dRaise, dRaise0, dTryAs, dTry, dXf, dAddO, dInO, isL, insOf, Option.some.injEq, List.cons.injEq, D.int.injEq, D.bl.injEq, D.str.injEq, D.lst.injEq, D.tup.injEq, D.ref.injEq, MO.lst.injEq, MO.ins.injEq, mset_mset, and_true, true_and, and_self, and_assoc, exists_eq_left', exists_eq_left, exists_and_left, exists_and_right, exists_eq', List.set_cons_zero, List.set_cons_succ, decide_eq_true_eq, sqOf, lsOf, List.length_cons, List.length_nil, sizeLine_eq, List.append_nil, List.cons_append, List.nil_append, if_true, if_false, Bool.false_eq_true, reduceCtorEq, reduceIte, Nat.reduceAdd, Nat.reduceLeDiff, mset_same, Option.bind_some, List.length_map, Prod.mk.injEq, at0, at1, at2, at3, at4, at5, at6, at7, ix30, ix31, ix32, ix20, ix21, ix10, isi_ii, isi_ib, isi_ll, isi_bb, isi_ss, isi_tt, isi_is, isi_si, Bool.not_true, Bool.not_false, dCopyK, dGet2K, dDctR, dDisp1, dFrzEK, IRow.D, bsD])
local macro_rules | `(tactic| walk_at "z7") => `(tactic| try simp only [dIfS, dTest, dOp, dVar, dC, dCB, daCons, daNil, dSet, dRet, dNext, dDrop, dAsg, dPar, dAug, dAddI, dBreak, dCont, dRetN, slot, dLen, dCmpI, dSub, dAdd, dMul, dDiv, dMod, dPow, dNeg, dUn, dIx, dInt1, dAbs, dChain, dAnd, dOr, dNot, dAndV, dOrV, dNotV, dTru, dTruB, dIf, dTup, dLst, mkL, dSlice, dSl, doNone, doSome, dSum, dAll, dAny, dList, dTuple, dMax, dMin, eq_ii, ne_ii, eq_ss, ne_ss, eq_bb, ne_bb, eq_nn, ne_nn, dIsN, dNotN, dFgt, dIsB, dNotB, gN, gT, gsNil, gsCons, gSet, dBM, dAppend, dClear, dFld, dFldS, dProp, dCall, dMeth, dMake, dMakeN, daStar, dDictP, dCallO, dFor, dLc, diR1, diR2, diR3, diL, diT, diRv, diS, diE, dFmt, dFStr, dJs, dCallN, dFrzE, frz_l, in_ss, notin_ss, drR1, drR2, dListR, dRaise, dRaise0, dTryAs, dTry, dXf, dAddO, dInO, isL, insOf, Option.some.injEq, List.cons.injEq, D.int.injEq, D.bl.injEq, D.str.injEq, D.lst.injEq, D.tup.injEq, D.ref.injEq, MO.lst.injEq, MO.ins.injEq, mset_mset, and_true, true_and, and_self, and_assoc, exists_eq_left', exists_eq_left, exists_and_left, exists_and_right, exists_eq', List.set_cons_zero, List.set_cons_succ, decide_eq_true_eq, sqOf, lsOf, List.length_cons, List.length_nil, sizeLine_eq, List.append_nil, List.cons_append, List.nil_append, if_true, if_false, Bool.false_eq_true, reduceCtorEq, reduceIte, Nat.reduceAdd, Nat.reduceLeDiff, mset_same, Option.bind_some, List.length_map, Prod.mk.injEq, at0, at1, at2, at3, at4, at5, at6, at7, ix30, ix31, ix32, ix20, ix21, ix10, isi_ii, isi_ib, isi_ll, isi_bb, isi_ss, isi_tt, isi_is, isi_si, Bool.not_true, Bool.not_false, dCopyK, dGet2K, dDctR, dDisp1, dFrzEK, gSeq, gPl])
local macro_rules | `(tactic| walk_at "z8") => `(tactic| try simp only [dIfS, dTest, dOp, dVar, dC, dCB, daCons, daNil, dSet, dRet, dNext, dDrop, dAsg, dPar, dAug, dAddI, dBreak, dCont, dRetN, slot, dLen, dCmpI, dSub, dAdd, dMul, dDiv, dMod, dPow, dNeg, dUn, dIx, dInt1, dAbs, dChain, dAnd, dOr, dNot, dAndV, dOrV, dNotV, dTru, dTruB, dIf, dTup, dLst, mkL, dSlice, dSl, doNone, doSome, dSum, dAll, dAny, dList, dTuple, dMax, dMin, eq_ii, ne_ii, eq_ss, ne_ss, eq_bb, ne_bb, eq_nn, ne_nn, dIsN, dNotN, dFgt, dIsB, dNotB, gN, gT, gsNil, gsCons, gSet, dBM, dAppend, dClear, dFld, dFldS, dProp, dCall, dMeth, dMake, dMakeN, daStar, dDictP, dCallO, dFor, dLc, diR1, diR2, diR3, diL, diT, diRv, diS, diE, dFmt, dFStr, dJs, dCallN, dFrzE, frz_l, in_ss, notin_ss, drR1, drR2, dListR, dRaise, dRaise0, dTryAs, dTry, dXf, dAddO, dInO, isL, insOf, Option.some.injEq, List.cons.injEq, D.int.injEq, D.bl.injEq, D.str.injEq, D.lst.injEq, D.tup.injEq, D.ref.injEq, MO.lst.injEq, MO.ins.injEq, mset_mset, and_true, true_and, and_self, and_assoc, exists_eq_left', exists_eq_left, exists_and_left, exists_and_right, exists_eq', List.set_cons_zero, List.set_cons_succ, decide_eq_true_eq, sqOf, lsOf, List.length_cons, List.length_nil, sizeLine_eq, List.append_nil, List.cons_append, List.nil_append, if_true, if_false, Bool.false_eq_true, reduceCtorEq, reduceIte, Nat.reduceAdd, Nat.reduceLeDiff, mset_same, Option.bind_some, List.length_map, Prod.mk.injEq, at0, at1, at2, at3, at4, at5, at6, at7, ix30, ix31, ix32, ix20, ix21, ix10, isi_ii, isi_ib, isi_ll, isi_bb, isi_ss, isi_tt, isi_is, isi_si, Bool.not_true, Bool.not_false, dCopyK, dGet2K, dDctR, dDisp1, dFrzEK, dSortSc])
local macro_rules | `(tactic| walk_at "z9") => `(tactic| try simp only [dIfS, dTest, dOp, dVar, dC, dCB, daCons, daNil, dSet, dRet, dNext, dDrop, dAsg, dPar, dAug, dAddI, dBreak, dCont, dRetN, slot, dLen, dCmpI, dSub, dAdd, dMul, dDiv, dMod, dPow, dNeg, dUn, dIx, dInt1, dAbs, dChain, dAnd, dOr, dNot, dAndV, dOrV, dNotV, dTru, dTruB, dIf, dTup, dLst, mkL, dSlice, dSl, doNone, doSome, dSum, dAll, dAny, dList, dTuple, dMax, dMin, eq_ii, ne_ii, eq_ss, ne_ss, eq_bb, ne_bb, eq_nn, ne_nn, dIsN, dNotN, dFgt, dIsB, dNotB, gN, gT, gsNil, gsCons, gSet, dBM, dAppend, dClear, dFld, dFldS, dProp, dCall, dMeth, dMake, dMakeN, daStar, dDictP, dCallO, dFor, dLc, diR1, diR2, diR3, diL, diT, diRv, diS, diE, dFmt, dFStr, dJs, dCallN, dFrzE, frz_l, in_ss, notin_ss, drR1, drR2, dListR, dRaise, dRaise0, dTryAs, dTry, dXf, dAddO, dInO, isL, insOf, Option.some.injEq, List.cons.injEq, D.int.injEq, D.bl.injEq, D.str.injEq, D.lst.injEq, D.tup.injEq, D.ref.injEq, MO.lst.injEq, MO.ins.injEq, mset_mset, and_true, true_and, and_self, and_assoc, exists_eq_left', exists_eq_left, exists_and_left, exists_and_right, exists_eq', List.set_cons_zero, List.set_cons_succ, decide_eq_true_eq, sqOf, lsOf, List.length_cons, List.length_nil, sizeLine_eq, List.append_nil, List.cons_append, List.nil_append, if_true, if_false, Bool.false_eq_true, reduceCtorEq, reduceIte, Nat.reduceAdd, Nat.reduceLeDiff, mset_same, Option.bind_some, List.length_map, Prod.mk.injEq, at0, at1, at2, at3, at4, at5, at6, at7, ix30, ix31, ix32, ix20, ix21, ix10, isi_ii, isi_ib, isi_ll, isi_bb, isi_ss, isi_tt, isi_is, isi_si, Bool.not_true, Bool.not_false, dCopyK, dGet2K, dDctR, dDisp1, dFrzEK, Job.D])
local macro_rules | `(tactic| walk_at "z10") => `(tactic| try simp only [dIfS, dTest, dOp, dVar, dC, dCB, daCons, daNil, dSet, dRet, dNext, dDrop, dAsg, dPar, dAug, dAddI, dBreak, dCont, dRetN, slot, dLen, dCmpI, dSub, dAdd, dMul, dDiv, dMod, dPow, dNeg, dUn, dIx, dInt1, dAbs, dChain, dAnd, dOr, dNot, dAndV, dOrV, dNotV, dTru, dTruB, dIf, dTup, dLst, mkL, dSlice, dSl, doNone, doSome, dSum, dAll, dAny, dList, dTuple, dMax, dMin, eq_ii, ne_ii, eq_ss, ne_ss, eq_bb, ne_bb, eq_nn, ne_nn, dIsN, dNotN, dFgt, dIsB, dNotB, gN, gT, gsNil, gsCons, gSet, dBM, dAppend, dClear, dFld, dFldS, dProp, dCall, dMeth, dMake, dMakeN, daStar, dDictP, dCallO, dFor, dLc, diR1, diR2, diR3, diL, diT, diRv, diS, diE, dFmt, dFStr, dJs, dCallN, dFrzE, frz_l, in_ss, notin_ss, drR1, drR2, dListR, dRaise, dRaise0, dTryAs, dTry, dXf, dAddO, dInO, isL, insOf, Option.some.injEq, List.cons.injEq, D.int.injEq, D.bl.injEq, D.str.injEq, D.lst.injEq, D.tup.injEq, D.ref.injEq, MO.lst.injEq, MO.ins.injEq, mset_mset, and_true, true_and, and_self, and_assoc, exists_eq_left', exists_eq_left, exists_and_left, exists_and_right, exists_eq', List.set_cons_zero, List.set_cons_succ, decide_eq_true_eq, sqOf, lsOf, List.length_cons, List.length_nil, sizeLine_eq, List.append_nil, List.cons_append, List.nil_append, if_true, if_false, Bool.false_eq_true, reduceCtorEq, reduceIte, Nat.reduceAdd, Nat.reduceLeDiff, mset_same, Option.bind_some, List.length_map, Prod.mk.injEq, at0, at1, at2, at3, at4, at5, at6, at7, ix30, ix31, ix32, ix20, ix21, ix10, isi_ii, isi_ib, isi_ll, isi_bb, isi_ss, isi_tt, isi_is, isi_si, Bool.not_true, Bool.not_false, dCopyK, dGet2K, dDctR, dDisp1, dFrzEK, gFor])
set_option hygiene true
theorem pure_is_name {K : Fr0} {mg : Str → Option Value} (T : Txt K mg) (ds : List D) (m : M) (Q : D → M → Prop) (E : XD → M → Prop) (h : sp_is_name K ds m Q E) : t_is_name K (fun x _ m => E x m) { nx := fun _ m => Q .non m, rt := Q } (startD nm_is_name ds) m := by
  obtain ⟨z, rfl, hz, q⟩ := h
  show t_is_name K _ _ [some (.str z), none] m
  unfold t_is_name
  walk_at "zn"
  refine ⟨by omega, ?_⟩
  have el : z.length = z.cps.size := rfl
  rw [el] at *
  unfold nameB at q
  by_cases h1 : 1 ≤ z.cps.size
  · rw [if_pos (by omega)]
    by_cases h2 : z.cps.size ≤ 12
    · rw [if_neg (by simp; omega)]
      refine ⟨by omega, ?_⟩
      obtain ⟨c, rest, hl⟩ : ∃ c rest, z.cps.toList = c :: rest := by
        cases e : z.cps.toList with
        | nil =>
          have : z.cps.size = 0 := by rw [← Array.length_toList, e]; rfl
          omega
        | cons c rest => exact ⟨c, rest, rfl⟩
      refine ⟨c, by rw [hl]; exact atI_nat (j := 0) rfl, ?_⟩
      rw [hl] at q
      dsimp only at q
      show (if (!inS LETTERS ⟨#[c]⟩) = true then _ else _)
      cases hc : inS LETTERS ⟨#[c]⟩ with
      | false =>
        rw [if_pos (by simp)]
        simpa [hc] using q
      | true =>
        rw [if_neg (by simp)]
        refine lc_pure (fun d => match d with | .str i => .bl (inS LETTERS i || inS SIGNS i) | _ => .non) (by rw [chars_len, sizeLine_eq]; simp; omega) (fun x hx => ?_) ?_
        · obtain ⟨c2, hc2, rfl⟩ := List.mem_map.mp hx
          refine ⟨_, rfl, fun Q' q' => ?_⟩
          simp only [wipeD]
          walk_at "zs"
          show (if inS LETTERS ⟨#[c2]⟩ = true then Q' (.bl true) m else Q' (.bl (inS SIGNS ⟨#[c2]⟩)) m)
          cases hc3 : inS LETTERS ⟨#[c2]⟩ with
          | true => rw [if_pos rfl]; simpa [hc3] using q'
          | false => rw [if_neg (by simp)]; simpa [hc3] using q'
        · refine ⟨(c :: rest).map fun c => inS LETTERS ⟨#[c]⟩ || inS SIGNS ⟨#[c]⟩, ?_, ?_⟩
          · unfold chars
            rw [hl, List.nil_append, List.map_map, List.map_map]
            rfl
          · rw [List.all_map]
            rw [hc, decide_eq_true ⟨h1, h2⟩, Bool.true_and, Bool.true_and] at q
            exact q
    · rw [if_pos (by simp; omega)]
      rw [decide_eq_false (by omega), Bool.false_and, Bool.false_and] at q
      exact q
  · rw [if_neg (by omega)]
    rw [decide_eq_false (by omega), Bool.false_and, Bool.false_and] at q
    exact q
def chL (c : Nat) : Bool := inS LETTERS ⟨#[c]⟩
def chOk (c : Nat) : Bool := inS LETTERS ⟨#[c]⟩ || inS SIGNS ⟨#[c]⟩
structure NmL (cs : List Nat) : Prop where
  le : cs.length ≤ 12
  hd : ∃ c r, cs = c :: r ∧ chL c = true
  all : ∀ c ∈ cs, chOk c = true
theorem nameB_of {z : Str} (h : NmL z.cps.toList) : nameB z = true := by
  obtain ⟨c, r, e, hc⟩ := h.hd
  unfold nameB
  have hl : z.cps.size = z.cps.toList.length := (Array.length_toList).symm
  have h1 := h.le
  have h2 : z.cps.toList.length = r.length + 1 := by rw [e]; rfl
  have h3 : (z.cps.toList.all fun c => inS LETTERS ⟨#[c]⟩ || inS SIGNS ⟨#[c]⟩) = true := List.all_eq_true.mpr h.all
  rw [h3, decide_eq_true ⟨by omega, by omega⟩, e]
  show (true && chL c && true) = true
  rw [hc]
  rfl
theorem of_nameB {z : Str} (h : nameB z = true) : NmL z.cps.toList := by
  unfold nameB at h
  rw [Bool.and_eq_true, Bool.and_eq_true] at h
  obtain ⟨⟨h1, h2⟩, h3⟩ := h
  have h1 := of_decide_eq_true h1
  refine ⟨by rw [Array.length_toList]; exact h1.2, ?_, List.all_eq_true.mp h3⟩
  cases e : z.cps.toList with
  | nil => rw [e] at h2; cases h2
  | cons c r => rw [e] at h2; exact ⟨c, r, rfl, h2⟩
theorem cps_app (x y : Str) : (x ++ y).cps.toList = x.cps.toList ++ y.cps.toList := by
  show (x.cps ++ y.cps).toList = _
  simp
theorem cps_cut (z : Str) (lo hi : Option Int) : (cutS z lo hi).cps.toList = (z.cps.toList.drop (HT.sIx z.length 0 lo)).take (HT.sIx z.length z.length hi - HT.sIx z.length 0 lo) := rfl
theorem notin_strs {x : Str} {zs : List Str} {m : M} {d : D} {Q : D → M → Prop} (hd : sqOf m d = some (zs.map D.str)) (q : Q (.bl (!decide (x ∈ zs))) m) : dIn true (.str x) d m Q := by
  cases d with
  | str j => cases hd
  | _ => exact ⟨_, hd, rfl, flat_strs zs, by rw [inD_strs]; exact q⟩
theorem nm_len {z : Str} (h : nameB z = true) : z.length ≤ 12 := by
  have := (of_nameB h).le
  rw [Array.length_toList] at this
  exact this
theorem ch_lt {c : Nat} (h : chOk c = true) : c < 0x110000 := by
  unfold chOk inS at h
  rw [PySem.StrLaws.found_one, PySem.StrLaws.found_one, Bool.or_eq_true, decide_eq_true_eq, decide_eq_true_eq] at h
  have h1 : ∀ c ∈ LETTERS.cps.toList, c < 0x110000 := by decide +kernel
  have h2 : ∀ c ∈ SIGNS.cps.toList, c < 0x110000 := by decide +kernel
  rcases h with h | h
  · exact h1 c h
  · exact h2 c h
theorem nm_ok {z : Str} (h : nameB z = true) : PyData.strOk z = true := by
  unfold PyData.strOk
  rw [← Array.all_toList, List.all_eq_true]
  intro c hc
  exact decide_eq_true (ch_lt ((of_nameB h).all c hc))
theorem cl_nm {n : Nat} {z : Str} (h : nameB z = true) : clB n (.str z) = true := by
  have e := nm_ok h
  cases n <;> exact e
theorem cut_to (z : Str) (k : Nat) : (cutS z none (some (k : Int))).cps.toList = z.cps.toList.take k := by
  rw [cps_cut, HT.sIx_none, HT.sIx_nat, List.drop_zero, Nat.sub_zero]
  show List.take (min k z.cps.size) z.cps.toList = _
  rw [← Array.length_toList, List.take_eq_take_iff]
  simp
theorem cut_fro (z : Str) (k : Nat) : (cutS z (some (k : Int)) none).cps.toList = z.cps.toList.drop k := by
  rw [cps_cut, HT.sIx_none, HT.sIx_nat]
  show List.take (z.cps.size - min k z.cps.size) (List.drop (min k z.cps.size) z.cps.toList) = _
  have hl : z.cps.size = z.cps.toList.length := (Array.length_toList).symm
  rw [hl]
  by_cases h : k ≤ z.cps.toList.length
  · rw [Nat.min_eq_left h]
    exact List.take_of_length_le (by simp)
  · rw [Nat.min_eq_right (by omega), List.drop_length, List.drop_eq_nil_of_le (by omega)]
    simp
theorem app_len (x y : Str) : (x ++ y).length = x.length + y.length := by
  show (x.cps ++ y.cps).size = _
  rw [Array.size_append]
  rfl
theorem pure_need_name {K : Fr0} {mg : Str → Option Value} (T : Txt K mg) (ds : List D) (m : M) (Q : D → M → Prop) (E : XD → M → Prop) (h : sp_need_name K ds m Q E) : t_need_name K (fun x _ m => E x m) { nx := fun _ m => Q .non m, rt := Q } (startD nm_need_name ds) m := by
  obtain ⟨z, rfl, hz, hn, q⟩ := h
  show t_need_name K _ _ [some (.str z)] m
  unfold t_need_name
  walk_at "zs"
  refine ⟨z, rfl, hz, ?_⟩
  walk_at "zs"
  rw [hn]
  walk_at "zs"
  exact q
theorem pure_need_range {K : Fr0} {mg : Str → Option Value} (T : Txt K mg) (ds : List D) (m : M) (Q : D → M → Prop) (E : XD → M → Prop) (h : sp_need_range K ds m Q E) : t_need_range K (fun x _ m => E x m) { nx := fun _ m => Q .non m, rt := Q } (startD nm_need_range ds) m := by
  obtain ⟨x, v, lo, hi, rfl, h1, h2, q⟩ := h
  show t_need_range K _ _ [some x, some (.int v), some (.int lo), some (.int hi)] m
  unfold t_need_range
  walk_at "zs"
  rw [if_neg (by omega), if_neg (by omega)]
  exact q
def at0D : D → D
  | .tup (x :: _) => x
  | _ => .non
theorem at0_ks (ks : List Knd) : (ks.map Knd.D).map at0D = (names ks).map D.str := by
  rw [List.map_map, List.map_map]
  rfl
theorem pure_need_kind {K : Fr0} {mg : Str → Option Value} (T : Txt K mg) (ds : List D) (m : M) (Q : D → M → Prop) (E : XD → M → Prop) (h : sp_need_kind K ds m Q E) : t_need_kind K (fun x _ m => E x m) { nx := fun _ m => Q .non m, rt := Q } (startD nm_need_kind ds) m := by
  obtain ⟨z, ks, rfl, hz, hl, q⟩ := h
  show t_need_kind K _ _ [some (.str z), some (ksD ks), none] m
  unfold t_need_kind
  walk_at "zs"
  refine lc_pure at0D (by rw [sizeLine_eq]; simp; omega) (fun x hx => ?_) ?_
  · obtain ⟨k, hk, rfl⟩ := List.mem_map.mp hx
    refine ⟨_, rfl, fun Q' q' => ?_⟩
    simp only [wipeD, Knd.D]
    walk_at "zs"
    exact q'
  · rw [List.nil_append, at0_ks]
    refine notin_strs rfl ?_
    walk_at "zs"
    rw [if_neg (by simpa using hz)]
    exact q
theorem take_succ' {α : Type} {l : List α} {j : Nat} {a : α} (h : l[j]? = some a) : l.take (j + 1) = l.take j ++ [a] := by
  rw [List.take_add_one, h]
  rfl
theorem map_at {α β : Type} {f : α → β} {l : List α} {j : Nat} {d : β} (h : (l.map f)[j]? = some d) : ∃ a, l[j]? = some a ∧ d = f a := by
  rw [List.getElem?_map] at h
  cases e : l[j]? with
  | none => rw [e] at h; cases h
  | some a => rw [e] at h; cases h; exact ⟨a, rfl, rfl⟩
theorem nodup_take {α : Type} : ∀ {l : List α} {j : Nat} {a : α}, l.Nodup → l[j]? = some a → a ∉ l.take j
  | [], _, _, _, h => by cases h
  | x :: l, 0, a, _, _ => by simp
  | x :: l, j + 1, a, nd, h => by
    obtain ⟨n1, n2⟩ := List.nodup_cons.mp nd
    have h2 : l[j]? = some a := h
    have ih := nodup_take n2 h2
    rw [List.take_succ_cons, List.mem_cons]
    rintro (rfl | hm)
    · exact n1 (List.mem_of_getElem? h2)
    · exact ih hm
theorem mem_at {α : Type} {l : List α} {j : Nat} {a : α} (h : l[j]? = some a) : a ∈ l := List.mem_of_getElem? h
theorem len_at {α : Type} {l : List α} {j : Nat} {a : α} (h : l[j]? = some a) : j < l.length := (List.getElem?_eq_some_iff.mp h).1
theorem lc_mapD {α : Type} {g : α → D} {l : List α} {c : CT} {vs : List Nat} {te : DTE} {r : DSt} {m : M} {Q : List D → M → Prop} {f : α → D} (hz : l.length ≤ sizeLine) (h : ∀ a ∈ l, ∃ r2, ctD c (g a) (wipeD r vs) = some r2 ∧ ∀ Q' : D → M → Prop, Q' (f a) m → te r2 m Q') (q : Q (l.map f) m) : dLcL c vs dYes te (l.map g) [] r m Q := by
  have go : ∀ (l : List α) (acc : List D), acc.length + l.length ≤ sizeLine → (∀ a ∈ l, ∃ r2, ctD c (g a) (wipeD r vs) = some r2 ∧ ∀ Q' : D → M → Prop, Q' (f a) m → te r2 m Q') → Q (acc ++ l.map f) m → dLcL c vs dYes te (l.map g) acc r m Q := by
    intro l
    induction l with
    | nil => intro acc _ _ q; exact (by simpa using q : Q acc m)
    | cons a l ih =>
      intro acc hz h q
      obtain ⟨r2, e, t⟩ := h a List.mem_cons_self
      rw [List.length_cons] at hz
      refine ⟨r2, e, ?_⟩
      simp only [dYes, if_true]
      refine t _ ⟨by omega, ih _ (by rw [List.length_append]; simp; omega) (fun b hb => h b (List.mem_cons_of_mem _ hb)) ?_⟩
      rw [List.append_assoc]
      exact q
  exact go l [] (by simpa using hz) h (by simpa using q)
theorem lc_filterD {α : Type} {g : α → D} {l : List α} {c : CT} {vs : List Nat} {tt : DTT} {te : DTE} {r : DSt} {m : M} {Q : List D → M → Prop} {p : α → Bool} {f : α → D} (hz : l.length ≤ sizeLine) (h : ∀ a ∈ l, ∃ r2, ctD c (g a) (wipeD r vs) = some r2 ∧ (∀ Q' : Bool → M → Prop, Q' (p a) m → tt r2 m Q') ∧ (p a = true → ∀ Q' : D → M → Prop, Q' (f a) m → te r2 m Q')) (q : Q ((l.filter p).map f) m) : dLcL c vs tt te (l.map g) [] r m Q := by
  have go : ∀ (l : List α) (acc : List D), acc.length + l.length ≤ sizeLine → (∀ a ∈ l, ∃ r2, ctD c (g a) (wipeD r vs) = some r2 ∧ (∀ Q' : Bool → M → Prop, Q' (p a) m → tt r2 m Q') ∧ (p a = true → ∀ Q' : D → M → Prop, Q' (f a) m → te r2 m Q')) → Q (acc ++ (l.filter p).map f) m → dLcL c vs tt te (l.map g) acc r m Q := by
    intro l
    induction l with
    | nil => intro acc _ _ q; exact (by simpa using q : Q acc m)
    | cons a l ih =>
      intro acc hz h q
      obtain ⟨r2, e, t1, t2⟩ := h a List.mem_cons_self
      rw [List.length_cons] at hz
      refine ⟨r2, e, t1 _ ?_⟩
      rw [List.filter_cons] at q
      cases hp : p a with
      | false =>
        rw [hp] at q
        rw [if_neg (by simp)]
        exact ih acc (by omega) (fun b hb => h b (List.mem_cons_of_mem _ hb)) q
      | true =>
        rw [hp, if_pos rfl] at q
        rw [if_pos rfl]
        refine t2 hp _ ⟨by omega, ih _ (by rw [List.length_append]; simp; omega) (fun b hb => h b (List.mem_cons_of_mem _ hb)) ?_⟩
        rw [List.append_assoc]
        exact q
  exact go l [] (by simpa using hz) h (by simpa using q)
theorem pure_checked_kinds {K : Fr0} {mg : Str → Option Value} (T : Txt K mg) (ds : List D) (m : M) (Q : D → M → Prop) (E : XD → M → Prop) (h : sp_checked_kinds K ds m Q E) : t_checked_kinds K (fun x _ m => E x m) { nx := fun _ m => Q .non m, rt := Q } (startD nm_checked_kinds ds) m := by
  obtain ⟨ks, b, rfl, ok, hl, q⟩ := h
  show t_checked_kinds K _ _ [some (ksD ks), some (.bl b), none, none, none, none, none, none, none] m
  unfold t_checked_kinds
  simp only [dSeq]
  have e : ∀ (DD : DEnds) (r : DSt), (DD.nx ((r.set 2 (some (.int (if b = true then 9 else 99)))).set 3 (some (.int (if b = true then 24 else 99)))) m) → slot r 1 = some (.bl b) → dAsg (dIf (dTru (dVar 1)) (dTup (daCons (dC (.int 9)) (daCons (dC (.int 24)) daNil))) (dTup (daCons (dC (.int 99)) (daCons (dC (.int 99)) daNil)))) (gT 2 (gsCons (gN 2) (gsCons (gN 3) gsNil))) DD r m := by
    intro DD r h h1
    walk_at "zs"
    rw [h1]
    walk_at "zs"
    cases b <;> exact h
  refine e _ _ ?_ rfl
  clear e
  walk_at "zn"
  intro p hp
  walk_at "zn"
  obtain ⟨P1, hP1⟩ : ∃ P : Nat → DSt → M → Prop, ∀ j r m', P j r m' ↔ (m' = mset m p (.lst ((ks.take j).map Knd.D)) ∧ ∃ o5 o6 o7 o8, r = [some (ksD ks), some (.bl b), some (.int (if b = true then 9 else 99)), some (.int (if b = true then 24 else 99)), some (.ref p), o5, o6, o7, o8]) := ⟨_, fun _ _ _ => Iff.rfl⟩
  refine ⟨P1, (hP1 _ _ _).mpr ⟨rfl, _, _, _, _, rfl⟩, ?_, ?_⟩
  · intro j d r m' hd hp1
    obtain ⟨rfl, o5, o6, o7, o8, rfl⟩ := (hP1 _ _ _).mp hp1
    obtain ⟨k, hk, rfl⟩ := map_at hd
    have hm := mem_at hk
    have hj := len_at hk
    have nk := ok.nm k hm
    have zk := nm_len nk
    have ck := ok.c k hm
    have dk := ok.d k hm
    simp only [Knd.D]
    walk_at "zn"
    refine ⟨k.n, rfl, by omega, nk, ?_⟩
    walk_at "zn"
    refine lcM_pure (a := p) (xs := (ks.take j).map Knd.D) at0D (fun Q' q' => ⟨_, rfl, q'⟩) mset_same (by rw [sizeLine_eq]; simp; omega) (fun x hx => ?_) ?_
    · obtain ⟨k2, hk2, rfl⟩ := List.mem_map.mp hx
      refine ⟨_, rfl, fun Q' q' => ?_⟩
      simp only [wipeD, Knd.D]
      walk_at "zs"
      exact q'
    · simp only [mkL]
      rw [at0_ks]
      refine in_strs rfl ?_
      walk_at "zs"
      have hn : k.n ∉ names (ks.take j) := by
        have := nodup_take (l := names ks) (j := j) ok.nd (by rw [List.getElem?_map, hk]; rfl)
        rw [← List.map_take] at this
        exact this
      rw [if_neg hn]
      walk_at "zn"
      refine ⟨_, k.c, 1, _, rfl, ck.1, ck.2, ?_⟩
      walk_at "zn"
      refine ⟨_, k.d, 1, _, rfl, dk.1, dk.2, ?_⟩
      walk_at "zs"
      refine ⟨by simp; omega, (hP1 _ _ _).mpr ⟨?_, _, _, _, _, rfl⟩⟩
      rw [take_succ' hk, List.map_append]
      rfl
  · intro r m' hp1
    obtain ⟨rfl, o5, o6, o7, o8, rfl⟩ := (hP1 _ _ _).mp hp1
    rw [List.length_map, List.take_length]
    walk_at "z5"
    exact q
theorem Arr.cl (a : Arr) {n : Nat} (h1 : nameB a.f = true) (h2 : nameB a.s = true) : clB (n + 1) (.tup [.str a.f, .str a.s]) = true := by
  show ([D.str a.f, D.str a.s].all (clB n)) = true
  simp [cl_nm h1, cl_nm h2]
def at01D : D → D
  | .tup (x :: y :: _) => .tup [x, y]
  | _ => .non
def Arr.P (a : Arr) : DL.D := .tup [.str a.f, .str a.s]
theorem at01_as (as : List Arr) : (as.map Arr.D).map at01D = as.map Arr.P := by
  rw [List.map_map]
  rfl
theorem ArrP_mem {a : Arr} {as : List Arr} : Arr.P a ∈ as.map Arr.P ↔ (a.f, a.s) ∈ as.map fun a => (a.f, a.s) := by
  constructor
  · intro h
    obtain ⟨b, hb, e⟩ := List.mem_map.mp h
    unfold Arr.P at e
    injection e with e
    injection e with e1 e2
    injection e2 with e2 _
    injection e1 with e1
    injection e2 with e2
    exact List.mem_map.mpr ⟨b, hb, by rw [e1, e2]⟩
  · intro h
    obtain ⟨b, hb, e⟩ := List.mem_map.mp h
    refine List.mem_map.mpr ⟨b, hb, ?_⟩
    injection e with e1 e2
    unfold Arr.P
    rw [e1, e2]
theorem pure_checked_arrows {K : Fr0} {mg : Str → Option Value} (T : Txt K mg) (ds : List D) (m : M) (Q : D → M → Prop) (E : XD → M → Prop) (h : sp_checked_arrows K ds m Q E) : t_checked_arrows K (fun x _ m => E x m) { nx := fun _ m => Q .non m, rt := Q } (startD nm_checked_arrows ds) m := by
  obtain ⟨as, x, ks, rfl, hx, ok, hl, hk, hnm, q⟩ := h
  show t_checked_arrows K _ _ [some x, some (ksD ks), none, none, none, none, none] m
  unfold t_checked_arrows
  walk_at "zn"
  intro p hp
  simp only [dSeq]
  have hF : ∀ (g : DTG) (tb : DTS) (DD : DEnds) (m : M), dLoopI g tb (as.map Arr.D) DD [some x, some (ksD ks), some (.ref p), none, none, none, none] m → dFor (diQ (dVar 0)) g tb DD [some x, some (ksD ks), some (.ref p), none, none, none, none] m := by
    intro g tb DD m h
    show diQ (dVar 0) _ _ _
    refine ⟨x, rfl, ?_⟩
    cases x with
    | lst xs => cases hx; exact h
    | tup xs => cases hx; exact h
    | _ => cases hx
  refine hF _ _ _ _ ?_
  obtain ⟨P1, hP1⟩ : ∃ P : Nat → DSt → M → Prop, ∀ j r m', P j r m' ↔ (m' = mset m p (.lst ((as.take j).map Arr.D)) ∧ ∃ o3 o4 o5 o6, r = [some x, some (ksD ks), some (.ref p), o3, o4, o5, o6]) := ⟨_, fun _ _ _ => Iff.rfl⟩
  refine ⟨P1, (hP1 _ _ _).mpr ⟨rfl, _, _, _, _, rfl⟩, ?_, ?_⟩
  · intro j d r m' hd hp1
    obtain ⟨rfl, o3, o4, o5, o6, rfl⟩ := (hP1 _ _ _).mp hp1
    obtain ⟨a, ha, rfl⟩ := map_at hd
    have hm := mem_at ha
    have hj := len_at ha
    have gk := ok.g a hm
    have hf := ok.f a hm
    have hs := ok.s a hm
    have nmA : ∀ b ∈ as, nameB b.f = true ∧ nameB b.s = true := fun b hb => ⟨hnm _ (ok.f b hb), hnm _ (ok.s b hb)⟩
    simp only [Arr.D]
    walk_at "zn"
    refine ⟨a.f, ks, rfl, hf, hk, ?_⟩
    walk_at "zn"
    refine ⟨a.s, ks, rfl, hs, hk, ?_⟩
    walk_at "zn"
    refine ⟨_, a.g, 1, _, rfl, gk.1, gk.2, ?_⟩
    walk_at "zn"
    refine lcM_pure (a := p) (xs := (as.take j).map Arr.D) at01D (fun Q' q' => ⟨_, rfl, q'⟩) mset_same (by rw [sizeLine_eq]; simp; omega) (fun x hx => ?_) ?_
    · obtain ⟨k2, hk2, rfl⟩ := List.mem_map.mp hx
      refine ⟨_, rfl, fun Q' q' => ?_⟩
      simp only [wipeD, Arr.D]
      walk_at "zs"
      exact q'
    · simp only [mkL]
      rw [at01_as]
      refine dInD_data (n := 1) (x := Arr.P a) (ys := (as.take j).map Arr.P) (by omega) (Arr.cl a (nmA a hm).1 (nmA a hm).2) rfl rfl ?_ (fun b hb => ?_)
      · rw [List.all_map, List.all_eq_true]
        intro b hb
        have := nmA b (List.mem_of_mem_take hb)
        exact Arr.cl b this.1 this.2
      have hb2 : b = false := by
        have : Arr.P a ∉ (as.take j).map Arr.P := by
          rw [ArrP_mem]
          have := nodup_take (j := j) ok.nd (a := (a.f, a.s)) (by rw [List.getElem?_map, ha]; rfl)
          rw [← List.map_take] at this
          exact this
        cases b with
        | true => exact absurd (hb.mp rfl) this
        | false => rfl
      rw [hb2]
      walk_at "zs"
      refine ⟨by simp; omega, (hP1 _ _ _).mpr ⟨?_, _, _, _, _, rfl⟩⟩
      rw [take_succ' ha, List.map_append]
      rfl
  · intro r m' hp1
    obtain ⟨rfl, o3, o4, o5, o6, rfl⟩ := (hP1 _ _ _).mp hp1
    rw [List.length_map, List.take_length]
    walk_at "z5"
    exact q
theorem putT2 {a b : D} : putD "kind_rows" b [(("name" : Str), a)] = [(("name" : Str), a), ("kind_rows", b)] := rfl
theorem putT1 {a : D} : putD "name" a [] = [(("name" : Str), a)] := rfl
theorem lk2 {a b : D} : [(("name" : Str), a), ("kind_rows", b)].lookup ("kind_rows" : Str) = some b := rfl
section
variable {t : Tsk}
theorem lk_name : (taskF t).lookup ("name" : Str) = some (.str t.nm) := rfl
theorem lk_kinds : (taskF t).lookup ("kind_rows" : Str) = some (ksD t.ks) := rfl
theorem lk_arrows : (taskF t).lookup ("arrow_rows" : Str) = some (asD t.as) := rfl
end
theorem Tsk.Ok.nms {t : Tsk} (h : t.Ok) : ∀ z ∈ names t.ks, nameB z = true := fun z hz => by
  obtain ⟨k, hk, rfl⟩ := List.mem_map.mp hz
  exact h.ks.nm k hk
theorem sq0_len {m : M} {x : D} {xs : List D} (h : sq0 x = some xs) : x = .lst xs ∨ x = .tup xs := by
  cases x with
  | lst ys => cases h; exact .inl rfl
  | tup ys => cases h; exact .inr rfl
  | _ => cases h
theorem pure_Task_init {K : Fr0} {mg : Str → Option Value} (T : Txt K mg) (ds : List D) (m : M) (Q : D → M → Prop) (E : XD → M → Prop) (h : sp_Task_init K ds m Q E) : t_Task_init K (fun x _ m => E x m) { nx := fun _ m => Q .non m, rt := Q } (startD nm_Task_init ds) m := by
  obtain ⟨a, t, x, rfl, hx, ha, ok, q⟩ := h
  have z := nm_len ok.nm
  have k1 := ok.k1
  have k4 := ok.k4
  have a12 := ok.a12
  rcases sq0_len (m := m) hx with rfl | rfl
  · show t_Task_init K _ _ [some (.ref a), some (.str t.nm), some (ksD t.ks), some (.lst (t.as.map Arr.D))] m
    unfold t_Task_init
    walk_at "zn"
    refine ⟨t.nm, rfl, by omega, ok.nm, ?_⟩
    walk_at "zn"
    rw [if_pos (by omega), if_neg (by simp; omega)]
    walk_at "zn"
    rw [if_neg (by omega)]
    try simp only [dSeq]
    walk_at "z1"
    try simp only [dSeq]
    walk_at "z0"
    refine ⟨by omega, t.ks, _, rfl, by have := ok.ks; simpa using this, by omega, ?_⟩
    refine ⟨_, _, mset_same, T.cl_Task, T.n_Task_kind_rows, by simp, T.cl_Task, T.n_Task_kind_rows, _, rfl, ?_⟩
    refine ⟨t.as, _, t.ks, rfl, rfl, ok.as, by omega, by omega, ok.nms, ?_⟩
    rw [mset_mset]
    refine ⟨_, _, mset_same, T.cl_Task, T.n_Task_arrow_rows, by show 2 < 1000; omega, ?_⟩
    rw [mset_mset]
    exact q
  · show t_Task_init K _ _ [some (.ref a), some (.str t.nm), some (ksD t.ks), some (.tup (t.as.map Arr.D))] m
    unfold t_Task_init
    walk_at "zn"
    refine ⟨t.nm, rfl, by omega, ok.nm, ?_⟩
    walk_at "zn"
    rw [if_pos (by omega), if_neg (by simp; omega)]
    walk_at "zn"
    rw [if_neg (by omega)]
    try simp only [dSeq]
    walk_at "z1"
    try simp only [dSeq]
    walk_at "z0"
    refine ⟨by omega, t.ks, _, rfl, by have := ok.ks; simpa using this, by omega, ?_⟩
    refine ⟨_, _, mset_same, T.cl_Task, T.n_Task_kind_rows, by simp, T.cl_Task, T.n_Task_kind_rows, _, rfl, ?_⟩
    refine ⟨t.as, _, t.ks, rfl, rfl, ok.as, by omega, by omega, ok.nms, ?_⟩
    rw [mset_mset]
    refine ⟨_, _, mset_same, T.cl_Task, T.n_Task_arrow_rows, by show 2 < 1000; omega, ?_⟩
    rw [mset_mset]
    exact q
theorem none_Task_init {K : Fr0} : ∀ ds m Q E, sp_Task_init K ds m Q E → sp_Task_init K ds m (fun d m' => d = .non ∧ Q d m') E := by
  rintro ds m Q E ⟨a, t, x, rfl, hx, ha, ok, q⟩
  exact ⟨a, t, x, rfl, hx, ha, ok, rfl, q⟩
theorem kOf_is {t : Tsk} (ok : t.Ok) {k : Knd} (hk : k ∈ t.ks) : kOf t k.n = k := by
  unfold kOf
  cases e : t.ks.find? (fun x => decide (x.n = k.n)) with
  | none =>
    have := List.find?_eq_none.mp e k hk
    simp at this
  | some x =>
    have h1 := List.mem_of_find?_eq_some e
    have h2 : x.n = k.n := by simpa using List.find?_some e
    obtain ⟨i, hi⟩ := List.mem_iff_getElem?.mp h1
    obtain ⟨j, hj⟩ := List.mem_iff_getElem?.mp hk
    have e1 : (names t.ks)[i]? = some x.n := by rw [List.getElem?_map, hi]; rfl
    have e2 : (names t.ks)[j]? = some k.n := by rw [List.getElem?_map, hj]; rfl
    have ij : i = j := (List.getElem?_inj (by rw [List.length_map]; exact len_at hi) ok.ks.nd).mp (by rw [e1, e2, h2])
    subst ij
    rw [hi] at hj
    cases hj
    rfl
theorem known {t : Tsk} {z : Str} (h : z ∈ names t.ks) : ∃ k ∈ t.ks, k.n = z := by
  obtain ⟨k, hk, e⟩ := List.mem_map.mp h
  exact ⟨k, hk, e⟩
theorem pure_Task_row_of {K : Fr0} {mg : Str → Option Value} (T : Txt K mg) (ds : List D) (m : M) (Q : D → M → Prop) (E : XD → M → Prop) (h : sp_Task_row_of K ds m Q E) : t_Task_row_of K (fun x _ m => E x m) { nx := fun _ m => Q .non m, rt := Q } (startD nm_Task_row_of ds) m := by
  obtain ⟨t, x, z, rfl, rfl, ok, q, qe⟩ := h
  show t_Task_row_of K _ _ [some (taskD K t), some (.str z), none] m
  unfold t_Task_row_of
  try simp only [dSeq]
  walk_at "z2"
  obtain ⟨P1, hP1⟩ : ∃ P : Nat → DSt → M → Prop, ∀ j r m', P j r m' ↔ (m' = m ∧ (∀ i k, i < j → t.ks[i]? = some k → k.n ≠ z) ∧ ∃ o2, r = [some (taskD K t), some (.str z), o2]) := ⟨_, fun _ _ _ => Iff.rfl⟩
  refine ⟨P1, (hP1 _ _ _).mpr ⟨rfl, fun i k h => absurd h (Nat.not_lt_zero _), _, rfl⟩, ?_, ?_⟩
  · intro j d r m' hd hp1
    obtain ⟨rfl, hn, o2, rfl⟩ := (hP1 _ _ _).mp hp1
    obtain ⟨k, hk, rfl⟩ := map_at hd
    simp only [Knd.D]
    walk_at "zs"
    by_cases e : k.n = z
    · rw [if_pos e]
      exact q k (mem_at hk) e
    · rw [if_neg e]
      refine (hP1 _ _ _).mpr ⟨rfl, fun i k2 hi h2 => ?_, _, rfl⟩
      by_cases hij : i = j
      · subst hij
        rw [hk] at h2
        cases h2
        exact e
      · exact hn i k2 (by omega) h2
  · intro r m' hp1
    obtain ⟨rfl, hn, o2, rfl⟩ := (hP1 _ _ _).mp hp1
    rw [List.length_map] at hn
    walk_at "zs"
    refine qe fun hz => ?_
    obtain ⟨k, hk, e⟩ := known hz
    obtain ⟨i, hi⟩ := List.mem_iff_getElem?.mp hk
    exact hn i k (len_at hi) hi e
theorem pure_Task_cost_of {K : Fr0} {mg : Str → Option Value} (T : Txt K mg) (ds : List D) (m : M) (Q : D → M → Prop) (E : XD → M → Prop) (h : sp_Task_cost_of K ds m Q E) : t_Task_cost_of K (fun x _ m => E x m) { nx := fun _ m => Q .non m, rt := Q } (startD nm_Task_cost_of ds) m := by
  obtain ⟨t, x, z, rfl, rfl, ok, q, qe⟩ := h
  show t_Task_cost_of K _ _ [some (taskD K t), some (.str z)] m
  unfold t_Task_cost_of
  walk_at "z2"
  refine ⟨rfl, t, _, z, rfl, rfl, ok, fun k hk e => ?_, qe⟩
  simp only [Knd.D]
  walk_at "zs"
  exact q k hk e
theorem pure_Task_deadline_of {K : Fr0} {mg : Str → Option Value} (T : Txt K mg) (ds : List D) (m : M) (Q : D → M → Prop) (E : XD → M → Prop) (h : sp_Task_deadline_of K ds m Q E) : t_Task_deadline_of K (fun x _ m => E x m) { nx := fun _ m => Q .non m, rt := Q } (startD nm_Task_deadline_of ds) m := by
  obtain ⟨t, x, z, rfl, rfl, ok, q, qe⟩ := h
  show t_Task_deadline_of K _ _ [some (taskD K t), some (.str z)] m
  unfold t_Task_deadline_of
  walk_at "z2"
  refine ⟨rfl, t, _, z, rfl, rfl, ok, fun k hk e => ?_, qe⟩
  simp only [Knd.D]
  walk_at "zs"
  exact q k hk e
theorem foll_eq (t : Tsk) (z : Str) : List.map (fun d => match d with | .tup [_, x, y] => D.tup [x, y] | _ => .non) (List.filter (fun d => match d with | .tup [.str x, _, _] => decide (x = z) | _ => false) (t.as.map Arr.D)) = (foll t z).map folD := by
  unfold foll
  rw [List.filter_map, List.map_map]
  rfl
theorem pure_Task_followers {K : Fr0} {mg : Str → Option Value} (T : Txt K mg) (ds : List D) (m : M) (Q : D → M → Prop) (E : XD → M → Prop) (h : sp_Task_followers K ds m Q E) : t_Task_followers K (fun x _ m => E x m) { nx := fun _ m => Q .non m, rt := Q } (startD nm_Task_followers ds) m := by
  obtain ⟨t, x, z, rfl, rfl, ok, q, qe⟩ := h
  show t_Task_followers K _ _ [some (taskD K t), some (.str z), none, none, none] m
  unfold t_Task_followers
  try simp only [dSeq]
  walk_at "z2"
  have := ok.a12
  refine ⟨rfl, t, _, z, rfl, rfl, ok, fun k hk e => ?_, qe⟩
  try simp only [dSeq]
  walk_at "z2"
  refine lc_filter (fun d => match d with | .tup [.str x, _, _] => decide (x = z) | _ => false) (fun d => match d with | .tup [_, x, y] => D.tup [x, y] | _ => .non) (by rw [sizeLine_eq]; simp; omega) (fun x hx => ?_) ?_
  · obtain ⟨a, ha, rfl⟩ := List.mem_map.mp hx
    refine ⟨_, rfl, fun Q' q' => ?_, fun _ Q' q' => ?_⟩
    · simp only [wipeD, Arr.D]
      walk_at "zs"
      exact q'
    · simp only [wipeD, Arr.D]
      walk_at "zs"
      exact q'
  · rw [List.nil_append, foll_eq]
    exact q (by rw [← e]; exact List.mem_map_of_mem hk)
theorem pure_gap_between {K : Fr0} {mg : Str → Option Value} (T : Txt K mg) (ds : List D) (m : M) (Q : D → M → Prop) (E : XD → M → Prop) (h : sp_gap_between K ds m Q E) : t_gap_between K (fun x _ m => E x m) { nx := fun _ m => Q .non m, rt := Q } (startD nm_gap_between ds) m := by
  obtain ⟨t, x, z, w, rfl, rfl, ok, hz, q⟩ := h
  show t_gap_between K _ _ [some (taskD K t), some (.str z), some (.str w), none, none] m
  unfold t_gap_between
  try simp only [dSeq]
  walk_at "z2"
  refine ⟨rfl, t, _, z, rfl, rfl, ok, fun _ => ?_, fun h => absurd hz h⟩
  walk_at "zn"
  obtain ⟨P1, hP1⟩ : ∃ P : Nat → DSt → M → Prop, ∀ j r m', P j r m' ↔ (m' = m ∧ (∀ i a, i < j → (foll t z)[i]? = some a → a.s ≠ w) ∧ ∃ o3 o4, r = [some (taskD K t), some (.str z), some (.str w), o3, o4]) := ⟨_, fun _ _ _ => Iff.rfl⟩
  refine ⟨P1, (hP1 _ _ _).mpr ⟨rfl, fun i k h => absurd h (Nat.not_lt_zero _), _, _, rfl⟩, ?_, ?_⟩
  · intro j d r m' hd hp1
    obtain ⟨rfl, hn, o3, o4, rfl⟩ := (hP1 _ _ _).mp hp1
    obtain ⟨a, ha, rfl⟩ := map_at hd
    simp only [folD]
    walk_at "zs"
    by_cases e : a.s = w
    · rw [if_pos e]
      have : gapF t z w = some a.g := by
        unfold gapF
        rw [List.find?_eq_some_iff_getElem.mpr ⟨by simpa using e, j, len_at ha, (List.getElem?_eq_some_iff.mp ha).2, fun i hi => ?_⟩]
        · rfl
        · have hl := len_at ha
          have := hn i _ hi (List.getElem?_eq_getElem (by omega))
          simpa using this
      rw [this] at q
      exact q
    · rw [if_neg e]
      refine (hP1 _ _ _).mpr ⟨rfl, fun i k2 hi h2 => ?_, _, _, rfl⟩
      by_cases hij : i = j
      · subst hij
        rw [ha] at h2
        cases h2
        exact e
      · exact hn i k2 (by omega) h2
  · intro r m' hp1
    obtain ⟨rfl, hn, o3, o4, rfl⟩ := (hP1 _ _ _).mp hp1
    rw [List.length_map] at hn
    walk_at "zs"
    have : gapF t z w = none := by
      unfold gapF
      rw [List.find?_eq_none.mpr fun a ha => ?_]
      · rfl
      · obtain ⟨i, hi⟩ := List.mem_iff_getElem?.mp ha
        have := hn i a (len_at hi) hi
        simpa using this
    rw [this] at q
    exact q
section
variable {K : Fr0} {g : Int} {js : List Rw}
theorem lk_grain : (runF g js).lookup ("grain" : Str) = some (.int g) := rfl
theorem lk_placed : (runF g js).lookup ("placed" : Str) = some (.lst (js.map Rw.D)) := rfl
theorem putR1 {a : D} : putD "grain" a [] = [(("grain" : Str), a)] := rfl
theorem putR2 {a b : D} : putD "placed" b [(("grain" : Str), a)] = [(("grain" : Str), a), ("placed", b)] := rfl
end
theorem jAt_at {w : List Job} {p : Nat} (h : p < w.length) : w[p]? = some (jAt w p) := by
  unfold jAt
  rw [List.getD_eq_getElem?_getD, List.getElem?_eq_getElem h]
  rfl
theorem jAt_I {w : List Job} {p : Nat} (h : p < w.length) : atI (w.map Job.D) (p : Int) = some (jAt w p).D := atI_nat (by rw [List.getElem?_map, jAt_at h]; rfl)
theorem wAt_at {ws : List (List Job)} {i : Nat} (h : i < ws.length) : ws[i]? = some (wAt ws i) := by
  unfold wAt
  rw [List.getD_eq_getElem?_getD, List.getElem?_eq_getElem h]
  rfl
theorem tAt_at {ts : List Tsk} {i : Nat} (h : i < ts.length) : ts[i]? = some (tAt ts i) := by
  unfold tAt
  rw [List.getD_eq_getElem?_getD, List.getElem?_eq_getElem h]
  rfl
theorem tAt_I {f : Tsk → D} {ts : List Tsk} {i : Nat} (h : i < ts.length) : atI (ts.map f) (i : Int) = some (f (tAt ts i)) := atI_nat (by rw [List.getElem?_map, tAt_at h]; rfl)
theorem kn_b {t : Tsk} (ok : t.Ok) {k : Knd} (h : k ∈ t.ks) : (1 ≤ k.c ∧ k.c ≤ 99) ∧ 1 ≤ k.d ∧ k.d ≤ 99 := by
  have h1 := ok.ks.c k h
  have h2 := ok.ks.d k h
  cases hb : decide (0 < t.as.length) <;> rw [hb] at h1 h2 <;> simp at h1 h2 <;> omega
theorem gapF_b {t : Tsk} (ok : t.Ok) {z w : Str} {a : Int} (h : gapF t z w = some a) : 1 ≤ a ∧ a ≤ 12 := by
  unfold gapF at h
  obtain ⟨x, hx, rfl⟩ := Option.map_eq_some_iff.mp h
  exact ok.as.g x (List.mem_filter.mp (List.mem_of_find?_eq_some hx)).1
theorem pure_check_job {K : Fr0} {mg : Str → Option Value} (T : Txt K mg) (ds : List D) (m : M) (Q : D → M → Prop) (E : XD → M → Prop) (h : sp_check_job K ds m Q E) : t_check_job K (fun x _ m => E x m) { nx := fun _ m => Q .non m, rt := Q } (startD nm_check_job ds) m := by
  obtain ⟨t, x, w, i, p, g, rfl, rfl, ok, hp, hb, ⟨g1, g2⟩, o⟩ := h
  show t_check_job K _ _ [some (taskD K t), some (wkD w), some (.int i), some (.int p), some (.int g), none, none, none, none, none, none] m
  unfold t_check_job
  have ea := jAt_I hp
  unfold jobX at o
  generalize jAt w p = j at *
  try simp only [dSeq]
  try simp only [dIfS, dTest, dOp, dVar, dC, dCB, daCons, daNil, dSet, dRet, dNext, dDrop, dAsg, dPar, dAug, dAddI, dBreak, dCont, dRetN, slot, dLen, dCmpI, dSub, dAdd, dMul, dDiv, dMod, dPow, dNeg, dUn, dIx, dInt1, dAbs, dChain, dAnd, dOr, dNot, dAndV, dOrV, dNotV, dTru, dTruB, dIf, dTup, dLst, mkL, dSlice, dSl, doNone, doSome, dSum, dAll, dAny, dList, dTuple, dMax, dMin, eq_ii, ne_ii, eq_ss, ne_ss, eq_bb, ne_bb, eq_nn, ne_nn, dIsN, dNotN, dFgt, dIsB, dNotB, gN, gT, gsNil, gsCons, gSet, dBM, dAppend, dClear, dFld, dFldS, dProp, dCall, dMeth, dMake, dMakeN, daStar, dDictP, dCallO, dFor, dLc, diR1, diR2, diR3, diL, diT, diRv, diS, diE, dFmt, dFStr, dJs, dCallN, dFrzE, frz_l, in_ss, notin_ss, drR1, drR2, dListR, dRaise, dRaise0, dTryAs, dTry, dXf, dAddO, dInO, isL, insOf, Option.some.injEq, List.cons.injEq, D.int.injEq, D.bl.injEq, D.str.injEq, D.lst.injEq, D.tup.injEq, D.ref.injEq, MO.lst.injEq, MO.ins.injEq, mset_mset, and_true, true_and, and_self, and_assoc, exists_eq_left', exists_eq_left, exists_and_left, exists_and_right, exists_eq', List.set_cons_zero, List.set_cons_succ, decide_eq_true_eq, sqOf, lsOf, List.length_cons, List.length_nil, sizeLine_eq, List.append_nil, List.cons_append, List.nil_append, if_true, if_false, Bool.false_eq_true, reduceCtorEq, reduceIte, Nat.reduceAdd, Nat.reduceLeDiff, mset_same, Option.bind_some, List.length_map, Prod.mk.injEq, at0, at1, at2, at3, at4, at5, at6, at7, ix30, ix31, ix32, ix20, ix21, ix10, isi_ii, isi_ib, isi_ll, isi_bb, isi_ss, isi_tt, isi_is, isi_si, Bool.not_true, Bool.not_false, dCopyK, dGet2K, dDctR, dDisp1, dFrzEK, ea, Job.D]
  try simp only [dSeq]
  walk_at "z2"
  refine ⟨rfl, t, _, j.k, rfl, rfl, ok, fun k hk e => ?_, fun hz => ?_⟩
  · have hin : j.k ∈ names t.ks := by rw [← e]; exact List.mem_map_of_mem hk
    rw [if_neg (by simpa using hin), ← e, kOf_is ok hk] at o
    have kb := kn_b ok hk
    walk_at "zn"
    refine ⟨mul_small (by omega), ?_⟩
    walk_at "zn"
    by_cases c1 : 1 ≤ j.c ∧ j.c ≤ k.c * g
    · rw [if_neg (by simpa using c1)] at o
      rw [if_pos c1.1]
      walk_at "zs"
      rw [if_neg (by simpa using c1.2)]
      by_cases c2 : j.r < 0
      · rw [if_pos c2] at o
        rw [if_pos c2]
        walk_at "zs"
        exact o
      · rw [if_neg c2] at o
        rw [if_neg c2]
        walk_at "zn"
        by_cases c3 : p = 0
        · subst c3
          rw [if_pos rfl] at o
          walk_at "zs"
          exact o
        · rw [if_neg c3] at o
          rw [if_neg (by omega)]
          walk_at "zn"
          have eb := jAt_I (w := w) (p := p - 1) (by omega)
          rw [show ((p - 1 : Nat) : Int) = (p : Int) - 1 by omega] at eb
          try simp only [dSeq]
          try simp only [dIfS, dTest, dOp, dVar, dC, dCB, daCons, daNil, dSet, dRet, dNext, dDrop, dAsg, dPar, dAug, dAddI, dBreak, dCont, dRetN, slot, dLen, dCmpI, dSub, dAdd, dMul, dDiv, dMod, dPow, dNeg, dUn, dIx, dInt1, dAbs, dChain, dAnd, dOr, dNot, dAndV, dOrV, dNotV, dTru, dTruB, dIf, dTup, dLst, mkL, dSlice, dSl, doNone, doSome, dSum, dAll, dAny, dList, dTuple, dMax, dMin, eq_ii, ne_ii, eq_ss, ne_ss, eq_bb, ne_bb, eq_nn, ne_nn, dIsN, dNotN, dFgt, dIsB, dNotB, gN, gT, gsNil, gsCons, gSet, dBM, dAppend, dClear, dFld, dFldS, dProp, dCall, dMeth, dMake, dMakeN, daStar, dDictP, dCallO, dFor, dLc, diR1, diR2, diR3, diL, diT, diRv, diS, diE, dFmt, dFStr, dJs, dCallN, dFrzE, frz_l, in_ss, notin_ss, drR1, drR2, dListR, dRaise, dRaise0, dTryAs, dTry, dXf, dAddO, dInO, isL, insOf, Option.some.injEq, List.cons.injEq, D.int.injEq, D.bl.injEq, D.str.injEq, D.lst.injEq, D.tup.injEq, D.ref.injEq, MO.lst.injEq, MO.ins.injEq, mset_mset, and_true, true_and, and_self, and_assoc, exists_eq_left', exists_eq_left, exists_and_left, exists_and_right, exists_eq', List.set_cons_zero, List.set_cons_succ, decide_eq_true_eq, sqOf, lsOf, List.length_cons, List.length_nil, sizeLine_eq, List.append_nil, List.cons_append, List.nil_append, if_true, if_false, Bool.false_eq_true, reduceCtorEq, reduceIte, Nat.reduceAdd, Nat.reduceLeDiff, mset_same, Option.bind_some, List.length_map, Prod.mk.injEq, at0, at1, at2, at3, at4, at5, at6, at7, ix30, ix31, ix32, ix20, ix21, ix10, isi_ii, isi_ib, isi_ll, isi_bb, isi_ss, isi_tt, isi_is, isi_si, Bool.not_true, Bool.not_false, dCopyK, dGet2K, dDctR, dDisp1, dFrzEK, eb]
          generalize jAt w (p - 1) = b at *
          try simp only [dSeq]
          walk_at "z9"
          refine ⟨t, _, b.k, j.k, rfl, rfl, ok, hb (by omega), ?_⟩
          rw [e] at o
          cases hg : gapF t b.k j.k with
          | none =>
            rw [hg] at o
            walk_at "zn"
            exact o
          | some a =>
            rw [hg] at o
            have ab := gapF_b ok hg
            walk_at "zn"
            refine ⟨mul_small (by omega), ?_⟩
            by_cases c4 : j.r - b.r < a * g
            · rw [if_pos c4]
              have o : Out (if j.r - b.r < a * g then some (plX K "GapTooShort" i p) else none) (Q .non m) (fun x => E x m) := o
              rw [if_pos c4] at o
              walk_at "zs"
              exact o
            · rw [if_neg c4]
              have o : Out (if j.r - b.r < a * g then some (plX K "GapTooShort" i p) else none) (Q .non m) (fun x => E x m) := o
              rw [if_neg c4] at o
              exact o
    · rw [if_pos c1] at o
      by_cases c2 : 1 ≤ j.c
      · rw [if_pos c2]
        walk_at "zs"
        rw [if_pos (by simpa using fun h => c1 ⟨c2, h⟩)]
        exact o
      · rw [if_neg c2]
        walk_at "zs"
        exact o
  · rw [if_pos (by simpa using hz)] at o
    exact o
theorem pure_check_counts {K : Fr0} {mg : Str → Option Value} (T : Txt K mg) (ds : List D) (m : M) (Q : D → M → Prop) (E : XD → M → Prop) (h : sp_check_counts K ds m Q E) : t_check_counts K (fun x _ m => E x m) { nx := fun _ m => Q .non m, rt := Q } (startD nm_check_counts ds) m := by
  obtain ⟨ts, ws, g, rfl, h1, h2, o⟩ := h
  show t_check_counts K _ _ [some (.lst (ts.map (taskD K))), some (wksD ws), some (.int g), none, none] m
  unfold t_check_counts
  unfold cntsX at o
  walk_at "zn"
  have H : ¬ (1 ≤ g ∧ g ≤ 60) → E (rngX K "grain" g) m := fun h => by rw [if_pos h] at o; exact o
  by_cases c1 : 1 ≤ g
  · rw [if_pos c1]
    walk_at "zs"
    by_cases c2 : g ≤ 60
    · rw [if_neg (by simp; omega)] at o
      rw [if_neg (by simpa using c2)]
      walk_at "zn"
      by_cases c3 : ws.length = ts.length
      · rw [if_neg (by simpa using c3)] at o
        rw [if_neg (by simp; omega)]
        walk_at "zn"
        refine lc_mapD (g := wkD) (f := fun w => .int (w.length : Nat)) (by rw [sizeLine_eq]; omega) (fun w hw => ⟨_, rfl, fun Q' q' => ?_⟩) ?_
        · simp only [wipeD]
          walk_at "zs"
          exact q'
        walk_at "zs"
        refine ⟨ws.map fun w => ((w.length : Nat) : Int), by rw [List.map_map]; rfl, ?_⟩
        have es : (ws.map fun w => ((w.length : Nat) : Int)).sum = (many ws : Nat) := by
          unfold many
          clear o h2 c3
          induction ws with
          | nil => rfl
          | cons w ws ih => rw [List.map_cons, List.sum_cons, ih, List.map_cons, List.sum_cons]; omega
        rw [es]
        by_cases c4 : 400 < many ws
        · rw [if_pos c4] at o
          rw [if_pos (by omega)]
          exact o
        · rw [if_neg c4] at o
          rw [if_neg (by omega)]
          exact o
      · rw [if_pos c3] at o
        rw [if_pos (by simp; omega)]
        exact o
    · rw [if_pos (by simpa using c2)]
      exact H (by omega)
  · rw [if_neg c1]
    exact H (by omega)
theorem some_of {f : Nat → Option XD} {n j : Nat} {x : XD} (hj : j < n) (h0 : ∀ p, p < j → f p = none) (h1 : f j = some x) : (List.range n).findSome? f = some x := by
  obtain ⟨k, rfl⟩ : ∃ k, n = j + 1 + k := ⟨n - (j + 1), by omega⟩
  rw [List.range_add, List.findSome?_append, List.range_succ, List.findSome?_append]
  rw [show (List.range j).findSome? f = none from List.findSome?_eq_none_iff.mpr fun p hp => h0 p (List.mem_range.mp hp)]
  simp [h1]
theorem none_of' {f : Nat → Option XD} {n : Nat} (h0 : ∀ p, p < n → f p = none) : (List.range n).findSome? f = none := List.findSome?_eq_none_iff.mpr fun p hp => h0 p (List.mem_range.mp hp)
theorem len_many {w : List Job} {ws : List (List Job)} (h : w ∈ ws) : w.length ≤ many ws := by
  unfold many
  induction ws with
  | nil => cases h
  | cons x ws ih =>
    rw [List.map_cons, List.sum_cons]
    rcases List.mem_cons.mp h with rfl | h
    · omega
    · have := ih h
      omega
def rowsN (ts : List Tsk) (g : Int) (ws : List (List Job)) (n : Nat) : List Rw := (List.range n).flatMap fun i => rowsW (tAt ts i) g i (wAt ws i)
theorem rowsN_succ (ts : List Tsk) (g : Int) (ws : List (List Job)) (n : Nat) : rowsN ts g ws (n + 1) = rowsN ts g ws n ++ rowsW (tAt ts n) g n (wAt ws n) := by
  unfold rowsN
  rw [List.range_succ, List.flatMap_append]
  simp
theorem rowsN_len {ts : List Tsk} {g : Int} {ws : List (List Job)} {B : Nat} (h : ∀ w ∈ ws, w.length ≤ B) : ∀ n, n ≤ ws.length → (rowsN ts g ws n).length ≤ n * B
  | 0, _ => by simp [rowsN]
  | n + 1, hn => by
    have := rowsN_len (ts := ts) (g := g) h n (by omega)
    have h2 := h (wAt ws n) (mem_at (wAt_at (by omega)))
    rw [rowsN_succ, List.length_append, Nat.add_mul]
    unfold rowsW
    rw [List.length_map, List.length_range]
    omega
theorem rowP_succ (t : Tsk) (g : Int) (i : Nat) (w : List Job) (j : Nat) : (List.range (j + 1)).map (rowJ t g i w) = (List.range j).map (rowJ t g i w) ++ [rowJ t g i w j] := by
  rw [List.range_succ, List.map_append]
  rfl
def kyR (d : D) : D := match d with
  | .tup [i, p, _, r, _, _] => .tup [r, i, p]
  | d => d
def kyRP (d : D) : PyData := (toP (kyR d)).getD .none
theorem kyR_p (x : Rw) : toP (kyR x.D) = some (keyR x) := by
  show toP (.tup [.int x.r, .int x.i, .int x.p]) = _
  rw [toP, toPs, toPs, toPs, toPs, toP, toP, toP]
  rfl
theorem kyRP_p (x : Rw) : kyRP x.D = keyR x := by unfold kyRP; rw [kyR_p]; rfl
theorem toPs_map {α : Type} {f : α → D} {g : α → PyData} : ∀ {l : List α}, (∀ x ∈ l, toP (f x) = some (g x)) → toPs (l.map f) = some (l.map g)
  | [], _ => by rw [List.map_nil, toPs]; rfl
  | x :: l, h => by
    rw [List.map_cons, toPs, h x List.mem_cons_self, toPs_map (fun y hy => h y (List.mem_cons_of_mem _ hy))]
    rfl
theorem alike_keyR (a b : Rw) : PySem.W.alike (keyR a) (keyR b) = true := by
  unfold keyR
  rw [PySem.W.alike, PySem.W.alikeAll, PySem.W.alikeAll, PySem.W.alikeAll, PySem.W.alikeAll, PySem.W.alike, PySem.W.alike, PySem.W.alike]
  rfl
theorem depth_keyR (a : Rw) : (keyR a).depth ≤ 60 := by
  unfold keyR
  simp [PyData.depth, PyData.depthAll]
theorem sort_rows (l : List Rw) : (l.map Rw.D).mergeSort (PySem.W.dataLe false kyRP) = (srtR l).map Rw.D := by
  unfold srtR
  refine (List.map_mergeSort fun a _ b _ => ?_).symm
  unfold PySem.W.dataLe PySem.W.sortLe
  dsimp only
  rw [kyRP_p, kyRP_p]
theorem sortK_rows {tl te : DTE} {ip : Nat} {r : DSt} {m : M} {Q : D → M → Prop} {l : List Rw} (hl : ∀ Q' : D → M → Prop, Q' (.lst (l.map Rw.D)) m → tl r m Q') (hz : l.length ≤ sizeLine) (hk : ∀ x ∈ l, ∀ Q' : D → M → Prop, Q' (.tup [.int x.r, .int x.i, .int x.p]) m → te (r.set ip (some x.D)) m Q') (q : Q (.lst ((srtR l).map Rw.D)) m) : dSortK false tl ip te r m Q := by
  refine hl _ ⟨l.map Rw.D, kyR, kyRP, rfl, fun x hx Q' q' => ?_, ?_, ?_, ?_, ?_, ?_⟩
  · obtain ⟨c, hc, rfl⟩ := List.mem_map.mp hx
    exact hk c hc Q' q'
  · rw [List.map_map, List.map_map]
    refine toPs_map fun c _ => ?_
    show toP (kyR c.D) = some (kyRP c.D)
    rw [kyR_p, kyRP_p]
  · intro d hd d' hd'
    rw [List.map_map] at hd hd'
    obtain ⟨c, _, rfl⟩ := List.mem_map.mp hd
    obtain ⟨c', _, rfl⟩ := List.mem_map.mp hd'
    show PySem.W.alike (kyRP c.D) (kyRP c'.D) = true
    rw [kyRP_p, kyRP_p]
    exact alike_keyR _ _
  · refine .inl fun d hd => ?_
    rw [List.map_map] at hd
    obtain ⟨c, _, rfl⟩ := List.mem_map.mp hd
    exact ⟨_, _, kyRP_p c⟩
  · intro x hx
    obtain ⟨c, hc, rfl⟩ := List.mem_map.mp hx
    rw [kyRP_p]
    exact depth_keyR _
  · rw [sort_rows]
    exact q
theorem pure_Run_init {K : Fr0} {mg : Str → Option Value} (T : Txt K mg) (ds : List D) (m : M) (Q : D → M → Prop) (E : XD → M → Prop) (h : sp_Run_init K ds m Q E) : t_Run_init K (fun x _ m => E x m) { nx := fun _ m => Q .non m, rt := Q } (startD nm_Run_init ds) m := by
  obtain ⟨a, ts, ws, g, rfl, ha, ok, t1, w1, o⟩ := h
  show t_Run_init K _ _ [some (.ref a), some (.lst (ts.map (taskD K))), some (wksD ws), some (.int g), none, none, none, none, none, none, none, none, none, none] m
  unfold t_Run_init
  unfold runX at o
  walk_at "zn"
  refine ⟨ts, ws, g, rfl, t1, w1, ?_⟩
  cases hc : cntsX K ts ws g with
  | some x =>
    rw [hc] at o
    have o : ∀ m', MSub m m' → E x m' := o
    exact o m (MSub.refl m)
  | none =>
    rw [hc] at o
    have o : Out (allX K ts ws g) (Q .non (mset m a (.ins (ga K "Run") (runF g (jobsR ts g ws))))) fun x => ∀ m', MSub m m' → E x m' := o
    have hg : 1 ≤ g ∧ g ≤ 60 := by
      unfold cntsX at hc
      by_cases h : 1 ≤ g ∧ g ≤ 60
      · exact h
      · rw [if_pos h] at hc; cases hc
    have hlen : ws.length = ts.length := by
      unfold cntsX at hc
      rw [if_neg (by simpa using hg)] at hc
      by_cases h : ws.length = ts.length
      · exact h
      · rw [if_pos h] at hc; cases hc
    have h400 : many ws ≤ 400 := by
      unfold cntsX at hc
      rw [if_neg (by simpa using hg), if_neg (by simpa using hlen)] at hc
      by_cases h : 400 < many ws
      · rw [if_pos h] at hc; cases hc
      · omega
    have wl : ∀ w ∈ ws, w.length ≤ 400 := fun w hw => Nat.le_trans (len_many hw) h400
    simp only [Out]
    walk_at "zn"
    intro b hb
    have hba : b ≠ a := fun e => by rw [e, ha] at hb; cases hb
    have sub : ∀ u, MSub m (mset m b u) := fun u => MSub.set hb
    walk_at "zn"
    have H : ∀ x, allX K ts ws g = some x → ∀ m', MSub m m' → E x m' := fun x hx => by
      rw [hx] at o
      exact o
    have G : allX K ts ws g = none → Q .non (mset m a (.ins (ga K "Run") (runF g (jobsR ts g ws)))) := fun hx => by
      rw [hx] at o
      exact o
    clear o hc
    obtain ⟨P1, hP1⟩ : ∃ P : Nat → DSt → M → Prop, ∀ i rr m', P i rr m' ↔ (∃ o5 o6 o7 o8 o9 o10 o11 o12, (∀ i', i' < i → walkX K (tAt ts i') (wAt ws i') i' g = none) ∧ m' = mset m b (.lst ((rowsN ts g ws i).map Rw.D)) ∧ rr = [some (.ref a), some (.lst (ts.map (taskD K))), some (wksD ws), some (.int g), some (.ref b), o5, o6, o7, o8, o9, o10, o11, o12, none]) := ⟨_, fun _ _ _ => Iff.rfl⟩
    refine ⟨P1, (hP1 _ _ _).mpr ⟨_, _, _, _, _, _, _, _, fun i' h => absurd h (Nat.not_lt_zero _), rfl, rfl⟩, ?_, ?_⟩
    · intro i d rr m' hd hp
      obtain ⟨o5, o6, o7, o8, o9, o10, o11, o12, h0, rfl, rfl⟩ := (hP1 _ _ _).mp hp
      obtain ⟨x, hx, rfl⟩ := enumD_at hd
      obtain ⟨w, hw, rfl⟩ := map_at hx
      have hi := len_at hw
      have ew : wAt ws i = w := by
        have := wAt_at hi
        rw [hw] at this
        exact (Option.some.inj this).symm
      have tI := tAt_I (f := taskD K) (ts := ts) (i := i) (by omega)
      have okt := ok _ (mem_at (tAt_at (ts := ts) (i := i) (by omega)))
      have wl0 := wl w (mem_at hw)
      have r0 := rowsN_len (ts := ts) (g := g) wl i (by omega)
      have r1 : i * 400 ≤ 1000 * 400 := Nat.mul_le_mul_right 400 (show i ≤ 1000 by omega)
      obtain ⟨t, et⟩ : ∃ t, tAt ts i = t := ⟨_, rfl⟩
      rw [et] at tI okt
      try simp only [dSeq]
      try simp only [dIfS, dTest, dOp, dVar, dC, dCB, daCons, daNil, dSet, dRet, dNext, dDrop, dAsg, dPar, dAug, dAddI, dBreak, dCont, dRetN, slot, dLen, dCmpI, dSub, dAdd, dMul, dDiv, dMod, dPow, dNeg, dUn, dIx, dInt1, dAbs, dChain, dAnd, dOr, dNot, dAndV, dOrV, dNotV, dTru, dTruB, dIf, dTup, dLst, mkL, dSlice, dSl, doNone, doSome, dSum, dAll, dAny, dList, dTuple, dMax, dMin, eq_ii, ne_ii, eq_ss, ne_ss, eq_bb, ne_bb, eq_nn, ne_nn, dIsN, dNotN, dFgt, dIsB, dNotB, gN, gT, gsNil, gsCons, gSet, dBM, dAppend, dClear, dFld, dFldS, dProp, dCall, dMeth, dMake, dMakeN, daStar, dDictP, dCallO, dFor, dLc, diR1, diR2, diR3, diL, diT, diRv, diS, diE, dFmt, dFStr, dJs, dCallN, dFrzE, frz_l, in_ss, notin_ss, drR1, drR2, dListR, dRaise, dRaise0, dTryAs, dTry, dXf, dAddO, dInO, isL, insOf, Option.some.injEq, List.cons.injEq, D.int.injEq, D.bl.injEq, D.str.injEq, D.lst.injEq, D.tup.injEq, D.ref.injEq, MO.lst.injEq, MO.ins.injEq, mset_mset, and_true, true_and, and_self, and_assoc, exists_eq_left', exists_eq_left, exists_and_left, exists_and_right, exists_eq', List.set_cons_zero, List.set_cons_succ, decide_eq_true_eq, sqOf, lsOf, List.length_cons, List.length_nil, sizeLine_eq, List.append_nil, List.cons_append, List.nil_append, if_true, if_false, Bool.false_eq_true, reduceCtorEq, reduceIte, Nat.reduceAdd, Nat.reduceLeDiff, mset_same, Option.bind_some, List.length_map, Prod.mk.injEq, at0, at1, at2, at3, at4, at5, at6, at7, ix30, ix31, ix32, ix20, ix21, ix10, isi_ii, isi_ib, isi_ll, isi_bb, isi_ss, isi_tt, isi_is, isi_si, Bool.not_true, Bool.not_false, dCopyK, dGet2K, dDctR, dDisp1, dFrzEK, tI]
      obtain ⟨P2, hP2⟩ : ∃ P : Nat → DSt → M → Prop, ∀ j rr m', P j rr m' ↔ (∃ o8 o9 o10 o11 o12, (∀ p, p < j → jobX K t w i p g = none) ∧ m' = mset m b (.lst ((rowsN ts g ws i ++ (List.range j).map (rowJ t g i w)).map Rw.D)) ∧ rr = [some (.ref a), some (.lst (ts.map (taskD K))), some (wksD ws), some (.int g), some (.ref b), some (.int i), some (wkD w), some (taskD K t), o8, o9, o10, o11, o12, none]) := ⟨_, fun _ _ _ => Iff.rfl⟩
      refine ⟨P2, (hP2 _ _ _).mpr ⟨_, _, _, _, _, fun i' h => absurd h (Nat.not_lt_zero _), by simp, rfl⟩, ?_, ?_⟩
      · intro j d rr m' hd hp2
        obtain ⟨o8, o9, o10, o11, o12, h1, rfl, rfl⟩ := (hP2 _ _ _).mp hp2
        obtain ⟨x, hx, rfl⟩ := enumD_at hd
        obtain ⟨y, hy, rfl⟩ := map_at hx
        have hj := len_at hy
        have ey : jAt w j = y := by
          have := jAt_at hj
          rw [hy] at this
          exact (Option.some.inj this).symm
        try simp only [dSeq]
        walk_at "z9"
        have hb2 : 1 ≤ j → (jAt w (j - 1)).k ∈ names t.ks := fun h => by
          have := h1 (j - 1) (by omega)
          unfold jobX at this
          by_cases c : (jAt w (j - 1)).k ∈ names t.ks
          · exact c
          · rw [if_pos c] at this; cases this
        refine ⟨t, _, w, i, j, g, rfl, rfl, okt, hj, hb2, hg, ?_⟩
        cases hjx : jobX K t w i j g with
        | some x =>
          refine H x (some_of hi h0 ?_) _ (sub _)
          rw [ew, et]
          exact some_of hj h1 hjx
        | none =>
          have hin : y.k ∈ names t.ks := by
            unfold jobX at hjx
            rw [ey] at hjx
            by_cases c : y.k ∈ names t.ks
            · exact c
            · rw [if_pos c] at hjx; cases hjx
          obtain ⟨k, hk, ek⟩ := known hin
          have kb := kn_b okt hk
          simp only [Out]
          try simp only [dSeq]
          walk_at "z2"
          refine ⟨rfl, t, _, y.k, rfl, rfl, okt, fun k2 hk2 e2 => ?_, fun h => absurd hin h⟩
          have kb2 := kn_b okt hk2
          walk_at "zn"
          refine ⟨mul_small (by omega), ?_⟩
          walk_at "zn"
          refine ⟨by rw [List.length_append, List.length_map, List.length_range]; omega, (hP2 _ _ _).mpr ⟨_, _, _, _, _, fun p hp => ?_, ?_, rfl⟩⟩
          · by_cases e : p = j
            · subst e; exact hjx
            · exact h1 p (by omega)
          · rw [rowP_succ, ← List.append_assoc, List.map_append (l₁ := rowsN ts g ws i ++ _)]
            congr 3
            show [_] = [(rowJ t g i w j).D]
            unfold rowJ Rw.D
            rw [ey, ← e2, kOf_is okt hk2]
      · intro rr m' hp2
        obtain ⟨o8, o9, o10, o11, o12, h1, rfl, rfl⟩ := (hP2 _ _ _).mp hp2
        rw [enumD_len, List.length_map] at h1 ⊢
        refine (hP1 _ _ _).mpr ⟨_, _, _, _, _, _, _, _, fun i' hi' => ?_, ?_, rfl⟩
        · by_cases e : i' = i
          · subst e
            rw [ew, et]
            exact none_of' h1
          · exact h0 i' (by omega)
        · rw [rowsN_succ, ew, et]
          rfl
    · intro rr m' hp
      obtain ⟨o5, o6, o7, o8, o9, o10, o11, o12, h0, rfl, rfl⟩ := (hP1 _ _ _).mp hp
      rw [enumD_len, List.length_map] at h0 ⊢
      have hN := G (none_of' h0)
      refine ⟨b, _, rfl, mset_same, ?_⟩
      rw [mdel_mset hb]
      try simp only [dSeq]
      try simp only [dIfS, dTest, dOp, dVar, dC, dCB, daCons, daNil, dSet, dRet, dNext, dDrop, dAsg, dPar, dAug, dAddI, dBreak, dCont, dRetN, slot, dLen, dCmpI, dSub, dAdd, dMul, dDiv, dMod, dPow, dNeg, dUn, dIx, dInt1, dAbs, dChain, dAnd, dOr, dNot, dAndV, dOrV, dNotV, dTru, dTruB, dIf, dTup, dLst, mkL, dSlice, dSl, doNone, doSome, dSum, dAll, dAny, dList, dTuple, dMax, dMin, eq_ii, ne_ii, eq_ss, ne_ss, eq_bb, ne_bb, eq_nn, ne_nn, dIsN, dNotN, dFgt, dIsB, dNotB, gN, gT, gsNil, gsCons, gSet, dBM, dAppend, dClear, dFld, dFldS, dProp, dCall, dMeth, dMake, dMakeN, daStar, dDictP, dCallO, dFor, dLc, diR1, diR2, diR3, diL, diT, diRv, diS, diE, dFmt, dFStr, dJs, dCallN, dFrzE, frz_l, in_ss, notin_ss, drR1, drR2, dListR, dRaise, dRaise0, dTryAs, dTry, dXf, dAddO, dInO, isL, insOf, Option.some.injEq, List.cons.injEq, D.int.injEq, D.bl.injEq, D.str.injEq, D.lst.injEq, D.tup.injEq, D.ref.injEq, MO.lst.injEq, MO.ins.injEq, mset_mset, and_true, true_and, and_self, and_assoc, exists_eq_left', exists_eq_left, exists_and_left, exists_and_right, exists_eq', List.set_cons_zero, List.set_cons_succ, decide_eq_true_eq, sqOf, lsOf, List.length_cons, List.length_nil, sizeLine_eq, List.append_nil, List.cons_append, List.nil_append, if_true, if_false, Bool.false_eq_true, reduceCtorEq, reduceIte, Nat.reduceAdd, Nat.reduceLeDiff, mset_same, Option.bind_some, List.length_map, Prod.mk.injEq, at0, at1, at2, at3, at4, at5, at6, at7, ix30, ix31, ix32, ix20, ix21, ix10, isi_ii, isi_ib, isi_ll, isi_bb, isi_ss, isi_tt, isi_is, isi_si, Bool.not_true, Bool.not_false, dCopyK, dGet2K, dDctR, dDisp1, dFrzEK, T.cl_Run, T.n_Run_grain, T.n_Run_placed, runD, lk_grain, lk_placed, ha, putR1]
      refine ⟨by omega, sortK_rows (l := rowsN ts g ws ws.length) (fun Q' q' => ?_) ?_ (fun x hx Q' q' => ?_) ?_⟩
      · walk_at "zs"
        exact q'
      · have := rowsN_len (ts := ts) (g := g) wl ws.length (Nat.le_refl _)
        have : ws.length * 400 ≤ 1000 * 400 := Nat.mul_le_mul_right 400 w1
        rw [sizeLine_eq]
        omega
      · unfold Rw.D
        walk_at "zs"
        exact q'
      · try simp only [dSeq, dIfS, dTest, dOp, dVar, dC, dCB, daCons, daNil, dSet, dRet, dNext, dDrop, dAsg, dPar, dAug, dAddI, dBreak, dCont, dRetN, slot, dLen, dCmpI, dSub, dAdd, dMul, dDiv, dMod, dPow, dNeg, dUn, dIx, dInt1, dAbs, dChain, dAnd, dOr, dNot, dAndV, dOrV, dNotV, dTru, dTruB, dIf, dTup, dLst, mkL, dSlice, dSl, doNone, doSome, dSum, dAll, dAny, dList, dTuple, dMax, dMin, eq_ii, ne_ii, eq_ss, ne_ss, eq_bb, ne_bb, eq_nn, ne_nn, dIsN, dNotN, dFgt, dIsB, dNotB, gN, gT, gsNil, gsCons, gSet, dBM, dAppend, dClear, dFld, dFldS, dProp, dCall, dMeth, dMake, dMakeN, daStar, dDictP, dCallO, dFor, dLc, diR1, diR2, diR3, diL, diT, diRv, diS, diE, dFmt, dFStr, dJs, dCallN, dFrzE, frz_l, in_ss, notin_ss, drR1, drR2, dListR, dRaise, dRaise0, dTryAs, dTry, dXf, dAddO, dInO, isL, insOf, Option.some.injEq, List.cons.injEq, D.int.injEq, D.bl.injEq, D.str.injEq, D.lst.injEq, D.tup.injEq, D.ref.injEq, MO.lst.injEq, MO.ins.injEq, mset_mset, and_true, true_and, and_self, and_assoc, exists_eq_left', exists_eq_left, exists_and_left, exists_and_right, exists_eq', List.set_cons_zero, List.set_cons_succ, decide_eq_true_eq, sqOf, lsOf, List.length_cons, List.length_nil, sizeLine_eq, List.append_nil, List.cons_append, List.nil_append, if_true, if_false, Bool.false_eq_true, reduceCtorEq, reduceIte, Nat.reduceAdd, Nat.reduceLeDiff, mset_same, Option.bind_some, List.length_map, Prod.mk.injEq, at0, at1, at2, at3, at4, at5, at6, at7, ix30, ix31, ix32, ix20, ix21, ix10, isi_ii, isi_ib, isi_ll, isi_bb, isi_ss, isi_tt, isi_is, isi_si, Bool.not_true, Bool.not_false, dCopyK, dGet2K, dDctR, dDisp1, dFrzEK, T.cl_Run, T.n_Run_grain, T.n_Run_placed, runD, lk_grain, lk_placed, putR2]
        exact ⟨by omega, hN⟩
theorem pure_Run_jobs {K : Fr0} {mg : Str → Option Value} (T : Txt K mg) (ds : List D) (m : M) (Q : D → M → Prop) (E : XD → M → Prop) (h : sp_Run_jobs K ds m Q E) : t_Run_jobs K (fun x _ m => E x m) { nx := fun _ m => Q .non m, rt := Q } (startD nm_Run_jobs ds) m := by
  obtain ⟨g, js, rfl, q⟩ := h
  show t_Run_jobs K _ _ [some (runD K g js)] m
  unfold t_Run_jobs
  walk_at "z3"
  exact q
theorem none_Run_init {K : Fr0} : ∀ ds m Q E, sp_Run_init K ds m Q E → sp_Run_init K ds m (fun d m' => d = .non ∧ Q d m') E := by
  rintro ds m Q E ⟨a, ts, ws, g, rfl, ha, ok, t1, w1, o⟩
  refine ⟨a, ts, ws, g, rfl, ha, ok, t1, w1, ?_⟩
  cases h : runX K ts ws g with
  | none => rw [h] at o; exact ⟨rfl, o⟩
  | some x => rw [h] at o; exact o
theorem pure_law_cell {K : Fr0} {mg : Str → Option Value} (T : Txt K mg) (ds : List D) (m : M) (Q : D → M → Prop) (E : XD → M → Prop) (h : sp_law_cell K ds m Q E) : t_law_cell K (fun x _ m => E x m) { nx := fun _ m => Q .non m, rt := Q } (startD nm_law_cell ds) m := by
  obtain ⟨ns, i, rfl, h0, q⟩ := h
  show t_law_cell K _ _ [some (.rdl (ns.map D.int)), some (.int i)] m
  unfold t_law_cell
  walk_at "zS"
  unfold cellAt at q
  by_cases hi : i < ns.length
  · rw [if_pos hi, atI_ints h0 hi]
    rw [if_pos hi] at q
    exact ⟨_, rfl, q⟩
  · rw [if_neg hi]
    rw [if_neg hi] at q
    exact q
theorem pure_law_source {K : Fr0} {mg : Str → Option Value} (T : Txt K mg) (ds : List D) (m : M) (Q : D → M → Prop) (E : XD → M → Prop) (h : sp_law_source K ds m Q E) : t_law_source K (fun x _ m => E x m) { nx := fun _ m => Q .non m, rt := Q } (startD nm_law_source ds) m := by
  obtain ⟨c, rfl, q⟩ := h
  show t_law_source K _ _ [some (.int c)] m
  unfold t_law_source
  walk_at "zS"
  exact q
theorem pure_law_draw {K : Fr0} {mg : Str → Option Value} (T : Txt K mg) (ds : List D) (m : M) (Q : D → M → Prop) (E : XD → M → Prop) (h : sp_law_draw K ds m Q E) : t_law_draw K (fun x _ m => E x m) { nx := fun _ m => Q .non m, rt := Q } (startD nm_law_draw ds) m := by
  obtain ⟨a, lim, c, v, k, rfl, ha, ⟨l1, l2⟩, ⟨k0, k1⟩, q⟩ := h
  show t_law_draw K _ _ [some (.ref a), some (.int lim), none, none, none] m
  unfold t_law_draw
  try simp only [dSeq, dIfS, dTest, dOp, dVar, dC, dCB, daCons, daNil, dSet, dRet, dNext, dDrop, dAsg, dPar, dAug, dAddI, dBreak, dCont, dRetN, slot, dLen, dCmpI, dSub, dAdd, dMul, dDiv, dMod, dPow, dNeg, dUn, dIx, dInt1, dAbs, dChain, dAnd, dOr, dNot, dAndV, dOrV, dNotV, dTru, dTruB, dIf, dTup, dLst, mkL, dSlice, dSl, doNone, doSome, dSum, dAll, dAny, dList, dTuple, dMax, dMin, eq_ii, ne_ii, eq_ss, ne_ss, eq_bb, ne_bb, eq_nn, ne_nn, dIsN, dNotN, dFgt, dIsB, dNotB, gN, gT, gsNil, gsCons, gSet, dBM, dAppend, dClear, dFld, dFldS, dProp, dCall, dMeth, dMake, dMakeN, daStar, dDictP, dCallO, dFor, dLc, diR1, diR2, diR3, diL, diT, diRv, diS, diE, dFmt, dFStr, dJs, dCallN, dFrzE, frz_l, in_ss, notin_ss, drR1, drR2, dListR, dRaise, dRaise0, dTryAs, dTry, dXf, dAddO, dInO, isL, insOf, Option.some.injEq, List.cons.injEq, D.int.injEq, D.bl.injEq, D.str.injEq, D.lst.injEq, D.tup.injEq, D.ref.injEq, MO.lst.injEq, MO.ins.injEq, mset_mset, and_true, true_and, and_self, and_assoc, exists_eq_left', exists_eq_left, exists_and_left, exists_and_right, exists_eq', List.set_cons_zero, List.set_cons_succ, decide_eq_true_eq, sqOf, lsOf, List.length_cons, List.length_nil, sizeLine_eq, List.append_nil, List.cons_append, List.nil_append, if_true, if_false, Bool.false_eq_true, reduceCtorEq, reduceIte, Nat.reduceAdd, Nat.reduceLeDiff, mset_same, Option.bind_some, List.length_map, Prod.mk.injEq, at0, at1, at2, at3, at4, at5, at6, at7, ix30, ix31, ix32, ix20, ix21, ix10, isi_ii, isi_ib, isi_ll, isi_bb, isi_ss, isi_tt, isi_is, isi_si, Bool.not_true, Bool.not_false, dCopyK, dGet2K, dDctR, dDisp1, dFrzEK, ha, pool]
  refine ⟨⟨by omega, by omega, by decide⟩, ?_⟩
  by_cases hc : (10 : Int) ^ Int.toNat 18 ≤ c
  · rw [if_pos hc]
    exact ⟨by omega, wide_div (by omega) l2 (by decide) (by decide), q _ _ (Int.emod_nonneg _ (by omega)) (Int.emod_lt_of_pos _ (by omega))⟩
  · rw [if_neg hc]
    have c0 : 0 ≤ c % 2147483489 := Int.emod_nonneg _ (by omega)
    have c1 : c % 2147483489 < 2147483489 := Int.emod_lt_of_pos _ (by omega)
    generalize c % 2147483489 = s at *
    have z0 : 0 ≤ (s * 7919 + (k + 1) * 104693 + 12011) ^ Int.toNat 5 % 2147483647 := Int.emod_nonneg _ (by omega)
    have z1 : (s * 7919 + (k + 1) * 104693 + 12011) ^ Int.toNat 5 % 2147483647 < 2147483647 := Int.emod_lt_of_pos _ (by omega)
    generalize (s * 7919 + (k + 1) * 104693 + 12011) ^ Int.toNat 5 % 2147483647 = z at *
    have y0 : 0 ≤ (k + 1) * (k + 1) := Int.mul_nonneg (by omega) (by omega)
    have y1 : (k + 1) * (k + 1) ≤ 100001 * 100001 := Int.mul_le_mul (by omega) (by omega) (by omega) (by omega)
    generalize (k + 1) * (k + 1) = y at *
    refine ⟨by omega, mul_small (by omega), mul_small (by omega), ⟨by omega, by omega, by omega⟩, by omega, mul_small (by omega), mul_small (by omega), ⟨by omega, by omega, by omega⟩, by omega, div_ok (by omega) (by omega), by omega, ?_⟩
    exact q _ _ (Int.emod_nonneg _ (by omega)) (Int.emod_lt_of_pos _ (by omega))
theorem draw_k {K : Fr0} {a : Addr} {lim c v k : Int} {m : M} {Q : D → M → Prop} {E : XD → M → Prop} (l1 : 1 ≤ lim) (l2 : lim.natAbs < 2 ^ 200) (k0 : 0 ≤ k) (k1 : k ≤ 100000) (h : ∀ r v', 0 ≤ r → r < lim → Q (.int r) (mset m a (pool c v' (k + 1)))) (ha : m a = some (pool c v k)) : sp_law_draw K [.ref a, .int lim] m Q E := ⟨a, lim, c, v, k, rfl, ha, ⟨l1, l2⟩, ⟨k0, k1⟩, h⟩
theorem mset_id {m : M} {a : Addr} {o : MO} (h : m a = some o) : mset m a o = m := by
  funext b
  unfold mset
  by_cases e : b = a
  · rw [if_pos e, e, h]
  · rw [if_neg e]
theorem draw_s {K : Fr0} {a : Addr} {lim c v k : Int} {m : M} {Q : D → M → Prop} {E : XD → M → Prop} (l1 : 1 ≤ lim) (l2 : lim.natAbs < 2 ^ 200) (k0 : 0 ≤ k) (k1 : k ≤ 100000) (h : ∀ r v', 0 ≤ r → r < lim → Q (.int r) (mset m a (pool c v' (k + 1)))) : sp_law_draw K [.ref a, .int lim] (mset m a (pool c v k)) Q E :=
  draw_k l1 l2 k0 k1 (fun r v' h0 h1 => by rw [mset_mset]; exact h r v' h0 h1) mset_same
theorem len_l (a : Str) : a.length = a.cps.toList.length := by
  rw [Array.length_toList]
  rfl
def SG : Str := "abcdefghijklmnopqrstuvwxyz0123456789_"
theorem SG_len : SG.cps.toList.length = 37 := by decide +kernel
theorem SG_ok : ∀ i : Nat, i < 37 → chOk (SG.cps.toList.getD i 0) = true := by decide +kernel
theorem SG_l : ∀ i : Nat, i < 26 → chL (SG.cps.toList.getD i 0) = true := by decide +kernel
theorem SG_inj : ∀ i : Nat, i < 37 → ∀ j : Nat, j < 37 → SG.cps.toList.getD i 0 = SG.cps.toList.getD j 0 → i = j := by decide +kernel
theorem SG_at {i : Int} (h0 : 0 ≤ i) (h1 : i < 37) : atI SG.cps.toList i = some (SG.cps.toList.getD i.toNat 0) := by
  obtain ⟨n, rfl⟩ : ∃ n : Nat, i = n := ⟨i.toNat, by omega⟩
  refine atI_nat ?_
  rw [List.getD_eq_getElem?_getD, Int.toNat_natCast, List.getElem?_eq_getElem (by rw [SG_len]; omega)]
  rfl
theorem x_str : Str.ofString "x" = ⟨#[120]⟩ := by decide +kernel
theorem mulx_ok : ∀ n : Nat, n < 26 → PySem.MulOk ⟨#[120]⟩ (n : Int) := by unfold PySem.MulOk; decide +kernel
theorem map_strs {α : Type} (f : α → Str) (l : List α) : l.map (fun i => D.str (f i)) = (l.map f).map D.str := by rw [List.map_map]; rfl
theorem nd_map {β : Type} {f : Nat → β} {n : Nat} (h : ∀ i, i < n → ∀ j, j < n → f i = f j → i = j) : ((List.range n).map f).Nodup :=
  List.pairwise_map.mpr (List.Pairwise.imp_of_mem (fun {x y} hx hy hne e => hne (h x (List.mem_range.mp hx) y (List.mem_range.mp hy) e)) List.nodup_range)
theorem pure_law_names {K : Fr0} {mg : Str → Option Value} (T : Txt K mg) (ds : List D) (m : M) (Q : D → M → Prop) (E : XD → M → Prop) (h : sp_law_names K ds m Q E) : t_law_names K (fun x _ m => E x m) { nx := fun _ m => Q .non m, rt := Q } (startD nm_law_names ds) m := by
  obtain ⟨a, n, c, v, k, rfl, ha, ⟨n1, n4⟩, ⟨k0, k1⟩, q⟩ := h
  have em : m = mset m a (pool c v k) := (mset_id ha).symm
  show t_law_names K _ _ [some (.ref a), some (.int n), none, none, none, none, none, none] m
  rw [em]
  clear em
  unfold t_law_names
  walk_at "zn"
  walk_at "zn"
  refine draw_s (by omega) (by omega) (by omega) (by omega) (fun r v1 r0 r1 => ?_)
  walk_at "zn"
  obtain ⟨sz, hsz⟩ : ∃ sz : Nat, 1 + r = sz := ⟨(1 + r).toNat, by omega⟩
  rw [hsz]
  have s6 : 1 ≤ sz ∧ sz ≤ 5 := by omega
  refine draw_s (by omega) (by omega) (by omega) (by omega) (fun r2 v2 r20 r21 => ?_)
  rw [show (Str.ofString "abcdefghijklmnopqrstuvwxyz0123456789_") = SG from rfl]
  try simp only [dSeq]
  try simp only [dIfS, dTest, dOp, dVar, dC, dCB, daCons, daNil, dSet, dRet, dNext, dDrop, dAsg, dPar, dAug, dAddI, dBreak, dCont, dRetN, slot, dLen, dCmpI, dSub, dAdd, dMul, dDiv, dMod, dPow, dNeg, dUn, dIx, dInt1, dAbs, dChain, dAnd, dOr, dNot, dAndV, dOrV, dNotV, dTru, dTruB, dIf, dTup, dLst, mkL, dSlice, dSl, doNone, doSome, dSum, dAll, dAny, dList, dTuple, dMax, dMin, eq_ii, ne_ii, eq_ss, ne_ss, eq_bb, ne_bb, eq_nn, ne_nn, dIsN, dNotN, dFgt, dIsB, dNotB, gN, gT, gsNil, gsCons, gSet, dBM, dAppend, dClear, dFld, dFldS, dProp, dCall, dMeth, dMake, dMakeN, daStar, dDictP, dCallO, dFor, dLc, diR1, diR2, diR3, diL, diT, diRv, diS, diE, dFmt, dFStr, dJs, dCallN, dFrzE, frz_l, in_ss, notin_ss, drR1, drR2, dListR, dRaise, dRaise0, dTryAs, dTry, dXf, dAddO, dInO, isL, insOf, Option.some.injEq, List.cons.injEq, D.int.injEq, D.bl.injEq, D.str.injEq, D.lst.injEq, D.tup.injEq, D.ref.injEq, MO.lst.injEq, MO.ins.injEq, mset_mset, and_true, true_and, and_self, and_assoc, exists_eq_left', exists_eq_left, exists_and_left, exists_and_right, exists_eq', List.set_cons_zero, List.set_cons_succ, decide_eq_true_eq, sqOf, lsOf, List.length_cons, List.length_nil, sizeLine_eq, List.append_nil, List.cons_append, List.nil_append, if_true, if_false, Bool.false_eq_true, reduceCtorEq, reduceIte, Nat.reduceAdd, Nat.reduceLeDiff, mset_same, Option.bind_some, List.length_map, Prod.mk.injEq, at0, at1, at2, at3, at4, at5, at6, at7, ix30, ix31, ix32, ix20, ix21, ix10, isi_ii, isi_ib, isi_ll, isi_bb, isi_ss, isi_tt, isi_is, isi_si, Bool.not_true, Bool.not_false, dCopyK, dGet2K, dDctR, dDisp1, dFrzEK, SG_at r20 (by omega)]
  have lo : chL (SG.cps.toList.getD r2.toNat 0) = true := SG_l _ (by omega)
  have lk : chOk (SG.cps.toList.getD r2.toNat 0) = true := SG_ok _ (by omega)
  generalize SG.cps.toList.getD r2.toNat 0 = c0 at *
  have SGl : SG.length = 37 := by decide +kernel
  refine ⟨by omega, by omega, by omega, ?_⟩
  rw [Int.toNat_natCast]
  obtain ⟨P1, hP1⟩ : ∃ P : Nat → DSt → M → Prop, ∀ j rr m', P j rr m' ↔ (∃ (z : Str) (cs : List Nat) (v' : Int) (o5 : Option D), z.cps.toList = c0 :: cs ∧ cs.length = j ∧ (∀ x ∈ c0 :: cs, chOk x = true) ∧ m' = mset m a (pool c v' (k + 2 + j)) ∧ rr = [some (.ref a), some (.int n), some (.str SG), some (.int sz), some (.str z), o5, none, none]) := ⟨_, fun _ _ _ => Iff.rfl⟩
  refine ⟨P1, (hP1 0 _ _).mpr ⟨⟨#[c0]⟩, [], v2, _, rfl, rfl, fun x hx => by rw [List.mem_singleton.mp hx]; exact lk, by rw [show k + 2 + ((0 : Nat) : Int) = k + 1 + 1 by omega], rfl⟩, ?_, ?_⟩
  · intro j d rr m' hd hp
    obtain ⟨z, cs, v', o5, hz, hl, hall, rfl, rfl⟩ := (hP1 _ _ _).mp hp
    obtain ⟨rfl, hj⟩ := rngD_at hd
    walk_at "zn"
    refine draw_s (by omega) (by omega) (by omega) (by omega) (fun r3 v3 r30 r31 => ?_)
    have zl : z.length = j + 1 := by rw [len_l, hz, List.length_cons, hl]
    try simp only [dIfS, dTest, dOp, dVar, dC, dCB, daCons, daNil, dSet, dRet, dNext, dDrop, dAsg, dPar, dAug, dAddI, dBreak, dCont, dRetN, slot, dLen, dCmpI, dSub, dAdd, dMul, dDiv, dMod, dPow, dNeg, dUn, dIx, dInt1, dAbs, dChain, dAnd, dOr, dNot, dAndV, dOrV, dNotV, dTru, dTruB, dIf, dTup, dLst, mkL, dSlice, dSl, doNone, doSome, dSum, dAll, dAny, dList, dTuple, dMax, dMin, eq_ii, ne_ii, eq_ss, ne_ss, eq_bb, ne_bb, eq_nn, ne_nn, dIsN, dNotN, dFgt, dIsB, dNotB, gN, gT, gsNil, gsCons, gSet, dBM, dAppend, dClear, dFld, dFldS, dProp, dCall, dMeth, dMake, dMakeN, daStar, dDictP, dCallO, dFor, dLc, diR1, diR2, diR3, diL, diT, diRv, diS, diE, dFmt, dFStr, dJs, dCallN, dFrzE, frz_l, in_ss, notin_ss, drR1, drR2, dListR, dRaise, dRaise0, dTryAs, dTry, dXf, dAddO, dInO, isL, insOf, Option.some.injEq, List.cons.injEq, D.int.injEq, D.bl.injEq, D.str.injEq, D.lst.injEq, D.tup.injEq, D.ref.injEq, MO.lst.injEq, MO.ins.injEq, mset_mset, and_true, true_and, and_self, and_assoc, exists_eq_left', exists_eq_left, exists_and_left, exists_and_right, exists_eq', List.set_cons_zero, List.set_cons_succ, decide_eq_true_eq, sqOf, lsOf, List.length_cons, List.length_nil, sizeLine_eq, List.append_nil, List.cons_append, List.nil_append, if_true, if_false, Bool.false_eq_true, reduceCtorEq, reduceIte, Nat.reduceAdd, Nat.reduceLeDiff, mset_same, Option.bind_some, List.length_map, Prod.mk.injEq, at0, at1, at2, at3, at4, at5, at6, at7, ix30, ix31, ix32, ix20, ix21, ix10, isi_ii, isi_ib, isi_ll, isi_bb, isi_ss, isi_tt, isi_is, isi_si, Bool.not_true, Bool.not_false, dCopyK, dGet2K, dDctR, dDisp1, dFrzEK, SG_at r30 (by omega)]
    have ck : chOk (SG.cps.toList.getD r3.toNat 0) = true := SG_ok _ (by omega)
    generalize SG.cps.toList.getD r3.toNat 0 = c3 at *
    refine ⟨by decide, by rw [zl]; show j + 1 + 1 ≤ _; omega, (hP1 _ _ _).mpr ⟨_, cs ++ [c3], v3, _, by rw [cps_app, hz]; rfl, by rw [List.length_append, hl]; rfl, fun x hx => ?_, by rw [show k + 2 + ((j + 1 : Nat) : Int) = k + 2 + (j : Int) + 1 by omega], rfl⟩⟩
    rw [← List.cons_append] at hx
    rcases List.mem_append.mp hx with h | h
    · exact hall x h
    · rw [List.mem_singleton.mp h]; exact ck
  intro rr m' hp
  obtain ⟨z, cs, v', o5, hz, hl, hall, rfl, rfl⟩ := (hP1 _ _ _).mp hp
  rw [rngD_len] at hl ⊢
  clear hp hP1 P1
  have zl : z.length = sz + 1 := by rw [len_l, hz, List.length_cons, hl]
  walk_at "zn"
  refine draw_s (by omega) (by omega) (by omega) (by omega) (fun r4 v4 r40 r41 => ?_)
  walk_at "zn"
  obtain ⟨pl, hpl⟩ : ∃ pl : Nat, 1 + r4 = pl := ⟨(1 + r4).toNat, by omega⟩
  rw [hpl]
  refine draw_s (by omega) (by omega) (by omega) (by omega) (fun r5 v5 r50 r51 => ?_)
  obtain ⟨fs, hfs⟩ : ∃ fs : Nat, r5 = fs := ⟨r5.toNat, by omega⟩
  subst hfs
  walk_at "zn"
  refine draw_s (by omega) (by omega) (by omega) (by omega) (fun r6 v6 r60 r61 => ?_)
  walk_at "zn"
  by_cases hr : r6 = 1
  · rw [if_pos hr]
    walk_at "zn"
    refine ⟨by omega, by omega, ?_⟩
    rw [Int.toNat_natCast]
    have cz : ∀ i : Nat, (z ++ PySem.Txt.mul (Str.ofString "x") (i : Int)).cps.toList = c0 :: (cs ++ List.replicate i 120) := fun i => by
      rw [cps_app, hz, show Str.ofString "x" = ⟨#[120]⟩ by decide +kernel, PyProof.Rows.mul_one_list, Int.toNat_natCast]
      rfl
    refine lc_rng (fun i => .str (z ++ PySem.Txt.mul (Str.ofString "x") (i : Int))) (by rw [sizeLine_eq]; omega) (fun i hi Q' q' => ?_) ?_
    · simp only [wipeD]
      rw [Int.zero_add]
      walk_at "zn"
      have ml := congrArg List.length (cz i)
      rw [List.length_cons, List.length_append, List.length_replicate, ← len_l, app_len] at ml
      refine ⟨_, _, rfl, rfl, by rw [x_str]; exact mulx_ok _ (by omega), ?_⟩
      walk_at "zs"
      exact ⟨by omega, q'⟩
    rw [map_strs]
    refine q _ v6 _ (by simp) (nd_map fun i hi j hj e => ?_) (fun y hy => ?_) (by omega) (by omega)
    · have e1 := congrArg (fun x : Str => x.cps.toList.length) e
      simp only [cz, List.length_cons, List.length_append, List.length_replicate] at e1
      omega
    · obtain ⟨i, hi, rfl⟩ := List.mem_map.mp hy
      have hi := List.mem_range.mp hi
      refine nameB_of ⟨by rw [cz, List.length_cons, List.length_append, List.length_replicate]; omega, ⟨c0, _, cz i, lo⟩, fun x hx => ?_⟩
      rw [cz, List.mem_cons, List.mem_append] at hx
      rcases hx with rfl | hx | hx
      · exact lk
      · exact hall x (List.mem_cons_of_mem _ hx)
      · rw [(List.mem_replicate.mp hx).2]
        decide +kernel
  · rw [if_neg hr]
    walk_at "zn"
    refine ⟨by omega, by omega, ?_⟩
    rw [Int.toNat_natCast]
    have SGl : SG.length = 37 := by decide +kernel
    have p1 : 1 ≤ pl ∧ pl ≤ sz := by omega
    have ci : ∀ i : Nat, (fs + 11 * i) % 37 < 37 := fun i => Nat.mod_lt _ (by omega)
    have cz : ∀ i : Nat, (cutS z none (some (pl : Int)) ++ ⟨#[SG.cps.toList.getD ((fs + 11 * i) % 37) 0]⟩ ++ cutS z (some (pl : Int)) none).cps.toList = c0 :: (cs.take (pl - 1) ++ [SG.cps.toList.getD ((fs + 11 * i) % 37) 0] ++ cs.drop (pl - 1)) := fun i => by
      rw [cps_app, cps_app, cut_to, cut_fro, hz]
      obtain ⟨p, rfl⟩ : ∃ p, pl = p + 1 := ⟨pl - 1, by omega⟩
      rw [List.take_succ_cons, List.drop_succ_cons]
      simp
    refine lc_rng (fun i => .str (cutS z none (some (pl : Int)) ++ ⟨#[SG.cps.toList.getD ((fs + 11 * i) % 37) 0]⟩ ++ cutS z (some (pl : Int)) none)) (by rw [sizeLine_eq]; omega) (fun i hi Q' q' => ?_) ?_
    · simp only [wipeD]
      have em : (((fs : Int) + 11 * (0 + (i : Int))) % 37) = (((fs + 11 * i) % 37 : Nat) : Int) := by simp
      have ea := SG_at (i := (((fs + 11 * i) % 37 : Nat) : Int)) (by omega) (by have := ci i; omega)
      rw [Int.toNat_natCast] at ea
      walk_at "zn"
      rw [em]
      try simp only [dSeq]
      try simp only [dIfS, dTest, dOp, dVar, dC, dCB, daCons, daNil, dSet, dRet, dNext, dDrop, dAsg, dPar, dAug, dAddI, dBreak, dCont, dRetN, slot, dLen, dCmpI, dSub, dAdd, dMul, dDiv, dMod, dPow, dNeg, dUn, dIx, dInt1, dAbs, dChain, dAnd, dOr, dNot, dAndV, dOrV, dNotV, dTru, dTruB, dIf, dTup, dLst, mkL, dSlice, dSl, doNone, doSome, dSum, dAll, dAny, dList, dTuple, dMax, dMin, eq_ii, ne_ii, eq_ss, ne_ss, eq_bb, ne_bb, eq_nn, ne_nn, dIsN, dNotN, dFgt, dIsB, dNotB, gN, gT, gsNil, gsCons, gSet, dBM, dAppend, dClear, dFld, dFldS, dProp, dCall, dMeth, dMake, dMakeN, daStar, dDictP, dCallO, dFor, dLc, diR1, diR2, diR3, diL, diT, diRv, diS, diE, dFmt, dFStr, dJs, dCallN, dFrzE, frz_l, in_ss, notin_ss, drR1, drR2, dListR, dRaise, dRaise0, dTryAs, dTry, dXf, dAddO, dInO, isL, insOf, Option.some.injEq, List.cons.injEq, D.int.injEq, D.bl.injEq, D.str.injEq, D.lst.injEq, D.tup.injEq, D.ref.injEq, MO.lst.injEq, MO.ins.injEq, mset_mset, and_true, true_and, and_self, and_assoc, exists_eq_left', exists_eq_left, exists_and_left, exists_and_right, exists_eq', List.set_cons_zero, List.set_cons_succ, decide_eq_true_eq, sqOf, lsOf, List.length_cons, List.length_nil, sizeLine_eq, List.append_nil, List.cons_append, List.nil_append, if_true, if_false, Bool.false_eq_true, reduceCtorEq, reduceIte, Nat.reduceAdd, Nat.reduceLeDiff, mset_same, Option.bind_some, List.length_map, Prod.mk.injEq, at0, at1, at2, at3, at4, at5, at6, at7, ix30, ix31, ix32, ix20, ix21, ix10, isi_ii, isi_ib, isi_ll, isi_bb, isi_ss, isi_tt, isi_is, isi_si, Bool.not_true, Bool.not_false, dCopyK, dGet2K, dDctR, dDisp1, dFrzEK, ea]
      have u1 : (⟨#[SG.cps.toList.getD ((fs + 11 * i) % 37) 0]⟩ : Str).length = 1 := rfl
      have c1 := cutS_length z none (some (pl : Int))
      have c2 := cutS_length z (some (pl : Int)) none
      exact ⟨by omega, mul_smallL (by omega), by omega, by omega, by omega, by omega, by rw [app_len]; omega, q'⟩
    rw [map_strs]
    refine q _ v6 _ (by simp) (nd_map fun i hi j hj e => ?_) (fun y hy => ?_) (by omega) (by omega)
    · have e1 := congrArg (fun x : Str => x.cps.toList) e
      rw [cz, cz] at e1
      have e2 := List.append_cancel_right (List.cons.inj e1).2
      have e3 := List.append_cancel_left e2
      have e4 := SG_inj _ (ci i) _ (ci j) (List.cons.inj e3).1
      omega
    · obtain ⟨i, hi, rfl⟩ := List.mem_map.mp hy
      refine nameB_of ⟨by rw [cz]; simp only [List.length_cons, List.length_append, List.length_take, List.length_drop, List.length_nil]; omega, ⟨c0, _, cz i, lo⟩, fun x hx => ?_⟩
      rw [cz, List.mem_cons, List.mem_append, List.mem_append, List.mem_singleton] at hx
      rcases hx with rfl | (hx | rfl) | hx
      · exact lk
      · exact hall x (List.mem_cons_of_mem _ (List.mem_of_mem_take hx))
      · exact SG_ok _ (ci i)
      · exact hall x (List.mem_cons_of_mem _ (List.mem_of_mem_drop hx))
theorem at_map {α : Type} {g : α → D} {l : List α} {r : Int} (h0 : 0 ≤ r) (h1 : r < l.length) : ∃ x ∈ l, atI (l.map g) r = some (g x) := by
  obtain ⟨n, rfl⟩ : ∃ n : Nat, r = n := ⟨r.toNat, by omega⟩
  obtain ⟨x, hx⟩ : ∃ x, l[n]? = some x := ⟨_, List.getElem?_eq_getElem (by omega)⟩
  exact ⟨x, mem_at hx, atI_nat (by rw [List.getElem?_map, hx]; rfl)⟩
theorem dEq_nil {m : M} {x : D} {xs : List D} {n : Nat} {Q : D → M → Prop} (hn : n < 64) (h : vD m x = .lst xs) (c : xs.all (clB n) = true) (q : Q (.bl xs.isEmpty) m) : dEq x (.lst []) m Q := by
  refine dEq_data (n := n + 1) (by omega) (by rw [h]; exact c) rfl (fun b hb => ?_)
  rw [h] at hb
  cases xs with
  | nil =>
    have : b = true := hb.mpr rfl
    rw [this]
    exact q
  | cons y ys =>
    cases b with
    | false => exact q
    | true =>
      have := hb.mp rfl
      cases this
theorem cl_arr {a : Arr} {n : Nat} (h1 : nameB a.f = true) (h2 : nameB a.s = true) : clB (n + 1) a.D = true := by
  show ([D.str a.f, .str a.s, .int a.g].all (clB n)) = true
  simp [cl_nm h1, cl_nm h2]
  cases n <;> rfl
theorem pairs_nd {zs : List Str} {n : Nat} (hl : zs.length = n) (nd : zs.Nodup) : ((List.range (n * n)).map fun k => (zs.getD (k / n) "", zs.getD (k % n) "")).Nodup := by
  have inj : ∀ i j, i < n → j < n → zs.getD i "" = zs.getD j "" → i = j := by
    intro i j hi hj e
    rw [List.getD_eq_getElem?_getD, List.getD_eq_getElem?_getD, List.getElem?_eq_getElem (by omega), List.getElem?_eq_getElem (by omega)] at e
    have e : zs[i] = zs[j] := e
    exact (List.getElem?_inj (by omega) nd).mp (by rw [List.getElem?_eq_getElem (by omega), List.getElem?_eq_getElem (by omega), e])
  refine nd_map fun i hi j hj e => ?_
  have h0 : 0 < n := Nat.pos_of_ne_zero fun h => by subst h; omega
  injection e with e1 e2
  have d1 := inj _ _ ((Nat.div_lt_iff_lt_mul h0).mpr hi) ((Nat.div_lt_iff_lt_mul h0).mpr hj) e1
  have d2 := inj _ _ (Nat.mod_lt i h0) (Nat.mod_lt j h0) e2
  have m1 := Nat.mod_add_div i n
  have m2 := Nat.mod_add_div j n
  rw [d1, d2] at m1
  omega
structure AG (zs : List Str) (n q : Nat) (as : List Arr) : Prop where
  sub : (as.map fun a => (a.f, a.s)).Sublist ((List.range q).map fun k => (zs.getD (k / n) "", zs.getD (k % n) ""))
  g : ∀ a ∈ as, 1 ≤ a.g ∧ a.g ≤ 12
  len : as.length ≤ 12
theorem AG.up {zs : List Str} {n q : Nat} {as : List Arr} (h : AG zs n q as) : AG zs n (q + 1) as := ⟨by
  rw [List.range_succ, List.map_append]
  exact h.sub.trans (List.sublist_append_left _ _), h.g, h.len⟩
theorem AG.add {zs : List Str} {n q : Nat} {as : List Arr} (h : AG zs n q as) {g : Int} (hg : 1 ≤ g ∧ g ≤ 12) (hl : as.length < 12) : AG zs n (q + 1) (as ++ [⟨zs.getD (q / n) "", zs.getD (q % n) "", g⟩]) := ⟨by
  rw [List.range_succ, List.map_append, List.map_append]
  exact h.sub.append (List.Sublist.refl _), fun a ha => by
    rcases List.mem_append.mp ha with ha | ha
    · exact h.g a ha
    · rw [List.mem_singleton.mp ha]; exact hg, by rw [List.length_append, List.length_singleton]; omega⟩
theorem AG.ok {zs : List Str} {n : Nat} {as : List Arr} (h : AG zs n (n * n) as) (hl : zs.length = n) (nd : zs.Nodup) (hn : 0 < n) : AsOk zs as := by
  have mem : ∀ a ∈ as, ∃ k, k < n * n ∧ zs.getD (k / n) "" = a.f ∧ zs.getD (k % n) "" = a.s := fun a ha => by
    have := h.sub.subset (List.mem_map_of_mem (f := fun a : Arr => (a.f, a.s)) ha)
    obtain ⟨k, hk, e⟩ := List.mem_map.mp this
    injection e with e1 e2
    exact ⟨k, List.mem_range.mp hk, e1, e2⟩
  have at_ : ∀ i, i < n → zs.getD i "" ∈ zs := fun i hi => by
    rw [List.getD_eq_getElem?_getD, List.getElem?_eq_getElem (by omega)]
    exact List.getElem_mem (by omega)
  refine ⟨fun a ha => ?_, fun a ha => ?_, h.g, h.sub.nodup (pairs_nd hl nd)⟩
  · obtain ⟨k, hk, e1, _⟩ := mem a ha
    rw [← e1]
    exact at_ _ ((Nat.div_lt_iff_lt_mul hn).mpr hk)
  · obtain ⟨k, hk, _, e2⟩ := mem a ha
    rw [← e2]
    exact at_ _ (Nat.mod_lt _ hn)
theorem str_I {zs : List Str} {i : Nat} (h : i < zs.length) : atI (zs.map D.str) (i : Int) = some (.str (zs.getD i "")) := atI_nat (by
  rw [List.getElem?_map, List.getElem?_eq_getElem h, List.getD_eq_getElem?_getD, List.getElem?_eq_getElem h]
  rfl)
theorem pure_law_task {K : Fr0} {mg : Str → Option Value} (T : Txt K mg) (ds : List D) (m : M) (Q : D → M → Prop) (E : XD → M → Prop) (h : sp_law_task K ds m Q E) : t_law_task K (fun x _ m => E x m) { nx := fun _ m => Q .non m, rt := Q } (startD nm_law_task ds) m := by
  obtain ⟨a, c, v, k, rfl, ha, ⟨k0, k1⟩, q⟩ := h
  have em : m = mset m a (pool c v k) := (mset_id ha).symm
  show t_law_task K _ _ [some (.ref a), none, none, none, none, none, none, none, none, none, none, none, none, none] m
  rw [em]
  clear em
  unfold t_law_task
  walk_at "zn"
  refine draw_s (by omega) (by omega) (by omega) (by omega) (fun r v1 r0 r1 => ?_)
  walk_at "zn"
  obtain ⟨n, hn⟩ : ∃ n : Nat, 1 + r = n := ⟨(1 + r).toNat, by omega⟩
  rw [hn]
  have n4 : 1 ≤ n ∧ n ≤ 4 := by omega
  refine ⟨a, n, _, _, _, rfl, mset_same, n4, ⟨by omega, by omega⟩, fun zs v2 k2 zl nd nms k20 k21 => ?_⟩
  rw [mset_mset]
  walk_at "zn"
  refine draw_s (by omega) (by omega) (by omega) (by omega) (fun sh v3 sh0 sh1 => ?_)
  walk_at "zn"
  intro p hp
  have hpa : p ≠ a := fun e => by rw [e, mset_same] at hp; cases hp
  have hp0 : m p = none := by rw [mset_ne hpa] at hp; exact hp
  rw [mset_comm hpa.symm]
  walk_at "zn"
  refine ⟨by omega, by omega, ?_⟩
  rw [Int.toNat_natCast]
  obtain ⟨P1, hP1⟩ : ∃ P : Nat → DSt → M → Prop, ∀ i rr m', P i rr m' ↔ (∃ (as : List Arr) (v' : Int) (o5 o6 o7 o8 : Option D), AG zs n (i * n) as ∧ m' = mset (mset m p (.lst (as.map Arr.D))) a (pool c v' (k2 + 1 + 2 * (i * n : Nat))) ∧ rr = [some (.ref a), some (.int n), some (.lst (zs.map D.str)), some (.int sh), some (.ref p), o5, o6, o7, o8, none, none, none, none, none]) := ⟨_, fun _ _ _ => Iff.rfl⟩
  refine ⟨P1, (hP1 0 _ _).mpr ⟨[], v3, _, _, _, _, ⟨by simp, by simp, by simp⟩, by simp, rfl⟩, ?_, ?_⟩
  · intro i d rr m' hd hp1
    obtain ⟨as, v4, o5, o6, o7, o8, ag, rfl, rfl⟩ := (hP1 _ _ _).mp hp1
    obtain ⟨rfl, hi⟩ := rngD_at hd
    rw [Int.zero_add]
    walk_at "zn"
    refine ⟨by omega, by omega, ?_⟩
    rw [Int.toNat_natCast]
    obtain ⟨P2, hP2⟩ : ∃ P : Nat → DSt → M → Prop, ∀ j rr m', P j rr m' ↔ (∃ (as : List Arr) (v' : Int) (o6 o7 o8 : Option D), AG zs n (i * n + j) as ∧ m' = mset (mset m p (.lst (as.map Arr.D))) a (pool c v' (k2 + 1 + 2 * (i * n + j : Nat))) ∧ rr = [some (.ref a), some (.int n), some (.lst (zs.map D.str)), some (.int sh), some (.ref p), some (.int i), o6, o7, o8, none, none, none, none, none]) := ⟨_, fun _ _ _ => Iff.rfl⟩
    refine ⟨P2, (hP2 0 _ _).mpr ⟨as, v4, _, _, _, ag, rfl, rfl⟩, ?_, ?_⟩
    · intro j d rr m' hd hp2
      obtain ⟨as, v5, o6, o7, o8, ag, rfl, rfl⟩ := (hP2 _ _ _).mp hp2
      obtain ⟨rfl, hj⟩ := rngD_at hd
      rw [Int.zero_add]
      have hin : i * n ≤ 3 * 4 := Nat.mul_le_mul (by omega) (by omega)
      walk_at "zn"
      refine draw_s (by omega) (by omega) (by omega) (by omega) (fun r3 v6 r30 r31 => ?_)
      walk_at "zn"
      refine draw_s (by omega) (by omega) (by omega) (by omega) (fun r4 v7 r40 r41 => ?_)
      have eq1 : (i * n + j) / n = i := by rw [Nat.mul_comm, Nat.mul_add_div (by omega), Nat.div_eq_of_lt hj, Nat.add_zero]
      have eq2 : (i * n + j) % n = j := by rw [Nat.mul_comm, Nat.mul_add_mod, Nat.mod_eq_of_lt hj]
      have al := ag.len
      have fin : ∀ (as' : List Arr), AG zs n (i * n + (j + 1)) as' → ∀ m2, m2 = mset (mset m p (.lst (as'.map Arr.D))) a (pool c v7 (k2 + 1 + 2 * (i * n + (j + 1) : Nat))) → ∀ o7 o8, P2 (j + 1) [some (.ref a), some (.int n), some (.lst (zs.map D.str)), some (.int sh), some (.ref p), some (.int i), some (.int j), o7, o8, none, none, none, none, none] m2 := fun as' h m2 e o7 o8 => (hP2 _ _ _).mpr ⟨as', v7, _, _, _, h, e, rfl⟩
      have ek : k2 + 1 + 2 * ((i * n + j : Nat) : Int) + 1 + 1 = k2 + 1 + 2 * ((i * n + (j + 1) : Nat) : Int) := by omega
      rw [ek]
      walk_at "zn"
      by_cases c1 : r3 < sh
      · rw [if_pos (by simpa using c1)]
        walk_at "zn"
        refine ⟨_, lsOf_ref (by rw [mset_ne hpa]; exact mset_same), ?_⟩
        rw [List.length_map]
        by_cases c2 : (as.length : Int) < 12
        · rw [if_pos c2]
          try simp only [dSeq]
          try simp only [dIfS, dTest, dOp, dVar, dC, dCB, daCons, daNil, dSet, dRet, dNext, dDrop, dAsg, dPar, dAug, dAddI, dBreak, dCont, dRetN, slot, dLen, dCmpI, dSub, dAdd, dMul, dDiv, dMod, dPow, dNeg, dUn, dIx, dInt1, dAbs, dChain, dAnd, dOr, dNot, dAndV, dOrV, dNotV, dTru, dTruB, dIf, dTup, dLst, mkL, dSlice, dSl, doNone, doSome, dSum, dAll, dAny, dList, dTuple, dMax, dMin, eq_ii, ne_ii, eq_ss, ne_ss, eq_bb, ne_bb, eq_nn, ne_nn, dIsN, dNotN, dFgt, dIsB, dNotB, gN, gT, gsNil, gsCons, gSet, dBM, dAppend, dClear, dFld, dFldS, dProp, dCall, dMeth, dMake, dMakeN, daStar, dDictP, dCallO, dFor, dLc, diR1, diR2, diR3, diL, diT, diRv, diS, diE, dFmt, dFStr, dJs, dCallN, dFrzE, frz_l, in_ss, notin_ss, drR1, drR2, dListR, dRaise, dRaise0, dTryAs, dTry, dXf, dAddO, dInO, isL, insOf, Option.some.injEq, List.cons.injEq, D.int.injEq, D.bl.injEq, D.str.injEq, D.lst.injEq, D.tup.injEq, D.ref.injEq, MO.lst.injEq, MO.ins.injEq, mset_mset, and_true, true_and, and_self, and_assoc, exists_eq_left', exists_eq_left, exists_and_left, exists_and_right, exists_eq', List.set_cons_zero, List.set_cons_succ, decide_eq_true_eq, sqOf, lsOf, List.length_cons, List.length_nil, sizeLine_eq, List.append_nil, List.cons_append, List.nil_append, if_true, if_false, Bool.false_eq_true, reduceCtorEq, reduceIte, Nat.reduceAdd, Nat.reduceLeDiff, mset_same, Option.bind_some, List.length_map, Prod.mk.injEq, at0, at1, at2, at3, at4, at5, at6, at7, ix30, ix31, ix32, ix20, ix21, ix10, isi_ii, isi_ib, isi_ll, isi_bb, isi_ss, isi_tt, isi_is, isi_si, Bool.not_true, Bool.not_false, dCopyK, dGet2K, dDctR, dDisp1, dFrzEK, str_I (zs := zs) (i := i) (by omega), str_I (zs := zs) (i := j) (by omega)]
          refine ⟨⟨_, lsOf_ref (by rw [mset_ne hpa]; exact mset_same)⟩, _, by rw [mset_ne hpa]; exact mset_same, by rw [List.length_map]; omega, ?_⟩
          refine fin _ (ag.add (g := 1 + r4) ⟨by omega, by omega⟩ (by omega)) _ ?_ _ _
          rw [eq1, eq2, List.map_append, mset_comm hpa, mset_mset]
          exact mset_comm hpa.symm
        · rw [if_neg c2]
          exact fin _ ag.up _ rfl _ _
      · rw [if_neg (by simpa using c1)]
        exact fin _ ag.up _ rfl _ _
    · intro rr m' hp2
      obtain ⟨as, v5, o6, o7, o8, ag, rfl, rfl⟩ := (hP2 _ _ _).mp hp2
      rw [rngD_len] at ag ⊢
      refine (hP1 _ _ _).mpr ⟨as, v5, _, _, _, _, by rw [Nat.add_mul, Nat.one_mul]; exact ag, by rw [Nat.add_mul, Nat.one_mul], rfl⟩
  · intro rr m' hp1
    obtain ⟨as, v4, o5, o6, o7, o8, ag, rfl, rfl⟩ := (hP1 _ _ _).mp hp1
    rw [rngD_len] at ag ⊢
    clear hp1 hP1 P1
    have aok := ag.ok zl nd (by omega)
    have nn : n * n ≤ 4 * 4 := Nat.mul_le_mul (by omega) (by omega)
    refine ⟨p, _, rfl, by rw [mset_ne hpa]; exact mset_same, ?_⟩
    rw [mdel_mset_ne hpa, mdel_mset hp0]
    walk_at "zn"
    walk_at "zn"
    simp only [dSeq]
    generalize hK : dSeq (dSet 11 _) _ = kk
    have H : ∀ (cb db : Nat) (DD : DEnds), 1 ≤ cb → 1 ≤ db → cb ≤ (if 0 < as.length then 9 else 99) → db ≤ (if 0 < as.length then 24 else 99) → DD.rt = Q → kk DD [some (.ref a), some (.int n), some (.lst (zs.map D.str)), some (.int sh), some (.lst (as.map Arr.D)), o5, o6, o7, o8, some (.int cb), some (.int db), none, none, none] (mset m a (pool c v4 (k2 + 1 + 2 * (n * n : Nat)))) := by
      intro cb db DD c1 d1 c9 d9 hDD
      have c99 : cb ≤ 99 := by split at c9 <;> omega
      have d99 : db ≤ 99 := by split at d9 <;> omega
      subst hK
      walk_at "zn"
      intro b hb
      have hba : b ≠ a := fun e => by rw [e, mset_same] at hb; cases hb
      have hb0 : m b = none := by rw [mset_ne hba] at hb; exact hb
      rw [mset_comm hba.symm]
      walk_at "zn"
      obtain ⟨P1, hP1⟩ : ∃ P : Nat → DSt → M → Prop, ∀ j rr m', P j rr m' ↔ (∃ (ks : List Knd) (v' : Int) (o12 o13 : Option D), names ks = zs.take j ∧ (∀ x ∈ ks, 1 ≤ x.c ∧ x.c ≤ cb ∧ 1 ≤ x.d ∧ x.d ≤ db) ∧ m' = mset (mset m b (.lst (ks.map Knd.D))) a (pool c v' (k2 + 1 + 2 * (n * n : Nat) + 2 * j)) ∧ rr = [some (.ref a), some (.int n), some (.lst (zs.map D.str)), some (.int sh), some (.lst (as.map Arr.D)), o5, o6, o7, o8, some (.int cb), some (.int db), some (.ref b), o12, o13]) := ⟨_, fun _ _ _ => Iff.rfl⟩
      refine ⟨P1, (hP1 0 _ _).mpr ⟨[], v4, _, _, rfl, by simp, by simp, rfl⟩, ?_, ?_⟩
      · intro j d rr m' hd hp1
        obtain ⟨ks, v5, o12, o13, en, kb, rfl, rfl⟩ := (hP1 _ _ _).mp hp1
        obtain ⟨z, hz, rfl⟩ := map_at hd
        have hj := len_at hz
        have kl : ks.length = j := by
          have := congrArg List.length en
          rw [List.length_map, List.length_take] at this
          omega
        walk_at "zn"
        refine draw_s (by omega) (by omega) (by omega) (by omega) (fun x1 v6 x10 x11 => ?_)
        walk_at "zn"
        refine ⟨⟨_, lsOf_ref (by rw [mset_ne hba]; exact mset_same)⟩, ?_⟩
        refine draw_s (by omega) (by omega) (by omega) (by omega) (fun x2 v7 x20 x21 => ?_)
        refine ⟨_, by rw [mset_ne hba]; exact mset_same, by rw [List.length_map]; omega, (hP1 _ _ _).mpr ⟨ks ++ [⟨z, 1 + x1, 1 + x2⟩], v7, _, _, ?_, fun y hy => ?_, ?_, rfl⟩⟩
        · show (ks ++ [_]).map Knd.n = _
          rw [List.map_append, show ks.map Knd.n = zs.take j from en, take_succ' hz]
          rfl
        · rcases List.mem_append.mp hy with hy | hy
          · exact kb y hy
          · rw [List.mem_singleton.mp hy]
            exact ⟨by show 1 ≤ 1 + x1; omega, by show 1 + x1 ≤ cb; omega, by show 1 ≤ 1 + x2; omega, by show 1 + x2 ≤ db; omega⟩
        · rw [mset_comm hba, mset_comm hba, mset_mset, mset_comm hba.symm, List.map_append, show k2 + 1 + 2 * ((n * n : Nat) : Int) + 2 * (j : Int) + 1 + 1 = k2 + 1 + 2 * ((n * n : Nat) : Int) + 2 * ((j + 1 : Nat) : Int) by omega]
          exact mset_comm hba
      · intro rr m' hp1
        obtain ⟨ks, v5, o12, o13, en, kb, rfl, rfl⟩ := (hP1 _ _ _).mp hp1
        rw [List.length_map, List.take_length] at en
        rw [List.length_map]
        have kl : ks.length = n := by
          have := congrArg List.length en
          rw [List.length_map] at this
          omega
        refine ⟨b, _, rfl, by rw [mset_ne hba]; exact mset_same, ?_⟩
        rw [mdel_mset_ne hba, mdel_mset hb0]
        walk_at "zn"
        refine draw_s (by omega) (by omega) (by omega) (by omega) (fun r9 v9 r90 r91 => ?_)
        obtain ⟨x, hx, ex⟩ := at_map (g := D.str) (l := zs) r90 (by omega)
        refine ⟨r9, rfl, _, ex, ?_⟩
        walk_at "zs"
        rw [hDD]
        refine q ⟨x, ks, as⟩ v9 _ ⟨nms x hx, by show 1 ≤ ks.length; omega, by show ks.length ≤ 4; omega, ag.len, ⟨fun y hy => nms y.n (by rw [← en]; exact List.mem_map_of_mem hy), by show (names ks).Nodup; rw [en]; exact nd, fun y hy => ?_, fun y hy => ?_⟩, by show AsOk (names ks) as; rw [en]; exact aok⟩ (by omega) (by omega)
        · have := kb y hy
          by_cases hl : 0 < as.length
          · rw [if_pos hl] at c9
            rw [if_pos (by simpa using hl)]
            omega
          · rw [if_neg hl] at c9
            rw [if_neg (by simpa using hl)]
            omega
        · have := kb y hy
          by_cases hl : 0 < as.length
          · rw [if_pos hl] at d9
            rw [if_pos (by simpa using hl)]
            omega
          · rw [if_neg hl] at d9
            rw [if_neg (by simpa using hl)]
            omega
    walk_at "zs"
    refine dEq_nil (n := 1) (by omega) (xs := as.map Arr.D) rfl ?_ ⟨_, rfl, ?_⟩
    · rw [List.all_map, List.all_eq_true]
      intro x hx
      exact cl_arr (nms _ (aok.f x hx)) (nms _ (aok.s x hx))
    cases has : as with
    | nil =>
      rw [has] at H
      rw [List.map_nil, if_pos (by rfl)]
      walk_at "zn"
      exact H 99 99 _ (by omega) (by omega) (by simp) (by simp) rfl
    | cons x xs =>
      rw [has] at H
      rw [List.map_cons, if_neg (by simp)]
      exact H 9 24 _ (by omega) (by omega) (by simp) (by simp) rfl
theorem jAt_app {w : List Job} {j : Job} {p : Nat} (h : p < w.length) : jAt (w ++ [j]) p = jAt w p := by
  unfold jAt
  rw [List.getD_eq_getElem?_getD, List.getD_eq_getElem?_getD, List.getElem?_append_left h]
theorem jAt_last {w : List Job} {j : Job} : jAt (w ++ [j]) w.length = j := by
  unfold jAt
  rw [List.getD_eq_getElem?_getD, List.getElem?_append_right (Nat.le_refl _), Nat.sub_self]
  rfl
theorem WkOk.add {t : Tsk} {g : Int} {w : List Job} (h : WkOk t g w) {j : Job} {k : Knd} (hk : k ∈ t.ks) (e : k.n = j.k) (c1 : 1 ≤ j.c) (c2 : j.c ≤ k.c * g) (r0 : 0 ≤ j.r)
    (hl : 1 ≤ w.length → ∃ a ∈ t.as, a.f = (jAt w (w.length - 1)).k ∧ a.s = j.k ∧ a.g * g ≤ j.r - (jAt w (w.length - 1)).r) : WkOk t g (w ++ [j]) := by
  intro p hp
  rw [List.length_append, List.length_singleton] at hp
  by_cases hpl : p < w.length
  · rw [jAt_app hpl]
    obtain ⟨h1, h2, h3⟩ := h p hpl
    refine ⟨h1, h2, fun hp1 => ?_⟩
    rw [jAt_app (by omega)]
    exact h3 hp1
  · have ep : p = w.length := by omega
    subst ep
    rw [jAt_last]
    refine ⟨⟨k, hk, e, c1, c2⟩, r0, fun hp1 => ?_⟩
    rw [jAt_app (by omega)]
    exact hl hp1
theorem pure_law_walk {K : Fr0} {mg : Str → Option Value} (T : Txt K mg) (ds : List D) (m : M) (Q : D → M → Prop) (E : XD → M → Prop) (h : sp_law_walk K ds m Q E) : t_law_walk K (fun x _ m => E x m) { nx := fun _ m => Q .non m, rt := Q } (startD nm_law_walk ds) m := by
  obtain ⟨a, t, g, c, v, k, rfl, ha, ok, ⟨g1, g2⟩, ⟨k0, k1⟩, q⟩ := h
  have em : m = mset m a (pool c v k) := (mset_id ha).symm
  show t_law_walk K _ _ [some (.ref a), some (specL t), some (.int g), none, none, none, none, none, none, none, none, none] m
  rw [em]
  clear em
  unfold t_law_walk
  have hk1 := ok.k1
  have hk4 := ok.k4
  have ha12 := ok.a12
  have k14 : (1 : Int) ≤ (t.ks.length : Int) ∧ (t.ks.length : Int) ≤ 4 := by omega
  simp only [specL]
  generalize hS : D.lst [D.str t.nm, ksD t.ks, asD t.as] = S
  have hS1 : atI [D.str t.nm, ksD t.ks, asD t.as] 1 = some (ksD t.ks) := at1
  try simp only [dSeq]
  try simp only [dIfS, dTest, dOp, dVar, dC, dCB, daCons, daNil, dSet, dRet, dNext, dDrop, dAsg, dPar, dAug, dAddI, dBreak, dCont, dRetN, slot, dLen, dCmpI, dSub, dAdd, dMul, dDiv, dMod, dPow, dNeg, dUn, dIx, dInt1, dAbs, dChain, dAnd, dOr, dNot, dAndV, dOrV, dNotV, dTru, dTruB, dIf, dTup, dLst, mkL, dSlice, dSl, doNone, doSome, dSum, dAll, dAny, dList, dTuple, dMax, dMin, eq_ii, ne_ii, eq_ss, ne_ss, eq_bb, ne_bb, eq_nn, ne_nn, dIsN, dNotN, dFgt, dIsB, dNotB, gN, gT, gsNil, gsCons, gSet, dBM, dAppend, dClear, dFld, dFldS, dProp, dCall, dMeth, dMake, dMakeN, daStar, dDictP, dCallO, dFor, dLc, diR1, diR2, diR3, diL, diT, diRv, diS, diE, dFmt, dFStr, dJs, dCallN, dFrzE, frz_l, in_ss, notin_ss, drR1, drR2, dListR, dRaise, dRaise0, dTryAs, dTry, dXf, dAddO, dInO, isL, insOf, Option.some.injEq, List.cons.injEq, D.int.injEq, D.bl.injEq, D.str.injEq, D.lst.injEq, D.tup.injEq, D.ref.injEq, MO.lst.injEq, MO.ins.injEq, mset_mset, and_true, true_and, and_self, and_assoc, exists_eq_left', exists_eq_left, exists_and_left, exists_and_right, exists_eq', List.set_cons_zero, List.set_cons_succ, decide_eq_true_eq, sqOf, lsOf, List.length_cons, List.length_nil, sizeLine_eq, List.append_nil, List.cons_append, List.nil_append, if_true, if_false, Bool.false_eq_true, reduceCtorEq, reduceIte, Nat.reduceAdd, Nat.reduceLeDiff, mset_same, Option.bind_some, List.length_map, Prod.mk.injEq, at0, at1, at2, at3, at4, at5, at6, at7, ix30, ix31, ix32, ix20, ix21, ix10, isi_ii, isi_ib, isi_ll, isi_bb, isi_ss, isi_tt, isi_is, isi_si, Bool.not_true, Bool.not_false, dCopyK, dGet2K, dDctR, dDisp1, dFrzEK, ← hS]
  walk_at "zn"
  intro p hp
  have hpa : p ≠ a := fun e => by rw [e, mset_same] at hp; cases hp
  have hp0 : m p = none := by rw [mset_ne hpa] at hp; exact hp
  rw [mset_comm hpa.symm]
  walk_at "zn"
  refine draw_s (by omega) (by omega) (by omega) (by omega) (fun r v1 r0 r1 => ?_)
  obtain ⟨kd, hkd, ekd⟩ := at_map (g := Knd.D) (l := t.ks) r0 (by omega)
  try simp only [dSeq]
  try simp only [dIfS, dTest, dOp, dVar, dC, dCB, daCons, daNil, dSet, dRet, dNext, dDrop, dAsg, dPar, dAug, dAddI, dBreak, dCont, dRetN, slot, dLen, dCmpI, dSub, dAdd, dMul, dDiv, dMod, dPow, dNeg, dUn, dIx, dInt1, dAbs, dChain, dAnd, dOr, dNot, dAndV, dOrV, dNotV, dTru, dTruB, dIf, dTup, dLst, mkL, dSlice, dSl, doNone, doSome, dSum, dAll, dAny, dList, dTuple, dMax, dMin, eq_ii, ne_ii, eq_ss, ne_ss, eq_bb, ne_bb, eq_nn, ne_nn, dIsN, dNotN, dFgt, dIsB, dNotB, gN, gT, gsNil, gsCons, gSet, dBM, dAppend, dClear, dFld, dFldS, dProp, dCall, dMeth, dMake, dMakeN, daStar, dDictP, dCallO, dFor, dLc, diR1, diR2, diR3, diL, diT, diRv, diS, diE, dFmt, dFStr, dJs, dCallN, dFrzE, frz_l, in_ss, notin_ss, drR1, drR2, dListR, dRaise, dRaise0, dTryAs, dTry, dXf, dAddO, dInO, isL, insOf, Option.some.injEq, List.cons.injEq, D.int.injEq, D.bl.injEq, D.str.injEq, D.lst.injEq, D.tup.injEq, D.ref.injEq, MO.lst.injEq, MO.ins.injEq, mset_mset, and_true, true_and, and_self, and_assoc, exists_eq_left', exists_eq_left, exists_and_left, exists_and_right, exists_eq', List.set_cons_zero, List.set_cons_succ, decide_eq_true_eq, sqOf, lsOf, List.length_cons, List.length_nil, sizeLine_eq, List.append_nil, List.cons_append, List.nil_append, if_true, if_false, Bool.false_eq_true, reduceCtorEq, reduceIte, Nat.reduceAdd, Nat.reduceLeDiff, mset_same, Option.bind_some, List.length_map, Prod.mk.injEq, at0, at1, at2, at3, at4, at5, at6, at7, ix30, ix31, ix32, ix20, ix21, ix10, isi_ii, isi_ib, isi_ll, isi_bb, isi_ss, isi_tt, isi_is, isi_si, Bool.not_true, Bool.not_false, dCopyK, dGet2K, dDctR, dDisp1, dFrzEK, ekd]
  refine draw_s (by omega) (by omega) (by omega) (by omega) (fun mo v2 mo0 mo1 => ?_)
  walk_at "zn"
  refine draw_s (by omega) (by omega) (by omega) (by omega) (fun n0 v3 n00 n01 => ?_)
  refine ⟨n0, rfl, by omega, by omega, ?_⟩
  obtain ⟨n, hn⟩ : ∃ n : Nat, n0 = n := ⟨n0.toNat, by omega⟩
  subst hn
  rw [Int.toNat_natCast]
  have n12 : n ≤ 12 := by omega
  obtain ⟨P1, hP1⟩ : ∃ P : Nat → DSt → M → Prop, ∀ j rr m', P j rr m' ↔ (∃ (w : List Job) (kd : Knd) (mo v' k' : Int) (o7 o8 o9 o10 o11 : Option D), w.length = j ∧ WkOk t g w ∧ kd ∈ t.ks ∧ (0 ≤ mo ∧ mo ≤ 40 + 800 * j) ∧ (∀ y ∈ w, y.r ≤ 100000) ∧ (1 ≤ w.length → ∃ x ∈ t.as, x.f = (jAt w (w.length - 1)).k ∧ x.s = kd.n ∧ x.g * g ≤ mo - (jAt w (w.length - 1)).r) ∧ (k ≤ k' ∧ k' ≤ k + 3 + 5 * j) ∧ m' = mset (mset m p (.lst (w.map Job.D))) a (pool c v' k') ∧ rr = [some (.ref a), some (.lst [.str t.nm, ksD t.ks, asD t.as]), some (.int g), some (ksD t.ks), some (.ref p), some kd.D, some (.int mo), o7, o8, o9, o10, o11]) := ⟨_, fun _ _ _ => Iff.rfl⟩
  have END : ∀ (w : List Job) (v' k' : Int), w.length ≤ 12 → WkOk t g w → (∀ y ∈ w, y.r ≤ 100000) → k ≤ k' → k' ≤ k + 100 → frzV (mset (mset m p (.lst (w.map Job.D))) a (pool c v' k')) (.ref p) Q := by
    intro w v' k' h1 h2 h3 h4 h5
    simp only [frzV]
    rw [mset_ne hpa, mset_same]
    show Q (.lst _) (mdel _ _)
    rw [mdel_mset_ne hpa, mdel_mset hp0]
    exact q w v' k' h2 h1 h3 h4 h5
  refine ⟨P1, (hP1 0 _ _).mpr ⟨[], kd, mo, v3, k + 1 + 1 + 1, _, _, _, _, _, rfl, fun p hp => absurd hp (Nat.not_lt_zero _), hkd, ⟨by omega, by omega⟩, by simp, fun h => absurd h (by decide), ⟨by omega, by omega⟩, rfl, rfl⟩, ?_, ?_⟩
  · clear ekd hkd kd
    intro j d rr m' hd hp1
    obtain ⟨w, kd, mo, v4, k4, o7, o8, o9, o10, o11, wl, wok, hkd, ⟨m0, m1⟩, wr, lk, ⟨k40, k41⟩, rfl, rfl⟩ := (hP1 _ _ _).mp hp1
    obtain ⟨rfl, hj⟩ := rngD_at hd
    have kb := kn_b ok hkd
    have cg : 1 ≤ kd.c * g ∧ kd.c * g ≤ 99 * 60 := ⟨by have := Int.mul_le_mul kb.1.1 g1 (by omega) (by omega); omega, Int.mul_le_mul kb.1.2 g2 (by omega) (by omega)⟩
    try simp only [dSeq]
    try simp only [dIfS, dTest, dOp, dVar, dC, dCB, daCons, daNil, dSet, dRet, dNext, dDrop, dAsg, dPar, dAug, dAddI, dBreak, dCont, dRetN, slot, dLen, dCmpI, dSub, dAdd, dMul, dDiv, dMod, dPow, dNeg, dUn, dIx, dInt1, dAbs, dChain, dAnd, dOr, dNot, dAndV, dOrV, dNotV, dTru, dTruB, dIf, dTup, dLst, mkL, dSlice, dSl, doNone, doSome, dSum, dAll, dAny, dList, dTuple, dMax, dMin, eq_ii, ne_ii, eq_ss, ne_ss, eq_bb, ne_bb, eq_nn, ne_nn, dIsN, dNotN, dFgt, dIsB, dNotB, gN, gT, gsNil, gsCons, gSet, dBM, dAppend, dClear, dFld, dFldS, dProp, dCall, dMeth, dMake, dMakeN, daStar, dDictP, dCallO, dFor, dLc, diR1, diR2, diR3, diL, diT, diRv, diS, diE, dFmt, dFStr, dJs, dCallN, dFrzE, frz_l, in_ss, notin_ss, drR1, drR2, dListR, dRaise, dRaise0, dTryAs, dTry, dXf, dAddO, dInO, isL, insOf, Option.some.injEq, List.cons.injEq, D.int.injEq, D.bl.injEq, D.str.injEq, D.lst.injEq, D.tup.injEq, D.ref.injEq, MO.lst.injEq, MO.ins.injEq, mset_mset, and_true, true_and, and_self, and_assoc, exists_eq_left', exists_eq_left, exists_and_left, exists_and_right, exists_eq', List.set_cons_zero, List.set_cons_succ, decide_eq_true_eq, sqOf, lsOf, List.length_cons, List.length_nil, sizeLine_eq, List.append_nil, List.cons_append, List.nil_append, if_true, if_false, Bool.false_eq_true, reduceCtorEq, reduceIte, Nat.reduceAdd, Nat.reduceLeDiff, mset_same, Option.bind_some, List.length_map, Prod.mk.injEq, at0, at1, at2, at3, at4, at5, at6, at7, ix30, ix31, ix32, ix20, ix21, ix10, isi_ii, isi_ib, isi_ll, isi_bb, isi_ss, isi_tt, isi_is, isi_si, Bool.not_true, Bool.not_false, dCopyK, dGet2K, dDctR, dDisp1, dFrzEK, Knd.D]
    refine ⟨mul_small (by omega), ?_⟩
    refine draw_s (by omega) (by omega) (by omega) (by omega) (fun r5 v5 r50 r51 => ?_)
    walk_at "zn"
    refine draw_s (by omega) (by omega) (by omega) (by omega) (fun r6 v6 r60 r61 => ?_)
    simp only [dSeq]
    generalize hN : dSeq (dSet 9 _) _ = k9
    generalize hK : dDrop (dBM isL dAppend (dVar 4) _) = kk
    have H : ∀ (co : Int) (DD D2 : DEnds), DD.nx = k9 D2 → D2.nx = P1 (j + 1) → D2.rt = Q → 1 ≤ co → co ≤ kd.c * g → kk DD [some (.ref a), some (.lst [.str t.nm, ksD t.ks, asD t.as]), some (.int g), some (ksD t.ks), some (.ref p), some (.tup [.str kd.n, .int kd.c, .int kd.d]), some (.int mo), some (.int (0 + (j : Int))), some (.int co), o9, o10, o11] (mset (mset m p (.lst (w.map Job.D))) a (pool c v6 (k4 + 1 + 1))) := by
      intro co DD D2 e1 e2 e3 c0 c1
      have wok' : WkOk t g (w ++ [⟨kd.n, mo, co⟩]) := wok.add hkd rfl c0 c1 m0 lk
      have wr' : ∀ y ∈ w ++ [⟨kd.n, mo, co⟩], y.r ≤ 100000 := fun y hy => by
        rcases List.mem_append.mp hy with h | h
        · exact wr y h
        · rw [List.mem_singleton.mp h]
          show mo ≤ 100000
          omega
      have wl' : (w ++ [(⟨kd.n, mo, co⟩ : Job)]).length = j + 1 := by rw [List.length_append, List.length_singleton, wl]
      subst hK
      walk_at "zn"
      refine ⟨⟨_, lsOf_ref (by rw [mset_ne hpa]; exact mset_same)⟩, _, by rw [mset_ne hpa]; exact mset_same, by rw [List.length_map]; omega, ?_⟩
      have em : mset (mset (mset m p (.lst (w.map Job.D))) a (pool c v6 (k4 + 1 + 1))) p (.lst (w.map Job.D ++ [.tup [.str kd.n, .int mo, .int co]])) = mset (mset m p (.lst ((w ++ [(⟨kd.n, mo, co⟩ : Job)]).map Job.D))) a (pool c v6 (k4 + 1 + 1)) := by
        rw [mset_comm hpa, mset_mset, mset_comm hpa.symm, List.map_append]
        rfl
      rw [em, e1]
      clear em
      subst hN
      walk_at "zn"
      refine lc_filterD (g := Arr.D) (p := fun x : Arr => decide (x.f = kd.n)) (f := Arr.D) (by rw [sizeLine_eq]; omega) (fun x hx => ⟨_, rfl, fun Q' q' => ?_, fun _ Q' q' => ?_⟩) ?_
      · simp only [wipeD, Arr.D]
        walk_at "zs"
        exact q'
      · simp only [wipeD]
        walk_at "zs"
        exact q'
      rw [show (t.as.filter fun x : Arr => decide (x.f = kd.n)) = foll t kd.n from rfl]
      have fl : (foll t kd.n).length ≤ 12 := Nat.le_trans (List.length_filter_le _ _) ha12
      walk_at "zn"
      refine dEq_nil (n := 1) (by omega) (xs := (foll t kd.n).map Arr.D) rfl ?_ ⟨_, rfl, ?_⟩
      · rw [List.all_map, List.all_eq_true]
        intro x hx
        have hx := (List.mem_filter.mp hx).1
        exact cl_arr (ok.nms _ (ok.as.f x hx)) (ok.nms _ (ok.as.s x hx))
      cases hf : foll t kd.n with
      | nil =>
        rw [List.map_nil, if_pos (by rfl)]
        rw [e3]
        exact END _ v6 (k4 + 1 + 1) (by omega) wok' wr' (by omega) (by omega)
      | cons b bs =>
        rw [← hf]
        rw [if_neg (by rw [hf]; simp)]
        have f1 : 1 ≤ (foll t kd.n).length := by rw [hf]; simp
        walk_at "zn"
        refine draw_s (by omega) (by omega) (by omega) (by omega) (fun r7 v7 r70 r71 => ?_)
        obtain ⟨x, hx, ex⟩ := at_map (g := Arr.D) (l := foll t kd.n) r70 (by omega)
        have hx2 := List.mem_filter.mp hx
        have xb := ok.as.g x hx2.1
        have xg : 1 ≤ x.g * g ∧ x.g * g ≤ 12 * 60 := ⟨by have := Int.mul_le_mul xb.1 g1 (by omega) (by omega); omega, Int.mul_le_mul xb.2 g2 (by omega) (by omega)⟩
        try simp only [dSeq]
        try simp only [dIfS, dTest, dOp, dVar, dC, dCB, daCons, daNil, dSet, dRet, dNext, dDrop, dAsg, dPar, dAug, dAddI, dBreak, dCont, dRetN, slot, dLen, dCmpI, dSub, dAdd, dMul, dDiv, dMod, dPow, dNeg, dUn, dIx, dInt1, dAbs, dChain, dAnd, dOr, dNot, dAndV, dOrV, dNotV, dTru, dTruB, dIf, dTup, dLst, mkL, dSlice, dSl, doNone, doSome, dSum, dAll, dAny, dList, dTuple, dMax, dMin, eq_ii, ne_ii, eq_ss, ne_ss, eq_bb, ne_bb, eq_nn, ne_nn, dIsN, dNotN, dFgt, dIsB, dNotB, gN, gT, gsNil, gsCons, gSet, dBM, dAppend, dClear, dFld, dFldS, dProp, dCall, dMeth, dMake, dMakeN, daStar, dDictP, dCallO, dFor, dLc, diR1, diR2, diR3, diL, diT, diRv, diS, diE, dFmt, dFStr, dJs, dCallN, dFrzE, frz_l, in_ss, notin_ss, drR1, drR2, dListR, dRaise, dRaise0, dTryAs, dTry, dXf, dAddO, dInO, isL, insOf, Option.some.injEq, List.cons.injEq, D.int.injEq, D.bl.injEq, D.str.injEq, D.lst.injEq, D.tup.injEq, D.ref.injEq, MO.lst.injEq, MO.ins.injEq, mset_mset, and_true, true_and, and_self, and_assoc, exists_eq_left', exists_eq_left, exists_and_left, exists_and_right, exists_eq', List.set_cons_zero, List.set_cons_succ, decide_eq_true_eq, sqOf, lsOf, List.length_cons, List.length_nil, sizeLine_eq, List.append_nil, List.cons_append, List.nil_append, if_true, if_false, Bool.false_eq_true, reduceCtorEq, reduceIte, Nat.reduceAdd, Nat.reduceLeDiff, mset_same, Option.bind_some, List.length_map, Prod.mk.injEq, at0, at1, at2, at3, at4, at5, at6, at7, ix30, ix31, ix32, ix20, ix21, ix10, isi_ii, isi_ib, isi_ll, isi_bb, isi_ss, isi_tt, isi_is, isi_si, Bool.not_true, Bool.not_false, dCopyK, dGet2K, dDctR, dDisp1, dFrzEK, ex, Arr.D]
        refine ⟨mul_small (by omega), ?_⟩
        refine draw_s (by omega) (by omega) (by omega) (by omega) (fun r8 v8 r80 r81 => ?_)
        walk_at "zs"
        refine draw_s (by omega) (by omega) (by omega) (by omega) (fun r9 v9 r90 r91 => ?_)
        have r89 : 0 ≤ r8 * r9 ∧ r8 * r9 ≤ 2 * 29 := ⟨Int.mul_nonneg r80 r90, Int.mul_le_mul (by omega) (by omega) r90 (by omega)⟩
        walk_at "zs"
        refine ⟨mul_small (by omega), ?_⟩
        walk_at "zn"
        refine lc_filterD (g := Knd.D) (p := fun y : Knd => decide (y.n = x.s)) (f := Knd.D) (by rw [sizeLine_eq]; omega) (fun y hy => ⟨_, rfl, fun Q' q' => ?_, fun _ Q' q' => ?_⟩) ?_
        · simp only [wipeD, Knd.D]
          walk_at "zs"
          exact q'
        · simp only [wipeD]
          walk_at "zs"
          exact q'
        obtain ⟨k5, hk5, ek5⟩ := known (ok.as.s x hx2.1)
        obtain ⟨k6, hk6, ek6⟩ := at_map (g := Knd.D) (l := t.ks.filter fun y : Knd => decide (y.n = x.s)) (r := 0) (by omega) (by
          have := List.length_pos_of_mem (l := t.ks.filter fun y : Knd => decide (y.n = x.s)) (List.mem_filter.mpr ⟨hk5, decide_eq_true ek5⟩)
          omega)
        have hk62 := List.mem_filter.mp hk6
        try simp only [dIfS, dTest, dOp, dVar, dC, dCB, daCons, daNil, dSet, dRet, dNext, dDrop, dAsg, dPar, dAug, dAddI, dBreak, dCont, dRetN, slot, dLen, dCmpI, dSub, dAdd, dMul, dDiv, dMod, dPow, dNeg, dUn, dIx, dInt1, dAbs, dChain, dAnd, dOr, dNot, dAndV, dOrV, dNotV, dTru, dTruB, dIf, dTup, dLst, mkL, dSlice, dSl, doNone, doSome, dSum, dAll, dAny, dList, dTuple, dMax, dMin, eq_ii, ne_ii, eq_ss, ne_ss, eq_bb, ne_bb, eq_nn, ne_nn, dIsN, dNotN, dFgt, dIsB, dNotB, gN, gT, gsNil, gsCons, gSet, dBM, dAppend, dClear, dFld, dFldS, dProp, dCall, dMeth, dMake, dMakeN, daStar, dDictP, dCallO, dFor, dLc, diR1, diR2, diR3, diL, diT, diRv, diS, diE, dFmt, dFStr, dJs, dCallN, dFrzE, frz_l, in_ss, notin_ss, drR1, drR2, dListR, dRaise, dRaise0, dTryAs, dTry, dXf, dAddO, dInO, isL, insOf, Option.some.injEq, List.cons.injEq, D.int.injEq, D.bl.injEq, D.str.injEq, D.lst.injEq, D.tup.injEq, D.ref.injEq, MO.lst.injEq, MO.ins.injEq, mset_mset, and_true, true_and, and_self, and_assoc, exists_eq_left', exists_eq_left, exists_and_left, exists_and_right, exists_eq', List.set_cons_zero, List.set_cons_succ, decide_eq_true_eq, sqOf, lsOf, List.length_cons, List.length_nil, sizeLine_eq, List.append_nil, List.cons_append, List.nil_append, if_true, if_false, Bool.false_eq_true, reduceCtorEq, reduceIte, Nat.reduceAdd, Nat.reduceLeDiff, mset_same, Option.bind_some, List.length_map, Prod.mk.injEq, at0, at1, at2, at3, at4, at5, at6, at7, ix30, ix31, ix32, ix20, ix21, ix10, isi_ii, isi_ib, isi_ll, isi_bb, isi_ss, isi_tt, isi_is, isi_si, Bool.not_true, Bool.not_false, dCopyK, dGet2K, dDctR, dDisp1, dFrzEK, ek6]
        rw [e2]
        refine (hP1 _ _ _).mpr ⟨w ++ [⟨kd.n, mo, co⟩], k6, _, v9, _, _, _, _, _, _, wl', wok', hk62.1, ⟨?_, ?_⟩, wr', fun _ => ⟨x, hx2.1, ?_, ?_, ?_⟩, ⟨?_, ?_⟩, rfl, rfl⟩
        · omega
        · omega
        · rw [wl', show j + 1 - 1 = w.length by omega, jAt_last]
          exact of_decide_eq_true hx2.2
        · exact (of_decide_eq_true hk62.2).symm
        · rw [wl', show j + 1 - 1 = w.length by omega, jAt_last]
          show x.g * g ≤ mo + x.g * g + r8 * r9 - mo
          omega
        · omega
        · omega
    walk_at "zs"
    by_cases hr : r6 = 1
    · rw [if_pos hr]
      exact ⟨mul_small (by omega), H _ _ _ rfl rfl rfl (by omega) (by omega)⟩
    · rw [if_neg hr]
      exact H _ _ _ rfl rfl rfl (by omega) (by omega)
  · intro rr m' hp1
    obtain ⟨w, kd, mo, v4, k4, o7, o8, o9, o10, o11, wl, wok, hkd, ⟨m0, m1⟩, wr, lk, ⟨k40, k41⟩, rfl, rfl⟩ := (hP1 _ _ _).mp hp1
    rw [rngD_len] at *
    exact ⟨_, rfl, END w v4 k4 (by omega) wok wr k40 (by omega)⟩
theorem pair_one {t : Tsk} (ok : t.Ok) {a b : Arr} (ha : a ∈ t.as) (hb : b ∈ t.as) (e1 : a.f = b.f) (e2 : a.s = b.s) : a = b := by
  obtain ⟨i, hi⟩ := List.mem_iff_getElem?.mp ha
  obtain ⟨j, hj⟩ := List.mem_iff_getElem?.mp hb
  have n1 : (t.as.map fun a => (a.f, a.s))[i]? = some (a.f, a.s) := by rw [List.getElem?_map, hi]; rfl
  have n2 : (t.as.map fun a => (a.f, a.s))[j]? = some (b.f, b.s) := by rw [List.getElem?_map, hj]; rfl
  have ij : i = j := (List.getElem?_inj (by rw [List.length_map]; exact len_at hi) ok.as.nd).mp (by rw [n1, n2, e1, e2])
  subst ij
  rw [hi] at hj
  exact Option.some.inj hj
theorem gapF_is {t : Tsk} (ok : t.Ok) {a : Arr} (ha : a ∈ t.as) : gapF t a.f a.s = some a.g := by
  unfold gapF
  cases e : (foll t a.f).find? (fun b => decide (b.s = a.s)) with
  | none =>
    have := List.find?_eq_none.mp e a (List.mem_filter.mpr ⟨ha, decide_eq_true rfl⟩)
    simp at this
  | some b =>
    have h1 := List.mem_filter.mp (List.mem_of_find?_eq_some e)
    have h2 := List.find?_some e
    have h2 := of_decide_eq_true h2
    rw [pair_one ok h1.1 ha (of_decide_eq_true h1.2) h2]
    rfl
theorem job_none {K : Fr0} {t : Tsk} (ok : t.Ok) {g : Int} {w : List Job} (h : WkOk t g w) (i : Nat) {p : Nat} (hp : p < w.length) : jobX K t w i p g = none := by
  obtain ⟨⟨k, hk, ek, c1, c2⟩, r0, lk⟩ := h p hp
  unfold jobX
  rw [if_neg (by rw [← ek]; simpa using List.mem_map_of_mem hk), ← ek, kOf_is ok hk, if_neg (by simpa using ⟨c1, c2⟩), if_neg (by omega)]
  by_cases h0 : p = 0
  · rw [if_pos h0]
  · rw [if_neg h0]
    obtain ⟨a, ha, e1, e2, e3⟩ := lk (by omega)
    rw [← e1, ek, ← e2, gapF_is ok ha]
    show (if _ then _ else none) = none
    rw [if_neg (by omega)]
theorem many_le {ws : List (List Job)} {B : Nat} (h : ∀ w ∈ ws, w.length ≤ B) : many ws ≤ ws.length * B := by
  unfold many
  induction ws with
  | nil => simp
  | cons w ws ih =>
    have := ih fun x hx => h x (List.mem_cons_of_mem _ hx)
    have := h w List.mem_cons_self
    rw [List.map_cons, List.sum_cons, List.length_cons, Nat.add_mul]
    omega
theorem run_none {K : Fr0} {ts : List Tsk} {ws : List (List Job)} {g : Int} (hg : 1 ≤ g ∧ g ≤ 60) (hl : ws.length = ts.length) (h4 : many ws ≤ 400) (ok : ∀ t ∈ ts, t.Ok) (wk : ∀ i, i < ws.length → WkOk (tAt ts i) g (wAt ws i)) : runX K ts ws g = none := by
  unfold runX
  rw [show cntsX K ts ws g = none by
    unfold cntsX
    rw [if_neg (by simpa using hg), if_neg (by simpa using hl), if_neg (by omega)]]
  show allX K ts ws g = none
  refine none_of' fun i hi => none_of' fun p hp => ?_
  exact job_none (ok _ (mem_at (tAt_at (by omega)))) (wk i hi) i hp
theorem pure_check_speed {K : Fr0} {mg : Str → Option Value} (T : Txt K mg) (ds : List D) (m : M) (Q : D → M → Prop) (E : XD → M → Prop) (h : sp_check_speed K ds m Q E) : t_check_speed K (fun x _ m => E x m) { nx := fun _ m => Q .non m, rt := Q } (startD nm_check_speed ds) m := by
  obtain ⟨s, rfl, q, qe⟩ := h
  show t_check_speed K _ _ [some (.int s)] m
  unfold t_check_speed
  walk_at "zs"
  by_cases h1 : 1 ≤ s
  · rw [if_pos h1]
    by_cases h2 : s ≤ 99
    · rw [if_neg (by simp; omega)]
      exact q ⟨h1, h2⟩
    · rw [if_pos (by simp; omega)]
      exact qe (by omega)
  · rw [if_neg h1]
    exact qe (by omega)
theorem insI_mem {x k : Int} : ∀ {l : List Int}, k ∈ insI x l ↔ k = x ∨ k ∈ l
  | [] => by simp [insI]
  | y :: l => by
    unfold insI
    by_cases h : x < y
    · rw [if_pos h]; simp
    · rw [if_neg h]
      by_cases h2 : x = y
      · subst h2
        rw [if_pos rfl]; simp
      · rw [if_neg h2, List.mem_cons, insI_mem (l := l), List.mem_cons]
        constructor
        · rintro (h | h | h) <;> simp [h]
        · rintro (h | h | h) <;> simp [h]
theorem insI_srt {x : Int} : ∀ {l : List Int}, l.Pairwise (· < ·) → (insI x l).Pairwise (· < ·)
  | [], _ => by simp [insI]
  | y :: l, h => by
    have h1 := List.pairwise_cons.mp h
    unfold insI
    by_cases hx : x < y
    · rw [if_pos hx]
      refine List.pairwise_cons.mpr ⟨fun z hz => ?_, h⟩
      rcases List.mem_cons.mp hz with rfl | hz
      · exact hx
      · have := h1.1 z hz; omega
    · rw [if_neg hx]
      by_cases h2 : x = y
      · rw [if_pos h2]; exact h
      · rw [if_neg h2]
        refine List.pairwise_cons.mpr ⟨fun z hz => ?_, insI_srt h1.2⟩
        rcases insI_mem.mp hz with rfl | hz
        · omega
        · exact h1.1 z hz
theorem insI_len {x : Int} : ∀ {l : List Int}, (insI x l).length ≤ l.length + 1
  | [] => by simp [insI]
  | y :: l => by
    unfold insI
    by_cases hx : x < y
    · rw [if_pos hx]; simp
    · rw [if_neg hx]
      by_cases h2 : x = y
      · rw [if_pos h2]; simp
      · rw [if_neg h2, List.length_cons, List.length_cons]
        have := insI_len (x := x) (l := l)
        omega
theorem dist_mem {k : Int} : ∀ {l : List Int}, k ∈ dist l ↔ k ∈ l
  | [] => Iff.rfl
  | y :: l => by
    show k ∈ insI y (dist l) ↔ _
    rw [insI_mem, dist_mem (l := l), List.mem_cons]
theorem dist_srt : ∀ {l : List Int}, (dist l).Pairwise (· < ·)
  | [] => List.Pairwise.nil
  | y :: l => insI_srt (dist_srt (l := l))
theorem dist_len : ∀ {l : List Int}, (dist l).length ≤ l.length
  | [] => Nat.le_refl _
  | y :: l => Nat.le_trans insI_len (Nat.succ_le_succ (dist_len (l := l)))
theorem srt_un : ∀ {a b : List Int}, a.Pairwise (· < ·) → b.Pairwise (· < ·) → (∀ k, k ∈ a ↔ k ∈ b) → a = b
  | [], [], _, _, _ => rfl
  | [], y :: b, _, _, h => absurd ((h y).mpr List.mem_cons_self) List.not_mem_nil
  | x :: a, [], _, _, h => absurd ((h x).mp List.mem_cons_self) List.not_mem_nil
  | x :: a, y :: b, ha, hb, h => by
    have a1 := List.pairwise_cons.mp ha
    have b1 := List.pairwise_cons.mp hb
    have e : x = y := by
      rcases List.mem_cons.mp ((h x).mp List.mem_cons_self) with e | e
      · exact e
      · rcases List.mem_cons.mp ((h y).mpr List.mem_cons_self) with e2 | e2
        · exact e2.symm
        · have := b1.1 x e
          have := a1.1 y e2
          omega
    subst e
    rw [srt_un a1.2 b1.2 fun k => ⟨fun hk => ?_, fun hk => ?_⟩]
    · rcases List.mem_cons.mp ((h k).mp (List.mem_cons_of_mem _ hk)) with e | e
      · have := a1.1 k hk; omega
      · exact e
    · rcases List.mem_cons.mp ((h k).mpr (List.mem_cons_of_mem _ hk)) with e | e
      · have := b1.1 k hk; omega
      · exact e
theorem dist_un {out l : List Int} (h1 : out.Pairwise (· < ·)) (h2 : ∀ k, k ∈ out ↔ k ∈ l) : out = dist l := srt_un h1 dist_srt fun k => by rw [h2, dist_mem]
def sumP (J : List Rw) (p : Rw → Bool) : Int := ((J.filter p).map Rw.c).sum
theorem sumP_nil (p : Rw → Bool) : sumP [] p = 0 := rfl
theorem sumP_cons (x : Rw) (J : List Rw) (p : Rw → Bool) : sumP (x :: J) p = (if p x = true then x.c else 0) + sumP J p := by
  unfold sumP
  rw [List.filter_cons]
  by_cases h : p x = true
  · rw [if_pos h, if_pos h]; simp
  · rw [if_neg h, if_neg h]; simp
theorem sumP_app (J J' : List Rw) (p : Rw → Bool) : sumP (J ++ J') p = sumP J p + sumP J' p := by
  unfold sumP
  rw [List.filter_append, List.map_append, List.sum_append]
theorem sumP_or {p q : Rw → Bool} (hd : ∀ x, ¬ (p x = true ∧ q x = true)) : ∀ J : List Rw, sumP J (fun x => p x || q x) = sumP J p + sumP J q
  | [] => rfl
  | x :: J => by
    rw [sumP_cons, sumP_cons, sumP_cons, sumP_or hd J]
    have := hd x
    cases hp : p x <;> cases hq : q x <;> simp_all <;> omega
theorem sumP_congr {p q : Rw → Bool} : ∀ {J : List Rw}, (∀ x ∈ J, p x = q x) → sumP J p = sumP J q
  | [], _ => rfl
  | x :: J, h => by rw [sumP_cons, sumP_cons, h x List.mem_cons_self, sumP_congr fun y hy => h y (List.mem_cons_of_mem _ hy)]
theorem sumP_none {p : Rw → Bool} : ∀ {J : List Rw}, (∀ x ∈ J, p x = false) → sumP J p = 0
  | [], _ => rfl
  | x :: J, h => by rw [sumP_cons, h x List.mem_cons_self, sumP_none fun y hy => h y (List.mem_cons_of_mem _ hy)]; rfl
theorem dueC_sumP (J : List Rw) (a e : Int) : dueC J a e = sumP J fun x => decide (a ≤ x.r) && decide (x.d = e) := rfl
theorem demC_sumP (J : List Rw) (a b : Int) : demC J a b = sumP J fun x => decide (a ≤ x.r) && decide (x.d ≤ b) := rfl
def accC (J : List Rw) (a : Int) (L : List Int) : Int := (L.map (dueC J a)).sum
theorem accC_app (J : List Rw) (a : Int) (L : List Int) (b : Int) : accC J a (L ++ [b]) = accC J a L + dueC J a b := by
  unfold accC
  simp
theorem accC_is (J : List Rw) (a : Int) : ∀ L : List Int, L.Nodup → accC J a L = sumP J fun x => decide (a ≤ x.r) && decide (x.d ∈ L)
  | [], _ => by
    rw [sumP_none]
    · rfl
    · intro x _; simp
  | b :: L, h => by
    have h1 := List.nodup_cons.mp h
    show (dueC J a b + (L.map (dueC J a)).sum) = _
    have ih := accC_is J a L h1.2
    unfold accC at ih
    rw [ih, dueC_sumP, ← sumP_or]
    · refine sumP_congr fun x _ => ?_
      rw [← Bool.and_or_distrib_left]
      congr 1
      by_cases e : x.d = b <;> by_cases e2 : x.d ∈ L <;> simp [e, e2] <;> (subst e; try simp [e2])
    · rintro x ⟨e1, e2⟩
      simp only [Bool.and_eq_true, decide_eq_true_eq] at e1 e2
      exact h1.1 (e1.2 ▸ e2.2)
theorem srt_nodup {l : List Int} (h : l.Pairwise (· < ·)) : l.Nodup := h.imp fun h => by omega
theorem acc_dem {J : List Rw} {a : Int} {i : Nat} {b : Int} (h : (dist (J.map Rw.d))[i]? = some b) : accC J a ((dist (J.map Rw.d)).take i) + dueC J a b = demC J a b := by
  have e : (dist (J.map Rw.d)).take (i + 1) = (dist (J.map Rw.d)).take i ++ [b] := by rw [List.take_add_one, h]; rfl
  rw [← accC_app, ← e, accC_is _ _ _ (srt_nodup (dist_srt.sublist (List.take_sublist _ _))), demC_sumP]
  refine sumP_congr fun x hx => ?_
  congr 1
  have hm : x.d ∈ dist (J.map Rw.d) := dist_mem.mpr (List.mem_map_of_mem hx)
  obtain ⟨j, hj⟩ := List.mem_iff_getElem?.mp hm
  have hil := (List.getElem?_eq_some_iff.mp h).1
  have hjl := (List.getElem?_eq_some_iff.mp hj).1
  have lt := List.pairwise_iff_getElem.mp (dist_srt (l := J.map Rw.d))
  have ei : (dist (J.map Rw.d))[i] = b := (List.getElem?_eq_some_iff.mp h).2
  have ej : (dist (J.map Rw.d))[j] = x.d := (List.getElem?_eq_some_iff.mp hj).2
  rw [decide_eq_decide]
  constructor
  · intro hq
    obtain ⟨k, hk⟩ := List.mem_iff_getElem?.mp hq
    have hkl := (List.getElem?_eq_some_iff.mp hk).1
    rw [List.length_take] at hkl
    have ek := (List.getElem?_eq_some_iff.mp hk).2
    rw [List.getElem_take] at ek
    by_cases hki : k = i
    · subst hki; omega
    · have := lt k i (by omega) hil (by omega); omega
  · intro hq
    have hji : j ≤ i := by
      by_cases hji : i < j
      · have := lt i j hil hjl hji; omega
      · omega
    refine List.mem_iff_getElem?.mpr ⟨j, ?_⟩
    rw [List.getElem?_take, if_pos (by omega), hj]
theorem dueC_app (J : List Rw) (x : Rw) (a e : Int) : dueC (J ++ [x]) a e = dueC J a e + (if a ≤ x.r ∧ x.d = e then x.c else 0) := by
  rw [dueC_sumP, dueC_sumP, sumP_app, sumP_cons, sumP_nil]
  by_cases h : a ≤ x.r ∧ x.d = e
  · rw [if_pos h, if_pos (by simp [h])]; omega
  · rw [if_neg h, if_neg (by simpa using h)]; omega
theorem rowsA_app (J : List Rw) (a : Int) (L : List Int) (b : Int) : rowsA J a (L ++ [b]) = rowsA J a L ++ rowI1 J a b := by
  unfold rowsA
  rw [List.flatMap_append]
  simp
theorem flatMap_len {α β : Type} {f : α → List β} {n : Nat} : ∀ {l : List α}, (∀ x ∈ l, (f x).length ≤ n) → (l.flatMap f).length ≤ l.length * n
  | [], _ => by simp
  | x :: l, h => by
    rw [List.flatMap_cons, List.length_append, List.length_cons, Nat.succ_mul]
    have := flatMap_len (l := l) fun y hy => h y (List.mem_cons_of_mem _ hy)
    have := h x List.mem_cons_self
    omega
theorem rowI1_len (J : List Rw) (a b : Int) : (rowI1 J a b).length ≤ 1 := by
  unfold rowI1
  split <;> simp
theorem rowsA_len (J : List Rw) (a : Int) (L : List Int) : (rowsA J a L).length ≤ L.length := by
  have := flatMap_len (l := L) fun x _ => rowI1_len J a x
  rw [Nat.mul_one] at this
  exact this
theorem rowsI_len {J : List Rw} (h : J.length ≤ 1000) : (rowsI J).length ≤ 1000000 := by
  have h1 : (dist (J.map Rw.r)).length ≤ 1000 := Nat.le_trans dist_len (by rw [List.length_map]; exact h)
  have h2 : (dist (J.map Rw.d)).length ≤ 1000 := Nat.le_trans dist_len (by rw [List.length_map]; exact h)
  have := flatMap_len (f := fun a => rowsA J a (dist (J.map Rw.d))) (n := 1000) (l := dist (J.map Rw.r)) fun x _ => Nat.le_trans (rowsA_len _ _ _) h2
  exact Nat.le_trans this (Nat.mul_le_mul_right 1000 h1)
theorem valI_map (k : Key) (i : Int) (k' : Key) : ∀ kvs : List (Key × Int), valI (kvs.map fun kv => if kv.1 = k then (kv.1, i) else kv) k' = if k' = k then (valI kvs k').map (fun _ => i) else valI kvs k'
  | [] => by split <;> rfl
  | (j, v) :: kvs => by
    have ih := valI_map k i k' kvs
    have e1 : ∀ (z : Key × Int) (l : List (Key × Int)), valI (z :: l) k' = if z.1 = k' then some z.2 else valI l k' := fun z l => by
      unfold valI
      rw [List.find?_cons]
      by_cases h : z.1 = k'
      · rw [if_pos h, decide_eq_true h]; rfl
      · rw [if_neg h, decide_eq_false h]
    rw [List.map_cons, e1, e1, ih]
    by_cases h1 : j = k
    · subst h1
      by_cases h2 : j = k'
      · subst h2; simp
      · have h3 : ¬ k' = j := fun h => h2 h.symm
        simp [h2, h3]
    · by_cases h2 : j = k'
      · subst h2; simp [h1]
      · by_cases h3 : k' = k
        · simp [h1, h2, h3]
        · simp [h1, h2, h3]
theorem valI_put (kvs : List (Key × Int)) (k : Key) (i : Int) (k' : Key) : valI (putI kvs k i) k' = if k' = k then some i else valI kvs k' := by
  unfold putI
  by_cases h : (kvs.any fun kv => decide (kv.1 = k)) = true
  · rw [if_pos h, valI_map]
    by_cases e : k' = k
    · subst e
      rw [if_pos rfl, if_pos rfl]
      have : (valI kvs k').isSome = true := by
        unfold valI
        rw [Option.isSome_map, List.find?_isSome]
        obtain ⟨x, hx, e⟩ := List.any_eq_true.mp h
        exact ⟨x, hx, e⟩
      obtain ⟨y, hy⟩ := Option.isSome_iff_exists.mp this
      rw [hy]; rfl
    · rw [if_neg e, if_neg e]
  · rw [if_neg h]
    unfold valI
    rw [List.find?_append]
    have hn : ∀ x ∈ kvs, ¬ x.1 = k := fun x hx e => h (List.any_eq_true.mpr ⟨x, hx, decide_eq_true e⟩)
    by_cases e : k' = k
    · subst e
      have : (kvs.find? fun kv => decide (kv.1 = k')) = none := List.find?_eq_none.mpr fun x hx => by simpa using hn x hx
      rw [this, if_pos rfl]
      simp
    · rw [if_neg e]
      have : ([(k, i)].find? fun kv : Key × Int => decide (kv.1 = k')) = none := List.find?_eq_none.mpr fun x hx => by
        rw [List.mem_singleton.mp hx]
        simpa using fun h => e h.symm
      rw [this, Option.or_none]
theorem putI_len (kvs : List (Key × Int)) (k : Key) (i : Int) : (putI kvs k i).length ≤ kvs.length + 1 := by
  unfold putI
  split
  · rw [List.length_map]; omega
  · rw [List.length_append]; exact Nat.le_refl _
theorem pure_costs_by_due {K : Fr0} {mg : Str → Option Value} (T : Txt K mg) (ds : List D) (m : M) (Q : D → M → Prop) (E : XD → M → Prop) (h : sp_costs_by_due K ds m Q E) : t_costs_by_due K (fun x _ m => E x m) { nx := fun _ m => Q .non m, rt := Q } (startD nm_costs_by_due ds) m := by
  obtain ⟨J, a, rfl, jl, q⟩ := h
  show t_costs_by_due K _ _ [some (jbsD J), some (.int a), none, none] m
  unfold t_costs_by_due
  try simp only [dSeq]
  try simp only [dIfS, dTest, dOp, dVar, dC, dCB, daCons, daNil, dSet, dRet, dNext, dDrop, dAsg, dPar, dAug, dAddI, dBreak, dCont, dRetN, slot, dLen, dCmpI, dSub, dAdd, dMul, dDiv, dMod, dPow, dNeg, dUn, dIx, dInt1, dAbs, dChain, dAnd, dOr, dNot, dAndV, dOrV, dNotV, dTru, dTruB, dIf, dTup, dLst, mkL, dSlice, dSl, doNone, doSome, dSum, dAll, dAny, dList, dTuple, dMax, dMin, eq_ii, ne_ii, eq_ss, ne_ss, eq_bb, ne_bb, eq_nn, ne_nn, dIsN, dNotN, dFgt, dIsB, dNotB, gN, gT, gsNil, gsCons, gSet, dBM, dAppend, dClear, dFld, dFldS, dProp, dCall, dMeth, dMake, dMakeN, daStar, dDictP, dCallO, dFor, dLc, diR1, diR2, diR3, diL, diT, diRv, diS, diE, dFmt, dFStr, dJs, dCallN, dFrzE, frz_l, in_ss, notin_ss, drR1, drR2, dListR, dRaise, dRaise0, dTryAs, dTry, dXf, dAddO, dInO, isL, insOf, Option.some.injEq, List.cons.injEq, D.int.injEq, D.bl.injEq, D.str.injEq, D.lst.injEq, D.tup.injEq, D.ref.injEq, MO.lst.injEq, MO.ins.injEq, mset_mset, and_true, true_and, and_self, and_assoc, exists_eq_left', exists_eq_left, exists_and_left, exists_and_right, exists_eq', List.set_cons_zero, List.set_cons_succ, decide_eq_true_eq, sqOf, lsOf, List.length_cons, List.length_nil, sizeLine_eq, List.append_nil, List.cons_append, List.nil_append, if_true, if_false, Bool.false_eq_true, reduceCtorEq, reduceIte, Nat.reduceAdd, Nat.reduceLeDiff, mset_same, Option.bind_some, List.length_map, Prod.mk.injEq, at0, at1, at2, at3, at4, at5, at6, at7, ix30, ix31, ix32, ix20, ix21, ix10, isi_ii, isi_ib, isi_ll, isi_bb, isi_ss, isi_tt, isi_is, isi_si, Bool.not_true, Bool.not_false, dCopyK, dGet2K, dDctR, dDisp1, dFrzEK, dNewK]
  intro p hp
  walk_at "zn"
  obtain ⟨P1, hP1⟩ : ∃ P : Nat → DSt → M → Prop, ∀ j rr m', P j rr m' ↔ (∃ (kvs : List (Key × Int)) (o3 : Option D), (∀ e : Int, (valI kvs (.inl e)).getD 0 = dueC (J.take j) a e) ∧ kvs.length ≤ j ∧ m' = mset m p (.dK (iD kvs)) ∧ rr = [some (jbsD J), some (.int a), some (.ref p), o3]) := ⟨_, fun _ _ _ => Iff.rfl⟩
  refine ⟨P1, (hP1 0 _ _).mpr ⟨[], _, fun e => rfl, Nat.le_refl _, rfl, rfl⟩, ?_, ?_⟩
  · intro j d rr m' hd hp1
    obtain ⟨kvs, o3, hk, kl, rfl, rfl⟩ := (hP1 _ _ _).mp hp1
    obtain ⟨x, hx, rfl⟩ := map_at hd
    have hj := len_at hx
    have et : J.take (j + 1) = J.take j ++ [x] := by rw [List.take_add_one, hx]; rfl
    try simp only [dIfS, dTest, dOp, dVar, dC, dCB, daCons, daNil, dSet, dRet, dNext, dDrop, dAsg, dPar, dAug, dAddI, dBreak, dCont, dRetN, slot, dLen, dCmpI, dSub, dAdd, dMul, dDiv, dMod, dPow, dNeg, dUn, dIx, dInt1, dAbs, dChain, dAnd, dOr, dNot, dAndV, dOrV, dNotV, dTru, dTruB, dIf, dTup, dLst, mkL, dSlice, dSl, doNone, doSome, dSum, dAll, dAny, dList, dTuple, dMax, dMin, eq_ii, ne_ii, eq_ss, ne_ss, eq_bb, ne_bb, eq_nn, ne_nn, dIsN, dNotN, dFgt, dIsB, dNotB, gN, gT, gsNil, gsCons, gSet, dBM, dAppend, dClear, dFld, dFldS, dProp, dCall, dMeth, dMake, dMakeN, daStar, dDictP, dCallO, dFor, dLc, diR1, diR2, diR3, diL, diT, diRv, diS, diE, dFmt, dFStr, dJs, dCallN, dFrzE, frz_l, in_ss, notin_ss, drR1, drR2, dListR, dRaise, dRaise0, dTryAs, dTry, dXf, dAddO, dInO, isL, insOf, Option.some.injEq, List.cons.injEq, D.int.injEq, D.bl.injEq, D.str.injEq, D.lst.injEq, D.tup.injEq, D.ref.injEq, MO.lst.injEq, MO.ins.injEq, mset_mset, and_true, true_and, and_self, and_assoc, exists_eq_left', exists_eq_left, exists_and_left, exists_and_right, exists_eq', List.set_cons_zero, List.set_cons_succ, decide_eq_true_eq, sqOf, lsOf, List.length_cons, List.length_nil, sizeLine_eq, List.append_nil, List.cons_append, List.nil_append, if_true, if_false, Bool.false_eq_true, reduceCtorEq, reduceIte, Nat.reduceAdd, Nat.reduceLeDiff, mset_same, Option.bind_some, List.length_map, Prod.mk.injEq, at0, at1, at2, at3, at4, at5, at6, at7, ix30, ix31, ix32, ix20, ix21, ix10, isi_ii, isi_ib, isi_ll, isi_bb, isi_ss, isi_tt, isi_is, isi_si, Bool.not_true, Bool.not_false, dCopyK, dGet2K, dDctR, dDisp1, dFrzEK, Rw.D]
    by_cases c : a ≤ x.r
    · rw [if_pos (by simpa using c)]
      try simp only [dIfS, dTest, dOp, dVar, dC, dCB, daCons, daNil, dSet, dRet, dNext, dDrop, dAsg, dPar, dAug, dAddI, dBreak, dCont, dRetN, slot, dLen, dCmpI, dSub, dAdd, dMul, dDiv, dMod, dPow, dNeg, dUn, dIx, dInt1, dAbs, dChain, dAnd, dOr, dNot, dAndV, dOrV, dNotV, dTru, dTruB, dIf, dTup, dLst, mkL, dSlice, dSl, doNone, doSome, dSum, dAll, dAny, dList, dTuple, dMax, dMin, eq_ii, ne_ii, eq_ss, ne_ss, eq_bb, ne_bb, eq_nn, ne_nn, dIsN, dNotN, dFgt, dIsB, dNotB, gN, gT, gsNil, gsCons, gSet, dBM, dAppend, dClear, dFld, dFldS, dProp, dCall, dMeth, dMake, dMakeN, daStar, dDictP, dCallO, dFor, dLc, diR1, diR2, diR3, diL, diT, diRv, diS, diE, dFmt, dFStr, dJs, dCallN, dFrzE, frz_l, in_ss, notin_ss, drR1, drR2, dListR, dRaise, dRaise0, dTryAs, dTry, dXf, dAddO, dInO, isL, insOf, Option.some.injEq, List.cons.injEq, D.int.injEq, D.bl.injEq, D.str.injEq, D.lst.injEq, D.tup.injEq, D.ref.injEq, MO.lst.injEq, MO.ins.injEq, mset_mset, and_true, true_and, and_self, and_assoc, exists_eq_left', exists_eq_left, exists_and_left, exists_and_right, exists_eq', List.set_cons_zero, List.set_cons_succ, decide_eq_true_eq, sqOf, lsOf, List.length_cons, List.length_nil, sizeLine_eq, List.append_nil, List.cons_append, List.nil_append, if_true, if_false, Bool.false_eq_true, reduceCtorEq, reduceIte, Nat.reduceAdd, Nat.reduceLeDiff, mset_same, Option.bind_some, List.length_map, Prod.mk.injEq, at0, at1, at2, at3, at4, at5, at6, at7, ix30, ix31, ix32, ix20, ix21, ix10, isi_ii, isi_ib, isi_ll, isi_bb, isi_ss, isi_tt, isi_is, isi_si, Bool.not_true, Bool.not_false, dCopyK, dGet2K, dDctR, dDisp1, dFrzEK, dPutK, dctOf]
      have eg : (valD (iD kvs) (.inl x.d)).getD (.int 0) = .int ((valI kvs (.inl x.d)).getD 0) := by
        rw [iD_val]
        cases valI kvs (.inl x.d) <;> rfl
      refine ⟨.inl x.d, rfl, ?_⟩
      rw [eg, hk]
      show ∃ y, mset m p (MO.dK (iD kvs)) p = some (MO.dK y) ∧ _
      refine ⟨_, mset_same, .inl x.d, rfl, by unfold iD; rw [List.length_map]; omega, (hP1 _ _ _).mpr ⟨putI kvs (.inl x.d) (dueC (J.take j) a x.d + x.c), _, fun e => ?_, ?_, by rw [mset_mset, iD_put], rfl⟩⟩
      · rw [et, dueC_app, valI_put]
        by_cases e1 : x.d = e
        · subst e1
          rw [if_pos rfl, if_pos ⟨c, rfl⟩]; rfl
        · rw [if_neg (fun h => e1 (Sum.inl.inj h).symm), if_neg (fun h => e1 h.2), hk]; omega
      · have := putI_len kvs (.inl x.d) (dueC (J.take j) a x.d + x.c)
        omega
    · rw [if_neg (by simpa using c)]
      refine (hP1 _ _ _).mpr ⟨kvs, _, fun e => ?_, by omega, rfl, rfl⟩
      rw [hk, et, dueC_app, if_neg (fun h => c h.1)]
      omega
  · intro rr m' hp1
    obtain ⟨kvs, o3, hk, kl, rfl, rfl⟩ := (hP1 _ _ _).mp hp1
    walk_at "zs"
    refine ⟨kvs, rfl, ?_⟩
    rw [mdel_mset hp]
    refine q kvs fun e => ?_
    rw [hk, List.length_map, List.take_length]
theorem tupI_r (J : List Rw) : (J.map Rw.D).map (tupI 3) = (J.map Rw.r).map some := by
  rw [List.map_map, List.map_map]
  rfl
theorem tupI_d (J : List Rw) : (J.map Rw.D).map (tupI 5) = (J.map Rw.d).map some := by
  rw [List.map_map, List.map_map]
  rfl
theorem take_split {α : Type} {l : List α} {i : Nat} {x : α} (h : l[i]? = some x) : l = l.take i ++ x :: l.drop (i + 1) := by
  have hi := (List.getElem?_eq_some_iff.mp h)
  rw [← hi.2, List.getElem_cons_drop, List.take_append_drop]
theorem rows_at {J : List Rw} {i k : Nat} {a b : Int} (ha : (dist (J.map Rw.r))[i]? = some a) (hb : (dist (J.map Rw.d))[k]? = some b) (h : 0 < demC J a b) :
    (rowsI J)[(((dist (J.map Rw.r)).take i).flatMap fun a => rowsA J a (dist (J.map Rw.d))).length + (rowsA J a ((dist (J.map Rw.d)).take k)).length]? = some ⟨a, b, demC J a b⟩ := by
  unfold rowsI
  generalize hB : dist (J.map Rw.d) = B at *
  generalize hS : dist (J.map Rw.r) = S at *
  have e1 : S.flatMap (fun a => rowsA J a B) = (S.take i).flatMap (fun a => rowsA J a B) ++ (rowsA J a (B.take k) ++ ((⟨a, b, demC J a b⟩ : IRow) :: (rowsA J a (B.drop (k + 1)) ++ (S.drop (i + 1)).flatMap fun a => rowsA J a B))) := by
    conv => lhs; rw [take_split ha]
    rw [List.flatMap_append, List.flatMap_cons]
    congr 1
    conv => lhs; arg 1; rw [take_split hb]
    unfold rowsA
    rw [List.flatMap_append, List.flatMap_cons, List.append_assoc, List.append_assoc]
    congr 1
    unfold rowI1
    rw [if_pos h]
    rfl
  rw [e1, List.getElem?_append_right (by omega), List.getElem?_append_right (by omega)]
  rw [show ∀ x y : Nat, x + y - x - y = 0 by intros; omega]
  rfl
theorem pure_interval_demands {K : Fr0} {mg : Str → Option Value} (T : Txt K mg) (ds : List D) (m : M) (Q : List D → Prop) (h : sp_interval_demands K ds m Q) : ∃ ys, Q ys ∧ ys.length < sizeLine ∧ t_interval_demands K ys m { nx := fun j _ m' => j = ys.length ∧ m' = m } 0 (startD nm_interval_demands ds) m := by
  obtain ⟨g, J, rfl, jl, q⟩ := h
  refine ⟨_, q, by rw [List.length_map, sizeLine_eq]; have := rowsI_len jl; omega, ?_⟩
  show t_interval_demands K _ m _ 0 [some (runD K g J), none, none, none, none, none, none, none, none] m
  unfold t_interval_demands
  try simp only [dSeq]
  try simp only [dIfS, dTest, dOp, dVar, dC, dCB, daCons, daNil, dSet, dRet, dNext, dDrop, dAsg, dPar, dAug, dAddI, dBreak, dCont, dRetN, slot, dLen, dCmpI, dSub, dAdd, dMul, dDiv, dMod, dPow, dNeg, dUn, dIx, dInt1, dAbs, dChain, dAnd, dOr, dNot, dAndV, dOrV, dNotV, dTru, dTruB, dIf, dTup, dLst, mkL, dSlice, dSl, doNone, doSome, dSum, dAll, dAny, dList, dTuple, dMax, dMin, eq_ii, ne_ii, eq_ss, ne_ss, eq_bb, ne_bb, eq_nn, ne_nn, dIsN, dNotN, dFgt, dIsB, dNotB, gN, gT, gsNil, gsCons, gSet, dBM, dAppend, dClear, dFld, dFldS, dProp, dCall, dMeth, dMake, dMakeN, daStar, dDictP, dCallO, dFor, dLc, diR1, diR2, diR3, diL, diT, diRv, diS, diE, dFmt, dFStr, dJs, dCallN, dFrzE, frz_l, in_ss, notin_ss, drR1, drR2, dListR, dRaise, dRaise0, dTryAs, dTry, dXf, dAddO, dInO, isL, insOf, Option.some.injEq, List.cons.injEq, D.int.injEq, D.bl.injEq, D.str.injEq, D.lst.injEq, D.tup.injEq, D.ref.injEq, MO.lst.injEq, MO.ins.injEq, mset_mset, and_true, true_and, and_self, and_assoc, exists_eq_left', exists_eq_left, exists_and_left, exists_and_right, exists_eq', List.set_cons_zero, List.set_cons_succ, decide_eq_true_eq, sqOf, lsOf, List.length_cons, List.length_nil, sizeLine_eq, List.append_nil, List.cons_append, List.nil_append, if_true, if_false, Bool.false_eq_true, reduceCtorEq, reduceIte, Nat.reduceAdd, Nat.reduceLeDiff, mset_same, Option.bind_some, List.length_map, Prod.mk.injEq, at0, at1, at2, at3, at4, at5, at6, at7, ix30, ix31, ix32, ix20, ix21, ix10, isi_ii, isi_ib, isi_ll, isi_bb, isi_ss, isi_tt, isi_is, isi_si, Bool.not_true, Bool.not_false, dCopyK, dGet2K, dDctR, dDisp1, dFrzEK, gSeq, gPl, T.cl_Run, T.n_Run_grain, T.n_Run_placed, runD, lk_grain, lk_placed]
  refine ⟨g, J, rfl, ?_⟩
  try simp only [dSeq]
  walk_at "z8"
  refine ⟨by omega, J.map Rw.r, tupI_r J, by unfold scanBound; omega, by omega, fun out h1 h2 => ?_⟩
  obtain rfl := dist_un h1 h2
  clear h1 h2
  try simp only [dSeq]
  walk_at "z8"
  refine ⟨by omega, J.map Rw.d, tupI_d J, by unfold scanBound; omega, by omega, fun out h1 h2 => ?_⟩
  obtain rfl := dist_un h1 h2
  clear h1 h2
  try simp only [dSeq]
  walk_at "z10"
  obtain ⟨P1, hP1⟩ : ∃ P : Nat → Nat → DSt → M → Prop, ∀ i j rr m', P i j rr m' ↔ (∃ (o5 o6 o7 o8 : Option D), j = (((dist (J.map Rw.r)).take i).flatMap fun a => rowsA J a (dist (J.map Rw.d))).length ∧ m' = m ∧ rr = [some (.ins (ga K "Run") (runF g J)), some (jbsD J), some (il (dist (J.map Rw.r))), none, some (il (dist (J.map Rw.d))), o5, o6, o7, o8]) := ⟨_, fun _ _ _ _ => Iff.rfl⟩
  refine ⟨P1, (hP1 _ _ _ _).mpr ⟨_, _, _, _, rfl, rfl, rfl⟩, ?_, ?_⟩
  · intro i d j rr m' hd hp
    obtain ⟨o5, o6, o7, o8, rfl, rfl, rfl⟩ := (hP1 _ _ _ _).mp hp
    obtain ⟨a, ha, rfl⟩ := map_at hd
    try simp only [dSeq]
    walk_at "z7"
    refine ⟨J, a, rfl, jl, fun kvs hk => ?_⟩
    try simp only [dSeq]
    walk_at "z7"
    try simp only [dSeq]
    walk_at "z10"
    obtain ⟨P2, hP2⟩ : ∃ P : Nat → Nat → DSt → M → Prop, ∀ k j rr m2, P k j rr m2 ↔ (∃ o8 : Option D, j = (((dist (J.map Rw.r)).take i).flatMap fun a => rowsA J a (dist (J.map Rw.d))).length + (rowsA J a ((dist (J.map Rw.d)).take k)).length ∧ m2 = m' ∧ rr = [some (.ins (ga K "Run") (runF g J)), some (jbsD J), some (il (dist (J.map Rw.r))), none, some (il (dist (J.map Rw.d))), some (.int a), some (.dki kvs), some (.int (accC J a ((dist (J.map Rw.d)).take k))), o8]) := ⟨_, fun _ _ _ _ => Iff.rfl⟩
    refine ⟨P2, (hP2 _ _ _ _).mpr ⟨_, rfl, rfl, rfl⟩, ?_, ?_⟩
    · intro k d j rr m2 hd2 hp2
      obtain ⟨o8, rfl, rfl, rfl⟩ := (hP2 _ _ _ _).mp hp2
      obtain ⟨b, hb, rfl⟩ := map_at hd2
      try simp only [dSeq]
      try simp only [dIfS, dTest, dOp, dVar, dC, dCB, daCons, daNil, dSet, dRet, dNext, dDrop, dAsg, dPar, dAug, dAddI, dBreak, dCont, dRetN, slot, dLen, dCmpI, dSub, dAdd, dMul, dDiv, dMod, dPow, dNeg, dUn, dIx, dInt1, dAbs, dChain, dAnd, dOr, dNot, dAndV, dOrV, dNotV, dTru, dTruB, dIf, dTup, dLst, mkL, dSlice, dSl, doNone, doSome, dSum, dAll, dAny, dList, dTuple, dMax, dMin, eq_ii, ne_ii, eq_ss, ne_ss, eq_bb, ne_bb, eq_nn, ne_nn, dIsN, dNotN, dFgt, dIsB, dNotB, gN, gT, gsNil, gsCons, gSet, dBM, dAppend, dClear, dFld, dFldS, dProp, dCall, dMeth, dMake, dMakeN, daStar, dDictP, dCallO, dFor, dLc, diR1, diR2, diR3, diL, diT, diRv, diS, diE, dFmt, dFStr, dJs, dCallN, dFrzE, frz_l, in_ss, notin_ss, drR1, drR2, dListR, dRaise, dRaise0, dTryAs, dTry, dXf, dAddO, dInO, isL, insOf, Option.some.injEq, List.cons.injEq, D.int.injEq, D.bl.injEq, D.str.injEq, D.lst.injEq, D.tup.injEq, D.ref.injEq, MO.lst.injEq, MO.ins.injEq, mset_mset, and_true, true_and, and_self, and_assoc, exists_eq_left', exists_eq_left, exists_and_left, exists_and_right, exists_eq', List.set_cons_zero, List.set_cons_succ, decide_eq_true_eq, sqOf, lsOf, List.length_cons, List.length_nil, sizeLine_eq, List.append_nil, List.cons_append, List.nil_append, if_true, if_false, Bool.false_eq_true, reduceCtorEq, reduceIte, Nat.reduceAdd, Nat.reduceLeDiff, mset_same, Option.bind_some, List.length_map, Prod.mk.injEq, at0, at1, at2, at3, at4, at5, at6, at7, ix30, ix31, ix32, ix20, ix21, ix10, isi_ii, isi_ib, isi_ll, isi_bb, isi_ss, isi_tt, isi_is, isi_si, Bool.not_true, Bool.not_false, dCopyK, dGet2K, dDctR, dDisp1, dFrzEK, gSeq, gPl, gIf, gYield, dctOf, DL.gNil]
      have eg : (valD (iD kvs) (.inl b)).getD (.int 0) = .int (dueC J a b) := by
        rw [iD_val, ← hk]
        cases valI kvs (.inl b) <;> rfl
      refine ⟨.inl b, rfl, ?_⟩
      rw [eg]
      try simp only [dIfS, dTest, dOp, dVar, dC, dCB, daCons, daNil, dSet, dRet, dNext, dDrop, dAsg, dPar, dAug, dAddI, dBreak, dCont, dRetN, slot, dLen, dCmpI, dSub, dAdd, dMul, dDiv, dMod, dPow, dNeg, dUn, dIx, dInt1, dAbs, dChain, dAnd, dOr, dNot, dAndV, dOrV, dNotV, dTru, dTruB, dIf, dTup, dLst, mkL, dSlice, dSl, doNone, doSome, dSum, dAll, dAny, dList, dTuple, dMax, dMin, eq_ii, ne_ii, eq_ss, ne_ss, eq_bb, ne_bb, eq_nn, ne_nn, dIsN, dNotN, dFgt, dIsB, dNotB, gN, gT, gsNil, gsCons, gSet, dBM, dAppend, dClear, dFld, dFldS, dProp, dCall, dMeth, dMake, dMakeN, daStar, dDictP, dCallO, dFor, dLc, diR1, diR2, diR3, diL, diT, diRv, diS, diE, dFmt, dFStr, dJs, dCallN, dFrzE, frz_l, in_ss, notin_ss, drR1, drR2, dListR, dRaise, dRaise0, dTryAs, dTry, dXf, dAddO, dInO, isL, insOf, Option.some.injEq, List.cons.injEq, D.int.injEq, D.bl.injEq, D.str.injEq, D.lst.injEq, D.tup.injEq, D.ref.injEq, MO.lst.injEq, MO.ins.injEq, mset_mset, and_true, true_and, and_self, and_assoc, exists_eq_left', exists_eq_left, exists_and_left, exists_and_right, exists_eq', List.set_cons_zero, List.set_cons_succ, decide_eq_true_eq, sqOf, lsOf, List.length_cons, List.length_nil, sizeLine_eq, List.append_nil, List.cons_append, List.nil_append, if_true, if_false, Bool.false_eq_true, reduceCtorEq, reduceIte, Nat.reduceAdd, Nat.reduceLeDiff, mset_same, Option.bind_some, List.length_map, Prod.mk.injEq, at0, at1, at2, at3, at4, at5, at6, at7, ix30, ix31, ix32, ix20, ix21, ix10, isi_ii, isi_ib, isi_ll, isi_bb, isi_ss, isi_tt, isi_is, isi_si, Bool.not_true, Bool.not_false, dCopyK, dGet2K, dDctR, dDisp1, dFrzEK, dGt]
      rw [acc_dem hb]
      have et : (dist (J.map Rw.d)).take (k + 1) = (dist (J.map Rw.d)).take k ++ [b] := by rw [List.take_add_one, hb]; rfl
      have ea : accC J a ((dist (J.map Rw.d)).take (k + 1)) = demC J a b := by rw [et, accC_app, acc_dem hb]
      by_cases hp : 0 < demC J a b
      · have hr := rows_at ha hb hp
        have hl := (List.getElem?_eq_some_iff.mp hr).1
        have := rowsI_len jl
        rw [if_pos (by simpa using hp)]
        refine ⟨by omega, by rw [List.getElem?_map, hr]; rfl, (hP2 _ _ _ _).mpr ⟨_, ?_, rfl, by rw [ea]⟩⟩
        rw [et, rowsA_app, List.length_append]
        unfold rowI1
        rw [if_pos hp]
        rfl
      · rw [if_neg (by simpa using hp)]
        refine (hP2 _ _ _ _).mpr ⟨_, ?_, rfl, by rw [ea]⟩
        rw [et, rowsA_app, List.length_append]
        unfold rowI1
        rw [if_neg hp]
        rfl
    · intro j2 rr m2 hp2
      obtain ⟨o8, rfl, rfl, rfl⟩ := (hP2 _ _ _ _).mp hp2
      refine (hP1 _ _ _ _).mpr ⟨_, _, _, _, ?_, rfl, rfl⟩
      rw [List.take_length, List.take_add_one, ha]
      simp
  · intro j rr m' hp
    obtain ⟨o5, o6, o7, o8, rfl, rfl, rfl⟩ := (hP1 _ _ _ _).mp hp
    refine ⟨?_, rfl⟩
    rw [List.take_length]
    rfl
theorem hvL_app (v : Int) (l : List IRow) (x : IRow) : hvL v (l ++ [x]) = hvS v (hvL v l) x := by
  unfold hvL
  rw [List.foldl_append]
  rfl
theorem pure_heaviest_interval {K : Fr0} {mg : Str → Option Value} (T : Txt K mg) (ds : List D) (m : M) (Q : D → M → Prop) (E : XD → M → Prop) (h : sp_heaviest_interval K ds m Q E) : t_heaviest_interval K (fun x _ m => E x m) { nx := fun _ m => Q .non m, rt := Q } (startD nm_heaviest_interval ds) m := by
  obtain ⟨g, J, v, rfl, jl, qe, q⟩ := h
  show t_heaviest_interval K _ _ [some (runD K g J), some (.int v), none, none, none, none, none] m
  unfold t_heaviest_interval
  walk_at "zn"
  refine ⟨v, rfl, fun hv => ?_, fun hv => qe hv⟩
  walk_at "zn"
  try simp only [dSeq]
  try simp only [dIfS, dTest, dOp, dVar, dC, dCB, daCons, daNil, dSet, dRet, dNext, dDrop, dAsg, dPar, dAug, dAddI, dBreak, dCont, dRetN, slot, dLen, dCmpI, dSub, dAdd, dMul, dDiv, dMod, dPow, dNeg, dUn, dIx, dInt1, dAbs, dChain, dAnd, dOr, dNot, dAndV, dOrV, dNotV, dTru, dTruB, dIf, dTup, dLst, mkL, dSlice, dSl, doNone, doSome, dSum, dAll, dAny, dList, dTuple, dMax, dMin, eq_ii, ne_ii, eq_ss, ne_ss, eq_bb, ne_bb, eq_nn, ne_nn, dIsN, dNotN, dFgt, dIsB, dNotB, gN, gT, gsNil, gsCons, gSet, dBM, dAppend, dClear, dFld, dFldS, dProp, dCall, dMeth, dMake, dMakeN, daStar, dDictP, dCallO, dFor, dLc, diR1, diR2, diR3, diL, diT, diRv, diS, diE, dFmt, dFStr, dJs, dCallN, dFrzE, frz_l, in_ss, notin_ss, drR1, drR2, dListR, dRaise, dRaise0, dTryAs, dTry, dXf, dAddO, dInO, isL, insOf, Option.some.injEq, List.cons.injEq, D.int.injEq, D.bl.injEq, D.str.injEq, D.lst.injEq, D.tup.injEq, D.ref.injEq, MO.lst.injEq, MO.ins.injEq, mset_mset, and_true, true_and, and_self, and_assoc, exists_eq_left', exists_eq_left, exists_and_left, exists_and_right, exists_eq', List.set_cons_zero, List.set_cons_succ, decide_eq_true_eq, sqOf, lsOf, List.length_cons, List.length_nil, sizeLine_eq, List.append_nil, List.cons_append, List.nil_append, if_true, if_false, Bool.false_eq_true, reduceCtorEq, reduceIte, Nat.reduceAdd, Nat.reduceLeDiff, mset_same, Option.bind_some, List.length_map, Prod.mk.injEq, at0, at1, at2, at3, at4, at5, at6, at7, ix30, ix31, ix32, ix20, ix21, ix10, isi_ii, isi_ib, isi_ll, isi_bb, isi_ss, isi_tt, isi_is, isi_si, Bool.not_true, Bool.not_false, dCopyK, dGet2K, dDctR, dDisp1, dFrzEK, dForG]
  refine ⟨g, J, rfl, jl, ?_⟩
  unfold dLoopM
  obtain ⟨P1, hP1⟩ : ∃ P : Nat → DSt → Prop, ∀ i rr, P i rr ↔ (∃ (o3 o4 o5 o6 : Option D), rr = [some (runD K g J), some (.int v), some (bsD (hvL v ((rowsI J).take i))), o3, o4, o5, o6]) := ⟨_, fun _ _ => Iff.rfl⟩
  refine ⟨rfl, P1, (hP1 _ _).mpr ⟨_, _, _, _, rfl⟩, ?_, ?_⟩
  · intro i d rr hd hp
    obtain ⟨o3, o4, o5, o6, rfl⟩ := (hP1 _ _).mp hp
    obtain ⟨x, hx, rfl⟩ := map_at hd
    have et : (rowsI J).take (i + 1) = (rowsI J).take i ++ [x] := by rw [List.take_add_one, hx]; rfl
    have es : hvL v ((rowsI J).take (i + 1)) = hvS v (hvL v ((rowsI J).take i)) x := by rw [et, hvL_app]
    cases hb : hvL v ((rowsI J).take i) with
    | none =>
      rw [hb] at es
      try simp only [dSeq]
      walk_at "z6"
      exact ⟨mul_small (by omega), (hP1 _ _).mpr ⟨some (.int x.a), some (.int x.b), some (.int x.t), some (.int (x.t - (x.b - x.a) * v)), by rw [es]; rfl⟩⟩
    | some y =>
      rw [hb] at es
      try simp only [dSeq]
      walk_at "z4"
      refine ⟨mul_small (by omega), ?_⟩
      by_cases hc : y.a < x.t - (x.b - x.a) * v
      · rw [if_pos (by simpa using hc)]
        have e2 : hvS v (some y) x = some ⟨x.t - (x.b - x.a) * v, x.a, x.b⟩ := if_pos hc
        exact (hP1 _ _).mpr ⟨some (.int x.a), some (.int x.b), some (.int x.t), some (.int (x.t - (x.b - x.a) * v)), by rw [es, e2]; rfl⟩
      · rw [if_neg (by simpa using hc)]
        have e2 : hvS v (some y) x = some y := if_neg hc
        exact (hP1 _ _).mpr ⟨some (.int x.a), some (.int x.b), some (.int x.t), some (.int (x.t - (x.b - x.a) * v)), by rw [es, e2]; rfl⟩
  · intro rr hp
    obtain ⟨o3, o4, o5, o6, rfl⟩ := (hP1 _ _).mp hp
    walk_at "zs"
    rw [List.take_length]
    exact q hv
theorem atl {α : Type} {xs : List α} {x : α} : atI (xs ++ [x]) (-1) = some x := by
  have e : ixN (xs ++ [x]).length (-1) = some xs.length := by
    unfold ixN
    rw [if_neg (by omega), List.length_append, List.length_singleton, if_pos (by omega)]
    congr 1
    omega
  unfold atI
  rw [e]
  show (xs ++ [x])[xs.length]? = some x
  rw [List.getElem?_append_right (Nat.le_refl _), Nat.sub_self]
  rfl
theorem dist_perm {a b : List Int} (h : a.Perm b) : dist a = dist b := dist_un dist_srt fun k => dist_mem.trans h.mem_iff
theorem dist_up {L : List Int} {x : Int} (h : ∀ y ∈ L, y ≤ x) : dist (L ++ [x]) = if (dist L).getLast? = some x then dist L else dist L ++ [x] := by
  have hm : ∀ k, k ∈ dist (L ++ [x]) ↔ k ∈ L ∨ k = x := fun k => by rw [dist_mem, List.mem_append, List.mem_singleton]
  by_cases c : (dist L).getLast? = some x
  · rw [if_pos c]
    refine srt_un dist_srt dist_srt fun k => ?_
    rw [hm, dist_mem]
    refine ⟨fun hk => ?_, .inl⟩
    rcases hk with hk | rfl
    · exact hk
    · exact dist_mem.mp (List.mem_of_getLast? c)
  · rw [if_neg c]
    refine srt_un dist_srt ?_ fun k => by rw [hm, List.mem_append, List.mem_singleton, dist_mem]
    refine List.pairwise_append.mpr ⟨dist_srt, List.pairwise_singleton _ _, fun y hy z hz => ?_⟩
    rw [List.mem_singleton.mp hz]
    have hyx := h y (dist_mem.mp hy)
    by_cases e : y = x
    · subst e
      exfalso
      apply c
      rcases List.eq_nil_or_concat (dist L) with e | ⟨pre, z, e⟩
      · rw [e] at hy; cases hy
      · rw [List.concat_eq_append] at e
        rw [e, List.getLast?_append]
        have hz := h z (dist_mem.mp (by rw [e]; simp))
        rw [e] at hy
        have hs := List.pairwise_append.mp (e ▸ dist_srt (l := L))
        rcases List.mem_append.mp hy with hp | hp
        · have := hs.2.2 y hp z (by simp)
          omega
        · rw [List.mem_singleton.mp hp]; rfl
    · omega
theorem pure_law_distinct {K : Fr0} {mg : Str → Option Value} (T : Txt K mg) (ds : List D) (m : M) (Q : D → M → Prop) (E : XD → M → Prop) (h : sp_law_distinct K ds m Q E) : t_law_distinct K (fun x _ m => E x m) { nx := fun _ m => Q .non m, rt := Q } (startD nm_law_distinct ds) m := by
  obtain ⟨ns, rfl, nl, q⟩ := h
  show t_law_distinct K _ _ [some (il ns), none, none] m
  unfold t_law_distinct
  walk_at "zn"
  intro p hp
  try simp only [dSeq]
  try simp only [dIfS, dTest, dOp, dVar, dC, dCB, daCons, daNil, dSet, dRet, dNext, dDrop, dAsg, dPar, dAug, dAddI, dBreak, dCont, dRetN, slot, dLen, dCmpI, dSub, dAdd, dMul, dDiv, dMod, dPow, dNeg, dUn, dIx, dInt1, dAbs, dChain, dAnd, dOr, dNot, dAndV, dOrV, dNotV, dTru, dTruB, dIf, dTup, dLst, mkL, dSlice, dSl, doNone, doSome, dSum, dAll, dAny, dList, dTuple, dMax, dMin, eq_ii, ne_ii, eq_ss, ne_ss, eq_bb, ne_bb, eq_nn, ne_nn, dIsN, dNotN, dFgt, dIsB, dNotB, gN, gT, gsNil, gsCons, gSet, dBM, dAppend, dClear, dFld, dFldS, dProp, dCall, dMeth, dMake, dMakeN, daStar, dDictP, dCallO, dFor, dLc, diR1, diR2, diR3, diL, diT, diRv, diS, diE, dFmt, dFStr, dJs, dCallN, dFrzE, frz_l, in_ss, notin_ss, drR1, drR2, dListR, dRaise, dRaise0, dTryAs, dTry, dXf, dAddO, dInO, isL, insOf, Option.some.injEq, List.cons.injEq, D.int.injEq, D.bl.injEq, D.str.injEq, D.lst.injEq, D.tup.injEq, D.ref.injEq, MO.lst.injEq, MO.ins.injEq, mset_mset, and_true, true_and, and_self, and_assoc, exists_eq_left', exists_eq_left, exists_and_left, exists_and_right, exists_eq', List.set_cons_zero, List.set_cons_succ, decide_eq_true_eq, sqOf, lsOf, List.length_cons, List.length_nil, sizeLine_eq, List.append_nil, List.cons_append, List.nil_append, if_true, if_false, Bool.false_eq_true, reduceCtorEq, reduceIte, Nat.reduceAdd, Nat.reduceLeDiff, mset_same, Option.bind_some, List.length_map, Prod.mk.injEq, at0, at1, at2, at3, at4, at5, at6, at7, ix30, ix31, ix32, ix20, ix21, ix10, isi_ii, isi_ib, isi_ll, isi_bb, isi_ss, isi_tt, isi_is, isi_si, Bool.not_true, Bool.not_false, dCopyK, dGet2K, dDctR, dDisp1, dFrzEK, dSorted]
  refine ⟨ns, rfl, fun out ho hs => ?_⟩
  walk_at "zn"
  have ol : out.length ≤ 1000 := by rw [ho.length_eq]; exact nl
  obtain ⟨P1, hP1⟩ : ∃ P : Nat → DSt → M → Prop, ∀ j rr m', P j rr m' ↔ (∃ o2, m' = mset m p (.lst ((dist (out.take j)).map D.int)) ∧ rr = [some (il ns), some (.ref p), o2]) := ⟨_, fun _ _ _ => Iff.rfl⟩
  refine ⟨P1, (hP1 0 _ _).mpr ⟨_, rfl, rfl⟩, ?_, ?_⟩
  · intro j d rr m' hd hp1
    obtain ⟨o2, rfl, rfl⟩ := (hP1 _ _ _).mp hp1
    obtain ⟨x, hx, rfl⟩ := map_at hd
    have hlt := len_at hx
    have et : out.take (j + 1) = out.take j ++ [x] := by rw [List.take_add_one, hx]; rfl
    have er : dist (out.take j ++ [x]) = _ := dist_up fun y hy => by
      obtain ⟨i, hi⟩ := List.mem_iff_getElem?.mp hy
      have hil := (List.getElem?_eq_some_iff.mp hi).1
      rw [List.length_take] at hil
      have ei := (List.getElem?_eq_some_iff.mp hi).2
      rw [List.getElem_take] at ei
      have := List.pairwise_iff_getElem.mp hs i j (by omega) hlt (by omega)
      have ex := (List.getElem?_eq_some_iff.mp hx).2
      omega
    rw [← et] at er
    have rl : (dist (out.take j)).length ≤ 1000 := Nat.le_trans dist_len (by rw [List.length_take]; omega)
    rcases List.eq_nil_or_concat (dist (out.take j)) with e | ⟨pre, z, e⟩
    · rw [e, if_neg (by simp)] at er
      rw [e, List.map_nil]
      try simp only [dIfS, dTest, dOp, dVar, dC, dCB, daCons, daNil, dSet, dRet, dNext, dDrop, dAsg, dPar, dAug, dAddI, dBreak, dCont, dRetN, slot, dLen, dCmpI, dSub, dAdd, dMul, dDiv, dMod, dPow, dNeg, dUn, dIx, dInt1, dAbs, dChain, dAnd, dOr, dNot, dAndV, dOrV, dNotV, dTru, dTruB, dIf, dTup, dLst, mkL, dSlice, dSl, doNone, doSome, dSum, dAll, dAny, dList, dTuple, dMax, dMin, eq_ii, ne_ii, eq_ss, ne_ss, eq_bb, ne_bb, eq_nn, ne_nn, dIsN, dNotN, dFgt, dIsB, dNotB, gN, gT, gsNil, gsCons, gSet, dBM, dAppend, dClear, dFld, dFldS, dProp, dCall, dMeth, dMake, dMakeN, daStar, dDictP, dCallO, dFor, dLc, diR1, diR2, diR3, diL, diT, diRv, diS, diE, dFmt, dFStr, dJs, dCallN, dFrzE, frz_l, in_ss, notin_ss, drR1, drR2, dListR, dRaise, dRaise0, dTryAs, dTry, dXf, dAddO, dInO, isL, insOf, Option.some.injEq, List.cons.injEq, D.int.injEq, D.bl.injEq, D.str.injEq, D.lst.injEq, D.tup.injEq, D.ref.injEq, MO.lst.injEq, MO.ins.injEq, mset_mset, and_true, true_and, and_self, and_assoc, exists_eq_left', exists_eq_left, exists_and_left, exists_and_right, exists_eq', List.set_cons_zero, List.set_cons_succ, decide_eq_true_eq, sqOf, lsOf, List.length_cons, List.length_nil, sizeLine_eq, List.append_nil, List.cons_append, List.nil_append, if_true, if_false, Bool.false_eq_true, reduceCtorEq, reduceIte, Nat.reduceAdd, Nat.reduceLeDiff, mset_same, Option.bind_some, List.length_map, Prod.mk.injEq, at0, at1, at2, at3, at4, at5, at6, at7, ix30, ix31, ix32, ix20, ix21, ix10, isi_ii, isi_ib, isi_ll, isi_bb, isi_ss, isi_tt, isi_is, isi_si, Bool.not_true, Bool.not_false, dCopyK, dGet2K, dDctR, dDisp1, dFrzEK, dEqZ, List.isEmpty_nil]
      refine ⟨by omega, (hP1 _ _ _).mpr ⟨_, ?_, rfl⟩⟩
      rw [er]
      rfl
    · rw [List.concat_eq_append] at e
      rw [e] at rl er ⊢
      rw [List.getLast?_append] at er
      have hx2 : atI ((pre ++ [z]).map D.int) (-1) = some (.int z) := by rw [List.map_append]; exact atl
      have he : ((pre ++ [z]).map D.int).isEmpty = false := by simp
      try simp only [dIfS, dTest, dOp, dVar, dC, dCB, daCons, daNil, dSet, dRet, dNext, dDrop, dAsg, dPar, dAug, dAddI, dBreak, dCont, dRetN, slot, dLen, dCmpI, dSub, dAdd, dMul, dDiv, dMod, dPow, dNeg, dUn, dIx, dInt1, dAbs, dChain, dAnd, dOr, dNot, dAndV, dOrV, dNotV, dTru, dTruB, dIf, dTup, dLst, mkL, dSlice, dSl, doNone, doSome, dSum, dAll, dAny, dList, dTuple, dMax, dMin, eq_ii, ne_ii, eq_ss, ne_ss, eq_bb, ne_bb, eq_nn, ne_nn, dIsN, dNotN, dFgt, dIsB, dNotB, gN, gT, gsNil, gsCons, gSet, dBM, dAppend, dClear, dFld, dFldS, dProp, dCall, dMeth, dMake, dMakeN, daStar, dDictP, dCallO, dFor, dLc, diR1, diR2, diR3, diL, diT, diRv, diS, diE, dFmt, dFStr, dJs, dCallN, dFrzE, frz_l, in_ss, notin_ss, drR1, drR2, dListR, dRaise, dRaise0, dTryAs, dTry, dXf, dAddO, dInO, isL, insOf, Option.some.injEq, List.cons.injEq, D.int.injEq, D.bl.injEq, D.str.injEq, D.lst.injEq, D.tup.injEq, D.ref.injEq, MO.lst.injEq, MO.ins.injEq, mset_mset, and_true, true_and, and_self, and_assoc, exists_eq_left', exists_eq_left, exists_and_left, exists_and_right, exists_eq', List.set_cons_zero, List.set_cons_succ, decide_eq_true_eq, sqOf, lsOf, List.length_cons, List.length_nil, sizeLine_eq, List.append_nil, List.cons_append, List.nil_append, if_true, if_false, Bool.false_eq_true, reduceCtorEq, reduceIte, Nat.reduceAdd, Nat.reduceLeDiff, mset_same, Option.bind_some, List.length_map, Prod.mk.injEq, at0, at1, at2, at3, at4, at5, at6, at7, ix30, ix31, ix32, ix20, ix21, ix10, isi_ii, isi_ib, isi_ll, isi_bb, isi_ss, isi_tt, isi_is, isi_si, Bool.not_true, Bool.not_false, dCopyK, dGet2K, dDctR, dDisp1, dFrzEK, dEqZ, he, hx2]
      by_cases c : z = x
      · rw [if_neg (by simpa using c)]
        rw [if_pos (by simp [c])] at er
        refine (hP1 _ _ _).mpr ⟨_, ?_, rfl⟩
        rw [er]
      · rw [if_pos (by simpa using c)]
        rw [if_neg (by simpa using c)] at er
        rw [List.length_append, List.length_singleton] at rl ⊢
        refine ⟨by omega, (hP1 _ _ _).mpr ⟨_, ?_, rfl⟩⟩
        rw [er, List.map_append (l₂ := [x])]
        rfl
  · intro rr m' hp1
    obtain ⟨o2, rfl, rfl⟩ := (hP1 _ _ _).mp hp1
    rw [List.length_map, List.take_length]
    walk_at "zn"
    rw [mdel_mset hp, dist_perm ho]
    exact q
theorem pure_law_heaviest {K : Fr0} {mg : Str → Option Value} (T : Txt K mg) (ds : List D) (m : M) (Q : D → M → Prop) (E : XD → M → Prop) (h : sp_law_heaviest K ds m Q E) : t_law_heaviest K (fun x _ m => E x m) { nx := fun _ m => Q .non m, rt := Q } (startD nm_law_heaviest ds) m := by
  obtain ⟨R, v, rfl, rl, hv, q⟩ := h
  show t_law_heaviest K _ _ [some (rowsD R), some (.int v), none, none, none, none, none] m
  unfold t_law_heaviest
  walk_at "zn"
  walk_at "zn"
  obtain ⟨P1, hP1⟩ : ∃ P : Nat → DSt → M → Prop, ∀ i rr m', P i rr m' ↔ (∃ (o3 o4 o5 o6 : Option D), m' = m ∧ rr = [some (rowsD R), some (.int v), some (bsD (hvL v (R.take i))), o3, o4, o5, o6]) := ⟨_, fun _ _ _ => Iff.rfl⟩
  refine ⟨P1, (hP1 0 _ _).mpr ⟨_, _, _, _, rfl, rfl⟩, ?_, ?_⟩
  · intro i d rr m' hd hp
    obtain ⟨o3, o4, o5, o6, rfl, rfl⟩ := (hP1 _ _ _).mp hp
    obtain ⟨x, hx, rfl⟩ := map_at hd
    have et : R.take (i + 1) = R.take i ++ [x] := by rw [List.take_add_one, hx]; rfl
    have es : hvL v (R.take (i + 1)) = hvS v (hvL v (R.take i)) x := by rw [et, hvL_app]
    cases hb : hvL v (R.take i) with
    | none =>
      rw [hb] at es
      try simp only [dSeq]
      walk_at "z6"
      exact ⟨mul_small (by omega), (hP1 _ _ _).mpr ⟨some (.int x.a), some (.int x.b), some (.int x.t), some (.int (x.t - (x.b - x.a) * v)), rfl, by rw [es]; rfl⟩⟩
    | some y =>
      rw [hb] at es
      try simp only [dSeq]
      walk_at "z4"
      refine ⟨mul_small (by omega), ?_⟩
      by_cases hc : y.a < x.t - (x.b - x.a) * v
      · rw [if_pos (by simpa using hc)]
        have e2 : hvS v (some y) x = some ⟨x.t - (x.b - x.a) * v, x.a, x.b⟩ := if_pos hc
        exact (hP1 _ _ _).mpr ⟨some (.int x.a), some (.int x.b), some (.int x.t), some (.int (x.t - (x.b - x.a) * v)), rfl, by rw [es, e2]; rfl⟩
      · rw [if_neg (by simpa using hc)]
        have e2 : hvS v (some y) x = some y := if_neg hc
        exact (hP1 _ _ _).mpr ⟨some (.int x.a), some (.int x.b), some (.int x.t), some (.int (x.t - (x.b - x.a) * v)), rfl, by rw [es, e2]; rfl⟩
  · intro rr m' hp
    obtain ⟨o3, o4, o5, o6, rfl, rfl⟩ := (hP1 _ _ _).mp hp
    walk_at "zs"
    rw [List.take_length]
    exact q
theorem pure_law_outcome {K : Fr0} {mg : Str → Option Value} (T : Txt K mg) (ds : List D) (m : M) (Q : D → M → Prop) (E : XD → M → Prop) (h : sp_law_outcome K ds m Q E) : t_law_outcome K (fun x _ m => E x m) { nx := fun _ m => Q .non m, rt := Q } (startD nm_law_outcome ds) m := by
  obtain ⟨g, J, v, rfl, jl, q, qe⟩ := h
  show t_law_outcome K _ _ [some (runD K g J), some (.int v), none] m
  unfold t_law_outcome
  rw [dTryAs]
  generalize hW : dCatchAs K _ _ _ _ _ = W
  have HW : ¬ (1 ≤ v ∧ v ≤ 99) → W (rngX K "speed" v) [some (runD K g J), some (.int v), none] m := by
    intro hv
    subst hW
    refine ⟨true, T.xm_OutOfRange_OutOfRange, fun _ a' d' ha' => ?_, nofun⟩
    try simp only [dIfS, dTest, dOp, dVar, dC, dCB, daCons, daNil, dSet, dRet, dNext, dDrop, dAsg, dPar, dAug, dAddI, dBreak, dCont, dRetN, slot, dLen, dCmpI, dSub, dAdd, dMul, dDiv, dMod, dPow, dNeg, dUn, dIx, dInt1, dAbs, dChain, dAnd, dOr, dNot, dAndV, dOrV, dNotV, dTru, dTruB, dIf, dTup, dLst, mkL, dSlice, dSl, doNone, doSome, dSum, dAll, dAny, dList, dTuple, dMax, dMin, eq_ii, ne_ii, eq_ss, ne_ss, eq_bb, ne_bb, eq_nn, ne_nn, dIsN, dNotN, dFgt, dIsB, dNotB, gN, gT, gsNil, gsCons, gSet, dBM, dAppend, dClear, dFld, dFldS, dProp, dCall, dMeth, dMake, dMakeN, daStar, dDictP, dCallO, dFor, dLc, diR1, diR2, diR3, diL, diT, diRv, diS, diE, dFmt, dFStr, dJs, dCallN, dFrzE, frz_l, in_ss, notin_ss, drR1, drR2, dListR, dRaise, dRaise0, dTryAs, dTry, dXf, dAddO, dInO, isL, insOf, Option.some.injEq, List.cons.injEq, D.int.injEq, D.bl.injEq, D.str.injEq, D.lst.injEq, D.tup.injEq, D.ref.injEq, MO.lst.injEq, MO.ins.injEq, mset_mset, and_true, true_and, and_self, and_assoc, exists_eq_left', exists_eq_left, exists_and_left, exists_and_right, exists_eq', List.set_cons_zero, List.set_cons_succ, decide_eq_true_eq, sqOf, lsOf, List.length_cons, List.length_nil, sizeLine_eq, List.append_nil, List.cons_append, List.nil_append, if_true, if_false, Bool.false_eq_true, reduceCtorEq, reduceIte, Nat.reduceAdd, Nat.reduceLeDiff, mset_same, Option.bind_some, List.length_map, Prod.mk.injEq, at0, at1, at2, at3, at4, at5, at6, at7, ix30, ix31, ix32, ix20, ix21, ix10, isi_ii, isi_ib, isi_ll, isi_bb, isi_ss, isi_tt, isi_is, isi_si, Bool.not_true, Bool.not_false, dCopyK, dGet2K, dDctR, dDisp1, dFrzEK, rngX, dCut]
    exact ⟨_, rfl, _, rfl, _, rfl, _, rfl, qe hv⟩
  clear hW
  walk_at "zs"
  exact ⟨g, J, v, rfl, jl, HW, q⟩
theorem pure_law_demands {K : Fr0} {mg : Str → Option Value} (T : Txt K mg) (ds : List D) (m : M) (Q : D → M → Prop) (E : XD → M → Prop) (h : sp_law_demands K ds m Q E) : t_law_demands K (fun x _ m => E x m) { nx := fun _ m => Q .non m, rt := Q } (startD nm_law_demands ds) m := by
  obtain ⟨J, rfl, jl, q⟩ := h
  show t_law_demands K _ _ [some (jbsD J), none, none, none, none, none] m
  unfold t_law_demands
  walk_at "zn"
  intro p hp
  walk_at "zn"
  refine lc_mapD (g := Rw.D) (f := fun x : Rw => .int x.r) (by rw [sizeLine_eq]; omega) (fun x hx => ⟨_, rfl, fun Q' q' => ?_⟩) ?_
  · simp only [wipeD, Rw.D]
    walk_at "zs"
    exact q'
  refine ⟨J.map Rw.r, by rw [show il _ = D.lst _ from rfl, List.map_map]; rfl, by rw [List.length_map]; exact jl, ?_⟩
  walk_at "zn"
  obtain ⟨P1, hP1⟩ : ∃ P : Nat → DSt → M → Prop, ∀ i rr m', P i rr m' ↔ (∃ (o2 o4 o5 : Option D), m' = mset m p (.lst ((((dist (J.map Rw.r)).take i).flatMap fun a => rowsA J a (dist (J.map Rw.d))).map IRow.D)) ∧ rr = [some (jbsD J), some (.ref p), o2, none, o4, o5]) := ⟨_, fun _ _ _ => Iff.rfl⟩
  refine ⟨P1, (hP1 0 _ _).mpr ⟨_, _, _, rfl, rfl⟩, ?_, ?_⟩
  · intro i d rr m' hd hp1
    obtain ⟨o2, o4, o5, rfl, rfl⟩ := (hP1 _ _ _).mp hp1
    obtain ⟨a, ha, rfl⟩ := map_at hd
    walk_at "zn"
    refine lc_mapD (g := Rw.D) (f := fun x : Rw => .int x.d) (by rw [sizeLine_eq]; omega) (fun x hx => ⟨_, rfl, fun Q' q' => ?_⟩) ?_
    · simp only [wipeD, Rw.D]
      walk_at "zs"
      exact q'
    refine ⟨J.map Rw.d, by rw [show il _ = D.lst _ from rfl, List.map_map]; rfl, by rw [List.length_map]; exact jl, ?_⟩
    walk_at "zn"
    obtain ⟨P2, hP2⟩ : ∃ P : Nat → DSt → M → Prop, ∀ k rr m', P k rr m' ↔ (∃ (o4 o5 : Option D), m' = mset m p (.lst (((((dist (J.map Rw.r)).take i).flatMap fun a => rowsA J a (dist (J.map Rw.d))) ++ rowsA J a ((dist (J.map Rw.d)).take k)).map IRow.D)) ∧ rr = [some (jbsD J), some (.ref p), some (.int a), none, o4, o5]) := ⟨_, fun _ _ _ => Iff.rfl⟩
    refine ⟨P2, (hP2 0 _ _).mpr ⟨_, _, by simp [rowsA], rfl⟩, ?_, ?_⟩
    · intro k d rr m' hd2 hp2
      obtain ⟨o4, o5, rfl, rfl⟩ := (hP2 _ _ _).mp hp2
      obtain ⟨b, hb, rfl⟩ := map_at hd2
      walk_at "zn"
      refine lc_filterD (g := Rw.D) (p := fun x : Rw => decide (a ≤ x.r) && decide (x.d ≤ b)) (f := fun x : Rw => .int x.c) (by rw [sizeLine_eq]; omega) (fun x hx => ⟨_, rfl, fun Q' q' => ?_, fun _ Q' q' => ?_⟩) ?_
      · simp only [wipeD, Rw.D]
        walk_at "zs"
        by_cases c : a ≤ x.r
        · rw [if_pos c]; simpa [c] using q'
        · rw [if_neg c]; simpa [c] using q'
      · simp only [wipeD, Rw.D]
        walk_at "zs"
        exact q'
      walk_at "zn"
      refine ⟨(J.filter fun x => decide (a ≤ x.r) && decide (x.d ≤ b)).map Rw.c, by rw [List.map_map]; rfl, ?_⟩
      rw [show ((J.filter fun x => decide (a ≤ x.r) && decide (x.d ≤ b)).map Rw.c).sum = demC J a b from rfl]
      have et : (dist (J.map Rw.d)).take (k + 1) = (dist (J.map Rw.d)).take k ++ [b] := by rw [List.take_add_one, hb]; rfl
      by_cases c : 0 < demC J a b
      · have hr := rows_at ha hb c
        have hl := (List.getElem?_eq_some_iff.mp hr).1
        have := rowsI_len jl
        rw [if_pos c]
        refine ⟨by rw [List.length_append]; omega, (hP2 _ _ _).mpr ⟨_, _, ?_, rfl⟩⟩
        rw [et, rowsA_app, ← List.append_assoc, List.map_append (l₂ := rowI1 J a b)]
        unfold rowI1
        rw [if_pos c]
        rfl
      · rw [if_neg c]
        refine (hP2 _ _ _).mpr ⟨_, _, ?_, rfl⟩
        rw [et, rowsA_app]
        unfold rowI1
        rw [if_neg c, List.append_nil]
    · intro rr m' hp2
      obtain ⟨o4, o5, rfl, rfl⟩ := (hP2 _ _ _).mp hp2
      refine (hP1 _ _ _).mpr ⟨_, _, _, ?_, rfl⟩
      rw [List.length_map, List.take_length, List.take_add_one, ha]
      simp
  · intro rr m' hp1
    obtain ⟨o2, o4, o5, rfl, rfl⟩ := (hP1 _ _ _).mp hp1
    rw [List.length_map, List.take_length]
    walk_at "zn"
    rw [mdel_mset hp]
    exact q
theorem row_of {ts : List Tsk} {g : Int} {ws : List (List Job)} {x : Rw} (hx : x ∈ jobsR ts g ws) : ∃ i p, i < ws.length ∧ p < (wAt ws i).length ∧ x = rowJ (tAt ts i) g i (wAt ws i) p := by
  unfold jobsR srtR at hx
  have hx := (List.mergeSort_perm _ _).mem_iff.mp hx
  unfold rowsR at hx
  obtain ⟨i, hi, hx⟩ := List.mem_flatMap.mp hx
  unfold rowsW at hx
  obtain ⟨p, hp, rfl⟩ := List.mem_map.mp hx
  exact ⟨i, p, List.mem_range.mp hi, List.mem_range.mp hp, rfl⟩
theorem jobs_len (ts : List Tsk) (g : Int) (ws : List (List Job)) : (jobsR ts g ws).length = many ws := by
  have h1 : (jobsR ts g ws).length = (rowsR ts g ws).length := List.length_mergeSort _
  rw [h1]
  unfold rowsR many
  rw [List.length_flatMap]
  congr 1
  refine List.ext_getElem? fun i => ?_
  rw [List.getElem?_map, List.getElem?_map]
  by_cases hi : i < ws.length
  · rw [List.getElem?_range hi, wAt_at hi]
    show some (rowsW _ _ _ _).length = some _
    unfold rowsW
    rw [List.length_map, List.length_range]
  · rw [List.getElem?_eq_none (by rw [List.length_range]; omega), List.getElem?_eq_none (by omega)]
    rfl
theorem wAt_app {ws : List (List Job)} {w : List Job} {i : Nat} (h : i < ws.length) : wAt (ws ++ [w]) i = wAt ws i := by
  unfold wAt
  rw [List.getD_eq_getElem?_getD, List.getD_eq_getElem?_getD, List.getElem?_append_left h]
theorem wAt_last {ws : List (List Job)} {w : List Job} : wAt (ws ++ [w]) ws.length = w := by
  unfold wAt
  rw [List.getD_eq_getElem?_getD, List.getElem?_append_right (Nat.le_refl _), Nat.sub_self]
  rfl
structure WsOk (ts : List Tsk) (g : Int) (ws : List (List Job)) : Prop where
  w12 : ∀ w ∈ ws, w.length ≤ 12
  ok : ∀ i, i < ws.length → WkOk (tAt ts i) g (wAt ws i)
  rb : ∀ w ∈ ws, ∀ j ∈ w, j.r ≤ 100000
theorem WsOk.add {ts : List Tsk} {g : Int} {ws : List (List Job)} (h : WsOk ts g ws) {w : List Job} (hl : w.length ≤ 12) (hw : WkOk (tAt ts ws.length) g w) (hr : ∀ j ∈ w, j.r ≤ 100000) : WsOk ts g (ws ++ [w]) := by
  refine ⟨fun x hx => ?_, fun i hi => ?_, fun x hx => ?_⟩
  · rcases List.mem_append.mp hx with hx | hx
    · exact h.w12 x hx
    · rw [List.mem_singleton.mp hx]; exact hl
  · rw [List.length_append, List.length_singleton] at hi
    by_cases e : i < ws.length
    · rw [wAt_app e]; exact h.ok i e
    · have : i = ws.length := by omega
      subst this
      rw [wAt_last]; exact hw
  · rcases List.mem_append.mp hx with hx | hx
    · exact h.rb x hx
    · rw [List.mem_singleton.mp hx]; exact hr
theorem run_is4 {K : Fr0} {ts : List Tsk} {ws : List (List Job)} {g : Int} {m : M} {P : List (Str × D) → M → Prop} {E : XD → M → Prop} {x : Addr} (hg : 1 ≤ g ∧ g ≤ 60) (hl : ws.length = ts.length) (tl : ts.length ≤ 1000) (h4 : many ws ≤ 400) (ok : ∀ t ∈ ts, t.Ok) (wk : ∀ i, i < ws.length → WkOk (tAt ts i) g (wAt ws i))
    (q : P (runF g (jobsR ts g ws)) (mset m x (.ins (ga K "Run") (runF g (jobsR ts g ws))))) : sp_Run_init K [.ref x, .lst (ts.map (taskD K)), wksD ws, .int g] (mset m x (.ins (ga K "Run") [])) (fun _ m3 => ∃ fs, m3 x = some (.ins (ga K "Run") fs) ∧ P fs m3) E := by
  refine ⟨x, ts, ws, g, rfl, mset_same, ok, by omega, by omega, ?_⟩
  rw [run_none hg hl h4 ok wk]
  show ∃ fs, _
  rw [mset_mset]
  exact ⟨_, mset_same, q⟩
theorem sum_cast (ws : List (List Job)) : (ws.map fun w => (w.length : Int)).sum = ((many ws : Nat) : Int) := by
  unfold many
  induction ws with
  | nil => rfl
  | cons w ws ih => rw [List.map_cons, List.map_cons, List.sum_cons, List.sum_cons, ih]; omega
theorem parts_if {K : Fr0} {W : DWX} {a : Addr} {c v k g : Int} {r0 r2 r3 r4 r5 r7 r8 r9 r10 r11 r12 : Option D} {m : M} {DD : DEnds} (hg : 1 ≤ g ∧ g ≤ 60) (k0 : 0 ≤ k) (k1 : k ≤ 100000)
    (q : ∀ (g' v' : Int), 1 ≤ g' ∧ g' ≤ 60 → DD.nx [r0, some (.ref a), r2, r3, r4, r5, some (.int g'), r7, r8, r9, r10, r11, r12] (mset m a (pool c v' (k + 1)))) :
    dIfS (dTest (dOp dEq (dCall (sp_law_draw K) W [] (daCons (dVar 1) (daCons (dC (.int 2)) daNil))) (dC (.int 0)))) (dSet 6 (dC (.int 1))) dNext DD [r0, some (.ref a), r2, r3, r4, r5, some (.int g), r7, r8, r9, r10, r11, r12] (mset m a (pool c v k)) := by
  walk_at "zs"
  refine draw_s (by omega) (by omega) k0 k1 (fun r v1 h0 h1 => ?_)
  walk_at "zs"
  split
  · exact q _ _ (by omega)
  · exact q _ _ hg
theorem jobs_cl {ts : List Tsk} {g : Int} {ws : List (List Job)} (ok : ∀ t ∈ ts, t.Ok) (hl : ws.length = ts.length) (wk : ∀ i, i < ws.length → WkOk (tAt ts i) g (wAt ws i)) : clR 3 (jbsD (jobsR ts g ws)) = true := by
  show (((jobsR ts g ws).map Rw.D).all (clR 2)) = true
  rw [List.all_map, List.all_eq_true]
  intro x hx
  obtain ⟨i, p, hi, hp, rfl⟩ := row_of hx
  obtain ⟨⟨k, hk, ek, _⟩, _⟩ := wk i hi p hp
  have hn := (ok (tAt ts i) (mem_at (tAt_at (by omega)))).ks.nm k hk
  rw [ek] at hn
  have hs : PyData.strOk (jAt (wAt ws i) p).k = true := cl_nm (n := 0) hn
  show clR 2 (Rw.D (rowJ (tAt ts i) g i (wAt ws i) p)) = true
  unfold rowJ Rw.D
  simp [clR, hs]
theorem cl_rows (l : List IRow) : clR 3 (rowsD l) = true := by
  show ((l.map IRow.D).all (clR 2)) = true
  rw [List.all_map, List.all_eq_true]
  intro x _
  show ([D.int x.a, D.int x.b, D.int x.t].all (clR 1)) = true
  simp [clR]
theorem cl_bs (o : Option IRow) : clR 3 (bsD o) = true := by
  cases o with
  | none => rfl
  | some x =>
    show ([D.int x.a, D.int x.b, D.int x.t].all (clR 2)) = true
    simp [clR]
theorem cl_sp (v : Int) : clR 2 (.tup [.str "speed", .int v]) = true := by
  have h : clR 1 (.str "speed") = true := by decide +kernel
  show ([D.str "speed", .int v].all (clR 1)) = true
  rw [List.all_cons, h]
  rfl
theorem pure_law {K : Fr0} {mg : Str → Option Value} (T : Txt K mg) (ds : List D) (m : M) (Q : D → M → Prop) (E : XD → M → Prop) (h : spLaw ds m Q E) : t_law K (fun x _ m => E x m) { nx := fun _ m => Q .non m, rt := Q } (startD nm_law ds) m := by
  obtain ⟨ns, rfl, hn, rfl, q⟩ := h
  show t_law K _ _ [some (.rdl (ns.map D.int)), none, none, none, none, none, none, none, none, none, none, none, none] m0
  unfold t_law
  walk_at "zn"
  refine ⟨ns, 0, rfl, by omega, ?_⟩
  walk_at "zs"
  refine ⟨_, rfl, fun a ha => ?_⟩
  walk_at "zn"
  intro b hb
  have hba : b ≠ a := fun e => by rw [e, mset_same] at hb; cases hb
  have hb0 : m0 b = none := by rw [mset_ne hba] at hb; exact hb
  generalize cellAt ns 0 = c0
  rw [mset_comm hba.symm]
  walk_at "zn"
  refine draw_s (by omega) (by omega) (by omega) (by omega) (fun r v1 r0 r1 => ?_)
  walk_at "zs"
  refine ⟨by omega, by omega, ?_⟩
  obtain ⟨n, hn2⟩ : ∃ n : Nat, (1 + r).toNat = n := ⟨_, rfl⟩
  rw [hn2]
  have n3 : 1 ≤ n ∧ n ≤ 3 := by omega
  obtain ⟨P1, hP1⟩ : ∃ P : Nat → DSt → M → Prop, ∀ j rr m', P j rr m' ↔ (∃ (ts : List Tsk) (v' k' : Int) (o3 : Option D), ts.length = j ∧ (∀ t ∈ ts, t.Ok) ∧ 0 ≤ k' ∧ k' ≤ 1 + 100 * j ∧ m' = mset (mset m0 b (.lst (ts.map specL))) a (pool c0 v' k') ∧ rr = [some (.rdl (ns.map D.int)), some (.ref a), some (.ref b), o3, none, none, none, none, none, none, none, none, none]) := ⟨_, fun _ _ _ => Iff.rfl⟩
  refine ⟨P1, (hP1 0 _ _).mpr ⟨[], v1, _, _, rfl, fun t h => absurd h List.not_mem_nil, by omega, by omega, rfl, rfl⟩, ?_, ?_⟩
  · intro j d rr m' hd hp
    obtain ⟨ts, v2, k2, o3, hl, hf, k20, k21, rfl, rfl⟩ := (hP1 _ _ _).mp hp
    obtain ⟨rfl, hj⟩ := rngD_at hd
    walk_at "zs"
    refine ⟨⟨_, lsOf_ref (by rw [mset_ne hba]; exact mset_same)⟩, a, _, _, _, rfl, mset_same, ⟨k20, by omega⟩, fun t v3 k3 okt k30 k31 => ?_⟩
    refine ⟨_, by rw [mset_ne hba, mset_ne hba]; exact mset_same, by rw [List.length_map]; omega, (hP1 _ _ _).mpr ⟨ts ++ [t], v3, k3, _, by rw [List.length_append, List.length_singleton, hl], fun x hx => ?_, by omega, by omega, ?_, rfl⟩⟩
    · rcases List.mem_append.mp hx with h | h
      · exact hf x h
      · rw [List.mem_singleton.mp h]; exact okt
    · rw [mset_mset, mset_comm hba.symm, mset_mset, List.map_append]
      rfl
  intro rr m' hp
  obtain ⟨ts, v2, k2, o3, hl, ok, k20, k21, rfl, rfl⟩ := (hP1 _ _ _).mp hp
  rw [rngD_len] at hl
  clear hp hP1 P1
  refine ⟨b, _, rfl, by rw [mset_ne hba]; exact mset_same, ?_⟩
  rw [mdel_mset_ne hba, mdel_mset hb0]
  generalize mset m0 a _ = m1
  walk_at "zn"
  refine ⟨ns, 1, rfl, by omega, ?_⟩
  walk_at "zs"
  refine ⟨_, rfl, fun a2 ha2 => ?_⟩
  generalize cellAt ns 1 = c1
  walk_at "zn"
  refine draw_s (by omega) (by omega) (by omega) (by omega) (fun r3 v3 r30 r31 => ?_)
  walk_at "zn"
  obtain ⟨pc, hpc⟩ : ∃ pc : Int, 1 + r3 = pc := ⟨_, rfl⟩
  rw [hpc]
  have pb : 1 ≤ pc ∧ pc ≤ 99 := by omega
  refine draw_s (by omega) (by omega) (by omega) (by omega) (fun r4 v4 r40 r41 => ?_)
  obtain ⟨ask, hask, eask⟩ := at_map (g := D.int) (l := [1, 2, pc, pc, 0, 100]) r40 (by show r4 < 6; omega)
  have ab : (1 ≤ ask ∧ ask ≤ 99) ∨ ask = 0 ∨ ask = 100 := by
    simp only [List.mem_cons, List.not_mem_nil, or_false] at hask
    omega
  have eask : atI [D.int 1, .int 2, .int pc, .int pc, .int 0, .int 100] r4 = some (.int ask) := eask
  try simp only [dSeq]
  try simp only [dIfS, dTest, dOp, dVar, dC, dCB, daCons, daNil, dSet, dRet, dNext, dDrop, dAsg, dPar, dAug, dAddI, dBreak, dCont, dRetN, slot, dLen, dCmpI, dSub, dAdd, dMul, dDiv, dMod, dPow, dNeg, dUn, dIx, dInt1, dAbs, dChain, dAnd, dOr, dNot, dAndV, dOrV, dNotV, dTru, dTruB, dIf, dTup, dLst, mkL, dSlice, dSl, doNone, doSome, dSum, dAll, dAny, dList, dTuple, dMax, dMin, eq_ii, ne_ii, eq_ss, ne_ss, eq_bb, ne_bb, eq_nn, ne_nn, dIsN, dNotN, dFgt, dIsB, dNotB, gN, gT, gsNil, gsCons, gSet, dBM, dAppend, dClear, dFld, dFldS, dProp, dCall, dMeth, dMake, dMakeN, daStar, dDictP, dCallO, dFor, dLc, diR1, diR2, diR3, diL, diT, diRv, diS, diE, dFmt, dFStr, dJs, dCallN, dFrzE, frz_l, in_ss, notin_ss, drR1, drR2, dListR, dRaise, dRaise0, dTryAs, dTry, dXf, dAddO, dInO, isL, insOf, Option.some.injEq, List.cons.injEq, D.int.injEq, D.bl.injEq, D.str.injEq, D.lst.injEq, D.tup.injEq, D.ref.injEq, MO.lst.injEq, MO.ins.injEq, mset_mset, and_true, true_and, and_self, and_assoc, exists_eq_left', exists_eq_left, exists_and_left, exists_and_right, exists_eq', List.set_cons_zero, List.set_cons_succ, decide_eq_true_eq, sqOf, lsOf, List.length_cons, List.length_nil, sizeLine_eq, List.append_nil, List.cons_append, List.nil_append, if_true, if_false, Bool.false_eq_true, reduceCtorEq, reduceIte, Nat.reduceAdd, Nat.reduceLeDiff, mset_same, Option.bind_some, List.length_map, Prod.mk.injEq, at0, at1, at2, at3, at4, at5, at6, at7, ix30, ix31, ix32, ix20, ix21, ix10, isi_ii, isi_ib, isi_ll, isi_bb, isi_ss, isi_tt, isi_is, isi_si, Bool.not_true, Bool.not_false, dCopyK, dGet2K, dDctR, dDisp1, dFrzEK, eask]
  refine draw_s (by omega) (by omega) (by omega) (by omega) (fun r5 v5 r50 r51 => ?_)
  obtain ⟨g0, hg0⟩ : ∃ g0 : Int, 1 + r5 = g0 := ⟨_, rfl⟩
  dsimp only
  rw [hg0]
  simp only [dSeq]
  refine parts_if (by omega) (by omega) (by omega) (fun g v6 gb => ?_)
  walk_at "zn"
  intro b2 hb2
  have hba2 : b2 ≠ a2 := fun e => by rw [e, mset_same] at hb2; cases hb2
  have hb20 : m1 b2 = none := by rw [mset_ne hba2] at hb2; exact hb2
  rw [mset_comm hba2.symm]
  walk_at "zn"
  obtain ⟨P1, hP1⟩ : ∃ P : Nat → DSt → M → Prop, ∀ j rr m', P j rr m' ↔ (∃ (ws : List (List Job)) (v' k' : Int) (o8 : Option D), ws.length = j ∧ WsOk ts g ws ∧ 0 ≤ k' ∧ k' ≤ 100 + 100 * j ∧ m' = mset (mset m1 b2 (.lst (ws.map wkD))) a2 (pool c1 v' k') ∧ rr = [some (.rdl (ns.map D.int)), some (.ref a2), some (.lst (ts.map specL)), o3, some (.int pc), some (.int ask), some (.int g), some (.ref b2), o8, none, none, none, none]) := ⟨_, fun _ _ _ => Iff.rfl⟩
  refine ⟨P1, (hP1 0 _ _).mpr ⟨[], v6, _, _, rfl, ⟨by simp, fun i hi => absurd hi (Nat.not_lt_zero _), by simp⟩, by omega, by omega, rfl, rfl⟩, ?_, ?_⟩
  · intro j d rr m' hd hp
    obtain ⟨ws, v6, k6, o8, wl, wok, k60, k61, rfl, rfl⟩ := (hP1 _ _ _).mp hp
    obtain ⟨t, ht, rfl⟩ := map_at hd
    have hj := len_at ht
    have et : tAt ts j = t := by
      have := tAt_at hj
      rw [ht] at this
      exact (Option.some.inj this).symm
    walk_at "zs"
    refine ⟨⟨_, lsOf_ref (by rw [mset_ne hba2]; exact mset_same)⟩, a2, t, g, _, _, _, rfl, mset_same, ok t (mem_at ht), ⟨gb.1, by omega⟩, ⟨k60, by omega⟩, fun w v7 k7 wk w12 wr k70 k71 => ?_⟩
    refine ⟨_, by rw [mset_ne hba2, mset_ne hba2]; exact mset_same, by rw [List.length_map]; omega, (hP1 _ _ _).mpr ⟨ws ++ [w], v7, k7, _, by rw [List.length_append, List.length_singleton, wl], wok.add w12 (by rw [wl, et]; exact wk) wr, by omega, by omega, ?_, rfl⟩⟩
    rw [mset_mset, mset_comm hba2.symm, mset_mset, List.map_append]
    rfl
  intro rr m' hp
  obtain ⟨ws, v8, k8, o8, wl, wok, k80, k81, rfl, rfl⟩ := (hP1 _ _ _).mp hp
  rw [List.length_map] at wl k81
  clear hp hP1 P1
  refine ⟨b2, _, rfl, by rw [mset_ne hba2]; exact mset_same, ?_⟩
  rw [mdel_mset_ne hba2, mdel_mset hb20]
  generalize mset m1 a2 _ = m2
  walk_at "zn"
  refine lc_mapD (g := specL) (f := taskD K) (by rw [sizeLine_eq]; omega) (fun t ht => ⟨_, rfl, fun Q' q' => ?_⟩) ?_
  · simp only [wipeD, specL]
    walk_at "zs"
    intro x hx
    refine ⟨x, t, asD t.as, rfl, rfl, mset_same, ok t ht, ?_⟩
    rw [mset_mset]
    refine ⟨_, mset_same, ?_⟩
    rw [mdel_mset hx]
    exact q'
  have m4 : many ws ≤ 48 := by
    have := many_le wok.w12
    have : ws.length * 12 ≤ 4 * 12 := Nat.mul_le_mul_right 12 (by omega)
    omega
  walk_at "zn"
  intro x hx
  refine run_is4 gb wl (by omega) (by omega) ok wok.ok ?_
  rw [mdel_mset hx]
  refine ⟨_, _, rfl, ?_⟩
  clear hx x
  try simp only [dSeq]
  walk_at "z3"
  refine lc_mapD (g := wkD) (f := fun w => D.int w.length) (by rw [sizeLine_eq]; omega) (fun w hw => ⟨_, rfl, fun Q' q' => ?_⟩) ?_
  · simp only [wipeD]
    walk_at "zs"
    exact q'
  refine ⟨ws.map fun w => (w.length : Int), by rw [List.map_map]; rfl, ?_⟩
  rw [jobs_len, sum_cast, if_neg (by simp)]
  have jc := jobs_cl ok wl wok.ok
  have jl : (jobsR ts g ws).length ≤ 1000 := by rw [jobs_len]; omega
  generalize hJ : jobsR ts g ws = J at *
  walk_at "zn"
  refine ⟨J, rfl, jl, ?_⟩
  try simp only [dSeq]
  try simp only [dIfS, dTest, dOp, dVar, dC, dCB, daCons, daNil, dSet, dRet, dNext, dDrop, dAsg, dPar, dAug, dAddI, dBreak, dCont, dRetN, slot, dLen, dCmpI, dSub, dAdd, dMul, dDiv, dMod, dPow, dNeg, dUn, dIx, dInt1, dAbs, dChain, dAnd, dOr, dNot, dAndV, dOrV, dNotV, dTru, dTruB, dIf, dTup, dLst, mkL, dSlice, dSl, doNone, doSome, dSum, dAll, dAny, dList, dTuple, dMax, dMin, eq_ii, ne_ii, eq_ss, ne_ss, eq_bb, ne_bb, eq_nn, ne_nn, dIsN, dNotN, dFgt, dIsB, dNotB, gN, gT, gsNil, gsCons, gSet, dBM, dAppend, dClear, dFld, dFldS, dProp, dCall, dMeth, dMake, dMakeN, daStar, dDictP, dCallO, dFor, dLc, diR1, diR2, diR3, diL, diT, diRv, diS, diE, dFmt, dFStr, dJs, dCallN, dFrzE, frz_l, in_ss, notin_ss, drR1, drR2, dListR, dRaise, dRaise0, dTryAs, dTry, dXf, dAddO, dInO, isL, insOf, Option.some.injEq, List.cons.injEq, D.int.injEq, D.bl.injEq, D.str.injEq, D.lst.injEq, D.tup.injEq, D.ref.injEq, MO.lst.injEq, MO.ins.injEq, mset_mset, and_true, true_and, and_self, and_assoc, exists_eq_left', exists_eq_left, exists_and_left, exists_and_right, exists_eq', List.set_cons_zero, List.set_cons_succ, decide_eq_true_eq, sqOf, lsOf, List.length_cons, List.length_nil, sizeLine_eq, List.append_nil, List.cons_append, List.nil_append, if_true, if_false, Bool.false_eq_true, reduceCtorEq, reduceIte, Nat.reduceAdd, Nat.reduceLeDiff, mset_same, Option.bind_some, List.length_map, Prod.mk.injEq, at0, at1, at2, at3, at4, at5, at6, at7, ix30, ix31, ix32, ix20, ix21, ix10, isi_ii, isi_ib, isi_ll, isi_bb, isi_ss, isi_tt, isi_is, isi_si, Bool.not_true, Bool.not_false, dCopyK, dGet2K, dDctR, dDisp1, dFrzEK, dListG]
  refine ⟨g, J, rfl, jl, ?_⟩
  refine dNe_refl (n := 3) (by omega) (cl_rows _) ⟨_, rfl, ?_⟩
  rw [if_neg Bool.false_ne_true]
  have rl := rowsI_len jl
  by_cases hask : 1 ≤ ask ∧ ask ≤ 99
  · walk_at "zn"
    rw [if_neg (by omega), if_neg (by simpa using (by omega))]
    walk_at "zn"
    refine ⟨g, J, ask, rfl, jl, fun _ => ?_, fun h => absurd hask h⟩
    refine ⟨rowsI J, ask, rfl, rl, hask, ?_⟩
    refine dNe_refl (n := 3) (by omega) (cl_bs _) ⟨_, rfl, ?_⟩
    rw [if_neg Bool.false_ne_true]
    walk_at "zs"
    refine ⟨g, J, 1, rfl, jl, fun h => absurd ⟨by omega, by omega⟩ h, fun _ => ?_⟩
    refine ⟨rowsI J, 1, rfl, rl, by omega, ?_⟩
    refine dEq_refl (n := 3) (by omega) (cl_bs _) ⟨_, rfl, ?_⟩
    rw [if_pos rfl]
    walk_at "zs"
    refine ⟨g, J, rfl, ?_⟩
    exact dEq_refl (n := 3) (by omega) jc (q _)
  · have fin : sp_law_outcome K [.ins (ga K "Run") (runF g J), .int ask] m2 (fun x m1 => dEq x (.tup [.str "speed", .int ask]) m1 Q) (fun x m2 => E x m2) := by
      refine ⟨g, J, ask, rfl, jl, fun h => absurd h hask, fun _ => ?_⟩
      exact dEq_refl (n := 2) (by omega) (cl_sp _) (q _)
    walk_at "zn"
    by_cases h0 : ask = 0
    · rw [if_pos h0]; exact fin
    · rw [if_neg h0, if_pos (by omega)]; exact fin
end LW

set_option Elab.async false
set_option linter.all false
set_option maxRecDepth 100000
set_option maxHeartbeats 4000000
namespace LW
open PySem PySem.Spec PyProof.Rows L2 DL
open He (ga ma)
theorem okx_UnknownKind {P : Program} {w : World} {K : PySem.W.Frag} {mg : Str → Option Value} {base : Heap} (T : Txt K mg) : ∃ fd, FnOk P w K mg base (L2.CX P w) 1 (ma K (ga K "UnknownKind") "__init__") fd ["self", "name"] (spX (ga K "UnknownKind") ["name"]) ∧ Binds K fd ["self", "name"] [] := by
  obtain ⟨fd, F⟩ := T.d_UnknownKind_init
  refine ⟨fd, fn_exc (k := 0) F sc_UnknownKind_init T.ox_UnknownKind ?_ rfl (by decide) (fun cdv A outer s H E => pss_cons (ps_ost (pv 0) (pv 1)) (pss_nil)), F.bindsN fun _ _ _ _ _ _ us hl => match us, hl with | [_, _], _ => rfl⟩
  intro g hg
  rcases List.mem_cons.mp hg with rfl | hg
  · exact T.nf_UnknownKind_name
  cases hg

theorem okx_OutOfRange {P : Program} {w : World} {K : PySem.W.Frag} {mg : Str → Option Value} {base : Heap} (T : Txt K mg) : ∃ fd, FnOk P w K mg base (L2.CX P w) 1 (ma K (ga K "OutOfRange") "__init__") fd ["self", "what", "value"] (spX (ga K "OutOfRange") ["what", "value"]) ∧ Binds K fd ["self", "what", "value"] [] := by
  obtain ⟨fd, F⟩ := T.d_OutOfRange_init
  refine ⟨fd, fn_exc (k := 0) F sc_OutOfRange_init T.ox_OutOfRange ?_ rfl (by decide) (fun cdv A outer s H E => pss_cons (ps_ost (pv 0) (pv 1)) (pss_cons (ps_ost (pv 0) (pv 2)) (pss_nil))), F.bindsN fun _ _ _ _ _ _ us hl => match us, hl with | [_, _, _], _ => rfl⟩
  intro g hg
  rcases List.mem_cons.mp hg with rfl | hg
  · exact T.nf_OutOfRange_what
  rcases List.mem_cons.mp hg with rfl | hg
  · exact T.nf_OutOfRange_value
  cases hg

theorem okx_WrongCount {P : Program} {w : World} {K : PySem.W.Frag} {mg : Str → Option Value} {base : Heap} (T : Txt K mg) : ∃ fd, FnOk P w K mg base (L2.CX P w) 1 (ma K (ga K "WrongCount") "__init__") fd ["self", "what", "count"] (spX (ga K "WrongCount") ["what", "count"]) ∧ Binds K fd ["self", "what", "count"] [] := by
  obtain ⟨fd, F⟩ := T.d_WrongCount_init
  refine ⟨fd, fn_exc (k := 0) F sc_WrongCount_init T.ox_WrongCount ?_ rfl (by decide) (fun cdv A outer s H E => pss_cons (ps_ost (pv 0) (pv 1)) (pss_cons (ps_ost (pv 0) (pv 2)) (pss_nil))), F.bindsN fun _ _ _ _ _ _ us hl => match us, hl with | [_, _, _], _ => rfl⟩
  intro g hg
  rcases List.mem_cons.mp hg with rfl | hg
  · exact T.nf_WrongCount_what
  rcases List.mem_cons.mp hg with rfl | hg
  · exact T.nf_WrongCount_count
  cases hg

theorem okx_BadCost {P : Program} {w : World} {K : PySem.W.Frag} {mg : Str → Option Value} {base : Heap} (T : Txt K mg) : ∃ fd, FnOk P w K mg base (L2.CX P w) 1 (ma K (ga K "BadCost") "__init__") fd ["self", "task", "place"] (spX (ga K "BadCost") ["task", "place"]) ∧ Binds K fd ["self", "task", "place"] [] := by
  obtain ⟨fd, F⟩ := T.d_BadCost_init
  refine ⟨fd, fn_exc (k := 0) F sc_BadCost_init T.ox_BadCost ?_ rfl (by decide) (fun cdv A outer s H E => pss_cons (ps_ost (pv 0) (pv 1)) (pss_cons (ps_ost (pv 0) (pv 2)) (pss_nil))), F.bindsN fun _ _ _ _ _ _ us hl => match us, hl with | [_, _, _], _ => rfl⟩
  intro g hg
  rcases List.mem_cons.mp hg with rfl | hg
  · exact T.nf_BadCost_task
  rcases List.mem_cons.mp hg with rfl | hg
  · exact T.nf_BadCost_place
  cases hg

theorem okx_BadRelease {P : Program} {w : World} {K : PySem.W.Frag} {mg : Str → Option Value} {base : Heap} (T : Txt K mg) : ∃ fd, FnOk P w K mg base (L2.CX P w) 1 (ma K (ga K "BadRelease") "__init__") fd ["self", "task", "place"] (spX (ga K "BadRelease") ["task", "place"]) ∧ Binds K fd ["self", "task", "place"] [] := by
  obtain ⟨fd, F⟩ := T.d_BadRelease_init
  refine ⟨fd, fn_exc (k := 0) F sc_BadRelease_init T.ox_BadRelease ?_ rfl (by decide) (fun cdv A outer s H E => pss_cons (ps_ost (pv 0) (pv 1)) (pss_cons (ps_ost (pv 0) (pv 2)) (pss_nil))), F.bindsN fun _ _ _ _ _ _ us hl => match us, hl with | [_, _, _], _ => rfl⟩
  intro g hg
  rcases List.mem_cons.mp hg with rfl | hg
  · exact T.nf_BadRelease_task
  rcases List.mem_cons.mp hg with rfl | hg
  · exact T.nf_BadRelease_place
  cases hg

theorem okx_NoArrow {P : Program} {w : World} {K : PySem.W.Frag} {mg : Str → Option Value} {base : Heap} (T : Txt K mg) : ∃ fd, FnOk P w K mg base (L2.CX P w) 1 (ma K (ga K "NoArrow") "__init__") fd ["self", "task", "place"] (spX (ga K "NoArrow") ["task", "place"]) ∧ Binds K fd ["self", "task", "place"] [] := by
  obtain ⟨fd, F⟩ := T.d_NoArrow_init
  refine ⟨fd, fn_exc (k := 0) F sc_NoArrow_init T.ox_NoArrow ?_ rfl (by decide) (fun cdv A outer s H E => pss_cons (ps_ost (pv 0) (pv 1)) (pss_cons (ps_ost (pv 0) (pv 2)) (pss_nil))), F.bindsN fun _ _ _ _ _ _ us hl => match us, hl with | [_, _, _], _ => rfl⟩
  intro g hg
  rcases List.mem_cons.mp hg with rfl | hg
  · exact T.nf_NoArrow_task
  rcases List.mem_cons.mp hg with rfl | hg
  · exact T.nf_NoArrow_place
  cases hg

theorem okx_GapTooShort {P : Program} {w : World} {K : PySem.W.Frag} {mg : Str → Option Value} {base : Heap} (T : Txt K mg) : ∃ fd, FnOk P w K mg base (L2.CX P w) 1 (ma K (ga K "GapTooShort") "__init__") fd ["self", "task", "place"] (spX (ga K "GapTooShort") ["task", "place"]) ∧ Binds K fd ["self", "task", "place"] [] := by
  obtain ⟨fd, F⟩ := T.d_GapTooShort_init
  refine ⟨fd, fn_exc (k := 0) F sc_GapTooShort_init T.ox_GapTooShort ?_ rfl (by decide) (fun cdv A outer s H E => pss_cons (ps_ost (pv 0) (pv 1)) (pss_cons (ps_ost (pv 0) (pv 2)) (pss_nil))), F.bindsN fun _ _ _ _ _ _ us hl => match us, hl with | [_, _, _], _ => rfl⟩
  intro g hg
  rcases List.mem_cons.mp hg with rfl | hg
  · exact T.nf_GapTooShort_task
  rcases List.mem_cons.mp hg with rfl | hg
  · exact T.nf_GapTooShort_place
  cases hg

theorem ok_is_name {P : Program} {w : World} {K : PySem.W.Frag} {mg : Str → Option Value} {base : Heap} (T : Txt K mg) (TB : TabBs K mg base)  : Good P w K mg base 1 (some "is_name") (ga K "is_name") ["text"] (sp_is_name K) := by
  obtain ⟨fd, F⟩ := T.d_is_name
  refine ⟨⟨fd, fn_d (k := 0) F sc_is_name len_is_name (t_is_name K) (fun cdv A outer s H E WD hr tk hp => ?_) (pure_is_name T), F.bindsN fun _ _ _ _ _ _ us hl => match us, hl with | [_], _ => rfl, F.kp⟩, T.g_is_name⟩
  refine dss_cons (ds_if (dt_w (dw_or (dt_not (dt_chain op_le od_cmpI op_le od_cmpI de_int (de_callB call_len cd_len rfl T.b_len (by decide +kernel) (da_cons (dv 0) da_nil)) (de_globI rfl T.k_LONGEST_NAME))) (dw_or1 (dt_cmp op_notInA od_notIn (de_ix (dv 0) de_int) (de_globS rfl T.k_LETTERS) (by rfl))))) (dss_one (ds_ret de_bl)) dss_nil) ?_
  exact dss_one (ds_ret (de_callB (cr_all rfl) cd_all rfl T.b_all (by decide +kernel) (da_cons (de_lc false (own := [("sign", 1)]) (c := .one 1) (te := dOrV (dOp (dIn false) (dVar 1) (dC (.str "abcdefghijklmnopqrstuvwxyz"))) (dOp (dIn false) (dVar 1) (dC (.str "0123456789_")))) (tt := dYes) rfl sc_is_name.nd (by simp [CT.in]) (di_str (dv 0)) (blkOk_by (own := [("sign", 1)]) (N := nm_is_name) (sc := defScope s_is_name) (by decide +kernel)) (fun _ _ _ _ _ => pg_ct1 (i := 1) sc_is_name.nd rfl (Or.inl rfl)) (fun _ _ _ _ _ => dts_nil) (fun _ _ _ _ _ => de_or (de_cmp op_inA od_in (dv 1) (de_globS rfl T.k_LETTERS) (by rfl)) (de_one (de_cmp op_inA od_in (dv 1) (de_globS rfl T.k_OTHER_SIGNS) (by rfl))))) da_nil)))

theorem ok_need_name {P : Program} {w : World} {K : PySem.W.Frag} {mg : Str → Option Value} {base : Heap} (T : Txt K mg) (TB : TabBs K mg base) (c_is_name : Good P w K mg base 1 (some "is_name") (ga K "is_name") ["text"] (sp_is_name K)) : Good P w K mg base 2 (some "need_name") (ga K "need_name") ["text"] (sp_need_name K) := by
  obtain ⟨_, c_is_name_ok, c_is_name_b, c_is_name_kp⟩ := c_is_name.ex
  have c_is_name_g := c_is_name.gl
  obtain ⟨fd, F⟩ := T.d_need_name
  refine ⟨⟨fd, fn_d (k := 1) F sc_need_name len_need_name (t_need_name K) (fun cdv A outer s H E WD hr tk hp => ?_) (pure_need_name T), F.bindsN fun _ _ _ _ _ _ us hl => match us, hl with | [_], _ => rfl, F.kp⟩, T.g_need_name⟩
  exact dss_one (ds_if (dt_not (dt_tru (de_call c_is_name_ok (hr.mono (by decide)) rfl c_is_name_g c_is_name_kp c_is_name_b .nil (fun _ => .nil) tk (da_cons (dv 0) da_nil)))) (dss_one ds_never) dss_nil)

theorem ok_need_range {P : Program} {w : World} {K : PySem.W.Frag} {mg : Str → Option Value} {base : Heap} (T : Txt K mg) (TB : TabBs K mg base)  : Good P w K mg base 1 (some "need_range") (ga K "need_range") ["what", "value", "least", "most"] (sp_need_range K) := by
  obtain ⟨fd, F⟩ := T.d_need_range
  refine ⟨⟨fd, fn_d (k := 0) F sc_need_range len_need_range (t_need_range K) (fun cdv A outer s H E WD hr tk hp => ?_) (pure_need_range T), F.bindsN fun _ _ _ _ _ _ us hl => match us, hl with | [_, _, _, _], _ => rfl, F.kp⟩, T.g_need_range⟩
  exact dss_one (ds_if (dt_w (dw_or (dt_cmp op_lt od_cmpI (dv 1) (dv 2) (nomark _)) (dw_or1 (dt_cmp op_gt od_cmpI (dv 1) (dv 3) (nomark _))))) (dss_one ds_never) dss_nil)

theorem ok_need_kind {P : Program} {w : World} {K : PySem.W.Frag} {mg : Str → Option Value} {base : Heap} (T : Txt K mg) (TB : TabBs K mg base)  : Good P w K mg base 1 (some "need_kind") (ga K "need_kind") ["name", "kind_rows"] (sp_need_kind K) := by
  obtain ⟨fd, F⟩ := T.d_need_kind
  refine ⟨⟨fd, fn_d (k := 0) F sc_need_kind len_need_kind (t_need_kind K) (fun cdv A outer s H E WD hr tk hp => ?_) (pure_need_kind T), F.bindsN fun _ _ _ _ _ _ us hl => match us, hl with | [_, _], _ => rfl, F.kp⟩, T.g_need_kind⟩
  exact dss_one (ds_if (dt_cmp op_notInA od_notIn (dv 0) (de_lc false (own := [("row", 2)]) (c := .one 2) (te := dOp dIx (dVar 2) (dC (.int 0))) (tt := dYes) rfl sc_need_kind.nd (by simp [CT.in]) (di_list (dv 1)) (blkOk_by (own := [("row", 2)]) (N := nm_need_kind) (sc := defScope s_need_kind) (by decide +kernel)) (fun _ _ _ _ _ => pg_ct1 (i := 2) sc_need_kind.nd rfl (Or.inl rfl)) (fun _ _ _ _ _ => dts_nil) (fun _ _ _ _ _ => de_ix (dv 2) de_int)) (by rfl)) (dss_one ds_never) dss_nil)

theorem ok_checked_kinds {P : Program} {w : World} {K : PySem.W.Frag} {mg : Str → Option Value} {base : Heap} (T : Txt K mg) (TB : TabBs K mg base) (c_need_name : Good P w K mg base 2 (some "need_name") (ga K "need_name") ["text"] (sp_need_name K)) (c_need_range : Good P w K mg base 1 (some "need_range") (ga K "need_range") ["what", "value", "least", "most"] (sp_need_range K)) : Good P w K mg base 3 (some "checked_kinds") (ga K "checked_kinds") ["kinds", "branching"] (sp_checked_kinds K) := by
  obtain ⟨_, c_need_name_ok, c_need_name_b, c_need_name_kp⟩ := c_need_name.ex
  have c_need_name_g := c_need_name.gl
  obtain ⟨_, c_need_range_ok, c_need_range_b, c_need_range_kp⟩ := c_need_range.ex
  have c_need_range_g := c_need_range.gl
  obtain ⟨fd, F⟩ := T.d_checked_kinds
  refine ⟨⟨fd, fn_d (k := 2) F sc_checked_kinds len_checked_kinds (t_checked_kinds K) (fun cdv A outer s H E WD hr tk hp => ?_) (pure_checked_kinds T), F.bindsN fun _ _ _ _ _ _ us hl => match us, hl with | [_, _], _ => rfl, F.kp⟩, T.g_checked_kinds⟩
  refine dss_cons (ds_asg (de_ifExp (dt_tru (dv 1)) (de_tup (da_cons de_int (da_cons de_int da_nil))) (de_tup (da_cons de_int (da_cons de_int da_nil)))) (dg_tup rfl (dgs_cons (dg_name (i := 2) sc_checked_kinds.nd rfl (Or.inl rfl)) (dgs_cons (dg_name (i := 3) sc_checked_kinds.nd rfl (Or.inl rfl)) dgs_nil)))) ?_
  refine dss_cons (ds_set (i := 4) sc_checked_kinds.nd rfl (Or.inl rfl) (de_lst true da_nil)) ?_
  refine dss_cons (ds_for hp rfl (di_list (dv 0)) (dg_tup rfl (dgs_cons (dg_name (i := 5) sc_checked_kinds.nd rfl (Or.inl rfl)) (dgs_cons (dg_name (i := 6) sc_checked_kinds.nd rfl (Or.inl rfl)) (dgs_cons (dg_name (i := 7) sc_checked_kinds.nd rfl (Or.inl rfl)) dgs_nil)))) (dss_cons (ds_expr (de_call c_need_name_ok (hr.mono (by decide)) rfl c_need_name_g c_need_name_kp c_need_name_b .nil (fun _ => .nil) tk (da_cons (dv 5) da_nil)))
    (dss_cons (ds_if (dt_cmp op_inA od_in (dv 5) (de_lcM false (own := [("row", 8)]) (c := .one 8) (te := dOp dIx (dVar 8) (dC (.int 0))) (tt := dYes) rfl sc_checked_kinds.nd (by simp [CT.in]) (dv 4) (blkOk_by (own := [("row", 8)]) (N := nm_checked_kinds) (sc := defScope s_checked_kinds) (by decide +kernel)) (fun _ _ _ _ _ => pg_ct1 (i := 8) sc_checked_kinds.nd rfl (Or.inl rfl)) (fun _ _ _ _ _ => dts_nil) (fun _ _ _ _ _ => de_ix (dv 8) de_int)) (by rfl)) (dss_one ds_never) dss_nil)
    (dss_cons (ds_expr (de_call c_need_range_ok (hr.mono (by decide)) rfl c_need_range_g c_need_range_kp c_need_range_b .nil (fun _ => .nil) tk (da_cons de_str (da_cons (dv 6) (da_cons de_int (da_cons (dv 2) da_nil))))))
    (dss_cons (ds_expr (de_call c_need_range_ok (hr.mono (by decide)) rfl c_need_range_g c_need_range_kp c_need_range_b .nil (fun _ => .nil) tk (da_cons de_str (da_cons (dv 7) (da_cons de_int (da_cons (dv 3) da_nil))))))
    (dss_one (ds_expr (de_bm PySem.F.plainAttrs_list PySem.F.slot_list_append PySem.F.type_list_append mt_append md_append (dv 4) (da_cons (de_tup (da_cons (dv 5) (da_cons (dv 6) (da_cons (dv 7) da_nil)))) da_nil))))))))) ?_
  exact dss_one (ds_ret (de_frz (dv 4)))

theorem ok_checked_arrows {P : Program} {w : World} {K : PySem.W.Frag} {mg : Str → Option Value} {base : Heap} (T : Txt K mg) (TB : TabBs K mg base) (c_need_kind : Good P w K mg base 1 (some "need_kind") (ga K "need_kind") ["name", "kind_rows"] (sp_need_kind K)) (c_need_range : Good P w K mg base 1 (some "need_range") (ga K "need_range") ["what", "value", "least", "most"] (sp_need_range K)) : Good P w K mg base 2 (some "checked_arrows") (ga K "checked_arrows") ["arrows", "kind_rows"] (sp_checked_arrows K) := by
  obtain ⟨_, c_need_kind_ok, c_need_kind_b, c_need_kind_kp⟩ := c_need_kind.ex
  have c_need_kind_g := c_need_kind.gl
  obtain ⟨_, c_need_range_ok, c_need_range_b, c_need_range_kp⟩ := c_need_range.ex
  have c_need_range_g := c_need_range.gl
  obtain ⟨fd, F⟩ := T.d_checked_arrows
  refine ⟨⟨fd, fn_d (k := 1) F sc_checked_arrows len_checked_arrows (t_checked_arrows K) (fun cdv A outer s H E WD hr tk hp => ?_) (pure_checked_arrows T), F.bindsN fun _ _ _ _ _ _ us hl => match us, hl with | [_, _], _ => rfl, F.kp⟩, T.g_checked_arrows⟩
  refine dss_cons (ds_set (i := 2) sc_checked_arrows.nd rfl (Or.inl rfl) (de_lst true da_nil)) ?_
  refine dss_cons (ds_for hp rfl (di_seq (dv 0)) (dg_tup rfl (dgs_cons (dg_name (i := 3) sc_checked_arrows.nd rfl (Or.inl rfl)) (dgs_cons (dg_name (i := 4) sc_checked_arrows.nd rfl (Or.inl rfl)) (dgs_cons (dg_name (i := 5) sc_checked_arrows.nd rfl (Or.inl rfl)) dgs_nil)))) (dss_cons (ds_expr (de_call c_need_kind_ok (hr.mono (by decide)) rfl c_need_kind_g c_need_kind_kp c_need_kind_b .nil (fun _ => .nil) tk (da_cons (dv 3) (da_cons (dv 1) da_nil))))
    (dss_cons (ds_expr (de_call c_need_kind_ok (hr.mono (by decide)) rfl c_need_kind_g c_need_kind_kp c_need_kind_b .nil (fun _ => .nil) tk (da_cons (dv 4) (da_cons (dv 1) da_nil))))
    (dss_cons (ds_expr (de_call c_need_range_ok (hr.mono (by decide)) rfl c_need_range_g c_need_range_kp c_need_range_b .nil (fun _ => .nil) tk (da_cons de_str (da_cons (dv 5) (da_cons de_int (da_cons (de_globI rfl T.k_MOST_GAP) da_nil))))))
    (dss_cons (ds_if (dt_cmp (op_inD hr.units) (od_inD false) (de_tup (da_cons (dv 3) (da_cons (dv 4) da_nil))) (de_lcM false (own := [("row", 6)]) (c := .one 6) (te := dTup (daCons (dOp dIx (dVar 6) (dC (.int 0))) (daCons (dOp dIx (dVar 6) (dC (.int 1))) daNil))) (tt := dYes) rfl sc_checked_arrows.nd (by simp [CT.in]) (dv 2) (blkOk_by (own := [("row", 6)]) (N := nm_checked_arrows) (sc := defScope s_checked_arrows) (by decide +kernel)) (fun _ _ _ _ _ => pg_ct1 (i := 6) sc_checked_arrows.nd rfl (Or.inl rfl)) (fun _ _ _ _ _ => dts_nil) (fun _ _ _ _ _ => de_tup (da_cons (de_ix (dv 6) de_int) (da_cons (de_ix (dv 6) de_int) da_nil)))) (by rfl)) (dss_one ds_never) dss_nil)
    (dss_one (ds_expr (de_bm PySem.F.plainAttrs_list PySem.F.slot_list_append PySem.F.type_list_append mt_append md_append (dv 2) (da_cons (de_tup (da_cons (dv 3) (da_cons (dv 4) (da_cons (dv 5) da_nil)))) da_nil))))))))) ?_
  exact dss_one (ds_ret (de_frz (dv 2)))

theorem ok_Task_init {P : Program} {w : World} {K : PySem.W.Frag} {mg : Str → Option Value} {base : Heap} (T : Txt K mg) (TB : TabBs K mg base) (c_need_name : Good P w K mg base 2 (some "need_name") (ga K "need_name") ["text"] (sp_need_name K)) (c_checked_kinds : Good P w K mg base 3 (some "checked_kinds") (ga K "checked_kinds") ["kinds", "branching"] (sp_checked_kinds K)) (c_checked_arrows : Good P w K mg base 2 (some "checked_arrows") (ga K "checked_arrows") ["arrows", "kind_rows"] (sp_checked_arrows K)) : GoodD P w K mg base 4 none (ma K (ga K "Task") "__init__") ["self", "name", "kinds", "arrows"] (sp_Task_init K) [.tup []] := by
  obtain ⟨_, c_need_name_ok, c_need_name_b, c_need_name_kp⟩ := c_need_name.ex
  have c_need_name_g := c_need_name.gl
  obtain ⟨_, c_checked_kinds_ok, c_checked_kinds_b, c_checked_kinds_kp⟩ := c_checked_kinds.ex
  have c_checked_kinds_g := c_checked_kinds.gl
  obtain ⟨_, c_checked_arrows_ok, c_checked_arrows_b, c_checked_arrows_kp⟩ := c_checked_arrows.ex
  have c_checked_arrows_g := c_checked_arrows.gl
  obtain ⟨fd, F⟩ := T.d_Task_init
  obtain ⟨dV, hdV, hbV⟩ := FunD.binds1 (ps := ["self", "name", "kinds", "arrows"]) F 3 0 (by simp) rfl (fun T kV doc pm an cdv ct us its h1 h2 => match us, its, h1, h2 with | [_, _, _], [_], _, _ => ⟨_, rfl, rfl⟩)
  obtain ⟨dW, hdW, hbW⟩ := FunD.binds1 (ps := ["self", "name", "kinds", "arrows"]) F 4 1 (by simp) rfl (fun T kV doc pm an cdv ct us its h1 h2 => match us, its, h1, h2 with | [_, _, _, _], [_], _, _ => ⟨_, rfl, rfl⟩)
  cases hdW
  refine ⟨⟨fd, fn_d (k := 3) F sc_Task_init len_Task_init (t_Task_init K) (fun cdv A outer s H E WD hr tk hp => ?_) (pure_Task_init T), F.kp, hbW, dV, _, hdV, hbV, fun G => tup0_of T.t0_Task_init G⟩, trivial⟩
  refine dss_cons (ds_expr (de_call c_need_name_ok (hr.mono (by decide)) rfl c_need_name_g c_need_name_kp c_need_name_b .nil (fun _ => .nil) tk (da_cons (dv 1) da_nil))) ?_
  refine dss_cons (ds_if (dt_not (dt_chain op_le od_cmpI op_le od_cmpI de_int (de_callB call_len cd_len rfl T.b_len (by decide +kernel) (da_cons (dv 2) da_nil)) (de_globI rfl T.k_MOST_KINDS))) (dss_one ds_never) dss_nil) ?_
  refine dss_cons (ds_if (dt_cmp op_gt od_cmpI (de_callB call_len cd_len rfl T.b_len (by decide +kernel) (da_cons (dv 3) da_nil)) (de_globI rfl T.k_MOST_ARROWS) (nomark _)) (dss_one ds_never) dss_nil) ?_
  refine dss_cons (ds_fld (dv 0) (dv 1)) ?_
  refine dss_cons (ds_fld (dv 0) (de_call c_checked_kinds_ok (hr.mono (by decide)) rfl c_checked_kinds_g c_checked_kinds_kp c_checked_kinds_b .nil (fun _ => .nil) tk (da_cons (dv 2) (da_cons (de_cmp op_gt od_cmpI (de_callB call_len cd_len rfl T.b_len (by decide +kernel) (da_cons (dv 3) da_nil)) de_int (nomark _)) da_nil)))) ?_
  exact dss_one (ds_fld (dv 0) (de_call c_checked_arrows_ok (hr.mono (by decide)) rfl c_checked_arrows_g c_checked_arrows_kp c_checked_arrows_b .nil (fun _ => .nil) tk (da_cons (dv 3) (da_cons (de_fld (dv 0)) da_nil))))

theorem ok_Task_row_of {P : Program} {w : World} {K : PySem.W.Frag} {mg : Str → Option Value} {base : Heap} (T : Txt K mg) (TB : TabBs K mg base)  : Good P w K mg base 3 none (ma K (ga K "Task") "row_of") ["self", "kind"] (sp_Task_row_of K) := by
  obtain ⟨_, x_UnknownKind_ok, x_UnknownKind_b⟩ := okx_UnknownKind (P := P) (w := w) (base := base) T
  obtain ⟨fd, F⟩ := T.d_Task_row_of
  refine ⟨⟨fd, fn_d (k := 2) F sc_Task_row_of len_Task_row_of (t_Task_row_of K) (fun cdv A outer s H E WD hr tk hp => ?_) (pure_Task_row_of T), F.bindsN fun _ _ _ _ _ _ us hl => match us, hl with | [_, _], _ => rfl, F.kp⟩, trivial⟩
  refine dss_cons (ds_for hp rfl (di_list (de_fld (dv 0))) (dg_name (i := 2) sc_Task_row_of.nd rfl (Or.inl rfl)) (dss_one (ds_if (dt_cmp (op_eqA hr.units) od_eq (de_ix (dv 2) de_int) (dv 1) (nomark _)) (dss_one (ds_ret (dv 2))) dss_nil))) ?_
  exact dss_one (ds_raise T.ox_UnknownKind T.oxi_UnknownKind T.oxf_UnknownKind x_UnknownKind_ok (hr.mono (by decide)) x_UnknownKind_b rfl T.g_UnknownKind (by decide) rfl tk (da_cons (dv 1) da_nil))

theorem ok_Task_cost_of {P : Program} {w : World} {K : PySem.W.Frag} {mg : Str → Option Value} {base : Heap} (T : Txt K mg) (TB : TabBs K mg base) (c_Task_row_of : Good P w K mg base 3 none (ma K (ga K "Task") "row_of") ["self", "kind"] (sp_Task_row_of K)) : Good P w K mg base 4 none (ma K (ga K "Task") "cost_of") ["self", "kind"] (sp_Task_cost_of K) := by
  obtain ⟨_, c_Task_row_of_ok, c_Task_row_of_b, c_Task_row_of_kp⟩ := c_Task_row_of.ex
  have c_Task_row_of_g := c_Task_row_of.gl
  obtain ⟨fd, F⟩ := T.d_Task_cost_of
  refine ⟨⟨fd, fn_d (k := 3) F sc_Task_cost_of len_Task_cost_of (t_Task_cost_of K) (fun cdv A outer s H E WD hr tk hp => ?_) (pure_Task_cost_of T), F.bindsN fun _ _ _ _ _ _ us hl => match us, hl with | [_, _], _ => rfl, F.kp⟩, trivial⟩
  exact dss_one (ds_ret (de_ix (de_meth (dv 0) T.cl_Task T.m_Task_row_of c_Task_row_of_ok (hr.mono (by decide)) c_Task_row_of_b .nil (fun _ => .nil) tk (da_cons (dv 1) da_nil)) de_int))

theorem ok_Task_deadline_of {P : Program} {w : World} {K : PySem.W.Frag} {mg : Str → Option Value} {base : Heap} (T : Txt K mg) (TB : TabBs K mg base) (c_Task_row_of : Good P w K mg base 3 none (ma K (ga K "Task") "row_of") ["self", "kind"] (sp_Task_row_of K)) : Good P w K mg base 4 none (ma K (ga K "Task") "deadline_of") ["self", "kind"] (sp_Task_deadline_of K) := by
  obtain ⟨_, c_Task_row_of_ok, c_Task_row_of_b, c_Task_row_of_kp⟩ := c_Task_row_of.ex
  have c_Task_row_of_g := c_Task_row_of.gl
  obtain ⟨fd, F⟩ := T.d_Task_deadline_of
  refine ⟨⟨fd, fn_d (k := 3) F sc_Task_deadline_of len_Task_deadline_of (t_Task_deadline_of K) (fun cdv A outer s H E WD hr tk hp => ?_) (pure_Task_deadline_of T), F.bindsN fun _ _ _ _ _ _ us hl => match us, hl with | [_, _], _ => rfl, F.kp⟩, trivial⟩
  exact dss_one (ds_ret (de_ix (de_meth (dv 0) T.cl_Task T.m_Task_row_of c_Task_row_of_ok (hr.mono (by decide)) c_Task_row_of_b .nil (fun _ => .nil) tk (da_cons (dv 1) da_nil)) de_int))

theorem ok_Task_followers {P : Program} {w : World} {K : PySem.W.Frag} {mg : Str → Option Value} {base : Heap} (T : Txt K mg) (TB : TabBs K mg base) (c_Task_row_of : Good P w K mg base 3 none (ma K (ga K "Task") "row_of") ["self", "kind"] (sp_Task_row_of K)) : Good P w K mg base 4 none (ma K (ga K "Task") "followers") ["self", "kind"] (sp_Task_followers K) := by
  obtain ⟨_, c_Task_row_of_ok, c_Task_row_of_b, c_Task_row_of_kp⟩ := c_Task_row_of.ex
  have c_Task_row_of_g := c_Task_row_of.gl
  obtain ⟨fd, F⟩ := T.d_Task_followers
  refine ⟨⟨fd, fn_d (k := 3) F sc_Task_followers len_Task_followers (t_Task_followers K) (fun cdv A outer s H E WD hr tk hp => ?_) (pure_Task_followers T), F.bindsN fun _ _ _ _ _ _ us hl => match us, hl with | [_, _], _ => rfl, F.kp⟩, trivial⟩
  refine dss_cons (ds_expr (de_meth (dv 0) T.cl_Task T.m_Task_row_of c_Task_row_of_ok (hr.mono (by decide)) c_Task_row_of_b .nil (fun _ => .nil) tk (da_cons (dv 1) da_nil))) ?_
  exact dss_one (ds_ret (de_lc false (own := [("first", 2), ("second", 3), ("gap", 4)]) (c := .tup [2, 3, 4]) (te := dTup (daCons (dVar 3) (daCons (dVar 4) daNil))) (tt := dTest (dOp dEq (dVar 2) (dVar 1))) rfl sc_Task_followers.nd (by simp [CT.in]) (di_list (de_fld (dv 0))) (blkOk_by (own := [("first", 2), ("second", 3), ("gap", 4)]) (N := nm_Task_followers) (sc := defScope s_Task_followers) (by decide +kernel)) (fun _ _ _ _ _ => pg_ctT rfl (js := [2, 3, 4]) (pgs_cons (pg_name (i := 2) sc_Task_followers.nd rfl (Or.inl rfl)) (pgs_cons (pg_name (i := 3) sc_Task_followers.nd rfl (Or.inl rfl)) (pgs_cons (pg_name (i := 4) sc_Task_followers.nd rfl (Or.inl rfl)) (pgs_nil))))) (fun _ _ _ _ _ => dts_one (dt_cmp (op_eqA hr.units) od_eq (dv 2) (dv 1) (nomark _))) (fun _ _ _ _ _ => de_tup (da_cons (dv 3) (da_cons (dv 4) da_nil)))))

theorem ok_gap_between {P : Program} {w : World} {K : PySem.W.Frag} {mg : Str → Option Value} {base : Heap} (T : Txt K mg) (TB : TabBs K mg base) (c_Task_followers : Good P w K mg base 4 none (ma K (ga K "Task") "followers") ["self", "kind"] (sp_Task_followers K)) : Good P w K mg base 5 (some "gap_between") (ga K "gap_between") ["task", "first", "second"] (sp_gap_between K) := by
  obtain ⟨_, c_Task_followers_ok, c_Task_followers_b, c_Task_followers_kp⟩ := c_Task_followers.ex
  have c_Task_followers_g := c_Task_followers.gl
  obtain ⟨fd, F⟩ := T.d_gap_between
  refine ⟨⟨fd, fn_d (k := 4) F sc_gap_between len_gap_between (t_gap_between K) (fun cdv A outer s H E WD hr tk hp => ?_) (pure_gap_between T), F.bindsN fun _ _ _ _ _ _ us hl => match us, hl with | [_, _, _], _ => rfl, F.kp⟩, T.g_gap_between⟩
  refine dss_cons (ds_for hp rfl (di_list (de_meth (dv 0) T.cl_Task T.m_Task_followers c_Task_followers_ok (hr.mono (by decide)) c_Task_followers_b .nil (fun _ => .nil) tk (da_cons (dv 1) da_nil))) (dg_tup rfl (dgs_cons (dg_name (i := 3) sc_gap_between.nd rfl (Or.inl rfl)) (dgs_cons (dg_name (i := 4) sc_gap_between.nd rfl (Or.inl rfl)) dgs_nil))) (dss_one (ds_if (dt_cmp (op_eqA hr.units) od_eq (dv 3) (dv 2) (nomark _)) (dss_one (ds_ret (dv 4))) dss_nil))) ?_
  exact dss_one (ds_ret de_non)

theorem ok_check_job {P : Program} {w : World} {K : PySem.W.Frag} {mg : Str → Option Value} {base : Heap} (T : Txt K mg) (TB : TabBs K mg base) (c_Task_cost_of : Good P w K mg base 4 none (ma K (ga K "Task") "cost_of") ["self", "kind"] (sp_Task_cost_of K)) (c_gap_between : Good P w K mg base 5 (some "gap_between") (ga K "gap_between") ["task", "first", "second"] (sp_gap_between K)) : Good P w K mg base 6 (some "check_job") (ga K "check_job") ["task", "walk", "index", "place", "grain"] (sp_check_job K) := by
  obtain ⟨_, c_Task_cost_of_ok, c_Task_cost_of_b, c_Task_cost_of_kp⟩ := c_Task_cost_of.ex
  have c_Task_cost_of_g := c_Task_cost_of.gl
  obtain ⟨_, c_gap_between_ok, c_gap_between_b, c_gap_between_kp⟩ := c_gap_between.ex
  have c_gap_between_g := c_gap_between.gl
  obtain ⟨_, x_BadCost_ok, x_BadCost_b⟩ := okx_BadCost (P := P) (w := w) (base := base) T
  obtain ⟨_, x_BadRelease_ok, x_BadRelease_b⟩ := okx_BadRelease (P := P) (w := w) (base := base) T
  obtain ⟨_, x_GapTooShort_ok, x_GapTooShort_b⟩ := okx_GapTooShort (P := P) (w := w) (base := base) T
  obtain ⟨_, x_NoArrow_ok, x_NoArrow_b⟩ := okx_NoArrow (P := P) (w := w) (base := base) T
  obtain ⟨fd, F⟩ := T.d_check_job
  refine ⟨⟨fd, fn_d (k := 5) F sc_check_job len_check_job (t_check_job K) (fun cdv A outer s H E WD hr tk hp => ?_) (pure_check_job T), F.bindsN fun _ _ _ _ _ _ us hl => match us, hl with | [_, _, _, _, _], _ => rfl, F.kp⟩, T.g_check_job⟩
  refine dss_cons (ds_asg (de_ix (dv 1) (dv 3)) (dg_tup rfl (dgs_cons (dg_name (i := 5) sc_check_job.nd rfl (Or.inl rfl)) (dgs_cons (dg_name (i := 6) sc_check_job.nd rfl (Or.inl rfl)) (dgs_cons (dg_name (i := 7) sc_check_job.nd rfl (Or.inl rfl)) dgs_nil))))) ?_
  refine dss_cons (ds_set (i := 8) sc_check_job.nd rfl (Or.inl rfl) (de_mul false (de_meth (dv 0) T.cl_Task T.m_Task_cost_of c_Task_cost_of_ok (hr.mono (by decide)) c_Task_cost_of_b .nil (fun _ => .nil) tk (da_cons (dv 5) da_nil)) (dv 4))) ?_
  refine dss_cons (ds_if (dt_not (dt_chain op_le od_cmpI op_le od_cmpI de_int (dv 7) (dv 8))) (dss_one (ds_raise T.ox_BadCost T.oxi_BadCost T.oxf_BadCost x_BadCost_ok (hr.mono (by decide)) x_BadCost_b rfl T.g_BadCost (by decide) rfl tk (da_cons (dv 2) (da_cons (dv 3) da_nil)))) dss_nil) ?_
  refine dss_cons (ds_if (dt_cmp op_lt od_cmpI (dv 6) de_int (nomark _)) (dss_one (ds_raise T.ox_BadRelease T.oxi_BadRelease T.oxf_BadRelease x_BadRelease_ok (hr.mono (by decide)) x_BadRelease_b rfl T.g_BadRelease (by decide) rfl tk (da_cons (dv 2) (da_cons (dv 3) da_nil)))) dss_nil) ?_
  refine dss_cons (ds_if (dt_cmp (op_eqA hr.units) od_eq (dv 3) de_int (nomark _)) (dss_one ds_retN) dss_nil) ?_
  refine dss_cons (ds_set (i := 9) sc_check_job.nd rfl (Or.inl rfl) (de_ix (dv 1) (de_sub (dv 3) de_int))) ?_
  refine dss_cons (ds_set (i := 10) sc_check_job.nd rfl (Or.inl rfl) (de_call c_gap_between_ok (hr.mono (by decide)) rfl c_gap_between_g c_gap_between_kp c_gap_between_b .nil (fun _ => .nil) tk (da_cons (dv 0) (da_cons (de_ix (dv 9) de_int) (da_cons (dv 5) da_nil))))) ?_
  refine dss_cons (ds_if (dt_cmp op_isN od_isN (dv 10) de_non (nomark _)) (dss_one (ds_raise T.ox_NoArrow T.oxi_NoArrow T.oxf_NoArrow x_NoArrow_ok (hr.mono (by decide)) x_NoArrow_b rfl T.g_NoArrow (by decide) rfl tk (da_cons (dv 2) (da_cons (dv 3) da_nil)))) dss_nil) ?_
  exact dss_one (ds_if (dt_cmp op_lt od_cmpI (de_sub (dv 6) (de_ix (dv 9) de_int)) (de_mul false (dv 10) (dv 4)) (nomark _)) (dss_one (ds_raise T.ox_GapTooShort T.oxi_GapTooShort T.oxf_GapTooShort x_GapTooShort_ok (hr.mono (by decide)) x_GapTooShort_b rfl T.g_GapTooShort (by decide) rfl tk (da_cons (dv 2) (da_cons (dv 3) da_nil)))) dss_nil)

theorem ok_check_counts {P : Program} {w : World} {K : PySem.W.Frag} {mg : Str → Option Value} {base : Heap} (T : Txt K mg) (TB : TabBs K mg base)  : Good P w K mg base 3 (some "check_counts") (ga K "check_counts") ["tasks", "walks", "grain"] (sp_check_counts K) := by
  obtain ⟨_, x_OutOfRange_ok, x_OutOfRange_b⟩ := okx_OutOfRange (P := P) (w := w) (base := base) T
  obtain ⟨_, x_WrongCount_ok, x_WrongCount_b⟩ := okx_WrongCount (P := P) (w := w) (base := base) T
  obtain ⟨fd, F⟩ := T.d_check_counts
  refine ⟨⟨fd, fn_d (k := 2) F sc_check_counts len_check_counts (t_check_counts K) (fun cdv A outer s H E WD hr tk hp => ?_) (pure_check_counts T), F.bindsN fun _ _ _ _ _ _ us hl => match us, hl with | [_, _, _], _ => rfl, F.kp⟩, T.g_check_counts⟩
  refine dss_cons (ds_if (dt_not (dt_chain op_le od_cmpI op_le od_cmpI de_int (dv 2) (de_globI rfl T.k_GRAIN_LIMIT))) (dss_one (ds_raise T.ox_OutOfRange T.oxi_OutOfRange T.oxf_OutOfRange x_OutOfRange_ok (hr.mono (by decide)) x_OutOfRange_b rfl T.g_OutOfRange (by decide) rfl tk (da_cons de_str (da_cons (dv 2) da_nil)))) dss_nil) ?_
  refine dss_cons (ds_if (dt_cmp (op_neA hr.units) od_ne (de_callB call_len cd_len rfl T.b_len (by decide +kernel) (da_cons (dv 1) da_nil)) (de_callB call_len cd_len rfl T.b_len (by decide +kernel) (da_cons (dv 0) da_nil)) (nomark _)) (dss_one (ds_raise T.ox_WrongCount T.oxi_WrongCount T.oxf_WrongCount x_WrongCount_ok (hr.mono (by decide)) x_WrongCount_b rfl T.g_WrongCount (by decide) rfl tk (da_cons de_str (da_cons (de_callB call_len cd_len rfl T.b_len (by decide +kernel) (da_cons (dv 1) da_nil)) da_nil)))) dss_nil) ?_
  refine dss_cons (ds_set (i := 3) sc_check_counts.nd rfl (Or.inl rfl) (de_callB (cr_sum rfl) cd_sum rfl T.b_sum (by decide +kernel) (da_cons (de_lc false (own := [("walk", 4)]) (c := .one 4) (te := dCB dLen (daCons (dVar 4) daNil)) (tt := dYes) rfl sc_check_counts.nd (by simp [CT.in]) (di_list (dv 1)) (blkOk_by (own := [("walk", 4)]) (N := nm_check_counts) (sc := defScope s_check_counts) (by decide +kernel)) (fun _ _ _ _ _ => pg_ct1 (i := 4) sc_check_counts.nd rfl (Or.inl rfl)) (fun _ _ _ _ _ => dts_nil) (fun _ _ _ _ _ => de_callB call_len cd_len rfl T.b_len (by decide +kernel) (da_cons (dv 4) da_nil))) da_nil))) ?_
  exact dss_one (ds_if (dt_cmp op_gt od_cmpI (dv 3) (de_globI rfl T.k_JOB_LIMIT) (nomark _)) (dss_one (ds_raise T.ox_WrongCount T.oxi_WrongCount T.oxf_WrongCount x_WrongCount_ok (hr.mono (by decide)) x_WrongCount_b rfl T.g_WrongCount (by decide) rfl tk (da_cons de_str (da_cons (dv 3) da_nil)))) dss_nil)

theorem ok_Run_init {P : Program} {w : World} {K : PySem.W.Frag} {mg : Str → Option Value} {base : Heap} (T : Txt K mg) (TB : TabBs K mg base) (c_check_counts : Good P w K mg base 3 (some "check_counts") (ga K "check_counts") ["tasks", "walks", "grain"] (sp_check_counts K)) (c_check_job : Good P w K mg base 6 (some "check_job") (ga K "check_job") ["task", "walk", "index", "place", "grain"] (sp_check_job K)) (c_Task_deadline_of : Good P w K mg base 4 none (ma K (ga K "Task") "deadline_of") ["self", "kind"] (sp_Task_deadline_of K)) : GoodK P w K mg base 7 none (ma K (ga K "Run") "__init__") ["self", "tasks", "walks", "grain"] (sp_Run_init K) 3 ["grain"] [.int 1] := by
  obtain ⟨_, c_check_counts_ok, c_check_counts_b, c_check_counts_kp⟩ := c_check_counts.ex
  have c_check_counts_g := c_check_counts.gl
  obtain ⟨_, c_check_job_ok, c_check_job_b, c_check_job_kp⟩ := c_check_job.ex
  have c_check_job_g := c_check_job.gl
  obtain ⟨_, c_Task_deadline_of_ok, c_Task_deadline_of_b, c_Task_deadline_of_kp⟩ := c_Task_deadline_of.ex
  have c_Task_deadline_of_g := c_Task_deadline_of.gl
  obtain ⟨lc, lP, lhc, lhx⟩ := T.lam_Run_init
  obtain ⟨fd, F⟩ := T.d_Run_init
  obtain ⟨dV, hdV, hbV⟩ := FunD.binds0 (ps := ["self", "tasks", "walks", "grain"]) F 3 (by simp) rfl (fun D doc pm an cdv ct us ks h1 h2 => match us, ks, h1, h2 with | [_, _, _], [_], _, _ => ⟨_, _, _, _, _, _, rfl, rfl, rfl⟩)
  refine ⟨⟨fd, fn_dL (k := 6) F lhc sc_Run_init len_Run_init (t_Run_init K) (fun A outer s H E WD hr tk hp => ?_) (pure_Run_init T), F.kp, kbn_all F 3 ["grain"] (fun _ _ _ _ _ _ us ws h1 h2 => match us, ws, h1, h2 with | [_, _, _], [_], _, _ => rfl), dV, _, hdV, hbV, fun G => .cons (.int 1) (.nil)⟩, trivial⟩
  refine dss_cons (ds_expr (de_call c_check_counts_ok (hr.mono (by decide)) rfl c_check_counts_g c_check_counts_kp c_check_counts_b .nil (fun _ => .nil) tk (da_cons (dv 1) (da_cons (dv 2) (da_cons (dv 3) da_nil))))) ?_
  refine dss_cons (ds_set (i := 4) sc_Run_init.nd rfl (Or.inl rfl) (de_lst true da_nil)) ?_
  refine dss_cons (ds_for hp rfl (di_enum rfl T.b_enumerate (da_cons (dv 2) da_nil)) (dg_tup rfl (dgs_cons (dg_name (i := 5) sc_Run_init.nd rfl (Or.inl rfl)) (dgs_cons (dg_name (i := 6) sc_Run_init.nd rfl (Or.inl rfl)) dgs_nil))) (dss_cons (ds_set (i := 7) sc_Run_init.nd rfl (Or.inl rfl) (de_ix (dv 1) (dv 5)))
    (dss_one (ds_for hp rfl (di_enum rfl T.b_enumerate (da_cons (dv 6) da_nil)) (dg_tup rfl (dgs_cons (dg_name (i := 8) sc_Run_init.nd rfl (Or.inl rfl)) (dgs_cons (dg_tup rfl (dgs_cons (dg_name (i := 9) sc_Run_init.nd rfl (Or.inl rfl)) (dgs_cons (dg_name (i := 10) sc_Run_init.nd rfl (Or.inl rfl)) (dgs_cons (dg_name (i := 11) sc_Run_init.nd rfl (Or.inl rfl)) dgs_nil)))) dgs_nil))) (dss_cons (ds_expr (de_call c_check_job_ok (hr.mono (by decide)) rfl c_check_job_g c_check_job_kp c_check_job_b .nil (fun _ => .nil) tk (da_cons (dv 7) (da_cons (dv 6) (da_cons (dv 5) (da_cons (dv 8) (da_cons (dv 3) da_nil)))))))
    (dss_cons (ds_set (i := 12) sc_Run_init.nd rfl (Or.inl rfl) (de_add false (dv 10) (de_mul false (de_meth (dv 7) T.cl_Task T.m_Task_deadline_of c_Task_deadline_of_ok (hr.mono (by decide)) c_Task_deadline_of_b .nil (fun _ => .nil) tk (da_cons (dv 9) da_nil)) (dv 3))))
    (dss_one (ds_expr (de_bm PySem.F.plainAttrs_list PySem.F.slot_list_append PySem.F.type_list_append mt_append md_append (dv 4) (da_cons (de_tup (da_cons (dv 5) (da_cons (dv 8) (da_cons (dv 9) (da_cons (dv 10) (da_cons (dv 11) (da_cons (dv 12) da_nil))))))) da_nil)))))))))) ?_
  refine dss_frz 4 ?_
  refine dss_cons (ds_fld (dv 0) (dv 3)) ?_
  exact dss_one (ds_fld (dv 0) (de_sortK false (k := 0) (ip := 13) (te := dTup (daCons (dOp dIx (dVar 13) (dC (.int 3))) (daCons (dOp dIx (dVar 13) (dC (.int 0))) (daCons (dOp dIx (dVar 13) (dC (.int 1))) daNil)))) (hr.mono (by decide)) rfl T.b_sorted (by decide +kernel) (dv 4) (lam1_by (sc := defScope s_Run_init) (by decide +kernel)) sc_Run_init.nd rfl TB lhx rfl rfl (fun _ _ _ _ _ _ => rfl) (fun _ _ _ _ _ => de_tup (da_cons (de_ix (dv 13) de_int) (da_cons (de_ix (dv 13) de_int) (da_cons (de_ix (dv 13) de_int) da_nil))))))

theorem ok_Run_jobs {P : Program} {w : World} {K : PySem.W.Frag} {mg : Str → Option Value} {base : Heap} (T : Txt K mg) (TB : TabBs K mg base)  : Good P w K mg base 1 none (wad K "property" "Run" "jobs") ["self"] (sp_Run_jobs K) := by
  obtain ⟨fd, F⟩ := T.d_Run_jobs
  refine ⟨⟨fd, fn_d (k := 0) F sc_Run_jobs len_Run_jobs (t_Run_jobs K) (fun cdv A outer s H E WD hr tk hp => ?_) (pure_Run_jobs T), F.bindsN fun _ _ _ _ _ _ us hl => match us, hl with | [_], _ => rfl, F.kp⟩, trivial⟩
  exact dss_one (ds_ret (de_callTy call_list_of (cd_list false) rfl T.b_list (by decide +kernel) (da_cons (de_fld (dv 0)) da_nil)))

theorem ok_check_speed {P : Program} {w : World} {K : PySem.W.Frag} {mg : Str → Option Value} {base : Heap} (T : Txt K mg) (TB : TabBs K mg base)  : Good P w K mg base 3 (some "check_speed") (ga K "check_speed") ["speed"] (sp_check_speed K) := by
  obtain ⟨_, x_OutOfRange_ok, x_OutOfRange_b⟩ := okx_OutOfRange (P := P) (w := w) (base := base) T
  obtain ⟨fd, F⟩ := T.d_check_speed
  refine ⟨⟨fd, fn_d (k := 2) F sc_check_speed len_check_speed (t_check_speed K) (fun cdv A outer s H E WD hr tk hp => ?_) (pure_check_speed T), F.bindsN fun _ _ _ _ _ _ us hl => match us, hl with | [_], _ => rfl, F.kp⟩, T.g_check_speed⟩
  exact dss_one (ds_if (dt_not (dt_chain op_le od_cmpI op_le od_cmpI de_int (dv 0) (de_globI rfl T.k_SPEED_LIMIT))) (dss_one (ds_raise T.ox_OutOfRange T.oxi_OutOfRange T.oxf_OutOfRange x_OutOfRange_ok (hr.mono (by decide)) x_OutOfRange_b rfl T.g_OutOfRange (by decide) rfl tk (da_cons de_str (da_cons (dv 0) da_nil)))) dss_nil)

theorem ok_costs_by_due {P : Program} {w : World} {K : PySem.W.Frag} {mg : Str → Option Value} {base : Heap} (T : Txt K mg) (TB : TabBs K mg base)  : Good P w K mg base 1 (some "costs_by_due") (ga K "costs_by_due") ["jobs", "start"] (sp_costs_by_due K) := by
  obtain ⟨fd, F⟩ := T.d_costs_by_due
  refine ⟨⟨fd, fn_d (k := 0) F sc_costs_by_due len_costs_by_due (t_costs_by_due K) (fun cdv A outer s H E WD hr tk hp => ?_) (pure_costs_by_due T), F.bindsN fun _ _ _ _ _ _ us hl => match us, hl with | [_, _], _ => rfl, F.kp⟩, T.g_costs_by_due⟩
  refine dss_cons (ds_set (i := 2) sc_costs_by_due.nd rfl (Or.inl rfl) de_newK) ?_
  refine dss_cons (ds_for hp rfl (di_list (dv 0)) (dg_name (i := 3) sc_costs_by_due.nd rfl (Or.inl rfl)) (dss_one (ds_if (dt_cmp op_ge od_cmpI (de_ix (dv 3) de_int) (dv 1) (nomark _)) (dss_one (ds_putK hr.units1 (dv 2) (de_ix (dv 3) de_int) (de_add false (de_get2K hr.units1 (dv 2) (de_ix (dv 3) de_int) de_int ⟨by rfl, by rfl, by rfl, by rfl⟩) (de_ix (dv 3) de_int)))) dss_nil))) ?_
  exact dss_one (ds_ret (de_frzEK (dv 2)))

theorem ok_interval_demands {P : Program} {w : World} {K : PySem.W.Frag} {mg : Str → Option Value} {base : Heap} (T : Txt K mg) (TB : TabBs K mg base) (c_Run_jobs : Good P w K mg base 1 none (wad K "property" "Run" "jobs") ["self"] (sp_Run_jobs K)) (c_costs_by_due : Good P w K mg base 1 (some "costs_by_due") (ga K "costs_by_due") ["jobs", "start"] (sp_costs_by_due K)) : GoodG P w K mg base 3 "interval_demands" (ga K "interval_demands") ["run"] (sp_interval_demands K) := by
  obtain ⟨_, c_Run_jobs_ok, c_Run_jobs_b, c_Run_jobs_kp⟩ := c_Run_jobs.ex
  have c_Run_jobs_g := c_Run_jobs.gl
  obtain ⟨_, c_costs_by_due_ok, c_costs_by_due_b, c_costs_by_due_kp⟩ := c_costs_by_due.ex
  have c_costs_by_due_g := c_costs_by_due.gl
  obtain ⟨fd, F⟩ := T.d_interval_demands
  refine ⟨⟨fd, fn_g (k := 2) F sc_interval_demands (fun _ => rfl) len_interval_demands (t_interval_demands K) (fun cdv A outer s H pn m0 ys CW hr gx => ?_) (pure_interval_demands T), F.bindsN fun _ _ _ _ _ _ us hl => match us, hl with | [_], _ => rfl, F.kp⟩, T.g_interval_demands⟩
  exact dgss_cons (dgs_plain gx (fun _ _ => ds_set (i := 1) sc_interval_demands.nd rfl (Or.inl rfl) (de_prop (dv 0) T.cl_Run T.p_Run_jobs c_Run_jobs_ok (hr.mono (by decide)) c_Run_jobs_b)))
    (dgss_cons (dgs_plain gx (fun _ _ => ds_set (i := 2) sc_interval_demands.nd rfl (Or.inl rfl) (de_sortSc false (i := 3) (own := [("job", 3)]) rfl sc_interval_demands.nd (by simp) (dv 1) (blkOk_by (own := [("job", 3)]) (N := nm_interval_demands) (sc := defScope s_interval_demands) (by decide +kernel)) (fun _ _ _ _ _ => pg_ct1 (i := 3) sc_interval_demands.nd rfl (Or.inl rfl)) (fun _ _ _ _ _ => pe_var rfl (Or.inl rfl)) rfl T.b_sorted (by decide +kernel))))
    (dgss_cons (dgs_plain gx (fun _ _ => ds_set (i := 4) sc_interval_demands.nd rfl (Or.inl rfl) (de_sortSc false (i := 3) (own := [("job", 3)]) rfl sc_interval_demands.nd (by simp) (dv 1) (blkOk_by (own := [("job", 3)]) (N := nm_interval_demands) (sc := defScope s_interval_demands) (by decide +kernel)) (fun _ _ _ _ _ => pg_ct1 (i := 3) sc_interval_demands.nd rfl (Or.inl rfl)) (fun _ _ _ _ _ => pe_var rfl (Or.inl rfl)) rfl T.b_sorted (by decide +kernel))))
    (dgss_one (dgs_for gx rfl (fun _ _ => di_list (dv 2)) (fun _ _ => dg_name (i := 5) sc_interval_demands.nd rfl (Or.inl rfl)) (dgss_cons (dgs_plain gx (fun _ _ => ds_set (i := 6) sc_interval_demands.nd rfl (Or.inl rfl) (de_call c_costs_by_due_ok (hr.mono (by decide)) rfl c_costs_by_due_g c_costs_by_due_kp c_costs_by_due_b .nil (fun _ => .nil) takes0 (da_cons (dv 1) (da_cons (dv 5) da_nil)))))
    (dgss_cons (dgs_plain gx (fun _ _ => ds_set (i := 7) sc_interval_demands.nd rfl (Or.inl rfl) de_int))
    (dgss_one (dgs_for gx rfl (fun _ _ => di_list (dv 4)) (fun _ _ => dg_name (i := 8) sc_interval_demands.nd rfl (Or.inl rfl)) (dgss_cons (dgs_plain gx (fun _ _ => ds_aug (i := 7) sc_interval_demands.nd rfl (Or.inl rfl) (de_get2K hr.units1 (dv 6) (dv 8) de_int ⟨by rfl, by rfl, by rfl, by rfl⟩) iop_add od_addI))
    (dgss_one (dgs_if gx (fun _ _ => dt_cmp op_gt od_cmpI (dv 7) de_int (nomark _)) (dgss_one (dgs_yield gx (fun _ _ => de_tup (da_cons (dv 5) (da_cons (dv 8) (da_cons (dv 7) da_nil)))) rfl rfl)) dgss_nil)))))))))))

theorem ok_heaviest_interval {P : Program} {w : World} {K : PySem.W.Frag} {mg : Str → Option Value} {base : Heap} (T : Txt K mg) (TB : TabBs K mg base) (c_check_speed : Good P w K mg base 3 (some "check_speed") (ga K "check_speed") ["speed"] (sp_check_speed K)) (c_interval_demands : GoodG P w K mg base 3 "interval_demands" (ga K "interval_demands") ["run"] (sp_interval_demands K)) : GoodK P w K mg base 5 (some "heaviest_interval") (ga K "heaviest_interval") ["run", "speed"] (sp_heaviest_interval K) 1 ["speed"] [.int 1] := by
  obtain ⟨_, c_check_speed_ok, c_check_speed_b, c_check_speed_kp⟩ := c_check_speed.ex
  have c_check_speed_g := c_check_speed.gl
  obtain ⟨_, c_interval_demands_ok, c_interval_demands_b, c_interval_demands_kp⟩ := c_interval_demands.ex
  have c_interval_demands_g := c_interval_demands.gl
  obtain ⟨fd, F⟩ := T.d_heaviest_interval
  obtain ⟨dV, hdV, hbV⟩ := FunD.binds0 (ps := ["run", "speed"]) F 1 (by simp) rfl (fun D doc pm an cdv ct us ks h1 h2 => match us, ks, h1, h2 with | [_], [_], _, _ => ⟨_, _, _, _, _, _, rfl, rfl, rfl⟩)
  refine ⟨⟨fd, fn_d (k := 4) F sc_heaviest_interval len_heaviest_interval (t_heaviest_interval K) (fun cdv A outer s H E WD hr tk hp => ?_) (pure_heaviest_interval T), F.kp, kbn_all F 1 ["speed"] (fun _ _ _ _ _ _ us ws h1 h2 => match us, ws, h1, h2 with | [_], [_], _, _ => rfl), dV, _, hdV, hbV, fun G => .cons (.int 1) (.nil)⟩, T.g_heaviest_interval⟩
  refine dss_cons (ds_expr (de_call c_check_speed_ok (hr.mono (by decide)) rfl c_check_speed_g c_check_speed_kp c_check_speed_b .nil (fun _ => .nil) tk (da_cons (dv 1) da_nil))) ?_
  refine dss_cons (ds_set (i := 2) sc_heaviest_interval.nd rfl (Or.inl rfl) de_non) ?_
  refine dss_cons (ds_forG c_interval_demands_ok hp rfl (hr.mono (by decide)) rfl c_interval_demands_g c_interval_demands_kp c_interval_demands_b (da_cons (dv 0) da_nil) (dg_tup rfl (dgs_cons (dg_name (i := 3) sc_heaviest_interval.nd rfl (Or.inl rfl)) (dgs_cons (dg_name (i := 4) sc_heaviest_interval.nd rfl (Or.inl rfl)) (dgs_cons (dg_name (i := 5) sc_heaviest_interval.nd rfl (Or.inl rfl)) dgs_nil)))) (dss_cons (ds_set (i := 6) sc_heaviest_interval.nd rfl (Or.inl rfl) (de_sub (dv 5) (de_mul false (de_sub (dv 4) (dv 3)) (dv 1))))
    (dss_one (ds_if (dt_w (dw_or (dt_cmp op_isN od_isN (dv 2) de_non (nomark _)) (dw_or1 (dt_cmp op_gt od_cmpI (dv 6) (de_ix (dv 2) de_int) (nomark _))))) (dss_one (ds_set (i := 2) sc_heaviest_interval.nd rfl (Or.inl rfl) (de_tup (da_cons (dv 6) (da_cons (dv 3) (da_cons (dv 4) da_nil)))))) dss_nil)))) ?_
  exact dss_one (ds_ret (dv 2))

theorem ok_law_cell {P : Program} {w : World} {K : PySem.W.Frag} {mg : Str → Option Value} {base : Heap} (T : Txt K mg) (TB : TabBs K mg base)  : Good P w K mg base 1 (some "_law_cell") (ga K "_law_cell") ["_law_script", "_law_place"] (sp_law_cell K) := by
  obtain ⟨fd, F⟩ := T.d_law_cell
  refine ⟨⟨fd, fn_d (k := 0) F sc_law_cell len_law_cell (t_law_cell K) (fun cdv A outer s H E WD hr tk hp => ?_) (pure_law_cell T), F.bindsN fun _ _ _ _ _ _ us hl => match us, hl with | [_, _], _ => rfl, F.kp⟩, T.g_law_cell⟩
  refine dss_cons (ds_if (dt_cmp op_lt od_cmpI (dv 1) (de_callB call_len cd_len rfl T.b_len (by decide +kernel) (da_cons (dv 0) da_nil)) (nomark _)) (dss_one (ds_ret (de_ix (dv 0) (dv 1)))) dss_nil) ?_
  exact dss_one (ds_ret de_int)

theorem ok_law_source {P : Program} {w : World} {K : PySem.W.Frag} {mg : Str → Option Value} {base : Heap} (T : Txt K mg) (TB : TabBs K mg base)  : Good P w K mg base 1 (some "_law_source") (ga K "_law_source") ["_law_cell_here"] (sp_law_source K) := by
  obtain ⟨fd, F⟩ := T.d_law_source
  refine ⟨⟨fd, fn_d (k := 0) F sc_law_source len_law_source (t_law_source K) (fun cdv A outer s H E WD hr tk hp => ?_) (pure_law_source T), F.bindsN fun _ _ _ _ _ _ us hl => match us, hl with | [_], _ => rfl, F.kp⟩, T.g_law_source⟩
  exact dss_one (ds_ret (de_lst true (da_cons (dv 0) (da_cons (dv 0) (da_cons de_int da_nil)))))

theorem ok_law_draw {P : Program} {w : World} {K : PySem.W.Frag} {mg : Str → Option Value} {base : Heap} (T : Txt K mg) (TB : TabBs K mg base)  : Good P w K mg base 1 (some "_law_draw") (ga K "_law_draw") ["_law_source_here", "_law_limit"] (sp_law_draw K) := by
  obtain ⟨fd, F⟩ := T.d_law_draw
  refine ⟨⟨fd, fn_d (k := 0) F sc_law_draw len_law_draw (t_law_draw K) (fun cdv A outer s H E WD hr tk hp => ?_) (pure_law_draw T), F.bindsN fun _ _ _ _ _ _ us hl => match us, hl with | [_, _], _ => rfl, F.kp⟩, T.g_law_draw⟩
  refine dss_cons (ds_asg (de_add false (de_ix (dv 0) de_int) de_int) (dg_sub (dv 0) de_int)) ?_
  refine dss_cons (ds_if (dt_cmp op_ge od_cmpI (de_ix (dv 0) de_int) (de_pow de_int de_int) (nomark _)) (dss_cons (ds_set (i := 2) sc_law_draw.nd rfl (Or.inl rfl) (de_mod (de_callTy call_int1 cd_int1 rfl T.b_int (by decide +kernel) (da_cons (de_ix (dv 0) de_int) da_nil)) (dv 1)))
    (dss_cons (ds_asg (de_div (de_ix (dv 0) de_int) (dv 1)) (dg_sub (dv 0) de_int))
    (dss_one (ds_ret (dv 2))))) dss_nil) ?_
  refine dss_cons (ds_set (i := 3) sc_law_draw.nd rfl (Or.inl rfl) (de_mod (de_callTy call_int1 cd_int1 rfl T.b_int (by decide +kernel) (da_cons (de_ix (dv 0) de_int) da_nil)) de_int)) ?_
  refine dss_cons (ds_set (i := 4) sc_law_draw.nd rfl (Or.inl rfl) (de_mod (de_callTy call_int1 cd_int1 rfl T.b_int (by decide +kernel) (da_cons (de_pow (de_callTy call_int1 cd_int1 rfl T.b_int (by decide +kernel) (da_cons (de_add false (de_add false (de_mul false (dv 3) de_int) (de_mul false (de_ix (dv 0) de_int) de_int)) de_int) da_nil)) de_int) da_nil)) de_int)) ?_
  refine dss_cons (ds_set (i := 4) sc_law_draw.nd rfl (Or.inl rfl) (de_mod (de_callTy call_int1 cd_int1 rfl T.b_int (by decide +kernel) (da_cons (de_pow (de_callTy call_int1 cd_int1 rfl T.b_int (by decide +kernel) (da_cons (de_add false (dv 4) (de_mul false (de_mul false (de_ix (dv 0) de_int) (de_ix (dv 0) de_int)) de_int)) da_nil)) de_int) da_nil)) de_int)) ?_
  exact dss_one (ds_ret (de_mod (de_div (dv 4) de_int) (dv 1)))

theorem ok_law_names {P : Program} {w : World} {K : PySem.W.Frag} {mg : Str → Option Value} {base : Heap} (T : Txt K mg) (TB : TabBs K mg base) (c_law_draw : Good P w K mg base 1 (some "_law_draw") (ga K "_law_draw") ["_law_source_here", "_law_limit"] (sp_law_draw K)) : Good P w K mg base 2 (some "_law_names") (ga K "_law_names") ["_law_source_here", "_law_many"] (sp_law_names K) := by
  obtain ⟨_, c_law_draw_ok, c_law_draw_b, c_law_draw_kp⟩ := c_law_draw.ex
  have c_law_draw_g := c_law_draw.gl
  obtain ⟨fd, F⟩ := T.d_law_names
  refine ⟨⟨fd, fn_d (k := 1) F sc_law_names len_law_names (t_law_names K) (fun cdv A outer s H E WD hr tk hp => ?_) (pure_law_names T), F.bindsN fun _ _ _ _ _ _ us hl => match us, hl with | [_, _], _ => rfl, F.kp⟩, T.g_law_names⟩
  refine dss_cons (ds_set (i := 2) sc_law_names.nd rfl (Or.inr rfl) de_str) ?_
  refine dss_cons (ds_set (i := 3) sc_law_names.nd rfl (Or.inl rfl) (de_add false de_int (de_call c_law_draw_ok (hr.mono (by decide)) rfl c_law_draw_g c_law_draw_kp c_law_draw_b .nil (fun _ => .nil) tk (da_cons (dv 0) (da_cons de_int da_nil))))) ?_
  refine dss_cons (ds_set (i := 4) sc_law_names.nd rfl (Or.inr rfl) (de_ix (dv 2) (de_call c_law_draw_ok (hr.mono (by decide)) rfl c_law_draw_g c_law_draw_kp c_law_draw_b .nil (fun _ => .nil) tk (da_cons (dv 0) (da_cons de_int da_nil))))) ?_
  refine dss_cons (ds_for hp rfl (di_range1 rfl T.b_range (da_cons (dv 3) da_nil)) (dg_name (i := 5) sc_law_names.nd rfl (Or.inl rfl)) (dss_one (ds_set (i := 4) sc_law_names.nd rfl (Or.inr rfl) (de_add false (dv 4) (de_ix (dv 2) (de_call c_law_draw_ok (hr.mono (by decide)) rfl c_law_draw_g c_law_draw_kp c_law_draw_b .nil (fun _ => .nil) tk (da_cons (dv 0) (da_cons de_int da_nil)))))))) ?_
  refine dss_cons (ds_set (i := 6) sc_law_names.nd rfl (Or.inr rfl) (de_add false de_int (de_call c_law_draw_ok (hr.mono (by decide)) rfl c_law_draw_g c_law_draw_kp c_law_draw_b .nil (fun _ => .nil) tk (da_cons (dv 0) (da_cons (dv 3) da_nil))))) ?_
  refine dss_cons (ds_set (i := 7) sc_law_names.nd rfl (Or.inr rfl) (de_call c_law_draw_ok (hr.mono (by decide)) rfl c_law_draw_g c_law_draw_kp c_law_draw_b .nil (fun _ => .nil) tk (da_cons (dv 0) (da_cons de_int da_nil)))) ?_
  refine dss_cons (ds_if (dt_cmp (op_eqA hr.units) od_eq (de_call c_law_draw_ok (hr.mono (by decide)) rfl c_law_draw_g c_law_draw_kp c_law_draw_b .nil (fun _ => .nil) tk (da_cons (dv 0) (da_cons de_int da_nil))) de_int (nomark _)) (dss_one (ds_ret (de_lc false (own := [("_law_k", 5)]) (c := .one 5) (te := dOp (dAdd false) (dVar 4) (dOp dMulS (dC (.str "x")) (dVar 5))) (tt := dYes) rfl sc_law_names.nd (by simp [CT.in]) (di_range1 rfl T.b_range (da_cons (dv 1) da_nil)) (blkOk_by (own := [("_law_k", 5)]) (N := nm_law_names) (sc := defScope s_law_names) (by decide +kernel)) (fun _ _ _ _ _ => pg_ct1 (i := 5) sc_law_names.nd rfl (Or.inl rfl)) (fun _ _ _ _ _ => dts_nil) (fun _ _ _ _ _ => de_add false (dv 4) (de_mulS de_str (dv 5)))))) dss_nil) ?_
  exact dss_one (ds_ret (de_lc false (own := [("_law_k", 5)]) (c := .one 5) (te := dOp (dAdd false) (dOp (dAdd false) (dSlice false (dVar 4) doNone (doSome (dVar 6))) (dOp dIx (dVar 2) (dOp dMod (dOp (dAdd false) (dVar 7) (dOp (dMul false) (dC (.int 11)) (dVar 5))) (dC (.int 37))))) (dSlice false (dVar 4) (doSome (dVar 6)) doNone)) (tt := dYes) rfl sc_law_names.nd (by simp [CT.in]) (di_range1 rfl T.b_range (da_cons (dv 1) da_nil)) (blkOk_by (own := [("_law_k", 5)]) (N := nm_law_names) (sc := defScope s_law_names) (by decide +kernel)) (fun _ _ _ _ _ => pg_ct1 (i := 5) sc_law_names.nd rfl (Or.inl rfl)) (fun _ _ _ _ _ => dts_nil) (fun _ _ _ _ _ => de_add false (de_add false (de_slice false (dv 4) do_none (do_some (dv 6))) (de_ix (dv 2) (de_mod (de_add false (dv 7) (de_mul false de_int (dv 5))) de_int))) (de_slice false (dv 4) (do_some (dv 6)) do_none))))

theorem ok_law_task {P : Program} {w : World} {K : PySem.W.Frag} {mg : Str → Option Value} {base : Heap} (T : Txt K mg) (TB : TabBs K mg base) (c_law_draw : Good P w K mg base 1 (some "_law_draw") (ga K "_law_draw") ["_law_source_here", "_law_limit"] (sp_law_draw K)) (c_law_names : Good P w K mg base 2 (some "_law_names") (ga K "_law_names") ["_law_source_here", "_law_many"] (sp_law_names K)) : Good P w K mg base 3 (some "_law_task") (ga K "_law_task") ["_law_source_here"] (sp_law_task K) := by
  obtain ⟨_, c_law_draw_ok, c_law_draw_b, c_law_draw_kp⟩ := c_law_draw.ex
  have c_law_draw_g := c_law_draw.gl
  obtain ⟨_, c_law_names_ok, c_law_names_b, c_law_names_kp⟩ := c_law_names.ex
  have c_law_names_g := c_law_names.gl
  obtain ⟨fd, F⟩ := T.d_law_task
  refine ⟨⟨fd, fn_d (k := 2) F sc_law_task len_law_task (t_law_task K) (fun cdv A outer s H E WD hr tk hp => ?_) (pure_law_task T), F.bindsN fun _ _ _ _ _ _ us hl => match us, hl with | [_], _ => rfl, F.kp⟩, T.g_law_task⟩
  refine dss_cons (ds_set (i := 1) sc_law_task.nd rfl (Or.inl rfl) (de_add false de_int (de_call c_law_draw_ok (hr.mono (by decide)) rfl c_law_draw_g c_law_draw_kp c_law_draw_b .nil (fun _ => .nil) tk (da_cons (dv 0) (da_cons de_int da_nil))))) ?_
  refine dss_cons (ds_set (i := 2) sc_law_task.nd rfl (Or.inl rfl) (de_call c_law_names_ok (hr.mono (by decide)) rfl c_law_names_g c_law_names_kp c_law_names_b .nil (fun _ => .nil) tk (da_cons (dv 0) (da_cons (dv 1) da_nil)))) ?_
  refine dss_cons (ds_set (i := 3) sc_law_task.nd rfl (Or.inl rfl) (de_call c_law_draw_ok (hr.mono (by decide)) rfl c_law_draw_g c_law_draw_kp c_law_draw_b .nil (fun _ => .nil) tk (da_cons (dv 0) (da_cons de_int da_nil)))) ?_
  refine dss_cons (ds_set (i := 4) sc_law_task.nd rfl (Or.inl rfl) (de_lst true da_nil)) ?_
  refine dss_cons (ds_for hp rfl (di_range1 rfl T.b_range (da_cons (dv 1) da_nil)) (dg_name (i := 5) sc_law_task.nd rfl (Or.inl rfl)) (dss_one (ds_for hp rfl (di_range1 rfl T.b_range (da_cons (dv 1) da_nil)) (dg_name (i := 6) sc_law_task.nd rfl (Or.inl rfl)) (dss_cons (ds_set (i := 7) sc_law_task.nd rfl (Or.inl rfl) (de_cmp op_lt od_cmpI (de_call c_law_draw_ok (hr.mono (by decide)) rfl c_law_draw_g c_law_draw_kp c_law_draw_b .nil (fun _ => .nil) tk (da_cons (dv 0) (da_cons de_int da_nil))) (dv 3) (nomark _)))
    (dss_cons (ds_set (i := 8) sc_law_task.nd rfl (Or.inl rfl) (de_add false de_int (de_call c_law_draw_ok (hr.mono (by decide)) rfl c_law_draw_g c_law_draw_kp c_law_draw_b .nil (fun _ => .nil) tk (da_cons (dv 0) (da_cons de_int da_nil)))))
    (dss_one (ds_if (dt_w (dw_and (dt_tru (dv 7)) (dw_and1 (dt_cmp op_lt od_cmpI (de_callB call_len cd_len rfl T.b_len (by decide +kernel) (da_cons (dv 4) da_nil)) de_int (nomark _))))) (dss_one (ds_expr (de_bm PySem.F.plainAttrs_list PySem.F.slot_list_append PySem.F.type_list_append mt_append md_append (dv 4) (da_cons (de_tup (da_cons (de_ix (dv 2) (dv 5)) (da_cons (de_ix (dv 2) (dv 6)) (da_cons (dv 8) da_nil)))) da_nil)))) dss_nil))))))) ?_
  refine dss_frz 4 ?_
  refine dss_cons (ds_set (i := 9) sc_law_task.nd rfl (Or.inl rfl) de_int) ?_
  refine dss_cons (ds_set (i := 10) sc_law_task.nd rfl (Or.inl rfl) de_int) ?_
  refine dss_cons (ds_if (dt_cmp (op_eqA hr.units) od_eq (dv 4) (de_lst false da_nil) (nomark _)) (dss_cons (ds_set (i := 9) sc_law_task.nd rfl (Or.inl rfl) de_int)
    (dss_one (ds_set (i := 10) sc_law_task.nd rfl (Or.inl rfl) de_int))) dss_nil) ?_
  refine dss_cons (ds_set (i := 11) sc_law_task.nd rfl (Or.inl rfl) (de_lst true da_nil)) ?_
  refine dss_cons (ds_for hp rfl (di_list (dv 2)) (dg_name (i := 12) sc_law_task.nd rfl (Or.inl rfl)) (dss_cons (ds_set (i := 13) sc_law_task.nd rfl (Or.inl rfl) (de_add false de_int (de_call c_law_draw_ok (hr.mono (by decide)) rfl c_law_draw_g c_law_draw_kp c_law_draw_b .nil (fun _ => .nil) tk (da_cons (dv 0) (da_cons (dv 9) da_nil)))))
    (dss_one (ds_expr (de_bm PySem.F.plainAttrs_list PySem.F.slot_list_append PySem.F.type_list_append mt_append md_append (dv 11) (da_cons (de_tup (da_cons (dv 12) (da_cons (dv 13) (da_cons (de_add false de_int (de_call c_law_draw_ok (hr.mono (by decide)) rfl c_law_draw_g c_law_draw_kp c_law_draw_b .nil (fun _ => .nil) tk (da_cons (dv 0) (da_cons (dv 10) da_nil)))) da_nil)))) da_nil)))))) ?_
  refine dss_frz 11 ?_
  exact dss_one (ds_ret (de_lst false (da_cons (de_ix (dv 2) (de_call c_law_draw_ok (hr.mono (by decide)) rfl c_law_draw_g c_law_draw_kp c_law_draw_b .nil (fun _ => .nil) tk (da_cons (dv 0) (da_cons (dv 1) da_nil)))) (da_cons (dv 11) (da_cons (dv 4) da_nil)))))

theorem ok_law_walk {P : Program} {w : World} {K : PySem.W.Frag} {mg : Str → Option Value} {base : Heap} (T : Txt K mg) (TB : TabBs K mg base) (c_law_draw : Good P w K mg base 1 (some "_law_draw") (ga K "_law_draw") ["_law_source_here", "_law_limit"] (sp_law_draw K)) : Good P w K mg base 2 (some "_law_walk") (ga K "_law_walk") ["_law_source_here", "_law_task_here", "_law_parts"] (sp_law_walk K) := by
  obtain ⟨_, c_law_draw_ok, c_law_draw_b, c_law_draw_kp⟩ := c_law_draw.ex
  have c_law_draw_g := c_law_draw.gl
  obtain ⟨fd, F⟩ := T.d_law_walk
  refine ⟨⟨fd, fn_d (k := 1) F sc_law_walk len_law_walk (t_law_walk K) (fun cdv A outer s H E WD hr tk hp => ?_) (pure_law_walk T), F.bindsN fun _ _ _ _ _ _ us hl => match us, hl with | [_, _, _], _ => rfl, F.kp⟩, T.g_law_walk⟩
  refine dss_cons (ds_set (i := 3) sc_law_walk.nd rfl (Or.inl rfl) (de_ix (dv 1) de_int)) ?_
  refine dss_cons (ds_set (i := 4) sc_law_walk.nd rfl (Or.inl rfl) (de_lst true da_nil)) ?_
  refine dss_cons (ds_set (i := 5) sc_law_walk.nd rfl (Or.inr rfl) (de_ix (dv 3) (de_call c_law_draw_ok (hr.mono (by decide)) rfl c_law_draw_g c_law_draw_kp c_law_draw_b .nil (fun _ => .nil) tk (da_cons (dv 0) (da_cons (de_callB call_len cd_len rfl T.b_len (by decide +kernel) (da_cons (dv 3) da_nil)) da_nil))))) ?_
  refine dss_cons (ds_set (i := 6) sc_law_walk.nd rfl (Or.inl rfl) (de_call c_law_draw_ok (hr.mono (by decide)) rfl c_law_draw_g c_law_draw_kp c_law_draw_b .nil (fun _ => .nil) tk (da_cons (dv 0) (da_cons de_int da_nil)))) ?_
  refine dss_cons (ds_for hp rfl (di_range1 rfl T.b_range (da_cons (de_call c_law_draw_ok (hr.mono (by decide)) rfl c_law_draw_g c_law_draw_kp c_law_draw_b .nil (fun _ => .nil) tk (da_cons (dv 0) (da_cons de_int da_nil))) da_nil)) (dg_name (i := 7) sc_law_walk.nd rfl (Or.inl rfl)) (dss_cons (ds_set (i := 8) sc_law_walk.nd rfl (Or.inl rfl) (de_add false de_int (de_call c_law_draw_ok (hr.mono (by decide)) rfl c_law_draw_g c_law_draw_kp c_law_draw_b .nil (fun _ => .nil) tk (da_cons (dv 0) (da_cons (de_mul false (de_ix (dv 5) de_int) (dv 2)) da_nil)))))
    (dss_cons (ds_if (dt_cmp (op_eqA hr.units) od_eq (de_call c_law_draw_ok (hr.mono (by decide)) rfl c_law_draw_g c_law_draw_kp c_law_draw_b .nil (fun _ => .nil) tk (da_cons (dv 0) (da_cons de_int da_nil))) de_int (nomark _)) (dss_one (ds_set (i := 8) sc_law_walk.nd rfl (Or.inl rfl) (de_mul false (de_ix (dv 5) de_int) (dv 2)))) dss_nil)
    (dss_cons (ds_expr (de_bm PySem.F.plainAttrs_list PySem.F.slot_list_append PySem.F.type_list_append mt_append md_append (dv 4) (da_cons (de_tup (da_cons (de_ix (dv 5) de_int) (da_cons (dv 6) (da_cons (dv 8) da_nil)))) da_nil)))
    (dss_cons (ds_setLc false (i := 9) (hy := rfl) (hyl := rfl) (hsw := sw_true rfl rfl rfl (by decide +kernel)) (hc := rfl) (hN := sc_law_walk.nd) (own := [("_law_arrow", 10)]) (c := .one 10) (te := dVar 10) (tt := dTest (dOp dEq (dOp dIx (dVar 10) (dC (.int 0))) (dOp dIx (dVar 5) (dC (.int 0))))) (by simp [CT.in]) (di_list (de_ix (dv 1) de_int)) (blkOk_by (own := [("_law_arrow", 10)]) (N := nm_law_walk) (sc := defScope s_law_walk) (by decide +kernel)) (fun _ _ _ _ _ => pg_ct1 (i := 10) sc_law_walk.nd rfl (Or.inl rfl)) (fun _ _ _ _ _ => dts_one (dt_cmp (op_eqA hr.units) od_eq (de_ix (dv 10) de_int) (de_ix (dv 5) de_int) (nomark _))) (fun _ _ _ _ _ => dv 10))
    (dss_cons (ds_if (dt_cmp (op_eqA hr.units) od_eq (dv 9) (de_lst false da_nil) (nomark _)) (dss_one (ds_ret (de_frz (dv 4)))) dss_nil)
    (dss_cons (ds_set (i := 10) sc_law_walk.nd rfl (Or.inr rfl) (de_ix (dv 9) (de_call c_law_draw_ok (hr.mono (by decide)) rfl c_law_draw_g c_law_draw_kp c_law_draw_b .nil (fun _ => .nil) tk (da_cons (dv 0) (da_cons (de_callB call_len cd_len rfl T.b_len (by decide +kernel) (da_cons (dv 9) da_nil)) da_nil)))))
    (dss_cons (ds_set (i := 6) sc_law_walk.nd rfl (Or.inl rfl) (de_add false (de_add false (dv 6) (de_mul false (de_ix (dv 10) de_int) (dv 2))) (de_mul false (de_call c_law_draw_ok (hr.mono (by decide)) rfl c_law_draw_g c_law_draw_kp c_law_draw_b .nil (fun _ => .nil) tk (da_cons (dv 0) (da_cons de_int da_nil))) (de_call c_law_draw_ok (hr.mono (by decide)) rfl c_law_draw_g c_law_draw_kp c_law_draw_b .nil (fun _ => .nil) tk (da_cons (dv 0) (da_cons de_int da_nil))))))
    (dss_one (ds_set (i := 5) sc_law_walk.nd rfl (Or.inr rfl) (de_ix (de_lc false (own := [("_law_row", 11)]) (c := .one 11) (te := dVar 11) (tt := dTest (dOp dEq (dOp dIx (dVar 11) (dC (.int 0))) (dOp dIx (dVar 10) (dC (.int 1))))) rfl sc_law_walk.nd (by simp [CT.in]) (di_list (dv 3)) (blkOk_by (own := [("_law_row", 11)]) (N := nm_law_walk) (sc := defScope s_law_walk) (by decide +kernel)) (fun _ _ _ _ _ => pg_ct1 (i := 11) sc_law_walk.nd rfl (Or.inl rfl)) (fun _ _ _ _ _ => dts_one (dt_cmp (op_eqA hr.units) od_eq (de_ix (dv 11) de_int) (de_ix (dv 10) de_int) (nomark _))) (fun _ _ _ _ _ => dv 11)) de_int))))))))))) ?_
  exact dss_one (ds_ret (de_frz (dv 4)))

theorem ok_law_distinct {P : Program} {w : World} {K : PySem.W.Frag} {mg : Str → Option Value} {base : Heap} (T : Txt K mg) (TB : TabBs K mg base)  : Good P w K mg base 1 (some "_law_distinct") (ga K "_law_distinct") ["_law_values"] (sp_law_distinct K) := by
  obtain ⟨fd, F⟩ := T.d_law_distinct
  refine ⟨⟨fd, fn_d (k := 0) F sc_law_distinct len_law_distinct (t_law_distinct K) (fun cdv A outer s H E WD hr tk hp => ?_) (pure_law_distinct T), F.bindsN fun _ _ _ _ _ _ us hl => match us, hl with | [_], _ => rfl, F.kp⟩, T.g_law_distinct⟩
  refine dss_cons (ds_set (i := 1) sc_law_distinct.nd rfl (Or.inl rfl) (de_lst true da_nil)) ?_
  refine dss_cons (ds_for hp rfl (di_list (de_callB cr_sortedI (cd_sorted false) rfl T.b_sorted (by decide +kernel) (da_cons (dv 0) da_nil))) (dg_name (i := 2) sc_law_distinct.nd rfl (Or.inl rfl)) (dss_one (ds_if (dt_w (dw_or (dt_cmp (op_eqZ hr.units) od_eqZ (dv 1) (de_lst false da_nil) (nomark _)) (dw_or1 (dt_cmp (op_neA hr.units) od_ne (de_ix (dv 1) (de_neg de_int)) (dv 2) (nomark _))))) (dss_one (ds_expr (de_bm PySem.F.plainAttrs_list PySem.F.slot_list_append PySem.F.type_list_append mt_append md_append (dv 1) (da_cons (dv 2) da_nil)))) dss_nil))) ?_
  exact dss_one (ds_ret (de_frz (dv 1)))

theorem ok_law_demands {P : Program} {w : World} {K : PySem.W.Frag} {mg : Str → Option Value} {base : Heap} (T : Txt K mg) (TB : TabBs K mg base) (c_law_distinct : Good P w K mg base 1 (some "_law_distinct") (ga K "_law_distinct") ["_law_values"] (sp_law_distinct K)) : Good P w K mg base 2 (some "_law_demands") (ga K "_law_demands") ["_law_jobs"] (sp_law_demands K) := by
  obtain ⟨_, c_law_distinct_ok, c_law_distinct_b, c_law_distinct_kp⟩ := c_law_distinct.ex
  have c_law_distinct_g := c_law_distinct.gl
  obtain ⟨fd, F⟩ := T.d_law_demands
  refine ⟨⟨fd, fn_d (k := 1) F sc_law_demands len_law_demands (t_law_demands K) (fun cdv A outer s H E WD hr tk hp => ?_) (pure_law_demands T), F.bindsN fun _ _ _ _ _ _ us hl => match us, hl with | [_], _ => rfl, F.kp⟩, T.g_law_demands⟩
  refine dss_cons (ds_set (i := 1) sc_law_demands.nd rfl (Or.inl rfl) (de_lst true da_nil)) ?_
  refine dss_cons (ds_for hp rfl (di_list (de_call c_law_distinct_ok (hr.mono (by decide)) rfl c_law_distinct_g c_law_distinct_kp c_law_distinct_b .nil (fun _ => .nil) tk (da_cons (de_lc false (own := [("_law_job", 3)]) (c := .one 3) (te := dOp dIx (dVar 3) (dC (.int 3))) (tt := dYes) rfl sc_law_demands.nd (by simp [CT.in]) (di_list (dv 0)) (blkOk_by (own := [("_law_job", 3)]) (N := nm_law_demands) (sc := defScope s_law_demands) (by decide +kernel)) (fun _ _ _ _ _ => pg_ct1 (i := 3) sc_law_demands.nd rfl (Or.inl rfl)) (fun _ _ _ _ _ => dts_nil) (fun _ _ _ _ _ => de_ix (dv 3) de_int)) da_nil))) (dg_name (i := 2) sc_law_demands.nd rfl (Or.inr rfl)) (dss_one (ds_for hp rfl (di_list (de_call c_law_distinct_ok (hr.mono (by decide)) rfl c_law_distinct_g c_law_distinct_kp c_law_distinct_b .nil (fun _ => .nil) tk (da_cons (de_lc false (own := [("_law_job", 3)]) (c := .one 3) (te := dOp dIx (dVar 3) (dC (.int 5))) (tt := dYes) rfl sc_law_demands.nd (by simp [CT.in]) (di_list (dv 0)) (blkOk_by (own := [("_law_job", 3)]) (N := nm_law_demands) (sc := defScope s_law_demands) (by decide +kernel)) (fun _ _ _ _ _ => pg_ct1 (i := 3) sc_law_demands.nd rfl (Or.inl rfl)) (fun _ _ _ _ _ => dts_nil) (fun _ _ _ _ _ => de_ix (dv 3) de_int)) da_nil))) (dg_name (i := 4) sc_law_demands.nd rfl (Or.inr rfl)) (dss_cons (ds_set (i := 5) sc_law_demands.nd rfl (Or.inl rfl) (de_callB (cr_sum rfl) cd_sum rfl T.b_sum (by decide +kernel) (da_cons (de_lc false (own := [("_law_job", 3)]) (c := .one 3) (te := dOp dIx (dVar 3) (dC (.int 4))) (tt := dAnd (dTest (dOp dLe (dVar 2) (dOp dIx (dVar 3) (dC (.int 3))))) (dTest (dOp dLe (dOp dIx (dVar 3) (dC (.int 5))) (dVar 4)))) rfl sc_law_demands.nd (by simp [CT.in]) (di_list (dv 0)) (blkOk_by (own := [("_law_job", 3)]) (N := nm_law_demands) (sc := defScope s_law_demands) (by decide +kernel)) (fun _ _ _ _ _ => pg_ct1 (i := 3) sc_law_demands.nd rfl (Or.inl rfl)) (fun _ _ _ _ _ => dts_one (dt_w (dw_and (dt_cmp op_le od_cmpI (dv 2) (de_ix (dv 3) de_int) (nomark _)) (dw_and1 (dt_cmp op_le od_cmpI (de_ix (dv 3) de_int) (dv 4) (nomark _)))))) (fun _ _ _ _ _ => de_ix (dv 3) de_int)) da_nil)))
    (dss_one (ds_if (dt_cmp op_gt od_cmpI (dv 5) de_int (nomark _)) (dss_one (ds_expr (de_bm PySem.F.plainAttrs_list PySem.F.slot_list_append PySem.F.type_list_append mt_append md_append (dv 1) (da_cons (de_tup (da_cons (dv 2) (da_cons (dv 4) (da_cons (dv 5) da_nil)))) da_nil)))) dss_nil)))))) ?_
  exact dss_one (ds_ret (de_frz (dv 1)))

theorem ok_law_heaviest {P : Program} {w : World} {K : PySem.W.Frag} {mg : Str → Option Value} {base : Heap} (T : Txt K mg) (TB : TabBs K mg base)  : Good P w K mg base 1 (some "_law_heaviest") (ga K "_law_heaviest") ["_law_rows", "_law_pace"] (sp_law_heaviest K) := by
  obtain ⟨fd, F⟩ := T.d_law_heaviest
  refine ⟨⟨fd, fn_d (k := 0) F sc_law_heaviest len_law_heaviest (t_law_heaviest K) (fun cdv A outer s H E WD hr tk hp => ?_) (pure_law_heaviest T), F.bindsN fun _ _ _ _ _ _ us hl => match us, hl with | [_, _], _ => rfl, F.kp⟩, T.g_law_heaviest⟩
  refine dss_cons (ds_set (i := 2) sc_law_heaviest.nd rfl (Or.inl rfl) de_non) ?_
  refine dss_cons (ds_for hp rfl (di_list (dv 0)) (dg_tup rfl (dgs_cons (dg_name (i := 3) sc_law_heaviest.nd rfl (Or.inl rfl)) (dgs_cons (dg_name (i := 4) sc_law_heaviest.nd rfl (Or.inl rfl)) (dgs_cons (dg_name (i := 5) sc_law_heaviest.nd rfl (Or.inl rfl)) dgs_nil)))) (dss_cons (ds_set (i := 6) sc_law_heaviest.nd rfl (Or.inl rfl) (de_sub (dv 5) (de_mul false (de_sub (dv 4) (dv 3)) (dv 1))))
    (dss_one (ds_if (dt_w (dw_or (dt_cmp op_isN od_isN (dv 2) de_non (nomark _)) (dw_or1 (dt_cmp op_gt od_cmpI (dv 6) (de_ix (dv 2) de_int) (nomark _))))) (dss_one (ds_set (i := 2) sc_law_heaviest.nd rfl (Or.inl rfl) (de_tup (da_cons (dv 6) (da_cons (dv 3) (da_cons (dv 4) da_nil)))))) dss_nil)))) ?_
  exact dss_one (ds_ret (dv 2))

theorem ok_law_outcome {P : Program} {w : World} {K : PySem.W.Frag} {mg : Str → Option Value} {base : Heap} (T : Txt K mg) (TB : TabBs K mg base) (c_heaviest_interval : GoodK P w K mg base 5 (some "heaviest_interval") (ga K "heaviest_interval") ["run", "speed"] (sp_heaviest_interval K) 1 ["speed"] [.int 1]) : Good P w K mg base 6 (some "_law_outcome") (ga K "_law_outcome") ["_law_run", "_law_pace"] (sp_law_outcome K) := by
  obtain ⟨_, c_heaviest_interval_ok, c_heaviest_interval_kp, c_heaviest_interval_kb, _, _, c_heaviest_interval_dv, c_heaviest_interval_b, c_heaviest_interval_dd⟩ := c_heaviest_interval.ex
  have c_heaviest_interval_g := c_heaviest_interval.gl
  obtain ⟨fd, F⟩ := T.d_law_outcome
  refine ⟨⟨fd, fn_d (k := 5) F sc_law_outcome len_law_outcome (t_law_outcome K) (fun cdv A outer s H E WD hr tk hp => ?_) (pure_law_outcome T), F.bindsN fun _ _ _ _ _ _ us hl => match us, hl with | [_, _], _ => rfl, F.kp⟩, T.g_law_outcome⟩
  exact dss_one (ds_try_as (i := 2) (tb := fun WDx1 => dRet (dCallN 1 1 (sp_heaviest_interval K) WDx1 (daCons (dVar 0) daNil) (daCons (dVar 1) daNil))) (ts := fun ea ec ed => dRet (dTup (daCons (dXf ea ec ed (ga K "OutOfRange") "what" (dVar 2)) (daCons (dXf ea ec ed (ga K "OutOfRange") "value" (dVar 2)) daNil)))) rfl rfl sc_law_outcome.nd rfl rfl T.g_OutOfRange rfl tk (fun W WDx1 pn xe tk hp => dss_one (ds_ret (de_callN (n := 1) c_heaviest_interval_ok (hr.mono (by decide)) rfl c_heaviest_interval_g c_heaviest_interval_kp c_heaviest_interval_kb tk (da_cons (dv 0) da_nil) (dk_cons (dv 1) dk_nil)))) (fun ea oe ec ed pn hz hv => dss_one (ds_ret (de_tup (da_cons (de_xf T.xf_OutOfRange T.nf_OutOfRange_what hz hv (dv 2)) (da_cons (de_xf T.xf_OutOfRange T.nf_OutOfRange_value hz hv (dv 2)) da_nil))))))

theorem law_ok {l : PySem.W.OpenLaw} {w : World} {K : PySem.W.Frag} {mg : Str → Option Value} {base : Heap} {fd : FuncData} (T : Txt K mg) (TB : TabBs K mg base) (F : FunD K "law" "law" (defArgs s_law) (defBody s_law) (defScope s_law) [] [] (ga K "law") fd) : FnOk l.prog w K mg base CX0 9 (ga K "law") fd ["_law_script"] (liftSp K spLaw) := by
  have c_law_source : Good l.prog w K mg base 1 (some "_law_source") (ga K "_law_source") ["_law_cell_here"] (sp_law_source K) := ok_law_source T TB
  have c_law_cell : Good l.prog w K mg base 1 (some "_law_cell") (ga K "_law_cell") ["_law_script", "_law_place"] (sp_law_cell K) := ok_law_cell T TB
  have c_law_draw : Good l.prog w K mg base 1 (some "_law_draw") (ga K "_law_draw") ["_law_source_here", "_law_limit"] (sp_law_draw K) := ok_law_draw T TB
  have c_law_names : Good l.prog w K mg base 2 (some "_law_names") (ga K "_law_names") ["_law_source_here", "_law_many"] (sp_law_names K) := ok_law_names T TB c_law_draw
  have c_law_task : Good l.prog w K mg base 3 (some "_law_task") (ga K "_law_task") ["_law_source_here"] (sp_law_task K) := ok_law_task T TB c_law_draw c_law_names
  have c_law_walk : Good l.prog w K mg base 2 (some "_law_walk") (ga K "_law_walk") ["_law_source_here", "_law_task_here", "_law_parts"] (sp_law_walk K) := ok_law_walk T TB c_law_draw
  have c_check_counts : Good l.prog w K mg base 3 (some "check_counts") (ga K "check_counts") ["tasks", "walks", "grain"] (sp_check_counts K) := ok_check_counts T TB
  have c_Task_row_of : Good l.prog w K mg base 3 none (ma K (ga K "Task") "row_of") ["self", "kind"] (sp_Task_row_of K) := ok_Task_row_of T TB
  have c_Task_cost_of : Good l.prog w K mg base 4 none (ma K (ga K "Task") "cost_of") ["self", "kind"] (sp_Task_cost_of K) := ok_Task_cost_of T TB c_Task_row_of
  have c_Task_followers : Good l.prog w K mg base 4 none (ma K (ga K "Task") "followers") ["self", "kind"] (sp_Task_followers K) := ok_Task_followers T TB c_Task_row_of
  have c_gap_between : Good l.prog w K mg base 5 (some "gap_between") (ga K "gap_between") ["task", "first", "second"] (sp_gap_between K) := ok_gap_between T TB c_Task_followers
  have c_check_job : Good l.prog w K mg base 6 (some "check_job") (ga K "check_job") ["task", "walk", "index", "place", "grain"] (sp_check_job K) := ok_check_job T TB c_Task_cost_of c_gap_between
  have c_Task_deadline_of : Good l.prog w K mg base 4 none (ma K (ga K "Task") "deadline_of") ["self", "kind"] (sp_Task_deadline_of K) := ok_Task_deadline_of T TB c_Task_row_of
  have c_Run_init : GoodK l.prog w K mg base 7 none (ma K (ga K "Run") "__init__") ["self", "tasks", "walks", "grain"] (sp_Run_init K) 3 ["grain"] [.int 1] := ok_Run_init T TB c_check_counts c_check_job c_Task_deadline_of
  have c_is_name : Good l.prog w K mg base 1 (some "is_name") (ga K "is_name") ["text"] (sp_is_name K) := ok_is_name T TB
  have c_need_name : Good l.prog w K mg base 2 (some "need_name") (ga K "need_name") ["text"] (sp_need_name K) := ok_need_name T TB c_is_name
  have c_need_range : Good l.prog w K mg base 1 (some "need_range") (ga K "need_range") ["what", "value", "least", "most"] (sp_need_range K) := ok_need_range T TB
  have c_checked_kinds : Good l.prog w K mg base 3 (some "checked_kinds") (ga K "checked_kinds") ["kinds", "branching"] (sp_checked_kinds K) := ok_checked_kinds T TB c_need_name c_need_range
  have c_need_kind : Good l.prog w K mg base 1 (some "need_kind") (ga K "need_kind") ["name", "kind_rows"] (sp_need_kind K) := ok_need_kind T TB
  have c_checked_arrows : Good l.prog w K mg base 2 (some "checked_arrows") (ga K "checked_arrows") ["arrows", "kind_rows"] (sp_checked_arrows K) := ok_checked_arrows T TB c_need_kind c_need_range
  have c_Task_init : GoodD l.prog w K mg base 4 none (ma K (ga K "Task") "__init__") ["self", "name", "kinds", "arrows"] (sp_Task_init K) [.tup []] := ok_Task_init T TB c_need_name c_checked_kinds c_checked_arrows
  have c_Run_jobs : Good l.prog w K mg base 1 none (wad K "property" "Run" "jobs") ["self"] (sp_Run_jobs K) := ok_Run_jobs T TB
  have c_law_distinct : Good l.prog w K mg base 1 (some "_law_distinct") (ga K "_law_distinct") ["_law_values"] (sp_law_distinct K) := ok_law_distinct T TB
  have c_law_demands : Good l.prog w K mg base 2 (some "_law_demands") (ga K "_law_demands") ["_law_jobs"] (sp_law_demands K) := ok_law_demands T TB c_law_distinct
  have c_costs_by_due : Good l.prog w K mg base 1 (some "costs_by_due") (ga K "costs_by_due") ["jobs", "start"] (sp_costs_by_due K) := ok_costs_by_due T TB
  have c_interval_demands : GoodG l.prog w K mg base 3 "interval_demands" (ga K "interval_demands") ["run"] (sp_interval_demands K) := ok_interval_demands T TB c_Run_jobs c_costs_by_due
  have c_check_speed : Good l.prog w K mg base 3 (some "check_speed") (ga K "check_speed") ["speed"] (sp_check_speed K) := ok_check_speed T TB
  have c_heaviest_interval : GoodK l.prog w K mg base 5 (some "heaviest_interval") (ga K "heaviest_interval") ["run", "speed"] (sp_heaviest_interval K) 1 ["speed"] [.int 1] := ok_heaviest_interval T TB c_check_speed c_interval_demands
  have c_law_outcome : Good l.prog w K mg base 6 (some "_law_outcome") (ga K "_law_outcome") ["_law_run", "_law_pace"] (sp_law_outcome K) := ok_law_outcome T TB c_heaviest_interval
  have c_law_heaviest : Good l.prog w K mg base 1 (some "_law_heaviest") (ga K "_law_heaviest") ["_law_rows", "_law_pace"] (sp_law_heaviest K) := ok_law_heaviest T TB
  obtain ⟨_, c_law_source_ok, c_law_source_b, c_law_source_kp⟩ := c_law_source.ex
  have c_law_source_g := c_law_source.gl
  obtain ⟨_, c_law_cell_ok, c_law_cell_b, c_law_cell_kp⟩ := c_law_cell.ex
  have c_law_cell_g := c_law_cell.gl
  obtain ⟨_, c_law_draw_ok, c_law_draw_b, c_law_draw_kp⟩ := c_law_draw.ex
  have c_law_draw_g := c_law_draw.gl
  obtain ⟨_, c_law_task_ok, c_law_task_b, c_law_task_kp⟩ := c_law_task.ex
  have c_law_task_g := c_law_task.gl
  obtain ⟨_, c_law_walk_ok, c_law_walk_b, c_law_walk_kp⟩ := c_law_walk.ex
  have c_law_walk_g := c_law_walk.gl
  obtain ⟨_, c_Run_init_ok, c_Run_init_kp, c_Run_init_kb, _, _, c_Run_init_dv, c_Run_init_b, c_Run_init_dd⟩ := c_Run_init.ex
  have c_Run_init_g := c_Run_init.gl
  obtain ⟨_, c_Task_init_ok, c_Task_init_kp, c_Task_init_b, _, _, c_Task_init_dv, c_Task_init_db, c_Task_init_dd⟩ := c_Task_init.ex
  have c_Task_init_g := c_Task_init.gl
  obtain ⟨_, c_Run_jobs_ok, c_Run_jobs_b, c_Run_jobs_kp⟩ := c_Run_jobs.ex
  have c_Run_jobs_g := c_Run_jobs.gl
  obtain ⟨_, c_law_demands_ok, c_law_demands_b, c_law_demands_kp⟩ := c_law_demands.ex
  have c_law_demands_g := c_law_demands.gl
  obtain ⟨_, c_interval_demands_ok, c_interval_demands_b, c_interval_demands_kp⟩ := c_interval_demands.ex
  have c_interval_demands_g := c_interval_demands.gl
  obtain ⟨_, c_law_outcome_ok, c_law_outcome_b, c_law_outcome_kp⟩ := c_law_outcome.ex
  have c_law_outcome_g := c_law_outcome.gl
  obtain ⟨_, c_law_heaviest_ok, c_law_heaviest_b, c_law_heaviest_kp⟩ := c_law_heaviest.ex
  have c_law_heaviest_g := c_law_heaviest.gl
  obtain ⟨_, c_heaviest_interval_ok, c_heaviest_interval_kp, c_heaviest_interval_kb, _, _, c_heaviest_interval_dv, c_heaviest_interval_b, c_heaviest_interval_dd⟩ := c_heaviest_interval.ex
  have c_heaviest_interval_g := c_heaviest_interval.gl
  refine fn_d0 (k := 8) F sc_law (spLaw_len _) (t_law K) (fun cdv A outer s H E hr tk hp => ?_) (fun ds m Q E h => pure_law T ds m Q (fun _ _ => False) h)
  refine dss_cons (ds_set (i := 1) sc_law.nd rfl (Or.inl rfl) (de_call c_law_source_ok (hr.mono (by decide)) rfl c_law_source_g c_law_source_kp c_law_source_b .nil (fun _ => .nil) tk (da_cons (de_call c_law_cell_ok (hr.mono (by decide)) rfl c_law_cell_g c_law_cell_kp c_law_cell_b .nil (fun _ => .nil) tk (da_cons (dv 0) (da_cons de_int da_nil))) da_nil))) ?_
  refine dss_cons (ds_set (i := 2) sc_law.nd rfl (Or.inl rfl) (de_lst true da_nil)) ?_
  refine dss_cons (ds_for hp rfl (di_range1 rfl T.b_range (da_cons (de_add false de_int (de_call c_law_draw_ok (hr.mono (by decide)) rfl c_law_draw_g c_law_draw_kp c_law_draw_b .nil (fun _ => .nil) tk (da_cons (dv 1) (da_cons de_int da_nil)))) da_nil)) (dg_name (i := 3) sc_law.nd rfl (Or.inl rfl)) (dss_one (ds_expr (de_bm PySem.F.plainAttrs_list PySem.F.slot_list_append PySem.F.type_list_append mt_append md_append (dv 2) (da_cons (de_call c_law_task_ok (hr.mono (by decide)) rfl c_law_task_g c_law_task_kp c_law_task_b .nil (fun _ => .nil) tk (da_cons (dv 1) da_nil)) da_nil))))) ?_
  refine dss_frz 2 ?_
  refine dss_cons (ds_set (i := 1) sc_law.nd rfl (Or.inl rfl) (de_call c_law_source_ok (hr.mono (by decide)) rfl c_law_source_g c_law_source_kp c_law_source_b .nil (fun _ => .nil) tk (da_cons (de_call c_law_cell_ok (hr.mono (by decide)) rfl c_law_cell_g c_law_cell_kp c_law_cell_b .nil (fun _ => .nil) tk (da_cons (dv 0) (da_cons de_int da_nil))) da_nil))) ?_
  refine dss_cons (ds_set (i := 4) sc_law.nd rfl (Or.inl rfl) (de_add false de_int (de_call c_law_draw_ok (hr.mono (by decide)) rfl c_law_draw_g c_law_draw_kp c_law_draw_b .nil (fun _ => .nil) tk (da_cons (dv 1) (da_cons de_int da_nil))))) ?_
  refine dss_cons (ds_set (i := 5) sc_law.nd rfl (Or.inl rfl) (de_ix (de_lst false (da_cons de_int (da_cons de_int (da_cons (dv 4) (da_cons (dv 4) (da_cons de_int (da_cons de_int da_nil))))))) (de_call c_law_draw_ok (hr.mono (by decide)) rfl c_law_draw_g c_law_draw_kp c_law_draw_b .nil (fun _ => .nil) tk (da_cons (dv 1) (da_cons de_int da_nil))))) ?_
  refine dss_cons (ds_set (i := 6) sc_law.nd rfl (Or.inl rfl) (de_add false de_int (de_call c_law_draw_ok (hr.mono (by decide)) rfl c_law_draw_g c_law_draw_kp c_law_draw_b .nil (fun _ => .nil) tk (da_cons (dv 1) (da_cons de_int da_nil))))) ?_
  refine dss_cons (ds_if (dt_cmp (op_eqA hr.units) od_eq (de_call c_law_draw_ok (hr.mono (by decide)) rfl c_law_draw_g c_law_draw_kp c_law_draw_b .nil (fun _ => .nil) tk (da_cons (dv 1) (da_cons de_int da_nil))) de_int (nomark _)) (dss_one (ds_set (i := 6) sc_law.nd rfl (Or.inl rfl) de_int)) dss_nil) ?_
  refine dss_cons (ds_set (i := 7) sc_law.nd rfl (Or.inl rfl) (de_lst true da_nil)) ?_
  refine dss_cons (ds_for hp rfl (di_list (dv 2)) (dg_name (i := 8) sc_law.nd rfl (Or.inl rfl)) (dss_one (ds_expr (de_bm PySem.F.plainAttrs_list PySem.F.slot_list_append PySem.F.type_list_append mt_append md_append (dv 7) (da_cons (de_call c_law_walk_ok (hr.mono (by decide)) rfl c_law_walk_g c_law_walk_kp c_law_walk_b .nil (fun _ => .nil) tk (da_cons (dv 1) (da_cons (dv 8) (da_cons (dv 6) da_nil)))) da_nil))))) ?_
  refine dss_frz 7 ?_
  refine dss_cons (ds_set (i := 9) sc_law.nd rfl (Or.inl rfl) (de_makeN (n := 2) T.mk_Run c_Run_init_ok (hr.mono (by decide)) rfl T.g_Run c_Run_init_kb tk (none_of none_Run_init) (da_cons (de_lc false (own := [("_law_task_here", 8)]) (c := .one 8) (te := dMake (ga K "Task") (sp_Task_init K) WD0 [] (daCons (dOp dIx (dVar 8) (dC (.int 0))) (daCons (dOp dIx (dVar 8) (dC (.int 1))) (daCons (dOp dIx (dVar 8) (dC (.int 2))) daNil)))) (tt := dYes) rfl sc_law.nd (by simp [CT.in]) (di_list (dv 2)) (blkOk_by (own := [("_law_task_here", 8)]) (N := nm_law) (sc := defScope s_law) (by decide +kernel)) (fun _ _ _ _ _ => pg_ct1 (i := 8) sc_law.nd rfl (Or.inl rfl)) (fun _ _ _ _ _ => dts_nil) (fun _ _ _ _ _ => de_make T.mk_Task c_Task_init_ok (hr.mono (by decide)) rfl T.g_Task c_Task_init_b .nil (fun _ => .nil) takes0 (none_of none_Task_init) (da_cons (de_ix (dv 8) de_int) (da_cons (de_ix (dv 8) de_int) (da_cons (de_ix (dv 8) de_int) da_nil))))) (da_cons (dv 7) da_nil)) (dk_cons (dv 6) dk_nil))) ?_
  refine dss_cons (ds_set (i := 10) sc_law.nd rfl (Or.inl rfl) (de_prop (dv 9) T.cl_Run T.p_Run_jobs c_Run_jobs_ok (hr.mono (by decide)) c_Run_jobs_b)) ?_
  refine dss_cons (ds_if (dt_cmp (op_neA hr.units) od_ne (de_callB call_len cd_len rfl T.b_len (by decide +kernel) (da_cons (dv 10) da_nil)) (de_callB (cr_sum rfl) cd_sum rfl T.b_sum (by decide +kernel) (da_cons (de_lc false (own := [("_law_walk_here", 11)]) (c := .one 11) (te := dCB dLen (daCons (dVar 11) daNil)) (tt := dYes) rfl sc_law.nd (by simp [CT.in]) (di_list (dv 7)) (blkOk_by (own := [("_law_walk_here", 11)]) (N := nm_law) (sc := defScope s_law) (by decide +kernel)) (fun _ _ _ _ _ => pg_ct1 (i := 11) sc_law.nd rfl (Or.inl rfl)) (fun _ _ _ _ _ => dts_nil) (fun _ _ _ _ _ => de_callB call_len cd_len rfl T.b_len (by decide +kernel) (da_cons (dv 11) da_nil))) da_nil)) (nomark _)) (dss_one (ds_ret de_bl)) dss_nil) ?_
  refine dss_cons (ds_set (i := 12) sc_law.nd rfl (Or.inl rfl) (de_call c_law_demands_ok (hr.mono (by decide)) rfl c_law_demands_g c_law_demands_kp c_law_demands_b .nil (fun _ => .nil) tk (da_cons (dv 10) da_nil))) ?_
  refine dss_cons (ds_if (dt_cmp (op_neA hr.units) od_ne (de_listG false c_interval_demands_ok rfl (hr.mono (by decide)) rfl c_interval_demands_g c_interval_demands_kp c_interval_demands_b (da_cons (dv 9) da_nil) rfl T.b_list (by decide +kernel)) (dv 12) (nomark _)) (dss_one (ds_ret de_bl)) dss_nil) ?_
  refine dss_cons (ds_if (dt_w (dw_or (dt_cmp (op_eqA hr.units) od_eq (dv 5) de_int (nomark _)) (dw_or1 (dt_cmp (op_eqA hr.units) od_eq (dv 5) de_int (nomark _))))) (dss_one (ds_ret (de_cmp (op_eqA hr.units) od_eq (de_call c_law_outcome_ok (hr.mono (by decide)) rfl c_law_outcome_g c_law_outcome_kp c_law_outcome_b .nil (fun _ => .nil) tk (da_cons (dv 9) (da_cons (dv 5) da_nil))) (de_tup (da_cons de_str (da_cons (dv 5) da_nil))) (nomark _)))) dss_nil) ?_
  refine dss_cons (ds_if (dt_cmp (op_neA hr.units) od_ne (de_call c_law_outcome_ok (hr.mono (by decide)) rfl c_law_outcome_g c_law_outcome_kp c_law_outcome_b .nil (fun _ => .nil) tk (da_cons (dv 9) (da_cons (dv 5) da_nil))) (de_call c_law_heaviest_ok (hr.mono (by decide)) rfl c_law_heaviest_g c_law_heaviest_kp c_law_heaviest_b .nil (fun _ => .nil) tk (da_cons (dv 12) (da_cons (dv 5) da_nil))) (nomark _)) (dss_one (ds_ret de_bl)) dss_nil) ?_
  exact dss_one (ds_ret (de_and (de_cmp (op_eqA hr.units) od_eq (de_call c_heaviest_interval_ok (hr.mono (by decide)) rfl c_heaviest_interval_g c_heaviest_interval_kp c_heaviest_interval_b c_heaviest_interval_dv c_heaviest_interval_dd tk (da_cons (dv 9) da_nil)) (de_call c_law_heaviest_ok (hr.mono (by decide)) rfl c_law_heaviest_g c_law_heaviest_kp c_law_heaviest_b .nil (fun _ => .nil) tk (da_cons (dv 12) (da_cons de_int da_nil))) (nomark _)) (de_one (de_cmp (op_eqA hr.units) od_eq (de_prop (dv 9) T.cl_Run T.p_Run_jobs c_Run_jobs_ok (hr.mono (by decide)) c_Run_jobs_b) (dv 10) (nomark _)))))

end LW

set_option Elab.async false
set_option linter.all false
set_option maxRecDepth 100000
set_option maxHeartbeats 0

open PySem PySem.W PySem.Calls PyProof.Rows in
set_option maxRecDepth 100000 in
set_option maxHeartbeats 0 in
theorem PySem.Challenge.cw_walkdues_k11_intervals_of_a_run_holds : PySem.Challenge.rw_walkdues_k11_intervals_of_a_run.Holds := by
  w_on; o_law
  refine LW.hd1 ?hw ?hc
  case hw => w_witness2
  case hc =>
    refine DL.walk_tab (l := PySem.Challenge.rw_walkdues_k11_intervals_of_a_run) (n := 63) (k := 9) (x := "_law_script") (CX := L2.CX0) rfl (by decide) (by kernel_rfl) ⟨rfl, by decide, by decide⟩ ?F (fun _ _ _ _ z => z)
    intro w mg fa h Y G hmg0
    obtain ⟨K, KX, c, tab⟩ := Y
    have hmg : mg ("law" : PySem.Str) = some (.ref fa) := by
      have e : (HandSHeadRun.topDef (OpenLaw.row PySem.Challenge.rw_walkdues_k11_intervals_of_a_run).prog 52).name = ("law" : PySem.Str) := by kernel_rfl
      rw [← e]
      exact hmg0
    have T : LW.Txt K mg := ⟨c, h, KX, G⟩
    have e := hmg.symm.trans T.g_law
    cases e
    obtain ⟨fd, F⟩ := T.d_law
    have b := L2.FunD.bindsA (ps := ["_law_script"]) F fun _ _ _ _ _ _ us hl => match us, hl with | [_], _ => rfl
    exact ⟨K, fd, DL.liftSp K DL.spLaw, KX, tab, fun s v => b s [v] rfl, fun H a ns hl hT hS => DL.law_sp H a ns hl hT hS, fun base _ _ TB => LW.law_ok T TB F⟩


