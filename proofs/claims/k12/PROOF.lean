import PyProof.Rows.All
import Wide.All
import OpenK.AllK
import Wide.FinOn
import HandS.ForMost
import HandS.ForExc
import HandS.TupAny
import HandS.Deep
import HandS.Wide
import HandS.WideBits
import KE.DataEq
import HandS.IsInst
import HandS.Defaults
import HandS.Walk
import KE.GoesZip
import KE.GoesEnum
import KE.GoesMore
import HandS.WordsDict
import HandS.Text
import HandS.Style
import HandS.SortInts
import HandS.Small
import HandS.ExcIs
import HandS.ExcField
import HandS.ExcInit
import HandS.ClsMeth
import HandS.TryMany
import HandS.WordsExc
import HandS.Head0
import HandS.Head1
import HandS.Head2
import HandS.HeadEnd
import HandS.HeadHook1
import HandS.HeadHook2
import HandS.HeadHook3
import HandS.HeadHook4
import HandS.Property
import HandS.MakeKwOnly
import KE.KFmtOwn
import HandS.DictComp
import HandS.RaiseMore
import HandS.Finally
import HandS.FStr
import KE.KCallOwn
import HandS.Conv
import HandS.TupMul
import PyProof.ListStr
import PyProof.ReprBulk
import PyProof.StrBlockL
import PyProof.Rows.ReprOcc
import Lean
import PySem.Challenge.RW_shortlog_k12_whole_machines_run
set_option Elab.async false
set_option linter.all false
set_option maxRecDepth 100000
set_option maxHeartbeats 4000000
/-! DL, part 0: data values, what they are in the abstract heap, results, canonical readings. -/
namespace DL
open PySem PySem.Spec PyProof.Rows L2

/-! ### values -/
/-- an immutable value (a tree), or a thing by its number in the ledger -/
inductive Dv where
  | non | bl (b : Bool) | int (i : Int) | str (x : Str)
  | lst (xs : List Dv) | tup (xs : List Dv) | dic (ks : List (Key × Dv)) | obj (c : Str) (fs : List (Str × Dv))
  | own (k : Nat) | scr (ns : List Int) | opq | ty (n : String) | cls (c : Str)

/-- what stands in a slot, what an expression gives: a value; a list or dict of the frame's own (mu), one that is only read (bor) -/
inductive Sv where
  | val (d : Dv) | bor (xs : List Dv) | borD (ks : List (Key × Dv)) | mu (xs : List Dv) | muD (ks : List (Key × Dv)) | xc (c : Str) (fs : List (Str × Dv))

/-- a thing of the ledger -/
inductive Ct where
  | lst (xs : List Dv) | dic (ks : List (Key × Dv)) | obj (c : Str) (fs : List (Str × Dv)) | gone

abbrev Led := List Ct
abbrev Slo := List (Option Sv)
structure Exn where
  cls : Str
  fs : List (Str × Dv)

inductive Res (α : Type) where
  | ok (a : α) (L : Led) | err (e : Exn) (r : Slo) (L : Led) | bad

namespace Res
variable {α β : Type}
def bind (r : Res α) (k : α → Led → Res β) : Res β := match r with
  | .ok a L => k a L
  | .err e r L => .err e r L
  | .bad => .bad
def wp (r : Res α) (P : α → Led → Prop) (E : Exn → Slo → Led → Prop) : Prop := match r with
  | .ok a L => P a L
  | .err e r L => E e r L
  | .bad => False
theorem wp_bind {r : Res α} {k : α → Led → Res β} {P : β → Led → Prop} {E : Exn → Slo → Led → Prop} (h : (r.bind k).wp P E) : r.wp (fun a L => (k a L).wp P E) E := by
  cases r <;> exact h
theorem wp_mono {r : Res α} {P P' : α → Led → Prop} {E E' : Exn → Slo → Led → Prop} (h : r.wp P E) (hP : ∀ a L, P a L → P' a L) (hE : ∀ e s L, E e s L → E' e s L) : r.wp P' E' := by
  cases r with
  | ok a L => exact hP a L h
  | err e s L => exact hE e s L h
  | bad => exact h
@[simp] theorem bind_ok {a : α} {L : Led} {k : α → Led → Res β} : (Res.ok a L).bind k = k a L := rfl
@[simp] theorem bind_err {e : Exn} {s : Slo} {L : Led} {k : α → Led → Res β} : (Res.err e s L : Res α).bind k = .err e s L := rfl
@[simp] theorem bind_bad {k : α → Led → Res β} : (Res.bad : Res α).bind k = .bad := rfl
/-- the slots at which it is raised -/
def at_ (r : Res α) (s : Slo) : Res α := match r with
  | .err e _ L => .err e s L
  | o => o
@[simp] theorem at_ok {a : α} {L : Led} {s : Slo} : (Res.ok a L).at_ s = .ok a L := rfl
@[simp] theorem at_err {e : Exn} {r s : Slo} {L : Led} : (Res.err e r L : Res α).at_ s = .err e s L := rfl
end Res

/-! ### what a value is in the abstract heap: F the part that stands for ever, ps the ledger's addresses -/
mutual
inductive RD (K : PySem.W.Frag) (mg : Str → Option Value) (F : Hp) (ps : List Addr) : V → Dv → Prop
  | non : RD K mg F ps .non .non
  | bl (b : Bool) : RD K mg F ps (.bl b) (.bl b)
  | int (i : Int) : RD K mg F ps (.int i) (.int i)
  | str (x : Str) (h : x.length ≤ sizeLine) : RD K mg F ps (.str x) (.str x)
  | lst {a : Addr} {vs : List V} {xs : List Dv} (h : F a = some (.lst vs)) (z : vs.length ≤ sizeLine) (r : RDs K mg F ps vs xs) : RD K mg F ps (.ref a) (.lst xs)
  | tup {a : Addr} {vs : List V} {xs : List Dv} (h : F a = some (.tup vs)) (z : vs.length ≤ sizeLine) (r : RDs K mg F ps vs xs) : RD K mg F ps (.ref a) (.tup xs)
  | dic {a : Addr} {o : Obj} {ws : List (Key × V)} {ks : List (Key × Dv)} (h : F a = some (.frz o (.dK ws))) (z : ws.length ≤ sizeLine) (r : RDk K mg F ps ws ks) : RD K mg F ps (.ref a) (.dic ks)
  | obj {a C dx : Addr} {c : Str} {gs fs} (hc : mg c = some (.ref C)) (h : F a = some (.ins C dx gs)) (r : RDf K mg F ps gs fs) : RD K mg F ps (.ref a) (.obj c fs)
  | own {k : Nat} {p : Addr} (h : ps[k]? = some p) : RD K mg F ps (.ref p) (.own k)
  | scr {a : Addr} {ns : List Int} (h : SqL K F a (ns.map V.int)) : RD K mg F ps (.ref a) (.scr ns)
  | opq (v : V) : RD K mg F ps v .opq
  | ty (n : String) : RD K mg F ps (.ty n) (.ty n)
  | cls {c : Str} {C : Addr} (hc : mg c = some (.ref C)) : RD K mg F ps (.ref C) (.cls c)
inductive RDs (K : PySem.W.Frag) (mg : Str → Option Value) (F : Hp) (ps : List Addr) : List V → List Dv → Prop
  | nil : RDs K mg F ps [] []
  | cons {v : V} {vs : List V} {d : Dv} {ds : List Dv} (h : RD K mg F ps v d) (r : RDs K mg F ps vs ds) : RDs K mg F ps (v :: vs) (d :: ds)
inductive RDk (K : PySem.W.Frag) (mg : Str → Option Value) (F : Hp) (ps : List Addr) : List (Key × V) → List (Key × Dv) → Prop
  | nil : RDk K mg F ps [] []
  | cons {k : Key} {v : V} {vs : List (Key × V)} {d : Dv} {ds : List (Key × Dv)} (z : ∀ x, k = .inr x → x.length ≤ sizeLine) (h : RD K mg F ps v d) (r : RDk K mg F ps vs ds) : RDk K mg F ps ((k, v) :: vs) ((k, d) :: ds)
inductive RDf (K : PySem.W.Frag) (mg : Str → Option Value) (F : Hp) (ps : List Addr) : List (Str × V) → List (Str × Dv) → Prop
  | nil : RDf K mg F ps [] []
  | cons {k : Str} {v : V} {vs : List (Str × V)} {d : Dv} {ds : List (Str × Dv)} (h : RD K mg F ps v d) (r : RDf K mg F ps vs ds) : RDf K mg F ps ((k, v) :: vs) ((k, d) :: ds)
end

/-- the frozen part and the ledger have grown -/
structure Ext (F : Hp) (ps : List Addr) (F' : Hp) (ps' : List Addr) : Prop where
  same : Same F F'
  more : ∃ r, ps' = ps ++ r
theorem Ext.refl (F : Hp) (ps : List Addr) : Ext F ps F ps := ⟨Same.refl F, [], by simp⟩
theorem Ext.trans {F F1 F2 : Hp} {ps p1 p2 : List Addr} (a : Ext F ps F1 p1) (b : Ext F1 p1 F2 p2) : Ext F ps F2 p2 := by
  obtain ⟨r, e⟩ := a.more
  obtain ⟨r', e'⟩ := b.more
  exact ⟨a.same.trans b.same, r ++ r', by rw [e', e, List.append_assoc]⟩
theorem Ext.get {F F1 : Hp} {ps p1 : List Addr} (a : Ext F ps F1 p1) {k : Nat} {p : Addr} (h : ps[k]? = some p) : p1[k]? = some p := by
  obtain ⟨r, rfl⟩ := a.more
  have hk : k < ps.length := (List.getElem?_eq_some_iff.mp h).1
  rw [List.getElem?_append_left hk]
  exact h
theorem Ext.of {F F1 : Hp} (ps : List Addr) (s : Same F F1) : Ext F ps F1 ps := ⟨s, [], by simp⟩

section
variable {K : PySem.W.Frag} {mg : Str → Option Value} {F F' : Hp} {ps ps' : List Addr}
theorem Same.rd {H H' : Hp} (s : Same H H') {a : Addr} {u : HO} (h : Rd H a u) : Rd H' a u := by
  rcases h with h | ⟨o, h⟩
  · exact .inl (s _ _ h)
  · exact .inr ⟨o, s _ _ h⟩
mutual
theorem RD.ext (x : Ext F ps F' ps') : ∀ {v : V} {d : Dv}, RD K mg F ps v d → RD K mg F' ps' v d
  | _, _, .non => .non
  | _, _, .bl b => .bl b
  | _, _, .int i => .int i
  | _, _, .str y h => .str y h
  | _, _, .lst h z r => .lst (x.same _ _ h) z (RDs.ext x r)
  | _, _, .tup h z r => .tup (x.same _ _ h) z (RDs.ext x r)
  | _, _, .dic h z r => .dic (x.same _ _ h) z (RDk.ext x r)
  | _, _, .obj c h r => .obj c (x.same _ _ h) (RDf.ext x r)
  | _, _, .own h => .own (x.get h)
  | _, _, .scr h => .scr (x.same.seq h)
  | _, _, .opq v => .opq v
  | _, _, .ty n => .ty n
  | _, _, .cls h => .cls h
theorem RDs.ext (x : Ext F ps F' ps') : ∀ {vs : List V} {ds : List Dv}, RDs K mg F ps vs ds → RDs K mg F' ps' vs ds
  | _, _, .nil => .nil
  | _, _, .cons h r => .cons (RD.ext x h) (RDs.ext x r)
theorem RDk.ext (x : Ext F ps F' ps') : ∀ {vs : List (Key × V)} {ds : List (Key × Dv)}, RDk K mg F ps vs ds → RDk K mg F' ps' vs ds
  | _, _, .nil => .nil
  | _, _, .cons z h r => .cons z (RD.ext x h) (RDk.ext x r)
theorem RDf.ext (x : Ext F ps F' ps') : ∀ {vs : List (Str × V)} {ds : List (Str × Dv)}, RDf K mg F ps vs ds → RDf K mg F' ps' vs ds
  | _, _, .nil => .nil
  | _, _, .cons h r => .cons (RD.ext x h) (RDf.ext x r)
end
theorem RDs.length : ∀ {vs : List V} {ds : List Dv}, RDs K mg F ps vs ds → vs.length = ds.length
  | _, _, .nil => rfl
  | _, _, .cons _ r => by simp [RDs.length r]
theorem RDs.get : ∀ {vs : List V} {ds : List Dv}, RDs K mg F ps vs ds → ∀ {i : Nat} {d : Dv}, ds[i]? = some d → ∃ v, vs[i]? = some v ∧ RD K mg F ps v d
  | _, _, .nil, _, _, e => by simp at e
  | _, _, .cons h _, 0, _, e => by simp at e; subst e; exact ⟨_, rfl, h⟩
  | _, _, .cons _ r, i + 1, _, e => by
    obtain ⟨v, a, b⟩ := RDs.get r (by simpa using e)
    exact ⟨v, by simpa using a, b⟩
theorem RDs.append : ∀ {vs ws : List V} {ds es : List Dv}, RDs K mg F ps vs ds → RDs K mg F ps ws es → RDs K mg F ps (vs ++ ws) (ds ++ es)
  | _, _, _, _, .nil, s => s
  | _, _, _, _, .cons h r, s => .cons h (RDs.append r s)
theorem RDs.take : ∀ {vs : List V} {ds : List Dv} (n : Nat), RDs K mg F ps vs ds → RDs K mg F ps (vs.take n) (ds.take n)
  | _, _, 0, _ => by simpa using RDs.nil
  | _, _, _ + 1, .nil => .nil
  | _, _, n + 1, .cons h r => by simpa using RDs.cons h (RDs.take n r)
theorem RDs.drop : ∀ {vs : List V} {ds : List Dv} (n : Nat), RDs K mg F ps vs ds → RDs K mg F ps (vs.drop n) (ds.drop n)
  | _, _, 0, r => by simpa using r
  | _, _, _ + 1, .nil => .nil
  | _, _, n + 1, .cons _ r => by simpa using RDs.drop n r
theorem RDs.set : ∀ {vs : List V} {ds : List Dv} {v : V} {d : Dv} (n : Nat), RDs K mg F ps vs ds → RD K mg F ps v d → RDs K mg F ps (vs.set n v) (ds.set n d)
  | _, _, _, _, _, .nil, _ => .nil
  | _, _, _, _, 0, .cons _ r, x => .cons x r
  | _, _, _, _, n + 1, .cons h r, x => .cons h (RDs.set n r x)
theorem RDs.eraseIdx : ∀ {vs : List V} {ds : List Dv} (n : Nat), RDs K mg F ps vs ds → RDs K mg F ps (vs.eraseIdx n) (ds.eraseIdx n)
  | _, _, _, .nil => .nil
  | _, _, 0, .cons _ r => r
  | _, _, n + 1, .cons h r => .cons h (RDs.eraseIdx n r)
theorem RDs.rep {vs : List V} {ds : List Dv} (r : RDs K mg F ps vs ds) : ∀ n : Nat, RDs K mg F ps (List.replicate n vs).flatten (List.replicate n ds).flatten
  | 0 => .nil
  | n + 1 => by simpa [List.replicate_succ] using RDs.append r (RDs.rep r n)
theorem RDs.reverse : ∀ {vs : List V} {ds : List Dv}, RDs K mg F ps vs ds → RDs K mg F ps vs.reverse ds.reverse
  | _, _, .nil => .nil
  | _, _, .cons h r => by simpa using RDs.append (RDs.reverse r) (.cons h .nil)
theorem RDs.one {v : V} {d : Dv} (h : RD K mg F ps v d) : RDs K mg F ps [v] [d] := .cons h .nil
end

/-! ### the state -/
section
variable (K : PySem.W.Frag) (mg : Str → Option Value)
/-- a ledger thing at p -/
def CtOk (G F H : Hp) (ps : List Addr) (p : Addr) : Ct → Prop
  | .lst xs => ∃ vs, H p = some (.lst vs) ∧ vs.length ≤ sizeLine ∧ RDs K mg F ps vs xs
  | .dic ks => ∃ ws, H p = some (.dK ws) ∧ ws.length ≤ sizeLine ∧ RDk K mg F ps ws ks
  | .obj c fs => ∃ C dx gs, mg c = some (.ref C) ∧ H p = some (.ins C dx gs) ∧ H dx = some (.own p) ∧ F dx = none ∧ G dx = none ∧ RDf K mg F ps gs fs
  | .gone => ∃ o, H p = some o
/-- a thing of the ledger that is not frozen -/
def Live (ps : List Addr) (L : Led) (p : Addr) : Prop := ∃ (k : Nat) (c : Ct), ps[k]? = some p ∧ L[k]? = some c ∧ c ≠ .gone
def LvAt (L : Led) (k : Nat) : Prop := ∃ c, L[k]? = some c ∧ c ≠ .gone
/-- the live things lie apart -/
def LiveNd (ps : List Addr) (L : Led) : Prop := ∀ (j k : Nat) (p : Addr), ps[j]? = some p → ps[k]? = some p → LvAt L j → LvAt L k → j = k
/-- G: what others hold (kept as it is), F: what stands for ever, ps: the ledger's things -/
structure HS (G F H : Hp) (ps : List Addr) (L : Led) : Prop where
  frame : Same G H
  same : Same F H
  apart : ∀ a, G a ≠ none → F a = none
  len : ps.length = L.length
  nd : LiveNd ps L
  free : ∀ p ∈ ps, Live ps L p → F p = none ∧ G p = none
  at_ : ∀ (k : Nat) (p : Addr) (c : Ct), ps[k]? = some p → L[k]? = some c → CtOk K mg G F H ps p c
/-- the exception that an except suite holds; mg tells of the suite where it is -/
def XcOk (G F : Hp) (ps : List Addr) (v : V) (c : Str) (fs : List (Str × Dv)) : Prop := ∃ (a dd C : Addr) (gs : List (Str × V)), v = .ref a ∧ mg "isinstance" = some (.int a 0) ∧ mg "repr" = some (.int dd 0) ∧ mg "len" = some (.int C 0) ∧ mg c = some (.ref C) ∧ G dd = some (.xd gs) ∧ RDf K mg F ps gs fs
/-- a slot's thing: G0 what stood when the def began (it is kept), G what is held now -/
def SvOk (G0 G F : Hp) (ps : List Addr) (v : V) : Sv → Prop
  | .val d => RD K mg F ps v d
  | .bor xs => ∃ p vs, v = .ref p ∧ G0 p = some (.lst vs) ∧ vs.length ≤ sizeLine ∧ RDs K mg F ps vs xs
  | .borD ks => ∃ p ws, v = .ref p ∧ G0 p = some (.dK ws) ∧ ws.length ≤ sizeLine ∧ RDk K mg F ps ws ks
  | .mu xs => ∃ p vs, v = .ref p ∧ G0 p = none ∧ G p = some (.lst vs) ∧ vs.length ≤ sizeLine ∧ RDs K mg F ps vs xs
  | .muD ks => ∃ p ws, v = .ref p ∧ G0 p = none ∧ G p = some (.dK ws) ∧ ws.length ≤ sizeLine ∧ RDk K mg F ps ws ks
  | .xc c fs => XcOk K mg G0 F ps v c fs
def Sv.isMut : Sv → Bool
  | .mu _ => true
  | .muD _ => true
  | _ => false
structure Slots (G0 G F : Hp) (ps : List Addr) (σ : List (Option V)) (ρ : Slo) : Prop where
  len : ρ.length = σ.length
  at_ : ∀ (i : Nat) (s : Sv), ρ[i]? = some (some s) → ∃ v, σ[i]? = some (some v) ∧ SvOk K mg G0 G F ps v s
  sep : ∀ (i j : Nat) (s t : Sv) (v : V), ρ[i]? = some (some s) → ρ[j]? = some (some t) → s.isMut = true → t.isMut = true → σ[i]? = some (some v) → σ[j]? = some (some v) → i = j
/-- an expression's value: a borrowed thing stands in G -/
def XvOk (G F : Hp) (ps : List Addr) (v : V) : Sv → Prop
  | .val d => RD K mg F ps v d
  | .bor xs => ∃ p vs, v = .ref p ∧ G p = some (.lst vs) ∧ vs.length ≤ sizeLine ∧ RDs K mg F ps vs xs
  | .borD ks => ∃ p ws, v = .ref p ∧ G p = some (.dK ws) ∧ ws.length ≤ sizeLine ∧ RDk K mg F ps ws ks
  | .xc c fs => XcOk K mg G F ps v c fs
  | _ => False
/-- an exception -/
def RX (F H : Hp) (ps : List Addr) (cls : Value) (d : Option Addr) (e : Exn) : Prop :=
  ∃ C, mg e.cls = some (.ref C) ∧ cls = .ref C ∧ ∃ dd gs, d = some dd ∧ H dd = some (.xd gs) ∧ F dd = none ∧ dd ∉ ps ∧ RDf K mg F ps gs e.fs
end

/-! ### canonical readings -/
section
variable (K : PySem.W.Frag) (mg : Str → Option Value)
def QE (G F : Hp) (ps : List Addr) (Q : VK) : Sv → Led → Prop := fun s L => ∀ v F' H' ps', Ext F ps F' ps' → HS K mg G F' H' ps' L → XvOk K mg G F' ps' v s → Q v H'
def EE (G0 F : Hp) (ps : List Addr) (W : WX) : Exn → Slo → Led → Prop := fun e r L => ∀ cls d σ' G' F' H' ps', Same G0 G' → Ext F ps F' ps' → HS K mg G' F' H' ps' L → Slots K mg G0 G' F' ps' σ' r → RX K mg F' H' ps' cls d e → W cls d σ' H'
abbrev DM (α : Type) := Slo → Led → Res α
def tE (W : WX) (f : DM Sv) : TE := fun σ H Q => ∃ G0 G F ps ρ L, Same G0 G ∧ HS K mg G F H ps L ∧ Slots K mg G0 G F ps σ ρ ∧ (f ρ L).wp (QE K mg G F ps Q) (EE K mg G0 F ps W)
def tT (W : WX) (f : DM Bool) : TT := fun σ H Q => ∃ G0 G F ps ρ L, Same G0 G ∧ HS K mg G F H ps L ∧ Slots K mg G0 G F ps σ ρ ∧
  (f ρ L).wp (fun b L' => ∀ F' H' ps', Ext F ps F' ps' → HS K mg G F' H' ps' L' → Q b H') (EE K mg G0 F ps W)
def XvsOk (G F : Hp) (ps : List Addr) : List V → List Sv → Prop := Paired fun v s => XvOk K mg G F ps v s
def tA (W : WX) (f : DM (List Sv)) : TA := fun σ H Q => ∃ G0 G F ps ρ L, Same G0 G ∧ HS K mg G F H ps L ∧ Slots K mg G0 G F ps σ ρ ∧
  (f ρ L).wp (fun ss L' => ∀ vs F' H' ps', Ext F ps F' ps' → HS K mg G F' H' ps' L' → XvsOk K mg G F' ps' vs ss → Q vs H') (EE K mg G0 F ps W)
inductive Fl where
  | nx (r : Slo) | rt (s : Dv) | bk (r : Slo) | ct (r : Slo)
def QS (G0 F : Hp) (ps : List Addr) (D : Ends) : Fl → Led → Prop
  | .nx r, L => ∀ σ' G' F' H' ps', Same G0 G' → Ext F ps F' ps' → HS K mg G' F' H' ps' L → Slots K mg G0 G' F' ps' σ' r → D.nx σ' H'
  | .rt s, L => ∀ v G' F' H' ps', Same G0 G' → Ext F ps F' ps' → HS K mg G' F' H' ps' L → RD K mg F' ps' v s → D.rt v H'
  | .bk r, L => ∀ σ' G' F' H' ps', Same G0 G' → Ext F ps F' ps' → HS K mg G' F' H' ps' L → Slots K mg G0 G' F' ps' σ' r → D.bk σ' H'
  | .ct r, L => ∀ σ' G' F' H' ps', Same G0 G' → Ext F ps F' ps' → HS K mg G' F' H' ps' L → Slots K mg G0 G' F' ps' σ' r → D.ct σ' H'
def tS (W : WX) (f : DM Fl) : TS := fun D σ H => ∃ G0 G F ps ρ L, Same G0 G ∧ HS K mg G F H ps L ∧ Slots K mg G0 G F ps σ ρ ∧ (f ρ L).wp (QS K mg G0 F ps D) (EE K mg G0 F ps W)
/-- a target: what is stored, the slots -/
def tGt (g : Sv → DM Slo) : TG := fun v σ H Q => ∃ G0 G F ps ρ L s, Same G0 G ∧ HS K mg G F H ps L ∧ Slots K mg G0 G F ps σ ρ ∧ XvOk K mg G F ps v s ∧
  (g s ρ L).wp (fun r L' => ∀ σ' G' F' H' ps', Same G0 G' → Ext F ps F' ps' → HS K mg G' F' H' ps' L' → Slots K mg G0 G' F' ps' σ' r → Q σ' H') (fun _ _ _ => False)
end
/-- where the exception is that X's suite holds -/
def lnk (X : Cx) (c : Str) : Option Value := match X.pn with
  | (a, oe) :: _ => if c = "isinstance" then some (.int a 0) else if c = "repr" then oe.dict.map fun d => .int d 0 else if c = "len" then (match oe.cls with
    | .ref C => some (.int C 0)
    | _ => none) else none
  | [] => none
/-- the classes by their names; in a suite also where its exception is -/
def _root_.L2.Cx.mg' (X : Cx) : Str → Option Value := if X.calm = true then X.mg else fun c => match X.mg c with
  | some (.ref C) => some (.ref C)
  | _ => lnk X c
theorem calm_mg {X : Cx} (h : X.calm = true) : X.mg' = X.mg := if_pos h
theorem lnk_ne {X : Cx} {c : Str} {C : Addr} : lnk X c ≠ some (.ref C) := by
  unfold lnk
  split
  · rename_i a oe r e
    split
    · intro q; cases q
    · split
      · intro q
        cases hd : oe.dict with
        | none => rw [hd] at q; cases q
        | some d => rw [hd] at q; cases q
      · split
        · split <;> intro q <;> cases q
        · intro q; cases q
  · intro q; cases q
theorem mg_ref {X : Cx} {c : Str} {C : Addr} : X.mg' c = some (.ref C) ↔ X.mg c = some (.ref C) := by
  unfold L2.Cx.mg'
  by_cases h : X.calm = true
  · rw [if_pos h]
  · rw [if_neg h]
    cases e : X.mg c with
    | none => exact ⟨fun q => absurd q lnk_ne, fun q => by cases q⟩
    | some u =>
      cases u with
      | ref D => exact Iff.rfl
      | _ => exact ⟨fun q => absurd q lnk_ne, fun q => by cases q⟩
abbrev DE (X : Cx) (W : WX) (e : Expr) (f : DM Sv) : Prop := PE X e (tE X.K X.mg' W f)
abbrev DT (X : Cx) (W : WX) (e : Expr) (f : DM Bool) : Prop := PT X e (tT X.K X.mg' W f)
abbrev DA (X : Cx) (W : WX) (es : List Expr) (f : DM (List Sv)) : Prop := PA X es (tA X.K X.mg' W f)
abbrev DS (X : Cx) (W : WX) (s : Stmt) (f : DM Fl) : Prop := PS X s (tS X.K X.mg' W f)
abbrev DSs (X : Cx) (W : WX) (s : List Stmt) (f : DM Fl) : Prop := PSs X s (tS X.K X.mg' W f)
abbrev DG (X : Cx) (e : Expr) (g : Sv → DM Slo) : Prop := PG X e (tGt X.K X.mg' g)
end DL

/-! DL, part 1: how states grow; names, constants, operators, tests, argument lists. -/
namespace DL
open PySem PySem.Spec PyProof.Rows L2

/-! ### weaker readings -/
/-- behind an expression or ahead of a block, a thing may be locked for ever -/
def lkE (Q : VK) : VK := fun v H1 => Q v H1 ∨ ∃ d u, H1 d = some u ∧ Mut (some u) ∧ ∀ od, Q v (upd H1 d (.frz od u))
theorem pe_lk {X : Cx} {e : Expr} {t : TE} (h : PE X e t) : PE X e (fun σ H Q => t σ H (lkE Q)) := ⟨fun pins s σ H Q I w => by
  refine thn (h.run pins s σ H _ I w) fun v s1 z => ?_
  obtain ⟨x, H1, I1, r, q⟩ := z
  rcases q with q | ⟨d, u, hd, mu, q⟩
  · exact ⟨x, H1, I1, r, q⟩
  · obtain ⟨od, I2⟩ := I1.lock hd mu
    exact ⟨x, _, I2, r, q od⟩⟩
theorem pss_lk {X : Cx} {sts : List Stmt} {t : TS} (h : PSs X sts t) : PSs X sts (fun D σ H => t D σ H ∨ ∃ d u, H d = some u ∧ Mut (some u) ∧ ∀ od, t D σ (upd H d (.frz od u))) := ⟨fun pins s σ H D I w => by
  rcases w with w | ⟨d, u, hd, mu, w⟩
  · exact h.run pins s σ H D I w
  · obtain ⟨od, I2⟩ := I.lock hd mu
    exact h.run pins s σ _ D I2 (w od)⟩
theorem upd_upd {H : Hp} {p : Addr} {u w : HO} : upd (upd H p u) p w = upd H p w := by
  funext b
  by_cases hb : b = p
  · subst hb; rw [upd_same, upd_same]
  · rw [upd_ne hb, upd_ne hb, upd_ne hb]
theorem imE {X : Cx} {e : Expr} {t t' : TE} (p : PE X e t) (h : ∀ σ H Q, t' σ H Q → t σ H Q) : PE X e t' := ⟨fun pins s σ H Q I w => p.run pins s σ H Q I (h σ H Q w)⟩
theorem imT {X : Cx} {e : Expr} {t t' : TT} (p : PT X e t) (h : ∀ σ H Q, t' σ H Q → t σ H Q) : PT X e t' := ⟨fun pins s σ H Q I w => p.run pins s σ H Q I (h σ H Q w)⟩
theorem imW {X : Cx} {e : Expr} {t t' : TT} (p : PW X e t) (h : ∀ σ H Q, t' σ H Q → t σ H Q) : PW X e t' := ⟨fun wh pins s σ H Q I w => p.run wh pins s σ H Q I (h σ H Q w)⟩
theorem imA {X : Cx} {e : List Expr} {t t' : TA} (p : PA X e t) (h : ∀ σ H Q, t' σ H Q → t σ H Q) : PA X e t' := ⟨fun pos pins s σ H Q I w => p.run pos pins s σ H Q I (h σ H Q w)⟩
theorem imS {X : Cx} {e : Stmt} {t t' : TS} (p : PS X e t) (h : ∀ D σ H, t' D σ H → t D σ H) : PS X e t' := ⟨fun pins s σ H D I w => p.run pins s σ H D I (h D σ H w)⟩
theorem imSs {X : Cx} {e : List Stmt} {t t' : TS} (p : PSs X e t) (h : ∀ D σ H, t' D σ H → t D σ H) : PSs X e t' := ⟨fun pins s σ H D I w => p.run pins s σ H D I (h D σ H w)⟩
theorem imG {X : Cx} {e : Expr} {t t' : TG} (p : PG X e t) (h : ∀ v σ H Q, t' v σ H Q → t v σ H Q) : PG X e t' := ⟨fun pins s σ H v u Q I r w => p.run pins s σ H v u Q I r (h v σ H Q w)⟩

section
variable {K : PySem.W.Frag} {mg : Str → Option Value} {G0 G F F' H H' : Hp} {ps ps' : List Addr} {L : Led} {σ : List (Option V)} {ρ : Slo} {v : V} {s : Sv} {W : WX}
theorem XvOk.ext (x : Ext F ps F' ps') (h : XvOk K mg G F ps v s) : XvOk K mg G F' ps' v s := by
  cases s with
  | val d => exact RD.ext x h
  | bor xs => obtain ⟨p, vs, a, b, c, d⟩ := h; exact ⟨p, vs, a, b, c, RDs.ext x d⟩
  | borD ks => obtain ⟨p, vs, a, b, c, d⟩ := h; exact ⟨p, vs, a, b, c, RDk.ext x d⟩
  | mu xs => exact h
  | muD ks => exact h
  | xc c fs => obtain ⟨a, dd, C, gs, e1, e2, e3, e4, e5, e6, e7⟩ := h; exact ⟨a, dd, C, gs, e1, e2, e3, e4, e5, e6, RDf.ext x e7⟩
theorem XvOk.gr {G' : Hp} (g : Same G G') (h : XvOk K mg G F ps v s) : XvOk K mg G' F ps v s := by
  cases s with
  | val d => exact h
  | bor xs => obtain ⟨p, vs, a, b, c, d⟩ := h; exact ⟨p, vs, a, g _ _ b, c, d⟩
  | borD ks => obtain ⟨p, vs, a, b, c, d⟩ := h; exact ⟨p, vs, a, g _ _ b, c, d⟩
  | mu xs => exact h
  | muD ks => exact h
  | xc c fs => obtain ⟨a, dd, C, gs, e1, e2, e3, e4, e5, e6, e7⟩ := h; exact ⟨a, dd, C, gs, e1, e2, e3, e4, e5, g _ _ e6, e7⟩
theorem SvOk.ext (x : Ext F ps F' ps') (h : SvOk K mg G0 G F ps v s) : SvOk K mg G0 G F' ps' v s := by
  cases s with
  | val d => exact RD.ext x h
  | bor xs => obtain ⟨p, vs, a, b, c, d⟩ := h; exact ⟨p, vs, a, b, c, RDs.ext x d⟩
  | borD ks => obtain ⟨p, vs, a, b, c, d⟩ := h; exact ⟨p, vs, a, b, c, RDk.ext x d⟩
  | mu xs => obtain ⟨p, vs, a, b, c, e, d⟩ := h; exact ⟨p, vs, a, b, c, e, RDs.ext x d⟩
  | muD ks => obtain ⟨p, vs, a, b, c, e, d⟩ := h; exact ⟨p, vs, a, b, c, e, RDk.ext x d⟩
  | xc c fs => obtain ⟨a, dd, C, gs, e1, e2, e3, e4, e5, e6, e7⟩ := h; exact ⟨a, dd, C, gs, e1, e2, e3, e4, e5, e6, RDf.ext x e7⟩
theorem Slots.ext (x : Ext F ps F' ps') (h : Slots K mg G0 G F ps σ ρ) : Slots K mg G0 G F' ps' σ ρ :=
  ⟨h.len, fun i s e => let ⟨v, a, b⟩ := h.at_ i s e; ⟨v, a, b.ext x⟩, h.sep⟩
theorem XvsOk.ext (x : Ext F ps F' ps') : ∀ {vs : List V} {ss : List Sv}, XvsOk K mg G F ps vs ss → XvsOk K mg G F' ps' vs ss
  | _, _, .nil => .nil
  | _, _, .cons h r => .cons (h.ext x) (XvsOk.ext x r)
theorem XvsOk.length {vs : List V} {ss : List Sv} (h : XvsOk K mg G F ps vs ss) : vs.length = ss.length := Paired.length h
theorem QE.ext {Q : VK} (x : Ext F ps F' ps') {s : Sv} {L : Led} (h : QE K mg G F ps Q s L) : QE K mg G F' ps' Q s L := fun v F2 H2 p2 x2 I r => h v F2 H2 p2 (x.trans x2) I r
theorem EE.ext (x : Ext F ps F' ps') {e : Exn} {r : Slo} {L : Led} (h : EE K mg G0 F ps W e r L) : EE K mg G0 F' ps' W e r L := fun c d s2 G2 F2 H2 p2 g x2 I S R => h c d s2 G2 F2 H2 p2 g (x.trans x2) I S R
theorem QS.ext {D : Ends} (x : Ext F ps F' ps') {f : Fl} {L : Led} (h : QS K mg G0 F ps D f L) : QS K mg G0 F' ps' D f L := by
  cases f with
  | nx r => exact fun s2 G2 F2 H2 p2 g x2 I S => h s2 G2 F2 H2 p2 g (x.trans x2) I S
  | rt r => exact fun s2 G2 F2 H2 p2 g x2 I S => h s2 G2 F2 H2 p2 g (x.trans x2) I S
  | bk r => exact fun s2 G2 F2 H2 p2 g x2 I S => h s2 G2 F2 H2 p2 g (x.trans x2) I S
  | ct r => exact fun s2 G2 F2 H2 p2 g x2 I S => h s2 G2 F2 H2 p2 g (x.trans x2) I S
/-- a new thing that nobody holds: it stands for ever -/
theorem HS.grow (I : HS K mg G F H ps L) {p : Addr} {o : HO} (hp : H p = none) : HS K mg G (upd F p o) (upd H p o) ps L ∧ Ext F ps (upd F p o) ps ∧ Same H (upd H p o) := by
  have hF : F p = none := I.same.free hp
  have hG : G p = none := I.frame.free hp
  have sH : Same H (upd H p o) := fun b u e => by rw [upd_ne (ne_of_none e hp)]; exact e
  have sF : Same F (upd F p o) := fun b u e => by rw [upd_ne (ne_of_none e hF)]; exact e
  have xx : Ext F ps (upd F p o) ps := Ext.of ps sF
  have pn : ∀ q ∈ ps, q ≠ p := by
    intro q hq e
    subst e
    obtain ⟨k, hk⟩ := List.getElem?_of_mem hq
    have hk2 : k < L.length := by rw [← I.len]; exact (List.getElem?_eq_some_iff.mp hk).1
    have := I.at_ k q L[k] hk (by simp [hk2])
    revert this
    cases L[k] with
    | lst xs => rintro ⟨_, e, _⟩; rw [hp] at e; cases e
    | dic xs => rintro ⟨_, e, _⟩; rw [hp] at e; cases e
    | obj c fs => rintro ⟨_, _, _, _, e, _⟩; rw [hp] at e; cases e
    | gone => rintro ⟨_, e⟩; rw [hp] at e; cases e
  refine ⟨⟨I.frame.trans sH, fun b u e => ?_, fun a h => ?_, I.len, I.nd, fun q hq l => ⟨by rw [upd_ne (pn q hq)]; exact (I.free q hq l).1, (I.free q hq l).2⟩, fun k q c hk hc => ?_⟩, xx, sH⟩
  · by_cases hb : b = p
    · subst hb; rw [upd_same] at e ⊢; exact e
    · rw [upd_ne hb] at e ⊢; exact I.same b u e
  · have hap : a ≠ p := fun e => h (by rw [e]; exact hG)
    rw [upd_ne hap]; exact I.apart a h
  · have hq : q ∈ ps := List.mem_of_getElem? hk
    have old := I.at_ k q c hk hc
    cases c with
    | lst xs => obtain ⟨vs, a, b, r⟩ := old; exact ⟨vs, sH _ _ a, b, RDs.ext xx r⟩
    | dic xs => obtain ⟨vs, a, b, r⟩ := old; exact ⟨vs, sH _ _ a, b, RDk.ext xx r⟩
    | obj c fs =>
      obtain ⟨C, dx, gs, a, b, c0, c1, c2, r⟩ := old
      exact ⟨C, dx, gs, a, sH _ _ b, sH _ _ c0, by rw [upd_ne (ne_of_none c0 hp)]; exact c1, c2, RDf.ext xx r⟩
    | gone => obtain ⟨o', a⟩ := old; exact ⟨o', sH _ _ a⟩
/-! ### operators by values: g says what r tells -/
def OpS (K : PySem.W.Frag) (mg : Str → Option Value) (r : R2) (g : Sv → Sv → Led → Option Sv) : Prop :=
  ∀ (G F H : Hp) (ps : List Addr) (L : Led) (x y : V) (a b s : Sv) (Q : VK), HS K mg G F H ps L → XvOk K mg G F ps x a → XvOk K mg G F ps y b → g a b L = some s → QE K mg G F ps Q s L → r x y H Q
def give {α : Type} (o : Option α) (L : Led) : Res α := match o with
  | some s => .ok s L
  | none => .bad
@[simp] theorem give_some {α : Type} {s : α} {L : Led} : give (some s) L = .ok s L := rfl
@[simp] theorem give_none {α : Type} {L : Led} : give (none : Option α) L = .bad := rfl
theorem give_wp {α : Type} {o : Option α} {L : Led} {P : α → Led → Prop} {E : Exn → Slo → Led → Prop} (h : (give o L).wp P E) : ∃ s, o = some s ∧ P s L := by
  cases o with
  | none => exact h.elim
  | some s => exact ⟨s, rfl, h⟩
def dOp (g : Sv → Sv → Led → Option Sv) (fa fb : DM Sv) : DM Sv := fun ρ L => (fa ρ L).bind fun x L1 => (fb ρ L1).bind fun y L2 => give (g x y L2) L2
def dUn (g : Sv → Led → Option Sv) (fa : DM Sv) : DM Sv := fun ρ L => (fa ρ L).bind fun x L1 => give (g x L1) L1
theorem tOp_of {r : R2} {g : Sv → Sv → Led → Option Sv} {fa fb : DM Sv} (hs : OpS K mg r g) {σ : List (Option V)} {H : Hp} {Q : VK} (h : tE K mg W (dOp g fa fb) σ H Q) : tOp r (tE K mg W fa) (tE K mg W fb) σ H Q := by
  obtain ⟨G0, G, F, ps, ρ, L, g0, I, S, h⟩ := h
  refine ⟨G0, G, F, ps, ρ, L, g0, I, S, Res.wp_mono (Res.wp_bind h) (fun x L1 h1 v F1 H1 p1 x1 I1 r1 => ?_) fun e r L' q => q⟩
  refine ⟨G0, G, F1, p1, ρ, L1, g0, I1, S.ext x1, Res.wp_mono (Res.wp_bind h1) (fun y L2 h2 u F2 H2 p2 x2 I2 r2 => ?_) fun e r L' q => EE.ext x1 q⟩
  obtain ⟨s, e, q⟩ := give_wp h2
  exact hs G F2 H2 p2 L2 v u x y s Q I2 (r1.ext x2) r2 e (QE.ext (x1.trans x2) q)
def UnS (K : PySem.W.Frag) (mg : Str → Option Value) (r : V → Hp → VK → Prop) (g : Sv → Led → Option Sv) : Prop :=
  ∀ (G F H : Hp) (ps : List Addr) (L : Led) (x : V) (a s : Sv) (Q : VK), HS K mg G F H ps L → XvOk K mg G F ps x a → g a L = some s → QE K mg G F ps Q s L → r x H Q
theorem tUn_of {r : V → Hp → VK → Prop} {g : Sv → Led → Option Sv} {fa : DM Sv} (hs : UnS K mg r g) {σ : List (Option V)} {H : Hp} {Q : VK} (h : tE K mg W (dUn g fa) σ H Q) : tUn r (tE K mg W fa) σ H Q := by
  obtain ⟨G0, G, F, ps, ρ, L, g0, I, S, h⟩ := h
  refine ⟨G0, G, F, ps, ρ, L, g0, I, S, Res.wp_mono (Res.wp_bind h) (fun x L1 h1 v F1 H1 p1 x1 I1 r1 => ?_) fun e r L' q => q⟩
  obtain ⟨s, e, q⟩ := give_wp h1
  exact hs G F1 H1 p1 L1 v x s Q I1 r1 e (QE.ext x1 q)
/-- a result that stands already -/
theorem QE.now {Q : VK} {s : Sv} (h : QE K mg G F ps Q s L) (I : HS K mg G F H ps L) (r : XvOk K mg G F ps v s) : Q v H := h v F H ps (Ext.refl F ps) I r
/-- a result at a new thing that stands for ever -/
theorem QE.new {Q : VK} {d : Dv} (h : QE K mg G F ps Q (.val d) L) (I : HS K mg G F H ps L) {p : Addr} {o : HO} (hp : H p = none) (r : RD K mg (upd F p o) ps (.ref p) d) : Q (.ref p) (upd H p o) := by
  obtain ⟨I2, x2, _⟩ := I.grow (o := o) hp
  exact h _ _ _ ps x2 I2 r
end
section
variable {X : Cx} {W : WX} {a b c : Expr} {fa fb fc : DM Sv} {pos : Pos}
theorem de_op {op : Operator} {r : R2} {g : Sv → Sv → Led → Option Sv} (ho : OpR X (binaryOp op) r) (hs : OpS X.K X.mg' r g) (ha : DE X W a fa) (hb : DE X W b fb) : DE X W (.BinOp a op b pos) (dOp g fa fb) := imE (pe_op ho ha hb) fun _ _ _ h => tOp_of hs h
theorem de_un {op : UnaryOp} {r : V → Hp → VK → Prop} {g : Sv → Led → Option Sv} (ho : UnR X (unaryOp op) r) (hs : UnS X.K X.mg' r g) (ha : DE X W a fa) : DE X W (.UnaryOp op a pos) (dUn g fa) := imE (pe_un ho ha) fun _ _ _ h => tUn_of hs h
theorem de_cmp {op : CmpOp} {r : R2} {g : Sv → Sv → Led → Option Sv} (ho : OpR X (compareOp op) r) (hs : OpS X.K X.mg' r g) (ha : DE X W a fa) (hb : DE X W b fb) (hm : behindInMarks op b = false) : DE X W (.Compare a [op] [b] pos) (dOp g fa fb) := imE (pe_cmpR ho ha hb hm) fun _ _ _ h => tOp_of hs h
theorem de_ix {r : R2} {g : Sv → Sv → Led → Option Sv} (hr : IxR X r) (hs : OpS X.K X.mg' r g) (ha : DE X W a fa) (hb : DE X W b fb) (hx : PlainIx b) : DE X W (.Subscript a b pos) (dOp g fa fb) := imE (pe_ix hr ha hb hx) fun _ _ _ h => tOp_of hs h
end
end DL

/-! DL, part 2: operators on values. -/
namespace DL
open PySem PySem.Spec PyProof.Rows L2
section
variable {K : PySem.W.Frag} {mg : Str → Option Value} {G F H : Hp} {ps : List Addr} {L : Led} {v x y : V} {s a b : Sv} {d : Dv}
theorem xv_int {i : Int} (h : XvOk K mg G F ps x (.val (.int i))) : x = .int i := by cases h; rfl
theorem xv_str {z : Str} (h : XvOk K mg G F ps x (.val (.str z))) : x = .str z ∧ z.length ≤ sizeLine := by
  cases h with
  | str _ q => exact ⟨rfl, q⟩
theorem xv_bl {k : Bool} (h : XvOk K mg G F ps x (.val (.bl k))) : x = .bl k := by cases h; rfl
theorem xv_non (h : XvOk K mg G F ps x (.val .non)) : x = .non := by cases h; rfl
/-- a list of the heap, for ever or borrowed -/
def Sv.items : Sv → Option (List Dv)
  | .val (.lst xs) => some xs
  | .bor xs => some xs
  | _ => none
theorem xv_items (I : HS K mg G F H ps L) {xs : List Dv} (h : XvOk K mg G F ps x s) (e : s.items = some xs) : ∃ p vs, x = .ref p ∧ H p = some (.lst vs) ∧ vs.length ≤ sizeLine ∧ RDs K mg F ps vs xs := by
  cases s with
  | val d =>
    cases d <;> simp [Sv.items] at e
    subst e
    cases h with
    | lst h z r => exact ⟨_, _, rfl, I.same _ _ h, z, r⟩
  | bor ys =>
    simp [Sv.items] at e
    subst e
    obtain ⟨p, vs, a, b, c, r⟩ := h
    exact ⟨p, vs, a, I.frame _ _ b, c, r⟩
  | borD _ => simp [Sv.items] at e
  | mu _ => simp [Sv.items] at e
  | muD _ => simp [Sv.items] at e
  | xc _ _ => simp [Sv.items] at e
theorem xv_tup (I : HS K mg G F H ps L) {xs : List Dv} (h : XvOk K mg G F ps x (.val (.tup xs))) : ∃ p vs, x = .ref p ∧ F p = some (.tup vs) ∧ H p = some (.tup vs) ∧ vs.length ≤ sizeLine ∧ RDs K mg F ps vs xs := by
  cases h with
  | tup h z r => exact ⟨_, _, rfl, h, I.same _ _ h, z, r⟩
/-- a new list, a new tuple that stands for ever -/
theorem QE.newL {Q : VK} {xs : List Dv} {vs : List V} (h : QE K mg G F ps Q (.val (.lst xs)) L) (I : HS K mg G F H ps L) (z : vs.length ≤ sizeLine) (r : RDs K mg F ps vs xs) : ∀ p, H p = none → Q (.ref p) (upd H p (.lst vs)) := fun p hp => by
  obtain ⟨_, x2, _⟩ := I.grow (o := .lst vs) hp
  exact h.new I hp (.lst upd_same z (RDs.ext x2 r))
theorem QE.newT {Q : VK} {xs : List Dv} {vs : List V} (h : QE K mg G F ps Q (.val (.tup xs)) L) (I : HS K mg G F H ps L) (z : vs.length ≤ sizeLine) (r : RDs K mg F ps vs xs) : ∀ p, H p = none → Q (.ref p) (upd H p (.tup vs)) := fun p hp => by
  obtain ⟨_, x2, _⟩ := I.grow (o := .tup vs) hp
  exact h.new I hp (.tup upd_same z (RDs.ext x2 r))
theorem QE.flat {Q : VK} (h : QE K mg G F ps Q (.val d) L) (I : HS K mg G F H ps L) (r : RD K mg F ps v d) : Q v H := h.now I r

/-! ### + -/
def gCat (xs ys : List Dv) : Option Sv := if xs.length + ys.length ≤ sizeLine then some (.val (.lst (xs ++ ys))) else none
def gAdd (a b : Sv) (_ : Led) : Option Sv := match a, b with
  | .val (.int i), .val (.int j) => some (.val (.int (i + j)))
  | .val (.str x), .val (.str y) => if x.length + y.length ≤ sizeLine then some (.val (.str (x ++ y))) else none
  | .val (.lst xs), .val (.lst ys) => gCat xs ys
  | .val (.lst xs), .bor ys => gCat xs ys
  | .bor xs, .val (.lst ys) => gCat xs ys
  | .bor xs, .bor ys => gCat xs ys
  | .val (.tup xs), .val (.tup ys) => if xs.length + ys.length ≤ sizeLine then some (.val (.tup (xs ++ ys))) else none
  | _, _ => none
def rPlus (K : PySem.W.Frag) : R2 := fun x y H Q => rI0 (fun i j => .int (i + j)) x y H Q ∨ (∃ i j, x = .str i ∧ y = .str j ∧ i.length + j.length ≤ sizeLine ∧ Q (.str (i ++ j)) H) ∨ rCat x y H Q ∨ rCatA K x y H Q
theorem oAdd {X : Cx} : OpR X (binaryOp .Add) (rPlus X.K) := OpR.or op_add (OpR.or op_add_str (OpR.or op_cat op_catA))
theorem str_app_len (x y : Str) : (x ++ y).length = x.length + y.length := strLen_append x y
theorem sAddL (I : HS K mg G F H ps L) (ra : XvOk K mg G F ps x a) (rb : XvOk K mg G F ps y b) {xs ys : List Dv} (ea : a.items = some xs) (eb : b.items = some ys) {Q : VK} (e : gCat xs ys = some s) (q : QE K mg G F ps Q s L) : rCat x y H Q := by
  obtain ⟨p, vs, rfl, hp, z, r⟩ := xv_items I ra ea
  obtain ⟨p2, ws, rfl, hp2, z2, r2⟩ := xv_items I rb eb
  unfold gCat at e
  split at e
  · rename_i hz
    cases e
    have hz2 : vs.length + ws.length ≤ sizeLine := by rw [r.length, r2.length]; exact hz
    exact ⟨p, p2, vs, ws, rfl, rfl, hp, hp2, hz2, q.newL I (by rw [List.length_append]; exact hz2) (r.append r2)⟩
  · cases e
theorem sAdd : OpS K mg (rPlus K) gAdd := by
  intro G F H ps L x y a b s Q I ra rb e q
  unfold gAdd at e
  split at e
  · cases e; exact .inl ⟨_, _, xv_int ra, xv_int rb, q.flat I (.int _)⟩
  · split at e
    · rename_i hz; cases e
      exact .inr (.inl ⟨_, _, (xv_str ra).1, (xv_str rb).1, hz, q.flat I (.str _ (by rw [str_app_len]; exact hz))⟩)
    · cases e
  · exact .inr (.inr (.inl (sAddL I ra rb rfl rfl e q)))
  · exact .inr (.inr (.inl (sAddL I ra rb rfl rfl e q)))
  · exact .inr (.inr (.inl (sAddL I ra rb rfl rfl e q)))
  · exact .inr (.inr (.inl (sAddL I ra rb rfl rfl e q)))
  · split at e
    · rename_i xs ys hz; cases e
      obtain ⟨p, vs, rfl, fp, hp, z, r⟩ := xv_tup I ra
      obtain ⟨p2, ws, rfl, fp2, hp2, z2, r2⟩ := xv_tup I rb
      have hz2 : vs.length + ws.length ≤ sizeLine := by rw [r.length, r2.length]; exact hz
      refine .inr (.inr (.inr ⟨p, p2, vs, ws, rfl, rfl, SqT.of hp, SqT.of hp2, hz2, fun e => ?_, fun _ e => ?_, fun _ _ => ?_⟩))
      · subst e; cases r
        exact q.now I (show XvOk K mg G F ps _ (.val (.tup ([] ++ ys))) from .tup fp2 z2 r2)
      · subst e; cases r2
        exact q.now I (show XvOk K mg G F ps _ (.val (.tup (xs ++ []))) from by rw [List.append_nil]; exact .tup fp z r)
      · exact q.newT I (by rw [List.length_append]; exact hz2) (r.append r2)
    · cases e
  · cases e

/-! ### ints: - * // % ** -/
def gI (C : Int → Int → Prop) [∀ i j, Decidable (C i j)] (f : Int → Int → Dv) (a b : Sv) (_ : Led) : Option Sv := match a, b with
  | .val (.int i), .val (.int j) => if C i j then some (.val (f i j)) else none
  | _, _ => none
theorem sI {C D : Int → Int → Prop} [∀ i j, Decidable (C i j)] {f : Int → Int → Dv} {g : Int → Int → V} (hC : ∀ i j, C i j → D i j) (hf : ∀ i j K mg F ps, RD K mg F ps (g i j) (f i j)) : OpS K mg (rI D g) (gI C f) := by
  intro G F H ps L x y a b s Q I ra rb e q
  unfold gI at e
  split at e
  · split at e
    · rename_i hc; cases e
      exact ⟨_, _, xv_int ra, xv_int rb, hC _ _ hc, q.flat I (hf _ _ _ _ _ _)⟩
    · cases e
  · cases e
def gI0 (f : Int → Int → Dv) (a b : Sv) (_ : Led) : Option Sv := match a, b with
  | .val (.int i), .val (.int j) => some (.val (f i j))
  | _, _ => none
theorem sI0 {f : Int → Int → Dv} {g : Int → Int → V} (hf : ∀ i j K mg F ps, RD K mg F ps (g i j) (f i j)) : OpS K mg (rI0 g) (gI0 f) := by
  intro G F H ps L x y a b s Q I ra rb e q
  unfold gI0 at e
  split at e
  · cases e
    exact ⟨_, _, xv_int ra, xv_int rb, q.flat I (hf _ _ _ _ _ _)⟩
  · cases e
def gSub := gI0 fun i j => .int (i - j)
theorem sSub : OpS K mg (rI0 fun i j => .int (i - j)) gSub := sI0 fun _ _ _ _ _ _ => .int _
def small64 (i : Int) : Prop := -(2 ^ 64) < i ∧ i < 2 ^ 64
instance (i : Int) : Decidable (small64 i) := inferInstanceAs (Decidable (_ ∧ _))
/-- a text n times -/
def strRep (x : Str) (n : Nat) : Str := ⟨(List.replicate n x.cps.toList).flatten.toArray⟩
theorem strRep_len (x : Str) (n : Nat) : (strRep x n).length = n * x.length := by
  show (List.replicate n x.cps.toList).flatten.toArray.size = _
  rw [List.size_toArray, List.length_flatten, List.map_replicate, List.sum_replicate_nat]
  rfl
theorem strRep_zero (x : Str) : strRep x 0 = Str.empty := rfl
theorem strRep_one (x : Str) : strRep x 1 = x := by
  show (⟨_⟩ : Str) = x
  simp [List.replicate]
theorem rep_fold (b : Array Nat) : ∀ (n : Nat) (a : Array Nat), (List.replicate n b).foldl (fun x y => x ++ y) a = a ++ (List.replicate n b.toList).flatten.toArray
  | 0, a => by simp
  | n + 1, a => by
    rw [List.replicate_succ, List.foldl_cons, rep_fold b n (a ++ b), List.replicate_succ, List.flatten_cons]
    apply Array.toList_inj.mp
    simp
theorem strRep_nil {x : Str} (h : x.length = 0) (n : Nat) : strRep x n = x := by
  have e : x.cps = #[] := Array.size_eq_zero_iff.mp h
  show (⟨_⟩ : Str) = x
  rw [e]
  have : (List.replicate n (#[] : Array Nat).toList).flatten = [] := by
    induction n with
    | zero => rfl
    | succ n ih => simp [List.replicate_succ]
  rw [this]
  exact (congrArg Str.mk e).symm
def repOk (k : Int) (n : Nat) : Prop := -(2 ^ 63) ≤ k ∧ k < 2 ^ 63 ∧ n * k.toNat ≤ sizeLine
instance (k : Int) (n : Nat) : Decidable (repOk k n) := inferInstanceAs (Decidable (_ ∧ _ ∧ _))
def rMulS : R2 := fun x y H Q => ∃ z k, x = .str z ∧ y = .int k ∧ z.length ≤ sizeLine ∧ repOk k z.length ∧ Q (.str (strRep z k.toNat)) H
theorem oMulS {X : Cx} : OpR X (binaryOp .Mult) rMulS := by
  intro pins s σ H x y v u Q I rx ry h
  obtain ⟨z, k, rfl, rfl, hz, ⟨h1, h2, h3⟩, q⟩ := h
  obtain ⟨t, rfl⟩ := rx
  obtain ⟨t2, rfl⟩ := ry
  have hs : sizeLine = 16777216 := sizeLine_eq
  refine P.mul_str (by rw [decide_eq_false (show ¬ k < -(2 ^ 63 : Int) by omega), decide_eq_false (show ¬ k ≥ 2 ^ 63 by omega)]; rfl) (fun hk hc => ?_) (fun hk hc => ?_) ?_
  · rw [hs] at hz
    have hl : z.length ≠ 0 := by
      intro e
      rw [e, show ((0 : Nat) == 0) = true from rfl, Bool.or_true] at hc
      cases hc
    intro hgt
    have hk0 : 0 < k := by omega
    have h4 : ((z.length * k.toNat : Nat) : Int) ≤ ((16777216 : Nat) : Int) := by rw [hs] at h3; exact Int.ofNat_le.mpr h3
    have h5 : ((z.length * k.toNat : Nat) : Int) = (z.length : Int) * k := by rw [Int.natCast_mul, Int.toNat_of_nonneg (by omega)]
    have h6 : (2 ^ 63 - 1 : Int) / k * k ≤ 2 ^ 63 - 1 := Int.ediv_mul_le _ (by omega)
    have h7 : (2 ^ 63 - 1 : Int) < ((2 ^ 63 - 1) / k + 1) * k := Int.lt_ediv_add_one_mul_self _ hk0
    have h8 : ((2 ^ 63 - 1 : Int) / k + 1) * k ≤ (z.length : Int) * k := Int.mul_le_mul_of_nonneg_right (by omega) (by omega)
    omega
  · have : ¬ z.length * k.toNat > sizeLine := by omega
    exact decide_eq_false this
  · by_cases hk : k < 1
    · rw [if_pos hk]
      have e : k.toNat = 0 := by omega
      rw [e, strRep_zero] at q
      exact ⟨by decide, ⟨.str _, H, I.tok _, ⟨_, rfl⟩, q⟩⟩
    · rw [if_neg hk]
      by_cases hc : (k == 1 || z.length == 0) = true
      · rw [if_pos hc]
        have e : strRep z k.toNat = z := by
          rcases Bool.or_eq_true _ _ ▸ hc with hc | hc
          · have : k = 1 := by simpa using hc
            subst this; exact strRep_one z
          · exact strRep_nil (by simpa using hc) _
        rw [e] at q
        exact ⟨.str _, H, I, ⟨_, rfl⟩, q⟩
      · rw [if_neg hc]
        have e : (⟨(List.replicate k.toNat z.cps).foldl (· ++ ·) #[]⟩ : Str) = strRep z k.toNat := by
          show (⟨_⟩ : Str) = ⟨_⟩
          rw [rep_fold z.cps k.toNat #[]]
          simp
        rw [e]
        refine ⟨?_, ⟨.str _, H, I.tok _, ⟨_, rfl⟩, q⟩⟩
        rw [strRep_len, Nat.mul_comm]
        exact h3
/-- a product of ints, a list or a text times an int -/
def gMul (a b : Sv) (_ : Led) : Option Sv := match a, b with
  | .val (.int i), .val (.int j) => if small64 i ∨ small64 j then some (.val (.int (i * j))) else none
  | .val (.lst xs), .val (.int k) => if repOk k xs.length then some (.val (.lst (List.replicate k.toNat xs).flatten)) else none
  | .val (.str x), .val (.int k) => if repOk k x.length then some (.val (.str (strRep x k.toNat))) else none
  | _, _ => none
def rTimes : R2 := fun x y H Q => rI CMul (fun i j => .int (i * j)) x y H Q ∨ rRep x y H Q ∨ rMulS x y H Q
theorem oMul {X : Cx} : OpR X (binaryOp .Mult) rTimes := OpR.or op_mul (OpR.or op_rep oMulS)
theorem flat_rep_len {α : Type} (xs : List α) (n : Nat) : (List.replicate n xs).flatten.length = n * xs.length := by
  rw [List.length_flatten, List.map_replicate, List.sum_replicate_nat]
theorem sMul : OpS K mg rTimes gMul := by
  intro G F H ps L x y a b s Q I ra rb e q
  unfold gMul at e
  split at e
  · split at e
    · rename_i hc; cases e
      exact .inl ⟨_, _, xv_int ra, xv_int rb, hc, q.flat I (.int _)⟩
    · cases e
  · split at e
    · rename_i xs k hc; cases e
      obtain ⟨p, vs, rfl, hp, z, r⟩ := xv_items I ra rfl
      obtain ⟨h1, h2, h3⟩ := hc
      have h4 : vs.length * k.toNat ≤ sizeLine := by rw [r.length]; exact h3
      refine .inr (.inl ⟨p, k, vs, rfl, xv_int rb, hp, h1, h2, h4, q.newL I (by rw [flat_rep_len, Nat.mul_comm]; exact h4) (r.rep _)⟩)
    · cases e
  · split at e
    · rename_i z k hc; cases e
      have hz := xv_str ra
      exact .inr (.inr ⟨z, k, hz.1, xv_int rb, hz.2, hc, q.flat I (.str _ (by rw [strRep_len, Nat.mul_comm]; exact hc.2.2))⟩)
    · cases e
  · cases e
instance (i j : Int) : Decidable (CDiv i j) := inferInstanceAs (Decidable (_ ∧ _))
instance (i j : Int) : Decidable (CPow i j) := inferInstanceAs (Decidable (_ ∧ _ ∧ _))
def gFdiv := gI CDiv fun i j => .int (i / j)
def gMod := gI (fun _ j => 0 < j) fun i j => .int (i % j)
def gPow := gI CPow fun i j => .int (i ^ j.toNat)
theorem sFdiv : OpS K mg (rI CDiv fun i j => .int (i / j)) gFdiv := sI (fun _ _ h => h) fun _ _ _ _ _ _ => .int _
theorem sMod : OpS K mg (rI (fun _ j => 0 < j) fun i j => .int (i % j)) gMod := sI (fun _ _ h => h) fun _ _ _ _ _ _ => .int _
theorem sPow : OpS K mg (rI CPow fun i j => .int (i ^ j.toNat)) gPow := sI (fun _ _ h => h) fun _ _ _ _ _ _ => .int _
def gNeg (a : Sv) (_ : Led) : Option Sv := match a with
  | .val (.int i) => some (.val (.int (-i)))
  | _ => none
theorem sNeg : UnS K mg (rU fun i => .int (-i)) gNeg := by
  intro G F H ps L x a s Q I ra e q
  unfold gNeg at e
  split at e
  · cases e; exact ⟨_, xv_int ra, q.flat I (.int _)⟩
  · cases e

/-! ### < <= > >= of ints, is None -/
def gCmp (f : Int → Int → Bool) := gI0 fun i j => .bl (f i j)
theorem sCmp {f : Int → Int → Bool} : OpS K mg (rI0 fun i j => .bl (f i j)) (gCmp f) := sI0 fun _ _ _ _ _ _ => .bl _
def Sv.isNon : Sv → Option Bool
  | .val .non => some true
  | .val .opq => none
  | .val _ => some false
  | .bor _ => some false
  | .borD _ => some false
  | _ => none
theorem xv_isNon {k : Bool} (h : XvOk K mg G F ps x s) (e : s.isNon = some k) : decide (x = .non) = k := by
  cases s with
  | val d => cases h <;> simp_all [Sv.isNon]
  | bor xs => obtain ⟨p, vs, rfl, _⟩ := h; simp_all [Sv.isNon]
  | borD xs => obtain ⟨p, vs, rfl, _⟩ := h; simp_all [Sv.isNon]
  | mu _ => exact h.elim
  | muD _ => exact h.elim
  | xc _ _ => cases e
def gIsN (neg : Bool) (a b : Sv) (_ : Led) : Option Sv := match b with
  | .val .non => a.isNon.map fun k => .val (.bl (if neg then !k else k))
  | _ => none
theorem sIsN : OpS K mg (fun x y H Q => y = .non ∧ Q (.bl (decide (x = .non))) H) (gIsN false) := by
  intro G F H ps L x y a b s Q I ra rb e q
  unfold gIsN at e
  split at e
  · cases h : a.isNon with
    | none => rw [h] at e; cases e
    | some k =>
      rw [h] at e; cases e
      rw [xv_isNon ra h]
      exact ⟨xv_non rb, q.flat I (.bl _)⟩
  · cases e
theorem sNotN : OpS K mg (fun x y H Q => y = .non ∧ Q (.bl (!decide (x = .non))) H) (gIsN true) := by
  intro G F H ps L x y a b s Q I ra rb e q
  unfold gIsN at e
  split at e
  · cases h : a.isNon with
    | none => rw [h] at e; cases e
    | some k =>
      rw [h] at e; cases e
      rw [xv_isNon ra h]
      exact ⟨xv_non rb, q.flat I (.bl _)⟩
  · cases e

/-! ### plain data -/
mutual
def Dv.py : Dv → Option PyData
  | .non => some .none
  | .bl b => some (.bool b)
  | .int i => some (.int i)
  | .str x => some (.str x)
  | .lst xs => (pys xs).map .list
  | .tup xs => (pys xs).map .tuple
  | .dic ks => (pyk ks).map .dict
  | _ => none
def pys : List Dv → Option (List PyData)
  | [] => some []
  | d :: ds => match d.py, pys ds with
    | some p, some q => some (p :: q)
    | _, _ => none
def pyk : List (Key × Dv) → Option (List (PyData × PyData))
  | [] => some []
  | (k, d) :: ds => match d.py, pyk ds with
    | some p, some q => some ((match k with | .inl i => .int i | .inr x => .str x, p) :: q)
    | _, _ => none
end
def Sv.py : Sv → Option PyData
  | .val d => d.py
  | .bor xs => (pys xs).map .list
  | .borD ks => (pyk ks).map .dict
  | _ => none
def keyP : Key → PyData
  | .inl i => .int i
  | .inr x => .str x
/-- x reads as p at every state that holds H -/
def RdAt (X : Cx) (H : Hp) (x : V) (p : PyData) : Prop := ∀ (pins : List (Addr × Obj)) (σ : List (Option V)) (s : Shared) (u : Value), Inv X pins σ H s → RelV x u → ∃ as, Reads s.heap u p as ∧ sysModules ∉ as
end
end DL

/-! DL, part 3: data as a whole: ==, in, repr, len, truth, isinstance. -/
namespace DL
open PySem PySem.Spec PyProof.Rows L2
section
variable {X : Cx} {pins : List (Addr × Obj)} {σ : List (Option V)} {s : Shared} {F H : Hp} {ps : List Addr} {mg : Str → Option Value}
/-- the interpreter's own table of modules is known, so nothing of ours stands there -/
def SysK (K : PySem.W.Frag) : Prop := ∃ o, K.lookup sysModules = some o
theorem tracked_ne (I : Inv X pins σ H s) (hk : SysK X.K) {a : Addr} {o : HO} (h : H a = some o) : a ≠ sysModules := by
  rintro rfl
  obtain ⟨ob, e⟩ := hk
  have := (I.bs _ _ (I.mod.kin _ _ e)).2
  rw [this] at h
  cases h
theorem rd_tracked {a : Addr} {u : HO} (h : Rd H a u) : ∃ o, H a = some o := by
  rcases h with h | ⟨o, h⟩
  · exact ⟨_, h⟩
  · exact ⟨_, h⟩
theorem pairs_reads {P : Program} {w : World} : ∀ {es : List DictEntry} {vs : List (Key × Value)}, Pairs (mixKind P w) es vs → es.map (·.val) = vs.map (·.2) ∧ ∀ h, ∃ as, ReadsAll h (es.map (·.key)) (vs.map fun q => keyP q.1) as ∧ as = []
  | _, _, .nil => ⟨rfl, fun _ => ⟨[], .nil, rfl⟩⟩
  | e :: es, kv :: vs, .cons h1 h2 r => by
    obtain ⟨a, b⟩ := pairs_reads r
    refine ⟨by simp [a, h2], fun h => ?_⟩
    obtain ⟨as, q, rfl⟩ := b h
    have hk : Reads h e.key (keyP kv.1) [] := by
      rcases keyIs_shape h1 with ⟨i, t, e1, e2⟩ | ⟨x, t, e1, e2⟩
      · rw [e1, e2]; exact .int i t
      · rw [e1, e2]; exact .str x t
    exact ⟨[] ++ [], .cons hk q, rfl⟩
theorem kv_split : ∀ {ws : List (Key × V)} {vs : List (Key × Value)}, KV ws vs → ws.map (·.1) = vs.map (·.1) ∧ Vals (ws.map (·.2)) (vs.map (·.2))
  | _, _, .nil => ⟨rfl, .nil⟩
  | _, _, .cons h r => by
    obtain ⟨a, b⟩ := kv_split r
    exact ⟨by simp [a, h.1], .cons h.2 b⟩
mutual
theorem RD.reads (I : Inv X pins σ H s) (hk : SysK X.K) (hs : Same F H) : ∀ (d : Dv) (p : PyData) (v : V) (u : Value), d.py = some p → RD X.K mg F ps v d → RelV v u → ∃ as, Reads s.heap u p as ∧ sysModules ∉ as
  | .non, _, _, _, e, h, r => by
    simp only [Dv.py] at e; cases e; cases h; cases r
    exact ⟨_, .none, by simp⟩
  | .bl b, _, _, _, e, h, r => by
    simp only [Dv.py] at e; cases e; cases h; cases r
    exact ⟨_, .bool b, by simp⟩
  | .int i, _, _, _, e, h, r => by
    simp only [Dv.py] at e; cases e; cases h
    obtain ⟨t, rfl⟩ := r
    exact ⟨_, .int i t, by simp⟩
  | .str x, _, _, _, e, h, r => by
    simp only [Dv.py] at e; cases e; cases h
    obtain ⟨t, rfl⟩ := r
    exact ⟨_, .str x t, by simp⟩
  | .lst xs, p, _, _, e, h, r => by
    cases hp : pys xs with
    | none => simp [Dv.py, hp] at e
    | some q =>
      simp [Dv.py, hp] at e
      subst e
      cases h with
      | lst h z rs =>
        cases r
        obtain ⟨its, rv, ⟨o, n, ho, hc, _, hd⟩, _⟩ := I.list (SqL.of (hs _ _ h))
        obtain ⟨as, ra, ns⟩ := RDs.reads I hk hs xs q _ its hp rs rv
        exact ⟨_, .list ho hc hd ra, by
          intro hm
          rcases List.mem_cons.mp hm with hm | hm
          · exact tracked_ne I hk (hs _ _ h) hm.symm
          · exact ns hm⟩
  | .tup xs, p, _, _, e, h, r => by
    cases hp : pys xs with
    | none => simp [Dv.py, hp] at e
    | some q =>
      simp [Dv.py, hp] at e
      subst e
      cases h with
      | tup h z rs =>
        cases r
        obtain ⟨its, rv, ⟨o, ho, hc, n, hd⟩, _⟩ := I.tuple (SqT.of (hs _ _ h))
        obtain ⟨as, ra, ns⟩ := RDs.reads I hk hs xs q _ its hp rs rv
        exact ⟨_, .tuple ho hc hd ra, ns⟩
  | .dic ks, p, _, _, e, h, r => by
    cases hp : pyk ks with
    | none => simp [Dv.py, hp] at e
    | some q =>
      simp [Dv.py, hp] at e
      subst e
      cases h with
      | dic h z rs =>
        cases r
        obtain ⟨_, _, vs, kv, o, es, ep, ho, hx, hd, _, pr, _⟩ := (show Rd H _ (.dK _) from .inr ⟨_, hs _ _ h⟩).ok I.hok
        obtain ⟨e1, hkeys⟩ := pairs_reads pr
        obtain ⟨as1, rk, rfl⟩ := hkeys s.heap
        obtain ⟨e2, rv⟩ := kv_split kv
        obtain ⟨as, ra, ns, e3⟩ := RDk.reads I hk hs ks q _ (vs.map (·.2)) hp rs rv
        have ek : vs.map (fun q => keyP q.1) = q.map (·.1) := by
          rw [e3, show (fun q : Key × Value => keyP q.1) = keyP ∘ (·.1) from rfl, ← List.map_map, ← e2, List.map_map]
          rfl
        rw [ek] at rk
        obtain ⟨o', htr⟩ := rd_tracked (show Rd H _ (.dK _) from .inr ⟨_, hs _ _ h⟩)
        refine ⟨_, .dict ho hx.1 hd rk (by rw [e1]; exact ra), ?_⟩
        intro hm
        rcases List.mem_cons.mp hm with hm | hm
        · exact tracked_ne I hk htr hm.symm
        · exact ns (by simpa using hm)
  | .obj _ _, _, _, _, e, _, _ => by simp [Dv.py] at e
  | .own _, _, _, _, e, _, _ => by simp [Dv.py] at e
  | .scr _, _, _, _, e, _, _ => by simp [Dv.py] at e
  | .opq, _, _, _, e, _, _ => by simp [Dv.py] at e
theorem RDs.reads (I : Inv X pins σ H s) (hk : SysK X.K) (hs : Same F H) : ∀ (ds : List Dv) (p : List PyData) (vs : List V) (us : List Value), pys ds = some p → RDs X.K mg F ps vs ds → Vals vs us → ∃ as, ReadsAll s.heap us p as ∧ sysModules ∉ as
  | [], _, _, _, e, h, r => by
    simp only [pys] at e; cases e; cases h; cases r
    exact ⟨_, .nil, by simp⟩
  | d :: ds, p, _, _, e, h, r => by
    cases h1 : d.py with
    | none => simp [pys, h1] at e
    | some a =>
      cases h2 : pys ds with
      | none => simp [pys, h1, h2] at e
      | some b =>
        simp [pys, h1, h2] at e
        subst e
        cases h with
        | cons h rs =>
          cases r with
          | cons r rr =>
            obtain ⟨as, r1, n1⟩ := RD.reads I hk hs d a _ _ h1 h r
            obtain ⟨bs, r2, n2⟩ := RDs.reads I hk hs ds b _ _ h2 rs rr
            exact ⟨_, .cons r1 r2, by simp [n1, n2]⟩
theorem RDk.reads (I : Inv X pins σ H s) (hk : SysK X.K) (hs : Same F H) : ∀ (ds : List (Key × Dv)) (p : List (PyData × PyData)) (vs : List (Key × V)) (us : List Value), pyk ds = some p → RDk X.K mg F ps vs ds → Vals (vs.map (·.2)) us →
    ∃ as, ReadsAll s.heap us (p.map (·.2)) as ∧ sysModules ∉ as ∧ p.map (·.1) = vs.map fun q => keyP q.1
  | [], _, _, _, e, h, r => by
    simp only [pyk] at e; cases e; cases h; cases r
    exact ⟨_, .nil, by simp, rfl⟩
  | (k, d) :: ds, p, _, _, e, h, r => by
    cases h1 : d.py with
    | none => simp [pyk, h1] at e
    | some a =>
      cases h2 : pyk ds with
      | none => simp [pyk, h1, h2] at e
      | some b =>
        simp [pyk, h1, h2] at e
        subst e
        cases h with
        | cons z h rs =>
          cases r with
          | cons r rr =>
            obtain ⟨as, r1, n1⟩ := RD.reads I hk hs d a _ _ h1 h r
            obtain ⟨bs, r2, n2, e3⟩ := RDk.reads I hk hs ds b _ _ h2 rs rr
            exact ⟨_, .cons r1 r2, by simp [n1, n2], by simp [e3]; cases k <;> rfl⟩
end
/-- a value, borrowed or not, reads as its data -/
theorem XvOk.reads {K' : PySem.W.Frag} {G : Hp} {L : Led} {v : V} {a : Sv} {p : PyData} (hk : SysK X.K) (J : HS X.K mg G F H ps L) (r : XvOk X.K mg G F ps v a) (e : a.py = some p) : RdAt X H v p := by
  intro pins σ s u I rv
  cases a with
  | val d => exact RD.reads I hk J.same d p v u e r rv
  | bor xs =>
    obtain ⟨q, vs, rfl, hq, z, rs⟩ := r
    cases hp : pys xs with
    | none => simp [Sv.py, hp] at e
    | some b =>
      simp [Sv.py, hp] at e
      subst e
      cases rv
      obtain ⟨its, rv, ⟨o, n, ho, hc, _, hd⟩, _⟩ := I.list (SqL.of (J.frame _ _ hq))
      obtain ⟨as, ra, ns⟩ := RDs.reads I hk J.same xs b _ its hp rs rv
      exact ⟨_, .list ho hc hd ra, by
        intro hm
        rcases List.mem_cons.mp hm with hm | hm
        · exact tracked_ne I hk (J.frame _ _ hq) hm.symm
        · exact ns hm⟩
  | borD ks =>
    obtain ⟨q, ws, rfl, hq, z, rs⟩ := r
    cases hp : pyk ks with
    | none => simp [Sv.py, hp] at e
    | some b =>
      simp [Sv.py, hp] at e
      subst e
      cases rv
      obtain ⟨_, _, vs, kv, o, es, ep, ho, hx, hd, _, pr, _⟩ := I.hok _ _ (J.frame _ _ hq)
      obtain ⟨e1, hkeys⟩ := pairs_reads pr
      obtain ⟨as1, rk, rfl⟩ := hkeys s.heap
      obtain ⟨e2, rv⟩ := kv_split kv
      obtain ⟨as, ra, ns, e3⟩ := RDk.reads I hk J.same ks b _ (vs.map (·.2)) hp rs rv
      have ek : vs.map (fun q => keyP q.1) = b.map (·.1) := by
        rw [e3, show (fun q : Key × Value => keyP q.1) = keyP ∘ (·.1) from rfl, ← List.map_map, ← e2, List.map_map]
        rfl
      rw [ek] at rk
      refine ⟨_, .dict ho hx.1 hd rk (by rw [e1]; exact ra), ?_⟩
      intro hm
      rcases List.mem_cons.mp hm with hm | hm
      · exact tracked_ne I hk (J.frame _ _ hq) hm.symm
      · exact ns (by simpa using hm)
  | mu _ => exact r.elim
  | muD _ => exact r.elim
  | xc _ _ => cases e
end

/-! ### == and != -/
section
variable {X : Cx} {G F H : Hp} {ps : List Addr} {L : Led}
def okP (p q : PyData) : Bool := p.plain && q.plain && decide (p.depth ≤ 64)
def rEqP (X : Cx) (neg : Bool) : R2 := fun x y H Q => ∃ p q, RdAt X H x p ∧ RdAt X H y q ∧ okP p q = true ∧ Q (.bl (if neg then !PyData.eqv p q else PyData.eqv p q)) H
theorem oEqP (hu : X.A.units + 65 < cLine) : OpR X (compareOp .Eq) (rEqP X false) := by
  intro pins s σ H x y v u Q I rx ry h
  obtain ⟨p, q, h1, h2, ok, hq⟩ := h
  obtain ⟨as, r1, _⟩ := h1 _ _ _ _ I rx
  obtain ⟨bs, r2, _⟩ := h2 _ _ _ _ I ry
  simp [okP] at ok
  exact SeqAt.eq_plain r1 r2 ok.1.1 ok.1.2 (by have := ok.2; omega) ⟨.bl _, H, I, rfl, hq⟩
theorem oNeP (hu : X.A.units + 65 < cLine) : OpR X (compareOp .NotEq) (rEqP X true) := by
  intro pins s σ H x y v u Q I rx ry h
  obtain ⟨p, q, h1, h2, ok, hq⟩ := h
  obtain ⟨as, r1, _⟩ := h1 _ _ _ _ I rx
  obtain ⟨bs, r2, _⟩ := h2 _ _ _ _ I ry
  simp [okP] at ok
  exact SeqAt.ne_plain r1 r2 ok.1.1 ok.1.2 (by have := ok.2; omega) ⟨.bl _, H, I, rfl, hq⟩
/-- two lists of unlike lengths, whatever they hold -/
def rEqL : R2 := fun x y H Q => ∃ a b vs ws, x = .ref a ∧ y = .ref b ∧ H a = some (.lst vs) ∧ H b = some (.lst ws) ∧ vs.length ≠ ws.length ∧ Q (.bl false) H
theorem oEqL (hu : X.A.units + 65 < cLine) : OpR X (compareOp .Eq) rEqL := by
  intro pins s σ H x y v u Q I rx ry h
  obtain ⟨a, b, vs, ws, rfl, rfl, ha, hb, hn, hq⟩ := h
  cases rx; cases ry
  obtain ⟨its, rv, p1, _⟩ := I.list (SqL.of (K := X.K) ha)
  obtain ⟨it2, rw2, p2, _⟩ := I.list (SqL.of (K := X.K) hb)
  refine SeqAt.eq_list_lengthsAt p1.isList p2.isList ?_ (by omega) ⟨.bl _, H, I, rfl, hq⟩
  have e1 := rv.length
  have e2 := rw2.length
  simpa [← e1, ← e2] using hn
/-- the data of a value -/
def gEqB (a b : Sv) : Option Bool := match a.py, b.py with
  | some p, some q => if okP p q = true then some (PyData.eqv p q) else none
  | _, _ => none
def gEqL (a b : Sv) : Option Bool := match a.items, b.items with
  | some xs, some ys => if xs.length ≠ ys.length then some false else none
  | _, _ => none
def gEq (a b : Sv) (_ : Led) : Option Sv := ((gEqB a b).or (gEqL a b)).map fun k => .val (.bl k)
def gNe (a b : Sv) (_ : Led) : Option Sv := (gEqB a b).map fun k => .val (.bl (!k))
theorem sEqP {neg : Bool} (hk : SysK X.K) {x y : V} {a b : Sv} {k : Bool} {Q : VK} (I : HS X.K X.mg' G F H ps L) (ra : XvOk X.K X.mg' G F ps x a) (rb : XvOk X.K X.mg' G F ps y b) (e : gEqB a b = some k) (q : QE X.K X.mg' G F ps Q (.val (.bl (if neg then !k else k))) L) :
    rEqP X neg x y H Q := by
  unfold gEqB at e
  split at e
  · rename_i p q' h1 h2
    split at e
    · rename_i ok
      cases e
      exact ⟨p, q', XvOk.reads (K' := X.K) hk I ra h1, XvOk.reads (K' := X.K) hk I rb h2, ok, q.flat I (.bl _)⟩
    · cases e
  · cases e
theorem sEq (hk : SysK X.K) : OpS X.K X.mg' (fun x y H Q => rEqP X false x y H Q ∨ rEqL x y H Q) gEq := by
  intro G F H ps L x y a b s Q I ra rb e q
  unfold gEq at e
  cases h : gEqB a b with
  | some k =>
    rw [h] at e; cases e
    exact .inl (sEqP hk I ra rb h q)
  | none =>
    rw [h] at e
    cases h2 : gEqL a b with
    | none => rw [h2] at e; cases e
    | some k =>
      rw [h2] at e; cases e
      unfold gEqL at h2
      split at h2
      · rename_i xs ys ea eb
        split at h2
        · rename_i hn
          cases h2
          obtain ⟨p, vs, rfl, hp, z, r⟩ := xv_items I ra ea
          obtain ⟨p2, ws, rfl, hp2, z2, r2⟩ := xv_items I rb eb
          exact .inr ⟨p, p2, vs, ws, rfl, rfl, hp, hp2, by rw [r.length, r2.length]; exact hn, q.flat I (.bl _)⟩
        · cases h2
      · cases h2
theorem sNe (hk : SysK X.K) : OpS X.K X.mg' (rEqP X true) gNe := by
  intro G F H ps L x y a b s Q I ra rb e q
  unfold gNe at e
  cases h : gEqB a b with
  | none => rw [h] at e; cases e
  | some k =>
    rw [h] at e; cases e
    exact sEqP hk I ra rb h q
theorem oEq (hu : X.A.units + 65 < cLine) : OpR X (compareOp .Eq) (fun x y H Q => rEqP X false x y H Q ∨ rEqL x y H Q) := OpR.or (oEqP hu) (oEqL hu)

/-! ### in, not in -/
def inStr (x y : Str) : Bool := !(Builtin.Str.occurrences y x 0 y.length 1).isEmpty
def rInS (neg : Bool) : R2 := fun x y H Q => ∃ i j, x = .str i ∧ y = .str j ∧ Q (.bl (if neg then !inStr i j else inStr i j)) H
theorem oInS : OpR X (compareOp .In) (rInS false) := op_in_str
theorem oNotInS : OpR X (compareOp .NotIn) (rInS true) := op_notin_str
def okIn (p : PyData) (qs : List PyData) : Bool := p.plain && PyData.plainAll qs && decide (p.depth ≤ 64)
def rInP (X : Cx) (neg : Bool) : R2 := fun x y H Q => ∃ p qs, RdAt X H x p ∧ (RdAt X H y (.list qs) ∨ RdAt X H y (.tuple qs)) ∧ okIn p qs = true ∧ Q (.bl (if neg then !(qs.any fun z => PyData.eqv z p) else qs.any fun z => PyData.eqv z p)) H
theorem oInP (hu : X.A.units + 70 < cLine) : OpR X (compareOp .In) (rInP X false) := by
  intro pins s σ H x y v u Q I rx ry h
  obtain ⟨p, q, h1, h2, ok, hq⟩ := h
  obtain ⟨as, r1, _⟩ := h1 _ _ _ _ I rx
  simp [okIn] at ok
  rcases h2 with h2 | h2
  · obtain ⟨bs, r2, _⟩ := h2 _ _ _ _ I ry
    exact SeqAt.in_list_data r2 r1 ok.1.2 ok.1.1 (by have := ok.2; omega) ⟨.bl _, H, I, rfl, hq⟩
  · obtain ⟨bs, r2, _⟩ := h2 _ _ _ _ I ry
    exact SeqAt.in_tuple_data r2 r1 ok.1.2 ok.1.1 (by have := ok.2; omega) ⟨.bl _, H, I, rfl, hq⟩
theorem oNotInP (hu : X.A.units + 70 < cLine) : OpR X (compareOp .NotIn) (rInP X true) := by
  intro pins s σ H x y v u Q I rx ry h
  obtain ⟨p, q, h1, h2, ok, hq⟩ := h
  obtain ⟨as, r1, _⟩ := h1 _ _ _ _ I rx
  simp [okIn] at ok
  rcases h2 with h2 | h2
  · obtain ⟨bs, r2, _⟩ := h2 _ _ _ _ I ry
    exact SeqAt.notIn_list_data r2 r1 ok.1.2 ok.1.1 (by have := ok.2; omega) ⟨.bl _, H, I, rfl, hq⟩
  · obtain ⟨bs, r2, _⟩ := h2 _ _ _ _ I ry
    exact SeqAt.notIn_tuple_data r2 r1 ok.1.2 ok.1.1 (by have := ok.2; omega) ⟨.bl _, H, I, rfl, hq⟩
def rInD (neg : Bool) : R2 := fun x y H Q => ∃ a o, y = .ref a ∧ DGet H a x o ∧ Q (.bl (if neg then !o.isSome else o.isSome)) H
theorem oInD (hu : X.A.units + 70 < cLine) : OpR X (compareOp .In) (rInD false) := by
  intro pins s σ H x y v u Q I rx ry h
  obtain ⟨a, o, rfl, g, hq⟩ := h
  cases ry
  exact d_in (by omega) I g rx fun s' I' => ⟨.bl _, H, I', rfl, hq⟩
theorem oNotInD (hu : X.A.units + 70 < cLine) : OpR X (compareOp .NotIn) (rInD true) := by
  intro pins s σ H x y v u Q I rx ry h
  obtain ⟨a, o, rfl, g, hq⟩ := h
  cases ry
  exact d_notIn (by omega) I g rx fun s' I' => ⟨.bl _, H, I', rfl, hq⟩
/-- the pairs of a dict -/
def Sv.prs : Sv → Option (List (Key × Dv))
  | .val (.dic ks) => some ks
  | .borD ks => some ks
  | _ => none
/-- a key -/
def Sv.key : Sv → Option Key
  | .val (.int i) => some (.inl i)
  | .val (.str x) => some (.inr x)
  | _ => none
def lookK (ks : List (Key × Dv)) (k : Key) : Option Dv := (ks.find? fun q => q.1 = k).map (·.2)
theorem xv_prs {K : PySem.W.Frag} {mg : Str → Option Value} {x : V} {a : Sv} (I : HS K mg G F H ps L) {ks : List (Key × Dv)} (h : XvOk K mg G F ps x a) (e : a.prs = some ks) : ∃ p ws, x = .ref p ∧ Rd H p (.dK ws) ∧ ws.length ≤ sizeLine ∧ RDk K mg F ps ws ks := by
  cases a with
  | val d =>
    cases d <;> simp [Sv.prs] at e
    subst e
    cases h with
    | dic h z r => exact ⟨_, _, rfl, .inr ⟨_, I.same _ _ h⟩, z, r⟩
  | borD ys =>
    simp [Sv.prs] at e
    subst e
    obtain ⟨p, vs, a, b, c, r⟩ := h
    exact ⟨p, vs, a, .inl (I.frame _ _ b), c, r⟩
  | bor _ => simp [Sv.prs] at e
  | mu _ => simp [Sv.prs] at e
  | muD _ => simp [Sv.prs] at e
  | xc _ _ => simp [Sv.prs] at e
theorem xv_key {K : PySem.W.Frag} {mg : Str → Option Value} {x : V} {a : Sv} {k : Key} (h : XvOk K mg G F ps x a) (e : a.key = some k) : x = kV k ∧ ∀ y, k = .inr y → y.length ≤ sizeLine := by
  cases a with
  | val d =>
    cases d <;> simp [Sv.key] at e
    · subst e; exact ⟨xv_int h, fun y q => nomatch q⟩
    · subst e; have := xv_str h; exact ⟨this.1, fun y q => by cases q; exact this.2⟩
  | bor _ => simp [Sv.key] at e
  | borD _ => simp [Sv.key] at e
  | mu _ => simp [Sv.key] at e
  | muD _ => simp [Sv.key] at e
  | xc _ _ => simp [Sv.key] at e
theorem look_rel {K : PySem.W.Frag} {mg : Str → Option Value} (k : Key) : ∀ {ws : List (Key × V)} {ks : List (Key × Dv)}, RDk K mg F ps ws ks →
    (lookK ks k = none ∧ valV ws k = none) ∨ ∃ v d, lookK ks k = some d ∧ valV ws k = some v ∧ RD K mg F ps v d
  | _, _, .nil => .inl ⟨rfl, rfl⟩
  | _, _, .cons (k := k2) (v := v) (d := d) z h r => by
    by_cases e : k2 = k
    · exact .inr ⟨v, d, by simp [lookK, e], by simp [valV, e], h⟩
    · rcases look_rel k r with ⟨a, b⟩ | ⟨v', d', a, b, c⟩
      · exact .inl ⟨by simpa [lookK, e] using a, by simpa [valV, e] using b⟩
      · exact .inr ⟨v', d', by simpa [lookK, e] using a, by simpa [valV, e] using b, c⟩
theorem dget_of {H : Hp} {p : Addr} {ws : List (Key × V)} (h : Rd H p (.dK ws)) (k : Key) : DGet H p (kV k) (valV ws k) := .inl ⟨ws, k, h, rfl, rfl⟩
def gInB (a b : Sv) : Option Bool := match a, b with
  | .val (.str x), .val (.str y) => some (inStr x y)
  | a, b => match a.key, b.prs with
    | some k, some ks => some (lookK ks k).isSome
    | _, _ => match a.py, b.py with
      | some p, some (.list qs) => if okIn p qs = true then some (qs.any fun z => PyData.eqv z p) else none
      | some p, some (.tuple qs) => if okIn p qs = true then some (qs.any fun z => PyData.eqv z p) else none
      | _, _ => none
def gIn (neg : Bool) (a b : Sv) (_ : Led) : Option Sv := (gInB a b).map fun k => .val (.bl (if neg then !k else k))
def rIn3 (X : Cx) (neg : Bool) : R2 := fun x y H Q => rInS neg x y H Q ∨ rInD neg x y H Q ∨ rInP X neg x y H Q
theorem oIn (hu : X.A.units + 70 < cLine) : OpR X (compareOp .In) (rIn3 X false) := OpR.or oInS (OpR.or (oInD hu) (oInP hu))
theorem oNotIn (hu : X.A.units + 70 < cLine) : OpR X (compareOp .NotIn) (rIn3 X true) := OpR.or oNotInS (OpR.or (oNotInD hu) (oNotInP hu))
theorem sIn {neg : Bool} (hk : SysK X.K) : OpS X.K X.mg' (rIn3 X neg) (gIn neg) := by
  intro G F H ps L x y a b s Q I ra rb e q
  unfold gIn at e
  cases h : gInB a b with
  | none => rw [h] at e; cases e
  | some k =>
    rw [h] at e; cases e
    unfold gInB at h
    split at h
    · cases h
      exact .inl ⟨_, _, (xv_str ra).1, (xv_str rb).1, q.flat I (.bl _)⟩
    · split at h
      · rename_i kk ks ek eb
        cases h
        obtain ⟨p, ws, rfl, hp, z, r⟩ := xv_prs I rb eb
        obtain ⟨rfl, _⟩ := xv_key ra ek
        refine .inr (.inl ⟨p, _, rfl, dget_of hp kk, ?_⟩)
        have e2 : (valV ws kk).isSome = (lookK ks kk).isSome := by
          rcases look_rel (K := X.K) (mg := X.mg') kk r with ⟨a, b⟩ | ⟨v', d', a, b, c⟩
          · rw [a, b]; rfl
          · rw [a, b]; rfl
        rw [e2]
        exact q.flat I (.bl _)
      · split at h
        · rename_i p qs h1 h2
          split at h
          · rename_i ok
            cases h
            exact .inr (.inr ⟨p, qs, XvOk.reads (K' := X.K) hk I ra h1, .inl (XvOk.reads (K' := X.K) hk I rb h2), ok, q.flat I (.bl _)⟩)
          · cases h
        · rename_i p qs h1 h2
          split at h
          · rename_i ok
            cases h
            exact .inr (.inr ⟨p, qs, XvOk.reads (K' := X.K) hk I ra h1, .inr (XvOk.reads (K' := X.K) hk I rb h2), ok, q.flat I (.bl _)⟩)
          · cases h
        · cases h
end
end DL

/-! DL, part 4: defs by what their bodies denote; calls. -/
namespace DL
open PySem PySem.Spec PyProof.Rows L2

/-! ### a def's promise where no repr is running -/
structure FnG (P : Program) (w : World) (K : PySem.W.Frag) (mg : Str → Option Value) (base : Heap) (k : Nat) (f : Addr) (fd : FuncData) (ps : List Str) (sp : Sp) : Prop where
  few : ∀ vs H Q E, sp vs H Q E → vs.length = ps.length
  go : ∀ (A : Around) (out : List Env) (s : Shared) (H : Hp) (args : Args) (us : List Value) (vs : List V) (Q : VK) (E : XK), A.guards = some [] → Room k A → Env0 P w K mg base A out s H → BindsTo s fd args (ps.zip us) → Vals vs us → sp vs H Q E →
    codeAny (model P w) A (.call (.ref f) args) (CR (L2.CX P w) out P w H s Q E) s
theorem FnG.mono {P : Program} {w : World} {K : PySem.W.Frag} {mg : Str → Option Value} {base : Heap} {j k : Nat} {f : Addr} {fd : FuncData} {ps : List Str} {sp : Sp} (F : FnG P w K mg base j f fd ps sp) (h : j ≤ k) : FnG P w K mg base k f fd ps sp :=
  ⟨F.few, fun A out s H args us vs Q E g hr => F.go A out s H args us vs Q E g (hr.mono h)⟩
/-- from the body -/
theorem fnG_of {P : Program} {w : World} {K : PySem.W.Frag} {mg : Str → Option Value} {base : Heap} {k : Nat} {f : Addr} {x qual : Str} {st : Stmt} {fd : FuncData} {N ps : List Str} {sp : Sp} (D : Fun K x qual st f fd) (S : FnScope N ps (defScope st))
    (few : ∀ vs H Q E, sp vs H Q E → vs.length = ps.length)
    (hb : ∀ (cdv : Value) (A : Around) (out : List Env) (s : Shared) (H : Hp) (vs : List V) (Q : VK) (E : XK), (A.deeper (envOfC qual (defScope st) s.heap.objs.size f cdv)).guards = some [] → Room k (A.deeper (envOfC qual (defScope st) s.heap.objs.size f cdv)) → sp vs H Q E →
      ∃ t, PSs (cxOf (L2.CX P w) P w K mg base N qual (defScope st) f cdv A out s H E) (defBody st) t ∧ t { nx := fun _ H' => Q .non H', rt := Q } (start N vs) H) :
    FnG P w K mg base (k + 1) f fd ps sp := by
  refine ⟨few, fun A out s H args us vs Q E hgu hr e0 bnd rel hsp => ?_⟩
  obtain ⟨⟨oc, od, kV, doc, pm, an, cdv, ct, osl, rfl, lk, hcd⟩, _⟩ := D
  have inK : K.In s.heap := e0.mod.kin.keeps fun a o e => (e0.bs a o e).1
  have nolim : s.heap.NoLimit := e0.mod.nolimit.keeps fun a o e => (e0.bs a o e).1
  refine codeAny_call_function hr.depth (inK _ _ lk) rfl S.co S.gen rfl (PySem.W.codeRec_of inK hcd) (bnd _ _ _ _ ?_)
  refine wpAny_newFunctionEnv_cells S.kind (fun ⟨n, v⟩ hy => ?_) fun env he s1 inc => ?_
  · rcases S.par n (List.of_mem_zip hy).1 with hl | hc
    · exact Or.inl hl
    · exact Or.inr ⟨hc, PySem.W.cellsFrom_some _ _ _ (Or.inl hc)⟩
  subst he
  refine ⟨nolim.keeps inc.toInCall.keep, codeAny_func ?_⟩
  obtain ⟨t, body, ht⟩ := hb cdv A out s H vs Q E (by exact hgu) (hr.deeper _) hsp
  have J := inv_start (CX := L2.CX P w) (P := P) (w := w) (mg := mg) (base := base) (N := N) (E := E) S hr.hd e0 (few _ _ _ _ hsp) rel inc
  refine wpAny_mono (body.run [] s1 (start N vs) H _ J ht) (fun fl s2 r => ?_) fun e s2 r => r
  cases fl with
  | ret u =>
    obtain ⟨v, σ2, H2, J2, r1, r2⟩ := r
    exact ⟨v, H2, J2.os, J2.bare, J2.base, J2.hok, r1, r2⟩
  | next =>
    obtain ⟨σ2, H2, J2, r2⟩ := r
    exact ⟨.non, H2, J2.os, J2.bare, J2.base, J2.hok, rfl, r2⟩
  | brk =>
    obtain ⟨σ2, H2, J2, r2⟩ := r
    exact r2.elim
  | cont =>
    obtain ⟨σ2, H2, J2, r2⟩ := r
    exact r2.elim

/-! ### what a def does, as a function of values -/
def spOf (K : PySem.W.Frag) (mg : Str → Option Value) (n : Nat) (m : List Sv → Led → Res Dv) : Sp := fun vs H Q E => vs.length = n ∧ ∃ G F ps ss L, HS K mg G F H ps L ∧ XvsOk K mg G F ps vs ss ∧
  (m ss L).wp (fun d L' => ∀ v F' H' ps', Ext F ps F' ps' → HS K mg G F' H' ps' L' → RD K mg F' ps' v d → Q v H')
    (fun e _ L' => ∀ cls d F' H' ps', Ext F ps F' ps' → HS K mg G F' H' ps' L' → RX K mg F' H' ps' cls d e → E cls d H')
abbrev DFn (P : Program) (w : World) (K : PySem.W.Frag) (mg : Str → Option Value) (base : Heap) (k : Nat) (f : Addr) (fd : FuncData) (ps : List Str) (m : List Sv → Led → Res Dv) : Prop := FnG P w K mg base k f fd ps (spOf K mg ps.length m)
def start' (n : Nat) (ss : List Sv) : Slo := ss.map some ++ List.replicate (n - ss.length) none
def endOf (r : Res Fl) : Res Dv := match r with
  | .ok (.rt d) L => .ok d L
  | .ok (.nx _) L => .ok .non L
  | .ok _ _ => .bad
  | .err e _ L => .err e [] L
  | .bad => .bad
@[simp] theorem endOf_rt {d : Dv} {L : Led} : endOf (.ok (.rt d) L) = .ok d L := rfl
@[simp] theorem endOf_nx {r : Slo} {L : Led} : endOf (.ok (.nx r) L) = .ok .non L := rfl
@[simp] theorem endOf_err {e : Exn} {r : Slo} {L : Led} : endOf (.err e r L) = .err e [] L := rfl
/-- n: how many names there are -/
def mOf (n : Nat) (fb : DM Fl) (ss : List Sv) (L : Led) : Res Dv := endOf (fb (start' n ss) L)
section
variable {K : PySem.W.Frag} {mg : Str → Option Value} {G G' G0 F H : Hp} {ps : List Addr} {L : Led}
theorem HS.weak (I : HS K mg G' F H ps L) (g : Same G G') : HS K mg G F H ps L := by
  refine ⟨g.trans I.frame, I.same, fun a h => I.apart a fun e => h (g.free e), I.len, I.nd, fun p hp l => ⟨(I.free p hp l).1, g.free (I.free p hp l).2⟩, fun k p c hk hc => ?_⟩
  have old := I.at_ k p c hk hc
  cases c with
  | lst xs => exact old
  | dic ks => exact old
  | obj c fs => obtain ⟨C, dx, gs, a, b, c0, c1, c2, r⟩ := old; exact ⟨C, dx, gs, a, b, c0, c1, g.free c2, r⟩
  | gone => exact old
theorem slots_start {N : List Str} {vs : List V} {ss : List Sv} (h : XvsOk K mg G F ps vs ss) (hl : vs.length ≤ N.length) : Slots K mg G G F ps (start N vs) (start' N.length ss) := by
  have e := h.length
  refine ⟨?_, fun i s hs => ?_, fun i j s t v hs ht m1 _ _ _ => ?_⟩
  · show (ss.map some ++ List.replicate (N.length - ss.length) none).length = (vs.map some ++ List.replicate (N.length - vs.length) none).length
    simp [e]
  all_goals
    have key : ∀ {i : Nat} {s : Sv}, (start' N.length ss)[i]? = some (some s) → ss[i]? = some s := fun {i s} hs => by
      unfold start' at hs
      by_cases hi : i < ss.length
      · rw [List.getElem?_append_left (by simpa using hi), List.getElem?_map] at hs
        cases q : ss[i]? with
        | none => rw [q] at hs; simp at hs
        | some z => rw [q] at hs; simp at hs; rw [hs]
      · rw [List.getElem?_append_right (by simpa using hi)] at hs
        have := List.mem_of_getElem? hs
        simp at this
    have all : ∀ {vs : List V} {ss : List Sv}, XvsOk K mg G F ps vs ss → ∀ {i : Nat} {s : Sv}, ss[i]? = some s → ∃ v, vs[i]? = some v ∧ XvOk K mg G F ps v s := by
      intro vs ss h
      induction h with
      | nil => intro i s e; simp at e
      | cons r _ ih =>
        intro i s e
        cases i with
        | zero => simp at e; subst e; exact ⟨_, rfl, r⟩
        | succ i => simpa using ih (by simpa using e)
  · obtain ⟨v, hv, r⟩ := all h (key hs)
    refine ⟨v, ?_, ?_⟩
    · show (vs.map some ++ List.replicate (N.length - vs.length) none)[i]? = _
      have hi : i < vs.length := (List.getElem?_eq_some_iff.mp hv).1
      rw [List.getElem?_append_left (by simpa using hi), List.getElem?_map, hv]
      rfl
    · cases s with
      | val d => exact r
      | bor xs => exact r
      | borD ks => exact r
      | mu _ => exact r.elim
      | muD _ => exact r.elim
      | xc _ _ => exact r
  · obtain ⟨v2, _, r⟩ := all h (key hs)
    cases s with
    | mu _ => exact r.elim
    | muD _ => exact r.elim
    | xc _ _ => cases m1
    | val _ => cases m1
    | bor _ => cases m1
    | borD _ => cases m1
end
/-- THE RULE for a def -/
theorem dfn_of {P : Program} {w : World} {K : PySem.W.Frag} {mg : Str → Option Value} {base : Heap} {k : Nat} {f : Addr} {x qual : Str} {st : Stmt} {fd : FuncData} {N ps : List Str} {fb : DM Fl} (D : Fun K x qual st f fd) (S : FnScope N ps (defScope st))
    (hb : ∀ (X : Cx) (W : WX), X.prog = P → X.w = w → X.K = K → X.mg = mg → X.base = base → X.N = N → X.env.scope = defScope st → X.stack = X.env :: X.outer → X.env.frame = some X.env.locals → X.calm = true → X.fn = (fun _ => true) → X.A.guards = some [] → Room k X.A → Takes X W →
      PassesOwn (model X.prog X.w) X.A X.env X.xe → DSs X W (defBody st) fb) :
    DFn P w K mg base (k + 1) f fd ps (mOf N.length fb) := by
  have hN : ps.length ≤ N.length := by
    have := congrArg List.length S.pre
    rw [List.length_take] at this
    omega
  refine fnG_of D S (fun vs H Q E h => h.1) fun cdv A out s H vs Q E hgu hr hsp => ⟨_, hb (cxOf (L2.CX P w) P w K mg base N qual (defScope st) f cdv A out s H E) (fun cls d _ H => E cls d H) rfl rfl rfl rfl rfl rfl rfl rfl rfl rfl rfl hgu hr (takes_of rfl rfl rfl rfl) (passes_of rfl), ?_⟩
  obtain ⟨hl, G, F, ps', ss, L, I, R, h⟩ := hsp
  refine ⟨G, G, F, ps', _, L, Same.refl G, I, slots_start R (by omega), ?_⟩
  unfold mOf at h
  cases q : fb (start' N.length ss) L with
  | bad => rw [q] at h; exact h.elim
  | err e r L' =>
    rw [q] at h
    exact fun cls d σ' G' F' H' p' g x J _ rx => h cls d F' H' p' x (J.weak g) rx
  | ok fl L' =>
    rw [q] at h
    cases fl with
    | rt d => exact fun v G' F' H' p' g x J r => h v F' H' p' x (J.weak g) r
    | nx r => exact fun σ' G' F' H' p' g x J _ => h .non F' H' p' x (J.weak g) .non
    | bk r => exact h.elim
    | ct r => exact h.elim

/-! ### calls -/
/-- places of a list, one after another -/
def pick {α : Type} : List Nat → List α → List α
  | [], _ => []
  | i :: p, l => match l[i]? with
    | some x => x :: pick p l
    | none => pick p l
theorem pick_rel {α β : Type} {R : α → β → Prop} {l : List α} {m : List β} (h : Paired R l m) : ∀ p : List Nat, Paired R (pick p l) (pick p m)
  | [] => .nil
  | i :: p => by
    have all : ∀ {l : List α} {m : List β}, Paired R l m → ∀ i : Nat, (l[i]? = none ∧ m[i]? = none) ∨ ∃ x y, l[i]? = some x ∧ m[i]? = some y ∧ R x y := by
      intro l m h
      induction h with
      | nil => intro i; exact .inl ⟨rfl, rfl⟩
      | cons r _ ih =>
        intro i
        cases i with
        | zero => exact .inr ⟨_, _, rfl, rfl, r⟩
        | succ i => simpa using ih i
    rcases all h i with ⟨a, b⟩ | ⟨x, y, a, b, r⟩
    · simp only [pick, a, b]; exact pick_rel h p
    · simp only [pick, a, b]; exact .cons r (pick_rel h p)
theorem paired_app {α β : Type} {R : α → β → Prop} {l l2 : List α} {m m2 : List β} (h : Paired R l m) (h2 : Paired R l2 m2) : Paired R (l ++ l2) (m ++ m2) := by
  induction h with
  | nil => exact h2
  | cons r _ ih => exact .cons r ih
/-- how a call binds: n positional values, keywords ks; perm tells which of them each parameter gets -/
def KBd (K : PySem.W.Frag) (fd : FuncData) (ps : List Str) (n : Nat) (ks : List Str) (perm : List Nat) : Prop :=
  ∀ (s : Shared) (us ws : List Value), us.length = n → ws.length = ks.length → BindsTo s fd ⟨us, ks.zip ws⟩ (ps.zip (pick perm (us ++ ws)))
theorem kbd_of {K : PySem.W.Frag} {x qual : Str} {st : Stmt} {f : Addr} {fd : FuncData} {ps ks : List Str} {n : Nat} {perm : List Nat} (D : Fun K x qual st f fd)
    (h : ∀ (kV doc pm : Value) (an : Option Addr) (cdv ct : Value) (us ws : List Value), us.length = n → ws.length = ks.length → bindArgs (PySem.W.fnOf x qual (defArgs st) (defBody st) (defScope st) .none kV doc pm an cdv ct) ⟨us, ks.zip ws⟩ = pure (ps.zip (pick perm (us ++ ws)))) : KBd K fd ps n ks perm := by
  intro s us ws h1 h2
  obtain ⟨oc, od, kV, doc, pm, an, cdv, ct, osl, rfl, _, _⟩ := D.ex
  exact .of_eq (h kV doc pm an cdv ct us ws h1 h2)
def dArgs0 : DM (List Sv) := fun _ L => .ok [] L
def dArgs (fa : DM Sv) (fr : DM (List Sv)) : DM (List Sv) := fun ρ L => (fa ρ L).bind fun x L1 => (fr ρ L1).bind fun xs L2 => .ok (x :: xs) L2
def toSv (r : Res Dv) : Res Sv := match r with
  | .ok d L => .ok (.val d) L
  | .err e r L => .err e r L
  | .bad => .bad
@[simp] theorem toSv_ok {d : Dv} {L : Led} : toSv (.ok d L) = .ok (.val d) L := rfl
@[simp] theorem toSv_err {e : Exn} {r : Slo} {L : Led} : toSv (.err e r L) = .err e r L := rfl
def dCall (n : Nat) (m : List Sv → Led → Res Dv) (fa : DM (List Sv)) : DM Sv := fun ρ L => (fa ρ L).bind fun ss L1 => if ss.length = n then toSv ((m ss L1).at_ ρ) else .bad
def dCallK (n k : Nat) (perm : List Nat) (m : List Sv → Led → Res Dv) (fa fk : DM (List Sv)) : DM Sv := fun ρ L => (fa ρ L).bind fun ss L1 => (fk ρ L1).bind fun zs L2 => if ss.length = n ∧ zs.length = k then toSv ((m (pick perm (ss ++ zs)) L2).at_ ρ) else .bad
section
variable {X : Cx} {W : WX} {e : Expr} {es : List Expr} {fa : DM Sv} {fr fk : DM (List Sv)} {pos p : Pos} {k n : Nat} {f : Addr} {fd : FuncData} {ps ks : List Str} {m : List Sv → Led → Res Dv} {x : Str} {perm : List Nat} {kws : List Keyword}
theorem da_nil : DA X W [] dArgs0 := imA pa_nil fun σ H Q ⟨G0, G, F, ps, ρ, L, g0, I, S, h⟩ => h [] F H ps (Ext.refl F ps) I .nil
theorem tCons_of {K : PySem.W.Frag} {mg : Str → Option Value} {σ : List (Option V)} {H : Hp} {Q : List V → Hp → Prop} (h : tA K mg W (dArgs fa fr) σ H Q) : tCons (tE K mg W fa) (tA K mg W fr) σ H Q := by
  obtain ⟨G0, G, F, ps, ρ, L, g0, I, S, h⟩ := h
  refine ⟨G0, G, F, ps, ρ, L, g0, I, S, Res.wp_mono (Res.wp_bind h) (fun x L1 h1 v F1 H1 p1 x1 I1 r1 => ?_) fun e r L' q => q⟩
  refine ⟨G0, G, F1, p1, ρ, L1, g0, I1, S.ext x1, Res.wp_mono (Res.wp_bind h1) (fun y L2 h2 u F2 H2 p2 x2 I2 r2 => ?_) fun e r L' q => EE.ext x1 q⟩
  exact h2 (v :: u) F2 H2 p2 (x1.trans x2) I2 (.cons (r1.ext x2) r2)
theorem da_cons (ha : DE X W e fa) (hr : DA X W es fr) (hs : starEach (e :: es) X.env = (false, eval e X.env) :: starEach es X.env := by rfl) : DA X W (e :: es) (dArgs fa fr) := imA (pa_cons ha hr hs) fun _ _ _ h => tCons_of h
abbrev DK (X : Cx) (W : WX) (ks : List Keyword) (f : DM (List Sv)) : Prop := PK X ks (tA X.K X.mg' W f)
theorem imK {ks : List Keyword} {t t' : TA} (p : PK X ks t) (h : ∀ σ H Q, t' σ H Q → t σ H Q) : PK X ks t' := ⟨fun pos pins s σ H Q I w => p.run pos pins s σ H Q I (h σ H Q w)⟩
theorem dk_nil : DK X W [] dArgs0 := imK pk_nil fun σ H Q ⟨G0, G, F, ps, ρ, L, g0, I, S, h⟩ => h [] F H ps (Ext.refl F ps) I .nil
theorem dk_cons {nm : Option Str} {kp : Pos} (ha : DE X W e fa) (hr : DK X W kws fr) : DK X W (⟨nm, e, kp⟩ :: kws) (dArgs fa fr) := imK (pk_cons ha hr) fun _ _ _ h => tCons_of h
/-- the callee runs -/
theorem run_fnG {sp : Sp} {pins : List (Addr × Obj)} {σ : List (Option V)} {H : Hp} {s : Shared} {Q : VK} {us : List Value} {vs : List V} {args : List Value} {kw : List (Str × Value)} {E : XK} (R : FnG X.prog X.w X.K X.mg X.base k f fd ps sp) (hgu : X.A.guards = some []) (hr : Room k X.A) (bnd : BindsTo s fd ⟨args, kw⟩ (ps.zip us))
    (pa : PassesAt (L2.CX X.prog X.w) X σ E) (I : Inv X pins σ H s) (rel : Vals vs us) (h : sp vs H Q E) : wpAny (model X.prog X.w) X.A (call (.ref f) args kw) (EP X pins σ Q) X.xe s := by
  refine wpAny_call (codeAny_mono (R.go X.A X.stack s H ⟨args, kw⟩ us vs Q E hgu hr I.env0 bnd rel h) fun r s2 q => ?_)
  rcases r with e | fl
  · first | exact pa pins H s e s2 I q | exact I.after q
  · cases fl with
    | ret u => exact I.after q
    | next => exact q.elim
    | brk => exact q.elim
    | cont => exact q.elim
/-- what the call gives, at the caller's state -/
theorem sp_of {K : PySem.W.Frag} {mg : Str → Option Value} {G0 G F H : Hp} {ps' : List Addr} {L : Led} {σ : List (Option V)} {ρ : Slo} {vs : List V} {ss : List Sv} {Q : VK} (hl : vs.length = n) (g0 : Same G0 G) (I : HS K mg G F H ps' L) (S : Slots K mg G0 G F ps' σ ρ) (R : XvsOk K mg G F ps' vs ss)
    (h : (toSv ((m ss L).at_ ρ)).wp (QE K mg G F ps' Q) (EE K mg G0 F ps' W)) : spOf K mg n m vs H Q (WE W σ) := by
  refine ⟨hl, G, F, ps', ss, L, I, R, ?_⟩
  cases q : m ss L with
  | bad => rw [q] at h; exact h.elim
  | ok d L' => rw [q] at h; exact fun v F' H' p' x J r => h v F' H' p' x J r
  | err e r L' => rw [q] at h; exact fun cls d F' H' p' x J rx => h cls d σ G F' H' p' g0 x J (S.ext x) rx
theorem call_sp {K : PySem.W.Frag} {mg : Str → Option Value} {σ : List (Option V)} {H : Hp} {Q : VK} (h : tE K mg W (dCall n m fr) σ H Q) : tA K mg W fr σ H fun vs H1 => spOf K mg n m vs H1 Q (WE W σ) := by
  obtain ⟨G0, G, F, ps, ρ, L, g0, I, S, h⟩ := h
  refine ⟨G0, G, F, ps, ρ, L, g0, I, S, Res.wp_mono (Res.wp_bind h) (fun ss L1 h1 vs F1 H1 p1 x1 I1 r1 => ?_) fun e r L' q => q⟩
  split at h1
  · rename_i hl
    exact sp_of (by rw [r1.length]; exact hl) g0 I1 (S.ext x1) r1 (Res.wp_mono h1 (fun _ _ q => QE.ext x1 q) fun _ _ _ q => EE.ext x1 q)
  · exact h1.elim
theorem callK_sp {K : PySem.W.Frag} {mg : Str → Option Value} {σ : List (Option V)} {H : Hp} {Q : VK} {j : Nat} (h : tE K mg W (dCallK n j perm m fr fk) σ H Q) : tA K mg W fr σ H fun vs H1 => tA K mg W fk σ H1 fun zs H2 => vs.length = n ∧ zs.length = j ∧ spOf K mg (pick perm (vs ++ zs)).length m (pick perm (vs ++ zs)) H2 Q (WE W σ) := by
  obtain ⟨G0, G, F, ps, ρ, L, g0, I, S, h⟩ := h
  refine ⟨G0, G, F, ps, ρ, L, g0, I, S, Res.wp_mono (Res.wp_bind h) (fun ss L1 h1 vs F1 H1 p1 x1 I1 r1 => ?_) fun e r L' q => q⟩
  refine ⟨G0, G, F1, p1, ρ, L1, g0, I1, S.ext x1, Res.wp_mono (Res.wp_bind h1) (fun zz L2 h2 zs F2 H2 p2 x2 I2 r2 => ?_) fun e r L' q => EE.ext x1 q⟩
  split at h2
  · rename_i hl
    refine ⟨by rw [r1.length]; exact hl.1, by rw [r2.length]; exact hl.2, ?_⟩
    exact sp_of rfl g0 I2 ((S.ext x1).ext x2) (pick_rel (paired_app (r1.ext x2) r2) perm) (Res.wp_mono h2 (fun _ _ q => QE.ext (x1.trans x2) q) fun _ _ _ q => EE.ext (x1.trans x2) q)
  · exact h2.elim
/-- f(a, b, ..) -/
theorem de_call (hc : X.calm = true) (R : DFn X.prog X.w X.K X.mg X.base k f fd ps m) (hgu : X.A.guards = some []) (hr : Room k X.A) (hg : Gl X x) (hm : X.mg x = some (.ref f)) (hk : PySem.W.keepIn X.K (.ref f) = true) (hb : Binds X.K fd ps []) (tk : Takes X W)
    (ha : DA X W (e :: es) fr) (hdb : (x == ("__debug__" : Str)) = false := by decide) (he : starEach (e :: es) X.env = (false, eval e X.env) :: starEach es X.env := by rfl) (hpl : (backTo pos (starEach es X.env)).any (·.1) = false := by rfl) :
    DE X W (.Call (.Name x p) (e :: es) [] pos) (dCall ps.length m fr) := by
  refine ⟨fun pins s σ H Q I h => wpAny_Call_Name_kw (ld_glob I hg hm ?_ hdb)⟩
  refine PySem.W.callWith_K (h₀ := X.base) I.ok.mod.kin hk (thn (ha.run pos pins s σ H _ I (call_sp h)) fun us s1 h1 => ?_) he hpl
  obtain ⟨vs, H1, J, rel, hsp⟩ := h1
  have hl : (us ++ []).length = ps.length := by rw [List.append_nil, ← rel.length]; exact hsp.1
  have b1 := hb s1 us J.kIn hl
  rw [List.append_nil] at b1
  rw [calm_mg hc] at hsp
  exact ⟨J.kIn, run_fnG R hgu hr b1 (passAt tk σ) J rel hsp⟩
theorem de_call0 (hc : X.calm = true) (R : DFn X.prog X.w X.K X.mg X.base k f fd ps m) (hgu : X.A.guards = some []) (hr : Room k X.A) (hg : Gl X x) (hm : X.mg x = some (.ref f)) (hk : PySem.W.keepIn X.K (.ref f) = true) (hb : Binds X.K fd ps []) (tk : Takes X W)
    (hdb : (x == ("__debug__" : Str)) = false := by decide) : DE X W (.Call (.Name x p) [] [] pos) (dCall ps.length m dArgs0) := by
  refine ⟨fun pins s σ H Q I h => wpAny_Call_Name_kw (ld_glob I hg hm ?_ hdb)⟩
  refine PySem.W.callWith_K0 I.kIn hk ?_
  obtain ⟨G0, G, F, ps', ρ, L, g0, J, S, h⟩ := h
  unfold dCall dArgs0 at h
  rw [Res.bind_ok] at h
  split at h
  · rename_i hl
    have hsp : spOf X.K X.mg' ps.length m [] H Q (WE W σ) := sp_of (ss := []) hl g0 J S .nil h
    have b1 := hb s [] I.kIn (by simpa using hl)
    rw [calm_mg hc] at hsp
    exact run_fnG R hgu hr b1 (passAt tk σ) I .nil hsp
  · exact h.elim
/-- f(a, .., k = v, ..) -/
theorem de_callK (hc : X.calm = true) (R : DFn X.prog X.w X.K X.mg X.base k f fd ps m) (hgu : X.A.guards = some []) (hr : Room k X.A) (hg : Gl X x) (hm : X.mg x = some (.ref f)) (hk : PySem.W.keepIn X.K (.ref f) = true) (hb : KBd X.K fd ps n ks perm) (hpl' : ∀ (l : List V), l.length = n + ks.length → (pick perm l).length = ps.length) (tk : Takes X W)
    (ha : DA X W (e :: es) fr) (hkw : DK X W kws fk) (hall : (backToKw pos (keywordEach kws X.env)).all (·.1.isSome) = true := by rfl) (hks : (backToKw pos (keywordEach kws X.env)).filterMap (·.1) = ks := by rfl)
    (hdb : (x == ("__debug__" : Str)) = false := by decide) (he : starEach (e :: es) X.env = (false, eval e X.env) :: starEach es X.env := by rfl)
    (hpl : ((backTo pos (starEach (e :: es) X.env)).any (·.1) || (backToKw pos (keywordEach kws X.env)).any (·.1.isNone)) = false := by rfl) :
    DE X W (.Call (.Name x p) (e :: es) kws pos) (dCallK n ks.length perm m fr fk) := by
  refine ⟨fun pins s σ H Q I h => wpAny_Call_Name_kw (ld_glob I hg hm ?_ hdb)⟩
  refine PySem.W.callWith_KW (h₀ := X.base) I.ok.mod.kin hk hall (thn (ha.run pos pins s σ H _ I (callK_sp h)) fun us s1 h1 => ?_) hpl he
  obtain ⟨vs, H1, J, rel, h1⟩ := h1
  refine thn (hkw.run pos pins s1 σ H1 _ J h1) fun ws s2 h2 => ?_
  obtain ⟨zs, H2, J2, rel2, e1, e2, hsp⟩ := h2
  rw [hks]
  have el : (pick perm (vs ++ zs)).length = ps.length := hpl' _ (by rw [List.length_append, e1, e2])
  rw [el, calm_mg hc] at hsp
  exact ⟨J2.kIn, run_fnG R hgu hr (hb s2 us ws (by rw [← rel.length]; exact e1) (by rw [← rel2.length]; exact e2)) (passAt tk σ) J2 (pick_rel (paired_app rel rel2) perm) hsp⟩
/-- f(k = v, ..) -/
theorem de_callK0 (hc : X.calm = true) (R : DFn X.prog X.w X.K X.mg X.base k f fd ps m) (hgu : X.A.guards = some []) (hr : Room k X.A) (hg : Gl X x) (hm : X.mg x = some (.ref f)) (hk : PySem.W.keepIn X.K (.ref f) = true) (hb : KBd X.K fd ps 0 ks perm) (hpl' : ∀ (l : List V), l.length = 0 + ks.length → (pick perm l).length = ps.length) (tk : Takes X W)
    (hkw : DK X W kws fk) (hall : (backToKw pos (keywordEach kws X.env)).all (·.1.isSome) = true := by rfl) (hks : (backToKw pos (keywordEach kws X.env)).filterMap (·.1) = ks := by rfl)
    (hdb : (x == ("__debug__" : Str)) = false := by decide) (hpl : (backToKw pos (keywordEach kws X.env)).any (·.1.isNone) = false := by rfl) :
    DE X W (.Call (.Name x p) [] kws pos) (dCallK 0 ks.length perm m dArgs0 fk) := by
  refine ⟨fun pins s σ H Q I h => wpAny_Call_Name_kw (ld_glob I hg hm ?_ hdb)⟩
  obtain ⟨G0, G, F, ps', ρ, L, g0, J0, S, h⟩ := callK_sp h
  have h' := h [] F H ps' (Ext.refl F ps') J0 .nil
  refine PySem.W.callWith_KW0 (h₀ := X.base) I.ok.mod.kin hk hall ?_ (by rw [hpl]; rfl)
  refine thn (hkw.run pos pins s σ H _ I h') fun ws s2 h2 => ?_
  obtain ⟨zs, H2, J2, rel2, e1, e2, hsp⟩ := h2
  rw [hks]
  have el : (pick perm ([] ++ zs)).length = ps.length := hpl' _ (by rw [List.length_append, e2]; rfl)
  rw [el, calm_mg hc] at hsp
  exact ⟨J2.kIn, run_fnG R hgu hr (hb s2 [] ws rfl (by rw [← rel2.length]; exact e2)) (passAt tk σ) J2 (pick_rel (paired_app .nil rel2) perm) hsp⟩
end
end DL

/-! DL, part 5: statements. -/
namespace DL
open PySem PySem.Spec PyProof.Rows L2
section
variable {K : PySem.W.Frag} {mg : Str → Option Value} {G G0 F H : Hp} {ps : List Addr} {L : Led} {σ : List (Option V)} {ρ : Slo} {W : WX}
/-! ### things held by the frame -/
theorem led_ne (I : HS K mg G F H ps L) {p q : Addr} (hp : H p = none) (hq : q ∈ ps) : q ≠ p := by
  intro e
  subst e
  obtain ⟨k, hk⟩ := List.getElem?_of_mem hq
  have hk2 : k < L.length := by rw [← I.len]; exact (List.getElem?_eq_some_iff.mp hk).1
  have := I.at_ k q L[k] hk (by simp [hk2])
  revert this
  cases L[k] with
  | lst xs => rintro ⟨_, e, _⟩; rw [hp] at e; cases e
  | dic xs => rintro ⟨_, e, _⟩; rw [hp] at e; cases e
  | obj c fs => rintro ⟨_, _, _, _, e, _⟩; rw [hp] at e; cases e
  | gone => rintro ⟨_, e⟩; rw [hp] at e; cases e
/-- where a thing that the ledger does not hold is changed -/
theorem CtOk.upd {p q : Addr} {u : HO} {c : Ct} (h : CtOk K mg G F H ps q c) (hq : q ≠ p) (hd : ∀ o, H p = some (.own o) → o ≠ q) (hG : ∀ a, a ≠ p → G a = none → upd G p u a = none) : CtOk K mg (upd G p u) F (upd H p u) ps q c := by
  cases c with
  | lst xs => obtain ⟨vs, a, b, r⟩ := h; exact ⟨vs, by rw [upd_ne hq]; exact a, b, r⟩
  | dic xs => obtain ⟨vs, a, b, r⟩ := h; exact ⟨vs, by rw [upd_ne hq]; exact a, b, r⟩
  | obj c fs =>
    obtain ⟨C, dx, gs, a, b, c0, c1, c2, r⟩ := h
    have hx : dx ≠ p := by rintro rfl; exact hd _ c0 rfl
    exact ⟨C, dx, gs, a, by rw [upd_ne hq]; exact b, by rw [upd_ne hx]; exact c0, c1, hG _ hx c2, r⟩
  | gone =>
    obtain ⟨o, a⟩ := h
    exact ⟨o, by rw [upd_ne hq]; exact a⟩
theorem upd_none {G : Hp} {p a : Addr} {u : HO} (h : a ≠ p) (e : G a = none) : upd G p u a = none := by rw [upd_ne h]; exact e
/-- a new thing is held -/
theorem HS.hold (I : HS K mg G F H ps L) {p : Addr} {u : HO} (hp : H p = none) : HS K mg (upd G p u) F (upd H p u) ps L := by
  have hF : F p = none := I.same.free hp
  refine ⟨fun b o e => ?_, fun b o e => ?_, fun a h => ?_, I.len, I.nd, fun q hq l => ⟨(I.free q hq l).1, upd_none (led_ne I hp hq) (I.free q hq l).2⟩, fun k q c hk hc => ?_⟩
  · by_cases hb : b = p
    · subst hb; rw [upd_same] at e ⊢; exact e
    · rw [upd_ne hb] at e ⊢; exact I.frame b o e
  · rw [upd_ne (ne_of_none e hF)]; exact I.same b o e
  · by_cases ha : a = p
    · subst ha; exact hF
    · rw [upd_ne ha] at h; exact I.apart a h
  · exact (I.at_ k q c hk hc).upd (led_ne I hp (List.mem_of_getElem? hk)) (fun o e => by rw [hp] at e; cases e) fun a h e => upd_none h e
/-- a held thing is changed -/
theorem HS.write (I : HS K mg G F H ps L) {p : Addr} {o u : HO} (hp : G p = some o) (ho : ∀ x, o ≠ .own x) : HS K mg (upd G p u) F (upd H p u) ps L := by
  have hF : F p = none := I.apart p (by rw [hp]; simp)
  have hH := I.frame _ _ hp
  have pn : ∀ q ∈ ps, Live ps L q → q ≠ p := fun q hq l e => by
    have := (I.free q hq l).2
    rw [e, hp] at this
    cases this
  refine ⟨fun b o e => ?_, fun b o e => ?_, fun a h => ?_, I.len, I.nd, fun q hq l => ⟨(I.free q hq l).1, upd_none (pn q hq l) (I.free q hq l).2⟩, fun k q c hk hc => ?_⟩
  · by_cases hb : b = p
    · subst hb; rw [upd_same] at e ⊢; exact e
    · rw [upd_ne hb] at e ⊢; exact I.frame b o e
  · rw [upd_ne (ne_of_none e hF)]; exact I.same b o e
  · by_cases ha : a = p
    · subst ha; exact hF
    · rw [upd_ne ha] at h; exact I.apart a h
  · by_cases hg : c = .gone
    · subst hg
      obtain ⟨o', a⟩ := I.at_ k q _ hk hc
      by_cases hqp : q = p
      · subst hqp; exact ⟨_, upd_same⟩
      · exact ⟨o', by rw [upd_ne hqp]; exact a⟩
    · exact (I.at_ k q c hk hc).upd (pn q (List.mem_of_getElem? hk) ⟨k, c, hk, hc, hg⟩) (fun x e => by rw [hH] at e; exact absurd (Option.some.inj e) (ho x)) fun a h e => upd_none h e
def cut (H : Hp) (p : Addr) : Hp := fun b => if b = p then none else H b
theorem cut_ne {H : Hp} {a b : Addr} (h : b ≠ a) : cut H a b = H b := if_neg h
theorem cut_upd {H : Hp} {p : Addr} {u : HO} : cut (L2.upd H p u) p = cut H p := by
  funext b
  by_cases hb : b = p
  · subst hb; unfold cut; rw [if_pos rfl, if_pos rfl]
  · unfold cut; rw [if_neg hb, if_neg hb, upd_ne hb]
theorem cut_same {H : Hp} {a : Addr} : cut H a a = none := if_pos rfl
/-- a held thing is let stand for ever -/
theorem HS.frz (I : HS K mg G F H ps L) {p : Addr} {o : HO} (hp : G p = some o) : HS K mg (cut G p) (upd F p o) H ps L ∧ Ext F ps (upd F p o) ps := by
  have hF : F p = none := I.apart p (by rw [hp]; simp)
  have pn : ∀ q ∈ ps, Live ps L q → q ≠ p := fun q hq l e => by
    have := (I.free q hq l).2
    rw [e, hp] at this
    cases this
  have x : Ext F ps (upd F p o) ps := Ext.of ps fun b u e => by rw [upd_ne (ne_of_none e hF)]; exact e
  refine ⟨⟨fun b o e => ?_, fun b u e => ?_, fun a h => ?_, I.len, I.nd, fun q hq l => ⟨upd_none (pn q hq l) (I.free q hq l).1, by rw [cut_ne (pn q hq l)]; exact (I.free q hq l).2⟩, fun k q c hk hc => ?_⟩, x⟩
  · by_cases hb : b = p
    · subst hb; rw [cut_same] at e; cases e
    · rw [cut_ne hb] at e; exact I.frame b o e
  · by_cases hb : b = p
    · subst hb; rw [upd_same] at e; cases e; exact I.frame _ _ hp
    · rw [upd_ne hb] at e; exact I.same b u e
  · have ha : a ≠ p := by rintro rfl; exact h cut_same
    rw [cut_ne ha] at h; rw [upd_ne ha]; exact I.apart a h
  · have old := I.at_ k q c hk hc
    cases c with
    | lst xs => obtain ⟨vs, a, b, r⟩ := old; exact ⟨vs, a, b, RDs.ext x r⟩
    | dic xs => obtain ⟨vs, a, b, r⟩ := old; exact ⟨vs, a, b, RDk.ext x r⟩
    | obj c fs =>
      obtain ⟨C, dx, gs, a, b, c0, c1, c2, r⟩ := old
      have hd : dx ≠ p := by rintro rfl; rw [hp] at c2; cases c2
      exact ⟨C, dx, gs, a, b, c0, upd_none hd c1, by rw [cut_ne hd]; exact c2, RDf.ext x r⟩
    | gone => exact old

/-! ### slots -/
theorem Slots.set (S : Slots K mg G0 G F ps σ ρ) (i : Nat) {v : V} {s : Sv} (r : SvOk K mg G0 G F ps v s) (hs : s.isMut = false) : Slots K mg G0 G F ps (σ.set i (some v)) (ρ.set i (some s)) := by
  refine ⟨by simp [S.len], fun j t h => ?_, fun j l t t2 u hj hl m1 m2 h1 h2 => ?_⟩
  · by_cases hij : i = j
    · subst hij
      have hlt : i < ρ.length := by
        have := (List.getElem?_eq_some_iff.mp h).1
        simpa using this
      rw [List.getElem?_set_self hlt] at h
      cases h
      exact ⟨v, List.getElem?_set_self (by rw [← S.len]; exact hlt), r⟩
    · rw [List.getElem?_set_ne hij] at h
      obtain ⟨u, a, b⟩ := S.at_ j t h
      exact ⟨u, by rw [List.getElem?_set_ne hij]; exact a, b⟩
  · have ne : ∀ {j : Nat} {t : Sv}, (ρ.set i (some s))[j]? = some (some t) → t.isMut = true → i ≠ j := fun {j t} hj m => by
      rintro rfl
      have hlt : i < ρ.length := by
        have := (List.getElem?_eq_some_iff.mp hj).1
        simpa using this
      rw [List.getElem?_set_self hlt] at hj
      cases hj
      rw [hs] at m; cases m
    have n1 := ne hj m1
    have n2 := ne hl m2
    rw [List.getElem?_set_ne n1] at hj h1
    rw [List.getElem?_set_ne n2] at hl h2
    exact S.sep j l t t2 u hj hl m1 m2 h1 h2
/-- a slot forgotten -/
theorem Slots.forget (S : Slots K mg G0 G F ps σ ρ) (i : Nat) (o : Option V) : Slots K mg G0 G F ps (σ.set i o) (ρ.set i none) := by
  refine ⟨by simp [S.len], fun j t h => ?_, fun j l t t2 u hj hl m1 m2 h1 h2 => ?_⟩
  all_goals
    have ne : ∀ {j : Nat} {t : Sv}, (ρ.set i none)[j]? = some (some t) → i ≠ j := fun {j t} hj => by
      rintro rfl
      have hlt : i < ρ.length := by
        have := (List.getElem?_eq_some_iff.mp hj).1
        simpa using this
      rw [List.getElem?_set_self hlt] at hj
      cases hj
  · have n := ne h
    rw [List.getElem?_set_ne n] at h
    obtain ⟨u, a, b⟩ := S.at_ j t h
    exact ⟨u, by rw [List.getElem?_set_ne n]; exact a, b⟩
  · have n1 := ne hj
    have n2 := ne hl
    rw [List.getElem?_set_ne n1] at hj h1
    rw [List.getElem?_set_ne n2] at hl h2
    exact S.sep j l t t2 u hj hl m1 m2 h1 h2
/-- what a slot that is its own holder holds -/
theorem Slots.mu (S : Slots K mg G0 G F ps σ ρ) {i : Nat} {xs : List Dv} (h : ρ[i]? = some (some (.mu xs))) : ∃ p vs, σ[i]? = some (some (.ref p)) ∧ G0 p = none ∧ G p = some (.lst vs) ∧ vs.length ≤ sizeLine ∧ RDs K mg F ps vs xs := by
  obtain ⟨v, a, p, vs, rfl, b, c, d, r⟩ := S.at_ i _ h
  exact ⟨p, vs, a, b, c, d, r⟩
theorem Slots.muD (S : Slots K mg G0 G F ps σ ρ) {i : Nat} {xs : List (Key × Dv)} (h : ρ[i]? = some (some (.muD xs))) : ∃ p vs, σ[i]? = some (some (.ref p)) ∧ G0 p = none ∧ G p = some (.dK vs) ∧ vs.length ≤ sizeLine ∧ RDk K mg F ps vs xs := by
  obtain ⟨v, a, p, vs, rfl, b, c, d, r⟩ := S.at_ i _ h
  exact ⟨p, vs, a, b, c, d, r⟩
/-- a thing of a slot's own is changed: s what it is now -/
theorem Slots.chg (S : Slots K mg G0 G F ps σ ρ) {i : Nat} {p : Addr} {u : HO} {s s' : Sv} (h : ρ[i]? = some (some s)) (hs : s.isMut = true) (hσ : σ[i]? = some (some (.ref p))) (hG : G0 p = none) (r : SvOk K mg G0 (upd G p u) F ps (.ref p) s') (hs' : s'.isMut = true) :
    Slots K mg G0 (upd G p u) F ps σ (ρ.set i (some s')) := by
  have hi : i < ρ.length := (List.getElem?_eq_some_iff.mp h).1
  have key : ∀ {j : Nat} {t : Sv}, i ≠ j → ρ[j]? = some (some t) → ∃ v, σ[j]? = some (some v) ∧ SvOk K mg G0 (upd G p u) F ps v t := fun {j t} hij hj => by
    obtain ⟨v, a, b⟩ := S.at_ j t hj
    refine ⟨v, a, ?_⟩
    cases t with
    | val d => exact b
    | bor xs => exact b
    | borD ks => exact b
    | mu xs =>
      obtain ⟨q, vs, rfl, b1, b2, b3, b4⟩ := b
      have hqp : q ≠ p := by
        rintro rfl
        exact hij (S.sep i j s (.mu xs) _ h hj hs rfl hσ a)
      exact ⟨q, vs, rfl, b1, by rw [upd_ne hqp]; exact b2, b3, b4⟩
    | muD xs =>
      obtain ⟨q, vs, rfl, b1, b2, b3, b4⟩ := b
      have hqp : q ≠ p := by
        rintro rfl
        exact hij (S.sep i j s (.muD xs) _ h hj hs rfl hσ a)
      exact ⟨q, vs, rfl, b1, by rw [upd_ne hqp]; exact b2, b3, b4⟩
    | xc _ _ => exact b
  refine ⟨by simp [S.len], fun j t hj => ?_, fun j l t t2 v hj hl m1 m2 h1 h2 => ?_⟩
  · by_cases hij : i = j
    · subst hij
      rw [List.getElem?_set_self hi] at hj
      cases hj
      exact ⟨_, hσ, r⟩
    · rw [List.getElem?_set_ne hij] at hj
      exact key hij hj
  · have back : ∀ {j : Nat} {t : Sv}, (ρ.set i (some s'))[j]? = some (some t) → t.isMut = true → ∃ t0, ρ[j]? = some (some t0) ∧ t0.isMut = true := fun {j t} hj m => by
      by_cases hij : i = j
      · subst hij; exact ⟨s, h, hs⟩
      · rw [List.getElem?_set_ne hij] at hj; exact ⟨t, hj, m⟩
    obtain ⟨a1, b1, c1⟩ := back hj m1
    obtain ⟨a2, b2, c2⟩ := back hl m2
    exact S.sep j l a1 a2 v b1 b2 c1 c2 h1 h2
/-- G grows by a thing that no slot holds -/
theorem Slots.gr (S : Slots K mg G0 G F ps σ ρ) {G' : Hp} (g : Same G G') : Slots K mg G0 G' F ps σ ρ :=
  ⟨S.len, fun i s e => by
    obtain ⟨v, a, b⟩ := S.at_ i s e
    refine ⟨v, a, ?_⟩
    cases s with
    | val d => exact b
    | bor xs => exact b
    | borD ks => exact b
    | mu xs => obtain ⟨q, vs, e, b1, b2, b3⟩ := b; exact ⟨q, vs, e, b1, g _ _ b2, b3⟩
    | muD xs => obtain ⟨q, vs, e, b1, b2, b3⟩ := b; exact ⟨q, vs, e, b1, g _ _ b2, b3⟩
    | xc _ _ => exact b, S.sep⟩
/-- a slot gets a new thing of its own -/
theorem Slots.own (S : Slots K mg G0 G F ps σ ρ) {i : Nat} {p : Addr} {u : HO} {s : Sv} (hp : G p = none) (g0 : Same G0 G) (r : SvOk K mg G0 (upd G p u) F ps (.ref p) s) (hs : s.isMut = true) : Slots K mg G0 (upd G p u) F ps (σ.set i (some (.ref p))) (ρ.set i (some s)) := by
  have S2 : Slots K mg G0 (upd G p u) F ps σ ρ := S.gr fun b o e => by rw [upd_ne (ne_of_none e hp)]; exact e
  refine ⟨by simp [S.len], fun j t h => ?_, fun j l t t2 v hj hl m1 m2 h1 h2 => ?_⟩
  · by_cases hij : i = j
    · subst hij
      have hlt : i < ρ.length := by
        have := (List.getElem?_eq_some_iff.mp h).1
        simpa using this
      rw [List.getElem?_set_self hlt] at h
      cases h
      exact ⟨_, List.getElem?_set_self (by rw [← S.len]; exact hlt), r⟩
    · rw [List.getElem?_set_ne hij] at h
      obtain ⟨v, a, b⟩ := S2.at_ j t h
      exact ⟨v, by rw [List.getElem?_set_ne hij]; exact a, b⟩
  · -- another slot's own thing stood before
    have far : ∀ {j : Nat} {t : Sv}, i ≠ j → (ρ.set i (some s))[j]? = some (some t) → t.isMut = true → (σ.set i (some (V.ref p)))[j]? ≠ some (some (.ref p)) := fun {j t} hij hj m e => by
      rw [List.getElem?_set_ne hij] at hj e
      obtain ⟨v, a, b⟩ := S.at_ j t hj
      rw [a] at e
      cases e
      cases t with
      | val _ => cases m
      | bor _ => cases m
      | borD _ => cases m
      | mu xs => obtain ⟨q, vs, e, _, b2, _⟩ := b; cases e; rw [hp] at b2; cases b2
      | muD xs => obtain ⟨q, vs, e, _, b2, _⟩ := b; cases e; rw [hp] at b2; cases b2
      | xc _ _ => cases m
    by_cases hj' : i = j
    · subst hj'
      by_cases hl' : i = l
      · exact hl'
      · have hlt : i < σ.length := by
          have := (List.getElem?_eq_some_iff.mp h1).1
          simpa using this
        rw [List.getElem?_set_self hlt] at h1
        cases h1
        exact absurd h2 (far hl' hl m2)
    · by_cases hl' : i = l
      · subst hl'
        have hlt : i < σ.length := by
          have := (List.getElem?_eq_some_iff.mp h2).1
          simpa using this
        rw [List.getElem?_set_self hlt] at h2
        cases h2
        exact absurd h1 (far hj' hj m1)
      · rw [List.getElem?_set_ne hj'] at hj h1
        rw [List.getElem?_set_ne hl'] at hl h2
        exact S.sep j l t t2 v hj hl m1 m2 h1 h2
end
end DL

/-! DL, part 6: names, constants, displays, tests, and the statements over them. -/
namespace DL
open PySem PySem.Spec PyProof.Rows L2
def Sv.read : Sv → Sv
  | .mu xs => .bor xs
  | .muD ks => .borD ks
  | s => s
def dVar (i : Nat) : DM Sv := fun ρ L => match ρ[i]? with
  | some (some s) => .ok s.read L
  | _ => .bad
def dC (d : Dv) : DM Sv := fun _ L => .ok (.val d) L
section
variable {X : Cx} {W : WX} {pos : Pos}
theorem read_ok {K : PySem.W.Frag} {mg : Str → Option Value} {G0 G F : Hp} {ps : List Addr} {v : V} {s : Sv} (g0 : Same G0 G) (h : SvOk K mg G0 G F ps v s) : XvOk K mg G F ps v s.read := by
  cases s with
  | val d => exact h
  | bor xs => obtain ⟨p, vs, a, b, c, r⟩ := h; exact ⟨p, vs, a, g0 _ _ b, c, r⟩
  | borD xs => obtain ⟨p, vs, a, b, c, r⟩ := h; exact ⟨p, vs, a, g0 _ _ b, c, r⟩
  | mu xs => obtain ⟨p, vs, a, _, b, c, r⟩ := h; exact ⟨p, vs, a, b, c, r⟩
  | muD xs => obtain ⟨p, vs, a, _, b, c, r⟩ := h; exact ⟨p, vs, a, b, c, r⟩
  | xc c fs => obtain ⟨a, dd, C, gs, e1, e2, e3, e4, e5, e6, e7⟩ := h; exact ⟨a, dd, C, gs, e1, e2, e3, e4, e5, g0 _ _ e6, e7⟩
theorem de_var (i : Nat) {x : Str} (hN : X.N[i]? = some x) (hv : Vis X.env.scope x) (hd : (x == ("__debug__" : Str)) = false := by decide) (hcd : (x == ("__classdict__" : Str)) = false := by decide) : DE X W (.Name x pos) (dVar i) := imE (pe_var hN hv hd hcd) fun σ H Q h => by
  obtain ⟨G0, G, F, ps, ρ, L, g0, I, S, h⟩ := h
  unfold dVar at h
  split at h
  · rename_i s hs
    obtain ⟨v, a, b⟩ := S.at_ i s hs
    exact ⟨v, a, QE.now h I (read_ok g0 b)⟩
  · exact h.elim
theorem tC_of {v : V} {d : Dv} {K : PySem.W.Frag} {mg : Str → Option Value} (hd : ∀ F ps, RD K mg F ps v d) : ∀ σ H Q, tE K mg W (dC d) σ H Q → tC v σ H Q := fun σ H Q h => by
  obtain ⟨G0, G, F, ps, ρ, L, g0, I, S, h⟩ := h
  exact QE.now (v := v) h I (hd F ps)
theorem de_int {i j} : DE X W (.Constant (.int i) j pos) (dC (.int i)) := imE pe_int (tC_of fun _ _ => .int i)
theorem de_bl {b j} : DE X W (.Constant (.bool b) j pos) (dC (.bl b)) := imE pe_bl (tC_of fun _ _ => .bl b)
theorem de_non {j} : DE X W (.Constant .none j pos) (dC .non) := imE pe_non (tC_of fun _ _ => .non)
theorem de_str {x : Str} {j} (hx : x.length ≤ sizeLine := by decide +kernel) : DE X W (.Constant (.str x) j pos) (dC (.str x)) := imE pe_str (tC_of fun _ _ => .str x hx)
/-- a module's constant -/
theorem de_glob {x : Str} {v : V} {u : Value} {d : Dv} (hg : Gl X x) (hm : X.mg x = some u) (r : RelV v u) (hd : ∀ F ps, RD X.K X.mg' F ps v d) (hb : (x == ("__debug__" : Str)) = false := by decide) : DE X W (.Name x pos) (dC d) := imE (pe_glob hg hm r hb) (tC_of hd)

/-! ### displays -/
/-- plain values alone -/
def vals : List Sv → Option (List Dv)
  | [] => some []
  | .val d :: r => (vals r).map (d :: ·)
  | _ => none
theorem vals_ok {K : PySem.W.Frag} {mg : Str → Option Value} {G F : Hp} {ps : List Addr} : ∀ {ss : List Sv} {vs : List V} {ds : List Dv}, vals ss = some ds → XvsOk K mg G F ps vs ss → RDs K mg F ps vs ds
  | [], _, _, e, h => by cases e; cases h; exact .nil
  | .val d :: r, _, _, e, h => by
    cases h with
    | cons h hr =>
      cases q : vals r with
      | none => simp [vals, q] at e
      | some x => simp [vals, q] at e; subst e; exact .cons h (vals_ok q hr)
  | .bor _ :: _, _, _, e, _ => by cases e
  | .borD _ :: _, _, _, e, _ => by cases e
  | .mu _ :: _, _, _, e, _ => by cases e
  | .muD _ :: _, _, _, e, _ => by cases e
def dLst (fr : DM (List Sv)) : DM Sv := fun ρ L => (fr ρ L).bind fun ss L1 => match vals ss with
  | some ds => if ds.length ≤ sizeLine then .ok (.val (.lst ds)) L1 else .bad
  | none => .bad
def dTup (fr : DM (List Sv)) : DM Sv := fun ρ L => (fr ρ L).bind fun ss L1 => match vals ss with
  | some ds => if ds.length ≤ sizeLine then .ok (.val (.tup ds)) L1 else .bad
  | none => .bad
variable {es : List Expr} {fr : DM (List Sv)}
theorem de_lst (h : DA X W es fr) : DE X W (.List es pos) (dLst fr) := imE (pe_lst h) fun σ H Q h => by
  obtain ⟨G0, G, F, ps, ρ, L, g0, I, S, h⟩ := h
  refine ⟨G0, G, F, ps, ρ, L, g0, I, S, Res.wp_mono (Res.wp_bind h) (fun ss L1 h1 vs F1 H1 p1 x1 I1 r1 => ?_) fun e r L' q => q⟩
  split at h1
  · rename_i ds hv
    split at h1
    · rename_i hz
      have r2 := vals_ok hv r1
      have z2 : vs.length ≤ sizeLine := by rw [r2.length]; exact hz
      exact ⟨z2, QE.newL (QE.ext x1 h1) I1 z2 r2⟩
    · exact h1.elim
  · exact h1.elim
theorem de_tup {k} (h : DA X W es fr) : DE X W (.Tuple es k pos) (dTup fr) := imE (pe_tup h) fun σ H Q h => by
  obtain ⟨G0, G, F, ps, ρ, L, g0, I, S, h⟩ := h
  refine ⟨G0, G, F, ps, ρ, L, g0, I, S, Res.wp_mono (Res.wp_bind h) (fun ss L1 h1 vs F1 H1 p1 x1 I1 r1 => ?_) fun e r L' q => q⟩
  split at h1
  · rename_i ds hv
    split at h1
    · rename_i hz
      have r2 := vals_ok hv r1
      have z2 : vs.length ≤ sizeLine := by rw [r2.length]; exact hz
      exact ⟨z2, QE.newT (QE.ext x1 h1) I1 z2 r2⟩
    · exact h1.elim
  · exact h1.elim

/-! ### tests -/
variable {a b c : Expr} {f fa fb : DM Sv} {t u : DM Bool}
/-- a value that is True or False, as a test -/
def dB (f : DM Sv) : DM Bool := fun ρ L => (f ρ L).bind fun s L1 => match s with
  | .val (.bl k) => .ok k L1
  | _ => .bad
theorem tB_of {K : PySem.W.Frag} {mg : Str → Option Value} {σ : List (Option V)} {H : Hp} {Q : Bool → Hp → Prop} (h : tT K mg W (dB f) σ H Q) : tE K mg W f σ H fun x H1 => ∃ k, x = .bl k ∧ Q k H1 := by
  obtain ⟨G0, G, F, ps, ρ, L, g0, I, S, h⟩ := h
  refine ⟨G0, G, F, ps, ρ, L, g0, I, S, Res.wp_mono (Res.wp_bind h) (fun s L1 h1 v F1 H1 p1 x1 I1 r1 => ?_) fun e r L' q => q⟩
  split at h1
  · exact ⟨_, xv_bl r1, h1 F1 H1 p1 x1 I1⟩
  · exact h1.elim
theorem dt_val (h : DE X W a f) (he : ∀ whole, isTrue a X.env whole = (do let v ← whole; standAt a.pos; holding [v] (truthy v)) := by intro _; rfl) : DT X W a (dB f) := imT (pt_val h he) fun _ _ _ q => tB_of q
theorem dt_cmp {op : CmpOp} {r : R2} {g : Sv → Sv → Led → Option Sv} (ho : OpR X (compareOp op) r) (hs : OpS X.K X.mg' r g) (ha : DE X W a fa) (hb : DE X W b fb) (hm : behindInMarks op b = false) : DT X W (.Compare a [op] [b] pos) (dB (dOp g fa fb)) := imT (pt_cmpR ho ha hb hm) fun σ H Q q => by
  exact tOp_of (W := W) (Q := fun x H1 => ∃ k, x = .bl k ∧ Q k H1) hs (tB_of q)
def dNot (t : DM Bool) : DM Bool := fun ρ L => (t ρ L).bind fun k L1 => .ok (!k) L1
def dAnd (t u : DM Bool) : DM Bool := fun ρ L => (t ρ L).bind fun k L1 => if k = true then u ρ L1 else .ok false L1
def dOr (t u : DM Bool) : DM Bool := fun ρ L => (t ρ L).bind fun k L1 => if k = true then .ok true L1 else u ρ L1
theorem dt_not (h : DT X W a t) : DT X W (.UnaryOp .Not a pos) (dNot t) := imT (pt_not h) fun σ H Q h => by
  obtain ⟨G0, G, F, ps, ρ, L, g0, I, S, h⟩ := h
  exact ⟨G0, G, F, ps, ρ, L, g0, I, S, Res.wp_mono (Res.wp_bind h) (fun k L1 h1 F1 H1 p1 x1 I1 => h1 F1 H1 p1 x1 I1) fun e r L' q => q⟩
abbrev DW (X : Cx) (W : WX) (e : Expr) (f : DM Bool) : Prop := PW X e (tT X.K X.mg' W f)
theorem dw_and1 (h : DT X W a t) : DW X W (.BoolOp .And [a] pos) t := pw_and1 h
theorem dw_or1 (h : DT X W a t) : DW X W (.BoolOp .Or [a] pos) t := pw_or1 h
variable {rest : List Expr}
theorem dw_and (h : DT X W a t) (h2 : DW X W (.BoolOp .And (b :: rest) pos) u) : DW X W (.BoolOp .And (a :: b :: rest) pos) (dAnd t u) := imW (pw_and h h2) fun σ H Q h => by
  obtain ⟨G0, G, F, ps, ρ, L, g0, I, S, h⟩ := h
  refine ⟨G0, G, F, ps, ρ, L, g0, I, S, Res.wp_mono (Res.wp_bind h) (fun k L1 h1 F1 H1 p1 x1 I1 => ?_) fun e r L' q => q⟩
  split at h1
  · rename_i hk
    rw [if_pos hk]
    exact ⟨G0, G, F1, p1, ρ, L1, g0, I1, S.ext x1, Res.wp_mono h1 (fun k2 L2 q F2 H2 p2 x2 I2 => q F2 H2 p2 (x1.trans x2) I2) fun _ _ _ q => EE.ext x1 q⟩
  · rename_i hk
    rw [if_neg hk]
    exact h1 F1 H1 p1 x1 I1
theorem dw_or (h : DT X W a t) (h2 : DW X W (.BoolOp .Or (b :: rest) pos) u) : DW X W (.BoolOp .Or (a :: b :: rest) pos) (dOr t u) := imW (pw_or h h2) fun σ H Q h => by
  obtain ⟨G0, G, F, ps, ρ, L, g0, I, S, h⟩ := h
  refine ⟨G0, G, F, ps, ρ, L, g0, I, S, Res.wp_mono (Res.wp_bind h) (fun k L1 h1 F1 H1 p1 x1 I1 => ?_) fun e r L' q => q⟩
  split at h1
  · rename_i hk
    rw [if_pos hk]
    exact h1 F1 H1 p1 x1 I1
  · rename_i hk
    rw [if_neg hk]
    exact ⟨G0, G, F1, p1, ρ, L1, g0, I1, S.ext x1, Res.wp_mono h1 (fun k2 L2 q F2 H2 p2 x2 I2 => q F2 H2 p2 (x1.trans x2) I2) fun _ _ _ q => EE.ext x1 q⟩
/-- a test's answer as a value: a and b, a or b, not a of truth values -/
def dV (t : DM Bool) : DM Sv := fun ρ L => (t ρ L).bind fun k L1 => .ok (.val (.bl k)) L1
def dAndV (fa fb : DM Sv) : DM Sv := fun ρ L => (fa ρ L).bind fun s L1 => match s with
  | .val (.bl true) => fb ρ L1
  | .val (.bl false) => .ok (.val (.bl false)) L1
  | _ => .bad
def dOrV (fa fb : DM Sv) : DM Sv := fun ρ L => (fa ρ L).bind fun s L1 => match s with
  | .val (.bl true) => .ok (.val (.bl true)) L1
  | .val (.bl false) => fb ρ L1
  | _ => .bad
def dNotV (fa : DM Sv) : DM Sv := fun ρ L => (fa ρ L).bind fun s L1 => match s with
  | .val (.bl k) => .ok (.val (.bl (!k))) L1
  | _ => .bad
theorem de_one {op} (h : DE X W a f) : DE X W (.BoolOp op [a] pos) f := pe_one h
theorem de_and (h : DE X W a fa) (h2 : DE X W (.BoolOp .And (b :: rest) pos) fb) : DE X W (.BoolOp .And (a :: b :: rest) pos) (dAndV fa fb) := imE (pe_and h h2) fun σ H Q h => by
  obtain ⟨G0, G, F, ps, ρ, L, g0, I, S, h⟩ := h
  refine ⟨G0, G, F, ps, ρ, L, g0, I, S, Res.wp_mono (Res.wp_bind h) (fun s L1 h1 v F1 H1 p1 x1 I1 r1 => ?_) fun e r L' q => q⟩
  split at h1
  · refine ⟨true, xv_bl r1, ?_⟩
    rw [if_pos rfl]
    exact ⟨G0, G, F1, p1, ρ, L1, g0, I1, S.ext x1, Res.wp_mono h1 (fun _ _ q => QE.ext x1 q) fun _ _ _ q => EE.ext x1 q⟩
  · refine ⟨false, xv_bl r1, ?_⟩
    rw [if_neg (by simp)]
    exact h1 _ F1 H1 p1 x1 I1 (.bl false)
  · exact h1.elim
theorem de_or (h : DE X W a fa) (h2 : DE X W (.BoolOp .Or (b :: rest) pos) fb) : DE X W (.BoolOp .Or (a :: b :: rest) pos) (dOrV fa fb) := imE (pe_or h h2) fun σ H Q h => by
  obtain ⟨G0, G, F, ps, ρ, L, g0, I, S, h⟩ := h
  refine ⟨G0, G, F, ps, ρ, L, g0, I, S, Res.wp_mono (Res.wp_bind h) (fun s L1 h1 v F1 H1 p1 x1 I1 r1 => ?_) fun e r L' q => q⟩
  split at h1
  · refine ⟨true, xv_bl r1, ?_⟩
    rw [if_pos rfl]
    exact h1 _ F1 H1 p1 x1 I1 (.bl true)
  · refine ⟨false, xv_bl r1, ?_⟩
    rw [if_neg (by simp)]
    exact ⟨G0, G, F1, p1, ρ, L1, g0, I1, S.ext x1, Res.wp_mono h1 (fun _ _ q => QE.ext x1 q) fun _ _ _ q => EE.ext x1 q⟩
  · exact h1.elim
theorem de_not (h : DE X W a fa) : DE X W (.UnaryOp .Not a pos) (dNotV fa) := imE (pe_not h) fun σ H Q h => by
  obtain ⟨G0, G, F, ps, ρ, L, g0, I, S, h⟩ := h
  refine ⟨G0, G, F, ps, ρ, L, g0, I, S, Res.wp_mono (Res.wp_bind h) (fun s L1 h1 v F1 H1 p1 x1 I1 r1 => ?_) fun e r L' q => q⟩
  split at h1
  · exact ⟨_, xv_bl r1, h1 _ F1 H1 p1 x1 I1 (.bl _)⟩
  · exact h1.elim
def dIf (t : DM Bool) (fa fb : DM Sv) : DM Sv := fun ρ L => (t ρ L).bind fun k L1 => if k = true then fa ρ L1 else fb ρ L1
theorem de_if (hc : DT X W c t) (ha : DE X W a fa) (hb : DE X W b fb) : DE X W (.IfExp c a b pos) (dIf t fa fb) := imE (pe_ifExp hc ha hb) fun σ H Q h => by
  obtain ⟨G0, G, F, ps, ρ, L, g0, I, S, h⟩ := h
  refine ⟨G0, G, F, ps, ρ, L, g0, I, S, Res.wp_mono (Res.wp_bind h) (fun k L1 h1 F1 H1 p1 x1 I1 => ?_) fun e r L' q => q⟩
  split at h1
  · rename_i hk
    rw [if_pos hk]
    exact ⟨G0, G, F1, p1, ρ, L1, g0, I1, S.ext x1, Res.wp_mono h1 (fun _ _ q => QE.ext x1 q) fun _ _ _ q => EE.ext x1 q⟩
  · rename_i hk
    rw [if_neg hk]
    exact ⟨G0, G, F1, p1, ρ, L1, g0, I1, S.ext x1, Res.wp_mono h1 (fun _ _ q => QE.ext x1 q) fun _ _ _ q => EE.ext x1 q⟩
/-- a op b op c -/
def dChain (g g' : Sv → Sv → Led → Option Sv) (fa fb fc : DM Sv) : DM Sv := fun ρ L => (fa ρ L).bind fun x L1 => (fb ρ L1).bind fun y L2 => match g x y L2 with
  | some (.val (.bl true)) => (fc ρ L2).bind fun z L3 => give (g' y z L3) L3
  | some (.val (.bl false)) => .ok (.val (.bl false)) L2
  | _ => .bad
variable {fc : DM Sv}
theorem tChain_of {K : PySem.W.Frag} {mg : Str → Option Value} {r r' : R2} {g g' : Sv → Sv → Led → Option Sv} (hs : OpS K mg r g) (hs' : OpS K mg r' g') {σ : List (Option V)} {H : Hp} {Q : VK} (h : tE K mg W (dChain g g' fa fb fc) σ H Q) : tChain r r' (tE K mg W fa) (tE K mg W fb) (tE K mg W fc) σ H Q := by
  obtain ⟨G0, G, F, ps, ρ, L, g0, I, S, h⟩ := h
  refine ⟨G0, G, F, ps, ρ, L, g0, I, S, Res.wp_mono (Res.wp_bind h) (fun x L1 h1 v F1 H1 p1 x1 I1 r1 => ?_) fun e r L' q => q⟩
  refine ⟨G0, G, F1, p1, ρ, L1, g0, I1, S.ext x1, Res.wp_mono (Res.wp_bind h1) (fun y L2 h2 u F2 H2 p2 x2 I2 r2 => ?_) fun e r L' q => EE.ext x1 q⟩
  split at h2
  · rename_i hq
    refine hs G F2 H2 p2 L2 v u x y _ _ I2 (r1.ext x2) r2 hq fun w F3 H3 p3 x3 I3 r3 => ⟨true, xv_bl r3, ?_⟩
    rw [if_pos rfl]
    refine ⟨G0, G, F3, p3, ρ, L2, g0, I3, ((S.ext x1).ext x2).ext x3, Res.wp_mono (Res.wp_bind h2) (fun z L3 h3 w2 F4 H4 p4 x4 I4 r4 => ?_) fun e r L' q => EE.ext ((x1.trans x2).trans x3) q⟩
    obtain ⟨s, e, q⟩ := give_wp h3
    exact hs' G F4 H4 p4 L3 u w2 y z s Q I4 ((r2.ext x3).ext x4) r4 e (QE.ext (((x1.trans x2).trans x3).trans x4) q)
  · rename_i hq
    refine hs G F2 H2 p2 L2 v u x y _ _ I2 (r1.ext x2) r2 hq fun w F3 H3 p3 x3 I3 r3 => ⟨false, xv_bl r3, ?_⟩
    rw [if_neg (by simp)]
    exact h2 _ F3 H3 p3 ((x1.trans x2).trans x3) I3 (.bl false)
  · exact h2.elim
theorem de_chain {op op' : CmpOp} {r r' : R2} {g g' : Sv → Sv → Led → Option Sv} (ho : OpR X (compareOp op) r) (ho' : OpR X (compareOp op') r') (hs : OpS X.K X.mg' r g) (hs' : OpS X.K X.mg' r' g') (ha : DE X W a fa) (hb : DE X W b fb) (hc : DE X W c fc) (hm : lastMarks [op, op'] [b, c] = false := by with_unfolding_all rfl) :
    DE X W (.Compare a [op, op'] [b, c] pos) (dChain g g' fa fb fc) := imE (pe_chain ho ho' ha hb hc hm) fun _ _ _ h => tChain_of hs hs' h
theorem dt_chain {op op' : CmpOp} {r r' : R2} {g g' : Sv → Sv → Led → Option Sv} (ho : OpR X (compareOp op) r) (ho' : OpR X (compareOp op') r') (hs : OpS X.K X.mg' r g) (hs' : OpS X.K X.mg' r' g') (ha : DE X W a fa) (hb : DE X W b fb) (hc : DE X W c fc) (hm : lastMarks [op, op'] [b, c] = false := by with_unfolding_all rfl) :
    DT X W (.Compare a [op, op'] [b, c] pos) (dB (dChain g g' fa fb fc)) := imT (pt_chain ho ho' ha hb hc hm) fun σ H Q q => tChain_of (Q := fun x H1 => ∃ k, x = .bl k ∧ Q k H1) hs hs' (tB_of q)
end
end DL

/-! DL, part 7: statements: blocks, return, stores, if, for. -/
namespace DL
open PySem PySem.Spec PyProof.Rows L2
def sNil : DM Fl := fun ρ L => .ok (.nx ρ) L
def sSeq (f g : DM Fl) : DM Fl := fun ρ L => (f ρ L).bind fun fl L1 => match fl with
  | .nx r => g r L1
  | o => .ok o L1
def sRet (f : DM Sv) : DM Fl := fun ρ L => (f ρ L).bind fun s L1 => match s with
  | .val d => .ok (.rt d) L1
  | _ => .bad
def sRetN : DM Fl := fun _ L => .ok (.rt .non) L
def sDrop (f : DM Sv) : DM Fl := fun ρ L => (f ρ L).bind fun _ L1 => .ok (.nx ρ) L1
def sSet (i : Nat) (f : DM Sv) : DM Fl := fun ρ L => (f ρ L).bind fun s L1 => match s with
  | .val d => .ok (.nx (ρ.set i (some (.val d)))) L1
  | _ => .bad
def sIf (t : DM Bool) (f g : DM Fl) : DM Fl := fun ρ L => (t ρ L).bind fun k L1 => if k = true then f ρ L1 else g ρ L1
def sPass : DM Fl := fun ρ L => .ok (.nx ρ) L
def sBrk : DM Fl := fun ρ L => .ok (.bk ρ) L
def sCont : DM Fl := fun ρ L => .ok (.ct ρ) L
def sNever : DM Fl := fun _ _ => .bad
section
variable {X : Cx} {W : WX} {st : Stmt} {rest : List Stmt} {f g : DM Fl} {e : Expr} {fe : DM Sv} {pos : Pos}
theorem dss_nil : DSs X W [] sNil := imSs pss_nil fun D σ H h => by
  obtain ⟨G0, G, F, ps, ρ, L, g0, I, S, h⟩ := h
  exact h σ G F H ps g0 (Ext.refl F ps) I S
theorem dss_cons (h1 : DS X W st f) (h2 : DSs X W rest g) : DSs X W (st :: rest) (sSeq f g) := imSs (pss_cons h1 h2) fun D σ H h => by
  obtain ⟨G0, G, F, ps, ρ, L, g0, I, S, h⟩ := h
  refine ⟨G0, G, F, ps, ρ, L, g0, I, S, Res.wp_mono (Res.wp_bind h) (fun fl L1 h1 => ?_) fun e r L' q => q⟩
  cases fl with
  | nx r => exact fun s2 G2 F2 H2 p2 g2 x2 I2 S2 => ⟨G0, G2, F2, p2, r, L1, g2, I2, S2, Res.wp_mono h1 (fun fl L2 q => QS.ext x2 q) fun _ _ _ q => EE.ext x2 q⟩
  | rt d => exact h1
  | bk r => exact h1
  | ct r => exact h1
theorem dss_one (h1 : DS X W st f) : DSs X W [st] f := imSs (pss_one h1) fun D σ H h => h
theorem ds_pass : DS X W (.Pass pos) sPass := imS ps_pass fun D σ H h => by
  obtain ⟨G0, G, F, ps, ρ, L, g0, I, S, h⟩ := h
  exact h σ G F H ps g0 (Ext.refl F ps) I S
theorem ds_break : DS X W (.Break pos) sBrk := imS ps_break fun D σ H h => by
  obtain ⟨G0, G, F, ps, ρ, L, g0, I, S, h⟩ := h
  exact h σ G F H ps g0 (Ext.refl F ps) I S
theorem ds_cont : DS X W (.Continue pos) sCont := imS ps_continue fun D σ H h => by
  obtain ⟨G0, G, F, ps, ρ, L, g0, I, S, h⟩ := h
  exact h σ G F H ps g0 (Ext.refl F ps) I S
theorem ds_never : DS X W st sNever := imS ps_never fun D σ H h => by
  obtain ⟨G0, G, F, ps, ρ, L, g0, I, S, h⟩ := h
  exact h
theorem ds_ret (h : DE X W e fe) : DS X W (.Return (some e) pos) (sRet fe) := imS (ps_ret h) fun D σ H h => by
  obtain ⟨G0, G, F, ps, ρ, L, g0, I, S, h⟩ := h
  refine ⟨G0, G, F, ps, ρ, L, g0, I, S, Res.wp_mono (Res.wp_bind h) (fun s L1 h1 v F1 H1 p1 x1 I1 r1 => ?_) fun e r L' q => q⟩
  split at h1
  · exact h1 v G F1 H1 p1 g0 x1 I1 r1
  · exact h1.elim
theorem ds_retN : DS X W (.Return none pos) sRetN := imS ps_retN fun D σ H h => by
  obtain ⟨G0, G, F, ps, ρ, L, g0, I, S, h⟩ := h
  exact h .non G F H ps g0 (Ext.refl F ps) I .non
theorem ds_expr (h : DE X W e fe) (hs : swapsWith e none pos.line X.env = pure false := by rfl) : DS X W (.Expr e pos) (sDrop fe) := imS (ps_expr h hs) fun D σ H h => by
  obtain ⟨G0, G, F, ps, ρ, L, g0, I, S, h⟩ := h
  exact ⟨G0, G, F, ps, ρ, L, g0, I, S, Res.wp_mono (Res.wp_bind h) (fun s L1 h1 v F1 H1 p1 x1 I1 r1 => h1 σ G F1 H1 p1 g0 x1 I1 (S.ext x1)) fun e r L' q => q⟩
theorem ds_if {t : DM Bool} {a b : List Stmt} {c : Expr} (hc : DT X W c t) (ha : DSs X W a f) (hb : DSs X W b g) : DS X W (.If c a b pos) (sIf t f g) := imS (ps_if hc ha hb) fun D σ H h => by
  obtain ⟨G0, G, F, ps, ρ, L, g0, I, S, h⟩ := h
  refine ⟨G0, G, F, ps, ρ, L, g0, I, S, Res.wp_mono (Res.wp_bind h) (fun k L1 h1 F1 H1 p1 x1 I1 => ?_) fun e r L' q => q⟩
  split at h1
  · rename_i hk
    rw [if_pos hk]
    exact ⟨G0, G, F1, p1, ρ, L1, g0, I1, S.ext x1, Res.wp_mono h1 (fun _ _ q => QS.ext x1 q) fun _ _ _ q => EE.ext x1 q⟩
  · rename_i hk
    rw [if_neg hk]
    exact ⟨G0, G, F1, p1, ρ, L1, g0, I1, S.ext x1, Res.wp_mono h1 (fun _ _ q => QS.ext x1 q) fun _ _ _ q => EE.ext x1 q⟩

/-! ### targets -/
def gN (i : Nat) : Sv → DM Slo := fun s ρ L => match s with
  | .val d => .ok (ρ.set i (some (.val d))) L
  | _ => .bad
/-- several names, from a tuple -/
def gNs : List Nat → List Dv → Slo → Option Slo
  | [], [], ρ => some ρ
  | i :: is, d :: ds, ρ => gNs is ds (ρ.set i (some (.val d)))
  | _, _, _ => none
def gTp (is : List Nat) : Sv → DM Slo := fun s ρ L => match s with
  | .val (.tup ds) => give (gNs is ds ρ) L
  | _ => .bad
variable {tg : Expr} {gt : Sv → DM Slo}
theorem dg_name (i : Nat) {x : Str} (hN : X.N.Nodup) (hi : X.N[i]? = some x) (hx : Loc X.env.scope x) (hf : X.fn x = true ∨ X.env.scope.names.lookup x = some .local := by first | exact .inl rfl | exact .inr rfl | assumption) : DG X (.Name x pos) (gN i) := imG (pg_name hN hi hx hf) fun v σ H Q h => by
  obtain ⟨G0, G, F, ps, ρ, L, s, g0, I, S, r, h⟩ := h
  unfold gN at h
  split at h
  · exact h _ G F H ps g0 (Ext.refl F ps) I (S.set i r rfl)
  · exact h.elim
/-- names alone: where they stand -/
inductive NmOk (X : Cx) : List Expr → List Nat → Prop
  | nil : NmOk X [] []
  | cons {x : Str} {pos : Pos} {es : List Expr} {i : Nat} {is : List Nat} (hi : X.N[i]? = some x) (hx : Loc X.env.scope x) (hf : X.fn x = true ∨ X.env.scope.names.lookup x = some .local) (r : NmOk X es is)
      (hs : (assignEach (.Name x pos :: es) X.env).map (·.2) = assign (.Name x pos) X.env :: (assignEach es X.env).map (·.2)) : NmOk X (.Name x pos :: es) (i :: is)
/-- the readings of names, as HandS has them -/
def tNms : List Nat → TGs
  | [] => gNil
  | i :: is => gCons (gName i) (tNms is)
theorem pgs_names (hN : X.N.Nodup) : ∀ {es : List Expr} {is : List Nat}, NmOk X es is → PGs X es (tNms is)
  | _, _, .nil => pgs_nil
  | _, _, .cons hi hx hf r hs => pgs_cons (pg_name hN hi hx hf) (pgs_names hN r) hs
theorem tNms_of {K : PySem.W.Frag} {mg : Str → Option Value} {G0 G F H : Hp} {ps : List Addr} : ∀ {is : List Nat} {vs : List V} {ds : List Dv} {σ : List (Option V)} {ρ ρ' : Slo} {Q : List (Option V) → Hp → Prop}, RDs K mg F ps vs ds → gNs is ds ρ = some ρ' → Slots K mg G0 G F ps σ ρ →
    (∀ σ', Slots K mg G0 G F ps σ' ρ' → Q σ' H) → tNms is vs σ H Q
  | [], _, [], _, _, _, _, .nil, e, S, h => ⟨rfl, h _ (by cases e; exact S)⟩
  | [], _, _ :: _, _, _, _, _, _, e, _, _ => by cases e
  | _ :: _, _, [], _, _, _, _, _, e, _, _ => by cases e
  | i :: is, _, _ :: _, _, _, _, _, .cons r rr, e, S, h => ⟨_, _, rfl, tNms_of rr e (S.set i r rfl) h⟩
theorem dg_tup {es : List Expr} {k : Nat} {is : List Nat} (hc : X.calm = true) (hN : X.N.Nodup) (h : NmOk X es is) (hn : (assignEach es X.env).length = is.length := by rfl) (hst : (assignEach es X.env).findIdx? (·.1) = none := by rfl) : DG X (.Tuple es k pos) (gTp is) :=
  imG (pg_tup (n := is.length) hc (pgs_names hN h) hn hst) fun v σ H Q h => by
    obtain ⟨G0, G, F, ps, ρ, L, s, g0, I, S, r, h⟩ := h
    unfold gTp at h
    split at h
    · rename_i ds
      obtain ⟨ρ', e, q⟩ := give_wp h
      obtain ⟨p, vs, rfl, fp, hp, z, rs⟩ := xv_tup I r
      refine ⟨p, vs, rfl, SqT.of hp, ?_, tNms_of rs e S fun σ' S' => q σ' G F H ps g0 (Ext.refl F ps) I S'⟩
      have : ∀ {is : List Nat} {ds : List Dv} {ρ ρ' : Slo}, gNs is ds ρ = some ρ' → ds.length = is.length := by
        intro is
        induction is with
        | nil => intro ds ρ ρ' e; cases ds with
          | nil => rfl
          | cons _ _ => cases e
        | cons i is ih => intro ds ρ ρ' e; cases ds with
          | nil => cases e
          | cons d ds => simp [ih e]
      rw [rs.length, this e]
    · exact h.elim
def sAsg (fe : DM Sv) (gt : Sv → DM Slo) : DM Fl := fun ρ L => (fe ρ L).bind fun s L1 => (gt s ρ L1).bind fun r L2 => .ok (.nx r) L2
/-- a target raises nothing -/
theorem gt_ne {G0 G F : Hp} {ps : List Addr} {D : Ends} {K : PySem.W.Frag} {mg : Str → Option Value} {r : Res Slo} (hr : ∀ e s L, r ≠ .err e s L) {E : Exn → Slo → Led → Prop} {P : Slo → Led → Prop} (h : r.wp P E) : r.wp P fun _ _ _ => False := by
  cases r with
  | ok a L => exact h
  | err e s L => exact absurd rfl (hr e s L)
  | bad => exact h
theorem ds_asg (he : DE X W e fe) (hg : DG X tg gt) (hq : ∀ s ρ L e r L', gt s ρ L ≠ .err e r L') (hs : swapsWithSole [tg] e pos.line X.env = pure false := by rfl) (hw : swappedStores [tg] e X.env = pure none := by rfl) (h1 : (assignEach [tg] X.env).map (·.2) = [assign tg X.env] := by rfl) :
    DS X W (.Assign [tg] e pos) (sAsg fe gt) := imS (ps_asg he hg hs hw h1) fun D σ H h => by
  obtain ⟨G0, G, F, ps, ρ, L, g0, I, S, h⟩ := h
  refine ⟨G0, G, F, ps, ρ, L, g0, I, S, Res.wp_mono (Res.wp_bind h) (fun s L1 h1 v F1 H1 p1 x1 I1 r1 => ?_) fun e r L' q => q⟩
  refine ⟨G0, G, F1, p1, ρ, L1, s, g0, I1, S.ext x1, r1, ?_⟩
  cases q : gt s ρ L1 with
  | bad => rw [q] at h1; exact h1.elim
  | err e r L' => exact absurd q (hq _ _ _ _ _ _)
  | ok r L2 =>
    rw [q] at h1
    exact fun s2 G2 F2 H2 p2 g2 x2 I2 S2 => h1 s2 G2 F2 H2 p2 g2 (x1.trans x2) I2 S2
theorem gN_ne {i : Nat} : ∀ s ρ L e r L', gN i s ρ L ≠ .err e r L' := fun s ρ L e r L' q => by
  unfold gN at q
  split at q <;> cases q
theorem give_ne {α : Type} {o : Option α} {L : Led} {e : Exn} {r : Slo} {L' : Led} : give o L ≠ .err e r L' := by
  cases o <;> intro q <;> cases q
theorem gTp_ne {is : List Nat} : ∀ s ρ L e r L', gTp is s ρ L ≠ .err e r L' := fun s ρ L e r L' q => by
  unfold gTp at q
  split at q
  · exact give_ne q
  · cases q
/-- x = e -/
theorem ds_set (i : Nat) {x : Str} {pos' : Pos} (hN : X.N.Nodup) (hi : X.N[i]? = some x) (hx : Loc X.env.scope x) (he : DE X W e fe) (hs : swapsWith e (some (.Name x pos')) pos.line X.env = pure false := by rfl) (hf : X.fn x = true ∨ X.env.scope.names.lookup x = some .local := by first | exact .inl rfl | exact .inr rfl | assumption) :
    DS X W (.Assign [.Name x pos'] e pos) (sSet i fe) := imS (ps_set hN hi hx he hs hf) fun D σ H h => by
  obtain ⟨G0, G, F, ps, ρ, L, g0, I, S, h⟩ := h
  refine ⟨G0, G, F, ps, ρ, L, g0, I, S, Res.wp_mono (Res.wp_bind h) (fun s L1 h1 v F1 H1 p1 x1 I1 r1 => ?_) fun e r L' q => q⟩
  split at h1
  · exact h1 _ G F1 H1 p1 g0 x1 I1 ((S.ext x1).set i r1 rfl)
  · exact h1.elim

/-! ### lists of the frame's own -/
/-- x = [..], the list to be changed later -/
def sSetL (i : Nat) (fr : DM (List Sv)) : DM Fl := fun ρ L => (fr ρ L).bind fun ss L1 => match vals ss with
  | some ds => if ds.length ≤ sizeLine then .ok (.nx (ρ.set i (some (.mu ds)))) L1 else .bad
  | none => .bad
theorem ds_setL (i : Nat) {x : Str} {pos' pos2 : Pos} {es : List Expr} {fr : DM (List Sv)} (hN : X.N.Nodup) (hi : X.N[i]? = some x) (hx : Loc X.env.scope x) (he : DA X W es fr) (hs : swapsWith (.List es pos2) (some (.Name x pos')) pos.line X.env = pure false := by rfl) (hf : X.fn x = true ∨ X.env.scope.names.lookup x = some .local := by first | exact .inl rfl | exact .inr rfl | assumption) :
    DS X W (.Assign [.Name x pos'] (.List es pos2) pos) (sSetL i fr) := imS (ps_set hN hi hx (pe_lst he) hs hf) fun D σ H h => by
  obtain ⟨G0, G, F, ps, ρ, L, g0, I, S, h⟩ := h
  refine ⟨G0, G, F, ps, ρ, L, g0, I, S, Res.wp_mono (Res.wp_bind h) (fun ss L1 h1 vs F1 H1 p1 x1 I1 r1 => ?_) fun e r L' q => q⟩
  split at h1
  · rename_i ds hv
    split at h1
    · rename_i hz
      have r2 := vals_ok hv r1
      have z2 : vs.length ≤ sizeLine := by rw [r2.length]; exact hz
      refine ⟨z2, fun p hp => ?_⟩
      have gp : G p = none := I1.frame.free hp
      refine h1 _ (upd G p (.lst vs)) F1 (upd H1 p (.lst vs)) p1 (fun b o q => ?_) x1 (I1.hold hp) ?_
      · rw [upd_ne (ne_of_none (g0 _ _ q) gp)]; exact g0 _ _ q
      · exact (S.ext x1).own gp g0 ⟨p, vs, rfl, g0.free gp, upd_same, z2, r2⟩ rfl
    · exact h1.elim
  · exact h1.elim
/-- x.append(e) -/
def sApp (i : Nat) (fe : DM Sv) : DM Fl := fun ρ L => match ρ[i]? with
  | some (some (.mu xs)) => (fe ρ L).bind fun s L1 => match s with
    | .val d => if xs.length < sizeLine then .ok (.nx (ρ.set i (some (.mu (xs ++ [d]))))) L1 else .bad
    | _ => .bad
  | _ => .bad
theorem ds_app (i : Nat) {x : Str} {np apos cpos : Pos} (hN : X.N[i]? = some x) (hv : Vis X.env.scope x) (he : DE X W e fe) (hd : (x == ("__debug__" : Str)) = false := by decide) (hcd : (x == ("__classdict__" : Str)) = false := by decide)
    (hbase : attributeBase (.Name x np) "append" X.env (eval (.Name x np) X.env) = eval (.Name x np) X.env := by rfl)
    (hfew : ((backTo cpos (starEach [e] X.env)).all (fun x => !x.1) && (backToKw cpos (keywordEach [] X.env)).all (fun x => x.1.isSome)
      && decide (([e] : List Expr).length + ([] : List Keyword).length + (if ([] : List Keyword).isEmpty then 0 else 1) < 30)) = true := by rfl)
    (hline : (apos.endLine == cpos.line) = true := by rfl) (hs : starEach [e] X.env = (false, eval e X.env) :: starEach [] X.env := by rfl) (hplain : (backTo cpos (starEach [] X.env)).any (·.1) = false := by rfl)
    (hsw : swapsWith (.Call (.Attribute (.Name x np) "append" apos) [e] [] cpos) none pos.line X.env = pure false := by rfl) :
    DS X W (.Expr (.Call (.Attribute (.Name x np) "append" apos) [e] [] cpos) pos) (sApp i fe) :=
  imS (ps_expr (pe_bm PySem.F.plainAttrs_list PySem.F.slot_list_append PySem.F.type_list_append mt_append (pe_var hN hv hd hcd) (pa_cons he pa_nil hs) hbase hfew hline hs hplain) hsw) fun D σ H h => by
  obtain ⟨G0, G, F, ps, ρ, L, g0, I, S, h⟩ := h
  unfold sApp at h
  split at h
  · rename_i xs pre
    obtain ⟨p, vs, hσ, hG0, hG, z, rs⟩ := S.mu pre
    refine ⟨.ref p, hσ, Or.inl ⟨rfl, vs, SqL.of (I.frame _ _ hG)⟩, ?_⟩
    refine ⟨G0, G, F, ps, ρ, L, g0, I, S, Res.wp_mono (Res.wp_bind h) (fun s L1 h1 v F1 H1 p1 x1 I1 r1 => ?_) fun e r L' q => q⟩
    split at h1
    · rename_i d
      split at h1
      · rename_i hz
        have e1 := rs.length
        refine ⟨p, vs, v, rfl, rfl, I1.frame _ _ hG, by rw [e1]; exact hz, ?_⟩
        have S1 := S.ext x1
        have z2 : (vs ++ [v]).length ≤ sizeLine := by rw [List.length_append, List.length_singleton, e1]; exact hz
        refine h1 σ (upd G p (.lst (vs ++ [v]))) F1 _ p1 (fun b o q => ?_) x1 (I1.write hG fun x q => by cases q) (S1.chg pre rfl hσ hG0 ⟨p, _, rfl, hG0, upd_same, z2, (rs.ext x1).append (.one r1)⟩ rfl)
        rw [upd_ne (ne_of_none q hG0)]; exact g0 _ _ q
      · exact h1.elim
    · exact h1.elim
  · exact h.elim
/-- from here on the list in slot i is changed no more -/
def gFrz (i : Nat) (f : DM Fl) : DM Fl := fun ρ L => match ρ[i]? with
  | some (some (.mu xs)) => f (ρ.set i (some (.val (.lst xs)))) L
  | some (some (.muD ks)) => f (ρ.set i (some (.val (.dic ks)))) L
  | _ => .bad
theorem Slots.frz {K : PySem.W.Frag} {mg : Str → Option Value} {G0 G F : Hp} {ps : List Addr} {σ : List (Option V)} {ρ : Slo} {i : Nat} {p : Addr} {o : HO} {s : Sv} {d : Dv} (S : Slots K mg G0 G F ps σ ρ) (h : ρ[i]? = some (some s)) (hs : s.isMut = true) (hσ : σ[i]? = some (some (.ref p))) (x : Ext F ps (upd F p o) ps) (r : RD K mg (upd F p o) ps (.ref p) d) :
    Slots K mg G0 (cut G p) (upd F p o) ps σ (ρ.set i (some (.val d))) := by
  have hi : i < ρ.length := (List.getElem?_eq_some_iff.mp h).1
  refine ⟨by simp [S.len], fun j t hj => ?_, fun j l t t2 v hj hl m1 m2 h1 h2 => ?_⟩
  · by_cases hij : i = j
    · subst hij
      rw [List.getElem?_set_self hi] at hj
      cases hj
      exact ⟨_, hσ, r⟩
    · rw [List.getElem?_set_ne hij] at hj
      obtain ⟨v, a, b⟩ := S.at_ j t hj
      refine ⟨v, a, ?_⟩
      cases t with
      | val d => exact RD.ext x b
      | bor xs => obtain ⟨q, vs, e, b1, b2, b3⟩ := b; exact ⟨q, vs, e, b1, b2, RDs.ext x b3⟩
      | borD xs => obtain ⟨q, vs, e, b1, b2, b3⟩ := b; exact ⟨q, vs, e, b1, b2, RDk.ext x b3⟩
      | mu xs =>
        obtain ⟨q, vs, rfl, b1, b2, b3, b4⟩ := b
        have hqp : q ≠ p := by
          rintro rfl
          exact hij (S.sep i j s (.mu xs) _ h hj hs rfl hσ a)
        exact ⟨q, vs, rfl, b1, by rw [cut_ne hqp]; exact b2, b3, RDs.ext x b4⟩
      | muD xs =>
        obtain ⟨q, vs, rfl, b1, b2, b3, b4⟩ := b
        have hqp : q ≠ p := by
          rintro rfl
          exact hij (S.sep i j s (.muD xs) _ h hj hs rfl hσ a)
        exact ⟨q, vs, rfl, b1, by rw [cut_ne hqp]; exact b2, b3, RDk.ext x b4⟩
      | xc c fs => obtain ⟨a, dd, C, gs, e1, e2, e3, e4, e5, e6, e7⟩ := b; exact ⟨a, dd, C, gs, e1, e2, e3, e4, e5, e6, RDf.ext x e7⟩
  · have back : ∀ {j : Nat} {t : Sv}, (ρ.set i (some (.val d)))[j]? = some (some t) → t.isMut = true → ρ[j]? = some (some t) := fun {j t} hj m => by
      by_cases hij : i = j
      · subst hij
        rw [List.getElem?_set_self hi] at hj
        cases hj; cases m
      · rw [List.getElem?_set_ne hij] at hj; exact hj
    exact S.sep j l t t2 v (back hj m1) (back hl m2) m1 m2 h1 h2
theorem dss_frz (i : Nat) {sts : List Stmt} (h : DSs X W sts f) : DSs X W sts (gFrz i f) := imSs (pss_lk h) fun D σ H h => by
  obtain ⟨G0, G, F, ps, ρ, L, g0, I, S, h⟩ := h
  unfold gFrz at h
  split at h
  · rename_i xs pre
    obtain ⟨p, vs, hσ, hG0, hG, z, rs⟩ := S.mu pre
    obtain ⟨I2, x2⟩ := I.frz hG
    exact .inl ⟨G0, cut G p, _, ps, _, L, fun b o q => by rw [cut_ne (ne_of_none q hG0)]; exact g0 _ _ q, I2, S.frz pre rfl hσ x2 (.lst upd_same z (rs.ext x2)), Res.wp_mono h (fun _ _ q => QS.ext x2 q) fun _ _ _ q => EE.ext x2 q⟩
  · rename_i xs pre
    obtain ⟨p, vs, hσ, hG0, hG, z, rs⟩ := S.muD pre
    refine .inr ⟨p, .dK vs, I.frame _ _ hG, trivial, fun od => ?_⟩
    have I1 := I.write (u := .frz od (.dK vs)) hG fun _ q => by cases q
    obtain ⟨I2, x2⟩ := I1.frz (upd_same (H := G))
    rw [cut_upd] at I2
    exact ⟨G0, cut G p, _, ps, _, L, fun b o q => by rw [cut_ne (ne_of_none q hG0)]; exact g0 _ _ q, I2, S.frz pre rfl hσ x2 (.dic upd_same z (rs.ext x2)), Res.wp_mono h (fun _ _ q => QS.ext x2 q) fun _ _ _ q => EE.ext x2 q⟩
  · exact h.elim
end
end DL

/-! DL, part 8: what is walked: lists, tuples, texts; enumerate and zip of them. -/
namespace DL
open PySem PySem.Spec PyProof.Rows L2
/-- a source -/
inductive Kd where
  | l (a : Addr) | t (a : Addr) | s (z : Str) (u : Tok)
def chars (z : Str) : List V := z.cps.toList.map fun c => .str ⟨#[c]⟩
namespace Kd
def val : Kd → Value
  | .l a => .ref a
  | .t a => .ref a
  | .s z u => .str z u
def at_ (K : PySem.W.Frag) (H : Hp) : Kd → List V → Prop
  | .l a, xs => SqL K H a xs
  | .t a, xs => SqT K H a xs
  | .s z _, xs => xs = chars z
def st : Kd → Addr → Nat → Heap → Prop
  | .l a, it, i, h => h.IsListIter it a i
  | .t a, it, i, h => h.IsTupleIter it a i
  | .s z u, it, i, h => h.IsStrIter it (strIterType z) z u i
def obj : Kd → Obj
  | .l a => { cls := .type "list_iterator", data := .fields #[.ref a, .int 0 0] }
  | .t a => { cls := .type "tuple_iterator", data := .fields #[.ref a, .int 0 0] }
  | .s z u => { cls := .type (strIterType z), data := .fields #[.str z u, .int 0 0] }
def away (k : Kd) (b : Addr) : Prop := ∀ a, (k = .l a ∨ k = .t a) → a ≠ b
theorem start (k : Kd) {it : Addr} {h : Heap} (e : h.get? it = some k.obj) : k.st it 0 h := by
  cases k with
  | l a => exact ⟨_, e, rfl, rfl⟩
  | t a => exact ⟨_, e, rfl, rfl⟩
  | s z u => exact ⟨_, e, rfl, rfl⟩
theorem keep {k : Kd} {it : Addr} {i : Nat} {h h' : Heap} (st : k.st it i h) (kk : ∀ o, h.get? it = some o → h'.get? it = some o) : k.st it i h' := by
  cases k with
  | l a => exact Heap.IsListIter.at st kk
  | t a => exact Heap.IsTupleIter.at st kk
  | s z u => obtain ⟨o, ho, r⟩ := st; exact ⟨o, kk o ho, r⟩
theorem live {k : Kd} {it : Addr} {i : Nat} {h : Heap} (st : k.st it i h) : ∃ o, h.get? it = some o ∧ ∀ v, o.data ≠ .cell v := by
  cases k with
  | l a => obtain ⟨o, e, c, d⟩ := st; exact ⟨o, e, fun v z => by rw [d] at z; cases z⟩
  | t a => obtain ⟨o, e, c, d⟩ := st; exact ⟨o, e, fun v z => by rw [d] at z; cases z⟩
  | s z u => obtain ⟨o, e, c, d⟩ := st; exact ⟨o, e, fun v z => by rw [d] at z; cases z⟩
section
variable {X : Cx} {pins : List (Addr × Obj)} {σ : List (Option V)} {H : Hp} {s : Shared} {k : Kd} {xs ys : List V}
theorem inj (I : Inv X pins σ H s) (h : k.at_ X.K H xs) (h' : k.at_ X.K H ys) : xs = ys := by
  cases k with
  | l a => exact I.list_inj h h'
  | t a => exact I.tuple_inj h h'
  | s z u => exact h.trans h'.symm
theorem away_of (I : Inv X pins σ H s) (h : k.at_ X.K H xs) {b : Addr} (hb : s.heap.objs.size ≤ b) : k.away b := by
  rintro a ha rfl
  have hs : SqL X.K H a xs ∨ SqT X.K H a xs := by
    rcases ha with e | e
    · subst e; exact .inl h
    · subst e; exact .inr h
  have hl : a < s.heap.objs.size := by
    rcases hs with h | h
    · obtain ⟨its, rv, ⟨o, n, e, _⟩, hz⟩ := I.list h; exact Heap.lt_size e
    · obtain ⟨its, rv, ⟨o, e, _⟩, hz⟩ := I.tuple h; exact Heap.lt_size e
  exact absurd hl (Nat.not_lt.mpr hb)
theorem begins (I : Inv X pins σ H s) (h : k.at_ X.K H xs) : ∃ Hc, Begins k.val k.obj Hc ∧ Hc s.heap := by
  cases k with
  | l a => obtain ⟨its, rv, p, hz⟩ := I.list h; exact ⟨_, begins_list a its.toArray, p.isList⟩
  | t a => obtain ⟨its, rv, p, hz⟩ := I.tuple h; exact ⟨_, begins_tuple a its.toArray, p⟩
  | s z u => exact ⟨_, begins_text z u, trivial⟩
/-- the source's own object is none of the iterator's -/
theorem apart (I : Inv X pins σ H s) (h : k.at_ X.K H xs) {A : Around} (hh : A.handled = none) {it : Addr} (hit : k.away it) {i : Nat} (st : k.st it i s.heap) :
    ∃ (fp : List Addr) (P : Nat → Value → Prop) (Z : Nat → Heap → Prop), Draws X.prog X.w A it fp xs.length P Z ∧ Z i s.heap ∧ (∀ j v, P j v → ∃ x, xs[j]? = some x ∧ RelV x v) ∧ (∀ j h', Z j h' → k.st it j h') ∧ it ∈ fp ∧ ∀ b ∈ fp, b = it ∨ k = .l b ∨ k = .t b := by
  cases k with
  | l a =>
    obtain ⟨its, rv, p, hz⟩ := I.list h
    have D := Draws.list (prog := X.prog) (w := X.w) hh it a (hit a (.inl rfl)) its.toArray
    have el : xs.length = its.toArray.size := by simp [rv.length]
    refine ⟨[it, a], _, (fun i h => h.IsListIter it a i ∧ h.IsList a its.toArray), by rw [el]; exact D, ⟨st, p.isList⟩, fun j v hv => ?_, fun j h' q => q.1, by simp, fun b hb => ?_⟩
    · have hv' : its[j]? = some v := by simpa using hv
      have hj : j < xs.length := by rw [rv.length]; exact (List.getElem?_eq_some_iff.mp hv').1
      obtain ⟨u, e, r⟩ := rv.get (show xs[j]? = some xs[j] by simp [hj])
      rw [hv'] at e; cases e
      exact ⟨_, by simp [hj], r⟩
    · have e : b = it ∨ b = a := by simpa using hb
      rcases e with e | e
      · exact .inl e
      · exact .inr (.inl (by rw [e]))
  | t a =>
    obtain ⟨its, rv, p, hz⟩ := I.tuple h
    have D := Draws.tuple (prog := X.prog) (w := X.w) hh it a (hit a (.inr rfl)) its.toArray
    have el : xs.length = its.toArray.size := by simp [rv.length]
    refine ⟨[it, a], _, (fun i h => h.IsTupleIter it a i ∧ h.IsTuple a its.toArray), by rw [el]; exact D, ⟨st, p⟩, fun j v hv => ?_, fun j h' q => q.1, by simp, fun b hb => ?_⟩
    · have hv' : its[j]? = some v := by simpa using hv
      have hj : j < xs.length := by rw [rv.length]; exact (List.getElem?_eq_some_iff.mp hv').1
      obtain ⟨u, e, r⟩ := rv.get (show xs[j]? = some xs[j] by simp [hj])
      rw [hv'] at e; cases e
      exact ⟨_, by simp [hj], r⟩
    · have e : b = it ∨ b = a := by simpa using hb
      rcases e with e | e
      · exact .inl e
      · exact .inr (.inr (by rw [e]))
  | s z u =>
    cases h
    have D := Draws.text (prog := X.prog) (w := X.w) hh it z u
    have el : (chars z).length = z.cps.size := by simp [chars]
    refine ⟨[it], _, _, by rw [el]; exact D, st, fun j v hv => ?_, fun j h' q => q, by simp, fun b hb => .inl (by simpa using hb)⟩
    obtain ⟨c, t, e, rfl⟩ := hv
    refine ⟨.str ⟨#[c]⟩, ?_, ⟨t, rfl⟩⟩
    simp [chars]
    exact e
end
end Kd
/-! ### enumerate -/
section
variable {prog : Program} {w : World} {A : Around} {E : Value → Shared → Prop} {s : Shared}
theorem meets_enum1 {v : Value} {o : Obj} {H : Heap → Prop} (B : Begins v o H) :
    Meets (Builtin.«enumerate.__new__» ⟨[.type "enumerate", v], []⟩) (fun _ R s => H s.heap ∧
      R (.ok (.ret (.ref (s.heap.push o).objs.size))) { s with heap := (s.heap.push o).push { cls := .type "enumerate", data := .fields #[.none, .bool false, .ref s.heap.objs.size, rawInt 0, .none, .none] } }) :=
  .of_wp fun prog w A R s h => by
    obtain ⟨hp, g, d, tk, os⟩ := s; obtain ⟨h1, h⟩ := h
    have hsub := sub_enumerate
    have q1 : ∀ {A' : Around} {E : Value → Shared → Prop} {Q : Value → Shared → Prop}, Q (.ref hp.objs.size) ⟨hp.push o, g, d, tk, os⟩ → wpAny (model prog w) A' (pyIter v) Q E ⟨hp, g, d, tk, os⟩ :=
      fun q => B.iter prog w _ _ ⟨hp, g, d, tk, os⟩ _ h1 q
    wp_walk using q1
    refine wpAny_stack_any fun st => wpAny_pure ?_
    split
    · rename_i c _ _ _ _ _
      cases (c == Value.type "enumerate")
      · wp_walk using q1
        exact ⟨_, rfl, h⟩
      · wp_walk using q1
        exact ⟨_, rfl, h⟩
    · wp_walk using q1
      exact ⟨_, rfl, h⟩
theorem enum1 {v : Value} {o : Obj} {H : Heap → Prop} {Q : Value → Shared → Prop} (B : Begins v o H) (h1 : H s.heap)
    (h : ∀ h', IsEnum h' (s.heap.objs.size + 1) s.heap.objs.size 0 .none → h'.get? s.heap.objs.size = some o → h'.objs.size = s.heap.objs.size + 2 →
      (∀ b o, s.heap.get? b = some o → h'.get? b = some o) → Q (.ref (s.heap.objs.size + 1)) { s with heap := h' }) :
    wpAny (model prog w) A (call (.type "enumerate") [v]) Q E s := by
  refine callType_new F.called_enumerate (by decide) (F.typeCall_enumerate_1 _) (F.newCall_enumerate_1 _) (fun obj => F.args_object_init_2 obj _) F.entry_enumerate_new
    (meets_enum1 B) ⟨h1, ?_⟩
  have hz : (s.heap.push o).objs.size = s.heap.objs.size + 1 := Heap.size_push ..
  show _ ∧ _
  rw [hz]
  have he : IsEnum ((s.heap.push o).push { cls := .type "enumerate", data := .fields #[.none, .bool false, .ref s.heap.objs.size, rawInt 0, .none, .none] }) (s.heap.objs.size + 1) s.heap.objs.size 0 .none := by
    have := Heap.get?_push_size (s.heap.push o) (o := { cls := .type "enumerate", data := .fields #[.none, .bool false, .ref s.heap.objs.size, rawInt 0, .none, .none] }) rfl
    rw [hz] at this; exact this
  exact ⟨⟨_, he, rfl⟩, h _ he (Heap.get?_push_of_some _ (Heap.get?_push_size _ B.free)) (by rw [Heap.size_push, hz]) fun b o x => Heap.get?_push_of_some _ (Heap.get?_push_of_some _ x)⟩
end
def ItE (K : PySem.W.Frag) (k : Kd) : It :=
  ⟨fun i H => ∃ (xs : List V) (x : V), k.at_ K H xs ∧ xs[i]? = some x, fun i H v H' => ∃ T x, v = .ref T ∧ H T = none ∧ H' = upd H T (.tup [.int (i : Nat), x]) ∧ ∀ xs, k.at_ K H xs → xs[i]? = some x, fun i H => ∃ xs : List V, k.at_ K H xs ∧ xs.length = i⟩
theorem turn_enumK {P : Program} {w : World} {K : PySem.W.Frag} {elts : List Expr} {kk : Nat} {tpos : Pos} (k : Kd) (e it : Addr) (ai : k.away it) (ae : k.away e) :
    Turn P w K (.Tuple elts kk tpos) (ItE K k) [e, it] e (fun i h => (∃ old, IsEnum h e it ((i : Nat) : Int) old) ∧ k.st it i h ∧ e ≠ it) where
  mem := by simp
  obj := fun i h st b hb => by
    obtain ⟨⟨old, he⟩, hi, _⟩ := st
    have e' : b = e ∨ b = it := by simpa using hb
    rcases e' with z | z
    · rw [z]; exact ⟨_, he, fun v q => nomatch q⟩
    · rw [z]; exact Kd.live hi
  keep := fun i h h' st k2 => let ⟨⟨old, he⟩, hi, hne⟩ := st; ⟨⟨old, k2 e (by simp) _ he⟩, Kd.keep hi fun o q => k2 it (by simp) o q, hne⟩
  item := by
    intro X hP hw hK hc i pins s σ H E I hf st hg
    subst hP hw hK
    obtain ⟨⟨old, he⟩, hit, hne⟩ := st
    obtain ⟨xs, x0, hq, hx⟩ := hg
    have hel : e < s.heap.objs.size := Heap.lt_size he
    have hil : it < s.heap.objs.size := by obtain ⟨_, q, _⟩ := Kd.live hit; exact Heap.lt_size q
    have hd : X.A.in1.handled = none := I.ok.hd hc
    obtain ⟨fp, PP, Z, D, z0, hP, hZ, mi, hfp⟩ := Kd.apart I hq hd ai hit
    have hlt : i < xs.length := (List.getElem?_eq_some_iff.mp hx).1
    have hef : e ∉ fp := fun q => by
      rcases hfp e q with z | z
      · exact hne z
      · exact ae e z rfl
    refine wpAny_pyNext_enum_itemD D he z0 hlt hne hef fun u h' tk pu ho hit' hT hsz hk => ?_
    obtain ⟨x, hx', ru⟩ := hP i u pu
    refine ⟨_, rfl, wpAny_letOwnedTupleGo_enum (s := { s with heap := h', toks := tk + 1 }) ho fun h'' he' sb => ?_⟩
    have hT2 : h''.get? s.heap.objs.size = some { cls := .type "tuple", data := .seq #[.int i tk, u] } := (sb.2 _ (Nat.ne_of_gt hel)).trans hT
    have new : ObjOk X.prog X.w (upd H s.heap.objs.size (.tup [.int (i : Nat), x])) h'' s.heap.objs.size (.tup [.int (i : Nat), x]) :=
      ⟨by show 2 ≤ sizeLine; decide, [.int i tk, u], .cons ⟨_, rfl⟩ (.cons ru .nil), ⟨_, hT2, rfl, _, rfl⟩⟩
    have I1 : Inv X pins σ (upd H s.heap.objs.size (.tup [.int (i : Nat), x])) { s with heap := h'', toks := tk + 1 } :=
      I.turnedNew (ch := [e, it]) (fun b ob hb q => (sb.2 b (fun z => hb (by simp [z]))).trans (hk b ob (fun z => hb (by simp [z])) (fun z => hb (by simp [z])) q)) hf (Nat.le_refl _) new
    refine ⟨.ref s.heap.objs.size, _, I1, rfl, ⟨_, x, rfl, I.hok.fresh (Nat.le_refl _), rfl, fun ys hy => by rw [Kd.inj I hy hq]; exact hx'⟩, ⟨⟨u, ?_⟩, Kd.keep (hZ _ _ hit') fun o q => (sb.2 it (Ne.symm hne)).trans q, hne⟩, fun b hb => ?_⟩
    · have e1 : ((i + 1 : Nat) : Int) = (i : Int) + 1 := by omega
      rw [e1]; exact he'
    · have hb' : b < s.heap.objs.size := by
        have e' : b = e ∨ b = it := by simpa using hb
        rcases e' with z | z
        · rw [z]; exact hel
        · rw [z]; exact hil
      rw [upd_ne (Nat.ne_of_lt hb')]
      exact (hf b hb).1
  done := by
    intro X hP hw hK hc i pins s σ H E I hf st hg
    subst hP hw hK
    obtain ⟨⟨old, he⟩, hit, hne⟩ := st
    obtain ⟨xs, hq, hx⟩ := hg
    have hd : X.A.in1.handled = none := I.ok.hd hc
    obtain ⟨fp, PP, Z, D, z0, hP, hZ, mi, hfp⟩ := Kd.apart I hq hd ai hit
    obtain ⟨f0, f1, f2, f3, f4, f5⟩ := hf it (by simp)
    subst hx
    exact wpAny_pyNext_enum_endD D he z0 fun h' eb => ⟨rfl, I.turned (t' := s.toks) (fun b o hb q => eb b o hb q) f0 f1 f3 f4 f5⟩
  self := fun A i s Q E st h => let ⟨⟨_, he⟩, _⟩ := st; wpAny_pyIter_enum he h
/-- what kind of source a value is -/
def SrcR (K : PySem.W.Frag) (H : Hp) (v : V) (P : Kd → Prop) : Prop := (∃ a xs, v = .ref a ∧ SqL K H a xs ∧ P (.l a)) ∨ (∃ a xs, v = .ref a ∧ SqT K H a xs ∧ P (.t a)) ∨ ∃ z, v = .str z ∧ ∀ u, P (.s z u)
theorem SrcR.kd {K : PySem.W.Frag} {H : Hp} {v : V} {u : Value} {P : Kd → Prop} (h : SrcR K H v P) (r : RelV v u) : ∃ k xs, u = Kd.val k ∧ Kd.at_ K H k xs ∧ P k := by
  rcases h with ⟨a, xs, rfl, h, p⟩ | ⟨a, xs, rfl, h, p⟩ | ⟨z, rfl, p⟩
  · cases r; exact ⟨.l a, xs, rfl, h, p⟩
  · cases r; exact ⟨.t a, xs, rfl, h, p⟩
  · obtain ⟨t, rfl⟩ := r; exact ⟨.s z t, _, rfl, rfl, p t⟩
/-- the source itself -/
def ItP (K : PySem.W.Frag) : Kd → It
  | .l a => Itl K a
  | .t a => Itt K a
  | .s z _ => Its z
def iSrc (K : PySem.W.Frag) (te : TE) : TI := fun σ H R => te σ H fun v H1 => SrcR K H1 v fun k => R (ItP K k) H1
theorem strTy (z : Str) : strIterType z = "str_ascii_iterator" ∨ strIterType z = "str_iterator" := by
  unfold strIterType
  split
  · exact .inl rfl
  · exact .inr rfl
theorem pi_src {X : Cx} {tg e : Expr} {te : TE} (he : PE X e te) : PI X tg e (iSrc X.K te) := by
  refine ⟨fun pins s σ H R I h => ?_⟩
  refine thn (he.run pins s σ H _ I h) fun v s1 ⟨y, H1, I1, r1, q⟩ => ?_
  obtain ⟨k, xs, rfl, hk, q⟩ := q.kd r1
  obtain ⟨Hc, B, hc⟩ := Kd.begins I1 hk
  refine B.iter _ _ _ _ _ _ hc ?_
  cases k with
  | l a => exact pi_one (tk := s1.toks) I1 _ (turn_list a _) ⟨_, Heap.get?_push_size _ rfl, rfl, rfl⟩ q
  | t a => exact pi_one (tk := s1.toks) I1 _ (turn_tuple a _) ⟨_, Heap.get?_push_size _ rfl, rfl, rfl⟩ q
  | s z u => exact pi_one (tk := s1.toks) I1 _ (turn_str _ z u _ (strTy z)) ⟨_, Heap.get?_push_size _ rfl, rfl, rfl⟩ q
def iEnumK (K : PySem.W.Frag) (ta : TA) : TI := fun σ H R => ta σ H fun vs H1 => ∃ v, vs = [v] ∧ SrcR K H1 v fun k => R (ItE K k) H1
theorem pi_enumK {X : Cx} {e : Expr} {ta : TA} {p pos tpos : Pos} {elts : List Expr} {kk : Nat} (hg : Gl X "enumerate") (hm : X.mg "enumerate" = none) (ha : PA X [e] ta) (hs : starEach [e] X.env = [(false, eval e X.env)] := by rfl) :
    PI X (.Tuple elts kk tpos) (.Call (.Name "enumerate" p) [e] [] pos) (iEnumK X.K ta) := by
  refine ⟨fun pins s σ H R I h => ?_⟩
  refine Call_ (ld_blt I hg hm boot_enumerate (PyProof.Rows.callWith_type1 (thn (ha.run pos pins s σ H _ I h) fun us s1 ⟨vs, H1, I1, r1, q1⟩ => ?_) hs rfl))
  obtain ⟨v, ex, q⟩ := q1
  subst ex
  cases r1 with
  | cons r rr =>
    cases rr
    obtain ⟨k, xs, rfl, hk, q⟩ := q.kd r
    obtain ⟨Hc, B, hc⟩ := Kd.begins I1 hk
    refine enum1 B hc fun h' he hit hsz hk2 => wpAny_pyIter_enum he ?_
    have I2 : Inv X pins σ H1 { s1 with heap := h' } := I1.kept (t' := s1.toks) hk2
    refine ⟨s1.heap.objs.size + 1, [s1.heap.objs.size + 1, s1.heap.objs.size], _, _, H1, rfl, I2, turn_enumK k (s1.heap.objs.size + 1) s1.heap.objs.size (Kd.away_of I1 hk (Nat.le_refl _)) (Kd.away_of I1 hk (Nat.le_succ _)), ⟨⟨.none, he⟩, k.start hit, Nat.succ_ne_self _⟩, fun b hb => ?_, q⟩
    have e' : b = s1.heap.objs.size + 1 ∨ b = s1.heap.objs.size := by simpa using hb
    have hle : s1.heap.objs.size ≤ b := by
      rcases e' with z | z
      · rw [z]; exact Nat.le_add_right _ _
      · rw [z]; exact Nat.le_refl _
    exact I1.fpOk hle (I1.hok.fresh hle)
/-! ### zip -/
def ItZ (K : PySem.W.Frag) (k k2 : Kd) : It :=
  ⟨fun i H => ∃ (xs ys : List V) (x y : V), k.at_ K H xs ∧ k2.at_ K H ys ∧ xs[i]? = some x ∧ ys[i]? = some y,
    fun i H v H' => ∃ T x y, v = .ref T ∧ H T = none ∧ H' = upd H T (.tup [x, y]) ∧ (∀ xs, k.at_ K H xs → xs[i]? = some x) ∧ ∀ ys, k2.at_ K H ys → ys[i]? = some y,
    fun i H => ∃ xs ys : List V, k.at_ K H xs ∧ k2.at_ K H ys ∧ min xs.length ys.length = i⟩
/-- the cells of a zip lie apart -/
structure ZAp (k k2 : Kd) (z TI TO i1 i2 : Addr) : Prop where
  TIz : TI ≠ z
  TOz : TO ≠ z
  TITO : TI ≠ TO
  i1z : i1 ≠ z
  i2z : i2 ≠ z
  TI1 : TI ≠ i1
  TI2 : TI ≠ i2
  TO1 : TO ≠ i1
  TO2 : TO ≠ i2
  i12 : i1 ≠ i2
  a1 : k.away i1 ∧ k.away i2 ∧ k.away z ∧ k.away TO
  a2 : k2.away i1 ∧ k2.away i2 ∧ k2.away z ∧ k2.away TO
theorem turn_zipK {P : Program} {w : World} {K : PySem.W.Frag} {elts : List Expr} {kk : Nat} {tpos : Pos} {k k2 : Kd} {z TI TO i1 i2 : Addr} (D : ZAp k k2 z TI TO i1 i2) :
    Turn P w K (.Tuple elts kk tpos) (ItZ K k k2) [z, TI, TO, i1, i2] z (fun i h => IsZip h z TI TO .none ∧ IsTupOf2 h TI (.ref i1) (.ref i2) ∧ (∃ x y, IsTupOf2 h TO x y) ∧ k.st i1 i h ∧ k2.st i2 i h) where
  mem := by simp
  obj := fun i h st c hc => by
    obtain ⟨hz, hTI, ⟨x, y, hTO⟩, s1, s2⟩ := st
    have e' : c = z ∨ c = TI ∨ c = TO ∨ c = i1 ∨ c = i2 := by simpa using hc
    rcases e' with q | q | q | q | q
    · rw [q]; exact ⟨_, hz, fun v q => nomatch q⟩
    · rw [q]; exact ⟨_, hTI, fun v q => nomatch q⟩
    · rw [q]; exact ⟨_, hTO, fun v q => nomatch q⟩
    · rw [q]; exact Kd.live s1
    · rw [q]; exact Kd.live s2
  keep := fun i h h' st kp => by
    obtain ⟨hz, hTI, ⟨x, y, hTO⟩, h1, h2⟩ := st
    exact ⟨kp z (by simp) _ hz, kp TI (by simp) _ hTI, ⟨x, y, kp TO (by simp) _ hTO⟩, Kd.keep h1 fun o q => kp i1 (by simp) o q, Kd.keep h2 fun o q => kp i2 (by simp) o q⟩
  item := by
    intro X hP hw hK hc i pins s σ H E I hf st hg
    subst hP hw hK
    obtain ⟨hz, hTI, ⟨x0, y0, hTO⟩, h1, h2⟩ := st
    obtain ⟨xs, ys, x', y', hqx, hqy, hx, hy⟩ := hg
    have hzl : z < s.heap.objs.size := Heap.lt_size hz
    have hd : X.A.in1.handled = none := I.ok.hd hc
    obtain ⟨fp1, P1, Z1, D1, z1, hP1, hZ1, m1, hf1⟩ := Kd.apart I hqx hd D.a1.1 h1
    obtain ⟨fp2, P2, Z2, D2, z2, hP2, hZ2, m2, hf2⟩ := Kd.apart I hqy hd D.a2.2.1 h2
    have no1 : ∀ {b}, b ≠ i1 → k.away b → b ∉ fp1 := fun hb ha q => (hf1 _ q).elim hb fun e => ha _ e rfl
    have no2 : ∀ {b}, b ≠ i2 → k2.away b → b ∉ fp2 := fun hb ha q => (hf2 _ q).elim hb fun e => ha _ e rfl
    have S : ZipSep2 z TI TO i1 i2 fp1 fp2 := ⟨D.TIz, D.TOz, D.TITO, D.TI1, m1, no1 (Ne.symm D.i1z) D.a1.2.2.1, no1 D.TO1 D.a1.2.2.2, D.TI2, m2, no2 (Ne.symm D.i2z) D.a2.2.2.1, no2 D.TO2 D.a2.2.2.2, no2 D.i12 D.a2.1, no1 (Ne.symm D.i12) D.a1.2.1⟩
    refine wpAny_pyNext_zipD2_item S D1 D2 hz hTI hTO z1 z2 (List.getElem?_eq_some_iff.mp hx).1 (List.getElem?_eq_some_iff.mp hy).1 fun u u2 h' tk pu pu2 z' TO' h1' h2' hT hsz hk => ?_
    obtain ⟨x, hx', ru⟩ := hP1 i u pu
    obtain ⟨y, hy', ru2⟩ := hP2 i u2 pu2
    refine ⟨_, rfl, wpAny_letOwnedTupleGo_zip (s := { s with heap := h', toks := tk }) z' fun h'' z'' sb => ?_⟩
    have hT2 : h''.get? s.heap.objs.size = some { cls := .type "tuple", data := .seq #[u, u2] } := (sb.2 _ (Nat.ne_of_gt hzl)).trans hT
    have new : ObjOk X.prog X.w (upd H s.heap.objs.size (.tup [x, y])) h'' s.heap.objs.size (.tup [x, y]) :=
      ⟨by show 2 ≤ sizeLine; decide, [u, u2], .cons ru (.cons ru2 .nil), ⟨_, hT2, rfl, _, rfl⟩⟩
    have I1 : Inv X pins σ (upd H s.heap.objs.size (.tup [x, y])) { s with heap := h'', toks := tk } :=
      I.turnedNew (t' := tk) (ch := [z, TI, TO, i1, i2]) (fun c o hb q => (sb.2 c (fun q' => hb (by simp [q']))).trans (hk c o (fun q' => hb (by simp [q'])) (fun q' => hb (by simp [q'])) (fun q' => hb (by simp [q'])) (fun q' => hb (by simp [q'])) q)) hf (Nat.le_refl _) new
    refine ⟨.ref s.heap.objs.size, _, I1, rfl, ⟨_, x, y, rfl, I.hok.fresh (Nat.le_refl _), rfl, fun l hl => by rw [Kd.inj I hl hqx]; exact hx', fun l hl => by rw [Kd.inj I hl hqy]; exact hy'⟩, ⟨z'', ?_, ⟨u, u2, ?_⟩, ?_, ?_⟩, fun c hcm => ?_⟩
    · exact (sb.2 _ D.TIz).trans (hk _ _ D.TIz D.TITO D.TI1 D.TI2 hTI)
    · exact (sb.2 _ D.TOz).trans TO'
    · exact Kd.keep (hZ1 _ _ h1') fun o q => (sb.2 _ D.i1z).trans q
    · exact Kd.keep (hZ2 _ _ h2') fun o q => (sb.2 _ D.i2z).trans q
    · have hlt : c < s.heap.objs.size := by
        have e' : c = z ∨ c = TI ∨ c = TO ∨ c = i1 ∨ c = i2 := by simpa using hcm
        rcases e' with q | q | q | q | q
        · rw [q]; exact hzl
        · rw [q]; exact Heap.lt_size hTI
        · rw [q]; exact Heap.lt_size hTO
        · rw [q]; obtain ⟨_, e1, _⟩ := Kd.live h1; exact Heap.lt_size e1
        · rw [q]; obtain ⟨_, e2, _⟩ := Kd.live h2; exact Heap.lt_size e2
      rw [upd_ne (Nat.ne_of_lt hlt)]
      exact (hf c hcm).1
  done := by
    intro X hP hw hK hc i pins s σ H E I hf st hg
    subst hP hw hK
    obtain ⟨hz, hTI, ⟨x0, y0, hTO⟩, h1, h2⟩ := st
    obtain ⟨xs, ys, hqx, hqy, hend⟩ := hg
    have hd : X.A.in1.handled = none := I.ok.hd hc
    obtain ⟨fp1, P1, Z1, D1, z1, hP1, hZ1, m1, hf1⟩ := Kd.apart I hqx hd D.a1.1 h1
    obtain ⟨fp2, P2, Z2, D2, z2, hP2, hZ2, m2, hf2⟩ := Kd.apart I hqy hd D.a2.2.1 h2
    have no1 : ∀ {b}, b ≠ i1 → k.away b → b ∉ fp1 := fun hb ha q => (hf1 _ q).elim hb fun e => ha _ e rfl
    have no2 : ∀ {b}, b ≠ i2 → k2.away b → b ∉ fp2 := fun hb ha q => (hf2 _ q).elim hb fun e => ha _ e rfl
    have S : ZipSep2 z TI TO i1 i2 fp1 fp2 := ⟨D.TIz, D.TOz, D.TITO, D.TI1, m1, no1 (Ne.symm D.i1z) D.a1.2.2.1, no1 D.TO1 D.a1.2.2.2, D.TI2, m2, no2 (Ne.symm D.i2z) D.a2.2.2.1, no2 D.TO2 D.a2.2.2.2, no2 D.i12 D.a2.1, no1 (Ne.symm D.i12) D.a1.2.1⟩
    exact wpAny_pyNext_zipD2_end S D1 D2 hz hTI hTO z1 z2 (by omega) (by omega) (by omega) fun h' tk hk => ⟨rfl, I.turnedL (t' := tk) (ch := [z, TI, TO, i1, i2]) (fun c o hb q =>
      hk c o (fun q' => hb (by simp [q'])) (fun q' => hb (by simp [q'])) (fun q' => hb (by simp [q'])) (fun q' => hb (by simp [q'])) q) hf⟩
  self := fun A i s Q E st h => wpAny_pyIter_zip st.1 h
def iZipK (K : PySem.W.Frag) (ta : TA) : TI := fun σ H R => ta σ H fun vs H1 => ∃ v v2, vs = [v, v2] ∧ SrcR K H1 v fun k => SrcR K H1 v2 fun k2 => R (ItZ K k k2) H1
theorem pi_zipK {X : Cx} {e e2 : Expr} {ta : TA} {p pos tpos : Pos} {elts : List Expr} {kk : Nat} (hg : Gl X "zip") (hm : X.mg "zip" = none) (ha : PA X [e, e2] ta)
    (hs : starEach [e, e2] X.env = (false, eval e X.env) :: starEach [e2] X.env := by rfl) (hpl : (backTo pos (starEach [e2] X.env)).any (·.1) = false := by rfl) :
    PI X (.Tuple elts kk tpos) (.Call (.Name "zip" p) [e, e2] [] pos) (iZipK X.K ta) := by
  refine ⟨fun pins s σ H R I h => ?_⟩
  refine Call_ (ld_blt I hg hm PyProof.Rows.boot_zip (PyProof.Rows.callWith_type1 (thn (ha.run pos pins s σ H _ I h) fun us s1 ⟨vs, H1, I1, r1, q1⟩ => ?_) hs hpl))
  obtain ⟨v, v2, ex, q⟩ := q1
  subst ex
  cases r1 with
  | cons r rr =>
    cases rr with
    | cons r' rr =>
      cases rr
      obtain ⟨k, xs, rfl, hk, q⟩ := q.kd r
      obtain ⟨k2, ys, rfl, hk2, q⟩ := q.kd r'
      obtain ⟨Hc, B, hc⟩ := Kd.begins I1 hk
      obtain ⟨Hc2, B2, hc2⟩ := Kd.begins I1 hk2
      refine zip_begins2 B B2 hc hc2 fun h' hz hTI hTO o1 o2 hsz hkp => wpAny_pyIter_zip hz ?_
      have I2 : Inv X pins σ H1 { s1 with heap := h' } := I1.kept (t' := s1.toks) hkp
      have ne : ∀ (a b : Nat), a ≠ b → s1.heap.objs.size + a ≠ s1.heap.objs.size + b := fun a b h e => h (Nat.add_left_cancel e)
      have aw : ∀ j, k.away (s1.heap.objs.size + j) := fun j => Kd.away_of I1 hk (Nat.le_add_right _ _)
      have aw2 : ∀ j, k2.away (s1.heap.objs.size + j) := fun j => Kd.away_of I1 hk2 (Nat.le_add_right _ _)
      refine ⟨s1.heap.objs.size + 4, [s1.heap.objs.size + 4, s1.heap.objs.size + 2, s1.heap.objs.size + 3, s1.heap.objs.size, s1.heap.objs.size + 1], _, _, H1, rfl, I2, turn_zipK (k := k) (k2 := k2) (z := s1.heap.objs.size + 4) (TI := s1.heap.objs.size + 2) (TO := s1.heap.objs.size + 3) (i1 := s1.heap.objs.size) (i2 := s1.heap.objs.size + 1) ⟨ne 2 4 (by decide), ne 3 4 (by decide), ne 2 3 (by decide), ne 0 4 (by decide), ne 1 4 (by decide), ne 2 0 (by decide), ne 2 1 (by decide), ne 3 0 (by decide), ne 3 1 (by decide), ne 0 1 (by decide), ⟨aw 0, aw 1, aw 4, aw 3⟩, ⟨aw2 0, aw2 1, aw2 4, aw2 3⟩⟩, ⟨hz, hTI, ⟨_, _, hTO⟩, k.start o1, k2.start o2⟩, fun c hcm => ?_, q⟩
      have e' : c = s1.heap.objs.size + 4 ∨ c = s1.heap.objs.size + 2 ∨ c = s1.heap.objs.size + 3 ∨ c = s1.heap.objs.size ∨ c = s1.heap.objs.size + 1 := by simpa using hcm
      have hle : s1.heap.objs.size ≤ c := by
        rcases e' with z | z | z | z | z
        · rw [z]; exact Nat.le_add_right _ _
        · rw [z]; exact Nat.le_add_right _ _
        · rw [z]; exact Nat.le_add_right _ _
        · rw [z]; exact Nat.le_refl _
        · rw [z]; exact Nat.le_add_right _ _
      exact I1.fpOk hle (I1.hok.fresh hle)
end DL

/-! DL, part 9: for loops and list comprehensions. -/
namespace DL
open PySem PySem.Spec PyProof.Rows L2
/-- what is walked: solid if it does not hang on the frame's own things -/
structure Src where
  items : List Dv
  solid : Bool
def noH : Hp := fun _ => none
section
variable (K : PySem.W.Frag) (mg : Str → Option Value)
/-- from here on, while Gk stands, the walk gives ds -/
def Yld (Gk F0 : Hp) (ps0 : List Addr) (J : It) (ds : List Dv) : Prop :=
  ∀ (G F H : Hp) (ps : List Addr) (L : Led), Same Gk G → Ext F0 ps0 F ps → HS K mg G F H ps L → (∀ i, i < ds.length → J.go i H) ∧ J.stop ds.length H ∧
    ∀ i x H', i < ds.length → J.yld i H x H' → ∃ d F', ds[i]? = some d ∧ Ext F ps F' ps ∧ HS K mg G F' H' ps L ∧ RD K mg F' ps x d
def tI (W : WX) (f : DM Src) : TI := fun σ H R => ∃ G0 G F ps ρ L, Same G0 G ∧ HS K mg G F H ps L ∧ Slots K mg G0 G F ps σ ρ ∧
  (f ρ L).wp (fun s L' => ∀ J F' H' ps', Ext F ps F' ps' → HS K mg G F' H' ps' L' → Yld K mg (if s.solid then noH else G) F' ps' J s.items → R J H') (EE K mg G0 F ps W)
/-- a source stands -/
def KAt (Gk F0 : Hp) (ps0 : List Addr) (k : Kd) (ds : List Dv) : Prop :=
  ∀ (G F H : Hp) (ps : List Addr) (L : Led), Same Gk G → Ext F0 ps0 F ps → HS K mg G F H ps L → ∃ xs, k.at_ K H xs ∧ RDs K mg F ps xs ds
end
abbrev DI (X : Cx) (W : WX) (tg e : Expr) (f : DM Src) : Prop := PI X tg e (tI X.K X.mg' W f)
theorem imI {X : Cx} {tg e : Expr} {t t' : TI} (p : PI X tg e t) (h : ∀ σ H R, t' σ H R → t σ H R) : PI X tg e t' := ⟨fun pins s σ H R I w => p.run pins s σ H R I (h σ H R w)⟩
def Sv.src : Sv → Option Src
  | .val (.lst xs) => some ⟨xs, true⟩
  | .val (.tup xs) => some ⟨xs, true⟩
  | .val (.str z) => some ⟨z.cps.toList.map fun c => .str ⟨#[c]⟩, true⟩
  | .val (.scr ns) => some ⟨ns.map .int, true⟩
  | .bor xs => some ⟨xs, false⟩
  | _ => none
def enumF : Nat → List Dv → List Dv
  | _, [] => []
  | n, d :: ds => .tup [.int (n : Nat), d] :: enumF (n + 1) ds
@[simp] theorem enumF_nil (n : Nat) : enumF n [] = [] := rfl
@[simp] theorem enumF_cons (n : Nat) (d : Dv) (ds : List Dv) : enumF n (d :: ds) = .tup [.int (n : Nat), d] :: enumF (n + 1) ds := rfl
@[simp] theorem enumF_length : ∀ (n : Nat) (ds : List Dv), (enumF n ds).length = ds.length
  | _, [] => rfl
  | n, _ :: ds => by simp [enumF_length (n + 1) ds]
theorem enumF_get : ∀ (n i : Nat) (ds : List Dv), (enumF n ds)[i]? = ds[i]?.map fun d => .tup [.int ((n + i : Nat) : Int), d]
  | n, i, [] => by simp
  | n, 0, d :: ds => by simp
  | n, i + 1, d :: ds => by
    simp only [enumF_cons, List.getElem?_cons_succ, enumF_get (n + 1) i ds]
    congr 1
    funext d
    rw [show n + 1 + i = n + (i + 1) by omega]
def zipF (a b : List Dv) : List Dv := List.zipWith (fun x y => .tup [x, y]) a b
section
variable {K : PySem.W.Frag} {mg : Str → Option Value} {G0 G F H : Hp} {ps : List Addr} {L : Led} {v : V} {s : Sv} {W : WX}
theorem ne_noH : Same noH G := fun _ _ e => by cases e
theorem one_len (c : Nat) : (⟨#[c]⟩ : Str).length ≤ sizeLine := by show 1 ≤ sizeLine; decide
theorem chars_rel (z : Str) : RDs K mg F ps (chars z) (z.cps.toList.map fun c => .str ⟨#[c]⟩) := by
  unfold chars
  induction z.cps.toList with
  | nil => exact .nil
  | cons c cs ih => exact .cons (.str _ (one_len c)) ih
theorem ints_rel : ∀ ns : List Int, RDs K mg F ps (ns.map V.int) (ns.map Dv.int)
  | [] => .nil
  | n :: ns => .cons (.int n) (ints_rel ns)
theorem src_of (I : HS K mg G F H ps L) (r : XvOk K mg G F ps v s) {z : Src} (e : s.src = some z) : SrcR K H v fun k => KAt K mg (if z.solid then noH else G) F ps k z.items := by
  unfold Sv.src at e
  split at e
  · cases e
    obtain ⟨p, vs, rfl, hp, zl, rs⟩ := xv_items I (s := .val (.lst _)) r rfl
    cases r with
    | lst h zz r2 => exact .inl ⟨_, _, rfl, SqL.of (I.same _ _ h), fun G' F' H' ps' L' _ x J => ⟨_, SqL.of (J.same _ _ (x.same _ _ h)), RDs.ext x r2⟩⟩
  · cases e
    cases r with
    | tup h zz r2 => exact .inr (.inl ⟨_, _, rfl, SqT.of (I.same _ _ h), fun G' F' H' ps' L' _ x J => ⟨_, SqT.of (J.same _ _ (x.same _ _ h)), RDs.ext x r2⟩⟩)
  · cases e
    obtain ⟨rfl, zl⟩ := xv_str r
    exact .inr (.inr ⟨_, rfl, fun u G' F' H' ps' L' _ x J => ⟨_, rfl, chars_rel _⟩⟩)
  · cases e
    cases r with
    | scr h => exact .inl ⟨_, _, rfl, I.same.seq h, fun G' F' H' ps' L' _ x J => ⟨_, (x.same.trans J.same).seq h, ints_rel _⟩⟩
  · cases e
    obtain ⟨p, vs, rfl, hp, zl, rs⟩ := r
    exact .inl ⟨_, _, rfl, SqL.of (I.frame _ _ hp), fun G' F' H' ps' L' g x J => ⟨_, SqL.of (J.frame _ _ (g _ _ hp)), RDs.ext x rs⟩⟩
  · cases e
theorem SrcR.imp {P Q : Kd → Prop} (h : SrcR K H v P) (i : ∀ k, P k → Q k) : SrcR K H v Q := by
  rcases h with ⟨a, xs, e, h, p⟩ | ⟨a, xs, e, h, p⟩ | ⟨z, e, p⟩
  · exact .inl ⟨a, xs, e, h, i _ p⟩
  · exact .inr (.inl ⟨a, xs, e, h, i _ p⟩)
  · exact .inr (.inr ⟨z, e, fun u => i _ (p u)⟩)
theorem RDs.at {vs : List V} {ds : List Dv} (r : RDs K mg F ps vs ds) {i : Nat} {x : V} (e : vs[i]? = some x) : ∃ d, ds[i]? = some d ∧ RD K mg F ps x d := by
  have hi : i < ds.length := by rw [← r.length]; exact (List.getElem?_eq_some_iff.mp e).1
  obtain ⟨y, e2, r2⟩ := r.get (show ds[i]? = some ds[i] by simp [hi])
  rw [e] at e2; cases e2
  exact ⟨_, by simp [hi], r2⟩
variable {Gk F0 : Hp} {ps0 : List Addr} {k k2 : Kd} {ds ds2 : List Dv}
theorem KAt.yldP (h : KAt K mg Gk F0 ps0 k ds) : Yld K mg Gk F0 ps0 (ItP K k) ds := by
  intro G F H ps L g x J
  obtain ⟨xs, hk, rs⟩ := h G F H ps L g x J
  have el := rs.length
  cases k with
  | l a =>
    refine ⟨fun i hi => ⟨xs, xs[i]'(by omega), hk, by simp [el, hi]⟩, ⟨xs, hk, by omega⟩, fun i y H' hi hy => ?_⟩
    obtain ⟨rfl, q⟩ := hy
    obtain ⟨d, e, r⟩ := rs.at (q xs hk)
    exact ⟨d, F, e, Ext.refl _ _, J, r⟩
  | t a =>
    refine ⟨fun i hi => ⟨xs, xs[i]'(by omega), hk, by simp [el, hi]⟩, ⟨xs, hk, by omega⟩, fun i y H' hi hy => ?_⟩
    obtain ⟨rfl, q⟩ := hy
    obtain ⟨d, e, r⟩ := rs.at (q xs hk)
    exact ⟨d, F, e, Ext.refl _ _, J, r⟩
  | s z u =>
    have hk' : xs = chars z := hk
    subst hk'
    have ez : z.cps.size = ds.length := by rw [← el]; simp [chars]
    refine ⟨fun i hi => show i < z.cps.size by omega, show z.cps.size ≤ ds.length by omega, fun i y H' hi hy => ?_⟩
    obtain ⟨rfl, c, ec, rfl⟩ := hy
    obtain ⟨d, e, r⟩ := rs.at (i := i) (x := .str ⟨#[c]⟩) (by simp [chars]; exact ec)
    exact ⟨d, F, e, Ext.refl _ _, J, r⟩
/-- a new pair that stands for ever -/
theorem new_pair {x y : V} {d e : Dv} (J : HS K mg G F H ps L) (rx : RD K mg F ps x d) (ry : RD K mg F ps y e) {T : Addr} (hT : H T = none) :
    ∃ F', Ext F ps F' ps ∧ HS K mg G F' (upd H T (.tup [x, y])) ps L ∧ RD K mg F' ps (.ref T) (.tup [d, e]) := by
  obtain ⟨J2, x2, _⟩ := J.grow (o := .tup [x, y]) hT
  exact ⟨_, x2, J2, .tup upd_same (show 2 ≤ sizeLine by decide) (.cons (rx.ext x2) (.cons (ry.ext x2) .nil))⟩
theorem KAt.yldE (h : KAt K mg Gk F0 ps0 k ds) : Yld K mg Gk F0 ps0 (ItE K k) (enumF 0 ds) := by
  intro G F H ps L g x J
  obtain ⟨xs, hk, rs⟩ := h G F H ps L g x J
  have el := rs.length
  rw [enumF_length]
  refine ⟨fun i hi => ⟨xs, xs[i]'(by omega), hk, by simp [el, hi]⟩, ⟨xs, hk, by omega⟩, fun i y H' hi hy => ?_⟩
  obtain ⟨T, y, rfl, hT, rfl, q⟩ := hy
  obtain ⟨d, e, r⟩ := rs.at (q xs hk)
  obtain ⟨F', x', J', r'⟩ := new_pair J (.int i) r hT
  exact ⟨_, F', by rw [enumF_get, e, Nat.zero_add]; rfl, x', J', r'⟩
theorem KAt.yldZ (h : KAt K mg Gk F0 ps0 k ds) (h2 : KAt K mg Gk F0 ps0 k2 ds2) : Yld K mg Gk F0 ps0 (ItZ K k k2) (zipF ds ds2) := by
  intro G F H ps L g x J
  obtain ⟨xs, hk, rs⟩ := h G F H ps L g x J
  obtain ⟨ys, hk2, rs2⟩ := h2 G F H ps L g x J
  have el := rs.length
  have el2 := rs2.length
  have ez : (zipF ds ds2).length = min xs.length ys.length := by simp [zipF, el, el2]
  rw [ez]
  refine ⟨fun i hi => ⟨xs, ys, xs[i]'(by omega), ys[i]'(by omega), hk, hk2, by rw [List.getElem?_eq_getElem], by rw [List.getElem?_eq_getElem]⟩, ⟨xs, ys, hk, hk2, rfl⟩, fun i v H' hi hy => ?_⟩
  obtain ⟨T, y, z, rfl, hT, rfl, q, q2⟩ := hy
  obtain ⟨d, e, r⟩ := rs.at (q xs hk)
  obtain ⟨d2, e2, r2⟩ := rs2.at (q2 ys hk2)
  obtain ⟨F', x', J', r'⟩ := new_pair J r r2 hT
  exact ⟨_, F', by simp [zipF, e, e2, List.getElem?_zipWith], x', J', r'⟩
theorem KAt.weak {Gk' : Hp} (h : KAt K mg Gk F0 ps0 k ds) (g : Same Gk Gk') : KAt K mg Gk' F0 ps0 k ds := fun G F H ps L g' x J => h G F H ps L (g.trans g') x J
theorem KAt.ext {F1 : Hp} {ps1 : List Addr} (h : KAt K mg Gk F0 ps0 k ds) (x : Ext F0 ps0 F1 ps1) : KAt K mg Gk F1 ps1 k ds := fun G F H ps L g x' J => h G F H ps L g (x.trans x') J
end
def iV (fe : DM Sv) : DM Src := fun ρ L => (fe ρ L).bind fun s L1 => give s.src L1
def iEn (fe : DM Sv) : DM Src := fun ρ L => (fe ρ L).bind fun s L1 => give (s.src.map fun z => ⟨enumF 0 z.items, z.solid⟩) L1
def iZp (fa fb : DM Sv) : DM Src := fun ρ L => (fa ρ L).bind fun x L1 => (fb ρ L1).bind fun y L2 => give (match x.src, y.src with | some p, some q => some ⟨zipF p.items q.items, p.solid && q.solid⟩ | _, _ => none) L2
def upF (lo : Int) (n : Nat) : List Dv := (List.range n).map fun (i : Nat) => .int (lo + i)
def rgOk (i j : Int) : Prop := -(2 ^ 62) ≤ i ∧ i < 2 ^ 62 ∧ -(2 ^ 62) ≤ j ∧ j < 2 ^ 62
instance (i j : Int) : Decidable (rgOk i j) := inferInstanceAs (Decidable (_ ∧ _ ∧ _ ∧ _))
def iR1 (fa : DM Sv) : DM Src := fun ρ L => (fa ρ L).bind fun s L1 => match s with
  | .val (.int j) => if rgOk 0 j then .ok ⟨upF 0 j.toNat, true⟩ L1 else .bad
  | _ => .bad
def iR2 (fa fb : DM Sv) : DM Src := fun ρ L => (fa ρ L).bind fun s L1 => (fb ρ L1).bind fun t L2 => match s, t with
  | .val (.int i), .val (.int j) => if rgOk i j then .ok ⟨upF i (j - i).toNat, true⟩ L2 else .bad
  | _, _ => .bad
section
variable {X : Cx} {W : WX} {tg e e2 : Expr} {fe fa fb : DM Sv} {p pos tpos : Pos} {elts : List Expr} {kk : Nat}
theorem tE_unf {K : PySem.W.Frag} {mg : Str → Option Value} {σ : List (Option V)} {H : Hp} {Q : VK} {G0 G F : Hp} {ps : List Addr} {ρ : Slo} {L : Led} (g0 : Same G0 G) (I : HS K mg G F H ps L) (S : Slots K mg G0 G F ps σ ρ) {P : Sv → Led → Prop} {E : Exn → Slo → Led → Prop}
    (h : (fe ρ L).wp P E) (hP : ∀ s L1, P s L1 → QE K mg G F ps Q s L1) (hE : ∀ e r L1, E e r L1 → EE K mg G0 F ps W e r L1) : tE K mg W fe σ H Q := ⟨G0, G, F, ps, ρ, L, g0, I, S, Res.wp_mono h hP hE⟩
theorem di_val (he : DE X W e fe) : DI X W tg e (iV fe) := imI (pi_src he) fun σ H R h => by
  obtain ⟨G0, G, F, ps, ρ, L, g0, I, S, h⟩ := h
  refine tE_unf g0 I S (Res.wp_bind h) (fun s L1 h1 v F1 H1 p1 x1 I1 r1 => ?_) fun e r L' q => q
  obtain ⟨z, ez, q⟩ := give_wp h1
  exact SrcR.imp (src_of I1 r1 ez) fun k hk => q _ F1 H1 p1 x1 I1 hk.yldP
theorem di_enum (hg : Gl X "enumerate") (hm : X.mg "enumerate" = none) (he : DE X W e fe) (hs : starEach [e] X.env = [(false, eval e X.env)] := by rfl) : DI X W (.Tuple elts kk tpos) (.Call (.Name "enumerate" p) [e] [] pos) (iEn fe) :=
  imI (pi_enumK hg hm (pa_cons he pa_nil hs) hs) fun σ H R h => by
    obtain ⟨G0, G, F, ps, ρ, L, g0, I, S, h⟩ := h
    refine tE_unf g0 I S (Res.wp_bind h) (fun s L1 h1 v F1 H1 p1 x1 I1 r1 => ?_) fun e r L' q => q
    obtain ⟨z, ez, q⟩ := give_wp h1
    cases hz : s.src with
    | none => rw [hz] at ez; cases ez
    | some z0 =>
      rw [hz] at ez; cases ez
      exact ⟨v, rfl, SrcR.imp (src_of I1 r1 hz) fun k hk => q _ F1 H1 p1 x1 I1 hk.yldE⟩
theorem di_zip (hg : Gl X "zip") (hm : X.mg "zip" = none) (ha : DE X W e fa) (hb : DE X W e2 fb)
    (hs : starEach [e, e2] X.env = (false, eval e X.env) :: starEach [e2] X.env := by rfl) (hs2 : starEach [e2] X.env = (false, eval e2 X.env) :: starEach [] X.env := by rfl) (hpl : (backTo pos (starEach [e2] X.env)).any (·.1) = false := by rfl) :
    DI X W (.Tuple elts kk tpos) (.Call (.Name "zip" p) [e, e2] [] pos) (iZp fa fb) :=
  imI (pi_zipK hg hm (pa_cons ha (pa_cons hb pa_nil hs2) hs) hs hpl) fun σ H R h => by
    obtain ⟨G0, G, F, ps, ρ, L, g0, I, S, h⟩ := h
    refine tE_unf g0 I S (Res.wp_bind h) (fun s L1 h1 v F1 H1 p1 x1 I1 r1 => ?_) fun e r L' q => q
    refine tE_unf g0 I1 (S.ext x1) (Res.wp_bind h1) (fun s2 L2 h2 v2 F2 H2 p2 x2 I2 r2 => ?_) fun e r L' q => EE.ext x1 q
    obtain ⟨z, ez, q⟩ := give_wp h2
    cases hz : s.src with
    | none => rw [hz] at ez; cases ez
    | some z0 =>
      cases hz2 : s2.src with
      | none => rw [hz, hz2] at ez; cases ez
      | some z1 =>
        rw [hz, hz2] at ez; cases ez
        refine ⟨v, v2, rfl, SrcR.imp (src_of I2 (r1.ext x2) hz) fun k hk => SrcR.imp (src_of I2 r2 hz2) fun k2 hk2 => q _ F2 H2 p2 (x1.trans x2) I2 ?_⟩
        refine KAt.yldZ (hk.weak ?_) (hk2.weak ?_)
        · cases z0.solid <;> cases z1.solid <;> first | exact ne_noH | exact Same.refl _
        · cases z0.solid <;> cases z1.solid <;> first | exact ne_noH | exact Same.refl _
theorem yld_range {K : PySem.W.Frag} {mg : Str → Option Value} {Gk F0 : Hp} {ps0 : List Addr} {lo : Int} {n : Nat} : Yld K mg Gk F0 ps0 (Itr lo n) (upF lo n) := by
  intro G F H ps L g x J
  have el : (upF lo n).length = n := by simp [upF]
  rw [el]
  refine ⟨fun i hi => hi, Nat.le_refl _, fun i y H' hi hy => ?_⟩
  obtain ⟨rfl, rfl⟩ := hy
  exact ⟨.int (lo + i), F, by simp [upF, hi], Ext.refl _ _, J, .int _⟩
theorem di_range1 (hg : Gl X "range") (hm : X.mg "range" = none) (he : DE X W e fe) (hs : starEach [e] X.env = [(false, eval e X.env)] := by rfl) : DI X W tg (.Call (.Name "range" p) [e] [] pos) (iR1 fe) :=
  imI (pi_range1 hg hm (pa_cons he pa_nil hs) hs) fun σ H R h => by
    obtain ⟨G0, G, F, ps, ρ, L, g0, I, S, h⟩ := h
    refine tE_unf g0 I S (Res.wp_bind h) (fun s L1 h1 v F1 H1 p1 x1 I1 r1 => ?_) fun e r L' q => q
    split at h1
    · rename_i j
      split at h1
      · rename_i hj
        rw [xv_int r1]
        exact ⟨j, rfl, hj.2.2.1, hj.2.2.2, h1 _ F1 H1 p1 x1 I1 yld_range⟩
      · exact h1.elim
    · exact h1.elim
theorem di_range2 (hg : Gl X "range") (hm : X.mg "range" = none) (ha : DE X W e fa) (hb : DE X W e2 fb) (hs : starEach [e, e2] X.env = [(false, eval e X.env), (false, eval e2 X.env)] := by rfl) (hs2 : starEach [e2] X.env = [(false, eval e2 X.env)] := by rfl) :
    DI X W tg (.Call (.Name "range" p) [e, e2] [] pos) (iR2 fa fb) :=
  imI (pi_range2 hg hm (pa_cons ha (pa_cons hb pa_nil hs2) (by rw [hs, hs2])) hs hs2) fun σ H R h => by
    obtain ⟨G0, G, F, ps, ρ, L, g0, I, S, h⟩ := h
    refine tE_unf g0 I S (Res.wp_bind h) (fun s L1 h1 v F1 H1 p1 x1 I1 r1 => ?_) fun e r L' q => q
    refine tE_unf g0 I1 (S.ext x1) (Res.wp_bind h1) (fun s2 L2 h2 v2 F2 H2 p2 x2 I2 r2 => ?_) fun e r L' q => EE.ext x1 q
    split at h2
    · rename_i i j
      split at h2
      · rename_i hj
        rw [xv_int (r1.ext x2), xv_int r2]
        exact ⟨i, j, rfl, hj, h2 _ F2 H2 p2 (x1.trans x2) I2 yld_range⟩
      · exact h2.elim
    · exact h2.elim
end
/-! ### targets of loops -/
inductive Tg where
  | one (i : Nat) | tup (is : List Nat)
namespace Tg
def set : Tg → Dv → Slo → Option Slo
  | .one i, d, ρ => some (ρ.set i (some (.val d)))
  | .tup is, .tup ds, ρ => gNs is ds ρ
  | _, _, _ => none
def read (K : PySem.W.Frag) : Tg → TG
  | .one i => gName i
  | .tup is => gTup K is.length (tNms is)
def ix : Tg → List Nat
  | .one i => [i]
  | .tup is => is
end Tg
theorem gNs_len : ∀ {is : List Nat} {ds : List Dv} {ρ ρ' : Slo}, gNs is ds ρ = some ρ' → ds.length = is.length
  | [], [], _, _, _ => rfl
  | [], _ :: _, _, _, e => by cases e
  | _ :: _, [], _, _, e => by cases e
  | _ :: is, _ :: ds, _, _, e => by simp [gNs_len (is := is) (ds := ds) e]
theorem wipe_get (σ : List (Option V)) (i : Nat) : ∀ vs : List Nat, (wipe σ vs)[i]? = if i ∈ vs then σ[i]?.map fun _ => none else σ[i]?
  | [] => by simp [wipe]
  | v :: vs => by
    have ih := wipe_get σ i vs
    by_cases h : v = i
    · subst h
      have hl := wipe_length σ vs
      rw [if_pos (by simp)]
      show ((wipe σ vs).set v none)[v]? = _
      by_cases hv : v < σ.length
      · rw [List.getElem?_set_self (by omega)]; simp [hv]
      · rw [List.getElem?_eq_none (by simp; omega)]; simp [hv]
    · show ((wipe σ vs).set v none)[i]? = _
      rw [List.getElem?_set_ne h, ih]
      simp [Ne.symm h]
theorem wipe_wipe (σ : List (Option V)) (vs : List Nat) : wipe (wipe σ vs) vs = wipe σ vs := by
  refine List.ext_getElem? fun j => ?_
  rw [wipe_get]
  by_cases h : j ∈ vs
  · rw [if_pos h, wipe_get, if_pos h, Option.map_map]; rfl
  · rw [if_neg h]
theorem wipe_set {σ : List (Option V)} {i : Nat} {o : Option V} {vs : List Nat} (h : i ∈ vs) : wipe (σ.set i o) vs = wipe σ vs := by
  refine List.ext_getElem? fun j => ?_
  rw [wipe_get, wipe_get]
  by_cases e : i = j
  · subst e
    rw [if_pos h, if_pos h]
    by_cases hi : i < σ.length
    · rw [List.getElem?_set_self hi]; simp [hi]
    · rw [List.getElem?_eq_none (by simp; omega), List.getElem?_eq_none (by omega)]
  · rw [List.getElem?_set_ne e]
section
variable {K : PySem.W.Frag} {mg : Str → Option Value} {G0 G F H : Hp} {ps : List Addr} {L : Led}
theorem tNms_run {vs : List Nat} : ∀ {is : List Nat} {us : List V} {ds : List Dv} {σ : List (Option V)} {ρ ρ' : Slo} {Q : List (Option V) → Hp → Prop}, RDs K mg F ps us ds → gNs is ds ρ = some ρ' → Slots K mg G0 G F ps σ ρ →
    (∀ σ', Slots K mg G0 G F ps σ' ρ' → ((∀ i ∈ is, i ∈ vs) → wipe σ' vs = wipe σ vs) → Q σ' H) → tNms is us σ H Q
  | [], _, [], _, _, _, _, .nil, e, S, h => ⟨rfl, h _ (by cases e; exact S) fun _ => rfl⟩
  | [], _, _ :: _, _, _, _, _, _, e, _, _ => by cases e
  | _ :: _, _, [], _, _, _, _, _, e, _, _ => by cases e
  | i :: is, _, _ :: _, _, _, _, _, .cons r rr, e, S, h => ⟨_, _, rfl, tNms_run rr e (S.set i r rfl) fun σ' S' w => h σ' S' fun q => (w fun j hj => q j (List.mem_cons_of_mem _ hj)).trans (wipe_set (q i List.mem_cons_self))⟩
theorem Tg.run {T : Tg} {v : V} {d : Dv} {σ : List (Option V)} {ρ ρ' : Slo} {vs : List Nat} {Q : List (Option V) → Hp → Prop} (J : HS K mg G F H ps L) (r : RD K mg F ps v d) (S : Slots K mg G0 G F ps σ ρ) (e : T.set d ρ = some ρ')
    (h : ∀ σ', Slots K mg G0 G F ps σ' ρ' → ((∀ i ∈ T.ix, i ∈ vs) → wipe σ' vs = wipe σ vs) → Q σ' H) : T.read K v σ H Q := by
  cases T with
  | one i => cases e; exact h _ (S.set i r rfl) fun q => wipe_set (q i (by simp [Tg.ix]))
  | tup is =>
    cases d with
    | tup ds =>
      obtain ⟨p, us, rfl, fp, hp, z, rs⟩ := xv_tup J r
      exact ⟨p, us, rfl, SqT.of hp, by rw [rs.length, gNs_len e], tNms_run rs e S h⟩
    | _ => cases e
end
abbrev DTg (X : Cx) (tg : Expr) (T : Tg) : Prop := PG X tg (T.read X.K)
section
variable {X : Cx} {pos : Pos}
theorem dtg_name (i : Nat) {x : Str} (hN : X.N.Nodup) (hi : X.N[i]? = some x) (hx : Loc X.env.scope x) (hf : X.fn x = true ∨ X.env.scope.names.lookup x = some .local := by first | exact .inl rfl | exact .inr rfl | assumption) : DTg X (.Name x pos) (.one i) := pg_name hN hi hx hf
theorem dtg_tup {es : List Expr} {k : Nat} {is : List Nat} (hc : X.calm = true) (hN : X.N.Nodup) (h : NmOk X es is) (hn : (assignEach es X.env).length = is.length := by rfl) (hst : (assignEach es X.env).findIdx? (·.1) = none := by rfl) : DTg X (.Tuple es k pos) (.tup is) := pg_tup (n := is.length) hc (pgs_names hN h) hn hst
end
/-! ### for -/
def fLoop (T : Tg) (fb : DM Fl) : List Dv → DM Fl
  | [], ρ, L => .ok (.nx ρ) L
  | d :: ds, ρ, L => match T.set d ρ with
    | none => .bad
    | some ρ1 => (fb ρ1 L).bind fun fl L1 => match fl with
      | .nx r => fLoop T fb ds r L1
      | .ct r => fLoop T fb ds r L1
      | .bk r => .ok (.nx r) L1
      | .rt d => .ok (.rt d) L1
def sFor (fi : DM Src) (T : Tg) (fb : DM Fl) : DM Fl := fun ρ L => (fi ρ L).bind fun s L1 => if s.solid then fLoop T fb s.items ρ L1 else .bad
section
variable {X : Cx} {W : WX} {tg iter : Expr} {body : List Stmt} {fi : DM Src} {T : Tg} {fb : DM Fl} {pos : Pos}
theorem ds_for (hp : PassesOwn (model X.prog X.w) X.A X.env X.xe) (hc : X.calm = true) (hi : DI X W tg iter fi) (hg : DTg X tg T) (hb : DSs X W body fb)
    (hs : ∀ x, foldedSetIterable iter X.env x = pure x := by intro _; rfl) : DS X W (.For tg iter body [] pos) (sFor fi T fb) := imS (ps_for hp hc hi hg hb hs) fun D σ H h => by
  obtain ⟨G0, G, F, ps, ρ, L, g0, I, S, h⟩ := h
  refine ⟨G0, G, F, ps, ρ, L, g0, I, S, Res.wp_mono (Res.wp_bind h) (fun s L1 h1 J F1 H1 p1 x1 I1 y1 => ?_) fun e r L' q => q⟩
  split at h1
  · rename_i hsol
    rw [if_pos hsol] at y1
    refine ⟨fun i m σ' H' => i ≤ s.items.length ∧ m = s.items.length - i ∧ ∃ G' F' ps' ρ' L', Same G0 G' ∧ Ext F1 p1 F' ps' ∧ HS X.K X.mg' G' F' H' ps' L' ∧ Slots X.K X.mg' G0 G' F' ps' σ' ρ' ∧ (fLoop T fb (s.items.drop i) ρ' L').wp (QS X.K X.mg' G0 F ps D) (EE X.K X.mg' G0 F ps W),
      ⟨_, Nat.zero_le _, rfl, G, F1, p1, ρ, L1, g0, Ext.refl _ _, I1, S.ext x1, h1⟩, ?_⟩
    rintro i m σ' H' ⟨hi, rfl, G', F', ps', ρ', L', g', x', I', S', q⟩
    obtain ⟨go, st, yl⟩ := y1 G' F' H' ps' L' ne_noH x' I'
    by_cases hlt : i < s.items.length
    · refine .inr ⟨go i hlt, fun σ2 H2 => i + 1 ≤ s.items.length ∧ ∃ G' F' ps' ρ' L', Same G0 G' ∧ Ext F1 p1 F' ps' ∧ HS X.K X.mg' G' F' H2 ps' L' ∧ Slots X.K X.mg' G0 G' F' ps' σ2 ρ' ∧ (fLoop T fb (s.items.drop (i + 1)) ρ' L').wp (QS X.K X.mg' G0 F ps D) (EE X.K X.mg' G0 F ps W), fun σ2 H2 ⟨a, b⟩ => ⟨_, by omega, a, rfl, b⟩, fun x H2 hy => ?_⟩
      obtain ⟨d, F2, ed, x2, I2, r2⟩ := yl i x H2 hlt hy
      have hd : s.items.drop i = d :: s.items.drop (i + 1) := by
        have e2 := List.getElem?_eq_some_iff.mp ed
        rw [List.drop_eq_getElem_cons hlt, e2.2]
      rw [hd] at q
      unfold fLoop at q
      split at q
      · exact q.elim
      · rename_i ρ1 hρ
        refine Tg.run (vs := []) I2 r2 (S'.ext x2) hρ fun σ3 S3 _ => ?_
        have xx := x'.trans x2
        refine ⟨G0, G', F2, ps', ρ1, L', g', I2, S3, Res.wp_mono (Res.wp_bind q) (fun fl L3 h3 => ?_) fun e r L3 q3 => EE.ext (x1.trans xx) q3⟩
        cases fl with
        | nx r => exact fun σ4 G4 F4 H4 p4 g4 x4 I4 S4 => ⟨hlt, G4, F4, p4, r, L3, g4, xx.trans x4, I4, S4, h3⟩
        | ct r => exact fun σ4 G4 F4 H4 p4 g4 x4 I4 S4 => ⟨hlt, G4, F4, p4, r, L3, g4, xx.trans x4, I4, S4, h3⟩
        | bk r => exact QS.ext (f := .nx r) (x1.trans xx) h3
        | rt d => exact QS.ext (f := .rt d) (x1.trans xx) h3
    · have e : i = s.items.length := by omega
      subst e
      rw [List.drop_length] at q
      refine .inl ⟨st, ?_⟩
      unfold fLoop at q
      exact q σ' G' F' H' ps' g' (x1.trans x') I' S'
  · exact h1.elim
end
/-! ### comprehensions -/
def noErr {α : Type} (r : Res α) : Res α := match r with
  | .err _ _ _ => .bad
  | o => o
@[simp] theorem noErr_ok {α : Type} {a : α} {L : Led} : noErr (.ok a L) = .ok a L := rfl
theorem noErr_wp {α : Type} {r : Res α} {P : α → Led → Prop} {E E' : Exn → Slo → Led → Prop} (h : (noErr r).wp P E) : r.wp P E' := by
  cases r with
  | ok a L => exact h
  | err e s L => exact h.elim
  | bad => exact h.elim
def wipeR (ρ : Slo) : List Nat → Slo
  | [] => ρ
  | v :: vs => (wipeR ρ vs).set v none
def cLoop (T : Tg) (ft : DM Bool) (fe : DM Sv) (ρ : Slo) : List Dv → List Dv → Led → Res (List Dv)
  | [], acc, L => .ok acc L
  | d :: ds, acc, L => match T.set d ρ with
    | none => .bad
    | some ρ1 => (ft ρ1 L).bind fun b L1 => if b then (fe ρ1 L1).bind fun s L2 => match s with
        | .val y => if acc.length < sizeLine then cLoop T ft fe ρ ds (acc ++ [y]) L2 else .bad
        | _ => .bad
      else cLoop T ft fe ρ ds acc L1
def dLc (fi : DM Src) (T : Tg) (ft : DM Bool) (fe : DM Sv) (vs : List Nat) : DM Sv := fun ρ L => (fi ρ L).bind fun s L1 => (noErr (cLoop T ft fe (wipeR ρ vs) s.items [] L1)).bind fun acc L2 => .ok (.val (.lst acc)) L2
section
variable {K : PySem.W.Frag} {mg : Str → Option Value} {G0 G F H : Hp} {ps : List Addr} {L : Led} {σ : List (Option V)} {ρ : Slo}
theorem Slots.wipe (S : Slots K mg G0 G F ps σ ρ) : ∀ vs : List Nat, Slots K mg G0 G F ps (L2.wipe σ vs) (wipeR ρ vs)
  | [] => S
  | v :: vs => (Slots.wipe S vs).forget v none
end
def wNo : WX := fun _ _ _ _ => False
def dTr : DM Bool := fun _ L => .ok true L
abbrev DTs (X : Cx) (W : WX) (ifs : List Expr) (f : DM Bool) : Prop := PTs X ifs (tT X.K X.mg' W f)
theorem blk_mg {X : Cx} (hc : X.calm = true) {s : Shared} {H : Hp} {scope : Scope} {cenv : Env} {fp : List Addr} : (X.blk s H scope cenv fp).mg' = X.mg' := by
  rw [calm_mg hc, calm_mg (X := X.blk s H scope cenv fp) hc]
theorem imTs {X : Cx} {e : List Expr} {t t' : TT} (p : PTs X e t) (h : ∀ σ H Q, t' σ H Q → t σ H Q) : PTs X e t' := ⟨fun pins s σ H Q I w => p.run pins s σ H Q I (h σ H Q w)⟩
theorem dts_nil {X : Cx} {W : WX} : PTs X [] (tT X.K X.mg' W dTr) := ⟨fun pins s σ H Q I h => by
  obtain ⟨G0, G, F, ps, ρ, L, g0, J, S, h⟩ := h
  exact pts_nil.run pins s σ H Q I (h F H ps (Ext.refl _ _) J)⟩
theorem dts_one {X : Cx} {W : WX} {c : Expr} {ft : DM Bool} (h : DT X W c ft) : PTs X [c] (tT X.K X.mg' W ft) := pts_one h
section
variable {X : Cx} {W : WX} {elt tg iter : Expr} {ifs : List Expr} {scope : Scope} {own : List (Str × Nat)} {pos : Pos} {fi : DM Src} {T : Tg} {ft : DM Bool} {fe : DM Sv}
/-- the comprehension's block from its parts -/
theorem tLc_of {Q : VK} {σ : List (Option V)} {H : Hp} {K : PySem.W.Frag} {mg : Str → Option Value} {vs : List Nat} (hT : ∀ i ∈ T.ix, i ∈ vs) (h : tE K mg W (dLc fi T ft fe vs) σ H Q) : tLc (tI K mg W fi) (T.read K) (tT K mg wNo ft) (tE K mg wNo fe) vs σ H Q := by
  obtain ⟨G0, G, F, ps, ρ, L, g0, I, S, h⟩ := h
  refine ⟨G0, G, F, ps, ρ, L, g0, I, S, Res.wp_mono (Res.wp_bind h) (fun s L1 h1 J F1 H1 p1 x1 I1 y1 D hD => ?_) fun e r L' q => q⟩
  have gD : G D = none := I1.frame.free hD
  have sG : ∀ u : HO, Same G (upd G D u) := fun u b o e => by rw [upd_ne (ne_of_none e gD)]; exact e
  have sK : ∀ u : HO, Same (if s.solid then noH else G) (upd G D u) := fun u => by
    cases s.solid
    · exact sG u
    · exact ne_noH
  refine ⟨fun i m H' => i ≤ s.items.length ∧ m = s.items.length - i ∧ ∃ F' ps' us acc L', Ext F1 p1 F' ps' ∧ HS K mg (upd G D (.lst us)) F' H' ps' L' ∧ us.length ≤ sizeLine ∧ RDs K mg F' ps' us acc ∧ (noErr (cLoop T ft fe (wipeR ρ vs) (s.items.drop i) acc L')).wp (fun acc L2 => QE K mg G F ps Q (.val (.lst acc)) L2) (EE K mg G0 F ps W),
    ⟨_, Nat.zero_le _, rfl, F1, p1, [], [], L1, Ext.refl _ _, I1.hold hD, Nat.zero_le _, .nil, Res.wp_bind h1⟩, ?_⟩
  rintro i m H' ⟨hi, rfl, F', ps', us, acc, L', x', I', z', rs, q⟩
  obtain ⟨go, st, yl⟩ := y1 _ F' H' ps' L' (sK _) x' I'
  by_cases hlt : i < s.items.length
  · refine .inr ⟨go i hlt, fun H2 => i + 1 ≤ s.items.length ∧ ∃ F' ps' us acc L', Ext F1 p1 F' ps' ∧ HS K mg (upd G D (.lst us)) F' H2 ps' L' ∧ us.length ≤ sizeLine ∧ RDs K mg F' ps' us acc ∧ (noErr (cLoop T ft fe (wipeR ρ vs) (s.items.drop (i + 1)) acc L')).wp (fun acc L2 => QE K mg G F ps Q (.val (.lst acc)) L2) (EE K mg G0 F ps W), fun H2 ⟨a, b⟩ => ⟨_, by omega, a, rfl, b⟩, fun x H2 hy => ?_⟩
    obtain ⟨d, F2, ed, x2, I2, r2⟩ := yl i x H2 hlt hy
    have hd : s.items.drop i = d :: s.items.drop (i + 1) := by
      have e2 := List.getElem?_eq_some_iff.mp ed
      rw [List.drop_eq_getElem_cons hlt, e2.2]
    rw [hd] at q
    unfold cLoop at q
    have xx := x1.trans (x'.trans x2)
    split at q
    · exact q.elim
    · rename_i ρ1 hρ
      have SS : Slots K mg G0 (upd G D (.lst us)) F2 ps' (wipe σ vs) (wipeR ρ vs) := ((S.ext xx).gr (sG _)).wipe vs
      refine Tg.run (vs := vs) I2 r2 SS hρ fun σ3 S3 w3 => ⟨(w3 hT).trans (wipe_wipe σ vs), ?_⟩
      have gg : Same G0 (upd G D (.lst us)) := g0.trans (sG _)
      refine ⟨G0, _, F2, ps', ρ1, L', gg, I2, S3, Res.wp_mono (Res.wp_bind (noErr_wp (E' := fun _ _ _ => False) q)) (fun b L3 h3 F3 H3 p3 x3 I3 => ?_) fun e r L3 q3 => q3.elim⟩
      cases b with
      | true =>
        rw [if_pos rfl] at h3 ⊢
        refine ⟨G0, _, F3, p3, ρ1, L3, gg, I3, S3.ext x3, Res.wp_mono (Res.wp_bind h3) (fun t L4 h4 y F4 H4 p4 x4 I4 r4 => ?_) fun e r L3 q3 => q3.elim⟩
        split at h4
        · rename_i yd
          split at h4
          · rename_i hz
            have xt := x2.trans (x3.trans x4)
            refine ⟨us, I4.frame _ _ upd_same, by rw [rs.length]; exact hz, hlt, F4, p4, us ++ [y], acc ++ [yd], L4, x'.trans xt, ?_, by rw [List.length_append, rs.length]; exact hz, (rs.ext xt).append (.one r4), ?_⟩
            · have I5 := I4.write (u := .lst (us ++ [y])) (upd_same (H := G)) fun _ q => by cases q
              refine I5.weak fun b o e => ?_
              by_cases hb : b = D
              · subst hb; rw [upd_same] at e ⊢; exact e
              · rw [upd_ne hb] at e; rw [upd_ne hb, upd_ne hb]; exact e
            · cases hc : cLoop T ft fe (wipeR ρ vs) (s.items.drop (i + 1)) (acc ++ [yd]) L4 with
              | ok a L5 => rw [hc] at h4; exact h4
              | err e r L5 => rw [hc] at h4; exact h4.elim
              | bad => rw [hc] at h4; exact h4.elim
          · exact h4.elim
        · exact h4.elim
      | false =>
        rw [if_neg Bool.false_ne_true] at h3 ⊢
        have xt := x2.trans x3
        refine ⟨hlt, F3, p3, us, acc, L3, x'.trans xt, I3, z', rs.ext xt, ?_⟩
        cases hc : cLoop T ft fe (wipeR ρ vs) (s.items.drop (i + 1)) acc L3 with
        | ok a L5 => rw [hc] at h3; exact h3
        | err e r L5 => rw [hc] at h3; exact h3.elim
        | bad => rw [hc] at h3; exact h3.elim
  · have e : i = s.items.length := by omega
    subst e
    rw [List.drop_length] at q
    unfold cLoop at q
    refine .inl ⟨st, ?_⟩
    obtain ⟨I5, x5⟩ := I'.frz (upd_same (H := G) (o := HO.lst us))
    refine q (.ref D) _ H' ps' (x1.trans (x'.trans x5)) (I5.weak fun b o e => ?_) (.lst upd_same z' (rs.ext x5))
    rw [cut_ne (ne_of_none e gD), upd_ne (ne_of_none e gD)]; exact e
theorem de_lc (hc : X.calm = true) (hN : X.N.Nodup) (hi : DI X W tg iter fi) (ok : BlkOk X.N X.env.scope scope own)
    (hg : ∀ (s : Shared) (H : Hp) (C : Addr) (cl : List (Str × Addr)) (fp : List Addr), DTg (X.blk s H scope (compEnvC scope cl C X.env) fp) tg T)
    (ht : ∀ (s : Shared) (H : Hp) (C : Addr) (cl : List (Str × Addr)) (fp : List Addr), DTs (X.blk s H scope (compEnvC scope cl C X.env) fp) wNo ifs ft)
    (he : ∀ (s : Shared) (H : Hp) (C : Addr) (cl : List (Str × Addr)) (fp : List Addr), DE (X.blk s H scope (compEnvC scope cl C X.env) fp) wNo elt fe) (hT : ∀ i ∈ T.ix, i ∈ own.map (·.2))
    (hs : ∀ x, foldedSetIterable iter X.env x = pure x := by intro _; rfl) {vs : List Nat} (hvs : own.map (·.2) = vs := by rfl) : DE X W (.ListComp elt [⟨tg, iter, ifs, 0⟩] scope pos) (dLc fi T ft fe vs) := by
  subst hvs
  exact imE (pe_lc hc hN hi ok hg (fun s H C cl fp => imTs (t' := tT X.K X.mg' wNo ft) (ht s H C cl fp) fun σ H Q h => by rw [blk_mg hc]; exact h) (fun s H C cl fp => imE (t' := tE X.K X.mg' wNo fe) (he s H C cl fp) fun σ H Q h => by rw [blk_mg hc]; exact h) hs) fun σ H Q h => tLc_of hT h
/-- x = [.. for ..] on one row -/
theorem ds_setLc {i : Nat} {y : Str} {py spos : Pos} (hc : X.calm = true) (hN : X.N.Nodup) (hy : X.N[i]? = some y) (hyl : X.env.scope.names.lookup y = some .local)
    (hsw : swapsWith (.ListComp elt [⟨tg, iter, ifs, 0⟩] scope pos) (some (.Name y py)) spos.line X.env = pure true) (hi : DI X W tg iter fi) (ok : BlkOk X.N X.env.scope scope own)
    (hg : ∀ (s : Shared) (H : Hp) (C : Addr) (cl : List (Str × Addr)) (fp : List Addr), DTg (X.blk s H scope (compEnvC scope cl C X.env) fp) tg T)
    (ht : ∀ (s : Shared) (H : Hp) (C : Addr) (cl : List (Str × Addr)) (fp : List Addr), DTs (X.blk s H scope (compEnvC scope cl C X.env) fp) wNo ifs ft)
    (he : ∀ (s : Shared) (H : Hp) (C : Addr) (cl : List (Str × Addr)) (fp : List Addr), DE (X.blk s H scope (compEnvC scope cl C X.env) fp) wNo elt fe) (hT : ∀ i ∈ T.ix, i ∈ own.map (·.2))
    (hs : ∀ x, foldedSetIterable iter X.env x = pure x := by intro _; rfl) {vs : List Nat} (hvs : own.map (·.2) = vs := by rfl) : DS X W (.Assign [.Name y py] (.ListComp elt [⟨tg, iter, ifs, 0⟩] scope pos) spos) (sSet i (dLc fi T ft fe vs)) := by
  subst hvs
  exact imS (ps_setLc hc hN hy hyl hsw hi ok hg (fun s H C cl fp => imTs (t' := tT X.K X.mg' wNo ft) (ht s H C cl fp) fun σ H Q h => by rw [blk_mg hc]; exact h) (fun s H C cl fp => imE (t' := tE X.K X.mg' wNo fe) (he s H C cl fp) fun σ H Q h => by rw [blk_mg hc]; exact h) hs) fun D σ H h => by
    obtain ⟨G0, G, F, ps, ρ, L, g0, I, S, h⟩ := h
    refine tLc_of (W := W) hT ⟨G0, G, F, ps, ρ, L, g0, I, S, Res.wp_mono (Res.wp_bind h) (fun s L1 h1 v F1 H1 p1 x1 I1 r1 => ?_) fun e r L' q => q⟩
    split at h1
    · exact h1 _ G F1 H1 p1 g0 x1 I1 ((S.ext x1).set i r1 rfl)
    · exact h1.elim
end
end DL

/-! DL, part 10: built-in functions, subscripts, slices. -/
namespace DL
open PySem PySem.Spec PyProof.Rows L2
def CallS (K : PySem.W.Frag) (mg : Str → Option Value) (r : List V → Hp → VK → Prop) (g : List Sv → Led → Option Sv) : Prop :=
  ∀ (G F H : Hp) (ps : List Addr) (L : Led) (xs : List V) (ss : List Sv) (s : Sv) (Q : VK), HS K mg G F H ps L → XvsOk K mg G F ps xs ss → g ss L = some s → QE K mg G F ps Q s L → r xs H Q
def dBi (g : List Sv → Led → Option Sv) (fa : DM (List Sv)) : DM Sv := fun ρ L => (fa ρ L).bind fun ss L1 => give (g ss L1) L1
section
variable {K : PySem.W.Frag} {mg : Str → Option Value} {W : WX} {r r' : List V → Hp → VK → Prop} {g g' : List Sv → Led → Option Sv} {fa : DM (List Sv)}
theorem tCB_of (hs : CallS K mg r g) {σ : List (Option V)} {H : Hp} {Q : VK} (h : tE K mg W (dBi g fa) σ H Q) : tCB r (tA K mg W fa) σ H Q := by
  obtain ⟨G0, G, F, ps, ρ, L, g0, I, S, h⟩ := h
  refine ⟨G0, G, F, ps, ρ, L, g0, I, S, Res.wp_mono (Res.wp_bind h) (fun ss L1 h1 vs F1 H1 p1 x1 I1 r1 => ?_) fun e r L' q => q⟩
  obtain ⟨s, e, q⟩ := give_wp h1
  exact hs G F1 H1 p1 L1 vs ss s Q I1 r1 e (QE.ext x1 q)
theorem CallS.or (h : CallS K mg r g) (h' : CallS K mg r' g') : CallS K mg (fun xs H Q => r xs H Q ∨ r' xs H Q) (fun ss L => (g ss L).or (g' ss L)) := by
  intro G F H ps L xs ss s Q I R e q
  cases h1 : g ss L with
  | some t =>
    simp only [h1, Option.some_or] at e
    exact .inl (h G F H ps L xs ss s Q I R (h1.trans e) q)
  | none =>
    simp only [h1, Option.none_or] at e
    exact .inr (h' G F H ps L xs ss s Q I R e q)
end
section
variable {X : Cx} {W : WX} {x : Str} {p pos : Pos} {e : Expr} {es : List Expr} {id T : String} {r : List V → Hp → VK → Prop} {g : List Sv → Led → Option Sv} {fa : DM (List Sv)}
theorem de_callB (hc : CallR X (.builtin id) r) (hs : CallS X.K X.mg' r g) (hg : Gl X x) (hm : X.mg x = none) (hv : bootBuiltins x = some (.builtin id)) (ha : DA X W (e :: es) fa) (hn : x ≠ "__name__" := by decide) (hdb : (x == ("__debug__" : Str)) = false := by decide)
    (he : starEach (e :: es) X.env = (false, eval e X.env) :: starEach es X.env := by rfl) (hpl : (backTo pos (starEach es X.env)).any (·.1) = false := by rfl) : DE X W (.Call (.Name x p) (e :: es) [] pos) (dBi g fa) :=
  imE (pe_callB hc hg hm hv ha hn hdb he hpl) fun _ _ _ h => tCB_of hs h
theorem de_callTy (hc : CallR X (.type T) r) (hs : CallS X.K X.mg' r g) (hg : Gl X x) (hm : X.mg x = none) (hv : bootBuiltins x = some (.type T)) (ha : DA X W (e :: es) fa) (hn : x ≠ "__name__" := by decide) (hdb : (x == ("__debug__" : Str)) = false := by decide)
    (he : starEach (e :: es) X.env = (false, eval e X.env) :: starEach es X.env := by rfl) (hpl : (backTo pos (starEach es X.env)).any (·.1) = false := by rfl) : DE X W (.Call (.Name x p) (e :: es) [] pos) (dBi g fa) :=
  imE (pe_callTy hc hg hm hv ha hn hdb he hpl) fun _ _ _ h => tCB_of hs h
/-- a built-in type as a value -/
theorem de_ty (hg : Gl X x) (hm : X.mg x = none) (hv : bootBuiltins x = some (.type T)) (hn : x ≠ "__name__" := by decide) (hd : (x == ("__debug__" : Str)) = false := by decide) : DE X W (.Name x pos) (fun _ L => .ok (.val (.ty T)) L) :=
  imE (pe_bltn (v := .ty T) hg hm hv rfl hn hd) fun σ H Q h => by
    obtain ⟨G0, G, F, ps, ρ, L, g0, I, S, h⟩ := h
    exact h _ F H ps (Ext.refl F ps) I (.ty T)
end
/-! ### inversions of argument lists -/
section
variable {K : PySem.W.Frag} {mg : Str → Option Value} {G F H : Hp} {ps : List Addr} {L : Led} {xs : List V} {a b : Sv}
theorem xvs1 (h : XvsOk K mg G F ps xs [a]) : ∃ x, xs = [x] ∧ XvOk K mg G F ps x a := by
  cases h with
  | cons h1 h2 => cases h2; exact ⟨_, rfl, h1⟩
theorem xvs2 (h : XvsOk K mg G F ps xs [a, b]) : ∃ x y, xs = [x, y] ∧ XvOk K mg G F ps x a ∧ XvOk K mg G F ps y b := by
  cases h with
  | cons h1 h2 =>
    cases h2 with
    | cons h2 h3 => cases h3; exact ⟨_, _, rfl, h1, h2⟩
/-- a sequence: a list (for ever, borrowed, the ledger's), a tuple, the script -/
def Sv.seqL (L : Led) : Sv → Option (List Dv)
  | .val (.lst xs) => some xs
  | .bor xs => some xs
  | .val (.scr ns) => some (ns.map .int)
  | .val (.own k) => match L[k]? with
    | some (.lst xs) => some xs
    | _ => none
  | _ => none
def Sv.seqT : Sv → Option (List Dv)
  | .val (.tup xs) => some xs
  | _ => none
theorem xv_own {k : Nat} {v : V} (h : XvOk K mg G F ps v (.val (.own k))) : ∃ p, v = .ref p ∧ ps[k]? = some p := by
  cases h with
  | own h => exact ⟨_, rfl, h⟩
theorem xv_seqL (I : HS K mg G F H ps L) {x : V} (h : XvOk K mg G F ps x a) {ds : List Dv} (e : a.seqL L = some ds) : ∃ p vs, x = .ref p ∧ SqL K H p vs ∧ RDs K mg F ps vs ds := by
  unfold Sv.seqL at e
  split at e
  · cases e
    cases h with
    | lst h z r => exact ⟨_, _, rfl, SqL.of (I.same _ _ h), r⟩
  · cases e
    obtain ⟨p, vs, rfl, hp, z, r⟩ := h
    exact ⟨p, vs, rfl, SqL.of (I.frame _ _ hp), r⟩
  · cases e
    cases h with
    | scr h => exact ⟨_, _, rfl, I.same.seq h, ints_rel _⟩
  · split at e
    · cases e
      rename_i hk
      obtain ⟨p, rfl, hp⟩ := xv_own h
      obtain ⟨vs, e1, z, r⟩ := I.at_ _ p _ hp hk
      exact ⟨p, vs, rfl, SqL.of e1, r⟩
    · cases e
  · cases e
theorem xv_seqT (I : HS K mg G F H ps L) {x : V} (h : XvOk K mg G F ps x a) {ds : List Dv} (e : a.seqT = some ds) : ∃ p vs, x = .ref p ∧ SqT K H p vs ∧ RDs K mg F ps vs ds ∧ x = x := by
  unfold Sv.seqT at e
  split at e
  · cases e
    obtain ⟨p, vs, rfl, fp, hp, z, rs⟩ := xv_tup I h
    exact ⟨p, vs, rfl, SqT.of hp, rs, rfl⟩
  · cases e
end
/-! ### len -/
section
variable {K : PySem.W.Frag} {mg : Str → Option Value}
def gLen (ss : List Sv) (L : Led) : Option Sv := match ss with
  | [a] => match a with
    | .val (.str x) => some (.val (.int x.length))
    | .val (.dic ks) => some (.val (.int ks.length))
    | a => match a.seqL L with
      | some ds => some (.val (.int ds.length))
      | none => match a.seqT with
        | some ds => some (.val (.int ds.length))
        | none => none
  | _ => none
def rLen (K : PySem.W.Frag) : List V → Hp → VK → Prop := fun xs H Q => (∃ x n, xs = [x] ∧ LenV K x H n ∧ Q (.int n) H) ∨ ∃ a kvs, xs = [V.ref a] ∧ Rd H a (.dK kvs) ∧ Q (.int kvs.length) H
theorem call_lenRd {X : Cx} : CallR X (.builtin "len") (fun xs H Q => ∃ a kvs, xs = [V.ref a] ∧ Rd H a (.dK kvs) ∧ Q (.int kvs.length) H) := by
  intro pins s σ H xs us Q I r h
  obtain ⟨a, kvs, rfl, hd, q⟩ := h
  obtain ⟨u, rfl, ru⟩ := vals1 r
  cases ru
  exact d_len I hd fun t s' I' => ⟨.int kvs.length, H, I', ⟨t, rfl⟩, q⟩
theorem call_len' {X : Cx} : CallR X (.builtin "len") (rLen X.K) := CallR.or call_len call_lenRd
theorem RDk.length {F : Hp} {ps : List Addr} : ∀ {ws : List (Key × V)} {ks : List (Key × Dv)}, RDk K mg F ps ws ks → ws.length = ks.length
  | _, _, .nil => rfl
  | _, _, .cons _ _ r => by simp [RDk.length r]
theorem cs_len : CallS K mg (rLen K) gLen := by
  intro G F H ps L xs ss s Q I R e q
  unfold gLen at e
  split at e
  · rename_i a
    obtain ⟨x, rfl, rx⟩ := xvs1 R
    split at e
    · cases e
      obtain ⟨rfl, z⟩ := xv_str rx
      exact .inl ⟨_, _, rfl, ⟨z, rfl⟩, QE.now q I (.int _)⟩
    · cases e
      cases rx with
      | dic h z r => exact .inr ⟨_, _, rfl, .inr ⟨_, I.same _ _ h⟩, by rw [r.length]; exact QE.now q I (.int _)⟩
    · split at e
      · rename_i ds hds
        cases e
        obtain ⟨p, vs, rfl, hp, rs⟩ := xv_seqL I rx hds
        exact .inl ⟨_, _, rfl, .inl ⟨vs, hp, rfl⟩, by rw [rs.length]; exact QE.now q I (.int _)⟩
      · split at e
        · rename_i ds hds
          cases e
          obtain ⟨p, vs, rfl, hp, rs, _⟩ := xv_seqT I rx hds
          exact .inl ⟨_, _, rfl, .inr ⟨vs, hp, rfl⟩, by rw [rs.length]; exact QE.now q I (.int _)⟩
        · cases e
  · cases e
/-! ### abs, max, min, divmod -/
def g1I (f : Int → Int) (ss : List Sv) (_ : Led) : Option Sv := match ss with
  | [.val (.int i)] => some (.val (.int (f i)))
  | _ => none
def g2I (f : Int → Int → Int) (ss : List Sv) (_ : Led) : Option Sv := match ss with
  | [.val (.int i), .val (.int j)] => some (.val (.int (f i j)))
  | _ => none
theorem cs_1I {f : Int → Int} : CallS K mg (fun xs H Q => ∃ i, xs = [.int i] ∧ Q (.int (f i)) H) (g1I f) := by
  intro G F H ps L xs ss s Q I R e q
  unfold g1I at e
  split at e
  · cases e
    obtain ⟨x, rfl, rx⟩ := xvs1 R
    rw [xv_int rx]
    exact ⟨_, rfl, QE.now q I (.int _)⟩
  · cases e
theorem cs_2I {f : Int → Int → Int} : CallS K mg (fun xs H Q => ∃ i j, xs = [.int i, .int j] ∧ Q (.int (f i j)) H) (g2I f) := by
  intro G F H ps L xs ss s Q I R e q
  unfold g2I at e
  split at e
  · cases e
    obtain ⟨x, y, rfl, rx, ry⟩ := xvs2 R
    rw [xv_int rx, xv_int ry]
    exact ⟨_, _, rfl, QE.now q I (.int _)⟩
  · cases e
def gAbs := g1I fun i => if i < 0 then -i else i
def gMax := g2I fun i j => if j > i then j else i
def gMin := g2I fun i j => if j < i then j else i
instance (i j : Int) : Decidable (CDivP i j) := inferInstanceAs (Decidable (_ ∧ _))
def gDivmod (ss : List Sv) (_ : Led) : Option Sv := match ss with
  | [.val (.int i), .val (.int j)] => if CDivP i j then some (.val (.tup [.int (i / j), .int (i % j)])) else none
  | _ => none
theorem cs_divmod : CallS K mg (fun xs H Q => ∃ i j, xs = [.int i, .int j] ∧ CDivP i j ∧ ∀ p, H p = none → Q (.ref p) (upd H p (.tup [.int (i / j), .int (i % j)]))) gDivmod := by
  intro G F H ps L xs ss s Q I R e q
  unfold gDivmod at e
  split at e
  · split at e
    · rename_i hc
      cases e
      obtain ⟨x, y, rfl, rx, ry⟩ := xvs2 R
      rw [xv_int rx, xv_int ry]
      exact ⟨_, _, rfl, hc, QE.newT q I (show 2 ≤ sizeLine by decide) (.cons (.int _) (.cons (.int _) .nil))⟩
    · cases e
  · cases e
/-! ### all, any -/
def bools : List Dv → Option (List Bool)
  | [] => some []
  | .bl b :: ds => (bools ds).map (b :: ·)
  | _ => none
theorem bools_rel {F : Hp} {ps : List Addr} : ∀ {ds : List Dv} {bs : List Bool} {vs : List V}, bools ds = some bs → RDs K mg F ps vs ds → vs = bs.map V.bl
  | [], _, _, e, .nil => by cases e; rfl
  | .bl b :: ds, bs, _, e, .cons h r => by
    cases hb : bools ds with
    | none => simp [bools, hb] at e
    | some cs =>
      simp [bools, hb] at e
      subst e
      cases h
      rw [bools_rel hb r]; rfl
theorem bools_map (bs : List Bool) : bools (bs.map Dv.bl) = some bs := by
  induction bs with
  | nil => rfl
  | cons b bs ih => simp [bools, ih]
def gQ (f : List Bool → Bool) (ss : List Sv) (L : Led) : Option Sv := match ss with
  | [a] => match (a.seqL L).bind bools with
    | some bs => some (.val (.bl (f bs)))
    | none => none
  | _ => none
theorem cs_Q {f : List Bool → Bool} : CallS K mg (fun vs H Q => ∃ (a : Addr) (bs : List Bool), vs = [V.ref a] ∧ SqL K H a (bs.map V.bl) ∧ Q (.bl (f bs)) H) (gQ f) := by
  intro G F H ps L xs ss s Q I R e q
  unfold gQ at e
  split at e
  · rename_i a
    split at e
    · rename_i bs hb
      cases e
      obtain ⟨x, rfl, rx⟩ := xvs1 R
      cases hd : a.seqL L with
      | none => rw [hd] at hb; cases hb
      | some ds =>
        rw [hd] at hb
        obtain ⟨p, vs, rfl, hp, rs⟩ := xv_seqL I rx hd
        rw [bools_rel hb rs] at hp
        exact ⟨p, bs, rfl, hp, QE.now q I (.bl _)⟩
    · cases e
  · cases e
def gAll := gQ fun bs => bs.all id
def gAny := gQ fun bs => bs.any id
/-! ### list(x), tuple(x) -/
def gList (ss : List Sv) (L : Led) : Option Sv := match ss with
  | [a] => match (a.seqL L).or a.seqT with
    | some ds => if ds.length ≤ sizeLine then some (.val (.lst ds)) else none
    | none => none
  | _ => none
theorem cs_list : CallS K mg (fun xs H Q => ∃ p ys, xs = [.ref p] ∧ (SqL K H p ys ∨ SqT K H p ys) ∧ ∀ l, H l = none → Q (.ref l) (upd H l (.lst ys))) gList := by
  intro G F H ps L xs ss s Q I R e q
  unfold gList at e
  split at e
  · rename_i a
    obtain ⟨x, rfl, rx⟩ := xvs1 R
    split at e
    · rename_i ds hds
      split at e
      · rename_i hz
        cases e
        cases hd : a.seqL L with
        | some d2 =>
          rw [hd] at hds; simp at hds; subst hds
          obtain ⟨p, vs, rfl, hp, rs⟩ := xv_seqL I rx hd
          exact ⟨p, vs, rfl, .inl hp, QE.newL q I (by rw [rs.length]; exact hz) rs⟩
        | none =>
          rw [hd] at hds; simp at hds
          obtain ⟨p, vs, rfl, hp, rs, _⟩ := xv_seqT I rx hds
          exact ⟨p, vs, rfl, .inr hp, QE.newL q I (by rw [rs.length]; exact hz) rs⟩
      · cases e
    · cases e
  · cases e
def gTuple (ss : List Sv) (L : Led) : Option Sv := match ss with
  | [a] => match a.seqL L with
    | some ds => if ds.length ≤ sizeLine then some (.val (.tup ds)) else none
    | none => match a.seqT with
      | some _ => some a
      | none => none
  | _ => none
theorem cs_tuple : CallS K mg (fun xs H Q => ∃ p ys, xs = [.ref p] ∧ ((SqL K H p ys ∧ ∀ l, H l = none → Q (.ref l) (upd H l (.tup ys))) ∨ (SqT K H p ys ∧ Q (.ref p) H))) gTuple := by
  intro G F H ps L xs ss s Q I R e q
  unfold gTuple at e
  split at e
  · rename_i a
    obtain ⟨x, rfl, rx⟩ := xvs1 R
    split at e
    · rename_i ds hds
      split at e
      · rename_i hz
        cases e
        obtain ⟨p, vs, rfl, hp, rs⟩ := xv_seqL I rx hds
        exact ⟨p, vs, rfl, .inl ⟨hp, QE.newT q I (by rw [rs.length]; exact hz) rs⟩⟩
      · cases e
    · split at e
      · rename_i ds hds
        cases e
        obtain ⟨p, vs, rfl, hp, rs, _⟩ := xv_seqT I rx hds
        exact ⟨p, vs, rfl, .inr ⟨hp, QE.now q I rx⟩⟩
      · cases e
  · cases e
/-! ### repr -/
def okR (p : PyData) : Bool := p.showable && decide (p.depth ≤ 64) && decide (p.shown.length ≤ sizeLine)
def gRepr (ss : List Sv) (_ : Led) : Option Sv := match ss with
  | [a] => match a.py with
    | some p => if okR p = true then some (.val (.str p.shown)) else none
    | none => none
  | _ => none
def rRepr (X : Cx) : List V → Hp → VK → Prop := fun xs H Q => ∃ x p, xs = [x] ∧ RdAt X H x p ∧ okR p = true ∧ Q (.str p.shown) H
theorem call_repr {X : Cx} (hg : X.A.guards = some []) (hu : X.A.units + 66 < cLine) : CallR X (.builtin "repr") (rRepr X) := by
  intro pins s σ H xs us Q I r h
  obtain ⟨x, p, rfl, hr, ok, q⟩ := h
  obtain ⟨u, rfl, ru⟩ := vals1 r
  obtain ⟨as, R, na⟩ := hr pins σ s u I ru
  simp only [okR, Bool.and_eq_true, decide_eq_true_eq] at ok
  obtain ⟨⟨hs, hd⟩, hz⟩ := ok
  have road : ∀ {a : Addr}, Reads s.heap (.ref a) p as → u = .ref a → wpAny (model X.prog X.w) X.A (call (.builtin "repr") [u]) (EP X pins σ Q) X.xe s := fun R e => by
    subst e
    exact repr_of_reads' R hs (fun _ => na) hg (by omega) (fun b o e => e) (fun h' t tk k => ⟨.str _, H, I.kept k, ⟨_, rfl⟩, q⟩) hz
  cases R with
  | none => exact PySem.P.repr_of_none ⟨.str _, H, I.tok _, ⟨_, rfl⟩, q⟩
  | bool b => exact PySem.P.repr_of_bool ⟨.str _, H, I.tok _, ⟨_, rfl⟩, q⟩
  | int i t => exact PySem.P.repr_of_int (by simpa [PyData.showable] using hs) ⟨.str _, H, I.tok _, ⟨_, rfl⟩, q⟩
  | str y t => exact PySem.P.repr_of_str ⟨.str _, H, I.tok _, ⟨_, rfl⟩, q⟩ hz
  | list h1 h2 h3 h4 => exact road (.list h1 h2 h3 h4) rfl
  | tuple h1 h2 h3 h4 => exact road (.tuple h1 h2 h3 h4) rfl
  | dict h1 h2 h3 h4 h5 => exact road (.dict h1 h2 h3 h4 h5) rfl
theorem cs_repr {X : Cx} (hk : SysK X.K) : CallS X.K X.mg' (rRepr X) gRepr := by
  intro G F H ps L xs ss s Q I R e q
  unfold gRepr at e
  split at e
  · rename_i a
    obtain ⟨x, rfl, rx⟩ := xvs1 R
    split at e
    · rename_i p hp
      split at e
      · rename_i ok
        cases e
        have hz : p.shown.length ≤ sizeLine := by
          simp only [okR, Bool.and_eq_true, decide_eq_true_eq] at ok
          exact ok.2
        exact ⟨x, p, rfl, XvOk.reads (K' := X.K) hk I rx hp, ok, QE.now q I (.str _ hz)⟩
      · cases e
    · cases e
  · cases e
end
end DL

/-! DL, part 11: isinstance, subscripts, slices, join, stores into the ledger's things. -/
namespace DL
open PySem PySem.Spec PyProof.Rows L2
section
variable {K : PySem.W.Frag} {mg : Str → Option Value} {G F H : Hp} {ps : List Addr} {L : Led} {xs : List V} {a b : Sv} {x : V}
/-! ### isinstance with built-in types -/
def Sv.tyn (L : Led) : Sv → Option String
  | .val .non => some "NoneType"
  | .val (.bl _) => some "bool"
  | .val (.int _) => some "int"
  | .val (.str _) => some "str"
  | .val (.lst _) => some "list"
  | .val (.tup _) => some "tuple"
  | .val (.dic _) => some "dict"
  | .bor _ => some "list"
  | .borD _ => some "dict"
  | .val (.own k) => match L[k]? with
    | some (.lst _) => some "list"
    | some (.dic _) => some "dict"
    | _ => none
  | _ => none
theorem xv_tyn (I : HS K mg G F H ps L) (h : XvOk K mg G F ps x a) {n : String} (e : a.tyn L = some n) : TyX K H x (.type n) := by
  unfold Sv.tyn at e
  split at e
  · cases e; rw [xv_non h]; exact .base .non
  · cases e; rw [xv_bl h]; exact .base (.bl _)
  · cases e; rw [xv_int h]; exact .base (.int _)
  · cases e; obtain ⟨rfl, z⟩ := xv_str h; exact .base (.str _)
  · cases e
    cases h with
    | lst h z r => exact .base (.lst (I.same _ _ h))
  · cases e
    cases h with
    | tup h z r => exact .base (.tup (I.same _ _ h))
  · cases e
    cases h with
    | dic h z r => exact .fDict (I.same _ _ h)
  · cases e
    obtain ⟨p, vs, rfl, hp, z, r⟩ := h
    exact .base (.lst (I.frame _ _ hp))
  · cases e
    obtain ⟨p, vs, rfl, hp, z, r⟩ := h
    exact .base (.dK (I.frame _ _ hp))
  · split at e
    · cases e
      rename_i hk
      obtain ⟨p, rfl, hp⟩ := xv_own h
      obtain ⟨vs, e1, z, r⟩ := I.at_ _ p _ hp hk
      exact .base (.lst e1)
    · cases e
      rename_i hk
      obtain ⟨p, rfl, hp⟩ := xv_own h
      obtain ⟨vs, e1, z, r⟩ := I.at_ _ p _ hp hk
      exact .base (.dK e1)
    · cases e
  · cases e
def tyNames : List Dv → Option (List String)
  | [] => some []
  | .ty n :: ds => (tyNames ds).map (n :: ·)
  | _ => none
def anyB (t : String) : List String → Option Bool
  | [] => some false
  | n :: ns => match kitB t n with
    | some true => some true
    | some false => anyB t ns
    | none => none
theorem anyB_kit {t : String} : ∀ {ns : List String} {b : Bool}, anyB t ns = some b → PySem.W.kitAny K (.type t) (ns.map .type) = some b
  | [], _, e => by cases e; rfl
  | n :: ns, b, e => by
    unfold anyB at e
    split at e
    · rename_i h; cases e; exact kitAny_cons (kit_ty h) (fun z => by cases z) (fun _ => rfl)
    · rename_i h; exact kitAny_cons (kit_ty h) (fun _ => anyB_kit e) (fun z => by cases z)
    · cases e
theorem tyNames_rel {F : Hp} {ps : List Addr} : ∀ {ds : List Dv} {ns : List String} {vs : List V}, tyNames ds = some ns → RDs K mg F ps vs ds → vs = ns.map V.ty ∧ Paired ClsV vs (ns.map Value.type)
  | [], _, _, e, .nil => by cases e; exact ⟨rfl, .nil⟩
  | .ty n :: ds, ns, _, e, .cons h r => by
    cases hb : tyNames ds with
    | none => simp [tyNames, hb] at e
    | some cs =>
      simp [tyNames, hb] at e
      subst e
      cases h
      obtain ⟨e1, p1⟩ := tyNames_rel hb r
      rw [e1] at p1 ⊢
      exact ⟨rfl, .cons (.ty n) p1⟩
def gIsi (ss : List Sv) (L : Led) : Option Sv := match ss with
  | [a, .val (.ty n)] => ((a.tyn L).bind fun t => kitB t n).map fun k => .val (.bl k)
  | [a, .val (.tup cs)] => ((a.tyn L).bind fun t => (tyNames cs).bind (anyB t)).map fun k => .val (.bl k)
  | _ => none
theorem cs_isi : CallS K mg (fun xs H Q => rIsi K xs H Q ∨ rIsiT K xs H Q) gIsi := by
  intro G F H ps L xs ss s Q I R e q
  unfold gIsi at e
  split at e
  · rename_i a n
    obtain ⟨x, y, rfl, rx, ry⟩ := xvs2 R
    cases ht : a.tyn L with
    | none => simp [ht] at e
    | some t =>
      cases hk : kitB t n with
      | none => simp [ht, hk] at e
      | some k =>
        simp [ht, hk] at e
        subst e
        cases ry
        exact .inl ⟨x, .ty n, _, _, k, rfl, .ty n, xv_tyn I rx ht, kit_ty hk, QE.now q I (.bl k)⟩
  · rename_i a cs
    obtain ⟨x, y, rfl, rx, ry⟩ := xvs2 R
    cases ht : a.tyn L with
    | none => simp [ht] at e
    | some t =>
      cases hn : tyNames cs with
      | none => simp [ht, hn] at e
      | some ns =>
        cases hk : anyB t ns with
        | none => simp [ht, hn, hk] at e
        | some k =>
          simp [ht, hn, hk] at e
          subst e
          obtain ⟨p, vs, rfl, fp, hp, z, rs⟩ := xv_tup I ry
          obtain ⟨e1, p1⟩ := tyNames_rel hn rs
          exact .inr ⟨x, p, vs, _, _, k, rfl, hp, p1, xv_tyn I rx ht, anyB_kit hk, QE.now q I (.bl k)⟩
  · cases e
theorem call_isiA {X : Cx} : CallR X (.builtin "isinstance") (fun xs H Q => rIsi X.K xs H Q ∨ rIsiT X.K xs H Q) := CallR.or call_isi call_isiT
/-! ### subscripts -/
theorem RDs.atI {F : Hp} {ps : List Addr} {vs : List V} {ds : List Dv} (r : RDs K mg F ps vs ds) {i : Int} {d : Dv} (e : L2.atI ds i = some d) : ∃ v, L2.atI vs i = some v ∧ RD K mg F ps v d := by
  unfold L2.atI at e ⊢
  rw [r.length]
  cases hx : ixN ds.length i with
  | none => rw [hx] at e; cases e
  | some j =>
    rw [hx] at e
    exact r.get e
/-- a dict's pairs -/
def Sv.prL (L : Led) : Sv → Option (List (Key × Dv))
  | .val (.dic ks) => some ks
  | .borD ks => some ks
  | .val (.own k) => match L[k]? with
    | some (.dic ks) => some ks
    | _ => none
  | _ => none
theorem xv_prL (I : HS K mg G F H ps L) (h : XvOk K mg G F ps x a) {ks : List (Key × Dv)} (e : a.prL L = some ks) : ∃ p ws, x = .ref p ∧ Rd H p (.dK ws) ∧ RDk K mg F ps ws ks := by
  unfold Sv.prL at e
  split at e
  · cases e
    cases h with
    | dic h z r => exact ⟨_, _, rfl, .inr ⟨_, I.same _ _ h⟩, r⟩
  · cases e
    obtain ⟨p, vs, rfl, hp, z, r⟩ := h
    exact ⟨p, vs, rfl, .inl (I.frame _ _ hp), r⟩
  · split at e
    · cases e
      rename_i hk
      obtain ⟨p, rfl, hp⟩ := xv_own h
      obtain ⟨vs, e1, z, r⟩ := I.at_ _ p _ hp hk
      exact ⟨p, vs, rfl, .inl e1, r⟩
    · cases e
  · cases e
def gIx (a b : Sv) (L : Led) : Option Sv := match b with
  | .val (.int i) => match a.seqL L with
    | some ds => (L2.atI ds i).map .val
    | none => match a.seqT with
      | some ds => (L2.atI ds i).map .val
      | none => match a with
        | .val (.str z) => (L2.atI z.cps.toList i).map fun c => .val (.str ⟨#[c]⟩)
        | _ => none
  | _ => none
theorem sIx' : OpS K mg (rIx K) gIx := by
  intro G F H ps L x y a b s Q I ra rb e q
  unfold gIx at e
  split at e
  · rename_i i
    rw [xv_int rb]
    split at e
    · rename_i ds hd
      obtain ⟨p, vs, rfl, hp, rs⟩ := xv_seqL I ra hd
      cases hx : L2.atI ds i with
      | none => rw [hx] at e; cases e
      | some d =>
        rw [hx] at e; cases e
        obtain ⟨v, hv, rv⟩ := rs.atI hx
        exact .inl ⟨p, vs, i, v, rfl, rfl, hp, hv, QE.now q I rv⟩
    · split at e
      · rename_i ds hd
        obtain ⟨p, vs, rfl, hp, rs, _⟩ := xv_seqT I ra hd
        cases hx : L2.atI ds i with
        | none => rw [hx] at e; cases e
        | some d =>
          rw [hx] at e; cases e
          obtain ⟨v, hv, rv⟩ := rs.atI hx
          exact .inr (.inl ⟨p, vs, i, v, rfl, rfl, hp, hv, QE.now q I rv⟩)
      · split at e
        · rename_i z _ _
          obtain ⟨rfl, hz⟩ := xv_str ra
          cases hx : L2.atI z.cps.toList i with
          | none => rw [hx] at e; cases e
          | some c =>
            rw [hx] at e; cases e
            exact .inr (.inr ⟨z, i, c, rfl, rfl, hz, hx, QE.now q I (.str _ (one_len c))⟩)
        · cases e
  · cases e
/-- d[k] of a dict -/
def gDg (a b : Sv) (L : Led) : Option Sv := match b.key, a.prL L with
  | some k, some ks => (lookK ks k).map .val
  | _, _ => none
theorem sDg : OpS K mg (fun x y H Q => ∃ a v, x = .ref a ∧ DGet H a y (some v) ∧ Q v H) gDg := by
  intro G F H ps L x y a b s Q I ra rb e q
  unfold gDg at e
  split at e
  · rename_i k ks hk hp
    obtain ⟨p, ws, rfl, hd, rk⟩ := xv_prL I ra hp
    obtain ⟨rfl, _⟩ := xv_key rb hk
    rcases look_rel k rk with ⟨e1, _⟩ | ⟨v, d, e1, e2, r⟩
    · rw [e1] at e; cases e
    · rw [e1] at e; cases e
      refine ⟨p, v, rfl, ?_, QE.now q I r⟩
      have := dget_of hd k
      rwa [e2] at this
  · cases e
/-! ### slices -/
def cutD (ds : List Dv) (lo hi : Option Int) : List Dv := (ds.drop (HT.sIx ds.length 0 lo)).take (HT.sIx ds.length ds.length hi - HT.sIx ds.length 0 lo)
theorem cut_rel {F : Hp} {ps : List Addr} {vs : List V} {ds : List Dv} (r : RDs K mg F ps vs ds) (lo hi : Option Int) : RDs K mg F ps (cutV vs lo hi) (cutD ds lo hi) := by
  unfold cutV cutD
  rw [r.length]
  exact (r.drop _).take _
theorem cutD_length (ds : List Dv) (lo hi : Option Int) : (cutD ds lo hi).length ≤ ds.length := by
  unfold cutD
  rw [List.length_take, List.length_drop]
  omega
def gSl (a : Sv) (lo hi : Option Int) (L : Led) : Option Sv := match a with
  | .val (.str z) => some (.val (.str (cutS z lo hi)))
  | a => match a.seqL L with
    | some ds => if ds.length ≤ sizeLine then some (.val (.lst (cutD ds lo hi))) else none
    | none => match a.seqT with
      | some ds => if ds.length ≤ sizeLine then some (.val (.tup (cutD ds lo hi))) else none
      | none => none
def SlS (K : PySem.W.Frag) (mg : Str → Option Value) (r : V → Option Int → Option Int → Hp → VK → Prop) : Prop :=
  ∀ (G F H : Hp) (ps : List Addr) (L : Led) (x : V) (a s : Sv) (lo hi : Option Int) (Q : VK), HS K mg G F H ps L → XvOk K mg G F ps x a → gSl a lo hi L = some s → QE K mg G F ps Q s L → r x lo hi H Q
def rSl3 (K : PySem.W.Frag) : V → Option Int → Option Int → Hp → VK → Prop := fun x lo hi H Q => rSlL K x lo hi H Q ∨ rSlA K x lo hi H Q ∨ rSlS x lo hi H Q
theorem sSl : SlS K mg (rSl3 K) := by
  intro G F H ps L x a s lo hi Q I ra e q
  unfold gSl at e
  split at e
  · rename_i z
    cases e
    obtain ⟨rfl, hz⟩ := xv_str ra
    exact .inr (.inr ⟨z, rfl, hz, QE.now q I (.str _ (Nat.le_trans (cutS_length z lo hi) hz))⟩)
  · split at e
    · rename_i ds hd
      split at e
      · rename_i hz
        cases e
        obtain ⟨p, vs, rfl, hp, rs⟩ := xv_seqL I ra hd
        exact .inl ⟨p, vs, rfl, hp, QE.newL q I (Nat.le_trans (cutV_length vs lo hi) (by rw [rs.length]; exact hz)) (cut_rel rs lo hi)⟩
      · cases e
    · split at e
      · rename_i ds hd
        split at e
        · rename_i hz
          cases e
          obtain ⟨p, vs, rfl, hp, rs, _⟩ := xv_seqT I ra hd
          refine .inr (.inl ⟨p, vs, rfl, hp, fun hw => ?_, fun _ => QE.newT q I (Nat.le_trans (cutV_length vs lo hi) (by rw [rs.length]; exact hz)) (cut_rel rs lo hi)⟩)
          have hw2 : HT.sIx ds.length 0 lo = 0 ∧ HT.sIx ds.length ds.length hi = ds.length := by rw [← rs.length]; exact hw
          have ec : cutD ds lo hi = ds := by unfold cutD; rw [hw2.1, hw2.2]; simp
          rw [ec] at q
          unfold Sv.seqT at hd
          split at hd
          · cases hd; exact QE.now q I ra
          · cases hd
        · cases e
      · cases e
/-! ### "..".join -/
def strsOf : List Dv → Option (List Str)
  | [] => some []
  | .str x :: ds => (strsOf ds).map (x :: ·)
  | _ => none
theorem strsOf_rel {F : Hp} {ps : List Addr} : ∀ {ds : List Dv} {ys : List Str} {vs : List V}, strsOf ds = some ys → RDs K mg F ps vs ds → vs = ys.map V.str
  | [], _, _, e, .nil => by cases e; rfl
  | .str x :: ds, ys, _, e, .cons h r => by
    cases hb : strsOf ds with
    | none => simp [strsOf, hb] at e
    | some cs =>
      simp [strsOf, hb] at e
      subst e
      cases h
      rw [strsOf_rel hb r]; rfl
theorem strsOf_map (ys : List Str) : strsOf (ys.map Dv.str) = some ys := by
  induction ys with
  | nil => rfl
  | cons b bs ih => simp [strsOf, ih]
def MtS (K : PySem.W.Frag) (mg : Str → Option Value) (r : V → List V → Hp → VK → Prop) (g : Str → List Sv → Led → Option Sv) : Prop :=
  ∀ (G F H : Hp) (ps : List Addr) (L : Led) (z : Str) (xs : List V) (ss : List Sv) (s : Sv) (Q : VK), HS K mg G F H ps L → z.length ≤ sizeLine → XvsOk K mg G F ps xs ss → g z ss L = some s → QE K mg G F ps Q s L → r (.str z) xs H Q
def gJoin (z : Str) (ss : List Sv) (L : Led) : Option Sv := match ss with
  | [a] => match ((a.seqL L).or a.seqT).bind strsOf with
    | some ys => if (ys.map (·.length)).sum + ys.length * z.length ≤ 16777216 ∧ (Txt.join z ys).length ≤ sizeLine then some (.val (.str (Txt.join z ys))) else none
    | none => none
  | _ => none
def rJoin (K : PySem.W.Frag) : V → List V → Hp → VK → Prop := fun x xs H Q => ∃ a p, ∃ ys : List Str, x = .str a ∧ xs = [.ref p] ∧ (SqL K H p (ys.map V.str) ∨ SqT K H p (ys.map V.str)) ∧
    (ys.map (·.length)).sum + ys.length * a.length ≤ 16777216 ∧ Q (.str (Txt.join a ys)) H
theorem ms_join : MtS K mg (rJoin K) gJoin := by
  intro G F H ps L z xs ss s Q I hz R e q
  unfold gJoin at e
  split at e
  · rename_i a
    obtain ⟨x, rfl, rx⟩ := xvs1 R
    split at e
    · rename_i ys hy
      split at e
      · rename_i hc
        cases e
        cases hd : a.seqL L with
        | some ds =>
          rw [hd] at hy
          obtain ⟨p, vs, rfl, hp, rs⟩ := xv_seqL I rx hd
          rw [strsOf_rel hy rs] at hp
          exact ⟨z, p, ys, rfl, rfl, .inl hp, hc.1, QE.now q I (.str _ hc.2)⟩
        | none =>
          cases hd2 : a.seqT with
          | none => rw [hd, hd2] at hy; cases hy
          | some ds =>
            rw [hd, hd2] at hy
            obtain ⟨p, vs, rfl, hp, rs, _⟩ := xv_seqT I rx hd2
            rw [strsOf_rel hy rs] at hp
            exact ⟨z, p, ys, rfl, rfl, .inr hp, hc.1, QE.now q I (.str _ hc.2)⟩
      · cases e
    · cases e
  · cases e
end
/-! ### rules -/
def dPt0 : DM (Option Int) := fun _ L => .ok none L
def dPt1 (fe : DM Sv) : DM (Option Int) := fun ρ L => (fe ρ L).bind fun s L1 => match s with
  | .val (.int i) => .ok (some i) L1
  | _ => .bad
def dSl (fe : DM Sv) (fl fh : DM (Option Int)) : DM Sv := fun ρ L => (fe ρ L).bind fun a L1 => (fl ρ L1).bind fun lo L2 => (fh ρ L2).bind fun hi L3 => give (gSl a lo hi L3) L3
def tP (K : PySem.W.Frag) (mg : Str → Option Value) (W : WX) (f : DM (Option Int)) : TO := fun σ H Q => ∃ G0 G F ps ρ L, Same G0 G ∧ HS K mg G F H ps L ∧ Slots K mg G0 G F ps σ ρ ∧
  (f ρ L).wp (fun o L' => ∀ F' H' ps', Ext F ps F' ps' → HS K mg G F' H' ps' L' → Q o H') (EE K mg G0 F ps W)
def dM0 (g : Str → List Sv → Led → Option Sv) (fo : DM Sv) : DM Sv := fun ρ L => (fo ρ L).bind fun a L1 => match a with
  | .val (.str z) => give (g z [] L1) L1
  | _ => .bad
def dM1 (g : Str → List Sv → Led → Option Sv) (fo fe : DM Sv) : DM Sv := fun ρ L => (fo ρ L).bind fun a L1 => match a with
  | .val (.str z) => (fe ρ L1).bind fun y L2 => give (g z [y] L2) L2
  | _ => .bad
section
variable {X : Cx} {W : WX} {a b e o : Expr} {fa fb fe fo : DM Sv} {pos p2 apos : Pos}
theorem de_sub (ha : DE X W a fa) (hb : DE X W b fb) (hx : PlainIx b) : DE X W (.Subscript a b pos) (dOp gIx fa fb) := de_ix ix_seq sIx' ha hb hx
theorem de_dget (hu : X.A.units + 1 < cLine) (ha : DE X W a fa) (hb : DE X W b fb) (hx : NoSl b) : DE X W (.Subscript a b pos) (dOp gDg fa fb) :=
  imE (pe_dget hu ha hb hx) fun _ _ _ h => tOp_of sDg h
abbrev DP (X : Cx) (W : WX) (e : Option Expr) (f : DM (Option Int)) : Prop := PO X e (tP X.K X.mg' W f)
theorem dp_none : DP X W none dPt0 := ⟨fun pins s σ H Q I h => by
  obtain ⟨G0, G, F, ps, ρ, L, g0, J, S, h⟩ := h
  exact po_none.run pins s σ H Q I (h F H ps (Ext.refl _ _) J)⟩
theorem dp_some (h : DE X W e fe) : DP X W (some e) (dPt1 fe) := ⟨fun pins s σ H Q I h1 => (po_some h).run pins s σ H Q I (by
  obtain ⟨G0, G, F, ps, ρ, L, g0, J, S, h1⟩ := h1
  refine ⟨G0, G, F, ps, ρ, L, g0, J, S, Res.wp_mono (Res.wp_bind h1) (fun s L1 h1 v F1 H1 p1 x1 I1 r1 => ?_) fun e r L' q => q⟩
  split at h1
  · rw [xv_int r1]; exact ⟨_, rfl, h1 F1 H1 p1 x1 I1⟩
  · exact h1.elim)⟩
theorem de_slice {lo hi : Option Expr} {fl fh : DM (Option Int)} (he : DE X W e fe) (hl : DP X W lo fl) (hh : DP X W hi fh) : DE X W (.Subscript e (.Slice lo hi none p2) pos) (dSl fe fl fh) :=
  imE (pe_slice (r := rSl3 X.K) (SlR.or sl_list (SlR.or sl_tupA sl_str)) he hl hh) fun σ H Q h => by
    obtain ⟨G0, G, F, ps, ρ, L, g0, I, S, h⟩ := h
    refine tE_unf g0 I S (Res.wp_bind h) (fun s L1 h1 v F1 H1 p1 x1 I1 r1 => ?_) fun e r L' q => q
    refine ⟨G0, G, F1, p1, ρ, L1, g0, I1, S.ext x1, Res.wp_mono (Res.wp_bind h1) (fun lo L2 h2 F2 H2 p2 x2 I2 => ?_) fun e r L' q => EE.ext x1 q⟩
    refine ⟨G0, G, F2, p2, ρ, L2, g0, I2, (S.ext x1).ext x2, Res.wp_mono (Res.wp_bind h2) (fun hi L3 h3 F3 H3 p3 x3 I3 => ?_) fun e r L' q => EE.ext (x1.trans x2) q⟩
    obtain ⟨s2, e2, q⟩ := give_wp h3
    exact sSl G F3 H3 p3 L3 v s s2 lo hi Q I3 (r1.ext (x2.trans x3)) e2 (QE.ext (x1.trans (x2.trans x3)) q)
theorem de_sm0 {id : String} {name : Str} {r : V → List V → Hp → VK → Prop} {g : Str → List Sv → Led → Option Sv} (slot : Slot "str" name id) (ty : typeOf (.builtin id) = pure (.type "method_descriptor")) (rule : MtR X id r) (hm : MtS X.K X.mg' r g) (ho : DE X W o fo)
    (hbase : attributeBase o name X.env (eval o X.env) = eval o X.env := by rfl) (hline : (apos.endLine == pos.line) = true := by rfl) : DE X W (.Call (.Attribute o name apos) [] [] pos) (dM0 g fo) :=
  imE (pe_m0 slot ty rule ho hbase hline) fun σ H Q h => by
    obtain ⟨G0, G, F, ps, ρ, L, g0, I, S, h⟩ := h
    refine tE_unf g0 I S (Res.wp_bind h) (fun s L1 h1 v F1 H1 p1 x1 I1 r1 => ?_) fun e r L' q => q
    split at h1
    · obtain ⟨rfl, hz⟩ := xv_str r1
      obtain ⟨s2, e2, q⟩ := give_wp h1
      exact ⟨⟨_, rfl⟩, hm G F1 H1 p1 L1 _ [] [] s2 Q I1 hz .nil e2 (QE.ext x1 q)⟩
    · exact h1.elim
theorem de_sm1 {id : String} {name : Str} {r : V → List V → Hp → VK → Prop} {g : Str → List Sv → Led → Option Sv} (slot : Slot "str" name id) (ty : typeOf (.builtin id) = pure (.type "method_descriptor")) (rule : MtR X id r) (hm : MtS X.K X.mg' r g) (ho : DE X W o fo) (he : DE X W e fe)
    (hs : starEach [e] X.env = [(false, eval e X.env)] := by rfl) (hbase : attributeBase o name X.env (eval o X.env) = eval o X.env := by rfl) (hline : (apos.endLine == pos.line) = true := by rfl) : DE X W (.Call (.Attribute o name apos) [e] [] pos) (dM1 g fo fe) :=
  imE (pe_m1 slot ty rule ho he hs hbase hline) fun σ H Q h => by
    obtain ⟨G0, G, F, ps, ρ, L, g0, I, S, h⟩ := h
    refine tE_unf g0 I S (Res.wp_bind h) (fun s L1 h1 v F1 H1 p1 x1 I1 r1 => ?_) fun e r L' q => q
    split at h1
    · obtain ⟨rfl, hz⟩ := xv_str r1
      refine ⟨⟨_, rfl⟩, ?_⟩
      refine tE_unf g0 I1 (S.ext x1) (Res.wp_bind h1) (fun s2 L2 h2 v2 F2 H2 p2 x2 I2 r2 => ?_) fun e r L' q => EE.ext x1 q
      obtain ⟨s3, e3, q⟩ := give_wp h2
      exact hm G F2 H2 p2 L2 _ [v2] [s2] s3 Q I2 hz (.cons r2 .nil) e3 (QE.ext (x1.trans x2) q)
    · exact h1.elim
theorem de_join (ho : DE X W o fo) (he : DE X W e fe) (hs : starEach [e] X.env = [(false, eval e X.env)] := by rfl) (hbase : attributeBase o "join" X.env (eval o X.env) = eval o X.env := by rfl) (hline : (apos.endLine == pos.line) = true := by rfl) :
    DE X W (.Call (.Attribute o "join" apos) [e] [] pos) (dM1 gJoin fo fe) := de_sm1 F.slot_str_join F.type_str_join mt_join ms_join ho he hs hbase hline
end
/-! ### xs[::-1] -/
def strRev (z : Str) : Str := ⟨z.cps.toList.reverse.toArray⟩
def gRev (a : Sv) (L : Led) : Option Sv := match a with
  | .val (.str z) => some (.val (.str (strRev z)))
  | a => match a.seqL L with
    | some ds => if ds.length ≤ sizeLine then some (.val (.lst ds.reverse)) else none
    | none => none
def rRev (K : PySem.W.Frag) : V → Hp → VK → Prop := fun x H Q => (∃ a xs, x = .ref a ∧ SqL K H a xs ∧ ∀ p, H p = none → Q (.ref p) (upd H p (.lst xs.reverse))) ∨ ∃ z, x = .str z ∧ z.length ≤ sizeLine ∧ Q (.str (strRev z)) H
theorem rev_made (z : Str) (t u : Tok) : sliceMade z t none none (some (-1, u)) = .str (strRev z) := by
  unfold sliceMade
  have h0 : (((some ((-1 : Int), u)).map (·.1)).getD 1 == 1) = false := rfl
  rw [h0, Bool.false_and, if_neg Bool.false_ne_true]
  congr 1
  show (⟨((Builtin.Str.strSliceIndices none none (-1) z.length).filterMap (z.cps[·]?)).toArray⟩ : Str) = strRev z
  unfold strRev
  congr 2
  rw [picked_rev]
  have hl : z.length = z.cps.size := rfl
  apply List.ext_getElem?
  intro i
  rw [filterMap_get]
  · rw [List.map_map, List.getElem?_map]
    by_cases hi : i < z.cps.size
    · rw [List.getElem?_range (by omega), List.getElem?_reverse (by simpa using hi)]
      simp [Array.getD, hl, show z.cps.size - 1 - i < z.cps.size by omega]
    · rw [List.getElem?_eq_none (by simp; omega), List.getElem?_eq_none (by simp; omega)]; rfl
  · intro j hj
    obtain ⟨k, hk, rfl⟩ := List.mem_map.mp hj
    have := List.mem_range.mp hk
    omega
section
variable {X : Cx} {W : WX} {e : Expr} {te : TE} {fe : DM Sv} {k : Nat} {p1 p2 p3 pos : Pos}
theorem pe_revA (he : PE X e te) : PE X (.Subscript e (.Slice none none (some (.UnaryOp .USub (.Constant (.int 1) k p1) p2)) p3) pos) (tUn (rRev X.K) te) := by
  refine ⟨fun pins s σ H Q I h => ?_⟩
  refine Subscript_ (thn (he.run pins s σ H _ I h) fun v s1 ⟨x, H1, I1, r1, q1⟩ => ?_)
  have hst : PO X (some (.UnaryOp .USub (.Constant (.int 1) k p1) p2)) (tPart (tUn (rU fun i => .int (-i)) (tC (.int 1)))) := po_some (pe_un un_neg pe_int)
  refine wpAny_Slice (thn (po_none.run pins s1 σ H1 (fun o H2 => o = none ∧ H2 = H1) I1 ⟨rfl, rfl⟩) fun vl s2 ⟨l, H2, I2, pl, el, e2⟩ => ?_)
  subst el e2
  refine thn (po_none.run pins s2 σ H2 (fun o H3 => o = none ∧ H3 = H2) I2 ⟨rfl, rfl⟩) fun vu s3 ⟨u, H3, I3, pu, eu, e3⟩ => ?_
  subst eu e3
  refine thn (hst.run pins s3 σ H3 (fun o H4 => o = some (-1) ∧ H4 = H3) I3 ⟨1, rfl, -1, rfl, rfl, rfl⟩) fun vs s4 ⟨o, H4, I4, ps, eo, e4⟩ => ?_
  subst eo e4
  have I5 : Inv X pins σ H4 { s4 with heap := s4.heap.push { cls := .type "slice", data := .fields #[vl, vu, vs] } } := I4.kept (t' := s4.toks) fun b ob q => Heap.get?_push_of_some _ q
  rcases q1 with ⟨a, xs, ex, hx, q⟩ | ⟨z, ex, hz, q⟩
  · subst ex
    cases r1
    obtain ⟨its, r, ht, hz⟩ := I5.list hx
    have hlen := r.length
    show wpAny (model X.prog X.w) X.A (subscriptTail e (.Slice none none (some (.UnaryOp .USub (.Constant (.int 1) k p1) p2)) p3) (.ref a) (.ref s4.heap.objs.size)) (EP X pins σ Q) X.xe { s4 with heap := s4.heap.push { cls := .type "slice", data := .fields #[vl, vu, vs] } }
    refine tail_any (ops := [.ref a, .ref s4.heap.objs.size]) ht.isList.typeIs (PySem.slot_list_getitem.lookup) ?_ (by with_unfolding_all rfl)
    refine wpAny_getItem_list_slice ht.isList (Heap.IsSliceOf.new _ vl vu vs) pl pu ps (by decide) ?_ (by rw [List.size_toArray]; omega)
    rw [PySem.W.krv_pick]
    refine ⟨.ref _, _, I5.laid (t' := s4.toks) (o := .lst xs.reverse) (fun b ob q => Heap.get?_push_of_some _ q) (Nat.le_refl _) ?_, rfl, q _ (I5.hok.fresh (Nat.le_refl _))⟩
    exact ⟨by rw [List.length_reverse]; exact hz, _, 0, r.reverse, Heap.get?_push_size _ rfl⟩
  · subst ex
    obtain ⟨t, rfl⟩ := r1
    show wpAny (model X.prog X.w) X.A (subscriptTail e (.Slice none none (some (.UnaryOp .USub (.Constant (.int 1) k p1) p2)) p3) (.str z t) (.ref s4.heap.objs.size)) (EP X pins σ Q) X.xe { s4 with heap := s4.heap.push { cls := .type "slice", data := .fields #[vl, vu, vs] } }
    refine tail_any (ops := [.str z t, .ref s4.heap.objs.size]) (typeIs_str _ _ _) F.slot_str_getitem.lookup ?_ (by with_unfolding_all rfl)
    obtain ⟨l, rfl, hl⟩ := IsPart.raw pl
    obtain ⟨u, rfl, hu⟩ := IsPart.raw pu
    obtain ⟨w, rfl, hw⟩ := IsPart.raw ps
    cases l with
    | some l => cases hl
    | none =>
    cases u with
    | some u => cases hu
    | none =>
    cases w with
    | none => cases hw
    | some w =>
    obtain ⟨w1, w2⟩ := w
    have hw1 : w1 = -1 := by simpa using hw
    subst hw1
    refine wpAny_getItem_str_slice (l := none) (u := none) (st := some (-1, w2)) ⟨_, Heap.get?_push_size _ rfl, rfl, rfl⟩ rfl ?_
    rw [rev_made]
    exact ⟨by show (strRev z).cps.size ≤ sizeLine; simp [strRev]; exact hz, .str _, H4, I5.tok _, ⟨_, rfl⟩, q⟩
theorem sRev {K : PySem.W.Frag} {mg : Str → Option Value} : UnS K mg (rRev K) gRev := by
  intro G F H ps L x a s Q I ra e q
  unfold gRev at e
  split at e
  · rename_i z
    cases e
    obtain ⟨rfl, hz⟩ := xv_str ra
    exact .inr ⟨z, rfl, hz, QE.now q I (.str _ (by show (strRev z).cps.size ≤ sizeLine; simp [strRev]; exact hz))⟩
  · split at e
    · rename_i ds hd
      split at e
      · rename_i hz
        cases e
        obtain ⟨p, vs, rfl, hp, rs⟩ := xv_seqL I ra hd
        exact .inl ⟨p, vs, rfl, hp, QE.newL q I (by rw [List.length_reverse, rs.length]; exact hz) rs.reverse⟩
      · cases e
    · cases e
theorem de_rev (he : DE X W e fe) : DE X W (.Subscript e (.Slice none none (some (.UnaryOp .USub (.Constant (.int 1) k p1) p2)) p3) pos) (dUn gRev fe) := imE (pe_revA he) fun _ _ _ h => tUn_of sRev h
end
end DL

/-! DL, part 12: things of the ledger, dict displays, targets, parallel stores. -/
namespace DL
open PySem PySem.Spec PyProof.Rows L2
section
variable {K : PySem.W.Frag} {mg : Str → Option Value} {G0 G F H : Hp} {ps : List Addr} {L : Led} {σ : List (Option V)} {ρ : Slo} {W : WX}
theorem CtOk.updH {p q : Addr} {u : HO} {c : Ct} (h : CtOk K mg G F H ps q c) (hq : q ≠ p) (hd : ∀ o, H p = some (.own o) → o ≠ q) : CtOk K mg G F (L2.upd H p u) ps q c := by
  cases c with
  | lst xs => obtain ⟨vs, a, b, r⟩ := h; exact ⟨vs, by rw [upd_ne hq]; exact a, b, r⟩
  | dic xs => obtain ⟨vs, a, b, r⟩ := h; exact ⟨vs, by rw [upd_ne hq]; exact a, b, r⟩
  | obj c fs =>
    obtain ⟨C, dx, gs, a, b, c0, c1, c2, r⟩ := h
    have hne : dx ≠ p := fun e => hd q (by rw [← e]; exact c0) rfl
    exact ⟨C, dx, gs, a, by rw [upd_ne hq]; exact b, by rw [upd_ne hne]; exact c0, c1, c2, r⟩
  | gone => obtain ⟨o, a⟩ := h; exact ⟨o, by rw [upd_ne hq]; exact a⟩
theorem live_set {ps : List Addr} {L : Led} {k : Nat} {c : Ct} {q : Addr} (hlv : ∃ c0 : Ct, L[k]? = some c0 ∧ c0 ≠ .gone) (l : Live ps (L.set k c) q) : Live ps L q := by
  obtain ⟨j, d, h1, h2, h3⟩ := l
  by_cases hjk : k = j
  · subst hjk
    obtain ⟨c0, a, b⟩ := hlv
    exact ⟨k, c0, h1, a, b⟩
  · rw [List.getElem?_set_ne hjk] at h2
    exact ⟨j, d, h1, h2, h3⟩
theorem lv_set {L : Led} {k j : Nat} {c : Ct} (hlv : LvAt L k) (l : LvAt (L.set k c) j) : LvAt L j := by
  by_cases hjk : k = j
  · subst hjk; exact hlv
  · obtain ⟨d, h1, h2⟩ := l
    rw [List.getElem?_set_ne hjk] at h1
    exact ⟨d, h1, h2⟩
theorem lv_gone {L : Led} {k j : Nat} (l : LvAt (L.set k .gone) j) : k ≠ j ∧ LvAt L j := by
  obtain ⟨d, h1, h2⟩ := l
  have hk : j < L.length := by
    have := (List.getElem?_eq_some_iff.mp h1).1
    simpa using this
  by_cases hjk : k = j
  · subst hjk
    rw [List.getElem?_set_self hk] at h1
    cases h1; exact absurd rfl h2
  · rw [List.getElem?_set_ne hjk] at h1
    exact ⟨hjk, d, h1, h2⟩
/-- a thing of the ledger is written -/
theorem HS.led (I : HS K mg G F H ps L) {k : Nat} {p : Addr} {o u : HO} {c : Ct} (hk : ps[k]? = some p) (hlv : ∃ c0 : Ct, L[k]? = some c0 ∧ c0 ≠ .gone) (ho : H p = some o) (hno : ∀ x, o ≠ .own x) (hc : CtOk K mg G F (upd H p u) ps p c) : HS K mg G F (upd H p u) ps (L.set k c) := by
  have hp : p ∈ ps := List.mem_of_getElem? hk
  refine ⟨fun b w e => ?_, fun b w e => ?_, I.apart, by simp [I.len], fun i j q a b c d => I.nd i j q a b (lv_set hlv c) (lv_set hlv d), fun q hq l => I.free q hq (live_set hlv l), fun j q d hj hd => ?_⟩
  · have : b ≠ p := fun z => by rw [z, (I.free p hp (let ⟨c0, a, b⟩ := hlv; ⟨k, c0, hk, a, b⟩)).2] at e; cases e
    rw [upd_ne this]; exact I.frame b w e
  · have : b ≠ p := fun z => by rw [z, (I.free p hp (let ⟨c0, a, b⟩ := hlv; ⟨k, c0, hk, a, b⟩)).1] at e; cases e
    rw [upd_ne this]; exact I.same b w e
  · by_cases hjk : k = j
    · subst hjk
      rw [hk] at hj; cases hj
      have hl : k < L.length := by rw [← I.len]; exact (List.getElem?_eq_some_iff.mp hk).1
      rw [List.getElem?_set_self hl] at hd
      cases hd
      exact hc
    · rw [List.getElem?_set_ne hjk] at hd
      by_cases hg : d = .gone
      · subst hg
        obtain ⟨o', a⟩ := I.at_ j q _ hj hd
        by_cases hqp : q = p
        · subst hqp; exact ⟨_, upd_same⟩
        · exact ⟨o', by rw [upd_ne hqp]; exact a⟩
      · have hqp : q ≠ p := fun z => by
          subst z
          exact hjk (I.nd k j q hk hj hlv ⟨d, hd, hg⟩)
        exact (I.at_ j q d hj hd).updH hqp fun x e => by rw [ho] at e; exact absurd (Option.some.inj e) (hno x)
/-- a new thing of the ledger -/
theorem HS.push (I : HS K mg G F H ps L) {p : Addr} {u : HO} {c : Ct} (hp : H p = none) (hc : CtOk K mg G F (upd H p u) (ps ++ [p]) p c) : HS K mg G F (upd H p u) (ps ++ [p]) (L ++ [c]) ∧ Ext F ps F (ps ++ [p]) := by
  have hF : F p = none := I.same.free hp
  have hG : G p = none := I.frame.free hp
  have pn : ∀ q ∈ ps, q ≠ p := fun q hq => led_ne I hp hq
  have xx : Ext F ps F (ps ++ [p]) := ⟨Same.refl F, [p], rfl⟩
  refine ⟨⟨fun b w e => ?_, fun b w e => ?_, I.apart, by simp [I.len], ?_, fun q hq => ?_, fun j q d hj hd => ?_⟩, xx⟩
  · rw [upd_ne (ne_of_none e hG)]; exact I.frame b w e
  · rw [upd_ne (ne_of_none e hF)]; exact I.same b w e
  · intro i j q hi hj li lj
    have old : ∀ {i : Nat}, (ps ++ [p])[i]? = some q → LvAt (L ++ [c]) i → (i < ps.length ∧ ps[i]? = some q ∧ LvAt L i) ∨ (i = ps.length ∧ q = p) := fun {i} hi li => by
      by_cases h : i < ps.length
      · rw [List.getElem?_append_left h] at hi
        obtain ⟨d, h1, h2⟩ := li
        rw [List.getElem?_append_left (by rw [← I.len]; exact h)] at h1
        exact .inl ⟨h, hi, d, h1, h2⟩
      · have h2 := (List.getElem?_eq_some_iff.mp hi).1
        simp at h2
        have e : i = ps.length := by omega
        subst e
        rw [List.getElem?_append_right (Nat.le_refl _)] at hi
        simp at hi
        exact .inr ⟨rfl, hi.symm⟩
    rcases old hi li with ⟨a1, a2, a3⟩ | ⟨a1, a2⟩
    · rcases old hj lj with ⟨b1, b2, b3⟩ | ⟨b1, b2⟩
      · exact I.nd i j q a2 b2 a3 b3
      · subst b2; exact absurd rfl (pn _ (List.mem_of_getElem? a2))
    · rcases old hj lj with ⟨b1, b2, b3⟩ | ⟨b1, b2⟩
      · subst a2; exact absurd rfl (pn _ (List.mem_of_getElem? b2))
      · rw [a1, b1]
  · rcases List.mem_append.mp hq with h | h
    · intro l
      refine I.free q h ?_
      obtain ⟨j, d, h1, h2, h3⟩ := l
      by_cases hj : j < ps.length
      · rw [List.getElem?_append_left hj] at h1
        rw [List.getElem?_append_left (by rw [← I.len]; exact hj)] at h2
        exact ⟨j, d, h1, h2, h3⟩
      · rw [List.getElem?_append_right (Nat.le_of_not_lt hj)] at h1
        have := List.mem_of_getElem? h1
        simp at this
        exact absurd this (pn q h)
    · simp at h; subst h; exact fun _ => ⟨hF, hG⟩
  · by_cases hj2 : j < ps.length
    · rw [List.getElem?_append_left hj2] at hj
      rw [List.getElem?_append_left (by rw [← I.len]; exact hj2)] at hd
      have hq := pn q (List.mem_of_getElem? hj)
      have old := I.at_ j q d hj hd
      have := old.updH (p := p) (u := u) hq fun x e => by rw [hp] at e; cases e
      cases d with
      | lst xs => obtain ⟨vs, a, b, r⟩ := this; exact ⟨vs, a, b, RDs.ext xx r⟩
      | dic xs => obtain ⟨vs, a, b, r⟩ := this; exact ⟨vs, a, b, RDk.ext xx r⟩
      | obj c fs =>
        obtain ⟨C, dx, gs, a, b, c0, c1, c2, r⟩ := this
        exact ⟨C, dx, gs, a, b, c0, c1, c2, RDf.ext xx r⟩
      | gone => exact this
    · have e1 : j = ps.length := by
        have := (List.getElem?_eq_some_iff.mp hj).1
        simp at this; omega
      subst e1
      rw [List.getElem?_append_right (Nat.le_refl _)] at hj
      rw [I.len, List.getElem?_append_right (Nat.le_refl _)] at hd
      simp at hj hd
      subst hj hd
      exact hc
/-- an object of the ledger is let stand for ever -/
theorem HS.froze (I : HS K mg G F H ps L) {k : Nat} {p : Addr} {c : Str} {fs : List (Str × Dv)} (hk : ps[k]? = some p) (hL : L[k]? = some (.obj c fs)) : ∃ F', HS K mg G F' H ps (L.set k .gone) ∧ Ext F ps F' ps ∧ RD K mg F' ps (.ref p) (.obj c fs) := by
  have hp : p ∈ ps := List.mem_of_getElem? hk
  obtain ⟨C, dx, gs, a, b, c0, c1, c2, r⟩ := I.at_ k p _ hk hL
  have lv : Live ps L p := ⟨k, _, hk, hL, fun z => by cases z⟩
  have hF : F p = none := (I.free p hp lv).1
  have hdx : dx ≠ p := fun z => by rw [z, b] at c0; cases c0
  have x : Ext F ps (upd F p (.ins C dx gs)) ps := Ext.of ps fun b u e => by rw [upd_ne (ne_of_none e hF)]; exact e
  refine ⟨upd F p (.ins C dx gs), ⟨I.frame, fun b' u e => ?_, fun a' h => ?_, by simp [I.len], fun i j q a b c d => I.nd i j q a b (lv_gone c).2 (lv_gone d).2, fun q hq l => ?_, fun j q d hj hd => ?_⟩, x, .obj a upd_same (RDf.ext x r)⟩
  · by_cases hb : b' = p
    · subst hb; rw [upd_same] at e; cases e; exact b
    · rw [upd_ne hb] at e; exact I.same b' u e
  · by_cases hb : a' = p
    · subst hb; exact absurd (I.free _ hp lv).2 h
    · rw [upd_ne hb]; exact I.apart a' h
  · obtain ⟨j, d, h1, h2, h3⟩ := l
    have hjk : k ≠ j := fun z => by
      subst z
      rw [List.getElem?_set_self (List.getElem?_eq_some_iff.mp hL).1] at h2
      cases h2; exact h3 rfl
    rw [List.getElem?_set_ne hjk] at h2
    have hqp : q ≠ p := fun z => by
      subst z
      exact hjk (I.nd k j q hk h1 ⟨_, hL, fun z => by cases z⟩ ⟨d, h2, h3⟩)
    rw [upd_ne hqp]
    exact I.free q hq ⟨j, d, h1, h2, h3⟩
  · by_cases hjk : k = j
    · subst hjk
      rw [List.getElem?_set_self (List.getElem?_eq_some_iff.mp hL).1] at hd
      cases hd
      rw [hk] at hj; cases hj
      exact ⟨_, b⟩
    · rw [List.getElem?_set_ne hjk] at hd
      have old := I.at_ j q d hj hd
      cases d with
      | lst xs => obtain ⟨vs, a, b, r⟩ := old; exact ⟨vs, a, b, RDs.ext x r⟩
      | dic xs => obtain ⟨vs, a, b, r⟩ := old; exact ⟨vs, a, b, RDk.ext x r⟩
      | obj c fs =>
        obtain ⟨C', dx', gs', a', b', c0', c1', c2', r'⟩ := old
        have hd : dx' ≠ p := fun z => by rw [z, b] at c0'; cases c0'
        exact ⟨C', dx', gs', a', b', c0', by rw [upd_ne hd]; exact c1', c2', RDf.ext x r'⟩
      | gone => exact old
end
section
variable {K : PySem.W.Frag} {mg : Str → Option Value} {G0 G F H : Hp} {ps : List Addr} {L : Led}
/-- a thing of the ledger is held by the frame for a while -/
theorem HS.take (I : HS K mg G F H ps L) {k : Nat} {p : Addr} {o : HO} {c : Ct} (hk : ps[k]? = some p) (hL : L[k]? = some c) (hc : c ≠ .gone) (ho : H p = some o) (hno : ∀ x, o ≠ .own x) : HS K mg (L2.upd G p o) F H ps (L.set k .gone) := by
  have hp : p ∈ ps := List.mem_of_getElem? hk
  have lv : Live ps L p := ⟨k, _, hk, hL, hc⟩
  obtain ⟨hF, hG⟩ := I.free p hp lv
  have back : ∀ {q : Addr}, Live ps (L.set k .gone) q → q ≠ p ∧ Live ps L q := fun {q} l => by
    obtain ⟨j, d, h1, h2, h3⟩ := l
    have hjk : k ≠ j := fun z => by
      subst z
      rw [List.getElem?_set_self (List.getElem?_eq_some_iff.mp hL).1] at h2
      cases h2; exact h3 rfl
    rw [List.getElem?_set_ne hjk] at h2
    refine ⟨fun z => ?_, j, d, h1, h2, h3⟩
    subst z
    exact hjk (I.nd k j q hk h1 ⟨_, hL, hc⟩ ⟨d, h2, h3⟩)
  refine ⟨fun b u e => ?_, I.same, fun a h => ?_, by simp [I.len], fun i j q a b c d => I.nd i j q a b (lv_gone c).2 (lv_gone d).2, fun q hq l => ?_, fun j q d hj hd => ?_⟩
  · by_cases hb : b = p
    · subst hb; rw [upd_same] at e; cases e; exact ho
    · rw [upd_ne hb] at e; exact I.frame b u e
  · by_cases hb : a = p
    · subst hb; exact hF
    · rw [upd_ne hb] at h; exact I.apart a h
  · obtain ⟨n, l2⟩ := back l
    exact ⟨(I.free q hq l2).1, by rw [upd_ne n]; exact (I.free q hq l2).2⟩
  · by_cases hjk : k = j
    · subst hjk
      rw [List.getElem?_set_self (List.getElem?_eq_some_iff.mp hL).1] at hd
      cases hd
      rw [hk] at hj; cases hj
      exact ⟨_, ho⟩
    · rw [List.getElem?_set_ne hjk] at hd
      have old := I.at_ j q d hj hd
      cases d with
      | lst xs => exact old
      | dic xs => exact old
      | obj c fs =>
        obtain ⟨C', dx', gs', a', b', c0', c1', c2', r'⟩ := old
        have hd : dx' ≠ p := fun z => by rw [z, ho] at c0'; exact hno _ (Option.some.inj c0')
        exact ⟨C', dx', gs', a', b', c0', c1', by rw [upd_ne hd]; exact c2', r'⟩
      | gone => exact old
/-- .. and given back -/
theorem HS.untake (I : HS K mg G F H ps L) {k : Nat} {p : Addr} {o : HO} {c : Ct} (hk : ps[k]? = some p) (hL : L[k]? = some .gone) (hp : G p = some o) (hc : ∀ G', CtOk K mg G' F H ps p c) : HS K mg (cut G p) F H ps (L.set k c) := by
  have hpm : p ∈ ps := List.mem_of_getElem? hk
  have hF : F p = none := I.apart p (by rw [hp]; simp)
  refine ⟨fun b u e => ?_, I.same, fun a h => ?_, by simp [I.len], fun i j q a b la lb => ?_, fun q hq l => ?_, fun j q d hj hd => ?_⟩
  · by_cases hb : b = p
    · subst hb; rw [cut_same] at e; cases e
    · rw [cut_ne hb] at e; exact I.frame b u e
  · by_cases hb : a = p
    · subst hb; exact hF
    · rw [cut_ne hb] at h; exact I.apart a h
  · have lo : ∀ {i : Nat}, ps[i]? = some q → LvAt (L.set k c) i → k = i ∨ (q ≠ p ∧ LvAt L i) := fun {i} hi l => by
      by_cases hik : k = i
      · exact .inl hik
      · obtain ⟨d, h1, h2⟩ := l
        rw [List.getElem?_set_ne hik] at h1
        refine .inr ⟨fun z => ?_, d, h1, h2⟩
        subst z
        have := (I.free q (List.mem_of_getElem? hi) ⟨i, d, hi, h1, h2⟩).2
        rw [hp] at this; cases this
    rcases lo a la with e | ⟨n, l1⟩
    · subst e
      rw [hk] at a; cases a
      rcases lo b lb with e | ⟨n, _⟩
      · exact e
      · exact absurd rfl n
    · rcases lo b lb with e | ⟨_, l2⟩
      · subst e
        rw [hk] at b; cases b; exact absurd rfl n
      · exact I.nd i j q a b l1 l2
  · by_cases hqp : q = p
    · subst hqp; exact ⟨hF, cut_same⟩
    · obtain ⟨j, d, h1, h2, h3⟩ := l
      have hjk : k ≠ j := fun z => by subst z; rw [hk] at h1; exact hqp (Option.some.inj h1).symm
      rw [List.getElem?_set_ne hjk] at h2
      rw [cut_ne hqp]
      exact I.free q hq ⟨j, d, h1, h2, h3⟩
  · by_cases hjk : k = j
    · subst hjk
      rw [List.getElem?_set_self (List.getElem?_eq_some_iff.mp hL).1] at hd
      cases hd
      rw [hk] at hj; cases hj
      exact hc _
    · rw [List.getElem?_set_ne hjk] at hd
      have old := I.at_ j q d hj hd
      cases d with
      | lst xs => exact old
      | dic xs => exact old
      | obj c fs =>
        obtain ⟨C', dx', gs', a', b', c0', c1', c2', r'⟩ := old
        refine ⟨C', dx', gs', a', b', c0', c1', ?_, r'⟩
        by_cases hd : dx' = p
        · subst hd; exact cut_same
        · rw [cut_ne hd]; exact c2'
      | gone => exact old
end
/-! ### [..] as a thing of the ledger -/
def dLstO (fr : DM (List Sv)) : DM Sv := fun ρ L => (fr ρ L).bind fun ss L1 => match vals ss with
  | some ds => if ds.length ≤ sizeLine then .ok (.val (.own L1.length)) (L1 ++ [.lst ds]) else .bad
  | none => .bad
section
variable {X : Cx} {W : WX} {es : List Expr} {fr : DM (List Sv)} {pos : Pos}
theorem de_lstO (h : DA X W es fr) : DE X W (.List es pos) (dLstO fr) := imE (pe_lst h) fun σ H Q h => by
  obtain ⟨G0, G, F, ps, ρ, L, g0, I, S, h⟩ := h
  refine ⟨G0, G, F, ps, ρ, L, g0, I, S, Res.wp_mono (Res.wp_bind h) (fun ss L1 h1 vs F1 H1 p1 x1 I1 r1 => ?_) fun e r L' q => q⟩
  split at h1
  · rename_i ds hv
    split at h1
    · rename_i hz
      have r2 := vals_ok hv r1
      have z2 : vs.length ≤ sizeLine := by rw [r2.length]; exact hz
      refine ⟨z2, fun p hp => ?_⟩
      have xx : Ext F1 p1 F1 (p1 ++ [p]) := ⟨Same.refl F1, [p], rfl⟩
      obtain ⟨I2, x2⟩ := I1.push (u := .lst vs) (c := .lst ds) hp ⟨vs, upd_same, z2, r2.ext xx⟩
      exact h1 _ _ _ _ (x1.trans x2) I2 (.own (by rw [← I1.len]; simp))
    · exact h1.elim
  · exact h1.elim
end
/-! ### dict displays -/
def putD (ks : List (Key × Dv)) (k : Key) (d : Dv) : List (Key × Dv) := if (ks.any fun kv => decide (kv.1 = k)) = true then ks.map (fun kv => if kv.1 = k then (kv.1, d) else kv) else ks ++ [(k, d)]
def mergeD (ks more : List (Key × Dv)) : List (Key × Dv) := more.foldl (fun acc kv => putD acc kv.1 kv.2) ks
def dPairs : List (DM Sv × DM Sv) → DM (List (Sv × Sv))
  | [], _, L => .ok [] L
  | (fk, fv) :: r, ρ, L => (fk ρ L).bind fun x L1 => (fv ρ L1).bind fun y L2 => (dPairs r ρ L2).bind fun ps L3 => .ok ((x, y) :: ps) L3
def keyd : List (Sv × Sv) → Option (List (Key × Dv))
  | [] => some []
  | (a, .val d) :: r => match a.key, keyd r with
    | some k, some ks => some ((k, d) :: ks)
    | _, _ => none
  | _ => none
section
variable {K : PySem.W.Frag} {mg : Str → Option Value} {G0 G F H : Hp} {ps : List Addr} {L : Led} {σ : List (Option V)} {ρ : Slo} {W : WX}
abbrev PrsOk (K : PySem.W.Frag) (mg : Str → Option Value) (G F : Hp) (ps : List Addr) : List (V × V) → List (Sv × Sv) → Prop := Paired fun p q => XvOk K mg G F ps p.1 q.1 ∧ XvOk K mg G F ps p.2 q.2
theorem tPairs_of : ∀ {fs : List (DM Sv × DM Sv)} {F H : Hp} {ps : List Addr} {L : Led} {Q : List (V × V) → Hp → Prop}, Same G0 G → HS K mg G F H ps L → Slots K mg G0 G F ps σ ρ →
    (dPairs fs ρ L).wp (fun prs L' => ∀ F' H' ps' vs, Ext F ps F' ps' → HS K mg G F' H' ps' L' → PrsOk K mg G F' ps' vs prs → Q vs H') (EE K mg G0 F ps W) → tPairs (fs.map fun f => (tE K mg W f.1, tE K mg W f.2)) σ H Q
  | [], F, H, ps, L, Q, g0, I, S, h => h F H ps [] (Ext.refl _ _) I .nil
  | (fk, fv) :: r, F, H, ps, L, Q, g0, I, S, h => by
    refine tE_unf g0 I S (Res.wp_bind h) (fun x L1 h1 v F1 H1 p1 x1 I1 r1 => ?_) fun e r L' q => q
    refine tE_unf g0 I1 (S.ext x1) (Res.wp_bind h1) (fun y L2 h2 v2 F2 H2 p2 x2 I2 r2 => ?_) fun e r L' q => EE.ext x1 q
    refine tPairs_of g0 I2 ((S.ext x1).ext x2) (Res.wp_mono (Res.wp_bind h2) (fun prs L3 h3 F3 H3 p3 vs x3 I3 r3 => ?_) fun e r L' q => EE.ext (x1.trans x2) q)
    exact h3 F3 H3 p3 _ (x1.trans (x2.trans x3)) I3 (.cons ⟨r1.ext (x2.trans x3), r2.ext x3⟩ r3)
theorem keyd_rel {F : Hp} {ps : List Addr} : ∀ {prs : List (Sv × Sv)} {ks : List (Key × Dv)} {vs : List (V × V)}, keyd prs = some ks → PrsOk K mg G F ps vs prs → ∃ ws : List (Key × V), vs = ws.map (fun kv => (kV kv.1, kv.2)) ∧ RDk K mg F ps ws ks
  | [], _, _, e, .nil => by cases e; exact ⟨[], rfl, .nil⟩
  | (a, s) :: prs, ks, _, e, .cons (a := w0) h r => by
    unfold keyd at e
    split at e
    · rename_i z; cases z
    · rename_i a' d' r' z
      cases z
      split at e
      · rename_i k ks' hk hks
        cases e
        obtain ⟨ws, e1, rr⟩ := keyd_rel hks r
        obtain ⟨e2, z2⟩ := xv_key h.1 hk
        refine ⟨(k, w0.2) :: ws, ?_, .cons z2 h.2 rr⟩
        rw [e1, List.map_cons, ← e2]
      · cases e
    · cases e
theorem RDk.append {F : Hp} {ps : List Addr} : ∀ {ws ws' : List (Key × V)} {ks ks' : List (Key × Dv)}, RDk K mg F ps ws ks → RDk K mg F ps ws' ks' → RDk K mg F ps (ws ++ ws') (ks ++ ks')
  | _, _, _, _, .nil, s => s
  | _, _, _, _, .cons z h r, s => .cons z h (RDk.append r s)
theorem RDk.any {F : Hp} {ps : List Addr} (k : Key) : ∀ {ws : List (Key × V)} {ks : List (Key × Dv)}, RDk K mg F ps ws ks → (ws.any fun kv => decide (kv.1 = k)) = ks.any fun kv => decide (kv.1 = k)
  | _, _, .nil => rfl
  | _, _, .cons z h r => by rw [List.any_cons, List.any_cons, RDk.any k r]
theorem RDk.mapPut {F : Hp} {ps : List Addr} (k : Key) {v : V} {d : Dv} (hv : RD K mg F ps v d) : ∀ {ws : List (Key × V)} {ks : List (Key × Dv)}, RDk K mg F ps ws ks → RDk K mg F ps (ws.map fun kv => if kv.1 = k then (kv.1, v) else kv) (ks.map fun kv => if kv.1 = k then (kv.1, d) else kv)
  | _, _, .nil => .nil
  | _, _, .cons (k := k2) z h r => by
    rw [List.map_cons, List.map_cons]
    by_cases e : k2 = k
    · rw [if_pos e, if_pos e]; exact .cons z hv (RDk.mapPut k hv r)
    · rw [if_neg e, if_neg e]; exact .cons z h (RDk.mapPut k hv r)
theorem RDk.put {F : Hp} {ps : List Addr} {ws : List (Key × V)} {ks : List (Key × Dv)} {k : Key} {v : V} {d : Dv} (r : RDk K mg F ps ws ks) (hz : ∀ x, k = .inr x → x.length ≤ sizeLine) (hv : RD K mg F ps v d) : RDk K mg F ps (putK ws k v) (putD ks k d) := by
  unfold putK putD
  rw [RDk.any k r]
  split
  · exact r.mapPut k hv
  · exact r.append (.cons hz hv .nil)
theorem RDk.merge {F : Hp} {ps : List Addr} : ∀ {more : List (Key × V)} {more' : List (Key × Dv)} {ws : List (Key × V)} {ks : List (Key × Dv)}, RDk K mg F ps more more' → RDk K mg F ps ws ks → RDk K mg F ps (mergeK ws more) (mergeD ks more')
  | _, _, _, _, .nil, s => s
  | _, _, ws, ks, .cons (k := k) (v := v) (vs := vs) (d := d) (ds := ds) z h r, s => show RDk K mg F ps (mergeK (putK ws k v) vs) (mergeD (putD ks k d) ds) from RDk.merge r (s.put z h)
theorem mergeD_len : ∀ (more ks : List (Key × Dv)), (mergeD ks more).length ≤ ks.length + more.length
  | [], ks => by show ks.length ≤ ks.length + 0; omega
  | p :: r, ks => by
    have h1 := mergeD_len r (putD ks p.1 p.2)
    have h2 : (putD ks p.1 p.2).length ≤ ks.length + 1 := by
      unfold putD
      split
      · simp
      · simp
    show (mergeD (putD ks p.1 p.2) r).length ≤ _
    rw [List.length_cons]; omega
end
/-- what a display gives -/
def dDisp {α : Type} (fs : List (DM Sv × DM Sv)) (k : List (Key × Dv) → DM α) : DM α := fun ρ L => (dPairs fs ρ L).bind fun prs L1 => match keyd prs with
  | some ks => if ks.length ≤ 15 then k (mergeD [] ks) ρ L1 else .bad
  | none => .bad
def dDic (fs : List (DM Sv × DM Sv)) : DM Sv := dDisp fs fun ks _ L => .ok (.val (.dic ks)) L
def dDicO (fs : List (DM Sv × DM Sv)) : DM Sv := dDisp fs fun ks _ L => .ok (.val (.own L.length)) (L ++ [.dic ks])
section
variable {X : Cx} {W : WX} {pos : Pos} {keys : List (Option Expr)} {values : List Expr} {fs : List (DM Sv × DM Sv)}
abbrev DPs (X : Cx) (W : WX) (pos : Pos) (keys : List (Option Expr)) (values : List Expr) (fs : List (DM Sv × DM Sv)) : Prop := PPs X pos keys values (fs.map fun f => (tE X.K X.mg' W f.1, tE X.K X.mg' W f.2))
theorem dps_nil : DPs X W pos [] [] [] := pps_nil
theorem dps_cons {k v : Expr} {ks : List (Option Expr)} {vs : List Expr} {fk fv : DM Sv} (hk : DE X W k fk) (hv : DE X W v fv) (hr : DPs X W pos ks vs fs) : DPs X W pos (some k :: ks) (v :: vs) ((fk, fv) :: fs) := pps_cons hk hv hr
/-- a display's new dict, at the end: held in the frame at p -/
theorem disp_of {α : Type} {K : PySem.W.Frag} {mg : Str → Option Value} {σ : List (Option V)} {H : Hp} {Q : VK} {k : List (Key × Dv) → DM α} {G0 G F : Hp} {ps : List Addr} {ρ : Slo} {L : Led} {P : α → Led → Prop} (g0 : Same G0 G) (I : HS K mg G F H ps L) (S : Slots K mg G0 G F ps σ ρ)
    (h : (dDisp fs k ρ L).wp P (EE K mg G0 F ps W))
    (hQ : ∀ ks L1 F1 H1 p1 ws p, (k ks ρ L1).wp P (EE K mg G0 F ps W) → Ext F ps F1 p1 → G p = none → F1 p = none → HS K mg (upd G p (.dK ws)) F1 H1 p1 L1 → H1 p = some (.dK ws) → ws.length ≤ sizeLine → RDk K mg F1 p1 ws ks → Q (.ref p) H1) : tDisp (fs.map fun f => (tE K mg W f.1, tE K mg W f.2)) σ H Q := by
  intro p hp
  have gp : G p = none := I.frame.free hp
  have sG : ∀ u : HO, Same G (upd G p u) := fun u b o e => by rw [upd_ne (ne_of_none e gp)]; exact e
  refine tPairs_of (g0.trans (sG _)) (I.hold hp) (S.gr (sG _)) (Res.wp_mono (Res.wp_bind h) (fun prs L1 h1 F1 H1 p1 vs x1 I1 r1 => ?_) fun e r L' q => q)
  split at h1
  · rename_i ks hk
    split at h1
    · rename_i hz
      obtain ⟨ws, e1, rr⟩ := keyd_rel hk r1
      have hl : ws.length ≤ 15 := by rw [rr.length]; exact hz
      refine ⟨I1.frame _ _ upd_same, ws, e1, hl, ?_⟩
      have I2 := I1.write (u := .dK (mergeK [] ws)) (upd_same (H := G)) fun _ q => by cases q
      have e0 : ∀ b o, upd G p (.dK (mergeK [] ws)) b = some o → upd (upd G p (.dK [])) p (.dK (mergeK [] ws)) b = some o := fun b o e => by
        by_cases hb : b = p
        · subst hb; rw [upd_same] at e ⊢; exact e
        · rw [upd_ne hb] at e; rw [upd_ne hb, upd_ne hb]; exact e
      refine hQ _ L1 F1 _ p1 (mergeK [] ws) p h1 x1 gp ?_ (I2.weak e0) upd_same ?_ (RDk.merge rr .nil)
      · exact I1.apart p (by rw [upd_same]; simp)
      · have := length_mergeK ws []
        rw [sizeLine_eq]
        simp at this; omega
    · exact h1.elim
  · exact h1.elim
theorem de_dic (h : DPs X W pos keys values fs) (hall : keys.all (·.isSome) = true) (hl : keys.length = values.length) (h0 : keys ≠ []) (h15 : keys.length ≤ 15) : DE X W (.Dict keys values pos) (dDic fs) :=
  imE (pe_lk (pe_disp h hall hl h0 h15)) fun σ H Q h => by
    obtain ⟨G0, G, F, ps, ρ, L, g0, I, S, h⟩ := h
    refine disp_of g0 I S h fun ks L1 F1 H1 p1 ws p h1 x1 gp fp I1 hp z rr => ?_
    refine .inr ⟨p, .dK ws, hp, trivial, fun od => ?_⟩
    have I3 := I1.write (u := .frz od (.dK ws)) (upd_same (H := G)) fun _ q => by cases q
    obtain ⟨I2, x2⟩ := I3.frz (upd_same (H := upd G p (.dK ws)))
    refine h1 _ _ _ p1 (x1.trans x2) (I2.weak fun b o e => ?_) (.dic upd_same z (RDk.ext x2 rr))
    rw [cut_ne (ne_of_none e gp), upd_ne (ne_of_none e gp), upd_ne (ne_of_none e gp)]; exact e
theorem de_dic0 : DE X W (.Dict [] [] pos) (fun _ L => .ok (.val (.dic [])) L) := imE (pe_lk pe_dnewK) fun σ H Q h => by
  obtain ⟨G0, G, F, ps, ρ, L, g0, I, S, h⟩ := h
  intro p hp
  refine .inr ⟨p, .dK [], upd_same, trivial, fun od => ?_⟩
  rw [upd_upd]
  obtain ⟨I2, x2, _⟩ := I.grow (o := .frz od (.dK [])) hp
  exact h _ _ _ _ x2 I2 (.dic upd_same (Nat.zero_le _) .nil)
end
end DL

/-! DL, part 13: targets, parallel stores. -/
namespace DL
open PySem PySem.Spec PyProof.Rows L2
theorem PSet.or {X : Cx} {r r' : TSet} (h : PSet X r) (h' : PSet X r') : PSet X (fun o i v H Q => r o i v H Q ∨ r' o i v H Q) := by
  intro pins s σ H o i v ov iv u Q I ro ri rv q
  rcases q with q | q
  · exact h pins s σ H o i v ov iv u Q I ro ri rv q
  · exact h' pins s σ H o i v ov iv u Q I ro ri rv q
def rSet2 : TSet := fun o i v H Q => rSetL o i v H Q ∨ rSetD o i v H Q
theorem pset2 {X : Cx} (hu : X.A.units + 1 < cLine) : PSet X rSet2 := PSet.or set_list (set_dict hu)
/-! ### o[i] = v, o a thing of the ledger -/
def setLed (o i s : Sv) (L : Led) : Option Led := match o, s with
  | .val (.own k), .val d => match L[k]? with
    | some (.lst xs) => match i with
      | .val (.int j) => (ixN xs.length j).map fun m => L.set k (.lst (xs.set m d))
      | _ => none
    | some (.dic ks) => match i.key with
      | some key => if ks.length < sizeLine then some (L.set k (.dic (putD ks key d))) else none
      | none => none
    | _ => none
  | _, _ => none
def gSt (fo fi : DM Sv) : Sv → DM Slo := fun s ρ L => noErr ((fo ρ L).bind fun o L1 => (fi ρ L1).bind fun i L2 => match setLed o i s L2 with
  | some L3 => .ok ρ L3
  | none => .bad)
section
variable {K : PySem.W.Frag} {mg : Str → Option Value} {G0 G F H : Hp} {ps : List Addr} {L : Led} {σ : List (Option V)} {ρ : Slo} {W : WX}
theorem putK_len {ws : List (Key × V)} {k : Key} {v : V} (h : ws.length < sizeLine) : (putK ws k v).length ≤ sizeLine := by
  have := length_putK ws k v
  omega
theorem putD_len (ks : List (Key × Dv)) (k : Key) (d : Dv) : (putD ks k d).length ≤ ks.length + 1 := by
  unfold putD
  split <;> simp
theorem set_of {o i v : V} {so si s : Sv} {L' : Led} {Q : Hp → Prop} (I : HS K mg G F H ps L) (ro : XvOk K mg G F ps o so) (ri : XvOk K mg G F ps i si) (rv : XvOk K mg G F ps v s) (e : setLed so si s L = some L') (q : ∀ H', HS K mg G F H' ps L' → Q H') : rSet2 o i v H Q := by
  unfold setLed at e
  split at e
  · rename_i k d
    obtain ⟨p, rfl, hp⟩ := xv_own ro
    split at e
    · rename_i xs hL
      obtain ⟨vs, hv, z, rs⟩ := I.at_ k p _ hp hL
      split at e
      · rename_i j
        rw [xv_int ri]
        cases hx : ixN xs.length j with
        | none => rw [hx] at e; cases e
        | some m =>
          rw [hx] at e; cases e
          refine .inl ⟨p, vs, j, m, rfl, rfl, hv, by rw [rs.length]; exact hx, q _ ?_⟩
          exact I.led hp ⟨_, hL, fun z => by cases z⟩ hv (fun _ z => by cases z) ⟨_, upd_same, by rw [List.length_set]; exact z, rs.set m rv⟩
      · cases e
    · rename_i ks hL
      obtain ⟨ws, hv, z, rs⟩ := I.at_ k p _ hp hL
      split at e
      · rename_i key hk
        split at e
        · rename_i hz
          cases e
          obtain ⟨rfl, zk⟩ := xv_key ri hk
          have hz2 : ws.length < sizeLine := by rw [rs.length]; exact hz
          refine .inr ⟨p, _, rfl, .inl ⟨ws, key, hv, rfl, hz2, rfl⟩, q _ ?_⟩
          exact I.led hp ⟨_, hL, fun z => by cases z⟩ hv (fun _ z => by cases z) ⟨_, upd_same, putK_len hz2, rs.put zk rv⟩
        · cases e
      · cases e
    · cases e
  · cases e
end
theorem noErr_ne {α : Type} {r : Res α} {e : Exn} {s : Slo} {L : Led} : noErr r ≠ .err e s L := by
  cases r <;> intro q <;> cases q
theorem gSt_ne {fo fi : DM Sv} : ∀ s ρ L e r L', gSt fo fi s ρ L ≠ .err e r L' := fun _ _ _ _ _ _ => noErr_ne
section
variable {X : Cx} {W : WX} {o i : Expr} {fo fi : DM Sv} {pos : Pos}
theorem dg_sub (hu : X.A.units + 1 < cLine) (ho : DE X W o fo) (hi : DE X W i fi)
    (ha : ∀ v, assign (.Subscript o i pos) X.env v = (do
      let ov ← holding [v] (eval o X.env)
      let iv ← holding [v, ov] (eval i X.env)
      standAt pos
      holding [v, ov, iv] (setItem ov iv v)
      release [v, ov, iv] []) := by intro _; rfl) : DG X (.Subscript o i pos) (gSt fo fi) :=
  imG (pg_sub ho hi (pset2 hu) ha) fun v σ H Q h => by
    obtain ⟨G0, G, F, ps, ρ, L, s, g0, I, S, r, h⟩ := h
    refine tE_unf (W := W) (E := fun _ _ _ => False) g0 I S (Res.wp_bind (noErr_wp h)) (fun so L1 h1 ov F1 H1 p1 x1 I1 r1 => ?_) fun e r L' q => q.elim
    refine tE_unf (W := W) (E := fun _ _ _ => False) g0 I1 (S.ext x1) (Res.wp_bind h1) (fun si L2 h2 iv F2 H2 p2 x2 I2 r2 => ?_) fun e r L' q => q.elim
    split at h2
    · rename_i L3 hl
      have xx := x1.trans x2
      exact set_of I2 (r1.ext x2) r2 (r.ext xx) hl fun H' I' => h2 σ G F2 H' p2 g0 xx I' (S.ext xx)
    · exact h2.elim
end
/-! ### tuples of any targets -/
def tGts (K : PySem.W.Frag) (mg : Str → Option Value) (g : List Dv → DM Slo) : TGs := fun vs σ H Q => ∃ G0 G F ps ρ L ds, Same G0 G ∧ HS K mg G F H ps L ∧ Slots K mg G0 G F ps σ ρ ∧ RDs K mg F ps vs ds ∧
  (g ds ρ L).wp (fun r L' => ∀ σ' G' F' H' ps', Same G0 G' → Ext F ps F' ps' → HS K mg G' F' H' ps' L' → Slots K mg G0 G' F' ps' σ' r → Q σ' H') (fun _ _ _ => False)
abbrev DGs (X : Cx) (es : List Expr) (g : List Dv → DM Slo) : Prop := PGs X es (tGts X.K X.mg' g)
def gs0 : List Dv → DM Slo := fun ds ρ L => match ds with
  | [] => .ok ρ L
  | _ => .bad
def gsC (g : Sv → DM Slo) (gs : List Dv → DM Slo) : List Dv → DM Slo := fun ds ρ L => match ds with
  | d :: ds => (g (.val d) ρ L).bind fun r L1 => gs ds r L1
  | [] => .bad
def gTup' (n : Nat) (gs : List Dv → DM Slo) : Sv → DM Slo := fun s ρ L => match s with
  | .val (.tup ds) => if ds.length = n then noErr (gs ds ρ L) else .bad
  | _ => .bad
theorem imGs {X : Cx} {es : List Expr} {t t' : TGs} (p : PGs X es t) (h : ∀ v σ H Q, t' v σ H Q → t v σ H Q) : PGs X es t' := ⟨fun pins s σ H vs us Q I r w => p.run pins s σ H vs us Q I r (h vs σ H Q w)⟩
section
variable {X : Cx} {e : Expr} {es : List Expr} {g : Sv → DM Slo} {gs : List Dv → DM Slo} {pos : Pos}
theorem dgs_nil : DGs X [] gs0 := imGs pgs_nil fun vs σ H Q h => by
  obtain ⟨G0, G, F, ps, ρ, L, ds, g0, I, S, r, h⟩ := h
  cases r with
  | nil => exact ⟨rfl, h σ G F H ps g0 (Ext.refl _ _) I S⟩
  | cons _ _ => exact h.elim
theorem dgs_cons (h1 : DG X e g) (h2 : DGs X es gs) (hs : (assignEach (e :: es) X.env).map (·.2) = assign e X.env :: (assignEach es X.env).map (·.2)) : DGs X (e :: es) (gsC g gs) := imGs (pgs_cons h1 h2 hs) fun vs σ H Q h => by
  obtain ⟨G0, G, F, ps, ρ, L, ds, g0, I, S, r, h⟩ := h
  cases r with
  | nil => exact h.elim
  | cons r rr =>
    refine ⟨_, _, rfl, G0, G, F, ps, ρ, L, Sv.val _, g0, I, S, r, Res.wp_mono (Res.wp_bind h) (fun r1 L1 h1 σ1 G1 F1 H1 p1 g1 x1 I1 S1 => ?_) fun _ _ _ q => q⟩
    exact ⟨G0, G1, F1, p1, r1, L1, _, g1, I1, S1, RDs.ext x1 rr, Res.wp_mono h1 (fun r2 L2 h2 σ2 G2 F2 H2 p2 g2 x2 I2 S2 => h2 σ2 G2 F2 H2 p2 g2 (x1.trans x2) I2 S2) fun _ _ _ q => q⟩
theorem dg_tupG {k n : Nat} (hc : X.calm = true) (h : DGs X es gs) (hn : (assignEach es X.env).length = n := by rfl) (hst : (assignEach es X.env).findIdx? (·.1) = none := by rfl) : DG X (.Tuple es k pos) (gTup' n gs) :=
  imG (pg_tup (n := n) hc h hn hst) fun v σ H Q h => by
    obtain ⟨G0, G, F, ps, ρ, L, s, g0, I, S, r, h⟩ := h
    unfold gTup' at h
    split at h
    · split at h
      · rename_i hl
        obtain ⟨p, vs, rfl, fp, hp, z, rs⟩ := xv_tup I r
        exact ⟨p, vs, rfl, SqT.of hp, by rw [rs.length]; exact hl, G0, G, F, ps, ρ, L, _, g0, I, S, rs, noErr_wp h⟩
      · exact h.elim
    · exact h.elim
theorem gTup'_ne {n : Nat} : ∀ s ρ L e r L', gTup' n gs s ρ L ≠ .err e r L' := fun s ρ L e r L' q => by
  unfold gTup' at q
  split at q
  · split at q
    · exact noErr_ne q
    · cases q
  · cases q
end
/-! ### a, b = x, y: some of the values new things of the frame's own -/
inductive Pit where
  | e (f : DM Sv) | l (f : DM (List Sv)) | d0
def dPm : List Pit → DM (List Sv)
  | [], _, L => .ok [] L
  | .e f :: r, ρ, L => (f ρ L).bind fun s L1 => match s with
    | .val d => (dPm r ρ L1).bind fun ss L2 => .ok (.val d :: ss) L2
    | _ => .bad
  | .l f :: r, ρ, L => (f ρ L).bind fun zs L1 => match vals zs with
    | some ds => if ds.length ≤ sizeLine then (dPm r ρ L1).bind fun ss L2 => .ok (.mu ds :: ss) L2 else .bad
    | none => .bad
  | .d0 :: r, ρ, L => (dPm r ρ L).bind fun ss L2 => .ok (.muD [] :: ss) L2
section
variable {K : PySem.W.Frag} {mg : Str → Option Value} {G0 G F H : Hp} {ps : List Addr} {L : Led} {σ τ σ' : List (Option V)} {ρ υ ρ' : Slo} {W : WX}
theorem Slots.map (S : Slots K mg G0 G F ps σ ρ) (f : Nat → Nat) (hl : ρ'.length = σ'.length) (h : ∀ j s, ρ'[j]? = some (some s) → ρ[f j]? = some (some s) ∧ σ'[j]? = σ[f j]?) (hi : ∀ i j, f i = f j → i = j) : Slots K mg G0 G F ps σ' ρ' := by
  refine ⟨hl, fun i s e => ?_, fun i j s t v hi2 hj2 m1 m2 h1 h2 => ?_⟩
  · obtain ⟨a, b⟩ := h i s e
    rw [b]; exact S.at_ _ s a
  · obtain ⟨a, b⟩ := h i s hi2
    obtain ⟨c, d⟩ := h j t hj2
    exact hi _ _ (S.sep _ _ s t v a c m1 m2 (b.symm.trans h1) (d.symm.trans h2))
theorem Slots.pre (S : Slots K mg G0 G F ps (σ ++ τ) (ρ ++ υ)) (hl : ρ.length = σ.length) : Slots K mg G0 G F ps σ ρ :=
  S.map id hl (fun j s e => by
    have hj : j < ρ.length := (List.getElem?_eq_some_iff.mp e).1
    exact ⟨by rw [id, List.getElem?_append_left hj]; exact e, by rw [id, List.getElem?_append_left (by omega)]⟩) fun _ _ e => e
theorem Slots.mv {v : V} {s : Sv} {i : Nat} (S : Slots K mg G0 G F ps (σ ++ some v :: τ) (ρ ++ some s :: υ)) (hl : ρ.length = σ.length) (hi : i < σ.length) : Slots K mg G0 G F ps (σ.set i (some v) ++ τ) (ρ.set i (some s) ++ υ) := by
  have hlen := S.len
  refine S.map (fun j => if j = i then σ.length else if j < σ.length then j else j + 1) (by simp at hlen ⊢; omega) (fun j t e => ?_) fun a b e => ?_
  · by_cases h : j = i
    · subst h
      rw [List.getElem?_append_left (by simp; omega), List.getElem?_set_self (by omega)] at e
      cases e
      simp only [if_true]
      refine ⟨?_, ?_⟩
      · rw [← hl, List.getElem?_append_right (Nat.le_refl _)]; simp
      · rw [List.getElem?_append_left (by simp; omega), List.getElem?_set_self hi, List.getElem?_append_right (Nat.le_refl _)]; simp
    · simp only [if_neg h]
      by_cases h2 : j < σ.length
      · simp only [if_pos h2]
        rw [List.getElem?_append_left (by simp; omega), List.getElem?_set_ne (Ne.symm h)] at e
        refine ⟨by rw [List.getElem?_append_left (by omega)]; exact e, ?_⟩
        rw [List.getElem?_append_left (by simp; omega), List.getElem?_set_ne (Ne.symm h), List.getElem?_append_left h2]
      · simp only [if_neg h2]
        rw [List.getElem?_append_right (by simp; omega)] at e
        refine ⟨?_, ?_⟩
        · rw [List.getElem?_append_right (by omega), show j + 1 - ρ.length = (j - ρ.length) + 1 by omega, List.getElem?_cons_succ]
          simpa using e
        · rw [List.getElem?_append_right (by simp; omega), List.getElem?_append_right (by omega), show j + 1 - σ.length = (j - σ.length) + 1 by omega, List.getElem?_cons_succ]
          simp
  · split at e <;> split at e <;> (try split at e) <;> (try split at e) <;> omega
theorem Slots.snoc {v : V} {d : Dv} (S : Slots K mg G0 G F ps σ ρ) (r : RD K mg F ps v d) : Slots K mg G0 G F ps (σ ++ [some v]) (ρ ++ [some (.val d)]) := by
  have hl := S.len
  refine ⟨by simp [hl], fun i s e => ?_, fun i j s t u hi hj m1 m2 h1 h2 => ?_⟩
  · by_cases h : i < ρ.length
    · rw [List.getElem?_append_left h] at e
      rw [List.getElem?_append_left (by omega)]
      exact S.at_ i s e
    · have h2 := (List.getElem?_eq_some_iff.mp e).1
      simp at h2
      have e2 : i = ρ.length := by omega
      subst e2
      rw [List.getElem?_append_right (Nat.le_refl _)] at e
      simp at e; subst e
      exact ⟨v, by rw [hl, List.getElem?_append_right (Nat.le_refl _)]; simp, r⟩
  · have lt : ∀ {i : Nat} {s : Sv}, (ρ ++ [some (.val d)])[i]? = some (some s) → s.isMut = true → i < ρ.length := fun {i s} hi m => by
      by_cases h : i < ρ.length
      · exact h
      · have h2 := (List.getElem?_eq_some_iff.mp hi).1
        simp at h2
        have e2 : i = ρ.length := by omega
        subst e2
        rw [List.getElem?_append_right (Nat.le_refl _)] at hi
        simp at hi; subst hi; cases m
    have a := lt hi m1
    have b := lt hj m2
    rw [List.getElem?_append_left a] at hi
    rw [List.getElem?_append_left b] at hj
    rw [List.getElem?_append_left (by omega)] at h1
    rw [List.getElem?_append_left (by omega)] at h2
    exact S.sep i j s t u hi hj m1 m2 h1 h2
theorem Slots.snocM {p : Addr} {u : HO} {s : Sv} (S : Slots K mg G0 G F ps σ ρ) (hp : G p = none) (g0 : Same G0 G) (r : SvOk K mg G0 (upd G p u) F ps (.ref p) s) (hs : s.isMut = true) : Slots K mg G0 (upd G p u) F ps (σ ++ [some (.ref p)]) (ρ ++ [some s]) := by
  have hl := S.len
  have S2 : Slots K mg G0 G F ps (σ ++ [none]) (ρ ++ [none]) := by
    refine S.map id (by simp [hl]) (fun j s e => ?_) fun _ _ e => e
    by_cases h : j < ρ.length
    · rw [List.getElem?_append_left h] at e
      exact ⟨e, by rw [id, List.getElem?_append_left (by omega)]⟩
    · have h2 := (List.getElem?_eq_some_iff.mp e).1
      simp at h2
      have e2 : j = ρ.length := by omega
      subst e2
      rw [List.getElem?_append_right (Nat.le_refl _)] at e
      simp at e
  have S3 := S2.own (i := σ.length) hp g0 r hs
  have e1 : (σ ++ [none]).set σ.length (some (V.ref p)) = σ ++ [some (.ref p)] := by
    rw [List.set_append_right _ _ (Nat.le_refl _)]; simp
  have e2 : (ρ ++ [none]).set σ.length (some s) = ρ ++ [some s] := by
    rw [← hl, List.set_append_right _ _ (Nat.le_refl _)]; simp
  rw [e1, e2] at S3
  exact S3
end
def tPm (K : PySem.W.Frag) (mg : Str → Option Value) (W : WX) (f : DM (List Sv)) : TA := fun σ H Q => ∃ G0 G F ps ρ L τ υ, Same G0 G ∧ HS K mg G F H ps L ∧ Slots K mg G0 G F ps (σ ++ τ) (ρ ++ υ) ∧ ρ.length = σ.length ∧
  (f ρ L).wp (fun ss L' => ∀ vs G' F' H' ps', Same G0 G' → Ext F ps F' ps' → HS K mg G' F' H' ps' L' → Slots K mg G0 G' F' ps' (σ ++ (τ ++ vs.map some)) (ρ ++ (υ ++ ss.map some)) → vs.length = ss.length → Q vs H') (EE K mg G0 F ps W)
abbrev DPm (X : Cx) (W : WX) (es : List Expr) (is : List Pit) : Prop := PA X es (tPm X.K X.mg' W (dPm is))
section
variable {X : Cx} {W : WX} {e : Expr} {es : List Expr} {r : List Pit} {f : DM Sv} {fl : DM (List Sv)} {pos : Pos}
theorem dpm_nil : DPm X W [] [] := imA pa_nil fun σ H Q h => by
  obtain ⟨G0, G, F, ps, ρ, L, τ, υ, g0, I, S, hl, h⟩ := h
  exact h [] G F H ps g0 (Ext.refl _ _) I (by simpa using S) rfl
theorem dpm_e (he : DE X W e f) (hr : DPm X W es r) (hs : starEach (e :: es) X.env = (false, eval e X.env) :: starEach es X.env := by rfl) : DPm X W (e :: es) (.e f :: r) := imA (pa_cons he hr hs) fun σ H Q h => by
  obtain ⟨G0, G, F, ps, ρ, L, τ, υ, g0, I, S, hl, h⟩ := h
  refine tE_unf g0 I (S.pre hl) (Res.wp_bind h) (fun s L1 h1 v F1 H1 p1 x1 I1 r1 => ?_) fun e r L' q => q
  split at h1
  · rename_i d
    have S1 := (S.ext x1).snoc r1
    rw [List.append_assoc, List.append_assoc] at S1
    refine ⟨G0, G, F1, p1, ρ, L1, τ ++ [some v], υ ++ [some (.val d)], g0, I1, S1, hl, Res.wp_mono (Res.wp_bind h1) (fun ss L2 h2 vs G2 F2 H2 p2 g2 x2 I2 S2 hv => ?_) fun e r L' q => EE.ext x1 q⟩
    refine h2 (v :: vs) G2 F2 H2 p2 g2 (x1.trans x2) I2 ?_ (by simp [hv])
    simpa using S2
  · exact h1.elim
theorem dpm_l {ls : List Expr} (he : DA X W ls fl) (hr : DPm X W es r) (hs : starEach (.List ls pos :: es) X.env = (false, eval (.List ls pos) X.env) :: starEach es X.env := by rfl) : DPm X W (.List ls pos :: es) (.l fl :: r) := imA (pa_cons (pe_lst he) hr hs) fun σ H Q h => by
  obtain ⟨G0, G, F, ps, ρ, L, τ, υ, g0, I, S, hl, h⟩ := h
  refine ⟨G0, G, F, ps, ρ, L, g0, I, S.pre hl, Res.wp_mono (Res.wp_bind h) (fun zs L1 h1 vs F1 H1 p1 x1 I1 r1 => ?_) fun e r L' q => q⟩
  split at h1
  · rename_i ds hv
    split at h1
    · rename_i hz
      have r2 := vals_ok hv r1
      have z2 : vs.length ≤ sizeLine := by rw [r2.length]; exact hz
      refine ⟨z2, fun p hp => ?_⟩
      have gp : G p = none := I1.frame.free hp
      have S1 := (S.ext x1).snocM (u := .lst vs) (s := .mu ds) gp g0 ⟨p, vs, rfl, g0.free gp, upd_same, z2, r2⟩ rfl
      rw [List.append_assoc, List.append_assoc] at S1
      have g1 : Same G0 (upd G p (.lst vs)) := fun b o q => by rw [upd_ne (ne_of_none (g0 _ _ q) gp)]; exact g0 _ _ q
      refine ⟨G0, _, F1, p1, ρ, L1, τ ++ [some (.ref p)], υ ++ [some (.mu ds)], g1, I1.hold hp, S1, hl, Res.wp_mono (Res.wp_bind h1) (fun ss L2 h2 ws G2 F2 H2 p2 g2 x2 I2 S2 hw => ?_) fun e r L' q => EE.ext x1 q⟩
      refine h2 (.ref p :: ws) G2 F2 H2 p2 g2 (x1.trans x2) I2 ?_ (by simp [hw])
      simpa using S2
    · exact h1.elim
  · exact h1.elim
theorem dpm_d0 (hr : DPm X W es r) (hs : starEach (.Dict [] [] pos :: es) X.env = (false, eval (.Dict [] [] pos) X.env) :: starEach es X.env := by rfl) : DPm X W (.Dict [] [] pos :: es) (.d0 :: r) := imA (pa_cons pe_dnewK hr hs) fun σ H Q h => by
  obtain ⟨G0, G, F, ps, ρ, L, τ, υ, g0, I, S, hl, h⟩ := h
  intro p hp
  have gp : G p = none := I.frame.free hp
  have S1 := S.snocM (u := .dK []) (s := .muD []) gp g0 ⟨p, [], rfl, g0.free gp, upd_same, Nat.zero_le _, .nil⟩ rfl
  rw [List.append_assoc, List.append_assoc] at S1
  have g1 : Same G0 (upd G p (.dK [])) := fun b o q => by rw [upd_ne (ne_of_none (g0 _ _ q) gp)]; exact g0 _ _ q
  refine ⟨G0, _, F, ps, ρ, L, τ ++ [some (.ref p)], υ ++ [some (.muD [])], g1, I.hold hp, S1, hl, Res.wp_mono (Res.wp_bind h) (fun ss L2 h2 ws G2 F2 H2 p2 g2 x2 I2 S2 hw => ?_) fun e r L' q => q⟩
  refine h2 (.ref p :: ws) G2 F2 H2 p2 g2 x2 I2 ?_ (by simp [hw])
  simpa using S2
def sPar (i j : Nat) (is : List Pit) : DM Fl := fun ρ L => (dPm is ρ L).bind fun ss L1 => match ss with
  | [s, t] => .ok (.nx ((ρ.set i (some s)).set j (some t))) L1
  | _ => .bad
def sPar3 (i j l : Nat) (is : List Pit) : DM Fl := fun ρ L => (dPm is ρ L).bind fun ss L1 => match ss with
  | [s, t, u] => .ok (.nx (((ρ.set i (some s)).set j (some t)).set l (some u))) L1
  | _ => .bad
theorem ds_par {i j : Nat} {x y : Str} {a b : Expr} {is : List Pit} {px py pt : Pos} {kt k2 pt2} (hc : X.calm = true) (hN : X.N.Nodup) (hi : X.N[i]? = some x) (hj : X.N[j]? = some y) (hij : i ≠ j)
    (hx : X.env.scope.names.lookup x = some .local) (hy : X.env.scope.names.lookup y = some .local) (ha : DPm X W [a, b] is)
    (hw : swappedStores [.Tuple [.Name x px, .Name y py] kt pt] (.Tuple [a, b] k2 pt2) X.env = pure (some [x, y]))
    (hs : swapsWithSole [.Tuple [.Name x px, .Name y py] kt pt] (.Tuple [a, b] k2 pt2) pos.line X.env = pure false := by rfl) :
    DS X W (.Assign [.Tuple [.Name x px, .Name y py] kt pt] (.Tuple [a, b] k2 pt2) pos) (sPar i j is) := ⟨fun pins s σ H D J h => (ps_par hc hN hi hj hij hx hy ha hw hs).run pins s σ H D J (by
  have hlen := J.len
  have hi' : i < σ.length := by rw [hlen]; exact (List.getElem?_eq_some_iff.mp hi).1
  have hj' : j < σ.length := by rw [hlen]; exact (List.getElem?_eq_some_iff.mp hj).1
  obtain ⟨G0, G, F, ps, ρ, L, g0, I, S, h⟩ := h
  refine ⟨G0, G, F, ps, ρ, L, [], [], g0, I, by simpa using S, S.len, Res.wp_mono (Res.wp_bind h) (fun ss L1 h1 vs G1 F1 H1 p1 g1 x1 I1 S1 hv => ?_) fun e r L' q => q⟩
  split at h1
  · rename_i s t
    match vs, hv with
    | [v, w], _ =>
    refine ⟨v, w, rfl, h1 _ G1 F1 H1 p1 g1 x1 I1 ?_⟩
    simp only [List.nil_append, List.map_cons, List.map_nil] at S1
    have S2 := S1.mv (i := i) S.len hi'
    have S3 := S2.mv (i := j) (by simp [S.len]) (by simpa using hj')
    simpa using S3
  · exact h1.elim)⟩
theorem ds_par3 {i j l : Nat} {x y z : Str} {a b c : Expr} {is : List Pit} {px py pz pt pos : Pos} {kt k2 pt2} (hc : X.calm = true) (hN : X.N.Nodup) (hi : X.N[i]? = some x) (hj : X.N[j]? = some y) (hl : X.N[l]? = some z) (hij : i ≠ j) (hil : i ≠ l) (hjl : j ≠ l)
    (hx : X.env.scope.names.lookup x = some .local) (hy : X.env.scope.names.lookup y = some .local) (hz : X.env.scope.names.lookup z = some .local) (ha : DPm X W [a, b, c] is)
    (hw : swappedStores [.Tuple [.Name x px, .Name y py, .Name z pz] kt pt] (.Tuple [a, b, c] k2 pt2) X.env = pure (some [x, y, z]))
    (hs : swapsWithSole [.Tuple [.Name x px, .Name y py, .Name z pz] kt pt] (.Tuple [a, b, c] k2 pt2) pos.line X.env = pure false := by rfl) :
    DS X W (.Assign [.Tuple [.Name x px, .Name y py, .Name z pz] kt pt] (.Tuple [a, b, c] k2 pt2) pos) (sPar3 i j l is) := ⟨fun pins s σ H D J h => (ps_par3 hc hN hi hj hl hij hil hjl hx hy hz ha hw hs).run pins s σ H D J (by
  have hlen := J.len
  have hi' : i < σ.length := by rw [hlen]; exact (List.getElem?_eq_some_iff.mp hi).1
  have hj' : j < σ.length := by rw [hlen]; exact (List.getElem?_eq_some_iff.mp hj).1
  have hl' : l < σ.length := by rw [hlen]; exact (List.getElem?_eq_some_iff.mp hl).1
  obtain ⟨G0, G, F, ps, ρ, L, g0, I, S, h⟩ := h
  refine ⟨G0, G, F, ps, ρ, L, [], [], g0, I, by simpa using S, S.len, Res.wp_mono (Res.wp_bind h) (fun ss L1 h1 vs G1 F1 H1 p1 g1 x1 I1 S1 hv => ?_) fun e r L' q => q⟩
  split at h1
  · rename_i s t u
    match vs, hv with
    | [v, w, o], _ =>
    refine ⟨v, w, o, rfl, h1 _ G1 F1 H1 p1 g1 x1 I1 ?_⟩
    simp only [List.nil_append, List.map_cons, List.map_nil] at S1
    have S2 := S1.mv (i := i) S.len hi'
    have S3 := S2.mv (i := j) (by simp [S.len]) (by simpa using hj')
    have S4 := S3.mv (i := l) (by simp [S.len]) (by simpa using hl')
    simpa using S4
  · exact h1.elim)⟩
end
end DL

/-! DL, part 14: own errors. -/
namespace DL
open PySem PySem.Spec PyProof.Rows L2
/-! ### S.__init__(self, ..), S an own class that has no __init__ of its own -/
theorem pe_sinit {X : Cx} {x : Str} {S : Addr} {e : Expr} {es : List Expr} {ta : TA} {p1 p2 pos : Pos} {pl : Sem Bool} (hg : Gl X x) (hm : X.mg x = some (.ref S)) (CR : ClX.CRead X.K S (.type "type"))
    (vV : PySem.W.findCls X.K (.ref S) (.type "type") "__init__" = some (.val (.builtin "ValueError.__init__"))) (ha : PA X (e :: es) ta) (hd : (x == ("__debug__" : Str)) = false := by decide)
    (hc : eval (.Call (.Attribute (.Name x p1) "__init__" p2) (e :: es) [] pos) X.env = (do
      let ov ← eval (.Name x p1) X.env
      standAt p2.atName
      let (f, first) ← holding [ov] (getMethod ov "__init__" pl)
      callWith pos f first (backTo pos (starEach (e :: es) X.env)) (backToKw pos (keywordEach [] X.env))) := by rfl)
    (he : starEach (e :: es) X.env = (false, eval e X.env) :: starEach es X.env := by rfl) (hpl : (backTo pos (starEach es X.env)).any (·.1) = false := by rfl) :
    PE X (.Call (.Attribute (.Name x p1) "__init__" p2) (e :: es) [] pos) (tVeI X.K ta) := ⟨fun pins s σ H Q I h => by
  refine PySem.W.methodCall_KW (ld_glob I hg hm ?_ hd) hc
  refine PySem.W.method_cls I.kIn CR.ga (PySem.W.cls_value I.kIn CR.rd vV rfl ?_)
  show wpAny _ _ (callWith pos (Value.builtin "ValueError.__init__") [] _ []) _ _ _
  refine PyProof.Rows.callWith_method1 (thn (ha.run pos pins _ σ H _ (I.tok _) h) fun us s1 mid => ?_) he hpl
  obtain ⟨vs, H1, J, rel, a, C, ws, rfl, hl, T, ea, q⟩ := mid
  cases rel with
  | @cons _ u0 _ ur ra rw' =>
    cases (show u0 = Value.ref a from ra)
    have hlen : ur.length ≤ 1000 := by rw [← Paired.length rw']; exact hl
    exact oinit_ok T J ea (Nat.le_trans hlen (by rw [sizeLine_eq]; decide)) fun s' J2 => ⟨.non, H1, J2, rfl, q⟩⟩
/-! ### __init__ of an own error -/
/-- self, then the fields' values; behind it the error has its own dict d with the fields (the last one first) -/
def spIni (C : Addr) (fds : List Str) : Sp := fun vs H Q _ => ∃ a ws, vs = .ref a :: ws ∧ ws.length = fds.length ∧ H a = some (exo a C none) ∧
  ∀ d H', H d = none → d ≠ a → H' a = some (exo a C (some d)) → H' d = some (exd d (fds.zip ws).reverse) → (∀ b, b ≠ a → b ≠ d → H' b = H b) → Q .non H'
section
variable {P : Program} {w : World} {K : PySem.W.Frag} {mg : Str → Option Value} {base : Heap} {fI C S : Addr} {q x f g t : Str} {fd : FuncData} {st : Stmt} {p1 p2 p3 p4 p5 p6 p7 p8 p9 p10 p11 p12 p13 p14 p15 p16 : Pos} {j : Nat}
theorem ini1 (F : Fun K "__init__" q st fI fd) (Sc : FnScope ["self", f] ["self", f] (defScope st)) (hb : defBody st = [.Expr (.Call (.Attribute (.Name x p1) "__init__" p2) [.Name "self" p3, .Constant (.str t) j p4] [] p5) p6, .Assign [.Attribute (.Name "self" p7) f p8] (.Name f p9) p10])
    (pl : Env → Sem Bool) (hce : ∀ env : Env, eval (.Call (.Attribute (.Name x p1) "__init__" p2) [.Name "self" p3, .Constant (.str t) j p4] [] p5) env = (do
      let ov ← eval (.Name x p1) env
      standAt p2.atName
      let (u, first) ← holding [ov] (getMethod ov "__init__" (pl env))
      callWith p5 u first (backTo p5 (starEach [.Name "self" p3, .Constant (.str t) j p4] env)) (backToKw p5 (keywordEach [] env))))
    (hx : (defScope st).names.lookup x = some NameKind.globalImplicit) (hs1 : (defScope st).names.lookup ("self" : Str) = some NameKind.local) (hs2 : (defScope st).names.lookup f = some NameKind.local) (hm : mg x = some (.ref S)) (CR : ClX.CRead K S (.type "type")) (vV : PySem.W.findCls K (.ref S) (.type "type") "__init__" = some (.val (.builtin "ValueError.__init__")))
    (T : OexC K C) (n1 : PySem.W.findIn K (.ref C) f = some none) (hdx : (x == ("__debug__" : Str)) = false := by decide) (hdf : (f == ("__debug__" : Str)) = false := by decide) (hcf : (f == ("__classdict__" : Str)) = false := by decide) : FnOk P w K mg base (L2.CX P w) 1 fI fd ["self", f] (spIni C [f]) := by
  refine F.okX Sc (fun vs H Q E ⟨a, ws, e, hl, _⟩ => by subst e; simpa using hl) (fun cdv A outer s H vs Q E hr h => ?_)
  rw [hb]
  refine ⟨_, pss_cons (ps_expr (pe_sinit (S := S) hx hm CR vV (pa_cons (pe_var (i := 0) rfl (.inl hs1)) (pa_cons pe_str pa_nil rfl) rfl) hdx (hce _))) (pss_one (ps_ost (pe_var (i := 0) rfl (.inl hs1)) (pe_var (i := 1) rfl (.inl hs2) hdf hcf))), ?_⟩
  obtain ⟨a, ws, rfl, hl, ea, k⟩ := h
  match ws, hl with
  | [v], _ =>
  refine ⟨_, rfl, a, C, [_], rfl, (by decide : 1 ≤ 1000), T, ea, ?_⟩
  refine ⟨v, rfl, _, rfl, a, C, rfl, T, n1, .inl ⟨ea, fun d hd hne => ?_⟩⟩
  exact k d _ hd hne upd_same (by rw [upd_ne hne]; exact upd_same) fun b h1 h2 => by rw [upd_ne h1, upd_ne h2]
theorem ini2 (F : Fun K "__init__" q st fI fd) (Sc : FnScope ["self", f, g] ["self", f, g] (defScope st)) (hb : defBody st = [.Expr (.Call (.Attribute (.Name x p1) "__init__" p2) [.Name "self" p3, .Constant (.str t) j p4] [] p5) p6, .Assign [.Attribute (.Name "self" p7) f p8] (.Name f p9) p10, .Assign [.Attribute (.Name "self" p11) g p12] (.Name g p13) p14])
    (pl : Env → Sem Bool) (hce : ∀ env : Env, eval (.Call (.Attribute (.Name x p1) "__init__" p2) [.Name "self" p3, .Constant (.str t) j p4] [] p5) env = (do
      let ov ← eval (.Name x p1) env
      standAt p2.atName
      let (u, first) ← holding [ov] (getMethod ov "__init__" (pl env))
      callWith p5 u first (backTo p5 (starEach [.Name "self" p3, .Constant (.str t) j p4] env)) (backToKw p5 (keywordEach [] env))))
    (hx : (defScope st).names.lookup x = some NameKind.globalImplicit) (hs1 : (defScope st).names.lookup ("self" : Str) = some NameKind.local) (hs2 : (defScope st).names.lookup f = some NameKind.local) (hs3 : (defScope st).names.lookup g = some NameKind.local) (hm : mg x = some (.ref S)) (CR : ClX.CRead K S (.type "type")) (vV : PySem.W.findCls K (.ref S) (.type "type") "__init__" = some (.val (.builtin "ValueError.__init__")))
    (T : OexC K C) (n1 : PySem.W.findIn K (.ref C) f = some none) (n2 : PySem.W.findIn K (.ref C) g = some none) (hdx : (x == ("__debug__" : Str)) = false := by decide) (hdf : (f == ("__debug__" : Str)) = false := by decide) (hcf : (f == ("__classdict__" : Str)) = false := by decide)
    (hdg : (g == ("__debug__" : Str)) = false := by decide) (hcg : (g == ("__classdict__" : Str)) = false := by decide) : FnOk P w K mg base (L2.CX P w) 1 fI fd ["self", f, g] (spIni C [f, g]) := by
  refine F.okX Sc (fun vs H Q E ⟨a, ws, e, hl, _⟩ => by subst e; simpa using hl) (fun cdv A outer s H vs Q E hr h => ?_)
  rw [hb]
  refine ⟨_, pss_cons (ps_expr (pe_sinit (S := S) hx hm CR vV (pa_cons (pe_var (i := 0) rfl (.inl hs1)) (pa_cons pe_str pa_nil rfl) rfl) hdx (hce _))) (pss_cons (ps_ost (pe_var (i := 0) rfl (.inl hs1)) (pe_var (i := 1) rfl (.inl hs2) hdf hcf)) (pss_one (ps_ost (pe_var (i := 0) rfl (.inl hs1)) (pe_var (i := 2) rfl (.inl hs3) hdg hcg)))), ?_⟩
  obtain ⟨a, ws, rfl, hl, ea, k⟩ := h
  match ws, hl with
  | [v, u], _ =>
  refine ⟨_, rfl, a, C, [_], rfl, (by decide : 1 ≤ 1000), T, ea, ?_⟩
  refine ⟨v, rfl, _, rfl, a, C, rfl, T, n1, .inl ⟨ea, fun d hd hne => ?_⟩⟩
  refine ⟨u, rfl, _, rfl, a, C, rfl, T, n2, .inr ⟨d, _, upd_same, by rw [upd_ne hne]; exact upd_same, by show 1 ≤ 900; decide, ?_⟩⟩
  exact k d _ hd hne (by rw [upd_ne (Ne.symm hne)]; exact upd_same) upd_same fun b h1 h2 => by rw [upd_ne h2, upd_ne h1, upd_ne h2]
end
/-! ### raise -/
def sRaise (x : Str) (fds : List Str) (fa : DM (List Sv)) : DM Fl := fun ρ L => (fa ρ L).bind fun ss L1 => match vals ss with
  | some ds => if ds.length = fds.length then .err ⟨x, (fds.zip ds).reverse⟩ ρ L1 else .bad
  | none => .bad
/-- what is known of an own error's class -/
structure ErrC (K : PySem.W.Frag) (mg : Str → Option Value) (x : Str) (C fI : Addr) : Prop where
  gC : mg x = some (.ref C)
  T : OexC K C
  iC : PySem.W.findIn K (.ref C) "__init__" = some (some (.ref fI))
  tI : PySem.W.typeIn K (.ref fI) = some (.type "function")
section
variable {K : PySem.W.Frag} {mg : Str → Option Value} {G0 G F H : Hp} {ps : List Addr} {L : Led}
/-- a new thing that nobody asks after -/
theorem HS.beside (I : HS K mg G F H ps L) {p : Addr} {u : HO} (hp : H p = none) : HS K mg G F (upd H p u) ps L :=
  (I.hold (u := u) hp).weak fun b o e => by rw [upd_ne (ne_of_none e (I.frame.free hp))]; exact e
theorem RDf.zip {F : Hp} {ps : List Addr} : ∀ {fds : List Str} {vs : List V} {ds : List Dv}, RDs K mg F ps vs ds → RDf K mg F ps (fds.zip vs) (fds.zip ds)
  | [], _, _, _ => by simpa using RDf.nil
  | _ :: _, _, _, .nil => by simpa using RDf.nil
  | f :: fds, _, _, .cons h r => by simpa using RDf.cons h (RDf.zip r)
theorem RDf.append {F : Hp} {ps : List Addr} : ∀ {a c : List (Str × V)} {b d : List (Str × Dv)}, RDf K mg F ps a b → RDf K mg F ps c d → RDf K mg F ps (a ++ c) (b ++ d)
  | _, _, _, _, .nil, s => s
  | _, _, _, _, .cons h r, s => .cons h (RDf.append r s)
theorem RDf.reverse {F : Hp} {ps : List Addr} : ∀ {a : List (Str × V)} {b : List (Str × Dv)}, RDf K mg F ps a b → RDf K mg F ps a.reverse b.reverse
  | _, _, .nil => .nil
  | _, _, .cons h r => by simpa using RDf.append (RDf.reverse r) (.cons h .nil)
end
section
variable {X : Cx} {W : WX} {x : Str} {C fI : Addr} {fds ps : List Str} {e : Expr} {es : List Expr} {fa : DM (List Sv)} {fd : FuncData} {p pos pos2 : Pos} {k : Nat}
theorem ds_raise (hc : X.calm = true) (tk : Takes X W) (E : ErrC X.K X.mg x C fI) (F1 : FnOk X.prog X.w X.K X.mg X.base (L2.CX X.prog X.w) k fI fd ps (spIni C fds)) (hr : Room (k + 1) X.A) (hb : Binds X.K fd ps []) (hg : Gl X x) (ha : DA X W (e :: es) fa)
    (hdb : (x == ("__debug__" : Str)) = false := by decide) (he : starEach (e :: es) X.env = (false, eval e X.env) :: starEach es X.env := by rfl) (hpl : (backTo pos (starEach es X.env)).any (·.1) = false := by rfl) (hlim : fds.length ≤ 1000 := by decide) :
    DS X W (.Raise (some (.Call (.Name x p) (e :: es) [] pos)) none pos2) (sRaise x fds fa) :=
  imS (ps_raise hc tk (pmk_oex (ds := []) (dvs := []) E.T E.iC E.tI F1 hr hb .nil (fun pins σ H s e s' I q => (passAt (W := fun _ _ _ _ => False) takes_none5 σ) pins H s e s' I q) hg E.gC ha hdb he hpl)) fun D σ H h => by
    obtain ⟨G0, G, F, ps, ρ, L, g0, I, S, h⟩ := h
    refine ⟨G0, G, F, ps, ρ, L, g0, I, S, Res.wp_mono (Res.wp_bind h) (fun ss L1 h1 vs F1 H1 p1 x1 I1 r1 => ?_) fun e r L' q => q⟩
    split at h1
    · rename_i ds hv
      split at h1
      · rename_i hl
        have r2 := vals_ok hv r1
        refine ⟨by rw [r2.length, hl]; exact hlim, fun a ha1 => ?_⟩
        refine ⟨a, vs ++ [], rfl, by rw [List.append_nil, r2.length]; exact hl, upd_same, fun d H' hd hne e1 e2 e3 => ?_⟩
        have hd1 : H1 d = none := by rwa [upd_ne hne] at hd
        refine ⟨rfl, d, _, e1, e2, hd1, ?_⟩
        have eH : upd (del H' a) d (.xd (fds.zip (vs ++ [])).reverse) = upd H1 d (.xd (fds.zip vs).reverse) := by
          funext b
          by_cases hb : b = d
          · subst hb; rw [upd_same, upd_same, List.append_nil]
          · rw [upd_ne hb, upd_ne hb]
            by_cases hba : b = a
            · subst hba; rw [del_same, ha1]
            · rw [del_ne hba, e3 b hba hb, upd_ne hba]
        rw [eH]
        refine h1 _ _ σ G F1 _ p1 g0 x1 (I1.beside hd1) (S.ext x1) ⟨C, mg_ref.mpr E.gC, rfl, d, _, rfl, upd_same, I1.same.free hd1, fun hm => led_ne I1 hd1 hm rfl, ?_⟩
        exact (RDf.zip r2).reverse
      · exact h1.elim
    · exact h1.elim
end
end DL

/-! DL, part 15: try, except C as e; e.f, isinstance(e, ..). -/
namespace DL
open PySem PySem.Spec PyProof.Rows L2
/-! ### readings go by classes alone -/
section
variable {K : PySem.W.Frag} {m1 m2 : Str → Option Value} {G F H : Hp} {ps : List Addr} {L : Led}
def RefEq (m1 m2 : Str → Option Value) : Prop := ∀ (c : Str) (C : Addr), m1 c = some (.ref C) → m2 c = some (.ref C)
mutual
theorem RD.cv (e : RefEq m1 m2) : ∀ {v : V} {d : Dv}, RD K m1 F ps v d → RD K m2 F ps v d
  | _, _, .non => .non
  | _, _, .bl b => .bl b
  | _, _, .int i => .int i
  | _, _, .str y h => .str y h
  | _, _, .lst h z r => .lst h z (RDs.cv e r)
  | _, _, .tup h z r => .tup h z (RDs.cv e r)
  | _, _, .dic h z r => .dic h z (RDk.cv e r)
  | _, _, .obj c h r => .obj (e _ _ c) h (RDf.cv e r)
  | _, _, .own h => .own h
  | _, _, .scr h => .scr h
  | _, _, .opq v => .opq v
  | _, _, .ty n => .ty n
  | _, _, .cls h => .cls (e _ _ h)
theorem RDs.cv (e : RefEq m1 m2) : ∀ {vs : List V} {ds : List Dv}, RDs K m1 F ps vs ds → RDs K m2 F ps vs ds
  | _, _, .nil => .nil
  | _, _, .cons h r => .cons (RD.cv e h) (RDs.cv e r)
theorem RDk.cv (e : RefEq m1 m2) : ∀ {vs : List (Key × V)} {ds : List (Key × Dv)}, RDk K m1 F ps vs ds → RDk K m2 F ps vs ds
  | _, _, .nil => .nil
  | _, _, .cons z h r => .cons z (RD.cv e h) (RDk.cv e r)
theorem RDf.cv (e : RefEq m1 m2) : ∀ {vs : List (Str × V)} {ds : List (Str × Dv)}, RDf K m1 F ps vs ds → RDf K m2 F ps vs ds
  | _, _, .nil => .nil
  | _, _, .cons h r => .cons (RD.cv e h) (RDf.cv e r)
end
theorem CtOk.cv (e : RefEq m1 m2) {p : Addr} {c : Ct} (h : CtOk K m1 G F H ps p c) : CtOk K m2 G F H ps p c := by
  cases c with
  | lst xs => obtain ⟨vs, a, b, r⟩ := h; exact ⟨vs, a, b, r.cv e⟩
  | dic ks => obtain ⟨vs, a, b, r⟩ := h; exact ⟨vs, a, b, r.cv e⟩
  | obj c fs => obtain ⟨C, dx, gs, a, b, c0, c1, c2, r⟩ := h; exact ⟨C, dx, gs, e _ _ a, b, c0, c1, c2, r.cv e⟩
  | gone => exact h
theorem HS.cv (e : RefEq m1 m2) (I : HS K m1 G F H ps L) : HS K m2 G F H ps L := ⟨I.frame, I.same, I.apart, I.len, I.nd, I.free, fun k p c a b => (I.at_ k p c a b).cv e⟩
/-- what stands beside is held from here on -/
theorem HS.claim (I : HS K m1 G F H ps L) {p : Addr} {o : HO} (hp : H p = some o) (hF : F p = none) (hps : p ∉ ps) (hno : ∀ x, o ≠ .own x) : HS K m1 (upd G p o) F H ps L := by
  refine ⟨fun b u q => ?_, I.same, fun a q => ?_, I.len, I.nd, fun q hq l => ⟨(I.free q hq l).1, ?_⟩, fun k q c a b => ?_⟩
  · by_cases hb : b = p
    · subst hb; rw [upd_same] at q; rw [hp]; exact q
    · rw [upd_ne hb] at q; exact I.frame b u q
  · by_cases hb : a = p
    · rw [hb]; exact hF
    · rw [upd_ne hb] at q; exact I.apart a q
  · rw [upd_ne (fun z => hps (by rw [← z]; exact hq))]; exact (I.free q hq l).2
  · have old := I.at_ k q c a b
    cases c with
    | obj c fs =>
      obtain ⟨C, dx, gs, a1, b1, c0, c1, c2, r⟩ := old
      refine ⟨C, dx, gs, a1, b1, c0, c1, ?_, r⟩
      rw [upd_ne (fun z => by rw [z, hp] at c0; exact hno _ (Option.some.inj c0))]; exact c2
    | lst xs => exact old
    | dic xs => exact old
    | gone => exact old
end
/-- the suite's names -/
def mgS (X : Cx) (a : Addr) (cls : Value) (d : Option Addr) : Str → Option Value := fun c => match X.mg c with
  | some (.ref C) => some (.ref C)
  | _ => if c = "isinstance" then some (.int a 0) else if c = "repr" then d.map fun d => .int d 0 else if c = "len" then (match cls with
    | .ref C => some (.int C 0)
    | _ => none) else none
theorem suite_mg {X : Cx} {a : Addr} {oe : Obj} {cls : Value} {d : Option Addr} {pn : List (Addr × Obj)} (hz : Zc cls d oe) : (X.suite a ((a, oe) :: pn)).mg' = mgS X a cls d := by
  obtain ⟨h1, h2⟩ := hz
  subst h1 h2
  unfold L2.Cx.mg'
  rw [if_neg (show ¬ (false = true) from Bool.false_ne_true)]
  rfl
theorem mgS_ref {X : Cx} {a : Addr} {cls : Value} {d : Option Addr} : RefEq (mgS X a cls d) X.mg ∧ RefEq X.mg (mgS X a cls d) := by
  refine ⟨fun c C h => ?_, fun c C h => ?_⟩
  · unfold mgS at h
    cases e : X.mg c with
    | none =>
      rw [e] at h
      simp only [] at h
      split at h
      · cases h
      · split at h
        · cases d <;> cases h
        · split at h
          · split at h <;> cases h
          · cases h
    | some u =>
      rw [e] at h
      cases u with
      | ref D => exact h
      | _ =>
        simp only [] at h
        split at h
        · cases h
        · split at h
          · cases d <;> cases h
          · split at h
            · split at h <;> cases h
            · cases h
  · unfold mgS
    rw [h]
/-- no exception stands in a slot -/
def unX (r : Slo) : Slo := r.map fun o => match o with
  | some (.xc _ _) => none
  | o => o
theorem unX_get {r : Slo} {j : Nat} {s : Sv} (h : (unX r)[j]? = some (some s)) : r[j]? = some (some s) ∧ ∀ c fs, s ≠ .xc c fs := by
  unfold unX at h
  rw [List.getElem?_map] at h
  cases e : r[j]? with
  | none => rw [e] at h; cases h
  | some o =>
    rw [e] at h
    simp only [Option.map_some, Option.some.injEq] at h
    cases o with
    | none => cases h
    | some t =>
      cases t with
      | xc c fs => cases h
      | val d => cases h; exact ⟨rfl, fun _ _ q => by cases q⟩
      | bor d => cases h; exact ⟨rfl, fun _ _ q => by cases q⟩
      | borD d => cases h; exact ⟨rfl, fun _ _ q => by cases q⟩
      | mu d => cases h; exact ⟨rfl, fun _ _ q => by cases q⟩
      | muD d => cases h; exact ⟨rfl, fun _ _ q => by cases q⟩
def unFl (i : Nat) : Fl → Fl
  | .nx r => .nx (unX (r.set i none))
  | .rt d => .rt d
  | .bk r => .bk (unX (r.set i none))
  | .ct r => .ct (unX (r.set i none))
def sTry (i : Nat) (mt : List (Str × Bool)) (fb fs : DM Fl) : DM Fl := fun ρ L => match fb ρ L with
  | .ok fl L1 => .ok fl L1
  | .err e r L1 => match mt.lookup e.cls with
    | some true => (noErr (fs (r.set i (some (.xc e.cls e.fs))) L1)).bind fun fl L2 => .ok (unFl i fl) L2
    | some false => .err e r L1
    | none => .bad
  | .bad => .bad
section
variable {X : Cx} {W : WX} {x n : Str} {cx : Value} {i : Nat} {body suite : List Stmt} {b₀ : Stmt} {np pos pos' : Pos} {fb fs : DM Fl} {mt : List (Str × Bool)}
theorem try_of {D : Ends} {σ : List (Option V)} {H : Hp} (hcalm : X.calm = true) (m1 : X.mg "isinstance" = none) (m2 : X.mg "repr" = none) (m3 : X.mg "len" = none) (hmt : ∀ c C b, mt.lookup c = some b → X.mg c = some (.ref C) → PySem.W.exmOne X.K (.ref C) cx = some b)
    (h : tS X.K X.mg' W (sTry i mt fb fs) D σ H) : tS X.K X.mg' (wAs X.K cx i (fun a cls d => tS X.K (mgS X a cls d) wNo fs) W D) fb D σ H := by
  rw [calm_mg hcalm] at h ⊢
  obtain ⟨G0, G, F, ps, ρ, L, g0, I, S, h⟩ := h
  refine ⟨G0, G, F, ps, ρ, L, g0, I, S, ?_⟩
  unfold sTry at h
  cases hb : fb ρ L with
  | bad => rw [hb] at h; exact h
  | ok fl L1 => rw [hb] at h; exact h
  | err e r L1 =>
    rw [hb] at h
    simp only [] at h
    intro cls d σ' G' F' H' ps' g' x' I' S' rx
    obtain ⟨C, hC, rfl, dd, gs, rfl, hdd, hFd, hps, rf⟩ := rx
    cases hm : mt.lookup e.cls with
    | none => rw [hm] at h; exact h.elim
    | some b =>
      rw [hm] at h
      refine ⟨b, hmt _ _ _ hm hC, fun hbt a ha => ?_, fun hbf => ?_⟩
      · subst hbt
        simp only [] at h
        obtain ⟨eSm, emS⟩ := mgS_ref (X := X) (a := a) (cls := .ref C) (d := some dd)
        have nown : ∀ y, HO.xd gs ≠ .own y := fun _ q => by cases q
        have k1 : mgS X a (.ref C) (some dd) "isinstance" = some (.int a 0) := by unfold mgS; rw [m1]; rfl
        have k2 : mgS X a (.ref C) (some dd) "repr" = some (.int dd 0) := by unfold mgS; rw [m2]; rfl
        have k3 : mgS X a (.ref C) (some dd) "len" = some (.int C 0) := by unfold mgS; rw [m3]; rfl
        have old : ∀ b o, G0 b = some o → b = dd → o = .xd gs := fun b o q z => by
          subst z
          have := I'.frame _ _ (g' _ _ q)
          rw [hdd] at this; exact (Option.some.inj this).symm
        have up0 : Same G0 (upd G0 dd (.xd gs)) := fun b o q => by
          by_cases hb : b = dd
          · rw [old b o q hb, hb, upd_same]
          · rw [upd_ne hb]; exact q
        have I2 := (I'.claim hdd hFd hps nown).cv emS
        have S2 : Slots X.K (mgS X a (.ref C) (some dd)) (upd G0 dd (.xd gs)) (upd G' dd (.xd gs)) F' ps' σ' r := by
          refine ⟨S'.len, fun j s q => ?_, S'.sep⟩
          obtain ⟨v, e1, e2⟩ := S'.at_ j s q
          refine ⟨v, e1, ?_⟩
          cases s with
          | val d => exact RD.cv emS e2
          | bor xs =>
            obtain ⟨p, vs, a1, a2, a3, a4⟩ := e2
            exact ⟨p, vs, a1, up0 _ _ a2, a3, a4.cv emS⟩
          | borD xs =>
            obtain ⟨p, vs, a1, a2, a3, a4⟩ := e2
            exact ⟨p, vs, a1, up0 _ _ a2, a3, a4.cv emS⟩
          | mu xs =>
            obtain ⟨p, vs, a1, a2, a3, a4, a5⟩ := e2
            have hne : p ≠ dd := fun z => by rw [z] at a3; have := I'.frame _ _ a3; rw [hdd] at this; cases this
            exact ⟨p, vs, a1, by rw [upd_ne hne]; exact a2, by rw [upd_ne hne]; exact a3, a4, a5.cv emS⟩
          | muD xs =>
            obtain ⟨p, vs, a1, a2, a3, a4, a5⟩ := e2
            have hne : p ≠ dd := fun z => by rw [z] at a3; have := I'.frame _ _ a3; rw [hdd] at this; cases this
            exact ⟨p, vs, a1, by rw [upd_ne hne]; exact a2, by rw [upd_ne hne]; exact a3, a4, a5.cv emS⟩
          | xc c fs =>
            obtain ⟨a', _, _, _, _, z, _⟩ := e2
            rw [m1] at z; cases z
        have gg : Same (upd G0 dd (.xd gs)) (upd G' dd (.xd gs)) := fun b o q => by
          by_cases hb : b = dd
          · subst hb; rw [upd_same] at q ⊢; exact q
          · rw [upd_ne hb] at q ⊢; exact g' b o q
        refine ⟨upd G0 dd (.xd gs), upd G' dd (.xd gs), F', ps', _, L1, gg, I2, S2.set i (s := .xc e.cls e.fs) ⟨a, dd, C, gs, rfl, k1, k2, k3, emS _ _ hC, upd_same, rf.cv emS⟩ rfl, ?_⟩
        have back : ∀ {G2 F2 H2 : Hp} {p2 : List Addr} {L2' : Led} {σ2 : List (Option V)} {r2 : Slo}, Same (upd G0 dd (.xd gs)) G2 → HS X.K (mgS X a (.ref C) (some dd)) G2 F2 H2 p2 L2' → Slots X.K (mgS X a (.ref C) (some dd)) (upd G0 dd (.xd gs)) G2 F2 p2 σ2 r2 →
            HS X.K X.mg G2 F2 H2 p2 L2' ∧ Slots X.K X.mg G0 G2 F2 p2 (σ2.set i none) (unX (r2.set i none)) := fun {G2 F2 H2 p2 L2' σ2 r2} g2 J2 T2 => by
          refine ⟨J2.cv eSm, ?_⟩
          have T3 := T2.forget i none
          refine ⟨by simp [unX, T2.len], fun j s q => ?_, fun j l s t v hj hl n1 n2 h1 h2 => T3.sep j l s t v (unX_get hj).1 (unX_get hl).1 n1 n2 h1 h2⟩
          obtain ⟨q1, q2⟩ := unX_get q
          obtain ⟨v, e1, e2⟩ := T3.at_ j s q1
          refine ⟨v, e1, ?_⟩
          cases s with
          | val d => exact RD.cv eSm e2
          | bor xs =>
            obtain ⟨p, vs, a1, a2, a3, a4⟩ := e2
            have hne : p ≠ dd := fun z => by rw [z, upd_same] at a2; cases a2
            exact ⟨p, vs, a1, by rwa [upd_ne hne] at a2, a3, a4.cv eSm⟩
          | borD xs =>
            obtain ⟨p, vs, a1, a2, a3, a4⟩ := e2
            have hne : p ≠ dd := fun z => by rw [z, upd_same] at a2; cases a2
            exact ⟨p, vs, a1, by rwa [upd_ne hne] at a2, a3, a4.cv eSm⟩
          | mu xs =>
            obtain ⟨p, vs, a1, a2, a3, a4, a5⟩ := e2
            exact ⟨p, vs, a1, up0.free a2, a3, a4, a5.cv eSm⟩
          | muD xs =>
            obtain ⟨p, vs, a1, a2, a3, a4, a5⟩ := e2
            exact ⟨p, vs, a1, up0.free a2, a3, a4, a5.cv eSm⟩
          | xc c fs => exact absurd rfl (q2 c fs)
        refine Res.wp_mono (noErr_wp (Res.wp_bind h)) (fun fl L2' q => ?_) fun e' r' l' q => q
        cases fl with
        | nx r2 => exact fun σ2 G2 F2 H2 p2 g2 x2 J2 T2 => let ⟨u1, u2⟩ := back g2 J2 T2; q _ G2 F2 H2 p2 (up0.trans g2) (x'.trans x2) u1 u2
        | bk r2 => exact fun σ2 G2 F2 H2 p2 g2 x2 J2 T2 => let ⟨u1, u2⟩ := back g2 J2 T2; q _ G2 F2 H2 p2 (up0.trans g2) (x'.trans x2) u1 u2
        | ct r2 => exact fun σ2 G2 F2 H2 p2 g2 x2 J2 T2 => let ⟨u1, u2⟩ := back g2 J2 T2; q _ G2 F2 H2 p2 (up0.trans g2) (x'.trans x2) u1 u2
        | rt d => exact fun v G2 F2 H2 p2 g2 x2 J2 r2 => q v G2 F2 H2 p2 (up0.trans g2) (x'.trans x2) (J2.cv eSm) (r2.cv eSm)
      · subst hbf
        simp only [] at h
        exact h _ _ σ' G' F' H' ps' g' x' I' S' ⟨C, hC, rfl, dd, gs, rfl, hdd, hFd, hps, rf⟩
theorem ds_try_as (hcalm : X.calm = true) (hs : X.stack = X.env :: X.outer) (hf : X.env.frame = some X.env.locals) (hN : X.N.Nodup) (hi : X.N[i]? = some n) (hln : X.env.kindOf n = some .local) (hc : Names X x cx) (tk : Takes X W)
    (m1 : X.mg "isinstance" = none) (m2 : X.mg "repr" = none) (m3 : X.mg "len" = none) (hmt : ∀ c C b, mt.lookup c = some b → X.mg c = some (.ref C) → PySem.W.exmOne X.K (.ref C) cx = some b)
    (hb : ∀ (W : WX) (pn : List (Addr × Obj)) (xe : Value → Shared → Prop), Takes (X.tr pn xe) W → PassesOwn (model X.prog X.w) X.A X.env xe → DSs (X.tr pn xe) W body fb)
    (hsu : ∀ (a : Addr) (oe : Obj) (cls : Value) (d : Option Addr) (pn : List (Addr × Obj)), Zc cls d oe → (∃ vs, oe.data = .fields vs) → DSs (X.suite a ((a, oe) :: pn)) wNo (b₀ :: suite) fs) :
    DS X W (.Try body [.ExceptHandler (some (.Name x np)) (some n) (b₀ :: suite) pos'] [] [] pos) (sTry i mt fb fs) :=
  imS (ps_try_as (tb := fun W => tS X.K X.mg' W fb) (ts := fun a cls d => tS X.K (mgS X a cls d) wNo fs) (Wout := W) hs hf hN hi hln hc tk
    (fun W pn xe t p => imSs (hb W pn xe t p) fun D σ H h => by rw [calm_mg (X := X.tr pn xe) hcalm]; rw [calm_mg hcalm] at h; exact h)
    (fun a oe cls d pn hz hd => imSs (hsu a oe cls d pn hz hd) fun D σ H h => by rw [suite_mg hz]; exact h)) fun D σ H h => try_of hcalm m1 m2 m3 hmt h
end
end DL

/-! DL, part 16: what a suite asks of its exception. -/
namespace DL
open PySem PySem.Spec PySem.Calls PyProof.Rows L2
/-! ### the class of an exception that has fields -/
section
open PySem.W
variable {prog : Program} {w : World} {A : Around} {E : Value → Shared → Prop} {s : Shared} {K : Frag} {e D : Addr} {oe : Obj} {od : Option Obj}
theorem find_class (T : ExcC K D) : findObj K D od "__class__" = some (.bind (.builtin "getset_descriptor.__get__") (.builtin "object.__class__")) := by
  obtain ⟨cd, hc, _⟩ := any_some T.hd
  unfold findObj
  rw [hc, Option.bind_some, T.ha, Option.bind_some]
  simp [T.hn, T.ht]
theorem class_of {Q : Option Value → Shared → Prop} (T : ExcC K D) (X : K.In s.heap) (I : InstAt s.heap e oe D od) (h : Q (some (.ref D)) { s with toks := s.toks + 1 }) : wpAny (model prog w) A (getAttr? (.ref e) "__class__") Q E s := by
  obtain ⟨hp, g, d, tk, os⟩ := s
  have La := I.type (M := model prog w)
  have Lb := looks_findIn (M := model prog w) X T.hg
  have Lc := looks_findIn (M := model prog w) X T.hk
  have Ld := looks_find (M := model prog w) X I (find_class T)
  have isB : Looks (model prog w) hp (isInstance (.ref e) (.type "BaseException")) true := La.andThen (looks_subIn X T.hs)
  have no2 : (Value.builtin "BaseException.__getattribute__" == Value.builtin "object.__getattribute__") = false := by decide +kernel
  have no1 : (onTheHeap (Value.ref D) && Value.builtin "BaseException.__getattribute__" == Value.builtin "object.__getattribute__") = false := by rw [no2, Bool.and_false]
  have no0 : (false && onTheHeap (Value.builtin "BaseException.__getattribute__")) = false := Bool.false_and _
  unfold getAttr? getAttrBy? getAttrBy
  refine wpAny_bind (wpAny_mkText (wpAny_bind (wpAny_attempt (wpAny_holding (wpAny_bind (La.at (wpAny_bind (Lb.at ?_))))))))
  show wpAny _ _ (if (onTheHeap (Value.ref D) && Value.builtin "BaseException.__getattribute__" == Value.builtin "object.__getattribute__") = true then _ else _) _ _ _
  rw [no1, if_neg Bool.false_ne_true]
  unfold getAttrByItsOwn hookBefore
  rw [if_pos (show onTheHeap (Value.ref D) = true from rfl)]
  refine wpAny_bind (Lc.at (wpAny_bind (wpAny_attempt (wpAny_holding ?_))))
  unfold callGetattribute boundAndCalled
  rw [no0, if_neg Bool.false_ne_true, PySem.F.excAttr_ValueError.ga.bind (.ref e)]
  refine wpAny_bind (wpAny_pure ?_)
  show wpAny _ _ (call (.builtin "BaseException.__getattribute__") [.ref e, .str "__class__" tk]) _ _ _
  refine wpAny_call (codeAny_call_builtin PySem.F.excAttr_ValueError.ga.plain PySem.F.entry_bexc_ga ?_)
  refine @PySem.W.check_slot (model prog w) _ _ ⟨hp, g, d, tk + 1, os⟩ "BaseException.__getattribute__" "BaseException" "__getattribute__" (.ref e) [.str "__class__" tk] [] _ (by decide +kernel) (by decide +kernel) isB (PySem.F.args_bexc_ga (.ref e) (.str "__class__" tk)) ?_
  unfold Builtin.«object.__getattribute__»
  refine wpAny_bind (wpAny_of_eq (a := ((Value.ref e : Value), [Value.str "__class__" tk])) (by first | rfl | (simp only [slotArgs]; rfl)) ?_)
  refine wpAny_bind (wpAny_pure (wpAny_bind (La.at (wpAny_bind (Ld.at ?_)))))
  show wpAny _ _ (holding [Value.builtin "object.__class__"] (call (.builtin "getset_descriptor.__get__") [.builtin "object.__class__", .ref e, .ref D]) >>= ret) _ _ _
  refine wpAny_bind (wpAny_holding (wpAny_call (class_get (s := ⟨hp, g, d, tk + 1, os⟩) (ox := oe) (od := od) X I T.hm ?_)))
  refine wpAny_pure ?_
  show wpAny _ _ (handedOut (.ref D)) _ _ _
  rw [handedOut_of (v := .ref D) rfl]
  first
    | exact wpAny_pure (wpAny_pure h)
    | exact wpAny_pure h
    | exact wpAny_pure (wpAny_bind (wpAny_pure (wpAny_pure h)))
theorem kit_exc (T : ExcC K D) : KitX K (.ref e) (.ref D) (fun h => ∃ od, InstAt h e oe D od) where
  ty := fun _ _ _ ⟨_, I⟩ => I.type
  it := fun _ _ X _ => by
    obtain ⟨cd, hcd, _⟩ := any_some T.hd
    unfold clsIn at hcd
    split at hcd
    · rename_i c' d' cd' sl' ho
      exact fun A' Q' E' s' k q => by
        unfold isType loadHead
        exact wpAny_bind (wpAny_loadPart (k _ _ (X _ _ ho)) (wpAny_pure q))
    · cases hcd
  ne := fun h tp dd its n sl X htp => by
    obtain ⟨cd, hcd, _⟩ := any_some T.hd
    refine Bool.eq_false_iff.mpr fun q => ?_
    cases Value.ref.inj (beq_iff_eq.mp q)
    unfold clsIn at hcd
    split at hcd
    · rename_i ho
      have z := (X _ _ ho).symm.trans htp
      cases z
    · cases hcd
  ca := fun X ⟨_, I⟩ k => class_of T X I k
end
/-! ### isinstance(e, ..) -/
/-- a class by its name: own, or built-in -/
abbrev CKey := Str ⊕ String
def ckey : Dv → Option CKey
  | .cls k => some (.inl k)
  | .ty n => some (.inr n)
  | _ => none
def ckeys : List Dv → Option (List CKey)
  | [] => some []
  | d :: ds => match ckey d, ckeys ds with
    | some k, some ks => some (k :: ks)
    | _, _ => none
abbrev CTab := List (Str × CKey × Bool)
def ctab (t : CTab) (c : Str) (k : CKey) : Option Bool := (t.find? fun q => decide (q.1 = c) && decide (q.2.1 = k)).map fun q => q.2.2
def ctabs (t : CTab) (c : Str) : List CKey → Option Bool
  | [] => some false
  | k :: ks => match ctab t c k with
    | some true => some true
    | some false => ctabs t c ks
    | none => none
/-- the class's value -/
def CVl (mg : Str → Option Value) : CKey → Value → Prop
  | .inl k, v => ∃ D, mg k = some (.ref D) ∧ v = .ref D
  | .inr n, v => v = .type n
def CTabOk (K : PySem.W.Frag) (mg : Str → Option Value) (t : CTab) : Prop := ∀ q ∈ t, ∀ C v, mg q.1 = some (.ref C) → CVl mg q.2.1 v → PySem.W.kitOne K (.ref C) v = some q.2.2
section
variable {K : PySem.W.Frag} {mg mg' : Str → Option Value} {F : Hp} {ps : List Addr} {t : CTab}
theorem ctab_ok (h : CTabOk K mg t) {c : Str} {k : CKey} {b : Bool} (e : ctab t c k = some b) {C : Addr} {v : Value} (hc : mg c = some (.ref C)) (hv : CVl mg k v) : PySem.W.kitOne K (.ref C) v = some b := by
  unfold ctab at e
  cases hf : t.find? (fun q => decide (q.1 = c) && decide (q.2.1 = k)) with
  | none => rw [hf] at e; cases e
  | some q =>
    rw [hf] at e; cases e
    have hp := List.find?_some hf
    simp only [Bool.and_eq_true, decide_eq_true_eq] at hp
    obtain ⟨h1, h2⟩ := hp
    subst h1 h2
    exact h q (List.mem_of_find?_eq_some hf) C v hc hv
theorem ctabs_ok (h : CTabOk K mg t) {c : Str} {C : Addr} (hc : mg c = some (.ref C)) : ∀ {ks : List CKey} {vs : List Value} {b : Bool}, ctabs t c ks = some b → Paired (CVl mg) ks vs → PySem.W.kitAny K (.ref C) vs = some b
  | [], _, _, e, .nil => by cases e; exact kitAny_nil
  | k :: ks, _, b, e, .cons h1 r => by
    unfold ctabs at e
    split at e
    · rename_i z; cases e; exact kitAny_cons (ctab_ok h z hc h1) (fun q => by cases q) fun _ => rfl
    · rename_i z; exact kitAny_cons (ctab_ok h z hc h1) (fun _ => ctabs_ok h hc e r) fun q => by cases q
    · cases e
theorem ckey_rel (hr : RefEq mg' mg) {d : Dv} {k : CKey} {v : V} (e : ckey d = some k) (r : RD K mg' F ps v d) : ∃ u, CVl mg k u ∧ ClsV v u := by
  cases d with
  | ty n => cases e; cases r; exact ⟨.type n, rfl, .ty n⟩
  | cls c => cases e; cases r with
    | cls hc => exact ⟨_, ⟨_, hr _ _ hc, rfl⟩, .own _⟩
  | _ => cases e
theorem ckeys_rel (hr : RefEq mg' mg) : ∀ {ds : List Dv} {ks : List CKey} {vs : List V}, ckeys ds = some ks → RDs K mg' F ps vs ds → ∃ us, Paired (CVl mg) ks us ∧ Paired ClsV vs us
  | [], _, _, e, .nil => by cases e; exact ⟨[], .nil, .nil⟩
  | d :: ds, ks, _, e, .cons h r => by
    unfold ckeys at e
    split at e
    · rename_i k ks' h1 h2
      cases e
      obtain ⟨u, a, b⟩ := ckey_rel hr h1 h
      obtain ⟨us, c, d⟩ := ckeys_rel hr h2 r
      exact ⟨u :: us, .cons a c, .cons b d⟩
    · cases e
end
def rIsX (K : PySem.W.Frag) (D a : Addr) : List V → Hp → VK → Prop := fun xs H Q => (∃ c u b, xs = [.ref a, c] ∧ ClsV c u ∧ PySem.W.kitOne K (.ref D) u = some b ∧ Q (.bl b) H) ∨
  ∃ tp cs us b, xs = [.ref a, .ref tp] ∧ H tp = some (.tup cs) ∧ Paired ClsV cs us ∧ PySem.W.kitAny K (.ref D) us = some b ∧ Q (.bl b) H
theorem call_isX {X : Cx} {a D : Addr} {oe : Obj} {pn : List (Addr × Obj)} (T : ExcC X.K D) (hc : oe.cls = .ref D) (hf : ∃ vs, oe.data = .fields vs) (hd : ∀ d, oe.dict = some d → ∀ (pins : List (Addr × Obj)) (σ : List (Option V)) (H : Hp) (s : Shared), Inv (X.suite a ((a, oe) :: pn)) pins σ H s → (∃ gs, H d = some (.xd gs)) → True) :
    ∀ (pins : List (Addr × Obj)) (s : Shared) (σ : List (Option V)) (H : Hp) (xs : List V) (us : List Value) (Q : VK) (dd : Addr) (gs : List (Str × V)), Inv (X.suite a ((a, oe) :: pn)) pins σ H s → Vals xs us → oe.dict = some dd → H dd = some (.xd gs) → rIsX X.K D a xs H Q →
    wpAny (model X.prog X.w) (X.suite a ((a, oe) :: pn)).A (call (.builtin "isinstance") us) (EP (X.suite a ((a, oe) :: pn)) pins σ Q) (X.suite a ((a, oe) :: pn)).xe s := by
  intro pins s σ H xs us Q dd gs I r hdd hgs h
  obtain ⟨ha, _⟩ := I.pin (a, oe) (List.mem_append_left _ List.mem_cons_self)
  obtain ⟨vs, hv⟩ := hf
  obtain ⟨mA, hns, hr⟩ := (show ObjOk X.prog X.w H s.heap dd (.xd gs) from I.hok dd _ hgs)
  obtain ⟨od, ho, hl⟩ := lookIn_ns hns
  have J : ∃ od, PySem.W.InstAt s.heap a oe D od := ⟨some od, ha, hc, by unfold PySem.W.notCls; rw [hv] <;> rfl, by rw [hdd]; exact ho⟩
  rcases h with ⟨c, u, b, rfl, hcv, e, q⟩ | ⟨tp, cs, ws, b, rfl, hT, hp, e, q⟩
  · obtain ⟨u1, u2, rfl, r1, r2⟩ := vals2 r
    cases (show u1 = Value.ref a from r1)
    cases hcv.eq r2
    exact PySem.W.kia_one (kit_exc T) I.kIn J e (fun z => nomatch z) fun tk => ⟨.bl b, H, I.tok tk, rfl, q⟩
  · obtain ⟨u1, u2, rfl, r1, r2⟩ := vals2 r
    cases (show u1 = Value.ref a from r1)
    cases (show u2 = Value.ref tp from r2)
    obtain ⟨_, its, rv, o, h1, h2, n, h3⟩ := (show ObjOk X.prog X.w H s.heap tp (.tup cs) from I.hok tp _ hT)
    cases ClsV.all hp rv
    obtain ⟨oc, od2, dt, sl⟩ := o
    simp only at h2 h3
    subst h2 h3
    exact PySem.W.kia_tup (kit_exc T) I.kIn J h1 e (fun z => nomatch z) fun tk => ⟨.bl b, H, I.tok tk, rfl, q⟩
/-! ### the rules -/
def dXf (i : Nat) (n : Str) (tab : List Str) : DM Sv := fun ρ L => match ρ[i]? with
  | some (some (.xc c fs)) => if c ∈ tab then give ((fs.lookup n).map .val) L else .bad
  | _ => .bad
/-- isinstance(e, k): e in slot i -/
def dIsx (i : Nat) (t : CTab) (fk : DM Sv) : DM Sv := fun ρ L => match ρ[i]? with
  | some (some (.xc c _)) => (fk ρ L).bind fun k L1 => match k with
    | .val (.tup ds) => give (if ds.isEmpty then none else ((ckeys ds).bind (ctabs t c)).map fun b => .val (.bl b)) L1
    | .val d => give (((ckey d).bind (ctab t c)).map fun b => .val (.bl b)) L1
    | _ => .bad
  | _ => .bad
theorem RDf.look {K : PySem.W.Frag} {mg : Str → Option Value} {F : Hp} {ps : List Addr} (n : Str) : ∀ {gs : List (Str × V)} {fs : List (Str × Dv)} {d : Dv}, RDf K mg F ps gs fs → fs.lookup n = some d → ∃ v, gs.lookup n = some v ∧ RD K mg F ps v d
  | _, _, _, .nil, e => by cases e
  | _, _, d, .cons (k := k) h r, e => by
    rw [List.lookup_cons] at e ⊢
    cases hb : n == k with
    | true => rw [hb] at e; cases e; exact ⟨_, rfl, h⟩
    | false => rw [hb] at e; exact RDf.look n r e
section
variable {X : Cx} {W : WX} {a : Addr} {oe : Obj} {cls : Value} {d : Option Addr} {pn : List (Addr × Obj)} {y n : Str} {i : Nat} {tab : List Str} {p p1 p2 pos : Pos}
/-- what the slot of a suite's exception tells -/
theorem xc_at {c : Str} {fs : List (Str × Dv)} {G F : Hp} {ps : List Addr} {v : V} (hz : Zc cls d oe) (m1 : X.mg "isinstance" = none) (m2 : X.mg "repr" = none) (m3 : X.mg "len" = none) (h : XcOk X.K (X.suite a ((a, oe) :: pn)).mg' G F ps v c fs) :
    v = .ref a ∧ ∃ dd C gs, d = some dd ∧ cls = .ref C ∧ X.mg c = some (.ref C) ∧ G dd = some (.xd gs) ∧ RDf X.K (X.suite a ((a, oe) :: pn)).mg' F ps gs fs := by
  obtain ⟨a', dd, C, gs, rfl, e1, e2, e3, e4, e5, e6⟩ := h
  rw [suite_mg hz] at e1 e2 e3 e4
  unfold mgS at e1 e2 e3
  rw [m1] at e1; rw [m2] at e2; rw [m3] at e3
  simp only [] at e1 e2 e3
  rw [if_pos trivial] at e1
  rw [if_neg (by decide), if_pos trivial] at e2
  rw [if_neg (by decide), if_neg (by decide), if_pos trivial] at e3
  have ea : a = a' := by
    have := Option.some.inj e1
    injection this with z
    exact Int.ofNat.inj z
  subst ea
  refine ⟨rfl, dd, C, gs, ?_, ?_, mgS_ref.1 _ _ e4, e5, e6⟩
  · cases d with
    | none => cases e2
    | some d0 =>
      have := Option.some.inj e2
      injection this with z
      rw [Int.ofNat.inj z]
  · split at e3
    · rename_i C0
      have := Option.some.inj e3
      injection this with z
      rw [Int.ofNat.inj z]
    · cases e3
theorem de_xf (hz : Zc cls d oe) (hf : ∃ vs, oe.data = .fields vs) (hN : X.N[i]? = some y) (hv : Vis X.env.scope y) (m1 : X.mg "isinstance" = none) (m2 : X.mg "repr" = none) (m3 : X.mg "len" = none)
    (hfld : ∀ c C, c ∈ tab → X.mg c = some (.ref C) → XfC X.K C ∧ PySem.W.findIn X.K (.ref C) n = some none) (hd : (y == ("__debug__" : Str)) = false := by decide) (hcd : (y == ("__classdict__" : Str)) = false := by decide)
    (hb : attributeBase (.Name y p) n X.env (eval (.Name y p) X.env) = eval (.Name y p) X.env := by rfl) : DE (X.suite a ((a, oe) :: pn)) W (.Attribute (.Name y p) n pos) (dXf i n tab) := ⟨fun pins s σ H Q I h => by
  obtain ⟨G0, G, F, ps, ρ, L, g0, J, S, h⟩ := h
  unfold dXf at h
  split at h
  · rename_i c fs hs
    split at h
    · rename_i hm
      obtain ⟨v, e1, e2⟩ := S.at_ i _ hs
      obtain ⟨rfl, dd, C, gs, rfl, rfl, hC, hG, rf⟩ := xc_at hz m1 m2 m3 e2
      obtain ⟨s2, es, q⟩ := give_wp h
      cases hl : fs.lookup n with
      | none => rw [hl] at es; cases es
      | some dv =>
        rw [hl] at es; cases es
        obtain ⟨u, hu, ru⟩ := rf.look n hl
        obtain ⟨T, hno⟩ := hfld c C hm hC
        exact (pe_xf T hno hz hf (pe_var (X := X.suite a ((a, oe) :: pn)) (i := i) hN hv hd hcd) hb).run pins s σ H Q I ⟨_, e1, rfl, rfl, dd, gs, u, rfl, J.frame _ _ (g0 _ _ hG), hu, QE.now q J ru⟩
    · exact h.elim
  · exact h.elim⟩
theorem de_isx {t : CTab} {k : Expr} {fk : DM Sv} (hz : Zc cls d oe) (hf : ∃ vs, oe.data = .fields vs) (hN : X.N[i]? = some y) (hv : Vis X.env.scope y) (m1 : X.mg "isinstance" = none) (m2 : X.mg "repr" = none) (m3 : X.mg "len" = none) (hg : Gl X "isinstance")
    (ht : CTabOk X.K X.mg t) (hx : ∀ q ∈ t, ∀ C, X.mg q.1 = some (.ref C) → ExcC X.K C) (hk : DE (X.suite a ((a, oe) :: pn)) W k fk) (hd : (y == ("__debug__" : Str)) = false := by decide) (hcd : (y == ("__classdict__" : Str)) = false := by decide)
    (he : starEach [.Name y p, k] X.env = (false, eval (.Name y p) X.env) :: starEach [k] X.env := by rfl) (he2 : starEach [k] X.env = (false, eval k X.env) :: starEach [] X.env := by rfl) (hpl : (backTo pos (starEach [k] X.env)).any (·.1) = false := by rfl) :
    DE (X.suite a ((a, oe) :: pn)) W (.Call (.Name "isinstance" p1) [.Name y p, k] [] pos) (dIsx i t fk) := ⟨fun pins s σ H Q I h => by
  obtain ⟨G0, G, F, ps, ρ, L, g0, J, S, h⟩ := h
  unfold dIsx at h
  split at h
  · rename_i c fs hs
    obtain ⟨v, e1, e2⟩ := S.at_ i _ hs
    obtain ⟨rfl, dd, C, gs, rfl, rfl, hC, hG, rf⟩ := xc_at hz m1 m2 m3 e2
    have ha : PA (X.suite a ((a, oe) :: pn)) [.Name y p, k] (tCons (tVar i) (tCons (tE X.K (X.suite a ((a, oe) :: pn)).mg' W fk) tNil)) := pa_cons (pe_var (X := X.suite a ((a, oe) :: pn)) (i := i) hN hv hd hcd) (pa_cons hk pa_nil he2) he
    refine wpAny_Call_Name_kw (ld_blt I hg m1 PyProof.Rows.boot_isinstance ?_)
    refine PyProof.Rows.callWith_builtin1 (thn (ha.run pos pins s σ H (fun vs H1 => H1 dd = some (.xd gs) ∧ ∃ D, ExcC X.K D ∧ oe.cls = .ref D ∧ rIsX X.K D a vs H1 Q) I ?_) fun us s1 ⟨vs, H1, I1, r1, hg1, D, T, hD, q⟩ => call_isX T hD hf (fun _ _ _ _ _ _ _ _ => trivial) pins s1 σ H1 vs us Q dd gs I1 r1 hz.2 hg1 q) he hpl
    refine ⟨_, e1, ?_⟩
    refine tE_unf g0 J S (Res.wp_bind h) (fun s2 L2 h2 u F2 H2 p2 x2 I2 r2 => ?_) fun e r L' q => q
    refine ⟨I2.frame _ _ (g0 _ _ hG), C, ?_⟩
    have hcls : oe.cls = .ref C := hz.1
    have RE : RefEq (X.suite a ((a, oe) :: pn)).mg' X.mg := fun c C h => (mg_ref (X := X.suite a ((a, oe) :: pn))).mp h
    have any_ex : ∀ {k : CKey} {b : Bool}, ctab t c k = some b → ExcC X.K C := fun {k b} e => by
      unfold ctab at e
      cases hf : t.find? (fun q => decide (q.1 = c) && decide (q.2.1 = k)) with
      | none => rw [hf] at e; cases e
      | some q =>
        have hp := List.find?_some hf
        simp only [Bool.and_eq_true, decide_eq_true_eq] at hp
        exact hx q (List.mem_of_find?_eq_some hf) C (by rw [hp.1]; exact hC)
    split at h2
    · rename_i ds
      obtain ⟨s3, es, q⟩ := give_wp h2
      have hne : ds.isEmpty = false := by
        cases hh : ds.isEmpty with
        | false => rfl
        | true => rw [hh] at es; cases es
      rw [hne, if_neg Bool.false_ne_true] at es
      cases hks : ckeys ds with
      | none => rw [hks] at es; cases es
      | some ks =>
        rw [hks] at es
        cases hb : ctabs t c ks with
        | none => simp [hb] at es
        | some b =>
          simp [hb] at es
          subst es
          obtain ⟨tp, cs, rfl, fp, hp, z, rs⟩ := xv_tup I2 r2
          obtain ⟨us, p1, p2⟩ := ckeys_rel RE hks rs
          have T : ExcC X.K C := by
            cases ks with
            | nil =>
              cases ds with
              | nil => cases hne
              | cons d0 ds0 =>
                unfold ckeys at hks
                split at hks <;> cases hks
            | cons k0 ks0 =>
              unfold ctabs at hb
              split at hb
              · rename_i z; exact any_ex z
              · rename_i z; exact any_ex z
              · cases hb
          exact ⟨T, hcls, .inr ⟨tp, cs, us, b, rfl, hp, p2, ctabs_ok ht hC hb p1, QE.now (QE.ext x2 q) I2 (.bl b)⟩⟩
    · rename_i d _
      obtain ⟨s3, es, q⟩ := give_wp h2
      cases hks : ckey d with
      | none => rw [hks] at es; cases es
      | some k0 =>
        rw [hks] at es
        cases hb : ctab t c k0 with
        | none => simp [hb] at es
        | some b =>
          simp [hb] at es
          subst es
          obtain ⟨uv, c1, c2⟩ := ckey_rel RE hks r2
          exact ⟨any_ex hb, hcls, .inl ⟨u, uv, b, rfl, c2, ctab_ok ht hb hC c1, QE.now (QE.ext x2 q) I2 (.bl b)⟩⟩
    · exact h2.elim
  · exact h.elim⟩
/-- an own class as a value -/
theorem de_cls {X : Cx} {W : WX} {x : Str} {C : Addr} {pos : Pos} (hg : Gl X x) (hm : X.mg x = some (.ref C)) (hb : (x == ("__debug__" : Str)) = false := by decide) : DE X W (.Name x pos) (dC (.cls x)) :=
  de_glob hg hm (v := .ref C) rfl (fun F ps => .cls (mg_ref.mpr hm)) hb
end
end DL

/-! DL, part 17: tuples of new things stored at names; contexts, callees, as the printed proofs use them. -/
namespace DL
open PySem PySem.Spec PyProof.Rows L2
def setAll : List Nat → List Sv → Slo → Option Slo
  | [], [], ρ => some ρ
  | i :: is, s :: ss, ρ => setAll is ss (ρ.set i (some s))
  | _, _, _ => none
def sParT (is : List Nat) (items : List Pit) : DM Fl := fun ρ L => (dPm items ρ L).bind fun ss L1 => match setAll is ss ρ with
  | some r => .ok (.nx r) L1
  | none => .bad
section
variable {K : PySem.W.Frag} {mg : Str → Option Value} {G0 G F H : Hp} {ps : List Addr}
theorem setAll_len : ∀ {is : List Nat} {ss : List Sv} {ρ r : Slo}, setAll is ss ρ = some r → ss.length = is.length
  | [], [], _, _, _ => rfl
  | [], _ :: _, _, _, e => by cases e
  | _ :: _, [], _, _, e => by cases e
  | _ :: is, _ :: ss, _, _, e => by simp [setAll_len (is := is) (ss := ss) e]
theorem tNms_mv : ∀ {is : List Nat} {vs : List V} {ss : List Sv} {σ : List (Option V)} {ρ r : Slo} {Q : List (Option V) → Hp → Prop}, (∀ i ∈ is, i < σ.length) → ρ.length = σ.length → setAll is ss ρ = some r → vs.length = ss.length → Slots K mg G0 G F ps (σ ++ vs.map some) (ρ ++ ss.map some) →
    (∀ σ', Slots K mg G0 G F ps σ' r → Q σ' H) → tNms is vs σ H Q
  | [], [], [], σ, ρ, r, Q, _, _, e, _, S, h => ⟨rfl, h _ (by cases e; simpa using S)⟩
  | [], _ :: _, [], _, _, _, _, _, _, _, hv, _, _ => by simp at hv
  | [], _, _ :: _, _, _, _, _, _, _, e, _, _, _ => by cases e
  | _ :: _, _, [], _, _, _, _, _, _, e, _, _, _ => by cases e
  | _ :: _, [], _ :: _, _, _, _, _, _, _, _, hv, _, _ => by simp at hv
  | i :: is, v :: vs, s :: ss, σ, ρ, r, Q, hi, hl, e, hv, S, h => by
    have S2 := Slots.mv (i := i) (by simpa using S) hl (hi i List.mem_cons_self)
    exact ⟨v, vs, rfl, tNms_mv (fun j hj => by rw [List.length_set]; exact hi j (List.mem_cons_of_mem _ hj)) (by simp [hl]) e (by simpa using hv) S2 h⟩
end
theorem nmok_lt {X : Cx} : ∀ {es : List Expr} {is : List Nat}, NmOk X es is → ∀ i ∈ is, i < X.N.length
  | _, _, .nil, _, h => by cases h
  | _, _, .cons hi _ _ r _, j, h => by
    rcases List.mem_cons.mp h with e | h
    · subst e; exact (List.getElem?_eq_some_iff.mp hi).1
    · exact nmok_lt r j h
section
variable {X : Cx} {W : WX} {es vs : List Expr} {is : List Nat} {items : List Pit} {k k2 : Nat} {p1 p2 pos : Pos}
theorem ds_parT (hc : X.calm = true) (hN : X.N.Nodup) (h_ : NmOk X es is) (hv : DPm X W vs items) (hn : (assignEach es X.env).length = is.length := by rfl) (hst : (assignEach es X.env).findIdx? (·.1) = none := by rfl)
    (hs : swapsWithSole [.Tuple es k p1] (.Tuple vs k2 p2) pos.line X.env = pure false := by rfl) (hw : swappedStores [.Tuple es k p1] (.Tuple vs k2 p2) X.env = pure none := by rfl) (h1 : (assignEach [.Tuple es k p1] X.env).map (·.2) = [assign (.Tuple es k p1) X.env] := by rfl)
    (h16 : is.length ≤ 1000 := by decide) : DS X W (.Assign [.Tuple es k p1] (.Tuple vs k2 p2) pos) (sParT is items) := ⟨fun pins s σ H D J h => (ps_asg (pe_tup hv) (pg_tup (n := is.length) hc (pgs_names hN h_) hn hst) hs hw h1).run pins s σ H D J (by
  have hlen := J.len
  obtain ⟨G0, G, F, ps, ρ, L, g0, I, S, h⟩ := h
  refine ⟨G0, G, F, ps, ρ, L, [], [], g0, I, by simpa using S, S.len, Res.wp_mono (Res.wp_bind h) (fun ss L1 h1 us G1 F1 H1 p1 g1 x1 I1 S1 hv => ?_) fun e r L' q => q⟩
  split at h1
  · rename_i r hr
    have hl := setAll_len hr
    refine ⟨by rw [hv, hl]; exact Nat.le_trans h16 (by rw [sizeLine_eq]; decide), fun p hp => ?_⟩
    refine ⟨p, us, rfl, SqT.of upd_same, by rw [hv, hl], tNms_mv (G0 := G0) (G := G1) (F := F1) (ps := p1) (K := X.K) (mg := X.mg') (fun j hj => by rw [hlen]; exact nmok_lt h_ j hj) S.len hr hv (by simpa using S1) fun σ' S' => ?_⟩
    exact h1 σ' G1 F1 _ p1 g1 x1 (I1.beside hp) S'
  · exact h1.elim)⟩
end
/-! ### contexts as the printed proofs have them -/
/-- what of a context the text does not tell -/
structure Mi where
  A : Around
  s0 : Shared
  H0 : Hp
  l : Addr
  g : Addr
  cl : List (Str × Addr)
  q : Str
  fu : Option Addr
  cd : Value
  bu : Addr
  out : List Env
  ex : List Addr
  pn : List (Addr × Obj)
  xe : Value → Shared → Prop
abbrev Mi.env (m : Mi) (sc : Scope) : Env := { scope := sc, locals := m.l, globals := m.g, cells := m.cl, qual := m.q, func := m.fu, code := m.cd, frame := some m.l, builtins := m.bu }
abbrev cxm (P : Program) (w : World) (K : PySem.W.Frag) (mg : Str → Option Value) (base : Heap) (N : List Str) (sc : Scope) (m : Mi) : Cx :=
  { prog := P, w := w, K := K, mg := mg, base := base, A := m.A, N := N, s_0 := m.s0, H_0 := m.H0, env := m.env sc, outer := m.out, stack := m.env sc :: m.out, ex := m.ex, fn := fun _ => true, calm := true, pn := m.pn, xe := m.xe }
/-- a global def, ready to be called: its text, its parameters, what it does -/
structure Cal (P : Program) (w : World) (K : PySem.W.Frag) (mg : Str → Option Value) (base : Heap) (k : Nat) (x q : Str) (st : Stmt) (ps : List Str) (m : List Sv → Led → Res Dv) : Prop where
  ex : ∃ f fd, Fun K x q st f fd ∧ mg x = some (.ref f) ∧ Binds K fd ps [] ∧ DFn P w K mg base k f fd ps m
/-- a def of the text, there -/
def DefAt (K : PySem.W.Frag) (mg : Str → Option Value) (x q : Str) (st : Stmt) : Prop := ∃ f fd, Fun K x q st f fd ∧ mg x = some (.ref f)
section
variable {P : Program} {w : World} {K : PySem.W.Frag} {mg : Str → Option Value} {base : Heap} {k : Nat} {x q : Str} {N ps : List Str} {st : Stmt} {fb : DM Fl}
theorem cal_of (D : DefAt K mg x q st) (S : FnScope N ps (defScope st)) (hbd : ∀ {f : Addr} {fd : FuncData}, Fun K x q st f fd → Binds K fd ps [])
    (hb : ∀ (m : Mi) (W : WX), m.A.guards = some [] → Room k m.A → Takes (cxm P w K mg base N (defScope st) m) W → PassesOwn (model P w) m.A (m.env (defScope st)) m.xe → DSs (cxm P w K mg base N (defScope st) m) W (defBody st) fb) :
    Cal P w K mg base (k + 1) x q st ps (mOf N.length fb) := by
  obtain ⟨f, fd, F, hm⟩ := D
  refine ⟨f, fd, F, hm, hbd F, dfn_of F S fun X W e1 e2 e3 e4 e5 e6 e7 e8 e9 e10 e11 g r t p => ?_⟩
  obtain ⟨prog, w', K', mg', base', A, N', s0, H0, env, out, stk, ex, fn, calm, pn, xe⟩ := X
  obtain ⟨sc, l, gl, cl, qu, fu, cd, fr, bu⟩ := env
  simp only at e1 e2 e3 e4 e5 e6 e7 e8 e9 e10 e11
  subst e1 e2 e3 e4 e5 e6 e7 e8 e9 e10 e11
  exact hb ⟨A, s0, H0, l, gl, cl, qu, fu, cd, bu, out, ex, pn, xe⟩ W g r t p
end
section
variable {X : Cx} {W : WX} {x q : Str} {st : Stmt} {k j n i : Nat} {ps ks : List Str} {perm : List Nat} {m : List Sv → Led → Res Dv} {e : Expr} {es : List Expr} {fr fk : DM (List Sv)} {kws : List Keyword} {p pos : Pos}
theorem de_cal (c : Cal X.prog X.w X.K X.mg X.base j x q st ps m) (hg : Gl X x) (hc : X.calm = true) (hgu : X.A.guards = some []) (hr : Room k X.A) (hj : j ≤ k) (tk : Takes X W) (ha : DA X W (e :: es) fr) (hdb : (x == ("__debug__" : Str)) = false := by decide)
    (he : starEach (e :: es) X.env = (false, eval e X.env) :: starEach es X.env := by rfl) (hpl : (backTo pos (starEach es X.env)).any (·.1) = false := by rfl) (hn : ps.length = n := by rfl) : DE X W (.Call (.Name x p) (e :: es) [] pos) (dCall n m fr) := by
  subst hn
  obtain ⟨f, fd, F, hm, hb, D⟩ := c.ex
  exact de_call hc D hgu (hr.mono hj) hg hm F.kp hb tk ha hdb he hpl
theorem de_cal0 (c : Cal X.prog X.w X.K X.mg X.base j x q st ps m) (hg : Gl X x) (hc : X.calm = true) (hgu : X.A.guards = some []) (hr : Room k X.A) (hj : j ≤ k) (tk : Takes X W) (hdb : (x == ("__debug__" : Str)) = false := by decide) (hn : ps.length = n := by rfl) : DE X W (.Call (.Name x p) [] [] pos) (dCall n m dArgs0) := by
  subst hn
  obtain ⟨f, fd, F, hm, hb, D⟩ := c.ex
  exact de_call0 hc D hgu (hr.mono hj) hg hm F.kp hb tk hdb
/-- how keywords bind, by the def's own list of arguments -/
def KwOk (x q : Str) (st : Stmt) (ps : List Str) (n : Nat) (ks : List Str) (perm : List Nat) : Prop :=
  ∀ (kV doc pm : Value) (an : Option Addr) (cdv ct : Value) (us ws : List Value), us.length = n → ws.length = ks.length → bindArgs (PySem.W.fnOf x q (defArgs st) (defBody st) (defScope st) .none kV doc pm an cdv ct) ⟨us, ks.zip ws⟩ = pure (ps.zip (pick perm (us ++ ws)))
theorem pick_len {α : Type} : ∀ {perm : List Nat} {l : List α}, (∀ i ∈ perm, i < l.length) → (pick perm l).length = perm.length
  | [], _, _ => rfl
  | i :: p, l, h => by
    have hi := h i List.mem_cons_self
    unfold pick
    rw [List.getElem?_eq_getElem hi]
    simp [pick_len (perm := p) (l := l) fun j hj => h j (List.mem_cons_of_mem _ hj)]
theorem de_calK (c : Cal X.prog X.w X.K X.mg X.base j x q st ps m) (kw : KwOk x q st ps n ks perm) (hpm : perm.length = ps.length) (hpi : ∀ i ∈ perm, i < n + ks.length) (hg : Gl X x) (hc : X.calm = true) (hgu : X.A.guards = some []) (hr : Room k X.A) (hj : j ≤ k) (tk : Takes X W) (ha : DA X W (e :: es) fr) (hkw : DK X W kws fk)
    (hall : (backToKw pos (keywordEach kws X.env)).all (·.1.isSome) = true := by rfl) (hks : (backToKw pos (keywordEach kws X.env)).filterMap (·.1) = ks := by rfl)
    (hdb : (x == ("__debug__" : Str)) = false := by decide) (he : starEach (e :: es) X.env = (false, eval e X.env) :: starEach es X.env := by rfl)
    (hpl : ((backTo pos (starEach (e :: es) X.env)).any (·.1) || (backToKw pos (keywordEach kws X.env)).any (·.1.isNone)) = false := by rfl) (hn : ks.length = i := by rfl) : DE X W (.Call (.Name x p) (e :: es) kws pos) (dCallK n i perm m fr fk) := by
  subst hn
  obtain ⟨f, fd, F, hm, hb, D⟩ := c.ex
  exact de_callK hc D hgu (hr.mono hj) hg hm F.kp (kbd_of F kw) (fun l hl => (pick_len (by rw [hl]; exact hpi)).trans hpm) tk ha hkw hall hks hdb he hpl
theorem de_calK0 (c : Cal X.prog X.w X.K X.mg X.base j x q st ps m) (kw : KwOk x q st ps 0 ks perm) (hpm : perm.length = ps.length) (hpi : ∀ i ∈ perm, i < 0 + ks.length) (hg : Gl X x) (hc : X.calm = true) (hgu : X.A.guards = some []) (hr : Room k X.A) (hj : j ≤ k) (tk : Takes X W) (hkw : DK X W kws fk)
    (hall : (backToKw pos (keywordEach kws X.env)).all (·.1.isSome) = true := by rfl) (hks : (backToKw pos (keywordEach kws X.env)).filterMap (·.1) = ks := by rfl)
    (hdb : (x == ("__debug__" : Str)) = false := by decide) (hpl : (backToKw pos (keywordEach kws X.env)).any (·.1.isNone) = false := by rfl) (hn : ks.length = i := by rfl) : DE X W (.Call (.Name x p) [] kws pos) (dCallK 0 i perm m dArgs0 fk) := by
  subst hn
  obtain ⟨f, fd, F, hm, hb, D⟩ := c.ex
  exact de_callK0 hc D hgu (hr.mono hj) hg hm F.kp (kbd_of F kw) (fun l hl => (pick_len (by rw [hl]; exact hpi)).trans hpm) tk hkw hall hks hdb hpl
end
end DL

/-! DL, part 18: the law's own call. -/
namespace DL
open PySem PySem.Spec PyProof.Rows L2
/-- the heap in which the script alone is tracked -/
def onlyAt (a : Addr) (o : Obj) (ns : List Int) : Hp := fun b => if b = a then some (.frz o (.lst (ns.map V.int))) else none
theorem onlyAt_ne {a b : Addr} {o : Obj} {ns : List Int} (h : onlyAt a o ns b ≠ none) : b = a := by
  unfold onlyAt at h
  split at h
  · assumption
  · exact absurd rfl h
section
variable {P : Program} {w : World} {K : PySem.W.Frag} {mg mb : Str → Option Value} {k : Nat} {fa a : Addr} {fd : FuncData} {x : Str} {m : List Sv → Led → Res Dv} {s₁ : Shared} {vs : List Value} {ns : List Int}
/-- the def runs at a heap H0 in which nothing but the script stands -/
theorem run_at {H0 : Hp} (KX : K.In s₁.heap) (hns : s₁.heap.Ns mainGlobals mg) (hb : s₁.heap.Ns builtinsNs mb) (hbb : ∀ x : Str, x ≠ "__name__" → mb x = bootBuiltins x) (hlim : s₁.heap.NoLimit) (hg : s₁.gens = #[])
    (ha : s₁.heap.get? a = some { cls := .type "list", data := .seq vs.toArray }) (hr : Room k callerA) (hgu : callerA.guards = some []) (F : ∀ base : Heap, K.In base → base.Ns mainGlobals mg → DFn P w K mg base k fa fd [x] m) (hbind : ∀ (s : Shared) (u : Value), BindsTo s fd ⟨[u], []⟩ [(x, u)])
    (hS : SqL K H0 a (ns.map V.int)) (hO : Only H0) (hok : HOk P w H0 s₁.heap) (only : ∀ b, H0 b ≠ none → b = a) (noK : H0 a ≠ none → K.lookup a = none) (hm : (m [.val (.scr ns)] []).wp (fun d _ => d = .bl true) (fun _ _ _ => False)) :
    codeAny (model P w) callerA (.call (.ref fa) ⟨[.ref a], []⟩) (fun r s' => r = .ok (.ret (.bool true)) ∧ OldK s₁.heap s'.heap ∧ s'.os = s₁.os ∧ AllBare s'.gens) s₁ := by
  have dict_free : ∀ {c : Addr} {ob : Obj} {es : Array DictEntry} {n : Nat}, s₁.heap.get? c = some ob → ob.data = .dict es n → H0 c = none := by
    intro c ob es n e1 e2
    by_cases z : H0 c = none
    · exact z
    · have := only c z
      subst this
      rw [ha] at e1; cases e1; cases e2
  have ns_hid : ∀ {c : Addr} {f : Str → Option Value}, s₁.heap.Ns c f → (hidT s₁.heap H0).Ns c f := by
    rintro c f ⟨ob, es, n, e1, e2, r⟩
    exact ⟨ob, es, n, hidT_get e1 (dict_free e1 e2), e2, r⟩
  have k_hid : K.In (hidT s₁.heap H0) := by
    intro c ob e1
    refine hidT_get (KX c ob e1) ?_
    by_cases z : H0 c = none
    · exact z
    · have := only c z
      subst this
      rw [noK z] at e1; cases e1
  have lim : (hidT s₁.heap H0).NoLimit := by
    obtain ⟨f, e1, e2⟩ := hlim
    exact ⟨f, ns_hid e1, e2⟩
  have env0 : Env0 P w K mg (hidT s₁.heap H0) callerA [] s₁ H0 :=
    ⟨rfl, ⟨k_hid, ns_hid hns, ⟨mb, ns_hid hb, hbb⟩, lim⟩, fun c ob e1 => of_hidT e1, Nat.le_of_eq (hidT_size _ _), trivial, (fun c hc => by cases hc), hok, .of_eq hg⟩
  have start : HS K mg (fun _ => none) H0 H0 [] [] := ⟨(fun _ _ e => by cases e), Same.refl _, (fun _ e => absurd rfl e), rfl, (fun _ _ _ e => by simp at e), (fun _ e => by cases e), (fun _ _ _ e => by simp at e)⟩
  have arg : XvsOk K mg (fun _ => none) H0 [] [.ref a] [.val (.scr ns)] := .cons (.scr hS) .nil
  have prom : spOf K mg [x].length m [.ref a] H0 (fun v _ => v = .bl true) (fun _ _ _ => False) := by
    refine ⟨rfl, _, _, _, _, _, start, arg, Res.wp_mono hm (fun d L e v F' H' p' _ _ r => ?_) fun _ _ _ q => q.elim⟩
    subst e
    cases r; rfl
  refine codeAny_mono ((F _ k_hid (ns_hid hns)).go callerA [] s₁ H0 ⟨[.ref a], []⟩ [.ref a] [.ref a] _ _ hgu hr env0 (hbind s₁ (.ref a)) (.cons rfl .nil) prom) ?_
  intro r s' h
  match r, h with
  | .error e, h =>
    obtain ⟨_, _, _, _, _, _, _, _, _, _, _, _, q⟩ := h
    exact False.elim q
  | .ok (.ret u), h =>
    obtain ⟨v, H2, eos, bare, un, hok2, rv, q⟩ := h
    cases (show v = .bl true from q)
    cases (show u = Value.bool true from rv)
    refine ⟨rfl, OldK.of_keep fun c ob e1 => ?_, eos, bare⟩
    cases z : H0 c with
    | none => exact un.keep c ob e1 z (fun hc => by cases hc) (fun hc => by cases hc)
    | some u =>
      rcases hO c with z2 | ⟨o2, xs, z2⟩
      · rw [z] at z2; cases z2
      · have old := (hok c _ z2).1
        have new := (hok2 c _ (un.frzs c o2 _ z2)).1
        rw [e1] at old
        rw [Option.some.inj old]
        exact new
  | .ok .next, h => exact False.elim h
  | .ok .brk, h => exact False.elim h
  | .ok .cont, h => exact False.elim h
/-- the law's call, from what the law's def does with a script -/
theorem law_at (KX : K.In s₁.heap) (hns : s₁.heap.Ns mainGlobals mg) (hb : s₁.heap.Ns builtinsNs mb) (hbb : ∀ x : Str, x ≠ "__name__" → mb x = bootBuiltins x) (hlim : s₁.heap.NoLimit) (hg : s₁.gens = #[])
    (ha : s₁.heap.get? a = some { cls := .type "list", data := .seq vs.toArray }) (hi : IntsAre vs ns) (hl : ns.length ≤ sizeLine) (hr : Room k callerA) (hgu : callerA.guards = some []) (F : ∀ base : Heap, K.In base → base.Ns mainGlobals mg → DFn P w K mg base k fa fd [x] m) (hbind : ∀ (s : Shared) (u : Value), BindsTo s fd ⟨[u], []⟩ [(x, u)])
    (hm : (m [.val (.scr ns)] []).wp (fun d _ => d = .bl true) (fun _ _ _ => False)) :
    codeAny (model P w) callerA (.call (.ref fa) ⟨[.ref a], []⟩) (fun r s' => r = .ok (.ret (.bool true)) ∧ OldK s₁.heap s'.heap ∧ s'.os = s₁.os ∧ AllBare s'.gens) s₁ := by
  have rel := vals_ints hi
  cases hk : K.lookup a with
  | some o =>
    have there := KX a o hk
    rw [ha] at there
    cases there
    have inK : SqL K (fun _ => none) a (ns.map V.int) := .inr ⟨_, vs.toArray, _, hk, rfl, rfl, rfl, by rw [List.size_toArray, hi.length]; exact hl, by simpa using rel⟩
    exact run_at (H0 := fun _ => none) KX hns hb hbb hlim hg ha hr hgu F hbind inK (fun _ => .inl rfl) (fun b u z => by cases (show (none : Option HO) = some u from z)) (fun _ z => absurd rfl z) (fun z => absurd rfl z) hm
  | none =>
    have here : onlyAt a { cls := .type "list", data := .seq vs.toArray } ns a = some (.frz { cls := .type "list", data := .seq vs.toArray } (.lst (ns.map V.int))) := if_pos rfl
    refine run_at (H0 := onlyAt a { cls := .type "list", data := .seq vs.toArray } ns) KX hns hb hbb hlim hg ha hr hgu F hbind (.inl (.inr ⟨_, here⟩)) (fun b => ?_) (fun b u z => ?_) (fun _ z => onlyAt_ne z) (fun _ => hk) hm
    · by_cases hb : b = a
      · rw [hb]; exact .inr ⟨_, _, here⟩
      · exact .inl (if_neg hb)
    · have e : b = a := onlyAt_ne (by rw [z]; simp)
      subst e
      rw [here] at z
      cases z
      exact ⟨ha, by rw [List.length_map]; exact hl, vs, _, rel, ha⟩
end
/-- the walk behind the head, from what the law's def does -/
theorem walk_dl {l : PySem.W.OpenLaw} {n k : Nat} {q : Program} {loose : List Str} {XP : (Str → Option Value) → Heap → Prop} {YP : World → Heap → Prop} {d : DefRec} {x : Str}
    (hn : l.most = some n) (hn2 : n ≤ sizeLine) (hdf : d.params.defaults = []) (hr : Room k callerA) (hgu : callerA.guards = some [])
    (F : ∀ (w : World) (mg : Str → Option Value) (fa : Addr) (h : Heap), YP w h → h.Ns mainGlobals mg → mg d.name = some (.ref fa) →
      ∃ (K : PySem.W.Frag) (fd : FuncData) (m : List Sv → Led → Res Dv), K.In h ∧ (∀ (s : Shared) (u : Value), BindsTo s fd ⟨[u], []⟩ [(x, u)]) ∧
        (∀ ns : List Int, ns.length ≤ n → (m [.val (.scr ns)] []).wp (fun d _ => d = .bl true) (fun _ _ _ => False)) ∧ ∀ base : Heap, K.In base → base.Ns mainGlobals mg → DFn l.prog w K mg base k fa fd [x] m) :
    PySem.W.WalkO q loose XP YP l.row.toRowW d [] (fun f vs => PySem.call f vs) := by
  refine Att.attach_call hn hdf fun w s0 s1 mg mb fa o pm cd doc a vs ns G Y ho hd hcd hmg hobj hints hlen hg => ?_
  obtain ⟨K, fd, m, KX, bnd, hm, hF⟩ := F w mg fa _ Y G.T.g hmg
  exact law_at KX G.T.g G.T.b G.T.builtins G.T.nolimit hg hobj hints (Nat.le_trans hlen hn2) hr hgu hF bnd (hm ns hlen)
end DL

/-! DL, part 19: small rules for the printed proofs. -/
namespace DL
open PySem PySem.Spec PyProof.Rows L2
section
variable {X : Cx} {W : WX} {x z : Str} {i : Int} {pos : Pos}
theorem de_gstr (h : ∃ t, X.mg x = some (.str z t)) (hg : Gl X x) (hz : z.length ≤ sizeLine := by decide +kernel) (hb : (x == ("__debug__" : Str)) = false := by decide) : DE X W (.Name x pos) (dC (.str z)) :=
  let ⟨t, ht⟩ := h; de_glob hg ht (v := .str z) ⟨t, rfl⟩ (fun _ _ => .str _ hz) hb
theorem de_gint (h : ∃ t, X.mg x = some (.int i t)) (hg : Gl X x) (hb : (x == ("__debug__" : Str)) = false := by decide) : DE X W (.Name x pos) (dC (.int i)) :=
  let ⟨t, ht⟩ := h; de_glob hg ht (v := .int i) ⟨t, rfl⟩ (fun _ _ => .int _) hb
end
theorem u_of {k : Nat} {A : Around} {n : Nat} (h : Room k A) (hn : n ≤ 200) : A.units + n < cLine := by have := h.un; omega
end DL

/-! DL, part 20: what the head must tell: the modules' table among it, own errors. -/
namespace DL
open PySem PySem.Spec PyProof.Rows L2
/-! ### facts about own errors' classes -/
def oexB (K : PySem.W.Frag) (C : Addr) : Bool := match K.lookup C with
  | some ⟨.type t, _, .cls cd, sl⟩ => decide (t = "type") && (cd.hasDict && (!cd.hasDel && ((match cd.mro with
      | .ref D :: bm => decide (D = C) && PySem.HandSPX.refsVE bm
      | _ => false) && (match sl.toList with
      | [_, _, _, _, some (.builtin n), _] => decide (n = "ValueError.__new__")
      | _ => false))))
  | _ => false
theorem oexB_ok {K : PySem.W.Frag} {C : Addr} (h : oexB K C = true) : ∃ nm q N bs bm sn sub ab col dd k0 k1 k2 k3 k5, K.lookup C = some (excClassObj nm q C N bs bm true sn sub ab col dd k0 k1 k2 k3 k5 "ValueError.__new__") ∧ PySem.HandSPX.refsVE bm = true := by
  unfold oexB at h
  split at h
  · rename_i t dd cd sl hl
    simp only [Bool.and_eq_true, decide_eq_true_eq, Bool.not_eq_true'] at h
    obtain ⟨h1, h2, h3, h4, h5⟩ := h
    obtain ⟨nm, bs, mro, N, q, hd, sn, sub, ab, col, del⟩ := cd
    simp only at h2 h3 h4
    split at h4
    · rename_i D bm
      simp only [Bool.and_eq_true, decide_eq_true_eq] at h4
      split at h5
      · rename_i a0 a1 a2 a3 n a5 hsl
        have es : sl = #[a0, a1, a2, a3, some (.builtin n), a5] := by
          rw [← Array.toArray_toList (xs := sl), hsl]
        subst h1 h2 h3 es
        rw [of_decide_eq_true h5, h4.1] at hl
        exact ⟨nm, q, N, bs, bm, sn, sub, ab, col, dd, a0, a1, a2, a3, a5, hl, h4.2⟩
      · cases h5
    · cases h4
  · cases h
/-- facts -/
inductive Fx where
  /-- an own error that is raised: class x -/
  | err (x : Str)
  /-- an own error's fields can be read -/
  | fld (x f : Str)
  /-- isinstance asks the instances of x rightly -/
  | exi (x : Str)
  /-- S.__init__ is ValueError's -/
  | sup (s : Str)
  /-- isinstance of an x and a class -/
  | kit (x : Str) (k : CKey) (b : Bool)
  | sys
def ckV (K : PySem.W.Frag) : CKey → Value
  | .inl k => .ref (He.ga K k)
  | .inr n => .type n
def Fx.ok (K : PySem.W.Frag) : Fx → Bool
  | .err x => oexB K (He.ga K x) && (decide (PySem.W.findIn K (.ref (He.ga K x)) "__setattr__" = some (some (.builtin "object.__setattr__"))) && (decide (PySem.W.subIn K (.ref (He.ga K x)) (.type "BaseException") = some true) && (decide (PySem.W.typeIn K (.ref (He.ga K x)) = some (.type "type")) && (PySem.W.keepIn K (.ref (He.ga K x)) &&
      (decide (PySem.W.findIn K (.ref (He.ga K x)) "__init__" = some (some (.ref (He.ma K (He.ga K x) "__init__")))) && decide (PySem.W.typeIn K (.ref (He.ma K (He.ga K x) "__init__")) = some (.type "function")))))))
  | .fld x f => xfB K (He.ga K x) && decide (PySem.W.findIn K (.ref (He.ga K x)) f = some none)
  | .exi x => decide (PySem.W.findIn K (.ref (He.ga K x)) "__getattribute__" = some (some (.builtin "BaseException.__getattribute__"))) && (decide (PySem.W.findIn K (.ref (He.ga K x)) "__getattr__" = some none) && (decide (PySem.W.subIn K (.ref (He.ga K x)) (.type "BaseException") = some true) && (PySem.W.hasDictIn K (He.ga K x) &&
      (decide (PySem.W.findIn K (.ref (He.ga K x)) "__class__" = some (some (.builtin "object.__class__"))) && (decide (PySem.W.specialIn K (.builtin "object.__class__") "__get__" = some (some (.builtin "getset_descriptor.__get__"))) && (decide (PySem.W.takesIn K (.builtin "object.__class__") = some true) && decide (PySem.W.mroIn K (He.ga K x) (.type "object") = some true)))))))
  | .sup s => PySem.W.readsIn K (He.ga K s) (.type "type") && (decide (PySem.W.specialIn K (.ref (He.ga K s)) "__getattribute__" = some (some (.builtin "type.__getattribute__"))) && (match PySem.W.findCls K (.ref (He.ga K s)) (.type "type") "__init__" with
      | some (.val v) => decide (v = .builtin "ValueError.__init__")
      | _ => false))
  | .kit x k b => decide (PySem.W.kitOne K (.ref (He.ga K x)) (ckV K k) = some b)
  | .sys => (K.lookup sysModules).isSome
section
variable {K : PySem.W.Frag} {mg : Str → Option Value} {x f s : Str}
theorem sys_ok (h : Fx.sys.ok K = true) : SysK K := Option.isSome_iff_exists.mp h
theorem err_ok (h : (Fx.err x).ok K = true) (g : mg x = some (.ref (He.ga K x))) : ErrC K mg x (He.ga K x) (He.ma K (He.ga K x) "__init__") := by
  simp only [Fx.ok, Bool.and_eq_true, decide_eq_true_eq] at h
  obtain ⟨h1, h2, h3, h4, h5, h6, h7⟩ := h
  exact ⟨g, ⟨oexB_ok h1, h2, h3, h4, h5⟩, h6, h7⟩
theorem fld_ok (h : (Fx.fld x f).ok K = true) : XfC K (He.ga K x) ∧ PySem.W.findIn K (.ref (He.ga K x)) f = some none := by
  simp only [Fx.ok, Bool.and_eq_true, decide_eq_true_eq] at h
  exact ⟨xfB_ok h.1, h.2⟩
theorem exi_ok (h : (Fx.exi x).ok K = true) : ExcC K (He.ga K x) := by
  simp only [Fx.ok, Bool.and_eq_true, decide_eq_true_eq] at h
  obtain ⟨h1, h2, h3, h4, h5, h6, h7, h8⟩ := h
  exact ⟨h1, h2, h3, h4, h5, h6, h7, h8⟩
theorem sup_ok (h : (Fx.sup s).ok K = true) : ClX.CRead K (He.ga K s) (.type "type") ∧ PySem.W.findCls K (.ref (He.ga K s)) (.type "type") "__init__" = some (.val (.builtin "ValueError.__init__")) := by
  simp only [Fx.ok, Bool.and_eq_true, decide_eq_true_eq] at h
  obtain ⟨h1, h2, h3⟩ := h
  refine ⟨⟨h1, h2⟩, ?_⟩
  split at h3
  · rename_i v e
    rw [e, of_decide_eq_true h3]
  · cases h3
theorem kit_ok {k : CKey} {b : Bool} (h : (Fx.kit x k b).ok K = true) : PySem.W.kitOne K (.ref (He.ga K x)) (ckV K k) = some b := of_decide_eq_true h
/-- a class's address by its name -/
theorem ga_of {C : Addr} (g : mg x = some (.ref (He.ga K x))) (h : mg x = some (.ref C)) : C = He.ga K x := by
  rw [g] at h
  exact (Value.ref.inj (Option.some.inj h)).symm
theorem cval_of {k : CKey} {v : Value} (g : ∀ y, k = .inl y → mg y = some (.ref (He.ga K y))) (h : CVl mg k v) : v = ckV K k := by
  cases k with
  | inl y =>
    obtain ⟨D, hD, rfl⟩ := h
    rw [ga_of (g y rfl) hD]; rfl
  | inr n => exact h
/-- a table of answers, entry by entry -/
theorem ctab_of {t : CTab} (g : ∀ q ∈ t, mg q.1 = some (.ref (He.ga K q.1)) ∧ (∀ y, q.2.1 = .inl y → mg y = some (.ref (He.ga K y))) ∧ (Fx.kit q.1 q.2.1 q.2.2).ok K = true) : CTabOk K mg t := fun q hq C v hC hv => by
  obtain ⟨g1, g2, g3⟩ := g q hq
  rw [ga_of g1 hC, cval_of g2 hv]
  exact kit_ok g3
end
/-! ### the hook -/
def frS (g : Addr → Option Obj) (n : Nat) : PySem.W.Frag := He.frT g (sysModules :: cStatics :: He.asD g n)
abbrev AlS : Type := He.Al × Bool
def obsS (n : Nat) (fa : List He.Fa) (fn : List He.FnD) (fx : List Fx) (g : Addr → Option Obj) : AlS := (He.obsE fa fn (frS g n), fx.all fun f => f.ok (frS g n))
def SaysS (fa : List He.Fa) (fn : List He.FnD) (fx : List Fx) (K : PySem.W.Frag) : Prop := He.SaysE fa fn K ∧ (fx.all fun f => f.ok K) = true
def hookS (n : Nat) (fa : List He.Fa) (fn : List He.FnD) (fx : List Fx) : PySem.W.Hook where
  α := AlS
  obs := fun s => obsS n fa fn fx s.heap.get?
  val := fun _ => (He.valE fn, true)
  says := fun _ h => ∃ K : PySem.W.Frag, K.In h ∧ SaysS fa fn fx K
  of := fun _ _ e => ⟨_, He.frT_in, congrArg (fun z : AlS => z.1) e, congrArg (fun z : AlS => z.2) e⟩
  keeps := fun _ _ _ ⟨K, hK, c⟩ k => ⟨K, PySem.W.Frag.In.keeps hK k, c⟩
theorem obsS_eq {n : Nat} {fa : List He.Fa} {fn : List He.FnD} {fx : List Fx} {g : Addr → Option Obj} {s : Shared} (h : ∀ a, g a = s.heap.get? a) : obsS n fa fn fx g = (hookS n fa fn fx).obs s := by
  have e : g = s.heap.get? := funext h
  subst e; rfl
section
variable {fa : List He.Fa} {fn : List He.FnD} {fx : List Fx} {K : PySem.W.Frag} {h : Heap} {mg : Str → Option Value}
theorem SaysS.ownf (c : SaysS fa fn fx K) {f : Fx} (i : Nat) (hf : fx[i]? = some f := by rfl) : f.ok K = true := List.all_eq_true.mp c.2 f (List.mem_of_getElem? hf)
theorem SaysS.kitf (c : SaysS fa fn fx K) {f : He.Fa} (i : Nat) (hf : fa[i]? = some f := by rfl) : f.ok K = true := He.SaysE.fact c.1 i hf
/-- a def that the head has told -/
theorem SaysS.deff (c : SaysS fa fn fx K) {x : Str} {st : Stmt} (i : Nat) (hf : fn[i]? = some ⟨(x, none), x, x, defArgs st, defBody st, defScope st⟩) (hk : PySem.W.keepIn K (.ref (He.ga K x)) = true) (g : mg x = some (.ref (He.ga K x))) : DefAt K mg x x st := by
  obtain ⟨oc, od, osl, kV, doc, pm, an, cdv, ct, e1, e2⟩ := He.SaysE.def_ c.1 i hf
  exact ⟨_, _, ⟨⟨oc, od, kV, doc, pm, an, cdv, ct, osl, rfl, e1, e2⟩, hk⟩, g⟩
theorem SaysS.ini (c : SaysS fa fn fx K) {x q : Str} {st : Stmt} (i : Nat) (hf : fn[i]? = some ⟨(x, some "__init__"), "__init__", q, defArgs st, defBody st, defScope st⟩) (hk : PySem.W.keepIn K (.ref (He.ma K (He.ga K x) "__init__")) = true) : ∃ fd, Fun K "__init__" q st (He.ma K (He.ga K x) "__init__") fd := by
  obtain ⟨oc, od, osl, kV, doc, pm, an, cdv, ct, e1, e2⟩ := He.SaysE.def_ c.1 i hf
  exact ⟨_, ⟨⟨oc, od, kV, doc, pm, an, cdv, ct, osl, rfl, e1, e2⟩, hk⟩⟩
/-- what an except clause asks, class by class -/
theorem exm_of {l : List (Str × Bool)} {cx : Value} (g : ∀ q ∈ l, mg q.1 = some (.ref (He.ga K q.1)) ∧ PySem.W.exmOne K (.ref (He.ga K q.1)) cx = some q.2) : ∀ c C b, l.lookup c = some b → mg c = some (.ref C) → PySem.W.exmOne K (.ref C) cx = some b := by
  intro c C b hl hC
  obtain ⟨g1, g2⟩ := g (c, b) (look_in hl)
  rw [ga_of g1 hC]; exact g2
where
  look_in {c : Str} {b : Bool} : ∀ {l : List (Str × Bool)}, l.lookup c = some b → (c, b) ∈ l
    | [], h => by cases h
    | (k, v) :: r, h => by
      rw [List.lookup_cons] at h
      cases e : c == k with
      | true => rw [e] at h; cases h; rw [beq_iff_eq.mp e]; exact List.mem_cons_self
      | false => rw [e] at h; exact List.mem_cons_of_mem _ (look_in h)
theorem fld_of {tab : List Str} {f : Str} (g : ∀ c ∈ tab, mg c = some (.ref (He.ga K c)) ∧ (Fx.fld c f).ok K = true) : ∀ c C, c ∈ tab → mg c = some (.ref C) → XfC K C ∧ PySem.W.findIn K (.ref C) f = some none := fun c C hc hC => by
  obtain ⟨g1, g2⟩ := g c hc
  rw [ga_of g1 hC]; exact fld_ok g2
theorem exi_of {tab : List Str} (g : ∀ c ∈ tab, mg c = some (.ref (He.ga K c)) ∧ (Fx.exi c).ok K = true) : ∀ c ∈ tab, ∀ C, mg c = some (.ref C) → ExcC K C := fun c hc C hC => by
  obtain ⟨g1, g2⟩ := g c hc
  rw [ga_of g1 hC]; exact exi_ok g2
end
/-- the law's def, the same over every base -/
theorem end_of {P : Program} {w : World} {K : PySem.W.Frag} {mg : Str → Option Value} {k : Nat} {x q : Str} {st : Stmt} {ps : List Str} {m : List Sv → Led → Res Dv} {f : Addr} (h0 : Heap) (hc : ∀ base, Cal P w K mg base k x q st ps m) (hf : mg x = some (.ref f)) :
    ∃ fd, Fun K x q st f fd ∧ ∀ base, DFn P w K mg base k f fd ps m := by
  obtain ⟨f0, fd0, F0, g0, _, D0⟩ := (hc h0).ex
  rw [g0] at hf
  cases hf
  refine ⟨fd0, F0, fun base => ?_⟩
  obtain ⟨f1, fd1, F1, g1, _, D1⟩ := (hc base).ex
  rw [g0] at g1
  cases g1
  obtain ⟨_, _, _, _, _, _, _, _, _, _, e0, _⟩ := F0.ex
  obtain ⟨_, _, _, _, _, _, _, _, _, _, e1, _⟩ := F1.ex
  rw [e0] at e1
  cases e1
  exact D1
/-- a class's body -/
def clsB : Stmt → List Stmt
  | .ClassDef (body := b) .. => b
  | _ => []
end DL

/-! DL, part 21: own classes: made, their fields, their methods. -/
namespace DL
open PySem PySem.Spec PyProof.Rows L2
theorem make_guards {A : Around} {C : Addr} {us : List Value} {kw : List (Str × Value)} (h : A.guards = some []) : (A.under (.builtin "type.__call__" ⟨.ref C :: us, kw⟩)).guards = some [] := by
  have e : (Code.builtin "type.__call__" ⟨.ref C :: us, kw⟩).guards = [] := by
    first
    | rfl
    | simp [Code.guards, Code.isGuard, guardIds]
  show pushGuards (Code.builtin "type.__call__" ⟨.ref C :: us, kw⟩).guards A.guards = some []
  rw [e]; exact h
/-! ### facts -/
def ClsAt (K : PySem.W.Frag) (mg : Str → Option Value) (c : Str) : Prop := ∃ C, mg c = some (.ref C) ∧ Cls K C
def MkAt (K : PySem.W.Frag) (mg : Str → Option Value) (c : Str) : Prop := ∃ C, mg c = some (.ref C) ∧ PySem.W.makesIn K C = true ∧ PySem.W.keepIn K (.ref C) = true
def NoAt (K : PySem.W.Frag) (mg : Str → Option Value) (c f : Str) : Prop := ∃ C, mg c = some (.ref C) ∧ NoAttr K C f
/-- a def of a class -/
structure CalM (P : Program) (w : World) (K : PySem.W.Frag) (mg : Str → Option Value) (base : Heap) (k : Nat) (c mn q : Str) (st : Stmt) (ps : List Str) (m : List Sv → Led → Res Dv) : Prop where
  ex : ∃ C f fd, mg c = some (.ref C) ∧ PySem.W.findIn K (.ref C) mn = some (some (.ref f)) ∧ Fun K mn q st f fd ∧ PySem.W.isFn K (.ref f) = true ∧ Binds K fd ps [] ∧ DFn P w K mg base k f fd ps m
/-! ### C(..) -/
section
variable {X : Cx} {W : WX} {k : Nat} {f C : Addr} {fd : FuncData} {ps : List Str} {sp : Sp} {E : XK}
theorem run_makeG {pins : List (Addr × Obj)} {σ : List (Option V)} {H : Hp} {s : Shared} {Q : VK} {us : List Value} {kw : List (Str × Value)} {gU : Addr → List Value} {gV : Addr → List V} (hmk : PySem.W.makesIn X.K C = true) (hin : PySem.W.findIn X.K (.ref C) "__init__" = some (some (.ref f))) (hfn : PySem.W.isFn X.K (.ref f) = true)
    (R : FnG X.prog X.w X.K X.mg X.base k f fd ps sp) (hgu : X.A.guards = some []) (hr : Room (k + 1) X.A) (bnd : ∀ (x : Addr) (s' : Shared), X.K.In s'.heap → BindsTo s' fd ⟨.ref x :: us, kw⟩ (ps.zip (gU x))) (rel : ∀ x, Vals (gV x) (gU x)) (pa : PassesAt (L2.CX X.prog X.w) X σ E) (I : Inv X pins σ H s)
    (h : ∀ x dx, H x = none → H dx = none → dx ≠ x → sp (gV x) (upd (upd H dx (.own x)) x (.ins C dx [])) (fun v H2 => v = .non ∧ Q (.ref x) H2) E) :
    wpAny (model X.prog X.w) X.A (call (.ref C) us kw) (EP X pins σ Q) X.xe s := by
  have hq := h (s.heap.objs.size + 1) s.heap.objs.size (I.hok.fresh (Nat.le_succ _)) (I.hok.fresh (Nat.le_refl _)) (Nat.ne_of_lt (Nat.lt_succ_self _))
  have I2 := Inv.made (C := C) I
  refine wpAny_call (make_map (f := f) I.kIn hmk hin (beq_iff_eq.mp hfn) (codeAny_mono (R.go _ X.stack _ _ ⟨Value.ref (s.heap.objs.size + 1) :: us, kw⟩ (gU _) (gV _) _ E (make_guards hgu) (hr.make C us kw)
    (I2.env0.make C us kw) (bnd _ _ I2.kIn) (rel _) hq) fun r s2 q => ?_))
  rcases r with e | fl
  · exact pa pins _ _ e s2 I2 q
  · cases fl with
    | ret u =>
      obtain ⟨v, H', I3, rv, ev, q3⟩ := I2.after q
      subst ev
      exact ⟨rv, ⟨V.ref (s.heap.objs.size + 1), H', I3, rfl, q3⟩⟩
    | next => exact q.elim
    | brk => exact q.elim
    | cont => exact q.elim
end
/-- the new object, let stand for ever -/
def made (c : Str) (k : Nat) (ρ : Slo) (r : Res Dv) : Res Sv := match r with
  | .ok d L => match d, L[k]? with
    | .non, some (.obj c2 fs) => if c2 = c then .ok (.val (.obj c fs)) (L.set k .gone) else .bad
    | _, _ => .bad
  | .err e _ L => .err e ρ L
  | .bad => .bad
@[simp] theorem made_ok {c : Str} {k : Nat} {ρ : Slo} {L : Led} {fs : List (Str × Dv)} (h : L[k]? = some (.obj c fs)) : made c k ρ (.ok .non L) = .ok (.val (.obj c fs)) (L.set k .gone) := by
  simp [made, h]
@[simp] theorem made_err {c : Str} {k : Nat} {ρ r : Slo} {L : Led} {e : Exn} : made c k ρ (.err e r L) = .err e ρ L := rfl
def dMake (c : Str) (n : Nat) (m : List Sv → Led → Res Dv) (fa : DM (List Sv)) : DM Sv := fun ρ L => (fa ρ L).bind fun ss L1 => if ss.length = n then made c L1.length ρ (m (.val (.own L1.length) :: ss) (L1 ++ [.obj c []])) else .bad
def dMakeK (c : Str) (n k : Nat) (perm : List Nat) (m : List Sv → Led → Res Dv) (fa fk : DM (List Sv)) : DM Sv := fun ρ L => (fa ρ L).bind fun ss L1 => (fk ρ L1).bind fun zs L2 =>
  if ss.length = n ∧ zs.length = k then made c L2.length ρ (m (pick perm (.val (.own L2.length) :: (ss ++ zs))) (L2 ++ [.obj c []])) else .bad
section
variable {K : PySem.W.Frag} {mg : Str → Option Value} {G0 G F H : Hp} {ps : List Addr} {L : Led} {σ : List (Option V)} {ρ : Slo} {W : WX}
theorem make_sp {c : Str} {C x dx : Addr} {ws : List V} {tt : List Sv} {m : List Sv → Led → Res Dv} {n : Nat} {Q : VK} (hc : mg c = some (.ref C)) (g0 : Same G0 G) (I : HS K mg G F H ps L) (S : Slots K mg G0 G F ps σ ρ) (hx : H x = none) (hdx : H dx = none) (hne : dx ≠ x)
    (R : XvsOk K mg G F (ps ++ [x]) ws tt) (hn : ws.length = n) (h : (made c L.length ρ (m tt (L ++ [.obj c []]))).wp (QE K mg G F ps Q) (EE K mg G0 F ps W)) :
    spOf K mg n m ws (L2.upd (L2.upd H dx (.own x)) x (.ins C dx [])) (fun v H2 => v = .non ∧ Q (.ref x) H2) (WE W σ) := by
  have I1 := I.beside (u := .own x) hdx
  have hx1 : L2.upd H dx (.own x) x = none := by rw [upd_ne (Ne.symm hne)]; exact hx
  obtain ⟨I2, x2⟩ := I1.push (u := .ins C dx []) (c := .obj c []) hx1 ⟨C, dx, [], hc, upd_same, by rw [upd_ne hne]; exact upd_same, I.same.free hdx, I.frame.free hdx, .nil⟩
  refine ⟨hn, G, F, ps ++ [x], tt, L ++ [.obj c []], I2, R, ?_⟩
  cases q : m tt (L ++ [.obj c []]) with
  | bad => rw [q] at h; exact h.elim
  | err e r L' => rw [q] at h; exact fun cls d F' H' p' y J rx => h cls d σ G F' H' p' g0 (x2.trans y) J (S.ext (x2.trans y)) rx
  | ok d L' =>
    rw [q] at h
    intro v F' H' p' y J r
    unfold made at h
    split at h
    · rename_i d' L0 e
      cases e
      split at h
      · rename_i c2 fs hL
        split at h
        · rename_i hcc
          subst hcc
          cases r
          have hk : p'[L.length]? = some x := y.get (by rw [← I.len]; simp)
          obtain ⟨F2, J2, x3, rd⟩ := J.froze hk hL
          exact ⟨rfl, h (.ref x) F2 H' p' (x2.trans (y.trans x3)) J2 rd⟩
        · exact h.elim
      · exact h.elim
    · rename_i e; cases e
    · rename_i e; cases e
theorem make_tA {c : Str} {C : Addr} {n : Nat} {m : List Sv → Led → Res Dv} {fa : DM (List Sv)} {H : Hp} {Q : VK} (hc : mg c = some (.ref C)) (h : tE K mg W (dMake c n m fa) σ H Q) :
    tA K mg W fa σ H fun vs H1 => vs.length = n ∧ ∀ x dx, H1 x = none → H1 dx = none → dx ≠ x → spOf K mg (n + 1) m (.ref x :: vs) (L2.upd (L2.upd H1 dx (.own x)) x (.ins C dx [])) (fun v H2 => v = .non ∧ Q (.ref x) H2) (WE W σ) := by
  obtain ⟨G0, G, F, ps, ρ, L, g0, I, S, h⟩ := h
  refine ⟨G0, G, F, ps, ρ, L, g0, I, S, Res.wp_mono (Res.wp_bind h) (fun ss L1 h1 vs F1 H1 p1 x1 I1 r1 => ?_) fun e r L' q => q⟩
  split at h1
  · rename_i hl
    refine ⟨by rw [r1.length]; exact hl, fun x dx hx hdx hne => ?_⟩
    refine make_sp hc g0 I1 (S.ext x1) hx hdx hne ?_ (by rw [List.length_cons, r1.length, hl]) (Res.wp_mono h1 (fun _ _ q => QE.ext x1 q) fun _ _ _ q => EE.ext x1 q)
    refine .cons (.own (by rw [← I1.len]; simp)) (r1.ext ⟨Same.refl _, [x], rfl⟩)
  · exact h1.elim
theorem makeK_tA {c : Str} {C : Addr} {n j : Nat} {perm : List Nat} {m : List Sv → Led → Res Dv} {fa fk : DM (List Sv)} {H : Hp} {Q : VK} (hc : mg c = some (.ref C)) (h : tE K mg W (dMakeK c n j perm m fa fk) σ H Q) :
    tA K mg W fa σ H fun vs H1 => tA K mg W fk σ H1 fun zs H2 => vs.length = n ∧ zs.length = j ∧ ∀ x dx, H2 x = none → H2 dx = none → dx ≠ x →
      spOf K mg (pick perm (V.ref x :: (vs ++ zs))).length m (pick perm (.ref x :: (vs ++ zs))) (L2.upd (L2.upd H2 dx (.own x)) x (.ins C dx [])) (fun v H3 => v = .non ∧ Q (.ref x) H3) (WE W σ) := by
  obtain ⟨G0, G, F, ps, ρ, L, g0, I, S, h⟩ := h
  refine ⟨G0, G, F, ps, ρ, L, g0, I, S, Res.wp_mono (Res.wp_bind h) (fun ss L1 h1 vs F1 H1 p1 x1 I1 r1 => ?_) fun e r L' q => q⟩
  refine ⟨G0, G, F1, p1, ρ, L1, g0, I1, S.ext x1, Res.wp_mono (Res.wp_bind h1) (fun zz L2 h2 zs F2 H2 p2 x2 I2 r2 => ?_) fun e r L' q => EE.ext x1 q⟩
  split at h2
  · rename_i hl
    refine ⟨by rw [r1.length]; exact hl.1, by rw [r2.length]; exact hl.2, fun x dx hx hdx hne => ?_⟩
    refine make_sp hc g0 I2 ((S.ext x1).ext x2) hx hdx hne (pick_rel ?_ perm) rfl (Res.wp_mono h2 (fun _ _ q => QE.ext (x1.trans x2) q) fun _ _ _ q => EE.ext (x1.trans x2) q)
    exact .cons (.own (by rw [← I2.len]; simp)) (XvsOk.ext (⟨Same.refl _, [x], rfl⟩ : Ext F2 p2 F2 (p2 ++ [x])) (paired_app (r1.ext x2) r2))
  · exact h2.elim
end
section
variable {X : Cx} {W : WX} {k j n i : Nat} {c q : Str} {st : Stmt} {ps ks : List Str} {perm : List Nat} {m : List Sv → Led → Res Dv} {e : Expr} {es : List Expr} {fr fk : DM (List Sv)} {kws : List Keyword} {p pos : Pos}
theorem de_make (M : MkAt X.K X.mg c) (ci : CalM X.prog X.w X.K X.mg X.base j c "__init__" q st ps m) (hg : Gl X c) (hc : X.calm = true) (hgu : X.A.guards = some []) (hr : Room k X.A) (hj : j + 1 ≤ k) (tk : Takes X W) (ha : DA X W (e :: es) fr) (hdb : (c == ("__debug__" : Str)) = false := by decide)
    (he : starEach (e :: es) X.env = (false, eval e X.env) :: starEach es X.env := by rfl) (hpl : (backTo pos (starEach es X.env)).any (·.1) = false := by rfl) (hn : ps.length = n + 1 := by rfl) : DE X W (.Call (.Name c p) (e :: es) [] pos) (dMake c n m fr) := by
  obtain ⟨C, f, fd, hm, hf, _, hfn, hb, D⟩ := ci.ex
  obtain ⟨C2, hm2, hmk, hkp⟩ := M
  rw [hm] at hm2; cases hm2
  refine ⟨fun pins s σ H Q I h => wpAny_Call_Name_kw (ld_glob I hg hm ?_ hdb)⟩
  refine PySem.W.callWith_K (h₀ := X.base) I.ok.mod.kin hkp (thn (ha.run pos pins s σ H _ I (make_tA (mg_ref.mpr hm) h)) fun us s1 h1 => ?_) he hpl
  obtain ⟨vs, H1, J, rel, hl, hsp⟩ := h1
  rw [calm_mg hc] at hsp
  have hl2 : us.length = n := by rw [← rel.length]; exact hl
  refine ⟨J.kIn, run_makeG (gU := fun x => .ref x :: us) (gV := fun x => .ref x :: vs) hmk hf hfn D hgu (hr.mono hj) (fun x s2 K2 => ?_) (fun x => .cons rfl rel) (passAt tk σ) J fun x dx hx hdx hne => ?_⟩
  · have b1 := hb s2 (.ref x :: us) K2 (by rw [List.append_nil, List.length_cons, hl2, hn])
    rw [List.append_nil] at b1
    exact b1
  · rw [hn]; exact hsp x dx hx hdx hne
theorem de_makeK0 (M : MkAt X.K X.mg c) (ci : CalM X.prog X.w X.K X.mg X.base j c "__init__" q st ps m) (kw : KwOk "__init__" q st ps 1 ks perm) (hpm : perm.length = ps.length) (hpi : ∀ i ∈ perm, i < 1 + ks.length) (hg : Gl X c) (hc : X.calm = true) (hgu : X.A.guards = some []) (hr : Room k X.A) (hj : j + 1 ≤ k) (tk : Takes X W) (hkw : DK X W kws fk)
    (hall : (backToKw pos (keywordEach kws X.env)).all (·.1.isSome) = true := by rfl) (hks : (backToKw pos (keywordEach kws X.env)).filterMap (·.1) = ks := by rfl)
    (hdb : (c == ("__debug__" : Str)) = false := by decide) (hpl : (backToKw pos (keywordEach kws X.env)).any (·.1.isNone) = false := by rfl) (hn : ks.length = i := by rfl) : DE X W (.Call (.Name c p) [] kws pos) (dMakeK c 0 i perm m dArgs0 fk) := by
  subst hn
  obtain ⟨C, f, fd, hm, hf, F, hfn, hb, D⟩ := ci.ex
  obtain ⟨C2, hm2, hmk, hkp⟩ := M
  rw [hm] at hm2; cases hm2
  refine ⟨fun pins s σ H Q I h => wpAny_Call_Name_kw (ld_glob I hg hm ?_ hdb)⟩
  obtain ⟨G0, G, F0, ps', ρ, L, g0, J0, S, h⟩ := makeK_tA (mg_ref.mpr hm) h
  have h' := h [] F0 H ps' (Ext.refl F0 ps') J0 .nil
  refine PySem.W.callWith_KW0 (h₀ := X.base) I.ok.mod.kin hkp hall ?_ (by rw [hpl]; rfl)
  refine thn (hkw.run pos pins s σ H _ I h') fun ws s2 h2 => ?_
  obtain ⟨zs, H2, J2, rel2, e1, e2, hsp⟩ := h2
  rw [hks]
  rw [calm_mg hc] at hsp
  have hl2 : ws.length = ks.length := by rw [← rel2.length]; exact e2
  refine ⟨J2.kIn, run_makeG (gU := fun x => pick perm (.ref x :: ws)) (gV := fun x => pick perm (.ref x :: zs)) hmk hf hfn D hgu (hr.mono hj) (fun x s3 K3 => ?_) (fun x => pick_rel (R := RelV) (.cons (show RelV (.ref x) (.ref x) from rfl) rel2) perm) (passAt tk σ) J2 fun x dx hx hdx hne => ?_⟩
  · exact kbd_of F kw s3 [.ref x] ws rfl hl2
  · have q2 := hsp x dx hx hdx hne
    have el : (pick perm (V.ref x :: ([] ++ zs))).length = ps.length := (pick_len (by rw [List.length_cons, List.nil_append, e2]; intro i hi; have := hpi i hi; omega)).trans hpm
    rw [el] at q2
    exact q2
end
end DL

/-! DL, part 22: fields and methods of own objects. -/
namespace DL
open PySem PySem.Spec PyProof.Rows L2
/-- an object: its class and fields -/
def Sv.ob (L : Led) : Sv → Option (Str × List (Str × Dv))
  | .val (.obj c fs) => some (c, fs)
  | .val (.own k) => match L[k]? with
    | some (.obj c fs) => some (c, fs)
    | _ => none
  | _ => none
@[simp] theorem ob_obj {L : Led} {c : Str} {fs : List (Str × Dv)} : (Sv.val (.obj c fs)).ob L = some (c, fs) := rfl
theorem ob_own {L : Led} {k : Nat} {c : Str} {fs : List (Str × Dv)} (h : L[k]? = some (.obj c fs)) : (Sv.val (.own k)).ob L = some (c, fs) := by simp [Sv.ob, h]
section
variable {K : PySem.W.Frag} {mg : Str → Option Value} {G0 G F H : Hp} {ps : List Addr} {L : Led} {σ : List (Option V)} {ρ : Slo} {W : WX}
theorem xv_ob (I : HS K mg G F H ps L) {x : V} {a : Sv} {c : Str} {fs : List (Str × Dv)} (h : XvOk K mg G F ps x a) (e : a.ob L = some (c, fs)) : ∃ p C dx gs, x = .ref p ∧ mg c = some (.ref C) ∧ H p = some (.ins C dx gs) ∧ RDf K mg F ps gs fs := by
  unfold Sv.ob at e
  split at e
  · cases e
    cases h with
    | obj hc hF r => exact ⟨_, _, _, _, rfl, hc, I.same _ _ hF, r⟩
  · rename_i k
    obtain ⟨p, rfl, hp⟩ := xv_own h
    split at e
    · rename_i c' fs' hL
      cases e
      obtain ⟨C, dx, gs, a, b, _, _, _, r⟩ := I.at_ k p _ hp hL
      exact ⟨p, C, dx, gs, rfl, a, b, r⟩
    · cases e
  · cases e
theorem RDf.miss {F : Hp} {ps : List Addr} (n : Str) : ∀ {gs : List (Str × V)} {fs : List (Str × Dv)}, RDf K mg F ps gs fs → fs.lookup n = none → gs.lookup n = none
  | _, _, .nil, _ => rfl
  | _, _, .cons (k := k) h r, e => by
    rw [List.lookup_cons] at e ⊢
    cases z : n == k with
    | true => rw [z] at e; cases e
    | false => rw [z] at e; exact RDf.miss n r e
end
/-! ### e.f -/
def gFld (f : Str) (tab : List Str) (o : Sv) (L : Led) : Option Sv := match o.ob L with
  | some (c, fs) => if c ∈ tab then (fs.lookup f).map .val else none
  | none => none
theorem de_fld {X : Cx} {W : WX} {e : Expr} {f : Str} {pos : Pos} {fe : DM Sv} {tab : List Str} (he : DE X W e fe) (ht : ∀ c ∈ tab, ClsAt X.K X.mg c ∧ NoAt X.K X.mg c f) (hb : attributeBase e f X.env (eval e X.env) = eval e X.env := by rfl) : DE X W (.Attribute e f pos) (dUn (gFld f tab) fe) :=
  imE (pe_fld he hb) fun σ H Q h => by
    obtain ⟨G0, G, F, ps, ρ, L, g0, I, S, h⟩ := h
    refine ⟨G0, G, F, ps, ρ, L, g0, I, S, Res.wp_mono (Res.wp_bind h) (fun o L1 h1 v F1 H1 p1 x1 I1 r1 => ?_) fun e r L' q => q⟩
    obtain ⟨s, hs, q⟩ := give_wp h1
    unfold gFld at hs
    split at hs
    · rename_i c fs ho
      split at hs
      · rename_i hc
        cases hl : fs.lookup f with
        | none => rw [hl] at hs; cases hs
        | some d =>
          rw [hl] at hs; cases hs
          obtain ⟨p, C, dx, gs, rfl, hm, hp, rr⟩ := xv_ob I1 r1 ho
          obtain ⟨⟨C1, m1, cl⟩, C2, m2, na⟩ := ht c hc
          have hm' := mg_ref.mp hm
          rw [hm'] at m1 m2; cases m1; cases m2
          obtain ⟨v, hv, rd⟩ := rr.look f hl
          exact ⟨p, C, dx, gs, v, rfl, hp, cl, na, hv, (QE.ext x1 q).now I1 rd⟩
      · cases hs
    · cases hs
/-! ### e.f = v, e an object of the ledger -/
def putFd (f : Str) (d : Dv) : List (Str × Dv) → List (Str × Dv)
  | [] => [(f, d)]
  | (g, x) :: r => if g = f then (g, d) :: r else (g, x) :: putFd f d r
def stF (f : Str) (tab : List Str) (o : Sv) (d : Dv) (L : Led) : Option Led := match o with
  | .val (.own k) => match L[k]? with
    | some (.obj c fs) => if c ∈ tab ∧ fs.length < 900 then some (L.set k (.obj c (putFd f d fs))) else none
    | _ => none
  | _ => none
def sStF (f : Str) (tab : List Str) (fo fe : DM Sv) : DM Fl := fun ρ L => (fe ρ L).bind fun s L1 => match s with
  | .val d => (fo ρ L1).bind fun o L2 => match stF f tab o d L2 with
    | some L3 => .ok (.nx ρ) L3
    | none => .bad
  | _ => .bad
theorem RDf.put {K : PySem.W.Frag} {mg : Str → Option Value} {F : Hp} {ps : List Addr} {f : Str} {v : V} {d : Dv} (hv : RD K mg F ps v d) : ∀ {gs : List (Str × V)} {fs : List (Str × Dv)}, RDf K mg F ps gs fs → RDf K mg F ps (putF f v gs) (putFd f d fs)
  | _, _, .nil => .cons hv .nil
  | _, _, .cons (k := k) h r => by
    unfold putF putFd
    split
    · exact .cons hv r
    · exact .cons h (RDf.put hv r)
theorem RDf.len {K : PySem.W.Frag} {mg : Str → Option Value} {F : Hp} {ps : List Addr} : ∀ {gs : List (Str × V)} {fs : List (Str × Dv)}, RDf K mg F ps gs fs → gs.length = fs.length
  | _, _, .nil => rfl
  | _, _, .cons _ r => by rw [List.length_cons, List.length_cons, RDf.len r]
theorem ds_stf {X : Cx} {W : WX} {o e : Expr} {f : Str} {pos pos' : Pos} {fo fe : DM Sv} {tab : List Str} (ho : DE X W o fo) (he : DE X W e fe) (ht : ∀ c ∈ tab, ClsAt X.K X.mg c ∧ NoAt X.K X.mg c f) (hs : swapsWith e (some (.Attribute o f pos')) pos.line X.env = pure false := by rfl) :
    DS X W (.Assign [.Attribute o f pos'] e pos) (sStF f tab fo fe) := imS (ps_fld ho he hs) fun D σ H h => by
  obtain ⟨G0, G, F, ps, ρ, L, g0, I, S, h⟩ := h
  refine ⟨G0, G, F, ps, ρ, L, g0, I, S, Res.wp_mono (Res.wp_bind h) (fun s L1 h1 v F1 H1 p1 x1 I1 r1 => ?_) fun e r L' q => q⟩
  split at h1
  · rename_i d
    refine ⟨G0, G, F1, p1, ρ, L1, g0, I1, S.ext x1, Res.wp_mono (Res.wp_bind h1) (fun o L2 h2 ov F2 H2 p2 x2 I2 r2 => ?_) fun e r L' q => EE.ext x1 q⟩
    split at h2
    · rename_i L3 hst
      unfold stF at hst
      split at hst
      · rename_i k
        obtain ⟨p, rfl, hp⟩ := xv_own r2
        split at hst
        · rename_i c fs hL
          split at hst
          · rename_i hcl
            cases hst
            obtain ⟨C, dx, gs, a, b, c0, c1, c2, r⟩ := I2.at_ k p _ hp hL
            obtain ⟨⟨C1, m1, cl⟩, C2, m2, na⟩ := ht c hcl.1
            have hm' := mg_ref.mp a
            rw [hm'] at m1 m2; cases m1; cases m2
            have hdx : dx ≠ p := fun z => by rw [z, b] at c0; cases c0
            refine ⟨p, C, dx, gs, rfl, b, cl, na, by rw [r.len]; omega, ?_⟩
            have rd : RD X.K X.mg' F2 p2 v d := RD.ext x2 r1
            have I3 := I2.led (k := k) (u := .ins C dx (putF f v gs)) (c := .obj c (putFd f d fs)) hp ⟨_, hL, fun z => by cases z⟩ b (fun x z => by cases z) ⟨C, dx, _, a, upd_same, by rw [upd_ne hdx]; exact c0, c1, c2, RDf.put rd r⟩
            exact h2 σ G F2 _ p2 g0 (x1.trans x2) I3 ((S.ext x1).ext x2)
          · cases hst
        · cases hst
      · cases hst
    · exact h2.elim
  · exact h1.elim
/-! ### o.m(..) -/
abbrev Mir := List Sv → Led → Res Dv
/-- the method that is called: by the object's class -/
def mSel (mn : Str) (tab : List (Str × Mir)) (o : Sv) (L : Led) : Option Mir := match o.ob L with
  | some (c, fs) => if (fs.lookup mn).isNone then tab.lookup c else none
  | none => none
def dMeth (mn : Str) (n : Nat) (tab : List (Str × Mir)) (fo : DM Sv) (fa : DM (List Sv)) : DM Sv := fun ρ L => (fo ρ L).bind fun o L1 => match mSel mn tab o L1 with
  | some m => (fa ρ L1).bind fun ss L2 => if ss.length = n then toSv ((m (o :: ss) L2).at_ ρ) else .bad
  | none => .bad
/-- what the table's methods are -/
def MTab (P : Program) (w : World) (K : PySem.W.Frag) (mg : Str → Option Value) (base : Heap) (mn : Str) (n k : Nat) (tab : List (Str × Mir)) : Prop :=
  ∀ c m, tab.lookup c = some m → ClsAt K mg c ∧ ∃ j q st ps, j ≤ k ∧ ps.length = n + 1 ∧ CalM P w K mg base j c mn q st ps m
theorem mtab_nil {P : Program} {w : World} {K : PySem.W.Frag} {mg : Str → Option Value} {base : Heap} {mn : Str} {n k : Nat} : MTab P w K mg base mn n k [] := fun _ _ h => by cases h
theorem mtab_cons {P : Program} {w : World} {K : PySem.W.Frag} {mg : Str → Option Value} {base : Heap} {mn : Str} {n k j : Nat} {c q : Str} {st : Stmt} {ps : List Str} {m : Mir} {tab : List (Str × Mir)} (hc : ClsAt K mg c) (C : CalM P w K mg base j c mn q st ps m) (hj : j ≤ k) (hn : ps.length = n + 1) (r : MTab P w K mg base mn n k tab) :
    MTab P w K mg base mn n k ((c, m) :: tab) := fun c2 m2 h => by
  rw [List.lookup_cons] at h
  cases z : c2 == c with
  | true =>
    rw [z] at h; cases h
    obtain rfl := beq_iff_eq.mp z
    exact ⟨hc, j, q, st, ps, hj, hn, C⟩
  | false => rw [z] at h; exact r c2 m2 h
section
variable {X : Cx} {W : WX} {o e : Expr} {es : List Expr} {mn : Str} {n k : Nat} {tab : List (Str × Mir)} {fo : DM Sv} {fa : DM (List Sv)} {apos pos : Pos}
theorem meth_tE {σ : List (Option V)} {H : Hp} {Q : VK} (h : tE X.K X.mg' W (dMeth mn n tab fo fa) σ H Q) : tE X.K X.mg' W fo σ H fun x H1 => ∃ c m a C dx gs, tab.lookup c = some m ∧ x = .ref a ∧ X.mg c = some (.ref C) ∧ H1 a = some (.ins C dx gs) ∧ gs.lookup mn = none ∧
    tA X.K X.mg' W fa σ H1 fun vs H2 => vs.length = n ∧ spOf X.K X.mg' (n + 1) m (x :: vs) H2 Q (WE W σ) := by
  obtain ⟨G0, G, F, ps, ρ, L, g0, I, S, h⟩ := h
  refine ⟨G0, G, F, ps, ρ, L, g0, I, S, Res.wp_mono (Res.wp_bind h) (fun o L1 h1 v F1 H1 p1 x1 I1 r1 => ?_) fun e r L' q => q⟩
  split at h1
  · rename_i m hm
    unfold mSel at hm
    split at hm
    · rename_i c fs ho
      split at hm
      · rename_i hfs
        obtain ⟨p, C, dx, gs, rfl, hmg, hp, rr⟩ := xv_ob I1 r1 ho
        refine ⟨c, m, p, C, dx, gs, hm, rfl, mg_ref.mp hmg, hp, rr.miss mn (Option.isNone_iff_eq_none.mp hfs), ?_⟩
        refine ⟨G0, G, F1, p1, ρ, L1, g0, I1, S.ext x1, Res.wp_mono (Res.wp_bind h1) (fun ss L2 h2 vs F2 H2 p2 x2 I2 r2 => ?_) fun e r L' q => EE.ext x1 q⟩
        split at h2
        · rename_i hl
          refine ⟨by rw [r2.length]; exact hl, ?_⟩
          exact sp_of (by rw [List.length_cons, r2.length, hl]) g0 I2 ((S.ext x1).ext x2) (.cons (r1.ext x2) r2) (Res.wp_mono h2 (fun _ _ q => QE.ext (x1.trans x2) q) fun _ _ _ q => EE.ext (x1.trans x2) q)
        · exact h2.elim
      · cases hm
    · cases hm
  · exact h1.elim
theorem de_meth {pl : Sem Bool} (ho : DE X W o fo) (T : MTab X.prog X.w X.K X.mg X.base mn n k tab) (hc : X.calm = true) (hgu : X.A.guards = some []) (hr : Room k X.A) (tk : Takes X W) (ha : DA X W (e :: es) fa)
    (hst : starEach (e :: es) X.env = (false, eval e X.env) :: starEach es X.env := by rfl) (hpl : (backTo pos (starEach es X.env)).any (·.1) = false := by rfl)
    (ht : eval (.Call (.Attribute o mn apos) (e :: es) [] pos) X.env = (do
      let ov ← eval o X.env
      standAt apos.atName
      let (u, first) ← holding [ov] (getMethod ov mn pl)
      callWith pos u first (backTo pos (starEach (e :: es) X.env)) (backToKw pos (keywordEach [] X.env))) := by rfl) :
    DE X W (.Call (.Attribute o mn apos) (e :: es) [] pos) (dMeth mn n tab fo fa) := by
  refine ⟨fun pins s σ H Q I h => ?_⟩
  refine PySem.W.methodCall_KW (pl := pl) (thn (ho.run pins s σ H _ I (meth_tE h)) fun u s1 z => ?_) ht
  obtain ⟨x, H1, I1, rx, c, m, a, C, dx, gs, hm, rfl, hmg, ea, l, q⟩ := z
  obtain rfl : u = Value.ref a := rx
  obtain ⟨⟨C1, m1, cl⟩, j, qn, st, ps, hj, hps, ⟨C2, f, fd, m2, hf, F, hfn, hb, D⟩⟩ := T c m hm
  rw [hmg] at m1 m2; cases m1; cases m2
  refine getmeth_ok I1 ea cl ⟨hf, hfn, F.kp⟩ l ?_
  refine PySem.W.callWith_K (first := [.ref a]) (h₀ := X.base) I.ok.mod.kin F.kp (thn (ha.run pos pins s1 σ H1 _ I1 q) fun us s2 z2 => ?_) hst hpl
  obtain ⟨vs, H2, I2, r, hl, hsp⟩ := z2
  rw [calm_mg hc, ← hps] at hsp
  have hl2 : us.length = n := by rw [← r.length]; exact hl
  have b1 := hb s2 (.ref a :: us) I2.kIn (by rw [List.append_nil, List.length_cons, hl2, hps])
  rw [List.append_nil] at b1
  exact ⟨I2.kIn, run_fnG (us := .ref a :: us) (vs := .ref a :: vs) D hgu (hr.mono hj) b1 (passAt tk σ) I2 (.cons rfl r) hsp⟩
theorem de_meth0 {pl : Sem Bool} (ho : DE X W o fo) (T : MTab X.prog X.w X.K X.mg X.base mn 0 k tab) (hc : X.calm = true) (hgu : X.A.guards = some []) (hr : Room k X.A) (tk : Takes X W)
    (ht : eval (.Call (.Attribute o mn apos) [] [] pos) X.env = (do
      let ov ← eval o X.env
      standAt apos.atName
      let (u, first) ← holding [ov] (getMethod ov mn pl)
      callWith pos u first (backTo pos (starEach [] X.env)) (backToKw pos (keywordEach [] X.env))) := by rfl) :
    DE X W (.Call (.Attribute o mn apos) [] [] pos) (dMeth mn 0 tab fo dArgs0) := by
  refine ⟨fun pins s σ H Q I h => ?_⟩
  refine PySem.W.methodCall_KW (pl := pl) (thn (ho.run pins s σ H _ I (meth_tE h)) fun u s1 z => ?_) ht
  obtain ⟨x, H1, I1, rx, c, m, a, C, dx, gs, hm, rfl, hmg, ea, l, q⟩ := z
  obtain rfl : u = Value.ref a := rx
  obtain ⟨⟨C1, m1, cl⟩, j, qn, st, ps, hj, hps, ⟨C2, f, fd, m2, hf, F, hfn, hb, D⟩⟩ := T c m hm
  rw [hmg] at m1 m2; cases m1; cases m2
  refine getmeth_ok I1 ea cl ⟨hf, hfn, F.kp⟩ l ?_
  obtain ⟨G0, G, F0, p0, ρ, L, g0, J0, S, h0⟩ := q
  obtain ⟨_, hsp⟩ := h0 [] F0 H1 p0 (Ext.refl F0 p0) J0 .nil
  rw [calm_mg hc, ← hps] at hsp
  have b1 := hb s1 [.ref a] I1.kIn (by simpa using hps.symm)
  rw [List.append_nil] at b1
  exact PySem.W.callWith_K0 (first := [.ref a]) I1.kIn F.kp (run_fnG (us := [.ref a]) (vs := [.ref a]) D hgu (hr.mono hj) b1 (passAt tk σ) I1 (.cons rfl .nil) hsp)
end
end DL

/-! DL, part 23: walks over things of the ledger, over dicts; comprehensions of all kinds. -/
namespace DL
open PySem PySem.Spec PyProof.Rows L2
/-- one thing alone -/
def one (p : Addr) (o : HO) : Hp := fun b => if b = p then some o else none
theorem one_at {p : Addr} {o : HO} : one p o p = some o := if_pos rfl
theorem one_same {p : Addr} {o : HO} {H : Hp} (h : H p = some o) : Same (one p o) H := fun b u e => by
  unfold one at e
  split at e
  · rename_i hb; subst hb; cases e; exact h
  · cases e
section
variable {K : PySem.W.Frag} {mg : Str → Option Value} {G0 G F H : Hp} {ps : List Addr} {L : Led} {σ : List (Option V)} {ρ : Slo}
/-- a thing more stands from here on, for the slots too -/
theorem Slots.up (S : Slots K mg G0 G F ps σ ρ) {p : Addr} {o : HO} (h0 : G0 p = none) (hG : G p = none) : Slots K mg (L2.upd G0 p o) (L2.upd G p o) F ps σ ρ := by
  refine ⟨S.len, fun i s e => ?_, S.sep⟩
  obtain ⟨v, a, b⟩ := S.at_ i s e
  refine ⟨v, a, ?_⟩
  cases s with
  | val d => exact b
  | bor xs => obtain ⟨q, vs, e1, e2, e3, e4⟩ := b; exact ⟨q, vs, e1, by rw [upd_ne (ne_of_none e2 h0)]; exact e2, e3, e4⟩
  | borD xs => obtain ⟨q, vs, e1, e2, e3, e4⟩ := b; exact ⟨q, vs, e1, by rw [upd_ne (ne_of_none e2 h0)]; exact e2, e3, e4⟩
  | mu xs => obtain ⟨q, vs, e1, e2, e3, e4, e5⟩ := b; exact ⟨q, vs, e1, upd_none (ne_of_none e3 hG) e2, by rw [upd_ne (ne_of_none e3 hG)]; exact e3, e4, e5⟩
  | muD xs => obtain ⟨q, vs, e1, e2, e3, e4, e5⟩ := b; exact ⟨q, vs, e1, upd_none (ne_of_none e3 hG) e2, by rw [upd_ne (ne_of_none e3 hG)]; exact e3, e4, e5⟩
  | xc c fs => obtain ⟨a, dd, C, gs, e1, e2, e3, e4, e5, e6, e7⟩ := b; exact ⟨a, dd, C, gs, e1, e2, e3, e4, e5, by rw [upd_ne (ne_of_none e6 h0)]; exact e6, e7⟩
end
/-- what is borrowed is let go -/
def unB (r : Slo) : Slo := r.map fun o => match o with
  | some (.bor _) => none
  | some (.borD _) => none
  | o => o
theorem unB_get {r : Slo} {j : Nat} {s : Sv} (h : (unB r)[j]? = some (some s)) : r[j]? = some (some s) ∧ (∀ xs, s ≠ .bor xs) ∧ ∀ ks, s ≠ .borD ks := by
  unfold unB at h
  rw [List.getElem?_map] at h
  cases e : r[j]? with
  | none => rw [e] at h; simp at h
  | some o =>
    rw [e] at h
    cases o with
    | none => simp at h
    | some t => cases t <;> simp at h <;> subst h <;> exact ⟨rfl, fun _ z => by (first | cases z), fun _ z => by (first | cases z)⟩
section
variable {K : PySem.W.Frag} {mg : Str → Option Value} {G0 G G' F H : Hp} {ps : List Addr} {L : Led} {σ : List (Option V)} {ρ : Slo} {p : Addr} {vs : List V}
/-- .. and no more -/
theorem Slots.down (S : Slots K mg (L2.upd G0 p (.lst vs)) G' F ps σ ρ) (h0 : G0 p = none) : Slots K mg G0 (cut G' p) F ps σ (unB ρ) := by
  have back : ∀ q, L2.upd G0 p (.lst vs) q = none → q ≠ p ∧ G0 q = none := fun q e => by
    have hq : q ≠ p := fun z => by rw [z, upd_same] at e; cases e
    rw [upd_ne hq] at e
    exact ⟨hq, e⟩
  refine ⟨by rw [unB, List.length_map]; exact S.len, fun i s e => ?_, fun i j s t v hi hj m1 m2 h1 h2 => S.sep i j s t v (unB_get hi).1 (unB_get hj).1 m1 m2 h1 h2⟩
  obtain ⟨e1, nb, nd⟩ := unB_get e
  obtain ⟨v, a, b⟩ := S.at_ i s e1
  refine ⟨v, a, ?_⟩
  cases s with
  | val d => exact b
  | bor xs => exact absurd rfl (nb xs)
  | borD xs => exact absurd rfl (nd xs)
  | mu xs => obtain ⟨q, vs, e1, e2, e3, e4, e5⟩ := b; obtain ⟨n, z⟩ := back q e2; exact ⟨q, vs, e1, z, by rw [cut_ne n]; exact e3, e4, e5⟩
  | muD xs => obtain ⟨q, vs, e1, e2, e3, e4, e5⟩ := b; obtain ⟨n, z⟩ := back q e2; exact ⟨q, vs, e1, z, by rw [cut_ne n]; exact e3, e4, e5⟩
  | xc c fs =>
    obtain ⟨a, dd, C, gs, e1, e2, e3, e4, e5, e6, e7⟩ := b
    have hd : dd ≠ p := fun z => by rw [z, upd_same] at e6; cases e6
    rw [upd_ne hd] at e6
    exact ⟨a, dd, C, gs, e1, e2, e3, e4, e5, e6, e7⟩
end
/-! ### for, over a thing of the ledger, too -/
/-- a taken list is given back -/
def backL (k : Nat) (ds : List Dv) (L : Led) : Option Led := match L[k]? with
  | some .gone => some (L.set k (.lst ds))
  | _ => none
def Fl.unB : Fl → Fl
  | .nx r => .nx (DL.unB r)
  | .rt d => .rt d
  | .bk r => .bk (DL.unB r)
  | .ct r => .ct (DL.unB r)
def putFl (k : Nat) (ds : List Dv) (r : Res Fl) : Res Fl := match r with
  | .ok fl L => match backL k ds L with
    | some L2 => .ok fl.unB L2
    | none => .bad
  | .err e r L => match backL k ds L with
    | some L2 => .err e (unB r) L2
    | none => .bad
  | .bad => .bad
def enI (en : Bool) (ds : List Dv) : List Dv := if en then enumF 0 ds else ds
def sForO (en : Bool) (fe : DM Sv) (T : Tg) (fb : DM Fl) : DM Fl := fun ρ L => (fe ρ L).bind fun s L1 => match s with
  | .val (.own k) => match L1[k]? with
    | some (.lst ds) => putFl k ds (fLoop T fb (enI en ds) ρ (L1.set k .gone))
    | _ => .bad
  | s => match s.src with
    | some z => if z.solid then fLoop T fb (enI en z.items) ρ L1 else .bad
    | none => .bad
section
variable {X : Cx} {W : WX} {tg iter : Expr} {body : List Stmt} {T : Tg} {fb : DM Fl} {pos : Pos}
/-- the loop itself -/
theorem for_run {D : Ends} {G0 G F H : Hp} {ps : List Addr} {L : Led} {σ : List (Option V)} {ρ : Slo} {J : It} {items : List Dv} {Gk : Hp} (hk : ∀ G', Same G0 G' → Same Gk G') (g0 : Same G0 G) (I : HS X.K X.mg' G F H ps L) (S : Slots X.K X.mg' G0 G F ps σ ρ) (y : Yld X.K X.mg' Gk F ps J items)
    (h : (fLoop T fb items ρ L).wp (QS X.K X.mg' G0 F ps D) (EE X.K X.mg' G0 F ps W)) :
    ∃ Wf : Nat → Nat → List (Option V) → Hp → Prop, (∃ m, Wf 0 m σ H) ∧ ∀ i m σ H, Wf i m σ H →
      (J.stop i H ∧ D.nx σ H) ∨ (J.go i H ∧ ∃ N : List (Option V) → Hp → Prop, (∀ σ' H', N σ' H' → ∃ m', m' < m ∧ Wf (i + 1) m' σ' H') ∧ ∀ x H', J.yld i H x H' → T.read X.K x σ H' fun σ2 H2 => tS X.K X.mg' W fb { D with nx := N, ct := N, bk := D.nx } σ2 H2) := by
  refine ⟨fun i m σ' H' => i ≤ items.length ∧ m = items.length - i ∧ ∃ G' F' ps' ρ' L', Same G0 G' ∧ Ext F ps F' ps' ∧ HS X.K X.mg' G' F' H' ps' L' ∧ Slots X.K X.mg' G0 G' F' ps' σ' ρ' ∧ (fLoop T fb (items.drop i) ρ' L').wp (QS X.K X.mg' G0 F ps D) (EE X.K X.mg' G0 F ps W),
    ⟨_, Nat.zero_le _, rfl, G, F, ps, ρ, L, g0, Ext.refl _ _, I, S, h⟩, ?_⟩
  rintro i m σ' H' ⟨hi, rfl, G', F', ps', ρ', L', g', x', I', S', q⟩
  obtain ⟨go, st, yl⟩ := y G' F' H' ps' L' (hk _ g') x' I'
  by_cases hlt : i < items.length
  · refine .inr ⟨go i hlt, fun σ2 H2 => i + 1 ≤ items.length ∧ ∃ G' F' ps' ρ' L', Same G0 G' ∧ Ext F ps F' ps' ∧ HS X.K X.mg' G' F' H2 ps' L' ∧ Slots X.K X.mg' G0 G' F' ps' σ2 ρ' ∧ (fLoop T fb (items.drop (i + 1)) ρ' L').wp (QS X.K X.mg' G0 F ps D) (EE X.K X.mg' G0 F ps W), fun σ2 H2 ⟨a, b⟩ => ⟨_, by omega, a, rfl, b⟩, fun x H2 hy => ?_⟩
    obtain ⟨d, F2, ed, x2, I2, r2⟩ := yl i x H2 hlt hy
    have hd : items.drop i = d :: items.drop (i + 1) := by
      have e2 := List.getElem?_eq_some_iff.mp ed
      rw [List.drop_eq_getElem_cons hlt, e2.2]
    rw [hd] at q
    unfold fLoop at q
    split at q
    · exact q.elim
    · rename_i ρ1 hρ
      refine Tg.run (vs := []) I2 r2 (S'.ext x2) hρ fun σ3 S3 _ => ?_
      have xx := x'.trans x2
      refine ⟨G0, G', F2, ps', ρ1, L', g', I2, S3, Res.wp_mono (Res.wp_bind q) (fun fl L3 h3 => ?_) fun e r L3 q3 => EE.ext xx q3⟩
      cases fl with
      | nx r => exact fun σ4 G4 F4 H4 p4 g4 x4 I4 S4 => ⟨hlt, G4, F4, p4, r, L3, g4, xx.trans x4, I4, S4, h3⟩
      | ct r => exact fun σ4 G4 F4 H4 p4 g4 x4 I4 S4 => ⟨hlt, G4, F4, p4, r, L3, g4, xx.trans x4, I4, S4, h3⟩
      | bk r => exact QS.ext (f := .nx r) xx h3
      | rt d => exact QS.ext (f := .rt d) xx h3
  · have e : i = items.length := by omega
    subst e
    rw [List.drop_length] at q
    refine .inl ⟨st, ?_⟩
    unfold fLoop at q
    exact q σ' G' F' H' ps' g' x' I' S'
end
section
variable {K : PySem.W.Frag} {mg : Str → Option Value} {G0 G F H : Hp} {ps : List Addr} {L : Led} {σ : List (Option V)} {ρ : Slo} {W : WX}
theorem put_wp {D : Ends} {p : Addr} {vs : List V} {k : Nat} {ds : List Dv} {r : Res Fl} (hk : ps[k]? = some p) (h0 : G0 p = none) (z : vs.length ≤ sizeLine) (rs : RDs K mg F ps vs ds) (h : (putFl k ds r).wp (QS K mg G0 F ps D) (EE K mg G0 F ps W)) :
    r.wp (QS K mg (L2.upd G0 p (.lst vs)) F ps D) (EE K mg (L2.upd G0 p (.lst vs)) F ps W) := by
  have key : ∀ {G' F' H' : Hp} {ps' : List Addr} {L' L2' : Led}, Same (L2.upd G0 p (.lst vs)) G' → Ext F ps F' ps' → HS K mg G' F' H' ps' L' → backL k ds L' = some L2' → HS K mg (cut G' p) F' H' ps' L2' ∧ Same G0 (cut G' p) := by
    intro G' F' H' ps' L' L2' g x I e
    unfold backL at e
    split at e
    · rename_i hL
      cases e
      have gp : G' p = some (.lst vs) := g _ _ upd_same
      refine ⟨I.untake (x.get hk) hL gp fun G2 => ⟨vs, I.frame _ _ gp, z, rs.ext x⟩, fun b o q => ?_⟩
      have hb := ne_of_none q h0
      rw [cut_ne hb]
      exact g _ _ (by rw [upd_ne hb]; exact q)
    · cases e
  cases r with
  | bad => exact h
  | err e r L' =>
    unfold putFl at h
    split at h
    · rename_i he; cases he
    · rename_i e0 r0 L0 he
      cases he
      split at h
      · rename_i L2' hb
        intro cls d σ' G' F' H' ps' g x I S R
        obtain ⟨J, g2⟩ := key g x I hb
        exact h cls d σ' _ F' H' ps' g2 x J (S.down h0) R
      · exact h.elim
    · rename_i he; cases he
  | ok fl L' =>
    unfold putFl at h
    split at h
    · rename_i fl0 L0 he
      cases he
      split at h
      · rename_i L2' hb
        cases fl with
        | nx r => intro σ' G' F' H' ps' g x I S; obtain ⟨J, g2⟩ := key g x I hb; exact h σ' _ F' H' ps' g2 x J (S.down h0)
        | rt d => intro v G' F' H' ps' g x I R; obtain ⟨J, g2⟩ := key g x I hb; exact h v _ F' H' ps' g2 x J R
        | bk r => intro σ' G' F' H' ps' g x I S; obtain ⟨J, g2⟩ := key g x I hb; exact h σ' _ F' H' ps' g2 x J (S.down h0)
        | ct r => intro σ' G' F' H' ps' g x I S; obtain ⟨J, g2⟩ := key g x I hb; exact h σ' _ F' H' ps' g2 x J (S.down h0)
      · exact h.elim
    · rename_i he; cases he
    · rename_i he; cases he
end
section
variable {X : Cx} {W : WX} {tg iter : Expr} {body : List Stmt} {fe : DM Sv} {T : Tg} {fb : DM Fl} {pos : Pos}
/-- what is walked, from the value: the rest of the for in each case -/
theorem forO_of {en : Bool} {D : Ends} {σ : List (Option V)} {H : Hp} {mkJ : Kd → It} (hJ : ∀ {Gk F ps k ds}, KAt X.K X.mg' Gk F ps k ds → Yld X.K X.mg' Gk F ps (mkJ k) (enI en ds)) (h : tS X.K X.mg' W (sForO en fe T fb) D σ H) :
    tE X.K X.mg' W fe σ H fun v H1 => SrcR X.K H1 v fun k => ∃ Wf : Nat → Nat → List (Option V) → Hp → Prop, (∃ m, Wf 0 m σ H1) ∧ ∀ i m σ H, Wf i m σ H →
      ((mkJ k).stop i H ∧ D.nx σ H) ∨ ((mkJ k).go i H ∧ ∃ N : List (Option V) → Hp → Prop, (∀ σ' H', N σ' H' → ∃ m', m' < m ∧ Wf (i + 1) m' σ' H') ∧ ∀ x H', (mkJ k).yld i H x H' → T.read X.K x σ H' fun σ2 H2 => tS X.K X.mg' W fb { D with nx := N, ct := N, bk := D.nx } σ2 H2) := by
  obtain ⟨G0, G, F, ps, ρ, L, g0, I, S, h⟩ := h
  refine ⟨G0, G, F, ps, ρ, L, g0, I, S, Res.wp_mono (Res.wp_bind h) (fun s L1 h1 v F1 H1 p1 x1 I1 r1 => ?_) fun e r L' q => q⟩
  split at h1
  · rename_i k
    obtain ⟨p, rfl, hp⟩ := xv_own r1
    split at h1
    · rename_i ds hL
      obtain ⟨vs, e1, z, rs⟩ := I1.at_ k p _ hp hL
      have lv := I1.free p (List.mem_of_getElem? hp) ⟨k, _, hp, hL, fun q => by cases q⟩
      have h0 : G0 p = none := g0.free lv.2
      have I2 := I1.take hp hL (fun q => by cases q) e1 (fun x q => by cases q)
      refine .inl ⟨p, vs, rfl, SqL.of e1, ?_⟩
      have kat : KAt X.K X.mg' (one p (.lst vs)) F1 p1 (.l p) ds := fun G' F' H' ps' L' g x J => ⟨vs, SqL.of (J.frame _ _ (g _ _ one_at)), rs.ext x⟩
      have g1 : Same (L2.upd G0 p (.lst vs)) (L2.upd G p (.lst vs)) := fun b o q => by
        by_cases hb : b = p
        · subst hb; rw [upd_same] at q ⊢; exact q
        · rw [upd_ne hb] at q ⊢; exact g0 _ _ q
      refine for_run (fun G' g => one_same (g _ _ upd_same)) g1 I2 ((S.ext x1).up h0 lv.2) (hJ kat) ?_
      exact put_wp hp h0 z rs (Res.wp_mono h1 (fun _ _ q => QS.ext x1 q) fun _ _ _ q => EE.ext x1 q)
    · exact h1.elim
  · split at h1
    · rename_i z hz
      split at h1
      · rename_i hsol
        refine SrcR.imp (src_of I1 r1 hz) fun k hk => ?_
        rw [if_pos hsol] at hk
        exact for_run (fun G' _ => ne_noH) g0 I1 (S.ext x1) (hJ hk) (Res.wp_mono h1 (fun _ _ q => QS.ext x1 q) fun _ _ _ q => EE.ext x1 q)
      · exact h1.elim
    · exact h1.elim
theorem ds_forO (hp : PassesOwn (model X.prog X.w) X.A X.env X.xe) (hc : X.calm = true) (he : DE X W iter fe) (hg : DTg X tg T) (hb : DSs X W body fb)
    (hs : ∀ x, foldedSetIterable iter X.env x = pure x := by intro _; rfl) : DS X W (.For tg iter body [] pos) (sForO false fe T fb) := imS (ps_for hp hc (pi_src he) hg hb hs) fun D σ H h => forO_of (en := false) (mkJ := ItP X.K) (fun hk => hk.yldP) h
theorem ds_forE {elts : List Expr} {kk : Nat} {tpos p cpos : Pos} (hp : PassesOwn (model X.prog X.w) X.A X.env X.xe) (hc : X.calm = true) (hgl : Gl X "enumerate") (hm : X.mg "enumerate" = none) (he : DE X W iter fe) (hg : DTg X (.Tuple elts kk tpos) T) (hb : DSs X W body fb)
    (hst : starEach [iter] X.env = [(false, eval iter X.env)] := by rfl) (hs : ∀ x, foldedSetIterable (.Call (.Name "enumerate" p) [iter] [] cpos) X.env x = pure x := by intro _; rfl) :
    DS X W (.For (.Tuple elts kk tpos) (.Call (.Name "enumerate" p) [iter] [] cpos) body [] pos) (sForO true fe T fb) := imS (ps_for hp hc (pi_enumK hgl hm (pa_cons he pa_nil hst) hst) hg hb hs) fun D σ H h => by
  obtain ⟨G0, G, F, ps, ρ, L, g0, I, S, h⟩ := forO_of (en := true) (mkJ := ItE X.K) (fun hk => hk.yldE) h
  exact ⟨G0, G, F, ps, ρ, L, g0, I, S, Res.wp_mono h (fun s L1 q v F1 H1 p1 x1 I1 r1 => ⟨v, rfl, q v F1 H1 p1 x1 I1 r1⟩) fun _ _ _ q => q⟩
end
end DL

/-! DL, part 24: comprehensions over things of the ledger, with two clauses, of dicts. -/
namespace DL
open PySem PySem.Spec PyProof.Rows L2
section
variable {K : PySem.W.Frag} {mg : Str → Option Value} {G0 G F H : Hp} {ps : List Addr} {L : Led} {σ : List (Option V)} {ρ : Slo} {T : Tg} {ft : DM Bool} {fe : DM Sv}
theorem app_upd {G : Hp} {D : Addr} {us vs : List V} : ∀ b o, upd G D (.lst vs) b = some o → upd (upd G D (.lst us)) D (.lst vs) b = some o := fun b o e => by
  rw [upd_upd]; exact e
/-- the walk that fills the list at D -/
theorem lc_run {vs : List Nat} {D : Addr} {us : List V} {acc : List Dv} {items : List Dv} {J : It} {Gk : Hp} {Fin : Hp → Prop} (hT : ∀ i ∈ T.ix, i ∈ vs) (g0 : Same G0 G) (gD : G D = none) (sK : ∀ u, Same Gk (upd G D u)) (I : HS K mg (upd G D (.lst us)) F H ps L) (z : us.length ≤ sizeLine) (rs : RDs K mg F ps us acc) (S : Slots K mg G0 G F ps σ ρ) (y : Yld K mg Gk F ps J items)
    (h : (noErr (cLoop T ft fe (wipeR ρ vs) items acc L)).wp (fun acc2 L2 => ∀ us2 F' H' ps', Ext F ps F' ps' → HS K mg (upd G D (.lst us2)) F' H' ps' L2 → us2.length ≤ sizeLine → RDs K mg F' ps' us2 acc2 → Fin H') fun _ _ _ => False) :
    ∃ Wf : Nat → Nat → Hp → Prop, (∃ m, Wf 0 m H) ∧ ∀ i m H, Wf i m H → (J.stop i H ∧ Fin H) ∨ (J.go i H ∧ ∃ Nx : Hp → Prop, (∀ H', Nx H' → ∃ m', m' < m ∧ Wf (i + 1) m' H') ∧ ∀ x H', J.yld i H x H' → T.read K x (L2.wipe σ vs) H' fun σ2 H2 => L2.wipe σ2 vs = L2.wipe σ vs ∧ tT K mg wNo ft σ2 H2 fun b H3 =>
      if b = true then tE K mg wNo fe σ2 H3 fun y H4 => ∃ acc, H4 D = some (.lst acc) ∧ acc.length < sizeLine ∧ Nx (upd H4 D (.lst (acc ++ [y]))) else Nx H3) := by
  have sG : ∀ u : HO, Same G (upd G D u) := fun u b o e => by rw [upd_ne (ne_of_none e gD)]; exact e
  refine ⟨fun i m H' => i ≤ items.length ∧ m = items.length - i ∧ ∃ F' ps' us acc L', Ext F ps F' ps' ∧ HS K mg (upd G D (.lst us)) F' H' ps' L' ∧ us.length ≤ sizeLine ∧ RDs K mg F' ps' us acc ∧ (noErr (cLoop T ft fe (wipeR ρ vs) (items.drop i) acc L')).wp (fun acc2 L2 => ∀ us2 F' H' ps', Ext F ps F' ps' → HS K mg (upd G D (.lst us2)) F' H' ps' L2 → us2.length ≤ sizeLine → RDs K mg F' ps' us2 acc2 → Fin H') fun _ _ _ => False,
    ⟨_, Nat.zero_le _, rfl, F, ps, us, acc, L, Ext.refl _ _, I, z, rs, h⟩, ?_⟩
  rintro i m H' ⟨hi, rfl, F', ps', us, acc, L', x', I', z', rs, q⟩
  obtain ⟨go, st, yl⟩ := y _ F' H' ps' L' (sK _) x' I'
  by_cases hlt : i < items.length
  · refine .inr ⟨go i hlt, fun H2 => i + 1 ≤ items.length ∧ ∃ F' ps' us acc L', Ext F ps F' ps' ∧ HS K mg (upd G D (.lst us)) F' H2 ps' L' ∧ us.length ≤ sizeLine ∧ RDs K mg F' ps' us acc ∧ (noErr (cLoop T ft fe (wipeR ρ vs) (items.drop (i + 1)) acc L')).wp (fun acc2 L2 => ∀ us2 F' H' ps', Ext F ps F' ps' → HS K mg (upd G D (.lst us2)) F' H' ps' L2 → us2.length ≤ sizeLine → RDs K mg F' ps' us2 acc2 → Fin H') fun _ _ _ => False,
      fun H2 ⟨a, b⟩ => ⟨_, by omega, a, rfl, b⟩, fun x H2 hy => ?_⟩
    obtain ⟨d, F2, ed, x2, I2, r2⟩ := yl i x H2 hlt hy
    have hd : items.drop i = d :: items.drop (i + 1) := by
      have e2 := List.getElem?_eq_some_iff.mp ed
      rw [List.drop_eq_getElem_cons hlt, e2.2]
    rw [hd] at q
    unfold cLoop at q
    have xx := x'.trans x2
    split at q
    · exact q.elim
    · rename_i ρ1 hρ
      have SS : Slots K mg G0 (upd G D (.lst us)) F2 ps' (wipe σ vs) (wipeR ρ vs) := ((S.ext xx).gr (sG _)).wipe vs
      refine Tg.run (vs := vs) I2 r2 SS hρ fun σ3 S3 w3 => ⟨(w3 hT).trans (wipe_wipe σ vs), ?_⟩
      have gg : Same G0 (upd G D (.lst us)) := g0.trans (sG _)
      refine ⟨G0, _, F2, ps', ρ1, L', gg, I2, S3, Res.wp_mono (Res.wp_bind (noErr_wp (E' := fun _ _ _ => False) q)) (fun b L3 h3 F3 H3 p3 x3 I3 => ?_) fun e r L3 q3 => q3.elim⟩
      cases b with
      | true =>
        rw [if_pos rfl] at h3 ⊢
        refine ⟨G0, _, F3, p3, ρ1, L3, gg, I3, S3.ext x3, Res.wp_mono (Res.wp_bind h3) (fun t L4 h4 y F4 H4 p4 x4 I4 r4 => ?_) fun e r L3 q3 => q3.elim⟩
        split at h4
        · rename_i yd
          split at h4
          · rename_i hz
            have xt := x2.trans (x3.trans x4)
            refine ⟨us, I4.frame _ _ upd_same, by rw [rs.length]; exact hz, hlt, F4, p4, us ++ [y], acc ++ [yd], L4, x'.trans xt, (I4.write (u := .lst (us ++ [y])) (upd_same (H := G)) fun _ q => by cases q).weak app_upd, by rw [List.length_append, rs.length]; exact hz, (rs.ext xt).append (.one r4), ?_⟩
            cases hc : cLoop T ft fe (wipeR ρ vs) (items.drop (i + 1)) (acc ++ [yd]) L4 with
            | ok a L5 => rw [hc] at h4; exact h4
            | err e r L5 => rw [hc] at h4; exact h4.elim
            | bad => rw [hc] at h4; exact h4.elim
          · exact h4.elim
        · exact h4.elim
      | false =>
        rw [if_neg Bool.false_ne_true] at h3 ⊢
        refine ⟨hlt, F3, p3, us, acc, L3, x'.trans (x2.trans x3), I3, z', rs.ext (x2.trans x3), ?_⟩
        cases hc : cLoop T ft fe (wipeR ρ vs) (items.drop (i + 1)) acc L3 with
        | ok a L5 => rw [hc] at h3; exact h3
        | err e r L5 => rw [hc] at h3; exact h3.elim
        | bad => rw [hc] at h3; exact h3.elim
  · have e : i = items.length := by omega
    subst e
    rw [List.drop_length] at q
    unfold cLoop at q
    exact .inl ⟨st, q us F' H' ps' x' I' z' rs⟩
end
theorem noErr_keep {α : Type} {r : Res α} {P : α → Led → Prop} {E E' : Exn → Slo → Led → Prop} (h : (noErr r).wp P E) : (noErr r).wp P E' := by
  cases r with
  | ok a L => exact h
  | err e s L => exact h.elim
  | bad => exact h.elim
theorem noErr_wp' {α : Type} {r : Res α} {P : α → Led → Prop} {E E' : Exn → Slo → Led → Prop} (h : (noErr r).wp P E) : (noErr r).wp P E' := noErr_keep h
/-- a walk's items: from a value; a thing of the ledger is taken for that while -/
def withSrc {α : Type} (en : Bool) (s : Sv) (L : Led) (k : List Dv → Led → Res α) : Res α := match s with
  | .val (.own j) => match L[j]? with
    | some (.lst ds) => (noErr (k (enI en ds) (L.set j .gone))).bind fun a L2 => match backL j ds L2 with
      | some L3 => .ok a L3
      | none => .bad
    | _ => .bad
  | s => match s.src with
    | some z => noErr (k (enI en z.items) L)
    | none => .bad
/-- what becomes of a new list: a value, or a thing of the ledger -/
def newL (ow : Bool) (acc : List Dv) (L : Led) : Res Sv := if ow then .ok (.val (.own L.length)) (L ++ [.lst acc]) else .ok (.val (.lst acc)) L
def dLcO (ow en : Bool) (fs : DM Sv) (T : Tg) (ft : DM Bool) (fe : DM Sv) (vs : List Nat) : DM Sv := fun ρ L => (fs ρ L).bind fun s L1 => (withSrc en s L1 fun items L2 => cLoop T ft fe (wipeR ρ vs) items [] L2).bind fun acc L3 => newL ow acc L3
section
variable {K : PySem.W.Frag} {mg : Str → Option Value} {G0 G F H : Hp} {ps : List Addr} {L : Led} {σ : List (Option V)} {ρ : Slo} {W : WX}
/-- the list that was held at D gets its place -/
theorem newL_ok {ow : Bool} {acc : List Dv} {D : Addr} {us : List V} {Q : VK} (gD : G D = none) (I : HS K mg (upd G D (.lst us)) F H ps L) (z : us.length ≤ sizeLine) (rs : RDs K mg F ps us acc) (h : (newL ow acc L).wp (QE K mg G F ps Q) (EE K mg G0 F ps W)) : Q (.ref D) H := by
  have hH : H D = some (.lst us) := I.frame _ _ upd_same
  unfold newL at h
  cases ow with
  | false =>
    rw [if_neg Bool.false_ne_true] at h
    obtain ⟨I5, x5⟩ := I.frz (upd_same (H := G) (o := HO.lst us))
    refine h (.ref D) _ H ps x5 (I5.weak fun b o e => ?_) (.lst upd_same z (rs.ext x5))
    rw [cut_ne (ne_of_none e gD), upd_ne (ne_of_none e gD)]; exact e
  | true =>
    rw [if_pos rfl] at h
    have hF : F D = none := I.apart D (by rw [upd_same]; simp)
    have hn : ∀ j, ps[j]? = some D → ¬ LvAt L j := fun j hj ⟨c, h1, h2⟩ => by
      have := (I.free D (List.mem_of_getElem? hj) ⟨j, c, hj, h1, h2⟩).2
      rw [upd_same] at this; cases this
    · have xx : Ext F ps F (ps ++ [D]) := ⟨Same.refl F, [D], rfl⟩
      refine h (.ref D) F H (ps ++ [D]) xx ⟨fun b o e => ?_, I.same, fun a ha => ?_, by simp [I.len], ?_, fun q hq l => ?_, fun j q d hj hd => ?_⟩ (.own (by rw [← I.len]; simp))
      · exact I.frame b o (by rw [upd_ne (ne_of_none e gD)]; exact e)
      · exact I.apart a (by
          by_cases hb : a = D
          · subst hb; exact absurd gD ha
          · rw [upd_ne hb]; exact ha)
      · intro i j q hi hj li lj
        have old : ∀ {i : Nat}, (ps ++ [D])[i]? = some q → LvAt (L ++ [.lst acc]) i → (ps[i]? = some q ∧ LvAt L i) ∨ (i = ps.length ∧ q = D) := fun {i} hi li => by
          by_cases h : i < ps.length
          · rw [List.getElem?_append_left h] at hi
            obtain ⟨d, h1, h2⟩ := li
            rw [List.getElem?_append_left (by rw [← I.len]; exact h)] at h1
            exact .inl ⟨hi, d, h1, h2⟩
          · have h2 := (List.getElem?_eq_some_iff.mp hi).1
            simp at h2
            have e : i = ps.length := by omega
            subst e
            rw [List.getElem?_append_right (Nat.le_refl _)] at hi
            simp at hi
            exact .inr ⟨rfl, hi.symm⟩
        rcases old hi li with ⟨a2, a3⟩ | ⟨a1, a2⟩
        · rcases old hj lj with ⟨b2, b3⟩ | ⟨b1, b2⟩
          · exact I.nd i j q a2 b2 a3 b3
          · subst b2; exact absurd a3 (hn i a2)
        · rcases old hj lj with ⟨b2, b3⟩ | ⟨b1, b2⟩
          · subst a2; exact absurd b3 (hn j b2)
          · rw [a1, b1]
      · by_cases hb : q = D
        · subst hb; exact ⟨hF, gD⟩
        · obtain ⟨j, d, h1, h2, h3⟩ := l
          have hj : j < ps.length := by
            by_cases hj : j < ps.length
            · exact hj
            · rw [List.getElem?_append_right (Nat.le_of_not_lt hj)] at h1
              have := List.mem_of_getElem? h1
              simp at this
              exact absurd this hb
          rw [List.getElem?_append_left hj] at h1
          rw [List.getElem?_append_left (by rw [← I.len]; exact hj)] at h2
          obtain ⟨a, b⟩ := I.free q (List.mem_of_getElem? h1) ⟨j, d, h1, h2, h3⟩
          rw [upd_ne hb] at b
          exact ⟨a, b⟩
      · by_cases hj2 : j < ps.length
        · rw [List.getElem?_append_left hj2] at hj
          rw [List.getElem?_append_left (by rw [← I.len]; exact hj2)] at hd
          have old := I.at_ j q d hj hd
          cases d with
          | lst xs => obtain ⟨vs, a, b, r⟩ := old; exact ⟨vs, a, b, RDs.ext xx r⟩
          | dic xs => obtain ⟨vs, a, b, r⟩ := old; exact ⟨vs, a, b, RDk.ext xx r⟩
          | obj c fs =>
            obtain ⟨C, dx, gs, a, b, c0, c1, c2, r⟩ := old
            have hdx : dx ≠ D := fun z => by rw [z, hH] at c0; cases c0
            rw [upd_ne hdx] at c2
            exact ⟨C, dx, gs, a, b, c0, c1, c2, RDf.ext xx r⟩
          | gone => exact old
        · have e1 : j = ps.length := by
            have := (List.getElem?_eq_some_iff.mp hj).1
            simp at this; omega
          subst e1
          rw [List.getElem?_append_right (Nat.le_refl _)] at hj
          rw [I.len, List.getElem?_append_right (Nat.le_refl _)] at hd
          simp at hj hd
          subst hj hd
          exact ⟨us, hH, z, RDs.ext xx rs⟩
/-- a comprehension's walk, from the source's value -/
theorem lcO_of {ow en : Bool} {fs : DM Sv} {T : Tg} {ft : DM Bool} {fe : DM Sv} {vs : List Nat} {Q : VK} {mkJ : Kd → It} (hJ : ∀ {Gk F ps k ds}, KAt K mg Gk F ps k ds → Yld K mg Gk F ps (mkJ k) (enI en ds)) (hT : ∀ i ∈ T.ix, i ∈ vs) (h : tE K mg W (dLcO ow en fs T ft fe vs) σ H Q) :
    tE K mg W fs σ H fun v H1 => SrcR K H1 v fun k => ∀ D, H1 D = none → ∃ Wf : Nat → Nat → Hp → Prop, (∃ m, Wf 0 m (L2.upd H1 D (.lst []))) ∧ ∀ i m H, Wf i m H → ((mkJ k).stop i H ∧ Q (.ref D) H) ∨ ((mkJ k).go i H ∧ ∃ Nx : Hp → Prop, (∀ H', Nx H' → ∃ m', m' < m ∧ Wf (i + 1) m' H') ∧ ∀ x H', (mkJ k).yld i H x H' → T.read K x (L2.wipe σ vs) H' fun σ2 H2 => L2.wipe σ2 vs = L2.wipe σ vs ∧ tT K mg wNo ft σ2 H2 fun b H3 =>
      if b = true then tE K mg wNo fe σ2 H3 fun y H4 => ∃ acc, H4 D = some (.lst acc) ∧ acc.length < sizeLine ∧ Nx (L2.upd H4 D (.lst (acc ++ [y]))) else Nx H3) := by
  obtain ⟨G0, G, F, ps, ρ, L, g0, I, S, h⟩ := h
  refine ⟨G0, G, F, ps, ρ, L, g0, I, S, Res.wp_mono (Res.wp_bind h) (fun s L1 h1 v F1 H1 p1 x1 I1 r1 => ?_) fun e r L' q => q⟩
  have h2 := Res.wp_bind h1
  clear h1
  unfold withSrc at h2
  split at h2
  · rename_i k
    obtain ⟨p, rfl, hp⟩ := xv_own r1
    split at h2
    · rename_i ds hL
      obtain ⟨us0, e1, z, rs⟩ := I1.at_ k p _ hp hL
      have lv := I1.free p (List.mem_of_getElem? hp) ⟨k, _, hp, hL, fun q => by cases q⟩
      have I2 := I1.take hp hL (fun q => by cases q) e1 (fun x q => by cases q)
      have gG : Same G (L2.upd G p (.lst us0)) := fun b o q => by rw [upd_ne (ne_of_none q lv.2)]; exact q
      refine .inl ⟨p, us0, rfl, SqL.of e1, fun D hD => ?_⟩
      have hDp : D ≠ p := fun z => by rw [z, e1] at hD; cases hD
      have gD : L2.upd G p (.lst us0) D = none := by rw [upd_ne hDp]; exact I1.frame.free hD
      have kat : KAt K mg (one p (.lst us0)) F1 p1 (.l p) ds := fun G' F' H' ps' L' g x J => ⟨us0, SqL.of (J.frame _ _ (g _ _ one_at)), rs.ext x⟩
      refine lc_run hT (g0.trans gG) gD (fun u => one_same (by rw [upd_ne (Ne.symm hDp)]; exact upd_same)) (I2.hold hD) (Nat.zero_le _) .nil ((S.ext x1).gr gG) (hJ kat) ?_
      refine Res.wp_mono (noErr_keep (E' := fun _ _ _ => False) (Res.wp_bind h2)) (fun acc L' h3 us2 F2 H2 p2 x2 J z2 r2 => ?_) fun _ _ _ q => q
      cases hb : backL k ds L' with
      | none => rw [hb] at h3; exact h3.elim
      | some L3 =>
        rw [hb] at h3
        unfold backL at hb
        split at hb
        · rename_i hL2
          cases hb
          have gp : (L2.upd (L2.upd G p (.lst us0)) D (.lst us2)) p = some (.lst us0) := by rw [upd_ne (Ne.symm hDp)]; exact upd_same
          have J2 := J.untake (c := .lst ds) (x2.get hp) hL2 gp fun G2 => ⟨us0, J.frame _ _ gp, z, rs.ext x2⟩
          have J3 : HS K mg (L2.upd G D (.lst us2)) F2 H2 p2 _ := J2.weak fun b o q => by
            by_cases hb : b = D
            · subst hb; rw [cut_ne hDp]; rw [upd_same] at q ⊢; exact q
            · rw [upd_ne hb] at q
              have hbp := ne_of_none q lv.2
              rw [cut_ne hbp, upd_ne hb, upd_ne hbp]; exact q
          exact newL_ok (I1.frame.free hD) J3 z2 r2 (Res.wp_mono h3 (fun _ _ q => QE.ext (x1.trans x2) q) fun _ _ _ q => EE.ext (x1.trans x2) q)
        · cases hb
    · exact h2.elim
  · split at h2
    · rename_i zz hz
      refine SrcR.imp (src_of I1 r1 hz) fun k hk D hD => ?_
      have gD : G D = none := I1.frame.free hD
      refine lc_run hT g0 gD (fun u => ?_) (I1.hold hD) (Nat.zero_le _) .nil (S.ext x1) (hJ hk) ?_
      · cases zz.solid
        · exact fun b o e => by rw [upd_ne (ne_of_none e gD)]; exact e
        · exact ne_noH
      · refine noErr_keep (Res.wp_mono h2 (fun acc L2 h3 us2 F2 H2 p2 x2 J z2 r2 => ?_) fun _ _ _ q => q)
        exact newL_ok gD J z2 r2 (Res.wp_mono h3 (fun _ _ q => QE.ext (x1.trans x2) q) fun _ _ _ q => EE.ext (x1.trans x2) q)
    · exact h2.elim
end
end DL

/-! DL, part 25: walks over dicts; comprehensions as the printed proofs use them. -/
namespace DL
open PySem PySem.Spec PyProof.Rows L2
def keyDv : Key → Dv
  | .inl i => .int i
  | .inr x => .str x
def pairDv (kv : Key × Dv) : Dv := .tup [keyDv kv.1, kv.2]
def keysDv (ks : List (Key × Dv)) : List Dv := ks.map fun kv => keyDv kv.1
def valsDv (ks : List (Key × Dv)) : List Dv := ks.map Prod.snd
def itemsDv (ks : List (Key × Dv)) : List Dv := ks.map pairDv
section
variable {K : PySem.W.Frag} {mg : Str → Option Value} {G0 G F H : Hp} {ps : List Addr} {L : Led} {σ : List (Option V)} {ρ : Slo} {W : WX}
theorem RDk.at {F : Hp} {ps : List Addr} : ∀ {ws : List (Key × V)} {ks : List (Key × Dv)}, RDk K mg F ps ws ks → ∀ {i : Nat} {k : Key} {v : V}, ws[i]? = some (k, v) → ∃ d, ks[i]? = some (k, d) ∧ RD K mg F ps v d ∧ RD K mg F ps (kV k) (keyDv k)
  | _, _, .nil, _, _, _, e => by simp at e
  | _, _, .cons (k := k0) z h _, 0, _, _, e => by
    simp at e
    obtain ⟨rfl, rfl⟩ := e
    refine ⟨_, rfl, h, ?_⟩
    cases k0 with
    | inl i => exact .int i
    | inr x => exact .str x (z x rfl)
  | _, _, .cons _ _ r, i + 1, _, _, e => by simpa using RDk.at r (by simpa using e)
theorem yld_keys {Gk F0 : Hp} {ps0 : List Addr} {d : Addr} {o : Obj} {ws : List (Key × V)} {ks : List (Key × Dv)} (hd : ∀ {G F H ps L}, Same Gk G → Ext F0 ps0 F ps → HS K mg G F H ps L → H d = some (.frz o (.dK ws))) (r : RDk K mg F0 ps0 ws ks) : Yld K mg Gk F0 ps0 (Itk d o ws) (keysDv ks) := by
  intro G F H ps L g x J
  have h := hd g x J
  have el := r.length
  unfold keysDv
  rw [List.length_map, ← el]
  refine ⟨fun i hi => ⟨h, hi⟩, ⟨h, Nat.le_refl _⟩, fun i y H' hi hy => ?_⟩
  obtain ⟨rfl, k, v, e, rfl⟩ := hy
  obtain ⟨d', e2, _, r2⟩ := RDk.at r e
  exact ⟨keyDv k, F, by simp [e2], Ext.refl _ _, J, RD.ext x r2⟩
theorem yld_vals {Gk F0 : Hp} {ps0 : List Addr} {d : Addr} {o : Obj} {ws : List (Key × V)} {ks : List (Key × Dv)} (hd : ∀ {G F H ps L}, Same Gk G → Ext F0 ps0 F ps → HS K mg G F H ps L → H d = some (.frz o (.dK ws))) (r : RDk K mg F0 ps0 ws ks) : Yld K mg Gk F0 ps0 (Itd d o ws) (valsDv ks) := by
  intro G F H ps L g x J
  have h := hd g x J
  have el := r.length
  unfold valsDv
  rw [List.length_map, ← el]
  refine ⟨fun i hi => ⟨h, hi⟩, ⟨h, Nat.le_refl _⟩, fun i y H' hi hy => ?_⟩
  obtain ⟨rfl, k, e⟩ := hy
  obtain ⟨d', e2, r2, _⟩ := RDk.at r e
  exact ⟨d', F, by simp [e2], Ext.refl _ _, J, RD.ext x r2⟩
theorem yld_items {Gk F0 : Hp} {ps0 : List Addr} {d : Addr} {o : Obj} {ws : List (Key × V)} {ks : List (Key × Dv)} (hd : ∀ {G F H ps L}, Same Gk G → Ext F0 ps0 F ps → HS K mg G F H ps L → H d = some (.frz o (.dK ws))) (r : RDk K mg F0 ps0 ws ks) : Yld K mg Gk F0 ps0 (Iti d o ws) (itemsDv ks) := by
  intro G F H ps L g x J
  have h := hd g x J
  have el := r.length
  unfold itemsDv
  rw [List.length_map, ← el]
  refine ⟨fun i hi => ⟨h, hi⟩, ⟨h, Nat.le_refl _⟩, fun i y H' hi hy => ?_⟩
  obtain ⟨T, k, v, e, rfl, hT, rfl⟩ := hy
  obtain ⟨d', e2, r2, r3⟩ := RDk.at r e
  obtain ⟨F', x', J', r'⟩ := new_pair J (RD.ext x r3) (RD.ext x r2) hT
  exact ⟨_, F', by simp [e2, pairDv], x', J', r'⟩
end
/-! ### sources -/
def Sv.dicV : Sv → Option (List (Key × Dv))
  | .val (.dic ks) => some ks
  | _ => none
theorem xv_dicV {K : PySem.W.Frag} {mg : Str → Option Value} {G F : Hp} {ps : List Addr} {v : V} {s : Sv} {ks : List (Key × Dv)} (r : XvOk K mg G F ps v s) (e : s.dicV = some ks) : ∃ a o ws, v = .ref a ∧ F a = some (.frz o (.dK ws)) ∧ RDk K mg F ps ws ks := by
  unfold Sv.dicV at e
  split at e
  · cases e
    cases r with
    | dic h z r => exact ⟨_, _, _, rfl, h, r⟩
  · cases e
def iKs (fe : DM Sv) : DM Src := fun ρ L => (fe ρ L).bind fun s L1 => give (s.dicV.map fun ks => ⟨keysDv ks, true⟩) L1
def iVs (fe : DM Sv) : DM Src := fun ρ L => (fe ρ L).bind fun s L1 => give (s.dicV.map fun ks => ⟨valsDv ks, true⟩) L1
def iIs (fe : DM Sv) : DM Src := fun ρ L => (fe ρ L).bind fun s L1 => give (s.dicV.map fun ks => ⟨itemsDv ks, true⟩) L1
section
variable {X : Cx} {W : WX} {tg e : Expr} {fe : DM Sv} {apos cpos : Pos}
theorem dsrc_of {σ : List (Option V)} {H : Hp} {R : It → Hp → Prop} {f : List (Key × Dv) → List Dv} {J : Addr → Obj → List (Key × V) → It} (hy : ∀ {Gk F0 ps0 d o ws ks}, (∀ {G F H ps L}, Same Gk G → Ext F0 ps0 F ps → HS X.K X.mg' G F H ps L → H d = some (.frz o (.dK ws))) → RDk X.K X.mg' F0 ps0 ws ks → Yld X.K X.mg' Gk F0 ps0 (J d o ws) (f ks))
    (h : tI X.K X.mg' W (fun ρ L => (fe ρ L).bind fun s L1 => give (s.dicV.map fun ks => (⟨f ks, true⟩ : Src)) L1) σ H R) : tE X.K X.mg' W fe σ H fun x H1 => ∃ d o kvs, x = .ref d ∧ H1 d = some (.frz o (.dK kvs)) ∧ R (J d o kvs) H1 := by
  obtain ⟨G0, G, F, ps, ρ, L, g0, I, S, h⟩ := h
  refine ⟨G0, G, F, ps, ρ, L, g0, I, S, Res.wp_mono (Res.wp_bind h) (fun s L1 h1 v F1 H1 p1 x1 I1 r1 => ?_) fun e r L' q => q⟩
  obtain ⟨z, ez, q⟩ := give_wp h1
  cases hs : s.dicV with
  | none => rw [hs] at ez; cases ez
  | some ks =>
    rw [hs] at ez; cases ez
    obtain ⟨a, o, ws, rfl, ha, rr⟩ := xv_dicV r1 hs
    exact ⟨a, o, ws, rfl, I1.same _ _ ha, q _ F1 H1 p1 x1 I1 (hy (fun g x J => J.same _ _ (x.same _ _ ha)) rr)⟩
theorem di_keys (he : DE X W e fe) : DI X W tg e (iKs fe) := imI (pi_keys he) fun σ H R h => by
  obtain ⟨G0, G, F, ps, ρ, L, g0, I, S, h⟩ := dsrc_of (J := Itk) (f := keysDv) yld_keys h
  refine ⟨G0, G, F, ps, ρ, L, g0, I, S, Res.wp_mono h (fun s L1 q v F1 H1 p1 x1 I1 r1 => ?_) fun _ _ _ q => q⟩
  obtain ⟨d, o, kvs, a, b, c⟩ := q v F1 H1 p1 x1 I1 r1
  exact ⟨d, o, a, .inl ⟨kvs, b, c⟩⟩
theorem di_vals (he : DE X W e fe) (hbase : attributeBase e "values" X.env (eval e X.env) = eval e X.env := by rfl) (hline : (apos.endLine == cpos.line) = true := by rfl) : DI X W tg (.Call (.Attribute e "values" apos) [] [] cpos) (iVs fe) := imI (pi_values he hbase hline) fun σ H R h => dsrc_of (J := Itd) (f := valsDv) yld_vals h
theorem di_items {elts : List Expr} {kk : Nat} {tpos : Pos} (he : DE X W e fe) (hbase : attributeBase e "items" X.env (eval e X.env) = eval e X.env := by rfl) (hline : (apos.endLine == cpos.line) = true := by rfl) : DI X W (.Tuple elts kk tpos) (.Call (.Attribute e "items" apos) [] [] cpos) (iIs fe) := imI (pi_items he hbase hline) fun σ H R h => dsrc_of (J := Iti) (f := itemsDv) yld_items h
end
/-! ### list comprehensions -/
section
variable {X : Cx} {W : WX} {elt tg iter : Expr} {ifs : List Expr} {scope : Scope} {own : List (Str × Nat)} {pos : Pos} {fs : DM Sv} {T : Tg} {ft : DM Bool} {fe : DM Sv} {ow : Bool}
theorem de_lcO (hc : X.calm = true) (hN : X.N.Nodup) (hi : DE X W iter fs) (ok : BlkOk X.N X.env.scope scope own)
    (hg : ∀ (s : Shared) (H : Hp) (C : Addr) (cl : List (Str × Addr)) (fp : List Addr), DTg (X.blk s H scope (compEnvC scope cl C X.env) fp) tg T)
    (ht : ∀ (s : Shared) (H : Hp) (C : Addr) (cl : List (Str × Addr)) (fp : List Addr), DTs (X.blk s H scope (compEnvC scope cl C X.env) fp) wNo ifs ft)
    (he : ∀ (s : Shared) (H : Hp) (C : Addr) (cl : List (Str × Addr)) (fp : List Addr), DE (X.blk s H scope (compEnvC scope cl C X.env) fp) wNo elt fe) (hT : ∀ i ∈ T.ix, i ∈ own.map (·.2))
    (hs : ∀ x, foldedSetIterable iter X.env x = pure x := by intro _; rfl) {vs : List Nat} (hvs : own.map (·.2) = vs := by rfl) : DE X W (.ListComp elt [⟨tg, iter, ifs, 0⟩] scope pos) (dLcO ow false fs T ft fe vs) := by
  subst hvs
  exact imE (pe_lc hc hN (pi_src hi) ok hg (fun s H C cl fp => imTs (t' := tT X.K X.mg' wNo ft) (ht s H C cl fp) fun σ H Q h => by rw [blk_mg hc]; exact h) (fun s H C cl fp => imE (t' := tE X.K X.mg' wNo fe) (he s H C cl fp) fun σ H Q h => by rw [blk_mg hc]; exact h) hs) fun σ H Q h => lcO_of (en := false) (mkJ := ItP X.K) (fun hk => hk.yldP) hT h
theorem de_lcE {elts : List Expr} {kk : Nat} {tpos p cpos : Pos} (hc : X.calm = true) (hN : X.N.Nodup) (hgl : Gl X "enumerate") (hm : X.mg "enumerate" = none) (hi : DE X W iter fs) (ok : BlkOk X.N X.env.scope scope own)
    (hg : ∀ (s : Shared) (H : Hp) (C : Addr) (cl : List (Str × Addr)) (fp : List Addr), DTg (X.blk s H scope (compEnvC scope cl C X.env) fp) (.Tuple elts kk tpos) T)
    (ht : ∀ (s : Shared) (H : Hp) (C : Addr) (cl : List (Str × Addr)) (fp : List Addr), DTs (X.blk s H scope (compEnvC scope cl C X.env) fp) wNo ifs ft)
    (he : ∀ (s : Shared) (H : Hp) (C : Addr) (cl : List (Str × Addr)) (fp : List Addr), DE (X.blk s H scope (compEnvC scope cl C X.env) fp) wNo elt fe) (hT : ∀ i ∈ T.ix, i ∈ own.map (·.2))
    (hst : starEach [iter] X.env = [(false, eval iter X.env)] := by rfl) (hs : ∀ x, foldedSetIterable (.Call (.Name "enumerate" p) [iter] [] cpos) X.env x = pure x := by intro _; rfl) {vs : List Nat} (hvs : own.map (·.2) = vs := by rfl) : DE X W (.ListComp elt [⟨.Tuple elts kk tpos, .Call (.Name "enumerate" p) [iter] [] cpos, ifs, 0⟩] scope pos) (dLcO ow true fs T ft fe vs) := by
  subst hvs
  refine imE (pe_lc (g := T.read X.K) (tt := tT X.K X.mg' wNo ft) (te := tE X.K X.mg' wNo fe) hc hN (pi_enumK hgl hm (pa_cons hi pa_nil hst) hst) ok hg (fun s H C cl fp => imTs (t' := tT X.K X.mg' wNo ft) (ht s H C cl fp) fun σ H Q h => by rw [blk_mg hc]; exact h) (fun s H C cl fp => imE (t' := tE X.K X.mg' wNo fe) (he s H C cl fp) fun σ H Q h => by rw [blk_mg hc]; exact h) hs) fun σ H Q h => ?_
  obtain ⟨G0, G, F, ps, ρ, L, g0, I, S, h⟩ := lcO_of (en := true) (mkJ := ItE X.K) (fun hk => hk.yldE) hT h
  exact ⟨G0, G, F, ps, ρ, L, g0, I, S, Res.wp_mono h (fun s L1 q v F1 H1 p1 x1 I1 r1 => ⟨v, rfl, q v F1 H1 p1 x1 I1 r1⟩) fun _ _ _ q => q⟩
end
/-! ### [.. for v in x.values()], x a name: a dict of any kind -/
def backD (k : Nat) (ks : List (Key × Dv)) (L : Led) : Option Led := match L[k]? with
  | some .gone => some (L.set k (.dic ks))
  | _ => none
def dLcV (i : Nat) (T : Tg) (ft : DM Bool) (fe : DM Sv) (vs : List Nat) : DM Sv := fun ρ L => match ρ[i]? with
  | some (some (.val (.own k))) => match L[k]? with
    | some (.dic ks) => (noErr (cLoop T ft fe (wipeR ρ vs) (valsDv ks) [] (L.set k .gone))).bind fun acc L2 => match backD k ks L2 with
      | some L3 => .ok (.val (.lst acc)) L3
      | none => .bad
    | _ => .bad
  | _ => dLc (iVs (dVar i)) T ft fe vs ρ L
theorem pe_or {X : Cx} {e : Expr} {t t' : TE} (h : PE X e t) (h' : PE X e t') : PE X e (fun σ H Q => t σ H Q ∨ t' σ H Q) := ⟨fun pins s σ H Q I w => w.elim (h.run pins s σ H Q I) (h'.run pins s σ H Q I)⟩
section
variable {X : Cx} {W : WX} {elt tg : Expr} {ifs : List Expr} {scope : Scope} {own : List (Str × Nat)} {pos np apos cpos : Pos} {T : Tg} {ft : DM Bool} {fe : DM Sv}
theorem de_lcV (i : Nat) {x : Str} (hc : X.calm = true) (hN : X.N.Nodup) (hi : X.N[i]? = some x) (hv : Vis X.env.scope x) (ok : BlkOk X.N X.env.scope scope own)
    (hg : ∀ (s : Shared) (H : Hp) (C : Addr) (cl : List (Str × Addr)) (fp : List Addr), DTg (X.blk s H scope (compEnvC scope cl C X.env) fp) tg T)
    (ht : ∀ (s : Shared) (H : Hp) (C : Addr) (cl : List (Str × Addr)) (fp : List Addr), DTs (X.blk s H scope (compEnvC scope cl C X.env) fp) wNo ifs ft)
    (he : ∀ (s : Shared) (H : Hp) (C : Addr) (cl : List (Str × Addr)) (fp : List Addr), DE (X.blk s H scope (compEnvC scope cl C X.env) fp) wNo elt fe) (hT : ∀ i ∈ T.ix, i ∈ own.map (·.2))
    (hbase : attributeBase (.Name x np) "values" X.env (eval (.Name x np) X.env) = eval (.Name x np) X.env := by rfl) (hline : (apos.endLine == cpos.line) = true := by rfl) (hd : (x == ("__debug__" : Str)) = false := by decide) (hcd : (x == ("__classdict__" : Str)) = false := by decide)
    (hs : ∀ z, foldedSetIterable (.Call (.Attribute (.Name x np) "values" apos) [] [] cpos) X.env z = pure z := by intro _; rfl) {vs : List Nat} (hvs : own.map (·.2) = vs := by rfl) :
    DE X W (.ListComp elt [⟨tg, .Call (.Attribute (.Name x np) "values" apos) [] [] cpos, ifs, 0⟩] scope pos) (dLcV i T ft fe vs) := by
  subst hvs
  have a1 := de_lc (W := W) hc hN (di_vals (de_var i hi hv hd hcd) hbase hline) ok hg ht he hT hs (pos := pos)
  have a2 := pe_lock (pe_lc (g := T.read X.K) (tt := tT X.K X.mg' wNo ft) (te := tE X.K X.mg' wNo fe) (tg := tg) (pos := pos) hc hN (pi_values (pe_var hi hv hd hcd) hbase hline) ok hg (fun s H C cl fp => imTs (t' := tT X.K X.mg' wNo ft) (ht s H C cl fp) fun σ H Q h => by rw [blk_mg hc]; exact h) (fun s H C cl fp => imE (t' := tE X.K X.mg' wNo fe) (he s H C cl fp) fun σ H Q h => by rw [blk_mg hc]; exact h) hs)
  refine imE (pe_or a1 a2) fun σ H Q h => ?_
  obtain ⟨G0, G, F, ps, ρ, L, g0, I, S, h⟩ := h
  unfold dLcV at h
  split at h
  · rename_i k pre
    split at h
    · rename_i ks hL
      refine .inr ?_
      obtain ⟨v, hσ, rv⟩ := S.at_ i _ pre
      obtain ⟨p, rfl, hp⟩ := xv_own (show XvOk X.K X.mg' G F ps v (.val (.own k)) from rv)
      obtain ⟨ws, e1, z, rs⟩ := I.at_ k p _ hp hL
      have lv := I.free p (List.mem_of_getElem? hp) ⟨k, _, hp, hL, fun q => by cases q⟩
      refine ⟨p, .dK ws, e1, trivial, fun od => ?_⟩
      have I2 := I.take hp hL (fun q => by cases q) e1 (fun x q => by cases q)
      have I3 := I2.write (u := .frz od (.dK ws)) (upd_same (H := G)) fun x q => by cases q
      rw [upd_upd] at I3
      have gG : Same G (upd G p (.frz od (.dK ws))) := fun b o q => by rw [upd_ne (ne_of_none q lv.2)]; exact q
      refine ⟨.ref p, hσ, p, od, ws, rfl, upd_same, fun D hD => ?_⟩
      have hDp : D ≠ p := fun z => by rw [z, upd_same] at hD; cases hD
      have gD : upd G p (.frz od (.dK ws)) D = none := I3.frame.free hD
      have gD0 : G D = none := by rw [upd_ne hDp] at gD; exact gD
      refine lc_run (Gk := one p (.frz od (.dK ws))) hT (g0.trans gG) gD (fun u => one_same (by rw [upd_ne (Ne.symm hDp)]; exact upd_same)) (I3.hold hD) (Nat.zero_le _) .nil (S.gr gG) (yld_vals (fun g x J => J.frame _ _ (g _ _ one_at)) rs) ?_
      refine Res.wp_mono (noErr_keep (E' := fun _ _ _ => False) (Res.wp_bind h)) (fun acc L' h3 us2 F2 H2 p2 x2 J z2 r2 => ?_) fun _ _ _ q => q
      cases hb : backD k ks L' with
      | none => rw [hb] at h3; exact h3.elim
      | some L3 =>
        rw [hb] at h3
        unfold backD at hb
        split at hb
        · rename_i hL2
          cases hb
          have gp : (upd (upd G p (.frz od (.dK ws))) D (.lst us2)) p = some (.frz od (.dK ws)) := by rw [upd_ne (Ne.symm hDp)]; exact upd_same
          have hHp : H2 p = some (.frz od (.dK ws)) := J.frame _ _ gp
          refine ⟨hHp, ?_⟩
          have J0 := J.write (u := .dK ws) gp fun x q => by cases q
          have gp2 : (upd (upd (upd G p (.frz od (.dK ws))) D (.lst us2)) p (.dK ws)) p = some (.dK ws) := upd_same
          have J2 := J0.untake (c := .dic ks) (x2.get hp) hL2 gp2 fun G2 => ⟨ws, J0.frame _ _ gp2, z, RDk.ext x2 rs⟩
          have J3 : HS X.K X.mg' (upd G D (.lst us2)) F2 (upd H2 p (.dK ws)) p2 _ := J2.weak fun b o q => by
            by_cases hb : b = D
            · subst hb; rw [cut_ne hDp, upd_ne hDp]; rw [upd_same] at q ⊢; exact q
            · rw [upd_ne hb] at q
              have hbp := ne_of_none q lv.2
              rw [cut_ne hbp, upd_ne hbp, upd_ne hb, upd_ne hbp]; exact q
          exact newL_ok (ow := false) gD0 J3 z2 r2 (Res.wp_mono h3 (fun _ _ q => QE.ext x2 q) fun _ _ _ q => EE.ext x2 q)
        · cases hb
    · exact h.elim
  · exact .inl ⟨G0, G, F, ps, ρ, L, g0, I, S, h⟩
end
end DL

/-! DL, part 26: dict comprehensions; two clauses. -/
namespace DL
open PySem PySem.Spec PyProof.Rows L2
def dcLoop (T : Tg) (ft : DM Bool) (fk fv : DM Sv) (ρ : Slo) : List Dv → List (Key × Dv) → Led → Res (List (Key × Dv))
  | [], acc, L => .ok acc L
  | d :: ds, acc, L => match T.set d ρ with
    | none => .bad
    | some ρ1 => (ft ρ1 L).bind fun b L1 => if b then (fk ρ1 L1).bind fun s L2 => (fv ρ1 L2).bind fun t L3 => match s.key, t with
        | some k, .val y => if acc.length < sizeLine then dcLoop T ft fk fv ρ ds (putD acc k y) L3 else .bad
        | _, _ => .bad
      else dcLoop T ft fk fv ρ ds acc L1
def dDc (fi : DM Src) (T : Tg) (ft : DM Bool) (fk fv : DM Sv) (vs : List Nat) : DM Sv := fun ρ L => (fi ρ L).bind fun s L1 => (noErr (dcLoop T ft fk fv (wipeR ρ vs) s.items [] L1)).bind fun acc L2 => .ok (.val (.dic acc)) L2
section
variable {K : PySem.W.Frag} {mg : Str → Option Value} {G0 G F H : Hp} {ps : List Addr} {L : Led} {σ : List (Option V)} {ρ : Slo} {W : WX} {fi : DM Src} {T : Tg} {ft : DM Bool} {fk fv : DM Sv}
theorem tDc_of {Q : VK} {vs : List Nat} (hT : ∀ i ∈ T.ix, i ∈ vs) (h : tE K mg W (dDc fi T ft fk fv vs) σ H Q) : tDc (tI K mg W fi) (T.read K) (tT K mg wNo ft) (tE K mg wNo fk) (tE K mg wNo fv) vs σ H (lkE Q) := by
  obtain ⟨G0, G, F, ps, ρ, L, g0, I, S, h⟩ := h
  refine ⟨G0, G, F, ps, ρ, L, g0, I, S, Res.wp_mono (Res.wp_bind h) (fun s L1 h1 J F1 H1 p1 x1 I1 y1 D hD => ?_) fun e r L' q => q⟩
  have gD : G D = none := I1.frame.free hD
  have sG : ∀ u : HO, Same G (upd G D u) := fun u b o e => by rw [upd_ne (ne_of_none e gD)]; exact e
  have sK : ∀ u : HO, Same (if s.solid then noH else G) (upd G D u) := fun u => by
    cases s.solid
    · exact sG u
    · exact ne_noH
  refine ⟨fun i m H' => i ≤ s.items.length ∧ m = s.items.length - i ∧ ∃ F' ps' us acc L', Ext F1 p1 F' ps' ∧ HS K mg (upd G D (.dK us)) F' H' ps' L' ∧ us.length ≤ sizeLine ∧ RDk K mg F' ps' us acc ∧ (noErr (dcLoop T ft fk fv (wipeR ρ vs) (s.items.drop i) acc L')).wp (fun acc L2 => QE K mg G F ps Q (.val (.dic acc)) L2) (EE K mg G0 F ps W),
    ⟨_, Nat.zero_le _, rfl, F1, p1, [], [], L1, Ext.refl _ _, I1.hold hD, Nat.zero_le _, .nil, Res.wp_bind h1⟩, ?_⟩
  rintro i m H' ⟨hi, rfl, F', ps', us, acc, L', x', I', z', rs, q⟩
  obtain ⟨go, st, yl⟩ := y1 _ F' H' ps' L' (sK _) x' I'
  by_cases hlt : i < s.items.length
  · refine .inr ⟨go i hlt, fun H2 => i + 1 ≤ s.items.length ∧ ∃ F' ps' us acc L', Ext F1 p1 F' ps' ∧ HS K mg (upd G D (.dK us)) F' H2 ps' L' ∧ us.length ≤ sizeLine ∧ RDk K mg F' ps' us acc ∧ (noErr (dcLoop T ft fk fv (wipeR ρ vs) (s.items.drop (i + 1)) acc L')).wp (fun acc L2 => QE K mg G F ps Q (.val (.dic acc)) L2) (EE K mg G0 F ps W), fun H2 ⟨a, b⟩ => ⟨_, by omega, a, rfl, b⟩, fun x H2 hy => ?_⟩
    obtain ⟨d, F2, ed, x2, I2, r2⟩ := yl i x H2 hlt hy
    have hd : s.items.drop i = d :: s.items.drop (i + 1) := by
      have e2 := List.getElem?_eq_some_iff.mp ed
      rw [List.drop_eq_getElem_cons hlt, e2.2]
    rw [hd] at q
    unfold dcLoop at q
    have xx := x1.trans (x'.trans x2)
    split at q
    · exact q.elim
    · rename_i ρ1 hρ
      have SS : Slots K mg G0 (upd G D (.dK us)) F2 ps' (wipe σ vs) (wipeR ρ vs) := ((S.ext xx).gr (sG _)).wipe vs
      refine Tg.run (vs := vs) I2 r2 SS hρ fun σ3 S3 w3 => ⟨(w3 hT).trans (wipe_wipe σ vs), ?_⟩
      have gg : Same G0 (upd G D (.dK us)) := g0.trans (sG _)
      refine ⟨G0, _, F2, ps', ρ1, L', gg, I2, S3, Res.wp_mono (Res.wp_bind (noErr_wp (E' := fun _ _ _ => False) q)) (fun b L3 h3 F3 H3 p3 x3 I3 => ?_) fun e r L3 q3 => q3.elim⟩
      cases b with
      | true =>
        rw [if_pos rfl] at h3 ⊢
        refine ⟨G0, _, F3, p3, ρ1, L3, gg, I3, S3.ext x3, Res.wp_mono (Res.wp_bind h3) (fun t L4 h4 y F4 H4 p4 x4 I4 r4 => ?_) fun e r L3 q3 => q3.elim⟩
        refine ⟨G0, _, F4, p4, ρ1, L4, gg, I4, (S3.ext x3).ext x4, Res.wp_mono (Res.wp_bind h4) (fun t2 L5 h5 y2 F5 H5 p5 x5 I5 r5 => ?_) fun e r L3 q3 => q3.elim⟩
        split at h5
        · rename_i k yd hkey
          split at h5
          · rename_i hz
            have xt := x2.trans (x3.trans (x4.trans x5))
            obtain ⟨rfl, zk⟩ := xv_key r4 hkey
            have hz2 : us.length < sizeLine := by rw [rs.length]; exact hz
            refine ⟨us, k, rfl, I5.frame _ _ upd_same, hz2, hlt, F5, p5, putK us k y2, putD acc k yd, L5, x'.trans xt, ?_, putK_len hz2, (RDk.ext xt rs).put zk r5, ?_⟩
            · have I6 := I5.write (u := .dK (putK us k y2)) (upd_same (H := G)) fun _ q => by cases q
              refine I6.weak fun b o e => ?_
              rw [upd_upd]; exact e
            · cases hc : dcLoop T ft fk fv (wipeR ρ vs) (s.items.drop (i + 1)) (putD acc k yd) L5 with
              | ok a L5 => rw [hc] at h5; exact h5
              | err e r L5 => rw [hc] at h5; exact h5.elim
              | bad => rw [hc] at h5; exact h5.elim
          · exact h5.elim
        · exact h5.elim
      | false =>
        rw [if_neg Bool.false_ne_true] at h3 ⊢
        have xt := x2.trans x3
        refine ⟨hlt, F3, p3, us, acc, L3, x'.trans xt, I3, z', RDk.ext xt rs, ?_⟩
        cases hc : dcLoop T ft fk fv (wipeR ρ vs) (s.items.drop (i + 1)) acc L3 with
        | ok a L5 => rw [hc] at h3; exact h3
        | err e r L5 => rw [hc] at h3; exact h3.elim
        | bad => rw [hc] at h3; exact h3.elim
  · have e : i = s.items.length := by omega
    subst e
    rw [List.drop_length] at q
    unfold dcLoop at q
    refine .inl ⟨st, .inr ⟨D, .dK us, I'.frame _ _ upd_same, trivial, fun od => ?_⟩⟩
    have I3 := I'.write (u := .frz od (.dK us)) (upd_same (H := G)) fun _ q => by cases q
    obtain ⟨I5, x5⟩ := I3.frz (upd_same (H := upd G D (.dK us)))
    refine q (.ref D) _ _ ps' (x1.trans (x'.trans x5)) (I5.weak fun b o e => ?_) (.dic upd_same z' (RDk.ext x5 rs))
    rw [cut_ne (ne_of_none e gD), upd_ne (ne_of_none e gD), upd_ne (ne_of_none e gD)]; exact e
end
section
variable {X : Cx} {W : WX} {kx vx tg iter : Expr} {ifs : List Expr} {scope : Scope} {own : List (Str × Nat)} {pos : Pos} {fi : DM Src} {T : Tg} {ft : DM Bool} {fk fv : DM Sv}
theorem de_dc (hc : X.calm = true) (hN : X.N.Nodup) (hi : DI X W tg iter fi) (ok : BlkOk X.N X.env.scope scope own)
    (hg : ∀ (s : Shared) (H : Hp) (C : Addr) (cl : List (Str × Addr)) (fp : List Addr), DTg (X.blk s H scope (compEnvC scope cl C X.env) fp) tg T)
    (ht : ∀ (s : Shared) (H : Hp) (C : Addr) (cl : List (Str × Addr)) (fp : List Addr), DTs (X.blk s H scope (compEnvC scope cl C X.env) fp) wNo ifs ft)
    (hk : ∀ (s : Shared) (H : Hp) (C : Addr) (cl : List (Str × Addr)) (fp : List Addr), DE (X.blk s H scope (compEnvC scope cl C X.env) fp) wNo kx fk)
    (he : ∀ (s : Shared) (H : Hp) (C : Addr) (cl : List (Str × Addr)) (fp : List Addr), DE (X.blk s H scope (compEnvC scope cl C X.env) fp) wNo vx fv) (hT : ∀ i ∈ T.ix, i ∈ own.map (·.2))
    (hs : ∀ x, foldedSetIterable iter X.env x = pure x := by intro _; rfl) {vs : List Nat} (hvs : own.map (·.2) = vs := by rfl) : DE X W (.DictComp kx vx [⟨tg, iter, ifs, 0⟩] scope pos) (dDc fi T ft fk fv vs) := by
  subst hvs
  exact imE (pe_lk (pe_dc (g := T.read X.K) (tt := tT X.K X.mg' wNo ft) (tk := tE X.K X.mg' wNo fk) (tv := tE X.K X.mg' wNo fv) hc hN hi ok hg (fun s H C cl fp => imTs (t' := tT X.K X.mg' wNo ft) (ht s H C cl fp) fun σ H Q h => by rw [blk_mg hc]; exact h) (fun s H C cl fp => imE (t' := tE X.K X.mg' wNo fk) (hk s H C cl fp) fun σ H Q h => by rw [blk_mg hc]; exact h) (fun s H C cl fp => imE (t' := tE X.K X.mg' wNo fv) (he s H C cl fp) fun σ H Q h => by rw [blk_mg hc]; exact h) hs)) fun σ H Q h => tDc_of hT h
end
theorem noErr_of {α : Type} {r : Res α} {P : α → Led → Prop} {E : Exn → Slo → Led → Prop} (h : r.wp P (fun _ _ _ => False)) : (noErr r).wp P E := by
  cases r with
  | ok a L => exact h
  | err e s L => exact h.elim
  | bad => exact h.elim
/-! ### two clauses -/
def cLoop2 (T : Tg) (ft : DM Bool) (fs1 : DM Sv) (T1 : Tg) (ft1 : DM Bool) (fe : DM Sv) (vs1 : List Nat) (ρ : Slo) : List Dv → List Dv → Led → Res (List Dv)
  | [], acc, L => .ok acc L
  | d :: ds, acc, L => match T.set d ρ with
    | none => .bad
    | some ρ1 => (ft ρ1 L).bind fun b L1 => if b then (fs1 ρ1 L1).bind fun s L2 => match s.src with
        | some z => if z.solid then (cLoop T1 ft1 fe (wipeR ρ1 vs1) z.items acc L2).bind fun acc2 L3 => cLoop2 T ft fs1 T1 ft1 fe vs1 ρ ds acc2 L3 else .bad
        | none => .bad
      else cLoop2 T ft fs1 T1 ft1 fe vs1 ρ ds acc L1
def dLc2 (fi : DM Src) (T : Tg) (ft : DM Bool) (fs1 : DM Sv) (T1 : Tg) (ft1 : DM Bool) (fe : DM Sv) (vs vs1 : List Nat) : DM Sv := fun ρ L => (fi ρ L).bind fun s L1 => (noErr (cLoop2 T ft fs1 T1 ft1 fe vs1 (wipeR ρ vs) s.items [] L1)).bind fun acc L2 => .ok (.val (.lst acc)) L2
section
variable {K : PySem.W.Frag} {mg : Str → Option Value} {G0 G F H : Hp} {ps : List Addr} {L : Led} {σ : List (Option V)} {ρ : Slo} {W : WX} {fi : DM Src} {T T1 : Tg} {ft ft1 : DM Bool} {fs1 fe : DM Sv}
theorem tLc2_of {Q : VK} {vs vs1 : List Nat} (hT : ∀ i ∈ T.ix, i ∈ vs) (hT1 : ∀ i ∈ T1.ix, i ∈ vs1) (h : tE K mg W (dLc2 fi T ft fs1 T1 ft1 fe vs vs1) σ H Q) : tLc2 (tI K mg W fi) (T.read K) (tT K mg wNo ft) (iSrc K (tE K mg wNo fs1)) (T1.read K) (tT K mg wNo ft1) (tE K mg wNo fe) vs vs1 σ H Q := by
  obtain ⟨G0, G, F, ps, ρ, L, g0, I, S, h⟩ := h
  refine ⟨G0, G, F, ps, ρ, L, g0, I, S, Res.wp_mono (Res.wp_bind h) (fun s L1 h1 J F1 H1 p1 x1 I1 y1 D hD => ?_) fun e r L' q => q⟩
  have gD : G D = none := I1.frame.free hD
  have sG : ∀ u : HO, Same G (upd G D u) := fun u b o e => by rw [upd_ne (ne_of_none e gD)]; exact e
  have sK : ∀ u : HO, Same (if s.solid then noH else G) (upd G D u) := fun u => by
    cases s.solid
    · exact sG u
    · exact ne_noH
  refine ⟨fun i m H' => i ≤ s.items.length ∧ m = s.items.length - i ∧ ∃ F' ps' us acc L', Ext F1 p1 F' ps' ∧ HS K mg (upd G D (.lst us)) F' H' ps' L' ∧ us.length ≤ sizeLine ∧ RDs K mg F' ps' us acc ∧ (noErr (cLoop2 T ft fs1 T1 ft1 fe vs1 (wipeR ρ vs) (s.items.drop i) acc L')).wp (fun acc L2 => QE K mg G F ps Q (.val (.lst acc)) L2) (EE K mg G0 F ps W),
    ⟨_, Nat.zero_le _, rfl, F1, p1, [], [], L1, Ext.refl _ _, I1.hold hD, Nat.zero_le _, .nil, Res.wp_bind h1⟩, ?_⟩
  rintro i m H' ⟨hi, rfl, F', ps', us, acc, L', x', I', z', rs, q⟩
  obtain ⟨go, st, yl⟩ := y1 _ F' H' ps' L' (sK _) x' I'
  by_cases hlt : i < s.items.length
  · refine .inr ⟨go i hlt, fun H2 => i + 1 ≤ s.items.length ∧ ∃ F' ps' us acc L', Ext F1 p1 F' ps' ∧ HS K mg (upd G D (.lst us)) F' H2 ps' L' ∧ us.length ≤ sizeLine ∧ RDs K mg F' ps' us acc ∧ (noErr (cLoop2 T ft fs1 T1 ft1 fe vs1 (wipeR ρ vs) (s.items.drop (i + 1)) acc L')).wp (fun acc L2 => QE K mg G F ps Q (.val (.lst acc)) L2) (EE K mg G0 F ps W), fun H2 ⟨a, b⟩ => ⟨_, by omega, a, rfl, b⟩, fun x H2 hy => ?_⟩
    obtain ⟨d, F2, ed, x2, I2, r2⟩ := yl i x H2 hlt hy
    have hd : s.items.drop i = d :: s.items.drop (i + 1) := by
      have e2 := List.getElem?_eq_some_iff.mp ed
      rw [List.drop_eq_getElem_cons hlt, e2.2]
    rw [hd] at q
    unfold cLoop2 at q
    have xx := x1.trans (x'.trans x2)
    split at q
    · exact q.elim
    · rename_i ρ1 hρ
      have SS : Slots K mg G0 G F2 ps' (wipe σ vs) (wipeR ρ vs) := (S.ext xx).wipe vs
      refine Tg.run (vs := vs) (I2.weak (sG _)) r2 SS hρ fun σ3 Sg w3 => ⟨(w3 hT).trans (wipe_wipe σ vs), ?_⟩
      have S3 : Slots K mg G0 (upd G D (.lst us)) F2 ps' σ3 ρ1 := Sg.gr (sG _)
      have gg : Same G0 (upd G D (.lst us)) := g0.trans (sG _)
      refine ⟨G0, _, F2, ps', ρ1, L', gg, I2, S3, Res.wp_mono (Res.wp_bind (noErr_wp (E' := fun _ _ _ => False) q)) (fun b L3 h3 F3 H3 p3 x3 I3 => ?_) fun e r L3 q3 => q3.elim⟩
      cases b with
      | true =>
        rw [if_pos rfl] at h3 ⊢
        refine ⟨G0, _, F3, p3, ρ1, L3, gg, I3, S3.ext x3, Res.wp_mono (Res.wp_bind h3) (fun t L4 h4 y F4 H4 p4 x4 I4 r4 => ?_) fun e r L3 q3 => q3.elim⟩
        split at h4
        · rename_i zz hz
          split at h4
          · rename_i hsol
            have xt := x2.trans (x3.trans x4)
            refine SrcR.imp (src_of I4 r4 hz) fun k hk => ?_
            rw [if_pos hsol] at hk
            refine lc_run hT1 g0 gD (fun u => ne_noH) I4 z' (rs.ext xt) ((Sg.ext x3).ext x4) hk.yldP (noErr_of (Res.wp_mono (Res.wp_bind h4) (fun acc2 L5 h5 us2 F5 H5 p5 x5 I5 z5 r5 => ?_) fun _ _ _ q => q))
            refine ⟨hlt, F5, p5, us2, acc2, L5, x'.trans (xt.trans x5), I5, z5, r5, noErr_of h5⟩
          · exact h4.elim
        · exact h4.elim
      | false =>
        rw [if_neg Bool.false_ne_true] at h3 ⊢
        refine ⟨hlt, F3, p3, us, acc, L3, x'.trans (x2.trans x3), I3, z', rs.ext (x2.trans x3), ?_⟩
        cases hc : cLoop2 T ft fs1 T1 ft1 fe vs1 (wipeR ρ vs) (s.items.drop (i + 1)) acc L3 with
        | ok a L5 => rw [hc] at h3; exact h3
        | err e r L5 => rw [hc] at h3; exact h3.elim
        | bad => rw [hc] at h3; exact h3.elim
  · have e : i = s.items.length := by omega
    subst e
    rw [List.drop_length] at q
    unfold cLoop2 at q
    refine .inl ⟨st, ?_⟩
    obtain ⟨I5, x5⟩ := I'.frz (upd_same (H := G) (o := HO.lst us))
    refine q (.ref D) _ H' ps' (x1.trans (x'.trans x5)) (I5.weak fun b o e => ?_) (.lst upd_same z' (rs.ext x5))
    rw [cut_ne (ne_of_none e gD), upd_ne (ne_of_none e gD)]; exact e
end
section
variable {X : Cx} {W : WX} {elt tg iter tg1 iter1 : Expr} {ifs ifs1 : List Expr} {scope : Scope} {own : List (Str × Nat)} {vs1 : List Nat} {pos : Pos} {fi : DM Src} {T T1 : Tg} {ft ft1 : DM Bool} {fs1 fe : DM Sv}
theorem de_lc2 (hc : X.calm = true) (hN : X.N.Nodup) (hi : DI X W tg iter fi) (ok : BlkOk X.N X.env.scope scope own) (hv : ∀ i ∈ vs1, i ∈ own.map (·.2))
    (hg : ∀ (s : Shared) (H : Hp) (C : Addr) (cl : List (Str × Addr)) (fp : List Addr), DTg (X.blk s H scope (compEnvC scope cl C X.env) fp) tg T)
    (ht : ∀ (s : Shared) (H : Hp) (C : Addr) (cl : List (Str × Addr)) (fp : List Addr), DTs (X.blk s H scope (compEnvC scope cl C X.env) fp) wNo ifs ft)
    (hi1 : ∀ (s : Shared) (H : Hp) (C : Addr) (cl : List (Str × Addr)) (fp : List Addr), DE (X.blk s H scope (compEnvC scope cl C X.env) fp) wNo iter1 fs1)
    (hg1 : ∀ (s : Shared) (H : Hp) (C : Addr) (cl : List (Str × Addr)) (fp : List Addr), DTg (X.blk s H scope (compEnvC scope cl C X.env) fp) tg1 T1)
    (ht1 : ∀ (s : Shared) (H : Hp) (C : Addr) (cl : List (Str × Addr)) (fp : List Addr), DTs (X.blk s H scope (compEnvC scope cl C X.env) fp) wNo ifs1 ft1)
    (he : ∀ (s : Shared) (H : Hp) (C : Addr) (cl : List (Str × Addr)) (fp : List Addr), DE (X.blk s H scope (compEnvC scope cl C X.env) fp) wNo elt fe) (hT : ∀ i ∈ T.ix, i ∈ own.map (·.2)) (hT1 : ∀ i ∈ T1.ix, i ∈ vs1)
    (hs : ∀ x, foldedSetIterable iter X.env x = pure x := by intro _; rfl) (hs1 : ∀ env x, foldedSetIterable iter1 env x = pure x := by intro _ _; rfl) {vs : List Nat} (hvs : own.map (·.2) = vs := by rfl) : DE X W (.ListComp elt [⟨tg, iter, ifs, 0⟩, ⟨tg1, iter1, ifs1, 0⟩] scope pos) (dLc2 fi T ft fs1 T1 ft1 fe vs vs1) := by
  subst hvs
  exact imE (pe_lc2 (g := T.read X.K) (tt := tT X.K X.mg' wNo ft) (wi1 := iSrc X.K (tE X.K X.mg' wNo fs1)) (g1 := T1.read X.K) (tt1 := tT X.K X.mg' wNo ft1) (te := tE X.K X.mg' wNo fe) hc hN hi ok hv hg (fun s H C cl fp => imTs (t' := tT X.K X.mg' wNo ft) (ht s H C cl fp) fun σ H Q h => by rw [blk_mg hc]; exact h) (fun s H C cl fp => pi_src (imE (t' := tE X.K X.mg' wNo fs1) (hi1 s H C cl fp) fun σ H Q h => by rw [blk_mg hc]; exact h)) hg1 (fun s H C cl fp => imTs (t' := tT X.K X.mg' wNo ft1) (ht1 s H C cl fp) fun σ H Q h => by rw [blk_mg hc]; exact h) (fun s H C cl fp => imE (t' := tE X.K X.mg' wNo fe) (he s H C cl fp) fun σ H Q h => by rw [blk_mg hc]; exact h) hs hs1) fun σ H Q h => tLc2_of hT hT1 h
end
end DL

/-! DL, part 27: built-ins that make lists and dicts; sorted; str. -/
namespace DL
open PySem PySem.Spec PyProof.Rows L2
/-! ### new lists -/
def CallLS (K : PySem.W.Frag) (mg : Str → Option Value) (r : List V → Hp → VK → Prop) (g : List Sv → Led → Option (List Dv)) : Prop :=
  ∀ (G F H : Hp) (ps : List Addr) (L : Led) (xs : List V) (ss : List Sv) (ds : List Dv) (Q : VK), HS K mg G F H ps L → XvsOk K mg G F ps xs ss → g ss L = some ds →
    (∀ l vs, H l = none → vs.length ≤ sizeLine → RDs K mg F ps vs ds → Q (.ref l) (upd H l (.lst vs))) → r xs H Q
def dBiL (ow : Bool) (g : List Sv → Led → Option (List Dv)) (fa : DM (List Sv)) : DM Sv := fun ρ L => (fa ρ L).bind fun ss L1 => match g ss L1 with
  | some ds => newL ow ds L1
  | none => .bad
section
variable {K : PySem.W.Frag} {mg : Str → Option Value} {W : WX} {r r' : List V → Hp → VK → Prop} {g g' : List Sv → Led → Option (List Dv)} {fa : DM (List Sv)} {ow : Bool}
theorem tCBL_of (hs : CallLS K mg r g) {σ : List (Option V)} {H : Hp} {Q : VK} (h : tE K mg W (dBiL ow g fa) σ H Q) : tCB r (tA K mg W fa) σ H Q := by
  obtain ⟨G0, G, F, ps, ρ, L, g0, I, S, h⟩ := h
  refine ⟨G0, G, F, ps, ρ, L, g0, I, S, Res.wp_mono (Res.wp_bind h) (fun ss L1 h1 vs F1 H1 p1 x1 I1 r1 => ?_) fun e r L' q => q⟩
  split at h1
  · rename_i ds hd
    refine hs G F1 H1 p1 L1 vs ss ds Q I1 r1 hd fun l us hl z rs => ?_
    exact newL_ok (I1.frame.free hl) (I1.hold hl) z rs (Res.wp_mono h1 (fun _ _ q => QE.ext x1 q) fun _ _ _ q => EE.ext x1 q)
  · exact h1.elim
theorem CallLS.or (h : CallLS K mg r g) (h' : CallLS K mg r' g') : CallLS K mg (fun xs H Q => r xs H Q ∨ r' xs H Q) (fun ss L => (g ss L).or (g' ss L)) := by
  intro G F H ps L xs ss s Q I R e q
  cases h1 : g ss L with
  | some t =>
    simp only [h1, Option.some_or] at e
    exact .inl (h G F H ps L xs ss s Q I R (h1.trans e) q)
  | none =>
    simp only [h1, Option.none_or] at e
    exact .inr (h' G F H ps L xs ss s Q I R e q)
end
section
variable {X : Cx} {W : WX} {x : Str} {p pos : Pos} {e : Expr} {es : List Expr} {id T : String} {r : List V → Hp → VK → Prop} {g : List Sv → Led → Option (List Dv)} {fa : DM (List Sv)} {ow : Bool}
theorem de_bL (hc : CallR X (.builtin id) r) (hs : CallLS X.K X.mg' r g) (hg : Gl X x) (hm : X.mg x = none) (hv : bootBuiltins x = some (.builtin id)) (ha : DA X W (e :: es) fa) (hn : x ≠ "__name__" := by decide) (hdb : (x == ("__debug__" : Str)) = false := by decide)
    (he : starEach (e :: es) X.env = (false, eval e X.env) :: starEach es X.env := by rfl) (hpl : (backTo pos (starEach es X.env)).any (·.1) = false := by rfl) : DE X W (.Call (.Name x p) (e :: es) [] pos) (dBiL ow g fa) :=
  imE (pe_callB hc hg hm hv ha hn hdb he hpl) fun _ _ _ h => tCBL_of hs h
theorem de_tL (hc : CallR X (.type T) r) (hs : CallLS X.K X.mg' r g) (hg : Gl X x) (hm : X.mg x = none) (hv : bootBuiltins x = some (.type T)) (ha : DA X W (e :: es) fa) (hn : x ≠ "__name__" := by decide) (hdb : (x == ("__debug__" : Str)) = false := by decide)
    (he : starEach (e :: es) X.env = (false, eval e X.env) :: starEach es X.env := by rfl) (hpl : (backTo pos (starEach es X.env)).any (·.1) = false := by rfl) : DE X W (.Call (.Name x p) (e :: es) [] pos) (dBiL ow g fa) :=
  imE (pe_callTy hc hg hm hv ha hn hdb he hpl) fun _ _ _ h => tCBL_of hs h
end
/-! ### list(..) of a list, a tuple, a dict -/
def gLs (ss : List Sv) (L : Led) : Option (List Dv) := match ss with
  | [a] => (a.seqL L).or a.seqT
  | _ => none
def gLk (ss : List Sv) (L : Led) : Option (List Dv) := match ss with
  | [a] => (a.prL L).map keysDv
  | _ => none
section
variable {K : PySem.W.Frag} {mg : Str → Option Value}
theorem ls_seq : CallLS K mg (fun xs H Q => ∃ p ys, xs = [.ref p] ∧ (SqL K H p ys ∨ SqT K H p ys) ∧ ∀ l, H l = none → Q (.ref l) (upd H l (.lst ys))) (fun ss L => (gLs ss L).bind fun ds => if ds.length ≤ sizeLine then some ds else none) := by
  intro G F H ps L xs ss ds Q I R e q
  have e1 : gLs ss L = some ds ∧ ds.length ≤ sizeLine := by
    dsimp only at e
    cases h : gLs ss L with
    | none => rw [h] at e; cases e
    | some d =>
      rw [h] at e
      simp only [Option.bind_some] at e
      split at e
      · cases e; exact ⟨rfl, by assumption⟩
      · cases e
  obtain ⟨e1, z⟩ := e1
  unfold gLs at e1
  split at e1
  · rename_i a
    obtain ⟨x, rfl, rx⟩ := xvs1 R
    cases hl : a.seqL L with
    | some d =>
      rw [hl] at e1; cases e1
      obtain ⟨p, vs, rfl, hp, rs⟩ := xv_seqL I rx hl
      exact ⟨p, vs, rfl, .inl hp, fun l h => q l vs h (by rw [rs.length]; exact z) rs⟩
    | none =>
      rw [hl] at e1
      obtain ⟨p, vs, rfl, hp, rs, _⟩ := xv_seqT I rx e1
      exact ⟨p, vs, rfl, .inr hp, fun l h => q l vs h (by rw [rs.length]; exact z) rs⟩
  · cases e1
theorem RDk.keys {F : Hp} {ps : List Addr} : ∀ {ws : List (Key × V)} {ks : List (Key × Dv)}, RDk K mg F ps ws ks → RDs K mg F ps (ws.map fun kv => kV kv.1) (keysDv ks)
  | _, _, .nil => .nil
  | _, _, .cons (k := k) z h r => by
    refine .cons ?_ (RDk.keys r)
    cases k with
    | inl i => exact .int i
    | inr x => exact .str x (z x rfl)
theorem ls_keys : CallLS K mg (fun xs H Q => ∃ (a : Addr) (kvs : List (Key × V)), xs = [.ref a] ∧ Rd H a (.dK kvs) ∧ ∀ p, H p = none → Q (.ref p) (upd H p (.lst (kvs.map fun kv => kV kv.1)))) (fun ss L => (gLk ss L).bind fun ds => if ds.length ≤ sizeLine then some ds else none) := by
  intro G F H ps L xs ss ds Q I R e q
  have e1 : gLk ss L = some ds ∧ ds.length ≤ sizeLine := by
    dsimp only at e
    cases h : gLk ss L with
    | none => rw [h] at e; cases e
    | some d =>
      rw [h] at e
      simp only [Option.bind_some] at e
      split at e
      · cases e; exact ⟨rfl, by assumption⟩
      · cases e
  obtain ⟨e1, z⟩ := e1
  unfold gLk at e1
  split at e1
  · rename_i a
    obtain ⟨x, rfl, rx⟩ := xvs1 R
    cases hl : a.prL L with
    | none => rw [hl] at e1; cases e1
    | some ks =>
      rw [hl] at e1; cases e1
      obtain ⟨p, ws, rfl, hp, rr⟩ := xv_prL I rx hl
      have rs := RDk.keys rr
      exact ⟨p, ws, rfl, hp, fun l h => q l _ h (by rw [rs.length]; exact z) rs⟩
  · cases e1
end
/-- list(x) -/
def gLst (ss : List Sv) (L : Led) : Option (List Dv) := ((gLs ss L).bind fun ds => if ds.length ≤ sizeLine then some ds else none).or ((gLk ss L).bind fun ds => if ds.length ≤ sizeLine then some ds else none)
theorem call_list3 {X : Cx} (hc : X.calm = true) : CallR X (.type "list") (fun xs H Q => (∃ p ys, xs = [.ref p] ∧ (SqL X.K H p ys ∨ SqT X.K H p ys) ∧ ∀ l, H l = none → Q (.ref l) (upd H l (.lst ys))) ∨ ∃ (a : Addr) (kvs : List (Key × V)), xs = [.ref a] ∧ Rd H a (.dK kvs) ∧ ∀ p, H p = none → Q (.ref p) (upd H p (.lst (kvs.map fun kv => kV kv.1)))) := CallR.or call_list_of (call_listD hc)
theorem ls_list {K : PySem.W.Frag} {mg : Str → Option Value} : CallLS K mg (fun xs H Q => (∃ p ys, xs = [.ref p] ∧ (SqL K H p ys ∨ SqT K H p ys) ∧ ∀ l, H l = none → Q (.ref l) (upd H l (.lst ys))) ∨ ∃ (a : Addr) (kvs : List (Key × V)), xs = [.ref a] ∧ Rd H a (.dK kvs) ∧ ∀ p, H p = none → Q (.ref p) (upd H p (.lst (kvs.map fun kv => kV kv.1)))) gLst := CallLS.or ls_seq ls_keys
/-! ### sorted -/
def leS (x y : Str) : Bool := !ltCps y.cps.toList x.cps.toList
theorem leS_iff {x y : Str} : leS x y = true ↔ x.cps.toList ≤ y.cps.toList := by
  unfold leS
  rw [ltCps_eq]
  simp
theorem leS_trans (a b c : Str) (h : leS a b = true) (h2 : leS b c = true) : leS a c = true := leS_iff.mpr (List.le_trans (leS_iff.mp h) (leS_iff.mp h2))
theorem leS_total (a b : Str) : (leS a b || leS b a) = true := by
  rw [Bool.or_eq_true, leS_iff, leS_iff]
  exact List.le_total _ _
theorem str_ext {x y : Str} (h : x.cps.toList = y.cps.toList) : x = y := by
  obtain ⟨a⟩ := x
  obtain ⟨b⟩ := y
  simp at h
  rw [h]
theorem leS_anti (a b : Str) (h : leS a b = true) (h2 : leS b a = true) : a = b := str_ext (List.le_antisymm (leS_iff.mp h) (leS_iff.mp h2))
def sortS (xs : List Str) : List Str := xs.mergeSort leS
theorem rising_pw : ∀ (ys : List Str) (p : Str), risingS p ys = true → (∀ y ∈ ys, leS p y = true) ∧ ys.Pairwise (fun a b => leS a b = true)
  | [], _, _ => ⟨fun _ h => (by simp at h), .nil⟩
  | x :: r, p, h => by
    simp only [risingS, Bool.and_eq_true] at h
    obtain ⟨h1, h2⟩ := h
    have hx : leS p x = true := h1
    obtain ⟨a, b⟩ := rising_pw r x h2
    refine ⟨fun y hy => ?_, List.pairwise_cons.mpr ⟨a, b⟩⟩
    rcases List.mem_cons.mp hy with e | hy
    · subst e; exact hx
    · exact leS_trans p x y hx (a y hy)
theorem sorted_eq {xs ys : List Str} (hp : ys.Perm xs) (hs : sortedS ys = true) : ys = sortS xs := by
  refine List.Perm.eq_of_pairwise (le := fun a b => leS a b = true) (fun a b _ _ => leS_anti a b) ?_ (List.pairwise_mergeSort leS_trans leS_total xs) (hp.trans (List.mergeSort_perm xs leS).symm)
  cases ys with
  | nil => exact .nil
  | cons y r =>
    obtain ⟨a, b⟩ := rising_pw r y hs
    exact List.pairwise_cons.mpr ⟨a, b⟩
theorem sortS_perm (xs : List Str) : (sortS xs).Perm xs := List.mergeSort_perm xs leS
theorem sortS_pw (xs : List Str) : (sortS xs).Pairwise (fun a b => leS a b = true) := List.pairwise_mergeSort leS_trans leS_total xs
def gSorted (ss : List Sv) (L : Led) : Option (List Dv) := match ss with
  | [a] => match (a.seqL L).bind strsOf with
    | some ys => if ys.length < 64 then some ((sortS ys).map .str) else none
    | none => none
  | _ => none
theorem strs_rd {K : PySem.W.Frag} {mg : Str → Option Value} {F : Hp} {ps : List Addr} : ∀ {ys : List Str}, (∀ y ∈ ys, y.length ≤ sizeLine) → RDs K mg F ps (ys.map V.str) (ys.map Dv.str)
  | [], _ => .nil
  | y :: ys, h => .cons (.str y (h y List.mem_cons_self)) (strs_rd fun z hz => h z (List.mem_cons_of_mem _ hz))
theorem strsOf_eq : ∀ {ds : List Dv} {ys : List Str}, strsOf ds = some ys → ds = ys.map .str
  | [], _, e => by cases e; rfl
  | .str x :: ds, ys, e => by
    cases h : strsOf ds with
    | none => simp [strsOf, h] at e
    | some zs =>
      simp [strsOf, h] at e
      subst e
      rw [strsOf_eq h]; rfl
theorem strs_small {K : PySem.W.Frag} {mg : Str → Option Value} {F : Hp} {ps : List Addr} : ∀ {ys : List Str} {vs : List V}, RDs K mg F ps vs (ys.map Dv.str) → ∀ y ∈ ys, y.length ≤ sizeLine
  | [], _, _, _, h => by cases h
  | y :: ys, _, .cons h r, z, hz => by
    rcases List.mem_cons.mp hz with e | hz
    · subst e
      cases h with
      | str _ h => exact h
    · exact strs_small r z hz
theorem ls_sorted {K : PySem.W.Frag} {mg : Str → Option Value} : CallLS K mg (rSortedS K) gSorted := by
  intro G F H ps L xs ss ds Q I R e q
  unfold gSorted at e
  split at e
  · rename_i a
    obtain ⟨x, rfl, rx⟩ := xvs1 R
    cases hl : a.seqL L with
    | none => rw [hl] at e; cases e
    | some d =>
      rw [hl] at e
      obtain ⟨p, vs, rfl, hp, rs⟩ := xv_seqL I rx hl
      simp only [Option.bind_some] at e
      split at e
      · rename_i ys hy
        split at e
        · rename_i h64
          cases e
          have rs2 := rs
          rw [strsOf_eq hy] at rs2
          have sm := strs_small rs2
          obtain rfl := strsOf_rel hy rs
          refine ⟨p, ys, rfl, hp, h64, fun zs l hz hs hl => ?_⟩
          rw [sorted_eq hz hs]
          have hsm : ∀ y ∈ sortS ys, y.length ≤ sizeLine := fun y hy => sm y ((sortS_perm ys).mem_iff.mp hy)
          refine q l _ hl ?_ (strs_rd hsm)
          rw [List.length_map, (sortS_perm ys).length_eq, sizeLine_eq]; omega
        · cases e
      · cases e
  · cases e
/-! ### str(x), int(x), max of a list -/
def gStr (ss : List Sv) (_ : Led) : Option Sv := match ss with
  | [.val (.int i)] => if i.natAbs.log2 < 1920 then some (.val (.str (toString i))) else none
  | [.val (.str x)] => some (.val (.str x))
  | _ => none
theorem int_text (i : Int) (h : i.natAbs.log2 < 1920) : (Str.ofString (toString i)).length ≤ sizeLine := int_text_fits h
theorem cs_str {K : PySem.W.Frag} {mg : Str → Option Value} : CallS K mg (fun xs H Q => (∃ i, xs = [.int i] ∧ i.natAbs.log2 < 1920 ∧ Q (.str (toString i)) H) ∨ ∃ a, xs = [.str a] ∧ Q (.str a) H) gStr := by
  intro G F H ps L xs ss s Q I R e q
  unfold gStr at e
  split at e
  · rename_i i
    obtain ⟨x, rfl, rx⟩ := xvs1 R
    split at e
    · rename_i hz
      cases e
      exact .inl ⟨i, by rw [xv_int rx], hz, QE.now q I (.str _ (int_text i hz))⟩
    · cases e
  · rename_i y
    obtain ⟨x, rfl, rx⟩ := xvs1 R
    cases e
    obtain ⟨rfl, z⟩ := xv_str rx
    exact .inr ⟨y, rfl, QE.now q I (.str _ z)⟩
  · cases e
theorem call_str2 {X : Cx} : CallR X (.type "str") (fun xs H Q => (∃ i, xs = [.int i] ∧ i.natAbs.log2 < 1920 ∧ Q (.str (toString i)) H) ∨ ∃ a, xs = [.str a] ∧ Q (.str a) H) := CallR.or call_str_int SkE.call_str_str
def gInt1 (ss : List Sv) (_ : Led) : Option Sv := match ss with
  | [.val (.int i)] => some (.val (.int i))
  | [.val (.bl k)] => some (.val (.int (if k then 1 else 0)))
  | _ => none
theorem cs_int1 {K : PySem.W.Frag} {mg : Str → Option Value} : CallS K mg (fun xs H Q => (∃ i, xs = [.int i] ∧ Q (.int i) H) ∨ ∃ k, xs = [.bl k] ∧ Q (.int (if k then 1 else 0)) H) gInt1 := by
  intro G F H ps L xs ss s Q I R e q
  unfold gInt1 at e
  split at e
  · cases e
    obtain ⟨x, rfl, rx⟩ := xvs1 R
    exact .inl ⟨_, by rw [xv_int rx], QE.now q I (.int _)⟩
  · cases e
    obtain ⟨x, rfl, rx⟩ := xvs1 R
    exact .inr ⟨_, by rw [xv_bl rx], QE.now q I (.int _)⟩
  · cases e
end DL

/-! DL, part 28: dict(..); what changes lists and dicts. -/
namespace DL
open PySem PySem.Spec PyProof.Rows L2
/-! ### dict(x): a copy, or of pairs -/
def newK (ow : Bool) (ks : List (Key × Dv)) (L : Led) : Res Sv := if ow then .ok (.val (.own L.length)) (L ++ [.dic ks]) else .ok (.val (.dic ks)) L
section
variable {K : PySem.W.Frag} {mg : Str → Option Value} {G0 G F H : Hp} {ps : List Addr} {L : Led} {W : WX}
theorem newK_ok {ow : Bool} {ks : List (Key × Dv)} {p : Addr} {ws : List (Key × V)} {Q : VK} (hp : H p = none) (I : HS K mg G F H ps L) (z : ws.length ≤ sizeLine) (rr : RDk K mg F ps ws ks) (h : (newK ow ks L).wp (QE K mg G F ps Q) (EE K mg G0 F ps W)) : lkE Q (.ref p) (upd H p (.dK ws)) := by
  unfold newK at h
  cases ow with
  | false =>
    rw [if_neg Bool.false_ne_true] at h
    refine .inr ⟨p, .dK ws, upd_same, trivial, fun od => ?_⟩
    rw [upd_upd]
    obtain ⟨I2, x2, _⟩ := I.grow (o := .frz od (.dK ws)) hp
    exact h _ _ _ _ x2 I2 (.dic upd_same z (RDk.ext x2 rr))
  | true =>
    rw [if_pos rfl] at h
    have xx : Ext F ps F (ps ++ [p]) := ⟨Same.refl F, [p], rfl⟩
    obtain ⟨I2, x2⟩ := I.push (u := .dK ws) (c := .dic ks) hp ⟨ws, upd_same, z, RDk.ext xx rr⟩
    exact .inl (h _ _ _ _ x2 I2 (.own (by rw [← I.len]; simp)))
end
def CallKS (K : PySem.W.Frag) (mg : Str → Option Value) (r : List V → Hp → VK → Prop) (g : List Sv → Led → Option (List (Key × Dv))) : Prop :=
  ∀ (G F H : Hp) (ps : List Addr) (L : Led) (xs : List V) (ss : List Sv) (ks : List (Key × Dv)) (Q : VK), HS K mg G F H ps L → XvsOk K mg G F ps xs ss → g ss L = some ks →
    (∀ p ws, H p = none → ws.length ≤ sizeLine → RDk K mg F ps ws ks → Q (.ref p) (upd H p (.dK ws))) → r xs H Q
def dBiK (ow : Bool) (g : List Sv → Led → Option (List (Key × Dv))) (fa : DM (List Sv)) : DM Sv := fun ρ L => (fa ρ L).bind fun ss L1 => match g ss L1 with
  | some ks => newK ow ks L1
  | none => .bad
def keyOfDv : Dv → Option Key
  | .int i => some (.inl i)
  | .str x => some (.inr x)
  | _ => none
def pairsOf : List Dv → Option (List (Key × Dv))
  | [] => some []
  | .tup [a, b] :: r => match keyOfDv a, pairsOf r with
    | some k, some ks => some ((k, b) :: ks)
    | _, _ => none
  | _ => none
def gDcopy (ss : List Sv) (L : Led) : Option (List (Key × Dv)) := match ss with
  | [a] => match a.prL L with
    | some ks => if ks.length ≤ sizeLine then some ks else none
    | none => none
  | _ => none
def gDpairs (ss : List Sv) (L : Led) : Option (List (Key × Dv)) := match ss with
  | [a] => match (a.seqL L).bind pairsOf with
    | some ks => if ks.length ≤ sizeLine then some (mergeD [] ks) else none
    | none => none
  | _ => none
section
variable {K : PySem.W.Frag} {mg : Str → Option Value}
abbrev rDcopy : List V → Hp → VK → Prop := fun xs H Q => ∃ (a : Addr) (kvs : List (Key × V)), xs = [.ref a] ∧ Rd H a (.dK kvs) ∧ ∀ p, H p = none → Q (.ref p) (upd H p (.dK kvs))
abbrev rDpairs (K : PySem.W.Frag) : List V → Hp → VK → Prop := fun xs H Q => ∃ (a : Addr) (ps : List Addr) (kvs : List (Key × V)), xs = [.ref a] ∧ SqL K H a (ps.map V.ref) ∧ Paired (fun p kv => SqT K H p [kV kv.1, kv.2]) ps kvs ∧ ∀ p, H p = none → Q (.ref p) (upd H p (.dK (mergeK [] kvs)))
theorem ks_copy : CallKS K mg rDcopy gDcopy := by
  intro G F H ps L xs ss ks Q I R e q
  unfold gDcopy at e
  split at e
  · rename_i a
    obtain ⟨x, rfl, rx⟩ := xvs1 R
    split at e
    · rename_i ks' hk
      split at e
      · rename_i hz
        cases e
        obtain ⟨p, ws, rfl, hp, rr⟩ := xv_prL I rx hk
        exact ⟨p, ws, rfl, hp, fun l h => q l ws h (by rw [rr.length]; exact hz) rr⟩
      · cases e
    · cases e
  · cases e
theorem keyOfDv_ok {F : Hp} {ps : List Addr} {v : V} {d : Dv} {k : Key} (r : RD K mg F ps v d) (e : keyOfDv d = some k) : v = kV k ∧ ∀ x, k = .inr x → x.length ≤ sizeLine := by
  unfold keyOfDv at e
  split at e
  · cases e; cases r; exact ⟨rfl, fun x h => by cases h⟩
  · cases e
    cases r with
    | str x h => exact ⟨rfl, fun y hy => by cases hy; exact h⟩
  · cases e
theorem pairs_rel {F H : Hp} {ps : List Addr} (hs : Same F H) : ∀ {ds : List Dv} {ks : List (Key × Dv)} {vs : List V}, pairsOf ds = some ks → RDs K mg F ps vs ds → ∃ (as : List Addr) (ws : List (Key × V)), vs = as.map V.ref ∧ Paired (fun p kv => SqT K H p [kV kv.1, kv.2]) as ws ∧ RDk K mg F ps ws ks
  | [], _, _, e, .nil => by cases e; exact ⟨[], [], rfl, .nil, .nil⟩
  | d :: ds, ks, _, e, .cons h r => by
    unfold pairsOf at e
    split at e
    · rename_i z; cases z
    · rename_i a b r' z
      cases z
      split at e
      · rename_i k ks' hk hks
        cases e
        obtain ⟨as, ws, rfl, pp, rr⟩ := pairs_rel hs hks r
        cases h with
        | tup hF z rs =>
          cases rs with
          | cons ha rs =>
            cases rs with
            | cons hb rs =>
              cases rs
              obtain ⟨rfl, zk⟩ := keyOfDv_ok ha hk
              exact ⟨_ :: as, (k, _) :: ws, rfl, .cons (SqT.of (hs _ _ hF)) pp, .cons zk hb rr⟩
      · cases e
    · cases e
theorem ks_pairs : CallKS K mg (rDpairs K) gDpairs := by
  intro G F H ps L xs ss ks Q I R e q
  unfold gDpairs at e
  split at e
  · rename_i a
    obtain ⟨x, rfl, rx⟩ := xvs1 R
    cases hl : a.seqL L with
    | none => rw [hl] at e; cases e
    | some ds =>
      rw [hl] at e
      simp only [Option.bind_some] at e
      split at e
      · rename_i ks' hk
        split at e
        · rename_i hz
          cases e
          obtain ⟨p, vs, rfl, hp, rs⟩ := xv_seqL I rx hl
          obtain ⟨as, ws, rfl, pp, rr⟩ := pairs_rel I.same hk rs
          refine ⟨p, as, ws, rfl, hp, pp, fun l h => q l _ h ?_ (RDk.merge rr .nil)⟩
          have := length_mergeK ws []
          rw [rr.length] at this
          simp at this; omega
        · cases e
      · cases e
  · cases e
theorem CallKS.or {r r' : List V → Hp → VK → Prop} {g g' : List Sv → Led → Option (List (Key × Dv))} (h : CallKS K mg r g) (h' : CallKS K mg r' g') : CallKS K mg (fun xs H Q => r xs H Q ∨ r' xs H Q) (fun ss L => (g ss L).or (g' ss L)) := by
  intro G F H ps L xs ss s Q I R e q
  cases h1 : g ss L with
  | some t =>
    simp only [h1, Option.some_or] at e
    exact .inl (h G F H ps L xs ss s Q I R (h1.trans e) q)
  | none =>
    simp only [h1, Option.none_or] at e
    exact .inr (h' G F H ps L xs ss s Q I R e q)
end
def gDict (ss : List Sv) (L : Led) : Option (List (Key × Dv)) := (gDcopy ss L).or (gDpairs ss L)
theorem call_dict2 {X : Cx} (hc : X.calm = true) : CallR X (.type "dict") (fun xs H Q => rDcopy xs H Q ∨ rDpairs X.K xs H Q) := CallR.or call_dictD (call_dictP hc)
theorem ks_dict {K : PySem.W.Frag} {mg : Str → Option Value} : CallKS K mg (fun xs H Q => rDcopy xs H Q ∨ rDpairs K xs H Q) gDict := CallKS.or ks_copy ks_pairs
section
variable {X : Cx} {W : WX} {x : Str} {p pos : Pos} {e : Expr} {es : List Expr} {T : String} {r : List V → Hp → VK → Prop} {g : List Sv → Led → Option (List (Key × Dv))} {fa : DM (List Sv)} {ow : Bool}
theorem de_tK (hc : CallR X (.type T) r) (hs : CallKS X.K X.mg' r g) (hg : Gl X x) (hm : X.mg x = none) (hv : bootBuiltins x = some (.type T)) (ha : DA X W (e :: es) fa) (hn : x ≠ "__name__" := by decide) (hdb : (x == ("__debug__" : Str)) = false := by decide)
    (he : starEach (e :: es) X.env = (false, eval e X.env) :: starEach es X.env := by rfl) (hpl : (backTo pos (starEach es X.env)).any (·.1) = false := by rfl) : DE X W (.Call (.Name x p) (e :: es) [] pos) (dBiK ow g fa) :=
  imE (pe_lk (pe_callTy hc hg hm hv ha hn hdb he hpl)) fun σ H Q h => by
    obtain ⟨G0, G, F, ps, ρ, L, g0, I, S, h⟩ := h
    refine ⟨G0, G, F, ps, ρ, L, g0, I, S, Res.wp_mono (Res.wp_bind h) (fun ss L1 h1 vs F1 H1 p1 x1 I1 r1 => ?_) fun e r L' q => q⟩
    split at h1
    · rename_i ks hk
      refine hs G F1 H1 p1 L1 vs ss ks (lkE Q) I1 r1 hk fun l ws hl z rr => ?_
      exact newK_ok hl I1 z rr (Res.wp_mono h1 (fun _ _ q => QE.ext x1 q) fun _ _ _ q => EE.ext x1 q)
    · exact h1.elim
end
/-! ### methods that change a list of the ledger -/
/-- what the method does with the list and the values: the answer, the new list -/
abbrev LM := List Dv → List Sv → Option (Dv × List Dv)
def dLm (g : LM) (fo : DM Sv) (fa : DM (List Sv)) : DM Sv := fun ρ L => (fo ρ L).bind fun o L1 => match o with
  | .val (.own k) => match L1[k]? with
    | some (.lst _) => (fa ρ L1).bind fun ss L2 => match L2[k]? with
      | some (.lst xs) => match g xs ss with
        | some (d, ys) => .ok (.val d) (L2.set k (.lst ys))
        | none => .bad
      | _ => .bad
    | _ => .bad
  | _ => .bad
def gmAppend : LM := fun xs ss => match ss with
  | [.val d] => if xs.length < sizeLine then some (.non, xs ++ [d]) else none
  | _ => none
def gmPop : LM := fun xs ss => match ss with
  | [.val (.int i)] => if -(2 ^ 63) ≤ i ∧ i < 2 ^ 63 then match seqIndex? i xs.length with
    | some m => match xs[m]? with
      | some d => some (d, xs.eraseIdx m)
      | none => none
    | none => none
    else none
  | _ => none
def gmClear : LM := fun _ ss => match ss with
  | [] => some (.non, [])
  | _ => none
/-- a method's rule serves g -/
def LmOk (K : PySem.W.Frag) (mg : Str → Option Value) (r : V → List V → Hp → VK → Prop) (g : LM) : Prop :=
  ∀ (G F H : Hp) (ps : List Addr) (p : Addr) (vs us : List V) (xs ys : List Dv) (ss : List Sv) (d : Dv) (Q : VK), H p = some (.lst vs) → vs.length ≤ sizeLine → RDs K mg F ps vs xs → XvsOk K mg G F ps us ss → g xs ss = some (d, ys) →
    (∀ v ws, ws.length ≤ sizeLine → RDs K mg F ps ws ys → RD K mg F ps v d → Q v (upd H p (.lst ws))) → r (.ref p) us H Q
section
variable {K : PySem.W.Frag} {mg : Str → Option Value}
theorem lm_append : LmOk K mg rAppend gmAppend := by
  intro G F H ps p vs us xs ys ss d Q hp z rs R e q
  unfold gmAppend at e
  split at e
  · rename_i d'
    split at e
    · rename_i hz
      cases e
      obtain ⟨u, rfl, ru⟩ := xvs1 R
      have e1 := rs.length
      refine ⟨p, vs, u, rfl, rfl, hp, by rw [e1]; exact hz, q .non _ ?_ (rs.append (.one ru)) .non⟩
      rw [List.length_append, List.length_singleton, e1]; exact hz
    · cases e
  · cases e
theorem lm_pop : LmOk K mg rPopAt gmPop := by
  intro G F H ps p vs us xs ys ss d Q hp z rs R e q
  unfold gmPop at e
  split at e
  · rename_i i
    split at e
    · rename_i hi
      split at e
      · rename_i m hm
        split at e
        · rename_i d' hd
          cases e
          obtain ⟨u, rfl, ru⟩ := xvs1 R
          rw [xv_int ru]
          have e1 := rs.length
          obtain ⟨v, hv, rv⟩ := rs.get hd
          refine ⟨p, vs, i, m, v, rfl, rfl, hp, hi.1, hi.2, by rw [e1]; exact hm, hv, q v _ ?_ (rs.eraseIdx m) rv⟩
          have := List.length_eraseIdx_le vs m
          omega
        · cases e
      · cases e
    · cases e
  · cases e
theorem lm_clear : LmOk K mg rClear gmClear := by
  intro G F H ps p vs us xs ys ss d Q hp z rs R e q
  unfold gmClear at e
  split at e
  · cases e
    cases R
    exact ⟨p, vs, rfl, rfl, hp, q .non [] (Nat.zero_le _) .nil .non⟩
  · cases e
end
section
variable {X : Cx} {W : WX} {o e : Expr} {es : List Expr} {fo : DM Sv} {fa : DM (List Sv)} {apos cpos : Pos} {r : V → List V → Hp → VK → Prop} {g : LM}
theorem lm_of (hs : LmOk X.K X.mg' r g) {σ : List (Option V)} {H : Hp} {Q : VK} (h : tE X.K X.mg' W (dLm g fo fa) σ H Q) : tE X.K X.mg' W fo σ H fun x H1 => tyV X.K "list" x H1 ∧ tA X.K X.mg' W fa σ H1 fun xs H2 => r x xs H2 Q := by
  obtain ⟨G0, G, F, ps, ρ, L, g0, I, S, h⟩ := h
  refine ⟨G0, G, F, ps, ρ, L, g0, I, S, Res.wp_mono (Res.wp_bind h) (fun o L1 h1 v F1 H1 p1 x1 I1 r1 => ?_) fun e r L' q => q⟩
  split at h1
  · rename_i k
    obtain ⟨p, rfl, hp⟩ := xv_own r1
    split at h1
    · rename_i xs0 hL
      obtain ⟨vs0, e0, z0, _⟩ := I1.at_ k p _ hp hL
      refine ⟨.inl ⟨rfl, vs0, SqL.of e0⟩, ?_⟩
      refine ⟨G0, G, F1, p1, ρ, L1, g0, I1, S.ext x1, Res.wp_mono (Res.wp_bind h1) (fun ss L2 h2 us F2 H2 p2 x2 I2 r2 => ?_) fun e r L' q => EE.ext x1 q⟩
      split at h2
      · rename_i xs hL2
        split at h2
        · rename_i d ys hg
          have hp2 := x2.get hp
          obtain ⟨vs, e1, z, rs⟩ := I2.at_ k p _ hp2 hL2
          refine hs G F2 H2 p2 p vs us xs ys ss d Q e1 z rs r2 hg fun v ws zw rw' rv => ?_
          have I3 := I2.led (k := k) (u := .lst ws) (c := .lst ys) hp2 ⟨_, hL2, fun q => by cases q⟩ e1 (fun x q => by cases q) ⟨ws, upd_same, zw, rw'⟩
          exact h2 v F2 _ p2 (x1.trans x2) I3 rv
        · exact h2.elim
      · exact h2.elim
    · exact h1.elim
  · exact h1.elim
theorem de_lappend (ho : DE X W o fo) (ha : DA X W [e] fa) (hbase : attributeBase o "append" X.env (eval o X.env) = eval o X.env := by rfl)
    (hfew : ((backTo cpos (starEach [e] X.env)).all (fun x => !x.1) && (backToKw cpos (keywordEach [] X.env)).all (fun x => x.1.isSome) && decide (([e] : List Expr).length + ([] : List Keyword).length + (if ([] : List Keyword).isEmpty then 0 else 1) < 30)) = true := by rfl)
    (hline : (apos.endLine == cpos.line) = true := by rfl) (hs : starEach [e] X.env = (false, eval e X.env) :: starEach [] X.env := by rfl) (hplain : (backTo cpos (starEach [] X.env)).any (·.1) = false := by rfl) :
    DE X W (.Call (.Attribute o "append" apos) [e] [] cpos) (dLm gmAppend fo fa) := imE (pe_bm PySem.F.plainAttrs_list PySem.F.slot_list_append PySem.F.type_list_append mt_append ho ha hbase hfew hline hs hplain) fun _ _ _ h => lm_of lm_append h
theorem de_lpop (ho : DE X W o fo) (ha : DA X W [e] fa) (hbase : attributeBase o "pop" X.env (eval o X.env) = eval o X.env := by rfl)
    (hfew : ((backTo cpos (starEach [e] X.env)).all (fun x => !x.1) && (backToKw cpos (keywordEach [] X.env)).all (fun x => x.1.isSome) && decide (([e] : List Expr).length + ([] : List Keyword).length + (if ([] : List Keyword).isEmpty then 0 else 1) < 30)) = true := by rfl)
    (hline : (apos.endLine == cpos.line) = true := by rfl) (hs : starEach [e] X.env = (false, eval e X.env) :: starEach [] X.env := by rfl) (hplain : (backTo cpos (starEach [] X.env)).any (·.1) = false := by rfl) :
    DE X W (.Call (.Attribute o "pop" apos) [e] [] cpos) (dLm gmPop fo fa) := imE (pe_bm PySem.F.plainAttrs_list PySem.F.slot_list_pop PySem.F.type_list_pop mt_popAt ho ha hbase hfew hline hs hplain) fun _ _ _ h => lm_of lm_pop h
theorem de_lclear (ho : DE X W o fo) (hbase : attributeBase o "clear" X.env (eval o X.env) = eval o X.env := by rfl) (hline : (apos.endLine == cpos.line) = true := by rfl) : DE X W (.Call (.Attribute o "clear" apos) [] [] cpos) (dLm gmClear fo dArgs0) :=
  imE (pe_bm0 PySem.F.plainAttrs_list PySem.F.slot_list_clear PySem.F.type_list_clear mt_clear ho hbase hline) fun σ H Q h => by
    obtain ⟨G0, G, F, ps, ρ, L, g0, I, S, h⟩ := lm_of lm_clear h
    refine ⟨G0, G, F, ps, ρ, L, g0, I, S, Res.wp_mono h (fun s L1 q v F1 H1 p1 x1 I1 r1 => ?_) fun _ _ _ q => q⟩
    obtain ⟨a, G0', G', F', ps', ρ', L', g0', I', S', q'⟩ := q v F1 H1 p1 x1 I1 r1
    exact ⟨a, q' [] F' H1 ps' (Ext.refl _ _) I' .nil⟩
/-- d.clear(), d a dict of the ledger -/
def dDclear (fo : DM Sv) : DM Sv := fun ρ L => (fo ρ L).bind fun o L1 => match o with
  | .val (.own k) => match L1[k]? with
    | some (.dic _) => .ok (.val .non) (L1.set k (.dic []))
    | _ => .bad
  | _ => .bad
theorem de_dclear (ho : DE X W o fo) (hbase : attributeBase o "clear" X.env (eval o X.env) = eval o X.env := by rfl) (hline : (apos.endLine == cpos.line) = true := by rfl) : DE X W (.Call (.Attribute o "clear" apos) [] [] cpos) (dDclear fo) :=
  imE (pe_dclear ho hbase hline) fun σ H Q h => by
    obtain ⟨G0, G, F, ps, ρ, L, g0, I, S, h⟩ := h
    refine ⟨G0, G, F, ps, ρ, L, g0, I, S, Res.wp_mono (Res.wp_bind h) (fun o L1 h1 v F1 H1 p1 x1 I1 r1 => ?_) fun e r L' q => q⟩
    split at h1
    · rename_i k
      obtain ⟨p, rfl, hp⟩ := xv_own r1
      split at h1
      · rename_i ks hL
        obtain ⟨ws, e1, z, rs⟩ := I1.at_ k p _ hp hL
        refine ⟨.inr (.inr (.inl ⟨rfl, .inl ⟨ws, e1⟩⟩)), p, ws, rfl, rfl, e1, ?_⟩
        have I3 := I1.led (k := k) (u := .dK []) (c := .dic []) hp ⟨_, hL, fun q => by cases q⟩ e1 (fun x q => by cases q) ⟨[], upd_same, Nat.zero_le _, .nil⟩
        exact h1 .non F1 _ p1 x1 I3 .non
      · exact h1.elim
    · exact h1.elim
end
/-! ### x[k] = v, x a dict of the frame's own -/
def gPut (i : Nat) (fk : DM Sv) : Sv → DM Slo := fun s ρ L => match s, ρ[i]? with
  | .val d, some (some (.muD ks)) => (noErr (fk ρ L)).bind fun t L1 => match t.key with
    | some k => if ks.length < sizeLine then .ok (ρ.set i (some (.muD (putD ks k d)))) L1 else .bad
    | none => .bad
  | _, _ => .bad
theorem gPut_ne {i : Nat} {fk : DM Sv} : ∀ s ρ L e r L', gPut i fk s ρ L ≠ .err e r L' := fun s ρ L e r L' q => by
  unfold gPut at q
  split at q
  · cases h : fk ρ L with
    | ok t L1 =>
      rw [h] at q
      simp only [noErr_ok, Res.bind_ok] at q
      split at q
      · split at q <;> cases q
      · cases q
    | err _ _ _ => rw [h] at q; cases q
    | bad => rw [h] at q; cases q
  · cases q
section
variable {X : Cx} {W : WX} {x : Str} {e : Expr} {fk : DM Sv} {np pos : Pos}
theorem dg_put (i : Nat) (hu : X.A.units + 1 < cLine) (hN : X.N[i]? = some x) (hv : Vis X.env.scope x) (hi : DE X wNo e fk) (hd : (x == ("__debug__" : Str)) = false := by decide) (hcd : (x == ("__classdict__" : Str)) = false := by decide)
    (ha : ∀ v, assign (.Subscript (.Name x np) e pos) X.env v = (do
      let ov ← holding [v] (eval (.Name x np) X.env)
      let iv ← holding [v, ov] (eval e X.env)
      standAt pos
      holding [v, ov, iv] (setItem ov iv v)
      release [v, ov, iv] []) := by intro _; rfl) : DG X (.Subscript (.Name x np) e pos) (gPut i fk) :=
  imG (pg_sub (pe_var hN hv hd hcd) hi (pset2 hu) ha) fun v σ H Q h => by
    obtain ⟨G0, G, F, ps, ρ, L, s, g0, I, S, r, h⟩ := h
    unfold gPut at h
    split at h
    · rename_i d ks pre
      obtain ⟨p, ws, hσ, hG0, hG, z, rs⟩ := S.muD pre
      refine ⟨.ref p, hσ, ?_⟩
      refine tE_unf (W := wNo) (E := fun _ _ _ => False) g0 I S (noErr_wp (E' := fun _ _ _ => False) (Res.wp_bind h)) (fun t L1 h1 iv F1 H1 p1 x1 I1 r1 => ?_) fun e r L' q => q.elim
      split at h1
      · rename_i k hk
        split at h1
        · rename_i hz
          obtain ⟨rfl, zk⟩ := xv_key r1 hk
          have hz2 : ws.length < sizeLine := by rw [rs.length]; exact hz
          have rs1 := RDk.ext x1 rs
          refine .inr ⟨p, _, rfl, .inl ⟨ws, k, I1.frame _ _ hG, rfl, hz2, rfl⟩, ?_⟩
          have rd : RD X.K X.mg' F1 p1 v d := RD.ext x1 r
          refine h1 σ (upd G p (.dK (putK ws k v))) F1 _ p1 (fun b o q => ?_) x1 (I1.write hG fun x q => by cases q) ((S.ext x1).chg pre rfl hσ hG0 ⟨p, _, rfl, hG0, upd_same, putK_len hz2, rs1.put zk rd⟩ rfl)
          rw [upd_ne (ne_of_none q hG0)]; exact g0 _ _ q
        · exact h1.elim
      · exact h1.elim
    · exact h.elim
/-- x.extend(e), x a list of the frame's own -/
def sExt (i : Nat) (fe : DM Sv) : DM Fl := fun ρ L => match ρ[i]? with
  | some (some (.mu xs)) => (fe ρ L).bind fun s L1 => match s with
    | .val (.lst ys) => if xs.length + ys.length ≤ sizeLine then .ok (.nx (ρ.set i (some (.mu (xs ++ ys))))) L1 else .bad
    | _ => .bad
  | _ => .bad
theorem ds_ext (i : Nat) {apos cpos : Pos} (hN : X.N[i]? = some x) (hv : Vis X.env.scope x) (he : DE X W e fk) (hd : (x == ("__debug__" : Str)) = false := by decide) (hcd : (x == ("__classdict__" : Str)) = false := by decide)
    (hbase : attributeBase (.Name x np) "extend" X.env (eval (.Name x np) X.env) = eval (.Name x np) X.env := by rfl)
    (hfew : ((backTo cpos (starEach [e] X.env)).all (fun x => !x.1) && (backToKw cpos (keywordEach [] X.env)).all (fun x => x.1.isSome) && decide (([e] : List Expr).length + ([] : List Keyword).length + (if ([] : List Keyword).isEmpty then 0 else 1) < 30)) = true := by rfl)
    (hline : (apos.endLine == cpos.line) = true := by rfl) (hs : starEach [e] X.env = (false, eval e X.env) :: starEach [] X.env := by rfl) (hplain : (backTo cpos (starEach [] X.env)).any (·.1) = false := by rfl)
    (hsw : swapsWith (.Call (.Attribute (.Name x np) "extend" apos) [e] [] cpos) none pos.line X.env = pure false := by rfl) :
    DS X W (.Expr (.Call (.Attribute (.Name x np) "extend" apos) [e] [] cpos) pos) (sExt i fk) :=
  imS (ps_expr (pe_bm PySem.F.plainAttrs_list PySem.F.slot_list_extend PySem.F.type_list_extend mt_extend (pe_var hN hv hd hcd) (pa_cons he pa_nil hs) hbase hfew hline hs hplain) hsw) fun D σ H h => by
  obtain ⟨G0, G, F, ps, ρ, L, g0, I, S, h⟩ := h
  unfold sExt at h
  split at h
  · rename_i xs pre
    obtain ⟨p, vs, hσ, hG0, hG, z, rs⟩ := S.mu pre
    refine ⟨.ref p, hσ, Or.inl ⟨rfl, vs, SqL.of (I.frame _ _ hG)⟩, ?_⟩
    refine ⟨G0, G, F, ps, ρ, L, g0, I, S, Res.wp_mono (Res.wp_bind h) (fun s L1 h1 v F1 H1 p1 x1 I1 r1 => ?_) fun e r L' q => q⟩
    split at h1
    · rename_i ys
      split at h1
      · rename_i hz
        have e1 := rs.length
        cases r1 with
        | @lst a us _ hF zu ru =>
          have hz2 : (vs ++ us).length ≤ sizeLine := by rw [List.length_append, e1, ru.length]; exact hz
          refine ⟨p, a, vs, us, rfl, rfl, I1.frame _ _ hG, I1.same _ _ hF, by rw [e1, ru.length]; exact hz, ?_⟩
          have S1 := S.ext x1
          refine h1 σ (upd G p (.lst (vs ++ us))) F1 _ p1 (fun b o q => ?_) x1 (I1.write hG fun x q => by cases q) (S1.chg pre rfl hσ hG0 ⟨p, _, rfl, hG0, upd_same, hz2, (rs.ext x1).append ru⟩ rfl)
          rw [upd_ne (ne_of_none q hG0)]; exact g0 _ _ q
      · exact h1.elim
    · exact h1.elim
  · exact h.elim
end
end DL

/-! DL, part 29: len, repr, str, == of own objects; properties, class constants, is True, f-strings. -/
namespace DL
open PySem PySem.Spec PyProof.Rows L2
section
variable {X : Cx} {k : Nat} {f : Addr} {fd : FuncData} {ps : List Str} {sp : Sp}
/-- a callee that raises nothing, anywhere below the running body -/
theorem run_fnA {A : Around} {pins : List (Addr × Obj)} {σ : List (Option V)} {H : Hp} {s : Shared} {Q : VK} {us : List Value} {vs : List V} {E : Value → Shared → Prop} (R : FnG X.prog X.w X.K X.mg X.base k f fd ps sp) (hgu : A.guards = some []) (hr : Room k A) (fr : A.frames = X.A.frames) (bnd : BindsTo s fd ⟨us, []⟩ (ps.zip us))
    (I : Inv X pins σ H s) (rel : Vals vs us) (h : sp vs H Q (fun _ _ _ => False)) : wpAny (model X.prog X.w) A (call (.ref f) us) (EP X pins σ Q) E s := by
  have e := I.env0
  have e0 : Env0 X.prog X.w X.K X.mg X.base A X.stack s H := ⟨by rw [fr]; exact e.frames, e.mod, e.bs, e.bsz, e.funs, e.frf, e.hok, e.bare⟩
  refine wpAny_call (codeAny_mono (R.go A X.stack s H ⟨us, []⟩ us vs Q (fun _ _ _ => False) hgu hr e0 bnd rel h) fun r s2 q => ?_)
  rcases r with er | fl
  · obtain ⟨_, _, _, _, _, _, _, _, _, _, _, _, q⟩ := q
    exact False.elim q
  · cases fl with
    | ret u => exact I.after q
    | next => exact q.elim
    | brk => exact q.elim
    | cont => exact q.elim
end
/-- an own method that a built-in asks: at the object a -/
def rOwnM (X : Cx) (mn : Str) (back : V → Prop) : List V → Hp → VK → Prop := fun xs H Q => ∃ (a C dx : Addr) (gs : List (Str × V)) (f : Addr) (fd : FuncData) (ps : List Str) (k : Nat) (sp : Sp), xs = [.ref a] ∧ H a = some (.ins C dx gs) ∧ PySem.W.findIn X.K (.ref C) mn = some (some (.ref f)) ∧ PySem.W.isFn X.K (.ref f) = true ∧
  Binds X.K fd ps [] ∧ ps.length = 1 ∧ FnG X.prog X.w X.K X.mg X.base k f fd ps sp ∧ Room (k + 2) X.A ∧ sp [.ref a] H (fun v H2 => back v ∧ Q v H2) (fun _ _ _ => False)
def bkLen (v : V) : Prop := ∃ n : Int, v = .int n ∧ 0 ≤ n ∧ n < 2 ^ 62
def bkStr (v : V) : Prop := ∃ x : Str, v = .str x
section
variable {X : Cx}
theorem call_lenO (hgu : X.A.guards = some []) : CallR X (.builtin "len") (rOwnM X "__len__" bkLen) := by
  intro pins s σ H xs us Q I r h
  obtain ⟨a, C, dx, gs, f, fd, ps, k, sp, rfl, ea, hf, hfn, hb, hl, F, hr, hsp⟩ := h
  obtain ⟨u, rfl, ru⟩ := vals1 r
  cases ru
  obtain ⟨mA, O, _⟩ := ins_get I.hok ea
  obtain ⟨od, J, _⟩ := O.look
  obtain ⟨m, fr⟩ := I.fr
  have b1 := hb s [.ref a] I.kIn (by simpa using hl.symm)
  rw [List.append_nil] at b1
  refine PySem.W.len_K fr I.ok.mod.kin J hf hfn (thn (run_fnA (A := X.A.in1) (us := [.ref a]) (vs := [.ref a]) F hgu (hr.in1.mono (Nat.le_succ _)) rfl b1 I (.cons rfl .nil) hsp) fun v s1 q => ?_)
  obtain ⟨x, H1, I1, rx, ⟨n, rfl, h0, h1⟩, q⟩ := q
  obtain ⟨t, rfl⟩ := rx
  exact ⟨⟨h0, by omega⟩, .int n, H1, I1.tok _, ⟨_, rfl⟩, q⟩
theorem call_reprO (hgu : X.A.guards = some []) : CallR X (.builtin "repr") (rOwnM X "__repr__" bkStr) := by
  intro pins s σ H xs us Q I r h
  obtain ⟨a, C, dx, gs, f, fd, ps, k, sp, rfl, ea, hf, hfn, hb, hl, F, hr, hsp⟩ := h
  obtain ⟨u, rfl, ru⟩ := vals1 r
  cases ru
  obtain ⟨mA, O, _⟩ := ins_get I.hok ea
  obtain ⟨od, J, _⟩ := O.look
  obtain ⟨m, fr⟩ := I.fr
  have b1 := hb s [.ref a] I.kIn (by simpa using hl.symm)
  rw [List.append_nil] at b1
  refine PySem.W.repr_K hr.in1.units0 fr I.ok.mod.kin J hf hfn (thn (run_fnA (A := X.A.in1) (us := [.ref a]) (vs := [.ref a]) F hgu (hr.in1.mono (Nat.le_succ _)) rfl b1 I (.cons rfl .nil) hsp) fun v s1 q => ?_)
  obtain ⟨x, H1, I1, rx, ⟨y, rfl⟩, q⟩ := q
  obtain ⟨t, rfl⟩ := rx
  exact ⟨.str y, H1, I1, ⟨_, rfl⟩, q⟩
theorem call_strO (hgu : X.A.guards = some []) : CallR X (.type "str") (rOwnM X "__str__" bkStr) := by
  intro pins s σ H xs us Q I r h
  obtain ⟨a, C, dx, gs, f, fd, ps, k, sp, rfl, ea, hf, hfn, hb, hl, F, hr, hsp⟩ := h
  obtain ⟨u, rfl, ru⟩ := vals1 r
  cases ru
  obtain ⟨mA, O, _⟩ := ins_get I.hok ea
  obtain ⟨od, J, _⟩ := O.look
  have b1 := hb s [.ref a] I.kIn (by simpa using hl.symm)
  rw [List.append_nil] at b1
  refine PySem.W.kso_call hr.in1.in1.units0 I.kIn J hf hfn (thn (run_fnA (A := X.A.in1.in1) (us := [.ref a]) (vs := [.ref a]) F hgu hr.in1.in1 rfl b1 I (.cons rfl .nil) hsp) fun v s1 q => ?_)
  obtain ⟨x, H1, I1, rx, ⟨y, rfl⟩, q⟩ := q
  obtain ⟨t, rfl⟩ := rx
  exact ⟨.str y, H1, I1, ⟨_, rfl⟩, q⟩
end
def chkLen : Dv → Bool
  | .int n => decide (0 ≤ n ∧ n < 2 ^ 62)
  | _ => false
def chkStr : Dv → Bool
  | .str _ => true
  | _ => false
/-- an own object's special method; what it gives is looked at -/
def dOwn (mn : Str) (tab : List (Str × Mir)) (chk : Dv → Bool) (o : Sv) (L : Led) : Res Sv := match mSel mn tab o L with
  | some m => (noErr (m [o] L)).bind fun d L2 => if chk d = true then .ok (.val d) L2 else .bad
  | none => .bad
/-- a built-in that asks own objects, and other values -/
def dBiO (mn : Str) (tab : List (Str × Mir)) (chk : Dv → Bool) (g : List Sv → Led → Option Sv) (fa : DM (List Sv)) : DM Sv := fun ρ L => (fa ρ L).bind fun ss L1 => match ss with
  | [o] => match o.ob L1 with
    | some _ => dOwn mn tab chk o L1
    | none => give (g [o] L1) L1
  | _ => .bad
theorem bk_len {K : PySem.W.Frag} {mg : Str → Option Value} {F : Hp} {ps : List Addr} {v : V} {d : Dv} (r : RD K mg F ps v d) (h : chkLen d = true) : bkLen v := by
  unfold chkLen at h
  split at h
  · rename_i n
    cases r
    obtain ⟨a, b⟩ := of_decide_eq_true h
    exact ⟨n, rfl, a, b⟩
  · cases h
theorem bk_str {K : PySem.W.Frag} {mg : Str → Option Value} {F : Hp} {ps : List Addr} {v : V} {d : Dv} (r : RD K mg F ps v d) (h : chkStr d = true) : bkStr v := by
  unfold chkStr at h
  split at h
  · cases r
    exact ⟨_, rfl⟩
  · cases h
section
variable {X : Cx} {W : WX} {G0 G F H : Hp} {ps : List Addr} {L : Led} {k : Nat} {mn : Str} {tab : List (Str × Mir)} {chk : Dv → Bool} {back : V → Prop}
theorem own_of (hc : X.calm = true) (T : MTab X.prog X.w X.K X.mg X.base mn 0 k tab) (hr : Room (k + 2) X.A) (hbk : ∀ {F ps v d}, RD X.K X.mg' F ps v d → chk d = true → back v) {o : Sv} {v : V} {Q : VK} (I : HS X.K X.mg' G F H ps L) (r : XvOk X.K X.mg' G F ps v o)
    (h : (dOwn mn tab chk o L).wp (QE X.K X.mg' G F ps Q) (EE X.K X.mg' G0 F ps W)) : rOwnM X mn back [v] H Q := by
  unfold dOwn at h
  split at h
  · rename_i m hm
    unfold mSel at hm
    split at hm
    · rename_i c fs ho
      split at hm
      · obtain ⟨p, C, dx, gs, rfl, hmg, hp, rr⟩ := xv_ob I r ho
        obtain ⟨_, j, qn, st, ps1, hj, hps, ⟨C2, f, fd, m2, hf, Fu, hfn, hb, D⟩⟩ := T c m hm
        rw [mg_ref.mp hmg] at m2; cases m2
        refine ⟨p, C, dx, gs, f, fd, ps1, k, _, rfl, hp, hf, hfn, hb, hps, D.mono hj, hr, ?_⟩
        rw [hps, ← calm_mg hc]
        refine ⟨rfl, G, F, ps, [o], L, I, .cons r .nil, ?_⟩
        have h2 := Res.wp_bind h
        cases q : m [o] L with
        | bad => rw [q] at h2; exact h2.elim
        | err e r L' => rw [q] at h2; exact h2.elim
        | ok d L' =>
          rw [q] at h2
          intro u F' H' p' x J rd
          have h3 : (if chk d = true then (.ok (.val d) L' : Res Sv) else .bad).wp (QE X.K X.mg' G F ps Q) (EE X.K X.mg' G0 F ps W) := h2
          split at h3
          · rename_i hk
            exact ⟨hbk rd hk, h3 u F' H' p' x J rd⟩
          · exact h3.elim
      · cases hm
    · cases hm
  · exact h.elim
theorem biO_of (hc : X.calm = true) (T : MTab X.prog X.w X.K X.mg X.base mn 0 k tab) (hr : Room (k + 2) X.A) (hbk : ∀ {F ps v d}, RD X.K X.mg' F ps v d → chk d = true → back v) {r : List V → Hp → VK → Prop} {g : List Sv → Led → Option Sv} {fa : DM (List Sv)} (hs : CallS X.K X.mg' r g) {σ : List (Option V)} {Q : VK} {H : Hp}
    (h : tE X.K X.mg' W (dBiO mn tab chk g fa) σ H Q) : tCB (fun xs H Q => r xs H Q ∨ rOwnM X mn back xs H Q) (tA X.K X.mg' W fa) σ H Q := by
  obtain ⟨G0, G, F, ps, ρ, L, g0, I, S, h⟩ := h
  refine ⟨G0, G, F, ps, ρ, L, g0, I, S, Res.wp_mono (Res.wp_bind h) (fun ss L1 h1 vs F1 H1 p1 x1 I1 r1 => ?_) fun e r L' q => q⟩
  split at h1
  · rename_i o
    obtain ⟨v, rfl, rv⟩ := xvs1 r1
    split at h1
    · exact .inr (own_of hc T hr hbk I1 rv (Res.wp_mono h1 (fun _ _ q => QE.ext x1 q) fun _ _ _ q => EE.ext x1 q))
    · obtain ⟨s, e, q⟩ := give_wp h1
      exact .inl (hs G F1 H1 p1 L1 _ _ s Q I1 r1 e (QE.ext x1 q))
  · exact h1.elim
end
section
variable {X : Cx} {W : WX} {k : Nat} {tab : List (Str × Mir)} {p pos : Pos} {e : Expr} {fa : DM (List Sv)}
theorem de_lenO (hc : X.calm = true) (hgu : X.A.guards = some []) (T : MTab X.prog X.w X.K X.mg X.base "__len__" 0 k tab) (hr : Room (k + 2) X.A) (hg : Gl X "len") (hm : X.mg "len" = none) (hv : bootBuiltins "len" = some (.builtin "len")) (ha : DA X W [e] fa)
    (he : starEach [e] X.env = (false, eval e X.env) :: starEach [] X.env := by rfl) (hpl : (backTo pos (starEach [] X.env)).any (·.1) = false := by rfl) : DE X W (.Call (.Name "len" p) [e] [] pos) (dBiO "__len__" tab chkLen gLen fa) :=
  imE (pe_callB (CallR.or call_len' (call_lenO hgu)) hg hm hv ha (by decide) (by decide) he hpl) fun _ _ _ h => biO_of hc T hr bk_len cs_len h
theorem de_reprO (hc : X.calm = true) (hgu : X.A.guards = some []) (hk : SysK X.K) (T : MTab X.prog X.w X.K X.mg X.base "__repr__" 0 k tab) (hr : Room (k + 2) X.A) (hu : X.A.units + 66 < cLine) (hg : Gl X "repr") (hm : X.mg "repr" = none) (hv : bootBuiltins "repr" = some (.builtin "repr")) (ha : DA X W [e] fa)
    (he : starEach [e] X.env = (false, eval e X.env) :: starEach [] X.env := by rfl) (hpl : (backTo pos (starEach [] X.env)).any (·.1) = false := by rfl) : DE X W (.Call (.Name "repr" p) [e] [] pos) (dBiO "__repr__" tab chkStr gRepr fa) :=
  imE (pe_callB (CallR.or (call_repr hgu hu) (call_reprO hgu)) hg hm hv ha (by decide) (by decide) he hpl) fun _ _ _ h => biO_of hc T hr bk_str (cs_repr hk) h
theorem de_strO (hc : X.calm = true) (hgu : X.A.guards = some []) (T : MTab X.prog X.w X.K X.mg X.base "__str__" 0 k tab) (hr : Room (k + 2) X.A) (hg : Gl X "str") (hm : X.mg "str" = none) (hv : bootBuiltins "str" = some (.type "str")) (ha : DA X W [e] fa)
    (he : starEach [e] X.env = (false, eval e X.env) :: starEach [] X.env := by rfl) (hpl : (backTo pos (starEach [] X.env)).any (·.1) = false := by rfl) : DE X W (.Call (.Name "str" p) [e] [] pos) (dBiO "__str__" tab chkStr gStr fa) :=
  imE (pe_callTy (CallR.or call_str2 (call_strO hgu)) hg hm hv ha (by decide) (by decide) he hpl) fun _ _ _ h => biO_of hc T hr bk_str cs_str h
end
/-! ### properties -/
def PTab (P : Program) (w : World) (K : PySem.W.Frag) (mg : Str → Option Value) (base : Heap) (mn : Str) (k : Nat) (tab : List (Str × Mir)) : Prop :=
  ∀ c m, tab.lookup c = some m → ClsAt K mg c ∧ ∃ (C pr f : Addr) (fd : FuncData) (ps : List Str) (j : Nat), j ≤ k ∧ ps.length = 1 ∧ mg c = some (.ref C) ∧ PropOf K C mn pr f ∧ Binds K fd ps [] ∧ DFn P w K mg base j f fd ps m
def dProp (mn : Str) (tab : List (Str × Mir)) (fo : DM Sv) : DM Sv := fun ρ L => (fo ρ L).bind fun o L1 => match o.ob L1 with
  | some (c, _) => match tab.lookup c with
    | some m => toSv (noErr (m [o] L1))
    | none => .bad
  | none => .bad
section
variable {X : Cx} {W : WX} {k : Nat} {mn : Str} {tab : List (Str × Mir)} {pos : Pos} {o : Expr} {fo : DM Sv}
theorem de_prop (hc : X.calm = true) (hgu : X.A.guards = some []) (ho : DE X W o fo) (T : PTab X.prog X.w X.K X.mg X.base mn k tab) (hr : Room (k + 1) X.A) (hb : attributeBase o mn X.env (eval o X.env) = eval o X.env := by rfl) : DE X W (.Attribute o mn pos) (dProp mn tab fo) := by
  refine ⟨fun pins s σ H Q I h => attr_of hb (thn (ho.run pins s σ H (fun x H1 => ∃ c m a C dx gs, tab.lookup c = some m ∧ x = .ref a ∧ X.mg c = some (.ref C) ∧ H1 a = some (.ins C dx gs) ∧ spOf X.K X.mg 1 m [.ref a] H1 Q (fun _ _ _ => False)) I ?_) fun u s1 z => ?_)⟩
  · obtain ⟨G0, G, F, ps, ρ, L, g0, J, S, h⟩ := h
    refine ⟨G0, G, F, ps, ρ, L, g0, J, S, Res.wp_mono (Res.wp_bind h) (fun o L1 h1 v F1 H1 p1 x1 I1 r1 => ?_) fun e r L' q => q⟩
    split at h1
    · rename_i c fs hob
      split at h1
      · rename_i m hm
        obtain ⟨p, C, dx, gs, rfl, hmg, hp, rr⟩ := xv_ob I1 r1 hob
        refine ⟨c, m, p, C, dx, gs, hm, rfl, mg_ref.mp hmg, hp, ?_⟩
        rw [← calm_mg hc]
        refine ⟨rfl, G, F1, p1, [o], L1, I1, .cons r1 .nil, ?_⟩
        cases q : m [o] L1 with
        | bad => rw [q] at h1; exact h1.elim
        | err e r L' => rw [q] at h1; exact h1.elim
        | ok d L' =>
          rw [q] at h1
          exact fun u F' H' p' x J rd => h1 u F' H' p' (x1.trans x) J rd
      · exact h1.elim
    · exact h1.elim
  · obtain ⟨x, H1, I1, rx, c, m, a, C, dx, gs, hm, rfl, hmg, ea, hsp⟩ := z
    obtain rfl : u = Value.ref a := rx
    obtain ⟨⟨C1, m1, cl⟩, C2, pr, f, fd, ps, j, hj, hps, m2, hp, hbd, D⟩ := T c m hm
    rw [hmg] at m1 m2; cases m1; cases m2
    obtain ⟨mA, O, _⟩ := ins_get I1.hok ea
    obtain ⟨od, J, _⟩ := O.look
    obtain ⟨rest, hrec⟩ := hp.rec_
    have I2 := I1.tok (s1.toks + 1)
    have hcl : (PySem.W.clsIn X.K C).isSome = true := by
      obtain ⟨cd, hc, _⟩ := PySem.W.any_some cl.hd
      rw [hc]
      rfl
    have b1 := hbd { s1 with toks := s1.toks + 1 } [.ref a] I1.kIn (by simpa using hps.symm)
    rw [List.append_nil] at b1
    rw [← hps] at hsp
    refine PySem.W.get_bind I1.kIn J (PySem.W.plainGet_of (cl.get mn)).1 (PySem.W.findObj_data hcl hp.at_ hp.get hp.tak) (PySem.W.plainGet_of (cl.get mn)).2 (wpAny_call (PySem.W.prop_get (s := { s1 with toks := s1.toks + 1 }) I1.kIn hrec ?_))
    have e0 := I2.env0.in1
    refine codeAny_mono (D.go X.A.in1 X.stack { s1 with toks := s1.toks + 1 } H1 ⟨[.ref a], []⟩ [.ref a] [.ref a] Q (fun _ _ _ => False) hgu (hr.in1.mono hj) e0 b1 (.cons rfl .nil) hsp) fun r s' hq => ?_
    cases r with
    | error er =>
      obtain ⟨_, _, _, _, _, _, _, _, _, _, _, _, q⟩ := hq
      exact False.elim q
    | ok fl =>
      cases fl with
      | ret u =>
        obtain ⟨v, H', I3, rv, q3⟩ := I2.after hq
        show wpAny _ _ (handedOut u) _ _ _
        rw [PySem.W.handedOut_of (handed_of rv)]
        exact wpAny_pure ⟨v, H', I3, rv, q3⟩
      | next => exact False.elim hq
      | brk => exact False.elim hq
      | cont => exact False.elim hq
end
/-! ### constants of a class -/
def ConAt (K : PySem.W.Frag) (mg : Str → Option Value) (c f : Str) (i : Int) : Prop := ∃ C t, mg c = some (.ref C) ∧ ClX.CRead K C (.type "type") ∧ PySem.W.findCls K (.ref C) (.type "type") f = some (.val (.int i t))
theorem de_ccon {X : Cx} {W : WX} {c f : Str} {i : Int} {p pos : Pos} (h : ConAt X.K X.mg c f i) (hg : Gl X c) (hd : (c == ("__debug__" : Str)) = false := by decide) (hb : attributeBase (.Name c p) f X.env (eval (.Name c p) X.env) = eval (.Name c p) X.env := by rfl) : DE X W (.Attribute (.Name c p) f pos) (dC (.int i)) := by
  obtain ⟨C, t, hm, cr, hf⟩ := h
  refine imE (ClX.pe_cval (de_cls (W := W) hg hm hd) hb) fun σ H Q h => ?_
  obtain ⟨G0, G, F, ps, ρ, L, g0, I, S, h⟩ := h
  refine ⟨G0, G, F, ps, ρ, L, g0, I, S, fun v F1 H1 p1 x1 I1 r1 => ?_⟩
  cases r1 with
  | cls hc =>
    have e := mg_ref.mp hc
    rw [hm] at e; cases e
    exact ⟨C, .type "type", .int i, .int i t, rfl, cr, ⟨hf, ⟨t, rfl⟩⟩, h (.int i) F1 H1 p1 x1 I1 (.int i)⟩
/-! ### is, of bools -/
def gIsB (neg : Bool) (a b : Sv) (_ : Led) : Option Sv := match a, b with
  | .val (.bl x), .val (.bl y) => some (.val (.bl (if neg then !decide (x = y) else decide (x = y))))
  | _, _ => none
theorem sIsB {K : PySem.W.Frag} {mg : Str → Option Value} : OpS K mg L2.rIsB (gIsB false) := by
  intro G F H ps L x y a b s Q I ra rb e q
  unfold gIsB at e
  split at e
  · cases e
    exact ⟨_, _, xv_bl ra, xv_bl rb, QE.flat q I (.bl _)⟩
  · cases e
theorem sNotB {K : PySem.W.Frag} {mg : Str → Option Value} : OpS K mg L2.rNotB (gIsB true) := by
  intro G F H ps L x y a b s Q I ra rb e q
  unfold gIsB at e
  split at e
  · cases e
    exact ⟨_, _, xv_bl ra, xv_bl rb, QE.flat q I (.bl _)⟩
  · cases e
end DL

/-! DL, part 30: operators that look into the ledger; things of the ledger let stand; f-strings; list(range), list(str). -/
namespace DL
open PySem PySem.Spec PyProof.Rows L2
section
variable {K : PySem.W.Frag} {mg : Str → Option Value}
/-! ### len, in, subscripts of dicts of the ledger, too -/
def gLen2 (ss : List Sv) (L : Led) : Option Sv := match ss with
  | [a] => match a.prL L with
    | some ks => some (.val (.int ks.length))
    | none => gLen [a] L
  | _ => none
theorem cs_len2 : CallS K mg (rLen K) gLen2 := by
  intro G F H ps L xs ss s Q I R e q
  unfold gLen2 at e
  split at e
  · rename_i a
    split at e
    · rename_i ks hk
      cases e
      obtain ⟨x, rfl, rx⟩ := xvs1 R
      obtain ⟨p, ws, rfl, hp, rr⟩ := xv_prL I rx hk
      exact .inr ⟨_, _, rfl, hp, by rw [rr.length]; exact QE.now q I (.int _)⟩
    · exact cs_len G F H ps L xs [a] s Q I R e q
  · cases e
end
section
variable {X : Cx}
def gIn2 (neg : Bool) (a b : Sv) (L : Led) : Option Sv := match a.key, b.prL L with
  | some k, some ks => some (.val (.bl (if neg then !(lookK ks k).isSome else (lookK ks k).isSome)))
  | _, _ => gIn neg a b L
theorem sIn2 {neg : Bool} (hk : SysK X.K) : OpS X.K X.mg' (rIn3 X neg) (gIn2 neg) := by
  intro G F H ps L x y a b s Q I ra rb e q
  unfold gIn2 at e
  split at e
  · rename_i kk ks ek eb
    cases e
    obtain ⟨p, ws, rfl, hp, r⟩ := xv_prL I rb eb
    obtain ⟨rfl, _⟩ := xv_key ra ek
    refine .inr (.inl ⟨p, _, rfl, dget_of hp kk, ?_⟩)
    have e2 : (valV ws kk).isSome = (lookK ks kk).isSome := by
      rcases look_rel (K := X.K) (mg := X.mg') kk r with ⟨a, b⟩ | ⟨v', d', a, b, c⟩
      · rw [a, b]; rfl
      · rw [a, b]; rfl
    rw [e2]
    exact q.flat I (.bl _)
  · exact sIn hk G F H ps L x y a b s Q I ra rb e q
/-- a[b]: a dict by a key, else by a place -/
def gGet (a b : Sv) (L : Led) : Option Sv := match b.key, a.prL L with
  | some k, some ks => (lookK ks k).map .val
  | _, _ => gIx a b L
theorem ix_dget (hu : X.A.units + 1 < cLine) : IxR X (fun x y H Q => ∃ a v, x = .ref a ∧ DGet H a y (some v) ∧ Q v H) := by
  intro value slice pins s σ H x y v u Q I rx ry h hs
  obtain ⟨a, z, rfl, g, q⟩ := h
  obtain rfl : v = Value.ref a := rx
  unfold subscriptTail
  refine wpAny_bind ?_
  rw [getitemInPython_of_ne (dict_typeIs I g).not_modules]
  refine wpAny_bind (wpAny_specialOf (dict_typeIs I g) PySem.F.slot_dict_getitem.lookup ?_)
  have fin : wpAny (model X.prog X.w) X.A (subscripted slice false (.ref a) u) (fun r s₃ => wpAny (model X.prog X.w) X.A (letTemporaryGo value (.ref a) r >>= fun _ => pure r) (EP X pins σ Q) X.xe s₃) X.xe s := by
    rw [hs]
    exact wpAny_operating (wpAny_mono (d_getItem hu I g ry fun w' s3 I3 rw' => ⟨z, H, I3, rw', q⟩) (fun r s₃ h₃ => wpAny_bind (wpAny_letTemporaryGo (wpAny_pure h₃))) fun _ _ x => x)
  first
    | exact wpAny_pure (wpAny_bind fin)
    | exact wpAny_bind (wpAny_pure (wpAny_bind fin))
    | exact wpAny_bind fin
theorem sGet {K : PySem.W.Frag} {mg : Str → Option Value} : OpS K mg (fun x y H Q => rIx K x y H Q ∨ ∃ a v, x = .ref a ∧ DGet H a y (some v) ∧ Q v H) gGet := by
  intro G F H ps L x y a b s Q I ra rb e q
  unfold gGet at e
  split at e
  · rename_i k ks hk hp
    exact .inr (sDg G F H ps L x y a b s Q I ra rb (by unfold gDg; rw [hk, hp]; exact e) q)
  · exact .inl (sIx' G F H ps L x y a b s Q I ra rb e q)
variable {W : WX} {a b e : Expr} {fa fb fe : DM Sv} {pos : Pos}
theorem de_get (hu : X.A.units + 1 < cLine) (ha : DE X W a fa) (hb : DE X W b fb) (hx : PlainIx b) : DE X W (.Subscript a b pos) (dOp gGet fa fb) := de_ix (IxR.or ix_seq (ix_dget hu)) sGet ha hb hx
/-! ### a tuple n times -/
def gMulT (a b : Sv) (L : Led) : Option Sv := match a, b with
  | .val (.tup xs), .val (.int k) => if xs ≠ [] ∧ 2 ≤ k ∧ k ≤ 1000 ∧ xs.length ≤ 1000 then some (.val (.tup (List.replicate k.toNat xs).flatten)) else none
  | a, b => gMul a b L
theorem oMulT : OpR X (binaryOp .Mult) (fun x y H Q => rTimes x y H Q ∨ rRepT X.K x y H Q) := OpR.or oMul op_repT
theorem sMulT {K : PySem.W.Frag} {mg : Str → Option Value} : OpS K mg (fun x y H Q => rTimes x y H Q ∨ rRepT K x y H Q) gMulT := by
  intro G F H ps L x y a b s Q I ra rb e q
  unfold gMulT at e
  split at e
  · split at e
    · rename_i xs k hc; cases e
      obtain ⟨p, vs, rfl, hF, hp, z, r⟩ := xv_tup I ra
      obtain ⟨h1, h2, h3, h4⟩ := hc
      have hl := r.length
      refine .inr ⟨p, k, vs, rfl, xv_int rb, .inl (.inl hp), fun z => h1 (by subst z; cases r; rfl), h2, h3, by omega, q.newT I (by
        rw [flat_rep_len, sizeLine_eq]
        calc k.toNat * vs.length ≤ 1000 * 1000 := Nat.mul_le_mul (by omega) (by omega)
          _ ≤ _ := by decide) (r.rep _)⟩
    · cases e
  · exact .inl (sMul G F H ps L x y a b s Q I ra rb e q)
end
/-! ### things of the ledger let stand for ever -/
section
variable {K : PySem.W.Frag} {mg : Str → Option Value} {G0 G F H : Hp} {ps : List Addr} {L : Led}
theorem HS.frozeG (I : HS K mg G F H ps L) {k : Nat} {p : Addr} {c : Ct} {o u : HO} (hk : ps[k]? = some p) (hL : L[k]? = some c) (hc : c ≠ .gone) (ho : H p = some o) (hno : ∀ x, o ≠ .own x) : HS K mg G (upd F p u) (upd H p u) ps (L.set k .gone) ∧ Ext F ps (upd F p u) ps := by
  have hp : p ∈ ps := List.mem_of_getElem? hk
  have lv : Live ps L p := ⟨k, _, hk, hL, hc⟩
  have hF : F p = none := (I.free p hp lv).1
  have hG : G p = none := (I.free p hp lv).2
  have x : Ext F ps (upd F p u) ps := Ext.of ps fun b u e => by rw [upd_ne (ne_of_none e hF)]; exact e
  refine ⟨⟨fun b o e => ?_, fun b' u e => ?_, fun a' h => ?_, by simp [I.len], fun i j q a b c d => I.nd i j q a b (lv_gone c).2 (lv_gone d).2, fun q hq l => ?_, fun j q d hj hd => ?_⟩, x⟩
  · rw [upd_ne (ne_of_none e hG)]; exact I.frame b o e
  · by_cases hb : b' = p
    · subst hb; rw [upd_same] at e ⊢; exact e
    · rw [upd_ne hb] at e ⊢; exact I.same b' u e
  · by_cases hb : a' = p
    · subst hb; exact absurd hG h
    · rw [upd_ne hb]; exact I.apart a' h
  · obtain ⟨j, d, h1, h2, h3⟩ := l
    have hjk : k ≠ j := fun z => by
      subst z
      rw [List.getElem?_set_self (List.getElem?_eq_some_iff.mp hL).1] at h2
      cases h2; exact h3 rfl
    rw [List.getElem?_set_ne hjk] at h2
    have hqp : q ≠ p := fun z => by
      subst z
      exact hjk (I.nd k j q hk h1 ⟨_, hL, hc⟩ ⟨d, h2, h3⟩)
    rw [upd_ne hqp]
    exact I.free q hq ⟨j, d, h1, h2, h3⟩
  · by_cases hjk : k = j
    · subst hjk
      rw [List.getElem?_set_self (List.getElem?_eq_some_iff.mp hL).1] at hd
      cases hd
      rw [hk] at hj; cases hj
      exact ⟨_, upd_same⟩
    · rw [List.getElem?_set_ne hjk] at hd
      have old := I.at_ j q d hj hd
      by_cases hg : d = .gone
      · subst hg
        obtain ⟨o', ho'⟩ := old
        by_cases hqp : q = p
        · subst hqp; exact ⟨_, upd_same⟩
        · exact ⟨o', by rw [upd_ne hqp]; exact ho'⟩
      have hqp : q ≠ p := fun z => by
        subst z
        exact hjk (I.nd k j q hk hj ⟨_, hL, hc⟩ ⟨d, hd, hg⟩)
      have old2 := CtOk.updH (u := u) old hqp (fun o' e => by rw [ho] at e; exact absurd (Option.some.inj e) (hno o'))
      cases d with
      | lst xs => obtain ⟨vs, a, b, r⟩ := old2; exact ⟨vs, a, b, RDs.ext x r⟩
      | dic xs => obtain ⟨vs, a, b, r⟩ := old2; exact ⟨vs, a, b, RDk.ext x r⟩
      | obj c fs =>
        obtain ⟨C', dx', gs', a', b', c0', c1', c2', r'⟩ := old
        obtain ⟨C2, dx2, gs2, a2, b2, c02, c12, c22, r2⟩ := old2
        rw [upd_ne hqp, b'] at b2
        cases b2
        have hd : dx' ≠ p := fun z => by rw [z, ho] at c0'; exact absurd (Option.some.inj c0') (hno _)
        exact ⟨_, dx', _, a2, by rw [upd_ne hqp]; exact b', c02, by rw [upd_ne hd]; exact c12, c22, RDf.ext x r2⟩
      | gone => exact absurd rfl hg
theorem upd_id {H : Hp} {p : Addr} {u : HO} (h : H p = some u) : upd H p u = H := by
  funext b
  by_cases hb : b = p
  · subst hb; rw [upd_same, h]
  · rw [upd_ne hb]
end
def frzV (s : Sv) (L : Led) : Res Sv := match s with
  | .val (.own k) => match L[k]? with
    | some (.lst xs) => .ok (.val (.lst xs)) (L.set k .gone)
    | some (.dic ks) => .ok (.val (.dic ks)) (L.set k .gone)
    | _ => .bad
  | _ => .bad
def dFrz (f : DM Sv) : DM Sv := fun ρ L => (f ρ L).bind frzV
theorem de_frz {X : Cx} {W : WX} {e : Expr} {f : DM Sv} (h : DE X W e f) : DE X W e (dFrz f) := imE (pe_lk h) fun σ H Q h => by
  obtain ⟨G0, G, F, ps, ρ, L, g0, I, S, h⟩ := h
  refine ⟨G0, G, F, ps, ρ, L, g0, I, S, Res.wp_mono (Res.wp_bind h) (fun s L1 h1 v F1 H1 p1 x1 I1 r1 => ?_) fun e r L' q => q⟩
  unfold frzV at h1
  split at h1
  · rename_i k
    obtain ⟨p, rfl, hk⟩ := xv_own r1
    split at h1
    · rename_i xs hL
      obtain ⟨vs, hp, z, r⟩ := I1.at_ k p _ hk hL
      obtain ⟨I2, x2⟩ := I1.frozeG (u := .lst vs) hk hL (fun z => by cases z) hp (fun x z => by cases z)
      rw [upd_id hp] at I2
      exact .inl (h1 _ _ _ _ (x1.trans x2) I2 (.lst upd_same z (RDs.ext x2 r)))
    · rename_i ks hL
      obtain ⟨vs, hp, z, r⟩ := I1.at_ k p _ hk hL
      refine .inr ⟨p, .dK vs, hp, trivial, fun od => ?_⟩
      obtain ⟨I2, x2⟩ := I1.frozeG (u := .frz od (.dK vs)) hk hL (fun z => by cases z) hp (fun x z => by cases z)
      exact h1 _ _ _ _ (x1.trans x2) I2 (.dic upd_same z (RDk.ext x2 r))
    · exact h1.elim
  · exact h1.elim
/-! ### a dict display as a thing of the ledger; x = {} as the frame's own -/
section
variable {K : PySem.W.Frag} {mg : Str → Option Value} {G0 G F H : Hp} {ps : List Addr} {L : Led}
/-- what the frame held is the ledger's from here on -/
theorem HS.adopt {D : Addr} {u : HO} {c : Ct} (gD : G D = none) (I : HS K mg (upd G D u) F H ps L) (hno : ∀ x, u ≠ .own x) (hc : CtOk K mg G F H (ps ++ [D]) D c) : HS K mg G F H (ps ++ [D]) (L ++ [c]) ∧ Ext F ps F (ps ++ [D]) := by
  have hH : H D = some u := I.frame _ _ upd_same
  have hF : F D = none := I.apart D (by rw [upd_same]; simp)
  have hn : ∀ j, ps[j]? = some D → ¬ LvAt L j := fun j hj ⟨c, h1, h2⟩ => by
    have := (I.free D (List.mem_of_getElem? hj) ⟨j, c, hj, h1, h2⟩).2
    rw [upd_same] at this; cases this
  have xx : Ext F ps F (ps ++ [D]) := ⟨Same.refl F, [D], rfl⟩
  refine ⟨⟨fun b o e => ?_, I.same, fun a ha => ?_, by simp [I.len], ?_, fun q hq l => ?_, fun j q d hj hd => ?_⟩, xx⟩
  · exact I.frame b o (by rw [upd_ne (ne_of_none e gD)]; exact e)
  · exact I.apart a (by
      by_cases hb : a = D
      · subst hb; exact absurd gD ha
      · rw [upd_ne hb]; exact ha)
  · intro i j q hi hj li lj
    have old : ∀ {i : Nat}, (ps ++ [D])[i]? = some q → LvAt (L ++ [c]) i → (ps[i]? = some q ∧ LvAt L i) ∨ (i = ps.length ∧ q = D) := fun {i} hi li => by
      by_cases h : i < ps.length
      · rw [List.getElem?_append_left h] at hi
        obtain ⟨d, h1, h2⟩ := li
        rw [List.getElem?_append_left (by rw [← I.len]; exact h)] at h1
        exact .inl ⟨hi, d, h1, h2⟩
      · have h2 := (List.getElem?_eq_some_iff.mp hi).1
        simp at h2
        have e : i = ps.length := by omega
        subst e
        rw [List.getElem?_append_right (Nat.le_refl _)] at hi
        simp at hi
        exact .inr ⟨rfl, hi.symm⟩
    rcases old hi li with ⟨a2, a3⟩ | ⟨a1, a2⟩
    · rcases old hj lj with ⟨b2, b3⟩ | ⟨b1, b2⟩
      · exact I.nd i j q a2 b2 a3 b3
      · subst b2; exact absurd a3 (hn i a2)
    · rcases old hj lj with ⟨b2, b3⟩ | ⟨b1, b2⟩
      · subst a2; exact absurd b3 (hn j b2)
      · rw [a1, b1]
  · by_cases hb : q = D
    · subst hb; exact ⟨hF, gD⟩
    · obtain ⟨j, d, h1, h2, h3⟩ := l
      have hj : j < ps.length := by
        by_cases hj : j < ps.length
        · exact hj
        · rw [List.getElem?_append_right (Nat.le_of_not_lt hj)] at h1
          have := List.mem_of_getElem? h1
          simp at this
          exact absurd this hb
      rw [List.getElem?_append_left hj] at h1
      rw [List.getElem?_append_left (by rw [← I.len]; exact hj)] at h2
      obtain ⟨a, b⟩ := I.free q (List.mem_of_getElem? h1) ⟨j, d, h1, h2, h3⟩
      rw [upd_ne hb] at b
      exact ⟨a, b⟩
  · by_cases hj2 : j < ps.length
    · rw [List.getElem?_append_left hj2] at hj
      rw [List.getElem?_append_left (by rw [← I.len]; exact hj2)] at hd
      have old := I.at_ j q d hj hd
      cases d with
      | lst xs => obtain ⟨vs, a, b, r⟩ := old; exact ⟨vs, a, b, RDs.ext xx r⟩
      | dic xs => obtain ⟨vs, a, b, r⟩ := old; exact ⟨vs, a, b, RDk.ext xx r⟩
      | obj c fs =>
        obtain ⟨C, dx, gs, a, b, c0, c1, c2, r⟩ := old
        have hdx : dx ≠ D := fun z => by rw [z, hH] at c0; exact absurd (Option.some.inj c0) (hno _)
        rw [upd_ne hdx] at c2
        exact ⟨C, dx, gs, a, b, c0, c1, c2, RDf.ext xx r⟩
      | gone => exact old
    · have e1 : j = ps.length := by
        have := (List.getElem?_eq_some_iff.mp hj).1
        simp at this; omega
      subst e1
      rw [List.getElem?_append_right (Nat.le_refl _)] at hj
      rw [I.len, List.getElem?_append_right (Nat.le_refl _)] at hd
      simp at hj hd
      subst hj hd
      exact hc
end
section
variable {X : Cx} {W : WX} {pos : Pos} {keys : List (Option Expr)} {values : List Expr} {fs : List (DM Sv × DM Sv)}
theorem de_dicO (h : DPs X W pos keys values fs) (hall : keys.all (·.isSome) = true) (hl : keys.length = values.length) (h0 : keys ≠ []) (h15 : keys.length ≤ 15) : DE X W (.Dict keys values pos) (dDicO fs) :=
  imE (pe_disp h hall hl h0 h15) fun σ H Q h => by
    obtain ⟨G0, G, F, ps, ρ, L, g0, I, S, h⟩ := h
    refine disp_of g0 I S h fun ks L1 F1 H1 p1 ws p h1 x1 gp fp I1 hp z rr => ?_
    have xx : Ext F1 p1 F1 (p1 ++ [p]) := ⟨Same.refl F1, [p], rfl⟩
    obtain ⟨I2, x2⟩ := HS.adopt (c := .dic ks) gp I1 (fun x z => by cases z) ⟨ws, hp, z, RDk.ext xx rr⟩
    exact h1 _ _ _ _ (x1.trans x2) I2 (.own (by rw [← I1.len]; simp))
theorem de_dicO0 : DE X W (.Dict [] [] pos) (fun _ L => .ok (.val (.own L.length)) (L ++ [.dic []])) := imE pe_dnewK fun σ H Q h => by
  obtain ⟨G0, G, F, ps, ρ, L, g0, I, S, h⟩ := h
  intro p hp
  obtain ⟨I2, x2⟩ := I.push (u := .dK []) (c := .dic []) hp ⟨[], upd_same, Nat.zero_le _, .nil⟩
  exact h _ _ _ _ x2 I2 (.own (by rw [← I.len]; simp))
def sSetD (i : Nat) : DM Fl := fun ρ L => .ok (.nx (ρ.set i (some (.muD [])))) L
theorem ds_setD (i : Nat) {x : Str} {pos' pos2 : Pos} (hN : X.N.Nodup) (hi : X.N[i]? = some x) (hx : Loc X.env.scope x) (hs : swapsWith (.Dict [] [] pos2) (some (.Name x pos')) pos.line X.env = pure false := by rfl) (hf : X.fn x = true ∨ X.env.scope.names.lookup x = some .local := by first | exact .inl rfl | exact .inr rfl | assumption) :
    DS X W (.Assign [.Name x pos'] (.Dict [] [] pos2) pos) (sSetD i) := imS (ps_set hN hi hx pe_dnewK hs hf) fun D σ H h => by
  obtain ⟨G0, G, F, ps, ρ, L, g0, I, S, h⟩ := h
  intro p hp
  have gp : G p = none := I.frame.free hp
  refine h _ (upd G p (.dK [])) F (upd H p (.dK [])) ps (fun b o q => ?_) (Ext.refl _ _) (I.hold hp) ?_
  · rw [upd_ne (ne_of_none (g0 _ _ q) gp)]; exact g0 _ _ q
  · exact S.own gp g0 ⟨p, [], rfl, g0.free gp, upd_same, Nat.zero_le _, .nil⟩ rfl
end
/-! ### f-strings -/
def okF (p : PyData) : Bool := okR p && (match p with
  | .none => false
  | .bool _ => false
  | _ => true)
def tFmtP (X : Cx) (te : TE) : TE := fun σ H Q => te σ H fun x H1 => ∃ p, RdAt X H1 x p ∧ okF p = true ∧ Q (.str p.shown) H1
theorem pe_fmtP {X : Cx} {e : Expr} {te : TE} {pos : Pos} (hg : X.A.guards = some []) (hu : X.A.units + 66 < cLine) (he : PE X e te) : PE X (.FormattedValue e 114 none pos) (tFmtP X te) := by
  refine ⟨fun pins s σ H Q I h => ?_⟩
  refine wpAny_FormattedValue_repr (thn (he.run pins s σ H _ I h) fun u s1 hv => ?_)
  obtain ⟨x, H1, I1, ru, p, hr, ok, q⟩ := hv
  obtain ⟨as, R, na⟩ := hr pins σ s1 u I1 ru
  simp only [okF, okR, Bool.and_eq_true, decide_eq_true_eq] at ok
  obtain ⟨⟨⟨hs, hd⟩, hz⟩, hf⟩ := ok
  have fin : ∀ (t : Tok) (h' : Heap) (tk : Nat), (∀ b o, s1.heap.get? b = some o → h'.get? b = some o) → wpAny (model X.prog X.w) X.A (formatField (.str p.shown t) Str.empty) (EP X pins σ Q) X.xe { s1 with heap := h', toks := tk } := fun t h' tk k =>
    wpAny_formatField_str ⟨.str p.shown, H1, I1.kept k, ⟨_, rfl⟩, q⟩ ⟨.str p.shown, H1, (I1.kept k).tok _, ⟨_, rfl⟩, q⟩ hz
  have road : ∀ {a : Addr}, Reads s1.heap (.ref a) p as → u = .ref a → wpAny (model X.prog X.w) X.A (pyReprObj u) (fun r s2 => wpAny (model X.prog X.w) X.A (formatField r Str.empty) (EP X pins σ Q) X.xe s2) X.xe s1 := fun R e => by
    subst e
    exact pyReprObj_of_reads R hs (fun _ => na) hg (by omega) (fun b o e => e) (fun h' t tk k => fin t h' tk k) hz
  cases R with
  | none => cases hf
  | bool b => cases hf
  | int i t => exact pyReprObj_int (by simpa [PyData.showable] using hs) (fin _ s1.heap (s1.toks + 1) fun _ _ e => e)
  | str y t => exact pyReprObj_str (fin _ s1.heap (s1.toks + 1) fun _ _ e => e) hz
  | list h1 h2 h3 h4 => exact road (.list h1 h2 h3 h4) rfl
  | tuple h1 h2 h3 h4 => exact road (.tuple h1 h2 h3 h4) rfl
  | dict h1 h2 h3 h4 h5 => exact road (.dict h1 h2 h3 h4 h5) rfl
def gFmtP (a : Sv) (_ : Led) : Option Sv := match a.py with
  | some p => if okF p = true then some (.val (.str p.shown)) else none
  | none => none
theorem okF_len {p : PyData} (h : okF p = true) : p.shown.length ≤ sizeLine := by
  simp only [okF, okR, Bool.and_eq_true, decide_eq_true_eq] at h
  exact h.1.2
theorem de_fmtP {X : Cx} {W : WX} {e : Expr} {fe : DM Sv} {pos : Pos} (hg : X.A.guards = some []) (hk : SysK X.K) (hu : X.A.units + 66 < cLine) (he : DE X W e fe) : DE X W (.FormattedValue e 114 none pos) (dUn gFmtP fe) :=
  imE (pe_fmtP hg hu he) fun σ H Q h => by
    obtain ⟨G0, G, F, ps, ρ, L, g0, I, S, h⟩ := h
    refine ⟨G0, G, F, ps, ρ, L, g0, I, S, Res.wp_mono (Res.wp_bind h) (fun s L1 h1 v F1 H1 p1 x1 I1 r1 => ?_) fun e r L' q => q⟩
    obtain ⟨t, e1, h1⟩ := give_wp h1
    unfold gFmtP at e1
    split at e1
    · rename_i p hp
      split at e1
      · rename_i ok
        cases e1
        exact ⟨p, XvOk.reads (K' := X.K) hk I1 r1 hp, ok, (QE.ext x1 h1).flat I1 (.str _ (okF_len ok))⟩
      · cases e1
    · cases e1
/-- {x}: a text or an int -/
def gFmt (a : Sv) (_ : Led) : Option Sv := match a with
  | .val (.str y) => some (.val (.str y))
  | .val (.int i) => if i.natAbs.log2 < 1920 then some (.val (.str (toString i))) else none
  | _ => none
theorem de_fmt {X : Cx} {W : WX} {e : Expr} {fe : DM Sv} {pos : Pos} (he : DE X W e fe) : DE X W (.FormattedValue e (-1) none pos) (dUn gFmt fe) :=
  imE (pe_fmt he) fun σ H Q h => by
    obtain ⟨G0, G, F, ps, ρ, L, g0, I, S, h⟩ := h
    refine ⟨G0, G, F, ps, ρ, L, g0, I, S, Res.wp_mono (Res.wp_bind h) (fun s L1 h1 v F1 H1 p1 x1 I1 r1 => ?_) fun e r L' q => q⟩
    obtain ⟨t, e1, h1⟩ := give_wp h1
    unfold gFmt at e1
    split at e1
    · cases e1
      obtain ⟨rfl, z⟩ := xv_str r1
      exact .inl ⟨_, rfl, z, (QE.ext x1 h1).flat I1 (.str _ z)⟩
    · split at e1
      · rename_i hi
        cases e1
        exact .inr ⟨_, xv_int r1, hi, (QE.ext x1 h1).flat I1 (.str _ (int_text _ hi))⟩
      · cases e1
    · cases e1
def dJs : List (DM Sv) → Str → DM Str
  | [], acc, _, L => .ok acc L
  | f :: fs, acc, ρ, L => (f ρ L).bind fun s L1 => match s with
    | .val (.str y) => if (acc ++ y).length ≤ sizeLine then dJs fs (acc ++ y) ρ L1 else .bad
    | _ => .bad
def dJoined (fs : List (DM Sv)) : DM Sv := fun ρ L => (dJs fs Str.empty ρ L).bind fun x L1 => .ok (.val (.str x)) L1
abbrev DJ (X : Cx) (W : WX) (es : List Expr) (fs : List (DM Sv)) : Prop := PJ X es (fs.map fun f => tE X.K X.mg' W f)
section
variable {X : Cx} {W : WX}
theorem dj_nil : DJ X W [] [] := .nil
theorem dj_cons {e : Expr} {es : List Expr} {f : DM Sv} {fs : List (DM Sv)} (h : DE X W e f) (r : DJ X W es fs) : DJ X W (e :: es) (f :: fs) := .cons h r
theorem tJs_of {K : PySem.W.Frag} {mg : Str → Option Value} {σ : List (Option V)} {G0 G : Hp} {ρ : Slo} (g0 : Same G0 G) : ∀ {fs : List (DM Sv)} {acc : Str} {H F : Hp} {ps : List Addr} {L : Led} {Q : Str → Hp → Prop}, acc.length ≤ sizeLine → HS K mg G F H ps L → Slots K mg G0 G F ps σ ρ →
    (dJs fs acc ρ L).wp (fun x L' => ∀ F' H' ps', Ext F ps F' ps' → HS K mg G F' H' ps' L' → x.length ≤ sizeLine → Q x H') (EE K mg G0 F ps W) → tJs (fs.map fun f => tE K mg W f) acc σ H Q
  | [], acc, H, F, ps, L, Q, z, I, S, h => h F H ps (Ext.refl _ _) I z
  | f :: fs, acc, H, F, ps, L, Q, z, I, S, h => by
    refine ⟨G0, G, F, ps, ρ, L, g0, I, S, Res.wp_mono (Res.wp_bind h) (fun s L1 h1 v F1 H1 p1 x1 I1 r1 => ?_) fun e r L' q => q⟩
    split at h1
    · rename_i y
      split at h1
      · rename_i hz
        obtain ⟨rfl, _⟩ := xv_str r1
        refine ⟨y, rfl, hz, tJs_of g0 hz I1 (S.ext x1) (Res.wp_mono h1 (fun x L' q F' H' ps' xx => q F' H' ps' (x1.trans xx)) fun _ _ _ q => EE.ext x1 q)⟩
      · exact h1.elim
    · exact h1.elim
theorem de_joined {v1 v2 : Expr} {rest : List Expr} {fs : List (DM Sv)} {pos : Pos} (h : DJ X W (v1 :: v2 :: rest) fs) : DE X W (.JoinedStr (v1 :: v2 :: rest) pos) (dJoined fs) :=
  imE (pe_joined h) fun σ H Q h => by
    obtain ⟨G0, G, F, ps, ρ, L, g0, I, S, h⟩ := h
    exact tJs_of g0 (Nat.zero_le _) I S (Res.wp_mono (Res.wp_bind h) (fun x L' q F' H' ps' xx I' z => q _ F' H' ps' xx I' (.str _ z)) fun _ _ _ q => q)
end
/-! ### list(range(n)), list(str) -/
def gLrg (ss : List Sv) (L : Led) : Option (List Dv) := match ss with
  | [.val (.int n)] => if 0 ≤ n ∧ n ≤ 16777216 then some (upF 0 n.toNat) else none
  | _ => none
def dLrg (ow : Bool) (fa : DM Sv) : DM Sv := fun ρ L => (fa ρ L).bind fun s L1 => match s with
  | .val (.int n) => if 0 ≤ n ∧ n ≤ 16777216 then newL ow (upF 0 n.toNat) L1 else .bad
  | _ => .bad
theorem rg_rel {K : PySem.W.Frag} {mg : Str → Option Value} {F : Hp} {ps : List Addr} (n : Nat) : RDs K mg F ps ((List.range n).map fun i => V.int (0 + (i : Nat))) (upF 0 n) := by
  unfold upF
  generalize List.range n = l
  induction l with
  | nil => exact .nil
  | cons a l ih => exact .cons (.int _) ih
theorem de_lrg {X : Cx} {W : WX} {e : Expr} {fe : DM Sv} {p p2 pos pos2 : Pos} {ow : Bool} (hc : X.calm = true) (hg : Gl X "list") (hm : X.mg "list" = none) (hg2 : Gl X "range") (hm2 : X.mg "range" = none) (he : DE X W e fe)
    (na : starEach [e] X.env = (false, eval e X.env) :: starEach [] X.env := by rfl) (nb : starEach [.Call (.Name "range" p2) [e] [] pos2] X.env = (false, eval (.Call (.Name "range" p2) [e] [] pos2) X.env) :: starEach [] X.env := by rfl) : DE X W (.Call (.Name "list" p) [.Call (.Name "range" p2) [e] [] pos2] [] pos) (dLrg ow fe) :=
  imE (pe_listRg hc hg hm (prg_1 hg2 hm2 he na) nb) fun σ H Q h => by
    obtain ⟨G0, G, F, ps, ρ, L, g0, I, S, h⟩ := h
    refine ⟨G0, G, F, ps, ρ, L, g0, I, S, Res.wp_mono (Res.wp_bind h) (fun s L1 h1 v F1 H1 p1 x1 I1 r1 => ?_) fun e r L' q => q⟩
    split at h1
    · rename_i n
      split at h1
      · rename_i hn
        rw [xv_int r1]
        refine ⟨n, rfl, RgOk.of_le (by omega) hn.2 (by omega) hn.1, fun l hl => ?_⟩
        have hs : (rgV 0 n).length ≤ sizeLine := by rw [rgV_length, sizeLine_eq]; omega
        refine newL_ok (I1.frame.free hl) (I1.hold hl) hs ?_ (Res.wp_mono h1 (fun _ _ q => QE.ext x1 q) fun _ _ _ q => EE.ext x1 q)
        have := rg_rel (K := X.K) (mg := X.mg') (F := F1) (ps := p1) n.toNat
        unfold rgV
        simpa using this
      · exact h1.elim
    · exact h1.elim
def gLstr (ss : List Sv) (_ : Led) : Option (List Dv) := match ss with
  | [.val (.str z)] => some (z.cps.toList.map fun c => .str ⟨#[c]⟩)
  | _ => none
theorem call_listS {X : Cx} (hc : X.calm = true) : CallR X (.type "list") (fun xs H Q => ∃ z : Str, xs = [.str z] ∧ z.length ≤ sizeLine ∧ ∀ l, H l = none → Q (.ref l) (upd H l (.lst (chars z)))) := by
  intro pins s σ H xs us Q I r h
  obtain ⟨z, rfl, hz, q⟩ := h
  obtain ⟨u, rfl, rx⟩ := vals1 r
  obtain ⟨t, rfl⟩ := rx
  refine call_list_str (I.ok.hd hc) z t (fun h' tk acc c' hk e hi => ?_) hz
  have hv : Vals (chars z) acc.toList := by
    have hl : (chars z).length = acc.toList.length := by
      unfold chars; rw [List.length_map, Array.length_toList, Array.length_toList]; exact hi.1.symm
    refine vals_of hl fun i x v h1 h2 => ?_
    obtain ⟨c, tt, e1, e2⟩ := hi.2 i v (by rw [← Array.getElem?_toList]; exact h2)
    unfold chars at h1
    rw [List.getElem?_map, Array.getElem?_toList, e1] at h1
    cases h1
    subst e2
    exact ⟨_, rfl⟩
  refine ⟨.ref s.heap.objs.size, upd H s.heap.objs.size (.lst (chars z)), I.laid (t' := tk) hk (Nat.le_refl _) (show ObjOk X.prog X.w _ _ _ (.lst (chars z)) from ⟨?_, acc.toList, c', hv, ?_⟩), rfl, q _ (I.hok.fresh (Nat.le_refl _))⟩
  · unfold chars; rw [List.length_map, Array.length_toList]; exact hz
  · rw [Array.toArray_toList]; exact e
where
  vals_of : ∀ {l : List V} {m : List Value}, l.length = m.length → (∀ i x v, l[i]? = some x → m[i]? = some v → RelV x v) → Vals l m
    | [], [], _, _ => .nil
    | [], _ :: _, h, _ => by simp at h
    | _ :: _, [], h, _ => by simp at h
    | x :: l, v :: m, h, k => .cons (k 0 x v rfl rfl) (vals_of (by simpa using h) fun i => k (i + 1))
theorem ls_str {K : PySem.W.Frag} {mg : Str → Option Value} : CallLS K mg (fun xs H Q => ∃ z : Str, xs = [.str z] ∧ z.length ≤ sizeLine ∧ ∀ l, H l = none → Q (.ref l) (upd H l (.lst (chars z)))) gLstr := by
  intro G F H ps L xs ss ds Q I R e q
  unfold gLstr at e
  split at e
  · rename_i z
    cases e
    obtain ⟨x, rfl, rx⟩ := xvs1 R
    obtain ⟨rfl, hz⟩ := xv_str rx
    exact ⟨z, rfl, hz, fun l hl => q l _ hl (by unfold chars; rw [List.length_map, Array.length_toList]; exact hz) (chars_rel z)⟩
  · cases e
/-- list(x) of a list, a tuple, a dict, a text -/
def gLst4 (ss : List Sv) (L : Led) : Option (List Dv) := (gLst ss L).or (gLstr ss L)
theorem call_list4 {X : Cx} (hc : X.calm = true) : CallR X (.type "list") (fun xs H Q => ((∃ p ys, xs = [.ref p] ∧ (SqL X.K H p ys ∨ SqT X.K H p ys) ∧ ∀ l, H l = none → Q (.ref l) (upd H l (.lst ys))) ∨ ∃ (a : Addr) (kvs : List (Key × V)), xs = [.ref a] ∧ Rd H a (.dK kvs) ∧ ∀ p, H p = none → Q (.ref p) (upd H p (.lst (kvs.map fun kv => kV kv.1)))) ∨ ∃ z : Str, xs = [.str z] ∧ z.length ≤ sizeLine ∧ ∀ l, H l = none → Q (.ref l) (upd H l (.lst (chars z)))) := CallR.or (call_list3 hc) (call_listS hc)
theorem ls_list4 {K : PySem.W.Frag} {mg : Str → Option Value} : CallLS K mg (fun xs H Q => ((∃ p ys, xs = [.ref p] ∧ (SqL K H p ys ∨ SqT K H p ys) ∧ ∀ l, H l = none → Q (.ref l) (upd H l (.lst ys))) ∨ ∃ (a : Addr) (kvs : List (Key × V)), xs = [.ref a] ∧ Rd H a (.dK kvs) ∧ ∀ p, H p = none → Q (.ref p) (upd H p (.lst (kvs.map fun kv => kV kv.1)))) ∨ ∃ z : Str, xs = [.str z] ∧ z.length ≤ sizeLine ∧ ∀ l, H l = none → Q (.ref l) (upd H l (.lst (chars z)))) gLst4 := CallLS.or ls_list ls_str
end DL

/-! DL, part 31: what the head must tell of own classes: methods, properties, constants. -/
namespace DL
open PySem PySem.Spec PyProof.Rows L2
/-! ### the address of a property's getter -/
def pgA (K : PySem.W.Frag) (c m : Str) : Addr := match PySem.W.recIn K (He.ma K (He.ga K c) m) "property" with
  | some (.ref g :: _) => g
  | _ => 0
def fnObsA (K : PySem.W.Frag) (a : Addr) : He.FnV := match K.lookup a with
  | some ⟨_, _, .func fd, _⟩ => some (fd.name, fd.qualname, fd.params, fd.body, fd.scope, fd.globals, fd.closure, fd.defaults, fd.builtins)
  | _ => none
inductive Fu where
  | fx (g : Fx)
  | con (x f : Str) (i : Int)
  | prop (x m q : Str)
def Fu.ok (K : PySem.W.Frag) : Fu → Bool
  | .fx g => g.ok K
  | .con x f i => PySem.W.readsIn K (He.ga K x) (.type "type") && (decide (PySem.W.specialIn K (.ref (He.ga K x)) "__getattribute__" = some (some (.builtin "type.__getattribute__"))) && (match PySem.W.findCls K (.ref (He.ga K x)) (.type "type") f with
      | some (.val (.int j _)) => decide (j = i)
      | _ => false))
  | .prop x m q => decide (PySem.W.findIn K (.ref (He.ga K x)) m = some (some (.ref (He.ma K (He.ga K x) m)))) && (decide (PySem.W.specialIn K (.ref (He.ma K (He.ga K x) m)) "__get__" = some (some (.builtin "property.__get__"))) && (decide (PySem.W.takesIn K (.ref (He.ma K (He.ga K x) m)) = some true) && ((match PySem.W.recIn K (He.ma K (He.ga K x) m) "property" with
      | some (.ref g :: _) => true
      | _ => false) && (PySem.W.keepIn K (.ref (pgA K x m)) && (match K.lookup (pgA K x m) with
      | some ⟨_, _, .func fd, _⟩ => PySem.W.codeIn K fd.code q
      | _ => false)))))
section
variable {K : PySem.W.Frag} {mg : Str → Option Value} {x f m q : Str} {i : Int}
theorem fx_ok {g : Fx} (h : (Fu.fx g).ok K = true) : g.ok K = true := h
theorem con_ok (h : (Fu.con x f i).ok K = true) (g : mg x = some (.ref (He.ga K x))) : ConAt K mg x f i := by
  simp only [Fu.ok, Bool.and_eq_true, decide_eq_true_eq] at h
  obtain ⟨h1, h2, h3⟩ := h
  split at h3
  · rename_i j t e
    rw [of_decide_eq_true h3] at e
    exact ⟨_, t, g, ⟨h1, h2⟩, e⟩
  · cases h3
theorem prop_ok (h : (Fu.prop x m q).ok K = true) : PropOf K (He.ga K x) m (He.ma K (He.ga K x) m) (pgA K x m) ∧ PySem.W.keepIn K (.ref (pgA K x m)) = true := by
  simp only [Fu.ok, Bool.and_eq_true, decide_eq_true_eq] at h
  obtain ⟨h1, h2, h3, h4, h5, h6⟩ := h
  refine ⟨⟨h1, h2, h3, ?_⟩, h5⟩
  split at h4
  · rename_i g r e
    refine ⟨r, ?_⟩
    have : pgA K x m = g := by unfold pgA; rw [e]
    rw [this]; exact e
  · cases h4
end
/-- a getter's def: where it stands, what it is -/
structure FnP where
  cls : Str
  name : Str
  qual : Str
  params : Arguments
  body : List Stmt
  scope : Scope
def FnP.val (d : FnP) : He.FnV := some (d.name, d.qual, d.params, .stmts d.body, d.scope, mainGlobals, [], .none, builtinsNs)
abbrev AlU : Type := He.Al × Bool × List He.FnV
def obsUK (fa : List He.Fa) (fn : List He.FnD) (fx : List Fu) (fp : List FnP) (K : PySem.W.Frag) : AlU := (He.obsE fa fn K, fx.all fun f => f.ok K, fp.map fun d => fnObsA K (pgA K d.cls d.name))
def obsU (n : Nat) (fa : List He.Fa) (fn : List He.FnD) (fx : List Fu) (fp : List FnP) (g : Addr → Option Obj) : AlU := obsUK fa fn fx fp (frS g n)
def SaysU (fa : List He.Fa) (fn : List He.FnD) (fx : List Fu) (fp : List FnP) (K : PySem.W.Frag) : Prop := He.SaysE fa fn K ∧ (fx.all fun f => f.ok K) = true ∧ (fp.map fun d => fnObsA K (pgA K d.cls d.name)) = fp.map FnP.val
def hookU (n : Nat) (fa : List He.Fa) (fn : List He.FnD) (fx : List Fu) (fp : List FnP) : PySem.W.Hook where
  α := AlU
  obs := fun s => obsU n fa fn fx fp s.heap.get?
  val := fun _ => (He.valE fn, true, fp.map FnP.val)
  says := fun _ h => ∃ K : PySem.W.Frag, K.In h ∧ SaysU fa fn fx fp K
  of := fun _ _ e => ⟨_, He.frT_in, congrArg (fun z : AlU => z.1) e, congrArg (fun z : AlU => z.2.1) e, congrArg (fun z : AlU => z.2.2) e⟩
  keeps := fun _ _ _ ⟨K, hK, c⟩ k => ⟨K, PySem.W.Frag.In.keeps hK k, c⟩
theorem obsU_eq {n : Nat} {fa : List He.Fa} {fn : List He.FnD} {fx : List Fu} {fp : List FnP} {g : Addr → Option Obj} {s : Shared} (h : ∀ a, g a = s.heap.get? a) : obsU n fa fn fx fp g = (hookU n fa fn fx fp).obs s := by
  have e : g = s.heap.get? := funext h
  subst e; rfl
/-- a def of a class, there -/
def DefM (K : PySem.W.Frag) (mg : Str → Option Value) (c m q : Str) (st : Stmt) : Prop := ∃ C f fd, mg c = some (.ref C) ∧ PySem.W.findIn K (.ref C) m = some (some (.ref f)) ∧ Fun K m q st f fd ∧ PySem.W.isFn K (.ref f) = true
/-- a getter, there -/
def DefP (K : PySem.W.Frag) (mg : Str → Option Value) (c m q : Str) (st : Stmt) : Prop := ∃ C pr f fd, mg c = some (.ref C) ∧ PropOf K C m pr f ∧ Fun K m q st f fd
section
variable {fa : List He.Fa} {fn : List He.FnD} {fx : List Fu} {fp : List FnP} {K : PySem.W.Frag} {h : Heap} {mg : Str → Option Value}
theorem SaysU.ownf (c : SaysU fa fn fx fp K) {f : Fu} (i : Nat) (hf : fx[i]? = some f := by rfl) : f.ok K = true := List.all_eq_true.mp c.2.1 f (List.mem_of_getElem? hf)
theorem SaysU.ownx (c : SaysU fa fn fx fp K) {f : Fx} (i : Nat) (hf : fx[i]? = some (.fx f) := by rfl) : f.ok K = true := c.ownf i hf
theorem SaysU.kitf (c : SaysU fa fn fx fp K) {f : He.Fa} (i : Nat) (hf : fa[i]? = some f := by rfl) : f.ok K = true := He.SaysE.fact c.1 i hf
theorem SaysU.deff (c : SaysU fa fn fx fp K) {x : Str} {st : Stmt} (i : Nat) (hf : fn[i]? = some ⟨(x, none), x, x, defArgs st, defBody st, defScope st⟩) (hk : PySem.W.keepIn K (.ref (He.ga K x)) = true) (g : mg x = some (.ref (He.ga K x))) : DefAt K mg x x st := by
  obtain ⟨oc, od, osl, kV, doc, pm, an, cdv, ct, e1, e2⟩ := He.SaysE.def_ c.1 i hf
  exact ⟨_, _, ⟨⟨oc, od, kV, doc, pm, an, cdv, ct, osl, rfl, e1, e2⟩, hk⟩, g⟩
theorem SaysU.mth (c : SaysU fa fn fx fp K) {x m q : Str} {st : Stmt} (i : Nat) (hf : fn[i]? = some ⟨(x, some m), m, q, defArgs st, defBody st, defScope st⟩) (M : Meth K (He.ga K x) m (He.ma K (He.ga K x) m)) (g : mg x = some (.ref (He.ga K x))) : DefM K mg x m q st := by
  obtain ⟨oc, od, osl, kV, doc, pm, an, cdv, ct, e1, e2⟩ := He.SaysE.def_ c.1 i hf
  exact ⟨_, _, _, g, M.at_, ⟨⟨oc, od, kV, doc, pm, an, cdv, ct, osl, rfl, e1, e2⟩, M.kp⟩, M.fn⟩
theorem SaysU.ini (c : SaysU fa fn fx fp K) {x q : Str} {st : Stmt} (i : Nat) (hf : fn[i]? = some ⟨(x, some "__init__"), "__init__", q, defArgs st, defBody st, defScope st⟩) (hk : PySem.W.keepIn K (.ref (He.ma K (He.ga K x) "__init__")) = true) : ∃ fd, Fun K "__init__" q st (He.ma K (He.ga K x) "__init__") fd := by
  obtain ⟨oc, od, osl, kV, doc, pm, an, cdv, ct, e1, e2⟩ := He.SaysE.def_ c.1 i hf
  exact ⟨_, ⟨⟨oc, od, kV, doc, pm, an, cdv, ct, osl, rfl, e1, e2⟩, hk⟩⟩
theorem SaysU.prp (c : SaysU fa fn fx fp K) {x m q : Str} {st : Stmt} (i j : Nat) (hf : fp[i]? = some ⟨x, m, q, defArgs st, defBody st, defScope st⟩) (hx : fx[j]? = some (.prop x m q)) (g : mg x = some (.ref (He.ga K x))) : DefP K mg x m q st := by
  have hp := c.ownf j hx
  have cd : (match K.lookup (pgA K x m) with
      | some ⟨_, _, .func fd, _⟩ => PySem.W.codeIn K fd.code q
      | _ => false) = true := by
    simp only [Fu.ok, Bool.and_eq_true] at hp
    exact hp.2.2.2.2.2
  obtain ⟨P, kp⟩ := prop_ok hp
  have e2 : (fp.map fun d => fnObsA K (pgA K d.cls d.name))[i]? = (fp.map FnP.val)[i]? := by rw [c.2.2]
  rw [List.getElem?_map, List.getElem?_map, hf] at e2
  have e := Option.some.inj e2
  simp only [fnObsA, FnP.val] at e
  cases hq : K.lookup (pgA K x m) with
  | none => rw [hq] at e; cases e
  | some o =>
    obtain ⟨oc, od, dt, osl⟩ := o
    rw [hq] at e cd
    cases dt with
    | func fd =>
      obtain ⟨n1, n2, n3, n4, n5, n6, n7, n8, n9, n10, n11, n12, n13, n14, n15⟩ := fd
      simp only [Option.some.injEq, Prod.mk.injEq] at e
      obtain ⟨h1, h2, h3, h4, h5, h6, h7, h8, h9⟩ := e
      subst h1 h2 h3 h4 h5 h6 h7 h8 h9
      exact ⟨_, _, _, _, g, P, ⟨⟨oc, od, n9, n10, n11, n12, n13, n14, osl, rfl, hq, cd⟩, kp⟩⟩
    | _ => cases e
end
section
variable {P : Program} {w : World} {K : PySem.W.Frag} {mg : Str → Option Value} {base : Heap} {k : Nat} {c x q : Str} {N ps : List Str} {st : Stmt} {fb : DM Fl}
theorem dfn_cx {f : Addr} {fd : FuncData} (F : Fun K x q st f fd) (S : FnScope N ps (defScope st))
    (hb : ∀ (m : Mi) (W : WX), m.A.guards = some [] → Room k m.A → Takes (cxm P w K mg base N (defScope st) m) W → PassesOwn (model P w) m.A (m.env (defScope st)) m.xe → DSs (cxm P w K mg base N (defScope st) m) W (defBody st) fb) :
    DFn P w K mg base (k + 1) f fd ps (mOf N.length fb) := dfn_of F S fun X W e1 e2 e3 e4 e5 e6 e7 e8 e9 e10 e11 g r t p => by
  obtain ⟨prog, w', K', mg', base', A, N', s0, H0, env, out, stk, ex, fn, calm, pn, xe⟩ := X
  obtain ⟨sc, l, gl, cl, qu, fu, cd, fr, bu⟩ := env
  simp only at e1 e2 e3 e4 e5 e6 e7 e8 e9 e10 e11
  subst e1 e2 e3 e4 e5 e6 e7 e8 e9 e10 e11
  exact hb ⟨A, s0, H0, l, gl, cl, qu, fu, cd, bu, out, ex, pn, xe⟩ W g r t p
theorem calM_of (D : DefM K mg c x q st) (S : FnScope N ps (defScope st)) (hbd : ∀ {f : Addr} {fd : FuncData}, Fun K x q st f fd → Binds K fd ps [])
    (hb : ∀ (m : Mi) (W : WX), m.A.guards = some [] → Room k m.A → Takes (cxm P w K mg base N (defScope st) m) W → PassesOwn (model P w) m.A (m.env (defScope st)) m.xe → DSs (cxm P w K mg base N (defScope st) m) W (defBody st) fb) :
    CalM P w K mg base (k + 1) c x q st ps (mOf N.length fb) := by
  obtain ⟨C, f, fd, h1, h2, F, h3⟩ := D
  exact ⟨C, f, fd, h1, h2, F, h3, hbd F, dfn_cx F S hb⟩
/-- a getter -/
structure CalP (P : Program) (w : World) (K : PySem.W.Frag) (mg : Str → Option Value) (base : Heap) (k : Nat) (c mn q : Str) (st : Stmt) (ps : List Str) (m : Mir) : Prop where
  ex : ∃ (C pr f : Addr) (fd : FuncData), mg c = some (.ref C) ∧ PropOf K C mn pr f ∧ Fun K mn q st f fd ∧ Binds K fd ps [] ∧ DFn P w K mg base k f fd ps m
theorem calP_of (D : DefP K mg c x q st) (S : FnScope N ps (defScope st)) (hbd : ∀ {f : Addr} {fd : FuncData}, Fun K x q st f fd → Binds K fd ps [])
    (hb : ∀ (m : Mi) (W : WX), m.A.guards = some [] → Room k m.A → Takes (cxm P w K mg base N (defScope st) m) W → PassesOwn (model P w) m.A (m.env (defScope st)) m.xe → DSs (cxm P w K mg base N (defScope st) m) W (defBody st) fb) :
    CalP P w K mg base (k + 1) c x q st ps (mOf N.length fb) := by
  obtain ⟨C, pr, f, fd, h1, h2, F⟩ := D
  exact ⟨C, pr, f, fd, h1, h2, F, hbd F, dfn_cx F S hb⟩
theorem ptab_nil {mn : Str} : PTab P w K mg base mn k [] := fun _ _ h => by cases h
theorem ptab_cons {mn : Str} {j : Nat} {m : Mir} {tab : List (Str × Mir)} (hc : ClsAt K mg c) (C : CalP P w K mg base j c mn q st ps m) (hj : j ≤ k) (hn : ps.length = 1) (r : PTab P w K mg base mn k tab) : PTab P w K mg base mn k ((c, m) :: tab) := by
  intro c2 m2 h
  rw [List.lookup_cons] at h
  cases e : c2 == c with
  | true =>
    rw [e] at h
    cases h
    obtain rfl := beq_iff_eq.mp e
    obtain ⟨C, pr, f, fd, h1, h2, F, hb, D⟩ := C.ex
    exact ⟨hc, C, pr, f, fd, ps, j, hj, hn, h1, h2, hb, D⟩
  | false =>
    rw [e] at h
    exact r c2 m2 h
end
section
variable {K : PySem.W.Frag} {mg : Str → Option Value} {c f : Str} {C I : Addr}
theorem mkAt_of (M : Mk K C I) (g : mg c = some (.ref C)) : MkAt K mg c := ⟨C, g, M.makes, M.kp⟩
theorem at_of (g : mg c = some (.ref C)) (h : Cls K C) (n : NoAttr K C f) : ∀ x ∈ ([c] : List Str), ClsAt K mg x ∧ NoAt K mg x f := fun x hx => by
  rw [List.mem_singleton.mp hx]
  exact ⟨⟨C, g, h⟩, C, g, n⟩
end
end DL

/-! Plain laws, part 0: computing denotations at known slots. -/
namespace DL
open PySem PySem.Spec PyProof.Rows L2
section
variable {α β : Type} {P : α → Led → Prop} {E : Exn → Slo → Led → Prop} {L : Led}
theorem wp_ok {a : α} : (Res.ok a L).wp P E = P a L := rfl
theorem wp_bindE {r : Res β} {k : β → Led → Res α} : (r.bind k).wp P E = r.wp (fun a L => (k a L).wp P E) E := by cases r <;> rfl
end
theorem mOf_eq {n : Nat} {fb : DM Fl} {ss : List Sv} {L : Led} : mOf n fb ss L = endOf (fb (start' n ss) L) := rfl
section
variable {x : Option Sv} {l : Slo} {L : Led} {f fa fb fc fe fo : DM Sv} {fr fk : DM (List Sv)} {t u : DM Bool} {g h : DM Fl} {i j n k : Nat} {s a b : Sv} {d : Dv}
@[simp] theorem ev_var : dVar i (x :: l) L = match (x :: l)[i]? with
  | some (some s) => .ok s.read L
  | _ => .bad := by exact rfl
@[simp] theorem read_val : (Sv.val d).read = .val d := by exact rfl
@[simp] theorem read_bor {xs : List Dv} : (Sv.bor xs).read = .bor xs := by exact rfl
@[simp] theorem read_mu {xs : List Dv} : (Sv.mu xs).read = .bor xs := by exact rfl
@[simp] theorem ev_c : dC d (x :: l) L = .ok (.val d) L := by exact rfl
@[simp] theorem ev_op {o : Sv → Sv → Led → Option Sv} : dOp o fa fb (x :: l) L = (fa (x :: l) L).bind fun y L1 => (fb (x :: l) L1).bind fun z L2 => give (o y z L2) L2 := by exact rfl
@[simp] theorem ev_un {o : Sv → Led → Option Sv} : dUn o fa (x :: l) L = (fa (x :: l) L).bind fun y L1 => give (o y L1) L1 := by exact rfl
@[simp] theorem ev_bi {o : List Sv → Led → Option Sv} : dBi o fr (x :: l) L = (fr (x :: l) L).bind fun ss L1 => give (o ss L1) L1 := by exact rfl
@[simp] theorem ev_args0 : dArgs0 (x :: l) L = .ok [] L := by exact rfl
@[simp] theorem ev_args : dArgs fa fr (x :: l) L = (fa (x :: l) L).bind fun y L1 => (fr (x :: l) L1).bind fun ys L2 => .ok (y :: ys) L2 := by exact rfl
@[simp] theorem ev_call {m : List Sv → Led → Res Dv} : dCall n m fr (x :: l) L = (fr (x :: l) L).bind fun ss L1 => if ss.length = n then toSv ((m ss L1).at_ (x :: l)) else .bad := by exact rfl
@[simp] theorem ev_callK {perm : List Nat} {m : List Sv → Led → Res Dv} : dCallK n k perm m fr fk (x :: l) L = (fr (x :: l) L).bind fun ss L1 => (fk (x :: l) L1).bind fun zs L2 => if ss.length = n ∧ zs.length = k then toSv ((m (pick perm (ss ++ zs)) L2).at_ (x :: l)) else .bad := by exact rfl
@[simp] theorem ev_lst : dLst fr (x :: l) L = (fr (x :: l) L).bind fun ss L1 => match vals ss with
  | some ds => if ds.length ≤ sizeLine then .ok (.val (.lst ds)) L1 else .bad
  | none => .bad := by exact rfl
@[simp] theorem ev_lstO : dLstO fr (x :: l) L = (fr (x :: l) L).bind fun ss L1 => match vals ss with
  | some ds => if ds.length ≤ sizeLine then .ok (.val (.own L1.length)) (L1 ++ [.lst ds]) else .bad
  | none => .bad := by exact rfl
@[simp] theorem ev_tup : dTup fr (x :: l) L = (fr (x :: l) L).bind fun ss L1 => match vals ss with
  | some ds => if ds.length ≤ sizeLine then .ok (.val (.tup ds)) L1 else .bad
  | none => .bad := by exact rfl
@[simp] theorem vals_nil : vals [] = some [] := by exact rfl
@[simp] theorem vals_cons {r : List Sv} : vals (.val d :: r) = (vals r).map (d :: ·) := by exact rfl
@[simp] theorem ev_if : dIf t fa fb (x :: l) L = (t (x :: l) L).bind fun q L1 => if q = true then fa (x :: l) L1 else fb (x :: l) L1 := by exact rfl
@[simp] theorem ev_andV : dAndV fa fb (x :: l) L = (fa (x :: l) L).bind fun s L1 => match s with
  | .val (.bl true) => fb (x :: l) L1
  | .val (.bl false) => .ok (.val (.bl false)) L1
  | _ => .bad := by exact rfl
@[simp] theorem ev_orV : dOrV fa fb (x :: l) L = (fa (x :: l) L).bind fun s L1 => match s with
  | .val (.bl true) => .ok (.val (.bl true)) L1
  | .val (.bl false) => fb (x :: l) L1
  | _ => .bad := by exact rfl
@[simp] theorem ev_notV : dNotV fa (x :: l) L = (fa (x :: l) L).bind fun s L1 => match s with
  | .val (.bl k) => .ok (.val (.bl (!k))) L1
  | _ => .bad := by exact rfl
@[simp] theorem ev_not : dNot t (x :: l) L = (t (x :: l) L).bind fun q L1 => .ok (!q) L1 := by exact rfl
@[simp] theorem ev_and : dAnd t u (x :: l) L = (t (x :: l) L).bind fun q L1 => if q = true then u (x :: l) L1 else .ok false L1 := by exact rfl
@[simp] theorem ev_or : dOr t u (x :: l) L = (t (x :: l) L).bind fun q L1 => if q = true then .ok true L1 else u (x :: l) L1 := by exact rfl
@[simp] theorem ev_B : dB f (x :: l) L = (f (x :: l) L).bind fun s L1 => match s with
  | .val (.bl k) => .ok k L1
  | _ => .bad := by exact rfl
@[simp] theorem ev_chain {o o' : Sv → Sv → Led → Option Sv} : dChain o o' fa fb fc (x :: l) L = (fa (x :: l) L).bind fun p L1 => (fb (x :: l) L1).bind fun q L2 => match o p q L2 with
  | some (.val (.bl true)) => (fc (x :: l) L2).bind fun z L3 => give (o' q z L3) L3
  | some (.val (.bl false)) => .ok (.val (.bl false)) L2
  | _ => .bad := by exact rfl
@[simp] theorem ev_pt0 : dPt0 (x :: l) L = .ok none L := by exact rfl
@[simp] theorem ev_pt1 : dPt1 fe (x :: l) L = (fe (x :: l) L).bind fun s L1 => match s with
  | .val (.int i) => .ok (some i) L1
  | _ => .bad := by exact rfl
@[simp] theorem ev_sl {fl fh : DM (Option Int)} : dSl fe fl fh (x :: l) L = (fe (x :: l) L).bind fun a L1 => (fl (x :: l) L1).bind fun lo L2 => (fh (x :: l) L2).bind fun hi L3 => give (gSl a lo hi L3) L3 := by exact rfl
@[simp] theorem ev_m1 {o : Str → List Sv → Led → Option Sv} : dM1 o fo fe (x :: l) L = (fo (x :: l) L).bind fun a L1 => match a with
  | .val (.str z) => (fe (x :: l) L1).bind fun y L2 => give (o z [y] L2) L2
  | _ => .bad := by exact rfl
@[simp] theorem ev_seq : sSeq g h (x :: l) L = (g (x :: l) L).bind fun fl L1 => match fl with
  | .nx r => h r L1
  | o => .ok o L1 := by exact rfl
@[simp] theorem ev_nil : sNil (x :: l) L = .ok (.nx (x :: l)) L := by exact rfl
@[simp] theorem ev_ret : sRet f (x :: l) L = (f (x :: l) L).bind fun s L1 => match s with
  | .val d => .ok (.rt d) L1
  | _ => .bad := by exact rfl
@[simp] theorem ev_retN : sRetN (x :: l) L = .ok (.rt .non) L := by exact rfl
@[simp] theorem ev_drop : sDrop f (x :: l) L = (f (x :: l) L).bind fun _ L1 => .ok (.nx (x :: l)) L1 := by exact rfl
@[simp] theorem ev_set : sSet i f (x :: l) L = (f (x :: l) L).bind fun s L1 => match s with
  | .val d => .ok (.nx ((x :: l).set i (some (.val d)))) L1
  | _ => .bad := by exact rfl
@[simp] theorem ev_setL : sSetL i fr (x :: l) L = (fr (x :: l) L).bind fun ss L1 => match vals ss with
  | some ds => if ds.length ≤ sizeLine then .ok (.nx ((x :: l).set i (some (.mu ds)))) L1 else .bad
  | none => .bad := by exact rfl
@[simp] theorem ev_sif : sIf t g h (x :: l) L = (t (x :: l) L).bind fun q L1 => if q = true then g (x :: l) L1 else h (x :: l) L1 := by exact rfl
@[simp] theorem ev_app : sApp i fe (x :: l) L = match (x :: l)[i]? with
  | some (some (.mu xs)) => (fe (x :: l) L).bind fun s L1 => match s with
    | .val d => if xs.length < sizeLine then .ok (.nx ((x :: l).set i (some (.mu (xs ++ [d]))))) L1 else .bad
    | _ => .bad
  | _ => .bad := by exact rfl
@[simp] theorem ev_frz : gFrz i g (x :: l) L = match (x :: l)[i]? with
  | some (some (.mu xs)) => g ((x :: l).set i (some (.val (.lst xs)))) L
  | some (some (.muD ks)) => g ((x :: l).set i (some (.val (.dic ks)))) L
  | _ => .bad := by exact rfl
@[simp] theorem ev_asg {gt : Sv → DM Slo} : sAsg fe gt (x :: l) L = (fe (x :: l) L).bind fun s L1 => (gt s (x :: l) L1).bind fun r L2 => .ok (.nx r) L2 := by exact rfl
@[simp] theorem ev_gN : gN i (.val d) (x :: l) L = .ok ((x :: l).set i (some (.val d))) L := by exact rfl
@[simp] theorem ev_gTp {is : List Nat} {ds : List Dv} : gTp is (.val (.tup ds)) (x :: l) L = give (gNs is ds (x :: l)) L := by exact rfl
@[simp] theorem ev_gSt : gSt fo fe s (x :: l) L = noErr ((fo (x :: l) L).bind fun o L1 => (fe (x :: l) L1).bind fun i L2 => match setLed o i s L2 with
  | some L3 => .ok (x :: l) L3
  | none => .bad) := by exact rfl
@[simp] theorem ev_gs0 : gs0 [] (x :: l) L = .ok (x :: l) L := by exact rfl
@[simp] theorem ev_gsC {gt : Sv → DM Slo} {gs : List Dv → DM Slo} {ds : List Dv} : gsC gt gs (d :: ds) (x :: l) L = (gt (.val d) (x :: l) L).bind fun r L1 => gs ds r L1 := by exact rfl
@[simp] theorem ev_gTup {gs : List Dv → DM Slo} {ds : List Dv} : gTup' n gs (.val (.tup ds)) (x :: l) L = if ds.length = n then noErr (gs ds (x :: l) L) else .bad := by exact rfl
@[simp] theorem ev_par {is : List Pit} : sPar i j is (x :: l) L = (dPm is (x :: l) L).bind fun ss L1 => match ss with
  | [s, t] => .ok (.nx (((x :: l).set i (some s)).set j (some t))) L1
  | _ => .bad := by exact rfl
@[simp] theorem ev_parT {ns : List Nat} {is : List Pit} : sParT ns is (x :: l) L = (dPm is (x :: l) L).bind fun ss L1 => match setAll ns ss (x :: l) with
  | some r => .ok (.nx r) L1
  | none => .bad := by exact rfl
@[simp] theorem ev_pm0 : dPm [] (x :: l) L = .ok [] L := by exact rfl
@[simp] theorem ev_pmE {r : List Pit} : dPm (.e f :: r) (x :: l) L = (f (x :: l) L).bind fun s L1 => match s with
  | .val d => (dPm r (x :: l) L1).bind fun ss L2 => .ok (.val d :: ss) L2
  | _ => .bad := by exact rfl
@[simp] theorem ev_pmL {r : List Pit} : dPm (.l fr :: r) (x :: l) L = (fr (x :: l) L).bind fun zs L1 => match vals zs with
  | some ds => if ds.length ≤ sizeLine then (dPm r (x :: l) L1).bind fun ss L2 => .ok (.mu ds :: ss) L2 else .bad
  | none => .bad := by exact rfl
@[simp] theorem setAll_nil {ρ : Slo} : setAll [] [] ρ = some ρ := by exact rfl
@[simp] theorem setAll_cons {ns : List Nat} {ss : List Sv} {ρ : Slo} : setAll (i :: ns) (s :: ss) ρ = setAll ns ss (ρ.set i (some s)) := by exact rfl
@[simp] theorem gNs_nil {ρ : Slo} : gNs [] [] ρ = some ρ := by exact rfl
@[simp] theorem gNs_cons {ns : List Nat} {ds : List Dv} {ρ : Slo} : gNs (i :: ns) (d :: ds) ρ = gNs ns ds (ρ.set i (some (.val d))) := by exact rfl
@[simp] theorem ev_iV : iV fe (x :: l) L = (fe (x :: l) L).bind fun s L1 => give s.src L1 := by exact rfl
@[simp] theorem ev_iEn : iEn fe (x :: l) L = (fe (x :: l) L).bind fun s L1 => give (s.src.map fun z => ⟨enumF 0 z.items, z.solid⟩) L1 := by exact rfl
@[simp] theorem ev_iZp : iZp fa fb (x :: l) L = (fa (x :: l) L).bind fun p L1 => (fb (x :: l) L1).bind fun q L2 => give (match p.src, q.src with | some p, some q => some ⟨zipF p.items q.items, p.solid && q.solid⟩ | _, _ => none) L2 := by exact rfl
@[simp] theorem ev_iR1 : iR1 fa (x :: l) L = (fa (x :: l) L).bind fun s L1 => match s with
  | .val (.int j) => if rgOk 0 j then .ok ⟨upF 0 j.toNat, true⟩ L1 else .bad
  | _ => .bad := by exact rfl
@[simp] theorem ev_for {fi : DM Src} {T : Tg} : sFor fi T g (x :: l) L = (fi (x :: l) L).bind fun s L1 => if s.solid then fLoop T g s.items (x :: l) L1 else .bad := by exact rfl
@[simp] theorem ev_lc {fi : DM Src} {T : Tg} {vs : List Nat} : dLc fi T t fe vs (x :: l) L = (fi (x :: l) L).bind fun s L1 => (noErr (cLoop T t fe (wipeR (x :: l) vs) s.items [] L1)).bind fun acc L2 => .ok (.val (.lst acc)) L2 := by exact rfl
@[simp] theorem ev_raise {c : Str} {fds : List Str} : sRaise c fds fr (x :: l) L = (fr (x :: l) L).bind fun ss L1 => match vals ss with
  | some ds => if ds.length = fds.length then .err ⟨c, (fds.zip ds).reverse⟩ (x :: l) L1 else .bad
  | none => .bad := by exact rfl
@[simp] theorem ev_ty {n : String} : (fun (_ : Slo) L => Res.ok (Sv.val (.ty n)) L) (x :: l) L = .ok (.val (.ty n)) L := by exact rfl
@[simp] theorem wipe_nil {ρ : Slo} : wipeR ρ [] = ρ := by exact rfl
@[simp] theorem wipe_cons {ρ : Slo} {v : Nat} {vs : List Nat} : wipeR ρ (v :: vs) = (wipeR ρ vs).set v none := by exact rfl
/-! operators -/
@[simp] theorem add_ii {i j : Int} : gAdd (.val (.int i)) (.val (.int j)) L = some (.val (.int (i + j))) := by exact rfl
@[simp] theorem sub_ii {i j : Int} : gSub (.val (.int i)) (.val (.int j)) L = some (.val (.int (i - j))) := by exact rfl
@[simp] theorem mod_ii {i j : Int} : gMod (.val (.int i)) (.val (.int j)) L = if 0 < j then some (.val (.int (i % j))) else none := by exact rfl
@[simp] theorem fdiv_ii {i j : Int} : gFdiv (.val (.int i)) (.val (.int j)) L = if CDiv i j then some (.val (.int (i / j))) else none := by exact rfl
@[simp] theorem pow_ii {i j : Int} : gPow (.val (.int i)) (.val (.int j)) L = if CPow i j then some (.val (.int (i ^ j.toNat))) else none := by exact rfl
@[simp] theorem mul_ii {i j : Int} : gMul (.val (.int i)) (.val (.int j)) L = if small64 i ∨ small64 j then some (.val (.int (i * j))) else none := by exact rfl
@[simp] theorem neg_i {i : Int} : gNeg (.val (.int i)) L = some (.val (.int (-i))) := by exact rfl
@[simp] theorem cmp_ii {c : Int → Int → Bool} {i j : Int} : gCmp c (.val (.int i)) (.val (.int j)) L = some (.val (.bl (c i j))) := by exact rfl
@[simp] theorem add_ll {p q : List Dv} : gAdd (.val (.lst p)) (.val (.lst q)) L = if p.length + q.length ≤ sizeLine then some (.val (.lst (p ++ q))) else none := by exact rfl
@[simp] theorem add_ss {p q : Str} : gAdd (.val (.str p)) (.val (.str q)) L = if p.length + q.length ≤ sizeLine then some (.val (.str (p ++ q))) else none := by exact rfl
@[simp] theorem divmod_ii {i j : Int} : gDivmod [.val (.int i), .val (.int j)] L = if CDivP i j then some (.val (.tup [.int (i / j), .int (i % j)])) else none := by exact rfl
@[simp] theorem abs_i {i : Int} : gAbs [.val (.int i)] L = some (.val (.int (if i < 0 then -i else i))) := by exact rfl
@[simp] theorem max_ii {i j : Int} : gMax [.val (.int i), .val (.int j)] L = some (.val (.int (if j > i then j else i))) := by exact rfl
@[simp] theorem min_ii {i j : Int} : gMin [.val (.int i), .val (.int j)] L = some (.val (.int (if j < i then j else i))) := by exact rfl
@[simp] theorem noErr_bind {α β : Type} {r : Res α} {f : α → Led → Res β} : noErr (r.bind f) = (noErr r).bind fun a L => noErr (f a L) := by cases r <;> rfl
@[simp] theorem noErr_bad {α : Type} : noErr (.bad : Res α) = .bad := by exact rfl
@[simp] theorem noErr_give {α : Type} {o : Option α} : noErr (give o L) = give o L := by cases o <;> rfl
end
section
variable {x : Option Sv} {l : Slo} {L : Led} {fs : List (DM Sv × DM Sv)} {fk fv : DM Sv}
@[simp] theorem ev_dic : dDic fs (x :: l) L = (dPairs fs (x :: l) L).bind fun prs L1 => match keyd prs with
  | some ks => if ks.length ≤ 15 then .ok (.val (.dic (mergeD [] ks))) L1 else .bad
  | none => .bad := by exact rfl
@[simp] theorem ev_pairs0 : dPairs [] (x :: l) L = .ok [] L := by exact rfl
@[simp] theorem ev_pairs1 : dPairs ((fk, fv) :: fs) (x :: l) L = (fk (x :: l) L).bind fun y L1 => (fv (x :: l) L1).bind fun z L2 => (dPairs fs (x :: l) L2).bind fun ps L3 => .ok ((y, z) :: ps) L3 := by exact rfl
@[simp] theorem eq_ii {i j : Int} : gEq (.val (.int i)) (.val (.int j)) L = some (.val (.bl (i == j))) := by exact rfl
@[simp] theorem len_l {xs : List Dv} : gLen [.val (.lst xs)] L = some (.val (.int xs.length)) := by exact rfl
@[simp] theorem len_b {xs : List Dv} : gLen [.bor xs] L = some (.val (.int xs.length)) := by exact rfl
@[simp] theorem len_t {xs : List Dv} : gLen [.val (.tup xs)] L = some (.val (.int xs.length)) := by exact rfl
@[simp] theorem len_s {z : Str} : gLen [.val (.str z)] L = some (.val (.int z.length)) := by exact rfl
/-- a place of a list, of a text -/
theorem ix_l {xs : List Dv} {r : Int} (h0 : 0 ≤ r) (h1 : r < xs.length) : ∃ d, d ∈ xs ∧ xs[r.toNat]? = some d ∧ ∀ L, gIx (.val (.lst xs)) (.val (.int r)) L = some (.val d) ∧ gIx (.bor xs) (.val (.int r)) L = some (.val d) := by
  have hl : r.toNat < xs.length := by omega
  refine ⟨xs[r.toNat], List.getElem_mem hl, by simp [hl], fun L => ?_⟩
  constructor <;> simp [gIx, Sv.seqL, L2.atI, ixN, h0, h1, hl]
theorem ix_s {z : Str} {r : Int} (h0 : 0 ≤ r) (h1 : r < z.length) : ∃ c, c ∈ z.cps.toList ∧ ∀ L, gIx (.val (.str z)) (.val (.int r)) L = some (.val (.str ⟨#[c]⟩)) := by
  have hz : z.length = z.cps.size := rfl
  have hl : r.toNat < z.cps.size := by omega
  refine ⟨z.cps[r.toNat], by simp, fun L => ?_⟩
  have h2 : r < (z.cps.size : Int) := by omega
  simp [gIx, Sv.seqL, Sv.seqT, L2.atI, ixN, h0, h2, hl]
end
/-! ### pots -/
/-- at p stands a pot -/
def PotAt (L : Led) (p : Nat) : Prop := ∃ a b : Int, L[p]? = some (.lst [.int a, .int b]) ∧ 0 ≤ a ∧ 0 ≤ b ∧ b < 2 ^ 31
theorem PotAt.set {L : Led} {p : Nat} {a b : Int} (hp : p < L.length) (ha : 0 ≤ a) (hb : 0 ≤ b) (hb2 : b < 2 ^ 31) : PotAt (L.set p (.lst [.int a, .int b])) p :=
  ⟨a, b, by rw [List.getElem?_set_self hp], ha, hb, hb2⟩
section
variable {L : Led} {p : Nat} {a b v : Int}
theorem pot_get0 (e : L[p]? = some (.lst [.int a, .int b])) : gIx (.val (.own p)) (.val (.int 0)) L = some (.val (.int a)) := by
  simp [gIx, Sv.seqL, e, L2.atI, ixN]
theorem pot_get1 (e : L[p]? = some (.lst [.int a, .int b])) : gIx (.val (.own p)) (.val (.int 1)) L = some (.val (.int b)) := by
  simp [gIx, Sv.seqL, e, L2.atI, ixN]
theorem pot_set0 (e : L[p]? = some (.lst [.int a, .int b])) : setLed (.val (.own p)) (.val (.int 0)) (.val (.int v)) L = some (L.set p (.lst [.int v, .int b])) := by
  simp [setLed, e, ixN]
theorem pot_set1 (e : L[p]? = some (.lst [.int a, .int b])) : setLed (.val (.own p)) (.val (.int 1)) (.val (.int v)) L = some (L.set p (.lst [.int a, .int v])) := by
  simp [setLed, e, ixN]
theorem pot_get0s (h : p < L.length) : gIx (.val (.own p)) (.val (.int 0)) (L.set p (.lst [.int a, .int b])) = some (.val (.int a)) := pot_get0 (b := b) (by rw [List.getElem?_set_self h])
theorem pot_get1s (h : p < L.length) : gIx (.val (.own p)) (.val (.int 1)) (L.set p (.lst [.int a, .int b])) = some (.val (.int b)) := pot_get1 (a := a) (by rw [List.getElem?_set_self h])
theorem cdivp_of {a n : Int} (h0 : 0 < n) (h1 : n < 2 ^ 70) : CDivP a n := by
  refine ⟨h0, ?_⟩
  unfold Builtin.divisionGoesByPylong
  have hl : n.natAbs.log2 < 70 := by
    have h2 : n.natAbs < 2 ^ 70 := by omega
    by_cases hz : n.natAbs = 0
    · rw [hz]; decide
    · exact (Nat.log2_lt hz).mpr h2
  have h3 : ¬ ((if (n == 0) = true then 0 else n.natAbs.log2 / 30 + 1) > 300) := by
    split
    · omega
    · omega
  simp only [h3, decide_false, Bool.false_and]
end
end DL

/-! Plain laws, part 1: small data: its repr fits. -/
namespace DL
open PySem PySem.Spec PyProof.Rows L2
def chOk (x : Str) : Bool := x.cps.toList.all fun c => decide (c < 16 ^ 8)
def keyOk : Key → Bool
  | .inl i => decide (i.natAbs < 10 ^ 40)
  | .inr x => chOk x
mutual
def Dv.leaf : Dv → Bool
  | .non => true
  | .bl _ => true
  | .int i => decide (i.natAbs < 10 ^ 40)
  | .str x => chOk x
  | .lst xs => leafs xs
  | .tup xs => leafs xs
  | .dic ks => leafk ks
  | _ => false
def leafs : List Dv → Bool
  | [] => true
  | d :: ds => d.leaf && leafs ds
def leafk : List (Key × Dv) → Bool
  | [] => true
  | (k, d) :: ds => keyOk k && d.leaf && leafk ds
end
mutual
def Dv.blk : Dv → Nat
  | .str x => x.cps.size
  | .lst xs => blks xs
  | .tup xs => blks xs
  | .dic ks => blkk ks
  | _ => 0
def blks : List Dv → Nat
  | [] => 0
  | d :: ds => d.blk + 1 + blks ds
def blkk : List (Key × Dv) → Nat
  | [] => 0
  | (k, d) :: ds => (match k with
    | .inl _ => 0
    | .inr x => x.cps.size) + d.blk + 2 + blkk ds
end
mutual
def Dv.dep : Dv → Nat
  | .lst xs => deps xs + 1
  | .tup xs => deps xs + 1
  | .dic ks => depk ks + 1
  | _ => 0
def deps : List Dv → Nat
  | [] => 0
  | d :: ds => max d.dep (deps ds)
def depk : List (Key × Dv) → Nat
  | [] => 0
  | (_, d) :: ds => max d.dep (depk ds)
end
theorem int_short {i : Int} (h : i.natAbs < 10 ^ 40) : (toString i : String).length ≤ 41 := int_text_length_le10 (by decide) h
theorem int_show {i : Int} (h : i.natAbs < 10 ^ 40) : i.natAbs.log2 < 1920 := by
  by_cases hz : i.natAbs = 0
  · rw [hz]; decide
  · have h2 : i.natAbs.log2 < 140 := (Nat.log2_lt hz).mpr (Nat.lt_of_lt_of_le h (by decide))
    omega
/-- what is known of plain data -/
structure PyOk (d : Dv) (p : PyData) : Prop where
  short : p.leavesShort 64 = true
  show_ : p.showable = true
  bulk : p.bulk = d.blk
  depth : p.depth = d.dep
structure PysOk (ds : List Dv) (ps : List PyData) : Prop where
  short : PyData.leavesShortAll 64 ps = true
  show_ : PyData.showableAll ps = true
  bulk : PyData.bulkAll ps = blks ds
  depth : PyData.depthAll ps = deps ds
structure PykOk (ds : List (Key × Dv)) (ps : List (PyData × PyData)) : Prop where
  short : PyData.leavesShortKv 64 ps = true
  show_ : PyData.showableKv ps = true
  bulk : PyData.bulkKv ps = blkk ds
  depth : PyData.depthKv ps = depk ds
mutual
theorem leaf_py : ∀ d : Dv, d.leaf = true → ∃ p, d.py = some p ∧ PyOk d p
  | .non, _ => ⟨.none, rfl, rfl, rfl, rfl, rfl⟩
  | .bl b, _ => ⟨.bool b, rfl, by cases b <;> rfl, rfl, rfl, rfl⟩
  | .int i, h => by
    have h' : i.natAbs < 10 ^ 40 := by simpa [Dv.leaf] using h
    refine ⟨.int i, rfl, ?_, ?_, rfl, rfl⟩
    · have := int_short h'
      simp only [PyData.leavesShort, decide_eq_true_eq]
      show (Str.ofString (toString i)).length ≤ 64
      rw [PySem.ofString_length]
      omega
    · simp only [PyData.showable, decide_eq_true_eq]; exact int_show h'
  | .str x, h => ⟨.str x, rfl, by simpa [PyData.leavesShort, Dv.leaf, chOk] using h, rfl, rfl, rfl⟩
  | .lst xs, h => by
    obtain ⟨ps, e, r⟩ := leaf_pys xs (by simpa [Dv.leaf] using h)
    exact ⟨.list ps, by simp [Dv.py, e], by simpa [PyData.leavesShort] using r.short, by simpa [PyData.showable] using r.show_, by simpa [PyData.bulk, Dv.blk] using r.bulk, by simp [PyData.depth, Dv.dep, r.depth]⟩
  | .tup xs, h => by
    obtain ⟨ps, e, r⟩ := leaf_pys xs (by simpa [Dv.leaf] using h)
    exact ⟨.tuple ps, by simp [Dv.py, e], by simpa [PyData.leavesShort] using r.short, by simpa [PyData.showable] using r.show_, by simpa [PyData.bulk, Dv.blk] using r.bulk, by simp [PyData.depth, Dv.dep, r.depth]⟩
  | .dic ks, h => by
    obtain ⟨ps, e, r⟩ := leaf_pyk ks (by simpa [Dv.leaf] using h)
    exact ⟨.dict ps, by simp [Dv.py, e], by simpa [PyData.leavesShort] using r.short, by simpa [PyData.showable] using r.show_, by simpa [PyData.bulk, Dv.blk] using r.bulk, by simp [PyData.depth, Dv.dep, r.depth]⟩
  | .obj _ _, h => by simp [Dv.leaf] at h
  | .own _, h => by simp [Dv.leaf] at h
  | .scr _, h => by simp [Dv.leaf] at h
  | .opq, h => by simp [Dv.leaf] at h
  | .ty _, h => by simp [Dv.leaf] at h
  | .cls _, h => by simp [Dv.leaf] at h
theorem leaf_pys : ∀ ds : List Dv, leafs ds = true → ∃ ps, pys ds = some ps ∧ PysOk ds ps
  | [], _ => ⟨[], rfl, rfl, rfl, rfl, rfl⟩
  | d :: ds, h => by
    have h' : d.leaf = true ∧ leafs ds = true := by simpa [leafs] using h
    obtain ⟨p, e1, r1⟩ := leaf_py d h'.1
    obtain ⟨ps, e2, r2⟩ := leaf_pys ds h'.2
    exact ⟨p :: ps, by simp [pys, e1, e2], by simp [PyData.leavesShortAll, r1.short, r2.short], by simp [PyData.showableAll, r1.show_, r2.show_], by simp [PyData.bulkAll, blks, r1.bulk, r2.bulk], by simp [PyData.depthAll, deps, r1.depth, r2.depth]⟩
theorem leaf_pyk : ∀ ds : List (Key × Dv), leafk ds = true → ∃ ps, pyk ds = some ps ∧ PykOk ds ps
  | [], _ => ⟨[], rfl, rfl, rfl, rfl, rfl⟩
  | (k, d) :: ds, h => by
    have h' : (keyOk k = true ∧ d.leaf = true) ∧ leafk ds = true := by simpa [leafk] using h
    obtain ⟨p, e1, r1⟩ := leaf_py d h'.1.2
    obtain ⟨ps, e2, r2⟩ := leaf_pyk ds h'.2
    cases k with
    | inl i =>
      have hi : i.natAbs < 10 ^ 40 := by simpa [keyOk] using h'.1.1
      obtain ⟨q, eq, rq⟩ := leaf_py (.int i) (by simpa [Dv.leaf] using hi)
      cases eq
      exact ⟨(.int i, p) :: ps, by simp [pyk, e1, e2], by simp [PyData.leavesShortKv, rq.short, r1.short, r2.short], by simp [PyData.showableKv, rq.show_, r1.show_, r2.show_], by simp [PyData.bulkKv, blkk, rq.bulk, r1.bulk, r2.bulk, Dv.blk], by simp [PyData.depthKv, depk, rq.depth, r1.depth, r2.depth, Dv.dep]⟩
    | inr x =>
      have hi : chOk x = true := by simpa [keyOk] using h'.1.1
      obtain ⟨q, eq, rq⟩ := leaf_py (.str x) (by simpa [Dv.leaf] using hi)
      cases eq
      exact ⟨(.str x, p) :: ps, by simp [pyk, e1, e2], by simp [PyData.leavesShortKv, rq.short, r1.short, r2.short], by simp [PyData.showableKv, rq.show_, r1.show_, r2.show_], by simp [PyData.bulkKv, blkk, rq.bulk, r1.bulk, r2.bulk, Dv.blk], by simp [PyData.depthKv, depk, rq.depth, r1.depth, r2.depth, Dv.dep]⟩
end
/-- small data -/
structure OkB (n k : Nat) (d : Dv) : Prop where
  leaf : d.leaf = true
  blk : d.blk ≤ n
  dep : d.dep ≤ k
theorem OkB.mono {n k n' k' : Nat} {d : Dv} (h : OkB n k d) (a : n ≤ n') (b : k ≤ k') : OkB n' k' d := ⟨h.leaf, Nat.le_trans h.blk a, Nat.le_trans h.dep b⟩
/-- its repr -/
theorem repr_val {n k : Nat} {d : Dv} (h : OkB n k d) (hn : n ≤ 200000) (hk : k ≤ 64) : ∃ z : Str, z.length ≤ sizeLine ∧ ∀ L, gRepr [.val d] L = some (.val (.str z)) := by
  obtain ⟨p, e, r⟩ := leaf_py d h.leaf
  have h1 := PyData.shown_le_bulk 64 (by decide) p r.short
  have h2 : p.shown.length ≤ sizeLine := by
    rw [sizeLine_eq]
    have := h.blk
    rw [r.bulk] at h1
    omega
  have ok : okR p = true := by
    simp only [okR, Bool.and_eq_true, decide_eq_true_eq]
    exact ⟨⟨r.show_, by rw [r.depth]; exact Nat.le_trans h.dep hk⟩, h2⟩
  exact ⟨p.shown, h2, fun L => by simp [gRepr, Sv.py, e, ok]⟩
theorem ok_lst {n k : Nat} {ds : List Dv} (h : ∀ d ∈ ds, OkB n k d) : OkB (ds.length * (n + 1)) (k + 1) (.lst ds) ∧ OkB (ds.length * (n + 1)) (k + 1) (.tup ds) := by
  have key : leafs ds = true ∧ blks ds ≤ ds.length * (n + 1) ∧ deps ds ≤ k := by
    induction ds with
    | nil => exact ⟨rfl, Nat.zero_le _, Nat.zero_le _⟩
    | cons d ds ih =>
      obtain ⟨a, b, c⟩ := ih fun e he => h e (List.mem_cons_of_mem _ he)
      have hd := h d List.mem_cons_self
      refine ⟨by simp [leafs, hd.leaf, a], ?_, ?_⟩
      · have := hd.blk
        simp only [blks, List.length_cons, Nat.add_mul, Nat.one_mul]
        omega
      · have := hd.dep
        simp only [deps]
        omega
  obtain ⟨a, b, c⟩ := key
  exact ⟨⟨by simpa [Dv.leaf] using a, by simpa [Dv.blk] using b, by simp only [Dv.dep]; omega⟩, ⟨by simpa [Dv.leaf] using a, by simpa [Dv.blk] using b, by simp only [Dv.dep]; omega⟩⟩
end DL

/-! Plain laws, part 2: loops, and lists of texts. -/
namespace DL
open PySem PySem.Spec PyProof.Rows L2
section
variable {T : Tg} {ft : DM Bool} {fe : DM Sv} {ρ : Slo}
/-- a comprehension that draws -/
theorem cl_each {Inv : Led → Prop} {Pd : Dv → Prop} : ∀ (ds : List Dv), (∀ d ∈ ds, ∀ L, Inv L → ∃ ρ1 r L1, T.set d ρ = some ρ1 ∧ ft ρ1 L = .ok true L ∧ fe ρ1 L = .ok (.val r) L1 ∧ Pd r ∧ Inv L1) → ∀ acc L, Inv L → acc.length + ds.length ≤ sizeLine → ∃ rs L', cLoop T ft fe ρ ds acc L = .ok (acc ++ rs) L' ∧ rs.length = ds.length ∧ (∀ r ∈ rs, Pd r) ∧ Inv L'
  | [], _, acc, L, I, _ => ⟨[], L, by simp [cLoop], rfl, by simp, I⟩
  | d :: ds, h, acc, L, I, hl => by
    obtain ⟨ρ1, r, L1, e1, e2, e3, p, I1⟩ := h d (by simp) L I
    have hl' : acc.length + (ds.length + 1) ≤ sizeLine := hl
    obtain ⟨rs, L', e, n, q, J⟩ := cl_each ds (fun x hx => h x (by simp [hx])) (acc ++ [r]) L1 I1 (by simp; omega)
    refine ⟨r :: rs, L', ?_, by simp [n], by simpa using ⟨p, q⟩, J⟩
    have hlt : acc.length < sizeLine := by omega
    simp only [cLoop, e1, e2, Res.bind, e3, if_true, hlt, e, List.append_assoc, List.singleton_append]
/-- a comprehension that only reads -/
theorem cl_fn {α : Type} {L : Led} (f g : α → Dv) (q : α → Bool) : ∀ (as : List α), (∀ a ∈ as, ∃ ρ1, T.set (f a) ρ = some ρ1 ∧ ft ρ1 L = .ok (q a) L ∧ (q a = true → fe ρ1 L = .ok (.val (g a)) L)) → ∀ acc, acc.length + as.length ≤ sizeLine → cLoop T ft fe ρ (as.map f) acc L = .ok (acc ++ (as.filter q).map g) L
  | [], _, acc, _ => by simp [cLoop]
  | a :: as, h, acc, hl => by
    obtain ⟨ρ1, e1, e2, e3⟩ := h a (by simp)
    have hl' : acc.length + (as.length + 1) ≤ sizeLine := hl
    have hlt : acc.length < sizeLine := by omega
    cases hq : q a with
    | true =>
      have e := cl_fn f g q as (fun x hx => h x (by simp [hx])) (acc ++ [g a]) (by simp; omega)
      simp only [List.map_cons, cLoop, e1, e2, Res.bind, e3 hq, hq, if_true, hlt, e, List.append_assoc, List.singleton_append, List.filter_cons]
    | false =>
      have e := cl_fn f g q as (fun x hx => h x (by simp [hx])) acc (by omega)
      simp only [List.map_cons, cLoop, e1, e2, Res.bind, hq, e, List.filter_cons]
      simp
end
section
variable {T : Tg} {fb : DM Fl}
/-- a for loop that runs to its end -/
theorem fl_inv {Inv : Nat → Slo → Led → Prop} : ∀ (ds : List Dv) (k : Nat), (∀ i d, ds[i]? = some d → ∀ ρ L, Inv (k + i) ρ L → ∃ ρ1 ρ2 L2, T.set d ρ = some ρ1 ∧ fb ρ1 L = .ok (.nx ρ2) L2 ∧ Inv (k + i + 1) ρ2 L2) → ∀ ρ L, Inv k ρ L → ∃ ρ' L', fLoop T fb ds ρ L = .ok (.nx ρ') L' ∧ Inv (k + ds.length) ρ' L'
  | [], k, _, ρ, L, I => ⟨ρ, L, rfl, I⟩
  | d :: ds, k, h, ρ, L, I => by
    obtain ⟨ρ1, ρ2, L2, e1, e2, J⟩ := h 0 d rfl ρ L I
    obtain ⟨ρ', L', e, K⟩ := fl_inv ds (k + 1) (fun i x hx ρ L I => by
      have := h (i + 1) x (by simpa using hx) ρ L (by rw [show k + (i + 1) = k + 1 + i by omega]; exact I)
      rw [show k + (i + 1) + 1 = k + 1 + i + 1 by omega] at this
      exact this) ρ2 L2 J
    refine ⟨ρ', L', ?_, by rw [show k + (d :: ds).length = k + 1 + ds.length by simp; omega]; exact K⟩
    simp only [fLoop, e1, e2, Res.bind, e]
end
/-! lists of texts -/
theorem pys_strs : ∀ ys : List Str, pys (ys.map Dv.str) = some (ys.map PyData.str)
  | [] => rfl
  | y :: ys => by simp [pys, Dv.py, pys_strs ys]
theorem plain_strs : ∀ ys : List Str, PyData.plainAll (ys.map PyData.str) = true
  | [] => rfl
  | y :: ys => by simp [PyData.plainAll, PyData.plain, plain_strs ys]
theorem in_strs {neg : Bool} {z : Str} {ys : List Str} {L : Led} : gIn neg (.val (.str z)) (.val (.lst (ys.map Dv.str))) L = some (.val (.bl (if neg then !ys.contains z else ys.contains z))) := by
  have h1 : okIn (.str z) (ys.map PyData.str) = true := by
    simp [okIn, plain_strs, PyData.plain, PyData.depth]
  have h2 : ((ys.map PyData.str).any fun w => PyData.eqv w (.str z)) = ys.contains z := by
    rw [List.any_map, List.contains_eq_any_beq]
    congr 1
    funext w
    simp [PyData.eqv]
    exact BEq.comm
  simp [gIn, gInB, Sv.key, Sv.prs, Sv.py, Dv.py, pys_strs, h1, h2]
theorem map_of {α : Type} {f : α → Dv} {P : α → Prop} : ∀ {rs : List Dv}, (∀ r ∈ rs, ∃ a, r = f a ∧ P a) → ∃ as : List α, rs = as.map f ∧ ∀ a ∈ as, P a
  | [], _ => ⟨[], rfl, by simp⟩
  | r :: rs, h => by
    obtain ⟨a, e, p⟩ := h r (by simp)
    obtain ⟨as, e2, q⟩ := map_of (rs := rs) fun x hx => h x (by simp [hx])
    exact ⟨a :: as, by rw [e, e2]; rfl, by simpa using ⟨p, q⟩⟩
theorem join_cps' : ∀ cs : List Nat, (PySem.Str.join (Str.ofString "") (cs.map fun c => (⟨#[c]⟩ : Str))).cps.toList = cs
  | [] => rfl
  | [c] => rfl
  | c :: d :: cs => by
    have e := join_cps' (d :: cs)
    have e0 : (Str.ofString "").cps = #[] := by decide +kernel
    show ((#[c] ++ (Str.ofString "").cps) ++ (PySem.Str.join (Str.ofString "") ((d :: cs).map fun c => (⟨#[c]⟩ : Str))).cps).toList = _
    rw [e0]
    simp only [Array.toList_append, e]
    rfl
theorem join_cps (cs : List Nat) : (Txt.join (Str.ofString "") (cs.map fun c => (⟨#[c]⟩ : Str))).cps.toList = cs := by
  show (Builtin.Str.glued (Str.ofString "") _).cps.toList = _
  rw [StrLaws.glued_eq_join]
  exact join_cps' cs
theorem ones_sum : ∀ cs : List Nat, ((cs.map fun c => (⟨#[c]⟩ : Str)).map (·.length)).sum = cs.length
  | [] => rfl
  | c :: cs => by
    have e := ones_sum cs
    simp only [List.map_cons, List.sum_cons, e, List.length_cons]
    show 1 + cs.length = _
    omega
end DL

/-! Plain laws, part 3: computing the newer denotations; sequences and dicts of any kind. -/
namespace DL
open PySem PySem.Spec PyProof.Rows L2
section
variable {x : Option Sv} {l : Slo} {L : Led} {f fa fb fc fe fo fs fk fv : DM Sv} {fr : DM (List Sv)} {t ft : DM Bool} {g h : DM Fl} {i j n k : Nat} {s a b : Sv} {d : Dv} {T T1 : Tg} {vs vs1 : List Nat} {ow en : Bool} {mn c : Str}
@[simp] theorem ev_biL {o : List Sv → Led → Option (List Dv)} : dBiL ow o fr (x :: l) L = (fr (x :: l) L).bind fun ss L1 => match o ss L1 with
  | some ds => newL ow ds L1
  | none => .bad := by exact rfl
@[simp] theorem newL_f {ds : List Dv} : newL false ds L = .ok (.val (.lst ds)) L := by exact rfl
@[simp] theorem newL_t {ds : List Dv} : newL true ds L = .ok (.val (.own L.length)) (L ++ [.lst ds]) := by exact rfl
@[simp] theorem ev_biK {o : List Sv → Led → Option (List (Key × Dv))} : dBiK ow o fr (x :: l) L = (fr (x :: l) L).bind fun ss L1 => match o ss L1 with
  | some ks => newK ow ks L1
  | none => .bad := by exact rfl
@[simp] theorem newK_f {ks : List (Key × Dv)} : newK false ks L = .ok (.val (.dic ks)) L := by exact rfl
@[simp] theorem newK_t {ks : List (Key × Dv)} : newK true ks L = .ok (.val (.own L.length)) (L ++ [.dic ks]) := by exact rfl
@[simp] theorem ev_lm {o : LM} : dLm o fo fr (x :: l) L = (fo (x :: l) L).bind fun y L1 => match y with
  | .val (.own k) => match L1[k]? with
    | some (.lst _) => (fr (x :: l) L1).bind fun ss L2 => match L2[k]? with
      | some (.lst xs) => match o xs ss with
        | some (d, ys) => .ok (.val d) (L2.set k (.lst ys))
        | none => .bad
      | _ => .bad
    | _ => .bad
  | _ => .bad := by exact rfl
@[simp] theorem ev_dclear : dDclear fo (x :: l) L = (fo (x :: l) L).bind fun y L1 => match y with
  | .val (.own k) => match L1[k]? with
    | some (.dic _) => .ok (.val .non) (L1.set k (.dic []))
    | _ => .bad
  | _ => .bad := by exact rfl
@[simp] theorem ev_stf {z : Str} {tab : List Str} : sStF z tab fo fe (x :: l) L = (fe (x :: l) L).bind fun s L1 => match s with
  | .val d => (fo (x :: l) L1).bind fun o L2 => match stF z tab o d L2 with
    | some L3 => .ok (.nx (x :: l)) L3
    | none => .bad
  | _ => .bad := by exact rfl
@[simp] theorem ev_make {m : Mir} : dMake c n m fr (x :: l) L = (fr (x :: l) L).bind fun ss L1 => if ss.length = n then made c L1.length (x :: l) (m (.val (.own L1.length) :: ss) (L1 ++ [.obj c []])) else .bad := by exact rfl
@[simp] theorem ev_meth {tab : List (Str × Mir)} : dMeth mn n tab fo fr (x :: l) L = (fo (x :: l) L).bind fun o L1 => match mSel mn tab o L1 with
  | some m => (fr (x :: l) L1).bind fun ss L2 => if ss.length = n then toSv ((m (o :: ss) L2).at_ (x :: l)) else .bad
  | none => .bad := by exact rfl
@[simp] theorem ev_prop {tab : List (Str × Mir)} : dProp mn tab fo (x :: l) L = (fo (x :: l) L).bind fun o L1 => match o.ob L1 with
  | some (c, _) => match tab.lookup c with
    | some m => toSv (noErr (m [o] L1))
    | none => .bad
  | none => .bad := by exact rfl
@[simp] theorem ev_biO {tab : List (Str × Mir)} {chk : Dv → Bool} {o : List Sv → Led → Option Sv} : dBiO mn tab chk o fr (x :: l) L = (fr (x :: l) L).bind fun ss L1 => match ss with
  | [y] => match y.ob L1 with
    | some _ => dOwn mn tab chk y L1
    | none => give (o [y] L1) L1
  | _ => .bad := by exact rfl
@[simp] theorem ev_joined {l' : List (DM Sv)} : dJoined l' (x :: l) L = (dJs l' Str.empty (x :: l) L).bind fun z L1 => .ok (.val (.str z)) L1 := by exact rfl
@[simp] theorem ev_js0 {z : Str} : dJs [] z (x :: l) L = .ok z L := by exact rfl
@[simp] theorem ev_jsC {z : Str} {r : List (DM Sv)} : dJs (f :: r) z (x :: l) L = (f (x :: l) L).bind fun s L1 => match s with
    | .val (.str y) => if (z ++ y).length ≤ sizeLine then dJs r (z ++ y) (x :: l) L1 else .bad
    | _ => .bad := by exact rfl
@[simp] theorem ev_lc2 {fi : DM Src} {ft1 : DM Bool} : dLc2 fi T ft fs T1 ft1 fe vs vs1 (x :: l) L = (fi (x :: l) L).bind fun s L1 => (noErr (cLoop2 T ft fs T1 ft1 fe vs1 (wipeR (x :: l) vs) s.items [] L1)).bind fun acc L2 => .ok (.val (.lst acc)) L2 := by exact rfl
@[simp] theorem ev_dc {fi : DM Src} : dDc fi T ft fk fv vs (x :: l) L = (fi (x :: l) L).bind fun s L1 => (noErr (dcLoop T ft fk fv (wipeR (x :: l) vs) s.items [] L1)).bind fun acc L2 => .ok (.val (.dic acc)) L2 := by exact rfl
@[simp] theorem ev_iKs : iKs fe (x :: l) L = (fe (x :: l) L).bind fun s L1 => give (s.dicV.map fun ks => ⟨keysDv ks, true⟩) L1 := by exact rfl
@[simp] theorem ev_setD : sSetD i (x :: l) L = .ok (.nx ((x :: l).set i (some (.muD [])))) L := by exact rfl
@[simp] theorem ev_put : gPut i fk (.val d) (x :: l) L = match (x :: l)[i]? with
  | some (some (.muD ks)) => (noErr (fk (x :: l) L)).bind fun t L1 => match t.key with
    | some k => if ks.length < sizeLine then .ok ((x :: l).set i (some (.muD (putD ks k d)))) L1 else .bad
    | none => .bad
  | _ => .bad := by
  unfold gPut
  generalize (x :: l)[i]? = o
  rcases o with _ | _ | s
  · rfl
  · rfl
  · cases s <;> rfl
@[simp] theorem ev_ext : sExt i fe (x :: l) L = match (x :: l)[i]? with
  | some (some (.mu xs)) => (fe (x :: l) L).bind fun s L1 => match s with
    | .val (.lst ys) => if xs.length + ys.length ≤ sizeLine then .ok (.nx ((x :: l).set i (some (.mu (xs ++ ys))))) L1 else .bad
    | _ => .bad
  | _ => .bad := by exact rfl
@[simp] theorem ev_frzE : dFrz f (x :: l) L = (f (x :: l) L).bind frzV := by exact rfl
@[simp] theorem ev_lrg : dLrg ow fa (x :: l) L = (fa (x :: l) L).bind fun s L1 => match s with
  | .val (.int n) => if 0 ≤ n ∧ n ≤ 16777216 then newL ow (upF 0 n.toNat) L1 else .bad
  | _ => .bad := by exact rfl
@[simp] theorem ev_dicO {fs : List (DM Sv × DM Sv)} : dDicO fs (x :: l) L = (dPairs fs (x :: l) L).bind fun prs L1 => match keyd prs with
  | some ks => if ks.length ≤ 15 then .ok (.val (.own L1.length)) (L1 ++ [.dic (mergeD [] ks)]) else .bad
  | none => .bad := by exact rfl
@[simp] theorem read_muD {ks : List (Key × Dv)} : (Sv.muD ks).read = .borD ks := by exact rfl
end
/-! ### chains -/
section
variable {ρ r : Slo} {L L1 : Led} {f g : DM Fl} {i : Nat} {xs : List Dv} {ks : List (Key × Dv)} {d : Dv}
theorem seq_nx (h : f ρ L = .ok (.nx r) L1) : sSeq f g ρ L = g r L1 := by
  unfold sSeq
  rw [h]
  rfl
theorem seq_rt (h : f ρ L = .ok (.rt d) L1) : sSeq f g ρ L = .ok (.rt d) L1 := by
  unfold sSeq
  rw [h]
  rfl
theorem ret_ok {fe : DM Sv} (h : fe ρ L = .ok (.val d) L1) : sRet fe ρ L = .ok (.rt d) L1 := by
  unfold sRet
  rw [h]
  rfl
theorem set_ok {fe : DM Sv} (h : fe ρ L = .ok (.val d) L1) : sSet i fe ρ L = .ok (.nx (ρ.set i (some (.val d)))) L1 := by
  unfold sSet
  rw [h]
  rfl
theorem drop_ok {fe : DM Sv} {s : Sv} (h : fe ρ L = .ok s L1) : sDrop fe ρ L = .ok (.nx ρ) L1 := by
  unfold sDrop
  rw [h]
  rfl
theorem lc_ok {fi : DM Src} {T : Tg} {t : DM Bool} {fe : DM Sv} {vs : List Nat} {items acc : List Dv} {b : Bool} {L2 : Led} (hi : fi ρ L = .ok ⟨items, b⟩ L1) (hc : cLoop T t fe (wipeR ρ vs) items [] L1 = .ok acc L2) : dLc fi T t fe vs ρ L = .ok (.val (.lst acc)) L2 := by
  unfold dLc
  rw [hi]
  show (noErr (cLoop T t fe (wipeR ρ vs) items [] L1)).bind _ = _
  rw [hc]
  rfl
theorem call_ok {n : Nat} {m : Mir} {fr : DM (List Sv)} {ss : List Sv} {L2 : Led} (ha : fr ρ L = .ok ss L1) (hn : ss.length = n) (hm : m ss L1 = .ok d L2) : dCall n m fr ρ L = .ok (.val d) L2 := by
  unfold dCall
  rw [ha]
  show (if ss.length = n then toSv ((m ss L1).at_ ρ) else .bad) = _
  rw [if_pos hn, hm]
  rfl
theorem bi_ok {g : List Sv → Led → Option Sv} {fr : DM (List Sv)} {ss : List Sv} {s : Sv} (ha : fr ρ L = .ok ss L1) (hg : g ss L1 = some s) : dBi g fr ρ L = .ok s L1 := by
  unfold dBi
  rw [ha]
  show give (g ss L1) L1 = _
  rw [hg]
  rfl
theorem args_ok {fa : DM Sv} {fr : DM (List Sv)} {s : Sv} {ss : List Sv} {L2 : Led} (h : fa ρ L = .ok s L1) (hr : fr ρ L1 = .ok ss L2) : dArgs fa fr ρ L = .ok (s :: ss) L2 := by
  unfold dArgs
  rw [h]
  show (fr ρ L1).bind _ = _
  rw [hr]
  rfl
theorem args1_ok {fa : DM Sv} {s : Sv} (h : fa ρ L = .ok s L1) : dArgs fa dArgs0 ρ L = .ok [s] L1 := args_ok h rfl
theorem meth_ok {mn : Str} {n : Nat} {tab : List (Str × Mir)} {fo : DM Sv} {fr : DM (List Sv)} {o : Sv} {ss : List Sv} {m : Mir} {L2 L3 : Led} (ho : fo ρ L = .ok o L1) (hs : mSel mn tab o L1 = some m) (ha : fr ρ L1 = .ok ss L2) (hn : ss.length = n) (hm : m (o :: ss) L2 = .ok d L3) : dMeth mn n tab fo fr ρ L = .ok (.val d) L3 := by
  unfold dMeth
  simp only [ho, Res.bind_ok, hs, ha, hm, hn, if_true]
  rfl
theorem op_ok {g : Sv → Sv → Led → Option Sv} {fa fb : DM Sv} {a b s : Sv} {L2 : Led} (ha : fa ρ L = .ok a L1) (hb : fb ρ L1 = .ok b L2) (hg : g a b L2 = some s) : dOp g fa fb ρ L = .ok s L2 := by
  unfold dOp
  rw [ha]
  show (fb ρ L1).bind _ = _
  rw [hb]
  show give (g a b L2) L2 = _
  rw [hg]
  rfl
theorem un_ok {g : Sv → Led → Option Sv} {fa : DM Sv} {a s : Sv} (ha : fa ρ L = .ok a L1) (hg : g a L1 = some s) : dUn g fa ρ L = .ok s L1 := by
  unfold dUn
  rw [ha]
  show give (g a L1) L1 = _
  rw [hg]
  rfl
theorem for_ok {fi : DM Src} {T : Tg} {items : List Dv} {o : Fl} {L2 : Led} (hi : fi ρ L = .ok ⟨items, true⟩ L1) (hl : fLoop T g items ρ L1 = .ok o L2) : sFor fi T g ρ L = .ok o L2 := by
  unfold sFor
  rw [hi]
  exact hl
theorem lst_ok {fr : DM (List Sv)} {ss : List Sv} {ds : List Dv} (ha : fr ρ L = .ok ss L1) (hv : vals ss = some ds) (hl : ds.length ≤ sizeLine) : dLst fr ρ L = .ok (.val (.lst ds)) L1 := by
  unfold dLst
  simp only [ha, Res.bind_ok, hv]
  exact if_pos hl
theorem tup_ok {fr : DM (List Sv)} {ss : List Sv} {ds : List Dv} (ha : fr ρ L = .ok ss L1) (hv : vals ss = some ds) (hl : ds.length ≤ sizeLine) : dTup fr ρ L = .ok (.val (.tup ds)) L1 := by
  unfold dTup
  simp only [ha, Res.bind_ok, hv]
  exact if_pos hl
theorem dic2_ok {fa fb : DM Sv} {x y : Str} {d1 d2 : Dv} {L2 : Led} (ha : fa ρ L = .ok (.val d1) L1) (hb : fb ρ L1 = .ok (.val d2) L2) (hne : x ≠ y) : dDic [(dC (.str x), fa), (dC (.str y), fb)] ρ L = .ok (.val (.dic [(.inr x, d1), (.inr y, d2)])) L2 := by
  have hp : dPairs [(dC (.str x), fa), (dC (.str y), fb)] ρ L = .ok [(.val (.str x), .val d1), (.val (.str y), .val d2)] L2 := by
    show (fa ρ L).bind _ = _
    rw [ha]
    show ((fb ρ L1).bind _).bind _ = _
    rw [hb]
    rfl
  have hm : mergeD [] [((.inr x : Key), d1), ((.inr y : Key), d2)] = [(.inr x, d1), (.inr y, d2)] := by
    simp [mergeD, putD, hne]
  unfold dDic dDisp
  rw [hp]
  show (if 2 ≤ 15 then Res.ok (Sv.val (Dv.dic (mergeD [] [((.inr x : Key), d1), ((.inr y : Key), d2)]))) L2 else .bad) = _
  rw [hm]
  rfl
theorem if_t {t : DM Bool} (h : t ρ L = .ok true L1) : sIf t f g ρ L = f ρ L1 := by
  unfold sIf
  rw [h]
  rfl
theorem if_f {t : DM Bool} (h : t ρ L = .ok false L1) : sIf t f g ρ L = g ρ L1 := by
  unfold sIf
  rw [h]
  rfl
theorem biL_f {g : List Sv → Led → Option (List Dv)} {fr : DM (List Sv)} {ss : List Sv} {ds : List Dv} (ha : fr ρ L = .ok ss L1) (hg : g ss L1 = some ds) : dBiL false g fr ρ L = .ok (.val (.lst ds)) L1 := by
  unfold dBiL
  simp only [ha, Res.bind_ok, hg]
  rfl
theorem biL_t {g : List Sv → Led → Option (List Dv)} {fr : DM (List Sv)} {ss : List Sv} {ds : List Dv} (ha : fr ρ L = .ok ss L1) (hg : g ss L1 = some ds) : dBiL true g fr ρ L = .ok (.val (.own L1.length)) (L1 ++ [.lst ds]) := by
  unfold dBiL
  simp only [ha, Res.bind_ok, hg]
  rfl
theorem frz_mu (h : ρ[i]? = some (some (.mu xs))) : gFrz i g ρ L = g (ρ.set i (some (.val (.lst xs)))) L := by
  unfold gFrz
  rw [h]
theorem frz_muD (h : ρ[i]? = some (some (.muD ks))) : gFrz i g ρ L = g (ρ.set i (some (.val (.dic ks)))) L := by
  unfold gFrz
  rw [h]
end
/-! ### sequences of any kind -/
def Sv.sq (L : Led) : Sv → Option (List Dv)
  | .val (.lst xs) => some xs
  | .val (.tup xs) => some xs
  | .val (.own k) => match L[k]? with
    | some (.lst xs) => some xs
    | _ => none
  | _ => none
section
variable {L L' : Led} {s : Sv} {xs : List Dv} {d : Dv} {k : Nat} {ks : List (Key × Dv)}
theorem sq_cases (h : s.sq L = some xs) : s = .val (.lst xs) ∨ s = .val (.tup xs) ∨ ∃ k, s = .val (.own k) ∧ L[k]? = some (.lst xs) := by
  unfold Sv.sq at h
  split at h
  · cases h; exact .inl rfl
  · cases h; exact .inr (.inl rfl)
  · split at h
    · rename_i k _ ys e; cases h; exact .inr (.inr ⟨k, rfl, e⟩)
    · cases h
  · cases h
theorem sq_lst0 : (Sv.val (.lst xs)).sq L = some xs := rfl
theorem sq_tup0 : (Sv.val (.tup xs)).sq L = some xs := rfl
theorem sq_own0 (e : L[k]? = some (.lst xs)) : (Sv.val (.own k)).sq L = some xs := by simp [Sv.sq, e]
theorem sq_val (h : s.sq L = some xs) : ∃ d, s = .val d := by
  rcases sq_cases h with rfl | rfl | ⟨k, rfl, _⟩ <;> exact ⟨_, rfl⟩
theorem sq_len (h : s.sq L = some xs) : gLen [s] L = some (.val (.int xs.length)) := by
  rcases sq_cases h with rfl | rfl | ⟨k, rfl, e⟩
  · rfl
  · rfl
  · simp [gLen, Sv.seqL, e]
theorem sq_isi (h : s.sq L = some xs) : gIsi [s, .val (.tup [.ty "list", .ty "tuple"])] L = some (.val (.bl true)) := by
  rcases sq_cases h with rfl | rfl | ⟨k, rfl, e⟩
  · rfl
  · rfl
  · have : (Sv.val (.own k)).tyn L = some "list" := by simp [Sv.tyn, e]
    unfold gIsi
    simp only [this, Option.bind_some]
    rfl
theorem sq_lst (h : s.sq L = some xs) (hl : xs.length ≤ sizeLine) : gLst4 [s] L = some xs := by
  rcases sq_cases h with rfl | rfl | ⟨k, rfl, e⟩
  · simp [gLst4, gLst, gLs, Sv.seqL, hl]
  · simp [gLst4, gLst, gLs, Sv.seqL, Sv.seqT, hl]
  · simp [gLst4, gLst, gLs, Sv.seqL, e, hl]
theorem sq_tuple (h : s.sq L = some xs) (hl : xs.length ≤ sizeLine) : gTuple [s] L = some (.val (.tup xs)) := by
  rcases sq_cases h with rfl | rfl | ⟨k, rfl, e⟩
  · simp [gTuple, Sv.seqL, hl]
  · simp [gTuple, Sv.seqL, Sv.seqT, hl]
  · simp [gTuple, Sv.seqL, e, hl]
theorem sq_ix (h : s.sq L = some xs) (e : xs[k]? = some d) : gIx s (.val (.int (k : Int))) L = some (.val d) := by
  obtain ⟨hl, he⟩ := List.getElem?_eq_some_iff.mp e
  have h0 : (k : Int) < xs.length := by omega
  rcases sq_cases h with rfl | rfl | ⟨j, rfl, e'⟩
  · simp [gIx, Sv.seqL, L2.atI, ixN, h0, e]
  · simp [gIx, Sv.seqL, Sv.seqT, L2.atI, ixN, h0, e]
  · simp [gIx, Sv.seqL, e', L2.atI, ixN, h0, e]
/-- the ledger, or without the list that is walked -/
def Near (s : Sv) (L L' : Led) : Prop := L' = L ∨ ∃ k xs, s = .val (.own k) ∧ L[k]? = some (.lst xs) ∧ L' = L.set k .gone
theorem forO_ok {en : Bool} {fe : DM Sv} {T : Tg} {fb : DM Fl} {ρ ρ' : Slo} (hs : s.sq L = some xs) (he : fe ρ L = .ok s L) (hb : unB ρ' = ρ') (h : ∀ L', Near s L L' → fLoop T fb (enI en xs) ρ L' = .ok (.nx ρ') L') : sForO en fe T fb ρ L = .ok (.nx ρ') L := by
  unfold sForO
  rw [he]
  rcases sq_cases hs with rfl | rfl | ⟨k, rfl, e⟩
  · have := h L (.inl rfl)
    simp only [Res.bind_ok, Sv.src, if_true]
    exact this
  · have := h L (.inl rfl)
    simp only [Res.bind_ok, Sv.src, if_true]
    exact this
  · have := h (L.set k .gone) (.inr ⟨k, xs, rfl, e, rfl⟩)
    have hlt := (List.getElem?_eq_some_iff.mp e).1
    simp only [Res.bind_ok, e, this, putFl]
    have e2 : backL k xs (L.set k .gone) = some L := by
      unfold backL
      rw [List.getElem?_set_self hlt]
      simp only [List.set_set]
      rw [← (List.getElem?_eq_some_iff.mp e).2, List.set_getElem_self]
    rw [e2]
    simp only [Fl.unB, hb]
theorem forO_ex {P : Slo → Prop} {en : Bool} {fe : DM Sv} {T : Tg} {fb : DM Fl} {ρ : Slo} (hs : s.sq L = some xs) (he : fe ρ L = .ok s L) (h : ∀ L', Near s L L' → ∃ ρ', fLoop T fb (enI en xs) ρ L' = .ok (.nx ρ') L' ∧ unB ρ' = ρ' ∧ P ρ') : ∃ ρ', sForO en fe T fb ρ L = .ok (.nx ρ') L ∧ P ρ' := by
  unfold sForO
  rw [he]
  rcases sq_cases hs with rfl | rfl | ⟨k, rfl, e⟩
  · obtain ⟨ρ', this, _, p⟩ := h L (.inl rfl)
    refine ⟨ρ', ?_, p⟩
    simp only [Res.bind_ok, Sv.src, if_true]
    exact this
  · obtain ⟨ρ', this, _, p⟩ := h L (.inl rfl)
    refine ⟨ρ', ?_, p⟩
    simp only [Res.bind_ok, Sv.src, if_true]
    exact this
  · obtain ⟨ρ', this, hb, p⟩ := h (L.set k .gone) (.inr ⟨k, xs, rfl, e, rfl⟩)
    refine ⟨ρ', ?_, p⟩
    have hlt := (List.getElem?_eq_some_iff.mp e).1
    simp only [Res.bind_ok, e, this, putFl]
    have e2 : backL k xs (L.set k .gone) = some L := by
      unfold backL
      rw [List.getElem?_set_self hlt]
      simp only [List.set_set]
      rw [← (List.getElem?_eq_some_iff.mp e).2, List.set_getElem_self]
    rw [e2]
    simp only [Fl.unB, hb]
theorem lcO_ok {en : Bool} {fs : DM Sv} {T : Tg} {ft : DM Bool} {fe : DM Sv} {ρ : Slo} {vs : List Nat} {acc : List Dv} (hs : s.sq L = some xs) (he : fs ρ L = .ok s L) (h : ∀ L', Near s L L' → cLoop T ft fe (wipeR ρ vs) (enI en xs) [] L' = .ok acc L') : dLcO false en fs T ft fe vs ρ L = .ok (.val (.lst acc)) L := by
  unfold dLcO
  rw [he]
  rcases sq_cases hs with rfl | rfl | ⟨k, rfl, e⟩
  · have := h L (.inl rfl)
    simp only [Res.bind_ok, withSrc, Sv.src, this, noErr_ok]
    rfl
  · have := h L (.inl rfl)
    simp only [Res.bind_ok, withSrc, Sv.src, this, noErr_ok]
    rfl
  · have := h (L.set k .gone) (.inr ⟨k, xs, rfl, e, rfl⟩)
    have hlt := (List.getElem?_eq_some_iff.mp e).1
    have e2 : backL k xs (L.set k .gone) = some L := by
      unfold backL
      rw [List.getElem?_set_self hlt]
      simp only [List.set_set]
      rw [← (List.getElem?_eq_some_iff.mp e).2, List.set_getElem_self]
    simp only [Res.bind_ok, withSrc, e, this, noErr_ok, e2]
    rfl
/-! ### dicts of any kind -/
abbrev RowAt (L : Led) (d : Dv) (ks : List (Key × Dv)) : Prop := (Sv.val d).prL L = some ks
theorem row_cases (h : RowAt L d ks) : d = .dic ks ∨ ∃ k, d = .own k ∧ L[k]? = some (.dic ks) := by
  unfold RowAt Sv.prL at h
  split at h
  · rename_i z; cases z; cases h; exact .inl rfl
  · rename_i z; cases z
  · rename_i k z
    cases z
    split at h
    · rename_i e; cases h; exact .inr ⟨k, rfl, e⟩
    · cases h
  · cases h
theorem row_dic : RowAt L (.dic ks) ks := rfl
theorem row_own (e : L[k]? = some (.dic ks)) : RowAt L (.own k) ks := by simp [RowAt, Sv.prL, e]
theorem near_row (n : Near s L L') (h : RowAt L d ks) : RowAt L' d ks := by
  rcases n with rfl | ⟨k, xs, rfl, e, rfl⟩
  · exact h
  · rcases row_cases h with rfl | ⟨j, rfl, e'⟩
    · rfl
    · have hne : k ≠ j := fun z => by subst z; rw [e] at e'; cases e'
      exact row_own (by rw [List.getElem?_set_ne hne]; exact e')
theorem key_dv (k : Key) : (Sv.val (keyDv k)).key = some k := by cases k <;> rfl
theorem row_get {key : Key} (h : RowAt L d ks) (e : lookK ks key = some v) : gGet (.val d) (.val (keyDv key)) L = some (.val v) := by
  unfold gGet
  rw [key_dv, h]
  simp only [e, Option.map_some]
theorem row_getS {z : Str} {v : Dv} (h : RowAt L d ks) (e : lookK ks (.inr z) = some v) : gGet (.val d) (.val (.str z)) L = some (.val v) := row_get (key := .inr z) h e
theorem row_in {z : Str} (h : RowAt L d ks) : gIn2 false (.val (.str z)) (.val d) L = some (.val (.bl (lookK ks (.inr z)).isSome)) := by
  unfold gIn2
  rw [h]
  rfl
theorem row_len (h : RowAt L d ks) : gLen2 [.val d] L = some (.val (.int ks.length)) := by
  unfold gLen2
  simp only [h]
theorem row_isi (h : RowAt L d ks) : gIsi [.val d, .val (.ty "dict")] L = some (.val (.bl true)) := by
  rcases row_cases h with rfl | ⟨k, rfl, e⟩
  · rfl
  · have : (Sv.val (.own k)).tyn L = some "dict" := by simp [Sv.tyn, e]
    unfold gIsi
    simp only [this, Option.bind_some]
    rfl
theorem row_lst (h : RowAt L d ks) (hl : ks.length ≤ sizeLine) : gLst4 [.val d] L = some (keysDv ks) := by
  have hk : (keysDv ks).length ≤ sizeLine := by simpa [keysDv] using hl
  rcases row_cases h with rfl | ⟨k, rfl, e⟩
  · simp [gLst4, gLst, gLs, gLk, Sv.seqL, Sv.seqT, Sv.prL, hk]
  · simp [gLst4, gLst, gLs, gLk, Sv.seqL, Sv.seqT, Sv.prL, e, hk]
theorem row_copy (h : RowAt L d ks) (hl : ks.length ≤ sizeLine) : gDict [.val d] L = some ks := by
  simp [gDict, gDcopy, h, hl]
theorem lcV_ok {i : Nat} {T : Tg} {ft : DM Bool} {fe : DM Sv} {ρ : Slo} {vs : List Nat} {acc : List Dv} (hi : ρ[i]? = some (some (.val d))) (h : RowAt L d ks) (hc : ∀ L', (L' = L ∨ ∃ k, d = .own k ∧ L' = L.set k .gone) → cLoop T ft fe (wipeR ρ vs) (valsDv ks) [] L' = .ok acc L') : dLcV i T ft fe vs ρ L = .ok (.val (.lst acc)) L := by
  unfold dLcV
  rw [hi]
  rcases row_cases h with rfl | ⟨k, rfl, e⟩
  · have := hc L (.inl rfl)
    simp only [dLc, iVs, dVar, hi, Sv.read, Res.bind_ok, Sv.dicV, Option.map_some, give_some, this, noErr_ok]
  · have := hc (L.set k .gone) (.inr ⟨k, rfl, rfl⟩)
    have hlt := (List.getElem?_eq_some_iff.mp e).1
    have e2 : backD k ks (L.set k .gone) = some L := by
      unfold backD
      rw [List.getElem?_set_self hlt]
      simp only [List.set_set]
      rw [← (List.getElem?_eq_some_iff.mp e).2, List.set_getElem_self]
    simp only [e, this, noErr_ok, Res.bind_ok, e2]
end
/-! ### enumerations, ranges -/
def inz : Nat → Nat → List Dv
  | _, 0 => []
  | k, n + 1 => .int (k : Nat) :: inz (k + 1) n
theorem ints_up : ∀ n k : Nat, inz k n = (List.range n).map fun i : Nat => Dv.int ((k : Int) + i)
  | 0, _ => rfl
  | n + 1, k => by
    rw [inz, ints_up n (k + 1), List.range_succ_eq_map]
    simp only [List.map_cons, List.map_map]
    congr 1
    apply List.map_congr_left
    intro i _
    simp only [Function.comp]
    congr 1
    omega
theorem up_ints (n : Nat) : upF 0 n = inz 0 n := by rw [ints_up]; rfl
theorem up_map (n : Nat) : upF 0 n = (List.range n).map fun i : Nat => Dv.int (i : Int) := by
  unfold upF
  apply List.map_congr_left
  intro i _
  congr 1
  omega
theorem up_len (n : Nat) : (upF 0 n).length = n := by simp [upF]
theorem iR1_eq {fa : DM Sv} {ρ : Slo} {L L1 : Led} {j : Int} (h : fa ρ L = .ok (.val (.int j)) L1) (hr : rgOk 0 j) : iR1 fa ρ L = .ok ⟨upF 0 j.toNat, true⟩ L1 := by
  unfold iR1
  rw [h]
  exact if_pos hr
theorem rg_small {j : Int} (h0 : 0 ≤ j) (h1 : j ≤ 100000) : rgOk 0 j := ⟨by decide, by decide, by omega, by omega⟩
theorem one_sz : 1 ≤ sizeLine := by rw [sizeLine_eq]; decide
theorem two_sz : 2 ≤ sizeLine := by rw [sizeLine_eq]; decide
theorem sz_le {n : Nat} (h : n ≤ 16777216) : n ≤ sizeLine := by rw [sizeLine_eq]; exact h
/-- a comprehension that only reads, in every near ledger -/
theorem cl_all {α : Type} {T : Tg} {ft : DM Bool} {fe : DM Sv} {ρ : Slo} {L : Led} (f g : α → Dv) (as : List α) (h : ∀ a ∈ as, ∃ ρ1, T.set (f a) ρ = some ρ1 ∧ ft ρ1 L = .ok true L ∧ fe ρ1 L = .ok (.val (g a)) L) (hl : as.length ≤ sizeLine) : cLoop T ft fe ρ (as.map f) [] L = .ok (as.map g) L := by
  have e := cl_fn (T := T) (ft := ft) (fe := fe) (ρ := ρ) (L := L) f g (fun _ => true) as (fun a ha => by
    obtain ⟨ρ1, a, b, c⟩ := h a ha
    exact ⟨ρ1, a, b, fun _ => c⟩) [] (by simpa using hl)
  rw [List.filter_eq_self.mpr fun _ _ => rfl] at e
  simpa using e
theorem all_bl {bs : List Bool} {L : Led} : gAll [.val (.lst (bs.map Dv.bl))] L = some (.val (.bl (bs.all id))) := by
  have : bools (bs.map Dv.bl) = some bs := bools_map bs
  simp [gAll, gQ, Sv.seqL, this]
theorem all_tt {α : Type} {as : List α} {L : Led} : gAll [.val (.lst (as.map fun _ => Dv.bl true))] L = some (.val (.bl true)) := by
  have := all_bl (bs := as.map fun _ => true) (L := L)
  rw [List.map_map] at this
  rw [show (as.map fun _ => Dv.bl true) = as.map (Dv.bl ∘ fun _ => true) from rfl, this]
  simp
theorem in_strsT {neg : Bool} {z : Str} {ys : List Str} {L : Led} : gIn neg (.val (.str z)) (.val (.tup (ys.map Dv.str))) L = some (.val (.bl (if neg then !ys.contains z else ys.contains z))) := by
  have h1 : okIn (.str z) (ys.map PyData.str) = true := by
    simp [okIn, plain_strs, PyData.plain, PyData.depth]
  have h2 : ((ys.map PyData.str).any fun w => PyData.eqv w (.str z)) = ys.contains z := by
    rw [List.any_map, List.contains_eq_any_beq]
    congr 1
    funext w
    simp [PyData.eqv]
    exact BEq.comm
  simp [gIn, gInB, Sv.key, Sv.prs, Sv.py, Dv.py, pys_strs, h1, h2]
/-! ### letters and names -/
def AL : Str := Str.ofString "abcdefghijklmnopqrstuvwxyz"
def al : List Nat := (List.range 26).map (· + 97)
theorem letters_cps : (Str.ofString "abcdefghijklmnopqrstuvwxyz").cps.toList = al := by decide +kernel
theorem letters_len : (Str.ofString "abcdefghijklmnopqrstuvwxyz").length = 26 := by decide +kernel
theorem in_al : ∀ c ∈ al, inStr ⟨#[c]⟩ AL = true := by decide +kernel
/-- a name -/
def Nm (z : Str) : Prop := 1 ≤ z.length ∧ z.length ≤ 8 ∧ ∀ c ∈ z.cps.toList, c ∈ al
instance (z : Str) : Decidable (Nm z) := inferInstanceAs (Decidable (_ ∧ _ ∧ _))
theorem Nm.ch {z : Str} (h : Nm z) : chOk z = true := by
  have ha : ∀ c ∈ al, c < 16 ^ 8 := by decide +kernel
  simp only [chOk, List.all_eq_true, decide_eq_true_eq]
  exact fun c hc => ha c (h.2.2 c hc)
def prs52 : List (Nat × Nat) := (al ++ al).zip (al.reverse ++ al)
theorem zip_maps {α β γ δ ε : Type} (f : γ → δ → ε) (g : α → γ) (g' : β → δ) : ∀ (l : List α) (l' : List β), List.zipWith f (l.map g) (l'.map g') = (l.zip l').map fun p => f (g p.1) (g' p.2)
  | [], _ => rfl
  | _ :: _, [] => rfl
  | a :: l, b :: l' => by simp [zip_maps f g g' l l']
/-- the variants of a word -/
def vr (w : Str) (p : Nat × Nat) : Str := cutS w none (some 6) ++ (⟨#[p.1]⟩ : Str) ++ (⟨#[p.2]⟩ : Str)
theorem vr_cps (w : Str) (p : Nat × Nat) : (vr w p).cps.toList = w.cps.toList.take 6 ++ [p.1, p.2] := by
  have e : (vr w p).cps.toList = (cutS w none (some 6)).cps.toList ++ [p.1, p.2] := by
    show (((cutS w none (some 6)).cps ++ #[p.1]) ++ #[p.2]).toList = _
    simp
  have e6 : (cutS w none (some 6)).cps.toList = w.cps.toList.take 6 := by
    show ((w.cps.toList.drop 0).take (min 6 w.length - 0)) = _
    simp only [List.drop_zero, Nat.sub_zero]
    rw [show w.length = w.cps.toList.length from rfl, ← List.take_eq_take_min]
  rw [e, e6]
theorem vr_inj {w : Str} {p q : Nat × Nat} (h : vr w p = vr w q) : p = q := by
  have h' : (vr w p).cps.toList = (vr w q).cps.toList := by rw [h]
  rw [vr_cps, vr_cps] at h'
  have := List.append_cancel_left h'
  simp at this
  exact Prod.ext this.1 this.2
theorem nodup52 : prs52.Nodup := by decide +kernel
theorem some_fresh (w : Str) (ys : List Str) (h : ys.length < 52) : ∃ p ∈ prs52, vr w p ∉ ys := by
  apply Classical.byContradiction
  intro hn
  have hs : ∀ p ∈ prs52, vr w p ∈ ys := fun p hp => Classical.byContradiction fun h => hn ⟨p, hp, h⟩
  have nd : (prs52.map (vr w)).Nodup := by
    rw [List.Nodup, List.pairwise_map]
    exact nodup52.imp fun hne he => hne (vr_inj he)
  have hsub : (prs52.map (vr w)) ⊆ ys := by
    intro z hz
    obtain ⟨p, hp, rfl⟩ := List.mem_map.mp hz
    exact hs p hp
  have hle := nd.length_le_of_subset hsub
  have h52 : (prs52.map (vr w)).length = 52 := by rw [List.length_map]; decide +kernel
  omega
theorem nm_vr {w : Str} (hw : Nm w) {p : Nat × Nat} (hp : p ∈ prs52) : Nm (vr w p) := by
  have hq : ∀ p ∈ prs52, p.1 ∈ al ∧ p.2 ∈ al := by decide +kernel
  obtain ⟨h1, h2⟩ := hq p hp
  have hl : (vr w p).length = (w.cps.toList.take 6 ++ [p.1, p.2]).length := by rw [← vr_cps]; rfl
  refine ⟨by rw [hl]; simp, by rw [hl]; simp; omega, ?_⟩
  rw [vr_cps]
  intro c hc
  rcases List.mem_append.mp hc with h | h
  · exact hw.2.2 c (List.mem_of_mem_take h)
  · simp at h
    rcases h with rfl | rfl <;> assumption
theorem nm_join {cs : List Nat} (h1 : 1 ≤ cs.length) (hl : cs.length ≤ 8) (hc : ∀ c ∈ cs, c ∈ al) : Nm (Txt.join (Str.ofString "") (cs.map fun c => (⟨#[c]⟩ : Str))) := by
  have e : (Txt.join (Str.ofString "") (cs.map fun c => (⟨#[c]⟩ : Str))).length = cs.length := by
    show (Txt.join (Str.ofString "") (cs.map fun c => (⟨#[c]⟩ : Str))).cps.size = _
    rw [← Array.length_toList, join_cps]
  refine ⟨by rw [e]; exact h1, by rw [e]; exact hl, ?_⟩
  rw [join_cps]
  exact hc
def CM : List Dv := [.str "state", .str "reader", .str "entries", .str "limit", .str "alphabet", .str "read", .str "append", .str "a", .str "count", .str "tell", .str "zzzzzzzz"]
theorem nm_common : ∀ d ∈ CM, ∃ w, d = .str w ∧ Nm w := by
  intro d hd
  simp only [CM, List.mem_cons, List.not_mem_nil, or_false] at hd
  rcases hd with rfl | rfl | rfl | rfl | rfl | rfl | rfl | rfl | rfl | rfl | rfl
  all_goals exact ⟨_, rfl, by decide +kernel, by decide +kernel, by decide +kernel⟩
theorem len1 {c : Nat} : (⟨#[c]⟩ : Str).length = 1 := rfl
theorem rep_cps : (strRep AL 2).cps.toList = al ++ al := by
  show ((List.replicate 2 AL.cps.toList).flatten.toArray).toList = _
  rw [AL, letters_cps]
  decide +kernel
theorem rev_cps : (strRev AL ++ AL).cps.toList = al.reverse ++ al := by
  show ((AL.cps.toList.reverse.toArray) ++ AL.cps).toList = _
  rw [Array.toList_append, AL, letters_cps]
theorem zp52 : zipF ((strRep AL 2).cps.toList.map fun c => Dv.str ⟨#[c]⟩) ((strRev AL ++ AL).cps.toList.map fun c => Dv.str ⟨#[c]⟩) = prs52.map fun p => Dv.tup [.str ⟨#[p.1]⟩, .str ⟨#[p.2]⟩] := by
  unfold zipF
  rw [zip_maps, rep_cps, rev_cps]
  rfl
end DL

/-! Plain laws, part 4: machines as data. -/
namespace DL
open PySem PySem.Spec PyProof.Rows L2
abbrev Stp := Nat × Option Str
abbrev Row := List (Str × Stp)
def outD : Option Str → Dv
  | none => .non
  | some z => .str z
def stD (e : Stp) : Dv := .tup [.int (e.1 : Int), outD e.2]
def rowK (r : Row) : List (Key × Dv) := r.map fun e => (.inr e.1, stD e.2)
theorem lookK_row (z : Str) : ∀ r : Row, lookK (rowK r) (.inr z) = (r.lookup z).map stD
  | [] => rfl
  | (k, e) :: r => by
    have ih := lookK_row z r
    unfold lookK rowK at ih ⊢
    rw [List.map_cons, List.find?_cons, List.lookup_cons]
    by_cases h : k = z
    · subst h
      simp
    · have h1 : decide ((Sum.inr k : Key) = .inr z) = false := by simp [h]
      have h2 : (z == k) = false := by simpa using fun x => h x.symm
      rw [h1, h2]
      exact ih
theorem keysDv_row (r : Row) : keysDv (rowK r) = (r.map (·.1)).map .str := by
  unfold keysDv rowK
  rw [List.map_map, List.map_map]
  rfl
theorem valsDv_row (r : Row) : valsDv (rowK r) = (r.map (·.2)).map stD := by
  unfold valsDv rowK
  rw [List.map_map, List.map_map]
  rfl
theorem rowK_len (r : Row) : (rowK r).length = r.length := by simp [rowK]
theorem paired_len {α β : Type} {R : α → β → Prop} : ∀ {l : List α} {m : List β}, Paired R l m → l.length = m.length
  | _, _, .nil => rfl
  | _, _, .cons _ r => congrArg (· + 1) (paired_len r)
structure StOk (many : Nat) (e : Stp) : Prop where
  lt : e.1 < many
  nm : ∀ z, e.2 = some z → Nm z
structure RowOk (many : Nat) (ss : List Str) (r : Row) : Prop where
  perm : (r.map (·.1)).Perm ss
  ok : ∀ e ∈ r, StOk many e.2
theorem RowOk.len {many : Nat} {ss : List Str} {r : Row} (h : RowOk many ss r) : r.length = ss.length := by
  have := h.perm.length_eq
  simpa using this
def rget (r : Row) (z : Str) : Stp := (r.lookup z).getD (0, none)
theorem lookup_mem {z : Str} {e : Stp} : ∀ {r : Row}, r.lookup z = some e → (z, e) ∈ r
  | [], h => by cases h
  | (k, d) :: r, h => by
    rw [List.lookup_cons] at h
    cases hz : z == k with
    | true => rw [hz] at h; cases h; rw [beq_iff_eq.mp hz]; exact List.mem_cons_self
    | false => rw [hz] at h; exact List.mem_cons_of_mem _ (lookup_mem h)
theorem lookup_of {z : Str} : ∀ {r : Row}, z ∈ r.map (·.1) → r.lookup z = some (rget r z)
  | [], h => by simp at h
  | (k, d) :: r, h => by
    unfold rget
    rw [List.lookup_cons]
    cases hz : z == k with
    | true => rfl
    | false =>
      have hne : z ≠ k := by simpa using hz
      have hm : z ∈ r.map (·.1) := by
        rcases List.mem_cons.mp h with h | h
        · exact absurd h hne
        · exact h
      exact lookup_of hm
theorem rget_look {r : Row} {z : Str} (h : z ∈ r.map (·.1)) : lookK (rowK r) (.inr z) = some (stD (rget r z)) := by
  rw [lookK_row, lookup_of h]; rfl
theorem rget_ok {many : Nat} {ss : List Str} {r : Row} {z : Str} (h : RowOk many ss r) (hz : z ∈ ss) : StOk many (rget r z) ∧ z ∈ r.map (·.1) := by
  have hm : z ∈ r.map (·.1) := h.perm.mem_iff.mpr hz
  exact ⟨h.ok _ (lookup_mem (lookup_of hm)), hm⟩
/-- a row in the symbols' own sequence -/
def norm (ss : List Str) (r : Row) : Row := ss.map fun z => (z, rget r z)
theorem norm_keys (ss : List Str) (r : Row) : (norm ss r).map (·.1) = ss := by
  unfold norm
  rw [List.map_map]
  exact List.map_id' ss
theorem norm_ok {many : Nat} {ss : List Str} {r : Row} (h : RowOk many ss r) : RowOk many ss (norm ss r) := by
  refine ⟨by rw [norm_keys], fun e he => ?_⟩
  obtain ⟨z, hz, rfl⟩ := List.mem_map.mp he
  exact (rget_ok h hz).1
theorem lookup_norm (r : Row) : ∀ {ss : List Str} {z : Str}, z ∈ ss → (norm ss r).lookup z = some (rget r z)
  | [], z, h => by cases h
  | s :: ss, z, h => by
    unfold norm
    rw [List.map_cons, List.lookup_cons]
    cases hz : z == s with
    | true => rw [beq_iff_eq.mp hz]
    | false =>
      have hne : z ≠ s := by simpa using hz
      rcases List.mem_cons.mp h with h | h
      · exact absurd h hne
      · exact lookup_norm r h
theorem rget_norm {ss : List Str} {r : Row} {z : Str} (hz : z ∈ ss) : rget (norm ss r) z = rget r z := by
  unfold rget
  rw [lookup_norm r hz]
  rfl
theorem norm_norm {ss : List Str} {r : Row} : norm ss (norm ss r) = norm ss r := by
  unfold norm
  apply List.map_congr_left
  intro z hz
  exact Prod.ext rfl (rget_norm hz)
/-! ### the object -/
/-- the words of a state's line -/
def lineW (v : Int) (c : Row) : List Str := [Str.ofString "state", Str.ofString (toString v)] ++ c.flatMap fun e => [e.1, Str.ofString (toString (e.2.1 : Int)), e.2.2.getD (Str.ofString "-")]
def lineS (v : Int) (c : Row) : Str := Txt.join (Str.ofString " ") (lineW v c)
def silent (cs : List Row) : Bool := cs.all fun c => c.all fun e => e.2.2.isNone
def keyD' (vs : List Int) (ss : List Str) (cs : List Row) : Dv := .tup [.tup (vs.map .int), .tup (ss.map .str), .tup (cs.map fun c => .tup (c.map fun e => stD e.2))]
def machF (vs : List Int) (ss : List Str) (cs : List Row) : List (Str × Dv) := [("own_values", .lst (vs.map .int)), ("own_symbols", .lst (ss.map .str)), ("own_steps", .lst (cs.map fun c => .dic (rowK c))), ("own_key", keyD' vs ss cs), ("own_lines", .lst (((vs.zip cs).map fun p => lineS p.1 p.2).map .str)), ("own_silence", .bl (silent cs))]
def machD (vs : List Int) (ss : List Str) (cs : List Row) : Dv := .obj "Machine" (machF vs ss cs)
/-- a machine's parts: values, symbols, rows in the symbols' sequence -/
structure MOk (vs : List Int) (ss : List Str) (cs : List Row) : Prop where
  len : cs.length = vs.length
  pos : 1 ≤ vs.length
  most : vs.length ≤ 64
  sorted : ss = sortS ss
  nodup : ss.Nodup
  names : ∀ z ∈ ss, Nm z
  one : 1 ≤ ss.length
  eight : ss.length ≤ 8
  rows : ∀ c ∈ cs, RowOk vs.length ss c
  keys : ∀ c ∈ cs, c.map (·.1) = ss
  vals : ∀ v ∈ vs, v.natAbs < 10 ^ 40
theorem int_len {i : Int} (h : i.natAbs < 10 ^ 40) : (Str.ofString (toString i)).length ≤ 41 := by
  rw [PySem.ofString_length]; exact int_short h
theorem sum_le {n : Nat} : ∀ {l : List Nat}, (∀ x ∈ l, x ≤ n) → l.sum ≤ l.length * n
  | [], _ => by simp
  | x :: l, h => by
    have h1 := h x (by simp)
    have h2 := sum_le (l := l) fun y hy => h y (by simp [hy])
    simp only [List.sum_cons, List.length_cons, Nat.add_mul, Nat.one_mul]
    omega
/-- a line fits -/
theorem line_fits {v : Int} {c : Row} {many : Nat} (hv : v.natAbs < 10 ^ 40) (hl : c.length ≤ 8) (hm : many ≤ 1000) (hc : ∀ e ∈ c, Nm e.1 ∧ StOk many e.2) : ((lineW v c).map (·.length)).sum + (lineW v c).length * (Str.ofString " ").length ≤ 16777216 ∧ (lineS v c).length ≤ sizeLine ∧ (lineW v c).length ≤ 26 ∧ (lineS v c).length ≤ 1100 := by
  have h1 : (Str.ofString " ").length = 1 := by decide +kernel
  have hn : (lineW v c).length ≤ 26 := by
    have : (c.flatMap fun e => [e.1, Str.ofString (toString (e.2.1 : Int)), e.2.2.getD (Str.ofString "-")]).length = c.length * 3 := by
      clear hl hc
      induction c with
      | nil => rfl
      | cons e c ih => rw [List.flatMap_cons, List.length_append, ih]; simp; omega
    unfold lineW
    rw [List.length_append, this]
    simp; omega
  have hw : ∀ w ∈ (lineW v c).map (·.length), w ≤ 41 := by
    intro w hw
    obtain ⟨y, hy, rfl⟩ := List.mem_map.mp hw
    unfold lineW at hy
    rcases List.mem_append.mp hy with hy | hy
    · simp only [List.mem_cons, List.not_mem_nil, or_false] at hy
      rcases hy with rfl | rfl
      · decide +kernel
      · exact int_len hv
    · obtain ⟨e, he, hy⟩ := List.mem_flatMap.mp hy
      obtain ⟨hn1, hs⟩ := hc e he
      simp only [List.mem_cons, List.not_mem_nil, or_false] at hy
      rcases hy with rfl | rfl | rfl
      · have := hn1.2.1; omega
      · have := hs.lt
        exact int_len (by omega)
      · cases ho : e.2.2 with
        | none => decide +kernel
        | some z => have := (hs.nm z ho).2.1; simp only [Option.getD_some]; omega
  have hs := sum_le hw
  rw [List.length_map] at hs
  have hj : (lineS v c).length ≤ ((lineW v c).map (·.length)).sum + (lineW v c).length * (Str.ofString " ").length := by
    show (Txt.join (Str.ofString " ") (lineW v c)).length ≤ _
    rw [show Txt.join (Str.ofString " ") (lineW v c) = Str.join (Str.ofString " ") (lineW v c) from StrLaws.glued_eq_join _ _]
    exact StrLaws.join_length_le _ _
  rw [h1] at hj ⊢
  refine ⟨by omega, sz_le (by omega), hn, by omega⟩
/-! ### dict comprehensions, two clauses -/
theorem putD_new {ks : List (Key × Dv)} {k : Key} {d : Dv} (h : ∀ kv ∈ ks, kv.1 ≠ k) : putD ks k d = ks ++ [(k, d)] := by
  unfold putD
  rw [if_neg]
  simp only [List.any_eq_true, decide_eq_true_eq, not_exists, not_and]
  exact h
theorem dc_all {T : Tg} {ft : DM Bool} {fk fv : DM Sv} {ρ : Slo} {L : Led} (g : Str → Dv) : ∀ (ss : List Str), ss.Nodup → (∀ z ∈ ss, ∃ ρ1, T.set (.str z) ρ = some ρ1 ∧ ft ρ1 L = .ok true L ∧ fk ρ1 L = .ok (.val (.str z)) L ∧ fv ρ1 L = .ok (.val (g z)) L) → ∀ acc : List (Key × Dv), (∀ kv ∈ acc, ∀ z ∈ ss, kv.1 ≠ .inr z) → acc.length + ss.length ≤ 1000 → dcLoop T ft fk fv ρ (ss.map .str) acc L = .ok (acc ++ ss.map fun z => (.inr z, g z)) L
  | [], _, _, acc, _, _ => by simp [dcLoop]
  | z :: ss, hd, h, acc, ha, hl => by
    obtain ⟨ρ1, e1, e2, e3, e4⟩ := h z (by simp)
    have hz := (List.nodup_cons.mp hd).1
    have hl' : acc.length + (ss.length + 1) ≤ 1000 := hl
    have e := dc_all g ss (List.nodup_cons.mp hd).2 (fun y hy => h y (by simp [hy])) (acc ++ [(.inr z, g z)]) (fun kv hkv y hy => by
      rcases List.mem_append.mp hkv with hkv | hkv
      · exact ha kv hkv y (by simp [hy])
      · rw [List.mem_singleton.mp hkv]
        intro q
        exact hz (Sum.inr.inj q ▸ hy)) (by simp; omega)
    have hlt : acc.length < sizeLine := by rw [sizeLine_eq]; omega
    have hp : putD acc (.inr z) (g z) = acc ++ [(.inr z, g z)] := putD_new fun kv hkv => ha kv hkv z (by simp)
    have hk : (Sv.val (.str z)).key = some (.inr z) := rfl
    simp only [List.map_cons, dcLoop, e1, e2, e3, e4, Res.bind, if_true, hk, hlt, hp, e, List.append_assoc, List.singleton_append]
theorem cl_acc {α : Type} {T : Tg} {ft : DM Bool} {fe : DM Sv} {ρ : Slo} {L : Led} (f g : α → Dv) (as : List α) (h : ∀ a ∈ as, ∃ ρ1, T.set (f a) ρ = some ρ1 ∧ ft ρ1 L = .ok true L ∧ fe ρ1 L = .ok (.val (g a)) L) (acc : List Dv) (hl : acc.length + as.length ≤ sizeLine) : cLoop T ft fe ρ (as.map f) acc L = .ok (acc ++ as.map g) L := by
  have e := cl_fn (T := T) (ft := ft) (fe := fe) (ρ := ρ) (L := L) f g (fun _ => true) as (fun a ha => by
    obtain ⟨ρ1, a, b, c⟩ := h a ha
    exact ⟨ρ1, a, b, fun _ => c⟩) acc hl
  rw [List.filter_eq_self.mpr fun _ _ => rfl] at e
  exact e
theorem cl2_all {α β : Type} {T T1 : Tg} {ft ft1 : DM Bool} {fs1 fe : DM Sv} {vs1 : List Nat} {ρ : Slo} {L : Led} (f : α → Dv) (h : α → List β) (f1 g : β → Dv) (n : Nat) : ∀ (as : List α), (∀ a ∈ as, (h a).length ≤ n ∧ ∃ ρ1 s, T.set (f a) ρ = some ρ1 ∧ ft ρ1 L = .ok true L ∧ fs1 ρ1 L = .ok s L ∧ s.src = some ⟨(h a).map f1, true⟩ ∧ ∀ b ∈ h a, ∃ ρ2, T1.set (f1 b) (wipeR ρ1 vs1) = some ρ2 ∧ ft1 ρ2 L = .ok true L ∧ fe ρ2 L = .ok (.val (g b)) L) → ∀ acc : List Dv, acc.length + as.length * n ≤ sizeLine → cLoop2 T ft fs1 T1 ft1 fe vs1 ρ (as.map f) acc L = .ok (acc ++ (as.flatMap h).map g) L
  | [], _, acc, _ => by simp [cLoop2]
  | a :: as, hh, acc, hl => by
    obtain ⟨hn, ρ1, s, e1, e2, e3, e4, e5⟩ := hh a (by simp)
    have hl' : acc.length + (as.length + 1) * n ≤ sizeLine := hl
    rw [Nat.add_mul, Nat.one_mul] at hl'
    have c1 := cl_acc (T := T1) (ft := ft1) (fe := fe) (ρ := wipeR ρ1 vs1) (L := L) f1 g (h a) e5 acc (by omega)
    have c2 := cl2_all f h f1 g n as (fun x hx => hh x (by simp [hx])) (acc ++ (h a).map g) (by simp; omega)
    simp only [List.map_cons, cLoop2, e1, e2, Res.bind, if_true, e3, e4, c1, c2, List.flatMap_cons, List.map_append, List.append_assoc]
theorem sortS_congr {xs ys : List Str} (h : xs.Perm ys) : sortS xs = sortS ys := List.Perm.eq_of_pairwise (le := fun a b => leS a b = true) (fun a b _ _ => leS_anti a b) (sortS_pw xs) (sortS_pw ys) ((sortS_perm xs).trans (h.trans (sortS_perm ys).symm))
theorem lookup_nodup : ∀ {c : Row} {e : Str × Stp}, (c.map (·.1)).Nodup → e ∈ c → c.lookup e.1 = some e.2
  | [], _, _, h => by cases h
  | (k, d) :: c, e, hd, h => by
    rw [List.lookup_cons]
    have hk := List.nodup_cons.mp hd
    rcases List.mem_cons.mp h with rfl | h
    · simp
    · have hne : e.1 ≠ k := fun q => hk.1 (by have := List.mem_map_of_mem (f := Prod.fst) h; rw [q] at this; exact this)
      have : (e.1 == k) = false := by simpa using hne
      rw [this]
      exact lookup_nodup hk.2 h
/-! ### an object that is built -/
/-- the ledger with the object at k -/
abbrev Ob (L : Led) (k : Nat) (c : Str) (fs : List (Str × Dv)) : Led := L.set k (.obj c fs)
section
variable {L : Led} {k : Nat} {c f : Str} {fs : List (Str × Dv)} {d : Dv} {s : Sv} {xs : List Dv} {ks : List (Key × Dv)} {o : List (Str × Dv)} {c0 : Str}
theorem ob_at (hk : k < L.length) : (Ob L k c fs)[k]? = some (.obj c fs) := List.getElem?_set_self hk
theorem ob_stF (hk : k < L.length) (hl : fs.length < 900) : stF f [c] (.val (.own k)) d (Ob L k c fs) = some (Ob L k c (putFd f d fs)) := by
  unfold stF
  simp only [ob_at hk, List.mem_singleton, hl, and_self, if_true]
  rw [List.set_set]
theorem ob_fld (hk : k < L.length) : gFld f [c] (.val (.own k)) (Ob L k c fs) = (fs.lookup f).map .val := by
  unfold gFld
  have : (Sv.val (.own k)).ob (Ob L k c fs) = some (c, fs) := ob_own (ob_at hk)
  rw [this]
  simp
theorem fld_obj : gFld f [c] (.val (.obj c fs)) L = (fs.lookup f).map .val := by simp [gFld]
theorem ob_sq (h0 : L[k]? = some (.obj c0 o)) (h : s.sq L = some xs) : s.sq (Ob L k c fs) = some xs := by
  rcases sq_cases h with rfl | rfl | ⟨j, rfl, e⟩
  · rfl
  · rfl
  · have : k ≠ j := fun z => by subst z; rw [h0] at e; cases e
    exact sq_own0 (by rw [List.getElem?_set_ne this]; exact e)
theorem ob_row (h0 : L[k]? = some (.obj c0 o)) (h : RowAt L d ks) : RowAt (Ob L k c fs) d ks := by
  rcases row_cases h with rfl | ⟨j, rfl, e⟩
  · rfl
  · have : k ≠ j := fun z => by subst z; rw [h0] at e; cases e
    exact row_own (by rw [List.getElem?_set_ne this]; exact e)
theorem gone_row {j : Nat} {ys : List Dv} (h0 : L[j]? = some (.lst ys)) (h : RowAt L d ks) : RowAt (L.set j .gone) d ks := near_row (s := .val (.own j)) (.inr ⟨j, ys, rfl, h0, rfl⟩) h
end
theorem paired_get {α β : Type} {R : α → β → Prop} : ∀ {l : List α} {m : List β} {i : Nat} {x : α}, Paired R l m → l[i]? = some x → ∃ y, m[i]? = some y ∧ R x y
  | _, _, _, _, .nil, h => by simp at h
  | _, _, 0, _, .cons h _, e => by simp at e; subst e; exact ⟨_, rfl, h⟩
  | _, _, i + 1, _, .cons _ r, e => by
    obtain ⟨y, a, b⟩ := paired_get (i := i) r (by simpa using e)
    exact ⟨y, by simpa using a, b⟩
theorem paired_zip {α β : Type} {R : α → β → Prop} : ∀ {l : List α} {m : List β}, Paired R l m → ∃ ps : List (α × β), l = ps.map (·.1) ∧ m = ps.map (·.2) ∧ ∀ p ∈ ps, R p.1 p.2
  | _, _, .nil => ⟨[], rfl, rfl, by simp⟩
  | a :: _, b :: _, .cons h r => by
    obtain ⟨ps, e1, e2, q⟩ := paired_zip r
    exact ⟨(a, b) :: ps, by rw [e1]; rfl, by rw [e2]; rfl, by
      intro p hp
      rcases List.mem_cons.mp hp with rfl | hp
      · exact h
      · exact q p hp⟩
end DL

/-! Plain laws, part 5: what is shown. -/
namespace DL
open PySem PySem.Spec PyProof.Rows L2
def shownOf (d : Dv) : Str := (d.py.map PyData.shown).getD Str.empty
theorem repr_shown {n k : Nat} {d : Dv} (h : OkB n k d) (hn : n ≤ 200000) (hk : k ≤ 64) : (∀ L, gRepr [.val d] L = some (.val (.str (shownOf d)))) ∧ (shownOf d).length ≤ 66 * n + 64 := by
  obtain ⟨p, e, r⟩ := leaf_py d h.leaf
  have h1 := PyData.shown_le_bulk 64 (by decide) p r.short
  have hb := h.blk
  rw [r.bulk] at h1
  have h3 : p.shown.length ≤ 66 * n + 64 := Nat.le_trans h1 (by omega)
  have h2 : p.shown.length ≤ sizeLine := by rw [sizeLine_eq]; omega
  have ok : okR p = true := by
    simp only [okR, Bool.and_eq_true, decide_eq_true_eq]
    exact ⟨⟨r.show_, by rw [r.depth]; exact Nat.le_trans h.dep hk⟩, h2⟩
  refine ⟨fun L => by simp [gRepr, Sv.py, e, ok, shownOf], ?_⟩
  simp only [shownOf, e, Option.map_some, Option.getD_some]
  exact h3
theorem fmt_shown {n k : Nat} {xs : List Dv} {L : Led} (h : OkB n k (.lst xs)) (hn : n ≤ 200000) (hk : k ≤ 64) : gFmtP (.val (.lst xs)) L = some (.val (.str (shownOf (.lst xs)))) := by
  obtain ⟨p, e, r⟩ := leaf_py _ h.leaf
  have h1 := PyData.shown_le_bulk 64 (by decide) p r.short
  have hb := h.blk
  rw [r.bulk] at h1
  have h2 : p.shown.length ≤ sizeLine := by rw [sizeLine_eq]; omega
  have ok : okF p = true := by
    have hp : ∃ ps, p = .list ps := by
      simp only [Dv.py] at e
      cases hq : pys xs with
      | none => rw [hq] at e; cases e
      | some q => rw [hq] at e; cases e; exact ⟨q, rfl⟩
    obtain ⟨ps, rfl⟩ := hp
    simp only [okF, okR, Bool.and_eq_true, decide_eq_true_eq]
    exact ⟨⟨⟨r.show_, by rw [r.depth]; exact Nat.le_trans h.dep hk⟩, h2⟩, trivial⟩
  simp [gFmtP, Sv.py, e, ok, shownOf]
theorem okB_int {i : Int} (h : i.natAbs < 10 ^ 40) : OkB 0 0 (.int i) := ⟨by simpa [Dv.leaf] using h, Nat.zero_le _, Nat.zero_le _⟩
theorem okB_bl {b : Bool} : OkB 0 0 (.bl b) := ⟨rfl, Nat.zero_le _, Nat.zero_le _⟩
theorem okB_nm {z : Str} (h : Nm z) : OkB 8 0 (.str z) := ⟨h.ch, h.2.1, Nat.zero_le _⟩
theorem okB_out {many : Nat} {e : Stp} (h : StOk many e) : OkB 8 0 (outD e.2) := by
  unfold outD
  cases ho : e.2 with
  | none => exact ⟨rfl, Nat.zero_le _, Nat.zero_le _⟩
  | some z => exact okB_nm (h.nm z ho)
theorem okB_st {many : Nat} {e : Stp} (h : StOk many e) (hm : many ≤ 1000) : OkB 10 1 (stD e) := by
  have h1 := okB_out h
  have h2 : OkB 0 0 (.int (e.1 : Int)) := okB_int (by have := h.lt; omega)
  refine ⟨?_, ?_, ?_⟩
  · show (leafs [_, _]) = true
    simp [leafs, h1.leaf, h2.leaf]
  · show blks [_, _] ≤ 10
    have := h1.blk
    have := h2.blk
    simp only [blks]; omega
  · show deps [_, _] + 1 ≤ 1
    have := h1.dep
    have := h2.dep
    simp only [deps]; omega
/-- a list of like things -/
theorem okB_lst {n k m : Nat} {ds : List Dv} (h : ∀ d ∈ ds, OkB n k d) (hm : ds.length ≤ m) : OkB (m * (n + 1)) (k + 1) (.lst ds) := (ok_lst h).1.mono (Nat.mul_le_mul_right _ hm) (Nat.le_refl _)
theorem okB_tup {n k m : Nat} {ds : List Dv} (h : ∀ d ∈ ds, OkB n k d) (hm : ds.length ≤ m) : OkB (m * (n + 1)) (k + 1) (.tup ds) := (ok_lst h).2.mono (Nat.mul_le_mul_right _ hm) (Nat.le_refl _)
theorem okB_map {α : Type} {n k m : Nat} {f : α → Dv} {as : List α} (h : ∀ a ∈ as, OkB n k (f a)) (hm : as.length ≤ m) : OkB (m * (n + 1)) (k + 1) (.lst (as.map f)) := okB_lst (fun d hd => by
  obtain ⟨a, ha, rfl⟩ := List.mem_map.mp hd
  exact h a ha) (by rw [List.length_map]; exact hm)
theorem okB_mapT {α : Type} {n k m : Nat} {f : α → Dv} {as : List α} (h : ∀ a ∈ as, OkB n k (f a)) (hm : as.length ≤ m) : OkB (m * (n + 1)) (k + 1) (.tup (as.map f)) := okB_tup (fun d hd => by
  obtain ⟨a, ha, rfl⟩ := List.mem_map.mp hd
  exact h a ha) (by rw [List.length_map]; exact hm)
theorem str_empty_app (x : Str) : Str.empty ++ x = x := by
  show (⟨#[] ++ x.cps⟩ : Str) = x
  rw [Array.empty_append]
/-! ### equal data is equal -/
theorem eq_strs {z y : Str} {L : Led} : gEq (.val (.str z)) (.val (.str y)) L = some (.val (.bl (z == y))) := by
  have h : okP (.str z) (.str y) = true := by simp [okP, PyData.plain, PyData.depth]
  simp [gEq, gEqB, Sv.py, Dv.py, h, PyData.eqv]
theorem ne_strs {z y : Str} {L : Led} : gNe (.val (.str z)) (.val (.str y)) L = some (.val (.bl (!(z == y)))) := by
  have h : okP (.str z) (.str y) = true := by simp [okP, PyData.plain, PyData.depth]
  simp [gNe, gEqB, Sv.py, Dv.py, h, PyData.eqv]
/-! ### runs -/
/-- the state at the end, the outputs -/
def runF (cs : List Row) : Nat → List Str → Nat × List Str
  | i, [] => (i, [])
  | i, w :: ws => ((runF cs (rget (cs.getD i []) w).1 ws).1, (rget (cs.getD i []) w).2.toList ++ (runF cs (rget (cs.getD i []) w).1 ws).2)
def runD (p : Nat × List Str) : Dv := .tup [.int (p.1 : Int), .tup (p.2.map .str)]
theorem runF_ok {vs : List Int} {ss : List Str} {cs : List Row} (M : MOk vs ss cs) : ∀ (ws : List Str) (i : Nat), i < vs.length → (∀ w ∈ ws, w ∈ ss) → (runF cs i ws).1 < vs.length ∧ (runF cs i ws).2.length ≤ ws.length ∧ ∀ z ∈ (runF cs i ws).2, Nm z
  | [], i, hi, _ => ⟨hi, Nat.le_refl _, by simp [runF]⟩
  | w :: ws, i, hi, h => by
    have hc : cs.getD i [] ∈ cs := by
      have := M.len
      rw [List.getD_eq_getElem?_getD, List.getElem?_eq_getElem (by omega)]
      exact List.getElem_mem _
    have hs := (rget_ok (M.rows _ hc) (h w (by simp))).1
    obtain ⟨a, b, c⟩ := runF_ok M ws (rget (cs.getD i []) w).1 hs.lt (fun x hx => h x (by simp [hx]))
    refine ⟨a, ?_, ?_⟩
    · simp only [runF, List.length_append, List.length_cons]
      have : (rget (cs.getD i []) w).2.toList.length ≤ 1 := by cases (rget (cs.getD i []) w).2 <;> simp
      omega
    · intro z hz
      simp only [runF] at hz
      rcases List.mem_append.mp hz with hz | hz
      · exact hs.nm z (by simpa using hz)
      · exact c z hz
theorem okB_run {vs : List Int} {ss : List Str} {cs : List Row} (M : MOk vs ss cs) {ws : List Str} {i n : Nat} (hi : i < vs.length) (h : ∀ w ∈ ws, w ∈ ss) (hn : ws.length ≤ n) : OkB (n * 9 + 2) 2 (runD (runF cs i ws)) := by
  obtain ⟨a, b, c⟩ := runF_ok M ws i hi h
  have h1 : OkB 0 0 (.int ((runF cs i ws).1 : Int)) := okB_int (by have := M.most; omega)
  have h2 : OkB (n * 9) 1 (.tup ((runF cs i ws).2.map .str)) := okB_mapT (fun z hz => okB_nm (c z hz)) (by omega)
  refine ⟨?_, ?_, ?_⟩
  · show (leafs [_, _]) = true
    simp [leafs, h1.leaf, h2.leaf]
  · show blks [_, _] ≤ _
    have := h1.blk
    have := h2.blk
    simp only [blks]; omega
  · show deps [_, _] + 1 ≤ 2
    have := h1.dep
    have := h2.dep
    simp only [deps]; omega
end DL

/-! Plain laws, part 6: the signs of what is shown are small. -/
namespace DL
open PySem PySem.Spec PyProof.Rows L2
theorem ch_free {x : Str} : chOk x = true ↔ ∀ k, 16 ^ 8 ≤ k → k ∉ x.cps.toList := by
  simp only [chOk, List.all_eq_true, decide_eq_true_eq]
  exact ⟨fun h k hk hm => absurd (h k hm) (Nat.not_lt.mpr hk), fun h c hc => Classical.byContradiction fun n => h c (Nat.not_lt.mp n) hc⟩
theorem ch_app {x y : Str} (hx : chOk x = true) (hy : chOk y = true) : chOk (x ++ y) = true := by
  rw [ch_free] at *
  intro k hk hm
  rcases mem_cps_append.mp hm with h | h
  · exact hx k hk h
  · exact hy k hk h
theorem ch_int (i : Int) : chOk (PyData.int i).shown = true := ch_free.mpr fun k hk => shown_int_free' ⟨by omega, .inr (by omega)⟩ i
theorem ch_rc : ∀ c ∈ al, ∀ x ∈ Builtin.Str.reprChar 39 c, x < 16 ^ 8 := by decide +kernel
theorem ch_rc2 : ∀ c ∈ al, ∀ x ∈ Builtin.Str.reprChar 34 c, x < 16 ^ 8 := by decide +kernel
theorem ch_repr {z : Str} (h : Nm z) : chOk (PyData.str z).shown = true := by
  rw [PyData.shown_str]
  have hq : reprQuote z = 34 ∨ reprQuote z = 39 := by
    unfold reprQuote
    split
    · exact .inl rfl
    · exact .inr rfl
  have key : ∀ (l : List Nat) (acc : Array Nat), (∀ c ∈ l, c ∈ al) → (∀ x ∈ acc.toList, x < 16 ^ 8) → ∀ x ∈ (l.foldl (fun out c => out ++ (Builtin.Str.reprChar (reprQuote z) c).toArray) acc).toList, x < 16 ^ 8 := by
    intro l
    induction l with
    | nil => intro acc _ h; exact h
    | cons c l ih =>
      intro acc hl ha
      refine ih _ (fun y hy => hl y (by simp [hy])) fun x hx => ?_
      rw [Array.toList_append, List.mem_append] at hx
      rcases hx with hx | hx
      · exact ha x hx
      · have hc := hl c (by simp)
        rw [List.toList_toArray] at hx
        rcases hq with e | e
        · rw [e] at hx; exact ch_rc2 c hc x hx
        · rw [e] at hx; exact ch_rc c hc x hx
  simp only [chOk, List.all_eq_true, decide_eq_true_eq]
  intro c hc
  have e : (reprText z).cps.toList = (z.cps.toList.foldl (fun out c => out ++ (Builtin.Str.reprChar (reprQuote z) c).toArray) #[reprQuote z]).toList ++ [reprQuote z] := by
    unfold reprText
    rw [Array.toList_push, Array.foldl_toList]
  rw [e] at hc
  rcases List.mem_append.mp hc with hc | hc
  · refine key z.cps.toList _ h.2.2 (fun x hx => ?_) c hc
    simp at hx
    rw [hx]
    rcases hq with e | e <;> rw [e] <;> decide
  · simp at hc
    rw [hc]
    rcases hq with e | e <;> rw [e] <;> decide
theorem ch_list {xs : List PyData} (h : ∀ x ∈ xs, chOk x.shown = true) : chOk (PyData.list xs).shown = true := by
  rw [PyData.shown_list]
  refine ch_app (ch_app (by decide +kernel) ?_) (by decide +kernel)
  rw [ch_free]
  intro k hk hm
  rcases (mem_join _ _ _).mp hm with ⟨t, ht, hc⟩ | ⟨_, hc⟩
  · exact shownAll_free (fun x hx => ch_free.mp (h x hx) k hk) t ht hc
  · have : chOk (", " : Str) = true := by decide +kernel
    exact ch_free.mp this k hk hc
theorem pys_ints : ∀ vs : List Int, pys (vs.map Dv.int) = some (vs.map PyData.int)
  | [] => rfl
  | v :: vs => by simp [pys, Dv.py, pys_ints vs]
theorem ch_ints (vs : List Int) : chOk (shownOf (.lst (vs.map .int))) = true := by
  simp only [shownOf, Dv.py, pys_ints, Option.map_some, Option.getD_some]
  exact ch_list fun x hx => by
    obtain ⟨v, _, rfl⟩ := List.mem_map.mp hx
    exact ch_int v
theorem ch_names {zs : List Str} (h : ∀ z ∈ zs, Nm z) : chOk (shownOf (.lst (zs.map .str))) = true := by
  simp only [shownOf, Dv.py, pys_strs, Option.map_some, Option.getD_some]
  exact ch_list fun x hx => by
    obtain ⟨z, hz, rfl⟩ := List.mem_map.mp hx
    exact ch_repr (h z hz)
end DL

namespace K12
open PySem PySem.Spec PyProof.Rows L2 DL
def top (i : Nat) : Stmt := PySem.Challenge.pw_shortlog_k12_whole_machines_run.main.body.getD i (.Pass ⟨0, 0, 0, 0⟩)
theorem takes_wno {X : Cx} : Takes X wNo := takes_none5
theorem bt_abs : bootBuiltins "abs" = some (.builtin "abs") := by decide +kernel
theorem bt_all : bootBuiltins "all" = some (.builtin "all") := by decide +kernel
theorem bt_bool : bootBuiltins "bool" = some (.type "bool") := by decide +kernel
theorem bt_dict : bootBuiltins "dict" = some (.type "dict") := by decide +kernel
theorem bt_divmod : bootBuiltins "divmod" = some (.builtin "divmod") := by decide +kernel
theorem bt_int : bootBuiltins "int" = some (.type "int") := by decide +kernel
theorem bt_isinstance : bootBuiltins "isinstance" = some (.builtin "isinstance") := by decide +kernel
theorem bt_len : bootBuiltins "len" = some (.builtin "len") := by decide +kernel
theorem bt_list : bootBuiltins "list" = some (.type "list") := by decide +kernel
theorem bt_max : bootBuiltins "max" = some (.builtin "max") := by decide +kernel
theorem bt_min : bootBuiltins "min" = some (.builtin "min") := by decide +kernel
theorem bt_repr : bootBuiltins "repr" = some (.builtin "repr") := by decide +kernel
theorem bt_sorted : bootBuiltins "sorted" = some (.builtin "sorted") := by decide +kernel
theorem bt_str : bootBuiltins "str" = some (.type "str") := by decide +kernel
theorem bt_tuple : bootBuiltins "tuple" = some (.type "tuple") := by decide +kernel
/-! ### _law_pot -/
abbrev st_l_pot : Stmt := top 31
def b_l_pot_0 : DM Fl := sSet 2 ((dIf ((dB (dOp (gCmp fun i j => decide (i < j)) (dVar 1) ((dBi gLen (dArgs (dVar 0) (dArgs0))))))) ((dBi gAbs (dArgs ((dOp gIx (dVar 0) (dVar 1))) (dArgs0)))) (dC (.int 0))))
def b_l_pot_1 : DM Fl := sRet ((dLstO (dArgs ((dBi gMax (dArgs (dC (.int 0)) (dArgs ((dOp gSub (dVar 2) ((dOp gPow (dC (.int 10)) (dC (.int 18)))))) (dArgs0))))) (dArgs ((dOp gMod ((dOp gAdd ((dOp gAdd ((dOp gMul ((dOp gMod (dVar 2) (dC (.int 2147483587)))) (dC (.int 48271)))) ((dOp gMul (dC (.int 70001)) (dVar 1))))) (dC (.int 61)))) (dC (.int 2147483647)))) (dArgs0)))))
def fb_l_pot : DM Fl := (sSeq b_l_pot_0 b_l_pot_1)
def m_l_pot : List Sv → Led → Res Dv := mOf 3 fb_l_pot
-- 0 _law_script, 1 _law_k, 2 _law_cell
theorem sc_l_pot : FnScope ["_law_script", "_law_k", "_law_cell"] ["_law_script", "_law_k"] (defScope st_l_pot) := ⟨rfl, rfl, rfl, by decide +kernel, rfl, by decide +kernel, by decide +kernel⟩
theorem cal_l_pot {P : Program} {w : World} {K : PySem.W.Frag} {mg : Str → Option Value} {base : Heap}  (hk : SysK K) (D : DefAt K mg "_law_pot" "_law_pot" st_l_pot)  (n_abs : mg "abs" = none) (n_len : mg "len" = none) (n_max : mg "max" = none) :
    Cal P w K mg base 1 "_law_pot" "_law_pot" st_l_pot ["_law_script", "_law_k"] m_l_pot :=
  cal_of D sc_l_pot (fun F => F.binds (ps := ["_law_script", "_law_k"]) fun _ _ _ _ _ _ us hl => match us, hl with | [_, _], _ => rfl) fun m W hg hr ht hp => by
  exact (dss_cons (ds_set 2 sc_l_pot.nd (by exact rfl) (by first | exact Or.inl rfl | exact Or.inr rfl) (de_if (dt_cmp op_lt (sCmp (f := fun i j => decide (i < j))) (de_var 1 (by exact rfl) (by first | exact Or.inl rfl | exact Or.inr (Or.inl rfl) | exact Or.inr (Or.inr rfl))) (de_callB call_len' cs_len (by exact rfl) n_len bt_len (da_cons (de_var 0 (by exact rfl) (by first | exact Or.inl rfl | exact Or.inr (Or.inl rfl) | exact Or.inr (Or.inr rfl))) da_nil)) (nomark _)) (de_callB call_abs cs_1I (by exact rfl) n_abs bt_abs (da_cons (de_sub (de_var 0 (by exact rfl) (by first | exact Or.inl rfl | exact Or.inr (Or.inl rfl) | exact Or.inr (Or.inr rfl))) (de_var 1 (by exact rfl) (by first | exact Or.inl rfl | exact Or.inr (Or.inl rfl) | exact Or.inr (Or.inr rfl))) (fun _ _ => (by exact rfl))) da_nil)) de_int))
    (dss_one (ds_ret (de_lstO (da_cons (de_callB (call_max2 (by exact rfl)) cs_2I (by exact rfl) n_max bt_max (da_cons de_int (da_cons (de_op op_sub sSub (de_var 2 (by exact rfl) (by first | exact Or.inl rfl | exact Or.inr (Or.inl rfl) | exact Or.inr (Or.inr rfl))) (de_op op_pow sPow de_int de_int)) da_nil))) (da_cons (de_op op_mod sMod (de_op oAdd sAdd (de_op oAdd sAdd (de_op oMul sMul (de_op op_mod sMod (de_var 2 (by exact rfl) (by first | exact Or.inl rfl | exact Or.inr (Or.inl rfl) | exact Or.inr (Or.inr rfl))) de_int) de_int) (de_op oMul sMul de_int (de_var 1 (by exact rfl) (by first | exact Or.inl rfl | exact Or.inr (Or.inl rfl) | exact Or.inr (Or.inr rfl))))) de_int) de_int) da_nil))))))
/-! ### _law_digit -/
abbrev st_l_digit : Stmt := top 32
def b_l_digit_0 : DM Fl := sAsg ((dBi gDivmod (dArgs ((dOp gIx (dVar 0) (dC (.int 0)))) (dArgs (dVar 1) (dArgs0))))) (gTup' 2 (gsC (gSt (dVar 0) (dC (.int 0))) (gsC (gN 2) gs0)))
def b_l_digit_1 : DM Fl := sRet (dVar 2)
def b_l_digit_2 : DM Fl := sIf (dB (dOp (gCmp fun i j => decide (j < i)) ((dOp gIx (dVar 0) (dC (.int 0)))) (dC (.int 0)))) ((sSeq b_l_digit_0 b_l_digit_1)) (sNil)
def b_l_digit_3 : DM Fl := sAsg ((dOp gMod ((dOp gAdd ((dOp gMul ((dOp gIx (dVar 0) (dC (.int 1)))) (dC (.int 39373)))) (dC (.int 15017)))) (dC (.int 2147483629)))) (gSt (dVar 0) (dC (.int 1)))
def b_l_digit_4 : DM Fl := sRet ((dOp gMod ((dOp gFdiv ((dOp gMod ((dOp gMul ((dOp gIx (dVar 0) (dC (.int 1)))) ((dOp gIx (dVar 0) (dC (.int 1)))))) (dC (.int 2147483563)))) (dC (.int 13)))) (dVar 1)))
def fb_l_digit : DM Fl := (sSeq b_l_digit_2 (sSeq b_l_digit_3 b_l_digit_4))
def m_l_digit : List Sv → Led → Res Dv := mOf 3 fb_l_digit
-- 0 _law_pot_here, 1 _law_many, 2 _law_digit_here
theorem sc_l_digit : FnScope ["_law_pot_here", "_law_many", "_law_digit_here"] ["_law_pot_here", "_law_many"] (defScope st_l_digit) := ⟨rfl, rfl, rfl, by decide +kernel, rfl, by decide +kernel, by decide +kernel⟩
theorem cal_l_digit {P : Program} {w : World} {K : PySem.W.Frag} {mg : Str → Option Value} {base : Heap}  (hk : SysK K) (D : DefAt K mg "_law_digit" "_law_digit" st_l_digit)  (n_divmod : mg "divmod" = none) :
    Cal P w K mg base 1 "_law_digit" "_law_digit" st_l_digit ["_law_pot_here", "_law_many"] m_l_digit :=
  cal_of D sc_l_digit (fun F => F.binds (ps := ["_law_pot_here", "_law_many"]) fun _ _ _ _ _ _ us hl => match us, hl with | [_, _], _ => rfl) fun m W hg hr ht hp => by
  exact (dss_cons (ds_if (dt_cmp op_gt (sCmp (f := fun i j => decide (j < i))) (de_sub (de_var 0 (by exact rfl) (by first | exact Or.inl rfl | exact Or.inr (Or.inl rfl) | exact Or.inr (Or.inr rfl))) de_int (fun _ _ => (by exact rfl))) de_int (nomark _)) (dss_cons (ds_asg (de_callB call_divmodW cs_divmod (by exact rfl) n_divmod bt_divmod (da_cons (de_sub (de_var 0 (by exact rfl) (by first | exact Or.inl rfl | exact Or.inr (Or.inl rfl) | exact Or.inr (Or.inr rfl))) de_int (fun _ _ => (by exact rfl))) (da_cons (de_var 1 (by exact rfl) (by first | exact Or.inl rfl | exact Or.inr (Or.inl rfl) | exact Or.inr (Or.inr rfl))) da_nil))) (dg_tupG (by exact rfl) (dgs_cons (dg_sub (W := wNo) (u_of hr (by decide)) (de_var 0 (by exact rfl) (by first | exact Or.inl rfl | exact Or.inr (Or.inl rfl) | exact Or.inr (Or.inr rfl))) de_int) (dgs_cons (dg_name 2 sc_l_digit.nd (by exact rfl) (by first | exact Or.inl rfl | exact Or.inr rfl)) dgs_nil (by exact rfl)) (by exact rfl))) gTup'_ne)
    (dss_one (ds_ret (de_var 2 (by exact rfl) (by first | exact Or.inl rfl | exact Or.inr (Or.inl rfl) | exact Or.inr (Or.inr rfl)))))) dss_nil)
    (dss_cons (ds_asg (de_op op_mod sMod (de_op oAdd sAdd (de_op oMul sMul (de_sub (de_var 0 (by exact rfl) (by first | exact Or.inl rfl | exact Or.inr (Or.inl rfl) | exact Or.inr (Or.inr rfl))) de_int (fun _ _ => (by exact rfl))) de_int) de_int) de_int) (dg_sub (W := wNo) (u_of hr (by decide)) (de_var 0 (by exact rfl) (by first | exact Or.inl rfl | exact Or.inr (Or.inl rfl) | exact Or.inr (Or.inr rfl))) de_int) gSt_ne)
    (dss_one (ds_ret (de_op op_mod sMod (de_op op_fdiv sFdiv (de_op op_mod sMod (de_op oMul sMul (de_sub (de_var 0 (by exact rfl) (by first | exact Or.inl rfl | exact Or.inr (Or.inl rfl) | exact Or.inr (Or.inr rfl))) de_int (fun _ _ => (by exact rfl))) (de_sub (de_var 0 (by exact rfl) (by first | exact Or.inl rfl | exact Or.inr (Or.inl rfl) | exact Or.inr (Or.inr rfl))) de_int (fun _ _ => (by exact rfl)))) de_int) de_int) (de_var 1 (by exact rfl) (by first | exact Or.inl rfl | exact Or.inr (Or.inl rfl) | exact Or.inr (Or.inr rfl))))))))
/-! ### _law_pick -/
abbrev st_l_pick : Stmt := top 33
def b_l_pick_0 : DM Fl := sRet ((dOp gIx (dVar 1) ((dCall 2 m_l_digit (dArgs (dVar 0) (dArgs ((dBi gLen (dArgs (dVar 1) (dArgs0)))) (dArgs0)))))))
def fb_l_pick : DM Fl := b_l_pick_0
def m_l_pick : List Sv → Led → Res Dv := mOf 2 fb_l_pick
-- 0 _law_pot_here, 1 _law_some
theorem sc_l_pick : FnScope ["_law_pot_here", "_law_some"] ["_law_pot_here", "_law_some"] (defScope st_l_pick) := ⟨rfl, rfl, rfl, by decide +kernel, rfl, by decide +kernel, by decide +kernel⟩
theorem cal_l_pick {P : Program} {w : World} {K : PySem.W.Frag} {mg : Str → Option Value} {base : Heap}  (hk : SysK K) (D : DefAt K mg "_law_pick" "_law_pick" st_l_pick) (c_l_digit : Cal P w K mg base 1 "_law_digit" "_law_digit" st_l_digit ["_law_pot_here", "_law_many"] m_l_digit) (n_len : mg "len" = none) :
    Cal P w K mg base 2 "_law_pick" "_law_pick" st_l_pick ["_law_pot_here", "_law_some"] m_l_pick :=
  cal_of D sc_l_pick (fun F => F.binds (ps := ["_law_pot_here", "_law_some"]) fun _ _ _ _ _ _ us hl => match us, hl with | [_, _], _ => rfl) fun m W hg hr ht hp => by
  exact (dss_one (ds_ret (de_sub (de_var 1 (by exact rfl) (by first | exact Or.inl rfl | exact Or.inr (Or.inl rfl) | exact Or.inr (Or.inr rfl))) (de_cal c_l_digit (by exact rfl) (by exact rfl) hg hr (by decide) ht (da_cons (de_var 0 (by exact rfl) (by first | exact Or.inl rfl | exact Or.inr (Or.inl rfl) | exact Or.inr (Or.inr rfl))) (da_cons (de_callB call_len' cs_len (by exact rfl) n_len bt_len (da_cons (de_var 1 (by exact rfl) (by first | exact Or.inl rfl | exact Or.inr (Or.inl rfl) | exact Or.inr (Or.inr rfl))) da_nil)) da_nil))) (fun _ _ => (by exact rfl)))))
/-! ### _law_names -/
abbrev st_l_names : Stmt := top 34
def b_l_names_0 : DM Fl := sParT [3, 4] [.e (dC (.str "abcdefghijklmnopqrstuvwxyz")), .l (dArgs0)]
def b_l_names_1 : DM Fl := sSet 5 ((dLst (dArgs (dC (.str "state")) (dArgs (dC (.str "reader")) (dArgs (dC (.str "entries")) (dArgs (dC (.str "limit")) (dArgs (dC (.str "alphabet")) (dArgs (dC (.str "read")) (dArgs (dC (.str "append")) (dArgs (dC (.str "a")) (dArgs (dC (.str "count")) (dArgs (dC (.str "tell")) (dArgs (dC (.str "zzzzzzzz")) (dArgs0))))))))))))))
def b_l_names_2 : DM Fl := sSet 7 ((dCall 2 m_l_pick (dArgs (dVar 0) (dArgs (dVar 5) (dArgs0)))))
def ce_l_names_3 : DM Sv := (dCall 2 m_l_pick (dArgs (dVar 0) (dArgs (dVar 3) (dArgs0))))
def b_l_names_4 : DM Fl := sSet 7 ((dM1 gJoin (dC (.str "")) ((dLc (iR1 ((dOp gIx ((dLst (dArgs (dC (.int 1)) (dArgs (dC (.int 2)) (dArgs (dC (.int 3)) (dArgs (dC (.int 8)) (dArgs0))))))) ((dCall 2 m_l_digit (dArgs (dVar 0) (dArgs (dC (.int 4)) (dArgs0)))))))) (.one 11) dTr (ce_l_names_3) [11]))))
def b_l_names_5 : DM Fl := sIf (dB (dOp (gCmp fun i j => decide (j < i)) ((dCall 2 m_l_digit (dArgs (dVar 0) (dArgs (dC (.int 3)) (dArgs0))))) (dC (.int 0)))) (b_l_names_4) (sNil)
def ce_l_names_6 : DM Sv := (dOp gAdd ((dOp gAdd ((dSl (dVar 7) dPt0 (dPt1 (dC (.int 6))))) (dVar 9))) (dVar 10))
def b_l_names_7 : DM Fl := sSet 8 ((dOp gAdd ((dLst (dArgs (dVar 7) (dArgs0)))) ((dLc (iZp ((dOp gMul (dVar 3) (dC (.int 2)))) ((dOp gAdd ((dUn gRev (dVar 3))) (dVar 3)))) (.tup [9, 10]) dTr (ce_l_names_6) [9, 10]))))
def ce_l_names_8 : DM Sv := dVar 9
def b_l_names_9 : DM Fl := sApp 4 ((dOp gIx ((dLc (iV (dVar 8)) (.one 9) (dB (dOp (gIn true) (dVar 9) ((dOp gAdd (dVar 2) (dVar 4))))) (ce_l_names_8) [9])) (dC (.int 0))))
def b_l_names_10 : DM Fl := sFor (iR1 (dVar 1)) (.one 6) ((sSeq b_l_names_2 (sSeq b_l_names_5 (sSeq b_l_names_7 b_l_names_9))))
def b_l_names_11 : DM Fl := sRet (dVar 4)
def fb_l_names : DM Fl := (sSeq b_l_names_0 (sSeq b_l_names_1 (sSeq b_l_names_10 (gFrz 4 b_l_names_11))))
def m_l_names : List Sv → Led → Res Dv := mOf 12 fb_l_names
-- 0 _law_pot_here, 1 _law_many, 2 _law_used, 3 _law_letters, 4 _law_found, 5 _law_words, 6 _law_turn, 7 _law_name, 8 _law_some, 9 _law_one, 10 _law_other, 11 _law_k
theorem sc_l_names : FnScope ["_law_pot_here", "_law_many", "_law_used", "_law_letters", "_law_found", "_law_words", "_law_turn", "_law_name", "_law_some", "_law_one", "_law_other", "_law_k"] ["_law_pot_here", "_law_many", "_law_used"] (defScope st_l_names) := ⟨rfl, rfl, rfl, by decide +kernel, rfl, by decide +kernel, by decide +kernel⟩
theorem cal_l_names {P : Program} {w : World} {K : PySem.W.Frag} {mg : Str → Option Value} {base : Heap}  (hk : SysK K) (D : DefAt K mg "_law_names" "_law_names" st_l_names) (c_l_digit : Cal P w K mg base 1 "_law_digit" "_law_digit" st_l_digit ["_law_pot_here", "_law_many"] m_l_digit) (c_l_pick : Cal P w K mg base 2 "_law_pick" "_law_pick" st_l_pick ["_law_pot_here", "_law_some"] m_l_pick) (n_range : mg "range" = none) (n_zip : mg "zip" = none) :
    Cal P w K mg base 3 "_law_names" "_law_names" st_l_names ["_law_pot_here", "_law_many", "_law_used"] m_l_names :=
  cal_of D sc_l_names (fun F => F.binds (ps := ["_law_pot_here", "_law_many", "_law_used"]) fun _ _ _ _ _ _ us hl => match us, hl with | [_, _, _], _ => rfl) fun m W hg hr ht hp => by
  exact (dss_cons (ds_parT (by exact rfl) sc_l_names.nd (.cons (i := 3) (by exact rfl) (by first | exact Or.inl rfl | exact Or.inr rfl) (by first | exact Or.inl rfl | exact Or.inr rfl) (.cons (i := 4) (by exact rfl) (by first | exact Or.inl rfl | exact Or.inr rfl) (by first | exact Or.inl rfl | exact Or.inr rfl) .nil (by exact rfl)) (by exact rfl)) (dpm_e de_str (dpm_l da_nil dpm_nil)))
    (dss_cons (ds_set 5 sc_l_names.nd (by exact rfl) (by first | exact Or.inl rfl | exact Or.inr rfl) (de_lst (da_cons de_str (da_cons de_str (da_cons de_str (da_cons de_str (da_cons de_str (da_cons de_str (da_cons de_str (da_cons de_str (da_cons de_str (da_cons de_str (da_cons de_str da_nil)))))))))))))
    (dss_cons (ds_for hp (by exact rfl) (di_range1 (by exact rfl) n_range (de_var 1 (by exact rfl) (by first | exact Or.inl rfl | exact Or.inr (Or.inl rfl) | exact Or.inr (Or.inr rfl)))) (dtg_name 6 sc_l_names.nd (by exact rfl) (by first | exact Or.inl rfl | exact Or.inr rfl)) (dss_cons (ds_set 7 sc_l_names.nd (by exact rfl) (by first | exact Or.inl rfl | exact Or.inr rfl) (de_cal c_l_pick (by exact rfl) (by exact rfl) hg hr (by decide) ht (da_cons (de_var 0 (by exact rfl) (by first | exact Or.inl rfl | exact Or.inr (Or.inl rfl) | exact Or.inr (Or.inr rfl))) (da_cons (de_var 5 (by exact rfl) (by first | exact Or.inl rfl | exact Or.inr (Or.inl rfl) | exact Or.inr (Or.inr rfl))) da_nil))))
    (dss_cons (ds_if (dt_cmp op_gt (sCmp (f := fun i j => decide (j < i))) (de_cal c_l_digit (by exact rfl) (by exact rfl) hg hr (by decide) ht (da_cons (de_var 0 (by exact rfl) (by first | exact Or.inl rfl | exact Or.inr (Or.inl rfl) | exact Or.inr (Or.inr rfl))) (da_cons de_int da_nil))) de_int (nomark _)) (dss_one (ds_set 7 sc_l_names.nd (by exact rfl) (by first | exact Or.inl rfl | exact Or.inr rfl) (de_join de_str (de_lc (by exact rfl) sc_l_names.nd (di_range1 (by exact rfl) n_range (de_sub (de_lst (da_cons de_int (da_cons de_int (da_cons de_int (da_cons de_int da_nil))))) (de_cal c_l_digit (by exact rfl) (by exact rfl) hg hr (by decide) ht (da_cons (de_var 0 (by exact rfl) (by first | exact Or.inl rfl | exact Or.inr (Or.inl rfl) | exact Or.inr (Or.inr rfl))) (da_cons de_int da_nil))) (fun _ _ => (by exact rfl)))) (blkOk_by (own := [("_law_k", 11)]) (by exact rfl)) (fun _ _ _ _ _ => (dtg_name 11 sc_l_names.nd (by exact rfl) (by first | exact Or.inl rfl | exact Or.inr rfl))) (fun _ _ _ _ _ => dts_nil) (fun _ _ _ _ _ => (de_cal c_l_pick (by exact rfl) (by exact rfl) hg hr (by decide) takes_wno (da_cons (de_var 0 (by exact rfl) (by first | exact Or.inl rfl | exact Or.inr (Or.inl rfl) | exact Or.inr (Or.inr rfl))) (da_cons (de_var 3 (by exact rfl) (by first | exact Or.inl rfl | exact Or.inr (Or.inl rfl) | exact Or.inr (Or.inr rfl))) da_nil)))) (by decide))))) dss_nil)
    (dss_cons (ds_set 8 sc_l_names.nd (by exact rfl) (by first | exact Or.inl rfl | exact Or.inr rfl) (de_op oAdd sAdd (de_lst (da_cons (de_var 7 (by exact rfl) (by first | exact Or.inl rfl | exact Or.inr (Or.inl rfl) | exact Or.inr (Or.inr rfl))) da_nil)) (de_lc (by exact rfl) sc_l_names.nd (di_zip (by exact rfl) n_zip (de_op oMul sMul (de_var 3 (by exact rfl) (by first | exact Or.inl rfl | exact Or.inr (Or.inl rfl) | exact Or.inr (Or.inr rfl))) de_int) (de_op oAdd sAdd (de_rev (de_var 3 (by exact rfl) (by first | exact Or.inl rfl | exact Or.inr (Or.inl rfl) | exact Or.inr (Or.inr rfl)))) (de_var 3 (by exact rfl) (by first | exact Or.inl rfl | exact Or.inr (Or.inl rfl) | exact Or.inr (Or.inr rfl))))) (blkOk_by (own := [("_law_one", 9), ("_law_other", 10)]) (by exact rfl)) (fun _ _ _ _ _ => (dtg_tup (by exact rfl) sc_l_names.nd (.cons (i := 9) (by exact rfl) (by first | exact Or.inl rfl | exact Or.inr rfl) (by first | exact Or.inl rfl | exact Or.inr rfl) (.cons (i := 10) (by exact rfl) (by first | exact Or.inl rfl | exact Or.inr rfl) (by first | exact Or.inl rfl | exact Or.inr rfl) .nil (by exact rfl)) (by exact rfl)))) (fun _ _ _ _ _ => dts_nil) (fun _ _ _ _ _ => (de_op oAdd sAdd (de_op oAdd sAdd (de_slice (de_var 7 (by exact rfl) (by first | exact Or.inl rfl | exact Or.inr (Or.inl rfl) | exact Or.inr (Or.inr rfl))) dp_none (dp_some de_int)) (de_var 9 (by exact rfl) (by first | exact Or.inl rfl | exact Or.inr (Or.inl rfl) | exact Or.inr (Or.inr rfl)))) (de_var 10 (by exact rfl) (by first | exact Or.inl rfl | exact Or.inr (Or.inl rfl) | exact Or.inr (Or.inr rfl))))) (by decide))))
    (dss_one (ds_app 4 (by exact rfl) (by first | exact Or.inl rfl | exact Or.inr (Or.inl rfl) | exact Or.inr (Or.inr rfl)) (de_sub (de_lc (by exact rfl) sc_l_names.nd (di_val (de_var 8 (by exact rfl) (by first | exact Or.inl rfl | exact Or.inr (Or.inl rfl) | exact Or.inr (Or.inr rfl)))) (blkOk_by (own := [("_law_one", 9)]) (by exact rfl)) (fun _ _ _ _ _ => (dtg_name 9 sc_l_names.nd (by exact rfl) (by first | exact Or.inl rfl | exact Or.inr rfl))) (fun _ _ _ _ _ => (dts_one (dt_cmp (oNotIn (u_of hr (by decide))) (sIn hk) (de_var 9 (by exact rfl) (by first | exact Or.inl rfl | exact Or.inr (Or.inl rfl) | exact Or.inr (Or.inr rfl))) (de_op oAdd sAdd (de_var 2 (by exact rfl) (by first | exact Or.inl rfl | exact Or.inr (Or.inl rfl) | exact Or.inr (Or.inr rfl))) (de_var 4 (by exact rfl) (by first | exact Or.inl rfl | exact Or.inr (Or.inl rfl) | exact Or.inr (Or.inr rfl)))) (by exact rfl)))) (fun _ _ _ _ _ => (de_var 9 (by exact rfl) (by first | exact Or.inl rfl | exact Or.inr (Or.inl rfl) | exact Or.inr (Or.inr rfl)))) (by decide)) de_int (fun _ _ => (by exact rfl)))))))))
    (dss_frz 4 (dss_one (ds_ret (de_var 4 (by exact rfl) (by first | exact Or.inl rfl | exact Or.inr (Or.inl rfl) | exact Or.inr (Or.inr rfl)))))))))
/-! ### _law_mixed -/
abbrev st_l_mixed : Stmt := top 35
def b_l_mixed_0 : DM Fl := sSet 2 ((dBiL true gLst4 (dArgs (dVar 1) (dArgs0))))
def ce_l_mixed_1 : DM Sv := (dLm gmPop (dVar 2) (dArgs ((dCall 2 m_l_digit (dArgs (dVar 0) (dArgs ((dBi gLen (dArgs (dVar 2) (dArgs0)))) (dArgs0))))) (dArgs0)))
def b_l_mixed_2 : DM Fl := sRet ((dLc (iR1 ((dBi gLen (dArgs (dVar 1) (dArgs0))))) (.one 3) dTr (ce_l_mixed_1) [3]))
def fb_l_mixed : DM Fl := (sSeq b_l_mixed_0 b_l_mixed_2)
def m_l_mixed : List Sv → Led → Res Dv := mOf 4 fb_l_mixed
-- 0 _law_pot_here, 1 _law_some, 2 _law_pack, 3 _law_turn
theorem sc_l_mixed : FnScope ["_law_pot_here", "_law_some", "_law_pack", "_law_turn"] ["_law_pot_here", "_law_some"] (defScope st_l_mixed) := ⟨rfl, rfl, rfl, by decide +kernel, rfl, by decide +kernel, by decide +kernel⟩
theorem cal_l_mixed {P : Program} {w : World} {K : PySem.W.Frag} {mg : Str → Option Value} {base : Heap}  (hk : SysK K) (D : DefAt K mg "_law_mixed" "_law_mixed" st_l_mixed) (c_l_digit : Cal P w K mg base 1 "_law_digit" "_law_digit" st_l_digit ["_law_pot_here", "_law_many"] m_l_digit) (n_len : mg "len" = none) (n_list : mg "list" = none) (n_range : mg "range" = none) :
    Cal P w K mg base 2 "_law_mixed" "_law_mixed" st_l_mixed ["_law_pot_here", "_law_some"] m_l_mixed :=
  cal_of D sc_l_mixed (fun F => F.binds (ps := ["_law_pot_here", "_law_some"]) fun _ _ _ _ _ _ us hl => match us, hl with | [_, _], _ => rfl) fun m W hg hr ht hp => by
  exact (dss_cons (ds_set 2 sc_l_mixed.nd (by exact rfl) (by first | exact Or.inl rfl | exact Or.inr rfl) (de_tL (call_list4 (by exact rfl)) ls_list4 (by exact rfl) n_list bt_list (da_cons (de_var 1 (by exact rfl) (by first | exact Or.inl rfl | exact Or.inr (Or.inl rfl) | exact Or.inr (Or.inr rfl))) da_nil)))
    (dss_one (ds_ret (de_lc (by exact rfl) sc_l_mixed.nd (di_range1 (by exact rfl) n_range (de_callB call_len' cs_len (by exact rfl) n_len bt_len (da_cons (de_var 1 (by exact rfl) (by first | exact Or.inl rfl | exact Or.inr (Or.inl rfl) | exact Or.inr (Or.inr rfl))) da_nil))) (blkOk_by (own := [("_law_turn", 3)]) (by exact rfl)) (fun _ _ _ _ _ => (dtg_name 3 sc_l_mixed.nd (by exact rfl) (by first | exact Or.inl rfl | exact Or.inr rfl))) (fun _ _ _ _ _ => dts_nil) (fun _ _ _ _ _ => (de_lpop (de_var 2 (by exact rfl) (by first | exact Or.inl rfl | exact Or.inr (Or.inl rfl) | exact Or.inr (Or.inr rfl))) (da_cons (de_cal c_l_digit (by exact rfl) (by exact rfl) hg hr (by decide) takes_wno (da_cons (de_var 0 (by exact rfl) (by first | exact Or.inl rfl | exact Or.inr (Or.inl rfl) | exact Or.inr (Or.inr rfl))) (da_cons (de_callB call_len' cs_len (by exact rfl) n_len bt_len (da_cons (de_var 2 (by exact rfl) (by first | exact Or.inl rfl | exact Or.inr (Or.inl rfl) | exact Or.inr (Or.inr rfl))) da_nil)) da_nil))) da_nil))) (by decide)))))
/-! ### _law_table -/
abbrev st_l_table : Stmt := top 36
def b_l_table_0 : DM Fl := sPar 3 4 [.e ((dOp gAdd (dC (.int 1)) ((dCall 2 m_l_digit (dArgs (dVar 0) (dArgs (dVar 2) (dArgs0))))))), .e ((dLst (dArgs (dC (.str "x")) (dArgs (dC (.str "y")) (dArgs (dC (.str "odd")) (dArgs0))))))]
def b_l_table_1 : DM Fl := sPar 5 6 [.e ((dCall 2 m_l_digit (dArgs (dVar 0) (dArgs (dC (.int 4)) (dArgs0))))), .l (dArgs0)]
def b_l_table_2 : DM Fl := sSetD 8
def b_l_table_3 : DM Fl := sSet 10 ((dIf ((dAnd (dB (dOp (gCmp fun i j => decide (j < i)) (dVar 5) (dC (.int 0)))) (dB (dOp (gCmp fun i j => decide (i < j)) ((dCall 2 m_l_digit (dArgs (dVar 0) (dArgs (dC (.int 4)) (dArgs0))))) (dVar 5))))) ((dCall 2 m_l_pick (dArgs (dVar 0) (dArgs (dVar 4) (dArgs0))))) (dC .non)))
def b_l_table_4 : DM Fl := sAsg ((dTup (dArgs ((dCall 2 m_l_digit (dArgs (dVar 0) (dArgs (dVar 3) (dArgs0))))) (dArgs (dVar 10) (dArgs0))))) (gPut 8 (dVar 9))
def b_l_table_5 : DM Fl := sFor (iV ((dCall 2 m_l_mixed (dArgs (dVar 0) (dArgs (dVar 1) (dArgs0)))))) (.one 9) ((sSeq b_l_table_3 b_l_table_4))
def b_l_table_6 : DM Fl := sApp 6 (dVar 8)
def b_l_table_7 : DM Fl := sFor (iR1 (dVar 3)) (.one 7) ((sSeq b_l_table_2 (sSeq b_l_table_5 (gFrz 8 b_l_table_6))))
def ce_l_table_8 : DM Sv := (dOp gSub ((dCall 2 m_l_digit (dArgs (dVar 0) (dArgs (dC (.int 4)) (dArgs0))))) (dC (.int 1)))
def b_l_table_9 : DM Fl := sRet ((dDic [(dC (.str "values"), (dLc (iR1 (dVar 3)) (.one 7) dTr (ce_l_table_8) [7])), (dC (.str "steps"), dVar 6)]))
def fb_l_table : DM Fl := (sSeq b_l_table_0 (sSeq b_l_table_1 (sSeq b_l_table_7 (gFrz 6 b_l_table_9))))
def m_l_table : List Sv → Led → Res Dv := mOf 11 fb_l_table
-- 0 _law_pot_here, 1 _law_letters, 2 _law_most, 3 _law_many, 4 _law_words, 5 _law_told, 6 _law_steps, 7 _law_k, 8 _law_row, 9 _law_letter, 10 _law_written
theorem sc_l_table : FnScope ["_law_pot_here", "_law_letters", "_law_most", "_law_many", "_law_words", "_law_told", "_law_steps", "_law_k", "_law_row", "_law_letter", "_law_written"] ["_law_pot_here", "_law_letters", "_law_most"] (defScope st_l_table) := ⟨rfl, rfl, rfl, by decide +kernel, rfl, by decide +kernel, by decide +kernel⟩
theorem cal_l_table {P : Program} {w : World} {K : PySem.W.Frag} {mg : Str → Option Value} {base : Heap}  (hk : SysK K) (D : DefAt K mg "_law_table" "_law_table" st_l_table) (c_l_digit : Cal P w K mg base 1 "_law_digit" "_law_digit" st_l_digit ["_law_pot_here", "_law_many"] m_l_digit) (c_l_pick : Cal P w K mg base 2 "_law_pick" "_law_pick" st_l_pick ["_law_pot_here", "_law_some"] m_l_pick) (c_l_mixed : Cal P w K mg base 2 "_law_mixed" "_law_mixed" st_l_mixed ["_law_pot_here", "_law_some"] m_l_mixed) (n_range : mg "range" = none) :
    Cal P w K mg base 3 "_law_table" "_law_table" st_l_table ["_law_pot_here", "_law_letters", "_law_most"] m_l_table :=
  cal_of D sc_l_table (fun F => F.binds (ps := ["_law_pot_here", "_law_letters", "_law_most"]) fun _ _ _ _ _ _ us hl => match us, hl with | [_, _, _], _ => rfl) fun m W hg hr ht hp => by
  exact (dss_cons (ds_par (by exact rfl) sc_l_table.nd (by exact rfl) (by exact rfl) (by decide) (by exact rfl) (by exact rfl) (dpm_e (de_op oAdd sAdd de_int (de_cal c_l_digit (by exact rfl) (by exact rfl) hg hr (by decide) ht (da_cons (de_var 0 (by exact rfl) (by first | exact Or.inl rfl | exact Or.inr (Or.inl rfl) | exact Or.inr (Or.inr rfl))) (da_cons (de_var 2 (by exact rfl) (by first | exact Or.inl rfl | exact Or.inr (Or.inl rfl) | exact Or.inr (Or.inr rfl))) da_nil)))) (dpm_e (de_lst (da_cons de_str (da_cons de_str (da_cons de_str da_nil)))) dpm_nil)) (by exact rfl))
    (dss_cons (ds_par (by exact rfl) sc_l_table.nd (by exact rfl) (by exact rfl) (by decide) (by exact rfl) (by exact rfl) (dpm_e (de_cal c_l_digit (by exact rfl) (by exact rfl) hg hr (by decide) ht (da_cons (de_var 0 (by exact rfl) (by first | exact Or.inl rfl | exact Or.inr (Or.inl rfl) | exact Or.inr (Or.inr rfl))) (da_cons de_int da_nil))) (dpm_l da_nil dpm_nil)) (by exact rfl))
    (dss_cons (ds_for hp (by exact rfl) (di_range1 (by exact rfl) n_range (de_var 3 (by exact rfl) (by first | exact Or.inl rfl | exact Or.inr (Or.inl rfl) | exact Or.inr (Or.inr rfl)))) (dtg_name 7 sc_l_table.nd (by exact rfl) (by first | exact Or.inl rfl | exact Or.inr rfl)) (dss_cons (ds_setD 8 sc_l_table.nd (by exact rfl) (by first | exact Or.inl rfl | exact Or.inr rfl))
    (dss_cons (ds_for hp (by exact rfl) (di_val (de_cal c_l_mixed (by exact rfl) (by exact rfl) hg hr (by decide) ht (da_cons (de_var 0 (by exact rfl) (by first | exact Or.inl rfl | exact Or.inr (Or.inl rfl) | exact Or.inr (Or.inr rfl))) (da_cons (de_var 1 (by exact rfl) (by first | exact Or.inl rfl | exact Or.inr (Or.inl rfl) | exact Or.inr (Or.inr rfl))) da_nil)))) (dtg_name 9 sc_l_table.nd (by exact rfl) (by first | exact Or.inl rfl | exact Or.inr rfl)) (dss_cons (ds_set 10 sc_l_table.nd (by exact rfl) (by first | exact Or.inl rfl | exact Or.inr rfl) (de_if (PW.pt (dw_and (dt_cmp op_gt (sCmp (f := fun i j => decide (j < i))) (de_var 5 (by exact rfl) (by first | exact Or.inl rfl | exact Or.inr (Or.inl rfl) | exact Or.inr (Or.inr rfl))) de_int (nomark _)) (dw_and1 (dt_cmp op_lt (sCmp (f := fun i j => decide (i < j))) (de_cal c_l_digit (by exact rfl) (by exact rfl) hg hr (by decide) ht (da_cons (de_var 0 (by exact rfl) (by first | exact Or.inl rfl | exact Or.inr (Or.inl rfl) | exact Or.inr (Or.inr rfl))) (da_cons de_int da_nil))) (de_var 5 (by exact rfl) (by first | exact Or.inl rfl | exact Or.inr (Or.inl rfl) | exact Or.inr (Or.inr rfl))) (nomark _))))) (de_cal c_l_pick (by exact rfl) (by exact rfl) hg hr (by decide) ht (da_cons (de_var 0 (by exact rfl) (by first | exact Or.inl rfl | exact Or.inr (Or.inl rfl) | exact Or.inr (Or.inr rfl))) (da_cons (de_var 4 (by exact rfl) (by first | exact Or.inl rfl | exact Or.inr (Or.inl rfl) | exact Or.inr (Or.inr rfl))) da_nil))) de_non))
    (dss_one (ds_asg (de_tup (da_cons (de_cal c_l_digit (by exact rfl) (by exact rfl) hg hr (by decide) ht (da_cons (de_var 0 (by exact rfl) (by first | exact Or.inl rfl | exact Or.inr (Or.inl rfl) | exact Or.inr (Or.inr rfl))) (da_cons (de_var 3 (by exact rfl) (by first | exact Or.inl rfl | exact Or.inr (Or.inl rfl) | exact Or.inr (Or.inr rfl))) da_nil))) (da_cons (de_var 10 (by exact rfl) (by first | exact Or.inl rfl | exact Or.inr (Or.inl rfl) | exact Or.inr (Or.inr rfl))) da_nil))) (dg_put 8 (u_of hr (by decide)) (by exact rfl) (by first | exact Or.inl rfl | exact Or.inr (Or.inl rfl) | exact Or.inr (Or.inr rfl)) (de_var 9 (by exact rfl) (by first | exact Or.inl rfl | exact Or.inr (Or.inl rfl) | exact Or.inr (Or.inr rfl)))) gPut_ne))))
    (dss_frz 8 (dss_one (ds_app 6 (by exact rfl) (by first | exact Or.inl rfl | exact Or.inr (Or.inl rfl) | exact Or.inr (Or.inr rfl)) (de_var 8 (by exact rfl) (by first | exact Or.inl rfl | exact Or.inr (Or.inl rfl) | exact Or.inr (Or.inr rfl)))))))))
    (dss_frz 6 (dss_one (ds_ret (de_dic (dps_cons de_str (de_lc (by exact rfl) sc_l_table.nd (di_range1 (by exact rfl) n_range (de_var 3 (by exact rfl) (by first | exact Or.inl rfl | exact Or.inr (Or.inl rfl) | exact Or.inr (Or.inr rfl)))) (blkOk_by (own := [("_law_k", 7)]) (by exact rfl)) (fun _ _ _ _ _ => (dtg_name 7 sc_l_table.nd (by exact rfl) (by first | exact Or.inl rfl | exact Or.inr rfl))) (fun _ _ _ _ _ => dts_nil) (fun _ _ _ _ _ => (de_op op_sub sSub (de_cal c_l_digit (by exact rfl) (by exact rfl) hg hr (by decide) takes_wno (da_cons (de_var 0 (by exact rfl) (by first | exact Or.inl rfl | exact Or.inr (Or.inl rfl) | exact Or.inr (Or.inr rfl))) (da_cons de_int da_nil))) de_int)) (by decide)) (dps_cons de_str (de_var 6 (by exact rfl) (by first | exact Or.inl rfl | exact Or.inr (Or.inl rfl) | exact Or.inr (Or.inr rfl))) dps_nil)) (by exact rfl) (by exact rfl) (by simp) (by decide))))))))
/-! ### is_list -/
abbrev st_is_list : Stmt := top 13
def b_is_list_0 : DM Fl := sRet ((dBi gIsi (dArgs (dVar 0) (dArgs ((dTup (dArgs ((fun _ L => .ok (.val (.ty "list")) L)) (dArgs ((fun _ L => .ok (.val (.ty "tuple")) L)) (dArgs0))))) (dArgs0)))))
def fb_is_list : DM Fl := b_is_list_0
def m_is_list : List Sv → Led → Res Dv := mOf 1 fb_is_list
-- 0 value
theorem sc_is_list : FnScope ["value"] ["value"] (defScope st_is_list) := ⟨rfl, rfl, rfl, by decide +kernel, rfl, by decide +kernel, by decide +kernel⟩
theorem cal_is_list {P : Program} {w : World} {K : PySem.W.Frag} {mg : Str → Option Value} {base : Heap}  (hk : SysK K) (D : DefAt K mg "is_list" "is_list" st_is_list)  (n_isinstance : mg "isinstance" = none) (n_list : mg "list" = none) (n_tuple : mg "tuple" = none) :
    Cal P w K mg base 1 "is_list" "is_list" st_is_list ["value"] m_is_list :=
  cal_of D sc_is_list (fun F => F.binds (ps := ["value"]) fun _ _ _ _ _ _ us hl => match us, hl with | [_], _ => rfl) fun m W hg hr ht hp => by
  exact (dss_one (ds_ret (de_callB call_isiA cs_isi (by exact rfl) n_isinstance bt_isinstance (da_cons (de_var 0 (by exact rfl) (by first | exact Or.inl rfl | exact Or.inr (Or.inl rfl) | exact Or.inr (Or.inr rfl))) (da_cons (de_tup (da_cons (de_ty (by exact rfl) n_list bt_list) (da_cons (de_ty (by exact rfl) n_tuple bt_tuple) da_nil))) da_nil)))))
/-! ### is_integer -/
abbrev st_is_integer : Stmt := top 11
def b_is_integer_0 : DM Fl := sRet ((dAndV ((dBi gIsi (dArgs (dVar 0) (dArgs ((fun _ L => .ok (.val (.ty "int")) L)) (dArgs0))))) ((dNotV ((dBi gIsi (dArgs (dVar 0) (dArgs ((fun _ L => .ok (.val (.ty "bool")) L)) (dArgs0)))))))))
def fb_is_integer : DM Fl := b_is_integer_0
def m_is_integer : List Sv → Led → Res Dv := mOf 1 fb_is_integer
-- 0 value
theorem sc_is_integer : FnScope ["value"] ["value"] (defScope st_is_integer) := ⟨rfl, rfl, rfl, by decide +kernel, rfl, by decide +kernel, by decide +kernel⟩
theorem cal_is_integer {P : Program} {w : World} {K : PySem.W.Frag} {mg : Str → Option Value} {base : Heap}  (hk : SysK K) (D : DefAt K mg "is_integer" "is_integer" st_is_integer)  (n_bool : mg "bool" = none) (n_int : mg "int" = none) (n_isinstance : mg "isinstance" = none) :
    Cal P w K mg base 1 "is_integer" "is_integer" st_is_integer ["value"] m_is_integer :=
  cal_of D sc_is_integer (fun F => F.binds (ps := ["value"]) fun _ _ _ _ _ _ us hl => match us, hl with | [_], _ => rfl) fun m W hg hr ht hp => by
  exact (dss_one (ds_ret (de_and (de_callB call_isiA cs_isi (by exact rfl) n_isinstance bt_isinstance (da_cons (de_var 0 (by exact rfl) (by first | exact Or.inl rfl | exact Or.inr (Or.inl rfl) | exact Or.inr (Or.inr rfl))) (da_cons (de_ty (by exact rfl) n_int bt_int) da_nil))) (de_one (de_not (de_callB call_isiA cs_isi (by exact rfl) n_isinstance bt_isinstance (da_cons (de_var 0 (by exact rfl) (by first | exact Or.inl rfl | exact Or.inr (Or.inl rfl) | exact Or.inr (Or.inr rfl))) (da_cons (de_ty (by exact rfl) n_bool bt_bool) da_nil))))))))
/-! ### check_values -/
abbrev st_check_values : Stmt := top 23
def b_check_values_0 : DM Fl := sNever
def b_check_values_1 : DM Fl := sIf (dOr (dNot (dB ((dCall 1 m_is_list (dArgs (dVar 0) (dArgs0)))))) (dNot (dB (dChain (gCmp fun i j => decide (i ≤ j)) (gCmp fun i j => decide (i ≤ j)) (dC (.int 1)) ((dBi gLen (dArgs (dVar 0) (dArgs0)))) (dC (.int 64)))))) (b_check_values_0) (sNil)
def b_check_values_2 : DM Fl := sNever
def b_check_values_3 : DM Fl := sIf (dNot (dB ((dCall 1 m_is_integer (dArgs (dVar 2) (dArgs0)))))) (b_check_values_2) (sNil)
def b_check_values_4 : DM Fl := sForO true (dVar 0) (.tup [1, 2]) (b_check_values_3)
def fb_check_values : DM Fl := (sSeq b_check_values_1 b_check_values_4)
def m_check_values : List Sv → Led → Res Dv := mOf 3 fb_check_values
-- 0 values, 1 state, 2 value
theorem sc_check_values : FnScope ["values", "state", "value"] ["values"] (defScope st_check_values) := ⟨rfl, rfl, rfl, by decide +kernel, rfl, by decide +kernel, by decide +kernel⟩
theorem cal_check_values {P : Program} {w : World} {K : PySem.W.Frag} {mg : Str → Option Value} {base : Heap}  (hk : SysK K) (D : DefAt K mg "check_values" "check_values" st_check_values) (c_is_list : Cal P w K mg base 1 "is_list" "is_list" st_is_list ["value"] m_is_list) (c_is_integer : Cal P w K mg base 1 "is_integer" "is_integer" st_is_integer ["value"] m_is_integer) (co_Machine_MAX_STATES : ConAt K mg "Machine" "MAX_STATES" 64) (n_enumerate : mg "enumerate" = none) (n_len : mg "len" = none) :
    Cal P w K mg base 2 "check_values" "check_values" st_check_values ["values"] m_check_values :=
  cal_of D sc_check_values (fun F => F.binds (ps := ["values"]) fun _ _ _ _ _ _ us hl => match us, hl with | [_], _ => rfl) fun m W hg hr ht hp => by
  exact (dss_cons (ds_if (PW.pt (dw_or (dt_not (dt_val (de_cal c_is_list (by exact rfl) (by exact rfl) hg hr (by decide) ht (da_cons (de_var 0 (by exact rfl) (by first | exact Or.inl rfl | exact Or.inr (Or.inl rfl) | exact Or.inr (Or.inr rfl))) da_nil)))) (dw_or1 (dt_not (dt_chain op_le op_le (sCmp (f := fun i j => decide (i ≤ j))) (sCmp (f := fun i j => decide (i ≤ j))) de_int (de_callB call_len' cs_len (by exact rfl) n_len bt_len (da_cons (de_var 0 (by exact rfl) (by first | exact Or.inl rfl | exact Or.inr (Or.inl rfl) | exact Or.inr (Or.inr rfl))) da_nil)) (de_ccon co_Machine_MAX_STATES (by exact rfl))))))) (dss_one ds_never) dss_nil)
    (dss_one (ds_forE hp (by exact rfl) (by exact rfl) n_enumerate (de_var 0 (by exact rfl) (by first | exact Or.inl rfl | exact Or.inr (Or.inl rfl) | exact Or.inr (Or.inr rfl))) (dtg_tup (by exact rfl) sc_check_values.nd (.cons (i := 1) (by exact rfl) (by first | exact Or.inl rfl | exact Or.inr rfl) (by first | exact Or.inl rfl | exact Or.inr rfl) (.cons (i := 2) (by exact rfl) (by first | exact Or.inl rfl | exact Or.inr rfl) (by first | exact Or.inl rfl | exact Or.inr rfl) .nil (by exact rfl)) (by exact rfl))) (dss_one (ds_if (dt_not (dt_val (de_cal c_is_integer (by exact rfl) (by exact rfl) hg hr (by decide) ht (da_cons (de_var 2 (by exact rfl) (by first | exact Or.inl rfl | exact Or.inr (Or.inl rfl) | exact Or.inr (Or.inr rfl))) da_nil)))) (dss_one ds_never) dss_nil)))))
/-! ### is_name -/
abbrev st_is_name : Stmt := top 12
def b_is_name_0 : DM Fl := sRet (dC (.bl false))
def b_is_name_1 : DM Fl := sIf (dOr (dNot (dB ((dBi gIsi (dArgs (dVar 0) (dArgs ((fun _ L => .ok (.val (.ty "str")) L)) (dArgs0))))))) (dNot (dB (dChain (gCmp fun i j => decide (i ≤ j)) (gCmp fun i j => decide (i ≤ j)) (dC (.int 1)) ((dBi gLen (dArgs (dVar 0) (dArgs0)))) (dC (.int 8)))))) (b_is_name_0) (sNil)
def ce_is_name_2 : DM Sv := (dOp (gIn false) (dVar 1) (dC (.str "abcdefghijklmnopqrstuvwxyz")))
def b_is_name_3 : DM Fl := sRet ((dBi gAll (dArgs ((dLc (iV (dVar 0)) (.one 1) dTr (ce_is_name_2) [1])) (dArgs0))))
def fb_is_name : DM Fl := (sSeq b_is_name_1 b_is_name_3)
def m_is_name : List Sv → Led → Res Dv := mOf 2 fb_is_name
-- 0 value, 1 sign
theorem sc_is_name : FnScope ["value", "sign"] ["value"] (defScope st_is_name) := ⟨rfl, rfl, rfl, by decide +kernel, rfl, by decide +kernel, by decide +kernel⟩
theorem cal_is_name {P : Program} {w : World} {K : PySem.W.Frag} {mg : Str → Option Value} {base : Heap}  (hk : SysK K) (D : DefAt K mg "is_name" "is_name" st_is_name)  (g_LETTERS : ∃ t, mg "LETTERS" = some (.str "abcdefghijklmnopqrstuvwxyz" t)) (g_MOST_LETTERS : ∃ t, mg "MOST_LETTERS" = some (.int 8 t)) (n_all : mg "all" = none) (n_isinstance : mg "isinstance" = none) (n_len : mg "len" = none) (n_str : mg "str" = none) :
    Cal P w K mg base 1 "is_name" "is_name" st_is_name ["value"] m_is_name :=
  cal_of D sc_is_name (fun F => F.binds (ps := ["value"]) fun _ _ _ _ _ _ us hl => match us, hl with | [_], _ => rfl) fun m W hg hr ht hp => by
  exact (dss_cons (ds_if (PW.pt (dw_or (dt_not (dt_val (de_callB call_isiA cs_isi (by exact rfl) n_isinstance bt_isinstance (da_cons (de_var 0 (by exact rfl) (by first | exact Or.inl rfl | exact Or.inr (Or.inl rfl) | exact Or.inr (Or.inr rfl))) (da_cons (de_ty (by exact rfl) n_str bt_str) da_nil))))) (dw_or1 (dt_not (dt_chain op_le op_le (sCmp (f := fun i j => decide (i ≤ j))) (sCmp (f := fun i j => decide (i ≤ j))) de_int (de_callB call_len' cs_len (by exact rfl) n_len bt_len (da_cons (de_var 0 (by exact rfl) (by first | exact Or.inl rfl | exact Or.inr (Or.inl rfl) | exact Or.inr (Or.inr rfl))) da_nil)) (de_gint g_MOST_LETTERS (by exact rfl))))))) (dss_one (ds_ret de_bl)) dss_nil)
    (dss_one (ds_ret (de_callB (cr_all (by exact rfl)) cs_Q (by exact rfl) n_all bt_all (da_cons (de_lc (by exact rfl) sc_is_name.nd (di_val (de_var 0 (by exact rfl) (by first | exact Or.inl rfl | exact Or.inr (Or.inl rfl) | exact Or.inr (Or.inr rfl)))) (blkOk_by (own := [("sign", 1)]) (by exact rfl)) (fun _ _ _ _ _ => (dtg_name 1 sc_is_name.nd (by exact rfl) (by first | exact Or.inl rfl | exact Or.inr rfl))) (fun _ _ _ _ _ => dts_nil) (fun _ _ _ _ _ => (de_cmp (oIn (u_of hr (by decide))) (sIn hk) (de_var 1 (by exact rfl) (by first | exact Or.inl rfl | exact Or.inr (Or.inl rfl) | exact Or.inr (Or.inr rfl))) (de_gstr g_LETTERS (by exact rfl)) (by exact rfl))) (by decide)) da_nil)))))
/-! ### first_wrong_symbol -/
abbrev st_first_wrong_symbol : Stmt := top 14
def b_first_wrong_symbol_0 : DM Fl := sRet (dVar 1)
def b_first_wrong_symbol_1 : DM Fl := sIf (dOr (dNot (dB ((dCall 1 m_is_name (dArgs (dVar 2) (dArgs0)))))) (dB (dOp (gIn false) (dVar 2) ((dSl (dVar 0) dPt0 (dPt1 (dVar 1))))))) (b_first_wrong_symbol_0) (sNil)
def b_first_wrong_symbol_2 : DM Fl := sFor (iEn (dVar 0)) (.tup [1, 2]) (b_first_wrong_symbol_1)
def b_first_wrong_symbol_3 : DM Fl := sRet (dC .non)
def fb_first_wrong_symbol : DM Fl := (sSeq b_first_wrong_symbol_2 b_first_wrong_symbol_3)
def m_first_wrong_symbol : List Sv → Led → Res Dv := mOf 3 fb_first_wrong_symbol
-- 0 symbols, 1 position, 2 symbol
theorem sc_first_wrong_symbol : FnScope ["symbols", "position", "symbol"] ["symbols"] (defScope st_first_wrong_symbol) := ⟨rfl, rfl, rfl, by decide +kernel, rfl, by decide +kernel, by decide +kernel⟩
theorem cal_first_wrong_symbol {P : Program} {w : World} {K : PySem.W.Frag} {mg : Str → Option Value} {base : Heap}  (hk : SysK K) (D : DefAt K mg "first_wrong_symbol" "first_wrong_symbol" st_first_wrong_symbol) (c_is_name : Cal P w K mg base 1 "is_name" "is_name" st_is_name ["value"] m_is_name) (n_enumerate : mg "enumerate" = none) :
    Cal P w K mg base 2 "first_wrong_symbol" "first_wrong_symbol" st_first_wrong_symbol ["symbols"] m_first_wrong_symbol :=
  cal_of D sc_first_wrong_symbol (fun F => F.binds (ps := ["symbols"]) fun _ _ _ _ _ _ us hl => match us, hl with | [_], _ => rfl) fun m W hg hr ht hp => by
  exact (dss_cons (ds_for hp (by exact rfl) (di_enum (by exact rfl) n_enumerate (de_var 0 (by exact rfl) (by first | exact Or.inl rfl | exact Or.inr (Or.inl rfl) | exact Or.inr (Or.inr rfl)))) (dtg_tup (by exact rfl) sc_first_wrong_symbol.nd (.cons (i := 1) (by exact rfl) (by first | exact Or.inl rfl | exact Or.inr rfl) (by first | exact Or.inl rfl | exact Or.inr rfl) (.cons (i := 2) (by exact rfl) (by first | exact Or.inl rfl | exact Or.inr rfl) (by first | exact Or.inl rfl | exact Or.inr rfl) .nil (by exact rfl)) (by exact rfl))) (dss_one (ds_if (PW.pt (dw_or (dt_not (dt_val (de_cal c_is_name (by exact rfl) (by exact rfl) hg hr (by decide) ht (da_cons (de_var 2 (by exact rfl) (by first | exact Or.inl rfl | exact Or.inr (Or.inl rfl) | exact Or.inr (Or.inr rfl))) da_nil)))) (dw_or1 (dt_cmp (oIn (u_of hr (by decide))) (sIn hk) (de_var 2 (by exact rfl) (by first | exact Or.inl rfl | exact Or.inr (Or.inl rfl) | exact Or.inr (Or.inr rfl))) (de_slice (de_var 0 (by exact rfl) (by first | exact Or.inl rfl | exact Or.inr (Or.inl rfl) | exact Or.inr (Or.inr rfl))) dp_none (dp_some (de_var 1 (by exact rfl) (by first | exact Or.inl rfl | exact Or.inr (Or.inl rfl) | exact Or.inr (Or.inr rfl))))) (by exact rfl))))) (dss_one (ds_ret (de_var 1 (by exact rfl) (by first | exact Or.inl rfl | exact Or.inr (Or.inl rfl) | exact Or.inr (Or.inr rfl))))) dss_nil)))
    (dss_one (ds_ret de_non)))
/-! ### is_alphabet -/
abbrev st_is_alphabet : Stmt := top 15
def b_is_alphabet_0 : DM Fl := sRet ((dAndV ((dCall 1 m_is_list (dArgs (dVar 0) (dArgs0)))) ((dAndV ((dChain (gCmp fun i j => decide (i ≤ j)) (gCmp fun i j => decide (i ≤ j)) (dC (.int 1)) ((dBi gLen (dArgs (dVar 0) (dArgs0)))) (dC (.int 8)))) ((dOp (gIsN false) ((dCall 1 m_first_wrong_symbol (dArgs (dVar 0) (dArgs0)))) (dC .non)))))))
def fb_is_alphabet : DM Fl := b_is_alphabet_0
def m_is_alphabet : List Sv → Led → Res Dv := mOf 1 fb_is_alphabet
-- 0 value
theorem sc_is_alphabet : FnScope ["value"] ["value"] (defScope st_is_alphabet) := ⟨rfl, rfl, rfl, by decide +kernel, rfl, by decide +kernel, by decide +kernel⟩
theorem cal_is_alphabet {P : Program} {w : World} {K : PySem.W.Frag} {mg : Str → Option Value} {base : Heap}  (hk : SysK K) (D : DefAt K mg "is_alphabet" "is_alphabet" st_is_alphabet) (c_is_list : Cal P w K mg base 1 "is_list" "is_list" st_is_list ["value"] m_is_list) (c_first_wrong_symbol : Cal P w K mg base 2 "first_wrong_symbol" "first_wrong_symbol" st_first_wrong_symbol ["symbols"] m_first_wrong_symbol) (g_MOST_SYMBOLS : ∃ t, mg "MOST_SYMBOLS" = some (.int 8 t)) (n_len : mg "len" = none) :
    Cal P w K mg base 3 "is_alphabet" "is_alphabet" st_is_alphabet ["value"] m_is_alphabet :=
  cal_of D sc_is_alphabet (fun F => F.binds (ps := ["value"]) fun _ _ _ _ _ _ us hl => match us, hl with | [_], _ => rfl) fun m W hg hr ht hp => by
  exact (dss_one (ds_ret (de_and (de_cal c_is_list (by exact rfl) (by exact rfl) hg hr (by decide) ht (da_cons (de_var 0 (by exact rfl) (by first | exact Or.inl rfl | exact Or.inr (Or.inl rfl) | exact Or.inr (Or.inr rfl))) da_nil)) (de_and (de_chain op_le op_le (sCmp (f := fun i j => decide (i ≤ j))) (sCmp (f := fun i j => decide (i ≤ j))) de_int (de_callB call_len' cs_len (by exact rfl) n_len bt_len (da_cons (de_var 0 (by exact rfl) (by first | exact Or.inl rfl | exact Or.inr (Or.inl rfl) | exact Or.inr (Or.inr rfl))) da_nil)) (de_gint g_MOST_SYMBOLS (by exact rfl))) (de_one (de_cmp op_isN sIsN (de_cal c_first_wrong_symbol (by exact rfl) (by exact rfl) hg hr (by decide) ht (da_cons (de_var 0 (by exact rfl) (by first | exact Or.inl rfl | exact Or.inr (Or.inl rfl) | exact Or.inr (Or.inr rfl))) da_nil)) de_non (nomark _)))))))
/-! ### has_symbols -/
abbrev st_has_symbols : Stmt := top 25
def b_has_symbols_0 : DM Fl := sRet (dC (.bl false))
def b_has_symbols_1 : DM Fl := sIf (dNot (dB ((dBi gIsi (dArgs (dVar 0) (dArgs ((fun _ L => .ok (.val (.ty "dict")) L)) (dArgs0))))))) (b_has_symbols_0) (sNil)
def b_has_symbols_2 : DM Fl := sRet ((dCall 1 m_is_alphabet (dArgs ((dBiL false gLst4 (dArgs (dVar 0) (dArgs0)))) (dArgs0))))
def b_has_symbols_3 : DM Fl := sIf (dB (dOp (gIsN false) (dVar 1) (dC .non))) (b_has_symbols_2) (sNil)
def ce_has_symbols_4 : DM Sv := (dOp (gIn2 false) (dVar 2) (dVar 0))
def b_has_symbols_5 : DM Fl := sRet ((dAndV ((dOp gEq ((dBi gLen2 (dArgs (dVar 0) (dArgs0)))) ((dBi gLen (dArgs (dVar 1) (dArgs0)))))) ((dBi gAll (dArgs ((dLc (iV (dVar 1)) (.one 2) dTr (ce_has_symbols_4) [2])) (dArgs0))))))
def fb_has_symbols : DM Fl := (sSeq b_has_symbols_1 (sSeq b_has_symbols_3 b_has_symbols_5))
def m_has_symbols : List Sv → Led → Res Dv := mOf 3 fb_has_symbols
-- 0 row, 1 symbols, 2 symbol
theorem sc_has_symbols : FnScope ["row", "symbols", "symbol"] ["row", "symbols"] (defScope st_has_symbols) := ⟨rfl, rfl, rfl, by decide +kernel, rfl, by decide +kernel, by decide +kernel⟩
theorem cal_has_symbols {P : Program} {w : World} {K : PySem.W.Frag} {mg : Str → Option Value} {base : Heap}  (hk : SysK K) (D : DefAt K mg "has_symbols" "has_symbols" st_has_symbols) (c_is_alphabet : Cal P w K mg base 3 "is_alphabet" "is_alphabet" st_is_alphabet ["value"] m_is_alphabet) (n_all : mg "all" = none) (n_dict : mg "dict" = none) (n_isinstance : mg "isinstance" = none) (n_len : mg "len" = none) (n_list : mg "list" = none) :
    Cal P w K mg base 4 "has_symbols" "has_symbols" st_has_symbols ["row", "symbols"] m_has_symbols :=
  cal_of D sc_has_symbols (fun F => F.binds (ps := ["row", "symbols"]) fun _ _ _ _ _ _ us hl => match us, hl with | [_, _], _ => rfl) fun m W hg hr ht hp => by
  exact (dss_cons (ds_if (dt_not (dt_val (de_callB call_isiA cs_isi (by exact rfl) n_isinstance bt_isinstance (da_cons (de_var 0 (by exact rfl) (by first | exact Or.inl rfl | exact Or.inr (Or.inl rfl) | exact Or.inr (Or.inr rfl))) (da_cons (de_ty (by exact rfl) n_dict bt_dict) da_nil))))) (dss_one (ds_ret de_bl)) dss_nil)
    (dss_cons (ds_if (dt_cmp op_isN sIsN (de_var 1 (by exact rfl) (by first | exact Or.inl rfl | exact Or.inr (Or.inl rfl) | exact Or.inr (Or.inr rfl))) de_non (nomark _)) (dss_one (ds_ret (de_cal c_is_alphabet (by exact rfl) (by exact rfl) hg hr (by decide) ht (da_cons (de_tL (call_list4 (by exact rfl)) ls_list4 (by exact rfl) n_list bt_list (da_cons (de_var 0 (by exact rfl) (by first | exact Or.inl rfl | exact Or.inr (Or.inl rfl) | exact Or.inr (Or.inr rfl))) da_nil)) da_nil)))) dss_nil)
    (dss_one (ds_ret (de_and (de_cmp (oEq (u_of hr (by decide))) (sEq hk) (de_callB call_len' cs_len2 (by exact rfl) n_len bt_len (da_cons (de_var 0 (by exact rfl) (by first | exact Or.inl rfl | exact Or.inr (Or.inl rfl) | exact Or.inr (Or.inr rfl))) da_nil)) (de_callB call_len' cs_len (by exact rfl) n_len bt_len (da_cons (de_var 1 (by exact rfl) (by first | exact Or.inl rfl | exact Or.inr (Or.inl rfl) | exact Or.inr (Or.inr rfl))) da_nil)) (nomark _)) (de_one (de_callB (cr_all (by exact rfl)) cs_Q (by exact rfl) n_all bt_all (da_cons (de_lc (by exact rfl) sc_has_symbols.nd (di_val (de_var 1 (by exact rfl) (by first | exact Or.inl rfl | exact Or.inr (Or.inl rfl) | exact Or.inr (Or.inr rfl)))) (blkOk_by (own := [("symbol", 2)]) (by exact rfl)) (fun _ _ _ _ _ => (dtg_name 2 sc_has_symbols.nd (by exact rfl) (by first | exact Or.inl rfl | exact Or.inr rfl))) (fun _ _ _ _ _ => dts_nil) (fun _ _ _ _ _ => (de_cmp (oIn (u_of hr (by decide))) (sIn2 hk) (de_var 2 (by exact rfl) (by first | exact Or.inl rfl | exact Or.inr (Or.inl rfl) | exact Or.inr (Or.inr rfl))) (de_var 0 (by exact rfl) (by first | exact Or.inl rfl | exact Or.inr (Or.inl rfl) | exact Or.inr (Or.inr rfl))) (by exact rfl))) (by decide)) da_nil))))))))
/-! ### is_step -/
abbrev st_is_step : Stmt := top 24
def b_is_step_0 : DM Fl := sRet (dC (.bl false))
def b_is_step_1 : DM Fl := sIf (dOr (dNot (dB ((dBi gIsi (dArgs (dVar 0) (dArgs ((fun _ L => .ok (.val (.ty "tuple")) L)) (dArgs0))))))) (dOr (dB (dOp gNe ((dBi gLen (dArgs (dVar 0) (dArgs0)))) (dC (.int 2)))) (dOr (dNot (dB ((dCall 1 m_is_integer (dArgs ((dOp gIx (dVar 0) (dC (.int 0)))) (dArgs0)))))) (dNot (dB (dChain (gCmp fun i j => decide (i ≤ j)) (gCmp fun i j => decide (i < j)) (dC (.int 0)) ((dOp gIx (dVar 0) (dC (.int 0)))) (dVar 1))))))) (b_is_step_0) (sNil)
def b_is_step_2 : DM Fl := sRet ((dOrV ((dOp (gIsN false) ((dOp gIx (dVar 0) (dC (.int 1)))) (dC .non))) ((dCall 1 m_is_name (dArgs ((dOp gIx (dVar 0) (dC (.int 1)))) (dArgs0))))))
def fb_is_step : DM Fl := (sSeq b_is_step_1 b_is_step_2)
def m_is_step : List Sv → Led → Res Dv := mOf 2 fb_is_step
-- 0 value, 1 many
theorem sc_is_step : FnScope ["value", "many"] ["value", "many"] (defScope st_is_step) := ⟨rfl, rfl, rfl, by decide +kernel, rfl, by decide +kernel, by decide +kernel⟩
theorem cal_is_step {P : Program} {w : World} {K : PySem.W.Frag} {mg : Str → Option Value} {base : Heap}  (hk : SysK K) (D : DefAt K mg "is_step" "is_step" st_is_step) (c_is_integer : Cal P w K mg base 1 "is_integer" "is_integer" st_is_integer ["value"] m_is_integer) (c_is_name : Cal P w K mg base 1 "is_name" "is_name" st_is_name ["value"] m_is_name) (n_isinstance : mg "isinstance" = none) (n_len : mg "len" = none) (n_tuple : mg "tuple" = none) :
    Cal P w K mg base 2 "is_step" "is_step" st_is_step ["value", "many"] m_is_step :=
  cal_of D sc_is_step (fun F => F.binds (ps := ["value", "many"]) fun _ _ _ _ _ _ us hl => match us, hl with | [_, _], _ => rfl) fun m W hg hr ht hp => by
  exact (dss_cons (ds_if (PW.pt (dw_or (dt_not (dt_val (de_callB call_isiA cs_isi (by exact rfl) n_isinstance bt_isinstance (da_cons (de_var 0 (by exact rfl) (by first | exact Or.inl rfl | exact Or.inr (Or.inl rfl) | exact Or.inr (Or.inr rfl))) (da_cons (de_ty (by exact rfl) n_tuple bt_tuple) da_nil))))) (dw_or (dt_cmp (oNeP (u_of hr (by decide))) (sNe hk) (de_callB call_len' cs_len (by exact rfl) n_len bt_len (da_cons (de_var 0 (by exact rfl) (by first | exact Or.inl rfl | exact Or.inr (Or.inl rfl) | exact Or.inr (Or.inr rfl))) da_nil)) de_int (nomark _)) (dw_or (dt_not (dt_val (de_cal c_is_integer (by exact rfl) (by exact rfl) hg hr (by decide) ht (da_cons (de_sub (de_var 0 (by exact rfl) (by first | exact Or.inl rfl | exact Or.inr (Or.inl rfl) | exact Or.inr (Or.inr rfl))) de_int (fun _ _ => (by exact rfl))) da_nil)))) (dw_or1 (dt_not (dt_chain op_le op_lt (sCmp (f := fun i j => decide (i ≤ j))) (sCmp (f := fun i j => decide (i < j))) de_int (de_sub (de_var 0 (by exact rfl) (by first | exact Or.inl rfl | exact Or.inr (Or.inl rfl) | exact Or.inr (Or.inr rfl))) de_int (fun _ _ => (by exact rfl))) (de_var 1 (by exact rfl) (by first | exact Or.inl rfl | exact Or.inr (Or.inl rfl) | exact Or.inr (Or.inr rfl)))))))))) (dss_one (ds_ret de_bl)) dss_nil)
    (dss_one (ds_ret (de_or (de_cmp op_isN sIsN (de_sub (de_var 0 (by exact rfl) (by first | exact Or.inl rfl | exact Or.inr (Or.inl rfl) | exact Or.inr (Or.inr rfl))) de_int (fun _ _ => (by exact rfl))) de_non (nomark _)) (de_one (de_cal c_is_name (by exact rfl) (by exact rfl) hg hr (by decide) ht (da_cons (de_sub (de_var 0 (by exact rfl) (by first | exact Or.inl rfl | exact Or.inr (Or.inl rfl) | exact Or.inr (Or.inr rfl))) de_int (fun _ _ => (by exact rfl))) da_nil)))))))
/-! ### check_steps -/
abbrev st_check_steps : Stmt := top 26
def b_check_steps_0 : DM Fl := sNever
def b_check_steps_1 : DM Fl := sIf (dOr (dNot (dB ((dCall 1 m_is_list (dArgs (dVar 0) (dArgs0)))))) (dB (dOp gNe ((dBi gLen (dArgs (dVar 0) (dArgs0)))) (dVar 1)))) (b_check_steps_0) (sNil)
def b_check_steps_2 : DM Fl := sSet 2 (dC .non)
def b_check_steps_3 : DM Fl := sNever
def b_check_steps_4 : DM Fl := sIf (dNot (dB ((dCall 2 m_has_symbols (dArgs (dVar 4) (dArgs (dVar 2) (dArgs0))))))) (b_check_steps_3) (sNil)
def ce_check_steps_5 : DM Sv := (dCall 2 m_is_step (dArgs (dVar 5) (dArgs (dVar 1) (dArgs0))))
def b_check_steps_6 : DM Fl := sNever
def b_check_steps_7 : DM Fl := sIf (dNot (dB ((dBi gAll (dArgs ((dLcV 4 (.one 5) dTr (ce_check_steps_5) [5])) (dArgs0)))))) (b_check_steps_6) (sNil)
def b_check_steps_8 : DM Fl := sSet 2 ((dBiL false gLst4 (dArgs (dVar 4) (dArgs0))))
def b_check_steps_9 : DM Fl := sForO true (dVar 0) (.tup [3, 4]) ((sSeq b_check_steps_4 (sSeq b_check_steps_7 b_check_steps_8)))
def fb_check_steps : DM Fl := (sSeq b_check_steps_1 (sSeq b_check_steps_2 b_check_steps_9))
def m_check_steps : List Sv → Led → Res Dv := mOf 6 fb_check_steps
-- 0 steps, 1 many, 2 symbols, 3 state, 4 row, 5 step
theorem sc_check_steps : FnScope ["steps", "many", "symbols", "state", "row", "step"] ["steps", "many"] (defScope st_check_steps) := ⟨rfl, rfl, rfl, by decide +kernel, rfl, by decide +kernel, by decide +kernel⟩
theorem cal_check_steps {P : Program} {w : World} {K : PySem.W.Frag} {mg : Str → Option Value} {base : Heap}  (hk : SysK K) (D : DefAt K mg "check_steps" "check_steps" st_check_steps) (c_is_list : Cal P w K mg base 1 "is_list" "is_list" st_is_list ["value"] m_is_list) (c_has_symbols : Cal P w K mg base 4 "has_symbols" "has_symbols" st_has_symbols ["row", "symbols"] m_has_symbols) (c_is_step : Cal P w K mg base 2 "is_step" "is_step" st_is_step ["value", "many"] m_is_step) (n_all : mg "all" = none) (n_enumerate : mg "enumerate" = none) (n_len : mg "len" = none) (n_list : mg "list" = none) :
    Cal P w K mg base 5 "check_steps" "check_steps" st_check_steps ["steps", "many"] m_check_steps :=
  cal_of D sc_check_steps (fun F => F.binds (ps := ["steps", "many"]) fun _ _ _ _ _ _ us hl => match us, hl with | [_, _], _ => rfl) fun m W hg hr ht hp => by
  exact (dss_cons (ds_if (PW.pt (dw_or (dt_not (dt_val (de_cal c_is_list (by exact rfl) (by exact rfl) hg hr (by decide) ht (da_cons (de_var 0 (by exact rfl) (by first | exact Or.inl rfl | exact Or.inr (Or.inl rfl) | exact Or.inr (Or.inr rfl))) da_nil)))) (dw_or1 (dt_cmp (oNeP (u_of hr (by decide))) (sNe hk) (de_callB call_len' cs_len (by exact rfl) n_len bt_len (da_cons (de_var 0 (by exact rfl) (by first | exact Or.inl rfl | exact Or.inr (Or.inl rfl) | exact Or.inr (Or.inr rfl))) da_nil)) (de_var 1 (by exact rfl) (by first | exact Or.inl rfl | exact Or.inr (Or.inl rfl) | exact Or.inr (Or.inr rfl))) (nomark _))))) (dss_one ds_never) dss_nil)
    (dss_cons (ds_set 2 sc_check_steps.nd (by exact rfl) (by first | exact Or.inl rfl | exact Or.inr rfl) de_non)
    (dss_one (ds_forE hp (by exact rfl) (by exact rfl) n_enumerate (de_var 0 (by exact rfl) (by first | exact Or.inl rfl | exact Or.inr (Or.inl rfl) | exact Or.inr (Or.inr rfl))) (dtg_tup (by exact rfl) sc_check_steps.nd (.cons (i := 3) (by exact rfl) (by first | exact Or.inl rfl | exact Or.inr rfl) (by first | exact Or.inl rfl | exact Or.inr rfl) (.cons (i := 4) (by exact rfl) (by first | exact Or.inl rfl | exact Or.inr rfl) (by first | exact Or.inl rfl | exact Or.inr rfl) .nil (by exact rfl)) (by exact rfl))) (dss_cons (ds_if (dt_not (dt_val (de_cal c_has_symbols (by exact rfl) (by exact rfl) hg hr (by decide) ht (da_cons (de_var 4 (by exact rfl) (by first | exact Or.inl rfl | exact Or.inr (Or.inl rfl) | exact Or.inr (Or.inr rfl))) (da_cons (de_var 2 (by exact rfl) (by first | exact Or.inl rfl | exact Or.inr (Or.inl rfl) | exact Or.inr (Or.inr rfl))) da_nil))))) (dss_one ds_never) dss_nil)
    (dss_cons (ds_if (dt_not (dt_val (de_callB (cr_all (by exact rfl)) cs_Q (by exact rfl) n_all bt_all (da_cons (de_lcV 4 (by exact rfl) sc_check_steps.nd (by exact rfl) (by first | exact Or.inl rfl | exact Or.inr (Or.inl rfl) | exact Or.inr (Or.inr rfl)) (blkOk_by (own := [("step", 5)]) (by exact rfl)) (fun _ _ _ _ _ => (dtg_name 5 sc_check_steps.nd (by exact rfl) (by first | exact Or.inl rfl | exact Or.inr rfl))) (fun _ _ _ _ _ => dts_nil) (fun _ _ _ _ _ => (de_cal c_is_step (by exact rfl) (by exact rfl) hg hr (by decide) takes_wno (da_cons (de_var 5 (by exact rfl) (by first | exact Or.inl rfl | exact Or.inr (Or.inl rfl) | exact Or.inr (Or.inr rfl))) (da_cons (de_var 1 (by exact rfl) (by first | exact Or.inl rfl | exact Or.inr (Or.inl rfl) | exact Or.inr (Or.inr rfl))) da_nil)))) (by decide)) da_nil)))) (dss_one ds_never) dss_nil)
    (dss_one (ds_set 2 sc_check_steps.nd (by exact rfl) (by first | exact Or.inl rfl | exact Or.inr rfl) (de_tL (call_list4 (by exact rfl)) ls_list4 (by exact rfl) n_list bt_list (da_cons (de_var 4 (by exact rfl) (by first | exact Or.inl rfl | exact Or.inr (Or.inl rfl) | exact Or.inr (Or.inr rfl))) da_nil))))))))))
/-! ### state_line -/
abbrev st_state_line : Stmt := top 29
def b_state_line_0 : DM Fl := sSetL 2 (dArgs (dC (.str "state")) (dArgs ((dBi gStr (dArgs (dVar 0) (dArgs0)))) (dArgs0)))
def b_state_line_1 : DM Fl := sAsg ((dOp gGet (dVar 1) (dVar 3))) (gTp [4, 5])
def b_state_line_2 : DM Fl := sExt 2 ((dLst (dArgs (dVar 3) (dArgs ((dBi gStr (dArgs (dVar 4) (dArgs0)))) (dArgs ((dIf ((dB (dOp (gIsN false) (dVar 5) (dC .non)))) (dC (.str "-")) (dVar 5))) (dArgs0))))))
def b_state_line_3 : DM Fl := sFor (iKs (dVar 1)) (.one 3) ((sSeq b_state_line_1 b_state_line_2))
def b_state_line_4 : DM Fl := sRet ((dM1 gJoin (dC (.str " ")) (dVar 2)))
def fb_state_line : DM Fl := (sSeq b_state_line_0 (sSeq b_state_line_3 (gFrz 2 b_state_line_4)))
def m_state_line : List Sv → Led → Res Dv := mOf 6 fb_state_line
-- 0 value, 1 row, 2 words, 3 symbol, 4 state, 5 output
theorem sc_state_line : FnScope ["value", "row", "words", "symbol", "state", "output"] ["value", "row"] (defScope st_state_line) := ⟨rfl, rfl, rfl, by decide +kernel, rfl, by decide +kernel, by decide +kernel⟩
theorem cal_state_line {P : Program} {w : World} {K : PySem.W.Frag} {mg : Str → Option Value} {base : Heap}  (hk : SysK K) (D : DefAt K mg "state_line" "state_line" st_state_line)  (g_NO_OUTPUT : ∃ t, mg "NO_OUTPUT" = some (.str "-" t)) (g_STATE : ∃ t, mg "STATE" = some (.str "state" t)) (n_str : mg "str" = none) :
    Cal P w K mg base 1 "state_line" "state_line" st_state_line ["value", "row"] m_state_line :=
  cal_of D sc_state_line (fun F => F.binds (ps := ["value", "row"]) fun _ _ _ _ _ _ us hl => match us, hl with | [_, _], _ => rfl) fun m W hg hr ht hp => by
  exact (dss_cons (ds_setL 2 sc_state_line.nd (by exact rfl) (by first | exact Or.inl rfl | exact Or.inr rfl) (da_cons (de_gstr g_STATE (by exact rfl)) (da_cons (de_callTy call_str2 cs_str (by exact rfl) n_str bt_str (da_cons (de_var 0 (by exact rfl) (by first | exact Or.inl rfl | exact Or.inr (Or.inl rfl) | exact Or.inr (Or.inr rfl))) da_nil)) da_nil)))
    (dss_cons (ds_for hp (by exact rfl) (di_keys (de_var 1 (by exact rfl) (by first | exact Or.inl rfl | exact Or.inr (Or.inl rfl) | exact Or.inr (Or.inr rfl)))) (dtg_name 3 sc_state_line.nd (by exact rfl) (by first | exact Or.inl rfl | exact Or.inr rfl)) (dss_cons (ds_asg (de_get (u_of hr (by decide)) (de_var 1 (by exact rfl) (by first | exact Or.inl rfl | exact Or.inr (Or.inl rfl) | exact Or.inr (Or.inr rfl))) (de_var 3 (by exact rfl) (by first | exact Or.inl rfl | exact Or.inr (Or.inl rfl) | exact Or.inr (Or.inr rfl))) (fun _ _ => (by exact rfl))) (dg_tup (by exact rfl) sc_state_line.nd (.cons (i := 4) (by exact rfl) (by first | exact Or.inl rfl | exact Or.inr rfl) (by first | exact Or.inl rfl | exact Or.inr rfl) (.cons (i := 5) (by exact rfl) (by first | exact Or.inl rfl | exact Or.inr rfl) (by first | exact Or.inl rfl | exact Or.inr rfl) .nil (by exact rfl)) (by exact rfl))) gTp_ne)
    (dss_one (ds_ext 2 (by exact rfl) (by first | exact Or.inl rfl | exact Or.inr (Or.inl rfl) | exact Or.inr (Or.inr rfl)) (de_lst (da_cons (de_var 3 (by exact rfl) (by first | exact Or.inl rfl | exact Or.inr (Or.inl rfl) | exact Or.inr (Or.inr rfl))) (da_cons (de_callTy call_str2 cs_str (by exact rfl) n_str bt_str (da_cons (de_var 4 (by exact rfl) (by first | exact Or.inl rfl | exact Or.inr (Or.inl rfl) | exact Or.inr (Or.inr rfl))) da_nil)) (da_cons (de_if (dt_cmp op_isN sIsN (de_var 5 (by exact rfl) (by first | exact Or.inl rfl | exact Or.inr (Or.inl rfl) | exact Or.inr (Or.inr rfl))) de_non (nomark _)) (de_gstr g_NO_OUTPUT (by exact rfl)) (de_var 5 (by exact rfl) (by first | exact Or.inl rfl | exact Or.inr (Or.inl rfl) | exact Or.inr (Or.inr rfl)))) da_nil))))))))
    (dss_frz 2 (dss_one (ds_ret (de_join de_str (de_var 2 (by exact rfl) (by first | exact Or.inl rfl | exact Or.inr (Or.inl rfl) | exact Or.inr (Or.inr rfl)))))))))
/-! ### Machine.__init__ -/
abbrev st_Machine___init__ : Stmt := (clsB (top 27)).getD 1 (.Pass ⟨0, 0, 0, 0⟩)
def b_Machine___init___0 : DM Fl := sDrop ((dCall 1 m_check_values (dArgs (dVar 1) (dArgs0))))
def b_Machine___init___1 : DM Fl := sDrop ((dCall 2 m_check_steps (dArgs (dVar 2) (dArgs ((dBi gLen (dArgs (dVar 1) (dArgs0)))) (dArgs0)))))
def b_Machine___init___2 : DM Fl := sStF "own_values" ["Machine"] (dVar 0) ((dBiL false gLst4 (dArgs (dVar 1) (dArgs0))))
def b_Machine___init___3 : DM Fl := sStF "own_symbols" ["Machine"] (dVar 0) ((dBiL false gSorted (dArgs ((dBiL false gLst4 (dArgs ((dOp gIx (dVar 2) (dC (.int 0)))) (dArgs0)))) (dArgs0))))
def ce_Machine___init___4 : DM Sv := (dDc (iV ((dUn (gFld "own_symbols" ["Machine"]) (dVar 0)))) (.one 6) dTr (dVar 6) ((dOp gGet (dVar 4) (dVar 6))) [6])
def b_Machine___init___5 : DM Fl := sStF "own_steps" ["Machine"] (dVar 0) ((dLcO false false (dVar 2) (.one 4) dTr (ce_Machine___init___4) [4]))
def ce_Machine___init___6 : DM Sv := (dOp gGet (dVar 4) (dVar 6))
def ce_Machine___init___7 : DM Sv := (dBi gTuple (dArgs ((dLc (iV ((dUn (gFld "own_symbols" ["Machine"]) (dVar 0)))) (.one 6) dTr (ce_Machine___init___6) [6])) (dArgs0)))
def b_Machine___init___8 : DM Fl := sSet 3 ((dLc (iV ((dUn (gFld "own_steps" ["Machine"]) (dVar 0)))) (.one 4) dTr (ce_Machine___init___7) [4]))
def b_Machine___init___9 : DM Fl := sStF "own_key" ["Machine"] (dVar 0) ((dTup (dArgs ((dBi gTuple (dArgs ((dUn (gFld "own_values" ["Machine"]) (dVar 0))) (dArgs0)))) (dArgs ((dBi gTuple (dArgs ((dUn (gFld "own_symbols" ["Machine"]) (dVar 0))) (dArgs0)))) (dArgs ((dBi gTuple (dArgs (dVar 3) (dArgs0)))) (dArgs0))))))
def ce_Machine___init___10 : DM Sv := (dCall 2 m_state_line (dArgs (dVar 5) (dArgs (dVar 4) (dArgs0))))
def b_Machine___init___11 : DM Fl := sStF "own_lines" ["Machine"] (dVar 0) ((dLc (iZp ((dUn (gFld "own_values" ["Machine"]) (dVar 0))) ((dUn (gFld "own_steps" ["Machine"]) (dVar 0)))) (.tup [5, 4]) dTr (ce_Machine___init___10) [5, 4]))
def ce_Machine___init___12 : DM Sv := (dOp (gIsN false) ((dOp gIx (dVar 7) (dC (.int 1)))) (dC .non))
def b_Machine___init___13 : DM Fl := sStF "own_silence" ["Machine"] (dVar 0) ((dBi gAll (dArgs ((dLc2 (iV (dVar 3)) (.one 4) dTr (dVar 4) (.one 7) dTr (ce_Machine___init___12) [4, 7] [7])) (dArgs0))))
def fb_Machine___init__ : DM Fl := (sSeq b_Machine___init___0 (sSeq b_Machine___init___1 (sSeq b_Machine___init___2 (sSeq b_Machine___init___3 (sSeq b_Machine___init___5 (sSeq b_Machine___init___8 (sSeq b_Machine___init___9 (sSeq b_Machine___init___11 b_Machine___init___13))))))))
def m_Machine___init__ : List Sv → Led → Res Dv := mOf 8 fb_Machine___init__
-- 0 self, 1 values, 2 steps, 3 rows, 4 row, 5 value, 6 symbol, 7 step
theorem sc_Machine___init__ : FnScope ["self", "values", "steps", "rows", "row", "value", "symbol", "step"] ["self", "values", "steps"] (defScope st_Machine___init__) := ⟨rfl, rfl, rfl, by decide +kernel, rfl, by decide +kernel, by decide +kernel⟩
theorem cal_Machine___init__ {P : Program} {w : World} {K : PySem.W.Frag} {mg : Str → Option Value} {base : Heap}  (hk : SysK K) (D : DefM K mg "Machine" "__init__" "Machine.__init__" st_Machine___init__) (c_check_values : Cal P w K mg base 2 "check_values" "check_values" st_check_values ["values"] m_check_values) (c_check_steps : Cal P w K mg base 5 "check_steps" "check_steps" st_check_steps ["steps", "many"] m_check_steps) (c_state_line : Cal P w K mg base 1 "state_line" "state_line" st_state_line ["value", "row"] m_state_line) (a_Machine_own_key : ∀ c ∈ (["Machine"] : List Str), ClsAt K mg c ∧ NoAt K mg c "own_key") (a_Machine_own_lines : ∀ c ∈ (["Machine"] : List Str), ClsAt K mg c ∧ NoAt K mg c "own_lines") (a_Machine_own_silence : ∀ c ∈ (["Machine"] : List Str), ClsAt K mg c ∧ NoAt K mg c "own_silence") (a_Machine_own_steps : ∀ c ∈ (["Machine"] : List Str), ClsAt K mg c ∧ NoAt K mg c "own_steps") (a_Machine_own_symbols : ∀ c ∈ (["Machine"] : List Str), ClsAt K mg c ∧ NoAt K mg c "own_symbols") (a_Machine_own_values : ∀ c ∈ (["Machine"] : List Str), ClsAt K mg c ∧ NoAt K mg c "own_values") (n_all : mg "all" = none) (n_len : mg "len" = none) (n_list : mg "list" = none) (n_sorted : mg "sorted" = none) (n_tuple : mg "tuple" = none) (n_zip : mg "zip" = none) :
    CalM P w K mg base 6 "Machine" "__init__" "Machine.__init__" st_Machine___init__ ["self", "values", "steps"] m_Machine___init__ :=
  calM_of D sc_Machine___init__ (fun F => F.binds (ps := ["self", "values", "steps"]) fun _ _ _ _ _ _ us hl => match us, hl with | [_, _, _], _ => rfl) fun m W hg hr ht hp => by
  exact (dss_cons (ds_expr (de_cal c_check_values (by exact rfl) (by exact rfl) hg hr (by decide) ht (da_cons (de_var 1 (by exact rfl) (by first | exact Or.inl rfl | exact Or.inr (Or.inl rfl) | exact Or.inr (Or.inr rfl))) da_nil)))
    (dss_cons (ds_expr (de_cal c_check_steps (by exact rfl) (by exact rfl) hg hr (by decide) ht (da_cons (de_var 2 (by exact rfl) (by first | exact Or.inl rfl | exact Or.inr (Or.inl rfl) | exact Or.inr (Or.inr rfl))) (da_cons (de_callB call_len' cs_len (by exact rfl) n_len bt_len (da_cons (de_var 1 (by exact rfl) (by first | exact Or.inl rfl | exact Or.inr (Or.inl rfl) | exact Or.inr (Or.inr rfl))) da_nil)) da_nil))))
    (dss_cons (ds_stf (de_var 0 (by exact rfl) (by first | exact Or.inl rfl | exact Or.inr (Or.inl rfl) | exact Or.inr (Or.inr rfl))) (de_tL (call_list4 (by exact rfl)) ls_list4 (by exact rfl) n_list bt_list (da_cons (de_var 1 (by exact rfl) (by first | exact Or.inl rfl | exact Or.inr (Or.inl rfl) | exact Or.inr (Or.inr rfl))) da_nil)) a_Machine_own_values)
    (dss_cons (ds_stf (de_var 0 (by exact rfl) (by first | exact Or.inl rfl | exact Or.inr (Or.inl rfl) | exact Or.inr (Or.inr rfl))) (de_bL cr_sortedS ls_sorted (by exact rfl) n_sorted bt_sorted (da_cons (de_tL (call_list4 (by exact rfl)) ls_list4 (by exact rfl) n_list bt_list (da_cons (de_sub (de_var 2 (by exact rfl) (by first | exact Or.inl rfl | exact Or.inr (Or.inl rfl) | exact Or.inr (Or.inr rfl))) de_int (fun _ _ => (by exact rfl))) da_nil)) da_nil)) a_Machine_own_symbols)
    (dss_cons (ds_stf (de_var 0 (by exact rfl) (by first | exact Or.inl rfl | exact Or.inr (Or.inl rfl) | exact Or.inr (Or.inr rfl))) (de_lcO (by exact rfl) sc_Machine___init__.nd (de_var 2 (by exact rfl) (by first | exact Or.inl rfl | exact Or.inr (Or.inl rfl) | exact Or.inr (Or.inr rfl))) (blkOk_by (own := [("row", 4)]) (by exact rfl)) (fun _ _ _ _ _ => (dtg_name 4 sc_Machine___init__.nd (by exact rfl) (by first | exact Or.inl rfl | exact Or.inr rfl))) (fun _ _ _ _ _ => dts_nil) (fun _ _ _ _ _ => (de_dc (by exact rfl) sc_Machine___init__.nd (di_val (de_fld (de_var 0 (by exact rfl) (by first | exact Or.inl rfl | exact Or.inr (Or.inl rfl) | exact Or.inr (Or.inr rfl))) a_Machine_own_symbols)) (blkOk_by (own := [("symbol", 6)]) (by exact rfl)) (fun _ _ _ _ _ => (dtg_name 6 sc_Machine___init__.nd (by exact rfl) (by first | exact Or.inl rfl | exact Or.inr rfl))) (fun _ _ _ _ _ => dts_nil) (fun _ _ _ _ _ => (de_var 6 (by exact rfl) (by first | exact Or.inl rfl | exact Or.inr (Or.inl rfl) | exact Or.inr (Or.inr rfl)))) (fun _ _ _ _ _ => (de_get (u_of hr (by decide)) (de_var 4 (by exact rfl) (by first | exact Or.inl rfl | exact Or.inr (Or.inl rfl) | exact Or.inr (Or.inr rfl))) (de_var 6 (by exact rfl) (by first | exact Or.inl rfl | exact Or.inr (Or.inl rfl) | exact Or.inr (Or.inr rfl))) (fun _ _ => (by exact rfl)))) (by decide))) (by decide)) a_Machine_own_steps)
    (dss_cons (ds_setLc (by exact rfl) sc_Machine___init__.nd (by exact rfl) (by exact rfl) (sw_true (by exact rfl) (by exact rfl) (by exact rfl) (by exact rfl)) (di_val (de_fld (de_var 0 (by exact rfl) (by first | exact Or.inl rfl | exact Or.inr (Or.inl rfl) | exact Or.inr (Or.inr rfl))) a_Machine_own_steps)) (blkOk_by (own := [("row", 4)]) (by exact rfl)) (fun _ _ _ _ _ => (dtg_name 4 sc_Machine___init__.nd (by exact rfl) (by first | exact Or.inl rfl | exact Or.inr rfl))) (fun _ _ _ _ _ => dts_nil) (fun _ _ _ _ _ => (de_callTy call_tuple_of cs_tuple (by exact rfl) n_tuple bt_tuple (da_cons (de_lc (by exact rfl) sc_Machine___init__.nd (di_val (de_fld (de_var 0 (by exact rfl) (by first | exact Or.inl rfl | exact Or.inr (Or.inl rfl) | exact Or.inr (Or.inr rfl))) a_Machine_own_symbols)) (blkOk_by (own := [("symbol", 6)]) (by exact rfl)) (fun _ _ _ _ _ => (dtg_name 6 sc_Machine___init__.nd (by exact rfl) (by first | exact Or.inl rfl | exact Or.inr rfl))) (fun _ _ _ _ _ => dts_nil) (fun _ _ _ _ _ => (de_get (u_of hr (by decide)) (de_var 4 (by exact rfl) (by first | exact Or.inl rfl | exact Or.inr (Or.inl rfl) | exact Or.inr (Or.inr rfl))) (de_var 6 (by exact rfl) (by first | exact Or.inl rfl | exact Or.inr (Or.inl rfl) | exact Or.inr (Or.inr rfl))) (fun _ _ => (by exact rfl)))) (by decide)) da_nil))) (by decide))
    (dss_cons (ds_stf (de_var 0 (by exact rfl) (by first | exact Or.inl rfl | exact Or.inr (Or.inl rfl) | exact Or.inr (Or.inr rfl))) (de_tup (da_cons (de_callTy call_tuple_of cs_tuple (by exact rfl) n_tuple bt_tuple (da_cons (de_fld (de_var 0 (by exact rfl) (by first | exact Or.inl rfl | exact Or.inr (Or.inl rfl) | exact Or.inr (Or.inr rfl))) a_Machine_own_values) da_nil)) (da_cons (de_callTy call_tuple_of cs_tuple (by exact rfl) n_tuple bt_tuple (da_cons (de_fld (de_var 0 (by exact rfl) (by first | exact Or.inl rfl | exact Or.inr (Or.inl rfl) | exact Or.inr (Or.inr rfl))) a_Machine_own_symbols) da_nil)) (da_cons (de_callTy call_tuple_of cs_tuple (by exact rfl) n_tuple bt_tuple (da_cons (de_var 3 (by exact rfl) (by first | exact Or.inl rfl | exact Or.inr (Or.inl rfl) | exact Or.inr (Or.inr rfl))) da_nil)) da_nil)))) a_Machine_own_key)
    (dss_cons (ds_stf (de_var 0 (by exact rfl) (by first | exact Or.inl rfl | exact Or.inr (Or.inl rfl) | exact Or.inr (Or.inr rfl))) (de_lc (by exact rfl) sc_Machine___init__.nd (di_zip (by exact rfl) n_zip (de_fld (de_var 0 (by exact rfl) (by first | exact Or.inl rfl | exact Or.inr (Or.inl rfl) | exact Or.inr (Or.inr rfl))) a_Machine_own_values) (de_fld (de_var 0 (by exact rfl) (by first | exact Or.inl rfl | exact Or.inr (Or.inl rfl) | exact Or.inr (Or.inr rfl))) a_Machine_own_steps)) (blkOk_by (own := [("value", 5), ("row", 4)]) (by exact rfl)) (fun _ _ _ _ _ => (dtg_tup (by exact rfl) sc_Machine___init__.nd (.cons (i := 5) (by exact rfl) (by first | exact Or.inl rfl | exact Or.inr rfl) (by first | exact Or.inl rfl | exact Or.inr rfl) (.cons (i := 4) (by exact rfl) (by first | exact Or.inl rfl | exact Or.inr rfl) (by first | exact Or.inl rfl | exact Or.inr rfl) .nil (by exact rfl)) (by exact rfl)))) (fun _ _ _ _ _ => dts_nil) (fun _ _ _ _ _ => (de_cal c_state_line (by exact rfl) (by exact rfl) hg hr (by decide) takes_wno (da_cons (de_var 5 (by exact rfl) (by first | exact Or.inl rfl | exact Or.inr (Or.inl rfl) | exact Or.inr (Or.inr rfl))) (da_cons (de_var 4 (by exact rfl) (by first | exact Or.inl rfl | exact Or.inr (Or.inl rfl) | exact Or.inr (Or.inr rfl))) da_nil)))) (by decide)) a_Machine_own_lines)
    (dss_one (ds_stf (de_var 0 (by exact rfl) (by first | exact Or.inl rfl | exact Or.inr (Or.inl rfl) | exact Or.inr (Or.inr rfl))) (de_callB (cr_all (by exact rfl)) cs_Q (by exact rfl) n_all bt_all (da_cons (de_lc2 (by exact rfl) sc_Machine___init__.nd (di_val (de_var 3 (by exact rfl) (by first | exact Or.inl rfl | exact Or.inr (Or.inl rfl) | exact Or.inr (Or.inr rfl)))) (blkOk_by (own := [("row", 4), ("step", 7)]) (by exact rfl)) (by decide) (fun _ _ _ _ _ => (dtg_name 4 sc_Machine___init__.nd (by exact rfl) (by first | exact Or.inl rfl | exact Or.inr rfl))) (fun _ _ _ _ _ => dts_nil) (fun _ _ _ _ _ => (de_var 4 (by exact rfl) (by first | exact Or.inl rfl | exact Or.inr (Or.inl rfl) | exact Or.inr (Or.inr rfl)))) (fun _ _ _ _ _ => (dtg_name 7 sc_Machine___init__.nd (by exact rfl) (by first | exact Or.inl rfl | exact Or.inr rfl))) (fun _ _ _ _ _ => dts_nil) (fun _ _ _ _ _ => (de_cmp op_isN sIsN (de_sub (de_var 7 (by exact rfl) (by first | exact Or.inl rfl | exact Or.inr (Or.inl rfl) | exact Or.inr (Or.inr rfl))) de_int (fun _ _ => (by exact rfl))) de_non (nomark _))) (by decide) (by decide)) da_nil)) a_Machine_own_silence))))))))))
/-! ### _law_due -/
abbrev st_l_due : Stmt := top 40
def b_l_due_0 : DM Fl := sPar 2 3 [.e ((dOp gGet (dVar 0) (dC (.str "values")))), .e ((dOp gGet (dVar 0) (dC (.str "steps"))))]
def ce_l_due_1 : DM Sv := (dOp gGet (dVar 7) (dVar 8))
def ce_l_due_2 : DM Sv := (dLc (iV (dVar 1)) (.one 8) dTr (ce_l_due_1) [8])
def b_l_due_3 : DM Fl := sSet 4 ((dLc (iV (dVar 3)) (.one 7) dTr (ce_l_due_2) [7]))
def ce_l_due_4 : DM Sv := (dOp (gIsN false) ((dOp gIx (dVar 9) (dC (.int 1)))) (dC .non))
def ce_l_due_5 : DM Sv := (dBi gAll (dArgs ((dLc (iV (dVar 7)) (.one 9) dTr (ce_l_due_4) [9])) (dArgs0)))
def b_l_due_6 : DM Fl := sSet 5 ((dBi gAll (dArgs ((dLc (iV (dVar 4)) (.one 7) dTr (ce_l_due_5) [7])) (dArgs0))))
def b_l_due_7 : DM Fl := sSet 6 ((dOp gAdd ((dOp gAdd ((dOp gAdd ((dOp gAdd (dC (.str "Machine(")) ((dBi gRepr (dArgs (dVar 2) (dArgs0)))))) (dC (.str ", ")))) ((dBi gRepr (dArgs ((dBiL false gSorted (dArgs (dVar 1) (dArgs0)))) (dArgs0)))))) (dC (.str ")"))))
def b_l_due_8 : DM Fl := sRet ((dLst (dArgs ((dBi gLen (dArgs (dVar 2) (dArgs0)))) (dArgs ((dBiL false gSorted (dArgs (dVar 1) (dArgs0)))) (dArgs (dVar 5) (dArgs (dVar 2) (dArgs (dVar 4) (dArgs (dVar 6) (dArgs0)))))))))
def fb_l_due : DM Fl := (sSeq b_l_due_0 (sSeq b_l_due_3 (sSeq b_l_due_6 (sSeq b_l_due_7 b_l_due_8))))
def m_l_due : List Sv → Led → Res Dv := mOf 10 fb_l_due
-- 0 _law_table_here, 1 _law_letters, 2 _law_values, 3 _law_rows, 4 _law_steps, 5 _law_is_silent, 6 _law_text, 7 _law_row, 8 _law_letter, 9 _law_one
theorem sc_l_due : FnScope ["_law_table_here", "_law_letters", "_law_values", "_law_rows", "_law_steps", "_law_is_silent", "_law_text", "_law_row", "_law_letter", "_law_one"] ["_law_table_here", "_law_letters"] (defScope st_l_due) := ⟨rfl, rfl, rfl, by decide +kernel, rfl, by decide +kernel, by decide +kernel⟩
theorem cal_l_due {P : Program} {w : World} {K : PySem.W.Frag} {mg : Str → Option Value} {base : Heap}  (hk : SysK K) (D : DefAt K mg "_law_due" "_law_due" st_l_due)  (n_all : mg "all" = none) (n_len : mg "len" = none) (n_repr : mg "repr" = none) (n_sorted : mg "sorted" = none) :
    Cal P w K mg base 1 "_law_due" "_law_due" st_l_due ["_law_table_here", "_law_letters"] m_l_due :=
  cal_of D sc_l_due (fun F => F.binds (ps := ["_law_table_here", "_law_letters"]) fun _ _ _ _ _ _ us hl => match us, hl with | [_, _], _ => rfl) fun m W hg hr ht hp => by
  exact (dss_cons (ds_par (by exact rfl) sc_l_due.nd (by exact rfl) (by exact rfl) (by decide) (by exact rfl) (by exact rfl) (dpm_e (de_get (u_of hr (by decide)) (de_var 0 (by exact rfl) (by first | exact Or.inl rfl | exact Or.inr (Or.inl rfl) | exact Or.inr (Or.inr rfl))) de_str (fun _ _ => (by exact rfl))) (dpm_e (de_get (u_of hr (by decide)) (de_var 0 (by exact rfl) (by first | exact Or.inl rfl | exact Or.inr (Or.inl rfl) | exact Or.inr (Or.inr rfl))) de_str (fun _ _ => (by exact rfl))) dpm_nil)) (by exact rfl))
    (dss_cons (ds_setLc (by exact rfl) sc_l_due.nd (by exact rfl) (by exact rfl) (sw_true (by exact rfl) (by exact rfl) (by exact rfl) (by exact rfl)) (di_val (de_var 3 (by exact rfl) (by first | exact Or.inl rfl | exact Or.inr (Or.inl rfl) | exact Or.inr (Or.inr rfl)))) (blkOk_by (own := [("_law_row", 7)]) (by exact rfl)) (fun _ _ _ _ _ => (dtg_name 7 sc_l_due.nd (by exact rfl) (by first | exact Or.inl rfl | exact Or.inr rfl))) (fun _ _ _ _ _ => dts_nil) (fun _ _ _ _ _ => (de_lc (by exact rfl) sc_l_due.nd (di_val (de_var 1 (by exact rfl) (by first | exact Or.inl rfl | exact Or.inr (Or.inl rfl) | exact Or.inr (Or.inr rfl)))) (blkOk_by (own := [("_law_letter", 8)]) (by exact rfl)) (fun _ _ _ _ _ => (dtg_name 8 sc_l_due.nd (by exact rfl) (by first | exact Or.inl rfl | exact Or.inr rfl))) (fun _ _ _ _ _ => dts_nil) (fun _ _ _ _ _ => (de_get (u_of hr (by decide)) (de_var 7 (by exact rfl) (by first | exact Or.inl rfl | exact Or.inr (Or.inl rfl) | exact Or.inr (Or.inr rfl))) (de_var 8 (by exact rfl) (by first | exact Or.inl rfl | exact Or.inr (Or.inl rfl) | exact Or.inr (Or.inr rfl))) (fun _ _ => (by exact rfl)))) (by decide))) (by decide))
    (dss_cons (ds_set 5 sc_l_due.nd (by exact rfl) (by first | exact Or.inl rfl | exact Or.inr rfl) (de_callB (cr_all (by exact rfl)) cs_Q (by exact rfl) n_all bt_all (da_cons (de_lc (by exact rfl) sc_l_due.nd (di_val (de_var 4 (by exact rfl) (by first | exact Or.inl rfl | exact Or.inr (Or.inl rfl) | exact Or.inr (Or.inr rfl)))) (blkOk_by (own := [("_law_row", 7)]) (by exact rfl)) (fun _ _ _ _ _ => (dtg_name 7 sc_l_due.nd (by exact rfl) (by first | exact Or.inl rfl | exact Or.inr rfl))) (fun _ _ _ _ _ => dts_nil) (fun _ _ _ _ _ => (de_callB (cr_all (by exact rfl)) cs_Q (by exact rfl) n_all bt_all (da_cons (de_lc (by exact rfl) sc_l_due.nd (di_val (de_var 7 (by exact rfl) (by first | exact Or.inl rfl | exact Or.inr (Or.inl rfl) | exact Or.inr (Or.inr rfl)))) (blkOk_by (own := [("_law_one", 9)]) (by exact rfl)) (fun _ _ _ _ _ => (dtg_name 9 sc_l_due.nd (by exact rfl) (by first | exact Or.inl rfl | exact Or.inr rfl))) (fun _ _ _ _ _ => dts_nil) (fun _ _ _ _ _ => (de_cmp op_isN sIsN (de_sub (de_var 9 (by exact rfl) (by first | exact Or.inl rfl | exact Or.inr (Or.inl rfl) | exact Or.inr (Or.inr rfl))) de_int (fun _ _ => (by exact rfl))) de_non (nomark _))) (by decide)) da_nil))) (by decide)) da_nil)))
    (dss_cons (ds_set 6 sc_l_due.nd (by exact rfl) (by first | exact Or.inl rfl | exact Or.inr rfl) (de_op oAdd sAdd (de_op oAdd sAdd (de_op oAdd sAdd (de_op oAdd sAdd de_str (de_callB (call_repr hg (u_of hr (by decide))) (cs_repr hk) (by exact rfl) n_repr bt_repr (da_cons (de_var 2 (by exact rfl) (by first | exact Or.inl rfl | exact Or.inr (Or.inl rfl) | exact Or.inr (Or.inr rfl))) da_nil))) de_str) (de_callB (call_repr hg (u_of hr (by decide))) (cs_repr hk) (by exact rfl) n_repr bt_repr (da_cons (de_bL cr_sortedS ls_sorted (by exact rfl) n_sorted bt_sorted (da_cons (de_var 1 (by exact rfl) (by first | exact Or.inl rfl | exact Or.inr (Or.inl rfl) | exact Or.inr (Or.inr rfl))) da_nil)) da_nil))) de_str))
    (dss_one (ds_ret (de_lst (da_cons (de_callB call_len' cs_len (by exact rfl) n_len bt_len (da_cons (de_var 2 (by exact rfl) (by first | exact Or.inl rfl | exact Or.inr (Or.inl rfl) | exact Or.inr (Or.inr rfl))) da_nil)) (da_cons (de_bL cr_sortedS ls_sorted (by exact rfl) n_sorted bt_sorted (da_cons (de_var 1 (by exact rfl) (by first | exact Or.inl rfl | exact Or.inr (Or.inl rfl) | exact Or.inr (Or.inr rfl))) da_nil)) (da_cons (de_var 5 (by exact rfl) (by first | exact Or.inl rfl | exact Or.inr (Or.inl rfl) | exact Or.inr (Or.inr rfl))) (da_cons (de_var 2 (by exact rfl) (by first | exact Or.inl rfl | exact Or.inr (Or.inl rfl) | exact Or.inr (Or.inr rfl))) (da_cons (de_var 4 (by exact rfl) (by first | exact Or.inl rfl | exact Or.inr (Or.inl rfl) | exact Or.inr (Or.inr rfl))) (da_cons (de_var 6 (by exact rfl) (by first | exact Or.inl rfl | exact Or.inr (Or.inl rfl) | exact Or.inr (Or.inr rfl))) da_nil)))))))))))))
/-! ### _law_word -/
abbrev st_l_word : Stmt := top 38
def ce_l_word_0 : DM Sv := (dCall 2 m_l_pick (dArgs (dVar 0) (dArgs (dVar 1) (dArgs0))))
def b_l_word_1 : DM Fl := sRet ((dBi gTuple (dArgs ((dLc (iR1 ((dCall 2 m_l_digit (dArgs (dVar 0) (dArgs ((dOp gAdd (dVar 2) (dC (.int 1)))) (dArgs0)))))) (.one 3) dTr (ce_l_word_0) [3])) (dArgs0))))
def fb_l_word : DM Fl := b_l_word_1
def m_l_word : List Sv → Led → Res Dv := mOf 4 fb_l_word
-- 0 _law_pot_here, 1 _law_letters, 2 _law_most, 3 _law_turn
theorem sc_l_word : FnScope ["_law_pot_here", "_law_letters", "_law_most", "_law_turn"] ["_law_pot_here", "_law_letters", "_law_most"] (defScope st_l_word) := ⟨rfl, rfl, rfl, by decide +kernel, rfl, by decide +kernel, by decide +kernel⟩
theorem cal_l_word {P : Program} {w : World} {K : PySem.W.Frag} {mg : Str → Option Value} {base : Heap}  (hk : SysK K) (D : DefAt K mg "_law_word" "_law_word" st_l_word) (c_l_digit : Cal P w K mg base 1 "_law_digit" "_law_digit" st_l_digit ["_law_pot_here", "_law_many"] m_l_digit) (c_l_pick : Cal P w K mg base 2 "_law_pick" "_law_pick" st_l_pick ["_law_pot_here", "_law_some"] m_l_pick) (n_range : mg "range" = none) (n_tuple : mg "tuple" = none) :
    Cal P w K mg base 3 "_law_word" "_law_word" st_l_word ["_law_pot_here", "_law_letters", "_law_most"] m_l_word :=
  cal_of D sc_l_word (fun F => F.binds (ps := ["_law_pot_here", "_law_letters", "_law_most"]) fun _ _ _ _ _ _ us hl => match us, hl with | [_, _, _], _ => rfl) fun m W hg hr ht hp => by
  exact (dss_one (ds_ret (de_callTy call_tuple_of cs_tuple (by exact rfl) n_tuple bt_tuple (da_cons (de_lc (by exact rfl) sc_l_word.nd (di_range1 (by exact rfl) n_range (de_cal c_l_digit (by exact rfl) (by exact rfl) hg hr (by decide) ht (da_cons (de_var 0 (by exact rfl) (by first | exact Or.inl rfl | exact Or.inr (Or.inl rfl) | exact Or.inr (Or.inr rfl))) (da_cons (de_op oAdd sAdd (de_var 2 (by exact rfl) (by first | exact Or.inl rfl | exact Or.inr (Or.inl rfl) | exact Or.inr (Or.inr rfl))) de_int) da_nil)))) (blkOk_by (own := [("_law_turn", 3)]) (by exact rfl)) (fun _ _ _ _ _ => (dtg_name 3 sc_l_word.nd (by exact rfl) (by first | exact Or.inl rfl | exact Or.inr rfl))) (fun _ _ _ _ _ => dts_nil) (fun _ _ _ _ _ => (de_cal c_l_pick (by exact rfl) (by exact rfl) hg hr (by decide) takes_wno (da_cons (de_var 0 (by exact rfl) (by first | exact Or.inl rfl | exact Or.inr (Or.inl rfl) | exact Or.inr (Or.inr rfl))) (da_cons (de_var 1 (by exact rfl) (by first | exact Or.inl rfl | exact Or.inr (Or.inl rfl) | exact Or.inr (Or.inr rfl))) da_nil)))) (by decide)) da_nil))))
/-! ### Machine.__len__ -/
abbrev st_Machine___len__ : Stmt := (clsB (top 27)).getD 9 (.Pass ⟨0, 0, 0, 0⟩)
def b_Machine___len___0 : DM Fl := sRet ((dBi gLen (dArgs ((dUn (gFld "own_values" ["Machine"]) (dVar 0))) (dArgs0))))
def fb_Machine___len__ : DM Fl := b_Machine___len___0
def m_Machine___len__ : List Sv → Led → Res Dv := mOf 1 fb_Machine___len__
-- 0 self
theorem sc_Machine___len__ : FnScope ["self"] ["self"] (defScope st_Machine___len__) := ⟨rfl, rfl, rfl, by decide +kernel, rfl, by decide +kernel, by decide +kernel⟩
theorem cal_Machine___len__ {P : Program} {w : World} {K : PySem.W.Frag} {mg : Str → Option Value} {base : Heap}  (hk : SysK K) (D : DefM K mg "Machine" "__len__" "Machine.__len__" st_Machine___len__)  (a_Machine_own_values : ∀ c ∈ (["Machine"] : List Str), ClsAt K mg c ∧ NoAt K mg c "own_values") (n_len : mg "len" = none) :
    CalM P w K mg base 1 "Machine" "__len__" "Machine.__len__" st_Machine___len__ ["self"] m_Machine___len__ :=
  calM_of D sc_Machine___len__ (fun F => F.binds (ps := ["self"]) fun _ _ _ _ _ _ us hl => match us, hl with | [_], _ => rfl) fun m W hg hr ht hp => by
  exact (dss_one (ds_ret (de_callB call_len' cs_len (by exact rfl) n_len bt_len (da_cons (de_fld (de_var 0 (by exact rfl) (by first | exact Or.inl rfl | exact Or.inr (Or.inl rfl) | exact Or.inr (Or.inr rfl))) a_Machine_own_values) da_nil))))
/-! ### _law_run -/
abbrev st_l_run : Stmt := top 37
def b_l_run_0 : DM Fl := sSetL 3 (dArgs0)
def b_l_run_1 : DM Fl := sAsg ((dOp gGet ((dOp gIx ((dOp gGet (dVar 0) (dC (.str "steps")))) (dVar 1))) (dVar 4))) (gTp [1, 5])
def b_l_run_2 : DM Fl := sApp 3 (dVar 5)
def b_l_run_3 : DM Fl := sIf (dB (dOp (gIsN true) (dVar 5) (dC .non))) (b_l_run_2) (sNil)
def b_l_run_4 : DM Fl := sFor (iV (dVar 2)) (.one 4) ((sSeq b_l_run_1 b_l_run_3))
def b_l_run_5 : DM Fl := sRet ((dTup (dArgs (dVar 1) (dArgs ((dBi gTuple (dArgs (dVar 3) (dArgs0)))) (dArgs0)))))
def fb_l_run : DM Fl := (sSeq b_l_run_0 (sSeq b_l_run_4 (gFrz 3 b_l_run_5)))
def m_l_run : List Sv → Led → Res Dv := mOf 6 fb_l_run
-- 0 _law_table_here, 1 _law_state, 2 _law_word_here, 3 _law_found, 4 _law_letter, 5 _law_written
theorem sc_l_run : FnScope ["_law_table_here", "_law_state", "_law_word_here", "_law_found", "_law_letter", "_law_written"] ["_law_table_here", "_law_state", "_law_word_here"] (defScope st_l_run) := ⟨rfl, rfl, rfl, by decide +kernel, rfl, by decide +kernel, by decide +kernel⟩
theorem cal_l_run {P : Program} {w : World} {K : PySem.W.Frag} {mg : Str → Option Value} {base : Heap}  (hk : SysK K) (D : DefAt K mg "_law_run" "_law_run" st_l_run)  (n_tuple : mg "tuple" = none) :
    Cal P w K mg base 1 "_law_run" "_law_run" st_l_run ["_law_table_here", "_law_state", "_law_word_here"] m_l_run :=
  cal_of D sc_l_run (fun F => F.binds (ps := ["_law_table_here", "_law_state", "_law_word_here"]) fun _ _ _ _ _ _ us hl => match us, hl with | [_, _, _], _ => rfl) fun m W hg hr ht hp => by
  exact (dss_cons (ds_setL 3 sc_l_run.nd (by exact rfl) (by first | exact Or.inl rfl | exact Or.inr rfl) da_nil)
    (dss_cons (ds_for hp (by exact rfl) (di_val (de_var 2 (by exact rfl) (by first | exact Or.inl rfl | exact Or.inr (Or.inl rfl) | exact Or.inr (Or.inr rfl)))) (dtg_name 4 sc_l_run.nd (by exact rfl) (by first | exact Or.inl rfl | exact Or.inr rfl)) (dss_cons (ds_asg (de_get (u_of hr (by decide)) (de_sub (de_get (u_of hr (by decide)) (de_var 0 (by exact rfl) (by first | exact Or.inl rfl | exact Or.inr (Or.inl rfl) | exact Or.inr (Or.inr rfl))) de_str (fun _ _ => (by exact rfl))) (de_var 1 (by exact rfl) (by first | exact Or.inl rfl | exact Or.inr (Or.inl rfl) | exact Or.inr (Or.inr rfl))) (fun _ _ => (by exact rfl))) (de_var 4 (by exact rfl) (by first | exact Or.inl rfl | exact Or.inr (Or.inl rfl) | exact Or.inr (Or.inr rfl))) (fun _ _ => (by exact rfl))) (dg_tup (by exact rfl) sc_l_run.nd (.cons (i := 1) (by exact rfl) (by first | exact Or.inl rfl | exact Or.inr rfl) (by first | exact Or.inl rfl | exact Or.inr rfl) (.cons (i := 5) (by exact rfl) (by first | exact Or.inl rfl | exact Or.inr rfl) (by first | exact Or.inl rfl | exact Or.inr rfl) .nil (by exact rfl)) (by exact rfl))) gTp_ne)
    (dss_one (ds_if (dt_cmp op_notN sNotN (de_var 5 (by exact rfl) (by first | exact Or.inl rfl | exact Or.inr (Or.inl rfl) | exact Or.inr (Or.inr rfl))) de_non (nomark _)) (dss_one (ds_app 3 (by exact rfl) (by first | exact Or.inl rfl | exact Or.inr (Or.inl rfl) | exact Or.inr (Or.inr rfl)) (de_var 5 (by exact rfl) (by first | exact Or.inl rfl | exact Or.inr (Or.inl rfl) | exact Or.inr (Or.inr rfl))))) dss_nil))))
    (dss_frz 3 (dss_one (ds_ret (de_tup (da_cons (de_var 1 (by exact rfl) (by first | exact Or.inl rfl | exact Or.inr (Or.inl rfl) | exact Or.inr (Or.inr rfl))) (da_cons (de_callTy call_tuple_of cs_tuple (by exact rfl) n_tuple bt_tuple (da_cons (de_var 3 (by exact rfl) (by first | exact Or.inl rfl | exact Or.inr (Or.inl rfl) | exact Or.inr (Or.inr rfl))) da_nil)) da_nil))))))))
/-! ### require_state -/
abbrev st_require_state : Stmt := top 28
def b_require_state_0 : DM Fl := sNever
def b_require_state_1 : DM Fl := sIf (dOr (dNot (dB ((dCall 1 m_is_integer (dArgs (dVar 1) (dArgs0)))))) (dNot (dB (dChain (gCmp fun i j => decide (i ≤ j)) (gCmp fun i j => decide (i < j)) (dC (.int 0)) (dVar 1) ((dBiO "__len__" [("Machine", m_Machine___len__)] chkLen gLen (dArgs (dVar 0) (dArgs0)))))))) (b_require_state_0) (sNil)
def fb_require_state : DM Fl := b_require_state_1
def m_require_state : List Sv → Led → Res Dv := mOf 2 fb_require_state
-- 0 machine, 1 state
theorem sc_require_state : FnScope ["machine", "state"] ["machine", "state"] (defScope st_require_state) := ⟨rfl, rfl, rfl, by decide +kernel, rfl, by decide +kernel, by decide +kernel⟩
theorem cal_require_state {P : Program} {w : World} {K : PySem.W.Frag} {mg : Str → Option Value} {base : Heap}  (hk : SysK K) (D : DefAt K mg "require_state" "require_state" st_require_state) (c_is_integer : Cal P w K mg base 1 "is_integer" "is_integer" st_is_integer ["value"] m_is_integer) (c_Machine___len__ : CalM P w K mg base 1 "Machine" "__len__" "Machine.__len__" st_Machine___len__ ["self"] m_Machine___len__) (cl_Machine : ClsAt K mg "Machine") (n_len : mg "len" = none) :
    Cal P w K mg base 4 "require_state" "require_state" st_require_state ["machine", "state"] m_require_state :=
  cal_of D sc_require_state (fun F => F.binds (ps := ["machine", "state"]) fun _ _ _ _ _ _ us hl => match us, hl with | [_, _], _ => rfl) fun m W hg hr ht hp => by
  exact (dss_one (ds_if (PW.pt (dw_or (dt_not (dt_val (de_cal c_is_integer (by exact rfl) (by exact rfl) hg hr (by decide) ht (da_cons (de_var 1 (by exact rfl) (by first | exact Or.inl rfl | exact Or.inr (Or.inl rfl) | exact Or.inr (Or.inr rfl))) da_nil)))) (dw_or1 (dt_not (dt_chain op_le op_lt (sCmp (f := fun i j => decide (i ≤ j))) (sCmp (f := fun i j => decide (i < j))) de_int (de_var 1 (by exact rfl) (by first | exact Or.inl rfl | exact Or.inr (Or.inl rfl) | exact Or.inr (Or.inr rfl))) (de_lenO (k := 1) (by exact rfl) hg (mtab_cons cl_Machine c_Machine___len__ (by decide) (by exact rfl) mtab_nil) (hr.mono (by decide)) (by exact rfl) n_len bt_len (da_cons (de_var 0 (by exact rfl) (by first | exact Or.inl rfl | exact Or.inr (Or.inl rfl) | exact Or.inr (Or.inr rfl))) da_nil))))))) (dss_one ds_never) dss_nil))
/-! ### is_symbol -/
abbrev st_is_symbol : Stmt := top 16
def b_is_symbol_0 : DM Fl := sRet ((dAndV ((dCall 1 m_is_name (dArgs (dVar 1) (dArgs0)))) ((dOrV ((dOp (gIsN false) (dVar 0) (dC .non))) ((dOp (gIn false) (dVar 1) (dVar 0)))))))
def fb_is_symbol : DM Fl := b_is_symbol_0
def m_is_symbol : List Sv → Led → Res Dv := mOf 2 fb_is_symbol
-- 0 alphabet, 1 value
theorem sc_is_symbol : FnScope ["alphabet", "value"] ["alphabet", "value"] (defScope st_is_symbol) := ⟨rfl, rfl, rfl, by decide +kernel, rfl, by decide +kernel, by decide +kernel⟩
theorem cal_is_symbol {P : Program} {w : World} {K : PySem.W.Frag} {mg : Str → Option Value} {base : Heap}  (hk : SysK K) (D : DefAt K mg "is_symbol" "is_symbol" st_is_symbol) (c_is_name : Cal P w K mg base 1 "is_name" "is_name" st_is_name ["value"] m_is_name)  :
    Cal P w K mg base 2 "is_symbol" "is_symbol" st_is_symbol ["alphabet", "value"] m_is_symbol :=
  cal_of D sc_is_symbol (fun F => F.binds (ps := ["alphabet", "value"]) fun _ _ _ _ _ _ us hl => match us, hl with | [_, _], _ => rfl) fun m W hg hr ht hp => by
  exact (dss_one (ds_ret (de_and (de_cal c_is_name (by exact rfl) (by exact rfl) hg hr (by decide) ht (da_cons (de_var 1 (by exact rfl) (by first | exact Or.inl rfl | exact Or.inr (Or.inl rfl) | exact Or.inr (Or.inr rfl))) da_nil)) (de_one (de_or (de_cmp op_isN sIsN (de_var 0 (by exact rfl) (by first | exact Or.inl rfl | exact Or.inr (Or.inl rfl) | exact Or.inr (Or.inr rfl))) de_non (nomark _)) (de_one (de_cmp (oIn (u_of hr (by decide))) (sIn hk) (de_var 1 (by exact rfl) (by first | exact Or.inl rfl | exact Or.inr (Or.inl rfl) | exact Or.inr (Or.inr rfl))) (de_var 0 (by exact rfl) (by first | exact Or.inl rfl | exact Or.inr (Or.inl rfl) | exact Or.inr (Or.inr rfl))) (by exact rfl))))))))
/-! ### first_wrong_entry -/
abbrev st_first_wrong_entry : Stmt := top 17
def b_first_wrong_entry_0 : DM Fl := sRet (dVar 2)
def b_first_wrong_entry_1 : DM Fl := sIf (dNot (dB ((dCall 2 m_is_symbol (dArgs (dVar 0) (dArgs (dVar 3) (dArgs0))))))) (b_first_wrong_entry_0) (sNil)
def b_first_wrong_entry_2 : DM Fl := sFor (iEn (dVar 1)) (.tup [2, 3]) (b_first_wrong_entry_1)
def b_first_wrong_entry_3 : DM Fl := sRet (dC .non)
def fb_first_wrong_entry : DM Fl := (sSeq b_first_wrong_entry_2 b_first_wrong_entry_3)
def m_first_wrong_entry : List Sv → Led → Res Dv := mOf 4 fb_first_wrong_entry
-- 0 alphabet, 1 word, 2 position, 3 symbol
theorem sc_first_wrong_entry : FnScope ["alphabet", "word", "position", "symbol"] ["alphabet", "word"] (defScope st_first_wrong_entry) := ⟨rfl, rfl, rfl, by decide +kernel, rfl, by decide +kernel, by decide +kernel⟩
theorem cal_first_wrong_entry {P : Program} {w : World} {K : PySem.W.Frag} {mg : Str → Option Value} {base : Heap}  (hk : SysK K) (D : DefAt K mg "first_wrong_entry" "first_wrong_entry" st_first_wrong_entry) (c_is_symbol : Cal P w K mg base 2 "is_symbol" "is_symbol" st_is_symbol ["alphabet", "value"] m_is_symbol) (n_enumerate : mg "enumerate" = none) :
    Cal P w K mg base 3 "first_wrong_entry" "first_wrong_entry" st_first_wrong_entry ["alphabet", "word"] m_first_wrong_entry :=
  cal_of D sc_first_wrong_entry (fun F => F.binds (ps := ["alphabet", "word"]) fun _ _ _ _ _ _ us hl => match us, hl with | [_, _], _ => rfl) fun m W hg hr ht hp => by
  exact (dss_cons (ds_for hp (by exact rfl) (di_enum (by exact rfl) n_enumerate (de_var 1 (by exact rfl) (by first | exact Or.inl rfl | exact Or.inr (Or.inl rfl) | exact Or.inr (Or.inr rfl)))) (dtg_tup (by exact rfl) sc_first_wrong_entry.nd (.cons (i := 2) (by exact rfl) (by first | exact Or.inl rfl | exact Or.inr rfl) (by first | exact Or.inl rfl | exact Or.inr rfl) (.cons (i := 3) (by exact rfl) (by first | exact Or.inl rfl | exact Or.inr rfl) (by first | exact Or.inl rfl | exact Or.inr rfl) .nil (by exact rfl)) (by exact rfl))) (dss_one (ds_if (dt_not (dt_val (de_cal c_is_symbol (by exact rfl) (by exact rfl) hg hr (by decide) ht (da_cons (de_var 0 (by exact rfl) (by first | exact Or.inl rfl | exact Or.inr (Or.inl rfl) | exact Or.inr (Or.inr rfl))) (da_cons (de_var 3 (by exact rfl) (by first | exact Or.inl rfl | exact Or.inr (Or.inl rfl) | exact Or.inr (Or.inr rfl))) da_nil))))) (dss_one (ds_ret (de_var 2 (by exact rfl) (by first | exact Or.inl rfl | exact Or.inr (Or.inl rfl) | exact Or.inr (Or.inr rfl))))) dss_nil)))
    (dss_one (ds_ret de_non)))
/-! ### require_word -/
abbrev st_require_word : Stmt := top 18
def b_require_word_0 : DM Fl := sNever
def b_require_word_1 : DM Fl := sIf (dNot (dB ((dCall 1 m_is_list (dArgs (dVar 1) (dArgs0)))))) (b_require_word_0) (sNil)
def b_require_word_2 : DM Fl := sSet 2 ((dCall 2 m_first_wrong_entry (dArgs (dVar 0) (dArgs (dVar 1) (dArgs0)))))
def b_require_word_3 : DM Fl := sNever
def b_require_word_4 : DM Fl := sIf (dB (dOp (gIsN true) (dVar 2) (dC .non))) (b_require_word_3) (sNil)
def fb_require_word : DM Fl := (sSeq b_require_word_1 (sSeq b_require_word_2 b_require_word_4))
def m_require_word : List Sv → Led → Res Dv := mOf 3 fb_require_word
-- 0 alphabet, 1 word, 2 position
theorem sc_require_word : FnScope ["alphabet", "word", "position"] ["alphabet", "word"] (defScope st_require_word) := ⟨rfl, rfl, rfl, by decide +kernel, rfl, by decide +kernel, by decide +kernel⟩
theorem cal_require_word {P : Program} {w : World} {K : PySem.W.Frag} {mg : Str → Option Value} {base : Heap}  (hk : SysK K) (D : DefAt K mg "require_word" "require_word" st_require_word) (c_is_list : Cal P w K mg base 1 "is_list" "is_list" st_is_list ["value"] m_is_list) (c_first_wrong_entry : Cal P w K mg base 3 "first_wrong_entry" "first_wrong_entry" st_first_wrong_entry ["alphabet", "word"] m_first_wrong_entry)  :
    Cal P w K mg base 4 "require_word" "require_word" st_require_word ["alphabet", "word"] m_require_word :=
  cal_of D sc_require_word (fun F => F.binds (ps := ["alphabet", "word"]) fun _ _ _ _ _ _ us hl => match us, hl with | [_, _], _ => rfl) fun m W hg hr ht hp => by
  exact (dss_cons (ds_if (dt_not (dt_val (de_cal c_is_list (by exact rfl) (by exact rfl) hg hr (by decide) ht (da_cons (de_var 1 (by exact rfl) (by first | exact Or.inl rfl | exact Or.inr (Or.inl rfl) | exact Or.inr (Or.inr rfl))) da_nil)))) (dss_one ds_never) dss_nil)
    (dss_cons (ds_set 2 sc_require_word.nd (by exact rfl) (by first | exact Or.inl rfl | exact Or.inr rfl) (de_cal c_first_wrong_entry (by exact rfl) (by exact rfl) hg hr (by decide) ht (da_cons (de_var 0 (by exact rfl) (by first | exact Or.inl rfl | exact Or.inr (Or.inl rfl) | exact Or.inr (Or.inr rfl))) (da_cons (de_var 1 (by exact rfl) (by first | exact Or.inl rfl | exact Or.inr (Or.inl rfl) | exact Or.inr (Or.inr rfl))) da_nil))))
    (dss_one (ds_if (dt_cmp op_notN sNotN (de_var 2 (by exact rfl) (by first | exact Or.inl rfl | exact Or.inr (Or.inl rfl) | exact Or.inr (Or.inr rfl))) de_non (nomark _)) (dss_one ds_never) dss_nil))))
/-! ### Machine.run -/
abbrev st_Machine_run : Stmt := (clsB (top 27)).getD 7 (.Pass ⟨0, 0, 0, 0⟩)
def b_Machine_run_0 : DM Fl := sDrop ((dCall 2 m_require_state (dArgs (dVar 0) (dArgs (dVar 1) (dArgs0)))))
def b_Machine_run_1 : DM Fl := sDrop ((dCall 2 m_require_word (dArgs ((dUn (gFld "own_symbols" ["Machine"]) (dVar 0))) (dArgs (dVar 2) (dArgs0)))))
def b_Machine_run_2 : DM Fl := sSetL 3 (dArgs0)
def b_Machine_run_3 : DM Fl := sAsg ((dOp gGet ((dOp gIx ((dUn (gFld "own_steps" ["Machine"]) (dVar 0))) (dVar 1))) (dVar 4))) (gTp [1, 5])
def b_Machine_run_4 : DM Fl := sApp 3 (dVar 5)
def b_Machine_run_5 : DM Fl := sIf (dB (dOp (gIsN true) (dVar 5) (dC .non))) (b_Machine_run_4) (sNil)
def b_Machine_run_6 : DM Fl := sFor (iV (dVar 2)) (.one 4) ((sSeq b_Machine_run_3 b_Machine_run_5))
def b_Machine_run_7 : DM Fl := sRet ((dTup (dArgs (dVar 1) (dArgs ((dBi gTuple (dArgs (dVar 3) (dArgs0)))) (dArgs0)))))
def fb_Machine_run : DM Fl := (sSeq b_Machine_run_0 (sSeq b_Machine_run_1 (sSeq b_Machine_run_2 (sSeq b_Machine_run_6 (gFrz 3 b_Machine_run_7)))))
def m_Machine_run : List Sv → Led → Res Dv := mOf 6 fb_Machine_run
-- 0 self, 1 state, 2 word, 3 found, 4 symbol, 5 output
theorem sc_Machine_run : FnScope ["self", "state", "word", "found", "symbol", "output"] ["self", "state", "word"] (defScope st_Machine_run) := ⟨rfl, rfl, rfl, by decide +kernel, rfl, by decide +kernel, by decide +kernel⟩
theorem cal_Machine_run {P : Program} {w : World} {K : PySem.W.Frag} {mg : Str → Option Value} {base : Heap}  (hk : SysK K) (D : DefM K mg "Machine" "run" "Machine.run" st_Machine_run) (c_require_state : Cal P w K mg base 4 "require_state" "require_state" st_require_state ["machine", "state"] m_require_state) (c_require_word : Cal P w K mg base 4 "require_word" "require_word" st_require_word ["alphabet", "word"] m_require_word) (a_Machine_own_steps : ∀ c ∈ (["Machine"] : List Str), ClsAt K mg c ∧ NoAt K mg c "own_steps") (a_Machine_own_symbols : ∀ c ∈ (["Machine"] : List Str), ClsAt K mg c ∧ NoAt K mg c "own_symbols") (n_tuple : mg "tuple" = none) :
    CalM P w K mg base 5 "Machine" "run" "Machine.run" st_Machine_run ["self", "state", "word"] m_Machine_run :=
  calM_of D sc_Machine_run (fun F => F.binds (ps := ["self", "state", "word"]) fun _ _ _ _ _ _ us hl => match us, hl with | [_, _, _], _ => rfl) fun m W hg hr ht hp => by
  exact (dss_cons (ds_expr (de_cal c_require_state (by exact rfl) (by exact rfl) hg hr (by decide) ht (da_cons (de_var 0 (by exact rfl) (by first | exact Or.inl rfl | exact Or.inr (Or.inl rfl) | exact Or.inr (Or.inr rfl))) (da_cons (de_var 1 (by exact rfl) (by first | exact Or.inl rfl | exact Or.inr (Or.inl rfl) | exact Or.inr (Or.inr rfl))) da_nil))))
    (dss_cons (ds_expr (de_cal c_require_word (by exact rfl) (by exact rfl) hg hr (by decide) ht (da_cons (de_fld (de_var 0 (by exact rfl) (by first | exact Or.inl rfl | exact Or.inr (Or.inl rfl) | exact Or.inr (Or.inr rfl))) a_Machine_own_symbols) (da_cons (de_var 2 (by exact rfl) (by first | exact Or.inl rfl | exact Or.inr (Or.inl rfl) | exact Or.inr (Or.inr rfl))) da_nil))))
    (dss_cons (ds_setL 3 sc_Machine_run.nd (by exact rfl) (by first | exact Or.inl rfl | exact Or.inr rfl) da_nil)
    (dss_cons (ds_for hp (by exact rfl) (di_val (de_var 2 (by exact rfl) (by first | exact Or.inl rfl | exact Or.inr (Or.inl rfl) | exact Or.inr (Or.inr rfl)))) (dtg_name 4 sc_Machine_run.nd (by exact rfl) (by first | exact Or.inl rfl | exact Or.inr rfl)) (dss_cons (ds_asg (de_get (u_of hr (by decide)) (de_sub (de_fld (de_var 0 (by exact rfl) (by first | exact Or.inl rfl | exact Or.inr (Or.inl rfl) | exact Or.inr (Or.inr rfl))) a_Machine_own_steps) (de_var 1 (by exact rfl) (by first | exact Or.inl rfl | exact Or.inr (Or.inl rfl) | exact Or.inr (Or.inr rfl))) (fun _ _ => (by exact rfl))) (de_var 4 (by exact rfl) (by first | exact Or.inl rfl | exact Or.inr (Or.inl rfl) | exact Or.inr (Or.inr rfl))) (fun _ _ => (by exact rfl))) (dg_tup (by exact rfl) sc_Machine_run.nd (.cons (i := 1) (by exact rfl) (by first | exact Or.inl rfl | exact Or.inr rfl) (by first | exact Or.inl rfl | exact Or.inr rfl) (.cons (i := 5) (by exact rfl) (by first | exact Or.inl rfl | exact Or.inr rfl) (by first | exact Or.inl rfl | exact Or.inr rfl) .nil (by exact rfl)) (by exact rfl))) gTp_ne)
    (dss_one (ds_if (dt_cmp op_notN sNotN (de_var 5 (by exact rfl) (by first | exact Or.inl rfl | exact Or.inr (Or.inl rfl) | exact Or.inr (Or.inr rfl))) de_non (nomark _)) (dss_one (ds_app 3 (by exact rfl) (by first | exact Or.inl rfl | exact Or.inr (Or.inl rfl) | exact Or.inr (Or.inr rfl)) (de_var 5 (by exact rfl) (by first | exact Or.inl rfl | exact Or.inr (Or.inl rfl) | exact Or.inr (Or.inr rfl))))) dss_nil))))
    (dss_frz 3 (dss_one (ds_ret (de_tup (da_cons (de_var 1 (by exact rfl) (by first | exact Or.inl rfl | exact Or.inr (Or.inl rfl) | exact Or.inr (Or.inr rfl))) (da_cons (de_callTy call_tuple_of cs_tuple (by exact rfl) n_tuple bt_tuple (da_cons (de_var 3 (by exact rfl) (by first | exact Or.inl rfl | exact Or.inr (Or.inl rfl) | exact Or.inr (Or.inr rfl))) da_nil)) da_nil))))))))))
/-! ### _law_runs_right -/
abbrev st_l_runs_right : Stmt := top 41
def b_l_runs_right_0 : DM Fl := sSet 5 ((dCall 3 m_l_word (dArgs (dVar 0) (dArgs (dVar 3) (dArgs (dC (.int 12)) (dArgs0))))))
def b_l_runs_right_1 : DM Fl := sSet 7 ((dCall 3 m_l_run (dArgs (dVar 2) (dArgs (dVar 6) (dArgs (dVar 5) (dArgs0))))))
def b_l_runs_right_2 : DM Fl := sRet (dC (.bl false))
def b_l_runs_right_3 : DM Fl := sIf (dB (dOp gNe ((dBi gRepr (dArgs ((dLst (dArgs ((dMeth "run" 2 [("Machine", m_Machine_run)] (dVar 1) (dArgs (dVar 6) (dArgs (dVar 5) (dArgs0))))) (dArgs ((dMeth "run" 2 [("Machine", m_Machine_run)] (dVar 1) (dArgs (dVar 6) (dArgs ((dBiL false gLst4 (dArgs (dVar 5) (dArgs0)))) (dArgs0))))) (dArgs0))))) (dArgs0)))) ((dBi gRepr (dArgs ((dLst (dArgs (dVar 7) (dArgs (dVar 7) (dArgs0))))) (dArgs0)))))) (b_l_runs_right_2) (sNil)
def b_l_runs_right_4 : DM Fl := sFor (iR1 ((dBiO "__len__" [("Machine", m_Machine___len__)] chkLen gLen (dArgs (dVar 1) (dArgs0))))) (.one 6) ((sSeq b_l_runs_right_1 b_l_runs_right_3))
def b_l_runs_right_5 : DM Fl := sFor (iR1 (dC (.int 4))) (.one 4) ((sSeq b_l_runs_right_0 b_l_runs_right_4))
def b_l_runs_right_6 : DM Fl := sRet (dC (.bl true))
def fb_l_runs_right : DM Fl := (sSeq b_l_runs_right_5 b_l_runs_right_6)
def m_l_runs_right : List Sv → Led → Res Dv := mOf 8 fb_l_runs_right
-- 0 _law_pot_here, 1 _law_made, 2 _law_table_here, 3 _law_letters, 4 _law_turn, 5 _law_word_here, 6 _law_state, 7 _law_due_here
theorem sc_l_runs_right : FnScope ["_law_pot_here", "_law_made", "_law_table_here", "_law_letters", "_law_turn", "_law_word_here", "_law_state", "_law_due_here"] ["_law_pot_here", "_law_made", "_law_table_here", "_law_letters"] (defScope st_l_runs_right) := ⟨rfl, rfl, rfl, by decide +kernel, rfl, by decide +kernel, by decide +kernel⟩
theorem cal_l_runs_right {P : Program} {w : World} {K : PySem.W.Frag} {mg : Str → Option Value} {base : Heap}  (hk : SysK K) (D : DefAt K mg "_law_runs_right" "_law_runs_right" st_l_runs_right) (c_l_word : Cal P w K mg base 3 "_law_word" "_law_word" st_l_word ["_law_pot_here", "_law_letters", "_law_most"] m_l_word) (c_Machine___len__ : CalM P w K mg base 1 "Machine" "__len__" "Machine.__len__" st_Machine___len__ ["self"] m_Machine___len__) (c_l_run : Cal P w K mg base 1 "_law_run" "_law_run" st_l_run ["_law_table_here", "_law_state", "_law_word_here"] m_l_run) (c_Machine_run : CalM P w K mg base 5 "Machine" "run" "Machine.run" st_Machine_run ["self", "state", "word"] m_Machine_run) (cl_Machine : ClsAt K mg "Machine") (n_len : mg "len" = none) (n_list : mg "list" = none) (n_range : mg "range" = none) (n_repr : mg "repr" = none) :
    Cal P w K mg base 6 "_law_runs_right" "_law_runs_right" st_l_runs_right ["_law_pot_here", "_law_made", "_law_table_here", "_law_letters"] m_l_runs_right :=
  cal_of D sc_l_runs_right (fun F => F.binds (ps := ["_law_pot_here", "_law_made", "_law_table_here", "_law_letters"]) fun _ _ _ _ _ _ us hl => match us, hl with | [_, _, _, _], _ => rfl) fun m W hg hr ht hp => by
  exact (dss_cons (ds_for hp (by exact rfl) (di_range1 (by exact rfl) n_range de_int) (dtg_name 4 sc_l_runs_right.nd (by exact rfl) (by first | exact Or.inl rfl | exact Or.inr rfl)) (dss_cons (ds_set 5 sc_l_runs_right.nd (by exact rfl) (by first | exact Or.inl rfl | exact Or.inr rfl) (de_cal c_l_word (by exact rfl) (by exact rfl) hg hr (by decide) ht (da_cons (de_var 0 (by exact rfl) (by first | exact Or.inl rfl | exact Or.inr (Or.inl rfl) | exact Or.inr (Or.inr rfl))) (da_cons (de_var 3 (by exact rfl) (by first | exact Or.inl rfl | exact Or.inr (Or.inl rfl) | exact Or.inr (Or.inr rfl))) (da_cons de_int da_nil)))))
    (dss_one (ds_for hp (by exact rfl) (di_range1 (by exact rfl) n_range (de_lenO (k := 1) (by exact rfl) hg (mtab_cons cl_Machine c_Machine___len__ (by decide) (by exact rfl) mtab_nil) (hr.mono (by decide)) (by exact rfl) n_len bt_len (da_cons (de_var 1 (by exact rfl) (by first | exact Or.inl rfl | exact Or.inr (Or.inl rfl) | exact Or.inr (Or.inr rfl))) da_nil))) (dtg_name 6 sc_l_runs_right.nd (by exact rfl) (by first | exact Or.inl rfl | exact Or.inr rfl)) (dss_cons (ds_set 7 sc_l_runs_right.nd (by exact rfl) (by first | exact Or.inl rfl | exact Or.inr rfl) (de_cal c_l_run (by exact rfl) (by exact rfl) hg hr (by decide) ht (da_cons (de_var 2 (by exact rfl) (by first | exact Or.inl rfl | exact Or.inr (Or.inl rfl) | exact Or.inr (Or.inr rfl))) (da_cons (de_var 6 (by exact rfl) (by first | exact Or.inl rfl | exact Or.inr (Or.inl rfl) | exact Or.inr (Or.inr rfl))) (da_cons (de_var 5 (by exact rfl) (by first | exact Or.inl rfl | exact Or.inr (Or.inl rfl) | exact Or.inr (Or.inr rfl))) da_nil)))))
    (dss_one (ds_if (dt_cmp (oNeP (u_of hr (by decide))) (sNe hk) (de_callB (call_repr hg (u_of hr (by decide))) (cs_repr hk) (by exact rfl) n_repr bt_repr (da_cons (de_lst (da_cons (de_meth (de_var 1 (by exact rfl) (by first | exact Or.inl rfl | exact Or.inr (Or.inl rfl) | exact Or.inr (Or.inr rfl))) (mtab_cons cl_Machine c_Machine_run (by decide) (by exact rfl) mtab_nil) (by exact rfl) hg hr ht (da_cons (de_var 6 (by exact rfl) (by first | exact Or.inl rfl | exact Or.inr (Or.inl rfl) | exact Or.inr (Or.inr rfl))) (da_cons (de_var 5 (by exact rfl) (by first | exact Or.inl rfl | exact Or.inr (Or.inl rfl) | exact Or.inr (Or.inr rfl))) da_nil))) (da_cons (de_meth (de_var 1 (by exact rfl) (by first | exact Or.inl rfl | exact Or.inr (Or.inl rfl) | exact Or.inr (Or.inr rfl))) (mtab_cons cl_Machine c_Machine_run (by decide) (by exact rfl) mtab_nil) (by exact rfl) hg hr ht (da_cons (de_var 6 (by exact rfl) (by first | exact Or.inl rfl | exact Or.inr (Or.inl rfl) | exact Or.inr (Or.inr rfl))) (da_cons (de_tL (call_list4 (by exact rfl)) ls_list4 (by exact rfl) n_list bt_list (da_cons (de_var 5 (by exact rfl) (by first | exact Or.inl rfl | exact Or.inr (Or.inl rfl) | exact Or.inr (Or.inr rfl))) da_nil)) da_nil))) da_nil))) da_nil)) (de_callB (call_repr hg (u_of hr (by decide))) (cs_repr hk) (by exact rfl) n_repr bt_repr (da_cons (de_lst (da_cons (de_var 7 (by exact rfl) (by first | exact Or.inl rfl | exact Or.inr (Or.inl rfl) | exact Or.inr (Or.inr rfl))) (da_cons (de_var 7 (by exact rfl) (by first | exact Or.inl rfl | exact Or.inr (Or.inl rfl) | exact Or.inr (Or.inr rfl))) da_nil))) da_nil)) (nomark _)) (dss_one (ds_ret de_bl)) dss_nil)))))))
    (dss_one (ds_ret de_bl)))
/-! ### require_symbol -/
abbrev st_require_symbol : Stmt := top 19
def b_require_symbol_0 : DM Fl := sNever
def b_require_symbol_1 : DM Fl := sIf (dNot (dB ((dCall 2 m_is_symbol (dArgs (dVar 0) (dArgs (dVar 1) (dArgs0))))))) (b_require_symbol_0) (sNil)
def fb_require_symbol : DM Fl := b_require_symbol_1
def m_require_symbol : List Sv → Led → Res Dv := mOf 2 fb_require_symbol
-- 0 alphabet, 1 symbol
theorem sc_require_symbol : FnScope ["alphabet", "symbol"] ["alphabet", "symbol"] (defScope st_require_symbol) := ⟨rfl, rfl, rfl, by decide +kernel, rfl, by decide +kernel, by decide +kernel⟩
theorem cal_require_symbol {P : Program} {w : World} {K : PySem.W.Frag} {mg : Str → Option Value} {base : Heap}  (hk : SysK K) (D : DefAt K mg "require_symbol" "require_symbol" st_require_symbol) (c_is_symbol : Cal P w K mg base 2 "is_symbol" "is_symbol" st_is_symbol ["alphabet", "value"] m_is_symbol)  :
    Cal P w K mg base 3 "require_symbol" "require_symbol" st_require_symbol ["alphabet", "symbol"] m_require_symbol :=
  cal_of D sc_require_symbol (fun F => F.binds (ps := ["alphabet", "symbol"]) fun _ _ _ _ _ _ us hl => match us, hl with | [_, _], _ => rfl) fun m W hg hr ht hp => by
  exact (dss_one (ds_if (dt_not (dt_val (de_cal c_is_symbol (by exact rfl) (by exact rfl) hg hr (by decide) ht (da_cons (de_var 0 (by exact rfl) (by first | exact Or.inl rfl | exact Or.inr (Or.inl rfl) | exact Or.inr (Or.inr rfl))) (da_cons (de_var 1 (by exact rfl) (by first | exact Or.inl rfl | exact Or.inr (Or.inl rfl) | exact Or.inr (Or.inr rfl))) da_nil))))) (dss_one ds_never) dss_nil))
/-! ### Machine.step -/
abbrev st_Machine_step : Stmt := (clsB (top 27)).getD 6 (.Pass ⟨0, 0, 0, 0⟩)
def b_Machine_step_0 : DM Fl := sDrop ((dCall 2 m_require_state (dArgs (dVar 0) (dArgs (dVar 1) (dArgs0)))))
def b_Machine_step_1 : DM Fl := sDrop ((dCall 2 m_require_symbol (dArgs ((dUn (gFld "own_symbols" ["Machine"]) (dVar 0))) (dArgs (dVar 2) (dArgs0)))))
def b_Machine_step_2 : DM Fl := sRet ((dOp gGet ((dOp gIx ((dUn (gFld "own_steps" ["Machine"]) (dVar 0))) (dVar 1))) (dVar 2)))
def fb_Machine_step : DM Fl := (sSeq b_Machine_step_0 (sSeq b_Machine_step_1 b_Machine_step_2))
def m_Machine_step : List Sv → Led → Res Dv := mOf 3 fb_Machine_step
-- 0 self, 1 state, 2 symbol
theorem sc_Machine_step : FnScope ["self", "state", "symbol"] ["self", "state", "symbol"] (defScope st_Machine_step) := ⟨rfl, rfl, rfl, by decide +kernel, rfl, by decide +kernel, by decide +kernel⟩
theorem cal_Machine_step {P : Program} {w : World} {K : PySem.W.Frag} {mg : Str → Option Value} {base : Heap}  (hk : SysK K) (D : DefM K mg "Machine" "step" "Machine.step" st_Machine_step) (c_require_state : Cal P w K mg base 4 "require_state" "require_state" st_require_state ["machine", "state"] m_require_state) (c_require_symbol : Cal P w K mg base 3 "require_symbol" "require_symbol" st_require_symbol ["alphabet", "symbol"] m_require_symbol) (a_Machine_own_steps : ∀ c ∈ (["Machine"] : List Str), ClsAt K mg c ∧ NoAt K mg c "own_steps") (a_Machine_own_symbols : ∀ c ∈ (["Machine"] : List Str), ClsAt K mg c ∧ NoAt K mg c "own_symbols") :
    CalM P w K mg base 5 "Machine" "step" "Machine.step" st_Machine_step ["self", "state", "symbol"] m_Machine_step :=
  calM_of D sc_Machine_step (fun F => F.binds (ps := ["self", "state", "symbol"]) fun _ _ _ _ _ _ us hl => match us, hl with | [_, _, _], _ => rfl) fun m W hg hr ht hp => by
  exact (dss_cons (ds_expr (de_cal c_require_state (by exact rfl) (by exact rfl) hg hr (by decide) ht (da_cons (de_var 0 (by exact rfl) (by first | exact Or.inl rfl | exact Or.inr (Or.inl rfl) | exact Or.inr (Or.inr rfl))) (da_cons (de_var 1 (by exact rfl) (by first | exact Or.inl rfl | exact Or.inr (Or.inl rfl) | exact Or.inr (Or.inr rfl))) da_nil))))
    (dss_cons (ds_expr (de_cal c_require_symbol (by exact rfl) (by exact rfl) hg hr (by decide) ht (da_cons (de_fld (de_var 0 (by exact rfl) (by first | exact Or.inl rfl | exact Or.inr (Or.inl rfl) | exact Or.inr (Or.inr rfl))) a_Machine_own_symbols) (da_cons (de_var 2 (by exact rfl) (by first | exact Or.inl rfl | exact Or.inr (Or.inl rfl) | exact Or.inr (Or.inr rfl))) da_nil))))
    (dss_one (ds_ret (de_get (u_of hr (by decide)) (de_sub (de_fld (de_var 0 (by exact rfl) (by first | exact Or.inl rfl | exact Or.inr (Or.inl rfl) | exact Or.inr (Or.inr rfl))) a_Machine_own_steps) (de_var 1 (by exact rfl) (by first | exact Or.inl rfl | exact Or.inr (Or.inl rfl) | exact Or.inr (Or.inr rfl))) (fun _ _ => (by exact rfl))) (de_var 2 (by exact rfl) (by first | exact Or.inl rfl | exact Or.inr (Or.inl rfl) | exact Or.inr (Or.inr rfl))) (fun _ _ => (by exact rfl)))))))
/-! ### Machine.__repr__ -/
abbrev st_Machine___repr__ : Stmt := (clsB (top 27)).getD 11 (.Pass ⟨0, 0, 0, 0⟩)
def b_Machine___repr___0 : DM Fl := sRet ((dJoined [dC (.str "Machine("), (dUn gFmtP ((dUn (gFld "own_values" ["Machine"]) (dVar 0)))), dC (.str ", "), (dUn gFmtP ((dUn (gFld "own_symbols" ["Machine"]) (dVar 0)))), dC (.str ")")]))
def fb_Machine___repr__ : DM Fl := b_Machine___repr___0
def m_Machine___repr__ : List Sv → Led → Res Dv := mOf 1 fb_Machine___repr__
-- 0 self
theorem sc_Machine___repr__ : FnScope ["self"] ["self"] (defScope st_Machine___repr__) := ⟨rfl, rfl, rfl, by decide +kernel, rfl, by decide +kernel, by decide +kernel⟩
theorem cal_Machine___repr__ {P : Program} {w : World} {K : PySem.W.Frag} {mg : Str → Option Value} {base : Heap}  (hk : SysK K) (D : DefM K mg "Machine" "__repr__" "Machine.__repr__" st_Machine___repr__)  (a_Machine_own_symbols : ∀ c ∈ (["Machine"] : List Str), ClsAt K mg c ∧ NoAt K mg c "own_symbols") (a_Machine_own_values : ∀ c ∈ (["Machine"] : List Str), ClsAt K mg c ∧ NoAt K mg c "own_values") :
    CalM P w K mg base 1 "Machine" "__repr__" "Machine.__repr__" st_Machine___repr__ ["self"] m_Machine___repr__ :=
  calM_of D sc_Machine___repr__ (fun F => F.binds (ps := ["self"]) fun _ _ _ _ _ _ us hl => match us, hl with | [_], _ => rfl) fun m W hg hr ht hp => by
  exact (dss_one (ds_ret (de_joined (dj_cons de_str (dj_cons (de_fmtP hg hk (u_of hr (by decide)) (de_fld (de_var 0 (by exact rfl) (by first | exact Or.inl rfl | exact Or.inr (Or.inl rfl) | exact Or.inr (Or.inr rfl))) a_Machine_own_values)) (dj_cons de_str (dj_cons (de_fmtP hg hk (u_of hr (by decide)) (de_fld (de_var 0 (by exact rfl) (by first | exact Or.inl rfl | exact Or.inr (Or.inl rfl) | exact Or.inr (Or.inr rfl))) a_Machine_own_symbols)) (dj_cons de_str dj_nil))))))))
/-! ### Machine.value_of -/
abbrev st_Machine_value_of : Stmt := (clsB (top 27)).getD 5 (.Pass ⟨0, 0, 0, 0⟩)
def b_Machine_value_of_0 : DM Fl := sDrop ((dCall 2 m_require_state (dArgs (dVar 0) (dArgs (dVar 1) (dArgs0)))))
def b_Machine_value_of_1 : DM Fl := sRet ((dOp gIx ((dUn (gFld "own_values" ["Machine"]) (dVar 0))) (dVar 1)))
def fb_Machine_value_of : DM Fl := (sSeq b_Machine_value_of_0 b_Machine_value_of_1)
def m_Machine_value_of : List Sv → Led → Res Dv := mOf 2 fb_Machine_value_of
-- 0 self, 1 state
theorem sc_Machine_value_of : FnScope ["self", "state"] ["self", "state"] (defScope st_Machine_value_of) := ⟨rfl, rfl, rfl, by decide +kernel, rfl, by decide +kernel, by decide +kernel⟩
theorem cal_Machine_value_of {P : Program} {w : World} {K : PySem.W.Frag} {mg : Str → Option Value} {base : Heap}  (hk : SysK K) (D : DefM K mg "Machine" "value_of" "Machine.value_of" st_Machine_value_of) (c_require_state : Cal P w K mg base 4 "require_state" "require_state" st_require_state ["machine", "state"] m_require_state) (a_Machine_own_values : ∀ c ∈ (["Machine"] : List Str), ClsAt K mg c ∧ NoAt K mg c "own_values") :
    CalM P w K mg base 5 "Machine" "value_of" "Machine.value_of" st_Machine_value_of ["self", "state"] m_Machine_value_of :=
  calM_of D sc_Machine_value_of (fun F => F.binds (ps := ["self", "state"]) fun _ _ _ _ _ _ us hl => match us, hl with | [_, _], _ => rfl) fun m W hg hr ht hp => by
  exact (dss_cons (ds_expr (de_cal c_require_state (by exact rfl) (by exact rfl) hg hr (by decide) ht (da_cons (de_var 0 (by exact rfl) (by first | exact Or.inl rfl | exact Or.inr (Or.inl rfl) | exact Or.inr (Or.inr rfl))) (da_cons (de_var 1 (by exact rfl) (by first | exact Or.inl rfl | exact Or.inr (Or.inl rfl) | exact Or.inr (Or.inr rfl))) da_nil))))
    (dss_one (ds_ret (de_sub (de_fld (de_var 0 (by exact rfl) (by first | exact Or.inl rfl | exact Or.inr (Or.inl rfl) | exact Or.inr (Or.inr rfl))) a_Machine_own_values) (de_var 1 (by exact rfl) (by first | exact Or.inl rfl | exact Or.inr (Or.inl rfl) | exact Or.inr (Or.inr rfl))) (fun _ _ => (by exact rfl))))))
/-! ### Machine.is_silent -/
abbrev st_Machine_is_silent : Stmt := (clsB (top 27)).getD 3 (.Pass ⟨0, 0, 0, 0⟩)
def b_Machine_is_silent_0 : DM Fl := sRet ((dUn (gFld "own_silence" ["Machine"]) (dVar 0)))
def fb_Machine_is_silent : DM Fl := b_Machine_is_silent_0
def m_Machine_is_silent : List Sv → Led → Res Dv := mOf 1 fb_Machine_is_silent
-- 0 self
theorem sc_Machine_is_silent : FnScope ["self"] ["self"] (defScope st_Machine_is_silent) := ⟨rfl, rfl, rfl, by decide +kernel, rfl, by decide +kernel, by decide +kernel⟩
theorem cal_Machine_is_silent {P : Program} {w : World} {K : PySem.W.Frag} {mg : Str → Option Value} {base : Heap}  (hk : SysK K) (D : DefP K mg "Machine" "is_silent" "Machine.is_silent" st_Machine_is_silent)  (a_Machine_own_silence : ∀ c ∈ (["Machine"] : List Str), ClsAt K mg c ∧ NoAt K mg c "own_silence") :
    CalP P w K mg base 1 "Machine" "is_silent" "Machine.is_silent" st_Machine_is_silent ["self"] m_Machine_is_silent :=
  calP_of D sc_Machine_is_silent (fun F => F.binds (ps := ["self"]) fun _ _ _ _ _ _ us hl => match us, hl with | [_], _ => rfl) fun m W hg hr ht hp => by
  exact (dss_one (ds_ret (de_fld (de_var 0 (by exact rfl) (by first | exact Or.inl rfl | exact Or.inr (Or.inl rfl) | exact Or.inr (Or.inr rfl))) a_Machine_own_silence)))
/-! ### Machine.alphabet -/
abbrev st_Machine_alphabet : Stmt := (clsB (top 27)).getD 4 (.Pass ⟨0, 0, 0, 0⟩)
def b_Machine_alphabet_0 : DM Fl := sRet ((dBiL true gLst4 (dArgs ((dUn (gFld "own_symbols" ["Machine"]) (dVar 0))) (dArgs0))))
def fb_Machine_alphabet : DM Fl := b_Machine_alphabet_0
def m_Machine_alphabet : List Sv → Led → Res Dv := mOf 1 fb_Machine_alphabet
-- 0 self
theorem sc_Machine_alphabet : FnScope ["self"] ["self"] (defScope st_Machine_alphabet) := ⟨rfl, rfl, rfl, by decide +kernel, rfl, by decide +kernel, by decide +kernel⟩
theorem cal_Machine_alphabet {P : Program} {w : World} {K : PySem.W.Frag} {mg : Str → Option Value} {base : Heap}  (hk : SysK K) (D : DefM K mg "Machine" "alphabet" "Machine.alphabet" st_Machine_alphabet)  (a_Machine_own_symbols : ∀ c ∈ (["Machine"] : List Str), ClsAt K mg c ∧ NoAt K mg c "own_symbols") (n_list : mg "list" = none) :
    CalM P w K mg base 1 "Machine" "alphabet" "Machine.alphabet" st_Machine_alphabet ["self"] m_Machine_alphabet :=
  calM_of D sc_Machine_alphabet (fun F => F.binds (ps := ["self"]) fun _ _ _ _ _ _ us hl => match us, hl with | [_], _ => rfl) fun m W hg hr ht hp => by
  exact (dss_one (ds_ret (de_tL (call_list4 (by exact rfl)) ls_list4 (by exact rfl) n_list bt_list (da_cons (de_fld (de_var 0 (by exact rfl) (by first | exact Or.inl rfl | exact Or.inr (Or.inl rfl) | exact Or.inr (Or.inr rfl))) a_Machine_own_symbols) da_nil))))
/-! ### _law_shown -/
abbrev st_l_shown : Stmt := top 39
def b_l_shown_0 : DM Fl := sSet 2 ((dBiO "__len__" [("Machine", m_Machine___len__)] chkLen gLen (dArgs (dVar 0) (dArgs0))))
def ce_l_shown_1 : DM Sv := (dMeth "step" 2 [("Machine", m_Machine_step)] (dVar 0) (dArgs (dVar 4) (dArgs (dVar 5) (dArgs0))))
def ce_l_shown_2 : DM Sv := (dLc (iV (dVar 1)) (.one 5) dTr (ce_l_shown_1) [5])
def b_l_shown_3 : DM Fl := sSet 3 ((dLc (iR1 (dVar 2)) (.one 4) dTr (ce_l_shown_2) [4]))
def ce_l_shown_4 : DM Sv := (dMeth "value_of" 1 [("Machine", m_Machine_value_of)] (dVar 0) (dArgs (dVar 4) (dArgs0)))
def b_l_shown_5 : DM Fl := sRet ((dLst (dArgs (dVar 2) (dArgs ((dFrz (dMeth "alphabet" 0 [("Machine", m_Machine_alphabet)] (dVar 0) dArgs0))) (dArgs ((dProp "is_silent" [("Machine", m_Machine_is_silent)] (dVar 0))) (dArgs ((dLc (iR1 (dVar 2)) (.one 4) dTr (ce_l_shown_4) [4])) (dArgs (dVar 3) (dArgs ((dBiO "__repr__" [("Machine", m_Machine___repr__)] chkStr gRepr (dArgs (dVar 0) (dArgs0)))) (dArgs0)))))))))
def fb_l_shown : DM Fl := (sSeq b_l_shown_0 (sSeq b_l_shown_3 b_l_shown_5))
def m_l_shown : List Sv → Led → Res Dv := mOf 6 fb_l_shown
-- 0 _law_made, 1 _law_letters, 2 _law_many, 3 _law_steps, 4 _law_state, 5 _law_letter
theorem sc_l_shown : FnScope ["_law_made", "_law_letters", "_law_many", "_law_steps", "_law_state", "_law_letter"] ["_law_made", "_law_letters"] (defScope st_l_shown) := ⟨rfl, rfl, rfl, by decide +kernel, rfl, by decide +kernel, by decide +kernel⟩
theorem cal_l_shown {P : Program} {w : World} {K : PySem.W.Frag} {mg : Str → Option Value} {base : Heap}  (hk : SysK K) (D : DefAt K mg "_law_shown" "_law_shown" st_l_shown) (c_Machine___len__ : CalM P w K mg base 1 "Machine" "__len__" "Machine.__len__" st_Machine___len__ ["self"] m_Machine___len__) (c_Machine_step : CalM P w K mg base 5 "Machine" "step" "Machine.step" st_Machine_step ["self", "state", "symbol"] m_Machine_step) (c_Machine___repr__ : CalM P w K mg base 1 "Machine" "__repr__" "Machine.__repr__" st_Machine___repr__ ["self"] m_Machine___repr__) (c_Machine_value_of : CalM P w K mg base 5 "Machine" "value_of" "Machine.value_of" st_Machine_value_of ["self", "state"] m_Machine_value_of) (c_Machine_is_silent : CalP P w K mg base 1 "Machine" "is_silent" "Machine.is_silent" st_Machine_is_silent ["self"] m_Machine_is_silent) (c_Machine_alphabet : CalM P w K mg base 1 "Machine" "alphabet" "Machine.alphabet" st_Machine_alphabet ["self"] m_Machine_alphabet) (cl_Machine : ClsAt K mg "Machine") (n_len : mg "len" = none) (n_range : mg "range" = none) (n_repr : mg "repr" = none) :
    Cal P w K mg base 6 "_law_shown" "_law_shown" st_l_shown ["_law_made", "_law_letters"] m_l_shown :=
  cal_of D sc_l_shown (fun F => F.binds (ps := ["_law_made", "_law_letters"]) fun _ _ _ _ _ _ us hl => match us, hl with | [_, _], _ => rfl) fun m W hg hr ht hp => by
  exact (dss_cons (ds_set 2 sc_l_shown.nd (by exact rfl) (by first | exact Or.inl rfl | exact Or.inr rfl) (de_lenO (k := 1) (by exact rfl) hg (mtab_cons cl_Machine c_Machine___len__ (by decide) (by exact rfl) mtab_nil) (hr.mono (by decide)) (by exact rfl) n_len bt_len (da_cons (de_var 0 (by exact rfl) (by first | exact Or.inl rfl | exact Or.inr (Or.inl rfl) | exact Or.inr (Or.inr rfl))) da_nil)))
    (dss_cons (ds_setLc (by exact rfl) sc_l_shown.nd (by exact rfl) (by exact rfl) (sw_true (by exact rfl) (by exact rfl) (by exact rfl) (by exact rfl)) (di_range1 (by exact rfl) n_range (de_var 2 (by exact rfl) (by first | exact Or.inl rfl | exact Or.inr (Or.inl rfl) | exact Or.inr (Or.inr rfl)))) (blkOk_by (own := [("_law_state", 4)]) (by exact rfl)) (fun _ _ _ _ _ => (dtg_name 4 sc_l_shown.nd (by exact rfl) (by first | exact Or.inl rfl | exact Or.inr rfl))) (fun _ _ _ _ _ => dts_nil) (fun _ _ _ _ _ => (de_lc (by exact rfl) sc_l_shown.nd (di_val (de_var 1 (by exact rfl) (by first | exact Or.inl rfl | exact Or.inr (Or.inl rfl) | exact Or.inr (Or.inr rfl)))) (blkOk_by (own := [("_law_letter", 5)]) (by exact rfl)) (fun _ _ _ _ _ => (dtg_name 5 sc_l_shown.nd (by exact rfl) (by first | exact Or.inl rfl | exact Or.inr rfl))) (fun _ _ _ _ _ => dts_nil) (fun _ _ _ _ _ => (de_meth (de_var 0 (by exact rfl) (by first | exact Or.inl rfl | exact Or.inr (Or.inl rfl) | exact Or.inr (Or.inr rfl))) (mtab_cons cl_Machine c_Machine_step (by decide) (by exact rfl) mtab_nil) (by exact rfl) hg hr takes_wno (da_cons (de_var 4 (by exact rfl) (by first | exact Or.inl rfl | exact Or.inr (Or.inl rfl) | exact Or.inr (Or.inr rfl))) (da_cons (de_var 5 (by exact rfl) (by first | exact Or.inl rfl | exact Or.inr (Or.inl rfl) | exact Or.inr (Or.inr rfl))) da_nil)))) (by decide))) (by decide))
    (dss_one (ds_ret (de_lst (da_cons (de_var 2 (by exact rfl) (by first | exact Or.inl rfl | exact Or.inr (Or.inl rfl) | exact Or.inr (Or.inr rfl))) (da_cons (de_frz (de_meth0 (de_var 0 (by exact rfl) (by first | exact Or.inl rfl | exact Or.inr (Or.inl rfl) | exact Or.inr (Or.inr rfl))) (mtab_cons cl_Machine c_Machine_alphabet (by decide) (by exact rfl) mtab_nil) (by exact rfl) hg hr ht)) (da_cons (de_prop (by exact rfl) hg (de_var 0 (by exact rfl) (by first | exact Or.inl rfl | exact Or.inr (Or.inl rfl) | exact Or.inr (Or.inr rfl))) (k := 1) (ptab_cons cl_Machine c_Machine_is_silent (by decide) (by exact rfl) ptab_nil) (hr.mono (by decide))) (da_cons (de_lc (by exact rfl) sc_l_shown.nd (di_range1 (by exact rfl) n_range (de_var 2 (by exact rfl) (by first | exact Or.inl rfl | exact Or.inr (Or.inl rfl) | exact Or.inr (Or.inr rfl)))) (blkOk_by (own := [("_law_state", 4)]) (by exact rfl)) (fun _ _ _ _ _ => (dtg_name 4 sc_l_shown.nd (by exact rfl) (by first | exact Or.inl rfl | exact Or.inr rfl))) (fun _ _ _ _ _ => dts_nil) (fun _ _ _ _ _ => (de_meth (de_var 0 (by exact rfl) (by first | exact Or.inl rfl | exact Or.inr (Or.inl rfl) | exact Or.inr (Or.inr rfl))) (mtab_cons cl_Machine c_Machine_value_of (by decide) (by exact rfl) mtab_nil) (by exact rfl) hg hr takes_wno (da_cons (de_var 4 (by exact rfl) (by first | exact Or.inl rfl | exact Or.inr (Or.inl rfl) | exact Or.inr (Or.inr rfl))) da_nil))) (by decide)) (da_cons (de_var 3 (by exact rfl) (by first | exact Or.inl rfl | exact Or.inr (Or.inl rfl) | exact Or.inr (Or.inr rfl))) (da_cons (de_reprO (k := 1) (by exact rfl) hg hk (mtab_cons cl_Machine c_Machine___repr__ (by decide) (by exact rfl) mtab_nil) (hr.mono (by decide)) (u_of hr (by decide)) (by exact rfl) n_repr bt_repr (da_cons (de_var 0 (by exact rfl) (by first | exact Or.inl rfl | exact Or.inr (Or.inl rfl) | exact Or.inr (Or.inr rfl))) da_nil)) da_nil)))))))))))
/-! ### _law_right -/
abbrev st_l_right : Stmt := top 42
def b_l_right_0 : DM Fl := sSet 1 ((dCall 3 m_l_names (dArgs (dVar 0) (dArgs ((dOp gAdd (dC (.int 1)) ((dCall 2 m_l_digit (dArgs (dVar 0) (dArgs ((dOp gIx ((dLst (dArgs (dC (.int 3)) (dArgs (dC (.int 8)) (dArgs0))))) ((dCall 2 m_l_digit (dArgs (dVar 0) (dArgs (dC (.int 2)) (dArgs0))))))) (dArgs0))))))) (dArgs ((dLst (dArgs0))) (dArgs0))))))
def b_l_right_1 : DM Fl := sSet 2 ((dCall 3 m_l_table (dArgs (dVar 0) (dArgs (dVar 1) (dArgs (dC (.int 6)) (dArgs0))))))
def ce_l_right_2 : DM Sv := (dBiK true gDict (dArgs (dVar 6) (dArgs0)))
def b_l_right_3 : DM Fl := sPar 3 4 [.e ((dBiL true gLst4 (dArgs ((dOp gGet (dVar 2) (dC (.str "values")))) (dArgs0)))), .e ((dLcO true false ((dOp gGet (dVar 2) (dC (.str "steps")))) (.one 6) dTr (ce_l_right_2) [6]))]
def ce_l_right_4 : DM Sv := (dBiK true gDict (dArgs (dVar 6) (dArgs0)))
def b_l_right_5 : DM Fl := sSet 5 ((dOp gIx ((dLst (dArgs ((dMake "Machine" 2 m_Machine___init__ (dArgs (dVar 3) (dArgs (dVar 4) (dArgs0))))) (dArgs ((dMake "Machine" 2 m_Machine___init__ (dArgs ((dBi gTuple (dArgs (dVar 3) (dArgs0)))) (dArgs ((dBi gTuple (dArgs ((dLcO false false (dVar 4) (.one 6) dTr (ce_l_right_4) [6])) (dArgs0)))) (dArgs0))))) (dArgs0))))) ((dCall 2 m_l_digit (dArgs (dVar 0) (dArgs (dC (.int 2)) (dArgs0)))))))
def b_l_right_6 : DM Fl := sDrop ((dLm gmAppend (dVar 3) (dArgs (dC (.int 9)) (dArgs0))))
def b_l_right_7 : DM Fl := sDrop ((dDclear (dVar 6)))
def b_l_right_8 : DM Fl := sForO false (dVar 4) (.one 6) (b_l_right_7)
def b_l_right_9 : DM Fl := sDrop ((dLm gmClear (dVar 4) dArgs0))
def b_l_right_10 : DM Fl := sSet 7 ((dBi gRepr (dArgs ((dCall 2 m_l_due (dArgs (dVar 2) (dArgs (dVar 1) (dArgs0))))) (dArgs0))))
def b_l_right_11 : DM Fl := sRet (dC (.bl false))
def b_l_right_12 : DM Fl := sIf (dOr (dB (dOp gNe ((dBi gRepr (dArgs ((dCall 2 m_l_shown (dArgs (dVar 5) (dArgs (dVar 1) (dArgs0))))) (dArgs0)))) (dVar 7))) (dNot (dB ((dCall 4 m_l_runs_right (dArgs (dVar 0) (dArgs (dVar 5) (dArgs (dVar 2) (dArgs (dVar 1) (dArgs0)))))))))) (b_l_right_11) (sNil)
def b_l_right_13 : DM Fl := sDrop ((dLm gmClear ((dMeth "alphabet" 0 [("Machine", m_Machine_alphabet)] (dVar 5) dArgs0)) dArgs0))
def b_l_right_14 : DM Fl := sRet ((dAndV ((dOp gEq ((dBi gRepr (dArgs ((dCall 2 m_l_shown (dArgs (dVar 5) (dArgs (dVar 1) (dArgs0))))) (dArgs0)))) (dVar 7))) ((dOp gEq ((dMeth "run" 2 [("Machine", m_Machine_run)] (dVar 5) (dArgs (dC (.int 0)) (dArgs ((dLst (dArgs0))) (dArgs0))))) ((dTup (dArgs (dC (.int 0)) (dArgs ((dTup (dArgs0))) (dArgs0)))))))))
def fb_l_right : DM Fl := (sSeq b_l_right_0 (sSeq b_l_right_1 (sSeq b_l_right_3 (sSeq b_l_right_5 (sSeq b_l_right_6 (sSeq b_l_right_8 (sSeq b_l_right_9 (sSeq b_l_right_10 (sSeq b_l_right_12 (sSeq b_l_right_13 b_l_right_14))))))))))
def m_l_right : List Sv → Led → Res Dv := mOf 8 fb_l_right
-- 0 _law_pot_here, 1 _law_letters, 2 _law_table_here, 3 _law_values, 4 _law_rows, 5 _law_made, 6 _law_row, 7 _law_due_here
theorem sc_l_right : FnScope ["_law_pot_here", "_law_letters", "_law_table_here", "_law_values", "_law_rows", "_law_made", "_law_row", "_law_due_here"] ["_law_pot_here"] (defScope st_l_right) := ⟨rfl, rfl, rfl, by decide +kernel, rfl, by decide +kernel, by decide +kernel⟩
theorem cal_l_right {P : Program} {w : World} {K : PySem.W.Frag} {mg : Str → Option Value} {base : Heap}  (hk : SysK K) (D : DefAt K mg "_law_right" "_law_right" st_l_right) (c_l_digit : Cal P w K mg base 1 "_law_digit" "_law_digit" st_l_digit ["_law_pot_here", "_law_many"] m_l_digit) (c_l_names : Cal P w K mg base 3 "_law_names" "_law_names" st_l_names ["_law_pot_here", "_law_many", "_law_used"] m_l_names) (c_l_table : Cal P w K mg base 3 "_law_table" "_law_table" st_l_table ["_law_pot_here", "_law_letters", "_law_most"] m_l_table) (c_Machine___init__ : CalM P w K mg base 6 "Machine" "__init__" "Machine.__init__" st_Machine___init__ ["self", "values", "steps"] m_Machine___init__) (c_l_due : Cal P w K mg base 1 "_law_due" "_law_due" st_l_due ["_law_table_here", "_law_letters"] m_l_due) (c_Machine_run : CalM P w K mg base 5 "Machine" "run" "Machine.run" st_Machine_run ["self", "state", "word"] m_Machine_run) (c_l_runs_right : Cal P w K mg base 6 "_law_runs_right" "_law_runs_right" st_l_runs_right ["_law_pot_here", "_law_made", "_law_table_here", "_law_letters"] m_l_runs_right) (c_Machine_alphabet : CalM P w K mg base 1 "Machine" "alphabet" "Machine.alphabet" st_Machine_alphabet ["self"] m_Machine_alphabet) (c_l_shown : Cal P w K mg base 6 "_law_shown" "_law_shown" st_l_shown ["_law_made", "_law_letters"] m_l_shown) (cl_Machine : ClsAt K mg "Machine") (mk_Machine : MkAt K mg "Machine") (n_dict : mg "dict" = none) (n_list : mg "list" = none) (n_repr : mg "repr" = none) (n_tuple : mg "tuple" = none) :
    Cal P w K mg base 8 "_law_right" "_law_right" st_l_right ["_law_pot_here"] m_l_right :=
  cal_of D sc_l_right (fun F => F.binds (ps := ["_law_pot_here"]) fun _ _ _ _ _ _ us hl => match us, hl with | [_], _ => rfl) fun m W hg hr ht hp => by
  exact (dss_cons (ds_set 1 sc_l_right.nd (by exact rfl) (by first | exact Or.inl rfl | exact Or.inr rfl) (de_cal c_l_names (by exact rfl) (by exact rfl) hg hr (by decide) ht (da_cons (de_var 0 (by exact rfl) (by first | exact Or.inl rfl | exact Or.inr (Or.inl rfl) | exact Or.inr (Or.inr rfl))) (da_cons (de_op oAdd sAdd de_int (de_cal c_l_digit (by exact rfl) (by exact rfl) hg hr (by decide) ht (da_cons (de_var 0 (by exact rfl) (by first | exact Or.inl rfl | exact Or.inr (Or.inl rfl) | exact Or.inr (Or.inr rfl))) (da_cons (de_sub (de_lst (da_cons de_int (da_cons de_int da_nil))) (de_cal c_l_digit (by exact rfl) (by exact rfl) hg hr (by decide) ht (da_cons (de_var 0 (by exact rfl) (by first | exact Or.inl rfl | exact Or.inr (Or.inl rfl) | exact Or.inr (Or.inr rfl))) (da_cons de_int da_nil))) (fun _ _ => (by exact rfl))) da_nil)))) (da_cons (de_lst da_nil) da_nil)))))
    (dss_cons (ds_set 2 sc_l_right.nd (by exact rfl) (by first | exact Or.inl rfl | exact Or.inr rfl) (de_cal c_l_table (by exact rfl) (by exact rfl) hg hr (by decide) ht (da_cons (de_var 0 (by exact rfl) (by first | exact Or.inl rfl | exact Or.inr (Or.inl rfl) | exact Or.inr (Or.inr rfl))) (da_cons (de_var 1 (by exact rfl) (by first | exact Or.inl rfl | exact Or.inr (Or.inl rfl) | exact Or.inr (Or.inr rfl))) (da_cons de_int da_nil)))))
    (dss_cons (ds_par (by exact rfl) sc_l_right.nd (by exact rfl) (by exact rfl) (by decide) (by exact rfl) (by exact rfl) (dpm_e (de_tL (call_list4 (by exact rfl)) ls_list4 (by exact rfl) n_list bt_list (da_cons (de_get (u_of hr (by decide)) (de_var 2 (by exact rfl) (by first | exact Or.inl rfl | exact Or.inr (Or.inl rfl) | exact Or.inr (Or.inr rfl))) de_str (fun _ _ => (by exact rfl))) da_nil)) (dpm_e (de_lcO (by exact rfl) sc_l_right.nd (de_get (u_of hr (by decide)) (de_var 2 (by exact rfl) (by first | exact Or.inl rfl | exact Or.inr (Or.inl rfl) | exact Or.inr (Or.inr rfl))) de_str (fun _ _ => (by exact rfl))) (blkOk_by (own := [("_law_row", 6)]) (by exact rfl)) (fun _ _ _ _ _ => (dtg_name 6 sc_l_right.nd (by exact rfl) (by first | exact Or.inl rfl | exact Or.inr rfl))) (fun _ _ _ _ _ => dts_nil) (fun _ _ _ _ _ => (de_tK (call_dict2 (by exact rfl)) ks_dict (by exact rfl) n_dict bt_dict (da_cons (de_var 6 (by exact rfl) (by first | exact Or.inl rfl | exact Or.inr (Or.inl rfl) | exact Or.inr (Or.inr rfl))) da_nil))) (by decide)) dpm_nil)) (by exact rfl))
    (dss_cons (ds_set 5 sc_l_right.nd (by exact rfl) (by first | exact Or.inl rfl | exact Or.inr rfl) (de_sub (de_lst (da_cons (de_make mk_Machine c_Machine___init__ (by exact rfl) (by exact rfl) hg hr (by decide) ht (da_cons (de_var 3 (by exact rfl) (by first | exact Or.inl rfl | exact Or.inr (Or.inl rfl) | exact Or.inr (Or.inr rfl))) (da_cons (de_var 4 (by exact rfl) (by first | exact Or.inl rfl | exact Or.inr (Or.inl rfl) | exact Or.inr (Or.inr rfl))) da_nil))) (da_cons (de_make mk_Machine c_Machine___init__ (by exact rfl) (by exact rfl) hg hr (by decide) ht (da_cons (de_callTy call_tuple_of cs_tuple (by exact rfl) n_tuple bt_tuple (da_cons (de_var 3 (by exact rfl) (by first | exact Or.inl rfl | exact Or.inr (Or.inl rfl) | exact Or.inr (Or.inr rfl))) da_nil)) (da_cons (de_callTy call_tuple_of cs_tuple (by exact rfl) n_tuple bt_tuple (da_cons (de_lcO (by exact rfl) sc_l_right.nd (de_var 4 (by exact rfl) (by first | exact Or.inl rfl | exact Or.inr (Or.inl rfl) | exact Or.inr (Or.inr rfl))) (blkOk_by (own := [("_law_row", 6)]) (by exact rfl)) (fun _ _ _ _ _ => (dtg_name 6 sc_l_right.nd (by exact rfl) (by first | exact Or.inl rfl | exact Or.inr rfl))) (fun _ _ _ _ _ => dts_nil) (fun _ _ _ _ _ => (de_tK (call_dict2 (by exact rfl)) ks_dict (by exact rfl) n_dict bt_dict (da_cons (de_var 6 (by exact rfl) (by first | exact Or.inl rfl | exact Or.inr (Or.inl rfl) | exact Or.inr (Or.inr rfl))) da_nil))) (by decide)) da_nil)) da_nil))) da_nil))) (de_cal c_l_digit (by exact rfl) (by exact rfl) hg hr (by decide) ht (da_cons (de_var 0 (by exact rfl) (by first | exact Or.inl rfl | exact Or.inr (Or.inl rfl) | exact Or.inr (Or.inr rfl))) (da_cons de_int da_nil))) (fun _ _ => (by exact rfl))))
    (dss_cons (ds_expr (de_lappend (de_var 3 (by exact rfl) (by first | exact Or.inl rfl | exact Or.inr (Or.inl rfl) | exact Or.inr (Or.inr rfl))) (da_cons de_int da_nil)))
    (dss_cons (ds_forO hp (by exact rfl) (de_var 4 (by exact rfl) (by first | exact Or.inl rfl | exact Or.inr (Or.inl rfl) | exact Or.inr (Or.inr rfl))) (dtg_name 6 sc_l_right.nd (by exact rfl) (by first | exact Or.inl rfl | exact Or.inr rfl)) (dss_one (ds_expr (de_dclear (de_var 6 (by exact rfl) (by first | exact Or.inl rfl | exact Or.inr (Or.inl rfl) | exact Or.inr (Or.inr rfl)))))))
    (dss_cons (ds_expr (de_lclear (de_var 4 (by exact rfl) (by first | exact Or.inl rfl | exact Or.inr (Or.inl rfl) | exact Or.inr (Or.inr rfl)))))
    (dss_cons (ds_set 7 sc_l_right.nd (by exact rfl) (by first | exact Or.inl rfl | exact Or.inr rfl) (de_callB (call_repr hg (u_of hr (by decide))) (cs_repr hk) (by exact rfl) n_repr bt_repr (da_cons (de_cal c_l_due (by exact rfl) (by exact rfl) hg hr (by decide) ht (da_cons (de_var 2 (by exact rfl) (by first | exact Or.inl rfl | exact Or.inr (Or.inl rfl) | exact Or.inr (Or.inr rfl))) (da_cons (de_var 1 (by exact rfl) (by first | exact Or.inl rfl | exact Or.inr (Or.inl rfl) | exact Or.inr (Or.inr rfl))) da_nil))) da_nil)))
    (dss_cons (ds_if (PW.pt (dw_or (dt_cmp (oNeP (u_of hr (by decide))) (sNe hk) (de_callB (call_repr hg (u_of hr (by decide))) (cs_repr hk) (by exact rfl) n_repr bt_repr (da_cons (de_cal c_l_shown (by exact rfl) (by exact rfl) hg hr (by decide) ht (da_cons (de_var 5 (by exact rfl) (by first | exact Or.inl rfl | exact Or.inr (Or.inl rfl) | exact Or.inr (Or.inr rfl))) (da_cons (de_var 1 (by exact rfl) (by first | exact Or.inl rfl | exact Or.inr (Or.inl rfl) | exact Or.inr (Or.inr rfl))) da_nil))) da_nil)) (de_var 7 (by exact rfl) (by first | exact Or.inl rfl | exact Or.inr (Or.inl rfl) | exact Or.inr (Or.inr rfl))) (nomark _)) (dw_or1 (dt_not (dt_val (de_cal c_l_runs_right (by exact rfl) (by exact rfl) hg hr (by decide) ht (da_cons (de_var 0 (by exact rfl) (by first | exact Or.inl rfl | exact Or.inr (Or.inl rfl) | exact Or.inr (Or.inr rfl))) (da_cons (de_var 5 (by exact rfl) (by first | exact Or.inl rfl | exact Or.inr (Or.inl rfl) | exact Or.inr (Or.inr rfl))) (da_cons (de_var 2 (by exact rfl) (by first | exact Or.inl rfl | exact Or.inr (Or.inl rfl) | exact Or.inr (Or.inr rfl))) (da_cons (de_var 1 (by exact rfl) (by first | exact Or.inl rfl | exact Or.inr (Or.inl rfl) | exact Or.inr (Or.inr rfl))) da_nil)))))))))) (dss_one (ds_ret de_bl)) dss_nil)
    (dss_cons (ds_expr (de_lclear (de_meth0 (de_var 5 (by exact rfl) (by first | exact Or.inl rfl | exact Or.inr (Or.inl rfl) | exact Or.inr (Or.inr rfl))) (mtab_cons cl_Machine c_Machine_alphabet (by decide) (by exact rfl) mtab_nil) (by exact rfl) hg hr ht)))
    (dss_one (ds_ret (de_and (de_cmp (oEq (u_of hr (by decide))) (sEq hk) (de_callB (call_repr hg (u_of hr (by decide))) (cs_repr hk) (by exact rfl) n_repr bt_repr (da_cons (de_cal c_l_shown (by exact rfl) (by exact rfl) hg hr (by decide) ht (da_cons (de_var 5 (by exact rfl) (by first | exact Or.inl rfl | exact Or.inr (Or.inl rfl) | exact Or.inr (Or.inr rfl))) (da_cons (de_var 1 (by exact rfl) (by first | exact Or.inl rfl | exact Or.inr (Or.inl rfl) | exact Or.inr (Or.inr rfl))) da_nil))) da_nil)) (de_var 7 (by exact rfl) (by first | exact Or.inl rfl | exact Or.inr (Or.inl rfl) | exact Or.inr (Or.inr rfl))) (nomark _)) (de_one (de_cmp (oEq (u_of hr (by decide))) (sEq hk) (de_meth (de_var 5 (by exact rfl) (by first | exact Or.inl rfl | exact Or.inr (Or.inl rfl) | exact Or.inr (Or.inr rfl))) (mtab_cons cl_Machine c_Machine_run (by decide) (by exact rfl) mtab_nil) (by exact rfl) hg hr ht (da_cons de_int (da_cons (de_lst da_nil) da_nil))) (de_tup (da_cons de_int (da_cons (de_tup da_nil) da_nil))) (nomark _))))))))))))))))
/-! ### _law_fixed_right -/
abbrev st_l_fixed_right : Stmt := top 43
def b_l_fixed_right_0 : DM Fl := sSet 0 ((dDicO [(dC (.str "a"), (dTup (dArgs (dC (.int 0)) (dArgs (dC .non) (dArgs0))))), (dC (.str "b"), (dTup (dArgs (dC (.int 1)) (dArgs (dC (.str "x")) (dArgs0)))))]))
def b_l_fixed_right_1 : DM Fl := sPar 1 2 [.e ((dMake "Machine" 2 m_Machine___init__ (dArgs ((dLst (dArgs (dC (.int 3)) (dArgs (dC (.int 4)) (dArgs0))))) (dArgs ((dLst (dArgs (dVar 0) (dArgs (dVar 0) (dArgs0))))) (dArgs0))))), .e ((dMake "Machine" 2 m_Machine___init__ (dArgs ((dLst (dArgs (dC (.int 0)) (dArgs (dC (.int 0)) (dArgs0))))) (dArgs ((dLst (dArgs ((dDic [(dC (.str "a"), (dTup (dArgs (dC (.int 0)) (dArgs (dC .non) (dArgs0)))))])) (dArgs ((dDic [(dC (.str "a"), (dTup (dArgs (dC (.int 0)) (dArgs (dC (.str "x")) (dArgs0)))))])) (dArgs0))))) (dArgs0)))))]
def b_l_fixed_right_2 : DM Fl := sAsg ((dTup (dArgs (dC (.int 1)) (dArgs (dC (.str "y")) (dArgs0))))) (gSt (dVar 0) (dC (.str "a")))
def b_l_fixed_right_3 : DM Fl := sRet (dC (.bl false))
def b_l_fixed_right_4 : DM Fl := sIf (dB (dOp gNe ((dLst (dArgs ((dMeth "step" 2 [("Machine", m_Machine_step)] (dVar 1) (dArgs (dC (.int 0)) (dArgs (dC (.str "a")) (dArgs0))))) (dArgs ((dMeth "step" 2 [("Machine", m_Machine_step)] (dVar 1) (dArgs (dC (.int 1)) (dArgs (dC (.str "a")) (dArgs0))))) (dArgs ((dProp "is_silent" [("Machine", m_Machine_is_silent)] (dVar 2))) (dArgs0)))))) ((dLst (dArgs ((dTup (dArgs (dC (.int 0)) (dArgs (dC .non) (dArgs0))))) (dArgs ((dTup (dArgs (dC (.int 0)) (dArgs (dC .non) (dArgs0))))) (dArgs (dC (.bl false)) (dArgs0)))))))) (b_l_fixed_right_3) (sNil)
def b_l_fixed_right_5 : DM Fl := sSetL 3 (dArgs0)
def ce_l_fixed_right_6 : DM Sv := (dTup (dArgs (dVar 7) (dArgs ((dTup (dArgs ((dOp gMod ((dOp gAdd (dVar 4) (dVar 6))) (dC (.int 64)))) (dArgs (dC .non) (dArgs0))))) (dArgs0))))
def b_l_fixed_right_7 : DM Fl := sApp 3 ((dBiK false gDict (dArgs ((dLc (iEn (dC (.str "abcdefgh"))) (.tup [6, 7]) dTr (ce_l_fixed_right_6) [6, 7])) (dArgs0))))
def b_l_fixed_right_8 : DM Fl := sFor (iR1 (dC (.int 64))) (.one 4) (b_l_fixed_right_7)
def b_l_fixed_right_9 : DM Fl := sSet 5 ((dMake "Machine" 2 m_Machine___init__ (dArgs ((dLrg false (dC (.int 64)))) (dArgs (dVar 3) (dArgs0)))))
def b_l_fixed_right_10 : DM Fl := sRet (dC (.bl false))
def b_l_fixed_right_11 : DM Fl := sIf (dOr (dB (dOp gNe ((dMeth "run" 2 [("Machine", m_Machine_run)] (dVar 5) (dArgs (dC (.int 60)) (dArgs ((dBiL false gLst4 (dArgs (dC (.str "abcdefgh")) (dArgs0)))) (dArgs0))))) ((dTup (dArgs (dC (.int 24)) (dArgs ((dTup (dArgs0))) (dArgs0))))))) (dOr (dB (dOp (gIsB true) ((dProp "is_silent" [("Machine", m_Machine_is_silent)] (dVar 5))) (dC (.bl true)))) (dB (dOp gNe ((dMeth "value_of" 1 [("Machine", m_Machine_value_of)] (dVar 5) (dArgs (dC (.int 63)) (dArgs0)))) (dC (.int 63)))))) (b_l_fixed_right_10) (sNil)
def b_l_fixed_right_12 : DM Fl := sRet ((dOp gEq ((dMeth "run" 2 [("Machine", m_Machine_run)] (dVar 1) (dArgs (dC (.int 0)) (dArgs ((dOp gMul ((dLst (dArgs (dC (.str "b")) (dArgs0)))) (dC (.int 300)))) (dArgs0))))) ((dTup (dArgs (dC (.int 1)) (dArgs ((dOp gMulT ((dTup (dArgs (dC (.str "x")) (dArgs0)))) (dC (.int 300)))) (dArgs0)))))))
def fb_l_fixed_right : DM Fl := (sSeq b_l_fixed_right_0 (sSeq b_l_fixed_right_1 (sSeq b_l_fixed_right_2 (sSeq b_l_fixed_right_4 (sSeq b_l_fixed_right_5 (sSeq b_l_fixed_right_8 (gFrz 3 (sSeq b_l_fixed_right_9 (sSeq b_l_fixed_right_11 b_l_fixed_right_12)))))))))
def m_l_fixed_right : List Sv → Led → Res Dv := mOf 8 fb_l_fixed_right
-- 0 _law_row, 1 _law_twice, 2 _law_lone, 3 _law_rows, 4 _law_state, 5 _law_wide, 6 _law_at, 7 _law_letter
theorem sc_l_fixed_right : FnScope ["_law_row", "_law_twice", "_law_lone", "_law_rows", "_law_state", "_law_wide", "_law_at", "_law_letter"] [] (defScope st_l_fixed_right) := ⟨rfl, rfl, rfl, by decide +kernel, rfl, by decide +kernel, by decide +kernel⟩
theorem cal_l_fixed_right {P : Program} {w : World} {K : PySem.W.Frag} {mg : Str → Option Value} {base : Heap}  (hk : SysK K) (D : DefAt K mg "_law_fixed_right" "_law_fixed_right" st_l_fixed_right) (c_Machine___init__ : CalM P w K mg base 6 "Machine" "__init__" "Machine.__init__" st_Machine___init__ ["self", "values", "steps"] m_Machine___init__) (c_Machine_run : CalM P w K mg base 5 "Machine" "run" "Machine.run" st_Machine_run ["self", "state", "word"] m_Machine_run) (c_Machine_step : CalM P w K mg base 5 "Machine" "step" "Machine.step" st_Machine_step ["self", "state", "symbol"] m_Machine_step) (c_Machine_value_of : CalM P w K mg base 5 "Machine" "value_of" "Machine.value_of" st_Machine_value_of ["self", "state"] m_Machine_value_of) (c_Machine_is_silent : CalP P w K mg base 1 "Machine" "is_silent" "Machine.is_silent" st_Machine_is_silent ["self"] m_Machine_is_silent) (cl_Machine : ClsAt K mg "Machine") (mk_Machine : MkAt K mg "Machine") (n_dict : mg "dict" = none) (n_enumerate : mg "enumerate" = none) (n_list : mg "list" = none) (n_range : mg "range" = none) :
    Cal P w K mg base 8 "_law_fixed_right" "_law_fixed_right" st_l_fixed_right [] m_l_fixed_right :=
  cal_of D sc_l_fixed_right (fun F => F.binds (ps := []) fun _ _ _ _ _ _ us hl => match us, hl with | [], _ => rfl) fun m W hg hr ht hp => by
  exact (dss_cons (ds_set 0 sc_l_fixed_right.nd (by exact rfl) (by first | exact Or.inl rfl | exact Or.inr rfl) (de_dicO (dps_cons de_str (de_tup (da_cons de_int (da_cons de_non da_nil))) (dps_cons de_str (de_tup (da_cons de_int (da_cons de_str da_nil))) dps_nil)) (by exact rfl) (by exact rfl) (by simp) (by decide)))
    (dss_cons (ds_par (by exact rfl) sc_l_fixed_right.nd (by exact rfl) (by exact rfl) (by decide) (by exact rfl) (by exact rfl) (dpm_e (de_make mk_Machine c_Machine___init__ (by exact rfl) (by exact rfl) hg hr (by decide) ht (da_cons (de_lst (da_cons de_int (da_cons de_int da_nil))) (da_cons (de_lst (da_cons (de_var 0 (by exact rfl) (by first | exact Or.inl rfl | exact Or.inr (Or.inl rfl) | exact Or.inr (Or.inr rfl))) (da_cons (de_var 0 (by exact rfl) (by first | exact Or.inl rfl | exact Or.inr (Or.inl rfl) | exact Or.inr (Or.inr rfl))) da_nil))) da_nil))) (dpm_e (de_make mk_Machine c_Machine___init__ (by exact rfl) (by exact rfl) hg hr (by decide) ht (da_cons (de_lst (da_cons de_int (da_cons de_int da_nil))) (da_cons (de_lst (da_cons (de_dic (dps_cons de_str (de_tup (da_cons de_int (da_cons de_non da_nil))) dps_nil) (by exact rfl) (by exact rfl) (by simp) (by decide)) (da_cons (de_dic (dps_cons de_str (de_tup (da_cons de_int (da_cons de_str da_nil))) dps_nil) (by exact rfl) (by exact rfl) (by simp) (by decide)) da_nil))) da_nil))) dpm_nil)) (by exact rfl))
    (dss_cons (ds_asg (de_tup (da_cons de_int (da_cons de_str da_nil))) (dg_sub (W := wNo) (u_of hr (by decide)) (de_var 0 (by exact rfl) (by first | exact Or.inl rfl | exact Or.inr (Or.inl rfl) | exact Or.inr (Or.inr rfl))) de_str) gSt_ne)
    (dss_cons (ds_if (dt_cmp (oNeP (u_of hr (by decide))) (sNe hk) (de_lst (da_cons (de_meth (de_var 1 (by exact rfl) (by first | exact Or.inl rfl | exact Or.inr (Or.inl rfl) | exact Or.inr (Or.inr rfl))) (mtab_cons cl_Machine c_Machine_step (by decide) (by exact rfl) mtab_nil) (by exact rfl) hg hr ht (da_cons de_int (da_cons de_str da_nil))) (da_cons (de_meth (de_var 1 (by exact rfl) (by first | exact Or.inl rfl | exact Or.inr (Or.inl rfl) | exact Or.inr (Or.inr rfl))) (mtab_cons cl_Machine c_Machine_step (by decide) (by exact rfl) mtab_nil) (by exact rfl) hg hr ht (da_cons de_int (da_cons de_str da_nil))) (da_cons (de_prop (by exact rfl) hg (de_var 2 (by exact rfl) (by first | exact Or.inl rfl | exact Or.inr (Or.inl rfl) | exact Or.inr (Or.inr rfl))) (k := 1) (ptab_cons cl_Machine c_Machine_is_silent (by decide) (by exact rfl) ptab_nil) (hr.mono (by decide))) da_nil)))) (de_lst (da_cons (de_tup (da_cons de_int (da_cons de_non da_nil))) (da_cons (de_tup (da_cons de_int (da_cons de_non da_nil))) (da_cons de_bl da_nil)))) (nomark _)) (dss_one (ds_ret de_bl)) dss_nil)
    (dss_cons (ds_setL 3 sc_l_fixed_right.nd (by exact rfl) (by first | exact Or.inl rfl | exact Or.inr rfl) da_nil)
    (dss_cons (ds_for hp (by exact rfl) (di_range1 (by exact rfl) n_range de_int) (dtg_name 4 sc_l_fixed_right.nd (by exact rfl) (by first | exact Or.inl rfl | exact Or.inr rfl)) (dss_one (ds_app 3 (by exact rfl) (by first | exact Or.inl rfl | exact Or.inr (Or.inl rfl) | exact Or.inr (Or.inr rfl)) (de_tK (call_dict2 (by exact rfl)) ks_dict (by exact rfl) n_dict bt_dict (da_cons (de_lc (by exact rfl) sc_l_fixed_right.nd (di_enum (by exact rfl) n_enumerate de_str) (blkOk_by (own := [("_law_at", 6), ("_law_letter", 7)]) (by exact rfl)) (fun _ _ _ _ _ => (dtg_tup (by exact rfl) sc_l_fixed_right.nd (.cons (i := 6) (by exact rfl) (by first | exact Or.inl rfl | exact Or.inr rfl) (by first | exact Or.inl rfl | exact Or.inr rfl) (.cons (i := 7) (by exact rfl) (by first | exact Or.inl rfl | exact Or.inr rfl) (by first | exact Or.inl rfl | exact Or.inr rfl) .nil (by exact rfl)) (by exact rfl)))) (fun _ _ _ _ _ => dts_nil) (fun _ _ _ _ _ => (de_tup (da_cons (de_var 7 (by exact rfl) (by first | exact Or.inl rfl | exact Or.inr (Or.inl rfl) | exact Or.inr (Or.inr rfl))) (da_cons (de_tup (da_cons (de_op op_mod sMod (de_op oAdd sAdd (de_var 4 (by exact rfl) (by first | exact Or.inl rfl | exact Or.inr (Or.inl rfl) | exact Or.inr (Or.inr rfl))) (de_var 6 (by exact rfl) (by first | exact Or.inl rfl | exact Or.inr (Or.inl rfl) | exact Or.inr (Or.inr rfl)))) de_int) (da_cons de_non da_nil))) da_nil)))) (by decide)) da_nil)))))
    (dss_frz 3 (dss_cons (ds_set 5 sc_l_fixed_right.nd (by exact rfl) (by first | exact Or.inl rfl | exact Or.inr rfl) (de_make mk_Machine c_Machine___init__ (by exact rfl) (by exact rfl) hg hr (by decide) ht (da_cons (de_lrg (by exact rfl) (by exact rfl) n_list (by exact rfl) n_range de_int) (da_cons (de_var 3 (by exact rfl) (by first | exact Or.inl rfl | exact Or.inr (Or.inl rfl) | exact Or.inr (Or.inr rfl))) da_nil))))
    (dss_cons (ds_if (PW.pt (dw_or (dt_cmp (oNeP (u_of hr (by decide))) (sNe hk) (de_meth (de_var 5 (by exact rfl) (by first | exact Or.inl rfl | exact Or.inr (Or.inl rfl) | exact Or.inr (Or.inr rfl))) (mtab_cons cl_Machine c_Machine_run (by decide) (by exact rfl) mtab_nil) (by exact rfl) hg hr ht (da_cons de_int (da_cons (de_tL (call_list4 (by exact rfl)) ls_list4 (by exact rfl) n_list bt_list (da_cons de_str da_nil)) da_nil))) (de_tup (da_cons de_int (da_cons (de_tup da_nil) da_nil))) (nomark _)) (dw_or (dt_cmp op_notBl sNotB (de_prop (by exact rfl) hg (de_var 5 (by exact rfl) (by first | exact Or.inl rfl | exact Or.inr (Or.inl rfl) | exact Or.inr (Or.inr rfl))) (k := 1) (ptab_cons cl_Machine c_Machine_is_silent (by decide) (by exact rfl) ptab_nil) (hr.mono (by decide))) de_bl (nomark _)) (dw_or1 (dt_cmp (oNeP (u_of hr (by decide))) (sNe hk) (de_meth (de_var 5 (by exact rfl) (by first | exact Or.inl rfl | exact Or.inr (Or.inl rfl) | exact Or.inr (Or.inr rfl))) (mtab_cons cl_Machine c_Machine_value_of (by decide) (by exact rfl) mtab_nil) (by exact rfl) hg hr ht (da_cons de_int da_nil)) de_int (nomark _)))))) (dss_one (ds_ret de_bl)) dss_nil)
    (dss_one (ds_ret (de_cmp (oEq (u_of hr (by decide))) (sEq hk) (de_meth (de_var 1 (by exact rfl) (by first | exact Or.inl rfl | exact Or.inr (Or.inl rfl) | exact Or.inr (Or.inr rfl))) (mtab_cons cl_Machine c_Machine_run (by decide) (by exact rfl) mtab_nil) (by exact rfl) hg hr ht (da_cons de_int (da_cons (de_op oMul sMul (de_lst (da_cons de_str da_nil)) de_int) da_nil))) (de_tup (da_cons de_int (da_cons (de_op oMulT sMulT (de_tup (da_cons de_str da_nil)) de_int) da_nil))) (nomark _)))))))))))))
/-! ### law -/
abbrev st_law : Stmt := top 44
def b_law_0 : DM Fl := sSet 2 ((dCall 2 m_l_pot (dArgs (dVar 0) (dArgs (dVar 1) (dArgs0)))))
def b_law_1 : DM Fl := sRet (dC (.bl false))
def b_law_2 : DM Fl := sIf (dOr (dNot (dB ((dCall 1 m_l_right (dArgs (dVar 2) (dArgs0)))))) (dNot (dB ((dCall 1 m_l_right (dArgs (dVar 2) (dArgs0))))))) (b_law_1) (sNil)
def b_law_3 : DM Fl := sFor (iR1 ((dBi gMax (dArgs (dC (.int 1)) (dArgs ((dBi gMin (dArgs (dC (.int 5)) (dArgs ((dBi gLen (dArgs (dVar 0) (dArgs0)))) (dArgs0))))) (dArgs0)))))) (.one 1) ((sSeq b_law_0 b_law_2))
def b_law_4 : DM Fl := sRet ((dAndV ((dOp gEq (dC (.int 64)) (dC (.int 64)))) ((dCall 0 m_l_fixed_right dArgs0))))
def fb_law : DM Fl := (sSeq b_law_3 b_law_4)
def m_law : List Sv → Led → Res Dv := mOf 3 fb_law
-- 0 _law_script, 1 _law_k, 2 _law_pot_here
theorem sc_law : FnScope ["_law_script", "_law_k", "_law_pot_here"] ["_law_script"] (defScope st_law) := ⟨rfl, rfl, rfl, by decide +kernel, rfl, by decide +kernel, by decide +kernel⟩
theorem cal_law {P : Program} {w : World} {K : PySem.W.Frag} {mg : Str → Option Value} {base : Heap}  (hk : SysK K) (D : DefAt K mg "law" "law" st_law) (c_l_pot : Cal P w K mg base 1 "_law_pot" "_law_pot" st_l_pot ["_law_script", "_law_k"] m_l_pot) (c_l_right : Cal P w K mg base 8 "_law_right" "_law_right" st_l_right ["_law_pot_here"] m_l_right) (c_l_fixed_right : Cal P w K mg base 8 "_law_fixed_right" "_law_fixed_right" st_l_fixed_right [] m_l_fixed_right) (co_Machine_MAX_STATES : ConAt K mg "Machine" "MAX_STATES" 64) (n_len : mg "len" = none) (n_max : mg "max" = none) (n_min : mg "min" = none) (n_range : mg "range" = none) :
    Cal P w K mg base 9 "law" "law" st_law ["_law_script"] m_law :=
  cal_of D sc_law (fun F => F.binds (ps := ["_law_script"]) fun _ _ _ _ _ _ us hl => match us, hl with | [_], _ => rfl) fun m W hg hr ht hp => by
  exact (dss_cons (ds_for hp (by exact rfl) (di_range1 (by exact rfl) n_range (de_callB (call_max2 (by exact rfl)) cs_2I (by exact rfl) n_max bt_max (da_cons de_int (da_cons (de_callB (call_min2 (by exact rfl)) cs_2I (by exact rfl) n_min bt_min (da_cons de_int (da_cons (de_callB call_len' cs_len (by exact rfl) n_len bt_len (da_cons (de_var 0 (by exact rfl) (by first | exact Or.inl rfl | exact Or.inr (Or.inl rfl) | exact Or.inr (Or.inr rfl))) da_nil)) da_nil))) da_nil)))) (dtg_name 1 sc_law.nd (by exact rfl) (by first | exact Or.inl rfl | exact Or.inr rfl)) (dss_cons (ds_set 2 sc_law.nd (by exact rfl) (by first | exact Or.inl rfl | exact Or.inr rfl) (de_cal c_l_pot (by exact rfl) (by exact rfl) hg hr (by decide) ht (da_cons (de_var 0 (by exact rfl) (by first | exact Or.inl rfl | exact Or.inr (Or.inl rfl) | exact Or.inr (Or.inr rfl))) (da_cons (de_var 1 (by exact rfl) (by first | exact Or.inl rfl | exact Or.inr (Or.inl rfl) | exact Or.inr (Or.inr rfl))) da_nil))))
    (dss_one (ds_if (PW.pt (dw_or (dt_not (dt_val (de_cal c_l_right (by exact rfl) (by exact rfl) hg hr (by decide) ht (da_cons (de_var 2 (by exact rfl) (by first | exact Or.inl rfl | exact Or.inr (Or.inl rfl) | exact Or.inr (Or.inr rfl))) da_nil)))) (dw_or1 (dt_not (dt_val (de_cal c_l_right (by exact rfl) (by exact rfl) hg hr (by decide) ht (da_cons (de_var 2 (by exact rfl) (by first | exact Or.inl rfl | exact Or.inr (Or.inl rfl) | exact Or.inr (Or.inr rfl))) da_nil))))))) (dss_one (ds_ret de_bl)) dss_nil))))
    (dss_one (ds_ret (de_and (de_cmp (oEq (u_of hr (by decide))) (sEq hk) (de_ccon co_Machine_MAX_STATES (by exact rfl)) de_int (nomark _)) (de_one (de_cal0 c_l_fixed_right (by exact rfl) (by exact rfl) hg hr (by decide) ht))))))
end K12

namespace K12
open PySem PySem.Spec PyProof.Rows L2 DL
/-! pots, picks, names -/
theorem pow18 : CPow 10 18 := by decide +kernel
theorem digit_ok {L : Led} {p : Nat} {n : Int} (hp : PotAt L p) (h0 : 0 < n) (h1 : n < 2 ^ 70) : ∃ r v w, m_l_digit [.val (.own p), .val (.int n)] L = .ok (.int r) (L.set p (.lst [.int v, .int w])) ∧ 0 ≤ r ∧ r < n ∧ 0 ≤ v ∧ 0 ≤ w ∧ w < 2 ^ 31 := by
  obtain ⟨a, b, e, ha, hb, hb2⟩ := hp
  have hlt : p < L.length := (List.getElem?_eq_some_iff.mp e).1
  unfold m_l_digit
  rw [mOf_eq]
  show ∃ r v w, endOf (fb_l_digit [some (.val (.own p)), some (.val (.int n)), none] L) = _ ∧ _
  by_cases hpos : 0 < a
  · have hc : CDivP a n := cdivp_of h0 h1
    refine ⟨a % n, a / n, b, ?_, Int.emod_nonneg _ (by omega), Int.emod_lt_of_pos _ h0, Int.ediv_nonneg ha (by omega), hb, hb2⟩
    simp [fb_l_digit, b_l_digit_0, b_l_digit_1, b_l_digit_2, pot_get0 e, pot_set0 e, hpos, hc]
  · have ha0 : a = 0 := by omega
    subst ha0
    have s1 : DL.small64 39373 := by decide
    have hv : ∃ v : Int, v = (b * 39373 + 15017) % 2147483629 := ⟨_, rfl⟩
    obtain ⟨v, hv⟩ := hv
    have v0 : 0 ≤ v := by omega
    have v1 : v < 2 ^ 31 := by omega
    have s2 : DL.small64 v := ⟨by omega, by omega⟩
    have c13 : ∀ z : Int, CDiv z 13 := fun z => by constructor <;> decide
    refine ⟨v * v % 2147483563 / 13 % n, 0, v, ?_, Int.emod_nonneg _ (by omega), Int.emod_lt_of_pos _ h0, Int.le_refl 0, v0, v1⟩
    simp [fb_l_digit, b_l_digit_2, b_l_digit_3, b_l_digit_4, pot_get0 e, pot_get1 e, pot_set1 e, s1, ← hv, pot_get1s hlt, s2, c13, h0]
/-- only the pot has changed -/
def Pt (p : Nat) (L L' : Led) : Prop := PotAt L' p ∧ ∃ c, L' = L.set p c
theorem Pt.refl {p : Nat} {L : Led} (h : PotAt L p) : Pt p L L := by
  obtain ⟨a, b, e, r⟩ := h
  exact ⟨⟨a, b, e, r⟩, .lst [.int a, .int b], by
    rw [← (List.getElem?_eq_some_iff.mp e).2, List.set_getElem_self]⟩
theorem Pt.trans {p : Nat} {L L1 L2 : Led} (a : Pt p L L1) (b : Pt p L1 L2) : Pt p L L2 := by
  obtain ⟨_, c, rfl⟩ := a
  obtain ⟨h, d, rfl⟩ := b
  exact ⟨h, d, by rw [List.set_set]⟩
theorem Pt.len {p : Nat} {L L1 : Led} (a : Pt p L L1) : L1.length = L.length := by
  obtain ⟨_, c, rfl⟩ := a
  simp
theorem Pt.get {p k : Nat} {L L1 : Led} {c : Ct} (a : Pt p L L1) (h : k ≠ p) (e : L[k]? = some c) : L1[k]? = some c := by
  obtain ⟨_, d, rfl⟩ := a
  rw [List.getElem?_set_ne (Ne.symm h)]; exact e
theorem digit_pt {L : Led} {p : Nat} {n : Int} (hp : PotAt L p) (h0 : 0 < n) (h1 : n < 2 ^ 70) : ∃ r L', m_l_digit [.val (.own p), .val (.int n)] L = .ok (.int r) L' ∧ 0 ≤ r ∧ r < n ∧ Pt p L L' := by
  obtain ⟨r, v, w, e, r0, r1, v0, w0, w1⟩ := digit_ok hp h0 h1
  obtain ⟨a, b, e2, _⟩ := hp
  exact ⟨r, _, e, r0, r1, PotAt.set (List.getElem?_eq_some_iff.mp e2).1 v0 w0 w1, _, rfl⟩
/-- a new pot, at the ledger's end -/
theorem pot_ok {L : Led} {ns : List Int} {k : Nat} (hk : k < 6) (hn : ns.length ≤ 63) : ∃ a b, m_l_pot [.val (.scr ns), .val (.int k)] L = .ok (.own L.length) (L ++ [.lst [.int a, .int b]]) ∧ PotAt (L ++ [.lst [.int a, .int b]]) L.length := by
  unfold m_l_pot
  rw [mOf_eq]
  show ∃ a b, endOf (fb_l_pot [some (.val (.scr ns)), some (.val (.int k)), none] L) = _ ∧ _
  have s1 : DL.small64 48271 := by decide
  have s2 : DL.small64 70001 := by decide
  have key : ∀ c : Int, 0 ≤ c → ∃ a b : Int, 0 ≤ a ∧ 0 ≤ b ∧ b < 2 ^ 31 ∧ a = (if c - 10 ^ 18 > 0 then c - 10 ^ 18 else 0) ∧ b = (c % 2147483587 * 48271 + 70001 * k + 61) % 2147483647 := fun c hc => ⟨_, _, by split <;> omega, by omega, by omega, rfl, rfl⟩
  by_cases hlt : (k : Int) < ns.length
  · have hlt' : k < ns.length := by omega
    have hget : gIx (.val (.scr ns)) (.val (.int (k : Int))) L = some (.val (.int ns[k])) := by
      simp [gIx, Sv.seqL, L2.atI, ixN, hlt, hlt']
    obtain ⟨a, b, ha, hb, hb2, ea, eb⟩ := key (if ns[k] < 0 then -ns[k] else ns[k]) (by split <;> omega)
    refine ⟨a, b, ?_, a, b, by simp, ha, hb, hb2⟩
    simp [fb_l_pot, b_l_pot_0, b_l_pot_1, gLen, Sv.seqL, hlt, hlt', hget, pow18, s1, s2, ea, eb, sizeLine_eq]
  · obtain ⟨a, b, ha, hb, hb2, ea, eb⟩ := key 0 (Int.le_refl 0)
    refine ⟨a, b, ?_, a, b, by simp, ha, hb, hb2⟩
    simp [fb_l_pot, b_l_pot_0, b_l_pot_1, gLen, Sv.seqL, hlt, pow18, s1, s2, ea, eb, sizeLine_eq]
theorem pick_l {L : Led} {p : Nat} {xs : List Dv} (hp : PotAt L p) (hx : xs ≠ []) (hl : xs.length < 2 ^ 60) : ∃ d L', m_l_pick [.val (.own p), .val (.lst xs)] L = .ok d L' ∧ d ∈ xs ∧ Pt p L L' := by
  have h0 : 0 < xs.length := List.length_pos_iff.mpr hx
  obtain ⟨r, L', e, r0, r1, hp'⟩ := digit_pt (n := xs.length) hp (by omega) (by omega)
  obtain ⟨d, hd, _, ed⟩ := ix_l r0 r1
  refine ⟨d, L', ?_, hd, hp'⟩
  unfold m_l_pick
  rw [mOf_eq]
  show endOf (fb_l_pick [some (.val (.own p)), some (.val (.lst xs))] L) = _
  simp [fb_l_pick, b_l_pick_0, e, ed]
theorem pick_s {L : Led} {p : Nat} {z : Str} (hp : PotAt L p) (h0 : 0 < z.length) (hl : z.length < 2 ^ 60) : ∃ c L', m_l_pick [.val (.own p), .val (.str z)] L = .ok (.str ⟨#[c]⟩) L' ∧ c ∈ z.cps.toList ∧ Pt p L L' := by
  obtain ⟨r, L', e, r0, r1, hp'⟩ := digit_pt (n := z.length) hp (by omega) (by omega)
  obtain ⟨c, hc, ed⟩ := ix_s r0 r1
  refine ⟨c, L', ?_, hc, hp'⟩
  unfold m_l_pick
  rw [mOf_eq]
  show endOf (fb_l_pick [some (.val (.own p)), some (.val (.str z))] L) = _
  simp [fb_l_pick, b_l_pick_0, e, ed]
/-! the body of names' loop -/
section
variable {L : Led} {p : Nat} {x1 o6 o7 o8 o9 o10 o11 : Option Sv} {fs ns : List Str} {w : Str}
theorem nbA_ok (hp : PotAt L p) : ∃ w L', b_l_names_2 [some (.val (.own p)), x1, some (.val (.lst (fs.map .str))), some (.val (.str AL)), some (.mu (ns.map .str)), some (.val (.lst CM)), o6, o7, o8, o9, o10, o11] L = .ok (.nx [some (.val (.own p)), x1, some (.val (.lst (fs.map .str))), some (.val (.str AL)), some (.mu (ns.map .str)), some (.val (.lst CM)), o6, some (.val (.str w)), o8, o9, o10, o11]) L' ∧ Nm w ∧ Pt p L L' := by
  obtain ⟨d, L', e, hd, hp'⟩ := pick_l (xs := CM) hp (by simp [CM]) (by simp [CM])
  obtain ⟨w, rfl, hw⟩ := nm_common d hd
  exact ⟨w, L', by simp [b_l_names_2, e], hw, hp'⟩
theorem nbB_ok (hp : PotAt L p) (hw : Nm w) : ∃ w' L', b_l_names_5 [some (.val (.own p)), x1, some (.val (.lst (fs.map .str))), some (.val (.str AL)), some (.mu (ns.map .str)), some (.val (.lst CM)), o6, some (.val (.str w)), o8, o9, o10, o11] L = .ok (.nx [some (.val (.own p)), x1, some (.val (.lst (fs.map .str))), some (.val (.str AL)), some (.mu (ns.map .str)), some (.val (.lst CM)), o6, some (.val (.str w')), o8, o9, o10, o11]) L' ∧ Nm w' ∧ Pt p L L' := by
  obtain ⟨r, L1, e1, r0, r1, hp1⟩ := digit_pt (n := 3) hp (by decide) (by decide)
  by_cases hr : 0 < r
  · obtain ⟨r', L2, e2, r0', r1', hp2⟩ := digit_pt (n := 4) hp1.1 (by decide) (by decide)
    obtain ⟨d, hd, _, ed⟩ := ix_l (xs := [.int 1, .int 2, .int 3, .int 8]) r0' (by simpa using r1')
    have hk : ∃ k : Int, d = .int k ∧ 1 ≤ k ∧ k ≤ 8 := by
      simp only [List.mem_cons, List.not_mem_nil, or_false] at hd
      rcases hd with rfl | rfl | rfl | rfl
      all_goals exact ⟨_, rfl, by decide, by decide⟩
    obtain ⟨k, rfl, k1, k8⟩ := hk
    have hrg : rgOk 0 k := ⟨by decide, by decide, by omega, by omega⟩
    have hl : (upF 0 k.toNat).length = k.toNat := by simp [upF]
    obtain ⟨rs, L3, e3, hn, hrs, hp3⟩ := cl_each (T := .one 11) (ft := dTr) (fe := ce_l_names_3) (ρ := [some (.val (.own p)), x1, some (.val (.lst (fs.map .str))), some (.val (.str AL)), some (.mu (ns.map .str)), some (.val (.lst CM)), o6, some (.val (.str w)), o8, o9, o10, none]) (Inv := fun L => Pt p L2 L) (Pd := fun r => ∃ c, r = .str ⟨#[c]⟩ ∧ c ∈ al) (upF 0 k.toNat) (fun d _ L I => by
      obtain ⟨c, L', e, hc, I'⟩ := pick_s (z := AL) I.1 (by rw [AL, letters_len]; decide) (by rw [AL, letters_len]; decide)
      refine ⟨_, _, L', rfl, rfl, ?_, ⟨c, rfl, ?_⟩, I.trans I'⟩
      · simp [ce_l_names_3, e]
      · rw [← letters_cps]; exact hc) [] L2 (Pt.refl hp2.1) (by rw [hl, sizeLine_eq]; simp; omega)
    obtain ⟨cs, rfl, hcs⟩ := map_of (f := fun c => Dv.str ⟨#[c]⟩) hrs
    have hlen : cs.length = k.toNat := by rw [List.length_map, hl] at hn; omega
    have hsh := nm_join (by omega) (by omega) hcs
    have hj : gJoin "" [.val (.lst (cs.map fun c => Dv.str ⟨#[c]⟩))] L3 = some (.val (.str (Txt.join (Str.ofString "") (cs.map fun c => (⟨#[c]⟩ : Str))))) := by
      have h1 : strsOf (cs.map fun c => Dv.str ⟨#[c]⟩) = some (cs.map fun c => (⟨#[c]⟩ : Str)) := by
        have := strsOf_map (cs.map fun c => (⟨#[c]⟩ : Str))
        rwa [List.map_map] at this
      have h0 : (Str.ofString "").length = 0 := by decide +kernel
      have h2 : ((cs.map fun c => (⟨#[c]⟩ : Str)).map (·.length)).sum + (cs.map fun c => (⟨#[c]⟩ : Str)).length * (Str.ofString "").length ≤ 16777216 := by
        rw [ones_sum, h0]; omega
      have h3 : (Txt.join (Str.ofString "") (cs.map fun c => (⟨#[c]⟩ : Str))).length ≤ sizeLine := by
        rw [sizeLine_eq]; have := hsh.2.1; omega
      unfold gJoin
      simp only [Sv.seqL, Option.or, Option.bind, h1]
      exact if_pos ⟨h2, h3⟩
    refine ⟨_, L3, ?_, hsh, (hp1.trans hp2).trans hp3⟩
    simp [b_l_names_5, b_l_names_4, e1, hr, e2, ed, hrg, e3, hj, sizeLine_eq]
  · exact ⟨w, L1, by simp [b_l_names_5, e1, hr], hw, hp1⟩
theorem nbC_ok (hw : Nm w) : b_l_names_7 [some (.val (.own p)), x1, some (.val (.lst (fs.map .str))), some (.val (.str AL)), some (.mu (ns.map .str)), some (.val (.lst CM)), o6, some (.val (.str w)), o8, o9, o10, o11] L = .ok (.nx [some (.val (.own p)), x1, some (.val (.lst (fs.map .str))), some (.val (.str AL)), some (.mu (ns.map .str)), some (.val (.lst CM)), o6, some (.val (.str w)), some (.val (.lst ((w :: prs52.map (vr w)).map .str))), o9, o10, o11]) L := by
  have hAL : AL.length = 26 := letters_len
  have hrev : (strRev AL).length = 26 := by decide +kernel
  have hrep : repOk 2 AL.length := by rw [hAL, repOk, sizeLine_eq]; decide
  have h1 : gMul (.val (.str AL)) (.val (.int 2)) L = some (.val (.str (strRep AL 2))) := by
    show (if repOk 2 AL.length then some (Sv.val (Dv.str (strRep AL 2))) else none) = _
    exact if_pos hrep
  have h2 : gRev (.val (.str AL)) L = some (.val (.str (strRev AL))) := rfl
  have hcut : (cutS w none (some 6)).length ≤ 8 := Nat.le_trans (cutS_length _ _ _) hw.2.1
  have h52 : prs52.length = 52 := by decide +kernel
  have e := cl_fn (T := .tup [9, 10]) (ft := dTr) (fe := ce_l_names_6) (ρ := [some (.val (.own p)), x1, some (.val (.lst (fs.map .str))), some (.val (.str AL)), some (.mu (ns.map .str)), some (.val (.lst CM)), o6, some (.val (.str w)), o8, none, none, o11]) (L := L)
    (fun p : Nat × Nat => Dv.tup [.str ⟨#[p.1]⟩, .str ⟨#[p.2]⟩]) (fun p => Dv.str (vr w p)) (fun _ => true) prs52 (fun q _ => by
      refine ⟨_, rfl, rfl, fun _ => ?_⟩
      have a1 : (cutS w none (some 6)).length + (⟨#[q.1]⟩ : Str).length ≤ 16777216 := by rw [len1]; omega
      have a2 : (cutS w none (some 6) ++ (⟨#[q.1]⟩ : Str)).length + (⟨#[q.2]⟩ : Str).length ≤ 16777216 := by
        have : (cutS w none (some 6) ++ (⟨#[q.1]⟩ : Str)).length = (cutS w none (some 6)).length + 1 := by
          show ((cutS w none (some 6)).cps ++ #[q.1]).size = _
          simp [Str.length]
        rw [this, len1]; omega
      simp [ce_l_names_6, gSl, a1, a2, sizeLine_eq, vr]) [] (by rw [h52, sizeLine_eq]; decide)
  have hft : List.filter (fun _ : Nat × Nat => true) prs52 = prs52 := List.filter_eq_self.mpr fun _ _ => rfl
  rw [hft] at e
  simp only [List.nil_append] at e
  simp [b_l_names_7, h1, h2, hAL, hrev, sizeLine_eq, Sv.src, zp52, e, h52, Function.comp_def]
theorem nbD_ok (hf : fs.length ≤ 10) (hn : ns.length < 20) (hw : Nm w) : ∃ z, b_l_names_9 [some (.val (.own p)), x1, some (.val (.lst (fs.map .str))), some (.val (.str AL)), some (.mu (ns.map .str)), some (.val (.lst CM)), o6, o7, some (.val (.lst ((w :: prs52.map (vr w)).map .str))), o9, o10, o11] L = .ok (.nx [some (.val (.own p)), x1, some (.val (.lst (fs.map .str))), some (.val (.str AL)), some (.mu ((ns ++ [z]).map .str)), some (.val (.lst CM)), o6, o7, some (.val (.lst ((w :: prs52.map (vr w)).map .str))), o9, o10, o11]) L ∧ Nm z ∧ z ∉ ns ∧ z ∉ fs := by
  have h52 : prs52.length = 52 := by decide +kernel
  have e := cl_fn (T := .one 9) (ft := dB (dOp (gIn true) (dVar 9) ((dOp gAdd (dVar 2) (dVar 4))))) (fe := ce_l_names_8) (ρ := [some (.val (.own p)), x1, some (.val (.lst (fs.map .str))), some (.val (.str AL)), some (.mu (ns.map .str)), some (.val (.lst CM)), o6, o7, some (.val (.lst ((w :: prs52.map (vr w)).map .str))), none, o10, o11]) (L := L)
    Dv.str Dv.str (fun z => !(fs ++ ns).contains z) (w :: prs52.map (vr w)) (fun z _ => by
      refine ⟨_, rfl, ?_, fun _ => rfl⟩
      have a1 : fs.length + ns.length ≤ 16777216 := by omega
      have a2 : gAdd (.val (.lst (fs.map .str))) (.bor (ns.map .str)) L = some (.val (.lst ((fs ++ ns).map .str))) := by
        rw [List.map_append]
        exact if_pos (by rw [List.length_map, List.length_map, sizeLine_eq]; exact a1)
      simp [a2, in_strs, -List.map_append]) [] (by simp [h52, sizeLine_eq])
  have hne : ((w :: prs52.map (vr w)).filter fun z => !(fs ++ ns).contains z) ≠ [] := by
    obtain ⟨q, hq, hv⟩ := some_fresh w (fs ++ ns) (by rw [List.length_append]; omega)
    have : vr w q ∈ (w :: prs52.map (vr w)).filter fun z => !(fs ++ ns).contains z := by
      rw [List.mem_filter]
      refine ⟨List.mem_cons_of_mem _ (List.mem_map_of_mem hq), ?_⟩
      simpa using hv
    intro h0
    rw [h0] at this
    cases this
  obtain ⟨z, zs, hz⟩ : ∃ z zs, ((w :: prs52.map (vr w)).filter fun z => !(fs ++ ns).contains z) = z :: zs := by
    cases h : ((w :: prs52.map (vr w)).filter fun z => !(fs ++ ns).contains z) with
    | nil => exact absurd h hne
    | cons z zs => exact ⟨z, zs, rfl⟩
  have hzf : z ∈ (w :: prs52.map (vr w)).filter fun z => !(fs ++ ns).contains z := by rw [hz]; simp
  obtain ⟨hzm, hzc⟩ := List.mem_filter.mp hzf
  have hzc' : z ∉ fs ∧ z ∉ ns := by simpa using hzc
  refine ⟨z, ?_, ?_, hzc'.2, hzc'.1⟩
  · rw [hz] at e
    have hix : gIx (.val (.lst ((z :: zs).map .str))) (.val (.int 0)) L = some (.val (.str z)) := by simp [gIx, Sv.seqL, L2.atI, ixN]
    have hlt : ns.length < 16777216 := by omega
    simp only [List.nil_append] at e
    simp [b_l_names_9, Sv.src, -List.map_cons, e, hix, sizeLine_eq, hlt]
    rfl
  · rcases List.mem_cons.mp hzm with rfl | h
    · exact hw
    · obtain ⟨q, hq, rfl⟩ := List.mem_map.mp h
      exact nm_vr hw hq
def nb : DM Fl := sSeq b_l_names_2 (sSeq b_l_names_5 (sSeq b_l_names_7 b_l_names_9))
theorem nb_ok (hp : PotAt L p) (hf : fs.length ≤ 10) (hn : ns.length < 20) : ∃ z o7' o8' L', nb [some (.val (.own p)), x1, some (.val (.lst (fs.map .str))), some (.val (.str AL)), some (.mu (ns.map .str)), some (.val (.lst CM)), o6, o7, o8, o9, o10, o11] L = .ok (.nx [some (.val (.own p)), x1, some (.val (.lst (fs.map .str))), some (.val (.str AL)), some (.mu ((ns ++ [z]).map .str)), some (.val (.lst CM)), o6, o7', o8', o9, o10, o11]) L' ∧ (Nm z ∧ z ∉ ns ∧ z ∉ fs) ∧ Pt p L L' := by
  obtain ⟨w, L1, e1, h1, hp1⟩ := nbA_ok (x1 := x1) (o6 := o6) (o7 := o7) (o8 := o8) (o9 := o9) (o10 := o10) (o11 := o11) (fs := fs) (ns := ns) hp
  obtain ⟨w', L2, e2, h2, hp2⟩ := nbB_ok (x1 := x1) (o6 := o6) (o8 := o8) (o9 := o9) (o10 := o10) (o11 := o11) (fs := fs) (ns := ns) hp1.1 h1
  obtain ⟨z, e4, hz⟩ := nbD_ok (L := L2) (p := p) (x1 := x1) (o6 := o6) (o7 := some (.val (.str w'))) (o9 := o9) (o10 := o10) (o11 := o11) hf hn h2
  refine ⟨z, some (.val (.str w')), some (.val (.lst ((w' :: prs52.map (vr w')).map .str))), L2, ?_, hz, hp1.trans hp2⟩
  simp only [nb, ev_seq, e1, Res.bind, e2, nbC_ok h2, e4]
end
/-- NAMES: so many texts, all names, all different -/
theorem names_ok {L : Led} {p : Nat} {n : Int} {fs : List Str} (hp : PotAt L p) (h0 : 0 ≤ n) (h1 : n ≤ 20) (hf : fs.length ≤ 10) : ∃ (zs : List Str) (L' : Led), m_l_names [.val (.own p), .val (.int n), .val (.lst (fs.map .str))] L = .ok (.lst (zs.map .str)) L' ∧ zs.length = n.toNat ∧ (∀ z ∈ zs, Nm z ∧ z ∉ fs) ∧ zs.Nodup ∧ Pt p L L' := by
  have hlen : (upF 0 n.toNat).length = n.toNat := by simp [upF]
  obtain ⟨ρ', L', e, ns, o6, o7, o8, o9, o10, o11, rfl, hk, hs, hnd, hp'⟩ := fl_inv (T := .one 6) (fb := nb)
    (Inv := fun k ρ L1 => ∃ (ns : List Str) (o6 o7 o8 o9 o10 o11 : Option Sv), ρ = [some (.val (.own p)), some (.val (.int n)), some (.val (.lst (fs.map .str))), some (.val (.str AL)), some (.mu (ns.map .str)), some (.val (.lst CM)), o6, o7, o8, o9, o10, o11] ∧ ns.length = k ∧ (∀ z ∈ ns, Nm z ∧ z ∉ fs) ∧ ns.Nodup ∧ Pt p L L1)
    (upF 0 n.toNat) 0 (fun i d hd ρ L1 I => by
      obtain ⟨ns, o6, o7, o8, o9, o10, o11, rfl, hk, hs, hnd, hp⟩ := I
      have hi : i < n.toNat := by rw [← hlen]; exact (List.getElem?_eq_some_iff.mp hd).1
      obtain ⟨z, o7', o8', L', e, hz, hp'⟩ := nb_ok (x1 := some (.val (.int n))) (o6 := some (.val d)) (o7 := o7) (o8 := o8) (o9 := o9) (o10 := o10) (o11 := o11) (fs := fs) (ns := ns) hp.1 hf (by omega)
      refine ⟨_, _, L', rfl, e, ns ++ [z], some (.val d), o7', o8', o9, o10, o11, rfl, by simp [hk], ?_, ?_, hp.trans hp'⟩
      · intro y hy
        rcases List.mem_append.mp hy with h | h
        · exact hs y h
        · rw [List.mem_singleton.mp h]; exact ⟨hz.1, hz.2.2⟩
      · rw [List.nodup_append]
        refine ⟨hnd, by simp, ?_⟩
        intro a ha b hb
        rw [List.mem_singleton.mp hb]
        exact fun e => hz.2.1 (e ▸ ha)) [some (.val (.own p)), some (.val (.int n)), some (.val (.lst (fs.map .str))), some (.val (.str AL)), some (.mu []), some (.val (.lst CM)), none, none, none, none, none, none] L ⟨[], none, none, none, none, none, none, rfl, rfl, by simp, by simp, Pt.refl hp⟩
  refine ⟨ns, L', ?_, by rw [hk, hlen]; omega, hs, hnd, hp'⟩
  have hrg : rgOk 0 n := ⟨by decide, by decide, by omega, by omega⟩
  unfold m_l_names
  rw [mOf_eq]
  show endOf (fb_l_names [some (.val (.own p)), some (.val (.int n)), some (.val (.lst (fs.map .str))), none, none, none, none, none, none, none, none, none] L) = _
  have hfb : fb_l_names = (sSeq b_l_names_0 (sSeq b_l_names_1 (sSeq (sFor (iR1 (dVar 1)) (.one 6) nb) (gFrz 4 b_l_names_11)))) := rfl
  have e' : fLoop (.one 6) nb (upF 0 n.toNat) [some (.val (.own p)), some (.val (.int n)), some (.val (.lst (fs.map .str))), some (.val (.str (Str.ofString "abcdefghijklmnopqrstuvwxyz"))), some (.mu []), some (.val (.lst [.str "state", .str "reader", .str "entries", .str "limit", .str "alphabet", .str "read", .str "append", .str "a", .str "count", .str "tell", .str "zzzzzzzz"])), none, none, none, none, none, none] L = _ := e
  rw [hfb]
  simp [b_l_names_0, b_l_names_1, b_l_names_11, hrg, e', sizeLine_eq]
end K12

namespace K12
open PySem PySem.Spec PyProof.Rows L2 DL
/-! names.py on good values -/
section
variable {L : Led} {z : Str} {s a : Sv} {xs : List Dv} {ys ws : List Str}
theorem integer_ok {i : Int} : m_is_integer [.val (.int i)] L = .ok (.bl true) L := rfl
theorem name_ok (h : Nm z) : m_is_name [.val (.str z)] L = .ok (.bl true) L := by
  unfold m_is_name
  rw [mOf_eq]
  show endOf (fb_is_name [some (.val (.str z)), none] L) = _
  have h1' : (1 : Int) ≤ z.length := by have := h.1; omega
  have h2' : (z.length : Int) ≤ 8 := by have := h.2.1; omega
  have hl : z.cps.toList.length ≤ 8 := h.2.1
  have e := cl_all (T := .one 1) (ft := dTr) (fe := ce_is_name_2) (ρ := [some (.val (.str z)), none]) (L := L) (fun c => Dv.str ⟨#[c]⟩) (fun _ => Dv.bl true) z.cps.toList (fun c hc => ⟨_, rfl, rfl, by
    have := in_al c (h.2.2 c hc)
    show give (gIn false (.val (.str ⟨#[c]⟩)) (.val (.str AL)) L) L = _
    simp [gIn, gInB, this]⟩) (sz_le (by omega))
  have hi : gIsi [.val (.str z), .val (.ty "str")] L = some (.val (.bl true)) := rfl
  simp only [fb_is_name, b_is_name_1, b_is_name_3, ev_seq, ev_sif, ev_or, ev_not, ev_B, ev_bi, ev_args, ev_args0, ev_var, ev_ty]
  simp [hi, h1', h2', Sv.src, e, all_tt, -List.map_const, -List.map_const']
theorem list_ok (h : s.sq L = some xs) : m_is_list [s] L = .ok (.bl true) L := by
  unfold m_is_list
  rw [mOf_eq]
  show endOf (fb_is_list [some s] L) = _
  obtain ⟨d, rfl⟩ := sq_val h
  simp [fb_is_list, b_is_list_0, sq_isi h, two_sz]
theorem cut_take {k : Nat} (hk : k ≤ xs.length) : cutD xs none (some (k : Int)) = xs.take k := by
  unfold DL.cutD
  rw [HT.sIx_nat]
  show (xs.drop 0).take (min k xs.length - 0) = _
  rw [List.drop_zero, Nat.min_eq_left hk]
  rfl
/-- no wrong symbol in a list of different names -/
theorem first_ok (hn : ∀ y ∈ ys, Nm y) (hd : ys.Nodup) (hl : ys.length ≤ 100) : m_first_wrong_symbol [.val (.lst (ys.map .str))] L = .ok .non L := by
  unfold m_first_wrong_symbol
  rw [mOf_eq]
  show endOf (fb_first_wrong_symbol [some (.val (.lst (ys.map .str))), none, none] L) = _
  have key : ∀ (bs as : List Str) (o1 o2 : Option Sv), ys = as ++ bs → ∃ o1' o2', fLoop (.tup [1, 2]) b_first_wrong_symbol_1 (enumF as.length (bs.map .str)) [some (.val (.lst (ys.map .str))), o1, o2] L = .ok (.nx [some (.val (.lst (ys.map .str))), o1', o2']) L := by
    intro bs
    induction bs with
    | nil => intro as o1 o2 _; exact ⟨o1, o2, rfl⟩
    | cons b bs ih =>
      intro as o1 o2 e
      have hb : Nm b := hn b (by rw [e]; simp)
      have hnot : b ∉ as := by
        rw [e, List.nodup_append] at hd
        exact fun hm => hd.2.2 b hm b (by simp) rfl
      have hk : as.length ≤ (ys.map Dv.str).length := by rw [e]; simp
      have hs : gSl (.val (.lst (ys.map .str))) none (some (as.length : Int)) L = some (.val (.lst (as.map .str))) := by
        have : cutD (ys.map Dv.str) none (some (as.length : Int)) = as.map .str := by
          rw [cut_take hk, e]; simp
        unfold gSl
        simp only [Sv.seqL]
        rw [if_pos (sz_le (by rw [List.length_map]; omega)), this]
      have hst : b_first_wrong_symbol_1 [some (.val (.lst (ys.map .str))), some (.val (.int (as.length : Nat))), some (.val (.str b))] L = .ok (.nx [some (.val (.lst (ys.map .str))), some (.val (.int (as.length : Nat))), some (.val (.str b))]) L := by
        have hc : as.contains b = false := by simpa using hnot
        simp [b_first_wrong_symbol_1, name_ok hb, hs, in_strs, -List.contains_eq_mem, hc]
      obtain ⟨o1', o2', r⟩ := ih (as ++ [b]) (some (.val (.int (as.length : Nat)))) (some (.val (.str b))) (by rw [e]; simp)
      refine ⟨o1', o2', ?_⟩
      have hset : Tg.set (.tup [1, 2]) (.tup [.int (as.length : Nat), .str b]) [some (.val (.lst (ys.map .str))), o1, o2] = some [some (.val (.lst (ys.map .str))), some (.val (.int (as.length : Nat))), some (.val (.str b))] := rfl
      have hlen : (as ++ [b]).length = as.length + 1 := by simp
      rw [hlen] at r
      simp only [List.map_cons, enumF_cons, fLoop, hset, hst, Res.bind]
      exact r
  obtain ⟨a, b, e⟩ := key ys [] none none rfl
  have e' : fLoop (.tup [1, 2]) b_first_wrong_symbol_1 (enumF 0 (ys.map .str)) [some (.val (.lst (ys.map .str))), none, none] L = .ok (.nx [some (.val (.lst (ys.map .str))), a, b]) L := e
  simp [fb_first_wrong_symbol, b_first_wrong_symbol_2, b_first_wrong_symbol_3, Sv.src, e']
theorem alphabet_ok (hn : ∀ y ∈ ys, Nm y) (hd : ys.Nodup) (h1 : 1 ≤ ys.length) (h8 : ys.length ≤ 8) : m_is_alphabet [.val (.lst (ys.map .str))] L = .ok (.bl true) L := by
  unfold m_is_alphabet
  rw [mOf_eq]
  show endOf (fb_is_alphabet [some (.val (.lst (ys.map .str)))] L) = _
  have h1' : (1 : Int) ≤ ys.length := by omega
  have h8' : (ys.length : Int) ≤ 8 := by omega
  have hx : gIsN false (.val .non) (.val .non) L = some (.val (.bl true)) := rfl
  simp [fb_is_alphabet, b_is_alphabet_0, list_ok sq_lst0, h1, h8, h1', h8', first_ok hn hd (by omega), hx]
theorem symbol_ok (hz : Nm z) (hm : z ∈ ys) : m_is_symbol [.val (.lst (ys.map .str)), .val (.str z)] L = .ok (.bl true) L := by
  unfold m_is_symbol
  rw [mOf_eq]
  show endOf (fb_is_symbol [some (.val (.lst (ys.map .str))), some (.val (.str z))] L) = _
  have hs : gIsN false (.val (.lst (ys.map .str))) (.val .non) L = some (.val (.bl false)) := rfl
  have hc : ys.contains z = true := by simpa using hm
  simp [fb_is_symbol, b_is_symbol_0, name_ok hz, hs, in_strs, -List.contains_eq_mem, hc]
theorem require_symbol_ok (hz : Nm z) (hm : z ∈ ys) : m_require_symbol [.val (.lst (ys.map .str)), .val (.str z)] L = .ok .non L := by
  unfold m_require_symbol
  rw [mOf_eq]
  show endOf (fb_require_symbol [some (.val (.lst (ys.map .str))), some (.val (.str z))] L) = _
  simp [fb_require_symbol, b_require_symbol_1, symbol_ok hz hm]
/-- a frozen list or tuple -/
def Fz (s : Sv) (xs : List Dv) : Prop := s = .val (.lst xs) ∨ s = .val (.tup xs)
theorem Fz.sq (h : Fz s xs) : s.sq L = some xs := by rcases h with rfl | rfl <;> rfl
theorem Fz.src (h : Fz s xs) : s.src = some ⟨xs, true⟩ := by rcases h with rfl | rfl <;> rfl
theorem entry_ok (hw : ∀ w ∈ ws, Nm w ∧ w ∈ ys) (hs : Fz s (ws.map .str)) : m_first_wrong_entry [.val (.lst (ys.map .str)), s] L = .ok .non L := by
  unfold m_first_wrong_entry
  rw [mOf_eq]
  show endOf (fb_first_wrong_entry [some (.val (.lst (ys.map .str))), some s, none, none] L) = _
  have key : ∀ (bs : List Str) (k : Nat) (o1 o2 : Option Sv), (∀ w ∈ bs, Nm w ∧ w ∈ ys) → ∃ o1' o2', fLoop (.tup [2, 3]) b_first_wrong_entry_1 (enumF k (bs.map .str)) [some (.val (.lst (ys.map .str))), some s, o1, o2] L = .ok (.nx [some (.val (.lst (ys.map .str))), some s, o1', o2']) L := by
    intro bs
    induction bs with
    | nil => intro k o1 o2 _; exact ⟨o1, o2, rfl⟩
    | cons b bs ih =>
      intro k o1 o2 h
      have hb := h b (by simp)
      have hst : b_first_wrong_entry_1 [some (.val (.lst (ys.map .str))), some s, some (.val (.int (k : Nat))), some (.val (.str b))] L = .ok (.nx [some (.val (.lst (ys.map .str))), some s, some (.val (.int (k : Nat))), some (.val (.str b))]) L := by
        simp [b_first_wrong_entry_1, symbol_ok hb.1 hb.2]
      obtain ⟨o1', o2', r⟩ := ih (k + 1) (some (.val (.int (k : Nat)))) (some (.val (.str b))) (fun w hw => h w (by simp [hw]))
      refine ⟨o1', o2', ?_⟩
      have hset : Tg.set (.tup [2, 3]) (.tup [.int (k : Nat), .str b]) [some (.val (.lst (ys.map .str))), some s, o1, o2] = some [some (.val (.lst (ys.map .str))), some s, some (.val (.int (k : Nat))), some (.val (.str b))] := rfl
      simp only [List.map_cons, enumF_cons, fLoop, hset, hst, Res.bind]
      exact r
  obtain ⟨a, b, e⟩ := key ws 0 none none hw
  rcases hs with rfl | rfl
  · simp [fb_first_wrong_entry, b_first_wrong_entry_2, b_first_wrong_entry_3, Sv.src, e]
  · simp [fb_first_wrong_entry, b_first_wrong_entry_2, b_first_wrong_entry_3, Sv.src, e]
theorem require_word_ok (hw : ∀ w ∈ ws, Nm w ∧ w ∈ ys) (hs : Fz s (ws.map .str)) : m_require_word [.val (.lst (ys.map .str)), s] L = .ok .non L := by
  unfold m_require_word
  rw [mOf_eq]
  show endOf (fb_require_word [some (.val (.lst (ys.map .str))), some s, none] L) = _
  have hl := list_ok (L := L) (hs.sq (L := L))
  have he := entry_ok (L := L) hw hs
  have hx : gIsN true (.val .non) (.val .non) L = some (.val (.bl false)) := rfl
  rcases hs with rfl | rfl
  · simp [fb_require_word, b_require_word_1, b_require_word_2, b_require_word_4, hl, he, hx]
  · simp [fb_require_word, b_require_word_1, b_require_word_2, b_require_word_4, hl, he, hx]
end
end K12

namespace K12
open PySem PySem.Spec PyProof.Rows L2 DL
/-! checks of machines' parts -/
section
variable {L : Led} {z : Str} {s a : Sv} {xs : List Dv} {ys ss : List Str} {d : Dv} {r : DL.Row} {many : Nat} {vs : List Int}
theorem gIx_t0 {u v : Dv} : gIx (.val (.tup [u, v])) (.val (.int 0)) L = some (.val u) := rfl
theorem gIx_t1 {u v : Dv} : gIx (.val (.tup [u, v])) (.val (.int 1)) L = some (.val v) := rfl
theorem ne_ii {i j : Int} : gNe (.val (.int i)) (.val (.int j)) L = some (.val (.bl (!(i == j)))) := rfl
theorem step_ok {e : Stp} (h : StOk many e) : m_is_step [.val (stD e), .val (.int (many : Int))] L = .ok (.bl true) L := by
  unfold m_is_step
  rw [mOf_eq]
  show endOf (fb_is_step [some (.val (.tup [.int (e.1 : Int), outD e.2])), some (.val (.int (many : Int)))] L) = _
  have hi : gIsi [.val (.tup [.int (e.1 : Int), outD e.2]), .val (.ty "tuple")] L = some (.val (.bl true)) := rfl
  have h0 : (0 : Int) ≤ (e.1 : Int) := by omega
  have h1 := h.lt
  have s1 : b_is_step_1 [some (.val (.tup [.int (e.1 : Int), outD e.2])), some (.val (.int (many : Int)))] L = .ok (.nx [some (.val (.tup [.int (e.1 : Int), outD e.2])), some (.val (.int (many : Int)))]) L := by
    simp [b_is_step_1, hi, ne_ii, gIx_t0, integer_ok, h0, h1]
  have s2 : b_is_step_2 [some (.val (.tup [.int (e.1 : Int), outD e.2])), some (.val (.int (many : Int)))] L = .ok (.rt (.bl true)) L := by
    cases ho : e.2 with
    | none =>
      have hx : gIsN false (.val .non) (.val .non) L = some (.val (.bl true)) := rfl
      simp [b_is_step_2, gIx_t1, outD, hx]
    | some z =>
      have hx : gIsN false (.val (.str z)) (.val .non) L = some (.val (.bl false)) := rfl
      simp [b_is_step_2, gIx_t1, outD, hx, name_ok (h.nm z ho)]
  simp only [fb_is_step, ev_seq, s1, Res.bind, s2, endOf_rt]
theorem eq_ii' {i : Int} : gEq (.val (.int i)) (.val (.int i)) L = some (.val (.bl true)) := by simp
/-- the first row -/
theorem has0_ok (hr : RowAt L d (rowK r)) (h : RowOk many ss r) (hn : ∀ z ∈ ss, Nm z) (hd : ss.Nodup) (h1 : 1 ≤ ss.length) (h8 : ss.length ≤ 8) : m_has_symbols [.val d, .val .non] L = .ok (.bl true) L := by
  unfold m_has_symbols
  rw [mOf_eq]
  show endOf (fb_has_symbols [some (.val d), some (.val .non), none] L) = _
  have hx : gIsN false (.val .non) (.val .non) L = some (.val (.bl true)) := rfl
  have hl := h.len
  have hls := row_lst hr (sz_le (by rw [rowK_len]; omega))
  rw [keysDv_row] at hls
  have ha := alphabet_ok (L := L) (ys := r.map (·.1)) (fun y hy => hn y (h.perm.mem_iff.mp hy)) (h.perm.nodup_iff.mpr hd) (by rw [List.length_map]; omega) (by rw [List.length_map]; omega)
  have s1 : b_has_symbols_1 [some (.val d), some (.val .non), none] L = .ok (.nx [some (.val d), some (.val .non), none]) L := by simp [b_has_symbols_1, row_isi hr]
  have s2 : b_has_symbols_3 [some (.val d), some (.val .non), none] L = .ok (.rt (.bl true)) L := by simp [b_has_symbols_3, b_has_symbols_2, hx, hls, ha, -List.map_map]
  simp only [fb_has_symbols, ev_seq, s1, Res.bind, s2, endOf_rt]
theorem has1_ok (hr : RowAt L d (rowK r)) (h : RowOk many ss r) {ps : List Str} (hp : ps.Perm ss) (h8 : ss.length ≤ 8) : m_has_symbols [.val d, .val (.lst (ps.map .str))] L = .ok (.bl true) L := by
  unfold m_has_symbols
  rw [mOf_eq]
  show endOf (fb_has_symbols [some (.val d), some (.val (.lst (ps.map .str))), none] L) = _
  have hx : gIsN false (.val (.lst (ps.map .str))) (.val .non) L = some (.val (.bl false)) := rfl
  have hl := h.len
  have hpl := hp.length_eq
  have hlen := row_len hr
  rw [rowK_len] at hlen
  have he : gEq (.val (.int (r.length : Int))) (.val (.int (ps.length : Int))) L = some (.val (.bl true)) := by
    rw [hl, hpl]; exact eq_ii'
  have c := cl_all (T := .one 2) (ft := dTr) (fe := ce_has_symbols_4) (ρ := [some (.val d), some (.val (.lst (ps.map .str))), none]) (L := L) Dv.str (fun _ => Dv.bl true) ps (fun z hz => ⟨_, rfl, rfl, by
    have hm : z ∈ r.map (·.1) := h.perm.mem_iff.mpr (hp.mem_iff.mp hz)
    have hi := row_in (z := z) hr
    rw [rget_look hm] at hi
    show give (gIn2 false (.val (.str z)) (.val d) L) L = _
    rw [hi]; rfl⟩) (sz_le (by omega))
  have s1 : b_has_symbols_1 [some (.val d), some (.val (.lst (ps.map .str))), none] L = .ok (.nx [some (.val d), some (.val (.lst (ps.map .str))), none]) L := by simp [b_has_symbols_1, row_isi hr]
  have s2 : b_has_symbols_3 [some (.val d), some (.val (.lst (ps.map .str))), none] L = .ok (.nx [some (.val d), some (.val (.lst (ps.map .str))), none]) L := by simp [b_has_symbols_3, hx]
  have s3 : b_has_symbols_5 [some (.val d), some (.val (.lst (ps.map .str))), none] L = .ok (.rt (.bl true)) L := by
    have hlp : gLen [.val (.lst (ps.map .str))] L = some (.val (.int ps.length)) := by simp
    simp only [b_has_symbols_5, ev_ret, ev_andV, ev_op, ev_bi, ev_args, ev_args0, ev_var, ev_lc, ev_iV]
    simp [hlen, hlp, he, -eq_ii, Sv.src, c, all_tt, -List.map_const]
  simp only [fb_has_symbols, ev_seq, s1, Res.bind, s2, s3, endOf_rt]
theorem values_ok (hs : s.sq L = some (vs.map .int)) (h1 : 1 ≤ vs.length) (h64 : vs.length ≤ 64) : m_check_values [s] L = .ok .non L := by
  obtain ⟨d, rfl⟩ := sq_val hs
  unfold m_check_values
  rw [mOf_eq]
  show endOf (fb_check_values [some (.val d), none, none] L) = _
  have hlen := sq_len hs
  rw [List.length_map] at hlen
  have h1' : (1 : Int) ≤ vs.length := by omega
  have h64' : (vs.length : Int) ≤ 64 := by omega
  have s1 : b_check_values_1 [some (.val d), none, none] L = .ok (.nx [some (.val d), none, none]) L := by simp [b_check_values_1, list_ok hs, hlen, h1', h64']
  have s2 : ∃ ρ', b_check_values_4 [some (.val d), none, none] L = .ok (.nx ρ') L ∧ ∃ o1 o2, ρ' = [some (.val d), o1, o2] := forO_ex hs rfl fun L' _ => by
    have key : ∀ (bs : List Int) (k : Nat) (o1 o2 : Option Sv), unB [o1, o2] = [o1, o2] → ∃ o1' o2', fLoop (.tup [1, 2]) b_check_values_3 (enumF k (bs.map .int)) [some (.val d), o1, o2] L' = .ok (.nx [some (.val d), o1', o2']) L' ∧ unB [o1', o2'] = [o1', o2'] := by
      intro bs
      induction bs with
      | nil => intro k o1 o2 h; exact ⟨o1, o2, rfl, h⟩
      | cons b bs ih =>
        intro k o1 o2 h
        have hst : b_check_values_3 [some (.val d), some (.val (.int (k : Nat))), some (.val (.int b))] L' = .ok (.nx [some (.val d), some (.val (.int (k : Nat))), some (.val (.int b))]) L' := by
          simp [b_check_values_3, integer_ok]
        obtain ⟨o1', o2', r, q⟩ := ih (k + 1) (some (.val (.int (k : Nat)))) (some (.val (.int b))) rfl
        refine ⟨o1', o2', ?_, q⟩
        have hset : Tg.set (.tup [1, 2]) (.tup [.int (k : Nat), .int b]) [some (.val d), o1, o2] = some [some (.val d), some (.val (.int (k : Nat))), some (.val (.int b))] := rfl
        simp only [List.map_cons, enumF_cons, fLoop, hset, hst, Res.bind]
        exact r
    obtain ⟨a, b, e, q⟩ := key vs 0 none none rfl
    refine ⟨_, e, ?_, a, b, rfl⟩
    show some (.val d) :: unB [a, b] = _
    rw [q]
  obtain ⟨ρ', s2, _⟩ := s2
  simp only [fb_check_values, ev_seq, s1, Res.bind, s2, endOf_nx]
/-- steps that a machine takes: rows at ds -/
theorem steps_ok {ds : List Dv} {rs : List DL.Row} (hs : s.sq L = some ds) (hr : Paired (fun d r => RowAt L d (rowK r)) ds rs) (hok : ∀ r ∈ rs, RowOk many ss r) (hl : rs.length = many) (h64 : many ≤ 64) (hn : ∀ z ∈ ss, Nm z) (hd : ss.Nodup) (h1 : 1 ≤ ss.length) (h8 : ss.length ≤ 8) : m_check_steps [s, .val (.int (many : Int))] L = .ok .non L := by
  obtain ⟨S, rfl⟩ := sq_val hs
  unfold m_check_steps
  rw [mOf_eq]
  show endOf (fb_check_steps [some (.val S), some (.val (.int (many : Int))), none, none, none, none] L) = _
  have hlen := sq_len hs
  have hdl : ds.length = many := by rw [paired_len hr, hl]
  rw [hdl] at hlen
  have s1 : b_check_steps_1 [some (.val S), some (.val (.int (many : Int))), none, none, none, none] L = .ok (.nx [some (.val S), some (.val (.int (many : Int))), none, none, none, none]) L := by
    simp [b_check_steps_1, list_ok hs, hlen, ne_ii]
  have s2 : b_check_steps_2 [some (.val S), some (.val (.int (many : Int))), none, none, none, none] L = .ok (.nx [some (.val S), some (.val (.int (many : Int))), some (.val .non), none, none, none]) L := by simp [b_check_steps_2]
  have s3 : ∃ ρ', b_check_steps_9 [some (.val S), some (.val (.int (many : Int))), some (.val .non), none, none, none] L = .ok (.nx ρ') L ∧ True := forO_ex hs rfl fun L' n => by
    have key : ∀ (es : List Dv) (qs : List DL.Row) (k : Nat) (q2 o3 o4 o5 : Option Sv), Paired (fun d r => RowAt L d (rowK r)) es qs → (∀ r ∈ qs, RowOk many ss r) → (q2 = some (.val .non) ∨ ∃ ps : List Str, q2 = some (.val (.lst (ps.map .str))) ∧ ps.Perm ss) → unB [o3, o4, o5] = [o3, o4, o5] → ∃ ρ', fLoop (.tup [3, 4]) (sSeq b_check_steps_4 (sSeq b_check_steps_7 b_check_steps_8)) (enumF k es) [some (.val S), some (.val (.int (many : Int))), q2, o3, o4, o5] L' = .ok (.nx ρ') L' ∧ unB ρ' = ρ' := by
      intro es
      induction es with
      | nil =>
        intro qs k q2 o3 o4 o5 _ _ h2 h
        refine ⟨_, rfl, ?_⟩
        rcases h2 with rfl | ⟨ps, rfl, _⟩
        · show some _ :: some _ :: some _ :: unB [o3, o4, o5] = _
          rw [h]
        · show some _ :: some _ :: some _ :: unB [o3, o4, o5] = _
          rw [h]
      | cons d es ih =>
        intro qs k q2 o3 o4 o5 hp hq h2 h
        cases hp with
        | @cons _ r _ qs hd1 hp =>
          have hrow := near_row n hd1
          have hro := hq r (by simp)
          have hperm := hro.perm
          have hrl := hro.len
          have t1 : b_check_steps_4 [some (.val S), some (.val (.int (many : Int))), q2, some (.val (.int (k : Nat))), some (.val d), o5] L' = .ok (.nx [some (.val S), some (.val (.int (many : Int))), q2, some (.val (.int (k : Nat))), some (.val d), o5]) L' := by
            rcases h2 with rfl | ⟨ps, rfl, hps⟩
            · simp [b_check_steps_4, has0_ok hrow hro hn hd h1 h8]
            · simp [b_check_steps_4, has1_ok hrow hro hps h8]
          have t2 : b_check_steps_7 [some (.val S), some (.val (.int (many : Int))), q2, some (.val (.int (k : Nat))), some (.val d), o5] L' = .ok (.nx [some (.val S), some (.val (.int (many : Int))), q2, some (.val (.int (k : Nat))), some (.val d), o5]) L' := by
            have c := lcV_ok (i := 4) (T := .one 5) (ft := dTr) (fe := ce_check_steps_5) (ρ := [some (.val S), some (.val (.int (many : Int))), q2, some (.val (.int (k : Nat))), some (.val d), o5]) (vs := [5]) (acc := (r.map (·.2)).map fun _ => Dv.bl true) rfl hrow fun L2 _ => by
              rw [valsDv_row]
              exact cl_all (T := .one 5) (ft := dTr) (fe := ce_check_steps_5) (ρ := [some (.val S), some (.val (.int (many : Int))), q2, some (.val (.int (k : Nat))), some (.val d), none]) (L := L2) stD (fun _ => Dv.bl true) (r.map (·.2)) (fun e he => by
                obtain ⟨x, hx, rfl⟩ := List.mem_map.mp he
                refine ⟨_, rfl, rfl, ?_⟩
                have := step_ok (L := L2) (hro.ok x hx)
                simp [ce_check_steps_5, this]) (sz_le (by rw [List.length_map]; omega))
            simp only [b_check_steps_7, ev_sif, ev_not, ev_B, ev_bi, ev_args, ev_args0, c, Res.bind_ok, all_tt, give_some, Bool.not_true, Bool.false_eq_true, if_false, ev_nil]
          have t3 : b_check_steps_8 [some (.val S), some (.val (.int (many : Int))), q2, some (.val (.int (k : Nat))), some (.val d), o5] L' = .ok (.nx [some (.val S), some (.val (.int (many : Int))), some (.val (.lst ((r.map (·.1)).map .str))), some (.val (.int (k : Nat))), some (.val d), o5]) L' := by
            have hls := row_lst hrow (sz_le (by rw [rowK_len]; omega))
            rw [keysDv_row] at hls
            simp [b_check_steps_8, hls, -List.map_map]
          have h5 : unB [o5] = [o5] := by
            have : unB [o3, o4, o5] = unB [o3] ++ (unB [o4] ++ unB [o5]) := rfl
            rw [this] at h
            have := congrArg List.getLast? h
            simpa [unB] using this
          obtain ⟨ρ', e, q⟩ := ih qs (k + 1) (some (.val (.lst ((r.map (·.1)).map .str)))) (some (.val (.int (k : Nat)))) (some (.val d)) o5 hp (fun r hr => hq r (by simp [hr])) (.inr ⟨r.map (·.1), rfl, hperm⟩) (by
            show some _ :: some _ :: unB [o5] = _
            rw [h5])
          refine ⟨ρ', ?_, q⟩
          have hset : Tg.set (.tup [3, 4]) (.tup [.int (k : Nat), d]) [some (.val S), some (.val (.int (many : Int))), q2, o3, o4, o5] = some [some (.val S), some (.val (.int (many : Int))), q2, some (.val (.int (k : Nat))), some (.val d), o5] := rfl
          simp only [enumF_cons, fLoop, hset, ev_seq, t1, t2, t3, Res.bind]
          exact e
    obtain ⟨ρ', e, q⟩ := key ds rs 0 (some (.val .non)) none none none hr hok (.inl rfl) rfl
    exact ⟨ρ', e, q, trivial⟩
  obtain ⟨ρ', s3, _⟩ := s3
  simp only [fb_check_steps, ev_seq, s1, Res.bind, s2, s3, endOf_nx]
end
end K12

namespace K12
open PySem PySem.Spec PyProof.Rows L2 DL
/-! a machine is made -/
section
variable {L : Led} {s t : Sv} {ss : List Str} {many : Nat} {vs : List Int} {k : Nat}
theorem isN_out {o : Option Str} : gIsN false (.val (outD o)) (.val .non) L = some (.val (.bl o.isNone)) := by cases o <;> rfl
theorem line_ok {v : Int} {c : DL.Row} (hv : v.natAbs < 10 ^ 40) (hl : c.length ≤ 8) (hm : many ≤ 1000) (hc : ∀ e ∈ c, Nm e.1 ∧ StOk many e.2) (hd : (c.map (·.1)).Nodup) : m_state_line [.val (.int v), .val (.dic (rowK c))] L = .ok (.str (lineS v c)) L := by
  unfold m_state_line
  rw [mOf_eq]
  show endOf (fb_state_line [some (.val (.int v)), some (.val (.dic (rowK c))), none, none, none, none] L) = _
  obtain ⟨f1, f2, f3, _⟩ := line_fits hv hl hm hc
  have hstr : ∀ i : Int, i.natAbs < 10 ^ 40 → gStr [.val (.int i)] L = some (.val (.str (Str.ofString (toString i)))) := fun i hi => if_pos (int_show hi)
  have s1 : b_state_line_0 [some (.val (.int v)), some (.val (.dic (rowK c))), none, none, none, none] L = .ok (.nx [some (.val (.int v)), some (.val (.dic (rowK c))), some (.mu ([Str.ofString "state", Str.ofString (toString v)].map .str)), none, none, none]) L := by
    simp [b_state_line_0, hstr v hv, two_sz]
  have key : ∀ (bs as : DL.Row) (o3 o4 o5 : Option Sv), c = as ++ bs → ∃ o3' o4' o5', fLoop (.one 3) (sSeq b_state_line_1 b_state_line_2) ((bs.map (·.1)).map .str) [some (.val (.int v)), some (.val (.dic (rowK c))), some (.mu ((lineW v as).map .str)), o3, o4, o5] L = .ok (.nx [some (.val (.int v)), some (.val (.dic (rowK c))), some (.mu ((lineW v c).map .str)), o3', o4', o5']) L := by
    intro bs
    induction bs with
    | nil => intro as o3 o4 o5 e; rw [List.append_nil] at e; subst e; exact ⟨o3, o4, o5, rfl⟩
    | cons b bs ih =>
      intro as o3 o4 o5 e
      have hb : b ∈ c := by rw [e]; simp
      obtain ⟨hn, hs⟩ := hc b hb
      have hlk : lookK (rowK c) (.inr b.1) = some (stD b.2) := by rw [lookK_row, lookup_nodup hd hb]; rfl
      have hg := row_getS (L := L) (row_dic (L := L) (ks := rowK c)) hlk
      have t1 : b_state_line_1 [some (.val (.int v)), some (.val (.dic (rowK c))), some (.mu ((lineW v as).map .str)), some (.val (.str b.1)), o4, o5] L = .ok (.nx [some (.val (.int v)), some (.val (.dic (rowK c))), some (.mu ((lineW v as).map .str)), some (.val (.str b.1)), some (.val (.int (b.2.1 : Int))), some (.val (outD b.2.2))]) L := by
        simp [b_state_line_1, hg, stD]
      have hlw : lineW v (as ++ [b]) = lineW v as ++ [b.1, Str.ofString (toString (b.2.1 : Int)), b.2.2.getD (Str.ofString "-")] := by
        simp [lineW]
      have hsz : (lineW v as).length + 3 ≤ 16777216 := by
        have h1 : (lineW v (as ++ [b])).length ≤ 26 := by
          have : (lineW v c).length = (lineW v (as ++ [b])).length + (bs.flatMap fun e => [e.1, Str.ofString (toString (e.2.1 : Int)), e.2.2.getD (Str.ofString "-")]).length := by
            rw [e]; simp [lineW]; omega
          omega
        rw [hlw, List.length_append] at h1
        simp at h1; omega
      have t2 : b_state_line_2 [some (.val (.int v)), some (.val (.dic (rowK c))), some (.mu ((lineW v as).map .str)), some (.val (.str b.1)), some (.val (.int (b.2.1 : Int))), some (.val (outD b.2.2))] L = .ok (.nx [some (.val (.int v)), some (.val (.dic (rowK c))), some (.mu ((lineW v (as ++ [b])).map .str)), some (.val (.str b.1)), some (.val (.int (b.2.1 : Int))), some (.val (outD b.2.2))]) L := by
        have hi : ((b.2.1 : Nat) : Int).natAbs < 10 ^ 40 := by have := hs.lt; omega
        have hst := hstr _ hi
        have h3 : 3 ≤ sizeLine := sz_le (by omega)
        rw [hlw, List.map_append]
        cases ho : b.2.2 with
        | none =>
          have hx : gIsN false (.val .non) (.val .non) L = some (.val (.bl true)) := rfl
          simp [b_state_line_2, hst, outD, hx, h3, sz_le hsz]
        | some z =>
          have hx : gIsN false (.val (.str z)) (.val .non) L = some (.val (.bl false)) := rfl
          simp [b_state_line_2, hst, outD, hx, h3, sz_le hsz]
      obtain ⟨o3', o4', o5', r⟩ := ih (as ++ [b]) (some (.val (.str b.1))) (some (.val (.int (b.2.1 : Int)))) (some (.val (outD b.2.2))) (by rw [e]; simp)
      refine ⟨o3', o4', o5', ?_⟩
      have hset : Tg.set (.one 3) (.str b.1) [some (.val (.int v)), some (.val (.dic (rowK c))), some (.mu ((lineW v as).map .str)), o3, o4, o5] = some [some (.val (.int v)), some (.val (.dic (rowK c))), some (.mu ((lineW v as).map .str)), some (.val (.str b.1)), o4, o5] := rfl
      simp only [List.map_cons, fLoop, hset, ev_seq, t1, t2, Res.bind]
      exact r
  obtain ⟨o3, o4, o5, e⟩ := key c [] none none none rfl
  have s2 : b_state_line_3 [some (.val (.int v)), some (.val (.dic (rowK c))), some (.mu ([Str.ofString "state", Str.ofString (toString v)].map .str)), none, none, none] L = .ok (.nx [some (.val (.int v)), some (.val (.dic (rowK c))), some (.mu ((lineW v c).map .str)), o3, o4, o5]) L := by
    simp only [b_state_line_3, ev_for, ev_iKs, ev_var]
    simp only [List.getElem?_cons_succ, List.getElem?_cons_zero, read_val, Res.bind_ok, Sv.dicV, Option.map_some, give_some, if_true, keysDv_row]
    exact e
  have s3 : b_state_line_4 [some (.val (.int v)), some (.val (.dic (rowK c))), some (.val (.lst ((lineW v c).map .str))), o3, o4, o5] L = .ok (.rt (.str (lineS v c))) L := by
    have hj : gJoin " " [.val (.lst ((lineW v c).map .str))] L = some (.val (.str (lineS v c))) := by
      unfold gJoin
      simp only [Sv.seqL, Option.or, Option.bind, strsOf_map]
      exact if_pos ⟨f1, f2⟩
    simp [b_state_line_4, hj]
  simp only [fb_state_line, ev_seq, s1, Res.bind, s2, ev_frz]
  simp only [List.getElem?_cons_succ, List.getElem?_cons_zero, List.set_cons_succ, List.set_cons_zero, s3, endOf_rt]
end
end K12

namespace K12
open PySem PySem.Spec PyProof.Rows L2 DL
/-! Machine.__init__ -/
theorem fld_at {L : Led} {k : Nat} {c f : Str} {fs : List (Str × Dv)} (e : L[k]? = some (.obj c fs)) : gFld f [c] (.val (.own k)) L = (fs.lookup f).map .val := by
  unfold gFld
  rw [ob_own e]
  simp
theorem near_ob {L L' : Led} {s : Sv} {k : Nat} {c : Str} {fs : List (Str × Dv)} (n : Near s L L') (e : L[k]? = some (.obj c fs)) : L'[k]? = some (.obj c fs) := by
  rcases n with rfl | ⟨j, xs, rfl, e', rfl⟩
  · exact e
  · have : j ≠ k := fun z => by subst z; rw [e] at e'; cases e'
    rw [List.getElem?_set_ne this]; exact e
def F1 (vs : List Int) : List (Str × Dv) := [("own_values", .lst (vs.map .int))]
def F2 (vs : List Int) (ss : List Str) : List (Str × Dv) := [("own_values", .lst (vs.map .int)), ("own_symbols", .lst (ss.map .str))]
def F3 (vs : List Int) (ss : List Str) (cs : List DL.Row) : List (Str × Dv) := [("own_values", .lst (vs.map .int)), ("own_symbols", .lst (ss.map .str)), ("own_steps", .lst (cs.map fun c => .dic (rowK c)))]
def F4 (vs : List Int) (ss : List Str) (cs : List DL.Row) : List (Str × Dv) := [("own_values", .lst (vs.map .int)), ("own_symbols", .lst (ss.map .str)), ("own_steps", .lst (cs.map fun c => .dic (rowK c))), ("own_key", keyD' vs ss cs)]
def F5 (vs : List Int) (ss : List Str) (cs : List DL.Row) : List (Str × Dv) := [("own_values", .lst (vs.map .int)), ("own_symbols", .lst (ss.map .str)), ("own_steps", .lst (cs.map fun c => .dic (rowK c))), ("own_key", keyD' vs ss cs), ("own_lines", .lst (((vs.zip cs).map fun p => lineS p.1 p.2).map .str))]
section
variable {L : Led} {ss : List Str} {vs : List Int} {k : Nat} {cs : List DL.Row} {d : Dv} {A B : Dv} {o3 o4 o5 o6 o7 : Option Sv}
theorem rowK_norm {r : DL.Row} : rowK (norm ss r) = ss.map fun z => (.inr z, stD (rget r z)) := by
  unfold rowK norm
  rw [List.map_map]
  rfl
theorem i2_ok (hk : k < L.length) (hv : (Sv.val A).sq L = some (vs.map .int)) (hv' : (Sv.val A).sq (Ob L k "Machine" []) = some (vs.map .int)) (hl : vs.length ≤ 64) : b_Machine___init___2 [some (.val (.own k)), some (.val A), some (.val B), o3, o4, o5, o6, o7] (Ob L k "Machine" []) = .ok (.nx [some (.val (.own k)), some (.val A), some (.val B), o3, o4, o5, o6, o7]) (Ob L k "Machine" (F1 vs)) := by
  have h := sq_lst hv' (sz_le (by rw [List.length_map]; omega))
  have hs := ob_stF (L := L) (k := k) (c := "Machine") (f := "own_values") (fs := []) (d := .lst (vs.map .int)) hk (by decide)
  have hp : putFd "own_values" (.lst (vs.map .int)) [] = F1 vs := rfl
  rw [hp] at hs
  simp [b_Machine___init___2, h, hs]
theorem i3_ok {ds : List Dv} {rs : List DL.Row} (hk : k < L.length) (ht : (Sv.val B).sq (Ob L k "Machine" (F1 vs)) = some ds) (hr : Paired (fun d r => RowAt (Ob L k "Machine" (F1 vs)) d (rowK r)) ds rs) (hok : ∀ r ∈ rs, RowOk vs.length ss r) (h1 : 1 ≤ rs.length) (h8 : ss.length ≤ 8) (hso : ss = sortS ss) : b_Machine___init___3 [some (.val (.own k)), some (.val A), some (.val B), o3, o4, o5, o6, o7] (Ob L k "Machine" (F1 vs)) = .ok (.nx [some (.val (.own k)), some (.val A), some (.val B), o3, o4, o5, o6, o7]) (Ob L k "Machine" (F2 vs ss)) := by
  cases hr with
  | nil => simp at h1
  | @cons d r ds rs hd hr =>
    have hi : gIx (.val B) (.val (.int 0)) (Ob L k "Machine" (F1 vs)) = some (.val d) := sq_ix (k := 0) ht rfl
    have hro := hok r (by simp)
    have hrl := hro.len
    have hls := row_lst hd (sz_le (by rw [rowK_len]; omega))
    rw [keysDv_row] at hls
    have hsort : gSorted [.val (.lst ((r.map (·.1)).map .str))] (Ob L k "Machine" (F1 vs)) = some (ss.map .str) := by
      unfold gSorted
      simp only [Sv.seqL, Option.bind_some, strsOf_map]
      rw [if_pos (by rw [List.length_map]; omega), sortS_congr hro.perm, ← hso]
    have hs := ob_stF (L := L) (k := k) (c := "Machine") (f := "own_symbols") (fs := F1 vs) (d := .lst (ss.map .str)) hk (by simp [F1])
    have hp : putFd "own_symbols" (.lst (ss.map .str)) (F1 vs) = F2 vs ss := rfl
    rw [hp] at hs
    simp [b_Machine___init___3, hi, hls, hsort, hs, -List.map_map]
theorem i5_ok {ds : List Dv} {rs : List DL.Row} (hk : k < L.length) (ht : (Sv.val B).sq (Ob L k "Machine" (F2 vs ss)) = some ds) (hr : Paired (fun d r => RowAt (Ob L k "Machine" (F2 vs ss)) d (rowK r)) ds rs) (hok : ∀ r ∈ rs, RowOk vs.length ss r) (hl : rs.length ≤ 64) (h8 : ss.length ≤ 8) (hd : ss.Nodup) : b_Machine___init___5 [some (.val (.own k)), some (.val A), some (.val B), o3, o4, o5, o6, o7] (Ob L k "Machine" (F2 vs ss)) = .ok (.nx [some (.val (.own k)), some (.val A), some (.val B), o3, o4, o5, o6, o7]) (Ob L k "Machine" (F3 vs ss (rs.map (norm ss)))) := by
  obtain ⟨ps, rfl, rfl, hps⟩ := paired_zip hr
  have hlen : ps.length ≤ 64 := by simpa using hl
  have c := lcO_ok (en := false) (fs := dVar 2) (T := .one 4) (ft := dTr) (fe := ce_Machine___init___4) (ρ := [some (.val (.own k)), some (.val A), some (.val B), o3, o4, o5, o6, o7]) (vs := [4]) (acc := ps.map fun p => .dic (rowK (norm ss p.2))) ht rfl fun L' n => by
    have hob := near_ob n (ob_at (c := "Machine") (fs := F2 vs ss) hk)
    have hf : gFld "own_symbols" ["Machine"] (.val (.own k)) L' = some (.val (.lst (ss.map .str))) := fld_at hob
    exact cl_all (T := .one 4) (ft := dTr) (fe := ce_Machine___init___4) (ρ := [some (.val (.own k)), some (.val A), some (.val B), o3, none, o5, o6, o7]) (L := L') (fun p : Dv × DL.Row => p.1) (fun p => .dic (rowK (norm ss p.2))) ps (fun p hp => by
      refine ⟨_, rfl, rfl, ?_⟩
      have hrow := near_row n (hps p hp)
      have hro := hok p.2 (List.mem_map_of_mem hp)
      have e := dc_all (T := .one 6) (ft := dTr) (fk := dVar 6) (fv := dOp gGet (dVar 4) (dVar 6)) (ρ := [some (.val (.own k)), some (.val A), some (.val B), o3, some (.val p.1), o5, none, o7]) (L := L') (fun z => stD (rget p.2 z)) ss hd (fun z hz => by
        refine ⟨_, rfl, rfl, rfl, ?_⟩
        have := row_getS (z := z) hrow (rget_look (rget_ok hro hz).2)
        simp [this]) [] (by simp) (by simp; omega)
      rw [List.nil_append, ← rowK_norm] at e
      simp [ce_Machine___init___4, hf, Sv.src, e]) (sz_le (by omega))
  have hs := ob_stF (L := L) (k := k) (c := "Machine") (f := "own_steps") (fs := F2 vs ss) (d := .lst (ps.map fun p => .dic (rowK (norm ss p.2)))) hk (by simp [F2])
  have hp : putFd "own_steps" (.lst (ps.map fun p => .dic (rowK (norm ss p.2)))) (F2 vs ss) = F3 vs ss ((ps.map (·.2)).map (norm ss)) := by
    unfold F3
    rw [List.map_map, List.map_map]
    rfl
  rw [hp] at hs
  simp only [b_Machine___init___5, ev_stf, c, Res.bind_ok, ev_var]
  simp only [List.getElem?_cons_zero, read_val, Res.bind_ok, hs]
theorem src_l {xs : List Dv} : (Sv.val (.lst xs)).src = some ⟨xs, true⟩ := rfl
theorem i8_ok {rs : List DL.Row} (hk : k < L.length) (hl : rs.length ≤ 64) (h8 : ss.length ≤ 8) : b_Machine___init___8 [some (.val (.own k)), some (.val A), some (.val B), o3, o4, o5, o6, o7] (Ob L k "Machine" (F3 vs ss (rs.map (norm ss)))) = .ok (.nx [some (.val (.own k)), some (.val A), some (.val B), some (.val (.lst ((rs.map (norm ss)).map fun c => .tup (c.map fun e => stD e.2)))), o4, o5, o6, o7]) (Ob L k "Machine" (F3 vs ss (rs.map (norm ss)))) := by
  have hf1 : gFld "own_symbols" ["Machine"] (.val (.own k)) (Ob L k "Machine" (F3 vs ss (rs.map (norm ss)))) = some (.val (.lst (ss.map .str))) := fld_at (ob_at hk)
  have hf2 : gFld "own_steps" ["Machine"] (.val (.own k)) (Ob L k "Machine" (F3 vs ss (rs.map (norm ss)))) = some (.val (.lst ((rs.map (norm ss)).map fun c => .dic (rowK c)))) := fld_at (ob_at hk)
  have c := cl_all (T := .one 4) (ft := dTr) (fe := ce_Machine___init___7) (ρ := [some (.val (.own k)), some (.val A), some (.val B), o3, none, o5, o6, o7]) (L := Ob L k "Machine" (F3 vs ss (rs.map (norm ss)))) (fun r : DL.Row => .dic (rowK (norm ss r))) (fun r => .tup ((norm ss r).map fun e => stD e.2)) rs (fun r hr => by
    refine ⟨_, rfl, rfl, ?_⟩
    have e := cl_all (T := .one 6) (ft := dTr) (fe := ce_Machine___init___6) (ρ := [some (.val (.own k)), some (.val A), some (.val B), o3, some (.val (.dic (rowK (norm ss r)))), o5, none, o7]) (L := Ob L k "Machine" (F3 vs ss (rs.map (norm ss)))) Dv.str (fun z => stD (rget r z)) ss (fun z hz => by
      refine ⟨_, rfl, rfl, ?_⟩
      have hlk : lookK (rowK (norm ss r)) (.inr z) = some (stD (rget r z)) := by rw [lookK_row, lookup_norm r hz]; rfl
      have := row_getS (L := Ob L k "Machine" (F3 vs ss (rs.map (norm ss)))) row_dic hlk
      simp [ce_Machine___init___6, this]) (sz_le (by omega))
    have h2 : (norm ss r).map (fun e => stD e.2) = ss.map fun z => stD (rget r z) := by unfold norm; rw [List.map_map]; rfl
    have ht : gTuple [.val (.lst (ss.map fun z => stD (rget r z)))] (Ob L k "Machine" (F3 vs ss (rs.map (norm ss)))) = some (.val (.tup (ss.map fun z => stD (rget r z)))) := sq_tuple sq_lst0 (sz_le (by rw [List.length_map]; omega))
    rw [h2]
    simp [ce_Machine___init___7, hf1, src_l, e, ht]) (sz_le (by omega))
  simp only [List.map_map, Function.comp_def] at c hf2 ⊢
  simp [b_Machine___init___8, hf2, src_l, c]
theorem i9_ok (hk : k < L.length) (hl : cs.length ≤ 64) (hv : vs.length ≤ 64) (h8 : ss.length ≤ 8) : b_Machine___init___9 [some (.val (.own k)), some (.val A), some (.val B), some (.val (.lst (cs.map fun c => .tup (c.map fun e => stD e.2)))), o4, o5, o6, o7] (Ob L k "Machine" (F3 vs ss cs)) = .ok (.nx [some (.val (.own k)), some (.val A), some (.val B), some (.val (.lst (cs.map fun c => .tup (c.map fun e => stD e.2)))), o4, o5, o6, o7]) (Ob L k "Machine" (F4 vs ss cs)) := by
  have hf0 : gFld "own_values" ["Machine"] (.val (.own k)) (Ob L k "Machine" (F3 vs ss cs)) = some (.val (.lst (vs.map .int))) := fld_at (ob_at hk)
  have hf1 : gFld "own_symbols" ["Machine"] (.val (.own k)) (Ob L k "Machine" (F3 vs ss cs)) = some (.val (.lst (ss.map .str))) := fld_at (ob_at hk)
  have t0 : gTuple [.val (.lst (vs.map .int))] (Ob L k "Machine" (F3 vs ss cs)) = some (.val (.tup (vs.map .int))) := sq_tuple sq_lst0 (sz_le (by rw [List.length_map]; omega))
  have t1 : gTuple [.val (.lst (ss.map .str))] (Ob L k "Machine" (F3 vs ss cs)) = some (.val (.tup (ss.map .str))) := sq_tuple sq_lst0 (sz_le (by rw [List.length_map]; omega))
  have t2 : gTuple [.val (.lst (cs.map fun c => .tup (c.map fun e => stD e.2)))] (Ob L k "Machine" (F3 vs ss cs)) = some (.val (.tup (cs.map fun c => .tup (c.map fun e => stD e.2)))) := sq_tuple sq_lst0 (sz_le (by rw [List.length_map]; omega))
  have hs := ob_stF (L := L) (k := k) (c := "Machine") (f := "own_key") (fs := F3 vs ss cs) (d := keyD' vs ss cs) hk (by simp [F3])
  have hp : putFd "own_key" (keyD' vs ss cs) (F3 vs ss cs) = F4 vs ss cs := rfl
  rw [hp] at hs
  have h3 : 3 ≤ sizeLine := sz_le (by omega)
  unfold keyD' at hs
  simp [b_Machine___init___9, hf0, hf1, t0, t1, t2, h3, hs]
theorem i11_ok (hk : k < L.length) (M : MOk vs ss cs) : b_Machine___init___11 [some (.val (.own k)), some (.val A), some (.val B), o3, o4, o5, o6, o7] (Ob L k "Machine" (F4 vs ss cs)) = .ok (.nx [some (.val (.own k)), some (.val A), some (.val B), o3, o4, o5, o6, o7]) (Ob L k "Machine" (F5 vs ss cs)) := by
  have hf0 : gFld "own_values" ["Machine"] (.val (.own k)) (Ob L k "Machine" (F4 vs ss cs)) = some (.val (.lst (vs.map .int))) := fld_at (ob_at hk)
  have hf1 : gFld "own_steps" ["Machine"] (.val (.own k)) (Ob L k "Machine" (F4 vs ss cs)) = some (.val (.lst (cs.map fun c => .dic (rowK c)))) := fld_at (ob_at hk)
  have hz : zipF (vs.map .int) (cs.map fun c => .dic (rowK c)) = (vs.zip cs).map fun p => Dv.tup [.int p.1, .dic (rowK p.2)] := zip_maps _ _ _ _ _
  have c := cl_all (T := .tup [5, 4]) (ft := dTr) (fe := ce_Machine___init___10) (ρ := [some (.val (.own k)), some (.val A), some (.val B), o3, none, none, o6, o7]) (L := Ob L k "Machine" (F4 vs ss cs)) (fun p : Int × DL.Row => Dv.tup [.int p.1, .dic (rowK p.2)]) (fun p => Dv.str (lineS p.1 p.2)) (vs.zip cs) (fun p hp => by
    refine ⟨_, rfl, rfl, ?_⟩
    have hm := List.of_mem_zip hp
    have hk2 := M.keys p.2 hm.2
    have hro := M.rows p.2 hm.2
    have := line_ok (L := Ob L k "Machine" (F4 vs ss cs)) (v := p.1) (c := p.2) (many := vs.length) (M.vals p.1 hm.1) (by rw [hro.len]; exact M.eight) (by have := M.most; omega) (fun e he => ⟨M.names _ (by rw [← hk2]; exact List.mem_map_of_mem he), hro.ok e he⟩) (by rw [hk2]; exact M.nodup)
    simp [ce_Machine___init___10, this]) (sz_le (by rw [List.length_zip]; have := M.most; omega))
  have hs := ob_stF (L := L) (k := k) (c := "Machine") (f := "own_lines") (fs := F4 vs ss cs) (d := .lst ((vs.zip cs).map fun p => .str (lineS p.1 p.2))) hk (by simp [F4])
  have hp : putFd "own_lines" (.lst ((vs.zip cs).map fun p => .str (lineS p.1 p.2))) (F4 vs ss cs) = F5 vs ss cs := by
    unfold F5
    rw [List.map_map]
    rfl
  rw [hp] at hs
  simp [b_Machine___init___11, hf0, hf1, src_l, hz, c, hs]
theorem i13_ok (hk : k < L.length) (M : MOk vs ss cs) : b_Machine___init___13 [some (.val (.own k)), some (.val A), some (.val B), some (.val (.lst (cs.map fun c => .tup (c.map fun e => stD e.2)))), o4, o5, o6, o7] (Ob L k "Machine" (F5 vs ss cs)) = .ok (.nx [some (.val (.own k)), some (.val A), some (.val B), some (.val (.lst (cs.map fun c => .tup (c.map fun e => stD e.2)))), o4, o5, o6, o7]) (Ob L k "Machine" (machF vs ss cs)) := by
  have c := cl2_all (T := .one 4) (T1 := .one 7) (ft := dTr) (ft1 := dTr) (fs1 := dVar 4) (fe := ce_Machine___init___12) (vs1 := [7]) (ρ := [some (.val (.own k)), some (.val A), some (.val B), some (.val (.lst (cs.map fun c => .tup (c.map fun e => stD e.2)))), none, o5, o6, none]) (L := Ob L k "Machine" (F5 vs ss cs)) (fun c : DL.Row => Dv.tup (c.map fun e => stD e.2)) (fun c => c) (fun e => stD e.2) (fun e => Dv.bl e.2.2.isNone) 8 cs (fun c hc => by
    refine ⟨by rw [(M.rows c hc).len]; exact M.eight, _, _, rfl, rfl, rfl, rfl, fun e he => ⟨_, rfl, rfl, ?_⟩⟩
    simp [ce_Machine___init___12, stD, gIx_t1, isN_out]) [] (sz_le (by have := M.len; have := M.most; simp; omega))
  have ha := all_bl (bs := (cs.flatMap fun c => c).map fun e => e.2.2.isNone) (L := Ob L k "Machine" (F5 vs ss cs))
  rw [List.map_map] at ha
  have he : ((cs.flatMap fun c => c).map fun e => e.2.2.isNone).all id = silent cs := by
    rw [List.all_map, List.all_flatMap]
    rfl
  rw [he] at ha
  have ha' : gAll [.val (.lst ((cs.flatMap fun c => c).map fun e => Dv.bl e.2.2.isNone))] (Ob L k "Machine" (F5 vs ss cs)) = some (.val (.bl (silent cs))) := ha
  have hs := ob_stF (L := L) (k := k) (c := "Machine") (f := "own_silence") (fs := F5 vs ss cs) (d := .bl (silent cs)) hk (by simp [F5])
  have hp : putFd "own_silence" (.bl (silent cs)) (F5 vs ss cs) = machF vs ss cs := rfl
  rw [hp] at hs
  simp only [List.nil_append] at c
  simp only [b_Machine___init___13, ev_stf, ev_bi, ev_args, ev_args0, ev_lc2, ev_iV, ev_var]
  simp only [List.getElem?_cons_succ, List.getElem?_cons_zero, read_val, Res.bind_ok, src_l, give_some, wipe_cons, wipe_nil, List.set_cons_succ, List.set_cons_zero, c, noErr_ok, ha', hs]
/-- A MACHINE IS MADE -/
theorem init_ok {s t : Sv} {ds : List Dv} {rs : List DL.Row} (h0 : L[k]? = some (.obj "Machine" [])) (hv : s.sq L = some (vs.map .int)) (ht : t.sq L = some ds) (hr : Paired (fun d r => RowAt L d (rowK r)) ds rs) (hok : ∀ r ∈ rs, RowOk vs.length ss r) (M : MOk vs ss (rs.map (norm ss))) : m_Machine___init__ [.val (.own k), s, t] L = .ok .non (Ob L k "Machine" (machF vs ss (rs.map (norm ss)))) := by
  obtain ⟨A, rfl⟩ := sq_val hv
  obtain ⟨B, rfl⟩ := sq_val ht
  have hk : k < L.length := (List.getElem?_eq_some_iff.mp h0).1
  have hL : L = Ob L k "Machine" [] := by
    show L = L.set k _
    rw [← (List.getElem?_eq_some_iff.mp h0).2, List.set_getElem_self]
  have hlr : rs.length = vs.length := by have := M.len; simpa using this
  have hm := M.most
  have h8 := M.eight
  have rows : ∀ fs, Paired (fun d r => RowAt (Ob L k "Machine" fs) d (rowK r)) ds rs := fun fs => by
    clear ht hok M hlr
    induction hr with
    | nil => exact .nil
    | cons h _ ih => exact .cons (ob_row h0 h) ih
  unfold m_Machine___init__
  rw [mOf_eq]
  show endOf (fb_Machine___init__ [some (.val (.own k)), some (.val A), some (.val B), none, none, none, none, none] L) = _
  have s0 : b_Machine___init___0 [some (.val (.own k)), some (.val A), some (.val B), none, none, none, none, none] L = .ok (.nx [some (.val (.own k)), some (.val A), some (.val B), none, none, none, none, none]) L := by
    simp [b_Machine___init___0, values_ok hv M.pos M.most]
  have s1 : b_Machine___init___1 [some (.val (.own k)), some (.val A), some (.val B), none, none, none, none, none] L = .ok (.nx [some (.val (.own k)), some (.val A), some (.val B), none, none, none, none, none]) L := by
    have hlen := sq_len hv
    rw [List.length_map] at hlen
    simp [b_Machine___init___1, hlen, steps_ok ht hr hok hlr hm M.names M.nodup M.one h8]
  simp only [fb_Machine___init__, ev_seq, s0, Res.bind, s1]
  have s2 := i2_ok (A := A) (B := B) (o3 := none) (o4 := none) (o5 := none) (o6 := none) (o7 := none) hk hv (ob_sq h0 hv) hm
  rw [← hL] at s2
  simp only [s2, ev_seq, Res.bind, i3_ok hk (ob_sq h0 ht) (rows _) hok (by have := M.pos; omega) h8 M.sorted, i5_ok hk (ob_sq h0 ht) (rows _) hok (by omega) h8 M.nodup, i8_ok hk (by omega : rs.length ≤ 64) h8, i9_ok (cs := rs.map (norm ss)) hk (by rw [List.length_map]; omega) hm h8, i11_ok hk M, i13_ok hk M, endOf_nx]
end
end K12

namespace K12
open PySem PySem.Spec PyProof.Rows L2 DL
/-! a machine's methods -/
section
variable {L : Led} {vs : List Int} {ss : List Str} {cs : List DL.Row} {i : Nat} {z : Str} {s : Sv} {ws : List Str}
/-- what a machine's value tells -/
structure IsM (M : Dv) (vs : List Int) (ss : List Str) (cs : List DL.Row) : Prop where
  f0 : ∀ L, gFld "own_values" ["Machine"] (.val M) L = some (.val (.lst (vs.map .int)))
  f1 : ∀ L, gFld "own_symbols" ["Machine"] (.val M) L = some (.val (.lst (ss.map .str)))
  f2 : ∀ L, gFld "own_steps" ["Machine"] (.val M) L = some (.val (.lst (cs.map fun c => .dic (rowK c))))
  f5 : ∀ L, gFld "own_silence" ["Machine"] (.val M) L = some (.val (.bl (silent cs)))
  ob : ∀ L, (Sv.val M).ob L = some (Str.ofString "Machine", machF vs ss cs)
  sLen : ∀ L, mSel "__len__" [("Machine", m_Machine___len__)] (.val M) L = some m_Machine___len__
  sRepr : ∀ L, mSel "__repr__" [("Machine", m_Machine___repr__)] (.val M) L = some m_Machine___repr__
  sStep : ∀ L, mSel "step" [("Machine", m_Machine_step)] (.val M) L = some m_Machine_step
  sRun : ∀ L, mSel "run" [("Machine", m_Machine_run)] (.val M) L = some m_Machine_run
  sVal : ∀ L, mSel "value_of" [("Machine", m_Machine_value_of)] (.val M) L = some m_Machine_value_of
  sAlp : ∀ L, mSel "alphabet" [("Machine", m_Machine_alphabet)] (.val M) L = some m_Machine_alphabet
theorem isM_mach : IsM (machD vs ss cs) vs ss cs := ⟨fun _ => fld_obj, fun _ => fld_obj, fun _ => fld_obj, fun _ => fld_obj, fun _ => rfl, fun _ => rfl, fun _ => rfl, fun _ => rfl, fun _ => rfl, fun _ => rfl, fun _ => rfl⟩
variable {X : Dv}
theorem m_len_ok (H : IsM X vs ss cs) : m_Machine___len__ [.val X] L = .ok (.int vs.length) L := by
  unfold m_Machine___len__
  rw [mOf_eq]
  show endOf (fb_Machine___len__ [some (.val X)] L) = _
  simp [fb_Machine___len__, b_Machine___len___0, H.f0]
theorem chk_len {n : Int} (h0 : 0 ≤ n) (h1 : n < 1000000) : chkLen (.int n) = true := decide_eq_true ⟨h0, Int.lt_trans h1 (by decide)⟩
theorem chk_n (h : vs.length ≤ 64) : chkLen (.int (vs.length : Int)) = true := chk_len (by omega) (by omega)
theorem own_len_n {n : Int} (hs : mSel "__len__" [("Machine", m_Machine___len__)] (.val X) L = some m_Machine___len__) (hc : chkLen (.int n) = true) (he : m_Machine___len__ [.val X] L = .ok (.int n) L) : dOwn "__len__" [("Machine", m_Machine___len__)] chkLen (.val X) L = .ok (.val (.int n)) L := by
  unfold dOwn
  rw [hs]
  show (noErr (m_Machine___len__ [.val X] L)).bind _ = _
  rw [he]
  show (if chkLen (.int n) = true then _ else _) = _
  rw [if_pos hc]
theorem own_len (H : IsM X vs ss cs) (h : vs.length ≤ 64) : dOwn "__len__" [("Machine", m_Machine___len__)] chkLen (.val X) L = .ok (.val (.int vs.length)) L := own_len_n (H.sLen L) (chk_n h) (m_len_ok H)
theorem require_state_n {n j : Int} {c : Str} {fs : List (Str × Dv)} (hb : (Sv.val X).ob L = some (c, fs)) (h0 : 0 ≤ j) (h1 : j < n) (ho : dOwn "__len__" [("Machine", m_Machine___len__)] chkLen (.val X) L = .ok (.val (.int n)) L) : m_require_state [.val X, .val (.int j)] L = .ok .non L := by
  unfold m_require_state
  rw [mOf_eq]
  show endOf (fb_require_state [some (.val X), some (.val (.int j))] L) = _
  simp [fb_require_state, b_require_state_1, integer_ok, hb, ho, h0, h1]
theorem require_state_ok (H : IsM X vs ss cs) (hi : i < vs.length) (h : vs.length ≤ 64) : m_require_state [.val X, .val (.int (i : Int))] L = .ok .non L := require_state_n (H.ob L) (by omega) (by omega) (own_len H h)
theorem value_of_ok (H : IsM X vs ss cs) (hi : i < vs.length) (h : vs.length ≤ 64) : m_Machine_value_of [.val X, .val (.int (i : Int))] L = .ok (.int (vs.getD i 0)) L := by
  unfold m_Machine_value_of
  rw [mOf_eq]
  show endOf (fb_Machine_value_of [some (.val X), some (.val (.int (i : Int)))] L) = _
  have hg : gIx (.val (.lst (vs.map .int))) (.val (.int (i : Int))) L = some (.val (.int (vs.getD i 0))) := sq_ix sq_lst0 (by
    rw [List.getElem?_map, List.getElem?_eq_getElem hi, List.getD_eq_getElem?_getD, List.getElem?_eq_getElem hi]; rfl)
  have hr := require_state_ok (L := L) H hi h
  generalize vs.getD i 0 = y at hg ⊢
  generalize (i : Int) = j at hg hr ⊢
  simp [fb_Machine_value_of, b_Machine_value_of_0, b_Machine_value_of_1, hr, H.f0, hg]
theorem row_at (M : MOk vs ss cs) (hi : i < vs.length) : cs[i]? = some (cs.getD i []) ∧ cs.getD i [] ∈ cs := by
  have := M.len
  have hl : i < cs.length := by omega
  rw [List.getD_eq_getElem?_getD, List.getElem?_eq_getElem hl]
  exact ⟨rfl, List.getElem_mem _⟩
theorem get_row (M : MOk vs ss cs) (hi : i < vs.length) : gIx (.val (.lst (cs.map fun c => .dic (rowK c)))) (.val (.int (i : Int))) L = some (.val (.dic (rowK (cs.getD i [])))) := sq_ix sq_lst0 (by
  rw [List.getElem?_map, (row_at M hi).1]; rfl)
theorem get_step (M : MOk vs ss cs) (hi : i < vs.length) (hz : z ∈ ss) : gGet (.val (.dic (rowK (cs.getD i [])))) (.val (.str z)) L = some (.val (stD (rget (cs.getD i []) z))) := row_getS row_dic (rget_look (rget_ok (M.rows _ (row_at M hi).2) hz).2)
theorem step_val (H : IsM X vs ss cs) (M : MOk vs ss cs) (hi : i < vs.length) (hz : z ∈ ss) : m_Machine_step [.val X, .val (.int (i : Int)), .val (.str z)] L = .ok (stD (rget (cs.getD i []) z)) L := by
  unfold m_Machine_step
  rw [mOf_eq]
  show endOf (fb_Machine_step [some (.val X), some (.val (.int (i : Int))), some (.val (.str z))] L) = _
  simp [fb_Machine_step, b_Machine_step_0, b_Machine_step_1, b_Machine_step_2, require_state_ok H hi M.most, H.f1, H.f2, require_symbol_ok (M.names z hz) hz, get_row M hi, get_step M hi hz, -List.getD_eq_getElem?_getD]
theorem run_val (H : IsM X vs ss cs) (M : MOk vs ss cs) (hi : i < vs.length) (hw : ∀ w ∈ ws, w ∈ ss) (hl : ws.length ≤ 100000) (hs : Fz s (ws.map .str)) : m_Machine_run [.val X, .val (.int (i : Int)), s] L = .ok (runD (runF cs i ws)) L := by
  unfold m_Machine_run
  rw [mOf_eq]
  show endOf (fb_Machine_run [some (.val X), some (.val (.int (i : Int))), some s, none, none, none] L) = _
  have hrw := require_word_ok (L := L) (ys := ss) (fun w h => ⟨M.names w (hw w h), hw w h⟩) hs
  obtain ⟨S, rfl⟩ : ∃ S, s = .val S := by rcases hs with rfl | rfl <;> exact ⟨_, rfl⟩
  have s0 : b_Machine_run_0 [some (.val X), some (.val (.int (i : Int))), some (.val S), none, none, none] L = .ok (.nx [some (.val X), some (.val (.int (i : Int))), some (.val S), none, none, none]) L := by
    simp [b_Machine_run_0, require_state_ok H hi M.most]
  have s1 : b_Machine_run_1 [some (.val X), some (.val (.int (i : Int))), some (.val S), none, none, none] L = .ok (.nx [some (.val X), some (.val (.int (i : Int))), some (.val S), none, none, none]) L := by
    simp [b_Machine_run_1, H.f1, hrw]
  have s2 : b_Machine_run_2 [some (.val X), some (.val (.int (i : Int))), some (.val S), none, none, none] L = .ok (.nx [some (.val X), some (.val (.int (i : Int))), some (.val S), some (.mu ([].map .str)), none, none]) L := by
    simp [b_Machine_run_2]
  have key : ∀ (bs : List Str) (j : Nat) (as : List Str) (o4 o5 : Option Sv), j < vs.length → (∀ w ∈ bs, w ∈ ss) → as.length + bs.length ≤ 100000 → ∃ o4' o5', fLoop (.one 4) (sSeq b_Machine_run_3 b_Machine_run_5) (bs.map .str) [some (.val X), some (.val (.int (j : Int))), some (.val S), some (.mu (as.map .str)), o4, o5] L = .ok (.nx [some (.val X), some (.val (.int ((runF cs j bs).1 : Int))), some (.val S), some (.mu ((as ++ (runF cs j bs).2).map .str)), o4', o5']) L := by
    intro bs
    induction bs with
    | nil => intro j as o4 o5 _ _ _; exact ⟨o4, o5, by simp [runF, fLoop]⟩
    | cons b bs ih =>
      intro j as o4 o5 hj hb hal
      have hz := hb b (by simp)
      have hst := (rget_ok (M.rows _ (row_at M hj).2) hz).1
      have t1 : b_Machine_run_3 [some (.val X), some (.val (.int (j : Int))), some (.val S), some (.mu (as.map .str)), some (.val (.str b)), o5] L = .ok (.nx [some (.val X), some (.val (.int ((rget (cs.getD j []) b).1 : Int))), some (.val S), some (.mu (as.map .str)), some (.val (.str b)), some (.val (outD (rget (cs.getD j []) b).2))]) L := by
        have hg := get_step (L := L) M hj hz
        unfold stD at hg
        simp [b_Machine_run_3, H.f2, get_row M hj, hg, -List.getD_eq_getElem?_getD]
      have t2 : b_Machine_run_5 [some (.val X), some (.val (.int ((rget (cs.getD j []) b).1 : Int))), some (.val S), some (.mu (as.map .str)), some (.val (.str b)), some (.val (outD (rget (cs.getD j []) b).2))] L = .ok (.nx [some (.val X), some (.val (.int ((rget (cs.getD j []) b).1 : Int))), some (.val S), some (.mu ((as ++ (rget (cs.getD j []) b).2.toList).map .str)), some (.val (.str b)), some (.val (outD (rget (cs.getD j []) b).2))]) L := by
        simp only [List.length_cons] at hal
        cases ho : (rget (cs.getD j []) b).2 with
        | none =>
          have hx : gIsN true (.val .non) (.val .non) L = some (.val (.bl false)) := rfl
          simp [b_Machine_run_5, outD, hx]
        | some z =>
          have hx : gIsN true (.val (.str z)) (.val .non) L = some (.val (.bl true)) := rfl
          have hlt : as.length < sizeLine := by rw [sizeLine_eq]; omega
          simp [b_Machine_run_5, b_Machine_run_4, outD, hx, hlt]
      obtain ⟨o4', o5', r⟩ := ih (rget (cs.getD j []) b).1 (as ++ (rget (cs.getD j []) b).2.toList) (some (.val (.str b))) (some (.val (outD (rget (cs.getD j []) b).2))) hst.lt (fun w h => hb w (by simp [h])) (by
        have : (rget (cs.getD j []) b).2.toList.length ≤ 1 := by cases (rget (cs.getD j []) b).2 <;> simp
        simp only [List.length_cons] at hal
        rw [List.length_append]; omega)
      refine ⟨o4', o5', ?_⟩
      have hset : Tg.set (.one 4) (.str b) [some (.val X), some (.val (.int (j : Int))), some (.val S), some (.mu (as.map .str)), o4, o5] = some [some (.val X), some (.val (.int (j : Int))), some (.val S), some (.mu (as.map .str)), some (.val (.str b)), o5] := rfl
      simp only [List.map_cons, fLoop, hset, ev_seq, t1, t2, Res.bind, r]
      simp only [runF, List.append_assoc]
  obtain ⟨o4, o5, e⟩ := key ws i [] none none hi hw (by simpa using hl)
  obtain ⟨r1, r2, r3⟩ := runF_ok M ws i hi hw
  have s6 : b_Machine_run_6 [some (.val X), some (.val (.int (i : Int))), some (.val S), some (.mu ([].map .str)), none, none] L = .ok (.nx [some (.val X), some (.val (.int ((runF cs i ws).1 : Int))), some (.val S), some (.mu ((runF cs i ws).2.map .str)), o4, o5]) L := by
    simp only [b_Machine_run_6, ev_for, ev_iV, ev_var]
    simp only [List.getElem?_cons_succ, List.getElem?_cons_zero, read_val, Res.bind_ok, hs.src, give_some, if_true]
    rw [List.nil_append] at e
    exact e
  have s7 : b_Machine_run_7 [some (.val X), some (.val (.int ((runF cs i ws).1 : Int))), some (.val S), some (.val (.lst ((runF cs i ws).2.map .str))), o4, o5] L = .ok (.rt (runD (runF cs i ws))) L := by
    have ht : gTuple [.val (.lst ((runF cs i ws).2.map .str))] L = some (.val (.tup ((runF cs i ws).2.map .str))) := sq_tuple sq_lst0 (sz_le (by rw [List.length_map]; omega))
    simp [b_Machine_run_7, ht, two_sz, runD]
  simp only [fb_Machine_run, ev_seq, s0, Res.bind, s1, s2, s6, ev_frz]
  simp only [List.getElem?_cons_succ, List.getElem?_cons_zero, List.set_cons_succ, List.set_cons_zero, s7, endOf_rt]
theorem alphabet_val (H : IsM X vs ss cs) (h : ss.length ≤ 8) : m_Machine_alphabet [.val X] L = .ok (.own L.length) (L ++ [.lst (ss.map .str)]) := by
  unfold m_Machine_alphabet
  rw [mOf_eq]
  show endOf (fb_Machine_alphabet [some (.val X)] L) = _
  have hl : gLst4 [.val (.lst (ss.map .str))] L = some (ss.map .str) := sq_lst sq_lst0 (sz_le (by rw [List.length_map]; omega))
  simp [fb_Machine_alphabet, b_Machine_alphabet_0, H.f1, hl]
theorem silent_val (H : IsM X vs ss cs) : m_Machine_is_silent [.val X] L = .ok (.bl (silent cs)) L := by
  unfold m_Machine_is_silent
  rw [mOf_eq]
  show endOf (fb_Machine_is_silent [some (.val X)] L) = _
  simp [fb_Machine_is_silent, b_Machine_is_silent_0, H.f5]
def mText (vs : List Int) (ss : List Str) : Str := Str.ofString "Machine(" ++ shownOf (.lst (vs.map .int)) ++ Str.ofString ", " ++ shownOf (.lst (ss.map .str)) ++ Str.ofString ")"
theorem app_len (x y : Str) : (x ++ y).length = x.length + y.length := by
  show (x.cps ++ y.cps).size = _
  rw [Array.size_append]; rfl
theorem texts_fit (M : MOk vs ss cs) : (∀ L, gRepr [.val (.lst (vs.map .int))] L = some (.val (.str (shownOf (.lst (vs.map .int)))))) ∧ (∀ L, gRepr [.val (.lst (ss.map .str))] L = some (.val (.str (shownOf (.lst (ss.map .str)))))) ∧ (shownOf (.lst (vs.map .int))).length ≤ 10000 ∧ (shownOf (.lst (ss.map .str))).length ≤ 10000 ∧ (∀ L, gFmtP (.val (.lst (vs.map .int))) L = some (.val (.str (shownOf (.lst (vs.map .int)))))) ∧ ∀ L, gFmtP (.val (.lst (ss.map .str))) L = some (.val (.str (shownOf (.lst (ss.map .str))))) := by
  have h1 : OkB (64 * (0 + 1)) 1 (.lst (vs.map .int)) := okB_map (fun v hv => okB_int (M.vals v hv)) M.most
  have h2 : OkB (8 * (8 + 1)) 1 (.lst (ss.map .str)) := okB_map (fun z hz => okB_nm (M.names z hz)) M.eight
  obtain ⟨a, b⟩ := repr_shown h1 (by decide) (by decide)
  obtain ⟨c, d⟩ := repr_shown h2 (by decide) (by decide)
  exact ⟨a, c, by omega, by omega, fun L => fmt_shown h1 (by decide) (by decide), fun L => fmt_shown h2 (by decide) (by decide)⟩
theorem repr_val' (H : IsM X vs ss cs) (M : MOk vs ss cs) : m_Machine___repr__ [.val X] L = .ok (.str (mText vs ss)) L ∧ (mText vs ss).length ≤ 21000 := by
  obtain ⟨_, _, l1, l2, f1, f2⟩ := texts_fit M
  have a1 : (Str.ofString "Machine(").length = 8 := by decide +kernel
  have a2 : (Str.ofString ", ").length = 2 := by decide +kernel
  have a3 : (Str.ofString ")").length = 1 := by decide +kernel
  refine ⟨?_, by unfold mText; simp only [app_len, a1, a2, a3]; omega⟩
  unfold m_Machine___repr__
  rw [mOf_eq]
  show endOf (fb_Machine___repr__ [some (.val X)] L) = _
  have b1 : (Str.ofString "Machine(").length ≤ sizeLine := sz_le (by omega)
  have b2 : (Str.ofString "Machine(" ++ shownOf (.lst (vs.map .int))).length ≤ sizeLine := sz_le (by simp only [app_len, a1]; omega)
  have b3 : (Str.ofString "Machine(" ++ shownOf (.lst (vs.map .int)) ++ Str.ofString ", ").length ≤ sizeLine := sz_le (by simp only [app_len, a1, a2]; omega)
  have b4 : (Str.ofString "Machine(" ++ shownOf (.lst (vs.map .int)) ++ Str.ofString ", " ++ shownOf (.lst (ss.map .str))).length ≤ sizeLine := sz_le (by simp only [app_len, a1, a2]; omega)
  have b5 : (Str.ofString "Machine(" ++ shownOf (.lst (vs.map .int)) ++ Str.ofString ", " ++ shownOf (.lst (ss.map .str)) ++ Str.ofString ")").length ≤ sizeLine := sz_le (by simp only [app_len, a1, a2, a3]; omega)
  simp only [fb_Machine___repr__, b_Machine___repr___0, ev_ret, ev_joined, ev_jsC, ev_js0, ev_c, ev_un, ev_var]
  simp only [List.getElem?_cons_zero, read_val, Res.bind_ok, H.f0, H.f1, give_some, f1, f2, str_empty_app, b1, b2, b3, b4, b5, if_true]
  rfl
theorem own_repr (H : IsM X vs ss cs) (M : MOk vs ss cs) : dOwn "__repr__" [("Machine", m_Machine___repr__)] chkStr (.val X) L = .ok (.val (.str (mText vs ss))) L := by
  unfold dOwn
  rw [H.sRepr]
  simp only [(repr_val' H M).1, noErr_ok, Res.bind_ok, chkStr, if_true]
end
end K12

namespace K12
open PySem PySem.Spec PyProof.Rows L2 DL
/-! the law's own tables -/
/-- the ledger may have grown; of what was there only the pot has changed -/
structure Gr (p : Nat) (L L' : Led) : Prop where
  pot : PotAt L' p
  len : L.length ≤ L'.length
  same : ∀ k, k < L.length → k ≠ p → L'[k]? = L[k]?
theorem Gr.refl {p : Nat} {L : Led} (h : PotAt L p) : Gr p L L := ⟨h, Nat.le_refl _, fun _ _ _ => rfl⟩
theorem Gr.trans {p : Nat} {L L1 L2 : Led} (a : Gr p L L1) (b : Gr p L1 L2) : Gr p L L2 := ⟨b.pot, Nat.le_trans a.len b.len, fun k h n => (b.same k (Nat.lt_of_lt_of_le h a.len) n).trans (a.same k h n)⟩
theorem Pt.gr {p : Nat} {L L' : Led} (a : Pt p L L') : Gr p L L' := by
  obtain ⟨h, c, rfl⟩ := a
  exact ⟨h, by simp, fun k _ n => List.getElem?_set_ne (Ne.symm n)⟩
theorem Gr.get {p k : Nat} {L L' : Led} {c : Ct} (a : Gr p L L') (e : L[k]? = some c) (n : k ≠ p) : L'[k]? = some c := (a.same k (List.getElem?_eq_some_iff.mp e).1 n).trans e
theorem pot_lt {L : Led} {p : Nat} (h : PotAt L p) : p < L.length := by
  obtain ⟨a, b, e, _⟩ := h
  exact (List.getElem?_eq_some_iff.mp e).1
theorem pot_app {L : Led} {p : Nat} {c : Ct} (h : PotAt L p) : PotAt (L ++ [c]) p := by
  have := pot_lt h
  obtain ⟨a, b, e, r⟩ := h
  exact ⟨a, b, by rw [List.getElem?_append_left this]; exact e, r⟩
theorem pot_set {L : Led} {p q : Nat} {c : Ct} (h : PotAt L p) (n : q ≠ p) : PotAt (L.set q c) p := by
  obtain ⟨a, b, e, r⟩ := h
  exact ⟨a, b, by rw [List.getElem?_set_ne n]; exact e, r⟩
theorem erase_perm {α : Type} : ∀ {l : List α} {n : Nat} (h : n < l.length), (l[n] :: l.eraseIdx n).Perm l
  | a :: l, 0, _ => List.Perm.refl _
  | a :: l, n + 1, h => by
    have ih := erase_perm (l := l) (n := n) (by simpa using h)
    simp only [List.getElem_cons_succ, List.eraseIdx_cons_succ]
    exact (List.Perm.swap _ _ _).trans (List.Perm.cons a ih)
theorem map_erase {α β : Type} (f : α → β) : ∀ (l : List α) (n : Nat), (l.map f).eraseIdx n = (l.eraseIdx n).map f
  | [], _ => rfl
  | a :: l, 0 => rfl
  | a :: l, n + 1 => by simp [map_erase f l n]
theorem pop_ok {rest : List Str} {r : Int} (h0 : 0 ≤ r) (h1 : r < rest.length) (hl : rest.length ≤ 1000) : ∃ z, gmPop (rest.map .str) [.val (.int r)] = some (.str z, (rest.eraseIdx r.toNat).map .str) ∧ (z :: rest.eraseIdx r.toNat).Perm rest := by
  have hlt : r.toNat < rest.length := by omega
  refine ⟨rest[r.toNat], ?_, erase_perm hlt⟩
  have hs : seqIndex? r (rest.map Dv.str).length = some r.toNat := by
    rw [List.length_map]
    unfold seqIndex?
    simp [h0, h1]
    omega
  have hb : -(2 ^ 63) ≤ r ∧ r < 2 ^ 63 := ⟨by omega, by omega⟩
  simp only [gmPop, hb, and_self, if_true, hs]
  rw [List.getElem?_map, List.getElem?_eq_getElem hlt]
  simp [map_erase]
section
variable {L : Led} {p : Nat} {zs : List Str}
theorem mixed_ok (hp : PotAt L p) (hz : zs.length ≤ 100) : ∃ (ys : List Str) (L' : Led), m_l_mixed [.val (.own p), .val (.lst (zs.map .str))] L = .ok (.lst (ys.map .str)) L' ∧ ys.Perm zs ∧ Gr p L L' := by
  unfold m_l_mixed
  rw [mOf_eq]
  show ∃ (ys : List Str) (L' : Led), endOf (fb_l_mixed [some (.val (.own p)), some (.val (.lst (zs.map .str))), none, none] L) = _ ∧ _
  have hlt := pot_lt hp
  have hne : L.length ≠ p := by omega
  have s0 : b_l_mixed_0 [some (.val (.own p)), some (.val (.lst (zs.map .str))), none, none] L = .ok (.nx [some (.val (.own p)), some (.val (.lst (zs.map .str))), some (.val (.own L.length)), none]) (L ++ [.lst (zs.map .str)]) := by
    have hl : gLst4 [.val (.lst (zs.map .str))] L = some (zs.map .str) := sq_lst sq_lst0 (sz_le (by rw [List.length_map]; omega))
    simp [b_l_mixed_0, hl]
  have key : ∀ (ds : List Dv) (rest : List Str) (acc : List Dv) (L1 : Led), rest.length = ds.length → rest.length ≤ 100 → acc.length + rest.length ≤ 1000 → PotAt L1 p → L1[L.length]? = some (.lst (rest.map .str)) → ∃ (ys : List Str) (L2 : Led), cLoop (.one 3) dTr ce_l_mixed_1 [some (.val (.own p)), some (.val (.lst (zs.map .str))), some (.val (.own L.length)), none] ds acc L1 = .ok (acc ++ ys.map .str) L2 ∧ ys.Perm rest ∧ PotAt L2 p ∧ L1.length = L2.length ∧ ∀ k, k ≠ p → k ≠ L.length → L2[k]? = L1[k]? := by
    intro ds
    induction ds with
    | nil =>
      intro rest acc L1 hr _ _ hp1 _
      have : rest = [] := List.eq_nil_of_length_eq_zero hr
      subst this
      exact ⟨[], L1, by simp [cLoop], List.Perm.refl _, hp1, rfl, fun _ _ _ => rfl⟩
    | cons d ds ih =>
      intro rest acc L1 hr hr100 hacc hp1 hq
      simp only [List.length_cons] at hr
      obtain ⟨r, L2, e, r0, r1, hpt⟩ := digit_pt (n := (rest.length : Int)) hp1 (by omega) (by omega)
      have hq2 : L2[L.length]? = some (.lst (rest.map .str)) := hpt.get hne hq
      obtain ⟨z, hpop, hperm⟩ := pop_ok r0 r1 (by omega)
      have hlen2 := hpt.len
      have hlt2 : L.length < L2.length := (List.getElem?_eq_some_iff.mp hq2).1
      have hel : (rest.eraseIdx r.toNat).length = ds.length := by rw [List.length_eraseIdx_of_lt (by omega)]; omega
      obtain ⟨ys, L3, e3, hys, hp3, hl3, hs3⟩ := ih (rest.eraseIdx r.toNat) (acc ++ [.str z]) (L2.set L.length (.lst ((rest.eraseIdx r.toNat).map .str))) hel (by omega) (by simp; omega) (pot_set hpt.1 hne) (List.getElem?_set_self hlt2)
      refine ⟨z :: ys, L3, ?_, (List.Perm.cons z hys).trans hperm, hp3, by rw [← hl3]; simp [hlen2], fun k k1 k2 => ?_⟩
      · have hgl : gLen [.val (.own L.length)] L1 = some (.val (.int rest.length)) := by
          have := sq_len (sq_own0 hq)
          rwa [List.length_map] at this
        have hce : ce_l_mixed_1 [some (.val (.own p)), some (.val (.lst (zs.map .str))), some (.val (.own L.length)), some (.val d)] L1 = .ok (.val (.str z)) (L2.set L.length (.lst ((rest.eraseIdx r.toNat).map .str))) := by
          generalize hN : (rest.length : Int) = N at e hgl
          simp [ce_l_mixed_1, hgl, hq, e, hq2, hpop]
        have hset : Tg.set (.one 3) d [some (.val (.own p)), some (.val (.lst (zs.map .str))), some (.val (.own L.length)), none] = some [some (.val (.own p)), some (.val (.lst (zs.map .str))), some (.val (.own L.length)), some (.val d)] := rfl
        have hlta : acc.length < sizeLine := by rw [sizeLine_eq]; omega
        simp only [cLoop, hset, dTr, Res.bind, if_true, hce, hlta, e3, List.map_cons, List.append_assoc, List.singleton_append]
      · rw [hs3 k k1 k2, List.getElem?_set_ne (Ne.symm k2)]
        obtain ⟨_, c, rfl⟩ := hpt
        rw [List.getElem?_set_ne (Ne.symm k1)]
  obtain ⟨ys, L2, e, hys, hp2, hl2, hs2⟩ := key (upF 0 zs.length) zs [] (L ++ [.lst (zs.map .str)]) (up_len _).symm hz (by simp; omega) (pot_app hp) (by simp)
  refine ⟨ys, L2, ?_, hys, hp2, by rw [← hl2]; simp, fun k hk n => ?_⟩
  · have hg : dBi gLen (dArgs (dVar 1) dArgs0) [some (.val (.own p)), some (.val (.lst (zs.map .str))), some (.val (.own L.length)), none] (L ++ [.lst (zs.map .str)]) = .ok (.val (.int zs.length)) (L ++ [.lst (zs.map .str)]) := by simp
    have hR := iR1_eq hg (rg_small (by omega) (by omega))
    rw [Int.toNat_natCast] at hR
    have s2 : b_l_mixed_2 [some (.val (.own p)), some (.val (.lst (zs.map .str))), some (.val (.own L.length)), none] (L ++ [.lst (zs.map .str)]) = .ok (.rt (.lst (ys.map .str))) L2 := by
      simp only [b_l_mixed_2, ev_ret, ev_lc, hR, Res.bind_ok, wipe_cons, wipe_nil, List.set_cons_succ, List.set_cons_zero, e, noErr_ok, List.nil_append]
    simp only [fb_l_mixed, ev_seq, s0, Res.bind, s2, endOf_rt]
  · rw [hs2 k n (by omega), List.getElem?_append_left hk]
/-! a row, a table -/
def W3 : List Dv := [.str "x", .str "y", .str "odd"]
theorem w3_ok : ∀ d ∈ W3, ∃ z, d = outD (some z) ∧ Nm z := by
  intro d hd
  simp only [W3, List.mem_cons, List.not_mem_nil, or_false] at hd
  rcases hd with rfl | rfl | rfl
  all_goals exact ⟨_, rfl, by decide +kernel, by decide +kernel, by decide +kernel⟩
variable {X1 X2 o7 o9 o10 : Option Sv} {S6 : Option Sv} {t n : Int} {many : Nat}
theorem tb3_ok (hp : PotAt L p) (h0 : 0 ≤ t) (h4 : t < 4) {R8 : Option Sv} : ∃ o L', b_l_table_3 [some (.val (.own p)), X1, X2, some (.val (.int n)), some (.val (.lst W3)), some (.val (.int t)), S6, o7, R8, o9, o10] L = .ok (.nx [some (.val (.own p)), X1, X2, some (.val (.int n)), some (.val (.lst W3)), some (.val (.int t)), S6, o7, R8, o9, some (.val (outD o))]) L' ∧ (∀ z, o = some z → Nm z) ∧ Pt p L L' := by
  by_cases ht : 0 < t
  · obtain ⟨r, L1, e1, r0, r1, hp1⟩ := digit_pt (n := 4) hp (by decide) (by decide)
    by_cases hr : r < t
    · obtain ⟨d, L2, e2, hd, hp2⟩ := pick_l (xs := W3) hp1.1 (by simp [W3]) (by simp [W3])
      obtain ⟨z, rfl, hz⟩ := w3_ok d hd
      exact ⟨some z, L2, by simp [b_l_table_3, ht, e1, hr, e2], fun y hy => by cases hy; exact hz, hp1.trans hp2⟩
    · exact ⟨none, L1, by simp [b_l_table_3, ht, e1, hr, outD], (fun y hy => by cases hy), hp1⟩
  · exact ⟨none, L, by simp [b_l_table_3, ht, outD], (fun y hy => by cases hy), Pt.refl hp⟩
theorem tb4_ok (hp : PotAt L p) (hm : 0 < many) (hm2 : many ≤ 1000) {r : DL.Row} {z : Str} {o : Option Str} (hz : z ∉ r.map (·.1)) (hl : r.length ≤ 1000) : ∃ j L', b_l_table_4 [some (.val (.own p)), X1, X2, some (.val (.int (many : Int))), some (.val (.lst W3)), some (.val (.int t)), S6, o7, some (.muD (rowK r)), some (.val (.str z)), some (.val (outD o))] L = .ok (.nx [some (.val (.own p)), X1, X2, some (.val (.int (many : Int))), some (.val (.lst W3)), some (.val (.int t)), S6, o7, some (.muD (rowK (r ++ [(z, (j, o))]))), some (.val (.str z)), some (.val (outD o))]) L' ∧ j < many ∧ Pt p L L' := by
  obtain ⟨i, L1, e1, r0, r1, hp1⟩ := digit_pt (n := (many : Int)) hp (by omega) (by omega)
  refine ⟨i.toNat, L1, ?_, by omega, hp1⟩
  have hput : putD (rowK r) (.inr z) (stD (i.toNat, o)) = rowK (r ++ [(z, (i.toNat, o))]) := by
    rw [putD_new]
    · simp [rowK]
    · intro kv hkv
      obtain ⟨e, he, rfl⟩ := List.mem_map.mp hkv
      intro q
      exact hz (List.mem_map.mpr ⟨e, he, Sum.inr.inj q⟩)
  have hi : ((i.toNat : Nat) : Int) = i := by omega
  unfold stD at hput
  rw [hi] at hput
  have hlt : (rowK r).length < sizeLine := by rw [rowK_len, sizeLine_eq]; omega
  have hk : (Sv.val (.str z)).key = some (.inr z) := rfl
  generalize (many : Int) = N at e1
  simp [b_l_table_4, e1, two_sz, hk, hlt, hput]
/-- the loop that fills a row -/
theorem tb5_ok (hp : PotAt L p) (hm : 0 < many) (hm2 : many ≤ 1000) (h0 : 0 ≤ t) (h4 : t < 4) : ∀ (bs : List Str) (r : DL.Row) (L1 : Led) (o9 o10 : Option Sv), PotAt L1 p → (r.map (·.1) ++ bs).Nodup → r.length + bs.length ≤ 100 → (∀ e ∈ r, StOk many e.2) → ∃ r' o9' o10' L', fLoop (.one 9) (sSeq b_l_table_3 b_l_table_4) (bs.map .str) [some (.val (.own p)), X1, X2, some (.val (.int (many : Int))), some (.val (.lst W3)), some (.val (.int t)), S6, o7, some (.muD (rowK r)), o9, o10] L1 = .ok (.nx [some (.val (.own p)), X1, X2, some (.val (.int (many : Int))), some (.val (.lst W3)), some (.val (.int t)), S6, o7, some (.muD (rowK r')), o9', o10']) L' ∧ r'.map (·.1) = r.map (·.1) ++ bs ∧ (∀ e ∈ r', StOk many e.2) ∧ Pt p L1 L'
  | [], r, L1, o9, o10, hp1, _, _, hr => ⟨r, o9, o10, L1, rfl, by simp, hr, Pt.refl hp1⟩
  | b :: bs, r, L1, o9, o10, hp1, hd, hl, hr => by
    simp only [List.length_cons] at hl
    have hb : b ∉ r.map (·.1) := by
      rw [List.nodup_append] at hd
      exact fun h => hd.2.2 b h b (by simp) rfl
    obtain ⟨o, L2, e2, ho, hp2⟩ := tb3_ok (X1 := X1) (X2 := X2) (S6 := S6) (o7 := o7) (o9 := some (.val (.str b))) (o10 := o10) (n := (many : Int)) (R8 := some (.muD (rowK r))) hp1 h0 h4
    obtain ⟨j, L3, e3, hj, hp3⟩ := tb4_ok (X1 := X1) (X2 := X2) (S6 := S6) (o7 := o7) (t := t) (o := o) (r := r) (z := b) hp2.1 hm hm2 hb (by omega)
    obtain ⟨r', o9', o10', L', e4, hk, hs, hp4⟩ := tb5_ok hp hm hm2 h0 h4 bs (r ++ [(b, (j, o))]) L3 (some (.val (.str b))) (some (.val (outD o))) hp3.1 (by simpa using hd) (by simp; omega) (fun e he => by
      rcases List.mem_append.mp he with he | he
      · exact hr e he
      · rw [List.mem_singleton.mp he]; exact ⟨hj, ho⟩)
    refine ⟨r', o9', o10', L', ?_, by rw [hk]; simp, hs, (hp2.trans hp3).trans hp4⟩
    have hset : Tg.set (.one 9) (.str b) [some (.val (.own p)), X1, X2, some (.val (.int (many : Int))), some (.val (.lst W3)), some (.val (.int t)), S6, o7, some (.muD (rowK r)), o9, o10] = some [some (.val (.own p)), X1, X2, some (.val (.int (many : Int))), some (.val (.lst W3)), some (.val (.int t)), S6, o7, some (.muD (rowK r)), some (.val (.str b)), o10] := rfl
    simp only [List.map_cons, fLoop, hset, ev_seq, e2, Res.bind, e3, e4]
end
end K12

namespace K12
open PySem PySem.Spec PyProof.Rows L2 DL
/-! tables, words, runs by the table -/
section
variable {L : Led} {p : Nat} {zs : List Str} {vs : List Int} {rs : List DL.Row}
/-- the law's table -/
def tabD (vs : List Int) (rs : List DL.Row) : Dv := .dic [(.inr "values", .lst (vs.map .int)), (.inr "steps", .lst (rs.map fun r => .dic (rowK r)))]
theorem tab_values : gGet (.val (tabD vs rs)) (.val (.str "values")) L = some (.val (.lst (vs.map .int))) := rfl
theorem tab_steps : gGet (.val (tabD vs rs)) (.val (.str "steps")) L = some (.val (.lst (rs.map fun r => .dic (rowK r)))) := rfl
theorem h15 {α : Type} (a b : α) : [a, b].length ≤ 15 := show 2 ≤ 15 by decide
/-- a table: values, rows with the letters as keys -/
structure TOk (vs : List Int) (zs : List Str) (rs : List DL.Row) : Prop where
  len : rs.length = vs.length
  pos : 1 ≤ vs.length
  most : vs.length ≤ 6
  rows : ∀ r ∈ rs, RowOk vs.length zs r
  vals : ∀ v ∈ vs, -1 ≤ v ∧ v < 4
theorem table_ok (hp : PotAt L p) (hz : zs.length ≤ 8) (hd : zs.Nodup) : ∃ (vs : List Int) (rs : List DL.Row) (L' : Led), m_l_table [.val (.own p), .val (.lst (zs.map .str)), .val (.int 6)] L = .ok (tabD vs rs) L' ∧ TOk vs zs rs ∧ Gr p L L' := by
  unfold m_l_table
  rw [mOf_eq]
  show ∃ (vs : List Int) (rs : List DL.Row) (L' : Led), endOf (fb_l_table [some (.val (.own p)), some (.val (.lst (zs.map .str))), some (.val (.int 6)), none, none, none, none, none, none, none, none] L) = _ ∧ _
  obtain ⟨m, L1, e1, m0, m1, hp1⟩ := digit_pt (n := 6) hp (by decide) (by decide)
  obtain ⟨many, hmany⟩ : ∃ many : Nat, 1 + m = (many : Int) := ⟨(1 + m).toNat, by omega⟩
  obtain ⟨t, L2, e2, t0, t4, hp2⟩ := digit_pt (n := 4) hp1.1 (by decide) (by decide)
  have hm0 : 0 < many := by omega
  have hm6 : many ≤ 6 := by omega
  have s0 : b_l_table_0 [some (.val (.own p)), some (.val (.lst (zs.map .str))), some (.val (.int 6)), none, none, none, none, none, none, none, none] L = .ok (.nx [some (.val (.own p)), some (.val (.lst (zs.map .str))), some (.val (.int 6)), some (.val (.int (many : Int))), some (.val (.lst W3)), none, none, none, none, none, none]) L1 := by
    have h3 : 3 ≤ sizeLine := sz_le (by omega)
    rw [← hmany]
    simp [b_l_table_0, e1, h3, W3]
  have s1 : b_l_table_1 [some (.val (.own p)), some (.val (.lst (zs.map .str))), some (.val (.int 6)), some (.val (.int (many : Int))), some (.val (.lst W3)), none, none, none, none, none, none] L1 = .ok (.nx [some (.val (.own p)), some (.val (.lst (zs.map .str))), some (.val (.int 6)), some (.val (.int (many : Int))), some (.val (.lst W3)), some (.val (.int t)), some (.mu (([] : List DL.Row).map fun r => .dic (rowK r))), none, none, none, none]) L2 := by
    simp [b_l_table_1, e2]
  obtain ⟨ρ', L3, e3, rs, o7, o8, o9, o10, rfl, hk, hrs, hp3⟩ := fl_inv (T := .one 7) (fb := sSeq b_l_table_2 (sSeq b_l_table_5 (gFrz 8 b_l_table_6)))
    (Inv := fun k ρ L' => ∃ (rs : List DL.Row) (o7 o8 o9 o10 : Option Sv), ρ = [some (.val (.own p)), some (.val (.lst (zs.map .str))), some (.val (.int 6)), some (.val (.int (many : Int))), some (.val (.lst W3)), some (.val (.int t)), some (.mu (rs.map fun r => .dic (rowK r))), o7, o8, o9, o10] ∧ rs.length = k ∧ (∀ r ∈ rs, RowOk many zs r) ∧ Gr p L2 L')
    (upF 0 many) 0 (fun i d hdi ρ LL I => by
      obtain ⟨rs, o7, o8, o9, o10, rfl, hk, hrs, hg⟩ := I
      have hi : i < many := by have := (List.getElem?_eq_some_iff.mp hdi).1; rw [up_len] at this; exact this
      obtain ⟨ys, L4, e4, hperm, hg4⟩ := mixed_ok (zs := zs) hg.pot (by omega)
      have hyd : ys.Nodup := hperm.nodup_iff.mpr hd
      obtain ⟨r', o9', o10', L5, e5, hkeys, hst, hp5⟩ := tb5_ok (X1 := some (.val (.lst (zs.map .str)))) (X2 := some (.val (.int 6))) (S6 := some (.mu (rs.map fun r => .dic (rowK r)))) (o7 := some (.val d)) (t := t) (many := many) hg4.pot hm0 (by omega) t0 t4 ys [] L4 o9 o10 hg4.pot (by simpa using hyd) (by have := hperm.length_eq; simp; omega) (by simp)
      simp only [List.map_nil, List.nil_append] at hkeys
      refine ⟨_, [some (.val (.own p)), some (.val (.lst (zs.map .str))), some (.val (.int 6)), some (.val (.int (many : Int))), some (.val (.lst W3)), some (.val (.int t)), some (.mu ((rs ++ [r']).map fun r => .dic (rowK r))), some (.val d), some (.val (.dic (rowK r'))), o9', o10'], L5, rfl, ?_, rs ++ [r'], some (.val d), some (.val (.dic (rowK r'))), o9', o10', rfl, by simp [hk], ?_, (hg.trans hg4).trans hp5.gr⟩
      · show sSeq b_l_table_2 (sSeq b_l_table_5 (gFrz 8 b_l_table_6)) [some (.val (.own p)), some (.val (.lst (zs.map .str))), some (.val (.int 6)), some (.val (.int (many : Int))), some (.val (.lst W3)), some (.val (.int t)), some (.mu (rs.map fun r => .dic (rowK r))), some (.val d), o8, o9, o10] LL = _
        have t2 : b_l_table_2 [some (.val (.own p)), some (.val (.lst (zs.map .str))), some (.val (.int 6)), some (.val (.int (many : Int))), some (.val (.lst W3)), some (.val (.int t)), some (.mu (rs.map fun r => .dic (rowK r))), some (.val d), o8, o9, o10] LL = .ok (.nx [some (.val (.own p)), some (.val (.lst (zs.map .str))), some (.val (.int 6)), some (.val (.int (many : Int))), some (.val (.lst W3)), some (.val (.int t)), some (.mu (rs.map fun r => .dic (rowK r))), some (.val d), some (.muD (rowK [])), o9, o10]) LL := rfl
        have t5 : b_l_table_5 [some (.val (.own p)), some (.val (.lst (zs.map .str))), some (.val (.int 6)), some (.val (.int (many : Int))), some (.val (.lst W3)), some (.val (.int t)), some (.mu (rs.map fun r => .dic (rowK r))), some (.val d), some (.muD (rowK [])), o9, o10] LL = .ok (.nx [some (.val (.own p)), some (.val (.lst (zs.map .str))), some (.val (.int 6)), some (.val (.int (many : Int))), some (.val (.lst W3)), some (.val (.int t)), some (.mu (rs.map fun r => .dic (rowK r))), some (.val d), some (.muD (rowK r')), o9', o10']) L5 := by
          simp only [b_l_table_5, ev_for, ev_iV, ev_call, ev_args, ev_args0, ev_var]
          simp only [List.getElem?_cons_succ, List.getElem?_cons_zero, read_val, Res.bind_ok, List.length_cons, List.length_nil, if_true, e4, Res.at_ok, toSv_ok, src_l, give_some, e5]
        have t6 : b_l_table_6 [some (.val (.own p)), some (.val (.lst (zs.map .str))), some (.val (.int 6)), some (.val (.int (many : Int))), some (.val (.lst W3)), some (.val (.int t)), some (.mu (rs.map fun r => .dic (rowK r))), some (.val d), some (.val (.dic (rowK r'))), o9', o10'] L5 = .ok (.nx [some (.val (.own p)), some (.val (.lst (zs.map .str))), some (.val (.int 6)), some (.val (.int (many : Int))), some (.val (.lst W3)), some (.val (.int t)), some (.mu ((rs ++ [r']).map fun r => .dic (rowK r))), some (.val d), some (.val (.dic (rowK r'))), o9', o10']) L5 := by
          have hlt : rs.length < sizeLine := by rw [sizeLine_eq]; omega
          simp [b_l_table_6, hlt]
        simp only [ev_seq, t2, Res.bind, t5, ev_frz]
        simp only [List.getElem?_cons_succ, List.getElem?_cons_zero, List.set_cons_succ, List.set_cons_zero, t6]
      · intro r hr
        rcases List.mem_append.mp hr with hr | hr
        · exact hrs r hr
        · rw [List.mem_singleton.mp hr]; exact ⟨by rw [hkeys]; exact hperm, hst⟩)
    [some (.val (.own p)), some (.val (.lst (zs.map .str))), some (.val (.int 6)), some (.val (.int (many : Int))), some (.val (.lst W3)), some (.val (.int t)), some (.mu (([] : List DL.Row).map fun r => .dic (rowK r))), none, none, none, none] L2 ⟨[], none, none, none, none, rfl, rfl, by simp, Gr.refl hp2.1⟩
  rw [up_len, Nat.zero_add] at hk
  have s7 : b_l_table_7 [some (.val (.own p)), some (.val (.lst (zs.map .str))), some (.val (.int 6)), some (.val (.int (many : Int))), some (.val (.lst W3)), some (.val (.int t)), some (.mu (([] : List DL.Row).map fun r => .dic (rowK r))), none, none, none, none] L2 = .ok (.nx [some (.val (.own p)), some (.val (.lst (zs.map .str))), some (.val (.int 6)), some (.val (.int (many : Int))), some (.val (.lst W3)), some (.val (.int t)), some (.mu (rs.map fun r => .dic (rowK r))), o7, o8, o9, o10]) L3 := by
    have hR := iR1_eq (fa := dVar 3) (ρ := [some (.val (.own p)), some (.val (.lst (zs.map .str))), some (.val (.int 6)), some (.val (.int (many : Int))), some (.val (.lst W3)), some (.val (.int t)), some (.mu (([] : List DL.Row).map fun r => .dic (rowK r))), none, none, none, none]) (L := L2) (j := (many : Int)) rfl (rg_small (by omega) (by omega))
    rw [Int.toNat_natCast] at hR
    simp only [b_l_table_7, ev_for, hR, Res.bind_ok, if_true]
    exact e3
  obtain ⟨vds, L4, e4, hvl, hvs, hg4⟩ := cl_each (T := .one 7) (ft := dTr) (fe := ce_l_table_8) (ρ := [some (.val (.own p)), some (.val (.lst (zs.map .str))), some (.val (.int 6)), some (.val (.int (many : Int))), some (.val (.lst W3)), some (.val (.int t)), some (.val (.lst (rs.map fun r => .dic (rowK r)))), none, o8, o9, o10]) (Inv := fun L' => Gr p L3 L') (Pd := fun d => ∃ v : Int, d = .int v ∧ (-1 ≤ v ∧ v < 4)) (upF 0 many) (fun d _ LL I => by
    obtain ⟨v, L5, e5, v0, v4, hp5⟩ := digit_pt (n := 4) I.pot (by decide) (by decide)
    exact ⟨_, .int (v - 1), L5, rfl, rfl, by simp [ce_l_table_8, e5], ⟨v - 1, rfl, by omega, by omega⟩, I.trans hp5.gr⟩) [] L3 (Gr.refl hp3.pot) (by rw [up_len, sizeLine_eq]; simp; omega)
  obtain ⟨vs, rfl, hvq⟩ := map_of hvs
  rw [List.length_map, up_len] at hvl
  refine ⟨vs, rs, L4, ?_, ⟨by omega, by omega, by omega, by rw [hvl]; exact hrs, hvq⟩, ((hp1.gr.trans hp2.gr).trans hp3).trans hg4⟩
  have s9 : b_l_table_9 [some (.val (.own p)), some (.val (.lst (zs.map .str))), some (.val (.int 6)), some (.val (.int (many : Int))), some (.val (.lst W3)), some (.val (.int t)), some (.val (.lst (rs.map fun r => .dic (rowK r)))), o7, o8, o9, o10] L3 = .ok (.rt (tabD vs rs)) L4 := by
    have hR := iR1_eq (fa := dVar 3) (ρ := [some (.val (.own p)), some (.val (.lst (zs.map .str))), some (.val (.int 6)), some (.val (.int (many : Int))), some (.val (.lst W3)), some (.val (.int t)), some (.val (.lst (rs.map fun r => .dic (rowK r)))), o7, o8, o9, o10]) (L := L3) (j := (many : Int)) rfl (rg_small (by omega) (by omega))
    rw [Int.toNat_natCast] at hR
    simp only [List.nil_append] at e4
    exact ret_ok (dic2_ok (lc_ok hR e4) rfl (by decide))
  unfold fb_l_table
  rw [seq_nx s0, seq_nx s1, seq_nx s7, frz_mu (xs := rs.map fun r => .dic (rowK r)) rfl]
  exact congrArg endOf s9
end
end K12

namespace K12
open PySem PySem.Spec PyProof.Rows L2 DL
/-! the law's own runs, words, and what is due -/
theorem getD_map {rs : List DL.Row} {ss : List Str} {i : Nat} (h : i < rs.length) : (rs.map (norm ss)).getD i [] = norm ss (rs.getD i []) := by
  rw [List.getD_eq_getElem?_getD, List.getD_eq_getElem?_getD, List.getElem?_map, List.getElem?_eq_getElem h]
  rfl
theorem getD_mem {rs : List DL.Row} {i : Nat} (h : i < rs.length) : rs[i]? = some (rs.getD i []) ∧ rs.getD i [] ∈ rs := by
  rw [List.getD_eq_getElem?_getD, List.getElem?_eq_getElem h]
  exact ⟨rfl, List.getElem_mem _⟩
/-- runs by the rows, whatever their sequence -/
theorem runF_norm {rs : List DL.Row} {ss : List Str} {many : Nat} (hl : rs.length = many) (hr : ∀ r ∈ rs, RowOk many ss r) : ∀ (ws : List Str) (i : Nat), i < many → (∀ w ∈ ws, w ∈ ss) → runF (rs.map (norm ss)) i ws = runF rs i ws
  | [], i, _, _ => rfl
  | w :: ws, i, hi, h => by
    have hw := h w (by simp)
    have e : rget ((rs.map (norm ss)).getD i []) w = rget (rs.getD i []) w := by rw [getD_map (by omega), rget_norm hw]
    have hs := (rget_ok (hr _ (getD_mem (by omega : i < rs.length)).2) hw).1
    have ih := runF_norm hl hr ws (rget (rs.getD i []) w).1 hs.lt (fun x hx => h x (by simp [hx]))
    simp only [runF, e, ih]
section
variable {L : Led} {p i : Nat} {zs ws : List Str} {vs : List Int} {rs : List DL.Row} {T : Dv}
theorem run_law (hT : ∀ L, gGet (.val T) (.val (.str "steps")) L = some (.val (.lst (rs.map fun r => .dic (rowK r))))) {many : Nat} (hl : rs.length = many) (hr : ∀ r ∈ rs, RowOk many zs r) (hi : i < many) (hw : ∀ w ∈ ws, w ∈ zs) (hn : ws.length ≤ 100000) : m_l_run [.val T, .val (.int (i : Int)), .val (.tup (ws.map .str))] L = .ok (runD (runF rs i ws)) L := by
  unfold m_l_run
  rw [mOf_eq]
  show endOf (fb_l_run [some (.val T), some (.val (.int (i : Int))), some (.val (.tup (ws.map .str))), none, none, none] L) = _
  generalize hS : Dv.tup (ws.map .str) = S
  have s0 : b_l_run_0 [some (.val T), some (.val (.int (i : Int))), some (.val S), none, none, none] L = .ok (.nx [some (.val T), some (.val (.int (i : Int))), some (.val S), some (.mu (([] : List Str).map .str)), none, none]) L := by
    simp [b_l_run_0]
  have key : ∀ (bs : List Str) (j : Nat) (as : List Str) (o4 o5 : Option Sv), j < many → (∀ w ∈ bs, w ∈ zs) → as.length + bs.length ≤ 100000 → ∃ o4' o5', fLoop (.one 4) (sSeq b_l_run_1 b_l_run_3) (bs.map .str) [some (.val T), some (.val (.int (j : Int))), some (.val S), some (.mu (as.map .str)), o4, o5] L = .ok (.nx [some (.val T), some (.val (.int ((runF rs j bs).1 : Int))), some (.val S), some (.mu ((as ++ (runF rs j bs).2).map .str)), o4', o5']) L ∧ (runF rs j bs).2.length ≤ bs.length := by
    intro bs
    induction bs with
    | nil => intro j as o4 o5 _ _ _; exact ⟨o4, o5, by simp [runF, fLoop], by simp [runF]⟩
    | cons b bs ih =>
      intro j as o4 o5 hj hb hal
      have hz := hb b (by simp)
      obtain ⟨hro, hst⟩ : rs[j]? = some (rs.getD j []) ∧ rs.getD j [] ∈ rs := getD_mem (by omega)
      obtain ⟨hs, hm⟩ := rget_ok (hr _ hst) hz
      have hgr : gIx (.val (.lst (rs.map fun r => .dic (rowK r)))) (.val (.int (j : Int))) L = some (.val (.dic (rowK (rs.getD j [])))) := sq_ix sq_lst0 (by
        rw [List.getElem?_map, hro]; rfl)
      have hgs : gGet (.val (.dic (rowK (rs.getD j [])))) (.val (.str b)) L = some (.val (stD (rget (rs.getD j []) b))) := row_getS row_dic (rget_look hm)
      have t1 : b_l_run_1 [some (.val T), some (.val (.int (j : Int))), some (.val S), some (.mu (as.map .str)), some (.val (.str b)), o5] L = .ok (.nx [some (.val T), some (.val (.int ((rget (rs.getD j []) b).1 : Int))), some (.val S), some (.mu (as.map .str)), some (.val (.str b)), some (.val (outD (rget (rs.getD j []) b).2))]) L := by
        unfold stD at hgs
        generalize (rget (rs.getD j []) b).1 = q1 at hgs
        generalize (rget (rs.getD j []) b).2 = q2 at hgs
        generalize Dv.dic (rowK (rs.getD j [])) = R at hgr hgs
        generalize (j : Int) = jj at hgr
        simp [b_l_run_1, hT, hgr, hgs]
      have t2 : b_l_run_3 [some (.val T), some (.val (.int ((rget (rs.getD j []) b).1 : Int))), some (.val S), some (.mu (as.map .str)), some (.val (.str b)), some (.val (outD (rget (rs.getD j []) b).2))] L = .ok (.nx [some (.val T), some (.val (.int ((rget (rs.getD j []) b).1 : Int))), some (.val S), some (.mu ((as ++ (rget (rs.getD j []) b).2.toList).map .str)), some (.val (.str b)), some (.val (outD (rget (rs.getD j []) b).2))]) L := by
        simp only [List.length_cons] at hal
        cases ho : (rget (rs.getD j []) b).2 with
        | none =>
          have hx : gIsN true (.val .non) (.val .non) L = some (.val (.bl false)) := rfl
          simp [b_l_run_3, outD, hx]
        | some z =>
          have hx : gIsN true (.val (.str z)) (.val .non) L = some (.val (.bl true)) := rfl
          have hlt : as.length < sizeLine := by rw [sizeLine_eq]; omega
          simp [b_l_run_3, b_l_run_2, outD, hx, hlt]
      have hto : (rget (rs.getD j []) b).2.toList.length ≤ 1 := by cases (rget (rs.getD j []) b).2 <;> simp
      obtain ⟨o4', o5', r, hle⟩ := ih (rget (rs.getD j []) b).1 (as ++ (rget (rs.getD j []) b).2.toList) (some (.val (.str b))) (some (.val (outD (rget (rs.getD j []) b).2))) hs.lt (fun w h => hb w (by simp [h])) (by
        simp only [List.length_cons] at hal
        rw [List.length_append]; omega)
      refine ⟨o4', o5', ?_, by simp only [runF, List.length_append, List.length_cons]; omega⟩
      have hset : Tg.set (.one 4) (.str b) [some (.val T), some (.val (.int (j : Int))), some (.val S), some (.mu (as.map .str)), o4, o5] = some [some (.val T), some (.val (.int (j : Int))), some (.val S), some (.mu (as.map .str)), some (.val (.str b)), o5] := rfl
      simp only [List.map_cons, fLoop, hset, ev_seq, t1, t2, Res.bind, r]
      simp only [runF, List.append_assoc]
  obtain ⟨o4, o5, e, hle⟩ := key ws i [] none none hi hw (by simpa using hn)
  rw [List.nil_append] at e
  have s4 : b_l_run_4 [some (.val T), some (.val (.int (i : Int))), some (.val S), some (.mu (([] : List Str).map .str)), none, none] L = .ok (.nx [some (.val T), some (.val (.int ((runF rs i ws).1 : Int))), some (.val S), some (.mu ((runF rs i ws).2.map .str)), o4, o5]) L := by
    refine for_ok (items := ws.map .str) (L1 := L) ?_ e
    subst hS
    rfl
  have ht : gTuple [.val (.lst ((runF rs i ws).2.map .str))] L = some (.val (.tup ((runF rs i ws).2.map .str))) := sq_tuple sq_lst0 (sz_le (by rw [List.length_map]; omega))
  have s5 : b_l_run_5 [some (.val T), some (.val (.int ((runF rs i ws).1 : Int))), some (.val S), some (.val (.lst ((runF rs i ws).2.map .str))), o4, o5] L = .ok (.rt (runD (runF rs i ws))) L := ret_ok (tup_ok (args_ok (s := .val (.int ((runF rs i ws).1 : Int))) rfl (args1_ok (bi_ok (args1_ok rfl) ht))) rfl two_sz)
  unfold fb_l_run
  rw [seq_nx s0, seq_nx s4, frz_mu (xs := (runF rs i ws).2.map .str) rfl]
  exact congrArg endOf s5
theorem word_law (hp : PotAt L p) (hz : 1 ≤ zs.length) (hz8 : zs.length ≤ 1000) : ∃ (ws : List Str) (L' : Led), m_l_word [.val (.own p), .val (.lst (zs.map .str)), .val (.int 12)] L = .ok (.tup (ws.map .str)) L' ∧ ws.length ≤ 12 ∧ (∀ w ∈ ws, w ∈ zs) ∧ Pt p L L' := by
  unfold m_l_word
  rw [mOf_eq]
  show ∃ (ws : List Str) (L' : Led), endOf (fb_l_word [some (.val (.own p)), some (.val (.lst (zs.map .str))), some (.val (.int 12)), none] L) = _ ∧ _
  obtain ⟨n, L1, e1, n0, n13, hp1⟩ := digit_pt (n := 13) hp (by decide) (by decide)
  obtain ⟨rs, L2, e2, hl, hrs, hp2⟩ := cl_each (T := .one 3) (ft := dTr) (fe := ce_l_word_0) (ρ := [some (.val (.own p)), some (.val (.lst (zs.map .str))), some (.val (.int 12)), none]) (Inv := fun L' => Pt p L1 L') (Pd := fun d => ∃ w : Str, d = .str w ∧ w ∈ zs) (upF 0 n.toNat) (fun d _ LL I => by
    obtain ⟨d', L3, e3, hd, hp3⟩ := pick_l (xs := zs.map .str) I.1 (by
      intro h
      rw [List.map_eq_nil_iff] at h
      subst h
      simp at hz) (by rw [List.length_map]; omega)
    obtain ⟨w, hw, rfl⟩ := List.mem_map.mp hd
    exact ⟨_, .str w, L3, rfl, rfl, by simp [ce_l_word_0, e3], ⟨w, rfl, hw⟩, I.trans hp3⟩) [] L1 (Pt.refl hp1.1) (by rw [up_len, sizeLine_eq]; simp; omega)
  obtain ⟨ws, rfl, hws⟩ := map_of hrs
  rw [List.length_map, up_len] at hl
  refine ⟨ws, L2, ?_, by omega, hws, hp1.trans hp2⟩
  have hd : dCall 2 m_l_digit (dArgs (dVar 0) (dArgs (dOp gAdd (dVar 2) (dC (.int 1))) dArgs0)) [some (.val (.own p)), some (.val (.lst (zs.map .str))), some (.val (.int 12)), none] L = .ok (.val (.int n)) L1 := call_ok (args_ok (s := .val (.own p)) rfl (args1_ok (op_ok (s := .val (.int 13)) rfl rfl rfl))) rfl e1
  have hR := iR1_eq hd (rg_small n0 (by omega))
  have ht : gTuple [.val (.lst (ws.map .str))] L2 = some (.val (.tup (ws.map .str))) := sq_tuple sq_lst0 (sz_le (by rw [List.length_map]; omega))
  have s1 : fb_l_word [some (.val (.own p)), some (.val (.lst (zs.map .str))), some (.val (.int 12)), none] L = .ok (.rt (.tup (ws.map .str))) L2 := ret_ok (bi_ok (args1_ok (lc_ok hR e2)) ht)
  rw [s1]
  rfl
end
end K12

namespace K12
open PySem PySem.Spec PyProof.Rows L2 DL
/-! what is shown and what is due -/
def stepsD (zs : List Str) (rs : List DL.Row) : Dv := .lst (rs.map fun r => .lst (zs.map fun z => stD (rget r z)))
def dueD (vs : List Int) (zs ss : List Str) (rs cs : List DL.Row) : Dv := .lst [.int vs.length, .lst (ss.map .str), .bl (silent cs), .lst (vs.map .int), stepsD zs rs, .str (mText vs ss)]
theorem list_range {α : Type} (f : Nat → α) : ∀ (l : List α), (∀ i, i < l.length → some (f i) = l[i]?) → (List.range l.length).map f = l := by
  intro l h
  apply List.ext_getElem?
  intro i
  rw [List.getElem?_map]
  by_cases hi : i < l.length
  · rw [List.getElem?_range hi, ← h i hi]; rfl
  · rw [List.getElem?_eq_none (by simpa using hi), List.getElem?_eq_none (by simpa using hi)]; rfl
section
variable {L : Led} {p i : Nat} {zs ss ws : List Str} {vs : List Int} {rs : List DL.Row} {T X : Dv}
theorem iR1_var {ρ : Slo} {j : Nat} {n : Int} (h : ρ[j]? = some (some (.val (.int n)))) (h0 : 0 ≤ n) (h1 : n ≤ 100000) : iR1 (dVar j) ρ L = .ok ⟨upF 0 n.toNat, true⟩ L := iR1_eq (by unfold dVar; rw [h]; rfl) (rg_small h0 h1)
theorem shown_ok (H : IsM X vs ss (rs.map (norm ss))) (M : MOk vs ss (rs.map (norm ss))) (hp : ss.Perm zs) : m_l_shown [.val X, .val (.lst (zs.map .str))] L = .ok (dueD vs zs ss rs (rs.map (norm ss))) (L ++ [.gone]) := by
  unfold m_l_shown
  rw [mOf_eq]
  show endOf (fb_l_shown [some (.val X), some (.val (.lst (zs.map .str))), none, none, none, none] L) = _
  have hlen : rs.length = vs.length := by have := M.len; simpa using this
  have hm := M.most
  have hzl : zs.length ≤ 8 := by have := hp.length_eq; have := M.eight; omega
  have hlo := own_len (L := L) H hm
  have hbl : ∀ {ρ : Slo}, ρ[0]? = some (some (.val X)) → dBiO "__len__" [("Machine", m_Machine___len__)] chkLen gLen (dArgs (dVar 0) dArgs0) ρ L = .ok (.val (.int vs.length)) L := fun {ρ} h => by
    unfold dBiO
    rw [args1_ok (s := .val X) (L1 := L) (by unfold dVar; rw [h]; rfl)]
    show (match (Sv.val X).ob L with
      | some _ => dOwn "__len__" [("Machine", m_Machine___len__)] chkLen (.val X) L
      | none => give (gLen [.val X] L) L) = _
    rw [H.ob L]
    exact hlo
  have s0 : b_l_shown_0 [some (.val X), some (.val (.lst (zs.map .str))), none, none, none, none] L = .ok (.nx [some (.val X), some (.val (.lst (zs.map .str))), some (.val (.int vs.length)), none, none, none]) L := set_ok (hbl rfl)
  have s3 : b_l_shown_3 [some (.val X), some (.val (.lst (zs.map .str))), some (.val (.int vs.length)), none, none, none] L = .ok (.nx [some (.val X), some (.val (.lst (zs.map .str))), some (.val (.int vs.length)), some (.val (stepsD zs rs)), none, none]) L := by
    have c := cl_all (T := .one 4) (ft := dTr) (fe := ce_l_shown_2) (ρ := [some (.val X), some (.val (.lst (zs.map .str))), some (.val (.int vs.length)), none, none, none]) (L := L) (fun i : Nat => Dv.int (i : Int)) (fun i => .lst (zs.map fun z => stD (rget (rs.getD i []) z))) (List.range vs.length) (fun i hi => by
      have hi' : i < vs.length := by simpa using hi
      refine ⟨_, rfl, rfl, ?_⟩
      have c2 := cl_all (T := .one 5) (ft := dTr) (fe := ce_l_shown_1) (ρ := [some (.val X), some (.val (.lst (zs.map .str))), some (.val (.int vs.length)), none, some (.val (.int (i : Int))), none]) (L := L) Dv.str (fun z => stD (rget (rs.getD i []) z)) zs (fun z hz => by
        have hzs : z ∈ ss := hp.mem_iff.mpr hz
        refine ⟨_, rfl, rfl, ?_⟩
        have hv := step_val (L := L) H M hi' hzs
        rw [getD_map (by omega), rget_norm hzs] at hv
        exact meth_ok (o := .val X) (ss := [.val (.int (i : Int)), .val (.str z)]) rfl (H.sStep L) rfl rfl hv) (sz_le (by omega))
      exact lc_ok (b := true) (items := zs.map .str) rfl c2) (sz_le (by rw [List.length_range]; omega))
    have e : (List.range vs.length).map (fun i => Dv.lst (zs.map fun z => stD (rget (rs.getD i []) z))) = rs.map fun r => .lst (zs.map fun z => stD (rget r z)) := by
      have := list_range (fun i => Dv.lst (zs.map fun z => stD (rget (rs.getD i []) z))) (rs.map fun r => .lst (zs.map fun z => stD (rget r z))) (fun i hi => by
        rw [List.length_map] at hi
        rw [List.getElem?_map, (getD_mem hi).1]; rfl)
      rwa [List.length_map, hlen] at this
    rw [e] at c
    have hR := iR1_var (L := L) (ρ := [some (.val X), some (.val (.lst (zs.map .str))), some (.val (.int vs.length)), none, none, none]) (j := 2) (n := vs.length) rfl (by omega) (by omega)
    rw [Int.toNat_natCast, up_map] at hR
    exact set_ok (lc_ok hR c)
  have s5 : b_l_shown_5 [some (.val X), some (.val (.lst (zs.map .str))), some (.val (.int vs.length)), some (.val (stepsD zs rs)), none, none] L = .ok (.rt (dueD vs zs ss rs (rs.map (norm ss)))) (L ++ [.gone]) := by
    have hal : dFrz (dMeth "alphabet" 0 [("Machine", m_Machine_alphabet)] (dVar 0) dArgs0) [some (.val X), some (.val (.lst (zs.map .str))), some (.val (.int vs.length)), some (.val (stepsD zs rs)), none, none] L = .ok (.val (.lst (ss.map .str))) (L ++ [.gone]) := by
      have h1 := meth_ok (n := 0) (fo := dVar 0) (fr := dArgs0) (ρ := [some (.val X), some (.val (.lst (zs.map .str))), some (.val (.int vs.length)), some (.val (stepsD zs rs)), none, none]) (L := L) (o := .val X) (ss := []) rfl (H.sAlp L) rfl rfl (alphabet_val H M.eight)
      unfold dFrz
      rw [h1]
      show frzV (.val (.own L.length)) (L ++ [.lst (ss.map .str)]) = _
      unfold frzV
      simp
    have hsi : ∀ L, dProp "is_silent" [("Machine", m_Machine_is_silent)] (dVar 0) [some (.val X), some (.val (.lst (zs.map .str))), some (.val (.int vs.length)), some (.val (stepsD zs rs)), none, none] L = .ok (.val (.bl (silent (rs.map (norm ss))))) L := fun L => by
      unfold dProp
      show (match (Sv.val X).ob L with
        | some (c, _) => match ([("Machine", m_Machine_is_silent)] : List (Str × Mir)).lookup c with
          | some m => toSv (noErr (m [.val X] L))
          | none => .bad
        | none => .bad) = _
      rw [H.ob L]
      show toSv (noErr (m_Machine_is_silent [.val X] L)) = _
      rw [silent_val H]
      rfl
    have c := fun L => cl_all (T := .one 4) (ft := dTr) (fe := ce_l_shown_4) (ρ := [some (.val X), some (.val (.lst (zs.map .str))), some (.val (.int vs.length)), some (.val (stepsD zs rs)), none, none]) (L := L) (fun i : Nat => Dv.int (i : Int)) (fun i => .int (vs.getD i 0)) (List.range vs.length) (fun i hi => by
      have hi' : i < vs.length := by simpa using hi
      exact ⟨_, rfl, rfl, meth_ok (o := .val X) (ss := [.val (.int (i : Int))]) rfl (H.sVal L) rfl rfl (value_of_ok H hi' hm)⟩) (sz_le (by rw [List.length_range]; omega))
    have e : (List.range vs.length).map (fun i => Dv.int (vs.getD i 0)) = vs.map .int := by
      have := list_range (fun i => Dv.int (vs.getD i 0)) (vs.map .int) (fun i hi => by
        rw [List.length_map] at hi
        rw [List.getElem?_map, List.getD_eq_getElem?_getD, List.getElem?_eq_getElem hi]; rfl)
      rwa [List.length_map] at this
    rw [e] at c
    have hR := fun L => iR1_var (L := L) (ρ := [some (.val X), some (.val (.lst (zs.map .str))), some (.val (.int vs.length)), some (.val (stepsD zs rs)), none, none]) (j := 2) (n := vs.length) rfl (by omega) (by omega)
    simp only [Int.toNat_natCast, up_map] at hR
    have hrp : ∀ L, dBiO "__repr__" [("Machine", m_Machine___repr__)] chkStr gRepr (dArgs (dVar 0) dArgs0) [some (.val X), some (.val (.lst (zs.map .str))), some (.val (.int vs.length)), some (.val (stepsD zs rs)), none, none] L = .ok (.val (.str (mText vs ss))) L := fun L => by
      unfold dBiO
      show (match (Sv.val X).ob L with
        | some _ => dOwn "__repr__" [("Machine", m_Machine___repr__)] chkStr (.val X) L
        | none => give (gRepr [.val X] L) L) = _
      rw [H.ob L]
      exact own_repr H M
    exact ret_ok (lst_ok (ss := [.val (.int vs.length), .val (.lst (ss.map .str)), .val (.bl (silent (rs.map (norm ss)))), .val (.lst (vs.map .int)), .val (stepsD zs rs), .val (.str (mText vs ss))]) (args_ok (L1 := L) (s := .val (.int vs.length)) rfl (args_ok hal (args_ok (hsi _) (args_ok (lc_ok (hR _) (c _)) (args_ok (s := .val (stepsD zs rs)) rfl (args1_ok (hrp _))))))) rfl (sz_le (by show 6 ≤ _; omega)))
  unfold fb_l_shown
  rw [seq_nx s0, seq_nx s3]
  exact congrArg endOf s5
end
end K12

namespace K12
open PySem PySem.Spec PyProof.Rows L2 DL
/-! what is due; runs by the machine and by the law -/
section
variable {L : Led} {p i : Nat} {zs ss ws : List Str} {vs : List Int} {rs : List DL.Row} {T X : Dv}
/-- what a table's value tells -/
structure IsT (T : Dv) (vs : List Int) (rs : List DL.Row) : Prop where
  v : ∀ L, gGet (.val T) (.val (.str "values")) L = some (.val (.lst (vs.map .int)))
  s : ∀ L, gGet (.val T) (.val (.str "steps")) L = some (.val (.lst (rs.map fun r => .dic (rowK r))))
theorem isT_tab : IsT (tabD vs rs) vs rs := ⟨fun _ => rfl, fun _ => rfl⟩
theorem sorted_zs (h8 : zs.length ≤ 8) : gSorted [.val (.lst (zs.map .str))] L = some ((sortS zs).map .str) := by
  unfold gSorted
  simp only [Sv.seqL, Option.bind_some, strsOf_map]
  rw [if_pos (by omega)]
theorem silent_rows (hr : ∀ r ∈ rs, RowOk vs.length zs r) (hp : ss.Perm zs) : ((rs.map fun r => (zs.map fun z => (rget r z).2.isNone).all id).all id) = silent (rs.map (norm ss)) := by
  unfold silent norm
  rw [List.all_map, List.all_map]
  congr 1
  funext r
  simp only [Function.comp, List.all_map]
  show (zs.all fun z => (rget r z).2.isNone) = ss.all fun z => (rget r z).2.isNone
  rw [Bool.eq_iff_iff]
  simp only [List.all_eq_true]
  exact ⟨fun h z hz => h z (hp.mem_iff.mp hz), fun h z hz => h z (hp.mem_iff.mpr hz)⟩
theorem due_ok (HT : IsT T vs rs) (M : MOk vs ss (rs.map (norm ss))) (hr : ∀ r ∈ rs, RowOk vs.length zs r) (hss : ss = sortS zs) : m_l_due [.val T, .val (.lst (zs.map .str))] L = .ok (dueD vs zs ss rs (rs.map (norm ss))) L := by
  have hp : ss.Perm zs := by rw [hss]; exact sortS_perm zs
  have hlen : rs.length = vs.length := by have := M.len; simpa using this
  have hm := M.most
  have hzl : zs.length ≤ 8 := by have := hp.length_eq; have := M.eight; omega
  unfold m_l_due
  rw [mOf_eq]
  show endOf (fb_l_due [some (.val T), some (.val (.lst (zs.map .str))), none, none, none, none, none, none, none, none] L) = _
  have s0 : b_l_due_0 [some (.val T), some (.val (.lst (zs.map .str))), none, none, none, none, none, none, none, none] L = .ok (.nx [some (.val T), some (.val (.lst (zs.map .str))), some (.val (.lst (vs.map .int))), some (.val (.lst (rs.map fun r => .dic (rowK r)))), none, none, none, none, none, none]) L := by
    have hv := HT.v L
    have hs := HT.s L
    generalize Dv.lst (vs.map .int) = A at hv ⊢
    generalize Dv.lst (rs.map fun r => .dic (rowK r)) = B at hs ⊢
    simp [b_l_due_0, hv, hs]
  have s3 : b_l_due_3 [some (.val T), some (.val (.lst (zs.map .str))), some (.val (.lst (vs.map .int))), some (.val (.lst (rs.map fun r => .dic (rowK r)))), none, none, none, none, none, none] L = .ok (.nx [some (.val T), some (.val (.lst (zs.map .str))), some (.val (.lst (vs.map .int))), some (.val (.lst (rs.map fun r => .dic (rowK r)))), some (.val (stepsD zs rs)), none, none, none, none, none]) L := by
    have c := cl_all (T := .one 7) (ft := dTr) (fe := ce_l_due_2) (ρ := [some (.val T), some (.val (.lst (zs.map .str))), some (.val (.lst (vs.map .int))), some (.val (.lst (rs.map fun r => .dic (rowK r)))), none, none, none, none, none, none]) (L := L) (fun r : DL.Row => Dv.dic (rowK r)) (fun r => .lst (zs.map fun z => stD (rget r z))) rs (fun r hrr => by
      refine ⟨_, rfl, rfl, ?_⟩
      have c2 := cl_all (T := .one 8) (ft := dTr) (fe := ce_l_due_1) (ρ := [some (.val T), some (.val (.lst (zs.map .str))), some (.val (.lst (vs.map .int))), some (.val (.lst (rs.map fun r => .dic (rowK r)))), none, none, none, some (.val (.dic (rowK r))), none, none]) (L := L) Dv.str (fun z => stD (rget r z)) zs (fun z hz => by
        have hg := row_getS (L := L) (row_dic (ks := rowK r)) (rget_look (rget_ok (hr r hrr) hz).2)
        exact ⟨_, rfl, rfl, op_ok (a := .val (.dic (rowK r))) (b := .val (.str z)) rfl rfl hg⟩) (sz_le (by omega))
      exact lc_ok (b := true) (items := zs.map .str) rfl c2) (sz_le (by omega))
    exact set_ok (lc_ok (b := true) (items := rs.map fun r => .dic (rowK r)) rfl c)
  have s6 : b_l_due_6 [some (.val T), some (.val (.lst (zs.map .str))), some (.val (.lst (vs.map .int))), some (.val (.lst (rs.map fun r => .dic (rowK r)))), some (.val (stepsD zs rs)), none, none, none, none, none] L = .ok (.nx [some (.val T), some (.val (.lst (zs.map .str))), some (.val (.lst (vs.map .int))), some (.val (.lst (rs.map fun r => .dic (rowK r)))), some (.val (stepsD zs rs)), some (.val (.bl (silent (rs.map (norm ss))))), none, none, none, none]) L := by
    have c := cl_all (T := .one 7) (ft := dTr) (fe := ce_l_due_5) (ρ := [some (.val T), some (.val (.lst (zs.map .str))), some (.val (.lst (vs.map .int))), some (.val (.lst (rs.map fun r => .dic (rowK r)))), some (.val (stepsD zs rs)), none, none, none, none, none]) (L := L) (fun r : DL.Row => Dv.lst (zs.map fun z => stD (rget r z))) (fun r => Dv.bl ((zs.map fun z => (rget r z).2.isNone).all id)) rs (fun r hrr => by
      refine ⟨_, rfl, rfl, ?_⟩
      have c2 := cl_all (T := .one 9) (ft := dTr) (fe := ce_l_due_4) (ρ := [some (.val T), some (.val (.lst (zs.map .str))), some (.val (.lst (vs.map .int))), some (.val (.lst (rs.map fun r => .dic (rowK r)))), some (.val (stepsD zs rs)), none, none, some (.val (.lst (zs.map fun z => stD (rget r z)))), none, none]) (L := L) (fun z => stD (rget r z)) (fun z => Dv.bl (rget r z).2.isNone) zs (fun z hz => by
        exact ⟨_, rfl, rfl, op_ok (a := .val (outD (rget r z).2)) (b := .val .non) (op_ok (a := .val (stD (rget r z))) (b := .val (.int 1)) rfl rfl gIx_t1) rfl isN_out⟩) (sz_le (by omega))
      have ha := all_bl (bs := zs.map fun z => (rget r z).2.isNone) (L := L)
      rw [List.map_map] at ha
      exact bi_ok (args1_ok (lc_ok (b := true) (items := zs.map fun z => stD (rget r z)) rfl c2)) ha) (sz_le (by omega))
    have ha := all_bl (bs := rs.map fun r => (zs.map fun z => (rget r z).2.isNone).all id) (L := L)
    rw [List.map_map, silent_rows hr hp] at ha
    exact set_ok (bi_ok (args1_ok (lc_ok (b := true) (items := rs.map fun r => Dv.lst (zs.map fun z => stD (rget r z))) rfl c)) ha)
  obtain ⟨r1, r2, l1, l2, _, _⟩ := texts_fit M
  have a1 : (Str.ofString "Machine(").length = 8 := by decide +kernel
  have a2 : (Str.ofString ", ").length = 2 := by decide +kernel
  have a3 : (Str.ofString ")").length = 1 := by decide +kernel
  have hso := sorted_zs (zs := zs) (L := L) hzl
  rw [← hss] at hso
  have add : ∀ x y : Str, x.length + y.length ≤ 16777216 → gAdd (.val (.str x)) (.val (.str y)) L = some (.val (.str (x ++ y))) := fun x y h => if_pos (sz_le h)
  have s7 : b_l_due_7 [some (.val T), some (.val (.lst (zs.map .str))), some (.val (.lst (vs.map .int))), some (.val (.lst (rs.map fun r => .dic (rowK r)))), some (.val (stepsD zs rs)), some (.val (.bl (silent (rs.map (norm ss))))), none, none, none, none] L = .ok (.nx [some (.val T), some (.val (.lst (zs.map .str))), some (.val (.lst (vs.map .int))), some (.val (.lst (rs.map fun r => .dic (rowK r)))), some (.val (stepsD zs rs)), some (.val (.bl (silent (rs.map (norm ss))))), some (.val (.str (mText vs ss))), none, none, none]) L := by
    refine set_ok (op_ok (op_ok (op_ok (op_ok (a := .val (.str (Str.ofString "Machine("))) rfl (bi_ok (args1_ok (s := .val (.lst (vs.map .int))) rfl) (r1 L)) (add _ _ (by rw [a1]; omega))) (b := .val (.str (Str.ofString ", "))) rfl (add _ _ (by rw [app_len, a1, a2]; omega))) (bi_ok (args1_ok (biL_f (args1_ok (s := .val (.lst (zs.map .str))) rfl) hso)) (r2 L)) (add _ _ (by rw [app_len, app_len, a1, a2]; omega))) (b := .val (.str (Str.ofString ")"))) rfl (add _ _ (by rw [app_len, app_len, app_len, a1, a2, a3]; omega)))
  have s8 : b_l_due_8 [some (.val T), some (.val (.lst (zs.map .str))), some (.val (.lst (vs.map .int))), some (.val (.lst (rs.map fun r => .dic (rowK r)))), some (.val (stepsD zs rs)), some (.val (.bl (silent (rs.map (norm ss))))), some (.val (.str (mText vs ss))), none, none, none] L = .ok (.rt (dueD vs zs ss rs (rs.map (norm ss)))) L := by
    have hgl : gLen [.val (.lst (vs.map .int))] L = some (.val (.int vs.length)) := by
      have := sq_len (L := L) (s := .val (.lst (vs.map .int))) sq_lst0
      rwa [List.length_map] at this
    exact ret_ok (lst_ok (ss := [.val (.int vs.length), .val (.lst (ss.map .str)), .val (.bl (silent (rs.map (norm ss)))), .val (.lst (vs.map .int)), .val (stepsD zs rs), .val (.str (mText vs ss))]) (args_ok (bi_ok (args1_ok (s := .val (.lst (vs.map .int))) rfl) hgl) (args_ok (biL_f (args1_ok (s := .val (.lst (zs.map .str))) rfl) hso) rfl)) rfl (sz_le (by show 6 ≤ _; omega)))
  unfold fb_l_due
  rw [seq_nx s0, seq_nx s3, seq_nx s6, seq_nx s7]
  exact congrArg endOf s8
/-- what is due is small -/
theorem okB_due (M : MOk vs ss (rs.map (norm ss))) (hr : ∀ r ∈ rs, RowOk vs.length zs r) (hp : ss.Perm zs) (hl : (mText vs ss).length ≤ 21000) : OkB 30000 4 (dueD vs zs ss rs (rs.map (norm ss))) := by
  have hlen : rs.length = vs.length := by have := M.len; simpa using this
  have hm := M.most
  have hzl : zs.length ≤ 8 := by have := hp.length_eq; have := M.eight; omega
  have h1 : OkB 0 0 (.int (vs.length : Int)) := okB_int (by omega)
  have h2 : OkB (8 * (8 + 1)) 1 (.lst (ss.map .str)) := okB_map (fun z hz => okB_nm (M.names z hz)) M.eight
  have h3 : OkB 0 0 (.bl (silent (rs.map (norm ss)))) := okB_bl
  have h4 : OkB (64 * (0 + 1)) 1 (.lst (vs.map .int)) := okB_map (fun v hv => okB_int (M.vals v hv)) M.most
  have h5 : OkB (64 * (8 * (10 + 1) + 1)) 3 (stepsD zs rs) := okB_map (fun r hrr => okB_map (fun z hz => okB_st (rget_ok (hr r hrr) hz).1 (by omega)) hzl) (by omega)
  have h6 : OkB 21000 0 (.str (mText vs ss)) := ⟨ch_app (ch_app (ch_app (ch_app (by decide +kernel) (ch_ints vs)) (by decide +kernel)) (ch_names M.names)) (by decide +kernel), hl, Nat.zero_le _⟩
  refine ⟨?_, ?_, ?_⟩
  · show leafs [_, _, _, _, _, _] = true
    simp only [leafs, h1.leaf, h2.leaf, h3.leaf, h4.leaf, h5.leaf, h6.leaf, Bool.and_true]
  · show blks [_, _, _, _, _, _] ≤ _
    have := h1.blk
    have := h2.blk
    have := h3.blk
    have := h4.blk
    have := h5.blk
    have := h6.blk
    simp only [blks]; omega
  · show deps [_, _, _, _, _, _] + 1 ≤ _
    have := h1.dep
    have := h2.dep
    have := h3.dep
    have := h4.dep
    have := h5.dep
    have := h6.dep
    simp only [deps]; omega
/-! runs -/
theorem ne_same {a : Str} : gNe (.val (.str a)) (.val (.str a)) L = some (.val (.bl false)) := by
  rw [ne_strs]; simp
theorem rr1_ok (HT : IsT T vs rs) (H : IsM X vs ss (rs.map (norm ss))) (M : MOk vs ss (rs.map (norm ss))) (hr : ∀ r ∈ rs, RowOk vs.length zs r) (hp : ss.Perm zs) (hi : i < vs.length) (hw : ∀ w ∈ ws, w ∈ zs) (hn : ws.length ≤ 12) {P Z : Dv} {o4 o7 : Option Sv} : sSeq b_l_runs_right_1 b_l_runs_right_3 [some (.val P), some (.val X), some (.val T), some (.val Z), o4, some (.val (.tup (ws.map .str))), some (.val (.int (i : Int))), o7] L = .ok (.nx [some (.val P), some (.val X), some (.val T), some (.val Z), o4, some (.val (.tup (ws.map .str))), some (.val (.int (i : Int))), some (.val (runD (runF rs i ws)))]) L := by
  have hlen : rs.length = vs.length := by have := M.len; simpa using this
  have hws : ∀ w ∈ ws, w ∈ ss := fun w h => hp.mem_iff.mpr (hw w h)
  have hrs : ∀ r ∈ rs, RowOk vs.length ss r := fun r h => ⟨(hr r h).perm.trans hp.symm, (hr r h).ok⟩
  have t1 : b_l_runs_right_1 [some (.val P), some (.val X), some (.val T), some (.val Z), o4, some (.val (.tup (ws.map .str))), some (.val (.int (i : Int))), o7] L = .ok (.nx [some (.val P), some (.val X), some (.val T), some (.val Z), o4, some (.val (.tup (ws.map .str))), some (.val (.int (i : Int))), some (.val (runD (runF rs i ws)))]) L :=
    set_ok (call_ok (args_ok (s := .val T) rfl (args_ok (s := .val (.int (i : Int))) rfl (args1_ok (s := .val (.tup (ws.map .str))) rfl))) rfl (run_law HT.s hlen hr hi hw (by omega)))
  rw [seq_nx t1]
  have e := runF_norm hlen hrs ws i hi hws
  have r1 := run_val (L := L) (s := .val (.tup (ws.map .str))) H M hi hws (by omega) (.inr rfl)
  have r2 := run_val (L := L) (s := .val (.lst (ws.map .str))) H M hi hws (by omega) (.inl rfl)
  have ob := okB_run (n := 12) M hi hws hn
  rw [e] at r1 r2 ob
  have ob2 : OkB (2 * (12 * 9 + 2 + 1)) 3 (.lst [runD (runF rs i ws), runD (runF rs i ws)]) := okB_lst (fun d hd => by
    simp at hd; rw [hd]; exact ob) (Nat.le_refl 2)
  obtain ⟨hs, _⟩ := repr_shown ob2 (by decide) (by decide)
  have hl4 : gLst4 [.val (.tup (ws.map .str))] L = some (ws.map .str) := sq_lst sq_tup0 (sz_le (by rw [List.length_map]; omega))
  have m1 := meth_ok (mn := "run") (n := 2) (fo := dVar 1) (fr := dArgs (dVar 6) (dArgs (dVar 5) dArgs0)) (ρ := [some (.val P), some (.val X), some (.val T), some (.val Z), o4, some (.val (.tup (ws.map .str))), some (.val (.int (i : Int))), some (.val (runD (runF rs i ws)))]) (L := L) (o := .val X) (ss := [.val (.int (i : Int)), .val (.tup (ws.map .str))]) rfl (H.sRun L) rfl rfl r1
  have m2 := meth_ok (mn := "run") (n := 2) (fo := dVar 1) (fr := dArgs (dVar 6) (dArgs (dBiL false gLst4 (dArgs (dVar 5) dArgs0)) dArgs0)) (ρ := [some (.val P), some (.val X), some (.val T), some (.val Z), o4, some (.val (.tup (ws.map .str))), some (.val (.int (i : Int))), some (.val (runD (runF rs i ws)))]) (L := L) (o := .val X) (ss := [.val (.int (i : Int)), .val (.lst (ws.map .str))]) rfl (H.sRun L) (args_ok (s := .val (.int (i : Int))) rfl (args1_ok (biL_f (args1_ok (s := .val (.tup (ws.map .str))) rfl) hl4))) rfl r2
  have ra := bi_ok (args1_ok (lst_ok (args_ok m1 (args1_ok m2)) rfl two_sz)) (hs L)
  have rb := bi_ok (fr := dArgs (dLst (dArgs (dVar 7) (dArgs (dVar 7) dArgs0))) dArgs0) (ρ := [some (.val P), some (.val X), some (.val T), some (.val Z), o4, some (.val (.tup (ws.map .str))), some (.val (.int (i : Int))), some (.val (runD (runF rs i ws)))]) (L := L) (args1_ok (lst_ok (ss := [.val (runD (runF rs i ws)), .val (runD (runF rs i ws))]) rfl rfl two_sz)) (hs L)
  have hne := op_ok ra rb ne_same
  unfold b_l_runs_right_3
  rw [if_f (L1 := L) (by unfold dB; rw [hne]; rfl)]
  rfl
theorem rr_ok (hpt : PotAt L p) (HT : IsT T vs rs) (H : IsM X vs ss (rs.map (norm ss))) (M : MOk vs ss (rs.map (norm ss))) (hr : ∀ r ∈ rs, RowOk vs.length zs r) (hp : ss.Perm zs) : ∃ L', m_l_runs_right [.val (.own p), .val X, .val T, .val (.lst (zs.map .str))] L = .ok (.bl true) L' ∧ Gr p L L' := by
  have hzl : 1 ≤ zs.length ∧ zs.length ≤ 8 := by have := hp.length_eq; have := M.eight; have := M.one; omega
  have hm := M.most
  unfold m_l_runs_right
  rw [mOf_eq]
  show ∃ L', endOf (fb_l_runs_right [some (.val (.own p)), some (.val X), some (.val T), some (.val (.lst (zs.map .str))), none, none, none, none] L) = _ ∧ _
  obtain ⟨ρ', L', e, ⟨o4, o5, o6, o7, rfl, hg⟩⟩ := fl_inv (T := .one 4) (fb := sSeq b_l_runs_right_0 b_l_runs_right_4)
    (Inv := fun _ ρ L' => ∃ o4 o5 o6 o7, ρ = [some (.val (.own p)), some (.val X), some (.val T), some (.val (.lst (zs.map .str))), o4, o5, o6, o7] ∧ Gr p L L') (upF 0 4) 0 (fun k d hd ρ LL I => by
      obtain ⟨o4, o5, o6, o7, rfl, hg⟩ := I
      obtain ⟨ws, L1, e1, hn, hw, hp1⟩ := word_law (zs := zs) hg.pot hzl.1 (by omega)
      have t0 : b_l_runs_right_0 [some (.val (.own p)), some (.val X), some (.val T), some (.val (.lst (zs.map .str))), some (.val d), o5, o6, o7] LL = .ok (.nx [some (.val (.own p)), some (.val X), some (.val T), some (.val (.lst (zs.map .str))), some (.val d), some (.val (.tup (ws.map .str))), o6, o7]) L1 :=
        set_ok (call_ok (args_ok (s := .val (.own p)) rfl (args_ok (s := .val (.lst (zs.map .str))) rfl (args1_ok (s := .val (.int 12)) rfl))) rfl e1)
      obtain ⟨ρ2, L2, e2, o6', o7', rfl, rfl⟩ := fl_inv (T := .one 6) (fb := sSeq b_l_runs_right_1 b_l_runs_right_3)
        (Inv := fun _ ρ L' => ∃ o6 o7, ρ = [some (.val (.own p)), some (.val X), some (.val T), some (.val (.lst (zs.map .str))), some (.val d), some (.val (.tup (ws.map .str))), o6, o7] ∧ L' = L1) (upF 0 vs.length) 0 (fun i d' hd' ρ LL I => by
          obtain ⟨o6, o7, rfl, rfl⟩ := I
          rw [up_map, List.getElem?_map] at hd'
          obtain ⟨j, hj, rfl⟩ := Option.map_eq_some_iff.mp hd'
          obtain ⟨hjl, hje⟩ := List.getElem?_eq_some_iff.mp hj
          rw [List.getElem_range] at hje
          subst hje
          rw [List.length_range] at hjl
          exact ⟨_, _, _, rfl, rr1_ok HT H M hr hp hjl hw hn, _, _, rfl, rfl⟩) _ L1 ⟨o6, o7, rfl, rfl⟩
      have hbl : dBiO "__len__" [("Machine", m_Machine___len__)] chkLen gLen (dArgs (dVar 1) dArgs0) [some (.val (.own p)), some (.val X), some (.val T), some (.val (.lst (zs.map .str))), some (.val d), some (.val (.tup (ws.map .str))), o6, o7] L2 = .ok (.val (.int vs.length)) L2 := by
        unfold dBiO
        show (match (Sv.val X).ob L2 with
          | some _ => dOwn "__len__" [("Machine", m_Machine___len__)] chkLen (.val X) L2
          | none => give (gLen [.val X] L2) L2) = _
        rw [H.ob L2]
        exact own_len H hm
      have hR := iR1_eq hbl (rg_small (by omega) (by omega))
      rw [Int.toNat_natCast] at hR
      have t4 := for_ok (T := .one 6) hR e2
      refine ⟨_, _, L2, rfl, ?_, some (.val d), some (.val (.tup (ws.map .str))), o6', o7', rfl, hg.trans hp1.gr⟩
      show sSeq b_l_runs_right_0 b_l_runs_right_4 [some (.val (.own p)), some (.val X), some (.val T), some (.val (.lst (zs.map .str))), some (.val d), o5, o6, o7] LL = _
      rw [seq_nx t0]
      exact t4) _ L ⟨none, none, none, none, rfl, Gr.refl hpt⟩
  refine ⟨L', ?_, hg⟩
  have hR : iR1 (dC (.int 4)) [some (.val (.own p)), some (.val X), some (.val T), some (.val (.lst (zs.map .str))), none, none, none, none] L = .ok ⟨upF 0 4, true⟩ L := iR1_eq (j := 4) rfl (rg_small (by decide) (by decide))
  have s5 : b_l_runs_right_5 [some (.val (.own p)), some (.val X), some (.val T), some (.val (.lst (zs.map .str))), none, none, none, none] L = _ := for_ok (T := .one 4) hR e
  unfold fb_l_runs_right
  rw [seq_nx s5]
  rfl
end
end K12

namespace K12
open PySem PySem.Spec PyProof.Rows L2 DL
/-! machines in the law: made, and what is changed afterwards -/
theorem app_get {L : Led} {k : Nat} {c : Ct} {M : Led} (e : L[k]? = some c) : (L ++ M)[k]? = some c := by
  rw [List.getElem?_append_left (List.getElem?_eq_some_iff.mp e).1]; exact e
theorem app_sq {L M : Led} {s : Sv} {xs : List Dv} (h : s.sq L = some xs) : s.sq (L ++ M) = some xs := by
  rcases sq_cases h with rfl | rfl | ⟨j, rfl, e⟩
  · rfl
  · rfl
  · exact sq_own0 (app_get e)
theorem app_row {L M : Led} {d : Dv} {ks : List (Key × Dv)} (h : RowAt L d ks) : RowAt (L ++ M) d ks := by
  rcases row_cases h with rfl | ⟨j, rfl, e⟩
  · rfl
  · exact row_own (app_get e)
theorem app_rows {L M : Led} {ds : List Dv} {rs : List DL.Row} (h : Paired (fun d r => RowAt L d (rowK r)) ds rs) : Paired (fun d r => RowAt (L ++ M) d (rowK r)) ds rs := by
  induction h with
  | nil => exact .nil
  | cons h _ ih => exact .cons (app_row h) ih
theorem set_last {L : Led} {c d : Ct} : (L ++ [c]).set L.length d = L ++ [d] := by
  induction L with
  | nil => rfl
  | cons a L ih => simp [ih]
section
variable {L L1 : Led} {p q r i : Nat} {zs ss ws : List Str} {vs : List Int} {rs : List DL.Row} {T X : Dv} {ρ : Slo} {fr : DM (List Sv)} {s t : Sv} {ds : List Dv}
theorem make_gen {m : Mir} {c : Str} {F : List (Str × Dv)} (ha : fr ρ L = .ok [s, t] L1) (h : m [.val (.own L1.length), s, t] (L1 ++ [.obj c []]) = .ok .non (L1 ++ [.obj c F])) : dMake c 2 m fr ρ L = .ok (.val (.obj c F)) (L1 ++ [.gone]) := by
  have hb : (L1 ++ [.obj c F])[L1.length]? = some (.obj c F) := by simp
  unfold dMake
  rw [ha]
  show (if [s, t].length = 2 then made c L1.length ρ (m [.val (.own L1.length), s, t] (L1 ++ [.obj c []])) else .bad) = _
  rw [if_pos (show [s, t].length = 2 from rfl), h, made_ok hb, set_last]
theorem make_ok (ha : fr ρ L = .ok [s, t] L1) (hv : s.sq L1 = some (vs.map .int)) (ht : t.sq L1 = some ds) (hr : Paired (fun d r => RowAt L1 d (rowK r)) ds rs) (hok : ∀ r ∈ rs, RowOk vs.length ss r) (M : MOk vs ss (rs.map (norm ss))) : dMake "Machine" 2 m_Machine___init__ fr ρ L = .ok (.val (machD vs ss (rs.map (norm ss)))) (L1 ++ [.gone]) := by
  have hb : (L1 ++ [.obj (Str.ofString "Machine") []])[L1.length]? = some (.obj (Str.ofString "Machine") []) := by
    generalize Str.ofString "Machine" = c
    simp
  have h := init_ok hb (app_sq hv) (app_sq ht) (app_rows hr) hok M
  have e : Ob (L1 ++ [.obj (Str.ofString "Machine") []]) L1.length (Str.ofString "Machine") (machF vs ss (rs.map (norm ss))) = L1 ++ [.obj (Str.ofString "Machine") (machF vs ss (rs.map (norm ss)))] := set_last
  rw [e] at h
  exact make_gen ha h
/-- copies of rows, as things of the ledger -/
theorem dicts_ok {ce : DM Sv} (hce : ∀ (L : Led) (d : Dv) (ks : List (Key × Dv)), RowAt L d ks → ks.length ≤ 1000 → ∀ ρ : Slo, ρ[6]? = some (some (.val d)) → ce ρ L = .ok (.val (.own L.length)) (L ++ [.dic ks])) (h6 : 6 < ρ.length) : ∀ (ds : List Dv) (rs : List DL.Row) (acc : List Dv) (L : Led), Paired (fun d r => RowAt L d (rowK r)) ds rs → (∀ r ∈ rs, r.length ≤ 1000) → acc.length + ds.length ≤ 1000 → ∃ es : List Dv, cLoop (.one 6) dTr ce ρ ds acc L = .ok (acc ++ es) (L ++ rs.map fun r => .dic (rowK r)) ∧ es = (List.range rs.length).map (fun i => .own (L.length + i))
  | [], [], acc, L, _, _, _ => ⟨[], by simp [cLoop], rfl⟩
  | d :: ds, r :: rs, acc, L, .cons h hp, hl, ha => by
    simp only [List.length_cons] at ha
    have h1 := hce L d (rowK r) h (by rw [rowK_len]; exact hl r (by simp)) (ρ.set 6 (some (.val d))) (by rw [List.getElem?_set_self h6])
    obtain ⟨es, e, he⟩ := dicts_ok hce h6 ds rs (acc ++ [.own L.length]) (L ++ [.dic (rowK r)]) (app_rows hp) (fun x hx => hl x (by simp [hx])) (by simp; omega)
    refine ⟨.own L.length :: es, ?_, ?_⟩
    · have hset : Tg.set (.one 6) d ρ = some (ρ.set 6 (some (.val d))) := rfl
      have hlt : acc.length < sizeLine := by rw [sizeLine_eq]; omega
      simp only [cLoop, hset, dTr, Res.bind, if_true, h1, hlt, e, List.append_assoc, List.singleton_append, List.map_cons]
    · rw [he, List.length_cons, List.range_succ_eq_map, List.map_cons, List.map_map]
      simp only [Nat.add_zero, List.length_append, List.length_cons, List.length_nil]
      congr 1
      apply List.map_congr_left
      intro i _
      simp only [Function.comp]
      congr 1
      omega
theorem ce2_ok (L : Led) (d : Dv) (ks : List (Key × Dv)) (h : RowAt L d ks) (hl : ks.length ≤ 1000) (ρ : Slo) (h6 : ρ[6]? = some (some (.val d))) : ce_l_right_2 ρ L = .ok (.val (.own L.length)) (L ++ [.dic ks]) := by
  unfold ce_l_right_2 dBiK
  rw [args1_ok (s := .val d) (L1 := L) (by unfold dVar; rw [h6]; rfl)]
  show (match gDict [.val d] L with
    | some ks => newK true ks L
    | none => .bad) = _
  rw [row_copy h (sz_le (by omega))]
  rfl
theorem ce4_ok (L : Led) (d : Dv) (ks : List (Key × Dv)) (h : RowAt L d ks) (hl : ks.length ≤ 1000) (ρ : Slo) (h6 : ρ[6]? = some (some (.val d))) : ce_l_right_4 ρ L = .ok (.val (.own L.length)) (L ++ [.dic ks]) := ce2_ok L d ks h hl ρ h6
/-- the rows at new places -/
theorem rows_at {n : Nat} {M : Led} : ∀ (rs : List DL.Row) (L : Led), Paired (fun d r => RowAt ((L ++ rs.map fun r => .dic (rowK r)) ++ M) d (rowK r)) ((List.range rs.length).map fun i => .own (L.length + i)) rs
  | [], L => .nil
  | r :: rs, L => by
    have ih := rows_at (n := n) (M := M) rs (L ++ [.dic (rowK r)])
    rw [List.length_cons, List.range_succ_eq_map, List.map_cons (f := fun i => Dv.own (L.length + i)), List.map_map (f := Nat.succ)]
    refine .cons (row_own ?_) ?_
    · rw [Nat.add_zero, List.append_assoc, List.getElem?_append_right (Nat.le_refl _)]; simp
    · simp only [List.append_assoc, List.map_cons, List.length_append, List.length_cons, List.length_nil, List.singleton_append, List.cons_append, List.nil_append] at ih ⊢
      have e : ((fun i => Dv.own (L.length + i)) ∘ Nat.succ) = fun i => Dv.own (L.length + (0 + 1) + i) := by
        funext i
        simp only [Function.comp]
        congr 1
        omega
      rw [e]
      exact ih
end
end K12

namespace K12
open PySem PySem.Spec PyProof.Rows L2 DL
/-! one pot's machines -/
theorem par_ok {f1 f2 : DM Sv} {ρ : Slo} {L L1 L2 : Led} {d1 d2 : Dv} {i j : Nat} (h1 : f1 ρ L = .ok (.val d1) L1) (h2 : f2 ρ L1 = .ok (.val d2) L2) : sPar i j [.e f1, .e f2] ρ L = .ok (.nx ((ρ.set i (some (.val d1))).set j (some (.val d2)))) L2 := by
  unfold sPar dPm
  simp only [h1, Res.bind_ok, dPm, h2]
theorem lcO_lst {fs fe : DM Sv} {T : Tg} {ft : DM Bool} {vs : List Nat} {ρ : Slo} {L L1 : Led} {items acc : List Dv} (he : fs ρ L = .ok (.val (.lst items)) L) (hc : cLoop T ft fe (wipeR ρ vs) items [] L = .ok acc L1) : dLcO true false fs T ft fe vs ρ L = .ok (.val (.own L1.length)) (L1 ++ [.lst acc]) := by
  unfold dLcO
  rw [he]
  show (withSrc false (.val (.lst items)) L fun items L2 => cLoop T ft fe (wipeR ρ vs) items [] L2).bind _ = _
  show (noErr (cLoop T ft fe (wipeR ρ vs) items [] L)).bind _ = _
  rw [hc]
  rfl
theorem lcO_own {fs fe : DM Sv} {T : Tg} {ft : DM Bool} {vs : List Nat} {ρ : Slo} {L Mo : Led} {j : Nat} {ds acc : List Dv} (he : fs ρ L = .ok (.val (.own j)) L) (e : L[j]? = some (.lst ds)) (hc : cLoop T ft fe (wipeR ρ vs) ds [] (L.set j .gone) = .ok acc (L.set j .gone ++ Mo)) : dLcO false false fs T ft fe vs ρ L = .ok (.val (.lst acc)) (L ++ Mo) := by
  have hlt := (List.getElem?_eq_some_iff.mp e).1
  have e2 : backL j ds (L.set j .gone ++ Mo) = some (L ++ Mo) := by
    unfold backL
    rw [List.getElem?_append_left (by simpa using hlt), List.getElem?_set_self hlt]
    simp only
    rw [List.set_append_left _ _ (by simpa using hlt), List.set_set, ← (List.getElem?_eq_some_iff.mp e).2, List.set_getElem_self]
  unfold dLcO
  rw [he]
  show (withSrc false (.val (.own j)) L fun items L2 => cLoop T ft fe (wipeR ρ vs) items [] L2).bind _ = _
  unfold withSrc
  simp only [e]
  show ((noErr (cLoop T ft fe (wipeR ρ vs) ds [] (L.set j .gone))).bind _).bind _ = _
  rw [hc]
  simp only [noErr_ok, Res.bind_ok, e2, newL_f]
section
variable {L : Led} {p q r i : Nat} {zs ss ws : List Str} {vs : List Int} {rs : List DL.Row} {T X A B : Dv} {o6 : Option Sv}
theorem eq_same {a : Str} : gEq (.val (.str a)) (.val (.str a)) L = some (.val (.bl true)) := by
  rw [eq_strs]; simp
theorem eqz : gEq (.val (.tup [.int 0, .tup []])) (.val (.tup [.int 0, .tup []])) L = some (.val (.bl true)) := rfl
theorem rz {cs : List DL.Row} : runD (runF cs 0 []) = .tup [.int 0, .tup []] := rfl
theorem zero_cast : ((0 : Nat) : Int) = 0 := rfl
theorem run_zero (H : IsM X vs ss (rs.map (norm ss))) (M : MOk vs ss (rs.map (norm ss))) : m_Machine_run [.val X, .val (.int 0), .val (.lst [])] L = .ok (.tup [.int 0, .tup []]) L := by
  have h := run_val (L := L) (s := .val (.lst [])) (i := 0) (ws := []) H M (by have := M.pos; omega) (by simp) (by simp) (.inl rfl)
  rw [rz, zero_cast] at h
  exact h
theorem lst0_ok {ρ : Slo} : dLst dArgs0 ρ L = .ok (.val (.lst [])) L := rfl
theorem tup0_ok {ρ : Slo} : dTup dArgs0 ρ L = .ok (.val (.tup [])) L := rfl
theorem runz_ok (H : IsM X vs ss (rs.map (norm ss))) (hrun : m_Machine_run [.val X, .val (.int 0), .val (.lst [])] L = .ok (.tup [.int 0, .tup []]) L) {ρ : Slo} (h5 : dVar 5 ρ L = .ok (.val X) L) : dMeth "run" 2 [("Machine", m_Machine_run)] (dVar 5) (dArgs (dC (.int 0)) (dArgs (dLst dArgs0) dArgs0)) ρ L = .ok (.val (.tup [.int 0, .tup []])) L := by
  have ha : dArgs (dC (.int 0)) (dArgs (dLst dArgs0) dArgs0) ρ L = .ok [.val (.int 0), .val (.lst [])] L := args_ok (s := .val (.int 0)) rfl (args1_ok lst0_ok)
  exact meth_ok h5 (H.sRun _) ha rfl hrun
theorem zeroT_ok {ρ : Slo} : dTup (dArgs (dC (.int 0)) (dArgs (dTup dArgs0) dArgs0)) ρ L = .ok (.val (.tup [.int 0, .tup []])) L := tup_ok (ss := [.val (.int 0), .val (.tup [])]) (args_ok (s := .val (.int 0)) rfl (args1_ok tup0_ok)) rfl two_sz
/-- what is asked of the machine -/
theorem tail_ok (hp : PotAt L p) (HT : IsT T vs rs) (H : IsM X vs ss (rs.map (norm ss))) (M : MOk vs ss (rs.map (norm ss))) (hr : ∀ r ∈ rs, RowOk vs.length zs r) (hss : ss = sortS zs) : ∃ L', sSeq b_l_right_10 (sSeq b_l_right_12 (sSeq b_l_right_13 b_l_right_14)) [some (.val (.own p)), some (.val (.lst (zs.map .str))), some (.val T), some (.val A), some (.val B), some (.val X), o6, none] L = .ok (.rt (.bl true)) L' ∧ PotAt L' p := by
  have hpm : ss.Perm zs := by rw [hss]; exact sortS_perm zs
  have hl := (repr_val' (L := L) H M).2
  obtain ⟨hs, _⟩ := repr_shown (okB_due M hr hpm hl) (by decide) (by decide)
  generalize hZ : shownOf (dueD vs zs ss rs (rs.map (norm ss))) = Z at hs
  have t10 : b_l_right_10 [some (.val (.own p)), some (.val (.lst (zs.map .str))), some (.val T), some (.val A), some (.val B), some (.val X), o6, none] L = .ok (.nx [some (.val (.own p)), some (.val (.lst (zs.map .str))), some (.val T), some (.val A), some (.val B), some (.val X), o6, some (.val (.str Z))]) L :=
    set_ok (bi_ok (args1_ok (call_ok (args_ok (s := .val T) rfl (args1_ok (s := .val (.lst (zs.map .str))) rfl)) rfl (due_ok HT M hr hss))) (hs L))
  have sh : ∀ L, dBi gRepr (dArgs (dCall 2 m_l_shown (dArgs (dVar 5) (dArgs (dVar 1) dArgs0))) dArgs0) [some (.val (.own p)), some (.val (.lst (zs.map .str))), some (.val T), some (.val A), some (.val B), some (.val X), o6, some (.val (.str Z))] L = .ok (.val (.str Z)) (L ++ [.gone]) := fun L =>
    bi_ok (args1_ok (call_ok (args_ok (s := .val X) rfl (args1_ok (s := .val (.lst (zs.map .str))) rfl)) rfl (shown_ok H M hpm))) (hs _)
  obtain ⟨L2, e2, hg⟩ := rr_ok (L := L ++ [.gone]) (pot_app hp) HT H M hr hpm
  have t12 : b_l_right_12 [some (.val (.own p)), some (.val (.lst (zs.map .str))), some (.val T), some (.val A), some (.val B), some (.val X), o6, some (.val (.str Z))] L = .ok (.nx [some (.val (.own p)), some (.val (.lst (zs.map .str))), some (.val T), some (.val A), some (.val B), some (.val X), o6, some (.val (.str Z))]) L2 := by
    have h1 := op_ok (fb := dVar 7) (sh L) (b := .val (.str Z)) rfl ne_same
    have h2 := call_ok (fr := dArgs (dVar 0) (dArgs (dVar 5) (dArgs (dVar 2) (dArgs (dVar 1) dArgs0)))) (ρ := [some (.val (.own p)), some (.val (.lst (zs.map .str))), some (.val T), some (.val A), some (.val B), some (.val X), o6, some (.val (.str Z))]) (n := 4) (ss := [.val (.own p), .val X, .val T, .val (.lst (zs.map .str))]) rfl rfl e2
    unfold b_l_right_12
    rw [if_f (L1 := L2) (by
      unfold dOr dB
      rw [h1]
      show (dNot (dB (dCall 4 m_l_runs_right (dArgs (dVar 0) (dArgs (dVar 5) (dArgs (dVar 2) (dArgs (dVar 1) dArgs0))))))) _ (L ++ [.gone]) = _
      unfold dNot dB
      rw [h2]
      rfl)]
    rfl
  have hp2 := hg.pot
  have t13 : b_l_right_13 [some (.val (.own p)), some (.val (.lst (zs.map .str))), some (.val T), some (.val A), some (.val B), some (.val X), o6, some (.val (.str Z))] L2 = .ok (.nx [some (.val (.own p)), some (.val (.lst (zs.map .str))), some (.val T), some (.val A), some (.val B), some (.val X), o6, some (.val (.str Z))]) (L2 ++ [.lst []]) := by
    have h1 := meth_ok (n := 0) (fo := dVar 5) (fr := dArgs0) (ρ := [some (.val (.own p)), some (.val (.lst (zs.map .str))), some (.val T), some (.val A), some (.val B), some (.val X), o6, some (.val (.str Z))]) (L := L2) (o := .val X) (ss := []) rfl (H.sAlp L2) rfl rfl (alphabet_val H M.eight)
    refine drop_ok (s := .val .non) ?_
    unfold dLm
    rw [h1]
    have ha : (L2 ++ [.lst (ss.map .str)])[L2.length]? = some (.lst (ss.map .str)) := by simp
    simp only [Res.bind_ok, ha, dArgs0, gmClear, set_last]
  have t14 : b_l_right_14 [some (.val (.own p)), some (.val (.lst (zs.map .str))), some (.val T), some (.val A), some (.val B), some (.val X), o6, some (.val (.str Z))] (L2 ++ [.lst []]) = .ok (.rt (.bl true)) (L2 ++ [.lst []] ++ [.gone]) := by
    have h1 := op_ok (fb := dVar 7) (sh (L2 ++ [.lst []])) (b := .val (.str Z)) rfl eq_same
    have hrun : m_Machine_run [.val X, .val (.int 0), .val (.lst [])] (L2 ++ [.lst []] ++ [.gone]) = .ok (.tup [.int 0, .tup []]) (L2 ++ [.lst []] ++ [.gone]) := run_zero H M
    have h2 := runz_ok (ρ := [some (.val (.own p)), some (.val (.lst (zs.map .str))), some (.val T), some (.val A), some (.val B), some (.val X), o6, some (.val (.str Z))]) H hrun rfl
    have h3 := op_ok (g := gEq) (s := .val (.bl true)) h2 zeroT_ok eqz
    refine ret_ok ?_
    unfold dAndV
    rw [h1]
    exact h3
  refine ⟨L2 ++ [.lst []] ++ [.gone], ?_, pot_app (pot_app hp2)⟩
  rw [seq_nx t10, seq_nx t12, seq_nx t13]
  exact t14
end
end K12

namespace K12
open PySem PySem.Spec PyProof.Rows L2 DL
section
variable {L : Led} {p q r i n : Nat} {zs ss ws : List Str} {vs : List Int} {rs : List DL.Row} {T X A B P Z : Dv} {o6 o7 : Option Sv} {xs ds : List Dv}
/-! lists and dicts that were passed are changed -/
theorem b6_ok (hq : L[q]? = some (.lst xs)) (hl : xs.length ≤ 1000) : b_l_right_6 [some (.val P), some (.val Z), some (.val T), some (.val (.own q)), some (.val B), some (.val X), o6, o7] L = .ok (.nx [some (.val P), some (.val Z), some (.val T), some (.val (.own q)), some (.val B), some (.val X), o6, o7]) (L.set q (.lst (xs ++ [.int 9]))) := by
  have hlt : xs.length < sizeLine := by rw [sizeLine_eq]; omega
  refine drop_ok (s := .val .non) ?_
  unfold dLm
  rw [show dVar 3 [some (.val P), some (.val Z), some (.val T), some (.val (.own q)), some (.val B), some (.val X), o6, o7] L = .ok (.val (.own q)) L from rfl]
  have ha : dArgs (dC (.int 9)) dArgs0 [some (.val P), some (.val Z), some (.val T), some (.val (.own q)), some (.val B), some (.val X), o6, o7] L = .ok [.val (.int 9)] L := rfl
  simp only [Res.bind_ok, hq, ha, gmAppend, hlt, if_true]
theorem b9_ok (hr : L[r]? = some (.lst xs)) : b_l_right_9 [some (.val P), some (.val Z), some (.val T), some (.val A), some (.val (.own r)), some (.val X), o6, o7] L = .ok (.nx [some (.val P), some (.val Z), some (.val T), some (.val A), some (.val (.own r)), some (.val X), o6, o7]) (L.set r (.lst [])) := by
  refine drop_ok (s := .val .non) ?_
  unfold dLm
  rw [show dVar 4 [some (.val P), some (.val Z), some (.val T), some (.val A), some (.val (.own r)), some (.val X), o6, o7] L = .ok (.val (.own r)) L from rfl]
  have ha : dArgs0 [some (.val P), some (.val Z), some (.val T), some (.val A), some (.val (.own r)), some (.val X), o6, o7] L = .ok [] L := rfl
  simp only [Res.bind_ok, hr, ha, gmClear]
theorem b7_ok {k : Nat} {ks : List (Key × Dv)} (hk : L[k]? = some (.dic ks)) : b_l_right_7 [some (.val P), some (.val Z), some (.val T), some (.val A), some (.val B), some (.val X), some (.val (.own k)), o7] L = .ok (.nx [some (.val P), some (.val Z), some (.val T), some (.val A), some (.val B), some (.val X), some (.val (.own k)), o7]) (L.set k (.dic [])) := by
  refine drop_ok (s := .val .non) ?_
  unfold dDclear
  rw [show dVar 6 [some (.val P), some (.val Z), some (.val T), some (.val A), some (.val B), some (.val X), some (.val (.own k)), o7] L = .ok (.val (.own k)) L from rfl]
  simp only [Res.bind_ok, hk]
/-- all rows are cleared -/
theorem clear_loop : ∀ (is : List Nat) (L : Led) (o6 : Option Sv), PotAt L p → (∀ k ∈ is, k ≠ p ∧ k ≠ r ∧ ∃ ks, L[k]? = some (.dic ks)) → L[r]? = some .gone → unB [o6] = [o6] → ∃ o6' L', fLoop (.one 6) b_l_right_7 (is.map .own) [some (.val P), some (.val Z), some (.val T), some (.val A), some (.val B), some (.val X), o6, none] L = .ok (.nx [some (.val P), some (.val Z), some (.val T), some (.val A), some (.val B), some (.val X), o6', none]) L' ∧ PotAt L' p ∧ L'[r]? = some .gone ∧ unB [o6'] = [o6']
  | [], L, o6, hp, _, hr, hb => ⟨o6, L, rfl, hp, hr, hb⟩
  | k :: is, L, o6, hp, h, hr, hb => by
    obtain ⟨kp, kr, ks, hk⟩ := h k (by simp)
    obtain ⟨o6', L', e, a, b, c⟩ := clear_loop is (L.set k (.dic [])) (some (.val (.own k))) (pot_set hp kp) (fun j hj => by
      obtain ⟨jp, jr, js, e⟩ := h j (by simp [hj])
      refine ⟨jp, jr, ?_⟩
      by_cases hjk : k = j
      · subst hjk; exact ⟨[], List.getElem?_set_self (List.getElem?_eq_some_iff.mp hk).1⟩
      · exact ⟨js, by rw [List.getElem?_set_ne hjk]; exact e⟩) (by rw [List.getElem?_set_ne kr]; exact hr) rfl
    refine ⟨o6', L', ?_, a, b, c⟩
    have hset : Tg.set (.one 6) (.own k) [some (.val P), some (.val Z), some (.val T), some (.val A), some (.val B), some (.val X), o6, none] = some [some (.val P), some (.val Z), some (.val T), some (.val A), some (.val B), some (.val X), some (.val (.own k)), none] := rfl
    simp only [List.map_cons, fLoop, hset, b7_ok hk, Res.bind, e]
theorem b8_ok {is : List Nat} (hp : PotAt L p) (hr : L[r]? = some (.lst (is.map .own))) (hrp : r ≠ p) (h : ∀ k ∈ is, k ≠ p ∧ k ≠ r ∧ ∃ ks, L[k]? = some (.dic ks)) : ∃ o6' L', b_l_right_8 [some (.val P), some (.val Z), some (.val T), some (.val A), some (.val (.own r)), some (.val X), none, none] L = .ok (.nx [some (.val P), some (.val Z), some (.val T), some (.val A), some (.val (.own r)), some (.val X), o6', none]) L' ∧ PotAt L' p ∧ ∃ xs, L'[r]? = some (.lst xs) := by
  have hlt := (List.getElem?_eq_some_iff.mp hr).1
  obtain ⟨o6', L', e, a, b, c⟩ := clear_loop (r := r) (P := P) (Z := Z) (T := T) (A := A) (B := .own r) (X := X) is (L.set r .gone) none (pot_set hp hrp) (fun k hk => by
    obtain ⟨x, y, ks, e⟩ := h k hk
    exact ⟨x, y, ks, by rw [List.getElem?_set_ne (Ne.symm y)]; exact e⟩) (List.getElem?_set_self hlt) rfl
  have hlt' := (List.getElem?_eq_some_iff.mp b).1
  refine ⟨o6', L'.set r (.lst (is.map .own)), ?_, pot_set a hrp, _, List.getElem?_set_self hlt'⟩
  unfold b_l_right_8 sForO
  rw [show dVar 4 [some (.val P), some (.val Z), some (.val T), some (.val A), some (.val (.own r)), some (.val X), none, none] L = .ok (.val (.own r)) L from rfl]
  simp only [Res.bind_ok, hr, enI, Bool.false_eq_true, if_false, e, putFl, backL, b, Fl.unB]
  have hu : unB [some (.val P), some (.val Z), some (.val T), some (.val A), some (.val (.own r)), some (.val X), o6', none] = [some (.val P), some (.val Z), some (.val T), some (.val A), some (.val (.own r)), some (.val X), o6', none] := by
    show some (Sv.val P) :: some (Sv.val Z) :: some (Sv.val T) :: some (Sv.val A) :: some (Sv.val (.own r)) :: some (Sv.val X) :: (unB [o6'] ++ [none]) = _
    rw [c]; rfl
  rw [hu]
/-! names, the table -/
theorem b0_ok (hp : PotAt L p) {o1 o2 o3 o4 o5 o6 o7 : Option Sv} : ∃ (zs : List Str) (L' : Led), b_l_right_0 [some (.val (.own p)), o1, o2, o3, o4, o5, o6, o7] L = .ok (.nx [some (.val (.own p)), some (.val (.lst (zs.map .str))), o2, o3, o4, o5, o6, o7]) L' ∧ 1 ≤ zs.length ∧ zs.length ≤ 8 ∧ (∀ z ∈ zs, Nm z) ∧ zs.Nodup ∧ Pt p L L' := by
  obtain ⟨a, L1, e1, a0, a2, hp1⟩ := digit_pt (n := 2) hp (by decide) (by decide)
  obtain ⟨d, hd, _, ed⟩ := ix_l (xs := [.int 3, .int 8]) a0 (by simpa using a2)
  obtain ⟨k, rfl, k1, k8⟩ : ∃ k : Int, d = .int k ∧ 1 ≤ k ∧ k ≤ 8 := by
    simp only [List.mem_cons, List.not_mem_nil, or_false] at hd
    rcases hd with rfl | rfl
    all_goals exact ⟨_, rfl, by decide, by decide⟩
  obtain ⟨b, L2, e2, b0, b2, hp2⟩ := digit_pt (n := k) hp1.1 (by omega) (by omega)
  obtain ⟨zs, L3, e3, hl, hz, hn, hp3⟩ := names_ok (n := 1 + b) (fs := []) hp2.1 (by omega) (by omega) (by simp)
  refine ⟨zs, L3, ?_, by omega, by omega, fun z h => (hz z h).1, hn, (hp1.trans hp2).trans hp3⟩
  have e3' : m_l_names [.val (.own p), .val (.int (1 + b)), .val (.lst [])] L2 = .ok (.lst (zs.map .str)) L3 := e3
  simp [b_l_right_0, e1, two_sz, ed, e2, e3']
theorem b1_ok (hp : PotAt L p) (h8 : zs.length ≤ 8) (hd : zs.Nodup) {o2 o3 o4 o5 o6 o7 : Option Sv} : ∃ (vs : List Int) (rs : List DL.Row) (L' : Led), b_l_right_1 [some (.val (.own p)), some (.val (.lst (zs.map .str))), o2, o3, o4, o5, o6, o7] L = .ok (.nx [some (.val (.own p)), some (.val (.lst (zs.map .str))), some (.val (tabD vs rs)), o3, o4, o5, o6, o7]) L' ∧ TOk vs zs rs ∧ Gr p L L' := by
  obtain ⟨vs, rs, L', e, h, hg⟩ := table_ok hp h8 hd
  exact ⟨vs, rs, L', set_ok (call_ok (args_ok (s := .val (.own p)) rfl (args_ok (s := .val (.lst (zs.map .str))) rfl (args1_ok (s := .val (.int 6)) rfl))) rfl e), h, hg⟩
/-- a table makes a machine -/
theorem mok_of (H : TOk vs zs rs) (h1 : 1 ≤ zs.length) (h8 : zs.length ≤ 8) (hn : ∀ z ∈ zs, Nm z) (hd : zs.Nodup) : MOk vs (sortS zs) (rs.map (norm (sortS zs))) := by
  have hp : (sortS zs).Perm zs := sortS_perm zs
  have hl := hp.length_eq
  have hm := H.most
  refine ⟨by rw [List.length_map]; exact H.len, H.pos, by omega, (sortS_congr hp).symm, hp.nodup_iff.mpr hd, fun z hz => hn z (hp.mem_iff.mp hz), by omega, by omega, fun c hc => ?_, fun c hc => ?_, fun v hv => ?_⟩
  · obtain ⟨r, hr, rfl⟩ := List.mem_map.mp hc
    exact norm_ok ⟨(H.rows r hr).perm.trans hp.symm, (H.rows r hr).ok⟩
  · obtain ⟨r, hr, rfl⟩ := List.mem_map.mp hc
    exact norm_keys _ _
  · have := H.vals v hv
    omega
end
end K12

namespace K12
open PySem PySem.Spec PyProof.Rows L2 DL
section
variable {L : Led} {p q r i n : Nat} {zs ss ws : List Str} {vs : List Int} {rs : List DL.Row} {T X A B P Z : Dv} {o3 o4 o5 o6 o7 : Option Sv} {xs ds : List Dv}
theorem paired_dic : ∀ rs : List DL.Row, Paired (fun d r => RowAt L d (rowK r)) (rs.map fun r => .dic (rowK r)) rs
  | [] => .nil
  | _ :: rs => .cons rfl (paired_dic rs)
theorem paired_imp {α β : Type} {R S : α → β → Prop} {l : List α} {m : List β} (h : Paired R l m) (k : ∀ a b, R a b → S a b) : Paired S l m := by
  induction h with
  | nil => exact .nil
  | cons h _ ih => exact .cons (k _ _ h) ih
def refsF (b n : Nat) : List Dv := (List.range n).map fun i => .own (b + i)
theorem b3_ok (HT : IsT T vs rs) (hv : vs.length ≤ 100) (hr : rs.length ≤ 100) (hk : ∀ r ∈ rs, r.length ≤ 1000) : b_l_right_3 [some (.val P), some (.val Z), some (.val T), o3, o4, o5, o6, o7] L = .ok (.nx [some (.val P), some (.val Z), some (.val T), some (.val (.own L.length)), some (.val (.own (L.length + 1 + rs.length))), o5, o6, o7]) (L ++ [.lst (vs.map .int)] ++ (rs.map fun r => .dic (rowK r)) ++ [.lst (refsF (L.length + 1) rs.length)]) := by
  have h1 := biL_t (g := gLst4) (fr := dArgs (dOp gGet (dVar 2) (dC (.str "values"))) dArgs0) (ρ := [some (.val P), some (.val Z), some (.val T), o3, o4, o5, o6, o7]) (L := L) (ss := [.val (.lst (vs.map .int))]) (ds := vs.map .int) (args1_ok (op_ok (a := .val T) (b := .val (.str "values")) rfl rfl (HT.v L))) (sq_lst sq_lst0 (sz_le (by rw [List.length_map]; omega)))
  obtain ⟨es, e, he⟩ := dicts_ok (ce := ce_l_right_2) ce2_ok (ρ := [some (.val P), some (.val Z), some (.val T), o3, o4, o5, none, o7]) (by simp) (rs.map fun r => .dic (rowK r)) rs [] (L ++ [.lst (vs.map .int)]) (paired_dic rs) hk (by simp; omega)
  rw [List.nil_append] at e
  have h2 := lcO_lst (fs := dOp gGet (dVar 2) (dC (.str "steps"))) (T := .one 6) (ft := dTr) (fe := ce_l_right_2) (vs := [6]) (ρ := [some (.val P), some (.val Z), some (.val T), o3, o4, o5, o6, o7]) (L := L ++ [Ct.lst (vs.map Dv.int)]) (items := rs.map fun r => .dic (rowK r)) (op_ok (a := .val T) (b := .val (.str "steps")) rfl rfl (HT.s _)) e
  have e1 : (L ++ [Ct.lst (vs.map Dv.int)] ++ rs.map fun r => Ct.dic (rowK r)).length = L.length + 1 + rs.length := by simp; omega
  have e2 : es = refsF (L.length + 1) rs.length := by
    rw [he]
    unfold refsF
    simp
  rw [e1, e2] at h2
  exact par_ok h1 h2
theorem b5_ok (hp : PotAt L p) (hq : L[q]? = some (.lst (vs.map .int))) (hrr : L[r]? = some (.lst ds)) (hds : Paired (fun d r => RowAt L d (rowK r)) ds rs) (hok : ∀ r ∈ rs, RowOk vs.length ss r) (M : MOk vs ss (rs.map (norm ss))) : ∃ L', b_l_right_5 [some (.val (.own p)), some (.val Z), some (.val T), some (.val (.own q)), some (.val (.own r)), none, none, none] L = .ok (.nx [some (.val (.own p)), some (.val Z), some (.val T), some (.val (.own q)), some (.val (.own r)), some (.val (machD vs ss (rs.map (norm ss)))), none, none]) L' ∧ PotAt L' p ∧ ∀ k, k < L.length → k ≠ p → L'[k]? = L[k]? := by
  have hrl : rs.length ≤ 64 := by
    have h1 := M.len
    have h2 := M.most
    rw [List.length_map] at h1
    omega
  have hdl : ds.length = rs.length := paired_len hds
  have hm := M.most
  have h8 := M.eight
  have m1 := make_ok (fr := dArgs (dVar 3) (dArgs (dVar 4) dArgs0)) (ρ := [some (.val (.own p)), some (.val Z), some (.val T), some (.val (.own q)), some (.val (.own r)), none, none, none]) (L := L) (L1 := L) (s := .val (.own q)) (t := .val (.own r)) (ds := ds) rfl (sq_own0 hq) (sq_own0 hrr) hds hok M
  have hr4 : (L ++ [Ct.gone])[r]? = some (.lst ds) := app_get hrr
  have hd4 : Paired (fun d x => RowAt ((L ++ [Ct.gone]).set r .gone) d (rowK x)) ds rs := paired_imp (app_rows (M := [.gone]) hds) fun _ _ h => gone_row hr4 h
  obtain ⟨es, e, he⟩ := dicts_ok (ce := ce_l_right_4) ce4_ok (ρ := [some (.val (.own p)), some (.val Z), some (.val T), some (.val (.own q)), some (.val (.own r)), none, none, none]) (by simp) ds rs [] ((L ++ [Ct.gone]).set r .gone) hd4 (fun x hx => by have := (hok x hx).len; omega) (by simp; omega)
  rw [List.nil_append] at e
  have c2 := lcO_own (fs := dVar 4) (T := .one 6) (ft := dTr) (fe := ce_l_right_4) (vs := [6]) (ρ := [some (.val (.own p)), some (.val Z), some (.val T), some (.val (.own q)), some (.val (.own r)), none, none, none]) (L := L ++ [Ct.gone]) (j := r) rfl hr4 e
  have hel : es.length ≤ 100 := by rw [he]; simp; omega
  have hes : es = (List.range rs.length).map fun i => .own ((L ++ [Ct.gone]).length + i) := by rw [he]; simp
  have t1 : gTuple [.val (.own q)] (L ++ [Ct.gone]) = some (.val (.tup (vs.map .int))) := sq_tuple (sq_own0 (app_get hq)) (sz_le (by rw [List.length_map]; omega))
  have t2 : gTuple [.val (.lst es)] ((L ++ [Ct.gone]) ++ rs.map fun r => Ct.dic (rowK r)) = some (.val (.tup es)) := sq_tuple sq_lst0 (sz_le (by omega))
  have rw5 := rows_at (n := 0) (M := []) rs (L ++ [Ct.gone])
  rw [List.append_nil, ← hes] at rw5
  have m2 := make_ok (fr := dArgs (dBi gTuple (dArgs (dVar 3) dArgs0)) (dArgs (dBi gTuple (dArgs (dLcO false false (dVar 4) (.one 6) dTr ce_l_right_4 [6]) dArgs0)) dArgs0)) (ρ := [some (.val (.own p)), some (.val Z), some (.val T), some (.val (.own q)), some (.val (.own r)), none, none, none]) (L := L ++ [Ct.gone]) (s := .val (.tup (vs.map .int))) (t := .val (.tup es)) (args_ok (bi_ok (args1_ok (s := .val (.own q)) rfl) t1) (args1_ok (bi_ok (args1_ok c2) t2))) rfl rfl rw5 hok M
  generalize machD vs ss (rs.map (norm ss)) = X at m1 m2 ⊢
  have hp6 : PotAt (L ++ [Ct.gone] ++ (rs.map fun r => Ct.dic (rowK r)) ++ [Ct.gone]) p := by
    obtain ⟨a, b, e, x⟩ := hp
    exact ⟨a, b, app_get (app_get (app_get e)), x⟩
  obtain ⟨d, L7, e7, d0, d2, hp7⟩ := digit_pt (n := 2) hp6 (by decide) (by decide)
  obtain ⟨y, hy, _, ey⟩ := ix_l (xs := [X, X]) d0 (by simpa using d2)
  have hyX : y = X := by simpa using hy
  subst hyX
  refine ⟨L7, ?_, hp7.1, fun k hk hkp => ?_⟩
  · exact set_ok (op_ok (lst_ok (ss := [.val y, .val y]) (args_ok m1 (args1_ok m2)) rfl two_sz) (call_ok (args_ok (s := .val (.own p)) rfl (args1_ok (s := .val (.int 2)) rfl)) rfl e7) (ey L7).1)
  · obtain ⟨_, c, rfl⟩ := hp7
    rw [List.getElem?_set_ne (Ne.symm hkp), List.append_assoc, List.append_assoc, List.getElem?_append_left hk]
/-- ONE POT'S MACHINES ARE RIGHT -/
theorem right_ok (hp : PotAt L p) : ∃ L', m_l_right [.val (.own p)] L = .ok (.bl true) L' ∧ PotAt L' p := by
  unfold m_l_right
  rw [mOf_eq]
  show ∃ L', endOf (fb_l_right [some (.val (.own p)), none, none, none, none, none, none, none] L) = _ ∧ _
  obtain ⟨zs, L1, s0, z1, z8, hzn, hzd, hp1⟩ := b0_ok (o1 := none) (o2 := none) (o3 := none) (o4 := none) (o5 := none) (o6 := none) (o7 := none) hp
  obtain ⟨vs, rs, L2, s1, HT, hg2⟩ := b1_ok (o2 := none) (o3 := none) (o4 := none) (o5 := none) (o6 := none) (o7 := none) hp1.1 z8 hzd
  have M := mok_of HT z1 z8 hzn hzd
  have hpm : (sortS zs).Perm zs := sortS_perm zs
  have hok : ∀ r ∈ rs, RowOk vs.length (sortS zs) r := fun r hr => ⟨(HT.rows r hr).perm.trans hpm.symm, (HT.rows r hr).ok⟩
  have hm := HT.most
  have hl := HT.len
  have IT : IsT (tabD vs rs) vs rs := isT_tab
  generalize tabD vs rs = T at s1 IT
  have s3 := b3_ok (L := L2) (P := .own p) (Z := .lst (zs.map .str)) (o3 := none) (o4 := none) (o5 := none) (o6 := none) (o7 := none) IT (by omega) (by omega) (fun r hr => by have := (HT.rows r hr).len; omega)
  have hpl := pot_lt hg2.pot
  have hq : (L2 ++ [Ct.lst (vs.map .int)] ++ (rs.map fun r => Ct.dic (rowK r)) ++ [Ct.lst (refsF (L2.length + 1) rs.length)])[L2.length]? = some (.lst (vs.map .int)) := app_get (app_get (by simp))
  have hr : (L2 ++ [Ct.lst (vs.map .int)] ++ (rs.map fun r => Ct.dic (rowK r)) ++ [Ct.lst (refsF (L2.length + 1) rs.length)])[L2.length + 1 + rs.length]? = some (.lst (refsF (L2.length + 1) rs.length)) := by
    have hl' : (L2 ++ [Ct.lst (vs.map Dv.int)] ++ (rs.map fun r => Ct.dic (rowK r))).length = L2.length + 1 + rs.length := by simp; omega
    rw [List.getElem?_append_right (by rw [hl']; exact Nat.le_refl _), hl', Nat.sub_self]
    rfl
  have hrows : Paired (fun d r => RowAt (L2 ++ [Ct.lst (vs.map .int)] ++ (rs.map fun r => Ct.dic (rowK r)) ++ [Ct.lst (refsF (L2.length + 1) rs.length)]) d (rowK r)) (refsF (L2.length + 1) rs.length) rs := by
    have h := rows_at (n := 0) (M := [Ct.lst (refsF (L2.length + 1) rs.length)]) rs (L2 ++ [Ct.lst (vs.map .int)])
    have e : (L2 ++ [Ct.lst (vs.map Dv.int)]).length = L2.length + 1 := by simp
    rw [e] at h
    exact h
  have hp3 : PotAt (L2 ++ [Ct.lst (vs.map .int)] ++ (rs.map fun r => Ct.dic (rowK r)) ++ [Ct.lst (refsF (L2.length + 1) rs.length)]) p := by
    obtain ⟨a, b, e, x⟩ := hg2.pot
    exact ⟨a, b, app_get (app_get (app_get e)), x⟩
  have hlen3 : (L2 ++ [Ct.lst (vs.map .int)] ++ (rs.map fun r => Ct.dic (rowK r)) ++ [Ct.lst (refsF (L2.length + 1) rs.length)]).length = L2.length + 1 + rs.length + 1 := by simp; omega
  have hdic : ∀ k, k < rs.length → ∃ ks, (L2 ++ [Ct.lst (vs.map .int)] ++ (rs.map fun r => Ct.dic (rowK r)) ++ [Ct.lst (refsF (L2.length + 1) rs.length)])[L2.length + 1 + k]? = some (.dic ks) := fun k hk => by
    refine ⟨rowK rs[k], app_get ?_⟩
    have hl' : (L2 ++ [Ct.lst (vs.map Dv.int)]).length = L2.length + 1 := by simp
    rw [List.getElem?_append_right (by rw [hl']; omega), hl', Nat.add_sub_cancel_left, List.getElem?_map, List.getElem?_eq_getElem hk]
    rfl
  generalize hL3 : L2 ++ [Ct.lst (vs.map .int)] ++ (rs.map fun r => Ct.dic (rowK r)) ++ [Ct.lst (refsF (L2.length + 1) rs.length)] = L3 at s3 hq hr hrows hp3 hlen3 hdic
  obtain ⟨L5, s5, hp5, hs5⟩ := b5_ok (Z := .lst (zs.map .str)) (T := T) hp3 hq hr hrows hok M
  have IM : IsM (machD vs (sortS zs) (rs.map (norm (sortS zs)))) vs (sortS zs) (rs.map (norm (sortS zs))) := isM_mach
  generalize machD vs (sortS zs) (rs.map (norm (sortS zs))) = X at s5 IM
  have hq5 : L5[L2.length]? = some (.lst (vs.map .int)) := by rw [hs5 _ (by omega) (by omega)]; exact hq
  have s6 := b6_ok (P := .own p) (Z := .lst (zs.map .str)) (T := T) (B := .own (L2.length + 1 + rs.length)) (X := X) (o6 := none) (o7 := none) hq5 (by rw [List.length_map]; omega)
  have hr6 : (L5.set L2.length (.lst (vs.map Dv.int ++ [.int 9])))[L2.length + 1 + rs.length]? = some (.lst ((List.range rs.length).map (fun i => L2.length + 1 + i) |>.map .own)) := by
    rw [List.getElem?_set_ne (by omega), hs5 _ (by omega) (by omega), hr, List.map_map]
    rfl
  obtain ⟨o6, L8, s8, hp8, xs, hx8⟩ := b8_ok (P := .own p) (Z := .lst (zs.map .str)) (T := T) (A := .own L2.length) (X := X) (r := L2.length + 1 + rs.length) (is := (List.range rs.length).map (fun i => L2.length + 1 + i)) (pot_set hp5 (by omega)) hr6 (by omega) (fun k hk => by
    obtain ⟨j, hj, rfl⟩ := List.mem_map.mp hk
    rw [List.mem_range] at hj
    obtain ⟨ks, e⟩ := hdic j hj
    exact ⟨by omega, by omega, ks, by rw [List.getElem?_set_ne (by omega), hs5 _ (by omega) (by omega)]; exact e⟩)
  have s9 := b9_ok (P := .own p) (Z := .lst (zs.map .str)) (T := T) (A := .own L2.length) (X := X) (o6 := o6) (o7 := none) hx8
  obtain ⟨L10, e10, hp10⟩ := tail_ok (A := .own L2.length) (B := .own (L2.length + 1 + rs.length)) (o6 := o6) (pot_set (c := .lst []) (q := L2.length + 1 + rs.length) hp8 (by omega)) IT IM M HT.rows rfl
  refine ⟨L10, ?_, hp10⟩
  unfold fb_l_right
  rw [seq_nx s0, seq_nx s1, seq_nx s3, seq_nx s5, seq_nx s6, seq_nx s8, seq_nx s9]
  exact congrArg endOf e10
end
end K12

namespace K12
open PySem PySem.Spec PyProof.Rows L2 DL
/-! the fixed machines -/
theorem norm_id {ss : List Str} {c : DL.Row} (hk : c.map (·.1) = ss) (hd : ss.Nodup) : norm ss c = c := by
  subst hk
  unfold norm
  rw [List.map_map]
  have : ∀ e ∈ c, ((fun z => (z, rget c z)) ∘ fun e : Str × Stp => e.1) e = e := fun e he => by
    simp only [Function.comp]
    have h := lookup_nodup hd he
    unfold rget
    rw [h]
    rfl
  exact (List.map_congr_left this).trans (List.map_id' c)
theorem norms_id {ss : List Str} {cs : List DL.Row} (hk : ∀ c ∈ cs, c.map (·.1) = ss) (hd : ss.Nodup) : cs.map (norm ss) = cs := by
  have : ∀ c ∈ cs, norm ss c = c := fun c hc => norm_id (hk c hc) hd
  exact (List.map_congr_left this).trans (List.map_id' cs)
/-- rows in the symbols' own sequence make a machine -/
theorem mok_can {vs : List Int} {ss : List Str} {cs : List DL.Row} (len : cs.length = vs.length) (pos : 1 ≤ vs.length) (most : vs.length ≤ 64) (sorted : sortedS ss = true) (nodup : ss.Nodup) (names : ∀ z ∈ ss, Nm z) (one : 1 ≤ ss.length) (eight : ss.length ≤ 8) (keys : ∀ c ∈ cs, c.map (·.1) = ss) (ok : ∀ c ∈ cs, ∀ e ∈ c, StOk vs.length e.2) (vals : ∀ v ∈ vs, v.natAbs < 10 ^ 40) : MOk vs ss (cs.map (norm ss)) ∧ ∀ c ∈ cs, RowOk vs.length ss c := by
  have hr : ∀ c ∈ cs, RowOk vs.length ss c := fun c hc => ⟨by rw [keys c hc], ok c hc⟩
  refine ⟨?_, hr⟩
  rw [norms_id keys nodup]
  exact ⟨len, pos, most, sorted_eq (List.Perm.refl _) sorted, nodup, names, one, eight, hr, keys, vals⟩
def sA : Str := Str.ofString "a"
def sB : Str := Str.ofString "b"
def sX : Str := Str.ofString "x"
def RAB : DL.Row := [(sA, (0, none)), (sB, (1, some sX))]
def RA0 : DL.Row := [(sA, (0, none))]
def RA1 : DL.Row := [(sA, (0, some sX))]
theorem nm_x : Nm sX := by decide +kernel
theorem st0 {n : Nat} (h : 0 < n) : StOk n (0, none) := ⟨h, fun z hz => by cases hz⟩
theorem stx {n m : Nat} (h : m < n) : StOk n (m, some sX) := ⟨h, fun z hz => by cases hz; exact nm_x⟩
theorem mok1 : MOk [3, 4] [sA, sB] ([RAB, RAB].map (norm [sA, sB])) ∧ ∀ c ∈ [RAB, RAB], RowOk ([3, 4] : List Int).length [sA, sB] c := mok_can rfl (by decide) (by decide) (by decide +kernel) (by decide +kernel) (by decide +kernel) (by decide) (by decide) (by intro c hc; simp at hc; rw [hc]; rfl) (by
  intro c hc e he
  simp at hc
  rw [hc] at he
  simp only [RAB, List.mem_cons, List.not_mem_nil, or_false] at he
  rcases he with rfl | rfl
  · exact st0 (by decide)
  · exact stx (by decide)) (by decide)
theorem mok2 : MOk [0, 0] [sA] ([RA0, RA1].map (norm [sA])) ∧ ∀ c ∈ [RA0, RA1], RowOk ([0, 0] : List Int).length [sA] c := mok_can rfl (by decide) (by decide) (by decide +kernel) (by decide +kernel) (by decide +kernel) (by decide) (by decide) (by
  intro c hc
  simp only [List.mem_cons, List.not_mem_nil, or_false] at hc
  rcases hc with rfl | rfl <;> rfl) (by
  intro c hc e he
  simp only [List.mem_cons, List.not_mem_nil, or_false] at hc
  rcases hc with rfl | rfl
  · simp only [RA0, List.mem_cons, List.not_mem_nil, or_false] at he
    rw [he]; exact st0 (by decide)
  · simp only [RA1, List.mem_cons, List.not_mem_nil, or_false] at he
    rw [he]; exact stx (by decide)) (by decide)
/-! the wide one -/
def sC (a : Nat) : Str := ⟨#[97 + a]⟩
def s8 : List Str := (List.range 8).map sC
def WR (s : Nat) : DL.Row := (List.range 8).map fun a => (sC a, ((s + a) % 64, none))
def v64 : List Int := (List.range 64).map fun i : Nat => (i : Int)
def r64 : List DL.Row := (List.range 64).map WR
theorem wr_keys (s : Nat) : (WR s).map (·.1) = s8 := by
  unfold WR s8
  rw [List.map_map]
  rfl
theorem v64_len : v64.length = 64 := by unfold v64; rw [List.length_map, List.length_range]
theorem r64_len : r64.length = 64 := by unfold r64; rw [List.length_map, List.length_range]
theorem mok3 : MOk v64 s8 (r64.map (norm s8)) ∧ ∀ c ∈ r64, RowOk v64.length s8 c := mok_can (by rw [v64_len, r64_len]) (by rw [v64_len]; decide) (by rw [v64_len]; decide) (by decide +kernel) (by decide +kernel) (by decide +kernel) (by decide +kernel) (by decide +kernel) (fun c hc => by
  obtain ⟨s, _, rfl⟩ := List.mem_map.mp hc
  exact wr_keys s) (fun c hc e he => by
  obtain ⟨s, _, rfl⟩ := List.mem_map.mp hc
  obtain ⟨a, _, rfl⟩ := List.mem_map.mp he
  rw [v64_len]
  exact ⟨Nat.mod_lt _ (by decide), fun z hz => by cases hz⟩) (fun v hv => by
  obtain ⟨i, hi, rfl⟩ := List.mem_map.mp hv
  rw [List.mem_range] at hi
  omega)
theorem norm3 : r64.map (norm s8) = r64 := norms_id (fun c hc => by
  obtain ⟨s, _, rfl⟩ := List.mem_map.mp hc
  exact wr_keys s) mok3.1.nodup
theorem norm1 : [RAB, RAB].map (norm [sA, sB]) = [RAB, RAB] := norms_id (by intro c hc; simp at hc; rw [hc]; rfl) mok1.1.nodup
theorem norm2 : [RA0, RA1].map (norm [sA]) = [RA0, RA1] := norms_id (by
  intro c hc
  simp only [List.mem_cons, List.not_mem_nil, or_false] at hc
  rcases hc with rfl | rfl <;> rfl) mok2.1.nodup
theorem run3 : runF r64 60 s8 = (24, []) := by decide +kernel
theorem sil3 : silent r64 = true := by decide +kernel
theorem sil2 : silent [RA0, RA1] = false := by decide +kernel
theorem val3 : v64.getD 63 0 = 63 := by decide +kernel
theorem stp0 : rget ([RAB, RAB].getD 0 []) sA = (0, none) := by decide +kernel
theorem stp1 : rget ([RAB, RAB].getD 1 []) sA = (0, none) := by decide +kernel
theorem stb0 : rget ([RAB, RAB].getD 0 []) sB = (1, some sX) := by decide +kernel
theorem stb1 : rget ([RAB, RAB].getD 1 []) sB = (1, some sX) := by decide +kernel
theorem runb : ∀ (n i : Nat), i < 2 → runF [RAB, RAB] i (List.replicate n sB) = (if n = 0 then i else 1, List.replicate n sX)
  | 0, i, _ => rfl
  | n + 1, i, hi => by
    have h : rget ([RAB, RAB].getD i []) sB = (1, some sX) := by
      rcases Nat.lt_succ_iff_lt_or_eq.mp hi with h | h
      · have : i = 0 := by omega
        subst this; exact stb0
      · subst h; exact stb1
    rw [List.replicate_succ, runF, h]
    simp only [runb n 1 (by decide), List.replicate_succ, Option.toList_some, List.singleton_append, Nat.succ_ne_zero, if_false]
    congr 1
    split <;> simp
theorem run1 : runF [RAB, RAB] 0 (List.replicate 300 sB) = (1, List.replicate 300 sX) := runb 300 0 (by decide)
end K12

namespace K12
open PySem PySem.Spec PyProof.Rows L2 DL
theorem dicO2_ok {ρ : Slo} {L L1 L2 : Led} {fa fb : DM Sv} {x y : Str} {d1 d2 : Dv} (ha : fa ρ L = .ok (.val d1) L1) (hb : fb ρ L1 = .ok (.val d2) L2) (hne : x ≠ y) : dDicO [(dC (.str x), fa), (dC (.str y), fb)] ρ L = .ok (.val (.own L2.length)) (L2 ++ [.dic [(.inr x, d1), (.inr y, d2)]]) := by
  have hp : dPairs [(dC (.str x), fa), (dC (.str y), fb)] ρ L = .ok [(.val (.str x), .val d1), (.val (.str y), .val d2)] L2 := by
    show (fa ρ L).bind _ = _
    rw [ha]
    show ((fb ρ L1).bind _).bind _ = _
    rw [hb]
    rfl
  have hm : mergeD [] [((.inr x : Key), d1), ((.inr y : Key), d2)] = [(.inr x, d1), (.inr y, d2)] := by
    simp [mergeD, putD, hne]
  unfold dDicO dDisp
  rw [hp]
  show (if 2 ≤ 15 then Res.ok (Sv.val (Dv.own L2.length)) (L2 ++ [Ct.dic (mergeD [] [((.inr x : Key), d1), ((.inr y : Key), d2)])]) else .bad) = _
  rw [hm]
  rfl
theorem dic1_ok {ρ : Slo} {L L1 : Led} {fa : DM Sv} {x : Str} {d1 : Dv} (ha : fa ρ L = .ok (.val d1) L1) : dDic [(dC (.str x), fa)] ρ L = .ok (.val (.dic [(.inr x, d1)])) L1 := by
  have hp : dPairs [(dC (.str x), fa)] ρ L = .ok [(.val (.str x), .val d1)] L1 := by
    show (fa ρ L).bind _ = _
    rw [ha]
    rfl
  unfold dDic dDisp
  rw [hp]
  rfl
section
variable {L : Led} {p q r i n k : Nat} {X Y Wd : Dv} {o0 o1 o2 o3 o4 o5 o6 o7 : Option Sv} {ρ : Slo}
theorem t2_ok {a b : DM Sv} {x y : Dv} (ha : a ρ L = .ok (.val x) L) (hb : b ρ L = .ok (.val y) L) : dTup (dArgs a (dArgs b dArgs0)) ρ L = .ok (.val (.tup [x, y])) L := tup_ok (ss := [.val x, .val y]) (args_ok ha (args1_ok hb)) rfl two_sz
theorem l2_ok {a b : DM Sv} {x y : Dv} (ha : a ρ L = .ok (.val x) L) (hb : b ρ L = .ok (.val y) L) : dLst (dArgs a (dArgs b dArgs0)) ρ L = .ok (.val (.lst [x, y])) L := lst_ok (ss := [.val x, .val y]) (args_ok ha (args1_ok hb)) rfl two_sz
theorem f0_ok : b_l_fixed_right_0 [none, none, none, none, none, none, none, none] L = .ok (.nx [some (.val (.own L.length)), none, none, none, none, none, none, none]) (L ++ [.dic (rowK RAB)]) := by
  have h := dicO2_ok (ρ := [none, none, none, none, none, none, none, none]) (L := L) (x := sA) (y := sB) (t2_ok (a := dC (.int 0)) (b := dC .non) rfl rfl) (t2_ok (a := dC (.int 1)) (b := dC (.str sX)) rfl rfl) (by decide +kernel)
  exact set_ok h
theorem f1_ok (hk : L[k]? = some (.dic (rowK RAB))) : b_l_fixed_right_1 [some (.val (.own k)), none, none, none, none, none, none, none] L = .ok (.nx [some (.val (.own k)), some (.val (machD [3, 4] [sA, sB] ([RAB, RAB].map (norm [sA, sB])))), some (.val (machD [0, 0] [sA] ([RA0, RA1].map (norm [sA])))), none, none, none, none, none]) (L ++ [.gone] ++ [.gone]) := by
  have m1 := make_ok (fr := dArgs (dLst (dArgs (dC (.int 3)) (dArgs (dC (.int 4)) dArgs0))) (dArgs (dLst (dArgs (dVar 0) (dArgs (dVar 0) dArgs0))) dArgs0)) (ρ := [some (.val (.own k)), none, none, none, none, none, none, none]) (L := L) (L1 := L) (s := .val (.lst [.int 3, .int 4])) (t := .val (.lst [.own k, .own k])) (ds := [.own k, .own k]) (rs := [RAB, RAB]) (vs := [3, 4]) (args_ok (l2_ok rfl rfl) (args1_ok (l2_ok rfl rfl))) rfl rfl (.cons (row_own hk) (.cons (row_own hk) .nil)) mok1.2 mok1.1
  have m2 := make_ok (fr := dArgs (dLst (dArgs (dC (.int 0)) (dArgs (dC (.int 0)) dArgs0))) (dArgs (dLst (dArgs (dDic [(dC (.str "a"), (dTup (dArgs (dC (.int 0)) (dArgs (dC .non) dArgs0))))]) (dArgs (dDic [(dC (.str "a"), (dTup (dArgs (dC (.int 0)) (dArgs (dC (.str "x")) dArgs0))))]) dArgs0))) dArgs0)) (ρ := [some (.val (.own k)), none, none, none, none, none, none, none]) (L := L ++ [Ct.gone]) (L1 := L ++ [Ct.gone]) (s := .val (.lst [.int 0, .int 0])) (t := .val (.lst [.dic (rowK RA0), .dic (rowK RA1)])) (ds := [.dic (rowK RA0), .dic (rowK RA1)]) (rs := [RA0, RA1]) (vs := [0, 0]) (args_ok (l2_ok rfl rfl) (args1_ok (l2_ok (dic1_ok (t2_ok rfl rfl)) (dic1_ok (t2_ok rfl rfl))))) rfl rfl (.cons rfl (.cons rfl .nil)) mok2.2 mok2.1
  generalize machD [3, 4] [sA, sB] ([RAB, RAB].map (norm [sA, sB])) = X at m1 ⊢
  generalize machD [0, 0] [sA] ([RA0, RA1].map (norm [sA])) = Y at m2 ⊢
  exact par_ok m1 m2
theorem f2_ok {ks : List (Key × Dv)} (hk : L[k]? = some (.dic ks)) (hl : ks.length ≤ 1000) : ∃ L', b_l_fixed_right_2 [some (.val (.own k)), some (.val X), some (.val Y), none, none, none, none, none] L = .ok (.nx [some (.val (.own k)), some (.val X), some (.val Y), none, none, none, none, none]) L' := by
  refine ⟨L.set k (.dic (putD ks (.inr sA) (.tup [.int 1, .str "y"]))), ?_⟩
  have ht : dTup (dArgs (dC (.int 1)) (dArgs (dC (.str "y")) dArgs0)) [some (.val (.own k)), some (.val X), some (.val Y), none, none, none, none, none] L = .ok (.val (.tup [.int 1, .str "y"])) L := t2_ok rfl rfl
  have hs : setLed (.val (.own k)) (.val (.str "a")) (.val (.tup [.int 1, .str "y"])) L = some (L.set k (.dic (putD ks (.inr sA) (.tup [.int 1, .str "y"])))) := by
    have hlt : ks.length < sizeLine := by rw [sizeLine_eq]; omega
    have hkey : (Sv.val (.str "a")).key = some (.inr sA) := rfl
    unfold setLed
    simp only [hk, hkey, hlt, if_true]
  unfold b_l_fixed_right_2 sAsg
  rw [ht]
  show (noErr (match setLed (.val (.own k)) (.val (.str "a")) (.val (.tup [.int 1, .str "y"])) L with
    | some L3 => Res.ok [some (Sv.val (.own k)), some (.val X), some (.val Y), none, none, none, none, none] L3
    | none => .bad)).bind _ = _
  rw [hs]
  rfl
theorem ne4 : gNe (.val (.lst [.tup [.int 0, .non], .tup [.int 0, .non], .bl false])) (.val (.lst [.tup [.int 0, .non], .tup [.int 0, .non], .bl false])) L = some (.val (.bl false)) := rfl
theorem f4_ok (H1 : IsM X [3, 4] [sA, sB] ([RAB, RAB].map (norm [sA, sB]))) (H2 : IsM Y [0, 0] [sA] ([RA0, RA1].map (norm [sA]))) {o0 : Option Sv} : b_l_fixed_right_4 [o0, some (.val X), some (.val Y), none, none, none, none, none] L = .ok (.nx [o0, some (.val X), some (.val Y), none, none, none, none, none]) L := by
  have hs : ∀ i : Nat, i < 2 → m_Machine_step [.val X, .val (.int (i : Int)), .val (.str sA)] L = .ok (.tup [.int 0, .non]) L := fun i hi => by
    have h := step_val (L := L) (i := i) (z := sA) H1 mok1.1 hi (by simp)
    rw [norm1] at h
    have e : rget ([RAB, RAB].getD i []) sA = (0, none) := by
      rcases Nat.lt_succ_iff_lt_or_eq.mp hi with h | h
      · have : i = 0 := by omega
        subst this; exact stp0
      · subst h; exact stp1
    rw [e] at h
    exact h
  have q1 := meth_ok (mn := "step") (n := 2) (fo := dVar 1) (fr := dArgs (dC (.int 0)) (dArgs (dC (.str "a")) dArgs0)) (ρ := [o0, some (.val X), some (.val Y), none, none, none, none, none]) (L := L) (o := .val X) (ss := [.val (.int ((0 : Nat) : Int)), .val (.str sA)]) rfl (H1.sStep L) rfl rfl (hs 0 (by decide))
  have q2 := meth_ok (mn := "step") (n := 2) (fo := dVar 1) (fr := dArgs (dC (.int 1)) (dArgs (dC (.str "a")) dArgs0)) (ρ := [o0, some (.val X), some (.val Y), none, none, none, none, none]) (L := L) (o := .val X) (ss := [.val (.int ((1 : Nat) : Int)), .val (.str sA)]) rfl (H1.sStep L) rfl rfl (hs 1 (by decide))
  have q3 : dProp "is_silent" [("Machine", m_Machine_is_silent)] (dVar 2) [o0, some (.val X), some (.val Y), none, none, none, none, none] L = .ok (.val (.bl false)) L := by
    have h := silent_val (L := L) H2
    rw [norm2, sil2] at h
    unfold dProp
    show (match (Sv.val Y).ob L with
      | some (c, _) => match ([("Machine", m_Machine_is_silent)] : List (Str × Mir)).lookup c with
        | some m => toSv (noErr (m [.val Y] L))
        | none => .bad
      | none => .bad) = _
    rw [H2.ob L]
    show toSv (noErr (m_Machine_is_silent [.val Y] L)) = _
    rw [h]
    rfl
  have ha : dLst (dArgs (dMeth "step" 2 [("Machine", m_Machine_step)] (dVar 1) (dArgs (dC (.int 0)) (dArgs (dC (.str "a")) dArgs0))) (dArgs (dMeth "step" 2 [("Machine", m_Machine_step)] (dVar 1) (dArgs (dC (.int 1)) (dArgs (dC (.str "a")) dArgs0))) (dArgs (dProp "is_silent" [("Machine", m_Machine_is_silent)] (dVar 2)) dArgs0))) [o0, some (.val X), some (.val Y), none, none, none, none, none] L = .ok (.val (.lst [.tup [.int 0, .non], .tup [.int 0, .non], .bl false])) L := lst_ok (args_ok q1 (args_ok q2 (args1_ok q3))) rfl (sz_le (by show 3 ≤ _; omega))
  have hb : dLst (dArgs (dTup (dArgs (dC (.int 0)) (dArgs (dC .non) dArgs0))) (dArgs (dTup (dArgs (dC (.int 0)) (dArgs (dC .non) dArgs0))) (dArgs (dC (.bl false)) dArgs0))) [o0, some (.val X), some (.val Y), none, none, none, none, none] L = .ok (.val (.lst [.tup [.int 0, .non], .tup [.int 0, .non], .bl false])) L := lst_ok (ss := [.val (.tup [.int 0, .non]), .val (.tup [.int 0, .non]), .val (.bl false)]) (args_ok (t2_ok rfl rfl) (args_ok (t2_ok rfl rfl) rfl)) rfl (sz_le (by show 3 ≤ _; omega))
  unfold b_l_fixed_right_4
  rw [if_f (L1 := L) (by unfold dB; rw [op_ok ha hb ne4]; rfl)]
  rfl
end
end K12

namespace K12
open PySem PySem.Spec PyProof.Rows L2 DL
def sH : Str := Str.ofString "abcdefgh"
theorem sH_chars : (sH.cps.toList.map fun c => Dv.str ⟨#[c]⟩) = s8.map .str := by kernel_rfl
theorem sH_enum : enumF 0 (s8.map .str) = (List.range 8).map fun a : Nat => Dv.tup [.int (a : Int), .str (sC a)] := by kernel_rfl
theorem wr_dict {s : Nat} {L : Led} : gDict [.val (.lst ((List.range 8).map fun a => .tup [.str (sC a), stD ((s + a) % 64, none)]))] L = some (rowK (WR s)) := by kernel_rfl
theorem modc (s a : Nat) : ((s : Int) + (a : Int)) % 64 = (((s + a) % 64 : Nat) : Int) := by omega
section
variable {L : Led} {p q r i n k : Nat} {X Y Wd : Dv} {o0 o1 o2 o3 o4 o5 o6 o7 : Option Sv} {ρ : Slo}
theorem f7_ok {s : Nat} {ds : List Dv} (hl : ds.length ≤ 1000) : b_l_fixed_right_7 [o0, o1, o2, some (.mu ds), some (.val (.int (s : Int))), o5, o6, o7] L = .ok (.nx [o0, o1, o2, some (.mu (ds ++ [.dic (rowK (WR s))])), some (.val (.int (s : Int))), o5, o6, o7]) L := by
  have c := cl_all (T := .tup [6, 7]) (ft := dTr) (fe := ce_l_fixed_right_6) (ρ := [o0, o1, o2, some (.mu ds), some (.val (.int (s : Int))), o5, none, none]) (L := L) (fun a : Nat => Dv.tup [.int (a : Int), .str (sC a)]) (fun a => .tup [.str (sC a), stD ((s + a) % 64, none)]) (List.range 8) (fun a _ => by
    refine ⟨_, rfl, rfl, ?_⟩
    refine t2_ok (x := .str (sC a)) rfl ?_
    refine t2_ok (x := .int (((s + a) % 64 : Nat) : Int)) (y := .non) ?_ rfl
    refine op_ok (a := .val (.int ((s : Int) + (a : Int)))) (b := .val (.int 64)) (op_ok (a := .val (.int (s : Int))) (b := .val (.int (a : Int))) rfl rfl rfl) rfl ?_
    rw [← modc]
    rfl) (sz_le (by decide))
  have hi : iEn (dC (.str "abcdefgh")) [o0, o1, o2, some (.mu ds), some (.val (.int (s : Int))), o5, o6, o7] L = .ok ⟨(List.range 8).map fun a : Nat => Dv.tup [.int (a : Int), .str (sC a)], true⟩ L := by
    show Res.ok (⟨enumF 0 (sH.cps.toList.map fun c => Dv.str ⟨#[c]⟩), true⟩ : Src) L = _
    rw [sH_chars, sH_enum]
  have hd : dBiK false gDict (dArgs (dLc (iEn (dC (.str "abcdefgh"))) (.tup [6, 7]) dTr ce_l_fixed_right_6 [6, 7]) dArgs0) [o0, o1, o2, some (.mu ds), some (.val (.int (s : Int))), o5, o6, o7] L = .ok (.val (.dic (rowK (WR s)))) L := by
    unfold dBiK
    rw [args1_ok (lc_ok hi c)]
    show (match gDict [.val (.lst ((List.range 8).map fun a => .tup [.str (sC a), stD ((s + a) % 64, none)]))] L with
      | some ks => newK false ks L
      | none => .bad) = _
    rw [wr_dict]
    rfl
  have hlt : ds.length < sizeLine := by rw [sizeLine_eq]; omega
  unfold b_l_fixed_right_7 sApp
  simp only [List.getElem?_cons_succ, List.getElem?_cons_zero, hd, Res.bind_ok, hlt, if_true, List.set_cons_succ, List.set_cons_zero]
theorem f8_ok {P : Option Sv} : ∃ o4', b_l_fixed_right_8 [o0, o1, o2, some (.mu []), none, o5, o6, o7] L = .ok (.nx [o0, o1, o2, some (.mu (r64.map fun r => .dic (rowK r))), o4', o5, o6, o7]) L := by
  have key : ∀ (is : List Nat) (as : List Nat) (o4 : Option Sv), as.length + is.length ≤ 100 → ∃ o4', fLoop (.one 4) b_l_fixed_right_7 (is.map fun i : Nat => Dv.int (i : Int)) [o0, o1, o2, some (.mu (as.map fun s => .dic (rowK (WR s)))), o4, o5, o6, o7] L = .ok (.nx [o0, o1, o2, some (.mu ((as ++ is).map fun s => .dic (rowK (WR s)))), o4', o5, o6, o7]) L := by
    intro is
    induction is with
    | nil => intro as o4 _; exact ⟨o4, by simp [fLoop]⟩
    | cons s is ih =>
      intro as o4 hl
      simp only [List.length_cons] at hl
      obtain ⟨o4', e⟩ := ih (as ++ [s]) (some (.val (.int (s : Int)))) (by simp; omega)
      refine ⟨o4', ?_⟩
      have hset : Tg.set (.one 4) (.int (s : Int)) [o0, o1, o2, some (.mu (as.map fun s => .dic (rowK (WR s)))), o4, o5, o6, o7] = some [o0, o1, o2, some (.mu (as.map fun s => .dic (rowK (WR s)))), some (.val (.int (s : Int))), o5, o6, o7] := rfl
      have h7 := f7_ok (L := L) (o0 := o0) (o1 := o1) (o2 := o2) (o5 := o5) (o6 := o6) (o7 := o7) (s := s) (ds := as.map fun s => .dic (rowK (WR s))) (by rw [List.length_map]; omega)
      have ha : (as.map fun s => Dv.dic (rowK (WR s))) ++ [.dic (rowK (WR s))] = (as ++ [s]).map fun s => .dic (rowK (WR s)) := by simp
      rw [ha] at h7
      simp only [List.map_cons, fLoop, hset, h7, Res.bind, e, List.append_assoc, List.singleton_append]
  obtain ⟨o4', e⟩ := key (List.range 64) [] none (by simp)
  refine ⟨o4', ?_⟩
  have hR : iR1 (dC (.int 64)) [o0, o1, o2, some (.mu []), none, o5, o6, o7] L = .ok ⟨upF 0 64, true⟩ L := iR1_eq (j := 64) rfl (rg_small (by decide) (by decide))
  rw [up_map] at hR
  have h := for_ok (T := .one 4) hR e
  have e2 : (([] ++ List.range 64).map fun s => Dv.dic (rowK (WR s))) = r64.map fun r => .dic (rowK r) := by
    unfold r64
    rw [List.nil_append, List.map_map]
    rfl
  rw [e2] at h
  exact h
theorem v64_up : upF 0 64 = v64.map .int := by
  rw [up_map]
  unfold v64
  rw [List.map_map]
  rfl
theorem f9_ok : b_l_fixed_right_9 [o0, o1, o2, some (.val (.lst (r64.map fun r => .dic (rowK r)))), o4, o5, o6, o7] L = .ok (.nx [o0, o1, o2, some (.val (.lst (r64.map fun r => .dic (rowK r)))), o4, some (.val (machD v64 s8 (r64.map (norm s8)))), o6, o7]) (L ++ [.gone]) := by
  have hg : dLrg false (dC (.int 64)) [o0, o1, o2, some (.val (.lst (r64.map fun r => .dic (rowK r)))), o4, o5, o6, o7] L = .ok (.val (.lst (v64.map .int))) L := by
    rw [← v64_up]
    show (if (0 : Int) ≤ 64 ∧ (64 : Int) ≤ 16777216 then newL false (upF 0 (64 : Int).toNat) L else .bad) = _
    rw [if_pos ⟨by decide, by decide⟩]
    rfl
  have m1 := make_ok (fr := dArgs (dLrg false (dC (.int 64))) (dArgs (dVar 3) dArgs0)) (ρ := [o0, o1, o2, some (.val (.lst (r64.map fun r => .dic (rowK r)))), o4, o5, o6, o7]) (L := L) (L1 := L) (s := .val (.lst (v64.map .int))) (t := .val (.lst (r64.map fun r => .dic (rowK r)))) (ds := r64.map fun r => .dic (rowK r)) (rs := r64) (vs := v64) (args_ok hg rfl) rfl rfl (paired_dic _) mok3.2 mok3.1
  generalize machD v64 s8 (r64.map (norm s8)) = X at m1 ⊢
  exact set_ok m1
theorem ne24 : gNe (.val (.tup [.int 24, .tup []])) (.val (.tup [.int 24, .tup []])) L = some (.val (.bl false)) := rfl
theorem ne63 : gNe (.val (.int 63)) (.val (.int 63)) L = some (.val (.bl false)) := rfl
theorem rd24 : runD (24, []) = .tup [.int 24, .tup []] := rfl
theorem f11_ok (H : IsM Wd v64 s8 (r64.map (norm s8))) : b_l_fixed_right_11 [o0, o1, o2, o3, o4, some (.val Wd), o6, o7] L = .ok (.nx [o0, o1, o2, o3, o4, some (.val Wd), o6, o7]) L := by
  have hv : v64.length = 64 := v64_len
  have r1 := run_val (L := L) (i := 60) (ws := s8) (s := .val (.lst (s8.map .str))) H mok3.1 (by rw [hv]; decide) (fun _ h => h) (by decide) (.inl rfl)
  rw [norm3, run3, rd24] at r1
  have r1' : m_Machine_run [.val Wd, .val (.int 60), .val (.lst (s8.map .str))] L = .ok (.tup [.int 24, .tup []]) L := r1
  have r2 := value_of_ok (L := L) (i := 63) H (by rw [hv]; decide) (by rw [hv]; decide)
  rw [val3] at r2
  have r2' : m_Machine_value_of [.val Wd, .val (.int 63)] L = .ok (.int 63) L := r2
  have hls : gLst4 [.val (.str sH)] L = some (s8.map .str) := by
    rw [← sH_chars]
    rfl
  have ha : dArgs (dC (.int 60)) (dArgs (dBiL false gLst4 (dArgs (dC (.str "abcdefgh")) dArgs0)) dArgs0) [o0, o1, o2, o3, o4, some (.val Wd), o6, o7] L = .ok [.val (.int 60), .val (.lst (s8.map .str))] L := args_ok (s := .val (.int 60)) rfl (args1_ok (biL_f (args1_ok (s := .val (.str sH)) rfl) hls))
  have q1 := meth_ok (mn := "run") (n := 2) (fo := dVar 5) (ρ := [o0, o1, o2, o3, o4, some (.val Wd), o6, o7]) (L := L) (o := .val Wd) rfl (H.sRun L) ha rfl r1'
  have z24 : dTup (dArgs (dC (.int 24)) (dArgs (dTup dArgs0) dArgs0)) [o0, o1, o2, o3, o4, some (.val Wd), o6, o7] L = .ok (.val (.tup [.int 24, .tup []])) L := t2_ok rfl tup0_ok
  have q2 : dProp "is_silent" [("Machine", m_Machine_is_silent)] (dVar 5) [o0, o1, o2, o3, o4, some (.val Wd), o6, o7] L = .ok (.val (.bl true)) L := by
    have h := silent_val (L := L) H
    rw [norm3, sil3] at h
    unfold dProp
    show (match (Sv.val Wd).ob L with
      | some (c, _) => match ([("Machine", m_Machine_is_silent)] : List (Str × Mir)).lookup c with
        | some m => toSv (noErr (m [.val Wd] L))
        | none => .bad
      | none => .bad) = _
    rw [H.ob L]
    show toSv (noErr (m_Machine_is_silent [.val Wd] L)) = _
    rw [h]
    rfl
  have hb : dArgs (dC (.int 63)) dArgs0 [o0, o1, o2, o3, o4, some (.val Wd), o6, o7] L = .ok [.val (.int 63)] L := rfl
  have q3 := meth_ok (mn := "value_of") (n := 1) (fo := dVar 5) (ρ := [o0, o1, o2, o3, o4, some (.val Wd), o6, o7]) (L := L) (o := .val Wd) rfl (H.sVal L) hb rfl r2'
  have p1 := op_ok q1 z24 ne24
  have p2 := op_ok (g := gIsB true) (fb := dC (.bl true)) (s := .val (.bl false)) q2 (b := .val (.bl true)) rfl rfl
  have p3 := op_ok (fb := dC (.int 63)) q3 (b := .val (.int 63)) rfl ne63
  unfold b_l_fixed_right_11
  rw [if_f (L1 := L) (by
    unfold dOr dB
    rw [p1]
    show (dOr (dB _) (dB _)) _ L = _
    unfold dOr dB
    rw [p2]
    show dB _ _ L = _
    unfold dB
    rw [p3]
    rfl)]
  rfl
theorem mul300 : gMul (.val (.lst [.str sB])) (.val (.int 300)) L = some (.val (.lst ((List.replicate 300 sB).map .str))) := by kernel_rfl
theorem mulT300 : gMulT (.val (.tup [.str sX])) (.val (.int 300)) L = some (.val (.tup ((List.replicate 300 sX).map .str))) := by kernel_rfl
theorem eq300 : gEq (.val (.tup [.int 1, .tup ((List.replicate 300 sX).map .str)])) (.val (.tup [.int 1, .tup ((List.replicate 300 sX).map .str)])) L = some (.val (.bl true)) := by kernel_rfl
end
end K12

namespace K12
open PySem PySem.Spec PyProof.Rows L2 DL
section
variable {L : Led} {X Y Wd : Dv} {o0 o1 o2 o3 o4 o5 o6 o7 : Option Sv}
theorem rd300 : runD (1, List.replicate 300 sX) = .tup [.int 1, .tup ((List.replicate 300 sX).map .str)] := rfl
theorem f12_ok (H : IsM X [3, 4] [sA, sB] ([RAB, RAB].map (norm [sA, sB]))) : b_l_fixed_right_12 [o0, some (.val X), o2, o3, o4, o5, o6, o7] L = .ok (.rt (.bl true)) L := by
  have r1 := run_val (L := L) (i := 0) (ws := List.replicate 300 sB) (s := .val (.lst ((List.replicate 300 sB).map .str))) H mok1.1 (by decide) (fun w h => by rw [List.eq_of_mem_replicate h]; simp) (by rw [List.length_replicate]; decide) (.inl rfl)
  rw [norm1, run1, rd300] at r1
  have r1' : m_Machine_run [.val X, .val (.int 0), .val (.lst ((List.replicate 300 sB).map .str))] L = .ok (.tup [.int 1, .tup ((List.replicate 300 sX).map .str)]) L := r1
  have e300 := eq300 (L := L)
  have m300 := mul300 (L := L)
  have t300 := mulT300 (L := L)
  generalize (List.replicate 300 sB).map Dv.str = Bs at r1' m300
  generalize (List.replicate 300 sX).map Dv.str = Xs at r1' t300 e300
  have ha : dArgs (dC (.int 0)) (dArgs (dOp gMul (dLst (dArgs (dC (.str "b")) dArgs0)) (dC (.int 300))) dArgs0) [o0, some (.val X), o2, o3, o4, o5, o6, o7] L = .ok [.val (.int 0), .val (.lst Bs)] L := by
    refine args_ok (s := .val (.int 0)) rfl (args1_ok (op_ok (a := .val (.lst [.str sB])) (b := .val (.int 300)) ?_ rfl m300))
    exact lst_ok (ss := [.val (.str sB)]) rfl rfl one_sz
  have q1 := meth_ok (mn := "run") (n := 2) (fo := dVar 1) (ρ := [o0, some (.val X), o2, o3, o4, o5, o6, o7]) (L := L) (o := .val X) rfl (H.sRun L) ha rfl r1'
  have q2 : dOp gMulT (dTup (dArgs (dC (.str "x")) dArgs0)) (dC (.int 300)) [o0, some (.val X), o2, o3, o4, o5, o6, o7] L = .ok (.val (.tup Xs)) L := by
    refine op_ok (a := .val (.tup [.str sX])) (b := .val (.int 300)) ?_ rfl t300
    exact tup_ok (ss := [.val (.str sX)]) rfl rfl one_sz
  exact ret_ok (op_ok q1 (t2_ok (x := .int 1) rfl q2) e300)
theorem fixed_ok : ∃ L', m_l_fixed_right [] L = .ok (.bl true) L' := by
  unfold m_l_fixed_right
  rw [mOf_eq]
  show ∃ L', endOf (fb_l_fixed_right [none, none, none, none, none, none, none, none] L) = _
  have hk : (L ++ [Ct.dic (rowK RAB)])[L.length]? = some (.dic (rowK RAB)) := by simp
  have s1 := f1_ok hk
  have I1 : IsM (machD [3, 4] [sA, sB] ([RAB, RAB].map (norm [sA, sB]))) [3, 4] [sA, sB] ([RAB, RAB].map (norm [sA, sB])) := isM_mach
  have I2 : IsM (machD [0, 0] [sA] ([RA0, RA1].map (norm [sA]))) [0, 0] [sA] ([RA0, RA1].map (norm [sA])) := isM_mach
  generalize machD [3, 4] [sA, sB] ([RAB, RAB].map (norm [sA, sB])) = X at s1 I1
  generalize machD [0, 0] [sA] ([RA0, RA1].map (norm [sA])) = Y at s1 I2
  obtain ⟨L2, s2⟩ := f2_ok (X := X) (Y := Y) (L := L ++ [Ct.dic (rowK RAB)] ++ [.gone] ++ [.gone]) (k := L.length) (ks := rowK RAB) (app_get (app_get hk)) (by decide)
  have s4 := f4_ok (L := L2) I1 I2 (o0 := some (.val (.own L.length)))
  have s5 : b_l_fixed_right_5 [some (.val (.own L.length)), some (.val X), some (.val Y), none, none, none, none, none] L2 = .ok (.nx [some (.val (.own L.length)), some (.val X), some (.val Y), some (.mu []), none, none, none, none]) L2 := by
    simp [b_l_fixed_right_5]
  obtain ⟨o4, q8⟩ := f8_ok (P := none) (L := L2) (o0 := some (.val (.own L.length))) (o1 := some (.val X)) (o2 := some (.val Y)) (o5 := none) (o6 := none) (o7 := none)
  have s9 := f9_ok (L := L2) (o0 := some (.val (.own L.length))) (o1 := some (.val X)) (o2 := some (.val Y)) (o4 := o4) (o5 := none) (o6 := none) (o7 := none)
  have I3 : IsM (machD v64 s8 (r64.map (norm s8))) v64 s8 (r64.map (norm s8)) := isM_mach
  generalize machD v64 s8 (r64.map (norm s8)) = Wd at s9 I3
  have s11 := f11_ok (L := L2 ++ [.gone]) (o0 := some (.val (.own L.length))) (o1 := some (.val X)) (o2 := some (.val Y)) (o3 := some (.val (.lst (r64.map fun r => .dic (rowK r))))) (o4 := o4) (o6 := none) (o7 := none) I3
  have s12 := f12_ok (L := L2 ++ [.gone]) (o0 := some (.val (.own L.length))) (o2 := some (.val Y)) (o3 := some (.val (.lst (r64.map fun r => .dic (rowK r))))) (o4 := o4) (o5 := some (.val Wd)) (o6 := none) (o7 := none) I1
  refine ⟨L2 ++ [.gone], ?_⟩
  unfold fb_l_fixed_right
  rw [seq_nx f0_ok, seq_nx s1, seq_nx s2, seq_nx s4, seq_nx s5, seq_nx q8, frz_mu (xs := r64.map fun r => .dic (rowK r)) rfl]
  show endOf (sSeq b_l_fixed_right_9 (sSeq b_l_fixed_right_11 b_l_fixed_right_12) [some (.val (.own L.length)), some (.val X), some (.val Y), some (.val (.lst (r64.map fun r => .dic (rowK r)))), o4, none, none, none] L2) = _
  rw [seq_nx s9, seq_nx s11, s12]
  rfl
theorem law2_ok {p : Nat} (hp : PotAt L p) {A B : Option Sv} : ∃ L', b_law_2 [A, B, some (.val (.own p))] L = .ok (.nx [A, B, some (.val (.own p))]) L' := by
  obtain ⟨L1, e1, hp1⟩ := right_ok hp
  obtain ⟨L2, e2, _⟩ := right_ok hp1
  refine ⟨L2, ?_⟩
  have c1 := call_ok (n := 1) (m := m_l_right) (fr := dArgs (dVar 2) dArgs0) (ρ := [A, B, some (.val (.own p))]) (ss := [.val (.own p)]) rfl rfl e1
  have c2 := call_ok (n := 1) (m := m_l_right) (fr := dArgs (dVar 2) dArgs0) (ρ := [A, B, some (.val (.own p))]) (ss := [.val (.own p)]) rfl rfl e2
  unfold b_law_2
  rw [if_f (L1 := L2) (by
    unfold dOr dNot dB
    rw [c1]
    show (dNot (dB (dCall 1 m_l_right (dArgs (dVar 2) dArgs0)))) _ L1 = _
    unfold dNot dB
    rw [c2]
    rfl)]
  rfl
end
/-- THE PLAIN LAW -/
theorem law_true (ns : List Int) (hl : ns.length ≤ 63) : (m_law [.val (.scr ns)] []).wp (fun d _ => d = .bl true) (fun _ _ _ => False) := by
  have key : ∃ L', m_law [.val (.scr ns)] [] = .ok (.bl true) L' := by
    unfold m_law
    rw [mOf_eq]
    show ∃ L', endOf (fb_law [some (.val (.scr ns)), none, none] []) = _
    obtain ⟨n, hn, hn5⟩ : ∃ n : Nat, (if (if (ns.length : Int) < 5 then (ns.length : Int) else 5) > 1 then (if (ns.length : Int) < 5 then (ns.length : Int) else 5) else 1) = (n : Int) ∧ n ≤ 5 := ⟨(if (if (ns.length : Int) < 5 then (ns.length : Int) else 5) > 1 then (if (ns.length : Int) < 5 then (ns.length : Int) else 5) else 1).toNat, by split <;> split <;> omega, by split <;> split <;> omega⟩
    obtain ⟨ρ', L', e, ⟨o1, o2, rfl⟩⟩ := fl_inv (T := .one 1) (fb := sSeq b_law_0 b_law_2) (Inv := fun _ ρ _ => ∃ o1 o2, ρ = [some (.val (.scr ns)), o1, o2]) (upF 0 n) 0 (fun i d hd ρ LL I => by
      obtain ⟨o1, o2, rfl⟩ := I
      rw [up_map, List.getElem?_map] at hd
      obtain ⟨j, hj, rfl⟩ := Option.map_eq_some_iff.mp hd
      obtain ⟨hjl, hje⟩ := List.getElem?_eq_some_iff.mp hj
      rw [List.getElem_range] at hje
      subst hje
      rw [List.length_range] at hjl
      obtain ⟨a, b, e0, hp⟩ := pot_ok (L := LL) (ns := ns) (k := i) (by omega) hl
      have t0 : b_law_0 [some (.val (.scr ns)), some (.val (.int (i : Int))), o2] LL = .ok (.nx [some (.val (.scr ns)), some (.val (.int (i : Int))), some (.val (.own LL.length))]) (LL ++ [.lst [.int a, .int b]]) := set_ok (call_ok (args_ok (s := .val (.scr ns)) rfl (args1_ok (s := .val (.int (i : Int))) rfl)) rfl e0)
      obtain ⟨L2, t2⟩ := law2_ok hp (A := some (.val (.scr ns))) (B := some (.val (.int (i : Int))))
      refine ⟨_, [some (.val (.scr ns)), some (.val (.int (i : Int))), some (.val (.own LL.length))], L2, rfl, ?_, some (.val (.int (i : Int))), some (.val (.own LL.length)), rfl⟩
      show sSeq b_law_0 b_law_2 [some (.val (.scr ns)), some (.val (.int (i : Int))), o2] LL = _
      rw [seq_nx t0]
      exact t2) [some (.val (.scr ns)), none, none] [] ⟨none, none, rfl⟩
    have hmax : dBi gMax (dArgs (dC (.int 1)) (dArgs (dBi gMin (dArgs (dC (.int 5)) (dArgs (dBi gLen (dArgs (dVar 0) dArgs0)) dArgs0))) dArgs0)) [some (.val (.scr ns)), none, none] [] = .ok (.val (.int (n : Int))) [] := by
      rw [← hn]
      have h1 : gLen [.val (.scr ns)] [] = some (.val (.int ns.length)) := by simp [gLen, Sv.seqL]
      exact bi_ok (args_ok (s := .val (.int 1)) rfl (args1_ok (bi_ok (args_ok (s := .val (.int 5)) rfl (args1_ok (bi_ok (args1_ok (s := .val (.scr ns)) rfl) h1))) rfl))) rfl
    have hR := iR1_eq hmax (rg_small (by omega) (by omega))
    rw [Int.toNat_natCast] at hR
    have s3 : b_law_3 [some (.val (.scr ns)), none, none] [] = _ := for_ok (T := .one 1) hR e
    obtain ⟨L2, ef⟩ := fixed_ok (L := L')
    have hq : gEq (.val (.int 64)) (.val (.int 64)) L' = some (.val (.bl true)) := rfl
    have s4 : b_law_4 [some (.val (.scr ns)), o1, o2] L' = .ok (.rt (.bl true)) L2 := by
      refine ret_ok ?_
      unfold dAndV
      rw [op_ok (g := gEq) (fa := dC (.int 64)) (fb := dC (.int 64)) (ρ := [some (.val (.scr ns)), o1, o2]) (a := .val (.int 64)) (b := .val (.int 64)) rfl rfl hq]
      show dCall 0 m_l_fixed_right dArgs0 [some (.val (.scr ns)), o1, o2] L' = _
      exact call_ok (n := 0) (fr := dArgs0) (ss := []) rfl rfl ef
    refine ⟨L2, ?_⟩
    unfold fb_law
    rw [seq_nx s3, s4]
    rfl
  obtain ⟨L', e⟩ := key
  rw [e]
  rfl
end K12

namespace K12
open PySem PySem.Spec PyProof.Rows L2 DL
def fa : List He.Fa := [.glo "Machine", .noat "Machine" "own_key", .cls "Machine", .noat "Machine" "own_lines", .noat "Machine" "own_silence", .noat "Machine" "own_steps", .noat "Machine" "own_symbols", .noat "Machine" "own_values", .str "LETTERS" "abcdefghijklmnopqrstuvwxyz", .int "MOST_LETTERS" 8, .int "MOST_SYMBOLS" 8, .str "NO_OUTPUT" "-", .str "STATE" "state", .mkr "Machine", .free "abs", .free "all", .free "bool", .free "dict", .free "divmod", .free "enumerate", .free "int", .free "isinstance", .free "len", .free "list", .free "max", .free "min", .free "range", .free "repr", .free "sorted", .free "str", .free "tuple", .free "zip", .glo "_law_pot", .keep "_law_pot", .glo "_law_digit", .keep "_law_digit", .glo "_law_pick", .keep "_law_pick", .glo "_law_names", .keep "_law_names", .glo "_law_mixed", .keep "_law_mixed", .glo "_law_table", .keep "_law_table", .glo "is_list", .keep "is_list", .glo "is_integer", .keep "is_integer", .glo "check_values", .keep "check_values", .glo "is_name", .keep "is_name", .glo "first_wrong_symbol", .keep "first_wrong_symbol", .glo "is_alphabet", .keep "is_alphabet", .glo "has_symbols", .keep "has_symbols", .glo "is_step", .keep "is_step", .glo "check_steps", .keep "check_steps", .glo "state_line", .keep "state_line", .meth "Machine" "__init__", .glo "_law_due", .keep "_law_due", .glo "_law_word", .keep "_law_word", .meth "Machine" "__len__", .glo "_law_run", .keep "_law_run", .glo "require_state", .keep "require_state", .glo "is_symbol", .keep "is_symbol", .glo "first_wrong_entry", .keep "first_wrong_entry", .glo "require_word", .keep "require_word", .meth "Machine" "run", .glo "_law_runs_right", .keep "_law_runs_right", .glo "require_symbol", .keep "require_symbol", .meth "Machine" "step", .meth "Machine" "__repr__", .meth "Machine" "value_of", .meth "Machine" "alphabet", .glo "_law_shown", .keep "_law_shown", .glo "_law_right", .keep "_law_right", .glo "_law_fixed_right", .keep "_law_fixed_right", .glo "law", .keep "law"]
def fn : List He.FnD := [⟨("_law_pot", none), "_law_pot", "_law_pot", defArgs st_l_pot, defBody st_l_pot, defScope st_l_pot⟩, ⟨("_law_digit", none), "_law_digit", "_law_digit", defArgs st_l_digit, defBody st_l_digit, defScope st_l_digit⟩, ⟨("_law_pick", none), "_law_pick", "_law_pick", defArgs st_l_pick, defBody st_l_pick, defScope st_l_pick⟩, ⟨("_law_names", none), "_law_names", "_law_names", defArgs st_l_names, defBody st_l_names, defScope st_l_names⟩, ⟨("_law_mixed", none), "_law_mixed", "_law_mixed", defArgs st_l_mixed, defBody st_l_mixed, defScope st_l_mixed⟩, ⟨("_law_table", none), "_law_table", "_law_table", defArgs st_l_table, defBody st_l_table, defScope st_l_table⟩, ⟨("is_list", none), "is_list", "is_list", defArgs st_is_list, defBody st_is_list, defScope st_is_list⟩, ⟨("is_integer", none), "is_integer", "is_integer", defArgs st_is_integer, defBody st_is_integer, defScope st_is_integer⟩, ⟨("check_values", none), "check_values", "check_values", defArgs st_check_values, defBody st_check_values, defScope st_check_values⟩, ⟨("is_name", none), "is_name", "is_name", defArgs st_is_name, defBody st_is_name, defScope st_is_name⟩, ⟨("first_wrong_symbol", none), "first_wrong_symbol", "first_wrong_symbol", defArgs st_first_wrong_symbol, defBody st_first_wrong_symbol, defScope st_first_wrong_symbol⟩, ⟨("is_alphabet", none), "is_alphabet", "is_alphabet", defArgs st_is_alphabet, defBody st_is_alphabet, defScope st_is_alphabet⟩, ⟨("has_symbols", none), "has_symbols", "has_symbols", defArgs st_has_symbols, defBody st_has_symbols, defScope st_has_symbols⟩, ⟨("is_step", none), "is_step", "is_step", defArgs st_is_step, defBody st_is_step, defScope st_is_step⟩, ⟨("check_steps", none), "check_steps", "check_steps", defArgs st_check_steps, defBody st_check_steps, defScope st_check_steps⟩, ⟨("state_line", none), "state_line", "state_line", defArgs st_state_line, defBody st_state_line, defScope st_state_line⟩, ⟨("Machine", some "__init__"), "__init__", "Machine.__init__", defArgs st_Machine___init__, defBody st_Machine___init__, defScope st_Machine___init__⟩, ⟨("_law_due", none), "_law_due", "_law_due", defArgs st_l_due, defBody st_l_due, defScope st_l_due⟩, ⟨("_law_word", none), "_law_word", "_law_word", defArgs st_l_word, defBody st_l_word, defScope st_l_word⟩, ⟨("Machine", some "__len__"), "__len__", "Machine.__len__", defArgs st_Machine___len__, defBody st_Machine___len__, defScope st_Machine___len__⟩, ⟨("_law_run", none), "_law_run", "_law_run", defArgs st_l_run, defBody st_l_run, defScope st_l_run⟩, ⟨("require_state", none), "require_state", "require_state", defArgs st_require_state, defBody st_require_state, defScope st_require_state⟩, ⟨("is_symbol", none), "is_symbol", "is_symbol", defArgs st_is_symbol, defBody st_is_symbol, defScope st_is_symbol⟩, ⟨("first_wrong_entry", none), "first_wrong_entry", "first_wrong_entry", defArgs st_first_wrong_entry, defBody st_first_wrong_entry, defScope st_first_wrong_entry⟩, ⟨("require_word", none), "require_word", "require_word", defArgs st_require_word, defBody st_require_word, defScope st_require_word⟩, ⟨("Machine", some "run"), "run", "Machine.run", defArgs st_Machine_run, defBody st_Machine_run, defScope st_Machine_run⟩, ⟨("_law_runs_right", none), "_law_runs_right", "_law_runs_right", defArgs st_l_runs_right, defBody st_l_runs_right, defScope st_l_runs_right⟩, ⟨("require_symbol", none), "require_symbol", "require_symbol", defArgs st_require_symbol, defBody st_require_symbol, defScope st_require_symbol⟩, ⟨("Machine", some "step"), "step", "Machine.step", defArgs st_Machine_step, defBody st_Machine_step, defScope st_Machine_step⟩, ⟨("Machine", some "__repr__"), "__repr__", "Machine.__repr__", defArgs st_Machine___repr__, defBody st_Machine___repr__, defScope st_Machine___repr__⟩, ⟨("Machine", some "value_of"), "value_of", "Machine.value_of", defArgs st_Machine_value_of, defBody st_Machine_value_of, defScope st_Machine_value_of⟩, ⟨("Machine", some "alphabet"), "alphabet", "Machine.alphabet", defArgs st_Machine_alphabet, defBody st_Machine_alphabet, defScope st_Machine_alphabet⟩, ⟨("_law_shown", none), "_law_shown", "_law_shown", defArgs st_l_shown, defBody st_l_shown, defScope st_l_shown⟩, ⟨("_law_right", none), "_law_right", "_law_right", defArgs st_l_right, defBody st_l_right, defScope st_l_right⟩, ⟨("_law_fixed_right", none), "_law_fixed_right", "_law_fixed_right", defArgs st_l_fixed_right, defBody st_l_fixed_right, defScope st_l_fixed_right⟩, ⟨("law", none), "law", "law", defArgs st_law, defBody st_law, defScope st_law⟩]
def fx : List Fu := [.fx .sys, .con "Machine" "MAX_STATES" 64, .prop "Machine" "is_silent" "Machine.is_silent"]
def fp : List FnP := [⟨"Machine", "is_silent", "Machine.is_silent", defArgs st_Machine_is_silent, defBody st_Machine_is_silent, defScope st_Machine_is_silent⟩]
theorem all_cal {P : Program} {w : World} {K : PySem.W.Frag} {h : Heap} {mg : Str → Option Value} (X : K.In h) (G : h.Ns mainGlobals mg) (c : SaysU fa fn fx fp K) (base : Heap) :
    Cal P w K mg base 9 "law" "law" st_law ["_law_script"] m_law := by
  have c0 := c
  have k_Machine := He.glo_ok X G (c.kitf 0 (f := .glo "Machine"))
  have a_Machine_own_key : ∀ c ∈ (["Machine"] : List Str), ClsAt K mg c ∧ NoAt K mg c "own_key" := at_of k_Machine (He.cls_ok (c.kitf 2 (f := .cls "Machine"))) (He.noat_ok (c.kitf 1 (f := .noat "Machine" "own_key")))
  have a_Machine_own_lines : ∀ c ∈ (["Machine"] : List Str), ClsAt K mg c ∧ NoAt K mg c "own_lines" := at_of k_Machine (He.cls_ok (c.kitf 2 (f := .cls "Machine"))) (He.noat_ok (c.kitf 3 (f := .noat "Machine" "own_lines")))
  have a_Machine_own_silence : ∀ c ∈ (["Machine"] : List Str), ClsAt K mg c ∧ NoAt K mg c "own_silence" := at_of k_Machine (He.cls_ok (c.kitf 2 (f := .cls "Machine"))) (He.noat_ok (c.kitf 4 (f := .noat "Machine" "own_silence")))
  have a_Machine_own_steps : ∀ c ∈ (["Machine"] : List Str), ClsAt K mg c ∧ NoAt K mg c "own_steps" := at_of k_Machine (He.cls_ok (c.kitf 2 (f := .cls "Machine"))) (He.noat_ok (c.kitf 5 (f := .noat "Machine" "own_steps")))
  have a_Machine_own_symbols : ∀ c ∈ (["Machine"] : List Str), ClsAt K mg c ∧ NoAt K mg c "own_symbols" := at_of k_Machine (He.cls_ok (c.kitf 2 (f := .cls "Machine"))) (He.noat_ok (c.kitf 6 (f := .noat "Machine" "own_symbols")))
  have a_Machine_own_values : ∀ c ∈ (["Machine"] : List Str), ClsAt K mg c ∧ NoAt K mg c "own_values" := at_of k_Machine (He.cls_ok (c.kitf 2 (f := .cls "Machine"))) (He.noat_ok (c.kitf 7 (f := .noat "Machine" "own_values")))
  have cl_Machine : ClsAt K mg "Machine" := ⟨_, k_Machine, He.cls_ok (c.kitf 2 (f := .cls "Machine"))⟩
  have co_Machine_MAX_STATES := con_ok (c.ownf 1 (f := .con "Machine" "MAX_STATES" 64)) k_Machine
  have g_LETTERS := He.str_ok X G (c.kitf 8 (f := .str "LETTERS" "abcdefghijklmnopqrstuvwxyz"))
  have g_MOST_LETTERS := He.int_ok X G (c.kitf 9 (f := .int "MOST_LETTERS" 8))
  have g_MOST_SYMBOLS := He.int_ok X G (c.kitf 10 (f := .int "MOST_SYMBOLS" 8))
  have g_NO_OUTPUT := He.str_ok X G (c.kitf 11 (f := .str "NO_OUTPUT" "-"))
  have g_STATE := He.str_ok X G (c.kitf 12 (f := .str "STATE" "state"))
  have mk_Machine : MkAt K mg "Machine" := mkAt_of (He.mkr_ok (c.kitf 13 (f := .mkr "Machine"))) k_Machine
  have n_abs := He.free_ok X G (c.kitf 14 (f := .free "abs"))
  have n_all := He.free_ok X G (c.kitf 15 (f := .free "all"))
  have n_bool := He.free_ok X G (c.kitf 16 (f := .free "bool"))
  have n_dict := He.free_ok X G (c.kitf 17 (f := .free "dict"))
  have n_divmod := He.free_ok X G (c.kitf 18 (f := .free "divmod"))
  have n_enumerate := He.free_ok X G (c.kitf 19 (f := .free "enumerate"))
  have n_int := He.free_ok X G (c.kitf 20 (f := .free "int"))
  have n_isinstance := He.free_ok X G (c.kitf 21 (f := .free "isinstance"))
  have n_len := He.free_ok X G (c.kitf 22 (f := .free "len"))
  have n_list := He.free_ok X G (c.kitf 23 (f := .free "list"))
  have n_max := He.free_ok X G (c.kitf 24 (f := .free "max"))
  have n_min := He.free_ok X G (c.kitf 25 (f := .free "min"))
  have n_range := He.free_ok X G (c.kitf 26 (f := .free "range"))
  have n_repr := He.free_ok X G (c.kitf 27 (f := .free "repr"))
  have n_sorted := He.free_ok X G (c.kitf 28 (f := .free "sorted"))
  have n_str := He.free_ok X G (c.kitf 29 (f := .free "str"))
  have n_tuple := He.free_ok X G (c.kitf 30 (f := .free "tuple"))
  have n_zip := He.free_ok X G (c.kitf 31 (f := .free "zip"))
  have hk := sys_ok (c.ownx 0 (f := .sys))
  have D_l_pot : DefAt K mg "_law_pot" "_law_pot" st_l_pot := c.deff 0 rfl (He.keep_ok (c.kitf 33 (f := .keep "_law_pot"))) (He.glo_ok X G (c.kitf 32 (f := .glo "_law_pot")))
  have D_l_digit : DefAt K mg "_law_digit" "_law_digit" st_l_digit := c.deff 1 rfl (He.keep_ok (c.kitf 35 (f := .keep "_law_digit"))) (He.glo_ok X G (c.kitf 34 (f := .glo "_law_digit")))
  have D_l_pick : DefAt K mg "_law_pick" "_law_pick" st_l_pick := c.deff 2 rfl (He.keep_ok (c.kitf 37 (f := .keep "_law_pick"))) (He.glo_ok X G (c.kitf 36 (f := .glo "_law_pick")))
  have D_l_names : DefAt K mg "_law_names" "_law_names" st_l_names := c.deff 3 rfl (He.keep_ok (c.kitf 39 (f := .keep "_law_names"))) (He.glo_ok X G (c.kitf 38 (f := .glo "_law_names")))
  have D_l_mixed : DefAt K mg "_law_mixed" "_law_mixed" st_l_mixed := c.deff 4 rfl (He.keep_ok (c.kitf 41 (f := .keep "_law_mixed"))) (He.glo_ok X G (c.kitf 40 (f := .glo "_law_mixed")))
  have D_l_table : DefAt K mg "_law_table" "_law_table" st_l_table := c.deff 5 rfl (He.keep_ok (c.kitf 43 (f := .keep "_law_table"))) (He.glo_ok X G (c.kitf 42 (f := .glo "_law_table")))
  have D_is_list : DefAt K mg "is_list" "is_list" st_is_list := c.deff 6 rfl (He.keep_ok (c.kitf 45 (f := .keep "is_list"))) (He.glo_ok X G (c.kitf 44 (f := .glo "is_list")))
  have D_is_integer : DefAt K mg "is_integer" "is_integer" st_is_integer := c.deff 7 rfl (He.keep_ok (c.kitf 47 (f := .keep "is_integer"))) (He.glo_ok X G (c.kitf 46 (f := .glo "is_integer")))
  have D_check_values : DefAt K mg "check_values" "check_values" st_check_values := c.deff 8 rfl (He.keep_ok (c.kitf 49 (f := .keep "check_values"))) (He.glo_ok X G (c.kitf 48 (f := .glo "check_values")))
  have D_is_name : DefAt K mg "is_name" "is_name" st_is_name := c.deff 9 rfl (He.keep_ok (c.kitf 51 (f := .keep "is_name"))) (He.glo_ok X G (c.kitf 50 (f := .glo "is_name")))
  have D_first_wrong_symbol : DefAt K mg "first_wrong_symbol" "first_wrong_symbol" st_first_wrong_symbol := c.deff 10 rfl (He.keep_ok (c.kitf 53 (f := .keep "first_wrong_symbol"))) (He.glo_ok X G (c.kitf 52 (f := .glo "first_wrong_symbol")))
  have D_is_alphabet : DefAt K mg "is_alphabet" "is_alphabet" st_is_alphabet := c.deff 11 rfl (He.keep_ok (c.kitf 55 (f := .keep "is_alphabet"))) (He.glo_ok X G (c.kitf 54 (f := .glo "is_alphabet")))
  have D_has_symbols : DefAt K mg "has_symbols" "has_symbols" st_has_symbols := c.deff 12 rfl (He.keep_ok (c.kitf 57 (f := .keep "has_symbols"))) (He.glo_ok X G (c.kitf 56 (f := .glo "has_symbols")))
  have D_is_step : DefAt K mg "is_step" "is_step" st_is_step := c.deff 13 rfl (He.keep_ok (c.kitf 59 (f := .keep "is_step"))) (He.glo_ok X G (c.kitf 58 (f := .glo "is_step")))
  have D_check_steps : DefAt K mg "check_steps" "check_steps" st_check_steps := c.deff 14 rfl (He.keep_ok (c.kitf 61 (f := .keep "check_steps"))) (He.glo_ok X G (c.kitf 60 (f := .glo "check_steps")))
  have D_state_line : DefAt K mg "state_line" "state_line" st_state_line := c.deff 15 rfl (He.keep_ok (c.kitf 63 (f := .keep "state_line"))) (He.glo_ok X G (c.kitf 62 (f := .glo "state_line")))
  have D_Machine___init__ : DefM K mg "Machine" "__init__" "Machine.__init__" st_Machine___init__ := c.mth 16 rfl (He.meth_ok (c.kitf 64 (f := .meth "Machine" "__init__"))) k_Machine
  have D_l_due : DefAt K mg "_law_due" "_law_due" st_l_due := c.deff 17 rfl (He.keep_ok (c.kitf 66 (f := .keep "_law_due"))) (He.glo_ok X G (c.kitf 65 (f := .glo "_law_due")))
  have D_l_word : DefAt K mg "_law_word" "_law_word" st_l_word := c.deff 18 rfl (He.keep_ok (c.kitf 68 (f := .keep "_law_word"))) (He.glo_ok X G (c.kitf 67 (f := .glo "_law_word")))
  have D_Machine___len__ : DefM K mg "Machine" "__len__" "Machine.__len__" st_Machine___len__ := c.mth 19 rfl (He.meth_ok (c.kitf 69 (f := .meth "Machine" "__len__"))) k_Machine
  have D_l_run : DefAt K mg "_law_run" "_law_run" st_l_run := c.deff 20 rfl (He.keep_ok (c.kitf 71 (f := .keep "_law_run"))) (He.glo_ok X G (c.kitf 70 (f := .glo "_law_run")))
  have D_require_state : DefAt K mg "require_state" "require_state" st_require_state := c.deff 21 rfl (He.keep_ok (c.kitf 73 (f := .keep "require_state"))) (He.glo_ok X G (c.kitf 72 (f := .glo "require_state")))
  have D_is_symbol : DefAt K mg "is_symbol" "is_symbol" st_is_symbol := c.deff 22 rfl (He.keep_ok (c.kitf 75 (f := .keep "is_symbol"))) (He.glo_ok X G (c.kitf 74 (f := .glo "is_symbol")))
  have D_first_wrong_entry : DefAt K mg "first_wrong_entry" "first_wrong_entry" st_first_wrong_entry := c.deff 23 rfl (He.keep_ok (c.kitf 77 (f := .keep "first_wrong_entry"))) (He.glo_ok X G (c.kitf 76 (f := .glo "first_wrong_entry")))
  have D_require_word : DefAt K mg "require_word" "require_word" st_require_word := c.deff 24 rfl (He.keep_ok (c.kitf 79 (f := .keep "require_word"))) (He.glo_ok X G (c.kitf 78 (f := .glo "require_word")))
  have D_Machine_run : DefM K mg "Machine" "run" "Machine.run" st_Machine_run := c.mth 25 rfl (He.meth_ok (c.kitf 80 (f := .meth "Machine" "run"))) k_Machine
  have D_l_runs_right : DefAt K mg "_law_runs_right" "_law_runs_right" st_l_runs_right := c.deff 26 rfl (He.keep_ok (c.kitf 82 (f := .keep "_law_runs_right"))) (He.glo_ok X G (c.kitf 81 (f := .glo "_law_runs_right")))
  have D_require_symbol : DefAt K mg "require_symbol" "require_symbol" st_require_symbol := c.deff 27 rfl (He.keep_ok (c.kitf 84 (f := .keep "require_symbol"))) (He.glo_ok X G (c.kitf 83 (f := .glo "require_symbol")))
  have D_Machine_step : DefM K mg "Machine" "step" "Machine.step" st_Machine_step := c.mth 28 rfl (He.meth_ok (c.kitf 85 (f := .meth "Machine" "step"))) k_Machine
  have D_Machine___repr__ : DefM K mg "Machine" "__repr__" "Machine.__repr__" st_Machine___repr__ := c.mth 29 rfl (He.meth_ok (c.kitf 86 (f := .meth "Machine" "__repr__"))) k_Machine
  have D_Machine_value_of : DefM K mg "Machine" "value_of" "Machine.value_of" st_Machine_value_of := c.mth 30 rfl (He.meth_ok (c.kitf 87 (f := .meth "Machine" "value_of"))) k_Machine
  have D_Machine_is_silent : DefP K mg "Machine" "is_silent" "Machine.is_silent" st_Machine_is_silent := c.prp 0 2 rfl rfl k_Machine
  have D_Machine_alphabet : DefM K mg "Machine" "alphabet" "Machine.alphabet" st_Machine_alphabet := c.mth 31 rfl (He.meth_ok (c.kitf 88 (f := .meth "Machine" "alphabet"))) k_Machine
  have D_l_shown : DefAt K mg "_law_shown" "_law_shown" st_l_shown := c.deff 32 rfl (He.keep_ok (c.kitf 90 (f := .keep "_law_shown"))) (He.glo_ok X G (c.kitf 89 (f := .glo "_law_shown")))
  have D_l_right : DefAt K mg "_law_right" "_law_right" st_l_right := c.deff 33 rfl (He.keep_ok (c.kitf 92 (f := .keep "_law_right"))) (He.glo_ok X G (c.kitf 91 (f := .glo "_law_right")))
  have D_l_fixed_right : DefAt K mg "_law_fixed_right" "_law_fixed_right" st_l_fixed_right := c.deff 34 rfl (He.keep_ok (c.kitf 94 (f := .keep "_law_fixed_right"))) (He.glo_ok X G (c.kitf 93 (f := .glo "_law_fixed_right")))
  have D_law : DefAt K mg "law" "law" st_law := c.deff 35 rfl (He.keep_ok (c.kitf 96 (f := .keep "law"))) (He.glo_ok X G (c.kitf 95 (f := .glo "law")))
  have c_l_pot := cal_l_pot (P := P) (w := w) (base := base) (hk := hk) (D := D_l_pot) (n_len := n_len) (n_abs := n_abs) (n_max := n_max)
  have c_l_digit := cal_l_digit (P := P) (w := w) (base := base) (hk := hk) (D := D_l_digit) (n_divmod := n_divmod)
  have c_l_pick := cal_l_pick (P := P) (w := w) (base := base) (hk := hk) (D := D_l_pick) (c_l_digit := c_l_digit) (n_len := n_len)
  have c_l_names := cal_l_names (P := P) (w := w) (base := base) (hk := hk) (D := D_l_names) (c_l_digit := c_l_digit) (c_l_pick := c_l_pick) (n_range := n_range) (n_zip := n_zip)
  have c_l_mixed := cal_l_mixed (P := P) (w := w) (base := base) (hk := hk) (D := D_l_mixed) (c_l_digit := c_l_digit) (n_list := n_list) (n_len := n_len) (n_range := n_range)
  have c_l_table := cal_l_table (P := P) (w := w) (base := base) (hk := hk) (D := D_l_table) (c_l_digit := c_l_digit) (c_l_pick := c_l_pick) (c_l_mixed := c_l_mixed) (n_range := n_range)
  have c_is_list := cal_is_list (P := P) (w := w) (base := base) (hk := hk) (D := D_is_list) (n_tuple := n_tuple) (n_list := n_list) (n_isinstance := n_isinstance)
  have c_is_integer := cal_is_integer (P := P) (w := w) (base := base) (hk := hk) (D := D_is_integer) (n_bool := n_bool) (n_isinstance := n_isinstance) (n_int := n_int)
  have c_check_values := cal_check_values (P := P) (w := w) (base := base) (hk := hk) (D := D_check_values) (c_is_list := c_is_list) (c_is_integer := c_is_integer) (n_len := n_len) (co_Machine_MAX_STATES := co_Machine_MAX_STATES) (n_enumerate := n_enumerate)
  have c_is_name := cal_is_name (P := P) (w := w) (base := base) (hk := hk) (D := D_is_name) (n_len := n_len) (g_MOST_LETTERS := g_MOST_LETTERS) (n_str := n_str) (n_isinstance := n_isinstance) (g_LETTERS := g_LETTERS) (n_all := n_all)
  have c_first_wrong_symbol := cal_first_wrong_symbol (P := P) (w := w) (base := base) (hk := hk) (D := D_first_wrong_symbol) (c_is_name := c_is_name) (n_enumerate := n_enumerate)
  have c_is_alphabet := cal_is_alphabet (P := P) (w := w) (base := base) (hk := hk) (D := D_is_alphabet) (c_is_list := c_is_list) (c_first_wrong_symbol := c_first_wrong_symbol) (n_len := n_len) (g_MOST_SYMBOLS := g_MOST_SYMBOLS)
  have c_has_symbols := cal_has_symbols (P := P) (w := w) (base := base) (hk := hk) (D := D_has_symbols) (c_is_alphabet := c_is_alphabet) (n_dict := n_dict) (n_isinstance := n_isinstance) (n_list := n_list) (n_all := n_all) (n_len := n_len)
  have c_is_step := cal_is_step (P := P) (w := w) (base := base) (hk := hk) (D := D_is_step) (c_is_integer := c_is_integer) (c_is_name := c_is_name) (n_len := n_len) (n_tuple := n_tuple) (n_isinstance := n_isinstance)
  have c_check_steps := cal_check_steps (P := P) (w := w) (base := base) (hk := hk) (D := D_check_steps) (c_is_list := c_is_list) (c_has_symbols := c_has_symbols) (c_is_step := c_is_step) (n_len := n_len) (n_all := n_all) (n_list := n_list) (n_enumerate := n_enumerate)
  have c_state_line := cal_state_line (P := P) (w := w) (base := base) (hk := hk) (D := D_state_line) (n_str := n_str) (g_STATE := g_STATE) (g_NO_OUTPUT := g_NO_OUTPUT)
  have c_Machine___init__ := cal_Machine___init__ (P := P) (w := w) (base := base) (hk := hk) (D := D_Machine___init__) (c_check_values := c_check_values) (c_check_steps := c_check_steps) (c_state_line := c_state_line) (n_len := n_len) (n_list := n_list) (a_Machine_own_values := a_Machine_own_values) (n_sorted := n_sorted) (a_Machine_own_symbols := a_Machine_own_symbols) (a_Machine_own_steps := a_Machine_own_steps) (n_tuple := n_tuple) (a_Machine_own_key := a_Machine_own_key) (n_zip := n_zip) (a_Machine_own_lines := a_Machine_own_lines) (n_all := n_all) (a_Machine_own_silence := a_Machine_own_silence)
  have c_l_due := cal_l_due (P := P) (w := w) (base := base) (hk := hk) (D := D_l_due) (n_all := n_all) (n_repr := n_repr) (n_sorted := n_sorted) (n_len := n_len)
  have c_l_word := cal_l_word (P := P) (w := w) (base := base) (hk := hk) (D := D_l_word) (c_l_digit := c_l_digit) (c_l_pick := c_l_pick) (n_range := n_range) (n_tuple := n_tuple)
  have c_Machine___len__ := cal_Machine___len__ (P := P) (w := w) (base := base) (hk := hk) (D := D_Machine___len__) (a_Machine_own_values := a_Machine_own_values) (n_len := n_len)
  have c_l_run := cal_l_run (P := P) (w := w) (base := base) (hk := hk) (D := D_l_run) (n_tuple := n_tuple)
  have c_require_state := cal_require_state (P := P) (w := w) (base := base) (hk := hk) (D := D_require_state) (c_is_integer := c_is_integer) (c_Machine___len__ := c_Machine___len__) (cl_Machine := cl_Machine) (n_len := n_len)
  have c_is_symbol := cal_is_symbol (P := P) (w := w) (base := base) (hk := hk) (D := D_is_symbol) (c_is_name := c_is_name)
  have c_first_wrong_entry := cal_first_wrong_entry (P := P) (w := w) (base := base) (hk := hk) (D := D_first_wrong_entry) (c_is_symbol := c_is_symbol) (n_enumerate := n_enumerate)
  have c_require_word := cal_require_word (P := P) (w := w) (base := base) (hk := hk) (D := D_require_word) (c_is_list := c_is_list) (c_first_wrong_entry := c_first_wrong_entry)
  have c_Machine_run := cal_Machine_run (P := P) (w := w) (base := base) (hk := hk) (D := D_Machine_run) (c_require_state := c_require_state) (c_require_word := c_require_word) (a_Machine_own_symbols := a_Machine_own_symbols) (a_Machine_own_steps := a_Machine_own_steps) (n_tuple := n_tuple)
  have c_l_runs_right := cal_l_runs_right (P := P) (w := w) (base := base) (hk := hk) (D := D_l_runs_right) (c_l_word := c_l_word) (c_Machine___len__ := c_Machine___len__) (c_l_run := c_l_run) (c_Machine_run := c_Machine_run) (n_range := n_range) (cl_Machine := cl_Machine) (n_len := n_len) (n_list := n_list) (n_repr := n_repr)
  have c_require_symbol := cal_require_symbol (P := P) (w := w) (base := base) (hk := hk) (D := D_require_symbol) (c_is_symbol := c_is_symbol)
  have c_Machine_step := cal_Machine_step (P := P) (w := w) (base := base) (hk := hk) (D := D_Machine_step) (c_require_state := c_require_state) (c_require_symbol := c_require_symbol) (a_Machine_own_symbols := a_Machine_own_symbols) (a_Machine_own_steps := a_Machine_own_steps)
  have c_Machine___repr__ := cal_Machine___repr__ (P := P) (w := w) (base := base) (hk := hk) (D := D_Machine___repr__) (a_Machine_own_values := a_Machine_own_values) (a_Machine_own_symbols := a_Machine_own_symbols)
  have c_Machine_value_of := cal_Machine_value_of (P := P) (w := w) (base := base) (hk := hk) (D := D_Machine_value_of) (c_require_state := c_require_state) (a_Machine_own_values := a_Machine_own_values)
  have c_Machine_is_silent := cal_Machine_is_silent (P := P) (w := w) (base := base) (hk := hk) (D := D_Machine_is_silent) (a_Machine_own_silence := a_Machine_own_silence)
  have c_Machine_alphabet := cal_Machine_alphabet (P := P) (w := w) (base := base) (hk := hk) (D := D_Machine_alphabet) (a_Machine_own_symbols := a_Machine_own_symbols) (n_list := n_list)
  have c_l_shown := cal_l_shown (P := P) (w := w) (base := base) (hk := hk) (D := D_l_shown) (c_Machine___len__ := c_Machine___len__) (c_Machine_step := c_Machine_step) (c_Machine___repr__ := c_Machine___repr__) (c_Machine_value_of := c_Machine_value_of) (c_Machine_is_silent := c_Machine_is_silent) (c_Machine_alphabet := c_Machine_alphabet) (cl_Machine := cl_Machine) (n_len := n_len) (n_range := n_range) (n_repr := n_repr)
  have c_l_right := cal_l_right (P := P) (w := w) (base := base) (hk := hk) (D := D_l_right) (c_l_digit := c_l_digit) (c_l_names := c_l_names) (c_l_table := c_l_table) (c_Machine___init__ := c_Machine___init__) (c_l_due := c_l_due) (c_Machine_run := c_Machine_run) (c_l_runs_right := c_l_runs_right) (c_Machine_alphabet := c_Machine_alphabet) (c_l_shown := c_l_shown) (n_dict := n_dict) (n_list := n_list) (mk_Machine := mk_Machine) (n_tuple := n_tuple) (n_repr := n_repr) (cl_Machine := cl_Machine)
  have c_l_fixed_right := cal_l_fixed_right (P := P) (w := w) (base := base) (hk := hk) (D := D_l_fixed_right) (c_Machine___init__ := c_Machine___init__) (c_Machine_run := c_Machine_run) (c_Machine_step := c_Machine_step) (c_Machine_value_of := c_Machine_value_of) (c_Machine_is_silent := c_Machine_is_silent) (mk_Machine := mk_Machine) (cl_Machine := cl_Machine) (n_range := n_range) (n_enumerate := n_enumerate) (n_dict := n_dict) (n_list := n_list)
  have c_law := cal_law (P := P) (w := w) (base := base) (hk := hk) (D := D_law) (c_l_pot := c_l_pot) (c_l_right := c_l_right) (c_l_fixed_right := c_l_fixed_right) (n_len := n_len) (n_min := n_min) (n_max := n_max) (n_range := n_range) (co_Machine_MAX_STATES := co_Machine_MAX_STATES)
  exact c_law
theorem law_binds {K : PySem.W.Frag} {f : Addr} {fd : FuncData} (F : Fun K "law" "law" st_law f fd) : ∀ (s : Shared) (u : Value), BindsTo s fd ⟨[u], []⟩ [("_law_script", u)] := by
  obtain ⟨_, _, _, _, _, _, _, _, _, rfl, _⟩ := F.ex
  exact fun s u => .of_eq rfl
abbrev R : PySem.W.OpenRow := PySem.W.OpenLaw.row PySem.Challenge.rw_shortlog_k12_whole_machines_run
abbrev hook : PySem.W.Hook := hookU 6 fa fn fx fp
def ob (s : PySem.W.SharedT) := obsU 6 fa fn fx fp (HandSHeadRun.getT s)
theorem ob_eq (s : PySem.W.SharedT) : ob s = hook.obs s.abs := obsU_eq (HandSHeadRun.getT_eq s)
def loose : List Str := (["_wall", "ShortlogError", "InvalidWord", "InvalidMachine", "InvalidState", "UnknownSymbol", "LETTERS", "MOST_LETTERS", "MOST_SYMBOLS", "is_integer", "is_name", "is_list", "first_wrong_symbol", "is_alphabet", "is_symbol", "first_wrong_entry", "require_word", "require_symbol", "STATE", "NO_OUTPUT"] : List Str) ++ (["check_values", "is_step", "has_symbols", "check_steps", "Machine", "require_state", "state_line", "_law_pot", "_law_digit", "_law_pick", "_law_names", "_law_mixed", "_law_table", "_law_run", "_law_word", "_law_shown", "_law_due", "_law_runs_right", "_law_right", "_law_fixed_right"] : List Str)
set_option maxHeartbeats 0 in
theorem run (w : World) : HandSHeadRun.RunEq R (PySem.W.view R.prog [44]) hook ob 4000 loose w := by
  intro os
  kernel_rfl
end K12
open PySem PySem.W PySem.Calls PyProof.Rows

set_option maxHeartbeats 0 in
theorem PySem.Challenge.cw_shortlog_k12_whole_machines_run_holds : PySem.Challenge.rw_shortlog_k12_whole_machines_run.Holds := by
  w_on; o_law
  refine HandSHeadRun.head_any (r := OpenLaw.row PySem.Challenge.rw_shortlog_k12_whole_machines_run) (q := view (OpenLaw.row PySem.Challenge.rw_shortlog_k12_whole_machines_run).prog [44]) (H := K12.hook) (ob := K12.ob) (M := 4000) (loose := K12.loose) (d := HandSHeadRun.topDef (OpenLaw.row PySem.Challenge.rw_shortlog_k12_whole_machines_run).prog 44) (kwd := []) K12.ob_eq
    (by kernel_rfl) (fun s => by kernel_rfl) K12.run (by kernel_rfl) (by kernel_rfl) (by kernel_rfl) (by rfl) (by first | assumption | decide +kernel) (by decide +kernel) ⟨rfl, rfl, rfl, rfl, rfl, by decide +kernel⟩ ?hw ?hc
  case hw => w_witness2
  case hc =>
    refine DL.walk_dl (l := PySem.Challenge.rw_shortlog_k12_whole_machines_run) (n := 63) (k := 9) (x := "_law_script") rfl (by decide) (by kernel_rfl) ⟨rfl, by decide, by decide⟩ rfl ?_
    intro w mg f h Y G hf
    obtain ⟨K, KX, c⟩ := Y
    have hf2 : mg ("law" : PySem.Str) = some (.ref f) := by
      have e : (HandSHeadRun.topDef (OpenLaw.row PySem.Challenge.rw_shortlog_k12_whole_machines_run).prog 44).name = ("law" : PySem.Str) := by kernel_rfl
      rw [← e]; exact hf
    obtain ⟨fd, F, D⟩ := DL.end_of h (fun base => K12.all_cal KX G c base) hf2
    exact ⟨K, fd, K12.m_law, KX, K12.law_binds F, fun ns hl => K12.law_true ns hl, fun base _ _ => D base⟩

