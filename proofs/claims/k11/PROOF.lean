import PyProof.Rows.All
import Wide.All
import OpenK.AllK
import Wide.FinOn
import HandS.ForMost
import HandS.ForExc
import HandS.TupAny
import HandS.Deep
import HandS.Wide
import HandS.WideBits
import KE.DataEq
import HandS.IsInst
import HandS.Defaults
import HandS.Walk
import KE.GoesZip
import KE.GoesEnum
import KE.GoesMore
import HandS.WordsDict
import HandS.Text
import HandS.Style
import HandS.SortInts
import HandS.Small
import HandS.ExcIs
import HandS.ExcField
import HandS.ExcInit
import HandS.ClsMeth
import HandS.TryMany
import HandS.WordsExc
import HandS.Head0
import HandS.Head1
import HandS.Head2
import HandS.HeadEnd
import HandS.HeadHook1
import HandS.HeadHook2
import HandS.HeadHook3
import HandS.HeadHook4
import PyProof.ReprBulk
import Lean
import PySem.Challenge.RW_shortlog_k11_names_alphabets_words
set_option Elab.async false
set_option linter.all false
set_option maxRecDepth 100000
set_option maxHeartbeats 4000000
/-! DL, part 0: data values, what they are in the abstract heap, results, canonical readings. -/
namespace DL
open PySem PySem.Spec PyProof.Rows L2

/-! ### values -/
/-- an immutable value (a tree), or a thing by its number in the ledger -/
inductive Dv where
  | non | bl (b : Bool) | int (i : Int) | str (x : Str)
  | lst (xs : List Dv) | tup (xs : List Dv) | dic (ks : List (Key × Dv)) | obj (c : Str) (fs : List (Str × Dv))
  | own (k : Nat) | scr (ns : List Int) | opq | ty (n : String) | cls (c : Str)

/-- what stands in a slot, what an expression gives: a value; a list or dict of the frame's own (mu), one that is only read (bor) -/
inductive Sv where
  | val (d : Dv) | bor (xs : List Dv) | borD (ks : List (Key × Dv)) | mu (xs : List Dv) | muD (ks : List (Key × Dv)) | xc (c : Str) (fs : List (Str × Dv))

/-- a thing of the ledger -/
inductive Ct where
  | lst (xs : List Dv) | dic (ks : List (Key × Dv)) | obj (c : Str) (fs : List (Str × Dv)) | gone

abbrev Led := List Ct
abbrev Slo := List (Option Sv)
structure Exn where
  cls : Str
  fs : List (Str × Dv)

inductive Res (α : Type) where
  | ok (a : α) (L : Led) | err (e : Exn) (r : Slo) (L : Led) | bad

namespace Res
variable {α β : Type}
def bind (r : Res α) (k : α → Led → Res β) : Res β := match r with
  | .ok a L => k a L
  | .err e r L => .err e r L
  | .bad => .bad
def wp (r : Res α) (P : α → Led → Prop) (E : Exn → Slo → Led → Prop) : Prop := match r with
  | .ok a L => P a L
  | .err e r L => E e r L
  | .bad => False
theorem wp_bind {r : Res α} {k : α → Led → Res β} {P : β → Led → Prop} {E : Exn → Slo → Led → Prop} (h : (r.bind k).wp P E) : r.wp (fun a L => (k a L).wp P E) E := by
  cases r <;> exact h
theorem wp_mono {r : Res α} {P P' : α → Led → Prop} {E E' : Exn → Slo → Led → Prop} (h : r.wp P E) (hP : ∀ a L, P a L → P' a L) (hE : ∀ e s L, E e s L → E' e s L) : r.wp P' E' := by
  cases r with
  | ok a L => exact hP a L h
  | err e s L => exact hE e s L h
  | bad => exact h
@[simp] theorem bind_ok {a : α} {L : Led} {k : α → Led → Res β} : (Res.ok a L).bind k = k a L := rfl
@[simp] theorem bind_err {e : Exn} {s : Slo} {L : Led} {k : α → Led → Res β} : (Res.err e s L : Res α).bind k = .err e s L := rfl
@[simp] theorem bind_bad {k : α → Led → Res β} : (Res.bad : Res α).bind k = .bad := rfl
/-- the slots at which it is raised -/
def at_ (r : Res α) (s : Slo) : Res α := match r with
  | .err e _ L => .err e s L
  | o => o
@[simp] theorem at_ok {a : α} {L : Led} {s : Slo} : (Res.ok a L).at_ s = .ok a L := rfl
@[simp] theorem at_err {e : Exn} {r s : Slo} {L : Led} : (Res.err e r L : Res α).at_ s = .err e s L := rfl
end Res

/-! ### what a value is in the abstract heap: F the part that stands for ever, ps the ledger's addresses -/
mutual
inductive RD (K : PySem.W.Frag) (mg : Str → Option Value) (F : Hp) (ps : List Addr) : V → Dv → Prop
  | non : RD K mg F ps .non .non
  | bl (b : Bool) : RD K mg F ps (.bl b) (.bl b)
  | int (i : Int) : RD K mg F ps (.int i) (.int i)
  | str (x : Str) (h : x.length ≤ sizeLine) : RD K mg F ps (.str x) (.str x)
  | lst {a : Addr} {vs : List V} {xs : List Dv} (h : F a = some (.lst vs)) (z : vs.length ≤ sizeLine) (r : RDs K mg F ps vs xs) : RD K mg F ps (.ref a) (.lst xs)
  | tup {a : Addr} {vs : List V} {xs : List Dv} (h : F a = some (.tup vs)) (z : vs.length ≤ sizeLine) (r : RDs K mg F ps vs xs) : RD K mg F ps (.ref a) (.tup xs)
  | dic {a : Addr} {ws : List (Key × V)} {ks : List (Key × Dv)} (h : Rd F a (.dK ws)) (z : ws.length ≤ sizeLine) (r : RDk K mg F ps ws ks) : RD K mg F ps (.ref a) (.dic ks)
  | obj {a C dx : Addr} {c : Str} {gs fs} (hc : mg c = some (.ref C)) (h : F a = some (.ins C dx gs)) (r : RDf K mg F ps gs fs) : RD K mg F ps (.ref a) (.obj c fs)
  | own {k : Nat} {p : Addr} (h : ps[k]? = some p) : RD K mg F ps (.ref p) (.own k)
  | scr {a : Addr} {ns : List Int} (h : SqL K F a (ns.map V.int)) : RD K mg F ps (.ref a) (.scr ns)
  | opq (v : V) : RD K mg F ps v .opq
  | ty (n : String) : RD K mg F ps (.ty n) (.ty n)
  | cls {c : Str} {C : Addr} (hc : mg c = some (.ref C)) : RD K mg F ps (.ref C) (.cls c)
inductive RDs (K : PySem.W.Frag) (mg : Str → Option Value) (F : Hp) (ps : List Addr) : List V → List Dv → Prop
  | nil : RDs K mg F ps [] []
  | cons {v : V} {vs : List V} {d : Dv} {ds : List Dv} (h : RD K mg F ps v d) (r : RDs K mg F ps vs ds) : RDs K mg F ps (v :: vs) (d :: ds)
inductive RDk (K : PySem.W.Frag) (mg : Str → Option Value) (F : Hp) (ps : List Addr) : List (Key × V) → List (Key × Dv) → Prop
  | nil : RDk K mg F ps [] []
  | cons {k : Key} {v : V} {vs : List (Key × V)} {d : Dv} {ds : List (Key × Dv)} (z : ∀ x, k = .inr x → x.length ≤ sizeLine) (h : RD K mg F ps v d) (r : RDk K mg F ps vs ds) : RDk K mg F ps ((k, v) :: vs) ((k, d) :: ds)
inductive RDf (K : PySem.W.Frag) (mg : Str → Option Value) (F : Hp) (ps : List Addr) : List (Str × V) → List (Str × Dv) → Prop
  | nil : RDf K mg F ps [] []
  | cons {k : Str} {v : V} {vs : List (Str × V)} {d : Dv} {ds : List (Str × Dv)} (h : RD K mg F ps v d) (r : RDf K mg F ps vs ds) : RDf K mg F ps ((k, v) :: vs) ((k, d) :: ds)
end

/-- the frozen part and the ledger have grown -/
structure Ext (F : Hp) (ps : List Addr) (F' : Hp) (ps' : List Addr) : Prop where
  same : Same F F'
  more : ∃ r, ps' = ps ++ r
theorem Ext.refl (F : Hp) (ps : List Addr) : Ext F ps F ps := ⟨Same.refl F, [], by simp⟩
theorem Ext.trans {F F1 F2 : Hp} {ps p1 p2 : List Addr} (a : Ext F ps F1 p1) (b : Ext F1 p1 F2 p2) : Ext F ps F2 p2 := by
  obtain ⟨r, e⟩ := a.more
  obtain ⟨r', e'⟩ := b.more
  exact ⟨a.same.trans b.same, r ++ r', by rw [e', e, List.append_assoc]⟩
theorem Ext.get {F F1 : Hp} {ps p1 : List Addr} (a : Ext F ps F1 p1) {k : Nat} {p : Addr} (h : ps[k]? = some p) : p1[k]? = some p := by
  obtain ⟨r, rfl⟩ := a.more
  have hk : k < ps.length := (List.getElem?_eq_some_iff.mp h).1
  rw [List.getElem?_append_left hk]
  exact h
theorem Ext.of {F F1 : Hp} (ps : List Addr) (s : Same F F1) : Ext F ps F1 ps := ⟨s, [], by simp⟩

section
variable {K : PySem.W.Frag} {mg : Str → Option Value} {F F' : Hp} {ps ps' : List Addr}
theorem Same.rd {H H' : Hp} (s : Same H H') {a : Addr} {u : HO} (h : Rd H a u) : Rd H' a u := by
  rcases h with h | ⟨o, h⟩
  · exact .inl (s _ _ h)
  · exact .inr ⟨o, s _ _ h⟩
mutual
theorem RD.ext (x : Ext F ps F' ps') : ∀ {v : V} {d : Dv}, RD K mg F ps v d → RD K mg F' ps' v d
  | _, _, .non => .non
  | _, _, .bl b => .bl b
  | _, _, .int i => .int i
  | _, _, .str y h => .str y h
  | _, _, .lst h z r => .lst (x.same _ _ h) z (RDs.ext x r)
  | _, _, .tup h z r => .tup (x.same _ _ h) z (RDs.ext x r)
  | _, _, .dic h z r => .dic (Same.rd x.same h) z (RDk.ext x r)
  | _, _, .obj c h r => .obj c (x.same _ _ h) (RDf.ext x r)
  | _, _, .own h => .own (x.get h)
  | _, _, .scr h => .scr (x.same.seq h)
  | _, _, .opq v => .opq v
  | _, _, .ty n => .ty n
  | _, _, .cls h => .cls h
theorem RDs.ext (x : Ext F ps F' ps') : ∀ {vs : List V} {ds : List Dv}, RDs K mg F ps vs ds → RDs K mg F' ps' vs ds
  | _, _, .nil => .nil
  | _, _, .cons h r => .cons (RD.ext x h) (RDs.ext x r)
theorem RDk.ext (x : Ext F ps F' ps') : ∀ {vs : List (Key × V)} {ds : List (Key × Dv)}, RDk K mg F ps vs ds → RDk K mg F' ps' vs ds
  | _, _, .nil => .nil
  | _, _, .cons z h r => .cons z (RD.ext x h) (RDk.ext x r)
theorem RDf.ext (x : Ext F ps F' ps') : ∀ {vs : List (Str × V)} {ds : List (Str × Dv)}, RDf K mg F ps vs ds → RDf K mg F' ps' vs ds
  | _, _, .nil => .nil
  | _, _, .cons h r => .cons (RD.ext x h) (RDf.ext x r)
end
theorem RDs.length : ∀ {vs : List V} {ds : List Dv}, RDs K mg F ps vs ds → vs.length = ds.length
  | _, _, .nil => rfl
  | _, _, .cons _ r => by simp [RDs.length r]
theorem RDs.get : ∀ {vs : List V} {ds : List Dv}, RDs K mg F ps vs ds → ∀ {i : Nat} {d : Dv}, ds[i]? = some d → ∃ v, vs[i]? = some v ∧ RD K mg F ps v d
  | _, _, .nil, _, _, e => by simp at e
  | _, _, .cons h _, 0, _, e => by simp at e; subst e; exact ⟨_, rfl, h⟩
  | _, _, .cons _ r, i + 1, _, e => by
    obtain ⟨v, a, b⟩ := RDs.get r (by simpa using e)
    exact ⟨v, by simpa using a, b⟩
theorem RDs.append : ∀ {vs ws : List V} {ds es : List Dv}, RDs K mg F ps vs ds → RDs K mg F ps ws es → RDs K mg F ps (vs ++ ws) (ds ++ es)
  | _, _, _, _, .nil, s => s
  | _, _, _, _, .cons h r, s => .cons h (RDs.append r s)
theorem RDs.take : ∀ {vs : List V} {ds : List Dv} (n : Nat), RDs K mg F ps vs ds → RDs K mg F ps (vs.take n) (ds.take n)
  | _, _, 0, _ => by simpa using RDs.nil
  | _, _, _ + 1, .nil => .nil
  | _, _, n + 1, .cons h r => by simpa using RDs.cons h (RDs.take n r)
theorem RDs.drop : ∀ {vs : List V} {ds : List Dv} (n : Nat), RDs K mg F ps vs ds → RDs K mg F ps (vs.drop n) (ds.drop n)
  | _, _, 0, r => by simpa using r
  | _, _, _ + 1, .nil => .nil
  | _, _, n + 1, .cons _ r => by simpa using RDs.drop n r
theorem RDs.set : ∀ {vs : List V} {ds : List Dv} {v : V} {d : Dv} (n : Nat), RDs K mg F ps vs ds → RD K mg F ps v d → RDs K mg F ps (vs.set n v) (ds.set n d)
  | _, _, _, _, _, .nil, _ => .nil
  | _, _, _, _, 0, .cons _ r, x => .cons x r
  | _, _, _, _, n + 1, .cons h r, x => .cons h (RDs.set n r x)
theorem RDs.eraseIdx : ∀ {vs : List V} {ds : List Dv} (n : Nat), RDs K mg F ps vs ds → RDs K mg F ps (vs.eraseIdx n) (ds.eraseIdx n)
  | _, _, _, .nil => .nil
  | _, _, 0, .cons _ r => r
  | _, _, n + 1, .cons h r => .cons h (RDs.eraseIdx n r)
theorem RDs.rep {vs : List V} {ds : List Dv} (r : RDs K mg F ps vs ds) : ∀ n : Nat, RDs K mg F ps (List.replicate n vs).flatten (List.replicate n ds).flatten
  | 0 => .nil
  | n + 1 => by simpa [List.replicate_succ] using RDs.append r (RDs.rep r n)
theorem RDs.reverse : ∀ {vs : List V} {ds : List Dv}, RDs K mg F ps vs ds → RDs K mg F ps vs.reverse ds.reverse
  | _, _, .nil => .nil
  | _, _, .cons h r => by simpa using RDs.append (RDs.reverse r) (.cons h .nil)
theorem RDs.one {v : V} {d : Dv} (h : RD K mg F ps v d) : RDs K mg F ps [v] [d] := .cons h .nil
end

/-! ### the state -/
section
variable (K : PySem.W.Frag) (mg : Str → Option Value)
/-- a ledger thing at p -/
def CtOk (G F H : Hp) (ps : List Addr) (p : Addr) : Ct → Prop
  | .lst xs => ∃ vs, H p = some (.lst vs) ∧ vs.length ≤ sizeLine ∧ RDs K mg F ps vs xs
  | .dic ks => ∃ ws, H p = some (.dK ws) ∧ ws.length ≤ sizeLine ∧ RDk K mg F ps ws ks
  | .obj c fs => ∃ C dx gs, mg c = some (.ref C) ∧ H p = some (.ins C dx gs) ∧ H dx = some (.own p) ∧ F dx = none ∧ G dx = none ∧ RDf K mg F ps gs fs
  | .gone => ∃ o, H p = some o
/-- G: what others hold (kept as it is), F: what stands for ever, ps: the ledger's things -/
structure HS (G F H : Hp) (ps : List Addr) (L : Led) : Prop where
  frame : Same G H
  same : Same F H
  apart : ∀ a, G a ≠ none → F a = none
  len : ps.length = L.length
  nd : ps.Nodup
  free : ∀ p ∈ ps, F p = none ∧ G p = none
  at_ : ∀ (k : Nat) (p : Addr) (c : Ct), ps[k]? = some p → L[k]? = some c → CtOk K mg G F H ps p c
/-- the exception that an except suite holds; mg tells of the suite where it is -/
def XcOk (G F : Hp) (ps : List Addr) (v : V) (c : Str) (fs : List (Str × Dv)) : Prop := ∃ (a dd C : Addr) (gs : List (Str × V)), v = .ref a ∧ mg "isinstance" = some (.int a 0) ∧ mg "repr" = some (.int dd 0) ∧ mg "len" = some (.int C 0) ∧ mg c = some (.ref C) ∧ G dd = some (.xd gs) ∧ RDf K mg F ps gs fs
/-- a slot's thing: G0 what stood when the def began (it is kept), G what is held now -/
def SvOk (G0 G F : Hp) (ps : List Addr) (v : V) : Sv → Prop
  | .val d => RD K mg F ps v d
  | .bor xs => ∃ p vs, v = .ref p ∧ G0 p = some (.lst vs) ∧ vs.length ≤ sizeLine ∧ RDs K mg F ps vs xs
  | .borD ks => ∃ p ws, v = .ref p ∧ G0 p = some (.dK ws) ∧ ws.length ≤ sizeLine ∧ RDk K mg F ps ws ks
  | .mu xs => ∃ p vs, v = .ref p ∧ G0 p = none ∧ G p = some (.lst vs) ∧ vs.length ≤ sizeLine ∧ RDs K mg F ps vs xs
  | .muD ks => ∃ p ws, v = .ref p ∧ G0 p = none ∧ G p = some (.dK ws) ∧ ws.length ≤ sizeLine ∧ RDk K mg F ps ws ks
  | .xc c fs => XcOk K mg G0 F ps v c fs
def Sv.isMut : Sv → Bool
  | .mu _ => true
  | .muD _ => true
  | _ => false
structure Slots (G0 G F : Hp) (ps : List Addr) (σ : List (Option V)) (ρ : Slo) : Prop where
  len : ρ.length = σ.length
  at_ : ∀ (i : Nat) (s : Sv), ρ[i]? = some (some s) → ∃ v, σ[i]? = some (some v) ∧ SvOk K mg G0 G F ps v s
  sep : ∀ (i j : Nat) (s t : Sv) (v : V), ρ[i]? = some (some s) → ρ[j]? = some (some t) → s.isMut = true → t.isMut = true → σ[i]? = some (some v) → σ[j]? = some (some v) → i = j
/-- an expression's value: a borrowed thing stands in G -/
def XvOk (G F : Hp) (ps : List Addr) (v : V) : Sv → Prop
  | .val d => RD K mg F ps v d
  | .bor xs => ∃ p vs, v = .ref p ∧ G p = some (.lst vs) ∧ vs.length ≤ sizeLine ∧ RDs K mg F ps vs xs
  | .borD ks => ∃ p ws, v = .ref p ∧ G p = some (.dK ws) ∧ ws.length ≤ sizeLine ∧ RDk K mg F ps ws ks
  | .xc c fs => XcOk K mg G F ps v c fs
  | _ => False
/-- an exception -/
def RX (F H : Hp) (ps : List Addr) (cls : Value) (d : Option Addr) (e : Exn) : Prop :=
  ∃ C, mg e.cls = some (.ref C) ∧ cls = .ref C ∧ ∃ dd gs, d = some dd ∧ H dd = some (.xd gs) ∧ F dd = none ∧ dd ∉ ps ∧ RDf K mg F ps gs e.fs
end

/-! ### canonical readings -/
section
variable (K : PySem.W.Frag) (mg : Str → Option Value)
def QE (G F : Hp) (ps : List Addr) (Q : VK) : Sv → Led → Prop := fun s L => ∀ v F' H' ps', Ext F ps F' ps' → HS K mg G F' H' ps' L → XvOk K mg G F' ps' v s → Q v H'
def EE (G0 F : Hp) (ps : List Addr) (W : WX) : Exn → Slo → Led → Prop := fun e r L => ∀ cls d σ' G' F' H' ps', Same G0 G' → Ext F ps F' ps' → HS K mg G' F' H' ps' L → Slots K mg G0 G' F' ps' σ' r → RX K mg F' H' ps' cls d e → W cls d σ' H'
abbrev DM (α : Type) := Slo → Led → Res α
def tE (W : WX) (f : DM Sv) : TE := fun σ H Q => ∃ G0 G F ps ρ L, Same G0 G ∧ HS K mg G F H ps L ∧ Slots K mg G0 G F ps σ ρ ∧ (f ρ L).wp (QE K mg G F ps Q) (EE K mg G0 F ps W)
def tT (W : WX) (f : DM Bool) : TT := fun σ H Q => ∃ G0 G F ps ρ L, Same G0 G ∧ HS K mg G F H ps L ∧ Slots K mg G0 G F ps σ ρ ∧
  (f ρ L).wp (fun b L' => ∀ F' H' ps', Ext F ps F' ps' → HS K mg G F' H' ps' L' → Q b H') (EE K mg G0 F ps W)
def XvsOk (G F : Hp) (ps : List Addr) : List V → List Sv → Prop := Paired fun v s => XvOk K mg G F ps v s
def tA (W : WX) (f : DM (List Sv)) : TA := fun σ H Q => ∃ G0 G F ps ρ L, Same G0 G ∧ HS K mg G F H ps L ∧ Slots K mg G0 G F ps σ ρ ∧
  (f ρ L).wp (fun ss L' => ∀ vs F' H' ps', Ext F ps F' ps' → HS K mg G F' H' ps' L' → XvsOk K mg G F' ps' vs ss → Q vs H') (EE K mg G0 F ps W)
inductive Fl where
  | nx (r : Slo) | rt (s : Dv) | bk (r : Slo) | ct (r : Slo)
def QS (G0 F : Hp) (ps : List Addr) (D : Ends) : Fl → Led → Prop
  | .nx r, L => ∀ σ' G' F' H' ps', Same G0 G' → Ext F ps F' ps' → HS K mg G' F' H' ps' L → Slots K mg G0 G' F' ps' σ' r → D.nx σ' H'
  | .rt s, L => ∀ v G' F' H' ps', Same G0 G' → Ext F ps F' ps' → HS K mg G' F' H' ps' L → RD K mg F' ps' v s → D.rt v H'
  | .bk r, L => ∀ σ' G' F' H' ps', Same G0 G' → Ext F ps F' ps' → HS K mg G' F' H' ps' L → Slots K mg G0 G' F' ps' σ' r → D.bk σ' H'
  | .ct r, L => ∀ σ' G' F' H' ps', Same G0 G' → Ext F ps F' ps' → HS K mg G' F' H' ps' L → Slots K mg G0 G' F' ps' σ' r → D.ct σ' H'
def tS (W : WX) (f : DM Fl) : TS := fun D σ H => ∃ G0 G F ps ρ L, Same G0 G ∧ HS K mg G F H ps L ∧ Slots K mg G0 G F ps σ ρ ∧ (f ρ L).wp (QS K mg G0 F ps D) (EE K mg G0 F ps W)
/-- a target: what is stored, the slots -/
def tGt (g : Sv → DM Slo) : TG := fun v σ H Q => ∃ G0 G F ps ρ L s, Same G0 G ∧ HS K mg G F H ps L ∧ Slots K mg G0 G F ps σ ρ ∧ XvOk K mg G F ps v s ∧
  (g s ρ L).wp (fun r L' => ∀ σ' G' F' H' ps', Same G0 G' → Ext F ps F' ps' → HS K mg G' F' H' ps' L' → Slots K mg G0 G' F' ps' σ' r → Q σ' H') (fun _ _ _ => False)
end
/-- where the exception is that X's suite holds -/
def lnk (X : Cx) (c : Str) : Option Value := match X.pn with
  | (a, oe) :: _ => if c = "isinstance" then some (.int a 0) else if c = "repr" then oe.dict.map fun d => .int d 0 else if c = "len" then (match oe.cls with
    | .ref C => some (.int C 0)
    | _ => none) else none
  | [] => none
/-- the classes by their names; in a suite also where its exception is -/
def _root_.L2.Cx.mg' (X : Cx) : Str → Option Value := if X.calm = true then X.mg else fun c => match X.mg c with
  | some (.ref C) => some (.ref C)
  | _ => lnk X c
theorem calm_mg {X : Cx} (h : X.calm = true) : X.mg' = X.mg := if_pos h
theorem lnk_ne {X : Cx} {c : Str} {C : Addr} : lnk X c ≠ some (.ref C) := by
  unfold lnk
  split
  · rename_i a oe r e
    split
    · intro q; cases q
    · split
      · intro q
        cases hd : oe.dict with
        | none => rw [hd] at q; cases q
        | some d => rw [hd] at q; cases q
      · split
        · split <;> intro q <;> cases q
        · intro q; cases q
  · intro q; cases q
theorem mg_ref {X : Cx} {c : Str} {C : Addr} : X.mg' c = some (.ref C) ↔ X.mg c = some (.ref C) := by
  unfold L2.Cx.mg'
  by_cases h : X.calm = true
  · rw [if_pos h]
  · rw [if_neg h]
    cases e : X.mg c with
    | none => exact ⟨fun q => absurd q lnk_ne, fun q => by cases q⟩
    | some u =>
      cases u with
      | ref D => exact Iff.rfl
      | _ => exact ⟨fun q => absurd q lnk_ne, fun q => by cases q⟩
abbrev DE (X : Cx) (W : WX) (e : Expr) (f : DM Sv) : Prop := PE X e (tE X.K X.mg' W f)
abbrev DT (X : Cx) (W : WX) (e : Expr) (f : DM Bool) : Prop := PT X e (tT X.K X.mg' W f)
abbrev DA (X : Cx) (W : WX) (es : List Expr) (f : DM (List Sv)) : Prop := PA X es (tA X.K X.mg' W f)
abbrev DS (X : Cx) (W : WX) (s : Stmt) (f : DM Fl) : Prop := PS X s (tS X.K X.mg' W f)
abbrev DSs (X : Cx) (W : WX) (s : List Stmt) (f : DM Fl) : Prop := PSs X s (tS X.K X.mg' W f)
abbrev DG (X : Cx) (e : Expr) (g : Sv → DM Slo) : Prop := PG X e (tGt X.K X.mg' g)
end DL

/-! DL, part 1: how states grow; names, constants, operators, tests, argument lists. -/
namespace DL
open PySem PySem.Spec PyProof.Rows L2

/-! ### weaker readings -/
theorem imE {X : Cx} {e : Expr} {t t' : TE} (p : PE X e t) (h : ∀ σ H Q, t' σ H Q → t σ H Q) : PE X e t' := ⟨fun pins s σ H Q I w => p.run pins s σ H Q I (h σ H Q w)⟩
theorem imT {X : Cx} {e : Expr} {t t' : TT} (p : PT X e t) (h : ∀ σ H Q, t' σ H Q → t σ H Q) : PT X e t' := ⟨fun pins s σ H Q I w => p.run pins s σ H Q I (h σ H Q w)⟩
theorem imW {X : Cx} {e : Expr} {t t' : TT} (p : PW X e t) (h : ∀ σ H Q, t' σ H Q → t σ H Q) : PW X e t' := ⟨fun wh pins s σ H Q I w => p.run wh pins s σ H Q I (h σ H Q w)⟩
theorem imA {X : Cx} {e : List Expr} {t t' : TA} (p : PA X e t) (h : ∀ σ H Q, t' σ H Q → t σ H Q) : PA X e t' := ⟨fun pos pins s σ H Q I w => p.run pos pins s σ H Q I (h σ H Q w)⟩
theorem imS {X : Cx} {e : Stmt} {t t' : TS} (p : PS X e t) (h : ∀ D σ H, t' D σ H → t D σ H) : PS X e t' := ⟨fun pins s σ H D I w => p.run pins s σ H D I (h D σ H w)⟩
theorem imSs {X : Cx} {e : List Stmt} {t t' : TS} (p : PSs X e t) (h : ∀ D σ H, t' D σ H → t D σ H) : PSs X e t' := ⟨fun pins s σ H D I w => p.run pins s σ H D I (h D σ H w)⟩
theorem imG {X : Cx} {e : Expr} {t t' : TG} (p : PG X e t) (h : ∀ v σ H Q, t' v σ H Q → t v σ H Q) : PG X e t' := ⟨fun pins s σ H v u Q I r w => p.run pins s σ H v u Q I r (h v σ H Q w)⟩

section
variable {K : PySem.W.Frag} {mg : Str → Option Value} {G0 G F F' H H' : Hp} {ps ps' : List Addr} {L : Led} {σ : List (Option V)} {ρ : Slo} {v : V} {s : Sv} {W : WX}
theorem XvOk.ext (x : Ext F ps F' ps') (h : XvOk K mg G F ps v s) : XvOk K mg G F' ps' v s := by
  cases s with
  | val d => exact RD.ext x h
  | bor xs => obtain ⟨p, vs, a, b, c, d⟩ := h; exact ⟨p, vs, a, b, c, RDs.ext x d⟩
  | borD ks => obtain ⟨p, vs, a, b, c, d⟩ := h; exact ⟨p, vs, a, b, c, RDk.ext x d⟩
  | mu xs => exact h
  | muD ks => exact h
  | xc c fs => obtain ⟨a, dd, C, gs, e1, e2, e3, e4, e5, e6, e7⟩ := h; exact ⟨a, dd, C, gs, e1, e2, e3, e4, e5, e6, RDf.ext x e7⟩
theorem XvOk.gr {G' : Hp} (g : Same G G') (h : XvOk K mg G F ps v s) : XvOk K mg G' F ps v s := by
  cases s with
  | val d => exact h
  | bor xs => obtain ⟨p, vs, a, b, c, d⟩ := h; exact ⟨p, vs, a, g _ _ b, c, d⟩
  | borD ks => obtain ⟨p, vs, a, b, c, d⟩ := h; exact ⟨p, vs, a, g _ _ b, c, d⟩
  | mu xs => exact h
  | muD ks => exact h
  | xc c fs => obtain ⟨a, dd, C, gs, e1, e2, e3, e4, e5, e6, e7⟩ := h; exact ⟨a, dd, C, gs, e1, e2, e3, e4, e5, g _ _ e6, e7⟩
theorem SvOk.ext (x : Ext F ps F' ps') (h : SvOk K mg G0 G F ps v s) : SvOk K mg G0 G F' ps' v s := by
  cases s with
  | val d => exact RD.ext x h
  | bor xs => obtain ⟨p, vs, a, b, c, d⟩ := h; exact ⟨p, vs, a, b, c, RDs.ext x d⟩
  | borD ks => obtain ⟨p, vs, a, b, c, d⟩ := h; exact ⟨p, vs, a, b, c, RDk.ext x d⟩
  | mu xs => obtain ⟨p, vs, a, b, c, e, d⟩ := h; exact ⟨p, vs, a, b, c, e, RDs.ext x d⟩
  | muD ks => obtain ⟨p, vs, a, b, c, e, d⟩ := h; exact ⟨p, vs, a, b, c, e, RDk.ext x d⟩
  | xc c fs => obtain ⟨a, dd, C, gs, e1, e2, e3, e4, e5, e6, e7⟩ := h; exact ⟨a, dd, C, gs, e1, e2, e3, e4, e5, e6, RDf.ext x e7⟩
theorem Slots.ext (x : Ext F ps F' ps') (h : Slots K mg G0 G F ps σ ρ) : Slots K mg G0 G F' ps' σ ρ :=
  ⟨h.len, fun i s e => let ⟨v, a, b⟩ := h.at_ i s e; ⟨v, a, b.ext x⟩, h.sep⟩
theorem XvsOk.ext (x : Ext F ps F' ps') : ∀ {vs : List V} {ss : List Sv}, XvsOk K mg G F ps vs ss → XvsOk K mg G F' ps' vs ss
  | _, _, .nil => .nil
  | _, _, .cons h r => .cons (h.ext x) (XvsOk.ext x r)
theorem XvsOk.length {vs : List V} {ss : List Sv} (h : XvsOk K mg G F ps vs ss) : vs.length = ss.length := Paired.length h
theorem QE.ext {Q : VK} (x : Ext F ps F' ps') {s : Sv} {L : Led} (h : QE K mg G F ps Q s L) : QE K mg G F' ps' Q s L := fun v F2 H2 p2 x2 I r => h v F2 H2 p2 (x.trans x2) I r
theorem EE.ext (x : Ext F ps F' ps') {e : Exn} {r : Slo} {L : Led} (h : EE K mg G0 F ps W e r L) : EE K mg G0 F' ps' W e r L := fun c d s2 G2 F2 H2 p2 g x2 I S R => h c d s2 G2 F2 H2 p2 g (x.trans x2) I S R
theorem QS.ext {D : Ends} (x : Ext F ps F' ps') {f : Fl} {L : Led} (h : QS K mg G0 F ps D f L) : QS K mg G0 F' ps' D f L := by
  cases f with
  | nx r => exact fun s2 G2 F2 H2 p2 g x2 I S => h s2 G2 F2 H2 p2 g (x.trans x2) I S
  | rt r => exact fun s2 G2 F2 H2 p2 g x2 I S => h s2 G2 F2 H2 p2 g (x.trans x2) I S
  | bk r => exact fun s2 G2 F2 H2 p2 g x2 I S => h s2 G2 F2 H2 p2 g (x.trans x2) I S
  | ct r => exact fun s2 G2 F2 H2 p2 g x2 I S => h s2 G2 F2 H2 p2 g (x.trans x2) I S
/-- a new thing that nobody holds: it stands for ever -/
theorem HS.grow (I : HS K mg G F H ps L) {p : Addr} {o : HO} (hp : H p = none) : HS K mg G (upd F p o) (upd H p o) ps L ∧ Ext F ps (upd F p o) ps ∧ Same H (upd H p o) := by
  have hF : F p = none := I.same.free hp
  have hG : G p = none := I.frame.free hp
  have sH : Same H (upd H p o) := fun b u e => by rw [upd_ne (ne_of_none e hp)]; exact e
  have sF : Same F (upd F p o) := fun b u e => by rw [upd_ne (ne_of_none e hF)]; exact e
  have xx : Ext F ps (upd F p o) ps := Ext.of ps sF
  have pn : ∀ q ∈ ps, q ≠ p := by
    intro q hq e
    subst e
    obtain ⟨k, hk⟩ := List.getElem?_of_mem hq
    have hk2 : k < L.length := by rw [← I.len]; exact (List.getElem?_eq_some_iff.mp hk).1
    have := I.at_ k q L[k] hk (by simp [hk2])
    revert this
    cases L[k] with
    | lst xs => rintro ⟨_, e, _⟩; rw [hp] at e; cases e
    | dic xs => rintro ⟨_, e, _⟩; rw [hp] at e; cases e
    | obj c fs => rintro ⟨_, _, _, _, e, _⟩; rw [hp] at e; cases e
    | gone => rintro ⟨_, e⟩; rw [hp] at e; cases e
  refine ⟨⟨I.frame.trans sH, fun b u e => ?_, fun a h => ?_, I.len, I.nd, fun q hq => ⟨by rw [upd_ne (pn q hq)]; exact (I.free q hq).1, (I.free q hq).2⟩, fun k q c hk hc => ?_⟩, xx, sH⟩
  · by_cases hb : b = p
    · subst hb; rw [upd_same] at e ⊢; exact e
    · rw [upd_ne hb] at e ⊢; exact I.same b u e
  · have hap : a ≠ p := fun e => h (by rw [e]; exact hG)
    rw [upd_ne hap]; exact I.apart a h
  · have hq : q ∈ ps := List.mem_of_getElem? hk
    have old := I.at_ k q c hk hc
    cases c with
    | lst xs => obtain ⟨vs, a, b, r⟩ := old; exact ⟨vs, sH _ _ a, b, RDs.ext xx r⟩
    | dic xs => obtain ⟨vs, a, b, r⟩ := old; exact ⟨vs, sH _ _ a, b, RDk.ext xx r⟩
    | obj c fs =>
      obtain ⟨C, dx, gs, a, b, c0, c1, c2, r⟩ := old
      exact ⟨C, dx, gs, a, sH _ _ b, sH _ _ c0, by rw [upd_ne (ne_of_none c0 hp)]; exact c1, c2, RDf.ext xx r⟩
    | gone => obtain ⟨o', a⟩ := old; exact ⟨o', sH _ _ a⟩
/-! ### operators by values: g says what r tells -/
def OpS (K : PySem.W.Frag) (mg : Str → Option Value) (r : R2) (g : Sv → Sv → Led → Option Sv) : Prop :=
  ∀ (G F H : Hp) (ps : List Addr) (L : Led) (x y : V) (a b s : Sv) (Q : VK), HS K mg G F H ps L → XvOk K mg G F ps x a → XvOk K mg G F ps y b → g a b L = some s → QE K mg G F ps Q s L → r x y H Q
def give {α : Type} (o : Option α) (L : Led) : Res α := match o with
  | some s => .ok s L
  | none => .bad
@[simp] theorem give_some {α : Type} {s : α} {L : Led} : give (some s) L = .ok s L := rfl
@[simp] theorem give_none {α : Type} {L : Led} : give (none : Option α) L = .bad := rfl
theorem give_wp {α : Type} {o : Option α} {L : Led} {P : α → Led → Prop} {E : Exn → Slo → Led → Prop} (h : (give o L).wp P E) : ∃ s, o = some s ∧ P s L := by
  cases o with
  | none => exact h.elim
  | some s => exact ⟨s, rfl, h⟩
def dOp (g : Sv → Sv → Led → Option Sv) (fa fb : DM Sv) : DM Sv := fun ρ L => (fa ρ L).bind fun x L1 => (fb ρ L1).bind fun y L2 => give (g x y L2) L2
def dUn (g : Sv → Led → Option Sv) (fa : DM Sv) : DM Sv := fun ρ L => (fa ρ L).bind fun x L1 => give (g x L1) L1
theorem tOp_of {r : R2} {g : Sv → Sv → Led → Option Sv} {fa fb : DM Sv} (hs : OpS K mg r g) {σ : List (Option V)} {H : Hp} {Q : VK} (h : tE K mg W (dOp g fa fb) σ H Q) : tOp r (tE K mg W fa) (tE K mg W fb) σ H Q := by
  obtain ⟨G0, G, F, ps, ρ, L, g0, I, S, h⟩ := h
  refine ⟨G0, G, F, ps, ρ, L, g0, I, S, Res.wp_mono (Res.wp_bind h) (fun x L1 h1 v F1 H1 p1 x1 I1 r1 => ?_) fun e r L' q => q⟩
  refine ⟨G0, G, F1, p1, ρ, L1, g0, I1, S.ext x1, Res.wp_mono (Res.wp_bind h1) (fun y L2 h2 u F2 H2 p2 x2 I2 r2 => ?_) fun e r L' q => EE.ext x1 q⟩
  obtain ⟨s, e, q⟩ := give_wp h2
  exact hs G F2 H2 p2 L2 v u x y s Q I2 (r1.ext x2) r2 e (QE.ext (x1.trans x2) q)
def UnS (K : PySem.W.Frag) (mg : Str → Option Value) (r : V → Hp → VK → Prop) (g : Sv → Led → Option Sv) : Prop :=
  ∀ (G F H : Hp) (ps : List Addr) (L : Led) (x : V) (a s : Sv) (Q : VK), HS K mg G F H ps L → XvOk K mg G F ps x a → g a L = some s → QE K mg G F ps Q s L → r x H Q
theorem tUn_of {r : V → Hp → VK → Prop} {g : Sv → Led → Option Sv} {fa : DM Sv} (hs : UnS K mg r g) {σ : List (Option V)} {H : Hp} {Q : VK} (h : tE K mg W (dUn g fa) σ H Q) : tUn r (tE K mg W fa) σ H Q := by
  obtain ⟨G0, G, F, ps, ρ, L, g0, I, S, h⟩ := h
  refine ⟨G0, G, F, ps, ρ, L, g0, I, S, Res.wp_mono (Res.wp_bind h) (fun x L1 h1 v F1 H1 p1 x1 I1 r1 => ?_) fun e r L' q => q⟩
  obtain ⟨s, e, q⟩ := give_wp h1
  exact hs G F1 H1 p1 L1 v x s Q I1 r1 e (QE.ext x1 q)
/-- a result that stands already -/
theorem QE.now {Q : VK} {s : Sv} (h : QE K mg G F ps Q s L) (I : HS K mg G F H ps L) (r : XvOk K mg G F ps v s) : Q v H := h v F H ps (Ext.refl F ps) I r
/-- a result at a new thing that stands for ever -/
theorem QE.new {Q : VK} {d : Dv} (h : QE K mg G F ps Q (.val d) L) (I : HS K mg G F H ps L) {p : Addr} {o : HO} (hp : H p = none) (r : RD K mg (upd F p o) ps (.ref p) d) : Q (.ref p) (upd H p o) := by
  obtain ⟨I2, x2, _⟩ := I.grow (o := o) hp
  exact h _ _ _ ps x2 I2 r
end
section
variable {X : Cx} {W : WX} {a b c : Expr} {fa fb fc : DM Sv} {pos : Pos}
theorem de_op {op : Operator} {r : R2} {g : Sv → Sv → Led → Option Sv} (ho : OpR X (binaryOp op) r) (hs : OpS X.K X.mg' r g) (ha : DE X W a fa) (hb : DE X W b fb) : DE X W (.BinOp a op b pos) (dOp g fa fb) := imE (pe_op ho ha hb) fun _ _ _ h => tOp_of hs h
theorem de_un {op : UnaryOp} {r : V → Hp → VK → Prop} {g : Sv → Led → Option Sv} (ho : UnR X (unaryOp op) r) (hs : UnS X.K X.mg' r g) (ha : DE X W a fa) : DE X W (.UnaryOp op a pos) (dUn g fa) := imE (pe_un ho ha) fun _ _ _ h => tUn_of hs h
theorem de_cmp {op : CmpOp} {r : R2} {g : Sv → Sv → Led → Option Sv} (ho : OpR X (compareOp op) r) (hs : OpS X.K X.mg' r g) (ha : DE X W a fa) (hb : DE X W b fb) (hm : behindInMarks op b = false) : DE X W (.Compare a [op] [b] pos) (dOp g fa fb) := imE (pe_cmpR ho ha hb hm) fun _ _ _ h => tOp_of hs h
theorem de_ix {r : R2} {g : Sv → Sv → Led → Option Sv} (hr : IxR X r) (hs : OpS X.K X.mg' r g) (ha : DE X W a fa) (hb : DE X W b fb) (hx : PlainIx b) : DE X W (.Subscript a b pos) (dOp g fa fb) := imE (pe_ix hr ha hb hx) fun _ _ _ h => tOp_of hs h
end
end DL

/-! DL, part 2: operators on values. -/
namespace DL
open PySem PySem.Spec PyProof.Rows L2
section
variable {K : PySem.W.Frag} {mg : Str → Option Value} {G F H : Hp} {ps : List Addr} {L : Led} {v x y : V} {s a b : Sv} {d : Dv}
theorem xv_int {i : Int} (h : XvOk K mg G F ps x (.val (.int i))) : x = .int i := by cases h; rfl
theorem xv_str {z : Str} (h : XvOk K mg G F ps x (.val (.str z))) : x = .str z ∧ z.length ≤ sizeLine := by
  cases h with
  | str _ q => exact ⟨rfl, q⟩
theorem xv_bl {k : Bool} (h : XvOk K mg G F ps x (.val (.bl k))) : x = .bl k := by cases h; rfl
theorem xv_non (h : XvOk K mg G F ps x (.val .non)) : x = .non := by cases h; rfl
/-- a list of the heap, for ever or borrowed -/
def Sv.items : Sv → Option (List Dv)
  | .val (.lst xs) => some xs
  | .bor xs => some xs
  | _ => none
theorem xv_items (I : HS K mg G F H ps L) {xs : List Dv} (h : XvOk K mg G F ps x s) (e : s.items = some xs) : ∃ p vs, x = .ref p ∧ H p = some (.lst vs) ∧ vs.length ≤ sizeLine ∧ RDs K mg F ps vs xs := by
  cases s with
  | val d =>
    cases d <;> simp [Sv.items] at e
    subst e
    cases h with
    | lst h z r => exact ⟨_, _, rfl, I.same _ _ h, z, r⟩
  | bor ys =>
    simp [Sv.items] at e
    subst e
    obtain ⟨p, vs, a, b, c, r⟩ := h
    exact ⟨p, vs, a, I.frame _ _ b, c, r⟩
  | borD _ => simp [Sv.items] at e
  | mu _ => simp [Sv.items] at e
  | muD _ => simp [Sv.items] at e
  | xc _ _ => simp [Sv.items] at e
theorem xv_tup (I : HS K mg G F H ps L) {xs : List Dv} (h : XvOk K mg G F ps x (.val (.tup xs))) : ∃ p vs, x = .ref p ∧ F p = some (.tup vs) ∧ H p = some (.tup vs) ∧ vs.length ≤ sizeLine ∧ RDs K mg F ps vs xs := by
  cases h with
  | tup h z r => exact ⟨_, _, rfl, h, I.same _ _ h, z, r⟩
/-- a new list, a new tuple that stands for ever -/
theorem QE.newL {Q : VK} {xs : List Dv} {vs : List V} (h : QE K mg G F ps Q (.val (.lst xs)) L) (I : HS K mg G F H ps L) (z : vs.length ≤ sizeLine) (r : RDs K mg F ps vs xs) : ∀ p, H p = none → Q (.ref p) (upd H p (.lst vs)) := fun p hp => by
  obtain ⟨_, x2, _⟩ := I.grow (o := .lst vs) hp
  exact h.new I hp (.lst upd_same z (RDs.ext x2 r))
theorem QE.newT {Q : VK} {xs : List Dv} {vs : List V} (h : QE K mg G F ps Q (.val (.tup xs)) L) (I : HS K mg G F H ps L) (z : vs.length ≤ sizeLine) (r : RDs K mg F ps vs xs) : ∀ p, H p = none → Q (.ref p) (upd H p (.tup vs)) := fun p hp => by
  obtain ⟨_, x2, _⟩ := I.grow (o := .tup vs) hp
  exact h.new I hp (.tup upd_same z (RDs.ext x2 r))
theorem QE.flat {Q : VK} (h : QE K mg G F ps Q (.val d) L) (I : HS K mg G F H ps L) (r : RD K mg F ps v d) : Q v H := h.now I r

/-! ### + -/
def gCat (xs ys : List Dv) : Option Sv := if xs.length + ys.length ≤ sizeLine then some (.val (.lst (xs ++ ys))) else none
def gAdd (a b : Sv) (_ : Led) : Option Sv := match a, b with
  | .val (.int i), .val (.int j) => some (.val (.int (i + j)))
  | .val (.str x), .val (.str y) => if x.length + y.length ≤ sizeLine then some (.val (.str (x ++ y))) else none
  | .val (.lst xs), .val (.lst ys) => gCat xs ys
  | .val (.lst xs), .bor ys => gCat xs ys
  | .bor xs, .val (.lst ys) => gCat xs ys
  | .bor xs, .bor ys => gCat xs ys
  | .val (.tup xs), .val (.tup ys) => if xs.length + ys.length ≤ sizeLine then some (.val (.tup (xs ++ ys))) else none
  | _, _ => none
def rPlus (K : PySem.W.Frag) : R2 := fun x y H Q => rI0 (fun i j => .int (i + j)) x y H Q ∨ (∃ i j, x = .str i ∧ y = .str j ∧ i.length + j.length ≤ sizeLine ∧ Q (.str (i ++ j)) H) ∨ rCat x y H Q ∨ rCatA K x y H Q
theorem oAdd {X : Cx} : OpR X (binaryOp .Add) (rPlus X.K) := OpR.or op_add (OpR.or op_add_str (OpR.or op_cat op_catA))
theorem str_app_len (x y : Str) : (x ++ y).length = x.length + y.length := strLen_append x y
theorem sAddL (I : HS K mg G F H ps L) (ra : XvOk K mg G F ps x a) (rb : XvOk K mg G F ps y b) {xs ys : List Dv} (ea : a.items = some xs) (eb : b.items = some ys) {Q : VK} (e : gCat xs ys = some s) (q : QE K mg G F ps Q s L) : rCat x y H Q := by
  obtain ⟨p, vs, rfl, hp, z, r⟩ := xv_items I ra ea
  obtain ⟨p2, ws, rfl, hp2, z2, r2⟩ := xv_items I rb eb
  unfold gCat at e
  split at e
  · rename_i hz
    cases e
    have hz2 : vs.length + ws.length ≤ sizeLine := by rw [r.length, r2.length]; exact hz
    exact ⟨p, p2, vs, ws, rfl, rfl, hp, hp2, hz2, q.newL I (by rw [List.length_append]; exact hz2) (r.append r2)⟩
  · cases e
theorem sAdd : OpS K mg (rPlus K) gAdd := by
  intro G F H ps L x y a b s Q I ra rb e q
  unfold gAdd at e
  split at e
  · cases e; exact .inl ⟨_, _, xv_int ra, xv_int rb, q.flat I (.int _)⟩
  · split at e
    · rename_i hz; cases e
      exact .inr (.inl ⟨_, _, (xv_str ra).1, (xv_str rb).1, hz, q.flat I (.str _ (by rw [str_app_len]; exact hz))⟩)
    · cases e
  · exact .inr (.inr (.inl (sAddL I ra rb rfl rfl e q)))
  · exact .inr (.inr (.inl (sAddL I ra rb rfl rfl e q)))
  · exact .inr (.inr (.inl (sAddL I ra rb rfl rfl e q)))
  · exact .inr (.inr (.inl (sAddL I ra rb rfl rfl e q)))
  · split at e
    · rename_i xs ys hz; cases e
      obtain ⟨p, vs, rfl, fp, hp, z, r⟩ := xv_tup I ra
      obtain ⟨p2, ws, rfl, fp2, hp2, z2, r2⟩ := xv_tup I rb
      have hz2 : vs.length + ws.length ≤ sizeLine := by rw [r.length, r2.length]; exact hz
      refine .inr (.inr (.inr ⟨p, p2, vs, ws, rfl, rfl, SqT.of hp, SqT.of hp2, hz2, fun e => ?_, fun _ e => ?_, fun _ _ => ?_⟩))
      · subst e; cases r
        exact q.now I (show XvOk K mg G F ps _ (.val (.tup ([] ++ ys))) from .tup fp2 z2 r2)
      · subst e; cases r2
        exact q.now I (show XvOk K mg G F ps _ (.val (.tup (xs ++ []))) from by rw [List.append_nil]; exact .tup fp z r)
      · exact q.newT I (by rw [List.length_append]; exact hz2) (r.append r2)
    · cases e
  · cases e

/-! ### ints: - * // % ** -/
def gI (C : Int → Int → Prop) [∀ i j, Decidable (C i j)] (f : Int → Int → Dv) (a b : Sv) (_ : Led) : Option Sv := match a, b with
  | .val (.int i), .val (.int j) => if C i j then some (.val (f i j)) else none
  | _, _ => none
theorem sI {C D : Int → Int → Prop} [∀ i j, Decidable (C i j)] {f : Int → Int → Dv} {g : Int → Int → V} (hC : ∀ i j, C i j → D i j) (hf : ∀ i j K mg F ps, RD K mg F ps (g i j) (f i j)) : OpS K mg (rI D g) (gI C f) := by
  intro G F H ps L x y a b s Q I ra rb e q
  unfold gI at e
  split at e
  · split at e
    · rename_i hc; cases e
      exact ⟨_, _, xv_int ra, xv_int rb, hC _ _ hc, q.flat I (hf _ _ _ _ _ _)⟩
    · cases e
  · cases e
def gI0 (f : Int → Int → Dv) (a b : Sv) (_ : Led) : Option Sv := match a, b with
  | .val (.int i), .val (.int j) => some (.val (f i j))
  | _, _ => none
theorem sI0 {f : Int → Int → Dv} {g : Int → Int → V} (hf : ∀ i j K mg F ps, RD K mg F ps (g i j) (f i j)) : OpS K mg (rI0 g) (gI0 f) := by
  intro G F H ps L x y a b s Q I ra rb e q
  unfold gI0 at e
  split at e
  · cases e
    exact ⟨_, _, xv_int ra, xv_int rb, q.flat I (hf _ _ _ _ _ _)⟩
  · cases e
def gSub := gI0 fun i j => .int (i - j)
theorem sSub : OpS K mg (rI0 fun i j => .int (i - j)) gSub := sI0 fun _ _ _ _ _ _ => .int _
def small64 (i : Int) : Prop := -(2 ^ 64) < i ∧ i < 2 ^ 64
instance (i : Int) : Decidable (small64 i) := inferInstanceAs (Decidable (_ ∧ _))
/-- a text n times -/
def strRep (x : Str) (n : Nat) : Str := ⟨(List.replicate n x.cps.toList).flatten.toArray⟩
theorem strRep_len (x : Str) (n : Nat) : (strRep x n).length = n * x.length := by
  show (List.replicate n x.cps.toList).flatten.toArray.size = _
  rw [List.size_toArray, List.length_flatten, List.map_replicate, List.sum_replicate_nat]
  rfl
theorem strRep_zero (x : Str) : strRep x 0 = Str.empty := rfl
theorem strRep_one (x : Str) : strRep x 1 = x := by
  show (⟨_⟩ : Str) = x
  simp [List.replicate]
theorem rep_fold (b : Array Nat) : ∀ (n : Nat) (a : Array Nat), (List.replicate n b).foldl (fun x y => x ++ y) a = a ++ (List.replicate n b.toList).flatten.toArray
  | 0, a => by simp
  | n + 1, a => by
    rw [List.replicate_succ, List.foldl_cons, rep_fold b n (a ++ b), List.replicate_succ, List.flatten_cons]
    apply Array.toList_inj.mp
    simp
theorem strRep_nil {x : Str} (h : x.length = 0) (n : Nat) : strRep x n = x := by
  have e : x.cps = #[] := Array.size_eq_zero_iff.mp h
  show (⟨_⟩ : Str) = x
  rw [e]
  have : (List.replicate n (#[] : Array Nat).toList).flatten = [] := by
    induction n with
    | zero => rfl
    | succ n ih => simp [List.replicate_succ]
  rw [this]
  exact (congrArg Str.mk e).symm
def repOk (k : Int) (n : Nat) : Prop := -(2 ^ 63) ≤ k ∧ k < 2 ^ 63 ∧ n * k.toNat ≤ sizeLine
instance (k : Int) (n : Nat) : Decidable (repOk k n) := inferInstanceAs (Decidable (_ ∧ _ ∧ _))
def rMulS : R2 := fun x y H Q => ∃ z k, x = .str z ∧ y = .int k ∧ z.length ≤ sizeLine ∧ repOk k z.length ∧ Q (.str (strRep z k.toNat)) H
theorem oMulS {X : Cx} : OpR X (binaryOp .Mult) rMulS := by
  intro pins s σ H x y v u Q I rx ry h
  obtain ⟨z, k, rfl, rfl, hz, ⟨h1, h2, h3⟩, q⟩ := h
  obtain ⟨t, rfl⟩ := rx
  obtain ⟨t2, rfl⟩ := ry
  have hs : sizeLine = 16777216 := sizeLine_eq
  refine P.mul_str (by rw [decide_eq_false (show ¬ k < -(2 ^ 63 : Int) by omega), decide_eq_false (show ¬ k ≥ 2 ^ 63 by omega)]; rfl) (fun hk hc => ?_) (fun hk hc => ?_) ?_
  · rw [hs] at hz
    have hl : z.length ≠ 0 := by
      intro e
      rw [e, show ((0 : Nat) == 0) = true from rfl, Bool.or_true] at hc
      cases hc
    intro hgt
    have hk0 : 0 < k := by omega
    have h4 : ((z.length * k.toNat : Nat) : Int) ≤ ((16777216 : Nat) : Int) := by rw [hs] at h3; exact Int.ofNat_le.mpr h3
    have h5 : ((z.length * k.toNat : Nat) : Int) = (z.length : Int) * k := by rw [Int.natCast_mul, Int.toNat_of_nonneg (by omega)]
    have h6 : (2 ^ 63 - 1 : Int) / k * k ≤ 2 ^ 63 - 1 := Int.ediv_mul_le _ (by omega)
    have h7 : (2 ^ 63 - 1 : Int) < ((2 ^ 63 - 1) / k + 1) * k := Int.lt_ediv_add_one_mul_self _ hk0
    have h8 : ((2 ^ 63 - 1 : Int) / k + 1) * k ≤ (z.length : Int) * k := Int.mul_le_mul_of_nonneg_right (by omega) (by omega)
    omega
  · have : ¬ z.length * k.toNat > sizeLine := by omega
    exact decide_eq_false this
  · by_cases hk : k < 1
    · rw [if_pos hk]
      have e : k.toNat = 0 := by omega
      rw [e, strRep_zero] at q
      exact ⟨by decide, ⟨.str _, H, I.tok _, ⟨_, rfl⟩, q⟩⟩
    · rw [if_neg hk]
      by_cases hc : (k == 1 || z.length == 0) = true
      · rw [if_pos hc]
        have e : strRep z k.toNat = z := by
          rcases Bool.or_eq_true _ _ ▸ hc with hc | hc
          · have : k = 1 := by simpa using hc
            subst this; exact strRep_one z
          · exact strRep_nil (by simpa using hc) _
        rw [e] at q
        exact ⟨.str _, H, I, ⟨_, rfl⟩, q⟩
      · rw [if_neg hc]
        have e : (⟨(List.replicate k.toNat z.cps).foldl (· ++ ·) #[]⟩ : Str) = strRep z k.toNat := by
          show (⟨_⟩ : Str) = ⟨_⟩
          rw [rep_fold z.cps k.toNat #[]]
          simp
        rw [e]
        refine ⟨?_, ⟨.str _, H, I.tok _, ⟨_, rfl⟩, q⟩⟩
        rw [strRep_len, Nat.mul_comm]
        exact h3
/-- a product of ints, a list or a text times an int -/
def gMul (a b : Sv) (_ : Led) : Option Sv := match a, b with
  | .val (.int i), .val (.int j) => if small64 i ∨ small64 j then some (.val (.int (i * j))) else none
  | .val (.lst xs), .val (.int k) => if repOk k xs.length then some (.val (.lst (List.replicate k.toNat xs).flatten)) else none
  | .val (.str x), .val (.int k) => if repOk k x.length then some (.val (.str (strRep x k.toNat))) else none
  | _, _ => none
def rTimes : R2 := fun x y H Q => rI CMul (fun i j => .int (i * j)) x y H Q ∨ rRep x y H Q ∨ rMulS x y H Q
theorem oMul {X : Cx} : OpR X (binaryOp .Mult) rTimes := OpR.or op_mul (OpR.or op_rep oMulS)
theorem flat_rep_len {α : Type} (xs : List α) (n : Nat) : (List.replicate n xs).flatten.length = n * xs.length := by
  rw [List.length_flatten, List.map_replicate, List.sum_replicate_nat]
theorem sMul : OpS K mg rTimes gMul := by
  intro G F H ps L x y a b s Q I ra rb e q
  unfold gMul at e
  split at e
  · split at e
    · rename_i hc; cases e
      exact .inl ⟨_, _, xv_int ra, xv_int rb, hc, q.flat I (.int _)⟩
    · cases e
  · split at e
    · rename_i xs k hc; cases e
      obtain ⟨p, vs, rfl, hp, z, r⟩ := xv_items I ra rfl
      obtain ⟨h1, h2, h3⟩ := hc
      have h4 : vs.length * k.toNat ≤ sizeLine := by rw [r.length]; exact h3
      refine .inr (.inl ⟨p, k, vs, rfl, xv_int rb, hp, h1, h2, h4, q.newL I (by rw [flat_rep_len, Nat.mul_comm]; exact h4) (r.rep _)⟩)
    · cases e
  · split at e
    · rename_i z k hc; cases e
      have hz := xv_str ra
      exact .inr (.inr ⟨z, k, hz.1, xv_int rb, hz.2, hc, q.flat I (.str _ (by rw [strRep_len, Nat.mul_comm]; exact hc.2.2))⟩)
    · cases e
  · cases e
instance (i j : Int) : Decidable (CDiv i j) := inferInstanceAs (Decidable (_ ∧ _))
instance (i j : Int) : Decidable (CPow i j) := inferInstanceAs (Decidable (_ ∧ _ ∧ _))
def gFdiv := gI CDiv fun i j => .int (i / j)
def gMod := gI (fun _ j => 0 < j) fun i j => .int (i % j)
def gPow := gI CPow fun i j => .int (i ^ j.toNat)
theorem sFdiv : OpS K mg (rI CDiv fun i j => .int (i / j)) gFdiv := sI (fun _ _ h => h) fun _ _ _ _ _ _ => .int _
theorem sMod : OpS K mg (rI (fun _ j => 0 < j) fun i j => .int (i % j)) gMod := sI (fun _ _ h => h) fun _ _ _ _ _ _ => .int _
theorem sPow : OpS K mg (rI CPow fun i j => .int (i ^ j.toNat)) gPow := sI (fun _ _ h => h) fun _ _ _ _ _ _ => .int _
def gNeg (a : Sv) (_ : Led) : Option Sv := match a with
  | .val (.int i) => some (.val (.int (-i)))
  | _ => none
theorem sNeg : UnS K mg (rU fun i => .int (-i)) gNeg := by
  intro G F H ps L x a s Q I ra e q
  unfold gNeg at e
  split at e
  · cases e; exact ⟨_, xv_int ra, q.flat I (.int _)⟩
  · cases e

/-! ### < <= > >= of ints, is None -/
def gCmp (f : Int → Int → Bool) := gI0 fun i j => .bl (f i j)
theorem sCmp {f : Int → Int → Bool} : OpS K mg (rI0 fun i j => .bl (f i j)) (gCmp f) := sI0 fun _ _ _ _ _ _ => .bl _
def Sv.isNon : Sv → Option Bool
  | .val .non => some true
  | .val .opq => none
  | .val _ => some false
  | .bor _ => some false
  | .borD _ => some false
  | _ => none
theorem xv_isNon {k : Bool} (h : XvOk K mg G F ps x s) (e : s.isNon = some k) : decide (x = .non) = k := by
  cases s with
  | val d => cases h <;> simp_all [Sv.isNon]
  | bor xs => obtain ⟨p, vs, rfl, _⟩ := h; simp_all [Sv.isNon]
  | borD xs => obtain ⟨p, vs, rfl, _⟩ := h; simp_all [Sv.isNon]
  | mu _ => exact h.elim
  | muD _ => exact h.elim
  | xc _ _ => cases e
def gIsN (neg : Bool) (a b : Sv) (_ : Led) : Option Sv := match b with
  | .val .non => a.isNon.map fun k => .val (.bl (if neg then !k else k))
  | _ => none
theorem sIsN : OpS K mg (fun x y H Q => y = .non ∧ Q (.bl (decide (x = .non))) H) (gIsN false) := by
  intro G F H ps L x y a b s Q I ra rb e q
  unfold gIsN at e
  split at e
  · cases h : a.isNon with
    | none => rw [h] at e; cases e
    | some k =>
      rw [h] at e; cases e
      rw [xv_isNon ra h]
      exact ⟨xv_non rb, q.flat I (.bl _)⟩
  · cases e
theorem sNotN : OpS K mg (fun x y H Q => y = .non ∧ Q (.bl (!decide (x = .non))) H) (gIsN true) := by
  intro G F H ps L x y a b s Q I ra rb e q
  unfold gIsN at e
  split at e
  · cases h : a.isNon with
    | none => rw [h] at e; cases e
    | some k =>
      rw [h] at e; cases e
      rw [xv_isNon ra h]
      exact ⟨xv_non rb, q.flat I (.bl _)⟩
  · cases e

/-! ### plain data -/
mutual
def Dv.py : Dv → Option PyData
  | .non => some .none
  | .bl b => some (.bool b)
  | .int i => some (.int i)
  | .str x => some (.str x)
  | .lst xs => (pys xs).map .list
  | .tup xs => (pys xs).map .tuple
  | .dic ks => (pyk ks).map .dict
  | _ => none
def pys : List Dv → Option (List PyData)
  | [] => some []
  | d :: ds => match d.py, pys ds with
    | some p, some q => some (p :: q)
    | _, _ => none
def pyk : List (Key × Dv) → Option (List (PyData × PyData))
  | [] => some []
  | (k, d) :: ds => match d.py, pyk ds with
    | some p, some q => some ((match k with | .inl i => .int i | .inr x => .str x, p) :: q)
    | _, _ => none
end
def Sv.py : Sv → Option PyData
  | .val d => d.py
  | .bor xs => (pys xs).map .list
  | .borD ks => (pyk ks).map .dict
  | _ => none
def keyP : Key → PyData
  | .inl i => .int i
  | .inr x => .str x
/-- x reads as p at every state that holds H -/
def RdAt (X : Cx) (H : Hp) (x : V) (p : PyData) : Prop := ∀ (pins : List (Addr × Obj)) (σ : List (Option V)) (s : Shared) (u : Value), Inv X pins σ H s → RelV x u → ∃ as, Reads s.heap u p as ∧ sysModules ∉ as
end
end DL

/-! DL, part 3: data as a whole: ==, in, repr, len, truth, isinstance. -/
namespace DL
open PySem PySem.Spec PyProof.Rows L2
section
variable {X : Cx} {pins : List (Addr × Obj)} {σ : List (Option V)} {s : Shared} {F H : Hp} {ps : List Addr} {mg : Str → Option Value}
/-- the interpreter's own table of modules is known, so nothing of ours stands there -/
def SysK (K : PySem.W.Frag) : Prop := ∃ o, K.lookup sysModules = some o
theorem tracked_ne (I : Inv X pins σ H s) (hk : SysK X.K) {a : Addr} {o : HO} (h : H a = some o) : a ≠ sysModules := by
  rintro rfl
  obtain ⟨ob, e⟩ := hk
  have := (I.bs _ _ (I.mod.kin _ _ e)).2
  rw [this] at h
  cases h
theorem rd_tracked {a : Addr} {u : HO} (h : Rd H a u) : ∃ o, H a = some o := by
  rcases h with h | ⟨o, h⟩
  · exact ⟨_, h⟩
  · exact ⟨_, h⟩
theorem pairs_reads {P : Program} {w : World} : ∀ {es : List DictEntry} {vs : List (Key × Value)}, Pairs (mixKind P w) es vs → es.map (·.val) = vs.map (·.2) ∧ ∀ h, ∃ as, ReadsAll h (es.map (·.key)) (vs.map fun q => keyP q.1) as ∧ as = []
  | _, _, .nil => ⟨rfl, fun _ => ⟨[], .nil, rfl⟩⟩
  | e :: es, kv :: vs, .cons h1 h2 r => by
    obtain ⟨a, b⟩ := pairs_reads r
    refine ⟨by simp [a, h2], fun h => ?_⟩
    obtain ⟨as, q, rfl⟩ := b h
    have hk : Reads h e.key (keyP kv.1) [] := by
      rcases keyIs_shape h1 with ⟨i, t, e1, e2⟩ | ⟨x, t, e1, e2⟩
      · rw [e1, e2]; exact .int i t
      · rw [e1, e2]; exact .str x t
    exact ⟨[] ++ [], .cons hk q, rfl⟩
theorem kv_split : ∀ {ws : List (Key × V)} {vs : List (Key × Value)}, KV ws vs → ws.map (·.1) = vs.map (·.1) ∧ Vals (ws.map (·.2)) (vs.map (·.2))
  | _, _, .nil => ⟨rfl, .nil⟩
  | _, _, .cons h r => by
    obtain ⟨a, b⟩ := kv_split r
    exact ⟨by simp [a, h.1], .cons h.2 b⟩
mutual
theorem RD.reads (I : Inv X pins σ H s) (hk : SysK X.K) (hs : Same F H) : ∀ (d : Dv) (p : PyData) (v : V) (u : Value), d.py = some p → RD X.K mg F ps v d → RelV v u → ∃ as, Reads s.heap u p as ∧ sysModules ∉ as
  | .non, _, _, _, e, h, r => by
    simp only [Dv.py] at e; cases e; cases h; cases r
    exact ⟨_, .none, by simp⟩
  | .bl b, _, _, _, e, h, r => by
    simp only [Dv.py] at e; cases e; cases h; cases r
    exact ⟨_, .bool b, by simp⟩
  | .int i, _, _, _, e, h, r => by
    simp only [Dv.py] at e; cases e; cases h
    obtain ⟨t, rfl⟩ := r
    exact ⟨_, .int i t, by simp⟩
  | .str x, _, _, _, e, h, r => by
    simp only [Dv.py] at e; cases e; cases h
    obtain ⟨t, rfl⟩ := r
    exact ⟨_, .str x t, by simp⟩
  | .lst xs, p, _, _, e, h, r => by
    cases hp : pys xs with
    | none => simp [Dv.py, hp] at e
    | some q =>
      simp [Dv.py, hp] at e
      subst e
      cases h with
      | lst h z rs =>
        cases r
        obtain ⟨its, rv, ⟨o, n, ho, hc, _, hd⟩, _⟩ := I.list (SqL.of (hs _ _ h))
        obtain ⟨as, ra, ns⟩ := RDs.reads I hk hs xs q _ its hp rs rv
        exact ⟨_, .list ho hc hd ra, by
          intro hm
          rcases List.mem_cons.mp hm with hm | hm
          · exact tracked_ne I hk (hs _ _ h) hm.symm
          · exact ns hm⟩
  | .tup xs, p, _, _, e, h, r => by
    cases hp : pys xs with
    | none => simp [Dv.py, hp] at e
    | some q =>
      simp [Dv.py, hp] at e
      subst e
      cases h with
      | tup h z rs =>
        cases r
        obtain ⟨its, rv, ⟨o, ho, hc, n, hd⟩, _⟩ := I.tuple (SqT.of (hs _ _ h))
        obtain ⟨as, ra, ns⟩ := RDs.reads I hk hs xs q _ its hp rs rv
        exact ⟨_, .tuple ho hc hd ra, ns⟩
  | .dic ks, p, _, _, e, h, r => by
    cases hp : pyk ks with
    | none => simp [Dv.py, hp] at e
    | some q =>
      simp [Dv.py, hp] at e
      subst e
      cases h with
      | dic h z rs =>
        cases r
        obtain ⟨_, _, vs, kv, o, es, ep, ho, hx, hd, _, pr, _⟩ := (Same.rd hs h).ok I.hok
        obtain ⟨e1, hkeys⟩ := pairs_reads pr
        obtain ⟨as1, rk, rfl⟩ := hkeys s.heap
        obtain ⟨e2, rv⟩ := kv_split kv
        obtain ⟨as, ra, ns, e3⟩ := RDk.reads I hk hs ks q _ (vs.map (·.2)) hp rs rv
        have ek : vs.map (fun q => keyP q.1) = q.map (·.1) := by
          rw [e3, show (fun q : Key × Value => keyP q.1) = keyP ∘ (·.1) from rfl, ← List.map_map, ← e2, List.map_map]
          rfl
        rw [ek] at rk
        obtain ⟨o', htr⟩ := rd_tracked (Same.rd hs h)
        refine ⟨_, .dict ho hx.1 hd rk (by rw [e1]; exact ra), ?_⟩
        intro hm
        rcases List.mem_cons.mp hm with hm | hm
        · exact tracked_ne I hk htr hm.symm
        · exact ns (by simpa using hm)
  | .obj _ _, _, _, _, e, _, _ => by simp [Dv.py] at e
  | .own _, _, _, _, e, _, _ => by simp [Dv.py] at e
  | .scr _, _, _, _, e, _, _ => by simp [Dv.py] at e
  | .opq, _, _, _, e, _, _ => by simp [Dv.py] at e
theorem RDs.reads (I : Inv X pins σ H s) (hk : SysK X.K) (hs : Same F H) : ∀ (ds : List Dv) (p : List PyData) (vs : List V) (us : List Value), pys ds = some p → RDs X.K mg F ps vs ds → Vals vs us → ∃ as, ReadsAll s.heap us p as ∧ sysModules ∉ as
  | [], _, _, _, e, h, r => by
    simp only [pys] at e; cases e; cases h; cases r
    exact ⟨_, .nil, by simp⟩
  | d :: ds, p, _, _, e, h, r => by
    cases h1 : d.py with
    | none => simp [pys, h1] at e
    | some a =>
      cases h2 : pys ds with
      | none => simp [pys, h1, h2] at e
      | some b =>
        simp [pys, h1, h2] at e
        subst e
        cases h with
        | cons h rs =>
          cases r with
          | cons r rr =>
            obtain ⟨as, r1, n1⟩ := RD.reads I hk hs d a _ _ h1 h r
            obtain ⟨bs, r2, n2⟩ := RDs.reads I hk hs ds b _ _ h2 rs rr
            exact ⟨_, .cons r1 r2, by simp [n1, n2]⟩
theorem RDk.reads (I : Inv X pins σ H s) (hk : SysK X.K) (hs : Same F H) : ∀ (ds : List (Key × Dv)) (p : List (PyData × PyData)) (vs : List (Key × V)) (us : List Value), pyk ds = some p → RDk X.K mg F ps vs ds → Vals (vs.map (·.2)) us →
    ∃ as, ReadsAll s.heap us (p.map (·.2)) as ∧ sysModules ∉ as ∧ p.map (·.1) = vs.map fun q => keyP q.1
  | [], _, _, _, e, h, r => by
    simp only [pyk] at e; cases e; cases h; cases r
    exact ⟨_, .nil, by simp, rfl⟩
  | (k, d) :: ds, p, _, _, e, h, r => by
    cases h1 : d.py with
    | none => simp [pyk, h1] at e
    | some a =>
      cases h2 : pyk ds with
      | none => simp [pyk, h1, h2] at e
      | some b =>
        simp [pyk, h1, h2] at e
        subst e
        cases h with
        | cons z h rs =>
          cases r with
          | cons r rr =>
            obtain ⟨as, r1, n1⟩ := RD.reads I hk hs d a _ _ h1 h r
            obtain ⟨bs, r2, n2, e3⟩ := RDk.reads I hk hs ds b _ _ h2 rs rr
            exact ⟨_, .cons r1 r2, by simp [n1, n2], by simp [e3]; cases k <;> rfl⟩
end
/-- a value, borrowed or not, reads as its data -/
theorem XvOk.reads {K' : PySem.W.Frag} {G : Hp} {L : Led} {v : V} {a : Sv} {p : PyData} (hk : SysK X.K) (J : HS X.K mg G F H ps L) (r : XvOk X.K mg G F ps v a) (e : a.py = some p) : RdAt X H v p := by
  intro pins σ s u I rv
  cases a with
  | val d => exact RD.reads I hk J.same d p v u e r rv
  | bor xs =>
    obtain ⟨q, vs, rfl, hq, z, rs⟩ := r
    cases hp : pys xs with
    | none => simp [Sv.py, hp] at e
    | some b =>
      simp [Sv.py, hp] at e
      subst e
      cases rv
      obtain ⟨its, rv, ⟨o, n, ho, hc, _, hd⟩, _⟩ := I.list (SqL.of (J.frame _ _ hq))
      obtain ⟨as, ra, ns⟩ := RDs.reads I hk J.same xs b _ its hp rs rv
      exact ⟨_, .list ho hc hd ra, by
        intro hm
        rcases List.mem_cons.mp hm with hm | hm
        · exact tracked_ne I hk (J.frame _ _ hq) hm.symm
        · exact ns hm⟩
  | borD ks =>
    obtain ⟨q, ws, rfl, hq, z, rs⟩ := r
    cases hp : pyk ks with
    | none => simp [Sv.py, hp] at e
    | some b =>
      simp [Sv.py, hp] at e
      subst e
      cases rv
      obtain ⟨_, _, vs, kv, o, es, ep, ho, hx, hd, _, pr, _⟩ := I.hok _ _ (J.frame _ _ hq)
      obtain ⟨e1, hkeys⟩ := pairs_reads pr
      obtain ⟨as1, rk, rfl⟩ := hkeys s.heap
      obtain ⟨e2, rv⟩ := kv_split kv
      obtain ⟨as, ra, ns, e3⟩ := RDk.reads I hk J.same ks b _ (vs.map (·.2)) hp rs rv
      have ek : vs.map (fun q => keyP q.1) = b.map (·.1) := by
        rw [e3, show (fun q : Key × Value => keyP q.1) = keyP ∘ (·.1) from rfl, ← List.map_map, ← e2, List.map_map]
        rfl
      rw [ek] at rk
      refine ⟨_, .dict ho hx.1 hd rk (by rw [e1]; exact ra), ?_⟩
      intro hm
      rcases List.mem_cons.mp hm with hm | hm
      · exact tracked_ne I hk (J.frame _ _ hq) hm.symm
      · exact ns (by simpa using hm)
  | mu _ => exact r.elim
  | muD _ => exact r.elim
  | xc _ _ => cases e
end

/-! ### == and != -/
section
variable {X : Cx} {G F H : Hp} {ps : List Addr} {L : Led}
def okP (p q : PyData) : Bool := p.plain && q.plain && decide (p.depth ≤ 64)
def rEqP (X : Cx) (neg : Bool) : R2 := fun x y H Q => ∃ p q, RdAt X H x p ∧ RdAt X H y q ∧ okP p q = true ∧ Q (.bl (if neg then !PyData.eqv p q else PyData.eqv p q)) H
theorem oEqP (hu : X.A.units + 65 < cLine) : OpR X (compareOp .Eq) (rEqP X false) := by
  intro pins s σ H x y v u Q I rx ry h
  obtain ⟨p, q, h1, h2, ok, hq⟩ := h
  obtain ⟨as, r1, _⟩ := h1 _ _ _ _ I rx
  obtain ⟨bs, r2, _⟩ := h2 _ _ _ _ I ry
  simp [okP] at ok
  exact SeqAt.eq_plain r1 r2 ok.1.1 ok.1.2 (by have := ok.2; omega) ⟨.bl _, H, I, rfl, hq⟩
theorem oNeP (hu : X.A.units + 65 < cLine) : OpR X (compareOp .NotEq) (rEqP X true) := by
  intro pins s σ H x y v u Q I rx ry h
  obtain ⟨p, q, h1, h2, ok, hq⟩ := h
  obtain ⟨as, r1, _⟩ := h1 _ _ _ _ I rx
  obtain ⟨bs, r2, _⟩ := h2 _ _ _ _ I ry
  simp [okP] at ok
  exact SeqAt.ne_plain r1 r2 ok.1.1 ok.1.2 (by have := ok.2; omega) ⟨.bl _, H, I, rfl, hq⟩
/-- two lists of unlike lengths, whatever they hold -/
def rEqL : R2 := fun x y H Q => ∃ a b vs ws, x = .ref a ∧ y = .ref b ∧ H a = some (.lst vs) ∧ H b = some (.lst ws) ∧ vs.length ≠ ws.length ∧ Q (.bl false) H
theorem oEqL (hu : X.A.units + 65 < cLine) : OpR X (compareOp .Eq) rEqL := by
  intro pins s σ H x y v u Q I rx ry h
  obtain ⟨a, b, vs, ws, rfl, rfl, ha, hb, hn, hq⟩ := h
  cases rx; cases ry
  obtain ⟨its, rv, p1, _⟩ := I.list (SqL.of (K := X.K) ha)
  obtain ⟨it2, rw2, p2, _⟩ := I.list (SqL.of (K := X.K) hb)
  refine SeqAt.eq_list_lengthsAt p1.isList p2.isList ?_ (by omega) ⟨.bl _, H, I, rfl, hq⟩
  have e1 := rv.length
  have e2 := rw2.length
  simpa [← e1, ← e2] using hn
/-- the data of a value -/
def gEqB (a b : Sv) : Option Bool := match a.py, b.py with
  | some p, some q => if okP p q = true then some (PyData.eqv p q) else none
  | _, _ => none
def gEqL (a b : Sv) : Option Bool := match a.items, b.items with
  | some xs, some ys => if xs.length ≠ ys.length then some false else none
  | _, _ => none
def gEq (a b : Sv) (_ : Led) : Option Sv := ((gEqB a b).or (gEqL a b)).map fun k => .val (.bl k)
def gNe (a b : Sv) (_ : Led) : Option Sv := (gEqB a b).map fun k => .val (.bl (!k))
theorem sEqP {neg : Bool} (hk : SysK X.K) {x y : V} {a b : Sv} {k : Bool} {Q : VK} (I : HS X.K X.mg' G F H ps L) (ra : XvOk X.K X.mg' G F ps x a) (rb : XvOk X.K X.mg' G F ps y b) (e : gEqB a b = some k) (q : QE X.K X.mg' G F ps Q (.val (.bl (if neg then !k else k))) L) :
    rEqP X neg x y H Q := by
  unfold gEqB at e
  split at e
  · rename_i p q' h1 h2
    split at e
    · rename_i ok
      cases e
      exact ⟨p, q', XvOk.reads (K' := X.K) hk I ra h1, XvOk.reads (K' := X.K) hk I rb h2, ok, q.flat I (.bl _)⟩
    · cases e
  · cases e
theorem sEq (hk : SysK X.K) : OpS X.K X.mg' (fun x y H Q => rEqP X false x y H Q ∨ rEqL x y H Q) gEq := by
  intro G F H ps L x y a b s Q I ra rb e q
  unfold gEq at e
  cases h : gEqB a b with
  | some k =>
    rw [h] at e; cases e
    exact .inl (sEqP hk I ra rb h q)
  | none =>
    rw [h] at e
    cases h2 : gEqL a b with
    | none => rw [h2] at e; cases e
    | some k =>
      rw [h2] at e; cases e
      unfold gEqL at h2
      split at h2
      · rename_i xs ys ea eb
        split at h2
        · rename_i hn
          cases h2
          obtain ⟨p, vs, rfl, hp, z, r⟩ := xv_items I ra ea
          obtain ⟨p2, ws, rfl, hp2, z2, r2⟩ := xv_items I rb eb
          exact .inr ⟨p, p2, vs, ws, rfl, rfl, hp, hp2, by rw [r.length, r2.length]; exact hn, q.flat I (.bl _)⟩
        · cases h2
      · cases h2
theorem sNe (hk : SysK X.K) : OpS X.K X.mg' (rEqP X true) gNe := by
  intro G F H ps L x y a b s Q I ra rb e q
  unfold gNe at e
  cases h : gEqB a b with
  | none => rw [h] at e; cases e
  | some k =>
    rw [h] at e; cases e
    exact sEqP hk I ra rb h q
theorem oEq (hu : X.A.units + 65 < cLine) : OpR X (compareOp .Eq) (fun x y H Q => rEqP X false x y H Q ∨ rEqL x y H Q) := OpR.or (oEqP hu) (oEqL hu)

/-! ### in, not in -/
def inStr (x y : Str) : Bool := !(Builtin.Str.occurrences y x 0 y.length 1).isEmpty
def rInS (neg : Bool) : R2 := fun x y H Q => ∃ i j, x = .str i ∧ y = .str j ∧ Q (.bl (if neg then !inStr i j else inStr i j)) H
theorem oInS : OpR X (compareOp .In) (rInS false) := op_in_str
theorem oNotInS : OpR X (compareOp .NotIn) (rInS true) := op_notin_str
def okIn (p : PyData) (qs : List PyData) : Bool := p.plain && PyData.plainAll qs && decide (p.depth ≤ 64)
def rInP (X : Cx) (neg : Bool) : R2 := fun x y H Q => ∃ p qs, RdAt X H x p ∧ (RdAt X H y (.list qs) ∨ RdAt X H y (.tuple qs)) ∧ okIn p qs = true ∧ Q (.bl (if neg then !(qs.any fun z => PyData.eqv z p) else qs.any fun z => PyData.eqv z p)) H
theorem oInP (hu : X.A.units + 70 < cLine) : OpR X (compareOp .In) (rInP X false) := by
  intro pins s σ H x y v u Q I rx ry h
  obtain ⟨p, q, h1, h2, ok, hq⟩ := h
  obtain ⟨as, r1, _⟩ := h1 _ _ _ _ I rx
  simp [okIn] at ok
  rcases h2 with h2 | h2
  · obtain ⟨bs, r2, _⟩ := h2 _ _ _ _ I ry
    exact SeqAt.in_list_data r2 r1 ok.1.2 ok.1.1 (by have := ok.2; omega) ⟨.bl _, H, I, rfl, hq⟩
  · obtain ⟨bs, r2, _⟩ := h2 _ _ _ _ I ry
    exact SeqAt.in_tuple_data r2 r1 ok.1.2 ok.1.1 (by have := ok.2; omega) ⟨.bl _, H, I, rfl, hq⟩
theorem oNotInP (hu : X.A.units + 70 < cLine) : OpR X (compareOp .NotIn) (rInP X true) := by
  intro pins s σ H x y v u Q I rx ry h
  obtain ⟨p, q, h1, h2, ok, hq⟩ := h
  obtain ⟨as, r1, _⟩ := h1 _ _ _ _ I rx
  simp [okIn] at ok
  rcases h2 with h2 | h2
  · obtain ⟨bs, r2, _⟩ := h2 _ _ _ _ I ry
    exact SeqAt.notIn_list_data r2 r1 ok.1.2 ok.1.1 (by have := ok.2; omega) ⟨.bl _, H, I, rfl, hq⟩
  · obtain ⟨bs, r2, _⟩ := h2 _ _ _ _ I ry
    exact SeqAt.notIn_tuple_data r2 r1 ok.1.2 ok.1.1 (by have := ok.2; omega) ⟨.bl _, H, I, rfl, hq⟩
def rInD (neg : Bool) : R2 := fun x y H Q => ∃ a o, y = .ref a ∧ DGet H a x o ∧ Q (.bl (if neg then !o.isSome else o.isSome)) H
theorem oInD (hu : X.A.units + 70 < cLine) : OpR X (compareOp .In) (rInD false) := by
  intro pins s σ H x y v u Q I rx ry h
  obtain ⟨a, o, rfl, g, hq⟩ := h
  cases ry
  exact d_in (by omega) I g rx fun s' I' => ⟨.bl _, H, I', rfl, hq⟩
theorem oNotInD (hu : X.A.units + 70 < cLine) : OpR X (compareOp .NotIn) (rInD true) := by
  intro pins s σ H x y v u Q I rx ry h
  obtain ⟨a, o, rfl, g, hq⟩ := h
  cases ry
  exact d_notIn (by omega) I g rx fun s' I' => ⟨.bl _, H, I', rfl, hq⟩
/-- the pairs of a dict -/
def Sv.prs : Sv → Option (List (Key × Dv))
  | .val (.dic ks) => some ks
  | .borD ks => some ks
  | _ => none
/-- a key -/
def Sv.key : Sv → Option Key
  | .val (.int i) => some (.inl i)
  | .val (.str x) => some (.inr x)
  | _ => none
def lookK (ks : List (Key × Dv)) (k : Key) : Option Dv := (ks.find? fun q => q.1 = k).map (·.2)
theorem xv_prs {K : PySem.W.Frag} {mg : Str → Option Value} {x : V} {a : Sv} (I : HS K mg G F H ps L) {ks : List (Key × Dv)} (h : XvOk K mg G F ps x a) (e : a.prs = some ks) : ∃ p ws, x = .ref p ∧ Rd H p (.dK ws) ∧ ws.length ≤ sizeLine ∧ RDk K mg F ps ws ks := by
  cases a with
  | val d =>
    cases d <;> simp [Sv.prs] at e
    subst e
    cases h with
    | dic h z r => exact ⟨_, _, rfl, Same.rd I.same h, z, r⟩
  | borD ys =>
    simp [Sv.prs] at e
    subst e
    obtain ⟨p, vs, a, b, c, r⟩ := h
    exact ⟨p, vs, a, .inl (I.frame _ _ b), c, r⟩
  | bor _ => simp [Sv.prs] at e
  | mu _ => simp [Sv.prs] at e
  | muD _ => simp [Sv.prs] at e
  | xc _ _ => simp [Sv.prs] at e
theorem xv_key {K : PySem.W.Frag} {mg : Str → Option Value} {x : V} {a : Sv} {k : Key} (h : XvOk K mg G F ps x a) (e : a.key = some k) : x = kV k ∧ ∀ y, k = .inr y → y.length ≤ sizeLine := by
  cases a with
  | val d =>
    cases d <;> simp [Sv.key] at e
    · subst e; exact ⟨xv_int h, fun y q => nomatch q⟩
    · subst e; have := xv_str h; exact ⟨this.1, fun y q => by cases q; exact this.2⟩
  | bor _ => simp [Sv.key] at e
  | borD _ => simp [Sv.key] at e
  | mu _ => simp [Sv.key] at e
  | muD _ => simp [Sv.key] at e
  | xc _ _ => simp [Sv.key] at e
theorem look_rel {K : PySem.W.Frag} {mg : Str → Option Value} (k : Key) : ∀ {ws : List (Key × V)} {ks : List (Key × Dv)}, RDk K mg F ps ws ks →
    (lookK ks k = none ∧ valV ws k = none) ∨ ∃ v d, lookK ks k = some d ∧ valV ws k = some v ∧ RD K mg F ps v d
  | _, _, .nil => .inl ⟨rfl, rfl⟩
  | _, _, .cons (k := k2) (v := v) (d := d) z h r => by
    by_cases e : k2 = k
    · exact .inr ⟨v, d, by simp [lookK, e], by simp [valV, e], h⟩
    · rcases look_rel k r with ⟨a, b⟩ | ⟨v', d', a, b, c⟩
      · exact .inl ⟨by simpa [lookK, e] using a, by simpa [valV, e] using b⟩
      · exact .inr ⟨v', d', by simpa [lookK, e] using a, by simpa [valV, e] using b, c⟩
theorem dget_of {H : Hp} {p : Addr} {ws : List (Key × V)} (h : Rd H p (.dK ws)) (k : Key) : DGet H p (kV k) (valV ws k) := .inl ⟨ws, k, h, rfl, rfl⟩
def gInB (a b : Sv) : Option Bool := match a, b with
  | .val (.str x), .val (.str y) => some (inStr x y)
  | a, b => match a.key, b.prs with
    | some k, some ks => some (lookK ks k).isSome
    | _, _ => match a.py, b.py with
      | some p, some (.list qs) => if okIn p qs = true then some (qs.any fun z => PyData.eqv z p) else none
      | some p, some (.tuple qs) => if okIn p qs = true then some (qs.any fun z => PyData.eqv z p) else none
      | _, _ => none
def gIn (neg : Bool) (a b : Sv) (_ : Led) : Option Sv := (gInB a b).map fun k => .val (.bl (if neg then !k else k))
def rIn3 (X : Cx) (neg : Bool) : R2 := fun x y H Q => rInS neg x y H Q ∨ rInD neg x y H Q ∨ rInP X neg x y H Q
theorem oIn (hu : X.A.units + 70 < cLine) : OpR X (compareOp .In) (rIn3 X false) := OpR.or oInS (OpR.or (oInD hu) (oInP hu))
theorem oNotIn (hu : X.A.units + 70 < cLine) : OpR X (compareOp .NotIn) (rIn3 X true) := OpR.or oNotInS (OpR.or (oNotInD hu) (oNotInP hu))
theorem sIn {neg : Bool} (hk : SysK X.K) : OpS X.K X.mg' (rIn3 X neg) (gIn neg) := by
  intro G F H ps L x y a b s Q I ra rb e q
  unfold gIn at e
  cases h : gInB a b with
  | none => rw [h] at e; cases e
  | some k =>
    rw [h] at e; cases e
    unfold gInB at h
    split at h
    · cases h
      exact .inl ⟨_, _, (xv_str ra).1, (xv_str rb).1, q.flat I (.bl _)⟩
    · split at h
      · rename_i kk ks ek eb
        cases h
        obtain ⟨p, ws, rfl, hp, z, r⟩ := xv_prs I rb eb
        obtain ⟨rfl, _⟩ := xv_key ra ek
        refine .inr (.inl ⟨p, _, rfl, dget_of hp kk, ?_⟩)
        have e2 : (valV ws kk).isSome = (lookK ks kk).isSome := by
          rcases look_rel (K := X.K) (mg := X.mg') kk r with ⟨a, b⟩ | ⟨v', d', a, b, c⟩
          · rw [a, b]; rfl
          · rw [a, b]; rfl
        rw [e2]
        exact q.flat I (.bl _)
      · split at h
        · rename_i p qs h1 h2
          split at h
          · rename_i ok
            cases h
            exact .inr (.inr ⟨p, qs, XvOk.reads (K' := X.K) hk I ra h1, .inl (XvOk.reads (K' := X.K) hk I rb h2), ok, q.flat I (.bl _)⟩)
          · cases h
        · rename_i p qs h1 h2
          split at h
          · rename_i ok
            cases h
            exact .inr (.inr ⟨p, qs, XvOk.reads (K' := X.K) hk I ra h1, .inr (XvOk.reads (K' := X.K) hk I rb h2), ok, q.flat I (.bl _)⟩)
          · cases h
        · cases h
end
end DL

/-! DL, part 4: defs by what their bodies denote; calls. -/
namespace DL
open PySem PySem.Spec PyProof.Rows L2

/-! ### a def's promise where no repr is running -/
structure FnG (P : Program) (w : World) (K : PySem.W.Frag) (mg : Str → Option Value) (base : Heap) (k : Nat) (f : Addr) (fd : FuncData) (ps : List Str) (sp : Sp) : Prop where
  few : ∀ vs H Q E, sp vs H Q E → vs.length = ps.length
  go : ∀ (A : Around) (out : List Env) (s : Shared) (H : Hp) (args : Args) (us : List Value) (vs : List V) (Q : VK) (E : XK), A.guards = some [] → Room k A → Env0 P w K mg base A out s H → BindsTo s fd args (ps.zip us) → Vals vs us → sp vs H Q E →
    codeAny (model P w) A (.call (.ref f) args) (CR (L2.CX P w) out P w H s Q E) s
theorem FnG.mono {P : Program} {w : World} {K : PySem.W.Frag} {mg : Str → Option Value} {base : Heap} {j k : Nat} {f : Addr} {fd : FuncData} {ps : List Str} {sp : Sp} (F : FnG P w K mg base j f fd ps sp) (h : j ≤ k) : FnG P w K mg base k f fd ps sp :=
  ⟨F.few, fun A out s H args us vs Q E g hr => F.go A out s H args us vs Q E g (hr.mono h)⟩
/-- from the body -/
theorem fnG_of {P : Program} {w : World} {K : PySem.W.Frag} {mg : Str → Option Value} {base : Heap} {k : Nat} {f : Addr} {x qual : Str} {st : Stmt} {fd : FuncData} {N ps : List Str} {sp : Sp} (D : Fun K x qual st f fd) (S : FnScope N ps (defScope st))
    (few : ∀ vs H Q E, sp vs H Q E → vs.length = ps.length)
    (hb : ∀ (cdv : Value) (A : Around) (out : List Env) (s : Shared) (H : Hp) (vs : List V) (Q : VK) (E : XK), (A.deeper (envOfC qual (defScope st) s.heap.objs.size f cdv)).guards = some [] → Room k (A.deeper (envOfC qual (defScope st) s.heap.objs.size f cdv)) → sp vs H Q E →
      ∃ t, PSs (cxOf (L2.CX P w) P w K mg base N qual (defScope st) f cdv A out s H E) (defBody st) t ∧ t { nx := fun _ H' => Q .non H', rt := Q } (start N vs) H) :
    FnG P w K mg base (k + 1) f fd ps sp := by
  refine ⟨few, fun A out s H args us vs Q E hgu hr e0 bnd rel hsp => ?_⟩
  obtain ⟨⟨oc, od, kV, doc, pm, an, cdv, ct, osl, rfl, lk, hcd⟩, _⟩ := D
  have inK : K.In s.heap := e0.mod.kin.keeps fun a o e => (e0.bs a o e).1
  have nolim : s.heap.NoLimit := e0.mod.nolimit.keeps fun a o e => (e0.bs a o e).1
  refine codeAny_call_function hr.depth (inK _ _ lk) rfl S.co S.gen rfl (PySem.W.codeRec_of inK hcd) (bnd _ _ _ _ ?_)
  refine wpAny_newFunctionEnv_cells S.kind (fun ⟨n, v⟩ hy => ?_) fun env he s1 inc => ?_
  · rcases S.par n (List.of_mem_zip hy).1 with hl | hc
    · exact Or.inl hl
    · exact Or.inr ⟨hc, PySem.W.cellsFrom_some _ _ _ (Or.inl hc)⟩
  subst he
  refine ⟨nolim.keeps inc.toInCall.keep, codeAny_func ?_⟩
  obtain ⟨t, body, ht⟩ := hb cdv A out s H vs Q E (by exact hgu) (hr.deeper _) hsp
  have J := inv_start (CX := L2.CX P w) (P := P) (w := w) (mg := mg) (base := base) (N := N) (E := E) S hr.hd e0 (few _ _ _ _ hsp) rel inc
  refine wpAny_mono (body.run [] s1 (start N vs) H _ J ht) (fun fl s2 r => ?_) fun e s2 r => r
  cases fl with
  | ret u =>
    obtain ⟨v, σ2, H2, J2, r1, r2⟩ := r
    exact ⟨v, H2, J2.os, J2.bare, J2.base, J2.hok, r1, r2⟩
  | next =>
    obtain ⟨σ2, H2, J2, r2⟩ := r
    exact ⟨.non, H2, J2.os, J2.bare, J2.base, J2.hok, rfl, r2⟩
  | brk =>
    obtain ⟨σ2, H2, J2, r2⟩ := r
    exact r2.elim
  | cont =>
    obtain ⟨σ2, H2, J2, r2⟩ := r
    exact r2.elim

/-! ### what a def does, as a function of values -/
def spOf (K : PySem.W.Frag) (mg : Str → Option Value) (n : Nat) (m : List Sv → Led → Res Dv) : Sp := fun vs H Q E => vs.length = n ∧ ∃ G F ps ss L, HS K mg G F H ps L ∧ XvsOk K mg G F ps vs ss ∧
  (m ss L).wp (fun d L' => ∀ v F' H' ps', Ext F ps F' ps' → HS K mg G F' H' ps' L' → RD K mg F' ps' v d → Q v H')
    (fun e _ L' => ∀ cls d F' H' ps', Ext F ps F' ps' → HS K mg G F' H' ps' L' → RX K mg F' H' ps' cls d e → E cls d H')
abbrev DFn (P : Program) (w : World) (K : PySem.W.Frag) (mg : Str → Option Value) (base : Heap) (k : Nat) (f : Addr) (fd : FuncData) (ps : List Str) (m : List Sv → Led → Res Dv) : Prop := FnG P w K mg base k f fd ps (spOf K mg ps.length m)
def start' (n : Nat) (ss : List Sv) : Slo := ss.map some ++ List.replicate (n - ss.length) none
def endOf (r : Res Fl) : Res Dv := match r with
  | .ok (.rt d) L => .ok d L
  | .ok (.nx _) L => .ok .non L
  | .ok _ _ => .bad
  | .err e _ L => .err e [] L
  | .bad => .bad
@[simp] theorem endOf_rt {d : Dv} {L : Led} : endOf (.ok (.rt d) L) = .ok d L := rfl
@[simp] theorem endOf_nx {r : Slo} {L : Led} : endOf (.ok (.nx r) L) = .ok .non L := rfl
@[simp] theorem endOf_err {e : Exn} {r : Slo} {L : Led} : endOf (.err e r L) = .err e [] L := rfl
/-- n: how many names there are -/
def mOf (n : Nat) (fb : DM Fl) (ss : List Sv) (L : Led) : Res Dv := endOf (fb (start' n ss) L)
section
variable {K : PySem.W.Frag} {mg : Str → Option Value} {G G' G0 F H : Hp} {ps : List Addr} {L : Led}
theorem HS.weak (I : HS K mg G' F H ps L) (g : Same G G') : HS K mg G F H ps L := by
  refine ⟨g.trans I.frame, I.same, fun a h => I.apart a fun e => h (g.free e), I.len, I.nd, fun p hp => ⟨(I.free p hp).1, g.free (I.free p hp).2⟩, fun k p c hk hc => ?_⟩
  have old := I.at_ k p c hk hc
  cases c with
  | lst xs => exact old
  | dic ks => exact old
  | obj c fs => obtain ⟨C, dx, gs, a, b, c0, c1, c2, r⟩ := old; exact ⟨C, dx, gs, a, b, c0, c1, g.free c2, r⟩
  | gone => exact old
theorem slots_start {N : List Str} {vs : List V} {ss : List Sv} (h : XvsOk K mg G F ps vs ss) (hl : vs.length ≤ N.length) : Slots K mg G G F ps (start N vs) (start' N.length ss) := by
  have e := h.length
  refine ⟨?_, fun i s hs => ?_, fun i j s t v hs ht m1 _ _ _ => ?_⟩
  · show (ss.map some ++ List.replicate (N.length - ss.length) none).length = (vs.map some ++ List.replicate (N.length - vs.length) none).length
    simp [e]
  all_goals
    have key : ∀ {i : Nat} {s : Sv}, (start' N.length ss)[i]? = some (some s) → ss[i]? = some s := fun {i s} hs => by
      unfold start' at hs
      by_cases hi : i < ss.length
      · rw [List.getElem?_append_left (by simpa using hi), List.getElem?_map] at hs
        cases q : ss[i]? with
        | none => rw [q] at hs; simp at hs
        | some z => rw [q] at hs; simp at hs; rw [hs]
      · rw [List.getElem?_append_right (by simpa using hi)] at hs
        have := List.mem_of_getElem? hs
        simp at this
    have all : ∀ {vs : List V} {ss : List Sv}, XvsOk K mg G F ps vs ss → ∀ {i : Nat} {s : Sv}, ss[i]? = some s → ∃ v, vs[i]? = some v ∧ XvOk K mg G F ps v s := by
      intro vs ss h
      induction h with
      | nil => intro i s e; simp at e
      | cons r _ ih =>
        intro i s e
        cases i with
        | zero => simp at e; subst e; exact ⟨_, rfl, r⟩
        | succ i => simpa using ih (by simpa using e)
  · obtain ⟨v, hv, r⟩ := all h (key hs)
    refine ⟨v, ?_, ?_⟩
    · show (vs.map some ++ List.replicate (N.length - vs.length) none)[i]? = _
      have hi : i < vs.length := (List.getElem?_eq_some_iff.mp hv).1
      rw [List.getElem?_append_left (by simpa using hi), List.getElem?_map, hv]
      rfl
    · cases s with
      | val d => exact r
      | bor xs => exact r
      | borD ks => exact r
      | mu _ => exact r.elim
      | muD _ => exact r.elim
      | xc _ _ => exact r
  · obtain ⟨v2, _, r⟩ := all h (key hs)
    cases s with
    | mu _ => exact r.elim
    | muD _ => exact r.elim
    | xc _ _ => cases m1
    | val _ => cases m1
    | bor _ => cases m1
    | borD _ => cases m1
end
/-- THE RULE for a def -/
theorem dfn_of {P : Program} {w : World} {K : PySem.W.Frag} {mg : Str → Option Value} {base : Heap} {k : Nat} {f : Addr} {x qual : Str} {st : Stmt} {fd : FuncData} {N ps : List Str} {fb : DM Fl} (D : Fun K x qual st f fd) (S : FnScope N ps (defScope st))
    (hb : ∀ (X : Cx) (W : WX), X.prog = P → X.w = w → X.K = K → X.mg = mg → X.base = base → X.N = N → X.env.scope = defScope st → X.stack = X.env :: X.outer → X.env.frame = some X.env.locals → X.calm = true → X.fn = (fun _ => true) → X.A.guards = some [] → Room k X.A → Takes X W →
      PassesOwn (model X.prog X.w) X.A X.env X.xe → DSs X W (defBody st) fb) :
    DFn P w K mg base (k + 1) f fd ps (mOf N.length fb) := by
  have hN : ps.length ≤ N.length := by
    have := congrArg List.length S.pre
    rw [List.length_take] at this
    omega
  refine fnG_of D S (fun vs H Q E h => h.1) fun cdv A out s H vs Q E hgu hr hsp => ⟨_, hb (cxOf (L2.CX P w) P w K mg base N qual (defScope st) f cdv A out s H E) (fun cls d _ H => E cls d H) rfl rfl rfl rfl rfl rfl rfl rfl rfl rfl rfl hgu hr (takes_of rfl rfl rfl rfl) (passes_of rfl), ?_⟩
  obtain ⟨hl, G, F, ps', ss, L, I, R, h⟩ := hsp
  refine ⟨G, G, F, ps', _, L, Same.refl G, I, slots_start R (by omega), ?_⟩
  unfold mOf at h
  cases q : fb (start' N.length ss) L with
  | bad => rw [q] at h; exact h.elim
  | err e r L' =>
    rw [q] at h
    exact fun cls d σ' G' F' H' p' g x J _ rx => h cls d F' H' p' x (J.weak g) rx
  | ok fl L' =>
    rw [q] at h
    cases fl with
    | rt d => exact fun v G' F' H' p' g x J r => h v F' H' p' x (J.weak g) r
    | nx r => exact fun σ' G' F' H' p' g x J _ => h .non F' H' p' x (J.weak g) .non
    | bk r => exact h.elim
    | ct r => exact h.elim

/-! ### calls -/
/-- places of a list, one after another -/
def pick {α : Type} : List Nat → List α → List α
  | [], _ => []
  | i :: p, l => match l[i]? with
    | some x => x :: pick p l
    | none => pick p l
theorem pick_rel {α β : Type} {R : α → β → Prop} {l : List α} {m : List β} (h : Paired R l m) : ∀ p : List Nat, Paired R (pick p l) (pick p m)
  | [] => .nil
  | i :: p => by
    have all : ∀ {l : List α} {m : List β}, Paired R l m → ∀ i : Nat, (l[i]? = none ∧ m[i]? = none) ∨ ∃ x y, l[i]? = some x ∧ m[i]? = some y ∧ R x y := by
      intro l m h
      induction h with
      | nil => intro i; exact .inl ⟨rfl, rfl⟩
      | cons r _ ih =>
        intro i
        cases i with
        | zero => exact .inr ⟨_, _, rfl, rfl, r⟩
        | succ i => simpa using ih i
    rcases all h i with ⟨a, b⟩ | ⟨x, y, a, b, r⟩
    · simp only [pick, a, b]; exact pick_rel h p
    · simp only [pick, a, b]; exact .cons r (pick_rel h p)
theorem paired_app {α β : Type} {R : α → β → Prop} {l l2 : List α} {m m2 : List β} (h : Paired R l m) (h2 : Paired R l2 m2) : Paired R (l ++ l2) (m ++ m2) := by
  induction h with
  | nil => exact h2
  | cons r _ ih => exact .cons r ih
/-- how a call binds: n positional values, keywords ks; perm tells which of them each parameter gets -/
def KBd (K : PySem.W.Frag) (fd : FuncData) (ps : List Str) (n : Nat) (ks : List Str) (perm : List Nat) : Prop :=
  ∀ (s : Shared) (us ws : List Value), us.length = n → ws.length = ks.length → BindsTo s fd ⟨us, ks.zip ws⟩ (ps.zip (pick perm (us ++ ws)))
theorem kbd_of {K : PySem.W.Frag} {x qual : Str} {st : Stmt} {f : Addr} {fd : FuncData} {ps ks : List Str} {n : Nat} {perm : List Nat} (D : Fun K x qual st f fd)
    (h : ∀ (kV doc pm : Value) (an : Option Addr) (cdv ct : Value) (us ws : List Value), us.length = n → ws.length = ks.length → bindArgs (PySem.W.fnOf x qual (defArgs st) (defBody st) (defScope st) .none kV doc pm an cdv ct) ⟨us, ks.zip ws⟩ = pure (ps.zip (pick perm (us ++ ws)))) : KBd K fd ps n ks perm := by
  intro s us ws h1 h2
  obtain ⟨oc, od, kV, doc, pm, an, cdv, ct, osl, rfl, _, _⟩ := D.ex
  exact .of_eq (h kV doc pm an cdv ct us ws h1 h2)
def dArgs0 : DM (List Sv) := fun _ L => .ok [] L
def dArgs (fa : DM Sv) (fr : DM (List Sv)) : DM (List Sv) := fun ρ L => (fa ρ L).bind fun x L1 => (fr ρ L1).bind fun xs L2 => .ok (x :: xs) L2
def toSv (r : Res Dv) : Res Sv := match r with
  | .ok d L => .ok (.val d) L
  | .err e r L => .err e r L
  | .bad => .bad
@[simp] theorem toSv_ok {d : Dv} {L : Led} : toSv (.ok d L) = .ok (.val d) L := rfl
@[simp] theorem toSv_err {e : Exn} {r : Slo} {L : Led} : toSv (.err e r L) = .err e r L := rfl
def dCall (n : Nat) (m : List Sv → Led → Res Dv) (fa : DM (List Sv)) : DM Sv := fun ρ L => (fa ρ L).bind fun ss L1 => if ss.length = n then toSv ((m ss L1).at_ ρ) else .bad
def dCallK (n k : Nat) (perm : List Nat) (m : List Sv → Led → Res Dv) (fa fk : DM (List Sv)) : DM Sv := fun ρ L => (fa ρ L).bind fun ss L1 => (fk ρ L1).bind fun zs L2 => if ss.length = n ∧ zs.length = k then toSv ((m (pick perm (ss ++ zs)) L2).at_ ρ) else .bad
section
variable {X : Cx} {W : WX} {e : Expr} {es : List Expr} {fa : DM Sv} {fr fk : DM (List Sv)} {pos p : Pos} {k n : Nat} {f : Addr} {fd : FuncData} {ps ks : List Str} {m : List Sv → Led → Res Dv} {x : Str} {perm : List Nat} {kws : List Keyword}
theorem da_nil : DA X W [] dArgs0 := imA pa_nil fun σ H Q ⟨G0, G, F, ps, ρ, L, g0, I, S, h⟩ => h [] F H ps (Ext.refl F ps) I .nil
theorem tCons_of {K : PySem.W.Frag} {mg : Str → Option Value} {σ : List (Option V)} {H : Hp} {Q : List V → Hp → Prop} (h : tA K mg W (dArgs fa fr) σ H Q) : tCons (tE K mg W fa) (tA K mg W fr) σ H Q := by
  obtain ⟨G0, G, F, ps, ρ, L, g0, I, S, h⟩ := h
  refine ⟨G0, G, F, ps, ρ, L, g0, I, S, Res.wp_mono (Res.wp_bind h) (fun x L1 h1 v F1 H1 p1 x1 I1 r1 => ?_) fun e r L' q => q⟩
  refine ⟨G0, G, F1, p1, ρ, L1, g0, I1, S.ext x1, Res.wp_mono (Res.wp_bind h1) (fun y L2 h2 u F2 H2 p2 x2 I2 r2 => ?_) fun e r L' q => EE.ext x1 q⟩
  exact h2 (v :: u) F2 H2 p2 (x1.trans x2) I2 (.cons (r1.ext x2) r2)
theorem da_cons (ha : DE X W e fa) (hr : DA X W es fr) (hs : starEach (e :: es) X.env = (false, eval e X.env) :: starEach es X.env := by rfl) : DA X W (e :: es) (dArgs fa fr) := imA (pa_cons ha hr hs) fun _ _ _ h => tCons_of h
abbrev DK (X : Cx) (W : WX) (ks : List Keyword) (f : DM (List Sv)) : Prop := PK X ks (tA X.K X.mg' W f)
theorem imK {ks : List Keyword} {t t' : TA} (p : PK X ks t) (h : ∀ σ H Q, t' σ H Q → t σ H Q) : PK X ks t' := ⟨fun pos pins s σ H Q I w => p.run pos pins s σ H Q I (h σ H Q w)⟩
theorem dk_nil : DK X W [] dArgs0 := imK pk_nil fun σ H Q ⟨G0, G, F, ps, ρ, L, g0, I, S, h⟩ => h [] F H ps (Ext.refl F ps) I .nil
theorem dk_cons {nm : Option Str} {kp : Pos} (ha : DE X W e fa) (hr : DK X W kws fr) : DK X W (⟨nm, e, kp⟩ :: kws) (dArgs fa fr) := imK (pk_cons ha hr) fun _ _ _ h => tCons_of h
/-- the callee runs -/
theorem run_fnG {sp : Sp} {pins : List (Addr × Obj)} {σ : List (Option V)} {H : Hp} {s : Shared} {Q : VK} {us : List Value} {vs : List V} {args : List Value} {kw : List (Str × Value)} {E : XK} (R : FnG X.prog X.w X.K X.mg X.base k f fd ps sp) (hgu : X.A.guards = some []) (hr : Room k X.A) (bnd : BindsTo s fd ⟨args, kw⟩ (ps.zip us))
    (pa : PassesAt (L2.CX X.prog X.w) X σ E) (I : Inv X pins σ H s) (rel : Vals vs us) (h : sp vs H Q E) : wpAny (model X.prog X.w) X.A (call (.ref f) args kw) (EP X pins σ Q) X.xe s := by
  refine wpAny_call (codeAny_mono (R.go X.A X.stack s H ⟨args, kw⟩ us vs Q E hgu hr I.env0 bnd rel h) fun r s2 q => ?_)
  rcases r with e | fl
  · first | exact pa pins H s e s2 I q | exact I.after q
  · cases fl with
    | ret u => exact I.after q
    | next => exact q.elim
    | brk => exact q.elim
    | cont => exact q.elim
/-- what the call gives, at the caller's state -/
theorem sp_of {K : PySem.W.Frag} {mg : Str → Option Value} {G0 G F H : Hp} {ps' : List Addr} {L : Led} {σ : List (Option V)} {ρ : Slo} {vs : List V} {ss : List Sv} {Q : VK} (hl : vs.length = n) (g0 : Same G0 G) (I : HS K mg G F H ps' L) (S : Slots K mg G0 G F ps' σ ρ) (R : XvsOk K mg G F ps' vs ss)
    (h : (toSv ((m ss L).at_ ρ)).wp (QE K mg G F ps' Q) (EE K mg G0 F ps' W)) : spOf K mg n m vs H Q (WE W σ) := by
  refine ⟨hl, G, F, ps', ss, L, I, R, ?_⟩
  cases q : m ss L with
  | bad => rw [q] at h; exact h.elim
  | ok d L' => rw [q] at h; exact fun v F' H' p' x J r => h v F' H' p' x J r
  | err e r L' => rw [q] at h; exact fun cls d F' H' p' x J rx => h cls d σ G F' H' p' g0 x J (S.ext x) rx
theorem call_sp {K : PySem.W.Frag} {mg : Str → Option Value} {σ : List (Option V)} {H : Hp} {Q : VK} (h : tE K mg W (dCall n m fr) σ H Q) : tA K mg W fr σ H fun vs H1 => spOf K mg n m vs H1 Q (WE W σ) := by
  obtain ⟨G0, G, F, ps, ρ, L, g0, I, S, h⟩ := h
  refine ⟨G0, G, F, ps, ρ, L, g0, I, S, Res.wp_mono (Res.wp_bind h) (fun ss L1 h1 vs F1 H1 p1 x1 I1 r1 => ?_) fun e r L' q => q⟩
  split at h1
  · rename_i hl
    exact sp_of (by rw [r1.length]; exact hl) g0 I1 (S.ext x1) r1 (Res.wp_mono h1 (fun _ _ q => QE.ext x1 q) fun _ _ _ q => EE.ext x1 q)
  · exact h1.elim
theorem callK_sp {K : PySem.W.Frag} {mg : Str → Option Value} {σ : List (Option V)} {H : Hp} {Q : VK} {j : Nat} (h : tE K mg W (dCallK n j perm m fr fk) σ H Q) : tA K mg W fr σ H fun vs H1 => tA K mg W fk σ H1 fun zs H2 => vs.length = n ∧ zs.length = j ∧ spOf K mg (pick perm (vs ++ zs)).length m (pick perm (vs ++ zs)) H2 Q (WE W σ) := by
  obtain ⟨G0, G, F, ps, ρ, L, g0, I, S, h⟩ := h
  refine ⟨G0, G, F, ps, ρ, L, g0, I, S, Res.wp_mono (Res.wp_bind h) (fun ss L1 h1 vs F1 H1 p1 x1 I1 r1 => ?_) fun e r L' q => q⟩
  refine ⟨G0, G, F1, p1, ρ, L1, g0, I1, S.ext x1, Res.wp_mono (Res.wp_bind h1) (fun zz L2 h2 zs F2 H2 p2 x2 I2 r2 => ?_) fun e r L' q => EE.ext x1 q⟩
  split at h2
  · rename_i hl
    refine ⟨by rw [r1.length]; exact hl.1, by rw [r2.length]; exact hl.2, ?_⟩
    exact sp_of rfl g0 I2 ((S.ext x1).ext x2) (pick_rel (paired_app (r1.ext x2) r2) perm) (Res.wp_mono h2 (fun _ _ q => QE.ext (x1.trans x2) q) fun _ _ _ q => EE.ext (x1.trans x2) q)
  · exact h2.elim
/-- f(a, b, ..) -/
theorem de_call (hc : X.calm = true) (R : DFn X.prog X.w X.K X.mg X.base k f fd ps m) (hgu : X.A.guards = some []) (hr : Room k X.A) (hg : Gl X x) (hm : X.mg x = some (.ref f)) (hk : PySem.W.keepIn X.K (.ref f) = true) (hb : Binds X.K fd ps []) (tk : Takes X W)
    (ha : DA X W (e :: es) fr) (hdb : (x == ("__debug__" : Str)) = false := by decide) (he : starEach (e :: es) X.env = (false, eval e X.env) :: starEach es X.env := by rfl) (hpl : (backTo pos (starEach es X.env)).any (·.1) = false := by rfl) :
    DE X W (.Call (.Name x p) (e :: es) [] pos) (dCall ps.length m fr) := by
  refine ⟨fun pins s σ H Q I h => wpAny_Call_Name_kw (ld_glob I hg hm ?_ hdb)⟩
  refine PySem.W.callWith_K (h₀ := X.base) I.ok.mod.kin hk (thn (ha.run pos pins s σ H _ I (call_sp h)) fun us s1 h1 => ?_) he hpl
  obtain ⟨vs, H1, J, rel, hsp⟩ := h1
  have hl : (us ++ []).length = ps.length := by rw [List.append_nil, ← rel.length]; exact hsp.1
  have b1 := hb s1 us J.kIn hl
  rw [List.append_nil] at b1
  rw [calm_mg hc] at hsp
  exact ⟨J.kIn, run_fnG R hgu hr b1 (passAt tk σ) J rel hsp⟩
theorem de_call0 (hc : X.calm = true) (R : DFn X.prog X.w X.K X.mg X.base k f fd ps m) (hgu : X.A.guards = some []) (hr : Room k X.A) (hg : Gl X x) (hm : X.mg x = some (.ref f)) (hk : PySem.W.keepIn X.K (.ref f) = true) (hb : Binds X.K fd ps []) (tk : Takes X W)
    (hdb : (x == ("__debug__" : Str)) = false := by decide) : DE X W (.Call (.Name x p) [] [] pos) (dCall ps.length m dArgs0) := by
  refine ⟨fun pins s σ H Q I h => wpAny_Call_Name_kw (ld_glob I hg hm ?_ hdb)⟩
  refine PySem.W.callWith_K0 I.kIn hk ?_
  obtain ⟨G0, G, F, ps', ρ, L, g0, J, S, h⟩ := h
  unfold dCall dArgs0 at h
  rw [Res.bind_ok] at h
  split at h
  · rename_i hl
    have hsp : spOf X.K X.mg' ps.length m [] H Q (WE W σ) := sp_of (ss := []) hl g0 J S .nil h
    have b1 := hb s [] I.kIn (by simpa using hl)
    rw [calm_mg hc] at hsp
    exact run_fnG R hgu hr b1 (passAt tk σ) I .nil hsp
  · exact h.elim
/-- f(a, .., k = v, ..) -/
theorem de_callK (hc : X.calm = true) (R : DFn X.prog X.w X.K X.mg X.base k f fd ps m) (hgu : X.A.guards = some []) (hr : Room k X.A) (hg : Gl X x) (hm : X.mg x = some (.ref f)) (hk : PySem.W.keepIn X.K (.ref f) = true) (hb : KBd X.K fd ps n ks perm) (hpl' : ∀ (l : List V), l.length = n + ks.length → (pick perm l).length = ps.length) (tk : Takes X W)
    (ha : DA X W (e :: es) fr) (hkw : DK X W kws fk) (hall : (backToKw pos (keywordEach kws X.env)).all (·.1.isSome) = true := by rfl) (hks : (backToKw pos (keywordEach kws X.env)).filterMap (·.1) = ks := by rfl)
    (hdb : (x == ("__debug__" : Str)) = false := by decide) (he : starEach (e :: es) X.env = (false, eval e X.env) :: starEach es X.env := by rfl)
    (hpl : ((backTo pos (starEach (e :: es) X.env)).any (·.1) || (backToKw pos (keywordEach kws X.env)).any (·.1.isNone)) = false := by rfl) :
    DE X W (.Call (.Name x p) (e :: es) kws pos) (dCallK n ks.length perm m fr fk) := by
  refine ⟨fun pins s σ H Q I h => wpAny_Call_Name_kw (ld_glob I hg hm ?_ hdb)⟩
  refine PySem.W.callWith_KW (h₀ := X.base) I.ok.mod.kin hk hall (thn (ha.run pos pins s σ H _ I (callK_sp h)) fun us s1 h1 => ?_) hpl he
  obtain ⟨vs, H1, J, rel, h1⟩ := h1
  refine thn (hkw.run pos pins s1 σ H1 _ J h1) fun ws s2 h2 => ?_
  obtain ⟨zs, H2, J2, rel2, e1, e2, hsp⟩ := h2
  rw [hks]
  have el : (pick perm (vs ++ zs)).length = ps.length := hpl' _ (by rw [List.length_append, e1, e2])
  rw [el, calm_mg hc] at hsp
  exact ⟨J2.kIn, run_fnG R hgu hr (hb s2 us ws (by rw [← rel.length]; exact e1) (by rw [← rel2.length]; exact e2)) (passAt tk σ) J2 (pick_rel (paired_app rel rel2) perm) hsp⟩
/-- f(k = v, ..) -/
theorem de_callK0 (hc : X.calm = true) (R : DFn X.prog X.w X.K X.mg X.base k f fd ps m) (hgu : X.A.guards = some []) (hr : Room k X.A) (hg : Gl X x) (hm : X.mg x = some (.ref f)) (hk : PySem.W.keepIn X.K (.ref f) = true) (hb : KBd X.K fd ps 0 ks perm) (hpl' : ∀ (l : List V), l.length = 0 + ks.length → (pick perm l).length = ps.length) (tk : Takes X W)
    (hkw : DK X W kws fk) (hall : (backToKw pos (keywordEach kws X.env)).all (·.1.isSome) = true := by rfl) (hks : (backToKw pos (keywordEach kws X.env)).filterMap (·.1) = ks := by rfl)
    (hdb : (x == ("__debug__" : Str)) = false := by decide) (hpl : (backToKw pos (keywordEach kws X.env)).any (·.1.isNone) = false := by rfl) :
    DE X W (.Call (.Name x p) [] kws pos) (dCallK 0 ks.length perm m dArgs0 fk) := by
  refine ⟨fun pins s σ H Q I h => wpAny_Call_Name_kw (ld_glob I hg hm ?_ hdb)⟩
  obtain ⟨G0, G, F, ps', ρ, L, g0, J0, S, h⟩ := callK_sp h
  have h' := h [] F H ps' (Ext.refl F ps') J0 .nil
  refine PySem.W.callWith_KW0 (h₀ := X.base) I.ok.mod.kin hk hall ?_ (by rw [hpl]; rfl)
  refine thn (hkw.run pos pins s σ H _ I h') fun ws s2 h2 => ?_
  obtain ⟨zs, H2, J2, rel2, e1, e2, hsp⟩ := h2
  rw [hks]
  have el : (pick perm ([] ++ zs)).length = ps.length := hpl' _ (by rw [List.length_append, e2]; rfl)
  rw [el, calm_mg hc] at hsp
  exact ⟨J2.kIn, run_fnG R hgu hr (hb s2 [] ws rfl (by rw [← rel2.length]; exact e2)) (passAt tk σ) J2 (pick_rel (paired_app .nil rel2) perm) hsp⟩
end
end DL

/-! DL, part 5: statements. -/
namespace DL
open PySem PySem.Spec PyProof.Rows L2
section
variable {K : PySem.W.Frag} {mg : Str → Option Value} {G G0 F H : Hp} {ps : List Addr} {L : Led} {σ : List (Option V)} {ρ : Slo} {W : WX}
/-! ### things held by the frame -/
theorem led_ne (I : HS K mg G F H ps L) {p q : Addr} (hp : H p = none) (hq : q ∈ ps) : q ≠ p := by
  intro e
  subst e
  obtain ⟨k, hk⟩ := List.getElem?_of_mem hq
  have hk2 : k < L.length := by rw [← I.len]; exact (List.getElem?_eq_some_iff.mp hk).1
  have := I.at_ k q L[k] hk (by simp [hk2])
  revert this
  cases L[k] with
  | lst xs => rintro ⟨_, e, _⟩; rw [hp] at e; cases e
  | dic xs => rintro ⟨_, e, _⟩; rw [hp] at e; cases e
  | obj c fs => rintro ⟨_, _, _, _, e, _⟩; rw [hp] at e; cases e
  | gone => rintro ⟨_, e⟩; rw [hp] at e; cases e
/-- where a thing that the ledger does not hold is changed -/
theorem CtOk.upd {p q : Addr} {u : HO} {c : Ct} (h : CtOk K mg G F H ps q c) (hq : q ≠ p) (hd : ∀ o, H p = some (.own o) → o ≠ q) (hG : ∀ a, a ≠ p → G a = none → upd G p u a = none) : CtOk K mg (upd G p u) F (upd H p u) ps q c := by
  cases c with
  | lst xs => obtain ⟨vs, a, b, r⟩ := h; exact ⟨vs, by rw [upd_ne hq]; exact a, b, r⟩
  | dic xs => obtain ⟨vs, a, b, r⟩ := h; exact ⟨vs, by rw [upd_ne hq]; exact a, b, r⟩
  | obj c fs =>
    obtain ⟨C, dx, gs, a, b, c0, c1, c2, r⟩ := h
    have hx : dx ≠ p := by rintro rfl; exact hd _ c0 rfl
    exact ⟨C, dx, gs, a, by rw [upd_ne hq]; exact b, by rw [upd_ne hx]; exact c0, c1, hG _ hx c2, r⟩
  | gone =>
    obtain ⟨o, a⟩ := h
    exact ⟨o, by rw [upd_ne hq]; exact a⟩
theorem upd_none {G : Hp} {p a : Addr} {u : HO} (h : a ≠ p) (e : G a = none) : upd G p u a = none := by rw [upd_ne h]; exact e
/-- a new thing is held -/
theorem HS.hold (I : HS K mg G F H ps L) {p : Addr} {u : HO} (hp : H p = none) : HS K mg (upd G p u) F (upd H p u) ps L := by
  have hF : F p = none := I.same.free hp
  refine ⟨fun b o e => ?_, fun b o e => ?_, fun a h => ?_, I.len, I.nd, fun q hq => ⟨(I.free q hq).1, upd_none (led_ne I hp hq) (I.free q hq).2⟩, fun k q c hk hc => ?_⟩
  · by_cases hb : b = p
    · subst hb; rw [upd_same] at e ⊢; exact e
    · rw [upd_ne hb] at e ⊢; exact I.frame b o e
  · rw [upd_ne (ne_of_none e hF)]; exact I.same b o e
  · by_cases ha : a = p
    · subst ha; exact hF
    · rw [upd_ne ha] at h; exact I.apart a h
  · exact (I.at_ k q c hk hc).upd (led_ne I hp (List.mem_of_getElem? hk)) (fun o e => by rw [hp] at e; cases e) fun a h e => upd_none h e
/-- a held thing is changed -/
theorem HS.write (I : HS K mg G F H ps L) {p : Addr} {o u : HO} (hp : G p = some o) (ho : ∀ x, o ≠ .own x) : HS K mg (upd G p u) F (upd H p u) ps L := by
  have hF : F p = none := I.apart p (by rw [hp]; simp)
  have hH := I.frame _ _ hp
  have pn : ∀ q ∈ ps, q ≠ p := fun q hq e => by
    have := (I.free q hq).2
    rw [e, hp] at this
    cases this
  refine ⟨fun b o e => ?_, fun b o e => ?_, fun a h => ?_, I.len, I.nd, fun q hq => ⟨(I.free q hq).1, upd_none (pn q hq) (I.free q hq).2⟩, fun k q c hk hc => ?_⟩
  · by_cases hb : b = p
    · subst hb; rw [upd_same] at e ⊢; exact e
    · rw [upd_ne hb] at e ⊢; exact I.frame b o e
  · rw [upd_ne (ne_of_none e hF)]; exact I.same b o e
  · by_cases ha : a = p
    · subst ha; exact hF
    · rw [upd_ne ha] at h; exact I.apart a h
  · exact (I.at_ k q c hk hc).upd (pn q (List.mem_of_getElem? hk)) (fun x e => by rw [hH] at e; exact absurd (Option.some.inj e) (ho x)) fun a h e => upd_none h e
def cut (H : Hp) (p : Addr) : Hp := fun b => if b = p then none else H b
theorem cut_ne {H : Hp} {a b : Addr} (h : b ≠ a) : cut H a b = H b := if_neg h
theorem cut_same {H : Hp} {a : Addr} : cut H a a = none := if_pos rfl
/-- a held thing is let stand for ever -/
theorem HS.frz (I : HS K mg G F H ps L) {p : Addr} {o : HO} (hp : G p = some o) : HS K mg (cut G p) (upd F p o) H ps L ∧ Ext F ps (upd F p o) ps := by
  have hF : F p = none := I.apart p (by rw [hp]; simp)
  have pn : ∀ q ∈ ps, q ≠ p := fun q hq e => by
    have := (I.free q hq).2
    rw [e, hp] at this
    cases this
  have x : Ext F ps (upd F p o) ps := Ext.of ps fun b u e => by rw [upd_ne (ne_of_none e hF)]; exact e
  refine ⟨⟨fun b o e => ?_, fun b u e => ?_, fun a h => ?_, I.len, I.nd, fun q hq => ⟨upd_none (pn q hq) (I.free q hq).1, by rw [cut_ne (pn q hq)]; exact (I.free q hq).2⟩, fun k q c hk hc => ?_⟩, x⟩
  · by_cases hb : b = p
    · subst hb; rw [cut_same] at e; cases e
    · rw [cut_ne hb] at e; exact I.frame b o e
  · by_cases hb : b = p
    · subst hb; rw [upd_same] at e; cases e; exact I.frame _ _ hp
    · rw [upd_ne hb] at e; exact I.same b u e
  · have ha : a ≠ p := by rintro rfl; exact h cut_same
    rw [cut_ne ha] at h; rw [upd_ne ha]; exact I.apart a h
  · have old := I.at_ k q c hk hc
    cases c with
    | lst xs => obtain ⟨vs, a, b, r⟩ := old; exact ⟨vs, a, b, RDs.ext x r⟩
    | dic xs => obtain ⟨vs, a, b, r⟩ := old; exact ⟨vs, a, b, RDk.ext x r⟩
    | obj c fs =>
      obtain ⟨C, dx, gs, a, b, c0, c1, c2, r⟩ := old
      have hd : dx ≠ p := by rintro rfl; rw [hp] at c2; cases c2
      exact ⟨C, dx, gs, a, b, c0, upd_none hd c1, by rw [cut_ne hd]; exact c2, RDf.ext x r⟩
    | gone => exact old

/-! ### slots -/
theorem Slots.set (S : Slots K mg G0 G F ps σ ρ) (i : Nat) {v : V} {s : Sv} (r : SvOk K mg G0 G F ps v s) (hs : s.isMut = false) : Slots K mg G0 G F ps (σ.set i (some v)) (ρ.set i (some s)) := by
  refine ⟨by simp [S.len], fun j t h => ?_, fun j l t t2 u hj hl m1 m2 h1 h2 => ?_⟩
  · by_cases hij : i = j
    · subst hij
      have hlt : i < ρ.length := by
        have := (List.getElem?_eq_some_iff.mp h).1
        simpa using this
      rw [List.getElem?_set_self hlt] at h
      cases h
      exact ⟨v, List.getElem?_set_self (by rw [← S.len]; exact hlt), r⟩
    · rw [List.getElem?_set_ne hij] at h
      obtain ⟨u, a, b⟩ := S.at_ j t h
      exact ⟨u, by rw [List.getElem?_set_ne hij]; exact a, b⟩
  · have ne : ∀ {j : Nat} {t : Sv}, (ρ.set i (some s))[j]? = some (some t) → t.isMut = true → i ≠ j := fun {j t} hj m => by
      rintro rfl
      have hlt : i < ρ.length := by
        have := (List.getElem?_eq_some_iff.mp hj).1
        simpa using this
      rw [List.getElem?_set_self hlt] at hj
      cases hj
      rw [hs] at m; cases m
    have n1 := ne hj m1
    have n2 := ne hl m2
    rw [List.getElem?_set_ne n1] at hj h1
    rw [List.getElem?_set_ne n2] at hl h2
    exact S.sep j l t t2 u hj hl m1 m2 h1 h2
/-- a slot forgotten -/
theorem Slots.forget (S : Slots K mg G0 G F ps σ ρ) (i : Nat) (o : Option V) : Slots K mg G0 G F ps (σ.set i o) (ρ.set i none) := by
  refine ⟨by simp [S.len], fun j t h => ?_, fun j l t t2 u hj hl m1 m2 h1 h2 => ?_⟩
  all_goals
    have ne : ∀ {j : Nat} {t : Sv}, (ρ.set i none)[j]? = some (some t) → i ≠ j := fun {j t} hj => by
      rintro rfl
      have hlt : i < ρ.length := by
        have := (List.getElem?_eq_some_iff.mp hj).1
        simpa using this
      rw [List.getElem?_set_self hlt] at hj
      cases hj
  · have n := ne h
    rw [List.getElem?_set_ne n] at h
    obtain ⟨u, a, b⟩ := S.at_ j t h
    exact ⟨u, by rw [List.getElem?_set_ne n]; exact a, b⟩
  · have n1 := ne hj
    have n2 := ne hl
    rw [List.getElem?_set_ne n1] at hj h1
    rw [List.getElem?_set_ne n2] at hl h2
    exact S.sep j l t t2 u hj hl m1 m2 h1 h2
/-- what a slot that is its own holder holds -/
theorem Slots.mu (S : Slots K mg G0 G F ps σ ρ) {i : Nat} {xs : List Dv} (h : ρ[i]? = some (some (.mu xs))) : ∃ p vs, σ[i]? = some (some (.ref p)) ∧ G0 p = none ∧ G p = some (.lst vs) ∧ vs.length ≤ sizeLine ∧ RDs K mg F ps vs xs := by
  obtain ⟨v, a, p, vs, rfl, b, c, d, r⟩ := S.at_ i _ h
  exact ⟨p, vs, a, b, c, d, r⟩
theorem Slots.muD (S : Slots K mg G0 G F ps σ ρ) {i : Nat} {xs : List (Key × Dv)} (h : ρ[i]? = some (some (.muD xs))) : ∃ p vs, σ[i]? = some (some (.ref p)) ∧ G0 p = none ∧ G p = some (.dK vs) ∧ vs.length ≤ sizeLine ∧ RDk K mg F ps vs xs := by
  obtain ⟨v, a, p, vs, rfl, b, c, d, r⟩ := S.at_ i _ h
  exact ⟨p, vs, a, b, c, d, r⟩
/-- a thing of a slot's own is changed: s what it is now -/
theorem Slots.chg (S : Slots K mg G0 G F ps σ ρ) {i : Nat} {p : Addr} {u : HO} {s s' : Sv} (h : ρ[i]? = some (some s)) (hs : s.isMut = true) (hσ : σ[i]? = some (some (.ref p))) (hG : G0 p = none) (r : SvOk K mg G0 (upd G p u) F ps (.ref p) s') (hs' : s'.isMut = true) :
    Slots K mg G0 (upd G p u) F ps σ (ρ.set i (some s')) := by
  have hi : i < ρ.length := (List.getElem?_eq_some_iff.mp h).1
  have key : ∀ {j : Nat} {t : Sv}, i ≠ j → ρ[j]? = some (some t) → ∃ v, σ[j]? = some (some v) ∧ SvOk K mg G0 (upd G p u) F ps v t := fun {j t} hij hj => by
    obtain ⟨v, a, b⟩ := S.at_ j t hj
    refine ⟨v, a, ?_⟩
    cases t with
    | val d => exact b
    | bor xs => exact b
    | borD ks => exact b
    | mu xs =>
      obtain ⟨q, vs, rfl, b1, b2, b3, b4⟩ := b
      have hqp : q ≠ p := by
        rintro rfl
        exact hij (S.sep i j s (.mu xs) _ h hj hs rfl hσ a)
      exact ⟨q, vs, rfl, b1, by rw [upd_ne hqp]; exact b2, b3, b4⟩
    | muD xs =>
      obtain ⟨q, vs, rfl, b1, b2, b3, b4⟩ := b
      have hqp : q ≠ p := by
        rintro rfl
        exact hij (S.sep i j s (.muD xs) _ h hj hs rfl hσ a)
      exact ⟨q, vs, rfl, b1, by rw [upd_ne hqp]; exact b2, b3, b4⟩
    | xc _ _ => exact b
  refine ⟨by simp [S.len], fun j t hj => ?_, fun j l t t2 v hj hl m1 m2 h1 h2 => ?_⟩
  · by_cases hij : i = j
    · subst hij
      rw [List.getElem?_set_self hi] at hj
      cases hj
      exact ⟨_, hσ, r⟩
    · rw [List.getElem?_set_ne hij] at hj
      exact key hij hj
  · have back : ∀ {j : Nat} {t : Sv}, (ρ.set i (some s'))[j]? = some (some t) → t.isMut = true → ∃ t0, ρ[j]? = some (some t0) ∧ t0.isMut = true := fun {j t} hj m => by
      by_cases hij : i = j
      · subst hij; exact ⟨s, h, hs⟩
      · rw [List.getElem?_set_ne hij] at hj; exact ⟨t, hj, m⟩
    obtain ⟨a1, b1, c1⟩ := back hj m1
    obtain ⟨a2, b2, c2⟩ := back hl m2
    exact S.sep j l a1 a2 v b1 b2 c1 c2 h1 h2
/-- G grows by a thing that no slot holds -/
theorem Slots.gr (S : Slots K mg G0 G F ps σ ρ) {G' : Hp} (g : Same G G') : Slots K mg G0 G' F ps σ ρ :=
  ⟨S.len, fun i s e => by
    obtain ⟨v, a, b⟩ := S.at_ i s e
    refine ⟨v, a, ?_⟩
    cases s with
    | val d => exact b
    | bor xs => exact b
    | borD ks => exact b
    | mu xs => obtain ⟨q, vs, e, b1, b2, b3⟩ := b; exact ⟨q, vs, e, b1, g _ _ b2, b3⟩
    | muD xs => obtain ⟨q, vs, e, b1, b2, b3⟩ := b; exact ⟨q, vs, e, b1, g _ _ b2, b3⟩
    | xc _ _ => exact b, S.sep⟩
/-- a slot gets a new thing of its own -/
theorem Slots.own (S : Slots K mg G0 G F ps σ ρ) {i : Nat} {p : Addr} {u : HO} {s : Sv} (hp : G p = none) (g0 : Same G0 G) (r : SvOk K mg G0 (upd G p u) F ps (.ref p) s) (hs : s.isMut = true) : Slots K mg G0 (upd G p u) F ps (σ.set i (some (.ref p))) (ρ.set i (some s)) := by
  have S2 : Slots K mg G0 (upd G p u) F ps σ ρ := S.gr fun b o e => by rw [upd_ne (ne_of_none e hp)]; exact e
  refine ⟨by simp [S.len], fun j t h => ?_, fun j l t t2 v hj hl m1 m2 h1 h2 => ?_⟩
  · by_cases hij : i = j
    · subst hij
      have hlt : i < ρ.length := by
        have := (List.getElem?_eq_some_iff.mp h).1
        simpa using this
      rw [List.getElem?_set_self hlt] at h
      cases h
      exact ⟨_, List.getElem?_set_self (by rw [← S.len]; exact hlt), r⟩
    · rw [List.getElem?_set_ne hij] at h
      obtain ⟨v, a, b⟩ := S2.at_ j t h
      exact ⟨v, by rw [List.getElem?_set_ne hij]; exact a, b⟩
  · -- another slot's own thing stood before
    have far : ∀ {j : Nat} {t : Sv}, i ≠ j → (ρ.set i (some s))[j]? = some (some t) → t.isMut = true → (σ.set i (some (V.ref p)))[j]? ≠ some (some (.ref p)) := fun {j t} hij hj m e => by
      rw [List.getElem?_set_ne hij] at hj e
      obtain ⟨v, a, b⟩ := S.at_ j t hj
      rw [a] at e
      cases e
      cases t with
      | val _ => cases m
      | bor _ => cases m
      | borD _ => cases m
      | mu xs => obtain ⟨q, vs, e, _, b2, _⟩ := b; cases e; rw [hp] at b2; cases b2
      | muD xs => obtain ⟨q, vs, e, _, b2, _⟩ := b; cases e; rw [hp] at b2; cases b2
      | xc _ _ => cases m
    by_cases hj' : i = j
    · subst hj'
      by_cases hl' : i = l
      · exact hl'
      · have hlt : i < σ.length := by
          have := (List.getElem?_eq_some_iff.mp h1).1
          simpa using this
        rw [List.getElem?_set_self hlt] at h1
        cases h1
        exact absurd h2 (far hl' hl m2)
    · by_cases hl' : i = l
      · subst hl'
        have hlt : i < σ.length := by
          have := (List.getElem?_eq_some_iff.mp h2).1
          simpa using this
        rw [List.getElem?_set_self hlt] at h2
        cases h2
        exact absurd h1 (far hj' hj m1)
      · rw [List.getElem?_set_ne hj'] at hj h1
        rw [List.getElem?_set_ne hl'] at hl h2
        exact S.sep j l t t2 v hj hl m1 m2 h1 h2
end
end DL

/-! DL, part 6: names, constants, displays, tests, and the statements over them. -/
namespace DL
open PySem PySem.Spec PyProof.Rows L2
def Sv.read : Sv → Sv
  | .mu xs => .bor xs
  | .muD ks => .borD ks
  | s => s
def dVar (i : Nat) : DM Sv := fun ρ L => match ρ[i]? with
  | some (some s) => .ok s.read L
  | _ => .bad
def dC (d : Dv) : DM Sv := fun _ L => .ok (.val d) L
section
variable {X : Cx} {W : WX} {pos : Pos}
theorem read_ok {K : PySem.W.Frag} {mg : Str → Option Value} {G0 G F : Hp} {ps : List Addr} {v : V} {s : Sv} (g0 : Same G0 G) (h : SvOk K mg G0 G F ps v s) : XvOk K mg G F ps v s.read := by
  cases s with
  | val d => exact h
  | bor xs => obtain ⟨p, vs, a, b, c, r⟩ := h; exact ⟨p, vs, a, g0 _ _ b, c, r⟩
  | borD xs => obtain ⟨p, vs, a, b, c, r⟩ := h; exact ⟨p, vs, a, g0 _ _ b, c, r⟩
  | mu xs => obtain ⟨p, vs, a, _, b, c, r⟩ := h; exact ⟨p, vs, a, b, c, r⟩
  | muD xs => obtain ⟨p, vs, a, _, b, c, r⟩ := h; exact ⟨p, vs, a, b, c, r⟩
  | xc c fs => obtain ⟨a, dd, C, gs, e1, e2, e3, e4, e5, e6, e7⟩ := h; exact ⟨a, dd, C, gs, e1, e2, e3, e4, e5, g0 _ _ e6, e7⟩
theorem de_var (i : Nat) {x : Str} (hN : X.N[i]? = some x) (hv : Vis X.env.scope x) (hd : (x == ("__debug__" : Str)) = false := by decide) (hcd : (x == ("__classdict__" : Str)) = false := by decide) : DE X W (.Name x pos) (dVar i) := imE (pe_var hN hv hd hcd) fun σ H Q h => by
  obtain ⟨G0, G, F, ps, ρ, L, g0, I, S, h⟩ := h
  unfold dVar at h
  split at h
  · rename_i s hs
    obtain ⟨v, a, b⟩ := S.at_ i s hs
    exact ⟨v, a, QE.now h I (read_ok g0 b)⟩
  · exact h.elim
theorem tC_of {v : V} {d : Dv} {K : PySem.W.Frag} {mg : Str → Option Value} (hd : ∀ F ps, RD K mg F ps v d) : ∀ σ H Q, tE K mg W (dC d) σ H Q → tC v σ H Q := fun σ H Q h => by
  obtain ⟨G0, G, F, ps, ρ, L, g0, I, S, h⟩ := h
  exact QE.now (v := v) h I (hd F ps)
theorem de_int {i j} : DE X W (.Constant (.int i) j pos) (dC (.int i)) := imE pe_int (tC_of fun _ _ => .int i)
theorem de_bl {b j} : DE X W (.Constant (.bool b) j pos) (dC (.bl b)) := imE pe_bl (tC_of fun _ _ => .bl b)
theorem de_non {j} : DE X W (.Constant .none j pos) (dC .non) := imE pe_non (tC_of fun _ _ => .non)
theorem de_str {x : Str} {j} (hx : x.length ≤ sizeLine := by decide +kernel) : DE X W (.Constant (.str x) j pos) (dC (.str x)) := imE pe_str (tC_of fun _ _ => .str x hx)
/-- a module's constant -/
theorem de_glob {x : Str} {v : V} {u : Value} {d : Dv} (hg : Gl X x) (hm : X.mg x = some u) (r : RelV v u) (hd : ∀ F ps, RD X.K X.mg' F ps v d) (hb : (x == ("__debug__" : Str)) = false := by decide) : DE X W (.Name x pos) (dC d) := imE (pe_glob hg hm r hb) (tC_of hd)

/-! ### displays -/
/-- plain values alone -/
def vals : List Sv → Option (List Dv)
  | [] => some []
  | .val d :: r => (vals r).map (d :: ·)
  | _ => none
theorem vals_ok {K : PySem.W.Frag} {mg : Str → Option Value} {G F : Hp} {ps : List Addr} : ∀ {ss : List Sv} {vs : List V} {ds : List Dv}, vals ss = some ds → XvsOk K mg G F ps vs ss → RDs K mg F ps vs ds
  | [], _, _, e, h => by cases e; cases h; exact .nil
  | .val d :: r, _, _, e, h => by
    cases h with
    | cons h hr =>
      cases q : vals r with
      | none => simp [vals, q] at e
      | some x => simp [vals, q] at e; subst e; exact .cons h (vals_ok q hr)
  | .bor _ :: _, _, _, e, _ => by cases e
  | .borD _ :: _, _, _, e, _ => by cases e
  | .mu _ :: _, _, _, e, _ => by cases e
  | .muD _ :: _, _, _, e, _ => by cases e
def dLst (fr : DM (List Sv)) : DM Sv := fun ρ L => (fr ρ L).bind fun ss L1 => match vals ss with
  | some ds => if ds.length ≤ sizeLine then .ok (.val (.lst ds)) L1 else .bad
  | none => .bad
def dTup (fr : DM (List Sv)) : DM Sv := fun ρ L => (fr ρ L).bind fun ss L1 => match vals ss with
  | some ds => if ds.length ≤ sizeLine then .ok (.val (.tup ds)) L1 else .bad
  | none => .bad
variable {es : List Expr} {fr : DM (List Sv)}
theorem de_lst (h : DA X W es fr) : DE X W (.List es pos) (dLst fr) := imE (pe_lst h) fun σ H Q h => by
  obtain ⟨G0, G, F, ps, ρ, L, g0, I, S, h⟩ := h
  refine ⟨G0, G, F, ps, ρ, L, g0, I, S, Res.wp_mono (Res.wp_bind h) (fun ss L1 h1 vs F1 H1 p1 x1 I1 r1 => ?_) fun e r L' q => q⟩
  split at h1
  · rename_i ds hv
    split at h1
    · rename_i hz
      have r2 := vals_ok hv r1
      have z2 : vs.length ≤ sizeLine := by rw [r2.length]; exact hz
      exact ⟨z2, QE.newL (QE.ext x1 h1) I1 z2 r2⟩
    · exact h1.elim
  · exact h1.elim
theorem de_tup {k} (h : DA X W es fr) : DE X W (.Tuple es k pos) (dTup fr) := imE (pe_tup h) fun σ H Q h => by
  obtain ⟨G0, G, F, ps, ρ, L, g0, I, S, h⟩ := h
  refine ⟨G0, G, F, ps, ρ, L, g0, I, S, Res.wp_mono (Res.wp_bind h) (fun ss L1 h1 vs F1 H1 p1 x1 I1 r1 => ?_) fun e r L' q => q⟩
  split at h1
  · rename_i ds hv
    split at h1
    · rename_i hz
      have r2 := vals_ok hv r1
      have z2 : vs.length ≤ sizeLine := by rw [r2.length]; exact hz
      exact ⟨z2, QE.newT (QE.ext x1 h1) I1 z2 r2⟩
    · exact h1.elim
  · exact h1.elim

/-! ### tests -/
variable {a b c : Expr} {f fa fb : DM Sv} {t u : DM Bool}
/-- a value that is True or False, as a test -/
def dB (f : DM Sv) : DM Bool := fun ρ L => (f ρ L).bind fun s L1 => match s with
  | .val (.bl k) => .ok k L1
  | _ => .bad
theorem tB_of {K : PySem.W.Frag} {mg : Str → Option Value} {σ : List (Option V)} {H : Hp} {Q : Bool → Hp → Prop} (h : tT K mg W (dB f) σ H Q) : tE K mg W f σ H fun x H1 => ∃ k, x = .bl k ∧ Q k H1 := by
  obtain ⟨G0, G, F, ps, ρ, L, g0, I, S, h⟩ := h
  refine ⟨G0, G, F, ps, ρ, L, g0, I, S, Res.wp_mono (Res.wp_bind h) (fun s L1 h1 v F1 H1 p1 x1 I1 r1 => ?_) fun e r L' q => q⟩
  split at h1
  · exact ⟨_, xv_bl r1, h1 F1 H1 p1 x1 I1⟩
  · exact h1.elim
theorem dt_val (h : DE X W a f) (he : ∀ whole, isTrue a X.env whole = (do let v ← whole; standAt a.pos; holding [v] (truthy v)) := by intro _; rfl) : DT X W a (dB f) := imT (pt_val h he) fun _ _ _ q => tB_of q
theorem dt_cmp {op : CmpOp} {r : R2} {g : Sv → Sv → Led → Option Sv} (ho : OpR X (compareOp op) r) (hs : OpS X.K X.mg' r g) (ha : DE X W a fa) (hb : DE X W b fb) (hm : behindInMarks op b = false) : DT X W (.Compare a [op] [b] pos) (dB (dOp g fa fb)) := imT (pt_cmpR ho ha hb hm) fun σ H Q q => by
  exact tOp_of (W := W) (Q := fun x H1 => ∃ k, x = .bl k ∧ Q k H1) hs (tB_of q)
def dNot (t : DM Bool) : DM Bool := fun ρ L => (t ρ L).bind fun k L1 => .ok (!k) L1
def dAnd (t u : DM Bool) : DM Bool := fun ρ L => (t ρ L).bind fun k L1 => if k = true then u ρ L1 else .ok false L1
def dOr (t u : DM Bool) : DM Bool := fun ρ L => (t ρ L).bind fun k L1 => if k = true then .ok true L1 else u ρ L1
theorem dt_not (h : DT X W a t) : DT X W (.UnaryOp .Not a pos) (dNot t) := imT (pt_not h) fun σ H Q h => by
  obtain ⟨G0, G, F, ps, ρ, L, g0, I, S, h⟩ := h
  exact ⟨G0, G, F, ps, ρ, L, g0, I, S, Res.wp_mono (Res.wp_bind h) (fun k L1 h1 F1 H1 p1 x1 I1 => h1 F1 H1 p1 x1 I1) fun e r L' q => q⟩
abbrev DW (X : Cx) (W : WX) (e : Expr) (f : DM Bool) : Prop := PW X e (tT X.K X.mg' W f)
theorem dw_and1 (h : DT X W a t) : DW X W (.BoolOp .And [a] pos) t := pw_and1 h
theorem dw_or1 (h : DT X W a t) : DW X W (.BoolOp .Or [a] pos) t := pw_or1 h
variable {rest : List Expr}
theorem dw_and (h : DT X W a t) (h2 : DW X W (.BoolOp .And (b :: rest) pos) u) : DW X W (.BoolOp .And (a :: b :: rest) pos) (dAnd t u) := imW (pw_and h h2) fun σ H Q h => by
  obtain ⟨G0, G, F, ps, ρ, L, g0, I, S, h⟩ := h
  refine ⟨G0, G, F, ps, ρ, L, g0, I, S, Res.wp_mono (Res.wp_bind h) (fun k L1 h1 F1 H1 p1 x1 I1 => ?_) fun e r L' q => q⟩
  split at h1
  · rename_i hk
    rw [if_pos hk]
    exact ⟨G0, G, F1, p1, ρ, L1, g0, I1, S.ext x1, Res.wp_mono h1 (fun k2 L2 q F2 H2 p2 x2 I2 => q F2 H2 p2 (x1.trans x2) I2) fun _ _ _ q => EE.ext x1 q⟩
  · rename_i hk
    rw [if_neg hk]
    exact h1 F1 H1 p1 x1 I1
theorem dw_or (h : DT X W a t) (h2 : DW X W (.BoolOp .Or (b :: rest) pos) u) : DW X W (.BoolOp .Or (a :: b :: rest) pos) (dOr t u) := imW (pw_or h h2) fun σ H Q h => by
  obtain ⟨G0, G, F, ps, ρ, L, g0, I, S, h⟩ := h
  refine ⟨G0, G, F, ps, ρ, L, g0, I, S, Res.wp_mono (Res.wp_bind h) (fun k L1 h1 F1 H1 p1 x1 I1 => ?_) fun e r L' q => q⟩
  split at h1
  · rename_i hk
    rw [if_pos hk]
    exact h1 F1 H1 p1 x1 I1
  · rename_i hk
    rw [if_neg hk]
    exact ⟨G0, G, F1, p1, ρ, L1, g0, I1, S.ext x1, Res.wp_mono h1 (fun k2 L2 q F2 H2 p2 x2 I2 => q F2 H2 p2 (x1.trans x2) I2) fun _ _ _ q => EE.ext x1 q⟩
/-- a test's answer as a value: a and b, a or b, not a of truth values -/
def dV (t : DM Bool) : DM Sv := fun ρ L => (t ρ L).bind fun k L1 => .ok (.val (.bl k)) L1
def dAndV (fa fb : DM Sv) : DM Sv := fun ρ L => (fa ρ L).bind fun s L1 => match s with
  | .val (.bl true) => fb ρ L1
  | .val (.bl false) => .ok (.val (.bl false)) L1
  | _ => .bad
def dOrV (fa fb : DM Sv) : DM Sv := fun ρ L => (fa ρ L).bind fun s L1 => match s with
  | .val (.bl true) => .ok (.val (.bl true)) L1
  | .val (.bl false) => fb ρ L1
  | _ => .bad
def dNotV (fa : DM Sv) : DM Sv := fun ρ L => (fa ρ L).bind fun s L1 => match s with
  | .val (.bl k) => .ok (.val (.bl (!k))) L1
  | _ => .bad
theorem de_one {op} (h : DE X W a f) : DE X W (.BoolOp op [a] pos) f := pe_one h
theorem de_and (h : DE X W a fa) (h2 : DE X W (.BoolOp .And (b :: rest) pos) fb) : DE X W (.BoolOp .And (a :: b :: rest) pos) (dAndV fa fb) := imE (pe_and h h2) fun σ H Q h => by
  obtain ⟨G0, G, F, ps, ρ, L, g0, I, S, h⟩ := h
  refine ⟨G0, G, F, ps, ρ, L, g0, I, S, Res.wp_mono (Res.wp_bind h) (fun s L1 h1 v F1 H1 p1 x1 I1 r1 => ?_) fun e r L' q => q⟩
  split at h1
  · refine ⟨true, xv_bl r1, ?_⟩
    rw [if_pos rfl]
    exact ⟨G0, G, F1, p1, ρ, L1, g0, I1, S.ext x1, Res.wp_mono h1 (fun _ _ q => QE.ext x1 q) fun _ _ _ q => EE.ext x1 q⟩
  · refine ⟨false, xv_bl r1, ?_⟩
    rw [if_neg (by simp)]
    exact h1 _ F1 H1 p1 x1 I1 (.bl false)
  · exact h1.elim
theorem de_or (h : DE X W a fa) (h2 : DE X W (.BoolOp .Or (b :: rest) pos) fb) : DE X W (.BoolOp .Or (a :: b :: rest) pos) (dOrV fa fb) := imE (pe_or h h2) fun σ H Q h => by
  obtain ⟨G0, G, F, ps, ρ, L, g0, I, S, h⟩ := h
  refine ⟨G0, G, F, ps, ρ, L, g0, I, S, Res.wp_mono (Res.wp_bind h) (fun s L1 h1 v F1 H1 p1 x1 I1 r1 => ?_) fun e r L' q => q⟩
  split at h1
  · refine ⟨true, xv_bl r1, ?_⟩
    rw [if_pos rfl]
    exact h1 _ F1 H1 p1 x1 I1 (.bl true)
  · refine ⟨false, xv_bl r1, ?_⟩
    rw [if_neg (by simp)]
    exact ⟨G0, G, F1, p1, ρ, L1, g0, I1, S.ext x1, Res.wp_mono h1 (fun _ _ q => QE.ext x1 q) fun _ _ _ q => EE.ext x1 q⟩
  · exact h1.elim
theorem de_not (h : DE X W a fa) : DE X W (.UnaryOp .Not a pos) (dNotV fa) := imE (pe_not h) fun σ H Q h => by
  obtain ⟨G0, G, F, ps, ρ, L, g0, I, S, h⟩ := h
  refine ⟨G0, G, F, ps, ρ, L, g0, I, S, Res.wp_mono (Res.wp_bind h) (fun s L1 h1 v F1 H1 p1 x1 I1 r1 => ?_) fun e r L' q => q⟩
  split at h1
  · exact ⟨_, xv_bl r1, h1 _ F1 H1 p1 x1 I1 (.bl _)⟩
  · exact h1.elim
def dIf (t : DM Bool) (fa fb : DM Sv) : DM Sv := fun ρ L => (t ρ L).bind fun k L1 => if k = true then fa ρ L1 else fb ρ L1
theorem de_if (hc : DT X W c t) (ha : DE X W a fa) (hb : DE X W b fb) : DE X W (.IfExp c a b pos) (dIf t fa fb) := imE (pe_ifExp hc ha hb) fun σ H Q h => by
  obtain ⟨G0, G, F, ps, ρ, L, g0, I, S, h⟩ := h
  refine ⟨G0, G, F, ps, ρ, L, g0, I, S, Res.wp_mono (Res.wp_bind h) (fun k L1 h1 F1 H1 p1 x1 I1 => ?_) fun e r L' q => q⟩
  split at h1
  · rename_i hk
    rw [if_pos hk]
    exact ⟨G0, G, F1, p1, ρ, L1, g0, I1, S.ext x1, Res.wp_mono h1 (fun _ _ q => QE.ext x1 q) fun _ _ _ q => EE.ext x1 q⟩
  · rename_i hk
    rw [if_neg hk]
    exact ⟨G0, G, F1, p1, ρ, L1, g0, I1, S.ext x1, Res.wp_mono h1 (fun _ _ q => QE.ext x1 q) fun _ _ _ q => EE.ext x1 q⟩
/-- a op b op c -/
def dChain (g g' : Sv → Sv → Led → Option Sv) (fa fb fc : DM Sv) : DM Sv := fun ρ L => (fa ρ L).bind fun x L1 => (fb ρ L1).bind fun y L2 => match g x y L2 with
  | some (.val (.bl true)) => (fc ρ L2).bind fun z L3 => give (g' y z L3) L3
  | some (.val (.bl false)) => .ok (.val (.bl false)) L2
  | _ => .bad
variable {fc : DM Sv}
theorem tChain_of {K : PySem.W.Frag} {mg : Str → Option Value} {r r' : R2} {g g' : Sv → Sv → Led → Option Sv} (hs : OpS K mg r g) (hs' : OpS K mg r' g') {σ : List (Option V)} {H : Hp} {Q : VK} (h : tE K mg W (dChain g g' fa fb fc) σ H Q) : tChain r r' (tE K mg W fa) (tE K mg W fb) (tE K mg W fc) σ H Q := by
  obtain ⟨G0, G, F, ps, ρ, L, g0, I, S, h⟩ := h
  refine ⟨G0, G, F, ps, ρ, L, g0, I, S, Res.wp_mono (Res.wp_bind h) (fun x L1 h1 v F1 H1 p1 x1 I1 r1 => ?_) fun e r L' q => q⟩
  refine ⟨G0, G, F1, p1, ρ, L1, g0, I1, S.ext x1, Res.wp_mono (Res.wp_bind h1) (fun y L2 h2 u F2 H2 p2 x2 I2 r2 => ?_) fun e r L' q => EE.ext x1 q⟩
  split at h2
  · rename_i hq
    refine hs G F2 H2 p2 L2 v u x y _ _ I2 (r1.ext x2) r2 hq fun w F3 H3 p3 x3 I3 r3 => ⟨true, xv_bl r3, ?_⟩
    rw [if_pos rfl]
    refine ⟨G0, G, F3, p3, ρ, L2, g0, I3, ((S.ext x1).ext x2).ext x3, Res.wp_mono (Res.wp_bind h2) (fun z L3 h3 w2 F4 H4 p4 x4 I4 r4 => ?_) fun e r L' q => EE.ext ((x1.trans x2).trans x3) q⟩
    obtain ⟨s, e, q⟩ := give_wp h3
    exact hs' G F4 H4 p4 L3 u w2 y z s Q I4 ((r2.ext x3).ext x4) r4 e (QE.ext (((x1.trans x2).trans x3).trans x4) q)
  · rename_i hq
    refine hs G F2 H2 p2 L2 v u x y _ _ I2 (r1.ext x2) r2 hq fun w F3 H3 p3 x3 I3 r3 => ⟨false, xv_bl r3, ?_⟩
    rw [if_neg (by simp)]
    exact h2 _ F3 H3 p3 ((x1.trans x2).trans x3) I3 (.bl false)
  · exact h2.elim
theorem de_chain {op op' : CmpOp} {r r' : R2} {g g' : Sv → Sv → Led → Option Sv} (ho : OpR X (compareOp op) r) (ho' : OpR X (compareOp op') r') (hs : OpS X.K X.mg' r g) (hs' : OpS X.K X.mg' r' g') (ha : DE X W a fa) (hb : DE X W b fb) (hc : DE X W c fc) (hm : lastMarks [op, op'] [b, c] = false := by with_unfolding_all rfl) :
    DE X W (.Compare a [op, op'] [b, c] pos) (dChain g g' fa fb fc) := imE (pe_chain ho ho' ha hb hc hm) fun _ _ _ h => tChain_of hs hs' h
theorem dt_chain {op op' : CmpOp} {r r' : R2} {g g' : Sv → Sv → Led → Option Sv} (ho : OpR X (compareOp op) r) (ho' : OpR X (compareOp op') r') (hs : OpS X.K X.mg' r g) (hs' : OpS X.K X.mg' r' g') (ha : DE X W a fa) (hb : DE X W b fb) (hc : DE X W c fc) (hm : lastMarks [op, op'] [b, c] = false := by with_unfolding_all rfl) :
    DT X W (.Compare a [op, op'] [b, c] pos) (dB (dChain g g' fa fb fc)) := imT (pt_chain ho ho' ha hb hc hm) fun σ H Q q => tChain_of (Q := fun x H1 => ∃ k, x = .bl k ∧ Q k H1) hs hs' (tB_of q)
end
end DL

/-! DL, part 7: statements: blocks, return, stores, if, for. -/
namespace DL
open PySem PySem.Spec PyProof.Rows L2
def sNil : DM Fl := fun ρ L => .ok (.nx ρ) L
def sSeq (f g : DM Fl) : DM Fl := fun ρ L => (f ρ L).bind fun fl L1 => match fl with
  | .nx r => g r L1
  | o => .ok o L1
def sRet (f : DM Sv) : DM Fl := fun ρ L => (f ρ L).bind fun s L1 => match s with
  | .val d => .ok (.rt d) L1
  | _ => .bad
def sRetN : DM Fl := fun _ L => .ok (.rt .non) L
def sDrop (f : DM Sv) : DM Fl := fun ρ L => (f ρ L).bind fun _ L1 => .ok (.nx ρ) L1
def sSet (i : Nat) (f : DM Sv) : DM Fl := fun ρ L => (f ρ L).bind fun s L1 => match s with
  | .val d => .ok (.nx (ρ.set i (some (.val d)))) L1
  | _ => .bad
def sIf (t : DM Bool) (f g : DM Fl) : DM Fl := fun ρ L => (t ρ L).bind fun k L1 => if k = true then f ρ L1 else g ρ L1
def sPass : DM Fl := fun ρ L => .ok (.nx ρ) L
def sBrk : DM Fl := fun ρ L => .ok (.bk ρ) L
def sCont : DM Fl := fun ρ L => .ok (.ct ρ) L
def sNever : DM Fl := fun _ _ => .bad
section
variable {X : Cx} {W : WX} {st : Stmt} {rest : List Stmt} {f g : DM Fl} {e : Expr} {fe : DM Sv} {pos : Pos}
theorem dss_nil : DSs X W [] sNil := imSs pss_nil fun D σ H h => by
  obtain ⟨G0, G, F, ps, ρ, L, g0, I, S, h⟩ := h
  exact h σ G F H ps g0 (Ext.refl F ps) I S
theorem dss_cons (h1 : DS X W st f) (h2 : DSs X W rest g) : DSs X W (st :: rest) (sSeq f g) := imSs (pss_cons h1 h2) fun D σ H h => by
  obtain ⟨G0, G, F, ps, ρ, L, g0, I, S, h⟩ := h
  refine ⟨G0, G, F, ps, ρ, L, g0, I, S, Res.wp_mono (Res.wp_bind h) (fun fl L1 h1 => ?_) fun e r L' q => q⟩
  cases fl with
  | nx r => exact fun s2 G2 F2 H2 p2 g2 x2 I2 S2 => ⟨G0, G2, F2, p2, r, L1, g2, I2, S2, Res.wp_mono h1 (fun fl L2 q => QS.ext x2 q) fun _ _ _ q => EE.ext x2 q⟩
  | rt d => exact h1
  | bk r => exact h1
  | ct r => exact h1
theorem dss_one (h1 : DS X W st f) : DSs X W [st] f := imSs (pss_one h1) fun D σ H h => h
theorem ds_pass : DS X W (.Pass pos) sPass := imS ps_pass fun D σ H h => by
  obtain ⟨G0, G, F, ps, ρ, L, g0, I, S, h⟩ := h
  exact h σ G F H ps g0 (Ext.refl F ps) I S
theorem ds_break : DS X W (.Break pos) sBrk := imS ps_break fun D σ H h => by
  obtain ⟨G0, G, F, ps, ρ, L, g0, I, S, h⟩ := h
  exact h σ G F H ps g0 (Ext.refl F ps) I S
theorem ds_cont : DS X W (.Continue pos) sCont := imS ps_continue fun D σ H h => by
  obtain ⟨G0, G, F, ps, ρ, L, g0, I, S, h⟩ := h
  exact h σ G F H ps g0 (Ext.refl F ps) I S
theorem ds_never : DS X W st sNever := imS ps_never fun D σ H h => by
  obtain ⟨G0, G, F, ps, ρ, L, g0, I, S, h⟩ := h
  exact h
theorem ds_ret (h : DE X W e fe) : DS X W (.Return (some e) pos) (sRet fe) := imS (ps_ret h) fun D σ H h => by
  obtain ⟨G0, G, F, ps, ρ, L, g0, I, S, h⟩ := h
  refine ⟨G0, G, F, ps, ρ, L, g0, I, S, Res.wp_mono (Res.wp_bind h) (fun s L1 h1 v F1 H1 p1 x1 I1 r1 => ?_) fun e r L' q => q⟩
  split at h1
  · exact h1 v G F1 H1 p1 g0 x1 I1 r1
  · exact h1.elim
theorem ds_retN : DS X W (.Return none pos) sRetN := imS ps_retN fun D σ H h => by
  obtain ⟨G0, G, F, ps, ρ, L, g0, I, S, h⟩ := h
  exact h .non G F H ps g0 (Ext.refl F ps) I .non
theorem ds_expr (h : DE X W e fe) (hs : swapsWith e none pos.line X.env = pure false := by rfl) : DS X W (.Expr e pos) (sDrop fe) := imS (ps_expr h hs) fun D σ H h => by
  obtain ⟨G0, G, F, ps, ρ, L, g0, I, S, h⟩ := h
  exact ⟨G0, G, F, ps, ρ, L, g0, I, S, Res.wp_mono (Res.wp_bind h) (fun s L1 h1 v F1 H1 p1 x1 I1 r1 => h1 σ G F1 H1 p1 g0 x1 I1 (S.ext x1)) fun e r L' q => q⟩
theorem ds_if {t : DM Bool} {a b : List Stmt} {c : Expr} (hc : DT X W c t) (ha : DSs X W a f) (hb : DSs X W b g) : DS X W (.If c a b pos) (sIf t f g) := imS (ps_if hc ha hb) fun D σ H h => by
  obtain ⟨G0, G, F, ps, ρ, L, g0, I, S, h⟩ := h
  refine ⟨G0, G, F, ps, ρ, L, g0, I, S, Res.wp_mono (Res.wp_bind h) (fun k L1 h1 F1 H1 p1 x1 I1 => ?_) fun e r L' q => q⟩
  split at h1
  · rename_i hk
    rw [if_pos hk]
    exact ⟨G0, G, F1, p1, ρ, L1, g0, I1, S.ext x1, Res.wp_mono h1 (fun _ _ q => QS.ext x1 q) fun _ _ _ q => EE.ext x1 q⟩
  · rename_i hk
    rw [if_neg hk]
    exact ⟨G0, G, F1, p1, ρ, L1, g0, I1, S.ext x1, Res.wp_mono h1 (fun _ _ q => QS.ext x1 q) fun _ _ _ q => EE.ext x1 q⟩

/-! ### targets -/
def gN (i : Nat) : Sv → DM Slo := fun s ρ L => match s with
  | .val d => .ok (ρ.set i (some (.val d))) L
  | _ => .bad
/-- several names, from a tuple -/
def gNs : List Nat → List Dv → Slo → Option Slo
  | [], [], ρ => some ρ
  | i :: is, d :: ds, ρ => gNs is ds (ρ.set i (some (.val d)))
  | _, _, _ => none
def gTp (is : List Nat) : Sv → DM Slo := fun s ρ L => match s with
  | .val (.tup ds) => give (gNs is ds ρ) L
  | _ => .bad
variable {tg : Expr} {gt : Sv → DM Slo}
theorem dg_name (i : Nat) {x : Str} (hN : X.N.Nodup) (hi : X.N[i]? = some x) (hx : Loc X.env.scope x) (hf : X.fn x = true ∨ X.env.scope.names.lookup x = some .local := by first | exact .inl rfl | exact .inr rfl | assumption) : DG X (.Name x pos) (gN i) := imG (pg_name hN hi hx hf) fun v σ H Q h => by
  obtain ⟨G0, G, F, ps, ρ, L, s, g0, I, S, r, h⟩ := h
  unfold gN at h
  split at h
  · exact h _ G F H ps g0 (Ext.refl F ps) I (S.set i r rfl)
  · exact h.elim
/-- names alone: where they stand -/
inductive NmOk (X : Cx) : List Expr → List Nat → Prop
  | nil : NmOk X [] []
  | cons {x : Str} {pos : Pos} {es : List Expr} {i : Nat} {is : List Nat} (hi : X.N[i]? = some x) (hx : Loc X.env.scope x) (hf : X.fn x = true ∨ X.env.scope.names.lookup x = some .local) (r : NmOk X es is)
      (hs : (assignEach (.Name x pos :: es) X.env).map (·.2) = assign (.Name x pos) X.env :: (assignEach es X.env).map (·.2)) : NmOk X (.Name x pos :: es) (i :: is)
/-- the readings of names, as HandS has them -/
def tNms : List Nat → TGs
  | [] => gNil
  | i :: is => gCons (gName i) (tNms is)
theorem pgs_names (hN : X.N.Nodup) : ∀ {es : List Expr} {is : List Nat}, NmOk X es is → PGs X es (tNms is)
  | _, _, .nil => pgs_nil
  | _, _, .cons hi hx hf r hs => pgs_cons (pg_name hN hi hx hf) (pgs_names hN r) hs
theorem tNms_of {K : PySem.W.Frag} {mg : Str → Option Value} {G0 G F H : Hp} {ps : List Addr} : ∀ {is : List Nat} {vs : List V} {ds : List Dv} {σ : List (Option V)} {ρ ρ' : Slo} {Q : List (Option V) → Hp → Prop}, RDs K mg F ps vs ds → gNs is ds ρ = some ρ' → Slots K mg G0 G F ps σ ρ →
    (∀ σ', Slots K mg G0 G F ps σ' ρ' → Q σ' H) → tNms is vs σ H Q
  | [], _, [], _, _, _, _, .nil, e, S, h => ⟨rfl, h _ (by cases e; exact S)⟩
  | [], _, _ :: _, _, _, _, _, _, e, _, _ => by cases e
  | _ :: _, _, [], _, _, _, _, _, e, _, _ => by cases e
  | i :: is, _, _ :: _, _, _, _, _, .cons r rr, e, S, h => ⟨_, _, rfl, tNms_of rr e (S.set i r rfl) h⟩
theorem dg_tup {es : List Expr} {k : Nat} {is : List Nat} (hc : X.calm = true) (hN : X.N.Nodup) (h : NmOk X es is) (hn : (assignEach es X.env).length = is.length := by rfl) (hst : (assignEach es X.env).findIdx? (·.1) = none := by rfl) : DG X (.Tuple es k pos) (gTp is) :=
  imG (pg_tup (n := is.length) hc (pgs_names hN h) hn hst) fun v σ H Q h => by
    obtain ⟨G0, G, F, ps, ρ, L, s, g0, I, S, r, h⟩ := h
    unfold gTp at h
    split at h
    · rename_i ds
      obtain ⟨ρ', e, q⟩ := give_wp h
      obtain ⟨p, vs, rfl, fp, hp, z, rs⟩ := xv_tup I r
      refine ⟨p, vs, rfl, SqT.of hp, ?_, tNms_of rs e S fun σ' S' => q σ' G F H ps g0 (Ext.refl F ps) I S'⟩
      have : ∀ {is : List Nat} {ds : List Dv} {ρ ρ' : Slo}, gNs is ds ρ = some ρ' → ds.length = is.length := by
        intro is
        induction is with
        | nil => intro ds ρ ρ' e; cases ds with
          | nil => rfl
          | cons _ _ => cases e
        | cons i is ih => intro ds ρ ρ' e; cases ds with
          | nil => cases e
          | cons d ds => simp [ih e]
      rw [rs.length, this e]
    · exact h.elim
def sAsg (fe : DM Sv) (gt : Sv → DM Slo) : DM Fl := fun ρ L => (fe ρ L).bind fun s L1 => (gt s ρ L1).bind fun r L2 => .ok (.nx r) L2
/-- a target raises nothing -/
theorem gt_ne {G0 G F : Hp} {ps : List Addr} {D : Ends} {K : PySem.W.Frag} {mg : Str → Option Value} {r : Res Slo} (hr : ∀ e s L, r ≠ .err e s L) {E : Exn → Slo → Led → Prop} {P : Slo → Led → Prop} (h : r.wp P E) : r.wp P fun _ _ _ => False := by
  cases r with
  | ok a L => exact h
  | err e s L => exact absurd rfl (hr e s L)
  | bad => exact h
theorem ds_asg (he : DE X W e fe) (hg : DG X tg gt) (hq : ∀ s ρ L e r L', gt s ρ L ≠ .err e r L') (hs : swapsWithSole [tg] e pos.line X.env = pure false := by rfl) (hw : swappedStores [tg] e X.env = pure none := by rfl) (h1 : (assignEach [tg] X.env).map (·.2) = [assign tg X.env] := by rfl) :
    DS X W (.Assign [tg] e pos) (sAsg fe gt) := imS (ps_asg he hg hs hw h1) fun D σ H h => by
  obtain ⟨G0, G, F, ps, ρ, L, g0, I, S, h⟩ := h
  refine ⟨G0, G, F, ps, ρ, L, g0, I, S, Res.wp_mono (Res.wp_bind h) (fun s L1 h1 v F1 H1 p1 x1 I1 r1 => ?_) fun e r L' q => q⟩
  refine ⟨G0, G, F1, p1, ρ, L1, s, g0, I1, S.ext x1, r1, ?_⟩
  cases q : gt s ρ L1 with
  | bad => rw [q] at h1; exact h1.elim
  | err e r L' => exact absurd q (hq _ _ _ _ _ _)
  | ok r L2 =>
    rw [q] at h1
    exact fun s2 G2 F2 H2 p2 g2 x2 I2 S2 => h1 s2 G2 F2 H2 p2 g2 (x1.trans x2) I2 S2
theorem gN_ne {i : Nat} : ∀ s ρ L e r L', gN i s ρ L ≠ .err e r L' := fun s ρ L e r L' q => by
  unfold gN at q
  split at q <;> cases q
theorem give_ne {α : Type} {o : Option α} {L : Led} {e : Exn} {r : Slo} {L' : Led} : give o L ≠ .err e r L' := by
  cases o <;> intro q <;> cases q
theorem gTp_ne {is : List Nat} : ∀ s ρ L e r L', gTp is s ρ L ≠ .err e r L' := fun s ρ L e r L' q => by
  unfold gTp at q
  split at q
  · exact give_ne q
  · cases q
/-- x = e -/
theorem ds_set (i : Nat) {x : Str} {pos' : Pos} (hN : X.N.Nodup) (hi : X.N[i]? = some x) (hx : Loc X.env.scope x) (he : DE X W e fe) (hs : swapsWith e (some (.Name x pos')) pos.line X.env = pure false := by rfl) (hf : X.fn x = true ∨ X.env.scope.names.lookup x = some .local := by first | exact .inl rfl | exact .inr rfl | assumption) :
    DS X W (.Assign [.Name x pos'] e pos) (sSet i fe) := imS (ps_set hN hi hx he hs hf) fun D σ H h => by
  obtain ⟨G0, G, F, ps, ρ, L, g0, I, S, h⟩ := h
  refine ⟨G0, G, F, ps, ρ, L, g0, I, S, Res.wp_mono (Res.wp_bind h) (fun s L1 h1 v F1 H1 p1 x1 I1 r1 => ?_) fun e r L' q => q⟩
  split at h1
  · exact h1 _ G F1 H1 p1 g0 x1 I1 ((S.ext x1).set i r1 rfl)
  · exact h1.elim

/-! ### lists of the frame's own -/
/-- x = [..], the list to be changed later -/
def sSetL (i : Nat) (fr : DM (List Sv)) : DM Fl := fun ρ L => (fr ρ L).bind fun ss L1 => match vals ss with
  | some ds => if ds.length ≤ sizeLine then .ok (.nx (ρ.set i (some (.mu ds)))) L1 else .bad
  | none => .bad
theorem ds_setL (i : Nat) {x : Str} {pos' pos2 : Pos} {es : List Expr} {fr : DM (List Sv)} (hN : X.N.Nodup) (hi : X.N[i]? = some x) (hx : Loc X.env.scope x) (he : DA X W es fr) (hs : swapsWith (.List es pos2) (some (.Name x pos')) pos.line X.env = pure false := by rfl) (hf : X.fn x = true ∨ X.env.scope.names.lookup x = some .local := by first | exact .inl rfl | exact .inr rfl | assumption) :
    DS X W (.Assign [.Name x pos'] (.List es pos2) pos) (sSetL i fr) := imS (ps_set hN hi hx (pe_lst he) hs hf) fun D σ H h => by
  obtain ⟨G0, G, F, ps, ρ, L, g0, I, S, h⟩ := h
  refine ⟨G0, G, F, ps, ρ, L, g0, I, S, Res.wp_mono (Res.wp_bind h) (fun ss L1 h1 vs F1 H1 p1 x1 I1 r1 => ?_) fun e r L' q => q⟩
  split at h1
  · rename_i ds hv
    split at h1
    · rename_i hz
      have r2 := vals_ok hv r1
      have z2 : vs.length ≤ sizeLine := by rw [r2.length]; exact hz
      refine ⟨z2, fun p hp => ?_⟩
      have gp : G p = none := I1.frame.free hp
      refine h1 _ (upd G p (.lst vs)) F1 (upd H1 p (.lst vs)) p1 (fun b o q => ?_) x1 (I1.hold hp) ?_
      · rw [upd_ne (ne_of_none (g0 _ _ q) gp)]; exact g0 _ _ q
      · exact (S.ext x1).own gp g0 ⟨p, vs, rfl, g0.free gp, upd_same, z2, r2⟩ rfl
    · exact h1.elim
  · exact h1.elim
/-- x.append(e) -/
def sApp (i : Nat) (fe : DM Sv) : DM Fl := fun ρ L => match ρ[i]? with
  | some (some (.mu xs)) => (fe ρ L).bind fun s L1 => match s with
    | .val d => if xs.length < sizeLine then .ok (.nx (ρ.set i (some (.mu (xs ++ [d]))))) L1 else .bad
    | _ => .bad
  | _ => .bad
theorem ds_app (i : Nat) {x : Str} {np apos cpos : Pos} (hN : X.N[i]? = some x) (hv : Vis X.env.scope x) (he : DE X W e fe) (hd : (x == ("__debug__" : Str)) = false := by decide) (hcd : (x == ("__classdict__" : Str)) = false := by decide)
    (hbase : attributeBase (.Name x np) "append" X.env (eval (.Name x np) X.env) = eval (.Name x np) X.env := by rfl)
    (hfew : ((backTo cpos (starEach [e] X.env)).all (fun x => !x.1) && (backToKw cpos (keywordEach [] X.env)).all (fun x => x.1.isSome)
      && decide (([e] : List Expr).length + ([] : List Keyword).length + (if ([] : List Keyword).isEmpty then 0 else 1) < 30)) = true := by rfl)
    (hline : (apos.endLine == cpos.line) = true := by rfl) (hs : starEach [e] X.env = (false, eval e X.env) :: starEach [] X.env := by rfl) (hplain : (backTo cpos (starEach [] X.env)).any (·.1) = false := by rfl)
    (hsw : swapsWith (.Call (.Attribute (.Name x np) "append" apos) [e] [] cpos) none pos.line X.env = pure false := by rfl) :
    DS X W (.Expr (.Call (.Attribute (.Name x np) "append" apos) [e] [] cpos) pos) (sApp i fe) :=
  imS (ps_expr (pe_bm PySem.F.plainAttrs_list PySem.F.slot_list_append PySem.F.type_list_append mt_append (pe_var hN hv hd hcd) (pa_cons he pa_nil hs) hbase hfew hline hs hplain) hsw) fun D σ H h => by
  obtain ⟨G0, G, F, ps, ρ, L, g0, I, S, h⟩ := h
  unfold sApp at h
  split at h
  · rename_i xs pre
    obtain ⟨p, vs, hσ, hG0, hG, z, rs⟩ := S.mu pre
    refine ⟨.ref p, hσ, Or.inl ⟨rfl, vs, SqL.of (I.frame _ _ hG)⟩, ?_⟩
    refine ⟨G0, G, F, ps, ρ, L, g0, I, S, Res.wp_mono (Res.wp_bind h) (fun s L1 h1 v F1 H1 p1 x1 I1 r1 => ?_) fun e r L' q => q⟩
    split at h1
    · rename_i d
      split at h1
      · rename_i hz
        have e1 := rs.length
        refine ⟨p, vs, v, rfl, rfl, I1.frame _ _ hG, by rw [e1]; exact hz, ?_⟩
        have S1 := S.ext x1
        have z2 : (vs ++ [v]).length ≤ sizeLine := by rw [List.length_append, List.length_singleton, e1]; exact hz
        refine h1 σ (upd G p (.lst (vs ++ [v]))) F1 _ p1 (fun b o q => ?_) x1 (I1.write hG fun x q => by cases q) (S1.chg pre rfl hσ hG0 ⟨p, _, rfl, hG0, upd_same, z2, (rs.ext x1).append (.one r1)⟩ rfl)
        rw [upd_ne (ne_of_none q hG0)]; exact g0 _ _ q
      · exact h1.elim
    · exact h1.elim
  · exact h.elim
/-- from here on the list in slot i is changed no more -/
def gFrz (i : Nat) (f : DM Fl) : DM Fl := fun ρ L => match ρ[i]? with
  | some (some (.mu xs)) => f (ρ.set i (some (.val (.lst xs)))) L
  | some (some (.muD ks)) => f (ρ.set i (some (.val (.dic ks)))) L
  | _ => .bad
theorem Slots.frz {K : PySem.W.Frag} {mg : Str → Option Value} {G0 G F : Hp} {ps : List Addr} {σ : List (Option V)} {ρ : Slo} {i : Nat} {p : Addr} {o : HO} {s : Sv} {d : Dv} (S : Slots K mg G0 G F ps σ ρ) (h : ρ[i]? = some (some s)) (hs : s.isMut = true) (hσ : σ[i]? = some (some (.ref p))) (hp : G p = some o) (x : Ext F ps (upd F p o) ps) (r : RD K mg (upd F p o) ps (.ref p) d) :
    Slots K mg G0 (cut G p) (upd F p o) ps σ (ρ.set i (some (.val d))) := by
  have hi : i < ρ.length := (List.getElem?_eq_some_iff.mp h).1
  refine ⟨by simp [S.len], fun j t hj => ?_, fun j l t t2 v hj hl m1 m2 h1 h2 => ?_⟩
  · by_cases hij : i = j
    · subst hij
      rw [List.getElem?_set_self hi] at hj
      cases hj
      exact ⟨_, hσ, r⟩
    · rw [List.getElem?_set_ne hij] at hj
      obtain ⟨v, a, b⟩ := S.at_ j t hj
      refine ⟨v, a, ?_⟩
      cases t with
      | val d => exact RD.ext x b
      | bor xs => obtain ⟨q, vs, e, b1, b2, b3⟩ := b; exact ⟨q, vs, e, b1, b2, RDs.ext x b3⟩
      | borD xs => obtain ⟨q, vs, e, b1, b2, b3⟩ := b; exact ⟨q, vs, e, b1, b2, RDk.ext x b3⟩
      | mu xs =>
        obtain ⟨q, vs, rfl, b1, b2, b3, b4⟩ := b
        have hqp : q ≠ p := by
          rintro rfl
          exact hij (S.sep i j s (.mu xs) _ h hj hs rfl hσ a)
        exact ⟨q, vs, rfl, b1, by rw [cut_ne hqp]; exact b2, b3, RDs.ext x b4⟩
      | muD xs =>
        obtain ⟨q, vs, rfl, b1, b2, b3, b4⟩ := b
        have hqp : q ≠ p := by
          rintro rfl
          exact hij (S.sep i j s (.muD xs) _ h hj hs rfl hσ a)
        exact ⟨q, vs, rfl, b1, by rw [cut_ne hqp]; exact b2, b3, RDk.ext x b4⟩
      | xc c fs => obtain ⟨a, dd, C, gs, e1, e2, e3, e4, e5, e6, e7⟩ := b; exact ⟨a, dd, C, gs, e1, e2, e3, e4, e5, e6, RDf.ext x e7⟩
  · have back : ∀ {j : Nat} {t : Sv}, (ρ.set i (some (.val d)))[j]? = some (some t) → t.isMut = true → ρ[j]? = some (some t) := fun {j t} hj m => by
      by_cases hij : i = j
      · subst hij
        rw [List.getElem?_set_self hi] at hj
        cases hj; cases m
      · rw [List.getElem?_set_ne hij] at hj; exact hj
    exact S.sep j l t t2 v (back hj m1) (back hl m2) m1 m2 h1 h2
theorem dss_frz (i : Nat) {sts : List Stmt} (h : DSs X W sts f) : DSs X W sts (gFrz i f) := imSs h fun D σ H h => by
  obtain ⟨G0, G, F, ps, ρ, L, g0, I, S, h⟩ := h
  unfold gFrz at h
  split at h
  · rename_i xs pre
    obtain ⟨p, vs, hσ, hG0, hG, z, rs⟩ := S.mu pre
    obtain ⟨I2, x2⟩ := I.frz hG
    exact ⟨G0, cut G p, _, ps, _, L, fun b o q => by rw [cut_ne (ne_of_none q hG0)]; exact g0 _ _ q, I2, S.frz pre rfl hσ hG x2 (.lst upd_same z (rs.ext x2)), Res.wp_mono h (fun _ _ q => QS.ext x2 q) fun _ _ _ q => EE.ext x2 q⟩
  · rename_i xs pre
    obtain ⟨p, vs, hσ, hG0, hG, z, rs⟩ := S.muD pre
    obtain ⟨I2, x2⟩ := I.frz hG
    exact ⟨G0, cut G p, _, ps, _, L, fun b o q => by rw [cut_ne (ne_of_none q hG0)]; exact g0 _ _ q, I2, S.frz pre rfl hσ hG x2 (.dic (.inl upd_same) z (rs.ext x2)), Res.wp_mono h (fun _ _ q => QS.ext x2 q) fun _ _ _ q => EE.ext x2 q⟩
  · exact h.elim
end
end DL

/-! DL, part 8: what is walked: lists, tuples, texts; enumerate and zip of them. -/
namespace DL
open PySem PySem.Spec PyProof.Rows L2
/-- a source -/
inductive Kd where
  | l (a : Addr) | t (a : Addr) | s (z : Str) (u : Tok)
def chars (z : Str) : List V := z.cps.toList.map fun c => .str ⟨#[c]⟩
namespace Kd
def val : Kd → Value
  | .l a => .ref a
  | .t a => .ref a
  | .s z u => .str z u
def at_ (K : PySem.W.Frag) (H : Hp) : Kd → List V → Prop
  | .l a, xs => SqL K H a xs
  | .t a, xs => SqT K H a xs
  | .s z _, xs => xs = chars z
def st : Kd → Addr → Nat → Heap → Prop
  | .l a, it, i, h => h.IsListIter it a i
  | .t a, it, i, h => h.IsTupleIter it a i
  | .s z u, it, i, h => h.IsStrIter it (strIterType z) z u i
def obj : Kd → Obj
  | .l a => { cls := .type "list_iterator", data := .fields #[.ref a, .int 0 0] }
  | .t a => { cls := .type "tuple_iterator", data := .fields #[.ref a, .int 0 0] }
  | .s z u => { cls := .type (strIterType z), data := .fields #[.str z u, .int 0 0] }
def away (k : Kd) (b : Addr) : Prop := ∀ a, (k = .l a ∨ k = .t a) → a ≠ b
theorem start (k : Kd) {it : Addr} {h : Heap} (e : h.get? it = some k.obj) : k.st it 0 h := by
  cases k with
  | l a => exact ⟨_, e, rfl, rfl⟩
  | t a => exact ⟨_, e, rfl, rfl⟩
  | s z u => exact ⟨_, e, rfl, rfl⟩
theorem keep {k : Kd} {it : Addr} {i : Nat} {h h' : Heap} (st : k.st it i h) (kk : ∀ o, h.get? it = some o → h'.get? it = some o) : k.st it i h' := by
  cases k with
  | l a => exact Heap.IsListIter.at st kk
  | t a => exact Heap.IsTupleIter.at st kk
  | s z u => obtain ⟨o, ho, r⟩ := st; exact ⟨o, kk o ho, r⟩
theorem live {k : Kd} {it : Addr} {i : Nat} {h : Heap} (st : k.st it i h) : ∃ o, h.get? it = some o ∧ ∀ v, o.data ≠ .cell v := by
  cases k with
  | l a => obtain ⟨o, e, c, d⟩ := st; exact ⟨o, e, fun v z => by rw [d] at z; cases z⟩
  | t a => obtain ⟨o, e, c, d⟩ := st; exact ⟨o, e, fun v z => by rw [d] at z; cases z⟩
  | s z u => obtain ⟨o, e, c, d⟩ := st; exact ⟨o, e, fun v z => by rw [d] at z; cases z⟩
section
variable {X : Cx} {pins : List (Addr × Obj)} {σ : List (Option V)} {H : Hp} {s : Shared} {k : Kd} {xs ys : List V}
theorem inj (I : Inv X pins σ H s) (h : k.at_ X.K H xs) (h' : k.at_ X.K H ys) : xs = ys := by
  cases k with
  | l a => exact I.list_inj h h'
  | t a => exact I.tuple_inj h h'
  | s z u => exact h.trans h'.symm
theorem away_of (I : Inv X pins σ H s) (h : k.at_ X.K H xs) {b : Addr} (hb : s.heap.objs.size ≤ b) : k.away b := by
  rintro a ha rfl
  have hs : SqL X.K H a xs ∨ SqT X.K H a xs := by
    rcases ha with e | e
    · subst e; exact .inl h
    · subst e; exact .inr h
  have hl : a < s.heap.objs.size := by
    rcases hs with h | h
    · obtain ⟨its, rv, ⟨o, n, e, _⟩, hz⟩ := I.list h; exact Heap.lt_size e
    · obtain ⟨its, rv, ⟨o, e, _⟩, hz⟩ := I.tuple h; exact Heap.lt_size e
  exact absurd hl (Nat.not_lt.mpr hb)
theorem begins (I : Inv X pins σ H s) (h : k.at_ X.K H xs) : ∃ Hc, Begins k.val k.obj Hc ∧ Hc s.heap := by
  cases k with
  | l a => obtain ⟨its, rv, p, hz⟩ := I.list h; exact ⟨_, begins_list a its.toArray, p.isList⟩
  | t a => obtain ⟨its, rv, p, hz⟩ := I.tuple h; exact ⟨_, begins_tuple a its.toArray, p⟩
  | s z u => exact ⟨_, begins_text z u, trivial⟩
/-- the source's own object is none of the iterator's -/
theorem apart (I : Inv X pins σ H s) (h : k.at_ X.K H xs) {A : Around} (hh : A.handled = none) {it : Addr} (hit : k.away it) {i : Nat} (st : k.st it i s.heap) :
    ∃ (fp : List Addr) (P : Nat → Value → Prop) (Z : Nat → Heap → Prop), Draws X.prog X.w A it fp xs.length P Z ∧ Z i s.heap ∧ (∀ j v, P j v → ∃ x, xs[j]? = some x ∧ RelV x v) ∧ (∀ j h', Z j h' → k.st it j h') ∧ it ∈ fp ∧ ∀ b ∈ fp, b = it ∨ k = .l b ∨ k = .t b := by
  cases k with
  | l a =>
    obtain ⟨its, rv, p, hz⟩ := I.list h
    have D := Draws.list (prog := X.prog) (w := X.w) hh it a (hit a (.inl rfl)) its.toArray
    have el : xs.length = its.toArray.size := by simp [rv.length]
    refine ⟨[it, a], _, (fun i h => h.IsListIter it a i ∧ h.IsList a its.toArray), by rw [el]; exact D, ⟨st, p.isList⟩, fun j v hv => ?_, fun j h' q => q.1, by simp, fun b hb => ?_⟩
    · have hv' : its[j]? = some v := by simpa using hv
      have hj : j < xs.length := by rw [rv.length]; exact (List.getElem?_eq_some_iff.mp hv').1
      obtain ⟨u, e, r⟩ := rv.get (show xs[j]? = some xs[j] by simp [hj])
      rw [hv'] at e; cases e
      exact ⟨_, by simp [hj], r⟩
    · have e : b = it ∨ b = a := by simpa using hb
      rcases e with e | e
      · exact .inl e
      · exact .inr (.inl (by rw [e]))
  | t a =>
    obtain ⟨its, rv, p, hz⟩ := I.tuple h
    have D := Draws.tuple (prog := X.prog) (w := X.w) hh it a (hit a (.inr rfl)) its.toArray
    have el : xs.length = its.toArray.size := by simp [rv.length]
    refine ⟨[it, a], _, (fun i h => h.IsTupleIter it a i ∧ h.IsTuple a its.toArray), by rw [el]; exact D, ⟨st, p⟩, fun j v hv => ?_, fun j h' q => q.1, by simp, fun b hb => ?_⟩
    · have hv' : its[j]? = some v := by simpa using hv
      have hj : j < xs.length := by rw [rv.length]; exact (List.getElem?_eq_some_iff.mp hv').1
      obtain ⟨u, e, r⟩ := rv.get (show xs[j]? = some xs[j] by simp [hj])
      rw [hv'] at e; cases e
      exact ⟨_, by simp [hj], r⟩
    · have e : b = it ∨ b = a := by simpa using hb
      rcases e with e | e
      · exact .inl e
      · exact .inr (.inr (by rw [e]))
  | s z u =>
    cases h
    have D := Draws.text (prog := X.prog) (w := X.w) hh it z u
    have el : (chars z).length = z.cps.size := by simp [chars]
    refine ⟨[it], _, _, by rw [el]; exact D, st, fun j v hv => ?_, fun j h' q => q, by simp, fun b hb => .inl (by simpa using hb)⟩
    obtain ⟨c, t, e, rfl⟩ := hv
    refine ⟨.str ⟨#[c]⟩, ?_, ⟨t, rfl⟩⟩
    simp [chars]
    exact e
end
end Kd
/-! ### enumerate -/
section
variable {prog : Program} {w : World} {A : Around} {E : Value → Shared → Prop} {s : Shared}
theorem meets_enum1 {v : Value} {o : Obj} {H : Heap → Prop} (B : Begins v o H) :
    Meets (Builtin.«enumerate.__new__» ⟨[.type "enumerate", v], []⟩) (fun _ R s => H s.heap ∧
      R (.ok (.ret (.ref (s.heap.push o).objs.size))) { s with heap := (s.heap.push o).push { cls := .type "enumerate", data := .fields #[.none, .bool false, .ref s.heap.objs.size, rawInt 0, .none, .none] } }) :=
  .of_wp fun prog w A R s h => by
    obtain ⟨hp, g, d, tk, os⟩ := s; obtain ⟨h1, h⟩ := h
    have hsub := sub_enumerate
    have q1 : ∀ {A' : Around} {E : Value → Shared → Prop} {Q : Value → Shared → Prop}, Q (.ref hp.objs.size) ⟨hp.push o, g, d, tk, os⟩ → wpAny (model prog w) A' (pyIter v) Q E ⟨hp, g, d, tk, os⟩ :=
      fun q => B.iter prog w _ _ ⟨hp, g, d, tk, os⟩ _ h1 q
    wp_walk using q1
    refine wpAny_stack_any fun st => wpAny_pure ?_
    split
    · rename_i c _ _ _ _ _
      cases (c == Value.type "enumerate")
      · wp_walk using q1
        exact ⟨_, rfl, h⟩
      · wp_walk using q1
        exact ⟨_, rfl, h⟩
    · wp_walk using q1
      exact ⟨_, rfl, h⟩
theorem enum1 {v : Value} {o : Obj} {H : Heap → Prop} {Q : Value → Shared → Prop} (B : Begins v o H) (h1 : H s.heap)
    (h : ∀ h', IsEnum h' (s.heap.objs.size + 1) s.heap.objs.size 0 .none → h'.get? s.heap.objs.size = some o → h'.objs.size = s.heap.objs.size + 2 →
      (∀ b o, s.heap.get? b = some o → h'.get? b = some o) → Q (.ref (s.heap.objs.size + 1)) { s with heap := h' }) :
    wpAny (model prog w) A (call (.type "enumerate") [v]) Q E s := by
  refine callType_new F.called_enumerate (by decide) (F.typeCall_enumerate_1 _) (F.newCall_enumerate_1 _) (fun obj => F.args_object_init_2 obj _) F.entry_enumerate_new
    (meets_enum1 B) ⟨h1, ?_⟩
  have hz : (s.heap.push o).objs.size = s.heap.objs.size + 1 := Heap.size_push ..
  show _ ∧ _
  rw [hz]
  have he : IsEnum ((s.heap.push o).push { cls := .type "enumerate", data := .fields #[.none, .bool false, .ref s.heap.objs.size, rawInt 0, .none, .none] }) (s.heap.objs.size + 1) s.heap.objs.size 0 .none := by
    have := Heap.get?_push_size (s.heap.push o) (o := { cls := .type "enumerate", data := .fields #[.none, .bool false, .ref s.heap.objs.size, rawInt 0, .none, .none] }) rfl
    rw [hz] at this; exact this
  exact ⟨⟨_, he, rfl⟩, h _ he (Heap.get?_push_of_some _ (Heap.get?_push_size _ B.free)) (by rw [Heap.size_push, hz]) fun b o x => Heap.get?_push_of_some _ (Heap.get?_push_of_some _ x)⟩
end
def ItE (K : PySem.W.Frag) (k : Kd) : It :=
  ⟨fun i H => ∃ (xs : List V) (x : V), k.at_ K H xs ∧ xs[i]? = some x, fun i H v H' => ∃ T x, v = .ref T ∧ H T = none ∧ H' = upd H T (.tup [.int (i : Nat), x]) ∧ ∀ xs, k.at_ K H xs → xs[i]? = some x, fun i H => ∃ xs : List V, k.at_ K H xs ∧ xs.length = i⟩
theorem turn_enumK {P : Program} {w : World} {K : PySem.W.Frag} {elts : List Expr} {kk : Nat} {tpos : Pos} (k : Kd) (e it : Addr) (ai : k.away it) (ae : k.away e) :
    Turn P w K (.Tuple elts kk tpos) (ItE K k) [e, it] e (fun i h => (∃ old, IsEnum h e it ((i : Nat) : Int) old) ∧ k.st it i h ∧ e ≠ it) where
  mem := by simp
  obj := fun i h st b hb => by
    obtain ⟨⟨old, he⟩, hi, _⟩ := st
    have e' : b = e ∨ b = it := by simpa using hb
    rcases e' with z | z
    · rw [z]; exact ⟨_, he, fun v q => nomatch q⟩
    · rw [z]; exact Kd.live hi
  keep := fun i h h' st k2 => let ⟨⟨old, he⟩, hi, hne⟩ := st; ⟨⟨old, k2 e (by simp) _ he⟩, Kd.keep hi fun o q => k2 it (by simp) o q, hne⟩
  item := by
    intro X hP hw hK hc i pins s σ H E I hf st hg
    subst hP hw hK
    obtain ⟨⟨old, he⟩, hit, hne⟩ := st
    obtain ⟨xs, x0, hq, hx⟩ := hg
    have hel : e < s.heap.objs.size := Heap.lt_size he
    have hil : it < s.heap.objs.size := by obtain ⟨_, q, _⟩ := Kd.live hit; exact Heap.lt_size q
    have hd : X.A.in1.handled = none := I.ok.hd hc
    obtain ⟨fp, PP, Z, D, z0, hP, hZ, mi, hfp⟩ := Kd.apart I hq hd ai hit
    have hlt : i < xs.length := (List.getElem?_eq_some_iff.mp hx).1
    have hef : e ∉ fp := fun q => by
      rcases hfp e q with z | z
      · exact hne z
      · exact ae e z rfl
    refine wpAny_pyNext_enum_itemD D he z0 hlt hne hef fun u h' tk pu ho hit' hT hsz hk => ?_
    obtain ⟨x, hx', ru⟩ := hP i u pu
    refine ⟨_, rfl, wpAny_letOwnedTupleGo_enum (s := { s with heap := h', toks := tk + 1 }) ho fun h'' he' sb => ?_⟩
    have hT2 : h''.get? s.heap.objs.size = some { cls := .type "tuple", data := .seq #[.int i tk, u] } := (sb.2 _ (Nat.ne_of_gt hel)).trans hT
    have new : ObjOk X.prog X.w (upd H s.heap.objs.size (.tup [.int (i : Nat), x])) h'' s.heap.objs.size (.tup [.int (i : Nat), x]) :=
      ⟨by show 2 ≤ sizeLine; decide, [.int i tk, u], .cons ⟨_, rfl⟩ (.cons ru .nil), ⟨_, hT2, rfl, _, rfl⟩⟩
    have I1 : Inv X pins σ (upd H s.heap.objs.size (.tup [.int (i : Nat), x])) { s with heap := h'', toks := tk + 1 } :=
      I.turnedNew (ch := [e, it]) (fun b ob hb q => (sb.2 b (fun z => hb (by simp [z]))).trans (hk b ob (fun z => hb (by simp [z])) (fun z => hb (by simp [z])) q)) hf (Nat.le_refl _) new
    refine ⟨.ref s.heap.objs.size, _, I1, rfl, ⟨_, x, rfl, I.hok.fresh (Nat.le_refl _), rfl, fun ys hy => by rw [Kd.inj I hy hq]; exact hx'⟩, ⟨⟨u, ?_⟩, Kd.keep (hZ _ _ hit') fun o q => (sb.2 it (Ne.symm hne)).trans q, hne⟩, fun b hb => ?_⟩
    · have e1 : ((i + 1 : Nat) : Int) = (i : Int) + 1 := by omega
      rw [e1]; exact he'
    · have hb' : b < s.heap.objs.size := by
        have e' : b = e ∨ b = it := by simpa using hb
        rcases e' with z | z
        · rw [z]; exact hel
        · rw [z]; exact hil
      rw [upd_ne (Nat.ne_of_lt hb')]
      exact (hf b hb).1
  done := by
    intro X hP hw hK hc i pins s σ H E I hf st hg
    subst hP hw hK
    obtain ⟨⟨old, he⟩, hit, hne⟩ := st
    obtain ⟨xs, hq, hx⟩ := hg
    have hd : X.A.in1.handled = none := I.ok.hd hc
    obtain ⟨fp, PP, Z, D, z0, hP, hZ, mi, hfp⟩ := Kd.apart I hq hd ai hit
    obtain ⟨f0, f1, f2, f3, f4, f5⟩ := hf it (by simp)
    subst hx
    exact wpAny_pyNext_enum_endD D he z0 fun h' eb => ⟨rfl, I.turned (t' := s.toks) (fun b o hb q => eb b o hb q) f0 f1 f3 f4 f5⟩
  self := fun A i s Q E st h => let ⟨⟨_, he⟩, _⟩ := st; wpAny_pyIter_enum he h
/-- what kind of source a value is -/
def SrcR (K : PySem.W.Frag) (H : Hp) (v : V) (P : Kd → Prop) : Prop := (∃ a xs, v = .ref a ∧ SqL K H a xs ∧ P (.l a)) ∨ (∃ a xs, v = .ref a ∧ SqT K H a xs ∧ P (.t a)) ∨ ∃ z, v = .str z ∧ ∀ u, P (.s z u)
theorem SrcR.kd {K : PySem.W.Frag} {H : Hp} {v : V} {u : Value} {P : Kd → Prop} (h : SrcR K H v P) (r : RelV v u) : ∃ k xs, u = Kd.val k ∧ Kd.at_ K H k xs ∧ P k := by
  rcases h with ⟨a, xs, rfl, h, p⟩ | ⟨a, xs, rfl, h, p⟩ | ⟨z, rfl, p⟩
  · cases r; exact ⟨.l a, xs, rfl, h, p⟩
  · cases r; exact ⟨.t a, xs, rfl, h, p⟩
  · obtain ⟨t, rfl⟩ := r; exact ⟨.s z t, _, rfl, rfl, p t⟩
/-- the source itself -/
def ItP (K : PySem.W.Frag) : Kd → It
  | .l a => Itl K a
  | .t a => Itt K a
  | .s z _ => Its z
def iSrc (K : PySem.W.Frag) (te : TE) : TI := fun σ H R => te σ H fun v H1 => SrcR K H1 v fun k => R (ItP K k) H1
theorem strTy (z : Str) : strIterType z = "str_ascii_iterator" ∨ strIterType z = "str_iterator" := by
  unfold strIterType
  split
  · exact .inl rfl
  · exact .inr rfl
theorem pi_src {X : Cx} {tg e : Expr} {te : TE} (he : PE X e te) : PI X tg e (iSrc X.K te) := by
  refine ⟨fun pins s σ H R I h => ?_⟩
  refine thn (he.run pins s σ H _ I h) fun v s1 ⟨y, H1, I1, r1, q⟩ => ?_
  obtain ⟨k, xs, rfl, hk, q⟩ := q.kd r1
  obtain ⟨Hc, B, hc⟩ := Kd.begins I1 hk
  refine B.iter _ _ _ _ _ _ hc ?_
  cases k with
  | l a => exact pi_one (tk := s1.toks) I1 _ (turn_list a _) ⟨_, Heap.get?_push_size _ rfl, rfl, rfl⟩ q
  | t a => exact pi_one (tk := s1.toks) I1 _ (turn_tuple a _) ⟨_, Heap.get?_push_size _ rfl, rfl, rfl⟩ q
  | s z u => exact pi_one (tk := s1.toks) I1 _ (turn_str _ z u _ (strTy z)) ⟨_, Heap.get?_push_size _ rfl, rfl, rfl⟩ q
def iEnumK (K : PySem.W.Frag) (ta : TA) : TI := fun σ H R => ta σ H fun vs H1 => ∃ v, vs = [v] ∧ SrcR K H1 v fun k => R (ItE K k) H1
theorem pi_enumK {X : Cx} {e : Expr} {ta : TA} {p pos tpos : Pos} {elts : List Expr} {kk : Nat} (hg : Gl X "enumerate") (hm : X.mg "enumerate" = none) (ha : PA X [e] ta) (hs : starEach [e] X.env = [(false, eval e X.env)] := by rfl) :
    PI X (.Tuple elts kk tpos) (.Call (.Name "enumerate" p) [e] [] pos) (iEnumK X.K ta) := by
  refine ⟨fun pins s σ H R I h => ?_⟩
  refine Call_ (ld_blt I hg hm boot_enumerate (PyProof.Rows.callWith_type1 (thn (ha.run pos pins s σ H _ I h) fun us s1 ⟨vs, H1, I1, r1, q1⟩ => ?_) hs rfl))
  obtain ⟨v, ex, q⟩ := q1
  subst ex
  cases r1 with
  | cons r rr =>
    cases rr
    obtain ⟨k, xs, rfl, hk, q⟩ := q.kd r
    obtain ⟨Hc, B, hc⟩ := Kd.begins I1 hk
    refine enum1 B hc fun h' he hit hsz hk2 => wpAny_pyIter_enum he ?_
    have I2 : Inv X pins σ H1 { s1 with heap := h' } := I1.kept (t' := s1.toks) hk2
    refine ⟨s1.heap.objs.size + 1, [s1.heap.objs.size + 1, s1.heap.objs.size], _, _, H1, rfl, I2, turn_enumK k (s1.heap.objs.size + 1) s1.heap.objs.size (Kd.away_of I1 hk (Nat.le_refl _)) (Kd.away_of I1 hk (Nat.le_succ _)), ⟨⟨.none, he⟩, k.start hit, Nat.succ_ne_self _⟩, fun b hb => ?_, q⟩
    have e' : b = s1.heap.objs.size + 1 ∨ b = s1.heap.objs.size := by simpa using hb
    have hle : s1.heap.objs.size ≤ b := by
      rcases e' with z | z
      · rw [z]; exact Nat.le_add_right _ _
      · rw [z]; exact Nat.le_refl _
    exact I1.fpOk hle (I1.hok.fresh hle)
/-! ### zip -/
def ItZ (K : PySem.W.Frag) (k k2 : Kd) : It :=
  ⟨fun i H => ∃ (xs ys : List V) (x y : V), k.at_ K H xs ∧ k2.at_ K H ys ∧ xs[i]? = some x ∧ ys[i]? = some y,
    fun i H v H' => ∃ T x y, v = .ref T ∧ H T = none ∧ H' = upd H T (.tup [x, y]) ∧ (∀ xs, k.at_ K H xs → xs[i]? = some x) ∧ ∀ ys, k2.at_ K H ys → ys[i]? = some y,
    fun i H => ∃ xs ys : List V, k.at_ K H xs ∧ k2.at_ K H ys ∧ min xs.length ys.length = i⟩
/-- the cells of a zip lie apart -/
structure ZAp (k k2 : Kd) (z TI TO i1 i2 : Addr) : Prop where
  TIz : TI ≠ z
  TOz : TO ≠ z
  TITO : TI ≠ TO
  i1z : i1 ≠ z
  i2z : i2 ≠ z
  TI1 : TI ≠ i1
  TI2 : TI ≠ i2
  TO1 : TO ≠ i1
  TO2 : TO ≠ i2
  i12 : i1 ≠ i2
  a1 : k.away i1 ∧ k.away i2 ∧ k.away z ∧ k.away TO
  a2 : k2.away i1 ∧ k2.away i2 ∧ k2.away z ∧ k2.away TO
theorem turn_zipK {P : Program} {w : World} {K : PySem.W.Frag} {elts : List Expr} {kk : Nat} {tpos : Pos} {k k2 : Kd} {z TI TO i1 i2 : Addr} (D : ZAp k k2 z TI TO i1 i2) :
    Turn P w K (.Tuple elts kk tpos) (ItZ K k k2) [z, TI, TO, i1, i2] z (fun i h => IsZip h z TI TO .none ∧ IsTupOf2 h TI (.ref i1) (.ref i2) ∧ (∃ x y, IsTupOf2 h TO x y) ∧ k.st i1 i h ∧ k2.st i2 i h) where
  mem := by simp
  obj := fun i h st c hc => by
    obtain ⟨hz, hTI, ⟨x, y, hTO⟩, s1, s2⟩ := st
    have e' : c = z ∨ c = TI ∨ c = TO ∨ c = i1 ∨ c = i2 := by simpa using hc
    rcases e' with q | q | q | q | q
    · rw [q]; exact ⟨_, hz, fun v q => nomatch q⟩
    · rw [q]; exact ⟨_, hTI, fun v q => nomatch q⟩
    · rw [q]; exact ⟨_, hTO, fun v q => nomatch q⟩
    · rw [q]; exact Kd.live s1
    · rw [q]; exact Kd.live s2
  keep := fun i h h' st kp => by
    obtain ⟨hz, hTI, ⟨x, y, hTO⟩, h1, h2⟩ := st
    exact ⟨kp z (by simp) _ hz, kp TI (by simp) _ hTI, ⟨x, y, kp TO (by simp) _ hTO⟩, Kd.keep h1 fun o q => kp i1 (by simp) o q, Kd.keep h2 fun o q => kp i2 (by simp) o q⟩
  item := by
    intro X hP hw hK hc i pins s σ H E I hf st hg
    subst hP hw hK
    obtain ⟨hz, hTI, ⟨x0, y0, hTO⟩, h1, h2⟩ := st
    obtain ⟨xs, ys, x', y', hqx, hqy, hx, hy⟩ := hg
    have hzl : z < s.heap.objs.size := Heap.lt_size hz
    have hd : X.A.in1.handled = none := I.ok.hd hc
    obtain ⟨fp1, P1, Z1, D1, z1, hP1, hZ1, m1, hf1⟩ := Kd.apart I hqx hd D.a1.1 h1
    obtain ⟨fp2, P2, Z2, D2, z2, hP2, hZ2, m2, hf2⟩ := Kd.apart I hqy hd D.a2.2.1 h2
    have no1 : ∀ {b}, b ≠ i1 → k.away b → b ∉ fp1 := fun hb ha q => (hf1 _ q).elim hb fun e => ha _ e rfl
    have no2 : ∀ {b}, b ≠ i2 → k2.away b → b ∉ fp2 := fun hb ha q => (hf2 _ q).elim hb fun e => ha _ e rfl
    have S : ZipSep2 z TI TO i1 i2 fp1 fp2 := ⟨D.TIz, D.TOz, D.TITO, D.TI1, m1, no1 (Ne.symm D.i1z) D.a1.2.2.1, no1 D.TO1 D.a1.2.2.2, D.TI2, m2, no2 (Ne.symm D.i2z) D.a2.2.2.1, no2 D.TO2 D.a2.2.2.2, no2 D.i12 D.a2.1, no1 (Ne.symm D.i12) D.a1.2.1⟩
    refine wpAny_pyNext_zipD2_item S D1 D2 hz hTI hTO z1 z2 (List.getElem?_eq_some_iff.mp hx).1 (List.getElem?_eq_some_iff.mp hy).1 fun u u2 h' tk pu pu2 z' TO' h1' h2' hT hsz hk => ?_
    obtain ⟨x, hx', ru⟩ := hP1 i u pu
    obtain ⟨y, hy', ru2⟩ := hP2 i u2 pu2
    refine ⟨_, rfl, wpAny_letOwnedTupleGo_zip (s := { s with heap := h', toks := tk }) z' fun h'' z'' sb => ?_⟩
    have hT2 : h''.get? s.heap.objs.size = some { cls := .type "tuple", data := .seq #[u, u2] } := (sb.2 _ (Nat.ne_of_gt hzl)).trans hT
    have new : ObjOk X.prog X.w (upd H s.heap.objs.size (.tup [x, y])) h'' s.heap.objs.size (.tup [x, y]) :=
      ⟨by show 2 ≤ sizeLine; decide, [u, u2], .cons ru (.cons ru2 .nil), ⟨_, hT2, rfl, _, rfl⟩⟩
    have I1 : Inv X pins σ (upd H s.heap.objs.size (.tup [x, y])) { s with heap := h'', toks := tk } :=
      I.turnedNew (t' := tk) (ch := [z, TI, TO, i1, i2]) (fun c o hb q => (sb.2 c (fun q' => hb (by simp [q']))).trans (hk c o (fun q' => hb (by simp [q'])) (fun q' => hb (by simp [q'])) (fun q' => hb (by simp [q'])) (fun q' => hb (by simp [q'])) q)) hf (Nat.le_refl _) new
    refine ⟨.ref s.heap.objs.size, _, I1, rfl, ⟨_, x, y, rfl, I.hok.fresh (Nat.le_refl _), rfl, fun l hl => by rw [Kd.inj I hl hqx]; exact hx', fun l hl => by rw [Kd.inj I hl hqy]; exact hy'⟩, ⟨z'', ?_, ⟨u, u2, ?_⟩, ?_, ?_⟩, fun c hcm => ?_⟩
    · exact (sb.2 _ D.TIz).trans (hk _ _ D.TIz D.TITO D.TI1 D.TI2 hTI)
    · exact (sb.2 _ D.TOz).trans TO'
    · exact Kd.keep (hZ1 _ _ h1') fun o q => (sb.2 _ D.i1z).trans q
    · exact Kd.keep (hZ2 _ _ h2') fun o q => (sb.2 _ D.i2z).trans q
    · have hlt : c < s.heap.objs.size := by
        have e' : c = z ∨ c = TI ∨ c = TO ∨ c = i1 ∨ c = i2 := by simpa using hcm
        rcases e' with q | q | q | q | q
        · rw [q]; exact hzl
        · rw [q]; exact Heap.lt_size hTI
        · rw [q]; exact Heap.lt_size hTO
        · rw [q]; obtain ⟨_, e1, _⟩ := Kd.live h1; exact Heap.lt_size e1
        · rw [q]; obtain ⟨_, e2, _⟩ := Kd.live h2; exact Heap.lt_size e2
      rw [upd_ne (Nat.ne_of_lt hlt)]
      exact (hf c hcm).1
  done := by
    intro X hP hw hK hc i pins s σ H E I hf st hg
    subst hP hw hK
    obtain ⟨hz, hTI, ⟨x0, y0, hTO⟩, h1, h2⟩ := st
    obtain ⟨xs, ys, hqx, hqy, hend⟩ := hg
    have hd : X.A.in1.handled = none := I.ok.hd hc
    obtain ⟨fp1, P1, Z1, D1, z1, hP1, hZ1, m1, hf1⟩ := Kd.apart I hqx hd D.a1.1 h1
    obtain ⟨fp2, P2, Z2, D2, z2, hP2, hZ2, m2, hf2⟩ := Kd.apart I hqy hd D.a2.2.1 h2
    have no1 : ∀ {b}, b ≠ i1 → k.away b → b ∉ fp1 := fun hb ha q => (hf1 _ q).elim hb fun e => ha _ e rfl
    have no2 : ∀ {b}, b ≠ i2 → k2.away b → b ∉ fp2 := fun hb ha q => (hf2 _ q).elim hb fun e => ha _ e rfl
    have S : ZipSep2 z TI TO i1 i2 fp1 fp2 := ⟨D.TIz, D.TOz, D.TITO, D.TI1, m1, no1 (Ne.symm D.i1z) D.a1.2.2.1, no1 D.TO1 D.a1.2.2.2, D.TI2, m2, no2 (Ne.symm D.i2z) D.a2.2.2.1, no2 D.TO2 D.a2.2.2.2, no2 D.i12 D.a2.1, no1 (Ne.symm D.i12) D.a1.2.1⟩
    exact wpAny_pyNext_zipD2_end S D1 D2 hz hTI hTO z1 z2 (by omega) (by omega) (by omega) fun h' tk hk => ⟨rfl, I.turnedL (t' := tk) (ch := [z, TI, TO, i1, i2]) (fun c o hb q =>
      hk c o (fun q' => hb (by simp [q'])) (fun q' => hb (by simp [q'])) (fun q' => hb (by simp [q'])) (fun q' => hb (by simp [q'])) q) hf⟩
  self := fun A i s Q E st h => wpAny_pyIter_zip st.1 h
def iZipK (K : PySem.W.Frag) (ta : TA) : TI := fun σ H R => ta σ H fun vs H1 => ∃ v v2, vs = [v, v2] ∧ SrcR K H1 v fun k => SrcR K H1 v2 fun k2 => R (ItZ K k k2) H1
theorem pi_zipK {X : Cx} {e e2 : Expr} {ta : TA} {p pos tpos : Pos} {elts : List Expr} {kk : Nat} (hg : Gl X "zip") (hm : X.mg "zip" = none) (ha : PA X [e, e2] ta)
    (hs : starEach [e, e2] X.env = (false, eval e X.env) :: starEach [e2] X.env := by rfl) (hpl : (backTo pos (starEach [e2] X.env)).any (·.1) = false := by rfl) :
    PI X (.Tuple elts kk tpos) (.Call (.Name "zip" p) [e, e2] [] pos) (iZipK X.K ta) := by
  refine ⟨fun pins s σ H R I h => ?_⟩
  refine Call_ (ld_blt I hg hm PyProof.Rows.boot_zip (PyProof.Rows.callWith_type1 (thn (ha.run pos pins s σ H _ I h) fun us s1 ⟨vs, H1, I1, r1, q1⟩ => ?_) hs hpl))
  obtain ⟨v, v2, ex, q⟩ := q1
  subst ex
  cases r1 with
  | cons r rr =>
    cases rr with
    | cons r' rr =>
      cases rr
      obtain ⟨k, xs, rfl, hk, q⟩ := q.kd r
      obtain ⟨k2, ys, rfl, hk2, q⟩ := q.kd r'
      obtain ⟨Hc, B, hc⟩ := Kd.begins I1 hk
      obtain ⟨Hc2, B2, hc2⟩ := Kd.begins I1 hk2
      refine zip_begins2 B B2 hc hc2 fun h' hz hTI hTO o1 o2 hsz hkp => wpAny_pyIter_zip hz ?_
      have I2 : Inv X pins σ H1 { s1 with heap := h' } := I1.kept (t' := s1.toks) hkp
      have ne : ∀ (a b : Nat), a ≠ b → s1.heap.objs.size + a ≠ s1.heap.objs.size + b := fun a b h e => h (Nat.add_left_cancel e)
      have aw : ∀ j, k.away (s1.heap.objs.size + j) := fun j => Kd.away_of I1 hk (Nat.le_add_right _ _)
      have aw2 : ∀ j, k2.away (s1.heap.objs.size + j) := fun j => Kd.away_of I1 hk2 (Nat.le_add_right _ _)
      refine ⟨s1.heap.objs.size + 4, [s1.heap.objs.size + 4, s1.heap.objs.size + 2, s1.heap.objs.size + 3, s1.heap.objs.size, s1.heap.objs.size + 1], _, _, H1, rfl, I2, turn_zipK (k := k) (k2 := k2) (z := s1.heap.objs.size + 4) (TI := s1.heap.objs.size + 2) (TO := s1.heap.objs.size + 3) (i1 := s1.heap.objs.size) (i2 := s1.heap.objs.size + 1) ⟨ne 2 4 (by decide), ne 3 4 (by decide), ne 2 3 (by decide), ne 0 4 (by decide), ne 1 4 (by decide), ne 2 0 (by decide), ne 2 1 (by decide), ne 3 0 (by decide), ne 3 1 (by decide), ne 0 1 (by decide), ⟨aw 0, aw 1, aw 4, aw 3⟩, ⟨aw2 0, aw2 1, aw2 4, aw2 3⟩⟩, ⟨hz, hTI, ⟨_, _, hTO⟩, k.start o1, k2.start o2⟩, fun c hcm => ?_, q⟩
      have e' : c = s1.heap.objs.size + 4 ∨ c = s1.heap.objs.size + 2 ∨ c = s1.heap.objs.size + 3 ∨ c = s1.heap.objs.size ∨ c = s1.heap.objs.size + 1 := by simpa using hcm
      have hle : s1.heap.objs.size ≤ c := by
        rcases e' with z | z | z | z | z
        · rw [z]; exact Nat.le_add_right _ _
        · rw [z]; exact Nat.le_add_right _ _
        · rw [z]; exact Nat.le_add_right _ _
        · rw [z]; exact Nat.le_refl _
        · rw [z]; exact Nat.le_add_right _ _
      exact I1.fpOk hle (I1.hok.fresh hle)
end DL

/-! DL, part 9: for loops and list comprehensions. -/
namespace DL
open PySem PySem.Spec PyProof.Rows L2
/-- what is walked: solid if it does not hang on the frame's own things -/
structure Src where
  items : List Dv
  solid : Bool
def noH : Hp := fun _ => none
section
variable (K : PySem.W.Frag) (mg : Str → Option Value)
/-- from here on, while Gk stands, the walk gives ds -/
def Yld (Gk F0 : Hp) (ps0 : List Addr) (J : It) (ds : List Dv) : Prop :=
  ∀ (G F H : Hp) (ps : List Addr) (L : Led), Same Gk G → Ext F0 ps0 F ps → HS K mg G F H ps L → (∀ i, i < ds.length → J.go i H) ∧ J.stop ds.length H ∧
    ∀ i x H', i < ds.length → J.yld i H x H' → ∃ d F', ds[i]? = some d ∧ Ext F ps F' ps ∧ HS K mg G F' H' ps L ∧ RD K mg F' ps x d
def tI (W : WX) (f : DM Src) : TI := fun σ H R => ∃ G0 G F ps ρ L, Same G0 G ∧ HS K mg G F H ps L ∧ Slots K mg G0 G F ps σ ρ ∧
  (f ρ L).wp (fun s L' => ∀ J F' H' ps', Ext F ps F' ps' → HS K mg G F' H' ps' L' → Yld K mg (if s.solid then noH else G) F' ps' J s.items → R J H') (EE K mg G0 F ps W)
/-- a source stands -/
def KAt (Gk F0 : Hp) (ps0 : List Addr) (k : Kd) (ds : List Dv) : Prop :=
  ∀ (G F H : Hp) (ps : List Addr) (L : Led), Same Gk G → Ext F0 ps0 F ps → HS K mg G F H ps L → ∃ xs, k.at_ K H xs ∧ RDs K mg F ps xs ds
end
abbrev DI (X : Cx) (W : WX) (tg e : Expr) (f : DM Src) : Prop := PI X tg e (tI X.K X.mg' W f)
theorem imI {X : Cx} {tg e : Expr} {t t' : TI} (p : PI X tg e t) (h : ∀ σ H R, t' σ H R → t σ H R) : PI X tg e t' := ⟨fun pins s σ H R I w => p.run pins s σ H R I (h σ H R w)⟩
def Sv.src : Sv → Option Src
  | .val (.lst xs) => some ⟨xs, true⟩
  | .val (.tup xs) => some ⟨xs, true⟩
  | .val (.str z) => some ⟨z.cps.toList.map fun c => .str ⟨#[c]⟩, true⟩
  | .val (.scr ns) => some ⟨ns.map .int, true⟩
  | .bor xs => some ⟨xs, false⟩
  | _ => none
def enumF : Nat → List Dv → List Dv
  | _, [] => []
  | n, d :: ds => .tup [.int (n : Nat), d] :: enumF (n + 1) ds
@[simp] theorem enumF_nil (n : Nat) : enumF n [] = [] := rfl
@[simp] theorem enumF_cons (n : Nat) (d : Dv) (ds : List Dv) : enumF n (d :: ds) = .tup [.int (n : Nat), d] :: enumF (n + 1) ds := rfl
@[simp] theorem enumF_length : ∀ (n : Nat) (ds : List Dv), (enumF n ds).length = ds.length
  | _, [] => rfl
  | n, _ :: ds => by simp [enumF_length (n + 1) ds]
theorem enumF_get : ∀ (n i : Nat) (ds : List Dv), (enumF n ds)[i]? = ds[i]?.map fun d => .tup [.int ((n + i : Nat) : Int), d]
  | n, i, [] => by simp
  | n, 0, d :: ds => by simp
  | n, i + 1, d :: ds => by
    simp only [enumF_cons, List.getElem?_cons_succ, enumF_get (n + 1) i ds]
    congr 1
    funext d
    rw [show n + 1 + i = n + (i + 1) by omega]
def zipF (a b : List Dv) : List Dv := List.zipWith (fun x y => .tup [x, y]) a b
section
variable {K : PySem.W.Frag} {mg : Str → Option Value} {G0 G F H : Hp} {ps : List Addr} {L : Led} {v : V} {s : Sv} {W : WX}
theorem ne_noH : Same noH G := fun _ _ e => by cases e
theorem one_len (c : Nat) : (⟨#[c]⟩ : Str).length ≤ sizeLine := by show 1 ≤ sizeLine; decide
theorem chars_rel (z : Str) : RDs K mg F ps (chars z) (z.cps.toList.map fun c => .str ⟨#[c]⟩) := by
  unfold chars
  induction z.cps.toList with
  | nil => exact .nil
  | cons c cs ih => exact .cons (.str _ (one_len c)) ih
theorem ints_rel : ∀ ns : List Int, RDs K mg F ps (ns.map V.int) (ns.map Dv.int)
  | [] => .nil
  | n :: ns => .cons (.int n) (ints_rel ns)
theorem src_of (I : HS K mg G F H ps L) (r : XvOk K mg G F ps v s) {z : Src} (e : s.src = some z) : SrcR K H v fun k => KAt K mg (if z.solid then noH else G) F ps k z.items := by
  unfold Sv.src at e
  split at e
  · cases e
    obtain ⟨p, vs, rfl, hp, zl, rs⟩ := xv_items I (s := .val (.lst _)) r rfl
    cases r with
    | lst h zz r2 => exact .inl ⟨_, _, rfl, SqL.of (I.same _ _ h), fun G' F' H' ps' L' _ x J => ⟨_, SqL.of (J.same _ _ (x.same _ _ h)), RDs.ext x r2⟩⟩
  · cases e
    cases r with
    | tup h zz r2 => exact .inr (.inl ⟨_, _, rfl, SqT.of (I.same _ _ h), fun G' F' H' ps' L' _ x J => ⟨_, SqT.of (J.same _ _ (x.same _ _ h)), RDs.ext x r2⟩⟩)
  · cases e
    obtain ⟨rfl, zl⟩ := xv_str r
    exact .inr (.inr ⟨_, rfl, fun u G' F' H' ps' L' _ x J => ⟨_, rfl, chars_rel _⟩⟩)
  · cases e
    cases r with
    | scr h => exact .inl ⟨_, _, rfl, I.same.seq h, fun G' F' H' ps' L' _ x J => ⟨_, (x.same.trans J.same).seq h, ints_rel _⟩⟩
  · cases e
    obtain ⟨p, vs, rfl, hp, zl, rs⟩ := r
    exact .inl ⟨_, _, rfl, SqL.of (I.frame _ _ hp), fun G' F' H' ps' L' g x J => ⟨_, SqL.of (J.frame _ _ (g _ _ hp)), RDs.ext x rs⟩⟩
  · cases e
theorem SrcR.imp {P Q : Kd → Prop} (h : SrcR K H v P) (i : ∀ k, P k → Q k) : SrcR K H v Q := by
  rcases h with ⟨a, xs, e, h, p⟩ | ⟨a, xs, e, h, p⟩ | ⟨z, e, p⟩
  · exact .inl ⟨a, xs, e, h, i _ p⟩
  · exact .inr (.inl ⟨a, xs, e, h, i _ p⟩)
  · exact .inr (.inr ⟨z, e, fun u => i _ (p u)⟩)
theorem RDs.at {vs : List V} {ds : List Dv} (r : RDs K mg F ps vs ds) {i : Nat} {x : V} (e : vs[i]? = some x) : ∃ d, ds[i]? = some d ∧ RD K mg F ps x d := by
  have hi : i < ds.length := by rw [← r.length]; exact (List.getElem?_eq_some_iff.mp e).1
  obtain ⟨y, e2, r2⟩ := r.get (show ds[i]? = some ds[i] by simp [hi])
  rw [e] at e2; cases e2
  exact ⟨_, by simp [hi], r2⟩
variable {Gk F0 : Hp} {ps0 : List Addr} {k k2 : Kd} {ds ds2 : List Dv}
theorem KAt.yldP (h : KAt K mg Gk F0 ps0 k ds) : Yld K mg Gk F0 ps0 (ItP K k) ds := by
  intro G F H ps L g x J
  obtain ⟨xs, hk, rs⟩ := h G F H ps L g x J
  have el := rs.length
  cases k with
  | l a =>
    refine ⟨fun i hi => ⟨xs, xs[i]'(by omega), hk, by simp [el, hi]⟩, ⟨xs, hk, by omega⟩, fun i y H' hi hy => ?_⟩
    obtain ⟨rfl, q⟩ := hy
    obtain ⟨d, e, r⟩ := rs.at (q xs hk)
    exact ⟨d, F, e, Ext.refl _ _, J, r⟩
  | t a =>
    refine ⟨fun i hi => ⟨xs, xs[i]'(by omega), hk, by simp [el, hi]⟩, ⟨xs, hk, by omega⟩, fun i y H' hi hy => ?_⟩
    obtain ⟨rfl, q⟩ := hy
    obtain ⟨d, e, r⟩ := rs.at (q xs hk)
    exact ⟨d, F, e, Ext.refl _ _, J, r⟩
  | s z u =>
    have hk' : xs = chars z := hk
    subst hk'
    have ez : z.cps.size = ds.length := by rw [← el]; simp [chars]
    refine ⟨fun i hi => show i < z.cps.size by omega, show z.cps.size ≤ ds.length by omega, fun i y H' hi hy => ?_⟩
    obtain ⟨rfl, c, ec, rfl⟩ := hy
    obtain ⟨d, e, r⟩ := rs.at (i := i) (x := .str ⟨#[c]⟩) (by simp [chars]; exact ec)
    exact ⟨d, F, e, Ext.refl _ _, J, r⟩
/-- a new pair that stands for ever -/
theorem new_pair {x y : V} {d e : Dv} (J : HS K mg G F H ps L) (rx : RD K mg F ps x d) (ry : RD K mg F ps y e) {T : Addr} (hT : H T = none) :
    ∃ F', Ext F ps F' ps ∧ HS K mg G F' (upd H T (.tup [x, y])) ps L ∧ RD K mg F' ps (.ref T) (.tup [d, e]) := by
  obtain ⟨J2, x2, _⟩ := J.grow (o := .tup [x, y]) hT
  exact ⟨_, x2, J2, .tup upd_same (show 2 ≤ sizeLine by decide) (.cons (rx.ext x2) (.cons (ry.ext x2) .nil))⟩
theorem KAt.yldE (h : KAt K mg Gk F0 ps0 k ds) : Yld K mg Gk F0 ps0 (ItE K k) (enumF 0 ds) := by
  intro G F H ps L g x J
  obtain ⟨xs, hk, rs⟩ := h G F H ps L g x J
  have el := rs.length
  rw [enumF_length]
  refine ⟨fun i hi => ⟨xs, xs[i]'(by omega), hk, by simp [el, hi]⟩, ⟨xs, hk, by omega⟩, fun i y H' hi hy => ?_⟩
  obtain ⟨T, y, rfl, hT, rfl, q⟩ := hy
  obtain ⟨d, e, r⟩ := rs.at (q xs hk)
  obtain ⟨F', x', J', r'⟩ := new_pair J (.int i) r hT
  exact ⟨_, F', by rw [enumF_get, e, Nat.zero_add]; rfl, x', J', r'⟩
theorem KAt.yldZ (h : KAt K mg Gk F0 ps0 k ds) (h2 : KAt K mg Gk F0 ps0 k2 ds2) : Yld K mg Gk F0 ps0 (ItZ K k k2) (zipF ds ds2) := by
  intro G F H ps L g x J
  obtain ⟨xs, hk, rs⟩ := h G F H ps L g x J
  obtain ⟨ys, hk2, rs2⟩ := h2 G F H ps L g x J
  have el := rs.length
  have el2 := rs2.length
  have ez : (zipF ds ds2).length = min xs.length ys.length := by simp [zipF, el, el2]
  rw [ez]
  refine ⟨fun i hi => ⟨xs, ys, xs[i]'(by omega), ys[i]'(by omega), hk, hk2, by rw [List.getElem?_eq_getElem], by rw [List.getElem?_eq_getElem]⟩, ⟨xs, ys, hk, hk2, rfl⟩, fun i v H' hi hy => ?_⟩
  obtain ⟨T, y, z, rfl, hT, rfl, q, q2⟩ := hy
  obtain ⟨d, e, r⟩ := rs.at (q xs hk)
  obtain ⟨d2, e2, r2⟩ := rs2.at (q2 ys hk2)
  obtain ⟨F', x', J', r'⟩ := new_pair J r r2 hT
  exact ⟨_, F', by simp [zipF, e, e2, List.getElem?_zipWith], x', J', r'⟩
theorem KAt.weak {Gk' : Hp} (h : KAt K mg Gk F0 ps0 k ds) (g : Same Gk Gk') : KAt K mg Gk' F0 ps0 k ds := fun G F H ps L g' x J => h G F H ps L (g.trans g') x J
theorem KAt.ext {F1 : Hp} {ps1 : List Addr} (h : KAt K mg Gk F0 ps0 k ds) (x : Ext F0 ps0 F1 ps1) : KAt K mg Gk F1 ps1 k ds := fun G F H ps L g x' J => h G F H ps L g (x.trans x') J
end
def iV (fe : DM Sv) : DM Src := fun ρ L => (fe ρ L).bind fun s L1 => give s.src L1
def iEn (fe : DM Sv) : DM Src := fun ρ L => (fe ρ L).bind fun s L1 => give (s.src.map fun z => ⟨enumF 0 z.items, z.solid⟩) L1
def iZp (fa fb : DM Sv) : DM Src := fun ρ L => (fa ρ L).bind fun x L1 => (fb ρ L1).bind fun y L2 => give (match x.src, y.src with | some p, some q => some ⟨zipF p.items q.items, p.solid && q.solid⟩ | _, _ => none) L2
def upF (lo : Int) (n : Nat) : List Dv := (List.range n).map fun (i : Nat) => .int (lo + i)
def rgOk (i j : Int) : Prop := -(2 ^ 62) ≤ i ∧ i < 2 ^ 62 ∧ -(2 ^ 62) ≤ j ∧ j < 2 ^ 62
instance (i j : Int) : Decidable (rgOk i j) := inferInstanceAs (Decidable (_ ∧ _ ∧ _ ∧ _))
def iR1 (fa : DM Sv) : DM Src := fun ρ L => (fa ρ L).bind fun s L1 => match s with
  | .val (.int j) => if rgOk 0 j then .ok ⟨upF 0 j.toNat, true⟩ L1 else .bad
  | _ => .bad
def iR2 (fa fb : DM Sv) : DM Src := fun ρ L => (fa ρ L).bind fun s L1 => (fb ρ L1).bind fun t L2 => match s, t with
  | .val (.int i), .val (.int j) => if rgOk i j then .ok ⟨upF i (j - i).toNat, true⟩ L2 else .bad
  | _, _ => .bad
section
variable {X : Cx} {W : WX} {tg e e2 : Expr} {fe fa fb : DM Sv} {p pos tpos : Pos} {elts : List Expr} {kk : Nat}
theorem tE_unf {K : PySem.W.Frag} {mg : Str → Option Value} {σ : List (Option V)} {H : Hp} {Q : VK} {G0 G F : Hp} {ps : List Addr} {ρ : Slo} {L : Led} (g0 : Same G0 G) (I : HS K mg G F H ps L) (S : Slots K mg G0 G F ps σ ρ) {P : Sv → Led → Prop} {E : Exn → Slo → Led → Prop}
    (h : (fe ρ L).wp P E) (hP : ∀ s L1, P s L1 → QE K mg G F ps Q s L1) (hE : ∀ e r L1, E e r L1 → EE K mg G0 F ps W e r L1) : tE K mg W fe σ H Q := ⟨G0, G, F, ps, ρ, L, g0, I, S, Res.wp_mono h hP hE⟩
theorem di_val (he : DE X W e fe) : DI X W tg e (iV fe) := imI (pi_src he) fun σ H R h => by
  obtain ⟨G0, G, F, ps, ρ, L, g0, I, S, h⟩ := h
  refine tE_unf g0 I S (Res.wp_bind h) (fun s L1 h1 v F1 H1 p1 x1 I1 r1 => ?_) fun e r L' q => q
  obtain ⟨z, ez, q⟩ := give_wp h1
  exact SrcR.imp (src_of I1 r1 ez) fun k hk => q _ F1 H1 p1 x1 I1 hk.yldP
theorem di_enum (hg : Gl X "enumerate") (hm : X.mg "enumerate" = none) (he : DE X W e fe) (hs : starEach [e] X.env = [(false, eval e X.env)] := by rfl) : DI X W (.Tuple elts kk tpos) (.Call (.Name "enumerate" p) [e] [] pos) (iEn fe) :=
  imI (pi_enumK hg hm (pa_cons he pa_nil hs) hs) fun σ H R h => by
    obtain ⟨G0, G, F, ps, ρ, L, g0, I, S, h⟩ := h
    refine tE_unf g0 I S (Res.wp_bind h) (fun s L1 h1 v F1 H1 p1 x1 I1 r1 => ?_) fun e r L' q => q
    obtain ⟨z, ez, q⟩ := give_wp h1
    cases hz : s.src with
    | none => rw [hz] at ez; cases ez
    | some z0 =>
      rw [hz] at ez; cases ez
      exact ⟨v, rfl, SrcR.imp (src_of I1 r1 hz) fun k hk => q _ F1 H1 p1 x1 I1 hk.yldE⟩
theorem di_zip (hg : Gl X "zip") (hm : X.mg "zip" = none) (ha : DE X W e fa) (hb : DE X W e2 fb)
    (hs : starEach [e, e2] X.env = (false, eval e X.env) :: starEach [e2] X.env := by rfl) (hs2 : starEach [e2] X.env = (false, eval e2 X.env) :: starEach [] X.env := by rfl) (hpl : (backTo pos (starEach [e2] X.env)).any (·.1) = false := by rfl) :
    DI X W (.Tuple elts kk tpos) (.Call (.Name "zip" p) [e, e2] [] pos) (iZp fa fb) :=
  imI (pi_zipK hg hm (pa_cons ha (pa_cons hb pa_nil hs2) hs) hs hpl) fun σ H R h => by
    obtain ⟨G0, G, F, ps, ρ, L, g0, I, S, h⟩ := h
    refine tE_unf g0 I S (Res.wp_bind h) (fun s L1 h1 v F1 H1 p1 x1 I1 r1 => ?_) fun e r L' q => q
    refine tE_unf g0 I1 (S.ext x1) (Res.wp_bind h1) (fun s2 L2 h2 v2 F2 H2 p2 x2 I2 r2 => ?_) fun e r L' q => EE.ext x1 q
    obtain ⟨z, ez, q⟩ := give_wp h2
    cases hz : s.src with
    | none => rw [hz] at ez; cases ez
    | some z0 =>
      cases hz2 : s2.src with
      | none => rw [hz, hz2] at ez; cases ez
      | some z1 =>
        rw [hz, hz2] at ez; cases ez
        refine ⟨v, v2, rfl, SrcR.imp (src_of I2 (r1.ext x2) hz) fun k hk => SrcR.imp (src_of I2 r2 hz2) fun k2 hk2 => q _ F2 H2 p2 (x1.trans x2) I2 ?_⟩
        refine KAt.yldZ (hk.weak ?_) (hk2.weak ?_)
        · cases z0.solid <;> cases z1.solid <;> first | exact ne_noH | exact Same.refl _
        · cases z0.solid <;> cases z1.solid <;> first | exact ne_noH | exact Same.refl _
theorem yld_range {K : PySem.W.Frag} {mg : Str → Option Value} {Gk F0 : Hp} {ps0 : List Addr} {lo : Int} {n : Nat} : Yld K mg Gk F0 ps0 (Itr lo n) (upF lo n) := by
  intro G F H ps L g x J
  have el : (upF lo n).length = n := by simp [upF]
  rw [el]
  refine ⟨fun i hi => hi, Nat.le_refl _, fun i y H' hi hy => ?_⟩
  obtain ⟨rfl, rfl⟩ := hy
  exact ⟨.int (lo + i), F, by simp [upF, hi], Ext.refl _ _, J, .int _⟩
theorem di_range1 (hg : Gl X "range") (hm : X.mg "range" = none) (he : DE X W e fe) (hs : starEach [e] X.env = [(false, eval e X.env)] := by rfl) : DI X W tg (.Call (.Name "range" p) [e] [] pos) (iR1 fe) :=
  imI (pi_range1 hg hm (pa_cons he pa_nil hs) hs) fun σ H R h => by
    obtain ⟨G0, G, F, ps, ρ, L, g0, I, S, h⟩ := h
    refine tE_unf g0 I S (Res.wp_bind h) (fun s L1 h1 v F1 H1 p1 x1 I1 r1 => ?_) fun e r L' q => q
    split at h1
    · rename_i j
      split at h1
      · rename_i hj
        rw [xv_int r1]
        exact ⟨j, rfl, hj.2.2.1, hj.2.2.2, h1 _ F1 H1 p1 x1 I1 yld_range⟩
      · exact h1.elim
    · exact h1.elim
theorem di_range2 (hg : Gl X "range") (hm : X.mg "range" = none) (ha : DE X W e fa) (hb : DE X W e2 fb) (hs : starEach [e, e2] X.env = [(false, eval e X.env), (false, eval e2 X.env)] := by rfl) (hs2 : starEach [e2] X.env = [(false, eval e2 X.env)] := by rfl) :
    DI X W tg (.Call (.Name "range" p) [e, e2] [] pos) (iR2 fa fb) :=
  imI (pi_range2 hg hm (pa_cons ha (pa_cons hb pa_nil hs2) (by rw [hs, hs2])) hs hs2) fun σ H R h => by
    obtain ⟨G0, G, F, ps, ρ, L, g0, I, S, h⟩ := h
    refine tE_unf g0 I S (Res.wp_bind h) (fun s L1 h1 v F1 H1 p1 x1 I1 r1 => ?_) fun e r L' q => q
    refine tE_unf g0 I1 (S.ext x1) (Res.wp_bind h1) (fun s2 L2 h2 v2 F2 H2 p2 x2 I2 r2 => ?_) fun e r L' q => EE.ext x1 q
    split at h2
    · rename_i i j
      split at h2
      · rename_i hj
        rw [xv_int (r1.ext x2), xv_int r2]
        exact ⟨i, j, rfl, hj, h2 _ F2 H2 p2 (x1.trans x2) I2 yld_range⟩
      · exact h2.elim
    · exact h2.elim
end
/-! ### targets of loops -/
inductive Tg where
  | one (i : Nat) | tup (is : List Nat)
namespace Tg
def set : Tg → Dv → Slo → Option Slo
  | .one i, d, ρ => some (ρ.set i (some (.val d)))
  | .tup is, .tup ds, ρ => gNs is ds ρ
  | _, _, _ => none
def read (K : PySem.W.Frag) : Tg → TG
  | .one i => gName i
  | .tup is => gTup K is.length (tNms is)
def ix : Tg → List Nat
  | .one i => [i]
  | .tup is => is
end Tg
theorem gNs_len : ∀ {is : List Nat} {ds : List Dv} {ρ ρ' : Slo}, gNs is ds ρ = some ρ' → ds.length = is.length
  | [], [], _, _, _ => rfl
  | [], _ :: _, _, _, e => by cases e
  | _ :: _, [], _, _, e => by cases e
  | _ :: is, _ :: ds, _, _, e => by simp [gNs_len (is := is) (ds := ds) e]
theorem wipe_get (σ : List (Option V)) (i : Nat) : ∀ vs : List Nat, (wipe σ vs)[i]? = if i ∈ vs then σ[i]?.map fun _ => none else σ[i]?
  | [] => by simp [wipe]
  | v :: vs => by
    have ih := wipe_get σ i vs
    by_cases h : v = i
    · subst h
      have hl := wipe_length σ vs
      rw [if_pos (by simp)]
      show ((wipe σ vs).set v none)[v]? = _
      by_cases hv : v < σ.length
      · rw [List.getElem?_set_self (by omega)]; simp [hv]
      · rw [List.getElem?_eq_none (by simp; omega)]; simp [hv]
    · show ((wipe σ vs).set v none)[i]? = _
      rw [List.getElem?_set_ne h, ih]
      simp [Ne.symm h]
theorem wipe_wipe (σ : List (Option V)) (vs : List Nat) : wipe (wipe σ vs) vs = wipe σ vs := by
  refine List.ext_getElem? fun j => ?_
  rw [wipe_get]
  by_cases h : j ∈ vs
  · rw [if_pos h, wipe_get, if_pos h, Option.map_map]; rfl
  · rw [if_neg h]
theorem wipe_set {σ : List (Option V)} {i : Nat} {o : Option V} {vs : List Nat} (h : i ∈ vs) : wipe (σ.set i o) vs = wipe σ vs := by
  refine List.ext_getElem? fun j => ?_
  rw [wipe_get, wipe_get]
  by_cases e : i = j
  · subst e
    rw [if_pos h, if_pos h]
    by_cases hi : i < σ.length
    · rw [List.getElem?_set_self hi]; simp [hi]
    · rw [List.getElem?_eq_none (by simp; omega), List.getElem?_eq_none (by omega)]
  · rw [List.getElem?_set_ne e]
section
variable {K : PySem.W.Frag} {mg : Str → Option Value} {G0 G F H : Hp} {ps : List Addr} {L : Led}
theorem tNms_run {vs : List Nat} : ∀ {is : List Nat} {us : List V} {ds : List Dv} {σ : List (Option V)} {ρ ρ' : Slo} {Q : List (Option V) → Hp → Prop}, RDs K mg F ps us ds → gNs is ds ρ = some ρ' → Slots K mg G0 G F ps σ ρ →
    (∀ σ', Slots K mg G0 G F ps σ' ρ' → ((∀ i ∈ is, i ∈ vs) → wipe σ' vs = wipe σ vs) → Q σ' H) → tNms is us σ H Q
  | [], _, [], _, _, _, _, .nil, e, S, h => ⟨rfl, h _ (by cases e; exact S) fun _ => rfl⟩
  | [], _, _ :: _, _, _, _, _, _, e, _, _ => by cases e
  | _ :: _, _, [], _, _, _, _, _, e, _, _ => by cases e
  | i :: is, _, _ :: _, _, _, _, _, .cons r rr, e, S, h => ⟨_, _, rfl, tNms_run rr e (S.set i r rfl) fun σ' S' w => h σ' S' fun q => (w fun j hj => q j (List.mem_cons_of_mem _ hj)).trans (wipe_set (q i List.mem_cons_self))⟩
theorem Tg.run {T : Tg} {v : V} {d : Dv} {σ : List (Option V)} {ρ ρ' : Slo} {vs : List Nat} {Q : List (Option V) → Hp → Prop} (J : HS K mg G F H ps L) (r : RD K mg F ps v d) (S : Slots K mg G0 G F ps σ ρ) (e : T.set d ρ = some ρ')
    (h : ∀ σ', Slots K mg G0 G F ps σ' ρ' → ((∀ i ∈ T.ix, i ∈ vs) → wipe σ' vs = wipe σ vs) → Q σ' H) : T.read K v σ H Q := by
  cases T with
  | one i => cases e; exact h _ (S.set i r rfl) fun q => wipe_set (q i (by simp [Tg.ix]))
  | tup is =>
    cases d with
    | tup ds =>
      obtain ⟨p, us, rfl, fp, hp, z, rs⟩ := xv_tup J r
      exact ⟨p, us, rfl, SqT.of hp, by rw [rs.length, gNs_len e], tNms_run rs e S h⟩
    | _ => cases e
end
abbrev DTg (X : Cx) (tg : Expr) (T : Tg) : Prop := PG X tg (T.read X.K)
section
variable {X : Cx} {pos : Pos}
theorem dtg_name (i : Nat) {x : Str} (hN : X.N.Nodup) (hi : X.N[i]? = some x) (hx : Loc X.env.scope x) (hf : X.fn x = true ∨ X.env.scope.names.lookup x = some .local := by first | exact .inl rfl | exact .inr rfl | assumption) : DTg X (.Name x pos) (.one i) := pg_name hN hi hx hf
theorem dtg_tup {es : List Expr} {k : Nat} {is : List Nat} (hc : X.calm = true) (hN : X.N.Nodup) (h : NmOk X es is) (hn : (assignEach es X.env).length = is.length := by rfl) (hst : (assignEach es X.env).findIdx? (·.1) = none := by rfl) : DTg X (.Tuple es k pos) (.tup is) := pg_tup (n := is.length) hc (pgs_names hN h) hn hst
end
/-! ### for -/
def fLoop (T : Tg) (fb : DM Fl) : List Dv → DM Fl
  | [], ρ, L => .ok (.nx ρ) L
  | d :: ds, ρ, L => match T.set d ρ with
    | none => .bad
    | some ρ1 => (fb ρ1 L).bind fun fl L1 => match fl with
      | .nx r => fLoop T fb ds r L1
      | .ct r => fLoop T fb ds r L1
      | .bk r => .ok (.nx r) L1
      | .rt d => .ok (.rt d) L1
def sFor (fi : DM Src) (T : Tg) (fb : DM Fl) : DM Fl := fun ρ L => (fi ρ L).bind fun s L1 => if s.solid then fLoop T fb s.items ρ L1 else .bad
section
variable {X : Cx} {W : WX} {tg iter : Expr} {body : List Stmt} {fi : DM Src} {T : Tg} {fb : DM Fl} {pos : Pos}
theorem ds_for (hp : PassesOwn (model X.prog X.w) X.A X.env X.xe) (hc : X.calm = true) (hi : DI X W tg iter fi) (hg : DTg X tg T) (hb : DSs X W body fb)
    (hs : ∀ x, foldedSetIterable iter X.env x = pure x := by intro _; rfl) : DS X W (.For tg iter body [] pos) (sFor fi T fb) := imS (ps_for hp hc hi hg hb hs) fun D σ H h => by
  obtain ⟨G0, G, F, ps, ρ, L, g0, I, S, h⟩ := h
  refine ⟨G0, G, F, ps, ρ, L, g0, I, S, Res.wp_mono (Res.wp_bind h) (fun s L1 h1 J F1 H1 p1 x1 I1 y1 => ?_) fun e r L' q => q⟩
  split at h1
  · rename_i hsol
    rw [if_pos hsol] at y1
    refine ⟨fun i m σ' H' => i ≤ s.items.length ∧ m = s.items.length - i ∧ ∃ G' F' ps' ρ' L', Same G0 G' ∧ Ext F1 p1 F' ps' ∧ HS X.K X.mg' G' F' H' ps' L' ∧ Slots X.K X.mg' G0 G' F' ps' σ' ρ' ∧ (fLoop T fb (s.items.drop i) ρ' L').wp (QS X.K X.mg' G0 F ps D) (EE X.K X.mg' G0 F ps W),
      ⟨_, Nat.zero_le _, rfl, G, F1, p1, ρ, L1, g0, Ext.refl _ _, I1, S.ext x1, h1⟩, ?_⟩
    rintro i m σ' H' ⟨hi, rfl, G', F', ps', ρ', L', g', x', I', S', q⟩
    obtain ⟨go, st, yl⟩ := y1 G' F' H' ps' L' ne_noH x' I'
    by_cases hlt : i < s.items.length
    · refine .inr ⟨go i hlt, fun σ2 H2 => i + 1 ≤ s.items.length ∧ ∃ G' F' ps' ρ' L', Same G0 G' ∧ Ext F1 p1 F' ps' ∧ HS X.K X.mg' G' F' H2 ps' L' ∧ Slots X.K X.mg' G0 G' F' ps' σ2 ρ' ∧ (fLoop T fb (s.items.drop (i + 1)) ρ' L').wp (QS X.K X.mg' G0 F ps D) (EE X.K X.mg' G0 F ps W), fun σ2 H2 ⟨a, b⟩ => ⟨_, by omega, a, rfl, b⟩, fun x H2 hy => ?_⟩
      obtain ⟨d, F2, ed, x2, I2, r2⟩ := yl i x H2 hlt hy
      have hd : s.items.drop i = d :: s.items.drop (i + 1) := by
        have e2 := List.getElem?_eq_some_iff.mp ed
        rw [List.drop_eq_getElem_cons hlt, e2.2]
      rw [hd] at q
      unfold fLoop at q
      split at q
      · exact q.elim
      · rename_i ρ1 hρ
        refine Tg.run (vs := []) I2 r2 (S'.ext x2) hρ fun σ3 S3 _ => ?_
        have xx := x'.trans x2
        refine ⟨G0, G', F2, ps', ρ1, L', g', I2, S3, Res.wp_mono (Res.wp_bind q) (fun fl L3 h3 => ?_) fun e r L3 q3 => EE.ext (x1.trans xx) q3⟩
        cases fl with
        | nx r => exact fun σ4 G4 F4 H4 p4 g4 x4 I4 S4 => ⟨hlt, G4, F4, p4, r, L3, g4, xx.trans x4, I4, S4, h3⟩
        | ct r => exact fun σ4 G4 F4 H4 p4 g4 x4 I4 S4 => ⟨hlt, G4, F4, p4, r, L3, g4, xx.trans x4, I4, S4, h3⟩
        | bk r => exact QS.ext (f := .nx r) (x1.trans xx) h3
        | rt d => exact QS.ext (f := .rt d) (x1.trans xx) h3
    · have e : i = s.items.length := by omega
      subst e
      rw [List.drop_length] at q
      refine .inl ⟨st, ?_⟩
      unfold fLoop at q
      exact q σ' G' F' H' ps' g' (x1.trans x') I' S'
  · exact h1.elim
end
/-! ### comprehensions -/
def noErr {α : Type} (r : Res α) : Res α := match r with
  | .err _ _ _ => .bad
  | o => o
@[simp] theorem noErr_ok {α : Type} {a : α} {L : Led} : noErr (.ok a L) = .ok a L := rfl
theorem noErr_wp {α : Type} {r : Res α} {P : α → Led → Prop} {E E' : Exn → Slo → Led → Prop} (h : (noErr r).wp P E) : r.wp P E' := by
  cases r with
  | ok a L => exact h
  | err e s L => exact h.elim
  | bad => exact h.elim
def wipeR (ρ : Slo) : List Nat → Slo
  | [] => ρ
  | v :: vs => (wipeR ρ vs).set v none
def cLoop (T : Tg) (ft : DM Bool) (fe : DM Sv) (ρ : Slo) : List Dv → List Dv → Led → Res (List Dv)
  | [], acc, L => .ok acc L
  | d :: ds, acc, L => match T.set d ρ with
    | none => .bad
    | some ρ1 => (ft ρ1 L).bind fun b L1 => if b then (fe ρ1 L1).bind fun s L2 => match s with
        | .val y => if acc.length < sizeLine then cLoop T ft fe ρ ds (acc ++ [y]) L2 else .bad
        | _ => .bad
      else cLoop T ft fe ρ ds acc L1
def dLc (fi : DM Src) (T : Tg) (ft : DM Bool) (fe : DM Sv) (vs : List Nat) : DM Sv := fun ρ L => (fi ρ L).bind fun s L1 => (noErr (cLoop T ft fe (wipeR ρ vs) s.items [] L1)).bind fun acc L2 => .ok (.val (.lst acc)) L2
section
variable {K : PySem.W.Frag} {mg : Str → Option Value} {G0 G F H : Hp} {ps : List Addr} {L : Led} {σ : List (Option V)} {ρ : Slo}
theorem Slots.wipe (S : Slots K mg G0 G F ps σ ρ) : ∀ vs : List Nat, Slots K mg G0 G F ps (L2.wipe σ vs) (wipeR ρ vs)
  | [] => S
  | v :: vs => (Slots.wipe S vs).forget v none
end
def wNo : WX := fun _ _ _ _ => False
def dTr : DM Bool := fun _ L => .ok true L
abbrev DTs (X : Cx) (W : WX) (ifs : List Expr) (f : DM Bool) : Prop := PTs X ifs (tT X.K X.mg' W f)
theorem blk_mg {X : Cx} (hc : X.calm = true) {s : Shared} {H : Hp} {scope : Scope} {cenv : Env} {fp : List Addr} : (X.blk s H scope cenv fp).mg' = X.mg' := by
  rw [calm_mg hc, calm_mg (X := X.blk s H scope cenv fp) hc]
theorem imTs {X : Cx} {e : List Expr} {t t' : TT} (p : PTs X e t) (h : ∀ σ H Q, t' σ H Q → t σ H Q) : PTs X e t' := ⟨fun pins s σ H Q I w => p.run pins s σ H Q I (h σ H Q w)⟩
theorem dts_nil {X : Cx} {W : WX} : PTs X [] (tT X.K X.mg' W dTr) := ⟨fun pins s σ H Q I h => by
  obtain ⟨G0, G, F, ps, ρ, L, g0, J, S, h⟩ := h
  exact pts_nil.run pins s σ H Q I (h F H ps (Ext.refl _ _) J)⟩
theorem dts_one {X : Cx} {W : WX} {c : Expr} {ft : DM Bool} (h : DT X W c ft) : PTs X [c] (tT X.K X.mg' W ft) := pts_one h
section
variable {X : Cx} {W : WX} {elt tg iter : Expr} {ifs : List Expr} {scope : Scope} {own : List (Str × Nat)} {pos : Pos} {fi : DM Src} {T : Tg} {ft : DM Bool} {fe : DM Sv}
/-- the comprehension's block from its parts -/
theorem tLc_of {Q : VK} {σ : List (Option V)} {H : Hp} {K : PySem.W.Frag} {mg : Str → Option Value} {vs : List Nat} (hT : ∀ i ∈ T.ix, i ∈ vs) (h : tE K mg W (dLc fi T ft fe vs) σ H Q) : tLc (tI K mg W fi) (T.read K) (tT K mg wNo ft) (tE K mg wNo fe) vs σ H Q := by
  obtain ⟨G0, G, F, ps, ρ, L, g0, I, S, h⟩ := h
  refine ⟨G0, G, F, ps, ρ, L, g0, I, S, Res.wp_mono (Res.wp_bind h) (fun s L1 h1 J F1 H1 p1 x1 I1 y1 D hD => ?_) fun e r L' q => q⟩
  have gD : G D = none := I1.frame.free hD
  have sG : ∀ u : HO, Same G (upd G D u) := fun u b o e => by rw [upd_ne (ne_of_none e gD)]; exact e
  have sK : ∀ u : HO, Same (if s.solid then noH else G) (upd G D u) := fun u => by
    cases s.solid
    · exact sG u
    · exact ne_noH
  refine ⟨fun i m H' => i ≤ s.items.length ∧ m = s.items.length - i ∧ ∃ F' ps' us acc L', Ext F1 p1 F' ps' ∧ HS K mg (upd G D (.lst us)) F' H' ps' L' ∧ us.length ≤ sizeLine ∧ RDs K mg F' ps' us acc ∧ (noErr (cLoop T ft fe (wipeR ρ vs) (s.items.drop i) acc L')).wp (fun acc L2 => QE K mg G F ps Q (.val (.lst acc)) L2) (EE K mg G0 F ps W),
    ⟨_, Nat.zero_le _, rfl, F1, p1, [], [], L1, Ext.refl _ _, I1.hold hD, Nat.zero_le _, .nil, Res.wp_bind h1⟩, ?_⟩
  rintro i m H' ⟨hi, rfl, F', ps', us, acc, L', x', I', z', rs, q⟩
  obtain ⟨go, st, yl⟩ := y1 _ F' H' ps' L' (sK _) x' I'
  by_cases hlt : i < s.items.length
  · refine .inr ⟨go i hlt, fun H2 => i + 1 ≤ s.items.length ∧ ∃ F' ps' us acc L', Ext F1 p1 F' ps' ∧ HS K mg (upd G D (.lst us)) F' H2 ps' L' ∧ us.length ≤ sizeLine ∧ RDs K mg F' ps' us acc ∧ (noErr (cLoop T ft fe (wipeR ρ vs) (s.items.drop (i + 1)) acc L')).wp (fun acc L2 => QE K mg G F ps Q (.val (.lst acc)) L2) (EE K mg G0 F ps W), fun H2 ⟨a, b⟩ => ⟨_, by omega, a, rfl, b⟩, fun x H2 hy => ?_⟩
    obtain ⟨d, F2, ed, x2, I2, r2⟩ := yl i x H2 hlt hy
    have hd : s.items.drop i = d :: s.items.drop (i + 1) := by
      have e2 := List.getElem?_eq_some_iff.mp ed
      rw [List.drop_eq_getElem_cons hlt, e2.2]
    rw [hd] at q
    unfold cLoop at q
    have xx := x1.trans (x'.trans x2)
    split at q
    · exact q.elim
    · rename_i ρ1 hρ
      have SS : Slots K mg G0 (upd G D (.lst us)) F2 ps' (wipe σ vs) (wipeR ρ vs) := ((S.ext xx).gr (sG _)).wipe vs
      refine Tg.run (vs := vs) I2 r2 SS hρ fun σ3 S3 w3 => ⟨(w3 hT).trans (wipe_wipe σ vs), ?_⟩
      have gg : Same G0 (upd G D (.lst us)) := g0.trans (sG _)
      refine ⟨G0, _, F2, ps', ρ1, L', gg, I2, S3, Res.wp_mono (Res.wp_bind (noErr_wp (E' := fun _ _ _ => False) q)) (fun b L3 h3 F3 H3 p3 x3 I3 => ?_) fun e r L3 q3 => q3.elim⟩
      cases b with
      | true =>
        rw [if_pos rfl] at h3 ⊢
        refine ⟨G0, _, F3, p3, ρ1, L3, gg, I3, S3.ext x3, Res.wp_mono (Res.wp_bind h3) (fun t L4 h4 y F4 H4 p4 x4 I4 r4 => ?_) fun e r L3 q3 => q3.elim⟩
        split at h4
        · rename_i yd
          split at h4
          · rename_i hz
            have xt := x2.trans (x3.trans x4)
            refine ⟨us, I4.frame _ _ upd_same, by rw [rs.length]; exact hz, hlt, F4, p4, us ++ [y], acc ++ [yd], L4, x'.trans xt, ?_, by rw [List.length_append, rs.length]; exact hz, (rs.ext xt).append (.one r4), ?_⟩
            · have I5 := I4.write (u := .lst (us ++ [y])) (upd_same (H := G)) fun _ q => by cases q
              refine I5.weak fun b o e => ?_
              by_cases hb : b = D
              · subst hb; rw [upd_same] at e ⊢; exact e
              · rw [upd_ne hb] at e; rw [upd_ne hb, upd_ne hb]; exact e
            · cases hc : cLoop T ft fe (wipeR ρ vs) (s.items.drop (i + 1)) (acc ++ [yd]) L4 with
              | ok a L5 => rw [hc] at h4; exact h4
              | err e r L5 => rw [hc] at h4; exact h4.elim
              | bad => rw [hc] at h4; exact h4.elim
          · exact h4.elim
        · exact h4.elim
      | false =>
        rw [if_neg Bool.false_ne_true] at h3 ⊢
        have xt := x2.trans x3
        refine ⟨hlt, F3, p3, us, acc, L3, x'.trans xt, I3, z', rs.ext xt, ?_⟩
        cases hc : cLoop T ft fe (wipeR ρ vs) (s.items.drop (i + 1)) acc L3 with
        | ok a L5 => rw [hc] at h3; exact h3
        | err e r L5 => rw [hc] at h3; exact h3.elim
        | bad => rw [hc] at h3; exact h3.elim
  · have e : i = s.items.length := by omega
    subst e
    rw [List.drop_length] at q
    unfold cLoop at q
    refine .inl ⟨st, ?_⟩
    obtain ⟨I5, x5⟩ := I'.frz (upd_same (H := G) (o := HO.lst us))
    refine q (.ref D) _ H' ps' (x1.trans (x'.trans x5)) (I5.weak fun b o e => ?_) (.lst upd_same z' (rs.ext x5))
    rw [cut_ne (ne_of_none e gD), upd_ne (ne_of_none e gD)]; exact e
theorem de_lc (hc : X.calm = true) (hN : X.N.Nodup) (hi : DI X W tg iter fi) (ok : BlkOk X.N X.env.scope scope own)
    (hg : ∀ (s : Shared) (H : Hp) (C : Addr) (cl : List (Str × Addr)) (fp : List Addr), DTg (X.blk s H scope (compEnvC scope cl C X.env) fp) tg T)
    (ht : ∀ (s : Shared) (H : Hp) (C : Addr) (cl : List (Str × Addr)) (fp : List Addr), DTs (X.blk s H scope (compEnvC scope cl C X.env) fp) wNo ifs ft)
    (he : ∀ (s : Shared) (H : Hp) (C : Addr) (cl : List (Str × Addr)) (fp : List Addr), DE (X.blk s H scope (compEnvC scope cl C X.env) fp) wNo elt fe) (hT : ∀ i ∈ T.ix, i ∈ own.map (·.2))
    (hs : ∀ x, foldedSetIterable iter X.env x = pure x := by intro _; rfl) {vs : List Nat} (hvs : own.map (·.2) = vs := by rfl) : DE X W (.ListComp elt [⟨tg, iter, ifs, 0⟩] scope pos) (dLc fi T ft fe vs) := by
  subst hvs
  exact imE (pe_lc hc hN hi ok hg (fun s H C cl fp => imTs (t' := tT X.K X.mg' wNo ft) (ht s H C cl fp) fun σ H Q h => by rw [blk_mg hc]; exact h) (fun s H C cl fp => imE (t' := tE X.K X.mg' wNo fe) (he s H C cl fp) fun σ H Q h => by rw [blk_mg hc]; exact h) hs) fun σ H Q h => tLc_of hT h
/-- x = [.. for ..] on one row -/
theorem ds_setLc {i : Nat} {y : Str} {py spos : Pos} (hc : X.calm = true) (hN : X.N.Nodup) (hy : X.N[i]? = some y) (hyl : X.env.scope.names.lookup y = some .local)
    (hsw : swapsWith (.ListComp elt [⟨tg, iter, ifs, 0⟩] scope pos) (some (.Name y py)) spos.line X.env = pure true) (hi : DI X W tg iter fi) (ok : BlkOk X.N X.env.scope scope own)
    (hg : ∀ (s : Shared) (H : Hp) (C : Addr) (cl : List (Str × Addr)) (fp : List Addr), DTg (X.blk s H scope (compEnvC scope cl C X.env) fp) tg T)
    (ht : ∀ (s : Shared) (H : Hp) (C : Addr) (cl : List (Str × Addr)) (fp : List Addr), DTs (X.blk s H scope (compEnvC scope cl C X.env) fp) wNo ifs ft)
    (he : ∀ (s : Shared) (H : Hp) (C : Addr) (cl : List (Str × Addr)) (fp : List Addr), DE (X.blk s H scope (compEnvC scope cl C X.env) fp) wNo elt fe) (hT : ∀ i ∈ T.ix, i ∈ own.map (·.2))
    (hs : ∀ x, foldedSetIterable iter X.env x = pure x := by intro _; rfl) {vs : List Nat} (hvs : own.map (·.2) = vs := by rfl) : DS X W (.Assign [.Name y py] (.ListComp elt [⟨tg, iter, ifs, 0⟩] scope pos) spos) (sSet i (dLc fi T ft fe vs)) := by
  subst hvs
  exact imS (ps_setLc hc hN hy hyl hsw hi ok hg (fun s H C cl fp => imTs (t' := tT X.K X.mg' wNo ft) (ht s H C cl fp) fun σ H Q h => by rw [blk_mg hc]; exact h) (fun s H C cl fp => imE (t' := tE X.K X.mg' wNo fe) (he s H C cl fp) fun σ H Q h => by rw [blk_mg hc]; exact h) hs) fun D σ H h => by
    obtain ⟨G0, G, F, ps, ρ, L, g0, I, S, h⟩ := h
    refine tLc_of (W := W) hT ⟨G0, G, F, ps, ρ, L, g0, I, S, Res.wp_mono (Res.wp_bind h) (fun s L1 h1 v F1 H1 p1 x1 I1 r1 => ?_) fun e r L' q => q⟩
    split at h1
    · exact h1 _ G F1 H1 p1 g0 x1 I1 ((S.ext x1).set i r1 rfl)
    · exact h1.elim
end
end DL

/-! DL, part 10: built-in functions, subscripts, slices. -/
namespace DL
open PySem PySem.Spec PyProof.Rows L2
def CallS (K : PySem.W.Frag) (mg : Str → Option Value) (r : List V → Hp → VK → Prop) (g : List Sv → Led → Option Sv) : Prop :=
  ∀ (G F H : Hp) (ps : List Addr) (L : Led) (xs : List V) (ss : List Sv) (s : Sv) (Q : VK), HS K mg G F H ps L → XvsOk K mg G F ps xs ss → g ss L = some s → QE K mg G F ps Q s L → r xs H Q
def dBi (g : List Sv → Led → Option Sv) (fa : DM (List Sv)) : DM Sv := fun ρ L => (fa ρ L).bind fun ss L1 => give (g ss L1) L1
section
variable {K : PySem.W.Frag} {mg : Str → Option Value} {W : WX} {r r' : List V → Hp → VK → Prop} {g g' : List Sv → Led → Option Sv} {fa : DM (List Sv)}
theorem tCB_of (hs : CallS K mg r g) {σ : List (Option V)} {H : Hp} {Q : VK} (h : tE K mg W (dBi g fa) σ H Q) : tCB r (tA K mg W fa) σ H Q := by
  obtain ⟨G0, G, F, ps, ρ, L, g0, I, S, h⟩ := h
  refine ⟨G0, G, F, ps, ρ, L, g0, I, S, Res.wp_mono (Res.wp_bind h) (fun ss L1 h1 vs F1 H1 p1 x1 I1 r1 => ?_) fun e r L' q => q⟩
  obtain ⟨s, e, q⟩ := give_wp h1
  exact hs G F1 H1 p1 L1 vs ss s Q I1 r1 e (QE.ext x1 q)
theorem CallS.or (h : CallS K mg r g) (h' : CallS K mg r' g') : CallS K mg (fun xs H Q => r xs H Q ∨ r' xs H Q) (fun ss L => (g ss L).or (g' ss L)) := by
  intro G F H ps L xs ss s Q I R e q
  cases h1 : g ss L with
  | some t =>
    simp only [h1, Option.some_or] at e
    exact .inl (h G F H ps L xs ss s Q I R (h1.trans e) q)
  | none =>
    simp only [h1, Option.none_or] at e
    exact .inr (h' G F H ps L xs ss s Q I R e q)
end
section
variable {X : Cx} {W : WX} {x : Str} {p pos : Pos} {e : Expr} {es : List Expr} {id T : String} {r : List V → Hp → VK → Prop} {g : List Sv → Led → Option Sv} {fa : DM (List Sv)}
theorem de_callB (hc : CallR X (.builtin id) r) (hs : CallS X.K X.mg' r g) (hg : Gl X x) (hm : X.mg x = none) (hv : bootBuiltins x = some (.builtin id)) (ha : DA X W (e :: es) fa) (hn : x ≠ "__name__" := by decide) (hdb : (x == ("__debug__" : Str)) = false := by decide)
    (he : starEach (e :: es) X.env = (false, eval e X.env) :: starEach es X.env := by rfl) (hpl : (backTo pos (starEach es X.env)).any (·.1) = false := by rfl) : DE X W (.Call (.Name x p) (e :: es) [] pos) (dBi g fa) :=
  imE (pe_callB hc hg hm hv ha hn hdb he hpl) fun _ _ _ h => tCB_of hs h
theorem de_callTy (hc : CallR X (.type T) r) (hs : CallS X.K X.mg' r g) (hg : Gl X x) (hm : X.mg x = none) (hv : bootBuiltins x = some (.type T)) (ha : DA X W (e :: es) fa) (hn : x ≠ "__name__" := by decide) (hdb : (x == ("__debug__" : Str)) = false := by decide)
    (he : starEach (e :: es) X.env = (false, eval e X.env) :: starEach es X.env := by rfl) (hpl : (backTo pos (starEach es X.env)).any (·.1) = false := by rfl) : DE X W (.Call (.Name x p) (e :: es) [] pos) (dBi g fa) :=
  imE (pe_callTy hc hg hm hv ha hn hdb he hpl) fun _ _ _ h => tCB_of hs h
/-- a built-in type as a value -/
theorem de_ty (hg : Gl X x) (hm : X.mg x = none) (hv : bootBuiltins x = some (.type T)) (hn : x ≠ "__name__" := by decide) (hd : (x == ("__debug__" : Str)) = false := by decide) : DE X W (.Name x pos) (fun _ L => .ok (.val (.ty T)) L) :=
  imE (pe_bltn (v := .ty T) hg hm hv rfl hn hd) fun σ H Q h => by
    obtain ⟨G0, G, F, ps, ρ, L, g0, I, S, h⟩ := h
    exact h _ F H ps (Ext.refl F ps) I (.ty T)
end
/-! ### inversions of argument lists -/
section
variable {K : PySem.W.Frag} {mg : Str → Option Value} {G F H : Hp} {ps : List Addr} {L : Led} {xs : List V} {a b : Sv}
theorem xvs1 (h : XvsOk K mg G F ps xs [a]) : ∃ x, xs = [x] ∧ XvOk K mg G F ps x a := by
  cases h with
  | cons h1 h2 => cases h2; exact ⟨_, rfl, h1⟩
theorem xvs2 (h : XvsOk K mg G F ps xs [a, b]) : ∃ x y, xs = [x, y] ∧ XvOk K mg G F ps x a ∧ XvOk K mg G F ps y b := by
  cases h with
  | cons h1 h2 =>
    cases h2 with
    | cons h2 h3 => cases h3; exact ⟨_, _, rfl, h1, h2⟩
/-- a sequence: a list (for ever, borrowed, the ledger's), a tuple, the script -/
def Sv.seqL (L : Led) : Sv → Option (List Dv)
  | .val (.lst xs) => some xs
  | .bor xs => some xs
  | .val (.scr ns) => some (ns.map .int)
  | .val (.own k) => match L[k]? with
    | some (.lst xs) => some xs
    | _ => none
  | _ => none
def Sv.seqT : Sv → Option (List Dv)
  | .val (.tup xs) => some xs
  | _ => none
theorem xv_own {k : Nat} {v : V} (h : XvOk K mg G F ps v (.val (.own k))) : ∃ p, v = .ref p ∧ ps[k]? = some p := by
  cases h with
  | own h => exact ⟨_, rfl, h⟩
theorem xv_seqL (I : HS K mg G F H ps L) {x : V} (h : XvOk K mg G F ps x a) {ds : List Dv} (e : a.seqL L = some ds) : ∃ p vs, x = .ref p ∧ SqL K H p vs ∧ RDs K mg F ps vs ds := by
  unfold Sv.seqL at e
  split at e
  · cases e
    cases h with
    | lst h z r => exact ⟨_, _, rfl, SqL.of (I.same _ _ h), r⟩
  · cases e
    obtain ⟨p, vs, rfl, hp, z, r⟩ := h
    exact ⟨p, vs, rfl, SqL.of (I.frame _ _ hp), r⟩
  · cases e
    cases h with
    | scr h => exact ⟨_, _, rfl, I.same.seq h, ints_rel _⟩
  · split at e
    · cases e
      rename_i hk
      obtain ⟨p, rfl, hp⟩ := xv_own h
      obtain ⟨vs, e1, z, r⟩ := I.at_ _ p _ hp hk
      exact ⟨p, vs, rfl, SqL.of e1, r⟩
    · cases e
  · cases e
theorem xv_seqT (I : HS K mg G F H ps L) {x : V} (h : XvOk K mg G F ps x a) {ds : List Dv} (e : a.seqT = some ds) : ∃ p vs, x = .ref p ∧ SqT K H p vs ∧ RDs K mg F ps vs ds ∧ x = x := by
  unfold Sv.seqT at e
  split at e
  · cases e
    obtain ⟨p, vs, rfl, fp, hp, z, rs⟩ := xv_tup I h
    exact ⟨p, vs, rfl, SqT.of hp, rs, rfl⟩
  · cases e
end
/-! ### len -/
section
variable {K : PySem.W.Frag} {mg : Str → Option Value}
def gLen (ss : List Sv) (L : Led) : Option Sv := match ss with
  | [a] => match a with
    | .val (.str x) => some (.val (.int x.length))
    | .val (.dic ks) => some (.val (.int ks.length))
    | a => match a.seqL L with
      | some ds => some (.val (.int ds.length))
      | none => match a.seqT with
        | some ds => some (.val (.int ds.length))
        | none => none
  | _ => none
def rLen (K : PySem.W.Frag) : List V → Hp → VK → Prop := fun xs H Q => (∃ x n, xs = [x] ∧ LenV K x H n ∧ Q (.int n) H) ∨ ∃ a kvs, xs = [V.ref a] ∧ Rd H a (.dK kvs) ∧ Q (.int kvs.length) H
theorem call_lenRd {X : Cx} : CallR X (.builtin "len") (fun xs H Q => ∃ a kvs, xs = [V.ref a] ∧ Rd H a (.dK kvs) ∧ Q (.int kvs.length) H) := by
  intro pins s σ H xs us Q I r h
  obtain ⟨a, kvs, rfl, hd, q⟩ := h
  obtain ⟨u, rfl, ru⟩ := vals1 r
  cases ru
  exact d_len I hd fun t s' I' => ⟨.int kvs.length, H, I', ⟨t, rfl⟩, q⟩
theorem call_len' {X : Cx} : CallR X (.builtin "len") (rLen X.K) := CallR.or call_len call_lenRd
theorem RDk.length {F : Hp} {ps : List Addr} : ∀ {ws : List (Key × V)} {ks : List (Key × Dv)}, RDk K mg F ps ws ks → ws.length = ks.length
  | _, _, .nil => rfl
  | _, _, .cons _ _ r => by simp [RDk.length r]
theorem cs_len : CallS K mg (rLen K) gLen := by
  intro G F H ps L xs ss s Q I R e q
  unfold gLen at e
  split at e
  · rename_i a
    obtain ⟨x, rfl, rx⟩ := xvs1 R
    split at e
    · cases e
      obtain ⟨rfl, z⟩ := xv_str rx
      exact .inl ⟨_, _, rfl, ⟨z, rfl⟩, QE.now q I (.int _)⟩
    · cases e
      cases rx with
      | dic h z r => exact .inr ⟨_, _, rfl, Same.rd I.same h, by rw [r.length]; exact QE.now q I (.int _)⟩
    · split at e
      · rename_i ds hds
        cases e
        obtain ⟨p, vs, rfl, hp, rs⟩ := xv_seqL I rx hds
        exact .inl ⟨_, _, rfl, .inl ⟨vs, hp, rfl⟩, by rw [rs.length]; exact QE.now q I (.int _)⟩
      · split at e
        · rename_i ds hds
          cases e
          obtain ⟨p, vs, rfl, hp, rs, _⟩ := xv_seqT I rx hds
          exact .inl ⟨_, _, rfl, .inr ⟨vs, hp, rfl⟩, by rw [rs.length]; exact QE.now q I (.int _)⟩
        · cases e
  · cases e
/-! ### abs, max, min, divmod -/
def g1I (f : Int → Int) (ss : List Sv) (_ : Led) : Option Sv := match ss with
  | [.val (.int i)] => some (.val (.int (f i)))
  | _ => none
def g2I (f : Int → Int → Int) (ss : List Sv) (_ : Led) : Option Sv := match ss with
  | [.val (.int i), .val (.int j)] => some (.val (.int (f i j)))
  | _ => none
theorem cs_1I {f : Int → Int} : CallS K mg (fun xs H Q => ∃ i, xs = [.int i] ∧ Q (.int (f i)) H) (g1I f) := by
  intro G F H ps L xs ss s Q I R e q
  unfold g1I at e
  split at e
  · cases e
    obtain ⟨x, rfl, rx⟩ := xvs1 R
    rw [xv_int rx]
    exact ⟨_, rfl, QE.now q I (.int _)⟩
  · cases e
theorem cs_2I {f : Int → Int → Int} : CallS K mg (fun xs H Q => ∃ i j, xs = [.int i, .int j] ∧ Q (.int (f i j)) H) (g2I f) := by
  intro G F H ps L xs ss s Q I R e q
  unfold g2I at e
  split at e
  · cases e
    obtain ⟨x, y, rfl, rx, ry⟩ := xvs2 R
    rw [xv_int rx, xv_int ry]
    exact ⟨_, _, rfl, QE.now q I (.int _)⟩
  · cases e
def gAbs := g1I fun i => if i < 0 then -i else i
def gMax := g2I fun i j => if j > i then j else i
def gMin := g2I fun i j => if j < i then j else i
instance (i j : Int) : Decidable (CDivP i j) := inferInstanceAs (Decidable (_ ∧ _))
def gDivmod (ss : List Sv) (_ : Led) : Option Sv := match ss with
  | [.val (.int i), .val (.int j)] => if CDivP i j then some (.val (.tup [.int (i / j), .int (i % j)])) else none
  | _ => none
theorem cs_divmod : CallS K mg (fun xs H Q => ∃ i j, xs = [.int i, .int j] ∧ CDivP i j ∧ ∀ p, H p = none → Q (.ref p) (upd H p (.tup [.int (i / j), .int (i % j)]))) gDivmod := by
  intro G F H ps L xs ss s Q I R e q
  unfold gDivmod at e
  split at e
  · split at e
    · rename_i hc
      cases e
      obtain ⟨x, y, rfl, rx, ry⟩ := xvs2 R
      rw [xv_int rx, xv_int ry]
      exact ⟨_, _, rfl, hc, QE.newT q I (show 2 ≤ sizeLine by decide) (.cons (.int _) (.cons (.int _) .nil))⟩
    · cases e
  · cases e
/-! ### all, any -/
def bools : List Dv → Option (List Bool)
  | [] => some []
  | .bl b :: ds => (bools ds).map (b :: ·)
  | _ => none
theorem bools_rel {F : Hp} {ps : List Addr} : ∀ {ds : List Dv} {bs : List Bool} {vs : List V}, bools ds = some bs → RDs K mg F ps vs ds → vs = bs.map V.bl
  | [], _, _, e, .nil => by cases e; rfl
  | .bl b :: ds, bs, _, e, .cons h r => by
    cases hb : bools ds with
    | none => simp [bools, hb] at e
    | some cs =>
      simp [bools, hb] at e
      subst e
      cases h
      rw [bools_rel hb r]; rfl
theorem bools_map (bs : List Bool) : bools (bs.map Dv.bl) = some bs := by
  induction bs with
  | nil => rfl
  | cons b bs ih => simp [bools, ih]
def gQ (f : List Bool → Bool) (ss : List Sv) (L : Led) : Option Sv := match ss with
  | [a] => match (a.seqL L).bind bools with
    | some bs => some (.val (.bl (f bs)))
    | none => none
  | _ => none
theorem cs_Q {f : List Bool → Bool} : CallS K mg (fun vs H Q => ∃ (a : Addr) (bs : List Bool), vs = [V.ref a] ∧ SqL K H a (bs.map V.bl) ∧ Q (.bl (f bs)) H) (gQ f) := by
  intro G F H ps L xs ss s Q I R e q
  unfold gQ at e
  split at e
  · rename_i a
    split at e
    · rename_i bs hb
      cases e
      obtain ⟨x, rfl, rx⟩ := xvs1 R
      cases hd : a.seqL L with
      | none => rw [hd] at hb; cases hb
      | some ds =>
        rw [hd] at hb
        obtain ⟨p, vs, rfl, hp, rs⟩ := xv_seqL I rx hd
        rw [bools_rel hb rs] at hp
        exact ⟨p, bs, rfl, hp, QE.now q I (.bl _)⟩
    · cases e
  · cases e
def gAll := gQ fun bs => bs.all id
def gAny := gQ fun bs => bs.any id
/-! ### list(x), tuple(x) -/
def gList (ss : List Sv) (L : Led) : Option Sv := match ss with
  | [a] => match (a.seqL L).or a.seqT with
    | some ds => if ds.length ≤ sizeLine then some (.val (.lst ds)) else none
    | none => none
  | _ => none
theorem cs_list : CallS K mg (fun xs H Q => ∃ p ys, xs = [.ref p] ∧ (SqL K H p ys ∨ SqT K H p ys) ∧ ∀ l, H l = none → Q (.ref l) (upd H l (.lst ys))) gList := by
  intro G F H ps L xs ss s Q I R e q
  unfold gList at e
  split at e
  · rename_i a
    obtain ⟨x, rfl, rx⟩ := xvs1 R
    split at e
    · rename_i ds hds
      split at e
      · rename_i hz
        cases e
        cases hd : a.seqL L with
        | some d2 =>
          rw [hd] at hds; simp at hds; subst hds
          obtain ⟨p, vs, rfl, hp, rs⟩ := xv_seqL I rx hd
          exact ⟨p, vs, rfl, .inl hp, QE.newL q I (by rw [rs.length]; exact hz) rs⟩
        | none =>
          rw [hd] at hds; simp at hds
          obtain ⟨p, vs, rfl, hp, rs, _⟩ := xv_seqT I rx hds
          exact ⟨p, vs, rfl, .inr hp, QE.newL q I (by rw [rs.length]; exact hz) rs⟩
      · cases e
    · cases e
  · cases e
def gTuple (ss : List Sv) (L : Led) : Option Sv := match ss with
  | [a] => match a.seqL L with
    | some ds => if ds.length ≤ sizeLine then some (.val (.tup ds)) else none
    | none => match a.seqT with
      | some _ => some a
      | none => none
  | _ => none
theorem cs_tuple : CallS K mg (fun xs H Q => ∃ p ys, xs = [.ref p] ∧ ((SqL K H p ys ∧ ∀ l, H l = none → Q (.ref l) (upd H l (.tup ys))) ∨ (SqT K H p ys ∧ Q (.ref p) H))) gTuple := by
  intro G F H ps L xs ss s Q I R e q
  unfold gTuple at e
  split at e
  · rename_i a
    obtain ⟨x, rfl, rx⟩ := xvs1 R
    split at e
    · rename_i ds hds
      split at e
      · rename_i hz
        cases e
        obtain ⟨p, vs, rfl, hp, rs⟩ := xv_seqL I rx hds
        exact ⟨p, vs, rfl, .inl ⟨hp, QE.newT q I (by rw [rs.length]; exact hz) rs⟩⟩
      · cases e
    · split at e
      · rename_i ds hds
        cases e
        obtain ⟨p, vs, rfl, hp, rs, _⟩ := xv_seqT I rx hds
        exact ⟨p, vs, rfl, .inr ⟨hp, QE.now q I rx⟩⟩
      · cases e
  · cases e
/-! ### repr -/
def okR (p : PyData) : Bool := p.showable && decide (p.depth ≤ 64) && decide (p.shown.length ≤ sizeLine)
def gRepr (ss : List Sv) (_ : Led) : Option Sv := match ss with
  | [a] => match a.py with
    | some p => if okR p = true then some (.val (.str p.shown)) else none
    | none => none
  | _ => none
def rRepr (X : Cx) : List V → Hp → VK → Prop := fun xs H Q => ∃ x p, xs = [x] ∧ RdAt X H x p ∧ okR p = true ∧ Q (.str p.shown) H
theorem call_repr {X : Cx} (hg : X.A.guards = some []) (hu : X.A.units + 66 < cLine) : CallR X (.builtin "repr") (rRepr X) := by
  intro pins s σ H xs us Q I r h
  obtain ⟨x, p, rfl, hr, ok, q⟩ := h
  obtain ⟨u, rfl, ru⟩ := vals1 r
  obtain ⟨as, R, na⟩ := hr pins σ s u I ru
  simp only [okR, Bool.and_eq_true, decide_eq_true_eq] at ok
  obtain ⟨⟨hs, hd⟩, hz⟩ := ok
  have road : ∀ {a : Addr}, Reads s.heap (.ref a) p as → u = .ref a → wpAny (model X.prog X.w) X.A (call (.builtin "repr") [u]) (EP X pins σ Q) X.xe s := fun R e => by
    subst e
    exact repr_of_reads' R hs (fun _ => na) hg (by omega) (fun b o e => e) (fun h' t tk k => ⟨.str _, H, I.kept k, ⟨_, rfl⟩, q⟩) hz
  cases R with
  | none => exact PySem.P.repr_of_none ⟨.str _, H, I.tok _, ⟨_, rfl⟩, q⟩
  | bool b => exact PySem.P.repr_of_bool ⟨.str _, H, I.tok _, ⟨_, rfl⟩, q⟩
  | int i t => exact PySem.P.repr_of_int (by simpa [PyData.showable] using hs) ⟨.str _, H, I.tok _, ⟨_, rfl⟩, q⟩
  | str y t => exact PySem.P.repr_of_str ⟨.str _, H, I.tok _, ⟨_, rfl⟩, q⟩ hz
  | list h1 h2 h3 h4 => exact road (.list h1 h2 h3 h4) rfl
  | tuple h1 h2 h3 h4 => exact road (.tuple h1 h2 h3 h4) rfl
  | dict h1 h2 h3 h4 h5 => exact road (.dict h1 h2 h3 h4 h5) rfl
theorem cs_repr {X : Cx} (hk : SysK X.K) : CallS X.K X.mg' (rRepr X) gRepr := by
  intro G F H ps L xs ss s Q I R e q
  unfold gRepr at e
  split at e
  · rename_i a
    obtain ⟨x, rfl, rx⟩ := xvs1 R
    split at e
    · rename_i p hp
      split at e
      · rename_i ok
        cases e
        have hz : p.shown.length ≤ sizeLine := by
          simp only [okR, Bool.and_eq_true, decide_eq_true_eq] at ok
          exact ok.2
        exact ⟨x, p, rfl, XvOk.reads (K' := X.K) hk I rx hp, ok, QE.now q I (.str _ hz)⟩
      · cases e
    · cases e
  · cases e
end
end DL

/-! DL, part 11: isinstance, subscripts, slices, join, stores into the ledger's things. -/
namespace DL
open PySem PySem.Spec PyProof.Rows L2
section
variable {K : PySem.W.Frag} {mg : Str → Option Value} {G F H : Hp} {ps : List Addr} {L : Led} {xs : List V} {a b : Sv} {x : V}
/-! ### isinstance with built-in types -/
def Sv.tyn (L : Led) : Sv → Option String
  | .val .non => some "NoneType"
  | .val (.bl _) => some "bool"
  | .val (.int _) => some "int"
  | .val (.str _) => some "str"
  | .val (.lst _) => some "list"
  | .val (.tup _) => some "tuple"
  | .val (.dic _) => some "dict"
  | .bor _ => some "list"
  | .borD _ => some "dict"
  | .val (.own k) => match L[k]? with
    | some (.lst _) => some "list"
    | some (.dic _) => some "dict"
    | _ => none
  | _ => none
theorem xv_tyn (I : HS K mg G F H ps L) (h : XvOk K mg G F ps x a) {n : String} (e : a.tyn L = some n) : TyX K H x (.type n) := by
  unfold Sv.tyn at e
  split at e
  · cases e; rw [xv_non h]; exact .base .non
  · cases e; rw [xv_bl h]; exact .base (.bl _)
  · cases e; rw [xv_int h]; exact .base (.int _)
  · cases e; obtain ⟨rfl, z⟩ := xv_str h; exact .base (.str _)
  · cases e
    cases h with
    | lst h z r => exact .base (.lst (I.same _ _ h))
  · cases e
    cases h with
    | tup h z r => exact .base (.tup (I.same _ _ h))
  · cases e
    cases h with
    | dic h z r =>
      rcases Same.rd I.same h with h | ⟨o, h⟩
      · exact .base (.dK h)
      · exact .fDict h
  · cases e
    obtain ⟨p, vs, rfl, hp, z, r⟩ := h
    exact .base (.lst (I.frame _ _ hp))
  · cases e
    obtain ⟨p, vs, rfl, hp, z, r⟩ := h
    exact .base (.dK (I.frame _ _ hp))
  · split at e
    · cases e
      rename_i hk
      obtain ⟨p, rfl, hp⟩ := xv_own h
      obtain ⟨vs, e1, z, r⟩ := I.at_ _ p _ hp hk
      exact .base (.lst e1)
    · cases e
      rename_i hk
      obtain ⟨p, rfl, hp⟩ := xv_own h
      obtain ⟨vs, e1, z, r⟩ := I.at_ _ p _ hp hk
      exact .base (.dK e1)
    · cases e
  · cases e
def tyNames : List Dv → Option (List String)
  | [] => some []
  | .ty n :: ds => (tyNames ds).map (n :: ·)
  | _ => none
def anyB (t : String) : List String → Option Bool
  | [] => some false
  | n :: ns => match kitB t n with
    | some true => some true
    | some false => anyB t ns
    | none => none
theorem anyB_kit {t : String} : ∀ {ns : List String} {b : Bool}, anyB t ns = some b → PySem.W.kitAny K (.type t) (ns.map .type) = some b
  | [], _, e => by cases e; rfl
  | n :: ns, b, e => by
    unfold anyB at e
    split at e
    · rename_i h; cases e; exact kitAny_cons (kit_ty h) (fun z => by cases z) (fun _ => rfl)
    · rename_i h; exact kitAny_cons (kit_ty h) (fun _ => anyB_kit e) (fun z => by cases z)
    · cases e
theorem tyNames_rel {F : Hp} {ps : List Addr} : ∀ {ds : List Dv} {ns : List String} {vs : List V}, tyNames ds = some ns → RDs K mg F ps vs ds → vs = ns.map V.ty ∧ Paired ClsV vs (ns.map Value.type)
  | [], _, _, e, .nil => by cases e; exact ⟨rfl, .nil⟩
  | .ty n :: ds, ns, _, e, .cons h r => by
    cases hb : tyNames ds with
    | none => simp [tyNames, hb] at e
    | some cs =>
      simp [tyNames, hb] at e
      subst e
      cases h
      obtain ⟨e1, p1⟩ := tyNames_rel hb r
      rw [e1] at p1 ⊢
      exact ⟨rfl, .cons (.ty n) p1⟩
def gIsi (ss : List Sv) (L : Led) : Option Sv := match ss with
  | [a, .val (.ty n)] => ((a.tyn L).bind fun t => kitB t n).map fun k => .val (.bl k)
  | [a, .val (.tup cs)] => ((a.tyn L).bind fun t => (tyNames cs).bind (anyB t)).map fun k => .val (.bl k)
  | _ => none
theorem cs_isi : CallS K mg (fun xs H Q => rIsi K xs H Q ∨ rIsiT K xs H Q) gIsi := by
  intro G F H ps L xs ss s Q I R e q
  unfold gIsi at e
  split at e
  · rename_i a n
    obtain ⟨x, y, rfl, rx, ry⟩ := xvs2 R
    cases ht : a.tyn L with
    | none => simp [ht] at e
    | some t =>
      cases hk : kitB t n with
      | none => simp [ht, hk] at e
      | some k =>
        simp [ht, hk] at e
        subst e
        cases ry
        exact .inl ⟨x, .ty n, _, _, k, rfl, .ty n, xv_tyn I rx ht, kit_ty hk, QE.now q I (.bl k)⟩
  · rename_i a cs
    obtain ⟨x, y, rfl, rx, ry⟩ := xvs2 R
    cases ht : a.tyn L with
    | none => simp [ht] at e
    | some t =>
      cases hn : tyNames cs with
      | none => simp [ht, hn] at e
      | some ns =>
        cases hk : anyB t ns with
        | none => simp [ht, hn, hk] at e
        | some k =>
          simp [ht, hn, hk] at e
          subst e
          obtain ⟨p, vs, rfl, fp, hp, z, rs⟩ := xv_tup I ry
          obtain ⟨e1, p1⟩ := tyNames_rel hn rs
          exact .inr ⟨x, p, vs, _, _, k, rfl, hp, p1, xv_tyn I rx ht, anyB_kit hk, QE.now q I (.bl k)⟩
  · cases e
theorem call_isiA {X : Cx} : CallR X (.builtin "isinstance") (fun xs H Q => rIsi X.K xs H Q ∨ rIsiT X.K xs H Q) := CallR.or call_isi call_isiT
/-! ### subscripts -/
theorem RDs.atI {F : Hp} {ps : List Addr} {vs : List V} {ds : List Dv} (r : RDs K mg F ps vs ds) {i : Int} {d : Dv} (e : L2.atI ds i = some d) : ∃ v, L2.atI vs i = some v ∧ RD K mg F ps v d := by
  unfold L2.atI at e ⊢
  rw [r.length]
  cases hx : ixN ds.length i with
  | none => rw [hx] at e; cases e
  | some j =>
    rw [hx] at e
    exact r.get e
/-- a dict's pairs -/
def Sv.prL (L : Led) : Sv → Option (List (Key × Dv))
  | .val (.dic ks) => some ks
  | .borD ks => some ks
  | .val (.own k) => match L[k]? with
    | some (.dic ks) => some ks
    | _ => none
  | _ => none
theorem xv_prL (I : HS K mg G F H ps L) (h : XvOk K mg G F ps x a) {ks : List (Key × Dv)} (e : a.prL L = some ks) : ∃ p ws, x = .ref p ∧ Rd H p (.dK ws) ∧ RDk K mg F ps ws ks := by
  unfold Sv.prL at e
  split at e
  · cases e
    cases h with
    | dic h z r => exact ⟨_, _, rfl, Same.rd I.same h, r⟩
  · cases e
    obtain ⟨p, vs, rfl, hp, z, r⟩ := h
    exact ⟨p, vs, rfl, .inl (I.frame _ _ hp), r⟩
  · split at e
    · cases e
      rename_i hk
      obtain ⟨p, rfl, hp⟩ := xv_own h
      obtain ⟨vs, e1, z, r⟩ := I.at_ _ p _ hp hk
      exact ⟨p, vs, rfl, .inl e1, r⟩
    · cases e
  · cases e
def gIx (a b : Sv) (L : Led) : Option Sv := match b with
  | .val (.int i) => match a.seqL L with
    | some ds => (L2.atI ds i).map .val
    | none => match a.seqT with
      | some ds => (L2.atI ds i).map .val
      | none => match a with
        | .val (.str z) => (L2.atI z.cps.toList i).map fun c => .val (.str ⟨#[c]⟩)
        | _ => none
  | _ => none
theorem sIx' : OpS K mg (rIx K) gIx := by
  intro G F H ps L x y a b s Q I ra rb e q
  unfold gIx at e
  split at e
  · rename_i i
    rw [xv_int rb]
    split at e
    · rename_i ds hd
      obtain ⟨p, vs, rfl, hp, rs⟩ := xv_seqL I ra hd
      cases hx : L2.atI ds i with
      | none => rw [hx] at e; cases e
      | some d =>
        rw [hx] at e; cases e
        obtain ⟨v, hv, rv⟩ := rs.atI hx
        exact .inl ⟨p, vs, i, v, rfl, rfl, hp, hv, QE.now q I rv⟩
    · split at e
      · rename_i ds hd
        obtain ⟨p, vs, rfl, hp, rs, _⟩ := xv_seqT I ra hd
        cases hx : L2.atI ds i with
        | none => rw [hx] at e; cases e
        | some d =>
          rw [hx] at e; cases e
          obtain ⟨v, hv, rv⟩ := rs.atI hx
          exact .inr (.inl ⟨p, vs, i, v, rfl, rfl, hp, hv, QE.now q I rv⟩)
      · split at e
        · rename_i z _ _
          obtain ⟨rfl, hz⟩ := xv_str ra
          cases hx : L2.atI z.cps.toList i with
          | none => rw [hx] at e; cases e
          | some c =>
            rw [hx] at e; cases e
            exact .inr (.inr ⟨z, i, c, rfl, rfl, hz, hx, QE.now q I (.str _ (one_len c))⟩)
        · cases e
  · cases e
/-- d[k] of a dict -/
def gDg (a b : Sv) (L : Led) : Option Sv := match b.key, a.prL L with
  | some k, some ks => (lookK ks k).map .val
  | _, _ => none
theorem sDg : OpS K mg (fun x y H Q => ∃ a v, x = .ref a ∧ DGet H a y (some v) ∧ Q v H) gDg := by
  intro G F H ps L x y a b s Q I ra rb e q
  unfold gDg at e
  split at e
  · rename_i k ks hk hp
    obtain ⟨p, ws, rfl, hd, rk⟩ := xv_prL I ra hp
    obtain ⟨rfl, _⟩ := xv_key rb hk
    rcases look_rel k rk with ⟨e1, _⟩ | ⟨v, d, e1, e2, r⟩
    · rw [e1] at e; cases e
    · rw [e1] at e; cases e
      refine ⟨p, v, rfl, ?_, QE.now q I r⟩
      have := dget_of hd k
      rwa [e2] at this
  · cases e
/-! ### slices -/
def cutD (ds : List Dv) (lo hi : Option Int) : List Dv := (ds.drop (HT.sIx ds.length 0 lo)).take (HT.sIx ds.length ds.length hi - HT.sIx ds.length 0 lo)
theorem cut_rel {F : Hp} {ps : List Addr} {vs : List V} {ds : List Dv} (r : RDs K mg F ps vs ds) (lo hi : Option Int) : RDs K mg F ps (cutV vs lo hi) (cutD ds lo hi) := by
  unfold cutV cutD
  rw [r.length]
  exact (r.drop _).take _
theorem cutD_length (ds : List Dv) (lo hi : Option Int) : (cutD ds lo hi).length ≤ ds.length := by
  unfold cutD
  rw [List.length_take, List.length_drop]
  omega
def gSl (a : Sv) (lo hi : Option Int) (L : Led) : Option Sv := match a with
  | .val (.str z) => some (.val (.str (cutS z lo hi)))
  | a => match a.seqL L with
    | some ds => if ds.length ≤ sizeLine then some (.val (.lst (cutD ds lo hi))) else none
    | none => match a.seqT with
      | some ds => if ds.length ≤ sizeLine then some (.val (.tup (cutD ds lo hi))) else none
      | none => none
def SlS (K : PySem.W.Frag) (mg : Str → Option Value) (r : V → Option Int → Option Int → Hp → VK → Prop) : Prop :=
  ∀ (G F H : Hp) (ps : List Addr) (L : Led) (x : V) (a s : Sv) (lo hi : Option Int) (Q : VK), HS K mg G F H ps L → XvOk K mg G F ps x a → gSl a lo hi L = some s → QE K mg G F ps Q s L → r x lo hi H Q
def rSl3 (K : PySem.W.Frag) : V → Option Int → Option Int → Hp → VK → Prop := fun x lo hi H Q => rSlL K x lo hi H Q ∨ rSlA K x lo hi H Q ∨ rSlS x lo hi H Q
theorem sSl : SlS K mg (rSl3 K) := by
  intro G F H ps L x a s lo hi Q I ra e q
  unfold gSl at e
  split at e
  · rename_i z
    cases e
    obtain ⟨rfl, hz⟩ := xv_str ra
    exact .inr (.inr ⟨z, rfl, hz, QE.now q I (.str _ (Nat.le_trans (cutS_length z lo hi) hz))⟩)
  · split at e
    · rename_i ds hd
      split at e
      · rename_i hz
        cases e
        obtain ⟨p, vs, rfl, hp, rs⟩ := xv_seqL I ra hd
        exact .inl ⟨p, vs, rfl, hp, QE.newL q I (Nat.le_trans (cutV_length vs lo hi) (by rw [rs.length]; exact hz)) (cut_rel rs lo hi)⟩
      · cases e
    · split at e
      · rename_i ds hd
        split at e
        · rename_i hz
          cases e
          obtain ⟨p, vs, rfl, hp, rs, _⟩ := xv_seqT I ra hd
          refine .inr (.inl ⟨p, vs, rfl, hp, fun hw => ?_, fun _ => QE.newT q I (Nat.le_trans (cutV_length vs lo hi) (by rw [rs.length]; exact hz)) (cut_rel rs lo hi)⟩)
          have hw2 : HT.sIx ds.length 0 lo = 0 ∧ HT.sIx ds.length ds.length hi = ds.length := by rw [← rs.length]; exact hw
          have ec : cutD ds lo hi = ds := by unfold cutD; rw [hw2.1, hw2.2]; simp
          rw [ec] at q
          unfold Sv.seqT at hd
          split at hd
          · cases hd; exact QE.now q I ra
          · cases hd
        · cases e
      · cases e
/-! ### "..".join -/
def strsOf : List Dv → Option (List Str)
  | [] => some []
  | .str x :: ds => (strsOf ds).map (x :: ·)
  | _ => none
theorem strsOf_rel {F : Hp} {ps : List Addr} : ∀ {ds : List Dv} {ys : List Str} {vs : List V}, strsOf ds = some ys → RDs K mg F ps vs ds → vs = ys.map V.str
  | [], _, _, e, .nil => by cases e; rfl
  | .str x :: ds, ys, _, e, .cons h r => by
    cases hb : strsOf ds with
    | none => simp [strsOf, hb] at e
    | some cs =>
      simp [strsOf, hb] at e
      subst e
      cases h
      rw [strsOf_rel hb r]; rfl
theorem strsOf_map (ys : List Str) : strsOf (ys.map Dv.str) = some ys := by
  induction ys with
  | nil => rfl
  | cons b bs ih => simp [strsOf, ih]
def MtS (K : PySem.W.Frag) (mg : Str → Option Value) (r : V → List V → Hp → VK → Prop) (g : Str → List Sv → Led → Option Sv) : Prop :=
  ∀ (G F H : Hp) (ps : List Addr) (L : Led) (z : Str) (xs : List V) (ss : List Sv) (s : Sv) (Q : VK), HS K mg G F H ps L → z.length ≤ sizeLine → XvsOk K mg G F ps xs ss → g z ss L = some s → QE K mg G F ps Q s L → r (.str z) xs H Q
def gJoin (z : Str) (ss : List Sv) (L : Led) : Option Sv := match ss with
  | [a] => match ((a.seqL L).or a.seqT).bind strsOf with
    | some ys => if (ys.map (·.length)).sum + ys.length * z.length ≤ 16777216 ∧ (Txt.join z ys).length ≤ sizeLine then some (.val (.str (Txt.join z ys))) else none
    | none => none
  | _ => none
def rJoin (K : PySem.W.Frag) : V → List V → Hp → VK → Prop := fun x xs H Q => ∃ a p, ∃ ys : List Str, x = .str a ∧ xs = [.ref p] ∧ (SqL K H p (ys.map V.str) ∨ SqT K H p (ys.map V.str)) ∧
    (ys.map (·.length)).sum + ys.length * a.length ≤ 16777216 ∧ Q (.str (Txt.join a ys)) H
theorem ms_join : MtS K mg (rJoin K) gJoin := by
  intro G F H ps L z xs ss s Q I hz R e q
  unfold gJoin at e
  split at e
  · rename_i a
    obtain ⟨x, rfl, rx⟩ := xvs1 R
    split at e
    · rename_i ys hy
      split at e
      · rename_i hc
        cases e
        cases hd : a.seqL L with
        | some ds =>
          rw [hd] at hy
          obtain ⟨p, vs, rfl, hp, rs⟩ := xv_seqL I rx hd
          rw [strsOf_rel hy rs] at hp
          exact ⟨z, p, ys, rfl, rfl, .inl hp, hc.1, QE.now q I (.str _ hc.2)⟩
        | none =>
          cases hd2 : a.seqT with
          | none => rw [hd, hd2] at hy; cases hy
          | some ds =>
            rw [hd, hd2] at hy
            obtain ⟨p, vs, rfl, hp, rs, _⟩ := xv_seqT I rx hd2
            rw [strsOf_rel hy rs] at hp
            exact ⟨z, p, ys, rfl, rfl, .inr hp, hc.1, QE.now q I (.str _ hc.2)⟩
      · cases e
    · cases e
  · cases e
end
/-! ### rules -/
def dPt0 : DM (Option Int) := fun _ L => .ok none L
def dPt1 (fe : DM Sv) : DM (Option Int) := fun ρ L => (fe ρ L).bind fun s L1 => match s with
  | .val (.int i) => .ok (some i) L1
  | _ => .bad
def dSl (fe : DM Sv) (fl fh : DM (Option Int)) : DM Sv := fun ρ L => (fe ρ L).bind fun a L1 => (fl ρ L1).bind fun lo L2 => (fh ρ L2).bind fun hi L3 => give (gSl a lo hi L3) L3
def tP (K : PySem.W.Frag) (mg : Str → Option Value) (W : WX) (f : DM (Option Int)) : TO := fun σ H Q => ∃ G0 G F ps ρ L, Same G0 G ∧ HS K mg G F H ps L ∧ Slots K mg G0 G F ps σ ρ ∧
  (f ρ L).wp (fun o L' => ∀ F' H' ps', Ext F ps F' ps' → HS K mg G F' H' ps' L' → Q o H') (EE K mg G0 F ps W)
def dM0 (g : Str → List Sv → Led → Option Sv) (fo : DM Sv) : DM Sv := fun ρ L => (fo ρ L).bind fun a L1 => match a with
  | .val (.str z) => give (g z [] L1) L1
  | _ => .bad
def dM1 (g : Str → List Sv → Led → Option Sv) (fo fe : DM Sv) : DM Sv := fun ρ L => (fo ρ L).bind fun a L1 => match a with
  | .val (.str z) => (fe ρ L1).bind fun y L2 => give (g z [y] L2) L2
  | _ => .bad
section
variable {X : Cx} {W : WX} {a b e o : Expr} {fa fb fe fo : DM Sv} {pos p2 apos : Pos}
theorem de_sub (ha : DE X W a fa) (hb : DE X W b fb) (hx : PlainIx b) : DE X W (.Subscript a b pos) (dOp gIx fa fb) := de_ix ix_seq sIx' ha hb hx
theorem de_dget (hu : X.A.units + 1 < cLine) (ha : DE X W a fa) (hb : DE X W b fb) (hx : NoSl b) : DE X W (.Subscript a b pos) (dOp gDg fa fb) :=
  imE (pe_dget hu ha hb hx) fun _ _ _ h => tOp_of sDg h
abbrev DP (X : Cx) (W : WX) (e : Option Expr) (f : DM (Option Int)) : Prop := PO X e (tP X.K X.mg' W f)
theorem dp_none : DP X W none dPt0 := ⟨fun pins s σ H Q I h => by
  obtain ⟨G0, G, F, ps, ρ, L, g0, J, S, h⟩ := h
  exact po_none.run pins s σ H Q I (h F H ps (Ext.refl _ _) J)⟩
theorem dp_some (h : DE X W e fe) : DP X W (some e) (dPt1 fe) := ⟨fun pins s σ H Q I h1 => (po_some h).run pins s σ H Q I (by
  obtain ⟨G0, G, F, ps, ρ, L, g0, J, S, h1⟩ := h1
  refine ⟨G0, G, F, ps, ρ, L, g0, J, S, Res.wp_mono (Res.wp_bind h1) (fun s L1 h1 v F1 H1 p1 x1 I1 r1 => ?_) fun e r L' q => q⟩
  split at h1
  · rw [xv_int r1]; exact ⟨_, rfl, h1 F1 H1 p1 x1 I1⟩
  · exact h1.elim)⟩
theorem de_slice {lo hi : Option Expr} {fl fh : DM (Option Int)} (he : DE X W e fe) (hl : DP X W lo fl) (hh : DP X W hi fh) : DE X W (.Subscript e (.Slice lo hi none p2) pos) (dSl fe fl fh) :=
  imE (pe_slice (r := rSl3 X.K) (SlR.or sl_list (SlR.or sl_tupA sl_str)) he hl hh) fun σ H Q h => by
    obtain ⟨G0, G, F, ps, ρ, L, g0, I, S, h⟩ := h
    refine tE_unf g0 I S (Res.wp_bind h) (fun s L1 h1 v F1 H1 p1 x1 I1 r1 => ?_) fun e r L' q => q
    refine ⟨G0, G, F1, p1, ρ, L1, g0, I1, S.ext x1, Res.wp_mono (Res.wp_bind h1) (fun lo L2 h2 F2 H2 p2 x2 I2 => ?_) fun e r L' q => EE.ext x1 q⟩
    refine ⟨G0, G, F2, p2, ρ, L2, g0, I2, (S.ext x1).ext x2, Res.wp_mono (Res.wp_bind h2) (fun hi L3 h3 F3 H3 p3 x3 I3 => ?_) fun e r L' q => EE.ext (x1.trans x2) q⟩
    obtain ⟨s2, e2, q⟩ := give_wp h3
    exact sSl G F3 H3 p3 L3 v s s2 lo hi Q I3 (r1.ext (x2.trans x3)) e2 (QE.ext (x1.trans (x2.trans x3)) q)
theorem de_sm0 {id : String} {name : Str} {r : V → List V → Hp → VK → Prop} {g : Str → List Sv → Led → Option Sv} (slot : Slot "str" name id) (ty : typeOf (.builtin id) = pure (.type "method_descriptor")) (rule : MtR X id r) (hm : MtS X.K X.mg' r g) (ho : DE X W o fo)
    (hbase : attributeBase o name X.env (eval o X.env) = eval o X.env := by rfl) (hline : (apos.endLine == pos.line) = true := by rfl) : DE X W (.Call (.Attribute o name apos) [] [] pos) (dM0 g fo) :=
  imE (pe_m0 slot ty rule ho hbase hline) fun σ H Q h => by
    obtain ⟨G0, G, F, ps, ρ, L, g0, I, S, h⟩ := h
    refine tE_unf g0 I S (Res.wp_bind h) (fun s L1 h1 v F1 H1 p1 x1 I1 r1 => ?_) fun e r L' q => q
    split at h1
    · obtain ⟨rfl, hz⟩ := xv_str r1
      obtain ⟨s2, e2, q⟩ := give_wp h1
      exact ⟨⟨_, rfl⟩, hm G F1 H1 p1 L1 _ [] [] s2 Q I1 hz .nil e2 (QE.ext x1 q)⟩
    · exact h1.elim
theorem de_sm1 {id : String} {name : Str} {r : V → List V → Hp → VK → Prop} {g : Str → List Sv → Led → Option Sv} (slot : Slot "str" name id) (ty : typeOf (.builtin id) = pure (.type "method_descriptor")) (rule : MtR X id r) (hm : MtS X.K X.mg' r g) (ho : DE X W o fo) (he : DE X W e fe)
    (hs : starEach [e] X.env = [(false, eval e X.env)] := by rfl) (hbase : attributeBase o name X.env (eval o X.env) = eval o X.env := by rfl) (hline : (apos.endLine == pos.line) = true := by rfl) : DE X W (.Call (.Attribute o name apos) [e] [] pos) (dM1 g fo fe) :=
  imE (pe_m1 slot ty rule ho he hs hbase hline) fun σ H Q h => by
    obtain ⟨G0, G, F, ps, ρ, L, g0, I, S, h⟩ := h
    refine tE_unf g0 I S (Res.wp_bind h) (fun s L1 h1 v F1 H1 p1 x1 I1 r1 => ?_) fun e r L' q => q
    split at h1
    · obtain ⟨rfl, hz⟩ := xv_str r1
      refine ⟨⟨_, rfl⟩, ?_⟩
      refine tE_unf g0 I1 (S.ext x1) (Res.wp_bind h1) (fun s2 L2 h2 v2 F2 H2 p2 x2 I2 r2 => ?_) fun e r L' q => EE.ext x1 q
      obtain ⟨s3, e3, q⟩ := give_wp h2
      exact hm G F2 H2 p2 L2 _ [v2] [s2] s3 Q I2 hz (.cons r2 .nil) e3 (QE.ext (x1.trans x2) q)
    · exact h1.elim
theorem de_join (ho : DE X W o fo) (he : DE X W e fe) (hs : starEach [e] X.env = [(false, eval e X.env)] := by rfl) (hbase : attributeBase o "join" X.env (eval o X.env) = eval o X.env := by rfl) (hline : (apos.endLine == pos.line) = true := by rfl) :
    DE X W (.Call (.Attribute o "join" apos) [e] [] pos) (dM1 gJoin fo fe) := de_sm1 F.slot_str_join F.type_str_join mt_join ms_join ho he hs hbase hline
end
/-! ### xs[::-1] -/
def strRev (z : Str) : Str := ⟨z.cps.toList.reverse.toArray⟩
def gRev (a : Sv) (L : Led) : Option Sv := match a with
  | .val (.str z) => some (.val (.str (strRev z)))
  | a => match a.seqL L with
    | some ds => if ds.length ≤ sizeLine then some (.val (.lst ds.reverse)) else none
    | none => none
def rRev (K : PySem.W.Frag) : V → Hp → VK → Prop := fun x H Q => (∃ a xs, x = .ref a ∧ SqL K H a xs ∧ ∀ p, H p = none → Q (.ref p) (upd H p (.lst xs.reverse))) ∨ ∃ z, x = .str z ∧ z.length ≤ sizeLine ∧ Q (.str (strRev z)) H
theorem rev_made (z : Str) (t u : Tok) : sliceMade z t none none (some (-1, u)) = .str (strRev z) := by
  unfold sliceMade
  have h0 : (((some ((-1 : Int), u)).map (·.1)).getD 1 == 1) = false := rfl
  rw [h0, Bool.false_and, if_neg Bool.false_ne_true]
  congr 1
  show (⟨((Builtin.Str.strSliceIndices none none (-1) z.length).filterMap (z.cps[·]?)).toArray⟩ : Str) = strRev z
  unfold strRev
  congr 2
  rw [picked_rev]
  have hl : z.length = z.cps.size := rfl
  apply List.ext_getElem?
  intro i
  rw [filterMap_get]
  · rw [List.map_map, List.getElem?_map]
    by_cases hi : i < z.cps.size
    · rw [List.getElem?_range (by omega), List.getElem?_reverse (by simpa using hi)]
      simp [Array.getD, hl, show z.cps.size - 1 - i < z.cps.size by omega]
    · rw [List.getElem?_eq_none (by simp; omega), List.getElem?_eq_none (by simp; omega)]; rfl
  · intro j hj
    obtain ⟨k, hk, rfl⟩ := List.mem_map.mp hj
    have := List.mem_range.mp hk
    omega
section
variable {X : Cx} {W : WX} {e : Expr} {te : TE} {fe : DM Sv} {k : Nat} {p1 p2 p3 pos : Pos}
theorem pe_revA (he : PE X e te) : PE X (.Subscript e (.Slice none none (some (.UnaryOp .USub (.Constant (.int 1) k p1) p2)) p3) pos) (tUn (rRev X.K) te) := by
  refine ⟨fun pins s σ H Q I h => ?_⟩
  refine Subscript_ (thn (he.run pins s σ H _ I h) fun v s1 ⟨x, H1, I1, r1, q1⟩ => ?_)
  have hst : PO X (some (.UnaryOp .USub (.Constant (.int 1) k p1) p2)) (tPart (tUn (rU fun i => .int (-i)) (tC (.int 1)))) := po_some (pe_un un_neg pe_int)
  refine wpAny_Slice (thn (po_none.run pins s1 σ H1 (fun o H2 => o = none ∧ H2 = H1) I1 ⟨rfl, rfl⟩) fun vl s2 ⟨l, H2, I2, pl, el, e2⟩ => ?_)
  subst el e2
  refine thn (po_none.run pins s2 σ H2 (fun o H3 => o = none ∧ H3 = H2) I2 ⟨rfl, rfl⟩) fun vu s3 ⟨u, H3, I3, pu, eu, e3⟩ => ?_
  subst eu e3
  refine thn (hst.run pins s3 σ H3 (fun o H4 => o = some (-1) ∧ H4 = H3) I3 ⟨1, rfl, -1, rfl, rfl, rfl⟩) fun vs s4 ⟨o, H4, I4, ps, eo, e4⟩ => ?_
  subst eo e4
  have I5 : Inv X pins σ H4 { s4 with heap := s4.heap.push { cls := .type "slice", data := .fields #[vl, vu, vs] } } := I4.kept (t' := s4.toks) fun b ob q => Heap.get?_push_of_some _ q
  rcases q1 with ⟨a, xs, ex, hx, q⟩ | ⟨z, ex, hz, q⟩
  · subst ex
    cases r1
    obtain ⟨its, r, ht, hz⟩ := I5.list hx
    have hlen := r.length
    show wpAny (model X.prog X.w) X.A (subscriptTail e (.Slice none none (some (.UnaryOp .USub (.Constant (.int 1) k p1) p2)) p3) (.ref a) (.ref s4.heap.objs.size)) (EP X pins σ Q) X.xe { s4 with heap := s4.heap.push { cls := .type "slice", data := .fields #[vl, vu, vs] } }
    refine tail_any (ops := [.ref a, .ref s4.heap.objs.size]) ht.isList.typeIs (PySem.slot_list_getitem.lookup) ?_ (by with_unfolding_all rfl)
    refine wpAny_getItem_list_slice ht.isList (Heap.IsSliceOf.new _ vl vu vs) pl pu ps (by decide) ?_ (by rw [List.size_toArray]; omega)
    rw [PySem.W.krv_pick]
    refine ⟨.ref _, _, I5.laid (t' := s4.toks) (o := .lst xs.reverse) (fun b ob q => Heap.get?_push_of_some _ q) (Nat.le_refl _) ?_, rfl, q _ (I5.hok.fresh (Nat.le_refl _))⟩
    exact ⟨by rw [List.length_reverse]; exact hz, _, 0, r.reverse, Heap.get?_push_size _ rfl⟩
  · subst ex
    obtain ⟨t, rfl⟩ := r1
    show wpAny (model X.prog X.w) X.A (subscriptTail e (.Slice none none (some (.UnaryOp .USub (.Constant (.int 1) k p1) p2)) p3) (.str z t) (.ref s4.heap.objs.size)) (EP X pins σ Q) X.xe { s4 with heap := s4.heap.push { cls := .type "slice", data := .fields #[vl, vu, vs] } }
    refine tail_any (ops := [.str z t, .ref s4.heap.objs.size]) (typeIs_str _ _ _) F.slot_str_getitem.lookup ?_ (by with_unfolding_all rfl)
    obtain ⟨l, rfl, hl⟩ := IsPart.raw pl
    obtain ⟨u, rfl, hu⟩ := IsPart.raw pu
    obtain ⟨w, rfl, hw⟩ := IsPart.raw ps
    cases l with
    | some l => cases hl
    | none =>
    cases u with
    | some u => cases hu
    | none =>
    cases w with
    | none => cases hw
    | some w =>
    obtain ⟨w1, w2⟩ := w
    have hw1 : w1 = -1 := by simpa using hw
    subst hw1
    refine wpAny_getItem_str_slice (l := none) (u := none) (st := some (-1, w2)) ⟨_, Heap.get?_push_size _ rfl, rfl, rfl⟩ rfl ?_
    rw [rev_made]
    exact ⟨by show (strRev z).cps.size ≤ sizeLine; simp [strRev]; exact hz, .str _, H4, I5.tok _, ⟨_, rfl⟩, q⟩
theorem sRev {K : PySem.W.Frag} {mg : Str → Option Value} : UnS K mg (rRev K) gRev := by
  intro G F H ps L x a s Q I ra e q
  unfold gRev at e
  split at e
  · rename_i z
    cases e
    obtain ⟨rfl, hz⟩ := xv_str ra
    exact .inr ⟨z, rfl, hz, QE.now q I (.str _ (by show (strRev z).cps.size ≤ sizeLine; simp [strRev]; exact hz))⟩
  · split at e
    · rename_i ds hd
      split at e
      · rename_i hz
        cases e
        obtain ⟨p, vs, rfl, hp, rs⟩ := xv_seqL I ra hd
        exact .inl ⟨p, vs, rfl, hp, QE.newL q I (by rw [List.length_reverse, rs.length]; exact hz) rs.reverse⟩
      · cases e
    · cases e
theorem de_rev (he : DE X W e fe) : DE X W (.Subscript e (.Slice none none (some (.UnaryOp .USub (.Constant (.int 1) k p1) p2)) p3) pos) (dUn gRev fe) := imE (pe_revA he) fun _ _ _ h => tUn_of sRev h
end
end DL

/-! DL, part 12: things of the ledger, dict displays, targets, parallel stores. -/
namespace DL
open PySem PySem.Spec PyProof.Rows L2
section
variable {K : PySem.W.Frag} {mg : Str → Option Value} {G0 G F H : Hp} {ps : List Addr} {L : Led} {σ : List (Option V)} {ρ : Slo} {W : WX}
theorem CtOk.updH {p q : Addr} {u : HO} {c : Ct} (h : CtOk K mg G F H ps q c) (hq : q ≠ p) (hd : ∀ o, H p = some (.own o) → o ≠ q) : CtOk K mg G F (L2.upd H p u) ps q c := by
  cases c with
  | lst xs => obtain ⟨vs, a, b, r⟩ := h; exact ⟨vs, by rw [upd_ne hq]; exact a, b, r⟩
  | dic xs => obtain ⟨vs, a, b, r⟩ := h; exact ⟨vs, by rw [upd_ne hq]; exact a, b, r⟩
  | obj c fs =>
    obtain ⟨C, dx, gs, a, b, c0, c1, c2, r⟩ := h
    have hne : dx ≠ p := fun e => hd q (by rw [← e]; exact c0) rfl
    exact ⟨C, dx, gs, a, by rw [upd_ne hq]; exact b, by rw [upd_ne hne]; exact c0, c1, c2, r⟩
  | gone => obtain ⟨o, a⟩ := h; exact ⟨o, by rw [upd_ne hq]; exact a⟩
/-- a thing of the ledger is written -/
theorem HS.led (I : HS K mg G F H ps L) {k : Nat} {p : Addr} {o u : HO} {c : Ct} (hk : ps[k]? = some p) (ho : H p = some o) (hno : ∀ x, o ≠ .own x) (hc : CtOk K mg G F (upd H p u) ps p c) : HS K mg G F (upd H p u) ps (L.set k c) := by
  have hp : p ∈ ps := List.mem_of_getElem? hk
  refine ⟨fun b w e => ?_, fun b w e => ?_, I.apart, by simp [I.len], I.nd, I.free, fun j q d hj hd => ?_⟩
  · have : b ≠ p := fun z => by rw [z, (I.free p hp).2] at e; cases e
    rw [upd_ne this]; exact I.frame b w e
  · have : b ≠ p := fun z => by rw [z, (I.free p hp).1] at e; cases e
    rw [upd_ne this]; exact I.same b w e
  · by_cases hjk : k = j
    · subst hjk
      rw [hk] at hj; cases hj
      have hl : k < L.length := by rw [← I.len]; exact (List.getElem?_eq_some_iff.mp hk).1
      rw [List.getElem?_set_self hl] at hd
      cases hd
      exact hc
    · rw [List.getElem?_set_ne hjk] at hd
      have hqp : q ≠ p := fun z => by
        subst z
        obtain ⟨h1, e1⟩ := List.getElem?_eq_some_iff.mp hk
        obtain ⟨h2, e2⟩ := List.getElem?_eq_some_iff.mp hj
        have P := List.pairwise_iff_getElem.mp I.nd
        rcases Nat.lt_or_gt_of_ne hjk with h | h
        · exact P k j h1 h2 h (e1.trans e2.symm)
        · exact P j k h2 h1 h (e2.trans e1.symm)
      exact (I.at_ j q d hj hd).updH hqp fun x e => by rw [ho] at e; exact absurd (Option.some.inj e) (hno x)
/-- a new thing of the ledger -/
theorem HS.push (I : HS K mg G F H ps L) {p : Addr} {u : HO} {c : Ct} (hp : H p = none) (hc : CtOk K mg G F (upd H p u) (ps ++ [p]) p c) : HS K mg G F (upd H p u) (ps ++ [p]) (L ++ [c]) ∧ Ext F ps F (ps ++ [p]) := by
  have hF : F p = none := I.same.free hp
  have hG : G p = none := I.frame.free hp
  have pn : ∀ q ∈ ps, q ≠ p := fun q hq => led_ne I hp hq
  have xx : Ext F ps F (ps ++ [p]) := ⟨Same.refl F, [p], rfl⟩
  refine ⟨⟨fun b w e => ?_, fun b w e => ?_, I.apart, by simp [I.len], ?_, fun q hq => ?_, fun j q d hj hd => ?_⟩, xx⟩
  · rw [upd_ne (ne_of_none e hG)]; exact I.frame b w e
  · rw [upd_ne (ne_of_none e hF)]; exact I.same b w e
  · exact List.nodup_append.mpr ⟨I.nd, by simp, fun a ha b hb => by simp at hb; subst hb; exact pn a ha⟩
  · rcases List.mem_append.mp hq with h | h
    · exact I.free q h
    · simp at h; subst h; exact ⟨hF, hG⟩
  · by_cases hj2 : j < ps.length
    · rw [List.getElem?_append_left hj2] at hj
      rw [List.getElem?_append_left (by rw [← I.len]; exact hj2)] at hd
      have hq := pn q (List.mem_of_getElem? hj)
      have old := I.at_ j q d hj hd
      have := old.updH (p := p) (u := u) hq fun x e => by rw [hp] at e; cases e
      cases d with
      | lst xs => obtain ⟨vs, a, b, r⟩ := this; exact ⟨vs, a, b, RDs.ext xx r⟩
      | dic xs => obtain ⟨vs, a, b, r⟩ := this; exact ⟨vs, a, b, RDk.ext xx r⟩
      | obj c fs =>
        obtain ⟨C, dx, gs, a, b, c0, c1, c2, r⟩ := this
        exact ⟨C, dx, gs, a, b, c0, c1, c2, RDf.ext xx r⟩
      | gone => exact this
    · have e1 : j = ps.length := by
        have := (List.getElem?_eq_some_iff.mp hj).1
        simp at this; omega
      subst e1
      rw [List.getElem?_append_right (Nat.le_refl _)] at hj
      rw [I.len, List.getElem?_append_right (Nat.le_refl _)] at hd
      simp at hj hd
      subst hj hd
      exact hc
end
/-! ### [..] as a thing of the ledger -/
def dLstO (fr : DM (List Sv)) : DM Sv := fun ρ L => (fr ρ L).bind fun ss L1 => match vals ss with
  | some ds => if ds.length ≤ sizeLine then .ok (.val (.own L1.length)) (L1 ++ [.lst ds]) else .bad
  | none => .bad
section
variable {X : Cx} {W : WX} {es : List Expr} {fr : DM (List Sv)} {pos : Pos}
theorem de_lstO (h : DA X W es fr) : DE X W (.List es pos) (dLstO fr) := imE (pe_lst h) fun σ H Q h => by
  obtain ⟨G0, G, F, ps, ρ, L, g0, I, S, h⟩ := h
  refine ⟨G0, G, F, ps, ρ, L, g0, I, S, Res.wp_mono (Res.wp_bind h) (fun ss L1 h1 vs F1 H1 p1 x1 I1 r1 => ?_) fun e r L' q => q⟩
  split at h1
  · rename_i ds hv
    split at h1
    · rename_i hz
      have r2 := vals_ok hv r1
      have z2 : vs.length ≤ sizeLine := by rw [r2.length]; exact hz
      refine ⟨z2, fun p hp => ?_⟩
      have xx : Ext F1 p1 F1 (p1 ++ [p]) := ⟨Same.refl F1, [p], rfl⟩
      obtain ⟨I2, x2⟩ := I1.push (u := .lst vs) (c := .lst ds) hp ⟨vs, upd_same, z2, r2.ext xx⟩
      exact h1 _ _ _ _ (x1.trans x2) I2 (.own (by rw [← I1.len]; simp))
    · exact h1.elim
  · exact h1.elim
end
/-! ### dict displays -/
def putD (ks : List (Key × Dv)) (k : Key) (d : Dv) : List (Key × Dv) := if (ks.any fun kv => decide (kv.1 = k)) = true then ks.map (fun kv => if kv.1 = k then (kv.1, d) else kv) else ks ++ [(k, d)]
def mergeD (ks more : List (Key × Dv)) : List (Key × Dv) := more.foldl (fun acc kv => putD acc kv.1 kv.2) ks
def dPairs : List (DM Sv × DM Sv) → DM (List (Sv × Sv))
  | [], _, L => .ok [] L
  | (fk, fv) :: r, ρ, L => (fk ρ L).bind fun x L1 => (fv ρ L1).bind fun y L2 => (dPairs r ρ L2).bind fun ps L3 => .ok ((x, y) :: ps) L3
def keyd : List (Sv × Sv) → Option (List (Key × Dv))
  | [] => some []
  | (a, .val d) :: r => match a.key, keyd r with
    | some k, some ks => some ((k, d) :: ks)
    | _, _ => none
  | _ => none
section
variable {K : PySem.W.Frag} {mg : Str → Option Value} {G0 G F H : Hp} {ps : List Addr} {L : Led} {σ : List (Option V)} {ρ : Slo} {W : WX}
abbrev PrsOk (K : PySem.W.Frag) (mg : Str → Option Value) (G F : Hp) (ps : List Addr) : List (V × V) → List (Sv × Sv) → Prop := Paired fun p q => XvOk K mg G F ps p.1 q.1 ∧ XvOk K mg G F ps p.2 q.2
theorem tPairs_of : ∀ {fs : List (DM Sv × DM Sv)} {F H : Hp} {ps : List Addr} {L : Led} {Q : List (V × V) → Hp → Prop}, Same G0 G → HS K mg G F H ps L → Slots K mg G0 G F ps σ ρ →
    (dPairs fs ρ L).wp (fun prs L' => ∀ F' H' ps' vs, Ext F ps F' ps' → HS K mg G F' H' ps' L' → PrsOk K mg G F' ps' vs prs → Q vs H') (EE K mg G0 F ps W) → tPairs (fs.map fun f => (tE K mg W f.1, tE K mg W f.2)) σ H Q
  | [], F, H, ps, L, Q, g0, I, S, h => h F H ps [] (Ext.refl _ _) I .nil
  | (fk, fv) :: r, F, H, ps, L, Q, g0, I, S, h => by
    refine tE_unf g0 I S (Res.wp_bind h) (fun x L1 h1 v F1 H1 p1 x1 I1 r1 => ?_) fun e r L' q => q
    refine tE_unf g0 I1 (S.ext x1) (Res.wp_bind h1) (fun y L2 h2 v2 F2 H2 p2 x2 I2 r2 => ?_) fun e r L' q => EE.ext x1 q
    refine tPairs_of g0 I2 ((S.ext x1).ext x2) (Res.wp_mono (Res.wp_bind h2) (fun prs L3 h3 F3 H3 p3 vs x3 I3 r3 => ?_) fun e r L' q => EE.ext (x1.trans x2) q)
    exact h3 F3 H3 p3 _ (x1.trans (x2.trans x3)) I3 (.cons ⟨r1.ext (x2.trans x3), r2.ext x3⟩ r3)
theorem keyd_rel {F : Hp} {ps : List Addr} : ∀ {prs : List (Sv × Sv)} {ks : List (Key × Dv)} {vs : List (V × V)}, keyd prs = some ks → PrsOk K mg G F ps vs prs → ∃ ws : List (Key × V), vs = ws.map (fun kv => (kV kv.1, kv.2)) ∧ RDk K mg F ps ws ks
  | [], _, _, e, .nil => by cases e; exact ⟨[], rfl, .nil⟩
  | (a, s) :: prs, ks, _, e, .cons (a := w0) h r => by
    unfold keyd at e
    split at e
    · rename_i z; cases z
    · rename_i a' d' r' z
      cases z
      split at e
      · rename_i k ks' hk hks
        cases e
        obtain ⟨ws, e1, rr⟩ := keyd_rel hks r
        obtain ⟨e2, z2⟩ := xv_key h.1 hk
        refine ⟨(k, w0.2) :: ws, ?_, .cons z2 h.2 rr⟩
        rw [e1, List.map_cons, ← e2]
      · cases e
    · cases e
theorem RDk.append {F : Hp} {ps : List Addr} : ∀ {ws ws' : List (Key × V)} {ks ks' : List (Key × Dv)}, RDk K mg F ps ws ks → RDk K mg F ps ws' ks' → RDk K mg F ps (ws ++ ws') (ks ++ ks')
  | _, _, _, _, .nil, s => s
  | _, _, _, _, .cons z h r, s => .cons z h (RDk.append r s)
theorem RDk.any {F : Hp} {ps : List Addr} (k : Key) : ∀ {ws : List (Key × V)} {ks : List (Key × Dv)}, RDk K mg F ps ws ks → (ws.any fun kv => decide (kv.1 = k)) = ks.any fun kv => decide (kv.1 = k)
  | _, _, .nil => rfl
  | _, _, .cons z h r => by rw [List.any_cons, List.any_cons, RDk.any k r]
theorem RDk.mapPut {F : Hp} {ps : List Addr} (k : Key) {v : V} {d : Dv} (hv : RD K mg F ps v d) : ∀ {ws : List (Key × V)} {ks : List (Key × Dv)}, RDk K mg F ps ws ks → RDk K mg F ps (ws.map fun kv => if kv.1 = k then (kv.1, v) else kv) (ks.map fun kv => if kv.1 = k then (kv.1, d) else kv)
  | _, _, .nil => .nil
  | _, _, .cons (k := k2) z h r => by
    rw [List.map_cons, List.map_cons]
    by_cases e : k2 = k
    · rw [if_pos e, if_pos e]; exact .cons z hv (RDk.mapPut k hv r)
    · rw [if_neg e, if_neg e]; exact .cons z h (RDk.mapPut k hv r)
theorem RDk.put {F : Hp} {ps : List Addr} {ws : List (Key × V)} {ks : List (Key × Dv)} {k : Key} {v : V} {d : Dv} (r : RDk K mg F ps ws ks) (hz : ∀ x, k = .inr x → x.length ≤ sizeLine) (hv : RD K mg F ps v d) : RDk K mg F ps (putK ws k v) (putD ks k d) := by
  unfold putK putD
  rw [RDk.any k r]
  split
  · exact r.mapPut k hv
  · exact r.append (.cons hz hv .nil)
theorem RDk.merge {F : Hp} {ps : List Addr} : ∀ {more : List (Key × V)} {more' : List (Key × Dv)} {ws : List (Key × V)} {ks : List (Key × Dv)}, RDk K mg F ps more more' → RDk K mg F ps ws ks → RDk K mg F ps (mergeK ws more) (mergeD ks more')
  | _, _, _, _, .nil, s => s
  | _, _, ws, ks, .cons (k := k) (v := v) (vs := vs) (d := d) (ds := ds) z h r, s => show RDk K mg F ps (mergeK (putK ws k v) vs) (mergeD (putD ks k d) ds) from RDk.merge r (s.put z h)
theorem mergeD_len : ∀ (more ks : List (Key × Dv)), (mergeD ks more).length ≤ ks.length + more.length
  | [], ks => by show ks.length ≤ ks.length + 0; omega
  | p :: r, ks => by
    have h1 := mergeD_len r (putD ks p.1 p.2)
    have h2 : (putD ks p.1 p.2).length ≤ ks.length + 1 := by
      unfold putD
      split
      · simp
      · simp
    show (mergeD (putD ks p.1 p.2) r).length ≤ _
    rw [List.length_cons]; omega
end
/-- what a display gives -/
def dDisp {α : Type} (fs : List (DM Sv × DM Sv)) (k : List (Key × Dv) → DM α) : DM α := fun ρ L => (dPairs fs ρ L).bind fun prs L1 => match keyd prs with
  | some ks => if ks.length ≤ 15 then k (mergeD [] ks) ρ L1 else .bad
  | none => .bad
def dDic (fs : List (DM Sv × DM Sv)) : DM Sv := dDisp fs fun ks _ L => .ok (.val (.dic ks)) L
def dDicO (fs : List (DM Sv × DM Sv)) : DM Sv := dDisp fs fun ks _ L => .ok (.val (.own L.length)) (L ++ [.dic ks])
section
variable {X : Cx} {W : WX} {pos : Pos} {keys : List (Option Expr)} {values : List Expr} {fs : List (DM Sv × DM Sv)}
abbrev DPs (X : Cx) (W : WX) (pos : Pos) (keys : List (Option Expr)) (values : List Expr) (fs : List (DM Sv × DM Sv)) : Prop := PPs X pos keys values (fs.map fun f => (tE X.K X.mg' W f.1, tE X.K X.mg' W f.2))
theorem dps_nil : DPs X W pos [] [] [] := pps_nil
theorem dps_cons {k v : Expr} {ks : List (Option Expr)} {vs : List Expr} {fk fv : DM Sv} (hk : DE X W k fk) (hv : DE X W v fv) (hr : DPs X W pos ks vs fs) : DPs X W pos (some k :: ks) (v :: vs) ((fk, fv) :: fs) := pps_cons hk hv hr
/-- a display's new dict, at the end: held in the frame at p -/
theorem disp_of {α : Type} {K : PySem.W.Frag} {mg : Str → Option Value} {σ : List (Option V)} {H : Hp} {Q : VK} {k : List (Key × Dv) → DM α} {G0 G F : Hp} {ps : List Addr} {ρ : Slo} {L : Led} {P : α → Led → Prop} (g0 : Same G0 G) (I : HS K mg G F H ps L) (S : Slots K mg G0 G F ps σ ρ)
    (h : (dDisp fs k ρ L).wp P (EE K mg G0 F ps W))
    (hQ : ∀ ks L1 F1 H1 p1 ws p, (k ks ρ L1).wp P (EE K mg G0 F ps W) → Ext F ps F1 p1 → G p = none → F1 p = none → HS K mg (upd G p (.dK ws)) F1 H1 p1 L1 → H1 p = some (.dK ws) → ws.length ≤ sizeLine → RDk K mg F1 p1 ws ks → Q (.ref p) H1) : tDisp (fs.map fun f => (tE K mg W f.1, tE K mg W f.2)) σ H Q := by
  intro p hp
  have gp : G p = none := I.frame.free hp
  have sG : ∀ u : HO, Same G (upd G p u) := fun u b o e => by rw [upd_ne (ne_of_none e gp)]; exact e
  refine tPairs_of (g0.trans (sG _)) (I.hold hp) (S.gr (sG _)) (Res.wp_mono (Res.wp_bind h) (fun prs L1 h1 F1 H1 p1 vs x1 I1 r1 => ?_) fun e r L' q => q)
  split at h1
  · rename_i ks hk
    split at h1
    · rename_i hz
      obtain ⟨ws, e1, rr⟩ := keyd_rel hk r1
      have hl : ws.length ≤ 15 := by rw [rr.length]; exact hz
      refine ⟨I1.frame _ _ upd_same, ws, e1, hl, ?_⟩
      have I2 := I1.write (u := .dK (mergeK [] ws)) (upd_same (H := G)) fun _ q => by cases q
      have e0 : ∀ b o, upd G p (.dK (mergeK [] ws)) b = some o → upd (upd G p (.dK [])) p (.dK (mergeK [] ws)) b = some o := fun b o e => by
        by_cases hb : b = p
        · subst hb; rw [upd_same] at e ⊢; exact e
        · rw [upd_ne hb] at e; rw [upd_ne hb, upd_ne hb]; exact e
      refine hQ _ L1 F1 _ p1 (mergeK [] ws) p h1 x1 gp ?_ (I2.weak e0) upd_same ?_ (RDk.merge rr .nil)
      · exact I1.apart p (by rw [upd_same]; simp)
      · have := length_mergeK ws []
        rw [sizeLine_eq]
        simp at this; omega
    · exact h1.elim
  · exact h1.elim
theorem de_dic (h : DPs X W pos keys values fs) (hall : keys.all (·.isSome) = true) (hl : keys.length = values.length) (h0 : keys ≠ []) (h15 : keys.length ≤ 15) : DE X W (.Dict keys values pos) (dDic fs) :=
  imE (pe_disp h hall hl h0 h15) fun σ H Q h => by
    obtain ⟨G0, G, F, ps, ρ, L, g0, I, S, h⟩ := h
    refine disp_of g0 I S h fun ks L1 F1 H1 p1 ws p h1 x1 gp fp I1 hp z rr => ?_
    obtain ⟨I2, x2⟩ := I1.frz (upd_same (H := G) (o := HO.dK ws))
    refine h1 _ _ H1 p1 (x1.trans x2) (I2.weak fun b o e => ?_) (.dic (.inl upd_same) z (RDk.ext x2 rr))
    rw [cut_ne (ne_of_none e gp), upd_ne (ne_of_none e gp)]; exact e
theorem de_dic0 : DE X W (.Dict [] [] pos) (fun _ L => .ok (.val (.dic [])) L) := imE pe_dnewK fun σ H Q h => by
  obtain ⟨G0, G, F, ps, ρ, L, g0, I, S, h⟩ := h
  intro p hp
  obtain ⟨I2, x2, _⟩ := I.grow (o := .dK []) hp
  exact h _ _ _ _ x2 I2 (.dic (.inl upd_same) (Nat.zero_le _) .nil)
end
end DL

/-! DL, part 13: targets, parallel stores. -/
namespace DL
open PySem PySem.Spec PyProof.Rows L2
theorem PSet.or {X : Cx} {r r' : TSet} (h : PSet X r) (h' : PSet X r') : PSet X (fun o i v H Q => r o i v H Q ∨ r' o i v H Q) := by
  intro pins s σ H o i v ov iv u Q I ro ri rv q
  rcases q with q | q
  · exact h pins s σ H o i v ov iv u Q I ro ri rv q
  · exact h' pins s σ H o i v ov iv u Q I ro ri rv q
def rSet2 : TSet := fun o i v H Q => rSetL o i v H Q ∨ rSetD o i v H Q
theorem pset2 {X : Cx} (hu : X.A.units + 1 < cLine) : PSet X rSet2 := PSet.or set_list (set_dict hu)
/-! ### o[i] = v, o a thing of the ledger -/
def setLed (o i s : Sv) (L : Led) : Option Led := match o, s with
  | .val (.own k), .val d => match L[k]? with
    | some (.lst xs) => match i with
      | .val (.int j) => (ixN xs.length j).map fun m => L.set k (.lst (xs.set m d))
      | _ => none
    | some (.dic ks) => match i.key with
      | some key => if ks.length < sizeLine then some (L.set k (.dic (putD ks key d))) else none
      | none => none
    | _ => none
  | _, _ => none
def gSt (fo fi : DM Sv) : Sv → DM Slo := fun s ρ L => noErr ((fo ρ L).bind fun o L1 => (fi ρ L1).bind fun i L2 => match setLed o i s L2 with
  | some L3 => .ok ρ L3
  | none => .bad)
section
variable {K : PySem.W.Frag} {mg : Str → Option Value} {G0 G F H : Hp} {ps : List Addr} {L : Led} {σ : List (Option V)} {ρ : Slo} {W : WX}
theorem putK_len {ws : List (Key × V)} {k : Key} {v : V} (h : ws.length < sizeLine) : (putK ws k v).length ≤ sizeLine := by
  have := length_putK ws k v
  omega
theorem putD_len (ks : List (Key × Dv)) (k : Key) (d : Dv) : (putD ks k d).length ≤ ks.length + 1 := by
  unfold putD
  split <;> simp
theorem set_of {o i v : V} {so si s : Sv} {L' : Led} {Q : Hp → Prop} (I : HS K mg G F H ps L) (ro : XvOk K mg G F ps o so) (ri : XvOk K mg G F ps i si) (rv : XvOk K mg G F ps v s) (e : setLed so si s L = some L') (q : ∀ H', HS K mg G F H' ps L' → Q H') : rSet2 o i v H Q := by
  unfold setLed at e
  split at e
  · rename_i k d
    obtain ⟨p, rfl, hp⟩ := xv_own ro
    split at e
    · rename_i xs hL
      obtain ⟨vs, hv, z, rs⟩ := I.at_ k p _ hp hL
      split at e
      · rename_i j
        rw [xv_int ri]
        cases hx : ixN xs.length j with
        | none => rw [hx] at e; cases e
        | some m =>
          rw [hx] at e; cases e
          refine .inl ⟨p, vs, j, m, rfl, rfl, hv, by rw [rs.length]; exact hx, q _ ?_⟩
          exact I.led hp hv (fun _ z => by cases z) ⟨_, upd_same, by rw [List.length_set]; exact z, rs.set m rv⟩
      · cases e
    · rename_i ks hL
      obtain ⟨ws, hv, z, rs⟩ := I.at_ k p _ hp hL
      split at e
      · rename_i key hk
        split at e
        · rename_i hz
          cases e
          obtain ⟨rfl, zk⟩ := xv_key ri hk
          have hz2 : ws.length < sizeLine := by rw [rs.length]; exact hz
          refine .inr ⟨p, _, rfl, .inl ⟨ws, key, hv, rfl, hz2, rfl⟩, q _ ?_⟩
          exact I.led hp hv (fun _ z => by cases z) ⟨_, upd_same, putK_len hz2, rs.put zk rv⟩
        · cases e
      · cases e
    · cases e
  · cases e
end
theorem noErr_ne {α : Type} {r : Res α} {e : Exn} {s : Slo} {L : Led} : noErr r ≠ .err e s L := by
  cases r <;> intro q <;> cases q
theorem gSt_ne {fo fi : DM Sv} : ∀ s ρ L e r L', gSt fo fi s ρ L ≠ .err e r L' := fun _ _ _ _ _ _ => noErr_ne
section
variable {X : Cx} {W : WX} {o i : Expr} {fo fi : DM Sv} {pos : Pos}
theorem dg_sub (hu : X.A.units + 1 < cLine) (ho : DE X W o fo) (hi : DE X W i fi)
    (ha : ∀ v, assign (.Subscript o i pos) X.env v = (do
      let ov ← holding [v] (eval o X.env)
      let iv ← holding [v, ov] (eval i X.env)
      standAt pos
      holding [v, ov, iv] (setItem ov iv v)
      release [v, ov, iv] []) := by intro _; rfl) : DG X (.Subscript o i pos) (gSt fo fi) :=
  imG (pg_sub ho hi (pset2 hu) ha) fun v σ H Q h => by
    obtain ⟨G0, G, F, ps, ρ, L, s, g0, I, S, r, h⟩ := h
    refine tE_unf (W := W) (E := fun _ _ _ => False) g0 I S (Res.wp_bind (noErr_wp h)) (fun so L1 h1 ov F1 H1 p1 x1 I1 r1 => ?_) fun e r L' q => q.elim
    refine tE_unf (W := W) (E := fun _ _ _ => False) g0 I1 (S.ext x1) (Res.wp_bind h1) (fun si L2 h2 iv F2 H2 p2 x2 I2 r2 => ?_) fun e r L' q => q.elim
    split at h2
    · rename_i L3 hl
      have xx := x1.trans x2
      exact set_of I2 (r1.ext x2) r2 (r.ext xx) hl fun H' I' => h2 σ G F2 H' p2 g0 xx I' (S.ext xx)
    · exact h2.elim
end
/-! ### tuples of any targets -/
def tGts (K : PySem.W.Frag) (mg : Str → Option Value) (g : List Dv → DM Slo) : TGs := fun vs σ H Q => ∃ G0 G F ps ρ L ds, Same G0 G ∧ HS K mg G F H ps L ∧ Slots K mg G0 G F ps σ ρ ∧ RDs K mg F ps vs ds ∧
  (g ds ρ L).wp (fun r L' => ∀ σ' G' F' H' ps', Same G0 G' → Ext F ps F' ps' → HS K mg G' F' H' ps' L' → Slots K mg G0 G' F' ps' σ' r → Q σ' H') (fun _ _ _ => False)
abbrev DGs (X : Cx) (es : List Expr) (g : List Dv → DM Slo) : Prop := PGs X es (tGts X.K X.mg' g)
def gs0 : List Dv → DM Slo := fun ds ρ L => match ds with
  | [] => .ok ρ L
  | _ => .bad
def gsC (g : Sv → DM Slo) (gs : List Dv → DM Slo) : List Dv → DM Slo := fun ds ρ L => match ds with
  | d :: ds => (g (.val d) ρ L).bind fun r L1 => gs ds r L1
  | [] => .bad
def gTup' (n : Nat) (gs : List Dv → DM Slo) : Sv → DM Slo := fun s ρ L => match s with
  | .val (.tup ds) => if ds.length = n then noErr (gs ds ρ L) else .bad
  | _ => .bad
theorem imGs {X : Cx} {es : List Expr} {t t' : TGs} (p : PGs X es t) (h : ∀ v σ H Q, t' v σ H Q → t v σ H Q) : PGs X es t' := ⟨fun pins s σ H vs us Q I r w => p.run pins s σ H vs us Q I r (h vs σ H Q w)⟩
section
variable {X : Cx} {e : Expr} {es : List Expr} {g : Sv → DM Slo} {gs : List Dv → DM Slo} {pos : Pos}
theorem dgs_nil : DGs X [] gs0 := imGs pgs_nil fun vs σ H Q h => by
  obtain ⟨G0, G, F, ps, ρ, L, ds, g0, I, S, r, h⟩ := h
  cases r with
  | nil => exact ⟨rfl, h σ G F H ps g0 (Ext.refl _ _) I S⟩
  | cons _ _ => exact h.elim
theorem dgs_cons (h1 : DG X e g) (h2 : DGs X es gs) (hs : (assignEach (e :: es) X.env).map (·.2) = assign e X.env :: (assignEach es X.env).map (·.2)) : DGs X (e :: es) (gsC g gs) := imGs (pgs_cons h1 h2 hs) fun vs σ H Q h => by
  obtain ⟨G0, G, F, ps, ρ, L, ds, g0, I, S, r, h⟩ := h
  cases r with
  | nil => exact h.elim
  | cons r rr =>
    refine ⟨_, _, rfl, G0, G, F, ps, ρ, L, Sv.val _, g0, I, S, r, Res.wp_mono (Res.wp_bind h) (fun r1 L1 h1 σ1 G1 F1 H1 p1 g1 x1 I1 S1 => ?_) fun _ _ _ q => q⟩
    exact ⟨G0, G1, F1, p1, r1, L1, _, g1, I1, S1, RDs.ext x1 rr, Res.wp_mono h1 (fun r2 L2 h2 σ2 G2 F2 H2 p2 g2 x2 I2 S2 => h2 σ2 G2 F2 H2 p2 g2 (x1.trans x2) I2 S2) fun _ _ _ q => q⟩
theorem dg_tupG {k n : Nat} (hc : X.calm = true) (h : DGs X es gs) (hn : (assignEach es X.env).length = n := by rfl) (hst : (assignEach es X.env).findIdx? (·.1) = none := by rfl) : DG X (.Tuple es k pos) (gTup' n gs) :=
  imG (pg_tup (n := n) hc h hn hst) fun v σ H Q h => by
    obtain ⟨G0, G, F, ps, ρ, L, s, g0, I, S, r, h⟩ := h
    unfold gTup' at h
    split at h
    · split at h
      · rename_i hl
        obtain ⟨p, vs, rfl, fp, hp, z, rs⟩ := xv_tup I r
        exact ⟨p, vs, rfl, SqT.of hp, by rw [rs.length]; exact hl, G0, G, F, ps, ρ, L, _, g0, I, S, rs, noErr_wp h⟩
      · exact h.elim
    · exact h.elim
theorem gTup'_ne {n : Nat} : ∀ s ρ L e r L', gTup' n gs s ρ L ≠ .err e r L' := fun s ρ L e r L' q => by
  unfold gTup' at q
  split at q
  · split at q
    · exact noErr_ne q
    · cases q
  · cases q
end
/-! ### a, b = x, y: some of the values new things of the frame's own -/
inductive Pit where
  | e (f : DM Sv) | l (f : DM (List Sv)) | d0
def dPm : List Pit → DM (List Sv)
  | [], _, L => .ok [] L
  | .e f :: r, ρ, L => (f ρ L).bind fun s L1 => match s with
    | .val d => (dPm r ρ L1).bind fun ss L2 => .ok (.val d :: ss) L2
    | _ => .bad
  | .l f :: r, ρ, L => (f ρ L).bind fun zs L1 => match vals zs with
    | some ds => if ds.length ≤ sizeLine then (dPm r ρ L1).bind fun ss L2 => .ok (.mu ds :: ss) L2 else .bad
    | none => .bad
  | .d0 :: r, ρ, L => (dPm r ρ L).bind fun ss L2 => .ok (.muD [] :: ss) L2
section
variable {K : PySem.W.Frag} {mg : Str → Option Value} {G0 G F H : Hp} {ps : List Addr} {L : Led} {σ τ σ' : List (Option V)} {ρ υ ρ' : Slo} {W : WX}
theorem Slots.map (S : Slots K mg G0 G F ps σ ρ) (f : Nat → Nat) (hl : ρ'.length = σ'.length) (h : ∀ j s, ρ'[j]? = some (some s) → ρ[f j]? = some (some s) ∧ σ'[j]? = σ[f j]?) (hi : ∀ i j, f i = f j → i = j) : Slots K mg G0 G F ps σ' ρ' := by
  refine ⟨hl, fun i s e => ?_, fun i j s t v hi2 hj2 m1 m2 h1 h2 => ?_⟩
  · obtain ⟨a, b⟩ := h i s e
    rw [b]; exact S.at_ _ s a
  · obtain ⟨a, b⟩ := h i s hi2
    obtain ⟨c, d⟩ := h j t hj2
    exact hi _ _ (S.sep _ _ s t v a c m1 m2 (b.symm.trans h1) (d.symm.trans h2))
theorem Slots.pre (S : Slots K mg G0 G F ps (σ ++ τ) (ρ ++ υ)) (hl : ρ.length = σ.length) : Slots K mg G0 G F ps σ ρ :=
  S.map id hl (fun j s e => by
    have hj : j < ρ.length := (List.getElem?_eq_some_iff.mp e).1
    exact ⟨by rw [id, List.getElem?_append_left hj]; exact e, by rw [id, List.getElem?_append_left (by omega)]⟩) fun _ _ e => e
theorem Slots.mv {v : V} {s : Sv} {i : Nat} (S : Slots K mg G0 G F ps (σ ++ some v :: τ) (ρ ++ some s :: υ)) (hl : ρ.length = σ.length) (hi : i < σ.length) : Slots K mg G0 G F ps (σ.set i (some v) ++ τ) (ρ.set i (some s) ++ υ) := by
  have hlen := S.len
  refine S.map (fun j => if j = i then σ.length else if j < σ.length then j else j + 1) (by simp at hlen ⊢; omega) (fun j t e => ?_) fun a b e => ?_
  · by_cases h : j = i
    · subst h
      rw [List.getElem?_append_left (by simp; omega), List.getElem?_set_self (by omega)] at e
      cases e
      simp only [if_true]
      refine ⟨?_, ?_⟩
      · rw [← hl, List.getElem?_append_right (Nat.le_refl _)]; simp
      · rw [List.getElem?_append_left (by simp; omega), List.getElem?_set_self hi, List.getElem?_append_right (Nat.le_refl _)]; simp
    · simp only [if_neg h]
      by_cases h2 : j < σ.length
      · simp only [if_pos h2]
        rw [List.getElem?_append_left (by simp; omega), List.getElem?_set_ne (Ne.symm h)] at e
        refine ⟨by rw [List.getElem?_append_left (by omega)]; exact e, ?_⟩
        rw [List.getElem?_append_left (by simp; omega), List.getElem?_set_ne (Ne.symm h), List.getElem?_append_left h2]
      · simp only [if_neg h2]
        rw [List.getElem?_append_right (by simp; omega)] at e
        refine ⟨?_, ?_⟩
        · rw [List.getElem?_append_right (by omega), show j + 1 - ρ.length = (j - ρ.length) + 1 by omega, List.getElem?_cons_succ]
          simpa using e
        · rw [List.getElem?_append_right (by simp; omega), List.getElem?_append_right (by omega), show j + 1 - σ.length = (j - σ.length) + 1 by omega, List.getElem?_cons_succ]
          simp
  · split at e <;> split at e <;> (try split at e) <;> (try split at e) <;> omega
theorem Slots.snoc {v : V} {d : Dv} (S : Slots K mg G0 G F ps σ ρ) (r : RD K mg F ps v d) : Slots K mg G0 G F ps (σ ++ [some v]) (ρ ++ [some (.val d)]) := by
  have hl := S.len
  refine ⟨by simp [hl], fun i s e => ?_, fun i j s t u hi hj m1 m2 h1 h2 => ?_⟩
  · by_cases h : i < ρ.length
    · rw [List.getElem?_append_left h] at e
      rw [List.getElem?_append_left (by omega)]
      exact S.at_ i s e
    · have h2 := (List.getElem?_eq_some_iff.mp e).1
      simp at h2
      have e2 : i = ρ.length := by omega
      subst e2
      rw [List.getElem?_append_right (Nat.le_refl _)] at e
      simp at e; subst e
      exact ⟨v, by rw [hl, List.getElem?_append_right (Nat.le_refl _)]; simp, r⟩
  · have lt : ∀ {i : Nat} {s : Sv}, (ρ ++ [some (.val d)])[i]? = some (some s) → s.isMut = true → i < ρ.length := fun {i s} hi m => by
      by_cases h : i < ρ.length
      · exact h
      · have h2 := (List.getElem?_eq_some_iff.mp hi).1
        simp at h2
        have e2 : i = ρ.length := by omega
        subst e2
        rw [List.getElem?_append_right (Nat.le_refl _)] at hi
        simp at hi; subst hi; cases m
    have a := lt hi m1
    have b := lt hj m2
    rw [List.getElem?_append_left a] at hi
    rw [List.getElem?_append_left b] at hj
    rw [List.getElem?_append_left (by omega)] at h1
    rw [List.getElem?_append_left (by omega)] at h2
    exact S.sep i j s t u hi hj m1 m2 h1 h2
theorem Slots.snocM {p : Addr} {u : HO} {s : Sv} (S : Slots K mg G0 G F ps σ ρ) (hp : G p = none) (g0 : Same G0 G) (r : SvOk K mg G0 (upd G p u) F ps (.ref p) s) (hs : s.isMut = true) : Slots K mg G0 (upd G p u) F ps (σ ++ [some (.ref p)]) (ρ ++ [some s]) := by
  have hl := S.len
  have S2 : Slots K mg G0 G F ps (σ ++ [none]) (ρ ++ [none]) := by
    refine S.map id (by simp [hl]) (fun j s e => ?_) fun _ _ e => e
    by_cases h : j < ρ.length
    · rw [List.getElem?_append_left h] at e
      exact ⟨e, by rw [id, List.getElem?_append_left (by omega)]⟩
    · have h2 := (List.getElem?_eq_some_iff.mp e).1
      simp at h2
      have e2 : j = ρ.length := by omega
      subst e2
      rw [List.getElem?_append_right (Nat.le_refl _)] at e
      simp at e
  have S3 := S2.own (i := σ.length) hp g0 r hs
  have e1 : (σ ++ [none]).set σ.length (some (V.ref p)) = σ ++ [some (.ref p)] := by
    rw [List.set_append_right _ _ (Nat.le_refl _)]; simp
  have e2 : (ρ ++ [none]).set σ.length (some s) = ρ ++ [some s] := by
    rw [← hl, List.set_append_right _ _ (Nat.le_refl _)]; simp
  rw [e1, e2] at S3
  exact S3
end
def tPm (K : PySem.W.Frag) (mg : Str → Option Value) (W : WX) (f : DM (List Sv)) : TA := fun σ H Q => ∃ G0 G F ps ρ L τ υ, Same G0 G ∧ HS K mg G F H ps L ∧ Slots K mg G0 G F ps (σ ++ τ) (ρ ++ υ) ∧ ρ.length = σ.length ∧
  (f ρ L).wp (fun ss L' => ∀ vs G' F' H' ps', Same G0 G' → Ext F ps F' ps' → HS K mg G' F' H' ps' L' → Slots K mg G0 G' F' ps' (σ ++ (τ ++ vs.map some)) (ρ ++ (υ ++ ss.map some)) → vs.length = ss.length → Q vs H') (EE K mg G0 F ps W)
abbrev DPm (X : Cx) (W : WX) (es : List Expr) (is : List Pit) : Prop := PA X es (tPm X.K X.mg' W (dPm is))
section
variable {X : Cx} {W : WX} {e : Expr} {es : List Expr} {r : List Pit} {f : DM Sv} {fl : DM (List Sv)} {pos : Pos}
theorem dpm_nil : DPm X W [] [] := imA pa_nil fun σ H Q h => by
  obtain ⟨G0, G, F, ps, ρ, L, τ, υ, g0, I, S, hl, h⟩ := h
  exact h [] G F H ps g0 (Ext.refl _ _) I (by simpa using S) rfl
theorem dpm_e (he : DE X W e f) (hr : DPm X W es r) (hs : starEach (e :: es) X.env = (false, eval e X.env) :: starEach es X.env := by rfl) : DPm X W (e :: es) (.e f :: r) := imA (pa_cons he hr hs) fun σ H Q h => by
  obtain ⟨G0, G, F, ps, ρ, L, τ, υ, g0, I, S, hl, h⟩ := h
  refine tE_unf g0 I (S.pre hl) (Res.wp_bind h) (fun s L1 h1 v F1 H1 p1 x1 I1 r1 => ?_) fun e r L' q => q
  split at h1
  · rename_i d
    have S1 := (S.ext x1).snoc r1
    rw [List.append_assoc, List.append_assoc] at S1
    refine ⟨G0, G, F1, p1, ρ, L1, τ ++ [some v], υ ++ [some (.val d)], g0, I1, S1, hl, Res.wp_mono (Res.wp_bind h1) (fun ss L2 h2 vs G2 F2 H2 p2 g2 x2 I2 S2 hv => ?_) fun e r L' q => EE.ext x1 q⟩
    refine h2 (v :: vs) G2 F2 H2 p2 g2 (x1.trans x2) I2 ?_ (by simp [hv])
    simpa using S2
  · exact h1.elim
theorem dpm_l {ls : List Expr} (he : DA X W ls fl) (hr : DPm X W es r) (hs : starEach (.List ls pos :: es) X.env = (false, eval (.List ls pos) X.env) :: starEach es X.env := by rfl) : DPm X W (.List ls pos :: es) (.l fl :: r) := imA (pa_cons (pe_lst he) hr hs) fun σ H Q h => by
  obtain ⟨G0, G, F, ps, ρ, L, τ, υ, g0, I, S, hl, h⟩ := h
  refine ⟨G0, G, F, ps, ρ, L, g0, I, S.pre hl, Res.wp_mono (Res.wp_bind h) (fun zs L1 h1 vs F1 H1 p1 x1 I1 r1 => ?_) fun e r L' q => q⟩
  split at h1
  · rename_i ds hv
    split at h1
    · rename_i hz
      have r2 := vals_ok hv r1
      have z2 : vs.length ≤ sizeLine := by rw [r2.length]; exact hz
      refine ⟨z2, fun p hp => ?_⟩
      have gp : G p = none := I1.frame.free hp
      have S1 := (S.ext x1).snocM (u := .lst vs) (s := .mu ds) gp g0 ⟨p, vs, rfl, g0.free gp, upd_same, z2, r2⟩ rfl
      rw [List.append_assoc, List.append_assoc] at S1
      have g1 : Same G0 (upd G p (.lst vs)) := fun b o q => by rw [upd_ne (ne_of_none (g0 _ _ q) gp)]; exact g0 _ _ q
      refine ⟨G0, _, F1, p1, ρ, L1, τ ++ [some (.ref p)], υ ++ [some (.mu ds)], g1, I1.hold hp, S1, hl, Res.wp_mono (Res.wp_bind h1) (fun ss L2 h2 ws G2 F2 H2 p2 g2 x2 I2 S2 hw => ?_) fun e r L' q => EE.ext x1 q⟩
      refine h2 (.ref p :: ws) G2 F2 H2 p2 g2 (x1.trans x2) I2 ?_ (by simp [hw])
      simpa using S2
    · exact h1.elim
  · exact h1.elim
theorem dpm_d0 (hr : DPm X W es r) (hs : starEach (.Dict [] [] pos :: es) X.env = (false, eval (.Dict [] [] pos) X.env) :: starEach es X.env := by rfl) : DPm X W (.Dict [] [] pos :: es) (.d0 :: r) := imA (pa_cons pe_dnewK hr hs) fun σ H Q h => by
  obtain ⟨G0, G, F, ps, ρ, L, τ, υ, g0, I, S, hl, h⟩ := h
  intro p hp
  have gp : G p = none := I.frame.free hp
  have S1 := S.snocM (u := .dK []) (s := .muD []) gp g0 ⟨p, [], rfl, g0.free gp, upd_same, Nat.zero_le _, .nil⟩ rfl
  rw [List.append_assoc, List.append_assoc] at S1
  have g1 : Same G0 (upd G p (.dK [])) := fun b o q => by rw [upd_ne (ne_of_none (g0 _ _ q) gp)]; exact g0 _ _ q
  refine ⟨G0, _, F, ps, ρ, L, τ ++ [some (.ref p)], υ ++ [some (.muD [])], g1, I.hold hp, S1, hl, Res.wp_mono (Res.wp_bind h) (fun ss L2 h2 ws G2 F2 H2 p2 g2 x2 I2 S2 hw => ?_) fun e r L' q => q⟩
  refine h2 (.ref p :: ws) G2 F2 H2 p2 g2 x2 I2 ?_ (by simp [hw])
  simpa using S2
def sPar (i j : Nat) (is : List Pit) : DM Fl := fun ρ L => (dPm is ρ L).bind fun ss L1 => match ss with
  | [s, t] => .ok (.nx ((ρ.set i (some s)).set j (some t))) L1
  | _ => .bad
def sPar3 (i j l : Nat) (is : List Pit) : DM Fl := fun ρ L => (dPm is ρ L).bind fun ss L1 => match ss with
  | [s, t, u] => .ok (.nx (((ρ.set i (some s)).set j (some t)).set l (some u))) L1
  | _ => .bad
theorem ds_par {i j : Nat} {x y : Str} {a b : Expr} {is : List Pit} {px py pt : Pos} {kt k2 pt2} (hc : X.calm = true) (hN : X.N.Nodup) (hi : X.N[i]? = some x) (hj : X.N[j]? = some y) (hij : i ≠ j)
    (hx : X.env.scope.names.lookup x = some .local) (hy : X.env.scope.names.lookup y = some .local) (ha : DPm X W [a, b] is)
    (hw : swappedStores [.Tuple [.Name x px, .Name y py] kt pt] (.Tuple [a, b] k2 pt2) X.env = pure (some [x, y]))
    (hs : swapsWithSole [.Tuple [.Name x px, .Name y py] kt pt] (.Tuple [a, b] k2 pt2) pos.line X.env = pure false := by rfl) :
    DS X W (.Assign [.Tuple [.Name x px, .Name y py] kt pt] (.Tuple [a, b] k2 pt2) pos) (sPar i j is) := ⟨fun pins s σ H D J h => (ps_par hc hN hi hj hij hx hy ha hw hs).run pins s σ H D J (by
  have hlen := J.len
  have hi' : i < σ.length := by rw [hlen]; exact (List.getElem?_eq_some_iff.mp hi).1
  have hj' : j < σ.length := by rw [hlen]; exact (List.getElem?_eq_some_iff.mp hj).1
  obtain ⟨G0, G, F, ps, ρ, L, g0, I, S, h⟩ := h
  refine ⟨G0, G, F, ps, ρ, L, [], [], g0, I, by simpa using S, S.len, Res.wp_mono (Res.wp_bind h) (fun ss L1 h1 vs G1 F1 H1 p1 g1 x1 I1 S1 hv => ?_) fun e r L' q => q⟩
  split at h1
  · rename_i s t
    match vs, hv with
    | [v, w], _ =>
    refine ⟨v, w, rfl, h1 _ G1 F1 H1 p1 g1 x1 I1 ?_⟩
    simp only [List.nil_append, List.map_cons, List.map_nil] at S1
    have S2 := S1.mv (i := i) S.len hi'
    have S3 := S2.mv (i := j) (by simp [S.len]) (by simpa using hj')
    simpa using S3
  · exact h1.elim)⟩
theorem ds_par3 {i j l : Nat} {x y z : Str} {a b c : Expr} {is : List Pit} {px py pz pt pos : Pos} {kt k2 pt2} (hc : X.calm = true) (hN : X.N.Nodup) (hi : X.N[i]? = some x) (hj : X.N[j]? = some y) (hl : X.N[l]? = some z) (hij : i ≠ j) (hil : i ≠ l) (hjl : j ≠ l)
    (hx : X.env.scope.names.lookup x = some .local) (hy : X.env.scope.names.lookup y = some .local) (hz : X.env.scope.names.lookup z = some .local) (ha : DPm X W [a, b, c] is)
    (hw : swappedStores [.Tuple [.Name x px, .Name y py, .Name z pz] kt pt] (.Tuple [a, b, c] k2 pt2) X.env = pure (some [x, y, z]))
    (hs : swapsWithSole [.Tuple [.Name x px, .Name y py, .Name z pz] kt pt] (.Tuple [a, b, c] k2 pt2) pos.line X.env = pure false := by rfl) :
    DS X W (.Assign [.Tuple [.Name x px, .Name y py, .Name z pz] kt pt] (.Tuple [a, b, c] k2 pt2) pos) (sPar3 i j l is) := ⟨fun pins s σ H D J h => (ps_par3 hc hN hi hj hl hij hil hjl hx hy hz ha hw hs).run pins s σ H D J (by
  have hlen := J.len
  have hi' : i < σ.length := by rw [hlen]; exact (List.getElem?_eq_some_iff.mp hi).1
  have hj' : j < σ.length := by rw [hlen]; exact (List.getElem?_eq_some_iff.mp hj).1
  have hl' : l < σ.length := by rw [hlen]; exact (List.getElem?_eq_some_iff.mp hl).1
  obtain ⟨G0, G, F, ps, ρ, L, g0, I, S, h⟩ := h
  refine ⟨G0, G, F, ps, ρ, L, [], [], g0, I, by simpa using S, S.len, Res.wp_mono (Res.wp_bind h) (fun ss L1 h1 vs G1 F1 H1 p1 g1 x1 I1 S1 hv => ?_) fun e r L' q => q⟩
  split at h1
  · rename_i s t u
    match vs, hv with
    | [v, w, o], _ =>
    refine ⟨v, w, o, rfl, h1 _ G1 F1 H1 p1 g1 x1 I1 ?_⟩
    simp only [List.nil_append, List.map_cons, List.map_nil] at S1
    have S2 := S1.mv (i := i) S.len hi'
    have S3 := S2.mv (i := j) (by simp [S.len]) (by simpa using hj')
    have S4 := S3.mv (i := l) (by simp [S.len]) (by simpa using hl')
    simpa using S4
  · exact h1.elim)⟩
end
end DL

/-! DL, part 14: own errors. -/
namespace DL
open PySem PySem.Spec PyProof.Rows L2
/-! ### S.__init__(self, ..), S an own class that has no __init__ of its own -/
theorem pe_sinit {X : Cx} {x : Str} {S : Addr} {e : Expr} {es : List Expr} {ta : TA} {p1 p2 pos : Pos} {pl : Sem Bool} (hg : Gl X x) (hm : X.mg x = some (.ref S)) (CR : ClX.CRead X.K S (.type "type"))
    (vV : PySem.W.findCls X.K (.ref S) (.type "type") "__init__" = some (.val (.builtin "ValueError.__init__"))) (ha : PA X (e :: es) ta) (hd : (x == ("__debug__" : Str)) = false := by decide)
    (hc : eval (.Call (.Attribute (.Name x p1) "__init__" p2) (e :: es) [] pos) X.env = (do
      let ov ← eval (.Name x p1) X.env
      standAt p2.atName
      let (f, first) ← holding [ov] (getMethod ov "__init__" pl)
      callWith pos f first (backTo pos (starEach (e :: es) X.env)) (backToKw pos (keywordEach [] X.env))) := by rfl)
    (he : starEach (e :: es) X.env = (false, eval e X.env) :: starEach es X.env := by rfl) (hpl : (backTo pos (starEach es X.env)).any (·.1) = false := by rfl) :
    PE X (.Call (.Attribute (.Name x p1) "__init__" p2) (e :: es) [] pos) (tVeI X.K ta) := ⟨fun pins s σ H Q I h => by
  refine PySem.W.methodCall_KW (ld_glob I hg hm ?_ hd) hc
  refine PySem.W.method_cls I.kIn CR.ga (PySem.W.cls_value I.kIn CR.rd vV rfl ?_)
  show wpAny _ _ (callWith pos (Value.builtin "ValueError.__init__") [] _ []) _ _ _
  refine PyProof.Rows.callWith_method1 (thn (ha.run pos pins _ σ H _ (I.tok _) h) fun us s1 mid => ?_) he hpl
  obtain ⟨vs, H1, J, rel, a, C, ws, rfl, hl, T, ea, q⟩ := mid
  cases rel with
  | @cons _ u0 _ ur ra rw' =>
    cases (show u0 = Value.ref a from ra)
    have hlen : ur.length ≤ 1000 := by rw [← Paired.length rw']; exact hl
    exact oinit_ok T J ea (Nat.le_trans hlen (by rw [sizeLine_eq]; decide)) fun s' J2 => ⟨.non, H1, J2, rfl, q⟩⟩
/-! ### __init__ of an own error -/
/-- self, then the fields' values; behind it the error has its own dict d with the fields (the last one first) -/
def spIni (C : Addr) (fds : List Str) : Sp := fun vs H Q _ => ∃ a ws, vs = .ref a :: ws ∧ ws.length = fds.length ∧ H a = some (exo a C none) ∧
  ∀ d H', H d = none → d ≠ a → H' a = some (exo a C (some d)) → H' d = some (exd d (fds.zip ws).reverse) → (∀ b, b ≠ a → b ≠ d → H' b = H b) → Q .non H'
section
variable {P : Program} {w : World} {K : PySem.W.Frag} {mg : Str → Option Value} {base : Heap} {fI C S : Addr} {q x f g t : Str} {fd : FuncData} {st : Stmt} {p1 p2 p3 p4 p5 p6 p7 p8 p9 p10 p11 p12 p13 p14 p15 p16 : Pos} {j : Nat}
theorem ini1 (F : Fun K "__init__" q st fI fd) (Sc : FnScope ["self", f] ["self", f] (defScope st)) (hb : defBody st = [.Expr (.Call (.Attribute (.Name x p1) "__init__" p2) [.Name "self" p3, .Constant (.str t) j p4] [] p5) p6, .Assign [.Attribute (.Name "self" p7) f p8] (.Name f p9) p10])
    (pl : Env → Sem Bool) (hce : ∀ env : Env, eval (.Call (.Attribute (.Name x p1) "__init__" p2) [.Name "self" p3, .Constant (.str t) j p4] [] p5) env = (do
      let ov ← eval (.Name x p1) env
      standAt p2.atName
      let (u, first) ← holding [ov] (getMethod ov "__init__" (pl env))
      callWith p5 u first (backTo p5 (starEach [.Name "self" p3, .Constant (.str t) j p4] env)) (backToKw p5 (keywordEach [] env))))
    (hx : (defScope st).names.lookup x = some NameKind.globalImplicit) (hs1 : (defScope st).names.lookup ("self" : Str) = some NameKind.local) (hs2 : (defScope st).names.lookup f = some NameKind.local) (hm : mg x = some (.ref S)) (CR : ClX.CRead K S (.type "type")) (vV : PySem.W.findCls K (.ref S) (.type "type") "__init__" = some (.val (.builtin "ValueError.__init__")))
    (T : OexC K C) (n1 : PySem.W.findIn K (.ref C) f = some none) (hdx : (x == ("__debug__" : Str)) = false := by decide) (hdf : (f == ("__debug__" : Str)) = false := by decide) (hcf : (f == ("__classdict__" : Str)) = false := by decide) : FnOk P w K mg base (L2.CX P w) 1 fI fd ["self", f] (spIni C [f]) := by
  refine F.okX Sc (fun vs H Q E ⟨a, ws, e, hl, _⟩ => by subst e; simpa using hl) (fun cdv A outer s H vs Q E hr h => ?_)
  rw [hb]
  refine ⟨_, pss_cons (ps_expr (pe_sinit (S := S) hx hm CR vV (pa_cons (pe_var (i := 0) rfl (.inl hs1)) (pa_cons pe_str pa_nil rfl) rfl) hdx (hce _))) (pss_one (ps_ost (pe_var (i := 0) rfl (.inl hs1)) (pe_var (i := 1) rfl (.inl hs2) hdf hcf))), ?_⟩
  obtain ⟨a, ws, rfl, hl, ea, k⟩ := h
  match ws, hl with
  | [v], _ =>
  refine ⟨_, rfl, a, C, [_], rfl, (by decide : 1 ≤ 1000), T, ea, ?_⟩
  refine ⟨v, rfl, _, rfl, a, C, rfl, T, n1, .inl ⟨ea, fun d hd hne => ?_⟩⟩
  exact k d _ hd hne upd_same (by rw [upd_ne hne]; exact upd_same) fun b h1 h2 => by rw [upd_ne h1, upd_ne h2]
theorem ini2 (F : Fun K "__init__" q st fI fd) (Sc : FnScope ["self", f, g] ["self", f, g] (defScope st)) (hb : defBody st = [.Expr (.Call (.Attribute (.Name x p1) "__init__" p2) [.Name "self" p3, .Constant (.str t) j p4] [] p5) p6, .Assign [.Attribute (.Name "self" p7) f p8] (.Name f p9) p10, .Assign [.Attribute (.Name "self" p11) g p12] (.Name g p13) p14])
    (pl : Env → Sem Bool) (hce : ∀ env : Env, eval (.Call (.Attribute (.Name x p1) "__init__" p2) [.Name "self" p3, .Constant (.str t) j p4] [] p5) env = (do
      let ov ← eval (.Name x p1) env
      standAt p2.atName
      let (u, first) ← holding [ov] (getMethod ov "__init__" (pl env))
      callWith p5 u first (backTo p5 (starEach [.Name "self" p3, .Constant (.str t) j p4] env)) (backToKw p5 (keywordEach [] env))))
    (hx : (defScope st).names.lookup x = some NameKind.globalImplicit) (hs1 : (defScope st).names.lookup ("self" : Str) = some NameKind.local) (hs2 : (defScope st).names.lookup f = some NameKind.local) (hs3 : (defScope st).names.lookup g = some NameKind.local) (hm : mg x = some (.ref S)) (CR : ClX.CRead K S (.type "type")) (vV : PySem.W.findCls K (.ref S) (.type "type") "__init__" = some (.val (.builtin "ValueError.__init__")))
    (T : OexC K C) (n1 : PySem.W.findIn K (.ref C) f = some none) (n2 : PySem.W.findIn K (.ref C) g = some none) (hdx : (x == ("__debug__" : Str)) = false := by decide) (hdf : (f == ("__debug__" : Str)) = false := by decide) (hcf : (f == ("__classdict__" : Str)) = false := by decide)
    (hdg : (g == ("__debug__" : Str)) = false := by decide) (hcg : (g == ("__classdict__" : Str)) = false := by decide) : FnOk P w K mg base (L2.CX P w) 1 fI fd ["self", f, g] (spIni C [f, g]) := by
  refine F.okX Sc (fun vs H Q E ⟨a, ws, e, hl, _⟩ => by subst e; simpa using hl) (fun cdv A outer s H vs Q E hr h => ?_)
  rw [hb]
  refine ⟨_, pss_cons (ps_expr (pe_sinit (S := S) hx hm CR vV (pa_cons (pe_var (i := 0) rfl (.inl hs1)) (pa_cons pe_str pa_nil rfl) rfl) hdx (hce _))) (pss_cons (ps_ost (pe_var (i := 0) rfl (.inl hs1)) (pe_var (i := 1) rfl (.inl hs2) hdf hcf)) (pss_one (ps_ost (pe_var (i := 0) rfl (.inl hs1)) (pe_var (i := 2) rfl (.inl hs3) hdg hcg)))), ?_⟩
  obtain ⟨a, ws, rfl, hl, ea, k⟩ := h
  match ws, hl with
  | [v, u], _ =>
  refine ⟨_, rfl, a, C, [_], rfl, (by decide : 1 ≤ 1000), T, ea, ?_⟩
  refine ⟨v, rfl, _, rfl, a, C, rfl, T, n1, .inl ⟨ea, fun d hd hne => ?_⟩⟩
  refine ⟨u, rfl, _, rfl, a, C, rfl, T, n2, .inr ⟨d, _, upd_same, by rw [upd_ne hne]; exact upd_same, by show 1 ≤ 900; decide, ?_⟩⟩
  exact k d _ hd hne (by rw [upd_ne (Ne.symm hne)]; exact upd_same) upd_same fun b h1 h2 => by rw [upd_ne h2, upd_ne h1, upd_ne h2]
end
/-! ### raise -/
def sRaise (x : Str) (fds : List Str) (fa : DM (List Sv)) : DM Fl := fun ρ L => (fa ρ L).bind fun ss L1 => match vals ss with
  | some ds => if ds.length = fds.length then .err ⟨x, (fds.zip ds).reverse⟩ ρ L1 else .bad
  | none => .bad
/-- what is known of an own error's class -/
structure ErrC (K : PySem.W.Frag) (mg : Str → Option Value) (x : Str) (C fI : Addr) : Prop where
  gC : mg x = some (.ref C)
  T : OexC K C
  iC : PySem.W.findIn K (.ref C) "__init__" = some (some (.ref fI))
  tI : PySem.W.typeIn K (.ref fI) = some (.type "function")
section
variable {K : PySem.W.Frag} {mg : Str → Option Value} {G0 G F H : Hp} {ps : List Addr} {L : Led}
/-- a new thing that nobody asks after -/
theorem HS.beside (I : HS K mg G F H ps L) {p : Addr} {u : HO} (hp : H p = none) : HS K mg G F (upd H p u) ps L :=
  (I.hold (u := u) hp).weak fun b o e => by rw [upd_ne (ne_of_none e (I.frame.free hp))]; exact e
theorem RDf.zip {F : Hp} {ps : List Addr} : ∀ {fds : List Str} {vs : List V} {ds : List Dv}, RDs K mg F ps vs ds → RDf K mg F ps (fds.zip vs) (fds.zip ds)
  | [], _, _, _ => by simpa using RDf.nil
  | _ :: _, _, _, .nil => by simpa using RDf.nil
  | f :: fds, _, _, .cons h r => by simpa using RDf.cons h (RDf.zip r)
theorem RDf.append {F : Hp} {ps : List Addr} : ∀ {a c : List (Str × V)} {b d : List (Str × Dv)}, RDf K mg F ps a b → RDf K mg F ps c d → RDf K mg F ps (a ++ c) (b ++ d)
  | _, _, _, _, .nil, s => s
  | _, _, _, _, .cons h r, s => .cons h (RDf.append r s)
theorem RDf.reverse {F : Hp} {ps : List Addr} : ∀ {a : List (Str × V)} {b : List (Str × Dv)}, RDf K mg F ps a b → RDf K mg F ps a.reverse b.reverse
  | _, _, .nil => .nil
  | _, _, .cons h r => by simpa using RDf.append (RDf.reverse r) (.cons h .nil)
end
section
variable {X : Cx} {W : WX} {x : Str} {C fI : Addr} {fds ps : List Str} {e : Expr} {es : List Expr} {fa : DM (List Sv)} {fd : FuncData} {p pos pos2 : Pos} {k : Nat}
theorem ds_raise (hc : X.calm = true) (tk : Takes X W) (E : ErrC X.K X.mg x C fI) (F1 : FnOk X.prog X.w X.K X.mg X.base (L2.CX X.prog X.w) k fI fd ps (spIni C fds)) (hr : Room (k + 1) X.A) (hb : Binds X.K fd ps []) (hg : Gl X x) (ha : DA X W (e :: es) fa)
    (hdb : (x == ("__debug__" : Str)) = false := by decide) (he : starEach (e :: es) X.env = (false, eval e X.env) :: starEach es X.env := by rfl) (hpl : (backTo pos (starEach es X.env)).any (·.1) = false := by rfl) (hlim : fds.length ≤ 1000 := by decide) :
    DS X W (.Raise (some (.Call (.Name x p) (e :: es) [] pos)) none pos2) (sRaise x fds fa) :=
  imS (ps_raise hc tk (pmk_oex (ds := []) (dvs := []) E.T E.iC E.tI F1 hr hb .nil (fun pins σ H s e s' I q => (passAt (W := fun _ _ _ _ => False) takes_none5 σ) pins H s e s' I q) hg E.gC ha hdb he hpl)) fun D σ H h => by
    obtain ⟨G0, G, F, ps, ρ, L, g0, I, S, h⟩ := h
    refine ⟨G0, G, F, ps, ρ, L, g0, I, S, Res.wp_mono (Res.wp_bind h) (fun ss L1 h1 vs F1 H1 p1 x1 I1 r1 => ?_) fun e r L' q => q⟩
    split at h1
    · rename_i ds hv
      split at h1
      · rename_i hl
        have r2 := vals_ok hv r1
        refine ⟨by rw [r2.length, hl]; exact hlim, fun a ha1 => ?_⟩
        refine ⟨a, vs ++ [], rfl, by rw [List.append_nil, r2.length]; exact hl, upd_same, fun d H' hd hne e1 e2 e3 => ?_⟩
        have hd1 : H1 d = none := by rwa [upd_ne hne] at hd
        refine ⟨rfl, d, _, e1, e2, hd1, ?_⟩
        have eH : upd (del H' a) d (.xd (fds.zip (vs ++ [])).reverse) = upd H1 d (.xd (fds.zip vs).reverse) := by
          funext b
          by_cases hb : b = d
          · subst hb; rw [upd_same, upd_same, List.append_nil]
          · rw [upd_ne hb, upd_ne hb]
            by_cases hba : b = a
            · subst hba; rw [del_same, ha1]
            · rw [del_ne hba, e3 b hba hb, upd_ne hba]
        rw [eH]
        refine h1 _ _ σ G F1 _ p1 g0 x1 (I1.beside hd1) (S.ext x1) ⟨C, mg_ref.mpr E.gC, rfl, d, _, rfl, upd_same, I1.same.free hd1, fun hm => led_ne I1 hd1 hm rfl, ?_⟩
        exact (RDf.zip r2).reverse
      · exact h1.elim
    · exact h1.elim
end
end DL

/-! DL, part 15: try, except C as e; e.f, isinstance(e, ..). -/
namespace DL
open PySem PySem.Spec PyProof.Rows L2
/-! ### readings go by classes alone -/
section
variable {K : PySem.W.Frag} {m1 m2 : Str → Option Value} {G F H : Hp} {ps : List Addr} {L : Led}
def RefEq (m1 m2 : Str → Option Value) : Prop := ∀ (c : Str) (C : Addr), m1 c = some (.ref C) → m2 c = some (.ref C)
mutual
theorem RD.cv (e : RefEq m1 m2) : ∀ {v : V} {d : Dv}, RD K m1 F ps v d → RD K m2 F ps v d
  | _, _, .non => .non
  | _, _, .bl b => .bl b
  | _, _, .int i => .int i
  | _, _, .str y h => .str y h
  | _, _, .lst h z r => .lst h z (RDs.cv e r)
  | _, _, .tup h z r => .tup h z (RDs.cv e r)
  | _, _, .dic h z r => .dic h z (RDk.cv e r)
  | _, _, .obj c h r => .obj (e _ _ c) h (RDf.cv e r)
  | _, _, .own h => .own h
  | _, _, .scr h => .scr h
  | _, _, .opq v => .opq v
  | _, _, .ty n => .ty n
  | _, _, .cls h => .cls (e _ _ h)
theorem RDs.cv (e : RefEq m1 m2) : ∀ {vs : List V} {ds : List Dv}, RDs K m1 F ps vs ds → RDs K m2 F ps vs ds
  | _, _, .nil => .nil
  | _, _, .cons h r => .cons (RD.cv e h) (RDs.cv e r)
theorem RDk.cv (e : RefEq m1 m2) : ∀ {vs : List (Key × V)} {ds : List (Key × Dv)}, RDk K m1 F ps vs ds → RDk K m2 F ps vs ds
  | _, _, .nil => .nil
  | _, _, .cons z h r => .cons z (RD.cv e h) (RDk.cv e r)
theorem RDf.cv (e : RefEq m1 m2) : ∀ {vs : List (Str × V)} {ds : List (Str × Dv)}, RDf K m1 F ps vs ds → RDf K m2 F ps vs ds
  | _, _, .nil => .nil
  | _, _, .cons h r => .cons (RD.cv e h) (RDf.cv e r)
end
theorem CtOk.cv (e : RefEq m1 m2) {p : Addr} {c : Ct} (h : CtOk K m1 G F H ps p c) : CtOk K m2 G F H ps p c := by
  cases c with
  | lst xs => obtain ⟨vs, a, b, r⟩ := h; exact ⟨vs, a, b, r.cv e⟩
  | dic ks => obtain ⟨vs, a, b, r⟩ := h; exact ⟨vs, a, b, r.cv e⟩
  | obj c fs => obtain ⟨C, dx, gs, a, b, c0, c1, c2, r⟩ := h; exact ⟨C, dx, gs, e _ _ a, b, c0, c1, c2, r.cv e⟩
  | gone => exact h
theorem HS.cv (e : RefEq m1 m2) (I : HS K m1 G F H ps L) : HS K m2 G F H ps L := ⟨I.frame, I.same, I.apart, I.len, I.nd, I.free, fun k p c a b => (I.at_ k p c a b).cv e⟩
/-- what stands beside is held from here on -/
theorem HS.claim (I : HS K m1 G F H ps L) {p : Addr} {o : HO} (hp : H p = some o) (hF : F p = none) (hps : p ∉ ps) (hno : ∀ x, o ≠ .own x) : HS K m1 (upd G p o) F H ps L := by
  refine ⟨fun b u q => ?_, I.same, fun a q => ?_, I.len, I.nd, fun q hq => ⟨(I.free q hq).1, ?_⟩, fun k q c a b => ?_⟩
  · by_cases hb : b = p
    · subst hb; rw [upd_same] at q; rw [hp]; exact q
    · rw [upd_ne hb] at q; exact I.frame b u q
  · by_cases hb : a = p
    · rw [hb]; exact hF
    · rw [upd_ne hb] at q; exact I.apart a q
  · rw [upd_ne (fun z => hps (by rw [← z]; exact hq))]; exact (I.free q hq).2
  · have old := I.at_ k q c a b
    cases c with
    | obj c fs =>
      obtain ⟨C, dx, gs, a1, b1, c0, c1, c2, r⟩ := old
      refine ⟨C, dx, gs, a1, b1, c0, c1, ?_, r⟩
      rw [upd_ne (fun z => by rw [z, hp] at c0; exact hno _ (Option.some.inj c0))]; exact c2
    | lst xs => exact old
    | dic xs => exact old
    | gone => exact old
end
/-- the suite's names -/
def mgS (X : Cx) (a : Addr) (cls : Value) (d : Option Addr) : Str → Option Value := fun c => match X.mg c with
  | some (.ref C) => some (.ref C)
  | _ => if c = "isinstance" then some (.int a 0) else if c = "repr" then d.map fun d => .int d 0 else if c = "len" then (match cls with
    | .ref C => some (.int C 0)
    | _ => none) else none
theorem suite_mg {X : Cx} {a : Addr} {oe : Obj} {cls : Value} {d : Option Addr} {pn : List (Addr × Obj)} (hz : Zc cls d oe) : (X.suite a ((a, oe) :: pn)).mg' = mgS X a cls d := by
  obtain ⟨h1, h2⟩ := hz
  subst h1 h2
  unfold L2.Cx.mg'
  rw [if_neg (show ¬ (false = true) from Bool.false_ne_true)]
  rfl
theorem mgS_ref {X : Cx} {a : Addr} {cls : Value} {d : Option Addr} : RefEq (mgS X a cls d) X.mg ∧ RefEq X.mg (mgS X a cls d) := by
  refine ⟨fun c C h => ?_, fun c C h => ?_⟩
  · unfold mgS at h
    cases e : X.mg c with
    | none =>
      rw [e] at h
      simp only [] at h
      split at h
      · cases h
      · split at h
        · cases d <;> cases h
        · split at h
          · split at h <;> cases h
          · cases h
    | some u =>
      rw [e] at h
      cases u with
      | ref D => exact h
      | _ =>
        simp only [] at h
        split at h
        · cases h
        · split at h
          · cases d <;> cases h
          · split at h
            · split at h <;> cases h
            · cases h
  · unfold mgS
    rw [h]
/-- no exception stands in a slot -/
def unX (r : Slo) : Slo := r.map fun o => match o with
  | some (.xc _ _) => none
  | o => o
theorem unX_get {r : Slo} {j : Nat} {s : Sv} (h : (unX r)[j]? = some (some s)) : r[j]? = some (some s) ∧ ∀ c fs, s ≠ .xc c fs := by
  unfold unX at h
  rw [List.getElem?_map] at h
  cases e : r[j]? with
  | none => rw [e] at h; cases h
  | some o =>
    rw [e] at h
    simp only [Option.map_some, Option.some.injEq] at h
    cases o with
    | none => cases h
    | some t =>
      cases t with
      | xc c fs => cases h
      | val d => cases h; exact ⟨rfl, fun _ _ q => by cases q⟩
      | bor d => cases h; exact ⟨rfl, fun _ _ q => by cases q⟩
      | borD d => cases h; exact ⟨rfl, fun _ _ q => by cases q⟩
      | mu d => cases h; exact ⟨rfl, fun _ _ q => by cases q⟩
      | muD d => cases h; exact ⟨rfl, fun _ _ q => by cases q⟩
def unFl (i : Nat) : Fl → Fl
  | .nx r => .nx (unX (r.set i none))
  | .rt d => .rt d
  | .bk r => .bk (unX (r.set i none))
  | .ct r => .ct (unX (r.set i none))
def sTry (i : Nat) (mt : List (Str × Bool)) (fb fs : DM Fl) : DM Fl := fun ρ L => match fb ρ L with
  | .ok fl L1 => .ok fl L1
  | .err e r L1 => match mt.lookup e.cls with
    | some true => (noErr (fs (r.set i (some (.xc e.cls e.fs))) L1)).bind fun fl L2 => .ok (unFl i fl) L2
    | some false => .err e r L1
    | none => .bad
  | .bad => .bad
section
variable {X : Cx} {W : WX} {x n : Str} {cx : Value} {i : Nat} {body suite : List Stmt} {b₀ : Stmt} {np pos pos' : Pos} {fb fs : DM Fl} {mt : List (Str × Bool)}
theorem try_of {D : Ends} {σ : List (Option V)} {H : Hp} (hcalm : X.calm = true) (m1 : X.mg "isinstance" = none) (m2 : X.mg "repr" = none) (m3 : X.mg "len" = none) (hmt : ∀ c C b, mt.lookup c = some b → X.mg c = some (.ref C) → PySem.W.exmOne X.K (.ref C) cx = some b)
    (h : tS X.K X.mg' W (sTry i mt fb fs) D σ H) : tS X.K X.mg' (wAs X.K cx i (fun a cls d => tS X.K (mgS X a cls d) wNo fs) W D) fb D σ H := by
  rw [calm_mg hcalm] at h ⊢
  obtain ⟨G0, G, F, ps, ρ, L, g0, I, S, h⟩ := h
  refine ⟨G0, G, F, ps, ρ, L, g0, I, S, ?_⟩
  unfold sTry at h
  cases hb : fb ρ L with
  | bad => rw [hb] at h; exact h
  | ok fl L1 => rw [hb] at h; exact h
  | err e r L1 =>
    rw [hb] at h
    simp only [] at h
    intro cls d σ' G' F' H' ps' g' x' I' S' rx
    obtain ⟨C, hC, rfl, dd, gs, rfl, hdd, hFd, hps, rf⟩ := rx
    cases hm : mt.lookup e.cls with
    | none => rw [hm] at h; exact h.elim
    | some b =>
      rw [hm] at h
      refine ⟨b, hmt _ _ _ hm hC, fun hbt a ha => ?_, fun hbf => ?_⟩
      · subst hbt
        simp only [] at h
        obtain ⟨eSm, emS⟩ := mgS_ref (X := X) (a := a) (cls := .ref C) (d := some dd)
        have nown : ∀ y, HO.xd gs ≠ .own y := fun _ q => by cases q
        have k1 : mgS X a (.ref C) (some dd) "isinstance" = some (.int a 0) := by unfold mgS; rw [m1]; rfl
        have k2 : mgS X a (.ref C) (some dd) "repr" = some (.int dd 0) := by unfold mgS; rw [m2]; rfl
        have k3 : mgS X a (.ref C) (some dd) "len" = some (.int C 0) := by unfold mgS; rw [m3]; rfl
        have old : ∀ b o, G0 b = some o → b = dd → o = .xd gs := fun b o q z => by
          subst z
          have := I'.frame _ _ (g' _ _ q)
          rw [hdd] at this; exact (Option.some.inj this).symm
        have up0 : Same G0 (upd G0 dd (.xd gs)) := fun b o q => by
          by_cases hb : b = dd
          · rw [old b o q hb, hb, upd_same]
          · rw [upd_ne hb]; exact q
        have I2 := (I'.claim hdd hFd hps nown).cv emS
        have S2 : Slots X.K (mgS X a (.ref C) (some dd)) (upd G0 dd (.xd gs)) (upd G' dd (.xd gs)) F' ps' σ' r := by
          refine ⟨S'.len, fun j s q => ?_, S'.sep⟩
          obtain ⟨v, e1, e2⟩ := S'.at_ j s q
          refine ⟨v, e1, ?_⟩
          cases s with
          | val d => exact RD.cv emS e2
          | bor xs =>
            obtain ⟨p, vs, a1, a2, a3, a4⟩ := e2
            exact ⟨p, vs, a1, up0 _ _ a2, a3, a4.cv emS⟩
          | borD xs =>
            obtain ⟨p, vs, a1, a2, a3, a4⟩ := e2
            exact ⟨p, vs, a1, up0 _ _ a2, a3, a4.cv emS⟩
          | mu xs =>
            obtain ⟨p, vs, a1, a2, a3, a4, a5⟩ := e2
            have hne : p ≠ dd := fun z => by rw [z] at a3; have := I'.frame _ _ a3; rw [hdd] at this; cases this
            exact ⟨p, vs, a1, by rw [upd_ne hne]; exact a2, by rw [upd_ne hne]; exact a3, a4, a5.cv emS⟩
          | muD xs =>
            obtain ⟨p, vs, a1, a2, a3, a4, a5⟩ := e2
            have hne : p ≠ dd := fun z => by rw [z] at a3; have := I'.frame _ _ a3; rw [hdd] at this; cases this
            exact ⟨p, vs, a1, by rw [upd_ne hne]; exact a2, by rw [upd_ne hne]; exact a3, a4, a5.cv emS⟩
          | xc c fs =>
            obtain ⟨a', _, _, _, _, z, _⟩ := e2
            rw [m1] at z; cases z
        have gg : Same (upd G0 dd (.xd gs)) (upd G' dd (.xd gs)) := fun b o q => by
          by_cases hb : b = dd
          · subst hb; rw [upd_same] at q ⊢; exact q
          · rw [upd_ne hb] at q ⊢; exact g' b o q
        refine ⟨upd G0 dd (.xd gs), upd G' dd (.xd gs), F', ps', _, L1, gg, I2, S2.set i (s := .xc e.cls e.fs) ⟨a, dd, C, gs, rfl, k1, k2, k3, emS _ _ hC, upd_same, rf.cv emS⟩ rfl, ?_⟩
        have back : ∀ {G2 F2 H2 : Hp} {p2 : List Addr} {L2' : Led} {σ2 : List (Option V)} {r2 : Slo}, Same (upd G0 dd (.xd gs)) G2 → HS X.K (mgS X a (.ref C) (some dd)) G2 F2 H2 p2 L2' → Slots X.K (mgS X a (.ref C) (some dd)) (upd G0 dd (.xd gs)) G2 F2 p2 σ2 r2 →
            HS X.K X.mg G2 F2 H2 p2 L2' ∧ Slots X.K X.mg G0 G2 F2 p2 (σ2.set i none) (unX (r2.set i none)) := fun {G2 F2 H2 p2 L2' σ2 r2} g2 J2 T2 => by
          refine ⟨J2.cv eSm, ?_⟩
          have T3 := T2.forget i none
          refine ⟨by simp [unX, T2.len], fun j s q => ?_, fun j l s t v hj hl n1 n2 h1 h2 => T3.sep j l s t v (unX_get hj).1 (unX_get hl).1 n1 n2 h1 h2⟩
          obtain ⟨q1, q2⟩ := unX_get q
          obtain ⟨v, e1, e2⟩ := T3.at_ j s q1
          refine ⟨v, e1, ?_⟩
          cases s with
          | val d => exact RD.cv eSm e2
          | bor xs =>
            obtain ⟨p, vs, a1, a2, a3, a4⟩ := e2
            have hne : p ≠ dd := fun z => by rw [z, upd_same] at a2; cases a2
            exact ⟨p, vs, a1, by rwa [upd_ne hne] at a2, a3, a4.cv eSm⟩
          | borD xs =>
            obtain ⟨p, vs, a1, a2, a3, a4⟩ := e2
            have hne : p ≠ dd := fun z => by rw [z, upd_same] at a2; cases a2
            exact ⟨p, vs, a1, by rwa [upd_ne hne] at a2, a3, a4.cv eSm⟩
          | mu xs =>
            obtain ⟨p, vs, a1, a2, a3, a4, a5⟩ := e2
            exact ⟨p, vs, a1, up0.free a2, a3, a4, a5.cv eSm⟩
          | muD xs =>
            obtain ⟨p, vs, a1, a2, a3, a4, a5⟩ := e2
            exact ⟨p, vs, a1, up0.free a2, a3, a4, a5.cv eSm⟩
          | xc c fs => exact absurd rfl (q2 c fs)
        refine Res.wp_mono (noErr_wp (Res.wp_bind h)) (fun fl L2' q => ?_) fun e' r' l' q => q
        cases fl with
        | nx r2 => exact fun σ2 G2 F2 H2 p2 g2 x2 J2 T2 => let ⟨u1, u2⟩ := back g2 J2 T2; q _ G2 F2 H2 p2 (up0.trans g2) (x'.trans x2) u1 u2
        | bk r2 => exact fun σ2 G2 F2 H2 p2 g2 x2 J2 T2 => let ⟨u1, u2⟩ := back g2 J2 T2; q _ G2 F2 H2 p2 (up0.trans g2) (x'.trans x2) u1 u2
        | ct r2 => exact fun σ2 G2 F2 H2 p2 g2 x2 J2 T2 => let ⟨u1, u2⟩ := back g2 J2 T2; q _ G2 F2 H2 p2 (up0.trans g2) (x'.trans x2) u1 u2
        | rt d => exact fun v G2 F2 H2 p2 g2 x2 J2 r2 => q v G2 F2 H2 p2 (up0.trans g2) (x'.trans x2) (J2.cv eSm) (r2.cv eSm)
      · subst hbf
        simp only [] at h
        exact h _ _ σ' G' F' H' ps' g' x' I' S' ⟨C, hC, rfl, dd, gs, rfl, hdd, hFd, hps, rf⟩
theorem ds_try_as (hcalm : X.calm = true) (hs : X.stack = X.env :: X.outer) (hf : X.env.frame = some X.env.locals) (hN : X.N.Nodup) (hi : X.N[i]? = some n) (hln : X.env.kindOf n = some .local) (hc : Names X x cx) (tk : Takes X W)
    (m1 : X.mg "isinstance" = none) (m2 : X.mg "repr" = none) (m3 : X.mg "len" = none) (hmt : ∀ c C b, mt.lookup c = some b → X.mg c = some (.ref C) → PySem.W.exmOne X.K (.ref C) cx = some b)
    (hb : ∀ (W : WX) (pn : List (Addr × Obj)) (xe : Value → Shared → Prop), Takes (X.tr pn xe) W → PassesOwn (model X.prog X.w) X.A X.env xe → DSs (X.tr pn xe) W body fb)
    (hsu : ∀ (a : Addr) (oe : Obj) (cls : Value) (d : Option Addr) (pn : List (Addr × Obj)), Zc cls d oe → (∃ vs, oe.data = .fields vs) → DSs (X.suite a ((a, oe) :: pn)) wNo (b₀ :: suite) fs) :
    DS X W (.Try body [.ExceptHandler (some (.Name x np)) (some n) (b₀ :: suite) pos'] [] [] pos) (sTry i mt fb fs) :=
  imS (ps_try_as (tb := fun W => tS X.K X.mg' W fb) (ts := fun a cls d => tS X.K (mgS X a cls d) wNo fs) (Wout := W) hs hf hN hi hln hc tk
    (fun W pn xe t p => imSs (hb W pn xe t p) fun D σ H h => by rw [calm_mg (X := X.tr pn xe) hcalm]; rw [calm_mg hcalm] at h; exact h)
    (fun a oe cls d pn hz hd => imSs (hsu a oe cls d pn hz hd) fun D σ H h => by rw [suite_mg hz]; exact h)) fun D σ H h => try_of hcalm m1 m2 m3 hmt h
end
end DL

/-! DL, part 16: what a suite asks of its exception. -/
namespace DL
open PySem PySem.Spec PySem.Calls PyProof.Rows L2
/-! ### the class of an exception that has fields -/
section
open PySem.W
variable {prog : Program} {w : World} {A : Around} {E : Value → Shared → Prop} {s : Shared} {K : Frag} {e D : Addr} {oe : Obj} {od : Option Obj}
theorem find_class (T : ExcC K D) : findObj K D od "__class__" = some (.bind (.builtin "getset_descriptor.__get__") (.builtin "object.__class__")) := by
  obtain ⟨cd, hc, _⟩ := any_some T.hd
  unfold findObj
  rw [hc, Option.bind_some, T.ha, Option.bind_some]
  simp [T.hn, T.ht]
theorem class_of {Q : Option Value → Shared → Prop} (T : ExcC K D) (X : K.In s.heap) (I : InstAt s.heap e oe D od) (h : Q (some (.ref D)) { s with toks := s.toks + 1 }) : wpAny (model prog w) A (getAttr? (.ref e) "__class__") Q E s := by
  obtain ⟨hp, g, d, tk, os⟩ := s
  have La := I.type (M := model prog w)
  have Lb := looks_findIn (M := model prog w) X T.hg
  have Lc := looks_findIn (M := model prog w) X T.hk
  have Ld := looks_find (M := model prog w) X I (find_class T)
  have isB : Looks (model prog w) hp (isInstance (.ref e) (.type "BaseException")) true := La.andThen (looks_subIn X T.hs)
  have no2 : (Value.builtin "BaseException.__getattribute__" == Value.builtin "object.__getattribute__") = false := by decide +kernel
  have no1 : (onTheHeap (Value.ref D) && Value.builtin "BaseException.__getattribute__" == Value.builtin "object.__getattribute__") = false := by rw [no2, Bool.and_false]
  have no0 : (false && onTheHeap (Value.builtin "BaseException.__getattribute__")) = false := Bool.false_and _
  unfold getAttr? getAttrBy? getAttrBy
  refine wpAny_bind (wpAny_mkText (wpAny_bind (wpAny_attempt (wpAny_holding (wpAny_bind (La.at (wpAny_bind (Lb.at ?_))))))))
  show wpAny _ _ (if (onTheHeap (Value.ref D) && Value.builtin "BaseException.__getattribute__" == Value.builtin "object.__getattribute__") = true then _ else _) _ _ _
  rw [no1, if_neg Bool.false_ne_true]
  unfold getAttrByItsOwn hookBefore
  rw [if_pos (show onTheHeap (Value.ref D) = true from rfl)]
  refine wpAny_bind (Lc.at (wpAny_bind (wpAny_attempt (wpAny_holding ?_))))
  unfold callGetattribute boundAndCalled
  rw [no0, if_neg Bool.false_ne_true, PySem.F.excAttr_ValueError.ga.bind (.ref e)]
  refine wpAny_bind (wpAny_pure ?_)
  show wpAny _ _ (call (.builtin "BaseException.__getattribute__") [.ref e, .str "__class__" tk]) _ _ _
  refine wpAny_call (codeAny_call_builtin PySem.F.excAttr_ValueError.ga.plain PySem.F.entry_bexc_ga ?_)
  refine @PySem.W.check_slot (model prog w) _ _ ⟨hp, g, d, tk + 1, os⟩ "BaseException.__getattribute__" "BaseException" "__getattribute__" (.ref e) [.str "__class__" tk] [] _ (by decide +kernel) (by decide +kernel) isB (PySem.F.args_bexc_ga (.ref e) (.str "__class__" tk)) ?_
  unfold Builtin.«object.__getattribute__»
  refine wpAny_bind (wpAny_of_eq (a := ((Value.ref e : Value), [Value.str "__class__" tk])) (by first | rfl | (simp only [slotArgs]; rfl)) ?_)
  refine wpAny_bind (wpAny_pure (wpAny_bind (La.at (wpAny_bind (Ld.at ?_)))))
  show wpAny _ _ (holding [Value.builtin "object.__class__"] (call (.builtin "getset_descriptor.__get__") [.builtin "object.__class__", .ref e, .ref D]) >>= ret) _ _ _
  refine wpAny_bind (wpAny_holding (wpAny_call (class_get (s := ⟨hp, g, d, tk + 1, os⟩) (ox := oe) (od := od) X I T.hm ?_)))
  refine wpAny_pure ?_
  show wpAny _ _ (handedOut (.ref D)) _ _ _
  rw [handedOut_of (v := .ref D) rfl]
  first
    | exact wpAny_pure (wpAny_pure h)
    | exact wpAny_pure h
    | exact wpAny_pure (wpAny_bind (wpAny_pure (wpAny_pure h)))
theorem kit_exc (T : ExcC K D) : KitX K (.ref e) (.ref D) (fun h => ∃ od, InstAt h e oe D od) where
  ty := fun _ _ _ ⟨_, I⟩ => I.type
  it := fun _ _ X _ => by
    obtain ⟨cd, hcd, _⟩ := any_some T.hd
    unfold clsIn at hcd
    split at hcd
    · rename_i c' d' cd' sl' ho
      exact fun A' Q' E' s' k q => by
        unfold isType loadHead
        exact wpAny_bind (wpAny_loadPart (k _ _ (X _ _ ho)) (wpAny_pure q))
    · cases hcd
  ne := fun h tp dd its n sl X htp => by
    obtain ⟨cd, hcd, _⟩ := any_some T.hd
    refine Bool.eq_false_iff.mpr fun q => ?_
    cases Value.ref.inj (beq_iff_eq.mp q)
    unfold clsIn at hcd
    split at hcd
    · rename_i ho
      have z := (X _ _ ho).symm.trans htp
      cases z
    · cases hcd
  ca := fun X ⟨_, I⟩ k => class_of T X I k
end
/-! ### isinstance(e, ..) -/
/-- a class by its name: own, or built-in -/
abbrev CKey := Str ⊕ String
def ckey : Dv → Option CKey
  | .cls k => some (.inl k)
  | .ty n => some (.inr n)
  | _ => none
def ckeys : List Dv → Option (List CKey)
  | [] => some []
  | d :: ds => match ckey d, ckeys ds with
    | some k, some ks => some (k :: ks)
    | _, _ => none
abbrev CTab := List (Str × CKey × Bool)
def ctab (t : CTab) (c : Str) (k : CKey) : Option Bool := (t.find? fun q => decide (q.1 = c) && decide (q.2.1 = k)).map fun q => q.2.2
def ctabs (t : CTab) (c : Str) : List CKey → Option Bool
  | [] => some false
  | k :: ks => match ctab t c k with
    | some true => some true
    | some false => ctabs t c ks
    | none => none
/-- the class's value -/
def CVl (mg : Str → Option Value) : CKey → Value → Prop
  | .inl k, v => ∃ D, mg k = some (.ref D) ∧ v = .ref D
  | .inr n, v => v = .type n
def CTabOk (K : PySem.W.Frag) (mg : Str → Option Value) (t : CTab) : Prop := ∀ q ∈ t, ∀ C v, mg q.1 = some (.ref C) → CVl mg q.2.1 v → PySem.W.kitOne K (.ref C) v = some q.2.2
section
variable {K : PySem.W.Frag} {mg mg' : Str → Option Value} {F : Hp} {ps : List Addr} {t : CTab}
theorem ctab_ok (h : CTabOk K mg t) {c : Str} {k : CKey} {b : Bool} (e : ctab t c k = some b) {C : Addr} {v : Value} (hc : mg c = some (.ref C)) (hv : CVl mg k v) : PySem.W.kitOne K (.ref C) v = some b := by
  unfold ctab at e
  cases hf : t.find? (fun q => decide (q.1 = c) && decide (q.2.1 = k)) with
  | none => rw [hf] at e; cases e
  | some q =>
    rw [hf] at e; cases e
    have hp := List.find?_some hf
    simp only [Bool.and_eq_true, decide_eq_true_eq] at hp
    obtain ⟨h1, h2⟩ := hp
    subst h1 h2
    exact h q (List.mem_of_find?_eq_some hf) C v hc hv
theorem ctabs_ok (h : CTabOk K mg t) {c : Str} {C : Addr} (hc : mg c = some (.ref C)) : ∀ {ks : List CKey} {vs : List Value} {b : Bool}, ctabs t c ks = some b → Paired (CVl mg) ks vs → PySem.W.kitAny K (.ref C) vs = some b
  | [], _, _, e, .nil => by cases e; exact kitAny_nil
  | k :: ks, _, b, e, .cons h1 r => by
    unfold ctabs at e
    split at e
    · rename_i z; cases e; exact kitAny_cons (ctab_ok h z hc h1) (fun q => by cases q) fun _ => rfl
    · rename_i z; exact kitAny_cons (ctab_ok h z hc h1) (fun _ => ctabs_ok h hc e r) fun q => by cases q
    · cases e
theorem ckey_rel (hr : RefEq mg' mg) {d : Dv} {k : CKey} {v : V} (e : ckey d = some k) (r : RD K mg' F ps v d) : ∃ u, CVl mg k u ∧ ClsV v u := by
  cases d with
  | ty n => cases e; cases r; exact ⟨.type n, rfl, .ty n⟩
  | cls c => cases e; cases r with
    | cls hc => exact ⟨_, ⟨_, hr _ _ hc, rfl⟩, .own _⟩
  | _ => cases e
theorem ckeys_rel (hr : RefEq mg' mg) : ∀ {ds : List Dv} {ks : List CKey} {vs : List V}, ckeys ds = some ks → RDs K mg' F ps vs ds → ∃ us, Paired (CVl mg) ks us ∧ Paired ClsV vs us
  | [], _, _, e, .nil => by cases e; exact ⟨[], .nil, .nil⟩
  | d :: ds, ks, _, e, .cons h r => by
    unfold ckeys at e
    split at e
    · rename_i k ks' h1 h2
      cases e
      obtain ⟨u, a, b⟩ := ckey_rel hr h1 h
      obtain ⟨us, c, d⟩ := ckeys_rel hr h2 r
      exact ⟨u :: us, .cons a c, .cons b d⟩
    · cases e
end
def rIsX (K : PySem.W.Frag) (D a : Addr) : List V → Hp → VK → Prop := fun xs H Q => (∃ c u b, xs = [.ref a, c] ∧ ClsV c u ∧ PySem.W.kitOne K (.ref D) u = some b ∧ Q (.bl b) H) ∨
  ∃ tp cs us b, xs = [.ref a, .ref tp] ∧ H tp = some (.tup cs) ∧ Paired ClsV cs us ∧ PySem.W.kitAny K (.ref D) us = some b ∧ Q (.bl b) H
theorem call_isX {X : Cx} {a D : Addr} {oe : Obj} {pn : List (Addr × Obj)} (T : ExcC X.K D) (hc : oe.cls = .ref D) (hf : ∃ vs, oe.data = .fields vs) (hd : ∀ d, oe.dict = some d → ∀ (pins : List (Addr × Obj)) (σ : List (Option V)) (H : Hp) (s : Shared), Inv (X.suite a ((a, oe) :: pn)) pins σ H s → (∃ gs, H d = some (.xd gs)) → True) :
    ∀ (pins : List (Addr × Obj)) (s : Shared) (σ : List (Option V)) (H : Hp) (xs : List V) (us : List Value) (Q : VK) (dd : Addr) (gs : List (Str × V)), Inv (X.suite a ((a, oe) :: pn)) pins σ H s → Vals xs us → oe.dict = some dd → H dd = some (.xd gs) → rIsX X.K D a xs H Q →
    wpAny (model X.prog X.w) (X.suite a ((a, oe) :: pn)).A (call (.builtin "isinstance") us) (EP (X.suite a ((a, oe) :: pn)) pins σ Q) (X.suite a ((a, oe) :: pn)).xe s := by
  intro pins s σ H xs us Q dd gs I r hdd hgs h
  obtain ⟨ha, _⟩ := I.pin (a, oe) (List.mem_append_left _ List.mem_cons_self)
  obtain ⟨vs, hv⟩ := hf
  obtain ⟨mA, hns, hr⟩ := (show ObjOk X.prog X.w H s.heap dd (.xd gs) from I.hok dd _ hgs)
  obtain ⟨od, ho, hl⟩ := lookIn_ns hns
  have J : ∃ od, PySem.W.InstAt s.heap a oe D od := ⟨some od, ha, hc, by unfold PySem.W.notCls; rw [hv] <;> rfl, by rw [hdd]; exact ho⟩
  rcases h with ⟨c, u, b, rfl, hcv, e, q⟩ | ⟨tp, cs, ws, b, rfl, hT, hp, e, q⟩
  · obtain ⟨u1, u2, rfl, r1, r2⟩ := vals2 r
    cases (show u1 = Value.ref a from r1)
    cases hcv.eq r2
    exact PySem.W.kia_one (kit_exc T) I.kIn J e (fun z => nomatch z) fun tk => ⟨.bl b, H, I.tok tk, rfl, q⟩
  · obtain ⟨u1, u2, rfl, r1, r2⟩ := vals2 r
    cases (show u1 = Value.ref a from r1)
    cases (show u2 = Value.ref tp from r2)
    obtain ⟨_, its, rv, o, h1, h2, n, h3⟩ := (show ObjOk X.prog X.w H s.heap tp (.tup cs) from I.hok tp _ hT)
    cases ClsV.all hp rv
    obtain ⟨oc, od2, dt, sl⟩ := o
    simp only at h2 h3
    subst h2 h3
    exact PySem.W.kia_tup (kit_exc T) I.kIn J h1 e (fun z => nomatch z) fun tk => ⟨.bl b, H, I.tok tk, rfl, q⟩
/-! ### the rules -/
def dXf (i : Nat) (n : Str) (tab : List Str) : DM Sv := fun ρ L => match ρ[i]? with
  | some (some (.xc c fs)) => if c ∈ tab then give ((fs.lookup n).map .val) L else .bad
  | _ => .bad
/-- isinstance(e, k): e in slot i -/
def dIsx (i : Nat) (t : CTab) (fk : DM Sv) : DM Sv := fun ρ L => match ρ[i]? with
  | some (some (.xc c _)) => (fk ρ L).bind fun k L1 => match k with
    | .val (.tup ds) => give (if ds.isEmpty then none else ((ckeys ds).bind (ctabs t c)).map fun b => .val (.bl b)) L1
    | .val d => give (((ckey d).bind (ctab t c)).map fun b => .val (.bl b)) L1
    | _ => .bad
  | _ => .bad
theorem RDf.look {K : PySem.W.Frag} {mg : Str → Option Value} {F : Hp} {ps : List Addr} (n : Str) : ∀ {gs : List (Str × V)} {fs : List (Str × Dv)} {d : Dv}, RDf K mg F ps gs fs → fs.lookup n = some d → ∃ v, gs.lookup n = some v ∧ RD K mg F ps v d
  | _, _, _, .nil, e => by cases e
  | _, _, d, .cons (k := k) h r, e => by
    rw [List.lookup_cons] at e ⊢
    cases hb : n == k with
    | true => rw [hb] at e; cases e; exact ⟨_, rfl, h⟩
    | false => rw [hb] at e; exact RDf.look n r e
section
variable {X : Cx} {W : WX} {a : Addr} {oe : Obj} {cls : Value} {d : Option Addr} {pn : List (Addr × Obj)} {y n : Str} {i : Nat} {tab : List Str} {p p1 p2 pos : Pos}
/-- what the slot of a suite's exception tells -/
theorem xc_at {c : Str} {fs : List (Str × Dv)} {G F : Hp} {ps : List Addr} {v : V} (hz : Zc cls d oe) (m1 : X.mg "isinstance" = none) (m2 : X.mg "repr" = none) (m3 : X.mg "len" = none) (h : XcOk X.K (X.suite a ((a, oe) :: pn)).mg' G F ps v c fs) :
    v = .ref a ∧ ∃ dd C gs, d = some dd ∧ cls = .ref C ∧ X.mg c = some (.ref C) ∧ G dd = some (.xd gs) ∧ RDf X.K (X.suite a ((a, oe) :: pn)).mg' F ps gs fs := by
  obtain ⟨a', dd, C, gs, rfl, e1, e2, e3, e4, e5, e6⟩ := h
  rw [suite_mg hz] at e1 e2 e3 e4
  unfold mgS at e1 e2 e3
  rw [m1] at e1; rw [m2] at e2; rw [m3] at e3
  simp only [] at e1 e2 e3
  rw [if_pos trivial] at e1
  rw [if_neg (by decide), if_pos trivial] at e2
  rw [if_neg (by decide), if_neg (by decide), if_pos trivial] at e3
  have ea : a = a' := by
    have := Option.some.inj e1
    injection this with z
    exact Int.ofNat.inj z
  subst ea
  refine ⟨rfl, dd, C, gs, ?_, ?_, mgS_ref.1 _ _ e4, e5, e6⟩
  · cases d with
    | none => cases e2
    | some d0 =>
      have := Option.some.inj e2
      injection this with z
      rw [Int.ofNat.inj z]
  · split at e3
    · rename_i C0
      have := Option.some.inj e3
      injection this with z
      rw [Int.ofNat.inj z]
    · cases e3
theorem de_xf (hz : Zc cls d oe) (hf : ∃ vs, oe.data = .fields vs) (hN : X.N[i]? = some y) (hv : Vis X.env.scope y) (m1 : X.mg "isinstance" = none) (m2 : X.mg "repr" = none) (m3 : X.mg "len" = none)
    (hfld : ∀ c C, c ∈ tab → X.mg c = some (.ref C) → XfC X.K C ∧ PySem.W.findIn X.K (.ref C) n = some none) (hd : (y == ("__debug__" : Str)) = false := by decide) (hcd : (y == ("__classdict__" : Str)) = false := by decide)
    (hb : attributeBase (.Name y p) n X.env (eval (.Name y p) X.env) = eval (.Name y p) X.env := by rfl) : DE (X.suite a ((a, oe) :: pn)) W (.Attribute (.Name y p) n pos) (dXf i n tab) := ⟨fun pins s σ H Q I h => by
  obtain ⟨G0, G, F, ps, ρ, L, g0, J, S, h⟩ := h
  unfold dXf at h
  split at h
  · rename_i c fs hs
    split at h
    · rename_i hm
      obtain ⟨v, e1, e2⟩ := S.at_ i _ hs
      obtain ⟨rfl, dd, C, gs, rfl, rfl, hC, hG, rf⟩ := xc_at hz m1 m2 m3 e2
      obtain ⟨s2, es, q⟩ := give_wp h
      cases hl : fs.lookup n with
      | none => rw [hl] at es; cases es
      | some dv =>
        rw [hl] at es; cases es
        obtain ⟨u, hu, ru⟩ := rf.look n hl
        obtain ⟨T, hno⟩ := hfld c C hm hC
        exact (pe_xf T hno hz hf (pe_var (X := X.suite a ((a, oe) :: pn)) (i := i) hN hv hd hcd) hb).run pins s σ H Q I ⟨_, e1, rfl, rfl, dd, gs, u, rfl, J.frame _ _ (g0 _ _ hG), hu, QE.now q J ru⟩
    · exact h.elim
  · exact h.elim⟩
theorem de_isx {t : CTab} {k : Expr} {fk : DM Sv} (hz : Zc cls d oe) (hf : ∃ vs, oe.data = .fields vs) (hN : X.N[i]? = some y) (hv : Vis X.env.scope y) (m1 : X.mg "isinstance" = none) (m2 : X.mg "repr" = none) (m3 : X.mg "len" = none) (hg : Gl X "isinstance")
    (ht : CTabOk X.K X.mg t) (hx : ∀ q ∈ t, ∀ C, X.mg q.1 = some (.ref C) → ExcC X.K C) (hk : DE (X.suite a ((a, oe) :: pn)) W k fk) (hd : (y == ("__debug__" : Str)) = false := by decide) (hcd : (y == ("__classdict__" : Str)) = false := by decide)
    (he : starEach [.Name y p, k] X.env = (false, eval (.Name y p) X.env) :: starEach [k] X.env := by rfl) (he2 : starEach [k] X.env = (false, eval k X.env) :: starEach [] X.env := by rfl) (hpl : (backTo pos (starEach [k] X.env)).any (·.1) = false := by rfl) :
    DE (X.suite a ((a, oe) :: pn)) W (.Call (.Name "isinstance" p1) [.Name y p, k] [] pos) (dIsx i t fk) := ⟨fun pins s σ H Q I h => by
  obtain ⟨G0, G, F, ps, ρ, L, g0, J, S, h⟩ := h
  unfold dIsx at h
  split at h
  · rename_i c fs hs
    obtain ⟨v, e1, e2⟩ := S.at_ i _ hs
    obtain ⟨rfl, dd, C, gs, rfl, rfl, hC, hG, rf⟩ := xc_at hz m1 m2 m3 e2
    have ha : PA (X.suite a ((a, oe) :: pn)) [.Name y p, k] (tCons (tVar i) (tCons (tE X.K (X.suite a ((a, oe) :: pn)).mg' W fk) tNil)) := pa_cons (pe_var (X := X.suite a ((a, oe) :: pn)) (i := i) hN hv hd hcd) (pa_cons hk pa_nil he2) he
    refine wpAny_Call_Name_kw (ld_blt I hg m1 PyProof.Rows.boot_isinstance ?_)
    refine PyProof.Rows.callWith_builtin1 (thn (ha.run pos pins s σ H (fun vs H1 => H1 dd = some (.xd gs) ∧ ∃ D, ExcC X.K D ∧ oe.cls = .ref D ∧ rIsX X.K D a vs H1 Q) I ?_) fun us s1 ⟨vs, H1, I1, r1, hg1, D, T, hD, q⟩ => call_isX T hD hf (fun _ _ _ _ _ _ _ _ => trivial) pins s1 σ H1 vs us Q dd gs I1 r1 hz.2 hg1 q) he hpl
    refine ⟨_, e1, ?_⟩
    refine tE_unf g0 J S (Res.wp_bind h) (fun s2 L2 h2 u F2 H2 p2 x2 I2 r2 => ?_) fun e r L' q => q
    refine ⟨I2.frame _ _ (g0 _ _ hG), C, ?_⟩
    have hcls : oe.cls = .ref C := hz.1
    have RE : RefEq (X.suite a ((a, oe) :: pn)).mg' X.mg := fun c C h => (mg_ref (X := X.suite a ((a, oe) :: pn))).mp h
    have any_ex : ∀ {k : CKey} {b : Bool}, ctab t c k = some b → ExcC X.K C := fun {k b} e => by
      unfold ctab at e
      cases hf : t.find? (fun q => decide (q.1 = c) && decide (q.2.1 = k)) with
      | none => rw [hf] at e; cases e
      | some q =>
        have hp := List.find?_some hf
        simp only [Bool.and_eq_true, decide_eq_true_eq] at hp
        exact hx q (List.mem_of_find?_eq_some hf) C (by rw [hp.1]; exact hC)
    split at h2
    · rename_i ds
      obtain ⟨s3, es, q⟩ := give_wp h2
      have hne : ds.isEmpty = false := by
        cases hh : ds.isEmpty with
        | false => rfl
        | true => rw [hh] at es; cases es
      rw [hne, if_neg Bool.false_ne_true] at es
      cases hks : ckeys ds with
      | none => rw [hks] at es; cases es
      | some ks =>
        rw [hks] at es
        cases hb : ctabs t c ks with
        | none => simp [hb] at es
        | some b =>
          simp [hb] at es
          subst es
          obtain ⟨tp, cs, rfl, fp, hp, z, rs⟩ := xv_tup I2 r2
          obtain ⟨us, p1, p2⟩ := ckeys_rel RE hks rs
          have T : ExcC X.K C := by
            cases ks with
            | nil =>
              cases ds with
              | nil => cases hne
              | cons d0 ds0 =>
                unfold ckeys at hks
                split at hks <;> cases hks
            | cons k0 ks0 =>
              unfold ctabs at hb
              split at hb
              · rename_i z; exact any_ex z
              · rename_i z; exact any_ex z
              · cases hb
          exact ⟨T, hcls, .inr ⟨tp, cs, us, b, rfl, hp, p2, ctabs_ok ht hC hb p1, QE.now (QE.ext x2 q) I2 (.bl b)⟩⟩
    · rename_i d _
      obtain ⟨s3, es, q⟩ := give_wp h2
      cases hks : ckey d with
      | none => rw [hks] at es; cases es
      | some k0 =>
        rw [hks] at es
        cases hb : ctab t c k0 with
        | none => simp [hb] at es
        | some b =>
          simp [hb] at es
          subst es
          obtain ⟨uv, c1, c2⟩ := ckey_rel RE hks r2
          exact ⟨any_ex hb, hcls, .inl ⟨u, uv, b, rfl, c2, ctab_ok ht hb hC c1, QE.now (QE.ext x2 q) I2 (.bl b)⟩⟩
    · exact h2.elim
  · exact h.elim⟩
/-- an own class as a value -/
theorem de_cls {X : Cx} {W : WX} {x : Str} {C : Addr} {pos : Pos} (hg : Gl X x) (hm : X.mg x = some (.ref C)) (hb : (x == ("__debug__" : Str)) = false := by decide) : DE X W (.Name x pos) (dC (.cls x)) :=
  de_glob hg hm (v := .ref C) rfl (fun F ps => .cls (mg_ref.mpr hm)) hb
end
end DL

/-! DL, part 17: tuples of new things stored at names; contexts, callees, as the printed proofs use them. -/
namespace DL
open PySem PySem.Spec PyProof.Rows L2
def setAll : List Nat → List Sv → Slo → Option Slo
  | [], [], ρ => some ρ
  | i :: is, s :: ss, ρ => setAll is ss (ρ.set i (some s))
  | _, _, _ => none
def sParT (is : List Nat) (items : List Pit) : DM Fl := fun ρ L => (dPm items ρ L).bind fun ss L1 => match setAll is ss ρ with
  | some r => .ok (.nx r) L1
  | none => .bad
section
variable {K : PySem.W.Frag} {mg : Str → Option Value} {G0 G F H : Hp} {ps : List Addr}
theorem setAll_len : ∀ {is : List Nat} {ss : List Sv} {ρ r : Slo}, setAll is ss ρ = some r → ss.length = is.length
  | [], [], _, _, _ => rfl
  | [], _ :: _, _, _, e => by cases e
  | _ :: _, [], _, _, e => by cases e
  | _ :: is, _ :: ss, _, _, e => by simp [setAll_len (is := is) (ss := ss) e]
theorem tNms_mv : ∀ {is : List Nat} {vs : List V} {ss : List Sv} {σ : List (Option V)} {ρ r : Slo} {Q : List (Option V) → Hp → Prop}, (∀ i ∈ is, i < σ.length) → ρ.length = σ.length → setAll is ss ρ = some r → vs.length = ss.length → Slots K mg G0 G F ps (σ ++ vs.map some) (ρ ++ ss.map some) →
    (∀ σ', Slots K mg G0 G F ps σ' r → Q σ' H) → tNms is vs σ H Q
  | [], [], [], σ, ρ, r, Q, _, _, e, _, S, h => ⟨rfl, h _ (by cases e; simpa using S)⟩
  | [], _ :: _, [], _, _, _, _, _, _, _, hv, _, _ => by simp at hv
  | [], _, _ :: _, _, _, _, _, _, _, e, _, _, _ => by cases e
  | _ :: _, _, [], _, _, _, _, _, _, e, _, _, _ => by cases e
  | _ :: _, [], _ :: _, _, _, _, _, _, _, _, hv, _, _ => by simp at hv
  | i :: is, v :: vs, s :: ss, σ, ρ, r, Q, hi, hl, e, hv, S, h => by
    have S2 := Slots.mv (i := i) (by simpa using S) hl (hi i List.mem_cons_self)
    exact ⟨v, vs, rfl, tNms_mv (fun j hj => by rw [List.length_set]; exact hi j (List.mem_cons_of_mem _ hj)) (by simp [hl]) e (by simpa using hv) S2 h⟩
end
theorem nmok_lt {X : Cx} : ∀ {es : List Expr} {is : List Nat}, NmOk X es is → ∀ i ∈ is, i < X.N.length
  | _, _, .nil, _, h => by cases h
  | _, _, .cons hi _ _ r _, j, h => by
    rcases List.mem_cons.mp h with e | h
    · subst e; exact (List.getElem?_eq_some_iff.mp hi).1
    · exact nmok_lt r j h
section
variable {X : Cx} {W : WX} {es vs : List Expr} {is : List Nat} {items : List Pit} {k k2 : Nat} {p1 p2 pos : Pos}
theorem ds_parT (hc : X.calm = true) (hN : X.N.Nodup) (h_ : NmOk X es is) (hv : DPm X W vs items) (hn : (assignEach es X.env).length = is.length := by rfl) (hst : (assignEach es X.env).findIdx? (·.1) = none := by rfl)
    (hs : swapsWithSole [.Tuple es k p1] (.Tuple vs k2 p2) pos.line X.env = pure false := by rfl) (hw : swappedStores [.Tuple es k p1] (.Tuple vs k2 p2) X.env = pure none := by rfl) (h1 : (assignEach [.Tuple es k p1] X.env).map (·.2) = [assign (.Tuple es k p1) X.env] := by rfl)
    (h16 : is.length ≤ 1000 := by decide) : DS X W (.Assign [.Tuple es k p1] (.Tuple vs k2 p2) pos) (sParT is items) := ⟨fun pins s σ H D J h => (ps_asg (pe_tup hv) (pg_tup (n := is.length) hc (pgs_names hN h_) hn hst) hs hw h1).run pins s σ H D J (by
  have hlen := J.len
  obtain ⟨G0, G, F, ps, ρ, L, g0, I, S, h⟩ := h
  refine ⟨G0, G, F, ps, ρ, L, [], [], g0, I, by simpa using S, S.len, Res.wp_mono (Res.wp_bind h) (fun ss L1 h1 us G1 F1 H1 p1 g1 x1 I1 S1 hv => ?_) fun e r L' q => q⟩
  split at h1
  · rename_i r hr
    have hl := setAll_len hr
    refine ⟨by rw [hv, hl]; exact Nat.le_trans h16 (by rw [sizeLine_eq]; decide), fun p hp => ?_⟩
    refine ⟨p, us, rfl, SqT.of upd_same, by rw [hv, hl], tNms_mv (G0 := G0) (G := G1) (F := F1) (ps := p1) (K := X.K) (mg := X.mg') (fun j hj => by rw [hlen]; exact nmok_lt h_ j hj) S.len hr hv (by simpa using S1) fun σ' S' => ?_⟩
    exact h1 σ' G1 F1 _ p1 g1 x1 (I1.beside hp) S'
  · exact h1.elim)⟩
end
/-! ### contexts as the printed proofs have them -/
/-- what of a context the text does not tell -/
structure Mi where
  A : Around
  s0 : Shared
  H0 : Hp
  l : Addr
  g : Addr
  cl : List (Str × Addr)
  q : Str
  fu : Option Addr
  cd : Value
  bu : Addr
  out : List Env
  ex : List Addr
  pn : List (Addr × Obj)
  xe : Value → Shared → Prop
abbrev Mi.env (m : Mi) (sc : Scope) : Env := { scope := sc, locals := m.l, globals := m.g, cells := m.cl, qual := m.q, func := m.fu, code := m.cd, frame := some m.l, builtins := m.bu }
abbrev cxm (P : Program) (w : World) (K : PySem.W.Frag) (mg : Str → Option Value) (base : Heap) (N : List Str) (sc : Scope) (m : Mi) : Cx :=
  { prog := P, w := w, K := K, mg := mg, base := base, A := m.A, N := N, s_0 := m.s0, H_0 := m.H0, env := m.env sc, outer := m.out, stack := m.env sc :: m.out, ex := m.ex, fn := fun _ => true, calm := true, pn := m.pn, xe := m.xe }
/-- a global def, ready to be called: its text, its parameters, what it does -/
structure Cal (P : Program) (w : World) (K : PySem.W.Frag) (mg : Str → Option Value) (base : Heap) (k : Nat) (x q : Str) (st : Stmt) (ps : List Str) (m : List Sv → Led → Res Dv) : Prop where
  ex : ∃ f fd, Fun K x q st f fd ∧ mg x = some (.ref f) ∧ Binds K fd ps [] ∧ DFn P w K mg base k f fd ps m
/-- a def of the text, there -/
def DefAt (K : PySem.W.Frag) (mg : Str → Option Value) (x q : Str) (st : Stmt) : Prop := ∃ f fd, Fun K x q st f fd ∧ mg x = some (.ref f)
section
variable {P : Program} {w : World} {K : PySem.W.Frag} {mg : Str → Option Value} {base : Heap} {k : Nat} {x q : Str} {N ps : List Str} {st : Stmt} {fb : DM Fl}
theorem cal_of (D : DefAt K mg x q st) (S : FnScope N ps (defScope st)) (hbd : ∀ {f : Addr} {fd : FuncData}, Fun K x q st f fd → Binds K fd ps [])
    (hb : ∀ (m : Mi) (W : WX), m.A.guards = some [] → Room k m.A → Takes (cxm P w K mg base N (defScope st) m) W → PassesOwn (model P w) m.A (m.env (defScope st)) m.xe → DSs (cxm P w K mg base N (defScope st) m) W (defBody st) fb) :
    Cal P w K mg base (k + 1) x q st ps (mOf N.length fb) := by
  obtain ⟨f, fd, F, hm⟩ := D
  refine ⟨f, fd, F, hm, hbd F, dfn_of F S fun X W e1 e2 e3 e4 e5 e6 e7 e8 e9 e10 e11 g r t p => ?_⟩
  obtain ⟨prog, w', K', mg', base', A, N', s0, H0, env, out, stk, ex, fn, calm, pn, xe⟩ := X
  obtain ⟨sc, l, gl, cl, qu, fu, cd, fr, bu⟩ := env
  simp only at e1 e2 e3 e4 e5 e6 e7 e8 e9 e10 e11
  subst e1 e2 e3 e4 e5 e6 e7 e8 e9 e10 e11
  exact hb ⟨A, s0, H0, l, gl, cl, qu, fu, cd, bu, out, ex, pn, xe⟩ W g r t p
end
section
variable {X : Cx} {W : WX} {x q : Str} {st : Stmt} {k j n i : Nat} {ps ks : List Str} {perm : List Nat} {m : List Sv → Led → Res Dv} {e : Expr} {es : List Expr} {fr fk : DM (List Sv)} {kws : List Keyword} {p pos : Pos}
theorem de_cal (c : Cal X.prog X.w X.K X.mg X.base j x q st ps m) (hg : Gl X x) (hc : X.calm = true) (hgu : X.A.guards = some []) (hr : Room k X.A) (hj : j ≤ k) (tk : Takes X W) (ha : DA X W (e :: es) fr) (hdb : (x == ("__debug__" : Str)) = false := by decide)
    (he : starEach (e :: es) X.env = (false, eval e X.env) :: starEach es X.env := by rfl) (hpl : (backTo pos (starEach es X.env)).any (·.1) = false := by rfl) (hn : ps.length = n := by rfl) : DE X W (.Call (.Name x p) (e :: es) [] pos) (dCall n m fr) := by
  subst hn
  obtain ⟨f, fd, F, hm, hb, D⟩ := c.ex
  exact de_call hc D hgu (hr.mono hj) hg hm F.kp hb tk ha hdb he hpl
theorem de_cal0 (c : Cal X.prog X.w X.K X.mg X.base j x q st ps m) (hg : Gl X x) (hc : X.calm = true) (hgu : X.A.guards = some []) (hr : Room k X.A) (hj : j ≤ k) (tk : Takes X W) (hdb : (x == ("__debug__" : Str)) = false := by decide) (hn : ps.length = n := by rfl) : DE X W (.Call (.Name x p) [] [] pos) (dCall n m dArgs0) := by
  subst hn
  obtain ⟨f, fd, F, hm, hb, D⟩ := c.ex
  exact de_call0 hc D hgu (hr.mono hj) hg hm F.kp hb tk hdb
/-- how keywords bind, by the def's own list of arguments -/
def KwOk (x q : Str) (st : Stmt) (ps : List Str) (n : Nat) (ks : List Str) (perm : List Nat) : Prop :=
  ∀ (kV doc pm : Value) (an : Option Addr) (cdv ct : Value) (us ws : List Value), us.length = n → ws.length = ks.length → bindArgs (PySem.W.fnOf x q (defArgs st) (defBody st) (defScope st) .none kV doc pm an cdv ct) ⟨us, ks.zip ws⟩ = pure (ps.zip (pick perm (us ++ ws)))
theorem pick_len {α : Type} : ∀ {perm : List Nat} {l : List α}, (∀ i ∈ perm, i < l.length) → (pick perm l).length = perm.length
  | [], _, _ => rfl
  | i :: p, l, h => by
    have hi := h i List.mem_cons_self
    unfold pick
    rw [List.getElem?_eq_getElem hi]
    simp [pick_len (perm := p) (l := l) fun j hj => h j (List.mem_cons_of_mem _ hj)]
theorem de_calK (c : Cal X.prog X.w X.K X.mg X.base j x q st ps m) (kw : KwOk x q st ps n ks perm) (hpm : perm.length = ps.length) (hpi : ∀ i ∈ perm, i < n + ks.length) (hg : Gl X x) (hc : X.calm = true) (hgu : X.A.guards = some []) (hr : Room k X.A) (hj : j ≤ k) (tk : Takes X W) (ha : DA X W (e :: es) fr) (hkw : DK X W kws fk)
    (hall : (backToKw pos (keywordEach kws X.env)).all (·.1.isSome) = true := by rfl) (hks : (backToKw pos (keywordEach kws X.env)).filterMap (·.1) = ks := by rfl)
    (hdb : (x == ("__debug__" : Str)) = false := by decide) (he : starEach (e :: es) X.env = (false, eval e X.env) :: starEach es X.env := by rfl)
    (hpl : ((backTo pos (starEach (e :: es) X.env)).any (·.1) || (backToKw pos (keywordEach kws X.env)).any (·.1.isNone)) = false := by rfl) (hn : ks.length = i := by rfl) : DE X W (.Call (.Name x p) (e :: es) kws pos) (dCallK n i perm m fr fk) := by
  subst hn
  obtain ⟨f, fd, F, hm, hb, D⟩ := c.ex
  exact de_callK hc D hgu (hr.mono hj) hg hm F.kp (kbd_of F kw) (fun l hl => (pick_len (by rw [hl]; exact hpi)).trans hpm) tk ha hkw hall hks hdb he hpl
theorem de_calK0 (c : Cal X.prog X.w X.K X.mg X.base j x q st ps m) (kw : KwOk x q st ps 0 ks perm) (hpm : perm.length = ps.length) (hpi : ∀ i ∈ perm, i < 0 + ks.length) (hg : Gl X x) (hc : X.calm = true) (hgu : X.A.guards = some []) (hr : Room k X.A) (hj : j ≤ k) (tk : Takes X W) (hkw : DK X W kws fk)
    (hall : (backToKw pos (keywordEach kws X.env)).all (·.1.isSome) = true := by rfl) (hks : (backToKw pos (keywordEach kws X.env)).filterMap (·.1) = ks := by rfl)
    (hdb : (x == ("__debug__" : Str)) = false := by decide) (hpl : (backToKw pos (keywordEach kws X.env)).any (·.1.isNone) = false := by rfl) (hn : ks.length = i := by rfl) : DE X W (.Call (.Name x p) [] kws pos) (dCallK 0 i perm m dArgs0 fk) := by
  subst hn
  obtain ⟨f, fd, F, hm, hb, D⟩ := c.ex
  exact de_callK0 hc D hgu (hr.mono hj) hg hm F.kp (kbd_of F kw) (fun l hl => (pick_len (by rw [hl]; exact hpi)).trans hpm) tk hkw hall hks hdb hpl
end
end DL

/-! DL, part 18: the law's own call. -/
namespace DL
open PySem PySem.Spec PyProof.Rows L2
/-- the heap in which the script alone is tracked -/
def onlyAt (a : Addr) (o : Obj) (ns : List Int) : Hp := fun b => if b = a then some (.frz o (.lst (ns.map V.int))) else none
theorem onlyAt_ne {a b : Addr} {o : Obj} {ns : List Int} (h : onlyAt a o ns b ≠ none) : b = a := by
  unfold onlyAt at h
  split at h
  · assumption
  · exact absurd rfl h
section
variable {P : Program} {w : World} {K : PySem.W.Frag} {mg mb : Str → Option Value} {k : Nat} {fa a : Addr} {fd : FuncData} {x : Str} {m : List Sv → Led → Res Dv} {s₁ : Shared} {vs : List Value} {ns : List Int}
/-- the def runs at a heap H0 in which nothing but the script stands -/
theorem run_at {H0 : Hp} (KX : K.In s₁.heap) (hns : s₁.heap.Ns mainGlobals mg) (hb : s₁.heap.Ns builtinsNs mb) (hbb : ∀ x : Str, x ≠ "__name__" → mb x = bootBuiltins x) (hlim : s₁.heap.NoLimit) (hg : s₁.gens = #[])
    (ha : s₁.heap.get? a = some { cls := .type "list", data := .seq vs.toArray }) (hr : Room k callerA) (hgu : callerA.guards = some []) (F : ∀ base : Heap, K.In base → base.Ns mainGlobals mg → DFn P w K mg base k fa fd [x] m) (hbind : ∀ (s : Shared) (u : Value), BindsTo s fd ⟨[u], []⟩ [(x, u)])
    (hS : SqL K H0 a (ns.map V.int)) (hO : Only H0) (hok : HOk P w H0 s₁.heap) (only : ∀ b, H0 b ≠ none → b = a) (noK : H0 a ≠ none → K.lookup a = none) (hm : (m [.val (.scr ns)] []).wp (fun d _ => d = .bl true) (fun _ _ _ => False)) :
    codeAny (model P w) callerA (.call (.ref fa) ⟨[.ref a], []⟩) (fun r s' => r = .ok (.ret (.bool true)) ∧ OldK s₁.heap s'.heap ∧ s'.os = s₁.os ∧ AllBare s'.gens) s₁ := by
  have dict_free : ∀ {c : Addr} {ob : Obj} {es : Array DictEntry} {n : Nat}, s₁.heap.get? c = some ob → ob.data = .dict es n → H0 c = none := by
    intro c ob es n e1 e2
    by_cases z : H0 c = none
    · exact z
    · have := only c z
      subst this
      rw [ha] at e1; cases e1; cases e2
  have ns_hid : ∀ {c : Addr} {f : Str → Option Value}, s₁.heap.Ns c f → (hidT s₁.heap H0).Ns c f := by
    rintro c f ⟨ob, es, n, e1, e2, r⟩
    exact ⟨ob, es, n, hidT_get e1 (dict_free e1 e2), e2, r⟩
  have k_hid : K.In (hidT s₁.heap H0) := by
    intro c ob e1
    refine hidT_get (KX c ob e1) ?_
    by_cases z : H0 c = none
    · exact z
    · have := only c z
      subst this
      rw [noK z] at e1; cases e1
  have lim : (hidT s₁.heap H0).NoLimit := by
    obtain ⟨f, e1, e2⟩ := hlim
    exact ⟨f, ns_hid e1, e2⟩
  have env0 : Env0 P w K mg (hidT s₁.heap H0) callerA [] s₁ H0 :=
    ⟨rfl, ⟨k_hid, ns_hid hns, ⟨mb, ns_hid hb, hbb⟩, lim⟩, fun c ob e1 => of_hidT e1, Nat.le_of_eq (hidT_size _ _), trivial, (fun c hc => by cases hc), hok, .of_eq hg⟩
  have start : HS K mg (fun _ => none) H0 H0 [] [] := ⟨(fun _ _ e => by cases e), Same.refl _, (fun _ e => absurd rfl e), rfl, .nil, (fun _ e => by cases e), (fun _ _ _ e => by simp at e)⟩
  have arg : XvsOk K mg (fun _ => none) H0 [] [.ref a] [.val (.scr ns)] := .cons (.scr hS) .nil
  have prom : spOf K mg [x].length m [.ref a] H0 (fun v _ => v = .bl true) (fun _ _ _ => False) := by
    refine ⟨rfl, _, _, _, _, _, start, arg, Res.wp_mono hm (fun d L e v F' H' p' _ _ r => ?_) fun _ _ _ q => q.elim⟩
    subst e
    cases r; rfl
  refine codeAny_mono ((F _ k_hid (ns_hid hns)).go callerA [] s₁ H0 ⟨[.ref a], []⟩ [.ref a] [.ref a] _ _ hgu hr env0 (hbind s₁ (.ref a)) (.cons rfl .nil) prom) ?_
  intro r s' h
  match r, h with
  | .error e, h =>
    obtain ⟨_, _, _, _, _, _, _, _, _, _, _, _, q⟩ := h
    exact False.elim q
  | .ok (.ret u), h =>
    obtain ⟨v, H2, eos, bare, un, hok2, rv, q⟩ := h
    cases (show v = .bl true from q)
    cases (show u = Value.bool true from rv)
    refine ⟨rfl, OldK.of_keep fun c ob e1 => ?_, eos, bare⟩
    cases z : H0 c with
    | none => exact un.keep c ob e1 z (fun hc => by cases hc) (fun hc => by cases hc)
    | some u =>
      rcases hO c with z2 | ⟨o2, xs, z2⟩
      · rw [z] at z2; cases z2
      · have old := (hok c _ z2).1
        have new := (hok2 c _ (un.frzs c o2 _ z2)).1
        rw [e1] at old
        rw [Option.some.inj old]
        exact new
  | .ok .next, h => exact False.elim h
  | .ok .brk, h => exact False.elim h
  | .ok .cont, h => exact False.elim h
/-- the law's call, from what the law's def does with a script -/
theorem law_at (KX : K.In s₁.heap) (hns : s₁.heap.Ns mainGlobals mg) (hb : s₁.heap.Ns builtinsNs mb) (hbb : ∀ x : Str, x ≠ "__name__" → mb x = bootBuiltins x) (hlim : s₁.heap.NoLimit) (hg : s₁.gens = #[])
    (ha : s₁.heap.get? a = some { cls := .type "list", data := .seq vs.toArray }) (hi : IntsAre vs ns) (hl : ns.length ≤ sizeLine) (hr : Room k callerA) (hgu : callerA.guards = some []) (F : ∀ base : Heap, K.In base → base.Ns mainGlobals mg → DFn P w K mg base k fa fd [x] m) (hbind : ∀ (s : Shared) (u : Value), BindsTo s fd ⟨[u], []⟩ [(x, u)])
    (hm : (m [.val (.scr ns)] []).wp (fun d _ => d = .bl true) (fun _ _ _ => False)) :
    codeAny (model P w) callerA (.call (.ref fa) ⟨[.ref a], []⟩) (fun r s' => r = .ok (.ret (.bool true)) ∧ OldK s₁.heap s'.heap ∧ s'.os = s₁.os ∧ AllBare s'.gens) s₁ := by
  have rel := vals_ints hi
  cases hk : K.lookup a with
  | some o =>
    have there := KX a o hk
    rw [ha] at there
    cases there
    have inK : SqL K (fun _ => none) a (ns.map V.int) := .inr ⟨_, vs.toArray, _, hk, rfl, rfl, rfl, by rw [List.size_toArray, hi.length]; exact hl, by simpa using rel⟩
    exact run_at (H0 := fun _ => none) KX hns hb hbb hlim hg ha hr hgu F hbind inK (fun _ => .inl rfl) (fun b u z => by cases (show (none : Option HO) = some u from z)) (fun _ z => absurd rfl z) (fun z => absurd rfl z) hm
  | none =>
    have here : onlyAt a { cls := .type "list", data := .seq vs.toArray } ns a = some (.frz { cls := .type "list", data := .seq vs.toArray } (.lst (ns.map V.int))) := if_pos rfl
    refine run_at (H0 := onlyAt a { cls := .type "list", data := .seq vs.toArray } ns) KX hns hb hbb hlim hg ha hr hgu F hbind (.inl (.inr ⟨_, here⟩)) (fun b => ?_) (fun b u z => ?_) (fun _ z => onlyAt_ne z) (fun _ => hk) hm
    · by_cases hb : b = a
      · rw [hb]; exact .inr ⟨_, _, here⟩
      · exact .inl (if_neg hb)
    · have e : b = a := onlyAt_ne (by rw [z]; simp)
      subst e
      rw [here] at z
      cases z
      exact ⟨ha, by rw [List.length_map]; exact hl, vs, _, rel, ha⟩
end
/-- the walk behind the head, from what the law's def does -/
theorem walk_dl {l : PySem.W.OpenLaw} {n k : Nat} {q : Program} {loose : List Str} {XP : (Str → Option Value) → Heap → Prop} {YP : World → Heap → Prop} {d : DefRec} {x : Str}
    (hn : l.most = some n) (hn2 : n ≤ sizeLine) (hdf : d.params.defaults = []) (hr : Room k callerA) (hgu : callerA.guards = some [])
    (F : ∀ (w : World) (mg : Str → Option Value) (fa : Addr) (h : Heap), YP w h → h.Ns mainGlobals mg → mg d.name = some (.ref fa) →
      ∃ (K : PySem.W.Frag) (fd : FuncData) (m : List Sv → Led → Res Dv), K.In h ∧ (∀ (s : Shared) (u : Value), BindsTo s fd ⟨[u], []⟩ [(x, u)]) ∧
        (∀ ns : List Int, ns.length ≤ n → (m [.val (.scr ns)] []).wp (fun d _ => d = .bl true) (fun _ _ _ => False)) ∧ ∀ base : Heap, K.In base → base.Ns mainGlobals mg → DFn l.prog w K mg base k fa fd [x] m) :
    PySem.W.WalkO q loose XP YP l.row.toRowW d [] (fun f vs => PySem.call f vs) := by
  refine Att.attach_call hn hdf fun w s0 s1 mg mb fa o pm cd doc a vs ns G Y ho hd hcd hmg hobj hints hlen hg => ?_
  obtain ⟨K, fd, m, KX, bnd, hm, hF⟩ := F w mg fa _ Y G.T.g hmg
  exact law_at KX G.T.g G.T.b G.T.builtins G.T.nolimit hg hobj hints (Nat.le_trans hlen hn2) hr hgu hF bnd (hm ns hlen)
end DL

/-! DL, part 19: small rules for the printed proofs. -/
namespace DL
open PySem PySem.Spec PyProof.Rows L2
section
variable {X : Cx} {W : WX} {x z : Str} {i : Int} {pos : Pos}
theorem de_gstr (h : ∃ t, X.mg x = some (.str z t)) (hg : Gl X x) (hz : z.length ≤ sizeLine := by decide +kernel) (hb : (x == ("__debug__" : Str)) = false := by decide) : DE X W (.Name x pos) (dC (.str z)) :=
  let ⟨t, ht⟩ := h; de_glob hg ht (v := .str z) ⟨t, rfl⟩ (fun _ _ => .str _ hz) hb
theorem de_gint (h : ∃ t, X.mg x = some (.int i t)) (hg : Gl X x) (hb : (x == ("__debug__" : Str)) = false := by decide) : DE X W (.Name x pos) (dC (.int i)) :=
  let ⟨t, ht⟩ := h; de_glob hg ht (v := .int i) ⟨t, rfl⟩ (fun _ _ => .int _) hb
end
theorem u_of {k : Nat} {A : Around} {n : Nat} (h : Room k A) (hn : n ≤ 200) : A.units + n < cLine := by have := h.un; omega
end DL

/-! DL, part 20: what the head must tell: the modules' table among it, own errors. -/
namespace DL
open PySem PySem.Spec PyProof.Rows L2
/-! ### facts about own errors' classes -/
def oexB (K : PySem.W.Frag) (C : Addr) : Bool := match K.lookup C with
  | some ⟨.type t, _, .cls cd, sl⟩ => decide (t = "type") && (cd.hasDict && (!cd.hasDel && ((match cd.mro with
      | .ref D :: bm => decide (D = C) && PySem.HandSPX.refsVE bm
      | _ => false) && (match sl.toList with
      | [_, _, _, _, some (.builtin n), _] => decide (n = "ValueError.__new__")
      | _ => false))))
  | _ => false
theorem oexB_ok {K : PySem.W.Frag} {C : Addr} (h : oexB K C = true) : ∃ nm q N bs bm sn sub ab col dd k0 k1 k2 k3 k5, K.lookup C = some (excClassObj nm q C N bs bm true sn sub ab col dd k0 k1 k2 k3 k5 "ValueError.__new__") ∧ PySem.HandSPX.refsVE bm = true := by
  unfold oexB at h
  split at h
  · rename_i t dd cd sl hl
    simp only [Bool.and_eq_true, decide_eq_true_eq, Bool.not_eq_true'] at h
    obtain ⟨h1, h2, h3, h4, h5⟩ := h
    obtain ⟨nm, bs, mro, N, q, hd, sn, sub, ab, col, del⟩ := cd
    simp only at h2 h3 h4
    split at h4
    · rename_i D bm
      simp only [Bool.and_eq_true, decide_eq_true_eq] at h4
      split at h5
      · rename_i a0 a1 a2 a3 n a5 hsl
        have es : sl = #[a0, a1, a2, a3, some (.builtin n), a5] := by
          rw [← Array.toArray_toList (xs := sl), hsl]
        subst h1 h2 h3 es
        rw [of_decide_eq_true h5, h4.1] at hl
        exact ⟨nm, q, N, bs, bm, sn, sub, ab, col, dd, a0, a1, a2, a3, a5, hl, h4.2⟩
      · cases h5
    · cases h4
  · cases h
/-- facts -/
inductive Fx where
  /-- an own error that is raised: class x -/
  | err (x : Str)
  /-- an own error's fields can be read -/
  | fld (x f : Str)
  /-- isinstance asks the instances of x rightly -/
  | exi (x : Str)
  /-- S.__init__ is ValueError's -/
  | sup (s : Str)
  /-- isinstance of an x and a class -/
  | kit (x : Str) (k : CKey) (b : Bool)
  | sys
def ckV (K : PySem.W.Frag) : CKey → Value
  | .inl k => .ref (He.ga K k)
  | .inr n => .type n
def Fx.ok (K : PySem.W.Frag) : Fx → Bool
  | .err x => oexB K (He.ga K x) && (decide (PySem.W.findIn K (.ref (He.ga K x)) "__setattr__" = some (some (.builtin "object.__setattr__"))) && (decide (PySem.W.subIn K (.ref (He.ga K x)) (.type "BaseException") = some true) && (decide (PySem.W.typeIn K (.ref (He.ga K x)) = some (.type "type")) && (PySem.W.keepIn K (.ref (He.ga K x)) &&
      (decide (PySem.W.findIn K (.ref (He.ga K x)) "__init__" = some (some (.ref (He.ma K (He.ga K x) "__init__")))) && decide (PySem.W.typeIn K (.ref (He.ma K (He.ga K x) "__init__")) = some (.type "function")))))))
  | .fld x f => xfB K (He.ga K x) && decide (PySem.W.findIn K (.ref (He.ga K x)) f = some none)
  | .exi x => decide (PySem.W.findIn K (.ref (He.ga K x)) "__getattribute__" = some (some (.builtin "BaseException.__getattribute__"))) && (decide (PySem.W.findIn K (.ref (He.ga K x)) "__getattr__" = some none) && (decide (PySem.W.subIn K (.ref (He.ga K x)) (.type "BaseException") = some true) && (PySem.W.hasDictIn K (He.ga K x) &&
      (decide (PySem.W.findIn K (.ref (He.ga K x)) "__class__" = some (some (.builtin "object.__class__"))) && (decide (PySem.W.specialIn K (.builtin "object.__class__") "__get__" = some (some (.builtin "getset_descriptor.__get__"))) && (decide (PySem.W.takesIn K (.builtin "object.__class__") = some true) && decide (PySem.W.mroIn K (He.ga K x) (.type "object") = some true)))))))
  | .sup s => PySem.W.readsIn K (He.ga K s) (.type "type") && (decide (PySem.W.specialIn K (.ref (He.ga K s)) "__getattribute__" = some (some (.builtin "type.__getattribute__"))) && (match PySem.W.findCls K (.ref (He.ga K s)) (.type "type") "__init__" with
      | some (.val v) => decide (v = .builtin "ValueError.__init__")
      | _ => false))
  | .kit x k b => decide (PySem.W.kitOne K (.ref (He.ga K x)) (ckV K k) = some b)
  | .sys => (K.lookup sysModules).isSome
section
variable {K : PySem.W.Frag} {mg : Str → Option Value} {x f s : Str}
theorem sys_ok (h : Fx.sys.ok K = true) : SysK K := Option.isSome_iff_exists.mp h
theorem err_ok (h : (Fx.err x).ok K = true) (g : mg x = some (.ref (He.ga K x))) : ErrC K mg x (He.ga K x) (He.ma K (He.ga K x) "__init__") := by
  simp only [Fx.ok, Bool.and_eq_true, decide_eq_true_eq] at h
  obtain ⟨h1, h2, h3, h4, h5, h6, h7⟩ := h
  exact ⟨g, ⟨oexB_ok h1, h2, h3, h4, h5⟩, h6, h7⟩
theorem fld_ok (h : (Fx.fld x f).ok K = true) : XfC K (He.ga K x) ∧ PySem.W.findIn K (.ref (He.ga K x)) f = some none := by
  simp only [Fx.ok, Bool.and_eq_true, decide_eq_true_eq] at h
  exact ⟨xfB_ok h.1, h.2⟩
theorem exi_ok (h : (Fx.exi x).ok K = true) : ExcC K (He.ga K x) := by
  simp only [Fx.ok, Bool.and_eq_true, decide_eq_true_eq] at h
  obtain ⟨h1, h2, h3, h4, h5, h6, h7, h8⟩ := h
  exact ⟨h1, h2, h3, h4, h5, h6, h7, h8⟩
theorem sup_ok (h : (Fx.sup s).ok K = true) : ClX.CRead K (He.ga K s) (.type "type") ∧ PySem.W.findCls K (.ref (He.ga K s)) (.type "type") "__init__" = some (.val (.builtin "ValueError.__init__")) := by
  simp only [Fx.ok, Bool.and_eq_true, decide_eq_true_eq] at h
  obtain ⟨h1, h2, h3⟩ := h
  refine ⟨⟨h1, h2⟩, ?_⟩
  split at h3
  · rename_i v e
    rw [e, of_decide_eq_true h3]
  · cases h3
theorem kit_ok {k : CKey} {b : Bool} (h : (Fx.kit x k b).ok K = true) : PySem.W.kitOne K (.ref (He.ga K x)) (ckV K k) = some b := of_decide_eq_true h
/-- a class's address by its name -/
theorem ga_of {C : Addr} (g : mg x = some (.ref (He.ga K x))) (h : mg x = some (.ref C)) : C = He.ga K x := by
  rw [g] at h
  exact (Value.ref.inj (Option.some.inj h)).symm
theorem cval_of {k : CKey} {v : Value} (g : ∀ y, k = .inl y → mg y = some (.ref (He.ga K y))) (h : CVl mg k v) : v = ckV K k := by
  cases k with
  | inl y =>
    obtain ⟨D, hD, rfl⟩ := h
    rw [ga_of (g y rfl) hD]; rfl
  | inr n => exact h
/-- a table of answers, entry by entry -/
theorem ctab_of {t : CTab} (g : ∀ q ∈ t, mg q.1 = some (.ref (He.ga K q.1)) ∧ (∀ y, q.2.1 = .inl y → mg y = some (.ref (He.ga K y))) ∧ (Fx.kit q.1 q.2.1 q.2.2).ok K = true) : CTabOk K mg t := fun q hq C v hC hv => by
  obtain ⟨g1, g2, g3⟩ := g q hq
  rw [ga_of g1 hC, cval_of g2 hv]
  exact kit_ok g3
end
/-! ### the hook -/
def frS (g : Addr → Option Obj) (n : Nat) : PySem.W.Frag := He.frT g (sysModules :: cStatics :: He.asD g n)
abbrev AlS : Type := He.Al × Bool
def obsS (n : Nat) (fa : List He.Fa) (fn : List He.FnD) (fx : List Fx) (g : Addr → Option Obj) : AlS := (He.obsE fa fn (frS g n), fx.all fun f => f.ok (frS g n))
def SaysS (fa : List He.Fa) (fn : List He.FnD) (fx : List Fx) (K : PySem.W.Frag) : Prop := He.SaysE fa fn K ∧ (fx.all fun f => f.ok K) = true
def hookS (n : Nat) (fa : List He.Fa) (fn : List He.FnD) (fx : List Fx) : PySem.W.Hook where
  α := AlS
  obs := fun s => obsS n fa fn fx s.heap.get?
  val := fun _ => (He.valE fn, true)
  says := fun _ h => ∃ K : PySem.W.Frag, K.In h ∧ SaysS fa fn fx K
  of := fun _ _ e => ⟨_, He.frT_in, congrArg (fun z : AlS => z.1) e, congrArg (fun z : AlS => z.2) e⟩
  keeps := fun _ _ _ ⟨K, hK, c⟩ k => ⟨K, PySem.W.Frag.In.keeps hK k, c⟩
theorem obsS_eq {n : Nat} {fa : List He.Fa} {fn : List He.FnD} {fx : List Fx} {g : Addr → Option Obj} {s : Shared} (h : ∀ a, g a = s.heap.get? a) : obsS n fa fn fx g = (hookS n fa fn fx).obs s := by
  have e : g = s.heap.get? := funext h
  subst e; rfl
section
variable {fa : List He.Fa} {fn : List He.FnD} {fx : List Fx} {K : PySem.W.Frag} {h : Heap} {mg : Str → Option Value}
theorem SaysS.ownf (c : SaysS fa fn fx K) {f : Fx} (i : Nat) (hf : fx[i]? = some f := by rfl) : f.ok K = true := List.all_eq_true.mp c.2 f (List.mem_of_getElem? hf)
theorem SaysS.kitf (c : SaysS fa fn fx K) {f : He.Fa} (i : Nat) (hf : fa[i]? = some f := by rfl) : f.ok K = true := He.SaysE.fact c.1 i hf
/-- a def that the head has told -/
theorem SaysS.deff (c : SaysS fa fn fx K) {x : Str} {st : Stmt} (i : Nat) (hf : fn[i]? = some ⟨(x, none), x, x, defArgs st, defBody st, defScope st⟩) (hk : PySem.W.keepIn K (.ref (He.ga K x)) = true) (g : mg x = some (.ref (He.ga K x))) : DefAt K mg x x st := by
  obtain ⟨oc, od, osl, kV, doc, pm, an, cdv, ct, e1, e2⟩ := He.SaysE.def_ c.1 i hf
  exact ⟨_, _, ⟨⟨oc, od, kV, doc, pm, an, cdv, ct, osl, rfl, e1, e2⟩, hk⟩, g⟩
theorem SaysS.ini (c : SaysS fa fn fx K) {x q : Str} {st : Stmt} (i : Nat) (hf : fn[i]? = some ⟨(x, some "__init__"), "__init__", q, defArgs st, defBody st, defScope st⟩) (hk : PySem.W.keepIn K (.ref (He.ma K (He.ga K x) "__init__")) = true) : ∃ fd, Fun K "__init__" q st (He.ma K (He.ga K x) "__init__") fd := by
  obtain ⟨oc, od, osl, kV, doc, pm, an, cdv, ct, e1, e2⟩ := He.SaysE.def_ c.1 i hf
  exact ⟨_, ⟨⟨oc, od, kV, doc, pm, an, cdv, ct, osl, rfl, e1, e2⟩, hk⟩⟩
/-- what an except clause asks, class by class -/
theorem exm_of {l : List (Str × Bool)} {cx : Value} (g : ∀ q ∈ l, mg q.1 = some (.ref (He.ga K q.1)) ∧ PySem.W.exmOne K (.ref (He.ga K q.1)) cx = some q.2) : ∀ c C b, l.lookup c = some b → mg c = some (.ref C) → PySem.W.exmOne K (.ref C) cx = some b := by
  intro c C b hl hC
  obtain ⟨g1, g2⟩ := g (c, b) (look_in hl)
  rw [ga_of g1 hC]; exact g2
where
  look_in {c : Str} {b : Bool} : ∀ {l : List (Str × Bool)}, l.lookup c = some b → (c, b) ∈ l
    | [], h => by cases h
    | (k, v) :: r, h => by
      rw [List.lookup_cons] at h
      cases e : c == k with
      | true => rw [e] at h; cases h; rw [beq_iff_eq.mp e]; exact List.mem_cons_self
      | false => rw [e] at h; exact List.mem_cons_of_mem _ (look_in h)
theorem fld_of {tab : List Str} {f : Str} (g : ∀ c ∈ tab, mg c = some (.ref (He.ga K c)) ∧ (Fx.fld c f).ok K = true) : ∀ c C, c ∈ tab → mg c = some (.ref C) → XfC K C ∧ PySem.W.findIn K (.ref C) f = some none := fun c C hc hC => by
  obtain ⟨g1, g2⟩ := g c hc
  rw [ga_of g1 hC]; exact fld_ok g2
theorem exi_of {tab : List Str} (g : ∀ c ∈ tab, mg c = some (.ref (He.ga K c)) ∧ (Fx.exi c).ok K = true) : ∀ c ∈ tab, ∀ C, mg c = some (.ref C) → ExcC K C := fun c hc C hC => by
  obtain ⟨g1, g2⟩ := g c hc
  rw [ga_of g1 hC]; exact exi_ok g2
end
/-- the law's def, the same over every base -/
theorem end_of {P : Program} {w : World} {K : PySem.W.Frag} {mg : Str → Option Value} {k : Nat} {x q : Str} {st : Stmt} {ps : List Str} {m : List Sv → Led → Res Dv} {f : Addr} (h0 : Heap) (hc : ∀ base, Cal P w K mg base k x q st ps m) (hf : mg x = some (.ref f)) :
    ∃ fd, Fun K x q st f fd ∧ ∀ base, DFn P w K mg base k f fd ps m := by
  obtain ⟨f0, fd0, F0, g0, _, D0⟩ := (hc h0).ex
  rw [g0] at hf
  cases hf
  refine ⟨fd0, F0, fun base => ?_⟩
  obtain ⟨f1, fd1, F1, g1, _, D1⟩ := (hc base).ex
  rw [g0] at g1
  cases g1
  obtain ⟨_, _, _, _, _, _, _, _, _, _, e0, _⟩ := F0.ex
  obtain ⟨_, _, _, _, _, _, _, _, _, _, e1, _⟩ := F1.ex
  rw [e0] at e1
  cases e1
  exact D1
/-- a class's body -/
def clsB : Stmt → List Stmt
  | .ClassDef (body := b) .. => b
  | _ => []
end DL

/-! Plain laws, part 0: computing denotations at known slots. -/
namespace DL
open PySem PySem.Spec PyProof.Rows L2
section
variable {α β : Type} {P : α → Led → Prop} {E : Exn → Slo → Led → Prop} {L : Led}
theorem wp_ok {a : α} : (Res.ok a L).wp P E = P a L := rfl
theorem wp_bindE {r : Res β} {k : β → Led → Res α} : (r.bind k).wp P E = r.wp (fun a L => (k a L).wp P E) E := by cases r <;> rfl
end
theorem mOf_eq {n : Nat} {fb : DM Fl} {ss : List Sv} {L : Led} : mOf n fb ss L = endOf (fb (start' n ss) L) := rfl
section
variable {x : Option Sv} {l : Slo} {L : Led} {f fa fb fc fe fo : DM Sv} {fr fk : DM (List Sv)} {t u : DM Bool} {g h : DM Fl} {i j n k : Nat} {s a b : Sv} {d : Dv}
@[simp] theorem ev_var : dVar i (x :: l) L = match (x :: l)[i]? with
  | some (some s) => .ok s.read L
  | _ => .bad := rfl
@[simp] theorem read_val : (Sv.val d).read = .val d := rfl
@[simp] theorem read_bor {xs : List Dv} : (Sv.bor xs).read = .bor xs := rfl
@[simp] theorem read_mu {xs : List Dv} : (Sv.mu xs).read = .bor xs := rfl
@[simp] theorem ev_c : dC d (x :: l) L = .ok (.val d) L := rfl
@[simp] theorem ev_op {o : Sv → Sv → Led → Option Sv} : dOp o fa fb (x :: l) L = (fa (x :: l) L).bind fun y L1 => (fb (x :: l) L1).bind fun z L2 => give (o y z L2) L2 := rfl
@[simp] theorem ev_un {o : Sv → Led → Option Sv} : dUn o fa (x :: l) L = (fa (x :: l) L).bind fun y L1 => give (o y L1) L1 := rfl
@[simp] theorem ev_bi {o : List Sv → Led → Option Sv} : dBi o fr (x :: l) L = (fr (x :: l) L).bind fun ss L1 => give (o ss L1) L1 := rfl
@[simp] theorem ev_args0 : dArgs0 (x :: l) L = .ok [] L := rfl
@[simp] theorem ev_args : dArgs fa fr (x :: l) L = (fa (x :: l) L).bind fun y L1 => (fr (x :: l) L1).bind fun ys L2 => .ok (y :: ys) L2 := rfl
@[simp] theorem ev_call {m : List Sv → Led → Res Dv} : dCall n m fr (x :: l) L = (fr (x :: l) L).bind fun ss L1 => if ss.length = n then toSv ((m ss L1).at_ (x :: l)) else .bad := rfl
@[simp] theorem ev_callK {perm : List Nat} {m : List Sv → Led → Res Dv} : dCallK n k perm m fr fk (x :: l) L = (fr (x :: l) L).bind fun ss L1 => (fk (x :: l) L1).bind fun zs L2 => if ss.length = n ∧ zs.length = k then toSv ((m (pick perm (ss ++ zs)) L2).at_ (x :: l)) else .bad := rfl
@[simp] theorem ev_lst : dLst fr (x :: l) L = (fr (x :: l) L).bind fun ss L1 => match vals ss with
  | some ds => if ds.length ≤ sizeLine then .ok (.val (.lst ds)) L1 else .bad
  | none => .bad := rfl
@[simp] theorem ev_lstO : dLstO fr (x :: l) L = (fr (x :: l) L).bind fun ss L1 => match vals ss with
  | some ds => if ds.length ≤ sizeLine then .ok (.val (.own L1.length)) (L1 ++ [.lst ds]) else .bad
  | none => .bad := rfl
@[simp] theorem ev_tup : dTup fr (x :: l) L = (fr (x :: l) L).bind fun ss L1 => match vals ss with
  | some ds => if ds.length ≤ sizeLine then .ok (.val (.tup ds)) L1 else .bad
  | none => .bad := rfl
@[simp] theorem vals_nil : vals [] = some [] := rfl
@[simp] theorem vals_cons {r : List Sv} : vals (.val d :: r) = (vals r).map (d :: ·) := rfl
@[simp] theorem ev_if : dIf t fa fb (x :: l) L = (t (x :: l) L).bind fun q L1 => if q = true then fa (x :: l) L1 else fb (x :: l) L1 := rfl
@[simp] theorem ev_andV : dAndV fa fb (x :: l) L = (fa (x :: l) L).bind fun s L1 => match s with
  | .val (.bl true) => fb (x :: l) L1
  | .val (.bl false) => .ok (.val (.bl false)) L1
  | _ => .bad := rfl
@[simp] theorem ev_orV : dOrV fa fb (x :: l) L = (fa (x :: l) L).bind fun s L1 => match s with
  | .val (.bl true) => .ok (.val (.bl true)) L1
  | .val (.bl false) => fb (x :: l) L1
  | _ => .bad := rfl
@[simp] theorem ev_notV : dNotV fa (x :: l) L = (fa (x :: l) L).bind fun s L1 => match s with
  | .val (.bl k) => .ok (.val (.bl (!k))) L1
  | _ => .bad := rfl
@[simp] theorem ev_not : dNot t (x :: l) L = (t (x :: l) L).bind fun q L1 => .ok (!q) L1 := rfl
@[simp] theorem ev_and : dAnd t u (x :: l) L = (t (x :: l) L).bind fun q L1 => if q = true then u (x :: l) L1 else .ok false L1 := rfl
@[simp] theorem ev_or : dOr t u (x :: l) L = (t (x :: l) L).bind fun q L1 => if q = true then .ok true L1 else u (x :: l) L1 := rfl
@[simp] theorem ev_B : dB f (x :: l) L = (f (x :: l) L).bind fun s L1 => match s with
  | .val (.bl k) => .ok k L1
  | _ => .bad := rfl
@[simp] theorem ev_chain {o o' : Sv → Sv → Led → Option Sv} : dChain o o' fa fb fc (x :: l) L = (fa (x :: l) L).bind fun p L1 => (fb (x :: l) L1).bind fun q L2 => match o p q L2 with
  | some (.val (.bl true)) => (fc (x :: l) L2).bind fun z L3 => give (o' q z L3) L3
  | some (.val (.bl false)) => .ok (.val (.bl false)) L2
  | _ => .bad := rfl
@[simp] theorem ev_pt0 : dPt0 (x :: l) L = .ok none L := rfl
@[simp] theorem ev_pt1 : dPt1 fe (x :: l) L = (fe (x :: l) L).bind fun s L1 => match s with
  | .val (.int i) => .ok (some i) L1
  | _ => .bad := rfl
@[simp] theorem ev_sl {fl fh : DM (Option Int)} : dSl fe fl fh (x :: l) L = (fe (x :: l) L).bind fun a L1 => (fl (x :: l) L1).bind fun lo L2 => (fh (x :: l) L2).bind fun hi L3 => give (gSl a lo hi L3) L3 := rfl
@[simp] theorem ev_m1 {o : Str → List Sv → Led → Option Sv} : dM1 o fo fe (x :: l) L = (fo (x :: l) L).bind fun a L1 => match a with
  | .val (.str z) => (fe (x :: l) L1).bind fun y L2 => give (o z [y] L2) L2
  | _ => .bad := rfl
@[simp] theorem ev_seq : sSeq g h (x :: l) L = (g (x :: l) L).bind fun fl L1 => match fl with
  | .nx r => h r L1
  | o => .ok o L1 := rfl
@[simp] theorem ev_nil : sNil (x :: l) L = .ok (.nx (x :: l)) L := rfl
@[simp] theorem ev_ret : sRet f (x :: l) L = (f (x :: l) L).bind fun s L1 => match s with
  | .val d => .ok (.rt d) L1
  | _ => .bad := rfl
@[simp] theorem ev_retN : sRetN (x :: l) L = .ok (.rt .non) L := rfl
@[simp] theorem ev_drop : sDrop f (x :: l) L = (f (x :: l) L).bind fun _ L1 => .ok (.nx (x :: l)) L1 := rfl
@[simp] theorem ev_set : sSet i f (x :: l) L = (f (x :: l) L).bind fun s L1 => match s with
  | .val d => .ok (.nx ((x :: l).set i (some (.val d)))) L1
  | _ => .bad := rfl
@[simp] theorem ev_setL : sSetL i fr (x :: l) L = (fr (x :: l) L).bind fun ss L1 => match vals ss with
  | some ds => if ds.length ≤ sizeLine then .ok (.nx ((x :: l).set i (some (.mu ds)))) L1 else .bad
  | none => .bad := rfl
@[simp] theorem ev_sif : sIf t g h (x :: l) L = (t (x :: l) L).bind fun q L1 => if q = true then g (x :: l) L1 else h (x :: l) L1 := rfl
@[simp] theorem ev_app : sApp i fe (x :: l) L = match (x :: l)[i]? with
  | some (some (.mu xs)) => (fe (x :: l) L).bind fun s L1 => match s with
    | .val d => if xs.length < sizeLine then .ok (.nx ((x :: l).set i (some (.mu (xs ++ [d]))))) L1 else .bad
    | _ => .bad
  | _ => .bad := rfl
@[simp] theorem ev_frz : gFrz i g (x :: l) L = match (x :: l)[i]? with
  | some (some (.mu xs)) => g ((x :: l).set i (some (.val (.lst xs)))) L
  | some (some (.muD ks)) => g ((x :: l).set i (some (.val (.dic ks)))) L
  | _ => .bad := rfl
@[simp] theorem ev_asg {gt : Sv → DM Slo} : sAsg fe gt (x :: l) L = (fe (x :: l) L).bind fun s L1 => (gt s (x :: l) L1).bind fun r L2 => .ok (.nx r) L2 := rfl
@[simp] theorem ev_gN : gN i (.val d) (x :: l) L = .ok ((x :: l).set i (some (.val d))) L := rfl
@[simp] theorem ev_gTp {is : List Nat} {ds : List Dv} : gTp is (.val (.tup ds)) (x :: l) L = give (gNs is ds (x :: l)) L := rfl
@[simp] theorem ev_gSt : gSt fo fe s (x :: l) L = noErr ((fo (x :: l) L).bind fun o L1 => (fe (x :: l) L1).bind fun i L2 => match setLed o i s L2 with
  | some L3 => .ok (x :: l) L3
  | none => .bad) := rfl
@[simp] theorem ev_gs0 : gs0 [] (x :: l) L = .ok (x :: l) L := rfl
@[simp] theorem ev_gsC {gt : Sv → DM Slo} {gs : List Dv → DM Slo} {ds : List Dv} : gsC gt gs (d :: ds) (x :: l) L = (gt (.val d) (x :: l) L).bind fun r L1 => gs ds r L1 := rfl
@[simp] theorem ev_gTup {gs : List Dv → DM Slo} {ds : List Dv} : gTup' n gs (.val (.tup ds)) (x :: l) L = if ds.length = n then noErr (gs ds (x :: l) L) else .bad := rfl
@[simp] theorem ev_par {is : List Pit} : sPar i j is (x :: l) L = (dPm is (x :: l) L).bind fun ss L1 => match ss with
  | [s, t] => .ok (.nx (((x :: l).set i (some s)).set j (some t))) L1
  | _ => .bad := rfl
@[simp] theorem ev_parT {ns : List Nat} {is : List Pit} : sParT ns is (x :: l) L = (dPm is (x :: l) L).bind fun ss L1 => match setAll ns ss (x :: l) with
  | some r => .ok (.nx r) L1
  | none => .bad := rfl
@[simp] theorem ev_pm0 : dPm [] (x :: l) L = .ok [] L := rfl
@[simp] theorem ev_pmE {r : List Pit} : dPm (.e f :: r) (x :: l) L = (f (x :: l) L).bind fun s L1 => match s with
  | .val d => (dPm r (x :: l) L1).bind fun ss L2 => .ok (.val d :: ss) L2
  | _ => .bad := rfl
@[simp] theorem ev_pmL {r : List Pit} : dPm (.l fr :: r) (x :: l) L = (fr (x :: l) L).bind fun zs L1 => match vals zs with
  | some ds => if ds.length ≤ sizeLine then (dPm r (x :: l) L1).bind fun ss L2 => .ok (.mu ds :: ss) L2 else .bad
  | none => .bad := rfl
@[simp] theorem setAll_nil {ρ : Slo} : setAll [] [] ρ = some ρ := rfl
@[simp] theorem setAll_cons {ns : List Nat} {ss : List Sv} {ρ : Slo} : setAll (i :: ns) (s :: ss) ρ = setAll ns ss (ρ.set i (some s)) := rfl
@[simp] theorem gNs_nil {ρ : Slo} : gNs [] [] ρ = some ρ := rfl
@[simp] theorem gNs_cons {ns : List Nat} {ds : List Dv} {ρ : Slo} : gNs (i :: ns) (d :: ds) ρ = gNs ns ds (ρ.set i (some (.val d))) := rfl
@[simp] theorem ev_iV : iV fe (x :: l) L = (fe (x :: l) L).bind fun s L1 => give s.src L1 := rfl
@[simp] theorem ev_iEn : iEn fe (x :: l) L = (fe (x :: l) L).bind fun s L1 => give (s.src.map fun z => ⟨enumF 0 z.items, z.solid⟩) L1 := rfl
@[simp] theorem ev_iZp : iZp fa fb (x :: l) L = (fa (x :: l) L).bind fun p L1 => (fb (x :: l) L1).bind fun q L2 => give (match p.src, q.src with | some p, some q => some ⟨zipF p.items q.items, p.solid && q.solid⟩ | _, _ => none) L2 := rfl
@[simp] theorem ev_iR1 : iR1 fa (x :: l) L = (fa (x :: l) L).bind fun s L1 => match s with
  | .val (.int j) => if rgOk 0 j then .ok ⟨upF 0 j.toNat, true⟩ L1 else .bad
  | _ => .bad := rfl
@[simp] theorem ev_for {fi : DM Src} {T : Tg} : sFor fi T g (x :: l) L = (fi (x :: l) L).bind fun s L1 => if s.solid then fLoop T g s.items (x :: l) L1 else .bad := rfl
@[simp] theorem ev_lc {fi : DM Src} {T : Tg} {vs : List Nat} : dLc fi T t fe vs (x :: l) L = (fi (x :: l) L).bind fun s L1 => (noErr (cLoop T t fe (wipeR (x :: l) vs) s.items [] L1)).bind fun acc L2 => .ok (.val (.lst acc)) L2 := rfl
@[simp] theorem ev_raise {c : Str} {fds : List Str} : sRaise c fds fr (x :: l) L = (fr (x :: l) L).bind fun ss L1 => match vals ss with
  | some ds => if ds.length = fds.length then .err ⟨c, (fds.zip ds).reverse⟩ (x :: l) L1 else .bad
  | none => .bad := rfl
@[simp] theorem ev_ty {n : String} : (fun (_ : Slo) L => Res.ok (Sv.val (.ty n)) L) (x :: l) L = .ok (.val (.ty n)) L := rfl
@[simp] theorem wipe_nil {ρ : Slo} : wipeR ρ [] = ρ := rfl
@[simp] theorem wipe_cons {ρ : Slo} {v : Nat} {vs : List Nat} : wipeR ρ (v :: vs) = (wipeR ρ vs).set v none := rfl
/-! operators -/
@[simp] theorem add_ii {i j : Int} : gAdd (.val (.int i)) (.val (.int j)) L = some (.val (.int (i + j))) := rfl
@[simp] theorem sub_ii {i j : Int} : gSub (.val (.int i)) (.val (.int j)) L = some (.val (.int (i - j))) := rfl
@[simp] theorem mod_ii {i j : Int} : gMod (.val (.int i)) (.val (.int j)) L = if 0 < j then some (.val (.int (i % j))) else none := rfl
@[simp] theorem fdiv_ii {i j : Int} : gFdiv (.val (.int i)) (.val (.int j)) L = if CDiv i j then some (.val (.int (i / j))) else none := rfl
@[simp] theorem pow_ii {i j : Int} : gPow (.val (.int i)) (.val (.int j)) L = if CPow i j then some (.val (.int (i ^ j.toNat))) else none := rfl
@[simp] theorem mul_ii {i j : Int} : gMul (.val (.int i)) (.val (.int j)) L = if small64 i ∨ small64 j then some (.val (.int (i * j))) else none := rfl
@[simp] theorem neg_i {i : Int} : gNeg (.val (.int i)) L = some (.val (.int (-i))) := rfl
@[simp] theorem cmp_ii {c : Int → Int → Bool} {i j : Int} : gCmp c (.val (.int i)) (.val (.int j)) L = some (.val (.bl (c i j))) := rfl
@[simp] theorem add_ll {p q : List Dv} : gAdd (.val (.lst p)) (.val (.lst q)) L = if p.length + q.length ≤ sizeLine then some (.val (.lst (p ++ q))) else none := rfl
@[simp] theorem add_ss {p q : Str} : gAdd (.val (.str p)) (.val (.str q)) L = if p.length + q.length ≤ sizeLine then some (.val (.str (p ++ q))) else none := rfl
@[simp] theorem divmod_ii {i j : Int} : gDivmod [.val (.int i), .val (.int j)] L = if CDivP i j then some (.val (.tup [.int (i / j), .int (i % j)])) else none := rfl
@[simp] theorem abs_i {i : Int} : gAbs [.val (.int i)] L = some (.val (.int (if i < 0 then -i else i))) := rfl
@[simp] theorem max_ii {i j : Int} : gMax [.val (.int i), .val (.int j)] L = some (.val (.int (if j > i then j else i))) := rfl
@[simp] theorem min_ii {i j : Int} : gMin [.val (.int i), .val (.int j)] L = some (.val (.int (if j < i then j else i))) := rfl
@[simp] theorem noErr_bind {α β : Type} {r : Res α} {f : α → Led → Res β} : noErr (r.bind f) = (noErr r).bind fun a L => noErr (f a L) := by cases r <;> rfl
@[simp] theorem noErr_bad {α : Type} : noErr (.bad : Res α) = .bad := rfl
@[simp] theorem noErr_give {α : Type} {o : Option α} : noErr (give o L) = give o L := by cases o <;> rfl
end
section
variable {x : Option Sv} {l : Slo} {L : Led} {fs : List (DM Sv × DM Sv)} {fk fv : DM Sv}
@[simp] theorem ev_dic : dDic fs (x :: l) L = (dPairs fs (x :: l) L).bind fun prs L1 => match keyd prs with
  | some ks => if ks.length ≤ 15 then .ok (.val (.dic (mergeD [] ks))) L1 else .bad
  | none => .bad := rfl
@[simp] theorem ev_pairs0 : dPairs [] (x :: l) L = .ok [] L := rfl
@[simp] theorem ev_pairs1 : dPairs ((fk, fv) :: fs) (x :: l) L = (fk (x :: l) L).bind fun y L1 => (fv (x :: l) L1).bind fun z L2 => (dPairs fs (x :: l) L2).bind fun ps L3 => .ok ((y, z) :: ps) L3 := rfl
@[simp] theorem eq_ii {i j : Int} : gEq (.val (.int i)) (.val (.int j)) L = some (.val (.bl (i == j))) := rfl
@[simp] theorem len_l {xs : List Dv} : gLen [.val (.lst xs)] L = some (.val (.int xs.length)) := rfl
@[simp] theorem len_b {xs : List Dv} : gLen [.bor xs] L = some (.val (.int xs.length)) := rfl
@[simp] theorem len_t {xs : List Dv} : gLen [.val (.tup xs)] L = some (.val (.int xs.length)) := rfl
@[simp] theorem len_s {z : Str} : gLen [.val (.str z)] L = some (.val (.int z.length)) := rfl
/-- a place of a list, of a text -/
theorem ix_l {xs : List Dv} {r : Int} (h0 : 0 ≤ r) (h1 : r < xs.length) : ∃ d, d ∈ xs ∧ xs[r.toNat]? = some d ∧ ∀ L, gIx (.val (.lst xs)) (.val (.int r)) L = some (.val d) ∧ gIx (.bor xs) (.val (.int r)) L = some (.val d) := by
  have hl : r.toNat < xs.length := by omega
  refine ⟨xs[r.toNat], List.getElem_mem hl, by simp [hl], fun L => ?_⟩
  constructor <;> simp [gIx, Sv.seqL, L2.atI, ixN, h0, h1, hl]
theorem ix_s {z : Str} {r : Int} (h0 : 0 ≤ r) (h1 : r < z.length) : ∃ c, c ∈ z.cps.toList ∧ ∀ L, gIx (.val (.str z)) (.val (.int r)) L = some (.val (.str ⟨#[c]⟩)) := by
  have hz : z.length = z.cps.size := rfl
  have hl : r.toNat < z.cps.size := by omega
  refine ⟨z.cps[r.toNat], by simp, fun L => ?_⟩
  have h2 : r < (z.cps.size : Int) := by omega
  simp [gIx, Sv.seqL, Sv.seqT, L2.atI, ixN, h0, h2, hl]
end
/-! ### pots -/
/-- at p stands a pot -/
def PotAt (L : Led) (p : Nat) : Prop := ∃ a b : Int, L[p]? = some (.lst [.int a, .int b]) ∧ 0 ≤ a ∧ 0 ≤ b ∧ b < 2 ^ 31
theorem PotAt.set {L : Led} {p : Nat} {a b : Int} (hp : p < L.length) (ha : 0 ≤ a) (hb : 0 ≤ b) (hb2 : b < 2 ^ 31) : PotAt (L.set p (.lst [.int a, .int b])) p :=
  ⟨a, b, by rw [List.getElem?_set_self hp], ha, hb, hb2⟩
section
variable {L : Led} {p : Nat} {a b v : Int}
theorem pot_get0 (e : L[p]? = some (.lst [.int a, .int b])) : gIx (.val (.own p)) (.val (.int 0)) L = some (.val (.int a)) := by
  simp [gIx, Sv.seqL, e, L2.atI, ixN]
theorem pot_get1 (e : L[p]? = some (.lst [.int a, .int b])) : gIx (.val (.own p)) (.val (.int 1)) L = some (.val (.int b)) := by
  simp [gIx, Sv.seqL, e, L2.atI, ixN]
theorem pot_set0 (e : L[p]? = some (.lst [.int a, .int b])) : setLed (.val (.own p)) (.val (.int 0)) (.val (.int v)) L = some (L.set p (.lst [.int v, .int b])) := by
  simp [setLed, e, ixN]
theorem pot_set1 (e : L[p]? = some (.lst [.int a, .int b])) : setLed (.val (.own p)) (.val (.int 1)) (.val (.int v)) L = some (L.set p (.lst [.int a, .int v])) := by
  simp [setLed, e, ixN]
theorem pot_get0s (h : p < L.length) : gIx (.val (.own p)) (.val (.int 0)) (L.set p (.lst [.int a, .int b])) = some (.val (.int a)) := pot_get0 (b := b) (by rw [List.getElem?_set_self h])
theorem pot_get1s (h : p < L.length) : gIx (.val (.own p)) (.val (.int 1)) (L.set p (.lst [.int a, .int b])) = some (.val (.int b)) := pot_get1 (a := a) (by rw [List.getElem?_set_self h])
theorem cdivp_of {a n : Int} (h0 : 0 < n) (h1 : n < 2 ^ 70) : CDivP a n := by
  refine ⟨h0, ?_⟩
  unfold Builtin.divisionGoesByPylong
  have hl : n.natAbs.log2 < 70 := by
    have h2 : n.natAbs < 2 ^ 70 := by omega
    by_cases hz : n.natAbs = 0
    · rw [hz]; decide
    · exact (Nat.log2_lt hz).mpr h2
  have h3 : ¬ ((if (n == 0) = true then 0 else n.natAbs.log2 / 30 + 1) > 300) := by
    split
    · omega
    · omega
  simp only [h3, decide_false, Bool.false_and]
end
end DL

/-! Plain laws, part 1: small data: its repr fits. -/
namespace DL
open PySem PySem.Spec PyProof.Rows L2
def chOk (x : Str) : Bool := x.cps.toList.all fun c => decide (c < 16 ^ 8)
def keyOk : Key → Bool
  | .inl i => decide (i.natAbs < 10 ^ 40)
  | .inr x => chOk x
mutual
def Dv.leaf : Dv → Bool
  | .non => true
  | .bl _ => true
  | .int i => decide (i.natAbs < 10 ^ 40)
  | .str x => chOk x
  | .lst xs => leafs xs
  | .tup xs => leafs xs
  | .dic ks => leafk ks
  | _ => false
def leafs : List Dv → Bool
  | [] => true
  | d :: ds => d.leaf && leafs ds
def leafk : List (Key × Dv) → Bool
  | [] => true
  | (k, d) :: ds => keyOk k && d.leaf && leafk ds
end
mutual
def Dv.blk : Dv → Nat
  | .str x => x.cps.size
  | .lst xs => blks xs
  | .tup xs => blks xs
  | .dic ks => blkk ks
  | _ => 0
def blks : List Dv → Nat
  | [] => 0
  | d :: ds => d.blk + 1 + blks ds
def blkk : List (Key × Dv) → Nat
  | [] => 0
  | (k, d) :: ds => (match k with
    | .inl _ => 0
    | .inr x => x.cps.size) + d.blk + 2 + blkk ds
end
mutual
def Dv.dep : Dv → Nat
  | .lst xs => deps xs + 1
  | .tup xs => deps xs + 1
  | .dic ks => depk ks + 1
  | _ => 0
def deps : List Dv → Nat
  | [] => 0
  | d :: ds => max d.dep (deps ds)
def depk : List (Key × Dv) → Nat
  | [] => 0
  | (_, d) :: ds => max d.dep (depk ds)
end
theorem int_short {i : Int} (h : i.natAbs < 10 ^ 40) : (toString i : String).length ≤ 41 := int_text_length_le10 (by decide) h
theorem int_show {i : Int} (h : i.natAbs < 10 ^ 40) : i.natAbs.log2 < 1920 := by
  by_cases hz : i.natAbs = 0
  · rw [hz]; decide
  · have h2 : i.natAbs.log2 < 140 := (Nat.log2_lt hz).mpr (Nat.lt_of_lt_of_le h (by decide))
    omega
/-- what is known of plain data -/
structure PyOk (d : Dv) (p : PyData) : Prop where
  short : p.leavesShort 64 = true
  show_ : p.showable = true
  bulk : p.bulk = d.blk
  depth : p.depth = d.dep
structure PysOk (ds : List Dv) (ps : List PyData) : Prop where
  short : PyData.leavesShortAll 64 ps = true
  show_ : PyData.showableAll ps = true
  bulk : PyData.bulkAll ps = blks ds
  depth : PyData.depthAll ps = deps ds
structure PykOk (ds : List (Key × Dv)) (ps : List (PyData × PyData)) : Prop where
  short : PyData.leavesShortKv 64 ps = true
  show_ : PyData.showableKv ps = true
  bulk : PyData.bulkKv ps = blkk ds
  depth : PyData.depthKv ps = depk ds
mutual
theorem leaf_py : ∀ d : Dv, d.leaf = true → ∃ p, d.py = some p ∧ PyOk d p
  | .non, _ => ⟨.none, rfl, rfl, rfl, rfl, rfl⟩
  | .bl b, _ => ⟨.bool b, rfl, by cases b <;> rfl, rfl, rfl, rfl⟩
  | .int i, h => by
    have h' : i.natAbs < 10 ^ 40 := by simpa [Dv.leaf] using h
    refine ⟨.int i, rfl, ?_, ?_, rfl, rfl⟩
    · have := int_short h'
      simp only [PyData.leavesShort, decide_eq_true_eq]
      show (Str.ofString (toString i)).length ≤ 64
      rw [PySem.ofString_length]
      omega
    · simp only [PyData.showable, decide_eq_true_eq]; exact int_show h'
  | .str x, h => ⟨.str x, rfl, by simpa [PyData.leavesShort, Dv.leaf, chOk] using h, rfl, rfl, rfl⟩
  | .lst xs, h => by
    obtain ⟨ps, e, r⟩ := leaf_pys xs (by simpa [Dv.leaf] using h)
    exact ⟨.list ps, by simp [Dv.py, e], by simpa [PyData.leavesShort] using r.short, by simpa [PyData.showable] using r.show_, by simpa [PyData.bulk, Dv.blk] using r.bulk, by simp [PyData.depth, Dv.dep, r.depth]⟩
  | .tup xs, h => by
    obtain ⟨ps, e, r⟩ := leaf_pys xs (by simpa [Dv.leaf] using h)
    exact ⟨.tuple ps, by simp [Dv.py, e], by simpa [PyData.leavesShort] using r.short, by simpa [PyData.showable] using r.show_, by simpa [PyData.bulk, Dv.blk] using r.bulk, by simp [PyData.depth, Dv.dep, r.depth]⟩
  | .dic ks, h => by
    obtain ⟨ps, e, r⟩ := leaf_pyk ks (by simpa [Dv.leaf] using h)
    exact ⟨.dict ps, by simp [Dv.py, e], by simpa [PyData.leavesShort] using r.short, by simpa [PyData.showable] using r.show_, by simpa [PyData.bulk, Dv.blk] using r.bulk, by simp [PyData.depth, Dv.dep, r.depth]⟩
  | .obj _ _, h => by simp [Dv.leaf] at h
  | .own _, h => by simp [Dv.leaf] at h
  | .scr _, h => by simp [Dv.leaf] at h
  | .opq, h => by simp [Dv.leaf] at h
  | .ty _, h => by simp [Dv.leaf] at h
  | .cls _, h => by simp [Dv.leaf] at h
theorem leaf_pys : ∀ ds : List Dv, leafs ds = true → ∃ ps, pys ds = some ps ∧ PysOk ds ps
  | [], _ => ⟨[], rfl, rfl, rfl, rfl, rfl⟩
  | d :: ds, h => by
    have h' : d.leaf = true ∧ leafs ds = true := by simpa [leafs] using h
    obtain ⟨p, e1, r1⟩ := leaf_py d h'.1
    obtain ⟨ps, e2, r2⟩ := leaf_pys ds h'.2
    exact ⟨p :: ps, by simp [pys, e1, e2], by simp [PyData.leavesShortAll, r1.short, r2.short], by simp [PyData.showableAll, r1.show_, r2.show_], by simp [PyData.bulkAll, blks, r1.bulk, r2.bulk], by simp [PyData.depthAll, deps, r1.depth, r2.depth]⟩
theorem leaf_pyk : ∀ ds : List (Key × Dv), leafk ds = true → ∃ ps, pyk ds = some ps ∧ PykOk ds ps
  | [], _ => ⟨[], rfl, rfl, rfl, rfl, rfl⟩
  | (k, d) :: ds, h => by
    have h' : (keyOk k = true ∧ d.leaf = true) ∧ leafk ds = true := by simpa [leafk] using h
    obtain ⟨p, e1, r1⟩ := leaf_py d h'.1.2
    obtain ⟨ps, e2, r2⟩ := leaf_pyk ds h'.2
    cases k with
    | inl i =>
      have hi : i.natAbs < 10 ^ 40 := by simpa [keyOk] using h'.1.1
      obtain ⟨q, eq, rq⟩ := leaf_py (.int i) (by simpa [Dv.leaf] using hi)
      cases eq
      exact ⟨(.int i, p) :: ps, by simp [pyk, e1, e2], by simp [PyData.leavesShortKv, rq.short, r1.short, r2.short], by simp [PyData.showableKv, rq.show_, r1.show_, r2.show_], by simp [PyData.bulkKv, blkk, rq.bulk, r1.bulk, r2.bulk, Dv.blk], by simp [PyData.depthKv, depk, rq.depth, r1.depth, r2.depth, Dv.dep]⟩
    | inr x =>
      have hi : chOk x = true := by simpa [keyOk] using h'.1.1
      obtain ⟨q, eq, rq⟩ := leaf_py (.str x) (by simpa [Dv.leaf] using hi)
      cases eq
      exact ⟨(.str x, p) :: ps, by simp [pyk, e1, e2], by simp [PyData.leavesShortKv, rq.short, r1.short, r2.short], by simp [PyData.showableKv, rq.show_, r1.show_, r2.show_], by simp [PyData.bulkKv, blkk, rq.bulk, r1.bulk, r2.bulk, Dv.blk], by simp [PyData.depthKv, depk, rq.depth, r1.depth, r2.depth, Dv.dep]⟩
end
/-- small data -/
structure OkB (n k : Nat) (d : Dv) : Prop where
  leaf : d.leaf = true
  blk : d.blk ≤ n
  dep : d.dep ≤ k
theorem OkB.mono {n k n' k' : Nat} {d : Dv} (h : OkB n k d) (a : n ≤ n') (b : k ≤ k') : OkB n' k' d := ⟨h.leaf, Nat.le_trans h.blk a, Nat.le_trans h.dep b⟩
/-- its repr -/
theorem repr_val {n k : Nat} {d : Dv} (h : OkB n k d) (hn : n ≤ 200000) (hk : k ≤ 64) : ∃ z : Str, z.length ≤ sizeLine ∧ ∀ L, gRepr [.val d] L = some (.val (.str z)) := by
  obtain ⟨p, e, r⟩ := leaf_py d h.leaf
  have h1 := PyData.shown_le_bulk 64 (by decide) p r.short
  have h2 : p.shown.length ≤ sizeLine := by
    rw [sizeLine_eq]
    have := h.blk
    rw [r.bulk] at h1
    omega
  have ok : okR p = true := by
    simp only [okR, Bool.and_eq_true, decide_eq_true_eq]
    exact ⟨⟨r.show_, by rw [r.depth]; exact Nat.le_trans h.dep hk⟩, h2⟩
  exact ⟨p.shown, h2, fun L => by simp [gRepr, Sv.py, e, ok]⟩
theorem ok_lst {n k : Nat} {ds : List Dv} (h : ∀ d ∈ ds, OkB n k d) : OkB (ds.length * (n + 1)) (k + 1) (.lst ds) ∧ OkB (ds.length * (n + 1)) (k + 1) (.tup ds) := by
  have key : leafs ds = true ∧ blks ds ≤ ds.length * (n + 1) ∧ deps ds ≤ k := by
    induction ds with
    | nil => exact ⟨rfl, Nat.zero_le _, Nat.zero_le _⟩
    | cons d ds ih =>
      obtain ⟨a, b, c⟩ := ih fun e he => h e (List.mem_cons_of_mem _ he)
      have hd := h d List.mem_cons_self
      refine ⟨by simp [leafs, hd.leaf, a], ?_, ?_⟩
      · have := hd.blk
        simp only [blks, List.length_cons, Nat.add_mul, Nat.one_mul]
        omega
      · have := hd.dep
        simp only [deps]
        omega
  obtain ⟨a, b, c⟩ := key
  exact ⟨⟨by simpa [Dv.leaf] using a, by simpa [Dv.blk] using b, by simp only [Dv.dep]; omega⟩, ⟨by simpa [Dv.leaf] using a, by simpa [Dv.blk] using b, by simp only [Dv.dep]; omega⟩⟩
end DL

/-! Plain laws, part 2: loops, and lists of texts. -/
namespace DL
open PySem PySem.Spec PyProof.Rows L2
section
variable {T : Tg} {ft : DM Bool} {fe : DM Sv} {ρ : Slo}
/-- a comprehension that draws -/
theorem cl_each {Inv : Led → Prop} {Pd : Dv → Prop} : ∀ (ds : List Dv), (∀ d ∈ ds, ∀ L, Inv L → ∃ ρ1 r L1, T.set d ρ = some ρ1 ∧ ft ρ1 L = .ok true L ∧ fe ρ1 L = .ok (.val r) L1 ∧ Pd r ∧ Inv L1) → ∀ acc L, Inv L → acc.length + ds.length ≤ sizeLine → ∃ rs L', cLoop T ft fe ρ ds acc L = .ok (acc ++ rs) L' ∧ rs.length = ds.length ∧ (∀ r ∈ rs, Pd r) ∧ Inv L'
  | [], _, acc, L, I, _ => ⟨[], L, by simp [cLoop], rfl, by simp, I⟩
  | d :: ds, h, acc, L, I, hl => by
    obtain ⟨ρ1, r, L1, e1, e2, e3, p, I1⟩ := h d (by simp) L I
    have hl' : acc.length + (ds.length + 1) ≤ sizeLine := hl
    obtain ⟨rs, L', e, n, q, J⟩ := cl_each ds (fun x hx => h x (by simp [hx])) (acc ++ [r]) L1 I1 (by simp; omega)
    refine ⟨r :: rs, L', ?_, by simp [n], by simpa using ⟨p, q⟩, J⟩
    have hlt : acc.length < sizeLine := by omega
    simp only [cLoop, e1, e2, Res.bind, e3, if_true, hlt, e, List.append_assoc, List.singleton_append]
/-- a comprehension that only reads -/
theorem cl_fn {α : Type} {L : Led} (f g : α → Dv) (q : α → Bool) : ∀ (as : List α), (∀ a ∈ as, ∃ ρ1, T.set (f a) ρ = some ρ1 ∧ ft ρ1 L = .ok (q a) L ∧ (q a = true → fe ρ1 L = .ok (.val (g a)) L)) → ∀ acc, acc.length + as.length ≤ sizeLine → cLoop T ft fe ρ (as.map f) acc L = .ok (acc ++ (as.filter q).map g) L
  | [], _, acc, _ => by simp [cLoop]
  | a :: as, h, acc, hl => by
    obtain ⟨ρ1, e1, e2, e3⟩ := h a (by simp)
    have hl' : acc.length + (as.length + 1) ≤ sizeLine := hl
    have hlt : acc.length < sizeLine := by omega
    cases hq : q a with
    | true =>
      have e := cl_fn f g q as (fun x hx => h x (by simp [hx])) (acc ++ [g a]) (by simp; omega)
      simp only [List.map_cons, cLoop, e1, e2, Res.bind, e3 hq, hq, if_true, hlt, e, List.append_assoc, List.singleton_append, List.filter_cons]
    | false =>
      have e := cl_fn f g q as (fun x hx => h x (by simp [hx])) acc (by omega)
      simp only [List.map_cons, cLoop, e1, e2, Res.bind, hq, e, List.filter_cons]
      simp
end
section
variable {T : Tg} {fb : DM Fl}
/-- a for loop that runs to its end -/
theorem fl_inv {Inv : Nat → Slo → Led → Prop} : ∀ (ds : List Dv) (k : Nat), (∀ i d, ds[i]? = some d → ∀ ρ L, Inv (k + i) ρ L → ∃ ρ1 ρ2 L2, T.set d ρ = some ρ1 ∧ fb ρ1 L = .ok (.nx ρ2) L2 ∧ Inv (k + i + 1) ρ2 L2) → ∀ ρ L, Inv k ρ L → ∃ ρ' L', fLoop T fb ds ρ L = .ok (.nx ρ') L' ∧ Inv (k + ds.length) ρ' L'
  | [], k, _, ρ, L, I => ⟨ρ, L, rfl, I⟩
  | d :: ds, k, h, ρ, L, I => by
    obtain ⟨ρ1, ρ2, L2, e1, e2, J⟩ := h 0 d rfl ρ L I
    obtain ⟨ρ', L', e, K⟩ := fl_inv ds (k + 1) (fun i x hx ρ L I => by
      have := h (i + 1) x (by simpa using hx) ρ L (by rw [show k + (i + 1) = k + 1 + i by omega]; exact I)
      rw [show k + (i + 1) + 1 = k + 1 + i + 1 by omega] at this
      exact this) ρ2 L2 J
    refine ⟨ρ', L', ?_, by rw [show k + (d :: ds).length = k + 1 + ds.length by simp; omega]; exact K⟩
    simp only [fLoop, e1, e2, Res.bind, e]
end
/-! lists of texts -/
theorem pys_strs : ∀ ys : List Str, pys (ys.map Dv.str) = some (ys.map PyData.str)
  | [] => rfl
  | y :: ys => by simp [pys, Dv.py, pys_strs ys]
theorem plain_strs : ∀ ys : List Str, PyData.plainAll (ys.map PyData.str) = true
  | [] => rfl
  | y :: ys => by simp [PyData.plainAll, PyData.plain, plain_strs ys]
theorem in_strs {neg : Bool} {z : Str} {ys : List Str} {L : Led} : gIn neg (.val (.str z)) (.val (.lst (ys.map Dv.str))) L = some (.val (.bl (if neg then !ys.contains z else ys.contains z))) := by
  have h1 : okIn (.str z) (ys.map PyData.str) = true := by
    simp [okIn, plain_strs, PyData.plain, PyData.depth]
  have h2 : ((ys.map PyData.str).any fun w => PyData.eqv w (.str z)) = ys.contains z := by
    rw [List.any_map, List.contains_eq_any_beq]
    congr 1
    funext w
    simp [PyData.eqv]
    exact BEq.comm
  simp [gIn, gInB, Sv.key, Sv.prs, Sv.py, Dv.py, pys_strs, h1, h2]
theorem map_of {α : Type} {f : α → Dv} {P : α → Prop} : ∀ {rs : List Dv}, (∀ r ∈ rs, ∃ a, r = f a ∧ P a) → ∃ as : List α, rs = as.map f ∧ ∀ a ∈ as, P a
  | [], _ => ⟨[], rfl, by simp⟩
  | r :: rs, h => by
    obtain ⟨a, e, p⟩ := h r (by simp)
    obtain ⟨as, e2, q⟩ := map_of (rs := rs) fun x hx => h x (by simp [hx])
    exact ⟨a :: as, by rw [e, e2]; rfl, by simpa using ⟨p, q⟩⟩
theorem join_cps' : ∀ cs : List Nat, (PySem.Str.join (Str.ofString "") (cs.map fun c => (⟨#[c]⟩ : Str))).cps.toList = cs
  | [] => rfl
  | [c] => rfl
  | c :: d :: cs => by
    have e := join_cps' (d :: cs)
    have e0 : (Str.ofString "").cps = #[] := by decide +kernel
    show ((#[c] ++ (Str.ofString "").cps) ++ (PySem.Str.join (Str.ofString "") ((d :: cs).map fun c => (⟨#[c]⟩ : Str))).cps).toList = _
    rw [e0]
    simp only [Array.toList_append, e]
    rfl
theorem join_cps (cs : List Nat) : (Txt.join (Str.ofString "") (cs.map fun c => (⟨#[c]⟩ : Str))).cps.toList = cs := by
  show (Builtin.Str.glued (Str.ofString "") _).cps.toList = _
  rw [StrLaws.glued_eq_join]
  exact join_cps' cs
theorem ones_sum : ∀ cs : List Nat, ((cs.map fun c => (⟨#[c]⟩ : Str)).map (·.length)).sum = cs.length
  | [] => rfl
  | c :: cs => by
    have e := ones_sum cs
    simp only [List.map_cons, List.sum_cons, e, List.length_cons]
    show 1 + cs.length = _
    omega
end DL

namespace K11
open PySem PySem.Spec PyProof.Rows L2 DL
def top (i : Nat) : Stmt := PySem.Challenge.pw_shortlog_k11_names_alphabets_words.main.body.getD i (.Pass ⟨0, 0, 0, 0⟩)
theorem takes_wno {X : Cx} : Takes X wNo := takes_none5
theorem bt_abs : bootBuiltins "abs" = some (.builtin "abs") := by decide +kernel
theorem bt_all : bootBuiltins "all" = some (.builtin "all") := by decide +kernel
theorem bt_bool : bootBuiltins "bool" = some (.type "bool") := by decide +kernel
theorem bt_divmod : bootBuiltins "divmod" = some (.builtin "divmod") := by decide +kernel
theorem bt_int : bootBuiltins "int" = some (.type "int") := by decide +kernel
theorem bt_isinstance : bootBuiltins "isinstance" = some (.builtin "isinstance") := by decide +kernel
theorem bt_len : bootBuiltins "len" = some (.builtin "len") := by decide +kernel
theorem bt_list : bootBuiltins "list" = some (.type "list") := by decide +kernel
theorem bt_max : bootBuiltins "max" = some (.builtin "max") := by decide +kernel
theorem bt_min : bootBuiltins "min" = some (.builtin "min") := by decide +kernel
theorem bt_repr : bootBuiltins "repr" = some (.builtin "repr") := by decide +kernel
theorem bt_str : bootBuiltins "str" = some (.type "str") := by decide +kernel
theorem bt_tuple : bootBuiltins "tuple" = some (.type "tuple") := by decide +kernel
/-! ### is_integer -/
abbrev st_is_integer : Stmt := top 9
def fb_is_integer : DM Fl :=
  sRet ((dAndV ((dBi gIsi (dArgs (dVar 0) (dArgs ((fun _ L => .ok (.val (.ty "int")) L)) (dArgs0))))) ((dNotV ((dBi gIsi (dArgs (dVar 0) (dArgs ((fun _ L => .ok (.val (.ty "bool")) L)) (dArgs0)))))))))
def m_is_integer : List Sv → Led → Res Dv := mOf 1 fb_is_integer
theorem sc_is_integer : FnScope ["value"] ["value"] (defScope st_is_integer) := ⟨rfl, rfl, rfl, by decide +kernel, rfl, by decide +kernel, by decide +kernel⟩
theorem cal_is_integer {P : Program} {w : World} {K : PySem.W.Frag} {mg : Str → Option Value} {base : Heap}  (hk : SysK K) (D : DefAt K mg "is_integer" "is_integer" st_is_integer)  (n_bool : mg "bool" = none) (n_int : mg "int" = none) (n_isinstance : mg "isinstance" = none) :
    Cal P w K mg base 1 "is_integer" "is_integer" st_is_integer ["value"] m_is_integer :=
  cal_of D sc_is_integer (fun F => F.binds (ps := ["value"]) fun _ _ _ _ _ _ us hl => match us, hl with | [_], _ => rfl) fun m W hg hr ht hp => by
  exact (dss_one (ds_ret (de_and (de_callB call_isiA cs_isi (by exact rfl) n_isinstance bt_isinstance (da_cons (de_var 0 (by exact rfl) (by first | exact Or.inl rfl | exact Or.inr (Or.inl rfl) | exact Or.inr (Or.inr rfl))) (da_cons (de_ty (by exact rfl) n_int bt_int) da_nil))) (de_one (de_not (de_callB call_isiA cs_isi (by exact rfl) n_isinstance bt_isinstance (da_cons (de_var 0 (by exact rfl) (by first | exact Or.inl rfl | exact Or.inr (Or.inl rfl) | exact Or.inr (Or.inr rfl))) (da_cons (de_ty (by exact rfl) n_bool bt_bool) da_nil))))))))
/-! ### is_count -/
abbrev st_is_count : Stmt := top 10
def fb_is_count : DM Fl :=
  sRet ((dAndV ((dCall 1 m_is_integer (dArgs (dVar 0) (dArgs0)))) ((dOp (gCmp fun i j => decide (j ≤ i)) (dVar 0) (dC (.int 0))))))
def m_is_count : List Sv → Led → Res Dv := mOf 1 fb_is_count
theorem sc_is_count : FnScope ["value"] ["value"] (defScope st_is_count) := ⟨rfl, rfl, rfl, by decide +kernel, rfl, by decide +kernel, by decide +kernel⟩
theorem cal_is_count {P : Program} {w : World} {K : PySem.W.Frag} {mg : Str → Option Value} {base : Heap}  (hk : SysK K) (D : DefAt K mg "is_count" "is_count" st_is_count) (c_is_integer : Cal P w K mg base 1 "is_integer" "is_integer" st_is_integer ["value"] m_is_integer)  :
    Cal P w K mg base 2 "is_count" "is_count" st_is_count ["value"] m_is_count :=
  cal_of D sc_is_count (fun F => F.binds (ps := ["value"]) fun _ _ _ _ _ _ us hl => match us, hl with | [_], _ => rfl) fun m W hg hr ht hp => by
  exact (dss_one (ds_ret (de_and (de_cal c_is_integer (by exact rfl) (by exact rfl) hg hr (by decide) ht (da_cons (de_var 0 (by exact rfl) (by first | exact Or.inl rfl | exact Or.inr (Or.inl rfl) | exact Or.inr (Or.inr rfl))) da_nil)) (de_one (de_cmp op_ge (sCmp (f := fun i j => decide (j ≤ i))) (de_var 0 (by exact rfl) (by first | exact Or.inl rfl | exact Or.inr (Or.inl rfl) | exact Or.inr (Or.inr rfl))) de_int (nomark _))))))
/-! ### is_name -/
abbrev st_is_name : Stmt := top 11
def fb_is_name : DM Fl :=
  (sSeq (sIf (dOr (dNot (dB ((dBi gIsi (dArgs (dVar 0) (dArgs ((fun _ L => .ok (.val (.ty "str")) L)) (dArgs0))))))) (dNot (dB (dChain (gCmp fun i j => decide (i ≤ j)) (gCmp fun i j => decide (i ≤ j)) (dC (.int 1)) ((dBi gLen (dArgs (dVar 0) (dArgs0)))) (dC (.int 8)))))) (sRet (dC (.bl false))) (sNil))
    (sRet ((dBi gAll (dArgs ((dLc (iV (dVar 0)) (.one 1) dTr ((dOp (gIn false) (dVar 1) (dC (.str "abcdefghijklmnopqrstuvwxyz")))) [1])) (dArgs0))))))
def m_is_name : List Sv → Led → Res Dv := mOf 2 fb_is_name
theorem sc_is_name : FnScope ["value", "sign"] ["value"] (defScope st_is_name) := ⟨rfl, rfl, rfl, by decide +kernel, rfl, by decide +kernel, by decide +kernel⟩
theorem cal_is_name {P : Program} {w : World} {K : PySem.W.Frag} {mg : Str → Option Value} {base : Heap}  (hk : SysK K) (D : DefAt K mg "is_name" "is_name" st_is_name)  (g_LETTERS : ∃ t, mg "LETTERS" = some (.str "abcdefghijklmnopqrstuvwxyz" t)) (g_MOST_LETTERS : ∃ t, mg "MOST_LETTERS" = some (.int 8 t)) (n_all : mg "all" = none) (n_isinstance : mg "isinstance" = none) (n_len : mg "len" = none) (n_str : mg "str" = none) :
    Cal P w K mg base 1 "is_name" "is_name" st_is_name ["value"] m_is_name :=
  cal_of D sc_is_name (fun F => F.binds (ps := ["value"]) fun _ _ _ _ _ _ us hl => match us, hl with | [_], _ => rfl) fun m W hg hr ht hp => by
  exact (dss_cons (ds_if (PW.pt (dw_or (dt_not (dt_val (de_callB call_isiA cs_isi (by exact rfl) n_isinstance bt_isinstance (da_cons (de_var 0 (by exact rfl) (by first | exact Or.inl rfl | exact Or.inr (Or.inl rfl) | exact Or.inr (Or.inr rfl))) (da_cons (de_ty (by exact rfl) n_str bt_str) da_nil))))) (dw_or1 (dt_not (dt_chain op_le op_le (sCmp (f := fun i j => decide (i ≤ j))) (sCmp (f := fun i j => decide (i ≤ j))) de_int (de_callB call_len' cs_len (by exact rfl) n_len bt_len (da_cons (de_var 0 (by exact rfl) (by first | exact Or.inl rfl | exact Or.inr (Or.inl rfl) | exact Or.inr (Or.inr rfl))) da_nil)) (de_gint g_MOST_LETTERS (by exact rfl))))))) (dss_one (ds_ret de_bl)) dss_nil)
    (dss_one (ds_ret (de_callB (cr_all (by exact rfl)) cs_Q (by exact rfl) n_all bt_all (da_cons (de_lc (by exact rfl) sc_is_name.nd (di_val (de_var 0 (by exact rfl) (by first | exact Or.inl rfl | exact Or.inr (Or.inl rfl) | exact Or.inr (Or.inr rfl)))) (blkOk_by (own := [("sign", 1)]) (by exact rfl)) (fun _ _ _ _ _ => (dtg_name 1 sc_is_name.nd (by exact rfl) (by first | exact Or.inl rfl | exact Or.inr rfl))) (fun _ _ _ _ _ => dts_nil) (fun _ _ _ _ _ => (de_cmp (oIn (u_of hr (by decide))) (sIn hk) (de_var 1 (by exact rfl) (by first | exact Or.inl rfl | exact Or.inr (Or.inl rfl) | exact Or.inr (Or.inr rfl))) (de_gstr g_LETTERS (by exact rfl)) (by exact rfl))) (by decide)) da_nil)))))
/-! ### is_list -/
abbrev st_is_list : Stmt := top 12
def fb_is_list : DM Fl :=
  sRet ((dBi gIsi (dArgs (dVar 0) (dArgs ((dTup (dArgs ((fun _ L => .ok (.val (.ty "list")) L)) (dArgs ((fun _ L => .ok (.val (.ty "tuple")) L)) (dArgs0))))) (dArgs0)))))
def m_is_list : List Sv → Led → Res Dv := mOf 1 fb_is_list
theorem sc_is_list : FnScope ["value"] ["value"] (defScope st_is_list) := ⟨rfl, rfl, rfl, by decide +kernel, rfl, by decide +kernel, by decide +kernel⟩
theorem cal_is_list {P : Program} {w : World} {K : PySem.W.Frag} {mg : Str → Option Value} {base : Heap}  (hk : SysK K) (D : DefAt K mg "is_list" "is_list" st_is_list)  (n_isinstance : mg "isinstance" = none) (n_list : mg "list" = none) (n_tuple : mg "tuple" = none) :
    Cal P w K mg base 1 "is_list" "is_list" st_is_list ["value"] m_is_list :=
  cal_of D sc_is_list (fun F => F.binds (ps := ["value"]) fun _ _ _ _ _ _ us hl => match us, hl with | [_], _ => rfl) fun m W hg hr ht hp => by
  exact (dss_one (ds_ret (de_callB call_isiA cs_isi (by exact rfl) n_isinstance bt_isinstance (da_cons (de_var 0 (by exact rfl) (by first | exact Or.inl rfl | exact Or.inr (Or.inl rfl) | exact Or.inr (Or.inr rfl))) (da_cons (de_tup (da_cons (de_ty (by exact rfl) n_list bt_list) (da_cons (de_ty (by exact rfl) n_tuple bt_tuple) da_nil))) da_nil)))))
/-! ### first_wrong_symbol -/
abbrev st_first_wrong_symbol : Stmt := top 13
def fb_first_wrong_symbol : DM Fl :=
  (sSeq (sFor (iEn (dVar 0)) (.tup [1, 2])
    (sIf (dOr (dNot (dB ((dCall 1 m_is_name (dArgs (dVar 2) (dArgs0)))))) (dB (dOp (gIn false) (dVar 2) ((dSl (dVar 0) dPt0 (dPt1 (dVar 1))))))) (sRet (dVar 1)) (sNil)))
    (sRet (dC .non)))
def m_first_wrong_symbol : List Sv → Led → Res Dv := mOf 3 fb_first_wrong_symbol
theorem sc_first_wrong_symbol : FnScope ["symbols", "position", "symbol"] ["symbols"] (defScope st_first_wrong_symbol) := ⟨rfl, rfl, rfl, by decide +kernel, rfl, by decide +kernel, by decide +kernel⟩
theorem cal_first_wrong_symbol {P : Program} {w : World} {K : PySem.W.Frag} {mg : Str → Option Value} {base : Heap}  (hk : SysK K) (D : DefAt K mg "first_wrong_symbol" "first_wrong_symbol" st_first_wrong_symbol) (c_is_name : Cal P w K mg base 1 "is_name" "is_name" st_is_name ["value"] m_is_name) (n_enumerate : mg "enumerate" = none) :
    Cal P w K mg base 2 "first_wrong_symbol" "first_wrong_symbol" st_first_wrong_symbol ["symbols"] m_first_wrong_symbol :=
  cal_of D sc_first_wrong_symbol (fun F => F.binds (ps := ["symbols"]) fun _ _ _ _ _ _ us hl => match us, hl with | [_], _ => rfl) fun m W hg hr ht hp => by
  exact (dss_cons (ds_for hp (by exact rfl) (di_enum (by exact rfl) n_enumerate (de_var 0 (by exact rfl) (by first | exact Or.inl rfl | exact Or.inr (Or.inl rfl) | exact Or.inr (Or.inr rfl)))) (dtg_tup (by exact rfl) sc_first_wrong_symbol.nd (.cons (i := 1) (by exact rfl) (by first | exact Or.inl rfl | exact Or.inr rfl) (by first | exact Or.inl rfl | exact Or.inr rfl) (.cons (i := 2) (by exact rfl) (by first | exact Or.inl rfl | exact Or.inr rfl) (by first | exact Or.inl rfl | exact Or.inr rfl) .nil (by exact rfl)) (by exact rfl))) (dss_one (ds_if (PW.pt (dw_or (dt_not (dt_val (de_cal c_is_name (by exact rfl) (by exact rfl) hg hr (by decide) ht (da_cons (de_var 2 (by exact rfl) (by first | exact Or.inl rfl | exact Or.inr (Or.inl rfl) | exact Or.inr (Or.inr rfl))) da_nil)))) (dw_or1 (dt_cmp (oIn (u_of hr (by decide))) (sIn hk) (de_var 2 (by exact rfl) (by first | exact Or.inl rfl | exact Or.inr (Or.inl rfl) | exact Or.inr (Or.inr rfl))) (de_slice (de_var 0 (by exact rfl) (by first | exact Or.inl rfl | exact Or.inr (Or.inl rfl) | exact Or.inr (Or.inr rfl))) dp_none (dp_some (de_var 1 (by exact rfl) (by first | exact Or.inl rfl | exact Or.inr (Or.inl rfl) | exact Or.inr (Or.inr rfl))))) (by exact rfl))))) (dss_one (ds_ret (de_var 1 (by exact rfl) (by first | exact Or.inl rfl | exact Or.inr (Or.inl rfl) | exact Or.inr (Or.inr rfl))))) dss_nil)))
    (dss_one (ds_ret de_non)))
/-! ### is_alphabet -/
abbrev st_is_alphabet : Stmt := top 14
def fb_is_alphabet : DM Fl :=
  sRet ((dAndV ((dCall 1 m_is_list (dArgs (dVar 0) (dArgs0)))) ((dAndV ((dChain (gCmp fun i j => decide (i ≤ j)) (gCmp fun i j => decide (i ≤ j)) (dC (.int 1)) ((dBi gLen (dArgs (dVar 0) (dArgs0)))) (dC (.int 8)))) ((dOp (gIsN false) ((dCall 1 m_first_wrong_symbol (dArgs (dVar 0) (dArgs0)))) (dC .non)))))))
def m_is_alphabet : List Sv → Led → Res Dv := mOf 1 fb_is_alphabet
theorem sc_is_alphabet : FnScope ["value"] ["value"] (defScope st_is_alphabet) := ⟨rfl, rfl, rfl, by decide +kernel, rfl, by decide +kernel, by decide +kernel⟩
theorem cal_is_alphabet {P : Program} {w : World} {K : PySem.W.Frag} {mg : Str → Option Value} {base : Heap}  (hk : SysK K) (D : DefAt K mg "is_alphabet" "is_alphabet" st_is_alphabet) (c_is_list : Cal P w K mg base 1 "is_list" "is_list" st_is_list ["value"] m_is_list) (c_first_wrong_symbol : Cal P w K mg base 2 "first_wrong_symbol" "first_wrong_symbol" st_first_wrong_symbol ["symbols"] m_first_wrong_symbol) (g_MOST_SYMBOLS : ∃ t, mg "MOST_SYMBOLS" = some (.int 8 t)) (n_len : mg "len" = none) :
    Cal P w K mg base 3 "is_alphabet" "is_alphabet" st_is_alphabet ["value"] m_is_alphabet :=
  cal_of D sc_is_alphabet (fun F => F.binds (ps := ["value"]) fun _ _ _ _ _ _ us hl => match us, hl with | [_], _ => rfl) fun m W hg hr ht hp => by
  exact (dss_one (ds_ret (de_and (de_cal c_is_list (by exact rfl) (by exact rfl) hg hr (by decide) ht (da_cons (de_var 0 (by exact rfl) (by first | exact Or.inl rfl | exact Or.inr (Or.inl rfl) | exact Or.inr (Or.inr rfl))) da_nil)) (de_and (de_chain op_le op_le (sCmp (f := fun i j => decide (i ≤ j))) (sCmp (f := fun i j => decide (i ≤ j))) de_int (de_callB call_len' cs_len (by exact rfl) n_len bt_len (da_cons (de_var 0 (by exact rfl) (by first | exact Or.inl rfl | exact Or.inr (Or.inl rfl) | exact Or.inr (Or.inr rfl))) da_nil)) (de_gint g_MOST_SYMBOLS (by exact rfl))) (de_one (de_cmp op_isN sIsN (de_cal c_first_wrong_symbol (by exact rfl) (by exact rfl) hg hr (by decide) ht (da_cons (de_var 0 (by exact rfl) (by first | exact Or.inl rfl | exact Or.inr (Or.inl rfl) | exact Or.inr (Or.inr rfl))) da_nil)) de_non (nomark _)))))))
/-! ### require_alphabet -/
abbrev st_require_alphabet : Stmt := top 15
def fb_require_alphabet : DM Fl :=
  (sSeq (sIf (dOr (dNot (dB ((dCall 1 m_is_list (dArgs (dVar 0) (dArgs0)))))) (dNot (dB (dChain (gCmp fun i j => decide (i ≤ j)) (gCmp fun i j => decide (i ≤ j)) (dC (.int 1)) ((dBi gLen (dArgs (dVar 0) (dArgs0)))) (dC (.int 8)))))) (sRaise "InvalidAlphabet" ["position"] (dArgs (dC .non) (dArgs0))) (sNil))
    ((sSeq (sSet 1 ((dCall 1 m_first_wrong_symbol (dArgs (dVar 0) (dArgs0)))))
    (sIf (dB (dOp (gIsN true) (dVar 1) (dC .non))) (sRaise "InvalidAlphabet" ["position"] (dArgs (dVar 1) (dArgs0))) (sNil)))))
def m_require_alphabet : List Sv → Led → Res Dv := mOf 2 fb_require_alphabet
theorem sc_require_alphabet : FnScope ["alphabet", "position"] ["alphabet"] (defScope st_require_alphabet) := ⟨rfl, rfl, rfl, by decide +kernel, rfl, by decide +kernel, by decide +kernel⟩
theorem cal_require_alphabet {P : Program} {w : World} {K : PySem.W.Frag} {mg : Str → Option Value} {base : Heap} {C_InvalidAlphabet : Addr} {I_InvalidAlphabet : Addr} {D_InvalidAlphabet : FuncData} (hk : SysK K) (D : DefAt K mg "require_alphabet" "require_alphabet" st_require_alphabet) (c_is_list : Cal P w K mg base 1 "is_list" "is_list" st_is_list ["value"] m_is_list) (c_first_wrong_symbol : Cal P w K mg base 2 "first_wrong_symbol" "first_wrong_symbol" st_first_wrong_symbol ["symbols"] m_first_wrong_symbol) (e_InvalidAlphabet : ErrC K mg "InvalidAlphabet" C_InvalidAlphabet I_InvalidAlphabet) (i_InvalidAlphabet : FnOk P w K mg base (L2.CX P w) 1 I_InvalidAlphabet D_InvalidAlphabet ["self", "position"] (spIni C_InvalidAlphabet ["position"])) (b_InvalidAlphabet : Binds K D_InvalidAlphabet ["self", "position"] []) (g_MOST_SYMBOLS : ∃ t, mg "MOST_SYMBOLS" = some (.int 8 t)) (n_len : mg "len" = none) :
    Cal P w K mg base 3 "require_alphabet" "require_alphabet" st_require_alphabet ["alphabet"] m_require_alphabet :=
  cal_of D sc_require_alphabet (fun F => F.binds (ps := ["alphabet"]) fun _ _ _ _ _ _ us hl => match us, hl with | [_], _ => rfl) fun m W hg hr ht hp => by
  exact (dss_cons (ds_if (PW.pt (dw_or (dt_not (dt_val (de_cal c_is_list (by exact rfl) (by exact rfl) hg hr (by decide) ht (da_cons (de_var 0 (by exact rfl) (by first | exact Or.inl rfl | exact Or.inr (Or.inl rfl) | exact Or.inr (Or.inr rfl))) da_nil)))) (dw_or1 (dt_not (dt_chain op_le op_le (sCmp (f := fun i j => decide (i ≤ j))) (sCmp (f := fun i j => decide (i ≤ j))) de_int (de_callB call_len' cs_len (by exact rfl) n_len bt_len (da_cons (de_var 0 (by exact rfl) (by first | exact Or.inl rfl | exact Or.inr (Or.inl rfl) | exact Or.inr (Or.inr rfl))) da_nil)) (de_gint g_MOST_SYMBOLS (by exact rfl))))))) (dss_one (ds_raise (by exact rfl) ht e_InvalidAlphabet i_InvalidAlphabet (hr.mono (by decide)) b_InvalidAlphabet (by exact rfl) (da_cons de_non da_nil))) dss_nil)
    (dss_cons (ds_set 1 sc_require_alphabet.nd (by exact rfl) (by first | exact Or.inl rfl | exact Or.inr rfl) (de_cal c_first_wrong_symbol (by exact rfl) (by exact rfl) hg hr (by decide) ht (da_cons (de_var 0 (by exact rfl) (by first | exact Or.inl rfl | exact Or.inr (Or.inl rfl) | exact Or.inr (Or.inr rfl))) da_nil)))
    (dss_one (ds_if (dt_cmp op_notN sNotN (de_var 1 (by exact rfl) (by first | exact Or.inl rfl | exact Or.inr (Or.inl rfl) | exact Or.inr (Or.inr rfl))) de_non (nomark _)) (dss_one (ds_raise (by exact rfl) ht e_InvalidAlphabet i_InvalidAlphabet (hr.mono (by decide)) b_InvalidAlphabet (by exact rfl) (da_cons (de_var 1 (by exact rfl) (by first | exact Or.inl rfl | exact Or.inr (Or.inl rfl) | exact Or.inr (Or.inr rfl))) da_nil))) dss_nil))))
/-! ### is_symbol -/
abbrev st_is_symbol : Stmt := top 16
def fb_is_symbol : DM Fl :=
  sRet ((dAndV ((dCall 1 m_is_name (dArgs (dVar 1) (dArgs0)))) ((dOrV ((dOp (gIsN false) (dVar 0) (dC .non))) ((dOp (gIn false) (dVar 1) (dVar 0)))))))
def m_is_symbol : List Sv → Led → Res Dv := mOf 2 fb_is_symbol
theorem sc_is_symbol : FnScope ["alphabet", "value"] ["alphabet", "value"] (defScope st_is_symbol) := ⟨rfl, rfl, rfl, by decide +kernel, rfl, by decide +kernel, by decide +kernel⟩
theorem cal_is_symbol {P : Program} {w : World} {K : PySem.W.Frag} {mg : Str → Option Value} {base : Heap}  (hk : SysK K) (D : DefAt K mg "is_symbol" "is_symbol" st_is_symbol) (c_is_name : Cal P w K mg base 1 "is_name" "is_name" st_is_name ["value"] m_is_name)  :
    Cal P w K mg base 2 "is_symbol" "is_symbol" st_is_symbol ["alphabet", "value"] m_is_symbol :=
  cal_of D sc_is_symbol (fun F => F.binds (ps := ["alphabet", "value"]) fun _ _ _ _ _ _ us hl => match us, hl with | [_, _], _ => rfl) fun m W hg hr ht hp => by
  exact (dss_one (ds_ret (de_and (de_cal c_is_name (by exact rfl) (by exact rfl) hg hr (by decide) ht (da_cons (de_var 1 (by exact rfl) (by first | exact Or.inl rfl | exact Or.inr (Or.inl rfl) | exact Or.inr (Or.inr rfl))) da_nil)) (de_one (de_or (de_cmp op_isN sIsN (de_var 0 (by exact rfl) (by first | exact Or.inl rfl | exact Or.inr (Or.inl rfl) | exact Or.inr (Or.inr rfl))) de_non (nomark _)) (de_one (de_cmp (oIn (u_of hr (by decide))) (sIn hk) (de_var 1 (by exact rfl) (by first | exact Or.inl rfl | exact Or.inr (Or.inl rfl) | exact Or.inr (Or.inr rfl))) (de_var 0 (by exact rfl) (by first | exact Or.inl rfl | exact Or.inr (Or.inl rfl) | exact Or.inr (Or.inr rfl))) (by exact rfl))))))))
/-! ### first_wrong_entry -/
abbrev st_first_wrong_entry : Stmt := top 17
def fb_first_wrong_entry : DM Fl :=
  (sSeq (sFor (iEn (dVar 1)) (.tup [2, 3])
    (sIf (dNot (dB ((dCall 2 m_is_symbol (dArgs (dVar 0) (dArgs (dVar 3) (dArgs0))))))) (sRet (dVar 2)) (sNil)))
    (sRet (dC .non)))
def m_first_wrong_entry : List Sv → Led → Res Dv := mOf 4 fb_first_wrong_entry
theorem sc_first_wrong_entry : FnScope ["alphabet", "word", "position", "symbol"] ["alphabet", "word"] (defScope st_first_wrong_entry) := ⟨rfl, rfl, rfl, by decide +kernel, rfl, by decide +kernel, by decide +kernel⟩
theorem cal_first_wrong_entry {P : Program} {w : World} {K : PySem.W.Frag} {mg : Str → Option Value} {base : Heap}  (hk : SysK K) (D : DefAt K mg "first_wrong_entry" "first_wrong_entry" st_first_wrong_entry) (c_is_symbol : Cal P w K mg base 2 "is_symbol" "is_symbol" st_is_symbol ["alphabet", "value"] m_is_symbol) (n_enumerate : mg "enumerate" = none) :
    Cal P w K mg base 3 "first_wrong_entry" "first_wrong_entry" st_first_wrong_entry ["alphabet", "word"] m_first_wrong_entry :=
  cal_of D sc_first_wrong_entry (fun F => F.binds (ps := ["alphabet", "word"]) fun _ _ _ _ _ _ us hl => match us, hl with | [_, _], _ => rfl) fun m W hg hr ht hp => by
  exact (dss_cons (ds_for hp (by exact rfl) (di_enum (by exact rfl) n_enumerate (de_var 1 (by exact rfl) (by first | exact Or.inl rfl | exact Or.inr (Or.inl rfl) | exact Or.inr (Or.inr rfl)))) (dtg_tup (by exact rfl) sc_first_wrong_entry.nd (.cons (i := 2) (by exact rfl) (by first | exact Or.inl rfl | exact Or.inr rfl) (by first | exact Or.inl rfl | exact Or.inr rfl) (.cons (i := 3) (by exact rfl) (by first | exact Or.inl rfl | exact Or.inr rfl) (by first | exact Or.inl rfl | exact Or.inr rfl) .nil (by exact rfl)) (by exact rfl))) (dss_one (ds_if (dt_not (dt_val (de_cal c_is_symbol (by exact rfl) (by exact rfl) hg hr (by decide) ht (da_cons (de_var 0 (by exact rfl) (by first | exact Or.inl rfl | exact Or.inr (Or.inl rfl) | exact Or.inr (Or.inr rfl))) (da_cons (de_var 3 (by exact rfl) (by first | exact Or.inl rfl | exact Or.inr (Or.inl rfl) | exact Or.inr (Or.inr rfl))) da_nil))))) (dss_one (ds_ret (de_var 2 (by exact rfl) (by first | exact Or.inl rfl | exact Or.inr (Or.inl rfl) | exact Or.inr (Or.inr rfl))))) dss_nil)))
    (dss_one (ds_ret de_non)))
/-! ### is_word -/
abbrev st_is_word : Stmt := top 18
def fb_is_word : DM Fl :=
  (sSeq (sDrop ((dCall 1 m_require_alphabet (dArgs (dVar 0) (dArgs0)))))
    (sRet ((dAndV ((dCall 1 m_is_list (dArgs (dVar 1) (dArgs0)))) ((dOp (gIsN false) ((dCall 2 m_first_wrong_entry (dArgs (dVar 0) (dArgs (dVar 1) (dArgs0))))) (dC .non)))))))
def m_is_word : List Sv → Led → Res Dv := mOf 2 fb_is_word
theorem sc_is_word : FnScope ["alphabet", "value"] ["alphabet", "value"] (defScope st_is_word) := ⟨rfl, rfl, rfl, by decide +kernel, rfl, by decide +kernel, by decide +kernel⟩
theorem cal_is_word {P : Program} {w : World} {K : PySem.W.Frag} {mg : Str → Option Value} {base : Heap}  (hk : SysK K) (D : DefAt K mg "is_word" "is_word" st_is_word) (c_is_list : Cal P w K mg base 1 "is_list" "is_list" st_is_list ["value"] m_is_list) (c_require_alphabet : Cal P w K mg base 3 "require_alphabet" "require_alphabet" st_require_alphabet ["alphabet"] m_require_alphabet) (c_first_wrong_entry : Cal P w K mg base 3 "first_wrong_entry" "first_wrong_entry" st_first_wrong_entry ["alphabet", "word"] m_first_wrong_entry)  :
    Cal P w K mg base 4 "is_word" "is_word" st_is_word ["alphabet", "value"] m_is_word :=
  cal_of D sc_is_word (fun F => F.binds (ps := ["alphabet", "value"]) fun _ _ _ _ _ _ us hl => match us, hl with | [_, _], _ => rfl) fun m W hg hr ht hp => by
  exact (dss_cons (ds_expr (de_cal c_require_alphabet (by exact rfl) (by exact rfl) hg hr (by decide) ht (da_cons (de_var 0 (by exact rfl) (by first | exact Or.inl rfl | exact Or.inr (Or.inl rfl) | exact Or.inr (Or.inr rfl))) da_nil)))
    (dss_one (ds_ret (de_and (de_cal c_is_list (by exact rfl) (by exact rfl) hg hr (by decide) ht (da_cons (de_var 1 (by exact rfl) (by first | exact Or.inl rfl | exact Or.inr (Or.inl rfl) | exact Or.inr (Or.inr rfl))) da_nil)) (de_one (de_cmp op_isN sIsN (de_cal c_first_wrong_entry (by exact rfl) (by exact rfl) hg hr (by decide) ht (da_cons (de_var 0 (by exact rfl) (by first | exact Or.inl rfl | exact Or.inr (Or.inl rfl) | exact Or.inr (Or.inr rfl))) (da_cons (de_var 1 (by exact rfl) (by first | exact Or.inl rfl | exact Or.inr (Or.inl rfl) | exact Or.inr (Or.inr rfl))) da_nil))) de_non (nomark _)))))))
/-! ### _law_pot -/
abbrev st_l_pot : Stmt := top 20
def fb_l_pot : DM Fl :=
  (sSeq (sSet 2 ((dIf ((dB (dOp (gCmp fun i j => decide (i < j)) (dVar 1) ((dBi gLen (dArgs (dVar 0) (dArgs0))))))) ((dBi gAbs (dArgs ((dOp gIx (dVar 0) (dVar 1))) (dArgs0)))) (dC (.int 0)))))
    (sRet (dLstO (dArgs ((dBi gMax (dArgs (dC (.int 0)) (dArgs ((dOp gSub (dVar 2) ((dOp gPow (dC (.int 10)) (dC (.int 18)))))) (dArgs0))))) (dArgs ((dOp gMod ((dOp gAdd ((dOp gAdd ((dOp gMul ((dOp gMod (dVar 2) (dC (.int 2147483587)))) (dC (.int 48271)))) ((dOp gMul (dC (.int 70001)) (dVar 1))))) (dC (.int 61)))) (dC (.int 2147483647)))) (dArgs0))))))
def m_l_pot : List Sv → Led → Res Dv := mOf 3 fb_l_pot
theorem sc_l_pot : FnScope ["_law_script", "_law_k", "_law_cell"] ["_law_script", "_law_k"] (defScope st_l_pot) := ⟨rfl, rfl, rfl, by decide +kernel, rfl, by decide +kernel, by decide +kernel⟩
theorem cal_l_pot {P : Program} {w : World} {K : PySem.W.Frag} {mg : Str → Option Value} {base : Heap}  (hk : SysK K) (D : DefAt K mg "_law_pot" "_law_pot" st_l_pot)  (n_abs : mg "abs" = none) (n_len : mg "len" = none) (n_max : mg "max" = none) :
    Cal P w K mg base 1 "_law_pot" "_law_pot" st_l_pot ["_law_script", "_law_k"] m_l_pot :=
  cal_of D sc_l_pot (fun F => F.binds (ps := ["_law_script", "_law_k"]) fun _ _ _ _ _ _ us hl => match us, hl with | [_, _], _ => rfl) fun m W hg hr ht hp => by
  exact (dss_cons (ds_set 2 sc_l_pot.nd (by exact rfl) (by first | exact Or.inl rfl | exact Or.inr rfl) (de_if (dt_cmp op_lt (sCmp (f := fun i j => decide (i < j))) (de_var 1 (by exact rfl) (by first | exact Or.inl rfl | exact Or.inr (Or.inl rfl) | exact Or.inr (Or.inr rfl))) (de_callB call_len' cs_len (by exact rfl) n_len bt_len (da_cons (de_var 0 (by exact rfl) (by first | exact Or.inl rfl | exact Or.inr (Or.inl rfl) | exact Or.inr (Or.inr rfl))) da_nil)) (nomark _)) (de_callB call_abs cs_1I (by exact rfl) n_abs bt_abs (da_cons (de_sub (de_var 0 (by exact rfl) (by first | exact Or.inl rfl | exact Or.inr (Or.inl rfl) | exact Or.inr (Or.inr rfl))) (de_var 1 (by exact rfl) (by first | exact Or.inl rfl | exact Or.inr (Or.inl rfl) | exact Or.inr (Or.inr rfl))) (fun _ _ => (by exact rfl))) da_nil)) de_int))
    (dss_one (ds_ret (de_lstO (da_cons (de_callB (call_max2 (by exact rfl)) cs_2I (by exact rfl) n_max bt_max (da_cons de_int (da_cons (de_op op_sub sSub (de_var 2 (by exact rfl) (by first | exact Or.inl rfl | exact Or.inr (Or.inl rfl) | exact Or.inr (Or.inr rfl))) (de_op op_pow sPow de_int de_int)) da_nil))) (da_cons (de_op op_mod sMod (de_op oAdd sAdd (de_op oAdd sAdd (de_op oMul sMul (de_op op_mod sMod (de_var 2 (by exact rfl) (by first | exact Or.inl rfl | exact Or.inr (Or.inl rfl) | exact Or.inr (Or.inr rfl))) de_int) de_int) (de_op oMul sMul de_int (de_var 1 (by exact rfl) (by first | exact Or.inl rfl | exact Or.inr (Or.inl rfl) | exact Or.inr (Or.inr rfl))))) de_int) de_int) da_nil))))))
/-! ### _law_digit -/
abbrev st_l_digit : Stmt := top 21
def fb_l_digit : DM Fl :=
  (sSeq (sIf (dB (dOp (gCmp fun i j => decide (j < i)) ((dOp gIx (dVar 0) (dC (.int 0)))) (dC (.int 0)))) ((sSeq (sAsg ((dBi gDivmod (dArgs ((dOp gIx (dVar 0) (dC (.int 0)))) (dArgs (dVar 1) (dArgs0))))) (gTup' 2 (gsC (gSt (dVar 0) (dC (.int 0))) (gsC (gN 2) gs0))))
    (sRet (dVar 2)))) (sNil))
    ((sSeq (sAsg ((dOp gMod ((dOp gAdd ((dOp gMul ((dOp gIx (dVar 0) (dC (.int 1)))) (dC (.int 39373)))) (dC (.int 15017)))) (dC (.int 2147483629)))) (gSt (dVar 0) (dC (.int 1))))
    (sRet ((dOp gMod ((dOp gFdiv ((dOp gMod ((dOp gMul ((dOp gIx (dVar 0) (dC (.int 1)))) ((dOp gIx (dVar 0) (dC (.int 1)))))) (dC (.int 2147483563)))) (dC (.int 13)))) (dVar 1)))))))
def m_l_digit : List Sv → Led → Res Dv := mOf 3 fb_l_digit
theorem sc_l_digit : FnScope ["_law_pot_here", "_law_many", "_law_digit_here"] ["_law_pot_here", "_law_many"] (defScope st_l_digit) := ⟨rfl, rfl, rfl, by decide +kernel, rfl, by decide +kernel, by decide +kernel⟩
theorem cal_l_digit {P : Program} {w : World} {K : PySem.W.Frag} {mg : Str → Option Value} {base : Heap}  (hk : SysK K) (D : DefAt K mg "_law_digit" "_law_digit" st_l_digit)  (n_divmod : mg "divmod" = none) :
    Cal P w K mg base 1 "_law_digit" "_law_digit" st_l_digit ["_law_pot_here", "_law_many"] m_l_digit :=
  cal_of D sc_l_digit (fun F => F.binds (ps := ["_law_pot_here", "_law_many"]) fun _ _ _ _ _ _ us hl => match us, hl with | [_, _], _ => rfl) fun m W hg hr ht hp => by
  exact (dss_cons (ds_if (dt_cmp op_gt (sCmp (f := fun i j => decide (j < i))) (de_sub (de_var 0 (by exact rfl) (by first | exact Or.inl rfl | exact Or.inr (Or.inl rfl) | exact Or.inr (Or.inr rfl))) de_int (fun _ _ => (by exact rfl))) de_int (nomark _)) (dss_cons (ds_asg (de_callB call_divmodW cs_divmod (by exact rfl) n_divmod bt_divmod (da_cons (de_sub (de_var 0 (by exact rfl) (by first | exact Or.inl rfl | exact Or.inr (Or.inl rfl) | exact Or.inr (Or.inr rfl))) de_int (fun _ _ => (by exact rfl))) (da_cons (de_var 1 (by exact rfl) (by first | exact Or.inl rfl | exact Or.inr (Or.inl rfl) | exact Or.inr (Or.inr rfl))) da_nil))) (dg_tupG (by exact rfl) (dgs_cons (dg_sub (W := wNo) (u_of hr (by decide)) (de_var 0 (by exact rfl) (by first | exact Or.inl rfl | exact Or.inr (Or.inl rfl) | exact Or.inr (Or.inr rfl))) de_int) (dgs_cons (dg_name 2 sc_l_digit.nd (by exact rfl) (by first | exact Or.inl rfl | exact Or.inr rfl)) dgs_nil (by exact rfl)) (by exact rfl))) gTup'_ne)
    (dss_one (ds_ret (de_var 2 (by exact rfl) (by first | exact Or.inl rfl | exact Or.inr (Or.inl rfl) | exact Or.inr (Or.inr rfl)))))) dss_nil)
    (dss_cons (ds_asg (de_op op_mod sMod (de_op oAdd sAdd (de_op oMul sMul (de_sub (de_var 0 (by exact rfl) (by first | exact Or.inl rfl | exact Or.inr (Or.inl rfl) | exact Or.inr (Or.inr rfl))) de_int (fun _ _ => (by exact rfl))) de_int) de_int) de_int) (dg_sub (W := wNo) (u_of hr (by decide)) (de_var 0 (by exact rfl) (by first | exact Or.inl rfl | exact Or.inr (Or.inl rfl) | exact Or.inr (Or.inr rfl))) de_int) gSt_ne)
    (dss_one (ds_ret (de_op op_mod sMod (de_op op_fdiv sFdiv (de_op op_mod sMod (de_op oMul sMul (de_sub (de_var 0 (by exact rfl) (by first | exact Or.inl rfl | exact Or.inr (Or.inl rfl) | exact Or.inr (Or.inr rfl))) de_int (fun _ _ => (by exact rfl))) (de_sub (de_var 0 (by exact rfl) (by first | exact Or.inl rfl | exact Or.inr (Or.inl rfl) | exact Or.inr (Or.inr rfl))) de_int (fun _ _ => (by exact rfl)))) de_int) de_int) (de_var 1 (by exact rfl) (by first | exact Or.inl rfl | exact Or.inr (Or.inl rfl) | exact Or.inr (Or.inr rfl))))))))
/-! ### _law_pick -/
abbrev st_l_pick : Stmt := top 22
def fb_l_pick : DM Fl :=
  sRet ((dOp gIx (dVar 1) ((dCall 2 m_l_digit (dArgs (dVar 0) (dArgs ((dBi gLen (dArgs (dVar 1) (dArgs0)))) (dArgs0)))))))
def m_l_pick : List Sv → Led → Res Dv := mOf 2 fb_l_pick
theorem sc_l_pick : FnScope ["_law_pot_here", "_law_some"] ["_law_pot_here", "_law_some"] (defScope st_l_pick) := ⟨rfl, rfl, rfl, by decide +kernel, rfl, by decide +kernel, by decide +kernel⟩
theorem cal_l_pick {P : Program} {w : World} {K : PySem.W.Frag} {mg : Str → Option Value} {base : Heap}  (hk : SysK K) (D : DefAt K mg "_law_pick" "_law_pick" st_l_pick) (c_l_digit : Cal P w K mg base 1 "_law_digit" "_law_digit" st_l_digit ["_law_pot_here", "_law_many"] m_l_digit) (n_len : mg "len" = none) :
    Cal P w K mg base 2 "_law_pick" "_law_pick" st_l_pick ["_law_pot_here", "_law_some"] m_l_pick :=
  cal_of D sc_l_pick (fun F => F.binds (ps := ["_law_pot_here", "_law_some"]) fun _ _ _ _ _ _ us hl => match us, hl with | [_, _], _ => rfl) fun m W hg hr ht hp => by
  exact (dss_one (ds_ret (de_sub (de_var 1 (by exact rfl) (by first | exact Or.inl rfl | exact Or.inr (Or.inl rfl) | exact Or.inr (Or.inr rfl))) (de_cal c_l_digit (by exact rfl) (by exact rfl) hg hr (by decide) ht (da_cons (de_var 0 (by exact rfl) (by first | exact Or.inl rfl | exact Or.inr (Or.inl rfl) | exact Or.inr (Or.inr rfl))) (da_cons (de_callB call_len' cs_len (by exact rfl) n_len bt_len (da_cons (de_var 1 (by exact rfl) (by first | exact Or.inl rfl | exact Or.inr (Or.inl rfl) | exact Or.inr (Or.inr rfl))) da_nil)) da_nil))) (fun _ _ => (by exact rfl)))))
/-! ### _law_names -/
abbrev st_l_names : Stmt := top 23
def fb_l_names : DM Fl :=
  (sSeq (sParT [3, 4] [.e (dC (.str "abcdefghijklmnopqrstuvwxyz")), .l (dArgs0)])
    ((sSeq (sSet 5 ((dLst (dArgs (dC (.str "state")) (dArgs (dC (.str "reader")) (dArgs (dC (.str "entries")) (dArgs (dC (.str "limit")) (dArgs (dC (.str "alphabet")) (dArgs (dC (.str "read")) (dArgs (dC (.str "append")) (dArgs (dC (.str "a")) (dArgs (dC (.str "count")) (dArgs (dC (.str "tell")) (dArgs (dC (.str "zzzzzzzz")) (dArgs0)))))))))))))))
    ((sSeq (sFor (iR1 (dVar 1)) (.one 6)
    ((sSeq (sSet 7 ((dCall 2 m_l_pick (dArgs (dVar 0) (dArgs (dVar 5) (dArgs0))))))
    ((sSeq (sIf (dB (dOp (gCmp fun i j => decide (j < i)) ((dCall 2 m_l_digit (dArgs (dVar 0) (dArgs (dC (.int 3)) (dArgs0))))) (dC (.int 0)))) (sSet 7 ((dM1 gJoin (dC (.str "")) ((dLc (iR1 ((dOp gIx ((dLst (dArgs (dC (.int 1)) (dArgs (dC (.int 2)) (dArgs (dC (.int 3)) (dArgs (dC (.int 8)) (dArgs0))))))) ((dCall 2 m_l_digit (dArgs (dVar 0) (dArgs (dC (.int 4)) (dArgs0)))))))) (.one 11) dTr ((dCall 2 m_l_pick (dArgs (dVar 0) (dArgs (dVar 3) (dArgs0))))) [11]))))) (sNil))
    ((sSeq (sSet 8 ((dOp gAdd ((dLst (dArgs (dVar 7) (dArgs0)))) ((dLc (iZp ((dOp gMul (dVar 3) (dC (.int 2)))) ((dOp gAdd ((dUn gRev (dVar 3))) (dVar 3)))) (.tup [9, 10]) dTr ((dOp gAdd ((dOp gAdd ((dSl (dVar 7) dPt0 (dPt1 (dC (.int 6))))) (dVar 9))) (dVar 10))) [9, 10])))))
    (sApp 4 ((dOp gIx ((dLc (iV (dVar 8)) (.one 9) (dB (dOp (gIn true) (dVar 9) ((dOp gAdd (dVar 2) (dVar 4))))) (dVar 9) [9])) (dC (.int 0))))))))))))
    ((gFrz 4 (sRet (dVar 4)))))))))
def m_l_names : List Sv → Led → Res Dv := mOf 12 fb_l_names
theorem sc_l_names : FnScope ["_law_pot_here", "_law_many", "_law_used", "_law_letters", "_law_found", "_law_words", "_law_turn", "_law_name", "_law_some", "_law_one", "_law_other", "_law_k"] ["_law_pot_here", "_law_many", "_law_used"] (defScope st_l_names) := ⟨rfl, rfl, rfl, by decide +kernel, rfl, by decide +kernel, by decide +kernel⟩
theorem cal_l_names {P : Program} {w : World} {K : PySem.W.Frag} {mg : Str → Option Value} {base : Heap}  (hk : SysK K) (D : DefAt K mg "_law_names" "_law_names" st_l_names) (c_l_digit : Cal P w K mg base 1 "_law_digit" "_law_digit" st_l_digit ["_law_pot_here", "_law_many"] m_l_digit) (c_l_pick : Cal P w K mg base 2 "_law_pick" "_law_pick" st_l_pick ["_law_pot_here", "_law_some"] m_l_pick) (n_range : mg "range" = none) (n_zip : mg "zip" = none) :
    Cal P w K mg base 3 "_law_names" "_law_names" st_l_names ["_law_pot_here", "_law_many", "_law_used"] m_l_names :=
  cal_of D sc_l_names (fun F => F.binds (ps := ["_law_pot_here", "_law_many", "_law_used"]) fun _ _ _ _ _ _ us hl => match us, hl with | [_, _, _], _ => rfl) fun m W hg hr ht hp => by
  exact (dss_cons (ds_parT (by exact rfl) sc_l_names.nd (.cons (i := 3) (by exact rfl) (by first | exact Or.inl rfl | exact Or.inr rfl) (by first | exact Or.inl rfl | exact Or.inr rfl) (.cons (i := 4) (by exact rfl) (by first | exact Or.inl rfl | exact Or.inr rfl) (by first | exact Or.inl rfl | exact Or.inr rfl) .nil (by exact rfl)) (by exact rfl)) (dpm_e de_str (dpm_l da_nil dpm_nil)))
    (dss_cons (ds_set 5 sc_l_names.nd (by exact rfl) (by first | exact Or.inl rfl | exact Or.inr rfl) (de_lst (da_cons de_str (da_cons de_str (da_cons de_str (da_cons de_str (da_cons de_str (da_cons de_str (da_cons de_str (da_cons de_str (da_cons de_str (da_cons de_str (da_cons de_str da_nil)))))))))))))
    (dss_cons (ds_for hp (by exact rfl) (di_range1 (by exact rfl) n_range (de_var 1 (by exact rfl) (by first | exact Or.inl rfl | exact Or.inr (Or.inl rfl) | exact Or.inr (Or.inr rfl)))) (dtg_name 6 sc_l_names.nd (by exact rfl) (by first | exact Or.inl rfl | exact Or.inr rfl)) (dss_cons (ds_set 7 sc_l_names.nd (by exact rfl) (by first | exact Or.inl rfl | exact Or.inr rfl) (de_cal c_l_pick (by exact rfl) (by exact rfl) hg hr (by decide) ht (da_cons (de_var 0 (by exact rfl) (by first | exact Or.inl rfl | exact Or.inr (Or.inl rfl) | exact Or.inr (Or.inr rfl))) (da_cons (de_var 5 (by exact rfl) (by first | exact Or.inl rfl | exact Or.inr (Or.inl rfl) | exact Or.inr (Or.inr rfl))) da_nil))))
    (dss_cons (ds_if (dt_cmp op_gt (sCmp (f := fun i j => decide (j < i))) (de_cal c_l_digit (by exact rfl) (by exact rfl) hg hr (by decide) ht (da_cons (de_var 0 (by exact rfl) (by first | exact Or.inl rfl | exact Or.inr (Or.inl rfl) | exact Or.inr (Or.inr rfl))) (da_cons de_int da_nil))) de_int (nomark _)) (dss_one (ds_set 7 sc_l_names.nd (by exact rfl) (by first | exact Or.inl rfl | exact Or.inr rfl) (de_join de_str (de_lc (by exact rfl) sc_l_names.nd (di_range1 (by exact rfl) n_range (de_sub (de_lst (da_cons de_int (da_cons de_int (da_cons de_int (da_cons de_int da_nil))))) (de_cal c_l_digit (by exact rfl) (by exact rfl) hg hr (by decide) ht (da_cons (de_var 0 (by exact rfl) (by first | exact Or.inl rfl | exact Or.inr (Or.inl rfl) | exact Or.inr (Or.inr rfl))) (da_cons de_int da_nil))) (fun _ _ => (by exact rfl)))) (blkOk_by (own := [("_law_k", 11)]) (by exact rfl)) (fun _ _ _ _ _ => (dtg_name 11 sc_l_names.nd (by exact rfl) (by first | exact Or.inl rfl | exact Or.inr rfl))) (fun _ _ _ _ _ => dts_nil) (fun _ _ _ _ _ => (de_cal c_l_pick (by exact rfl) (by exact rfl) hg hr (by decide) takes_wno (da_cons (de_var 0 (by exact rfl) (by first | exact Or.inl rfl | exact Or.inr (Or.inl rfl) | exact Or.inr (Or.inr rfl))) (da_cons (de_var 3 (by exact rfl) (by first | exact Or.inl rfl | exact Or.inr (Or.inl rfl) | exact Or.inr (Or.inr rfl))) da_nil)))) (by decide))))) dss_nil)
    (dss_cons (ds_set 8 sc_l_names.nd (by exact rfl) (by first | exact Or.inl rfl | exact Or.inr rfl) (de_op oAdd sAdd (de_lst (da_cons (de_var 7 (by exact rfl) (by first | exact Or.inl rfl | exact Or.inr (Or.inl rfl) | exact Or.inr (Or.inr rfl))) da_nil)) (de_lc (by exact rfl) sc_l_names.nd (di_zip (by exact rfl) n_zip (de_op oMul sMul (de_var 3 (by exact rfl) (by first | exact Or.inl rfl | exact Or.inr (Or.inl rfl) | exact Or.inr (Or.inr rfl))) de_int) (de_op oAdd sAdd (de_rev (de_var 3 (by exact rfl) (by first | exact Or.inl rfl | exact Or.inr (Or.inl rfl) | exact Or.inr (Or.inr rfl)))) (de_var 3 (by exact rfl) (by first | exact Or.inl rfl | exact Or.inr (Or.inl rfl) | exact Or.inr (Or.inr rfl))))) (blkOk_by (own := [("_law_one", 9), ("_law_other", 10)]) (by exact rfl)) (fun _ _ _ _ _ => (dtg_tup (by exact rfl) sc_l_names.nd (.cons (i := 9) (by exact rfl) (by first | exact Or.inl rfl | exact Or.inr rfl) (by first | exact Or.inl rfl | exact Or.inr rfl) (.cons (i := 10) (by exact rfl) (by first | exact Or.inl rfl | exact Or.inr rfl) (by first | exact Or.inl rfl | exact Or.inr rfl) .nil (by exact rfl)) (by exact rfl)))) (fun _ _ _ _ _ => dts_nil) (fun _ _ _ _ _ => (de_op oAdd sAdd (de_op oAdd sAdd (de_slice (de_var 7 (by exact rfl) (by first | exact Or.inl rfl | exact Or.inr (Or.inl rfl) | exact Or.inr (Or.inr rfl))) dp_none (dp_some de_int)) (de_var 9 (by exact rfl) (by first | exact Or.inl rfl | exact Or.inr (Or.inl rfl) | exact Or.inr (Or.inr rfl)))) (de_var 10 (by exact rfl) (by first | exact Or.inl rfl | exact Or.inr (Or.inl rfl) | exact Or.inr (Or.inr rfl))))) (by decide))))
    (dss_one (ds_app 4 (by exact rfl) (by first | exact Or.inl rfl | exact Or.inr (Or.inl rfl) | exact Or.inr (Or.inr rfl)) (de_sub (de_lc (by exact rfl) sc_l_names.nd (di_val (de_var 8 (by exact rfl) (by first | exact Or.inl rfl | exact Or.inr (Or.inl rfl) | exact Or.inr (Or.inr rfl)))) (blkOk_by (own := [("_law_one", 9)]) (by exact rfl)) (fun _ _ _ _ _ => (dtg_name 9 sc_l_names.nd (by exact rfl) (by first | exact Or.inl rfl | exact Or.inr rfl))) (fun _ _ _ _ _ => (dts_one (dt_cmp (oNotIn (u_of hr (by decide))) (sIn hk) (de_var 9 (by exact rfl) (by first | exact Or.inl rfl | exact Or.inr (Or.inl rfl) | exact Or.inr (Or.inr rfl))) (de_op oAdd sAdd (de_var 2 (by exact rfl) (by first | exact Or.inl rfl | exact Or.inr (Or.inl rfl) | exact Or.inr (Or.inr rfl))) (de_var 4 (by exact rfl) (by first | exact Or.inl rfl | exact Or.inr (Or.inl rfl) | exact Or.inr (Or.inr rfl)))) (by exact rfl)))) (fun _ _ _ _ _ => (de_var 9 (by exact rfl) (by first | exact Or.inl rfl | exact Or.inr (Or.inl rfl) | exact Or.inr (Or.inr rfl)))) (by decide)) de_int (fun _ _ => (by exact rfl)))))))))
    (dss_frz 4 (dss_one (ds_ret (de_var 4 (by exact rfl) (by first | exact Or.inl rfl | exact Or.inr (Or.inl rfl) | exact Or.inr (Or.inr rfl)))))))))
/-! ### _law_is_name -/
abbrev st_l_is_name : Stmt := top 24
def fb_l_is_name : DM Fl :=
  (sSeq (sIf (dOr (dNot (dB ((dBi gIsi (dArgs (dVar 0) (dArgs ((fun _ L => .ok (.val (.ty "str")) L)) (dArgs0))))))) (dNot (dB (dChain (gCmp fun i j => decide (i < j)) (gCmp fun i j => decide (i < j)) (dC (.int 0)) ((dBi gLen (dArgs (dVar 0) (dArgs0)))) (dC (.int 9)))))) (sRet (dC (.bl false))) (sNil))
    (sRet ((dBi gAll (dArgs ((dLc (iV (dVar 0)) (.one 1) dTr ((dOp (gIn false) (dVar 1) (dC (.str "abcdefghijklmnopqrstuvwxyz")))) [1])) (dArgs0))))))
def m_l_is_name : List Sv → Led → Res Dv := mOf 2 fb_l_is_name
theorem sc_l_is_name : FnScope ["_law_given", "_law_sign"] ["_law_given"] (defScope st_l_is_name) := ⟨rfl, rfl, rfl, by decide +kernel, rfl, by decide +kernel, by decide +kernel⟩
theorem cal_l_is_name {P : Program} {w : World} {K : PySem.W.Frag} {mg : Str → Option Value} {base : Heap}  (hk : SysK K) (D : DefAt K mg "_law_is_name" "_law_is_name" st_l_is_name)  (n_all : mg "all" = none) (n_isinstance : mg "isinstance" = none) (n_len : mg "len" = none) (n_str : mg "str" = none) :
    Cal P w K mg base 1 "_law_is_name" "_law_is_name" st_l_is_name ["_law_given"] m_l_is_name :=
  cal_of D sc_l_is_name (fun F => F.binds (ps := ["_law_given"]) fun _ _ _ _ _ _ us hl => match us, hl with | [_], _ => rfl) fun m W hg hr ht hp => by
  exact (dss_cons (ds_if (PW.pt (dw_or (dt_not (dt_val (de_callB call_isiA cs_isi (by exact rfl) n_isinstance bt_isinstance (da_cons (de_var 0 (by exact rfl) (by first | exact Or.inl rfl | exact Or.inr (Or.inl rfl) | exact Or.inr (Or.inr rfl))) (da_cons (de_ty (by exact rfl) n_str bt_str) da_nil))))) (dw_or1 (dt_not (dt_chain op_lt op_lt (sCmp (f := fun i j => decide (i < j))) (sCmp (f := fun i j => decide (i < j))) de_int (de_callB call_len' cs_len (by exact rfl) n_len bt_len (da_cons (de_var 0 (by exact rfl) (by first | exact Or.inl rfl | exact Or.inr (Or.inl rfl) | exact Or.inr (Or.inr rfl))) da_nil)) de_int))))) (dss_one (ds_ret de_bl)) dss_nil)
    (dss_one (ds_ret (de_callB (cr_all (by exact rfl)) cs_Q (by exact rfl) n_all bt_all (da_cons (de_lc (by exact rfl) sc_l_is_name.nd (di_val (de_var 0 (by exact rfl) (by first | exact Or.inl rfl | exact Or.inr (Or.inl rfl) | exact Or.inr (Or.inr rfl)))) (blkOk_by (own := [("_law_sign", 1)]) (by exact rfl)) (fun _ _ _ _ _ => (dtg_name 1 sc_l_is_name.nd (by exact rfl) (by first | exact Or.inl rfl | exact Or.inr rfl))) (fun _ _ _ _ _ => dts_nil) (fun _ _ _ _ _ => (de_cmp (oIn (u_of hr (by decide))) (sIn hk) (de_var 1 (by exact rfl) (by first | exact Or.inl rfl | exact Or.inr (Or.inl rfl) | exact Or.inr (Or.inr rfl))) de_str (by exact rfl))) (by decide)) da_nil)))))
/-! ### _law_is_integer -/
abbrev st_l_is_integer : Stmt := top 25
def fb_l_is_integer : DM Fl :=
  sRet ((dAndV ((dBi gIsi (dArgs (dVar 0) (dArgs ((fun _ L => .ok (.val (.ty "int")) L)) (dArgs0))))) ((dNotV ((dBi gIsi (dArgs (dVar 0) (dArgs ((fun _ L => .ok (.val (.ty "bool")) L)) (dArgs0)))))))))
def m_l_is_integer : List Sv → Led → Res Dv := mOf 1 fb_l_is_integer
theorem sc_l_is_integer : FnScope ["_law_given"] ["_law_given"] (defScope st_l_is_integer) := ⟨rfl, rfl, rfl, by decide +kernel, rfl, by decide +kernel, by decide +kernel⟩
theorem cal_l_is_integer {P : Program} {w : World} {K : PySem.W.Frag} {mg : Str → Option Value} {base : Heap}  (hk : SysK K) (D : DefAt K mg "_law_is_integer" "_law_is_integer" st_l_is_integer)  (n_bool : mg "bool" = none) (n_int : mg "int" = none) (n_isinstance : mg "isinstance" = none) :
    Cal P w K mg base 1 "_law_is_integer" "_law_is_integer" st_l_is_integer ["_law_given"] m_l_is_integer :=
  cal_of D sc_l_is_integer (fun F => F.binds (ps := ["_law_given"]) fun _ _ _ _ _ _ us hl => match us, hl with | [_], _ => rfl) fun m W hg hr ht hp => by
  exact (dss_one (ds_ret (de_and (de_callB call_isiA cs_isi (by exact rfl) n_isinstance bt_isinstance (da_cons (de_var 0 (by exact rfl) (by first | exact Or.inl rfl | exact Or.inr (Or.inl rfl) | exact Or.inr (Or.inr rfl))) (da_cons (de_ty (by exact rfl) n_int bt_int) da_nil))) (de_one (de_not (de_callB call_isiA cs_isi (by exact rfl) n_isinstance bt_isinstance (da_cons (de_var 0 (by exact rfl) (by first | exact Or.inl rfl | exact Or.inr (Or.inl rfl) | exact Or.inr (Or.inr rfl))) (da_cons (de_ty (by exact rfl) n_bool bt_bool) da_nil))))))))
/-! ### _law_odd -/
abbrev st_l_odd : Stmt := top 26
def fb_l_odd : DM Fl :=
  (sSeq (sSet 1 ((dCall 2 m_l_digit (dArgs (dVar 0) (dArgs ((dOp gPow (dC (.int 10)) (dC (.int 20)))) (dArgs0))))))
    ((sSeq (sSet 2 ((dLst (dArgs (dC .non) (dArgs (dC (.bl true)) (dArgs (dC (.bl false)) (dArgs (dC (.int 0)) (dArgs (dC (.int 1)) (dArgs ((dUn gNeg (dC (.int 1)))) (dArgs (dVar 1) (dArgs ((dOp gSub ((dUn gNeg (dC (.int 1)))) (dVar 1))) (dArgs ((dOp gPow (dC (.int 10)) (dC (.int 29)))) (dArgs ((dUn gNeg ((dOp gPow (dC (.int 10)) (dC (.int 29)))))) (dArgs (dC (.str "")) (dArgs (dC (.str "A")) (dArgs (dC (.str "a b")) (dArgs (dC (.str "ninechars")) (dArgs (dC (.str "a1")) (dArgs0)))))))))))))))))))
    ((sSeq (sSet 2 ((dOp gAdd (dVar 2) ((dLst (dArgs (dC (.str "eightsig")) (dArgs (dC (.str "z")) (dArgs (dC (.str "-")) (dArgs (dC (.str "1")) (dArgs (dC (.str " a")) (dArgs (dC (.str "a\n")) (dArgs ((dLst (dArgs0))) (dArgs ((dTup (dArgs0))) (dArgs ((fun _ L => .ok (.val (.dic [])) L)) (dArgs ((dLst (dArgs (dC (.str "a")) (dArgs0)))) (dArgs ((dTup (dArgs (dC (.str "a")) (dArgs0)))) (dArgs ((dDic [(dC (.str "a"), dC (.int 1))])) (dArgs ((dLst (dArgs ((dLst (dArgs (dC (.str "a")) (dArgs0)))) (dArgs0)))) (dArgs ((dTup (dArgs (dC (.str "a")) (dArgs (dC (.str "b")) (dArgs0))))) (dArgs0))))))))))))))))))))
    (sRet ((dCall 2 m_l_pick (dArgs (dVar 0) (dArgs (dVar 2) (dArgs0)))))))))))
def m_l_odd : List Sv → Led → Res Dv := mOf 3 fb_l_odd
theorem sc_l_odd : FnScope ["_law_pot_here", "_law_number", "_law_some"] ["_law_pot_here"] (defScope st_l_odd) := ⟨rfl, rfl, rfl, by decide +kernel, rfl, by decide +kernel, by decide +kernel⟩
theorem cal_l_odd {P : Program} {w : World} {K : PySem.W.Frag} {mg : Str → Option Value} {base : Heap}  (hk : SysK K) (D : DefAt K mg "_law_odd" "_law_odd" st_l_odd) (c_l_digit : Cal P w K mg base 1 "_law_digit" "_law_digit" st_l_digit ["_law_pot_here", "_law_many"] m_l_digit) (c_l_pick : Cal P w K mg base 2 "_law_pick" "_law_pick" st_l_pick ["_law_pot_here", "_law_some"] m_l_pick)  :
    Cal P w K mg base 3 "_law_odd" "_law_odd" st_l_odd ["_law_pot_here"] m_l_odd :=
  cal_of D sc_l_odd (fun F => F.binds (ps := ["_law_pot_here"]) fun _ _ _ _ _ _ us hl => match us, hl with | [_], _ => rfl) fun m W hg hr ht hp => by
  exact (dss_cons (ds_set 1 sc_l_odd.nd (by exact rfl) (by first | exact Or.inl rfl | exact Or.inr rfl) (de_cal c_l_digit (by exact rfl) (by exact rfl) hg hr (by decide) ht (da_cons (de_var 0 (by exact rfl) (by first | exact Or.inl rfl | exact Or.inr (Or.inl rfl) | exact Or.inr (Or.inr rfl))) (da_cons (de_op op_pow sPow de_int de_int) da_nil))))
    (dss_cons (ds_set 2 sc_l_odd.nd (by exact rfl) (by first | exact Or.inl rfl | exact Or.inr rfl) (de_lst (da_cons de_non (da_cons de_bl (da_cons de_bl (da_cons de_int (da_cons de_int (da_cons (de_un un_neg sNeg de_int) (da_cons (de_var 1 (by exact rfl) (by first | exact Or.inl rfl | exact Or.inr (Or.inl rfl) | exact Or.inr (Or.inr rfl))) (da_cons (de_op op_sub sSub (de_un un_neg sNeg de_int) (de_var 1 (by exact rfl) (by first | exact Or.inl rfl | exact Or.inr (Or.inl rfl) | exact Or.inr (Or.inr rfl)))) (da_cons (de_op op_pow sPow de_int de_int) (da_cons (de_un un_neg sNeg (de_op op_pow sPow de_int de_int)) (da_cons de_str (da_cons de_str (da_cons de_str (da_cons de_str (da_cons de_str da_nil)))))))))))))))))
    (dss_cons (ds_set 2 sc_l_odd.nd (by exact rfl) (by first | exact Or.inl rfl | exact Or.inr rfl) (de_op oAdd sAdd (de_var 2 (by exact rfl) (by first | exact Or.inl rfl | exact Or.inr (Or.inl rfl) | exact Or.inr (Or.inr rfl))) (de_lst (da_cons de_str (da_cons de_str (da_cons de_str (da_cons de_str (da_cons de_str (da_cons de_str (da_cons (de_lst da_nil) (da_cons (de_tup da_nil) (da_cons de_dic0 (da_cons (de_lst (da_cons de_str da_nil)) (da_cons (de_tup (da_cons de_str da_nil)) (da_cons (de_dic (dps_cons de_str de_int dps_nil) (by exact rfl) (by exact rfl) (by simp) (by decide)) (da_cons (de_lst (da_cons (de_lst (da_cons de_str da_nil)) da_nil)) (da_cons (de_tup (da_cons de_str (da_cons de_str da_nil))) da_nil)))))))))))))))))
    (dss_one (ds_ret (de_cal c_l_pick (by exact rfl) (by exact rfl) hg hr (by decide) ht (da_cons (de_var 0 (by exact rfl) (by first | exact Or.inl rfl | exact Or.inr (Or.inl rfl) | exact Or.inr (Or.inr rfl))) (da_cons (de_var 2 (by exact rfl) (by first | exact Or.inl rfl | exact Or.inr (Or.inl rfl) | exact Or.inr (Or.inr rfl))) da_nil))))))))
/-! ### _law_listed -/
abbrev st_l_listed : Stmt := top 27
def fb_l_listed : DM Fl :=
  (sSeq (sSet 1 ((dCall 3 m_l_names (dArgs (dVar 0) (dArgs ((dCall 2 m_l_digit (dArgs (dVar 0) (dArgs (dC (.int 10)) (dArgs0))))) (dArgs ((dLst (dArgs0))) (dArgs0)))))))
    ((sSeq (sFor (iR1 ((dCall 2 m_l_digit (dArgs (dVar 0) (dArgs (dC (.int 3)) (dArgs0)))))) (.one 2)
    ((sSeq (sPar 3 4 [.e ((dCall 2 m_l_digit (dArgs (dVar 0) (dArgs ((dOp gAdd ((dBi gLen (dArgs (dVar 1) (dArgs0)))) (dC (.int 1)))) (dArgs0))))), .e ((dCall 2 m_l_digit (dArgs (dVar 0) (dArgs (dC (.int 4)) (dArgs0)))))])
    ((sSeq (sSet 5 ((dIf ((dOr (dB (dOp (gCmp fun i j => decide (i < j)) (dVar 4) (dC (.int 2)))) (dB (dOp gEq (dVar 1) ((dLst (dArgs0))))))) ((dCall 1 m_l_odd (dArgs (dVar 0) (dArgs0)))) ((dOp gIx (dVar 1) ((dCall 2 m_l_digit (dArgs (dVar 0) (dArgs ((dBi gLen (dArgs (dVar 1) (dArgs0)))) (dArgs0))))))))))
    (sSet 1 ((dOp gAdd ((dOp gAdd ((dSl (dVar 1) dPt0 (dPt1 (dVar 3)))) ((dLst (dArgs (dVar 5) (dArgs0)))))) ((dSl (dVar 1) (dPt1 ((dOp gAdd (dVar 3) ((dCall 2 m_l_digit (dArgs (dVar 0) (dArgs (dC (.int 2)) (dArgs0)))))))) dPt0))))))))))
    (sRet ((dIf ((dB (dOp gEq ((dCall 2 m_l_digit (dArgs (dVar 0) (dArgs (dC (.int 2)) (dArgs0))))) (dC (.int 0))))) (dVar 1) ((dBi gTuple (dArgs (dVar 1) (dArgs0))))))))))
def m_l_listed : List Sv → Led → Res Dv := mOf 6 fb_l_listed
theorem sc_l_listed : FnScope ["_law_pot_here", "_law_found", "_law_turn", "_law_at", "_law_way", "_law_thing"] ["_law_pot_here"] (defScope st_l_listed) := ⟨rfl, rfl, rfl, by decide +kernel, rfl, by decide +kernel, by decide +kernel⟩
theorem cal_l_listed {P : Program} {w : World} {K : PySem.W.Frag} {mg : Str → Option Value} {base : Heap}  (hk : SysK K) (D : DefAt K mg "_law_listed" "_law_listed" st_l_listed) (c_l_digit : Cal P w K mg base 1 "_law_digit" "_law_digit" st_l_digit ["_law_pot_here", "_law_many"] m_l_digit) (c_l_names : Cal P w K mg base 3 "_law_names" "_law_names" st_l_names ["_law_pot_here", "_law_many", "_law_used"] m_l_names) (c_l_odd : Cal P w K mg base 3 "_law_odd" "_law_odd" st_l_odd ["_law_pot_here"] m_l_odd) (n_len : mg "len" = none) (n_range : mg "range" = none) (n_tuple : mg "tuple" = none) :
    Cal P w K mg base 4 "_law_listed" "_law_listed" st_l_listed ["_law_pot_here"] m_l_listed :=
  cal_of D sc_l_listed (fun F => F.binds (ps := ["_law_pot_here"]) fun _ _ _ _ _ _ us hl => match us, hl with | [_], _ => rfl) fun m W hg hr ht hp => by
  exact (dss_cons (ds_set 1 sc_l_listed.nd (by exact rfl) (by first | exact Or.inl rfl | exact Or.inr rfl) (de_cal c_l_names (by exact rfl) (by exact rfl) hg hr (by decide) ht (da_cons (de_var 0 (by exact rfl) (by first | exact Or.inl rfl | exact Or.inr (Or.inl rfl) | exact Or.inr (Or.inr rfl))) (da_cons (de_cal c_l_digit (by exact rfl) (by exact rfl) hg hr (by decide) ht (da_cons (de_var 0 (by exact rfl) (by first | exact Or.inl rfl | exact Or.inr (Or.inl rfl) | exact Or.inr (Or.inr rfl))) (da_cons de_int da_nil))) (da_cons (de_lst da_nil) da_nil)))))
    (dss_cons (ds_for hp (by exact rfl) (di_range1 (by exact rfl) n_range (de_cal c_l_digit (by exact rfl) (by exact rfl) hg hr (by decide) ht (da_cons (de_var 0 (by exact rfl) (by first | exact Or.inl rfl | exact Or.inr (Or.inl rfl) | exact Or.inr (Or.inr rfl))) (da_cons de_int da_nil)))) (dtg_name 2 sc_l_listed.nd (by exact rfl) (by first | exact Or.inl rfl | exact Or.inr rfl)) (dss_cons (ds_par (by exact rfl) sc_l_listed.nd (by exact rfl) (by exact rfl) (by decide) (by exact rfl) (by exact rfl) (dpm_e (de_cal c_l_digit (by exact rfl) (by exact rfl) hg hr (by decide) ht (da_cons (de_var 0 (by exact rfl) (by first | exact Or.inl rfl | exact Or.inr (Or.inl rfl) | exact Or.inr (Or.inr rfl))) (da_cons (de_op oAdd sAdd (de_callB call_len' cs_len (by exact rfl) n_len bt_len (da_cons (de_var 1 (by exact rfl) (by first | exact Or.inl rfl | exact Or.inr (Or.inl rfl) | exact Or.inr (Or.inr rfl))) da_nil)) de_int) da_nil))) (dpm_e (de_cal c_l_digit (by exact rfl) (by exact rfl) hg hr (by decide) ht (da_cons (de_var 0 (by exact rfl) (by first | exact Or.inl rfl | exact Or.inr (Or.inl rfl) | exact Or.inr (Or.inr rfl))) (da_cons de_int da_nil))) dpm_nil)) (by exact rfl))
    (dss_cons (ds_set 5 sc_l_listed.nd (by exact rfl) (by first | exact Or.inl rfl | exact Or.inr rfl) (de_if (PW.pt (dw_or (dt_cmp op_lt (sCmp (f := fun i j => decide (i < j))) (de_var 4 (by exact rfl) (by first | exact Or.inl rfl | exact Or.inr (Or.inl rfl) | exact Or.inr (Or.inr rfl))) de_int (nomark _)) (dw_or1 (dt_cmp (oEq (u_of hr (by decide))) (sEq hk) (de_var 1 (by exact rfl) (by first | exact Or.inl rfl | exact Or.inr (Or.inl rfl) | exact Or.inr (Or.inr rfl))) (de_lst da_nil) (nomark _))))) (de_cal c_l_odd (by exact rfl) (by exact rfl) hg hr (by decide) ht (da_cons (de_var 0 (by exact rfl) (by first | exact Or.inl rfl | exact Or.inr (Or.inl rfl) | exact Or.inr (Or.inr rfl))) da_nil)) (de_sub (de_var 1 (by exact rfl) (by first | exact Or.inl rfl | exact Or.inr (Or.inl rfl) | exact Or.inr (Or.inr rfl))) (de_cal c_l_digit (by exact rfl) (by exact rfl) hg hr (by decide) ht (da_cons (de_var 0 (by exact rfl) (by first | exact Or.inl rfl | exact Or.inr (Or.inl rfl) | exact Or.inr (Or.inr rfl))) (da_cons (de_callB call_len' cs_len (by exact rfl) n_len bt_len (da_cons (de_var 1 (by exact rfl) (by first | exact Or.inl rfl | exact Or.inr (Or.inl rfl) | exact Or.inr (Or.inr rfl))) da_nil)) da_nil))) (fun _ _ => (by exact rfl)))))
    (dss_one (ds_set 1 sc_l_listed.nd (by exact rfl) (by first | exact Or.inl rfl | exact Or.inr rfl) (de_op oAdd sAdd (de_op oAdd sAdd (de_slice (de_var 1 (by exact rfl) (by first | exact Or.inl rfl | exact Or.inr (Or.inl rfl) | exact Or.inr (Or.inr rfl))) dp_none (dp_some (de_var 3 (by exact rfl) (by first | exact Or.inl rfl | exact Or.inr (Or.inl rfl) | exact Or.inr (Or.inr rfl))))) (de_lst (da_cons (de_var 5 (by exact rfl) (by first | exact Or.inl rfl | exact Or.inr (Or.inl rfl) | exact Or.inr (Or.inr rfl))) da_nil))) (de_slice (de_var 1 (by exact rfl) (by first | exact Or.inl rfl | exact Or.inr (Or.inl rfl) | exact Or.inr (Or.inr rfl))) (dp_some (de_op oAdd sAdd (de_var 3 (by exact rfl) (by first | exact Or.inl rfl | exact Or.inr (Or.inl rfl) | exact Or.inr (Or.inr rfl))) (de_cal c_l_digit (by exact rfl) (by exact rfl) hg hr (by decide) ht (da_cons (de_var 0 (by exact rfl) (by first | exact Or.inl rfl | exact Or.inr (Or.inl rfl) | exact Or.inr (Or.inr rfl))) (da_cons de_int da_nil))))) dp_none)))))))
    (dss_one (ds_ret (de_if (dt_cmp (oEq (u_of hr (by decide))) (sEq hk) (de_cal c_l_digit (by exact rfl) (by exact rfl) hg hr (by decide) ht (da_cons (de_var 0 (by exact rfl) (by first | exact Or.inl rfl | exact Or.inr (Or.inl rfl) | exact Or.inr (Or.inr rfl))) (da_cons de_int da_nil))) de_int (nomark _)) (de_var 1 (by exact rfl) (by first | exact Or.inl rfl | exact Or.inr (Or.inl rfl) | exact Or.inr (Or.inr rfl))) (de_callTy call_tuple_of cs_tuple (by exact rfl) n_tuple bt_tuple (da_cons (de_var 1 (by exact rfl) (by first | exact Or.inl rfl | exact Or.inr (Or.inl rfl) | exact Or.inr (Or.inr rfl))) da_nil)))))))
/-! ### _law_wrong -/
abbrev st_l_wrong : Stmt := top 28
def fb_l_wrong : DM Fl :=
  (sSeq (sIf (dOr (dNot (dB ((dBi gIsi (dArgs (dVar 0) (dArgs ((dTup (dArgs ((fun _ L => .ok (.val (.ty "list")) L)) (dArgs ((fun _ L => .ok (.val (.ty "tuple")) L)) (dArgs0))))) (dArgs0))))))) (dNot (dB (dChain (gCmp fun i j => decide (i ≤ j)) (gCmp fun i j => decide (i ≤ j)) (dC (.int 1)) ((dBi gLen (dArgs (dVar 0) (dArgs0)))) (dC (.int 8)))))) (sRet ((dLst (dArgs (dC .non) (dArgs0))))) (sNil))
    ((sSeq (sFor (iR1 ((dBi gLen (dArgs (dVar 0) (dArgs0))))) (.one 1)
    (sIf (dOr (dNot (dB ((dCall 1 m_l_is_name (dArgs ((dOp gIx (dVar 0) (dVar 1))) (dArgs0)))))) (dB (dOp (gIn false) ((dOp gIx (dVar 0) (dVar 1))) ((dSl ((dBi gList (dArgs (dVar 0) (dArgs0)))) dPt0 (dPt1 (dVar 1))))))) (sRet ((dLst (dArgs (dVar 1) (dArgs0))))) (sNil)))
    (sRet ((dLst (dArgs0)))))))
def m_l_wrong : List Sv → Led → Res Dv := mOf 2 fb_l_wrong
theorem sc_l_wrong : FnScope ["_law_given", "_law_at"] ["_law_given"] (defScope st_l_wrong) := ⟨rfl, rfl, rfl, by decide +kernel, rfl, by decide +kernel, by decide +kernel⟩
theorem cal_l_wrong {P : Program} {w : World} {K : PySem.W.Frag} {mg : Str → Option Value} {base : Heap}  (hk : SysK K) (D : DefAt K mg "_law_wrong" "_law_wrong" st_l_wrong) (c_l_is_name : Cal P w K mg base 1 "_law_is_name" "_law_is_name" st_l_is_name ["_law_given"] m_l_is_name) (n_isinstance : mg "isinstance" = none) (n_len : mg "len" = none) (n_list : mg "list" = none) (n_range : mg "range" = none) (n_tuple : mg "tuple" = none) :
    Cal P w K mg base 2 "_law_wrong" "_law_wrong" st_l_wrong ["_law_given"] m_l_wrong :=
  cal_of D sc_l_wrong (fun F => F.binds (ps := ["_law_given"]) fun _ _ _ _ _ _ us hl => match us, hl with | [_], _ => rfl) fun m W hg hr ht hp => by
  exact (dss_cons (ds_if (PW.pt (dw_or (dt_not (dt_val (de_callB call_isiA cs_isi (by exact rfl) n_isinstance bt_isinstance (da_cons (de_var 0 (by exact rfl) (by first | exact Or.inl rfl | exact Or.inr (Or.inl rfl) | exact Or.inr (Or.inr rfl))) (da_cons (de_tup (da_cons (de_ty (by exact rfl) n_list bt_list) (da_cons (de_ty (by exact rfl) n_tuple bt_tuple) da_nil))) da_nil))))) (dw_or1 (dt_not (dt_chain op_le op_le (sCmp (f := fun i j => decide (i ≤ j))) (sCmp (f := fun i j => decide (i ≤ j))) de_int (de_callB call_len' cs_len (by exact rfl) n_len bt_len (da_cons (de_var 0 (by exact rfl) (by first | exact Or.inl rfl | exact Or.inr (Or.inl rfl) | exact Or.inr (Or.inr rfl))) da_nil)) de_int))))) (dss_one (ds_ret (de_lst (da_cons de_non da_nil)))) dss_nil)
    (dss_cons (ds_for hp (by exact rfl) (di_range1 (by exact rfl) n_range (de_callB call_len' cs_len (by exact rfl) n_len bt_len (da_cons (de_var 0 (by exact rfl) (by first | exact Or.inl rfl | exact Or.inr (Or.inl rfl) | exact Or.inr (Or.inr rfl))) da_nil))) (dtg_name 1 sc_l_wrong.nd (by exact rfl) (by first | exact Or.inl rfl | exact Or.inr rfl)) (dss_one (ds_if (PW.pt (dw_or (dt_not (dt_val (de_cal c_l_is_name (by exact rfl) (by exact rfl) hg hr (by decide) ht (da_cons (de_sub (de_var 0 (by exact rfl) (by first | exact Or.inl rfl | exact Or.inr (Or.inl rfl) | exact Or.inr (Or.inr rfl))) (de_var 1 (by exact rfl) (by first | exact Or.inl rfl | exact Or.inr (Or.inl rfl) | exact Or.inr (Or.inr rfl))) (fun _ _ => (by exact rfl))) da_nil)))) (dw_or1 (dt_cmp (oIn (u_of hr (by decide))) (sIn hk) (de_sub (de_var 0 (by exact rfl) (by first | exact Or.inl rfl | exact Or.inr (Or.inl rfl) | exact Or.inr (Or.inr rfl))) (de_var 1 (by exact rfl) (by first | exact Or.inl rfl | exact Or.inr (Or.inl rfl) | exact Or.inr (Or.inr rfl))) (fun _ _ => (by exact rfl))) (de_slice (de_callTy call_list_of cs_list (by exact rfl) n_list bt_list (da_cons (de_var 0 (by exact rfl) (by first | exact Or.inl rfl | exact Or.inr (Or.inl rfl) | exact Or.inr (Or.inr rfl))) da_nil)) dp_none (dp_some (de_var 1 (by exact rfl) (by first | exact Or.inl rfl | exact Or.inr (Or.inl rfl) | exact Or.inr (Or.inr rfl))))) (by exact rfl))))) (dss_one (ds_ret (de_lst (da_cons (de_var 1 (by exact rfl) (by first | exact Or.inl rfl | exact Or.inr (Or.inl rfl) | exact Or.inr (Or.inr rfl))) da_nil)))) dss_nil)))
    (dss_one (ds_ret (de_lst da_nil)))))
/-! ### _law_judged -/
abbrev st_l_judged : Stmt := top 29
def fb_l_judged : DM Fl :=
  (sSeq (sPar 1 2 [.e ((dBi gRepr (dArgs (dVar 0) (dArgs0)))), .e ((dCall 1 m_l_is_integer (dArgs (dVar 0) (dArgs0))))])
    ((sSeq (sSet 3 ((dLst (dArgs ((dCall 1 m_l_is_name (dArgs (dVar 0) (dArgs0)))) (dArgs (dVar 2) (dArgs ((dAndV (dVar 2) ((dOp (gCmp fun i j => decide (j ≤ i)) (dVar 0) (dC (.int 0)))))) (dArgs ((dOp gEq ((dCall 1 m_l_wrong (dArgs (dVar 0) (dArgs0)))) ((dLst (dArgs0))))) (dArgs0))))))))
    ((sSeq (sSet 4 ((dLst (dArgs ((dCall 1 m_is_name (dArgs (dVar 0) (dArgs0)))) (dArgs ((dCall 1 m_is_integer (dArgs (dVar 0) (dArgs0)))) (dArgs ((dCall 1 m_is_count (dArgs (dVar 0) (dArgs0)))) (dArgs ((dCall 1 m_is_alphabet (dArgs (dVar 0) (dArgs0)))) (dArgs0))))))))
    ((sSeq (sSet 5 ((dLst (dArgs ((dCallK 0 1 [0] m_is_name dArgs0 (dArgs (dVar 0) (dArgs0)))) (dArgs ((dCallK 0 1 [0] m_is_integer dArgs0 (dArgs (dVar 0) (dArgs0)))) (dArgs ((dCallK 0 1 [0] m_is_count dArgs0 (dArgs (dVar 0) (dArgs0)))) (dArgs ((dCallK 0 1 [0] m_is_alphabet dArgs0 (dArgs (dVar 0) (dArgs0)))) (dArgs0))))))))
    (sRet ((dAndV ((dOp gEq ((dBi gRepr (dArgs ((dLst (dArgs (dVar 4) (dArgs (dVar 5) (dArgs0))))) (dArgs0)))) ((dBi gRepr (dArgs ((dLst (dArgs (dVar 3) (dArgs (dVar 3) (dArgs0))))) (dArgs0)))))) ((dOp gEq ((dBi gRepr (dArgs (dVar 0) (dArgs0)))) (dVar 1)))))))))))))
def m_l_judged : List Sv → Led → Res Dv := mOf 6 fb_l_judged
theorem sc_l_judged : FnScope ["_law_given", "_law_shown", "_law_is_whole", "_law_due", "_law_told_here", "_law_named"] ["_law_given"] (defScope st_l_judged) := ⟨rfl, rfl, rfl, by decide +kernel, rfl, by decide +kernel, by decide +kernel⟩
theorem kw_is_alphabet_0_value : KwOk "is_alphabet" "is_alphabet" st_is_alphabet ["value"] 0 ["value"] [0] := fun _ _ _ _ _ _ us ws h1 h2 => match us, ws, h1, h2 with | [], [_], _, _ => rfl
theorem kw_is_count_0_value : KwOk "is_count" "is_count" st_is_count ["value"] 0 ["value"] [0] := fun _ _ _ _ _ _ us ws h1 h2 => match us, ws, h1, h2 with | [], [_], _, _ => rfl
theorem kw_is_integer_0_value : KwOk "is_integer" "is_integer" st_is_integer ["value"] 0 ["value"] [0] := fun _ _ _ _ _ _ us ws h1 h2 => match us, ws, h1, h2 with | [], [_], _, _ => rfl
theorem kw_is_name_0_value : KwOk "is_name" "is_name" st_is_name ["value"] 0 ["value"] [0] := fun _ _ _ _ _ _ us ws h1 h2 => match us, ws, h1, h2 with | [], [_], _, _ => rfl
theorem cal_l_judged {P : Program} {w : World} {K : PySem.W.Frag} {mg : Str → Option Value} {base : Heap}  (hk : SysK K) (D : DefAt K mg "_law_judged" "_law_judged" st_l_judged) (c_is_integer : Cal P w K mg base 1 "is_integer" "is_integer" st_is_integer ["value"] m_is_integer) (c_is_count : Cal P w K mg base 2 "is_count" "is_count" st_is_count ["value"] m_is_count) (c_is_name : Cal P w K mg base 1 "is_name" "is_name" st_is_name ["value"] m_is_name) (c_is_alphabet : Cal P w K mg base 3 "is_alphabet" "is_alphabet" st_is_alphabet ["value"] m_is_alphabet) (c_l_is_name : Cal P w K mg base 1 "_law_is_name" "_law_is_name" st_l_is_name ["_law_given"] m_l_is_name) (c_l_is_integer : Cal P w K mg base 1 "_law_is_integer" "_law_is_integer" st_l_is_integer ["_law_given"] m_l_is_integer) (c_l_wrong : Cal P w K mg base 2 "_law_wrong" "_law_wrong" st_l_wrong ["_law_given"] m_l_wrong) (n_repr : mg "repr" = none) :
    Cal P w K mg base 4 "_law_judged" "_law_judged" st_l_judged ["_law_given"] m_l_judged :=
  cal_of D sc_l_judged (fun F => F.binds (ps := ["_law_given"]) fun _ _ _ _ _ _ us hl => match us, hl with | [_], _ => rfl) fun m W hg hr ht hp => by
  exact (dss_cons (ds_par (by exact rfl) sc_l_judged.nd (by exact rfl) (by exact rfl) (by decide) (by exact rfl) (by exact rfl) (dpm_e (de_callB (call_repr hg (u_of hr (by decide))) (cs_repr hk) (by exact rfl) n_repr bt_repr (da_cons (de_var 0 (by exact rfl) (by first | exact Or.inl rfl | exact Or.inr (Or.inl rfl) | exact Or.inr (Or.inr rfl))) da_nil)) (dpm_e (de_cal c_l_is_integer (by exact rfl) (by exact rfl) hg hr (by decide) ht (da_cons (de_var 0 (by exact rfl) (by first | exact Or.inl rfl | exact Or.inr (Or.inl rfl) | exact Or.inr (Or.inr rfl))) da_nil)) dpm_nil)) (by exact rfl))
    (dss_cons (ds_set 3 sc_l_judged.nd (by exact rfl) (by first | exact Or.inl rfl | exact Or.inr rfl) (de_lst (da_cons (de_cal c_l_is_name (by exact rfl) (by exact rfl) hg hr (by decide) ht (da_cons (de_var 0 (by exact rfl) (by first | exact Or.inl rfl | exact Or.inr (Or.inl rfl) | exact Or.inr (Or.inr rfl))) da_nil)) (da_cons (de_var 2 (by exact rfl) (by first | exact Or.inl rfl | exact Or.inr (Or.inl rfl) | exact Or.inr (Or.inr rfl))) (da_cons (de_and (de_var 2 (by exact rfl) (by first | exact Or.inl rfl | exact Or.inr (Or.inl rfl) | exact Or.inr (Or.inr rfl))) (de_one (de_cmp op_ge (sCmp (f := fun i j => decide (j ≤ i))) (de_var 0 (by exact rfl) (by first | exact Or.inl rfl | exact Or.inr (Or.inl rfl) | exact Or.inr (Or.inr rfl))) de_int (nomark _)))) (da_cons (de_cmp (oEq (u_of hr (by decide))) (sEq hk) (de_cal c_l_wrong (by exact rfl) (by exact rfl) hg hr (by decide) ht (da_cons (de_var 0 (by exact rfl) (by first | exact Or.inl rfl | exact Or.inr (Or.inl rfl) | exact Or.inr (Or.inr rfl))) da_nil)) (de_lst da_nil) (nomark _)) da_nil))))))
    (dss_cons (ds_set 4 sc_l_judged.nd (by exact rfl) (by first | exact Or.inl rfl | exact Or.inr rfl) (de_lst (da_cons (de_cal c_is_name (by exact rfl) (by exact rfl) hg hr (by decide) ht (da_cons (de_var 0 (by exact rfl) (by first | exact Or.inl rfl | exact Or.inr (Or.inl rfl) | exact Or.inr (Or.inr rfl))) da_nil)) (da_cons (de_cal c_is_integer (by exact rfl) (by exact rfl) hg hr (by decide) ht (da_cons (de_var 0 (by exact rfl) (by first | exact Or.inl rfl | exact Or.inr (Or.inl rfl) | exact Or.inr (Or.inr rfl))) da_nil)) (da_cons (de_cal c_is_count (by exact rfl) (by exact rfl) hg hr (by decide) ht (da_cons (de_var 0 (by exact rfl) (by first | exact Or.inl rfl | exact Or.inr (Or.inl rfl) | exact Or.inr (Or.inr rfl))) da_nil)) (da_cons (de_cal c_is_alphabet (by exact rfl) (by exact rfl) hg hr (by decide) ht (da_cons (de_var 0 (by exact rfl) (by first | exact Or.inl rfl | exact Or.inr (Or.inl rfl) | exact Or.inr (Or.inr rfl))) da_nil)) da_nil))))))
    (dss_cons (ds_set 5 sc_l_judged.nd (by exact rfl) (by first | exact Or.inl rfl | exact Or.inr rfl) (de_lst (da_cons (de_calK0 c_is_name kw_is_name_0_value (by exact rfl) (by decide) (by exact rfl) (by exact rfl) hg hr (by decide) ht (dk_cons (de_var 0 (by exact rfl) (by first | exact Or.inl rfl | exact Or.inr (Or.inl rfl) | exact Or.inr (Or.inr rfl))) dk_nil)) (da_cons (de_calK0 c_is_integer kw_is_integer_0_value (by exact rfl) (by decide) (by exact rfl) (by exact rfl) hg hr (by decide) ht (dk_cons (de_var 0 (by exact rfl) (by first | exact Or.inl rfl | exact Or.inr (Or.inl rfl) | exact Or.inr (Or.inr rfl))) dk_nil)) (da_cons (de_calK0 c_is_count kw_is_count_0_value (by exact rfl) (by decide) (by exact rfl) (by exact rfl) hg hr (by decide) ht (dk_cons (de_var 0 (by exact rfl) (by first | exact Or.inl rfl | exact Or.inr (Or.inl rfl) | exact Or.inr (Or.inr rfl))) dk_nil)) (da_cons (de_calK0 c_is_alphabet kw_is_alphabet_0_value (by exact rfl) (by decide) (by exact rfl) (by exact rfl) hg hr (by decide) ht (dk_cons (de_var 0 (by exact rfl) (by first | exact Or.inl rfl | exact Or.inr (Or.inl rfl) | exact Or.inr (Or.inr rfl))) dk_nil)) da_nil))))))
    (dss_one (ds_ret (de_and (de_cmp (oEq (u_of hr (by decide))) (sEq hk) (de_callB (call_repr hg (u_of hr (by decide))) (cs_repr hk) (by exact rfl) n_repr bt_repr (da_cons (de_lst (da_cons (de_var 4 (by exact rfl) (by first | exact Or.inl rfl | exact Or.inr (Or.inl rfl) | exact Or.inr (Or.inr rfl))) (da_cons (de_var 5 (by exact rfl) (by first | exact Or.inl rfl | exact Or.inr (Or.inl rfl) | exact Or.inr (Or.inr rfl))) da_nil))) da_nil)) (de_callB (call_repr hg (u_of hr (by decide))) (cs_repr hk) (by exact rfl) n_repr bt_repr (da_cons (de_lst (da_cons (de_var 3 (by exact rfl) (by first | exact Or.inl rfl | exact Or.inr (Or.inl rfl) | exact Or.inr (Or.inr rfl))) (da_cons (de_var 3 (by exact rfl) (by first | exact Or.inl rfl | exact Or.inr (Or.inl rfl) | exact Or.inr (Or.inr rfl))) da_nil))) da_nil)) (nomark _)) (de_one (de_cmp (oEq (u_of hr (by decide))) (sEq hk) (de_callB (call_repr hg (u_of hr (by decide))) (cs_repr hk) (by exact rfl) n_repr bt_repr (da_cons (de_var 0 (by exact rfl) (by first | exact Or.inl rfl | exact Or.inr (Or.inl rfl) | exact Or.inr (Or.inr rfl))) da_nil)) (de_var 1 (by exact rfl) (by first | exact Or.inl rfl | exact Or.inr (Or.inl rfl) | exact Or.inr (Or.inr rfl))) (nomark _))))))))))
/-! ### _law_told -/
abbrev st_l_told : Stmt := top 30
def ct_InvalidAlphabet__ShortlogError : CTab := [("InvalidAlphabet", .inl "ShortlogError", true)]
theorem ctm_ct_InvalidAlphabet__ShortlogError : ∀ q ∈ ct_InvalidAlphabet__ShortlogError, q.1 ∈ (["InvalidAlphabet"] : List Str) := by decide +kernel
def ct_InvalidAlphabet__InvalidName_InvalidWord : CTab := [("InvalidAlphabet", .inl "InvalidName", false), ("InvalidAlphabet", .inl "InvalidWord", false)]
theorem ctm_ct_InvalidAlphabet__InvalidName_InvalidWord : ∀ q ∈ ct_InvalidAlphabet__InvalidName_InvalidWord, q.1 ∈ (["InvalidAlphabet"] : List Str) := by decide +kernel
def fb_l_told : DM Fl :=
  (sSeq (sTry 4 [("InvalidAlphabet", true)] (sSet 3 ((dIf ((dB (dVar 2))) ((dCallK 0 2 [1, 0] m_is_word dArgs0 (dArgs (dVar 1) (dArgs (dVar 0) (dArgs0))))) ((dCall 2 m_is_word (dArgs (dVar 0) (dArgs (dVar 1) (dArgs0)))))))) ((sSeq (sSet 5 ((dOrV ((dIsx 4 ct_InvalidAlphabet__InvalidName_InvalidWord ((dTup (dArgs (dC (.cls "InvalidName")) (dArgs (dC (.cls "InvalidWord")) (dArgs0))))))) ((dNotV ((dIsx 4 ct_InvalidAlphabet__ShortlogError (dC (.cls "ShortlogError")))))))))
    (sSet 3 ((dIf ((dB (dVar 5))) ((dLst (dArgs (dC (.str "other")) (dArgs0)))) ((dLst (dArgs ((dXf 4 "position" ["InvalidAlphabet"])) (dArgs0))))))))))
    (sRet ((dBi gRepr (dArgs (dVar 3) (dArgs0))))))
def m_l_told : List Sv → Led → Res Dv := mOf 6 fb_l_told
theorem sc_l_told : FnScope ["_law_symbols", "_law_given", "_law_is_named", "_law_found", "e", "_law_others"] ["_law_symbols", "_law_given", "_law_is_named"] (defScope st_l_told) := ⟨rfl, rfl, rfl, by decide +kernel, rfl, by decide +kernel, by decide +kernel⟩
theorem kw_is_word_0_value_alphabet : KwOk "is_word" "is_word" st_is_word ["alphabet", "value"] 0 ["value", "alphabet"] [1, 0] := fun _ _ _ _ _ _ us ws h1 h2 => match us, ws, h1, h2 with | [], [_, _], _, _ => rfl
theorem cal_l_told {P : Program} {w : World} {K : PySem.W.Frag} {mg : Str → Option Value} {base : Heap} {C_InvalidAlphabet : Addr} {C_InvalidName : Addr} {C_InvalidWord : Addr} {C_ShortlogError : Addr} (hk : SysK K) (D : DefAt K mg "_law_told" "_law_told" st_l_told) (c_is_word : Cal P w K mg base 4 "is_word" "is_word" st_is_word ["alphabet", "value"] m_is_word) (k_InvalidAlphabet : mg "InvalidAlphabet" = some (.ref C_InvalidAlphabet)) (k_InvalidName : mg "InvalidName" = some (.ref C_InvalidName)) (k_InvalidWord : mg "InvalidWord" = some (.ref C_InvalidWord)) (k_ShortlogError : mg "ShortlogError" = some (.ref C_ShortlogError)) (f_position_InvalidAlphabet : ∀ c C, c ∈ (["InvalidAlphabet"] : List Str) → mg c = some (.ref C) → XfC K C ∧ PySem.W.findIn K (.ref C) "position" = some none) (hct_InvalidAlphabet__InvalidName_InvalidWord : CTabOk K mg ct_InvalidAlphabet__InvalidName_InvalidWord) (hct_InvalidAlphabet__ShortlogError : CTabOk K mg ct_InvalidAlphabet__ShortlogError) (n_isinstance : mg "isinstance" = none) (n_len : mg "len" = none) (n_repr : mg "repr" = none) (x_InvalidAlphabet : ∀ c ∈ (["InvalidAlphabet"] : List Str), ∀ C, mg c = some (.ref C) → ExcC K C) (y_InvalidAlphabet : ∀ c C b, List.lookup c ([("InvalidAlphabet", true)] : List (Str × Bool)) = some b → mg c = some (.ref C) → PySem.W.exmOne K (.ref C) (.ref C_InvalidAlphabet) = some b) :
    Cal P w K mg base 5 "_law_told" "_law_told" st_l_told ["_law_symbols", "_law_given", "_law_is_named"] m_l_told :=
  cal_of D sc_l_told (fun F => F.binds (ps := ["_law_symbols", "_law_given", "_law_is_named"]) fun _ _ _ _ _ _ us hl => match us, hl with | [_, _, _], _ => rfl) fun m W hg hr ht hp => by
  exact (dss_cons (ds_try_as (by exact rfl) (by exact rfl) (by exact rfl) sc_l_told.nd (by exact rfl) (by exact rfl) ⟨(by exact rfl), by decide, Or.inl k_InvalidAlphabet⟩ ht n_isinstance n_repr n_len y_InvalidAlphabet (fun W2 pn2 xe2 tk2 po2 => (dss_one (ds_set 3 sc_l_told.nd (by exact rfl) (by first | exact Or.inl rfl | exact Or.inr rfl) (de_if (dt_val (de_var 2 (by exact rfl) (by first | exact Or.inl rfl | exact Or.inr (Or.inl rfl) | exact Or.inr (Or.inr rfl)))) (de_calK0 c_is_word kw_is_word_0_value_alphabet (by exact rfl) (by decide) (by exact rfl) (by exact rfl) hg hr (by decide) tk2 (dk_cons (de_var 1 (by exact rfl) (by first | exact Or.inl rfl | exact Or.inr (Or.inl rfl) | exact Or.inr (Or.inr rfl))) (dk_cons (de_var 0 (by exact rfl) (by first | exact Or.inl rfl | exact Or.inr (Or.inl rfl) | exact Or.inr (Or.inr rfl))) dk_nil))) (de_cal c_is_word (by exact rfl) (by exact rfl) hg hr (by decide) tk2 (da_cons (de_var 0 (by exact rfl) (by first | exact Or.inl rfl | exact Or.inr (Or.inl rfl) | exact Or.inr (Or.inr rfl))) (da_cons (de_var 1 (by exact rfl) (by first | exact Or.inl rfl | exact Or.inr (Or.inl rfl) | exact Or.inr (Or.inr rfl))) da_nil))))))) (fun a oe cls d pn hz hf => (dss_cons (ds_set 5 sc_l_told.nd (by exact rfl) (by first | exact Or.inl rfl | exact Or.inr rfl) (de_or (de_isx hz hf (by exact rfl) (by first | exact Or.inl rfl | exact Or.inr (Or.inl rfl) | exact Or.inr (Or.inr rfl)) n_isinstance n_repr n_len (by exact rfl) hct_InvalidAlphabet__InvalidName_InvalidWord (fun q hq => x_InvalidAlphabet _ (ctm_ct_InvalidAlphabet__InvalidName_InvalidWord q hq)) (de_tup (da_cons (de_cls (by exact rfl) k_InvalidName) (da_cons (de_cls (by exact rfl) k_InvalidWord) da_nil)))) (de_one (de_not (de_isx hz hf (by exact rfl) (by first | exact Or.inl rfl | exact Or.inr (Or.inl rfl) | exact Or.inr (Or.inr rfl)) n_isinstance n_repr n_len (by exact rfl) hct_InvalidAlphabet__ShortlogError (fun q hq => x_InvalidAlphabet _ (ctm_ct_InvalidAlphabet__ShortlogError q hq)) (de_cls (by exact rfl) k_ShortlogError))))))
    (dss_one (ds_set 3 sc_l_told.nd (by exact rfl) (by first | exact Or.inl rfl | exact Or.inr rfl) (de_if (dt_val (de_var 5 (by exact rfl) (by first | exact Or.inl rfl | exact Or.inr (Or.inl rfl) | exact Or.inr (Or.inr rfl)))) (de_lst (da_cons de_str da_nil)) (de_lst (da_cons (de_xf hz hf (by exact rfl) (by first | exact Or.inl rfl | exact Or.inr (Or.inl rfl) | exact Or.inr (Or.inr rfl)) n_isinstance n_repr n_len f_position_InvalidAlphabet) da_nil))))))))
    (dss_one (ds_ret (de_callB (call_repr hg (u_of hr (by decide))) (cs_repr hk) (by exact rfl) n_repr bt_repr (da_cons (de_var 3 (by exact rfl) (by first | exact Or.inl rfl | exact Or.inr (Or.inl rfl) | exact Or.inr (Or.inr rfl))) da_nil)))))
/-! ### _law_words_right -/
abbrev st_l_words_right : Stmt := top 31
def fb_l_words_right : DM Fl :=
  (sSeq (sParT [2, 3] [.e ((dCall 1 m_l_wrong (dArgs (dVar 1) (dArgs0)))), .e ((dLst (dArgs (dC (.str "a")) (dArgs0))))])
    ((sSeq (sIf (dB (dOp gEq (dVar 2) ((dLst (dArgs0))))) (sSet 3 ((dBi gList (dArgs (dVar 1) (dArgs0))))) (sNil))
    ((sSeq (sSet 4 ((dLc (iR1 ((dCall 2 m_l_digit (dArgs (dVar 0) (dArgs (dC (.int 6)) (dArgs0)))))) (.one 11) dTr ((dCall 2 m_l_pick (dArgs (dVar 0) (dArgs (dVar 3) (dArgs0))))) [11])))
    ((sSeq (sSet 5 ((dCall 2 m_l_digit (dArgs (dVar 0) (dArgs ((dOp gAdd ((dBi gLen (dArgs (dVar 4) (dArgs0)))) (dC (.int 1)))) (dArgs0))))))
    ((sSeq (sSetL 6 (dArgs (dVar 4) (dArgs ((dBi gTuple (dArgs (dVar 4) (dArgs0)))) (dArgs ((dOp gAdd ((dOp gAdd ((dSl (dVar 4) dPt0 (dPt1 (dVar 5)))) ((dLst (dArgs ((dCall 1 m_l_odd (dArgs (dVar 0) (dArgs0)))) (dArgs0)))))) ((dSl (dVar 4) (dPt1 (dVar 5)) dPt0)))) (dArgs ((dOp gAdd (dVar 4) ((dCall 3 m_l_names (dArgs (dVar 0) (dArgs (dC (.int 1)) (dArgs (dVar 3) (dArgs0)))))))) (dArgs0))))))
    ((sSeq (sApp 6 ((dCall 1 m_l_odd (dArgs (dVar 0) (dArgs0)))))
    ((gFrz 6 ((sSeq (sFor (iV (dVar 6)) (.one 7)
    ((sSeq (sSet 8 ((dAndV ((dBi gIsi (dArgs (dVar 7) (dArgs ((dTup (dArgs ((fun _ L => .ok (.val (.ty "list")) L)) (dArgs ((fun _ L => .ok (.val (.ty "tuple")) L)) (dArgs0))))) (dArgs0))))) ((dBi gAll (dArgs ((dLc (iV (dVar 7)) (.one 12) dTr ((dAndV ((dCall 1 m_l_is_name (dArgs (dVar 12) (dArgs0)))) ((dOp (gIn false) (dVar 12) (dVar 3))))) [12])) (dArgs0)))))))
    ((sSeq (sSet 9 ((dIf ((dB (dOp gEq (dVar 2) ((dLst (dArgs0)))))) (dVar 8) (dVar 2))))
    ((sSeq (sSet 10 ((dBi gRepr (dArgs ((dLst (dArgs (dVar 1) (dArgs (dVar 7) (dArgs0))))) (dArgs0)))))
    ((sSeq (sIf (dB (dOp gNe ((dLst (dArgs ((dCall 3 m_l_told (dArgs (dVar 1) (dArgs (dVar 7) (dArgs (dC (.bl false)) (dArgs0)))))) (dArgs ((dCall 3 m_l_told (dArgs (dVar 1) (dArgs (dVar 7) (dArgs (dC (.bl true)) (dArgs0)))))) (dArgs0))))) ((dOp gMul ((dLst (dArgs ((dBi gRepr (dArgs (dVar 9) (dArgs0)))) (dArgs0)))) (dC (.int 2)))))) (sRet (dC (.bl false))) (sNil))
    (sIf (dB (dOp gNe ((dBi gRepr (dArgs ((dLst (dArgs (dVar 1) (dArgs (dVar 7) (dArgs0))))) (dArgs0)))) (dVar 10))) (sRet (dC (.bl false))) (sNil)))))))))))
    (sRet (dC (.bl true))))))))))))))))))
def m_l_words_right : List Sv → Led → Res Dv := mOf 13 fb_l_words_right
theorem sc_l_words_right : FnScope ["_law_pot_here", "_law_symbols", "_law_wrong_here", "_law_letters", "_law_word", "_law_at", "_law_some", "_law_given", "_law_is_right", "_law_due", "_law_shown", "_law_turn", "_law_one"] ["_law_pot_here", "_law_symbols"] (defScope st_l_words_right) := ⟨rfl, rfl, rfl, by decide +kernel, rfl, by decide +kernel, by decide +kernel⟩
theorem cal_l_words_right {P : Program} {w : World} {K : PySem.W.Frag} {mg : Str → Option Value} {base : Heap}  (hk : SysK K) (D : DefAt K mg "_law_words_right" "_law_words_right" st_l_words_right) (c_l_digit : Cal P w K mg base 1 "_law_digit" "_law_digit" st_l_digit ["_law_pot_here", "_law_many"] m_l_digit) (c_l_pick : Cal P w K mg base 2 "_law_pick" "_law_pick" st_l_pick ["_law_pot_here", "_law_some"] m_l_pick) (c_l_names : Cal P w K mg base 3 "_law_names" "_law_names" st_l_names ["_law_pot_here", "_law_many", "_law_used"] m_l_names) (c_l_is_name : Cal P w K mg base 1 "_law_is_name" "_law_is_name" st_l_is_name ["_law_given"] m_l_is_name) (c_l_odd : Cal P w K mg base 3 "_law_odd" "_law_odd" st_l_odd ["_law_pot_here"] m_l_odd) (c_l_wrong : Cal P w K mg base 2 "_law_wrong" "_law_wrong" st_l_wrong ["_law_given"] m_l_wrong) (c_l_told : Cal P w K mg base 5 "_law_told" "_law_told" st_l_told ["_law_symbols", "_law_given", "_law_is_named"] m_l_told) (n_all : mg "all" = none) (n_isinstance : mg "isinstance" = none) (n_len : mg "len" = none) (n_list : mg "list" = none) (n_range : mg "range" = none) (n_repr : mg "repr" = none) (n_tuple : mg "tuple" = none) :
    Cal P w K mg base 6 "_law_words_right" "_law_words_right" st_l_words_right ["_law_pot_here", "_law_symbols"] m_l_words_right :=
  cal_of D sc_l_words_right (fun F => F.binds (ps := ["_law_pot_here", "_law_symbols"]) fun _ _ _ _ _ _ us hl => match us, hl with | [_, _], _ => rfl) fun m W hg hr ht hp => by
  exact (dss_cons (ds_parT (by exact rfl) sc_l_words_right.nd (.cons (i := 2) (by exact rfl) (by first | exact Or.inl rfl | exact Or.inr rfl) (by first | exact Or.inl rfl | exact Or.inr rfl) (.cons (i := 3) (by exact rfl) (by first | exact Or.inl rfl | exact Or.inr rfl) (by first | exact Or.inl rfl | exact Or.inr rfl) .nil (by exact rfl)) (by exact rfl)) (dpm_e (de_cal c_l_wrong (by exact rfl) (by exact rfl) hg hr (by decide) ht (da_cons (de_var 1 (by exact rfl) (by first | exact Or.inl rfl | exact Or.inr (Or.inl rfl) | exact Or.inr (Or.inr rfl))) da_nil)) (dpm_e (de_lst (da_cons de_str da_nil)) dpm_nil)))
    (dss_cons (ds_if (dt_cmp (oEq (u_of hr (by decide))) (sEq hk) (de_var 2 (by exact rfl) (by first | exact Or.inl rfl | exact Or.inr (Or.inl rfl) | exact Or.inr (Or.inr rfl))) (de_lst da_nil) (nomark _)) (dss_one (ds_set 3 sc_l_words_right.nd (by exact rfl) (by first | exact Or.inl rfl | exact Or.inr rfl) (de_callTy call_list_of cs_list (by exact rfl) n_list bt_list (da_cons (de_var 1 (by exact rfl) (by first | exact Or.inl rfl | exact Or.inr (Or.inl rfl) | exact Or.inr (Or.inr rfl))) da_nil)))) dss_nil)
    (dss_cons (ds_setLc (by exact rfl) sc_l_words_right.nd (by exact rfl) (by exact rfl) (sw_true (by exact rfl) (by exact rfl) (by exact rfl) (by exact rfl)) (di_range1 (by exact rfl) n_range (de_cal c_l_digit (by exact rfl) (by exact rfl) hg hr (by decide) ht (da_cons (de_var 0 (by exact rfl) (by first | exact Or.inl rfl | exact Or.inr (Or.inl rfl) | exact Or.inr (Or.inr rfl))) (da_cons de_int da_nil)))) (blkOk_by (own := [("_law_turn", 11)]) (by exact rfl)) (fun _ _ _ _ _ => (dtg_name 11 sc_l_words_right.nd (by exact rfl) (by first | exact Or.inl rfl | exact Or.inr rfl))) (fun _ _ _ _ _ => dts_nil) (fun _ _ _ _ _ => (de_cal c_l_pick (by exact rfl) (by exact rfl) hg hr (by decide) takes_wno (da_cons (de_var 0 (by exact rfl) (by first | exact Or.inl rfl | exact Or.inr (Or.inl rfl) | exact Or.inr (Or.inr rfl))) (da_cons (de_var 3 (by exact rfl) (by first | exact Or.inl rfl | exact Or.inr (Or.inl rfl) | exact Or.inr (Or.inr rfl))) da_nil)))) (by decide))
    (dss_cons (ds_set 5 sc_l_words_right.nd (by exact rfl) (by first | exact Or.inl rfl | exact Or.inr rfl) (de_cal c_l_digit (by exact rfl) (by exact rfl) hg hr (by decide) ht (da_cons (de_var 0 (by exact rfl) (by first | exact Or.inl rfl | exact Or.inr (Or.inl rfl) | exact Or.inr (Or.inr rfl))) (da_cons (de_op oAdd sAdd (de_callB call_len' cs_len (by exact rfl) n_len bt_len (da_cons (de_var 4 (by exact rfl) (by first | exact Or.inl rfl | exact Or.inr (Or.inl rfl) | exact Or.inr (Or.inr rfl))) da_nil)) de_int) da_nil))))
    (dss_cons (ds_setL 6 sc_l_words_right.nd (by exact rfl) (by first | exact Or.inl rfl | exact Or.inr rfl) (da_cons (de_var 4 (by exact rfl) (by first | exact Or.inl rfl | exact Or.inr (Or.inl rfl) | exact Or.inr (Or.inr rfl))) (da_cons (de_callTy call_tuple_of cs_tuple (by exact rfl) n_tuple bt_tuple (da_cons (de_var 4 (by exact rfl) (by first | exact Or.inl rfl | exact Or.inr (Or.inl rfl) | exact Or.inr (Or.inr rfl))) da_nil)) (da_cons (de_op oAdd sAdd (de_op oAdd sAdd (de_slice (de_var 4 (by exact rfl) (by first | exact Or.inl rfl | exact Or.inr (Or.inl rfl) | exact Or.inr (Or.inr rfl))) dp_none (dp_some (de_var 5 (by exact rfl) (by first | exact Or.inl rfl | exact Or.inr (Or.inl rfl) | exact Or.inr (Or.inr rfl))))) (de_lst (da_cons (de_cal c_l_odd (by exact rfl) (by exact rfl) hg hr (by decide) ht (da_cons (de_var 0 (by exact rfl) (by first | exact Or.inl rfl | exact Or.inr (Or.inl rfl) | exact Or.inr (Or.inr rfl))) da_nil)) da_nil))) (de_slice (de_var 4 (by exact rfl) (by first | exact Or.inl rfl | exact Or.inr (Or.inl rfl) | exact Or.inr (Or.inr rfl))) (dp_some (de_var 5 (by exact rfl) (by first | exact Or.inl rfl | exact Or.inr (Or.inl rfl) | exact Or.inr (Or.inr rfl)))) dp_none)) (da_cons (de_op oAdd sAdd (de_var 4 (by exact rfl) (by first | exact Or.inl rfl | exact Or.inr (Or.inl rfl) | exact Or.inr (Or.inr rfl))) (de_cal c_l_names (by exact rfl) (by exact rfl) hg hr (by decide) ht (da_cons (de_var 0 (by exact rfl) (by first | exact Or.inl rfl | exact Or.inr (Or.inl rfl) | exact Or.inr (Or.inr rfl))) (da_cons de_int (da_cons (de_var 3 (by exact rfl) (by first | exact Or.inl rfl | exact Or.inr (Or.inl rfl) | exact Or.inr (Or.inr rfl))) da_nil))))) da_nil)))))
    (dss_cons (ds_app 6 (by exact rfl) (by first | exact Or.inl rfl | exact Or.inr (Or.inl rfl) | exact Or.inr (Or.inr rfl)) (de_cal c_l_odd (by exact rfl) (by exact rfl) hg hr (by decide) ht (da_cons (de_var 0 (by exact rfl) (by first | exact Or.inl rfl | exact Or.inr (Or.inl rfl) | exact Or.inr (Or.inr rfl))) da_nil)))
    (dss_frz 6 (dss_cons (ds_for hp (by exact rfl) (di_val (de_var 6 (by exact rfl) (by first | exact Or.inl rfl | exact Or.inr (Or.inl rfl) | exact Or.inr (Or.inr rfl)))) (dtg_name 7 sc_l_words_right.nd (by exact rfl) (by first | exact Or.inl rfl | exact Or.inr rfl)) (dss_cons (ds_set 8 sc_l_words_right.nd (by exact rfl) (by first | exact Or.inl rfl | exact Or.inr rfl) (de_and (de_callB call_isiA cs_isi (by exact rfl) n_isinstance bt_isinstance (da_cons (de_var 7 (by exact rfl) (by first | exact Or.inl rfl | exact Or.inr (Or.inl rfl) | exact Or.inr (Or.inr rfl))) (da_cons (de_tup (da_cons (de_ty (by exact rfl) n_list bt_list) (da_cons (de_ty (by exact rfl) n_tuple bt_tuple) da_nil))) da_nil))) (de_one (de_callB (cr_all (by exact rfl)) cs_Q (by exact rfl) n_all bt_all (da_cons (de_lc (by exact rfl) sc_l_words_right.nd (di_val (de_var 7 (by exact rfl) (by first | exact Or.inl rfl | exact Or.inr (Or.inl rfl) | exact Or.inr (Or.inr rfl)))) (blkOk_by (own := [("_law_one", 12)]) (by exact rfl)) (fun _ _ _ _ _ => (dtg_name 12 sc_l_words_right.nd (by exact rfl) (by first | exact Or.inl rfl | exact Or.inr rfl))) (fun _ _ _ _ _ => dts_nil) (fun _ _ _ _ _ => (de_and (de_cal c_l_is_name (by exact rfl) (by exact rfl) hg hr (by decide) takes_wno (da_cons (de_var 12 (by exact rfl) (by first | exact Or.inl rfl | exact Or.inr (Or.inl rfl) | exact Or.inr (Or.inr rfl))) da_nil)) (de_one (de_cmp (oIn (u_of hr (by decide))) (sIn hk) (de_var 12 (by exact rfl) (by first | exact Or.inl rfl | exact Or.inr (Or.inl rfl) | exact Or.inr (Or.inr rfl))) (de_var 3 (by exact rfl) (by first | exact Or.inl rfl | exact Or.inr (Or.inl rfl) | exact Or.inr (Or.inr rfl))) (by exact rfl))))) (by decide)) da_nil)))))
    (dss_cons (ds_set 9 sc_l_words_right.nd (by exact rfl) (by first | exact Or.inl rfl | exact Or.inr rfl) (de_if (dt_cmp (oEq (u_of hr (by decide))) (sEq hk) (de_var 2 (by exact rfl) (by first | exact Or.inl rfl | exact Or.inr (Or.inl rfl) | exact Or.inr (Or.inr rfl))) (de_lst da_nil) (nomark _)) (de_var 8 (by exact rfl) (by first | exact Or.inl rfl | exact Or.inr (Or.inl rfl) | exact Or.inr (Or.inr rfl))) (de_var 2 (by exact rfl) (by first | exact Or.inl rfl | exact Or.inr (Or.inl rfl) | exact Or.inr (Or.inr rfl)))))
    (dss_cons (ds_set 10 sc_l_words_right.nd (by exact rfl) (by first | exact Or.inl rfl | exact Or.inr rfl) (de_callB (call_repr hg (u_of hr (by decide))) (cs_repr hk) (by exact rfl) n_repr bt_repr (da_cons (de_lst (da_cons (de_var 1 (by exact rfl) (by first | exact Or.inl rfl | exact Or.inr (Or.inl rfl) | exact Or.inr (Or.inr rfl))) (da_cons (de_var 7 (by exact rfl) (by first | exact Or.inl rfl | exact Or.inr (Or.inl rfl) | exact Or.inr (Or.inr rfl))) da_nil))) da_nil)))
    (dss_cons (ds_if (dt_cmp (oNeP (u_of hr (by decide))) (sNe hk) (de_lst (da_cons (de_cal c_l_told (by exact rfl) (by exact rfl) hg hr (by decide) ht (da_cons (de_var 1 (by exact rfl) (by first | exact Or.inl rfl | exact Or.inr (Or.inl rfl) | exact Or.inr (Or.inr rfl))) (da_cons (de_var 7 (by exact rfl) (by first | exact Or.inl rfl | exact Or.inr (Or.inl rfl) | exact Or.inr (Or.inr rfl))) (da_cons de_bl da_nil)))) (da_cons (de_cal c_l_told (by exact rfl) (by exact rfl) hg hr (by decide) ht (da_cons (de_var 1 (by exact rfl) (by first | exact Or.inl rfl | exact Or.inr (Or.inl rfl) | exact Or.inr (Or.inr rfl))) (da_cons (de_var 7 (by exact rfl) (by first | exact Or.inl rfl | exact Or.inr (Or.inl rfl) | exact Or.inr (Or.inr rfl))) (da_cons de_bl da_nil)))) da_nil))) (de_op oMul sMul (de_lst (da_cons (de_callB (call_repr hg (u_of hr (by decide))) (cs_repr hk) (by exact rfl) n_repr bt_repr (da_cons (de_var 9 (by exact rfl) (by first | exact Or.inl rfl | exact Or.inr (Or.inl rfl) | exact Or.inr (Or.inr rfl))) da_nil)) da_nil)) de_int) (nomark _)) (dss_one (ds_ret de_bl)) dss_nil)
    (dss_one (ds_if (dt_cmp (oNeP (u_of hr (by decide))) (sNe hk) (de_callB (call_repr hg (u_of hr (by decide))) (cs_repr hk) (by exact rfl) n_repr bt_repr (da_cons (de_lst (da_cons (de_var 1 (by exact rfl) (by first | exact Or.inl rfl | exact Or.inr (Or.inl rfl) | exact Or.inr (Or.inr rfl))) (da_cons (de_var 7 (by exact rfl) (by first | exact Or.inl rfl | exact Or.inr (Or.inl rfl) | exact Or.inr (Or.inr rfl))) da_nil))) da_nil)) (de_var 10 (by exact rfl) (by first | exact Or.inl rfl | exact Or.inr (Or.inl rfl) | exact Or.inr (Or.inr rfl))) (nomark _)) (dss_one (ds_ret de_bl)) dss_nil)))))))
    (dss_one (ds_ret de_bl))))))))))
/-! ### law -/
abbrev st_law : Stmt := top 32
def fb_law : DM Fl :=
  (sSeq (sFor (iR1 ((dBi gMax (dArgs (dC (.int 1)) (dArgs ((dBi gMin (dArgs (dC (.int 6)) (dArgs ((dBi gLen (dArgs (dVar 0) (dArgs0)))) (dArgs0))))) (dArgs0)))))) (.one 1)
    ((sSeq (sSet 2 ((dCall 2 m_l_pot (dArgs (dVar 0) (dArgs (dVar 1) (dArgs0))))))
    (sFor (iR1 (dC (.int 4))) (.one 3)
    ((sSeq (sSet 4 ((dLst (dArgs ((dCall 1 m_l_listed (dArgs (dVar 2) (dArgs0)))) (dArgs ((dCall 1 m_l_odd (dArgs (dVar 2) (dArgs0)))) (dArgs ((dOp gIx ((dCall 3 m_l_names (dArgs (dVar 2) (dArgs (dC (.int 1)) (dArgs ((dLst (dArgs0))) (dArgs0)))))) (dC (.int 0)))) (dArgs ((dOp gSub ((dCall 2 m_l_digit (dArgs (dVar 2) (dArgs (dC (.int 99)) (dArgs0))))) (dC (.int 40)))) (dArgs0))))))))
    ((sSeq (sIf (dNot (dB ((dBi gAll (dArgs ((dLc (iV (dVar 4)) (.one 6) dTr ((dCall 1 m_l_judged (dArgs (dVar 6) (dArgs0)))) [6])) (dArgs0)))))) (sRet (dC (.bl false))) (sNil))
    (sIf (dOr (dNot (dB ((dCall 2 m_l_words_right (dArgs (dVar 2) (dArgs ((dOp gIx (dVar 4) (dC (.int 0)))) (dArgs0))))))) (dNot (dB ((dCall 2 m_l_words_right (dArgs (dVar 2) (dArgs ((dOp gIx (dVar 4) (dC (.int 1)))) (dArgs0)))))))) (sRet (dC (.bl false))) (sNil))))))))))
    ((sSeq (sSet 5 ((dLst (dArgs (dC (.str "a")) (dArgs (dC (.str "b")) (dArgs (dC (.str "c")) (dArgs (dC (.str "d")) (dArgs (dC (.str "e")) (dArgs (dC (.str "f")) (dArgs (dC (.str "g")) (dArgs (dC (.str "h")) (dArgs0))))))))))))
    (sRet ((dBi gAll (dArgs ((dLc (iV ((dLst (dArgs (dVar 5) (dArgs ((dOp gAdd (dVar 5) ((dLst (dArgs (dC (.str "i")) (dArgs0)))))) (dArgs ((dBi gTuple (dArgs (dVar 5) (dArgs0)))) (dArgs ((dOp gAdd ((dSl (dVar 5) dPt0 (dPt1 (dC (.int 7))))) ((dLst (dArgs (dC (.str "a")) (dArgs0)))))) (dArgs ((dLst (dArgs (dC (.bl true)) (dArgs0)))) (dArgs ((dLst (dArgs (dC (.int 1)) (dArgs0)))) (dArgs0)))))))))) (.one 6) dTr ((dCall 1 m_l_judged (dArgs (dVar 6) (dArgs0)))) [6])) (dArgs0))))))))
def m_law : List Sv → Led → Res Dv := mOf 7 fb_law
theorem sc_law : FnScope ["_law_script", "_law_k", "_law_pot_here", "_law_turn", "_law_some", "_law_eight", "_law_given"] ["_law_script"] (defScope st_law) := ⟨rfl, rfl, rfl, by decide +kernel, rfl, by decide +kernel, by decide +kernel⟩
theorem cal_law {P : Program} {w : World} {K : PySem.W.Frag} {mg : Str → Option Value} {base : Heap}  (hk : SysK K) (D : DefAt K mg "law" "law" st_law) (c_l_pot : Cal P w K mg base 1 "_law_pot" "_law_pot" st_l_pot ["_law_script", "_law_k"] m_l_pot) (c_l_digit : Cal P w K mg base 1 "_law_digit" "_law_digit" st_l_digit ["_law_pot_here", "_law_many"] m_l_digit) (c_l_names : Cal P w K mg base 3 "_law_names" "_law_names" st_l_names ["_law_pot_here", "_law_many", "_law_used"] m_l_names) (c_l_odd : Cal P w K mg base 3 "_law_odd" "_law_odd" st_l_odd ["_law_pot_here"] m_l_odd) (c_l_listed : Cal P w K mg base 4 "_law_listed" "_law_listed" st_l_listed ["_law_pot_here"] m_l_listed) (c_l_judged : Cal P w K mg base 4 "_law_judged" "_law_judged" st_l_judged ["_law_given"] m_l_judged) (c_l_words_right : Cal P w K mg base 6 "_law_words_right" "_law_words_right" st_l_words_right ["_law_pot_here", "_law_symbols"] m_l_words_right) (n_all : mg "all" = none) (n_len : mg "len" = none) (n_max : mg "max" = none) (n_min : mg "min" = none) (n_range : mg "range" = none) (n_tuple : mg "tuple" = none) :
    Cal P w K mg base 7 "law" "law" st_law ["_law_script"] m_law :=
  cal_of D sc_law (fun F => F.binds (ps := ["_law_script"]) fun _ _ _ _ _ _ us hl => match us, hl with | [_], _ => rfl) fun m W hg hr ht hp => by
  exact (dss_cons (ds_for hp (by exact rfl) (di_range1 (by exact rfl) n_range (de_callB (call_max2 (by exact rfl)) cs_2I (by exact rfl) n_max bt_max (da_cons de_int (da_cons (de_callB (call_min2 (by exact rfl)) cs_2I (by exact rfl) n_min bt_min (da_cons de_int (da_cons (de_callB call_len' cs_len (by exact rfl) n_len bt_len (da_cons (de_var 0 (by exact rfl) (by first | exact Or.inl rfl | exact Or.inr (Or.inl rfl) | exact Or.inr (Or.inr rfl))) da_nil)) da_nil))) da_nil)))) (dtg_name 1 sc_law.nd (by exact rfl) (by first | exact Or.inl rfl | exact Or.inr rfl)) (dss_cons (ds_set 2 sc_law.nd (by exact rfl) (by first | exact Or.inl rfl | exact Or.inr rfl) (de_cal c_l_pot (by exact rfl) (by exact rfl) hg hr (by decide) ht (da_cons (de_var 0 (by exact rfl) (by first | exact Or.inl rfl | exact Or.inr (Or.inl rfl) | exact Or.inr (Or.inr rfl))) (da_cons (de_var 1 (by exact rfl) (by first | exact Or.inl rfl | exact Or.inr (Or.inl rfl) | exact Or.inr (Or.inr rfl))) da_nil))))
    (dss_one (ds_for hp (by exact rfl) (di_range1 (by exact rfl) n_range de_int) (dtg_name 3 sc_law.nd (by exact rfl) (by first | exact Or.inl rfl | exact Or.inr rfl)) (dss_cons (ds_set 4 sc_law.nd (by exact rfl) (by first | exact Or.inl rfl | exact Or.inr rfl) (de_lst (da_cons (de_cal c_l_listed (by exact rfl) (by exact rfl) hg hr (by decide) ht (da_cons (de_var 2 (by exact rfl) (by first | exact Or.inl rfl | exact Or.inr (Or.inl rfl) | exact Or.inr (Or.inr rfl))) da_nil)) (da_cons (de_cal c_l_odd (by exact rfl) (by exact rfl) hg hr (by decide) ht (da_cons (de_var 2 (by exact rfl) (by first | exact Or.inl rfl | exact Or.inr (Or.inl rfl) | exact Or.inr (Or.inr rfl))) da_nil)) (da_cons (de_sub (de_cal c_l_names (by exact rfl) (by exact rfl) hg hr (by decide) ht (da_cons (de_var 2 (by exact rfl) (by first | exact Or.inl rfl | exact Or.inr (Or.inl rfl) | exact Or.inr (Or.inr rfl))) (da_cons de_int (da_cons (de_lst da_nil) da_nil)))) de_int (fun _ _ => (by exact rfl))) (da_cons (de_op op_sub sSub (de_cal c_l_digit (by exact rfl) (by exact rfl) hg hr (by decide) ht (da_cons (de_var 2 (by exact rfl) (by first | exact Or.inl rfl | exact Or.inr (Or.inl rfl) | exact Or.inr (Or.inr rfl))) (da_cons de_int da_nil))) de_int) da_nil))))))
    (dss_cons (ds_if (dt_not (dt_val (de_callB (cr_all (by exact rfl)) cs_Q (by exact rfl) n_all bt_all (da_cons (de_lc (by exact rfl) sc_law.nd (di_val (de_var 4 (by exact rfl) (by first | exact Or.inl rfl | exact Or.inr (Or.inl rfl) | exact Or.inr (Or.inr rfl)))) (blkOk_by (own := [("_law_given", 6)]) (by exact rfl)) (fun _ _ _ _ _ => (dtg_name 6 sc_law.nd (by exact rfl) (by first | exact Or.inl rfl | exact Or.inr rfl))) (fun _ _ _ _ _ => dts_nil) (fun _ _ _ _ _ => (de_cal c_l_judged (by exact rfl) (by exact rfl) hg hr (by decide) takes_wno (da_cons (de_var 6 (by exact rfl) (by first | exact Or.inl rfl | exact Or.inr (Or.inl rfl) | exact Or.inr (Or.inr rfl))) da_nil))) (by decide)) da_nil)))) (dss_one (ds_ret de_bl)) dss_nil)
    (dss_one (ds_if (PW.pt (dw_or (dt_not (dt_val (de_cal c_l_words_right (by exact rfl) (by exact rfl) hg hr (by decide) ht (da_cons (de_var 2 (by exact rfl) (by first | exact Or.inl rfl | exact Or.inr (Or.inl rfl) | exact Or.inr (Or.inr rfl))) (da_cons (de_sub (de_var 4 (by exact rfl) (by first | exact Or.inl rfl | exact Or.inr (Or.inl rfl) | exact Or.inr (Or.inr rfl))) de_int (fun _ _ => (by exact rfl))) da_nil))))) (dw_or1 (dt_not (dt_val (de_cal c_l_words_right (by exact rfl) (by exact rfl) hg hr (by decide) ht (da_cons (de_var 2 (by exact rfl) (by first | exact Or.inl rfl | exact Or.inr (Or.inl rfl) | exact Or.inr (Or.inr rfl))) (da_cons (de_sub (de_var 4 (by exact rfl) (by first | exact Or.inl rfl | exact Or.inr (Or.inl rfl) | exact Or.inr (Or.inr rfl))) de_int (fun _ _ => (by exact rfl))) da_nil)))))))) (dss_one (ds_ret de_bl)) dss_nil))))))))
    (dss_cons (ds_set 5 sc_law.nd (by exact rfl) (by first | exact Or.inl rfl | exact Or.inr rfl) (de_lst (da_cons de_str (da_cons de_str (da_cons de_str (da_cons de_str (da_cons de_str (da_cons de_str (da_cons de_str (da_cons de_str da_nil))))))))))
    (dss_one (ds_ret (de_callB (cr_all (by exact rfl)) cs_Q (by exact rfl) n_all bt_all (da_cons (de_lc (by exact rfl) sc_law.nd (di_val (de_lst (da_cons (de_var 5 (by exact rfl) (by first | exact Or.inl rfl | exact Or.inr (Or.inl rfl) | exact Or.inr (Or.inr rfl))) (da_cons (de_op oAdd sAdd (de_var 5 (by exact rfl) (by first | exact Or.inl rfl | exact Or.inr (Or.inl rfl) | exact Or.inr (Or.inr rfl))) (de_lst (da_cons de_str da_nil))) (da_cons (de_callTy call_tuple_of cs_tuple (by exact rfl) n_tuple bt_tuple (da_cons (de_var 5 (by exact rfl) (by first | exact Or.inl rfl | exact Or.inr (Or.inl rfl) | exact Or.inr (Or.inr rfl))) da_nil)) (da_cons (de_op oAdd sAdd (de_slice (de_var 5 (by exact rfl) (by first | exact Or.inl rfl | exact Or.inr (Or.inl rfl) | exact Or.inr (Or.inr rfl))) dp_none (dp_some de_int)) (de_lst (da_cons de_str da_nil))) (da_cons (de_lst (da_cons de_bl da_nil)) (da_cons (de_lst (da_cons de_int da_nil)) da_nil)))))))) (blkOk_by (own := [("_law_given", 6)]) (by exact rfl)) (fun _ _ _ _ _ => (dtg_name 6 sc_law.nd (by exact rfl) (by first | exact Or.inl rfl | exact Or.inr rfl))) (fun _ _ _ _ _ => dts_nil) (fun _ _ _ _ _ => (de_cal c_l_judged (by exact rfl) (by exact rfl) hg hr (by decide) takes_wno (da_cons (de_var 6 (by exact rfl) (by first | exact Or.inl rfl | exact Or.inr (Or.inl rfl) | exact Or.inr (Or.inr rfl))) da_nil))) (by decide)) da_nil))))))
end K11

namespace K11
open PySem PySem.Spec PyProof.Rows L2 DL
theorem pow18 : CPow 10 18 := by decide +kernel
theorem digit_ok {L : Led} {p : Nat} {n : Int} (hp : PotAt L p) (h0 : 0 < n) (h1 : n < 2 ^ 70) : ∃ r L', m_l_digit [.val (.own p), .val (.int n)] L = .ok (.int r) L' ∧ 0 ≤ r ∧ r < n ∧ PotAt L' p := by
  obtain ⟨a, b, e, ha, hb, hb2⟩ := hp
  have hlt : p < L.length := (List.getElem?_eq_some_iff.mp e).1
  unfold m_l_digit
  rw [mOf_eq]
  show ∃ r L', endOf (fb_l_digit [some (.val (.own p)), some (.val (.int n)), none] L) = _ ∧ _
  by_cases hpos : 0 < a
  · have hc : CDivP a n := cdivp_of h0 h1
    refine ⟨a % n, L.set p (.lst [.int (a / n), .int b]), ?_, Int.emod_nonneg _ (by omega), Int.emod_lt_of_pos _ h0, PotAt.set hlt (Int.ediv_nonneg ha (by omega)) hb hb2⟩
    simp [fb_l_digit, pot_get0 e, pot_set0 e, hpos, hc]
  · have ha0 : a = 0 := by omega
    subst ha0
    have s1 : DL.small64 39373 := by decide
    have hv : ∃ v : Int, v = (b * 39373 + 15017) % 2147483629 := ⟨_, rfl⟩
    obtain ⟨v, hv⟩ := hv
    have v0 : 0 ≤ v := by omega
    have v1 : v < 2 ^ 31 := by omega
    have s2 : DL.small64 v := ⟨by omega, by omega⟩
    have c13 : ∀ z : Int, CDiv z 13 := fun z => by constructor <;> decide
    refine ⟨v * v % 2147483563 / 13 % n, L.set p (.lst [.int 0, .int v]), ?_, Int.emod_nonneg _ (by omega), Int.emod_lt_of_pos _ h0, PotAt.set hlt (Int.le_refl 0) v0 v1⟩
    simp [fb_l_digit, pot_get0 e, pot_get1 e, pot_set1 e, s1, ← hv, pot_get1s hlt, s2, c13, h0]
/-- a new pot, at the ledger's end -/
theorem pot_ok {L : Led} {ns : List Int} {k : Nat} (hk : k < 6) (hn : ns.length ≤ 63) : ∃ L', m_l_pot [.val (.scr ns), .val (.int k)] L = .ok (.own L.length) L' ∧ PotAt L' L.length := by
  unfold m_l_pot
  rw [mOf_eq]
  show ∃ L', endOf (fb_l_pot [some (.val (.scr ns)), some (.val (.int k)), none] L) = _ ∧ _
  have s1 : DL.small64 48271 := by decide
  have s2 : DL.small64 70001 := by decide
  have key : ∀ c : Int, 0 ≤ c → ∃ a b : Int, 0 ≤ a ∧ 0 ≤ b ∧ b < 2 ^ 31 ∧ a = (if c - 10 ^ 18 > 0 then c - 10 ^ 18 else 0) ∧ b = (c % 2147483587 * 48271 + 70001 * k + 61) % 2147483647 := fun c hc => ⟨_, _, by split <;> omega, by omega, by omega, rfl, rfl⟩
  by_cases hlt : (k : Int) < ns.length
  · have hlt' : k < ns.length := by omega
    have hget : gIx (.val (.scr ns)) (.val (.int (k : Int))) L = some (.val (.int ns[k])) := by
      simp [gIx, Sv.seqL, L2.atI, ixN, hlt, hlt']
    obtain ⟨a, b, ha, hb, hb2, ea, eb⟩ := key (if ns[k] < 0 then -ns[k] else ns[k]) (by split <;> omega)
    refine ⟨L ++ [.lst [.int a, .int b]], ?_, a, b, by simp, ha, hb, hb2⟩
    simp [fb_l_pot, gLen, Sv.seqL, hlt, hlt', hget, pow18, s1, s2, ea, eb, sizeLine_eq]
  · obtain ⟨a, b, ha, hb, hb2, ea, eb⟩ := key 0 (Int.le_refl 0)
    refine ⟨L ++ [.lst [.int a, .int b]], ?_, a, b, by simp, ha, hb, hb2⟩
    simp [fb_l_pot, gLen, Sv.seqL, hlt, pow18, s1, s2, ea, eb, sizeLine_eq]
/-! ### picks -/
theorem pick_l {L : Led} {p : Nat} {xs : List Dv} (hp : PotAt L p) (hx : xs ≠ []) (hl : xs.length < 2 ^ 60) : ∃ d L', m_l_pick [.val (.own p), .val (.lst xs)] L = .ok d L' ∧ d ∈ xs ∧ PotAt L' p := by
  have h0 : 0 < xs.length := List.length_pos_iff.mpr hx
  obtain ⟨r, L', e, r0, r1, hp'⟩ := digit_ok (n := xs.length) hp (by omega) (by omega)
  obtain ⟨d, hd, _, ed⟩ := ix_l r0 r1
  refine ⟨d, L', ?_, hd, hp'⟩
  unfold m_l_pick
  rw [mOf_eq]
  show endOf (fb_l_pick [some (.val (.own p)), some (.val (.lst xs))] L) = _
  simp [fb_l_pick, e, ed]
theorem pick_s {L : Led} {p : Nat} {z : Str} (hp : PotAt L p) (h0 : 0 < z.length) (hl : z.length < 2 ^ 60) : ∃ c L', m_l_pick [.val (.own p), .val (.str z)] L = .ok (.str ⟨#[c]⟩) L' ∧ c ∈ z.cps.toList ∧ PotAt L' p := by
  obtain ⟨r, L', e, r0, r1, hp'⟩ := digit_ok (n := z.length) hp (by omega) (by omega)
  obtain ⟨c, hc, ed⟩ := ix_s r0 r1
  refine ⟨c, L', ?_, hc, hp'⟩
  unfold m_l_pick
  rw [mOf_eq]
  show endOf (fb_l_pick [some (.val (.own p)), some (.val (.str z))] L) = _
  simp [fb_l_pick, e, ed]
/-! ### odd values -/
theorem odd_ok {L : Led} {p : Nat} (hp : PotAt L p) : ∃ d L', m_l_odd [.val (.own p)] L = .ok d L' ∧ OkB 20 3 d ∧ PotAt L' p := by
  obtain ⟨r, L1, e1, r0, r1, hp1⟩ := digit_ok (n := 10 ^ 20) hp (by decide) (by decide)
  have c20 : CPow 10 20 := by decide +kernel
  have c29 : CPow 10 29 := by decide +kernel
  have e1' : m_l_digit [.val (.own p), .val (.int 100000000000000000000)] L = .ok (.int r) L1 := e1
  obtain ⟨d, L2, e2, hd, hp2⟩ := pick_l (xs := [.non, .bl true, .bl false, .int 0, .int 1, .int (-1), .int r, .int (-1 - r), .int 100000000000000000000000000000, .int (-100000000000000000000000000000), .str "", .str "A", .str "a b", .str "ninechars", .str "a1", .str "eightsig", .str "z", .str "-", .str "1", .str " a", .str "a\n", .lst [], .tup [], .dic [], .lst [.str "a"], .tup [.str "a"], .dic [(.inr "a", .int 1)], .lst [.lst [.str "a"]], .tup [.str "a", .str "b"]]) hp1 (by simp) (by simp)
  refine ⟨d, L2, ?_, ?_, hp2⟩
  · unfold m_l_odd
    rw [mOf_eq]
    show endOf (fb_l_odd [some (.val (.own p)), none, none] L) = _
    have k1 : keyd [(.val (.str (Str.ofString "a")), .val (.int 1))] = some [(.inr (Str.ofString "a"), .int 1)] := rfl
    have k2 : mergeD [] [(.inr (Str.ofString "a"), .int 1)] = [(.inr (Str.ofString "a"), .int 1)] := rfl
    simp [fb_l_odd, c20, c29, e1', sizeLine_eq, k1, k2, e2]
  · have a1 : r.natAbs < 10 ^ 40 := by omega
    have a2 : (-1 - r).natAbs < 10 ^ 40 := by omega
    simp only [List.mem_cons, List.not_mem_nil, or_false] at hd
    rcases hd with rfl | rfl | rfl | rfl | rfl | rfl | rfl | rfl | rfl | rfl | rfl | rfl | rfl | rfl | rfl | rfl | rfl | rfl | rfl | rfl | rfl | rfl | rfl | rfl | rfl | rfl | rfl | rfl | rfl
    all_goals first
      | exact ⟨by decide +kernel, by decide +kernel, by decide +kernel⟩
      | exact ⟨by simpa [Dv.leaf] using a1, Nat.zero_le _, Nat.zero_le _⟩
      | exact ⟨by simpa [Dv.leaf] using a2, Nat.zero_le _, Nat.zero_le _⟩
/-! ### names -/
/-- a short text -/
def Sh (z : Str) : Prop := z.length ≤ 8 ∧ chOk z = true
def al : List Nat := (List.range 26).map (· + 97)
theorem letters_cps : (Str.ofString "abcdefghijklmnopqrstuvwxyz").cps.toList = al := by decide +kernel
def prs52 : List (Nat × Nat) := (al ++ al).zip (al.reverse ++ al)
theorem zip_maps {α β γ δ ε : Type} (f : γ → δ → ε) (g : α → γ) (g' : β → δ) : ∀ (l : List α) (l' : List β), List.zipWith f (l.map g) (l'.map g') = (l.zip l').map fun p => f (g p.1) (g' p.2)
  | [], _ => rfl
  | _ :: _, [] => rfl
  | a :: l, b :: l' => by simp [zip_maps f g g' l l']
theorem letters_len : (Str.ofString "abcdefghijklmnopqrstuvwxyz").length = 26 := by decide +kernel
/-- the variants of a word -/
def vr (w : Str) (p : Nat × Nat) : Str := cutS w none (some 6) ++ (⟨#[p.1]⟩ : Str) ++ (⟨#[p.2]⟩ : Str)
theorem vr_inj {w : Str} {p q : Nat × Nat} (h : vr w p = vr w q) : p = q := by
  have h' : (vr w p).cps.toList = (vr w q).cps.toList := by rw [h]
  have e : ∀ r, (vr w r).cps.toList = (cutS w none (some 6)).cps.toList ++ [r.1, r.2] := by
    intro r
    show (((cutS w none (some 6)).cps ++ #[r.1]) ++ #[r.2]).toList = _
    simp
  rw [e, e] at h'
  have := List.append_cancel_left h'
  simp at this
  exact Prod.ext this.1 this.2
theorem nodup52 : prs52.Nodup := by decide +kernel
theorem some_fresh (w : Str) (ys : List Str) (h : ys.length < 52) : ∃ p ∈ prs52, vr w p ∉ ys := by
  apply Classical.byContradiction
  intro hn
  have hs : ∀ p ∈ prs52, vr w p ∈ ys := fun p hp => Classical.byContradiction fun h => hn ⟨p, hp, h⟩
  have nd : (prs52.map (vr w)).Nodup := by
    rw [List.Nodup, List.pairwise_map]
    exact nodup52.imp fun hne he => hne (vr_inj he)
  have hsub : (prs52.map (vr w)) ⊆ ys := by
    intro z hz
    obtain ⟨p, hp, rfl⟩ := List.mem_map.mp hz
    exact hs p hp
  have hle := nd.length_le_of_subset hsub
  have h52 : (prs52.map (vr w)).length = 52 := by rw [List.length_map]; decide +kernel
  omega
theorem sh_common : ∀ d ∈ ["state", "reader", "entries", "limit", "alphabet", "read", "append", "a", "count", "tell", "zzzzzzzz"].map (fun x : String => Dv.str (Str.ofString x)), ∃ w, d = .str w ∧ Sh w := by
  intro d hd
  simp only [List.map_cons, List.map_nil, List.mem_cons, List.not_mem_nil, or_false] at hd
  rcases hd with rfl | rfl | rfl | rfl | rfl | rfl | rfl | rfl | rfl | rfl | rfl
  all_goals exact ⟨_, rfl, by decide +kernel, by decide +kernel⟩
theorem sh_join {cs : List Nat} (hl : cs.length ≤ 8) (hc : ∀ c ∈ cs, c ∈ al) : Sh (Txt.join (Str.ofString "") (cs.map fun c => (⟨#[c]⟩ : Str))) := by
  refine ⟨?_, ?_⟩
  · show (Txt.join (Str.ofString "") (cs.map fun c => (⟨#[c]⟩ : Str))).cps.size ≤ 8
    rw [← Array.length_toList, join_cps]
    exact hl
  · unfold chOk
    rw [join_cps]
    simp only [List.all_eq_true, decide_eq_true_eq]
    intro c h
    have h' := hc c h
    have ha : ∀ c ∈ al, c < 16 ^ 8 := by decide +kernel
    exact ha c h'
theorem sh_vr {w : Str} (hw : Sh w) {p : Nat × Nat} (hp : p ∈ prs52) : Sh (vr w p) := by
  have hq : ∀ p ∈ prs52, p.1 < 16 ^ 8 ∧ p.2 < 16 ^ 8 := by decide +kernel
  obtain ⟨h1, h2⟩ := hq p hp
  have e : (vr w p).cps.toList = (cutS w none (some 6)).cps.toList ++ [p.1, p.2] := by
    show (((cutS w none (some 6)).cps ++ #[p.1]) ++ #[p.2]).toList = _
    simp
  have e6 : (cutS w none (some 6)).cps.toList = w.cps.toList.take 6 := by
    show ((w.cps.toList.drop 0).take (min 6 w.length - 0)) = _
    simp only [List.drop_zero, Nat.sub_zero]
    rw [show w.length = w.cps.toList.length from rfl, ← List.take_eq_take_min]
  refine ⟨?_, ?_⟩
  · show (vr w p).cps.size ≤ 8
    rw [← Array.length_toList, e, e6]
    simp
    omega
  · have hc := hw.2
    unfold chOk at hc ⊢
    rw [e, e6]
    simp only [List.all_append, Bool.and_eq_true, List.all_eq_true, decide_eq_true_eq] at hc ⊢
    refine ⟨fun c h => hc c (List.mem_of_mem_take h), ?_⟩
    intro c h
    simp at h
    rcases h with rfl | rfl <;> assumption
/-! the body of names' loop -/
def nbA : DM Fl := sSet 7 ((dCall 2 m_l_pick (dArgs (dVar 0) (dArgs (dVar 5) (dArgs0)))))
def nbB : DM Fl := (sIf (dB (dOp (gCmp fun i j => decide (j < i)) ((dCall 2 m_l_digit (dArgs (dVar 0) (dArgs (dC (.int 3)) (dArgs0))))) (dC (.int 0)))) (sSet 7 ((dM1 gJoin (dC (.str "")) ((dLc (iR1 ((dOp gIx ((dLst (dArgs (dC (.int 1)) (dArgs (dC (.int 2)) (dArgs (dC (.int 3)) (dArgs (dC (.int 8)) (dArgs0))))))) ((dCall 2 m_l_digit (dArgs (dVar 0) (dArgs (dC (.int 4)) (dArgs0)))))))) (.one 11) dTr ((dCall 2 m_l_pick (dArgs (dVar 0) (dArgs (dVar 3) (dArgs0))))) [11]))))) (sNil))
def nbC : DM Fl := (sSet 8 ((dOp gAdd ((dLst (dArgs (dVar 7) (dArgs0)))) ((dLc (iZp ((dOp gMul (dVar 3) (dC (.int 2)))) ((dOp gAdd ((dUn gRev (dVar 3))) (dVar 3)))) (.tup [9, 10]) dTr ((dOp gAdd ((dOp gAdd ((dSl (dVar 7) dPt0 (dPt1 (dC (.int 6))))) (dVar 9))) (dVar 10))) [9, 10])))))
def nbD : DM Fl := (sApp 4 ((dOp gIx ((dLc (iV (dVar 8)) (.one 9) (dB (dOp (gIn true) (dVar 9) ((dOp gAdd (dVar 2) (dVar 4))))) (dVar 9) [9])) (dC (.int 0)))))
def nb : DM Fl := sSeq nbA (sSeq nbB (sSeq nbC nbD))
def AL : Str := Str.ofString "abcdefghijklmnopqrstuvwxyz"
def CM : List Dv := [.str "state", .str "reader", .str "entries", .str "limit", .str "alphabet", .str "read", .str "append", .str "a", .str "count", .str "tell", .str "zzzzzzzz"]
section
variable {L : Led} {p : Nat} {x1 o6 o7 o8 o9 o10 o11 : Option Sv} {fs ns : List Str} {w : Str}
theorem nbA_ok (hp : PotAt L p) : ∃ w L', nbA [some (.val (.own p)), x1, some (.val (.lst (fs.map .str))), some (.val (.str AL)), some (.mu (ns.map .str)), some (.val (.lst CM)), o6, o7, o8, o9, o10, o11] L = .ok (.nx [some (.val (.own p)), x1, some (.val (.lst (fs.map .str))), some (.val (.str AL)), some (.mu (ns.map .str)), some (.val (.lst CM)), o6, some (.val (.str w)), o8, o9, o10, o11]) L' ∧ Sh w ∧ PotAt L' p := by
  obtain ⟨d, L', e, hd, hp'⟩ := pick_l (xs := CM) hp (by simp [CM]) (by simp [CM])
  obtain ⟨w, rfl, hw⟩ := sh_common d hd
  exact ⟨w, L', by simp [nbA, e], hw, hp'⟩
theorem nbB_ok (hp : PotAt L p) (hw : Sh w) : ∃ w' L', nbB [some (.val (.own p)), x1, some (.val (.lst (fs.map .str))), some (.val (.str AL)), some (.mu (ns.map .str)), some (.val (.lst CM)), o6, some (.val (.str w)), o8, o9, o10, o11] L = .ok (.nx [some (.val (.own p)), x1, some (.val (.lst (fs.map .str))), some (.val (.str AL)), some (.mu (ns.map .str)), some (.val (.lst CM)), o6, some (.val (.str w')), o8, o9, o10, o11]) L' ∧ Sh w' ∧ PotAt L' p := by
  obtain ⟨r, L1, e1, r0, r1, hp1⟩ := digit_ok (n := 3) hp (by decide) (by decide)
  by_cases hr : 0 < r
  · obtain ⟨r', L2, e2, r0', r1', hp2⟩ := digit_ok (n := 4) hp1 (by decide) (by decide)
    obtain ⟨d, hd, _, ed⟩ := ix_l (xs := [.int 1, .int 2, .int 3, .int 8]) r0' (by simpa using r1')
    have hk : ∃ k : Int, d = .int k ∧ 1 ≤ k ∧ k ≤ 8 := by
      simp only [List.mem_cons, List.not_mem_nil, or_false] at hd
      rcases hd with rfl | rfl | rfl | rfl
      all_goals exact ⟨_, rfl, by decide, by decide⟩
    obtain ⟨k, rfl, k1, k8⟩ := hk
    have hrg : rgOk 0 k := ⟨by decide, by decide, by omega, by omega⟩
    have hl : (upF 0 k.toNat).length = k.toNat := by simp [upF]
    obtain ⟨rs, L3, e3, hn, hrs, hp3⟩ := cl_each (T := .one 11) (ft := dTr) (fe := dCall 2 m_l_pick (dArgs (dVar 0) (dArgs (dVar 3) (dArgs0)))) (ρ := [some (.val (.own p)), x1, some (.val (.lst (fs.map .str))), some (.val (.str AL)), some (.mu (ns.map .str)), some (.val (.lst CM)), o6, some (.val (.str w)), o8, o9, o10, none]) (Inv := fun L => PotAt L p) (Pd := fun r => ∃ c, r = .str ⟨#[c]⟩ ∧ c ∈ al) (upF 0 k.toNat) (fun d _ L I => by
      obtain ⟨c, L', e, hc, I'⟩ := pick_s (z := AL) I (by rw [AL, letters_len]; decide) (by rw [AL, letters_len]; decide)
      refine ⟨_, _, L', rfl, rfl, ?_, ⟨c, rfl, ?_⟩, I'⟩
      · simp [e]
      · rw [← letters_cps]; exact hc) [] L2 hp2 (by rw [hl, sizeLine_eq]; simp; omega)
    obtain ⟨cs, rfl, hcs⟩ := map_of (f := fun c => Dv.str ⟨#[c]⟩) hrs
    have hlen : cs.length ≤ 8 := by rw [List.length_map, hl] at hn; omega
    have hsh := sh_join hlen hcs
    have hj : gJoin "" [.val (.lst (cs.map fun c => Dv.str ⟨#[c]⟩))] L3 = some (.val (.str (Txt.join (Str.ofString "") (cs.map fun c => (⟨#[c]⟩ : Str))))) := by
      have h1 : strsOf (cs.map fun c => Dv.str ⟨#[c]⟩) = some (cs.map fun c => (⟨#[c]⟩ : Str)) := by
        have := strsOf_map (cs.map fun c => (⟨#[c]⟩ : Str))
        rwa [List.map_map] at this
      have h0 : (Str.ofString "").length = 0 := by decide +kernel
      have h2 : ((cs.map fun c => (⟨#[c]⟩ : Str)).map (·.length)).sum + (cs.map fun c => (⟨#[c]⟩ : Str)).length * (Str.ofString "").length ≤ 16777216 := by
        rw [ones_sum, h0]; omega
      have h3 : (Txt.join (Str.ofString "") (cs.map fun c => (⟨#[c]⟩ : Str))).length ≤ sizeLine := by
        rw [sizeLine_eq]; have := hsh.1; omega
      unfold gJoin
      simp only [Sv.seqL, Option.or, Option.bind, h1]
      exact if_pos ⟨h2, h3⟩
    refine ⟨_, L3, ?_, hsh, hp3⟩
    simp [nbB, e1, hr, e2, ed, hrg, e3, hj, sizeLine_eq]
  · exact ⟨w, L1, by simp [nbB, e1, hr], hw, hp1⟩
theorem len1 {c : Nat} : (⟨#[c]⟩ : Str).length = 1 := rfl
theorem rep_cps : (strRep AL 2).cps.toList = al ++ al := by
  show ((List.replicate 2 AL.cps.toList).flatten.toArray).toList = _
  rw [AL, letters_cps]
  decide +kernel
theorem rev_cps : (strRev AL ++ AL).cps.toList = al.reverse ++ al := by
  show ((AL.cps.toList.reverse.toArray) ++ AL.cps).toList = _
  rw [Array.toList_append, AL, letters_cps]
theorem zp52 : zipF ((strRep AL 2).cps.toList.map fun c => Dv.str ⟨#[c]⟩) ((strRev AL ++ AL).cps.toList.map fun c => Dv.str ⟨#[c]⟩) = prs52.map fun p => Dv.tup [.str ⟨#[p.1]⟩, .str ⟨#[p.2]⟩] := by
  unfold zipF
  rw [zip_maps, rep_cps, rev_cps]
  rfl
theorem nbC_ok (hw : Sh w) : nbC [some (.val (.own p)), x1, some (.val (.lst (fs.map .str))), some (.val (.str AL)), some (.mu (ns.map .str)), some (.val (.lst CM)), o6, some (.val (.str w)), o8, o9, o10, o11] L = .ok (.nx [some (.val (.own p)), x1, some (.val (.lst (fs.map .str))), some (.val (.str AL)), some (.mu (ns.map .str)), some (.val (.lst CM)), o6, some (.val (.str w)), some (.val (.lst ((w :: prs52.map (vr w)).map .str))), o9, o10, o11]) L := by
  have hAL : AL.length = 26 := letters_len
  have hrev : (strRev AL).length = 26 := by decide +kernel
  have hrep : repOk 2 AL.length := by rw [hAL, repOk, sizeLine_eq]; decide
  have h1 : gMul (.val (.str AL)) (.val (.int 2)) L = some (.val (.str (strRep AL 2))) := by
    show (if repOk 2 AL.length then some (Sv.val (Dv.str (strRep AL 2))) else none) = _
    exact if_pos hrep
  have h2 : gRev (.val (.str AL)) L = some (.val (.str (strRev AL))) := rfl
  have hcut : (cutS w none (some 6)).length ≤ 8 := Nat.le_trans (cutS_length _ _ _) hw.1
  have h52 : prs52.length = 52 := by decide +kernel
  have e := cl_fn (T := .tup [9, 10]) (ft := dTr) (fe := dOp gAdd ((dOp gAdd ((dSl (dVar 7) dPt0 (dPt1 (dC (.int 6))))) (dVar 9))) (dVar 10)) (ρ := [some (.val (.own p)), x1, some (.val (.lst (fs.map .str))), some (.val (.str AL)), some (.mu (ns.map .str)), some (.val (.lst CM)), o6, some (.val (.str w)), o8, none, none, o11]) (L := L)
    (fun p : Nat × Nat => Dv.tup [.str ⟨#[p.1]⟩, .str ⟨#[p.2]⟩]) (fun p => Dv.str (vr w p)) (fun _ => true) prs52 (fun q _ => by
      refine ⟨_, rfl, rfl, fun _ => ?_⟩
      have a1 : (cutS w none (some 6)).length + (⟨#[q.1]⟩ : Str).length ≤ 16777216 := by rw [len1]; omega
      have a2 : (cutS w none (some 6) ++ (⟨#[q.1]⟩ : Str)).length + (⟨#[q.2]⟩ : Str).length ≤ 16777216 := by
        have : (cutS w none (some 6) ++ (⟨#[q.1]⟩ : Str)).length = (cutS w none (some 6)).length + 1 := by
          show ((cutS w none (some 6)).cps ++ #[q.1]).size = _
          simp [Str.length]
        rw [this, len1]; omega
      simp [gSl, a1, a2, sizeLine_eq, vr]) [] (by rw [h52, sizeLine_eq]; decide)
  have hft : List.filter (fun _ : Nat × Nat => true) prs52 = prs52 := List.filter_eq_self.mpr fun _ _ => rfl
  rw [hft] at e
  simp only [List.nil_append] at e
  simp [nbC, h1, h2, hAL, hrev, sizeLine_eq, Sv.src, zp52, e, h52, Function.comp_def]
theorem nbD_ok (hf : fs.length ≤ 10) (hn : ns.length < 20) (hw : Sh w) : ∃ z, nbD [some (.val (.own p)), x1, some (.val (.lst (fs.map .str))), some (.val (.str AL)), some (.mu (ns.map .str)), some (.val (.lst CM)), o6, o7, some (.val (.lst ((w :: prs52.map (vr w)).map .str))), o9, o10, o11] L = .ok (.nx [some (.val (.own p)), x1, some (.val (.lst (fs.map .str))), some (.val (.str AL)), some (.mu ((ns ++ [z]).map .str)), some (.val (.lst CM)), o6, o7, some (.val (.lst ((w :: prs52.map (vr w)).map .str))), o9, o10, o11]) L ∧ Sh z := by
  have h52 : prs52.length = 52 := by decide +kernel
  have e := cl_fn (T := .one 9) (ft := dB (dOp (gIn true) (dVar 9) ((dOp gAdd (dVar 2) (dVar 4))))) (fe := dVar 9) (ρ := [some (.val (.own p)), x1, some (.val (.lst (fs.map .str))), some (.val (.str AL)), some (.mu (ns.map .str)), some (.val (.lst CM)), o6, o7, some (.val (.lst ((w :: prs52.map (vr w)).map .str))), none, o10, o11]) (L := L)
    Dv.str Dv.str (fun z => !(fs ++ ns).contains z) (w :: prs52.map (vr w)) (fun z _ => by
      refine ⟨_, rfl, ?_, fun _ => rfl⟩
      have a1 : fs.length + ns.length ≤ 16777216 := by omega
      have a2 : gAdd (.val (.lst (fs.map .str))) (.bor (ns.map .str)) L = some (.val (.lst ((fs ++ ns).map .str))) := by
        rw [List.map_append]
        exact if_pos (by rw [List.length_map, List.length_map, sizeLine_eq]; exact a1)
      simp [a2, in_strs, -List.map_append]) [] (by simp [h52, sizeLine_eq])
  have hne : ((w :: prs52.map (vr w)).filter fun z => !(fs ++ ns).contains z) ≠ [] := by
    obtain ⟨q, hq, hv⟩ := some_fresh w (fs ++ ns) (by rw [List.length_append]; omega)
    have : vr w q ∈ (w :: prs52.map (vr w)).filter fun z => !(fs ++ ns).contains z := by
      rw [List.mem_filter]
      refine ⟨List.mem_cons_of_mem _ (List.mem_map_of_mem hq), ?_⟩
      simpa using hv
    intro h0
    rw [h0] at this
    cases this
  obtain ⟨z, zs, hz⟩ : ∃ z zs, ((w :: prs52.map (vr w)).filter fun z => !(fs ++ ns).contains z) = z :: zs := by
    cases h : ((w :: prs52.map (vr w)).filter fun z => !(fs ++ ns).contains z) with
    | nil => exact absurd h hne
    | cons z zs => exact ⟨z, zs, rfl⟩
  have hzm : z ∈ w :: prs52.map (vr w) := by
    have : z ∈ (w :: prs52.map (vr w)).filter fun z => !(fs ++ ns).contains z := by rw [hz]; simp
    exact (List.mem_filter.mp this).1
  refine ⟨z, ?_, ?_⟩
  · rw [hz] at e
    have hix : gIx (.val (.lst ((z :: zs).map .str))) (.val (.int 0)) L = some (.val (.str z)) := by simp [gIx, Sv.seqL, L2.atI, ixN]
    have hlt : ns.length < 16777216 := by omega
    simp only [List.nil_append] at e
    simp [nbD, Sv.src, -List.map_cons, e, hix, sizeLine_eq, hlt]
    rfl
  · rcases List.mem_cons.mp hzm with rfl | h
    · exact hw
    · obtain ⟨q, hq, rfl⟩ := List.mem_map.mp h
      exact sh_vr hw hq
theorem nb_ok (hp : PotAt L p) (hf : fs.length ≤ 10) (hn : ns.length < 20) : ∃ z o7' o8' L', nb [some (.val (.own p)), x1, some (.val (.lst (fs.map .str))), some (.val (.str AL)), some (.mu (ns.map .str)), some (.val (.lst CM)), o6, o7, o8, o9, o10, o11] L = .ok (.nx [some (.val (.own p)), x1, some (.val (.lst (fs.map .str))), some (.val (.str AL)), some (.mu ((ns ++ [z]).map .str)), some (.val (.lst CM)), o6, o7', o8', o9, o10, o11]) L' ∧ Sh z ∧ PotAt L' p := by
  obtain ⟨w, L1, e1, h1, hp1⟩ := nbA_ok (x1 := x1) (o6 := o6) (o7 := o7) (o8 := o8) (o9 := o9) (o10 := o10) (o11 := o11) (fs := fs) (ns := ns) hp
  obtain ⟨w', L2, e2, h2, hp2⟩ := nbB_ok (x1 := x1) (o6 := o6) (o8 := o8) (o9 := o9) (o10 := o10) (o11 := o11) (fs := fs) (ns := ns) hp1 h1
  obtain ⟨z, e4, hz⟩ := nbD_ok (L := L2) (p := p) (x1 := x1) (o6 := o6) (o7 := some (.val (.str w'))) (o9 := o9) (o10 := o10) (o11 := o11) hf hn h2
  refine ⟨z, some (.val (.str w')), some (.val (.lst ((w' :: prs52.map (vr w')).map .str))), L2, ?_, hz, hp2⟩
  simp only [nb, ev_seq, e1, Res.bind, e2, nbC_ok h2, e4]
end
/-- NAMES: so many texts, all short -/
theorem names_ok {L : Led} {p : Nat} {n : Int} {fs : List Str} (hp : PotAt L p) (h0 : 0 ≤ n) (h1 : n ≤ 20) (hf : fs.length ≤ 10) : ∃ (zs : List Str) (L' : Led), m_l_names [.val (.own p), .val (.int n), .val (.lst (fs.map .str))] L = .ok (.lst (zs.map .str)) L' ∧ zs.length = n.toNat ∧ (∀ z ∈ zs, Sh z) ∧ PotAt L' p := by
  have hlen : (upF 0 n.toNat).length = n.toNat := by simp [upF]
  obtain ⟨ρ', L', e, ns, o6, o7, o8, o9, o10, o11, rfl, hk, hs, hp'⟩ := fl_inv (T := .one 6) (fb := nb)
    (Inv := fun k ρ L => ∃ (ns : List Str) (o6 o7 o8 o9 o10 o11 : Option Sv), ρ = [some (.val (.own p)), some (.val (.int n)), some (.val (.lst (fs.map .str))), some (.val (.str AL)), some (.mu (ns.map .str)), some (.val (.lst CM)), o6, o7, o8, o9, o10, o11] ∧ ns.length = k ∧ (∀ z ∈ ns, Sh z) ∧ PotAt L p)
    (upF 0 n.toNat) 0 (fun i d hd ρ L I => by
      obtain ⟨ns, o6, o7, o8, o9, o10, o11, rfl, hk, hs, hp⟩ := I
      have hi : i < n.toNat := by rw [← hlen]; exact (List.getElem?_eq_some_iff.mp hd).1
      obtain ⟨z, o7', o8', L', e, hz, hp'⟩ := nb_ok (x1 := some (.val (.int n))) (o6 := some (.val d)) (o7 := o7) (o8 := o8) (o9 := o9) (o10 := o10) (o11 := o11) (fs := fs) (ns := ns) hp hf (by omega)
      refine ⟨_, _, L', rfl, e, ns ++ [z], some (.val d), o7', o8', o9, o10, o11, rfl, by simp [hk], ?_, hp'⟩
      intro y hy
      rcases List.mem_append.mp hy with h | h
      · exact hs y h
      · rw [List.mem_singleton.mp h]; exact hz) [some (.val (.own p)), some (.val (.int n)), some (.val (.lst (fs.map .str))), some (.val (.str AL)), some (.mu []), some (.val (.lst CM)), none, none, none, none, none, none] L ⟨[], none, none, none, none, none, none, rfl, rfl, by simp, hp⟩
  refine ⟨ns, L', ?_, by rw [hk, hlen]; omega, hs, hp'⟩
  have hrg : rgOk 0 n := ⟨by decide, by decide, by omega, by omega⟩
  unfold m_l_names
  rw [mOf_eq]
  show endOf (fb_l_names [some (.val (.own p)), some (.val (.int n)), some (.val (.lst (fs.map .str))), none, none, none, none, none, none, none, none, none] L) = _
  have hfb : fb_l_names = (sSeq (sParT [3, 4] [.e (dC (.str "abcdefghijklmnopqrstuvwxyz")), .l (dArgs0)])
    ((sSeq (sSet 5 ((dLst (dArgs (dC (.str "state")) (dArgs (dC (.str "reader")) (dArgs (dC (.str "entries")) (dArgs (dC (.str "limit")) (dArgs (dC (.str "alphabet")) (dArgs (dC (.str "read")) (dArgs (dC (.str "append")) (dArgs (dC (.str "a")) (dArgs (dC (.str "count")) (dArgs (dC (.str "tell")) (dArgs (dC (.str "zzzzzzzz")) (dArgs0)))))))))))))))
    ((sSeq (sFor (iR1 (dVar 1)) (.one 6) nb)
    ((gFrz 4 (sRet (dVar 4))))))))) := rfl
  have e' : fLoop (.one 6) nb (upF 0 n.toNat) [some (.val (.own p)), some (.val (.int n)), some (.val (.lst (fs.map .str))), some (.val (.str (Str.ofString "abcdefghijklmnopqrstuvwxyz"))), some (.mu []), some (.val (.lst [.str "state", .str "reader", .str "entries", .str "limit", .str "alphabet", .str "read", .str "append", .str "a", .str "count", .str "tell", .str "zzzzzzzz"])), none, none, none, none, none, none] L = _ := e
  rw [hfb]
  simp [hrg, e', sizeLine_eq]
end K11

namespace K11
open PySem PySem.Spec PyProof.Rows L2 DL
theorem eq_nil {xs : List Dv} {L : Led} : gEq (.val (.lst xs)) (.val (.lst [])) L = some (.val (.bl xs.isEmpty)) := by
  cases xs with
  | nil => rfl
  | cons x xs =>
    have h : gEqB (.val (.lst (x :: xs))) (.val (.lst [])) = none ∨ gEqB (.val (.lst (x :: xs))) (.val (.lst [])) = some false := by
      unfold gEqB
      have h2 : (Sv.val (.lst [])).py = some (.list []) := rfl
      rw [h2]
      have h1 : (Sv.val (.lst (x :: xs))).py = none ∨ ∃ q qs, (Sv.val (.lst (x :: xs))).py = some (.list (q :: qs)) := by
        show (pys (x :: xs)).map PyData.list = none ∨ _
        simp only [pys]
        cases hx : x.py with
        | none => left; rfl
        | some q =>
          cases hxs : pys xs with
          | none => left; rfl
          | some qs => right; exact ⟨q, qs, by show (pys (x :: xs)).map PyData.list = _; simp [pys, hx, hxs]⟩
      rcases h1 with h1 | ⟨q, qs, h1⟩
      · rw [h1]; left; rfl
      · rw [h1]
        cases hok : okP (.list (q :: qs)) (.list []) with
        | false => left; simp [hok]
        | true => right; simp [hok, PyData.eqv, PyData.eqvAll]
    unfold gEq
    rcases h with h | h
    · rw [h]; rfl
    · rw [h]; rfl
theorem sl_l {xs : List Dv} {a b : Option Int} {L : Led} (h : xs.length ≤ 16777216) : gSl (.val (.lst xs)) a b L = some (.val (.lst (cutD xs a b))) := by
  unfold gSl
  simp [Sv.seqL, h, sizeLine_eq]
theorem cut_mem {xs : List Dv} {a b : Option Int} {d : Dv} (h : d ∈ cutD xs a b) : d ∈ xs := List.mem_of_mem_drop (List.mem_of_mem_take h)
theorem sh_okB {z : Str} (h : Sh z) : OkB 20 3 (.str z) := ⟨h.2, Nat.le_trans h.1 (by decide), Nat.zero_le _⟩
/-! the body of listed's loop -/
def lbA : DM Fl := sPar 3 4 [.e ((dCall 2 m_l_digit (dArgs (dVar 0) (dArgs ((dOp gAdd ((dBi gLen (dArgs (dVar 1) (dArgs0)))) (dC (.int 1)))) (dArgs0))))), .e ((dCall 2 m_l_digit (dArgs (dVar 0) (dArgs (dC (.int 4)) (dArgs0)))))]
def le5 : DM Sv := (dIf ((dOr (dB (dOp (gCmp fun i j => decide (i < j)) (dVar 4) (dC (.int 2)))) (dB (dOp gEq (dVar 1) ((dLst (dArgs0))))))) ((dCall 1 m_l_odd (dArgs (dVar 0) (dArgs0)))) ((dOp gIx (dVar 1) ((dCall 2 m_l_digit (dArgs (dVar 0) (dArgs ((dBi gLen (dArgs (dVar 1) (dArgs0)))) (dArgs0))))))))
def lbC : DM Fl := (sSet 1 ((dOp gAdd ((dOp gAdd ((dSl (dVar 1) dPt0 (dPt1 (dVar 3)))) ((dLst (dArgs (dVar 5) (dArgs0)))))) ((dSl (dVar 1) (dPt1 ((dOp gAdd (dVar 3) ((dCall 2 m_l_digit (dArgs (dVar 0) (dArgs (dC (.int 2)) (dArgs0)))))))) dPt0)))))
def lb : DM Fl := sSeq lbA (sSeq (sSet 5 le5) lbC)
theorem lb_ok {L : Led} {p : Nat} {xs : List Dv} {o2 o3 o4 o5 : Option Sv} (hp : PotAt L p) (hl : xs.length ≤ 1000) (hx : ∀ d ∈ xs, OkB 20 3 d) : ∃ (ys : List Dv) (o3' o4' o5' : Option Sv) (L' : Led), lb [some (.val (.own p)), some (.val (.lst xs)), o2, o3, o4, o5] L = .ok (.nx [some (.val (.own p)), some (.val (.lst ys)), o2, o3', o4', o5']) L' ∧ ys.length ≤ 2 * xs.length + 1 ∧ (∀ d ∈ ys, OkB 20 3 d) ∧ PotAt L' p := by
  obtain ⟨r, L1, e1, r0, r1, hp1⟩ := digit_ok (n := (xs.length : Int) + 1) hp (by omega) (by omega)
  obtain ⟨q, L2, e2, q0, q1, hp2⟩ := digit_ok (n := 4) hp1 (by decide) (by decide)
  have h5 : ∃ d L3, le5 [some (.val (.own p)), some (.val (.lst xs)), o2, some (.val (.int r)), some (.val (.int q)), o5] L2 = .ok (.val d) L3 ∧ OkB 20 3 d ∧ PotAt L3 p := by
    by_cases hq : q < 2
    · obtain ⟨d, L3, e3, hd, hp3⟩ := odd_ok hp2
      exact ⟨d, L3, by simp [le5, hq, e3], hd, hp3⟩
    · cases xs with
      | nil =>
        obtain ⟨d, L3, e3, hd, hp3⟩ := odd_ok hp2
        exact ⟨d, L3, by simp [le5, hq, e3, eq_nil], hd, hp3⟩
      | cons x xs =>
        obtain ⟨i, L3, e3, i0, i1, hp3⟩ := digit_ok (n := ((x :: xs).length : Int)) hp2 (by simp only [List.length_cons]; omega) (by omega)
        obtain ⟨d, hd, _, ed⟩ := ix_l i0 i1
        have e3' : m_l_digit [.val (.own p), .val (.int ((xs.length : Int) + 1))] L2 = .ok (.int i) L3 := e3
        exact ⟨d, L3, by simp [le5, hq, e3', eq_nil, ed], hx d hd, hp3⟩
  obtain ⟨d, L3, e3, hd, hp3⟩ := h5
  obtain ⟨b, L4, e4, b0, b1, hp4⟩ := digit_ok (n := 2) hp3 (by decide) (by decide)
  have c1 := cutD_length xs none (some r)
  have c2 := cutD_length xs (some (r + b)) none
  have a1 : (cutD xs none (some r)).length + 1 ≤ 16777216 := by omega
  have a2 : (cutD xs none (some r)).length + (1 + (cutD xs (some (r + b)) none).length) ≤ 16777216 := by omega
  have a0 : xs.length ≤ 16777216 := by omega
  refine ⟨cutD xs none (some r) ++ [d] ++ cutD xs (some (r + b)) none, some (.val (.int r)), some (.val (.int q)), some (.val d), L4, ?_, ?_, ?_, hp4⟩
  · have hA : lbA [some (.val (.own p)), some (.val (.lst xs)), o2, o3, o4, o5] L = .ok (.nx [some (.val (.own p)), some (.val (.lst xs)), o2, some (.val (.int r)), some (.val (.int q)), o5]) L2 := by
      simp [lbA, e1, e2]
    have hB : sSet 5 le5 [some (.val (.own p)), some (.val (.lst xs)), o2, some (.val (.int r)), some (.val (.int q)), o5] L2 = .ok (.nx [some (.val (.own p)), some (.val (.lst xs)), o2, some (.val (.int r)), some (.val (.int q)), some (.val d)]) L3 := by
      simp [e3]
    have hC : lbC [some (.val (.own p)), some (.val (.lst xs)), o2, some (.val (.int r)), some (.val (.int q)), some (.val d)] L3 = .ok (.nx [some (.val (.own p)), some (.val (.lst (cutD xs none (some r) ++ [d] ++ cutD xs (some (r + b)) none))), o2, some (.val (.int r)), some (.val (.int q)), some (.val d)]) L4 := by
      have a3 : (cutD xs none (some r)).length + 1 + (cutD xs (some (r + b)) none).length ≤ 16777216 := by omega
      simp [lbC, e4, sl_l a0, a1, a2, a3, sizeLine_eq]
    simp only [lb, ev_seq, hA, Res.bind, hB, hC]
  · simp; omega
  · intro x hx'
    rcases List.mem_append.mp hx' with h | h
    · rcases List.mem_append.mp h with h | h
      · exact hx x (cut_mem h)
      · rw [List.mem_singleton.mp h]; exact hd
    · exact hx x (cut_mem h)
/-- a small list or tuple of small data -/
def Lsd (d : Dv) : Prop := ∃ xs : List Dv, (d = .lst xs ∨ d = .tup xs) ∧ xs.length ≤ 40 ∧ ∀ e ∈ xs, OkB 20 3 e
theorem listed_ok {L : Led} {p : Nat} (hp : PotAt L p) : ∃ d L', m_l_listed [.val (.own p)] L = .ok d L' ∧ Lsd d ∧ PotAt L' p := by
  obtain ⟨c, L1, e1, c0, c1, hp1⟩ := digit_ok (n := 10) hp (by decide) (by decide)
  obtain ⟨zs, L2, e2, hz, hs, hp2⟩ := names_ok (fs := []) hp1 c0 (by omega) (by simp)
  obtain ⟨t, L3, e3, t0, t1, hp3⟩ := digit_ok (n := 3) hp2 (by decide) (by decide)
  have hlen : (upF 0 t.toNat).length = t.toNat := by simp [upF]
  obtain ⟨ρ', L4, e4, xs, o2, o3, o4, o5, rfl, hk, hx, hp4⟩ := fl_inv (T := .one 2) (fb := lb)
    (Inv := fun k ρ L => ∃ (xs : List Dv) (o2 o3 o4 o5 : Option Sv), ρ = [some (.val (.own p)), some (.val (.lst xs)), o2, o3, o4, o5] ∧ xs.length + 1 ≤ 10 * 2 ^ k ∧ (∀ d ∈ xs, OkB 20 3 d) ∧ PotAt L p)
    (upF 0 t.toNat) 0 (fun i d hd ρ L I => by
      obtain ⟨xs, o2, o3, o4, o5, rfl, hk, hx, hp⟩ := I
      have hi : i < t.toNat := by rw [← hlen]; exact (List.getElem?_eq_some_iff.mp hd).1
      have hi2 : i = 0 ∨ i = 1 := by omega
      have hl : xs.length ≤ 1000 := by rcases hi2 with rfl | rfl <;> simp at hk <;> omega
      obtain ⟨ys, o3', o4', o5', L', e, hy, hys, hp'⟩ := lb_ok (o2 := some (.val d)) (o3 := o3) (o4 := o4) (o5 := o5) hp hl hx
      refine ⟨_, _, L', rfl, e, ys, some (.val d), o3', o4', o5', rfl, ?_, hys, hp'⟩
      rw [Nat.pow_succ]
      omega) [some (.val (.own p)), some (.val (.lst (zs.map .str))), none, none, none, none] L3 ⟨_, none, none, none, none, rfl, by simp; omega, by
        intro d hd
        obtain ⟨z, hz', rfl⟩ := List.mem_map.mp hd
        exact sh_okB (hs z hz'), hp3⟩
  have hk40 : xs.length ≤ 40 := by
    rw [hlen] at hk
    have ht : t.toNat = 0 ∨ t.toNat = 1 ∨ t.toNat = 2 := by omega
    rcases ht with ht | ht | ht <;> rw [ht] at hk <;> simp at hk <;> omega
  obtain ⟨b, L5, e5, b0, b1, hp5⟩ := digit_ok (n := 2) hp4 (by decide) (by decide)
  have hrg : rgOk 0 t := ⟨by decide, by decide, by omega, by omega⟩
  have hfb : fb_l_listed = (sSeq (sSet 1 ((dCall 3 m_l_names (dArgs (dVar 0) (dArgs ((dCall 2 m_l_digit (dArgs (dVar 0) (dArgs (dC (.int 10)) (dArgs0))))) (dArgs ((dLst (dArgs0))) (dArgs0)))))))
    ((sSeq (sFor (iR1 ((dCall 2 m_l_digit (dArgs (dVar 0) (dArgs (dC (.int 3)) (dArgs0)))))) (.one 2) lb)
    (sRet ((dIf ((dB (dOp gEq ((dCall 2 m_l_digit (dArgs (dVar 0) (dArgs (dC (.int 2)) (dArgs0))))) (dC (.int 0))))) (dVar 1) ((dBi gTuple (dArgs (dVar 1) (dArgs0)))))))))) := rfl
  have e2' : m_l_names [.val (.own p), .val (.int c), .val (.lst [])] L1 = .ok (.lst (zs.map .str)) L2 := e2
  have htup : gTuple [.val (.lst xs)] L5 = some (.val (.tup xs)) := by
    unfold gTuple
    simp [Sv.seqL, sizeLine_eq]
    omega
  refine ⟨if b = 0 then .lst xs else .tup xs, L5, ?_, ⟨xs, ?_, hk40, hx⟩, hp5⟩
  · unfold m_l_listed
    rw [mOf_eq]
    show endOf (fb_l_listed [some (.val (.own p)), none, none, none, none, none] L) = _
    rw [hfb]
    by_cases hb : b = 0
    · subst hb
      simp [e1, e2', e3, hrg, e4, e5, sizeLine_eq]
    · simp [e1, e2', e3, hrg, e4, e5, sizeLine_eq, hb, htup]
  · by_cases hb : b = 0
    · simp [hb]
    · simp [hb]
end K11

namespace K11
open PySem PySem.Spec PyProof.Rows L2 DL
/-! ### the rules and the law's own rules -/
def intB : Dv → Bool
  | .int _ => true
  | _ => false
def chB (z : Str) : Bool := z.cps.toList.all fun c => inStr ⟨#[c]⟩ AL
def nmB : Dv → Bool
  | .str z => decide (1 ≤ z.length) && decide (z.length ≤ 8) && chB z
  | _ => false
def cntB : Dv → Bool
  | .int i => decide (0 ≤ i)
  | _ => false
theorem bools_map : ∀ bs : List Bool, bools (bs.map Dv.bl) = some bs
  | [] => rfl
  | b :: bs => by simp [bools, bools_map bs]
theorem all_bl {bs : List Bool} {L : Led} : gAll [.val (.lst (bs.map Dv.bl))] L = some (.val (.bl (bs.all id))) := by
  simp [gAll, gQ, Sv.seqL, bools_map]
theorem integer_ok {d : Dv} {L : Led} (h : d.leaf = true) : m_is_integer [.val d] L = .ok (.bl (intB d)) L := by
  unfold m_is_integer
  rw [mOf_eq]
  show endOf (fb_is_integer [some (.val d)] L) = _
  cases d with
  | non => rfl
  | bl b => rfl
  | int i => rfl
  | str z => rfl
  | lst xs => rfl
  | tup xs => rfl
  | dic ks => rfl
  | _ => cases h
theorem l_integer_ok {d : Dv} {L : Led} (h : d.leaf = true) : m_l_is_integer [.val d] L = .ok (.bl (intB d)) L := by
  unfold m_l_is_integer
  rw [mOf_eq]
  show endOf (fb_l_is_integer [some (.val d)] L) = _
  cases d with
  | non => rfl
  | bl b => rfl
  | int i => rfl
  | str z => rfl
  | lst xs => rfl
  | tup xs => rfl
  | dic ks => rfl
  | _ => cases h
theorem count_ok {d : Dv} {L : Led} (h : d.leaf = true) : m_is_count [.val d] L = .ok (.bl (cntB d)) L := by
  unfold m_is_count
  rw [mOf_eq]
  show endOf (fb_is_count [some (.val d)] L) = _
  have e := integer_ok (L := L) h
  cases d with
  | int i => simp [fb_is_count, e, intB, cntB]
  | non => simp [fb_is_count, e, intB, cntB]
  | bl b => simp [fb_is_count, e, intB, cntB]
  | str z => simp [fb_is_count, e, intB, cntB]
  | lst xs => simp [fb_is_count, e, intB, cntB]
  | tup xs => simp [fb_is_count, e, intB, cntB]
  | dic ks => simp [fb_is_count, e, intB, cntB]
  | _ => cases h
theorem ch_loop {z : Str} {L : Led} (hl : z.length ≤ 20) : cLoop (.one 1) dTr (dOp (gIn false) (dVar 1) (dC (.str "abcdefghijklmnopqrstuvwxyz"))) [some (.val (.str z)), none] (z.cps.toList.map fun c => .str ⟨#[c]⟩) [] L = .ok ((z.cps.toList.map fun c => inStr ⟨#[c]⟩ AL).map Dv.bl) L := by
  have hl' : z.cps.toList.length ≤ 20 := hl
  have e := cl_fn (T := .one 1) (ft := dTr) (fe := dOp (gIn false) (dVar 1) (dC (.str "abcdefghijklmnopqrstuvwxyz"))) (ρ := [some (.val (.str z)), none]) (L := L) (fun c => Dv.str ⟨#[c]⟩) (fun c => Dv.bl (inStr ⟨#[c]⟩ AL)) (fun _ => true) z.cps.toList (fun c _ => ⟨_, rfl, rfl, fun _ => rfl⟩) [] (by rw [sizeLine_eq]; simp at hl' ⊢; omega)
  have hft : List.filter (fun _ : Nat => true) z.cps.toList = z.cps.toList := List.filter_eq_self.mpr fun _ _ => rfl
  rw [hft] at e
  rw [e, List.map_map]
  rfl
theorem isi_str {z : Str} {L : Led} : gIsi [.val (.str z), .val (.ty "str")] L = some (.val (.bl true)) := rfl
theorem name_ok {d : Dv} {L : Led} (h : d.leaf = true) : m_is_name [.val d] L = .ok (.bl (nmB d)) L := by
  unfold m_is_name
  rw [mOf_eq]
  show endOf (fb_is_name [some (.val d), none] L) = _
  cases d with
  | str z =>
    by_cases h1 : 1 ≤ z.length
    · by_cases h2 : z.length ≤ 8
      · have e := ch_loop (L := L) (z := z) (by omega)
        have h1' : (1 : Int) ≤ z.length := by omega
        have h2' : (z.length : Int) ≤ 8 := by omega
        simp only [fb_is_name, ev_seq, ev_sif, ev_or, ev_not, ev_B, ev_bi, ev_args, ev_args0, ev_var, ev_ty]
        simp [isi_str, h1', h2', Sv.src, e, all_bl, -List.map_map, nmB, h1, h2, chB, Function.comp_def]
      · have h1' : (1 : Int) ≤ z.length := by omega
        have h2' : ¬ (z.length : Int) ≤ 8 := by omega
        simp [fb_is_name, isi_str, h1', h2', nmB, h2]
    · have h1' : ¬ (1 : Int) ≤ z.length := by omega
      simp [fb_is_name, isi_str, h1', nmB, h1]
  | non => rfl
  | bl b => rfl
  | int i => rfl
  | lst xs => rfl
  | tup xs => rfl
  | dic ks => rfl
  | _ => cases h
theorem l_name_ok {d : Dv} {L : Led} (h : d.leaf = true) : m_l_is_name [.val d] L = .ok (.bl (nmB d)) L := by
  unfold m_l_is_name
  rw [mOf_eq]
  show endOf (fb_l_is_name [some (.val d), none] L) = _
  cases d with
  | str z =>
    by_cases h1 : 1 ≤ z.length
    · by_cases h2 : z.length ≤ 8
      · have e := ch_loop (L := L) (z := z) (by omega)
        have h1' : (0 : Int) < z.length := by omega
        have h2' : (z.length : Int) < 9 := by omega
        have h0 : 0 < z.length := by omega
        have h9 : z.length < 9 := by omega
        simp [fb_l_is_name, isi_str, h1', h2', h0, h9, Sv.src, e, all_bl, -List.map_map, nmB, h1, h2, chB, Function.comp_def]
      · have h1' : (0 : Int) < z.length := by omega
        have h2' : ¬ (z.length : Int) < 9 := by omega
        have h0 : 0 < z.length := by omega
        simp [fb_l_is_name, isi_str, h1', h2', h0, nmB, h2]
    · have h1' : ¬ (0 : Int) < z.length := by omega
      have h0 : ¬ 0 < z.length := by omega
      simp [fb_l_is_name, isi_str, h1', h0, nmB, h1]
  | non => rfl
  | bl b => rfl
  | int i => rfl
  | lst xs => rfl
  | tup xs => rfl
  | dic ks => rfl
  | _ => cases h
end K11

namespace K11
open PySem PySem.Spec PyProof.Rows L2 DL
theorem in_strsT {neg : Bool} {z : Str} {ys : List Str} {L : Led} : gIn neg (.val (.str z)) (.val (.tup (ys.map Dv.str))) L = some (.val (.bl (if neg then !ys.contains z else ys.contains z))) := by
  have h1 : okIn (.str z) (ys.map PyData.str) = true := by
    simp [okIn, plain_strs, PyData.plain, PyData.depth]
  have h2 : ((ys.map PyData.str).any fun w => PyData.eqv w (.str z)) = ys.contains z := by
    rw [List.any_map, List.contains_eq_any_beq]
    congr 1
    funext w
    simp [PyData.eqv]
    exact BEq.comm
  simp [gIn, gInB, Sv.key, Sv.prs, Sv.py, Dv.py, pys_strs, h1, h2]
/-- X is a list or a tuple -/
def Lt (X : Dv) (xs : List Dv) : Prop := X = .lst xs ∨ X = .tup xs
section
variable {X d : Dv} {xs : List Dv} {L : Led} {k : Nat} {z : Str} {ys : List Str}
theorem lt_len (h : Lt X xs) : gLen [.val X] L = some (.val (.int xs.length)) := by rcases h with rfl | rfl <;> rfl
theorem lt_ix (h : Lt X xs) (e : xs[k]? = some d) : gIx (.val X) (.val (.int (k : Int))) L = some (.val d) := by
  obtain ⟨hl, he⟩ := List.getElem?_eq_some_iff.mp e
  have h0 : (k : Int) < xs.length := by omega
  rcases h with rfl | rfl <;> simp [gIx, Sv.seqL, Sv.seqT, L2.atI, ixN, h0, e]
theorem lt_list (h : Lt X xs) (hl : xs.length ≤ 16777216) : gList [.val X] L = some (.val (.lst xs)) := by
  rcases h with rfl | rfl <;> simp [gList, Sv.seqL, Sv.seqT, sizeLine_eq, hl]
theorem cut_take (hk : k ≤ xs.length) : cutD xs none (some (k : Int)) = xs.take k := by
  unfold DL.cutD
  rw [HT.sIx_nat]
  show (xs.drop 0).take (min k xs.length - 0) = _
  rw [List.drop_zero, Nat.min_eq_left hk]
  rfl
theorem lt_sl (h : Lt X xs) (hl : xs.length ≤ 16777216) (hk : k ≤ xs.length) (e : xs.take k = ys.map .str) : ∃ s, gSl (.val X) none (some (k : Int)) L = some s ∧ gIn false (.val (.str z)) s L = some (.val (.bl (ys.contains z))) := by
  rcases h with rfl | rfl
  · exact ⟨.val (.lst (ys.map .str)), by rw [← e, ← cut_take hk]; exact sl_l hl, in_strs⟩
  · refine ⟨.val (.tup (ys.map .str)), ?_, in_strsT⟩
    rw [← e, ← cut_take hk]
    unfold gSl
    simp [Sv.seqL, Sv.seqT, hl, sizeLine_eq]
end
/-- the first place that is no name, or bears a name a second time -/
def fwR : List Str → List Dv → Option Nat
  | _, [] => none
  | ys, .str z :: ds => if (nmB (.str z) && !ys.contains z) = true then fwR (ys ++ [z]) ds else some ys.length
  | ys, _ :: _ => some ys.length
def fb1 : DM Fl := (sIf (dOr (dNot (dB ((dCall 1 m_is_name (dArgs (dVar 2) (dArgs0)))))) (dB (dOp (gIn false) (dVar 2) ((dSl (dVar 0) dPt0 (dPt1 (dVar 1))))))) (sRet (dVar 1)) (sNil))
def fb2 : DM Fl := (sIf (dOr (dNot (dB ((dCall 1 m_l_is_name (dArgs ((dOp gIx (dVar 0) (dVar 1))) (dArgs0)))))) (dB (dOp (gIn false) ((dOp gIx (dVar 0) (dVar 1))) ((dSl ((dBi gList (dArgs (dVar 0) (dArgs0)))) dPt0 (dPt1 (dVar 1))))))) (sRet ((dLst (dArgs (dVar 1) (dArgs0))))) (sNil))
def inz : Nat → Nat → List Dv
  | _, 0 => []
  | k, n + 1 => .int (k : Nat) :: inz (k + 1) n
theorem ints_up : ∀ n k : Nat, inz k n = (List.range n).map fun i : Nat => Dv.int ((k : Int) + i)
  | 0, _ => rfl
  | n + 1, k => by
    rw [inz, ints_up n (k + 1), List.range_succ_eq_map]
    simp only [List.map_cons, List.map_map]
    congr 1
    apply List.map_congr_left
    intro i _
    simp only [Function.comp]
    congr 1
    omega
theorem up_ints (n : Nat) : upF 0 n = inz 0 n := by rw [ints_up]; rfl
section
variable {X : Dv} {xs : List Dv} {L : Led}
theorem nm_str {d : Dv} (h : nmB d = true) : ∃ z, d = .str z := by
  cases d with
  | str z => exact ⟨z, rfl⟩
  | _ => cases h
/-- the first loop -/
theorem loop1 (hX : Lt X xs) (hl : xs.length ≤ 1000) (hx : ∀ d ∈ xs, d.leaf = true) : ∀ (ds : List Dv) (ys : List Str) (o1 o2 : Option Sv), xs = ys.map .str ++ ds →
    match fwR ys ds with
    | some i => fLoop (.tup [1, 2]) fb1 (enumF ys.length ds) [some (.val X), o1, o2] L = .ok (.rt (.int i)) L
    | none => ∃ a b, fLoop (.tup [1, 2]) fb1 (enumF ys.length ds) [some (.val X), o1, o2] L = .ok (.nx [some (.val X), a, b]) L
  | [], ys, o1, o2, e => ⟨o1, o2, rfl⟩
  | d :: ds, ys, o1, o2, e => by
    have hd : d.leaf = true := hx d (by rw [e]; simp)
    have hn := name_ok (L := L) hd
    have hset : Tg.set (.tup [1, 2]) (.tup [.int (ys.length : Nat), d]) [some (.val X), o1, o2] = some [some (.val X), some (.val (.int (ys.length : Nat))), some (.val d)] := rfl
    have hk : ys.length ≤ xs.length := by rw [e]; simp
    have ht : xs.take ys.length = ys.map .str := by rw [e]; simp
    cases hb : nmB d with
    | false =>
      have hf : fwR ys (d :: ds) = some ys.length := by
        cases d with
        | str z => simp [fwR, hb]
        | _ => rfl
      rw [hf]
      show fLoop _ _ _ _ _ = _
      have hs : fb1 [some (.val X), some (.val (.int (ys.length : Nat))), some (.val d)] L = .ok (.rt (.int (ys.length : Nat))) L := by
        simp [fb1, hn, hb]
      simp only [enumF_cons, fLoop, hset, hs, Res.bind]
    | true =>
      obtain ⟨z, rfl⟩ := nm_str hb
      obtain ⟨s, es, ei⟩ := lt_sl (L := L) (z := z) hX (by omega) hk ht
      cases hc : ys.contains z with
      | true =>
        have hf : fwR ys (.str z :: ds) = some ys.length := by simp only [fwR, hb, hc]; rfl
        rw [hf]
        show fLoop _ _ _ _ _ = _
        have hs : fb1 [some (.val X), some (.val (.int (ys.length : Nat))), some (.val (.str z))] L = .ok (.rt (.int (ys.length : Nat))) L := by
          simp [fb1, hn, hb, es, ei, -List.contains_eq_mem, hc]
        simp only [enumF_cons, fLoop, hset, hs, Res.bind]
      | false =>
        have hf : fwR ys (.str z :: ds) = fwR (ys ++ [z]) ds := by simp only [fwR, hb, hc]; rfl
        rw [hf]
        have hs : fb1 [some (.val X), some (.val (.int (ys.length : Nat))), some (.val (.str z))] L = .ok (.nx [some (.val X), some (.val (.int (ys.length : Nat))), some (.val (.str z))]) L := by
          simp [fb1, hn, hb, es, ei, -List.contains_eq_mem, hc]
        have ih := loop1 hX hl hx ds (ys ++ [z]) (some (.val (.int (ys.length : Nat)))) (some (.val (.str z))) (by rw [e]; simp)
        have hlen : (ys ++ [z]).length = ys.length + 1 := by simp
        rw [hlen] at ih
        simp only [enumF_cons, fLoop, hset, hs, Res.bind]
        exact ih
/-- the law's loop -/
theorem loop2 (hX : Lt X xs) (hl : xs.length ≤ 1000) (hx : ∀ d ∈ xs, d.leaf = true) : ∀ (ds : List Dv) (ys : List Str) (o1 : Option Sv), xs = ys.map .str ++ ds →
    match fwR ys ds with
    | some i => fLoop (.one 1) fb2 (inz ys.length ds.length) [some (.val X), o1] L = .ok (.rt (.lst [.int i])) L
    | none => ∃ a, fLoop (.one 1) fb2 (inz ys.length ds.length) [some (.val X), o1] L = .ok (.nx [some (.val X), a]) L
  | [], ys, o1, e => ⟨o1, rfl⟩
  | d :: ds, ys, o1, e => by
    have hd : d.leaf = true := hx d (by rw [e]; simp)
    have hn := l_name_ok (L := L) hd
    have hset : Tg.set (.one 1) (.int (ys.length : Nat)) [some (.val X), o1] = some [some (.val X), some (.val (.int (ys.length : Nat)))] := rfl
    have hk : ys.length ≤ xs.length := by rw [e]; simp
    have ht : xs.take ys.length = ys.map .str := by rw [e]; simp
    have hix : gIx (.val X) (.val (.int ((ys.length : Nat) : Int))) L = some (.val d) := lt_ix hX (by rw [e]; simp)
    have hli := lt_list (L := L) hX (by omega)
    cases hb : nmB d with
    | false =>
      have hf : fwR ys (d :: ds) = some ys.length := by
        cases d with
        | str z => simp [fwR, hb]
        | _ => rfl
      rw [hf]
      show fLoop _ _ _ _ _ = _
      have hs : fb2 [some (.val X), some (.val (.int (ys.length : Nat)))] L = .ok (.rt (.lst [.int (ys.length : Nat)])) L := by
        simp [fb2, hix, hn, hb, sizeLine_eq]
      simp only [List.length_cons, inz, fLoop, hset, hs, Res.bind]
    | true =>
      obtain ⟨z, rfl⟩ := nm_str hb
      obtain ⟨s, es, ei⟩ := lt_sl (L := L) (z := z) (.inl rfl : Lt (.lst xs) xs) (by omega) hk ht
      cases hc : ys.contains z with
      | true =>
        have hf : fwR ys (.str z :: ds) = some ys.length := by simp only [fwR, hb, hc]; rfl
        rw [hf]
        show fLoop _ _ _ _ _ = _
        have hs : fb2 [some (.val X), some (.val (.int (ys.length : Nat)))] L = .ok (.rt (.lst [.int (ys.length : Nat)])) L := by
          simp [fb2, hix, hn, hb, hli, es, ei, -List.contains_eq_mem, hc, sizeLine_eq]
        simp only [List.length_cons, inz, fLoop, hset, hs, Res.bind]
      | false =>
        have hf : fwR ys (.str z :: ds) = fwR (ys ++ [z]) ds := by simp only [fwR, hb, hc]; rfl
        rw [hf]
        have hs : fb2 [some (.val X), some (.val (.int (ys.length : Nat)))] L = .ok (.nx [some (.val X), some (.val (.int (ys.length : Nat)))]) L := by
          simp [fb2, hix, hn, hb, hli, es, ei, -List.contains_eq_mem, hc]
        have ih := loop2 hX hl hx ds (ys ++ [z]) (some (.val (.int (ys.length : Nat)))) (by rw [e]; simp)
        have hlen : (ys ++ [z]).length = ys.length + 1 := by simp
        rw [hlen] at ih
        simp only [List.length_cons, inz, fLoop, hset, hs, Res.bind]
        exact ih
end
end K11

namespace K11
open PySem PySem.Spec PyProof.Rows L2 DL
def ltB : Dv → Option (List Dv)
  | .lst xs => some xs
  | .tup xs => some xs
  | _ => none
def wrD (d : Dv) : List Dv := match ltB d with
  | none => [.non]
  | some xs => if 1 ≤ xs.length ∧ xs.length ≤ 8 then (match fwR [] xs with
    | some i => [.int i]
    | none => []) else [.non]
theorem lt_of {d : Dv} {xs : List Dv} (h : ltB d = some xs) : Lt d xs := by
  cases d with
  | lst ys => cases h; exact .inl rfl
  | tup ys => cases h; exact .inr rfl
  | _ => cases h
theorem isL_of {d : Dv} {L : Led} (h : d.leaf = true) : gIsi [.val d, .val (.tup [.ty "list", .ty "tuple"])] L = some (.val (.bl (ltB d).isSome)) := by
  cases d with
  | non => rfl
  | bl b => rfl
  | int i => rfl
  | str z => rfl
  | lst xs => rfl
  | tup xs => rfl
  | dic ks => rfl
  | _ => cases h
theorem leafs_mem : ∀ {xs : List Dv}, leafs xs = true → ∀ d ∈ xs, d.leaf = true
  | [], _, d, hd => by cases hd
  | x :: xs, h, d, hd => by
    simp only [leafs, Bool.and_eq_true] at h
    rcases List.mem_cons.mp hd with rfl | h'
    · exact h.1
    · exact leafs_mem h.2 d h'
theorem lt_leaf {d : Dv} {xs : List Dv} (h : d.leaf = true) (e : ltB d = some xs) : ∀ x ∈ xs, x.leaf = true := by
  rcases lt_of e with rfl | rfl
  · exact leafs_mem h
  · exact leafs_mem h
theorem list_ok {d : Dv} {L : Led} (h : d.leaf = true) : m_is_list [.val d] L = .ok (.bl (ltB d).isSome) L := by
  unfold m_is_list
  rw [mOf_eq]
  show endOf (fb_is_list [some (.val d)] L) = _
  simp [fb_is_list, isL_of h, sizeLine_eq]
def fwD (xs : List Dv) : Dv := match fwR [] xs with
  | some i => .int i
  | none => .non
theorem first_ok {d : Dv} {xs : List Dv} {L : Led} (h : d.leaf = true) (e : ltB d = some xs) (hl : xs.length ≤ 1000) : m_first_wrong_symbol [.val d] L = .ok (fwD xs) L := by
  unfold m_first_wrong_symbol
  rw [mOf_eq]
  show endOf (fb_first_wrong_symbol [some (.val d), none, none] L) = _
  have hfb : fb_first_wrong_symbol = sSeq (sFor (iEn (dVar 0)) (.tup [1, 2]) fb1) (sRet (dC .non)) := rfl
  have hs : (Sv.val d).src = some ⟨xs, true⟩ := by rcases lt_of e with rfl | rfl <;> rfl
  have l := loop1 (L := L) (lt_of e) hl (lt_leaf h e) xs [] none none rfl
  rw [hfb]
  unfold fwD
  cases hf : fwR [] xs with
  | some i =>
    rw [hf] at l
    have l' : fLoop (.tup [1, 2]) fb1 (enumF 0 xs) [some (.val d), none, none] L = .ok (.rt (.int i)) L := l
    simp [hs, l']
  | none =>
    rw [hf] at l
    obtain ⟨a, b, l⟩ := l
    have l' : fLoop (.tup [1, 2]) fb1 (enumF 0 xs) [some (.val d), none, none] L = .ok (.nx [some (.val d), a, b]) L := l
    simp [hs, l']
theorem one_sz : 1 ≤ sizeLine := by rw [sizeLine_eq]; decide
theorem two_sz : 2 ≤ sizeLine := by rw [sizeLine_eq]; decide
theorem iR1_eq {fa : DM Sv} {ρ : Slo} {L L1 : Led} {j : Int} (h : fa ρ L = .ok (.val (.int j)) L1) (hr : rgOk 0 j) : iR1 fa ρ L = .ok ⟨upF 0 j.toNat, true⟩ L1 := by
  unfold iR1
  rw [h]
  exact if_pos hr
def wI : DM Fl := (sIf (dOr (dNot (dB ((dBi gIsi (dArgs (dVar 0) (dArgs ((dTup (dArgs ((fun _ L => .ok (.val (.ty "list")) L)) (dArgs ((fun _ L => .ok (.val (.ty "tuple")) L)) (dArgs0))))) (dArgs0))))))) (dNot (dB (dChain (gCmp fun i j => decide (i ≤ j)) (gCmp fun i j => decide (i ≤ j)) (dC (.int 1)) ((dBi gLen (dArgs (dVar 0) (dArgs0)))) (dC (.int 8)))))) (sRet ((dLst (dArgs (dC .non) (dArgs0))))) (sNil))
theorem wrong_ok {d : Dv} {L : Led} (h : d.leaf = true) : m_l_wrong [.val d] L = .ok (.lst (wrD d)) L := by
  unfold m_l_wrong
  rw [mOf_eq]
  show endOf (fb_l_wrong [some (.val d), none] L) = _
  have hfb : fb_l_wrong = sSeq wI (sSeq (sFor (iR1 (dBi gLen (dArgs (dVar 0) dArgs0))) (.one 1) fb2) (sRet (dLst dArgs0))) := rfl
  rw [hfb]
  have z0 : 0 ≤ sizeLine := Nat.zero_le _
  have z1 : 1 ≤ sizeLine := one_sz
  have z2 : 2 ≤ sizeLine := two_sz
  have hi := isL_of (L := L) h
  unfold wrD
  cases e : ltB d with
  | none =>
    rw [e] at hi
    simp [wI, hi, z0, z1, z2]
  | some xs =>
    rw [e] at hi
    have hlen := lt_len (L := L) (lt_of e)
    by_cases h1 : 1 ≤ xs.length
    · by_cases h2 : xs.length ≤ 8
      · have h1' : (1 : Int) ≤ xs.length := by omega
        have h2' : (xs.length : Int) ≤ 8 := by omega
        have hrg : rgOk 0 (xs.length : Int) := ⟨by decide, by decide, by omega, by omega⟩
        have hR : iR1 (dBi gLen (dArgs (dVar 0) dArgs0)) [some (.val d), none] L = .ok ⟨inz 0 xs.length, true⟩ L := by
          have hg : dBi gLen (dArgs (dVar 0) dArgs0) [some (.val d), none] L = .ok (.val (.int xs.length)) L := by simp [hlen]
          have hq := iR1_eq hg hrg
          rw [Int.toNat_natCast, up_ints] at hq
          exact hq
        have l := loop2 (L := L) (lt_of e) (by omega) (lt_leaf h e) xs [] none rfl
        simp only [h1, h2, and_self, if_true]
        cases hf : fwR [] xs with
        | some i =>
          rw [hf] at l
          have l' : fLoop (.one 1) fb2 (inz 0 xs.length) [some (.val d), none] L = .ok (.rt (.lst [.int i])) L := l
          have hI : wI [some (.val d), none] L = .ok (.nx [some (.val d), none]) L := by simp [wI, hi, hlen, h1', h2', z0, z1, z2]
          have hF : sFor (iR1 (dBi gLen (dArgs (dVar 0) dArgs0))) (.one 1) fb2 [some (.val d), none] L = .ok (.rt (.lst [.int i])) L := by
            rw [ev_for, hR]
            exact l'
          rw [ev_seq, hI]
          show endOf (sSeq _ _ _ L) = _
          rw [ev_seq, hF]
          rfl
        | none =>
          rw [hf] at l
          obtain ⟨a, l⟩ := l
          have l' : fLoop (.one 1) fb2 (inz 0 xs.length) [some (.val d), none] L = .ok (.nx [some (.val d), a]) L := l
          have hI : wI [some (.val d), none] L = .ok (.nx [some (.val d), none]) L := by simp [wI, hi, hlen, h1', h2', z0, z1, z2]
          have hF : sFor (iR1 (dBi gLen (dArgs (dVar 0) dArgs0))) (.one 1) fb2 [some (.val d), none] L = .ok (.nx [some (.val d), a]) L := by
            rw [ev_for, hR]
            exact l'
          rw [ev_seq, hI]
          show endOf (sSeq _ _ _ L) = _
          rw [ev_seq, hF]
          show endOf (sRet (dLst dArgs0) [some (.val d), a] L) = _
          simp [z0]
      · have h1' : (1 : Int) ≤ xs.length := by omega
        have h2' : ¬ (xs.length : Int) ≤ 8 := by omega
        simp [wI, hi, hlen, h1', h2', h2, z0, z1, z2]
    · have h1' : ¬ (1 : Int) ≤ xs.length := by omega
      simp [wI, hi, hlen, h1', h1, z0, z1, z2]
theorem alphabet_ok {d : Dv} {L : Led} (h : d.leaf = true) : m_is_alphabet [.val d] L = .ok (.bl (wrD d).isEmpty) L := by
  unfold m_is_alphabet
  rw [mOf_eq]
  show endOf (fb_is_alphabet [some (.val d)] L) = _
  have hi := list_ok (L := L) h
  unfold wrD
  cases e : ltB d with
  | none =>
    rw [e] at hi
    simp [fb_is_alphabet, hi]
  | some xs =>
    rw [e] at hi
    have hlen := lt_len (L := L) (lt_of e)
    by_cases h1 : 1 ≤ xs.length
    · by_cases h2 : xs.length ≤ 8
      · have h1' : (1 : Int) ≤ xs.length := by omega
        have h2' : (xs.length : Int) ≤ 8 := by omega
        have l := first_ok (L := L) h e (by omega)
        unfold fwD at l
        simp only [h1, h2, and_self, if_true]
        cases hf : fwR [] xs with
        | some i =>
          rw [hf] at l
          have hn : gIsN false (.val (.int (i : Nat))) (.val .non) L = some (.val (.bl false)) := rfl
          simp [fb_is_alphabet, hi, hlen, h1', h2', l, hn]
        | none =>
          rw [hf] at l
          have hn : gIsN false (.val .non) (.val .non) L = some (.val (.bl true)) := rfl
          simp [fb_is_alphabet, hi, hlen, h1', h2', l, hn]
      · have h1' : (1 : Int) ≤ xs.length := by omega
        have h2' : ¬ (xs.length : Int) ≤ 8 := by omega
        simp [fb_is_alphabet, hi, hlen, h1', h2', h2]
    · have h1' : ¬ (1 : Int) ≤ xs.length := by omega
      simp [fb_is_alphabet, hi, hlen, h1', h1]
end K11

namespace K11
open PySem PySem.Spec PyProof.Rows L2 DL
theorem eq_str {z : Str} {L : Led} : gEq (.val (.str z)) (.val (.str z)) L = some (.val (.bl true)) := by
  have h : okP (.str z) (.str z) = true := by simp [okP, PyData.plain, PyData.depth]
  simp [gEq, gEqB, Sv.py, Dv.py, h, PyData.eqv]
def ans (d : Dv) : List Dv := [.bl (nmB d), .bl (intB d), .bl (cntB d), .bl (wrD d).isEmpty]
theorem judged_ok {d : Dv} {n k : Nat} {L : Led} (hd : OkB n k d) (hn : n ≤ 200000) (hk : k ≤ 64) : m_l_judged [.val d] L = .ok (.bl true) L := by
  have h := hd.leaf
  obtain ⟨z, hz, hr⟩ := repr_val hd hn hk
  have ha : OkB 12 3 (.lst [.lst (ans d), .lst (ans d)]) := ⟨by simp [ans, Dv.leaf, leafs], by simp [ans, Dv.blk, blks], by simp [ans, Dv.dep, deps]⟩
  obtain ⟨y, hy, hy'⟩ := repr_val ha (by decide) (by decide)
  have z2 : 2 ≤ sizeLine := two_sz
  have z4 : 4 ≤ sizeLine := by rw [sizeLine_eq]; decide
  have e1 := name_ok (L := L) h
  have e2 := integer_ok (L := L) h
  have e3 := count_ok (L := L) h
  have e4 := alphabet_ok (L := L) h
  have l1 := l_name_ok (L := L) h
  have l2 := l_integer_ok (L := L) h
  have l4 := wrong_ok (L := L) h
  have hc : (dAndV (dVar 2) (dOp (gCmp fun i j => decide (j ≤ i)) (dVar 0) (dC (.int 0)))) [some (.val d), some (.val (.str z)), some (.val (.bl (intB d))), none, none, none] L = .ok (.val (.bl (cntB d))) L := by
    cases d with
    | int i => simp [intB, cntB]
    | non => simp [intB, cntB]
    | bl b => simp [intB, cntB]
    | str z => simp [intB, cntB]
    | lst xs => simp [intB, cntB]
    | tup xs => simp [intB, cntB]
    | dic ks => simp [intB, cntB]
    | _ => cases h
  unfold m_l_judged
  rw [mOf_eq]
  show endOf (fb_l_judged [some (.val d), none, none, none, none, none] L) = _
  have s1 : (sPar 1 2 [.e ((dBi gRepr (dArgs (dVar 0) (dArgs0)))), .e ((dCall 1 m_l_is_integer (dArgs (dVar 0) (dArgs0))))]) [some (.val d), none, none, none, none, none] L = .ok (.nx [some (.val d), some (.val (.str z)), some (.val (.bl (intB d))), none, none, none]) L := by
    simp [hr, l2]
  have s2 : (sSet 3 ((dLst (dArgs ((dCall 1 m_l_is_name (dArgs (dVar 0) (dArgs0)))) (dArgs (dVar 2) (dArgs ((dAndV (dVar 2) ((dOp (gCmp fun i j => decide (j ≤ i)) (dVar 0) (dC (.int 0)))))) (dArgs ((dOp gEq ((dCall 1 m_l_wrong (dArgs (dVar 0) (dArgs0)))) ((dLst (dArgs0))))) (dArgs0)))))))) [some (.val d), some (.val (.str z)), some (.val (.bl (intB d))), none, none, none] L = .ok (.nx [some (.val d), some (.val (.str z)), some (.val (.bl (intB d))), some (.val (.lst (ans d))), none, none]) L := by
    simp [-ev_andV, hc, l1, l4, eq_nil, z4, ans]
  have s3 : (sSet 4 ((dLst (dArgs ((dCall 1 m_is_name (dArgs (dVar 0) (dArgs0)))) (dArgs ((dCall 1 m_is_integer (dArgs (dVar 0) (dArgs0)))) (dArgs ((dCall 1 m_is_count (dArgs (dVar 0) (dArgs0)))) (dArgs ((dCall 1 m_is_alphabet (dArgs (dVar 0) (dArgs0)))) (dArgs0)))))))) [some (.val d), some (.val (.str z)), some (.val (.bl (intB d))), some (.val (.lst (ans d))), none, none] L = .ok (.nx [some (.val d), some (.val (.str z)), some (.val (.bl (intB d))), some (.val (.lst (ans d))), some (.val (.lst (ans d))), none]) L := by
    simp [e1, e2, e3, e4, z4, ans]
  have s4 : (sSet 5 ((dLst (dArgs ((dCallK 0 1 [0] m_is_name dArgs0 (dArgs (dVar 0) (dArgs0)))) (dArgs ((dCallK 0 1 [0] m_is_integer dArgs0 (dArgs (dVar 0) (dArgs0)))) (dArgs ((dCallK 0 1 [0] m_is_count dArgs0 (dArgs (dVar 0) (dArgs0)))) (dArgs ((dCallK 0 1 [0] m_is_alphabet dArgs0 (dArgs (dVar 0) (dArgs0)))) (dArgs0)))))))) [some (.val d), some (.val (.str z)), some (.val (.bl (intB d))), some (.val (.lst (ans d))), some (.val (.lst (ans d))), none] L = .ok (.nx [some (.val d), some (.val (.str z)), some (.val (.bl (intB d))), some (.val (.lst (ans d))), some (.val (.lst (ans d))), some (.val (.lst (ans d)))]) L := by
    simp [pick, e1, e2, e3, e4, z4, ans]
  unfold fb_l_judged
  rw [ev_seq, s1]
  show endOf (sSeq _ _ [some (.val d), some (.val (.str z)), some (.val (.bl (intB d))), none, none, none] L) = _
  rw [ev_seq, s2]
  show endOf (sSeq _ _ [some (.val d), some (.val (.str z)), some (.val (.bl (intB d))), some (.val (.lst (ans d))), none, none] L) = _
  rw [ev_seq, s3]
  show endOf (sSeq _ _ [some (.val d), some (.val (.str z)), some (.val (.bl (intB d))), some (.val (.lst (ans d))), some (.val (.lst (ans d))), none] L) = _
  rw [ev_seq, s4]
  show endOf (sRet _ [some (.val d), some (.val (.str z)), some (.val (.bl (intB d))), some (.val (.lst (ans d))), some (.val (.lst (ans d))), some (.val (.lst (ans d)))] L) = _
  simp [hy', hr, eq_str, z2]
end K11

namespace K11
open PySem PySem.Spec PyProof.Rows L2 DL
theorem require_ok {d : Dv} {L : Led} (h : d.leaf = true) : m_require_alphabet [.val d] L = match wrD d with
    | [] => .ok .non L
    | x :: _ => .err ⟨"InvalidAlphabet", [("position", x)]⟩ [] L := by
  unfold m_require_alphabet
  rw [mOf_eq]
  show endOf (fb_require_alphabet [some (.val d), none] L) = _
  have hi := list_ok (L := L) h
  have z1 : 1 ≤ sizeLine := one_sz
  unfold wrD
  cases e : ltB d with
  | none =>
    rw [e] at hi
    simp [fb_require_alphabet, hi]
  | some xs =>
    rw [e] at hi
    have hlen := lt_len (L := L) (lt_of e)
    by_cases h1 : 1 ≤ xs.length
    · by_cases h2 : xs.length ≤ 8
      · have h1' : (1 : Int) ≤ xs.length := by omega
        have h2' : (xs.length : Int) ≤ 8 := by omega
        have l := first_ok (L := L) h e (by omega)
        unfold fwD at l
        simp only [h1, h2, and_self, if_true]
        cases hf : fwR [] xs with
        | some i =>
          rw [hf] at l
          have hn : gIsN true (.val (.int (i : Nat))) (.val .non) L = some (.val (.bl true)) := rfl
          simp [fb_require_alphabet, hi, hlen, h1', h2', l, hn]
        | none =>
          rw [hf] at l
          have hn : gIsN true (.val .non) (.val .non) L = some (.val (.bl false)) := rfl
          simp [fb_require_alphabet, hi, hlen, h1', h2', l, hn]
      · have h1' : (1 : Int) ≤ xs.length := by omega
        have h2' : ¬ (xs.length : Int) ≤ 8 := by omega
        simp [fb_require_alphabet, hi, hlen, h1', h2', h2]
    · have h1' : ¬ (1 : Int) ≤ xs.length := by omega
      simp [fb_require_alphabet, hi, hlen, h1', h1]
/-! ### words over an alphabet -/
def symB (ys : List Str) (d : Dv) : Bool := match d with
  | .str z => nmB (.str z) && ys.contains z
  | _ => false
theorem symbol_ok {A d : Dv} {ys : List Str} {L : Led} (hA : Lt A (ys.map .str)) (h : d.leaf = true) : m_is_symbol [.val A, .val d] L = .ok (.bl (symB ys d)) L := by
  unfold m_is_symbol
  rw [mOf_eq]
  show endOf (fb_is_symbol [some (.val A), some (.val d)] L) = _
  have hn := name_ok (L := L) h
  have hs : gIsN false (.val A) (.val .non) L = some (.val (.bl false)) := by rcases hA with rfl | rfl <;> rfl
  have hi : ∀ z, gIn false (.val (.str z)) (.val A) L = some (.val (.bl (ys.contains z))) := fun z => by
    rcases hA with rfl | rfl
    · exact in_strs
    · exact in_strsT
  cases hb : nmB d with
  | true =>
    obtain ⟨z, rfl⟩ := nm_str hb
    simp [symB, fb_is_symbol, hn, hb, hs, hi, -List.contains_eq_mem]
  | false =>
    rw [hb] at hn
    cases d with
    | str z => simp [symB, fb_is_symbol, hn, hb]
    | _ => simp [symB, fb_is_symbol, hn]
end K11

namespace K11
open PySem PySem.Spec PyProof.Rows L2 DL
def fb3 : DM Fl := (sIf (dNot (dB ((dCall 2 m_is_symbol (dArgs (dVar 0) (dArgs (dVar 3) (dArgs0))))))) (sRet (dVar 2)) (sNil))
theorem loop3 {A V : Dv} {ys : List Str} {L : Led} (hA : Lt A (ys.map .str)) : ∀ (ds : List Dv) (k : Nat) (o2 o3 : Option Sv), (∀ d ∈ ds, d.leaf = true) →
    if ds.all (symB ys) = true then ∃ a b, fLoop (.tup [2, 3]) fb3 (enumF k ds) [some (.val A), some (.val V), o2, o3] L = .ok (.nx [some (.val A), some (.val V), a, b]) L
    else ∃ i : Int, fLoop (.tup [2, 3]) fb3 (enumF k ds) [some (.val A), some (.val V), o2, o3] L = .ok (.rt (.int i)) L
  | [], k, o2, o3, _ => ⟨o2, o3, rfl⟩
  | d :: ds, k, o2, o3, hx => by
    have hs := symbol_ok (L := L) hA (hx d (by simp))
    have hset : Tg.set (.tup [2, 3]) (.tup [.int (k : Nat), d]) [some (.val A), some (.val V), o2, o3] = some [some (.val A), some (.val V), some (.val (.int (k : Nat))), some (.val d)] := rfl
    cases hb : symB ys d with
    | true =>
      have hr : fb3 [some (.val A), some (.val V), some (.val (.int (k : Nat))), some (.val d)] L = .ok (.nx [some (.val A), some (.val V), some (.val (.int (k : Nat))), some (.val d)]) L := by
        simp [fb3, hs, hb]
      have ih := loop3 (V := V) (L := L) hA ds (k + 1) (some (.val (.int (k : Nat)))) (some (.val d)) fun x hx' => hx x (by simp [hx'])
      simp only [List.all_cons, hb, Bool.true_and, enumF_cons, fLoop, hset, hr, Res.bind]
      exact ih
    | false =>
      have hr : fb3 [some (.val A), some (.val V), some (.val (.int (k : Nat))), some (.val d)] L = .ok (.rt (.int (k : Nat))) L := by
        simp [fb3, hs, hb]
      simp only [List.all_cons, hb, Bool.false_and, enumF_cons, fLoop, hset, hr, Res.bind]
      exact ⟨_, rfl⟩
def wordB (ys : List Str) (v : Dv) : Bool := match ltB v with
  | some ds => ds.all (symB ys)
  | none => false
theorem entry_ok {A V : Dv} {ys : List Str} {ds : List Dv} {L : Led} (hA : Lt A (ys.map .str)) (hV : ltB V = some ds) (h : V.leaf = true) : if ds.all (symB ys) = true then m_first_wrong_entry [.val A, .val V] L = .ok .non L else ∃ i : Int, m_first_wrong_entry [.val A, .val V] L = .ok (.int i) L := by
  have hs : (Sv.val V).src = some ⟨ds, true⟩ := by rcases lt_of hV with rfl | rfl <;> rfl
  have l := loop3 (V := V) (L := L) hA ds 0 none none (lt_leaf h hV)
  have hfb : fb_first_wrong_entry = sSeq (sFor (iEn (dVar 1)) (.tup [2, 3]) fb3) (sRet (dC .non)) := rfl
  have hm : m_first_wrong_entry [.val A, .val V] L = endOf (fb_first_wrong_entry [some (.val A), some (.val V), none, none] L) := rfl
  cases hb : ds.all (symB ys) with
  | true =>
    rw [hb] at l
    obtain ⟨a, b, l⟩ := l
    rw [if_pos rfl, hm, hfb]
    simp [hs, l]
  | false =>
    rw [hb] at l
    obtain ⟨i, l⟩ := l
    refine ⟨i, ?_⟩
    rw [hm, hfb]
    simp [hs, l]
/-- IS_WORD over a good alphabet -/
theorem word_ok {A V : Dv} {ys : List Str} {L : Led} (hA : Lt A (ys.map .str)) (hw : wrD A = []) (ha : A.leaf = true) (h : V.leaf = true) : m_is_word [.val A, .val V] L = .ok (.bl (wordB ys V)) L := by
  have hm : m_is_word [.val A, .val V] L = endOf (fb_is_word [some (.val A), some (.val V)] L) := rfl
  rw [hm]
  have hr := require_ok (L := L) ha
  rw [hw] at hr
  have hi := list_ok (L := L) h
  unfold wordB
  cases e : ltB V with
  | none =>
    rw [e] at hi
    simp [fb_is_word, hr, hi]
  | some ds =>
    rw [e] at hi
    have l := entry_ok (L := L) hA e h
    cases hb : ds.all (symB ys) with
    | true =>
      rw [hb, if_pos rfl] at l
      have hn : gIsN false (.val .non) (.val .non) L = some (.val (.bl true)) := rfl
      simp [fb_is_word, hr, hi, l, hn, hb]
    | false =>
      rw [hb] at l
      obtain ⟨i, l⟩ := l
      have hn : gIsN false (.val (.int i)) (.val .non) L = some (.val (.bl false)) := rfl
      simp [fb_is_word, hr, hi, l, hn, hb]
theorem word_bad {A V x : Dv} {xs : List Dv} {L : Led} (hw : wrD A = x :: xs) (ha : A.leaf = true) : m_is_word [.val A, .val V] L = .err ⟨"InvalidAlphabet", [("position", x)]⟩ [] L := by
  have hm : m_is_word [.val A, .val V] L = endOf (fb_is_word [some (.val A), some (.val V)] L) := rfl
  rw [hm]
  have hr := require_ok (L := L) ha
  rw [hw] at hr
  simp [fb_is_word, hr]
end K11

namespace K11
open PySem PySem.Spec PyProof.Rows L2 DL
def tbody : DM Fl := (sSet 3 ((dIf ((dB (dVar 2))) ((dCallK 0 2 [1, 0] m_is_word dArgs0 (dArgs (dVar 1) (dArgs (dVar 0) (dArgs0))))) ((dCall 2 m_is_word (dArgs (dVar 0) (dArgs (dVar 1) (dArgs0))))))))
def tsuite : DM Fl := ((sSeq (sSet 5 ((dOrV ((dIsx 4 ct_InvalidAlphabet__InvalidName_InvalidWord ((dTup (dArgs (dC (.cls "InvalidName")) (dArgs (dC (.cls "InvalidWord")) (dArgs0))))))) ((dNotV ((dIsx 4 ct_InvalidAlphabet__ShortlogError (dC (.cls "ShortlogError")))))))))
    (sSet 3 ((dIf ((dB (dVar 5))) ((dLst (dArgs (dC (.str "other")) (dArgs0)))) ((dLst (dArgs ((dXf 4 "position" ["InvalidAlphabet"])) (dArgs0)))))))))
theorem ev_try {i : Nat} {mt : List (Str × Bool)} {fb fs : DM Fl} {ρ r : Slo} {L L1 : Led} {e : Exn} (h : fb ρ L = .err e r L1) (hm : mt.lookup e.cls = some true) : sTry i mt fb fs ρ L = (noErr (fs (r.set i (some (.xc e.cls e.fs))) L1)).bind fun fl L2 => .ok (unFl i fl) L2 := by
  simp [sTry, h, hm]
theorem ev_try0 {i : Nat} {mt : List (Str × Bool)} {fb fs : DM Fl} {ρ : Slo} {L L1 : Led} {fl : Fl} (h : fb ρ L = .ok fl L1) : sTry i mt fb fs ρ L = .ok fl L1 := by
  simp [sTry, h]
theorem told_good {A V : Dv} {b : Bool} {ys : List Str} {z : Str} {L : Led} (hA : Lt A (ys.map .str)) (hw : wrD A = []) (ha : A.leaf = true) (h : V.leaf = true) (hz : gRepr [.val (.bl (wordB ys V))] L = some (.val (.str z))) : m_l_told [.val A, .val V, .val (.bl b)] L = .ok (.str z) L := by
  have hm : m_l_told [.val A, .val V, .val (.bl b)] L = endOf (fb_l_told [some (.val A), some (.val V), some (.val (.bl b)), none, none, none] L) := rfl
  have hfb : fb_l_told = sSeq (sTry 4 [("InvalidAlphabet", true)] tbody tsuite) (sRet (dBi gRepr (dArgs (dVar 3) dArgs0))) := rfl
  have hb : tbody [some (.val A), some (.val V), some (.val (.bl b)), none, none, none] L = .ok (.nx [some (.val A), some (.val V), some (.val (.bl b)), some (.val (.bl (wordB ys V))), none, none]) L := by
    have e := word_ok (L := L) hA hw ha h
    cases b <;> simp [tbody, pick, e]
  rw [hm, hfb, ev_seq, ev_try0 hb]
  show endOf (sRet _ [some (.val A), some (.val V), some (.val (.bl b)), some (.val (.bl (wordB ys V))), none, none] L) = _
  simp [hz]
theorem told_bad {A V x : Dv} {b : Bool} {xs : List Dv} {z : Str} {L : Led} (hw : wrD A = x :: xs) (ha : A.leaf = true) (hz : gRepr [.val (.lst [x])] L = some (.val (.str z))) : m_l_told [.val A, .val V, .val (.bl b)] L = .ok (.str z) L := by
  have hm : m_l_told [.val A, .val V, .val (.bl b)] L = endOf (fb_l_told [some (.val A), some (.val V), some (.val (.bl b)), none, none, none] L) := rfl
  have hfb : fb_l_told = sSeq (sTry 4 [("InvalidAlphabet", true)] tbody tsuite) (sRet (dBi gRepr (dArgs (dVar 3) dArgs0))) := rfl
  have z1 : 1 ≤ sizeLine := one_sz
  have hb : tbody [some (.val A), some (.val V), some (.val (.bl b)), none, none, none] L = .err ⟨"InvalidAlphabet", [("position", x)]⟩ [some (.val A), some (.val V), some (.val (.bl b)), none, none, none] L := by
    have e := word_bad (V := V) (L := L) hw ha
    cases b <;> simp [tbody, pick, e, Res.at_]
  have h1 : dIsx 4 ct_InvalidAlphabet__InvalidName_InvalidWord (dTup (dArgs (dC (.cls "InvalidName")) (dArgs (dC (.cls "InvalidWord")) (dArgs0)))) [some (.val A), some (.val V), some (.val (.bl b)), none, some (.xc "InvalidAlphabet" [("position", x)]), none] L = .ok (.val (.bl false)) L := by
    rfl
  have h2 : dIsx 4 ct_InvalidAlphabet__ShortlogError (dC (.cls "ShortlogError")) [some (.val A), some (.val V), some (.val (.bl b)), none, some (.xc "InvalidAlphabet" [("position", x)]), none] L = .ok (.val (.bl true)) L := by
    rfl
  have h3 : dXf 4 "position" ["InvalidAlphabet"] [some (.val A), some (.val V), some (.val (.bl b)), none, some (.xc "InvalidAlphabet" [("position", x)]), some (.val (.bl false))] L = .ok (.val x) L := by
    simp [dXf]
  have hs : tsuite [some (.val A), some (.val V), some (.val (.bl b)), none, some (.xc "InvalidAlphabet" [("position", x)]), none] L = .ok (.nx [some (.val A), some (.val V), some (.val (.bl b)), some (.val (.lst [x])), some (.xc "InvalidAlphabet" [("position", x)]), some (.val (.bl false))]) L := by
    simp [tsuite, h1, h2, h3, z1]
  rw [hm, hfb, ev_seq, ev_try hb (show List.lookup (Str.ofString "InvalidAlphabet") [(Str.ofString "InvalidAlphabet", true)] = some true by decide +kernel)]
  show endOf (((noErr (tsuite [some (.val A), some (.val V), some (.val (.bl b)), none, some (.xc "InvalidAlphabet" [("position", x)]), none] L)).bind _).bind _) = _
  rw [hs]
  show endOf (sRet _ [some (.val A), some (.val V), some (.val (.bl b)), some (.val (.lst [x])), none, some (.val (.bl false))] L) = _
  simp [hz]
end K11

namespace K11
open PySem PySem.Spec PyProof.Rows L2 DL
theorem fwR_none : ∀ (ds : List Dv) (ys : List Str), fwR ys ds = none → ∃ zs : List Str, ds = zs.map .str
  | [], _, _ => ⟨[], rfl⟩
  | d :: ds, ys, h => by
    cases d with
    | str z =>
      simp only [fwR] at h
      split at h
      · obtain ⟨zs, rfl⟩ := fwR_none ds _ h
        exact ⟨z :: zs, rfl⟩
      · cases h
    | _ => cases h
/-- a good alphabet -/
theorem good_of {A : Dv} (h : wrD A = []) : ∃ ys : List Str, ltB A = some (ys.map .str) ∧ 1 ≤ ys.length ∧ ys.length ≤ 8 := by
  unfold wrD at h
  cases e : ltB A with
  | none => rw [e] at h; cases h
  | some xs =>
    rw [e] at h
    simp only at h
    split at h
    · rename_i hl
      cases hf : fwR [] xs with
      | some i => rw [hf] at h; cases h
      | none =>
        obtain ⟨zs, rfl⟩ := fwR_none xs [] hf
        exact ⟨zs, rfl, by simpa using hl.1, by simpa using hl.2⟩
    · cases h
theorem fwR_lt : ∀ (ds : List Dv) (ys : List Str) (i : Nat), fwR ys ds = some i → i < ys.length + ds.length
  | [], _, _, h => by cases h
  | d :: ds, ys, i, h => by
    cases d with
    | str z =>
      simp only [fwR] at h
      split at h
      · have := fwR_lt ds _ i h
        simp at this ⊢
        omega
      · cases h; simp
    | _ => cases h; simp
theorem wr_one {A : Dv} (h : wrD A ≠ []) : ∃ x, wrD A = [x] ∧ (x = .non ∨ ∃ i : Nat, x = .int i ∧ i < 8) := by
  unfold wrD at h ⊢
  cases e : ltB A with
  | none => exact ⟨.non, rfl, .inl rfl⟩
  | some xs =>
    rw [e] at h
    simp only at h ⊢
    split
    · rename_i hl
      rw [if_pos hl] at h
      cases hf : fwR [] xs with
      | some i =>
        have := fwR_lt xs [] i hf
        exact ⟨.int i, rfl, .inr ⟨i, rfl, by simp at this; omega⟩⟩
      | none => rw [hf] at h; exact absurd rfl h
    · exact ⟨.non, rfl, .inl rfl⟩
theorem ne_str {z : Str} {L : Led} : gNe (.val (.str z)) (.val (.str z)) L = some (.val (.bl false)) := by
  have h : okP (.str z) (.str z) = true := by simp [okP, PyData.plain, PyData.depth]
  simp [gNe, gEqB, Sv.py, Dv.py, h, PyData.eqv]
theorem ne_two {z : Str} {L : Led} : gNe (.val (.lst [.str z, .str z])) (.val (.lst [.str z, .str z])) L = some (.val (.bl false)) := by
  have h : okP (.list [.str z, .str z]) (.list [.str z, .str z]) = true := by simp [okP, PyData.plain, PyData.plainAll, PyData.depth, PyData.depthAll]
  simp [gNe, gEqB, Sv.py, Dv.py, pys, h, PyData.eqv, PyData.eqvAll]
end K11

namespace K11
open PySem PySem.Spec PyProof.Rows L2 DL
def rIn : DM Sv := (dAndV ((dCall 1 m_l_is_name (dArgs (dVar 12) (dArgs0)))) ((dOp (gIn false) (dVar 12) (dVar 3))))
def r8 : DM Sv := (dAndV ((dBi gIsi (dArgs (dVar 7) (dArgs ((dTup (dArgs ((fun _ L => .ok (.val (.ty "list")) L)) (dArgs ((fun _ L => .ok (.val (.ty "tuple")) L)) (dArgs0))))) (dArgs0))))) ((dBi gAll (dArgs ((dLc (iV (dVar 7)) (.one 12) dTr rIn [12])) (dArgs0)))))
theorem r8_ok {o0 o1 o2 o4 o5 o6 o8 o9 o10 o11 o12 : Option Sv} {V : Dv} {ys : List Str} {L : Led} (h : V.leaf = true) (hl : ∀ ds, ltB V = some ds → ds.length ≤ 1000) : r8 [o0, o1, o2, some (.val (.lst (ys.map .str))), o4, o5, o6, some (.val V), o8, o9, o10, o11, o12] L = .ok (.val (.bl (wordB ys V))) L := by
  have hi := isL_of (L := L) h
  have z2 : 2 ≤ sizeLine := two_sz
  unfold wordB
  cases e : ltB V with
  | none =>
    rw [e] at hi
    simp [r8, hi, z2]
  | some ds =>
    rw [e] at hi
    have hd := hl ds e
    have hs : (Sv.val V).src = some ⟨ds, true⟩ := by rcases lt_of e with rfl | rfl <;> rfl
    have hx := lt_leaf h e
    have c := cl_fn (T := .one 12) (ft := dTr) (fe := rIn) (ρ := [o0, o1, o2, some (.val (.lst (ys.map .str))), o4, o5, o6, some (.val V), o8, o9, o10, o11, none]) (L := L) id (fun d => Dv.bl (symB ys d)) (fun _ => true) ds (fun d hm => by
      refine ⟨_, rfl, rfl, fun _ => ?_⟩
      have hn := l_name_ok (L := L) (hx d hm)
      cases hb : nmB d with
      | true =>
        obtain ⟨z, rfl⟩ := nm_str hb
        simp [rIn, symB, hn, hb, in_strs, -List.contains_eq_mem]
      | false =>
        rw [hb] at hn
        cases d with
        | str z => simp [rIn, symB, hn, hb]
        | _ => simp [rIn, symB, hn]) [] (by rw [sizeLine_eq]; simp; omega)
    have hft : List.filter (fun _ : Dv => true) ds = ds := List.filter_eq_self.mpr fun _ _ => rfl
    rw [hft, List.map_id] at c
    have hm : ds.map (fun d => Dv.bl (symB ys d)) = (ds.map (symB ys)).map Dv.bl := by rw [List.map_map]; rfl
    rw [hm] at c
    simp only [List.nil_append] at c
    simp [r8, hi, z2, hs, c, all_bl, -List.map_map, List.all_map, Function.comp_def]
end K11

namespace K11
open PySem PySem.Spec PyProof.Rows L2 DL
def w9 : DM Fl := (sSet 9 ((dIf ((dB (dOp gEq (dVar 2) ((dLst (dArgs0)))))) (dVar 8) (dVar 2))))
def w10 : DM Fl := (sSet 10 ((dBi gRepr (dArgs ((dLst (dArgs (dVar 1) (dArgs (dVar 7) (dArgs0))))) (dArgs0)))))
def w11 : DM Fl := (sIf (dB (dOp gNe ((dLst (dArgs ((dCall 3 m_l_told (dArgs (dVar 1) (dArgs (dVar 7) (dArgs (dC (.bl false)) (dArgs0)))))) (dArgs ((dCall 3 m_l_told (dArgs (dVar 1) (dArgs (dVar 7) (dArgs (dC (.bl true)) (dArgs0)))))) (dArgs0))))) ((dOp gMul ((dLst (dArgs ((dBi gRepr (dArgs (dVar 9) (dArgs0)))) (dArgs0)))) (dC (.int 2)))))) (sRet (dC (.bl false))) (sNil))
def w12 : DM Fl := (sIf (dB (dOp gNe ((dBi gRepr (dArgs ((dLst (dArgs (dVar 1) (dArgs (dVar 7) (dArgs0))))) (dArgs0)))) (dVar 10))) (sRet (dC (.bl false))) (sNil))
def dueD (A V : Dv) (ys : List Str) : Dv := if (wrD A).isEmpty = true then .bl (wordB ys V) else .lst (wrD A)
theorem due_okB {A V : Dv} {ys : List Str} : OkB 2 2 (dueD A V ys) := by
  unfold dueD
  cases h : wrD A with
  | nil => exact ⟨rfl, Nat.zero_le _, Nat.zero_le _⟩
  | cons y yy =>
    obtain ⟨x, e, hx⟩ := wr_one (A := A) (by rw [h]; simp)
    rw [← h, e]
    rcases hx with rfl | ⟨i, rfl, hi⟩
    · exact ⟨rfl, by simp [Dv.blk, blks], by simp [Dv.dep, deps]⟩
    · exact ⟨by simp [Dv.leaf, leafs]; omega, by simp [Dv.blk, blks], by simp [Dv.dep, deps]⟩
theorem told_ok {A V : Dv} {b : Bool} {ys : List Str} {z : Str} {L : Led} (hg : wrD A = [] → Lt A (ys.map .str)) (ha : A.leaf = true) (h : V.leaf = true) (hz : gRepr [.val (dueD A V ys)] L = some (.val (.str z))) : m_l_told [.val A, .val V, .val (.bl b)] L = .ok (.str z) L := by
  unfold dueD at hz
  cases hw : wrD A with
  | nil =>
    rw [hw] at hz
    exact told_good (hg hw) hw ha h hz
  | cons y yy =>
    obtain ⟨x, e, hx⟩ := wr_one (A := A) (by rw [hw]; simp)
    rw [e] at hz
    exact told_bad e ha hz
def wb : DM Fl := sSeq (sSet 8 r8) (sSeq w9 (sSeq w10 (sSeq w11 w12)))
theorem wb_ok {A V : Dv} {ys : List Str} {L : Led} {n k m j : Nat} {o0 o4 o5 o6 o8 o9 o10 o11 o12 : Option Sv} (hA : OkB n k A) (hV : OkB m j V) (hnm : n + m ≤ 100000) (hk : k ≤ 40) (hj : j ≤ 40) (hg : wrD A = [] → Lt A (ys.map .str)) (hl : ∀ ds, ltB V = some ds → ds.length ≤ 1000) :
    ∃ a b c, wb [o0, some (.val A), some (.val (.lst (wrD A))), some (.val (.lst (ys.map .str))), o4, o5, o6, some (.val V), o8, o9, o10, o11, o12] L = .ok (.nx [o0, some (.val A), some (.val (.lst (wrD A))), some (.val (.lst (ys.map .str))), o4, o5, o6, some (.val V), a, b, c, o11, o12]) L := by
  obtain ⟨z, hz, hz'⟩ := repr_val (due_okB (A := A) (V := V) (ys := ys)) (by decide) (by decide)
  have hAV : OkB (n + m + 2) (max k j + 1) (.lst [A, V]) := ⟨by simp [Dv.leaf, leafs, hA.leaf, hV.leaf], by have := hA.blk; have := hV.blk; simp [Dv.blk, blks]; omega, by have := hA.dep; have := hV.dep; simp [Dv.dep, deps]; omega⟩
  obtain ⟨y, hy, hy'⟩ := repr_val hAV (by omega) (by omega)
  have z1 : 1 ≤ sizeLine := one_sz
  have z2 : 2 ≤ sizeLine := two_sz
  have t1 := told_ok (b := false) hg hA.leaf hV.leaf (hz' L)
  have t2 := told_ok (b := true) hg hA.leaf hV.leaf (hz' L)
  have e8 := r8_ok (o0 := o0) (o1 := some (.val A)) (o2 := some (.val (.lst (wrD A)))) (o4 := o4) (o5 := o5) (o6 := o6) (o8 := o8) (o9 := o9) (o10 := o10) (o11 := o11) (o12 := o12) (ys := ys) (L := L) hV.leaf hl
  have hmul : gMul (.val (.lst [.str z])) (.val (.int 2)) L = some (.val (.lst [.str z, .str z])) := by
    have hr : repOk 2 ([Dv.str z]).length := by
      show repOk 2 1
      rw [repOk, sizeLine_eq]
      decide
    show (if repOk 2 ([Dv.str z]).length then some (Sv.val (.lst (List.replicate (2 : Int).toNat [Dv.str z]).flatten)) else none) = _
    rw [if_pos hr]
    rfl
  have s8 : sSet 8 r8 [o0, some (.val A), some (.val (.lst (wrD A))), some (.val (.lst (ys.map .str))), o4, o5, o6, some (.val V), o8, o9, o10, o11, o12] L = .ok (.nx [o0, some (.val A), some (.val (.lst (wrD A))), some (.val (.lst (ys.map .str))), o4, o5, o6, some (.val V), some (.val (.bl (wordB ys V))), o9, o10, o11, o12]) L := by
    simp [e8]
  have s9 : w9 [o0, some (.val A), some (.val (.lst (wrD A))), some (.val (.lst (ys.map .str))), o4, o5, o6, some (.val V), some (.val (.bl (wordB ys V))), o9, o10, o11, o12] L = .ok (.nx [o0, some (.val A), some (.val (.lst (wrD A))), some (.val (.lst (ys.map .str))), o4, o5, o6, some (.val V), some (.val (.bl (wordB ys V))), some (.val (dueD A V ys)), o10, o11, o12]) L := by
    unfold dueD
    cases hb : (wrD A).isEmpty <;> simp [w9, eq_nil, hb]
  have s10 : w10 [o0, some (.val A), some (.val (.lst (wrD A))), some (.val (.lst (ys.map .str))), o4, o5, o6, some (.val V), some (.val (.bl (wordB ys V))), some (.val (dueD A V ys)), o10, o11, o12] L = .ok (.nx [o0, some (.val A), some (.val (.lst (wrD A))), some (.val (.lst (ys.map .str))), o4, o5, o6, some (.val V), some (.val (.bl (wordB ys V))), some (.val (dueD A V ys)), some (.val (.str y)), o11, o12]) L := by
    simp [w10, z2, hy']
  have s11 : w11 [o0, some (.val A), some (.val (.lst (wrD A))), some (.val (.lst (ys.map .str))), o4, o5, o6, some (.val V), some (.val (.bl (wordB ys V))), some (.val (dueD A V ys)), some (.val (.str y)), o11, o12] L = .ok (.nx [o0, some (.val A), some (.val (.lst (wrD A))), some (.val (.lst (ys.map .str))), o4, o5, o6, some (.val V), some (.val (.bl (wordB ys V))), some (.val (dueD A V ys)), some (.val (.str y)), o11, o12]) L := by
    simp [w11, t1, t2, z1, z2, hz', hmul, ne_two]
  have s12 : w12 [o0, some (.val A), some (.val (.lst (wrD A))), some (.val (.lst (ys.map .str))), o4, o5, o6, some (.val V), some (.val (.bl (wordB ys V))), some (.val (dueD A V ys)), some (.val (.str y)), o11, o12] L = .ok (.nx [o0, some (.val A), some (.val (.lst (wrD A))), some (.val (.lst (ys.map .str))), o4, o5, o6, some (.val V), some (.val (.bl (wordB ys V))), some (.val (dueD A V ys)), some (.val (.str y)), o11, o12]) L := by
    simp [w12, z2, hy', ne_str]
  refine ⟨some (.val (.bl (wordB ys V))), some (.val (dueD A V ys)), some (.val (.str y)), ?_⟩
  simp only [wb, ev_seq, s8, Res.bind, s9, s10, s11, s12]
end K11

namespace K11
open PySem PySem.Spec PyProof.Rows L2 DL
theorem fwR_nm : ∀ (ds : List Dv) (ys : List Str), fwR ys ds = none → ∀ d ∈ ds, nmB d = true
  | [], _, _, d, hd => by cases hd
  | x :: ds, ys, h, d, hd => by
    cases x with
    | str z =>
      simp only [fwR] at h
      split at h
      · rename_i hc
        rcases List.mem_cons.mp hd with rfl | hd'
        · simp only [Bool.and_eq_true] at hc
          exact hc.1
        · exact fwR_nm ds _ h d hd'
      · cases h
    | _ => cases h
/-- the letters of words_right -/
theorem letters_of {A : Dv} (ha : A.leaf = true) : ∃ ys : List Str, (wrD A = [] → ltB A = some (ys.map .str)) ∧ (wrD A ≠ [] → ys = [Str.ofString "a"]) ∧ (∀ z ∈ ys, Sh z) ∧ 1 ≤ ys.length ∧ ys.length ≤ 8 := by
  by_cases hw : wrD A = []
  · obtain ⟨ys, e, h1, h8⟩ := good_of hw
    refine ⟨ys, fun _ => e, fun h => absurd hw h, ?_, h1, h8⟩
    have hf : fwR [] (ys.map .str) = none := by
      unfold wrD at hw
      rw [e] at hw
      simp only at hw
      rw [if_pos ⟨by simpa using h1, by simpa using h8⟩] at hw
      cases hf : fwR [] (ys.map .str) with
      | none => rfl
      | some i => rw [hf] at hw; cases hw
    intro z hz
    have hn := fwR_nm _ _ hf (.str z) (List.mem_map_of_mem hz)
    have hx := lt_leaf ha e (.str z) (List.mem_map_of_mem hz)
    simp only [nmB, Bool.and_eq_true, decide_eq_true_eq] at hn
    exact ⟨hn.1.2, hx⟩
  · refine ⟨[Str.ofString "a"], fun h => absurd h hw, fun _ => rfl, ?_, by simp, by simp⟩
    intro z hz
    rw [List.mem_singleton.mp hz]
    exact ⟨by decide +kernel, by decide +kernel⟩
end K11

namespace K11
open PySem PySem.Spec PyProof.Rows L2 DL
def v1 : DM Fl := (sParT [2, 3] [.e ((dCall 1 m_l_wrong (dArgs (dVar 1) (dArgs0)))), .e ((dLst (dArgs (dC (.str "a")) (dArgs0))))])
def v2 : DM Fl := (sIf (dB (dOp gEq (dVar 2) ((dLst (dArgs0))))) (sSet 3 ((dBi gList (dArgs (dVar 1) (dArgs0))))) (sNil))
def v3 : DM Fl := (sSet 4 ((dLc (iR1 ((dCall 2 m_l_digit (dArgs (dVar 0) (dArgs (dC (.int 6)) (dArgs0)))))) (.one 11) dTr ((dCall 2 m_l_pick (dArgs (dVar 0) (dArgs (dVar 3) (dArgs0))))) [11])))
theorem v12_ok {A : Dv} {p : Nat} {ys : List Str} {L : Led} (ha : A.leaf = true) (h1 : wrD A = [] → ltB A = some (ys.map .str)) (h2 : wrD A ≠ [] → ys = [Str.ofString "a"]) (h8 : ys.length ≤ 8) : ∃ o3, v1 [some (.val (.own p)), some (.val A), none, none, none, none, none, none, none, none, none, none, none] L = .ok (.nx [some (.val (.own p)), some (.val A), some (.val (.lst (wrD A))), o3, none, none, none, none, none, none, none, none, none]) L ∧ v2 [some (.val (.own p)), some (.val A), some (.val (.lst (wrD A))), o3, none, none, none, none, none, none, none, none, none] L = .ok (.nx [some (.val (.own p)), some (.val A), some (.val (.lst (wrD A))), some (.val (.lst (ys.map .str))), none, none, none, none, none, none, none, none, none]) L := by
  have z1 : 1 ≤ sizeLine := one_sz
  have hw := wrong_ok (L := L) ha
  refine ⟨some (.val (.lst [.str "a"])), by simp [v1, hw, z1], ?_⟩
  by_cases hc : wrD A = []
  · have hl := lt_list (L := L) (lt_of (h1 hc)) (by simp; omega)
    simp [v2, eq_nil, hc, hl]
  · have he : (wrD A).isEmpty = false := by cases h : wrD A with
      | nil => exact absurd h hc
      | cons _ _ => rfl
    have hy := h2 hc
    subst hy
    simp [v2, eq_nil, he]
theorem v3_ok {A : Dv} {p : Nat} {ys : List Str} {L : Led} {o1 o2 : Option Sv} (hp : PotAt L p) (h1 : 1 ≤ ys.length) (h8 : ys.length ≤ 8) : ∃ (ws : List Str) (L' : Led), v3 [some (.val (.own p)), o1, o2, some (.val (.lst (ys.map .str))), none, none, none, none, none, none, none, none, none] L = .ok (.nx [some (.val (.own p)), o1, o2, some (.val (.lst (ys.map .str))), some (.val (.lst (ws.map .str))), none, none, none, none, none, none, none, none]) L' ∧ ws.length ≤ 5 ∧ (∀ w ∈ ws, w ∈ ys) ∧ PotAt L' p := by
  obtain ⟨r, L1, e1, r0, r1, hp1⟩ := digit_ok (n := 6) hp (by decide) (by decide)
  have hrg : rgOk 0 r := ⟨by decide, by decide, by omega, by omega⟩
  have hl : (upF 0 r.toNat).length = r.toNat := by simp [upF]
  obtain ⟨rs, L3, e3, hn, hrs, hp3⟩ := cl_each (T := .one 11) (ft := dTr) (fe := dCall 2 m_l_pick (dArgs (dVar 0) (dArgs (dVar 3) (dArgs0)))) (ρ := [some (.val (.own p)), o1, o2, some (.val (.lst (ys.map .str))), none, none, none, none, none, none, none, none, none]) (Inv := fun L => PotAt L p) (Pd := fun r => ∃ w, r = .str w ∧ w ∈ ys) (upF 0 r.toNat) (fun d _ L I => by
    obtain ⟨c, L', e, hc, I'⟩ := pick_l (xs := ys.map .str) I (by intro h0; rw [List.map_eq_nil_iff] at h0; rw [h0] at h1; simp at h1) (by simp; omega)
    obtain ⟨w, hw, rfl⟩ := List.mem_map.mp hc
    refine ⟨_, _, L', rfl, rfl, ?_, ⟨w, rfl, hw⟩, I'⟩
    simp [e]) [] L1 hp1 (by rw [hl, sizeLine_eq]; simp; omega)
  obtain ⟨ws, rfl, hws⟩ := map_of (f := Dv.str) hrs
  have hlen : ws.length ≤ 5 := by rw [List.length_map, hl] at hn; omega
  simp only [List.nil_append] at e3
  refine ⟨ws, L3, ?_, hlen, hws, hp3⟩
  simp [v3, e1, hrg, e3]
end K11

namespace K11
open PySem PySem.Spec PyProof.Rows L2 DL
def v4 : DM Fl := (sSet 5 ((dCall 2 m_l_digit (dArgs (dVar 0) (dArgs ((dOp gAdd ((dBi gLen (dArgs (dVar 4) (dArgs0)))) (dC (.int 1)))) (dArgs0))))))
def v5 : DM Fl := (sSetL 6 (dArgs (dVar 4) (dArgs ((dBi gTuple (dArgs (dVar 4) (dArgs0)))) (dArgs ((dOp gAdd ((dOp gAdd ((dSl (dVar 4) dPt0 (dPt1 (dVar 5)))) ((dLst (dArgs ((dCall 1 m_l_odd (dArgs (dVar 0) (dArgs0)))) (dArgs0)))))) ((dSl (dVar 4) (dPt1 (dVar 5)) dPt0)))) (dArgs ((dOp gAdd (dVar 4) ((dCall 3 m_l_names (dArgs (dVar 0) (dArgs (dC (.int 1)) (dArgs (dVar 3) (dArgs0)))))))) (dArgs0))))))
def v6 : DM Fl := sApp 6 ((dCall 1 m_l_odd (dArgs (dVar 0) (dArgs0))))
/-- a value that words_right tries -/
def Try (d : Dv) : Prop := OkB 2000 5 d ∧ ∀ ds, ltB d = some ds → ds.length ≤ 1000
theorem try_odd {d : Dv} (h : OkB 20 3 d) (hl : ∀ ds, ltB d = some ds → ds.length ≤ 1000) : Try d := ⟨h.mono (by decide) (by decide), hl⟩
theorem blks_len : ∀ ds : List Dv, ds.length ≤ blks ds
  | [] => Nat.le_refl _
  | d :: ds => by have := blks_len ds; simp [blks]; omega
theorem odd_len {d : Dv} (h : OkB 20 3 d) : ∀ ds, ltB d = some ds → ds.length ≤ 1000 := by
  intro ds e
  have hb := h.blk
  have := blks_len ds
  rcases lt_of e with rfl | rfl <;> simp only [Dv.blk] at hb <;> omega
theorem try_lst {xs : List Dv} (h : ∀ d ∈ xs, OkB 20 3 d) (hl : xs.length ≤ 50) : Try (.lst xs) ∧ Try (.tup xs) := by
  have hm : xs.length * (20 + 1) ≤ 2000 := by omega
  obtain ⟨a, b⟩ := ok_lst h
  exact ⟨⟨a.mono hm (by decide), fun ds e => by cases e; omega⟩, ⟨b.mono hm (by decide), fun ds e => by cases e; omega⟩⟩
theorem v456_ok {p : Nat} {ys ws : List Str} {L : Led} {o1 o2 : Option Sv} (hp : PotAt L p) (hy : ∀ z ∈ ys, Sh z) (h8 : ys.length ≤ 8) (hl : ws.length ≤ 5) (hws : ∀ w ∈ ws, w ∈ ys) : ∃ (vs : List Dv) (o5 : Option Sv) (L' : Led), sSeq v4 (sSeq v5 v6) [some (.val (.own p)), o1, o2, some (.val (.lst (ys.map .str))), some (.val (.lst (ws.map .str))), none, none, none, none, none, none, none, none] L = .ok (.nx [some (.val (.own p)), o1, o2, some (.val (.lst (ys.map .str))), some (.val (.lst (ws.map .str))), o5, some (.mu vs), none, none, none, none, none, none]) L' ∧ (∀ d ∈ vs, Try d) ∧ PotAt L' p := by
  obtain ⟨r, L1, e1, r0, r1, hp1⟩ := digit_ok (n := (ws.length : Int) + 1) hp (by omega) (by omega)
  obtain ⟨d, L2, e2, hd, hp2⟩ := odd_ok hp1
  obtain ⟨zs, L3, e3, hz, hs, hp3⟩ := names_ok (n := 1) (fs := ys) hp2 (by decide) (by decide) (by omega)
  obtain ⟨d', L4, e4, hd', hp4⟩ := odd_ok hp3
  have z1 : 1 ≤ sizeLine := one_sz
  have z4 : 4 ≤ sizeLine := by rw [sizeLine_eq]; decide
  have z4' : 4 < sizeLine := by rw [sizeLine_eq]; decide
  have c1 := cutD_length (ws.map Dv.str) none (some r)
  have c2 := cutD_length (ws.map Dv.str) (some r) none
  rw [List.length_map] at c1 c2
  have a0 : (ws.map Dv.str).length ≤ 16777216 := by rw [List.length_map]; omega
  have hsz : ∀ n, n ≤ 100 → n ≤ sizeLine := fun n h => by rw [sizeLine_eq]; omega
  have hw : ∀ d ∈ ws.map Dv.str, OkB 20 3 d := by
    intro d hd
    obtain ⟨w, hw, rfl⟩ := List.mem_map.mp hd
    exact sh_okB (hy w (hws w hw))
  have hzz : ∀ d ∈ zs.map Dv.str, OkB 20 3 d := by
    intro d hd
    obtain ⟨w, hw, rfl⟩ := List.mem_map.mp hd
    exact sh_okB (hs w hw)
  have hzl : zs.length = 1 := by rw [hz]; rfl
  have g1 : gTuple [.val (.lst (ws.map .str))] L1 = some (.val (.tup (ws.map .str))) := by
    unfold gTuple
    simp only [Sv.seqL]
    exact if_pos (hsz _ (by rw [List.length_map]; omega))
  have b1 := hsz ((DL.cutD (ws.map Dv.str) none (some r)).length + 1) (by omega)
  have b2 := hsz ((DL.cutD (ws.map Dv.str) none (some r)).length + (1 + (DL.cutD (ws.map Dv.str) (some r) none).length)) (by omega)
  have b2' := hsz ((DL.cutD (ws.map Dv.str) none (some r)).length + 1 + (DL.cutD (ws.map Dv.str) (some r) none).length) (by omega)
  have b3 := hsz (ws.length + zs.length) (by omega)
  refine ⟨[.lst (ws.map .str), .tup (ws.map .str), .lst (DL.cutD (ws.map Dv.str) none (some r) ++ [d] ++ DL.cutD (ws.map Dv.str) (some r) none), .lst (ws.map .str ++ zs.map .str), d'], some (.val (.int r)), L4, ?_, ?_, hp4⟩
  · have s4 : v4 [some (.val (.own p)), o1, o2, some (.val (.lst (ys.map .str))), some (.val (.lst (ws.map .str))), none, none, none, none, none, none, none, none] L = .ok (.nx [some (.val (.own p)), o1, o2, some (.val (.lst (ys.map .str))), some (.val (.lst (ws.map .str))), some (.val (.int r)), none, none, none, none, none, none, none]) L1 := by
      simp [v4, e1]
    rw [ev_seq, s4]
    show sSeq v5 v6 [some (.val (.own p)), o1, o2, some (.val (.lst (ys.map .str))), some (.val (.lst (ws.map .str))), some (.val (.int r)), none, none, none, none, none, none, none] L1 = _
    simp [v5, v6, g1, e2, e3, e4, sl_l a0, b1, b2, b2', b3, z1, z4, z4']
  · intro x hx
    simp only [List.mem_cons, List.not_mem_nil, or_false] at hx
    rcases hx with rfl | rfl | rfl | rfl | rfl
    · exact (try_lst hw (by simp; omega)).1
    · exact (try_lst hw (by simp; omega)).2
    · refine (try_lst (fun x hx => ?_) (by simp; omega)).1
      rcases List.mem_append.mp hx with h | h
      · rcases List.mem_append.mp h with h | h
        · exact hw x (cut_mem h)
        · rw [List.mem_singleton.mp h]; exact hd
      · exact hw x (cut_mem h)
    · refine (try_lst (fun x hx => ?_) (by simp; omega)).1
      rcases List.mem_append.mp hx with h | h
      · exact hw x h
      · exact hzz x h
    · exact try_odd hd' (odd_len hd')
end K11

namespace K11
open PySem PySem.Spec PyProof.Rows L2 DL
theorem words_loop {A : Dv} {ys : List Str} {L : Led} {n k : Nat} {o0 o4 o5 o6 : Option Sv} (hA : OkB n k A) (hn : n ≤ 90000) (hk : k ≤ 40) (hg : wrD A = [] → Lt A (ys.map .str)) (vs : List Dv) (hv : ∀ d ∈ vs, Try d) :
    ∃ ρ' L', fLoop (.one 7) wb vs [o0, some (.val A), some (.val (.lst (wrD A))), some (.val (.lst (ys.map .str))), o4, o5, o6, none, none, none, none, none, none] L = .ok (.nx ρ') L' ∧ (∃ a b c e, ρ' = [o0, some (.val A), some (.val (.lst (wrD A))), some (.val (.lst (ys.map .str))), o4, o5, o6, a, b, c, e, none, none]) ∧ L' = L := by
  obtain ⟨ρ', L', e, h⟩ := fl_inv (T := .one 7) (fb := wb) (Inv := fun _ ρ L' => (∃ a b c e, ρ = [o0, some (.val A), some (.val (.lst (wrD A))), some (.val (.lst (ys.map .str))), o4, o5, o6, a, b, c, e, none, none]) ∧ L' = L) vs 0 (fun i d hd ρ L1 I => by
    obtain ⟨⟨a, b, c, e, rfl⟩, rfl⟩ := I
    have ht := hv d (List.mem_of_getElem? hd)
    obtain ⟨x, y, z, w⟩ := wb_ok (o0 := o0) (o4 := o4) (o5 := o5) (o6 := o6) (o8 := b) (o9 := c) (o10 := e) (o11 := none) (o12 := none) (L := L1) hA ht.1 (by omega) hk (by decide) hg ht.2
    exact ⟨_, _, L1, rfl, w, ⟨_, _, _, _, rfl⟩, rfl⟩) _ L ⟨⟨none, none, none, none, rfl⟩, rfl⟩
  exact ⟨ρ', L', e, h⟩
end K11

namespace K11
open PySem PySem.Spec PyProof.Rows L2 DL
theorem seq_assoc {f g h : DM Fl} : sSeq f (sSeq g h) = sSeq (sSeq f g) h := by
  funext ρ L
  simp only [sSeq]
  cases f ρ L with
  | ok fl L1 => cases fl <;> rfl
  | err e r L1 => rfl
  | bad => rfl
theorem words_right_ok {A : Dv} {p n k : Nat} {L : Led} (hp : PotAt L p) (hA : OkB n k A) (hn : n ≤ 90000) (hk : k ≤ 40) : ∃ L', m_l_words_right [.val (.own p), .val A] L = .ok (.bl true) L' ∧ PotAt L' p := by
  obtain ⟨ys, g1, g2, hs, h1, h8⟩ := letters_of hA.leaf
  obtain ⟨o3, e1, e2⟩ := v12_ok (p := p) (L := L) hA.leaf g1 g2 h8
  obtain ⟨ws, L1, e3, hl, hws, hp1⟩ := v3_ok (A := A) (o1 := some (.val A)) (o2 := some (.val (.lst (wrD A)))) hp h1 h8
  obtain ⟨vs, o5, L2, e4, hv, hp2⟩ := v456_ok (o1 := some (.val A)) (o2 := some (.val (.lst (wrD A)))) hp1 hs h8 hl hws
  obtain ⟨ρ', L3, e5, ⟨a, b, c, e, rfl⟩, rfl⟩ := words_loop (o0 := some (.val (.own p))) (o4 := some (.val (.lst (ws.map .str)))) (o5 := o5) (o6 := some (.val (.lst vs))) (L := L2) hA hn hk (fun h => lt_of (g1 h)) vs hv
  refine ⟨L3, ?_, hp2⟩
  have hm : m_l_words_right [.val (.own p), .val A] L = endOf (sSeq v1 (sSeq v2 (sSeq v3 (sSeq v4 (sSeq v5 (sSeq v6 (gFrz 6 (sSeq (sFor (iV (dVar 6)) (.one 7) wb) (sRet (dC (.bl true)))))))))) [some (.val (.own p)), some (.val A), none, none, none, none, none, none, none, none, none, none, none] L) := rfl
  rw [hm, ev_seq, e1]
  show endOf (sSeq v2 _ _ L) = _
  rw [ev_seq, e2]
  show endOf (sSeq v3 _ _ L) = _
  rw [ev_seq, e3]
  show endOf (sSeq v4 (sSeq v5 (sSeq v6 (gFrz 6 (sSeq (sFor (iV (dVar 6)) (.one 7) wb) (sRet (dC (.bl true))))))) [some (.val (.own p)), some (.val A), some (.val (.lst (wrD A))), some (.val (.lst (ys.map .str))), some (.val (.lst (ws.map .str))), none, none, none, none, none, none, none, none] L1) = _
  rw [@seq_assoc v5, seq_assoc, ev_seq, e4]
  simp [Sv.src, e5]
end K11

namespace K11
open PySem PySem.Spec PyProof.Rows L2 DL
def jOne : DM Sv := (dCall 1 m_l_judged (dArgs (dVar 6) (dArgs0)))
theorem judged_all {ds : List Dv} {o0 o1 o2 o3 o4 o5 : Option Sv} {L : Led} (h : ∀ d ∈ ds, OkB 2000 9 d) (hl : ds.length ≤ 100) : cLoop (.one 6) dTr jOne [o0, o1, o2, o3, o4, o5, none] ds [] L = .ok ((ds.map fun _ => true).map Dv.bl) L := by
  have c := cl_fn (T := .one 6) (ft := dTr) (fe := jOne) (ρ := [o0, o1, o2, o3, o4, o5, none]) (L := L) id (fun _ => Dv.bl true) (fun _ => true) ds (fun d hm => ⟨_, rfl, rfl, fun _ => by
    have e := judged_ok (L := L) (h d hm) (by decide) (by decide)
    simp [jOne, e]⟩) [] (by rw [sizeLine_eq]; simp; omega)
  have hft : List.filter (fun _ : Dv => true) ds = ds := List.filter_eq_self.mpr fun _ _ => rfl
  rw [hft, List.map_id] at c
  rw [c, List.map_map]
  rfl
def x4 : DM Fl := (sSet 4 ((dLst (dArgs ((dCall 1 m_l_listed (dArgs (dVar 2) (dArgs0)))) (dArgs ((dCall 1 m_l_odd (dArgs (dVar 2) (dArgs0)))) (dArgs ((dOp gIx ((dCall 3 m_l_names (dArgs (dVar 2) (dArgs (dC (.int 1)) (dArgs ((dLst (dArgs0))) (dArgs0)))))) (dC (.int 0)))) (dArgs ((dOp gSub ((dCall 2 m_l_digit (dArgs (dVar 2) (dArgs (dC (.int 99)) (dArgs0))))) (dC (.int 40)))) (dArgs0))))))))
def x5 : DM Fl := (sIf (dNot (dB ((dBi gAll (dArgs ((dLc (iV (dVar 4)) (.one 6) dTr jOne [6])) (dArgs0)))))) (sRet (dC (.bl false))) (sNil))
def x6 : DM Fl := (sIf (dOr (dNot (dB ((dCall 2 m_l_words_right (dArgs (dVar 2) (dArgs ((dOp gIx (dVar 4) (dC (.int 0)))) (dArgs0))))))) (dNot (dB ((dCall 2 m_l_words_right (dArgs (dVar 2) (dArgs ((dOp gIx (dVar 4) (dC (.int 1)))) (dArgs0)))))))) (sRet (dC (.bl false))) (sNil))
theorem turn_ok {o0 o1 o3 o4 o5 : Option Sv} {p : Nat} {L : Led} (hp : PotAt L p) : ∃ o4' L', (sSeq x4 (sSeq x5 x6)) [o0, o1, some (.val (.own p)), o3, o4, o5, none] L = .ok (.nx [o0, o1, some (.val (.own p)), o3, o4', o5, none]) L' ∧ PotAt L' p := by
  obtain ⟨a, L1, e1, ⟨xs, hxs, hx40, hx⟩, hp1⟩ := listed_ok hp
  obtain ⟨b, L2, e2, hb, hp2⟩ := odd_ok hp1
  obtain ⟨zs, L3, e3, hz, hs, hp3⟩ := names_ok (n := 1) (fs := []) hp2 (by decide) (by decide) (by simp)
  obtain ⟨r, L4, e4, r0, r1, hp4⟩ := digit_ok (n := 99) hp3 (by decide) (by decide)
  obtain ⟨z, rfl⟩ : ∃ z, zs = [z] := by
    match zs, hz with
    | [z], _ => exact ⟨z, rfl⟩
  have ha : OkB 2000 9 a := by
    obtain ⟨u, v⟩ := ok_lst hx
    have hm : xs.length * (20 + 1) ≤ 2000 := by omega
    rcases hxs with rfl | rfl
    · exact u.mono hm (by decide)
    · exact v.mono hm (by decide)
  have hb' : OkB 2000 9 b := hb.mono (by decide) (by decide)
  have hall : ∀ d ∈ [a, b, .str z, .int (r - 40)], OkB 2000 9 d := by
    intro d hd
    simp only [List.mem_cons, List.not_mem_nil, or_false] at hd
    rcases hd with rfl | rfl | rfl | rfl
    · exact ha
    · exact hb'
    · exact (sh_okB (hs z (by simp))).mono (by decide) (by decide)
    · exact ⟨by simp [Dv.leaf]; omega, Nat.zero_le _, Nat.zero_le _⟩
  have z4 : 4 ≤ sizeLine := by rw [sizeLine_eq]; decide
  have e3' : m_l_names [.val (.own p), .val (.int 1), .val (.lst [])] L2 = .ok (.lst [.str z]) L3 := e3
  have hix : gIx (.val (.lst [.str z])) (.val (.int 0)) L3 = some (.val (.str z)) := by simp [gIx, Sv.seqL, atI, ixN]
  have s4 : x4 [o0, o1, some (.val (.own p)), o3, o4, o5, none] L = .ok (.nx [o0, o1, some (.val (.own p)), o3, some (.val (.lst [a, b, .str z, .int (r - 40)])), o5, none]) L4 := by
    simp [x4, e1, e2, e3', e4, hix, z4, Nat.zero_le]
  have c := judged_all (o0 := o0) (o1 := o1) (o2 := some (.val (.own p))) (o3 := o3) (o4 := some (.val (.lst [a, b, .str z, .int (r - 40)]))) (o5 := o5) (L := L4) hall (by simp)
  have s5 : x5 [o0, o1, some (.val (.own p)), o3, some (.val (.lst [a, b, .str z, .int (r - 40)])), o5, none] L4 = .ok (.nx [o0, o1, some (.val (.own p)), o3, some (.val (.lst [a, b, .str z, .int (r - 40)])), o5, none]) L4 := by
    have hall' := all_bl (bs := [true, true, true, true]) (L := L4)
    have c' : cLoop (.one 6) dTr jOne [o0, o1, some (.val (.own p)), o3, some (.val (.lst [a, b, .str z, .int (r - 40)])), o5, none] [a, b, .str z, .int (r - 40)] [] L4 = .ok [.bl true, .bl true, .bl true, .bl true] L4 := c
    have hall2 : gAll [.val (.lst [.bl true, .bl true, .bl true, .bl true])] L4 = some (.val (.bl true)) := hall'
    simp [x5, Sv.src, c', hall2]
  obtain ⟨L5, e5, hp5⟩ := words_right_ok hp4 ha (by decide) (by decide)
  obtain ⟨L6, e6, hp6⟩ := words_right_ok hp5 hb' (by decide) (by decide)
  have i0 : ∀ L, gIx (.val (.lst [a, b, .str z, .int (r - 40)])) (.val (.int 0)) L = some (.val a) := fun L => by simp [gIx, Sv.seqL, atI, ixN]
  have i1 : ∀ L, gIx (.val (.lst [a, b, .str z, .int (r - 40)])) (.val (.int 1)) L = some (.val b) := fun L => by simp [gIx, Sv.seqL, atI, ixN]
  have s6 : x6 [o0, o1, some (.val (.own p)), o3, some (.val (.lst [a, b, .str z, .int (r - 40)])), o5, none] L4 = .ok (.nx [o0, o1, some (.val (.own p)), o3, some (.val (.lst [a, b, .str z, .int (r - 40)])), o5, none]) L6 := by
    simp [x6, i0, i1, e5, e6]
  refine ⟨some (.val (.lst [a, b, .str z, .int (r - 40)])), L6, ?_, hp6⟩
  rw [ev_seq, s4]
  show sSeq x5 x6 _ L4 = _
  rw [ev_seq, s5]
  exact s6
end K11

namespace K11
open PySem PySem.Spec PyProof.Rows L2 DL
def y1 : DM Fl := (sSet 2 (dCall 2 m_l_pot (dArgs (dVar 0) (dArgs (dVar 1) (dArgs0)))))
def y2 : DM Fl := (sFor (iR1 (dC (.int 4))) (.one 3) (sSeq x4 (sSeq x5 x6)))
theorem y_ok {ns : List Int} {k : Nat} {o2 o3 o4 : Option Sv} {L : Led} (hk : k < 6) (hn : ns.length ≤ 63) : ∃ p3 p4 p2 L', (sSeq y1 y2) [some (.val (.scr ns)), some (.val (.int k)), o2, o3, o4, none, none] L = .ok (.nx [some (.val (.scr ns)), some (.val (.int k)), p2, p3, p4, none, none]) L' := by
  obtain ⟨L1, e1, hp⟩ := pot_ok (L := L) hk hn
  have s1 : y1 [some (.val (.scr ns)), some (.val (.int k)), o2, o3, o4, none, none] L = .ok (.nx [some (.val (.scr ns)), some (.val (.int k)), some (.val (.own L.length)), o3, o4, none, none]) L1 := by
    simp [y1, e1]
  have hR : iR1 (dC (.int 4)) [some (.val (.scr ns)), some (.val (.int k)), some (.val (.own L.length)), o3, o4, none, none] L1 = .ok ⟨upF 0 (4 : Int).toNat, true⟩ L1 := iR1_eq rfl ⟨by decide, by decide, by decide, by decide⟩
  obtain ⟨ρ', L', e, ⟨a, b, rfl⟩, hp'⟩ := fl_inv (T := .one 3) (fb := sSeq x4 (sSeq x5 x6)) (Inv := fun _ ρ L' => (∃ a b, ρ = [some (.val (.scr ns)), some (.val (.int k)), some (.val (.own L.length)), a, b, none, none]) ∧ PotAt L' L.length) (upF 0 (4 : Int).toNat) 0 (fun i d hd ρ L2 I => by
    obtain ⟨⟨a, b, rfl⟩, hp2⟩ := I
    obtain ⟨o, L3, e3, hp3⟩ := turn_ok (o0 := some (.val (.scr ns))) (o1 := some (.val (.int k))) (o3 := some (.val d)) (o4 := b) (o5 := none) hp2
    exact ⟨_, _, L3, rfl, e3, ⟨_, _, rfl⟩, hp3⟩) _ L1 ⟨⟨o3, o4, rfl⟩, hp⟩
  refine ⟨a, b, some (.val (.own L.length)), L', ?_⟩
  rw [ev_seq, s1]
  show y2 _ L1 = _
  unfold y2
  rw [ev_for, hR]
  exact e
def y3 : DM Fl := (sSet 5 ((dLst (dArgs (dC (.str "a")) (dArgs (dC (.str "b")) (dArgs (dC (.str "c")) (dArgs (dC (.str "d")) (dArgs (dC (.str "e")) (dArgs (dC (.str "f")) (dArgs (dC (.str "g")) (dArgs (dC (.str "h")) (dArgs0))))))))))))
def yS : DM Sv := (dLst (dArgs (dVar 5) (dArgs ((dOp gAdd (dVar 5) ((dLst (dArgs (dC (.str "i")) (dArgs0)))))) (dArgs ((dBi gTuple (dArgs (dVar 5) (dArgs0)))) (dArgs ((dOp gAdd ((dSl (dVar 5) dPt0 (dPt1 (dC (.int 7))))) ((dLst (dArgs (dC (.str "a")) (dArgs0)))))) (dArgs ((dLst (dArgs (dC (.bl true)) (dArgs0)))) (dArgs ((dLst (dArgs (dC (.int 1)) (dArgs0)))) (dArgs0))))))))
def y4 : DM Fl := sRet ((dBi gAll (dArgs ((dLc (iV yS) (.one 6) dTr jOne [6])) (dArgs0))))
def yB : DM Sv := ((dBi gMax (dArgs (dC (.int 1)) (dArgs ((dBi gMin (dArgs (dC (.int 6)) (dArgs ((dBi gLen (dArgs (dVar 0) (dArgs0)))) (dArgs0))))) (dArgs0)))))
theorem law_eq (ns : List Int) : m_law [.val (.scr ns)] [] = endOf (sSeq (sFor (iR1 yB) (.one 1) (sSeq y1 y2)) (sSeq y3 y4) [some (.val (.scr ns)), none, none, none, none, none, none] []) := rfl
theorem yB_ok {ns : List Int} {o1 o2 o3 o4 o5 o6 : Option Sv} {L : Led} : ∃ j : Int, yB [some (.val (.scr ns)), o1, o2, o3, o4, o5, o6] L = .ok (.val (.int j)) L ∧ 1 ≤ j ∧ j ≤ 6 := by
  have h : gLen [.val (.scr ns)] L = some (.val (.int ns.length)) := by simp [gLen, Sv.seqL]
  have h2 : ∀ k : Int, gMin [.val (.int 6), .val (.int k)] L = some (.val (.int (if k < 6 then k else 6))) := fun _ => rfl
  have h3 : ∀ k : Int, gMax [.val (.int 1), .val (.int k)] L = some (.val (.int (if k > 1 then k else 1))) := fun _ => rfl
  refine ⟨_, by simp only [yB, dBi, dArgs, dArgs0, dC, dVar, List.getElem?_cons_zero, Sv.read, Res.bind_ok, h, h2, h3, give]; rfl, ?_, ?_⟩
  · split <;> omega
  · split
    · split <;> omega
    · omega
def e8 : List Dv := [.str "a", .str "b", .str "c", .str "d", .str "e", .str "f", .str "g", .str "h"]
def six : List Dv := [.lst e8, .lst (e8 ++ [.str "i"]), .tup e8, .lst (e8.take 7 ++ [.str "a"]), .lst [.bl true], .lst [.int 1]]
theorem cat_ok {xs ys : List Dv} {L : Led} (h : xs.length + ys.length ≤ 1000) : gAdd (.val (.lst xs)) (.val (.lst ys)) L = some (.val (.lst (xs ++ ys))) := by
  have z : xs.length + ys.length ≤ sizeLine := by rw [sizeLine_eq]; omega
  simp [gAdd, gCat, Sv.items, z]
theorem yS_ok {o0 o1 o2 o3 o4 o6 : Option Sv} {L : Led} : yS [o0, o1, o2, o3, o4, some (.val (.lst e8)), o6] L = .ok (.val (.lst six)) L := by
  have z1 : 1 ≤ sizeLine := by rw [sizeLine_eq]; decide
  have z6 : 6 ≤ sizeLine := by rw [sizeLine_eq]; decide
  have z8 : e8.length ≤ sizeLine := by rw [sizeLine_eq]; decide
  have h1 : ∀ L, gAdd (.val (.lst e8)) (.val (.lst [.str "i"])) L = some (.val (.lst (e8 ++ [.str "i"]))) := fun L => cat_ok (by decide)
  have h2 : ∀ L, gTuple [.val (.lst e8)] L = some (.val (.tup e8)) := fun L => by simp [gTuple, Sv.seqL, z8]
  have h3 : ∀ L, gSl (.val (.lst e8)) none (some 7) L = some (.val (.lst (e8.take 7))) := fun L => by
    have : DL.cutD e8 none (some 7) = e8.take 7 := rfl
    simp [gSl, Sv.seqL, z8, this]
  have h4 : ∀ L, gAdd (.val (.lst (e8.take 7))) (.val (.lst [.str "a"])) L = some (.val (.lst (e8.take 7 ++ [.str "a"]))) := fun L => cat_ok (by decide)
  simp [yS, six, h1, h2, h3, h4, z1, z6]
theorem six_ok : ∀ d ∈ six, OkB 2000 9 d := by
  intro d hd
  simp only [six, List.mem_cons, List.not_mem_nil, or_false] at hd
  rcases hd with rfl | rfl | rfl | rfl | rfl | rfl <;> exact ⟨by decide +kernel, by decide +kernel, by decide +kernel⟩
theorem y34_ok {o0 o1 o2 o3 o4 : Option Sv} {L : Led} : endOf (sSeq y3 y4 [o0, o1, o2, o3, o4, none, none] L) = .ok (.bl true) L := by
  have z8 : 8 ≤ sizeLine := by rw [sizeLine_eq]; decide
  have s3 : y3 [o0, o1, o2, o3, o4, none, none] L = .ok (.nx [o0, o1, o2, o3, o4, some (.val (.lst e8)), none]) L := by
    simp [y3, z8, e8]
  have c := judged_all (o0 := o0) (o1 := o1) (o2 := o2) (o3 := o3) (o4 := o4) (o5 := some (.val (.lst e8))) (L := L) six_ok (by decide)
  have hall := all_bl (bs := six.map fun _ => true) (L := L)
  rw [ev_seq, s3]
  show endOf (y4 _ L) = _
  have hb : (six.map fun _ => true).all id = true := by decide
  rw [hb] at hall
  simp [y4, yS_ok, Sv.src, c, hall, -List.map_map]
theorem law_true (ns : List Int) (hl : ns.length ≤ 63) : (m_law [.val (.scr ns)] []).wp (fun d _ => d = .bl true) (fun _ _ _ => False) := by
  obtain ⟨j, ej, j1, j6⟩ := yB_ok (ns := ns) (o1 := none) (o2 := none) (o3 := none) (o4 := none) (o5 := none) (o6 := none) (L := [])
  have hR := iR1_eq ej ⟨by decide, by decide, by omega, by omega⟩
  obtain ⟨ρ', L', e, ⟨a1, a2, a3, a4, rfl⟩⟩ := fl_inv (T := .one 1) (fb := sSeq y1 y2) (Inv := fun _ ρ _ => ∃ a1 a2 a3 a4, ρ = [some (.val (.scr ns)), a1, a2, a3, a4, none, none]) (upF 0 j.toNat) 0 (fun i d hd ρ L I => by
    obtain ⟨a1, a2, a3, a4, rfl⟩ := I
    have hi : i < j.toNat := by
      have := (List.getElem?_eq_some_iff.mp hd).1
      simpa [upF] using this
    have hd' : d = .int i := by
      rw [upF, List.getElem?_map, List.getElem?_range hi] at hd
      simp at hd
      exact hd.symm
    subst hd'
    obtain ⟨p3, p4, p2, L2, e2⟩ := y_ok (k := i) (o2 := a2) (o3 := a3) (o4 := a4) (L := L) (by omega) hl
    exact ⟨_, _, L2, rfl, e2, ⟨_, _, _, _, rfl⟩⟩) [some (.val (.scr ns)), none, none, none, none, none, none] [] ⟨_, _, _, _, rfl⟩
  have fin : m_law [.val (.scr ns)] [] = .ok (.bl true) L' := by
    rw [law_eq, ev_seq, ev_for, hR]
    show endOf ((fLoop (.one 1) (sSeq y1 y2) (upF 0 j.toNat) _ []).bind _) = _
    rw [e]
    exact y34_ok
  rw [fin]
  rfl
end K11

namespace K11
open PySem PySem.Spec PyProof.Rows L2 DL
abbrev ini_InvalidAlphabet : Stmt := (clsB (top 3)).getD 0 (.Pass ⟨0, 0, 0, 0⟩)
theorem sci_InvalidAlphabet : FnScope ["self", "position"] ["self", "position"] (defScope ini_InvalidAlphabet) := ⟨rfl, rfl, rfl, by decide +kernel, rfl, by decide +kernel, by decide +kernel⟩
def fa : List He.Fa := [.glo "InvalidAlphabet", .glo "InvalidName", .glo "InvalidWord", .glo "ShortlogError", .str "LETTERS" "abcdefghijklmnopqrstuvwxyz", .int "MOST_LETTERS" 8, .int "MOST_SYMBOLS" 8, .free "abs", .free "all", .free "bool", .free "divmod", .free "enumerate", .free "int", .free "isinstance", .free "len", .free "list", .free "max", .free "min", .free "range", .free "repr", .free "str", .free "tuple", .free "zip", .meth "InvalidAlphabet" "__init__", .noat "InvalidAlphabet" "position", .exm "InvalidAlphabet" "InvalidAlphabet" true, .glo "is_integer", .keep "is_integer", .glo "is_count", .keep "is_count", .glo "is_name", .keep "is_name", .glo "is_list", .keep "is_list", .glo "first_wrong_symbol", .keep "first_wrong_symbol", .glo "is_alphabet", .keep "is_alphabet", .glo "require_alphabet", .keep "require_alphabet", .glo "is_symbol", .keep "is_symbol", .glo "first_wrong_entry", .keep "first_wrong_entry", .glo "is_word", .keep "is_word", .glo "_law_pot", .keep "_law_pot", .glo "_law_digit", .keep "_law_digit", .glo "_law_pick", .keep "_law_pick", .glo "_law_names", .keep "_law_names", .glo "_law_is_name", .keep "_law_is_name", .glo "_law_is_integer", .keep "_law_is_integer", .glo "_law_odd", .keep "_law_odd", .glo "_law_listed", .keep "_law_listed", .glo "_law_wrong", .keep "_law_wrong", .glo "_law_judged", .keep "_law_judged", .glo "_law_told", .keep "_law_told", .glo "_law_words_right", .keep "_law_words_right", .glo "law", .keep "law"]
def fn : List He.FnD := [⟨("InvalidAlphabet", some "__init__"), "__init__", "InvalidAlphabet.__init__", defArgs ini_InvalidAlphabet, defBody ini_InvalidAlphabet, defScope ini_InvalidAlphabet⟩, ⟨("is_integer", none), "is_integer", "is_integer", defArgs st_is_integer, defBody st_is_integer, defScope st_is_integer⟩, ⟨("is_count", none), "is_count", "is_count", defArgs st_is_count, defBody st_is_count, defScope st_is_count⟩, ⟨("is_name", none), "is_name", "is_name", defArgs st_is_name, defBody st_is_name, defScope st_is_name⟩, ⟨("is_list", none), "is_list", "is_list", defArgs st_is_list, defBody st_is_list, defScope st_is_list⟩, ⟨("first_wrong_symbol", none), "first_wrong_symbol", "first_wrong_symbol", defArgs st_first_wrong_symbol, defBody st_first_wrong_symbol, defScope st_first_wrong_symbol⟩, ⟨("is_alphabet", none), "is_alphabet", "is_alphabet", defArgs st_is_alphabet, defBody st_is_alphabet, defScope st_is_alphabet⟩, ⟨("require_alphabet", none), "require_alphabet", "require_alphabet", defArgs st_require_alphabet, defBody st_require_alphabet, defScope st_require_alphabet⟩, ⟨("is_symbol", none), "is_symbol", "is_symbol", defArgs st_is_symbol, defBody st_is_symbol, defScope st_is_symbol⟩, ⟨("first_wrong_entry", none), "first_wrong_entry", "first_wrong_entry", defArgs st_first_wrong_entry, defBody st_first_wrong_entry, defScope st_first_wrong_entry⟩, ⟨("is_word", none), "is_word", "is_word", defArgs st_is_word, defBody st_is_word, defScope st_is_word⟩, ⟨("_law_pot", none), "_law_pot", "_law_pot", defArgs st_l_pot, defBody st_l_pot, defScope st_l_pot⟩, ⟨("_law_digit", none), "_law_digit", "_law_digit", defArgs st_l_digit, defBody st_l_digit, defScope st_l_digit⟩, ⟨("_law_pick", none), "_law_pick", "_law_pick", defArgs st_l_pick, defBody st_l_pick, defScope st_l_pick⟩, ⟨("_law_names", none), "_law_names", "_law_names", defArgs st_l_names, defBody st_l_names, defScope st_l_names⟩, ⟨("_law_is_name", none), "_law_is_name", "_law_is_name", defArgs st_l_is_name, defBody st_l_is_name, defScope st_l_is_name⟩, ⟨("_law_is_integer", none), "_law_is_integer", "_law_is_integer", defArgs st_l_is_integer, defBody st_l_is_integer, defScope st_l_is_integer⟩, ⟨("_law_odd", none), "_law_odd", "_law_odd", defArgs st_l_odd, defBody st_l_odd, defScope st_l_odd⟩, ⟨("_law_listed", none), "_law_listed", "_law_listed", defArgs st_l_listed, defBody st_l_listed, defScope st_l_listed⟩, ⟨("_law_wrong", none), "_law_wrong", "_law_wrong", defArgs st_l_wrong, defBody st_l_wrong, defScope st_l_wrong⟩, ⟨("_law_judged", none), "_law_judged", "_law_judged", defArgs st_l_judged, defBody st_l_judged, defScope st_l_judged⟩, ⟨("_law_told", none), "_law_told", "_law_told", defArgs st_l_told, defBody st_l_told, defScope st_l_told⟩, ⟨("_law_words_right", none), "_law_words_right", "_law_words_right", defArgs st_l_words_right, defBody st_l_words_right, defScope st_l_words_right⟩, ⟨("law", none), "law", "law", defArgs st_law, defBody st_law, defScope st_law⟩]
def fx : List Fx := [.sys, .err "InvalidAlphabet", .sup "ShortlogError", .fld "InvalidAlphabet" "position", .exi "InvalidAlphabet", .kit "InvalidAlphabet" (.inl "ShortlogError") true, .kit "InvalidAlphabet" (.inl "InvalidName") false, .kit "InvalidAlphabet" (.inl "InvalidWord") false]
theorem all_cal {P : Program} {w : World} {K : PySem.W.Frag} {h : Heap} {mg : Str → Option Value} (X : K.In h) (G : h.Ns mainGlobals mg) (c : SaysS fa fn fx K) (base : Heap) :
    Cal P w K mg base 7 "law" "law" st_law ["_law_script"] m_law := by
  have c0 := c
  have k_InvalidAlphabet := He.glo_ok X G (c.kitf 0 (f := .glo "InvalidAlphabet"))
  have k_InvalidName := He.glo_ok X G (c.kitf 1 (f := .glo "InvalidName"))
  have k_InvalidWord := He.glo_ok X G (c.kitf 2 (f := .glo "InvalidWord"))
  have k_ShortlogError := He.glo_ok X G (c.kitf 3 (f := .glo "ShortlogError"))
  have g_LETTERS := He.str_ok X G (c.kitf 4 (f := .str "LETTERS" "abcdefghijklmnopqrstuvwxyz"))
  have g_MOST_LETTERS := He.int_ok X G (c.kitf 5 (f := .int "MOST_LETTERS" 8))
  have g_MOST_SYMBOLS := He.int_ok X G (c.kitf 6 (f := .int "MOST_SYMBOLS" 8))
  have n_abs := He.free_ok X G (c.kitf 7 (f := .free "abs"))
  have n_all := He.free_ok X G (c.kitf 8 (f := .free "all"))
  have n_bool := He.free_ok X G (c.kitf 9 (f := .free "bool"))
  have n_divmod := He.free_ok X G (c.kitf 10 (f := .free "divmod"))
  have n_enumerate := He.free_ok X G (c.kitf 11 (f := .free "enumerate"))
  have n_int := He.free_ok X G (c.kitf 12 (f := .free "int"))
  have n_isinstance := He.free_ok X G (c.kitf 13 (f := .free "isinstance"))
  have n_len := He.free_ok X G (c.kitf 14 (f := .free "len"))
  have n_list := He.free_ok X G (c.kitf 15 (f := .free "list"))
  have n_max := He.free_ok X G (c.kitf 16 (f := .free "max"))
  have n_min := He.free_ok X G (c.kitf 17 (f := .free "min"))
  have n_range := He.free_ok X G (c.kitf 18 (f := .free "range"))
  have n_repr := He.free_ok X G (c.kitf 19 (f := .free "repr"))
  have n_str := He.free_ok X G (c.kitf 20 (f := .free "str"))
  have n_tuple := He.free_ok X G (c.kitf 21 (f := .free "tuple"))
  have n_zip := He.free_ok X G (c.kitf 22 (f := .free "zip"))
  have hk := sys_ok (c.ownf 0 (f := .sys))
  have e_InvalidAlphabet := err_ok (c.ownf 1 (f := .err "InvalidAlphabet")) k_InvalidAlphabet
  obtain ⟨D_InvalidAlphabet, F_InvalidAlphabet⟩ := c.ini 0 (x := "InvalidAlphabet") (q := "InvalidAlphabet.__init__") (st := ini_InvalidAlphabet) rfl (He.meth_ok (c.kitf 23 (f := .meth "InvalidAlphabet" "__init__"))).kp
  have s_InvalidAlphabet := sup_ok (c.ownf 2 (f := .sup "ShortlogError"))
  have i_InvalidAlphabet := ini1 (P := P) (w := w) (base := base) F_InvalidAlphabet sci_InvalidAlphabet (by exact rfl) _ (fun _ => by exact rfl) (by exact rfl) (by exact rfl) (by exact rfl) k_ShortlogError s_InvalidAlphabet.1 s_InvalidAlphabet.2 e_InvalidAlphabet.T (He.eqO_ok (c.kitf 24 (f := .noat "InvalidAlphabet" "position")))
  have b_InvalidAlphabet := F_InvalidAlphabet.binds (ps := ["self", "position"]) fun _ _ _ _ _ _ us hl => match us, hl with | [_, _], _ => rfl
  have f_position_InvalidAlphabet : ∀ c C, c ∈ (["InvalidAlphabet"] : List Str) → mg c = some (.ref C) → XfC K C ∧ PySem.W.findIn K (.ref C) "position" = some none := fld_of (by
    intro c hc
    simp only [List.mem_cons, List.not_mem_nil, or_false] at hc
    rcases hc with rfl
    · exact ⟨k_InvalidAlphabet, c0.ownf 3⟩)
  have x_InvalidAlphabet : ∀ c ∈ (["InvalidAlphabet"] : List Str), ∀ C, mg c = some (.ref C) → ExcC K C := exi_of (by
    intro c hc
    simp only [List.mem_cons, List.not_mem_nil, or_false] at hc
    rcases hc with rfl
    · exact ⟨k_InvalidAlphabet, c0.ownf 4⟩)
  have y_InvalidAlphabet := exm_of (K := K) (mg := mg) (l := [("InvalidAlphabet", true)]) (cx := .ref (He.ga K "InvalidAlphabet")) (by
    intro c hc
    simp only [List.mem_cons, List.not_mem_nil, or_false] at hc
    rcases hc with rfl
    · exact ⟨k_InvalidAlphabet, He.exm_ok (c0.kitf 25 (f := .exm "InvalidAlphabet" "InvalidAlphabet" true))⟩)
  have hct_InvalidAlphabet__ShortlogError : CTabOk K mg ct_InvalidAlphabet__ShortlogError := ctab_of (by
    intro r hr
    simp only [ct_InvalidAlphabet__ShortlogError, List.mem_cons, List.not_mem_nil, or_false] at hr
    rcases hr with rfl
    · exact ⟨k_InvalidAlphabet, fun y hy => by cases hy; exact k_ShortlogError, c0.ownf 5⟩)
  have hct_InvalidAlphabet__InvalidName_InvalidWord : CTabOk K mg ct_InvalidAlphabet__InvalidName_InvalidWord := ctab_of (by
    intro r hr
    simp only [ct_InvalidAlphabet__InvalidName_InvalidWord, List.mem_cons, List.not_mem_nil, or_false] at hr
    rcases hr with rfl | rfl
    · exact ⟨k_InvalidAlphabet, fun y hy => by cases hy; exact k_InvalidName, c0.ownf 6⟩
    · exact ⟨k_InvalidAlphabet, fun y hy => by cases hy; exact k_InvalidWord, c0.ownf 7⟩)
  have D_is_integer : DefAt K mg "is_integer" "is_integer" st_is_integer := c.deff 1 rfl (He.keep_ok (c.kitf 27 (f := .keep "is_integer"))) (He.glo_ok X G (c.kitf 26 (f := .glo "is_integer")))
  have D_is_count : DefAt K mg "is_count" "is_count" st_is_count := c.deff 2 rfl (He.keep_ok (c.kitf 29 (f := .keep "is_count"))) (He.glo_ok X G (c.kitf 28 (f := .glo "is_count")))
  have D_is_name : DefAt K mg "is_name" "is_name" st_is_name := c.deff 3 rfl (He.keep_ok (c.kitf 31 (f := .keep "is_name"))) (He.glo_ok X G (c.kitf 30 (f := .glo "is_name")))
  have D_is_list : DefAt K mg "is_list" "is_list" st_is_list := c.deff 4 rfl (He.keep_ok (c.kitf 33 (f := .keep "is_list"))) (He.glo_ok X G (c.kitf 32 (f := .glo "is_list")))
  have D_first_wrong_symbol : DefAt K mg "first_wrong_symbol" "first_wrong_symbol" st_first_wrong_symbol := c.deff 5 rfl (He.keep_ok (c.kitf 35 (f := .keep "first_wrong_symbol"))) (He.glo_ok X G (c.kitf 34 (f := .glo "first_wrong_symbol")))
  have D_is_alphabet : DefAt K mg "is_alphabet" "is_alphabet" st_is_alphabet := c.deff 6 rfl (He.keep_ok (c.kitf 37 (f := .keep "is_alphabet"))) (He.glo_ok X G (c.kitf 36 (f := .glo "is_alphabet")))
  have D_require_alphabet : DefAt K mg "require_alphabet" "require_alphabet" st_require_alphabet := c.deff 7 rfl (He.keep_ok (c.kitf 39 (f := .keep "require_alphabet"))) (He.glo_ok X G (c.kitf 38 (f := .glo "require_alphabet")))
  have D_is_symbol : DefAt K mg "is_symbol" "is_symbol" st_is_symbol := c.deff 8 rfl (He.keep_ok (c.kitf 41 (f := .keep "is_symbol"))) (He.glo_ok X G (c.kitf 40 (f := .glo "is_symbol")))
  have D_first_wrong_entry : DefAt K mg "first_wrong_entry" "first_wrong_entry" st_first_wrong_entry := c.deff 9 rfl (He.keep_ok (c.kitf 43 (f := .keep "first_wrong_entry"))) (He.glo_ok X G (c.kitf 42 (f := .glo "first_wrong_entry")))
  have D_is_word : DefAt K mg "is_word" "is_word" st_is_word := c.deff 10 rfl (He.keep_ok (c.kitf 45 (f := .keep "is_word"))) (He.glo_ok X G (c.kitf 44 (f := .glo "is_word")))
  have D_l_pot : DefAt K mg "_law_pot" "_law_pot" st_l_pot := c.deff 11 rfl (He.keep_ok (c.kitf 47 (f := .keep "_law_pot"))) (He.glo_ok X G (c.kitf 46 (f := .glo "_law_pot")))
  have D_l_digit : DefAt K mg "_law_digit" "_law_digit" st_l_digit := c.deff 12 rfl (He.keep_ok (c.kitf 49 (f := .keep "_law_digit"))) (He.glo_ok X G (c.kitf 48 (f := .glo "_law_digit")))
  have D_l_pick : DefAt K mg "_law_pick" "_law_pick" st_l_pick := c.deff 13 rfl (He.keep_ok (c.kitf 51 (f := .keep "_law_pick"))) (He.glo_ok X G (c.kitf 50 (f := .glo "_law_pick")))
  have D_l_names : DefAt K mg "_law_names" "_law_names" st_l_names := c.deff 14 rfl (He.keep_ok (c.kitf 53 (f := .keep "_law_names"))) (He.glo_ok X G (c.kitf 52 (f := .glo "_law_names")))
  have D_l_is_name : DefAt K mg "_law_is_name" "_law_is_name" st_l_is_name := c.deff 15 rfl (He.keep_ok (c.kitf 55 (f := .keep "_law_is_name"))) (He.glo_ok X G (c.kitf 54 (f := .glo "_law_is_name")))
  have D_l_is_integer : DefAt K mg "_law_is_integer" "_law_is_integer" st_l_is_integer := c.deff 16 rfl (He.keep_ok (c.kitf 57 (f := .keep "_law_is_integer"))) (He.glo_ok X G (c.kitf 56 (f := .glo "_law_is_integer")))
  have D_l_odd : DefAt K mg "_law_odd" "_law_odd" st_l_odd := c.deff 17 rfl (He.keep_ok (c.kitf 59 (f := .keep "_law_odd"))) (He.glo_ok X G (c.kitf 58 (f := .glo "_law_odd")))
  have D_l_listed : DefAt K mg "_law_listed" "_law_listed" st_l_listed := c.deff 18 rfl (He.keep_ok (c.kitf 61 (f := .keep "_law_listed"))) (He.glo_ok X G (c.kitf 60 (f := .glo "_law_listed")))
  have D_l_wrong : DefAt K mg "_law_wrong" "_law_wrong" st_l_wrong := c.deff 19 rfl (He.keep_ok (c.kitf 63 (f := .keep "_law_wrong"))) (He.glo_ok X G (c.kitf 62 (f := .glo "_law_wrong")))
  have D_l_judged : DefAt K mg "_law_judged" "_law_judged" st_l_judged := c.deff 20 rfl (He.keep_ok (c.kitf 65 (f := .keep "_law_judged"))) (He.glo_ok X G (c.kitf 64 (f := .glo "_law_judged")))
  have D_l_told : DefAt K mg "_law_told" "_law_told" st_l_told := c.deff 21 rfl (He.keep_ok (c.kitf 67 (f := .keep "_law_told"))) (He.glo_ok X G (c.kitf 66 (f := .glo "_law_told")))
  have D_l_words_right : DefAt K mg "_law_words_right" "_law_words_right" st_l_words_right := c.deff 22 rfl (He.keep_ok (c.kitf 69 (f := .keep "_law_words_right"))) (He.glo_ok X G (c.kitf 68 (f := .glo "_law_words_right")))
  have D_law : DefAt K mg "law" "law" st_law := c.deff 23 rfl (He.keep_ok (c.kitf 71 (f := .keep "law"))) (He.glo_ok X G (c.kitf 70 (f := .glo "law")))
  have c_is_integer := cal_is_integer (P := P) (w := w) (base := base) (hk := hk) (D := D_is_integer) (n_bool := n_bool) (n_isinstance := n_isinstance) (n_int := n_int)
  have c_is_count := cal_is_count (P := P) (w := w) (base := base) (hk := hk) (D := D_is_count) (c_is_integer := c_is_integer)
  have c_is_name := cal_is_name (P := P) (w := w) (base := base) (hk := hk) (D := D_is_name) (n_len := n_len) (g_MOST_LETTERS := g_MOST_LETTERS) (n_str := n_str) (n_isinstance := n_isinstance) (g_LETTERS := g_LETTERS) (n_all := n_all)
  have c_is_list := cal_is_list (P := P) (w := w) (base := base) (hk := hk) (D := D_is_list) (n_tuple := n_tuple) (n_list := n_list) (n_isinstance := n_isinstance)
  have c_first_wrong_symbol := cal_first_wrong_symbol (P := P) (w := w) (base := base) (hk := hk) (D := D_first_wrong_symbol) (c_is_name := c_is_name) (n_enumerate := n_enumerate)
  have c_is_alphabet := cal_is_alphabet (P := P) (w := w) (base := base) (hk := hk) (D := D_is_alphabet) (c_is_list := c_is_list) (c_first_wrong_symbol := c_first_wrong_symbol) (n_len := n_len) (g_MOST_SYMBOLS := g_MOST_SYMBOLS)
  have c_require_alphabet := cal_require_alphabet (P := P) (w := w) (base := base) (hk := hk) (D := D_require_alphabet) (c_is_list := c_is_list) (c_first_wrong_symbol := c_first_wrong_symbol) (n_len := n_len) (g_MOST_SYMBOLS := g_MOST_SYMBOLS) (e_InvalidAlphabet := e_InvalidAlphabet) (i_InvalidAlphabet := i_InvalidAlphabet) (b_InvalidAlphabet := b_InvalidAlphabet)
  have c_is_symbol := cal_is_symbol (P := P) (w := w) (base := base) (hk := hk) (D := D_is_symbol) (c_is_name := c_is_name)
  have c_first_wrong_entry := cal_first_wrong_entry (P := P) (w := w) (base := base) (hk := hk) (D := D_first_wrong_entry) (c_is_symbol := c_is_symbol) (n_enumerate := n_enumerate)
  have c_is_word := cal_is_word (P := P) (w := w) (base := base) (hk := hk) (D := D_is_word) (c_is_list := c_is_list) (c_require_alphabet := c_require_alphabet) (c_first_wrong_entry := c_first_wrong_entry)
  have c_l_pot := cal_l_pot (P := P) (w := w) (base := base) (hk := hk) (D := D_l_pot) (n_len := n_len) (n_abs := n_abs) (n_max := n_max)
  have c_l_digit := cal_l_digit (P := P) (w := w) (base := base) (hk := hk) (D := D_l_digit) (n_divmod := n_divmod)
  have c_l_pick := cal_l_pick (P := P) (w := w) (base := base) (hk := hk) (D := D_l_pick) (c_l_digit := c_l_digit) (n_len := n_len)
  have c_l_names := cal_l_names (P := P) (w := w) (base := base) (hk := hk) (D := D_l_names) (c_l_digit := c_l_digit) (c_l_pick := c_l_pick) (n_range := n_range) (n_zip := n_zip)
  have c_l_is_name := cal_l_is_name (P := P) (w := w) (base := base) (hk := hk) (D := D_l_is_name) (n_len := n_len) (n_str := n_str) (n_isinstance := n_isinstance) (n_all := n_all)
  have c_l_is_integer := cal_l_is_integer (P := P) (w := w) (base := base) (hk := hk) (D := D_l_is_integer) (n_bool := n_bool) (n_isinstance := n_isinstance) (n_int := n_int)
  have c_l_odd := cal_l_odd (P := P) (w := w) (base := base) (hk := hk) (D := D_l_odd) (c_l_digit := c_l_digit) (c_l_pick := c_l_pick)
  have c_l_listed := cal_l_listed (P := P) (w := w) (base := base) (hk := hk) (D := D_l_listed) (c_l_digit := c_l_digit) (c_l_names := c_l_names) (c_l_odd := c_l_odd) (n_range := n_range) (n_len := n_len) (n_tuple := n_tuple)
  have c_l_wrong := cal_l_wrong (P := P) (w := w) (base := base) (hk := hk) (D := D_l_wrong) (c_l_is_name := c_l_is_name) (n_len := n_len) (n_tuple := n_tuple) (n_list := n_list) (n_isinstance := n_isinstance) (n_range := n_range)
  have c_l_judged := cal_l_judged (P := P) (w := w) (base := base) (hk := hk) (D := D_l_judged) (c_is_integer := c_is_integer) (c_is_count := c_is_count) (c_is_name := c_is_name) (c_is_alphabet := c_is_alphabet) (c_l_is_name := c_l_is_name) (c_l_is_integer := c_l_is_integer) (c_l_wrong := c_l_wrong) (n_repr := n_repr)
  have c_l_told := cal_l_told (P := P) (w := w) (base := base) (hk := hk) (D := D_l_told) (c_is_word := c_is_word) (k_ShortlogError := k_ShortlogError) (hct_InvalidAlphabet__ShortlogError := hct_InvalidAlphabet__ShortlogError) (x_InvalidAlphabet := x_InvalidAlphabet) (n_isinstance := n_isinstance) (n_repr := n_repr) (n_len := n_len) (k_InvalidWord := k_InvalidWord) (k_InvalidName := k_InvalidName) (hct_InvalidAlphabet__InvalidName_InvalidWord := hct_InvalidAlphabet__InvalidName_InvalidWord) (f_position_InvalidAlphabet := f_position_InvalidAlphabet) (y_InvalidAlphabet := y_InvalidAlphabet) (k_InvalidAlphabet := k_InvalidAlphabet)
  have c_l_words_right := cal_l_words_right (P := P) (w := w) (base := base) (hk := hk) (D := D_l_words_right) (c_l_digit := c_l_digit) (c_l_pick := c_l_pick) (c_l_names := c_l_names) (c_l_is_name := c_l_is_name) (c_l_odd := c_l_odd) (c_l_wrong := c_l_wrong) (c_l_told := c_l_told) (n_list := n_list) (n_range := n_range) (n_len := n_len) (n_tuple := n_tuple) (n_all := n_all) (n_isinstance := n_isinstance) (n_repr := n_repr)
  have c_law := cal_law (P := P) (w := w) (base := base) (hk := hk) (D := D_law) (c_l_pot := c_l_pot) (c_l_digit := c_l_digit) (c_l_names := c_l_names) (c_l_odd := c_l_odd) (c_l_listed := c_l_listed) (c_l_judged := c_l_judged) (c_l_words_right := c_l_words_right) (n_len := n_len) (n_min := n_min) (n_max := n_max) (n_range := n_range) (n_all := n_all) (n_tuple := n_tuple)
  exact c_law
theorem law_binds {K : PySem.W.Frag} {f : Addr} {fd : FuncData} (F : Fun K "law" "law" st_law f fd) : ∀ (s : Shared) (u : Value), BindsTo s fd ⟨[u], []⟩ [("_law_script", u)] := by
  obtain ⟨_, _, _, _, _, _, _, _, _, rfl, _⟩ := F.ex
  exact fun s u => .of_eq rfl
abbrev R : PySem.W.OpenRow := PySem.W.OpenLaw.row PySem.Challenge.rw_shortlog_k11_names_alphabets_words
abbrev hook : PySem.W.Hook := hookS 6 fa fn fx
def ob (s : PySem.W.SharedT) := obsS 6 fa fn fx (HandSHeadRun.getT s)
theorem ob_eq (s : PySem.W.SharedT) : ob s = hook.obs s.abs := obsS_eq (HandSHeadRun.getT_eq s)
def loose : List Str := ["ShortlogError", "InvalidName", "InvalidAlphabet", "InvalidWord", "LETTERS", "MOST_LETTERS", "MOST_SYMBOLS", "is_integer", "is_count", "is_name", "is_list", "first_wrong_symbol", "is_alphabet", "require_alphabet", "is_symbol", "first_wrong_entry", "is_word", "_law_pot", "_law_digit", "_law_pick", "_law_names", "_law_is_name", "_law_is_integer", "_law_odd", "_law_listed", "_law_wrong", "_law_judged", "_law_told", "_law_words_right"]
set_option maxHeartbeats 0 in
theorem run (w : World) : HandSHeadRun.RunEq R (PySem.W.view R.prog [32]) hook ob 4000 loose w := by
  intro os
  kernel_rfl
end K11
open PySem PySem.W PySem.Calls PyProof.Rows

set_option maxHeartbeats 0 in
theorem PySem.Challenge.cw_shortlog_k11_names_alphabets_words_holds : PySem.Challenge.rw_shortlog_k11_names_alphabets_words.Holds := by
  w_on; o_law
  refine HandSHeadRun.head_any (r := OpenLaw.row PySem.Challenge.rw_shortlog_k11_names_alphabets_words) (q := view (OpenLaw.row PySem.Challenge.rw_shortlog_k11_names_alphabets_words).prog [32]) (H := K11.hook) (ob := K11.ob) (M := 4000) (loose := K11.loose) (d := HandSHeadRun.topDef (OpenLaw.row PySem.Challenge.rw_shortlog_k11_names_alphabets_words).prog 32) (kwd := []) K11.ob_eq
    (by kernel_rfl) (fun s => by kernel_rfl) K11.run (by kernel_rfl) (by kernel_rfl) (by kernel_rfl) (by rfl) (by first | assumption | decide +kernel) (by decide +kernel) ⟨rfl, rfl, rfl, rfl, rfl, by decide +kernel⟩ ?hw ?hc
  case hw => w_witness2
  case hc =>
    refine DL.walk_dl (l := PySem.Challenge.rw_shortlog_k11_names_alphabets_words) (n := 63) (k := 7) (x := "_law_script") rfl (by decide) (by kernel_rfl) ⟨rfl, by decide, by decide⟩ rfl ?_
    intro w mg f h Y G hf
    obtain ⟨K, KX, c⟩ := Y
    have hf2 : mg ("law" : PySem.Str) = some (.ref f) := by
      have e : (HandSHeadRun.topDef (OpenLaw.row PySem.Challenge.rw_shortlog_k11_names_alphabets_words).prog 32).name = ("law" : PySem.Str) := by kernel_rfl
      rw [← e]; exact hf
    obtain ⟨fd, F, D⟩ := DL.end_of h (fun base => K11.all_cal KX G c base) hf2
    exact ⟨K, fd, K11.m_law, KX, K11.law_binds F, fun ns hl => K11.law_true ns hl, fun base _ _ => D base⟩

