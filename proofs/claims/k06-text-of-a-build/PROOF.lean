import PyProof.Rows.All
import Wide.All
import OpenK.AllK
import Wide.FinOn
import HandS.ForMost
import HandS.ForExc
import HandS.Deep
import HandS.Defaults
import HandS.HeadHook1
import HandS.Text
import HandS.FStr
import HandS.Style
import HandS.More
import HandS.TupAny
import HandS.Wide
import HandS.IsInst
import KE.LtData
import HandS.CallSlots
import HandS.MakeKw
import HandS.MakeKwOnly
import HandS.SetFor
import HandS.Strs
import KE.KStateDown
import HandS.Head0
import HandS.Head1
import HandS.Head2
import HandS.HeadEnd
import HandS.HeadHook2
import PySem.Challenge.RW_hushkernel_k06_text_of_a_build
set_option Elab.async false
set_option linter.all false
set_option maxRecDepth 100000
set_option maxHeartbeats 4000000
/-! Z: values with tuples, frozen lists, dicts and instances as data; a small heap of what is still changed -/
namespace Z
open PySem PySem.Spec PyProof.Rows L2
inductive PV where
  | non | bl (b : Bool) | int (i : Int) | str (s : Str)
  | tup (xs : List PV) | lst (xs : List PV) | scr (xs : List PV) | dct (ks : List Key) (xs : List PV) | ins (c : Nat) (fs : List PV)
  | ref (a : Addr) | ty (n : String)
inductive MO where
  | lst (xs : List PV) | dct (ks : List Key) (xs : List PV) | ins (c : Nat) (fs : List (Option PV)) | sm (P : List PV → Prop)
abbrev Mh := Addr → Option MO
def put (M : Mh) (a : Addr) (o : MO) : Mh := fun b => if b = a then some o else M b
def del (M : Mh) (a : Addr) : Mh := fun b => if b = a then none else M b
abbrev Zs := List (Option PV)
theorem put_same {M : Mh} {a : Addr} {o : MO} : put M a o a = some o := by unfold put; rw [if_pos rfl]
theorem put_ne {M : Mh} {a b : Addr} {o : MO} (h : b ≠ a) : put M a o b = M b := by unfold put; rw [if_neg h]
def MSub (M M' : Mh) : Prop := ∀ a o, M a = some o → M' a = some o
theorem MSub.refl (M : Mh) : MSub M M := fun _ _ h => h
theorem MSub.trans {M M1 M2 : Mh} (a : MSub M M1) (b : MSub M1 M2) : MSub M M2 := fun x o h => b x o (a x o h)
theorem MSub.put {M : Mh} {a : Addr} {o : MO} (h : M a = none) : MSub M (put M a o) := fun b q e => by
  have : b ≠ a := fun z => by rw [z, h] at e; cases e
  rw [put_ne this]; exact e
/-- the text's classes: name and the fields in the order in which they are stored -/
structure Cfg where
  cls : List (Str × List Str)
  exc : List (Str × List Str)
  /-- what stood frozen at the entry -/
  F0 : Hp := fun _ => none
def Cfg.at (G : Cfg) (F : Hp) : Cfg := { G with F0 := F }
mutual
inductive RV' (L : List (Str × List Str)) (K : PySem.W.Frag) (F : Hp) : V → PV → Prop
  | non : RV' L K F .non .non
  | bl (b : Bool) : RV' L K F (.bl b) (.bl b)
  | int (i : Int) : RV' L K F (.int i) (.int i)
  | str (s : Str) : RV' L K F (.str s) (.str s)
  | tup {a : Addr} {vs : List V} {xs : List PV} : F a = some (.tup vs) → RVs' L K F vs xs → RV' L K F (.ref a) (.tup xs)
  | lst {a : Addr} {vs : List V} {xs : List PV} : F a = some (.lst vs) → RVs' L K F vs xs → RV' L K F (.ref a) (.lst xs)
  | scr {a : Addr} {vs : List V} {xs : List PV} : SqL K F a vs → RVs' L K F vs xs → RV' L K F (.ref a) (.scr xs)
  | dct {a : Addr} {ks : List Key} {vs : List V} {xs : List PV} : F a = some (.dK (ks.zip vs)) → ks.length = vs.length → RVs' L K F vs xs → RV' L K F (.ref a) (.dct ks xs)
  | ins {a dx : Addr} {c : Nat} {nm : Str} {lay : List Str} {kvs : List (Str × V)} {vs : List V} {fs : List PV} : L[c]? = some (nm, lay) → F a = some (.ins (He.ga K nm) dx kvs) → lay.length = vs.length → (∀ (i : Nat) (f : Str) (v : V), lay[i]? = some f → vs[i]? = some v → kvs.lookup f = some v) →
      (∀ f, kvs.lookup f ≠ none → f ∈ lay) → RVs' L K F vs fs → RV' L K F (.ref a) (.ins c fs)
  | ref (a : Addr) : RV' L K F (.ref a) (.ref a)
  | ty (n : String) : RV' L K F (.ty n) (.ty n)
inductive RVs' (L : List (Str × List Str)) (K : PySem.W.Frag) (F : Hp) : List V → List PV → Prop
  | nil : RVs' L K F [] []
  | cons {v : V} {p : PV} {vs : List V} {ps : List PV} : RV' L K F v p → RVs' L K F vs ps → RVs' L K F (v :: vs) (p :: ps)
end
abbrev RV (G : Cfg) := RV' G.cls
abbrev RVs (G : Cfg) := RVs' G.cls
section
variable {G : Cfg} {K : PySem.W.Frag} {F F' H H' : Hp}
theorem sameT {K : PySem.W.Frag} {H H' : Hp} {a : Addr} {xs : List V} (e : Same H H') (h : SqT K H a xs) : SqT K H' a xs := by
  rcases h with (h | ⟨o, h⟩) | h
  · exact .inl (.inl (e _ _ h))
  · exact .inl (.inr ⟨o, e _ _ h⟩)
  · exact .inr h
mutual
theorem RV'.mono (s : Same F F') : ∀ {v : V} {p : PV}, RV G K F v p → RV G K F' v p
  | _, _, .non => .non
  | _, _, .bl b => .bl b
  | _, _, .int i => .int i
  | _, _, .str x => .str x
  | _, _, .tup h r => .tup (s _ _ h) (RVs'.mono s r)
  | _, _, .lst h r => .lst (s _ _ h) (RVs'.mono s r)
  | _, _, .scr h r => .scr (Same.seq s h) (RVs'.mono s r)
  | _, _, .dct h l r => .dct (s _ _ h) l (RVs'.mono s r)
  | _, _, .ins c h l k n r => .ins c (s _ _ h) l k n (RVs'.mono s r)
  | _, _, .ref a => .ref a
  | _, _, .ty n => .ty n
theorem RVs'.mono (s : Same F F') : ∀ {vs : List V} {ps : List PV}, RVs G K F vs ps → RVs G K F' vs ps
  | _, _, .nil => .nil
  | _, _, .cons r t => .cons (RV'.mono s r) (RVs'.mono s t)
end
theorem RVs'.length : ∀ {vs : List V} {ps : List PV}, RVs G K F vs ps → vs.length = ps.length
  | _, _, .nil => rfl
  | _, _, .cons _ t => by rw [List.length_cons, List.length_cons, RVs'.length t]
theorem RVs'.get : ∀ {vs : List V} {ps : List PV} {i : Nat} {p : PV}, RVs G K F vs ps → ps[i]? = some p → ∃ v, vs[i]? = some v ∧ RV G K F v p
  | _, _, _, _, .nil, e => by simp at e
  | _, _, 0, _, .cons r _, e => by simp at e; subst e; exact ⟨_, rfl, r⟩
  | _, _, i + 1, p, .cons _ t, e => by
    obtain ⟨v, h1, h2⟩ := RVs'.get (i := i) (p := p) t (by simpa using e)
    exact ⟨v, by simpa using h1, h2⟩
theorem RVs'.get' : ∀ {vs : List V} {ps : List PV} {i : Nat} {v : V}, RVs G K F vs ps → vs[i]? = some v → ∃ p, ps[i]? = some p ∧ RV G K F v p
  | _, _, _, _, .nil, e => by simp at e
  | _, _, 0, _, .cons r _, e => by simp at e; subst e; exact ⟨_, rfl, r⟩
  | _, _, i + 1, p, .cons _ t, e => by
    obtain ⟨v, h1, h2⟩ := RVs'.get' (i := i) (v := p) t (by simpa using e)
    exact ⟨v, by simpa using h1, h2⟩
theorem RVs'.append : ∀ {vs us : List V} {ps qs : List PV}, RVs G K F vs ps → RVs G K F us qs → RVs G K F (vs ++ us) (ps ++ qs)
  | _, _, _, _, .nil, s => s
  | _, _, _, _, .cons r t, s => .cons r (RVs'.append t s)
theorem RVs'.take : ∀ {vs : List V} {ps : List PV} (n : Nat), RVs G K F vs ps → RVs G K F (vs.take n) (ps.take n)
  | _, _, 0, _ => .nil
  | _, _, _ + 1, .nil => .nil
  | _, _, n + 1, .cons r t => .cons r (RVs'.take n t)
theorem RVs'.drop : ∀ {vs : List V} {ps : List PV} (n : Nat), RVs G K F vs ps → RVs G K F (vs.drop n) (ps.drop n)
  | _, _, 0, r => r
  | _, _, _ + 1, .nil => .nil
  | _, _, n + 1, .cons _ t => RVs'.drop n t
theorem RVs'.set {v : V} {p : PV} (r : RV G K F v p) : ∀ {vs : List V} {ps : List PV} (i : Nat), RVs G K F vs ps → RVs G K F (vs.set i v) (ps.set i p)
  | _, _, _, .nil => .nil
  | _, _, 0, .cons _ t => .cons r t
  | _, _, i + 1, .cons q t => .cons q (RVs'.set r i t)
theorem RVs'.reverse : ∀ {vs : List V} {ps : List PV}, RVs G K F vs ps → RVs G K F vs.reverse ps.reverse
  | _, _, .nil => .nil
  | _, _, .cons r t => by rw [List.reverse_cons, List.reverse_cons]; exact (RVs'.reverse t).append (.cons r .nil)
theorem RVs'.eraseIdx : ∀ {vs : List V} {ps : List PV} (i : Nat), RVs G K F vs ps → RVs G K F (vs.eraseIdx i) (ps.eraseIdx i)
  | _, _, _, .nil => .nil
  | _, _, 0, .cons _ t => t
  | _, _, i + 1, .cons q t => .cons q (RVs'.eraseIdx i t)
theorem RVs'.ints : ∀ (ns : List Int), RVs G K F (ns.map V.int) (ns.map PV.int)
  | [] => .nil
  | n :: r => .cons (.int n) (RVs'.ints r)
theorem strs_of : ∀ {vs : List V} {ys : List Str}, RVs G K F vs (ys.map PV.str) → vs = ys.map V.str
  | [], [], _ => rfl
  | [], _ :: _, h => by cases h
  | _ :: _, [], h => by cases h
  | _ :: _, _ :: _, .cons r t => by cases r; rw [List.map_cons, strs_of t]
/-- the values of ints are ints -/
theorem RVs'.ints_of : ∀ {vs : List V} {ns : List Int}, RVs G K F vs (ns.map PV.int) → vs = ns.map V.int
  | [], [], _ => rfl
  | [], _ :: _, h => by cases h
  | _ :: _, [], h => by cases h
  | _ :: _, _ :: _, .cons r t => by cases r; rw [List.map_cons, RVs'.ints_of t]
def RO (G : Cfg) (K : PySem.W.Frag) (F : Hp) (o : HO) : MO → Prop
  | .lst xs => ∃ vs, o = .lst vs ∧ RVs G K F vs xs
  | .dct ks xs => ∃ vs, o = .dK (ks.zip vs) ∧ ks.length = vs.length ∧ RVs G K F vs xs
  | .ins c fs => ∃ nm lay dx kvs, G.cls[c]? = some (nm, lay) ∧ o = .ins (He.ga K nm) dx kvs ∧ (kvs.map (·.1)).Nodup ∧ fs.length = lay.length ∧ (∀ f, kvs.lookup f ≠ none → f ∈ lay) ∧
      ∀ (i : Nat) (p : PV) (f : Str), fs[i]? = some (some p) → lay[i]? = some f → ∃ v, kvs.lookup f = some v ∧ RV G K F v p
  | .sm P => ∃ vs xs, o = .lst vs ∧ RVs G K F vs xs ∧ P xs
theorem RO.mono {o : HO} {m : MO} (s : Same F F') (r : RO G K F o m) : RO G K F' o m := by
  cases m with
  | lst xs => obtain ⟨vs, e, r⟩ := r; exact ⟨vs, e, r.mono s⟩
  | dct ks xs => obtain ⟨vs, e, l, r⟩ := r; exact ⟨vs, e, l, r.mono s⟩
  | ins c fs =>
    obtain ⟨nm, lay, dx, kvs, e1, e2, e3, e4, e5, r⟩ := r
    refine ⟨nm, lay, dx, kvs, e1, e2, e3, e4, e5, fun i p f h1 h2 => ?_⟩
    obtain ⟨v, h3, h4⟩ := r i p f h1 h2
    exact ⟨v, h3, h4.mono s⟩
  | sm P => obtain ⟨vs, xs, e, r, q⟩ := r; exact ⟨vs, xs, e, r.mono s, q⟩
structure Ab (G : Cfg) (K : PySem.W.Frag) (F : Hp) (M : Mh) (H : Hp) : Prop where
  bs : Same G.F0 F
  sub : Same F H
  mu : ∀ a m, M a = some m → F a = none ∧ ∃ o, H a = some o ∧ RO G K F o m
theorem Ab.free {M : Mh} (A : Ab G K F M H) {p : Addr} (h : H p = none) : M p = none ∧ F p = none := by
  refine ⟨?_, Same.free A.sub h⟩
  cases e : M p with
  | none => rfl
  | some m =>
    obtain ⟨_, o, ho, _⟩ := A.mu p m e
    rw [h] at ho; cases ho
/-- less is known -/
theorem Ab.less {M M' : Mh} (A : Ab G K F M H) (s : MSub M' M) : Ab G K F M' H := ⟨A.bs, A.sub, fun a m h => A.mu a m (s a m h)⟩
theorem sameUpd {H : Hp} {p : Addr} {o : HO} (h : H p = none) : Same H (upd H p o) := fun b q e => by
  rw [upd_ne (ne_of_none e h)]; exact e
theorem sameUpd2 {F H : Hp} {p : Addr} {o : HO} (s : Same F H) (h : H p = none) : Same (upd F p o) (upd H p o) := fun b q e => by
  by_cases hb : b = p
  · subst hb; rw [upd_same] at e ⊢; exact e
  · rw [upd_ne hb] at e ⊢; exact s b q e
/-- a new frozen thing -/
theorem Ab.newF {M : Mh} (A : Ab G K F M H) {p : Addr} {o : HO} (h : H p = none) : Ab G K (upd F p o) M (upd H p o) ∧ Same F (upd F p o) := by
  have hF := A.free h
  refine ⟨⟨A.bs.trans (sameUpd hF.2), sameUpd2 A.sub h, fun a m e => ?_⟩, sameUpd hF.2⟩
  have hap : a ≠ p := fun z => by rw [z, hF.1] at e; cases e
  obtain ⟨h1, q, h2, h3⟩ := A.mu a m e
  exact ⟨by rw [upd_ne hap]; exact h1, q, by rw [upd_ne hap]; exact h2, h3.mono (sameUpd hF.2)⟩
/-- a new thing that may change -/
theorem Ab.newM {M : Mh} (A : Ab G K F M H) {p : Addr} {o : HO} {m : MO} (h : H p = none) (r : RO G K F o m) : Ab G K F (put M p m) (upd H p o) := by
  have hF := A.free h
  refine ⟨A.bs, fun b q e => ?_, fun a m' e => ?_⟩
  · rw [upd_ne (ne_of_none (A.sub b q e) h)]; exact A.sub b q e
  · by_cases hap : a = p
    · subst hap
      rw [put_same] at e; cases e
      exact ⟨hF.2, o, upd_same, r⟩
    · rw [put_ne hap] at e
      rw [upd_ne hap]
      exact A.mu a m' e
/-- a change -/
theorem Ab.write {M : Mh} (A : Ab G K F M H) {p : Addr} {o : HO} {m m0 : MO} (h : M p = some m0) (r : RO G K F o m) : Ab G K F (put M p m) (upd H p o) := by
  obtain ⟨hF, _⟩ := A.mu p m0 h
  refine ⟨A.bs, fun b q e => ?_, fun a m' e => ?_⟩
  · have : b ≠ p := fun z => by rw [z, hF] at e; cases e
    rw [upd_ne this]; exact A.sub b q e
  · by_cases hap : a = p
    · subst hap
      rw [put_same] at e; cases e
      exact ⟨hF, o, upd_same, r⟩
    · rw [put_ne hap] at e
      rw [upd_ne hap]
      exact A.mu a m' e
/-- a list is not changed any more -/
theorem Ab.freeze {M : Mh} (A : Ab G K F M H) {p : Addr} {xs : List PV} (h : M p = some (.lst xs)) : ∃ F', Same F F' ∧ Ab G K F' (del M p) H ∧ RV G K F' (.ref p) (.lst xs) := by
  obtain ⟨hF, o, ho, vs, rfl, r⟩ := A.mu p _ h
  have sF : Same F (upd F p (.lst vs)) := sameUpd hF
  refine ⟨upd F p (.lst vs), sF, ⟨A.bs.trans sF, fun b q e => ?_, fun a m e => ?_⟩, .lst upd_same (r.mono sF)⟩
  · by_cases hb : b = p
    · subst hb; rw [upd_same] at e; cases e; exact ho
    · rw [upd_ne hb] at e; exact A.sub b q e
  · have hap : a ≠ p := fun z => by subst z; unfold del at e; rw [if_pos rfl] at e; cases e
    have e' : M a = some m := by unfold del at e; rw [if_neg hap] at e; exact e
    obtain ⟨h1, q, h2, h3⟩ := A.mu a m e'
    exact ⟨by rw [upd_ne hap]; exact h1, q, h2, h3.mono sF⟩
theorem fields_vs {lay : List Str} {kvs : List (Str × V)} : ∀ (fs : List PV) (n : Nat), (∀ (i : Nat) (p : PV) (f : Str), fs[i]? = some p → lay[n + i]? = some f → ∃ v, kvs.lookup f = some v ∧ RV G K F v p) → n + fs.length ≤ lay.length →
    ∃ vs, RVs G K F vs fs ∧ ∀ (i : Nat) (f : Str) (v : V), lay[n + i]? = some f → vs[i]? = some v → kvs.lookup f = some v
  | [], _, _, _ => ⟨[], .nil, fun i f v _ h => by simp at h⟩
  | p :: fs, n, h, hl => by
    have hn : n < lay.length := by rw [List.length_cons] at hl; omega
    obtain ⟨v, e, r⟩ := h 0 p lay[n] rfl (List.getElem?_eq_getElem hn)
    obtain ⟨vs, rs, k⟩ := fields_vs fs (n + 1) (fun i q f h1 h2 => h (i + 1) q f (by simpa using h1) (by rw [← h2]; congr 1; omega)) (by rw [List.length_cons] at hl; omega)
    refine ⟨v :: vs, .cons r rs, fun i f u h1 h2 => ?_⟩
    cases i with
    | zero =>
      rw [Nat.add_zero, List.getElem?_eq_getElem hn] at h1
      cases h1
      simp at h2
      subst h2
      exact e
    | succ i => exact k i f u (by rw [← h1]; congr 1; omega) (by simpa using h2)
/-- an instance is not changed any more -/
theorem Ab.freezeI {M : Mh} (A : Ab G K F M H) {p : Addr} {c : Nat} {fs : List PV} (h : M p = some (.ins c (fs.map some))) : ∃ F', Same F F' ∧ Ab G K F' (del M p) H ∧ RV G K F' (.ref p) (.ins c fs) := by
  obtain ⟨hF, o, ho, nm, lay, dx, kvs, e1, rfl, e3, e4, e5, e6⟩ := A.mu p _ h
  have sF : Same F (upd F p (.ins (He.ga K nm) dx kvs)) := sameUpd hF
  rw [List.length_map] at e4
  obtain ⟨vs, rs, k⟩ := fields_vs (G := G) (K := K) (F := F) (lay := lay) (kvs := kvs) fs 0 (fun i q f h1 h2 => e6 i q f (by rw [List.getElem?_map, h1]; rfl) (by simpa using h2)) (by omega)
  refine ⟨_, sF, ⟨A.bs.trans sF, fun b q e => ?_, fun a m e => ?_⟩, .ins e1 upd_same (by rw [rs.length]; exact e4.symm) (fun i f v h1 h2 => k i f v (by simpa using h1) h2) e5 (rs.mono sF)⟩
  · by_cases hb : b = p
    · subst hb; rw [upd_same] at e; cases e; exact ho
    · rw [upd_ne hb] at e; exact A.sub b q e
  · have hap : a ≠ p := fun z => by subst z; unfold del at e; rw [if_pos rfl] at e; cases e
    have e' : M a = some m := by unfold del at e; rw [if_neg hap] at e; exact e
    obtain ⟨h1, q, h2, h3⟩ := A.mu a m e'
    exact ⟨by rw [upd_ne hap]; exact h1, q, h2, h3.mono sF⟩
/-- a dict is not changed any more -/
theorem Ab.freezeD {M : Mh} (A : Ab G K F M H) {p : Addr} {ks : List Key} {xs : List PV} (h : M p = some (.dct ks xs)) : ∃ F', Same F F' ∧ Ab G K F' (del M p) H ∧ RV G K F' (.ref p) (.dct ks xs) := by
  obtain ⟨hF, o, ho, vs, rfl, l, r⟩ := A.mu p _ h
  have sF : Same F (upd F p (.dK (ks.zip vs))) := sameUpd hF
  refine ⟨_, sF, ⟨A.bs.trans sF, fun b q e => ?_, fun a m e => ?_⟩, .dct upd_same l (r.mono sF)⟩
  · by_cases hb : b = p
    · subst hb; rw [upd_same] at e; cases e; exact ho
    · rw [upd_ne hb] at e; exact A.sub b q e
  · have hap : a ≠ p := fun z => by subst z; unfold del at e; rw [if_pos rfl] at e; cases e
    have e' : M a = some m := by unfold del at e; rw [if_neg hap] at e; exact e
    obtain ⟨h1, q, h2, h3⟩ := A.mu a m e'
    exact ⟨by rw [upd_ne hap]; exact h1, q, h2, h3.mono sF⟩
/-- a list of which something is known, seen -/
theorem Ab.opn {M : Mh} (A : Ab G K F M H) {p : Addr} {P : List PV → Prop} (h : M p = some (.sm P)) : ∃ xs, P xs ∧ Ab G K F (put M p (.lst xs)) H := by
  obtain ⟨hF, o, ho, vs, xs, e, r, q⟩ := A.mu p _ h
  refine ⟨xs, q, A.bs, A.sub, fun a m e' => ?_⟩
  by_cases hap : a = p
  · subst hap
    rw [put_same] at e'; cases e'
    exact ⟨hF, o, ho, vs, e, r⟩
  · rw [put_ne hap] at e'
    exact A.mu a m e'
/-- less is said: fewer things, or of a list only a property -/
def Weak (M' M : Mh) : Prop := ∀ a m, M' a = some m → M a = some m ∨ ∃ xs P, M a = some (.lst xs) ∧ m = .sm P ∧ P xs
theorem Weak.refl (M : Mh) : Weak M M := fun _ _ h => .inl h
theorem Weak.sub {M' M : Mh} (h : MSub M' M) : Weak M' M := fun a m e => .inl (h a m e)
theorem Ab.weak {M M' : Mh} (A : Ab G K F M H) (s : Weak M' M) : Ab G K F M' H := ⟨A.bs, A.sub, fun a m h => by
  rcases s a m h with h3 | ⟨xs, P, h3, rfl, q⟩
  · exact A.mu a m h3
  · obtain ⟨h1, o, h2, vs, e, r⟩ := A.mu a _ h3
    exact ⟨h1, o, h2, vs, xs, e, r, q⟩⟩
/-- what may be looked into first -/
inductive Reach : Mh → (Mh → Prop) → Prop
  | done {M : Mh} {k : Mh → Prop} : k M → Reach M k
  | opn {M : Mh} {k : Mh → Prop} {p : Addr} {P : List PV → Prop} : M p = some (.sm P) → (∀ xs, P xs → Reach (put M p (.lst xs)) k) → Reach M k
theorem Reach.go {M : Mh} {k : Mh → Prop} (r : Reach M k) (A : Ab G K F M H) : ∃ M', Ab G K F M' H ∧ k M' := by
  induction r with
  | done h => exact ⟨_, A, h⟩
  | opn h _ ih =>
    obtain ⟨xs, q, A'⟩ := A.opn h
    exact ih xs q A'
/-- the same with another entry -/
theorem Ab.reat {M : Mh} {F0 : Hp} (A : Ab G K F M H) (h : Same F0 F) : Ab (G.at F0) K F M H := ⟨h, A.sub, A.mu⟩
end
end Z
set_option Elab.async false
set_option linter.all false
set_option maxRecDepth 100000
set_option maxHeartbeats 4000000
namespace Z
open PySem PySem.Spec PyProof.Rows L2
/-! ### what values are worth -/
mutual
def peq : PV → PV → Bool
  | .non, .non => true
  | .bl a, .bl b => a == b
  | .bl a, .int j => (if a then 1 else 0) == j
  | .int i, .bl b => i == (if b then 1 else 0)
  | .int i, .int j => i == j
  | .str a, .str b => a == b
  | .tup xs, .tup ys => peqs xs ys
  | .lst xs, .lst ys => peqs xs ys
  | _, _ => false
def peqs : List PV → List PV → Bool
  | [], [] => true
  | x :: xs, y :: ys => peq x y && peqs xs ys
  | _, _ => false
end
mutual
/-- can be told apart by < -/
def palike : PV → PV → Bool
  | .int _, .int _ => true
  | .str _, .str _ => true
  | .tup xs, .tup ys => palikes xs ys
  | _, _ => false
def palikes : List PV → List PV → Bool
  | x :: xs, y :: ys => palike x y && palikes xs ys
  | [], _ => true
  | _ :: _, [] => true
end
mutual
def plt : PV → PV → Bool
  | .int i, .int j => decide (i < j)
  | .str a, .str b => decide (a.cps.toList < b.cps.toList)
  | .tup xs, .tup ys => plts xs ys
  | _, _ => false
def plts : List PV → List PV → Bool
  | x :: xs, y :: ys => if peq x y then plts xs ys else plt x y
  | [], [] => false
  | [], _ :: _ => true
  | _ :: _, [] => false
end
mutual
/-- plain data, at most so deep -/
def okD : Nat → PV → Bool
  | _, .non => true
  | _, .bl _ => true
  | _, .int _ => true
  | _, .str s => PyData.strOk s
  | n + 1, .tup xs => okDs n xs
  | n + 1, .lst xs => okDs n xs
  | _, _ => false
def okDs : Nat → List PV → Bool
  | _, [] => true
  | n, x :: xs => okD n x && okDs n xs
end
def isNon : PV → Bool
  | .non => true
  | _ => false
/-- a two-way end -/
@[irreducible] def br (b : Bool) (A B : Prop) : Prop := (b = true → A) ∧ (b = false → B)
theorem br_intro {b : Bool} {A B : Prop} (h1 : b = true → A) (h2 : b = false → B) : br b A B := by unfold br; exact ⟨h1, h2⟩
theorem br_t {b : Bool} {A B : Prop} (h : b = true) (h1 : A) : br b A B := by unfold br; exact ⟨fun _ => h1, fun q => by rw [h] at q; cases q⟩
theorem br_f {b : Bool} {A B : Prop} (h : b = false) (h1 : B) : br b A B := by unfold br; exact ⟨fun q => (by rw [h] at q; cases q), fun _ => h1⟩
theorem br_elim {b : Bool} {A B : Prop} (h : br b A B) : (b = true → A) ∧ (b = false → B) := by unfold br at h; exact h
/-- the item at an index of any sign -/
def pick (xs : List PV) : Int → Option PV
  | .ofNat n => xs[n]?
  | .negSucc m => if m < xs.length then xs[xs.length - 1 - m]? else none
def place (n : Nat) : Int → Option Nat
  | .ofNat k => if k < n then some k else none
  | .negSucc m => if m < n then some (n - 1 - m) else none
/-- a list's items: frozen, or as they stand now -/
def rdM (M : Mh) (v : PV) (k : List PV → Prop) : Prop := match v with
  | .lst xs => k xs
  | .ref p => ∃ xs, M p = some (.lst xs) ∧ k xs
  | _ => False
def rdL (M : Mh) (v : PV) (k : List PV → Prop) : Prop := match v with
  | .lst xs => k xs
  | .scr xs => k xs
  | .ref p => ∃ xs, M p = some (.lst xs) ∧ k xs
  | _ => False
def rdS (M : Mh) (v : PV) (k : List PV → Prop) : Prop := match v with
  | .lst xs => k xs
  | .scr xs => k xs
  | .tup xs => k xs
  | .ref p => ∃ xs, M p = some (.lst xs) ∧ k xs
  | _ => False
abbrev ZQ := PV → Mh → Prop
/-- an exception: its class, its fields -/
structure XV where
  c : Nat
  fs : List PV
abbrev ZR := XV → Zs → Mh → Prop
abbrev ZX := XV → Mh → Prop
abbrev ZSp := List PV → Mh → ZQ → ZX → Prop
structure ZD where
  nx : Zs → Mh → Prop
  rt : ZQ
  bk : Zs → Mh → Prop := fun _ _ => False
  ct : Zs → Mh → Prop := fun _ _ => False
/-! ### the text in short -/
inductive BOp where | add | sub | mul | mod | fdiv | pow
inductive COp where | eq | ne | lt | le | gt | ge | is_ | isnot | in_ | notin
inductive Ty where | int | str | list | tuple | bool | dict
/-- a default value -/
inductive DV where | non | bl (b : Bool) | int (i : Int)
  deriving DecidableEq
def DV.pv : DV → PV
  | .non => .non | .bl b => .bl b | .int i => .int i
/-- built-ins -/
inductive Bf where
  | len | int | str | list (fz : Bool) | tuple | sum | max2 | min2 | abs | max1
/-- methods of lists -/
inductive Bm where | append | pop | pop0 | extend | insert | reverse
mutual
inductive E where
  | var (i : Nat) | non | bl (b : Bool) | int (i : Int) | str (s : Str) | neg (i : Int)
  | tup (es : EL) | lst (fz : Bool) (es : EL)
  | bin (o : BOp) (a b : E) | cat (a b : E) | cmp (o : COp) (a b : E) | chain (o o' : COp) (a b c : E)
  | bool (isAnd : Bool) (es : EL) | not (a : E) | ifx (t : T) (a b : E)
  | isin (a : E) (t : Ty) | idx (a b : E) | slice (a : E) (lo hi : EO) | attr (a : E) (c i : Nat)
  | call (f : Nat) (es : EL) (ds : List DV) | meth (f c : Nat) (o : E) (es : EL) (ds : List DV) | bcall (b : Bf) (es : EL) | lenset (a : E) | sortedset (a : E) | dict (fz : Bool) (ks : List Str) (vs : EL) | make (j f c n : Nat) (ds : List DV) (es kes : EL) | bmeth (m : Bm) (o : E) (es : EL)
  | comp (fz : Bool) (own : List Nat) (t : Tg) (it : It) (ifs : TL) (elt : E)
  | frz (e : E) | join (a b : E) | fstr (fs : FL)
/-- parts of a text -/
inductive FL where
  | nil | lit (s : Str) (r : FL) | val (e : E) (r : FL)
/-- tests -/
inductive T where
  | val (e : E) | cmp (o : COp) (a b : E) | chain (o o' : COp) (a b c : E) | bool (isAnd : Bool) (ts : TL) | not (t : T)
inductive TL where
  | nil | cons (t : T) (r : TL)
inductive EL where
  | nil | cons (e : E) (r : EL)
inductive EO where
  | none | some (e : E)
inductive It where
  | seq (e : E) | range1 (e : E) | range2 (a b : E)
inductive Tg where
  | name (i : Nat) | tup (ts : TgL) | sub (o i : E)
inductive TgL where
  | nil | cons (t : Tg) (r : TgL)
end
mutual
inductive S where
  | asg (t : Tg) (e : E) | setc (j : Nat) (fz : Bool) (own : List Nat) (t : Tg) (it : It) (ifs : TL) (elt : E) | par (i j : Nat) (a b : E) | fld (o : E) (c i : Nat) (e : E) | augsub (o i : E) (op : BOp) (e : E) | augvar (i : Nat) (op : BOp) (e : E)
  | expr (e : E) | ret (e : E) | retN | ife (c : T) (a b : SL) | for_ (t : Tg) (it : It) (b : SL) | while_ (c : T) (b : SL)
  | never | pass | brk | cont
inductive SL where
  | nil | cons (s : S) (r : SL) | frz (i : Nat) (r : SL)
end
def TgL.len : TgL → Nat
  | .nil => 0
  | .cons _ r => r.len + 1
/-! ### operations -/
def zbin (o : BOp) (x y : PV) (M : Mh) (Q : ZQ) : Prop := match o with
  | .add => (match x, y with
    | .int i, .int j => Q (.int (i + j)) M
    | .tup xs, .tup ys => xs.length + ys.length ≤ sizeLine ∧ Q (.tup (xs ++ ys)) M
    | .str a, .str b => a.length + b.length ≤ sizeLine ∧ Q (.str (a ++ b)) M
    | _, _ => False)
  | .sub => (match x, y with | .int i, .int j => Q (.int (i - j)) M | _, _ => False)
  | .mul => (match x, y with | .int i, .int j => ((-(2 ^ 64) < i ∧ i < 2 ^ 64) ∨ (-(2 ^ 64) < j ∧ j < 2 ^ 64)) ∧ Q (.int (i * j)) M | _, _ => False)
  | .mod => (match x, y with | .int i, .int j => 0 < j ∧ Q (.int (i % j)) M | _, _ => False)
  | .fdiv => (match x, y with | .int i, .int j => (0 < j ∧ j < 100000000000000000000000000000000000000000000000000) ∧ Q (.int (i / j)) M | _, _ => False)
  | .pow => (match x, y with | .int i, .int j => (0 ≤ j ∧ j ≤ 1000000 ∧ i.natAbs < 2 ^ 64) ∧ Q (.int (i ^ j.toNat)) M | _, _ => False)
def keyIx : List Key → Key → Option Nat
  | [], _ => none
  | k :: r, x => if k = x then some 0 else (keyIx r x).map (· + 1)
/-- what is compared: a frozen thing, or the items of a list as they are now -/
def asD (M : Mh) (x : PV) (k : PV → Prop) : Prop := match x with
  | .ref p => ∃ xs, M p = some (.lst xs) ∧ k (.lst xs)
  | x => k x
def zcmp (o : COp) (x y : PV) (M : Mh) (Q : ZQ) : Prop := match o with
  | .eq => asD M x fun x => asD M y fun y => (okD 40 x = true ∧ okD 40 y = true) ∧ Q (.bl (peq x y)) M
  | .ne => asD M x fun x => asD M y fun y => (okD 40 x = true ∧ okD 40 y = true) ∧ Q (.bl (!peq x y)) M
  | .lt => (match x, y with
    | .int i, .int j => Q (.bl (decide (i < j))) M
    | .tup xs, .tup ys => (okD 40 (.tup xs) = true ∧ okD 40 (.tup ys) = true ∧ palikes xs ys = true) ∧ Q (.bl (plts xs ys)) M
    | _, _ => False)
  | .le => (match x, y with | .int i, .int j => Q (.bl (decide (i ≤ j))) M | _, _ => False)
  | .gt => (match x, y with | .int i, .int j => Q (.bl (decide (j < i))) M | _, _ => False)
  | .ge => (match x, y with | .int i, .int j => Q (.bl (decide (j ≤ i))) M | _, _ => False)
  | .is_ => (match y with | .non => Q (.bl (isNon x)) M | _ => False)
  | .isnot => (match y with | .non => Q (.bl (!isNon x)) M | _ => False)
  | .in_ => (match y with
    | .dct ks _ => (match x with | .str s => Q (.bl ((keyIx ks (.inr s)).isSome)) M | .int i => Q (.bl ((keyIx ks (.inl i)).isSome)) M | _ => False)
    | y => rdS M y fun ys => (okD 40 x = true ∧ okDs 40 ys = true) ∧ Q (.bl (ys.any fun z => peq z x)) M)
  | .notin => (match y with
    | .dct ks _ => (match x with | .str s => Q (.bl (!(keyIx ks (.inr s)).isSome)) M | .int i => Q (.bl (!(keyIx ks (.inl i)).isSome)) M | _ => False)
    | y => rdS M y fun ys => (okD 40 x = true ∧ okDs 40 ys = true) ∧ Q (.bl (!ys.any fun z => peq z x)) M)
/-- a value's truth -/
def ztru (x : PV) (M : Mh) (k : Bool → Prop) : Prop := match x with
  | .non => k false
  | .bl b => k b
  | .int i => k (i != 0)
  | .lst xs => k (!xs.isEmpty)
  | .tup xs => k (!xs.isEmpty)
  | .ref p => ∃ xs, M p = some (.lst xs) ∧ k (!xs.isEmpty)
  | _ => False
def zidx (x y : PV) (M : Mh) (Q : ZQ) : Prop := match y with
  | .int i => rdS M x fun xs => ∃ v, pick xs i = some v ∧ Q v M
  | .str s => (match x with
    | .dct ks xs => ∃ i v, keyIx ks (.inr s) = some i ∧ xs[i]? = some v ∧ Q v M
    | .ref p => ∃ ks xs i v, M p = some (.dct ks xs) ∧ keyIx ks (.inr s) = some i ∧ xs[i]? = some v ∧ Q v M
    | _ => False)
  | _ => False
def zattr (c i : Nat) (x : PV) (M : Mh) (Q : ZQ) : Prop := match x with
  | .ins c' fs => c' = c ∧ ∃ v, fs[i]? = some v ∧ Q v M
  | .ref p => ∃ fs v, M p = some (.ins c fs) ∧ fs[i]? = some (some v) ∧ Q v M
  | _ => False
def zself (c : Nat) (x : PV) (M : Mh) (k : Prop) : Prop := match x with
  | .ins c' _ => c' = c ∧ k
  | .ref p => (∃ fs, M p = some (.ins c fs)) ∧ k
  | _ => False
def zisl (x : PV) (M : Mh) (k : Prop) : Prop := match x with
  | .ref p => (∃ xs, M p = some (.lst xs)) ∧ k
  | _ => False
def isTy : Ty → PV → Option Bool
  | .int, .int _ => some true
  | .int, .bl _ => some true
  | .bool, .bl _ => some true
  | .str, .str _ => some true
  | .list, .lst _ => some true
  | .tuple, .tup _ => some true
  | .dict, .dct _ _ => some true
  | _, .scr _ => none
  | _, .ref _ => none
  | _, .ty _ => none
  | _, .ins _ _ => none
  | _, _ => some false
def tyS : Ty → String
  | .int => "int" | .str => "str" | .list => "list" | .tuple => "tuple" | .bool => "bool" | .dict => "dict"
def zisin (t : Ty) (x : PV) (M : Mh) (Q : ZQ) : Prop := match x with
  | .ref p => ∃ m, M p = some m ∧ (match m with
    | .lst _ => Q (.bl (match t with | .list => true | _ => false)) M
    | .dct _ _ => Q (.bl (match t with | .dict => true | _ => false)) M
    | .sm _ => Q (.bl (match t with | .list => true | _ => false)) M
    | .ins _ _ => False)
  | x => (match isTy t x with
    | some b => Q (.bl b) M
    | none => False)
def zbcall (b : Bf) (vs : List PV) (M : Mh) (Q : ZQ) : Prop := match b, vs with
  | .len, [x] => (match x with
    | .dct ks _ => Q (.int ks.length) M
    | x => rdS M x fun xs => Q (.int xs.length) M)
  | .int, [x] => (match x with
    | .int i => Q (.int i) M
    | .bl b => Q (.int (if b then 1 else 0)) M
    | _ => False)
  | .str, [x] => (match x with | .int i => i.natAbs.log2 < 1920 ∧ Q (.str (toString i)) M | _ => False)
  | .list fz, [x] => rdS M x fun xs => (match fz with
    | true => Q (.lst xs) M
    | false => ∀ p, M p = none → Q (.ref p) (put M p (.lst xs)))
  | .tuple, [x] => rdS M x fun xs => Q (.tup xs) M
  | .sum, [x] => rdL M x fun xs => ∃ ns : List Int, xs = ns.map PV.int ∧ Q (.int ns.sum) M
  | .max2, [x, y] => (match x, y with | .int i, .int j => Q (.int (if j > i then j else i)) M | _, _ => False)
  | .min2, [x, y] => (match x, y with | .int i, .int j => Q (.int (if j < i then j else i)) M | _, _ => False)
  | .abs, [x] => (match x with | .int i => Q (.int (if i < 0 then -i else i)) M | _ => False)
  | .max1, [x] => rdL M x fun xs => ∃ ns : List Int, xs = ns.map PV.int ∧ 0 < ns.length ∧ ∀ m ∈ ns, (∀ k ∈ ns, k ≤ m) → Q (.int m) M
  | _, _ => False
def zlenset (x : PV) (M : Mh) (Q : ZQ) : Prop := rdL M x fun xs => ∃ ns : List Int, xs = ns.map PV.int ∧ ns.length < 60 ∧ ∀ k : Nat, (∃ ms : List Int, ms.Nodup ∧ (∀ z, z ∈ ms ↔ z ∈ ns) ∧ ms.length = k) → Q (.int k) M
def zsortedset (x : PV) (M : Mh) (Q : ZQ) : Prop := rdL M x fun xs => ∃ ns : List Int, xs = ns.map PV.int ∧ ns.length < 60 ∧ ∀ ms : List Int, ms.Pairwise (· < ·) → (∀ k, k ∈ ms ↔ k ∈ ns) → Q (.lst (ms.map PV.int)) M
def zbmeth (m : Bm) (x : PV) (vs : List PV) (M : Mh) (Q : ZQ) : Prop := match x with
  | .ref p => ∃ xs, M p = some (.lst xs) ∧ (match m, vs with
    | .append, [y] => xs.length < sizeLine ∧ Q .non (put M p (.lst (xs ++ [y])))
    | .pop, [] => ∃ y, xs[xs.length - 1]? = some y ∧ Q y (put M p (.lst xs.dropLast))
    | .pop0, [y] => (match y with | .int i => (-(2 ^ 63) ≤ i ∧ i < 2 ^ 63) ∧ ∃ y k, place xs.length i = some k ∧ xs[k]? = some y ∧ Q y (put M p (.lst (xs.eraseIdx k))) | _ => False)
    | .extend, [y] => rdM M y fun ys => xs.length + ys.length ≤ sizeLine ∧ Q .non (put M p (.lst (xs ++ ys)))
    | .insert, [i, y] => (match i with | .int i => xs.length < sizeLine ∧ (0 ≤ i ∧ i < 2 ^ 63) ∧ Q .non (put M p (.lst (xs.take i.toNat ++ y :: xs.drop i.toNat))) | _ => False)
    | .reverse, [] => Q .non (put M p (.lst xs.reverse))
    | _, _ => False)
  | _ => False
/-- xs[lo:hi] -/
def cut (xs : List PV) (lo hi : Option Int) : List PV := (xs.drop (HT.sIx xs.length 0 lo)).take (HT.sIx xs.length xs.length hi - HT.sIx xs.length 0 lo)
/-- sep.join(items) -/
def zjoin (s : Str) (y : PV) (M : Mh) (Q : ZQ) : Prop := rdS M y fun xs => ∃ ys : List Str, xs = ys.map PV.str ∧ (ys.map (·.length)).sum + ys.length * s.length ≤ 16777216 ∧ Q (.str (Txt.join s ys)) M
/-- a value as a part of a text -/
def zfmt (x : PV) (k : Str → Prop) : Prop := match x with
  | .str y => k y
  | .int i => i.natAbs.log2 < 1920 ∧ k (toString i)
  | _ => False
def zslice (x : PV) (l h : Option Int) (M : Mh) (Q : ZQ) : Prop := match x with
    | .tup xs => Q (.tup (cut xs l h)) M
    | x => rdL M x fun xs => Q (.lst (cut xs l h)) M
def zcat (x y : PV) (M : Mh) (Q : ZQ) : Prop := rdM M x fun xs => rdM M y fun ys => xs.length + ys.length ≤ sizeLine ∧ ∀ p, M p = none → Q (.ref p) (put M p (.lst (xs ++ ys)))
/-- what stood under change stands frozen -/
def zfrz (x : PV) (M : Mh) (Q : ZQ) : Prop := match x with
  | .ref p => ∃ m, M p = some m ∧ (match m with
    | .lst xs => Q (.lst xs) (del M p)
    | .ins c fs => ∃ gs, fs = gs.map some ∧ Q (.ins c gs) (del M p)
    | .dct ks xs => Q (.dct ks xs) (del M p)
    | .sm _ => False)
  | _ => False
/-- the turns of a walk -/
def iter (still : Mh → Prop) (step : PV → Zs → Mh → (Zs → Mh → Prop) → Prop) (done : Zs → Mh → Prop) : List PV → Zs → Mh → Prop
  | [], σ, M => still M ∧ done σ M
  | x :: r, σ, M => still M ∧ step x σ M fun σ' M' => iter still step done r σ' M'
def lcIter (still : Mh → Prop) (D : Addr) (step : PV → Mh → (Option PV → Mh → Prop) → Prop) (done : List PV → Mh → Prop) : List PV → List PV → Mh → Prop
  | [], acc, M => still M ∧ done acc M
  | x :: r, acc, M => still M ∧ step x M fun o M' => match o with
    | some y => M' D = some (.lst acc) ∧ acc.length < sizeLine ∧ lcIter still D step done r (acc ++ [y]) (put M' D (.lst (acc ++ [y])))
    | none => lcIter still D step done r acc M'
def wiped (σ : Zs) : List Nat → Zs
  | [] => σ
  | v :: vs => (wiped σ vs).set v none
def lcStep (zt : PV → Zs → Mh → (Zs → Mh → Prop) → Prop) (zc : Zs → Mh → (Bool → Mh → Prop) → Prop) (ze : Zs → Mh → ZQ → Prop) (σ : Zs) (x : PV) (M' : Mh) (k : Option PV → Mh → Prop) : Prop :=
  zt x σ M' fun σ2 M2 => zc σ2 M2 fun b M3 => br b (ze σ2 M3 fun y M4 => k (some y) M4) (k none M3)
def lcDone (fz : Bool) (D : Addr) (Q : ZQ) (ys : List PV) (M' : Mh) : Prop := match fz with
  | true => M' D = some (.lst ys) ∧ Q (.lst ys) (del M' D)
  | false => Q (.ref D) M'
def dDone (fz : Bool) (D : Addr) (ks : List Str) (ps : List PV) (Q : ZQ) (M' : Mh) : Prop := match fz with
  | true => Q (.dct (ks.map Sum.inr) ps) (del M' D)
  | false => Q (.ref D) (put M' D (.dct (ks.map Sum.inr) ps))
def zaug (op : BOp) (x y : PV) (M : Mh) (Q : ZQ) : Prop := match op with
  | .add => (match x, y with
    | .int i, .int j => Q (.int (i + j)) M
    | .str a, .str b => a.length + b.length ≤ sizeLine ∧ Q (.str (a ++ b)) M
    | .ref p, y => ∃ xs, M p = some (.lst xs) ∧ rdM M y fun ys => xs.length + ys.length ≤ sizeLine ∧ Q (.ref p) (put M p (.lst (xs ++ ys)))
    | _, _ => False)
  | .sub => (match x, y with | .int i, .int j => Q (.int (i - j)) M | _, _ => False)
  | _ => False
def rangeL (lo : Int) (n : Nat) : List PV := (List.range n).map fun i => PV.int (lo + (i : Nat))
/-- nothing may be raised -/
def noR : ZR := fun _ _ _ => False
section
variable (Φ : Nat → ZSp)
mutual
def semE : ZR → E → Zs → Mh → ZQ → Prop
  | R, .var i, σ, M, Q => (match σ[i]? with
    | some (some v) => Q v M
    | _ => False)
  | R, .non, _, M, Q => Q .non M
  | R, .bl b, _, M, Q => Q (.bl b) M
  | R, .int i, _, M, Q => Q (.int i) M
  | R, .neg i, _, M, Q => Q (.int (-i)) M
  | R, .str s, _, M, Q => Q (.str s) M
  | R, .tup es, σ, M, Q => semA R es σ M fun vs M1 => Q (.tup vs) M1
  | R, .lst fz es, σ, M, Q => semA R es σ M fun vs M1 => (match fz with
    | true => Q (.lst vs) M1
    | false => ∀ p, M1 p = none → Q (.ref p) (put M1 p (.lst vs)))
  | R, .bin o a b, σ, M, Q => semE R a σ M fun x M1 => semE R b σ M1 fun y M2 => zbin o x y M2 Q
  | R, .cat a b, σ, M, Q => semE R a σ M fun x M1 => semE R b σ M1 fun y M2 => zcat x y M2 Q
  | R, .cmp o a b, σ, M, Q => semE R a σ M fun x M1 => semE R b σ M1 fun y M2 => zcmp o x y M2 Q
  | R, .chain o o' a b c, σ, M, Q => semE R a σ M fun x M1 => semE R b σ M1 fun y M2 => zcmp o x y M2 fun z M3 => (match z with
    | .bl k => br k (semE R c σ M3 fun w M4 => zcmp o' y w M4 Q) (Q (.bl false) M3)
    | _ => False)
  | R, .bool isAnd es, σ, M, Q => semB R isAnd es σ M Q
  | R, .not a, σ, M, Q => semE R a σ M fun x M1 => (match x with
    | .bl b => Q (.bl (!b)) M1
    | _ => False)
  | R, .ifx t a b, σ, M, Q => semT R t σ M fun k M1 => br k (semE R a σ M1 Q) (semE R b σ M1 Q)
  | R, .isin a t, σ, M, Q => semE R a σ M fun x M1 => zisin t x M1 Q
  | R, .idx a b, σ, M, Q => semE R a σ M fun x M1 => semE R b σ M1 fun y M2 => zidx x y M2 Q
  | R, .slice a lo hi, σ, M, Q => semE R a σ M fun x M1 => semO R lo σ M1 fun l M2 => semO R hi σ M2 fun h M3 => zslice x l h M3 Q
  | R, .attr a c i, σ, M, Q => semE R a σ M fun x M1 => zattr c i x M1 Q
  | R, .call f es ds, σ, M, Q => semA R es σ M fun vs M1 => Φ f (vs ++ ds.map DV.pv) M1 Q fun x M2 => R x σ M2
  | R, .meth f c o es ds, σ, M, Q => semE R o σ M fun x M1 => zself c x M1 (semA R es σ M1 fun vs M2 => Φ f (x :: (vs ++ ds.map DV.pv)) M2 Q fun x M2 => R x σ M2)
  | R, .bcall b es, σ, M, Q => semA R es σ M fun vs M1 => zbcall b vs M1 Q
  | R, .lenset a, σ, M, Q => semE R a σ M fun x M1 => zlenset x M1 Q
  | R, .sortedset a, σ, M, Q => semE R a σ M fun x M1 => zsortedset x M1 Q
  | R, .dict fz ks vs, σ, M, Q => ∀ D, M D = none → semA R vs σ (put M D (.dct [] [])) fun ps M1 => M1 D = some (.dct [] []) ∧ dDone fz D ks ps Q M1
  | R, .make _ f c n ds es kes, σ, M, Q => semA R es σ M fun vs M1 => semA R kes σ M1 fun zs M2 => ∀ x, M2 x = none → Φ f (.ref x :: (vs ++ (zs ++ ds.map DV.pv))) (put M2 x (.ins c (List.replicate n none))) (fun v M3 => v = .non ∧ Q (.ref x) M3) fun x M3 => R x σ M3
  | R, .bmeth m o es, σ, M, Q => semE R o σ M fun x M1 => zisl x M1 (semA R es σ M1 fun vs M2 => zbmeth m x vs M2 Q)
  | R, .comp fz own t it ifs elt, σ, M, Q => semI R it σ M fun still xs M1 => ∀ D, M1 D = none →
      lcIter still D (lcStep (fun x σ' M' k => semTg noR t x σ' M' k) (fun σ' M' k => semC noR ifs σ' M' k) (fun σ' M' k => semE noR elt σ' M' k) (wiped σ own)) (lcDone fz D Q) xs [] (put M1 D (.lst []))
  | R, .frz e, σ, M, Q => semE R e σ M fun x M1 => zfrz x M1 Q
  | R, .join a b, σ, M, Q => semE R a σ M fun x M1 => (match x with
    | .str s => semE R b σ M1 fun y M2 => zjoin s y M2 Q
    | _ => False)
  | R, .fstr fs, σ, M, Q => semF R fs Str.empty σ M fun s M1 => Q (.str s) M1
def semF : ZR → FL → Str → Zs → Mh → (Str → Mh → Prop) → Prop
  | R, .nil, acc, _, M, k => k acc M
  | R, .lit s r, acc, σ, M, k => (acc ++ s).length ≤ sizeLine ∧ semF R r (acc ++ s) σ M k
  | R, .val e r, acc, σ, M, k => semE R e σ M fun x M1 => zfmt x fun y => (acc ++ y).length ≤ sizeLine ∧ semF R r (acc ++ y) σ M1 k
def semA : ZR → EL → Zs → Mh → (List PV → Mh → Prop) → Prop
  | R, .nil, _, M, Q => Q [] M
  | R, .cons e r, σ, M, Q => semE R e σ M fun x M1 => semA R r σ M1 fun xs M2 => Q (x :: xs) M2
def semO : ZR → EO → Zs → Mh → (Option Int → Mh → Prop) → Prop
  | R, .none, _, M, Q => Q none M
  | R, .some e, σ, M, Q => semE R e σ M fun x M1 => (match x with
    | .int i => Q (some i) M1
    | _ => False)
/-- and, or as a value -/
def semB : ZR → Bool → EL → Zs → Mh → ZQ → Prop
  | R, _, .nil, _, _, _ => False
  | R, _, .cons e .nil, σ, M, Q => semE R e σ M Q
  | R, isAnd, .cons e (.cons f r), σ, M, Q => semE R e σ M fun x M1 => (match x with
      | .bl b => (match isAnd with
        | true => br b (semB R true (.cons f r) σ M1 Q) (Q (.bl false) M1)
        | false => br b (Q (.bl true) M1) (semB R false (.cons f r) σ M1 Q))
      | _ => False)
/-- a test -/
def semT : ZR → T → Zs → Mh → (Bool → Mh → Prop) → Prop
  | R, .bool isAnd ts, σ, M, k => semBT R isAnd ts σ M k
  | R, .not a, σ, M, k => semT R a σ M fun b M1 => k (!b) M1
  | R, .val e, σ, M, k => semE R e σ M fun x M1 => ztru x M1 fun b => k b M1
  | R, .cmp o a b, σ, M, k => semE R a σ M fun x M1 => semE R b σ M1 fun y M2 => zcmp o x y M2 fun z M3 => (match z with
    | .bl b => k b M3
    | _ => False)
  | R, .chain o o' a b c, σ, M, k => semE R a σ M fun x M1 => semE R b σ M1 fun y M2 => zcmp o x y M2 fun z M3 => (match z with
    | .bl j => br j (semE R c σ M3 fun w M4 => zcmp o' y w M4 fun z M5 => (match z with
      | .bl b => k b M5
      | _ => False)) (k false M3)
    | _ => False)
def semBT : ZR → Bool → TL → Zs → Mh → (Bool → Mh → Prop) → Prop
  | R, _, .nil, _, _, _ => False
  | R, _, .cons e .nil, σ, M, k => semT R e σ M k
  | R, isAnd, .cons e (.cons f r), σ, M, k => semT R e σ M fun b M1 => (match isAnd with
      | true => br b (semBT R true (.cons f r) σ M1 k) (k false M1)
      | false => br b (k true M1) (semBT R false (.cons f r) σ M1 k))
/-- all tests of a comprehension -/
def semC : ZR → TL → Zs → Mh → (Bool → Mh → Prop) → Prop
  | R, .nil, _, M, k => k true M
  | R, .cons e _, σ, M, k => semT R e σ M k
def semI : ZR → It → Zs → Mh → ((Mh → Prop) → List PV → Mh → Prop) → Prop
  | R, .seq e, σ, M, k => semE R e σ M fun x M1 => (match x with
    | .tup xs => k (fun _ => True) xs M1
    | .lst xs => k (fun _ => True) xs M1
    | .scr xs => k (fun _ => True) xs M1
    | .ref p => ∃ xs, M1 p = some (.lst xs) ∧ k (fun M' => M' p = some (.lst xs)) xs M1
    | _ => False)
  | R, .range1 e, σ, M, k => semE R e σ M fun x M1 => (match x with
    | .int j => (-(2 ^ 62) ≤ j ∧ j < 2 ^ 62) ∧ k (fun _ => True) (rangeL 0 j.toNat) M1
    | _ => False)
  | R, .range2 a b, σ, M, k => semE R a σ M fun x M1 => semE R b σ M1 fun y M2 => (match x, y with
    | .int i, .int j => (-(2 ^ 62) ≤ i ∧ i < 2 ^ 62 ∧ -(2 ^ 62) ≤ j ∧ j < 2 ^ 62) ∧ k (fun _ => True) (rangeL i (j - i).toNat) M2
    | _, _ => False)
def semTg : ZR → Tg → PV → Zs → Mh → (Zs → Mh → Prop) → Prop
  | R, .name i, v, σ, M, k => k (σ.set i (some v)) M
  | R, .tup ts, v, σ, M, k => (match v with
    | .tup xs => xs.length = ts.len ∧ semTgs R ts xs σ M k
    | _ => False)
  | R, .sub o i, v, σ, M, k => semE R o σ M fun x M1 => semE R i σ M1 fun y M2 => (match x, y with
    | .ref p, .int j => ∃ xs n, M2 p = some (.lst xs) ∧ place xs.length j = some n ∧ k σ (put M2 p (.lst (xs.set n v)))
    | _, _ => False)
def semTgs : ZR → TgL → List PV → Zs → Mh → (Zs → Mh → Prop) → Prop
  | R, .nil, vs, σ, M, k => vs = [] ∧ k σ M
  | R, .cons t r, vs, σ, M, k => (match vs with
    | v :: us => semTg R t v σ M fun σ1 M1 => semTgs R r us σ1 M1 k
    | [] => False)
end
def whileN (c : Zs → Mh → (Bool → Mh → Prop) → Prop) (body : ZD → Zs → Mh → Prop) (D : ZD) : Nat → Zs → Mh → Prop
  | 0, _, _ => False
  | n + 1, σ, M => c σ M fun b M1 => br b (body { D with nx := whileN c body D n, ct := whileN c body D n, bk := D.nx } σ M1) (D.nx σ M1)
mutual
def semS : ZR → S → ZD → Zs → Mh → Prop
  | R, .asg t e, D, σ, M => semE Φ R e σ M fun x M1 => semTg Φ R t x σ M1 D.nx
  | R, .setc i fz own t it ifs elt, D, σ, M => semE Φ R (.comp fz own t it ifs elt) σ M fun x M1 => D.nx (σ.set i (some x)) M1
  | R, .par i j a b, D, σ, M => semE Φ R a σ M fun x M1 => semE Φ R b σ M1 fun y M2 => D.nx ((σ.set i (some x)).set j (some y)) M2
  | R, .fld o c i e, D, σ, M => semE Φ R e σ M fun y M1 => semE Φ R o σ M1 fun x M2 => (match x with
    | .ref p => ∃ fs, M2 p = some (.ins c fs) ∧ i < fs.length ∧ D.nx σ (put M2 p (.ins c (fs.set i (some y))))
    | _ => False)
  | R, .augsub o i op e, D, σ, M => semE Φ R o σ M fun x M1 => semE Φ R i σ M1 fun y M2 => (match x, y with
    | .ref p, .int j => ∃ xs z, M2 p = some (.lst xs) ∧ (0 ≤ j ∧ xs[j.toNat]? = some z) ∧ semE Φ R e σ M2 fun w M4 => zaug op z w M4 fun r M5 => ∃ ys, M5 p = some (.lst ys) ∧ j.toNat < ys.length ∧ D.nx σ (put M5 p (.lst (ys.set j.toNat r)))
    | _, _ => False)
  | R, .augvar i op e, D, σ, M => (match σ[i]? with
    | some (some x) => semE Φ R e σ M fun y M1 => zaug op x y M1 fun z M2 => D.nx (σ.set i (some z)) M2
    | _ => False)
  | R, .expr e, D, σ, M => semE Φ R e σ M fun _ M1 => D.nx σ M1
  | R, .ret e, D, σ, M => semE Φ R e σ M D.rt
  | R, .retN, D, _, M => D.rt .non M
  | R, .ife c a b, D, σ, M => semT Φ R c σ M fun k M1 => br k (semSs R a D σ M1) (semSs R b D σ M1)
  | R, .for_ t it b, D, σ, M => semI Φ R it σ M fun still xs M1 =>
      iter still (fun x σ' M' k => semTg Φ R t x σ' M' fun σ2 M2 => semSs R b { D with nx := k, ct := k, bk := D.nx } σ2 M2) D.nx xs σ M1
  | R, .while_ c b, D, σ, M => ∃ n, whileN (semT Φ R c) (fun D' σ' M' => semSs R b D' σ' M') D n σ M
  | R, .never, _, _, _ => False
  | R, .pass, D, σ, M => D.nx σ M
  | R, .brk, D, σ, M => D.bk σ M
  | R, .cont, D, σ, M => D.ct σ M
def semSs : ZR → SL → ZD → Zs → Mh → Prop
  | R, .nil, D, σ, M => D.nx σ M
  | R, .cons s r, D, σ, M => semS R s { D with nx := fun σ1 M1 => semSs R r D σ1 M1 } σ M
  | R, .frz i r, D, σ, M => (match σ[i]? with
    | some (some x) => zfrz x M fun y M1 => semSs R r D (σ.set i (some y)) M1
    | _ => False)
end
end
end Z
set_option Elab.async false
set_option linter.all false
set_option maxRecDepth 100000
set_option maxHeartbeats 4000000
namespace Z
open PySem PySem.Spec PyProof.Rows L2
/-! ### from the small heap to the layer's -/
section
variable (G : Cfg) (K : PySem.W.Frag)
structure RS (F : Hp) (σV : L2.St) (σ : Zs) : Prop where
  len : σV.length = σ.length
  at_ : ∀ (i : Nat) (p : PV), σ[i]? = some (some p) → ∃ v, σV[i]? = some (some v) ∧ RV G K F v p
abbrev TQ (F : Hp) (Q0 : ZQ) (Q : VK) : Prop := ∀ p M' F' H' v, Same F F' → Ab G K F' M' H' → RV G K F' v p → Q0 p M' → Q v H'
def liftE (z : Zs → Mh → ZQ → Prop) : TE := fun σV H Q => ∃ F σ M Q0, Ab G K F M H ∧ RS G K F σV σ ∧ z σ M Q0 ∧ TQ G K F Q0 Q
def liftT (z : Zs → Mh → (Bool → Mh → Prop) → Prop) : TT := fun σV H k => ∃ F σ M k0, Ab G K F M H ∧ RS G K F σV σ ∧ z σ M k0 ∧ ∀ b M' F' H', Same F F' → Ab G K F' M' H' → k0 b M' → k b H'
def liftA (n : Nat) (z : Zs → Mh → (List PV → Mh → Prop) → Prop) : TA := fun σV H Q => ∃ F σ M Q0, Ab G K F M H ∧ RS G K F σV σ ∧ z σ M Q0 ∧ ∀ ps M' F' H' vs, Same F F' → Ab G K F' M' H' → RVs G K F' vs ps → vs.length = n → Q0 ps M' → Q vs H'
structure DOk (F : Hp) (D0 : ZD) (D : Ends) : Prop where
  nx : ∀ σ M' F' H' σV, Same F F' → Ab G K F' M' H' → RS G K F' σV σ → D0.nx σ M' → D.nx σV H'
  rt : TQ G K F D0.rt D.rt
  bk : ∀ σ M' F' H' σV, Same F F' → Ab G K F' M' H' → RS G K F' σV σ → D0.bk σ M' → D.bk σV H'
  ct : ∀ σ M' F' H' σV, Same F F' → Ab G K F' M' H' → RS G K F' σV σ → D0.ct σ M' → D.ct σV H'
def liftS (z : ZD → Zs → Mh → Prop) : TS := fun D σV H => ∃ F σ M D0, Ab G K F M H ∧ RS G K F σV σ ∧ z D0 σ M ∧ DOk G K F D0 D
/-- an exception's class and fields -/
def XR (F : Hp) (cls : Value) (d : Option Addr) (x : XV) : Prop := ∃ nm lay, G.exc[x.c]? = some (nm, lay) ∧ cls = .ref (He.ga K nm) ∧
  ((lay = [] ∧ x.fs = []) ∨ ∃ dd vs, d = some dd ∧ F dd = some (.xd (lay.zip vs)) ∧ lay.length = vs.length ∧ RVs G K F vs x.fs)
def liftW (R : ZR) : WX := fun cls d σV H => ∃ F σ M x, Ab G K F M H ∧ RS G K F σV σ ∧ XR G K F cls d x ∧ R x σ M
/-- a promise over the small heap, as one over the layer's -/
def conc (sp : ZSp) : Sp := fun vs H Q E => ∃ F M ps Q0 X0, Ab G K F M H ∧ RVs G K F vs ps ∧ sp ps M Q0 X0 ∧ TQ G K F Q0 Q ∧ ∀ x M' F' H' cls d, Same F F' → Ab G K F' M' H' → XR G K F' cls d x → X0 x M' → E cls d H'
end
section
variable {G : Cfg} {K : PySem.W.Frag} {F F' : Hp} {σV : L2.St} {σ : Zs}
theorem RS.mono (s : Same F F') (r : RS G K F σV σ) : RS G K F' σV σ := ⟨r.len, fun i p h => let ⟨v, e, q⟩ := r.at_ i p h; ⟨v, e, q.mono s⟩⟩
theorem RS.set {i : Nat} {v : V} {p : PV} (r : RS G K F σV σ) (q : RV G K F v p) : RS G K F (σV.set i (some v)) (σ.set i (some p)) := by
  refine ⟨by rw [List.length_set, List.length_set]; exact r.len, fun j p' h => ?_⟩
  by_cases hij : i = j
  · subst hij
    have hi : i < σ.length := by
      by_cases hi : i < σ.length
      · exact hi
      · rw [List.getElem?_eq_none (by rw [List.length_set]; omega)] at h; cases h
    rw [List.getElem?_set_self hi] at h
    cases h
    exact ⟨v, List.getElem?_set_self (by rw [r.len]; exact hi), q⟩
  · rw [List.getElem?_set_ne hij] at h ⊢
    exact r.at_ j p' h
theorem RS.none {i : Nat} (r : RS G K F σV σ) : RS G K F (σV.set i none) (σ.set i none) := by
  refine ⟨by rw [List.length_set, List.length_set]; exact r.len, fun j p' h => ?_⟩
  by_cases hij : i = j
  · subst hij
    by_cases hi : i < σ.length
    · rw [List.getElem?_set_self hi] at h; cases h
    · rw [List.getElem?_eq_none (by rw [List.length_set]; omega)] at h; cases h
  · rw [List.getElem?_set_ne hij] at h ⊢
    exact r.at_ j p' h
theorem RS.wipe (r : RS G K F σV σ) : ∀ vs : List Nat, RS G K F (wipe σV vs) (wiped σ vs)
  | [] => r
  | v :: vs => (RS.wipe r vs).none
theorem TQ.mono {Q0 : ZQ} {Q : VK} (s : Same F F') (h : TQ G K F Q0 Q) : TQ G K F' Q0 Q := fun p M' F2 H' v s2 a r q => h p M' F2 H' v (s.trans s2) a r q
theorem DOk.mono {D0 : ZD} {D : Ends} (s : Same F F') (h : DOk G K F D0 D) : DOk G K F' D0 D :=
  ⟨fun σ M' F2 H' σV s2 a r q => h.nx σ M' F2 H' σV (s.trans s2) a r q, h.rt.mono s, fun σ M' F2 H' σV s2 a r q => h.bk σ M' F2 H' σV (s.trans s2) a r q, fun σ M' F2 H' σV s2 a r q => h.ct σ M' F2 H' σV (s.trans s2) a r q⟩
theorem liftW.at {R : ZR} {M : Mh} {H : Hp} {cls : Value} {d : Option Addr} {x : XV} (a : Ab G K F M H) (r : RS G K F σV σ) (q : XR G K F cls d x) (h : R x σ M) : liftW G K R cls d σV H := ⟨F, σ, M, x, a, r, q, h⟩
end
theorem peI {X : Cx} {e : Expr} {t t' : TE} (h : PE X e t) (i : ∀ σ H Q, t' σ H Q → t σ H Q) : PE X e t' := ⟨fun pins s σ H Q I q => h.run pins s σ H Q I (i σ H Q q)⟩
theorem ptI {X : Cx} {e : Expr} {t t' : TT} (h : PT X e t) (i : ∀ σ H Q, t' σ H Q → t σ H Q) : PT X e t' := ⟨fun pins s σ H Q I q => h.run pins s σ H Q I (i σ H Q q)⟩
theorem pwI {X : Cx} {e : Expr} {t t' : TT} (h : PW X e t) (i : ∀ σ H Q, t' σ H Q → t σ H Q) : PW X e t' := ⟨fun wh pins s σ H Q I q => h.run wh pins s σ H Q I (i σ H Q q)⟩
theorem paI {X : Cx} {e : List Expr} {t t' : TA} (h : PA X e t) (i : ∀ σ H Q, t' σ H Q → t σ H Q) : PA X e t' := ⟨fun p pins s σ H Q I q => h.run p pins s σ H Q I (i σ H Q q)⟩
theorem psI {X : Cx} {e : Stmt} {t t' : TS} (h : PS X e t) (i : ∀ D σ H, t' D σ H → t D σ H) : PS X e t' := ⟨fun pins s σ H D I q => h.run pins s σ H D I (i D σ H q)⟩
theorem pssI {X : Cx} {e : List Stmt} {t t' : TS} (h : PSs X e t) (i : ∀ D σ H, t' D σ H → t D σ H) : PSs X e t' := ⟨fun pins s σ H D I q => h.run pins s σ H D I (i D σ H q)⟩
/-! ### compositions -/
section
variable {G : Cfg} {X : Cx} {e : Expr} {za zb : Zs → Mh → ZQ → Prop}
/-- a value of no parts -/
theorem zcst {v : V} {p : PV} (h : PE X e (tC v)) (r : ∀ F, RV G X.K F v p) : PE X e (liftE G X.K fun _ M Q => Q p M) :=
  peI h fun σV H Q ⟨F, σ, M, Q0, a, rs, z, t⟩ => t p M F H v (Same.refl F) a (r F) z
theorem zun {r : V → Hp → VK → Prop} {o : PV → Mh → ZQ → Prop} (h : PE X e (tUn r (liftE G X.K za)))
    (s : ∀ F M H x p Q0 Q, Ab G X.K F M H → RV G X.K F x p → o p M Q0 → TQ G X.K F Q0 Q → r x H Q) : PE X e (liftE G X.K fun σ M Q => za σ M fun x M1 => o x M1 Q) :=
  peI h fun σV H Q ⟨F, σ, M, Q0, a, rs, z, t⟩ => ⟨F, σ, M, _, a, rs, z, fun p M1 F1 H1 v s1 a1 r1 q1 => s F1 M1 H1 v p Q0 Q a1 r1 q1 (t.mono s1)⟩
theorem zbin2 {r : R2} {o : PV → PV → Mh → ZQ → Prop} (h : PE X e (tOp r (liftE G X.K za) (liftE G X.K zb)))
    (s : ∀ F M H x y p q Q0 Q, Ab G X.K F M H → RV G X.K F x p → RV G X.K F y q → o p q M Q0 → TQ G X.K F Q0 Q → r x y H Q) : PE X e (liftE G X.K fun σ M Q => za σ M fun x M1 => zb σ M1 fun y M2 => o x y M2 Q) :=
  peI h fun σV H Q ⟨F, σ, M, Q0, a, rs, z, t⟩ => ⟨F, σ, M, _, a, rs, z, fun p M1 F1 H1 v s1 a1 r1 q1 => ⟨F1, σ, M1, _, a1, rs.mono s1, q1, fun q M2 F2 H2 w s2 a2 r2 q2 =>
    s F2 M2 H2 v w p q Q0 Q a2 (r1.mono s2) r2 q2 ((t.mono s1).mono s2)⟩⟩
/-- arguments, then something -/
theorem zargs {n : Nat} {zs : Zs → Mh → (List PV → Mh → Prop) → Prop} {r : List V → Hp → VK → Prop} {o : List PV → Mh → ZQ → Prop} (h : PE X e (tCB r (liftA G X.K n zs)))
    (s : ∀ F M H xs ps Q0 Q, Ab G X.K F M H → RVs G X.K F xs ps → xs.length = n → o ps M Q0 → TQ G X.K F Q0 Q → r xs H Q) : PE X e (liftE G X.K fun σ M Q => zs σ M fun vs M1 => o vs M1 Q) :=
  peI h fun σV H Q ⟨F, σ, M, Q0, a, rs, z, t⟩ => ⟨F, σ, M, _, a, rs, z, fun ps M1 F1 H1 vs s1 a1 r1 l1 q1 => s F1 M1 H1 vs ps Q0 Q a1 r1 l1 q1 (t.mono s1)⟩
end
/-! ### lists as they are read -/
section
variable {G : Cfg} {K : PySem.W.Frag} {F H : Hp} {M : Mh} {x : V} {p : PV}
theorem rdM_of (A : Ab G K F M H) (r : RV G K F x p) {k : List PV → Prop} (h : rdM M p k) : ∃ a vs xs, x = .ref a ∧ H a = some (.lst vs) ∧ RVs G K F vs xs ∧ k xs := by
  cases r with
  | lst hs rs => exact ⟨_, _, _, rfl, A.sub _ _ hs, rs, h⟩
  | ref a =>
    obtain ⟨xs, e, h⟩ := h
    obtain ⟨_, o, ho, vs, rfl, rs⟩ := A.mu a _ e
    exact ⟨a, vs, xs, rfl, ho, rs, h⟩
  | _ => exact False.elim h
theorem rdL_of (A : Ab G K F M H) (r : RV G K F x p) {k : List PV → Prop} (h : rdL M p k) : ∃ a vs xs, x = .ref a ∧ SqL K H a vs ∧ RVs G K F vs xs ∧ k xs := by
  cases r with
  | lst hs rs => exact ⟨_, _, _, rfl, SqL.of (A.sub _ _ hs), rs, h⟩
  | scr hs rs => exact ⟨_, _, _, rfl, Same.seq A.sub hs, rs, h⟩
  | ref a =>
    obtain ⟨xs, e, h⟩ := h
    obtain ⟨_, o, ho, vs, rfl, rs⟩ := A.mu a _ e
    exact ⟨a, vs, xs, rfl, SqL.of ho, rs, h⟩
  | _ => exact False.elim h
theorem rdS_of (A : Ab G K F M H) (r : RV G K F x p) {k : List PV → Prop} (h : rdS M p k) : ∃ a vs xs, x = .ref a ∧ (SqL K H a vs ∨ SqT K H a vs) ∧ RVs G K F vs xs ∧ k xs := by
  cases r with
  | lst hs rs => exact ⟨_, _, _, rfl, .inl (SqL.of (A.sub _ _ hs)), rs, h⟩
  | scr hs rs => exact ⟨_, _, _, rfl, .inl (Same.seq A.sub hs), rs, h⟩
  | tup hs rs => exact ⟨_, _, _, rfl, .inr (SqT.of (A.sub _ _ hs)), rs, h⟩
  | ref a =>
    obtain ⟨xs, e, h⟩ := h
    obtain ⟨_, o, ho, vs, rfl, rs⟩ := A.mu a _ e
    exact ⟨a, vs, xs, rfl, .inl (SqL.of ho), rs, h⟩
  | _ => exact False.elim h
end
end Z
set_option Elab.async false
set_option linter.all false
set_option maxRecDepth 100000
set_option maxHeartbeats 4000000
namespace Z
open PySem PySem.Spec PyProof.Rows L2
/-! ### data -/
mutual
def toD : PV → PyData
  | .non => .none
  | .bl b => .bool b
  | .int i => .int i
  | .str s => .str s
  | .tup xs => .tuple (toDs xs)
  | .lst xs => .list (toDs xs)
  | _ => .none
def toDs : List PV → List PyData
  | [] => []
  | x :: xs => toD x :: toDs xs
end
section
variable {G : Cfg} {K : PySem.W.Frag} {F H : Hp}
mutual
theorem dp_of (s : Same F H) : ∀ (n : Nat) (p : PV) (v : V), RV G K F v p → okD n p = true → Dp K H v (toD p)
  | _, .non, _, .non, _ => .non
  | _, .bl _, _, .bl b, _ => .bl b
  | _, .int _, _, .int i, _ => .int i
  | _, .str _, _, .str x, _ => .str x
  | n + 1, .tup xs, _, .tup h r, o => .tup (SqT.of (s _ _ h)) (dps_of s n xs _ r o)
  | n + 1, .lst xs, _, .lst h r, o => .lst (SqL.of (s _ _ h)) (dps_of s n xs _ r o)
  | 0, .tup _, _, _, o => by cases o
  | 0, .lst _, _, _, o => by cases o
  | _, .scr _, _, _, o => by simp [okD] at o
  | _, .dct _ _, _, _, o => by simp [okD] at o
  | _, .ins _ _, _, _, o => by simp [okD] at o
  | _, .ref _, _, _, o => by simp [okD] at o
  | _, .ty _, _, _, o => by simp [okD] at o
theorem dps_of (s : Same F H) : ∀ (n : Nat) (ps : List PV) (vs : List V), RVs G K F vs ps → okDs n ps = true → DpAll K H vs (toDs ps)
  | _, [], _, .nil, _ => .nil
  | n, p :: ps, _, .cons r t, o => by
    obtain ⟨o1, o2⟩ := Bool.and_eq_true_iff.mp (show (okD n p && okDs n ps) = true from o)
    exact .cons (dp_of s n p _ r o1) (dps_of s n ps _ t o2)
end
mutual
theorem lay_of : ∀ (n : Nat) (p : PV), okD n p = true → (toD p).canLay0 = true ∧ (toD p).depth ≤ n
  | _, .non, _ => ⟨rfl, Nat.zero_le _⟩
  | _, .bl _, _ => ⟨rfl, Nat.zero_le _⟩
  | _, .int _, _ => ⟨rfl, Nat.zero_le _⟩
  | _, .str _, o => ⟨o, Nat.zero_le _⟩
  | n + 1, .tup xs, o => by
    obtain ⟨a, b⟩ := lays_of n xs o
    exact ⟨a, Nat.succ_le_succ b⟩
  | n + 1, .lst xs, o => by
    obtain ⟨a, b⟩ := lays_of n xs o
    exact ⟨a, Nat.succ_le_succ b⟩
  | 0, .tup _, o => by cases o
  | 0, .lst _, o => by cases o
  | _, .scr _, o => by simp [okD] at o
  | _, .dct _ _, o => by simp [okD] at o
  | _, .ins _ _, o => by simp [okD] at o
  | _, .ref _, o => by simp [okD] at o
  | _, .ty _, o => by simp [okD] at o
theorem lays_of : ∀ (n : Nat) (ps : List PV), okDs n ps = true → PyData.canLayAll0 (toDs ps) = true ∧ PyData.depthAll (toDs ps) ≤ n
  | _, [], _ => ⟨rfl, Nat.zero_le _⟩
  | n, p :: ps, o => by
    obtain ⟨o1, o2⟩ := Bool.and_eq_true_iff.mp (show (okD n p && okDs n ps) = true from o)
    obtain ⟨a, b⟩ := lay_of n p o1
    obtain ⟨c, d⟩ := lays_of n ps o2
    exact ⟨Bool.and_eq_true_iff.mpr ⟨a, c⟩, Nat.max_le.mpr ⟨b, d⟩⟩
end
theorem shaped_of {n : Nat} {p : PV} (o : okD n p = true) (hn : n ≤ 60) : SeqAt.shaped (toD p) = true := by
  obtain ⟨a, b⟩ := lay_of n p o
  exact Bool.and_eq_true_iff.mpr ⟨a, decide_eq_true (by omega)⟩
theorem shapeds_of {n : Nat} {ps : List PV} (o : okDs n ps = true) (hn : n ≤ 60) : SeqAt.shaped (.list (toDs ps)) = true ∧ SeqAt.shaped (.tuple (toDs ps)) = true := by
  obtain ⟨a, b⟩ := lays_of n ps o
  exact ⟨Bool.and_eq_true_iff.mpr ⟨a, decide_eq_true (by show PyData.depthAll _ + 1 ≤ 64; omega)⟩, Bool.and_eq_true_iff.mpr ⟨a, decide_eq_true (by show PyData.depthAll _ + 1 ≤ 64; omega)⟩⟩
mutual
theorem peq_eqv : ∀ (n m : Nat) (p q : PV), okD n p = true → okD m q = true → PyData.eqv (toD p) (toD q) = peq p q
  | n, m, .tup xs, .tup ys, o1, o2 => by
    cases n with
    | zero => cases o1
    | succ n =>
      cases m with
      | zero => cases o2
      | succ m => exact peqs_eqv n m xs ys o1 o2
  | n, m, .lst xs, .lst ys, o1, o2 => by
    cases n with
    | zero => cases o1
    | succ n =>
      cases m with
      | zero => cases o2
      | succ m => exact peqs_eqv n m xs ys o1 o2
  | _, _, .non, .non, _, _ => rfl
  | _, _, .non, .bl _, _, _ => rfl
  | _, _, .non, .int _, _, _ => rfl
  | _, _, .non, .str _, _, _ => rfl
  | _, _, .non, .tup _, _, _ => rfl
  | _, _, .non, .lst _, _, _ => rfl
  | _, _, .bl _, .non, _, _ => rfl
  | _, _, .bl _, .bl _, _, _ => rfl
  | _, _, .bl _, .int _, _, _ => rfl
  | _, _, .bl _, .str _, _, _ => rfl
  | _, _, .bl _, .tup _, _, _ => rfl
  | _, _, .bl _, .lst _, _, _ => rfl
  | _, _, .int _, .non, _, _ => rfl
  | _, _, .int _, .bl _, _, _ => rfl
  | _, _, .int _, .int _, _, _ => rfl
  | _, _, .int _, .str _, _, _ => rfl
  | _, _, .int _, .tup _, _, _ => rfl
  | _, _, .int _, .lst _, _, _ => rfl
  | _, _, .str _, .non, _, _ => rfl
  | _, _, .str _, .bl _, _, _ => rfl
  | _, _, .str _, .int _, _, _ => rfl
  | _, _, .str _, .str _, _, _ => rfl
  | _, _, .str _, .tup _, _, _ => rfl
  | _, _, .str _, .lst _, _, _ => rfl
  | _, _, .tup _, .non, _, _ => rfl
  | _, _, .tup _, .bl _, _, _ => rfl
  | _, _, .tup _, .int _, _, _ => rfl
  | _, _, .tup _, .str _, _, _ => rfl
  | _, _, .tup _, .lst _, _, _ => rfl
  | _, _, .lst _, .non, _, _ => rfl
  | _, _, .lst _, .bl _, _, _ => rfl
  | _, _, .lst _, .int _, _, _ => rfl
  | _, _, .lst _, .str _, _, _ => rfl
  | _, _, .lst _, .tup _, _, _ => rfl
  | _, _, .scr _, _, o, _ => by simp [okD] at o
  | _, _, .dct _ _, _, o, _ => by simp [okD] at o
  | _, _, .ins _ _, _, o, _ => by simp [okD] at o
  | _, _, .ref _, _, o, _ => by simp [okD] at o
  | _, _, .ty _, _, o, _ => by simp [okD] at o
  | _, _, _, .scr _, _, o => by simp [okD] at o
  | _, _, _, .dct _ _, _, o => by simp [okD] at o
  | _, _, _, .ins _ _, _, o => by simp [okD] at o
  | _, _, _, .ref _, _, o => by simp [okD] at o
  | _, _, _, .ty _, _, o => by simp [okD] at o
theorem peqs_eqv : ∀ (n m : Nat) (ps qs : List PV), okDs n ps = true → okDs m qs = true → PyData.eqvAll (toDs ps) (toDs qs) = peqs ps qs
  | _, _, [], [], _, _ => rfl
  | _, _, [], _ :: _, _, _ => rfl
  | _, _, _ :: _, [], _, _ => rfl
  | n, m, p :: ps, q :: qs, o, u => by
    obtain ⟨o1, o2⟩ := Bool.and_eq_true_iff.mp (show (okD n p && okDs n ps) = true from o)
    obtain ⟨u1, u2⟩ := Bool.and_eq_true_iff.mp (show (okD m q && okDs m qs) = true from u)
    show (PyData.eqv (toD p) (toD q) && PyData.eqvAll (toDs ps) (toDs qs)) = (peq p q && peqs ps qs)
    rw [peq_eqv n m p q o1 u1, peqs_eqv n m ps qs o2 u2]
end
theorem any_eqv {n m : Nat} {q : PV} (u : okD m q = true) : ∀ ps : List PV, okDs n ps = true → ((toDs ps).any fun z => PyData.eqv z (toD q)) = ps.any fun z => peq z q
  | [], _ => rfl
  | p :: ps, o => by
    obtain ⟨o1, o2⟩ := Bool.and_eq_true_iff.mp (show (okD n p && okDs n ps) = true from o)
    show (PyData.eqv (toD p) (toD q) || (toDs ps).any fun z => PyData.eqv z (toD q)) = (peq p q || ps.any fun z => peq z q)
    rw [peq_eqv n m p q o1 u, any_eqv u ps o2]
/-- what is compared -/
theorem asD_of {M : Mh} {x : V} {p : PV} {k : PV → Prop} (A : Ab G K F M H) (r : RV G K F x p) (h : asD M p k) : ∃ p', k p' ∧ ∀ n, okD n p' = true → Dp K H x (toD p') := by
  cases r with
  | ref a =>
    obtain ⟨xs, e, h⟩ := h
    obtain ⟨_, o, ho, vs, rfl, rs⟩ := A.mu a _ e
    refine ⟨_, h, fun n o => ?_⟩
    cases n with
    | zero => cases o
    | succ n => exact .lst (SqL.of ho) (dps_of A.sub n xs vs rs o)
  | non => exact ⟨_, h, fun n o => dp_of (G := G) A.sub n _ _ .non o⟩
  | bl b => exact ⟨_, h, fun n o => dp_of (G := G) A.sub n _ _ (.bl b) o⟩
  | int i => exact ⟨_, h, fun n o => dp_of (G := G) A.sub n _ _ (.int i) o⟩
  | str s => exact ⟨_, h, fun n o => dp_of (G := G) A.sub n _ _ (.str s) o⟩
  | tup h1 h2 => exact ⟨_, h, fun n o => dp_of (G := G) A.sub n _ _ (.tup h1 h2) o⟩
  | lst h1 h2 => exact ⟨_, h, fun n o => dp_of (G := G) A.sub n _ _ (.lst h1 h2) o⟩
  | scr h1 h2 => exact ⟨_, h, fun n o => by simp [okD] at o⟩
  | dct h1 h2 h3 => exact ⟨_, h, fun n o => by simp [okD] at o⟩
  | ins h1 h2 h3 h4 h5 h6 => exact ⟨_, h, fun n o => by simp [okD] at o⟩
  | ty n => exact ⟨_, h, fun n o => by simp [okD] at o⟩
end
/-! ### operators -/
def BOp.op : BOp → Operator
  | .add => .Add | .sub => .Sub | .mul => .Mult | .mod => .Mod | .fdiv => .FloorDiv | .pow => .Pow
def COp.op : COp → CmpOp
  | .eq => .Eq | .ne => .NotEq | .lt => .Lt | .le => .LtE | .gt => .Gt | .ge => .GtE | .is_ => .Is | .isnot => .IsNot | .in_ => .In | .notin => .NotIn
theorem opr_or {X : Cx} {f : Value → Value → Sem Value} {r1 r2 : R2} (h1 : OpR X f r1) (h2 : OpR X f r2) : OpR X f fun x y H Q => r1 x y H Q ∨ r2 x y H Q :=
  fun pins s σ H x y v u Q I rx ry h => h.elim (fun h => h1 pins s σ H x y v u Q I rx ry h) fun h => h2 pins s σ H x y v u Q I rx ry h
abbrev SndO (G : Cfg) (X : Cx) (r : R2) (o : PV → PV → Mh → ZQ → Prop) : Prop := ∀ F M H x y p q Q0 Q, Ab G X.K F M H → RV G X.K F x p → RV G X.K F y q → o p q M Q0 → TQ G X.K F Q0 Q → r x y H Q
section
variable {G : Cfg} {X : Cx}
theorem snd_int {g : Int → Int → PV} {g' : Int → Int → V} {C : Int → Int → Prop} (hg : ∀ F i j, RV G X.K F (g' i j) (g i j)) {o : PV → PV → Mh → ZQ → Prop}
    (ho : ∀ p q M Q0, o p q M Q0 → ∃ i j, p = .int i ∧ q = .int j ∧ C i j ∧ Q0 (g i j) M) : SndO G X (rI C g') o := fun F M H x y p q Q0 Q A rx ry h t => by
  obtain ⟨i, j, rfl, rfl, c, h⟩ := ho p q M Q0 h
  cases rx
  cases ry
  exact ⟨i, j, rfl, rfl, c, t _ M F H _ (Same.refl F) A (hg F i j) h⟩
theorem snd_bin (o : BOp) : ∃ r, OpR X (binaryOp o.op) r ∧ SndO G X r (zbin o) := by
  have ii : ∀ {C : Int → Int → Prop} {f : Int → Int → Int} {o : BOp}, (∀ p q M Q0, zbin o p q M Q0 → ∃ i j, p = .int i ∧ q = .int j ∧ C i j ∧ Q0 (.int (f i j)) M) → SndO G X (rI C fun i j => .int (f i j)) (zbin o) :=
    fun {C f o} h => snd_int (g := fun i j => .int (f i j)) (fun F i j => .int _) h
  cases o with
  | add =>
    refine ⟨_, opr_or op_add (opr_or op_catA op_add_str), fun F M H x y p q Q0 Q A rx ry h t => ?_⟩
    cases rx with
    | int i =>
      cases ry with
      | int j => exact .inl ⟨i, j, rfl, rfl, t _ M F H _ (Same.refl F) A (.int _) h⟩
      | _ => exact False.elim h
    | tup h1 r1 =>
      cases ry with
      | tup h2 r2 =>
        obtain ⟨hz, h⟩ := h
        refine .inr <| .inl ⟨_, _, _, _, rfl, rfl, SqT.of (A.sub _ _ h1), SqT.of (A.sub _ _ h2), by rw [r1.length, r2.length]; exact hz, fun e => ?_, fun _ e => ?_, fun _ _ l hl => ?_⟩
        · subst e
          cases r1
          exact t _ M F H _ (Same.refl F) A (.tup h2 r2) h
        · subst e
          cases r2
          rw [List.append_nil] at h
          exact t _ M F H _ (Same.refl F) A (.tup h1 r1) h
        · obtain ⟨A', s'⟩ := A.newF (p := l) (o := .tup (_ ++ _)) hl
          exact t _ M _ _ _ s' A' (.tup upd_same ((r1.append r2).mono s')) h
      | _ => exact False.elim h
    | str a =>
      cases ry with
      | str b => exact .inr <| .inr ⟨a, b, rfl, rfl, h.1, t _ M F H _ (Same.refl F) A (.str _) h.2⟩
      | _ => exact False.elim h
    | _ => cases ry <;> exact False.elim h
  | sub =>
    refine ⟨_, op_sub, fun F M H x y p q Q0 Q A rx ry h t => ?_⟩
    cases rx with
    | int i =>
      cases ry with
      | int j => exact ⟨i, j, rfl, rfl, t _ M F H _ (Same.refl F) A (.int _) h⟩
      | _ => exact False.elim h
    | _ => cases ry <;> exact False.elim h
  | mul =>
    refine ⟨_, op_mul, fun F M H x y p q Q0 Q A rx ry h t => ?_⟩
    cases rx with
    | int i =>
      cases ry with
      | int j => exact ⟨i, j, rfl, rfl, h.1, t _ M F H _ (Same.refl F) A (.int _) h.2⟩
      | _ => exact False.elim h
    | _ => cases ry <;> exact False.elim h
  | mod =>
    refine ⟨_, op_mod, fun F M H x y p q Q0 Q A rx ry h t => ?_⟩
    cases rx with
    | int i =>
      cases ry with
      | int j => exact ⟨i, j, rfl, rfl, h.1, t _ M F H _ (Same.refl F) A (.int _) h.2⟩
      | _ => exact False.elim h
    | _ => cases ry <;> exact False.elim h
  | fdiv =>
    refine ⟨_, op_fdivW, fun F M H x y p q Q0 Q A rx ry h t => ?_⟩
    cases rx with
    | int i =>
      cases ry with
      | int j =>
        obtain ⟨⟨h1, h2⟩, h⟩ := h
        exact ⟨i, j, rfl, rfl, wide_div (b := 200) h1 (by
          have e : j.natAbs < 100000000000000000000000000000000000000000000000000 := by omega
          exact Nat.lt_of_lt_of_le e (by decide)) (by decide) (by decide), t _ M F H _ (Same.refl F) A (.int _) h⟩
      | _ => exact False.elim h
    | _ => cases ry <;> exact False.elim h
  | pow =>
    refine ⟨_, op_pow, fun F M H x y p q Q0 Q A rx ry h t => ?_⟩
    cases rx with
    | int i =>
      cases ry with
      | int j => exact ⟨i, j, rfl, rfl, h.1, t _ M F H _ (Same.refl F) A (.int _) h.2⟩
      | _ => exact False.elim h
    | _ => cases ry <;> exact False.elim h
end
end Z
set_option Elab.async false
set_option linter.all false
set_option maxRecDepth 100000
set_option maxHeartbeats 4000000
namespace Z
open PySem PySem.Spec PyProof.Rows L2
/-! ### dicts by their keys -/
theorem valV_zip : ∀ {ks : List Key} {vs : List V} (k : Key), ks.length = vs.length → valV (ks.zip vs) k = (keyIx ks k).bind fun i => vs[i]?
  | [], [], _, _ => rfl
  | [], _ :: _, _, h => by cases h
  | _ :: _, [], _, h => by cases h
  | a :: ks, v :: vs, k, h => by
    have ih := valV_zip (ks := ks) (vs := vs) k (by simpa using h)
    unfold valV at ih ⊢
    rw [List.zip_cons_cons, List.find?_cons]
    unfold keyIx
    by_cases e : a = k
    · simp [e]
    · simp only [decide_eq_false e, if_neg e]
      rw [ih]
      cases keyIx ks k with
      | none => rfl
      | some i => simp
theorem keyIx_lt : ∀ {ks : List Key} {k : Key} {i : Nat}, keyIx ks k = some i → i < ks.length
  | [], _, _, h => by cases h
  | a :: ks, k, i, h => by
    unfold keyIx at h
    by_cases e : a = k
    · rw [if_pos e] at h; cases h; exact Nat.zero_lt_succ _
    · rw [if_neg e] at h
      cases q : keyIx ks k with
      | none => rw [q] at h; cases h
      | some j =>
        rw [q] at h
        have := keyIx_lt q
        cases h
        exact Nat.succ_lt_succ this
theorem valV_isSome {ks : List Key} {vs : List V} (k : Key) (h : ks.length = vs.length) : (valV (ks.zip vs) k).isSome = (keyIx ks k).isSome := by
  rw [valV_zip k h]
  cases q : keyIx ks k with
  | none => rfl
  | some i =>
    have := keyIx_lt q
    show (vs[i]?).isSome = true
    rw [List.getElem?_eq_getElem (by omega)]
    rfl
section
variable {G : Cfg} {X : Cx}
theorem op_din (hu : X.A.units + 1 < cLine) : OpR X (compareOp .In) fun y x H Q => ∃ a o, x = .ref a ∧ DGet H a y o ∧ Q (.bl o.isSome) H := fun pins s σ H y x u v Q I ry rx h => by
  obtain ⟨a, o, rfl, g, q⟩ := h
  cases rx
  exact d_in hu I g ry fun s3 I3 => ⟨.bl o.isSome, H, I3, rfl, q⟩
theorem op_dnotin (hu : X.A.units + 1 < cLine) : OpR X (compareOp .NotIn) fun y x H Q => ∃ a o, x = .ref a ∧ DGet H a y o ∧ Q (.bl (!o.isSome)) H := fun pins s σ H y x u v Q I ry rx h => by
  obtain ⟨a, o, rfl, g, q⟩ := h
  cases rx
  exact d_notIn hu I g ry fun s3 I3 => ⟨.bl (!o.isSome), H, I3, rfl, q⟩
theorem op_inT (hu : X.A.units + 65 < cLine) (no : Bool) : OpR X (compareOp (if no then .NotIn else .In)) fun x y H Q => ∃ d ds, Dp X.K H x d ∧ Dp X.K H y (.tuple ds) ∧ SeqAt.shaped d = true ∧ SeqAt.shaped (.list ds) = true ∧ SeqAt.shaped (.tuple ds) = true ∧
    Q (.bl (if no then !ds.any fun z => PyData.eqv z d else ds.any fun z => PyData.eqv z d)) H := fun pins s σ H x y v u Q I rx ry h => by
  obtain ⟨d, ds, hd, he, sd, se, _, q⟩ := h
  obtain ⟨as, r1⟩ := Dp.reads I d x v hd rx
  obtain ⟨bs, r2⟩ := Dp.reads I (.tuple ds) y u he ry
  cases no with
  | true => exact SeqAt.notIn_tuple_reads r2 r1 (SeqAt.canLay_of_shaped se) (SeqAt.canLay_of_shaped sd) (room_in_shaped sd hu) ⟨.bl _, H, I, rfl, q⟩
  | false => exact SeqAt.in_tuple_reads r2 r1 (SeqAt.canLay_of_shaped se) (SeqAt.canLay_of_shaped sd) (room_in_shaped sd hu) ⟨.bl _, H, I, rfl, q⟩
/-- in: a dict's key, an item of a list or a tuple -/
theorem snd_in (hu : X.A.units + 65 < cLine) (no : Bool) : ∃ r, OpR X (compareOp (if no then .NotIn else .In)) r ∧ SndO G X r (zcmp (if no then .notin else .in_)) := by
  have hd : ∃ r, OpR X (compareOp (if no then .NotIn else .In)) r ∧ ∀ y x H Q a o, x = V.ref a → DGet H a y o → Q (.bl (if no then !o.isSome else o.isSome)) H → r y x H Q := by
    cases no with
    | true => exact ⟨_, op_dnotin (by omega), fun y x H Q a o e g q => ⟨a, o, e, g, q⟩⟩
    | false => exact ⟨_, op_din (by omega), fun y x H Q a o e g q => ⟨a, o, e, g, q⟩⟩
  have hl : ∃ r, OpR X (compareOp (if no then .NotIn else .In)) r ∧ ∀ x y H Q d ds, Dp X.K H x d → Dp X.K H y (.list ds) → SeqAt.shaped d = true → SeqAt.shaped (.list ds) = true →
      Q (.bl (if no then !ds.any fun z => PyData.eqv z d else ds.any fun z => PyData.eqv z d)) H → r x y H Q := by
    cases no with
    | true => exact ⟨_, op_notInD hu, fun x y H Q d ds h1 h2 h3 h4 q => ⟨d, ds, h1, h2, h3, h4, q⟩⟩
    | false => exact ⟨_, op_inD hu, fun x y H Q d ds h1 h2 h3 h4 q => ⟨d, ds, h1, h2, h3, h4, q⟩⟩
  have ht : ∃ r, OpR X (compareOp (if no then .NotIn else .In)) r ∧ ∀ x y H Q d ds, Dp X.K H x d → Dp X.K H y (.tuple ds) → SeqAt.shaped d = true → SeqAt.shaped (.list ds) = true → SeqAt.shaped (.tuple ds) = true →
      Q (.bl (if no then !ds.any fun z => PyData.eqv z d else ds.any fun z => PyData.eqv z d)) H → r x y H Q := ⟨_, op_inT hu no, fun x y H Q d ds h1 h2 h3 h4 h5 q => ⟨d, ds, h1, h2, h3, h4, h5, q⟩⟩
  obtain ⟨r1, o1, d1⟩ := hd
  obtain ⟨r2, o2, d2⟩ := hl
  obtain ⟨r3, o3, d3⟩ := ht
  refine ⟨_, opr_or o1 (opr_or o2 o3), fun F M H x y p q Q0 Q A rx ry h t => ?_⟩
  have fin : ∀ b, Q0 (.bl b) M → Q (.bl b) H := fun b z => t _ M F H _ (Same.refl F) A (.bl b) z
  have key : ∀ {a : Addr} {ks : List Key} {vs : List V} (k : Key), F a = some (.dK (ks.zip vs)) → ks.length = vs.length → Q0 (.bl (if no then !(keyIx ks k).isSome else (keyIx ks k).isSome)) M → r1 (kV k) (.ref a) H Q := fun {a ks vs} k e l z => by
    refine d1 _ _ H Q a _ rfl (DGet.k (A.sub _ _ e)) ?_
    rw [valV_isSome k l]
    cases no <;> exact fin _ z
  have seqs : ∀ {n : Nat} {ps : List PV}, okD n p = true → n ≤ 60 → okDs 40 ps = true → (Dp X.K H y (.list (toDs ps)) ∨ Dp X.K H y (.tuple (toDs ps))) →
      Q0 (.bl (if no then !ps.any fun z => peq z p else ps.any fun z => peq z p)) M → (r1 x y H Q ∨ r2 x y H Q ∨ r3 x y H Q) := fun {n ps} o1 hn o2 hy z => by
    have hx : Dp X.K H x (toD p) := dp_of (G := G) A.sub n p x rx o1
    have e := any_eqv o1 ps o2
    obtain ⟨s1, s2⟩ := shapeds_of o2 (by omega)
    rcases hy with hy | hy
    · refine .inr (.inl (d2 x y H Q _ _ hx hy (shaped_of o1 hn) s1 ?_))
      rw [e]; cases no <;> exact fin _ z
    · refine .inr (.inr (d3 x y H Q _ _ hx hy (shaped_of o1 hn) s1 s2 ?_))
      rw [e]; cases no <;> exact fin _ z
  have seqs' : ∀ {n : Nat} {ps : List PV}, (okD n p = true ∧ okDs 40 ps = true) ∧ Q0 (.bl (if no then !ps.any fun z => peq z p else ps.any fun z => peq z p)) M → n ≤ 60 → (Dp X.K H y (.list (toDs ps)) ∨ Dp X.K H y (.tuple (toDs ps))) → (r1 x y H Q ∨ r2 x y H Q ∨ r3 x y H Q) :=
    fun {n ps} h hn hy => seqs h.1.1 hn h.1.2 hy h.2
  cases ry with
  | dct e l rs =>
    cases rx with
    | str z => exact .inl (key (.inr z) e l (by cases no <;> exact h))
    | int i => exact .inl (key (.inl i) e l (by cases no <;> exact h))
    | _ => cases no <;> exact False.elim h
  | @tup a vs xs hq rs =>
    have h' : (okD 40 p = true ∧ okDs 40 xs = true) ∧ Q0 (.bl (if no then !xs.any fun z => peq z p else xs.any fun z => peq z p)) M := by cases no <;> exact h
    exact seqs' (n := 40) h' (by decide) (.inr (.tup (SqT.of (A.sub _ _ hq)) (dps_of A.sub 40 _ _ rs h'.1.2)))
  | @lst a vs xs hq rs =>
    have h' : (okD 40 p = true ∧ okDs 40 xs = true) ∧ Q0 (.bl (if no then !xs.any fun z => peq z p else xs.any fun z => peq z p)) M := by cases no <;> exact h
    exact seqs' (n := 40) h' (by decide) (.inl (.lst (SqL.of (A.sub _ _ hq)) (dps_of A.sub 40 _ _ rs h'.1.2)))
  | @scr a vs xs hq rs =>
    have h' : (okD 40 p = true ∧ okDs 40 xs = true) ∧ Q0 (.bl (if no then !xs.any fun z => peq z p else xs.any fun z => peq z p)) M := by cases no <;> exact h
    exact seqs' (n := 40) h' (by decide) (.inl (.lst (Same.seq A.sub hq) (dps_of A.sub 40 _ _ rs h'.1.2)))
  | ref a =>
    have h0 : ∃ ys, M a = some (.lst ys) ∧ (okD 40 p = true ∧ okDs 40 ys = true) ∧ Q0 (.bl (if no then !ys.any fun z => peq z p else ys.any fun z => peq z p)) M := by cases no <;> exact h
    obtain ⟨ys, e, h'⟩ := h0
    obtain ⟨_, o, ho, vs, rfl, rs⟩ := A.mu a _ e
    exact seqs' (n := 40) h' (by decide) (.inl (.lst (SqL.of ho) (dps_of A.sub 40 _ _ rs h'.1.2)))
  | _ => cases no <;> exact False.elim h
mutual
theorem alike_of : ∀ (p q : PV), palike p q = true → PySem.W.alike (toD p) (toD q) = true
  | .int _, q, h => by
    cases q with
    | int _ => rfl
    | _ => cases h
  | .str _, q, h => by
    cases q with
    | str _ => rfl
    | _ => cases h
  | .tup xs, q, h => by
    cases q with
    | tup ys => exact alikes_of xs ys h
    | _ => cases h
  | .non, q, h => by cases q <;> cases h
  | .bl _, q, h => by cases q <;> cases h
  | .lst _, q, h => by cases q <;> cases h
  | .scr _, q, h => by cases q <;> cases h
  | .dct _ _, q, h => by cases q <;> cases h
  | .ins _ _, q, h => by cases q <;> cases h
  | .ref _, q, h => by cases q <;> cases h
  | .ty _, q, h => by cases q <;> cases h
theorem alikes_of : ∀ (ps qs : List PV), palikes ps qs = true → PySem.W.alikeAll (toDs ps) (toDs qs) = true
  | [], qs, _ => by cases qs <;> rfl
  | _ :: _, [], _ => rfl
  | p :: ps, q :: qs, h => by
    obtain ⟨h1, h2⟩ := Bool.and_eq_true_iff.mp (show (palike p q && palikes ps qs) = true from h)
    show (PySem.W.alike (toD p) (toD q) && PySem.W.alikeAll (toDs ps) (toDs qs)) = true
    rw [alike_of p q h1, alikes_of ps qs h2]; rfl
end
mutual
theorem plt_of : ∀ (n m : Nat) (p q : PV), okD n p = true → okD m q = true → palike p q = true → PySem.W.dataLt (toD p) (toD q) = plt p q
  | n, m, .int i, q, o1, o2, h => by
    cases q with
    | int j => exact PySem.W.dataLt_int i j
    | _ => cases h
  | n, m, .str a, q, o1, o2, h => by
    cases q with
    | str b => exact PySem.W.dataLt_str a b
    | _ => cases h
  | n, m, .tup xs, q, o1, o2, h => by
    cases q with
    | tup ys =>
      cases n with
      | zero => cases o1
      | succ n =>
        cases m with
        | zero => cases o2
        | succ m => exact (PySem.W.dataLt_tuple _ _).trans (plts_of n m xs ys o1 o2 h)
    | _ => cases h
  | _, _, .non, q, _, _, h => by cases q <;> cases h
  | _, _, .bl _, q, _, _, h => by cases q <;> cases h
  | _, _, .lst _, q, _, _, h => by cases q <;> cases h
  | _, _, .scr _, q, _, _, h => by cases q <;> cases h
  | _, _, .dct _ _, q, _, _, h => by cases q <;> cases h
  | _, _, .ins _ _, q, _, _, h => by cases q <;> cases h
  | _, _, .ref _, q, _, _, h => by cases q <;> cases h
  | _, _, .ty _, q, _, _, h => by cases q <;> cases h
theorem plts_of : ∀ (n m : Nat) (ps qs : List PV), okDs n ps = true → okDs m qs = true → palikes ps qs = true → PyProof.Rows.lexLt PyProof.Rows.itemOrd (PySem.W.keyToksAll (toDs ps)) (PySem.W.keyToksAll (toDs qs)) = plts ps qs
  | _, _, [], [], _, _, _ => by
    show PyProof.Rows.lexLt PyProof.Rows.itemOrd [Sum.inl 0] [Sum.inl 0] = false
    rw [PySem.W.lex_one]
    rfl
  | _, _, [], q :: qs, _, _, _ => by
    show PyProof.Rows.lexLt PyProof.Rows.itemOrd [Sum.inl 0] (Sum.inl 1 :: _) = true
    rw [PySem.W.lex_atom (by decide), PySem.W.lex_one]
    rfl
  | _, _, p :: ps, [], _, _, _ => by
    show PyProof.Rows.lexLt PyProof.Rows.itemOrd (Sum.inl 1 :: _) [Sum.inl 0] = false
    rw [PySem.W.lex_atom (by decide), PySem.W.lex_one]
    rfl
  | n, m, p :: ps, q :: qs, o1, o2, h => by
    obtain ⟨h1, h2⟩ := Bool.and_eq_true_iff.mp (show (palike p q && palikes ps qs) = true from h)
    obtain ⟨o3, o4⟩ := Bool.and_eq_true_iff.mp (show (okD n p && okDs n ps) = true from o1)
    obtain ⟨o5, o6⟩ := Bool.and_eq_true_iff.mp (show (okD m q && okDs m qs) = true from o2)
    have e := peq_eqv n m p q o3 o5
    show PyProof.Rows.lexLt PyProof.Rows.itemOrd (PySem.W.keyToksAll (toD p :: toDs ps)) (PySem.W.keyToksAll (toD q :: toDs qs)) = if peq p q then plts ps qs else plt p q
    cases b : peq p q with
    | true =>
      rw [b] at e
      rw [PySem.W.dataLt_all_yes (alike_of p q h1) e, if_pos rfl]
      exact plts_of n m ps qs o4 o6 h2
    | false =>
      rw [b] at e
      rw [PySem.W.dataLt_all_no (alike_of p q h1) e, if_neg (by simp)]
      exact plt_of n m p q o3 o5 h1
end
theorem op_ltD (hu : X.A.units + 65 < cLine) : OpR X (compareOp .Lt) fun x y H Q => ∃ d e, Dp X.K H x d ∧ Dp X.K H y e ∧ SeqAt.shaped d = true ∧ PySem.W.alike d e = true ∧ d ≠ .none ∧ Q (.bl (PySem.W.dataLt d e)) H := by
  intro pins s σ H x y v u Q I rx ry h
  obtain ⟨d, e, hd, he, sd, al, hn, q⟩ := h
  obtain ⟨as, r1⟩ := Dp.reads I d x v hd rx
  obtain ⟨bs, r2⟩ := Dp.reads I e y u he ry
  have dd := SeqAt.depth_of_shaped sd
  have R := PySem.W.rcLt_alike d e X.A s v u as bs r1 r2 al hn (by omega)
  have z : wpAny (model X.prog X.w) X.A (compareOp .Lt v u) (EP X pins σ Q) X.xe s := R X.prog X.w _ _ ⟨.bl _, H, I, rfl, q⟩
  exact z
theorem snd_cmp (hu : X.A.units + 65 < cLine) (o : COp) : ∃ r, OpR X (compareOp o.op) r ∧ SndO G X r (zcmp o) := by
  have iis : ∀ {f : Int → Int → Bool} {op : CmpOp} {o : COp}, OpR X (compareOp op) (rI0 fun i j => .bl (f i j)) → (∀ i j M Q0, zcmp o (.int i) (.int j) M Q0 → Q0 (.bl (f i j)) M) →
      (∀ p q M Q0, zcmp o p q M Q0 → ∃ i j, p = .int i ∧ q = .int j) → ∃ r, OpR X (compareOp op) r ∧ SndO G X r (zcmp o) := fun {f op o} ho h1 h2 => ⟨_, ho, fun F M H x y p q Q0 Q A rx ry h t => by
    obtain ⟨i, j, rfl, rfl⟩ := h2 p q M Q0 h
    cases rx
    cases ry
    exact ⟨i, j, rfl, rfl, t _ M F H _ (Same.refl F) A (.bl _) (h1 i j M Q0 h)⟩⟩
  cases o with
  | eq =>
    refine ⟨_, op_eqD (by omega), fun F M H x y p q Q0 Q A rx ry h t => ?_⟩
    have h : asD M p fun x => asD M q fun y => (okD 40 x = true ∧ okD 40 y = true) ∧ Q0 (.bl (peq x y)) M := h
    obtain ⟨p', h, d1⟩ := asD_of A rx h
    obtain ⟨q', ⟨⟨o1, o2⟩, h⟩, d2⟩ := asD_of A ry h
    refine ⟨_, _, d1 _ o1, d2 _ o2, shaped_of o1 (by decide), shaped_of o2 (by decide), ?_⟩
    rw [peq_eqv 40 40 p' q' o1 o2]
    exact t _ M F H _ (Same.refl F) A (.bl _) h
  | ne =>
    refine ⟨_, op_neD (by omega), fun F M H x y p q Q0 Q A rx ry h t => ?_⟩
    have h : asD M p fun x => asD M q fun y => (okD 40 x = true ∧ okD 40 y = true) ∧ Q0 (.bl (!peq x y)) M := h
    obtain ⟨p', h, d1⟩ := asD_of A rx h
    obtain ⟨q', ⟨⟨o1, o2⟩, h⟩, d2⟩ := asD_of A ry h
    refine ⟨_, _, d1 _ o1, d2 _ o2, shaped_of o1 (by decide), shaped_of o2 (by decide), ?_⟩
    rw [peq_eqv 40 40 p' q' o1 o2]
    exact t _ M F H _ (Same.refl F) A (.bl _) h
  | lt =>
    refine ⟨_, opr_or op_lt (op_ltD hu), fun F M H x y p q Q0 Q A rx ry h t => ?_⟩
    cases rx with
    | int i =>
      cases ry with
      | int j => exact .inl ⟨i, j, rfl, rfl, t _ M F H _ (Same.refl F) A (.bl _) h⟩
      | _ => exact False.elim h
    | @tup a1 vs1 xs1 hx1 rs1 =>
      cases ry with
      | @tup a2 vs2 xs2 hx2 rs2 =>
        obtain ⟨⟨o1, o2, al⟩, h⟩ := h
        refine .inr ⟨toD (.tup xs1), toD (.tup xs2), dp_of (G := G) A.sub 40 _ _ (.tup hx1 rs1) o1, dp_of (G := G) A.sub 40 _ _ (.tup hx2 rs2) o2, shaped_of o1 (by decide), alike_of (.tup xs1) (.tup xs2) al, (fun z => nomatch z), ?_⟩
        rw [plt_of 40 40 (.tup xs1) (.tup xs2) o1 o2 al]
        exact t _ M F H _ (Same.refl F) A (.bl _) h
      | _ => exact False.elim h
    | _ => cases ry <;> exact False.elim h
  | le => exact iis op_le (fun _ _ _ _ h => h) fun p q M Q0 h => by cases p <;> cases q <;> first | exact ⟨_, _, rfl, rfl⟩ | exact False.elim h
  | gt => exact iis op_gt (fun _ _ _ _ h => h) fun p q M Q0 h => by cases p <;> cases q <;> first | exact ⟨_, _, rfl, rfl⟩ | exact False.elim h
  | ge => exact iis op_ge (fun _ _ _ _ h => h) fun p q M Q0 h => by cases p <;> cases q <;> first | exact ⟨_, _, rfl, rfl⟩ | exact False.elim h
  | is_ =>
    refine ⟨_, op_isN, fun F M H x y p q Q0 Q A rx ry h t => ?_⟩
    cases ry with
    | non =>
      refine ⟨rfl, ?_⟩
      have e : decide (x = V.non) = isNon p := by cases rx <;> rfl
      rw [e]
      exact t _ M F H _ (Same.refl F) A (.bl _) h
    | _ => exact False.elim h
  | isnot =>
    refine ⟨_, op_notN, fun F M H x y p q Q0 Q A rx ry h t => ?_⟩
    cases ry with
    | non =>
      refine ⟨rfl, ?_⟩
      have e : decide (x = V.non) = isNon p := by cases rx <;> rfl
      rw [e]
      exact t _ M F H _ (Same.refl F) A (.bl _) h
    | _ => exact False.elim h
  | in_ => exact snd_in hu false
  | notin => exact snd_in hu true
end
end Z
set_option Elab.async false
set_option linter.all false
set_option maxRecDepth 100000
set_option maxHeartbeats 4000000
namespace Z
open PySem PySem.Spec PyProof.Rows L2
/-! ### places -/
theorem place_ix (n : Nat) : ∀ i : Int, place n i = ixN n i
  | .ofNat k => by
    show (if k < n then some k else none) = (if (0 : Int) ≤ (k : Int) then (if (k : Int) < n then some (k : Int).toNat else none) else _)
    rw [if_pos (Int.natCast_nonneg k)]
    by_cases h : k < n
    · rw [if_pos h, if_pos (by omega)]; rfl
    · rw [if_neg h, if_neg (by omega)]
  | .negSucc m => by
    have e : (Int.negSucc m : Int) = -(m : Int) - 1 := by omega
    show (if m < n then some (n - 1 - m) else none) = ixN n (Int.negSucc m)
    unfold ixN
    rw [e, if_neg (show ¬ (0 : Int) ≤ -(m : Int) - 1 by omega)]
    by_cases h : m < n
    · rw [if_pos h, if_pos (by omega)]
      congr 1
      omega
    · rw [if_neg h, if_neg (by omega)]
theorem pick_ix {xs : List PV} {v : PV} : ∀ {i : Int}, pick xs i = some v → ∃ j, ixN xs.length i = some j ∧ xs[j]? = some v
  | .ofNat k, h => by
    have h : xs[k]? = some v := h
    have hk := (List.getElem?_eq_some_iff.mp h).1
    refine ⟨k, ?_, h⟩
    rw [← place_ix]
    show (if k < xs.length then some k else none) = some k
    rw [if_pos hk]
  | .negSucc m, h => by
    have h : (if m < xs.length then xs[xs.length - 1 - m]? else none) = some v := h
    by_cases hm : m < xs.length
    · rw [if_pos hm] at h
      refine ⟨_, ?_, h⟩
      rw [← place_ix]
      show (if m < xs.length then some (xs.length - 1 - m) else none) = _
      rw [if_pos hm]
    · rw [if_neg hm] at h; cases h
theorem pick_at {G : Cfg} {K : PySem.W.Frag} {F : Hp} {vs : List V} {xs : List PV} {i : Int} {p : PV} (r : RVs G K F vs xs) (h : pick xs i = some p) : ∃ v, atI vs i = some v ∧ RV G K F v p := by
  obtain ⟨j, h1, h2⟩ := pick_ix h
  obtain ⟨v, h3, h4⟩ := r.get h2
  refine ⟨v, ?_, h4⟩
  unfold atI
  rw [r.length, h1]
  exact h3
section
variable {G : Cfg} {X : Cx}
theorem ix_dict (hu : X.A.units + 1 < cLine) : IxR X fun x y H Q => ∃ a v, x = .ref a ∧ DGet H a y (some v) ∧ Q v H := fun value slice pins s σ H x y v u Q I rx ry h hs => by
  obtain ⟨a, z, rfl, g, q⟩ := h
  cases rx
  exact tail_any (dict_typeIs I g) PySem.F.slot_dict_getitem.lookup (d_getItem hu I g ry fun w' s3 I3 rw' => ⟨z, H, I3, rw', q⟩) hs
theorem snd_idx (hu : X.A.units + 1 < cLine) : ∃ r, IxR X r ∧ SndO G X r zidx := by
  refine ⟨_, ix_list.or (ix_tup.or (ix_dict hu)), fun F M H x y p q Q0 Q A rx ry h t => ?_⟩
  cases ry with
  | int i =>
    have h : rdS M p fun xs => ∃ v, pick xs i = some v ∧ Q0 v M := h
    obtain ⟨a, vs, xs, rfl, hq, rs, v, e, h⟩ := rdS_of A rx h
    obtain ⟨w, e', rw'⟩ := pick_at rs e
    have fin := t _ M F H w (Same.refl F) A rw' h
    rcases hq with hq | hq
    · exact .inl ⟨a, vs, i, w, rfl, rfl, hq, e', fin⟩
    · exact .inr (.inl ⟨a, vs, i, w, rfl, rfl, hq, e', fin⟩)
  | str z =>
    have main : ∀ {a : Addr} {ks : List Key} {vs : List V} {xs : List PV} {i : Nat} {v : PV}, H a = some (.dK (ks.zip vs)) → ks.length = vs.length → RVs G X.K F vs xs → keyIx ks (.inr z) = some i → xs[i]? = some v → Q0 v M →
        ∃ b w, V.ref a = .ref b ∧ DGet H b (.str z) (some w) ∧ Q w H := fun {a ks vs xs i v} e l rs h1 h2 h3 => by
      obtain ⟨w, e', rw'⟩ := rs.get h2
      have g : DGet H a (kV (.inr z)) (valV (ks.zip vs) (.inr z)) := DGet.k e
      rw [valV_zip _ l, h1] at g
      have g : DGet H a (.str z) (vs[i]?) := g
      rw [e'] at g
      exact ⟨a, w, rfl, g, t _ M F H w (Same.refl F) A rw' h3⟩
    cases rx with
    | dct e l rs =>
      obtain ⟨i, v, h1, h2, h3⟩ := h
      exact .inr (.inr (main (A.sub _ _ e) l rs h1 h2 h3))
    | ref a =>
      obtain ⟨ks, xs, i, v, e, h1, h2, h3⟩ := h
      obtain ⟨_, o, ho, vs, rfl, l, rs⟩ := A.mu a _ e
      exact .inr (.inr (main ho l rs h1 h2 h3))
    | _ => exact False.elim h
  | _ => cases rx <;> exact False.elim h
/-- truth -/
theorem snd_tru {F : Hp} {M : Mh} {H : Hp} {x : V} {p : PV} {k : Bool → Prop} (A : Ab G X.K F M H) (r : RV G X.K F x p) (h : ztru p M k) : ∃ b, TruV X.K x H b ∧ k b := by
  cases r with
  | non => exact ⟨false, rfl, h⟩
  | bl b => exact ⟨b, rfl, h⟩
  | int i => exact ⟨_, rfl, h⟩
  | @tup a vs xs hq rs =>
    refine ⟨_, .inr (.inl ⟨vs, SqT.of (A.sub _ _ hq), rfl⟩), ?_⟩
    have e : vs.isEmpty = xs.isEmpty := by cases rs <;> rfl
    rw [e]; exact h
  | @lst a vs xs hq rs =>
    refine ⟨_, .inl ⟨vs, SqL.of (A.sub _ _ hq), rfl⟩, ?_⟩
    have e : vs.isEmpty = xs.isEmpty := by cases rs <;> rfl
    rw [e]; exact h
  | ref a =>
    obtain ⟨xs, e, h⟩ := h
    obtain ⟨_, o, ho, vs, rfl, rs⟩ := A.mu a _ e
    refine ⟨_, .inl ⟨vs, SqL.of ho, rfl⟩, ?_⟩
    have e : vs.isEmpty = xs.isEmpty := by cases rs <;> rfl
    rw [e]; exact h
  | _ => exact False.elim h
/-! ### isinstance of plain things -/
theorem kitT (a t : Ty) : kitB (tyS a) (tyS t) = some (match a, t with | .bool, .int => true | .int, .int => true | .str, .str => true | .list, .list => true | .tuple, .tuple => true | .bool, .bool => true | .dict, .dict => true | _, _ => false) := by
  cases a <;> cases t <;> decide +kernel
theorem kitN (t : Ty) : kitB "NoneType" (tyS t) = some false := by
  cases t <;> decide +kernel
theorem snd_isin (t : Ty) {F : Hp} {M : Mh} {H : Hp} {x : V} {p : PV} {Q0 : ZQ} {Q : VK} (A : Ab G X.K F M H) (r : RV G X.K F x p) (h : zisin t p M Q0) (tq : TQ G X.K F Q0 Q) : rIsi X.K [x, .ty (tyS t)] H Q := by
  have fin : ∀ (a : Ty) (b : Bool), TyX X.K H x (.type (tyS a)) → kitB (tyS a) (tyS t) = some b → Q0 (.bl b) M → rIsi X.K [x, .ty (tyS t)] H Q := fun a b ty e q =>
    ⟨x, _, _, _, b, rfl, .ty _, ty, kit_ty e, tq _ M F H _ (Same.refl F) A (.bl b) q⟩
  cases r with
  | non =>
    refine ⟨_, _, _, _, false, rfl, .ty _, .base .non, kit_ty (kitN t), tq _ M F H _ (Same.refl F) A (.bl _) ?_⟩
    cases t <;> exact h
  | bl b => cases t <;> exact fin .bool _ (.base (.bl b)) (kitT .bool _) h
  | int i => cases t <;> exact fin .int _ (.base (.int i)) (kitT .int _) h
  | str s => cases t <;> exact fin .str _ (.base (.str s)) (kitT .str _) h
  | tup hq rs => cases t <;> exact fin .tuple _ (.base (.tup (A.sub _ _ hq))) (kitT .tuple _) h
  | lst hq rs => cases t <;> exact fin .list _ (.base (.lst (A.sub _ _ hq))) (kitT .list _) h
  | dct e l rs => cases t <;> exact fin .dict _ (.base (.dK (A.sub _ _ e))) (kitT .dict _) h
  | ref a =>
    obtain ⟨m, e, h⟩ := h
    obtain ⟨_, o, ho, rs⟩ := A.mu a _ e
    cases m with
    | lst xs =>
      obtain ⟨vs, rfl, _⟩ := rs
      cases t <;> exact fin .list _ (.base (.lst ho)) (kitT .list _) h
    | dct ks xs =>
      obtain ⟨vs, rfl, _⟩ := rs
      cases t <;> exact fin .dict _ (.base (.dK ho)) (kitT .dict _) h
    | sm P =>
      obtain ⟨vs, xs, rfl, _⟩ := rs
      cases t <;> exact fin .list _ (.base (.lst ho)) (kitT .list _) h
    | ins c fs => exact False.elim h
  | scr hq rs => cases t <;> exact False.elim h
  | ins _ _ _ _ _ _ => cases t <;> exact False.elim h
  | ty n => cases t <;> exact False.elim h
end
end Z
set_option Elab.async false
set_option linter.all false
set_option maxRecDepth 100000
set_option maxHeartbeats 4000000
namespace Z
open PySem PySem.Spec PyProof.Rows L2
theorem callr_or {X : Cx} {f : Value} {r1 r2 : List V → Hp → VK → Prop} (h1 : CallR X f r1) (h2 : CallR X f r2) : CallR X f fun xs H Q => r1 xs H Q ∨ r2 xs H Q :=
  fun pins s σ H xs us Q I r h => h.elim (fun h => h1 pins s σ H xs us Q I r h) fun h => h2 pins s σ H xs us Q I r h
/-- its name; whether it is a class -/
def Bf.nm : Bf → Str
  | .len => "len" | .int => "int" | .str => "str" | .list _ => "list" | .tuple => "tuple" | .sum => "sum" | .max2 => "max" | .min2 => "min" | .abs => "abs" | .max1 => "max"
def Bf.val : Bf → Value
  | .len => .builtin "len" | .int => .type "int" | .str => .type "str" | .list _ => .type "list" | .tuple => .type "tuple" | .sum => .builtin "sum" | .max2 => .builtin "max" | .min2 => .builtin "min" | .abs => .builtin "abs" | .max1 => .builtin "max"
def Bf.plain : Bf → Bool
  | _ => true
theorem Bf.boot (b : Bf) : bootBuiltins b.nm = some b.val := by
  cases b with
  | list fz => decide +kernel +revert
  | _ => decide +kernel
theorem rvs1 {G : Cfg} {K : PySem.W.Frag} {F : Hp} {xs : List V} {p : PV} (r : RVs G K F xs [p]) : ∃ x, xs = [x] ∧ RV G K F x p := by
  cases r with
  | cons r t => cases t; exact ⟨_, rfl, r⟩
theorem rvs2 {G : Cfg} {K : PySem.W.Frag} {F : Hp} {xs : List V} {p q : PV} (r : RVs G K F xs [p, q]) : ∃ x y, xs = [x, y] ∧ RV G K F x p ∧ RV G K F y q := by
  cases r with
  | cons r t =>
    obtain ⟨y, rfl, h⟩ := rvs1 t
    exact ⟨_, y, rfl, r, h⟩
section
variable {G : Cfg} {X : Cx}
theorem snd_bcall (hc : X.calm = true) (b : Bf) (hb : b.plain = true) : ∃ r, CallR X b.val r ∧ ∀ F M H xs ps Q0 Q, Ab G X.K F M H → RVs G X.K F xs ps → zbcall b ps M Q0 → TQ G X.K F Q0 Q → r xs H Q := by
  have lists : ∀ {F : Hp} {M : Mh} {H : Hp} {x : V} {p : PV} {k : List Int → Prop}, Ab G X.K F M H → RV G X.K F x p → rdL M p (fun xs => ∃ ns : List Int, xs = ns.map PV.int ∧ k ns) → ∃ a ns, x = .ref a ∧ SqL X.K H a (ns.map V.int) ∧ k ns := fun {F M H x p k} A r h => by
    obtain ⟨a, vs, xs, e, hq, rs, ns, rfl, h⟩ := rdL_of A r h
    rw [rs.ints_of] at hq
    exact ⟨a, ns, e, hq, h⟩
  cases b with
  | len =>
    refine ⟨_, callr_or call_len call_lenD, fun F M H xs ps Q0 Q A r h t => ?_⟩
    match ps, r, h with
    | [p], r, h =>
      obtain ⟨x, rfl, rr⟩ := rvs1 r
      have go : rdS M p (fun xs => Q0 (.int xs.length) M) → ∃ y n, [x] = [y] ∧ LenV X.K y H n ∧ Q (.int n) H := fun h => by
        obtain ⟨a, vs, xs, rfl, hq, rs, h⟩ := rdS_of A rr h
        refine ⟨_, vs.length, rfl, ?_, ?_⟩
        · rcases hq with hq | hq
          · exact .inl ⟨vs, hq, rfl⟩
          · exact .inr ⟨vs, hq, rfl⟩
        · rw [rs.length]; exact t _ M F H _ (Same.refl F) A (.int _) h
      cases rr with
      | @dct a ks vs xs e l rs =>
        refine .inr ⟨a, _, rfl, A.sub _ _ e, ?_⟩
        have el : (ks.zip vs).length = ks.length := by rw [List.length_zip]; omega
        have h : Q0 (.int ks.length) M := h
        rw [el]
        exact t _ M F H _ (Same.refl F) A (.int _) h
      | _ => exact .inl (go h)
  | int =>
    refine ⟨_, call_int1, fun F M H xs ps Q0 Q A r h t => ?_⟩
    match ps, r, h with
    | [p], r, h =>
      obtain ⟨x, rfl, rr⟩ := rvs1 r
      cases rr with
      | int i => exact .inl ⟨i, rfl, t _ M F H _ (Same.refl F) A (.int _) h⟩
      | bl k => exact .inr ⟨k, rfl, t _ M F H _ (Same.refl F) A (.int _) h⟩
      | _ => exact False.elim h
  | str =>
    refine ⟨_, call_str_int, fun F M H xs ps Q0 Q A r h t => ?_⟩
    match ps, r, h with
    | [p], r, h =>
      obtain ⟨x, rfl, rr⟩ := rvs1 r
      cases rr with
      | int i => exact ⟨i, rfl, h.1, t _ M F H _ (Same.refl F) A (.str _) h.2⟩
      | _ => exact False.elim h
  | list fz =>
    refine ⟨_, call_list_of, fun F M H xs ps Q0 Q A r h t => ?_⟩
    match ps, r, h with
    | [p], r, h =>
      obtain ⟨x, rfl, rr⟩ := rvs1 r
      obtain ⟨a, vs, xs, rfl, hq, rs, h⟩ := rdS_of A rr h
      refine ⟨a, vs, rfl, hq, fun l hl => ?_⟩
      cases fz with
      | true =>
        obtain ⟨A', s'⟩ := A.newF (p := l) (o := .lst vs) hl
        exact t _ M _ _ _ s' A' (.lst upd_same (rs.mono s')) h
      | false => exact t _ _ F _ _ (Same.refl F) (A.newM (m := .lst xs) hl ⟨vs, rfl, rs⟩) (.ref l) (h l (A.free hl).1)
  | tuple =>
    refine ⟨_, call_tuple_of, fun F M H xs ps Q0 Q A r h t => ?_⟩
    match ps, r, h with
    | [p], r, h =>
      obtain ⟨x, rfl, rr⟩ := rvs1 r
      have lists2 : ∀ {a : Addr} {vs : List V} {xs : List PV}, SqL X.K H a vs → RVs G X.K F vs xs → Q0 (.tup xs) M → ∃ p ys, [V.ref a] = [.ref p] ∧ ((SqL X.K H p ys ∧ ∀ l, H l = none → Q (.ref l) (upd H l (.tup ys))) ∨ (SqT X.K H p ys ∧ Q (.ref p) H)) := fun {a vs xs} hq rs h => by
        refine ⟨a, vs, rfl, .inl ⟨hq, fun l hl => ?_⟩⟩
        obtain ⟨A', s'⟩ := A.newF (p := l) (o := .tup vs) hl
        exact t _ M _ _ _ s' A' (.tup upd_same (rs.mono s')) h
      cases rr with
      | tup hq rs => exact ⟨_, _, rfl, .inr ⟨SqT.of (A.sub _ _ hq), t _ M F H _ (Same.refl F) A (.tup hq rs) h⟩⟩
      | lst hq rs => exact lists2 (SqL.of (A.sub _ _ hq)) rs h
      | scr hq rs => exact lists2 (Same.seq A.sub hq) rs h
      | ref a =>
        obtain ⟨xs, e, h⟩ := h
        obtain ⟨_, o, ho, vs, rfl, rs⟩ := A.mu a _ e
        exact lists2 (SqL.of ho) rs h
      | _ => exact False.elim h
  | sum =>
    refine ⟨_, cr_sum hc, fun F M H xs ps Q0 Q A r h t => ?_⟩
    match ps, r, h with
    | [p], r, h =>
      obtain ⟨x, rfl, rr⟩ := rvs1 r
      obtain ⟨a, ns, rfl, hq, h⟩ := lists (k := fun ns => Q0 (.int ns.sum) M) A rr h
      exact ⟨a, ns, rfl, hq, t _ M F H _ (Same.refl F) A (.int _) h⟩
  | max2 =>
    refine ⟨_, call_max2 hc, fun F M H xs ps Q0 Q A r h t => ?_⟩
    match ps, r, h with
    | [p, q], r, h =>
      obtain ⟨x, y, rfl, r1, r2⟩ := rvs2 r
      cases r1 with
      | int i =>
        cases r2 with
        | int j => exact ⟨i, j, rfl, t _ M F H _ (Same.refl F) A (.int _) h⟩
        | _ => exact False.elim h
      | _ => cases r2 <;> exact False.elim h
  | min2 =>
    refine ⟨_, call_min2 hc, fun F M H xs ps Q0 Q A r h t => ?_⟩
    match ps, r, h with
    | [p, q], r, h =>
      obtain ⟨x, y, rfl, r1, r2⟩ := rvs2 r
      cases r1 with
      | int i =>
        cases r2 with
        | int j => exact ⟨i, j, rfl, t _ M F H _ (Same.refl F) A (.int _) h⟩
        | _ => exact False.elim h
      | _ => cases r2 <;> exact False.elim h
  | abs =>
    refine ⟨_, call_abs, fun F M H xs ps Q0 Q A r h t => ?_⟩
    match ps, r, h with
    | [p], r, h =>
      obtain ⟨x, rfl, rr⟩ := rvs1 r
      cases rr with
      | int i => exact ⟨i, rfl, t _ M F H _ (Same.refl F) A (.int _) h⟩
      | _ => exact False.elim h
  | max1 =>
    refine ⟨_, cr_max hc, fun F M H xs ps Q0 Q A r h t => ?_⟩
    match ps, r, h with
    | [p], r, h =>
      obtain ⟨x, rfl, rr⟩ := rvs1 r
      obtain ⟨a, ns, rfl, hq, h0, h⟩ := lists (k := fun ns => 0 < ns.length ∧ ∀ m ∈ ns, (∀ k ∈ ns, k ≤ m) → Q0 (.int m) M) A rr h
      exact ⟨a, ns, rfl, hq, h0, fun m h1 h2 => t _ M F H _ (Same.refl F) A (.int _) (h m h1 h2)⟩
/-! ### slices, sums of lists -/
theorem cut_rvs {K : PySem.W.Frag} {F : Hp} {vs : List V} {xs : List PV} (r : RVs G K F vs xs) (lo hi : Option Int) : RVs G K F (cutV vs lo hi) (cut xs lo hi) := by
  unfold cutV cut
  rw [r.length]
  exact (r.drop _).take _
theorem take_all {α : Type} (xs : List α) (n : Nat) (h : xs.length ≤ n) : xs.take n = xs := List.take_of_length_le h
theorem cut_whole {xs : List PV} {lo hi : Option Int} (h : HT.sIx xs.length 0 lo = 0 ∧ HT.sIx xs.length xs.length hi = xs.length) : cut xs lo hi = xs := by
  unfold cut
  rw [h.1, h.2, List.drop_zero, Nat.sub_zero, List.take_length]
theorem snd_slice : ∃ r, SlR X r ∧ ∀ F M H x p l h Q0 Q, Ab G X.K F M H → RV G X.K F x p → zslice p l h M Q0 → TQ G X.K F Q0 Q → r x l h H Q := by
  refine ⟨_, sl_list.or sl_tupA, fun F M H x p l h Q0 Q A r z t => ?_⟩
  have go : rdL M p (fun xs => Q0 (.lst (cut xs l h)) M) → rSlL X.K x l h H Q := fun z => by
    obtain ⟨a, vs, xs, rfl, hq, rs, z⟩ := rdL_of A r z
    refine ⟨a, vs, rfl, hq, fun q hl => ?_⟩
    obtain ⟨A', s'⟩ := A.newF (p := q) (o := .lst (cutV vs l h)) hl
    exact t _ M _ _ _ s' A' (.lst upd_same ((cut_rvs rs l h).mono s')) z
  cases r with
  | @tup a vs xs hq rs =>
    refine .inr ⟨a, vs, rfl, SqT.of (A.sub _ _ hq), fun e => ?_, fun _ q hl => ?_⟩
    · have z : Q0 (.tup (cut xs l h)) M := z
      rw [rs.length] at e
      rw [cut_whole e] at z
      exact t _ M F H _ (Same.refl F) A (.tup hq rs) z
    · obtain ⟨A', s'⟩ := A.newF (p := q) (o := .tup (cutV vs l h)) hl
      exact t _ M _ _ _ s' A' (.tup upd_same ((cut_rvs rs l h).mono s')) z
  | _ => exact .inl (go z)
theorem snd_cat : SndO G X rCat zcat := fun F M H x y p q Q0 Q A rx ry h t => by
  obtain ⟨a, vs, xs, rfl, hq, rs, h⟩ := rdM_of A rx h
  obtain ⟨b, us, ys, rfl, hq', rs', hz, h⟩ := rdM_of A ry h
  refine ⟨a, b, vs, us, rfl, rfl, hq, hq', by rw [rs.length, rs'.length]; exact hz, fun l hl => ?_⟩
  exact t _ _ F _ _ (Same.refl F) (A.newM (m := .lst (xs ++ ys)) hl ⟨_, rfl, rs.append rs'⟩) (.ref l) (h l (A.free hl).1)
/-! ### methods of lists -/
def Bm.nm : Bm → Str
  | .append => "append" | .pop => "pop" | .pop0 => "pop" | .extend => "extend" | .insert => "insert" | .reverse => "reverse"
theorem snd_bm (m : Bm) : ∃ (id : String) (r : V → List V → Hp → VK → Prop), Slot "list" m.nm id ∧ typeOf (.builtin id) = pure (.type "method_descriptor") ∧ MtR X id r ∧
    ∀ F M H x p xs ps Q0 Q, Ab G X.K F M H → RV G X.K F x p → RVs G X.K F xs ps → zbmeth m p ps M Q0 → TQ G X.K F Q0 Q → r x xs H Q := by
  cases m with
  | append =>
    refine ⟨_, _, PySem.F.slot_list_append, PySem.F.type_list_append, mt_append, fun F M H x p xs ps Q0 Q A r rs h t => ?_⟩
    cases r with
    | ref a =>
      obtain ⟨ys, e, h⟩ := h
      match ps, rs, h with
      | [y], rs, h =>
        obtain ⟨y', rfl, ry⟩ := rvs1 rs
        obtain ⟨_, o, ho, vs, rfl, rv⟩ := A.mu a _ e
        exact ⟨a, vs, y', rfl, rfl, ho, by rw [rv.length]; exact h.1, t _ _ F _ _ (Same.refl F) (A.write (m := .lst (ys ++ [y])) e ⟨_, rfl, rv.append (.cons ry .nil)⟩) .non h.2⟩
    | _ => exact False.elim h
  | pop =>
    refine ⟨_, _, PySem.F.slot_list_pop, PySem.F.type_list_pop, mt_pop, fun F M H x p xs ps Q0 Q A r rs h t => ?_⟩
    cases r with
    | ref a =>
      obtain ⟨ys, e, h⟩ := h
      match ps, rs, h with
      | [], rs, h =>
        cases rs
        obtain ⟨y, hy, h⟩ := h
        obtain ⟨_, o, ho, vs, rfl, rv⟩ := A.mu a _ e
        obtain ⟨v, hv, rvv⟩ := rv.get hy
        have ed : RVs G X.K F vs.dropLast ys.dropLast := by
          rw [List.dropLast_eq_take, List.dropLast_eq_take, rv.length]
          exact rv.take _
        exact ⟨a, vs, v, rfl, rfl, ho, by rw [rv.length]; exact hv, t _ _ F _ _ (Same.refl F) (A.write (m := .lst ys.dropLast) e ⟨_, rfl, ed⟩) rvv h⟩
    | _ => exact False.elim h
  | pop0 =>
    refine ⟨_, _, PySem.F.slot_list_pop, PySem.F.type_list_pop, mt_popAt, fun F M H x p xs ps Q0 Q A r rs h t => ?_⟩
    cases r with
    | ref a =>
      obtain ⟨ys, e, h⟩ := h
      match ps, rs, h with
      | [q], rs, h =>
        obtain ⟨y', rfl, ry⟩ := rvs1 rs
        cases ry with
        | int i =>
         obtain ⟨⟨hlo, hhi⟩, y, k, hk, hy, h⟩ := h
         obtain ⟨_, o, ho, vs, rfl, rv⟩ := A.mu a _ e
         obtain ⟨v, hv, rvv⟩ := rv.get hy
         rw [place_ix] at hk
         obtain ⟨hs, h1, h2, h3⟩ := ixN_seq hk
         refine ⟨a, vs, i, k, v, rfl, rfl, ho, hlo, hhi, by rw [rv.length]; exact hs, hv, t _ _ F _ _ (Same.refl F) (A.write (m := .lst (ys.eraseIdx k)) e ⟨_, rfl, rv.eraseIdx k⟩) rvv h⟩
        | _ => exact False.elim h
    | _ => exact False.elim h
  | extend =>
    refine ⟨_, _, PySem.F.slot_list_extend, PySem.F.type_list_extend, mt_extend, fun F M H x p xs ps Q0 Q A r rs h t => ?_⟩
    cases r with
    | ref a =>
      obtain ⟨ys, e, h⟩ := h
      match ps, rs, h with
      | [y], rs, h =>
        obtain ⟨y', rfl, ry⟩ := rvs1 rs
        obtain ⟨_, o, ho, vs, rfl, rv⟩ := A.mu a _ e
        obtain ⟨b, us, zs, rfl, hb, rs', hz, h⟩ := rdM_of A ry h
        exact ⟨a, b, vs, us, rfl, rfl, ho, hb, by rw [rv.length, rs'.length]; exact hz, t _ _ F _ _ (Same.refl F) (A.write (m := .lst (ys ++ zs)) e ⟨_, rfl, rv.append rs'⟩) .non h⟩
    | _ => exact False.elim h
  | insert =>
    refine ⟨_, _, PySem.F.slot_list_insert, PySem.F.type_list_insert, mt_insert, fun F M H x p xs ps Q0 Q A r rs h t => ?_⟩
    cases r with
    | ref a =>
      obtain ⟨ys, e, h⟩ := h
      match ps, rs, h with
      | [i, y], .cons ri rs, h =>
        obtain ⟨y', rfl, ry⟩ := rvs1 rs
        cases ri with
        | int i =>
          obtain ⟨hz, ⟨h0, h1⟩, h⟩ := h
          obtain ⟨_, o, ho, vs, rfl, rv⟩ := A.mu a _ e
          refine ⟨a, vs, i, y', rfl, rfl, ho, by rw [rv.length]; exact hz, h0, h1, t _ _ F _ _ (Same.refl F) (A.write (m := .lst (ys.take i.toNat ++ y :: ys.drop i.toNat)) e ⟨_, rfl, ?_⟩) .non h⟩
          rw [List.append_assoc]
          exact (rv.take _).append (.cons ry (rv.drop _))
        | _ => exact False.elim h
    | _ => exact False.elim h
  | reverse =>
    refine ⟨_, _, PySem.F.slot_list_reverse, PySem.F.type_list_reverse, mt_reverse, fun F M H x p xs ps Q0 Q A r rs h t => ?_⟩
    cases r with
    | ref a =>
      obtain ⟨ys, e, h⟩ := h
      match ps, rs, h with
      | [], rs, h =>
        cases rs
        obtain ⟨_, o, ho, vs, rfl, rv⟩ := A.mu a _ e
        exact ⟨a, vs, rfl, rfl, ho, t _ _ F _ _ (Same.refl F) (A.write (m := .lst ys.reverse) e ⟨_, rfl, rv.reverse⟩) .non h⟩
    | _ => exact False.elim h
end
end Z
set_option Elab.async false
set_option linter.all false
set_option maxRecDepth 100000
set_option maxHeartbeats 4000000
namespace Z
open PySem PySem.Spec PyProof.Rows L2
/-! ### shapes of expressions -/
def notStar : Expr → Bool
  | .Starred _ _ => false
  | _ => true
def plainBase : Expr → Bool
  | .Call (.Name _ _) [] [] _ => false
  | _ => true
def plainTest : Expr → Bool
  | .UnaryOp .Not _ _ => false
  | .BoolOp _ _ _ => false
  | .IfExp _ _ _ _ => false
  | .Compare _ _ _ _ => false
  | _ => true
def notComp : Expr → Bool
  | .ListComp _ _ _ _ => false
  | .SetComp _ _ _ _ => false
  | .DictComp _ _ _ _ _ => false
  | _ => true
def notSlice : Expr → Bool
  | .Slice _ _ _ _ => false
  | _ => true
theorem star_of {e : Expr} (h : notStar e = true) (es : List Expr) (env : Env) : starEach (e :: es) env = (false, eval e env) :: starEach es env := by
  cases e <;> first | rfl | cases h
theorem stars_of : ∀ {es : List Expr} (h : es.all notStar = true) (pos : Pos) (env : Env), (backTo pos (starEach es env)).any (·.1) = false ∧ (backTo pos (starEach es env)).all (fun x => !x.1) = true
  | [], _, _, _ => ⟨rfl, rfl⟩
  | e :: es, h, pos, env => by
    obtain ⟨h1, h2⟩ := Bool.and_eq_true_iff.mp (show (notStar e && es.all notStar) = true from h)
    obtain ⟨i1, i2⟩ := stars_of h2 pos env
    rw [star_of h1]
    refine ⟨?_, ?_⟩
    · show (false || (backTo pos (starEach es env)).any (·.1)) = false
      rw [i1]; rfl
    · show (true && (backTo pos (starEach es env)).all (fun x => !x.1)) = true
      rw [i2]; rfl
theorem base_of {e : Expr} (h : plainBase e = true) (f : Str) (env : Env) : attributeBase e f env (eval e env) = eval e env := by
  cases e with
  | Call func args kws pos =>
    cases func with
    | Name x p =>
      cases args with
      | nil =>
        cases kws with
        | nil => cases h
        | cons _ _ => rfl
      | cons _ _ => rfl
    | _ => rfl
  | _ => rfl
theorem test_of {e : Expr} (h : plainTest e = true) (env : Env) : ∀ whole, isTrue e env whole = (do let v ← whole; standAt e.pos; holding [v] (truthy v)) := by
  intro whole
  cases e with
  | UnaryOp op a p => cases op <;> first | rfl | cases h
  | BoolOp _ _ _ => cases h
  | IfExp _ _ _ _ => cases h
  | Compare _ _ _ _ => cases h
  | _ => rfl
theorem swap_of {e : Expr} (h : notComp e = true) (t : Option Expr) (l : Nat) (env : Env) : swapsWith e t l env = pure false := by
  cases e <;> first | rfl | cases h
theorem ix_of {e : Expr} (h : notSlice e = true) : PlainIx e := by
  intro o i
  cases e <;> first | rfl | cases h
theorem meth_form {o : Expr} {m : Str} {es : List Expr} {apos pos : Pos} {env : Env} (hb : attributeBase o m env (eval o env) = eval o env) (hs : es.all notStar = true) (hn : es.length < 30) (hl : (apos.endLine == pos.line) = true) :
    eval (.Call (.Attribute o m apos) es [] pos) env = (do
      let ov ← eval o env
      standAt apos.atName
      let (f, first) ← holding [ov] (getMethod ov m (do return (← importBound o env).getD true))
      callWith pos f first (backTo pos (starEach es env)) (backToKw pos (keywordEach [] env))) := by
  have hf : methodCallForm (es.length + ([] : List Keyword).length) (backTo pos (starEach es env)) (backToKw pos (keywordEach [] env)) = true := by
    unfold methodCallForm
    have h2 := (stars_of hs pos env).2
    show ((backTo pos (starEach es env)).all (fun x => !x.1) && true && decide (es.length + 0 + 0 < 30)) = true
    rw [h2, decide_eq_true (by omega)]
    rfl
  show (do
    let ov ← attributeBase o m env (eval o env)
    standAt apos.atName
    methodCall o m apos pos env ov (es.length + ([] : List Keyword).length) (backTo pos (starEach es env)) (backToKw pos (keywordEach [] env))) = _
  rw [hb]
  unfold methodCall
  rw [hf]
  unfold calleeOf methodCallPos
  simp only [if_true, hl, Bool.not_true, Bool.false_or]
  rfl
/-! ### calls of the text's own -/
section
variable {X : Cx} {k : Nat} {f C : Addr} {fd : FuncData} {ps : List Str} {sp : Sp} {dvs : List V} {ds : List Value} {W : WX} {x m : Str} {p pos apos : Pos} {e o : Expr} {es : List Expr} {ta : TE} {t : TA}
theorem callAny (F : FnOk X.prog X.w X.K X.mg X.base (L2.CX X.prog X.w) k f fd ps sp) (hr : Room k X.A) (hg : Gl X x) (hm : X.mg x = some (.ref f)) (hk : PySem.W.keepIn X.K (.ref f) = true) (hb : Binds X.K fd ps ds) (hd : Vals dvs ds) (tk : Takes X W)
    (ha : PA X (e :: es) t) (hs : (e :: es).all notStar = true) (hdb : (x == ("__debug__" : Str)) = false) : PE X (.Call (.Name x p) (e :: es) [] pos) (tCallSD sp dvs (WE W) t) := by
  obtain ⟨h1, h2⟩ := Bool.and_eq_true_iff.mp (show (notStar e && es.all notStar) = true from hs)
  exact pe_callSD F hr hg hm hk hb hd (fun σ => passAt tk σ) ha hdb (star_of h1 es X.env) (stars_of h2 pos X.env).1
theorem callNone (F : FnOk X.prog X.w X.K X.mg X.base (L2.CX X.prog X.w) k f fd ps sp) (hr : Room k X.A) (hg : Gl X x) (hm : X.mg x = some (.ref f)) (hk : PySem.W.keepIn X.K (.ref f) = true) (hb : Binds X.K fd ps ds) (hd : Vals dvs ds) (tk : Takes X W)
    (hdb : (x == ("__debug__" : Str)) = false) : PE X (.Call (.Name x p) [] [] pos) (tCallSD sp dvs (WE W) tNil) :=
  ⟨fun pins s σ H Q I h => wpAny_Call_Name_kw (ld_glob I hg hm (PySem.W.callWith_K0 I.kIn hk (run_fnSD (us := []) F hr hb hd (passAt tk σ) I .nil h)) hdb)⟩
/-- o.m(..) of an instance, what is raised wished for at the caller's slots -/
def tMethSD (C : Addr) (m : Str) (sp : Sp) (dvs : List V) (E : L2.St → XK) (ta : TE) (t : TA) : TE := fun σ H Q => ta σ H fun x H1 => ∃ a dx fs, x = .ref a ∧ H1 a = some (.ins C dx fs) ∧ fs.lookup m = none ∧
  t σ H1 fun vs H2 => sp (x :: (vs ++ dvs)) H2 Q (E σ)
theorem methAny (he : PE X o ta) (c : Cls X.K C) (hm : Meth X.K C m f) (F : FnOk X.prog X.w X.K X.mg X.base (L2.CX X.prog X.w) k f fd ps sp) (hr : Room k X.A) (hb : Binds X.K fd ps ds) (hd : Vals dvs ds) (tk : Takes X W) (ha : PA X (e :: es) t)
    (hs : (e :: es).all notStar = true) (hn : (e :: es).length < 30) (hl : (apos.endLine == pos.line) = true) (hbase : plainBase o = true) : PE X (.Call (.Attribute o m apos) (e :: es) [] pos) (tMethSD C m sp dvs (WE W) ta t) := by
  obtain ⟨h1, h2⟩ := Bool.and_eq_true_iff.mp (show (notStar e && es.all notStar) = true from hs)
  refine ⟨fun pins s σ H Q I h => ?_⟩
  refine PySem.W.methodCall_KW (thn (he.run pins s σ H _ I h) fun u s1 z => ?_) (meth_form (base_of hbase m X.env) hs hn hl)
  obtain ⟨x, H1, I1, rx, a, dx, fs, rfl, ea, l, q⟩ := z
  obtain rfl : u = Value.ref a := rx
  refine getmeth_ok I1 ea c hm l ?_
  refine PySem.W.callWith_K (first := [.ref a]) (h₀ := X.base) I.ok.mod.kin hm.kp (thn (ha.run pos pins s1 σ H1 _ I1 q) fun us s2 z => ?_) (star_of h1 es X.env) (stars_of h2 pos X.env).1
  obtain ⟨vs, H2, I2, r, q2⟩ := z
  exact ⟨I2.kIn, run_fnSD (us := .ref a :: us) (vs := .ref a :: vs) F hr hb hd (passAt tk σ) I2 (.cons rfl r) q2⟩
theorem methNone (he : PE X o ta) (c : Cls X.K C) (hm : Meth X.K C m f) (F : FnOk X.prog X.w X.K X.mg X.base (L2.CX X.prog X.w) k f fd ps sp) (hr : Room k X.A) (hb : Binds X.K fd ps ds) (hd : Vals dvs ds) (tk : Takes X W)
    (hl : (apos.endLine == pos.line) = true) (hbase : plainBase o = true) : PE X (.Call (.Attribute o m apos) [] [] pos) (tMethSD C m sp dvs (WE W) ta tNil) := by
  refine ⟨fun pins s σ H Q I h => ?_⟩
  refine PySem.W.methodCall_KW (thn (he.run pins s σ H _ I h) fun u s1 z => ?_) (meth_form (base_of hbase m X.env) rfl (by decide) hl)
  obtain ⟨x, H1, I1, rx, a, dx, fs, rfl, ea, l, q⟩ := z
  obtain rfl : u = Value.ref a := rx
  refine getmeth_ok I1 ea c hm l ?_
  exact PySem.W.callWith_K0 (first := [.ref a]) I1.kIn hm.kp (run_fnSD (us := [.ref a]) (vs := [.ref a]) F hr hb hd (passAt tk σ) I1 (.cons rfl .nil) q)
end
end Z
set_option Elab.async false
set_option linter.all false
set_option maxRecDepth 100000
set_option maxHeartbeats 4000000
namespace Z
open PySem PySem.Spec PyProof.Rows L2
/-! ### what is known of the text's top -/
structure Fn where
  at_ : Str × Option Str
  ps : List Str
  dfl : List DV := []
  kwo : Bool := false
/-- how a class is called: the class, its __init__, how many values, which keywords, which defaults fill up -/
structure Mkr where
  c : Nat
  f : Nat
  n : Nat
  ks : List Str
  ds : List DV
structure Tb where
  fns : List Fn
  free : List Str
  mks : List Mkr := []
structure CC where
  N : List Str
  sc : Scope
  blk : Option Scope
  lim : Nat
def CC.fn (c : CC) (x : Str) : Bool := match c.blk with
  | none => true
  | some s => s.names.lookup x == some .cell
def visB (sc : Scope) (x : Str) : Bool := match sc.names.lookup x with
  | some .local => true
  | some .cell => true
  | some .free => true
  | _ => false
def locB (sc : Scope) (x : Str) : Bool := match sc.names.lookup x with
  | some .local => true
  | some .cell => true
  | _ => false
def isLocal (sc : Scope) (x : Str) : Bool := match sc.names.lookup x with
  | some .local => true
  | _ => false
def glB (sc : Scope) (x : Str) : Bool := match sc.names.lookup x with
  | some .globalImplicit => true
  | _ => false
def niceB (x : Str) : Bool := !(x == ("__debug__" : Str)) && !(x == ("__classdict__" : Str)) && !decide (x = "__name__")
def storeB (c : CC) (i : Nat) (x : Str) : Bool := decide (c.N[i]? = some x) && locB c.sc x && (c.fn x || isLocal c.sc x)
def freeB (B : Tb) (c : CC) (x : Str) : Bool := glB c.sc x && decide (x ∈ B.free) && niceB x
def opB : BOp → Operator → Bool
  | .add, .Add => true | .sub, .Sub => true | .mul, .Mult => true | .mod, .Mod => true | .fdiv, .FloorDiv => true | .pow, .Pow => true
  | _, _ => false
def copB : COp → CmpOp → Bool
  | .eq, .Eq => true | .ne, .NotEq => true | .lt, .Lt => true | .le, .LtE => true | .gt, .Gt => true | .ge, .GtE => true | .is_, .Is => true | .isnot, .IsNot => true | .in_, .In => true | .notin, .NotIn => true
  | _, _ => false
def EL.len : EL → Nat
  | .nil => 0
  | .cons _ r => r.len + 1
mutual
def Tg.slots : Tg → List Nat
  | .name i => [i]
  | .tup ts => TgL.slots ts
  | .sub _ _ => []
def TgL.slots : TgL → List Nat
  | .nil => []
  | .cons t r => Tg.slots t ++ TgL.slots r
end
def callView : Expr → Option (Str × List Expr)
  | .Call (.Name x _) es [] _ => some (x, es)
  | _ => none
def methView : Expr → Option (Expr × Str × List Expr × Bool)
  | .Call (.Attribute o m apos) es [] pos => some (o, m, es, apos.endLine == pos.line)
  | _ => none
def nameView : Expr → Option Str
  | .Name x _ => some x
  | _ => none
theorem call_view {e : Expr} {x : Str} {es : List Expr} (h : callView e = some (x, es)) : ∃ p1 p, e = .Call (.Name x p1) es [] p := by
  unfold callView at h
  split at h
  · cases h; exact ⟨_, _, rfl⟩
  · cases h
theorem meth_view {e o : Expr} {m : Str} {es : List Expr} {b : Bool} (h : methView e = some (o, m, es, b)) : ∃ apos pos, e = .Call (.Attribute o m apos) es [] pos ∧ (apos.endLine == pos.line) = b := by
  unfold methView at h
  split at h
  · cases h; exact ⟨_, _, rfl, rfl⟩
  · cases h
theorem name_view {e : Expr} {x : Str} (h : nameView e = some x) : ∃ p, e = .Name x p := by
  unfold nameView at h
  split at h
  · cases h; exact ⟨_, rfl⟩
  · cases h
def boolB : BoolOp → Bool → Bool
  | .And, b => b
  | .Or, b => !b
def notSetB : Expr → Bool
  | .Set _ _ _ => false
  | _ => true
def fieldB (G : Cfg) (k i : Nat) (f : Str) : Bool := match G.cls[k]? with
  | some (_, lay) => decide (lay[i]? = some f) && decide (lay.length < 900)
  | none => false
theorem field_of {G : Cfg} {k i : Nat} {f : Str} (h : fieldB G k i f = true) : ∃ nm lay, G.cls[k]? = some (nm, lay) ∧ lay[i]? = some f ∧ lay.length < 900 := by
  unfold fieldB at h
  split at h
  · rename_i nm lay q
    simp only [Bool.and_eq_true, decide_eq_true_eq] at h
    exact ⟨nm, lay, q, h.1, h.2⟩
  · cases h
def fnB (B : Tb) (lim f : Nat) (x : Str) (ds : List DV) : Bool := match B.fns[f]? with
  | some fn => decide (fn.at_ = (x, none)) && decide (f < lim) && (decide (fn.dfl.drop (fn.dfl.length - ds.length) = ds) && !fn.kwo)
  | none => false
theorem fn_of_ {B : Tb} {lim f : Nat} {x : Str} {ds : List DV} (h : fnB B lim f x ds = true) : ∃ fn, B.fns[f]? = some fn ∧ fn.at_ = (x, none) ∧ f < lim ∧ fn.dfl.drop (fn.dfl.length - ds.length) = ds ∧ fn.kwo = false := by
  unfold fnB at h
  split at h
  · rename_i fn q
    simp only [Bool.and_eq_true, decide_eq_true_eq, Bool.not_eq_true'] at h
    exact ⟨fn, q, h.1.1, h.1.2, h.2.1, h.2.2⟩
  · cases h
def mtB (G : Cfg) (B : Tb) (lim f k : Nat) (m : Str) (ds : List DV) : Bool := match B.fns[f]?, G.cls[k]? with
  | some fn, some (nm, lay) => decide (fn.at_ = (nm, some m)) && decide (m ∉ lay) && decide (f < lim) && (decide (fn.dfl.drop (fn.dfl.length - ds.length) = ds) && !fn.kwo)
  | _, _ => false
theorem mt_of_ {G : Cfg} {B : Tb} {lim f k : Nat} {m : Str} {ds : List DV} (h : mtB G B lim f k m ds = true) : ∃ fn nm lay, B.fns[f]? = some fn ∧ G.cls[k]? = some (nm, lay) ∧ fn.at_ = (nm, some m) ∧ m ∉ lay ∧ f < lim ∧ fn.dfl.drop (fn.dfl.length - ds.length) = ds ∧ fn.kwo = false := by
  unfold mtB at h
  split at h
  · rename_i fn nm lay q1 q2
    simp only [Bool.and_eq_true, decide_eq_true_eq, Bool.not_eq_true'] at h
    exact ⟨fn, nm, lay, q1, q2, h.1.1.1, h.1.1.2, h.1.2, h.2.1, h.2.2⟩
  · cases h
def makeView : Expr → Option (Str × List Expr × List Keyword)
  | .Call (.Name x _) es kws _ => some (x, es, kws)
  | _ => none
theorem make_view {e : Expr} {x : Str} {es : List Expr} {kws : List Keyword} (h : makeView e = some (x, es, kws)) : ∃ p1 p, e = .Call (.Name x p1) es kws p := by
  unfold makeView at h
  split at h
  · cases h; exact ⟨_, _, rfl⟩
  · cases h
def mkB (G : Cfg) (B : Tb) (lim j f c n m : Nat) (x : Str) (ds : List DV) (ks : List Str) : Bool := match B.mks[j]?, G.cls[c]? with
  | some mk, some (nm, lay) => decide (mk.c = c) && decide (mk.f = f) && decide (mk.n = m) && decide (mk.ks = ks) && decide (mk.ds = ds) && decide (nm = x) && decide (lay.length = n) && decide (f + 1 < lim)
  | _, _ => false
theorem mk_of_ {G : Cfg} {B : Tb} {lim j f c n m : Nat} {x : Str} {ds : List DV} {ks : List Str} (h : mkB G B lim j f c n m x ds ks = true) : ∃ mk lay, B.mks[j]? = some mk ∧ G.cls[c]? = some (x, lay) ∧ mk.c = c ∧ mk.f = f ∧ mk.n = m ∧ mk.ks = ks ∧ mk.ds = ds ∧ lay.length = n ∧ f + 1 < lim := by
  unfold mkB at h
  split at h
  · rename_i mk nm lay q1 q2
    simp only [Bool.and_eq_true, decide_eq_true_eq] at h
    obtain ⟨⟨⟨⟨⟨⟨⟨a1, a2⟩, a3⟩, a4⟩, a5⟩, a6⟩, a7⟩, a8⟩ := h
    exact ⟨mk, lay, q1, by rw [q2, a6], a1, a2, a3, a4, a5, a7, a8⟩
  · cases h
def kwNames (kws : List Keyword) : List Str := kws.filterMap (·.arg)
def kwAll (kws : List Keyword) : Bool := kws.all (·.arg.isSome)
def keysB : List Str → List (Option Expr) → Bool
  | [], [] => true
  | k :: ks, some (.Constant (.str s) _ _) :: es => decide (k = s) && keysB ks es
  | _, _ => false
def ownN (c : CC) (own : List Nat) : List (Str × Nat) := own.map fun i => ((c.N[i]?).getD "", i)
def inBlk (c : CC) (scope : Scope) : CC := { c with sc := relS scope c.sc, blk := some scope }
section
variable (G : Cfg) (B : Tb)
mutual
def chkE : CC → E → Expr → Bool
  | c, .var i, e => (match e with
    | .Name x _ => decide (c.N[i]? = some x) && visB c.sc x && niceB x
    | _ => false)
  | _, .non, e => (match e with
    | .Constant .none _ _ => true
    | _ => false)
  | _, .bl b, e => (match e with
    | .Constant (.bool b') _ _ => b == b'
    | _ => false)
  | _, .int i, e => (match e with
    | .Constant (.int j) _ _ => decide (i = j)
    | _ => false)
  | _, .neg i, e => (match e with
    | .UnaryOp .USub (.Constant (.int j) _ _) _ => decide (i = j)
    | _ => false)
  | _, .str s, e => (match e with
    | .Constant (.str t) _ _ => decide (s = t)
    | _ => false)
  | c, .tup es, e => (match e with
    | .Tuple es' _ _ => chkA c es es' && decide (es.len < 1000)
    | _ => false)
  | c, .lst _ es, e => (match e with
    | .List es' _ => chkA c es es' && decide (es.len < 1000)
    | _ => false)
  | c, .bin o a b, e => (match e with
    | .BinOp a' op b' _ => opB o op && (chkE c a a' && chkE c b b')
    | _ => false)
  | c, .cat a b, e => (match e with
    | .BinOp a' op b' _ => opB .add op && (chkE c a a' && chkE c b b')
    | _ => false)
  | c, .cmp o a b, e => (match e with
    | .Compare a' ops bs _ => (match ops, bs with
      | [op], [b'] => (copB o op && !behindInMarks op b') && (chkE c a a' && chkE c b b')
      | _, _ => false)
    | _ => false)
  | c, .chain o o' a b d, e => (match e with
    | .Compare a' ops bs _ => (match ops, bs with
      | [op, op'], [b', d'] => (copB o op && copB o' op' && !lastMarks [op, op'] [b', d']) && (chkE c a a' && (chkE c b b' && chkE c d d'))
      | _, _ => false)
    | _ => false)
  | c, .bool isAnd es, e => (match e with
    | .BoolOp op es' _ => boolB op isAnd && chkA c es es'
    | _ => false)
  | c, .not a, e => (match e with
    | .UnaryOp .Not a' _ => chkE c a a'
    | _ => false)
  | c, .ifx t a b, e => (match e with
    | .IfExp t' a' b' _ => chkT c t t' && (chkE c a a' && chkE c b b')
    | _ => false)
  | c, .isin a t, e => (match callView e with
    | some (f, [a', n']) => (match nameView n' with
      | some n => decide (f = "isinstance") && (freeB B c "isinstance" && (decide (n = Str.ofString (tyS t)) && (freeB B c n && (notStar a' && chkE c a a'))))
      | none => false)
    | _ => false)
  | c, .idx a b, e => (match e with
    | .Subscript a' b' _ => notSlice b' && (chkE c a a' && chkE c b b')
    | _ => false)
  | c, .slice a lo hi, e => (match e with
    | .Subscript a' (.Slice lo' hi' none _) _ => chkE c a a' && (chkO c lo lo' && chkO c hi hi')
    | _ => false)
  | c, .attr a k i, e => (match e with
    | .Attribute a' f _ => fieldB G k i f && (plainBase a' && chkE c a a')
    | _ => false)
  | c, .call f es ds, e => (match callView e with
    | some (x, es') => fnB B c.lim f x ds && (glB c.sc x && (niceB x && (es'.all notStar && chkA c es es')))
    | none => false)
  | c, .meth f k o es ds, e => (match methView e with
    | some (o', m, es', l) => mtB G B c.lim f k m ds && (l && (decide (es'.length < 30) && (plainBase o' && (es'.all notStar && (chkE c o o' && chkA c es es')))))
    | none => false)
  | c, .bcall b es, e => (match callView e with
    | some (x, e0 :: er) => (decide (x = b.nm) && b.plain) && (freeB B c x && ((e0 :: er).all notStar && chkA c es (e0 :: er)))
    | _ => false)
  | c, .lenset a, e => (match callView e with
    | some (x, [i]) => (match callView i with
      | some (y, [a']) => decide (x = "len") && (decide (y = "set") && (freeB B c "len" && (freeB B c "set" && (notStar a' && chkE c a a'))))
      | _ => false)
    | _ => false)
  | c, .sortedset a, e => (match callView e with
    | some (x, [i]) => (match callView i with
      | some (y, [a']) => decide (x = "sorted") && (decide (y = "set") && (freeB B c "sorted" && (freeB B c "set" && (notStar a' && chkE c a a'))))
      | _ => false)
    | _ => false)
  | c, .dict _ ks vs, e => (match e with
    | .Dict keys values _ => keysB ks keys && (decide ks.Nodup && decide (0 < ks.length ∧ ks.length ≤ 15 ∧ keys.length = values.length) && chkA c vs values)
    | _ => false)
  | c, .make j f k n ds es kes, e => (match makeView e with
    | some (x, e0 :: er, kws) => mkB G B c.lim j f k n (er.length + 1) x ds (kwNames kws) && (kwAll kws && (glB c.sc x && (niceB x && ((e0 :: er).all notStar && (chkA c es (e0 :: er) && chkA c kes (kws.map (·.value)))))))
    | _ => false)
  | c, .bmeth m o es, e => (match methView e with
    | some (o', n, es', l) => decide (n = m.nm) && (l && (decide (es'.length < 29) && (plainBase o' && (es'.all notStar && (chkE c o o' && chkA c es es')))))
    | none => false)
  | c, .comp _ own t it ifs elt, e => (match e with
    | .ListComp elt' [⟨tg, iter, ifs', asy⟩] scope _ => (decide (asy = 0) && (blkC c.N c.sc scope (ownN c own) && (own.all fun i => decide (i < c.N.length)) && notSetB iter && t.slots.all fun i => decide (i ∈ own))) &&
        (chkI c it iter && (chkTg (inBlk c scope) t tg && (chkTL (inBlk c scope) ifs ifs' && (decide (ifs'.length ≤ 1) && chkE (inBlk c scope) elt elt'))))
    | _ => false)
  | c, .frz a, e => chkE c a e
  | c, .join a b, e => (match methView e with
    | some (o', n, [e'], l) => decide (n = "join") && (l && (plainBase o' && (notStar e' && (chkE c a o' && chkE c b e'))))
    | _ => false)
  | c, .fstr fs, e => (match e with
    | .JoinedStr es _ => decide (2 ≤ es.length) && chkF c fs es
    | _ => false)
def chkF : CC → FL → List Expr → Bool
  | _, .nil, es => es.isEmpty
  | c, .lit s r, es => (match es with
    | .Constant (.str x) _ _ :: es => decide (x = s) && chkF c r es
    | _ => false)
  | c, .val a r, es => (match es with
    | .FormattedValue e k none _ :: es => decide (k = -1) && (chkE c a e && chkF c r es)
    | _ => false)
def chkA : CC → EL → List Expr → Bool
  | _, .nil, es => es.isEmpty
  | c, .cons a r, es => (match es with
    | e :: es => notStar e && (chkE c a e && chkA c r es)
    | [] => false)
def chkO : CC → EO → Option Expr → Bool
  | _, .none, e => e.isNone
  | c, .some a, e => (match e with
    | some e => chkE c a e
    | none => false)
def chkT : CC → T → Expr → Bool
  | c, .val a, e => plainTest e && chkE c a e
  | c, .cmp o a b, e => (match e with
    | .Compare a' ops bs _ => (match ops, bs with
      | [op], [b'] => (copB o op && !behindInMarks op b') && (chkE c a a' && chkE c b b')
      | _, _ => false)
    | _ => false)
  | c, .chain o o' a b d, e => (match e with
    | .Compare a' ops bs _ => (match ops, bs with
      | [op, op'], [b', d'] => (copB o op && copB o' op' && !lastMarks [op, op'] [b', d']) && (chkE c a a' && (chkE c b b' && chkE c d d'))
      | _, _ => false)
    | _ => false)
  | c, .bool isAnd ts, e => (match e with
    | .BoolOp op es' _ => boolB op isAnd && chkTL c ts es'
    | _ => false)
  | c, .not t, e => (match e with
    | .UnaryOp .Not a' _ => chkT c t a'
    | _ => false)
def chkTL : CC → TL → List Expr → Bool
  | _, .nil, es => es.isEmpty
  | c, .cons a r, es => (match es with
    | e :: es => chkT c a e && chkTL c r es
    | [] => false)
def chkI : CC → It → Expr → Bool
  | c, .seq a, e => chkE c a e
  | c, .range1 a, e => (match callView e with
    | some (x, [a']) => decide (x = "range") && (freeB B c "range" && (notStar a' && chkE c a a'))
    | _ => false)
  | c, .range2 a b, e => (match callView e with
    | some (x, [a', b']) => decide (x = "range") && (freeB B c "range" && (notStar a' && (notStar b' && (chkE c a a' && chkE c b b'))))
    | _ => false)
def chkTg : CC → Tg → Expr → Bool
  | c, .name i, e => (match e with
    | .Name x _ => storeB c i x
    | _ => false)
  | c, .tup ts, e => (match e with
    | .Tuple es _ _ => es.all notStar && chkTgs c ts es
    | _ => false)
  | c, .sub o i, e => (match e with
    | .Subscript o' i' _ => notSlice i' && (chkE c o o' && chkE c i i')
    | _ => false)
def chkTgs : CC → TgL → List Expr → Bool
  | _, .nil, es => es.isEmpty
  | c, .cons t r, es => (match es with
    | e :: es => chkTg c t e && chkTgs c r es
    | [] => false)
end
def noPar (t v : Expr) : Bool := match t, v with
  | .Tuple _ _ _, .Tuple _ _ _ => false
  | .List _ _, .Tuple _ _ _ => false
  | _, _ => true
/-- whether a name takes the comprehension's own store -/
def swapB (sc : Scope) (y : Str) (py : Pos) (scope : Scope) (pos : Pos) : Bool := isLocal sc y && py.line == pos.line && !(scope.names.any fun (n, k) => n == y && (k == .local || k == .cell))
/-- no comprehension, or one that is stored plainly -/
def plainStore (sc : Scope) (t v : Expr) : Bool := match v with
  | .ListComp _ _ scope pos => (match t with
    | .Name y py => !swapB sc y py scope pos
    | _ => true)
  | v => notComp v
def ownStore (sc : Scope) (t v : Expr) : Bool := match v with
  | .ListComp _ _ scope pos => (match t with
    | .Name y py => isLocal sc y && swapB sc y py scope pos
    | _ => false)
  | _ => false
mutual
def chkS : CC → S → Stmt → Bool
  | c, .asg t a, s => (match s with
    | .Assign [tg] v _ => (notStar tg && noPar tg v) && (plainStore c.sc tg v && (chkTg G B c t tg && chkE G B c a v))
    | _ => false)
  | c, .setc j fz own t it ifs elt, s => (match s with
    | .Assign [tg] v _ => ownStore c.sc tg v && (decide (nameView tg = c.N[j]?) && chkE G B c (.comp fz own t it ifs elt) v)
    | _ => false)
  | c, .par i j a b, s => (match s with
    | .Assign [.Tuple [.Name x px, .Name y py] _ _] (.Tuple [a', b'] _ _) _ => false
    | _ => false)
  | c, .fld o k i a, s => (match s with
    | .Assign [.Attribute o' f _] v _ => fieldB G k i f && (notComp v && (chkE G B c o o' && chkE G B c a v))
    | _ => false)
  | c, .augsub o i op a, s => (match s with
    | .AugAssign (.Subscript o' i' _) op' v _ => (opB op op' && notSlice i') && (chkE G B c o o' && (chkE G B c i i' && chkE G B c a v))
    | _ => false)
  | c, .augvar i op a, s => (match s with
    | .AugAssign (.Name x _) op' v _ => (opB op op' && storeB c i x) && chkE G B c a v
    | _ => false)
  | c, .expr a, s => (match s with
    | .Expr v _ => notComp v && chkE G B c a v
    | _ => false)
  | c, .ret a, s => (match s with
    | .Return (some v) _ => chkE G B c a v
    | _ => false)
  | _, .retN, s => (match s with
    | .Return none _ => true
    | _ => false)
  | c, .ife t a b, s => (match s with
    | .If t' a' b' _ => chkT G B c t t' && (chkSs c a a' && chkSs c b b')
    | _ => false)
  | c, .for_ t it b, s => (match s with
    | .For tg iter body [] _ => notSetB iter && (chkI G B c it iter && (chkTg G B c t tg && chkSs c b body))
    | _ => false)
  | c, .while_ t b, s => (match s with
    | .While t' body [] _ => chkT G B c t t' && chkSs c b body
    | _ => false)
  | _, .never, _ => true
  | _, .pass, s => (match s with
    | .Pass _ => true
    | _ => false)
  | _, .brk, s => (match s with
    | .Break _ => true
    | _ => false)
  | _, .cont, s => (match s with
    | .Continue _ => true
    | _ => false)
def chkSs : CC → SL → List Stmt → Bool
  | _, .nil, ss => ss.isEmpty
  | c, .frz _ r, ss => chkSs c r ss
  | c, .cons s r, ss => (match ss with
    | st :: ss => chkS c s st && chkSs c r ss
    | [] => false)
end
end
end Z
set_option Elab.async false
set_option linter.all false
set_option maxRecDepth 100000
set_option maxHeartbeats 4000000
namespace Z
open PySem PySem.Spec PyProof.Rows L2
/-! ### the context -/
structure Tab (G : Cfg) (B : Tb) (Φ : Nat → ZSp) (lim : Nat) (P : Program) (w : World) (K : PySem.W.Frag) (mg : Str → Option Value) (base : Heap) : Prop where
  fr : ∀ x ∈ B.free, mg x = none
  cl : ∀ (c : Nat) (nm : Str) (lay : List Str), G.cls[c]? = some (nm, lay) → Cls K (He.ga K nm) ∧ lay.Nodup ∧ ∀ f ∈ lay, NoAttr K (He.ga K nm) f
  fn : ∀ (i : Nat) (fn : Fn), i < lim → B.fns[i]? = some fn → ∃ fd, (∀ F0, FnOk P w K mg base (L2.CX P w) (i + 1) (He.fAd K fn.at_) fd fn.ps (conc (G.at F0) K (Φ i))) ∧
    (fn.kwo = false → ∀ j, j ≤ fn.dfl.length → ∃ ds dvs, Vals dvs ds ∧ (∀ F, RVs G K F dvs ((fn.dfl.drop j).map DV.pv)) ∧ Binds K fd fn.ps ds) ∧ PySem.W.keepIn K (.ref (He.fAd K fn.at_)) = true ∧
    (fn.at_.2 = none → mg fn.at_.1 = some (.ref (He.fAd K fn.at_))) ∧ ∀ m, fn.at_.2 = some m → Meth K (He.ga K fn.at_.1) m (He.fAd K fn.at_)
  mks : ∀ (j : Nat) (mk : Mkr), B.mks[j]? = some mk → mk.f < lim → ∃ nm lay fn fd g dvs, G.cls[mk.c]? = some (nm, lay) ∧ B.fns[mk.f]? = some fn ∧ (∀ F0, FnOk P w K mg base (L2.CX P w) (mk.f + 1) (He.fAd K fn.at_) fd fn.ps (conc (G.at F0) K (Φ mk.f))) ∧
    Mk K (He.ga K nm) (He.fAd K fn.at_) ∧ mg nm = some (.ref (He.ga K nm)) ∧ KBn K fd fn.ps (mk.n + 1) mk.ks g (fun vs zs => vs ++ (zs ++ dvs)) ∧ ∀ F, RVs G K F dvs (mk.ds.map DV.pv)
structure Ok (G : Cfg) (B : Tb) (Φ : Nat → ZSp) (c : CC) (X : Cx) (R : ZR) : Prop where
  hN : X.N = c.N
  nd : c.N.Nodup
  sc : X.env.scope = c.sc
  kd : c.sc.kind = .function
  fn : ∀ x, X.fn x = c.fn x
  calm : X.calm = true
  tk : Takes X (liftW G X.K R)
  po : PassesOwn (model X.prog X.w) X.A X.env X.xe
  tab : Tab G B Φ c.lim X.prog X.w X.K X.mg X.base
  room : Room c.lim X.A
section
variable {G : Cfg} {B : Tb} {Φ : Nat → ZSp} {c : CC} {X : Cx} {R : ZR}
theorem Ok.units (ok : Ok G B Φ c X R) : X.A.units + 65 < cLine := by have := ok.room.un; omega
theorem vis_of {sc : Scope} {x : Str} (h : visB sc x = true) : Vis sc x := by
  unfold visB at h
  split at h
  · exact .inl (by assumption)
  · exact .inr (.inl (by assumption))
  · exact .inr (.inr (by assumption))
  · cases h
theorem loc_of {sc : Scope} {x : Str} (h : locB sc x = true) : Loc sc x := by
  unfold locB at h
  split at h
  · exact .inl (by assumption)
  · exact .inr (by assumption)
  · cases h
theorem local_of {sc : Scope} {x : Str} (h : isLocal sc x = true) : sc.names.lookup x = some .local := by
  unfold isLocal at h
  split at h
  · assumption
  · cases h
theorem gl_of {sc : Scope} {x : Str} (h : glB sc x = true) : sc.names.lookup x = some .globalImplicit := by
  unfold glB at h
  split at h
  · assumption
  · cases h
theorem nice_of {x : Str} (h : niceB x = true) : (x == ("__debug__" : Str)) = false ∧ (x == ("__classdict__" : Str)) = false ∧ x ≠ "__name__" := by
  unfold niceB at h
  simp only [Bool.and_eq_true, Bool.not_eq_true', decide_eq_false_iff_not] at h
  exact ⟨h.1.1, h.1.2, h.2⟩
theorem Ok.gl (ok : Ok G B Φ c X R) {x : Str} (h : glB c.sc x = true) : Gl X x := by
  show X.env.scope.names.lookup x = _
  rw [ok.sc]; exact gl_of h
theorem Ok.free (ok : Ok G B Φ c X R) {x : Str} (h : freeB B c x = true) : Gl X x ∧ X.mg x = none ∧ (x == ("__debug__" : Str)) = false ∧ x ≠ "__name__" := by
  unfold freeB at h
  simp only [Bool.and_eq_true, decide_eq_true_eq] at h
  have n := nice_of h.2
  exact ⟨ok.gl h.1.1, ok.tab.fr x h.1.2, n.1, n.2.2⟩
theorem op_of {o : BOp} {op : Operator} (h : opB o op = true) : op = o.op := by
  cases o <;> cases op <;> first | rfl | cases h
theorem cop_of {o : COp} {op : CmpOp} (h : copB o op = true) : op = o.op := by
  cases o <;> cases op <;> first | rfl | cases h
theorem lookup_zip : ∀ {lay : List Str} {vs : List V} {i : Nat} {f : Str} {u : V}, lay.Nodup → lay[i]? = some f → vs[i]? = some u → (lay.zip vs).lookup f = some u
  | [], _, _, _, _, _, h, _ => by simp at h
  | _ :: _, [], _, _, _, _, _, h => by simp at h
  | a :: lay, v :: vs, 0, f, u, _, h1, h2 => by
    simp at h1 h2
    subst h1 h2
    simp
  | a :: lay, v :: vs, i + 1, f, u, nd, h1, h2 => by
    obtain ⟨n1, n2⟩ := List.nodup_cons.mp nd
    have h1 : lay[i]? = some f := by simpa using h1
    have h2 : vs[i]? = some u := by simpa using h2
    have ne : (f == a) = false := beq_eq_false_iff_ne.mpr fun e => n1 (e ▸ List.mem_of_getElem? h1)
    rw [List.zip_cons_cons, List.lookup_cons, ne]
    exact lookup_zip n2 h1 h2
/-! ### names, constants -/
theorem z_var (ok : Ok G B Φ c X R) {i : Nat} {x : Str} {pos : Pos} (h1 : c.N[i]? = some x) (h2 : visB c.sc x = true) (h3 : niceB x = true) : PE X (.Name x pos) (liftE G X.K (semE Φ R (.var i))) := by
  have n := nice_of h3
  refine peI (pe_var (i := i) (by rw [ok.hN]; exact h1) (by rw [ok.sc]; exact vis_of h2) n.1 n.2.1) fun σV H Q ⟨F, σ, M, Q0, a, rs, z, t⟩ => ?_
  have z : (match σ[i]? with
    | some (some v) => Q0 v M
    | _ => False) := z
  cases q : σ[i]? with
  | none => rw [q] at z; exact z.elim
  | some o =>
    cases o with
    | none => rw [q] at z; exact z.elim
    | some p =>
      rw [q] at z
      obtain ⟨v, e, r⟩ := rs.at_ i p q
      exact ⟨v, e, t p M F H v (Same.refl F) a r z⟩
/-! ### displays -/
theorem z_tup {es : List Expr} {n : Nat} {zs : Zs → Mh → (List PV → Mh → Prop) → Prop} {k : Nat} {pos : Pos} (h : PA X es (liftA G X.K n zs)) (hn : n < 1000) : PE X (.Tuple es k pos) (liftE G X.K fun σ M Q => zs σ M fun vs M1 => Q (.tup vs) M1) :=
  peI (pe_tup h) fun σV H Q ⟨F, σ, M, Q0, a, rs, z, t⟩ => ⟨F, σ, M, _, a, rs, z, fun ps M1 F1 H1 vs s1 a1 r1 l1 q1 => ⟨by rw [l1, sizeLine_eq]; omega, fun p hp => by
    obtain ⟨A', s'⟩ := a1.newF (p := p) (o := .tup vs) hp
    exact t _ M1 _ _ _ (s1.trans s') A' (.tup upd_same (r1.mono s')) q1⟩⟩
theorem z_lst {es : List Expr} {n : Nat} {zs : Zs → Mh → (List PV → Mh → Prop) → Prop} {pos : Pos} (fz : Bool) (h : PA X es (liftA G X.K n zs)) (hn : n < 1000) : PE X (.List es pos) (liftE G X.K fun σ M Q => zs σ M fun vs M1 => (match fz with
    | true => Q (.lst vs) M1
    | false => ∀ p, M1 p = none → Q (.ref p) (put M1 p (.lst vs)))) :=
  peI (pe_lst h) fun σV H Q ⟨F, σ, M, Q0, a, rs, z, t⟩ => ⟨F, σ, M, _, a, rs, z, fun ps M1 F1 H1 vs s1 a1 r1 l1 q1 => ⟨by rw [l1, sizeLine_eq]; omega, fun p hp => by
    cases fz with
    | true =>
      obtain ⟨A', s'⟩ := a1.newF (p := p) (o := .lst vs) hp
      exact t _ M1 _ _ _ (s1.trans s') A' (.lst upd_same (r1.mono s')) q1
    | false => exact t _ _ F1 _ _ s1 (a1.newM (m := .lst ps) hp ⟨vs, rfl, r1⟩) (.ref p) (q1 p (a1.free hp).1)⟩⟩
/-! ### operators -/
variable {za zb zc : Zs → Mh → ZQ → Prop} {a b d : Expr} {pos : Pos}
theorem z_bin (o : BOp) (ha : PE X a (liftE G X.K za)) (hb : PE X b (liftE G X.K zb)) : PE X (.BinOp a o.op b pos) (liftE G X.K fun σ M Q => za σ M fun x M1 => zb σ M1 fun y M2 => zbin o x y M2 Q) := by
  obtain ⟨r, h1, h2⟩ := snd_bin (G := G) (X := X) o
  exact zbin2 (pe_op h1 ha hb) h2
theorem z_cat (ha : PE X a (liftE G X.K za)) (hb : PE X b (liftE G X.K zb)) : PE X (.BinOp a .Add b pos) (liftE G X.K fun σ M Q => za σ M fun x M1 => zb σ M1 fun y M2 => zcat x y M2 Q) :=
  zbin2 (pe_op op_cat ha hb) snd_cat
theorem z_cmp (hu : X.A.units + 65 < cLine) (o : COp) (ha : PE X a (liftE G X.K za)) (hb : PE X b (liftE G X.K zb)) (hm : behindInMarks o.op b = false) : PE X (.Compare a [o.op] [b] pos) (liftE G X.K fun σ M Q => za σ M fun x M1 => zb σ M1 fun y M2 => zcmp o x y M2 Q) := by
  obtain ⟨r, h1, h2⟩ := snd_cmp (G := G) (X := X) hu o
  exact zbin2 (pe_cmpR h1 ha hb hm) h2
theorem zt_cmp (hu : X.A.units + 65 < cLine) (o : COp) (ha : PE X a (liftE G X.K za)) (hb : PE X b (liftE G X.K zb)) (hm : behindInMarks o.op b = false) : PT X (.Compare a [o.op] [b] pos) (liftT G X.K fun σ M k => za σ M fun x M1 => zb σ M1 fun y M2 => zcmp o x y M2 fun z M3 => (match z with
    | .bl b => k b M3
    | _ => False)) := by
  obtain ⟨r, h1, h2⟩ := snd_cmp (G := G) (X := X) hu o
  refine ptI (pt_cmpR h1 ha hb hm) fun σV H k ⟨F, σ, M, k0, A, rs, z, t⟩ => ?_
  refine ⟨F, σ, M, _, A, rs, z, fun p M1 F1 H1 v s1 a1 r1 q1 => ⟨F1, σ, M1, _, a1, rs.mono s1, q1, fun q M2 F2 H2 w s2 a2 r2 q2 => ?_⟩⟩
  refine h2 F2 M2 H2 v w p q _ _ a2 (r1.mono s2) r2 q2 fun p3 M3 F3 H3 v3 s3 a3 r3 q3 => ?_
  cases r3 with
  | bl b => exact ⟨b, rfl, t b M3 F3 H3 ((s1.trans s2).trans s3) a3 q3⟩
  | _ => exact False.elim q3
theorem z_chain (hu : X.A.units + 65 < cLine) (o o' : COp) (ha : PE X a (liftE G X.K za)) (hb : PE X b (liftE G X.K zb)) (hc : PE X d (liftE G X.K zc)) (hm : lastMarks [o.op, o'.op] [b, d] = false) :
    PE X (.Compare a [o.op, o'.op] [b, d] pos) (liftE G X.K fun σ M Q => za σ M fun x M1 => zb σ M1 fun y M2 => zcmp o x y M2 fun z M3 => (match z with
    | .bl k => br k (zc σ M3 fun w M4 => zcmp o' y w M4 Q) (Q (.bl false) M3)
    | _ => False)) := by
  obtain ⟨r, h1, h2⟩ := snd_cmp (G := G) (X := X) hu o
  obtain ⟨r', h1', h2'⟩ := snd_cmp (G := G) (X := X) hu o'
  refine peI (pe_chain h1 h1' ha hb hc hm) fun σV H Q ⟨F, σ, M, Q0, A, rs, z, t⟩ => ?_
  refine ⟨F, σ, M, _, A, rs, z, fun p M1 F1 H1 v s1 a1 r1 q1 => ⟨F1, σ, M1, _, a1, rs.mono s1, q1, fun q M2 F2 H2 w s2 a2 r2 q2 => ?_⟩⟩
  refine h2 F2 M2 H2 v w p q _ _ a2 (r1.mono s2) r2 q2 fun p3 M3 F3 H3 v3 s3 a3 r3 q3 => ?_
  cases r3 with
  | bl k =>
    obtain ⟨b1, b2⟩ := br_elim q3
    refine ⟨k, rfl, ?_⟩
    cases k with
    | true =>
      rw [if_pos rfl]
      exact ⟨F3, σ, M3, _, a3, rs.mono ((s1.trans s2).trans s3), b1 rfl, fun p4 M4 F4 H4 v4 s4 a4 r4 q4 => h2' F4 M4 H4 w v4 q p4 _ _ a4 ((r2.mono s3).mono s4) r4 q4 (t.mono (((s1.trans s2).trans s3).trans s4))⟩
    | false =>
      rw [if_neg (by simp)]
      exact t _ M3 F3 H3 _ ((s1.trans s2).trans s3) a3 (.bl false) (b2 rfl)
  | _ => exact False.elim q3
theorem zt_chain (hu : X.A.units + 65 < cLine) (o o' : COp) (ha : PE X a (liftE G X.K za)) (hb : PE X b (liftE G X.K zb)) (hc : PE X d (liftE G X.K zc)) (hm : lastMarks [o.op, o'.op] [b, d] = false) :
    PT X (.Compare a [o.op, o'.op] [b, d] pos) (liftT G X.K fun σ M k => za σ M fun x M1 => zb σ M1 fun y M2 => zcmp o x y M2 fun z M3 => (match z with
    | .bl j => br j (zc σ M3 fun w M4 => zcmp o' y w M4 fun z M5 => (match z with
      | .bl b => k b M5
      | _ => False)) (k false M3)
    | _ => False)) := by
  obtain ⟨r, h1, h2⟩ := snd_cmp (G := G) (X := X) hu o
  obtain ⟨r', h1', h2'⟩ := snd_cmp (G := G) (X := X) hu o'
  refine ptI (pt_chain h1 h1' ha hb hc hm) fun σV H kk ⟨F, σ, M, k0, A, rs, z, t⟩ => ?_
  refine ⟨F, σ, M, _, A, rs, z, fun p M1 F1 H1 v s1 a1 r1 q1 => ⟨F1, σ, M1, _, a1, rs.mono s1, q1, fun q M2 F2 H2 w s2 a2 r2 q2 => ?_⟩⟩
  refine h2 F2 M2 H2 v w p q _ _ a2 (r1.mono s2) r2 q2 fun p3 M3 F3 H3 v3 s3 a3 r3 q3 => ?_
  cases r3 with
  | bl k =>
    obtain ⟨b1, b2⟩ := br_elim q3
    refine ⟨k, rfl, ?_⟩
    cases k with
    | true =>
      rw [if_pos rfl]
      refine ⟨F3, σ, M3, _, a3, rs.mono ((s1.trans s2).trans s3), b1 rfl, fun p4 M4 F4 H4 v4 s4 a4 r4 q4 => h2' F4 M4 H4 w v4 q p4 _ _ a4 ((r2.mono s3).mono s4) r4 q4 fun p5 M5 F5 H5 v5 s5 a5 r5 q5 => ?_⟩
      cases r5 with
      | bl b => exact ⟨b, rfl, t b M5 F5 H5 ((((s1.trans s2).trans s3).trans s4).trans s5) a5 q5⟩
      | _ => exact False.elim q5
    | false =>
      rw [if_neg (by simp)]
      exact ⟨false, rfl, t false M3 F3 H3 ((s1.trans s2).trans s3) a3 (b2 rfl)⟩
  | _ => exact False.elim q3
theorem z_not (ha : PE X a (liftE G X.K za)) : PE X (.UnaryOp .Not a pos) (liftE G X.K fun σ M Q => za σ M fun x M1 => (match x with
    | .bl b => Q (.bl (!b)) M1
    | _ => False)) :=
  peI (pe_not ha) fun σV H Q ⟨F, σ, M, Q0, A, rs, z, t⟩ => ⟨F, σ, M, _, A, rs, z, fun p M1 F1 H1 v s1 a1 r1 q1 => by
    cases r1 with
    | bl b => exact ⟨b, rfl, t _ M1 F1 H1 _ s1 a1 (.bl _) q1⟩
    | _ => exact False.elim q1⟩
theorem z_neg {i : Int} {k : Nat} {p2 : Pos} : PE X (.UnaryOp .USub (.Constant (.int i) k p2) pos) (liftE G X.K fun _ M Q => Q (.int (-i)) M) :=
  peI (pe_un un_neg pe_int) fun σV H Q ⟨F, σ, M, Q0, A, rs, z, t⟩ => ⟨i, rfl, t _ M F H _ (Same.refl F) A (.int _) z⟩
theorem z_idx (hu : X.A.units + 1 < cLine) (ha : PE X a (liftE G X.K za)) (hb : PE X b (liftE G X.K zb)) (hs : notSlice b = true) : PE X (.Subscript a b pos) (liftE G X.K fun σ M Q => za σ M fun x M1 => zb σ M1 fun y M2 => zidx x y M2 Q) := by
  obtain ⟨r, h1, h2⟩ := snd_idx (G := G) (X := X) hu
  exact zbin2 (pe_ix h1 ha hb (ix_of hs)) h2
theorem z_isin (ok : Ok G B Φ c X R) (t : Ty) {f n : Str} {p1 p2 : Pos} (hf : f = "isinstance") (h1 : freeB B c "isinstance" = true) (hn : n = Str.ofString (tyS t)) (h2 : freeB B c n = true) (hs : notStar a = true) (ha : PE X a (liftE G X.K za)) :
    PE X (.Call (.Name f p1) [a, .Name n p2] [] pos) (liftE G X.K fun σ M Q => za σ M fun x M1 => zisin t x M1 Q) := by
  subst hf
  obtain ⟨g1, m1, d1, n1⟩ := ok.free h1
  obtain ⟨g2, m2, d2, n2⟩ := ok.free h2
  have hbt : bootBuiltins n = some (.type (tyS t)) := by rw [hn]; cases t <;> decide +kernel
  have hty : PE X (.Name n p2) (tC (.ty (tyS t))) := pe_bltn g2 m2 hbt rfl n2 d2
  refine peI (pe_callB call_isi g1 m1 boot_isinstance (pa_cons ha (pa_cons hty pa_nil rfl) (star_of hs _ X.env)) n1 d1 (star_of hs _ X.env) (stars_of rfl pos X.env).1) fun σV H Q ⟨F, σ, M, Q0, A, rs, z, tq⟩ => ?_
  exact ⟨F, σ, M, _, A, rs, z, fun p M1 F1 H1 v s1 a1 r1 q1 => snd_isin t a1 r1 q1 (tq.mono s1)⟩
theorem z_attr (ok : Ok G B Φ c X R) {f nm : Str} {k i : Nat} {lay : List Str} (hc : G.cls[k]? = some (nm, lay)) (hl : lay[i]? = some f) (hb : plainBase a = true) (ha : PE X a (liftE G X.K za)) : PE X (.Attribute a f pos) (liftE G X.K fun σ M Q => za σ M fun x M1 => zattr k i x M1 Q) := by
  obtain ⟨cl, nd, na⟩ := ok.tab.cl k nm lay hc
  have hna := na f (List.mem_of_getElem? hl)
  refine peI (pe_fld ha (base_of hb f X.env)) fun σV H Q ⟨F, σ, M, Q0, A, rs, z, t⟩ => ⟨F, σ, M, _, A, rs, z, fun p M1 F1 H1 v s1 a1 r1 q1 => ?_⟩
  cases r1 with
  | @ins ad dx c' nm' lay' kvs vs fs e1 e2 e3 e5 e6 e4 =>
    obtain ⟨rfl, w, hw, q1⟩ := q1
    rw [hc] at e1
    cases e1
    obtain ⟨u, hu, ru⟩ := e4.get hw
    refine ⟨ad, _, dx, _, u, rfl, a1.sub _ _ e2, cl, hna, e5 i f u hl hu, t _ M1 F1 H1 u s1 a1 ru q1⟩
  | ref ad =>
    obtain ⟨fs, w, e, hw, q1⟩ := q1
    obtain ⟨_, o, ho, nm', lay', dx, kvs, e1, rfl, e3, e4, e5, e6⟩ := a1.mu ad _ e
    rw [hc] at e1
    cases e1
    obtain ⟨u, hu, ru⟩ := e6 i w f hw hl
    exact ⟨ad, _, dx, kvs, u, rfl, ho, cl, hna, hu, t _ M1 F1 H1 u s1 a1 ru q1⟩
  | _ => exact False.elim q1
end
end Z
set_option Elab.async false
set_option linter.all false
set_option maxRecDepth 100000
set_option maxHeartbeats 4000000
namespace Z
open PySem PySem.Spec PyProof.Rows L2
section
variable {G : Cfg} {B : Tb} {Φ : Nat → ZSp} {c : CC} {X : Cx} {R : ZR} {za zb zc : Zs → Mh → ZQ → Prop} {a b d e o : Expr} {es : List Expr} {pos apos : Pos} {n : Nat} {zs : Zs → Mh → (List PV → Mh → Prop) → Prop}
/-! ### arguments -/
theorem za_nil : PA X [] (liftA G X.K 0 fun _ M Q => Q [] M) := paI pa_nil fun σV H Q ⟨F, σ, M, Q0, A, rs, z, t⟩ => t [] M F H [] (Same.refl F) A .nil rfl z
theorem za_cons (hs : notStar e = true) (he : PE X e (liftE G X.K za)) (hr : PA X es (liftA G X.K n zs)) : PA X (e :: es) (liftA G X.K (n + 1) fun σ M Q => za σ M fun x M1 => zs σ M1 fun xs M2 => Q (x :: xs) M2) :=
  paI (pa_cons he hr (star_of hs es X.env)) fun σV H Q ⟨F, σ, M, Q0, A, rs, z, t⟩ => ⟨F, σ, M, _, A, rs, z, fun p M1 F1 H1 v s1 a1 r1 q1 => ⟨F1, σ, M1, _, a1, rs.mono s1, q1, fun ps M2 F2 H2 vs s2 a2 r2 l2 q2 =>
    t _ M2 F2 H2 _ (s1.trans s2) a2 (.cons (r1.mono s2) r2) (by rw [List.length_cons, l2]) q2⟩⟩
/-! ### and, or -/
theorem z_one {op : BoolOp} (h : PE X a (liftE G X.K za)) : PE X (.BoolOp op [a] pos) (liftE G X.K za) := pe_one h
theorem z_and {rest : List Expr} (ha : PE X a (liftE G X.K za)) (hb : PE X (.BoolOp .And (b :: rest) pos) (liftE G X.K zb)) : PE X (.BoolOp .And (a :: b :: rest) pos) (liftE G X.K fun σ M Q => za σ M fun x M1 => (match x with
      | .bl k => br k (zb σ M1 Q) (Q (.bl false) M1)
      | _ => False)) :=
  peI (pe_and ha hb) fun σV H Q ⟨F, σ, M, Q0, A, rs, z, t⟩ => ⟨F, σ, M, _, A, rs, z, fun p M1 F1 H1 v s1 a1 r1 q1 => by
    cases r1 with
    | bl k =>
      obtain ⟨b1, b2⟩ := br_elim q1
      refine ⟨k, rfl, ?_⟩
      cases k with
      | true => rw [if_pos rfl]; exact ⟨F1, σ, M1, Q0, a1, rs.mono s1, b1 rfl, t.mono s1⟩
      | false => rw [if_neg (by simp)]; exact t _ M1 F1 H1 _ s1 a1 (.bl _) (b2 rfl)
    | _ => exact False.elim q1⟩
theorem z_or {rest : List Expr} (ha : PE X a (liftE G X.K za)) (hb : PE X (.BoolOp .Or (b :: rest) pos) (liftE G X.K zb)) : PE X (.BoolOp .Or (a :: b :: rest) pos) (liftE G X.K fun σ M Q => za σ M fun x M1 => (match x with
      | .bl k => br k (Q (.bl true) M1) (zb σ M1 Q)
      | _ => False)) :=
  peI (pe_or ha hb) fun σV H Q ⟨F, σ, M, Q0, A, rs, z, t⟩ => ⟨F, σ, M, _, A, rs, z, fun p M1 F1 H1 v s1 a1 r1 q1 => by
    cases r1 with
    | bl k =>
      obtain ⟨b1, b2⟩ := br_elim q1
      refine ⟨k, rfl, ?_⟩
      cases k with
      | true => rw [if_pos rfl]; exact t _ M1 F1 H1 _ s1 a1 (.bl _) (b1 rfl)
      | false => rw [if_neg (by simp)]; exact ⟨F1, σ, M1, Q0, a1, rs.mono s1, b2 rfl, t.mono s1⟩
    | _ => exact False.elim q1⟩
/-! ### tests -/
variable {ta tb : Zs → Mh → (Bool → Mh → Prop) → Prop}
theorem zt_val (hp : plainTest e = true) (h : PE X e (liftE G X.K za)) : PT X e (liftT G X.K fun σ M k => za σ M fun x M1 => ztru x M1 fun b => k b M1) :=
  ptI (pt_truth h (test_of hp X.env)) fun σV H k ⟨F, σ, M, k0, A, rs, z, t⟩ => ⟨F, σ, M, _, A, rs, z, fun p M1 F1 H1 v s1 a1 r1 q1 => by
    obtain ⟨b, h1, h2⟩ := snd_tru a1 r1 q1
    exact ⟨b, h1, t b M1 F1 H1 s1 a1 h2⟩⟩
theorem zt_not (h : PT X a (liftT G X.K ta)) : PT X (.UnaryOp .Not a pos) (liftT G X.K fun σ M k => ta σ M fun b M1 => k (!b) M1) :=
  ptI (pt_not h) fun σV H k ⟨F, σ, M, k0, A, rs, z, t⟩ => ⟨F, σ, M, _, A, rs, z, fun b M1 F1 H1 s1 a1 q1 => t _ M1 F1 H1 s1 a1 q1⟩
theorem zw_and1 (h : PT X a (liftT G X.K ta)) : PW X (.BoolOp .And [a] pos) (liftT G X.K ta) := pw_and1 h
theorem zw_or1 (h : PT X a (liftT G X.K ta)) : PW X (.BoolOp .Or [a] pos) (liftT G X.K ta) := pw_or1 h
theorem zw_and {rest : List Expr} (ha : PT X a (liftT G X.K ta)) (hb : PW X (.BoolOp .And (b :: rest) pos) (liftT G X.K tb)) : PW X (.BoolOp .And (a :: b :: rest) pos) (liftT G X.K fun σ M k => ta σ M fun b M1 => br b (tb σ M1 k) (k false M1)) :=
  pwI (pw_and ha hb) fun σV H k ⟨F, σ, M, k0, A, rs, z, t⟩ => ⟨F, σ, M, _, A, rs, z, fun b M1 F1 H1 s1 a1 q1 => by
    obtain ⟨b1, b2⟩ := br_elim q1
    cases b with
    | true => rw [if_pos rfl]; exact ⟨F1, σ, M1, k0, a1, rs.mono s1, b1 rfl, fun b2 M2 F2 H2 s2 a2 q2 => t b2 M2 F2 H2 (s1.trans s2) a2 q2⟩
    | false => rw [if_neg (by simp)]; exact t _ M1 F1 H1 s1 a1 (b2 rfl)⟩
theorem zw_or {rest : List Expr} (ha : PT X a (liftT G X.K ta)) (hb : PW X (.BoolOp .Or (b :: rest) pos) (liftT G X.K tb)) : PW X (.BoolOp .Or (a :: b :: rest) pos) (liftT G X.K fun σ M k => ta σ M fun b M1 => br b (k true M1) (tb σ M1 k)) :=
  pwI (pw_or ha hb) fun σV H k ⟨F, σ, M, k0, A, rs, z, t⟩ => ⟨F, σ, M, _, A, rs, z, fun b M1 F1 H1 s1 a1 q1 => by
    obtain ⟨b1, b2⟩ := br_elim q1
    cases b with
    | true => rw [if_pos rfl]; exact t _ M1 F1 H1 s1 a1 (b1 rfl)
    | false => rw [if_neg (by simp)]; exact ⟨F1, σ, M1, k0, a1, rs.mono s1, b2 rfl, fun b2 M2 F2 H2 s2 a2 q2 => t b2 M2 F2 H2 (s1.trans s2) a2 q2⟩⟩
theorem z_ifx (ht : PT X d (liftT G X.K ta)) (ha : PE X a (liftE G X.K za)) (hb : PE X b (liftE G X.K zb)) : PE X (.IfExp d a b pos) (liftE G X.K fun σ M Q => ta σ M fun k M1 => br k (za σ M1 Q) (zb σ M1 Q)) :=
  peI (pe_ifExp ht ha hb) fun σV H Q ⟨F, σ, M, Q0, A, rs, z, t⟩ => ⟨F, σ, M, _, A, rs, z, fun k M1 F1 H1 s1 a1 q1 => by
    obtain ⟨b1, b2⟩ := br_elim q1
    cases k with
    | true => rw [if_pos rfl]; exact ⟨F1, σ, M1, Q0, a1, rs.mono s1, b1 rfl, t.mono s1⟩
    | false => rw [if_neg (by simp)]; exact ⟨F1, σ, M1, Q0, a1, rs.mono s1, b2 rfl, t.mono s1⟩⟩
/-! ### slices -/
def liftO (G : Cfg) (K : PySem.W.Frag) (z : Zs → Mh → (Option Int → Mh → Prop) → Prop) : TO := fun σV H Q => ∃ F σ M Q0, Ab G K F M H ∧ RS G K F σV σ ∧ z σ M Q0 ∧ ∀ o M' F' H', Same F F' → Ab G K F' M' H' → Q0 o M' → Q o H'
theorem zo_none : PO X none (liftO G X.K fun _ M Q => Q none M) := ⟨fun pins s σV H Q I ⟨F, σ, M, Q0, A, rs, z, t⟩ => po_none.run pins s σV H Q I (t none M F H (Same.refl F) A z)⟩
theorem zo_some (h : PE X e (liftE G X.K za)) : PO X (some e) (liftO G X.K fun σ M Q => za σ M fun x M1 => (match x with
    | .int i => Q (some i) M1
    | _ => False)) := ⟨fun pins s σV H Q I ⟨F, σ, M, Q0, A, rs, z, t⟩ => (po_some h).run pins s σV H Q I ⟨F, σ, M, _, A, rs, z, fun p M1 F1 H1 v s1 a1 r1 q1 => by
    cases r1 with
    | int i => exact ⟨i, rfl, t _ M1 F1 H1 s1 a1 q1⟩
    | _ => exact False.elim q1⟩⟩
theorem z_slice {lo hi : Option Expr} {zl zh : Zs → Mh → (Option Int → Mh → Prop) → Prop} {p2 : Pos} (ha : PE X a (liftE G X.K za)) (hl : PO X lo (liftO G X.K zl)) (hh : PO X hi (liftO G X.K zh)) :
    PE X (.Subscript a (.Slice lo hi none p2) pos) (liftE G X.K fun σ M Q => za σ M fun x M1 => zl σ M1 fun l M2 => zh σ M2 fun h M3 => zslice x l h M3 Q) := by
  obtain ⟨r, h1, h2⟩ := snd_slice (G := G) (X := X)
  exact peI (pe_slice h1 ha hl hh) fun σV H Q ⟨F, σ, M, Q0, A, rs, z, t⟩ => ⟨F, σ, M, _, A, rs, z, fun p M1 F1 H1 v s1 a1 r1 q1 => ⟨F1, σ, M1, _, a1, rs.mono s1, q1, fun l M2 F2 H2 s2 a2 q2 => ⟨F2, σ, M2, _, a2, (rs.mono s1).mono s2, q2, fun h M3 F3 H3 s3 a3 q3 =>
    h2 F3 M3 H3 v p l h Q0 Q a3 ((r1.mono s2).mono s3) q3 (t.mono ((s1.trans s2).trans s3))⟩⟩⟩
/-! ### calls -/
theorem conc_of {f : Nat} {F : Hp} {M : Mh} {H : Hp} {σV : L2.St} {σ : Zs} {vs : List V} {ps : List PV} {Q0 : ZQ} {Q : VK} {F0 : Hp} (A : Ab G X.K F M H) (rs : RS G X.K F σV σ) (r : RVs G X.K F vs ps) (h : Φ f ps M Q0 fun x M2 => R x σ M2) (t : TQ G X.K F Q0 Q) :
    conc G X.K (Φ f) vs H Q (WE (liftW G X.K R) σV) :=
  ⟨F, M, ps, Q0, _, A, r, h, t, fun x M' F' H' cls d s' a' xr q => liftW.at a' (rs.mono s') xr q⟩
theorem z_call (ok : Ok G B Φ c X R) {f : Nat} {fn : Fn} {x : Str} {p : Pos} {ds : List DV} (hf : B.fns[f]? = some fn) (hat : fn.at_ = (x, none)) (hlim : f < c.lim) (hds : fn.dfl.drop (fn.dfl.length - ds.length) = ds) (hkw : fn.kwo = false) (hg : glB c.sc x = true) (hn : niceB x = true)
    (hst : es.all notStar = true) (ha : PA X es (liftA G X.K n zs)) (h0 : es = [] → ∀ σ M Q, zs σ M Q → Q [] M) : PE X (.Call (.Name x p) es [] pos) (liftE G X.K fun σ M Q => zs σ M fun vs M1 => Φ f (vs ++ ds.map DV.pv) M1 Q fun x M2 => R x σ M2) := by
  obtain ⟨fd, ho, hb, hk, hm, _⟩ := ok.tab.fn f fn hlim hf
  have ho := ho G.F0
  obtain ⟨dvv, dvs, hv, hr, hbi⟩ := hb hkw (fn.dfl.length - ds.length) (Nat.sub_le _ _)
  rw [hds] at hr
  have hm := hm (by rw [hat])
  have e1 : fn.at_.1 = x := by rw [hat]
  rw [e1] at hm
  have room : Room (f + 1) X.A := ok.room.mono hlim
  cases es with
  | nil =>
    refine peI (callNone (p := p) (pos := pos) ho room (ok.gl hg) hm hk hbi hv ok.tk (nice_of hn).1) fun σV H Q ⟨F, σ, M, Q0, A, rs, z, t⟩ => ?_
    have z := h0 rfl _ _ _ z
    exact conc_of (F0 := F) A rs (RVs'.append .nil (hr F)) z t
  | cons e es =>
    refine peI (callAny (p := p) (pos := pos) ho room (ok.gl hg) hm hk hbi hv ok.tk ha hst (nice_of hn).1) fun σV H Q ⟨F, σ, M, Q0, A, rs, z, t⟩ => ?_
    exact ⟨F, σ, M, _, A, rs, z, fun ps M1 F1 H1 vs s1 a1 r1 l1 q1 => conc_of (F0 := F) a1 (rs.mono s1) (r1.append (hr F1)) q1 (t.mono s1)⟩
theorem z_meth (ok : Ok G B Φ c X R) {f k : Nat} {fn : Fn} {m nm : Str} {lay : List Str} {ds : List DV} (hf : B.fns[f]? = some fn) (hc : G.cls[k]? = some (nm, lay)) (hat : fn.at_ = (nm, some m)) (hml : m ∉ lay) (hlim : f < c.lim) (hds : fn.dfl.drop (fn.dfl.length - ds.length) = ds) (hkw : fn.kwo = false)
    (hl : (apos.endLine == pos.line) = true) (hn : es.length < 30) (hbase : plainBase o = true) (hst : es.all notStar = true) (he : PE X o (liftE G X.K za)) (ha : PA X es (liftA G X.K n zs)) (h0 : es = [] → ∀ σ M Q, zs σ M Q → Q [] M) :
    PE X (.Call (.Attribute o m apos) es [] pos) (liftE G X.K fun σ M Q => za σ M fun x M1 => zself k x M1 (zs σ M1 fun vs M2 => Φ f (x :: (vs ++ ds.map DV.pv)) M2 Q fun x M2 => R x σ M2)) := by
  obtain ⟨fd, ho, hb, hk, _, hm⟩ := ok.tab.fn f fn hlim hf
  have ho := ho G.F0
  obtain ⟨dvv, dvs, hv, hr, hbi⟩ := hb hkw (fn.dfl.length - ds.length) (Nat.sub_le _ _)
  obtain ⟨cl, nd, _⟩ := ok.tab.cl k nm lay hc
  rw [hds] at hr
  have hm := hm m (by rw [hat])
  have e1 : fn.at_.1 = nm := by rw [hat]
  rw [e1] at hm
  have room : Room (f + 1) X.A := ok.room.mono hlim
  have self : ∀ {F : Hp} {M : Mh} {H : Hp} {x : V} {p : PV} {P : Prop}, Ab G X.K F M H → RV G X.K F x p → zself k p M P → (∃ ad dx fs, x = .ref ad ∧ H ad = some (.ins (He.ga X.K nm) dx fs) ∧ fs.lookup m = none) ∧ P := fun {F M H x p P} A r h => by
    cases r with
    | @ins ad dx c' nm' lay' kvs vs fs e1 e2 e3 e5 e6 e4 =>
      obtain ⟨rfl, h⟩ := h
      rw [hc] at e1
      cases e1
      refine ⟨⟨ad, dx, _, rfl, A.sub _ _ e2, ?_⟩, h⟩
      cases q : kvs.lookup m with
      | none => rfl
      | some v => exact absurd (e6 m (by rw [q]; simp)) hml
    | ref ad =>
      obtain ⟨⟨fs, e⟩, h⟩ := h
      obtain ⟨_, o, ho, nm', lay', dx, kvs, e1, rfl, e3, e4, e5, e6⟩ := A.mu ad _ e
      rw [hc] at e1
      cases e1
      refine ⟨⟨ad, dx, kvs, rfl, ho, ?_⟩, h⟩
      cases q : kvs.lookup m with
      | none => rfl
      | some v => exact absurd (e5 m (by rw [q]; simp)) hml
    | _ => exact False.elim h
  cases es with
  | nil =>
    refine peI (methNone (pos := pos) he cl hm ho room hbi hv ok.tk hl hbase) fun σV H Q ⟨F, σ, M, Q0, A, rs, z, t⟩ => ⟨F, σ, M, _, A, rs, z, fun p M1 F1 H1 v s1 a1 r1 q1 => ?_⟩
    obtain ⟨⟨ad, dx, fs, rfl, e1, e2⟩, q1⟩ := self a1 r1 q1
    exact ⟨ad, dx, fs, rfl, e1, e2, conc_of (F0 := F) a1 (rs.mono s1) (.cons r1 (RVs'.append .nil (hr F1))) (h0 rfl _ _ _ q1) (t.mono s1)⟩
  | cons e es =>
    refine peI (methAny (pos := pos) he cl hm ho room hbi hv ok.tk ha hst hn hl hbase) fun σV H Q ⟨F, σ, M, Q0, A, rs, z, t⟩ => ⟨F, σ, M, _, A, rs, z, fun p M1 F1 H1 v s1 a1 r1 q1 => ?_⟩
    obtain ⟨⟨ad, dx, fs, rfl, e1, e2⟩, q1⟩ := self a1 r1 q1
    exact ⟨ad, dx, fs, rfl, e1, e2, F1, σ, M1, _, a1, rs.mono s1, q1, fun ps M2 F2 H2 vs s2 a2 r2 l2 q2 => conc_of (F0 := F) a2 ((rs.mono s1).mono s2) (.cons (r1.mono s2) (r2.append (hr F2))) q2 (t.mono (s1.trans s2))⟩
/-! ### built-ins -/
theorem z_bcall (ok : Ok G B Φ c X R) (bf : Bf) (hp : bf.plain = true) {x : Str} {p : Pos} (hx : x = bf.nm) (hf : freeB B c x = true) (hst : (e :: es).all notStar = true) (ha : PA X (e :: es) (liftA G X.K n zs)) :
    PE X (.Call (.Name x p) (e :: es) [] pos) (liftE G X.K fun σ M Q => zs σ M fun vs M1 => zbcall bf vs M1 Q) := by
  subst hx
  obtain ⟨g1, m1, d1, n1⟩ := ok.free hf
  obtain ⟨r, h1, h2⟩ := snd_bcall (G := G) (X := X) ok.calm bf hp
  obtain ⟨s1, s2⟩ := Bool.and_eq_true_iff.mp (show (notStar e && es.all notStar) = true from hst)
  have main : PE X (.Call (.Name bf.nm p) (e :: es) [] pos) (tCB r (liftA G X.K n zs)) := by
    have hbt := bf.boot
    cases hv : bf.val with
    | builtin id => rw [hv] at hbt h1; exact pe_callB h1 g1 m1 hbt ha n1 d1 (star_of s1 es X.env) (stars_of s2 pos X.env).1
    | type id => rw [hv] at hbt h1; exact pe_callTy h1 g1 m1 hbt ha n1 d1 (star_of s1 es X.env) (stars_of s2 pos X.env).1
    | _ => cases bf <;> cases hv
  exact zargs main fun F M H xs ps Q0 Q A r1 _ q t => h2 F M H xs ps Q0 Q A r1 q t
theorem z_bmeth (m : Bm) {nmm : Str} (hm : nmm = m.nm) (hl : (apos.endLine == pos.line) = true) (hn : es.length < 29) (hbase : plainBase o = true) (hst : es.all notStar = true) (he : PE X o (liftE G X.K za)) (ha : PA X es (liftA G X.K n zs)) (h0 : es = [] → ∀ σ M Q, zs σ M Q → Q [] M) :
    PE X (.Call (.Attribute o nmm apos) es [] pos) (liftE G X.K fun σ M Q => za σ M fun x M1 => zisl x M1 (zs σ M1 fun vs M2 => zbmeth m x vs M2 Q)) := by
  subst hm
  obtain ⟨id, r, sl, ty, mt, h2⟩ := snd_bm (G := G) (X := X) m
  have isl : ∀ {F : Hp} {M : Mh} {H : Hp} {x : V} {p : PV} {P : Prop}, Ab G X.K F M H → RV G X.K F x p → zisl p M P → tyV X.K "list" x H ∧ P := fun {F M H x p P} A q h => by
    cases q with
    | ref ad =>
      obtain ⟨⟨xs, e⟩, h⟩ := h
      obtain ⟨_, o, ho, vs, rfl, _⟩ := A.mu ad _ e
      exact ⟨.inl ⟨rfl, vs, SqL.of ho⟩, h⟩
    | _ => exact False.elim h
  cases es with
  | nil =>
    refine peI (pe_bm0 PySem.F.plainAttrs_list sl ty mt he (base_of hbase _ X.env) hl) fun σV H Q ⟨F, σ, M, Q0, A, rs, z, t⟩ => ⟨F, σ, M, _, A, rs, z, fun p M1 F1 H1 v s1 a1 r1 q1 => ?_⟩
    obtain ⟨l, q1⟩ := isl a1 r1 q1
    exact ⟨l, h2 F1 M1 H1 v p [] [] Q0 Q a1 r1 .nil (h0 rfl _ _ _ q1) (t.mono s1)⟩
  | cons e es =>
    obtain ⟨s1, s2⟩ := Bool.and_eq_true_iff.mp (show (notStar e && es.all notStar) = true from hst)
    have few : ((backTo pos (starEach (e :: es) X.env)).all (fun x => !x.1) && (backToKw pos (keywordEach [] X.env)).all (fun x => x.1.isSome) && decide ((e :: es).length + ([] : List Keyword).length + (if ([] : List Keyword).isEmpty then 0 else 1) < 30)) = true := by
      rw [(stars_of hst pos X.env).2]
      have : decide ((e :: es).length + ([] : List Keyword).length + (if ([] : List Keyword).isEmpty then 0 else 1) < 30) = true := decide_eq_true (by show (e :: es).length + 0 + 0 < 30; omega)
      rw [this]
      rfl
    refine peI (pe_bm PySem.F.plainAttrs_list sl ty mt he ha (base_of hbase _ X.env) few hl (star_of s1 es X.env) (stars_of s2 pos X.env).1) fun σV H Q ⟨F, σ, M, Q0, A, rs, z, t⟩ => ⟨F, σ, M, _, A, rs, z, fun p M1 F1 H1 v s1 a1 r1 q1 => ?_⟩
    obtain ⟨l, q1⟩ := isl a1 r1 q1
    exact ⟨l, F1, σ, M1, _, a1, rs.mono s1, q1, fun ps M2 F2 H2 vs s2 a2 r2 l2 q2 => h2 F2 M2 H2 v p vs ps Q0 Q a2 (r1.mono s2) r2 q2 (t.mono (s1.trans s2))⟩
end
end Z
set_option Elab.async false
set_option linter.all false
set_option maxRecDepth 100000
set_option maxHeartbeats 4000000
namespace Z
open PySem PySem.Spec PyProof.Rows L2
/-! ### targets -/
section
variable (G : Cfg) (K : PySem.W.Frag)
structure Agree (slots : List Nat) (σV σV' : L2.St) : Prop where
  at_ : ∀ j, j ∉ slots → σV'[j]? = σV[j]?
  len : σV'.length = σV.length
abbrev TK (F : Hp) (slots : List Nat) (σV : L2.St) (k0 : Zs → Mh → Prop) (Q : L2.St → Hp → Prop) : Prop := ∀ σ' M' F' H' σV', Same F F' → Ab G K F' M' H' → RS G K F' σV' σ' → Agree slots σV σV' → k0 σ' M' → Q σV' H'
def liftTg (slots : List Nat) (z : PV → Zs → Mh → (Zs → Mh → Prop) → Prop) : TG := fun v σV H Q => ∃ F p σ M k0, Ab G K F M H ∧ RS G K F σV σ ∧ RV G K F v p ∧ z p σ M k0 ∧ TK G K F slots σV k0 Q
def liftTgs (slots : List Nat) (z : List PV → Zs → Mh → (Zs → Mh → Prop) → Prop) : TGs := fun vs σV H Q => ∃ F ps σ M k0, Ab G K F M H ∧ RS G K F σV σ ∧ RVs G K F vs ps ∧ z ps σ M k0 ∧ TK G K F slots σV k0 Q
end
theorem pgI {X : Cx} {e : Expr} {t t' : TG} (h : PG X e t) (i : ∀ v σ H Q, t' v σ H Q → t v σ H Q) : PG X e t' := ⟨fun pins s σ H v u Q I r q => h.run pins s σ H v u Q I r (i v σ H Q q)⟩
theorem pgsI {X : Cx} {e : List Expr} {t t' : TGs} (h : PGs X e t) (i : ∀ v σ H Q, t' v σ H Q → t v σ H Q) : PGs X e t' := ⟨fun pins s σ H v u Q I r q => h.run pins s σ H v u Q I r (i v σ H Q q)⟩
theorem Agree.trans {s1 s2 : List Nat} {σ1 σ2 σ3 : L2.St} (a : Agree s1 σ1 σ2) (b : Agree s2 σ2 σ3) : Agree (s1 ++ s2) σ1 σ3 :=
  ⟨fun j hj => (b.at_ j fun z => hj (List.mem_append_right _ z)).trans (a.at_ j fun z => hj (List.mem_append_left _ z)), b.len.trans a.len⟩
theorem Agree.set (σ : L2.St) (i : Nat) (v : Option V) : Agree [i] σ (σ.set i v) := ⟨fun j hj => List.getElem?_set_ne (fun e => hj (by simp [e])), List.length_set⟩
theorem Agree.refl (σ : L2.St) (s : List Nat) : Agree s σ σ := ⟨fun _ _ => rfl, rfl⟩
/-- outside of the wiped slots nothing has changed -/
theorem wipe_at (σ : L2.St) : ∀ (vs : List Nat) (j : Nat), (wipe σ vs)[j]? = if j ∈ vs ∧ j < σ.length then some none else σ[j]?
  | [], j => by simp [wipe]
  | v :: vs, j => by
    unfold wipe
    have ih := wipe_at σ vs j
    by_cases e : v = j
    · subst e
      by_cases h : v < σ.length
      · rw [List.getElem?_set_self (by rw [wipe_length]; exact h), if_pos ⟨List.mem_cons_self, h⟩]
      · rw [List.getElem?_eq_none (by rw [List.length_set, wipe_length]; omega), if_neg (fun q => h q.2), List.getElem?_eq_none (by omega)]
    · rw [List.getElem?_set_ne e, ih]
      by_cases h : j ∈ vs ∧ j < σ.length
      · rw [if_pos h, if_pos ⟨List.mem_cons_of_mem _ h.1, h.2⟩]
      · rw [if_neg h, if_neg (fun q => h ⟨(List.mem_cons.mp q.1).resolve_left (Ne.symm e), q.2⟩)]
theorem wipe_agree {σV σV' : L2.St} {slots own : List Nat} (h : Agree slots (wipe σV own) σV') (hs : ∀ i ∈ slots, i ∈ own) : wipe σV' own = wipe σV own := by
  refine List.ext_getElem? fun j => ?_
  rw [wipe_at, wipe_at]
  have hl : σV'.length = σV.length := h.len.trans (wipe_length _ _)
  by_cases hj : j ∈ own ∧ j < σV.length
  · rw [if_pos (by rw [hl]; exact hj), if_pos hj]
  · rw [if_neg (by rw [hl]; exact hj), if_neg hj]
    by_cases ho : j ∈ own
    · have : ¬ j < σV.length := fun q => hj ⟨ho, q⟩
      rw [List.getElem?_eq_none (by omega), List.getElem?_eq_none (by omega)]
    · rw [h.at_ j fun z => ho (hs j z), wipe_at, if_neg hj]
section
variable {G : Cfg} {B : Tb} {Φ : Nat → ZSp} {c : CC} {X : Cx} {R : ZR} {za zb zc : Zs → Mh → ZQ → Prop} {a b d e o : Expr} {es : List Expr} {pos apos : Pos}
theorem zg_name (ok : Ok G B Φ c X R) {i : Nat} {x : Str} (h : storeB c i x = true) : PG X (.Name x pos) (liftTg G X.K [i] fun v σ M k => k (σ.set i (some v)) M) := by
  unfold storeB at h
  simp only [Bool.and_eq_true, decide_eq_true_eq, Bool.or_eq_true] at h
  obtain ⟨⟨h1, h2⟩, h3⟩ := h
  refine pgI (pg_name (i := i) (by rw [ok.hN]; exact ok.nd) (by rw [ok.hN]; exact h1) (by rw [ok.sc]; exact loc_of h2) ?_) fun v σV H Q ⟨F, p, σ, M, k0, A, rs, r, z, t⟩ => ?_
  · rcases h3 with h3 | h3
    · exact .inl (by rw [ok.fn]; exact h3)
    · exact .inr (by rw [ok.sc]; exact local_of h3)
  · exact t _ M F H _ (Same.refl F) A (rs.set r) (Agree.set _ _ _) z
theorem zgs_nil : PGs X [] (liftTgs G X.K [] fun vs σ M k => vs = [] ∧ k σ M) := pgsI pgs_nil fun v σV H Q ⟨F, ps, σ, M, k0, A, rs, r, z, t⟩ => by
  obtain ⟨rfl, z⟩ := z
  cases r
  exact ⟨rfl, t _ M F H _ (Same.refl F) A rs (Agree.refl _ _) z⟩
theorem assign_star {e : Expr} (h : notStar e = true) (es : List Expr) (env : Env) : (assignEach (e :: es) env).map (·.2) = assign e env :: (assignEach es env).map (·.2) ∧ (assignEach (e :: es) env).length = (assignEach es env).length + 1 ∧
    ((assignEach es env).findIdx? (·.1) = none → (assignEach (e :: es) env).findIdx? (·.1) = none) := by
  cases e <;> first | exact ⟨rfl, rfl, fun q => by (show List.findIdx? _ (_ :: _) = none); rw [List.findIdx?_cons]; simp [q]⟩ | cases h
theorem assign_stars : ∀ {es : List Expr} (h : es.all notStar = true) (env : Env), (assignEach es env).length = es.length ∧ (assignEach es env).findIdx? (·.1) = none
  | [], _, _ => ⟨rfl, rfl⟩
  | e :: es, h, env => by
    obtain ⟨h1, h2⟩ := Bool.and_eq_true_iff.mp (show (notStar e && es.all notStar) = true from h)
    obtain ⟨i1, i2⟩ := assign_stars h2 env
    obtain ⟨_, j2, j3⟩ := assign_star h1 es env
    exact ⟨by rw [j2, i1]; rfl, j3 i2⟩
theorem zgs_cons {s1 s2 : List Nat} {z1 : PV → Zs → Mh → (Zs → Mh → Prop) → Prop} {z2 : List PV → Zs → Mh → (Zs → Mh → Prop) → Prop} (hn : notStar e = true) (h1 : PG X e (liftTg G X.K s1 z1)) (h2 : PGs X es (liftTgs G X.K s2 z2)) :
    PGs X (e :: es) (liftTgs G X.K (s1 ++ s2) fun vs σ M k => (match vs with
    | v :: us => z1 v σ M fun σ1 M1 => z2 us σ1 M1 k
    | [] => False)) := pgsI (pgs_cons h1 h2 (assign_star hn es X.env).1) fun vs σV H Q ⟨F, ps, σ, M, k0, A, rs, r, z, t⟩ => by
  cases r with
  | nil => exact False.elim z
  | @cons v p vs ps r rr =>
    refine ⟨v, vs, rfl, F, p, σ, M, _, A, rs, r, z, fun σ1 M1 F1 H1 σV1 s1 a1 r1 g1 q1 => ?_⟩
    exact ⟨F1, ps, σ1, M1, _, a1, r1, rr.mono s1, q1, fun σ2 M2 F2 H2 σV2 s2 a2 r2 g2 q2 => t σ2 M2 F2 H2 σV2 (s1.trans s2) a2 r2 (g1.trans g2) q2⟩
theorem zg_tup (hc : X.calm = true) {slots : List Nat} {zs : List PV → Zs → Mh → (Zs → Mh → Prop) → Prop} {k : Nat} (hs : es.all notStar = true) {len : Nat} (hl : len = es.length) (h : PGs X es (liftTgs G X.K slots zs)) :
    PG X (.Tuple es k pos) (liftTg G X.K slots fun v σ M k => (match v with
    | .tup xs => xs.length = len ∧ zs xs σ M k
    | _ => False)) := pgI (pg_tup hc h (assign_stars hs X.env).1 (assign_stars hs X.env).2) fun v σV H Q ⟨F, p, σ, M, k0, A, rs, r, z, t⟩ => by
  cases r with
  | tup hq rr => exact ⟨_, _, rfl, SqT.of (A.sub _ _ hq), by rw [rr.length, z.1]; exact hl, F, _, σ, M, k0, A, rs, rr, z.2, t⟩
  | _ => exact False.elim z
theorem assign_sub {o i : Expr} {pos : Pos} {env : Env} (h : notSlice i = true) (v : Value) : assign (.Subscript o i pos) env v = (do
      let ov ← holding [v] (eval o env)
      let iv ← holding [v, ov] (eval i env)
      standAt pos
      holding [v, ov, iv] (setItem ov iv v)
      release [v, ov, iv] []) := by
  cases i <;> first | rfl | cases h
theorem zg_sub (hns : notSlice b = true) (ho : PE X o (liftE G X.K za)) (hi : PE X b (liftE G X.K zb)) : PG X (.Subscript o b pos) (liftTg G X.K [] fun v σ M k => za σ M fun x M1 => zb σ M1 fun y M2 => (match x, y with
    | .ref p, .int j => ∃ xs n, M2 p = some (.lst xs) ∧ place xs.length j = some n ∧ k σ (put M2 p (.lst (xs.set n v)))
    | _, _ => False)) := pgI (pg_sub ho hi set_list (assign_sub hns)) fun v σV H Q ⟨F, p, σ, M, k0, A, rs, r, z, t⟩ => by
  refine ⟨F, σ, M, _, A, rs, z, fun x M1 F1 H1 vx s1 a1 r1 q1 => ⟨F1, σ, M1, _, a1, rs.mono s1, q1, fun y M2 F2 H2 vy s2 a2 r2 q2 => ?_⟩⟩
  cases r1 with
  | ref ad =>
    cases r2 with
    | int j =>
      obtain ⟨xs, n, e, hp, q2⟩ := q2
      obtain ⟨_, o, ho, vs, rfl, rv⟩ := a2.mu ad _ e
      rw [place_ix] at hp
      have rr := (r.mono s1).mono s2
      exact ⟨ad, vs, j, n, rfl, rfl, ho, by rw [rv.length]; exact hp, t _ _ F2 _ _ (s1.trans s2) (a2.write (m := .lst (xs.set n p)) e ⟨_, rfl, rv.set rr n⟩) ((rs.mono s1).mono s2) (Agree.refl _ _) q2⟩
    | _ => exact False.elim q2
  | _ => cases r2 <;> exact False.elim q2
/-! ### what is walked -/
structure WalkOk (G : Cfg) (K : PySem.W.Frag) (F1 : Hp) (J : L2.It) (still : Mh → Prop) (xs : List PV) : Prop where
  go : ∀ i F M H x, Same F1 F → Ab G K F M H → still M → xs[i]? = some x → J.go i H
  yld : ∀ i F M H v H' x, Same F1 F → Ab G K F M H → still M → xs[i]? = some x → J.yld i H v H' → ∃ F', Same F F' ∧ Ab G K F' M H' ∧ RV G K F' v x
  stop : ∀ i F M H, Same F1 F → Ab G K F M H → still M → xs.length ≤ i → J.stop i H
def liftI (G : Cfg) (K : PySem.W.Frag) (z : Zs → Mh → ((Mh → Prop) → List PV → Mh → Prop) → Prop) : TI := fun σV H T => ∃ F σ M k0, Ab G K F M H ∧ RS G K F σV σ ∧ z σ M k0 ∧ ∀ still xs M1 F1 H1 J, Same F F1 → Ab G K F1 M1 H1 → WalkOk G K F1 J still xs → k0 still xs M1 → T J H1
theorem piI {X : Cx} {tg e : Expr} {t t' : TI} (h : PI X tg e t) (i : ∀ σ H Q, t' σ H Q → t σ H Q) : PI X tg e t' := ⟨fun pins s σ H T I q => h.run pins s σ H T I (i σ H T q)⟩
theorem walk_range {K : PySem.W.Frag} {F : Hp} (lo : Int) (n : Nat) : WalkOk G K F (Itr lo n) (fun _ => True) (rangeL lo n) := by
  have hl : (rangeL lo n).length = n := by unfold rangeL; rw [List.length_map, List.length_range]
  refine ⟨fun i F M H x _ _ _ h => ?_, fun i F M H v H' x _ A _ h y => ?_, fun i F M H _ _ _ h => ?_⟩
  · show i < n
    have := (List.getElem?_eq_some_iff.mp h).1
    omega
  · obtain ⟨rfl, rfl⟩ := y
    have hi := (List.getElem?_eq_some_iff.mp h).1
    unfold rangeL at h
    rw [List.getElem?_map, List.getElem?_range (by omega)] at h
    cases h
    exact ⟨F, Same.refl F, A, .int _⟩
  · show n ≤ i
    omega
theorem zi_range1 (ok : Ok G B Φ c X R) {tg : Expr} {x : Str} {p : Pos} (hx : x = "range") (h : freeB B c "range" = true) (hs : notStar a = true) (ha : PE X a (liftE G X.K za)) : PI X tg (.Call (.Name x p) [a] [] pos) (liftI G X.K fun σ M k => za σ M fun x M1 => (match x with
    | .int j => (-(2 ^ 62) ≤ j ∧ j < 2 ^ 62) ∧ k (fun _ => True) (rangeL 0 j.toNat) M1
    | _ => False)) := by
  subst hx
  obtain ⟨g1, m1, _, _⟩ := ok.free h
  refine piI (pi_range1 g1 m1 (pa_cons ha pa_nil (star_of hs _ _)) (star_of hs _ _)) fun σV H T ⟨F, σ, M, k0, A, rs, z, t⟩ => ⟨F, σ, M, _, A, rs, z, fun p M1 F1 H1 v s1 a1 r1 q1 => ?_⟩
  cases r1 with
  | int j => exact ⟨j, rfl, q1.1.1, q1.1.2, t _ _ M1 F1 H1 _ s1 a1 (walk_range 0 j.toNat) q1.2⟩
  | _ => exact False.elim q1
theorem zi_range2 (ok : Ok G B Φ c X R) {tg : Expr} {x : Str} {p : Pos} (hx : x = "range") (h : freeB B c "range" = true) (hs : notStar a = true) (hs' : notStar b = true) (ha : PE X a (liftE G X.K za)) (hb : PE X b (liftE G X.K zb)) : PI X tg (.Call (.Name x p) [a, b] [] pos) (liftI G X.K fun σ M k => za σ M fun x M1 => zb σ M1 fun y M2 => (match x, y with
    | .int i, .int j => (-(2 ^ 62) ≤ i ∧ i < 2 ^ 62 ∧ -(2 ^ 62) ≤ j ∧ j < 2 ^ 62) ∧ k (fun _ => True) (rangeL i (j - i).toNat) M2
    | _, _ => False)) := by
  subst hx
  obtain ⟨g1, m1, _, _⟩ := ok.free h
  have e2 : starEach [b] X.env = [(false, eval b X.env)] := star_of hs' _ _
  have e1 : starEach [a, b] X.env = [(false, eval a X.env), (false, eval b X.env)] := by rw [star_of hs, e2]
  refine piI (pi_range2 g1 m1 (pa_cons ha (pa_cons hb pa_nil (star_of hs' _ _)) (star_of hs _ _)) e1 e2) fun σV H T ⟨F, σ, M, k0, A, rs, z, t⟩ => ⟨F, σ, M, _, A, rs, z, fun p M1 F1 H1 v s1 a1 r1 q1 => ⟨F1, σ, M1, _, a1, rs.mono s1, q1, fun q M2 F2 H2 w s2 a2 r2 q2 => ?_⟩⟩
  cases r1 with
  | int i =>
    cases r2 with
    | int j => exact ⟨i, j, rfl, q2.1, t _ _ M2 F2 H2 _ (s1.trans s2) a2 (walk_range i _) q2.2⟩
    | _ => exact False.elim q2
  | _ => cases r2 <;> exact False.elim q2
/-- a list or a tuple -/
def iSeq (K : PySem.W.Frag) (tl : TE) : TI := fun σ H T => tl σ H fun x H1 => ∃ a, x = .ref a ∧ (((∃ xs, SqL K H1 a xs) ∧ T (Itl K a) H1) ∨ ((∃ xs, SqT K H1 a xs) ∧ T (Itt K a) H1))
theorem pi_seq {tg l : Expr} {tl : TE} (hl : PE X l tl) : PI X tg l (iSeq X.K tl) := by
  refine ⟨fun pins s σ H T I h => ?_⟩
  refine thn (hl.run pins s σ H _ I h) fun v s1 z => ?_
  obtain ⟨x, H1, I1, r1, ad, rfl, q1⟩ := z
  cases r1
  rcases q1 with ⟨⟨xs, hq⟩, q⟩ | ⟨⟨xs, hq⟩, q⟩
  · obtain ⟨its, rv, pl, hz⟩ := I1.list hq
    refine wpAny_pyIter_list pl.isList ⟨_, [_], _, _, H1, rfl, I1.kept (t' := s1.toks) fun _ _ q => Heap.get?_push_of_some _ q, turn_list ad _, ⟨_, Heap.get?_push_size _ rfl, rfl, rfl⟩, fun y hy => ?_, q⟩
    rw [List.mem_singleton.mp hy]
    exact I1.fpOk (Nat.le_refl _) (I1.hok.fresh (Nat.le_refl _))
  · obtain ⟨its, rv, pl, hz⟩ := I1.tuple hq
    refine wpAny_pyIter_tuple (show s1.heap.IsTuple ad its.toArray from pl) ⟨_, [_], _, _, H1, rfl, I1.kept (t' := s1.toks) fun _ _ q => Heap.get?_push_of_some _ q, turn_tuple ad _, ⟨_, Heap.get?_push_size _ rfl, rfl, rfl⟩, fun y hy => ?_, q⟩
    rw [List.mem_singleton.mp hy]
    exact I1.fpOk (Nat.le_refl _) (I1.hok.fresh (Nat.le_refl _))
theorem walk_list {K : PySem.W.Frag} {F1 : Hp} {ad : Addr} {xs : List PV} {still : Mh → Prop} (hq : ∀ F M H, Same F1 F → Ab G K F M H → still M → ∃ vs, SqL K H ad vs ∧ RVs G K F vs xs) : WalkOk G K F1 (Itl K ad) still xs := by
  refine ⟨fun i F M H x s A st h => ?_, fun i F M H v H' x s A st h y => ?_, fun i F M H s A st h => ?_⟩
  · obtain ⟨vs, hs, rv⟩ := hq F M H s A st
    obtain ⟨v, e, _⟩ := rv.get h
    exact ⟨vs, v, hs, e⟩
  · obtain ⟨rfl, y⟩ := y
    obtain ⟨vs, hs, rv⟩ := hq F M _ s A st
    obtain ⟨w, e, r⟩ := rv.get h
    rw [y vs hs] at e
    cases e
    exact ⟨F, Same.refl F, A, r⟩
  · obtain ⟨vs, hs, rv⟩ := hq F M H s A st
    exact ⟨vs, hs, by rw [rv.length]; exact h⟩
theorem walk_tup {K : PySem.W.Frag} {F1 : Hp} {ad : Addr} {vs : List V} {xs : List PV} (rv : RVs G K F1 vs xs) (hq : F1 ad = some (.tup vs)) : WalkOk G K F1 (Itt K ad) (fun _ => True) xs := by
  refine ⟨fun i F M H x s A st h => ?_, fun i F M H v H' x s A st h y => ?_, fun i F M H s A st h => ?_⟩
  · obtain ⟨v, e, _⟩ := rv.get h
    exact ⟨vs, v, SqT.of (A.sub _ _ (s _ _ hq)), e⟩
  · obtain ⟨rfl, y⟩ := y
    obtain ⟨w, e, r⟩ := rv.get h
    rw [y vs (SqT.of (A.sub _ _ (s _ _ hq)))] at e
    cases e
    exact ⟨F, Same.refl F, A, r.mono s⟩
  · exact ⟨vs, SqT.of (A.sub _ _ (s _ _ hq)), by rw [rv.length]; exact h⟩
theorem zi_seq {tg : Expr} (ha : PE X a (liftE G X.K za)) : PI X tg a (liftI G X.K fun σ M k => za σ M fun x M1 => (match x with
    | .tup xs => k (fun _ => True) xs M1
    | .lst xs => k (fun _ => True) xs M1
    | .scr xs => k (fun _ => True) xs M1
    | .ref p => ∃ xs, M1 p = some (.lst xs) ∧ k (fun M' => M' p = some (.lst xs)) xs M1
    | _ => False)) :=
  piI (pi_seq ha) fun σV H T ⟨F, σ, M, k0, A, rs, z, t⟩ => ⟨F, σ, M, _, A, rs, z, fun p M1 F1 H1 v s1 a1 r1 q1 => by
    cases r1 with
    | tup hq rr => exact ⟨_, rfl, .inr ⟨⟨_, SqT.of (a1.sub _ _ hq)⟩, t _ _ M1 F1 H1 _ s1 a1 (walk_tup rr hq) q1⟩⟩
    | lst hq rr => exact ⟨_, rfl, .inl ⟨⟨_, SqL.of (a1.sub _ _ hq)⟩, t _ _ M1 F1 H1 _ s1 a1 (walk_list fun F M H s A _ => ⟨_, SqL.of (A.sub _ _ (s _ _ hq)), rr.mono s⟩) q1⟩⟩
    | scr hq rr => exact ⟨_, rfl, .inl ⟨⟨_, Same.seq a1.sub hq⟩, t _ _ M1 F1 H1 _ s1 a1 (walk_list fun F M H s A _ => ⟨_, Same.seq A.sub (Same.seq s hq), rr.mono s⟩) q1⟩⟩
    | ref ad =>
      obtain ⟨xs, e, q1⟩ := q1
      obtain ⟨_, o, ho, vs, rfl, rr⟩ := a1.mu ad _ e
      refine ⟨ad, rfl, .inl ⟨⟨_, SqL.of ho⟩, t _ _ M1 F1 H1 _ s1 a1 (walk_list fun F M H s A st => ?_) q1⟩⟩
      obtain ⟨_, o, ho, vs, rfl, rr⟩ := A.mu ad _ st
      exact ⟨vs, SqL.of ho, rr⟩
    | _ => exact False.elim q1⟩
end
end Z
set_option Elab.async false
set_option linter.all false
set_option maxRecDepth 100000
set_option maxHeartbeats 4000000
namespace Z
open PySem PySem.Spec PyProof.Rows L2
section
variable {G : Cfg} {B : Tb} {Φ : Nat → ZSp} {c : CC} {X : Cx} {R : ZR} {za zb zc : Zs → Mh → ZQ → Prop} {a b d e o : Expr} {es : List Expr} {pos apos : Pos}
/-! ### a comprehension's block -/
theorem takes_no {X : Cx} : Takes X (liftW G X.K noR) := fun u s' x => by
  obtain ⟨_, _, _, _, _, _, _, _, _, _, _, _, _, _, _, _, _, _, _, _, _, _, _, z⟩ := x
  exact False.elim z
theorem Ok.blk (ok : Ok G B Φ c X R) {scope : Scope} (hk : scope.kind = .function) (s : Shared) (H : Hp) (C : Addr) (cl : List (Str × Addr)) (fp : List Addr) : Ok G B Φ (inBlk c scope) (X.blk s H scope (compEnvC scope cl C X.env) fp) noR where
  hN := ok.hN
  nd := ok.nd
  sc := by
    show relS scope X.env.scope = relS scope c.sc
    rw [ok.sc]
  kd := hk
  fn := fun x => rfl
  calm := ok.calm
  tk := takes_no
  po := PassesOwn.never
  tab := ok.tab
  room := ok.room
theorem drop_cons {α : Type} {xs : List α} {i : Nat} (h : i < xs.length) : ∃ x, xs[i]? = some x ∧ xs.drop i = x :: xs.drop (i + 1) := ⟨xs[i], List.getElem?_eq_getElem h, List.drop_eq_getElem_cons h⟩
theorem comp_imp {K : PySem.W.Frag} {own slots : List Nat} (fz : Bool) {zi : Zs → Mh → ((Mh → Prop) → List PV → Mh → Prop) → Prop} {zt : PV → Zs → Mh → (Zs → Mh → Prop) → Prop} {zc : Zs → Mh → (Bool → Mh → Prop) → Prop} {ze : Zs → Mh → ZQ → Prop} (hslots : ∀ i ∈ slots, i ∈ own)
    (σV : L2.St) (H : Hp) (Q : VK) (h : liftE G K (fun σ M Q => zi σ M fun still xs M1 => ∀ D, M1 D = none → lcIter still D (lcStep zt zc ze (wiped σ own)) (lcDone fz D Q) xs [] (put M1 D (.lst []))) σV H Q) :
    tLc (liftI G K zi) (liftTg G K slots zt) (liftT G K zc) (liftE G K ze) own σV H Q := by
  obtain ⟨F, σ, M, Q0, A, rs, z, t⟩ := h
  refine ⟨F, σ, M, _, A, rs, z, fun still xs M1 F1 H1 J s1 a1 wk q1 D hD => ?_⟩
  have q1 := q1 D (a1.free hD).1
  refine ⟨fun i m H => ∃ Fi Mi acc, Same F1 Fi ∧ Ab G K Fi Mi H ∧ i ≤ xs.length ∧ m = xs.length - i ∧ lcIter still D (lcStep zt zc ze (wiped σ own)) (lcDone fz D Q0) (xs.drop i) acc Mi, ⟨xs.length, F1, _, [], Same.refl F1, a1.newM (m := .lst []) hD ⟨[], rfl, .nil⟩, Nat.zero_le _, rfl, q1⟩, ?_⟩
  rintro i m H ⟨Fi, Mi, acc, si, ai, hi, rfl, hq⟩
  by_cases hlt : i < xs.length
  · obtain ⟨x, hx, hdr⟩ := drop_cons hlt
    rw [hdr] at hq
    obtain ⟨hst, hq⟩ := hq
    refine .inr ⟨wk.go i Fi Mi H x si ai hst hx, fun H' => ∃ F' M' acc', Same F1 F' ∧ Ab G K F' M' H' ∧ lcIter still D (lcStep zt zc ze (wiped σ own)) (lcDone fz D Q0) (xs.drop (i + 1)) acc' M', fun H' ⟨F', M', acc', s', a', q'⟩ => ⟨_, by omega, F', M', acc', s', a', hlt, rfl, q'⟩, fun v H' hy => ?_⟩
    obtain ⟨F2, s2, a2, r2⟩ := wk.yld i Fi Mi H v H' x si ai hst hx hy
    have s12 : Same F1 F2 := si.trans s2
    refine ⟨F2, x, _, Mi, _, a2, (RS.wipe (rs.mono (s1.trans s12)) own), r2, hq, fun σ3 M3 F3 H3 σV3 s3 a3 r3 g3 q3 => ⟨wipe_agree g3 hslots, F3, σ3, M3, _, a3, r3, q3, fun k M4 F4 H4 s4 a4 q4 => ?_⟩⟩
    obtain ⟨b1, b2⟩ := br_elim q4
    have s14 : Same F1 F4 := (s12.trans s3).trans s4
    cases k with
    | true =>
      rw [if_pos rfl]
      refine ⟨F4, σ3, M4, _, a4, r3.mono s4, b1 rfl, fun y M5 F5 H5 w s5 a5 r5 q5 => ?_⟩
      obtain ⟨e5, l5, q5⟩ := q5
      obtain ⟨_, o, ho, vs, rfl, rv⟩ := a5.mu D _ e5
      exact ⟨vs, ho, by rw [rv.length]; exact l5, F5, _, _, s14.trans s5, a5.write (m := .lst (acc ++ [y])) e5 ⟨_, rfl, rv.append (.cons r5 .nil)⟩, q5⟩
    | false =>
      rw [if_neg (by simp)]
      have q5 := b2 rfl
      exact ⟨F4, M4, acc, s14, a4, q5⟩
  · have e : i = xs.length := by omega
    subst e
    rw [List.drop_length] at hq
    obtain ⟨hst, hq⟩ := hq
    refine .inl ⟨wk.stop _ Fi Mi H si ai hst (Nat.le_refl _), ?_⟩
    cases fz with
    | true =>
      obtain ⟨e5, hq⟩ := hq
      obtain ⟨F', s', a', r'⟩ := ai.freeze e5
      exact t _ _ F' H _ (s1.trans (si.trans s')) a' r' hq
    | false => exact t _ _ Fi H _ (s1.trans si) ai (.ref D) hq
theorem z_comp (ok : Ok G B Φ c X R) {tg iter elt : Expr} {ifs : List Expr} {scope : Scope} {own slots : List Nat} (fz : Bool) {zi : Zs → Mh → ((Mh → Prop) → List PV → Mh → Prop) → Prop} {zt : PV → Zs → Mh → (Zs → Mh → Prop) → Prop} {zc : Zs → Mh → (Bool → Mh → Prop) → Prop} {ze : Zs → Mh → ZQ → Prop}
    (hblk : blkC c.N c.sc scope (ownN c own) = true) (hslots : ∀ i ∈ slots, i ∈ own) (hset : ∀ x, foldedSetIterable iter X.env x = pure x) (hi : PI X tg iter (liftI G X.K zi))
    (hg : ∀ s H C cl fp, PG (X.blk s H scope (compEnvC scope cl C X.env) fp) tg (liftTg G X.K slots zt)) (ht : ∀ s H C cl fp, PTs (X.blk s H scope (compEnvC scope cl C X.env) fp) ifs (liftT G X.K zc)) (he : ∀ s H C cl fp, PE (X.blk s H scope (compEnvC scope cl C X.env) fp) elt (liftE G X.K ze)) :
    PE X (.ListComp elt [⟨tg, iter, ifs, 0⟩] scope pos) (liftE G X.K fun σ M Q => zi σ M fun still xs M1 => ∀ D, M1 D = none →
      lcIter still D (lcStep zt zc ze (wiped σ own)) (lcDone fz D Q) xs [] (put M1 D (.lst []))) := by
  have hb : BlkOk X.N X.env.scope scope (ownN c own) := by rw [ok.hN, ok.sc]; exact blkOk_by hblk
  have ho : (ownN c own).map (·.2) = own := by
    unfold ownN
    rw [List.map_map]
    exact List.map_id' own
  refine peI (pe_lc ok.calm (by rw [ok.hN]; exact ok.nd) hi hb hg ht he hset) fun σV H Q h => ?_
  rw [ho]
  exact comp_imp fz hslots σV H Q h
/-- y = [..], the name a plain local, in the comprehension's own store -/
theorem zs_setcomp (ok : Ok G B Φ c X R) {y : Str} {py spos : Pos} {j : Nat} {tg src elt : Expr} {ifs : List Expr} {scope : Scope} {own slots : List Nat} (fz : Bool) {zi : Zs → Mh → ((Mh → Prop) → List PV → Mh → Prop) → Prop} {zt : PV → Zs → Mh → (Zs → Mh → Prop) → Prop} {zc : Zs → Mh → (Bool → Mh → Prop) → Prop} {ze : Zs → Mh → ZQ → Prop}
    (hy : c.N[j]? = some y) (hyl : isLocal c.sc y = true) (hsw : swapsWith (.ListComp elt [⟨tg, src, ifs, 0⟩] scope pos) (some (.Name y py)) spos.line X.env = pure true)
    (hblk : blkC c.N c.sc scope (ownN c own) = true) (hslots : ∀ i ∈ slots, i ∈ own) (hset : ∀ x, foldedSetIterable src X.env x = pure x) (hi : PI X tg src (liftI G X.K zi))
    (hg : ∀ s H C cl fp, PG (X.blk s H scope (compEnvC scope cl C X.env) fp) tg (liftTg G X.K slots zt)) (ht : ∀ s H C cl fp, PTs (X.blk s H scope (compEnvC scope cl C X.env) fp) ifs (liftT G X.K zc)) (he : ∀ s H C cl fp, PE (X.blk s H scope (compEnvC scope cl C X.env) fp) elt (liftE G X.K ze)) :
    PS X (.Assign [.Name y py] (.ListComp elt [⟨tg, src, ifs, 0⟩] scope pos) spos) (liftS G X.K fun D σ M => zi σ M fun still xs M1 => ∀ A, M1 A = none →
      lcIter still A (lcStep zt zc ze (wiped σ own)) (lcDone fz A fun x M2 => D.nx (σ.set j (some x)) M2) xs [] (put M1 A (.lst []))) := by
  have hb : BlkOk X.N X.env.scope scope (ownN c own) := by rw [ok.hN, ok.sc]; exact blkOk_by hblk
  have ho : (ownN c own).map (·.2) = own := by
    unfold ownN
    rw [List.map_map]
    exact List.map_id' own
  refine psI (ps_setLc ok.calm (by rw [ok.hN]; exact ok.nd) (by rw [ok.hN]; exact hy) (by rw [ok.sc]; exact local_of hyl) hsw hi hb hg ht he hset) fun D σV H ⟨F, σ, M, D0, A, rs, z, t⟩ => ?_
  rw [ho]
  exact comp_imp fz hslots σV H _ ⟨F, σ, M, _, A, rs, z, fun p M1 F1 H1 v s1 a1 r1 q1 => t.nx _ M1 F1 H1 _ s1 a1 ((rs.mono s1).set r1) q1⟩
/-! ### freezing -/
theorem z_frz (h : PE X e (liftE G X.K za)) : PE X e (liftE G X.K fun σ M Q => za σ M fun x M1 => zfrz x M1 Q) :=
  peI h fun σV H Q ⟨F, σ, M, Q0, A, rs, z, t⟩ => ⟨F, σ, M, _, A, rs, z, fun p M1 F1 H1 v s1 a1 r1 q1 => by
    cases r1 with
    | ref ad =>
      obtain ⟨m, e5, q1⟩ := q1
      cases m with
      | lst xs =>
        obtain ⟨F', s', a', r'⟩ := a1.freeze e5
        exact t _ _ F' H1 _ (s1.trans s') a' r' q1
      | ins c fs =>
        obtain ⟨gs, rfl, q1⟩ := q1
        obtain ⟨F', s', a', r'⟩ := a1.freezeI e5
        exact t _ _ F' H1 _ (s1.trans s') a' r' q1
      | dct ks xs =>
        obtain ⟨F', s', a', r'⟩ := a1.freezeD e5
        exact t _ _ F' H1 _ (s1.trans s') a' r' q1
      | sm P => exact False.elim q1
    | _ => exact False.elim q1⟩
/-- a name's thing is not changed any more -/
theorem zss_frz {zs : ZD → Zs → Mh → Prop} {sts : List Stmt} {i : Nat} (h : PSs X sts (liftS G X.K zs)) : PSs X sts (liftS G X.K fun D σ M => (match σ[i]? with
    | some (some x) => zfrz x M fun y M1 => zs D (σ.set i (some y)) M1
    | _ => False)) := pssI h fun D σV H ⟨F, σ, M, D0, A, rs, z, t⟩ => by
  have z : (match σ[i]? with
    | some (some x) => zfrz x M fun y M1 => zs D0 (σ.set i (some y)) M1
    | _ => False) := z
  cases q : σ[i]? with
  | none => rw [q] at z; exact z.elim
  | some oo =>
    cases oo with
    | none => rw [q] at z; exact z.elim
    | some p =>
      rw [q] at z
      have z : zfrz p M fun y M1 => zs D0 (σ.set i (some y)) M1 := z
      obtain ⟨v, hv, rv⟩ := rs.at_ i p q
      have fin : ∀ {F' : Hp} {M' : Mh} {y : PV}, Same F F' → Ab G X.K F' M' H → RV G X.K F' v y → zs D0 (σ.set i (some y)) M' → liftS G X.K zs D σV H := fun {F' M' y} s' a' r' q' => by
        have rs' := (rs.mono s').set (i := i) r'
        have e : σV.set i (some v) = σV := by
          refine List.ext_getElem? fun j => ?_
          by_cases hj : i = j
          · subst hj
            rw [hv, List.getElem?_set_self (by
              by_cases hl : i < σV.length
              · exact hl
              · rw [List.getElem?_eq_none (by omega)] at hv; cases hv)]
          · rw [List.getElem?_set_ne hj]
        rw [e] at rs'
        exact ⟨F', _, M', D0, a', rs', q', t.mono s'⟩
      cases rv with
      | ref ad =>
        obtain ⟨m, e5, q1⟩ := z
        cases m with
        | lst xs =>
          obtain ⟨F', s', a', r'⟩ := A.freeze e5
          exact fin s' a' r' q1
        | ins c fs =>
          obtain ⟨gs, rfl, q1⟩ := q1
          obtain ⟨F', s', a', r'⟩ := A.freezeI e5
          exact fin s' a' r' q1
        | dct ks xs =>
          obtain ⟨F', s', a', r'⟩ := A.freezeD e5
          exact fin s' a' r' q1
        | sm P => exact False.elim q1
      | _ => exact False.elim z
/-! ### statements -/
variable {zs zs' : ZD → Zs → Mh → Prop} {st : Stmt} {sts : List Stmt} {tc : Zs → Mh → (Bool → Mh → Prop) → Prop}
theorem zs_expr (h : PE X e (liftE G X.K za)) (hc : notComp e = true) : PS X (.Expr e pos) (liftS G X.K fun D σ M => za σ M fun _ M1 => D.nx σ M1) :=
  psI (ps_expr h (swap_of hc _ _ _)) fun D σV H ⟨F, σ, M, D0, A, rs, z, t⟩ => ⟨F, σ, M, _, A, rs, z, fun p M1 F1 H1 v s1 a1 r1 q1 => t.nx σ M1 F1 H1 σV s1 a1 (rs.mono s1) q1⟩
theorem zs_ret (h : PE X e (liftE G X.K za)) : PS X (.Return (some e) pos) (liftS G X.K fun D σ M => za σ M D.rt) :=
  psI (ps_ret h) fun D σV H ⟨F, σ, M, D0, A, rs, z, t⟩ => ⟨F, σ, M, _, A, rs, z, t.rt⟩
theorem zs_retN : PS X (.Return none pos) (liftS G X.K fun D σ M => D.rt .non M) :=
  psI ps_retN fun D σV H ⟨F, σ, M, D0, A, rs, z, t⟩ => t.rt _ M F H _ (Same.refl F) A .non z
theorem zs_pass : PS X (.Pass pos) (liftS G X.K fun D σ M => D.nx σ M) := psI ps_pass fun D σV H ⟨F, σ, M, D0, A, rs, z, t⟩ => t.nx σ M F H σV (Same.refl F) A rs z
theorem zs_brk : PS X (.Break pos) (liftS G X.K fun D σ M => D.bk σ M) := psI ps_break fun D σV H ⟨F, σ, M, D0, A, rs, z, t⟩ => t.bk σ M F H σV (Same.refl F) A rs z
theorem zs_cont : PS X (.Continue pos) (liftS G X.K fun D σ M => D.ct σ M) := psI ps_continue fun D σV H ⟨F, σ, M, D0, A, rs, z, t⟩ => t.ct σ M F H σV (Same.refl F) A rs z
theorem zs_never : PS X st (liftS G X.K fun _ _ _ => False) := psI ps_never fun D σV H ⟨F, σ, M, D0, A, rs, z, t⟩ => z
theorem zss_nil : PSs X [] (liftS G X.K fun D σ M => D.nx σ M) := pssI pss_nil fun D σV H ⟨F, σ, M, D0, A, rs, z, t⟩ => t.nx σ M F H σV (Same.refl F) A rs z
theorem zss_cons (h1 : PS X st (liftS G X.K zs)) (h2 : PSs X sts (liftS G X.K zs')) : PSs X (st :: sts) (liftS G X.K fun D σ M => zs { D with nx := fun σ1 M1 => zs' D σ1 M1 } σ M) :=
  pssI (pss_cons h1 h2) fun D σV H ⟨F, σ, M, D0, A, rs, z, t⟩ => ⟨F, σ, M, _, A, rs, z, ⟨fun σ' M' F' H' σV' s' a' r' q' => ⟨F', σ', M', D0, a', r', q', t.mono s'⟩, t.rt, t.bk, t.ct⟩⟩
theorem zs_if (hc : PT X e (liftT G X.K tc)) {as bs : List Stmt} (ha : PSs X as (liftS G X.K zs)) (hb : PSs X bs (liftS G X.K zs')) : PS X (.If e as bs pos) (liftS G X.K fun D σ M => tc σ M fun k M1 => br k (zs D σ M1) (zs' D σ M1)) :=
  psI (ps_if hc ha hb) fun D σV H ⟨F, σ, M, D0, A, rs, z, t⟩ => ⟨F, σ, M, _, A, rs, z, fun k M1 F1 H1 s1 a1 q1 => by
    obtain ⟨b1, b2⟩ := br_elim q1
    cases k with
    | true => rw [if_pos rfl]; exact ⟨F1, σ, M1, D0, a1, rs.mono s1, b1 rfl, t.mono s1⟩
    | false => rw [if_neg (by simp)]; exact ⟨F1, σ, M1, D0, a1, rs.mono s1, b2 rfl, t.mono s1⟩⟩
theorem zs_for (ok : Ok G B Φ c X R) {tg src : Expr} {slots : List Nat} {zi : Zs → Mh → ((Mh → Prop) → List PV → Mh → Prop) → Prop} {zt : PV → Zs → Mh → (Zs → Mh → Prop) → Prop} (hset : ∀ x, foldedSetIterable src X.env x = pure x)
    (hi : PI X tg src (liftI G X.K zi)) (hg : PG X tg (liftTg G X.K slots zt)) (hb : PSs X sts (liftS G X.K zs)) : PS X (.For tg src sts [] pos) (liftS G X.K fun D σ M => zi σ M fun still xs M1 =>
      iter still (fun x σ' M' k => zt x σ' M' fun σ2 M2 => zs { D with nx := k, ct := k, bk := D.nx } σ2 M2) D.nx xs σ M1) := by
  refine psI (ps_for ok.po ok.calm hi hg hb hset) fun D σV H ⟨F, σ, M, D0, A, rs, z, t⟩ => ?_
  refine ⟨F, σ, M, _, A, rs, z, fun still xs M1 F1 H1 J s1 a1 wk q1 => ?_⟩
  refine ⟨fun i m σV H => ∃ Fi σi Mi, Same F1 Fi ∧ Ab G X.K Fi Mi H ∧ RS G X.K Fi σV σi ∧ i ≤ xs.length ∧ m = xs.length - i ∧ iter still (fun x σ' M' k => zt x σ' M' fun σ2 M2 => zs { D0 with nx := k, ct := k, bk := D0.nx } σ2 M2) D0.nx (xs.drop i) σi Mi,
    ⟨xs.length, F1, σ, M1, Same.refl F1, a1, rs.mono s1, Nat.zero_le _, rfl, q1⟩, ?_⟩
  rintro i m σV H ⟨Fi, σi, Mi, si, ai, ri, hi, rfl, hq⟩
  by_cases hlt : i < xs.length
  · obtain ⟨x, hx, hdr⟩ := drop_cons hlt
    rw [hdr] at hq
    obtain ⟨hst, hq⟩ := hq
    refine .inr ⟨wk.go i Fi Mi H x si ai hst hx, fun σV' H' => ∃ F' σ' M', Same F1 F' ∧ Ab G X.K F' M' H' ∧ RS G X.K F' σV' σ' ∧ iter still (fun x σ' M' k => zt x σ' M' fun σ2 M2 => zs { D0 with nx := k, ct := k, bk := D0.nx } σ2 M2) D0.nx (xs.drop (i + 1)) σ' M',
      fun σV' H' ⟨F', σ', M', s', a', r', q'⟩ => ⟨_, by omega, F', σ', M', s', a', r', hlt, rfl, q'⟩, fun v H' hy => ?_⟩
    obtain ⟨F2, s2, a2, r2⟩ := wk.yld i Fi Mi H v H' x si ai hst hx hy
    refine ⟨F2, x, σi, Mi, _, a2, ri.mono s2, r2, hq, fun σ3 M3 F3 H3 σV3 s3 a3 r3 _ q3 => ⟨F3, σ3, M3, _, a3, r3, q3, ?_⟩⟩
    have s13 : Same F1 F3 := (si.trans s2).trans s3
    have t3 := t.mono (s1.trans s13)
    exact ⟨fun σ4 M4 F4 H4 σV4 s4 a4 r4 q4 => ⟨F4, σ4, M4, s13.trans s4, a4, r4, q4⟩, t3.rt, fun σ4 M4 F4 H4 σV4 s4 a4 r4 q4 => t3.nx σ4 M4 F4 H4 σV4 s4 a4 r4 q4, fun σ4 M4 F4 H4 σV4 s4 a4 r4 q4 => ⟨F4, σ4, M4, s13.trans s4, a4, r4, q4⟩⟩
  · have e : i = xs.length := by omega
    subst e
    rw [List.drop_length] at hq
    obtain ⟨hst, hq⟩ := hq
    exact .inl ⟨wk.stop _ Fi Mi H si ai hst (Nat.le_refl _), t.nx σi Mi Fi H σV (s1.trans si) ai ri hq⟩
theorem zs_while (ok : Ok G B Φ c X R) (hc : PT X e (liftT G X.K tc)) (hb : PSs X sts (liftS G X.K zs)) : PS X (.While e sts [] pos) (liftS G X.K fun D σ M => ∃ n, whileN tc zs D n σ M) := by
  refine psI (ps_while ok.po hc hb) fun D σV H ⟨F, σ, M, D0, A, rs, ⟨n, z⟩, t⟩ => ?_
  refine ⟨fun m σV H => ∃ Fi σi Mi, Same F Fi ∧ Ab G X.K Fi Mi H ∧ RS G X.K Fi σV σi ∧ whileN tc zs D0 m σi Mi, ⟨n, F, σ, M, Same.refl F, A, rs, z⟩, ?_⟩
  rintro m σV H ⟨Fi, σi, Mi, si, ai, ri, hq⟩
  cases m with
  | zero => exact False.elim hq
  | succ m =>
    refine ⟨Fi, σi, Mi, _, ai, ri, hq, fun k M1 F1 H1 s1 a1 q1 => ?_⟩
    obtain ⟨b1, b2⟩ := br_elim q1
    have t1 := t.mono (si.trans s1)
    cases k with
    | true =>
      rw [if_pos rfl]
      refine ⟨fun σV' H' => ∃ F' σ' M', Same F F' ∧ Ab G X.K F' M' H' ∧ RS G X.K F' σV' σ' ∧ whileN tc zs D0 m σ' M', fun σV' H' w => ⟨m, Nat.lt_succ_self m, w⟩, F1, σi, M1, _, a1, ri.mono s1, b1 rfl, ?_⟩
      have s01 : Same F F1 := si.trans s1
      exact ⟨fun σ4 M4 F4 H4 σV4 s4 a4 r4 q4 => ⟨F4, σ4, M4, s01.trans s4, a4, r4, q4⟩, t1.rt, fun σ4 M4 F4 H4 σV4 s4 a4 r4 q4 => t1.nx σ4 M4 F4 H4 σV4 s4 a4 r4 q4, fun σ4 M4 F4 H4 σV4 s4 a4 r4 q4 => ⟨F4, σ4, M4, s01.trans s4, a4, r4, q4⟩⟩
    | false =>
      rw [if_neg (by simp)]
      exact t1.nx σi M1 F1 H1 σV (Same.refl F1) a1 (ri.mono s1) (b2 rfl)
theorem len_sub {α : Type} [DecidableEq α] : ∀ {l m : List α}, l.Nodup → (∀ x ∈ l, x ∈ m) → l.length ≤ m.length
  | [], _, _, _ => Nat.zero_le _
  | a :: l, m, nd, h => by
    obtain ⟨n1, n2⟩ := List.nodup_cons.mp nd
    have ha := h a List.mem_cons_self
    have ih := len_sub (l := l) (m := m.erase a) n2 fun x hx => (List.mem_erase_of_ne (show x ≠ a from fun e => n1 (by rw [← e]; exact hx))).mpr (h x (List.mem_cons_of_mem _ hx))
    rw [List.length_erase_of_mem ha] at ih
    have : 0 < m.length := List.length_pos_of_mem ha
    rw [List.length_cons]
    omega
theorem putF_keys {f : Str} {v : V} : ∀ {fs : List (Str × V)} {x : Str}, x ∈ (putF f v fs).map (·.1) → x = f ∨ x ∈ fs.map (·.1)
  | [], x, h => by
    have h : x ∈ [f] := h
    exact .inl (List.mem_singleton.mp h)
  | (k, w) :: r, x, h => by
    unfold putF at h
    split at h
    · rename_i e
      rcases List.mem_cons.mp (show x ∈ _ :: r.map (·.1) from h) with h | h
      · exact .inl (by first | exact h | exact h.trans e)
      · exact .inr (List.mem_cons_of_mem _ h)
    · rcases List.mem_cons.mp (show x ∈ k :: (putF f v r).map (·.1) from h) with h | h
      · exact .inr (by rw [h]; exact List.mem_cons_self)
      · rcases putF_keys h with h | h
        · exact .inl h
        · exact .inr (List.mem_cons_of_mem _ h)
theorem putF_nodup {f : Str} {v : V} : ∀ {fs : List (Str × V)}, (fs.map (·.1)).Nodup → ((putF f v fs).map (·.1)).Nodup
  | [], _ => List.nodup_cons.mpr ⟨by simp, List.nodup_nil⟩
  | (k, w) :: r, h => by
    obtain ⟨h1, h2⟩ := List.nodup_cons.mp (show (k :: r.map (·.1)).Nodup from h)
    unfold putF
    split
    · rename_i e
      first
        | exact h
        | (subst e; exact h)
    · rename_i e
      refine List.nodup_cons.mpr ⟨fun q => ?_, putF_nodup h2⟩
      rcases putF_keys q with q | q
      · exact e (by first | exact q | exact q.symm)
      · exact h1 q
/-- target = value -/
theorem asg_lift {st : Stmt} {slots : List Nat} {zt : PV → Zs → Mh → (Zs → Mh → Prop) → Prop} (h : PS X st (tAsg (liftE G X.K za) (liftTg G X.K slots zt))) : PS X st (liftS G X.K fun D σ M => za σ M fun x M1 => zt x σ M1 D.nx) :=
  psI h fun D σV H ⟨F, σ, M, D0, A, rs, z, t⟩ => ⟨F, σ, M, _, A, rs, z, fun p M1 F1 H1 v s1 a1 r1 q1 => ⟨F1, p, σ, M1, _, a1, rs.mono s1, r1, q1, fun σ2 M2 F2 H2 σV2 s2 a2 r2 _ q2 => t.nx σ2 M2 F2 H2 σV2 (s1.trans s2) a2 r2 q2⟩⟩
theorem par_of {t v : Expr} (h : noPar t v = true) (env : Env) : swappedStores [t] v env = pure none := by
  cases t with
  | Tuple _ _ _ => cases v <;> first | rfl | cases h
  | List _ _ => cases v <;> first | rfl | cases h
  | _ => rfl
theorem zs_asg {tg : Expr} {slots : List Nat} {zt : PV → Zs → Mh → (Zs → Mh → Prop) → Prop} (hp : noPar tg e = true) (hn : notStar tg = true) (hs : swapsWith e (some tg) pos.line X.env = pure false) (h : PE X e (liftE G X.K za)) (hg : PG X tg (liftTg G X.K slots zt)) :
    PS X (.Assign [tg] e pos) (liftS G X.K fun D σ M => za σ M fun x M1 => zt x σ M1 D.nx) :=
  asg_lift (ps_asg h hg hs (par_of hp X.env) (by have := (assign_star hn [] X.env).1; exact this))
theorem zs_fld (ok : Ok G B Φ c X R) {f nm : Str} {k i : Nat} {lay : List Str} {p2 : Pos} (hc : G.cls[k]? = some (nm, lay)) (hl : lay[i]? = some f) (hlen : lay.length < 900) (hn : notComp e = true) (ho : PE X o (liftE G X.K za)) (he : PE X e (liftE G X.K zb)) :
    PS X (.Assign [.Attribute o f p2] e pos) (liftS G X.K fun D σ M => zb σ M fun y M1 => za σ M1 fun x M2 => (match x with
    | .ref p => ∃ fs, M2 p = some (.ins k fs) ∧ i < fs.length ∧ D.nx σ (put M2 p (.ins k (fs.set i (some y))))
    | _ => False)) := by
  obtain ⟨cl, nd, na⟩ := ok.tab.cl k nm lay hc
  have hna := na f (List.mem_of_getElem? hl)
  refine psI (ps_fld ho he (swap_of hn _ _ _)) fun D σV H ⟨F, σ, M, D0, A, rs, z, t⟩ => ⟨F, σ, M, _, A, rs, z, fun y M1 F1 H1 vy s1 a1 r1 q1 => ⟨F1, σ, M1, _, a1, rs.mono s1, q1, fun x M2 F2 H2 vx s2 a2 r2 q2 => ?_⟩⟩
  cases r2 with
  | ref ad =>
    obtain ⟨fs, e5, hi, q2⟩ := q2
    obtain ⟨_, o, ho, nm', lay', dx, kvs, e1, rfl, e3, e4, e5', e6⟩ := a2.mu ad _ e5
    rw [hc] at e1
    cases e1
    have hk : (kvs.map (·.1)).length ≤ lay.length := len_sub e3 fun x hx => e5' x fun q => by
      obtain ⟨⟨k1, w1⟩, hm, rfl⟩ := List.mem_map.mp hx
      exact absurd q (by
        have := List.lookup_eq_none_iff.mp q ⟨k1, w1⟩ hm
        simp at this)
    rw [List.length_map] at hk
    refine ⟨ad, _, dx, kvs, rfl, ho, cl, hna, by omega, t.nx σ _ F2 _ σV (s1.trans s2) (a2.write (m := .ins k (fs.set i (some y))) e5 ⟨nm, lay, dx, _, hc, rfl, ?_, ?_, fun g hg => ?_, fun j p g h1 h2 => ?_⟩) ((rs.mono s1).mono s2) q2⟩
    · exact putF_nodup e3
    · rw [List.length_set]; exact e4
    · rw [lookup_putF] at hg
      by_cases q : g = f
      · rw [q]; exact List.mem_of_getElem? hl
      · rw [if_neg q] at hg; exact e5' g hg
    · rw [lookup_putF]
      by_cases hij : i = j
      · subst hij
        rw [hl] at h2
        cases h2
        rw [List.getElem?_set_self (by rw [e4] at hi ⊢; exact hi)] at h1
        cases h1
        rw [if_pos rfl]
        exact ⟨vy, rfl, r1.mono s2⟩
      · rw [List.getElem?_set_ne hij] at h1
        have hne : g ≠ f := fun q => by
          subst q
          obtain ⟨l1, e1⟩ := List.getElem?_eq_some_iff.mp hl
          obtain ⟨l2, e2⟩ := List.getElem?_eq_some_iff.mp h2
          exact hij ((List.getElem_inj nd).mp (e1.trans e2.symm))
        rw [if_neg hne]
        exact e6 j p g h1 h2
  | _ => exact False.elim q2
end
end Z
set_option Elab.async false
set_option linter.all false
set_option maxRecDepth 100000
set_option maxHeartbeats 4000000
namespace Z
open PySem PySem.Spec PyProof.Rows L2
section
variable {G : Cfg} {K : PySem.W.Frag} {F H : Hp} {M : Mh}
/-- a new thing that is not told of -/
theorem Ab.newU (A : Ab G K F M H) {p : Addr} {o : HO} (h : H p = none) : Ab G K F M (upd H p o) := by
  refine ⟨A.bs, fun b q e => ?_, fun a m e => ?_⟩
  · rw [upd_ne (ne_of_none (A.sub b q e) h)]; exact A.sub b q e
  · obtain ⟨h1, q, h2, h3⟩ := A.mu a m e
    exact ⟨h1, q, by rw [upd_ne (ne_of_none h2 h)]; exact h2, h3⟩
/-- a change, the last one -/
theorem Ab.writeF (A : Ab G K F M H) {p : Addr} {o : HO} {m0 : MO} (h : M p = some m0) : Ab G K (upd F p o) (del M p) (upd H p o) ∧ Same F (upd F p o) := by
  obtain ⟨hF, _⟩ := A.mu p m0 h
  have sF : Same F (upd F p o) := sameUpd hF
  refine ⟨⟨A.bs.trans sF, fun b q e => ?_, fun a m e => ?_⟩, sF⟩
  · by_cases hb : b = p
    · subst hb; rw [upd_same] at e ⊢; exact e
    · rw [upd_ne hb] at e ⊢; exact A.sub b q e
  · have hap : a ≠ p := fun z => by subst z; unfold del at e; rw [if_pos rfl] at e; cases e
    have e' : M a = some m := by unfold del at e; rw [if_neg hap] at e; exact e
    obtain ⟨h1, q, h2, h3⟩ := A.mu a m e'
    exact ⟨by rw [upd_ne hap]; exact h1, q, by rw [upd_ne hap]; exact h2, h3.mono sF⟩
end
/-! ### dict displays -/
theorem putK_new {kvs : List (Key × V)} {k : Key} {v : V} (h : k ∉ kvs.map (·.1)) : putK kvs k v = kvs ++ [(k, v)] := by
  unfold putK
  rw [if_neg]
  intro e
  obtain ⟨q, hq, e⟩ := List.any_eq_true.mp e
  exact h (List.mem_map.mpr ⟨q, hq, of_decide_eq_true e⟩)
theorem mergeK_app : ∀ (more kvs : List (Key × V)), ((kvs ++ more).map (·.1)).Nodup → mergeK kvs more = kvs ++ more
  | [], kvs, _ => by rw [List.append_nil]; rfl
  | p :: r, kvs, h => by
    have h1 : p.1 ∉ kvs.map (·.1) := by
      rw [List.map_append, List.map_cons] at h
      intro hm
      have := (List.nodup_append.mp h).2.2 p.1 hm p.1 (List.mem_cons_self ..)
      exact this rfl
    show mergeK (putK kvs p.1 p.2) r = _
    rw [putK_new h1, mergeK_app r _ (by rw [List.append_assoc]; exact h), List.append_assoc]
    rfl
theorem zip_keys : ∀ (ks : List Str) (us : List V), ks.Nodup → (((ks.map Sum.inr : List Key).zip us).map (·.1)).Nodup ∧ ∀ q ∈ ((ks.map Sum.inr : List Key).zip us).map (·.1), ∃ k ∈ ks, q = .inr k
  | [], us, _ => ⟨List.nodup_nil, fun q h => by cases h⟩
  | k :: ks, [], _ => ⟨List.nodup_nil, fun q h => by cases h⟩
  | k :: ks, u :: us, h => by
    obtain ⟨n1, n2⟩ := List.nodup_cons.mp h
    obtain ⟨i1, i2⟩ := zip_keys ks us n2
    refine ⟨List.nodup_cons.mpr ⟨fun hm => ?_, i1⟩, fun q hq => ?_⟩
    · obtain ⟨k', h1, h2⟩ := i2 _ hm
      cases h2
      exact n1 h1
    · rcases List.mem_cons.mp hq with rfl | hq
      · exact ⟨k, List.mem_cons_self .., rfl⟩
      · obtain ⟨k', h1, h2⟩ := i2 q hq
        exact ⟨k', List.mem_cons_of_mem _ h1, h2⟩
theorem merge_zip {ks : List Str} {us : List V} (h : ks.Nodup) : mergeK [] ((ks.map Sum.inr : List Key).zip us) = (ks.map Sum.inr : List Key).zip us := by
  rw [mergeK_app _ _ ?_, List.nil_append]
  rw [List.nil_append]
  exact (zip_keys ks us h).1
def trsOf (G : Cfg) (K : PySem.W.Frag) (Φ : Nat → ZSp) (R : ZR) : List Str → EL → List (TE × TE)
  | k :: ks, .cons e r => (tC (.str k), liftE G K (semE Φ R e)) :: trsOf G K Φ R ks r
  | _, _ => []
theorem pairs_of {G : Cfg} {K : PySem.W.Frag} {Φ : Nat → ZSp} {R : ZR} : ∀ (ks : List Str) (vs : EL), ks.length = vs.len → ∀ {F : Hp} {σ : Zs} {M : Mh} {σV : L2.St} {H : Hp} {Q : List (V × V) → Hp → Prop} {Q0 : List PV → Mh → Prop}, Ab G K F M H → RS G K F σV σ → semA Φ R vs σ M Q0 →
    (∀ ps M' F' H' us, Same F F' → Ab G K F' M' H' → RVs G K F' us ps → us.length = ks.length → Q0 ps M' → Q ((ks.map V.str).zip us) H') → tPairs (trsOf G K Φ R ks vs) σV H Q
  | [], .nil, _, F, σ, M, σV, H, Q, Q0, A, rs, z, t => t [] M F H [] (Same.refl F) A .nil rfl z
  | [], .cons _ _, h, _, _, _, _, _, _, _, _, _, _, _ => by cases h
  | _ :: _, .nil, h, _, _, _, _, _, _, _, _, _, _, _ => by cases h
  | k :: ks, .cons e r, h, F, σ, M, σV, H, Q, Q0, A, rs, z, t => by
    have h' : ks.length = r.len := by
      have : ks.length + 1 = r.len + 1 := h
      omega
    refine ⟨F, σ, M, _, A, rs, z, fun p M1 F1 H1 v s1 a1 r1 q1 => ?_⟩
    refine pairs_of ks r h' a1 (rs.mono s1) q1 fun ps M2 F2 H2 us s2 a2 r2 l2 q2 => ?_
    exact t (p :: ps) M2 F2 H2 (v :: us) (s1.trans s2) a2 (.cons (r1.mono s2) r2) (by rw [List.length_cons, List.length_cons, l2]) q2
theorem z_dict {G : Cfg} {X : Cx} {Φ : Nat → ZSp} {R : ZR} (fz : Bool) {ks : List Str} {vs : EL} {keys : List (Option Expr)} {values : List Expr} {pos : Pos} (h : PPs X pos keys values (trsOf G X.K Φ R ks vs)) (hl : ks.length = vs.len) (nd : ks.Nodup)
    (hall : keys.all (·.isSome) = true) (hk : keys.length = values.length) (h0 : keys ≠ []) (h15 : keys.length ≤ 15) (hks : ks.length ≤ 15) : PE X (.Dict keys values pos) (liftE G X.K (semE Φ R (.dict fz ks vs))) := by
  refine peI (pe_disp h hall hk h0 h15) fun σV H Q ⟨F, σ, M, Q0, A, rs, z, t⟩ => ?_
  have z : ∀ D, M D = none → semA Φ R vs σ (put M D (.dct [] [])) fun ps M1 => M1 D = some (.dct [] []) ∧ dDone fz D ks ps Q0 M1 := z
  intro D hD
  have A1 : Ab G X.K F (put M D (.dct [] [])) (upd H D (.dK [])) := A.newM hD ⟨[], rfl, rfl, .nil⟩
  refine pairs_of ks vs hl A1 rs (z D (A.free hD).1) fun ps M1 F1 H1 us s1 a1 r1 l1 q1 => ?_
  obtain ⟨e, q1⟩ := q1
  obtain ⟨_, o, ho, us0, rfl, _, r0⟩ := a1.mu D _ e
  cases r0
  refine ⟨ho, (ks.map Sum.inr : List Key).zip us, ?_, ?_, ?_⟩
  · rw [List.zip_map_left, List.zip_map_left, List.map_map]
    rfl
  · rw [List.length_zip, List.length_map]; omega
  · rw [merge_zip nd]
    have hlen : (ks.map Sum.inr : List Key).length = us.length := by rw [List.length_map, l1]
    cases fz with
    | true =>
      obtain ⟨A2, s2⟩ := a1.writeF (o := .dK ((ks.map Sum.inr : List Key).zip us)) e
      exact t _ _ _ _ _ (s1.trans s2) A2 (.dct upd_same hlen (r1.mono s2)) q1
    | false => exact t _ _ F1 _ _ s1 (a1.write (m := .dct (ks.map Sum.inr) ps) e ⟨us, rfl, hlen, r1⟩) (.ref D) q1
/-! ### new instances -/
section
variable {X : Cx} {k n : Nat} {f C : Addr} {fd : FuncData} {ps ks : List Str} {sp : Sp} {W : WX} {x : Str} {p pos : Pos} {e : Expr} {es : List Expr} {kws : List Keyword} {t tk : TA} {g : List Value → List Value → List Value} {gV : List V → List V → List V}
def tMakeSD (C : Addr) (n m : Nat) (sp : Sp) (gV : List V → List V → List V) (E : L2.St → XK) (t tk : TA) : TE := fun σ H Q => t σ H fun vs H1 => tk σ H1 fun zs H2 => (vs.length = n ∧ zs.length = m) ∧
  ∀ y dy, H2 y = none → H2 dy = none → dy ≠ y → sp (gV (.ref y :: vs) zs) (upd (upd H2 dy (.own y)) y (.ins C dy [])) (fun v H3 => v = .non ∧ Q (.ref y) H3) (E σ)
theorem kw_of : ∀ {kws : List Keyword} (h : kwAll kws = true) (pos : Pos) (env : Env), (backToKw pos (keywordEach kws env)).all (·.1.isSome) = true ∧ (backToKw pos (keywordEach kws env)).filterMap (·.1) = kwNames kws ∧ (backToKw pos (keywordEach kws env)).any (·.1.isNone) = false
  | [], _, _, _ => ⟨rfl, rfl, rfl⟩
  | ⟨none, v, p⟩ :: kws, h, pos, env => by cases h
  | ⟨some a, v, p⟩ :: kws, h, pos, env => by
    obtain ⟨i1, i2, i3⟩ := kw_of (kws := kws) h pos env
    refine ⟨i1, ?_, i3⟩
    show a :: (backToKw pos (keywordEach kws env)).filterMap (·.1) = a :: kwNames kws
    rw [i2]
theorem makeAny (M : Mk X.K C f) (F : FnOk X.prog X.w X.K X.mg X.base (L2.CX X.prog X.w) k f fd ps sp) (hr : Room (k + 1) X.A) (hg : Gl X x) (hm : X.mg x = some (.ref C)) (hb : KBn X.K fd ps (n + 1) ks g gV) (tk' : Takes X W)
    (ha : PA X (e :: es) t) (hkw : PK X kws tk) (hk : kwAll kws = true) (hks : kwNames kws = ks) (hs : (e :: es).all notStar = true) (hdb : (x == ("__debug__" : Str)) = false) :
    PE X (.Call (.Name x p) (e :: es) kws pos) (tMakeSD C n ks.length sp gV (WE W) t tk) := by
  obtain ⟨h1, h2⟩ := Bool.and_eq_true_iff.mp (show (notStar e && es.all notStar) = true from hs)
  obtain ⟨k1, k2, k3⟩ := kw_of hk pos X.env
  have hpl : ((backTo pos (starEach (e :: es) X.env)).any (·.1) || (backToKw pos (keywordEach kws X.env)).any (·.1.isNone)) = false := by rw [(stars_of hs pos X.env).1, k3]; rfl
  refine ⟨fun pins s σ H Q I h => ?_⟩
  refine wpAny_Call_Name_kw (ld_glob I hg hm ?_ hdb)
  refine PySem.W.callWith_KW (h₀ := X.base) I.ok.mod.kin M.kp k1 (thn (ha.run pos pins s σ H _ I h) fun us s1 z1 => ?_) hpl (star_of h1 es X.env)
  obtain ⟨vs, H1, I1, r, q⟩ := z1
  refine thn (hkw.run pos pins s1 σ H1 _ I1 q) fun ws s2 z2 => ?_
  obtain ⟨zs, H2, I2, rz, ⟨l1, l2⟩, q2⟩ := z2
  refine ⟨I2.kIn, ?_⟩
  rw [k2, hks]
  have hq := q2 (s2.heap.objs.size + 1) s2.heap.objs.size (I2.hok.fresh (Nat.le_succ _)) (I2.hok.fresh (Nat.le_refl _)) (Nat.ne_of_lt (Nat.lt_succ_self _))
  have J := Inv.made (C := C) I2
  have ra : Vals (V.ref (s2.heap.objs.size + 1) :: vs) (Value.ref (s2.heap.objs.size + 1) :: us) := .cons rfl r
  have la : (Value.ref (s2.heap.objs.size + 1) :: us).length = n + 1 := ra.length.symm.trans (congrArg Nat.succ l1)
  refine wpAny_call (make_map (f := f) I2.kIn M.makes M.init (beq_iff_eq.mp M.fn) (codeAny_mono (F.run _ X.stack _ _ ⟨Value.ref (s2.heap.objs.size + 1) :: us, ks.zip ws⟩ (g (Value.ref (s2.heap.objs.size + 1) :: us) ws) _ _ _ (hr.make C us (ks.zip ws))
    (J.env0.make C us (ks.zip ws)) (hb.to _ (Value.ref (s2.heap.objs.size + 1) :: us) ws J.kIn la (rz.length.symm.trans l2)) (hb.rel ra rz) hq) fun r s' hq' => ?_))
  match r, hq' with
  | .error e, hq' => exact passAt tk' σ pins _ _ e s' J hq'
  | .ok (.ret u), hq' =>
    obtain ⟨v, H', I3, rv, rfl, q3⟩ := J.after hq'
    exact ⟨rv, ⟨V.ref (s2.heap.objs.size + 1), H', I3, rfl, q3⟩⟩
  | .ok .next, hq' => exact False.elim hq'
  | .ok .brk, hq' => exact False.elim hq'
  | .ok .cont, hq' => exact False.elim hq'
end
section
variable {G : Cfg} {B : Tb} {Φ : Nat → ZSp} {c : CC} {X : Cx} {R : ZR} {za zb zc : Zs → Mh → ZQ → Prop} {a b d e o : Expr} {es : List Expr} {pos apos : Pos} {n : Nat} {zs zk : Zs → Mh → (List PV → Mh → Prop) → Prop}
theorem zk_nil : PK X [] (liftA G X.K 0 fun _ M Q => Q [] M) :=
  ⟨fun pos pins s σV H Q I ⟨F, σ, M, Q0, A, rs, z, t⟩ => pk_nil.run pos pins s σV H Q I (t [] M F H [] (Same.refl F) A .nil rfl z)⟩
theorem zk_cons {nm : Option Str} {kpos : Pos} {kws : List Keyword} (he : PE X e (liftE G X.K za)) (hr : PK X kws (liftA G X.K n zs)) : PK X (⟨nm, e, kpos⟩ :: kws) (liftA G X.K (n + 1) fun σ M Q => za σ M fun x M1 => zs σ M1 fun xs M2 => Q (x :: xs) M2) :=
  ⟨fun pos pins s σV H Q I ⟨F, σ, M, Q0, A, rs, z, t⟩ => (pk_cons he hr).run pos pins s σV H Q I ⟨F, σ, M, _, A, rs, z, fun p M1 F1 H1 v s1 a1 r1 q1 => ⟨F1, σ, M1, _, a1, rs.mono s1, q1, fun ps M2 F2 H2 vs s2 a2 r2 l2 q2 =>
    t _ M2 F2 H2 _ (s1.trans s2) a2 (.cons (r1.mono s2) r2) (by rw [List.length_cons, l2]) q2⟩⟩⟩
theorem z_make (ok : Ok G B Φ c X R) {j f k m n' : Nat} {mk : Mkr} {x : Str} {lay : List Str} {p : Pos} {ds : List DV} {kws : List Keyword} (hj : B.mks[j]? = some mk) (hc : G.cls[k]? = some (x, lay)) (hmc : mk.c = k) (hmf : mk.f = f) (hmn : mk.n = n) (hmk : mk.ks = kwNames kws) (hmd : mk.ds = ds) (hlay : lay.length = m) (hlim : f + 1 < c.lim)
    (hk : kwAll kws = true) (hg : glB c.sc x = true) (hn : niceB x = true) (hst : (e :: es).all notStar = true) (ha : PA X (e :: es) (liftA G X.K n zs)) (hkw : PK X kws (liftA G X.K n' zk)) (hkl : n' = (kwNames kws).length) :
    PE X (.Call (.Name x p) (e :: es) kws pos) (liftE G X.K fun σ M Q => zs σ M fun vs M1 => zk σ M1 fun ws M2 => ∀ y, M2 y = none → Φ f (.ref y :: (vs ++ (ws ++ ds.map DV.pv))) (put M2 y (.ins k (List.replicate m none))) (fun v M3 => v = .non ∧ Q (.ref y) M3) fun x M3 => R x σ M3) := by
  subst hmc hmf hmn hmd hlay
  obtain ⟨nm', lay', fn, fd, g, dvs, c1, c2, ho, hM, hmg, hb, hr⟩ := ok.tab.mks j mk hj (by omega)
  rw [hc] at c1
  cases c1
  have ho := ho G.F0
  rw [hmk] at hb
  have room : Room (mk.f + 1 + 1) X.A := ok.room.mono hlim
  refine peI (makeAny (p := p) (pos := pos) hM ho room (ok.gl hg) hmg hb ok.tk ha hkw hk rfl hst (nice_of hn).1) fun σV H Q ⟨F, σ, M, Q0, A, rs, z, t⟩ => ?_
  refine ⟨F, σ, M, _, A, rs, z, fun ps M1 F1 H1 vs s1 a1 r1 l1 q1 => ⟨F1, σ, M1, _, a1, rs.mono s1, q1, fun qs M2 F2 H2 us s2 a2 r2 l2 q2 => ⟨⟨l1, l2.trans hkl⟩, fun y dy hy hdy hne => ?_⟩⟩⟩
  have a3 : Ab G X.K F2 M2 (upd H2 dy (.own y)) := a2.newU hdy
  have hy' : upd H2 dy (.own y) y = none := by rw [upd_ne (Ne.symm hne)]; exact hy
  have a4 : Ab G X.K F2 (put M2 y (.ins mk.c (List.replicate lay.length none))) (upd (upd H2 dy (.own y)) y (.ins (He.ga X.K x) dy [])) := by
    refine a3.newM hy' ⟨x, lay, dy, [], hc, rfl, List.nodup_nil, List.length_replicate, fun f h => absurd rfl h, fun i p f h => ?_⟩
    rw [List.getElem?_replicate] at h
    split at h <;> cases h
  have z4 := q2 y (a2.free hy).1
  refine conc_of (F0 := F) (Q0 := fun v M3 => v = .non ∧ Q0 (.ref y) M3) a4 ((rs.mono s1).mono s2) (.cons (.ref y) ((r1.mono s2).append (r2.append (hr F2)))) z4 ?_
  intro p5 M5 F5 H5 v5 s5 a5 r5 q5
  obtain ⟨rfl, q5⟩ := q5
  cases r5
  exact ⟨rfl, t _ M5 F5 H5 _ ((s1.trans s2).trans s5) a5 (.ref y) q5⟩
/-! ### changes by an operator -/
theorem get_list : PGet X fun x i H Q => ∃ p xs k v, x = .ref p ∧ i = .int k ∧ 0 ≤ k ∧ H p = some (.lst xs) ∧ xs[k.toNat]? = some v ∧ Q v H := by
  intro pins s σ H x i ov iv Q I rx ri h
  obtain ⟨p, xs, k, v, rfl, rfl, h0, hp, hv, q⟩ := h
  cases rx
  obtain ⟨t, rfl⟩ := ri
  obtain ⟨its, r, pl, hz⟩ := I.list (SqL.of hp)
  obtain ⟨w, ew, rw'⟩ := r.get hv
  have hl : k.toNat < xs.length := by
    by_cases hk : k.toNat < xs.length
    · exact hk
    · rw [List.getElem?_eq_none (by omega)] at hv; cases hv
  have hn := line63
  exact wpAny_getItem_list pl.isList h0 (by omega) (by simpa using ew) ⟨v, H, I, rw', q⟩
theorem aug_sub {i : Expr} (h : notSlice i = true) : ∀ ov iv new, augStore i ov iv new = (do holding [new, ov, iv] (setItem ov iv new); release [new, ov, iv] []; pure .next) := by
  intro ov iv new
  cases i <;> first | rfl | cases h
theorem snd_aug (op : BOp) : ∃ ti, PIp X op.op ti ∧ ∀ F M H x y p q Q0 Q, Ab G X.K F M H → RV G X.K F x p → RV G X.K F y q → zaug op p q M Q0 → TQ G X.K F Q0 Q → ti x y H Q := by
  cases op with
  | add =>
    refine ⟨_, opr_or iop_add (opr_or iop_add_str iop_ext), fun F M H x y p q Q0 Q A rx ry h t => ?_⟩
    cases rx with
    | int i =>
      cases ry with
      | int j => exact .inl ⟨i, j, rfl, rfl, t _ M F H _ (Same.refl F) A (.int _) h⟩
      | _ => exact False.elim h
    | str a =>
      cases ry with
      | str b => exact .inr <| .inl ⟨a, b, rfl, rfl, h.1, t _ M F H _ (Same.refl F) A (.str _) h.2⟩
      | _ => exact False.elim h
    | ref l =>
      obtain ⟨xs, e, h⟩ := h
      obtain ⟨_, o, ho, vs, rfl, rv⟩ := A.mu l _ e
      obtain ⟨b, ws, ys, rfl, hb, rw', hz, h⟩ := rdM_of A ry h
      refine .inr <| .inr ⟨l, b, vs, ws, rfl, rfl, ho, hb, by rw [rv.length, rw'.length]; exact hz, ?_⟩
      exact t _ _ F _ _ (Same.refl F) (A.write (m := .lst (xs ++ ys)) e ⟨_, rfl, rv.append rw'⟩) (.ref l) h
    | _ => cases ry <;> exact False.elim h
  | sub =>
    refine ⟨_, ip_sub, fun F M H x y p q Q0 Q A rx ry h t => ?_⟩
    cases rx with
    | int i =>
      cases ry with
      | int j => exact ⟨i, j, rfl, rfl, t _ M F H _ (Same.refl F) A (.int _) h⟩
      | _ => exact False.elim h
    | _ => exact False.elim h
  | _ => exact ⟨fun _ _ _ _ => False, fun _ _ _ _ _ _ _ _ _ _ _ _ h => False.elim h, fun F M H x y p q Q0 Q A rx ry h t => False.elim h⟩
theorem zs_augsub (op : BOp) {i : Expr} {tpos : Pos} (hns : notSlice i = true) (ho : PE X o (liftE G X.K za)) (hi : PE X i (liftE G X.K zb)) (he : PE X e (liftE G X.K zc)) : PS X (.AugAssign (.Subscript o i tpos) op.op e pos) (liftS G X.K fun D σ M => za σ M fun x M1 => zb σ M1 fun y M2 => (match x, y with
    | .ref p, .int j => ∃ xs z, M2 p = some (.lst xs) ∧ (0 ≤ j ∧ xs[j.toNat]? = some z) ∧ zc σ M2 fun w M4 => zaug op z w M4 fun r M5 => ∃ ys, M5 p = some (.lst ys) ∧ j.toNat < ys.length ∧ D.nx σ (put M5 p (.lst (ys.set j.toNat r)))
    | _, _ => False)) := by
  obtain ⟨ti, h1, h2⟩ := snd_aug (G := G) (X := X) op
  refine psI (ps_augS (pos := pos) ho hi get_list he h1 set_list (aug_sub hns)) fun D σV H ⟨F, σ, M, D0, A, rs, z, t⟩ => ?_
  refine ⟨F, σ, M, _, A, rs, z, fun x M1 F1 H1 vx s1 a1 r1 q1 => ⟨F1, σ, M1, _, a1, rs.mono s1, q1, fun y M2 F2 H2 vy s2 a2 r2 q2 => ?_⟩⟩
  cases r1 with
  | ref ad =>
    cases r2 with
    | int j =>
      obtain ⟨xs, z, e1, ⟨e2, e3⟩, q2⟩ := q2
      obtain ⟨_, o, ho, vs, rfl, rv⟩ := a2.mu ad _ e1
      obtain ⟨u, hu, ru⟩ := rv.get e3
      refine ⟨ad, vs, j, u, rfl, rfl, e2, ho, hu, ?_⟩
      refine ⟨F2, σ, M2, _, a2, (rs.mono s1).mono s2, q2, fun w M4 F4 H4 vw s4 a4 r4 q4 => ?_⟩
      refine h2 F4 M4 H4 u vw z w _ _ a4 (ru.mono s4) r4 q4 fun r M5 F5 H5 vr s5 a5 r5 q5 => ?_
      obtain ⟨ys, e5, hl, q5⟩ := q5
      obtain ⟨_, o', ho', vs', rfl, rv'⟩ := a5.mu ad _ e5
      refine ⟨ad, vs', j, j.toNat, rfl, rfl, ho', ?_, ?_⟩
      · have : place ys.length j = some j.toNat := by
          cases j with
          | ofNat k => show (if k < ys.length then some k else none) = _; rw [if_pos (show k < ys.length from hl)]; rfl
          | negSucc k => omega
        rw [place_ix] at this
        rw [rv'.length]; exact this
      · have ss := (((s1.trans s2).trans s4).trans s5)
        exact t.nx _ _ F5 _ _ ss (a5.write (m := .lst (ys.set j.toNat r)) e5 ⟨_, rfl, rv'.set r5 _⟩) (rs.mono ss) q5
    | _ => exact False.elim q2
  | _ => cases r2 <;> exact False.elim q2
theorem zs_augvar (ok : Ok G B Φ c X R) (op : BOp) {i : Nat} {x : Str} {tpos : Pos} (hst : storeB c i x = true) (he : PE X e (liftE G X.K za)) : PS X (.AugAssign (.Name x tpos) op.op e pos) (liftS G X.K fun D σ M => (match σ[i]? with
    | some (some v) => za σ M fun y M1 => zaug op v y M1 fun z M2 => D.nx (σ.set i (some z)) M2
    | _ => False)) := by
  obtain ⟨ti, h1, h2⟩ := snd_aug (G := G) (X := X) op
  unfold storeB at hst
  simp only [Bool.and_eq_true, decide_eq_true_eq, Bool.or_eq_true] at hst
  obtain ⟨⟨g1, g2⟩, g3⟩ := hst
  refine psI (ps_aug (pos := pos) (pos' := tpos) (i := i) (x := x) (by rw [ok.hN]; exact ok.nd) (by rw [ok.hN]; exact g1) (by rw [ok.sc]; exact loc_of g2) he h1 (by
    rcases g3 with g | g
    · exact .inl (by rw [ok.fn]; exact g)
    · exact .inr (by rw [ok.sc]; exact local_of g))) fun D σV H ⟨F, σ, M, D0, A, rs, z, t⟩ => ?_
  have z : (match σ[i]? with
    | some (some v) => za σ M fun y M1 => zaug op v y M1 fun z M2 => D0.nx (σ.set i (some z)) M2
    | _ => False) := z
  cases q : σ[i]? with
  | none => rw [q] at z; exact z.elim
  | some oo =>
    cases oo with
    | none => rw [q] at z; exact z.elim
    | some v =>
      rw [q] at z
      obtain ⟨u, hu, ru⟩ := rs.at_ i v q
      refine ⟨u, hu, F, σ, M, _, A, rs, z, fun y M1 F1 H1 vy s1 a1 r1 q1 => ?_⟩
      refine h2 F1 M1 H1 u vy v y _ _ a1 (ru.mono s1) r1 q1 fun r M2 F2 H2 vr s2 a2 r2 q2 => ?_
      exact t.nx _ _ F2 _ _ (s1.trans s2) a2 ((rs.mono (s1.trans s2)).set r2) q2
end
end Z
set_option Elab.async false
set_option linter.all false
set_option maxRecDepth 100000
set_option maxHeartbeats 8000000
namespace Z
open PySem PySem.Spec PyProof.Rows L2
abbrev sob (w : World) : Obj := { cls := .type "set", dict := none, data := .set #[] 0 (.fresh 0 0 (!w.params.followText "set-order")) }
section
variable {P : Program} {w : World} {A : Around} {E : Value → Shared → Prop} {s : Shared}
/-- set(xs) of a list of ints -/
theorem set_of_list {l : Addr} {items : Array Value} (ns : List Int) {Q : Value → Shared → Prop} (qh : A.handled = none) (ql : s.heap.IsList l items) (qi : IntsAre items.toList ns) (qb : ns.length + 1 < scanBound)
    (fin : ∀ (h' : Heap) (tk c : Nat), SetR w h' s.heap.objs.size (fun j => decide (j ∈ ns)) c → c ≤ ns.length → (∀ b o, s.heap.get? b = some o → h'.get? b = some o) → Q (.ref s.heap.objs.size) { s with heap := h', toks := tk }) :
    wpAny (model P w) A (call (.type "set") [.ref l]) Q E s := by
  have qz : items.size = ns.length := (Array.length_toList (xs := items)).symm.trans (IntsAre.length qi)
  obtain ⟨mc, mt, qmro⟩ := F.called_set.mro
  have qmade := F.called_set.made
  have qsub := F.called_set.sub
  refine wpAny_call (codeAny_of_tree ?_)
  show wpAny _ _ (PySem.callAny (.type "set") _) _ _ _
  refine wpAny_pure ⟨Code.quiet_builtin _ (by decide +kernel), codeAny_builtin F.entry_type_call ?_⟩
  rw [Around.under_plain (weight_type_call_type "set" [.ref l] []) rfl]
  have q1 := F.called_set.notType
  have q2 := F.called_set.canCreate
  have q3 := F.typeCall_set_1 (.ref l)
  repeat (any_goals (first | assumption | wp_step))
  refine codeAny_mono (code_set_led1 (.ref l) (E := E) (Q₁ := fun obj s₁ => obj = .ref s.heap.objs.size ∧ s₁ = { s with heap := s.heap.push (sob w) }) ⟨rfl, rfl⟩) fun r s₁ hr => ?_
  cases r with
  | error e => exact hr
  | ok fl =>
    cases fl with
    | ret obj =>
      obtain ⟨rfl, rfl⟩ := hr
      have gS : (s.heap.push (sob w)).get? s.heap.objs.size = some (sob w) := Heap.get?_push_size _ rfl
      have gT : Shared.TypeIs { s with heap := s.heap.push (sob w) } (.ref s.heap.objs.size) "set" := ⟨_, gS, rfl⟩
      have gl := F.called_set.init.lookup
      have gb := F.called_set.init.bind (.ref s.heap.objs.size)
      repeat (any_goals (first | assumption | wp_step))
      refine codeAny_mono (codeAny_call_builtin (R := wants (fun r s₂ => r = .none ∧ ∃ h' tk c, s₂ = { s with heap := h', toks := tk } ∧ SetR w h' s.heap.objs.size (fun j => decide (j ∈ ns)) c ∧ c ≤ ns.length ∧
          ∀ b o, s.heap.get? b = some o → h'.get? b = some o) E) F.called_set.init.plain F.entry_set_init (check_set_init_1 gT ?_)) fun r₂ s₂ hr₂ => ?_
      · obtain ⟨ol, gol, gcl, gn, gdl⟩ := ql
        obtain ⟨ocls, odict, odata, oslots⟩ := ol
        simp only at gcl gdl
        subst gcl; subst gdl
        have gol' : (s.heap.push (sob w)).get? l = some { cls := .type "list", dict := odict, data := .seq items gn, slots := oslots } := Heap.get?_push_of_some _ gol
        have gls := F.sub_list_set
        have glf := F.sub_list_frozenset
        have gne : (Value.type "list" == Value.type "dict") = false := by decide
        have gl1 : (s.heap.push (sob w)).IsList l items := ⟨_, gol', rfl, gn, rfl⟩
        unfold Builtin.«set.__init__» noKeywords Builtin.Frozenset.updateFrom
        generalize gPI : pyIter = PI
        wp_walk
        subst gPI
        refine wpAny_pyIter_list gl1 ?_
        refine wpAny_bind (wpAny_runValue ?_)
        have glS : l < s.heap.objs.size := Heap.lt_size gol
        have gh3 : A.in1.in1.in1.handled = none := by simp [qh]
        have gz : (s.heap.push (sob w)).objs.size = s.heap.objs.size + 1 := Heap.size_push ..
        have gneI : l ≠ (s.heap.push (sob w)).objs.size := by rw [gz]; exact Nat.ne_of_lt (Nat.lt_succ_of_lt glS)
        have gSf : s.heap.objs.size ∉ [(s.heap.push (sob w)).objs.size, l] := by
          rw [gz]
          intro q
          rcases List.mem_cons.mp q with q | q
          · exact absurd q (Nat.ne_of_lt (Nat.lt_succ_self _))
          · exact absurd (List.mem_singleton.mp q) (Nat.ne_of_gt glS)
        have gval : ∀ (i : Nat) (v : Value), items[i]? = some v → ∃ k t, ns[i]? = some k ∧ v = .int k t := fun i v hv => by
          have hi : i < ns.length := by rw [← qz]; exact (Array.getElem?_eq_some_iff.mp hv).1
          obtain ⟨t, e⟩ := IntsAre.int_at qi i v (by rw [Array.getElem?_toList]; exact hv)
          exact ⟨ns[i], t, List.getElem?_eq_getElem hi, by rw [e, List.getD_eq_getElem?_getD, List.getElem?_eq_getElem hi] <;> rfl⟩
        refine set_update_ints ((Walks.list gh3 _ l gneI items).toS) s.heap.objs.size gSf ns qz qb gval (items.size - 0) 0 _ (by omega) (Nat.zero_le _)
          ⟨⟨_, Heap.get?_push_size _ rfl, rfl, rfl⟩, gl1.push _⟩ ⟨0, Nat.le_refl 0, setR_new_at (Heap.get?_push_of_some _ gS)⟩ fun s' c' hm hc' hS' => ?_
        obtain ⟨h', g2, d', tk', os'⟩ := s'
        obtain rfl : g2 = s.gens := hm.gens
        obtain rfl : d' = s.drawn := hm.drawn
        obtain rfl : os' = s.os := hm.os
        rw [qz] at hc'
        refine wpAny_pure ?_
        show wpAny _ _ (ret Value.none) _ _ _
        refine wpAny_pure ⟨rfl, h', tk', c', rfl, hS', hc', fun b o e => ?_⟩
        have hb0 : b < s.heap.objs.size := Heap.lt_size e
        refine hm.heap b o (fun q => ?_) (Heap.get?_push_of_some _ (Heap.get?_push_of_some _ e))
        rcases List.mem_cons.mp q with q | q
        · exact absurd q (Nat.ne_of_lt hb0)
        · have := List.mem_singleton.mp q
          rw [gz] at this
          exact absurd this (Nat.ne_of_lt (Nat.lt_succ_of_lt hb0))
      · cases r₂ with
        | error e => exact hr₂
        | ok fl₂ =>
          cases fl₂ with
          | ret r =>
            obtain ⟨rfl, h', tk, c', rfl, hS', hc', hk'⟩ := hr₂
            repeat (any_goals (first | assumption | wp_step))
            exact fin _ _ _ hS' hc' hk'
          | _ => exact hr₂.elim
    | _ => exact hr.elim
end
end Z
set_option Elab.async false
set_option linter.all false
set_option maxRecDepth 100000
set_option maxHeartbeats 8000000
namespace Z
open PySem PySem.Spec PyProof.Rows L2
theorem ints_vals : ∀ {ns : List Int} {us : List Value}, Vals (ns.map V.int) us → IntsAre us ns
  | [], _, .nil => .nil
  | n :: ns, _, .cons ⟨k, e⟩ t => by subst e; exact .cons n k (ints_vals t)
theorem vals_ints : ∀ {ns : List Int} {us : List Value}, IntsAre us ns → Vals (ns.map V.int) us
  | [], _, .nil => .nil
  | n :: ns, _, .cons _ k t => .cons ⟨k, rfl⟩ (vals_ints t)
section
variable {X : Cx} {a : Expr} {ta : TE} {p1 p2 p3 pos : Pos}
def tSet2 (K : PySem.W.Frag) (ta : TE) (k : List Int → Hp → VK → Prop) : TE := fun σ H Q => ta σ H fun x H1 => ∃ (l : Addr) (ns : List Int), x = .ref l ∧ SqL K H1 l (ns.map V.int) ∧ ns.length < 60 ∧ k ns H1 Q
/-- the set is made, then asked -/
theorem set_then {f : Str} {id : String} {k : List Int → Hp → VK → Prop} (hc : X.calm = true) (hg : Gl X f) (hm : X.mg f = none) (hbt : bootBuiltins f = some (.builtin id)) (hn : f ≠ "__name__") (hd : (f == ("__debug__" : Str)) = false) (hg2 : Gl X "set") (hm2 : X.mg "set" = none) (ha : PE X a ta)
    (na : starEach [a] X.env = (false, eval a X.env) :: starEach [] X.env)
    (ask : ∀ (pins : List (Addr × Obj)) (s : Shared) (σ : L2.St) (H : Hp) (Q : VK) (ns : List Int) (S : Addr) (c : Nat), Inv X pins σ H s → SetR X.w s.heap S (fun j => decide (j ∈ ns)) c → c ≤ ns.length → ns.length < 60 → k ns H Q → wpAny (model X.prog X.w) X.A (call (.builtin id) [.ref S]) (EP X pins σ Q) X.xe s) :
    PE X (.Call (.Name f p1) [.Call (.Name "set" p2) [a] [] p3] [] pos) (tSet2 X.K ta k) := by
  refine ⟨fun pins s σ H Q I h => Call_ (ld_blt I hg hm hbt ?_ hn hd)⟩
  refine callWith_builtin1 (args_cons (Call_ (ld_blt I hg2 hm2 boot_set ?_)) rfl) rfl rfl
  refine callWith_type1 (args_cons (thn (ha.run pins s σ H _ I h) fun v s1 z => args_nil ?_) na) na rfl
  obtain ⟨x, H1, I1, r1, l, ns, rfl, hq, hl, q1⟩ := z
  cases r1
  obtain ⟨its, r, pl, hz⟩ := I1.list hq
  refine set_of_list ns (I1.ok.hd hc) pl.isList (by simpa using ints_vals r) (Nat.lt_of_lt_of_le (show ns.length + 1 < 62 by omega) (by decide)) fun h' tk c hS hcl hk => ?_
  refine args_nil ?_
  exact ask pins _ σ H1 Q ns _ c (I1.kept (t' := tk) fun b o e => hk b o e) hS hcl hl q1
theorem pe_sortset (hc : X.calm = true) (hg : Gl X "sorted") (hm : X.mg "sorted" = none) (hg2 : Gl X "set") (hm2 : X.mg "set" = none) (ha : PE X a ta) (na : starEach [a] X.env = (false, eval a X.env) :: starEach [] X.env) :
    PE X (.Call (.Name "sorted" p1) [.Call (.Name "set" p2) [a] [] p3] [] pos) (tSet2 X.K ta fun ns H Q => ∀ (ms : List Int) (q : Addr), ms.Pairwise (· < ·) → (∀ k, k ∈ ms ↔ k ∈ ns) → H q = none → Q (.ref q) (upd H q (.lst (ms.map V.int)))) := by
  refine set_then hc hg hm boot_sorted (by decide) (by decide) hg2 hm2 ha na fun pins s σ H Q ns S c I R hcl hl q => ?_
  refine sorted_set R (I.ok.hd hc) (by omega) fun s' p out cc ms k g o hp hgt hi hs hmm hln => ?_
  have hlen : (ms.map V.int).length ≤ sizeLine := by rw [List.length_map, hln, sizeLine_eq]; omega
  have hnew : H p = none := I.hok.fresh hp
  have J : Inv X pins σ (upd H p (.lst (ms.map V.int))) { s with heap := s'.heap, gens := s'.gens, drawn := s'.drawn, toks := s'.toks } :=
    I.call (ch := []) (Un.laid k hp hnew) (I.hok.laid k hp ⟨hlen, out.toList, cc, vals_ints hi, hgt⟩) (by rw [g]; exact I.bare) (fun _ z => nomatch z)
  have e : s' = { s with heap := s'.heap, gens := s'.gens, drawn := s'.drawn, toks := s'.toks } := by
    obtain ⟨_, _, _, _, _⟩ := s'
    obtain ⟨_, _, _, _, _⟩ := s
    cases o
    rfl
  rw [e]
  exact ⟨.ref p, _, J, rfl, q ms p hs (fun j => (hmm j).trans decide_eq_true_iff) hnew⟩
theorem pe_lenset (hc : X.calm = true) (hg : Gl X "len") (hm : X.mg "len" = none) (hg2 : Gl X "set") (hm2 : X.mg "set" = none) (ha : PE X a ta) (na : starEach [a] X.env = (false, eval a X.env) :: starEach [] X.env) :
    PE X (.Call (.Name "len" p1) [.Call (.Name "set" p2) [a] [] p3] [] pos) (tSet2 X.K ta fun ns H Q => ∀ k : Nat, (∃ ms : List Int, ms.Nodup ∧ (∀ z, z ∈ ms ↔ z ∈ ns) ∧ ms.length = k) → Q (.int k) H) := by
  refine set_then hc hg hm boot_len (by decide) (by decide) hg2 hm2 ha na fun pins s σ H Q ns S c I R hcl hl q => ?_
  obtain ⟨o, es, ep, t, ho, hex, hd, _, nd, mem, hsz, hf, hn, _⟩ := R
  have hq : Q (.int (c : Nat)) H := q c ⟨es.toList.map keyOf, nd, fun z => (mem z).symm.trans decide_eq_true_iff, by rw [List.length_map, Array.length_toList, hn]⟩
  refine call_len_set ho hex hd hf (by rw [hn]; omega) ⟨.int (c : Nat), H, I.tok _, ⟨_, by rw [hn]⟩, hq⟩
end
end Z
set_option Elab.async false
set_option linter.all false
set_option maxRecDepth 100000
set_option maxHeartbeats 4000000
namespace Z
open PySem PySem.Spec PyProof.Rows L2
section
variable {G : Cfg} {B : Tb} {Φ : Nat → ZSp} {c : CC} {X : Cx} {R : ZR} {za zb zc : Zs → Mh → ZQ → Prop} {a b d e o : Expr} {es : List Expr} {pos apos : Pos}
theorem z_lenset (ok : Ok G B Φ c X R) {p1 p2 p3 : Pos} (h1 : freeB B c "len" = true) (h2 : freeB B c "set" = true) (hs : notStar a = true) (ha : PE X a (liftE G X.K za)) :
    PE X (.Call (.Name "len" p1) [.Call (.Name "set" p2) [a] [] p3] [] pos) (liftE G X.K fun σ M Q => za σ M fun x M1 => zlenset x M1 Q) := by
  obtain ⟨g1, m1, _, _⟩ := ok.free h1
  obtain ⟨g2, m2, _, _⟩ := ok.free h2
  refine peI (pe_lenset ok.calm g1 m1 g2 m2 ha (star_of hs _ _)) fun σV H Q ⟨F, σ, M, Q0, A, rs, z, t⟩ => ⟨F, σ, M, _, A, rs, z, fun p M1 F1 H1 v s1 a1 r1 q1 => ?_⟩
  obtain ⟨ad, vs, xs, rfl, hq, rr, ns, rfl, hl, q1⟩ := rdL_of a1 r1 q1
  rw [rr.ints_of] at hq
  exact ⟨ad, ns, rfl, hq, hl, fun k hk => t _ M1 F1 H1 _ s1 a1 (.int _) (q1 k hk)⟩
theorem z_sortedset (ok : Ok G B Φ c X R) {p1 p2 p3 : Pos} (h1 : freeB B c "sorted" = true) (h2 : freeB B c "set" = true) (hs : notStar a = true) (ha : PE X a (liftE G X.K za)) :
    PE X (.Call (.Name "sorted" p1) [.Call (.Name "set" p2) [a] [] p3] [] pos) (liftE G X.K fun σ M Q => za σ M fun x M1 => zsortedset x M1 Q) := by
  obtain ⟨g1, m1, _, _⟩ := ok.free h1
  obtain ⟨g2, m2, _, _⟩ := ok.free h2
  refine peI (pe_sortset ok.calm g1 m1 g2 m2 ha (star_of hs _ _)) fun σV H Q ⟨F, σ, M, Q0, A, rs, z, t⟩ => ⟨F, σ, M, _, A, rs, z, fun p M1 F1 H1 v s1 a1 r1 q1 => ?_⟩
  obtain ⟨ad, vs, xs, rfl, hq, rr, ns, rfl, hl, q1⟩ := rdL_of a1 r1 q1
  rw [rr.ints_of] at hq
  refine ⟨ad, ns, rfl, hq, hl, fun ms q h3 h4 h5 => ?_⟩
  obtain ⟨A', s'⟩ := a1.newF (p := q) (o := .lst (ms.map V.int)) h5
  exact t _ M1 _ _ _ (s1.trans s') A' (.lst upd_same (RVs'.ints ms)) (q1 ms h3 h4)
theorem z_join {o a : Expr} {apos pos : Pos} {zo za : Zs → Mh → ZQ → Prop} {G : Cfg} {X : Cx} (hl : (apos.endLine == pos.line) = true) (hbase : plainBase o = true) (hs : notStar a = true) (ho : PE X o (liftE G X.K zo)) (ha : PE X a (liftE G X.K za)) :
    PE X (.Call (.Attribute o "join" apos) [a] [] pos) (liftE G X.K fun σ M Q => zo σ M fun x M1 => (match x with
    | .str s => za σ M1 fun y M2 => zjoin s y M2 Q
    | _ => False)) := by
  refine peI (pe_join ho ha (star_of hs [] X.env) (base_of hbase _ X.env) hl) fun σV H Q ⟨F, σ, M, Q0, A, rs, z, t⟩ => ⟨F, σ, M, _, A, rs, z, fun p M1 F1 H1 v s1 a1 r1 q1 => ?_⟩
  cases r1 with
  | str s =>
    refine ⟨⟨s, rfl⟩, F1, σ, M1, _, a1, rs.mono s1, q1, fun p2 M2 F2 H2 v2 s2 a2 r2 q2 => ?_⟩
    obtain ⟨b, vs, xs, rfl, hb, rv, ys, rfl, hz, q⟩ := rdS_of a2 r2 q2
    have e : vs = ys.map V.str := strs_of rv
    subst e
    exact ⟨s, b, ys, rfl, rfl, hb, hz, t _ M2 F2 H2 _ (s1.trans s2) a2 (.str _) q⟩
  | _ => exact False.elim q1
theorem len_app_r {a b : Str} : b.length ≤ (a ++ b).length := by
  show b.cps.size ≤ (a.cps ++ b.cps).size
  rw [Array.size_append]
  omega
end
theorem ba {a b : Bool} (h : (a && b) = true) : a = true ∧ b = true := Bool.and_eq_true_iff.mp h
theorem bn {a : Bool} (h : (!a) = true) : a = false := by cases a <;> first | rfl | cases h
theorem no {P : Prop} (h : false = true) : P := by cases h
theorem notSet_of {e : Expr} (h : notSetB e = true) (env : Env) : ∀ x, foldedSetIterable e env x = pure x := by
  intro x
  cases e <;> first | rfl | cases h
section
variable {G : Cfg} {B : Tb} {Φ : Nat → ZSp}
theorem tgs_len : ∀ (ts : TgL) (es : List Expr) (c : CC), chkTgs G B c ts es = true → ts.len = es.length
  | .nil, es, c, h => by
    cases es with
    | nil => rfl
    | cons _ _ => exact no h
  | .cons t r, es, c, h => by
    cases es with
    | nil => exact no h
    | cons e es =>
      obtain ⟨h1, h2⟩ := ba (show (chkTg G B c t e && chkTgs G B c r es) = true from h)
      show r.len + 1 = es.length + 1
      rw [tgs_len r es c h2]
theorem keys_cons {k : Str} {ks : List Str} {keys : List (Option Expr)} (h : keysB (k :: ks) keys = true) : ∃ s kk p keys', keys = some (.Constant (.str s) kk p) :: keys' ∧ k = s ∧ keysB ks keys' = true := by
  unfold keysB at h
  split at h
  · rename_i h1 h2; cases h2
  · rename_i k' ks' s kk p es h1
    cases h1
    obtain ⟨h2, h3⟩ := ba h
    exact ⟨s, kk, p, es, rfl, of_decide_eq_true h2, h3⟩
  · exact no h
theorem keys_of : ∀ (ks : List Str) (keys : List (Option Expr)), keysB ks keys = true → ks.length = keys.length ∧ keys.all (·.isSome) = true
  | [], keys, h => by
    cases keys with
    | nil => exact ⟨rfl, rfl⟩
    | cons _ _ => exact no h
  | k :: ks, keys, h => by
    obtain ⟨s, kk, p, keys', rfl, rfl, h'⟩ := keys_cons h
    obtain ⟨i1, i2⟩ := keys_of ks keys' h'
    exact ⟨congrArg Nat.succ i1, i2⟩
theorem chkA_len : ∀ (es : EL) (es' : List Expr) (c : CC), chkA G B c es es' = true → es.len = es'.length
  | .nil, es', c, h => by
    cases es' with
    | nil => rfl
    | cons _ _ => exact no h
  | .cons a r, es', c, h => by
    cases es' with
    | nil => exact no h
    | cons e es' =>
      obtain ⟨h1, h2⟩ := ba (show (notStar e && (chkE G B c a e && chkA G B c r es')) = true from h)
      obtain ⟨h2, h3⟩ := ba h2
      exact congrArg Nat.succ (chkA_len r es' c h3)
theorem kw_len : ∀ {kws : List Keyword}, kwAll kws = true → (kwNames kws).length = kws.length
  | [], _ => rfl
  | ⟨none, _, _⟩ :: _, h => no h
  | ⟨some a, _, _⟩ :: kws, h => congrArg Nat.succ (kw_len (kws := kws) h)
mutual
theorem sndE : ∀ (m : E) (c : CC) (e : Expr) (X : Cx) (R : ZR), Ok G B Φ c X R → chkE G B c m e = true → PE X e (liftE G X.K (semE Φ R m))
  | .var i, c, e, X, R, ok, h => by
    cases e with
    | Name x p =>
      obtain ⟨h1, h2⟩ := ba (show (decide (c.N[i]? = some x) && visB c.sc x && niceB x) = true from h)
      obtain ⟨h0, h1⟩ := ba h1
      exact z_var ok (of_decide_eq_true h0) h1 h2
    | _ => exact no h
  | .non, c, e, X, R, ok, h => by
    cases e with
    | Constant v k p =>
      cases v with
      | none => exact zcst pe_non fun F => .non
      | _ => exact no h
    | _ => exact no h
  | .bl b, c, e, X, R, ok, h => by
    cases e with
    | Constant v k p =>
      cases v with
      | bool b' =>
        obtain rfl : b = b' := eq_of_beq (show (b == b') = true from h)
        exact zcst pe_bl fun F => .bl b
      | _ => exact no h
    | _ => exact no h
  | .int i, c, e, X, R, ok, h => by
    cases e with
    | Constant v k p =>
      cases v with
      | int j =>
        obtain rfl : i = j := of_decide_eq_true h
        exact zcst pe_int fun F => .int i
      | _ => exact no h
    | _ => exact no h
  | .neg i, c, e, X, R, ok, h => by
    cases e with
    | UnaryOp op a p =>
      cases op with
      | USub =>
        cases a with
        | Constant v k p =>
          cases v with
          | int j =>
            obtain rfl : i = j := of_decide_eq_true h
            exact z_neg
          | _ => exact no h
        | _ => exact no h
      | _ => exact no h
    | _ => exact no h
  | .str s, c, e, X, R, ok, h => by
    cases e with
    | Constant v k p =>
      cases v with
      | str t =>
        obtain rfl : s = t := of_decide_eq_true h
        exact zcst pe_str fun F => .str s
      | _ => exact no h
    | _ => exact no h
  | .tup es, c, e, X, R, ok, h => by
    cases e with
    | Tuple es' k p =>
      obtain ⟨h1, h2⟩ := ba (show (chkA G B c es es' && decide (es.len < 1000)) = true from h)
      exact z_tup (sndA es c es' X R ok h1) (of_decide_eq_true h2)
    | _ => exact no h
  | .lst fz es, c, e, X, R, ok, h => by
    cases e with
    | List es' p =>
      obtain ⟨h1, h2⟩ := ba (show (chkA G B c es es' && decide (es.len < 1000)) = true from h)
      exact z_lst fz (sndA es c es' X R ok h1) (of_decide_eq_true h2)
    | _ => exact no h
  | .bin o a b, c, e, X, R, ok, h => by
    cases e with
    | BinOp a' op b' p =>
      obtain ⟨h1, h2⟩ := ba (show (opB o op && (chkE G B c a a' && chkE G B c b b')) = true from h)
      obtain ⟨h2, h3⟩ := ba h2
      rw [op_of h1]
      exact z_bin o (sndE a c a' X R ok h2) (sndE b c b' X R ok h3)
    | _ => exact no h
  | .cat a b, c, e, X, R, ok, h => by
    cases e with
    | BinOp a' op b' p =>
      obtain ⟨h1, h2⟩ := ba (show (opB .add op && (chkE G B c a a' && chkE G B c b b')) = true from h)
      obtain ⟨h2, h3⟩ := ba h2
      rw [op_of h1]
      exact z_cat (sndE a c a' X R ok h2) (sndE b c b' X R ok h3)
    | _ => exact no h
  | .cmp o a b, c, e, X, R, ok, h => by
    cases e with
    | Compare a' ops bs p =>
      match ops, bs, h with
      | [op], [b'], h =>
        obtain ⟨h1, h2⟩ := ba (show ((copB o op && !behindInMarks op b') && (chkE G B c a a' && chkE G B c b b')) = true from h)
        obtain ⟨h1, h4⟩ := ba h1
        obtain ⟨h2, h3⟩ := ba h2
        rw [cop_of h1] at h4 ⊢
        exact z_cmp ok.units o (sndE a c a' X R ok h2) (sndE b c b' X R ok h3) (bn h4)
    | _ => exact no h
  | .chain o o' a b d, c, e, X, R, ok, h => by
    cases e with
    | Compare a' ops bs p =>
      match ops, bs, h with
      | [op, op'], [b', d'], h =>
        obtain ⟨h1, h2⟩ := ba (show ((copB o op && copB o' op' && !lastMarks [op, op'] [b', d']) && (chkE G B c a a' && (chkE G B c b b' && chkE G B c d d'))) = true from h)
        obtain ⟨h1, h4⟩ := ba h1
        obtain ⟨h1, h1'⟩ := ba h1
        obtain ⟨h2, h3⟩ := ba h2
        obtain ⟨h3, h5⟩ := ba h3
        rw [cop_of h1, cop_of h1'] at h4 ⊢
        exact z_chain ok.units o o' (sndE a c a' X R ok h2) (sndE b c b' X R ok h3) (sndE d c d' X R ok h5) (bn h4)
    | _ => exact no h
  | .bool isAnd es, c, e, X, R, ok, h => by
    cases e with
    | BoolOp op es' p =>
      obtain ⟨h1, h2⟩ := ba (show (boolB op isAnd && chkA G B c es es') = true from h)
      cases op with
      | And =>
        obtain rfl : isAnd = true := h1
        exact sndB true es c es' X R ok h2 p
      | Or =>
        obtain rfl : isAnd = false := bn h1
        exact sndB false es c es' X R ok h2 p
    | _ => exact no h
  | .not a, c, e, X, R, ok, h => by
    cases e with
    | UnaryOp op a' p =>
      cases op with
      | Not => exact z_not (sndE a c a' X R ok h)
      | _ => exact no h
    | _ => exact no h
  | .ifx t a b, c, e, X, R, ok, h => by
    cases e with
    | IfExp t' a' b' p =>
      obtain ⟨h1, h2⟩ := ba (show (chkT G B c t t' && (chkE G B c a a' && chkE G B c b b')) = true from h)
      obtain ⟨h2, h3⟩ := ba h2
      exact z_ifx (sndT t c t' X R ok h1) (sndE a c a' X R ok h2) (sndE b c b' X R ok h3)
    | _ => exact no h
  | .isin a t, c, e, X, R, ok, h => by
    unfold chkE at h
    split at h
    · rename_i f a' n' q
      split at h
      · rename_i n q2
        obtain ⟨p1, p, rfl⟩ := call_view q
        obtain ⟨p2, rfl⟩ := name_view q2
        obtain ⟨h1, h2⟩ := ba h
        obtain ⟨h2, h3⟩ := ba h2
        obtain ⟨h3, h4⟩ := ba h3
        obtain ⟨h4, h5⟩ := ba h4
        obtain ⟨h5, h6⟩ := ba h5
        exact z_isin ok t (of_decide_eq_true h1) h2 (of_decide_eq_true h3) h4 h5 (sndE a c a' X R ok h6)
      · exact no h
    · exact no h
  | .idx a b, c, e, X, R, ok, h => by
    cases e with
    | Subscript a' b' p =>
      obtain ⟨h1, h2⟩ := ba (show (notSlice b' && (chkE G B c a a' && chkE G B c b b')) = true from h)
      obtain ⟨h2, h3⟩ := ba h2
      exact z_idx (by have := ok.units; omega) (sndE a c a' X R ok h2) (sndE b c b' X R ok h3) h1
    | _ => exact no h
  | .slice a lo hi, c, e, X, R, ok, h => by
    cases e with
    | Subscript a' b' p =>
      cases b' with
      | Slice lo' hi' st p2 =>
        cases st with
        | none =>
          obtain ⟨h1, h2⟩ := ba (show (chkE G B c a a' && (chkO G B c lo lo' && chkO G B c hi hi')) = true from h)
          obtain ⟨h2, h3⟩ := ba h2
          exact z_slice (sndE a c a' X R ok h1) (sndO lo c lo' X R ok h2) (sndO hi c hi' X R ok h3)
        | some _ => exact no h
      | _ => exact no h
    | _ => exact no h
  | .attr a k i, c, e, X, R, ok, h => by
    cases e with
    | Attribute a' f p =>
      obtain ⟨h1, h2⟩ := ba (show (fieldB G k i f && (plainBase a' && chkE G B c a a')) = true from h)
      obtain ⟨h2, h3⟩ := ba h2
      obtain ⟨nm, lay, q1, q2, _⟩ := field_of h1
      exact z_attr ok q1 q2 h2 (sndE a c a' X R ok h3)
    | _ => exact no h
  | .call f es ds, c, e, X, R, ok, h => by
    unfold chkE at h
    split at h
    · rename_i x es' q
      obtain ⟨p1, p, rfl⟩ := call_view q
      obtain ⟨h1, h2⟩ := ba h
      obtain ⟨h2, h3⟩ := ba h2
      obtain ⟨h3, h4⟩ := ba h3
      obtain ⟨h4, h5⟩ := ba h4
      obtain ⟨fn, k1, k2, k3, k4, k5⟩ := fn_of_ h1
      refine z_call ok k1 k2 k3 k4 k5 h2 h3 h4 (sndA es c es' X R ok h5) fun e0 σ M Q z => ?_
      subst e0
      cases es with
      | nil => exact z
      | cons _ _ => exact no h5
    · exact no h
  | .meth f k o es ds, c, e, X, R, ok, h => by
    unfold chkE at h
    split at h
    · rename_i o' m es' l q
      obtain ⟨apos, p, rfl, hl⟩ := meth_view q
      obtain ⟨h1, h2⟩ := ba h
      obtain ⟨h2, h3⟩ := ba h2
      obtain ⟨h3, h4⟩ := ba h3
      obtain ⟨h4, h5⟩ := ba h4
      obtain ⟨h5, h6⟩ := ba h5
      obtain ⟨h6, h7⟩ := ba h6
      obtain ⟨fn, nm, lay, k1, k2, k3, k4, k5, k6, k7⟩ := mt_of_ h1
      refine z_meth ok k1 k2 k3 k4 k5 k6 k7 (hl.trans h2) (of_decide_eq_true h3) h4 h5 (sndE o c o' X R ok h6) (sndA es c es' X R ok h7) fun e0 σ M Q z => ?_
      subst e0
      cases es with
      | nil => exact z
      | cons _ _ => exact no h7
    · exact no h
  | .bcall b es, c, e, X, R, ok, h => by
    unfold chkE at h
    split at h
    · rename_i x e0 er q
      obtain ⟨p1, p, rfl⟩ := call_view q
      obtain ⟨h1, h2⟩ := ba h
      obtain ⟨h1, h3⟩ := ba h1
      obtain ⟨h2, h4⟩ := ba h2
      obtain ⟨h4, h5⟩ := ba h4
      exact z_bcall ok b h3 (of_decide_eq_true h1) h2 h4 (sndA es c (e0 :: er) X R ok h5)
    · exact no h
  | .lenset a, c, e, X, R, ok, h => by
    unfold chkE at h
    split at h
    · rename_i x i q
      split at h
      · rename_i y a' q2
        obtain ⟨p1, p, rfl⟩ := call_view q
        obtain ⟨p2, p3, rfl⟩ := call_view q2
        obtain ⟨h1, h2⟩ := ba h
        obtain ⟨h2, h3⟩ := ba h2
        obtain ⟨h3, h4⟩ := ba h3
        obtain ⟨h4, h5⟩ := ba h4
        obtain ⟨h5, h6⟩ := ba h5
        obtain rfl := of_decide_eq_true h1
        obtain rfl := of_decide_eq_true h2
        exact z_lenset ok h3 h4 h5 (sndE a c a' X R ok h6)
      · exact no h
    · exact no h
  | .sortedset a, c, e, X, R, ok, h => by
    unfold chkE at h
    split at h
    · rename_i x i q
      split at h
      · rename_i y a' q2
        obtain ⟨p1, p, rfl⟩ := call_view q
        obtain ⟨p2, p3, rfl⟩ := call_view q2
        obtain ⟨h1, h2⟩ := ba h
        obtain ⟨h2, h3⟩ := ba h2
        obtain ⟨h3, h4⟩ := ba h3
        obtain ⟨h4, h5⟩ := ba h4
        obtain ⟨h5, h6⟩ := ba h5
        obtain rfl := of_decide_eq_true h1
        obtain rfl := of_decide_eq_true h2
        exact z_sortedset ok h3 h4 h5 (sndE a c a' X R ok h6)
      · exact no h
    · exact no h
  | .dict fz ks vs, c, e, X, R, ok, h => by
    cases e with
    | Dict keys values p =>
      obtain ⟨h1, h2⟩ := ba (show (keysB ks keys && (decide ks.Nodup && decide (0 < ks.length ∧ ks.length ≤ 15 ∧ keys.length = values.length) && chkA G B c vs values)) = true from h)
      obtain ⟨h2, h3⟩ := ba h2
      obtain ⟨h4, h5⟩ := ba h2
      obtain ⟨d1, d2, d3⟩ := of_decide_eq_true h5
      obtain ⟨k1, k2⟩ := keys_of ks keys h1
      have l1 := chkA_len vs values c h3
      exact z_dict fz (sndP vs ks c keys values X R ok p h1 (by omega) h3) (by omega) (of_decide_eq_true h4) k2 d3 (by intro e; rw [e] at k1; rw [k1] at d1; exact Nat.lt_irrefl _ d1) (by omega) (by omega)
    | _ => exact no h
  | .make j f k n ds es kes, c, e, X, R, ok, h => by
    unfold chkE at h
    split at h
    · rename_i x e0 er kws q
      obtain ⟨p1, p, rfl⟩ := make_view q
      obtain ⟨h1, h2⟩ := ba h
      obtain ⟨h2, h3⟩ := ba h2
      obtain ⟨h3, h4⟩ := ba h3
      obtain ⟨h4, h5⟩ := ba h4
      obtain ⟨h5, h6⟩ := ba h5
      obtain ⟨h6, h7⟩ := ba h6
      obtain ⟨mk, lay, m1, m2, m3, m4, m5, m6, m7, m8, m9⟩ := mk_of_ h1
      have l1 : es.len = er.length + 1 := chkA_len es (e0 :: er) c h6
      have l2 := chkA_len kes _ c h7
      have PAs := sndA es c (e0 :: er) X R ok h6
      exact z_make ok m1 m2 m3 m4 (m5.trans l1.symm) m6 m7 m8 m9 h2 h3 h4 h5 PAs (sndK kes c kws X R ok h7) (l2.trans (by rw [List.length_map]; exact (kw_len h2).symm))
    · exact no h
  | .bmeth m o es, c, e, X, R, ok, h => by
    unfold chkE at h
    split at h
    · rename_i o' n es' l q
      obtain ⟨apos, p, rfl, hl⟩ := meth_view q
      obtain ⟨h1, h2⟩ := ba h
      obtain ⟨h2, h3⟩ := ba h2
      obtain ⟨h3, h4⟩ := ba h3
      obtain ⟨h4, h5⟩ := ba h4
      obtain ⟨h5, h6⟩ := ba h5
      obtain ⟨h6, h7⟩ := ba h6
      refine z_bmeth m (of_decide_eq_true h1) (hl.trans h2) (of_decide_eq_true h3) h4 h5 (sndE o c o' X R ok h6) (sndA es c es' X R ok h7) fun e0 σ M Q z => ?_
      subst e0
      cases es with
      | nil => exact z
      | cons _ _ => exact no h7
    · exact no h
  | .join a b, c, e, X, R, ok, h => by
    unfold chkE at h
    split at h
    · rename_i o' n e' l q
      obtain ⟨apos, p, rfl, hl⟩ := meth_view q
      obtain ⟨h1, h2⟩ := ba h
      obtain ⟨h2, h3⟩ := ba h2
      obtain ⟨h3, h4⟩ := ba h3
      obtain ⟨h4, h5⟩ := ba h4
      obtain ⟨h5, h6⟩ := ba h5
      obtain rfl := of_decide_eq_true h1
      exact z_join (hl.trans h2) h3 h4 (sndE a c o' X R ok h5) (sndE b c e' X R ok h6)
    · exact no h
  | .fstr fs, c, e, X, R, ok, h => by
    cases e with
    | JoinedStr es p =>
      obtain ⟨h1, h2⟩ := ba (show (decide (2 ≤ es.length) && chkF G B c fs es) = true from h)
      have h1 := of_decide_eq_true h1
      match es, h1, h2 with
      | v1 :: v2 :: rest, _, h2 =>
        obtain ⟨ts, pj, k⟩ := sndF fs c (v1 :: v2 :: rest) X R ok h2
        exact peI (pe_joined pj) fun σV H Q ⟨F, σ, M, Q0, A, rs, z, t⟩ => k Str.empty F σ M σV H _ _ A rs z fun out M' F' H' s' a' q => t _ M' F' H' _ s' a' (.str out) q
    | _ => exact no h
  | .comp fz own t it ifs elt, c, e, X, R, ok, h => by
    cases e with
    | ListComp elt' gens scope p =>
      match gens, h with
      | [⟨tg, iter, ifs', asy⟩], h =>
        obtain ⟨h1, h2⟩ := ba (show ((decide (asy = 0) && (blkC c.N c.sc scope (ownN c own) && (own.all fun i => decide (i < c.N.length)) && notSetB iter && t.slots.all fun i => decide (i ∈ own))) &&
          (chkI G B c it iter && (chkTg G B (inBlk c scope) t tg && (chkTL G B (inBlk c scope) ifs ifs' && (decide (ifs'.length ≤ 1) && chkE G B (inBlk c scope) elt elt'))))) = true from h)
        obtain ⟨j0, j1⟩ := ba h1
        obtain ⟨j2, j3⟩ := ba j1
        obtain ⟨j4, j5⟩ := ba j2
        obtain ⟨j6, j7⟩ := ba j4
        obtain ⟨l1, l2⟩ := ba h2
        obtain ⟨l3, l4⟩ := ba l2
        obtain ⟨l5, l6⟩ := ba l4
        obtain ⟨l7, l8⟩ := ba l6
        obtain rfl : asy = 0 := of_decide_eq_true j0
        have hk : scope.kind = .function := (blkOk_by j6).kind
        refine z_comp ok fz (slots := t.slots) j6 (fun i hi => of_decide_eq_true (List.all_eq_true.mp j3 i hi)) (notSet_of j5 X.env) (sndI it c iter X R ok tg l1) (fun s H C cl fp => sndTg t _ tg _ noR (ok.blk hk s H C cl fp) l3) (fun s H C cl fp => ?_) (fun s H C cl fp => sndE elt _ elt' _ noR (ok.blk hk s H C cl fp) l8)
        exact sndC ifs _ ifs' _ noR (ok.blk hk s H C cl fp) l5 (of_decide_eq_true l7)
    | _ => exact no h
  | .frz a, c, e, X, R, ok, h => z_frz (sndE a c e X R ok h)
theorem sndF : ∀ (fs : FL) (c : CC) (es : List Expr) (X : Cx) (R : ZR), Ok G B Φ c X R → chkF G B c fs es = true → ∃ ts, PJ X es ts ∧ ∀ acc F σ M σV H k0 Q, Ab G X.K F M H → RS G X.K F σV σ → semF Φ R fs acc σ M k0 → (∀ out M' F' H', Same F F' → Ab G X.K F' M' H' → k0 out M' → Q out H') → tJs ts acc σV H Q
  | .nil, c, es, X, R, ok, h => by
    cases es with
    | nil => exact ⟨[], .nil, fun acc F σ M σV H k0 Q A rs z t => t acc M F H (Same.refl F) A z⟩
    | cons _ _ => exact no h
  | .lit s r, c, es, X, R, ok, h => by
    unfold chkF at h
    split at h
    · rename_i x k p es
      obtain ⟨h1, h2⟩ := ba h
      obtain rfl := of_decide_eq_true h1
      obtain ⟨ts, pj, k⟩ := sndF r c es X R ok h2
      exact ⟨_, .cons pe_str pj, fun acc F σ M σV H k0 Q A rs z t => ⟨x, rfl, z.1, k _ F σ M σV H k0 Q A rs z.2 t⟩⟩
    · exact no h
  | .val a r, c, es, X, R, ok, h => by
    unfold chkF at h
    split at h
    · rename_i e k p es
      obtain ⟨h1, h2⟩ := ba h
      obtain ⟨h2, h3⟩ := ba h2
      obtain rfl := of_decide_eq_true h1
      obtain ⟨ts, pj, k⟩ := sndF r c es X R ok h3
      refine ⟨_, .cons (pe_fmt (sndE a c e X R ok h2)) pj, fun acc F σ M σV H k0 Q A rs z t => ⟨F, σ, M, _, A, rs, z, fun p M1 F1 H1 v s1 a1 r1 q1 => ?_⟩⟩
      cases r1 with
      | str y =>
        obtain ⟨q1, q2⟩ := (show (acc ++ y).length ≤ sizeLine ∧ semF Φ R r (acc ++ y) σ M1 k0 from q1)
        refine .inl ⟨y, rfl, Nat.le_trans ?_ q1, y, rfl, q1, k _ F1 σ M1 σV H1 k0 Q a1 (rs.mono s1) q2 fun out M' F' H' s' => t out M' F' H' (s1.trans s')⟩
        exact len_app_r
      | int i =>
        obtain ⟨q0, q1, q2⟩ := (show i.natAbs.log2 < 1920 ∧ (acc ++ toString i).length ≤ sizeLine ∧ semF Φ R r (acc ++ toString i) σ M1 k0 from q1)
        exact .inr ⟨i, rfl, q0, _, rfl, q1, k _ F1 σ M1 σV H1 k0 Q a1 (rs.mono s1) q2 fun out M' F' H' s' => t out M' F' H' (s1.trans s')⟩
      | _ => exact False.elim q1
    · exact no h
theorem sndA : ∀ (es : EL) (c : CC) (es' : List Expr) (X : Cx) (R : ZR), Ok G B Φ c X R → chkA G B c es es' = true → PA X es' (liftA G X.K es.len (semA Φ R es))
  | .nil, c, es', X, R, ok, h => by
    cases es' with
    | nil => exact za_nil
    | cons _ _ => exact no h
  | .cons a r, c, es', X, R, ok, h => by
    cases es' with
    | nil => exact no h
    | cons e es' =>
      obtain ⟨h1, h2⟩ := ba (show (notStar e && (chkE G B c a e && chkA G B c r es')) = true from h)
      obtain ⟨h2, h3⟩ := ba h2
      exact za_cons h1 (sndE a c e X R ok h2) (sndA r c es' X R ok h3)
theorem sndK : ∀ (es : EL) (c : CC) (kws : List Keyword) (X : Cx) (R : ZR), Ok G B Φ c X R → chkA G B c es (kws.map (·.value)) = true → PK X kws (liftA G X.K es.len (semA Φ R es))
  | .nil, c, kws, X, R, ok, h => by
    cases kws with
    | nil => exact zk_nil
    | cons _ _ => exact no h
  | .cons a r, c, kws, X, R, ok, h => by
    cases kws with
    | nil => exact no h
    | cons k kws =>
      obtain ⟨nm, e, kp⟩ := k
      obtain ⟨h1, h2⟩ := ba (show (notStar e && (chkE G B c a e && chkA G B c r (kws.map (·.value)))) = true from h)
      obtain ⟨h2, h3⟩ := ba h2
      exact zk_cons (sndE a c e X R ok h2) (sndK r c kws X R ok h3)
theorem sndP : ∀ (vs : EL) (ks : List Str) (c : CC) (keys : List (Option Expr)) (values : List Expr) (X : Cx) (R : ZR), Ok G B Φ c X R → ∀ pos, keysB ks keys = true → ks.length = vs.len → chkA G B c vs values = true → PPs X pos keys values (trsOf G X.K Φ R ks vs)
  | .nil, ks, c, keys, values, X, R, ok, pos, h, hl, h2 => by
    cases ks with
    | cons _ _ => cases hl
    | nil =>
      cases values with
      | cons _ _ => exact no h2
      | nil =>
        cases keys with
        | nil => exact pps_nil
        | cons _ _ => exact no h
  | .cons a r, ks, c, keys, values, X, R, ok, pos, h, hl, h2 => by
    cases ks with
    | nil => cases hl
    | cons k ks =>
      cases values with
      | nil => exact no h2
      | cons e values =>
        obtain ⟨g1, g2⟩ := ba (show (notStar e && (chkE G B c a e && chkA G B c r values)) = true from h2)
        obtain ⟨g2, g3⟩ := ba g2
        obtain ⟨s, kk, p, keys', rfl, rfl, h'⟩ := keys_cons h
        exact pps_cons pe_str (sndE a c e X R ok g2) (sndP r ks c keys' values X R ok pos h' (Nat.succ.inj hl) g3)
theorem sndO : ∀ (m : EO) (c : CC) (e : Option Expr) (X : Cx) (R : ZR), Ok G B Φ c X R → chkO G B c m e = true → PO X e (liftO G X.K (semO Φ R m))
  | .none, c, e, X, R, ok, h => by
    cases e with
    | none => exact zo_none
    | some _ => exact no h
  | .some a, c, e, X, R, ok, h => by
    cases e with
    | none => exact no h
    | some e => exact zo_some (sndE a c e X R ok h)
theorem sndB : ∀ (isAnd : Bool) (es : EL) (c : CC) (es' : List Expr) (X : Cx) (R : ZR), Ok G B Φ c X R → chkA G B c es es' = true → ∀ p, PE X (.BoolOp (match isAnd with | true => .And | false => .Or) es' p) (liftE G X.K (semB Φ R isAnd es))
  | isAnd, .nil, c, es', X, R, ok, h, p => by
    cases es' with
    | nil => exact ⟨fun pins s σV H Q I ⟨F, σ, M, Q0, A, rs, z, t⟩ => False.elim z⟩
    | cons _ _ => exact no h
  | isAnd, .cons a .nil, c, es', X, R, ok, h, p => by
    match es', h with
    | [e], h =>
      obtain ⟨h1, h2⟩ := ba (show (notStar e && (chkE G B c a e && chkA G B c .nil [])) = true from h)
      obtain ⟨h2, h3⟩ := ba h2
      exact z_one (sndE a c e X R ok h2)
    | e :: e2 :: er, h =>
      obtain ⟨h1, h2⟩ := ba (show (notStar e && (chkE G B c a e && chkA G B c .nil (e2 :: er))) = true from h)
      obtain ⟨h2, h3⟩ := ba h2
      exact no h3
  | isAnd, .cons a (.cons b r), c, es', X, R, ok, h, p => by
    match es', h with
    | [e], h =>
      obtain ⟨h1, h2⟩ := ba (show (notStar e && (chkE G B c a e && chkA G B c (.cons b r) [])) = true from h)
      obtain ⟨h2, h3⟩ := ba h2
      exact no h3
    | e :: e2 :: er, h =>
      obtain ⟨h1, h2⟩ := ba (show (notStar e && (chkE G B c a e && chkA G B c (.cons b r) (e2 :: er))) = true from h)
      obtain ⟨h2, h3⟩ := ba h2
      cases isAnd with
      | true => exact z_and (sndE a c e X R ok h2) (sndB true (.cons b r) c (e2 :: er) X R ok h3 p)
      | false => exact z_or (sndE a c e X R ok h2) (sndB false (.cons b r) c (e2 :: er) X R ok h3 p)
theorem sndT : ∀ (m : T) (c : CC) (e : Expr) (X : Cx) (R : ZR), Ok G B Φ c X R → chkT G B c m e = true → PT X e (liftT G X.K (semT Φ R m))
  | .val a, c, e, X, R, ok, h => by
    obtain ⟨h1, h2⟩ := ba (show (plainTest e && chkE G B c a e) = true from h)
    exact zt_val h1 (sndE a c e X R ok h2)
  | .cmp o a b, c, e, X, R, ok, h => by
    cases e with
    | Compare a' ops bs p =>
      match ops, bs, h with
      | [op], [b'], h =>
        obtain ⟨h1, h2⟩ := ba (show ((copB o op && !behindInMarks op b') && (chkE G B c a a' && chkE G B c b b')) = true from h)
        obtain ⟨h1, h4⟩ := ba h1
        obtain ⟨h2, h3⟩ := ba h2
        rw [cop_of h1] at h4 ⊢
        exact zt_cmp ok.units o (sndE a c a' X R ok h2) (sndE b c b' X R ok h3) (bn h4)
    | _ => exact no h
  | .chain o o' a b d, c, e, X, R, ok, h => by
    cases e with
    | Compare a' ops bs p =>
      match ops, bs, h with
      | [op, op'], [b', d'], h =>
        obtain ⟨h1, h2⟩ := ba (show ((copB o op && copB o' op' && !lastMarks [op, op'] [b', d']) && (chkE G B c a a' && (chkE G B c b b' && chkE G B c d d'))) = true from h)
        obtain ⟨h1, h4⟩ := ba h1
        obtain ⟨h1, h1'⟩ := ba h1
        obtain ⟨h2, h3⟩ := ba h2
        obtain ⟨h3, h5⟩ := ba h3
        rw [cop_of h1, cop_of h1'] at h4 ⊢
        exact zt_chain ok.units o o' (sndE a c a' X R ok h2) (sndE b c b' X R ok h3) (sndE d c d' X R ok h5) (bn h4)
    | _ => exact no h
  | .bool isAnd ts, c, e, X, R, ok, h => by
    cases e with
    | BoolOp op es' p =>
      obtain ⟨h1, h2⟩ := ba (show (boolB op isAnd && chkTL G B c ts es') = true from h)
      cases op with
      | And =>
        obtain rfl : isAnd = true := h1
        exact PW.pt (sndBT true ts c es' X R ok h2 p)
      | Or =>
        obtain rfl : isAnd = false := bn h1
        exact PW.pt (sndBT false ts c es' X R ok h2 p)
    | _ => exact no h
  | .not t, c, e, X, R, ok, h => by
    cases e with
    | UnaryOp op a' p =>
      cases op with
      | Not => exact zt_not (sndT t c a' X R ok h)
      | _ => exact no h
    | _ => exact no h
theorem sndBT : ∀ (isAnd : Bool) (ts : TL) (c : CC) (es' : List Expr) (X : Cx) (R : ZR), Ok G B Φ c X R → chkTL G B c ts es' = true → ∀ p, PW X (.BoolOp (match isAnd with | true => .And | false => .Or) es' p) (liftT G X.K (semBT Φ R isAnd ts))
  | isAnd, .nil, c, es', X, R, ok, h, p => ⟨fun wh pins s σV H Q I ⟨F, σ, M, Q0, A, rs, z, t⟩ => False.elim z⟩
  | isAnd, .cons a .nil, c, es', X, R, ok, h, p => by
    match es', h with
    | [e], h =>
      obtain ⟨h1, h2⟩ := ba (show (chkT G B c a e && chkTL G B c .nil []) = true from h)
      cases isAnd with
      | true => exact zw_and1 (sndT a c e X R ok h1)
      | false => exact zw_or1 (sndT a c e X R ok h1)
    | e :: e2 :: er, h =>
      obtain ⟨h1, h2⟩ := ba (show (chkT G B c a e && chkTL G B c .nil (e2 :: er)) = true from h)
      exact no h2
  | isAnd, .cons a (.cons b r), c, es', X, R, ok, h, p => by
    match es', h with
    | [e], h =>
      obtain ⟨h1, h2⟩ := ba (show (chkT G B c a e && chkTL G B c (.cons b r) []) = true from h)
      exact no h2
    | e :: e2 :: er, h =>
      obtain ⟨h1, h2⟩ := ba (show (chkT G B c a e && chkTL G B c (.cons b r) (e2 :: er)) = true from h)
      cases isAnd with
      | true => exact zw_and (sndT a c e X R ok h1) (sndBT true (.cons b r) c (e2 :: er) X R ok h2 p)
      | false => exact zw_or (sndT a c e X R ok h1) (sndBT false (.cons b r) c (e2 :: er) X R ok h2 p)
theorem sndC : ∀ (ts : TL) (c : CC) (es' : List Expr) (X : Cx) (R : ZR), Ok G B Φ c X R → chkTL G B c ts es' = true → es'.length ≤ 1 → PTs X es' (liftT G X.K (semC Φ R ts))
  | .nil, c, es', X, R, ok, h, hl => by
    cases es' with
    | nil => exact ⟨fun pins s σV H Q I ⟨F, σ, M, Q0, A, rs, z, t⟩ => pts_nil.run pins s σV H Q I (t true M F H (Same.refl F) A z)⟩
    | cons _ _ => exact no h
  | .cons a r, c, es', X, R, ok, h, hl => by
    cases es' with
    | nil => exact no h
    | cons e es' =>
      obtain ⟨h1, h2⟩ := ba (show (chkT G B c a e && chkTL G B c r es') = true from h)
      cases es' with
      | nil => exact pts_one (sndT a c e X R ok h1)
      | cons _ _ => exact absurd hl (by simp)
theorem sndI : ∀ (m : It) (c : CC) (e : Expr) (X : Cx) (R : ZR), Ok G B Φ c X R → ∀ tg, chkI G B c m e = true → PI X tg e (liftI G X.K (semI Φ R m))
  | .seq a, c, e, X, R, ok, tg, h => zi_seq (sndE a c e X R ok h)
  | .range1 a, c, e, X, R, ok, tg, h => by
    unfold chkI at h
    split at h
    · rename_i x a' q
      obtain ⟨p1, p, rfl⟩ := call_view q
      obtain ⟨h1, h2⟩ := ba h
      obtain ⟨h2, h3⟩ := ba h2
      obtain ⟨h3, h4⟩ := ba h3
      exact zi_range1 ok (of_decide_eq_true h1) h2 h3 (sndE a c a' X R ok h4)
    · exact no h
  | .range2 a b, c, e, X, R, ok, tg, h => by
    unfold chkI at h
    split at h
    · rename_i x a' b' q
      obtain ⟨p1, p, rfl⟩ := call_view q
      obtain ⟨h1, h2⟩ := ba h
      obtain ⟨h2, h3⟩ := ba h2
      obtain ⟨h3, h4⟩ := ba h3
      obtain ⟨h4, h5⟩ := ba h4
      obtain ⟨h5, h6⟩ := ba h5
      exact zi_range2 ok (of_decide_eq_true h1) h2 h3 h4 (sndE a c a' X R ok h5) (sndE b c b' X R ok h6)
    · exact no h
theorem sndTg : ∀ (m : Tg) (c : CC) (e : Expr) (X : Cx) (R : ZR), Ok G B Φ c X R → chkTg G B c m e = true → PG X e (liftTg G X.K m.slots (semTg Φ R m))
  | .name i, c, e, X, R, ok, h => by
    cases e with
    | Name x p => exact zg_name ok h
    | _ => exact no h
  | .tup ts, c, e, X, R, ok, h => by
    cases e with
    | Tuple es k p =>
      obtain ⟨h1, h2⟩ := ba (show (es.all notStar && chkTgs G B c ts es) = true from h)
      exact zg_tup ok.calm h1 (tgs_len ts es c h2) (sndTgs ts c es X R ok h1 h2)
    | _ => exact no h
  | .sub o i, c, e, X, R, ok, h => by
    cases e with
    | Subscript o' i' p =>
      obtain ⟨h1, h2⟩ := ba (show (notSlice i' && (chkE G B c o o' && chkE G B c i i')) = true from h)
      obtain ⟨h2, h3⟩ := ba h2
      exact zg_sub h1 (sndE o c o' X R ok h2) (sndE i c i' X R ok h3)
    | _ => exact no h
theorem sndTgs : ∀ (m : TgL) (c : CC) (es : List Expr) (X : Cx) (R : ZR), Ok G B Φ c X R → es.all notStar = true → chkTgs G B c m es = true → PGs X es (liftTgs G X.K m.slots (semTgs Φ R m))
  | .nil, c, es, X, R, ok, hs, h => by
    cases es with
    | nil => exact zgs_nil
    | cons _ _ => exact no h
  | .cons t r, c, es, X, R, ok, hs, h => by
    cases es with
    | nil => exact no h
    | cons e es =>
      obtain ⟨h1, h2⟩ := ba (show (chkTg G B c t e && chkTgs G B c r es) = true from h)
      obtain ⟨s1, s2⟩ := ba (show (notStar e && es.all notStar) = true from hs)
      exact zgs_cons s1 (sndTg t c e X R ok h1) (sndTgs r c es X R ok s2 h2)
end
end
end Z
set_option Elab.async false
set_option linter.all false
set_option maxRecDepth 100000
set_option maxHeartbeats 4000000
namespace Z
open PySem PySem.Spec PyProof.Rows L2
theorem swap_lc {elt : Expr} {gs : List Comprehension} {scope : Scope} {pos py : Pos} {y : Str} {l : Nat} {env : Env} (hk : env.scope.kind = .function) : swapsWith (.ListComp elt gs scope pos) (some (.Name y py)) l env = pure (swapB env.scope y py scope pos) := by
  have hb : env.blockKind = .function := by unfold Env.blockKind; rw [hk]; rfl
  unfold swapsWith swapB isLocal
  simp only [hb, Expr.pos]
  have e : (env.kindOf y == some NameKind.local) = (match env.scope.names.lookup y with | some .local => true | _ => false) := by
    show (env.scope.names.lookup y == some NameKind.local) = _
    cases env.scope.names.lookup y with
    | none => rfl
    | some k => cases k <;> rfl
  simp only [e]
  rfl
section
variable {G : Cfg} {B : Tb} {Φ : Nat → ZSp}
theorem Ok.plain {c : CC} {X : Cx} {R : ZR} (ok : Ok G B Φ c X R) {t v : Expr} (h : plainStore c.sc t v = true) (l : Nat) : swapsWith v (some t) l X.env = pure false := by
  unfold plainStore at h
  split at h
  · split at h
    · rw [swap_lc (by rw [ok.sc]; exact ok.kd), ok.sc, bn h]
    · rename_i hn
      cases t with
      | Name y py => exact absurd rfl (hn y py)
      | _ => rfl
  · exact swap_of h _ _ _
mutual
theorem sndS : ∀ (m : S) (c : CC) (s : Stmt) (X : Cx) (R : ZR), Ok G B Φ c X R → chkS G B c m s = true → PS X s (liftS G X.K (semS Φ R m))
  | .asg t a, c, s, X, R, ok, h => by
    unfold chkS at h
    split at h
    · rename_i tg v pos
      obtain ⟨h1, h2⟩ := ba h
      obtain ⟨h1, h3⟩ := ba h1
      obtain ⟨h2, h4⟩ := ba h2
      obtain ⟨h4, h5⟩ := ba h4
      exact zs_asg h3 h1 (ok.plain h2 _) (sndE a c v X R ok h5) (sndTg t c tg X R ok h4)
    · exact no h
  | .setc j fz own t it ifs elt, c, s, X, R, ok, h => by
    unfold chkS at h
    split at h
    · rename_i tg0 v spos
      obtain ⟨h1, h2⟩ := ba h
      obtain ⟨h3, h4⟩ := ba h2
      have hnv := of_decide_eq_true h3
      unfold ownStore at h1
      split at h1
      · rename_i elt' gens scope pos
        split at h1
        · rename_i y py
          have hy : c.N[j]? = some y := hnv.symm
          obtain ⟨g1, g2⟩ := ba h1
          have hsw : ∀ l, swapsWith (.ListComp elt' gens scope pos) (some (.Name y py)) l X.env = pure true := fun l => by rw [swap_lc (by rw [ok.sc]; exact ok.kd), ok.sc, g2]
          match gens, h4, hsw with
          | [⟨tg, src, ifs', asy⟩], h4, hsw =>
            obtain ⟨i1, i2⟩ := ba (show ((decide (asy = 0) && (blkC c.N c.sc scope (ownN c own) && (own.all fun i => decide (i < c.N.length)) && notSetB src && t.slots.all fun i => decide (i ∈ own))) &&
                (chkI G B c it src && (chkTg G B (inBlk c scope) t tg && (chkTL G B (inBlk c scope) ifs ifs' && (decide (ifs'.length ≤ 1) && chkE G B (inBlk c scope) elt elt'))))) = true from h4)
            obtain ⟨j0, j1⟩ := ba i1
            obtain ⟨j2, j3⟩ := ba j1
            obtain ⟨j4, j5⟩ := ba j2
            obtain ⟨j6, j7⟩ := ba j4
            obtain ⟨l1, l2⟩ := ba i2
            obtain ⟨l3, l4⟩ := ba l2
            obtain ⟨l5, l6⟩ := ba l4
            obtain ⟨l7, l8⟩ := ba l6
            obtain rfl : asy = 0 := of_decide_eq_true j0
            have hk : scope.kind = .function := (blkOk_by j6).kind
            exact zs_setcomp ok fz (slots := t.slots) hy g1 (hsw _) j6 (fun i hi => of_decide_eq_true (List.all_eq_true.mp j3 i hi)) (notSet_of j5 X.env) (sndI it c src X R ok tg l1) (fun s H C cl fp => sndTg t _ tg _ noR (ok.blk hk s H C cl fp) l3) (fun s H C cl fp => sndC ifs _ ifs' _ noR (ok.blk hk s H C cl fp) l5 (of_decide_eq_true l7)) (fun s H C cl fp => sndE elt _ elt' _ noR (ok.blk hk s H C cl fp) l8)
        · exact no h1
      · exact no h1
    · exact no h
  | .par i j a b, c, s, X, R, ok, h => by
    unfold chkS at h
    split at h <;> exact no h
  | .fld o k i a, c, s, X, R, ok, h => by
    unfold chkS at h
    split at h
    · rename_i o' f p v pos
      obtain ⟨h1, h2⟩ := ba h
      obtain ⟨h2, h3⟩ := ba h2
      obtain ⟨h3, h4⟩ := ba h3
      obtain ⟨nm, lay, q1, q2, q3⟩ := field_of h1
      exact zs_fld ok q1 q2 q3 h2 (sndE o c o' X R ok h3) (sndE a c v X R ok h4)
    · exact no h
  | .augsub o i op a, c, s, X, R, ok, h => by
    unfold chkS at h
    split at h
    · rename_i o' i' tp op' v p
      obtain ⟨h1, h2⟩ := ba h
      obtain ⟨h1, h3⟩ := ba h1
      obtain ⟨h2, h4⟩ := ba h2
      obtain ⟨h4, h5⟩ := ba h4
      rw [op_of h1]
      exact zs_augsub op h3 (sndE o c o' X R ok h2) (sndE i c i' X R ok h4) (sndE a c v X R ok h5)
    · exact no h
  | .augvar i op a, c, s, X, R, ok, h => by
    unfold chkS at h
    split at h
    · rename_i x tp op' v p
      obtain ⟨h1, h2⟩ := ba h
      obtain ⟨h1, h3⟩ := ba h1
      rw [op_of h1]
      exact zs_augvar ok op h3 (sndE a c v X R ok h2)
    · exact no h
  | .expr a, c, s, X, R, ok, h => by
    unfold chkS at h
    split at h
    · rename_i v p
      obtain ⟨h1, h2⟩ := ba h
      exact zs_expr (sndE a c v X R ok h2) h1
    · exact no h
  | .ret a, c, s, X, R, ok, h => by
    unfold chkS at h
    split at h
    · rename_i v p
      exact zs_ret (sndE a c v X R ok h)
    · exact no h
  | .retN, c, s, X, R, ok, h => by
    unfold chkS at h
    split at h
    · exact zs_retN
    · exact no h
  | .ife t a b, c, s, X, R, ok, h => by
    unfold chkS at h
    split at h
    · rename_i t' a' b' p
      obtain ⟨h1, h2⟩ := ba h
      obtain ⟨h2, h3⟩ := ba h2
      exact zs_if (sndT t c t' X R ok h1) (sndSs a c a' X R ok h2) (sndSs b c b' X R ok h3)
    · exact no h
  | .for_ t it b, c, s, X, R, ok, h => by
    unfold chkS at h
    split at h
    · rename_i tg iter body p
      obtain ⟨h1, h2⟩ := ba h
      obtain ⟨h2, h3⟩ := ba h2
      obtain ⟨h3, h4⟩ := ba h3
      exact zs_for ok (notSet_of h1 X.env) (sndI it c iter X R ok tg h2) (sndTg t c tg X R ok h3) (sndSs b c body X R ok h4)
    · exact no h
  | .while_ t b, c, s, X, R, ok, h => by
    unfold chkS at h
    split at h
    · rename_i t' body p
      obtain ⟨h1, h2⟩ := ba h
      exact zs_while ok (sndT t c t' X R ok h1) (sndSs b c body X R ok h2)
    · exact no h
  | .never, c, s, X, R, ok, h => zs_never
  | .pass, c, s, X, R, ok, h => by
    unfold chkS at h
    split at h
    · exact zs_pass
    · exact no h
  | .brk, c, s, X, R, ok, h => by
    unfold chkS at h
    split at h
    · exact zs_brk
    · exact no h
  | .cont, c, s, X, R, ok, h => by
    unfold chkS at h
    split at h
    · exact zs_cont
    · exact no h
theorem sndSs : ∀ (m : SL) (c : CC) (ss : List Stmt) (X : Cx) (R : ZR), Ok G B Φ c X R → chkSs G B c m ss = true → PSs X ss (liftS G X.K (semSs Φ R m))
  | .nil, c, ss, X, R, ok, h => by
    cases ss with
    | nil => exact zss_nil
    | cons _ _ => exact no h
  | .cons s r, c, ss, X, R, ok, h => by
    cases ss with
    | nil => exact no h
    | cons st ss =>
      obtain ⟨h1, h2⟩ := ba (show (chkS G B c s st && chkSs G B c r ss) = true from h)
      exact zss_cons (zs := semS Φ R s) (zs' := semSs Φ R r) (sndS s c st X R ok h1) (sndSs r c ss X R ok h2)
  | .frz i r, c, ss, X, R, ok, h => zss_frz (zs := semSs Φ R r) (sndSs r c ss X R ok h)
end
end
/-! ### a def -/
def startZ (n : Nat) (ps : List PV) : Zs := ps.map some ++ List.replicate (n - ps.length) none
/-- what is told back may say less of the heap -/
@[irreducible] def Qw (Q : ZQ) (v : PV) (M : Mh) : Prop := ∃ M', Weak M' M ∧ Q v M'
theorem Qw.out {Q : ZQ} {v : PV} {M : Mh} (h : Qw Q v M) : ∃ M', Weak M' M ∧ Q v M' := by unfold Qw at h; exact h
theorem Qw.by {Q : ZQ} {v : PV} {M M' : Mh} (h : Weak M' M) (q : Q v M') : Qw Q v M := by unfold Qw; exact ⟨M', h, q⟩
theorem Qw.here {Q : ZQ} {v : PV} {M : Mh} (q : Q v M) : Qw Q v M := .by (Weak.refl M) q
/-- what a def's body must do -/
def inl (Φ : Nat → ZSp) (n k : Nat) (m : SL) : ZSp := fun vs M Q E => vs.length = k ∧ semSs Φ (fun x _ M' => ∃ M'', Weak M'' M' ∧ E x M'') m { nx := fun _ M' => Qw Q .non M', rt := Qw Q } (startZ n vs) M
theorem start_rs {G : Cfg} {K : PySem.W.Frag} {F : Hp} {N : List Str} {vs : List V} {ps : List PV} (r : RVs G K F vs ps) : RS G K F (L2.start N vs) (startZ N.length ps) := by
  unfold L2.start startZ
  rw [r.length]
  refine ⟨by rw [List.length_append, List.length_append, List.length_map, List.length_map, r.length]; simp, fun i p h => ?_⟩
  by_cases hi : i < ps.length
  · rw [List.getElem?_append_left (by rw [List.length_map]; exact hi), List.getElem?_map] at h
    cases q : ps[i]? with
    | none => rw [q] at h; cases h
    | some p' =>
      rw [q] at h
      cases h
      obtain ⟨v, e, rv⟩ := r.get q
      refine ⟨v, ?_, rv⟩
      rw [List.getElem?_append_left (by rw [List.length_map, r.length]; exact hi), List.getElem?_map, e]
      rfl
  · rw [List.getElem?_append_right (by rw [List.length_map]; omega), List.getElem?_replicate] at h
    split at h <;> cases h
theorem fnZ {G : Cfg} {B : Tb} {Φ : Nat → ZSp} {P : Program} {w : World} {K : PySem.W.Frag} {mg : Str → Option Value} {base : Heap} {i : Nat} {x qual : Str} {params : Arguments} {body : List Stmt} {scope : Scope} {dvs : List V} {kws : List (Str × V)} {f : Addr} {fd : FuncData} {N ps : List Str} {m : SL} {sp0 : ZSp}
    (F : FunD K x qual params body scope dvs kws f fd) (S : FnScope N ps scope) (tab : ∀ F0, Tab (G.at F0) B Φ i P w K mg base) (h : ∀ F0, chkSs (G.at F0) B ⟨N, scope, none, i⟩ m body = true)
    (sp : ∀ (vs : List PV) (M : Mh) (Q : ZQ) (E : ZX), sp0 vs M Q E → vs.length = ps.length ∧ Reach M fun M1 => inl Φ N.length ps.length m vs M1 Q E) :
    ∀ F0, FnOk P w K mg base (L2.CX P w) (i + 1) f fd ps (conc (G.at F0) K sp0) := fun F0 => by
  refine F.ok S (fun vs H Q E hc => ?_) fun cdv A outer s H vs Q E room hc => ?_
  · obtain ⟨F1, M, pv, Q0, X0, ab, r, hp, _⟩ := hc
    rw [r.length]
    exact (sp pv M Q0 X0 hp).1
  · obtain ⟨F1, M0, pv, Q0, X0, ab0, r, hp, tq, tx⟩ := hc
    obtain ⟨M, ab, _, z⟩ := (sp pv M0 Q0 X0 hp).2.go ab0
    have ok : Ok (G.at F1) B Φ ⟨N, scope, none, i⟩ (cxOf (L2.CX P w) P w K mg base N qual scope f cdv A outer s H E) fun x _ M' => ∃ M'', Weak M'' M' ∧ X0 x M'' := by
      refine ⟨rfl, S.nd, rfl, S.kind, fun _ => rfl, rfl, ?_, passes_of rfl, tab F1, room⟩
      refine Takes.imp (takes_of (E := E) rfl rfl rfl rfl) fun cls d σ H' hw => ?_
      obtain ⟨F2, σ2, M2, y, a2, _, xr, M3, ms, hx⟩ := hw
      exact tx y M3 F2 H' cls d a2.bs ((a2.weak ms).reat (ab.bs.trans a2.bs)) xr hx
    refine ⟨_, sndSs m _ body _ _ ok (h F1), F1, _, M, _, ab.reat (Same.refl F1), start_rs r, z, ⟨fun σ M' F' H' σV s' a' _ q => ?_, fun p M' F' H' v s' a' rv q => ?_, fun σ M' F' H' σV s' a' _ q => False.elim q, fun σ M' F' H' σV s' a' _ q => False.elim q⟩⟩
    · obtain ⟨M3, ms, q⟩ := q.out
      exact tq _ M3 F' H' _ s' ((a'.weak ms).reat (ab.bs.trans s')) .non q
    · obtain ⟨M3, ms, q⟩ := q.out
      exact tq _ M3 F' H' _ s' ((a'.weak ms).reat (ab.bs.trans s')) rv q
end Z
set_option Elab.async false
set_option linter.all false
set_option maxRecDepth 100000
set_option maxHeartbeats 4000000
namespace Z
open PySem PySem.Spec PyProof.Rows L2
/-! ### the tables out of the head's facts -/
def bot : ZSp := fun _ _ _ _ => False
def PL (l : List ZSp) : Nat → ZSp := fun i => match l[i]? with
  | some s => s
  | none => bot
theorem PL_lt {l : List ZSp} {s : ZSp} {i : Nat} (h : i < l.length) : PL (l ++ [s]) i = PL l i := by
  unfold PL
  rw [List.getElem?_append_left h]
theorem PL_at {l : List ZSp} {s : ZSp} : PL (l ++ [s]) l.length = s := by
  unfold PL
  rw [List.getElem?_append_right (Nat.le_refl _), Nat.sub_self]
  rfl
def isFree (x : Str) : He.Fa → Bool
  | .free y => decide (x = y)
  | _ => false
def isGlo (x : Str) : He.Fa → Bool
  | .glo y => decide (x = y)
  | _ => false
def isCls (x : Str) : He.Fa → Bool
  | .cls y => decide (x = y)
  | _ => false
def isMkr (x : Str) : He.Fa → Bool
  | .mkr y => decide (x = y)
  | _ => false
def isNoat (x f : Str) : He.Fa → Bool
  | .noat y g => decide (x = y) && decide (f = g)
  | _ => false
def isMeth (x f : Str) : He.Fa → Bool
  | .meth y g => decide (x = y) && decide (f = g)
  | _ => false
def headB (G : Cfg) (B : Tb) (fa : List He.Fa) : Bool := (B.free.all fun x => fa.any (isFree x)) && G.cls.all fun q => fa.any (isCls q.1) && (decide q.2.Nodup && q.2.all fun f => fa.any (isNoat q.1 f))
section
variable {fa : List He.Fa} {dl : List He.DefD} {K : PySem.W.Frag} {h : Heap} {mg : Str → Option Value} {G : Cfg} {B : Tb} {P : Program} {w : World} {base : Heap}
theorem says (c : He.SaysD fa dl K) {f : He.Fa} (h : f ∈ fa) : f.ok K = true := by
  obtain ⟨i, hi, e⟩ := List.getElem_of_mem h
  exact c.fact i (f := f) (by rw [List.getElem?_eq_getElem hi, e])
theorem any_free {x : Str} (h : fa.any (isFree x) = true) : He.Fa.free x ∈ fa := by
  obtain ⟨f, hf, e⟩ := List.any_eq_true.mp h
  cases f with
  | free y => cases of_decide_eq_true (show decide (x = y) = true from e); exact hf
  | _ => cases e
theorem any_glo {x : Str} (h : fa.any (isGlo x) = true) : He.Fa.glo x ∈ fa := by
  obtain ⟨f, hf, e⟩ := List.any_eq_true.mp h
  cases f with
  | glo y => cases of_decide_eq_true (show decide (x = y) = true from e); exact hf
  | _ => cases e
theorem any_cls {x : Str} (h : fa.any (isCls x) = true) : He.Fa.cls x ∈ fa := by
  obtain ⟨f, hf, e⟩ := List.any_eq_true.mp h
  cases f with
  | cls y => cases of_decide_eq_true (show decide (x = y) = true from e); exact hf
  | _ => cases e
theorem any_mkr {x : Str} (h : fa.any (isMkr x) = true) : He.Fa.mkr x ∈ fa := by
  obtain ⟨f, hf, e⟩ := List.any_eq_true.mp h
  cases f with
  | mkr y => cases of_decide_eq_true (show decide (x = y) = true from e); exact hf
  | _ => cases e
theorem any_noat {x g : Str} (h : fa.any (isNoat x g) = true) : He.Fa.noat x g ∈ fa := by
  obtain ⟨f, hf, e⟩ := List.any_eq_true.mp h
  cases f with
  | noat y g' =>
    obtain ⟨e1, e2⟩ := ba (show (decide (x = y) && decide (g = g')) = true from e)
    cases of_decide_eq_true e1
    cases of_decide_eq_true e2
    exact hf
  | _ => cases e
theorem any_meth {x g : Str} (h : fa.any (isMeth x g) = true) : He.Fa.meth x g ∈ fa := by
  obtain ⟨f, hf, e⟩ := List.any_eq_true.mp h
  cases f with
  | meth y g' =>
    obtain ⟨e1, e2⟩ := ba (show (decide (x = y) && decide (g = g')) = true from e)
    cases of_decide_eq_true e1
    cases of_decide_eq_true e2
    exact hf
  | _ => cases e
theorem tab0 (X : K.In h) (Gn : h.Ns mainGlobals mg) (c : He.SaysD fa dl K) (hb : headB G B fa = true) : ∀ F0, Tab (G.at F0) B (PL []) 0 P w K mg base := fun F0 => by
  obtain ⟨h1, h2⟩ := ba hb
  refine ⟨fun x hx => He.free_ok X Gn (says c (any_free (List.all_eq_true.mp h1 x hx))), fun k nm lay e => ?_, fun i fn hi => absurd hi (Nat.not_lt_zero i), fun j mk _ hi => absurd hi (Nat.not_lt_zero _)⟩
  have e : G.cls[k]? = some (nm, lay) := e
  obtain ⟨g1, g2⟩ := ba (List.all_eq_true.mp h2 _ (List.mem_of_getElem? e))
  obtain ⟨g2, g3⟩ := ba g2
  exact ⟨He.cls_ok (says c (any_cls g1)), of_decide_eq_true g2, fun f hf => He.noat_ok (says c (any_noat (List.all_eq_true.mp g3 f hf)))⟩
/-- how a def binds its values -/
def BindsD (G : Cfg) (K : PySem.W.Frag) (d : He.DefD) (fn : Fn) : Prop := ∀ fd, FunD K d.name d.qual d.params d.body d.scope (d.dvs K) (d.kws K) (He.fAd K d.at_) fd → fn.kwo = false → ∀ j, j ≤ fn.dfl.length → ∃ ds dvs, Vals dvs ds ∧ (∀ F, RVs G K F dvs ((fn.dfl.drop j).map DV.pv)) ∧ Binds K fd fn.ps ds
def MkD (G : Cfg) (K : PySem.W.Frag) (d : He.DefD) (fn : Fn) (mk : Mkr) : Prop := ∀ fd, FunD K d.name d.qual d.params d.body d.scope (d.dvs K) (d.kws K) (He.fAd K d.at_) fd → ∃ g dvs, KBn K fd fn.ps (mk.n + 1) mk.ks g (fun vs zs => vs ++ (zs ++ dvs)) ∧ ∀ F, RVs G K F dvs (mk.ds.map DV.pv)
def nameB (fa : List He.Fa) (a : Str × Option Str) : Bool := match a.2 with
  | none => fa.any (isGlo a.1)
  | some m => fa.any (isMeth a.1 m)
def mkrB (G : Cfg) (fa : List He.Fa) (a : Str × Option Str) (mk : Mkr) : Bool := match G.cls[mk.c]? with
  | some q => decide (a = (q.1, some ("__init__" : Str))) && (fa.any (isMkr q.1) && fa.any (isGlo q.1))
  | none => false
theorem tab_next (X : K.In h) (Gn : h.Ns mainGlobals mg) (c : He.SaysD fa dl K) {l l' : List ZSp} {s : ZSp} {i k : Nat} {d : He.DefD} {fn : Fn} {N : List Str} {m : SL} (hl : l.length = i) (hl' : l' = l ++ [s]) (t : ∀ F0, Tab (G.at F0) B (PL l) i P w K mg base)
    (hd : dl[k]? = some d) (hfn : B.fns[i]? = some fn) (hat : fn.at_ = d.at_) (hnm : nameB fa fn.at_ = true) (S : FnScope N fn.ps d.scope) (hc : ∀ F0, chkSs (G.at F0) B ⟨N, d.scope, none, i⟩ m d.body = true)
    (hb : BindsD G K d fn) (hm : ∀ (j : Nat) (mk : Mkr), B.mks[j]? = some mk → mk.f = i → mkrB G fa fn.at_ mk = true ∧ MkD G K d fn mk)
    (sp : ∀ (vs : List PV) (M : Mh) (Q : ZQ) (E : ZX), s vs M Q E → vs.length = fn.ps.length ∧ Reach M fun M1 => inl (PL l) N.length fn.ps.length m vs M1 Q E) : ∀ F0, Tab (G.at F0) B (PL l') (i + 1) P w K mg base := by
  subst hl'
  obtain ⟨fd, F⟩ := c.def_ k (d := d) hd
  have ok := fnZ F S t hc sp
  rw [← hat] at ok
  have kp : PySem.W.keepIn K (.ref (He.fAd K fn.at_)) = true := by rw [hat]; exact F.kp
  have g1 : fn.at_.2 = none → mg fn.at_.1 = some (.ref (He.fAd K fn.at_)) := fun e => by
    cases ha : fn.at_ with
    | mk x y =>
    rw [ha] at e hnm
    obtain rfl : y = none := e
    exact He.glo_ok X Gn (says c (any_glo hnm))
  have g2 : ∀ m, fn.at_.2 = some m → Meth K (He.ga K fn.at_.1) m (He.fAd K fn.at_) := fun m e => by
    cases ha : fn.at_ with
    | mk x y =>
    rw [ha] at e hnm
    obtain rfl : y = some m := e
    exact He.meth_ok (says c (any_meth hnm))
  intro F0
  refine ⟨(t F0).fr, (t F0).cl, fun j fn' hj e => ?_, fun j mk e hj => ?_⟩
  · rcases Nat.lt_or_eq_of_le (Nat.le_of_lt_succ hj) with hj | rfl
    · have q := (t F0).fn j fn' hj e
      rw [PL_lt (by rw [hl]; exact hj)]
      exact q
    · rw [hfn] at e
      cases e
      have q : PL (l ++ [s]) j = s := by rw [← hl]; exact PL_at
      rw [q]
      exact ⟨fd, ok, hb fd F, kp, g1, g2⟩
  · rcases Nat.lt_or_eq_of_le (Nat.le_of_lt_succ hj) with hj | ej
    · have q := (t F0).mks j mk e hj
      rw [PL_lt (by rw [hl]; exact hj)]
      exact q
    · obtain ⟨q1, q2⟩ := hm j mk e ej
      obtain ⟨g, dvs, kb, hv⟩ := q2 fd F
      unfold mkrB at q1
      split at q1
      · rename_i cq ec
        obtain ⟨e1, q1⟩ := ba q1
        obtain ⟨e2, e3⟩ := ba q1
        have e1 := of_decide_eq_true e1
        have q : PL (l ++ [s]) mk.f = s := by rw [ej, ← hl]; exact PL_at
        rw [q, ej]
        refine ⟨cq.1, cq.2, fn, fd, g, dvs, ec, hfn, ok, ?_, He.glo_ok X Gn (says c (any_glo e3)), kb, hv⟩
        rw [e1]
        exact He.mkr_ok (says c (any_mkr e2))
      · cases q1
/-- no defaults -/
theorem bindsD0 {d : He.DefD} {fn : Fn} (hd : d.dvs K = []) (hf : fn.dfl = []) (h : ∀ (kV doc pm : Value) (an : Option Addr) (cdv ct : Value) (us : List Value), us.length = fn.ps.length → bindArgs (PySem.W.fnOf d.name d.qual d.params d.body d.scope .none kV doc pm an cdv ct) ⟨us, []⟩ = pure (fn.ps.zip us)) : BindsD G K d fn := by
  intro fd F _ j _
  rw [hd] at F
  refine ⟨[], [], .nil, fun F => ?_, F.bindsN h⟩
  rw [hf, List.drop_nil]
  exact .nil
theorem bindsKw {d : He.DefD} {fn : Fn} (hf : fn.kwo = true) : BindsD G K d fn := fun fd F e => by rw [hf] at e; cases e
theorem no_mks (h : B.mks = []) {i : Nat} {R : Mkr → Prop} : ∀ (j : Nat) (mk : Mkr), B.mks[j]? = some mk → mk.f = i → R mk := fun j mk e => by rw [h] at e; simp at e
theorem not_mks {i : Nat} (h : (B.mks.all fun mk => decide (mk.f ≠ i)) = true) {R : Mkr → Prop} : ∀ (j : Nat) (mk : Mkr), B.mks[j]? = some mk → mk.f = i → R mk := fun j mk e hf =>
  absurd hf (of_decide_eq_true (List.all_eq_true.mp h mk (List.mem_of_getElem? e)))
end
/-- a def that is walked where it is called -/
theorem inl_sp {Φ : Nat → ZSp} {n k : Nat} {m : SL} : ∀ (vs : List PV) (M : Mh) (Q : ZQ) (E : ZX), inl Φ n k m vs M Q E → vs.length = k ∧ Reach M fun M1 => inl Φ n k m vs M1 Q E := fun _ _ _ _ h => ⟨h.1, .done h⟩
end Z
set_option Elab.async false
set_option linter.all false
set_option maxRecDepth 100000
set_option maxHeartbeats 4000000
namespace Z
open PySem PySem.Spec PyProof.Rows L2
theorem weak2 {M M' : Mh} {s g : Addr} {P1 P2 : List PV → Prop} {xs ys : List PV} (hs : M s = some (.sm P1)) (hg : M g = some (.sm P2)) (h1 : M' s = some (.lst xs)) (p1 : P1 xs) (h2 : M' g = some (.lst ys)) (p2 : P2 ys) (hr : ∀ a, a ≠ s → a ≠ g → M' a = M a) : Weak M M' := by
  intro a m e
  by_cases ha : a = s
  · subst ha; rw [hs] at e; cases e; exact .inr ⟨xs, P1, h1, rfl, p1⟩
  · by_cases hb : a = g
    · subst hb; rw [hg] at e; cases e; exact .inr ⟨ys, P2, h2, rfl, p2⟩
    · exact .inl ((hr a ha hb).trans e)
theorem lc_ind {still : Mh → Prop} {D : Addr} {step : PV → Mh → (Option PV → Mh → Prop) → Prop} {done : List PV → Mh → Prop} (I : List PV → List PV → Mh → Prop) {xs acc : List PV} {M : Mh} (h0 : I xs acc M) (hd : ∀ acc M, I [] acc M → still M ∧ done acc M)
    (hs : ∀ x r acc M, I (x :: r) acc M → ∀ L : List PV → Mh → Prop, (∀ acc M, I r acc M → L acc M) → still M ∧ step x M (fun o M' => match o with
      | some y => M' D = some (.lst acc) ∧ acc.length < sizeLine ∧ L (acc ++ [y]) (put M' D (.lst (acc ++ [y])))
      | none => L acc M')) : lcIter still D step done xs acc M := by
  induction xs generalizing acc M with
  | nil => exact hd acc M h0
  | cons x r ih => exact hs x r acc M h0 (fun acc M => lcIter still D step done r acc M) fun acc M h => ih h
theorem it_ind {still : Mh → Prop} {step : PV → Zs → Mh → (Zs → Mh → Prop) → Prop} {done : Zs → Mh → Prop} (I : List PV → Zs → Mh → Prop) {xs : List PV} {σ : Zs} {M : Mh} (h0 : I xs σ M) (hd : ∀ σ M, I [] σ M → still M ∧ done σ M)
    (hs : ∀ x r σ M, I (x :: r) σ M → ∀ L : Zs → Mh → Prop, (∀ σ M, I r σ M → L σ M) → still M ∧ step x σ M L) : iter still step done xs σ M := by
  induction xs generalizing σ M with
  | nil => exact hd σ M h0
  | cons x r ih => exact hs x r σ M h0 (fun σ M => iter still step done r σ M) fun σ M h => ih h
theorem put_put {M : Mh} {a : Addr} {x y : MO} : put (put M a x) a y = put M a y := by
  funext b
  by_cases h : b = a
  · subst h; rw [put_same, put_same]
  · rw [put_ne h, put_ne h, put_ne h]
theorem put_del {M : Mh} {a : Addr} {x : MO} (h : M a = none) : del (put M a x) a = M := by
  funext b
  unfold del
  by_cases e : b = a
  · subst e; rw [if_pos rfl, h]
  · rw [if_neg e, put_ne e]
theorem none_put {M : Mh} {a b : Addr} {x : MO} (h : put M a x b = none) : b ≠ a ∧ M b = none := by
  by_cases e : b = a
  · subst e; rw [put_same] at h; cases h
  · rw [put_ne e] at h; exact ⟨e, h⟩
theorem small {n k : Nat} (h : n ≤ k) (hk : k ≤ 100000 := by decide) : n < sizeLine := by rw [sizeLine_eq]; omega
section
variable {still : Mh → Prop} {D : Addr} {step : PV → Mh → (Option PV → Mh → Prop) → Prop} {done : List PV → Mh → Prop} {xs : List PV} {M1 : Mh}
/-- items out of items, some left out -/
theorem lc_fm (f : PV → Option PV) (hl : xs.length ≤ 1000) (hst : ∀ acc, still (put M1 D (.lst acc))) (hs : ∀ x ∈ xs, ∀ acc k, k (f x) (put M1 D (.lst acc)) → step x (put M1 D (.lst acc)) k) (hd : done (xs.filterMap f) (put M1 D (.lst (xs.filterMap f)))) : lcIter still D step done xs [] (put M1 D (.lst [])) := by
  refine lc_ind (fun ys acc M => ∃ pre, xs = pre ++ ys ∧ acc = pre.filterMap f ∧ M = put M1 D (.lst acc)) ⟨[], rfl, rfl, rfl⟩ ?_ ?_
  · rintro acc M ⟨pre, e, rfl, rfl⟩
    rw [List.append_nil] at e
    subst e
    exact ⟨hst _, hd⟩
  · rintro x r acc M ⟨pre, e, rfl, rfl⟩ L hL
    refine ⟨hst _, hs x (by rw [e]; simp) _ _ ?_⟩
    cases q : f x with
    | none => exact hL _ _ ⟨pre ++ [x], by rw [e]; simp, by rw [List.filterMap_append]; simp [q], rfl⟩
    | some y =>
      refine ⟨put_same, ?_, hL _ _ ⟨pre ++ [x], by rw [e]; simp, by rw [List.filterMap_append]; simp [q], put_put⟩⟩
      refine small (k := 1000) (Nat.le_trans (List.length_filterMap_le f pre) ?_)
      rw [e, List.length_append] at hl
      omega
theorem lc_map (f : PV → PV) (hl : xs.length ≤ 1000) (hst : ∀ acc, still (put M1 D (.lst acc))) (hs : ∀ x ∈ xs, ∀ acc k, k (some (f x)) (put M1 D (.lst acc)) → step x (put M1 D (.lst acc)) k) (hd : done (xs.map f) (put M1 D (.lst (xs.map f)))) : lcIter still D step done xs [] (put M1 D (.lst [])) := by
  refine lc_fm (fun x => some (f x)) hl hst hs ?_
  have e : xs.filterMap (fun x => some (f x)) = xs.map f := by
    rw [← List.filterMap_eq_map]; rfl
  rw [e]; exact hd
/-- any items of a kind -/
theorem lc_any (P : PV → Prop) (hl : xs.length ≤ 1000) (hst : ∀ acc, still (put M1 D (.lst acc))) (hs : ∀ x ∈ xs, ∀ acc k, (∀ y, P y → k (some y) (put M1 D (.lst acc))) → step x (put M1 D (.lst acc)) k)
    (hd : ∀ ys : List PV, ys.length = xs.length → (∀ y ∈ ys, P y) → done ys (put M1 D (.lst ys))) : lcIter still D step done xs [] (put M1 D (.lst [])) := by
  refine lc_ind (fun ys acc M => ∃ pre, xs = pre ++ ys ∧ acc.length = pre.length ∧ (∀ y ∈ acc, P y) ∧ M = put M1 D (.lst acc)) ⟨[], rfl, rfl, by simp, rfl⟩ ?_ ?_
  · rintro acc M ⟨pre, e, h1, h2, rfl⟩
    rw [List.append_nil] at e
    subst e
    exact ⟨hst _, hd acc h1 h2⟩
  · rintro x r acc M ⟨pre, e, h1, h2, rfl⟩ L hL
    refine ⟨hst _, hs x (by rw [e]; simp) _ _ fun y hy => ?_⟩
    refine ⟨put_same, ?_, hL _ _ ⟨pre ++ [x], by rw [e]; simp, by simp [h1], ?_, put_put⟩⟩
    · rw [e, List.length_append] at hl
      exact small (k := 1000) (by omega)
    · intro z hz
      rcases List.mem_append.mp hz with hz | hz
      · exact h2 z hz
      · rw [List.mem_singleton] at hz; subst hz; exact hy
end
section
variable {still : Mh → Prop} {D : Addr} {step : PV → Mh → (Option PV → Mh → Prop) → Prop} {Q : ZQ} {xs : List PV} {M1 : Mh}
theorem lc_fmF (f : PV → Option PV) (hD : M1 D = none) (hl : xs.length ≤ 1000) (hst : ∀ acc, still (put M1 D (.lst acc))) (hs : ∀ x ∈ xs, ∀ acc k, k (f x) (put M1 D (.lst acc)) → step x (put M1 D (.lst acc)) k) (hd : Q (.lst (xs.filterMap f)) M1) : lcIter still D step (lcDone true D Q) xs [] (put M1 D (.lst [])) := by
  refine lc_fm f hl hst hs ⟨put_same, ?_⟩
  rw [put_del hD]; exact hd
theorem lc_mapF (f : PV → PV) (hD : M1 D = none) (hl : xs.length ≤ 1000) (hst : ∀ acc, still (put M1 D (.lst acc))) (hs : ∀ x ∈ xs, ∀ acc k, k (some (f x)) (put M1 D (.lst acc)) → step x (put M1 D (.lst acc)) k) (hd : Q (.lst (xs.map f)) M1) : lcIter still D step (lcDone true D Q) xs [] (put M1 D (.lst [])) := by
  refine lc_map f hl hst hs ⟨put_same, ?_⟩
  rw [put_del hD]; exact hd
theorem lc_anyF (P : PV → Prop) (hD : M1 D = none) (hl : xs.length ≤ 1000) (hst : ∀ acc, still (put M1 D (.lst acc))) (hs : ∀ x ∈ xs, ∀ acc k, (∀ y, P y → k (some y) (put M1 D (.lst acc))) → step x (put M1 D (.lst acc)) k)
    (hd : ∀ ys : List PV, ys.length = xs.length → (∀ y ∈ ys, P y) → Q (.lst ys) M1) : lcIter still D step (lcDone true D Q) xs [] (put M1 D (.lst [])) := by
  refine lc_any P hl hst hs fun ys h1 h2 => ⟨put_same, ?_⟩
  rw [put_del hD]; exact hd ys h1 h2
end
theorem mem_range {lo : Int} {n : Nat} {x : PV} (h : x ∈ rangeL lo n) : ∃ i : Nat, i < n ∧ x = .int (lo + i) := by
  unfold rangeL at h
  obtain ⟨i, hi, e⟩ := List.mem_map.mp h
  exact ⟨i, List.mem_range.mp hi, e.symm⟩
theorem len_rangeL {lo : Int} {n : Nat} : (rangeL lo n).length = n := by unfold rangeL; rw [List.length_map, List.length_range]
theorem neN {M : Mh} {a b : Addr} {o : MO} (h : M a = some o) (h2 : M b = none) : a ≠ b := fun z => by rw [z, h2] at h; cases h
theorem MSub.fresh {M M' : Mh} (h : MSub M M') {p : Addr} (e : M' p = none) : M p = none := by
  cases q : M p with
  | none => rfl
  | some m => rw [h p m q] at e; cases e
theorem MSub.put' {M M' : Mh} (h : MSub M M') {p : Addr} {o : MO} (e : M p = none) : MSub M (Z.put M' p o) := fun a m q => by
  have : a ≠ p := fun z => by rw [z, e] at q; cases q
  rw [put_ne this]; exact h a m q
theorem MSub.del' {M M' : Mh} (h : MSub M M') {p : Addr} (e : M p = none) : MSub M (Z.del M' p) := fun a m q => by
  have : a ≠ p := fun z => by rw [z, e] at q; cases q
  unfold del; rw [if_neg this]; exact h a m q
theorem peq_int {a b : Int} : peq (.int a) (.int b) = decide (a = b) := by
  show (a == b) = decide (a = b)
  by_cases h : a = b
  · rw [decide_eq_true h]; exact beq_iff_eq.mpr h
  · rw [decide_eq_false h]; exact beq_eq_false_iff_ne.mpr h
theorem br_int {a b : Int} {A B : Prop} (h1 : a = b → A) (h2 : a ≠ b → B) : br (peq (.int a) (.int b)) A B := by
  rw [peq_int]
  exact br_intro (fun c => h1 (of_decide_eq_true c)) fun c => h2 (of_decide_eq_false c)
theorem br_nint {a b : Int} {A B : Prop} (h1 : a ≠ b → A) (h2 : a = b → B) : br (!peq (.int a) (.int b)) A B := by
  rw [peq_int]
  refine br_intro (fun c => h1 fun e => ?_) fun c => ?_
  · rw [decide_eq_true e] at c; cases c
  · by_cases e : a = b
    · exact h2 e
    · rw [decide_eq_false e] at c; cases c
def SL.tl : SL → SL
  | .cons _ r => r
  | .frz _ r => r
  | .nil => .nil
abbrev RR (E : ZX) : ZR := fun x _ M' => ∃ M'', Weak M'' M' ∧ E x M''
abbrev DD (Q : ZQ) : ZD := { nx := fun _ M' => Qw Q .non M', rt := Qw Q }
theorem pick_all {α : Type} {P : α → Prop} (f : α → PV) : ∀ {ys : List PV}, (∀ y ∈ ys, ∃ a, P a ∧ y = f a) → ∃ as : List α, ys = as.map f ∧ ∀ a ∈ as, P a
  | [], _ => ⟨[], rfl, by simp⟩
  | y :: ys, h => by
    obtain ⟨a, ha, e⟩ := h y List.mem_cons_self
    obtain ⟨as, e2, h2⟩ := pick_all f (ys := ys) fun z hz => h z (List.mem_cons_of_mem _ hz)
    refine ⟨a :: as, by rw [List.map_cons, e, e2], fun b hb => ?_⟩
    rcases List.mem_cons.mp hb with rfl | hb
    · exact ha
    · exact h2 b hb
end Z
set_option Elab.async false
set_option linter.all false
set_option maxRecDepth 100000
set_option maxHeartbeats 4000000
/-! the end of a law, where an exception may leave a def on the way -/
namespace Z
open PySem PySem.Spec PyProof.Rows L2
theorem noX {P : Program} {w : World} {H : Hp} {s s' : Shared} {e : Value} (h : L2.CX P w [] H s (fun _ _ _ => False) e s') : False := by
  obtain ⟨_, _, _, _, _, _, _, _, _, _, _, _, z⟩ := h
  exact z
/-- the script as the only thing that is known -/
theorem conc_law {G : Cfg} {K : PySem.W.Frag} {sp : ZSp} {n : Nat} (hs : ∀ (ns : List Int) (Q : ZQ) (E : ZX), ns.length ≤ n → (∀ M, Q (.bl true) M) → sp [.scr (ns.map PV.int)] (fun _ => none) Q E) (H : Hp) (a : Addr) (ns : List Int) (hl : ns.length ≤ n) (hS : SqL K H a (ns.map V.int)) :
    conc (G.at fun _ => none) K sp [.ref a] H (fun v _ => v = .bl true) fun _ _ _ => False := by
  refine ⟨H, fun _ => none, [.scr (ns.map PV.int)], fun v _ => v = .bl true, fun _ _ => False, ⟨fun _ _ h => (by cases h), fun _ _ h => h, fun _ _ h => (by cases h)⟩, .cons (.scr hS (RVs'.ints ns)) .nil, hs ns _ _ hl fun _ => rfl, fun p M' F' H' v _ _ r e => ?_, fun _ _ _ _ _ _ _ _ _ z => z⟩
  subst e
  cases r
  rfl
theorem walkX {l : PySem.W.OpenLaw} {n k : Nat} {q : Program} {loose : List Str} {XP : (Str → Option Value) → Heap → Prop} {YP : World → Heap → Prop} {d : DefRec} {x : Str} {G : Cfg} {sp : ZSp}
    (most : l.most = some n) (fits : n ≤ sizeLine) (plain : d.params.defaults = []) (room : Room k callerA)
    (hs : ∀ (ns : List Int) (Q : ZQ) (E : ZX), ns.length ≤ n → (∀ M, Q (.bl true) M) → sp [.scr (ns.map PV.int)] (fun _ => none) Q E)
    (F : ∀ (w : World) (mg : Str → Option Value) (f : Addr) (h : Heap), YP w h → h.Ns mainGlobals mg → mg d.name = some (.ref f) →
      ∃ (K : PySem.W.Frag) (fd : FuncData), K.In h ∧ (∀ (s : Shared) (u : Value), BindsTo s fd ⟨[u], []⟩ [(x, u)]) ∧
        ∀ base : Heap, K.In base → base.Ns mainGlobals mg → FnOk l.prog w K mg base (L2.CX l.prog w) k f fd [x] (conc (G.at fun _ => none) K sp)) :
    PySem.W.WalkO q loose XP YP l.row.toRowW d [] (fun f vs => PySem.call f vs) := by
  apply Att.attach_call most plain
  intro w s0 s1 mg mb f o pm cd doc a us ns g y _ _ _ e1 e2 e3 e4 e5
  obtain ⟨K, fd, kin, bd, ok⟩ := F w mg f _ y g.T.g e1
  refine law_call kin g.T.g g.T.b g.T.builtins g.T.nolimit e5 e2 e3 (Nat.le_trans e4 fits) room ok bd ?_ ?_
  · intro H _ hS
    exact conc_law hs H a ns e4 hS
  · intro H e s' z
    exact noX z
end Z
set_option Elab.async false
set_option linter.all false
set_option maxRecDepth 100000
set_option maxHeartbeats 0
namespace HT
open PySem PySem.Spec PyProof.Rows L2 Z
def top (i : Nat) : Stmt := PySem.Challenge.pw_hushkernel_k06_text_of_a_build.main.body.getD i (.Pass ⟨0, 0, 0, 0⟩)
def d_is_integer : He.DefD := ⟨("is_integer", none), "is_integer", "is_integer", defArgs (top 4), defBody (top 4), defScope (top 4), [], []⟩
def d_in_range : He.DefD := ⟨("in_range", none), "in_range", "in_range", defArgs (top 5), defBody (top 5), defScope (top 5), [], []⟩
def d_is_flag : He.DefD := ⟨("is_flag", none), "is_flag", "is_flag", defArgs (top 6), defBody (top 6), defScope (top 6), [], []⟩
def d_is_value : He.DefD := ⟨("is_value", none), "is_value", "is_value", defArgs (top 7), defBody (top 7), defScope (top 7), [], []⟩
def d_is_index : He.DefD := ⟨("is_index", none), "is_index", "is_index", defArgs (top 8), defBody (top 8), defScope (top 8), [], []⟩
def d_is_tuple : He.DefD := ⟨("is_tuple", none), "is_tuple", "is_tuple", defArgs (top 9), defBody (top 9), defScope (top 9), [], []⟩
def d_climbs : He.DefD := ⟨("climbs", none), "climbs", "climbs", defArgs (top 10), defBody (top 10), defScope (top 10), [], []⟩
def d_fits_right : He.DefD := ⟨("fits_right", none), "fits_right", "fits_right", defArgs (top 11), defBody (top 11), defScope (top 11), [], []⟩
def d_good_tasks : He.DefD := ⟨("good_tasks", none), "good_tasks", "good_tasks", defArgs (top 13), defBody (top 13), defScope (top 13), [], []⟩
def d_good_pages : He.DefD := ⟨("good_pages", none), "good_pages", "good_pages", defArgs (top 14), defBody (top 14), defScope (top 14), [], []⟩
def d_good_ports : He.DefD := ⟨("good_ports", none), "good_ports", "good_ports", defArgs (top 15), defBody (top 15), defScope (top 15), [], []⟩
def d_good_disk : He.DefD := ⟨("good_disk", none), "good_disk", "good_disk", defArgs (top 16), defBody (top 16), defScope (top 16), [], []⟩
def d_limits_of : He.DefD := ⟨("limits_of", none), "limits_of", "limits_of", defArgs (top 17), defBody (top 17), defScope (top 17), [], []⟩
def d_good_rights : He.DefD := ⟨("good_rights", none), "good_rights", "good_rights", defArgs (top 18), defBody (top 18), defScope (top 18), [], []⟩
def d_good_lines : He.DefD := ⟨("good_lines", none), "good_lines", "good_lines", defArgs (top 19), defBody (top 19), defScope (top 19), [], []⟩
def d_good_costs : He.DefD := ⟨("good_costs", none), "good_costs", "good_costs", defArgs (top 20), defBody (top 20), defScope (top 20), [], []⟩
def d_good_plan : He.DefD := ⟨("good_plan", none), "good_plan", "good_plan", defArgs (top 21), defBody (top 21), defScope (top 21), [], []⟩
def d_good_outside : He.DefD := ⟨("good_outside", none), "good_outside", "good_outside", defArgs (top 22), defBody (top 22), defScope (top 22), [], []⟩
def d_check_things : He.DefD := ⟨("check_things", none), "check_things", "check_things", defArgs (top 23), defBody (top 23), defScope (top 23), [], []⟩
def d_check_rules : He.DefD := ⟨("check_rules", none), "check_rules", "check_rules", defArgs (top 24), defBody (top 24), defScope (top 24), [], []⟩
def d_check_flags : He.DefD := ⟨("check_flags", none), "check_flags", "check_flags", defArgs (top 25), defBody (top 25), defScope (top 25), [], []⟩
def d_frozen_plan : He.DefD := ⟨("frozen_plan", none), "frozen_plan", "frozen_plan", defArgs (top 26), defBody (top 26), defScope (top 26), [], []⟩
def d_period_of : He.DefD := ⟨("period_of", none), "period_of", "period_of", defArgs (top 27), defBody (top 27), defScope (top 27), [], []⟩
def d_Build___init__ : He.DefD := ⟨("Build", some "__init__"), "__init__", "Build.__init__", defArgs (inClass (top 28) 0), defBody (inClass (top 28) 0), defScope (inClass (top 28) 0), [], [("wipe", .bl false), ("pad", .bl false), ("lend", .bl false), ("share", .bl false)]⟩
def d_Build_tasks : He.DefD := ⟨("Build", some "tasks"), "tasks", "Build.tasks", defArgs (inClass (top 28) 1), defBody (inClass (top 28) 1), defScope (inClass (top 28) 1), [], []⟩
def d_Build_pages : He.DefD := ⟨("Build", some "pages"), "pages", "Build.pages", defArgs (inClass (top 28) 2), defBody (inClass (top 28) 2), defScope (inClass (top 28) 2), [], []⟩
def d_Build_ports : He.DefD := ⟨("Build", some "ports"), "ports", "Build.ports", defArgs (inClass (top 28) 3), defBody (inClass (top 28) 3), defScope (inClass (top 28) 3), [], []⟩
def d_Build_locks : He.DefD := ⟨("Build", some "locks"), "locks", "Build.locks", defArgs (inClass (top 28) 4), defBody (inClass (top 28) 4), defScope (inClass (top 28) 4), [], []⟩
def d_Build_frames : He.DefD := ⟨("Build", some "frames"), "frames", "Build.frames", defArgs (inClass (top 28) 5), defBody (inClass (top 28) 5), defScope (inClass (top 28) 5), [], []⟩
def d_Build_disk : He.DefD := ⟨("Build", some "disk"), "disk", "Build.disk", defArgs (inClass (top 28) 6), defBody (inClass (top 28) 6), defScope (inClass (top 28) 6), [], []⟩
def d_Build_rights : He.DefD := ⟨("Build", some "rights"), "rights", "Build.rights", defArgs (inClass (top 28) 7), defBody (inClass (top 28) 7), defScope (inClass (top 28) 7), [], []⟩
def d_Build_lines : He.DefD := ⟨("Build", some "lines"), "lines", "Build.lines", defArgs (inClass (top 28) 8), defBody (inClass (top 28) 8), defScope (inClass (top 28) 8), [], []⟩
def d_Build_costs : He.DefD := ⟨("Build", some "costs"), "costs", "Build.costs", defArgs (inClass (top 28) 9), defBody (inClass (top 28) 9), defScope (inClass (top 28) 9), [], []⟩
def d_Build_plan : He.DefD := ⟨("Build", some "plan"), "plan", "Build.plan", defArgs (inClass (top 28) 10), defBody (inClass (top 28) 10), defScope (inClass (top 28) 10), [], []⟩
def d_Build_outside : He.DefD := ⟨("Build", some "outside"), "outside", "Build.outside", defArgs (inClass (top 28) 11), defBody (inClass (top 28) 11), defScope (inClass (top 28) 11), [], []⟩
def d_Build_wipe : He.DefD := ⟨("Build", some "wipe"), "wipe", "Build.wipe", defArgs (inClass (top 28) 12), defBody (inClass (top 28) 12), defScope (inClass (top 28) 12), [], []⟩
def d_Build_pad : He.DefD := ⟨("Build", some "pad"), "pad", "Build.pad", defArgs (inClass (top 28) 13), defBody (inClass (top 28) 13), defScope (inClass (top 28) 13), [], []⟩
def d_Build_lend : He.DefD := ⟨("Build", some "lend"), "lend", "Build.lend", defArgs (inClass (top 28) 14), defBody (inClass (top 28) 14), defScope (inClass (top 28) 14), [], []⟩
def d_Build_share : He.DefD := ⟨("Build", some "share"), "share", "Build.share", defArgs (inClass (top 28) 15), defBody (inClass (top 28) 15), defScope (inClass (top 28) 15), [], []⟩
def d_right_words : He.DefD := ⟨("right_words", none), "right_words", "right_words", defArgs (top 30), defBody (top 30), defScope (top 30), [], []⟩
def d_page_text : He.DefD := ⟨("page_text", none), "page_text", "page_text", defArgs (top 31), defBody (top 31), defScope (top 31), [], []⟩
def d_plan_texts : He.DefD := ⟨("plan_texts", none), "plan_texts", "plan_texts", defArgs (top 32), defBody (top 32), defScope (top 32), [], []⟩
def d_flag_texts : He.DefD := ⟨("flag_texts", none), "flag_texts", "flag_texts", defArgs (top 33), defBody (top 33), defScope (top 33), [], []⟩
def d_build_text : He.DefD := ⟨("build_text", none), "build_text", "build_text", defArgs (top 34), defBody (top 34), defScope (top 34), [], []⟩
def d__law_source : He.DefD := ⟨("_law_source", none), "_law_source", "_law_source", defArgs (top 36), defBody (top 36), defScope (top 36), [], []⟩
def d__law_draw : He.DefD := ⟨("_law_draw", none), "_law_draw", "_law_draw", defArgs (top 37), defBody (top 37), defScope (top 37), [], []⟩
def d__law_pool : He.DefD := ⟨("_law_pool", none), "_law_pool", "_law_pool", defArgs (top 38), defBody (top 38), defScope (top 38), [], []⟩
def d__law_rights : He.DefD := ⟨("_law_rights", none), "_law_rights", "_law_rights", defArgs (top 39), defBody (top 39), defScope (top 39), [], []⟩
def d__law_plan : He.DefD := ⟨("_law_plan", none), "_law_plan", "_law_plan", defArgs (top 40), defBody (top 40), defScope (top 40), [], []⟩
def d__law_parts : He.DefD := ⟨("_law_parts", none), "_law_parts", "_law_parts", defArgs (top 41), defBody (top 41), defScope (top 41), [], []⟩
def d__law_copy : He.DefD := ⟨("_law_copy", none), "_law_copy", "_law_copy", defArgs (top 42), defBody (top 42), defScope (top 42), [], []⟩
def d__law_made : He.DefD := ⟨("_law_made", none), "_law_made", "_law_made", defArgs (top 43), defBody (top 43), defScope (top 43), [], []⟩
def d__law_told : He.DefD := ⟨("_law_told", none), "_law_told", "_law_told", defArgs (top 44), defBody (top 44), defScope (top 44), [], []⟩
def d__law_same : He.DefD := ⟨("_law_same", none), "_law_same", "_law_same", defArgs (top 45), defBody (top 45), defScope (top 45), [], []⟩
def d__law_rows : He.DefD := ⟨("_law_rows", none), "_law_rows", "_law_rows", defArgs (top 46), defBody (top 46), defScope (top 46), [], []⟩
def d_law : He.DefD := ⟨("law", none), "law", "law", defArgs (top 47), defBody (top 47), defScope (top 47), [], []⟩
def dl : List He.DefD := ([d_is_integer, d_in_range, d_is_flag, d_is_value, d_is_index, d_is_tuple, d_climbs, d_fits_right, d_good_tasks, d_good_pages, d_good_ports, d_good_disk] : List He.DefD) ++ ([d_limits_of, d_good_rights, d_good_lines, d_good_costs, d_good_plan, d_good_outside, d_check_things, d_check_rules, d_check_flags, d_frozen_plan, d_period_of, d_Build___init__] : List He.DefD) ++ ([d_Build_tasks, d_Build_pages, d_Build_ports, d_Build_locks, d_Build_frames, d_Build_disk, d_Build_rights, d_Build_lines, d_Build_costs, d_Build_plan, d_Build_outside, d_Build_wipe] : List He.DefD) ++ ([d_Build_pad, d_Build_lend, d_Build_share, d_right_words, d_page_text, d_plan_texts, d_flag_texts, d_build_text, d__law_source, d__law_draw, d__law_pool, d__law_rights] : List He.DefD) ++ ([d__law_plan, d__law_parts, d__law_copy, d__law_made, d__law_told, d__law_same, d__law_rows, d_law] : List He.DefD)
def fa : List He.Fa := ([.glo "_law_source", .glo "_law_draw", .glo "_law_pool", .glo "_law_rights", .glo "_law_plan", .glo "_law_parts", .glo "is_tuple", .glo "is_integer", .glo "in_range", .glo "good_tasks", .glo "is_value", .glo "good_pages"] : List He.Fa) ++ ([.glo "good_ports", .glo "good_disk", .glo "check_things", .glo "limits_of", .glo "is_index", .glo "fits_right", .glo "climbs", .glo "good_rights", .glo "good_lines", .glo "good_costs", .glo "good_plan", .glo "good_outside"] : List He.Fa) ++ ([.glo "check_rules", .glo "is_flag", .glo "check_flags", .glo "frozen_plan", .glo "period_of", .glo "_law_made", .glo "_law_copy", .glo "page_text", .glo "plan_texts", .glo "flag_texts", .glo "right_words", .glo "build_text"] : List He.Fa) ++ ([.glo "_law_same", .glo "_law_rows", .glo "_law_told", .glo "law", .glo "Build", .cls "Build", .mkr "Build", .meth "Build" "__init__", .meth "Build" "tasks", .meth "Build" "pages", .meth "Build" "ports", .meth "Build" "locks"] : List He.Fa) ++ ([.meth "Build" "frames", .meth "Build" "disk", .meth "Build" "rights", .meth "Build" "lines", .meth "Build" "costs", .meth "Build" "plan", .meth "Build" "outside", .meth "Build" "wipe", .meth "Build" "pad", .meth "Build" "lend", .meth "Build" "share", .noat "Build" "limits"] : List He.Fa) ++ ([.noat "Build" "task_rows", .noat "Build" "page_values", .noat "Build" "port_sizes", .noat "Build" "lock_many", .noat "Build" "frame_many", .noat "Build" "disk_places", .noat "Build" "right_rows", .noat "Build" "page_lines", .noat "Build" "cost_row", .noat "Build" "plan_row", .noat "Build" "outside_row", .noat "Build" "wipes"] : List He.Fa) ++ ([.noat "Build" "pads", .noat "Build" "lends", .noat "Build" "shares", .noat "Build" "side_row", .noat "Build" "period", .noat "Build" "cost_most", .noat "Build" "parts", .free "ValueError", .free "isinstance", .free "int", .free "bool", .free "tuple"] : List He.Fa) ++ ([.free "len", .free "range", .free "str", .free "list", .free "set", .free "sum", .free "sorted", .free "max"] : List He.Fa)
def G : Cfg := ⟨[("Build", ["limits", "task_rows", "page_values", "port_sizes", "lock_many", "frame_many", "disk_places", "right_rows", "page_lines", "cost_row", "plan_row", "outside_row", "wipes", "pads", "lends", "shares", "side_row", "period", "cost_most", "parts"])], [], fun _ => none⟩
def fnl : List Fn := ([⟨("_law_source", none), ["_law_script"], [], false⟩, ⟨("_law_draw", none), ["_law_source_here", "_law_many"], [], false⟩, ⟨("_law_pool", none), ["_law_parts_here"], [], false⟩, ⟨("_law_rights", none), ["_law_source_here", "_law_pool_here"], [], false⟩, ⟨("_law_plan", none), ["_law_source_here", "_law_many"], [], false⟩, ⟨("_law_parts", none), ["_law_source_here"], [], false⟩, ⟨("is_tuple", none), ["thing", "many"], [], false⟩, ⟨("is_integer", none), ["thing"], [], false⟩, ⟨("in_range", none), ["thing", "low", "high"], [], false⟩, ⟨("good_tasks", none), ["tasks"], [], false⟩] : List Fn) ++ ([⟨("is_value", none), ["thing"], [], false⟩, ⟨("good_pages", none), ["pages"], [], false⟩, ⟨("good_ports", none), ["ports"], [], false⟩, ⟨("good_disk", none), ["disk"], [], false⟩, ⟨("check_things", none), ["tasks", "pages", "ports", "locks", "frames", "disk"], [], false⟩, ⟨("limits_of", none), ["task_many", "page_many", "port_many", "lock_many", "disk"], [], false⟩, ⟨("is_index", none), ["thing", "many"], [], false⟩, ⟨("fits_right", none), ["limits", "thing"], [], false⟩, ⟨("climbs", none), ["items"], [], false⟩, ⟨("good_rights", none), ["limits", "rights"], [], false⟩] : List Fn) ++ ([⟨("good_lines", none), ["page_many", "lines"], [], false⟩, ⟨("good_costs", none), ["costs"], [], false⟩, ⟨("good_plan", none), ["task_many", "plan"], [], false⟩, ⟨("good_outside", none), ["port_many", "outside"], [], false⟩, ⟨("check_rules", none), ["limits", "rights", "lines", "costs", "plan", "outside"], [], false⟩, ⟨("is_flag", none), ["thing"], [], false⟩, ⟨("check_flags", none), ["wipe", "pad", "lend", "share"], [], false⟩, ⟨("frozen_plan", none), ["plan"], [], false⟩, ⟨("period_of", none), ["plan_row", "outside_row"], [], false⟩, ⟨("Build", some "__init__"), ["self", "tasks", "pages", "ports", "locks", "frames", "disk", "rights", "lines", "costs", "plan", "outside", "wipe", "pad", "lend", "share"], [], true⟩] : List Fn) ++ ([⟨("is_tuple", none), ["thing", "many"], [], false⟩, ⟨("_law_made", none), ["_law_parts_here"], [], false⟩, ⟨("_law_copy", none), ["_law_thing"], [], false⟩, ⟨("_law_copy", none), ["_law_thing"], [], false⟩, ⟨("_law_copy", none), ["_law_thing"], [], false⟩, ⟨("_law_copy", none), ["_law_thing"], [], false⟩, ⟨("_law_copy", none), ["_law_thing"], [], false⟩, ⟨("page_text", none), ["worth", "line"], [], false⟩, ⟨("plan_texts", none), ["plan_row"], [], false⟩, ⟨("flag_texts", none), ["build"], [], false⟩] : List Fn) ++ ([⟨("right_words", none), ["right"], [], false⟩, ⟨("build_text", none), ["build"], [], false⟩, ⟨("_law_same", none), ["_law_one", "_law_two"], [], false⟩, ⟨("_law_same", none), ["_law_one", "_law_two"], [], false⟩, ⟨("_law_same", none), ["_law_one", "_law_two"], [], false⟩, ⟨("_law_same", none), ["_law_one", "_law_two"], [], false⟩, ⟨("_law_same", none), ["_law_one", "_law_two"], [], false⟩, ⟨("_law_rows", none), ["_law_parts_here"], [], false⟩, ⟨("Build", some "tasks"), ["self"], [], false⟩, ⟨("Build", some "pages"), ["self"], [], false⟩] : List Fn) ++ ([⟨("Build", some "ports"), ["self"], [], false⟩, ⟨("Build", some "locks"), ["self"], [], false⟩, ⟨("Build", some "frames"), ["self"], [], false⟩, ⟨("Build", some "disk"), ["self"], [], false⟩, ⟨("Build", some "rights"), ["self"], [], false⟩, ⟨("Build", some "lines"), ["self"], [], false⟩, ⟨("Build", some "costs"), ["self"], [], false⟩, ⟨("Build", some "plan"), ["self"], [], false⟩, ⟨("Build", some "outside"), ["self"], [], false⟩, ⟨("Build", some "wipe"), ["self"], [], false⟩] : List Fn) ++ ([⟨("Build", some "pad"), ["self"], [], false⟩, ⟨("Build", some "lend"), ["self"], [], false⟩, ⟨("Build", some "share"), ["self"], [], false⟩, ⟨("_law_told", none), ["_law_build"], [], false⟩, ⟨("law", none), ["_law_script"], [], false⟩] : List Fn)
def frees : List Str := (["ValueError", "isinstance", "int", "bool", "tuple", "len", "range", "str", "list", "set", "sum", "sorted"] : List Str) ++ (["max"] : List Str)
def B : Tb := ⟨fnl, frees, [⟨0, 29, 11, ["wipe", "pad", "lend", "share"], []⟩]⟩
def b__law_source : SL := (.cons (.setc 1 false [3] (.name 3) (.seq (.var 0)) (.cons (.cmp .ge (.var 3) (.bin .pow (.int 10) (.int 18))) .nil) (.var 3)) (.cons (.asg (.name 2) (.int 7)) (.cons (.for_ (.name 3) (.seq (.var 0)) (.cons (.asg (.name 2) (.bin .mod (.bcall .int (.cons (.bin .add (.bin .add (.bin .mul (.var 2) (.int 48271)) (.bin .mod (.bcall .int (.cons (.var 3) .nil)) (.int 2147483629))) (.int 11)) .nil)) (.int 2147483647))) .nil)) (.cons (.ret (.lst false (.cons (.var 1) (.cons (.var 2) (.cons (.int 0) .nil))))) .nil))))
abbrev n__law_source : List Str := ["_law_script", "_law_great", "_law_seed", "_law_cell"]
def b__law_draw : SL := (.cons (.asg (.name 2) (.idx (.var 0) (.int 0))) (.cons (.ife (.cmp .gt (.bcall .len (.cons (.var 2) .nil)) (.int 0)) (.cons (.asg (.name 4) (.bin .mod (.bcall .int (.cons (.idx (.var 2) (.int 0)) .nil)) (.var 1))) (.cons (.asg (.sub (.var 2) (.int 0)) (.bin .fdiv (.idx (.var 2) (.int 0)) (.var 1))) (.cons (.ife (.cmp .eq (.idx (.var 2) (.int 0)) (.int 0)) (.cons (.expr (.bmeth .pop0 (.var 2) (.cons (.int 0) .nil))) .nil) .nil) (.cons (.ret (.var 4)) .nil)))) .nil) (.cons (.augsub (.var 0) (.int 2) .add (.int 1)) (.cons (.asg (.name 3) (.bin .mod (.bcall .int (.cons (.bin .add (.bin .mul (.bin .add (.idx (.var 0) (.int 1)) (.bin .mul (.idx (.var 0) (.int 2)) (.int 7919))) (.int 48271)) (.idx (.var 0) (.int 2))) .nil)) (.int 2147483647))) (.cons (.asg (.name 3) (.bin .mod (.bcall .int (.cons (.bin .add (.bin .mul (.var 3) (.bin .add (.bin .fdiv (.var 3) (.int 1009)) (.int 69621))) (.idx (.var 0) (.int 2))) .nil)) (.int 2147483629))) (.cons (.asg (.name 3) (.bin .mod (.bcall .int (.cons (.bin .add (.bin .mul (.var 3) (.bin .add (.bin .fdiv (.var 3) (.int 2003)) (.int 40692))) (.int 5)) .nil)) (.int 2147483399))) (.cons (.ret (.bin .mod (.bcall .int (.cons (.bin .fdiv (.var 3) (.int 8)) .nil)) (.var 1))) .nil)))))))
abbrev n__law_draw : List Str := ["_law_source_here", "_law_many", "_law_great", "_law_number", "_law_worth"]
def b__law_pool : SL := (.cons (.setc 1 false [2] (.name 2) (.range1 (.bcall .len (.cons (.idx (.var 0) (.int 0)) .nil))) .nil (.tup (.cons (.str "hand") (.cons (.var 2) .nil)))) (.cons (.asg (.name 1) (.cat (.var 1) (.comp true [2] (.name 2) (.range1 (.idx (.var 0) (.int 3))) .nil (.tup (.cons (.str "lock") (.cons (.var 2) .nil)))))) (.cons (.asg (.name 1) (.cat (.var 1) (.comp true [2] (.name 2) (.range1 (.bcall .len (.cons (.idx (.var 0) (.int 1)) .nil))) .nil (.tup (.cons (.str "read") (.cons (.var 2) .nil)))))) (.cons (.ife (.cmp .gt (.idx (.var 0) (.int 5)) (.int 0)) (.cons (.expr (.bmeth .append (.var 1) (.cons (.tup (.cons (.str "seek") (.cons (.int 0) .nil))) .nil))) .nil) .nil) (.cons (.asg (.name 1) (.cat (.var 1) (.comp true [2] (.name 2) (.range1 (.bcall .len (.cons (.idx (.var 0) (.int 2)) .nil))) .nil (.tup (.cons (.str "send") (.cons (.var 2) .nil)))))) (.cons (.asg (.name 1) (.cat (.var 1) (.comp true [2] (.name 2) (.range1 (.bcall .len (.cons (.idx (.var 0) (.int 0)) .nil))) .nil (.tup (.cons (.str "strip") (.cons (.var 2) .nil)))))) (.cons (.asg (.name 1) (.cat (.var 1) (.comp true [2] (.name 2) (.range1 (.bcall .len (.cons (.idx (.var 0) (.int 2)) .nil))) .nil (.tup (.cons (.str "take") (.cons (.var 2) .nil)))))) (.cons (.ret (.frz (.cat (.var 1) (.comp true [2] (.name 2) (.range1 (.bcall .len (.cons (.idx (.var 0) (.int 1)) .nil))) .nil (.tup (.cons (.str "write") (.cons (.var 2) .nil))))))) .nil))))))))
abbrev n__law_pool : List Str := ["_law_parts_here", "_law_pool_here", "_law_k"]
def b__law_rights : SL := (.cons (.asg (.name 2) (.lst false .nil)) (.cons (.for_ (.name 3) (.seq (.var 1)) (.cons (.ife (.bool true (.cons (.cmp .lt (.bcall .len (.cons (.var 2) .nil)) (.int 8)) (.cons (.cmp .eq (.call 1 (.cons (.var 0) (.cons (.int 3) .nil)) []) (.int 0)) .nil))) (.cons (.expr (.bmeth .append (.var 2) (.cons (.var 3) .nil))) .nil) .nil) .nil)) (.cons (.ret (.frz (.var 2))) .nil)))
abbrev n__law_rights : List Str := ["_law_source_here", "_law_pool_here", "_law_row", "_law_right"]
def b__law_plan : SL := (.cons (.ife (.cmp .eq (.call 1 (.cons (.var 0) (.cons (.int 2) .nil)) []) (.int 0)) (.cons (.ret (.tup (.cons (.str "levels") (.cons (.bin .add (.int 1) (.call 1 (.cons (.var 0) (.cons (.int 8) .nil)) [])) .nil)))) .nil) .nil) (.cons (.asg (.name 2) (.lst false .nil)) (.cons (.for_ (.name 3) (.range1 (.bin .add (.int 1) (.call 1 (.cons (.var 0) (.cons (.int 4) .nil)) []))) (.cons (.expr (.bmeth .append (.var 2) (.cons (.tup (.cons (.call 1 (.cons (.var 0) (.cons (.var 1) .nil)) []) (.cons (.bin .add (.int 1) (.call 1 (.cons (.var 0) (.cons (.int 12) .nil)) [])) .nil))) .nil))) .nil)) (.frz 2 (.cons (.ret (.tup (.cons (.str "slots") (.cons (.var 2) .nil)))) .nil)))))
abbrev n__law_plan : List Str := ["_law_source_here", "_law_many", "_law_rows_here", "_law_k"]
def b__law_parts : SL := (.cons (.asg (.name 1) (.lst false .nil)) (.cons (.for_ (.name 2) (.range1 (.bin .add (.int 2) (.call 1 (.cons (.var 0) (.cons (.int 3) .nil)) []))) (.cons (.expr (.bmeth .append (.var 1) (.cons (.tup (.cons (.call 1 (.cons (.var 0) (.cons (.int 4) .nil)) []) (.cons (.call 1 (.cons (.var 0) (.cons (.int 3) .nil)) []) .nil))) .nil))) .nil)) (.cons (.ife (.cmp .eq (.bcall .len (.cons (.comp true [9] (.name 9) (.seq (.var 1)) (.cons (.cmp .ne (.idx (.var 9) (.int 0)) (.idx (.idx (.var 1) (.int 0)) (.int 0))) .nil) (.var 9)) .nil)) (.int 0)) (.cons (.asg (.sub (.var 1) (.neg 1)) (.tup (.cons (.bin .mod (.bcall .int (.cons (.bin .add (.bin .add (.idx (.idx (.var 1) (.int 0)) (.int 0)) (.int 1)) (.call 1 (.cons (.var 0) (.cons (.int 3) .nil)) [])) .nil)) (.int 4)) (.cons (.idx (.idx (.var 1) (.neg 1)) (.int 1)) .nil)))) .nil) .nil) (.frz 1 (.cons (.setc 3 true [2] (.name 2) (.range1 (.call 1 (.cons (.var 0) (.cons (.int 4) .nil)) [])) .nil (.call 1 (.cons (.var 0) (.cons (.int 2) .nil)) [])) (.cons (.setc 4 true [2] (.name 2) (.range1 (.call 1 (.cons (.var 0) (.cons (.int 3) .nil)) [])) .nil (.bin .add (.int 1) (.call 1 (.cons (.var 0) (.cons (.int 2) .nil)) []))) (.cons (.asg (.name 5) (.idx (.lst true (.cons (.int 0) (.cons (.int 2) (.cons (.int 3) (.cons (.int 4) .nil))))) (.call 1 (.cons (.var 0) (.cons (.int 4) .nil)) []))) (.cons (.asg (.name 6) (.lst false (.cons (.var 1) (.cons (.var 3) (.cons (.var 4) (.cons (.call 1 (.cons (.var 0) (.cons (.int 3) .nil)) []) (.cons (.call 1 (.cons (.var 0) (.cons (.int 4) .nil)) []) (.cons (.var 5) .nil)))))))) (.cons (.asg (.name 7) (.call 2 (.cons (.var 6) .nil) [])) (.cons (.expr (.bmeth .append (.var 6) (.cons (.comp true [9] (.name 9) (.seq (.var 1)) .nil (.call 3 (.cons (.var 0) (.cons (.var 7) .nil)) [])) .nil))) (.cons (.expr (.bmeth .append (.var 6) (.cons (.comp true [10] (.name 10) (.seq (.var 3)) .nil (.idx (.lst true (.cons .non (.cons (.int 0) (.cons (.int 1) .nil)))) (.call 1 (.cons (.var 0) (.cons (.int 3) .nil)) []))) .nil))) (.cons (.expr (.bmeth .append (.var 6) (.cons (.tup (.cons (.bin .add (.int 1) (.call 1 (.cons (.var 0) (.cons (.int 3) .nil)) [])) (.cons (.call 1 (.cons (.var 0) (.cons (.int 4) .nil)) []) (.cons (.call 1 (.cons (.var 0) (.cons (.int 3) .nil)) []) .nil)))) .nil))) (.cons (.expr (.bmeth .append (.var 6) (.cons (.call 4 (.cons (.var 0) (.cons (.bcall .len (.cons (.var 1) .nil)) .nil)) []) .nil))) (.cons (.asg (.name 8) .non) (.cons (.ife (.bool true (.cons (.cmp .gt (.bcall .len (.cons (.var 4) .nil)) (.int 0)) (.cons (.cmp .eq (.call 1 (.cons (.var 0) (.cons (.int 2) .nil)) []) (.int 1)) .nil))) (.cons (.asg (.name 8) (.tup (.cons (.call 1 (.cons (.var 0) (.cons (.bcall .len (.cons (.var 4) .nil)) .nil)) []) (.cons (.bin .add (.int 1) (.call 1 (.cons (.var 0) (.cons (.int 4) .nil)) [])) .nil)))) .nil) .nil) (.cons (.expr (.bmeth .append (.var 6) (.cons (.var 8) .nil))) (.cons (.for_ (.name 2) (.range1 (.int 4)) (.cons (.expr (.bmeth .append (.var 6) (.cons (.cmp .eq (.call 1 (.cons (.var 0) (.cons (.int 2) .nil)) []) (.int 1)) .nil))) .nil)) (.cons (.ret (.frz (.var 6))) .nil))))))))))))))))))
abbrev n__law_parts : List Str := ["_law_source_here", "_law_tasks", "_law_k", "_law_pages", "_law_ports", "_law_disk", "_law_parts_here", "_law_pool_here", "_law_outside", "_law_row", "_law_page"]
def b_is_tuple : SL := (.cons (.ret (.bool true (.cons (.isin (.var 0) .tuple) (.cons (.cmp .eq (.bcall .len (.cons (.var 0) .nil)) (.var 1)) .nil)))) .nil)
abbrev n_is_tuple : List Str := ["thing", "many"]
def b_is_integer : SL := (.cons (.ret (.bool true (.cons (.isin (.var 0) .int) (.cons (.not (.isin (.var 0) .bool)) .nil)))) .nil)
abbrev n_is_integer : List Str := ["thing"]
def b_in_range : SL := (.cons (.ret (.bool true (.cons (.call 7 (.cons (.var 0) .nil) []) (.cons (.chain .le .le (.var 1) (.var 0) (.var 2)) .nil)))) .nil)
abbrev n_in_range : List Str := ["thing", "low", "high"]
def b_good_tasks : SL := (.cons (.ife (.bool false (.cons (.not (.val (.isin (.var 0) .list))) (.cons (.not (.chain .le .le (.int 2) (.bcall .len (.cons (.var 0) .nil)) (.int 4))) .nil))) (.cons (.ret (.bl false)) .nil) .nil) (.cons (.for_ (.name 1) (.seq (.var 0)) (.cons (.ife (.bool false (.cons (.not (.val (.call 6 (.cons (.var 1) (.cons (.int 2) .nil)) []))) (.cons (.not (.val (.call 8 (.cons (.idx (.var 1) (.int 0)) (.cons (.int 0) (.cons (.int 3) .nil))) []))) (.cons (.not (.val (.call 8 (.cons (.idx (.var 1) (.int 1)) (.cons (.int 0) (.cons (.int 2) .nil))) []))) .nil)))) (.cons (.ret (.bl false)) .nil) .nil) .nil)) (.cons (.ret (.cmp .ge (.lenset (.comp true [1] (.name 1) (.seq (.var 0)) .nil (.idx (.var 1) (.int 0)))) (.int 2))) .nil)))
abbrev n_good_tasks : List Str := ["tasks", "row"]
def b_is_value : SL := (.cons (.ret (.call 8 (.cons (.var 0) (.cons (.int 0) (.cons (.int 1) .nil))) [])) .nil)
abbrev n_is_value : List Str := ["thing"]
def b_good_pages : SL := (.cons (.ife (.bool false (.cons (.not (.val (.isin (.var 0) .list))) (.cons (.cmp .gt (.bcall .len (.cons (.var 0) .nil)) (.int 3)) .nil))) (.cons (.ret (.bl false)) .nil) .nil) (.cons (.for_ (.name 1) (.seq (.var 0)) (.cons (.ife (.not (.val (.call 10 (.cons (.var 1) .nil) []))) (.cons (.ret (.bl false)) .nil) .nil) .nil)) (.cons (.ret (.bl true)) .nil)))
abbrev n_good_pages : List Str := ["pages", "worth"]
def b_good_ports : SL := (.cons (.ife (.bool false (.cons (.not (.val (.isin (.var 0) .list))) (.cons (.cmp .gt (.bcall .len (.cons (.var 0) .nil)) (.int 2)) .nil))) (.cons (.ret (.bl false)) .nil) .nil) (.cons (.for_ (.name 1) (.seq (.var 0)) (.cons (.ife (.not (.val (.call 8 (.cons (.var 1) (.cons (.int 1) (.cons (.int 2) .nil))) []))) (.cons (.ret (.bl false)) .nil) .nil) .nil)) (.cons (.ret (.bl true)) .nil)))
abbrev n_good_ports : List Str := ["ports", "size"]
def b_good_disk : SL := (.cons (.ret (.bool true (.cons (.call 7 (.cons (.var 0) .nil) []) (.cons (.cmp .in_ (.var 0) (.tup (.cons (.int 0) (.cons (.int 2) (.cons (.int 3) (.cons (.int 4) .nil)))))) .nil)))) .nil)
abbrev n_good_disk : List Str := ["disk"]
def b_check_things : SL := (.cons (.ife (.not (.val (.call 9 (.cons (.var 0) .nil) []))) (.cons .never .nil) .nil) (.cons (.ife (.not (.val (.call 11 (.cons (.var 1) .nil) []))) (.cons .never .nil) .nil) (.cons (.ife (.not (.val (.call 12 (.cons (.var 2) .nil) []))) (.cons .never .nil) .nil) (.cons (.ife (.not (.val (.call 8 (.cons (.var 3) (.cons (.int 0) (.cons (.int 2) .nil))) []))) (.cons .never .nil) .nil) (.cons (.ife (.not (.val (.call 8 (.cons (.var 4) (.cons (.int 0) (.cons (.int 3) .nil))) []))) (.cons .never .nil) .nil) (.cons (.ife (.not (.val (.call 13 (.cons (.var 5) .nil) []))) (.cons .never .nil) .nil) .nil))))))
abbrev n_check_things : List Str := ["tasks", "pages", "ports", "locks", "frames", "disk"]
def b_limits_of : SL := (.cons (.asg (.name 5) (.int 0)) (.cons (.ife (.cmp .gt (.var 4) (.int 0)) (.cons (.asg (.name 5) (.int 1)) .nil) .nil) (.cons (.ret (.dict true ["hand", "lock", "read", "seek", "send", "strip", "take", "write"] (.cons (.var 0) (.cons (.var 3) (.cons (.var 1) (.cons (.var 5) (.cons (.var 2) (.cons (.var 0) (.cons (.var 2) (.cons (.var 1) .nil)))))))))) .nil)))
abbrev n_limits_of : List Str := ["task_many", "page_many", "port_many", "lock_many", "disk", "seek_many"]
def b_is_index : SL := (.cons (.ret (.call 8 (.cons (.var 0) (.cons (.int 0) (.cons (.bin .sub (.var 1) (.int 1)) .nil))) [])) .nil)
abbrev n_is_index : List Str := ["thing", "many"]
def b_fits_right : SL := (.cons (.ife (.bool false (.cons (.not (.val (.call 6 (.cons (.var 1) (.cons (.int 2) .nil)) []))) (.cons (.not (.val (.isin (.idx (.var 1) (.int 0)) .str))) .nil))) (.cons (.ret (.bl false)) .nil) .nil) (.cons (.ife (.cmp .notin (.idx (.var 1) (.int 0)) (.var 0)) (.cons (.ret (.bl false)) .nil) .nil) (.cons (.ret (.call 16 (.cons (.idx (.var 1) (.int 1)) (.cons (.idx (.var 0) (.idx (.var 1) (.int 0))) .nil)) [])) .nil)))
abbrev n_fits_right : List Str := ["limits", "thing"]
def b_climbs : SL := (.cons (.for_ (.name 1) (.range2 (.int 1) (.bcall .len (.cons (.var 0) .nil))) (.cons (.ife (.not (.cmp .lt (.idx (.var 0) (.bin .sub (.var 1) (.int 1))) (.idx (.var 0) (.var 1)))) (.cons (.ret (.bl false)) .nil) .nil) .nil)) (.cons (.ret (.bl true)) .nil))
abbrev n_climbs : List Str := ["items", "at"]
def b_good_rights : SL := (.cons (.ife (.bool false (.cons (.not (.val (.isin (.var 1) .list))) (.cons (.cmp .ne (.bcall .len (.cons (.var 1) .nil)) (.idx (.var 0) (.str "hand"))) .nil))) (.cons (.ret (.bl false)) .nil) .nil) (.cons (.for_ (.name 2) (.seq (.var 1)) (.cons (.ife (.bool false (.cons (.not (.val (.isin (.var 2) .list))) (.cons (.cmp .gt (.bcall .len (.cons (.var 2) .nil)) (.int 8)) .nil))) (.cons (.ret (.bl false)) .nil) .nil) (.cons (.for_ (.name 3) (.seq (.var 2)) (.cons (.ife (.not (.val (.call 17 (.cons (.var 0) (.cons (.var 3) .nil)) []))) (.cons (.ret (.bl false)) .nil) .nil) .nil)) (.cons (.ife (.not (.val (.call 18 (.cons (.var 2) .nil) []))) (.cons (.ret (.bl false)) .nil) .nil) .nil)))) (.cons (.ret (.bl true)) .nil)))
abbrev n_good_rights : List Str := ["limits", "rights", "row", "right"]
def b_good_lines : SL := (.cons (.ife (.bool false (.cons (.not (.val (.isin (.var 1) .list))) (.cons (.cmp .ne (.bcall .len (.cons (.var 1) .nil)) (.var 0)) .nil))) (.cons (.ret (.bl false)) .nil) .nil) (.cons (.for_ (.name 2) (.seq (.var 1)) (.cons (.ife (.bool true (.cons (.cmp .isnot (.var 2) .non) (.cons (.not (.val (.call 16 (.cons (.var 2) (.cons (.int 2) .nil)) []))) .nil))) (.cons (.ret (.bl false)) .nil) .nil) .nil)) (.cons (.ret (.bl true)) .nil)))
abbrev n_good_lines : List Str := ["page_many", "lines", "line"]
def b_good_costs : SL := (.cons (.ife (.not (.val (.call 6 (.cons (.var 0) (.cons (.int 3) .nil)) []))) (.cons (.ret (.bl false)) .nil) .nil) (.cons (.ret (.bool true (.cons (.call 8 (.cons (.idx (.var 0) (.int 0)) (.cons (.int 1) (.cons (.int 3) .nil))) []) (.cons (.call 8 (.cons (.idx (.var 0) (.int 1)) (.cons (.int 0) (.cons (.int 3) .nil))) []) (.cons (.call 8 (.cons (.idx (.var 0) (.int 2)) (.cons (.int 0) (.cons (.int 2) .nil))) []) .nil))))) .nil))
abbrev n_good_costs : List Str := ["costs"]
def b_good_plan : SL := (.cons (.ife (.not (.val (.call 6 (.cons (.var 1) (.cons (.int 2) .nil)) []))) (.cons (.ret (.bl false)) .nil) .nil) (.cons (.ife (.cmp .eq (.idx (.var 1) (.int 0)) (.str "levels")) (.cons (.ret (.call 8 (.cons (.idx (.var 1) (.int 1)) (.cons (.int 1) (.cons (.int 8) .nil))) [])) .nil) .nil) (.cons (.ife (.bool false (.cons (.cmp .ne (.idx (.var 1) (.int 0)) (.str "slots")) (.cons (.not (.val (.isin (.idx (.var 1) (.int 1)) .list))) (.cons (.not (.chain .le .le (.int 1) (.bcall .len (.cons (.idx (.var 1) (.int 1)) .nil)) (.int 4))) .nil)))) (.cons (.ret (.bl false)) .nil) .nil) (.cons (.for_ (.name 2) (.seq (.idx (.var 1) (.int 1))) (.cons (.ife (.bool false (.cons (.not (.val (.call 6 (.cons (.var 2) (.cons (.int 2) .nil)) []))) (.cons (.not (.val (.call 16 (.cons (.idx (.var 2) (.int 0)) (.cons (.var 0) .nil)) []))) (.cons (.not (.val (.call 8 (.cons (.idx (.var 2) (.int 1)) (.cons (.int 1) (.cons (.int 12) .nil))) []))) .nil)))) (.cons (.ret (.bl false)) .nil) .nil) .nil)) (.cons (.ret (.bl true)) .nil)))))
abbrev n_good_plan : List Str := ["task_many", "plan", "row"]
def b_good_outside : SL := (.cons (.ife (.cmp .is_ (.var 1) .non) (.cons (.ret (.bl true)) .nil) .nil) (.cons (.ret (.bool true (.cons (.call 6 (.cons (.var 1) (.cons (.int 2) .nil)) []) (.cons (.call 16 (.cons (.idx (.var 1) (.int 0)) (.cons (.var 0) .nil)) []) (.cons (.call 8 (.cons (.idx (.var 1) (.int 1)) (.cons (.int 1) (.cons (.int 4) .nil))) []) .nil))))) .nil))
abbrev n_good_outside : List Str := ["port_many", "outside"]
def b_check_rules : SL := (.cons (.ife (.not (.val (.call 19 (.cons (.var 0) (.cons (.var 1) .nil)) []))) (.cons .never .nil) .nil) (.cons (.ife (.not (.val (.call 20 (.cons (.idx (.var 0) (.str "read")) (.cons (.var 2) .nil)) []))) (.cons .never .nil) .nil) (.cons (.ife (.not (.val (.call 21 (.cons (.var 3) .nil) []))) (.cons .never .nil) .nil) (.cons (.ife (.not (.val (.call 22 (.cons (.idx (.var 0) (.str "hand")) (.cons (.var 4) .nil)) []))) (.cons .never .nil) .nil) (.cons (.ife (.not (.val (.call 23 (.cons (.idx (.var 0) (.str "send")) (.cons (.var 5) .nil)) []))) (.cons .never .nil) .nil) .nil)))))
abbrev n_check_rules : List Str := ["limits", "rights", "lines", "costs", "plan", "outside"]
def b_is_flag : SL := (.cons (.ret (.isin (.var 0) .bool)) .nil)
abbrev n_is_flag : List Str := ["thing"]
def b_check_flags : SL := (.cons (.ife (.not (.val (.call 25 (.cons (.var 0) .nil) []))) (.cons .never .nil) .nil) (.cons (.ife (.not (.val (.call 25 (.cons (.var 1) .nil) []))) (.cons .never .nil) .nil) (.cons (.ife (.not (.val (.call 25 (.cons (.var 2) .nil) []))) (.cons .never .nil) .nil) (.cons (.ife (.not (.val (.call 25 (.cons (.var 3) .nil) []))) (.cons .never .nil) .nil) .nil))))
abbrev n_check_flags : List Str := ["wipe", "pad", "lend", "share"]
def b_frozen_plan : SL := (.cons (.ife (.cmp .eq (.idx (.var 0) (.int 0)) (.str "slots")) (.cons (.ret (.tup (.cons (.str "slots") (.cons (.bcall .tuple (.cons (.idx (.var 0) (.int 1)) .nil)) .nil)))) .nil) .nil) (.cons (.ret (.var 0)) .nil))
abbrev n_frozen_plan : List Str := ["plan"]
def b_period_of : SL := (.cons (.asg (.name 2) (.int 1)) (.cons (.ife (.cmp .eq (.idx (.var 0) (.int 0)) (.str "slots")) (.cons (.asg (.name 2) (.bcall .sum (.cons (.comp true [5] (.name 5) (.seq (.idx (.var 0) (.int 1))) .nil (.idx (.var 5) (.int 1))) .nil))) .nil) .nil) (.cons (.asg (.name 3) (.int 1)) (.cons (.ife (.cmp .isnot (.var 1) .non) (.cons (.asg (.name 3) (.idx (.var 1) (.int 1))) .nil) .nil) (.cons (.asg (.name 4) (.var 2)) (.cons (.while_ (.cmp .ne (.bin .mod (.var 4) (.var 3)) (.int 0)) (.cons (.asg (.name 4) (.bin .add (.var 4) (.var 2))) .nil)) (.cons (.ret (.var 4)) .nil)))))))
abbrev n_period_of : List Str := ["plan_row", "outside_row", "total", "every", "period", "row"]
def b_Build___init__ : SL := (.cons (.expr (.call 14 (.cons (.var 1) (.cons (.var 2) (.cons (.var 3) (.cons (.var 4) (.cons (.var 5) (.cons (.var 6) .nil)))))) [])) (.cons (.asg (.name 16) (.call 15 (.cons (.bcall .len (.cons (.var 1) .nil)) (.cons (.bcall .len (.cons (.var 2) .nil)) (.cons (.bcall .len (.cons (.var 3) .nil)) (.cons (.var 4) (.cons (.var 6) .nil))))) [])) (.cons (.expr (.call 24 (.cons (.var 16) (.cons (.var 7) (.cons (.var 8) (.cons (.var 9) (.cons (.var 10) (.cons (.var 11) .nil)))))) [])) (.cons (.expr (.call 26 (.cons (.var 12) (.cons (.var 13) (.cons (.var 14) (.cons (.var 15) .nil)))) [])) (.cons (.fld (.var 0) 0 0 (.var 16)) (.cons (.fld (.var 0) 0 1 (.bcall .tuple (.cons (.var 1) .nil))) (.cons (.fld (.var 0) 0 2 (.bcall .tuple (.cons (.var 2) .nil))) (.cons (.fld (.var 0) 0 3 (.bcall .tuple (.cons (.var 3) .nil))) (.cons (.fld (.var 0) 0 4 (.var 4)) (.cons (.fld (.var 0) 0 5 (.var 5)) (.cons (.fld (.var 0) 0 6 (.var 6)) (.cons (.fld (.var 0) 0 7 (.bcall .tuple (.cons (.comp true [19] (.name 19) (.seq (.var 7)) .nil (.bcall .tuple (.cons (.var 19) .nil))) .nil))) (.cons (.fld (.var 0) 0 8 (.bcall .tuple (.cons (.var 8) .nil))) (.cons (.fld (.var 0) 0 9 (.var 9)) (.cons (.fld (.var 0) 0 10 (.call 27 (.cons (.var 10) .nil) [])) (.cons (.fld (.var 0) 0 11 (.var 11)) (.cons (.fld (.var 0) 0 12 (.var 12)) (.cons (.fld (.var 0) 0 13 (.var 13)) (.cons (.fld (.var 0) 0 14 (.var 14)) (.cons (.fld (.var 0) 0 15 (.var 15)) (.cons (.fld (.var 0) 0 16 (.bcall .tuple (.cons (.sortedset (.comp true [19] (.name 19) (.seq (.var 1)) .nil (.idx (.var 19) (.int 0)))) .nil))) (.cons (.fld (.var 0) 0 17 (.call 28 (.cons (.attr (.var 0) 0 10) (.cons (.var 11) .nil)) [])) (.cons (.fld (.var 0) 0 18 (.bin .add (.idx (.var 9) (.int 0)) (.bcall .max2 (.cons (.idx (.var 9) (.int 1)) (.cons (.bin .sub (.var 6) (.int 1)) .nil))))) (.cons (.asg (.name 17) (.tup (.cons (.attr (.var 0) 0 1) (.cons (.attr (.var 0) 0 2) (.cons (.attr (.var 0) 0 3) (.cons (.var 4) (.cons (.var 5) (.cons (.var 6) .nil)))))))) (.cons (.asg (.name 18) (.tup (.cons (.attr (.var 0) 0 7) (.cons (.attr (.var 0) 0 8) (.cons (.var 9) (.cons (.attr (.var 0) 0 10) (.cons (.var 11) .nil))))))) (.cons (.fld (.var 0) 0 19 (.tup (.cons (.var 17) (.cons (.var 18) (.cons (.tup (.cons (.var 12) (.cons (.var 13) (.cons (.var 14) (.cons (.var 15) .nil))))) .nil))))) .nil))))))))))))))))))))))))))
abbrev n_Build___init__ : List Str := ["self", "tasks", "pages", "ports", "locks", "frames", "disk", "rights", "lines", "costs", "plan", "outside", "wipe", "pad", "lend", "share", "limits", "things", "rules", "row"]
def b_is_tuple_pad30 : SL := (.cons (.ret (.bool true (.cons (.isin (.var 0) .tuple) (.cons (.cmp .eq (.bcall .len (.cons (.var 0) .nil)) (.var 1)) .nil)))) .nil)
abbrev n_is_tuple_pad30 : List Str := ["thing", "many"]
def b__law_made : SL := (.cons (.ret (.frz (.make 0 29 0 20 [] (.cons (.idx (.var 0) (.int 0)) (.cons (.idx (.var 0) (.int 1)) (.cons (.idx (.var 0) (.int 2)) (.cons (.idx (.var 0) (.int 3)) (.cons (.idx (.var 0) (.int 4)) (.cons (.idx (.var 0) (.int 5)) (.cons (.idx (.var 0) (.int 6)) (.cons (.idx (.var 0) (.int 7)) (.cons (.idx (.var 0) (.int 8)) (.cons (.idx (.var 0) (.int 9)) (.cons (.idx (.var 0) (.int 10)) .nil))))))))))) (.cons (.idx (.var 0) (.int 11)) (.cons (.idx (.var 0) (.int 12)) (.cons (.idx (.var 0) (.int 13)) (.cons (.idx (.var 0) (.int 14)) .nil))))))) .nil)
abbrev n__law_made : List Str := ["_law_parts_here"]
def b__law_copy_0 : SL := (.cons (.ife (.val (.isin (.var 0) .list)) (.cons .never .nil) .nil) (.cons (.ife (.val (.isin (.var 0) .tuple)) (.cons .never .nil) .nil) (.cons (.ret (.var 0)) .nil)))
abbrev n__law_copy_0 : List Str := ["_law_thing", "_law_part"]
def b__law_copy_1 : SL := (.cons (.ife (.val (.isin (.var 0) .list)) (.cons (.ret (.comp true [1] (.name 1) (.seq (.var 0)) .nil (.call 32 (.cons (.var 1) .nil) []))) .nil) .nil) (.cons (.ife (.val (.isin (.var 0) .tuple)) (.cons (.ret (.bcall .tuple (.cons (.comp true [1] (.name 1) (.seq (.var 0)) .nil (.call 32 (.cons (.var 1) .nil) [])) .nil))) .nil) .nil) (.cons (.ret (.var 0)) .nil)))
abbrev n__law_copy_1 : List Str := ["_law_thing", "_law_part"]
def b__law_copy_2 : SL := (.cons (.ife (.val (.isin (.var 0) .list)) (.cons (.ret (.comp true [1] (.name 1) (.seq (.var 0)) .nil (.call 33 (.cons (.var 1) .nil) []))) .nil) .nil) (.cons (.ife (.val (.isin (.var 0) .tuple)) (.cons (.ret (.bcall .tuple (.cons (.comp true [1] (.name 1) (.seq (.var 0)) .nil (.call 33 (.cons (.var 1) .nil) [])) .nil))) .nil) .nil) (.cons (.ret (.var 0)) .nil)))
abbrev n__law_copy_2 : List Str := ["_law_thing", "_law_part"]
def b__law_copy_3 : SL := (.cons (.ife (.val (.isin (.var 0) .list)) (.cons (.ret (.comp true [1] (.name 1) (.seq (.var 0)) .nil (.call 34 (.cons (.var 1) .nil) []))) .nil) .nil) (.cons (.ife (.val (.isin (.var 0) .tuple)) (.cons (.ret (.bcall .tuple (.cons (.comp true [1] (.name 1) (.seq (.var 0)) .nil (.call 34 (.cons (.var 1) .nil) [])) .nil))) .nil) .nil) (.cons (.ret (.var 0)) .nil)))
abbrev n__law_copy_3 : List Str := ["_law_thing", "_law_part"]
def b__law_copy_4 : SL := (.cons (.ife (.val (.isin (.var 0) .list)) (.cons (.ret (.comp true [1] (.name 1) (.seq (.var 0)) .nil (.call 35 (.cons (.var 1) .nil) []))) .nil) .nil) (.cons (.ife (.val (.isin (.var 0) .tuple)) (.cons (.ret (.bcall .tuple (.cons (.comp true [1] (.name 1) (.seq (.var 0)) .nil (.call 35 (.cons (.var 1) .nil) [])) .nil))) .nil) .nil) (.cons (.ret (.var 0)) .nil)))
abbrev n__law_copy_4 : List Str := ["_law_thing", "_law_part"]
def b_page_text : SL := (.cons (.ife (.cmp .is_ (.var 1) .non) (.cons (.ret (.bin .add (.str "page ") (.bcall .str (.cons (.var 0) .nil)))) .nil) .nil) (.cons (.ret (.bin .add (.bin .add (.bin .add (.str "page ") (.bcall .str (.cons (.var 0) .nil))) (.str " line ")) (.bcall .str (.cons (.var 1) .nil)))) .nil))
abbrev n_page_text : List Str := ["worth", "line"]
def b_plan_texts : SL := (.cons (.ife (.cmp .eq (.idx (.var 0) (.int 0)) (.str "levels")) (.cons (.ret (.lst true (.cons (.bin .add (.str "levels ") (.bcall .str (.cons (.idx (.var 0) (.int 1)) .nil))) .nil))) .nil) .nil) (.cons (.ret (.frz (.cat (.lst true (.cons (.str "slots") .nil)) (.comp true [1, 2] (.tup (.cons (.name 1) (.cons (.name 2) .nil))) (.seq (.idx (.var 0) (.int 1))) .nil (.fstr (.lit "  " (.val (.var 1) (.lit " " (.val (.var 2) .nil))))))))) .nil))
abbrev n_plan_texts : List Str := ["plan_row", "task", "ticks"]
def b_flag_texts : SL := (.cons (.asg (.name 1) (.tup (.cons (.tup (.cons (.str "wipe") (.cons (.attr (.var 0) 0 12) .nil))) (.cons (.tup (.cons (.str "pad") (.cons (.attr (.var 0) 0 13) .nil))) (.cons (.tup (.cons (.str "lend") (.cons (.attr (.var 0) 0 14) .nil))) (.cons (.tup (.cons (.str "share") (.cons (.attr (.var 0) 0 15) .nil))) .nil)))))) (.cons (.ret (.comp true [2, 3] (.tup (.cons (.name 2) (.cons (.name 3) .nil))) (.seq (.var 1)) (.cons (.val (.var 3)) .nil) (.var 2))) .nil))
abbrev n_flag_texts : List Str := ["build", "flags", "word", "flag"]
def b_right_words : SL := (.cons (.ret (.bin .add (.bin .add (.idx (.var 0) (.int 0)) (.str " ")) (.bcall .str (.cons (.idx (.var 0) (.int 1)) .nil)))) .nil)
abbrev n_right_words : List Str := ["right"]
def b_build_text : SL := (.cons (.setc 1 false [10, 11] (.tup (.cons (.name 10) (.cons (.name 11) .nil))) (.seq (.attr (.var 0) 0 1)) .nil (.fstr (.lit "task " (.val (.var 10) (.lit " " (.val (.var 11) .nil)))))) (.cons (.for_ (.name 2) (.range1 (.bcall .len (.cons (.attr (.var 0) 0 2) .nil))) (.cons (.expr (.bmeth .append (.var 1) (.cons (.call 37 (.cons (.idx (.attr (.var 0) 0 2) (.var 2)) (.cons (.idx (.attr (.var 0) 0 8) (.var 2)) .nil)) []) .nil))) .nil)) (.cons (.augvar 1 .add (.comp true [7] (.name 7) (.seq (.attr (.var 0) 0 3)) .nil (.bin .add (.str "port ") (.bcall .str (.cons (.var 7) .nil))))) (.cons (.expr (.bmeth .append (.var 1) (.cons (.bin .add (.str "locks ") (.bcall .str (.cons (.attr (.var 0) 0 4) .nil))) .nil))) (.cons (.expr (.bmeth .append (.var 1) (.cons (.bin .add (.str "frames ") (.bcall .str (.cons (.attr (.var 0) 0 5) .nil))) .nil))) (.cons (.expr (.bmeth .append (.var 1) (.cons (.bin .add (.str "disk ") (.bcall .str (.cons (.attr (.var 0) 0 6) .nil))) .nil))) (.cons (.asg (.tup (.cons (.name 4) (.cons (.name 5) (.cons (.name 6) .nil)))) (.attr (.var 0) 0 9)) (.cons (.expr (.bmeth .append (.var 1) (.cons (.fstr (.lit "costs " (.val (.var 4) (.lit " " (.val (.var 5) (.lit " " (.val (.var 6) .nil))))))) .nil))) (.cons (.augvar 1 .add (.call 38 (.cons (.attr (.var 0) 0 10) .nil) [])) (.cons (.ife (.cmp .isnot (.attr (.var 0) 0 11) .non) (.cons (.asg (.tup (.cons (.name 8) (.cons (.name 9) .nil))) (.attr (.var 0) 0 11)) (.cons (.expr (.bmeth .append (.var 1) (.cons (.fstr (.lit "outside " (.val (.var 8) (.lit " " (.val (.var 9) .nil))))) .nil))) .nil)) .nil) (.cons (.augvar 1 .add (.call 39 (.cons (.var 0) .nil) [])) (.cons (.for_ (.name 3) (.range1 (.bcall .len (.cons (.attr (.var 0) 0 7) .nil))) (.cons (.augvar 1 .add (.comp true [12] (.name 12) (.seq (.idx (.attr (.var 0) 0 7) (.var 3))) .nil (.fstr (.lit "right " (.val (.var 3) (.lit " " (.val (.call 40 (.cons (.var 12) .nil) []) .nil))))))) .nil)) (.frz 1 (.cons (.ret (.join (.str "\n") (.var 1))) .nil))))))))))))))
abbrev n_build_text : List Str := ["build", "rows", "at", "task", "plain", "miss", "switch", "size", "port", "every", "side", "level", "right"]
def b__law_same_0 : SL := (.cons (.ife (.bool false (.cons (.val (.isin (.var 0) .bool)) (.cons (.val (.isin (.var 1) .bool)) .nil))) (.cons (.ret (.bool true (.cons (.isin (.var 0) .bool) (.cons (.isin (.var 1) .bool) (.cons (.cmp .eq (.var 0) (.var 1)) .nil))))) .nil) .nil) (.cons (.ife (.cmp .is_ (.var 1) .non) (.cons (.ret (.cmp .is_ (.var 0) .non)) .nil) .nil) (.cons (.ife (.val (.isin (.var 1) .int)) (.cons (.ret (.bool true (.cons (.isin (.var 0) .int) (.cons (.cmp .eq (.var 0) (.var 1)) .nil)))) .nil) .nil) (.cons (.ife (.val (.isin (.var 1) .str)) (.cons (.ret (.bool true (.cons (.isin (.var 0) .str) (.cons (.cmp .eq (.var 0) (.var 1)) .nil)))) .nil) .nil) (.cons (.ife (.bool true (.cons (.val (.isin (.var 1) .list)) (.cons (.not (.val (.isin (.var 0) .list))) .nil))) (.cons (.ret (.bl false)) .nil) .nil) (.cons (.ife (.bool true (.cons (.val (.isin (.var 1) .tuple)) (.cons (.not (.val (.isin (.var 0) .tuple))) .nil))) (.cons (.ret (.bl false)) .nil) .nil) (.cons (.ife (.cmp .ne (.bcall .len (.cons (.var 0) .nil)) (.bcall .len (.cons (.var 1) .nil))) (.cons (.ret (.bl false)) .nil) .nil) (.cons (.for_ (.name 2) (.range1 (.bcall .len (.cons (.var 1) .nil))) (.cons .never .nil)) (.cons (.ret (.bl true)) .nil)))))))))
abbrev n__law_same_0 : List Str := ["_law_one", "_law_two", "_law_k"]
def b__law_same_1 : SL := (.cons (.ife (.bool false (.cons (.val (.isin (.var 0) .bool)) (.cons (.val (.isin (.var 1) .bool)) .nil))) (.cons (.ret (.bool true (.cons (.isin (.var 0) .bool) (.cons (.isin (.var 1) .bool) (.cons (.cmp .eq (.var 0) (.var 1)) .nil))))) .nil) .nil) (.cons (.ife (.cmp .is_ (.var 1) .non) (.cons (.ret (.cmp .is_ (.var 0) .non)) .nil) .nil) (.cons (.ife (.val (.isin (.var 1) .int)) (.cons (.ret (.bool true (.cons (.isin (.var 0) .int) (.cons (.cmp .eq (.var 0) (.var 1)) .nil)))) .nil) .nil) (.cons (.ife (.val (.isin (.var 1) .str)) (.cons (.ret (.bool true (.cons (.isin (.var 0) .str) (.cons (.cmp .eq (.var 0) (.var 1)) .nil)))) .nil) .nil) (.cons (.ife (.bool true (.cons (.val (.isin (.var 1) .list)) (.cons (.not (.val (.isin (.var 0) .list))) .nil))) (.cons (.ret (.bl false)) .nil) .nil) (.cons (.ife (.bool true (.cons (.val (.isin (.var 1) .tuple)) (.cons (.not (.val (.isin (.var 0) .tuple))) .nil))) (.cons (.ret (.bl false)) .nil) .nil) (.cons (.ife (.cmp .ne (.bcall .len (.cons (.var 0) .nil)) (.bcall .len (.cons (.var 1) .nil))) (.cons (.ret (.bl false)) .nil) .nil) (.cons (.for_ (.name 2) (.range1 (.bcall .len (.cons (.var 1) .nil))) (.cons (.ife (.not (.val (.call 42 (.cons (.idx (.var 0) (.var 2)) (.cons (.idx (.var 1) (.var 2)) .nil)) []))) (.cons (.ret (.bl false)) .nil) .nil) .nil)) (.cons (.ret (.bl true)) .nil)))))))))
abbrev n__law_same_1 : List Str := ["_law_one", "_law_two", "_law_k"]
def b__law_same_2 : SL := (.cons (.ife (.bool false (.cons (.val (.isin (.var 0) .bool)) (.cons (.val (.isin (.var 1) .bool)) .nil))) (.cons (.ret (.bool true (.cons (.isin (.var 0) .bool) (.cons (.isin (.var 1) .bool) (.cons (.cmp .eq (.var 0) (.var 1)) .nil))))) .nil) .nil) (.cons (.ife (.cmp .is_ (.var 1) .non) (.cons (.ret (.cmp .is_ (.var 0) .non)) .nil) .nil) (.cons (.ife (.val (.isin (.var 1) .int)) (.cons (.ret (.bool true (.cons (.isin (.var 0) .int) (.cons (.cmp .eq (.var 0) (.var 1)) .nil)))) .nil) .nil) (.cons (.ife (.val (.isin (.var 1) .str)) (.cons (.ret (.bool true (.cons (.isin (.var 0) .str) (.cons (.cmp .eq (.var 0) (.var 1)) .nil)))) .nil) .nil) (.cons (.ife (.bool true (.cons (.val (.isin (.var 1) .list)) (.cons (.not (.val (.isin (.var 0) .list))) .nil))) (.cons (.ret (.bl false)) .nil) .nil) (.cons (.ife (.bool true (.cons (.val (.isin (.var 1) .tuple)) (.cons (.not (.val (.isin (.var 0) .tuple))) .nil))) (.cons (.ret (.bl false)) .nil) .nil) (.cons (.ife (.cmp .ne (.bcall .len (.cons (.var 0) .nil)) (.bcall .len (.cons (.var 1) .nil))) (.cons (.ret (.bl false)) .nil) .nil) (.cons (.for_ (.name 2) (.range1 (.bcall .len (.cons (.var 1) .nil))) (.cons (.ife (.not (.val (.call 43 (.cons (.idx (.var 0) (.var 2)) (.cons (.idx (.var 1) (.var 2)) .nil)) []))) (.cons (.ret (.bl false)) .nil) .nil) .nil)) (.cons (.ret (.bl true)) .nil)))))))))
abbrev n__law_same_2 : List Str := ["_law_one", "_law_two", "_law_k"]
def b__law_same_3 : SL := (.cons (.ife (.bool false (.cons (.val (.isin (.var 0) .bool)) (.cons (.val (.isin (.var 1) .bool)) .nil))) (.cons (.ret (.bool true (.cons (.isin (.var 0) .bool) (.cons (.isin (.var 1) .bool) (.cons (.cmp .eq (.var 0) (.var 1)) .nil))))) .nil) .nil) (.cons (.ife (.cmp .is_ (.var 1) .non) (.cons (.ret (.cmp .is_ (.var 0) .non)) .nil) .nil) (.cons (.ife (.val (.isin (.var 1) .int)) (.cons (.ret (.bool true (.cons (.isin (.var 0) .int) (.cons (.cmp .eq (.var 0) (.var 1)) .nil)))) .nil) .nil) (.cons (.ife (.val (.isin (.var 1) .str)) (.cons (.ret (.bool true (.cons (.isin (.var 0) .str) (.cons (.cmp .eq (.var 0) (.var 1)) .nil)))) .nil) .nil) (.cons (.ife (.bool true (.cons (.val (.isin (.var 1) .list)) (.cons (.not (.val (.isin (.var 0) .list))) .nil))) (.cons (.ret (.bl false)) .nil) .nil) (.cons (.ife (.bool true (.cons (.val (.isin (.var 1) .tuple)) (.cons (.not (.val (.isin (.var 0) .tuple))) .nil))) (.cons (.ret (.bl false)) .nil) .nil) (.cons (.ife (.cmp .ne (.bcall .len (.cons (.var 0) .nil)) (.bcall .len (.cons (.var 1) .nil))) (.cons (.ret (.bl false)) .nil) .nil) (.cons (.for_ (.name 2) (.range1 (.bcall .len (.cons (.var 1) .nil))) (.cons (.ife (.not (.val (.call 44 (.cons (.idx (.var 0) (.var 2)) (.cons (.idx (.var 1) (.var 2)) .nil)) []))) (.cons (.ret (.bl false)) .nil) .nil) .nil)) (.cons (.ret (.bl true)) .nil)))))))))
abbrev n__law_same_3 : List Str := ["_law_one", "_law_two", "_law_k"]
def b__law_same_4 : SL := (.cons (.ife (.bool false (.cons (.val (.isin (.var 0) .bool)) (.cons (.val (.isin (.var 1) .bool)) .nil))) (.cons (.ret (.bool true (.cons (.isin (.var 0) .bool) (.cons (.isin (.var 1) .bool) (.cons (.cmp .eq (.var 0) (.var 1)) .nil))))) .nil) .nil) (.cons (.ife (.cmp .is_ (.var 1) .non) (.cons (.ret (.cmp .is_ (.var 0) .non)) .nil) .nil) (.cons (.ife (.val (.isin (.var 1) .int)) (.cons (.ret (.bool true (.cons (.isin (.var 0) .int) (.cons (.cmp .eq (.var 0) (.var 1)) .nil)))) .nil) .nil) (.cons (.ife (.val (.isin (.var 1) .str)) (.cons (.ret (.bool true (.cons (.isin (.var 0) .str) (.cons (.cmp .eq (.var 0) (.var 1)) .nil)))) .nil) .nil) (.cons (.ife (.bool true (.cons (.val (.isin (.var 1) .list)) (.cons (.not (.val (.isin (.var 0) .list))) .nil))) (.cons (.ret (.bl false)) .nil) .nil) (.cons (.ife (.bool true (.cons (.val (.isin (.var 1) .tuple)) (.cons (.not (.val (.isin (.var 0) .tuple))) .nil))) (.cons (.ret (.bl false)) .nil) .nil) (.cons (.ife (.cmp .ne (.bcall .len (.cons (.var 0) .nil)) (.bcall .len (.cons (.var 1) .nil))) (.cons (.ret (.bl false)) .nil) .nil) (.cons (.for_ (.name 2) (.range1 (.bcall .len (.cons (.var 1) .nil))) (.cons (.ife (.not (.val (.call 45 (.cons (.idx (.var 0) (.var 2)) (.cons (.idx (.var 1) (.var 2)) .nil)) []))) (.cons (.ret (.bl false)) .nil) .nil) .nil)) (.cons (.ret (.bl true)) .nil)))))))))
abbrev n__law_same_4 : List Str := ["_law_one", "_law_two", "_law_k"]
def b__law_rows : SL := (.cons (.setc 1 false [5] (.name 5) (.seq (.idx (.var 0) (.int 0))) .nil (.bin .add (.bin .add (.bin .add (.str "task ") (.bcall .str (.cons (.idx (.var 5) (.int 0)) .nil))) (.str " ")) (.bcall .str (.cons (.idx (.var 5) (.int 1)) .nil)))) (.cons (.for_ (.name 2) (.range1 (.bcall .len (.cons (.idx (.var 0) (.int 1)) .nil))) (.cons (.asg (.name 5) (.bin .add (.str "page ") (.bcall .str (.cons (.idx (.idx (.var 0) (.int 1)) (.var 2)) .nil)))) (.cons (.ife (.cmp .isnot (.idx (.idx (.var 0) (.int 7)) (.var 2)) .non) (.cons (.asg (.name 5) (.bin .add (.bin .add (.var 5) (.str " line ")) (.bcall .str (.cons (.idx (.idx (.var 0) (.int 7)) (.var 2)) .nil)))) .nil) .nil) (.cons (.expr (.bmeth .append (.var 1) (.cons (.var 5) .nil))) .nil)))) (.cons (.for_ (.name 3) (.seq (.idx (.var 0) (.int 2))) (.cons (.expr (.bmeth .append (.var 1) (.cons (.bin .add (.str "port ") (.bcall .str (.cons (.var 3) .nil))) .nil))) .nil)) (.cons (.expr (.bmeth .append (.var 1) (.cons (.bin .add (.str "locks ") (.bcall .str (.cons (.idx (.var 0) (.int 3)) .nil))) .nil))) (.cons (.expr (.bmeth .append (.var 1) (.cons (.bin .add (.str "frames ") (.bcall .str (.cons (.idx (.var 0) (.int 4)) .nil))) .nil))) (.cons (.expr (.bmeth .append (.var 1) (.cons (.bin .add (.str "disk ") (.bcall .str (.cons (.idx (.var 0) (.int 5)) .nil))) .nil))) (.cons (.expr (.bmeth .append (.var 1) (.cons (.join (.str " ") (.frz (.cat (.lst true (.cons (.str "costs") .nil)) (.comp true [7] (.name 7) (.seq (.idx (.var 0) (.int 8))) .nil (.bcall .str (.cons (.var 7) .nil)))))) .nil))) (.cons (.ife (.cmp .eq (.idx (.idx (.var 0) (.int 9)) (.int 0)) (.str "levels")) (.cons (.expr (.bmeth .append (.var 1) (.cons (.bin .add (.str "levels ") (.bcall .str (.cons (.idx (.idx (.var 0) (.int 9)) (.int 1)) .nil))) .nil))) .nil) (.cons (.expr (.bmeth .append (.var 1) (.cons (.str "slots") .nil))) (.cons (.for_ (.name 5) (.seq (.idx (.idx (.var 0) (.int 9)) (.int 1))) (.cons (.expr (.bmeth .append (.var 1) (.cons (.bin .add (.bin .add (.bin .add (.str "  ") (.bcall .str (.cons (.idx (.var 5) (.int 0)) .nil))) (.str " ")) (.bcall .str (.cons (.idx (.var 5) (.int 1)) .nil))) .nil))) .nil)) .nil))) (.cons (.ife (.cmp .isnot (.idx (.var 0) (.int 10)) .non) (.cons (.expr (.bmeth .append (.var 1) (.cons (.bin .add (.bin .add (.bin .add (.str "outside ") (.bcall .str (.cons (.idx (.idx (.var 0) (.int 10)) (.int 0)) .nil))) (.str " ")) (.bcall .str (.cons (.idx (.idx (.var 0) (.int 10)) (.int 1)) .nil))) .nil))) .nil) .nil) (.cons (.for_ (.name 2) (.range1 (.int 4)) (.cons (.ife (.val (.idx (.var 0) (.bin .add (.int 11) (.var 2)))) (.cons (.expr (.bmeth .append (.var 1) (.cons (.idx (.lst true (.cons (.str "wipe") (.cons (.str "pad") (.cons (.str "lend") (.cons (.str "share") .nil))))) (.var 2)) .nil))) .nil) .nil) .nil)) (.cons (.for_ (.name 4) (.range1 (.bcall .len (.cons (.idx (.var 0) (.int 6)) .nil))) (.cons (.for_ (.name 6) (.seq (.idx (.idx (.var 0) (.int 6)) (.var 4))) (.cons (.expr (.bmeth .append (.var 1) (.cons (.bin .add (.bin .add (.bin .add (.bin .add (.bin .add (.str "right ") (.bcall .str (.cons (.var 4) .nil))) (.str " ")) (.idx (.var 6) (.int 0))) (.str " ")) (.bcall .str (.cons (.idx (.var 6) (.int 1)) .nil))) .nil))) .nil)) .nil)) (.cons (.ret (.frz (.var 1))) .nil))))))))))))
abbrev n__law_rows : List Str := ["_law_parts_here", "_law_rows_here", "_law_k", "_law_size", "_law_task", "_law_row", "_law_right", "_law_ticks"]
def b_Build_tasks : SL := (.cons (.ret (.bcall (.list true) (.cons (.attr (.var 0) 0 1) .nil))) .nil)
abbrev n_Build_tasks : List Str := ["self"]
def b_Build_pages : SL := (.cons (.ret (.bcall (.list true) (.cons (.attr (.var 0) 0 2) .nil))) .nil)
abbrev n_Build_pages : List Str := ["self"]
def b_Build_ports : SL := (.cons (.ret (.bcall (.list true) (.cons (.attr (.var 0) 0 3) .nil))) .nil)
abbrev n_Build_ports : List Str := ["self"]
def b_Build_locks : SL := (.cons (.ret (.attr (.var 0) 0 4)) .nil)
abbrev n_Build_locks : List Str := ["self"]
def b_Build_frames : SL := (.cons (.ret (.attr (.var 0) 0 5)) .nil)
abbrev n_Build_frames : List Str := ["self"]
def b_Build_disk : SL := (.cons (.ret (.attr (.var 0) 0 6)) .nil)
abbrev n_Build_disk : List Str := ["self"]
def b_Build_rights : SL := (.cons (.ret (.comp true [1] (.name 1) (.seq (.attr (.var 0) 0 7)) .nil (.bcall (.list true) (.cons (.var 1) .nil)))) .nil)
abbrev n_Build_rights : List Str := ["self", "row"]
def b_Build_lines : SL := (.cons (.ret (.bcall (.list true) (.cons (.attr (.var 0) 0 8) .nil))) .nil)
abbrev n_Build_lines : List Str := ["self"]
def b_Build_costs : SL := (.cons (.ret (.attr (.var 0) 0 9)) .nil)
abbrev n_Build_costs : List Str := ["self"]
def b_Build_plan : SL := (.cons (.ife (.cmp .eq (.idx (.attr (.var 0) 0 10) (.int 0)) (.str "slots")) (.cons (.ret (.tup (.cons (.str "slots") (.cons (.bcall (.list true) (.cons (.idx (.attr (.var 0) 0 10) (.int 1)) .nil)) .nil)))) .nil) .nil) (.cons (.ret (.attr (.var 0) 0 10)) .nil))
abbrev n_Build_plan : List Str := ["self"]
def b_Build_outside : SL := (.cons (.ret (.attr (.var 0) 0 11)) .nil)
abbrev n_Build_outside : List Str := ["self"]
def b_Build_wipe : SL := (.cons (.ret (.attr (.var 0) 0 12)) .nil)
abbrev n_Build_wipe : List Str := ["self"]
def b_Build_pad : SL := (.cons (.ret (.attr (.var 0) 0 13)) .nil)
abbrev n_Build_pad : List Str := ["self"]
def b_Build_lend : SL := (.cons (.ret (.attr (.var 0) 0 14)) .nil)
abbrev n_Build_lend : List Str := ["self"]
def b_Build_share : SL := (.cons (.ret (.attr (.var 0) 0 15)) .nil)
abbrev n_Build_share : List Str := ["self"]
def b__law_told : SL := (.cons (.asg (.name 1) (.lst true (.cons (.meth 48 0 (.var 0) .nil []) (.cons (.meth 49 0 (.var 0) .nil []) (.cons (.meth 50 0 (.var 0) .nil []) (.cons (.meth 51 0 (.var 0) .nil []) (.cons (.meth 52 0 (.var 0) .nil []) (.cons (.meth 53 0 (.var 0) .nil []) .nil)))))))) (.cons (.asg (.name 1) (.frz (.cat (.var 1) (.lst true (.cons (.meth 54 0 (.var 0) .nil []) (.cons (.meth 55 0 (.var 0) .nil []) (.cons (.meth 56 0 (.var 0) .nil []) (.cons (.meth 57 0 (.var 0) .nil []) (.cons (.meth 58 0 (.var 0) .nil []) .nil))))))))) (.cons (.ret (.frz (.cat (.var 1) (.lst true (.cons (.meth 59 0 (.var 0) .nil []) (.cons (.meth 60 0 (.var 0) .nil []) (.cons (.meth 61 0 (.var 0) .nil []) (.cons (.meth 62 0 (.var 0) .nil []) .nil)))))))) .nil)))
abbrev n__law_told : List Str := ["_law_build", "_law_told_here"]
def b_law : SL := (.cons (.asg (.name 1) (.call 0 (.cons (.var 0) .nil) [])) (.cons (.asg (.name 2) (.lst true (.cons (.call 5 (.cons (.var 1) .nil) []) (.cons (.call 5 (.cons (.var 1) .nil) []) .nil)))) (.cons (.setc 3 true [6] (.name 6) (.seq (.var 2)) .nil (.call 31 (.cons (.call 36 (.cons (.var 6) .nil) []) .nil) [])) (.cons (.for_ (.name 4) (.seq (.lst true (.cons (.int 0) (.cons (.int 1) (.cons (.int 0) .nil))))) (.cons (.asg (.name 5) (.call 41 (.cons (.idx (.var 3) (.var 4)) .nil) [])) (.cons (.ife (.not (.val (.call 46 (.cons (.var 5) (.cons (.join (.str "\n") (.call 47 (.cons (.idx (.var 2) (.var 4)) .nil) [])) .nil)) []))) (.cons (.ret (.bl false)) .nil) .nil) (.cons (.ife (.not (.val (.call 46 (.cons (.call 63 (.cons (.idx (.var 3) (.var 4)) .nil) []) (.cons (.idx (.var 2) (.var 4)) .nil)) []))) (.cons (.ret (.bl false)) .nil) .nil) .nil)))) (.cons (.ret (.bl true)) .nil)))))
abbrev n_law : List Str := ["_law_script", "_law_source_here", "_law_dues", "_law_builds", "_law_k", "_law_text", "_law_due"]
theorem hb : headB G B fa = true := by decide +kernel
theorem s__law_source : FnScope n__law_source ["_law_script"] d__law_source.scope := ⟨rfl, rfl, rfl, by decide +kernel, rfl, by decide +kernel, by decide +kernel⟩
theorem c__law_source : ∀ F0, chkSs (G.at F0) B ⟨n__law_source, d__law_source.scope, none, 0⟩ b__law_source d__law_source.body = true := fun F0 => by kernel_rfl
theorem s__law_draw : FnScope n__law_draw ["_law_source_here", "_law_many"] d__law_draw.scope := ⟨rfl, rfl, rfl, by decide +kernel, rfl, by decide +kernel, by decide +kernel⟩
theorem c__law_draw : ∀ F0, chkSs (G.at F0) B ⟨n__law_draw, d__law_draw.scope, none, 1⟩ b__law_draw d__law_draw.body = true := fun F0 => by kernel_rfl
theorem s__law_pool : FnScope n__law_pool ["_law_parts_here"] d__law_pool.scope := ⟨rfl, rfl, rfl, by decide +kernel, rfl, by decide +kernel, by decide +kernel⟩
theorem c__law_pool : ∀ F0, chkSs (G.at F0) B ⟨n__law_pool, d__law_pool.scope, none, 2⟩ b__law_pool d__law_pool.body = true := fun F0 => by kernel_rfl
theorem s__law_rights : FnScope n__law_rights ["_law_source_here", "_law_pool_here"] d__law_rights.scope := ⟨rfl, rfl, rfl, by decide +kernel, rfl, by decide +kernel, by decide +kernel⟩
theorem c__law_rights : ∀ F0, chkSs (G.at F0) B ⟨n__law_rights, d__law_rights.scope, none, 3⟩ b__law_rights d__law_rights.body = true := fun F0 => by kernel_rfl
theorem s__law_plan : FnScope n__law_plan ["_law_source_here", "_law_many"] d__law_plan.scope := ⟨rfl, rfl, rfl, by decide +kernel, rfl, by decide +kernel, by decide +kernel⟩
theorem c__law_plan : ∀ F0, chkSs (G.at F0) B ⟨n__law_plan, d__law_plan.scope, none, 4⟩ b__law_plan d__law_plan.body = true := fun F0 => by kernel_rfl
theorem s__law_parts : FnScope n__law_parts ["_law_source_here"] d__law_parts.scope := ⟨rfl, rfl, rfl, by decide +kernel, rfl, by decide +kernel, by decide +kernel⟩
theorem c__law_parts : ∀ F0, chkSs (G.at F0) B ⟨n__law_parts, d__law_parts.scope, none, 5⟩ b__law_parts d__law_parts.body = true := fun F0 => by kernel_rfl
theorem s_is_tuple : FnScope n_is_tuple ["thing", "many"] d_is_tuple.scope := ⟨rfl, rfl, rfl, by decide +kernel, rfl, by decide +kernel, by decide +kernel⟩
theorem c_is_tuple : ∀ F0, chkSs (G.at F0) B ⟨n_is_tuple, d_is_tuple.scope, none, 6⟩ b_is_tuple d_is_tuple.body = true := fun F0 => by kernel_rfl
theorem s_is_integer : FnScope n_is_integer ["thing"] d_is_integer.scope := ⟨rfl, rfl, rfl, by decide +kernel, rfl, by decide +kernel, by decide +kernel⟩
theorem c_is_integer : ∀ F0, chkSs (G.at F0) B ⟨n_is_integer, d_is_integer.scope, none, 7⟩ b_is_integer d_is_integer.body = true := fun F0 => by kernel_rfl
theorem s_in_range : FnScope n_in_range ["thing", "low", "high"] d_in_range.scope := ⟨rfl, rfl, rfl, by decide +kernel, rfl, by decide +kernel, by decide +kernel⟩
theorem c_in_range : ∀ F0, chkSs (G.at F0) B ⟨n_in_range, d_in_range.scope, none, 8⟩ b_in_range d_in_range.body = true := fun F0 => by kernel_rfl
theorem s_good_tasks : FnScope n_good_tasks ["tasks"] d_good_tasks.scope := ⟨rfl, rfl, rfl, by decide +kernel, rfl, by decide +kernel, by decide +kernel⟩
theorem c_good_tasks : ∀ F0, chkSs (G.at F0) B ⟨n_good_tasks, d_good_tasks.scope, none, 9⟩ b_good_tasks d_good_tasks.body = true := fun F0 => by kernel_rfl
theorem s_is_value : FnScope n_is_value ["thing"] d_is_value.scope := ⟨rfl, rfl, rfl, by decide +kernel, rfl, by decide +kernel, by decide +kernel⟩
theorem c_is_value : ∀ F0, chkSs (G.at F0) B ⟨n_is_value, d_is_value.scope, none, 10⟩ b_is_value d_is_value.body = true := fun F0 => by kernel_rfl
theorem s_good_pages : FnScope n_good_pages ["pages"] d_good_pages.scope := ⟨rfl, rfl, rfl, by decide +kernel, rfl, by decide +kernel, by decide +kernel⟩
theorem c_good_pages : ∀ F0, chkSs (G.at F0) B ⟨n_good_pages, d_good_pages.scope, none, 11⟩ b_good_pages d_good_pages.body = true := fun F0 => by kernel_rfl
theorem s_good_ports : FnScope n_good_ports ["ports"] d_good_ports.scope := ⟨rfl, rfl, rfl, by decide +kernel, rfl, by decide +kernel, by decide +kernel⟩
theorem c_good_ports : ∀ F0, chkSs (G.at F0) B ⟨n_good_ports, d_good_ports.scope, none, 12⟩ b_good_ports d_good_ports.body = true := fun F0 => by kernel_rfl
theorem s_good_disk : FnScope n_good_disk ["disk"] d_good_disk.scope := ⟨rfl, rfl, rfl, by decide +kernel, rfl, by decide +kernel, by decide +kernel⟩
theorem c_good_disk : ∀ F0, chkSs (G.at F0) B ⟨n_good_disk, d_good_disk.scope, none, 13⟩ b_good_disk d_good_disk.body = true := fun F0 => by kernel_rfl
theorem s_check_things : FnScope n_check_things ["tasks", "pages", "ports", "locks", "frames", "disk"] d_check_things.scope := ⟨rfl, rfl, rfl, by decide +kernel, rfl, by decide +kernel, by decide +kernel⟩
theorem c_check_things : ∀ F0, chkSs (G.at F0) B ⟨n_check_things, d_check_things.scope, none, 14⟩ b_check_things d_check_things.body = true := fun F0 => by kernel_rfl
theorem s_limits_of : FnScope n_limits_of ["task_many", "page_many", "port_many", "lock_many", "disk"] d_limits_of.scope := ⟨rfl, rfl, rfl, by decide +kernel, rfl, by decide +kernel, by decide +kernel⟩
theorem c_limits_of : ∀ F0, chkSs (G.at F0) B ⟨n_limits_of, d_limits_of.scope, none, 15⟩ b_limits_of d_limits_of.body = true := fun F0 => by kernel_rfl
theorem s_is_index : FnScope n_is_index ["thing", "many"] d_is_index.scope := ⟨rfl, rfl, rfl, by decide +kernel, rfl, by decide +kernel, by decide +kernel⟩
theorem c_is_index : ∀ F0, chkSs (G.at F0) B ⟨n_is_index, d_is_index.scope, none, 16⟩ b_is_index d_is_index.body = true := fun F0 => by kernel_rfl
theorem s_fits_right : FnScope n_fits_right ["limits", "thing"] d_fits_right.scope := ⟨rfl, rfl, rfl, by decide +kernel, rfl, by decide +kernel, by decide +kernel⟩
theorem c_fits_right : ∀ F0, chkSs (G.at F0) B ⟨n_fits_right, d_fits_right.scope, none, 17⟩ b_fits_right d_fits_right.body = true := fun F0 => by kernel_rfl
theorem s_climbs : FnScope n_climbs ["items"] d_climbs.scope := ⟨rfl, rfl, rfl, by decide +kernel, rfl, by decide +kernel, by decide +kernel⟩
theorem c_climbs : ∀ F0, chkSs (G.at F0) B ⟨n_climbs, d_climbs.scope, none, 18⟩ b_climbs d_climbs.body = true := fun F0 => by kernel_rfl
theorem s_good_rights : FnScope n_good_rights ["limits", "rights"] d_good_rights.scope := ⟨rfl, rfl, rfl, by decide +kernel, rfl, by decide +kernel, by decide +kernel⟩
theorem c_good_rights : ∀ F0, chkSs (G.at F0) B ⟨n_good_rights, d_good_rights.scope, none, 19⟩ b_good_rights d_good_rights.body = true := fun F0 => by kernel_rfl
theorem s_good_lines : FnScope n_good_lines ["page_many", "lines"] d_good_lines.scope := ⟨rfl, rfl, rfl, by decide +kernel, rfl, by decide +kernel, by decide +kernel⟩
theorem c_good_lines : ∀ F0, chkSs (G.at F0) B ⟨n_good_lines, d_good_lines.scope, none, 20⟩ b_good_lines d_good_lines.body = true := fun F0 => by kernel_rfl
theorem s_good_costs : FnScope n_good_costs ["costs"] d_good_costs.scope := ⟨rfl, rfl, rfl, by decide +kernel, rfl, by decide +kernel, by decide +kernel⟩
theorem c_good_costs : ∀ F0, chkSs (G.at F0) B ⟨n_good_costs, d_good_costs.scope, none, 21⟩ b_good_costs d_good_costs.body = true := fun F0 => by kernel_rfl
theorem s_good_plan : FnScope n_good_plan ["task_many", "plan"] d_good_plan.scope := ⟨rfl, rfl, rfl, by decide +kernel, rfl, by decide +kernel, by decide +kernel⟩
theorem c_good_plan : ∀ F0, chkSs (G.at F0) B ⟨n_good_plan, d_good_plan.scope, none, 22⟩ b_good_plan d_good_plan.body = true := fun F0 => by kernel_rfl
theorem s_good_outside : FnScope n_good_outside ["port_many", "outside"] d_good_outside.scope := ⟨rfl, rfl, rfl, by decide +kernel, rfl, by decide +kernel, by decide +kernel⟩
theorem c_good_outside : ∀ F0, chkSs (G.at F0) B ⟨n_good_outside, d_good_outside.scope, none, 23⟩ b_good_outside d_good_outside.body = true := fun F0 => by kernel_rfl
theorem s_check_rules : FnScope n_check_rules ["limits", "rights", "lines", "costs", "plan", "outside"] d_check_rules.scope := ⟨rfl, rfl, rfl, by decide +kernel, rfl, by decide +kernel, by decide +kernel⟩
theorem c_check_rules : ∀ F0, chkSs (G.at F0) B ⟨n_check_rules, d_check_rules.scope, none, 24⟩ b_check_rules d_check_rules.body = true := fun F0 => by kernel_rfl
theorem s_is_flag : FnScope n_is_flag ["thing"] d_is_flag.scope := ⟨rfl, rfl, rfl, by decide +kernel, rfl, by decide +kernel, by decide +kernel⟩
theorem c_is_flag : ∀ F0, chkSs (G.at F0) B ⟨n_is_flag, d_is_flag.scope, none, 25⟩ b_is_flag d_is_flag.body = true := fun F0 => by kernel_rfl
theorem s_check_flags : FnScope n_check_flags ["wipe", "pad", "lend", "share"] d_check_flags.scope := ⟨rfl, rfl, rfl, by decide +kernel, rfl, by decide +kernel, by decide +kernel⟩
theorem c_check_flags : ∀ F0, chkSs (G.at F0) B ⟨n_check_flags, d_check_flags.scope, none, 26⟩ b_check_flags d_check_flags.body = true := fun F0 => by kernel_rfl
theorem s_frozen_plan : FnScope n_frozen_plan ["plan"] d_frozen_plan.scope := ⟨rfl, rfl, rfl, by decide +kernel, rfl, by decide +kernel, by decide +kernel⟩
theorem c_frozen_plan : ∀ F0, chkSs (G.at F0) B ⟨n_frozen_plan, d_frozen_plan.scope, none, 27⟩ b_frozen_plan d_frozen_plan.body = true := fun F0 => by kernel_rfl
theorem s_period_of : FnScope n_period_of ["plan_row", "outside_row"] d_period_of.scope := ⟨rfl, rfl, rfl, by decide +kernel, rfl, by decide +kernel, by decide +kernel⟩
theorem c_period_of : ∀ F0, chkSs (G.at F0) B ⟨n_period_of, d_period_of.scope, none, 28⟩ b_period_of d_period_of.body = true := fun F0 => by kernel_rfl
theorem s_Build___init__ : FnScope n_Build___init__ ["self", "tasks", "pages", "ports", "locks", "frames", "disk", "rights", "lines", "costs", "plan", "outside", "wipe", "pad", "lend", "share"] d_Build___init__.scope := ⟨rfl, rfl, rfl, by decide +kernel, rfl, by decide +kernel, by decide +kernel⟩
theorem c_Build___init__ : ∀ F0, chkSs (G.at F0) B ⟨n_Build___init__, d_Build___init__.scope, none, 29⟩ b_Build___init__ d_Build___init__.body = true := fun F0 => by kernel_rfl
theorem s_is_tuple_pad30 : FnScope n_is_tuple_pad30 ["thing", "many"] d_is_tuple.scope := ⟨rfl, rfl, rfl, by decide +kernel, rfl, by decide +kernel, by decide +kernel⟩
theorem c_is_tuple_pad30 : ∀ F0, chkSs (G.at F0) B ⟨n_is_tuple_pad30, d_is_tuple.scope, none, 30⟩ b_is_tuple_pad30 d_is_tuple.body = true := fun F0 => by kernel_rfl
theorem s__law_made : FnScope n__law_made ["_law_parts_here"] d__law_made.scope := ⟨rfl, rfl, rfl, by decide +kernel, rfl, by decide +kernel, by decide +kernel⟩
theorem c__law_made : ∀ F0, chkSs (G.at F0) B ⟨n__law_made, d__law_made.scope, none, 31⟩ b__law_made d__law_made.body = true := fun F0 => by kernel_rfl
theorem s__law_copy_0 : FnScope n__law_copy_0 ["_law_thing"] d__law_copy.scope := ⟨rfl, rfl, rfl, by decide +kernel, rfl, by decide +kernel, by decide +kernel⟩
theorem c__law_copy_0 : ∀ F0, chkSs (G.at F0) B ⟨n__law_copy_0, d__law_copy.scope, none, 32⟩ b__law_copy_0 d__law_copy.body = true := fun F0 => by kernel_rfl
theorem s__law_copy_1 : FnScope n__law_copy_1 ["_law_thing"] d__law_copy.scope := ⟨rfl, rfl, rfl, by decide +kernel, rfl, by decide +kernel, by decide +kernel⟩
theorem c__law_copy_1 : ∀ F0, chkSs (G.at F0) B ⟨n__law_copy_1, d__law_copy.scope, none, 33⟩ b__law_copy_1 d__law_copy.body = true := fun F0 => by kernel_rfl
theorem s__law_copy_2 : FnScope n__law_copy_2 ["_law_thing"] d__law_copy.scope := ⟨rfl, rfl, rfl, by decide +kernel, rfl, by decide +kernel, by decide +kernel⟩
theorem c__law_copy_2 : ∀ F0, chkSs (G.at F0) B ⟨n__law_copy_2, d__law_copy.scope, none, 34⟩ b__law_copy_2 d__law_copy.body = true := fun F0 => by kernel_rfl
theorem s__law_copy_3 : FnScope n__law_copy_3 ["_law_thing"] d__law_copy.scope := ⟨rfl, rfl, rfl, by decide +kernel, rfl, by decide +kernel, by decide +kernel⟩
theorem c__law_copy_3 : ∀ F0, chkSs (G.at F0) B ⟨n__law_copy_3, d__law_copy.scope, none, 35⟩ b__law_copy_3 d__law_copy.body = true := fun F0 => by kernel_rfl
theorem s__law_copy_4 : FnScope n__law_copy_4 ["_law_thing"] d__law_copy.scope := ⟨rfl, rfl, rfl, by decide +kernel, rfl, by decide +kernel, by decide +kernel⟩
theorem c__law_copy_4 : ∀ F0, chkSs (G.at F0) B ⟨n__law_copy_4, d__law_copy.scope, none, 36⟩ b__law_copy_4 d__law_copy.body = true := fun F0 => by kernel_rfl
theorem s_page_text : FnScope n_page_text ["worth", "line"] d_page_text.scope := ⟨rfl, rfl, rfl, by decide +kernel, rfl, by decide +kernel, by decide +kernel⟩
theorem c_page_text : ∀ F0, chkSs (G.at F0) B ⟨n_page_text, d_page_text.scope, none, 37⟩ b_page_text d_page_text.body = true := fun F0 => by kernel_rfl
theorem s_plan_texts : FnScope n_plan_texts ["plan_row"] d_plan_texts.scope := ⟨rfl, rfl, rfl, by decide +kernel, rfl, by decide +kernel, by decide +kernel⟩
theorem c_plan_texts : ∀ F0, chkSs (G.at F0) B ⟨n_plan_texts, d_plan_texts.scope, none, 38⟩ b_plan_texts d_plan_texts.body = true := fun F0 => by kernel_rfl
theorem s_flag_texts : FnScope n_flag_texts ["build"] d_flag_texts.scope := ⟨rfl, rfl, rfl, by decide +kernel, rfl, by decide +kernel, by decide +kernel⟩
theorem c_flag_texts : ∀ F0, chkSs (G.at F0) B ⟨n_flag_texts, d_flag_texts.scope, none, 39⟩ b_flag_texts d_flag_texts.body = true := fun F0 => by kernel_rfl
theorem s_right_words : FnScope n_right_words ["right"] d_right_words.scope := ⟨rfl, rfl, rfl, by decide +kernel, rfl, by decide +kernel, by decide +kernel⟩
theorem c_right_words : ∀ F0, chkSs (G.at F0) B ⟨n_right_words, d_right_words.scope, none, 40⟩ b_right_words d_right_words.body = true := fun F0 => by kernel_rfl
theorem s_build_text : FnScope n_build_text ["build"] d_build_text.scope := ⟨rfl, rfl, rfl, by decide +kernel, rfl, by decide +kernel, by decide +kernel⟩
theorem c_build_text : ∀ F0, chkSs (G.at F0) B ⟨n_build_text, d_build_text.scope, none, 41⟩ b_build_text d_build_text.body = true := fun F0 => by kernel_rfl
theorem s__law_same_0 : FnScope n__law_same_0 ["_law_one", "_law_two"] d__law_same.scope := ⟨rfl, rfl, rfl, by decide +kernel, rfl, by decide +kernel, by decide +kernel⟩
theorem c__law_same_0 : ∀ F0, chkSs (G.at F0) B ⟨n__law_same_0, d__law_same.scope, none, 42⟩ b__law_same_0 d__law_same.body = true := fun F0 => by kernel_rfl
theorem s__law_same_1 : FnScope n__law_same_1 ["_law_one", "_law_two"] d__law_same.scope := ⟨rfl, rfl, rfl, by decide +kernel, rfl, by decide +kernel, by decide +kernel⟩
theorem c__law_same_1 : ∀ F0, chkSs (G.at F0) B ⟨n__law_same_1, d__law_same.scope, none, 43⟩ b__law_same_1 d__law_same.body = true := fun F0 => by kernel_rfl
theorem s__law_same_2 : FnScope n__law_same_2 ["_law_one", "_law_two"] d__law_same.scope := ⟨rfl, rfl, rfl, by decide +kernel, rfl, by decide +kernel, by decide +kernel⟩
theorem c__law_same_2 : ∀ F0, chkSs (G.at F0) B ⟨n__law_same_2, d__law_same.scope, none, 44⟩ b__law_same_2 d__law_same.body = true := fun F0 => by kernel_rfl
theorem s__law_same_3 : FnScope n__law_same_3 ["_law_one", "_law_two"] d__law_same.scope := ⟨rfl, rfl, rfl, by decide +kernel, rfl, by decide +kernel, by decide +kernel⟩
theorem c__law_same_3 : ∀ F0, chkSs (G.at F0) B ⟨n__law_same_3, d__law_same.scope, none, 45⟩ b__law_same_3 d__law_same.body = true := fun F0 => by kernel_rfl
theorem s__law_same_4 : FnScope n__law_same_4 ["_law_one", "_law_two"] d__law_same.scope := ⟨rfl, rfl, rfl, by decide +kernel, rfl, by decide +kernel, by decide +kernel⟩
theorem c__law_same_4 : ∀ F0, chkSs (G.at F0) B ⟨n__law_same_4, d__law_same.scope, none, 46⟩ b__law_same_4 d__law_same.body = true := fun F0 => by kernel_rfl
theorem s__law_rows : FnScope n__law_rows ["_law_parts_here"] d__law_rows.scope := ⟨rfl, rfl, rfl, by decide +kernel, rfl, by decide +kernel, by decide +kernel⟩
theorem c__law_rows : ∀ F0, chkSs (G.at F0) B ⟨n__law_rows, d__law_rows.scope, none, 47⟩ b__law_rows d__law_rows.body = true := fun F0 => by kernel_rfl
theorem s_Build_tasks : FnScope n_Build_tasks ["self"] d_Build_tasks.scope := ⟨rfl, rfl, rfl, by decide +kernel, rfl, by decide +kernel, by decide +kernel⟩
theorem c_Build_tasks : ∀ F0, chkSs (G.at F0) B ⟨n_Build_tasks, d_Build_tasks.scope, none, 48⟩ b_Build_tasks d_Build_tasks.body = true := fun F0 => by kernel_rfl
theorem s_Build_pages : FnScope n_Build_pages ["self"] d_Build_pages.scope := ⟨rfl, rfl, rfl, by decide +kernel, rfl, by decide +kernel, by decide +kernel⟩
theorem c_Build_pages : ∀ F0, chkSs (G.at F0) B ⟨n_Build_pages, d_Build_pages.scope, none, 49⟩ b_Build_pages d_Build_pages.body = true := fun F0 => by kernel_rfl
theorem s_Build_ports : FnScope n_Build_ports ["self"] d_Build_ports.scope := ⟨rfl, rfl, rfl, by decide +kernel, rfl, by decide +kernel, by decide +kernel⟩
theorem c_Build_ports : ∀ F0, chkSs (G.at F0) B ⟨n_Build_ports, d_Build_ports.scope, none, 50⟩ b_Build_ports d_Build_ports.body = true := fun F0 => by kernel_rfl
theorem s_Build_locks : FnScope n_Build_locks ["self"] d_Build_locks.scope := ⟨rfl, rfl, rfl, by decide +kernel, rfl, by decide +kernel, by decide +kernel⟩
theorem c_Build_locks : ∀ F0, chkSs (G.at F0) B ⟨n_Build_locks, d_Build_locks.scope, none, 51⟩ b_Build_locks d_Build_locks.body = true := fun F0 => by kernel_rfl
theorem s_Build_frames : FnScope n_Build_frames ["self"] d_Build_frames.scope := ⟨rfl, rfl, rfl, by decide +kernel, rfl, by decide +kernel, by decide +kernel⟩
theorem c_Build_frames : ∀ F0, chkSs (G.at F0) B ⟨n_Build_frames, d_Build_frames.scope, none, 52⟩ b_Build_frames d_Build_frames.body = true := fun F0 => by kernel_rfl
theorem s_Build_disk : FnScope n_Build_disk ["self"] d_Build_disk.scope := ⟨rfl, rfl, rfl, by decide +kernel, rfl, by decide +kernel, by decide +kernel⟩
theorem c_Build_disk : ∀ F0, chkSs (G.at F0) B ⟨n_Build_disk, d_Build_disk.scope, none, 53⟩ b_Build_disk d_Build_disk.body = true := fun F0 => by kernel_rfl
theorem s_Build_rights : FnScope n_Build_rights ["self"] d_Build_rights.scope := ⟨rfl, rfl, rfl, by decide +kernel, rfl, by decide +kernel, by decide +kernel⟩
theorem c_Build_rights : ∀ F0, chkSs (G.at F0) B ⟨n_Build_rights, d_Build_rights.scope, none, 54⟩ b_Build_rights d_Build_rights.body = true := fun F0 => by kernel_rfl
theorem s_Build_lines : FnScope n_Build_lines ["self"] d_Build_lines.scope := ⟨rfl, rfl, rfl, by decide +kernel, rfl, by decide +kernel, by decide +kernel⟩
theorem c_Build_lines : ∀ F0, chkSs (G.at F0) B ⟨n_Build_lines, d_Build_lines.scope, none, 55⟩ b_Build_lines d_Build_lines.body = true := fun F0 => by kernel_rfl
theorem s_Build_costs : FnScope n_Build_costs ["self"] d_Build_costs.scope := ⟨rfl, rfl, rfl, by decide +kernel, rfl, by decide +kernel, by decide +kernel⟩
theorem c_Build_costs : ∀ F0, chkSs (G.at F0) B ⟨n_Build_costs, d_Build_costs.scope, none, 56⟩ b_Build_costs d_Build_costs.body = true := fun F0 => by kernel_rfl
theorem s_Build_plan : FnScope n_Build_plan ["self"] d_Build_plan.scope := ⟨rfl, rfl, rfl, by decide +kernel, rfl, by decide +kernel, by decide +kernel⟩
theorem c_Build_plan : ∀ F0, chkSs (G.at F0) B ⟨n_Build_plan, d_Build_plan.scope, none, 57⟩ b_Build_plan d_Build_plan.body = true := fun F0 => by kernel_rfl
theorem s_Build_outside : FnScope n_Build_outside ["self"] d_Build_outside.scope := ⟨rfl, rfl, rfl, by decide +kernel, rfl, by decide +kernel, by decide +kernel⟩
theorem c_Build_outside : ∀ F0, chkSs (G.at F0) B ⟨n_Build_outside, d_Build_outside.scope, none, 58⟩ b_Build_outside d_Build_outside.body = true := fun F0 => by kernel_rfl
theorem s_Build_wipe : FnScope n_Build_wipe ["self"] d_Build_wipe.scope := ⟨rfl, rfl, rfl, by decide +kernel, rfl, by decide +kernel, by decide +kernel⟩
theorem c_Build_wipe : ∀ F0, chkSs (G.at F0) B ⟨n_Build_wipe, d_Build_wipe.scope, none, 59⟩ b_Build_wipe d_Build_wipe.body = true := fun F0 => by kernel_rfl
theorem s_Build_pad : FnScope n_Build_pad ["self"] d_Build_pad.scope := ⟨rfl, rfl, rfl, by decide +kernel, rfl, by decide +kernel, by decide +kernel⟩
theorem c_Build_pad : ∀ F0, chkSs (G.at F0) B ⟨n_Build_pad, d_Build_pad.scope, none, 60⟩ b_Build_pad d_Build_pad.body = true := fun F0 => by kernel_rfl
theorem s_Build_lend : FnScope n_Build_lend ["self"] d_Build_lend.scope := ⟨rfl, rfl, rfl, by decide +kernel, rfl, by decide +kernel, by decide +kernel⟩
theorem c_Build_lend : ∀ F0, chkSs (G.at F0) B ⟨n_Build_lend, d_Build_lend.scope, none, 61⟩ b_Build_lend d_Build_lend.body = true := fun F0 => by kernel_rfl
theorem s_Build_share : FnScope n_Build_share ["self"] d_Build_share.scope := ⟨rfl, rfl, rfl, by decide +kernel, rfl, by decide +kernel, by decide +kernel⟩
theorem c_Build_share : ∀ F0, chkSs (G.at F0) B ⟨n_Build_share, d_Build_share.scope, none, 62⟩ b_Build_share d_Build_share.body = true := fun F0 => by kernel_rfl
theorem s__law_told : FnScope n__law_told ["_law_build"] d__law_told.scope := ⟨rfl, rfl, rfl, by decide +kernel, rfl, by decide +kernel, by decide +kernel⟩
theorem c__law_told : ∀ F0, chkSs (G.at F0) B ⟨n__law_told, d__law_told.scope, none, 63⟩ b__law_told d__law_told.body = true := fun F0 => by kernel_rfl
theorem s_law : FnScope n_law ["_law_script"] d_law.scope := ⟨rfl, rfl, rfl, by decide +kernel, rfl, by decide +kernel, by decide +kernel⟩
theorem c_law : ∀ F0, chkSs (G.at F0) B ⟨n_law, d_law.scope, none, 64⟩ b_law d_law.body = true := fun F0 => by kernel_rfl
end HT
set_option Elab.async false
set_option linter.all false
set_option maxRecDepth 100000
set_option maxHeartbeats 400000
namespace HT
open PySem PySem.Spec PyProof.Rows L2 Z
def srcP (g : Addr) : List PV → Prop := fun xs => ∃ seed cnt : Int, xs = [.ref g, .int seed, .int cnt]
def intsP : List PV → Prop := fun xs => ∃ ns : List Int, xs = ns.map PV.int
def Src (M : Mh) (s g : Addr) : Prop := M s = some (.sm (srcP g)) ∧ M g = some (.sm intsP)
theorem Src.ne {M : Mh} {s g : Addr} (h : Src M s g) : s ≠ g := by
  rintro rfl
  have e : MO.sm (srcP s) = MO.sm intsP := Option.some.inj (h.1.symm.trans h.2)
  injection e with e
  have e2 : srcP s [] := by rw [e]; exact ⟨[], rfl⟩
  obtain ⟨_, _, e3⟩ := e2
  cases e3
def sp_draw : ZSp := fun vs M Q _ => ∃ (s g : Addr) (many : Int), vs = [.ref s, .int many] ∧ Src M s g ∧ (0 < many ∧ many < 1000000) ∧ ∀ r, 0 ≤ r → r < many → Q (.int r) M
def sp_source : ZSp := fun vs M Q _ => ∃ ns : List Int, vs = [.scr (ns.map PV.int)] ∧ ns.length ≤ 100 ∧ ∀ s g, s ≠ g → M s = none → M g = none → Q (.ref s) (put (put M g (.sm intsP)) s (.sm (srcP g)))
/-! ### the pool of rights -/
abbrev rgt (s : Str) (k : Int) : PV := .tup [.str s, .int k]
def rowOf (s : Str) (n : Nat) : List PV := (List.range n).map fun k => rgt s (k : Nat)
def asR (s : Str) : PV → PV
  | .int k => rgt s k
  | _ => .non
theorem map_asR (s : Str) (n : Nat) : (rangeL 0 n).map (asR s) = rowOf s n := by
  unfold rangeL rowOf
  rw [List.map_map]
  refine List.map_congr_left fun k _ => ?_
  show rgt s (0 + (k : Int)) = rgt s k
  rw [Int.zero_add]
def pool (nt np nq nl : Nat) (dk : Int) : List PV := rowOf "hand" nt ++ rowOf "lock" nl ++ rowOf "read" np ++ (if 0 < dk then [rgt "seek" 0] else []) ++ rowOf "send" nq ++ rowOf "strip" nt ++ rowOf "take" nq ++ rowOf "write" np
def sp_pool : ZSp := fun vs M Q _ => ∃ (p : Addr) (ts ps qs : List PV) (nl : Nat) (fr : PV) (dk : Int), vs = [.ref p] ∧ M p = some (.lst [.lst ts, .lst ps, .lst qs, .int nl, fr, .int dk]) ∧ (ts.length ≤ 4 ∧ ps.length ≤ 4 ∧ qs.length ≤ 4 ∧ nl ≤ 4) ∧ Q (.lst (pool ts.length ps.length qs.length nl dk)) M
theorem Src.put {M : Mh} {s g p : Addr} {o : MO} (h : Src M s g) (hp : M p = none) : Src (Z.put M p o) s g := ⟨by rw [put_ne (neN h.1 hp)]; exact h.1, by rw [put_ne (neN h.2 hp)]; exact h.2⟩
theorem Src.putN {M : Mh} {s g p : Addr} {o : MO} (h : Src M s g) (hs : s ≠ p) (hg : g ≠ p) : Src (Z.put M p o) s g := ⟨by rw [put_ne hs]; exact h.1, by rw [put_ne hg]; exact h.2⟩
def sp_rights : ZSp := fun vs M Q _ => ∃ (s g : Addr) (pl : List PV), vs = [.ref s, .lst pl] ∧ Src M s g ∧ pl.length ≤ 100 ∧ ∀ row : List PV, row.Sublist pl → row.length ≤ 8 → Q (.lst row) M
abbrev pr2 (t : Int × Int) : PV := .tup [.int t.1, .int t.2]
/-- a plan for n tasks -/
def PlanP (n : Int) (p : PV) : Prop := (∃ k : Int, (1 ≤ k ∧ k ≤ 8) ∧ p = .tup [.str "levels", .int k]) ∨ ∃ rows : List (Int × Int), (1 ≤ rows.length ∧ rows.length ≤ 4) ∧ (∀ t ∈ rows, (0 ≤ t.1 ∧ t.1 < n) ∧ 1 ≤ t.2 ∧ t.2 ≤ 12) ∧ p = .tup [.str "slots", .lst (rows.map pr2)]
def sp_plan : ZSp := fun vs M Q _ => ∃ (s g : Addr) (n : Int), vs = [.ref s, .int n] ∧ Src M s g ∧ (0 < n ∧ n ≤ 4) ∧ ∀ p, PlanP n p → Q p M
/-- a build's parts -/
structure Pt where
  ts : List (Int × Int)
  ps : List Int
  qs : List Int
  nl : Nat
  fr : Int
  dk : Int
  rs : List (List PV)
  ls : List PV
  c0 : Int
  c1 : Int
  c2 : Int
  pl : PV
  ou : PV
  b0 : Bool
  b1 : Bool
  b2 : Bool
  b3 : Bool
def OutP (n : Nat) (p : PV) : Prop := p = .non ∨ ∃ a b : Int, (0 ≤ a ∧ a < n) ∧ (1 ≤ b ∧ b ≤ 4) ∧ p = .tup [.int a, .int b]
structure Pt.Ok (p : Pt) : Prop where
  t1 : 2 ≤ p.ts.length ∧ p.ts.length ≤ 4
  t2 : ∀ t ∈ p.ts, (0 ≤ t.1 ∧ t.1 ≤ 3) ∧ 0 ≤ t.2 ∧ t.2 ≤ 2
  t3 : ∃ t ∈ p.ts, ∃ u ∈ p.ts, t.1 ≠ u.1
  p1 : p.ps.length ≤ 3
  p2 : ∀ n ∈ p.ps, 0 ≤ n ∧ n ≤ 1
  q1 : p.qs.length ≤ 2
  q2 : ∀ n ∈ p.qs, 1 ≤ n ∧ n ≤ 2
  l1 : p.nl ≤ 2
  f1 : 0 ≤ p.fr ∧ p.fr ≤ 3
  d1 : p.dk = 0 ∨ p.dk = 2 ∨ p.dk = 3 ∨ p.dk = 4
  r1 : p.rs.length = p.ts.length
  r2 : ∀ r ∈ p.rs, r.Sublist (pool p.ts.length p.ps.length p.qs.length p.nl p.dk) ∧ r.length ≤ 8
  s1 : p.ls.length = p.ps.length
  s2 : ∀ x ∈ p.ls, x = .non ∨ x = .int 0 ∨ x = .int 1
  c1 : (1 ≤ p.c0 ∧ p.c0 ≤ 3) ∧ (0 ≤ p.c1 ∧ p.c1 ≤ 3) ∧ 0 ≤ p.c2 ∧ p.c2 ≤ 2
  g1 : PlanP p.ts.length p.pl
  o1 : OutP p.qs.length p.ou
abbrev Pt.tl (p : Pt) : PV := .lst (p.ts.map pr2)
abbrev Pt.rl (p : Pt) : PV := .lst (p.rs.map PV.lst)
abbrev Pt.cs (p : Pt) : PV := .tup [.int p.c0, .int p.c1, .int p.c2]
def Pt.items (p : Pt) : List PV := [p.tl, .lst (p.ps.map PV.int), .lst (p.qs.map PV.int), .int p.nl, .int p.fr, .int p.dk, p.rl, .lst p.ls, p.cs, p.pl, p.ou, .bl p.b0, .bl p.b1, .bl p.b2, .bl p.b3]
def sp_parts : ZSp := fun vs M Q _ => ∃ s g : Addr, vs = [.ref s] ∧ Src M s g ∧ ∀ p : Pt, p.Ok → Q (.lst p.items) M
end HT
set_option Elab.async false
set_option linter.all false
set_option maxRecDepth 100000
set_option maxHeartbeats 400000
namespace HT
open PySem PySem.Spec PyProof.Rows L2 Z
local macro_rules | `(tactic| walk_at "HL") => `(tactic| (first | assumption | exact put_same | (rw [put_ne (by first | assumption | (apply Ne.symm; assumption))]; first | assumption | exact put_same | (rw [put_ne (by first | assumption | (apply Ne.symm; assumption))]; first | assumption | exact put_same | (rw [put_ne (by first | assumption | (apply Ne.symm; assumption))]; first | assumption | exact put_same)))))
local macro_rules | `(tactic| walk_at "ONE") => `(tactic| (first | (refine And.intro rfl ?_; (conv => whnf)) | (refine And.intro True.intro ?_; (conv => whnf)) | (refine And.intro (Exists.intro _ (by walk_at "HL")) ?_; (conv => whnf)) | (refine And.intro (by walk_at "HL") ?_; (conv => whnf)) | (refine And.intro (And.intro rfl rfl) ?_; (conv => whnf)) | (refine And.intro (Nat.le_of_ble_eq_true rfl) ?_; (conv => whnf)) | (refine And.intro (by decide) ?_; (conv => whnf)) | (refine And.intro (by omega) ?_; (conv => whnf)) | (refine Exists.intro _ (And.intro (by walk_at "HL") ?_); (conv => whnf)) | (refine Exists.intro _ (And.intro rfl ?_); (conv => whnf)) | (refine Exists.intro _ (Exists.intro _ (And.intro (by walk_at "HL") (And.intro rfl ?_))); (conv => whnf)) | (refine Exists.intro _ (Exists.intro _ (And.intro (by walk_at "HL") (And.intro (And.intro (by decide) rfl) ?_))); (conv => whnf)) | (refine Exists.intro _ (Exists.intro _ (And.intro rfl (And.intro rfl ?_))); (conv => whnf)) | (refine br_t rfl ?_; (conv => whnf)) | (refine br_f rfl ?_; (conv => whnf)) | (refine And.intro (And.intro (by decide +kernel) (by decide +kernel)) ?_; (conv => whnf)) | (refine br_t (by decide +kernel) ?_; (conv => whnf)) | (refine br_f (by decide +kernel) ?_; (conv => whnf))))
local macro_rules | `(tactic| walk_at "ONI") => `(tactic| (first | (refine Qw.here ?_; (conv => whnf)) | (refine br_t (decide_eq_true (by omega)) ?_; (conv => whnf)) | (refine br_f (decide_eq_false (by omega)) ?_; (conv => whnf)) | (refine And.intro rfl ?_; (conv => whnf)) | (refine And.intro True.intro ?_; (conv => whnf)) | (refine And.intro (Exists.intro _ (by walk_at "HL")) ?_; (conv => whnf)) | (refine And.intro (by walk_at "HL") ?_; (conv => whnf)) | (refine And.intro (And.intro rfl rfl) ?_; (conv => whnf)) | (refine And.intro (Nat.le_of_ble_eq_true rfl) ?_; (conv => whnf)) | (refine And.intro (by decide) ?_; (conv => whnf)) | (refine And.intro (by omega) ?_; (conv => whnf)) | (refine Exists.intro _ (And.intro (by walk_at "HL") ?_); (conv => whnf)) | (refine Exists.intro _ (And.intro rfl ?_); (conv => whnf)) | (refine Exists.intro _ (Exists.intro _ (And.intro (by walk_at "HL") (And.intro rfl ?_))); (conv => whnf)) | (refine Exists.intro _ (Exists.intro _ (And.intro (by walk_at "HL") (And.intro (And.intro (by decide) rfl) ?_))); (conv => whnf)) | (refine Exists.intro _ (Exists.intro _ (And.intro rfl (And.intro rfl ?_))); (conv => whnf)) | (refine br_t rfl ?_; (conv => whnf)) | (refine br_f rfl ?_; (conv => whnf)) | (refine And.intro (And.intro (by decide +kernel) (by decide +kernel)) ?_; (conv => whnf)) | (refine br_t (by decide +kernel) ?_; (conv => whnf)) | (refine br_f (by decide +kernel) ?_; (conv => whnf))))
local macro_rules | `(tactic| walk_at "GO") => `(tactic| (((conv => whnf); repeat (walk_at "ONE"))))
local macro_rules | `(tactic| walk_at "GI") => `(tactic| (((conv => whnf); repeat (walk_at "ONI"))))
local macro_rules | `(tactic| walk_at "BB") => `(tactic| (first | rfl | (simp only [Bool.and_eq_true, Bool.or_eq_true, Bool.not_eq_true', Bool.and_eq_false_iff, Bool.not_eq_false', decide_eq_true_eq, decide_eq_false_iff_not, peq_int, List.length_map]; omega)))
theorem o_draw (Φ : Nat → ZSp) (vs : List PV) (M : Mh) (Q : ZQ) (E : ZX) (h : sp_draw vs M Q E) : vs.length = 2 ∧ Reach M fun M1 => inl Φ 5 2 b__law_draw vs M1 Q E := by
  obtain ⟨s, g, many, rfl, hS, ⟨h0, h1⟩, hq⟩ := h
  have ne := hS.ne
  obtain ⟨hs, hg⟩ := hS
  refine ⟨rfl, .opn hs ?_⟩
  rintro _ ⟨seed, cnt, rfl⟩
  refine .opn (p := g) (P := intsP) (by rw [put_ne (Ne.symm ne)]; exact hg) ?_
  rintro _ ⟨ns, rfl⟩
  refine .done ⟨rfl, ?_⟩
  have e1 : (put (put M s (.lst [.ref g, .int seed, .int cnt])) g (.lst (ns.map PV.int))) s = some (.lst [.ref g, .int seed, .int cnt]) := by rw [put_ne ne, put_same]
  have e2 : (put (put M s (.lst [.ref g, .int seed, .int cnt])) g (.lst (ns.map PV.int))) g = some (.lst (ns.map PV.int)) := put_same
  have e3 : ∀ a, a ≠ s → a ≠ g → (put (put M s (.lst [.ref g, .int seed, .int cnt])) g (.lst (ns.map PV.int))) a = M a := fun a h1 h2 => by rw [put_ne h2, put_ne h1]
  generalize put (put M s (.lst [.ref g, .int seed, .int cnt])) g (.lst (ns.map PV.int)) = M1 at e1 e2 e3
  have fin : ∀ (M2 : Mh) (r : Int), 0 ≤ r → r < many → (∃ xs, M2 s = some (.lst xs) ∧ srcP g xs) → (∃ xs, M2 g = some (.lst xs) ∧ intsP xs) → (∀ a, a ≠ s → a ≠ g → M2 a = M a) → Qw Q (.int r) M2 := fun M2 r r0 r1 ⟨xs, a1, b1⟩ ⟨ys, a2, b2⟩ hr => .by (weak2 hs hg a1 b1 a2 b2 hr) (hq r r0 r1)
  walk_at "GO"
  refine br_intro (fun c => ?_) fun c => ?_
  · cases ns with
    | nil => cases c
    | cons n ns =>
      have m0 := Int.emod_nonneg n (show many ≠ 0 by omega)
      have m1 := Int.emod_lt_of_pos n h0
      walk_at "GO"
      refine br_intro (fun c => ?_) fun c => ?_
      · walk_at "GO"
        refine fin _ _ m0 m1 ⟨_, ?_, seed, cnt, rfl⟩ ⟨_, put_same, ns, rfl⟩ fun a h1 h2 => ?_
        · first | exact put_same | (rw [put_ne ne]; first | assumption | (rw [put_ne ne]; assumption))
        · rw [put_ne h2, put_ne h2, e3 a h1 h2]
      · walk_at "GO"
        refine fin _ _ m0 m1 ⟨_, ?_, seed, cnt, rfl⟩ ⟨_, put_same, n / many :: ns, rfl⟩ fun a h1 h2 => ?_
        · first | exact put_same | (rw [put_ne ne]; first | assumption | (rw [put_ne ne]; assumption))
        · rw [put_ne h2, e3 a h1 h2]
  · walk_at "GO"
    refine fin _ _ (Int.emod_nonneg _ (by omega)) (Int.emod_lt_of_pos _ h0) ⟨_, put_same, seed, cnt + 1, rfl⟩ ⟨_, ?_, ns, rfl⟩ fun a h1 h2 => ?_
    · rw [put_ne (Ne.symm ne)]; exact e2
    · rw [put_ne h1, e3 a h1 h2]
theorem o_source (Φ : Nat → ZSp) (vs : List PV) (M : Mh) (Q : ZQ) (E : ZX) (h : sp_source vs M Q E) : vs.length = 1 ∧ Reach M fun M1 => inl Φ 4 1 b__law_source vs M1 Q E := by
  obtain ⟨ns, rfl, hl, hq⟩ := h
  refine ⟨rfl, .done ⟨rfl, ?_⟩⟩
  walk_at "GO"
  intro g hg
  refine lc_ind (fun xs acc M' => ∃ ms as : List Int, xs = ms.map PV.int ∧ acc = as.map PV.int ∧ as.length + ms.length ≤ 100 ∧ M' = put M g (.lst acc)) ⟨ns, [], rfl, rfl, by simpa using hl, rfl⟩ ?_ ?_
  · rintro acc M' ⟨ms, as, e, rfl, hl, rfl⟩
    walk_at "GO"
    refine it_ind (fun xs σ M' => ∃ (ms : List Int) (sd : Int) (o : Option PV), xs = ms.map PV.int ∧ σ = [some (.scr (ns.map PV.int)), some (.ref g), some (.int sd), o] ∧ (-10000000000 < sd ∧ sd < 10000000000) ∧ M' = put M g (.lst (as.map PV.int))) ⟨ns, 7, none, rfl, rfl, by omega, rfl⟩ ?_ ?_
    · rintro σ M' ⟨_, sd, o, e, rfl, hs, rfl⟩
      walk_at "GO"
      intro s hs'
      obtain ⟨ne, hs0⟩ := none_put hs'
      refine Qw.by (M' := put (put M g (.sm intsP)) s (.sm (srcP g))) ?_ (hq s g ne hs0 hg)
      intro a m e
      by_cases ha : a = s
      · subst ha; rw [put_same] at e; cases e; exact .inr ⟨_, _, put_same, rfl, sd, 0, rfl⟩
      · rw [put_ne ha] at e
        by_cases hb : a = g
        · subst hb; rw [put_same] at e; cases e; exact .inr ⟨_, _, by rw [put_ne ha]; exact put_same, rfl, as, rfl⟩
        · rw [put_ne hb] at e; exact .inl (by rw [put_ne ha, put_ne hb]; exact e)
    · rintro x r σ M' ⟨ms, sd, o, e, rfl, hs, rfl⟩ L hL
      cases ms with
      | nil => cases e
      | cons m ms =>
        cases e
        walk_at "GO"
        refine hL _ _ ⟨ms, _, _, rfl, rfl, ?_, rfl⟩
        omega
  · rintro x r acc M' ⟨ms, as, e, rfl, hl, rfl⟩ L hL
    cases ms with
    | nil => cases e
    | cons m ms =>
      cases e
      walk_at "GO"
      refine br_intro (fun c => ?_) fun c => ?_
      · walk_at "GO"
        rw [List.length_cons] at hl
        refine ⟨small (k := 100) (by rw [List.length_map]; omega), hL _ _ ⟨ms, as ++ [m], rfl, by rw [List.map_append]; rfl, by rw [List.length_append, List.length_singleton]; omega, put_put⟩⟩
      · walk_at "GO"
        rw [List.length_cons] at hl
        exact hL _ _ ⟨ms, as, rfl, rfl, by omega, rfl⟩
end HT
set_option Elab.async false
set_option linter.all false
set_option maxRecDepth 100000
set_option maxHeartbeats 400000
namespace HT
open PySem PySem.Spec PyProof.Rows L2 Z
local macro_rules | `(tactic| walk_at "HL") => `(tactic| (first | assumption | exact put_same | (rw [put_ne (by first | assumption | (apply Ne.symm; assumption))]; first | assumption | exact put_same | (rw [put_ne (by first | assumption | (apply Ne.symm; assumption))]; first | assumption | exact put_same | (rw [put_ne (by first | assumption | (apply Ne.symm; assumption))]; first | assumption | exact put_same)))))
local macro_rules | `(tactic| walk_at "ONE") => `(tactic| (first | (refine And.intro rfl ?_; (conv => whnf)) | (refine And.intro True.intro ?_; (conv => whnf)) | (refine And.intro (Exists.intro _ (by walk_at "HL")) ?_; (conv => whnf)) | (refine And.intro (by walk_at "HL") ?_; (conv => whnf)) | (refine And.intro (And.intro rfl rfl) ?_; (conv => whnf)) | (refine And.intro (Nat.le_of_ble_eq_true rfl) ?_; (conv => whnf)) | (refine And.intro (by decide) ?_; (conv => whnf)) | (refine And.intro (by omega) ?_; (conv => whnf)) | (refine Exists.intro _ (And.intro (by walk_at "HL") ?_); (conv => whnf)) | (refine Exists.intro _ (And.intro rfl ?_); (conv => whnf)) | (refine Exists.intro _ (Exists.intro _ (And.intro (by walk_at "HL") (And.intro rfl ?_))); (conv => whnf)) | (refine Exists.intro _ (Exists.intro _ (And.intro (by walk_at "HL") (And.intro (And.intro (by decide) rfl) ?_))); (conv => whnf)) | (refine Exists.intro _ (Exists.intro _ (And.intro rfl (And.intro rfl ?_))); (conv => whnf)) | (refine br_t rfl ?_; (conv => whnf)) | (refine br_f rfl ?_; (conv => whnf)) | (refine And.intro (And.intro (by decide +kernel) (by decide +kernel)) ?_; (conv => whnf)) | (refine br_t (by decide +kernel) ?_; (conv => whnf)) | (refine br_f (by decide +kernel) ?_; (conv => whnf))))
local macro_rules | `(tactic| walk_at "ONI") => `(tactic| (first | (refine Qw.here ?_; (conv => whnf)) | (refine br_t (decide_eq_true (by omega)) ?_; (conv => whnf)) | (refine br_f (decide_eq_false (by omega)) ?_; (conv => whnf)) | (refine And.intro rfl ?_; (conv => whnf)) | (refine And.intro True.intro ?_; (conv => whnf)) | (refine And.intro (Exists.intro _ (by walk_at "HL")) ?_; (conv => whnf)) | (refine And.intro (by walk_at "HL") ?_; (conv => whnf)) | (refine And.intro (And.intro rfl rfl) ?_; (conv => whnf)) | (refine And.intro (Nat.le_of_ble_eq_true rfl) ?_; (conv => whnf)) | (refine And.intro (by decide) ?_; (conv => whnf)) | (refine And.intro (by omega) ?_; (conv => whnf)) | (refine Exists.intro _ (And.intro (by walk_at "HL") ?_); (conv => whnf)) | (refine Exists.intro _ (And.intro rfl ?_); (conv => whnf)) | (refine Exists.intro _ (Exists.intro _ (And.intro (by walk_at "HL") (And.intro rfl ?_))); (conv => whnf)) | (refine Exists.intro _ (Exists.intro _ (And.intro (by walk_at "HL") (And.intro (And.intro (by decide) rfl) ?_))); (conv => whnf)) | (refine Exists.intro _ (Exists.intro _ (And.intro rfl (And.intro rfl ?_))); (conv => whnf)) | (refine br_t rfl ?_; (conv => whnf)) | (refine br_f rfl ?_; (conv => whnf)) | (refine And.intro (And.intro (by decide +kernel) (by decide +kernel)) ?_; (conv => whnf)) | (refine br_t (by decide +kernel) ?_; (conv => whnf)) | (refine br_f (by decide +kernel) ?_; (conv => whnf))))
local macro_rules | `(tactic| walk_at "GO") => `(tactic| (((conv => whnf); repeat (walk_at "ONE"))))
local macro_rules | `(tactic| walk_at "GI") => `(tactic| (((conv => whnf); repeat (walk_at "ONI"))))
local macro_rules | `(tactic| walk_at "BB") => `(tactic| (first | rfl | (simp only [Bool.and_eq_true, Bool.or_eq_true, Bool.not_eq_true', Bool.and_eq_false_iff, Bool.not_eq_false', decide_eq_true_eq, decide_eq_false_iff_not, peq_int, List.length_map]; omega)))
theorem o_pool (Φ : Nat → ZSp) (vs : List PV) (M : Mh) (Q : ZQ) (E : ZX) (h : sp_pool vs M Q E) : vs.length = 1 ∧ Reach M fun M1 => inl Φ 3 1 b__law_pool vs M1 Q E := by
  obtain ⟨p, ts, ps, qs, nl, fr, dk, rfl, hp, ⟨h1, h2, h3, h4⟩, hq⟩ := h
  refine ⟨rfl, .done ⟨rfl, ?_⟩⟩
  walk_at "GO"
  intro D hD
  have n1 := neN hp hD
  refine lc_map (asR "hand") (by rw [len_rangeL]; omega) (fun _ => trivial) ?_ ?_
  · intro x hx acc k hk
    obtain ⟨i, _, rfl⟩ := mem_range hx
    walk_at "GO"
    exact hk
  · rw [map_asR, show Int.toNat ((ts.length : Nat) : Int) = ts.length from rfl]
    have sb := MSub.put (M := M) (o := .lst (rowOf "hand" ts.length)) hD
    have e : put M D (.lst (rowOf "hand" ts.length)) D = some (.lst (rowOf "hand" ts.length)) := put_same
    generalize put M D (.lst (rowOf "hand" ts.length)) = M1 at sb e ⊢
    have hp1 := sb p _ hp
    have lL : (rowOf "hand" ts.length).length ≤ 4 := by simp only [rowOf, List.length_map, List.length_range]; omega
    generalize hL : rowOf "hand" ts.length = L at e lL ⊢
    walk_at "GO"
    intro D2 hD2
    refine lc_mapF (asR "lock") hD2 (by rw [len_rangeL]; omega) (fun _ => trivial) ?_ ?_
    · intro x hx acc k hk
      obtain ⟨i, _, rfl⟩ := mem_range hx
      walk_at "GO"
      exact hk
    rw [map_asR, show Int.toNat ((nl : Nat) : Int) = nl from rfl]
    walk_at "GO"
    refine ⟨by rw [sizeLine_eq]; simp only [rowOf, List.length_append, List.length_map, List.length_range]; omega, ?_⟩
    intro E1 hE1
    have hM := sb.fresh hE1
    have lL : (L ++ rowOf "lock" nl).length ≤ 8 := by simp only [rowOf, List.length_append, List.length_map, List.length_range]; omega
    have sb := MSub.put' sb (p := E1) (o := .lst (L ++ rowOf "lock" nl)) (sb.fresh hE1)
    have e : put M1 E1 (.lst (L ++ rowOf "lock" nl)) E1 = some (.lst (L ++ rowOf "lock" nl)) := put_same
    generalize put M1 E1 (.lst (L ++ rowOf "lock" nl)) = M1 at sb e ⊢
    replace hL : _ = L ++ rowOf "lock" nl := congrArg (· ++ rowOf "lock" nl) hL
    generalize L ++ rowOf "lock" nl = L at e hL lL ⊢
    have hp1 := sb p _ hp
    walk_at "GO"
    intro D2 hD2
    refine lc_mapF (asR "read") hD2 (by rw [len_rangeL]; omega) (fun _ => trivial) ?_ ?_
    · intro x hx acc k hk
      obtain ⟨i, _, rfl⟩ := mem_range hx
      walk_at "GO"
      exact hk
    rw [map_asR, show Int.toNat ((ps.length : Nat) : Int) = ps.length from rfl]
    walk_at "GO"
    refine ⟨by rw [sizeLine_eq]; simp only [rowOf, List.length_append, List.length_map, List.length_range]; omega, ?_⟩
    intro E1 hE1
    have hM := sb.fresh hE1
    have lL : (L ++ rowOf "read" ps.length).length ≤ 12 := by simp only [rowOf, List.length_append, List.length_map, List.length_range]; omega
    have sb := MSub.put' sb (p := E1) (o := .lst (L ++ rowOf "read" ps.length)) (sb.fresh hE1)
    have e : put M1 E1 (.lst (L ++ rowOf "read" ps.length)) E1 = some (.lst (L ++ rowOf "read" ps.length)) := put_same
    generalize put M1 E1 (.lst (L ++ rowOf "read" ps.length)) = M1 at sb e ⊢
    replace hL : _ = L ++ rowOf "read" ps.length := congrArg (· ++ rowOf "read" ps.length) hL
    generalize L ++ rowOf "read" ps.length = L at e hL lL ⊢
    have hp1 := sb p _ hp
    walk_at "GO"
    refine br_intro (fun c => ?_) fun c => ?_
    · walk_at "GO"
      have lL : (L ++ [rgt "seek" 0]).length ≤ 13 := by simp only [List.length_append, List.length_singleton]; omega
      refine ⟨small (k := 13) (by omega), ?_⟩
      have sb := MSub.put' sb (p := E1) (o := .lst (L ++ [rgt "seek" 0])) hM
      have e : put M1 E1 (.lst (L ++ [rgt "seek" 0])) E1 = some (.lst (L ++ [rgt "seek" 0])) := put_same
      generalize put M1 E1 (.lst (L ++ [rgt "seek" 0])) = M1 at sb e ⊢
      replace hL : _ = L ++ [rgt "seek" 0] := congrArg (· ++ [rgt "seek" 0]) hL
      generalize L ++ [rgt "seek" 0] = L at e hL lL ⊢
      have hp1 := sb p _ hp
      walk_at "GO"
      intro D2 hD2
      refine lc_mapF (asR "send") hD2 (by rw [len_rangeL]; omega) (fun _ => trivial) ?_ ?_
      · intro x hx acc k hk
        obtain ⟨i, _, rfl⟩ := mem_range hx
        walk_at "GO"
        exact hk
      rw [map_asR, show Int.toNat ((qs.length : Nat) : Int) = qs.length from rfl]
      walk_at "GO"
      refine ⟨by rw [sizeLine_eq]; simp only [rowOf, List.length_append, List.length_map, List.length_range]; omega, ?_⟩
      intro E1 hE1
      have hM := sb.fresh hE1
      have lL : (L ++ rowOf "send" qs.length).length ≤ 17 := by simp only [rowOf, List.length_append, List.length_map, List.length_range]; omega
      have sb := MSub.put' sb (p := E1) (o := .lst (L ++ rowOf "send" qs.length)) hM
      have e : put M1 E1 (.lst (L ++ rowOf "send" qs.length)) E1 = some (.lst (L ++ rowOf "send" qs.length)) := put_same
      generalize put M1 E1 (.lst (L ++ rowOf "send" qs.length)) = M1 at sb e ⊢
      replace hL : _ = L ++ rowOf "send" qs.length := congrArg (· ++ rowOf "send" qs.length) hL
      generalize L ++ rowOf "send" qs.length = L at e hL lL ⊢
      have hp1 := sb p _ hp
      walk_at "GO"
      intro D2 hD2
      refine lc_mapF (asR "strip") hD2 (by rw [len_rangeL]; omega) (fun _ => trivial) ?_ ?_
      · intro x hx acc k hk
        obtain ⟨i, _, rfl⟩ := mem_range hx
        walk_at "GO"
        exact hk
      rw [map_asR, show Int.toNat ((ts.length : Nat) : Int) = ts.length from rfl]
      walk_at "GO"
      refine ⟨by rw [sizeLine_eq]; simp only [rowOf, List.length_append, List.length_map, List.length_range]; omega, ?_⟩
      intro E1 hE1
      have hM := sb.fresh hE1
      have lL : (L ++ rowOf "strip" ts.length).length ≤ 21 := by simp only [rowOf, List.length_append, List.length_map, List.length_range]; omega
      have sb := MSub.put' sb (p := E1) (o := .lst (L ++ rowOf "strip" ts.length)) hM
      have e : put M1 E1 (.lst (L ++ rowOf "strip" ts.length)) E1 = some (.lst (L ++ rowOf "strip" ts.length)) := put_same
      generalize put M1 E1 (.lst (L ++ rowOf "strip" ts.length)) = M1 at sb e ⊢
      replace hL : _ = L ++ rowOf "strip" ts.length := congrArg (· ++ rowOf "strip" ts.length) hL
      generalize L ++ rowOf "strip" ts.length = L at e hL lL ⊢
      have hp1 := sb p _ hp
      walk_at "GO"
      intro D2 hD2
      refine lc_mapF (asR "take") hD2 (by rw [len_rangeL]; omega) (fun _ => trivial) ?_ ?_
      · intro x hx acc k hk
        obtain ⟨i, _, rfl⟩ := mem_range hx
        walk_at "GO"
        exact hk
      rw [map_asR, show Int.toNat ((qs.length : Nat) : Int) = qs.length from rfl]
      walk_at "GO"
      refine ⟨by rw [sizeLine_eq]; simp only [rowOf, List.length_append, List.length_map, List.length_range]; omega, ?_⟩
      intro E1 hE1
      have hM := sb.fresh hE1
      have lL : (L ++ rowOf "take" qs.length).length ≤ 25 := by simp only [rowOf, List.length_append, List.length_map, List.length_range]; omega
      have sb := MSub.put' sb (p := E1) (o := .lst (L ++ rowOf "take" qs.length)) hM
      have e : put M1 E1 (.lst (L ++ rowOf "take" qs.length)) E1 = some (.lst (L ++ rowOf "take" qs.length)) := put_same
      generalize put M1 E1 (.lst (L ++ rowOf "take" qs.length)) = M1 at sb e ⊢
      replace hL : _ = L ++ rowOf "take" qs.length := congrArg (· ++ rowOf "take" qs.length) hL
      generalize L ++ rowOf "take" qs.length = L at e hL lL ⊢
      have hp1 := sb p _ hp
      walk_at "GO"
      intro D2 hD2
      refine lc_mapF (asR "write") hD2 (by rw [len_rangeL]; omega) (fun _ => trivial) ?_ ?_
      · intro x hx acc k hk
        obtain ⟨i, _, rfl⟩ := mem_range hx
        walk_at "GO"
        exact hk
      rw [map_asR, show Int.toNat ((ps.length : Nat) : Int) = ps.length from rfl]
      walk_at "GO"
      refine ⟨by rw [sizeLine_eq]; simp only [rowOf, List.length_append, List.length_map, List.length_range]; omega, ?_⟩
      intro E1 hE1
      have hM := sb.fresh hE1
      walk_at "GO"
      refine Qw.by (M' := M) (Weak.sub (MSub.del' (MSub.put' sb hM) hM)) ?_
      rw [← hL]
      unfold pool at hq
      have c : 0 < dk := of_decide_eq_true c
      rw [if_pos c] at hq
      exact hq
    · have lL : L.length ≤ 13 := by omega
      walk_at "GO"
      intro D2 hD2
      refine lc_mapF (asR "send") hD2 (by rw [len_rangeL]; omega) (fun _ => trivial) ?_ ?_
      · intro x hx acc k hk
        obtain ⟨i, _, rfl⟩ := mem_range hx
        walk_at "GO"
        exact hk
      rw [map_asR, show Int.toNat ((qs.length : Nat) : Int) = qs.length from rfl]
      walk_at "GO"
      refine ⟨by rw [sizeLine_eq]; simp only [rowOf, List.length_append, List.length_map, List.length_range]; omega, ?_⟩
      intro E1 hE1
      have hM := sb.fresh hE1
      have lL : (L ++ rowOf "send" qs.length).length ≤ 17 := by simp only [rowOf, List.length_append, List.length_map, List.length_range]; omega
      have sb := MSub.put' sb (p := E1) (o := .lst (L ++ rowOf "send" qs.length)) hM
      have e : put M1 E1 (.lst (L ++ rowOf "send" qs.length)) E1 = some (.lst (L ++ rowOf "send" qs.length)) := put_same
      generalize put M1 E1 (.lst (L ++ rowOf "send" qs.length)) = M1 at sb e ⊢
      replace hL : _ = L ++ rowOf "send" qs.length := congrArg (· ++ rowOf "send" qs.length) hL
      generalize L ++ rowOf "send" qs.length = L at e hL lL ⊢
      have hp1 := sb p _ hp
      walk_at "GO"
      intro D2 hD2
      refine lc_mapF (asR "strip") hD2 (by rw [len_rangeL]; omega) (fun _ => trivial) ?_ ?_
      · intro x hx acc k hk
        obtain ⟨i, _, rfl⟩ := mem_range hx
        walk_at "GO"
        exact hk
      rw [map_asR, show Int.toNat ((ts.length : Nat) : Int) = ts.length from rfl]
      walk_at "GO"
      refine ⟨by rw [sizeLine_eq]; simp only [rowOf, List.length_append, List.length_map, List.length_range]; omega, ?_⟩
      intro E1 hE1
      have hM := sb.fresh hE1
      have lL : (L ++ rowOf "strip" ts.length).length ≤ 21 := by simp only [rowOf, List.length_append, List.length_map, List.length_range]; omega
      have sb := MSub.put' sb (p := E1) (o := .lst (L ++ rowOf "strip" ts.length)) hM
      have e : put M1 E1 (.lst (L ++ rowOf "strip" ts.length)) E1 = some (.lst (L ++ rowOf "strip" ts.length)) := put_same
      generalize put M1 E1 (.lst (L ++ rowOf "strip" ts.length)) = M1 at sb e ⊢
      replace hL : _ = L ++ rowOf "strip" ts.length := congrArg (· ++ rowOf "strip" ts.length) hL
      generalize L ++ rowOf "strip" ts.length = L at e hL lL ⊢
      have hp1 := sb p _ hp
      walk_at "GO"
      intro D2 hD2
      refine lc_mapF (asR "take") hD2 (by rw [len_rangeL]; omega) (fun _ => trivial) ?_ ?_
      · intro x hx acc k hk
        obtain ⟨i, _, rfl⟩ := mem_range hx
        walk_at "GO"
        exact hk
      rw [map_asR, show Int.toNat ((qs.length : Nat) : Int) = qs.length from rfl]
      walk_at "GO"
      refine ⟨by rw [sizeLine_eq]; simp only [rowOf, List.length_append, List.length_map, List.length_range]; omega, ?_⟩
      intro E1 hE1
      have hM := sb.fresh hE1
      have lL : (L ++ rowOf "take" qs.length).length ≤ 25 := by simp only [rowOf, List.length_append, List.length_map, List.length_range]; omega
      have sb := MSub.put' sb (p := E1) (o := .lst (L ++ rowOf "take" qs.length)) hM
      have e : put M1 E1 (.lst (L ++ rowOf "take" qs.length)) E1 = some (.lst (L ++ rowOf "take" qs.length)) := put_same
      generalize put M1 E1 (.lst (L ++ rowOf "take" qs.length)) = M1 at sb e ⊢
      replace hL : _ = L ++ rowOf "take" qs.length := congrArg (· ++ rowOf "take" qs.length) hL
      generalize L ++ rowOf "take" qs.length = L at e hL lL ⊢
      have hp1 := sb p _ hp
      walk_at "GO"
      intro D2 hD2
      refine lc_mapF (asR "write") hD2 (by rw [len_rangeL]; omega) (fun _ => trivial) ?_ ?_
      · intro x hx acc k hk
        obtain ⟨i, _, rfl⟩ := mem_range hx
        walk_at "GO"
        exact hk
      rw [map_asR, show Int.toNat ((ps.length : Nat) : Int) = ps.length from rfl]
      walk_at "GO"
      refine ⟨by rw [sizeLine_eq]; simp only [rowOf, List.length_append, List.length_map, List.length_range]; omega, ?_⟩
      intro E1 hE1
      have hM := sb.fresh hE1
      walk_at "GO"
      refine Qw.by (M' := M) (Weak.sub (MSub.del' (MSub.put' sb hM) hM)) ?_
      rw [← hL]
      unfold pool at hq
      have c : ¬ 0 < dk := of_decide_eq_false c
      rw [if_neg c, List.append_nil] at hq
      exact hq
end HT
set_option Elab.async false
set_option linter.all false
set_option maxRecDepth 100000
set_option maxHeartbeats 400000
namespace HT
open PySem PySem.Spec PyProof.Rows L2 Z
local macro_rules | `(tactic| walk_at "HL") => `(tactic| (first | assumption | exact put_same | (rw [put_ne (by first | assumption | (apply Ne.symm; assumption))]; first | assumption | exact put_same | (rw [put_ne (by first | assumption | (apply Ne.symm; assumption))]; first | assumption | exact put_same | (rw [put_ne (by first | assumption | (apply Ne.symm; assumption))]; first | assumption | exact put_same)))))
local macro_rules | `(tactic| walk_at "ONE") => `(tactic| (first | (refine And.intro rfl ?_; (conv => whnf)) | (refine And.intro True.intro ?_; (conv => whnf)) | (refine And.intro (Exists.intro _ (by walk_at "HL")) ?_; (conv => whnf)) | (refine And.intro (by walk_at "HL") ?_; (conv => whnf)) | (refine And.intro (And.intro rfl rfl) ?_; (conv => whnf)) | (refine And.intro (Nat.le_of_ble_eq_true rfl) ?_; (conv => whnf)) | (refine And.intro (by decide) ?_; (conv => whnf)) | (refine And.intro (by omega) ?_; (conv => whnf)) | (refine Exists.intro _ (And.intro (by walk_at "HL") ?_); (conv => whnf)) | (refine Exists.intro _ (And.intro rfl ?_); (conv => whnf)) | (refine Exists.intro _ (Exists.intro _ (And.intro (by walk_at "HL") (And.intro rfl ?_))); (conv => whnf)) | (refine Exists.intro _ (Exists.intro _ (And.intro (by walk_at "HL") (And.intro (And.intro (by decide) rfl) ?_))); (conv => whnf)) | (refine Exists.intro _ (Exists.intro _ (And.intro rfl (And.intro rfl ?_))); (conv => whnf)) | (refine br_t rfl ?_; (conv => whnf)) | (refine br_f rfl ?_; (conv => whnf)) | (refine And.intro (And.intro (by decide +kernel) (by decide +kernel)) ?_; (conv => whnf)) | (refine br_t (by decide +kernel) ?_; (conv => whnf)) | (refine br_f (by decide +kernel) ?_; (conv => whnf))))
local macro_rules | `(tactic| walk_at "ONI") => `(tactic| (first | (refine Qw.here ?_; (conv => whnf)) | (refine br_t (decide_eq_true (by omega)) ?_; (conv => whnf)) | (refine br_f (decide_eq_false (by omega)) ?_; (conv => whnf)) | (refine And.intro rfl ?_; (conv => whnf)) | (refine And.intro True.intro ?_; (conv => whnf)) | (refine And.intro (Exists.intro _ (by walk_at "HL")) ?_; (conv => whnf)) | (refine And.intro (by walk_at "HL") ?_; (conv => whnf)) | (refine And.intro (And.intro rfl rfl) ?_; (conv => whnf)) | (refine And.intro (Nat.le_of_ble_eq_true rfl) ?_; (conv => whnf)) | (refine And.intro (by decide) ?_; (conv => whnf)) | (refine And.intro (by omega) ?_; (conv => whnf)) | (refine Exists.intro _ (And.intro (by walk_at "HL") ?_); (conv => whnf)) | (refine Exists.intro _ (And.intro rfl ?_); (conv => whnf)) | (refine Exists.intro _ (Exists.intro _ (And.intro (by walk_at "HL") (And.intro rfl ?_))); (conv => whnf)) | (refine Exists.intro _ (Exists.intro _ (And.intro (by walk_at "HL") (And.intro (And.intro (by decide) rfl) ?_))); (conv => whnf)) | (refine Exists.intro _ (Exists.intro _ (And.intro rfl (And.intro rfl ?_))); (conv => whnf)) | (refine br_t rfl ?_; (conv => whnf)) | (refine br_f rfl ?_; (conv => whnf)) | (refine And.intro (And.intro (by decide +kernel) (by decide +kernel)) ?_; (conv => whnf)) | (refine br_t (by decide +kernel) ?_; (conv => whnf)) | (refine br_f (by decide +kernel) ?_; (conv => whnf))))
local macro_rules | `(tactic| walk_at "GO") => `(tactic| (((conv => whnf); repeat (walk_at "ONE"))))
local macro_rules | `(tactic| walk_at "GI") => `(tactic| (((conv => whnf); repeat (walk_at "ONI"))))
local macro_rules | `(tactic| walk_at "BB") => `(tactic| (first | rfl | (simp only [Bool.and_eq_true, Bool.or_eq_true, Bool.not_eq_true', Bool.and_eq_false_iff, Bool.not_eq_false', decide_eq_true_eq, decide_eq_false_iff_not, peq_int, List.length_map]; omega)))
local macro_rules | `(tactic| walk_at "SRC") => `(tactic| (first | assumption | exact Src.put (by assumption) (by assumption) | exact Src.putN (by assumption) (by assumption) (by assumption) | exact Src.put (Src.put (by assumption) (by assumption)) (by assumption)))
theorem o_rights (Φ : Nat → ZSp) (h1 : Φ 1 = sp_draw) (vs : List PV) (M : Mh) (Q : ZQ) (E : ZX) (h : sp_rights vs M Q E) : vs.length = 2 ∧ Reach M fun M1 => inl Φ 4 2 b__law_rights vs M1 Q E := by
  obtain ⟨s, g, pl, rfl, hS, hl, hq⟩ := h
  refine ⟨rfl, .done ⟨rfl, ?_⟩⟩
  walk_at "GO"
  intro p hp
  walk_at "GO"
  refine it_ind (fun xs σ M' => ∃ (pre row : List PV) (o : Option PV), pl = pre ++ xs ∧ row.Sublist pre ∧ row.length ≤ 8 ∧ σ = [some (.ref s), some (.lst pl), some (.ref p), o] ∧ M' = put M p (.lst row)) ⟨[], [], none, rfl, List.nil_sublist _, by simp, rfl, rfl⟩ ?_ ?_
  · rintro σ M' ⟨pre, row, o, e, hs, h8, rfl, rfl⟩
    rw [List.append_nil] at e
    subst e
    walk_at "GO"
    rw [put_del hp]
    exact Qw.here (hq row hs h8)
  · rintro x r σ M' ⟨pre, row, o, e, hs, h8, rfl, rfl⟩ L hL
    have e' : pl = (pre ++ [x]) ++ r := by rw [e]; simp
    have hs' : row.Sublist (pre ++ [x]) := hs.trans (List.sublist_append_left _ _)
    walk_at "GO"
    refine br_intro (fun c => ?_) fun c => ?_
    · walk_at "GO"
      rw [h1]; refine ⟨_, g, _, rfl, (by walk_at "SRC"), by omega, fun r r0 r1 => ?_⟩
      walk_at "GO"
      refine br_intro (fun c2 => ?_) fun c2 => ?_
      · walk_at "GO"
        have c : (row.length : Int) < 8 := of_decide_eq_true c
        refine ⟨small (k := 8) (by omega), ?_⟩
        walk_at "GO"
        refine hL _ _ ⟨pre ++ [x], row ++ [x], _, e', List.Sublist.append hs (List.Sublist.refl _), by rw [List.length_append, List.length_singleton]; omega, rfl, put_put⟩
      · walk_at "GO"
        exact hL _ _ ⟨pre ++ [x], row, _, e', hs', h8, rfl, rfl⟩
    · walk_at "GO"
      exact hL _ _ ⟨pre ++ [x], row, _, e', hs', h8, rfl, rfl⟩
theorem o_plan (Φ : Nat → ZSp) (h1 : Φ 1 = sp_draw) (vs : List PV) (M : Mh) (Q : ZQ) (E : ZX) (h : sp_plan vs M Q E) : vs.length = 2 ∧ Reach M fun M1 => inl Φ 4 2 b__law_plan vs M1 Q E := by
  obtain ⟨s, g, n, rfl, hS, hn, hq⟩ := h
  refine ⟨rfl, .done ⟨rfl, ?_⟩⟩
  walk_at "GO"
  rw [h1]; refine ⟨_, g, _, rfl, (by walk_at "SRC"), by omega, fun r r0 r1 => ?_⟩
  walk_at "GO"
  refine br_intro (fun c => ?_) fun c => ?_
  · walk_at "GO"
    rw [h1]; refine ⟨_, g, _, rfl, (by walk_at "SRC"), by omega, fun r r0 r1 => ?_⟩
    walk_at "GO"
    exact Qw.here (hq _ (.inl ⟨_, by omega, rfl⟩))
  · walk_at "GO"
    intro p hp
    walk_at "GO"
    rw [h1]; refine ⟨_, g, _, rfl, (by walk_at "SRC"), by omega, fun r r0 r1 => ?_⟩
    rename_i k k0 k1
    walk_at "GO"
    refine it_ind (fun xs σ M' => ∃ (rows : List (Int × Int)) (o : Option PV), rows.length + xs.length = (1 + r).toNat ∧ (∀ t ∈ rows, (0 ≤ t.1 ∧ t.1 < n) ∧ 1 ≤ t.2 ∧ t.2 ≤ 12) ∧ σ = [some (.ref s), some (.int n), some (.ref p), o] ∧ M' = put M p (.lst (rows.map pr2))) ⟨[], none, by rw [len_rangeL]; simp, by simp, rfl, rfl⟩ ?_ ?_
    · rintro σ M' ⟨rows, o, e, hr, rfl, rfl⟩
      rw [List.length_nil] at e
      walk_at "GO"
      rw [put_del hp]
      refine Qw.here (hq _ (.inr ⟨rows, by omega, hr, rfl⟩))
    · rintro x rr σ M' ⟨rows, o, e, hr, rfl, rfl⟩ L hL
      rw [List.length_cons] at e
      walk_at "GO"
      rw [h1]; refine ⟨_, g, _, rfl, (by walk_at "SRC"), by omega, fun r r0 r1 => ?_⟩
      rename_i a a0 a1
      walk_at "GO"
      rw [h1]; refine ⟨_, g, _, rfl, (by walk_at "SRC"), by omega, fun r r0 r1 => ?_⟩
      rename_i b b0 b1
      walk_at "GO"
      refine ⟨small (k := 8) (by rw [List.length_map]; omega), ?_⟩
      walk_at "GO"
      refine hL _ _ ⟨rows ++ [(b, 1 + r)], _, by rw [List.length_append, List.length_singleton]; omega, ?_, rfl, ?_⟩
      · intro t ht
        rcases List.mem_append.mp ht with ht | ht
        · exact hr t ht
        · rw [List.mem_singleton] at ht; subst ht; exact ⟨⟨b0, b1⟩, by omega⟩
      · rw [put_put, List.map_append]; rfl
theorem pick4 {r : Int} (h0 : 0 ≤ r) (h1 : r < 4) : ∃ d : Int, pick [.int 0, .int 2, .int 3, .int 4] r = some (.int d) ∧ (d = 0 ∨ d = 2 ∨ d = 3 ∨ d = 4) := by
  obtain rfl | rfl | rfl | rfl : r = 0 ∨ r = 1 ∨ r = 2 ∨ r = 3 := by omega
  · exact ⟨0, rfl, by simp⟩
  · exact ⟨2, rfl, by simp⟩
  · exact ⟨3, rfl, by simp⟩
  · exact ⟨4, rfl, by simp⟩
theorem pick3 {r : Int} (h0 : 0 ≤ r) (h1 : r < 3) : ∃ d : PV, pick [.non, .int 0, .int 1] r = some d ∧ (d = .non ∨ d = .int 0 ∨ d = .int 1) := by
  obtain rfl | rfl | rfl : r = 0 ∨ r = 1 ∨ r = 2 := by omega
  · exact ⟨_, rfl, by simp⟩
  · exact ⟨_, rfl, by simp⟩
  · exact ⟨_, rfl, by simp⟩
theorem parts_end (Φ : Nat → ZSp) (h1 : Φ 1 = sp_draw) {M : Mh} {Q : ZQ} {E : ZX} {s g q : Addr} {o1 o2 o3 o4 o5 o7 o9 o10 : Option PV} {x0 x1 x2 x3 x4 x5 x6 x7 x8 x9 ou : PV} (hS : ∀ o, Src (put M q o) s g) (hq' : M q = none)
    (hq : ∀ b0 b1 b2 b3 : Bool, Q (.lst [x0, x1, x2, x3, x4, x5, x6, x7, x8, x9, ou, .bl b0, .bl b1, .bl b2, .bl b3]) M) :
    semSs Φ (RR E) (SL.tl (SL.tl (SL.tl (SL.tl (SL.tl (SL.tl (SL.tl (SL.tl (SL.tl (SL.tl (SL.tl (SL.tl (SL.tl (SL.tl (SL.tl b__law_parts))))))))))))))) (DD Q) [some (.ref s), o1, o2, o3, o4, o5, some (.ref q), o7, some ou, o9, o10] (put M q (.lst [x0, x1, x2, x3, x4, x5, x6, x7, x8, x9])) := by
  walk_at "GO"
  rw [put_put]
  rw [h1]
  refine ⟨s, g, _, rfl, hS _, by omega, fun a a0 a1 => ?_⟩
  walk_at "GO"
  rw [put_put]
  rw [h1]
  refine ⟨s, g, _, rfl, hS _, by omega, fun b b0 b1 => ?_⟩
  walk_at "GO"
  rw [put_put]
  rw [h1]
  refine ⟨s, g, _, rfl, hS _, by omega, fun c c0 c1 => ?_⟩
  walk_at "GO"
  rw [put_put]
  rw [h1]
  refine ⟨s, g, _, rfl, hS _, by omega, fun d d0 d1 => ?_⟩
  walk_at "GO"
  rw [put_put, put_del hq']
  exact Qw.here (hq _ _ _ _)
theorem parts_tail (Φ : Nat → ZSp) (h1 : Φ 1 = sp_draw) (h2 : Φ 2 = sp_pool) (h3 : Φ 3 = sp_rights) (h4 : Φ 4 = sp_plan) {M : Mh} {Q : ZQ} {E : ZX} {s g p : Addr} {ts : List (Int × Int)} {o : Option PV} (hS : Src M s g) (hp : M p = none)
    (t1 : 2 ≤ ts.length ∧ ts.length ≤ 4) (t2 : ∀ t ∈ ts, (0 ≤ t.1 ∧ t.1 ≤ 3) ∧ 0 ≤ t.2 ∧ t.2 ≤ 2) (t3 : ∃ t ∈ ts, ∃ u ∈ ts, t.1 ≠ u.1) (hq : ∀ p : Pt, p.Ok → Q (.lst p.items) M) :
    semSs Φ (RR E) (SL.tl (SL.tl (SL.tl b__law_parts))) (DD Q) [some (.ref s), some (.ref p), o, none, none, none, none, none, none, none, none] (put M p (.lst (ts.map pr2))) := by
  walk_at "GO"
  rw [put_del hp]
  walk_at "GO"
  rw [h1]; refine ⟨_, g, _, rfl, (by walk_at "SRC"), by omega, fun r r0 r1 => ?_⟩
  walk_at "GO"
  intro D hD
  refine lc_anyF (fun y => ∃ n : Int, (0 ≤ n ∧ n ≤ 1) ∧ y = .int n) hD (by rw [len_rangeL]; omega) (fun _ => trivial) ?_ ?_
  · intro x hx acc k hk
    walk_at "GO"
    rw [h1]; refine ⟨_, g, _, rfl, (by walk_at "SRC"), by omega, fun r r0 r1 => ?_⟩
    walk_at "GO"
    exact hk _ ⟨_, by omega, rfl⟩
  intro ys hys hyP
  rw [len_rangeL] at hys
  obtain ⟨ps, rfl, hps⟩ := pick_all PV.int hyP
  rw [List.length_map] at hys
  have p1 : ps.length ≤ 3 := by omega
  clear hys hyP
  walk_at "GO"
  rw [h1]; refine ⟨_, g, _, rfl, (by walk_at "SRC"), by omega, fun r r0 r1 => ?_⟩
  walk_at "GO"
  intro D2 hD2
  refine lc_anyF (fun y => ∃ n : Int, (1 ≤ n ∧ n ≤ 2) ∧ y = .int n) hD2 (by rw [len_rangeL]; omega) (fun _ => trivial) ?_ ?_
  · intro x hx acc k hk
    walk_at "GO"
    rw [h1]; refine ⟨_, g, _, rfl, (by walk_at "SRC"), by omega, fun r r0 r1 => ?_⟩
    walk_at "GO"
    exact hk _ ⟨_, by omega, rfl⟩
  intro ys hys hyP
  rw [len_rangeL] at hys
  obtain ⟨qs, rfl, hqs⟩ := pick_all PV.int hyP
  rw [List.length_map] at hys
  have q1 : qs.length ≤ 2 := by omega
  clear hys hyP
  walk_at "GO"
  rw [h1]; refine ⟨_, g, _, rfl, (by walk_at "SRC"), by omega, fun r r0 r1 => ?_⟩
  walk_at "GO"
  obtain ⟨dk, edk, hdk⟩ := pick4 r0 r1
  refine ⟨_, edk, ?_⟩
  walk_at "GO"
  rw [h1]; refine ⟨_, g, _, rfl, (by walk_at "SRC"), by omega, fun nl nl0 nl1 => ?_⟩
  walk_at "GO"
  rw [h1]; refine ⟨_, g, _, rfl, (by walk_at "SRC"), by omega, fun fr fr0 fr1 => ?_⟩
  walk_at "GO"
  intro q hq'
  obtain ⟨nl, rfl⟩ := Int.eq_ofNat_of_zero_le nl0
  have hQ : ∀ o : MO, Src (put M q o) s g := fun o => hS.put hq'
  walk_at "GO"
  rw [h2]
  refine ⟨q, _, _, _, nl, _, dk, rfl, put_same, ⟨by rw [List.length_map]; omega, by rw [List.length_map]; omega, by rw [List.length_map]; omega, by omega⟩, ?_⟩
  rw [List.length_map, List.length_map, List.length_map]
  have hpl : (pool ts.length ps.length qs.length nl dk).length ≤ 100 := by
    unfold pool rowOf
    simp only [List.length_append, List.length_map, List.length_range]
    split <;> simp <;> omega
  walk_at "GO"
  intro D3 hD3
  refine lc_anyF (fun y => ∃ row : List PV, (row.Sublist (pool ts.length ps.length qs.length nl dk) ∧ row.length ≤ 8) ∧ y = .lst row) hD3 (by rw [List.length_map]; omega) (fun _ => trivial) ?_ ?_
  · intro x hx acc k hk
    walk_at "GO"
    rw [h3]
    refine ⟨s, g, _, rfl, (hQ _).put hD3, hpl, fun row r1 r2 => ?_⟩
    walk_at "GO"
    exact hk _ ⟨row, ⟨r1, r2⟩, rfl⟩
  intro ys hys hyP
  obtain ⟨rs, rfl, hrs⟩ := pick_all PV.lst hyP
  rw [List.length_map, List.length_map] at hys
  walk_at "GO"
  intro D4 hD4
  rw [put_put] at hD4
  rw [put_put]
  refine lc_anyF (fun y => y = .non ∨ y = .int 0 ∨ y = .int 1) hD4 (by rw [List.length_map]; omega) (fun _ => trivial) ?_ ?_
  · intro x hx acc k hk
    walk_at "GO"
    rw [h1]
    refine ⟨s, g, _, rfl, (hQ _).put hD4, by omega, fun e e0 e1 => ?_⟩
    walk_at "GO"
    obtain ⟨d, ed, hd⟩ := pick3 e0 e1
    refine ⟨_, ed, ?_⟩
    walk_at "GO"
    exact hk _ hd
  intro ls hls lsP
  rw [List.length_map] at hls
  walk_at "GO"
  rw [put_put]
  rw [h1]
  refine ⟨s, g, _, rfl, hQ _, by omega, fun c0 c00 c01 => ?_⟩
  walk_at "GO"
  rw [h1]
  refine ⟨s, g, _, rfl, hQ _, by omega, fun c1 c10 c11 => ?_⟩
  walk_at "GO"
  rw [h1]
  refine ⟨s, g, _, rfl, hQ _, by omega, fun c2 c20 c21 => ?_⟩
  walk_at "GO"
  rw [put_put]
  rw [h4]
  refine ⟨s, g, _, rfl, hQ _, by rw [List.length_map]; omega, fun pl hpln => ?_⟩
  rw [List.length_map] at hpln
  walk_at "GO"
  rw [put_put]
  have fin : ∀ (M' : Mh) (ou : PV), OutP qs.length ou → ∀ b0 b1 b2 b3 : Bool, Q (.lst [.lst (ts.map pr2), .lst (ps.map PV.int), .lst (qs.map PV.int), .int nl, .int fr, .int dk, .lst (rs.map PV.lst), .lst ls, .tup [.int (1 + c0), .int c1, .int c2], pl, ou, .bl b0, .bl b1, .bl b2, .bl b3]) M := fun M' ou ho b0 b1 b2 b3 =>
    hq ⟨ts, ps, qs, nl, fr, dk, rs, ls, 1 + c0, c1, c2, pl, ou, b0, b1, b2, b3⟩ ⟨t1, t2, t3, p1, hps, q1, hqs, (show nl ≤ 2 by omega), (show 0 ≤ fr ∧ fr ≤ 3 by omega), hdk, hys, hrs, hls, lsP, (show (1 ≤ 1 + c0 ∧ 1 + c0 ≤ 3) ∧ (0 ≤ c1 ∧ c1 ≤ 3) ∧ 0 ≤ c2 ∧ c2 ≤ 2 by omega), hpln, ho⟩
  refine br_intro (fun cc => ?_) fun cc => ?_
  · walk_at "GO"
    rw [h1]
    refine ⟨s, g, _, rfl, hQ _, by omega, fun e e0 e1 => ?_⟩
    walk_at "GO"
    refine br_intro (fun c2 => ?_) fun c2 => ?_
    · walk_at "GO"
      have cq : (0 : Int) < ((qs.map PV.int).length : Nat) := of_decide_eq_true cc
      rw [List.length_map] at cq
      rw [h1]
      refine ⟨s, g, _, rfl, hQ _, ⟨by rw [List.length_map]; omega, by rw [List.length_map]; omega⟩, fun u u0 u1 => ?_⟩
      rw [List.length_map] at u1
      walk_at "GO"
      rw [h1]
      refine ⟨s, g, _, rfl, hQ _, by omega, fun v v0 v1 => ?_⟩
      refine parts_end Φ h1 hQ hq' (fin M _ (.inr ⟨u, 1 + v, ⟨u0, u1⟩, by omega, rfl⟩))
    · exact parts_end Φ h1 hQ hq' (fin M _ (.inl rfl))
  · refine br_f rfl ?_
    exact parts_end Φ h1 hQ hq' (fin M _ (.inl rfl))
/-- tasks of another side than the first -/
def other (a : Int) : PV → Option PV
  | .tup (.int b :: r) => if b = a then none else some (.tup (.int b :: r))
  | _ => none
theorem other_nil {a : Int} {ts : List (Int × Int)} (h : ((ts.map pr2).filterMap (other a)).length = 0) : ∀ t ∈ ts, t.1 = a := by
  intro t ht
  by_cases e : t.1 = a
  · exact e
  · exfalso
    have : pr2 t ∈ (ts.map pr2).filterMap (other a) := List.mem_filterMap.mpr ⟨pr2 t, List.mem_map.mpr ⟨t, ht, rfl⟩, by show (if t.1 = a then none else some _) = _; rw [if_neg e]⟩
    rw [List.length_eq_zero_iff] at h
    rw [h] at this
    cases this
theorem other_some {a : Int} {ts : List (Int × Int)} (h : ((ts.map pr2).filterMap (other a)).length ≠ 0) : ∃ t ∈ ts, t.1 ≠ a := by
  by_cases e : ∃ t ∈ ts, t.1 ≠ a
  · exact e
  · exfalso
    apply h
    rw [List.length_eq_zero_iff, List.filterMap_eq_nil_iff]
    intro x hx
    obtain ⟨t, ht, rfl⟩ := List.mem_map.mp hx
    have : t.1 = a := by
      by_cases q : t.1 = a
      · exact q
      · exact absurd ⟨t, ht, q⟩ e
    show (if t.1 = a then none else some _) = none
    rw [if_pos this]
theorem o_parts (Φ : Nat → ZSp) (h1 : Φ 1 = sp_draw) (h2 : Φ 2 = sp_pool) (h3 : Φ 3 = sp_rights) (h4 : Φ 4 = sp_plan) (vs : List PV) (M : Mh) (Q : ZQ) (E : ZX) (h : sp_parts vs M Q E) : vs.length = 1 ∧ Reach M fun M1 => inl Φ 11 1 b__law_parts vs M1 Q E := by
  obtain ⟨s, g, rfl, hS, hq⟩ := h
  refine ⟨rfl, .done ⟨rfl, ?_⟩⟩
  walk_at "GO"
  intro p hp
  walk_at "GO"
  rw [h1]; refine ⟨_, g, _, rfl, (by walk_at "SRC"), by omega, fun n n0 n1 => ?_⟩
  walk_at "GO"
  refine it_ind (fun xs σ M' => ∃ (ts : List (Int × Int)) (o : Option PV), ts.length + xs.length = (2 + n).toNat ∧ (∀ t ∈ ts, (0 ≤ t.1 ∧ t.1 ≤ 3) ∧ 0 ≤ t.2 ∧ t.2 ≤ 2) ∧ σ = [some (.ref s), some (.ref p), o, none, none, none, none, none, none, none, none] ∧ M' = put M p (.lst (ts.map pr2))) ⟨[], none, by rw [len_rangeL]; simp, by simp, rfl, rfl⟩ ?_ ?_
  · rintro σ M' ⟨ts, o, e, hr, rfl, rfl⟩
    rw [List.length_nil] at e
    have tl : 2 ≤ ts.length ∧ ts.length ≤ 4 := by omega
    cases ts with
    | nil => simp at tl
    | cons t0 ts =>
    walk_at "GO"
    intro D hD
    refine lc_fmF (other t0.1) hD (by rw [List.length_map]; omega) (fun acc => by rw [put_ne (none_put hD).1.symm]; exact put_same) ?_ ?_
    · intro x hx acc k hk
      obtain ⟨t, ht, rfl⟩ := List.mem_map.mp hx
      have hpD : p ≠ D := (none_put hD).1.symm
      walk_at "GO"
      refine br_nint (fun c => ?_) fun c => ?_
      · walk_at "GO"
        have eo : other t0.1 (pr2 t) = some (pr2 t) := by show (if t.1 = t0.1 then none else some _) = _; rw [if_neg c]
        rw [eo] at hk
        exact hk
      · walk_at "GO"
        have eo : other t0.1 (pr2 t) = none := by show (if t.1 = t0.1 then none else some _) = _; rw [if_pos c]
        rw [eo] at hk
        exact hk
    walk_at "GO"
    refine br_int (fun c => ?_) fun c => ?_
    · rcases ts with _ | ⟨t1, _ | ⟨t2, _ | ⟨t3, _ | ⟨t4, ts⟩⟩⟩⟩
      · simp at tl
      · walk_at "GO"
        rw [h1]
        refine ⟨s, g, _, rfl, hS.put hp, by omega, fun r r0 r1 => ?_⟩
        have r00 := (hr t0 (by simp)).1
        ((conv => whnf); iterate 5 (walk_at "ONE"))
        rw [put_put]
        refine parts_tail Φ h1 h2 h3 h4 (ts := [t0, ((t0.1 + 1 + r) % 4, t1.2)]) (o := o) hS hp (by simp) ?_ ⟨t0, by simp, ((t0.1 + 1 + r) % 4, t1.2), by simp, ?_⟩ hq
        · intro t ht
          simp only [List.mem_cons, List.not_mem_nil, or_false] at ht
          rcases ht with rfl | rfl
          · exact hr _ (by simp)
          · exact ⟨by show 0 ≤ (t0.1 + 1 + r) % 4 ∧ (t0.1 + 1 + r) % 4 ≤ 3; omega, (hr t1 (by simp)).2⟩
        · show t0.1 ≠ (t0.1 + 1 + r) % 4
          omega
      · walk_at "GO"
        rw [h1]
        refine ⟨s, g, _, rfl, hS.put hp, by omega, fun r r0 r1 => ?_⟩
        have r00 := (hr t0 (by simp)).1
        ((conv => whnf); iterate 5 (walk_at "ONE"))
        rw [put_put]
        refine parts_tail Φ h1 h2 h3 h4 (ts := [t0, t1, ((t0.1 + 1 + r) % 4, t2.2)]) (o := o) hS hp (by simp) ?_ ⟨t0, by simp, ((t0.1 + 1 + r) % 4, t2.2), by simp, ?_⟩ hq
        · intro t ht
          simp only [List.mem_cons, List.not_mem_nil, or_false] at ht
          rcases ht with rfl | rfl | rfl
          · exact hr _ (by simp)
          · exact hr _ (by simp)
          · exact ⟨by show 0 ≤ (t0.1 + 1 + r) % 4 ∧ (t0.1 + 1 + r) % 4 ≤ 3; omega, (hr t2 (by simp)).2⟩
        · show t0.1 ≠ (t0.1 + 1 + r) % 4
          omega
      · walk_at "GO"
        rw [h1]
        refine ⟨s, g, _, rfl, hS.put hp, by omega, fun r r0 r1 => ?_⟩
        have r00 := (hr t0 (by simp)).1
        ((conv => whnf); iterate 5 (walk_at "ONE"))
        rw [put_put]
        refine parts_tail Φ h1 h2 h3 h4 (ts := [t0, t1, t2, ((t0.1 + 1 + r) % 4, t3.2)]) (o := o) hS hp (by simp) ?_ ⟨t0, by simp, ((t0.1 + 1 + r) % 4, t3.2), by simp, ?_⟩ hq
        · intro t ht
          simp only [List.mem_cons, List.not_mem_nil, or_false] at ht
          rcases ht with rfl | rfl | rfl | rfl
          · exact hr _ (by simp)
          · exact hr _ (by simp)
          · exact hr _ (by simp)
          · exact ⟨by show 0 ≤ (t0.1 + 1 + r) % 4 ∧ (t0.1 + 1 + r) % 4 ≤ 3; omega, (hr t3 (by simp)).2⟩
        · show t0.1 ≠ (t0.1 + 1 + r) % 4
          omega
      · exfalso; simp at tl
    · have c' : ((t0 :: ts).map pr2 |>.filterMap (other t0.1)).length ≠ 0 := by omega
      obtain ⟨t, ht, hne⟩ := other_some c'
      exact parts_tail Φ h1 h2 h3 h4 (ts := t0 :: ts) (o := o) hS hp tl hr ⟨t, ht, t0, by simp, hne⟩ hq
  · rintro x rr σ M' ⟨rows, o, e, hr, rfl, rfl⟩ L hL
    rw [List.length_cons] at e
    walk_at "GO"
    rw [h1]; refine ⟨_, g, _, rfl, (by walk_at "SRC"), by omega, fun a a0 a1 => ?_⟩
    walk_at "GO"
    rw [h1]; refine ⟨_, g, _, rfl, (by walk_at "SRC"), by omega, fun b b0 b1 => ?_⟩
    walk_at "GO"
    refine ⟨small (k := 8) (by rw [List.length_map]; omega), ?_⟩
    walk_at "GO"
    refine hL _ _ ⟨rows ++ [(a, b)], _, by rw [List.length_append, List.length_singleton]; omega, ?_, rfl, ?_⟩
    · intro t ht
      rcases List.mem_append.mp ht with ht | ht
      · exact hr t ht
      · rw [List.mem_singleton] at ht; subst ht; exact ⟨by omega, by omega⟩
    · rw [put_put, List.map_append]; rfl
end HT
set_option Elab.async false
set_option linter.all false
set_option maxRecDepth 100000
set_option maxHeartbeats 400000
namespace HT
open PySem PySem.Spec PyProof.Rows L2 Z
local macro_rules | `(tactic| walk_at "HL") => `(tactic| (first | assumption | exact put_same | (rw [put_ne (by first | assumption | (apply Ne.symm; assumption))]; first | assumption | exact put_same | (rw [put_ne (by first | assumption | (apply Ne.symm; assumption))]; first | assumption | exact put_same | (rw [put_ne (by first | assumption | (apply Ne.symm; assumption))]; first | assumption | exact put_same)))))
local macro_rules | `(tactic| walk_at "ONE") => `(tactic| (first | (refine And.intro rfl ?_; (conv => whnf)) | (refine And.intro True.intro ?_; (conv => whnf)) | (refine And.intro (Exists.intro _ (by walk_at "HL")) ?_; (conv => whnf)) | (refine And.intro (by walk_at "HL") ?_; (conv => whnf)) | (refine And.intro (And.intro rfl rfl) ?_; (conv => whnf)) | (refine And.intro (Nat.le_of_ble_eq_true rfl) ?_; (conv => whnf)) | (refine And.intro (by decide) ?_; (conv => whnf)) | (refine And.intro (by omega) ?_; (conv => whnf)) | (refine Exists.intro _ (And.intro (by walk_at "HL") ?_); (conv => whnf)) | (refine Exists.intro _ (And.intro rfl ?_); (conv => whnf)) | (refine Exists.intro _ (Exists.intro _ (And.intro (by walk_at "HL") (And.intro rfl ?_))); (conv => whnf)) | (refine Exists.intro _ (Exists.intro _ (And.intro (by walk_at "HL") (And.intro (And.intro (by decide) rfl) ?_))); (conv => whnf)) | (refine Exists.intro _ (Exists.intro _ (And.intro rfl (And.intro rfl ?_))); (conv => whnf)) | (refine br_t rfl ?_; (conv => whnf)) | (refine br_f rfl ?_; (conv => whnf)) | (refine And.intro (And.intro (by decide +kernel) (by decide +kernel)) ?_; (conv => whnf)) | (refine br_t (by decide +kernel) ?_; (conv => whnf)) | (refine br_f (by decide +kernel) ?_; (conv => whnf))))
local macro_rules | `(tactic| walk_at "ONI") => `(tactic| (first | (refine Qw.here ?_; (conv => whnf)) | (refine br_t (decide_eq_true (by omega)) ?_; (conv => whnf)) | (refine br_f (decide_eq_false (by omega)) ?_; (conv => whnf)) | (refine And.intro rfl ?_; (conv => whnf)) | (refine And.intro True.intro ?_; (conv => whnf)) | (refine And.intro (Exists.intro _ (by walk_at "HL")) ?_; (conv => whnf)) | (refine And.intro (by walk_at "HL") ?_; (conv => whnf)) | (refine And.intro (And.intro rfl rfl) ?_; (conv => whnf)) | (refine And.intro (Nat.le_of_ble_eq_true rfl) ?_; (conv => whnf)) | (refine And.intro (by decide) ?_; (conv => whnf)) | (refine And.intro (by omega) ?_; (conv => whnf)) | (refine Exists.intro _ (And.intro (by walk_at "HL") ?_); (conv => whnf)) | (refine Exists.intro _ (And.intro rfl ?_); (conv => whnf)) | (refine Exists.intro _ (Exists.intro _ (And.intro (by walk_at "HL") (And.intro rfl ?_))); (conv => whnf)) | (refine Exists.intro _ (Exists.intro _ (And.intro (by walk_at "HL") (And.intro (And.intro (by decide) rfl) ?_))); (conv => whnf)) | (refine Exists.intro _ (Exists.intro _ (And.intro rfl (And.intro rfl ?_))); (conv => whnf)) | (refine br_t rfl ?_; (conv => whnf)) | (refine br_f rfl ?_; (conv => whnf)) | (refine And.intro (And.intro (by decide +kernel) (by decide +kernel)) ?_; (conv => whnf)) | (refine br_t (by decide +kernel) ?_; (conv => whnf)) | (refine br_f (by decide +kernel) ?_; (conv => whnf))))
local macro_rules | `(tactic| walk_at "GO") => `(tactic| (((conv => whnf); repeat (walk_at "ONE"))))
local macro_rules | `(tactic| walk_at "GI") => `(tactic| (((conv => whnf); repeat (walk_at "ONI"))))
local macro_rules | `(tactic| walk_at "BB") => `(tactic| (first | rfl | (simp only [Bool.and_eq_true, Bool.or_eq_true, Bool.not_eq_true', Bool.and_eq_false_iff, Bool.not_eq_false', decide_eq_true_eq, decide_eq_false_iff_not, peq_int, List.length_map]; omega)))
mutual
/-- plain data, at most so deep, lists frozen -/
def okC : Nat → PV → Bool
  | _, .non => true
  | _, .bl _ => true
  | _, .int _ => true
  | _, .str _ => true
  | n + 1, .tup xs => decide (xs.length ≤ 1000) && okCs n xs
  | n + 1, .lst xs => decide (xs.length ≤ 1000) && okCs n xs
  | _, _ => false
def okCs : Nat → List PV → Bool
  | _, [] => true
  | n, x :: xs => okC n x && okCs n xs
end
theorem okCs_mem {n : Nat} : ∀ {xs : List PV}, okCs n xs = true → ∀ x ∈ xs, okC n x = true
  | [], _, x, hx => by cases hx
  | y :: ys, h, x, hx => by
    obtain ⟨h1, h2⟩ := ba (show (okC n y && okCs n ys) = true from h)
    rcases List.mem_cons.mp hx with rfl | hx
    · exact h1
    · exact okCs_mem h2 x hx
def sp_copy (n : Nat) : ZSp := fun vs M Q _ => ∃ x, vs = [x] ∧ okC n x = true ∧ Q x M
theorem o_copy_0 (Φ : Nat → ZSp) (vs : List PV) (M : Mh) (Q : ZQ) (E : ZX) (h : sp_copy 0 vs M Q E) : vs.length = 1 ∧ Reach M fun M1 => inl Φ 2 1 b__law_copy_0 vs M1 Q E := by
  obtain ⟨x, rfl, hx, hq⟩ := h
  refine ⟨rfl, .done ⟨rfl, ?_⟩⟩
  cases x with
  | non => walk_at "GO"; exact Qw.here hq
  | bl _ => walk_at "GO"; exact Qw.here hq
  | int _ => walk_at "GO"; exact Qw.here hq
  | str _ => walk_at "GO"; exact Qw.here hq
  | _ => cases hx
theorem o_copy_1 (Φ : Nat → ZSp) (h1 : Φ 32 = sp_copy 0) (vs : List PV) (M : Mh) (Q : ZQ) (E : ZX) (h : sp_copy 1 vs M Q E) : vs.length = 1 ∧ Reach M fun M1 => inl Φ 2 1 b__law_copy_1 vs M1 Q E := by
  obtain ⟨x, rfl, hx, hq⟩ := h
  refine ⟨rfl, .done ⟨rfl, ?_⟩⟩
  cases x with
  | non => walk_at "GO"; exact Qw.here hq
  | bl _ => walk_at "GO"; exact Qw.here hq
  | int _ => walk_at "GO"; exact Qw.here hq
  | str _ => walk_at "GO"; exact Qw.here hq
  | lst xs =>
    obtain ⟨hl, hx⟩ := ba (show (decide (xs.length ≤ 1000) && okCs 0 xs) = true from hx)
    walk_at "GO"
    intro D hD
    refine lc_mapF id hD (of_decide_eq_true hl) (fun _ => trivial) ?_ ?_
    · intro x hx' acc k hk
      walk_at "GO"
      rw [h1]
      exact ⟨x, rfl, okCs_mem hx x hx', hk⟩
    · rw [List.map_id]
      exact Qw.here hq
  | tup xs =>
    obtain ⟨hl, hx⟩ := ba (show (decide (xs.length ≤ 1000) && okCs 0 xs) = true from hx)
    walk_at "GO"
    intro D hD
    refine lc_mapF id hD (of_decide_eq_true hl) (fun _ => trivial) ?_ ?_
    · intro x hx' acc k hk
      walk_at "GO"
      rw [h1]
      exact ⟨x, rfl, okCs_mem hx x hx', hk⟩
    · rw [List.map_id]
      walk_at "GO"
      exact Qw.here hq
  | _ => cases hx
theorem o_copy_2 (Φ : Nat → ZSp) (h1 : Φ 33 = sp_copy 1) (vs : List PV) (M : Mh) (Q : ZQ) (E : ZX) (h : sp_copy 2 vs M Q E) : vs.length = 1 ∧ Reach M fun M1 => inl Φ 2 1 b__law_copy_2 vs M1 Q E := by
  obtain ⟨x, rfl, hx, hq⟩ := h
  refine ⟨rfl, .done ⟨rfl, ?_⟩⟩
  cases x with
  | non => walk_at "GO"; exact Qw.here hq
  | bl _ => walk_at "GO"; exact Qw.here hq
  | int _ => walk_at "GO"; exact Qw.here hq
  | str _ => walk_at "GO"; exact Qw.here hq
  | lst xs =>
    obtain ⟨hl, hx⟩ := ba (show (decide (xs.length ≤ 1000) && okCs 1 xs) = true from hx)
    walk_at "GO"
    intro D hD
    refine lc_mapF id hD (of_decide_eq_true hl) (fun _ => trivial) ?_ ?_
    · intro x hx' acc k hk
      walk_at "GO"
      rw [h1]
      exact ⟨x, rfl, okCs_mem hx x hx', hk⟩
    · rw [List.map_id]
      exact Qw.here hq
  | tup xs =>
    obtain ⟨hl, hx⟩ := ba (show (decide (xs.length ≤ 1000) && okCs 1 xs) = true from hx)
    walk_at "GO"
    intro D hD
    refine lc_mapF id hD (of_decide_eq_true hl) (fun _ => trivial) ?_ ?_
    · intro x hx' acc k hk
      walk_at "GO"
      rw [h1]
      exact ⟨x, rfl, okCs_mem hx x hx', hk⟩
    · rw [List.map_id]
      walk_at "GO"
      exact Qw.here hq
  | _ => cases hx
theorem o_copy_3 (Φ : Nat → ZSp) (h1 : Φ 34 = sp_copy 2) (vs : List PV) (M : Mh) (Q : ZQ) (E : ZX) (h : sp_copy 3 vs M Q E) : vs.length = 1 ∧ Reach M fun M1 => inl Φ 2 1 b__law_copy_3 vs M1 Q E := by
  obtain ⟨x, rfl, hx, hq⟩ := h
  refine ⟨rfl, .done ⟨rfl, ?_⟩⟩
  cases x with
  | non => walk_at "GO"; exact Qw.here hq
  | bl _ => walk_at "GO"; exact Qw.here hq
  | int _ => walk_at "GO"; exact Qw.here hq
  | str _ => walk_at "GO"; exact Qw.here hq
  | lst xs =>
    obtain ⟨hl, hx⟩ := ba (show (decide (xs.length ≤ 1000) && okCs 2 xs) = true from hx)
    walk_at "GO"
    intro D hD
    refine lc_mapF id hD (of_decide_eq_true hl) (fun _ => trivial) ?_ ?_
    · intro x hx' acc k hk
      walk_at "GO"
      rw [h1]
      exact ⟨x, rfl, okCs_mem hx x hx', hk⟩
    · rw [List.map_id]
      exact Qw.here hq
  | tup xs =>
    obtain ⟨hl, hx⟩ := ba (show (decide (xs.length ≤ 1000) && okCs 2 xs) = true from hx)
    walk_at "GO"
    intro D hD
    refine lc_mapF id hD (of_decide_eq_true hl) (fun _ => trivial) ?_ ?_
    · intro x hx' acc k hk
      walk_at "GO"
      rw [h1]
      exact ⟨x, rfl, okCs_mem hx x hx', hk⟩
    · rw [List.map_id]
      walk_at "GO"
      exact Qw.here hq
  | _ => cases hx
theorem o_copy_4 (Φ : Nat → ZSp) (h1 : Φ 35 = sp_copy 3) (vs : List PV) (M : Mh) (Q : ZQ) (E : ZX) (h : sp_copy 4 vs M Q E) : vs.length = 1 ∧ Reach M fun M1 => inl Φ 2 1 b__law_copy_4 vs M1 Q E := by
  obtain ⟨x, rfl, hx, hq⟩ := h
  refine ⟨rfl, .done ⟨rfl, ?_⟩⟩
  cases x with
  | non => walk_at "GO"; exact Qw.here hq
  | bl _ => walk_at "GO"; exact Qw.here hq
  | int _ => walk_at "GO"; exact Qw.here hq
  | str _ => walk_at "GO"; exact Qw.here hq
  | lst xs =>
    obtain ⟨hl, hx⟩ := ba (show (decide (xs.length ≤ 1000) && okCs 3 xs) = true from hx)
    walk_at "GO"
    intro D hD
    refine lc_mapF id hD (of_decide_eq_true hl) (fun _ => trivial) ?_ ?_
    · intro x hx' acc k hk
      walk_at "GO"
      rw [h1]
      exact ⟨x, rfl, okCs_mem hx x hx', hk⟩
    · rw [List.map_id]
      exact Qw.here hq
  | tup xs =>
    obtain ⟨hl, hx⟩ := ba (show (decide (xs.length ≤ 1000) && okCs 3 xs) = true from hx)
    walk_at "GO"
    intro D hD
    refine lc_mapF id hD (of_decide_eq_true hl) (fun _ => trivial) ?_ ?_
    · intro x hx' acc k hk
      walk_at "GO"
      rw [h1]
      exact ⟨x, rfl, okCs_mem hx x hx', hk⟩
    · rw [List.map_id]
      walk_at "GO"
      exact Qw.here hq
  | _ => cases hx
end HT
set_option Elab.async false
set_option linter.all false
set_option maxRecDepth 100000
set_option maxHeartbeats 400000
namespace HT
open PySem PySem.Spec PyProof.Rows L2 Z
/-! ### what the build's checks promise -/
def sp_good_tasks : ZSp := fun vs M Q _ => ∃ ts : List (Int × Int), vs = [.lst (ts.map pr2)] ∧ (2 ≤ ts.length ∧ ts.length ≤ 4) ∧ (∀ t ∈ ts, (0 ≤ t.1 ∧ t.1 ≤ 3) ∧ 0 ≤ t.2 ∧ t.2 ≤ 2) ∧ (∃ t ∈ ts, ∃ u ∈ ts, t.1 ≠ u.1) ∧ Q (.bl true) M
def sp_good_pages : ZSp := fun vs M Q _ => ∃ ps : List Int, vs = [.lst (ps.map PV.int)] ∧ ps.length ≤ 3 ∧ (∀ n ∈ ps, 0 ≤ n ∧ n ≤ 1) ∧ Q (.bl true) M
def sp_good_ports : ZSp := fun vs M Q _ => ∃ qs : List Int, vs = [.lst (qs.map PV.int)] ∧ qs.length ≤ 2 ∧ (∀ n ∈ qs, 1 ≤ n ∧ n ≤ 2) ∧ Q (.bl true) M
def limK : List Key := (["hand", "lock", "read", "seek", "send", "strip", "take", "write"] : List Str).map Sum.inr
def lims (nt np nq nl : Nat) (dk : Int) : PV := .dct limK [.int nt, .int nl, .int np, .int (if 0 < dk then 1 else 0), .int nq, .int nt, .int nq, .int np]
def sp_limits_of : ZSp := fun vs M Q _ => ∃ (nt np nq nl : Nat) (dk : Int), vs = [.int nt, .int np, .int nq, .int nl, .int dk] ∧ Q (lims nt np nq nl dk) M
def ltR (x y : PV) : Prop := ∃ xs ys, x = .tup xs ∧ y = .tup ys ∧ okD 40 (.tup xs) = true ∧ okD 40 (.tup ys) = true ∧ palikes xs ys = true ∧ plts xs ys = true
def sp_climbs : ZSp := fun vs M Q _ => ∃ row : List PV, vs = [.lst row] ∧ row.length ≤ 100 ∧ row.Pairwise ltR ∧ Q (.bl true) M
def sp_good_rights : ZSp := fun vs M Q _ => ∃ (nt np nq nl : Nat) (dk : Int) (rs : List (List PV)), vs = [lims nt np nq nl dk, .lst (rs.map PV.lst)] ∧ (rs.length = nt ∧ nt ≤ 4) ∧ (∀ r ∈ rs, r.Sublist (pool nt np nq nl dk) ∧ r.length ≤ 8) ∧ Q (.bl true) M
def sp_good_lines : ZSp := fun vs M Q _ => ∃ (np : Nat) (ls : List PV), vs = [.int np, .lst ls] ∧ (ls.length = np ∧ np ≤ 3) ∧ (∀ x ∈ ls, x = .non ∨ x = .int 0 ∨ x = .int 1) ∧ Q (.bl true) M
def sp_good_plan : ZSp := fun vs M Q _ => ∃ (n : Int) (p : PV), vs = [.int n, p] ∧ PlanP n p ∧ Q (.bl true) M
/-- a plan with its rows as a tuple -/
def frz (p : PV) : PV := match p with
  | .tup [.str s, .lst rows] => .tup [.str s, .tup rows]
  | p => p
def total (p : PV) : Int := match p with
  | .tup [_, .tup rows] => (rows.map fun r => match r with | .tup [_, .int b] => b | _ => 0).sum
  | _ => 1
def every (p : PV) : Int := match p with
  | .tup [_, .int b] => b
  | _ => 1
def per (t e : Int) : Int := if t % e = 0 then t else if (t + t) % e = 0 then t + t else if (t + t + t) % e = 0 then t + t + t else t + t + t + t
def sp_period_of : ZSp := fun vs M Q _ => ∃ (n : Int) (k : Nat) (p ou : PV), vs = [frz p, ou] ∧ PlanP n p ∧ OutP k ou ∧ Q (.int (per (total (frz p)) (every ou))) M
/-- the sides in their order -/
def sidesOf (ts : List (Int × Int)) : List Int := ([0, 1, 2, 3] : List Int).filter fun k => ts.any fun t => decide (t.1 = k)
def Pt.flds (p : Pt) : List PV := [lims p.ts.length p.ps.length p.qs.length p.nl p.dk, .tup (p.ts.map pr2), .tup (p.ps.map PV.int), .tup (p.qs.map PV.int), .int p.nl, .int p.fr, .int p.dk, .tup (p.rs.map PV.tup), .tup p.ls, p.cs, frz p.pl, p.ou, .bl p.b0, .bl p.b1, .bl p.b2, .bl p.b3,
  .tup ((sidesOf p.ts).map PV.int), .int (per (total (frz p.pl)) (every p.ou)), .int (p.c0 + (if p.dk - 1 > p.c1 then p.dk - 1 else p.c1)),
  .tup [.tup [.tup (p.ts.map pr2), .tup (p.ps.map PV.int), .tup (p.qs.map PV.int), .int p.nl, .int p.fr, .int p.dk], .tup [.tup (p.rs.map PV.tup), .tup p.ls, p.cs, frz p.pl, p.ou], .tup [.bl p.b0, .bl p.b1, .bl p.b2, .bl p.b3]]]
def sp_init : ZSp := fun vs M Q _ => ∃ (a : Addr) (p : Pt), vs = .ref a :: p.items ∧ p.Ok ∧ M a = some (.ins 0 (List.replicate 20 none)) ∧ Q .non (put M a (.ins 0 (p.flds.map some)))
end HT
set_option Elab.async false
set_option linter.all false
set_option maxRecDepth 100000
set_option maxHeartbeats 400000
namespace HT
open PySem PySem.Spec PyProof.Rows L2 Z
local macro_rules | `(tactic| walk_at "HL") => `(tactic| (first | assumption | exact put_same | (rw [put_ne (by first | assumption | (apply Ne.symm; assumption))]; first | assumption | exact put_same | (rw [put_ne (by first | assumption | (apply Ne.symm; assumption))]; first | assumption | exact put_same | (rw [put_ne (by first | assumption | (apply Ne.symm; assumption))]; first | assumption | exact put_same)))))
local macro_rules | `(tactic| walk_at "ONE") => `(tactic| (first | (refine And.intro rfl ?_; (conv => whnf)) | (refine And.intro True.intro ?_; (conv => whnf)) | (refine And.intro (Exists.intro _ (by walk_at "HL")) ?_; (conv => whnf)) | (refine And.intro (by walk_at "HL") ?_; (conv => whnf)) | (refine And.intro (And.intro rfl rfl) ?_; (conv => whnf)) | (refine And.intro (Nat.le_of_ble_eq_true rfl) ?_; (conv => whnf)) | (refine And.intro (by decide) ?_; (conv => whnf)) | (refine And.intro (by omega) ?_; (conv => whnf)) | (refine Exists.intro _ (And.intro (by walk_at "HL") ?_); (conv => whnf)) | (refine Exists.intro _ (And.intro rfl ?_); (conv => whnf)) | (refine Exists.intro _ (Exists.intro _ (And.intro (by walk_at "HL") (And.intro rfl ?_))); (conv => whnf)) | (refine Exists.intro _ (Exists.intro _ (And.intro (by walk_at "HL") (And.intro (And.intro (by decide) rfl) ?_))); (conv => whnf)) | (refine Exists.intro _ (Exists.intro _ (And.intro rfl (And.intro rfl ?_))); (conv => whnf)) | (refine br_t rfl ?_; (conv => whnf)) | (refine br_f rfl ?_; (conv => whnf)) | (refine And.intro (And.intro (by decide +kernel) (by decide +kernel)) ?_; (conv => whnf)) | (refine br_t (by decide +kernel) ?_; (conv => whnf)) | (refine br_f (by decide +kernel) ?_; (conv => whnf))))
local macro_rules | `(tactic| walk_at "ONI") => `(tactic| (first | (refine Qw.here ?_; (conv => whnf)) | (refine br_t (decide_eq_true (by omega)) ?_; (conv => whnf)) | (refine br_f (decide_eq_false (by omega)) ?_; (conv => whnf)) | (refine And.intro rfl ?_; (conv => whnf)) | (refine And.intro True.intro ?_; (conv => whnf)) | (refine And.intro (Exists.intro _ (by walk_at "HL")) ?_; (conv => whnf)) | (refine And.intro (by walk_at "HL") ?_; (conv => whnf)) | (refine And.intro (And.intro rfl rfl) ?_; (conv => whnf)) | (refine And.intro (Nat.le_of_ble_eq_true rfl) ?_; (conv => whnf)) | (refine And.intro (by decide) ?_; (conv => whnf)) | (refine And.intro (by omega) ?_; (conv => whnf)) | (refine Exists.intro _ (And.intro (by walk_at "HL") ?_); (conv => whnf)) | (refine Exists.intro _ (And.intro rfl ?_); (conv => whnf)) | (refine Exists.intro _ (Exists.intro _ (And.intro (by walk_at "HL") (And.intro rfl ?_))); (conv => whnf)) | (refine Exists.intro _ (Exists.intro _ (And.intro (by walk_at "HL") (And.intro (And.intro (by decide) rfl) ?_))); (conv => whnf)) | (refine Exists.intro _ (Exists.intro _ (And.intro rfl (And.intro rfl ?_))); (conv => whnf)) | (refine br_t rfl ?_; (conv => whnf)) | (refine br_f rfl ?_; (conv => whnf)) | (refine And.intro (And.intro (by decide +kernel) (by decide +kernel)) ?_; (conv => whnf)) | (refine br_t (by decide +kernel) ?_; (conv => whnf)) | (refine br_f (by decide +kernel) ?_; (conv => whnf))))
local macro_rules | `(tactic| walk_at "GO") => `(tactic| (((conv => whnf); repeat (walk_at "ONE"))))
local macro_rules | `(tactic| walk_at "GI") => `(tactic| (((conv => whnf); repeat (walk_at "ONI"))))
local macro_rules | `(tactic| walk_at "BB") => `(tactic| (first | rfl | (simp only [Bool.and_eq_true, Bool.or_eq_true, Bool.not_eq_true', Bool.and_eq_false_iff, Bool.not_eq_false', decide_eq_true_eq, decide_eq_false_iff_not, peq_int, List.length_map]; omega)))
/-! ### small checks -/
def isI : PV → Option Bool
  | .int _ => some true
  | .bl _ => some false
  | .non => some false
  | .str _ => some false
  | .tup _ => some false
  | .lst _ => some false
  | _ => none
def sp_is_integer : ZSp := fun vs M Q _ => ∃ x, vs = [x] ∧ ∃ b, isI x = some b ∧ Q (.bl b) M
def sp_in_range : ZSp := fun vs M Q _ => ∃ i lo hi : Int, vs = [.int i, .int lo, .int hi] ∧ Q (.bl (decide (lo ≤ i ∧ i ≤ hi))) M
def sp_is_value : ZSp := fun vs M Q _ => ∃ i : Int, vs = [.int i] ∧ Q (.bl (decide (0 ≤ i ∧ i ≤ 1))) M
def sp_is_index : ZSp := fun vs M Q _ => ∃ i n : Int, vs = [.int i, .int n] ∧ Q (.bl (decide (0 ≤ i ∧ i ≤ n - 1))) M
def sp_is_tuple : ZSp := fun vs M Q _ => ∃ (xs : List PV) (n : Int), vs = [.tup xs, .int n] ∧ Q (.bl (decide ((xs.length : Int) = n))) M
def sp_is_flag : ZSp := fun vs M Q _ => ∃ b, vs = [.bl b] ∧ Q (.bl true) M
theorem o_is_integer (Φ : Nat → ZSp) (vs : List PV) (M : Mh) (Q : ZQ) (E : ZX) (h : sp_is_integer vs M Q E) : vs.length = 1 ∧ Reach M fun M1 => inl Φ 1 1 b_is_integer vs M1 Q E := by
  obtain ⟨x, rfl, b, hb, hq⟩ := h
  refine ⟨rfl, .done ⟨rfl, ?_⟩⟩
  cases x <;> first | (cases hb; walk_at "GO"; exact Qw.here hq) | cases hb
theorem o_is_flag (Φ : Nat → ZSp) (vs : List PV) (M : Mh) (Q : ZQ) (E : ZX) (h : sp_is_flag vs M Q E) : vs.length = 1 ∧ Reach M fun M1 => inl Φ 1 1 b_is_flag vs M1 Q E := by
  obtain ⟨x, rfl, hq⟩ := h
  refine ⟨rfl, .done ⟨rfl, ?_⟩⟩
  walk_at "GO"
  exact Qw.here hq
theorem o_is_tuple (Φ : Nat → ZSp) (vs : List PV) (M : Mh) (Q : ZQ) (E : ZX) (h : sp_is_tuple vs M Q E) : vs.length = 2 ∧ Reach M fun M1 => inl Φ 2 2 b_is_tuple vs M1 Q E := by
  obtain ⟨x, n, rfl, hq⟩ := h
  refine ⟨rfl, .done ⟨rfl, ?_⟩⟩
  walk_at "GO"
  rw [peq_int]
  exact Qw.here hq
theorem o_in_range (Φ : Nat → ZSp) (h1 : Φ 7 = sp_is_integer) (vs : List PV) (M : Mh) (Q : ZQ) (E : ZX) (h : sp_in_range vs M Q E) : vs.length = 3 ∧ Reach M fun M1 => inl Φ 3 3 b_in_range vs M1 Q E := by
  obtain ⟨i, lo, hi, rfl, hq⟩ := h
  refine ⟨rfl, .done ⟨rfl, ?_⟩⟩
  walk_at "GO"
  rw [h1]
  refine ⟨_, rfl, _, rfl, ?_⟩
  walk_at "GO"
  refine br_intro (fun c => ?_) fun c => ?_
  · walk_at "GO"
    have c := of_decide_eq_true c
    have e : decide (lo ≤ i ∧ i ≤ hi) = decide (i ≤ hi) := decide_eq_decide.mpr ⟨fun h => h.2, fun h => ⟨c, h⟩⟩
    rw [e] at hq
    exact Qw.here hq
  · walk_at "GO"
    have c := of_decide_eq_false c
    have e : decide (lo ≤ i ∧ i ≤ hi) = false := decide_eq_false fun h => c h.1
    rw [e] at hq
    exact Qw.here hq
theorem o_is_value (Φ : Nat → ZSp) (h1 : Φ 8 = sp_in_range) (vs : List PV) (M : Mh) (Q : ZQ) (E : ZX) (h : sp_is_value vs M Q E) : vs.length = 1 ∧ Reach M fun M1 => inl Φ 1 1 b_is_value vs M1 Q E := by
  obtain ⟨i, rfl, hq⟩ := h
  refine ⟨rfl, .done ⟨rfl, ?_⟩⟩
  walk_at "GO"
  rw [h1]
  exact ⟨i, 0, 1, rfl, Qw.here hq⟩
theorem o_is_index (Φ : Nat → ZSp) (h1 : Φ 8 = sp_in_range) (vs : List PV) (M : Mh) (Q : ZQ) (E : ZX) (h : sp_is_index vs M Q E) : vs.length = 2 ∧ Reach M fun M1 => inl Φ 2 2 b_is_index vs M1 Q E := by
  obtain ⟨i, n, rfl, hq⟩ := h
  refine ⟨rfl, .done ⟨rfl, ?_⟩⟩
  walk_at "GO"
  rw [h1]
  exact ⟨i, 0, n - 1, rfl, Qw.here hq⟩
end HT
set_option Elab.async false
set_option linter.all false
set_option maxRecDepth 100000
set_option maxHeartbeats 400000
namespace HT
open PySem PySem.Spec PyProof.Rows L2 Z
local macro_rules | `(tactic| walk_at "HL") => `(tactic| (first | assumption | exact put_same | (rw [put_ne (by first | assumption | (apply Ne.symm; assumption))]; first | assumption | exact put_same | (rw [put_ne (by first | assumption | (apply Ne.symm; assumption))]; first | assumption | exact put_same | (rw [put_ne (by first | assumption | (apply Ne.symm; assumption))]; first | assumption | exact put_same)))))
local macro_rules | `(tactic| walk_at "ONE") => `(tactic| (first | (refine And.intro rfl ?_; (conv => whnf)) | (refine And.intro True.intro ?_; (conv => whnf)) | (refine And.intro (Exists.intro _ (by walk_at "HL")) ?_; (conv => whnf)) | (refine And.intro (by walk_at "HL") ?_; (conv => whnf)) | (refine And.intro (And.intro rfl rfl) ?_; (conv => whnf)) | (refine And.intro (Nat.le_of_ble_eq_true rfl) ?_; (conv => whnf)) | (refine And.intro (by decide) ?_; (conv => whnf)) | (refine And.intro (by omega) ?_; (conv => whnf)) | (refine Exists.intro _ (And.intro (by walk_at "HL") ?_); (conv => whnf)) | (refine Exists.intro _ (And.intro rfl ?_); (conv => whnf)) | (refine Exists.intro _ (Exists.intro _ (And.intro (by walk_at "HL") (And.intro rfl ?_))); (conv => whnf)) | (refine Exists.intro _ (Exists.intro _ (And.intro (by walk_at "HL") (And.intro (And.intro (by decide) rfl) ?_))); (conv => whnf)) | (refine Exists.intro _ (Exists.intro _ (And.intro rfl (And.intro rfl ?_))); (conv => whnf)) | (refine br_t rfl ?_; (conv => whnf)) | (refine br_f rfl ?_; (conv => whnf)) | (refine And.intro (And.intro (by decide +kernel) (by decide +kernel)) ?_; (conv => whnf)) | (refine br_t (by decide +kernel) ?_; (conv => whnf)) | (refine br_f (by decide +kernel) ?_; (conv => whnf))))
local macro_rules | `(tactic| walk_at "ONI") => `(tactic| (first | (refine Qw.here ?_; (conv => whnf)) | (refine br_t (decide_eq_true (by omega)) ?_; (conv => whnf)) | (refine br_f (decide_eq_false (by omega)) ?_; (conv => whnf)) | (refine And.intro rfl ?_; (conv => whnf)) | (refine And.intro True.intro ?_; (conv => whnf)) | (refine And.intro (Exists.intro _ (by walk_at "HL")) ?_; (conv => whnf)) | (refine And.intro (by walk_at "HL") ?_; (conv => whnf)) | (refine And.intro (And.intro rfl rfl) ?_; (conv => whnf)) | (refine And.intro (Nat.le_of_ble_eq_true rfl) ?_; (conv => whnf)) | (refine And.intro (by decide) ?_; (conv => whnf)) | (refine And.intro (by omega) ?_; (conv => whnf)) | (refine Exists.intro _ (And.intro (by walk_at "HL") ?_); (conv => whnf)) | (refine Exists.intro _ (And.intro rfl ?_); (conv => whnf)) | (refine Exists.intro _ (Exists.intro _ (And.intro (by walk_at "HL") (And.intro rfl ?_))); (conv => whnf)) | (refine Exists.intro _ (Exists.intro _ (And.intro (by walk_at "HL") (And.intro (And.intro (by decide) rfl) ?_))); (conv => whnf)) | (refine Exists.intro _ (Exists.intro _ (And.intro rfl (And.intro rfl ?_))); (conv => whnf)) | (refine br_t rfl ?_; (conv => whnf)) | (refine br_f rfl ?_; (conv => whnf)) | (refine And.intro (And.intro (by decide +kernel) (by decide +kernel)) ?_; (conv => whnf)) | (refine br_t (by decide +kernel) ?_; (conv => whnf)) | (refine br_f (by decide +kernel) ?_; (conv => whnf))))
local macro_rules | `(tactic| walk_at "GO") => `(tactic| (((conv => whnf); repeat (walk_at "ONE"))))
local macro_rules | `(tactic| walk_at "GI") => `(tactic| (((conv => whnf); repeat (walk_at "ONI"))))
local macro_rules | `(tactic| walk_at "BB") => `(tactic| (first | rfl | (simp only [Bool.and_eq_true, Bool.or_eq_true, Bool.not_eq_true', Bool.and_eq_false_iff, Bool.not_eq_false', decide_eq_true_eq, decide_eq_false_iff_not, peq_int, List.length_map]; omega)))
theorem o_good_pages (Φ : Nat → ZSp) (hv : Φ 10 = sp_is_value) (vs : List PV) (M : Mh) (Q : ZQ) (E : ZX) (h : sp_good_pages vs M Q E) : vs.length = 1 ∧ Reach M fun M1 => inl Φ 2 1 b_good_pages vs M1 Q E := by
  obtain ⟨ps, rfl, hl, hp, hq⟩ := h
  refine ⟨rfl, .done ⟨rfl, ?_⟩⟩
  walk_at "GO"
  refine br_f (by walk_at "BB") ?_
  walk_at "GO"
  refine it_ind (fun xs σ M' => ∃ (ms : List Int) (o : Option PV), xs = ms.map PV.int ∧ (∀ n ∈ ms, 0 ≤ n ∧ n ≤ 1) ∧ σ = [some (.lst (ps.map PV.int)), o] ∧ M' = M) ⟨ps, none, rfl, hp, rfl, rfl⟩ ?_ ?_
  · rintro σ M' ⟨ms, o, e, hr, rfl, rfl⟩
    walk_at "GO"
    exact Qw.here hq
  · rintro x rr σ M' ⟨ms, o, e, hr, rfl, rfl⟩ L hL
    cases ms with
    | nil => cases e
    | cons m ms =>
      cases e
      have hm := hr m (by simp)
      walk_at "GO"
      rw [hv]; refine ⟨_, rfl, ?_⟩
      walk_at "GO"
      refine br_f (by walk_at "BB") ?_
      walk_at "GO"
      exact hL _ _ ⟨ms, _, rfl, fun n hn => hr n (by simp [hn]), rfl, rfl⟩
theorem o_good_ports (Φ : Nat → ZSp) (hv : Φ 8 = sp_in_range) (vs : List PV) (M : Mh) (Q : ZQ) (E : ZX) (h : sp_good_ports vs M Q E) : vs.length = 1 ∧ Reach M fun M1 => inl Φ 2 1 b_good_ports vs M1 Q E := by
  obtain ⟨ps, rfl, hl, hp, hq⟩ := h
  refine ⟨rfl, .done ⟨rfl, ?_⟩⟩
  walk_at "GO"
  refine br_f (by walk_at "BB") ?_
  walk_at "GO"
  refine it_ind (fun xs σ M' => ∃ (ms : List Int) (o : Option PV), xs = ms.map PV.int ∧ (∀ n ∈ ms, 1 ≤ n ∧ n ≤ 2) ∧ σ = [some (.lst (ps.map PV.int)), o] ∧ M' = M) ⟨ps, none, rfl, hp, rfl, rfl⟩ ?_ ?_
  · rintro σ M' ⟨ms, o, e, hr, rfl, rfl⟩
    walk_at "GO"
    exact Qw.here hq
  · rintro x rr σ M' ⟨ms, o, e, hr, rfl, rfl⟩ L hL
    cases ms with
    | nil => cases e
    | cons m ms =>
      cases e
      have hm := hr m (by simp)
      walk_at "GO"
      rw [hv]; refine ⟨_, _, _, rfl, ?_⟩
      walk_at "GO"
      refine br_f (by walk_at "BB") ?_
      walk_at "GO"
      exact hL _ _ ⟨ms, _, rfl, fun n hn => hr n (by simp [hn]), rfl, rfl⟩
def fst0 : PV → PV
  | .tup (x :: _) => x
  | _ => .non
theorem o_good_tasks (Φ : Nat → ZSp) (h6 : Φ 6 = sp_is_tuple) (h8 : Φ 8 = sp_in_range) (vs : List PV) (M : Mh) (Q : ZQ) (E : ZX) (h : sp_good_tasks vs M Q E) : vs.length = 1 ∧ Reach M fun M1 => inl Φ 2 1 b_good_tasks vs M1 Q E := by
  obtain ⟨ts, rfl, t1, t2, t3, hq⟩ := h
  refine ⟨rfl, .done ⟨rfl, ?_⟩⟩
  walk_at "GO"
  refine br_t (by walk_at "BB") ?_
  walk_at "GO"
  refine br_f (by walk_at "BB") ?_
  walk_at "GO"
  refine it_ind (fun xs σ M' => ∃ (ms : List (Int × Int)) (o : Option PV), xs = ms.map pr2 ∧ (∀ t ∈ ms, (0 ≤ t.1 ∧ t.1 ≤ 3) ∧ 0 ≤ t.2 ∧ t.2 ≤ 2) ∧ σ = [some (.lst (ts.map pr2)), o] ∧ M' = M) ⟨ts, none, rfl, t2, rfl, rfl⟩ ?_ ?_
  · rintro σ M' ⟨ms, o, e, hr, rfl, rfl⟩
    walk_at "GO"
    intro D hD
    refine lc_mapF fst0 hD (by rw [List.length_map]; omega) (fun _ => trivial) ?_ ?_
    · intro x hx acc k hk
      obtain ⟨t, ht, rfl⟩ := List.mem_map.mp hx
      walk_at "GO"
      exact hk
    have ef : (ts.map pr2).map fst0 = (ts.map (·.1)).map PV.int := by rw [List.map_map, List.map_map]; rfl
    rw [ef]
    refine ⟨ts.map (·.1), rfl, by rw [List.length_map]; omega, ?_⟩
    rintro k ⟨ns, _, hm, rfl⟩
    walk_at "GO"
    have h2 : decide ((2 : Int) ≤ (ns.length : Nat)) = true := by
      obtain ⟨t, ht, u, hu, hne⟩ := t3
      have m1 := (hm t.1).mpr (List.mem_map.mpr ⟨t, ht, rfl⟩)
      have m2 := (hm u.1).mpr (List.mem_map.mpr ⟨u, hu, rfl⟩)
      match ns, m1, m2 with
      | [], m1, _ => cases m1
      | [a], m1, m2 =>
        rw [List.mem_singleton] at m1 m2
        exact absurd (m1.trans m2.symm) hne
      | _ :: _ :: r, _, _ =>
        refine decide_eq_true ?_
        rw [List.length_cons, List.length_cons]
        omega
    rw [h2]
    exact Qw.here hq
  · rintro x rr σ M' ⟨ms, o, e, hr, rfl, rfl⟩ L hL
    cases ms with
    | nil => cases e
    | cons m ms =>
      cases e
      have hm := hr m (by simp)
      walk_at "GO"
      rw [h6]; refine ⟨_, _, rfl, ?_⟩
      walk_at "GO"
      rw [h8]; refine ⟨_, _, _, rfl, ?_⟩
      walk_at "GO"
      refine br_f (by walk_at "BB") ?_
      walk_at "GO"
      rw [h8]; refine ⟨_, _, _, rfl, ?_⟩
      walk_at "GO"
      refine br_f (by walk_at "BB") ?_
      walk_at "GO"
      exact hL _ _ ⟨ms, _, rfl, fun n hn => hr n (by simp [hn]), rfl, rfl⟩
end HT
set_option Elab.async false
set_option linter.all false
set_option maxRecDepth 100000
set_option maxHeartbeats 400000
namespace HT
open PySem PySem.Spec PyProof.Rows L2 Z
local macro_rules | `(tactic| walk_at "HL") => `(tactic| (first | assumption | exact put_same | (rw [put_ne (by first | assumption | (apply Ne.symm; assumption))]; first | assumption | exact put_same | (rw [put_ne (by first | assumption | (apply Ne.symm; assumption))]; first | assumption | exact put_same | (rw [put_ne (by first | assumption | (apply Ne.symm; assumption))]; first | assumption | exact put_same)))))
local macro_rules | `(tactic| walk_at "ONE") => `(tactic| (first | (refine And.intro rfl ?_; (conv => whnf)) | (refine And.intro True.intro ?_; (conv => whnf)) | (refine And.intro (Exists.intro _ (by walk_at "HL")) ?_; (conv => whnf)) | (refine And.intro (by walk_at "HL") ?_; (conv => whnf)) | (refine And.intro (And.intro rfl rfl) ?_; (conv => whnf)) | (refine And.intro (Nat.le_of_ble_eq_true rfl) ?_; (conv => whnf)) | (refine And.intro (by decide) ?_; (conv => whnf)) | (refine And.intro (by omega) ?_; (conv => whnf)) | (refine Exists.intro _ (And.intro (by walk_at "HL") ?_); (conv => whnf)) | (refine Exists.intro _ (And.intro rfl ?_); (conv => whnf)) | (refine Exists.intro _ (Exists.intro _ (And.intro (by walk_at "HL") (And.intro rfl ?_))); (conv => whnf)) | (refine Exists.intro _ (Exists.intro _ (And.intro (by walk_at "HL") (And.intro (And.intro (by decide) rfl) ?_))); (conv => whnf)) | (refine Exists.intro _ (Exists.intro _ (And.intro rfl (And.intro rfl ?_))); (conv => whnf)) | (refine br_t rfl ?_; (conv => whnf)) | (refine br_f rfl ?_; (conv => whnf)) | (refine And.intro (And.intro (by decide +kernel) (by decide +kernel)) ?_; (conv => whnf)) | (refine br_t (by decide +kernel) ?_; (conv => whnf)) | (refine br_f (by decide +kernel) ?_; (conv => whnf))))
local macro_rules | `(tactic| walk_at "ONI") => `(tactic| (first | (refine Qw.here ?_; (conv => whnf)) | (refine br_t (decide_eq_true (by omega)) ?_; (conv => whnf)) | (refine br_f (decide_eq_false (by omega)) ?_; (conv => whnf)) | (refine And.intro rfl ?_; (conv => whnf)) | (refine And.intro True.intro ?_; (conv => whnf)) | (refine And.intro (Exists.intro _ (by walk_at "HL")) ?_; (conv => whnf)) | (refine And.intro (by walk_at "HL") ?_; (conv => whnf)) | (refine And.intro (And.intro rfl rfl) ?_; (conv => whnf)) | (refine And.intro (Nat.le_of_ble_eq_true rfl) ?_; (conv => whnf)) | (refine And.intro (by decide) ?_; (conv => whnf)) | (refine And.intro (by omega) ?_; (conv => whnf)) | (refine Exists.intro _ (And.intro (by walk_at "HL") ?_); (conv => whnf)) | (refine Exists.intro _ (And.intro rfl ?_); (conv => whnf)) | (refine Exists.intro _ (Exists.intro _ (And.intro (by walk_at "HL") (And.intro rfl ?_))); (conv => whnf)) | (refine Exists.intro _ (Exists.intro _ (And.intro (by walk_at "HL") (And.intro (And.intro (by decide) rfl) ?_))); (conv => whnf)) | (refine Exists.intro _ (Exists.intro _ (And.intro rfl (And.intro rfl ?_))); (conv => whnf)) | (refine br_t rfl ?_; (conv => whnf)) | (refine br_f rfl ?_; (conv => whnf)) | (refine And.intro (And.intro (by decide +kernel) (by decide +kernel)) ?_; (conv => whnf)) | (refine br_t (by decide +kernel) ?_; (conv => whnf)) | (refine br_f (by decide +kernel) ?_; (conv => whnf))))
local macro_rules | `(tactic| walk_at "GO") => `(tactic| (((conv => whnf); repeat (walk_at "ONE"))))
local macro_rules | `(tactic| walk_at "GI") => `(tactic| (((conv => whnf); repeat (walk_at "ONI"))))
local macro_rules | `(tactic| walk_at "BB") => `(tactic| (first | rfl | (simp only [Bool.and_eq_true, Bool.or_eq_true, Bool.not_eq_true', Bool.and_eq_false_iff, Bool.not_eq_false', decide_eq_true_eq, decide_eq_false_iff_not, peq_int, List.length_map]; omega)))
theorem o_limits_of (Φ : Nat → ZSp) (vs : List PV) (M : Mh) (Q : ZQ) (E : ZX) (h : sp_limits_of vs M Q E) : vs.length = 5 ∧ Reach M fun M1 => inl Φ 6 5 b_limits_of vs M1 Q E := by
  obtain ⟨nt, np, nq, nl, dk, rfl, hq⟩ := h
  refine ⟨rfl, .done ⟨rfl, ?_⟩⟩
  unfold lims at hq
  walk_at "GO"
  refine br_intro (fun c => ?_) fun c => ?_
  · rw [if_pos (of_decide_eq_true c)] at hq
    walk_at "GO"
    intro D hD
    walk_at "GO"
    rw [put_del hD]
    exact Qw.here hq
  · rw [if_neg (of_decide_eq_false c)] at hq
    walk_at "GO"
    intro D hD
    walk_at "GO"
    rw [put_del hD]
    exact Qw.here hq
theorem o_good_lines (Φ : Nat → ZSp) (h6 : Φ 16 = sp_is_index) (vs : List PV) (M : Mh) (Q : ZQ) (E : ZX) (h : sp_good_lines vs M Q E) : vs.length = 2 ∧ Reach M fun M1 => inl Φ 3 2 b_good_lines vs M1 Q E := by
  obtain ⟨np, ls, rfl, hl, hp, hq⟩ := h
  refine ⟨rfl, .done ⟨rfl, ?_⟩⟩
  walk_at "GO"
  refine br_f (by rw [peq_int, decide_eq_true (by omega)]; rfl) ?_
  walk_at "GO"
  refine it_ind (fun xs σ M' => ∃ (o : Option PV), (∀ x ∈ xs, x = .non ∨ x = .int 0 ∨ x = .int 1) ∧ σ = [some (.int np), some (.lst ls), o] ∧ M' = M) ⟨none, hp, rfl, rfl⟩ ?_ ?_
  · rintro σ M' ⟨o, hr, rfl, rfl⟩
    walk_at "GO"
    exact Qw.here hq
  · rintro x rr σ M' ⟨o, hr, rfl, rfl⟩ L hL
    have hr' : ∀ x ∈ rr, x = PV.non ∨ x = .int 0 ∨ x = .int 1 := fun n hn => hr n (by simp [hn])
    rcases hr x (by simp) with rfl | rfl | rfl
    · walk_at "GO"
      exact hL _ _ ⟨_, hr', rfl, rfl⟩
    · walk_at "GO"
      rw [h6]; refine ⟨_, _, rfl, ?_⟩
      walk_at "GO"
      exact hL _ _ ⟨_, hr', rfl, rfl⟩
    · walk_at "GO"
      rw [h6]; refine ⟨_, _, rfl, ?_⟩
      walk_at "GO"
      exact hL _ _ ⟨_, hr', rfl, rfl⟩
theorem o_good_plan (Φ : Nat → ZSp) (h6 : Φ 6 = sp_is_tuple) (h8 : Φ 8 = sp_in_range) (h16 : Φ 16 = sp_is_index) (vs : List PV) (M : Mh) (Q : ZQ) (E : ZX) (h : sp_good_plan vs M Q E) : vs.length = 2 ∧ Reach M fun M1 => inl Φ 3 2 b_good_plan vs M1 Q E := by
  obtain ⟨n, p, rfl, hp, hq⟩ := h
  refine ⟨rfl, .done ⟨rfl, ?_⟩⟩
  rcases hp with ⟨k, hk, rfl⟩ | ⟨rows, hl, hr, rfl⟩
  · walk_at "GO"
    rw [h6]; refine ⟨_, _, rfl, ?_⟩
    walk_at "GO"
    rw [h8]; refine ⟨_, _, _, rfl, ?_⟩
    rw [decide_eq_true hk]
    exact Qw.here hq
  · walk_at "GO"
    rw [h6]; refine ⟨_, _, rfl, ?_⟩
    walk_at "GO"
    refine br_t (by walk_at "BB") ?_
    walk_at "GO"
    refine br_f (by walk_at "BB") ?_
    walk_at "GO"
    refine it_ind (fun xs σ M' => ∃ (ms : List (Int × Int)) (o : Option PV), xs = ms.map pr2 ∧ (∀ t ∈ ms, (0 ≤ t.1 ∧ t.1 < n) ∧ 1 ≤ t.2 ∧ t.2 ≤ 12) ∧ σ = [some (.int n), some (.tup [.str "slots", .lst (rows.map pr2)]), o] ∧ M' = M) ⟨rows, none, rfl, hr, rfl, rfl⟩ ?_ ?_
    · rintro σ M' ⟨ms, o, e, hr, rfl, rfl⟩
      walk_at "GO"
      exact Qw.here hq
    · rintro x rr σ M' ⟨ms, o, e, hr, rfl, rfl⟩ L hL
      cases ms with
      | nil => cases e
      | cons m ms =>
        cases e
        have hm := hr m (by simp)
        walk_at "GO"
        rw [h6]; refine ⟨_, _, rfl, ?_⟩
        walk_at "GO"
        rw [h16]; refine ⟨_, _, rfl, ?_⟩
        walk_at "GO"
        refine br_f (by walk_at "BB") ?_
        walk_at "GO"
        rw [h8]; refine ⟨_, _, _, rfl, ?_⟩
        walk_at "GO"
        refine br_f (by walk_at "BB") ?_
        walk_at "GO"
        exact hL _ _ ⟨ms, _, rfl, fun n hn => hr n (by simp [hn]), rfl, rfl⟩
end HT
set_option Elab.async false
set_option linter.all false
set_option maxRecDepth 100000
set_option maxHeartbeats 400000
namespace HT
open PySem PySem.Spec PyProof.Rows L2 Z
local macro_rules | `(tactic| walk_at "HL") => `(tactic| (first | assumption | exact put_same | (rw [put_ne (by first | assumption | (apply Ne.symm; assumption))]; first | assumption | exact put_same | (rw [put_ne (by first | assumption | (apply Ne.symm; assumption))]; first | assumption | exact put_same | (rw [put_ne (by first | assumption | (apply Ne.symm; assumption))]; first | assumption | exact put_same)))))
local macro_rules | `(tactic| walk_at "ONE") => `(tactic| (first | (refine And.intro rfl ?_; (conv => whnf)) | (refine And.intro True.intro ?_; (conv => whnf)) | (refine And.intro (Exists.intro _ (by walk_at "HL")) ?_; (conv => whnf)) | (refine And.intro (by walk_at "HL") ?_; (conv => whnf)) | (refine And.intro (And.intro rfl rfl) ?_; (conv => whnf)) | (refine And.intro (Nat.le_of_ble_eq_true rfl) ?_; (conv => whnf)) | (refine And.intro (by decide) ?_; (conv => whnf)) | (refine And.intro (by omega) ?_; (conv => whnf)) | (refine Exists.intro _ (And.intro (by walk_at "HL") ?_); (conv => whnf)) | (refine Exists.intro _ (And.intro rfl ?_); (conv => whnf)) | (refine Exists.intro _ (Exists.intro _ (And.intro (by walk_at "HL") (And.intro rfl ?_))); (conv => whnf)) | (refine Exists.intro _ (Exists.intro _ (And.intro (by walk_at "HL") (And.intro (And.intro (by decide) rfl) ?_))); (conv => whnf)) | (refine Exists.intro _ (Exists.intro _ (And.intro rfl (And.intro rfl ?_))); (conv => whnf)) | (refine br_t rfl ?_; (conv => whnf)) | (refine br_f rfl ?_; (conv => whnf)) | (refine And.intro (And.intro (by decide +kernel) (by decide +kernel)) ?_; (conv => whnf)) | (refine br_t (by decide +kernel) ?_; (conv => whnf)) | (refine br_f (by decide +kernel) ?_; (conv => whnf))))
local macro_rules | `(tactic| walk_at "ONI") => `(tactic| (first | (refine Qw.here ?_; (conv => whnf)) | (refine br_t (decide_eq_true (by omega)) ?_; (conv => whnf)) | (refine br_f (decide_eq_false (by omega)) ?_; (conv => whnf)) | (refine And.intro rfl ?_; (conv => whnf)) | (refine And.intro True.intro ?_; (conv => whnf)) | (refine And.intro (Exists.intro _ (by walk_at "HL")) ?_; (conv => whnf)) | (refine And.intro (by walk_at "HL") ?_; (conv => whnf)) | (refine And.intro (And.intro rfl rfl) ?_; (conv => whnf)) | (refine And.intro (Nat.le_of_ble_eq_true rfl) ?_; (conv => whnf)) | (refine And.intro (by decide) ?_; (conv => whnf)) | (refine And.intro (by omega) ?_; (conv => whnf)) | (refine Exists.intro _ (And.intro (by walk_at "HL") ?_); (conv => whnf)) | (refine Exists.intro _ (And.intro rfl ?_); (conv => whnf)) | (refine Exists.intro _ (Exists.intro _ (And.intro (by walk_at "HL") (And.intro rfl ?_))); (conv => whnf)) | (refine Exists.intro _ (Exists.intro _ (And.intro (by walk_at "HL") (And.intro (And.intro (by decide) rfl) ?_))); (conv => whnf)) | (refine Exists.intro _ (Exists.intro _ (And.intro rfl (And.intro rfl ?_))); (conv => whnf)) | (refine br_t rfl ?_; (conv => whnf)) | (refine br_f rfl ?_; (conv => whnf)) | (refine And.intro (And.intro (by decide +kernel) (by decide +kernel)) ?_; (conv => whnf)) | (refine br_t (by decide +kernel) ?_; (conv => whnf)) | (refine br_f (by decide +kernel) ?_; (conv => whnf))))
local macro_rules | `(tactic| walk_at "GO") => `(tactic| (((conv => whnf); repeat (walk_at "ONE"))))
local macro_rules | `(tactic| walk_at "GI") => `(tactic| (((conv => whnf); repeat (walk_at "ONI"))))
local macro_rules | `(tactic| walk_at "BB") => `(tactic| (first | rfl | (simp only [Bool.and_eq_true, Bool.or_eq_true, Bool.not_eq_true', Bool.and_eq_false_iff, Bool.not_eq_false', decide_eq_true_eq, decide_eq_false_iff_not, peq_int, List.length_map]; omega)))
theorem row_mem {s : Str} {n : Nat} {x : PV} (h : x ∈ rowOf s n) : ∃ k : Nat, k < n ∧ x = rgt s k := by
  unfold rowOf at h
  obtain ⟨k, hk, e⟩ := List.mem_map.mp h
  exact ⟨k, List.mem_range.mp hk, e.symm⟩
def limV (nt np nq nl : Nat) (dk : Int) : List PV := [.int nt, .int nl, .int np, .int (if 0 < dk then 1 else 0), .int nq, .int nt, .int nq, .int np]
/-- what stands in the pool -/
structure InP (nt np nq nl : Nat) (dk : Int) (x : PV) (s : Str) (k b : Int) (i : Nat) : Prop where
  e : x = rgt s k
  ok : PyData.strOk s = true
  ix : keyIx limK (.inr s) = some i
  v : (limV nt np nq nl dk)[i]? = some (.int b)
  r : 0 ≤ k ∧ k < b
theorem pool_mem {nt np nq nl : Nat} {dk : Int} {x : PV} (h : x ∈ pool nt np nq nl dk) : ∃ s k b i, InP nt np nq nl dk x s k b i := by
  unfold pool at h
  simp only [List.mem_append] at h
  have mk : ∀ {s : Str} {n i : Nat}, x ∈ rowOf s n → PyData.strOk s = true → keyIx limK (.inr s) = some i → (limV nt np nq nl dk)[i]? = some (.int n) → ∃ s k b i, InP nt np nq nl dk x s k b i := fun {s n i} hx h1 h2 h3 => by
    obtain ⟨k, hk, e⟩ := row_mem hx
    exact ⟨s, k, n, i, e, h1, h2, h3, by omega⟩
  rcases h with ((((((h | h) | h) | h) | h) | h) | h) | h
  · exact mk h (by decide +kernel) (i := 0) (by decide +kernel) rfl
  · exact mk h (by decide +kernel) (i := 1) (by decide +kernel) rfl
  · exact mk h (by decide +kernel) (i := 2) (by decide +kernel) rfl
  · by_cases c : 0 < dk
    · rw [if_pos c, List.mem_singleton] at h
      refine ⟨"seek", 0, 1, 3, h, by decide +kernel, by decide +kernel, ?_, by omega⟩
      show some (PV.int (if 0 < dk then 1 else 0)) = _
      rw [if_pos c]
    · rw [if_neg c] at h; cases h
  · exact mk h (by decide +kernel) (i := 4) (by decide +kernel) rfl
  · exact mk h (by decide +kernel) (i := 5) (by decide +kernel) rfl
  · exact mk h (by decide +kernel) (i := 6) (by decide +kernel) rfl
  · exact mk h (by decide +kernel) (i := 7) (by decide +kernel) rfl
def sp_fits_right : ZSp := fun vs M Q _ => ∃ (nt np nq nl : Nat) (dk : Int) (x : PV), vs = [lims nt np nq nl dk, x] ∧ x ∈ pool nt np nq nl dk ∧ Q (.bl true) M
theorem o_fits_right (Φ : Nat → ZSp) (h6 : Φ 6 = sp_is_tuple) (h16 : Φ 16 = sp_is_index) (vs : List PV) (M : Mh) (Q : ZQ) (E : ZX) (h : sp_fits_right vs M Q E) : vs.length = 2 ∧ Reach M fun M1 => inl Φ 2 2 b_fits_right vs M1 Q E := by
  obtain ⟨nt, np, nq, nl, dk, x, rfl, hx, hq⟩ := h
  obtain ⟨s, k, b, i, ⟨rfl, hs, hi, hv, hr⟩⟩ := pool_mem hx
  refine ⟨rfl, .done ⟨rfl, ?_⟩⟩
  walk_at "GO"
  rw [h6]; refine ⟨_, _, rfl, ?_⟩
  walk_at "GO"
  refine br_f (by rw [hi]; rfl) ?_
  walk_at "GO"
  refine ⟨_, _, hi, hv, ?_⟩
  walk_at "GO"
  rw [h16]; refine ⟨_, _, rfl, ?_⟩
  rw [decide_eq_true (by omega)]
  exact Qw.here hq
theorem o_climbs (Φ : Nat → ZSp) (vs : List PV) (M : Mh) (Q : ZQ) (E : ZX) (h : sp_climbs vs M Q E) : vs.length = 1 ∧ Reach M fun M1 => inl Φ 2 1 b_climbs vs M1 Q E := by
  obtain ⟨row, rfl, hl, hp, hq⟩ := h
  refine ⟨rfl, .done ⟨rfl, ?_⟩⟩
  walk_at "GO"
  refine it_ind (fun xs σ M' => ∃ (o : Option PV), (∀ x ∈ xs, ∃ i : Nat, i + 1 < row.length ∧ x = .int (1 + (i : Nat))) ∧ σ = [some (.lst row), o] ∧ M' = M) ⟨none, fun x hx => ?_, rfl, rfl⟩ ?_ ?_
  · obtain ⟨i, hi, e⟩ := mem_range hx
    exact ⟨i, by omega, e⟩
  · rintro σ M' ⟨o, hr, rfl, rfl⟩
    walk_at "GO"
    exact Qw.here hq
  · rintro x rr σ M' ⟨o, hr, rfl, rfl⟩ L hL
    obtain ⟨i, hi, rfl⟩ := hr x (by simp)
    obtain ⟨us, ws, e1, e2, k1, k2, k3, k4⟩ := List.pairwise_iff_getElem.mp hp i (i + 1) (by omega) hi (by omega)
    have p1 : pick row (1 + (i : Nat) - 1) = some (.tup us) := by
      rw [show (1 + (i : Nat) - 1 : Int) = ((i : Nat) : Int) by omega]
      show row[i]? = _
      rw [List.getElem?_eq_getElem (by omega), e1]
    have p2 : pick row (1 + (i : Nat)) = some (.tup ws) := by
      rw [show (1 + (i : Nat) : Int) = ((i + 1 : Nat) : Int) by omega]
      show row[i + 1]? = _
      rw [List.getElem?_eq_getElem hi, e2]
    walk_at "GO"
    first | refine br_f (by rw [k4]; rfl) ?_ | (refine ⟨⟨k1, k2, k3⟩, ?_⟩; (conv => whnf); refine br_f (by rw [k4]; rfl) ?_)
    walk_at "GO"
    exact hL _ _ ⟨_, fun x hx => hr x (by simp [hx]), rfl, rfl⟩
end HT
set_option Elab.async false
set_option linter.all false
set_option maxRecDepth 100000
set_option maxHeartbeats 400000
namespace HT
open PySem PySem.Spec PyProof.Rows L2 Z
local macro_rules | `(tactic| walk_at "HL") => `(tactic| (first | assumption | exact put_same | (rw [put_ne (by first | assumption | (apply Ne.symm; assumption))]; first | assumption | exact put_same | (rw [put_ne (by first | assumption | (apply Ne.symm; assumption))]; first | assumption | exact put_same | (rw [put_ne (by first | assumption | (apply Ne.symm; assumption))]; first | assumption | exact put_same)))))
local macro_rules | `(tactic| walk_at "ONE") => `(tactic| (first | (refine And.intro rfl ?_; (conv => whnf)) | (refine And.intro True.intro ?_; (conv => whnf)) | (refine And.intro (Exists.intro _ (by walk_at "HL")) ?_; (conv => whnf)) | (refine And.intro (by walk_at "HL") ?_; (conv => whnf)) | (refine And.intro (And.intro rfl rfl) ?_; (conv => whnf)) | (refine And.intro (Nat.le_of_ble_eq_true rfl) ?_; (conv => whnf)) | (refine And.intro (by decide) ?_; (conv => whnf)) | (refine And.intro (by omega) ?_; (conv => whnf)) | (refine Exists.intro _ (And.intro (by walk_at "HL") ?_); (conv => whnf)) | (refine Exists.intro _ (And.intro rfl ?_); (conv => whnf)) | (refine Exists.intro _ (Exists.intro _ (And.intro (by walk_at "HL") (And.intro rfl ?_))); (conv => whnf)) | (refine Exists.intro _ (Exists.intro _ (And.intro (by walk_at "HL") (And.intro (And.intro (by decide) rfl) ?_))); (conv => whnf)) | (refine Exists.intro _ (Exists.intro _ (And.intro rfl (And.intro rfl ?_))); (conv => whnf)) | (refine br_t rfl ?_; (conv => whnf)) | (refine br_f rfl ?_; (conv => whnf)) | (refine And.intro (And.intro (by decide +kernel) (by decide +kernel)) ?_; (conv => whnf)) | (refine br_t (by decide +kernel) ?_; (conv => whnf)) | (refine br_f (by decide +kernel) ?_; (conv => whnf))))
local macro_rules | `(tactic| walk_at "ONI") => `(tactic| (first | (refine Qw.here ?_; (conv => whnf)) | (refine br_t (decide_eq_true (by omega)) ?_; (conv => whnf)) | (refine br_f (decide_eq_false (by omega)) ?_; (conv => whnf)) | (refine And.intro rfl ?_; (conv => whnf)) | (refine And.intro True.intro ?_; (conv => whnf)) | (refine And.intro (Exists.intro _ (by walk_at "HL")) ?_; (conv => whnf)) | (refine And.intro (by walk_at "HL") ?_; (conv => whnf)) | (refine And.intro (And.intro rfl rfl) ?_; (conv => whnf)) | (refine And.intro (Nat.le_of_ble_eq_true rfl) ?_; (conv => whnf)) | (refine And.intro (by decide) ?_; (conv => whnf)) | (refine And.intro (by omega) ?_; (conv => whnf)) | (refine Exists.intro _ (And.intro (by walk_at "HL") ?_); (conv => whnf)) | (refine Exists.intro _ (And.intro rfl ?_); (conv => whnf)) | (refine Exists.intro _ (Exists.intro _ (And.intro (by walk_at "HL") (And.intro rfl ?_))); (conv => whnf)) | (refine Exists.intro _ (Exists.intro _ (And.intro (by walk_at "HL") (And.intro (And.intro (by decide) rfl) ?_))); (conv => whnf)) | (refine Exists.intro _ (Exists.intro _ (And.intro rfl (And.intro rfl ?_))); (conv => whnf)) | (refine br_t rfl ?_; (conv => whnf)) | (refine br_f rfl ?_; (conv => whnf)) | (refine And.intro (And.intro (by decide +kernel) (by decide +kernel)) ?_; (conv => whnf)) | (refine br_t (by decide +kernel) ?_; (conv => whnf)) | (refine br_f (by decide +kernel) ?_; (conv => whnf))))
local macro_rules | `(tactic| walk_at "GO") => `(tactic| (((conv => whnf); repeat (walk_at "ONE"))))
local macro_rules | `(tactic| walk_at "GI") => `(tactic| (((conv => whnf); repeat (walk_at "ONI"))))
local macro_rules | `(tactic| walk_at "BB") => `(tactic| (first | rfl | (simp only [Bool.and_eq_true, Bool.or_eq_true, Bool.not_eq_true', Bool.and_eq_false_iff, Bool.not_eq_false', decide_eq_true_eq, decide_eq_false_iff_not, peq_int, List.length_map]; omega)))
theorem ltR_row {s : Str} {i j : Nat} (ok : PyData.strOk s = true) (h : i < j) : ltR (rgt s i) (rgt s j) := by
  refine ⟨_, _, rfl, rfl, ?_, ?_, rfl, ?_⟩
  · show (PyData.strOk s && (true && true)) = true
    rw [ok]; rfl
  · show (PyData.strOk s && (true && true)) = true
    rw [ok]; rfl
  · show (if (s == s) = true then (if ((i : Int) == (j : Int)) = true then false else decide ((i : Int) < (j : Int))) else _) = true
    rw [if_pos (beq_self_eq_true s), if_neg (by rw [beq_iff_eq]; omega)]
    exact decide_eq_true (by omega)
theorem ltR_ne {s t : Str} {i j : Int} (o1 : PyData.strOk s = true) (o2 : PyData.strOk t = true) (ne : (s == t) = false) (h : decide (s.cps.toList < t.cps.toList) = true) : ltR (rgt s i) (rgt t j) := by
  refine ⟨_, _, rfl, rfl, ?_, ?_, rfl, ?_⟩
  · show (PyData.strOk s && (true && true)) = true
    rw [o1]; rfl
  · show (PyData.strOk t && (true && true)) = true
    rw [o2]; rfl
  · show (if (s == t) = true then _ else decide (s.cps.toList < t.cps.toList)) = true
    rw [ne, if_neg (by simp)]
    exact h
theorem row_pw {s : Str} {n : Nat} (ok : PyData.strOk s = true) : (rowOf s n).Pairwise ltR := by
  unfold rowOf
  rw [List.pairwise_map]
  exact List.Pairwise.imp (fun h => ltR_row ok h) List.pairwise_lt_range
/-- all items bear one of these words -/
def Wd (ws : List Str) (xs : List PV) : Prop := ∀ x ∈ xs, ∃ s ∈ ws, ∃ k : Int, x = rgt s k
theorem wd_row {s : Str} {n : Nat} : Wd [s] (rowOf s n) := fun x hx => by
  obtain ⟨k, _, e⟩ := row_mem hx
  exact ⟨s, by simp, k, e⟩
theorem wd_app {ws us : List Str} {xs ys : List PV} (h1 : Wd ws xs) (h2 : Wd us ys) : Wd (ws ++ us) (xs ++ ys) := fun x hx => by
  rcases List.mem_append.mp hx with hx | hx
  · obtain ⟨s, hs, k, e⟩ := h1 x hx
    exact ⟨s, List.mem_append_left _ hs, k, e⟩
  · obtain ⟨s, hs, k, e⟩ := h2 x hx
    exact ⟨s, List.mem_append_right _ hs, k, e⟩
def wlt (s t : Str) : Bool := PyData.strOk s && (PyData.strOk t && (!(s == t) && decide (s.cps.toList < t.cps.toList)))
theorem pw_app {ws us : List Str} {xs ys : List PV} (h1 : Wd ws xs) (h2 : Wd us ys) (p1 : xs.Pairwise ltR) (p2 : ys.Pairwise ltR) (h : (ws.all fun s => us.all fun t => wlt s t) = true) : (xs ++ ys).Pairwise ltR := by
  refine List.pairwise_append.mpr ⟨p1, p2, fun x hx y hy => ?_⟩
  obtain ⟨s, hs, i, rfl⟩ := h1 x hx
  obtain ⟨t, ht, j, rfl⟩ := h2 y hy
  have q : wlt s t = true := List.all_eq_true.mp (List.all_eq_true.mp h s hs) t ht
  obtain ⟨q1, q⟩ := ba q
  obtain ⟨q2, q⟩ := ba q
  obtain ⟨q3, q4⟩ := ba q
  exact ltR_ne q1 q2 (by simpa using q3) q4
theorem pool_pw (nt np nq nl : Nat) (dk : Int) : (pool nt np nq nl dk).Pairwise ltR := by
  unfold pool
  have sk : Wd ["seek"] (if 0 < dk then [rgt "seek" 0] else []) ∧ (if 0 < dk then [rgt "seek" 0] else []).Pairwise ltR := by
    by_cases c : 0 < dk
    · rw [if_pos c]
      exact ⟨fun x hx => by rw [List.mem_singleton] at hx; subst hx; exact ⟨_, by simp, 0, rfl⟩, by simp⟩
    · rw [if_neg c]
      exact ⟨fun x hx => (by cases hx), by simp⟩
  have a1 := wd_app (wd_row (s := "hand") (n := nt)) (wd_row (s := "lock") (n := nl))
  have b1 := pw_app wd_row wd_row (row_pw (s := "hand") (n := nt) (by decide +kernel)) (row_pw (s := "lock") (n := nl) (by decide +kernel)) (by decide +kernel)
  have a2 := wd_app a1 (wd_row (s := "read") (n := np))
  have b2 := pw_app a1 wd_row b1 (row_pw (s := "read") (n := np) (by decide +kernel)) (by decide +kernel)
  have a3 := wd_app a2 sk.1
  have b3 := pw_app a2 sk.1 b2 sk.2 (by decide +kernel)
  have a4 := wd_app a3 (wd_row (s := "send") (n := nq))
  have b4 := pw_app a3 wd_row b3 (row_pw (s := "send") (n := nq) (by decide +kernel)) (by decide +kernel)
  have a5 := wd_app a4 (wd_row (s := "strip") (n := nt))
  have b5 := pw_app a4 wd_row b4 (row_pw (s := "strip") (n := nt) (by decide +kernel)) (by decide +kernel)
  have a6 := wd_app a5 (wd_row (s := "take") (n := nq))
  have b6 := pw_app a5 wd_row b5 (row_pw (s := "take") (n := nq) (by decide +kernel)) (by decide +kernel)
  exact pw_app a6 wd_row b6 (row_pw (s := "write") (n := np) (by decide +kernel)) (by decide +kernel)
theorem o_good_rights (Φ : Nat → ZSp) (h17 : Φ 17 = sp_fits_right) (h18 : Φ 18 = sp_climbs) (vs : List PV) (M : Mh) (Q : ZQ) (E : ZX) (h : sp_good_rights vs M Q E) : vs.length = 2 ∧ Reach M fun M1 => inl Φ 4 2 b_good_rights vs M1 Q E := by
  obtain ⟨nt, np, nq, nl, dk, rs, rfl, ⟨hl, hn⟩, hr, hq⟩ := h
  refine ⟨rfl, .done ⟨rfl, ?_⟩⟩
  walk_at "GO"
  refine br_f (by walk_at "BB") ?_
  walk_at "GO"
  refine it_ind (fun xs σ M' => ∃ (ms : List (List PV)) (o o2 : Option PV), xs = ms.map PV.lst ∧ (∀ r ∈ ms, r.Sublist (pool nt np nq nl dk) ∧ r.length ≤ 8) ∧ σ = [some (lims nt np nq nl dk), some (.lst (rs.map PV.lst)), o, o2] ∧ M' = M) ⟨rs, none, none, rfl, hr, rfl, rfl⟩ ?_ ?_
  · rintro σ M' ⟨ms, o, o2, e, hr, rfl, rfl⟩
    walk_at "GO"
    exact Qw.here hq
  · rintro x rr σ M' ⟨ms, o, o2, e, hr, rfl, rfl⟩ L hL
    cases ms with
    | nil => cases e
    | cons m ms =>
      cases e
      obtain ⟨hs, h8⟩ := hr m (by simp)
      have hr' : ∀ r ∈ ms, r.Sublist (pool nt np nq nl dk) ∧ r.length ≤ 8 := fun r hr'' => hr r (by simp [hr''])
      walk_at "GO"
      refine br_f (by walk_at "BB") ?_
      walk_at "GO"
      refine it_ind (fun xs σ M'' => ∃ (o2 : Option PV), (∀ x ∈ xs, x ∈ pool nt np nq nl dk) ∧ σ = [some (lims nt np nq nl dk), some (.lst (rs.map PV.lst)), some (.lst m), o2] ∧ M'' = M') ⟨o2, fun x hx => hs.subset hx, rfl, rfl⟩ ?_ ?_
      · rintro σ M' ⟨o2, hx, rfl, rfl⟩
        walk_at "GO"
        rw [h18]
        refine ⟨m, rfl, by omega, (pool_pw nt np nq nl dk).sublist hs, ?_⟩
        walk_at "GO"
        exact hL _ _ ⟨ms, _, _, rfl, hr', rfl, rfl⟩
      · rintro x rr σ M' ⟨o2, hx, rfl, rfl⟩ L2 hL2
        walk_at "GO"
        rw [h17]
        refine ⟨nt, np, nq, nl, dk, x, rfl, hx x (by simp), ?_⟩
        walk_at "GO"
        exact hL2 _ _ ⟨_, fun y hy => hx y (by simp [hy]), rfl, rfl⟩
end HT
set_option Elab.async false
set_option linter.all false
set_option maxRecDepth 100000
set_option maxHeartbeats 400000
namespace HT
open PySem PySem.Spec PyProof.Rows L2 Z
local macro_rules | `(tactic| walk_at "HL") => `(tactic| (first | assumption | exact put_same | (rw [put_ne (by first | assumption | (apply Ne.symm; assumption))]; first | assumption | exact put_same | (rw [put_ne (by first | assumption | (apply Ne.symm; assumption))]; first | assumption | exact put_same | (rw [put_ne (by first | assumption | (apply Ne.symm; assumption))]; first | assumption | exact put_same)))))
local macro_rules | `(tactic| walk_at "ONE") => `(tactic| (first | (refine And.intro rfl ?_; (conv => whnf)) | (refine And.intro True.intro ?_; (conv => whnf)) | (refine And.intro (Exists.intro _ (by walk_at "HL")) ?_; (conv => whnf)) | (refine And.intro (by walk_at "HL") ?_; (conv => whnf)) | (refine And.intro (And.intro rfl rfl) ?_; (conv => whnf)) | (refine And.intro (Nat.le_of_ble_eq_true rfl) ?_; (conv => whnf)) | (refine And.intro (by decide) ?_; (conv => whnf)) | (refine And.intro (by omega) ?_; (conv => whnf)) | (refine Exists.intro _ (And.intro (by walk_at "HL") ?_); (conv => whnf)) | (refine Exists.intro _ (And.intro rfl ?_); (conv => whnf)) | (refine Exists.intro _ (Exists.intro _ (And.intro (by walk_at "HL") (And.intro rfl ?_))); (conv => whnf)) | (refine Exists.intro _ (Exists.intro _ (And.intro (by walk_at "HL") (And.intro (And.intro (by decide) rfl) ?_))); (conv => whnf)) | (refine Exists.intro _ (Exists.intro _ (And.intro rfl (And.intro rfl ?_))); (conv => whnf)) | (refine br_t rfl ?_; (conv => whnf)) | (refine br_f rfl ?_; (conv => whnf)) | (refine And.intro (And.intro (by decide +kernel) (by decide +kernel)) ?_; (conv => whnf)) | (refine br_t (by decide +kernel) ?_; (conv => whnf)) | (refine br_f (by decide +kernel) ?_; (conv => whnf))))
local macro_rules | `(tactic| walk_at "ONI") => `(tactic| (first | (refine Qw.here ?_; (conv => whnf)) | (refine br_t (decide_eq_true (by omega)) ?_; (conv => whnf)) | (refine br_f (decide_eq_false (by omega)) ?_; (conv => whnf)) | (refine And.intro rfl ?_; (conv => whnf)) | (refine And.intro True.intro ?_; (conv => whnf)) | (refine And.intro (Exists.intro _ (by walk_at "HL")) ?_; (conv => whnf)) | (refine And.intro (by walk_at "HL") ?_; (conv => whnf)) | (refine And.intro (And.intro rfl rfl) ?_; (conv => whnf)) | (refine And.intro (Nat.le_of_ble_eq_true rfl) ?_; (conv => whnf)) | (refine And.intro (by decide) ?_; (conv => whnf)) | (refine And.intro (by omega) ?_; (conv => whnf)) | (refine Exists.intro _ (And.intro (by walk_at "HL") ?_); (conv => whnf)) | (refine Exists.intro _ (And.intro rfl ?_); (conv => whnf)) | (refine Exists.intro _ (Exists.intro _ (And.intro (by walk_at "HL") (And.intro rfl ?_))); (conv => whnf)) | (refine Exists.intro _ (Exists.intro _ (And.intro (by walk_at "HL") (And.intro (And.intro (by decide) rfl) ?_))); (conv => whnf)) | (refine Exists.intro _ (Exists.intro _ (And.intro rfl (And.intro rfl ?_))); (conv => whnf)) | (refine br_t rfl ?_; (conv => whnf)) | (refine br_f rfl ?_; (conv => whnf)) | (refine And.intro (And.intro (by decide +kernel) (by decide +kernel)) ?_; (conv => whnf)) | (refine br_t (by decide +kernel) ?_; (conv => whnf)) | (refine br_f (by decide +kernel) ?_; (conv => whnf))))
local macro_rules | `(tactic| walk_at "GO") => `(tactic| (((conv => whnf); repeat (walk_at "ONE"))))
local macro_rules | `(tactic| walk_at "GI") => `(tactic| (((conv => whnf); repeat (walk_at "ONI"))))
local macro_rules | `(tactic| walk_at "BB") => `(tactic| (first | rfl | (simp only [Bool.and_eq_true, Bool.or_eq_true, Bool.not_eq_true', Bool.and_eq_false_iff, Bool.not_eq_false', decide_eq_true_eq, decide_eq_false_iff_not, peq_int, List.length_map]; omega)))
def snd0 : PV → PV
  | .tup [_, y] => y
  | _ => .non
theorem total_rows (s : Str) (rows : List (Int × Int)) : total (.tup [.str s, .tup (rows.map pr2)]) = (rows.map (·.2)).sum := by
  show ((rows.map pr2).map _).sum = _
  rw [List.map_map]
  rfl
/-- the loop of the period -/
theorem per_end (Φ : Nat → ZSp) {M : Mh} {Q : ZQ} {E : ZX} {x y : PV} {o : Option PV} {t e : Int} (he : 1 ≤ e ∧ e ≤ 4) (hq : Q (.int (per t e)) M) :
    semSs Φ (RR E) (SL.tl (SL.tl (SL.tl (SL.tl b_period_of)))) (DD Q) [some x, some y, some (.int t), some (.int e), none, o] M := by
  have he0 : 0 < e := by omega
  unfold per at hq
  walk_at "GO"
  refine ⟨4, ?_⟩
  walk_at "GO"
  refine br_nint (fun c => ?_) fun c => ?_
  · rw [if_neg c] at hq
    walk_at "GO"
    refine br_nint (fun c => ?_) fun c => ?_
    · rw [if_neg c] at hq
      walk_at "GO"
      refine br_nint (fun c => ?_) fun c => ?_
      · rw [if_neg c] at hq
        walk_at "GO"
        refine br_nint (fun c => ?_) fun c => ?_
        · exfalso
          obtain rfl | rfl | rfl | rfl : e = 1 ∨ e = 2 ∨ e = 3 ∨ e = 4 := by omega
          all_goals omega
        · walk_at "GO"
          exact Qw.here hq
      · rw [if_pos c] at hq
        walk_at "GO"
        exact Qw.here hq
    · rw [if_pos c] at hq
      walk_at "GO"
      exact Qw.here hq
  · rw [if_pos c] at hq
    walk_at "GO"
    exact Qw.here hq
theorem per_mid (Φ : Nat → ZSp) {M : Mh} {Q : ZQ} {E : ZX} {x ou : PV} {k : Nat} {o : Option PV} {t : Int} (ho : OutP k ou) (hq : Q (.int (per t (every ou))) M) :
    semSs Φ (RR E) (SL.tl (SL.tl b_period_of)) (DD Q) [some x, some ou, some (.int t), none, none, o] M := by
  rcases ho with rfl | ⟨a, b, ha, hb, rfl⟩
  · walk_at "GO"
    exact per_end Φ (e := 1) (by omega) hq
  · walk_at "GO"
    exact per_end Φ (e := b) hb hq
theorem o_period_of (Φ : Nat → ZSp) (vs : List PV) (M : Mh) (Q : ZQ) (E : ZX) (h : sp_period_of vs M Q E) : vs.length = 2 ∧ Reach M fun M1 => inl Φ 6 2 b_period_of vs M1 Q E := by
  obtain ⟨n, k, p, ou, rfl, hp, ho, hq⟩ := h
  refine ⟨rfl, .done ⟨rfl, ?_⟩⟩
  rcases hp with ⟨k, hk, rfl⟩ | ⟨rows, hl, hr, rfl⟩
  · ((conv => whnf); iterate 2 (walk_at "ONE"))
    refine br_f (by decide +kernel) ?_
    exact per_mid Φ ho hq
  · walk_at "GO"
    intro D hD
    refine lc_mapF snd0 hD (by rw [List.length_map]; omega) (fun _ => trivial) ?_ ?_
    · intro x hx acc k hk
      obtain ⟨t, ht, rfl⟩ := List.mem_map.mp hx
      walk_at "GO"
      exact hk
    refine ⟨rows.map (·.2), by rw [List.map_map, List.map_map]; rfl, ?_⟩
    rw [show frz (.tup [.str "slots", .lst (rows.map pr2)]) = .tup [.str "slots", .tup (rows.map pr2)] from rfl, total_rows] at hq
    exact per_mid Φ ho hq
end HT
set_option Elab.async false
set_option linter.all false
set_option maxRecDepth 100000
set_option maxHeartbeats 400000
namespace HT
open PySem PySem.Spec PyProof.Rows L2 Z
local macro_rules | `(tactic| walk_at "HL") => `(tactic| (first | assumption | exact put_same | (rw [put_ne (by first | assumption | (apply Ne.symm; assumption))]; first | assumption | exact put_same | (rw [put_ne (by first | assumption | (apply Ne.symm; assumption))]; first | assumption | exact put_same | (rw [put_ne (by first | assumption | (apply Ne.symm; assumption))]; first | assumption | exact put_same)))))
local macro_rules | `(tactic| walk_at "ONE") => `(tactic| (first | (refine And.intro rfl ?_; (conv => whnf)) | (refine And.intro True.intro ?_; (conv => whnf)) | (refine And.intro (Exists.intro _ (by walk_at "HL")) ?_; (conv => whnf)) | (refine And.intro (by walk_at "HL") ?_; (conv => whnf)) | (refine And.intro (And.intro rfl rfl) ?_; (conv => whnf)) | (refine And.intro (Nat.le_of_ble_eq_true rfl) ?_; (conv => whnf)) | (refine And.intro (by decide) ?_; (conv => whnf)) | (refine And.intro (by omega) ?_; (conv => whnf)) | (refine Exists.intro _ (And.intro (by walk_at "HL") ?_); (conv => whnf)) | (refine Exists.intro _ (And.intro rfl ?_); (conv => whnf)) | (refine Exists.intro _ (Exists.intro _ (And.intro (by walk_at "HL") (And.intro rfl ?_))); (conv => whnf)) | (refine Exists.intro _ (Exists.intro _ (And.intro (by walk_at "HL") (And.intro (And.intro (by decide) rfl) ?_))); (conv => whnf)) | (refine Exists.intro _ (Exists.intro _ (And.intro rfl (And.intro rfl ?_))); (conv => whnf)) | (refine br_t rfl ?_; (conv => whnf)) | (refine br_f rfl ?_; (conv => whnf)) | (refine And.intro (And.intro (by decide +kernel) (by decide +kernel)) ?_; (conv => whnf)) | (refine br_t (by decide +kernel) ?_; (conv => whnf)) | (refine br_f (by decide +kernel) ?_; (conv => whnf))))
local macro_rules | `(tactic| walk_at "ONI") => `(tactic| (first | (refine Qw.here ?_; (conv => whnf)) | (refine br_t (decide_eq_true (by omega)) ?_; (conv => whnf)) | (refine br_f (decide_eq_false (by omega)) ?_; (conv => whnf)) | (refine And.intro rfl ?_; (conv => whnf)) | (refine And.intro True.intro ?_; (conv => whnf)) | (refine And.intro (Exists.intro _ (by walk_at "HL")) ?_; (conv => whnf)) | (refine And.intro (by walk_at "HL") ?_; (conv => whnf)) | (refine And.intro (And.intro rfl rfl) ?_; (conv => whnf)) | (refine And.intro (Nat.le_of_ble_eq_true rfl) ?_; (conv => whnf)) | (refine And.intro (by decide) ?_; (conv => whnf)) | (refine And.intro (by omega) ?_; (conv => whnf)) | (refine Exists.intro _ (And.intro (by walk_at "HL") ?_); (conv => whnf)) | (refine Exists.intro _ (And.intro rfl ?_); (conv => whnf)) | (refine Exists.intro _ (Exists.intro _ (And.intro (by walk_at "HL") (And.intro rfl ?_))); (conv => whnf)) | (refine Exists.intro _ (Exists.intro _ (And.intro (by walk_at "HL") (And.intro (And.intro (by decide) rfl) ?_))); (conv => whnf)) | (refine Exists.intro _ (Exists.intro _ (And.intro rfl (And.intro rfl ?_))); (conv => whnf)) | (refine br_t rfl ?_; (conv => whnf)) | (refine br_f rfl ?_; (conv => whnf)) | (refine And.intro (And.intro (by decide +kernel) (by decide +kernel)) ?_; (conv => whnf)) | (refine br_t (by decide +kernel) ?_; (conv => whnf)) | (refine br_f (by decide +kernel) ?_; (conv => whnf))))
local macro_rules | `(tactic| walk_at "GO") => `(tactic| (((conv => whnf); repeat (walk_at "ONE"))))
local macro_rules | `(tactic| walk_at "GI") => `(tactic| (((conv => whnf); repeat (walk_at "ONI"))))
local macro_rules | `(tactic| walk_at "BB") => `(tactic| (first | rfl | (simp only [Bool.and_eq_true, Bool.or_eq_true, Bool.not_eq_true', Bool.and_eq_false_iff, Bool.not_eq_false', decide_eq_true_eq, decide_eq_false_iff_not, peq_int, List.length_map]; omega)))
def sp_good_disk : ZSp := fun vs M Q _ => ∃ d : Int, vs = [.int d] ∧ (d = 0 ∨ d = 2 ∨ d = 3 ∨ d = 4) ∧ Q (.bl true) M
def sp_good_costs : ZSp := fun vs M Q _ => ∃ a b c : Int, vs = [.tup [.int a, .int b, .int c]] ∧ ((1 ≤ a ∧ a ≤ 3) ∧ (0 ≤ b ∧ b ≤ 3) ∧ 0 ≤ c ∧ c ≤ 2) ∧ Q (.bl true) M
def sp_good_outside : ZSp := fun vs M Q _ => ∃ (n : Nat) (ou : PV), vs = [.int n, ou] ∧ OutP n ou ∧ Q (.bl true) M
def sp_check_things : ZSp := fun vs M Q _ => ∃ p : Pt, p.Ok ∧ vs = [p.tl, .lst (p.ps.map PV.int), .lst (p.qs.map PV.int), .int p.nl, .int p.fr, .int p.dk] ∧ Q .non M
def sp_check_rules : ZSp := fun vs M Q _ => ∃ p : Pt, p.Ok ∧ vs = [lims p.ts.length p.ps.length p.qs.length p.nl p.dk, p.rl, .lst p.ls, p.cs, p.pl, p.ou] ∧ Q .non M
def sp_check_flags : ZSp := fun vs M Q _ => ∃ b0 b1 b2 b3 : Bool, vs = [.bl b0, .bl b1, .bl b2, .bl b3] ∧ Q .non M
def sp_frozen_plan : ZSp := fun vs M Q _ => ∃ (n : Int) (p : PV), vs = [p] ∧ PlanP n p ∧ Q (frz p) M
theorem o_good_disk (Φ : Nat → ZSp) (h7 : Φ 7 = sp_is_integer) (vs : List PV) (M : Mh) (Q : ZQ) (E : ZX) (h : sp_good_disk vs M Q E) : vs.length = 1 ∧ Reach M fun M1 => inl Φ 1 1 b_good_disk vs M1 Q E := by
  obtain ⟨d, rfl, hd, hq⟩ := h
  refine ⟨rfl, .done ⟨rfl, ?_⟩⟩
  walk_at "GO"
  rw [h7]
  refine ⟨_, rfl, _, rfl, ?_⟩
  rcases hd with rfl | rfl | rfl | rfl
  all_goals
    walk_at "GO"
    exact Qw.here hq
theorem o_good_costs (Φ : Nat → ZSp) (h6 : Φ 6 = sp_is_tuple) (h8 : Φ 8 = sp_in_range) (vs : List PV) (M : Mh) (Q : ZQ) (E : ZX) (h : sp_good_costs vs M Q E) : vs.length = 1 ∧ Reach M fun M1 => inl Φ 1 1 b_good_costs vs M1 Q E := by
  obtain ⟨a, b, c, rfl, hd, hq⟩ := h
  refine ⟨rfl, .done ⟨rfl, ?_⟩⟩
  walk_at "GO"
  rw [h6]; refine ⟨_, _, rfl, ?_⟩
  walk_at "GO"
  rw [h8]; refine ⟨_, _, _, rfl, ?_⟩
  rw [decide_eq_true hd.1]
  walk_at "GO"
  rw [h8]; refine ⟨_, _, _, rfl, ?_⟩
  rw [decide_eq_true hd.2.1]
  walk_at "GO"
  rw [h8]; refine ⟨_, _, _, rfl, ?_⟩
  rw [decide_eq_true hd.2.2]
  exact Qw.here hq
theorem o_good_outside (Φ : Nat → ZSp) (h6 : Φ 6 = sp_is_tuple) (h8 : Φ 8 = sp_in_range) (h16 : Φ 16 = sp_is_index) (vs : List PV) (M : Mh) (Q : ZQ) (E : ZX) (h : sp_good_outside vs M Q E) : vs.length = 2 ∧ Reach M fun M1 => inl Φ 2 2 b_good_outside vs M1 Q E := by
  obtain ⟨n, ou, rfl, ho, hq⟩ := h
  refine ⟨rfl, .done ⟨rfl, ?_⟩⟩
  rcases ho with rfl | ⟨a, b, ha, hb, rfl⟩
  · walk_at "GO"
    exact Qw.here hq
  · walk_at "GO"
    rw [h6]; refine ⟨_, _, rfl, ?_⟩
    walk_at "GO"
    rw [h16]; refine ⟨_, _, rfl, ?_⟩
    rw [decide_eq_true (by omega)]
    walk_at "GO"
    rw [h8]; refine ⟨_, _, _, rfl, ?_⟩
    rw [decide_eq_true hb]
    exact Qw.here hq
theorem o_check_things (Φ : Nat → ZSp) (h8 : Φ 8 = sp_in_range) (h9 : Φ 9 = sp_good_tasks) (h11 : Φ 11 = sp_good_pages) (h12 : Φ 12 = sp_good_ports) (h13 : Φ 13 = sp_good_disk) (vs : List PV) (M : Mh) (Q : ZQ) (E : ZX) (h : sp_check_things vs M Q E) : vs.length = 6 ∧ Reach M fun M1 => inl Φ 6 6 b_check_things vs M1 Q E := by
  obtain ⟨p, ok, rfl, hq⟩ := h
  refine ⟨rfl, .done ⟨rfl, ?_⟩⟩
  walk_at "GO"
  rw [h9]
  refine ⟨p.ts, rfl, ok.t1, ok.t2, ok.t3, ?_⟩
  walk_at "GO"
  rw [h11]
  refine ⟨p.ps, rfl, ok.p1, ok.p2, ?_⟩
  walk_at "GO"
  rw [h12]
  refine ⟨p.qs, rfl, ok.q1, ok.q2, ?_⟩
  walk_at "GO"
  rw [h8]; refine ⟨_, _, _, rfl, ?_⟩
  have l1 := ok.l1
  rw [decide_eq_true (by omega)]
  walk_at "GO"
  rw [h8]; refine ⟨_, _, _, rfl, ?_⟩
  rw [decide_eq_true ok.f1]
  walk_at "GO"
  rw [h13]
  refine ⟨_, rfl, ok.d1, ?_⟩
  walk_at "GO"
  exact Qw.here hq
theorem o_check_rules (Φ : Nat → ZSp) (h19 : Φ 19 = sp_good_rights) (h20 : Φ 20 = sp_good_lines) (h21 : Φ 21 = sp_good_costs) (h22 : Φ 22 = sp_good_plan) (h23 : Φ 23 = sp_good_outside) (vs : List PV) (M : Mh) (Q : ZQ) (E : ZX) (h : sp_check_rules vs M Q E) : vs.length = 6 ∧ Reach M fun M1 => inl Φ 6 6 b_check_rules vs M1 Q E := by
  obtain ⟨p, ok, rfl, hq⟩ := h
  refine ⟨rfl, .done ⟨rfl, ?_⟩⟩
  walk_at "GO"
  rw [h19]
  refine ⟨_, _, _, _, _, p.rs, rfl, ⟨ok.r1, ok.t1.2⟩, ok.r2, ?_⟩
  walk_at "GO"
  rw [h20]
  refine ⟨_, p.ls, rfl, ⟨ok.s1, ok.p1⟩, ok.s2, ?_⟩
  walk_at "GO"
  rw [h21]
  refine ⟨_, _, _, rfl, ok.c1, ?_⟩
  walk_at "GO"
  rw [h22]
  refine ⟨_, _, rfl, ok.g1, ?_⟩
  walk_at "GO"
  rw [h23]
  refine ⟨_, _, rfl, ok.o1, ?_⟩
  walk_at "GO"
  exact Qw.here hq
theorem o_check_flags (Φ : Nat → ZSp) (h25 : Φ 25 = sp_is_flag) (vs : List PV) (M : Mh) (Q : ZQ) (E : ZX) (h : sp_check_flags vs M Q E) : vs.length = 4 ∧ Reach M fun M1 => inl Φ 4 4 b_check_flags vs M1 Q E := by
  obtain ⟨b0, b1, b2, b3, rfl, hq⟩ := h
  refine ⟨rfl, .done ⟨rfl, ?_⟩⟩
  walk_at "GO"
  rw [h25]; refine ⟨_, rfl, ?_⟩
  walk_at "GO"
  rw [h25]; refine ⟨_, rfl, ?_⟩
  walk_at "GO"
  rw [h25]; refine ⟨_, rfl, ?_⟩
  walk_at "GO"
  rw [h25]; refine ⟨_, rfl, ?_⟩
  walk_at "GO"
  exact Qw.here hq
theorem o_frozen_plan (Φ : Nat → ZSp) (vs : List PV) (M : Mh) (Q : ZQ) (E : ZX) (h : sp_frozen_plan vs M Q E) : vs.length = 1 ∧ Reach M fun M1 => inl Φ 1 1 b_frozen_plan vs M1 Q E := by
  obtain ⟨n, p, rfl, hp, hq⟩ := h
  refine ⟨rfl, .done ⟨rfl, ?_⟩⟩
  rcases hp with ⟨k, hk, rfl⟩ | ⟨rows, hl, hr, rfl⟩
  · walk_at "GO"
    exact Qw.here hq
  · walk_at "GO"
    exact Qw.here hq
theorem sides_eq {ts : List (Int × Int)} (h : ∀ t ∈ ts, (0 ≤ t.1 ∧ t.1 ≤ 3) ∧ 0 ≤ t.2 ∧ t.2 ≤ 2) {ms : List Int} (h1 : ms.Pairwise (· < ·)) (h2 : ∀ k, k ∈ ms ↔ k ∈ ts.map (·.1)) : ms = sidesOf ts := by
  have p2 : (sidesOf ts).Pairwise (· < ·) := List.Pairwise.filter _ (by decide)
  have m2 : ∀ k, k ∈ sidesOf ts ↔ k ∈ ts.map (·.1) := fun k => by
    unfold sidesOf
    rw [List.mem_filter, List.any_eq_true, List.mem_map]
    constructor
    · rintro ⟨_, t, ht, e⟩
      exact ⟨t, ht, of_decide_eq_true e⟩
    · rintro ⟨t, ht, rfl⟩
      refine ⟨?_, t, ht, decide_eq_true rfl⟩
      have := (h t ht).1
      simp only [List.mem_cons, List.not_mem_nil, or_false]
      omega
  have hp : ms.Perm (sidesOf ts) := (List.perm_ext_iff_of_nodup (h1.imp fun h => by omega) (p2.imp fun h => by omega)).mpr fun k => (h2 k).trans (m2 k).symm
  exact hp.eq_of_pairwise (fun a b _ _ h1 h2 => by omega) h1 p2
end HT
set_option Elab.async false
set_option linter.all false
set_option maxRecDepth 100000
set_option maxHeartbeats 1000000
namespace HT
open PySem PySem.Spec PyProof.Rows L2 Z
local macro_rules | `(tactic| walk_at "HL") => `(tactic| (first | assumption | exact put_same | (rw [put_ne (by first | assumption | (apply Ne.symm; assumption))]; first | assumption | exact put_same | (rw [put_ne (by first | assumption | (apply Ne.symm; assumption))]; first | assumption | exact put_same | (rw [put_ne (by first | assumption | (apply Ne.symm; assumption))]; first | assumption | exact put_same)))))
local macro_rules | `(tactic| walk_at "ONE") => `(tactic| (first | (refine And.intro rfl ?_; (conv => whnf)) | (refine And.intro True.intro ?_; (conv => whnf)) | (refine And.intro (Exists.intro _ (by walk_at "HL")) ?_; (conv => whnf)) | (refine And.intro (by walk_at "HL") ?_; (conv => whnf)) | (refine And.intro (And.intro rfl rfl) ?_; (conv => whnf)) | (refine And.intro (Nat.le_of_ble_eq_true rfl) ?_; (conv => whnf)) | (refine And.intro (by decide) ?_; (conv => whnf)) | (refine And.intro (by omega) ?_; (conv => whnf)) | (refine Exists.intro _ (And.intro (by walk_at "HL") ?_); (conv => whnf)) | (refine Exists.intro _ (And.intro rfl ?_); (conv => whnf)) | (refine Exists.intro _ (Exists.intro _ (And.intro (by walk_at "HL") (And.intro rfl ?_))); (conv => whnf)) | (refine Exists.intro _ (Exists.intro _ (And.intro (by walk_at "HL") (And.intro (And.intro (by decide) rfl) ?_))); (conv => whnf)) | (refine Exists.intro _ (Exists.intro _ (And.intro rfl (And.intro rfl ?_))); (conv => whnf)) | (refine br_t rfl ?_; (conv => whnf)) | (refine br_f rfl ?_; (conv => whnf)) | (refine And.intro (And.intro (by decide +kernel) (by decide +kernel)) ?_; (conv => whnf)) | (refine br_t (by decide +kernel) ?_; (conv => whnf)) | (refine br_f (by decide +kernel) ?_; (conv => whnf))))
local macro_rules | `(tactic| walk_at "ONI") => `(tactic| (first | (refine Qw.here ?_; (conv => whnf)) | (refine br_t (decide_eq_true (by omega)) ?_; (conv => whnf)) | (refine br_f (decide_eq_false (by omega)) ?_; (conv => whnf)) | (refine And.intro rfl ?_; (conv => whnf)) | (refine And.intro True.intro ?_; (conv => whnf)) | (refine And.intro (Exists.intro _ (by walk_at "HL")) ?_; (conv => whnf)) | (refine And.intro (by walk_at "HL") ?_; (conv => whnf)) | (refine And.intro (And.intro rfl rfl) ?_; (conv => whnf)) | (refine And.intro (Nat.le_of_ble_eq_true rfl) ?_; (conv => whnf)) | (refine And.intro (by decide) ?_; (conv => whnf)) | (refine And.intro (by omega) ?_; (conv => whnf)) | (refine Exists.intro _ (And.intro (by walk_at "HL") ?_); (conv => whnf)) | (refine Exists.intro _ (And.intro rfl ?_); (conv => whnf)) | (refine Exists.intro _ (Exists.intro _ (And.intro (by walk_at "HL") (And.intro rfl ?_))); (conv => whnf)) | (refine Exists.intro _ (Exists.intro _ (And.intro (by walk_at "HL") (And.intro (And.intro (by decide) rfl) ?_))); (conv => whnf)) | (refine Exists.intro _ (Exists.intro _ (And.intro rfl (And.intro rfl ?_))); (conv => whnf)) | (refine br_t rfl ?_; (conv => whnf)) | (refine br_f rfl ?_; (conv => whnf)) | (refine And.intro (And.intro (by decide +kernel) (by decide +kernel)) ?_; (conv => whnf)) | (refine br_t (by decide +kernel) ?_; (conv => whnf)) | (refine br_f (by decide +kernel) ?_; (conv => whnf))))
local macro_rules | `(tactic| walk_at "GO") => `(tactic| (((conv => whnf); repeat (walk_at "ONE"))))
local macro_rules | `(tactic| walk_at "GI") => `(tactic| (((conv => whnf); repeat (walk_at "ONI"))))
local macro_rules | `(tactic| walk_at "BB") => `(tactic| (first | rfl | (simp only [Bool.and_eq_true, Bool.or_eq_true, Bool.not_eq_true', Bool.and_eq_false_iff, Bool.not_eq_false', decide_eq_true_eq, decide_eq_false_iff_not, peq_int, List.length_map]; omega)))
def asT : PV → PV
  | .lst xs => .tup xs
  | _ => .non
theorem o_init (Φ : Nat → ZSp) (h14 : Φ 14 = sp_check_things) (h15 : Φ 15 = sp_limits_of) (h24 : Φ 24 = sp_check_rules) (h26 : Φ 26 = sp_check_flags) (h27 : Φ 27 = sp_frozen_plan) (h28 : Φ 28 = sp_period_of) (vs : List PV) (M : Mh) (Q : ZQ) (E : ZX) (h : sp_init vs M Q E) : vs.length = 16 ∧ Reach M fun M1 => inl Φ 20 16 b_Build___init__ vs M1 Q E := by
  obtain ⟨a, p, rfl, ok, ha, hq⟩ := h
  refine ⟨rfl, .done ⟨rfl, ?_⟩⟩
  walk_at "GO"
  rw [h14]
  refine ⟨p, ok, rfl, ?_⟩
  walk_at "GO"
  rw [h15]
  refine ⟨(p.ts.map pr2).length, (p.ps.map PV.int).length, (p.qs.map PV.int).length, p.nl, p.dk, rfl, ?_⟩
  rw [List.length_map, List.length_map, List.length_map]
  walk_at "GO"
  rw [h24]
  refine ⟨p, ok, rfl, ?_⟩
  walk_at "GO"
  rw [h26]
  refine ⟨_, _, _, _, rfl, ?_⟩
  (conv => whnf)
  replace ha : M a = some (.ins 0 [none, none, none, none, none, none, none, none, none, none, none, none, none, none, none, none, none, none, none, none]) := ha
  refine ⟨_, ha, Nat.le_of_ble_eq_true rfl, ?_⟩
  simp only [List.set_cons_succ, List.set_cons_zero]
  (conv => whnf)
  iterate 6 (refine ⟨_, put_same, Nat.le_of_ble_eq_true rfl, ?_⟩; rw [put_put]; simp only [List.set_cons_succ, List.set_cons_zero]; (conv => whnf))
  intro D hD
  refine lc_mapF asT hD (by have := ok.r1; have := ok.t1; rw [List.length_map]; omega) (fun _ => trivial) ?_ ?_
  · intro x hx acc k hk
    obtain ⟨t, ht, rfl⟩ := List.mem_map.mp hx
    walk_at "GO"
    exact hk
  have e1 : (p.rs.map PV.lst).map asT = p.rs.map PV.tup := by rw [List.map_map]; rfl
  rw [e1]
  (conv => whnf)
  iterate 3 (refine ⟨_, put_same, Nat.le_of_ble_eq_true rfl, ?_⟩; rw [put_put]; simp only [List.set_cons_succ, List.set_cons_zero]; (conv => whnf))
  rw [h27]
  refine ⟨_, _, rfl, ok.g1, ?_⟩
  (conv => whnf)
  iterate 6 (refine ⟨_, put_same, Nat.le_of_ble_eq_true rfl, ?_⟩; rw [put_put]; simp only [List.set_cons_succ, List.set_cons_zero]; (conv => whnf))
  intro D2 hD2
  refine lc_mapF fst0 hD2 (by have := ok.t1; rw [List.length_map]; omega) (fun _ => trivial) ?_ ?_
  · intro x hx acc k hk
    obtain ⟨t, ht, rfl⟩ := List.mem_map.mp hx
    walk_at "GO"
    exact hk
  have e2 : (p.ts.map pr2).map fst0 = (p.ts.map (·.1)).map PV.int := by rw [List.map_map, List.map_map]; rfl
  rw [e2]
  refine ⟨p.ts.map (·.1), rfl, by have := ok.t1; rw [List.length_map]; omega, ?_⟩
  intro ms m1 m2
  obtain rfl := sides_eq ok.t2 m1 m2
  (conv => whnf)
  (refine ⟨_, put_same, Nat.le_of_ble_eq_true rfl, ?_⟩; rw [put_put]; simp only [List.set_cons_succ, List.set_cons_zero]; (conv => whnf))
  (refine ⟨_, _, put_same, rfl, ?_⟩; (conv => whnf))
  rw [h28]
  refine ⟨_, _, p.pl, p.ou, rfl, ok.g1, ok.o1, ?_⟩
  (conv => whnf)
  (refine ⟨_, put_same, Nat.le_of_ble_eq_true rfl, ?_⟩; rw [put_put]; simp only [List.set_cons_succ, List.set_cons_zero]; (conv => whnf))
  iterate 2 (refine ⟨_, rfl, ?_⟩; (conv => whnf))
  (refine ⟨_, put_same, Nat.le_of_ble_eq_true rfl, ?_⟩; rw [put_put]; simp only [List.set_cons_succ, List.set_cons_zero]; (conv => whnf))
  iterate 6 (refine ⟨_, _, put_same, rfl, ?_⟩; (conv => whnf))
  (refine ⟨_, put_same, Nat.le_of_ble_eq_true rfl, ?_⟩; rw [put_put]; simp only [List.set_cons_succ, List.set_cons_zero])
  exact Qw.here hq
end HT
set_option Elab.async false
set_option linter.all false
set_option maxRecDepth 100000
set_option maxHeartbeats 1000000
namespace HT
open PySem PySem.Spec PyProof.Rows L2 Z
def sp_made : ZSp := fun vs M Q _ => ∃ p : Pt, vs = [.lst p.items] ∧ p.Ok ∧ Q (.ins 0 p.flds) M
def sp_law : ZSp := fun vs M Q _ => ∃ ns : List Int, vs = [.scr (ns.map PV.int)] ∧ ns.length ≤ 100 ∧ ∀ M', Q (.bl true) M'
theorem o_made (Φ : Nat → ZSp) (h29 : Φ 29 = sp_init) (vs : List PV) (M : Mh) (Q : ZQ) (E : ZX) (h : sp_made vs M Q E) : vs.length = 1 ∧ Reach M fun M1 => inl Φ 1 1 b__law_made vs M1 Q E := by
  obtain ⟨p, rfl, ok, hq⟩ := h
  refine ⟨rfl, .done ⟨rfl, ?_⟩⟩
  (conv => whnf)
  iterate 15 (refine ⟨_, rfl, ?_⟩; (conv => whnf))
  intro x hx
  rw [h29]
  refine ⟨x, p, rfl, ok, put_same, rfl, ?_⟩
  rw [put_put]
  refine ⟨_, put_same, ?_⟩
  refine ⟨p.flds, rfl, ?_⟩
  rw [put_del hx]
  exact Qw.here hq
theorem okCs_of {n : Nat} : ∀ {xs : List PV}, (∀ x ∈ xs, okC n x = true) → okCs n xs = true
  | [], _ => rfl
  | x :: xs, h => by
    show (okC n x && okCs n xs) = true
    rw [h x (by simp), okCs_of fun y hy => h y (by simp [hy])]; rfl
theorem okC_lst {n : Nat} {xs : List PV} (hl : xs.length ≤ 1000) (h : ∀ x ∈ xs, okC n x = true) : okC (n + 1) (.lst xs) = true := by
  show (decide (xs.length ≤ 1000) && okCs n xs) = true
  rw [decide_eq_true hl, okCs_of h]; rfl
theorem okC_tup {n : Nat} {xs : List PV} (hl : xs.length ≤ 1000) (h : ∀ x ∈ xs, okC n x = true) : okC (n + 1) (.tup xs) = true := by
  show (decide (xs.length ≤ 1000) && okCs n xs) = true
  rw [decide_eq_true hl, okCs_of h]; rfl
theorem okC_plan {n : Int} {p : PV} (h : PlanP n p) : okC 3 p = true := by
  rcases h with ⟨k, _, rfl⟩ | ⟨rows, hl, _, rfl⟩
  · rfl
  · refine okC_tup (Nat.le_of_ble_eq_true rfl) fun x hx => ?_
    simp only [List.mem_cons, List.not_mem_nil, or_false] at hx
    rcases hx with rfl | rfl
    · rfl
    · refine okC_lst (by rw [List.length_map]; omega) fun x hx => ?_
      obtain ⟨t, _, rfl⟩ := List.mem_map.mp hx
      rfl
theorem okC_items {p : Pt} (ok : p.Ok) : okC 4 (.lst p.items) = true := by
  refine okC_lst (Nat.le_of_ble_eq_true rfl) fun x hx => ?_
  unfold Pt.items at hx
  simp only [List.mem_cons, List.not_mem_nil, or_false] at hx
  rcases hx with rfl | rfl | rfl | rfl | rfl | rfl | rfl | rfl | rfl | rfl | rfl | rfl | rfl | rfl | rfl
  · have := ok.t1
    refine okC_lst (by rw [List.length_map]; omega) fun x hx => ?_
    obtain ⟨t, _, rfl⟩ := List.mem_map.mp hx
    rfl
  · have := ok.p1
    refine okC_lst (by rw [List.length_map]; omega) fun x hx => ?_
    obtain ⟨t, _, rfl⟩ := List.mem_map.mp hx
    rfl
  · have := ok.q1
    refine okC_lst (by rw [List.length_map]; omega) fun x hx => ?_
    obtain ⟨t, _, rfl⟩ := List.mem_map.mp hx
    rfl
  · rfl
  · rfl
  · rfl
  · have := ok.t1
    have := ok.r1
    refine okC_lst (by rw [List.length_map]; omega) fun x hx => ?_
    obtain ⟨r, hr, rfl⟩ := List.mem_map.mp hx
    obtain ⟨h1, h2⟩ := ok.r2 r hr
    refine okC_lst (by omega) fun x hx => ?_
    obtain ⟨s, k, b, i, ⟨rfl, _⟩⟩ := pool_mem (h1.subset hx)
    rfl
  · have := ok.s1
    have := ok.p1
    refine okC_lst (by omega) fun x hx => ?_
    rcases ok.s2 x hx with rfl | rfl | rfl <;> rfl
  · rfl
  · exact okC_plan ok.g1
  · rcases ok.o1 with e | ⟨a, b, _, _, e⟩ <;> rw [e] <;> rfl
  · rfl
  · rfl
  · rfl
  · rfl
end HT
set_option Elab.async false
set_option linter.all false
set_option maxRecDepth 100000
set_option maxHeartbeats 1000000
namespace HT
open PySem PySem.Spec PyProof.Rows L2 Z
local macro_rules | `(tactic| walk_at "HL") => `(tactic| (first | assumption | exact put_same | (rw [put_ne (by first | assumption | (apply Ne.symm; assumption))]; first | assumption | exact put_same | (rw [put_ne (by first | assumption | (apply Ne.symm; assumption))]; first | assumption | exact put_same | (rw [put_ne (by first | assumption | (apply Ne.symm; assumption))]; first | assumption | exact put_same)))))
local macro_rules | `(tactic| walk_at "ONE") => `(tactic| (first | (refine And.intro rfl ?_; (conv => whnf)) | (refine And.intro True.intro ?_; (conv => whnf)) | (refine And.intro (Exists.intro _ (by walk_at "HL")) ?_; (conv => whnf)) | (refine And.intro (by walk_at "HL") ?_; (conv => whnf)) | (refine And.intro (And.intro rfl rfl) ?_; (conv => whnf)) | (refine And.intro (Nat.le_of_ble_eq_true rfl) ?_; (conv => whnf)) | (refine And.intro (by decide) ?_; (conv => whnf)) | (refine And.intro (by omega) ?_; (conv => whnf)) | (refine Exists.intro _ (And.intro (by walk_at "HL") ?_); (conv => whnf)) | (refine Exists.intro _ (And.intro rfl ?_); (conv => whnf)) | (refine Exists.intro _ (Exists.intro _ (And.intro (by walk_at "HL") (And.intro rfl ?_))); (conv => whnf)) | (refine Exists.intro _ (Exists.intro _ (And.intro (by walk_at "HL") (And.intro (And.intro (by decide) rfl) ?_))); (conv => whnf)) | (refine Exists.intro _ (Exists.intro _ (And.intro rfl (And.intro rfl ?_))); (conv => whnf)) | (refine br_t rfl ?_; (conv => whnf)) | (refine br_f rfl ?_; (conv => whnf)) | (refine And.intro (And.intro (by decide +kernel) (by decide +kernel)) ?_; (conv => whnf)) | (refine br_t (by decide +kernel) ?_; (conv => whnf)) | (refine br_f (by decide +kernel) ?_; (conv => whnf))))
local macro_rules | `(tactic| walk_at "ONI") => `(tactic| (first | (refine Qw.here ?_; (conv => whnf)) | (refine br_t (decide_eq_true (by omega)) ?_; (conv => whnf)) | (refine br_f (decide_eq_false (by omega)) ?_; (conv => whnf)) | (refine And.intro rfl ?_; (conv => whnf)) | (refine And.intro True.intro ?_; (conv => whnf)) | (refine And.intro (Exists.intro _ (by walk_at "HL")) ?_; (conv => whnf)) | (refine And.intro (by walk_at "HL") ?_; (conv => whnf)) | (refine And.intro (And.intro rfl rfl) ?_; (conv => whnf)) | (refine And.intro (Nat.le_of_ble_eq_true rfl) ?_; (conv => whnf)) | (refine And.intro (by decide) ?_; (conv => whnf)) | (refine And.intro (by omega) ?_; (conv => whnf)) | (refine Exists.intro _ (And.intro (by walk_at "HL") ?_); (conv => whnf)) | (refine Exists.intro _ (And.intro rfl ?_); (conv => whnf)) | (refine Exists.intro _ (Exists.intro _ (And.intro (by walk_at "HL") (And.intro rfl ?_))); (conv => whnf)) | (refine Exists.intro _ (Exists.intro _ (And.intro (by walk_at "HL") (And.intro (And.intro (by decide) rfl) ?_))); (conv => whnf)) | (refine Exists.intro _ (Exists.intro _ (And.intro rfl (And.intro rfl ?_))); (conv => whnf)) | (refine br_t rfl ?_; (conv => whnf)) | (refine br_f rfl ?_; (conv => whnf)) | (refine And.intro (And.intro (by decide +kernel) (by decide +kernel)) ?_; (conv => whnf)) | (refine br_t (by decide +kernel) ?_; (conv => whnf)) | (refine br_f (by decide +kernel) ?_; (conv => whnf))))
local macro_rules | `(tactic| walk_at "GO") => `(tactic| (((conv => whnf); repeat (walk_at "ONE"))))
local macro_rules | `(tactic| walk_at "GI") => `(tactic| (((conv => whnf); repeat (walk_at "ONI"))))
local macro_rules | `(tactic| walk_at "BB") => `(tactic| (first | rfl | (simp only [Bool.and_eq_true, Bool.or_eq_true, Bool.not_eq_true', Bool.and_eq_false_iff, Bool.not_eq_false', decide_eq_true_eq, decide_eq_false_iff_not, peq_int, List.length_map]; omega)))
mutual
/-- plain data, at most so deep, lists frozen, texts of code points -/
def okS : Nat → PV → Bool
  | _, .non => true
  | _, .bl _ => true
  | _, .int _ => true
  | _, .str s => PyData.strOk s
  | n + 1, .tup xs => decide (xs.length ≤ 1000) && okSs n xs
  | n + 1, .lst xs => decide (xs.length ≤ 1000) && okSs n xs
  | _, _ => false
def okSs : Nat → List PV → Bool
  | _, [] => true
  | n, x :: xs => okS n x && okSs n xs
end
theorem okSs_mem {n : Nat} : ∀ {xs : List PV}, okSs n xs = true → ∀ x ∈ xs, okS n x = true
  | [], _, x, hx => by cases hx
  | y :: ys, h, x, hx => by
    obtain ⟨h1, h2⟩ := ba (show (okS n y && okSs n ys) = true from h)
    rcases List.mem_cons.mp hx with rfl | hx
    · exact h1
    · exact okSs_mem h2 x hx
theorem okSs_of {n : Nat} : ∀ {xs : List PV}, (∀ x ∈ xs, okS n x = true) → okSs n xs = true
  | [], _ => rfl
  | x :: xs, h => by
    show (okS n x && okSs n xs) = true
    rw [h x (by simp), okSs_of fun y hy => h y (by simp [hy])]; rfl
theorem okS_lst {n : Nat} {xs : List PV} (hl : xs.length ≤ 1000) (h : ∀ x ∈ xs, okS n x = true) : okS (n + 1) (.lst xs) = true := by
  show (decide (xs.length ≤ 1000) && okSs n xs) = true
  rw [decide_eq_true hl, okSs_of h]; rfl
theorem okS_tup {n : Nat} {xs : List PV} (hl : xs.length ≤ 1000) (h : ∀ x ∈ xs, okS n x = true) : okS (n + 1) (.tup xs) = true := by
  show (decide (xs.length ≤ 1000) && okSs n xs) = true
  rw [decide_eq_true hl, okSs_of h]; rfl
theorem peq_self_bl {b : Bool} : peq (.bl b) (.bl b) = true := by cases b <;> rfl
theorem peq_self_int {i : Int} : peq (.int i) (.int i) = true := by rw [peq_int, decide_eq_true rfl]
theorem peq_self_str {s : Str} : peq (.str s) (.str s) = true := beq_self_eq_true s
def sp_same (n : Nat) : ZSp := fun vs M Q _ => ∃ x, vs = [x, x] ∧ okS n x = true ∧ Q (.bl true) M
theorem o_same_0 (Φ : Nat → ZSp) (vs : List PV) (M : Mh) (Q : ZQ) (E : ZX) (h : sp_same 0 vs M Q E) : vs.length = 2 ∧ Reach M fun M1 => inl Φ 3 2 b__law_same_0 vs M1 Q E := by
  obtain ⟨x, rfl, hx, hq⟩ := h
  refine ⟨rfl, .done ⟨rfl, ?_⟩⟩
  cases x with
  | non => walk_at "GO"; exact Qw.here hq
  | bl b => walk_at "GO"; rw [peq_self_bl]; exact Qw.here hq
  | int i => walk_at "GO"; rw [peq_self_int]; exact Qw.here hq
  | str s =>
    walk_at "GO"
    refine ⟨⟨hx, hx⟩, ?_⟩
    (conv => whnf)
    rw [peq_self_str]
    exact Qw.here hq
  | _ => cases hx
theorem o_same_1 (Φ : Nat → ZSp) (h1 : Φ 42 = sp_same 0) (vs : List PV) (M : Mh) (Q : ZQ) (E : ZX) (h : sp_same 1 vs M Q E) : vs.length = 2 ∧ Reach M fun M1 => inl Φ 3 2 b__law_same_1 vs M1 Q E := by
  obtain ⟨x, rfl, hx, hq⟩ := h
  refine ⟨rfl, .done ⟨rfl, ?_⟩⟩
  cases x with
  | non => walk_at "GO"; exact Qw.here hq
  | bl b => walk_at "GO"; rw [peq_self_bl]; exact Qw.here hq
  | int i => walk_at "GO"; rw [peq_self_int]; exact Qw.here hq
  | str s =>
    walk_at "GO"
    refine ⟨⟨hx, hx⟩, ?_⟩
    (conv => whnf)
    rw [peq_self_str]
    exact Qw.here hq
  | lst xs =>
    obtain ⟨hl, hx⟩ := ba (show (decide (xs.length ≤ 1000) && okSs 0 xs) = true from hx)
    have hl := of_decide_eq_true hl
    have hb : -(2 ^ 62 : Int) ≤ (xs.length : Nat) ∧ ((xs.length : Nat) : Int) < 2 ^ 62 := by omega
    walk_at "GO"
    refine br_nint (fun c => absurd rfl c) fun _ => ?_
    walk_at "GO"
    refine it_ind (fun us σ M' => ∃ o : Option PV, (∀ x ∈ us, ∃ i : Nat, i < xs.length ∧ x = .int (0 + (i : Nat))) ∧ σ = [some (.lst xs), some (.lst xs), o] ∧ M' = M) ⟨none, fun x hx => ?_, rfl, rfl⟩ ?_ ?_
    · obtain ⟨i, hi, e⟩ := mem_range hx
      exact ⟨i, hi, e⟩
    · rintro σ M' ⟨o, hr, rfl, rfl⟩
      walk_at "GO"
      exact Qw.here hq
    · rintro x rr σ M' ⟨o, hr, rfl, rfl⟩ L hL
      obtain ⟨i, hi, rfl⟩ := hr x (by simp)
      have pk : pick xs (0 + (i : Nat)) = some xs[i] := by
        rw [Int.zero_add]
        show xs[i]? = _
        rw [List.getElem?_eq_getElem hi]
      walk_at "GO"
      rw [h1]
      refine ⟨xs[i], rfl, okSs_mem hx _ (List.getElem_mem hi), ?_⟩
      walk_at "GO"
      exact hL _ _ ⟨_, fun y hy => hr y (by simp [hy]), rfl, rfl⟩
  | tup xs =>
    obtain ⟨hl, hx⟩ := ba (show (decide (xs.length ≤ 1000) && okSs 0 xs) = true from hx)
    have hl := of_decide_eq_true hl
    have hb : -(2 ^ 62 : Int) ≤ (xs.length : Nat) ∧ ((xs.length : Nat) : Int) < 2 ^ 62 := by omega
    walk_at "GO"
    refine br_nint (fun c => absurd rfl c) fun _ => ?_
    walk_at "GO"
    refine it_ind (fun us σ M' => ∃ o : Option PV, (∀ x ∈ us, ∃ i : Nat, i < xs.length ∧ x = .int (0 + (i : Nat))) ∧ σ = [some (.tup xs), some (.tup xs), o] ∧ M' = M) ⟨none, fun x hx => ?_, rfl, rfl⟩ ?_ ?_
    · obtain ⟨i, hi, e⟩ := mem_range hx
      exact ⟨i, hi, e⟩
    · rintro σ M' ⟨o, hr, rfl, rfl⟩
      walk_at "GO"
      exact Qw.here hq
    · rintro x rr σ M' ⟨o, hr, rfl, rfl⟩ L hL
      obtain ⟨i, hi, rfl⟩ := hr x (by simp)
      have pk : pick xs (0 + (i : Nat)) = some xs[i] := by
        rw [Int.zero_add]
        show xs[i]? = _
        rw [List.getElem?_eq_getElem hi]
      walk_at "GO"
      rw [h1]
      refine ⟨xs[i], rfl, okSs_mem hx _ (List.getElem_mem hi), ?_⟩
      walk_at "GO"
      exact hL _ _ ⟨_, fun y hy => hr y (by simp [hy]), rfl, rfl⟩
  | _ => cases hx
theorem o_same_2 (Φ : Nat → ZSp) (h1 : Φ 43 = sp_same 1) (vs : List PV) (M : Mh) (Q : ZQ) (E : ZX) (h : sp_same 2 vs M Q E) : vs.length = 2 ∧ Reach M fun M1 => inl Φ 3 2 b__law_same_2 vs M1 Q E := by
  obtain ⟨x, rfl, hx, hq⟩ := h
  refine ⟨rfl, .done ⟨rfl, ?_⟩⟩
  cases x with
  | non => walk_at "GO"; exact Qw.here hq
  | bl b => walk_at "GO"; rw [peq_self_bl]; exact Qw.here hq
  | int i => walk_at "GO"; rw [peq_self_int]; exact Qw.here hq
  | str s =>
    walk_at "GO"
    refine ⟨⟨hx, hx⟩, ?_⟩
    (conv => whnf)
    rw [peq_self_str]
    exact Qw.here hq
  | lst xs =>
    obtain ⟨hl, hx⟩ := ba (show (decide (xs.length ≤ 1000) && okSs 1 xs) = true from hx)
    have hl := of_decide_eq_true hl
    have hb : -(2 ^ 62 : Int) ≤ (xs.length : Nat) ∧ ((xs.length : Nat) : Int) < 2 ^ 62 := by omega
    walk_at "GO"
    refine br_nint (fun c => absurd rfl c) fun _ => ?_
    walk_at "GO"
    refine it_ind (fun us σ M' => ∃ o : Option PV, (∀ x ∈ us, ∃ i : Nat, i < xs.length ∧ x = .int (0 + (i : Nat))) ∧ σ = [some (.lst xs), some (.lst xs), o] ∧ M' = M) ⟨none, fun x hx => ?_, rfl, rfl⟩ ?_ ?_
    · obtain ⟨i, hi, e⟩ := mem_range hx
      exact ⟨i, hi, e⟩
    · rintro σ M' ⟨o, hr, rfl, rfl⟩
      walk_at "GO"
      exact Qw.here hq
    · rintro x rr σ M' ⟨o, hr, rfl, rfl⟩ L hL
      obtain ⟨i, hi, rfl⟩ := hr x (by simp)
      have pk : pick xs (0 + (i : Nat)) = some xs[i] := by
        rw [Int.zero_add]
        show xs[i]? = _
        rw [List.getElem?_eq_getElem hi]
      walk_at "GO"
      rw [h1]
      refine ⟨xs[i], rfl, okSs_mem hx _ (List.getElem_mem hi), ?_⟩
      walk_at "GO"
      exact hL _ _ ⟨_, fun y hy => hr y (by simp [hy]), rfl, rfl⟩
  | tup xs =>
    obtain ⟨hl, hx⟩ := ba (show (decide (xs.length ≤ 1000) && okSs 1 xs) = true from hx)
    have hl := of_decide_eq_true hl
    have hb : -(2 ^ 62 : Int) ≤ (xs.length : Nat) ∧ ((xs.length : Nat) : Int) < 2 ^ 62 := by omega
    walk_at "GO"
    refine br_nint (fun c => absurd rfl c) fun _ => ?_
    walk_at "GO"
    refine it_ind (fun us σ M' => ∃ o : Option PV, (∀ x ∈ us, ∃ i : Nat, i < xs.length ∧ x = .int (0 + (i : Nat))) ∧ σ = [some (.tup xs), some (.tup xs), o] ∧ M' = M) ⟨none, fun x hx => ?_, rfl, rfl⟩ ?_ ?_
    · obtain ⟨i, hi, e⟩ := mem_range hx
      exact ⟨i, hi, e⟩
    · rintro σ M' ⟨o, hr, rfl, rfl⟩
      walk_at "GO"
      exact Qw.here hq
    · rintro x rr σ M' ⟨o, hr, rfl, rfl⟩ L hL
      obtain ⟨i, hi, rfl⟩ := hr x (by simp)
      have pk : pick xs (0 + (i : Nat)) = some xs[i] := by
        rw [Int.zero_add]
        show xs[i]? = _
        rw [List.getElem?_eq_getElem hi]
      walk_at "GO"
      rw [h1]
      refine ⟨xs[i], rfl, okSs_mem hx _ (List.getElem_mem hi), ?_⟩
      walk_at "GO"
      exact hL _ _ ⟨_, fun y hy => hr y (by simp [hy]), rfl, rfl⟩
  | _ => cases hx
theorem o_same_3 (Φ : Nat → ZSp) (h1 : Φ 44 = sp_same 2) (vs : List PV) (M : Mh) (Q : ZQ) (E : ZX) (h : sp_same 3 vs M Q E) : vs.length = 2 ∧ Reach M fun M1 => inl Φ 3 2 b__law_same_3 vs M1 Q E := by
  obtain ⟨x, rfl, hx, hq⟩ := h
  refine ⟨rfl, .done ⟨rfl, ?_⟩⟩
  cases x with
  | non => walk_at "GO"; exact Qw.here hq
  | bl b => walk_at "GO"; rw [peq_self_bl]; exact Qw.here hq
  | int i => walk_at "GO"; rw [peq_self_int]; exact Qw.here hq
  | str s =>
    walk_at "GO"
    refine ⟨⟨hx, hx⟩, ?_⟩
    (conv => whnf)
    rw [peq_self_str]
    exact Qw.here hq
  | lst xs =>
    obtain ⟨hl, hx⟩ := ba (show (decide (xs.length ≤ 1000) && okSs 2 xs) = true from hx)
    have hl := of_decide_eq_true hl
    have hb : -(2 ^ 62 : Int) ≤ (xs.length : Nat) ∧ ((xs.length : Nat) : Int) < 2 ^ 62 := by omega
    walk_at "GO"
    refine br_nint (fun c => absurd rfl c) fun _ => ?_
    walk_at "GO"
    refine it_ind (fun us σ M' => ∃ o : Option PV, (∀ x ∈ us, ∃ i : Nat, i < xs.length ∧ x = .int (0 + (i : Nat))) ∧ σ = [some (.lst xs), some (.lst xs), o] ∧ M' = M) ⟨none, fun x hx => ?_, rfl, rfl⟩ ?_ ?_
    · obtain ⟨i, hi, e⟩ := mem_range hx
      exact ⟨i, hi, e⟩
    · rintro σ M' ⟨o, hr, rfl, rfl⟩
      walk_at "GO"
      exact Qw.here hq
    · rintro x rr σ M' ⟨o, hr, rfl, rfl⟩ L hL
      obtain ⟨i, hi, rfl⟩ := hr x (by simp)
      have pk : pick xs (0 + (i : Nat)) = some xs[i] := by
        rw [Int.zero_add]
        show xs[i]? = _
        rw [List.getElem?_eq_getElem hi]
      walk_at "GO"
      rw [h1]
      refine ⟨xs[i], rfl, okSs_mem hx _ (List.getElem_mem hi), ?_⟩
      walk_at "GO"
      exact hL _ _ ⟨_, fun y hy => hr y (by simp [hy]), rfl, rfl⟩
  | tup xs =>
    obtain ⟨hl, hx⟩ := ba (show (decide (xs.length ≤ 1000) && okSs 2 xs) = true from hx)
    have hl := of_decide_eq_true hl
    have hb : -(2 ^ 62 : Int) ≤ (xs.length : Nat) ∧ ((xs.length : Nat) : Int) < 2 ^ 62 := by omega
    walk_at "GO"
    refine br_nint (fun c => absurd rfl c) fun _ => ?_
    walk_at "GO"
    refine it_ind (fun us σ M' => ∃ o : Option PV, (∀ x ∈ us, ∃ i : Nat, i < xs.length ∧ x = .int (0 + (i : Nat))) ∧ σ = [some (.tup xs), some (.tup xs), o] ∧ M' = M) ⟨none, fun x hx => ?_, rfl, rfl⟩ ?_ ?_
    · obtain ⟨i, hi, e⟩ := mem_range hx
      exact ⟨i, hi, e⟩
    · rintro σ M' ⟨o, hr, rfl, rfl⟩
      walk_at "GO"
      exact Qw.here hq
    · rintro x rr σ M' ⟨o, hr, rfl, rfl⟩ L hL
      obtain ⟨i, hi, rfl⟩ := hr x (by simp)
      have pk : pick xs (0 + (i : Nat)) = some xs[i] := by
        rw [Int.zero_add]
        show xs[i]? = _
        rw [List.getElem?_eq_getElem hi]
      walk_at "GO"
      rw [h1]
      refine ⟨xs[i], rfl, okSs_mem hx _ (List.getElem_mem hi), ?_⟩
      walk_at "GO"
      exact hL _ _ ⟨_, fun y hy => hr y (by simp [hy]), rfl, rfl⟩
  | _ => cases hx
theorem o_same_4 (Φ : Nat → ZSp) (h1 : Φ 45 = sp_same 3) (vs : List PV) (M : Mh) (Q : ZQ) (E : ZX) (h : sp_same 4 vs M Q E) : vs.length = 2 ∧ Reach M fun M1 => inl Φ 3 2 b__law_same_4 vs M1 Q E := by
  obtain ⟨x, rfl, hx, hq⟩ := h
  refine ⟨rfl, .done ⟨rfl, ?_⟩⟩
  cases x with
  | non => walk_at "GO"; exact Qw.here hq
  | bl b => walk_at "GO"; rw [peq_self_bl]; exact Qw.here hq
  | int i => walk_at "GO"; rw [peq_self_int]; exact Qw.here hq
  | str s =>
    walk_at "GO"
    refine ⟨⟨hx, hx⟩, ?_⟩
    (conv => whnf)
    rw [peq_self_str]
    exact Qw.here hq
  | lst xs =>
    obtain ⟨hl, hx⟩ := ba (show (decide (xs.length ≤ 1000) && okSs 3 xs) = true from hx)
    have hl := of_decide_eq_true hl
    have hb : -(2 ^ 62 : Int) ≤ (xs.length : Nat) ∧ ((xs.length : Nat) : Int) < 2 ^ 62 := by omega
    walk_at "GO"
    refine br_nint (fun c => absurd rfl c) fun _ => ?_
    walk_at "GO"
    refine it_ind (fun us σ M' => ∃ o : Option PV, (∀ x ∈ us, ∃ i : Nat, i < xs.length ∧ x = .int (0 + (i : Nat))) ∧ σ = [some (.lst xs), some (.lst xs), o] ∧ M' = M) ⟨none, fun x hx => ?_, rfl, rfl⟩ ?_ ?_
    · obtain ⟨i, hi, e⟩ := mem_range hx
      exact ⟨i, hi, e⟩
    · rintro σ M' ⟨o, hr, rfl, rfl⟩
      walk_at "GO"
      exact Qw.here hq
    · rintro x rr σ M' ⟨o, hr, rfl, rfl⟩ L hL
      obtain ⟨i, hi, rfl⟩ := hr x (by simp)
      have pk : pick xs (0 + (i : Nat)) = some xs[i] := by
        rw [Int.zero_add]
        show xs[i]? = _
        rw [List.getElem?_eq_getElem hi]
      walk_at "GO"
      rw [h1]
      refine ⟨xs[i], rfl, okSs_mem hx _ (List.getElem_mem hi), ?_⟩
      walk_at "GO"
      exact hL _ _ ⟨_, fun y hy => hr y (by simp [hy]), rfl, rfl⟩
  | tup xs =>
    obtain ⟨hl, hx⟩ := ba (show (decide (xs.length ≤ 1000) && okSs 3 xs) = true from hx)
    have hl := of_decide_eq_true hl
    have hb : -(2 ^ 62 : Int) ≤ (xs.length : Nat) ∧ ((xs.length : Nat) : Int) < 2 ^ 62 := by omega
    walk_at "GO"
    refine br_nint (fun c => absurd rfl c) fun _ => ?_
    walk_at "GO"
    refine it_ind (fun us σ M' => ∃ o : Option PV, (∀ x ∈ us, ∃ i : Nat, i < xs.length ∧ x = .int (0 + (i : Nat))) ∧ σ = [some (.tup xs), some (.tup xs), o] ∧ M' = M) ⟨none, fun x hx => ?_, rfl, rfl⟩ ?_ ?_
    · obtain ⟨i, hi, e⟩ := mem_range hx
      exact ⟨i, hi, e⟩
    · rintro σ M' ⟨o, hr, rfl, rfl⟩
      walk_at "GO"
      exact Qw.here hq
    · rintro x rr σ M' ⟨o, hr, rfl, rfl⟩ L hL
      obtain ⟨i, hi, rfl⟩ := hr x (by simp)
      have pk : pick xs (0 + (i : Nat)) = some xs[i] := by
        rw [Int.zero_add]
        show xs[i]? = _
        rw [List.getElem?_eq_getElem hi]
      walk_at "GO"
      rw [h1]
      refine ⟨xs[i], rfl, okSs_mem hx _ (List.getElem_mem hi), ?_⟩
      walk_at "GO"
      exact hL _ _ ⟨_, fun y hy => hr y (by simp [hy]), rfl, rfl⟩
  | _ => cases hx
end HT
set_option Elab.async false
set_option linter.all false
set_option maxRecDepth 100000
set_option maxHeartbeats 1000000
namespace HT
open PySem PySem.Spec PyProof.Rows L2 Z
/-! ### texts -/
abbrev dS (i : Int) : Str := toString i
theorem small_cases {P : Int → Prop} {i : Int} (h : 0 ≤ i ∧ i ≤ 12) (k : ∀ n : Nat, n < 13 → P (n : Int)) : P i := by
  obtain ⟨n, rfl⟩ := Int.eq_ofNat_of_zero_le h.1
  exact k n (by omega)
theorem dS_len {i : Int} (h : 0 ≤ i ∧ i ≤ 12) : (dS i).length ≤ 2 := small_cases (P := fun i => (dS i).length ≤ 2) h (by decide +kernel)
theorem dS_ok {i : Int} (h : 0 ≤ i ∧ i ≤ 12) : PyData.strOk (dS i) = true := small_cases (P := fun i => PyData.strOk (dS i) = true) h (by decide +kernel)
theorem dS_log {i : Int} (h : 0 ≤ i ∧ i ≤ 12) : i.natAbs.log2 < 1920 := small_cases (P := fun i => i.natAbs.log2 < 1920) h (by decide +kernel)
theorem len_app' {a b : Str} {n m : Nat} (h1 : a.length ≤ n) (h2 : b.length ≤ m) : (a ++ b).length ≤ n + m := by rw [Str.length_append]; omega
theorem len_t {s : Str} {n : Nat} (h : s.length ≤ n) (hn : n ≤ 500) : s.length ≤ 500 := Nat.le_trans h hn
theorem len2 {a b : Str} (h1 : a.length ≤ 500) (h2 : b.length ≤ 500) : a.length + b.length ≤ sizeLine := by rw [sizeLine_eq]; omega
theorem lenF {a : Str} (h1 : a.length ≤ 500) : a.length ≤ sizeLine := by rw [sizeLine_eq]; omega
theorem ok_app {a b : Str} (h1 : PyData.strOk a = true) (h2 : PyData.strOk b = true) : PyData.strOk (a ++ b) = true := by
  unfold PyData.strOk at *
  rw [Str.cps_append, Array.all_append, h1, h2]
  rfl
/-- short and well -/
structure Rw (s : Str) : Prop where
  len : s.length ≤ 100
  ok : PyData.strOk s = true
def taskRow : PV → Str
  | .tup [.int a, .int b] => "task " ++ dS a ++ " " ++ dS b
  | _ => ""
def pageRow (v : Int) : PV → Str
  | .int k => "page " ++ dS v ++ " line " ++ dS k
  | _ => "page " ++ dS v
def portRow : PV → Str
  | .int k => "port " ++ dS k
  | _ => ""
def slotRow : PV → Str
  | .tup [.int a, .int b] => "  " ++ dS a ++ " " ++ dS b
  | _ => ""
def planRows : PV → List Str
  | .tup [_, .int k] => ["levels " ++ dS k]
  | .tup [_, .lst rows] => "slots" :: rows.map slotRow
  | _ => []
def outRows : PV → List Str
  | .tup [.int a, .int b] => ["outside " ++ dS a ++ " " ++ dS b]
  | _ => []
def flagRows (b0 b1 b2 b3 : Bool) : List Str := (if b0 then [("wipe" : Str)] else []) ++ ((if b1 then [("pad" : Str)] else []) ++ ((if b2 then [("lend" : Str)] else []) ++ (if b3 then [("share" : Str)] else [])))
def rightRow (k : Int) : PV → Str
  | .tup [.str w, .int i] => "right " ++ dS k ++ " " ++ w ++ " " ++ dS i
  | _ => ""
def rightRowsAt (rs : List (List PV)) : PV → List Str
  | .int k => (rs.getD k.toNat []).map (rightRow k)
  | _ => []
def pageRowsAt (ps : List Int) (ls : List PV) : PV → List Str
  | .int k => [pageRow (ps.getD k.toNat 0) (ls.getD k.toNat .non)]
  | _ => []
def rowsOf (p : Pt) : List Str := ((((((((p.ts.map pr2).map taskRow ++ (rangeL 0 p.ps.length).flatMap (pageRowsAt p.ps p.ls)) ++ (p.qs.map PV.int).map portRow) ++ ["locks " ++ dS p.nl]) ++ ["frames " ++ dS p.fr]) ++ ["disk " ++ dS p.dk]) ++ ["costs " ++ dS p.c0 ++ " " ++ dS p.c1 ++ " " ++ dS p.c2]) ++ planRows p.pl) ++ outRows p.ou ++ flagRows p.b0 p.b1 p.b2 p.b3 ++ (rangeL 0 p.rs.length).flatMap (rightRowsAt p.rs)
theorem acc_loop {still : Mh → Prop} {step : PV → Zs → Mh → (Zs → Mh → Prop) → Prop} {done : Zs → Mh → Prop} {a : Addr} {M : Mh} (S : Zs → Prop) (g : PV → List Str) (m : Nat) (xs : List PV) (acc0 : List Str) {σ : Zs} (hS : S σ) (hm : acc0.length + xs.length * m ≤ 1000) (hg : ∀ x ∈ xs, (g x).length ≤ m)
    (hst : ∀ acc, still (put M a (.lst acc))) (hd : ∀ σ, S σ → done σ (put M a (.lst ((acc0 ++ xs.flatMap g).map PV.str))))
    (hs : ∀ x ∈ xs, ∀ σ (acc : List Str), S σ → acc.length + m ≤ 1000 → ∀ L : Zs → Mh → Prop, (∀ σ', S σ' → L σ' (put M a (.lst ((acc ++ g x).map PV.str)))) → step x σ (put M a (.lst (acc.map PV.str))) L) : iter still step done xs σ (put M a (.lst (acc0.map PV.str))) := by
  induction xs generalizing acc0 σ with
  | nil => exact ⟨hst _, by have := hd σ hS; rwa [List.flatMap_nil, List.append_nil] at this⟩
  | cons x r ih =>
    rw [List.length_cons, Nat.add_mul, Nat.one_mul] at hm
    refine ⟨hst _, hs x (by simp) σ acc0 hS (by omega) _ fun σ' hS' => ?_⟩
    refine ih (acc0 ++ g x) hS' (by rw [List.length_append]; have := hg x (by simp); omega) (fun y hy => hg y (by simp [hy])) (fun σ2 h2 => ?_) fun y hy => hs y (by simp [hy])
    have := hd σ2 h2
    rwa [List.flatMap_cons, ← List.append_assoc] at this
end HT
set_option Elab.async false
set_option linter.all false
set_option maxRecDepth 100000
set_option maxHeartbeats 1000000
namespace HT
open PySem PySem.Spec PyProof.Rows L2 Z
local macro_rules | `(tactic| walk_at "HL") => `(tactic| (first | assumption | exact put_same | (rw [put_ne (by first | assumption | (apply Ne.symm; assumption))]; first | assumption | exact put_same | (rw [put_ne (by first | assumption | (apply Ne.symm; assumption))]; first | assumption | exact put_same | (rw [put_ne (by first | assumption | (apply Ne.symm; assumption))]; first | assumption | exact put_same)))))
local macro_rules | `(tactic| walk_at "ONE") => `(tactic| (first | (refine And.intro rfl ?_; (conv => whnf)) | (refine And.intro True.intro ?_; (conv => whnf)) | (refine And.intro (Exists.intro _ (by walk_at "HL")) ?_; (conv => whnf)) | (refine And.intro (by walk_at "HL") ?_; (conv => whnf)) | (refine And.intro (And.intro rfl rfl) ?_; (conv => whnf)) | (refine And.intro (Nat.le_of_ble_eq_true rfl) ?_; (conv => whnf)) | (refine And.intro (by decide) ?_; (conv => whnf)) | (refine And.intro (by omega) ?_; (conv => whnf)) | (refine Exists.intro _ (And.intro (by walk_at "HL") ?_); (conv => whnf)) | (refine Exists.intro _ (And.intro rfl ?_); (conv => whnf)) | (refine Exists.intro _ (Exists.intro _ (And.intro (by walk_at "HL") (And.intro rfl ?_))); (conv => whnf)) | (refine Exists.intro _ (Exists.intro _ (And.intro (by walk_at "HL") (And.intro (And.intro (by decide) rfl) ?_))); (conv => whnf)) | (refine Exists.intro _ (Exists.intro _ (And.intro rfl (And.intro rfl ?_))); (conv => whnf)) | (refine br_t rfl ?_; (conv => whnf)) | (refine br_f rfl ?_; (conv => whnf)) | (refine And.intro (And.intro (by decide +kernel) (by decide +kernel)) ?_; (conv => whnf)) | (refine br_t (by decide +kernel) ?_; (conv => whnf)) | (refine br_f (by decide +kernel) ?_; (conv => whnf))))
local macro_rules | `(tactic| walk_at "ONI") => `(tactic| (first | (refine Qw.here ?_; (conv => whnf)) | (refine br_t (decide_eq_true (by omega)) ?_; (conv => whnf)) | (refine br_f (decide_eq_false (by omega)) ?_; (conv => whnf)) | (refine And.intro rfl ?_; (conv => whnf)) | (refine And.intro True.intro ?_; (conv => whnf)) | (refine And.intro (Exists.intro _ (by walk_at "HL")) ?_; (conv => whnf)) | (refine And.intro (by walk_at "HL") ?_; (conv => whnf)) | (refine And.intro (And.intro rfl rfl) ?_; (conv => whnf)) | (refine And.intro (Nat.le_of_ble_eq_true rfl) ?_; (conv => whnf)) | (refine And.intro (by decide) ?_; (conv => whnf)) | (refine And.intro (by omega) ?_; (conv => whnf)) | (refine Exists.intro _ (And.intro (by walk_at "HL") ?_); (conv => whnf)) | (refine Exists.intro _ (And.intro rfl ?_); (conv => whnf)) | (refine Exists.intro _ (Exists.intro _ (And.intro (by walk_at "HL") (And.intro rfl ?_))); (conv => whnf)) | (refine Exists.intro _ (Exists.intro _ (And.intro (by walk_at "HL") (And.intro (And.intro (by decide) rfl) ?_))); (conv => whnf)) | (refine Exists.intro _ (Exists.intro _ (And.intro rfl (And.intro rfl ?_))); (conv => whnf)) | (refine br_t rfl ?_; (conv => whnf)) | (refine br_f rfl ?_; (conv => whnf)) | (refine And.intro (And.intro (by decide +kernel) (by decide +kernel)) ?_; (conv => whnf)) | (refine br_t (by decide +kernel) ?_; (conv => whnf)) | (refine br_f (by decide +kernel) ?_; (conv => whnf))))
local macro_rules | `(tactic| walk_at "GO") => `(tactic| (((conv => whnf); repeat (walk_at "ONE"))))
local macro_rules | `(tactic| walk_at "GI") => `(tactic| (((conv => whnf); repeat (walk_at "ONI"))))
local macro_rules | `(tactic| walk_at "BB") => `(tactic| (first | rfl | (simp only [Bool.and_eq_true, Bool.or_eq_true, Bool.not_eq_true', Bool.and_eq_false_iff, Bool.not_eq_false', decide_eq_true_eq, decide_eq_false_iff_not, peq_int, List.length_map]; omega)))
local macro_rules | `(tactic| walk_at "LEN") => `(tactic| (repeat' (first | with_reducible apply len_app' | assumption | exact Nat.le_refl _)))
local macro_rules | `(tactic| walk_at "TX1") => `(tactic| (first | walk_at "ONE" | (apply And.intro; (first | (with_reducible apply dS_log; omega) | (with_reducible apply len2 <;> (apply len_t; (focus (walk_at "LEN")); decide +kernel)) | (with_reducible apply lenF; (apply len_t; (focus (walk_at "LEN")); decide +kernel))); (conv => whnf))))
local macro_rules | `(tactic| walk_at "TX") => `(tactic| (((conv => whnf); repeat (walk_at "TX1"))))
def sp_page_text : ZSp := fun vs M Q _ => ∃ (v : Int) (l : PV), vs = [.int v, l] ∧ (0 ≤ v ∧ v ≤ 1) ∧ (l = .non ∨ l = .int 0 ∨ l = .int 1) ∧ Q (.str (pageRow v l)) M
def sp_plan_texts : ZSp := fun vs M Q _ => ∃ (n : Nat) (p : PV), vs = [frz p] ∧ n ≤ 4 ∧ PlanP n p ∧ Q (.lst ((planRows p).map PV.str)) M
def sp_flag_texts : ZSp := fun vs M Q _ => ∃ p : Pt, vs = [.ins 0 p.flds] ∧ Q (.lst ((flagRows p.b0 p.b1 p.b2 p.b3).map PV.str)) M
def sp_right_words : ZSp := fun vs M Q _ => ∃ (w : Str) (i : Int), vs = [rgt w i] ∧ w.length ≤ 5 ∧ (0 ≤ i ∧ i ≤ 12) ∧ Q (.str (w ++ " " ++ dS i)) M
theorem o_page_text (Φ : Nat → ZSp) (vs : List PV) (M : Mh) (Q : ZQ) (E : ZX) (h : sp_page_text vs M Q E) : vs.length = 2 ∧ Reach M fun M1 => inl Φ 2 2 b_page_text vs M1 Q E := by
  obtain ⟨v, l, rfl, hv, hl, hq⟩ := h
  have l1 := dS_len (i := v) (by omega)
  have l0 := dS_len (i := 0) (by omega)
  have l2 := dS_len (i := 1) (by omega)
  refine ⟨rfl, .done ⟨rfl, ?_⟩⟩
  rcases hl with rfl | rfl | rfl
  · walk_at "TX"
    exact Qw.here hq
  · walk_at "TX"
    exact Qw.here hq
  · walk_at "TX"
    exact Qw.here hq
theorem o_right_words (Φ : Nat → ZSp) (vs : List PV) (M : Mh) (Q : ZQ) (E : ZX) (h : sp_right_words vs M Q E) : vs.length = 1 ∧ Reach M fun M1 => inl Φ 1 1 b_right_words vs M1 Q E := by
  obtain ⟨w, i, rfl, hw, hi, hq⟩ := h
  have l1 := dS_len hi
  refine ⟨rfl, .done ⟨rfl, ?_⟩⟩
  walk_at "TX"
  exact Qw.here hq
theorem o_plan_texts (Φ : Nat → ZSp) (vs : List PV) (M : Mh) (Q : ZQ) (E : ZX) (h : sp_plan_texts vs M Q E) : vs.length = 1 ∧ Reach M fun M1 => inl Φ 3 1 b_plan_texts vs M1 Q E := by
  obtain ⟨n, p, rfl, hn, hp, hq⟩ := h
  refine ⟨rfl, .done ⟨rfl, ?_⟩⟩
  rcases hp with ⟨k, hk, rfl⟩ | ⟨rows, hl, hr, rfl⟩
  · have l1 := dS_len (i := k) (by omega)
    walk_at "TX"
    exact Qw.here hq
  · walk_at "TX"
    intro D hD
    refine lc_mapF (fun x => .str (slotRow x)) hD (by rw [List.length_map]; omega) (fun _ => trivial) ?_ ?_
    · intro x hx acc kk hk
      obtain ⟨t, ht, rfl⟩ := List.mem_map.mp hx
      have h1 := (hr t ht).1
      have h2 := (hr t ht).2
      have l1 := dS_len (i := t.1) (by omega)
      have l2 := dS_len (i := t.2) (by omega)
      walk_at "TX"
      rw [Str.empty_append]
      exact hk
    (conv => whnf)
    refine ⟨by rw [sizeLine_eq]; simp only [List.length_map, List.length_cons, List.length_nil]; omega, ?_⟩
    intro q hq'
    refine ⟨_, put_same, ?_⟩
    rw [put_del hq']
    have e : [PV.str "slots"] ++ (rows.map pr2).map (fun x => PV.str (slotRow x)) = (planRows (.tup [.str "slots", .lst (rows.map pr2)])).map PV.str := by
      show _ = PV.str "slots" :: ((rows.map pr2).map slotRow).map PV.str
      rw [List.map_map (f := slotRow)]
      rfl
    rw [← e] at hq
    exact Qw.here hq
def flagIt : PV → Option PV
  | .tup [.str w, .bl b] => if b then some (.str w) else none
  | _ => none
theorem o_flag_texts (Φ : Nat → ZSp) (vs : List PV) (M : Mh) (Q : ZQ) (E : ZX) (h : sp_flag_texts vs M Q E) : vs.length = 1 ∧ Reach M fun M1 => inl Φ 4 1 b_flag_texts vs M1 Q E := by
  obtain ⟨p, rfl, hq⟩ := h
  refine ⟨rfl, .done ⟨rfl, ?_⟩⟩
  walk_at "GO"
  intro D hD
  refine lc_fmF flagIt hD (Nat.le_of_ble_eq_true rfl) (fun _ => trivial) ?_ ?_
  · intro x hx acc k hk
    have : ∃ w b, x = .tup [.str w, .bl b] := by
      simp only [List.mem_cons, List.not_mem_nil, or_false] at hx
      rcases hx with rfl | rfl | rfl | rfl <;> exact ⟨_, _, rfl⟩
    obtain ⟨w, b, rfl⟩ := this
    cases b <;> (walk_at "GO"; exact hk)
  · have e : ([.tup [.str "wipe", .bl p.b0], .tup [.str "pad", .bl p.b1], .tup [.str "lend", .bl p.b2], .tup [.str "share", .bl p.b3]] : List PV).filterMap flagIt = (flagRows p.b0 p.b1 p.b2 p.b3).map PV.str := by
      generalize p.b0 = b0
      generalize p.b1 = b1
      generalize p.b2 = b2
      generalize p.b3 = b3
      cases b0 <;> cases b1 <;> cases b2 <;> cases b3 <;> rfl
    rw [← e] at hq
    exact Qw.here hq
end HT
set_option Elab.async false
set_option linter.all false
set_option maxRecDepth 100000
set_option maxHeartbeats 1000000
namespace HT
open PySem PySem.Spec PyProof.Rows L2 Z
def SL.dr : Nat → SL → SL
  | 0, s => s
  | n + 1, s => SL.dr n (SL.tl s)
theorem le_line {n : Nat} (h : n ≤ 5000) : n ≤ sizeLine := by rw [sizeLine_eq]; omega
theorem lt_line {n : Nat} (h : n ≤ 5000) : n < sizeLine := by rw [sizeLine_eq]; omega
theorem map_snoc {acc : List Str} {s : Str} : acc.map PV.str ++ [.str s] = (acc ++ [s]).map PV.str := by rw [List.map_append]; rfl
theorem map_app {acc xs : List Str} : acc.map PV.str ++ xs.map PV.str = (acc ++ xs).map PV.str := by rw [List.map_append]
theorem join_ok {ys : List Str} (h : ∀ s ∈ ys, s.length ≤ 100) (hl : ys.length ≤ 1000) : (ys.map (·.length)).sum + ys.length * (("\n" : Str)).length ≤ 16777216 := by
  have e : (("\n" : Str)).length = 1 := by decide +kernel
  have : ∀ zs : List Str, (∀ s ∈ zs, s.length ≤ 100) → (zs.map (·.length)).sum ≤ zs.length * 100 := by
    intro zs
    induction zs with
    | nil => intro _; exact Nat.le_refl _
    | cons z zs ih =>
      intro h
      rw [List.map_cons, List.sum_cons, List.length_cons]
      have h1 := h z (by simp)
      have h2 := ih fun s hs => h s (by simp [hs])
      omega
  have := this ys h
  rw [e]
  omega
theorem getD_of {α : Type} {xs : List α} {i : Nat} {d : α} (h : i < xs.length) : xs.getD i d = xs[i] := by
  rw [List.getD_eq_getElem?_getD, List.getElem?_eq_getElem h]; rfl
theorem pick_at {xs : List PV} {i : Nat} (h : i < xs.length) : pick xs (0 + (i : Nat)) = some xs[i] := by
  rw [Int.zero_add]
  show xs[i]? = _
  rw [List.getElem?_eq_getElem h]
theorem dS_app3 {a b c d e : Str} : a ++ (b ++ c ++ d) = a ++ b ++ c ++ d := by simp only [Str.append_assoc]
/-- a right's word is short -/
theorem word_len {nt np nq nl : Nat} {dk : Int} {x : PV} (h : x ∈ pool nt np nq nl dk) (hn : nt ≤ 4 ∧ np ≤ 4 ∧ nq ≤ 4 ∧ nl ≤ 4) : ∃ (s : Str) (k : Int), x = rgt s k ∧ s.length ≤ 5 ∧ PyData.strOk s = true ∧ 0 ≤ k ∧ k ≤ 12 := by
  unfold pool at h
  simp only [List.mem_append] at h
  have mk : ∀ {s : Str} {n : Nat}, x ∈ rowOf s n → n ≤ 4 → s.length ≤ 5 → PyData.strOk s = true → ∃ (s : Str) (k : Int), x = rgt s k ∧ s.length ≤ 5 ∧ PyData.strOk s = true ∧ 0 ≤ k ∧ k ≤ 12 := fun {s n} hx h1 h2 h3 => by
    obtain ⟨k, hk, e⟩ := row_mem hx
    exact ⟨s, k, e, h2, h3, by omega, by omega⟩
  rcases h with ((((((h | h) | h) | h) | h) | h) | h) | h
  · exact mk h hn.1 (by decide +kernel) (by decide +kernel)
  · exact mk h hn.2.2.2 (by decide +kernel) (by decide +kernel)
  · exact mk h hn.2.1 (by decide +kernel) (by decide +kernel)
  · by_cases c : 0 < dk
    · rw [if_pos c, List.mem_singleton] at h
      exact ⟨"seek", 0, h, by decide +kernel, by decide +kernel, by omega, by omega⟩
    · rw [if_neg c] at h; cases h
  · exact mk h hn.2.2.1 (by decide +kernel) (by decide +kernel)
  · exact mk h hn.1 (by decide +kernel) (by decide +kernel)
  · exact mk h hn.2.2.1 (by decide +kernel) (by decide +kernel)
  · exact mk h hn.2.1 (by decide +kernel) (by decide +kernel)
theorem Pt.Ok.word {p : Pt} (ok : p.Ok) {r : List PV} (hr : r ∈ p.rs) {x : PV} (hx : x ∈ r) : ∃ (s : Str) (k : Int), x = rgt s k ∧ s.length ≤ 5 ∧ PyData.strOk s = true ∧ 0 ≤ k ∧ k ≤ 12 :=
  word_len ((ok.r2 r hr).1.subset hx) ⟨ok.t1.2, by have := ok.p1; omega, by have := ok.q1; omega, by have := ok.l1; omega⟩
theorem rights_at {p : Pt} (ok : p.Ok) {i : Nat} (hi : i < p.rs.length) : (rightRowsAt p.rs (.int (0 + (i : Nat)))).length ≤ 8 ∧ rightRowsAt p.rs (.int (0 + (i : Nat))) = (p.rs[i]).map (rightRow (0 + (i : Nat))) := by
  have e : rightRowsAt p.rs (.int (0 + (i : Nat))) = (p.rs[i]).map (rightRow (0 + (i : Nat))) := by
    show (p.rs.getD (Int.toNat (0 + (i : Nat))) []).map _ = _
    rw [show Int.toNat (0 + (i : Nat)) = i by omega, getD_of hi]
  refine ⟨?_, e⟩
  rw [e, List.length_map]
  exact (ok.r2 _ (List.getElem_mem hi)).2
theorem Rw.app {a b : Str} (h1 : Rw a) (h2 : Rw b) (h : a.length + b.length ≤ 100) : Rw (a ++ b) := ⟨by rw [Str.length_append]; exact h, ok_app h1.ok h2.ok⟩
theorem Rw.d {i : Int} (h : 0 ≤ i ∧ i ≤ 12) : Rw (dS i) := ⟨by have := dS_len h; omega, dS_ok h⟩
theorem rw_lit {s : Str} (h : (decide (s.length ≤ 100) && PyData.strOk s) = true) : Rw s := by
  obtain ⟨h1, h2⟩ := ba h
  exact ⟨of_decide_eq_true h1, h2⟩
end HT
set_option Elab.async false
set_option linter.all false
set_option maxRecDepth 100000
set_option maxHeartbeats 1000000
namespace HT
open PySem PySem.Spec PyProof.Rows L2 Z
theorem rw4 {a b : Int} {x y : Str} (hx : (decide (x.length ≤ 20) && PyData.strOk x) = true) (hy : (decide (y.length ≤ 20) && PyData.strOk y) = true) (ha : 0 ≤ a ∧ a ≤ 12) (hb : 0 ≤ b ∧ b ≤ 12) : Rw (x ++ dS a ++ y ++ dS b) := by
  obtain ⟨h1, h2⟩ := ba hx
  obtain ⟨h3, h4⟩ := ba hy
  have h1 := of_decide_eq_true h1
  have h3 := of_decide_eq_true h3
  have l1 := dS_len ha
  have l2 := dS_len hb
  exact ⟨by simp only [Str.length_append]; omega, ok_app (ok_app (ok_app h2 (dS_ok ha)) h4) (dS_ok hb)⟩
theorem rw2 {a : Int} {x : Str} (hx : (decide (x.length ≤ 20) && PyData.strOk x) = true) (ha : 0 ≤ a ∧ a ≤ 12) : Rw (x ++ dS a) := by
  obtain ⟨h1, h2⟩ := ba hx
  have h1 := of_decide_eq_true h1
  have l1 := dS_len ha
  exact ⟨by simp only [Str.length_append]; omega, ok_app h2 (dS_ok ha)⟩
theorem mem1 {b : Bool} {s x : Str} (h : s ∈ (if b then [x] else [])) : s = x := by
  cases b
  · cases h
  · exact List.mem_singleton.mp h
theorem rows_rw {p : Pt} (ok : p.Ok) : ∀ s ∈ rowsOf p, Rw s := by
  intro s hs
  unfold rowsOf at hs
  simp only [List.mem_append] at hs
  rcases hs with ((((((((((h | h) | h) | h) | h) | h) | h) | h) | h) | h) | h)
  · obtain ⟨x, hx, rfl⟩ := List.mem_map.mp h
    obtain ⟨t, ht, rfl⟩ := List.mem_map.mp hx
    have := ok.t2 t ht
    exact rw4 (by decide +kernel) (by decide +kernel) (by omega) (by omega)
  · obtain ⟨x, hx, h⟩ := List.mem_flatMap.mp h
    obtain ⟨i, hi, rfl⟩ := mem_range hx
    have hl : i < p.ls.length := by rw [ok.s1]; exact hi
    have e : pageRowsAt p.ps p.ls (.int (0 + (i : Nat))) = [pageRow p.ps[i] p.ls[i]] := by
      show [pageRow (p.ps.getD (Int.toNat (0 + (i : Nat))) 0) (p.ls.getD (Int.toNat (0 + (i : Nat))) .non)] = _
      rw [show Int.toNat (0 + (i : Nat)) = i by omega, getD_of hi, getD_of hl]
    rw [e, List.mem_singleton] at h
    subst h
    have hp := ok.p2 _ (List.getElem_mem hi)
    rcases ok.s2 _ (List.getElem_mem hl) with e | e | e <;> rw [e]
    · exact rw2 (by decide +kernel) (by omega)
    · exact rw4 (by decide +kernel) (by decide +kernel) (by omega) (by omega)
    · exact rw4 (by decide +kernel) (by decide +kernel) (by omega) (by omega)
  · obtain ⟨x, hx, rfl⟩ := List.mem_map.mp h
    obtain ⟨t, ht, rfl⟩ := List.mem_map.mp hx
    have := ok.q2 t ht
    exact rw2 (by decide +kernel) (by omega)
  · rw [List.mem_singleton] at h; subst h; have := ok.l1; exact rw2 (by decide +kernel) (by omega)
  · rw [List.mem_singleton] at h; subst h; have := ok.f1; exact rw2 (by decide +kernel) (by omega)
  · rw [List.mem_singleton] at h; subst h; have := ok.d1; exact rw2 (by decide +kernel) (by omega)
  · rw [List.mem_singleton] at h
    subst h
    have := ok.c1
    have r := rw4 (x := "costs ") (y := " ") (a := p.c0) (b := p.c1) (by decide +kernel) (by decide +kernel) (by omega) (by omega)
    have l1 := dS_len (i := p.c0) (by omega)
    have l2 := dS_len (i := p.c1) (by omega)
    have l3 := dS_len (i := p.c2) (by omega)
    have k1 : (("costs " : Str)).length = 6 := by decide +kernel
    have k2 : ((" " : Str)).length = 1 := by decide +kernel
    exact ⟨by simp only [Str.length_append]; omega, ok_app (ok_app r.ok (by decide +kernel)) (dS_ok (by omega))⟩
  · rcases ok.g1 with ⟨k, hk, e⟩ | ⟨rows, hl, hr, e⟩ <;> rw [e] at h
    · have h : s ∈ ["levels " ++ dS k] := h
      rw [List.mem_singleton] at h
      subst h
      exact rw2 (by decide +kernel) (by omega)
    · have h : s ∈ ("slots" : Str) :: (rows.map pr2).map slotRow := h
      rcases List.mem_cons.mp h with rfl | h
      · exact rw_lit (by decide +kernel)
      · obtain ⟨x, hx, rfl⟩ := List.mem_map.mp h
        obtain ⟨t, ht, rfl⟩ := List.mem_map.mp hx
        have := hr t ht
        have := ok.t1
        exact rw4 (by decide +kernel) (by decide +kernel) (by omega) (by omega)
  · rcases ok.o1 with e | ⟨a, b, ha, hb, e⟩ <;> rw [e] at h
    · cases h
    · have h : s ∈ ["outside " ++ dS a ++ " " ++ dS b] := h
      rw [List.mem_singleton] at h
      subst h
      have := ok.q1
      exact rw4 (by decide +kernel) (by decide +kernel) (by omega) (by omega)
  · have : s = "wipe" ∨ s = "pad" ∨ s = "lend" ∨ s = "share" := by
      unfold flagRows at h
      rcases List.mem_append.mp h with h | h
      · exact .inl (mem1 h)
      · rcases List.mem_append.mp h with h | h
        · exact .inr (.inl (mem1 h))
        · rcases List.mem_append.mp h with h | h
          · exact .inr (.inr (.inl (mem1 h)))
          · exact .inr (.inr (.inr (mem1 h)))
    rcases this with rfl | rfl | rfl | rfl <;> exact rw_lit (by decide +kernel)
  · obtain ⟨x, hx, h⟩ := List.mem_flatMap.mp h
    obtain ⟨i, hi, rfl⟩ := mem_range hx
    rw [(rights_at ok hi).2] at h
    obtain ⟨y, hy, rfl⟩ := List.mem_map.mp h
    obtain ⟨w, k, rfl, hw, ho, hk⟩ := ok.word (List.getElem_mem hi) hy
    have := ok.r1
    have := ok.t1
    have l1 := dS_len (i := 0 + (i : Nat)) (by omega)
    have l2 := dS_len (i := k) (by omega)
    have k1 : (("right " : Str)).length = 6 := by decide +kernel
    have k2 : ((" " : Str)).length = 1 := by decide +kernel
    refine ⟨?_, ok_app (ok_app (ok_app (ok_app (ok_app (by decide +kernel) (dS_ok (by omega))) (by decide +kernel)) ho) (by decide +kernel)) (dS_ok (by omega))⟩
    show ("right " ++ dS (0 + (i : Nat)) ++ " " ++ w ++ " " ++ dS k : Str).length ≤ 100
    simp only [Str.length_append]
    omega
theorem flatMap_len {α β : Type} {f : α → List β} {m : Nat} : ∀ {xs : List α}, (∀ x ∈ xs, (f x).length ≤ m) → (xs.flatMap f).length ≤ xs.length * m
  | [], _ => by simp
  | x :: xs, h => by
    rw [List.flatMap_cons, List.length_append, List.length_cons, Nat.add_mul, Nat.one_mul]
    have h1 := h x (by simp)
    have h2 := flatMap_len (xs := xs) fun y hy => h y (by simp [hy])
    omega
theorem strOk_join {s : Str} (hs : PyData.strOk s = true) : ∀ {ys : List Str}, (∀ y ∈ ys, PyData.strOk y = true) → PyData.strOk (Str.join s ys) = true
  | [], _ => by show PyData.strOk Str.empty = true; decide +kernel
  | [y], h => h y (by simp)
  | y :: z :: r, h => ok_app (ok_app (h y (by simp)) hs) (strOk_join hs fun w hw => h w (by simp [hw]))
theorem plan_len {p : Pt} (ok : p.Ok) : (planRows p.pl).length ≤ 5 := by
  rcases ok.g1 with ⟨k, hk, e⟩ | ⟨rows, hl, hr, e⟩ <;> rw [e]
  · show 1 ≤ 5; omega
  · show (("slots" : Str) :: (rows.map pr2).map slotRow).length ≤ 5
    simp only [List.length_cons, List.length_map]
    omega
theorem flag_len {a b c d : Bool} : (flagRows a b c d).length ≤ 4 := by cases a <;> cases b <;> cases c <;> cases d <;> decide
end HT
set_option Elab.async false
set_option linter.all false
set_option maxRecDepth 100000
set_option maxHeartbeats 1000000
namespace HT
open PySem PySem.Spec PyProof.Rows L2 Z
local macro_rules | `(tactic| walk_at "HL") => `(tactic| (first | assumption | exact put_same | (rw [put_ne (by first | assumption | (apply Ne.symm; assumption))]; first | assumption | exact put_same | (rw [put_ne (by first | assumption | (apply Ne.symm; assumption))]; first | assumption | exact put_same | (rw [put_ne (by first | assumption | (apply Ne.symm; assumption))]; first | assumption | exact put_same)))))
local macro_rules | `(tactic| walk_at "ONE") => `(tactic| (first | (refine And.intro rfl ?_; (conv => whnf)) | (refine And.intro True.intro ?_; (conv => whnf)) | (refine And.intro (Exists.intro _ (by walk_at "HL")) ?_; (conv => whnf)) | (refine And.intro (by walk_at "HL") ?_; (conv => whnf)) | (refine And.intro (And.intro rfl rfl) ?_; (conv => whnf)) | (refine And.intro (Nat.le_of_ble_eq_true rfl) ?_; (conv => whnf)) | (refine And.intro (by decide) ?_; (conv => whnf)) | (refine And.intro (by omega) ?_; (conv => whnf)) | (refine Exists.intro _ (And.intro (by walk_at "HL") ?_); (conv => whnf)) | (refine Exists.intro _ (And.intro rfl ?_); (conv => whnf)) | (refine Exists.intro _ (Exists.intro _ (And.intro (by walk_at "HL") (And.intro rfl ?_))); (conv => whnf)) | (refine Exists.intro _ (Exists.intro _ (And.intro (by walk_at "HL") (And.intro (And.intro (by decide) rfl) ?_))); (conv => whnf)) | (refine Exists.intro _ (Exists.intro _ (And.intro rfl (And.intro rfl ?_))); (conv => whnf)) | (refine br_t rfl ?_; (conv => whnf)) | (refine br_f rfl ?_; (conv => whnf)) | (refine And.intro (And.intro (by decide +kernel) (by decide +kernel)) ?_; (conv => whnf)) | (refine br_t (by decide +kernel) ?_; (conv => whnf)) | (refine br_f (by decide +kernel) ?_; (conv => whnf))))
local macro_rules | `(tactic| walk_at "ONI") => `(tactic| (first | (refine Qw.here ?_; (conv => whnf)) | (refine br_t (decide_eq_true (by omega)) ?_; (conv => whnf)) | (refine br_f (decide_eq_false (by omega)) ?_; (conv => whnf)) | (refine And.intro rfl ?_; (conv => whnf)) | (refine And.intro True.intro ?_; (conv => whnf)) | (refine And.intro (Exists.intro _ (by walk_at "HL")) ?_; (conv => whnf)) | (refine And.intro (by walk_at "HL") ?_; (conv => whnf)) | (refine And.intro (And.intro rfl rfl) ?_; (conv => whnf)) | (refine And.intro (Nat.le_of_ble_eq_true rfl) ?_; (conv => whnf)) | (refine And.intro (by decide) ?_; (conv => whnf)) | (refine And.intro (by omega) ?_; (conv => whnf)) | (refine Exists.intro _ (And.intro (by walk_at "HL") ?_); (conv => whnf)) | (refine Exists.intro _ (And.intro rfl ?_); (conv => whnf)) | (refine Exists.intro _ (Exists.intro _ (And.intro (by walk_at "HL") (And.intro rfl ?_))); (conv => whnf)) | (refine Exists.intro _ (Exists.intro _ (And.intro (by walk_at "HL") (And.intro (And.intro (by decide) rfl) ?_))); (conv => whnf)) | (refine Exists.intro _ (Exists.intro _ (And.intro rfl (And.intro rfl ?_))); (conv => whnf)) | (refine br_t rfl ?_; (conv => whnf)) | (refine br_f rfl ?_; (conv => whnf)) | (refine And.intro (And.intro (by decide +kernel) (by decide +kernel)) ?_; (conv => whnf)) | (refine br_t (by decide +kernel) ?_; (conv => whnf)) | (refine br_f (by decide +kernel) ?_; (conv => whnf))))
local macro_rules | `(tactic| walk_at "GO") => `(tactic| (((conv => whnf); repeat (walk_at "ONE"))))
local macro_rules | `(tactic| walk_at "GI") => `(tactic| (((conv => whnf); repeat (walk_at "ONI"))))
local macro_rules | `(tactic| walk_at "BB") => `(tactic| (first | rfl | (simp only [Bool.and_eq_true, Bool.or_eq_true, Bool.not_eq_true', Bool.and_eq_false_iff, Bool.not_eq_false', decide_eq_true_eq, decide_eq_false_iff_not, peq_int, List.length_map]; omega)))
local macro_rules | `(tactic| walk_at "LEN") => `(tactic| (repeat' (first | with_reducible apply len_app' | assumption | exact Nat.le_refl _)))
local macro_rules | `(tactic| walk_at "TX1") => `(tactic| (first | walk_at "ONE" | (apply And.intro; (first | (with_reducible apply dS_log; omega) | (with_reducible apply len2 <;> (apply len_t; (focus (walk_at "LEN")); decide +kernel)) | (with_reducible apply lenF; (apply len_t; (focus (walk_at "LEN")); decide +kernel))); (conv => whnf))))
local macro_rules | `(tactic| walk_at "TX") => `(tactic| (((conv => whnf); repeat (walk_at "TX1"))))
def sp_build_text : ZSp := fun vs M Q _ => ∃ p : Pt, vs = [.ins 0 p.flds] ∧ p.Ok ∧ Q (.str (Txt.join "\n" (rowsOf p))) M
theorem bt_rights (Φ : Nat → ZSp) (h40 : Φ 40 = sp_right_words) {M : Mh} {Q : ZQ} {E : ZX} {p : Pt} {a : Addr} {acc : List Str} {o2 o3 o4 o5 o6 o7 o8 o9 o10 o11 o12 : Option PV} (ok : p.Ok) (ha : M a = none) (hl : acc.length ≤ 60) (he : acc ++ (rangeL 0 p.rs.length).flatMap (rightRowsAt p.rs) = rowsOf p) (hq : Q (.str (Txt.join "\n" (rowsOf p))) M) :
    semSs Φ (RR E) (SL.dr 11 b_build_text) (DD Q) [some (.ins 0 p.flds), some (.ref a), o2, o3, o4, o5, o6, o7, o8, o9, o10, o11, o12] (put M a (.lst (acc.map PV.str))) := by
  have r1 := ok.r1
  have t1 := ok.t1
  have hb : -(2 ^ 62 : Int) ≤ ((p.rs.map PV.tup).length : Nat) ∧ (((p.rs.map PV.tup).length : Nat) : Int) < 2 ^ 62 := by rw [List.length_map]; omega
  walk_at "GO"
  rw [show Int.toNat (((p.rs.map PV.tup).length : Nat) : Int) = p.rs.length by rw [List.length_map]; rfl]
  refine acc_loop (fun σ => ∃ o3 o12, σ = [some (.ins 0 p.flds), some (.ref a), o2, o3, o4, o5, o6, o7, o8, o9, o10, o11, o12]) (rightRowsAt p.rs) 8 (rangeL 0 p.rs.length) acc ⟨_, _, rfl⟩ (by rw [len_rangeL]; omega) (fun x hx => ?_) (fun _ => trivial) ?_ ?_
  · obtain ⟨i, hi, rfl⟩ := mem_range hx
    exact (rights_at ok hi).1
  · rintro σ ⟨o3, o12, rfl⟩
    rw [he]
    walk_at "GO"
    rw [put_del ha]
    refine ⟨join_ok (fun s hs => (rows_rw ok s hs).len) ?_, Qw.here hq⟩
    rw [← he, List.length_append]
    have := flatMap_len (f := rightRowsAt p.rs) (m := 8) (xs := rangeL 0 p.rs.length) fun x hx => by
      obtain ⟨i, hi, rfl⟩ := mem_range hx
      exact (rights_at ok hi).1
    rw [len_rangeL] at this
    omega
  · rintro x hx σ acc ⟨o3, o12, rfl⟩ hacc L hL
    obtain ⟨i, hi, rfl⟩ := mem_range hx
    have pk : pick (p.rs.map PV.tup) (0 + (i : Nat)) = some (.tup p.rs[i]) := by
      rw [pick_at (by rw [List.length_map]; exact hi), List.getElem_map]
    have hr := (ok.r2 _ (List.getElem_mem hi)).2
    rw [(rights_at ok hi).2] at hL
    walk_at "GO"
    intro D hD
    refine lc_mapF (fun x => .str (rightRow (0 + (i : Nat)) x)) hD (by omega) (fun _ => trivial) ?_ ?_
    · intro x hx acc' kk hk
      obtain ⟨w, k, rfl, hw, hwo, hk12⟩ := ok.word (List.getElem_mem hi) hx
      have l1 := dS_len (i := 0 + (i : Nat)) (by omega)
      have l2 := dS_len (i := k) (by omega)
      walk_at "TX"
      rw [h40]
      refine ⟨w, k, rfl, hw, hk12, ?_⟩
      walk_at "TX"
      rw [Str.empty_append, dS_app3 (e := "")]
      exact hk
    walk_at "GO"
    refine ⟨le_line (by rw [List.length_map, List.length_map]; omega), ?_⟩
    rw [put_put]
    have e : (p.rs[i]).map (fun x => PV.str (rightRow (0 + (i : Nat)) x)) = ((p.rs[i]).map (rightRow (0 + (i : Nat)))).map PV.str := by rw [List.map_map]; rfl
    rw [e, map_app]
    exact hL _ ⟨_, _, rfl⟩
theorem bt_flags (Φ : Nat → ZSp) (h39 : Φ 39 = sp_flag_texts) (h40 : Φ 40 = sp_right_words) {M : Mh} {Q : ZQ} {E : ZX} {p : Pt} {a : Addr} {acc : List Str} {o2 o3 o4 o5 o6 o7 o8 o9 o10 o11 o12 : Option PV} (ok : p.Ok) (ha : M a = none) (hl : acc.length ≤ 50) (he : acc ++ flagRows p.b0 p.b1 p.b2 p.b3 ++ (rangeL 0 p.rs.length).flatMap (rightRowsAt p.rs) = rowsOf p) (hq : Q (.str (Txt.join "\n" (rowsOf p))) M) :
    semSs Φ (RR E) (SL.dr 10 b_build_text) (DD Q) [some (.ins 0 p.flds), some (.ref a), o2, o3, o4, o5, o6, o7, o8, o9, o10, o11, o12] (put M a (.lst (acc.map PV.str))) := by
  have fl := flag_len (a := p.b0) (b := p.b1) (c := p.b2) (d := p.b3)
  walk_at "GO"
  rw [h39]
  refine ⟨p, rfl, ?_⟩
  walk_at "GO"
  refine ⟨le_line (by rw [List.length_map, List.length_map]; omega), ?_⟩
  rw [put_put, map_app]
  exact bt_rights Φ h40 ok ha (by rw [List.length_append]; omega) he hq
theorem bt_out (Φ : Nat → ZSp) (h39 : Φ 39 = sp_flag_texts) (h40 : Φ 40 = sp_right_words) {M : Mh} {Q : ZQ} {E : ZX} {p : Pt} {a : Addr} {acc : List Str} {o2 o3 o4 o5 o6 o7 o8 o9 o10 o11 o12 : Option PV} (ok : p.Ok) (ha : M a = none) (hl : acc.length ≤ 40) (he : acc ++ outRows p.ou ++ flagRows p.b0 p.b1 p.b2 p.b3 ++ (rangeL 0 p.rs.length).flatMap (rightRowsAt p.rs) = rowsOf p) (hq : Q (.str (Txt.join "\n" (rowsOf p))) M) :
    semSs Φ (RR E) (SL.dr 9 b_build_text) (DD Q) [some (.ins 0 p.flds), some (.ref a), o2, o3, o4, o5, o6, o7, o8, o9, o10, o11, o12] (put M a (.lst (acc.map PV.str))) := by
  have o1 := ok.o1
  have q1 := ok.q1
  (conv => whnf)
  refine ⟨rfl, _, rfl, ?_⟩
  (conv => whnf)
  rcases o1 with e | ⟨u, v, hu, hv, e⟩
  · rw [e] at he ⊢
    refine br_f rfl ?_
    exact bt_flags Φ h39 h40 ok ha (by omega) (by rw [← he]; simp [outRows]) hq
  · rw [e] at he ⊢
    have l1 := dS_len (i := u) (by omega)
    have l2 := dS_len (i := v) (by omega)
    refine br_t rfl ?_
    (conv => whnf)
    refine ⟨rfl, _, rfl, ?_⟩
    rw [e]
    walk_at "TX"
    refine ⟨lt_line (by rw [List.length_map]; omega), ?_⟩
    rw [put_put, Str.empty_append, map_snoc]
    exact bt_flags Φ h39 h40 ok ha (by rw [List.length_append]; simp; omega) he hq
end HT
set_option Elab.async false
set_option linter.all false
set_option maxRecDepth 100000
set_option maxHeartbeats 1000000
namespace HT
open PySem PySem.Spec PyProof.Rows L2 Z
local macro_rules | `(tactic| walk_at "HL") => `(tactic| (first | assumption | exact put_same | (rw [put_ne (by first | assumption | (apply Ne.symm; assumption))]; first | assumption | exact put_same | (rw [put_ne (by first | assumption | (apply Ne.symm; assumption))]; first | assumption | exact put_same | (rw [put_ne (by first | assumption | (apply Ne.symm; assumption))]; first | assumption | exact put_same)))))
local macro_rules | `(tactic| walk_at "ONE") => `(tactic| (first | (refine And.intro rfl ?_; (conv => whnf)) | (refine And.intro True.intro ?_; (conv => whnf)) | (refine And.intro (Exists.intro _ (by walk_at "HL")) ?_; (conv => whnf)) | (refine And.intro (by walk_at "HL") ?_; (conv => whnf)) | (refine And.intro (And.intro rfl rfl) ?_; (conv => whnf)) | (refine And.intro (Nat.le_of_ble_eq_true rfl) ?_; (conv => whnf)) | (refine And.intro (by decide) ?_; (conv => whnf)) | (refine And.intro (by omega) ?_; (conv => whnf)) | (refine Exists.intro _ (And.intro (by walk_at "HL") ?_); (conv => whnf)) | (refine Exists.intro _ (And.intro rfl ?_); (conv => whnf)) | (refine Exists.intro _ (Exists.intro _ (And.intro (by walk_at "HL") (And.intro rfl ?_))); (conv => whnf)) | (refine Exists.intro _ (Exists.intro _ (And.intro (by walk_at "HL") (And.intro (And.intro (by decide) rfl) ?_))); (conv => whnf)) | (refine Exists.intro _ (Exists.intro _ (And.intro rfl (And.intro rfl ?_))); (conv => whnf)) | (refine br_t rfl ?_; (conv => whnf)) | (refine br_f rfl ?_; (conv => whnf)) | (refine And.intro (And.intro (by decide +kernel) (by decide +kernel)) ?_; (conv => whnf)) | (refine br_t (by decide +kernel) ?_; (conv => whnf)) | (refine br_f (by decide +kernel) ?_; (conv => whnf))))
local macro_rules | `(tactic| walk_at "ONI") => `(tactic| (first | (refine Qw.here ?_; (conv => whnf)) | (refine br_t (decide_eq_true (by omega)) ?_; (conv => whnf)) | (refine br_f (decide_eq_false (by omega)) ?_; (conv => whnf)) | (refine And.intro rfl ?_; (conv => whnf)) | (refine And.intro True.intro ?_; (conv => whnf)) | (refine And.intro (Exists.intro _ (by walk_at "HL")) ?_; (conv => whnf)) | (refine And.intro (by walk_at "HL") ?_; (conv => whnf)) | (refine And.intro (And.intro rfl rfl) ?_; (conv => whnf)) | (refine And.intro (Nat.le_of_ble_eq_true rfl) ?_; (conv => whnf)) | (refine And.intro (by decide) ?_; (conv => whnf)) | (refine And.intro (by omega) ?_; (conv => whnf)) | (refine Exists.intro _ (And.intro (by walk_at "HL") ?_); (conv => whnf)) | (refine Exists.intro _ (And.intro rfl ?_); (conv => whnf)) | (refine Exists.intro _ (Exists.intro _ (And.intro (by walk_at "HL") (And.intro rfl ?_))); (conv => whnf)) | (refine Exists.intro _ (Exists.intro _ (And.intro (by walk_at "HL") (And.intro (And.intro (by decide) rfl) ?_))); (conv => whnf)) | (refine Exists.intro _ (Exists.intro _ (And.intro rfl (And.intro rfl ?_))); (conv => whnf)) | (refine br_t rfl ?_; (conv => whnf)) | (refine br_f rfl ?_; (conv => whnf)) | (refine And.intro (And.intro (by decide +kernel) (by decide +kernel)) ?_; (conv => whnf)) | (refine br_t (by decide +kernel) ?_; (conv => whnf)) | (refine br_f (by decide +kernel) ?_; (conv => whnf))))
local macro_rules | `(tactic| walk_at "GO") => `(tactic| (((conv => whnf); repeat (walk_at "ONE"))))
local macro_rules | `(tactic| walk_at "GI") => `(tactic| (((conv => whnf); repeat (walk_at "ONI"))))
local macro_rules | `(tactic| walk_at "BB") => `(tactic| (first | rfl | (simp only [Bool.and_eq_true, Bool.or_eq_true, Bool.not_eq_true', Bool.and_eq_false_iff, Bool.not_eq_false', decide_eq_true_eq, decide_eq_false_iff_not, peq_int, List.length_map]; omega)))
local macro_rules | `(tactic| walk_at "LEN") => `(tactic| (repeat' (first | with_reducible apply len_app' | assumption | exact Nat.le_refl _)))
local macro_rules | `(tactic| walk_at "TX1") => `(tactic| (first | walk_at "ONE" | (apply And.intro; (first | (with_reducible apply dS_log; omega) | (with_reducible apply len2 <;> (apply len_t; (focus (walk_at "LEN")); decide +kernel)) | (with_reducible apply lenF; (apply len_t; (focus (walk_at "LEN")); decide +kernel))); (conv => whnf))))
local macro_rules | `(tactic| walk_at "TX") => `(tactic| (((conv => whnf); repeat (walk_at "TX1"))))
theorem bt_mid (Φ : Nat → ZSp) (h38 : Φ 38 = sp_plan_texts) (h39 : Φ 39 = sp_flag_texts) (h40 : Φ 40 = sp_right_words) {M : Mh} {Q : ZQ} {E : ZX} {p : Pt} {a : Addr} {acc : List Str} {o2 o3 o4 o5 o6 o7 o8 o9 o10 o11 o12 : Option PV} (ok : p.Ok) (ha : M a = none) (hl : acc.length ≤ 10)
    (he : ((((((acc ++ (p.qs.map PV.int).map portRow) ++ ["locks " ++ dS p.nl]) ++ ["frames " ++ dS p.fr]) ++ ["disk " ++ dS p.dk]) ++ ["costs " ++ dS p.c0 ++ " " ++ dS p.c1 ++ " " ++ dS p.c2]) ++ planRows p.pl) ++ outRows p.ou ++ flagRows p.b0 p.b1 p.b2 p.b3 ++ (rangeL 0 p.rs.length).flatMap (rightRowsAt p.rs) = rowsOf p) (hq : Q (.str (Txt.join "\n" (rowsOf p))) M) :
    semSs Φ (RR E) (SL.dr 2 b_build_text) (DD Q) [some (.ins 0 p.flds), some (.ref a), o2, o3, o4, o5, o6, o7, o8, o9, o10, o11, o12] (put M a (.lst (acc.map PV.str))) := by
  have q1 := ok.q1
  have l1 := ok.l1
  have f1 := ok.f1
  have d1 := ok.d1
  have c1 := ok.c1
  have t1 := ok.t1
  have k1 := dS_len (i := p.nl) (by omega)
  have k2 := dS_len (i := p.fr) (by omega)
  have k3 := dS_len (i := p.dk) (by omega)
  have k4 := dS_len (i := p.c0) (by omega)
  have k5 := dS_len (i := p.c1) (by omega)
  have k6 := dS_len (i := p.c2) (by omega)
  have pl := plan_len ok
  walk_at "GO"
  intro D hD
  refine lc_mapF (fun x => .str (portRow x)) hD (by rw [List.length_map]; omega) (fun _ => trivial) ?_ ?_
  · intro x hx acc' kk hk
    obtain ⟨t, ht, rfl⟩ := List.mem_map.mp hx
    have := ok.q2 t ht
    have l1 := dS_len (i := t) (by omega)
    walk_at "TX"
    exact hk
  rw [show (p.qs.map PV.int).map (fun x => PV.str (portRow x)) = ((p.qs.map PV.int).map portRow).map PV.str by rw [List.map_map (f := portRow)]; rfl]
  walk_at "GO"
  refine ⟨le_line (by simp only [List.length_map]; omega), ?_⟩
  rw [put_put, map_app]
  generalize e1 : acc ++ (p.qs.map PV.int).map portRow = acc1 at he ⊢
  have hl1 : acc1.length ≤ 12 := by rw [← e1]; simp only [List.length_append, List.length_map]; omega
  walk_at "TX"
  refine ⟨lt_line (by rw [List.length_map]; omega), ?_⟩
  rw [put_put, map_snoc]
  generalize e2 : acc1 ++ ["locks " ++ dS p.nl] = acc2 at he ⊢
  have hl2 : acc2.length ≤ 13 := by rw [← e2]; simp only [List.length_append, List.length_cons, List.length_nil]; omega
  walk_at "TX"
  refine ⟨lt_line (by rw [List.length_map]; omega), ?_⟩
  rw [put_put, map_snoc]
  generalize e3 : acc2 ++ ["frames " ++ dS p.fr] = acc3 at he ⊢
  have hl3 : acc3.length ≤ 14 := by rw [← e3]; simp only [List.length_append, List.length_cons, List.length_nil]; omega
  walk_at "TX"
  refine ⟨lt_line (by rw [List.length_map]; omega), ?_⟩
  rw [put_put, map_snoc]
  generalize e4 : acc3 ++ ["disk " ++ dS p.dk] = acc4 at he ⊢
  have hl4 : acc4.length ≤ 15 := by rw [← e4]; simp only [List.length_append, List.length_cons, List.length_nil]; omega
  walk_at "TX"
  refine ⟨lt_line (by rw [List.length_map]; omega), ?_⟩
  rw [put_put, Str.empty_append, map_snoc]
  generalize e5 : acc4 ++ ["costs " ++ dS p.c0 ++ " " ++ dS p.c1 ++ " " ++ dS p.c2] = acc5 at he ⊢
  have hl5 : acc5.length ≤ 16 := by rw [← e5]; simp only [List.length_append, List.length_cons, List.length_nil]; omega
  walk_at "GO"
  rw [h38]
  refine ⟨p.ts.length, p.pl, rfl, t1.2, ok.g1, ?_⟩
  walk_at "GO"
  refine ⟨le_line (by simp only [List.length_map]; omega), ?_⟩
  rw [put_put, map_app]
  exact bt_out Φ h39 h40 ok ha (by rw [List.length_append]; omega) he hq
theorem page_at {p : Pt} (ok : p.Ok) {i : Nat} (hi : i < p.ps.length) : ∃ hl : i < p.ls.length, pageRowsAt p.ps p.ls (.int (0 + (i : Nat))) = [pageRow p.ps[i] p.ls[i]] := by
  have hl : i < p.ls.length := by rw [ok.s1]; exact hi
  refine ⟨hl, ?_⟩
  show [pageRow (p.ps.getD (Int.toNat (0 + (i : Nat))) 0) (p.ls.getD (Int.toNat (0 + (i : Nat))) .non)] = _
  rw [show Int.toNat (0 + (i : Nat)) = i by omega, getD_of hi, getD_of hl]
theorem o_build_text (Φ : Nat → ZSp) (h37 : Φ 37 = sp_page_text) (h38 : Φ 38 = sp_plan_texts) (h39 : Φ 39 = sp_flag_texts) (h40 : Φ 40 = sp_right_words) (vs : List PV) (M : Mh) (Q : ZQ) (E : ZX) (h : sp_build_text vs M Q E) : vs.length = 1 ∧ Reach M fun M1 => inl Φ 13 1 b_build_text vs M1 Q E := by
  obtain ⟨p, rfl, ok, hq⟩ := h
  refine ⟨rfl, .done ⟨rfl, ?_⟩⟩
  have t1 := ok.t1
  have p1 := ok.p1
  have hb : -(2 ^ 62 : Int) ≤ ((p.ps.map PV.int).length : Nat) ∧ (((p.ps.map PV.int).length : Nat) : Int) < 2 ^ 62 := by rw [List.length_map]; omega
  walk_at "GO"
  intro a ha
  refine lc_map (fun x => .str (taskRow x)) (by rw [List.length_map]; omega) (fun _ => trivial) ?_ ?_
  · intro x hx acc' kk hk
    obtain ⟨t, ht, rfl⟩ := List.mem_map.mp hx
    have := ok.t2 t ht
    have l1 := dS_len (i := t.1) (by omega)
    have l2 := dS_len (i := t.2) (by omega)
    walk_at "TX"
    rw [Str.empty_append]
    exact hk
  rw [show (p.ts.map pr2).map (fun x => PV.str (taskRow x)) = ((p.ts.map pr2).map taskRow).map PV.str by rw [List.map_map (f := taskRow)]; rfl]
  walk_at "GO"
  rw [show Int.toNat (((p.ps.map PV.int).length : Nat) : Int) = p.ps.length by rw [List.length_map]; rfl]
  refine acc_loop (fun σ => ∃ o2, σ = [some (.ins 0 p.flds), some (.ref a), o2, none, none, none, none, none, none, none, none, none, none]) (pageRowsAt p.ps p.ls) 1 (rangeL 0 p.ps.length) _ ⟨_, rfl⟩ (by rw [len_rangeL]; simp only [List.length_map]; omega) (fun x hx => ?_) (fun _ => trivial) ?_ ?_
  · obtain ⟨i, hi, rfl⟩ := mem_range hx
    obtain ⟨hl, e⟩ := page_at ok hi
    rw [e]
    exact Nat.le_refl _
  · rintro σ ⟨o2, rfl⟩
    refine bt_mid Φ h38 h39 h40 ok ha ?_ rfl hq
    have := flatMap_len (f := pageRowsAt p.ps p.ls) (m := 1) (xs := rangeL 0 p.ps.length) fun x hx => by
      obtain ⟨i, hi, rfl⟩ := mem_range hx
      obtain ⟨hl, e⟩ := page_at ok hi
      rw [e]
      exact Nat.le_refl _
    rw [len_rangeL] at this
    simp only [List.length_append, List.length_map]
    omega
  · rintro x hx σ acc ⟨o2, rfl⟩ hacc L hL
    obtain ⟨i, hi, rfl⟩ := mem_range hx
    obtain ⟨hl, e⟩ := page_at ok hi
    rw [e] at hL
    have pk : pick (p.ps.map PV.int) (0 + (i : Nat)) = some (.int p.ps[i]) := by
      rw [pick_at (by rw [List.length_map]; exact hi), List.getElem_map]
    have pk2 : pick p.ls (0 + (i : Nat)) = some p.ls[i] := pick_at hl
    walk_at "GO"
    rw [h37]
    refine ⟨_, _, rfl, ok.p2 _ (List.getElem_mem hi), ok.s2 _ (List.getElem_mem hl), ?_⟩
    walk_at "GO"
    refine ⟨lt_line (by rw [List.length_map]; omega), ?_⟩
    rw [put_put, map_snoc]
    exact hL _ ⟨_, rfl⟩
end HT
set_option Elab.async false
set_option linter.all false
set_option maxRecDepth 100000
set_option maxHeartbeats 1000000
namespace HT
open PySem PySem.Spec PyProof.Rows L2 Z
local macro_rules | `(tactic| walk_at "HL") => `(tactic| (first | assumption | exact put_same | (rw [put_ne (by first | assumption | (apply Ne.symm; assumption))]; first | assumption | exact put_same | (rw [put_ne (by first | assumption | (apply Ne.symm; assumption))]; first | assumption | exact put_same | (rw [put_ne (by first | assumption | (apply Ne.symm; assumption))]; first | assumption | exact put_same)))))
local macro_rules | `(tactic| walk_at "ONE") => `(tactic| (first | (refine And.intro rfl ?_; (conv => whnf)) | (refine And.intro True.intro ?_; (conv => whnf)) | (refine And.intro (Exists.intro _ (by walk_at "HL")) ?_; (conv => whnf)) | (refine And.intro (by walk_at "HL") ?_; (conv => whnf)) | (refine And.intro (And.intro rfl rfl) ?_; (conv => whnf)) | (refine And.intro (Nat.le_of_ble_eq_true rfl) ?_; (conv => whnf)) | (refine And.intro (by decide) ?_; (conv => whnf)) | (refine And.intro (by omega) ?_; (conv => whnf)) | (refine Exists.intro _ (And.intro (by walk_at "HL") ?_); (conv => whnf)) | (refine Exists.intro _ (And.intro rfl ?_); (conv => whnf)) | (refine Exists.intro _ (Exists.intro _ (And.intro (by walk_at "HL") (And.intro rfl ?_))); (conv => whnf)) | (refine Exists.intro _ (Exists.intro _ (And.intro (by walk_at "HL") (And.intro (And.intro (by decide) rfl) ?_))); (conv => whnf)) | (refine Exists.intro _ (Exists.intro _ (And.intro rfl (And.intro rfl ?_))); (conv => whnf)) | (refine br_t rfl ?_; (conv => whnf)) | (refine br_f rfl ?_; (conv => whnf)) | (refine And.intro (And.intro (by decide +kernel) (by decide +kernel)) ?_; (conv => whnf)) | (refine br_t (by decide +kernel) ?_; (conv => whnf)) | (refine br_f (by decide +kernel) ?_; (conv => whnf))))
local macro_rules | `(tactic| walk_at "ONI") => `(tactic| (first | (refine Qw.here ?_; (conv => whnf)) | (refine br_t (decide_eq_true (by omega)) ?_; (conv => whnf)) | (refine br_f (decide_eq_false (by omega)) ?_; (conv => whnf)) | (refine And.intro rfl ?_; (conv => whnf)) | (refine And.intro True.intro ?_; (conv => whnf)) | (refine And.intro (Exists.intro _ (by walk_at "HL")) ?_; (conv => whnf)) | (refine And.intro (by walk_at "HL") ?_; (conv => whnf)) | (refine And.intro (And.intro rfl rfl) ?_; (conv => whnf)) | (refine And.intro (Nat.le_of_ble_eq_true rfl) ?_; (conv => whnf)) | (refine And.intro (by decide) ?_; (conv => whnf)) | (refine And.intro (by omega) ?_; (conv => whnf)) | (refine Exists.intro _ (And.intro (by walk_at "HL") ?_); (conv => whnf)) | (refine Exists.intro _ (And.intro rfl ?_); (conv => whnf)) | (refine Exists.intro _ (Exists.intro _ (And.intro (by walk_at "HL") (And.intro rfl ?_))); (conv => whnf)) | (refine Exists.intro _ (Exists.intro _ (And.intro (by walk_at "HL") (And.intro (And.intro (by decide) rfl) ?_))); (conv => whnf)) | (refine Exists.intro _ (Exists.intro _ (And.intro rfl (And.intro rfl ?_))); (conv => whnf)) | (refine br_t rfl ?_; (conv => whnf)) | (refine br_f rfl ?_; (conv => whnf)) | (refine And.intro (And.intro (by decide +kernel) (by decide +kernel)) ?_; (conv => whnf)) | (refine br_t (by decide +kernel) ?_; (conv => whnf)) | (refine br_f (by decide +kernel) ?_; (conv => whnf))))
local macro_rules | `(tactic| walk_at "GO") => `(tactic| (((conv => whnf); repeat (walk_at "ONE"))))
local macro_rules | `(tactic| walk_at "GI") => `(tactic| (((conv => whnf); repeat (walk_at "ONI"))))
local macro_rules | `(tactic| walk_at "BB") => `(tactic| (first | rfl | (simp only [Bool.and_eq_true, Bool.or_eq_true, Bool.not_eq_true', Bool.and_eq_false_iff, Bool.not_eq_false', decide_eq_true_eq, decide_eq_false_iff_not, peq_int, List.length_map]; omega)))
local macro_rules | `(tactic| walk_at "LEN") => `(tactic| (repeat' (first | with_reducible apply len_app' | assumption | exact Nat.le_refl _)))
local macro_rules | `(tactic| walk_at "TX1") => `(tactic| (first | walk_at "ONE" | (apply And.intro; (first | (with_reducible apply dS_log; omega) | (with_reducible apply len2 <;> (apply len_t; (focus (walk_at "LEN")); decide +kernel)) | (with_reducible apply lenF; (apply len_t; (focus (walk_at "LEN")); decide +kernel))); (conv => whnf))))
local macro_rules | `(tactic| walk_at "TX") => `(tactic| (((conv => whnf); repeat (walk_at "TX1"))))
def sp_rows : ZSp := fun vs M Q _ => ∃ p : Pt, vs = [.lst p.items] ∧ p.Ok ∧ Q (.lst ((rowsOf p).map PV.str)) M
def flagAt (b0 b1 b2 b3 : Bool) : PV → List Str
  | .int 0 => if b0 then [("wipe" : Str)] else []
  | .int 1 => if b1 then [("pad" : Str)] else []
  | .int 2 => if b2 then [("lend" : Str)] else []
  | .int 3 => if b3 then [("share" : Str)] else []
  | _ => []
theorem flags_eq {b0 b1 b2 b3 : Bool} : (rangeL 0 4).flatMap (flagAt b0 b1 b2 b3) = flagRows b0 b1 b2 b3 := by
  cases b0 <;> cases b1 <;> cases b2 <;> cases b3 <;> rfl
theorem lr_rights (Φ : Nat → ZSp) {M : Mh} {Q : ZQ} {E : ZX} {p : Pt} {a : Addr} {acc : List Str} {o2 o3 o4 o5 o6 o7 : Option PV} (ok : p.Ok) (ha : M a = none) (hl : acc.length ≤ 60) (he : acc ++ (rangeL 0 p.rs.length).flatMap (rightRowsAt p.rs) = rowsOf p) (hq : Q (.lst ((rowsOf p).map PV.str)) M) :
    semSs Φ (RR E) (SL.dr 10 b__law_rows) (DD Q) [some (.lst p.items), some (.ref a), o2, o3, o4, o5, o6, o7] (put M a (.lst (acc.map PV.str))) := by
  have r1 := ok.r1
  have t1 := ok.t1
  have hb : -(2 ^ 62 : Int) ≤ ((p.rs.map PV.lst).length : Nat) ∧ (((p.rs.map PV.lst).length : Nat) : Int) < 2 ^ 62 := by rw [List.length_map]; omega
  walk_at "GO"
  rw [show Int.toNat (((p.rs.map PV.lst).length : Nat) : Int) = p.rs.length by rw [List.length_map]; rfl]
  refine acc_loop (fun σ => ∃ o4 o6, σ = [some (.lst p.items), some (.ref a), o2, o3, o4, o5, o6, o7]) (rightRowsAt p.rs) 8 (rangeL 0 p.rs.length) acc ⟨_, _, rfl⟩ (by rw [len_rangeL]; omega) (fun x hx => ?_) (fun _ => trivial) ?_ ?_
  · obtain ⟨i, hi, rfl⟩ := mem_range hx
    exact (rights_at ok hi).1
  · rintro σ ⟨o4, o6, rfl⟩
    rw [he]
    walk_at "GO"
    rw [put_del ha]
    exact Qw.here hq
  · rintro x hx σ acc ⟨o4, o6, rfl⟩ hacc L hL
    obtain ⟨i, hi, rfl⟩ := mem_range hx
    have pk : pick (p.rs.map PV.lst) (0 + (i : Nat)) = some (.lst p.rs[i]) := by
      rw [pick_at (by rw [List.length_map]; exact hi), List.getElem_map]
    have hr := (ok.r2 _ (List.getElem_mem hi)).2
    rw [(rights_at ok hi).2] at hL
    walk_at "GO"
    have e : (p.rs[i]).flatMap (fun x => [rightRow (0 + (i : Nat)) x]) = (p.rs[i]).map (rightRow (0 + (i : Nat))) := by
      generalize p.rs[i] = xs
      induction xs with
      | nil => rfl
      | cons x xs ih => rw [List.flatMap_cons, ih]; rfl
    rw [← e] at hL
    refine acc_loop (fun σ => ∃ o6, σ = [some (.lst p.items), some (.ref a), o2, o3, some (.int (0 + (i : Nat))), o5, o6, o7]) (fun x => [rightRow (0 + (i : Nat)) x]) 1 (p.rs[i]) acc ⟨_, rfl⟩ (by omega) (fun _ _ => Nat.le_refl _) (fun _ => trivial) ?_ ?_
    · rintro σ ⟨o6, rfl⟩
      exact hL _ ⟨_, _, rfl⟩
    · rintro x hx σ acc ⟨o6, rfl⟩ hacc L2 hL2
      obtain ⟨w, k, rfl, hw, hwo, hk12⟩ := ok.word (List.getElem_mem hi) hx
      have l1 := dS_len (i := 0 + (i : Nat)) (by omega)
      have l2 := dS_len (i := k) (by omega)
      walk_at "TX"
      refine ⟨lt_line (by rw [List.length_map]; omega), ?_⟩
      rw [put_put, map_snoc]
      exact hL2 _ ⟨_, rfl⟩
theorem lr_flags (Φ : Nat → ZSp) {M : Mh} {Q : ZQ} {E : ZX} {p : Pt} {a : Addr} {acc : List Str} {o2 o3 o4 o5 o6 o7 : Option PV} (ok : p.Ok) (ha : M a = none) (hl : acc.length ≤ 50) (he : acc ++ flagRows p.b0 p.b1 p.b2 p.b3 ++ (rangeL 0 p.rs.length).flatMap (rightRowsAt p.rs) = rowsOf p) (hq : Q (.lst ((rowsOf p).map PV.str)) M) :
    semSs Φ (RR E) (SL.dr 9 b__law_rows) (DD Q) [some (.lst p.items), some (.ref a), o2, o3, o4, o5, o6, o7] (put M a (.lst (acc.map PV.str))) := by
  have fl := flag_len (a := p.b0) (b := p.b1) (c := p.b2) (d := p.b3)
  (conv => whnf)
  refine ⟨by omega, ?_⟩
  refine acc_loop (fun σ => ∃ o2, σ = [some (.lst p.items), some (.ref a), o2, o3, o4, o5, o6, o7]) (flagAt p.b0 p.b1 p.b2 p.b3) 1 (rangeL 0 4) acc ⟨_, rfl⟩ (by rw [len_rangeL]; omega) (fun x hx => ?_) (fun _ => trivial) ?_ ?_
  · obtain ⟨i, hi, rfl⟩ := mem_range hx
    obtain rfl | rfl | rfl | rfl : i = 0 ∨ i = 1 ∨ i = 2 ∨ i = 3 := by omega
    · show (if p.b0 then [("wipe" : Str)] else []).length ≤ 1; split <;> simp
    · show (if p.b1 then [("pad" : Str)] else []).length ≤ 1; split <;> simp
    · show (if p.b2 then [("lend" : Str)] else []).length ≤ 1; split <;> simp
    · show (if p.b3 then [("share" : Str)] else []).length ≤ 1; split <;> simp
  · rintro σ ⟨o2, rfl⟩
    rw [flags_eq]
    exact lr_rights Φ ok ha (by rw [List.length_append]; omega) he hq
  · rintro x hx σ acc ⟨o2, rfl⟩ hacc L hL
    obtain ⟨i, hi, rfl⟩ := mem_range hx
    obtain rfl | rfl | rfl | rfl : i = 0 ∨ i = 1 ∨ i = 2 ∨ i = 3 := by omega
    · replace hL : ∀ σ', _ → L σ' (put M a (.lst ((acc ++ (if p.b0 then [("wipe" : Str)] else [])).map PV.str))) := hL
      (conv => whnf)
      refine ⟨_, rfl, ?_⟩
      (conv => whnf)
      refine br_intro (fun c => ?_) fun c => ?_
      · rw [if_pos c] at hL
        walk_at "GO"
        refine ⟨lt_line (by rw [List.length_map]; omega), ?_⟩
        rw [put_put, map_snoc]
        exact hL _ ⟨_, rfl⟩
      · rw [if_neg (by rw [c]; simp), List.append_nil] at hL
        exact hL _ ⟨_, rfl⟩
    · replace hL : ∀ σ', _ → L σ' (put M a (.lst ((acc ++ (if p.b1 then [("pad" : Str)] else [])).map PV.str))) := hL
      (conv => whnf)
      refine ⟨_, rfl, ?_⟩
      (conv => whnf)
      refine br_intro (fun c => ?_) fun c => ?_
      · rw [if_pos c] at hL
        walk_at "GO"
        refine ⟨lt_line (by rw [List.length_map]; omega), ?_⟩
        rw [put_put, map_snoc]
        exact hL _ ⟨_, rfl⟩
      · rw [if_neg (by rw [c]; simp), List.append_nil] at hL
        exact hL _ ⟨_, rfl⟩
    · replace hL : ∀ σ', _ → L σ' (put M a (.lst ((acc ++ (if p.b2 then [("lend" : Str)] else [])).map PV.str))) := hL
      (conv => whnf)
      refine ⟨_, rfl, ?_⟩
      (conv => whnf)
      refine br_intro (fun c => ?_) fun c => ?_
      · rw [if_pos c] at hL
        walk_at "GO"
        refine ⟨lt_line (by rw [List.length_map]; omega), ?_⟩
        rw [put_put, map_snoc]
        exact hL _ ⟨_, rfl⟩
      · rw [if_neg (by rw [c]; simp), List.append_nil] at hL
        exact hL _ ⟨_, rfl⟩
    · replace hL : ∀ σ', _ → L σ' (put M a (.lst ((acc ++ (if p.b3 then [("share" : Str)] else [])).map PV.str))) := hL
      (conv => whnf)
      refine ⟨_, rfl, ?_⟩
      (conv => whnf)
      refine br_intro (fun c => ?_) fun c => ?_
      · rw [if_pos c] at hL
        walk_at "GO"
        refine ⟨lt_line (by rw [List.length_map]; omega), ?_⟩
        rw [put_put, map_snoc]
        exact hL _ ⟨_, rfl⟩
      · rw [if_neg (by rw [c]; simp), List.append_nil] at hL
        exact hL _ ⟨_, rfl⟩
theorem lr_out (Φ : Nat → ZSp) {M : Mh} {Q : ZQ} {E : ZX} {p : Pt} {a : Addr} {acc : List Str} {o2 o3 o4 o5 o6 o7 : Option PV} (ok : p.Ok) (ha : M a = none) (hl : acc.length ≤ 40) (he : acc ++ outRows p.ou ++ flagRows p.b0 p.b1 p.b2 p.b3 ++ (rangeL 0 p.rs.length).flatMap (rightRowsAt p.rs) = rowsOf p) (hq : Q (.lst ((rowsOf p).map PV.str)) M) :
    semSs Φ (RR E) (SL.dr 8 b__law_rows) (DD Q) [some (.lst p.items), some (.ref a), o2, o3, o4, o5, o6, o7] (put M a (.lst (acc.map PV.str))) := by
  have o1 := ok.o1
  have q1 := ok.q1
  (conv => whnf)
  refine ⟨_, rfl, ?_⟩
  (conv => whnf)
  rcases o1 with e | ⟨u, v, hu, hv, e⟩
  · rw [e] at he ⊢
    refine br_f rfl ?_
    exact lr_flags Φ ok ha (by omega) (by rw [← he]; simp [outRows]) hq
  · rw [e] at he ⊢
    have l1 := dS_len (i := u) (by omega)
    have l2 := dS_len (i := v) (by omega)
    refine br_t rfl ?_
    (conv => whnf)
    refine ⟨⟨_, put_same⟩, ?_⟩
    (conv => whnf)
    refine ⟨_, rfl, ?_⟩
    rw [e]
    (conv => whnf)
    refine ⟨_, rfl, ?_⟩
    (conv => whnf)
    refine ⟨dS_log (by omega), ?_⟩
    walk_at "TX"
    rw [e]
    walk_at "TX"
    refine ⟨lt_line (by rw [List.length_map]; omega), ?_⟩
    rw [put_put, map_snoc]
    exact lr_flags Φ ok ha (by rw [List.length_append]; simp; omega) he hq
end HT
set_option Elab.async false
set_option linter.all false
set_option maxRecDepth 100000
set_option maxHeartbeats 1000000
namespace HT
open PySem PySem.Spec PyProof.Rows L2 Z
local macro_rules | `(tactic| walk_at "HL") => `(tactic| (first | assumption | exact put_same | (rw [put_ne (by first | assumption | (apply Ne.symm; assumption))]; first | assumption | exact put_same | (rw [put_ne (by first | assumption | (apply Ne.symm; assumption))]; first | assumption | exact put_same | (rw [put_ne (by first | assumption | (apply Ne.symm; assumption))]; first | assumption | exact put_same)))))
local macro_rules | `(tactic| walk_at "ONE") => `(tactic| (first | (refine And.intro rfl ?_; (conv => whnf)) | (refine And.intro True.intro ?_; (conv => whnf)) | (refine And.intro (Exists.intro _ (by walk_at "HL")) ?_; (conv => whnf)) | (refine And.intro (by walk_at "HL") ?_; (conv => whnf)) | (refine And.intro (And.intro rfl rfl) ?_; (conv => whnf)) | (refine And.intro (Nat.le_of_ble_eq_true rfl) ?_; (conv => whnf)) | (refine And.intro (by decide) ?_; (conv => whnf)) | (refine And.intro (by omega) ?_; (conv => whnf)) | (refine Exists.intro _ (And.intro (by walk_at "HL") ?_); (conv => whnf)) | (refine Exists.intro _ (And.intro rfl ?_); (conv => whnf)) | (refine Exists.intro _ (Exists.intro _ (And.intro (by walk_at "HL") (And.intro rfl ?_))); (conv => whnf)) | (refine Exists.intro _ (Exists.intro _ (And.intro (by walk_at "HL") (And.intro (And.intro (by decide) rfl) ?_))); (conv => whnf)) | (refine Exists.intro _ (Exists.intro _ (And.intro rfl (And.intro rfl ?_))); (conv => whnf)) | (refine br_t rfl ?_; (conv => whnf)) | (refine br_f rfl ?_; (conv => whnf)) | (refine And.intro (And.intro (by decide +kernel) (by decide +kernel)) ?_; (conv => whnf)) | (refine br_t (by decide +kernel) ?_; (conv => whnf)) | (refine br_f (by decide +kernel) ?_; (conv => whnf))))
local macro_rules | `(tactic| walk_at "ONI") => `(tactic| (first | (refine Qw.here ?_; (conv => whnf)) | (refine br_t (decide_eq_true (by omega)) ?_; (conv => whnf)) | (refine br_f (decide_eq_false (by omega)) ?_; (conv => whnf)) | (refine And.intro rfl ?_; (conv => whnf)) | (refine And.intro True.intro ?_; (conv => whnf)) | (refine And.intro (Exists.intro _ (by walk_at "HL")) ?_; (conv => whnf)) | (refine And.intro (by walk_at "HL") ?_; (conv => whnf)) | (refine And.intro (And.intro rfl rfl) ?_; (conv => whnf)) | (refine And.intro (Nat.le_of_ble_eq_true rfl) ?_; (conv => whnf)) | (refine And.intro (by decide) ?_; (conv => whnf)) | (refine And.intro (by omega) ?_; (conv => whnf)) | (refine Exists.intro _ (And.intro (by walk_at "HL") ?_); (conv => whnf)) | (refine Exists.intro _ (And.intro rfl ?_); (conv => whnf)) | (refine Exists.intro _ (Exists.intro _ (And.intro (by walk_at "HL") (And.intro rfl ?_))); (conv => whnf)) | (refine Exists.intro _ (Exists.intro _ (And.intro (by walk_at "HL") (And.intro (And.intro (by decide) rfl) ?_))); (conv => whnf)) | (refine Exists.intro _ (Exists.intro _ (And.intro rfl (And.intro rfl ?_))); (conv => whnf)) | (refine br_t rfl ?_; (conv => whnf)) | (refine br_f rfl ?_; (conv => whnf)) | (refine And.intro (And.intro (by decide +kernel) (by decide +kernel)) ?_; (conv => whnf)) | (refine br_t (by decide +kernel) ?_; (conv => whnf)) | (refine br_f (by decide +kernel) ?_; (conv => whnf))))
local macro_rules | `(tactic| walk_at "GO") => `(tactic| (((conv => whnf); repeat (walk_at "ONE"))))
local macro_rules | `(tactic| walk_at "GI") => `(tactic| (((conv => whnf); repeat (walk_at "ONI"))))
local macro_rules | `(tactic| walk_at "BB") => `(tactic| (first | rfl | (simp only [Bool.and_eq_true, Bool.or_eq_true, Bool.not_eq_true', Bool.and_eq_false_iff, Bool.not_eq_false', decide_eq_true_eq, decide_eq_false_iff_not, peq_int, List.length_map]; omega)))
local macro_rules | `(tactic| walk_at "LEN") => `(tactic| (repeat' (first | with_reducible apply len_app' | assumption | exact Nat.le_refl _)))
local macro_rules | `(tactic| walk_at "TX1") => `(tactic| (first | walk_at "ONE" | (apply And.intro; (first | (with_reducible apply dS_log; omega) | (with_reducible apply len2 <;> (apply len_t; (focus (walk_at "LEN")); decide +kernel)) | (with_reducible apply lenF; (apply len_t; (focus (walk_at "LEN")); decide +kernel))); (conv => whnf))))
local macro_rules | `(tactic| walk_at "TX") => `(tactic| (((conv => whnf); repeat (walk_at "TX1"))))
def strIt : PV → PV
  | .int i => .str (dS i)
  | _ => .non
theorem join4 {a b c d : Str} : Txt.join " " [a, b, c, d] = a ++ " " ++ b ++ " " ++ c ++ " " ++ d := by
  show Builtin.Str.glued " " [a, b, c, d] = _
  rw [StrLaws.glued_eq_join]
  show a ++ " " ++ (b ++ " " ++ (c ++ " " ++ d)) = _
  simp only [Str.append_assoc]
theorem lr_plan (Φ : Nat → ZSp) {M : Mh} {Q : ZQ} {E : ZX} {p : Pt} {a : Addr} {acc : List Str} {o2 o3 o4 o5 o6 o7 : Option PV} (ok : p.Ok) (ha : M a = none) (hl : acc.length ≤ 20) (he : acc ++ planRows p.pl ++ outRows p.ou ++ flagRows p.b0 p.b1 p.b2 p.b3 ++ (rangeL 0 p.rs.length).flatMap (rightRowsAt p.rs) = rowsOf p) (hq : Q (.lst ((rowsOf p).map PV.str)) M) :
    semSs Φ (RR E) (SL.dr 7 b__law_rows) (DD Q) [some (.lst p.items), some (.ref a), o2, o3, o4, o5, o6, o7] (put M a (.lst (acc.map PV.str))) := by
  have g1 := ok.g1
  have t1 := ok.t1
  rcases g1 with ⟨k, hk, e⟩ | ⟨rows, hr1, hr, e⟩
  · have l1 := dS_len (i := k) (by omega)
    (conv => whnf)
    refine ⟨_, rfl, ?_⟩
    rw [e]
    ((conv => whnf); iterate 2 (walk_at "ONE"))
    refine br_t (by decide +kernel) ?_
    (conv => whnf)
    refine ⟨⟨_, put_same⟩, ?_⟩
    (conv => whnf)
    refine ⟨_, rfl, ?_⟩
    rw [e]
    walk_at "TX"
    refine ⟨lt_line (by rw [List.length_map]; omega), ?_⟩
    rw [put_put, map_snoc]
    rw [e] at he
    exact lr_out Φ ok ha (by rw [List.length_append]; simp; omega) he hq
  · (conv => whnf)
    refine ⟨_, rfl, ?_⟩
    rw [e]
    ((conv => whnf); iterate 2 (walk_at "ONE"))
    refine br_f (by decide +kernel) ?_
    ((conv => whnf); iterate 2 (walk_at "ONE"))
    refine ⟨lt_line (by rw [List.length_map]; omega), ?_⟩
    rw [put_put, map_snoc]
    (conv => whnf)
    refine ⟨_, rfl, ?_⟩
    rw [e]
    walk_at "GO"
    have ef : (rows.map pr2).flatMap (fun x => [slotRow x]) = (rows.map pr2).map slotRow := by
      generalize rows.map pr2 = xs
      induction xs with
      | nil => rfl
      | cons x xs ih => rw [List.flatMap_cons, ih]; rfl
    refine acc_loop (fun σ => ∃ o5, σ = [some (.lst p.items), some (.ref a), o2, o3, o4, o5, o6, o7]) (fun x => [slotRow x]) 1 (rows.map pr2) (acc ++ [("slots" : Str)]) ⟨_, rfl⟩ (by simp only [List.length_append, List.length_map, List.length_cons, List.length_nil]; omega) (fun _ _ => Nat.le_refl _) (fun _ => trivial) ?_ ?_
    · rintro σ ⟨o5, rfl⟩
      rw [ef]
      rw [e] at he
      refine lr_out Φ ok ha (by simp only [List.length_append, List.length_map, List.length_cons, List.length_nil]; omega) ?_ hq
      rw [← he, List.append_assoc acc]
      rfl
    · rintro x hx σ acc ⟨o5, rfl⟩ hacc L hL
      obtain ⟨t, ht, rfl⟩ := List.mem_map.mp hx
      have := hr t ht
      have l1 := dS_len (i := t.1) (by omega)
      have l2 := dS_len (i := t.2) (by omega)
      walk_at "TX"
      refine ⟨lt_line (by rw [List.length_map]; omega), ?_⟩
      rw [put_put, map_snoc]
      exact hL _ ⟨_, rfl⟩
theorem lr_mid (Φ : Nat → ZSp) {M : Mh} {Q : ZQ} {E : ZX} {p : Pt} {a : Addr} {acc : List Str} {o2 o3 o4 o5 o6 o7 : Option PV} (ok : p.Ok) (ha : M a = none) (hl : acc.length ≤ 10)
    (he : ((((((acc ++ (p.qs.map PV.int).map portRow) ++ ["locks " ++ dS p.nl]) ++ ["frames " ++ dS p.fr]) ++ ["disk " ++ dS p.dk]) ++ ["costs " ++ dS p.c0 ++ " " ++ dS p.c1 ++ " " ++ dS p.c2]) ++ planRows p.pl) ++ outRows p.ou ++ flagRows p.b0 p.b1 p.b2 p.b3 ++ (rangeL 0 p.rs.length).flatMap (rightRowsAt p.rs) = rowsOf p) (hq : Q (.lst ((rowsOf p).map PV.str)) M) :
    semSs Φ (RR E) (SL.dr 2 b__law_rows) (DD Q) [some (.lst p.items), some (.ref a), o2, o3, o4, o5, o6, o7] (put M a (.lst (acc.map PV.str))) := by
  have q1 := ok.q1
  have l1 := ok.l1
  have f1 := ok.f1
  have d1 := ok.d1
  have c1 := ok.c1
  have t1 := ok.t1
  have k1 := dS_len (i := p.nl) (by omega)
  have k2 := dS_len (i := p.fr) (by omega)
  have k3 := dS_len (i := p.dk) (by omega)
  have k4 := dS_len (i := p.c0) (by omega)
  have k5 := dS_len (i := p.c1) (by omega)
  have k6 := dS_len (i := p.c2) (by omega)
  have ef : (p.qs.map PV.int).flatMap (fun x => [portRow x]) = (p.qs.map PV.int).map portRow := by
    generalize p.qs.map PV.int = xs
    induction xs with
    | nil => rfl
    | cons x xs ih => rw [List.flatMap_cons, ih]; rfl
  walk_at "GO"
  refine acc_loop (fun σ => ∃ o3, σ = [some (.lst p.items), some (.ref a), o2, o3, o4, o5, o6, o7]) (fun x => [portRow x]) 1 (p.qs.map PV.int) acc ⟨_, rfl⟩ (by rw [List.length_map]; omega) (fun _ _ => Nat.le_refl _) (fun _ => trivial) ?_ ?_
  · rintro σ ⟨o3, rfl⟩
    rw [ef]
    generalize e1 : acc ++ (p.qs.map PV.int).map portRow = acc1 at he ⊢
    have hl1 : acc1.length ≤ 12 := by rw [← e1]; simp only [List.length_append, List.length_map]; omega
    walk_at "TX"
    refine ⟨lt_line (by rw [List.length_map]; omega), ?_⟩
    rw [put_put, map_snoc]
    generalize e2 : acc1 ++ ["locks " ++ dS p.nl] = acc2 at he ⊢
    have hl2 : acc2.length ≤ 13 := by rw [← e2]; simp only [List.length_append, List.length_cons, List.length_nil]; omega
    walk_at "TX"
    refine ⟨lt_line (by rw [List.length_map]; omega), ?_⟩
    rw [put_put, map_snoc]
    generalize e3 : acc2 ++ ["frames " ++ dS p.fr] = acc3 at he ⊢
    have hl3 : acc3.length ≤ 14 := by rw [← e3]; simp only [List.length_append, List.length_cons, List.length_nil]; omega
    walk_at "TX"
    refine ⟨lt_line (by rw [List.length_map]; omega), ?_⟩
    rw [put_put, map_snoc]
    generalize e4 : acc3 ++ ["disk " ++ dS p.dk] = acc4 at he ⊢
    have hl4 : acc4.length ≤ 15 := by rw [← e4]; simp only [List.length_append, List.length_cons, List.length_nil]; omega
    walk_at "GO"
    intro D hD
    refine lc_mapF strIt hD (Nat.le_of_ble_eq_true rfl) (fun _ => trivial) ?_ ?_
    · intro x hx acc' kk hk
      have : ∃ i : Int, x = .int i ∧ (0 ≤ i ∧ i ≤ 12) := by
        simp only [List.mem_cons, List.not_mem_nil, or_false] at hx
        rcases hx with rfl | rfl | rfl
        · exact ⟨_, rfl, by omega⟩
        · exact ⟨_, rfl, by omega⟩
        · exact ⟨_, rfl, by omega⟩
      obtain ⟨i, rfl, hi⟩ := this
      walk_at "TX"
      exact hk
    (conv => whnf)
    refine ⟨le_line (Nat.le_of_ble_eq_true rfl), ?_⟩
    intro q hq'
    refine ⟨_, put_same, ?_⟩
    rw [put_del hq']
    refine ⟨["costs", dS p.c0, dS p.c1, dS p.c2], rfl, ?_, ?_⟩
    · have z1 : (("costs" : Str)).length = 5 := by decide +kernel
      have z2 : ((" " : Str)).length = 1 := by decide +kernel
      simp only [List.map_cons, List.map_nil, List.sum_cons, List.sum_nil, List.length_cons, List.length_nil]
      omega
    rw [join4, show (("costs" : Str) ++ " ") = "costs " by decide +kernel]
    walk_at "GO"
    refine ⟨lt_line (by rw [List.length_map]; omega), ?_⟩
    rw [put_put, map_snoc]
    generalize e5 : acc4 ++ ["costs " ++ dS p.c0 ++ " " ++ dS p.c1 ++ " " ++ dS p.c2] = acc5 at he ⊢
    have hl5 : acc5.length ≤ 16 := by rw [← e5]; simp only [List.length_append, List.length_cons, List.length_nil]; omega
    exact lr_plan Φ ok ha (by omega) he hq
  · rintro x hx σ acc ⟨o3, rfl⟩ hacc L hL
    obtain ⟨t, ht, rfl⟩ := List.mem_map.mp hx
    have := ok.q2 t ht
    have l1 := dS_len (i := t) (by omega)
    walk_at "TX"
    refine ⟨lt_line (by rw [List.length_map]; omega), ?_⟩
    rw [put_put, map_snoc]
    exact hL _ ⟨_, rfl⟩
theorem o_rows (Φ : Nat → ZSp) (vs : List PV) (M : Mh) (Q : ZQ) (E : ZX) (h : sp_rows vs M Q E) : vs.length = 1 ∧ Reach M fun M1 => inl Φ 8 1 b__law_rows vs M1 Q E := by
  obtain ⟨p, rfl, ok, hq⟩ := h
  refine ⟨rfl, .done ⟨rfl, ?_⟩⟩
  have t1 := ok.t1
  have p1 := ok.p1
  have hb : -(2 ^ 62 : Int) ≤ ((p.ps.map PV.int).length : Nat) ∧ (((p.ps.map PV.int).length : Nat) : Int) < 2 ^ 62 := by rw [List.length_map]; omega
  walk_at "GO"
  intro a ha
  refine lc_map (fun x => .str (taskRow x)) (by rw [List.length_map]; omega) (fun _ => trivial) ?_ ?_
  · intro x hx acc' kk hk
    obtain ⟨t, ht, rfl⟩ := List.mem_map.mp hx
    have := ok.t2 t ht
    have l1 := dS_len (i := t.1) (by omega)
    have l2 := dS_len (i := t.2) (by omega)
    walk_at "TX"
    exact hk
  rw [show (p.ts.map pr2).map (fun x => PV.str (taskRow x)) = ((p.ts.map pr2).map taskRow).map PV.str by rw [List.map_map (f := taskRow)]; rfl]
  walk_at "GO"
  rw [show Int.toNat (((p.ps.map PV.int).length : Nat) : Int) = p.ps.length by rw [List.length_map]; rfl]
  refine acc_loop (fun σ => ∃ o2 o5, σ = [some (.lst p.items), some (.ref a), o2, none, none, o5, none, none]) (pageRowsAt p.ps p.ls) 1 (rangeL 0 p.ps.length) _ ⟨_, _, rfl⟩ (by rw [len_rangeL]; simp only [List.length_map]; omega) (fun x hx => ?_) (fun _ => trivial) ?_ ?_
  · obtain ⟨i, hi, rfl⟩ := mem_range hx
    obtain ⟨hl, e⟩ := page_at ok hi
    rw [e]
    exact Nat.le_refl _
  · rintro σ ⟨o2, o5, rfl⟩
    refine lr_mid Φ ok ha ?_ rfl hq
    have := flatMap_len (f := pageRowsAt p.ps p.ls) (m := 1) (xs := rangeL 0 p.ps.length) fun x hx => by
      obtain ⟨i, hi, rfl⟩ := mem_range hx
      obtain ⟨hl, e⟩ := page_at ok hi
      rw [e]
      exact Nat.le_refl _
    rw [len_rangeL] at this
    simp only [List.length_append, List.length_map]
    omega
  · rintro x hx σ acc ⟨o2, o5, rfl⟩ hacc L hL
    obtain ⟨i, hi, rfl⟩ := mem_range hx
    obtain ⟨hl, e⟩ := page_at ok hi
    rw [e] at hL
    have pk : pick (p.ps.map PV.int) (0 + (i : Nat)) = some (.int p.ps[i]) := by
      rw [pick_at (by rw [List.length_map]; exact hi), List.getElem_map]
    have pk2 : pick p.ls (0 + (i : Nat)) = some p.ls[i] := pick_at hl
    have hp := ok.p2 _ (List.getElem_mem hi)
    have hs := ok.s2 _ (List.getElem_mem hl)
    generalize p.ls[i] = l at pk2 hs hL
    generalize p.ps[i] = v at pk hp hL
    have l1 := dS_len (i := v) (by omega)
    have l0 := dS_len (i := 0) (by omega)
    have l2 := dS_len (i := 1) (by omega)
    rcases hs with rfl | rfl | rfl
    · walk_at "TX"
      refine ⟨lt_line (by rw [List.length_map]; omega), ?_⟩
      rw [put_put, map_snoc]
      exact hL _ ⟨_, _, rfl⟩
    · walk_at "TX"
      refine ⟨lt_line (by rw [List.length_map]; omega), ?_⟩
      rw [put_put, map_snoc]
      exact hL _ ⟨_, _, rfl⟩
    · walk_at "TX"
      refine ⟨lt_line (by rw [List.length_map]; omega), ?_⟩
      rw [put_put, map_snoc]
      exact hL _ ⟨_, _, rfl⟩
end HT
set_option Elab.async false
set_option linter.all false
set_option maxRecDepth 100000
set_option maxHeartbeats 1000000
namespace HT
open PySem PySem.Spec PyProof.Rows L2 Z
local macro_rules | `(tactic| walk_at "HL") => `(tactic| (first | assumption | exact put_same | (rw [put_ne (by first | assumption | (apply Ne.symm; assumption))]; first | assumption | exact put_same | (rw [put_ne (by first | assumption | (apply Ne.symm; assumption))]; first | assumption | exact put_same | (rw [put_ne (by first | assumption | (apply Ne.symm; assumption))]; first | assumption | exact put_same)))))
local macro_rules | `(tactic| walk_at "ONE") => `(tactic| (first | (refine And.intro rfl ?_; (conv => whnf)) | (refine And.intro True.intro ?_; (conv => whnf)) | (refine And.intro (Exists.intro _ (by walk_at "HL")) ?_; (conv => whnf)) | (refine And.intro (by walk_at "HL") ?_; (conv => whnf)) | (refine And.intro (And.intro rfl rfl) ?_; (conv => whnf)) | (refine And.intro (Nat.le_of_ble_eq_true rfl) ?_; (conv => whnf)) | (refine And.intro (by decide) ?_; (conv => whnf)) | (refine And.intro (by omega) ?_; (conv => whnf)) | (refine Exists.intro _ (And.intro (by walk_at "HL") ?_); (conv => whnf)) | (refine Exists.intro _ (And.intro rfl ?_); (conv => whnf)) | (refine Exists.intro _ (Exists.intro _ (And.intro (by walk_at "HL") (And.intro rfl ?_))); (conv => whnf)) | (refine Exists.intro _ (Exists.intro _ (And.intro (by walk_at "HL") (And.intro (And.intro (by decide) rfl) ?_))); (conv => whnf)) | (refine Exists.intro _ (Exists.intro _ (And.intro rfl (And.intro rfl ?_))); (conv => whnf)) | (refine br_t rfl ?_; (conv => whnf)) | (refine br_f rfl ?_; (conv => whnf)) | (refine And.intro (And.intro (by decide +kernel) (by decide +kernel)) ?_; (conv => whnf)) | (refine br_t (by decide +kernel) ?_; (conv => whnf)) | (refine br_f (by decide +kernel) ?_; (conv => whnf))))
local macro_rules | `(tactic| walk_at "ONI") => `(tactic| (first | (refine Qw.here ?_; (conv => whnf)) | (refine br_t (decide_eq_true (by omega)) ?_; (conv => whnf)) | (refine br_f (decide_eq_false (by omega)) ?_; (conv => whnf)) | (refine And.intro rfl ?_; (conv => whnf)) | (refine And.intro True.intro ?_; (conv => whnf)) | (refine And.intro (Exists.intro _ (by walk_at "HL")) ?_; (conv => whnf)) | (refine And.intro (by walk_at "HL") ?_; (conv => whnf)) | (refine And.intro (And.intro rfl rfl) ?_; (conv => whnf)) | (refine And.intro (Nat.le_of_ble_eq_true rfl) ?_; (conv => whnf)) | (refine And.intro (by decide) ?_; (conv => whnf)) | (refine And.intro (by omega) ?_; (conv => whnf)) | (refine Exists.intro _ (And.intro (by walk_at "HL") ?_); (conv => whnf)) | (refine Exists.intro _ (And.intro rfl ?_); (conv => whnf)) | (refine Exists.intro _ (Exists.intro _ (And.intro (by walk_at "HL") (And.intro rfl ?_))); (conv => whnf)) | (refine Exists.intro _ (Exists.intro _ (And.intro (by walk_at "HL") (And.intro (And.intro (by decide) rfl) ?_))); (conv => whnf)) | (refine Exists.intro _ (Exists.intro _ (And.intro rfl (And.intro rfl ?_))); (conv => whnf)) | (refine br_t rfl ?_; (conv => whnf)) | (refine br_f rfl ?_; (conv => whnf)) | (refine And.intro (And.intro (by decide +kernel) (by decide +kernel)) ?_; (conv => whnf)) | (refine br_t (by decide +kernel) ?_; (conv => whnf)) | (refine br_f (by decide +kernel) ?_; (conv => whnf))))
local macro_rules | `(tactic| walk_at "GO") => `(tactic| (((conv => whnf); repeat (walk_at "ONE"))))
local macro_rules | `(tactic| walk_at "GI") => `(tactic| (((conv => whnf); repeat (walk_at "ONI"))))
local macro_rules | `(tactic| walk_at "BB") => `(tactic| (first | rfl | (simp only [Bool.and_eq_true, Bool.or_eq_true, Bool.not_eq_true', Bool.and_eq_false_iff, Bool.not_eq_false', decide_eq_true_eq, decide_eq_false_iff_not, peq_int, List.length_map]; omega)))
def sp_get (f : Pt → PV) : ZSp := fun vs M Q _ => ∃ p : Pt, vs = [.ins 0 p.flds] ∧ p.Ok ∧ Q (f p) M
def sp_told : ZSp := fun vs M Q _ => ∃ p : Pt, vs = [.ins 0 p.flds] ∧ p.Ok ∧ Q (.lst p.items) M
def asL : PV → PV
  | .tup xs => .lst xs
  | _ => .non
theorem o_get_tasks (Φ : Nat → ZSp) (vs : List PV) (M : Mh) (Q : ZQ) (E : ZX) (h : sp_get (fun p => p.tl) vs M Q E) : vs.length = 1 ∧ Reach M fun M1 => inl Φ 1 1 b_Build_tasks vs M1 Q E := by
  obtain ⟨p, rfl, ok, hq⟩ := h
  refine ⟨rfl, .done ⟨rfl, ?_⟩⟩
  walk_at "GO"
  exact Qw.here hq
theorem o_get_pages (Φ : Nat → ZSp) (vs : List PV) (M : Mh) (Q : ZQ) (E : ZX) (h : sp_get (fun p => .lst (p.ps.map PV.int)) vs M Q E) : vs.length = 1 ∧ Reach M fun M1 => inl Φ 1 1 b_Build_pages vs M1 Q E := by
  obtain ⟨p, rfl, ok, hq⟩ := h
  refine ⟨rfl, .done ⟨rfl, ?_⟩⟩
  walk_at "GO"
  exact Qw.here hq
theorem o_get_ports (Φ : Nat → ZSp) (vs : List PV) (M : Mh) (Q : ZQ) (E : ZX) (h : sp_get (fun p => .lst (p.qs.map PV.int)) vs M Q E) : vs.length = 1 ∧ Reach M fun M1 => inl Φ 1 1 b_Build_ports vs M1 Q E := by
  obtain ⟨p, rfl, ok, hq⟩ := h
  refine ⟨rfl, .done ⟨rfl, ?_⟩⟩
  walk_at "GO"
  exact Qw.here hq
theorem o_get_locks (Φ : Nat → ZSp) (vs : List PV) (M : Mh) (Q : ZQ) (E : ZX) (h : sp_get (fun p => .int p.nl) vs M Q E) : vs.length = 1 ∧ Reach M fun M1 => inl Φ 1 1 b_Build_locks vs M1 Q E := by
  obtain ⟨p, rfl, ok, hq⟩ := h
  refine ⟨rfl, .done ⟨rfl, ?_⟩⟩
  walk_at "GO"
  exact Qw.here hq
theorem o_get_frames (Φ : Nat → ZSp) (vs : List PV) (M : Mh) (Q : ZQ) (E : ZX) (h : sp_get (fun p => .int p.fr) vs M Q E) : vs.length = 1 ∧ Reach M fun M1 => inl Φ 1 1 b_Build_frames vs M1 Q E := by
  obtain ⟨p, rfl, ok, hq⟩ := h
  refine ⟨rfl, .done ⟨rfl, ?_⟩⟩
  walk_at "GO"
  exact Qw.here hq
theorem o_get_disk (Φ : Nat → ZSp) (vs : List PV) (M : Mh) (Q : ZQ) (E : ZX) (h : sp_get (fun p => .int p.dk) vs M Q E) : vs.length = 1 ∧ Reach M fun M1 => inl Φ 1 1 b_Build_disk vs M1 Q E := by
  obtain ⟨p, rfl, ok, hq⟩ := h
  refine ⟨rfl, .done ⟨rfl, ?_⟩⟩
  walk_at "GO"
  exact Qw.here hq
theorem o_get_rights (Φ : Nat → ZSp) (vs : List PV) (M : Mh) (Q : ZQ) (E : ZX) (h : sp_get (fun p => p.rl) vs M Q E) : vs.length = 1 ∧ Reach M fun M1 => inl Φ 2 1 b_Build_rights vs M1 Q E := by
  obtain ⟨p, rfl, ok, hq⟩ := h
  refine ⟨rfl, .done ⟨rfl, ?_⟩⟩
  walk_at "GO"
  intro D hD
  refine lc_mapF asL hD (by have := ok.r1; have := ok.t1; rw [List.length_map]; omega) (fun _ => trivial) ?_ ?_
  · intro x hx acc k hk
    obtain ⟨t, ht, rfl⟩ := List.mem_map.mp hx
    walk_at "GO"
    exact hk
  rw [show (p.rs.map PV.tup).map asL = p.rs.map PV.lst by rw [List.map_map]; rfl]
  exact Qw.here hq
theorem o_get_lines (Φ : Nat → ZSp) (vs : List PV) (M : Mh) (Q : ZQ) (E : ZX) (h : sp_get (fun p => .lst p.ls) vs M Q E) : vs.length = 1 ∧ Reach M fun M1 => inl Φ 1 1 b_Build_lines vs M1 Q E := by
  obtain ⟨p, rfl, ok, hq⟩ := h
  refine ⟨rfl, .done ⟨rfl, ?_⟩⟩
  walk_at "GO"
  exact Qw.here hq
theorem o_get_costs (Φ : Nat → ZSp) (vs : List PV) (M : Mh) (Q : ZQ) (E : ZX) (h : sp_get (fun p => p.cs) vs M Q E) : vs.length = 1 ∧ Reach M fun M1 => inl Φ 1 1 b_Build_costs vs M1 Q E := by
  obtain ⟨p, rfl, ok, hq⟩ := h
  refine ⟨rfl, .done ⟨rfl, ?_⟩⟩
  walk_at "GO"
  exact Qw.here hq
theorem o_get_plan (Φ : Nat → ZSp) (vs : List PV) (M : Mh) (Q : ZQ) (E : ZX) (h : sp_get (fun p => p.pl) vs M Q E) : vs.length = 1 ∧ Reach M fun M1 => inl Φ 1 1 b_Build_plan vs M1 Q E := by
  obtain ⟨p, rfl, ok, hq⟩ := h
  refine ⟨rfl, .done ⟨rfl, ?_⟩⟩
  have g1 := ok.g1
  replace hq : Q p.pl M := hq
  (conv => whnf)
  refine ⟨rfl, _, rfl, ?_⟩
  rcases g1 with ⟨k, hk, e⟩ | ⟨rows, hl, hr, e⟩
  · rw [e] at hq ⊢
    ((conv => whnf); iterate 2 (walk_at "ONE"))
    refine br_f (by decide +kernel) ?_
    (conv => whnf)
    refine ⟨rfl, _, rfl, ?_⟩
    rw [e]
    exact Qw.here hq
  · rw [e] at hq ⊢
    ((conv => whnf); iterate 2 (walk_at "ONE"))
    refine br_t (by decide +kernel) ?_
    (conv => whnf)
    refine ⟨rfl, _, rfl, ?_⟩
    rw [e]
    walk_at "GO"
    exact Qw.here hq
theorem o_get_outside (Φ : Nat → ZSp) (vs : List PV) (M : Mh) (Q : ZQ) (E : ZX) (h : sp_get (fun p => p.ou) vs M Q E) : vs.length = 1 ∧ Reach M fun M1 => inl Φ 1 1 b_Build_outside vs M1 Q E := by
  obtain ⟨p, rfl, ok, hq⟩ := h
  refine ⟨rfl, .done ⟨rfl, ?_⟩⟩
  walk_at "GO"
  exact Qw.here hq
theorem o_get_wipe (Φ : Nat → ZSp) (vs : List PV) (M : Mh) (Q : ZQ) (E : ZX) (h : sp_get (fun p => .bl p.b0) vs M Q E) : vs.length = 1 ∧ Reach M fun M1 => inl Φ 1 1 b_Build_wipe vs M1 Q E := by
  obtain ⟨p, rfl, ok, hq⟩ := h
  refine ⟨rfl, .done ⟨rfl, ?_⟩⟩
  walk_at "GO"
  exact Qw.here hq
theorem o_get_pad (Φ : Nat → ZSp) (vs : List PV) (M : Mh) (Q : ZQ) (E : ZX) (h : sp_get (fun p => .bl p.b1) vs M Q E) : vs.length = 1 ∧ Reach M fun M1 => inl Φ 1 1 b_Build_pad vs M1 Q E := by
  obtain ⟨p, rfl, ok, hq⟩ := h
  refine ⟨rfl, .done ⟨rfl, ?_⟩⟩
  walk_at "GO"
  exact Qw.here hq
theorem o_get_lend (Φ : Nat → ZSp) (vs : List PV) (M : Mh) (Q : ZQ) (E : ZX) (h : sp_get (fun p => .bl p.b2) vs M Q E) : vs.length = 1 ∧ Reach M fun M1 => inl Φ 1 1 b_Build_lend vs M1 Q E := by
  obtain ⟨p, rfl, ok, hq⟩ := h
  refine ⟨rfl, .done ⟨rfl, ?_⟩⟩
  walk_at "GO"
  exact Qw.here hq
theorem o_get_share (Φ : Nat → ZSp) (vs : List PV) (M : Mh) (Q : ZQ) (E : ZX) (h : sp_get (fun p => .bl p.b3) vs M Q E) : vs.length = 1 ∧ Reach M fun M1 => inl Φ 1 1 b_Build_share vs M1 Q E := by
  obtain ⟨p, rfl, ok, hq⟩ := h
  refine ⟨rfl, .done ⟨rfl, ?_⟩⟩
  walk_at "GO"
  exact Qw.here hq
theorem o_told (Φ : Nat → ZSp) (g0 : Φ 48 = sp_get fun p => p.tl) (g1 : Φ 49 = sp_get fun p => .lst (p.ps.map PV.int)) (g2 : Φ 50 = sp_get fun p => .lst (p.qs.map PV.int)) (g3 : Φ 51 = sp_get fun p => .int p.nl) (g4 : Φ 52 = sp_get fun p => .int p.fr) (g5 : Φ 53 = sp_get fun p => .int p.dk) (g6 : Φ 54 = sp_get fun p => p.rl) (g7 : Φ 55 = sp_get fun p => .lst p.ls) (g8 : Φ 56 = sp_get fun p => p.cs) (g9 : Φ 57 = sp_get fun p => p.pl) (g10 : Φ 58 = sp_get fun p => p.ou) (g11 : Φ 59 = sp_get fun p => .bl p.b0) (g12 : Φ 60 = sp_get fun p => .bl p.b1) (g13 : Φ 61 = sp_get fun p => .bl p.b2) (g14 : Φ 62 = sp_get fun p => .bl p.b3) (vs : List PV) (M : Mh) (Q : ZQ) (E : ZX) (h : sp_told vs M Q E) : vs.length = 1 ∧ Reach M fun M1 => inl Φ 2 1 b__law_told vs M1 Q E := by
  obtain ⟨p, rfl, ok, hq⟩ := h
  refine ⟨rfl, .done ⟨rfl, ?_⟩⟩
  (conv => whnf)
  refine ⟨rfl, ?_⟩
  (conv => whnf)
  rw [g0]
  refine ⟨p, rfl, ok, ?_⟩
  (conv => whnf)
  refine ⟨rfl, ?_⟩
  (conv => whnf)
  rw [g1]
  refine ⟨p, rfl, ok, ?_⟩
  (conv => whnf)
  refine ⟨rfl, ?_⟩
  (conv => whnf)
  rw [g2]
  refine ⟨p, rfl, ok, ?_⟩
  (conv => whnf)
  refine ⟨rfl, ?_⟩
  (conv => whnf)
  rw [g3]
  refine ⟨p, rfl, ok, ?_⟩
  (conv => whnf)
  refine ⟨rfl, ?_⟩
  (conv => whnf)
  rw [g4]
  refine ⟨p, rfl, ok, ?_⟩
  (conv => whnf)
  refine ⟨rfl, ?_⟩
  (conv => whnf)
  rw [g5]
  refine ⟨p, rfl, ok, ?_⟩
  (conv => whnf)
  refine ⟨rfl, ?_⟩
  (conv => whnf)
  rw [g6]
  refine ⟨p, rfl, ok, ?_⟩
  (conv => whnf)
  refine ⟨rfl, ?_⟩
  (conv => whnf)
  rw [g7]
  refine ⟨p, rfl, ok, ?_⟩
  (conv => whnf)
  refine ⟨rfl, ?_⟩
  (conv => whnf)
  rw [g8]
  refine ⟨p, rfl, ok, ?_⟩
  (conv => whnf)
  refine ⟨rfl, ?_⟩
  (conv => whnf)
  rw [g9]
  refine ⟨p, rfl, ok, ?_⟩
  (conv => whnf)
  refine ⟨rfl, ?_⟩
  (conv => whnf)
  rw [g10]
  refine ⟨p, rfl, ok, ?_⟩
  (conv => whnf)
  refine ⟨le_line (Nat.le_of_ble_eq_true rfl), ?_⟩
  intro a10 ha10
  refine ⟨_, put_same, ?_⟩
  rw [put_del ha10]
  (conv => whnf)
  refine ⟨rfl, ?_⟩
  (conv => whnf)
  rw [g11]
  refine ⟨p, rfl, ok, ?_⟩
  (conv => whnf)
  refine ⟨rfl, ?_⟩
  (conv => whnf)
  rw [g12]
  refine ⟨p, rfl, ok, ?_⟩
  (conv => whnf)
  refine ⟨rfl, ?_⟩
  (conv => whnf)
  rw [g13]
  refine ⟨p, rfl, ok, ?_⟩
  (conv => whnf)
  refine ⟨rfl, ?_⟩
  (conv => whnf)
  rw [g14]
  refine ⟨p, rfl, ok, ?_⟩
  (conv => whnf)
  refine ⟨le_line (Nat.le_of_ble_eq_true rfl), ?_⟩
  intro a14 ha14
  refine ⟨_, put_same, ?_⟩
  rw [put_del ha14]
  exact Qw.here hq
theorem okS_items {p : Pt} (ok : p.Ok) : okS 4 (.lst p.items) = true := by
  refine okS_lst (Nat.le_of_ble_eq_true rfl) fun x hx => ?_
  unfold Pt.items at hx
  simp only [List.mem_cons, List.not_mem_nil, or_false] at hx
  rcases hx with rfl | rfl | rfl | rfl | rfl | rfl | rfl | rfl | rfl | rfl | rfl | rfl | rfl | rfl | rfl
  · have := ok.t1
    refine okS_lst (by rw [List.length_map]; omega) fun x hx => ?_
    obtain ⟨t, _, rfl⟩ := List.mem_map.mp hx
    rfl
  · have := ok.p1
    refine okS_lst (by rw [List.length_map]; omega) fun x hx => ?_
    obtain ⟨t, _, rfl⟩ := List.mem_map.mp hx
    rfl
  · have := ok.q1
    refine okS_lst (by rw [List.length_map]; omega) fun x hx => ?_
    obtain ⟨t, _, rfl⟩ := List.mem_map.mp hx
    rfl
  · rfl
  · rfl
  · rfl
  · have := ok.t1
    have := ok.r1
    refine okS_lst (by rw [List.length_map]; omega) fun x hx => ?_
    obtain ⟨r, hr, rfl⟩ := List.mem_map.mp hx
    obtain ⟨h1, h2⟩ := ok.r2 r hr
    refine okS_lst (by omega) fun x hx => ?_
    obtain ⟨s, k, b, i, ⟨rfl, ho, _⟩⟩ := pool_mem (h1.subset hx)
    show (decide (2 ≤ 1000) && (PyData.strOk s && (true && true))) = true
    rw [ho]; rfl
  · have := ok.s1
    have := ok.p1
    refine okS_lst (by omega) fun x hx => ?_
    rcases ok.s2 x hx with rfl | rfl | rfl <;> rfl
  · rfl
  · rcases ok.g1 with ⟨k, _, e⟩ | ⟨rows, hl, _, e⟩ <;> rw [e]
    · show (decide (2 ≤ 1000) && (PyData.strOk "levels" && (true && true))) = true
      decide +kernel
    · refine okS_tup (Nat.le_of_ble_eq_true rfl) fun x hx => ?_
      simp only [List.mem_cons, List.not_mem_nil, or_false] at hx
      rcases hx with rfl | rfl
      · decide +kernel
      · refine okS_lst (by rw [List.length_map]; omega) fun x hx => ?_
        obtain ⟨t, _, rfl⟩ := List.mem_map.mp hx
        rfl
  · rcases ok.o1 with e | ⟨a, b, _, _, e⟩ <;> rw [e] <;> rfl
  · rfl
  · rfl
  · rfl
  · rfl
theorem text_ok {p : Pt} (ok : p.Ok) : okS 4 (.str (Txt.join "\n" (rowsOf p))) = true := by
  show PyData.strOk (Builtin.Str.glued "\n" (rowsOf p)) = true
  rw [StrLaws.glued_eq_join]
  exact strOk_join (by decide +kernel) fun s hs => (rows_rw ok s hs).ok
theorem rows_len {p : Pt} (ok : p.Ok) : (rowsOf p).length ≤ 1000 := by
  have h1 := flatMap_len (f := rightRowsAt p.rs) (m := 8) (xs := rangeL 0 p.rs.length) fun x hx => by
    obtain ⟨i, hi, rfl⟩ := mem_range hx
    exact (rights_at ok hi).1
  have h2 := flatMap_len (f := pageRowsAt p.ps p.ls) (m := 1) (xs := rangeL 0 p.ps.length) fun x hx => by
    obtain ⟨i, hi, rfl⟩ := mem_range hx
    obtain ⟨hl, e⟩ := page_at ok hi
    rw [e]
    exact Nat.le_refl _
  have h3 := plan_len ok
  have h4 := flag_len (a := p.b0) (b := p.b1) (c := p.b2) (d := p.b3)
  have h5 : (outRows p.ou).length ≤ 1 := by rcases ok.o1 with e | ⟨a, b, _, _, e⟩ <;> rw [e] <;> exact Nat.le_of_ble_eq_true rfl
  have := ok.t1
  have := ok.p1
  have := ok.q1
  have := ok.r1
  rw [len_rangeL] at h1 h2
  unfold rowsOf
  simp only [List.length_append, List.length_map, List.length_cons, List.length_nil]
  omega
theorem o_law (Φ : Nat → ZSp) (h0 : Φ 0 = sp_source) (h5 : Φ 5 = sp_parts) (h31 : Φ 31 = sp_made) (h36 : Φ 36 = sp_copy 4) (h_bt : Φ 41 = sp_build_text) (h_rw : Φ 47 = sp_rows) (h_sm : Φ 46 = sp_same 4) (h_td : Φ 63 = sp_told) (vs : List PV) (M : Mh) (Q : ZQ) (E : ZX) (h : sp_law vs M Q E) : vs.length = 1 ∧ Reach M fun M1 => inl Φ 7 1 b_law vs M1 Q E := by
  obtain ⟨ns, rfl, hl, hq⟩ := h
  refine ⟨rfl, .done ⟨rfl, ?_⟩⟩
  walk_at "GO"
  rw [h0]
  refine ⟨ns, rfl, hl, fun s g ne hs hg => ?_⟩
  have hS : Src (put (put M g (.sm intsP)) s (.sm (srcP g))) s g := ⟨put_same, by rw [put_ne (Ne.symm ne)]; exact put_same⟩
  generalize put (put M g (.sm intsP)) s (.sm (srcP g)) = M0 at hS ⊢
  walk_at "GO"
  rw [h5]
  refine ⟨s, g, rfl, hS, fun p ok => ?_⟩
  walk_at "GO"
  rw [h5]
  refine ⟨s, g, rfl, hS, fun p2 ok2 => ?_⟩
  walk_at "GO"
  intro D hD
  walk_at "GO"
  rw [h36]
  refine ⟨_, rfl, okC_items ok, ?_⟩
  walk_at "GO"
  rw [h31]
  refine ⟨p, rfl, ok, ?_⟩
  walk_at "GO"
  rw [h36]
  refine ⟨_, rfl, okC_items ok2, ?_⟩
  walk_at "GO"
  rw [h31]
  refine ⟨p2, rfl, ok2, ?_⟩
  walk_at "GO"
  rw [h_bt]
  refine ⟨p, rfl, ok, ?_⟩
  walk_at "GO"
  rw [h_rw]
  refine ⟨p, rfl, ok, ?_⟩
  walk_at "GO"
  refine ⟨join_ok (fun s hs => (rows_rw ok s hs).len) (rows_len ok), ?_⟩
  (conv => whnf)
  rw [h_sm]
  refine ⟨_, rfl, text_ok ok, ?_⟩
  walk_at "GO"
  rw [h_td]
  refine ⟨p, rfl, ok, ?_⟩
  walk_at "GO"
  rw [h_sm]
  refine ⟨_, rfl, okS_items ok, ?_⟩
  walk_at "GO"
  rw [h_bt]
  refine ⟨p2, rfl, ok2, ?_⟩
  walk_at "GO"
  rw [h_rw]
  refine ⟨p2, rfl, ok2, ?_⟩
  walk_at "GO"
  refine ⟨join_ok (fun s hs => (rows_rw ok2 s hs).len) (rows_len ok2), ?_⟩
  (conv => whnf)
  rw [h_sm]
  refine ⟨_, rfl, text_ok ok2, ?_⟩
  walk_at "GO"
  rw [h_td]
  refine ⟨p2, rfl, ok2, ?_⟩
  walk_at "GO"
  rw [h_sm]
  refine ⟨_, rfl, okS_items ok2, ?_⟩
  walk_at "GO"
  rw [h_bt]
  refine ⟨p, rfl, ok, ?_⟩
  walk_at "GO"
  rw [h_rw]
  refine ⟨p, rfl, ok, ?_⟩
  walk_at "GO"
  refine ⟨join_ok (fun s hs => (rows_rw ok s hs).len) (rows_len ok), ?_⟩
  (conv => whnf)
  rw [h_sm]
  refine ⟨_, rfl, text_ok ok, ?_⟩
  walk_at "GO"
  rw [h_td]
  refine ⟨p, rfl, ok, ?_⟩
  walk_at "GO"
  rw [h_sm]
  refine ⟨_, rfl, okS_items ok, ?_⟩
  walk_at "GO"
  exact Qw.here (hq _)
end HT
set_option Elab.async false
set_option linter.all false
set_option maxRecDepth 100000
set_option maxHeartbeats 0
namespace HT
open PySem PySem.Spec PyProof.Rows L2 Z
theorem mkd_0 {K : PySem.W.Frag} : MkD G K d_Build___init__ ⟨("Build", some "__init__"), ["self", "tasks", "pages", "ports", "locks", "frames", "disk", "rights", "lines", "costs", "plan", "outside", "wipe", "pad", "lend", "share"], [], true⟩ ⟨0, 29, 11, ["wipe", "pad", "lend", "share"], []⟩ := by
  intro fd F
  obtain ⟨mv, kb⟩ := FunD.kbinds0 (ps := ["self", "tasks", "pages", "ports", "locks", "frames", "disk", "rights", "lines", "costs", "plan", "outside", "wipe", "pad", "lend", "share"]) F 12 ["wipe", "pad", "lend", "share"] [] (fun {α} us mv ws => us ++ (ws ++ mv)) (by intro z; cases z) (by simp) (fun r1 r2 r3 => r1.append (r3.append r2)) fun D doc pm an cdv ct us mv ws l1 l2 l3 => match us, mv, ws, l1, l2, l3 with | [_, _, _, _, _, _, _, _, _, _, _, _], [], [_, _, _, _], _, _, _ => rfl
  exact ⟨_, [], kb, fun F => .nil⟩
def L_0 : List ZSp := []
def L_1 : List ZSp := [sp_source]
def L_2 : List ZSp := [sp_source, sp_draw]
def L_3 : List ZSp := [sp_source, sp_draw, sp_pool]
def L_4 : List ZSp := [sp_source, sp_draw, sp_pool, sp_rights]
def L_5 : List ZSp := [sp_source, sp_draw, sp_pool, sp_rights, sp_plan]
def L_6 : List ZSp := [sp_source, sp_draw, sp_pool, sp_rights, sp_plan, sp_parts]
def L_7 : List ZSp := [sp_source, sp_draw, sp_pool, sp_rights, sp_plan, sp_parts, sp_is_tuple]
def L_8 : List ZSp := [sp_source, sp_draw, sp_pool, sp_rights, sp_plan, sp_parts, sp_is_tuple, sp_is_integer]
def L_9 : List ZSp := [sp_source, sp_draw, sp_pool, sp_rights, sp_plan, sp_parts, sp_is_tuple, sp_is_integer, sp_in_range]
def L_10 : List ZSp := [sp_source, sp_draw, sp_pool, sp_rights, sp_plan, sp_parts, sp_is_tuple, sp_is_integer, sp_in_range, sp_good_tasks]
def L_11 : List ZSp := [sp_source, sp_draw, sp_pool, sp_rights, sp_plan, sp_parts, sp_is_tuple, sp_is_integer, sp_in_range, sp_good_tasks, sp_is_value]
def L_12 : List ZSp := [sp_source, sp_draw, sp_pool, sp_rights, sp_plan, sp_parts, sp_is_tuple, sp_is_integer, sp_in_range, sp_good_tasks, sp_is_value, sp_good_pages]
def L_13 : List ZSp := [sp_source, sp_draw, sp_pool, sp_rights, sp_plan, sp_parts, sp_is_tuple, sp_is_integer, sp_in_range, sp_good_tasks, sp_is_value, sp_good_pages, sp_good_ports]
def L_14 : List ZSp := [sp_source, sp_draw, sp_pool, sp_rights, sp_plan, sp_parts, sp_is_tuple, sp_is_integer, sp_in_range, sp_good_tasks, sp_is_value, sp_good_pages, sp_good_ports, sp_good_disk]
def L_15 : List ZSp := [sp_source, sp_draw, sp_pool, sp_rights, sp_plan, sp_parts, sp_is_tuple, sp_is_integer, sp_in_range, sp_good_tasks, sp_is_value, sp_good_pages, sp_good_ports, sp_good_disk, sp_check_things]
def L_16 : List ZSp := [sp_source, sp_draw, sp_pool, sp_rights, sp_plan, sp_parts, sp_is_tuple, sp_is_integer, sp_in_range, sp_good_tasks, sp_is_value, sp_good_pages, sp_good_ports, sp_good_disk, sp_check_things, sp_limits_of]
def L_17 : List ZSp := [sp_source, sp_draw, sp_pool, sp_rights, sp_plan, sp_parts, sp_is_tuple, sp_is_integer, sp_in_range, sp_good_tasks, sp_is_value, sp_good_pages, sp_good_ports, sp_good_disk, sp_check_things, sp_limits_of, sp_is_index]
def L_18 : List ZSp := [sp_source, sp_draw, sp_pool, sp_rights, sp_plan, sp_parts, sp_is_tuple, sp_is_integer, sp_in_range, sp_good_tasks, sp_is_value, sp_good_pages, sp_good_ports, sp_good_disk, sp_check_things, sp_limits_of, sp_is_index, sp_fits_right]
def L_19 : List ZSp := [sp_source, sp_draw, sp_pool, sp_rights, sp_plan, sp_parts, sp_is_tuple, sp_is_integer, sp_in_range, sp_good_tasks, sp_is_value, sp_good_pages, sp_good_ports, sp_good_disk, sp_check_things, sp_limits_of, sp_is_index, sp_fits_right, sp_climbs]
def L_20 : List ZSp := [sp_source, sp_draw, sp_pool, sp_rights, sp_plan, sp_parts, sp_is_tuple, sp_is_integer, sp_in_range, sp_good_tasks, sp_is_value, sp_good_pages, sp_good_ports, sp_good_disk, sp_check_things, sp_limits_of, sp_is_index, sp_fits_right, sp_climbs, sp_good_rights]
def L_21 : List ZSp := [sp_source, sp_draw, sp_pool, sp_rights, sp_plan, sp_parts, sp_is_tuple, sp_is_integer, sp_in_range, sp_good_tasks, sp_is_value, sp_good_pages, sp_good_ports, sp_good_disk, sp_check_things, sp_limits_of, sp_is_index, sp_fits_right, sp_climbs, sp_good_rights, sp_good_lines]
def L_22 : List ZSp := [sp_source, sp_draw, sp_pool, sp_rights, sp_plan, sp_parts, sp_is_tuple, sp_is_integer, sp_in_range, sp_good_tasks, sp_is_value, sp_good_pages, sp_good_ports, sp_good_disk, sp_check_things, sp_limits_of, sp_is_index, sp_fits_right, sp_climbs, sp_good_rights, sp_good_lines, sp_good_costs]
def L_23 : List ZSp := [sp_source, sp_draw, sp_pool, sp_rights, sp_plan, sp_parts, sp_is_tuple, sp_is_integer, sp_in_range, sp_good_tasks, sp_is_value, sp_good_pages, sp_good_ports, sp_good_disk, sp_check_things, sp_limits_of, sp_is_index, sp_fits_right, sp_climbs, sp_good_rights, sp_good_lines, sp_good_costs, sp_good_plan]
def L_24 : List ZSp := [sp_source, sp_draw, sp_pool, sp_rights, sp_plan, sp_parts, sp_is_tuple, sp_is_integer, sp_in_range, sp_good_tasks, sp_is_value, sp_good_pages, sp_good_ports, sp_good_disk, sp_check_things, sp_limits_of, sp_is_index, sp_fits_right, sp_climbs, sp_good_rights, sp_good_lines, sp_good_costs, sp_good_plan, sp_good_outside]
def L_25 : List ZSp := [sp_source, sp_draw, sp_pool, sp_rights, sp_plan, sp_parts, sp_is_tuple, sp_is_integer, sp_in_range, sp_good_tasks, sp_is_value, sp_good_pages, sp_good_ports, sp_good_disk, sp_check_things, sp_limits_of, sp_is_index, sp_fits_right, sp_climbs, sp_good_rights, sp_good_lines, sp_good_costs, sp_good_plan, sp_good_outside, sp_check_rules]
def L_26 : List ZSp := [sp_source, sp_draw, sp_pool, sp_rights, sp_plan, sp_parts, sp_is_tuple, sp_is_integer, sp_in_range, sp_good_tasks, sp_is_value, sp_good_pages, sp_good_ports, sp_good_disk, sp_check_things, sp_limits_of, sp_is_index, sp_fits_right, sp_climbs, sp_good_rights, sp_good_lines, sp_good_costs, sp_good_plan, sp_good_outside, sp_check_rules, sp_is_flag]
def L_27 : List ZSp := [sp_source, sp_draw, sp_pool, sp_rights, sp_plan, sp_parts, sp_is_tuple, sp_is_integer, sp_in_range, sp_good_tasks, sp_is_value, sp_good_pages, sp_good_ports, sp_good_disk, sp_check_things, sp_limits_of, sp_is_index, sp_fits_right, sp_climbs, sp_good_rights, sp_good_lines, sp_good_costs, sp_good_plan, sp_good_outside, sp_check_rules, sp_is_flag, sp_check_flags]
def L_28 : List ZSp := [sp_source, sp_draw, sp_pool, sp_rights, sp_plan, sp_parts, sp_is_tuple, sp_is_integer, sp_in_range, sp_good_tasks, sp_is_value, sp_good_pages, sp_good_ports, sp_good_disk, sp_check_things, sp_limits_of, sp_is_index, sp_fits_right, sp_climbs, sp_good_rights, sp_good_lines, sp_good_costs, sp_good_plan, sp_good_outside, sp_check_rules, sp_is_flag, sp_check_flags, sp_frozen_plan]
def L_29 : List ZSp := [sp_source, sp_draw, sp_pool, sp_rights, sp_plan, sp_parts, sp_is_tuple, sp_is_integer, sp_in_range, sp_good_tasks, sp_is_value, sp_good_pages, sp_good_ports, sp_good_disk, sp_check_things, sp_limits_of, sp_is_index, sp_fits_right, sp_climbs, sp_good_rights, sp_good_lines, sp_good_costs, sp_good_plan, sp_good_outside, sp_check_rules, sp_is_flag, sp_check_flags, sp_frozen_plan, sp_period_of]
def L_30 : List ZSp := [sp_source, sp_draw, sp_pool, sp_rights, sp_plan, sp_parts, sp_is_tuple, sp_is_integer, sp_in_range, sp_good_tasks, sp_is_value, sp_good_pages, sp_good_ports, sp_good_disk, sp_check_things, sp_limits_of, sp_is_index, sp_fits_right, sp_climbs, sp_good_rights, sp_good_lines, sp_good_costs, sp_good_plan, sp_good_outside, sp_check_rules, sp_is_flag, sp_check_flags, sp_frozen_plan, sp_period_of, sp_init]
def L_31 : List ZSp := [sp_source, sp_draw, sp_pool, sp_rights, sp_plan, sp_parts, sp_is_tuple, sp_is_integer, sp_in_range, sp_good_tasks, sp_is_value, sp_good_pages, sp_good_ports, sp_good_disk, sp_check_things, sp_limits_of, sp_is_index, sp_fits_right, sp_climbs, sp_good_rights, sp_good_lines, sp_good_costs, sp_good_plan, sp_good_outside, sp_check_rules, sp_is_flag, sp_check_flags, sp_frozen_plan, sp_period_of, sp_init, sp_is_tuple]
def L_32 : List ZSp := [sp_source, sp_draw, sp_pool, sp_rights, sp_plan, sp_parts, sp_is_tuple, sp_is_integer, sp_in_range, sp_good_tasks, sp_is_value, sp_good_pages, sp_good_ports, sp_good_disk, sp_check_things, sp_limits_of, sp_is_index, sp_fits_right, sp_climbs, sp_good_rights, sp_good_lines, sp_good_costs, sp_good_plan, sp_good_outside, sp_check_rules, sp_is_flag, sp_check_flags, sp_frozen_plan, sp_period_of, sp_init, sp_is_tuple, sp_made]
def L_33 : List ZSp := [sp_source, sp_draw, sp_pool, sp_rights, sp_plan, sp_parts, sp_is_tuple, sp_is_integer, sp_in_range, sp_good_tasks, sp_is_value, sp_good_pages, sp_good_ports, sp_good_disk, sp_check_things, sp_limits_of, sp_is_index, sp_fits_right, sp_climbs, sp_good_rights, sp_good_lines, sp_good_costs, sp_good_plan, sp_good_outside, sp_check_rules, sp_is_flag, sp_check_flags, sp_frozen_plan, sp_period_of, sp_init, sp_is_tuple, sp_made, (sp_copy 0)]
def L_34 : List ZSp := [sp_source, sp_draw, sp_pool, sp_rights, sp_plan, sp_parts, sp_is_tuple, sp_is_integer, sp_in_range, sp_good_tasks, sp_is_value, sp_good_pages, sp_good_ports, sp_good_disk, sp_check_things, sp_limits_of, sp_is_index, sp_fits_right, sp_climbs, sp_good_rights, sp_good_lines, sp_good_costs, sp_good_plan, sp_good_outside, sp_check_rules, sp_is_flag, sp_check_flags, sp_frozen_plan, sp_period_of, sp_init, sp_is_tuple, sp_made, (sp_copy 0), (sp_copy 1)]
def L_35 : List ZSp := [sp_source, sp_draw, sp_pool, sp_rights, sp_plan, sp_parts, sp_is_tuple, sp_is_integer, sp_in_range, sp_good_tasks, sp_is_value, sp_good_pages, sp_good_ports, sp_good_disk, sp_check_things, sp_limits_of, sp_is_index, sp_fits_right, sp_climbs, sp_good_rights, sp_good_lines, sp_good_costs, sp_good_plan, sp_good_outside, sp_check_rules, sp_is_flag, sp_check_flags, sp_frozen_plan, sp_period_of, sp_init, sp_is_tuple, sp_made, (sp_copy 0), (sp_copy 1), (sp_copy 2)]
def L_36 : List ZSp := [sp_source, sp_draw, sp_pool, sp_rights, sp_plan, sp_parts, sp_is_tuple, sp_is_integer, sp_in_range, sp_good_tasks, sp_is_value, sp_good_pages, sp_good_ports, sp_good_disk, sp_check_things, sp_limits_of, sp_is_index, sp_fits_right, sp_climbs, sp_good_rights, sp_good_lines, sp_good_costs, sp_good_plan, sp_good_outside, sp_check_rules, sp_is_flag, sp_check_flags, sp_frozen_plan, sp_period_of, sp_init, sp_is_tuple, sp_made, (sp_copy 0), (sp_copy 1), (sp_copy 2), (sp_copy 3)]
def L_37 : List ZSp := [sp_source, sp_draw, sp_pool, sp_rights, sp_plan, sp_parts, sp_is_tuple, sp_is_integer, sp_in_range, sp_good_tasks, sp_is_value, sp_good_pages, sp_good_ports, sp_good_disk, sp_check_things, sp_limits_of, sp_is_index, sp_fits_right, sp_climbs, sp_good_rights, sp_good_lines, sp_good_costs, sp_good_plan, sp_good_outside, sp_check_rules, sp_is_flag, sp_check_flags, sp_frozen_plan, sp_period_of, sp_init, sp_is_tuple, sp_made, (sp_copy 0), (sp_copy 1), (sp_copy 2), (sp_copy 3), (sp_copy 4)]
def L_38 : List ZSp := [sp_source, sp_draw, sp_pool, sp_rights, sp_plan, sp_parts, sp_is_tuple, sp_is_integer, sp_in_range, sp_good_tasks, sp_is_value, sp_good_pages, sp_good_ports, sp_good_disk, sp_check_things, sp_limits_of, sp_is_index, sp_fits_right, sp_climbs, sp_good_rights, sp_good_lines, sp_good_costs, sp_good_plan, sp_good_outside, sp_check_rules, sp_is_flag, sp_check_flags, sp_frozen_plan, sp_period_of, sp_init, sp_is_tuple, sp_made, (sp_copy 0), (sp_copy 1), (sp_copy 2), (sp_copy 3), (sp_copy 4), sp_page_text]
def L_39 : List ZSp := [sp_source, sp_draw, sp_pool, sp_rights, sp_plan, sp_parts, sp_is_tuple, sp_is_integer, sp_in_range, sp_good_tasks, sp_is_value, sp_good_pages, sp_good_ports, sp_good_disk, sp_check_things, sp_limits_of, sp_is_index, sp_fits_right, sp_climbs, sp_good_rights, sp_good_lines, sp_good_costs, sp_good_plan, sp_good_outside, sp_check_rules, sp_is_flag, sp_check_flags, sp_frozen_plan, sp_period_of, sp_init, sp_is_tuple, sp_made, (sp_copy 0), (sp_copy 1), (sp_copy 2), (sp_copy 3), (sp_copy 4), sp_page_text, sp_plan_texts]
def L_40 : List ZSp := [sp_source, sp_draw, sp_pool, sp_rights, sp_plan, sp_parts, sp_is_tuple, sp_is_integer, sp_in_range, sp_good_tasks, sp_is_value, sp_good_pages, sp_good_ports, sp_good_disk, sp_check_things, sp_limits_of, sp_is_index, sp_fits_right, sp_climbs, sp_good_rights, sp_good_lines, sp_good_costs, sp_good_plan, sp_good_outside, sp_check_rules, sp_is_flag, sp_check_flags, sp_frozen_plan, sp_period_of, sp_init, sp_is_tuple, sp_made, (sp_copy 0), (sp_copy 1), (sp_copy 2), (sp_copy 3), (sp_copy 4), sp_page_text, sp_plan_texts, sp_flag_texts]
def L_41 : List ZSp := [sp_source, sp_draw, sp_pool, sp_rights, sp_plan, sp_parts, sp_is_tuple, sp_is_integer, sp_in_range, sp_good_tasks, sp_is_value, sp_good_pages, sp_good_ports, sp_good_disk, sp_check_things, sp_limits_of, sp_is_index, sp_fits_right, sp_climbs, sp_good_rights, sp_good_lines, sp_good_costs, sp_good_plan, sp_good_outside, sp_check_rules, sp_is_flag, sp_check_flags, sp_frozen_plan, sp_period_of, sp_init, sp_is_tuple, sp_made, (sp_copy 0), (sp_copy 1), (sp_copy 2), (sp_copy 3), (sp_copy 4), sp_page_text, sp_plan_texts, sp_flag_texts, sp_right_words]
def L_42 : List ZSp := [sp_source, sp_draw, sp_pool, sp_rights, sp_plan, sp_parts, sp_is_tuple, sp_is_integer, sp_in_range, sp_good_tasks, sp_is_value, sp_good_pages, sp_good_ports, sp_good_disk, sp_check_things, sp_limits_of, sp_is_index, sp_fits_right, sp_climbs, sp_good_rights, sp_good_lines, sp_good_costs, sp_good_plan, sp_good_outside, sp_check_rules, sp_is_flag, sp_check_flags, sp_frozen_plan, sp_period_of, sp_init, sp_is_tuple, sp_made, (sp_copy 0), (sp_copy 1), (sp_copy 2), (sp_copy 3), (sp_copy 4), sp_page_text, sp_plan_texts, sp_flag_texts, sp_right_words, sp_build_text]
def L_43 : List ZSp := [sp_source, sp_draw, sp_pool, sp_rights, sp_plan, sp_parts, sp_is_tuple, sp_is_integer, sp_in_range, sp_good_tasks, sp_is_value, sp_good_pages, sp_good_ports, sp_good_disk, sp_check_things, sp_limits_of, sp_is_index, sp_fits_right, sp_climbs, sp_good_rights, sp_good_lines, sp_good_costs, sp_good_plan, sp_good_outside, sp_check_rules, sp_is_flag, sp_check_flags, sp_frozen_plan, sp_period_of, sp_init, sp_is_tuple, sp_made, (sp_copy 0), (sp_copy 1), (sp_copy 2), (sp_copy 3), (sp_copy 4), sp_page_text, sp_plan_texts, sp_flag_texts, sp_right_words, sp_build_text, (sp_same 0)]
def L_44 : List ZSp := [sp_source, sp_draw, sp_pool, sp_rights, sp_plan, sp_parts, sp_is_tuple, sp_is_integer, sp_in_range, sp_good_tasks, sp_is_value, sp_good_pages, sp_good_ports, sp_good_disk, sp_check_things, sp_limits_of, sp_is_index, sp_fits_right, sp_climbs, sp_good_rights, sp_good_lines, sp_good_costs, sp_good_plan, sp_good_outside, sp_check_rules, sp_is_flag, sp_check_flags, sp_frozen_plan, sp_period_of, sp_init, sp_is_tuple, sp_made, (sp_copy 0), (sp_copy 1), (sp_copy 2), (sp_copy 3), (sp_copy 4), sp_page_text, sp_plan_texts, sp_flag_texts, sp_right_words, sp_build_text, (sp_same 0), (sp_same 1)]
def L_45 : List ZSp := [sp_source, sp_draw, sp_pool, sp_rights, sp_plan, sp_parts, sp_is_tuple, sp_is_integer, sp_in_range, sp_good_tasks, sp_is_value, sp_good_pages, sp_good_ports, sp_good_disk, sp_check_things, sp_limits_of, sp_is_index, sp_fits_right, sp_climbs, sp_good_rights, sp_good_lines, sp_good_costs, sp_good_plan, sp_good_outside, sp_check_rules, sp_is_flag, sp_check_flags, sp_frozen_plan, sp_period_of, sp_init, sp_is_tuple, sp_made, (sp_copy 0), (sp_copy 1), (sp_copy 2), (sp_copy 3), (sp_copy 4), sp_page_text, sp_plan_texts, sp_flag_texts, sp_right_words, sp_build_text, (sp_same 0), (sp_same 1), (sp_same 2)]
def L_46 : List ZSp := [sp_source, sp_draw, sp_pool, sp_rights, sp_plan, sp_parts, sp_is_tuple, sp_is_integer, sp_in_range, sp_good_tasks, sp_is_value, sp_good_pages, sp_good_ports, sp_good_disk, sp_check_things, sp_limits_of, sp_is_index, sp_fits_right, sp_climbs, sp_good_rights, sp_good_lines, sp_good_costs, sp_good_plan, sp_good_outside, sp_check_rules, sp_is_flag, sp_check_flags, sp_frozen_plan, sp_period_of, sp_init, sp_is_tuple, sp_made, (sp_copy 0), (sp_copy 1), (sp_copy 2), (sp_copy 3), (sp_copy 4), sp_page_text, sp_plan_texts, sp_flag_texts, sp_right_words, sp_build_text, (sp_same 0), (sp_same 1), (sp_same 2), (sp_same 3)]
def L_47 : List ZSp := [sp_source, sp_draw, sp_pool, sp_rights, sp_plan, sp_parts, sp_is_tuple, sp_is_integer, sp_in_range, sp_good_tasks, sp_is_value, sp_good_pages, sp_good_ports, sp_good_disk, sp_check_things, sp_limits_of, sp_is_index, sp_fits_right, sp_climbs, sp_good_rights, sp_good_lines, sp_good_costs, sp_good_plan, sp_good_outside, sp_check_rules, sp_is_flag, sp_check_flags, sp_frozen_plan, sp_period_of, sp_init, sp_is_tuple, sp_made, (sp_copy 0), (sp_copy 1), (sp_copy 2), (sp_copy 3), (sp_copy 4), sp_page_text, sp_plan_texts, sp_flag_texts, sp_right_words, sp_build_text, (sp_same 0), (sp_same 1), (sp_same 2), (sp_same 3), (sp_same 4)]
def L_48 : List ZSp := [sp_source, sp_draw, sp_pool, sp_rights, sp_plan, sp_parts, sp_is_tuple, sp_is_integer, sp_in_range, sp_good_tasks, sp_is_value, sp_good_pages, sp_good_ports, sp_good_disk, sp_check_things, sp_limits_of, sp_is_index, sp_fits_right, sp_climbs, sp_good_rights, sp_good_lines, sp_good_costs, sp_good_plan, sp_good_outside, sp_check_rules, sp_is_flag, sp_check_flags, sp_frozen_plan, sp_period_of, sp_init, sp_is_tuple, sp_made, (sp_copy 0), (sp_copy 1), (sp_copy 2), (sp_copy 3), (sp_copy 4), sp_page_text, sp_plan_texts, sp_flag_texts, sp_right_words, sp_build_text, (sp_same 0), (sp_same 1), (sp_same 2), (sp_same 3), (sp_same 4), sp_rows]
def L_49 : List ZSp := [sp_source, sp_draw, sp_pool, sp_rights, sp_plan, sp_parts, sp_is_tuple, sp_is_integer, sp_in_range, sp_good_tasks, sp_is_value, sp_good_pages, sp_good_ports, sp_good_disk, sp_check_things, sp_limits_of, sp_is_index, sp_fits_right, sp_climbs, sp_good_rights, sp_good_lines, sp_good_costs, sp_good_plan, sp_good_outside, sp_check_rules, sp_is_flag, sp_check_flags, sp_frozen_plan, sp_period_of, sp_init, sp_is_tuple, sp_made, (sp_copy 0), (sp_copy 1), (sp_copy 2), (sp_copy 3), (sp_copy 4), sp_page_text, sp_plan_texts, sp_flag_texts, sp_right_words, sp_build_text, (sp_same 0), (sp_same 1), (sp_same 2), (sp_same 3), (sp_same 4), sp_rows, (sp_get fun p => p.tl)]
def L_50 : List ZSp := [sp_source, sp_draw, sp_pool, sp_rights, sp_plan, sp_parts, sp_is_tuple, sp_is_integer, sp_in_range, sp_good_tasks, sp_is_value, sp_good_pages, sp_good_ports, sp_good_disk, sp_check_things, sp_limits_of, sp_is_index, sp_fits_right, sp_climbs, sp_good_rights, sp_good_lines, sp_good_costs, sp_good_plan, sp_good_outside, sp_check_rules, sp_is_flag, sp_check_flags, sp_frozen_plan, sp_period_of, sp_init, sp_is_tuple, sp_made, (sp_copy 0), (sp_copy 1), (sp_copy 2), (sp_copy 3), (sp_copy 4), sp_page_text, sp_plan_texts, sp_flag_texts, sp_right_words, sp_build_text, (sp_same 0), (sp_same 1), (sp_same 2), (sp_same 3), (sp_same 4), sp_rows, (sp_get fun p => p.tl), (sp_get fun p => .lst (p.ps.map PV.int))]
def L_51 : List ZSp := [sp_source, sp_draw, sp_pool, sp_rights, sp_plan, sp_parts, sp_is_tuple, sp_is_integer, sp_in_range, sp_good_tasks, sp_is_value, sp_good_pages, sp_good_ports, sp_good_disk, sp_check_things, sp_limits_of, sp_is_index, sp_fits_right, sp_climbs, sp_good_rights, sp_good_lines, sp_good_costs, sp_good_plan, sp_good_outside, sp_check_rules, sp_is_flag, sp_check_flags, sp_frozen_plan, sp_period_of, sp_init, sp_is_tuple, sp_made, (sp_copy 0), (sp_copy 1), (sp_copy 2), (sp_copy 3), (sp_copy 4), sp_page_text, sp_plan_texts, sp_flag_texts, sp_right_words, sp_build_text, (sp_same 0), (sp_same 1), (sp_same 2), (sp_same 3), (sp_same 4), sp_rows, (sp_get fun p => p.tl), (sp_get fun p => .lst (p.ps.map PV.int)), (sp_get fun p => .lst (p.qs.map PV.int))]
def L_52 : List ZSp := [sp_source, sp_draw, sp_pool, sp_rights, sp_plan, sp_parts, sp_is_tuple, sp_is_integer, sp_in_range, sp_good_tasks, sp_is_value, sp_good_pages, sp_good_ports, sp_good_disk, sp_check_things, sp_limits_of, sp_is_index, sp_fits_right, sp_climbs, sp_good_rights, sp_good_lines, sp_good_costs, sp_good_plan, sp_good_outside, sp_check_rules, sp_is_flag, sp_check_flags, sp_frozen_plan, sp_period_of, sp_init, sp_is_tuple, sp_made, (sp_copy 0), (sp_copy 1), (sp_copy 2), (sp_copy 3), (sp_copy 4), sp_page_text, sp_plan_texts, sp_flag_texts, sp_right_words, sp_build_text, (sp_same 0), (sp_same 1), (sp_same 2), (sp_same 3), (sp_same 4), sp_rows, (sp_get fun p => p.tl), (sp_get fun p => .lst (p.ps.map PV.int)), (sp_get fun p => .lst (p.qs.map PV.int)), (sp_get fun p => .int p.nl)]
def L_53 : List ZSp := [sp_source, sp_draw, sp_pool, sp_rights, sp_plan, sp_parts, sp_is_tuple, sp_is_integer, sp_in_range, sp_good_tasks, sp_is_value, sp_good_pages, sp_good_ports, sp_good_disk, sp_check_things, sp_limits_of, sp_is_index, sp_fits_right, sp_climbs, sp_good_rights, sp_good_lines, sp_good_costs, sp_good_plan, sp_good_outside, sp_check_rules, sp_is_flag, sp_check_flags, sp_frozen_plan, sp_period_of, sp_init, sp_is_tuple, sp_made, (sp_copy 0), (sp_copy 1), (sp_copy 2), (sp_copy 3), (sp_copy 4), sp_page_text, sp_plan_texts, sp_flag_texts, sp_right_words, sp_build_text, (sp_same 0), (sp_same 1), (sp_same 2), (sp_same 3), (sp_same 4), sp_rows, (sp_get fun p => p.tl), (sp_get fun p => .lst (p.ps.map PV.int)), (sp_get fun p => .lst (p.qs.map PV.int)), (sp_get fun p => .int p.nl), (sp_get fun p => .int p.fr)]
def L_54 : List ZSp := [sp_source, sp_draw, sp_pool, sp_rights, sp_plan, sp_parts, sp_is_tuple, sp_is_integer, sp_in_range, sp_good_tasks, sp_is_value, sp_good_pages, sp_good_ports, sp_good_disk, sp_check_things, sp_limits_of, sp_is_index, sp_fits_right, sp_climbs, sp_good_rights, sp_good_lines, sp_good_costs, sp_good_plan, sp_good_outside, sp_check_rules, sp_is_flag, sp_check_flags, sp_frozen_plan, sp_period_of, sp_init, sp_is_tuple, sp_made, (sp_copy 0), (sp_copy 1), (sp_copy 2), (sp_copy 3), (sp_copy 4), sp_page_text, sp_plan_texts, sp_flag_texts, sp_right_words, sp_build_text, (sp_same 0), (sp_same 1), (sp_same 2), (sp_same 3), (sp_same 4), sp_rows, (sp_get fun p => p.tl), (sp_get fun p => .lst (p.ps.map PV.int)), (sp_get fun p => .lst (p.qs.map PV.int)), (sp_get fun p => .int p.nl), (sp_get fun p => .int p.fr), (sp_get fun p => .int p.dk)]
def L_55 : List ZSp := [sp_source, sp_draw, sp_pool, sp_rights, sp_plan, sp_parts, sp_is_tuple, sp_is_integer, sp_in_range, sp_good_tasks, sp_is_value, sp_good_pages, sp_good_ports, sp_good_disk, sp_check_things, sp_limits_of, sp_is_index, sp_fits_right, sp_climbs, sp_good_rights, sp_good_lines, sp_good_costs, sp_good_plan, sp_good_outside, sp_check_rules, sp_is_flag, sp_check_flags, sp_frozen_plan, sp_period_of, sp_init, sp_is_tuple, sp_made, (sp_copy 0), (sp_copy 1), (sp_copy 2), (sp_copy 3), (sp_copy 4), sp_page_text, sp_plan_texts, sp_flag_texts, sp_right_words, sp_build_text, (sp_same 0), (sp_same 1), (sp_same 2), (sp_same 3), (sp_same 4), sp_rows, (sp_get fun p => p.tl), (sp_get fun p => .lst (p.ps.map PV.int)), (sp_get fun p => .lst (p.qs.map PV.int)), (sp_get fun p => .int p.nl), (sp_get fun p => .int p.fr), (sp_get fun p => .int p.dk), (sp_get fun p => p.rl)]
def L_56 : List ZSp := [sp_source, sp_draw, sp_pool, sp_rights, sp_plan, sp_parts, sp_is_tuple, sp_is_integer, sp_in_range, sp_good_tasks, sp_is_value, sp_good_pages, sp_good_ports, sp_good_disk, sp_check_things, sp_limits_of, sp_is_index, sp_fits_right, sp_climbs, sp_good_rights, sp_good_lines, sp_good_costs, sp_good_plan, sp_good_outside, sp_check_rules, sp_is_flag, sp_check_flags, sp_frozen_plan, sp_period_of, sp_init, sp_is_tuple, sp_made, (sp_copy 0), (sp_copy 1), (sp_copy 2), (sp_copy 3), (sp_copy 4), sp_page_text, sp_plan_texts, sp_flag_texts, sp_right_words, sp_build_text, (sp_same 0), (sp_same 1), (sp_same 2), (sp_same 3), (sp_same 4), sp_rows, (sp_get fun p => p.tl), (sp_get fun p => .lst (p.ps.map PV.int)), (sp_get fun p => .lst (p.qs.map PV.int)), (sp_get fun p => .int p.nl), (sp_get fun p => .int p.fr), (sp_get fun p => .int p.dk), (sp_get fun p => p.rl), (sp_get fun p => .lst p.ls)]
def L_57 : List ZSp := [sp_source, sp_draw, sp_pool, sp_rights, sp_plan, sp_parts, sp_is_tuple, sp_is_integer, sp_in_range, sp_good_tasks, sp_is_value, sp_good_pages, sp_good_ports, sp_good_disk, sp_check_things, sp_limits_of, sp_is_index, sp_fits_right, sp_climbs, sp_good_rights, sp_good_lines, sp_good_costs, sp_good_plan, sp_good_outside, sp_check_rules, sp_is_flag, sp_check_flags, sp_frozen_plan, sp_period_of, sp_init, sp_is_tuple, sp_made, (sp_copy 0), (sp_copy 1), (sp_copy 2), (sp_copy 3), (sp_copy 4), sp_page_text, sp_plan_texts, sp_flag_texts, sp_right_words, sp_build_text, (sp_same 0), (sp_same 1), (sp_same 2), (sp_same 3), (sp_same 4), sp_rows, (sp_get fun p => p.tl), (sp_get fun p => .lst (p.ps.map PV.int)), (sp_get fun p => .lst (p.qs.map PV.int)), (sp_get fun p => .int p.nl), (sp_get fun p => .int p.fr), (sp_get fun p => .int p.dk), (sp_get fun p => p.rl), (sp_get fun p => .lst p.ls), (sp_get fun p => p.cs)]
def L_58 : List ZSp := [sp_source, sp_draw, sp_pool, sp_rights, sp_plan, sp_parts, sp_is_tuple, sp_is_integer, sp_in_range, sp_good_tasks, sp_is_value, sp_good_pages, sp_good_ports, sp_good_disk, sp_check_things, sp_limits_of, sp_is_index, sp_fits_right, sp_climbs, sp_good_rights, sp_good_lines, sp_good_costs, sp_good_plan, sp_good_outside, sp_check_rules, sp_is_flag, sp_check_flags, sp_frozen_plan, sp_period_of, sp_init, sp_is_tuple, sp_made, (sp_copy 0), (sp_copy 1), (sp_copy 2), (sp_copy 3), (sp_copy 4), sp_page_text, sp_plan_texts, sp_flag_texts, sp_right_words, sp_build_text, (sp_same 0), (sp_same 1), (sp_same 2), (sp_same 3), (sp_same 4), sp_rows, (sp_get fun p => p.tl), (sp_get fun p => .lst (p.ps.map PV.int)), (sp_get fun p => .lst (p.qs.map PV.int)), (sp_get fun p => .int p.nl), (sp_get fun p => .int p.fr), (sp_get fun p => .int p.dk), (sp_get fun p => p.rl), (sp_get fun p => .lst p.ls), (sp_get fun p => p.cs), (sp_get fun p => p.pl)]
def L_59 : List ZSp := [sp_source, sp_draw, sp_pool, sp_rights, sp_plan, sp_parts, sp_is_tuple, sp_is_integer, sp_in_range, sp_good_tasks, sp_is_value, sp_good_pages, sp_good_ports, sp_good_disk, sp_check_things, sp_limits_of, sp_is_index, sp_fits_right, sp_climbs, sp_good_rights, sp_good_lines, sp_good_costs, sp_good_plan, sp_good_outside, sp_check_rules, sp_is_flag, sp_check_flags, sp_frozen_plan, sp_period_of, sp_init, sp_is_tuple, sp_made, (sp_copy 0), (sp_copy 1), (sp_copy 2), (sp_copy 3), (sp_copy 4), sp_page_text, sp_plan_texts, sp_flag_texts, sp_right_words, sp_build_text, (sp_same 0), (sp_same 1), (sp_same 2), (sp_same 3), (sp_same 4), sp_rows, (sp_get fun p => p.tl), (sp_get fun p => .lst (p.ps.map PV.int)), (sp_get fun p => .lst (p.qs.map PV.int)), (sp_get fun p => .int p.nl), (sp_get fun p => .int p.fr), (sp_get fun p => .int p.dk), (sp_get fun p => p.rl), (sp_get fun p => .lst p.ls), (sp_get fun p => p.cs), (sp_get fun p => p.pl), (sp_get fun p => p.ou)]
def L_60 : List ZSp := [sp_source, sp_draw, sp_pool, sp_rights, sp_plan, sp_parts, sp_is_tuple, sp_is_integer, sp_in_range, sp_good_tasks, sp_is_value, sp_good_pages, sp_good_ports, sp_good_disk, sp_check_things, sp_limits_of, sp_is_index, sp_fits_right, sp_climbs, sp_good_rights, sp_good_lines, sp_good_costs, sp_good_plan, sp_good_outside, sp_check_rules, sp_is_flag, sp_check_flags, sp_frozen_plan, sp_period_of, sp_init, sp_is_tuple, sp_made, (sp_copy 0), (sp_copy 1), (sp_copy 2), (sp_copy 3), (sp_copy 4), sp_page_text, sp_plan_texts, sp_flag_texts, sp_right_words, sp_build_text, (sp_same 0), (sp_same 1), (sp_same 2), (sp_same 3), (sp_same 4), sp_rows, (sp_get fun p => p.tl), (sp_get fun p => .lst (p.ps.map PV.int)), (sp_get fun p => .lst (p.qs.map PV.int)), (sp_get fun p => .int p.nl), (sp_get fun p => .int p.fr), (sp_get fun p => .int p.dk), (sp_get fun p => p.rl), (sp_get fun p => .lst p.ls), (sp_get fun p => p.cs), (sp_get fun p => p.pl), (sp_get fun p => p.ou), (sp_get fun p => .bl p.b0)]
def L_61 : List ZSp := [sp_source, sp_draw, sp_pool, sp_rights, sp_plan, sp_parts, sp_is_tuple, sp_is_integer, sp_in_range, sp_good_tasks, sp_is_value, sp_good_pages, sp_good_ports, sp_good_disk, sp_check_things, sp_limits_of, sp_is_index, sp_fits_right, sp_climbs, sp_good_rights, sp_good_lines, sp_good_costs, sp_good_plan, sp_good_outside, sp_check_rules, sp_is_flag, sp_check_flags, sp_frozen_plan, sp_period_of, sp_init, sp_is_tuple, sp_made, (sp_copy 0), (sp_copy 1), (sp_copy 2), (sp_copy 3), (sp_copy 4), sp_page_text, sp_plan_texts, sp_flag_texts, sp_right_words, sp_build_text, (sp_same 0), (sp_same 1), (sp_same 2), (sp_same 3), (sp_same 4), sp_rows, (sp_get fun p => p.tl), (sp_get fun p => .lst (p.ps.map PV.int)), (sp_get fun p => .lst (p.qs.map PV.int)), (sp_get fun p => .int p.nl), (sp_get fun p => .int p.fr), (sp_get fun p => .int p.dk), (sp_get fun p => p.rl), (sp_get fun p => .lst p.ls), (sp_get fun p => p.cs), (sp_get fun p => p.pl), (sp_get fun p => p.ou), (sp_get fun p => .bl p.b0), (sp_get fun p => .bl p.b1)]
def L_62 : List ZSp := [sp_source, sp_draw, sp_pool, sp_rights, sp_plan, sp_parts, sp_is_tuple, sp_is_integer, sp_in_range, sp_good_tasks, sp_is_value, sp_good_pages, sp_good_ports, sp_good_disk, sp_check_things, sp_limits_of, sp_is_index, sp_fits_right, sp_climbs, sp_good_rights, sp_good_lines, sp_good_costs, sp_good_plan, sp_good_outside, sp_check_rules, sp_is_flag, sp_check_flags, sp_frozen_plan, sp_period_of, sp_init, sp_is_tuple, sp_made, (sp_copy 0), (sp_copy 1), (sp_copy 2), (sp_copy 3), (sp_copy 4), sp_page_text, sp_plan_texts, sp_flag_texts, sp_right_words, sp_build_text, (sp_same 0), (sp_same 1), (sp_same 2), (sp_same 3), (sp_same 4), sp_rows, (sp_get fun p => p.tl), (sp_get fun p => .lst (p.ps.map PV.int)), (sp_get fun p => .lst (p.qs.map PV.int)), (sp_get fun p => .int p.nl), (sp_get fun p => .int p.fr), (sp_get fun p => .int p.dk), (sp_get fun p => p.rl), (sp_get fun p => .lst p.ls), (sp_get fun p => p.cs), (sp_get fun p => p.pl), (sp_get fun p => p.ou), (sp_get fun p => .bl p.b0), (sp_get fun p => .bl p.b1), (sp_get fun p => .bl p.b2)]
def L_63 : List ZSp := [sp_source, sp_draw, sp_pool, sp_rights, sp_plan, sp_parts, sp_is_tuple, sp_is_integer, sp_in_range, sp_good_tasks, sp_is_value, sp_good_pages, sp_good_ports, sp_good_disk, sp_check_things, sp_limits_of, sp_is_index, sp_fits_right, sp_climbs, sp_good_rights, sp_good_lines, sp_good_costs, sp_good_plan, sp_good_outside, sp_check_rules, sp_is_flag, sp_check_flags, sp_frozen_plan, sp_period_of, sp_init, sp_is_tuple, sp_made, (sp_copy 0), (sp_copy 1), (sp_copy 2), (sp_copy 3), (sp_copy 4), sp_page_text, sp_plan_texts, sp_flag_texts, sp_right_words, sp_build_text, (sp_same 0), (sp_same 1), (sp_same 2), (sp_same 3), (sp_same 4), sp_rows, (sp_get fun p => p.tl), (sp_get fun p => .lst (p.ps.map PV.int)), (sp_get fun p => .lst (p.qs.map PV.int)), (sp_get fun p => .int p.nl), (sp_get fun p => .int p.fr), (sp_get fun p => .int p.dk), (sp_get fun p => p.rl), (sp_get fun p => .lst p.ls), (sp_get fun p => p.cs), (sp_get fun p => p.pl), (sp_get fun p => p.ou), (sp_get fun p => .bl p.b0), (sp_get fun p => .bl p.b1), (sp_get fun p => .bl p.b2), (sp_get fun p => .bl p.b3)]
def L_64 : List ZSp := [sp_source, sp_draw, sp_pool, sp_rights, sp_plan, sp_parts, sp_is_tuple, sp_is_integer, sp_in_range, sp_good_tasks, sp_is_value, sp_good_pages, sp_good_ports, sp_good_disk, sp_check_things, sp_limits_of, sp_is_index, sp_fits_right, sp_climbs, sp_good_rights, sp_good_lines, sp_good_costs, sp_good_plan, sp_good_outside, sp_check_rules, sp_is_flag, sp_check_flags, sp_frozen_plan, sp_period_of, sp_init, sp_is_tuple, sp_made, (sp_copy 0), (sp_copy 1), (sp_copy 2), (sp_copy 3), (sp_copy 4), sp_page_text, sp_plan_texts, sp_flag_texts, sp_right_words, sp_build_text, (sp_same 0), (sp_same 1), (sp_same 2), (sp_same 3), (sp_same 4), sp_rows, (sp_get fun p => p.tl), (sp_get fun p => .lst (p.ps.map PV.int)), (sp_get fun p => .lst (p.qs.map PV.int)), (sp_get fun p => .int p.nl), (sp_get fun p => .int p.fr), (sp_get fun p => .int p.dk), (sp_get fun p => p.rl), (sp_get fun p => .lst p.ls), (sp_get fun p => p.cs), (sp_get fun p => p.pl), (sp_get fun p => p.ou), (sp_get fun p => .bl p.b0), (sp_get fun p => .bl p.b1), (sp_get fun p => .bl p.b2), (sp_get fun p => .bl p.b3), sp_told]
section
variable {K : PySem.W.Frag} {h : Heap} {mg : Str → Option Value} {P : Program} {w : World} {base : Heap}
theorem tab_0 (X : K.In h) (Gn : h.Ns mainGlobals mg) (c : He.SaysD fa dl K) : ∀ F0, Tab (G.at F0) B (PL L_0) 0 P w K mg base := tab0 X Gn c hb
theorem tab_1 (X : K.In h) (Gn : h.Ns mainGlobals mg) (c : He.SaysD fa dl K) : ∀ F0, Tab (G.at F0) B (PL L_1) 1 P w K mg base :=
  tab_next X Gn c (l := L_0) (s := sp_source) (k := 44) (d := d__law_source) (fn := ⟨("_law_source", none), ["_law_script"], [], false⟩) (N := n__law_source) (m := b__law_source) rfl rfl (tab_0 X Gn c) rfl rfl rfl (by decide +kernel) s__law_source c__law_source (bindsD0 rfl rfl fun _ _ _ _ _ _ us hl => match us, hl with | [_], _ => rfl) (not_mks (by decide +kernel)) (o_source (PL L_0))
theorem tab_2 (X : K.In h) (Gn : h.Ns mainGlobals mg) (c : He.SaysD fa dl K) : ∀ F0, Tab (G.at F0) B (PL L_2) 2 P w K mg base :=
  tab_next X Gn c (l := L_1) (s := sp_draw) (k := 45) (d := d__law_draw) (fn := ⟨("_law_draw", none), ["_law_source_here", "_law_many"], [], false⟩) (N := n__law_draw) (m := b__law_draw) rfl rfl (tab_1 X Gn c) rfl rfl rfl (by decide +kernel) s__law_draw c__law_draw (bindsD0 rfl rfl fun _ _ _ _ _ _ us hl => match us, hl with | [_, _], _ => rfl) (not_mks (by decide +kernel)) (o_draw (PL L_1))
theorem tab_3 (X : K.In h) (Gn : h.Ns mainGlobals mg) (c : He.SaysD fa dl K) : ∀ F0, Tab (G.at F0) B (PL L_3) 3 P w K mg base :=
  tab_next X Gn c (l := L_2) (s := sp_pool) (k := 46) (d := d__law_pool) (fn := ⟨("_law_pool", none), ["_law_parts_here"], [], false⟩) (N := n__law_pool) (m := b__law_pool) rfl rfl (tab_2 X Gn c) rfl rfl rfl (by decide +kernel) s__law_pool c__law_pool (bindsD0 rfl rfl fun _ _ _ _ _ _ us hl => match us, hl with | [_], _ => rfl) (not_mks (by decide +kernel)) (o_pool (PL L_2))
theorem tab_4 (X : K.In h) (Gn : h.Ns mainGlobals mg) (c : He.SaysD fa dl K) : ∀ F0, Tab (G.at F0) B (PL L_4) 4 P w K mg base :=
  tab_next X Gn c (l := L_3) (s := sp_rights) (k := 47) (d := d__law_rights) (fn := ⟨("_law_rights", none), ["_law_source_here", "_law_pool_here"], [], false⟩) (N := n__law_rights) (m := b__law_rights) rfl rfl (tab_3 X Gn c) rfl rfl rfl (by decide +kernel) s__law_rights c__law_rights (bindsD0 rfl rfl fun _ _ _ _ _ _ us hl => match us, hl with | [_, _], _ => rfl) (not_mks (by decide +kernel)) (o_rights (PL L_3) rfl)
theorem tab_5 (X : K.In h) (Gn : h.Ns mainGlobals mg) (c : He.SaysD fa dl K) : ∀ F0, Tab (G.at F0) B (PL L_5) 5 P w K mg base :=
  tab_next X Gn c (l := L_4) (s := sp_plan) (k := 48) (d := d__law_plan) (fn := ⟨("_law_plan", none), ["_law_source_here", "_law_many"], [], false⟩) (N := n__law_plan) (m := b__law_plan) rfl rfl (tab_4 X Gn c) rfl rfl rfl (by decide +kernel) s__law_plan c__law_plan (bindsD0 rfl rfl fun _ _ _ _ _ _ us hl => match us, hl with | [_, _], _ => rfl) (not_mks (by decide +kernel)) (o_plan (PL L_4) rfl)
theorem tab_6 (X : K.In h) (Gn : h.Ns mainGlobals mg) (c : He.SaysD fa dl K) : ∀ F0, Tab (G.at F0) B (PL L_6) 6 P w K mg base :=
  tab_next X Gn c (l := L_5) (s := sp_parts) (k := 49) (d := d__law_parts) (fn := ⟨("_law_parts", none), ["_law_source_here"], [], false⟩) (N := n__law_parts) (m := b__law_parts) rfl rfl (tab_5 X Gn c) rfl rfl rfl (by decide +kernel) s__law_parts c__law_parts (bindsD0 rfl rfl fun _ _ _ _ _ _ us hl => match us, hl with | [_], _ => rfl) (not_mks (by decide +kernel)) (o_parts (PL L_5) rfl rfl rfl rfl)
theorem tab_7 (X : K.In h) (Gn : h.Ns mainGlobals mg) (c : He.SaysD fa dl K) : ∀ F0, Tab (G.at F0) B (PL L_7) 7 P w K mg base :=
  tab_next X Gn c (l := L_6) (s := sp_is_tuple) (k := 5) (d := d_is_tuple) (fn := ⟨("is_tuple", none), ["thing", "many"], [], false⟩) (N := n_is_tuple) (m := b_is_tuple) rfl rfl (tab_6 X Gn c) rfl rfl rfl (by decide +kernel) s_is_tuple c_is_tuple (bindsD0 rfl rfl fun _ _ _ _ _ _ us hl => match us, hl with | [_, _], _ => rfl) (not_mks (by decide +kernel)) (o_is_tuple (PL L_6))
theorem tab_8 (X : K.In h) (Gn : h.Ns mainGlobals mg) (c : He.SaysD fa dl K) : ∀ F0, Tab (G.at F0) B (PL L_8) 8 P w K mg base :=
  tab_next X Gn c (l := L_7) (s := sp_is_integer) (k := 0) (d := d_is_integer) (fn := ⟨("is_integer", none), ["thing"], [], false⟩) (N := n_is_integer) (m := b_is_integer) rfl rfl (tab_7 X Gn c) rfl rfl rfl (by decide +kernel) s_is_integer c_is_integer (bindsD0 rfl rfl fun _ _ _ _ _ _ us hl => match us, hl with | [_], _ => rfl) (not_mks (by decide +kernel)) (o_is_integer (PL L_7))
theorem tab_9 (X : K.In h) (Gn : h.Ns mainGlobals mg) (c : He.SaysD fa dl K) : ∀ F0, Tab (G.at F0) B (PL L_9) 9 P w K mg base :=
  tab_next X Gn c (l := L_8) (s := sp_in_range) (k := 1) (d := d_in_range) (fn := ⟨("in_range", none), ["thing", "low", "high"], [], false⟩) (N := n_in_range) (m := b_in_range) rfl rfl (tab_8 X Gn c) rfl rfl rfl (by decide +kernel) s_in_range c_in_range (bindsD0 rfl rfl fun _ _ _ _ _ _ us hl => match us, hl with | [_, _, _], _ => rfl) (not_mks (by decide +kernel)) (o_in_range (PL L_8) rfl)
theorem tab_10 (X : K.In h) (Gn : h.Ns mainGlobals mg) (c : He.SaysD fa dl K) : ∀ F0, Tab (G.at F0) B (PL L_10) 10 P w K mg base :=
  tab_next X Gn c (l := L_9) (s := sp_good_tasks) (k := 8) (d := d_good_tasks) (fn := ⟨("good_tasks", none), ["tasks"], [], false⟩) (N := n_good_tasks) (m := b_good_tasks) rfl rfl (tab_9 X Gn c) rfl rfl rfl (by decide +kernel) s_good_tasks c_good_tasks (bindsD0 rfl rfl fun _ _ _ _ _ _ us hl => match us, hl with | [_], _ => rfl) (not_mks (by decide +kernel)) (o_good_tasks (PL L_9) rfl rfl)
theorem tab_11 (X : K.In h) (Gn : h.Ns mainGlobals mg) (c : He.SaysD fa dl K) : ∀ F0, Tab (G.at F0) B (PL L_11) 11 P w K mg base :=
  tab_next X Gn c (l := L_10) (s := sp_is_value) (k := 3) (d := d_is_value) (fn := ⟨("is_value", none), ["thing"], [], false⟩) (N := n_is_value) (m := b_is_value) rfl rfl (tab_10 X Gn c) rfl rfl rfl (by decide +kernel) s_is_value c_is_value (bindsD0 rfl rfl fun _ _ _ _ _ _ us hl => match us, hl with | [_], _ => rfl) (not_mks (by decide +kernel)) (o_is_value (PL L_10) rfl)
theorem tab_12 (X : K.In h) (Gn : h.Ns mainGlobals mg) (c : He.SaysD fa dl K) : ∀ F0, Tab (G.at F0) B (PL L_12) 12 P w K mg base :=
  tab_next X Gn c (l := L_11) (s := sp_good_pages) (k := 9) (d := d_good_pages) (fn := ⟨("good_pages", none), ["pages"], [], false⟩) (N := n_good_pages) (m := b_good_pages) rfl rfl (tab_11 X Gn c) rfl rfl rfl (by decide +kernel) s_good_pages c_good_pages (bindsD0 rfl rfl fun _ _ _ _ _ _ us hl => match us, hl with | [_], _ => rfl) (not_mks (by decide +kernel)) (o_good_pages (PL L_11) rfl)
theorem tab_13 (X : K.In h) (Gn : h.Ns mainGlobals mg) (c : He.SaysD fa dl K) : ∀ F0, Tab (G.at F0) B (PL L_13) 13 P w K mg base :=
  tab_next X Gn c (l := L_12) (s := sp_good_ports) (k := 10) (d := d_good_ports) (fn := ⟨("good_ports", none), ["ports"], [], false⟩) (N := n_good_ports) (m := b_good_ports) rfl rfl (tab_12 X Gn c) rfl rfl rfl (by decide +kernel) s_good_ports c_good_ports (bindsD0 rfl rfl fun _ _ _ _ _ _ us hl => match us, hl with | [_], _ => rfl) (not_mks (by decide +kernel)) (o_good_ports (PL L_12) rfl)
theorem tab_14 (X : K.In h) (Gn : h.Ns mainGlobals mg) (c : He.SaysD fa dl K) : ∀ F0, Tab (G.at F0) B (PL L_14) 14 P w K mg base :=
  tab_next X Gn c (l := L_13) (s := sp_good_disk) (k := 11) (d := d_good_disk) (fn := ⟨("good_disk", none), ["disk"], [], false⟩) (N := n_good_disk) (m := b_good_disk) rfl rfl (tab_13 X Gn c) rfl rfl rfl (by decide +kernel) s_good_disk c_good_disk (bindsD0 rfl rfl fun _ _ _ _ _ _ us hl => match us, hl with | [_], _ => rfl) (not_mks (by decide +kernel)) (o_good_disk (PL L_13) rfl)
theorem tab_15 (X : K.In h) (Gn : h.Ns mainGlobals mg) (c : He.SaysD fa dl K) : ∀ F0, Tab (G.at F0) B (PL L_15) 15 P w K mg base :=
  tab_next X Gn c (l := L_14) (s := sp_check_things) (k := 18) (d := d_check_things) (fn := ⟨("check_things", none), ["tasks", "pages", "ports", "locks", "frames", "disk"], [], false⟩) (N := n_check_things) (m := b_check_things) rfl rfl (tab_14 X Gn c) rfl rfl rfl (by decide +kernel) s_check_things c_check_things (bindsD0 rfl rfl fun _ _ _ _ _ _ us hl => match us, hl with | [_, _, _, _, _, _], _ => rfl) (not_mks (by decide +kernel)) (o_check_things (PL L_14) rfl rfl rfl rfl rfl)
theorem tab_16 (X : K.In h) (Gn : h.Ns mainGlobals mg) (c : He.SaysD fa dl K) : ∀ F0, Tab (G.at F0) B (PL L_16) 16 P w K mg base :=
  tab_next X Gn c (l := L_15) (s := sp_limits_of) (k := 12) (d := d_limits_of) (fn := ⟨("limits_of", none), ["task_many", "page_many", "port_many", "lock_many", "disk"], [], false⟩) (N := n_limits_of) (m := b_limits_of) rfl rfl (tab_15 X Gn c) rfl rfl rfl (by decide +kernel) s_limits_of c_limits_of (bindsD0 rfl rfl fun _ _ _ _ _ _ us hl => match us, hl with | [_, _, _, _, _], _ => rfl) (not_mks (by decide +kernel)) (o_limits_of (PL L_15))
theorem tab_17 (X : K.In h) (Gn : h.Ns mainGlobals mg) (c : He.SaysD fa dl K) : ∀ F0, Tab (G.at F0) B (PL L_17) 17 P w K mg base :=
  tab_next X Gn c (l := L_16) (s := sp_is_index) (k := 4) (d := d_is_index) (fn := ⟨("is_index", none), ["thing", "many"], [], false⟩) (N := n_is_index) (m := b_is_index) rfl rfl (tab_16 X Gn c) rfl rfl rfl (by decide +kernel) s_is_index c_is_index (bindsD0 rfl rfl fun _ _ _ _ _ _ us hl => match us, hl with | [_, _], _ => rfl) (not_mks (by decide +kernel)) (o_is_index (PL L_16) rfl)
theorem tab_18 (X : K.In h) (Gn : h.Ns mainGlobals mg) (c : He.SaysD fa dl K) : ∀ F0, Tab (G.at F0) B (PL L_18) 18 P w K mg base :=
  tab_next X Gn c (l := L_17) (s := sp_fits_right) (k := 7) (d := d_fits_right) (fn := ⟨("fits_right", none), ["limits", "thing"], [], false⟩) (N := n_fits_right) (m := b_fits_right) rfl rfl (tab_17 X Gn c) rfl rfl rfl (by decide +kernel) s_fits_right c_fits_right (bindsD0 rfl rfl fun _ _ _ _ _ _ us hl => match us, hl with | [_, _], _ => rfl) (not_mks (by decide +kernel)) (o_fits_right (PL L_17) rfl rfl)
theorem tab_19 (X : K.In h) (Gn : h.Ns mainGlobals mg) (c : He.SaysD fa dl K) : ∀ F0, Tab (G.at F0) B (PL L_19) 19 P w K mg base :=
  tab_next X Gn c (l := L_18) (s := sp_climbs) (k := 6) (d := d_climbs) (fn := ⟨("climbs", none), ["items"], [], false⟩) (N := n_climbs) (m := b_climbs) rfl rfl (tab_18 X Gn c) rfl rfl rfl (by decide +kernel) s_climbs c_climbs (bindsD0 rfl rfl fun _ _ _ _ _ _ us hl => match us, hl with | [_], _ => rfl) (not_mks (by decide +kernel)) (o_climbs (PL L_18))
theorem tab_20 (X : K.In h) (Gn : h.Ns mainGlobals mg) (c : He.SaysD fa dl K) : ∀ F0, Tab (G.at F0) B (PL L_20) 20 P w K mg base :=
  tab_next X Gn c (l := L_19) (s := sp_good_rights) (k := 13) (d := d_good_rights) (fn := ⟨("good_rights", none), ["limits", "rights"], [], false⟩) (N := n_good_rights) (m := b_good_rights) rfl rfl (tab_19 X Gn c) rfl rfl rfl (by decide +kernel) s_good_rights c_good_rights (bindsD0 rfl rfl fun _ _ _ _ _ _ us hl => match us, hl with | [_, _], _ => rfl) (not_mks (by decide +kernel)) (o_good_rights (PL L_19) rfl rfl)
theorem tab_21 (X : K.In h) (Gn : h.Ns mainGlobals mg) (c : He.SaysD fa dl K) : ∀ F0, Tab (G.at F0) B (PL L_21) 21 P w K mg base :=
  tab_next X Gn c (l := L_20) (s := sp_good_lines) (k := 14) (d := d_good_lines) (fn := ⟨("good_lines", none), ["page_many", "lines"], [], false⟩) (N := n_good_lines) (m := b_good_lines) rfl rfl (tab_20 X Gn c) rfl rfl rfl (by decide +kernel) s_good_lines c_good_lines (bindsD0 rfl rfl fun _ _ _ _ _ _ us hl => match us, hl with | [_, _], _ => rfl) (not_mks (by decide +kernel)) (o_good_lines (PL L_20) rfl)
theorem tab_22 (X : K.In h) (Gn : h.Ns mainGlobals mg) (c : He.SaysD fa dl K) : ∀ F0, Tab (G.at F0) B (PL L_22) 22 P w K mg base :=
  tab_next X Gn c (l := L_21) (s := sp_good_costs) (k := 15) (d := d_good_costs) (fn := ⟨("good_costs", none), ["costs"], [], false⟩) (N := n_good_costs) (m := b_good_costs) rfl rfl (tab_21 X Gn c) rfl rfl rfl (by decide +kernel) s_good_costs c_good_costs (bindsD0 rfl rfl fun _ _ _ _ _ _ us hl => match us, hl with | [_], _ => rfl) (not_mks (by decide +kernel)) (o_good_costs (PL L_21) rfl rfl)
theorem tab_23 (X : K.In h) (Gn : h.Ns mainGlobals mg) (c : He.SaysD fa dl K) : ∀ F0, Tab (G.at F0) B (PL L_23) 23 P w K mg base :=
  tab_next X Gn c (l := L_22) (s := sp_good_plan) (k := 16) (d := d_good_plan) (fn := ⟨("good_plan", none), ["task_many", "plan"], [], false⟩) (N := n_good_plan) (m := b_good_plan) rfl rfl (tab_22 X Gn c) rfl rfl rfl (by decide +kernel) s_good_plan c_good_plan (bindsD0 rfl rfl fun _ _ _ _ _ _ us hl => match us, hl with | [_, _], _ => rfl) (not_mks (by decide +kernel)) (o_good_plan (PL L_22) rfl rfl rfl)
theorem tab_24 (X : K.In h) (Gn : h.Ns mainGlobals mg) (c : He.SaysD fa dl K) : ∀ F0, Tab (G.at F0) B (PL L_24) 24 P w K mg base :=
  tab_next X Gn c (l := L_23) (s := sp_good_outside) (k := 17) (d := d_good_outside) (fn := ⟨("good_outside", none), ["port_many", "outside"], [], false⟩) (N := n_good_outside) (m := b_good_outside) rfl rfl (tab_23 X Gn c) rfl rfl rfl (by decide +kernel) s_good_outside c_good_outside (bindsD0 rfl rfl fun _ _ _ _ _ _ us hl => match us, hl with | [_, _], _ => rfl) (not_mks (by decide +kernel)) (o_good_outside (PL L_23) rfl rfl rfl)
theorem tab_25 (X : K.In h) (Gn : h.Ns mainGlobals mg) (c : He.SaysD fa dl K) : ∀ F0, Tab (G.at F0) B (PL L_25) 25 P w K mg base :=
  tab_next X Gn c (l := L_24) (s := sp_check_rules) (k := 19) (d := d_check_rules) (fn := ⟨("check_rules", none), ["limits", "rights", "lines", "costs", "plan", "outside"], [], false⟩) (N := n_check_rules) (m := b_check_rules) rfl rfl (tab_24 X Gn c) rfl rfl rfl (by decide +kernel) s_check_rules c_check_rules (bindsD0 rfl rfl fun _ _ _ _ _ _ us hl => match us, hl with | [_, _, _, _, _, _], _ => rfl) (not_mks (by decide +kernel)) (o_check_rules (PL L_24) rfl rfl rfl rfl rfl)
theorem tab_26 (X : K.In h) (Gn : h.Ns mainGlobals mg) (c : He.SaysD fa dl K) : ∀ F0, Tab (G.at F0) B (PL L_26) 26 P w K mg base :=
  tab_next X Gn c (l := L_25) (s := sp_is_flag) (k := 2) (d := d_is_flag) (fn := ⟨("is_flag", none), ["thing"], [], false⟩) (N := n_is_flag) (m := b_is_flag) rfl rfl (tab_25 X Gn c) rfl rfl rfl (by decide +kernel) s_is_flag c_is_flag (bindsD0 rfl rfl fun _ _ _ _ _ _ us hl => match us, hl with | [_], _ => rfl) (not_mks (by decide +kernel)) (o_is_flag (PL L_25))
theorem tab_27 (X : K.In h) (Gn : h.Ns mainGlobals mg) (c : He.SaysD fa dl K) : ∀ F0, Tab (G.at F0) B (PL L_27) 27 P w K mg base :=
  tab_next X Gn c (l := L_26) (s := sp_check_flags) (k := 20) (d := d_check_flags) (fn := ⟨("check_flags", none), ["wipe", "pad", "lend", "share"], [], false⟩) (N := n_check_flags) (m := b_check_flags) rfl rfl (tab_26 X Gn c) rfl rfl rfl (by decide +kernel) s_check_flags c_check_flags (bindsD0 rfl rfl fun _ _ _ _ _ _ us hl => match us, hl with | [_, _, _, _], _ => rfl) (not_mks (by decide +kernel)) (o_check_flags (PL L_26) rfl)
theorem tab_28 (X : K.In h) (Gn : h.Ns mainGlobals mg) (c : He.SaysD fa dl K) : ∀ F0, Tab (G.at F0) B (PL L_28) 28 P w K mg base :=
  tab_next X Gn c (l := L_27) (s := sp_frozen_plan) (k := 21) (d := d_frozen_plan) (fn := ⟨("frozen_plan", none), ["plan"], [], false⟩) (N := n_frozen_plan) (m := b_frozen_plan) rfl rfl (tab_27 X Gn c) rfl rfl rfl (by decide +kernel) s_frozen_plan c_frozen_plan (bindsD0 rfl rfl fun _ _ _ _ _ _ us hl => match us, hl with | [_], _ => rfl) (not_mks (by decide +kernel)) (o_frozen_plan (PL L_27))
theorem tab_29 (X : K.In h) (Gn : h.Ns mainGlobals mg) (c : He.SaysD fa dl K) : ∀ F0, Tab (G.at F0) B (PL L_29) 29 P w K mg base :=
  tab_next X Gn c (l := L_28) (s := sp_period_of) (k := 22) (d := d_period_of) (fn := ⟨("period_of", none), ["plan_row", "outside_row"], [], false⟩) (N := n_period_of) (m := b_period_of) rfl rfl (tab_28 X Gn c) rfl rfl rfl (by decide +kernel) s_period_of c_period_of (bindsD0 rfl rfl fun _ _ _ _ _ _ us hl => match us, hl with | [_, _], _ => rfl) (not_mks (by decide +kernel)) (o_period_of (PL L_28))
theorem tab_30 (X : K.In h) (Gn : h.Ns mainGlobals mg) (c : He.SaysD fa dl K) : ∀ F0, Tab (G.at F0) B (PL L_30) 30 P w K mg base :=
  tab_next X Gn c (l := L_29) (s := sp_init) (k := 23) (d := d_Build___init__) (fn := ⟨("Build", some "__init__"), ["self", "tasks", "pages", "ports", "locks", "frames", "disk", "rights", "lines", "costs", "plan", "outside", "wipe", "pad", "lend", "share"], [], true⟩) (N := n_Build___init__) (m := b_Build___init__) rfl rfl (tab_29 X Gn c) rfl rfl rfl (by decide +kernel) s_Build___init__ c_Build___init__ (bindsKw rfl) (fun j mk e hf => match j, e, hf with | 0, e, hf => (by cases e; exact ⟨by decide +kernel, mkd_0⟩) | _ + 1, e, hf => by cases e) (o_init (PL L_29) rfl rfl rfl rfl rfl rfl)
theorem tab_31 (X : K.In h) (Gn : h.Ns mainGlobals mg) (c : He.SaysD fa dl K) : ∀ F0, Tab (G.at F0) B (PL L_31) 31 P w K mg base :=
  tab_next X Gn c (l := L_30) (s := sp_is_tuple) (k := 5) (d := d_is_tuple) (fn := ⟨("is_tuple", none), ["thing", "many"], [], false⟩) (N := n_is_tuple_pad30) (m := b_is_tuple_pad30) rfl rfl (tab_30 X Gn c) rfl rfl rfl (by decide +kernel) s_is_tuple_pad30 c_is_tuple_pad30 (bindsD0 rfl rfl fun _ _ _ _ _ _ us hl => match us, hl with | [_, _], _ => rfl) (not_mks (by decide +kernel)) (o_is_tuple (PL L_30))
theorem tab_32 (X : K.In h) (Gn : h.Ns mainGlobals mg) (c : He.SaysD fa dl K) : ∀ F0, Tab (G.at F0) B (PL L_32) 32 P w K mg base :=
  tab_next X Gn c (l := L_31) (s := sp_made) (k := 51) (d := d__law_made) (fn := ⟨("_law_made", none), ["_law_parts_here"], [], false⟩) (N := n__law_made) (m := b__law_made) rfl rfl (tab_31 X Gn c) rfl rfl rfl (by decide +kernel) s__law_made c__law_made (bindsD0 rfl rfl fun _ _ _ _ _ _ us hl => match us, hl with | [_], _ => rfl) (not_mks (by decide +kernel)) (o_made (PL L_31) rfl)
theorem tab_33 (X : K.In h) (Gn : h.Ns mainGlobals mg) (c : He.SaysD fa dl K) : ∀ F0, Tab (G.at F0) B (PL L_33) 33 P w K mg base :=
  tab_next X Gn c (l := L_32) (s := (sp_copy 0)) (k := 50) (d := d__law_copy) (fn := ⟨("_law_copy", none), ["_law_thing"], [], false⟩) (N := n__law_copy_0) (m := b__law_copy_0) rfl rfl (tab_32 X Gn c) rfl rfl rfl (by decide +kernel) s__law_copy_0 c__law_copy_0 (bindsD0 rfl rfl fun _ _ _ _ _ _ us hl => match us, hl with | [_], _ => rfl) (not_mks (by decide +kernel)) (o_copy_0 (PL L_32))
theorem tab_34 (X : K.In h) (Gn : h.Ns mainGlobals mg) (c : He.SaysD fa dl K) : ∀ F0, Tab (G.at F0) B (PL L_34) 34 P w K mg base :=
  tab_next X Gn c (l := L_33) (s := (sp_copy 1)) (k := 50) (d := d__law_copy) (fn := ⟨("_law_copy", none), ["_law_thing"], [], false⟩) (N := n__law_copy_1) (m := b__law_copy_1) rfl rfl (tab_33 X Gn c) rfl rfl rfl (by decide +kernel) s__law_copy_1 c__law_copy_1 (bindsD0 rfl rfl fun _ _ _ _ _ _ us hl => match us, hl with | [_], _ => rfl) (not_mks (by decide +kernel)) (o_copy_1 (PL L_33) rfl)
theorem tab_35 (X : K.In h) (Gn : h.Ns mainGlobals mg) (c : He.SaysD fa dl K) : ∀ F0, Tab (G.at F0) B (PL L_35) 35 P w K mg base :=
  tab_next X Gn c (l := L_34) (s := (sp_copy 2)) (k := 50) (d := d__law_copy) (fn := ⟨("_law_copy", none), ["_law_thing"], [], false⟩) (N := n__law_copy_2) (m := b__law_copy_2) rfl rfl (tab_34 X Gn c) rfl rfl rfl (by decide +kernel) s__law_copy_2 c__law_copy_2 (bindsD0 rfl rfl fun _ _ _ _ _ _ us hl => match us, hl with | [_], _ => rfl) (not_mks (by decide +kernel)) (o_copy_2 (PL L_34) rfl)
theorem tab_36 (X : K.In h) (Gn : h.Ns mainGlobals mg) (c : He.SaysD fa dl K) : ∀ F0, Tab (G.at F0) B (PL L_36) 36 P w K mg base :=
  tab_next X Gn c (l := L_35) (s := (sp_copy 3)) (k := 50) (d := d__law_copy) (fn := ⟨("_law_copy", none), ["_law_thing"], [], false⟩) (N := n__law_copy_3) (m := b__law_copy_3) rfl rfl (tab_35 X Gn c) rfl rfl rfl (by decide +kernel) s__law_copy_3 c__law_copy_3 (bindsD0 rfl rfl fun _ _ _ _ _ _ us hl => match us, hl with | [_], _ => rfl) (not_mks (by decide +kernel)) (o_copy_3 (PL L_35) rfl)
theorem tab_37 (X : K.In h) (Gn : h.Ns mainGlobals mg) (c : He.SaysD fa dl K) : ∀ F0, Tab (G.at F0) B (PL L_37) 37 P w K mg base :=
  tab_next X Gn c (l := L_36) (s := (sp_copy 4)) (k := 50) (d := d__law_copy) (fn := ⟨("_law_copy", none), ["_law_thing"], [], false⟩) (N := n__law_copy_4) (m := b__law_copy_4) rfl rfl (tab_36 X Gn c) rfl rfl rfl (by decide +kernel) s__law_copy_4 c__law_copy_4 (bindsD0 rfl rfl fun _ _ _ _ _ _ us hl => match us, hl with | [_], _ => rfl) (not_mks (by decide +kernel)) (o_copy_4 (PL L_36) rfl)
theorem tab_38 (X : K.In h) (Gn : h.Ns mainGlobals mg) (c : He.SaysD fa dl K) : ∀ F0, Tab (G.at F0) B (PL L_38) 38 P w K mg base :=
  tab_next X Gn c (l := L_37) (s := sp_page_text) (k := 40) (d := d_page_text) (fn := ⟨("page_text", none), ["worth", "line"], [], false⟩) (N := n_page_text) (m := b_page_text) rfl rfl (tab_37 X Gn c) rfl rfl rfl (by decide +kernel) s_page_text c_page_text (bindsD0 rfl rfl fun _ _ _ _ _ _ us hl => match us, hl with | [_, _], _ => rfl) (not_mks (by decide +kernel)) (o_page_text (PL L_37))
theorem tab_39 (X : K.In h) (Gn : h.Ns mainGlobals mg) (c : He.SaysD fa dl K) : ∀ F0, Tab (G.at F0) B (PL L_39) 39 P w K mg base :=
  tab_next X Gn c (l := L_38) (s := sp_plan_texts) (k := 41) (d := d_plan_texts) (fn := ⟨("plan_texts", none), ["plan_row"], [], false⟩) (N := n_plan_texts) (m := b_plan_texts) rfl rfl (tab_38 X Gn c) rfl rfl rfl (by decide +kernel) s_plan_texts c_plan_texts (bindsD0 rfl rfl fun _ _ _ _ _ _ us hl => match us, hl with | [_], _ => rfl) (not_mks (by decide +kernel)) (o_plan_texts (PL L_38))
theorem tab_40 (X : K.In h) (Gn : h.Ns mainGlobals mg) (c : He.SaysD fa dl K) : ∀ F0, Tab (G.at F0) B (PL L_40) 40 P w K mg base :=
  tab_next X Gn c (l := L_39) (s := sp_flag_texts) (k := 42) (d := d_flag_texts) (fn := ⟨("flag_texts", none), ["build"], [], false⟩) (N := n_flag_texts) (m := b_flag_texts) rfl rfl (tab_39 X Gn c) rfl rfl rfl (by decide +kernel) s_flag_texts c_flag_texts (bindsD0 rfl rfl fun _ _ _ _ _ _ us hl => match us, hl with | [_], _ => rfl) (not_mks (by decide +kernel)) (o_flag_texts (PL L_39))
theorem tab_41 (X : K.In h) (Gn : h.Ns mainGlobals mg) (c : He.SaysD fa dl K) : ∀ F0, Tab (G.at F0) B (PL L_41) 41 P w K mg base :=
  tab_next X Gn c (l := L_40) (s := sp_right_words) (k := 39) (d := d_right_words) (fn := ⟨("right_words", none), ["right"], [], false⟩) (N := n_right_words) (m := b_right_words) rfl rfl (tab_40 X Gn c) rfl rfl rfl (by decide +kernel) s_right_words c_right_words (bindsD0 rfl rfl fun _ _ _ _ _ _ us hl => match us, hl with | [_], _ => rfl) (not_mks (by decide +kernel)) (o_right_words (PL L_40))
theorem tab_42 (X : K.In h) (Gn : h.Ns mainGlobals mg) (c : He.SaysD fa dl K) : ∀ F0, Tab (G.at F0) B (PL L_42) 42 P w K mg base :=
  tab_next X Gn c (l := L_41) (s := sp_build_text) (k := 43) (d := d_build_text) (fn := ⟨("build_text", none), ["build"], [], false⟩) (N := n_build_text) (m := b_build_text) rfl rfl (tab_41 X Gn c) rfl rfl rfl (by decide +kernel) s_build_text c_build_text (bindsD0 rfl rfl fun _ _ _ _ _ _ us hl => match us, hl with | [_], _ => rfl) (not_mks (by decide +kernel)) (o_build_text (PL L_41) rfl rfl rfl rfl)
theorem tab_43 (X : K.In h) (Gn : h.Ns mainGlobals mg) (c : He.SaysD fa dl K) : ∀ F0, Tab (G.at F0) B (PL L_43) 43 P w K mg base :=
  tab_next X Gn c (l := L_42) (s := (sp_same 0)) (k := 53) (d := d__law_same) (fn := ⟨("_law_same", none), ["_law_one", "_law_two"], [], false⟩) (N := n__law_same_0) (m := b__law_same_0) rfl rfl (tab_42 X Gn c) rfl rfl rfl (by decide +kernel) s__law_same_0 c__law_same_0 (bindsD0 rfl rfl fun _ _ _ _ _ _ us hl => match us, hl with | [_, _], _ => rfl) (not_mks (by decide +kernel)) (o_same_0 (PL L_42))
theorem tab_44 (X : K.In h) (Gn : h.Ns mainGlobals mg) (c : He.SaysD fa dl K) : ∀ F0, Tab (G.at F0) B (PL L_44) 44 P w K mg base :=
  tab_next X Gn c (l := L_43) (s := (sp_same 1)) (k := 53) (d := d__law_same) (fn := ⟨("_law_same", none), ["_law_one", "_law_two"], [], false⟩) (N := n__law_same_1) (m := b__law_same_1) rfl rfl (tab_43 X Gn c) rfl rfl rfl (by decide +kernel) s__law_same_1 c__law_same_1 (bindsD0 rfl rfl fun _ _ _ _ _ _ us hl => match us, hl with | [_, _], _ => rfl) (not_mks (by decide +kernel)) (o_same_1 (PL L_43) rfl)
theorem tab_45 (X : K.In h) (Gn : h.Ns mainGlobals mg) (c : He.SaysD fa dl K) : ∀ F0, Tab (G.at F0) B (PL L_45) 45 P w K mg base :=
  tab_next X Gn c (l := L_44) (s := (sp_same 2)) (k := 53) (d := d__law_same) (fn := ⟨("_law_same", none), ["_law_one", "_law_two"], [], false⟩) (N := n__law_same_2) (m := b__law_same_2) rfl rfl (tab_44 X Gn c) rfl rfl rfl (by decide +kernel) s__law_same_2 c__law_same_2 (bindsD0 rfl rfl fun _ _ _ _ _ _ us hl => match us, hl with | [_, _], _ => rfl) (not_mks (by decide +kernel)) (o_same_2 (PL L_44) rfl)
theorem tab_46 (X : K.In h) (Gn : h.Ns mainGlobals mg) (c : He.SaysD fa dl K) : ∀ F0, Tab (G.at F0) B (PL L_46) 46 P w K mg base :=
  tab_next X Gn c (l := L_45) (s := (sp_same 3)) (k := 53) (d := d__law_same) (fn := ⟨("_law_same", none), ["_law_one", "_law_two"], [], false⟩) (N := n__law_same_3) (m := b__law_same_3) rfl rfl (tab_45 X Gn c) rfl rfl rfl (by decide +kernel) s__law_same_3 c__law_same_3 (bindsD0 rfl rfl fun _ _ _ _ _ _ us hl => match us, hl with | [_, _], _ => rfl) (not_mks (by decide +kernel)) (o_same_3 (PL L_45) rfl)
theorem tab_47 (X : K.In h) (Gn : h.Ns mainGlobals mg) (c : He.SaysD fa dl K) : ∀ F0, Tab (G.at F0) B (PL L_47) 47 P w K mg base :=
  tab_next X Gn c (l := L_46) (s := (sp_same 4)) (k := 53) (d := d__law_same) (fn := ⟨("_law_same", none), ["_law_one", "_law_two"], [], false⟩) (N := n__law_same_4) (m := b__law_same_4) rfl rfl (tab_46 X Gn c) rfl rfl rfl (by decide +kernel) s__law_same_4 c__law_same_4 (bindsD0 rfl rfl fun _ _ _ _ _ _ us hl => match us, hl with | [_, _], _ => rfl) (not_mks (by decide +kernel)) (o_same_4 (PL L_46) rfl)
theorem tab_48 (X : K.In h) (Gn : h.Ns mainGlobals mg) (c : He.SaysD fa dl K) : ∀ F0, Tab (G.at F0) B (PL L_48) 48 P w K mg base :=
  tab_next X Gn c (l := L_47) (s := sp_rows) (k := 54) (d := d__law_rows) (fn := ⟨("_law_rows", none), ["_law_parts_here"], [], false⟩) (N := n__law_rows) (m := b__law_rows) rfl rfl (tab_47 X Gn c) rfl rfl rfl (by decide +kernel) s__law_rows c__law_rows (bindsD0 rfl rfl fun _ _ _ _ _ _ us hl => match us, hl with | [_], _ => rfl) (not_mks (by decide +kernel)) (o_rows (PL L_47))
theorem tab_49 (X : K.In h) (Gn : h.Ns mainGlobals mg) (c : He.SaysD fa dl K) : ∀ F0, Tab (G.at F0) B (PL L_49) 49 P w K mg base :=
  tab_next X Gn c (l := L_48) (s := (sp_get fun p => p.tl)) (k := 24) (d := d_Build_tasks) (fn := ⟨("Build", some "tasks"), ["self"], [], false⟩) (N := n_Build_tasks) (m := b_Build_tasks) rfl rfl (tab_48 X Gn c) rfl rfl rfl (by decide +kernel) s_Build_tasks c_Build_tasks (bindsD0 rfl rfl fun _ _ _ _ _ _ us hl => match us, hl with | [_], _ => rfl) (not_mks (by decide +kernel)) (o_get_tasks (PL L_48))
theorem tab_50 (X : K.In h) (Gn : h.Ns mainGlobals mg) (c : He.SaysD fa dl K) : ∀ F0, Tab (G.at F0) B (PL L_50) 50 P w K mg base :=
  tab_next X Gn c (l := L_49) (s := (sp_get fun p => .lst (p.ps.map PV.int))) (k := 25) (d := d_Build_pages) (fn := ⟨("Build", some "pages"), ["self"], [], false⟩) (N := n_Build_pages) (m := b_Build_pages) rfl rfl (tab_49 X Gn c) rfl rfl rfl (by decide +kernel) s_Build_pages c_Build_pages (bindsD0 rfl rfl fun _ _ _ _ _ _ us hl => match us, hl with | [_], _ => rfl) (not_mks (by decide +kernel)) (o_get_pages (PL L_49))
theorem tab_51 (X : K.In h) (Gn : h.Ns mainGlobals mg) (c : He.SaysD fa dl K) : ∀ F0, Tab (G.at F0) B (PL L_51) 51 P w K mg base :=
  tab_next X Gn c (l := L_50) (s := (sp_get fun p => .lst (p.qs.map PV.int))) (k := 26) (d := d_Build_ports) (fn := ⟨("Build", some "ports"), ["self"], [], false⟩) (N := n_Build_ports) (m := b_Build_ports) rfl rfl (tab_50 X Gn c) rfl rfl rfl (by decide +kernel) s_Build_ports c_Build_ports (bindsD0 rfl rfl fun _ _ _ _ _ _ us hl => match us, hl with | [_], _ => rfl) (not_mks (by decide +kernel)) (o_get_ports (PL L_50))
theorem tab_52 (X : K.In h) (Gn : h.Ns mainGlobals mg) (c : He.SaysD fa dl K) : ∀ F0, Tab (G.at F0) B (PL L_52) 52 P w K mg base :=
  tab_next X Gn c (l := L_51) (s := (sp_get fun p => .int p.nl)) (k := 27) (d := d_Build_locks) (fn := ⟨("Build", some "locks"), ["self"], [], false⟩) (N := n_Build_locks) (m := b_Build_locks) rfl rfl (tab_51 X Gn c) rfl rfl rfl (by decide +kernel) s_Build_locks c_Build_locks (bindsD0 rfl rfl fun _ _ _ _ _ _ us hl => match us, hl with | [_], _ => rfl) (not_mks (by decide +kernel)) (o_get_locks (PL L_51))
theorem tab_53 (X : K.In h) (Gn : h.Ns mainGlobals mg) (c : He.SaysD fa dl K) : ∀ F0, Tab (G.at F0) B (PL L_53) 53 P w K mg base :=
  tab_next X Gn c (l := L_52) (s := (sp_get fun p => .int p.fr)) (k := 28) (d := d_Build_frames) (fn := ⟨("Build", some "frames"), ["self"], [], false⟩) (N := n_Build_frames) (m := b_Build_frames) rfl rfl (tab_52 X Gn c) rfl rfl rfl (by decide +kernel) s_Build_frames c_Build_frames (bindsD0 rfl rfl fun _ _ _ _ _ _ us hl => match us, hl with | [_], _ => rfl) (not_mks (by decide +kernel)) (o_get_frames (PL L_52))
theorem tab_54 (X : K.In h) (Gn : h.Ns mainGlobals mg) (c : He.SaysD fa dl K) : ∀ F0, Tab (G.at F0) B (PL L_54) 54 P w K mg base :=
  tab_next X Gn c (l := L_53) (s := (sp_get fun p => .int p.dk)) (k := 29) (d := d_Build_disk) (fn := ⟨("Build", some "disk"), ["self"], [], false⟩) (N := n_Build_disk) (m := b_Build_disk) rfl rfl (tab_53 X Gn c) rfl rfl rfl (by decide +kernel) s_Build_disk c_Build_disk (bindsD0 rfl rfl fun _ _ _ _ _ _ us hl => match us, hl with | [_], _ => rfl) (not_mks (by decide +kernel)) (o_get_disk (PL L_53))
theorem tab_55 (X : K.In h) (Gn : h.Ns mainGlobals mg) (c : He.SaysD fa dl K) : ∀ F0, Tab (G.at F0) B (PL L_55) 55 P w K mg base :=
  tab_next X Gn c (l := L_54) (s := (sp_get fun p => p.rl)) (k := 30) (d := d_Build_rights) (fn := ⟨("Build", some "rights"), ["self"], [], false⟩) (N := n_Build_rights) (m := b_Build_rights) rfl rfl (tab_54 X Gn c) rfl rfl rfl (by decide +kernel) s_Build_rights c_Build_rights (bindsD0 rfl rfl fun _ _ _ _ _ _ us hl => match us, hl with | [_], _ => rfl) (not_mks (by decide +kernel)) (o_get_rights (PL L_54))
theorem tab_56 (X : K.In h) (Gn : h.Ns mainGlobals mg) (c : He.SaysD fa dl K) : ∀ F0, Tab (G.at F0) B (PL L_56) 56 P w K mg base :=
  tab_next X Gn c (l := L_55) (s := (sp_get fun p => .lst p.ls)) (k := 31) (d := d_Build_lines) (fn := ⟨("Build", some "lines"), ["self"], [], false⟩) (N := n_Build_lines) (m := b_Build_lines) rfl rfl (tab_55 X Gn c) rfl rfl rfl (by decide +kernel) s_Build_lines c_Build_lines (bindsD0 rfl rfl fun _ _ _ _ _ _ us hl => match us, hl with | [_], _ => rfl) (not_mks (by decide +kernel)) (o_get_lines (PL L_55))
theorem tab_57 (X : K.In h) (Gn : h.Ns mainGlobals mg) (c : He.SaysD fa dl K) : ∀ F0, Tab (G.at F0) B (PL L_57) 57 P w K mg base :=
  tab_next X Gn c (l := L_56) (s := (sp_get fun p => p.cs)) (k := 32) (d := d_Build_costs) (fn := ⟨("Build", some "costs"), ["self"], [], false⟩) (N := n_Build_costs) (m := b_Build_costs) rfl rfl (tab_56 X Gn c) rfl rfl rfl (by decide +kernel) s_Build_costs c_Build_costs (bindsD0 rfl rfl fun _ _ _ _ _ _ us hl => match us, hl with | [_], _ => rfl) (not_mks (by decide +kernel)) (o_get_costs (PL L_56))
theorem tab_58 (X : K.In h) (Gn : h.Ns mainGlobals mg) (c : He.SaysD fa dl K) : ∀ F0, Tab (G.at F0) B (PL L_58) 58 P w K mg base :=
  tab_next X Gn c (l := L_57) (s := (sp_get fun p => p.pl)) (k := 33) (d := d_Build_plan) (fn := ⟨("Build", some "plan"), ["self"], [], false⟩) (N := n_Build_plan) (m := b_Build_plan) rfl rfl (tab_57 X Gn c) rfl rfl rfl (by decide +kernel) s_Build_plan c_Build_plan (bindsD0 rfl rfl fun _ _ _ _ _ _ us hl => match us, hl with | [_], _ => rfl) (not_mks (by decide +kernel)) (o_get_plan (PL L_57))
theorem tab_59 (X : K.In h) (Gn : h.Ns mainGlobals mg) (c : He.SaysD fa dl K) : ∀ F0, Tab (G.at F0) B (PL L_59) 59 P w K mg base :=
  tab_next X Gn c (l := L_58) (s := (sp_get fun p => p.ou)) (k := 34) (d := d_Build_outside) (fn := ⟨("Build", some "outside"), ["self"], [], false⟩) (N := n_Build_outside) (m := b_Build_outside) rfl rfl (tab_58 X Gn c) rfl rfl rfl (by decide +kernel) s_Build_outside c_Build_outside (bindsD0 rfl rfl fun _ _ _ _ _ _ us hl => match us, hl with | [_], _ => rfl) (not_mks (by decide +kernel)) (o_get_outside (PL L_58))
theorem tab_60 (X : K.In h) (Gn : h.Ns mainGlobals mg) (c : He.SaysD fa dl K) : ∀ F0, Tab (G.at F0) B (PL L_60) 60 P w K mg base :=
  tab_next X Gn c (l := L_59) (s := (sp_get fun p => .bl p.b0)) (k := 35) (d := d_Build_wipe) (fn := ⟨("Build", some "wipe"), ["self"], [], false⟩) (N := n_Build_wipe) (m := b_Build_wipe) rfl rfl (tab_59 X Gn c) rfl rfl rfl (by decide +kernel) s_Build_wipe c_Build_wipe (bindsD0 rfl rfl fun _ _ _ _ _ _ us hl => match us, hl with | [_], _ => rfl) (not_mks (by decide +kernel)) (o_get_wipe (PL L_59))
theorem tab_61 (X : K.In h) (Gn : h.Ns mainGlobals mg) (c : He.SaysD fa dl K) : ∀ F0, Tab (G.at F0) B (PL L_61) 61 P w K mg base :=
  tab_next X Gn c (l := L_60) (s := (sp_get fun p => .bl p.b1)) (k := 36) (d := d_Build_pad) (fn := ⟨("Build", some "pad"), ["self"], [], false⟩) (N := n_Build_pad) (m := b_Build_pad) rfl rfl (tab_60 X Gn c) rfl rfl rfl (by decide +kernel) s_Build_pad c_Build_pad (bindsD0 rfl rfl fun _ _ _ _ _ _ us hl => match us, hl with | [_], _ => rfl) (not_mks (by decide +kernel)) (o_get_pad (PL L_60))
theorem tab_62 (X : K.In h) (Gn : h.Ns mainGlobals mg) (c : He.SaysD fa dl K) : ∀ F0, Tab (G.at F0) B (PL L_62) 62 P w K mg base :=
  tab_next X Gn c (l := L_61) (s := (sp_get fun p => .bl p.b2)) (k := 37) (d := d_Build_lend) (fn := ⟨("Build", some "lend"), ["self"], [], false⟩) (N := n_Build_lend) (m := b_Build_lend) rfl rfl (tab_61 X Gn c) rfl rfl rfl (by decide +kernel) s_Build_lend c_Build_lend (bindsD0 rfl rfl fun _ _ _ _ _ _ us hl => match us, hl with | [_], _ => rfl) (not_mks (by decide +kernel)) (o_get_lend (PL L_61))
theorem tab_63 (X : K.In h) (Gn : h.Ns mainGlobals mg) (c : He.SaysD fa dl K) : ∀ F0, Tab (G.at F0) B (PL L_63) 63 P w K mg base :=
  tab_next X Gn c (l := L_62) (s := (sp_get fun p => .bl p.b3)) (k := 38) (d := d_Build_share) (fn := ⟨("Build", some "share"), ["self"], [], false⟩) (N := n_Build_share) (m := b_Build_share) rfl rfl (tab_62 X Gn c) rfl rfl rfl (by decide +kernel) s_Build_share c_Build_share (bindsD0 rfl rfl fun _ _ _ _ _ _ us hl => match us, hl with | [_], _ => rfl) (not_mks (by decide +kernel)) (o_get_share (PL L_62))
theorem tab_64 (X : K.In h) (Gn : h.Ns mainGlobals mg) (c : He.SaysD fa dl K) : ∀ F0, Tab (G.at F0) B (PL L_64) 64 P w K mg base :=
  tab_next X Gn c (l := L_63) (s := sp_told) (k := 52) (d := d__law_told) (fn := ⟨("_law_told", none), ["_law_build"], [], false⟩) (N := n__law_told) (m := b__law_told) rfl rfl (tab_63 X Gn c) rfl rfl rfl (by decide +kernel) s__law_told c__law_told (bindsD0 rfl rfl fun _ _ _ _ _ _ us hl => match us, hl with | [_], _ => rfl) (not_mks (by decide +kernel)) (o_told (PL L_63) rfl rfl rfl rfl rfl rfl rfl rfl rfl rfl rfl rfl rfl rfl rfl)
end
theorem facts {P : Program} {w : World} {K : PySem.W.Frag} {h : Heap} {mg : Str → Option Value} {f : Addr} (X : K.In h) (Gn : h.Ns mainGlobals mg) (hfa : mg ("law" : Str) = some (.ref f)) (c : He.SaysD fa dl K) :
    ∃ fd : FuncData, (∀ (s : Shared) (v : Value), BindsTo s fd ⟨[v], []⟩ [("_law_script", v)]) ∧ ∀ base : Heap, K.In base → base.Ns mainGlobals mg → FnOk P w K mg base (L2.CX P w) 65 f fd ["_law_script"] (conc (G.at fun _ => none) K sp_law) := by
  obtain ⟨fd, F⟩ := c.def_ 55 (d := d_law) rfl
  have e := hfa.symm.trans (He.glo_ok X Gn (c.fact 39 (f := .glo "law") rfl))
  cases e
  have b := FunD.bindsA (ps := ["_law_script"]) F fun _ _ _ _ _ _ us hl => match us, hl with | [_], _ => rfl
  exact ⟨fd, fun s v => b s [v] rfl, fun base _ _ => fnZ F s_law (tab_64 X Gn c) c_law (o_law (PL L_64) rfl rfl rfl rfl rfl rfl rfl rfl) _⟩
theorem law_in (ns : List Int) (Q : ZQ) (E : ZX) (hl : ns.length ≤ 63) (hq : ∀ M, Q (.bl true) M) : sp_law [.scr (ns.map PV.int)] (fun _ => none) Q E := ⟨ns, rfl, by omega, hq⟩
end HT
set_option Elab.async false
set_option linter.all false
set_option maxRecDepth 100000
set_option maxHeartbeats 0
namespace HT
open PySem PySem.Spec PyProof.Rows L2 Z
def loose : List Str := (["is_integer", "in_range", "is_flag", "is_value", "is_index", "is_tuple", "climbs", "fits_right", "good_tasks", "good_pages", "good_ports", "good_disk"] : List Str) ++ (["limits_of", "good_rights", "good_lines", "good_costs", "good_plan", "good_outside", "check_things", "check_rules", "check_flags", "frozen_plan", "period_of", "right_words"] : List Str) ++ (["page_text", "plan_texts", "flag_texts", "build_text", "_law_source", "_law_draw", "_law_pool", "_law_rights", "_law_plan", "_law_parts", "_law_copy", "_law_made"] : List Str) ++ (["_law_told", "_law_same", "_law_rows", "KernelError", "NoBuild", "Build"] : List Str)
abbrev R : PySem.W.OpenRow := PySem.W.OpenLaw.row PySem.Challenge.rw_hushkernel_k06_text_of_a_build
abbrev hk : PySem.W.Hook := He.hookD 5 fa dl
def ob (s : PySem.W.SharedT) : He.AlD := He.obsDG 5 fa dl (HandSHeadRun.getT s)
theorem ob_eq (s : PySem.W.SharedT) : ob s = hk.obs s.abs := He.obsDG_eq (HandSHeadRun.getT_eq s)
theorem run (w : World) : HandSHeadRun.RunEq R (PySem.W.view R.prog [47]) hk ob 5000 loose w := by
  intro os
  kernel_rfl
end HT
open PySem PySem.W PySem.Calls PyProof.Rows
set_option maxRecDepth 100000 in
set_option maxHeartbeats 0 in
theorem PySem.Challenge.cw_hushkernel_k06_text_of_a_build_holds : PySem.Challenge.rw_hushkernel_k06_text_of_a_build.Holds := by
  w_on; o_law
  refine HandSHeadRun.head_any (r := OpenLaw.row PySem.Challenge.rw_hushkernel_k06_text_of_a_build) (q := view (OpenLaw.row PySem.Challenge.rw_hushkernel_k06_text_of_a_build).prog [47]) (H := HT.hk) (ob := HT.ob) (M := 5000) (loose := HT.loose) (d := HandSHeadRun.topDef (OpenLaw.row PySem.Challenge.rw_hushkernel_k06_text_of_a_build).prog 47) (kwd := []) HT.ob_eq
    (by kernel_rfl) (fun s => by kernel_rfl) HT.run (by kernel_rfl) (by kernel_rfl) (by kernel_rfl) (by rfl) (by first | assumption | decide +kernel) (by decide +kernel) ⟨rfl, rfl, rfl, rfl, rfl, by decide +kernel⟩ ?hw ?hc
  case hw => w_witness2
  case hc =>
    refine Z.walkX (l := PySem.Challenge.rw_hushkernel_k06_text_of_a_build) (n := 63) (k := 65) (x := "_law_script") (G := HT.G) (sp := HT.sp_law) rfl (by decide) (by kernel_rfl) ⟨rfl, by decide, by decide⟩ HT.law_in ?F
    intro w mg f h y gn e0
    obtain ⟨K, kin, c⟩ := y
    have e1 : mg ("law" : PySem.Str) = some (.ref f) := by
      have e2 : (HandSHeadRun.topDef (OpenLaw.row PySem.Challenge.rw_hushkernel_k06_text_of_a_build).prog 47).name = ("law" : PySem.Str) := by kernel_rfl
      rw [← e2]
      exact e0
    obtain ⟨fd, bd, ok⟩ := HT.facts (P := (PySem.Challenge.rw_hushkernel_k06_text_of_a_build).prog) (w := w) kin gn e1 c
    exact ⟨K, fd, kin, bd, ok⟩
