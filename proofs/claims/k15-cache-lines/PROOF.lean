import PyProof.Rows.All
import Wide.All
import OpenK.AllK
import Wide.FinOn
import HandS.ForMost
import HandS.ForExc
import HandS.Deep
import HandS.Defaults
import HandS.HeadHook1
import HandS.Text
import HandS.FStr
import HandS.Style
import HandS.More
import HandS.TupAny
import HandS.Wide
import HandS.IsInst
import HandS.TupMul
import KE.LtData
import HandS.CallSlots
import HandS.MakeKw
import HandS.MakeKwOnly
import HandS.SetFor
import HandS.Strs
import KE.KStateDown
import HandS.Head0
import HandS.Head1
import HandS.Head2
import HandS.HeadEnd
import HandS.HeadHook2
import HandS.HeadHook3
import PySem.Challenge.RW_hushkernel_k15_cache_lines
set_option Elab.async false
set_option linter.all false
set_option maxRecDepth 100000
set_option maxHeartbeats 4000000
/-! Z: values with tuples, frozen lists, dicts and instances as data; a small heap of what is still changed -/
namespace Z
open PySem PySem.Spec PyProof.Rows L2
inductive PV where
  | non | bl (b : Bool) | int (i : Int) | str (s : Str)
  | tup (xs : List PV) | lst (xs : List PV) | scr (xs : List PV) | dct (ks : List Key) (xs : List PV) | ins (c : Nat) (fs : List PV)
  | ref (a : Addr) | ty (n : String) | xv (a : Addr) (d : Option Addr) (c : Nat) (lay : List Str) (fs : List PV)
inductive MO where
  | lst (xs : List PV) | dct (ks : List Key) (xs : List PV) | ins (c : Nat) (fs : List (Option PV)) | sm (P : List PV → Prop)
abbrev Mh := Addr → Option MO
def put (M : Mh) (a : Addr) (o : MO) : Mh := fun b => if b = a then some o else M b
def del (M : Mh) (a : Addr) : Mh := fun b => if b = a then none else M b
abbrev Zs := List (Option PV)
theorem put_same {M : Mh} {a : Addr} {o : MO} : put M a o a = some o := by unfold put; rw [if_pos rfl]
theorem put_ne {M : Mh} {a b : Addr} {o : MO} (h : b ≠ a) : put M a o b = M b := by unfold put; rw [if_neg h]
def MSub (M M' : Mh) : Prop := ∀ a o, M a = some o → M' a = some o
theorem MSub.refl (M : Mh) : MSub M M := fun _ _ h => h
theorem MSub.trans {M M1 M2 : Mh} (a : MSub M M1) (b : MSub M1 M2) : MSub M M2 := fun x o h => b x o (a x o h)
theorem MSub.put {M : Mh} {a : Addr} {o : MO} (h : M a = none) : MSub M (put M a o) := fun b q e => by
  have : b ≠ a := fun z => by rw [z, h] at e; cases e
  rw [put_ne this]; exact e
/-- the text's classes: name and the fields in the order in which they are stored -/
structure Cfg where
  cls : List (Str × List Str)
  exc : List (Str × List Str)
  /-- what stood frozen at the entry -/
  F0 : Hp := fun _ => none
def Cfg.at (G : Cfg) (F : Hp) : Cfg := { G with F0 := F }
mutual
inductive RV' (L : List (Str × List Str)) (K : PySem.W.Frag) (F : Hp) : V → PV → Prop
  | non : RV' L K F .non .non
  | bl (b : Bool) : RV' L K F (.bl b) (.bl b)
  | int (i : Int) : RV' L K F (.int i) (.int i)
  | str (s : Str) : RV' L K F (.str s) (.str s)
  | tup {a : Addr} {vs : List V} {xs : List PV} : SqT K F a vs → RVs' L K F vs xs → RV' L K F (.ref a) (.tup xs)
  | lst {a : Addr} {vs : List V} {xs : List PV} : F a = some (.lst vs) → RVs' L K F vs xs → RV' L K F (.ref a) (.lst xs)
  | scr {a : Addr} {vs : List V} {xs : List PV} : SqL K F a vs → RVs' L K F vs xs → RV' L K F (.ref a) (.scr xs)
  | dct {a : Addr} {ks : List Key} {vs : List V} {xs : List PV} : F a = some (.dK (ks.zip vs)) → ks.length = vs.length → RVs' L K F vs xs → RV' L K F (.ref a) (.dct ks xs)
  | ins {a dx : Addr} {c : Nat} {nm : Str} {lay : List Str} {kvs : List (Str × V)} {vs : List V} {fs : List PV} : L[c]? = some (nm, lay) → F a = some (.ins (He.ga K nm) dx kvs) → lay.length = vs.length → (∀ (i : Nat) (f : Str) (v : V), lay[i]? = some f → vs[i]? = some v → kvs.lookup f = some v) →
      (∀ f, kvs.lookup f ≠ none → f ∈ lay) → RVs' L K F vs fs → RV' L K F (.ref a) (.ins c fs)
  | ref (a : Addr) : RV' L K F (.ref a) (.ref a)
  | ty (n : String) : RV' L K F (.ty n) (.ty n)
  | xv0 {a : Addr} {d : Option Addr} {c : Nat} : RV' L K F (.ref a) (.xv a d c [] [])
  | xv1 {a dd : Addr} {c : Nat} {lay : List Str} {vs : List V} {fs : List PV} : F dd = some (.xd (lay.zip vs)) → lay.length = vs.length → RVs' L K F vs fs → RV' L K F (.ref a) (.xv a (some dd) c lay fs)
inductive RVs' (L : List (Str × List Str)) (K : PySem.W.Frag) (F : Hp) : List V → List PV → Prop
  | nil : RVs' L K F [] []
  | cons {v : V} {p : PV} {vs : List V} {ps : List PV} : RV' L K F v p → RVs' L K F vs ps → RVs' L K F (v :: vs) (p :: ps)
end
abbrev RV (G : Cfg) := RV' G.cls
abbrev RVs (G : Cfg) := RVs' G.cls
section
variable {G : Cfg} {K : PySem.W.Frag} {F F' H H' : Hp}
theorem sameT {K : PySem.W.Frag} {H H' : Hp} {a : Addr} {xs : List V} (e : Same H H') (h : SqT K H a xs) : SqT K H' a xs := by
  rcases h with (h | ⟨o, h⟩) | h
  · exact .inl (.inl (e _ _ h))
  · exact .inl (.inr ⟨o, e _ _ h⟩)
  · exact .inr h
mutual
theorem RV'.mono (s : Same F F') : ∀ {v : V} {p : PV}, RV G K F v p → RV G K F' v p
  | _, _, .non => .non
  | _, _, .bl b => .bl b
  | _, _, .int i => .int i
  | _, _, .str x => .str x
  | _, _, .tup h r => .tup (sameT s h) (RVs'.mono s r)
  | _, _, .lst h r => .lst (s _ _ h) (RVs'.mono s r)
  | _, _, .scr h r => .scr (Same.seq s h) (RVs'.mono s r)
  | _, _, .dct h l r => .dct (s _ _ h) l (RVs'.mono s r)
  | _, _, .ins c h l k n r => .ins c (s _ _ h) l k n (RVs'.mono s r)
  | _, _, .ref a => .ref a
  | _, _, .ty n => .ty n
  | _, _, .xv0 => .xv0
  | _, _, .xv1 h l r => .xv1 (s _ _ h) l (RVs'.mono s r)
theorem RVs'.mono (s : Same F F') : ∀ {vs : List V} {ps : List PV}, RVs G K F vs ps → RVs G K F' vs ps
  | _, _, .nil => .nil
  | _, _, .cons r t => .cons (RV'.mono s r) (RVs'.mono s t)
end
theorem RVs'.length : ∀ {vs : List V} {ps : List PV}, RVs G K F vs ps → vs.length = ps.length
  | _, _, .nil => rfl
  | _, _, .cons _ t => by rw [List.length_cons, List.length_cons, RVs'.length t]
theorem RVs'.get : ∀ {vs : List V} {ps : List PV} {i : Nat} {p : PV}, RVs G K F vs ps → ps[i]? = some p → ∃ v, vs[i]? = some v ∧ RV G K F v p
  | _, _, _, _, .nil, e => by simp at e
  | _, _, 0, _, .cons r _, e => by simp at e; subst e; exact ⟨_, rfl, r⟩
  | _, _, i + 1, p, .cons _ t, e => by
    obtain ⟨v, h1, h2⟩ := RVs'.get (i := i) (p := p) t (by simpa using e)
    exact ⟨v, by simpa using h1, h2⟩
theorem RVs'.get' : ∀ {vs : List V} {ps : List PV} {i : Nat} {v : V}, RVs G K F vs ps → vs[i]? = some v → ∃ p, ps[i]? = some p ∧ RV G K F v p
  | _, _, _, _, .nil, e => by simp at e
  | _, _, 0, _, .cons r _, e => by simp at e; subst e; exact ⟨_, rfl, r⟩
  | _, _, i + 1, p, .cons _ t, e => by
    obtain ⟨v, h1, h2⟩ := RVs'.get' (i := i) (v := p) t (by simpa using e)
    exact ⟨v, by simpa using h1, h2⟩
theorem RVs'.append : ∀ {vs us : List V} {ps qs : List PV}, RVs G K F vs ps → RVs G K F us qs → RVs G K F (vs ++ us) (ps ++ qs)
  | _, _, _, _, .nil, s => s
  | _, _, _, _, .cons r t, s => .cons r (RVs'.append t s)
theorem RVs'.take : ∀ {vs : List V} {ps : List PV} (n : Nat), RVs G K F vs ps → RVs G K F (vs.take n) (ps.take n)
  | _, _, 0, _ => .nil
  | _, _, _ + 1, .nil => .nil
  | _, _, n + 1, .cons r t => .cons r (RVs'.take n t)
theorem RVs'.drop : ∀ {vs : List V} {ps : List PV} (n : Nat), RVs G K F vs ps → RVs G K F (vs.drop n) (ps.drop n)
  | _, _, 0, r => r
  | _, _, _ + 1, .nil => .nil
  | _, _, n + 1, .cons _ t => RVs'.drop n t
theorem RVs'.rep {vs : List V} {ps : List PV} (r : RVs G K F vs ps) : ∀ n : Nat, RVs G K F (List.replicate n vs).flatten (List.replicate n ps).flatten
  | 0 => .nil
  | n + 1 => by rw [List.replicate_succ, List.replicate_succ, List.flatten_cons, List.flatten_cons]; exact r.append (RVs'.rep r n)
theorem RVs'.set {v : V} {p : PV} (r : RV G K F v p) : ∀ {vs : List V} {ps : List PV} (i : Nat), RVs G K F vs ps → RVs G K F (vs.set i v) (ps.set i p)
  | _, _, _, .nil => .nil
  | _, _, 0, .cons _ t => .cons r t
  | _, _, i + 1, .cons q t => .cons q (RVs'.set r i t)
theorem RVs'.reverse : ∀ {vs : List V} {ps : List PV}, RVs G K F vs ps → RVs G K F vs.reverse ps.reverse
  | _, _, .nil => .nil
  | _, _, .cons r t => by rw [List.reverse_cons, List.reverse_cons]; exact (RVs'.reverse t).append (.cons r .nil)
theorem RVs'.eraseIdx : ∀ {vs : List V} {ps : List PV} (i : Nat), RVs G K F vs ps → RVs G K F (vs.eraseIdx i) (ps.eraseIdx i)
  | _, _, _, .nil => .nil
  | _, _, 0, .cons _ t => t
  | _, _, i + 1, .cons q t => .cons q (RVs'.eraseIdx i t)
theorem RVs'.ints : ∀ (ns : List Int), RVs G K F (ns.map V.int) (ns.map PV.int)
  | [] => .nil
  | n :: r => .cons (.int n) (RVs'.ints r)
theorem strs_of : ∀ {vs : List V} {ys : List Str}, RVs G K F vs (ys.map PV.str) → vs = ys.map V.str
  | [], [], _ => rfl
  | [], _ :: _, h => by cases h
  | _ :: _, [], h => by cases h
  | _ :: _, _ :: _, .cons r t => by cases r; rw [List.map_cons, strs_of t]
/-- the values of ints are ints -/
theorem RVs'.ints_of : ∀ {vs : List V} {ns : List Int}, RVs G K F vs (ns.map PV.int) → vs = ns.map V.int
  | [], [], _ => rfl
  | [], _ :: _, h => by cases h
  | _ :: _, [], h => by cases h
  | _ :: _, _ :: _, .cons r t => by cases r; rw [List.map_cons, RVs'.ints_of t]
def RO (G : Cfg) (K : PySem.W.Frag) (F : Hp) (o : HO) : MO → Prop
  | .lst xs => ∃ vs, o = .lst vs ∧ RVs G K F vs xs
  | .dct ks xs => ∃ vs, o = .dK (ks.zip vs) ∧ ks.length = vs.length ∧ RVs G K F vs xs
  | .ins c fs => ∃ nm lay dx kvs, G.cls[c]? = some (nm, lay) ∧ o = .ins (He.ga K nm) dx kvs ∧ (kvs.map (·.1)).Nodup ∧ fs.length = lay.length ∧ (∀ f, kvs.lookup f ≠ none → f ∈ lay) ∧
      ∀ (i : Nat) (p : PV) (f : Str), fs[i]? = some (some p) → lay[i]? = some f → ∃ v, kvs.lookup f = some v ∧ RV G K F v p
  | .sm P => ∃ vs xs, o = .lst vs ∧ RVs G K F vs xs ∧ P xs
theorem RO.mono {o : HO} {m : MO} (s : Same F F') (r : RO G K F o m) : RO G K F' o m := by
  cases m with
  | lst xs => obtain ⟨vs, e, r⟩ := r; exact ⟨vs, e, r.mono s⟩
  | dct ks xs => obtain ⟨vs, e, l, r⟩ := r; exact ⟨vs, e, l, r.mono s⟩
  | ins c fs =>
    obtain ⟨nm, lay, dx, kvs, e1, e2, e3, e4, e5, r⟩ := r
    refine ⟨nm, lay, dx, kvs, e1, e2, e3, e4, e5, fun i p f h1 h2 => ?_⟩
    obtain ⟨v, h3, h4⟩ := r i p f h1 h2
    exact ⟨v, h3, h4.mono s⟩
  | sm P => obtain ⟨vs, xs, e, r, q⟩ := r; exact ⟨vs, xs, e, r.mono s, q⟩
structure Ab (G : Cfg) (K : PySem.W.Frag) (F : Hp) (M : Mh) (H : Hp) : Prop where
  bs : Same G.F0 F
  sub : Same F H
  mu : ∀ a m, M a = some m → F a = none ∧ ∃ o, H a = some o ∧ RO G K F o m
theorem Ab.free {M : Mh} (A : Ab G K F M H) {p : Addr} (h : H p = none) : M p = none ∧ F p = none := by
  refine ⟨?_, Same.free A.sub h⟩
  cases e : M p with
  | none => rfl
  | some m =>
    obtain ⟨_, o, ho, _⟩ := A.mu p m e
    rw [h] at ho; cases ho
/-- less is known -/
theorem Ab.less {M M' : Mh} (A : Ab G K F M H) (s : MSub M' M) : Ab G K F M' H := ⟨A.bs, A.sub, fun a m h => A.mu a m (s a m h)⟩
theorem sameUpd {H : Hp} {p : Addr} {o : HO} (h : H p = none) : Same H (upd H p o) := fun b q e => by
  rw [upd_ne (ne_of_none e h)]; exact e
theorem sameUpd2 {F H : Hp} {p : Addr} {o : HO} (s : Same F H) (h : H p = none) : Same (upd F p o) (upd H p o) := fun b q e => by
  by_cases hb : b = p
  · subst hb; rw [upd_same] at e ⊢; exact e
  · rw [upd_ne hb] at e ⊢; exact s b q e
/-- a new frozen thing -/
theorem Ab.newF {M : Mh} (A : Ab G K F M H) {p : Addr} {o : HO} (h : H p = none) : Ab G K (upd F p o) M (upd H p o) ∧ Same F (upd F p o) := by
  have hF := A.free h
  refine ⟨⟨A.bs.trans (sameUpd hF.2), sameUpd2 A.sub h, fun a m e => ?_⟩, sameUpd hF.2⟩
  have hap : a ≠ p := fun z => by rw [z, hF.1] at e; cases e
  obtain ⟨h1, q, h2, h3⟩ := A.mu a m e
  exact ⟨by rw [upd_ne hap]; exact h1, q, by rw [upd_ne hap]; exact h2, h3.mono (sameUpd hF.2)⟩
/-- a new thing that may change -/
theorem Ab.newM {M : Mh} (A : Ab G K F M H) {p : Addr} {o : HO} {m : MO} (h : H p = none) (r : RO G K F o m) : Ab G K F (put M p m) (upd H p o) := by
  have hF := A.free h
  refine ⟨A.bs, fun b q e => ?_, fun a m' e => ?_⟩
  · rw [upd_ne (ne_of_none (A.sub b q e) h)]; exact A.sub b q e
  · by_cases hap : a = p
    · subst hap
      rw [put_same] at e; cases e
      exact ⟨hF.2, o, upd_same, r⟩
    · rw [put_ne hap] at e
      rw [upd_ne hap]
      exact A.mu a m' e
/-- a change -/
theorem Ab.write {M : Mh} (A : Ab G K F M H) {p : Addr} {o : HO} {m m0 : MO} (h : M p = some m0) (r : RO G K F o m) : Ab G K F (put M p m) (upd H p o) := by
  obtain ⟨hF, _⟩ := A.mu p m0 h
  refine ⟨A.bs, fun b q e => ?_, fun a m' e => ?_⟩
  · have : b ≠ p := fun z => by rw [z, hF] at e; cases e
    rw [upd_ne this]; exact A.sub b q e
  · by_cases hap : a = p
    · subst hap
      rw [put_same] at e; cases e
      exact ⟨hF, o, upd_same, r⟩
    · rw [put_ne hap] at e
      rw [upd_ne hap]
      exact A.mu a m' e
/-- a list is not changed any more -/
theorem Ab.freeze {M : Mh} (A : Ab G K F M H) {p : Addr} {xs : List PV} (h : M p = some (.lst xs)) : ∃ F', Same F F' ∧ Ab G K F' (del M p) H ∧ RV G K F' (.ref p) (.lst xs) := by
  obtain ⟨hF, o, ho, vs, rfl, r⟩ := A.mu p _ h
  have sF : Same F (upd F p (.lst vs)) := sameUpd hF
  refine ⟨upd F p (.lst vs), sF, ⟨A.bs.trans sF, fun b q e => ?_, fun a m e => ?_⟩, .lst upd_same (r.mono sF)⟩
  · by_cases hb : b = p
    · subst hb; rw [upd_same] at e; cases e; exact ho
    · rw [upd_ne hb] at e; exact A.sub b q e
  · have hap : a ≠ p := fun z => by subst z; unfold del at e; rw [if_pos rfl] at e; cases e
    have e' : M a = some m := by unfold del at e; rw [if_neg hap] at e; exact e
    obtain ⟨h1, q, h2, h3⟩ := A.mu a m e'
    exact ⟨by rw [upd_ne hap]; exact h1, q, h2, h3.mono sF⟩
theorem fields_vs {lay : List Str} {kvs : List (Str × V)} : ∀ (fs : List PV) (n : Nat), (∀ (i : Nat) (p : PV) (f : Str), fs[i]? = some p → lay[n + i]? = some f → ∃ v, kvs.lookup f = some v ∧ RV G K F v p) → n + fs.length ≤ lay.length →
    ∃ vs, RVs G K F vs fs ∧ ∀ (i : Nat) (f : Str) (v : V), lay[n + i]? = some f → vs[i]? = some v → kvs.lookup f = some v
  | [], _, _, _ => ⟨[], .nil, fun i f v _ h => by simp at h⟩
  | p :: fs, n, h, hl => by
    have hn : n < lay.length := by rw [List.length_cons] at hl; omega
    obtain ⟨v, e, r⟩ := h 0 p lay[n] rfl (List.getElem?_eq_getElem hn)
    obtain ⟨vs, rs, k⟩ := fields_vs fs (n + 1) (fun i q f h1 h2 => h (i + 1) q f (by simpa using h1) (by rw [← h2]; congr 1; omega)) (by rw [List.length_cons] at hl; omega)
    refine ⟨v :: vs, .cons r rs, fun i f u h1 h2 => ?_⟩
    cases i with
    | zero =>
      rw [Nat.add_zero, List.getElem?_eq_getElem hn] at h1
      cases h1
      simp at h2
      subst h2
      exact e
    | succ i => exact k i f u (by rw [← h1]; congr 1; omega) (by simpa using h2)
/-- an instance is not changed any more -/
theorem Ab.freezeI {M : Mh} (A : Ab G K F M H) {p : Addr} {c : Nat} {fs : List PV} (h : M p = some (.ins c (fs.map some))) : ∃ F', Same F F' ∧ Ab G K F' (del M p) H ∧ RV G K F' (.ref p) (.ins c fs) := by
  obtain ⟨hF, o, ho, nm, lay, dx, kvs, e1, rfl, e3, e4, e5, e6⟩ := A.mu p _ h
  have sF : Same F (upd F p (.ins (He.ga K nm) dx kvs)) := sameUpd hF
  rw [List.length_map] at e4
  obtain ⟨vs, rs, k⟩ := fields_vs (G := G) (K := K) (F := F) (lay := lay) (kvs := kvs) fs 0 (fun i q f h1 h2 => e6 i q f (by rw [List.getElem?_map, h1]; rfl) (by simpa using h2)) (by omega)
  refine ⟨_, sF, ⟨A.bs.trans sF, fun b q e => ?_, fun a m e => ?_⟩, .ins e1 upd_same (by rw [rs.length]; exact e4.symm) (fun i f v h1 h2 => k i f v (by simpa using h1) h2) e5 (rs.mono sF)⟩
  · by_cases hb : b = p
    · subst hb; rw [upd_same] at e; cases e; exact ho
    · rw [upd_ne hb] at e; exact A.sub b q e
  · have hap : a ≠ p := fun z => by subst z; unfold del at e; rw [if_pos rfl] at e; cases e
    have e' : M a = some m := by unfold del at e; rw [if_neg hap] at e; exact e
    obtain ⟨h1, q, h2, h3⟩ := A.mu a m e'
    exact ⟨by rw [upd_ne hap]; exact h1, q, h2, h3.mono sF⟩
/-- a dict is not changed any more -/
theorem Ab.freezeD {M : Mh} (A : Ab G K F M H) {p : Addr} {ks : List Key} {xs : List PV} (h : M p = some (.dct ks xs)) : ∃ F', Same F F' ∧ Ab G K F' (del M p) H ∧ RV G K F' (.ref p) (.dct ks xs) := by
  obtain ⟨hF, o, ho, vs, rfl, l, r⟩ := A.mu p _ h
  have sF : Same F (upd F p (.dK (ks.zip vs))) := sameUpd hF
  refine ⟨_, sF, ⟨A.bs.trans sF, fun b q e => ?_, fun a m e => ?_⟩, .dct upd_same l (r.mono sF)⟩
  · by_cases hb : b = p
    · subst hb; rw [upd_same] at e; cases e; exact ho
    · rw [upd_ne hb] at e; exact A.sub b q e
  · have hap : a ≠ p := fun z => by subst z; unfold del at e; rw [if_pos rfl] at e; cases e
    have e' : M a = some m := by unfold del at e; rw [if_neg hap] at e; exact e
    obtain ⟨h1, q, h2, h3⟩ := A.mu a m e'
    exact ⟨by rw [upd_ne hap]; exact h1, q, h2, h3.mono sF⟩
/-- a list of which something is known, seen -/
theorem Ab.opn {M : Mh} (A : Ab G K F M H) {p : Addr} {P : List PV → Prop} (h : M p = some (.sm P)) : ∃ xs, P xs ∧ Ab G K F (put M p (.lst xs)) H := by
  obtain ⟨hF, o, ho, vs, xs, e, r, q⟩ := A.mu p _ h
  refine ⟨xs, q, A.bs, A.sub, fun a m e' => ?_⟩
  by_cases hap : a = p
  · subst hap
    rw [put_same] at e'; cases e'
    exact ⟨hF, o, ho, vs, e, r⟩
  · rw [put_ne hap] at e'
    exact A.mu a m e'
/-- less is said: fewer things, or of a list only a property -/
def Weak (M' M : Mh) : Prop := ∀ a m, M' a = some m → M a = some m ∨ ∃ xs P, M a = some (.lst xs) ∧ m = .sm P ∧ P xs
theorem Weak.refl (M : Mh) : Weak M M := fun _ _ h => .inl h
theorem Weak.sub {M' M : Mh} (h : MSub M' M) : Weak M' M := fun a m e => .inl (h a m e)
theorem Ab.weak {M M' : Mh} (A : Ab G K F M H) (s : Weak M' M) : Ab G K F M' H := ⟨A.bs, A.sub, fun a m h => by
  rcases s a m h with h3 | ⟨xs, P, h3, rfl, q⟩
  · exact A.mu a m h3
  · obtain ⟨h1, o, h2, vs, e, r⟩ := A.mu a _ h3
    exact ⟨h1, o, h2, vs, xs, e, r, q⟩⟩
/-- what may be looked into first -/
inductive Reach : Mh → (Mh → Prop) → Prop
  | done {M : Mh} {k : Mh → Prop} : k M → Reach M k
  | opn {M : Mh} {k : Mh → Prop} {p : Addr} {P : List PV → Prop} : M p = some (.sm P) → (∀ xs, P xs → Reach (put M p (.lst xs)) k) → Reach M k
theorem Reach.go {M : Mh} {k : Mh → Prop} (r : Reach M k) (A : Ab G K F M H) : ∃ M', Ab G K F M' H ∧ k M' := by
  induction r with
  | done h => exact ⟨_, A, h⟩
  | opn h _ ih =>
    obtain ⟨xs, q, A'⟩ := A.opn h
    exact ih xs q A'
/-- the same with another entry -/
theorem Ab.reat {M : Mh} {F0 : Hp} (A : Ab G K F M H) (h : Same F0 F) : Ab (G.at F0) K F M H := ⟨h, A.sub, A.mu⟩
end
end Z
set_option Elab.async false
set_option linter.all false
set_option maxRecDepth 100000
set_option maxHeartbeats 4000000
namespace Z
open PySem PySem.Spec PyProof.Rows L2
/-! ### what values are worth -/
mutual
def peq : PV → PV → Bool
  | .non, .non => true
  | .bl a, .bl b => a == b
  | .bl a, .int j => (if a then 1 else 0) == j
  | .int i, .bl b => i == (if b then 1 else 0)
  | .int i, .int j => i == j
  | .str a, .str b => a == b
  | .tup xs, .tup ys => peqs xs ys
  | .lst xs, .lst ys => peqs xs ys
  | _, _ => false
def peqs : List PV → List PV → Bool
  | [], [] => true
  | x :: xs, y :: ys => peq x y && peqs xs ys
  | _, _ => false
end
mutual
/-- can be told apart by < -/
def palike : PV → PV → Bool
  | .int _, .int _ => true
  | .str _, .str _ => true
  | .tup xs, .tup ys => palikes xs ys
  | _, _ => false
def palikes : List PV → List PV → Bool
  | x :: xs, y :: ys => palike x y && palikes xs ys
  | [], _ => true
  | _ :: _, [] => true
end
mutual
def plt : PV → PV → Bool
  | .int i, .int j => decide (i < j)
  | .str a, .str b => decide (a.cps.toList < b.cps.toList)
  | .tup xs, .tup ys => plts xs ys
  | _, _ => false
def plts : List PV → List PV → Bool
  | x :: xs, y :: ys => if peq x y then plts xs ys else plt x y
  | [], [] => false
  | [], _ :: _ => true
  | _ :: _, [] => false
end
mutual
/-- plain data, at most so deep -/
def okD : Nat → PV → Bool
  | _, .non => true
  | _, .bl _ => true
  | _, .int _ => true
  | _, .str s => PyData.strOk s
  | n + 1, .tup xs => okDs n xs
  | n + 1, .lst xs => okDs n xs
  | _, _ => false
def okDs : Nat → List PV → Bool
  | _, [] => true
  | n, x :: xs => okD n x && okDs n xs
end
def isNon : PV → Bool
  | .non => true
  | _ => false
/-- a two-way end -/
@[irreducible] def br (b : Bool) (A B : Prop) : Prop := (b = true → A) ∧ (b = false → B)
theorem br_intro {b : Bool} {A B : Prop} (h1 : b = true → A) (h2 : b = false → B) : br b A B := by unfold br; exact ⟨h1, h2⟩
theorem br_t {b : Bool} {A B : Prop} (h : b = true) (h1 : A) : br b A B := by unfold br; exact ⟨fun _ => h1, fun q => by rw [h] at q; cases q⟩
theorem br_f {b : Bool} {A B : Prop} (h : b = false) (h1 : B) : br b A B := by unfold br; exact ⟨fun q => (by rw [h] at q; cases q), fun _ => h1⟩
theorem br_elim {b : Bool} {A B : Prop} (h : br b A B) : (b = true → A) ∧ (b = false → B) := by unfold br at h; exact h
/-- the item at an index of any sign -/
def pick (xs : List PV) : Int → Option PV
  | .ofNat n => xs[n]?
  | .negSucc m => if m < xs.length then xs[xs.length - 1 - m]? else none
def place (n : Nat) : Int → Option Nat
  | .ofNat k => if k < n then some k else none
  | .negSucc m => if m < n then some (n - 1 - m) else none
/-- a list's items: frozen, or as they stand now -/
def rdM (M : Mh) (v : PV) (k : List PV → Prop) : Prop := match v with
  | .lst xs => k xs
  | .ref p => ∃ xs, M p = some (.lst xs) ∧ k xs
  | _ => False
def rdL (M : Mh) (v : PV) (k : List PV → Prop) : Prop := match v with
  | .lst xs => k xs
  | .scr xs => k xs
  | .ref p => ∃ xs, M p = some (.lst xs) ∧ k xs
  | _ => False
def rdS (M : Mh) (v : PV) (k : List PV → Prop) : Prop := match v with
  | .lst xs => k xs
  | .scr xs => k xs
  | .tup xs => k xs
  | .ref p => ∃ xs, M p = some (.lst xs) ∧ k xs
  | _ => False
abbrev ZQ := PV → Mh → Prop
/-- an exception: its class, its fields -/
structure XV where
  c : Nat
  lay : List Str
  fs : List PV
/-- what an exception must find; the one that a suite holds -/
structure ZR where
  rz : XV → Zs → Mh → Prop
  cur : Option (Addr × Option Addr × Nat) := none
instance : CoeFun ZR fun _ => XV → Zs → Mh → Prop := ⟨ZR.rz⟩
abbrev ZX := XV → Mh → Prop
abbrev ZSp := List PV → Mh → ZQ → ZX → Prop
structure ZD where
  nx : Zs → Mh → Prop
  rt : ZQ
  bk : Zs → Mh → Prop := fun _ _ => False
  ct : Zs → Mh → Prop := fun _ _ => False
/-! ### the text in short -/
inductive BOp where | add | sub | mul | mod | fdiv | pow
inductive COp where | eq | ne | lt | le | gt | ge | is_ | isnot | in_ | notin
inductive Ty where | int | str | list | tuple | bool | dict
/-- a default value -/
inductive DV where | non | bl (b : Bool) | int (i : Int) | str (s : Str)
  deriving DecidableEq
def DV.pv : DV → PV
  | .non => .non | .bl b => .bl b | .int i => .int i | .str s => .str s
/-- a constant of the module -/
inductive CV where | at (d : DV) | tup (ds : List DV)
  deriving DecidableEq
def CV.pv : CV → PV
  | .at d => d.pv
  | .tup ds => .tup (ds.map DV.pv)
/-- written values and defaults, in the order of the def -/
def arr : List (Nat ⊕ DV) → List PV → List PV
  | [], _ => []
  | .inl i :: r, zs => zs.getD i .non :: arr r zs
  | .inr d :: r, zs => d.pv :: arr r zs
/-- built-ins -/
inductive Bf where
  | len | int | str | list (fz : Bool) | tuple | sum | max2 | min2 | abs | max1
/-- methods of lists -/
inductive Bm where | append | pop | pop0 | extend | insert | reverse
mutual
inductive E where
  | var (i : Nat) | non | bl (b : Bool) | int (i : Int) | str (s : Str) | neg (i : Int)
  | tup (es : EL) | lst (fz : Bool) (es : EL)
  | bin (o : BOp) (a b : E) | cat (a b : E) | cmp (o : COp) (a b : E) | chain (o o' : COp) (a b c : E)
  | bool (isAnd : Bool) (es : EL) | not (a : E) | ifx (t : T) (a b : E)
  | isin (a : E) (t : Ty) | idx (a b : E) | slice (a : E) (lo hi : EO) | attr (a : E) (c i : Nat)
  | call (f : Nat) (es : EL) (ds : List DV) | meth (f c : Nat) (o : E) (es : EL) (ds : List DV) | bcall (b : Bf) (es : EL) | lenset (a : E) | sortedset (a : E) | dict (fz : Bool) (ks : List Str) (vs : EL) | make (j f c n : Nat) (ds : List (Nat ⊕ DV)) (es kes : EL) | con (j : Nat) (v : CV) | kin (no : Bool) (j : Nat) (ks : List Str) (e : E) | kidx (j : Nat) (kvs : List (Str × DV)) (e : E) | rep (a b : E) | slco (a : E) (lo hi : EO) | bmeth (m : Bm) (o : E) (es : EL)
  | comp (fz : Bool) (own : List Nat) (t : Tg) (it : It) (ifs : TL) (elt : E)
  | frz (e : E) | join (a b : E) | fstr (fs : FL)
/-- parts of a text -/
inductive FL where
  | nil | lit (s : Str) (r : FL) | val (e : E) (r : FL)
/-- tests -/
inductive T where
  | val (e : E) | cmp (o : COp) (a b : E) | chain (o o' : COp) (a b c : E) | bool (isAnd : Bool) (ts : TL) | not (t : T)
inductive TL where
  | nil | cons (t : T) (r : TL)
inductive EL where
  | nil | cons (e : E) (r : EL)
inductive EO where
  | none | some (e : E)
inductive It where
  | seq (e : E) | range1 (e : E) | range2 (a b : E)
inductive Tg where
  | name (i : Nat) | tup (ts : TgL) | sub (o i : E) | fld (o : E) (c i : Nat)
inductive TgL where
  | nil | cons (t : Tg) (r : TgL)
end
mutual
inductive S where
  | asg (t : Tg) (e : E) | setc (j : Nat) (fz : Bool) (own : List Nat) (t : Tg) (it : It) (ifs : TL) (elt : E) | par (i j : Nat) (a b : E) | fld (o : E) (c i : Nat) (e : E) | augsub (o i : E) (op : BOp) (e : E) | augvar (i : Nat) (op : BOp) (e : E)
  | expr (e : E) | ret (e : E) | retN | ife (c : T) (a b : SL) | for_ (t : Tg) (it : It) (b : SL) | while_ (c : T) (b : SL)
  | never | pass | brk | cont
inductive SL where
  | nil | cons (s : S) (r : SL) | frz (i : Nat) (r : SL)
end
def TgL.len : TgL → Nat
  | .nil => 0
  | .cons _ r => r.len + 1
/-! ### operations -/
def zbin (o : BOp) (x y : PV) (M : Mh) (Q : ZQ) : Prop := match o with
  | .add => (match x, y with
    | .int i, .int j => Q (.int (i + j)) M
    | .tup xs, .tup ys => xs.length + ys.length ≤ sizeLine ∧ Q (.tup (xs ++ ys)) M
    | .str a, .str b => a.length + b.length ≤ sizeLine ∧ Q (.str (a ++ b)) M
    | _, _ => False)
  | .sub => (match x, y with | .int i, .int j => Q (.int (i - j)) M | _, _ => False)
  | .mul => (match x, y with | .int i, .int j => ((-(2 ^ 64) < i ∧ i < 2 ^ 64) ∨ (-(2 ^ 64) < j ∧ j < 2 ^ 64)) ∧ Q (.int (i * j)) M | .tup xs, .int k => (xs ≠ [] ∧ xs.length ≤ 1000 ∧ 0 ≤ k ∧ k ≤ 1000) ∧ Q (.tup (List.replicate k.toNat xs).flatten) M | _, _ => False)
  | .mod => (match x, y with | .int i, .int j => 0 < j ∧ Q (.int (i % j)) M | _, _ => False)
  | .fdiv => (match x, y with | .int i, .int j => (0 < j ∧ j < 100000000000000000000000000000000000000000000000000) ∧ Q (.int (i / j)) M | _, _ => False)
  | .pow => (match x, y with | .int i, .int j => (0 ≤ j ∧ j ≤ 1000000 ∧ i.natAbs < 2 ^ 64) ∧ Q (.int (i ^ j.toNat)) M | _, _ => False)
def keyIx : List Key → Key → Option Nat
  | [], _ => none
  | k :: r, x => if k = x then some 0 else (keyIx r x).map (· + 1)
/-- a dict behind d[x] = v: in its place, or at the end -/
def DSet (ks : List Key) (xs : List PV) (x : Key) (v : PV) (m : MO) : Prop := (∃ i, keyIx ks x = some i ∧ keyIx (ks.drop (i + 1)) x = none ∧ ks.length < 1000 ∧ m = .dct ks (xs.set i v)) ∨ (keyIx ks x = none ∧ ks.length < 1000 ∧ m = .dct (ks ++ [x]) (xs ++ [v]))
theorem DSet.old {ks : List Key} {xs : List PV} {x : Key} {v : PV} {i : Nat} (h : keyIx ks x = some i) (h2 : keyIx (ks.drop (i + 1)) x = none) (hl : ks.length < 1000) : DSet ks xs x v (.dct ks (xs.set i v)) := .inl ⟨i, h, h2, hl, rfl⟩
theorem DSet.new {ks : List Key} {xs : List PV} {x : Key} {v : PV} (h : keyIx ks x = none) (hl : ks.length < 1000) : DSet ks xs x v (.dct (ks ++ [x]) (xs ++ [v])) := .inr ⟨h, hl, rfl⟩
/-- what is compared: a frozen thing, or the items of a list as they are now -/
def asD (M : Mh) (x : PV) (k : PV → Prop) : Prop := match x with
  | .ref p => ∃ xs, M p = some (.lst xs) ∧ k (.lst xs)
  | x => k x
def zcmp (o : COp) (x y : PV) (M : Mh) (Q : ZQ) : Prop := match o with
  | .eq => asD M x fun x => asD M y fun y => (okD 40 x = true ∧ okD 40 y = true) ∧ Q (.bl (peq x y)) M
  | .ne => asD M x fun x => asD M y fun y => (okD 40 x = true ∧ okD 40 y = true) ∧ Q (.bl (!peq x y)) M
  | .lt => (match x, y with
    | .int i, .int j => Q (.bl (decide (i < j))) M
    | .tup xs, .tup ys => (okD 40 (.tup xs) = true ∧ okD 40 (.tup ys) = true ∧ palikes xs ys = true) ∧ Q (.bl (plts xs ys)) M
    | _, _ => False)
  | .le => (match x, y with | .int i, .int j => Q (.bl (decide (i ≤ j))) M | _, _ => False)
  | .gt => (match x, y with | .int i, .int j => Q (.bl (decide (j < i))) M | _, _ => False)
  | .ge => (match x, y with | .int i, .int j => Q (.bl (decide (j ≤ i))) M | _, _ => False)
  | .is_ => (match y with | .non => Q (.bl (isNon x)) M | _ => False)
  | .isnot => (match y with | .non => Q (.bl (!isNon x)) M | _ => False)
  | .in_ => (match y with
    | .dct ks _ => (match x with | .str s => Q (.bl ((keyIx ks (.inr s)).isSome)) M | .int i => Q (.bl ((keyIx ks (.inl i)).isSome)) M | _ => False)
    | y => rdS M y fun ys => (okD 40 x = true ∧ okDs 40 ys = true) ∧ Q (.bl (ys.any fun z => peq z x)) M)
  | .notin => (match y with
    | .dct ks _ => (match x with | .str s => Q (.bl (!(keyIx ks (.inr s)).isSome)) M | .int i => Q (.bl (!(keyIx ks (.inl i)).isSome)) M | _ => False)
    | y => rdS M y fun ys => (okD 40 x = true ∧ okDs 40 ys = true) ∧ Q (.bl (!ys.any fun z => peq z x)) M)
/-- a value's truth -/
def ztru (x : PV) (M : Mh) (k : Bool → Prop) : Prop := match x with
  | .non => k false
  | .bl b => k b
  | .int i => k (i != 0)
  | .lst xs => k (!xs.isEmpty)
  | .tup xs => k (!xs.isEmpty)
  | .ref p => ∃ xs, M p = some (.lst xs) ∧ k (!xs.isEmpty)
  | _ => False
def zidx (x y : PV) (M : Mh) (Q : ZQ) : Prop := match y with
  | .int i => rdS M x fun xs => ∃ v, pick xs i = some v ∧ Q v M
  | .str s => (match x with
    | .dct ks xs => ∃ i v, keyIx ks (.inr s) = some i ∧ xs[i]? = some v ∧ Q v M
    | .ref p => ∃ ks xs i v, M p = some (.dct ks xs) ∧ keyIx ks (.inr s) = some i ∧ xs[i]? = some v ∧ Q v M
    | _ => False)
  | _ => False
def zattr (c i : Nat) (x : PV) (M : Mh) (Q : ZQ) : Prop := match x with
  | .ins c' fs => c' = c ∧ ∃ v, fs[i]? = some v ∧ Q v M
  | .ref p => ∃ fs v, M p = some (.ins c fs) ∧ fs[i]? = some (some v) ∧ Q v M
  | _ => False
def zself (c : Nat) (x : PV) (M : Mh) (k : Prop) : Prop := match x with
  | .ins c' _ => c' = c ∧ k
  | .ref p => (∃ fs, M p = some (.ins c fs)) ∧ k
  | _ => False
def zisl (x : PV) (M : Mh) (k : Prop) : Prop := match x with
  | .ref p => (∃ xs, M p = some (.lst xs)) ∧ k
  | _ => False
def isTy : Ty → PV → Option Bool
  | .int, .int _ => some true
  | .int, .bl _ => some true
  | .bool, .bl _ => some true
  | .str, .str _ => some true
  | .list, .lst _ => some true
  | .tuple, .tup _ => some true
  | .dict, .dct _ _ => some true
  | _, .scr _ => none
  | _, .ref _ => none
  | _, .ty _ => none
  | _, .ins _ _ => none
  | _, .xv _ _ _ _ _ => none
  | _, _ => some false
def tyS : Ty → String
  | .int => "int" | .str => "str" | .list => "list" | .tuple => "tuple" | .bool => "bool" | .dict => "dict"
def zisin (t : Ty) (x : PV) (M : Mh) (Q : ZQ) : Prop := match x with
  | .ref p => ∃ m, M p = some m ∧ (match m with
    | .lst _ => Q (.bl (match t with | .list => true | _ => false)) M
    | .dct _ _ => Q (.bl (match t with | .dict => true | _ => false)) M
    | .sm _ => Q (.bl (match t with | .list => true | _ => false)) M
    | .ins _ _ => False)
  | x => (match isTy t x with
    | some b => Q (.bl b) M
    | none => False)
def zbcall (b : Bf) (vs : List PV) (M : Mh) (Q : ZQ) : Prop := match b, vs with
  | .len, [x] => (match x with
    | .dct ks _ => Q (.int ks.length) M
    | x => rdS M x fun xs => Q (.int xs.length) M)
  | .int, [x] => (match x with
    | .int i => Q (.int i) M
    | .bl b => Q (.int (if b then 1 else 0)) M
    | _ => False)
  | .str, [x] => (match x with | .int i => i.natAbs.log2 < 1920 ∧ Q (.str (toString i)) M | _ => False)
  | .list fz, [x] => rdS M x fun xs => (match fz with
    | true => Q (.lst xs) M
    | false => ∀ p, M p = none → Q (.ref p) (put M p (.lst xs)))
  | .tuple, [x] => rdS M x fun xs => Q (.tup xs) M
  | .sum, [x] => rdL M x fun xs => ∃ ns : List Int, xs = ns.map PV.int ∧ Q (.int ns.sum) M
  | .max2, [x, y] => (match x, y with | .int i, .int j => Q (.int (if j > i then j else i)) M | _, _ => False)
  | .min2, [x, y] => (match x, y with | .int i, .int j => Q (.int (if j < i then j else i)) M | _, _ => False)
  | .abs, [x] => (match x with | .int i => Q (.int (if i < 0 then -i else i)) M | _ => False)
  | .max1, [x] => rdL M x fun xs => ∃ ns : List Int, xs = ns.map PV.int ∧ 0 < ns.length ∧ ∀ m ∈ ns, (∀ k ∈ ns, k ≤ m) → Q (.int m) M
  | _, _ => False
def zlenset (x : PV) (M : Mh) (Q : ZQ) : Prop := rdL M x fun xs => ∃ ns : List Int, xs = ns.map PV.int ∧ ns.length < 60 ∧ ∀ k : Nat, (∃ ms : List Int, ms.Nodup ∧ (∀ z, z ∈ ms ↔ z ∈ ns) ∧ ms.length = k) → Q (.int k) M
def zsortedset (x : PV) (M : Mh) (Q : ZQ) : Prop := rdL M x fun xs => ∃ ns : List Int, xs = ns.map PV.int ∧ ns.length < 60 ∧ ∀ ms : List Int, ms.Pairwise (· < ·) → (∀ k, k ∈ ms ↔ k ∈ ns) → Q (.lst (ms.map PV.int)) M
def zbmeth (m : Bm) (x : PV) (vs : List PV) (M : Mh) (Q : ZQ) : Prop := match x with
  | .ref p => ∃ xs, M p = some (.lst xs) ∧ (match m, vs with
    | .append, [y] => xs.length < sizeLine ∧ Q .non (put M p (.lst (xs ++ [y])))
    | .pop, [] => ∃ y, xs[xs.length - 1]? = some y ∧ Q y (put M p (.lst xs.dropLast))
    | .pop0, [y] => (match y with | .int i => (-(2 ^ 63) ≤ i ∧ i < 2 ^ 63) ∧ ∃ y k, place xs.length i = some k ∧ xs[k]? = some y ∧ Q y (put M p (.lst (xs.eraseIdx k))) | _ => False)
    | .extend, [y] => rdM M y fun ys => xs.length + ys.length ≤ sizeLine ∧ Q .non (put M p (.lst (xs ++ ys)))
    | .insert, [i, y] => (match i with | .int i => xs.length < sizeLine ∧ (0 ≤ i ∧ i < 2 ^ 63) ∧ Q .non (put M p (.lst (xs.take i.toNat ++ y :: xs.drop i.toNat))) | _ => False)
    | .reverse, [] => Q .non (put M p (.lst xs.reverse))
    | _, _ => False)
  | _ => False
/-- xs[lo:hi] -/
def cut (xs : List PV) (lo hi : Option Int) : List PV := (xs.drop (HT.sIx xs.length 0 lo)).take (HT.sIx xs.length xs.length hi - HT.sIx xs.length 0 lo)
/-- sep.join(items) -/
def zjoin (s : Str) (y : PV) (M : Mh) (Q : ZQ) : Prop := rdS M y fun xs => ∃ ys : List Str, xs = ys.map PV.str ∧ (ys.map (·.length)).sum + ys.length * s.length ≤ 16777216 ∧ Q (.str (Txt.join s ys)) M
/-- a value as a part of a text -/
def zfmt (x : PV) (k : Str → Prop) : Prop := match x with
  | .str y => k y
  | .int i => i.natAbs.log2 < 1920 ∧ k (toString i)
  | _ => False
def zslice (x : PV) (l h : Option Int) (M : Mh) (Q : ZQ) : Prop := match x with
    | .tup xs => Q (.tup (cut xs l h)) M
    | x => rdL M x fun xs => Q (.lst (cut xs l h)) M
def zsliceo (x : PV) (l h : Option Int) (M : Mh) (Q : ZQ) : Prop := rdL M x fun xs => ∀ p, M p = none → Q (.ref p) (put M p (.lst (cut xs l h)))
def zcat (x y : PV) (M : Mh) (Q : ZQ) : Prop := rdM M x fun xs => rdM M y fun ys => xs.length + ys.length ≤ sizeLine ∧ ∀ p, M p = none → Q (.ref p) (put M p (.lst (xs ++ ys)))
def zrep (x y : PV) (M : Mh) (Q : ZQ) : Prop := rdM M x fun xs => (match y with | .int k => (-(2 ^ 63) ≤ k ∧ k < 2 ^ 63 ∧ xs.length * k.toNat ≤ sizeLine) ∧ ∀ p, M p = none → Q (.ref p) (put M p (.lst (List.replicate k.toNat xs).flatten)) | _ => False)
def zkin (no : Bool) (ks : List Str) (x : PV) (M : Mh) (Q : ZQ) : Prop := match x with | .str s => Q (.bl (if no then !ks.contains s else ks.contains s)) M | _ => False
def zkidx (kvs : List (Str × DV)) (x : PV) (M : Mh) (Q : ZQ) : Prop := match x with | .str s => ∃ v, kvs.lookup s = some v ∧ Q v.pv M | _ => False
/-- what stood under change stands frozen -/
def zfrz (x : PV) (M : Mh) (Q : ZQ) : Prop := match x with
  | .ref p => ∃ m, M p = some m ∧ (match m with
    | .lst xs => Q (.lst xs) (del M p)
    | .ins c fs => ∃ gs, fs = gs.map some ∧ Q (.ins c gs) (del M p)
    | .dct ks xs => Q (.dct ks xs) (del M p)
    | .sm _ => False)
  | _ => False
/-- the turns of a walk -/
def iter (still : Mh → Prop) (step : PV → Zs → Mh → (Zs → Mh → Prop) → Prop) (done : Zs → Mh → Prop) : List PV → Zs → Mh → Prop
  | [], σ, M => still M ∧ done σ M
  | x :: r, σ, M => still M ∧ step x σ M fun σ' M' => iter still step done r σ' M'
def lcIter (still : Mh → Prop) (D : Addr) (step : PV → Mh → (Option PV → Mh → Prop) → Prop) (done : List PV → Mh → Prop) : List PV → List PV → Mh → Prop
  | [], acc, M => still M ∧ done acc M
  | x :: r, acc, M => still M ∧ step x M fun o M' => match o with
    | some y => M' D = some (.lst acc) ∧ acc.length < sizeLine ∧ lcIter still D step done r (acc ++ [y]) (put M' D (.lst (acc ++ [y])))
    | none => lcIter still D step done r acc M'
def wiped (σ : Zs) : List Nat → Zs
  | [] => σ
  | v :: vs => (wiped σ vs).set v none
def lcStep (zt : PV → Zs → Mh → (Zs → Mh → Prop) → Prop) (zc : Zs → Mh → (Bool → Mh → Prop) → Prop) (ze : Zs → Mh → ZQ → Prop) (σ : Zs) (x : PV) (M' : Mh) (k : Option PV → Mh → Prop) : Prop :=
  zt x σ M' fun σ2 M2 => zc σ2 M2 fun b M3 => br b (ze σ2 M3 fun y M4 => k (some y) M4) (k none M3)
def lcDone (fz : Bool) (D : Addr) (Q : ZQ) (ys : List PV) (M' : Mh) : Prop := match fz with
  | true => M' D = some (.lst ys) ∧ Q (.lst ys) (del M' D)
  | false => Q (.ref D) M'
def dDone (fz : Bool) (D : Addr) (ks : List Str) (ps : List PV) (Q : ZQ) (M' : Mh) : Prop := match fz with
  | true => Q (.dct (ks.map Sum.inr) ps) (del M' D)
  | false => Q (.ref D) (put M' D (.dct (ks.map Sum.inr) ps))
def zaug (op : BOp) (x y : PV) (M : Mh) (Q : ZQ) : Prop := match op with
  | .add => (match x, y with
    | .int i, .int j => Q (.int (i + j)) M
    | .str a, .str b => a.length + b.length ≤ sizeLine ∧ Q (.str (a ++ b)) M
    | .ref p, y => ∃ xs, M p = some (.lst xs) ∧ rdM M y fun ys => xs.length + ys.length ≤ sizeLine ∧ Q (.ref p) (put M p (.lst (xs ++ ys)))
    | _, _ => False)
  | .sub => (match x, y with | .int i, .int j => Q (.int (i - j)) M | _, _ => False)
  | _ => False
def rangeL (lo : Int) (n : Nat) : List PV := (List.range n).map fun i => PV.int (lo + (i : Nat))
/-- nothing may be raised -/
def noR : ZR := ⟨fun _ _ _ => False, none⟩
section
variable (Φ : Nat → ZSp)
mutual
def semE : ZR → E → Zs → Mh → ZQ → Prop
  | R, .var i, σ, M, Q => (match σ[i]? with
    | some (some v) => Q v M
    | _ => False)
  | R, .non, _, M, Q => Q .non M
  | R, .bl b, _, M, Q => Q (.bl b) M
  | R, .int i, _, M, Q => Q (.int i) M
  | R, .neg i, _, M, Q => Q (.int (-i)) M
  | R, .str s, _, M, Q => Q (.str s) M
  | R, .tup es, σ, M, Q => semA R es σ M fun vs M1 => Q (.tup vs) M1
  | R, .lst fz es, σ, M, Q => semA R es σ M fun vs M1 => (match fz with
    | true => Q (.lst vs) M1
    | false => ∀ p, M1 p = none → Q (.ref p) (put M1 p (.lst vs)))
  | R, .bin o a b, σ, M, Q => semE R a σ M fun x M1 => semE R b σ M1 fun y M2 => zbin o x y M2 Q
  | R, .cat a b, σ, M, Q => semE R a σ M fun x M1 => semE R b σ M1 fun y M2 => zcat x y M2 Q
  | R, .cmp o a b, σ, M, Q => semE R a σ M fun x M1 => semE R b σ M1 fun y M2 => zcmp o x y M2 Q
  | R, .chain o o' a b c, σ, M, Q => semE R a σ M fun x M1 => semE R b σ M1 fun y M2 => zcmp o x y M2 fun z M3 => (match z with
    | .bl k => br k (semE R c σ M3 fun w M4 => zcmp o' y w M4 Q) (Q (.bl false) M3)
    | _ => False)
  | R, .bool isAnd es, σ, M, Q => semB R isAnd es σ M Q
  | R, .not a, σ, M, Q => semE R a σ M fun x M1 => (match x with
    | .bl b => Q (.bl (!b)) M1
    | _ => False)
  | R, .ifx t a b, σ, M, Q => semT R t σ M fun k M1 => br k (semE R a σ M1 Q) (semE R b σ M1 Q)
  | R, .isin a t, σ, M, Q => semE R a σ M fun x M1 => zisin t x M1 Q
  | R, .idx a b, σ, M, Q => semE R a σ M fun x M1 => semE R b σ M1 fun y M2 => zidx x y M2 Q
  | R, .slice a lo hi, σ, M, Q => semE R a σ M fun x M1 => semO R lo σ M1 fun l M2 => semO R hi σ M2 fun h M3 => zslice x l h M3 Q
  | R, .attr a c i, σ, M, Q => semE R a σ M fun x M1 => zattr c i x M1 Q
  | R, .call f es ds, σ, M, Q => semA R es σ M fun vs M1 => Φ f (vs ++ ds.map DV.pv) M1 Q fun x M2 => R x σ M2
  | R, .meth f c o es ds, σ, M, Q => semE R o σ M fun x M1 => zself c x M1 (semA R es σ M1 fun vs M2 => Φ f (x :: (vs ++ ds.map DV.pv)) M2 Q fun x M2 => R x σ M2)
  | R, .bcall b es, σ, M, Q => semA R es σ M fun vs M1 => zbcall b vs M1 Q
  | R, .lenset a, σ, M, Q => semE R a σ M fun x M1 => zlenset x M1 Q
  | R, .sortedset a, σ, M, Q => semE R a σ M fun x M1 => zsortedset x M1 Q
  | R, .dict fz ks vs, σ, M, Q => ∀ D, M D = none → semA R vs σ (put M D (.dct [] [])) fun ps M1 => M1 D = some (.dct [] []) ∧ dDone fz D ks ps Q M1
  | R, .make _ f c n ds es kes, σ, M, Q => semA R es σ M fun vs M1 => semA R kes σ M1 fun zs M2 => ∀ x, M2 x = none → Φ f (.ref x :: (vs ++ arr ds zs)) (put M2 x (.ins c (List.replicate n none))) (fun v M3 => v = .non ∧ Q (.ref x) M3) fun x M3 => R x σ M3
  | R, .bmeth m o es, σ, M, Q => semE R o σ M fun x M1 => zisl x M1 (semA R es σ M1 fun vs M2 => zbmeth m x vs M2 Q)
  | R, .comp fz own t it ifs elt, σ, M, Q => semI R it σ M fun still xs M1 => ∀ D, M1 D = none →
      lcIter still D (lcStep (fun x σ' M' k => semTg noR t x σ' M' k) (fun σ' M' k => semC noR ifs σ' M' k) (fun σ' M' k => semE noR elt σ' M' k) (wiped σ own)) (lcDone fz D Q) xs [] (put M1 D (.lst []))
  | R, .frz e, σ, M, Q => semE R e σ M fun x M1 => zfrz x M1 Q
  | R, .con _ v, _, M, Q => Q v.pv M
  | R, .kin no _ ks e, σ, M, Q => semE R e σ M fun x M1 => zkin no ks x M1 Q
  | R, .kidx _ kvs e, σ, M, Q => semE R e σ M fun x M1 => zkidx kvs x M1 Q
  | R, .slco a lo hi, σ, M, Q => semE R a σ M fun x M1 => semO R lo σ M1 fun l M2 => semO R hi σ M2 fun h M3 => zsliceo x l h M3 Q
  | R, .rep a b, σ, M, Q => semE R a σ M fun x M1 => semE R b σ M1 fun y M2 => zrep x y M2 Q
  | R, .join a b, σ, M, Q => semE R a σ M fun x M1 => (match x with
    | .str s => semE R b σ M1 fun y M2 => zjoin s y M2 Q
    | _ => False)
  | R, .fstr fs, σ, M, Q => semF R fs Str.empty σ M fun s M1 => Q (.str s) M1
def semF : ZR → FL → Str → Zs → Mh → (Str → Mh → Prop) → Prop
  | R, .nil, acc, _, M, k => k acc M
  | R, .lit s r, acc, σ, M, k => (acc ++ s).length ≤ sizeLine ∧ semF R r (acc ++ s) σ M k
  | R, .val e r, acc, σ, M, k => semE R e σ M fun x M1 => zfmt x fun y => (acc ++ y).length ≤ sizeLine ∧ semF R r (acc ++ y) σ M1 k
def semA : ZR → EL → Zs → Mh → (List PV → Mh → Prop) → Prop
  | R, .nil, _, M, Q => Q [] M
  | R, .cons e r, σ, M, Q => semE R e σ M fun x M1 => semA R r σ M1 fun xs M2 => Q (x :: xs) M2
def semO : ZR → EO → Zs → Mh → (Option Int → Mh → Prop) → Prop
  | R, .none, _, M, Q => Q none M
  | R, .some e, σ, M, Q => semE R e σ M fun x M1 => (match x with
    | .int i => Q (some i) M1
    | _ => False)
/-- and, or as a value -/
def semB : ZR → Bool → EL → Zs → Mh → ZQ → Prop
  | R, _, .nil, _, _, _ => False
  | R, _, .cons e .nil, σ, M, Q => semE R e σ M Q
  | R, isAnd, .cons e (.cons f r), σ, M, Q => semE R e σ M fun x M1 => (match x with
      | .bl b => (match isAnd with
        | true => br b (semB R true (.cons f r) σ M1 Q) (Q (.bl false) M1)
        | false => br b (Q (.bl true) M1) (semB R false (.cons f r) σ M1 Q))
      | _ => False)
/-- a test -/
def semT : ZR → T → Zs → Mh → (Bool → Mh → Prop) → Prop
  | R, .bool isAnd ts, σ, M, k => semBT R isAnd ts σ M k
  | R, .not a, σ, M, k => semT R a σ M fun b M1 => k (!b) M1
  | R, .val e, σ, M, k => semE R e σ M fun x M1 => ztru x M1 fun b => k b M1
  | R, .cmp o a b, σ, M, k => semE R a σ M fun x M1 => semE R b σ M1 fun y M2 => zcmp o x y M2 fun z M3 => (match z with
    | .bl b => k b M3
    | _ => False)
  | R, .chain o o' a b c, σ, M, k => semE R a σ M fun x M1 => semE R b σ M1 fun y M2 => zcmp o x y M2 fun z M3 => (match z with
    | .bl j => br j (semE R c σ M3 fun w M4 => zcmp o' y w M4 fun z M5 => (match z with
      | .bl b => k b M5
      | _ => False)) (k false M3)
    | _ => False)
def semBT : ZR → Bool → TL → Zs → Mh → (Bool → Mh → Prop) → Prop
  | R, _, .nil, _, _, _ => False
  | R, _, .cons e .nil, σ, M, k => semT R e σ M k
  | R, isAnd, .cons e (.cons f r), σ, M, k => semT R e σ M fun b M1 => (match isAnd with
      | true => br b (semBT R true (.cons f r) σ M1 k) (k false M1)
      | false => br b (k true M1) (semBT R false (.cons f r) σ M1 k))
/-- all tests of a comprehension -/
def semC : ZR → TL → Zs → Mh → (Bool → Mh → Prop) → Prop
  | R, .nil, _, M, k => k true M
  | R, .cons e _, σ, M, k => semT R e σ M k
def semI : ZR → It → Zs → Mh → ((Mh → Prop) → List PV → Mh → Prop) → Prop
  | R, .seq e, σ, M, k => semE R e σ M fun x M1 => (match x with
    | .tup xs => k (fun _ => True) xs M1
    | .lst xs => k (fun _ => True) xs M1
    | .scr xs => k (fun _ => True) xs M1
    | .ref p => ∃ xs, M1 p = some (.lst xs) ∧ k (fun M' => M' p = some (.lst xs)) xs M1
    | _ => False)
  | R, .range1 e, σ, M, k => semE R e σ M fun x M1 => (match x with
    | .int j => (-(2 ^ 62) ≤ j ∧ j < 2 ^ 62) ∧ k (fun _ => True) (rangeL 0 j.toNat) M1
    | _ => False)
  | R, .range2 a b, σ, M, k => semE R a σ M fun x M1 => semE R b σ M1 fun y M2 => (match x, y with
    | .int i, .int j => (-(2 ^ 62) ≤ i ∧ i < 2 ^ 62 ∧ -(2 ^ 62) ≤ j ∧ j < 2 ^ 62) ∧ k (fun _ => True) (rangeL i (j - i).toNat) M2
    | _, _ => False)
def semTg : ZR → Tg → PV → Zs → Mh → (Zs → Mh → Prop) → Prop
  | R, .name i, v, σ, M, k => k (σ.set i (some v)) M
  | R, .tup ts, v, σ, M, k => (match v with
    | .tup xs => xs.length = ts.len ∧ semTgs R ts xs σ M k
    | _ => False)
  | R, .sub o i, v, σ, M, k => semE R o σ M fun x M1 => semE R i σ M1 fun y M2 => (match x, y with
    | .ref p, .int j => ∃ xs n, M2 p = some (.lst xs) ∧ place xs.length j = some n ∧ k σ (put M2 p (.lst (xs.set n v)))
    | .ref p, .str s => ∃ ks xs m, M2 p = some (.dct ks xs) ∧ DSet ks xs (.inr s) v m ∧ k σ (put M2 p m)
    | _, _ => False)
  | R, .fld o c i, v, σ, M, k => semE R o σ M fun x M1 => (match x with
    | .ref p => ∃ fs, M1 p = some (.ins c fs) ∧ i < fs.length ∧ k σ (put M1 p (.ins c (fs.set i (some v))))
    | _ => False)
def semTgs : ZR → TgL → List PV → Zs → Mh → (Zs → Mh → Prop) → Prop
  | R, .nil, vs, σ, M, k => vs = [] ∧ k σ M
  | R, .cons t r, vs, σ, M, k => (match vs with
    | v :: us => semTg R t v σ M fun σ1 M1 => semTgs R r us σ1 M1 k
    | [] => False)
end
def whileN (c : Zs → Mh → (Bool → Mh → Prop) → Prop) (body : ZD → Zs → Mh → Prop) (D : ZD) : Nat → Zs → Mh → Prop
  | 0, _, _ => False
  | n + 1, σ, M => c σ M fun b M1 => br b (body { D with nx := whileN c body D n, ct := whileN c body D n, bk := D.nx } σ M1) (D.nx σ M1)
mutual
def semS : ZR → S → ZD → Zs → Mh → Prop
  | R, .asg t e, D, σ, M => semE Φ R e σ M fun x M1 => semTg Φ R t x σ M1 D.nx
  | R, .setc i fz own t it ifs elt, D, σ, M => semE Φ R (.comp fz own t it ifs elt) σ M fun x M1 => D.nx (σ.set i (some x)) M1
  | R, .par i j a b, D, σ, M => semE Φ R a σ M fun x M1 => semE Φ R b σ M1 fun y M2 => D.nx ((σ.set i (some x)).set j (some y)) M2
  | R, .fld o c i e, D, σ, M => semE Φ R e σ M fun y M1 => semE Φ R o σ M1 fun x M2 => (match x with
    | .ref p => ∃ fs, M2 p = some (.ins c fs) ∧ i < fs.length ∧ D.nx σ (put M2 p (.ins c (fs.set i (some y))))
    | _ => False)
  | R, .augsub o i op e, D, σ, M => semE Φ R o σ M fun x M1 => semE Φ R i σ M1 fun y M2 => (match x, y with
    | .ref p, .int j => ∃ xs z, M2 p = some (.lst xs) ∧ (0 ≤ j ∧ xs[j.toNat]? = some z) ∧ semE Φ R e σ M2 fun w M4 => zaug op z w M4 fun r M5 => ∃ ys, M5 p = some (.lst ys) ∧ j.toNat < ys.length ∧ D.nx σ (put M5 p (.lst (ys.set j.toNat r)))
    | _, _ => False)
  | R, .augvar i op e, D, σ, M => (match σ[i]? with
    | some (some x) => semE Φ R e σ M fun y M1 => zaug op x y M1 fun z M2 => D.nx (σ.set i (some z)) M2
    | _ => False)
  | R, .expr e, D, σ, M => semE Φ R e σ M fun _ M1 => D.nx σ M1
  | R, .ret e, D, σ, M => semE Φ R e σ M D.rt
  | R, .retN, D, _, M => D.rt .non M
  | R, .ife c a b, D, σ, M => semT Φ R c σ M fun k M1 => br k (semSs R a D σ M1) (semSs R b D σ M1)
  | R, .for_ t it b, D, σ, M => semI Φ R it σ M fun still xs M1 =>
      iter still (fun x σ' M' k => semTg Φ R t x σ' M' fun σ2 M2 => semSs R b { D with nx := k, ct := k, bk := D.nx } σ2 M2) D.nx xs σ M1
  | R, .while_ c b, D, σ, M => ∃ n, whileN (semT Φ R c) (fun D' σ' M' => semSs R b D' σ' M') D n σ M
  | R, .never, _, _, _ => False
  | R, .pass, D, σ, M => D.nx σ M
  | R, .brk, D, σ, M => D.bk σ M
  | R, .cont, D, σ, M => D.ct σ M
def semSs : ZR → SL → ZD → Zs → Mh → Prop
  | R, .nil, D, σ, M => D.nx σ M
  | R, .cons s r, D, σ, M => semS R s { D with nx := fun σ1 M1 => semSs R r D σ1 M1 } σ M
  | R, .frz i r, D, σ, M => (match σ[i]? with
    | some (some x) => zfrz x M fun y M1 => semSs R r D (σ.set i (some y)) M1
    | _ => False)
end
end
end Z
set_option Elab.async false
set_option linter.all false
set_option maxRecDepth 100000
set_option maxHeartbeats 4000000
namespace Z
open PySem PySem.Spec PyProof.Rows L2
/-! ### from the small heap to the layer's -/
section
variable (G : Cfg) (K : PySem.W.Frag)
structure RS (F : Hp) (σV : L2.St) (σ : Zs) : Prop where
  len : σV.length = σ.length
  at_ : ∀ (i : Nat) (p : PV), σ[i]? = some (some p) → ∃ v, σV[i]? = some (some v) ∧ RV G K F v p
abbrev TQ (F : Hp) (Q0 : ZQ) (Q : VK) : Prop := ∀ p M' F' H' v, Same F F' → Ab G K F' M' H' → RV G K F' v p → Q0 p M' → Q v H'
def liftE (z : Zs → Mh → ZQ → Prop) : TE := fun σV H Q => ∃ F σ M Q0, Ab G K F M H ∧ RS G K F σV σ ∧ z σ M Q0 ∧ TQ G K F Q0 Q
def liftT (z : Zs → Mh → (Bool → Mh → Prop) → Prop) : TT := fun σV H k => ∃ F σ M k0, Ab G K F M H ∧ RS G K F σV σ ∧ z σ M k0 ∧ ∀ b M' F' H', Same F F' → Ab G K F' M' H' → k0 b M' → k b H'
def liftA (n : Nat) (z : Zs → Mh → (List PV → Mh → Prop) → Prop) : TA := fun σV H Q => ∃ F σ M Q0, Ab G K F M H ∧ RS G K F σV σ ∧ z σ M Q0 ∧ ∀ ps M' F' H' vs, Same F F' → Ab G K F' M' H' → RVs G K F' vs ps → vs.length = n → Q0 ps M' → Q vs H'
structure DOk (F : Hp) (D0 : ZD) (D : Ends) : Prop where
  nx : ∀ σ M' F' H' σV, Same F F' → Ab G K F' M' H' → RS G K F' σV σ → D0.nx σ M' → D.nx σV H'
  rt : TQ G K F D0.rt D.rt
  bk : ∀ σ M' F' H' σV, Same F F' → Ab G K F' M' H' → RS G K F' σV σ → D0.bk σ M' → D.bk σV H'
  ct : ∀ σ M' F' H' σV, Same F F' → Ab G K F' M' H' → RS G K F' σV σ → D0.ct σ M' → D.ct σV H'
def liftS (z : ZD → Zs → Mh → Prop) : TS := fun D σV H => ∃ F σ M D0, Ab G K F M H ∧ RS G K F σV σ ∧ z D0 σ M ∧ DOk G K F D0 D
/-- an exception's class and fields -/
def XR (F : Hp) (cls : Value) (d : Option Addr) (x : XV) : Prop := ∃ nm lay, G.exc[x.c]? = some (nm, lay) ∧ cls = .ref (He.ga K nm) ∧
  ((lay = [] ∧ x.fs = []) ∨ ∃ dd vs, d = some dd ∧ F dd = some (.xd (lay.zip vs)) ∧ lay.length = vs.length ∧ RVs G K F vs x.fs)
def liftW (R : ZR) : WX := fun cls d σV H => ∃ F σ M x, Ab G K F M H ∧ RS G K F σV σ ∧ XR G K F cls d x ∧ R x σ M
/-- a promise over the small heap, as one over the layer's -/
def conc (sp : ZSp) : Sp := fun vs H Q E => ∃ F M ps Q0 X0, Ab G K F M H ∧ RVs G K F vs ps ∧ sp ps M Q0 X0 ∧ TQ G K F Q0 Q ∧ ∀ x M' F' H' cls d, Same F F' → Ab G K F' M' H' → XR G K F' cls d x → X0 x M' → E cls d H'
end
section
variable {G : Cfg} {K : PySem.W.Frag} {F F' : Hp} {σV : L2.St} {σ : Zs}
theorem RS.mono (s : Same F F') (r : RS G K F σV σ) : RS G K F' σV σ := ⟨r.len, fun i p h => let ⟨v, e, q⟩ := r.at_ i p h; ⟨v, e, q.mono s⟩⟩
theorem RS.set {i : Nat} {v : V} {p : PV} (r : RS G K F σV σ) (q : RV G K F v p) : RS G K F (σV.set i (some v)) (σ.set i (some p)) := by
  refine ⟨by rw [List.length_set, List.length_set]; exact r.len, fun j p' h => ?_⟩
  by_cases hij : i = j
  · subst hij
    have hi : i < σ.length := by
      by_cases hi : i < σ.length
      · exact hi
      · rw [List.getElem?_eq_none (by rw [List.length_set]; omega)] at h; cases h
    rw [List.getElem?_set_self hi] at h
    cases h
    exact ⟨v, List.getElem?_set_self (by rw [r.len]; exact hi), q⟩
  · rw [List.getElem?_set_ne hij] at h ⊢
    exact r.at_ j p' h
theorem RS.none {i : Nat} (r : RS G K F σV σ) : RS G K F (σV.set i none) (σ.set i none) := by
  refine ⟨by rw [List.length_set, List.length_set]; exact r.len, fun j p' h => ?_⟩
  by_cases hij : i = j
  · subst hij
    by_cases hi : i < σ.length
    · rw [List.getElem?_set_self hi] at h; cases h
    · rw [List.getElem?_eq_none (by rw [List.length_set]; omega)] at h; cases h
  · rw [List.getElem?_set_ne hij] at h ⊢
    exact r.at_ j p' h
theorem RS.wipe (r : RS G K F σV σ) : ∀ vs : List Nat, RS G K F (wipe σV vs) (wiped σ vs)
  | [] => r
  | v :: vs => (RS.wipe r vs).none
theorem TQ.mono {Q0 : ZQ} {Q : VK} (s : Same F F') (h : TQ G K F Q0 Q) : TQ G K F' Q0 Q := fun p M' F2 H' v s2 a r q => h p M' F2 H' v (s.trans s2) a r q
theorem DOk.mono {D0 : ZD} {D : Ends} (s : Same F F') (h : DOk G K F D0 D) : DOk G K F' D0 D :=
  ⟨fun σ M' F2 H' σV s2 a r q => h.nx σ M' F2 H' σV (s.trans s2) a r q, h.rt.mono s, fun σ M' F2 H' σV s2 a r q => h.bk σ M' F2 H' σV (s.trans s2) a r q, fun σ M' F2 H' σV s2 a r q => h.ct σ M' F2 H' σV (s.trans s2) a r q⟩
theorem liftW.at {R : ZR} {M : Mh} {H : Hp} {cls : Value} {d : Option Addr} {x : XV} (a : Ab G K F M H) (r : RS G K F σV σ) (q : XR G K F cls d x) (h : R x σ M) : liftW G K R cls d σV H := ⟨F, σ, M, x, a, r, q, h⟩
end
theorem peI {X : Cx} {e : Expr} {t t' : TE} (h : PE X e t) (i : ∀ σ H Q, t' σ H Q → t σ H Q) : PE X e t' := ⟨fun pins s σ H Q I q => h.run pins s σ H Q I (i σ H Q q)⟩
theorem ptI {X : Cx} {e : Expr} {t t' : TT} (h : PT X e t) (i : ∀ σ H Q, t' σ H Q → t σ H Q) : PT X e t' := ⟨fun pins s σ H Q I q => h.run pins s σ H Q I (i σ H Q q)⟩
theorem pwI {X : Cx} {e : Expr} {t t' : TT} (h : PW X e t) (i : ∀ σ H Q, t' σ H Q → t σ H Q) : PW X e t' := ⟨fun wh pins s σ H Q I q => h.run wh pins s σ H Q I (i σ H Q q)⟩
theorem paI {X : Cx} {e : List Expr} {t t' : TA} (h : PA X e t) (i : ∀ σ H Q, t' σ H Q → t σ H Q) : PA X e t' := ⟨fun p pins s σ H Q I q => h.run p pins s σ H Q I (i σ H Q q)⟩
theorem psI {X : Cx} {e : Stmt} {t t' : TS} (h : PS X e t) (i : ∀ D σ H, t' D σ H → t D σ H) : PS X e t' := ⟨fun pins s σ H D I q => h.run pins s σ H D I (i D σ H q)⟩
theorem pssI {X : Cx} {e : List Stmt} {t t' : TS} (h : PSs X e t) (i : ∀ D σ H, t' D σ H → t D σ H) : PSs X e t' := ⟨fun pins s σ H D I q => h.run pins s σ H D I (i D σ H q)⟩
/-! ### compositions -/
section
variable {G : Cfg} {X : Cx} {e : Expr} {za zb : Zs → Mh → ZQ → Prop}
/-- a value of no parts -/
theorem zcst {v : V} {p : PV} (h : PE X e (tC v)) (r : ∀ F, RV G X.K F v p) : PE X e (liftE G X.K fun _ M Q => Q p M) :=
  peI h fun σV H Q ⟨F, σ, M, Q0, a, rs, z, t⟩ => t p M F H v (Same.refl F) a (r F) z
theorem zun {r : V → Hp → VK → Prop} {o : PV → Mh → ZQ → Prop} (h : PE X e (tUn r (liftE G X.K za)))
    (s : ∀ F M H x p Q0 Q, Ab G X.K F M H → RV G X.K F x p → o p M Q0 → TQ G X.K F Q0 Q → r x H Q) : PE X e (liftE G X.K fun σ M Q => za σ M fun x M1 => o x M1 Q) :=
  peI h fun σV H Q ⟨F, σ, M, Q0, a, rs, z, t⟩ => ⟨F, σ, M, _, a, rs, z, fun p M1 F1 H1 v s1 a1 r1 q1 => s F1 M1 H1 v p Q0 Q a1 r1 q1 (t.mono s1)⟩
theorem zbin2 {r : R2} {o : PV → PV → Mh → ZQ → Prop} (h : PE X e (tOp r (liftE G X.K za) (liftE G X.K zb)))
    (s : ∀ F M H x y p q Q0 Q, Ab G X.K F M H → RV G X.K F x p → RV G X.K F y q → o p q M Q0 → TQ G X.K F Q0 Q → r x y H Q) : PE X e (liftE G X.K fun σ M Q => za σ M fun x M1 => zb σ M1 fun y M2 => o x y M2 Q) :=
  peI h fun σV H Q ⟨F, σ, M, Q0, a, rs, z, t⟩ => ⟨F, σ, M, _, a, rs, z, fun p M1 F1 H1 v s1 a1 r1 q1 => ⟨F1, σ, M1, _, a1, rs.mono s1, q1, fun q M2 F2 H2 w s2 a2 r2 q2 =>
    s F2 M2 H2 v w p q Q0 Q a2 (r1.mono s2) r2 q2 ((t.mono s1).mono s2)⟩⟩
/-- arguments, then something -/
theorem zargs {n : Nat} {zs : Zs → Mh → (List PV → Mh → Prop) → Prop} {r : List V → Hp → VK → Prop} {o : List PV → Mh → ZQ → Prop} (h : PE X e (tCB r (liftA G X.K n zs)))
    (s : ∀ F M H xs ps Q0 Q, Ab G X.K F M H → RVs G X.K F xs ps → xs.length = n → o ps M Q0 → TQ G X.K F Q0 Q → r xs H Q) : PE X e (liftE G X.K fun σ M Q => zs σ M fun vs M1 => o vs M1 Q) :=
  peI h fun σV H Q ⟨F, σ, M, Q0, a, rs, z, t⟩ => ⟨F, σ, M, _, a, rs, z, fun ps M1 F1 H1 vs s1 a1 r1 l1 q1 => s F1 M1 H1 vs ps Q0 Q a1 r1 l1 q1 (t.mono s1)⟩
end
/-! ### lists as they are read -/
section
variable {G : Cfg} {K : PySem.W.Frag} {F H : Hp} {M : Mh} {x : V} {p : PV}
theorem rdM_of (A : Ab G K F M H) (r : RV G K F x p) {k : List PV → Prop} (h : rdM M p k) : ∃ a vs xs, x = .ref a ∧ H a = some (.lst vs) ∧ RVs G K F vs xs ∧ k xs := by
  cases r with
  | lst hs rs => exact ⟨_, _, _, rfl, A.sub _ _ hs, rs, h⟩
  | ref a =>
    obtain ⟨xs, e, h⟩ := h
    obtain ⟨_, o, ho, vs, rfl, rs⟩ := A.mu a _ e
    exact ⟨a, vs, xs, rfl, ho, rs, h⟩
  | _ => exact False.elim h
theorem rdL_of (A : Ab G K F M H) (r : RV G K F x p) {k : List PV → Prop} (h : rdL M p k) : ∃ a vs xs, x = .ref a ∧ SqL K H a vs ∧ RVs G K F vs xs ∧ k xs := by
  cases r with
  | lst hs rs => exact ⟨_, _, _, rfl, SqL.of (A.sub _ _ hs), rs, h⟩
  | scr hs rs => exact ⟨_, _, _, rfl, Same.seq A.sub hs, rs, h⟩
  | ref a =>
    obtain ⟨xs, e, h⟩ := h
    obtain ⟨_, o, ho, vs, rfl, rs⟩ := A.mu a _ e
    exact ⟨a, vs, xs, rfl, SqL.of ho, rs, h⟩
  | _ => exact False.elim h
theorem rdS_of (A : Ab G K F M H) (r : RV G K F x p) {k : List PV → Prop} (h : rdS M p k) : ∃ a vs xs, x = .ref a ∧ (SqL K H a vs ∨ SqT K H a vs) ∧ RVs G K F vs xs ∧ k xs := by
  cases r with
  | lst hs rs => exact ⟨_, _, _, rfl, .inl (SqL.of (A.sub _ _ hs)), rs, h⟩
  | scr hs rs => exact ⟨_, _, _, rfl, .inl (Same.seq A.sub hs), rs, h⟩
  | tup hs rs => exact ⟨_, _, _, rfl, .inr (sameT A.sub hs), rs, h⟩
  | ref a =>
    obtain ⟨xs, e, h⟩ := h
    obtain ⟨_, o, ho, vs, rfl, rs⟩ := A.mu a _ e
    exact ⟨a, vs, xs, rfl, .inl (SqL.of ho), rs, h⟩
  | _ => exact False.elim h
end
end Z
set_option Elab.async false
set_option linter.all false
set_option maxRecDepth 100000
set_option maxHeartbeats 4000000
namespace Z
open PySem PySem.Spec PyProof.Rows L2
/-! ### data -/
mutual
def toD : PV → PyData
  | .non => .none
  | .bl b => .bool b
  | .int i => .int i
  | .str s => .str s
  | .tup xs => .tuple (toDs xs)
  | .lst xs => .list (toDs xs)
  | _ => .none
def toDs : List PV → List PyData
  | [] => []
  | x :: xs => toD x :: toDs xs
end
section
variable {G : Cfg} {K : PySem.W.Frag} {F H : Hp}
mutual
theorem dp_of (s : Same F H) : ∀ (n : Nat) (p : PV) (v : V), RV G K F v p → okD n p = true → Dp K H v (toD p)
  | _, .non, _, .non, _ => .non
  | _, .bl _, _, .bl b, _ => .bl b
  | _, .int _, _, .int i, _ => .int i
  | _, .str _, _, .str x, _ => .str x
  | n + 1, .tup xs, _, .tup h r, o => .tup (sameT s h) (dps_of s n xs _ r o)
  | n + 1, .lst xs, _, .lst h r, o => .lst (SqL.of (s _ _ h)) (dps_of s n xs _ r o)
  | 0, .tup _, _, _, o => by cases o
  | 0, .lst _, _, _, o => by cases o
  | _, .scr _, _, _, o => by simp [okD] at o
  | _, .dct _ _, _, _, o => by simp [okD] at o
  | _, .ins _ _, _, _, o => by simp [okD] at o
  | _, .ref _, _, _, o => by simp [okD] at o
  | _, .ty _, _, _, o => by simp [okD] at o
theorem dps_of (s : Same F H) : ∀ (n : Nat) (ps : List PV) (vs : List V), RVs G K F vs ps → okDs n ps = true → DpAll K H vs (toDs ps)
  | _, [], _, .nil, _ => .nil
  | n, p :: ps, _, .cons r t, o => by
    obtain ⟨o1, o2⟩ := Bool.and_eq_true_iff.mp (show (okD n p && okDs n ps) = true from o)
    exact .cons (dp_of s n p _ r o1) (dps_of s n ps _ t o2)
end
mutual
theorem lay_of : ∀ (n : Nat) (p : PV), okD n p = true → (toD p).canLay0 = true ∧ (toD p).depth ≤ n
  | _, .non, _ => ⟨rfl, Nat.zero_le _⟩
  | _, .bl _, _ => ⟨rfl, Nat.zero_le _⟩
  | _, .int _, _ => ⟨rfl, Nat.zero_le _⟩
  | _, .str _, o => ⟨o, Nat.zero_le _⟩
  | n + 1, .tup xs, o => by
    obtain ⟨a, b⟩ := lays_of n xs o
    exact ⟨a, Nat.succ_le_succ b⟩
  | n + 1, .lst xs, o => by
    obtain ⟨a, b⟩ := lays_of n xs o
    exact ⟨a, Nat.succ_le_succ b⟩
  | 0, .tup _, o => by cases o
  | 0, .lst _, o => by cases o
  | _, .scr _, o => by simp [okD] at o
  | _, .dct _ _, o => by simp [okD] at o
  | _, .ins _ _, o => by simp [okD] at o
  | _, .ref _, o => by simp [okD] at o
  | _, .ty _, o => by simp [okD] at o
theorem lays_of : ∀ (n : Nat) (ps : List PV), okDs n ps = true → PyData.canLayAll0 (toDs ps) = true ∧ PyData.depthAll (toDs ps) ≤ n
  | _, [], _ => ⟨rfl, Nat.zero_le _⟩
  | n, p :: ps, o => by
    obtain ⟨o1, o2⟩ := Bool.and_eq_true_iff.mp (show (okD n p && okDs n ps) = true from o)
    obtain ⟨a, b⟩ := lay_of n p o1
    obtain ⟨c, d⟩ := lays_of n ps o2
    exact ⟨Bool.and_eq_true_iff.mpr ⟨a, c⟩, Nat.max_le.mpr ⟨b, d⟩⟩
end
theorem shaped_of {n : Nat} {p : PV} (o : okD n p = true) (hn : n ≤ 60) : SeqAt.shaped (toD p) = true := by
  obtain ⟨a, b⟩ := lay_of n p o
  exact Bool.and_eq_true_iff.mpr ⟨a, decide_eq_true (by omega)⟩
theorem shapeds_of {n : Nat} {ps : List PV} (o : okDs n ps = true) (hn : n ≤ 60) : SeqAt.shaped (.list (toDs ps)) = true ∧ SeqAt.shaped (.tuple (toDs ps)) = true := by
  obtain ⟨a, b⟩ := lays_of n ps o
  exact ⟨Bool.and_eq_true_iff.mpr ⟨a, decide_eq_true (by show PyData.depthAll _ + 1 ≤ 64; omega)⟩, Bool.and_eq_true_iff.mpr ⟨a, decide_eq_true (by show PyData.depthAll _ + 1 ≤ 64; omega)⟩⟩
mutual
theorem peq_eqv : ∀ (n m : Nat) (p q : PV), okD n p = true → okD m q = true → PyData.eqv (toD p) (toD q) = peq p q
  | n, m, .tup xs, .tup ys, o1, o2 => by
    cases n with
    | zero => cases o1
    | succ n =>
      cases m with
      | zero => cases o2
      | succ m => exact peqs_eqv n m xs ys o1 o2
  | n, m, .lst xs, .lst ys, o1, o2 => by
    cases n with
    | zero => cases o1
    | succ n =>
      cases m with
      | zero => cases o2
      | succ m => exact peqs_eqv n m xs ys o1 o2
  | _, _, .non, .non, _, _ => rfl
  | _, _, .non, .bl _, _, _ => rfl
  | _, _, .non, .int _, _, _ => rfl
  | _, _, .non, .str _, _, _ => rfl
  | _, _, .non, .tup _, _, _ => rfl
  | _, _, .non, .lst _, _, _ => rfl
  | _, _, .bl _, .non, _, _ => rfl
  | _, _, .bl _, .bl _, _, _ => rfl
  | _, _, .bl _, .int _, _, _ => rfl
  | _, _, .bl _, .str _, _, _ => rfl
  | _, _, .bl _, .tup _, _, _ => rfl
  | _, _, .bl _, .lst _, _, _ => rfl
  | _, _, .int _, .non, _, _ => rfl
  | _, _, .int _, .bl _, _, _ => rfl
  | _, _, .int _, .int _, _, _ => rfl
  | _, _, .int _, .str _, _, _ => rfl
  | _, _, .int _, .tup _, _, _ => rfl
  | _, _, .int _, .lst _, _, _ => rfl
  | _, _, .str _, .non, _, _ => rfl
  | _, _, .str _, .bl _, _, _ => rfl
  | _, _, .str _, .int _, _, _ => rfl
  | _, _, .str _, .str _, _, _ => rfl
  | _, _, .str _, .tup _, _, _ => rfl
  | _, _, .str _, .lst _, _, _ => rfl
  | _, _, .tup _, .non, _, _ => rfl
  | _, _, .tup _, .bl _, _, _ => rfl
  | _, _, .tup _, .int _, _, _ => rfl
  | _, _, .tup _, .str _, _, _ => rfl
  | _, _, .tup _, .lst _, _, _ => rfl
  | _, _, .lst _, .non, _, _ => rfl
  | _, _, .lst _, .bl _, _, _ => rfl
  | _, _, .lst _, .int _, _, _ => rfl
  | _, _, .lst _, .str _, _, _ => rfl
  | _, _, .lst _, .tup _, _, _ => rfl
  | _, _, .scr _, _, o, _ => by simp [okD] at o
  | _, _, .dct _ _, _, o, _ => by simp [okD] at o
  | _, _, .ins _ _, _, o, _ => by simp [okD] at o
  | _, _, .ref _, _, o, _ => by simp [okD] at o
  | _, _, .ty _, _, o, _ => by simp [okD] at o
  | _, _, _, .scr _, _, o => by simp [okD] at o
  | _, _, _, .dct _ _, _, o => by simp [okD] at o
  | _, _, _, .ins _ _, _, o => by simp [okD] at o
  | _, _, _, .ref _, _, o => by simp [okD] at o
  | _, _, _, .ty _, _, o => by simp [okD] at o
theorem peqs_eqv : ∀ (n m : Nat) (ps qs : List PV), okDs n ps = true → okDs m qs = true → PyData.eqvAll (toDs ps) (toDs qs) = peqs ps qs
  | _, _, [], [], _, _ => rfl
  | _, _, [], _ :: _, _, _ => rfl
  | _, _, _ :: _, [], _, _ => rfl
  | n, m, p :: ps, q :: qs, o, u => by
    obtain ⟨o1, o2⟩ := Bool.and_eq_true_iff.mp (show (okD n p && okDs n ps) = true from o)
    obtain ⟨u1, u2⟩ := Bool.and_eq_true_iff.mp (show (okD m q && okDs m qs) = true from u)
    show (PyData.eqv (toD p) (toD q) && PyData.eqvAll (toDs ps) (toDs qs)) = (peq p q && peqs ps qs)
    rw [peq_eqv n m p q o1 u1, peqs_eqv n m ps qs o2 u2]
end
theorem any_eqv {n m : Nat} {q : PV} (u : okD m q = true) : ∀ ps : List PV, okDs n ps = true → ((toDs ps).any fun z => PyData.eqv z (toD q)) = ps.any fun z => peq z q
  | [], _ => rfl
  | p :: ps, o => by
    obtain ⟨o1, o2⟩ := Bool.and_eq_true_iff.mp (show (okD n p && okDs n ps) = true from o)
    show (PyData.eqv (toD p) (toD q) || (toDs ps).any fun z => PyData.eqv z (toD q)) = (peq p q || ps.any fun z => peq z q)
    rw [peq_eqv n m p q o1 u, any_eqv u ps o2]
/-- what is compared -/
theorem asD_of {M : Mh} {x : V} {p : PV} {k : PV → Prop} (A : Ab G K F M H) (r : RV G K F x p) (h : asD M p k) : ∃ p', k p' ∧ ∀ n, okD n p' = true → Dp K H x (toD p') := by
  cases r with
  | ref a =>
    obtain ⟨xs, e, h⟩ := h
    obtain ⟨_, o, ho, vs, rfl, rs⟩ := A.mu a _ e
    refine ⟨_, h, fun n o => ?_⟩
    cases n with
    | zero => cases o
    | succ n => exact .lst (SqL.of ho) (dps_of A.sub n xs vs rs o)
  | non => exact ⟨_, h, fun n o => dp_of (G := G) A.sub n _ _ .non o⟩
  | bl b => exact ⟨_, h, fun n o => dp_of (G := G) A.sub n _ _ (.bl b) o⟩
  | int i => exact ⟨_, h, fun n o => dp_of (G := G) A.sub n _ _ (.int i) o⟩
  | str s => exact ⟨_, h, fun n o => dp_of (G := G) A.sub n _ _ (.str s) o⟩
  | tup h1 h2 => exact ⟨_, h, fun n o => dp_of (G := G) A.sub n _ _ (.tup h1 h2) o⟩
  | lst h1 h2 => exact ⟨_, h, fun n o => dp_of (G := G) A.sub n _ _ (.lst h1 h2) o⟩
  | scr h1 h2 => exact ⟨_, h, fun n o => by simp [okD] at o⟩
  | dct h1 h2 h3 => exact ⟨_, h, fun n o => by simp [okD] at o⟩
  | ins h1 h2 h3 h4 h5 h6 => exact ⟨_, h, fun n o => by simp [okD] at o⟩
  | ty n => exact ⟨_, h, fun n o => by simp [okD] at o⟩
  | xv0 => exact ⟨_, h, fun n o => by simp [okD] at o⟩
  | xv1 h1 h2 h3 => exact ⟨_, h, fun n o => by simp [okD] at o⟩
end
/-! ### operators -/
def BOp.op : BOp → Operator
  | .add => .Add | .sub => .Sub | .mul => .Mult | .mod => .Mod | .fdiv => .FloorDiv | .pow => .Pow
def COp.op : COp → CmpOp
  | .eq => .Eq | .ne => .NotEq | .lt => .Lt | .le => .LtE | .gt => .Gt | .ge => .GtE | .is_ => .Is | .isnot => .IsNot | .in_ => .In | .notin => .NotIn
theorem opr_or {X : Cx} {f : Value → Value → Sem Value} {r1 r2 : R2} (h1 : OpR X f r1) (h2 : OpR X f r2) : OpR X f fun x y H Q => r1 x y H Q ∨ r2 x y H Q :=
  fun pins s σ H x y v u Q I rx ry h => h.elim (fun h => h1 pins s σ H x y v u Q I rx ry h) fun h => h2 pins s σ H x y v u Q I rx ry h
abbrev SndO (G : Cfg) (X : Cx) (r : R2) (o : PV → PV → Mh → ZQ → Prop) : Prop := ∀ F M H x y p q Q0 Q, Ab G X.K F M H → RV G X.K F x p → RV G X.K F y q → o p q M Q0 → TQ G X.K F Q0 Q → r x y H Q
section
variable {G : Cfg} {X : Cx}
theorem snd_int {g : Int → Int → PV} {g' : Int → Int → V} {C : Int → Int → Prop} (hg : ∀ F i j, RV G X.K F (g' i j) (g i j)) {o : PV → PV → Mh → ZQ → Prop}
    (ho : ∀ p q M Q0, o p q M Q0 → ∃ i j, p = .int i ∧ q = .int j ∧ C i j ∧ Q0 (g i j) M) : SndO G X (rI C g') o := fun F M H x y p q Q0 Q A rx ry h t => by
  obtain ⟨i, j, rfl, rfl, c, h⟩ := ho p q M Q0 h
  cases rx
  cases ry
  exact ⟨i, j, rfl, rfl, c, t _ M F H _ (Same.refl F) A (hg F i j) h⟩
/-- tuple * 0, tuple * 1 -/
theorem tuple_mul1 (l : Addr) (items : Array Value) (n : Nat) (dd : Option Addr) (sl : Array (Option Value)) (u : Tok) :
    Meets (Builtin.«tuple.__mul__» ⟨[.ref l, .int 1 u], []⟩) (fun _ R s => s.heap.get? l = some { cls := .type "tuple", dict := dd, data := .seq items n, slots := sl } ∧ R (.ok (.ret (Value.ref l))) s) :=
  .of_wp fun prog w A R s h => by
    obtain ⟨hp, g, d, tk, os⟩ := s
    obtain ⟨hl, h⟩ := h
    have f1 := AutoSeq1.idx_int
    wp_walk using wpAny_loadPart' hl
    repeat (first
      | (refine wpAny_ite_false (decide_eq_false (by decide)) ?_; wp_walk using wpAny_loadPart' hl)
      | (refine wpAny_ite_true (decide_eq_true (by simp)) ?_; wp_walk using wpAny_loadPart' hl))
    exact ⟨_, rfl, h⟩
theorem tuple_mul0 (l : Addr) (items : Array Value) (n : Nat) (dd : Option Addr) (sl : Array (Option Value)) (u : Tok) (hi : items.isEmpty = false) :
    Meets (Builtin.«tuple.__mul__» ⟨[.ref l, .int 0 u], []⟩) (fun _ R s => s.heap.get? l = some { cls := .type "tuple", dict := dd, data := .seq items n, slots := sl } ∧
      R (.ok (.ret (Value.ref s.heap.objs.size))) { s with heap := s.heap.push { cls := Value.type "tuple", data := Data.seq #[] }, toks := s.toks }) :=
  .of_wp fun prog w A R s h => by
    obtain ⟨hp, g, d, tk, os⟩ := s
    obtain ⟨hl, h⟩ := h
    have f1 := AutoSeq1.idx_int
    wp_walk using wpAny_loadPart' hl
    repeat (first
      | (refine wpAny_ite_false (decide_eq_false (by decide)) ?_; wp_walk using wpAny_loadPart' hl)
      | (refine wpAny_ite_false (decide_eq_false (by simp [hi])) ?_; wp_walk using wpAny_loadPart' hl)
      | (refine wpAny_ite_true (decide_eq_true (by simp)) ?_; wp_walk using wpAny_loadPart' hl))
    exact ⟨_, rfl, h⟩
section
open PySem.F
def rRepA (K : PySem.W.Frag) : R2 := fun x y H Q => ∃ l k xs, x = .ref l ∧ y = .int k ∧ SqT K H l xs ∧ xs ≠ [] ∧ 0 ≤ k ∧ k ≤ 1000 ∧ xs.length ≤ 1000 ∧ (k = 1 → Q (.ref l) H) ∧ (k ≠ 1 → ∀ p, H p = none → Q (.ref p) (upd H p (.tup (List.replicate k.toNat xs).flatten)))
theorem op_repA {X : Cx} : OpR X (binaryOp .Mult) (rRepA X.K) := by
  intro pins s σ H x y v u Q I rx ry h
  obtain ⟨l, k, xs, rfl, rfl, hT, hne, h1, h2, hz, q1, q2⟩ := h
  by_cases hk : 2 ≤ k
  · exact op_repT pins s σ H _ _ v u Q I rx ry ⟨l, k, xs, rfl, rfl, hT, hne, hk, h2, hz, q2 (by omega)⟩
  cases rx
  obtain ⟨t, rfl⟩ := ry
  obtain ⟨its, r, ⟨⟨cls, dd, data, sl⟩, ho, hc, n, hd⟩, hs⟩ := I.tuple hT
  simp only at hc hd
  subst hc hd
  have hle : its.length = xs.length := r.length.symm
  have hn : its ≠ [] := fun e => hne (by
    rw [e] at hle
    exact List.eq_nil_of_length_eq_zero hle.symm)
  have hi : its.toArray.isEmpty = false := by
    cases its with
    | nil => exact absurd rfl hn
    | cons a b => rfl
  by_cases e1 : k = 1
  · subst e1
    refine wpAny_binaryOp_repeat_ref (T := "tuple") (U := "int") (by decide) ⟨_, ho, rfl⟩ (fun s' => typeIs_int s' 1 t) noFill_tuple_mul F.fills_int_mul F.slot_int_rmul repeat_tuple F.slot_int_index.lookup
      (call_meets F.slot_int_rmul (typeIs_int s 1 t) F.entry_int_rmul (F.args_int_rmul_2 _ _) (int_rmul_tuple 1 t l its.toArray n dd sl)
        ⟨ho, rfl, ⟨_, ho, rfl⟩, call_meets F.slot_tuple_mul ⟨_, ho, rfl⟩ F.entry_tuple_mul (F.args_tuple_mul_2 _ _) (tuple_mul1 l its.toArray n dd sl t) ⟨ho, ?_⟩⟩)
    exact ⟨.ref l, H, I, rfl, q1 rfl⟩
  · obtain rfl : k = 0 := by omega
    refine wpAny_binaryOp_repeat_ref (T := "tuple") (U := "int") (by decide) ⟨_, ho, rfl⟩ (fun s' => typeIs_int s' 0 t) noFill_tuple_mul F.fills_int_mul F.slot_int_rmul repeat_tuple F.slot_int_index.lookup
      (call_meets F.slot_int_rmul (typeIs_int s 0 t) F.entry_int_rmul (F.args_int_rmul_2 _ _) (int_rmul_tuple 0 t l its.toArray n dd sl)
        ⟨ho, rfl, ⟨_, ho, rfl⟩, call_meets F.slot_tuple_mul ⟨_, ho, rfl⟩ F.entry_tuple_mul (F.args_tuple_mul_2 _ _) (tuple_mul0 l its.toArray n dd sl t hi) ⟨ho, ?_⟩⟩)
    refine ⟨.ref s.heap.objs.size, _, I.laid (t' := s.toks) (o := .tup []) (fun b ob q => Heap.get?_push_of_some _ q) (Nat.le_refl _) ?_, rfl, q2 (by decide) _ (I.hok.fresh (Nat.le_refl _))⟩
    exact ⟨by rw [sizeLine_eq]; decide, _, .nil, IsTup.new _ _⟩
end
theorem snd_bin (o : BOp) : ∃ r, OpR X (binaryOp o.op) r ∧ SndO G X r (zbin o) := by
  have ii : ∀ {C : Int → Int → Prop} {f : Int → Int → Int} {o : BOp}, (∀ p q M Q0, zbin o p q M Q0 → ∃ i j, p = .int i ∧ q = .int j ∧ C i j ∧ Q0 (.int (f i j)) M) → SndO G X (rI C fun i j => .int (f i j)) (zbin o) :=
    fun {C f o} h => snd_int (g := fun i j => .int (f i j)) (fun F i j => .int _) h
  cases o with
  | add =>
    refine ⟨_, opr_or op_add (opr_or op_catA op_add_str), fun F M H x y p q Q0 Q A rx ry h t => ?_⟩
    cases rx with
    | int i =>
      cases ry with
      | int j => exact .inl ⟨i, j, rfl, rfl, t _ M F H _ (Same.refl F) A (.int _) h⟩
      | _ => exact False.elim h
    | tup h1 r1 =>
      cases ry with
      | tup h2 r2 =>
        obtain ⟨hz, h⟩ := h
        refine .inr <| .inl ⟨_, _, _, _, rfl, rfl, sameT A.sub h1, sameT A.sub h2, by rw [r1.length, r2.length]; exact hz, fun e => ?_, fun _ e => ?_, fun _ _ l hl => ?_⟩
        · subst e
          cases r1
          exact t _ M F H _ (Same.refl F) A (.tup h2 r2) h
        · subst e
          cases r2
          rw [List.append_nil] at h
          exact t _ M F H _ (Same.refl F) A (.tup h1 r1) h
        · obtain ⟨A', s'⟩ := A.newF (p := l) (o := .tup (_ ++ _)) hl
          exact t _ M _ _ _ s' A' (.tup (SqT.of upd_same) ((r1.append r2).mono s')) h
      | _ => exact False.elim h
    | str a =>
      cases ry with
      | str b => exact .inr <| .inr ⟨a, b, rfl, rfl, h.1, t _ M F H _ (Same.refl F) A (.str _) h.2⟩
      | _ => exact False.elim h
    | _ => cases ry <;> exact False.elim h
  | sub =>
    refine ⟨_, op_sub, fun F M H x y p q Q0 Q A rx ry h t => ?_⟩
    cases rx with
    | int i =>
      cases ry with
      | int j => exact ⟨i, j, rfl, rfl, t _ M F H _ (Same.refl F) A (.int _) h⟩
      | _ => exact False.elim h
    | _ => cases ry <;> exact False.elim h
  | mul =>
    refine ⟨_, opr_or op_mul op_repA, fun F M H x y p q Q0 Q A rx ry h t => ?_⟩
    cases rx with
    | int i =>
      cases ry with
      | int j => exact .inl ⟨i, j, rfl, rfl, h.1, t _ M F H _ (Same.refl F) A (.int _) h.2⟩
      | _ => exact False.elim h
    | @tup a vs xs h1 r1 =>
      cases ry with
      | int k =>
        obtain ⟨⟨g1, g2, g3, g4⟩, h⟩ := h
        refine .inr ⟨_, k, _, rfl, rfl, sameT A.sub h1, fun e => ?_, g3, g4, by rw [r1.length]; exact g2, fun e => ?_, fun _ p hp => ?_⟩
        · subst e; cases r1; exact g1 rfl
        · subst e
          have e2 : (List.replicate (1 : Int).toNat xs).flatten = xs := by show (List.replicate 1 xs).flatten = xs; simp
          rw [e2] at h
          exact t _ M F H _ (Same.refl F) A (.tup h1 r1) h
        · obtain ⟨A', s'⟩ := A.newF (p := p) (o := .tup (List.replicate k.toNat vs).flatten) hp
          exact t _ M _ _ _ s' A' (.tup (SqT.of upd_same) ((RVs'.rep r1 k.toNat).mono s')) h
      | _ => exact False.elim h
    | _ => cases ry <;> exact False.elim h
  | mod =>
    refine ⟨_, op_mod, fun F M H x y p q Q0 Q A rx ry h t => ?_⟩
    cases rx with
    | int i =>
      cases ry with
      | int j => exact ⟨i, j, rfl, rfl, h.1, t _ M F H _ (Same.refl F) A (.int _) h.2⟩
      | _ => exact False.elim h
    | _ => cases ry <;> exact False.elim h
  | fdiv =>
    refine ⟨_, op_fdivW, fun F M H x y p q Q0 Q A rx ry h t => ?_⟩
    cases rx with
    | int i =>
      cases ry with
      | int j =>
        obtain ⟨⟨h1, h2⟩, h⟩ := h
        exact ⟨i, j, rfl, rfl, wide_div (b := 200) h1 (by
          have e : j.natAbs < 100000000000000000000000000000000000000000000000000 := by omega
          exact Nat.lt_of_lt_of_le e (by decide)) (by decide) (by decide), t _ M F H _ (Same.refl F) A (.int _) h⟩
      | _ => exact False.elim h
    | _ => cases ry <;> exact False.elim h
  | pow =>
    refine ⟨_, op_pow, fun F M H x y p q Q0 Q A rx ry h t => ?_⟩
    cases rx with
    | int i =>
      cases ry with
      | int j => exact ⟨i, j, rfl, rfl, h.1, t _ M F H _ (Same.refl F) A (.int _) h.2⟩
      | _ => exact False.elim h
    | _ => cases ry <;> exact False.elim h
end
end Z
set_option Elab.async false
set_option linter.all false
set_option maxRecDepth 100000
set_option maxHeartbeats 4000000
namespace Z
open PySem PySem.Spec PyProof.Rows L2
/-! ### dicts by their keys -/
theorem valV_zip : ∀ {ks : List Key} {vs : List V} (k : Key), ks.length = vs.length → valV (ks.zip vs) k = (keyIx ks k).bind fun i => vs[i]?
  | [], [], _, _ => rfl
  | [], _ :: _, _, h => by cases h
  | _ :: _, [], _, h => by cases h
  | a :: ks, v :: vs, k, h => by
    have ih := valV_zip (ks := ks) (vs := vs) k (by simpa using h)
    unfold valV at ih ⊢
    rw [List.zip_cons_cons, List.find?_cons]
    unfold keyIx
    by_cases e : a = k
    · simp [e]
    · simp only [decide_eq_false e, if_neg e]
      rw [ih]
      cases keyIx ks k with
      | none => rfl
      | some i => simp
theorem keyIx_lt : ∀ {ks : List Key} {k : Key} {i : Nat}, keyIx ks k = some i → i < ks.length
  | [], _, _, h => by cases h
  | a :: ks, k, i, h => by
    unfold keyIx at h
    by_cases e : a = k
    · rw [if_pos e] at h; cases h; exact Nat.zero_lt_succ _
    · rw [if_neg e] at h
      cases q : keyIx ks k with
      | none => rw [q] at h; cases h
      | some j =>
        rw [q] at h
        have := keyIx_lt q
        cases h
        exact Nat.succ_lt_succ this
theorem valV_isSome {ks : List Key} {vs : List V} (k : Key) (h : ks.length = vs.length) : (valV (ks.zip vs) k).isSome = (keyIx ks k).isSome := by
  rw [valV_zip k h]
  cases q : keyIx ks k with
  | none => rfl
  | some i =>
    have := keyIx_lt q
    show (vs[i]?).isSome = true
    rw [List.getElem?_eq_getElem (by omega)]
    rfl
theorem put_zip_none : ∀ {ks : List Key} {vs : List V} {k : Key} {v : V}, keyIx ks k = none → ((ks.zip vs).any fun kv => decide (kv.1 = k)) = false ∧ (ks.zip vs).map (fun kv => if kv.1 = k then (kv.1, v) else kv) = ks.zip vs
  | [], _, _, _, _ => ⟨rfl, rfl⟩
  | _ :: _, [], _, _, _ => ⟨rfl, rfl⟩
  | a :: ks, u :: vs, k, v, h => by
    unfold keyIx at h
    by_cases e : a = k
    · rw [if_pos e] at h; cases h
    · rw [if_neg e] at h
      have h' : keyIx ks k = none := by
        cases q : keyIx ks k with
        | none => rfl
        | some j => rw [q] at h; cases h
      obtain ⟨i1, i2⟩ := put_zip_none (vs := vs) (v := v) h'
      rw [List.zip_cons_cons, List.any_cons, List.map_cons, i1, i2]
      simp only [decide_eq_false e, Bool.or_false]
      rw [if_neg e]
      exact ⟨by first | rfl | trivial, rfl⟩
theorem put_zip_some : ∀ {ks : List Key} {vs : List V} {k : Key} {v : V} {i : Nat}, ks.length = vs.length → keyIx ks k = some i → keyIx (ks.drop (i + 1)) k = none → ((ks.zip vs).any fun kv => decide (kv.1 = k)) = true ∧ (ks.zip vs).map (fun kv => if kv.1 = k then (kv.1, v) else kv) = ks.zip (vs.set i v)
  | [], _, _, _, _, _, h, _ => by cases h
  | _ :: _, [], _, _, _, h, _, _ => by cases h
  | a :: ks, u :: vs, k, v, i, hl, h, h2 => by
    unfold keyIx at h
    rw [List.zip_cons_cons, List.any_cons, List.map_cons]
    by_cases e : a = k
    · rw [if_pos e] at h
      cases h
      obtain ⟨i1, i2⟩ := put_zip_none (vs := vs) (v := v) (show keyIx ks k = none from h2)
      rw [i1, i2, if_pos e]
      simp only [decide_eq_true e, Bool.true_or]
      exact ⟨by first | rfl | trivial, rfl⟩
    · rw [if_neg e] at h
      cases q : keyIx ks k with
      | none => rw [q] at h; cases h
      | some j =>
        rw [q] at h
        cases h
        obtain ⟨i1, i2⟩ := put_zip_some (vs := vs) (v := v) (by simpa using hl) q h2
        rw [i1, i2, if_neg e, Bool.or_true]
        exact ⟨by first | rfl | trivial, rfl⟩
theorem putK_old {ks : List Key} {vs : List V} {k : Key} {v : V} {i : Nat} (hl : ks.length = vs.length) (h : keyIx ks k = some i) (h2 : keyIx (ks.drop (i + 1)) k = none) : putK (ks.zip vs) k v = ks.zip (vs.set i v) := by
  obtain ⟨i1, i2⟩ := put_zip_some (v := v) hl h h2
  unfold putK
  rw [if_pos i1, i2]
theorem putK_zn {ks : List Key} {vs : List V} {k : Key} {v : V} (hl : ks.length = vs.length) (h : keyIx ks k = none) : putK (ks.zip vs) k v = (ks ++ [k]).zip (vs ++ [v]) := by
  obtain ⟨i1, _⟩ := put_zip_none (vs := vs) (v := v) h
  unfold putK
  rw [if_neg (by rw [i1]; decide), List.zip_append hl]
  rfl
section
variable {G : Cfg} {X : Cx}
theorem op_din (hu : X.A.units + 1 < cLine) : OpR X (compareOp .In) fun y x H Q => ∃ a o, x = .ref a ∧ DGet H a y o ∧ Q (.bl o.isSome) H := fun pins s σ H y x u v Q I ry rx h => by
  obtain ⟨a, o, rfl, g, q⟩ := h
  cases rx
  exact d_in hu I g ry fun s3 I3 => ⟨.bl o.isSome, H, I3, rfl, q⟩
theorem op_dnotin (hu : X.A.units + 1 < cLine) : OpR X (compareOp .NotIn) fun y x H Q => ∃ a o, x = .ref a ∧ DGet H a y o ∧ Q (.bl (!o.isSome)) H := fun pins s σ H y x u v Q I ry rx h => by
  obtain ⟨a, o, rfl, g, q⟩ := h
  cases rx
  exact d_notIn hu I g ry fun s3 I3 => ⟨.bl (!o.isSome), H, I3, rfl, q⟩
theorem op_inT (hu : X.A.units + 65 < cLine) (no : Bool) : OpR X (compareOp (if no then .NotIn else .In)) fun x y H Q => ∃ d ds, Dp X.K H x d ∧ Dp X.K H y (.tuple ds) ∧ SeqAt.shaped d = true ∧ SeqAt.shaped (.list ds) = true ∧ SeqAt.shaped (.tuple ds) = true ∧
    Q (.bl (if no then !ds.any fun z => PyData.eqv z d else ds.any fun z => PyData.eqv z d)) H := fun pins s σ H x y v u Q I rx ry h => by
  obtain ⟨d, ds, hd, he, sd, se, _, q⟩ := h
  obtain ⟨as, r1⟩ := Dp.reads I d x v hd rx
  obtain ⟨bs, r2⟩ := Dp.reads I (.tuple ds) y u he ry
  cases no with
  | true => exact SeqAt.notIn_tuple_reads r2 r1 (SeqAt.canLay_of_shaped se) (SeqAt.canLay_of_shaped sd) (room_in_shaped sd hu) ⟨.bl _, H, I, rfl, q⟩
  | false => exact SeqAt.in_tuple_reads r2 r1 (SeqAt.canLay_of_shaped se) (SeqAt.canLay_of_shaped sd) (room_in_shaped sd hu) ⟨.bl _, H, I, rfl, q⟩
/-- in: a dict's key, an item of a list or a tuple -/
theorem snd_in (hu : X.A.units + 65 < cLine) (no : Bool) : ∃ r, OpR X (compareOp (if no then .NotIn else .In)) r ∧ SndO G X r (zcmp (if no then .notin else .in_)) := by
  have hd : ∃ r, OpR X (compareOp (if no then .NotIn else .In)) r ∧ ∀ y x H Q a o, x = V.ref a → DGet H a y o → Q (.bl (if no then !o.isSome else o.isSome)) H → r y x H Q := by
    cases no with
    | true => exact ⟨_, op_dnotin (by omega), fun y x H Q a o e g q => ⟨a, o, e, g, q⟩⟩
    | false => exact ⟨_, op_din (by omega), fun y x H Q a o e g q => ⟨a, o, e, g, q⟩⟩
  have hl : ∃ r, OpR X (compareOp (if no then .NotIn else .In)) r ∧ ∀ x y H Q d ds, Dp X.K H x d → Dp X.K H y (.list ds) → SeqAt.shaped d = true → SeqAt.shaped (.list ds) = true →
      Q (.bl (if no then !ds.any fun z => PyData.eqv z d else ds.any fun z => PyData.eqv z d)) H → r x y H Q := by
    cases no with
    | true => exact ⟨_, op_notInD hu, fun x y H Q d ds h1 h2 h3 h4 q => ⟨d, ds, h1, h2, h3, h4, q⟩⟩
    | false => exact ⟨_, op_inD hu, fun x y H Q d ds h1 h2 h3 h4 q => ⟨d, ds, h1, h2, h3, h4, q⟩⟩
  have ht : ∃ r, OpR X (compareOp (if no then .NotIn else .In)) r ∧ ∀ x y H Q d ds, Dp X.K H x d → Dp X.K H y (.tuple ds) → SeqAt.shaped d = true → SeqAt.shaped (.list ds) = true → SeqAt.shaped (.tuple ds) = true →
      Q (.bl (if no then !ds.any fun z => PyData.eqv z d else ds.any fun z => PyData.eqv z d)) H → r x y H Q := ⟨_, op_inT hu no, fun x y H Q d ds h1 h2 h3 h4 h5 q => ⟨d, ds, h1, h2, h3, h4, h5, q⟩⟩
  obtain ⟨r1, o1, d1⟩ := hd
  obtain ⟨r2, o2, d2⟩ := hl
  obtain ⟨r3, o3, d3⟩ := ht
  refine ⟨_, opr_or o1 (opr_or o2 o3), fun F M H x y p q Q0 Q A rx ry h t => ?_⟩
  have fin : ∀ b, Q0 (.bl b) M → Q (.bl b) H := fun b z => t _ M F H _ (Same.refl F) A (.bl b) z
  have key : ∀ {a : Addr} {ks : List Key} {vs : List V} (k : Key), F a = some (.dK (ks.zip vs)) → ks.length = vs.length → Q0 (.bl (if no then !(keyIx ks k).isSome else (keyIx ks k).isSome)) M → r1 (kV k) (.ref a) H Q := fun {a ks vs} k e l z => by
    refine d1 _ _ H Q a _ rfl (DGet.k (A.sub _ _ e)) ?_
    rw [valV_isSome k l]
    cases no <;> exact fin _ z
  have seqs : ∀ {n : Nat} {ps : List PV}, okD n p = true → n ≤ 60 → okDs 40 ps = true → (Dp X.K H y (.list (toDs ps)) ∨ Dp X.K H y (.tuple (toDs ps))) →
      Q0 (.bl (if no then !ps.any fun z => peq z p else ps.any fun z => peq z p)) M → (r1 x y H Q ∨ r2 x y H Q ∨ r3 x y H Q) := fun {n ps} o1 hn o2 hy z => by
    have hx : Dp X.K H x (toD p) := dp_of (G := G) A.sub n p x rx o1
    have e := any_eqv o1 ps o2
    obtain ⟨s1, s2⟩ := shapeds_of o2 (by omega)
    rcases hy with hy | hy
    · refine .inr (.inl (d2 x y H Q _ _ hx hy (shaped_of o1 hn) s1 ?_))
      rw [e]; cases no <;> exact fin _ z
    · refine .inr (.inr (d3 x y H Q _ _ hx hy (shaped_of o1 hn) s1 s2 ?_))
      rw [e]; cases no <;> exact fin _ z
  have seqs' : ∀ {n : Nat} {ps : List PV}, (okD n p = true ∧ okDs 40 ps = true) ∧ Q0 (.bl (if no then !ps.any fun z => peq z p else ps.any fun z => peq z p)) M → n ≤ 60 → (Dp X.K H y (.list (toDs ps)) ∨ Dp X.K H y (.tuple (toDs ps))) → (r1 x y H Q ∨ r2 x y H Q ∨ r3 x y H Q) :=
    fun {n ps} h hn hy => seqs h.1.1 hn h.1.2 hy h.2
  cases ry with
  | dct e l rs =>
    cases rx with
    | str z => exact .inl (key (.inr z) e l (by cases no <;> exact h))
    | int i => exact .inl (key (.inl i) e l (by cases no <;> exact h))
    | _ => cases no <;> exact False.elim h
  | @tup a vs xs hq rs =>
    have h' : (okD 40 p = true ∧ okDs 40 xs = true) ∧ Q0 (.bl (if no then !xs.any fun z => peq z p else xs.any fun z => peq z p)) M := by cases no <;> exact h
    exact seqs' (n := 40) h' (by decide) (.inr (.tup (sameT A.sub hq) (dps_of A.sub 40 _ _ rs h'.1.2)))
  | @lst a vs xs hq rs =>
    have h' : (okD 40 p = true ∧ okDs 40 xs = true) ∧ Q0 (.bl (if no then !xs.any fun z => peq z p else xs.any fun z => peq z p)) M := by cases no <;> exact h
    exact seqs' (n := 40) h' (by decide) (.inl (.lst (SqL.of (A.sub _ _ hq)) (dps_of A.sub 40 _ _ rs h'.1.2)))
  | @scr a vs xs hq rs =>
    have h' : (okD 40 p = true ∧ okDs 40 xs = true) ∧ Q0 (.bl (if no then !xs.any fun z => peq z p else xs.any fun z => peq z p)) M := by cases no <;> exact h
    exact seqs' (n := 40) h' (by decide) (.inl (.lst (Same.seq A.sub hq) (dps_of A.sub 40 _ _ rs h'.1.2)))
  | ref a =>
    have h0 : ∃ ys, M a = some (.lst ys) ∧ (okD 40 p = true ∧ okDs 40 ys = true) ∧ Q0 (.bl (if no then !ys.any fun z => peq z p else ys.any fun z => peq z p)) M := by cases no <;> exact h
    obtain ⟨ys, e, h'⟩ := h0
    obtain ⟨_, o, ho, vs, rfl, rs⟩ := A.mu a _ e
    exact seqs' (n := 40) h' (by decide) (.inl (.lst (SqL.of ho) (dps_of A.sub 40 _ _ rs h'.1.2)))
  | _ => cases no <;> exact False.elim h
mutual
theorem alike_of : ∀ (p q : PV), palike p q = true → PySem.W.alike (toD p) (toD q) = true
  | .int _, q, h => by
    cases q with
    | int _ => rfl
    | _ => cases h
  | .str _, q, h => by
    cases q with
    | str _ => rfl
    | _ => cases h
  | .tup xs, q, h => by
    cases q with
    | tup ys => exact alikes_of xs ys h
    | _ => cases h
  | .non, q, h => by cases q <;> cases h
  | .bl _, q, h => by cases q <;> cases h
  | .lst _, q, h => by cases q <;> cases h
  | .scr _, q, h => by cases q <;> cases h
  | .dct _ _, q, h => by cases q <;> cases h
  | .ins _ _, q, h => by cases q <;> cases h
  | .ref _, q, h => by cases q <;> cases h
  | .ty _, q, h => by cases q <;> cases h
theorem alikes_of : ∀ (ps qs : List PV), palikes ps qs = true → PySem.W.alikeAll (toDs ps) (toDs qs) = true
  | [], qs, _ => by cases qs <;> rfl
  | _ :: _, [], _ => rfl
  | p :: ps, q :: qs, h => by
    obtain ⟨h1, h2⟩ := Bool.and_eq_true_iff.mp (show (palike p q && palikes ps qs) = true from h)
    show (PySem.W.alike (toD p) (toD q) && PySem.W.alikeAll (toDs ps) (toDs qs)) = true
    rw [alike_of p q h1, alikes_of ps qs h2]; rfl
end
mutual
theorem plt_of : ∀ (n m : Nat) (p q : PV), okD n p = true → okD m q = true → palike p q = true → PySem.W.dataLt (toD p) (toD q) = plt p q
  | n, m, .int i, q, o1, o2, h => by
    cases q with
    | int j => exact PySem.W.dataLt_int i j
    | _ => cases h
  | n, m, .str a, q, o1, o2, h => by
    cases q with
    | str b => exact PySem.W.dataLt_str a b
    | _ => cases h
  | n, m, .tup xs, q, o1, o2, h => by
    cases q with
    | tup ys =>
      cases n with
      | zero => cases o1
      | succ n =>
        cases m with
        | zero => cases o2
        | succ m => exact (PySem.W.dataLt_tuple _ _).trans (plts_of n m xs ys o1 o2 h)
    | _ => cases h
  | _, _, .non, q, _, _, h => by cases q <;> cases h
  | _, _, .bl _, q, _, _, h => by cases q <;> cases h
  | _, _, .lst _, q, _, _, h => by cases q <;> cases h
  | _, _, .scr _, q, _, _, h => by cases q <;> cases h
  | _, _, .dct _ _, q, _, _, h => by cases q <;> cases h
  | _, _, .ins _ _, q, _, _, h => by cases q <;> cases h
  | _, _, .ref _, q, _, _, h => by cases q <;> cases h
  | _, _, .ty _, q, _, _, h => by cases q <;> cases h
theorem plts_of : ∀ (n m : Nat) (ps qs : List PV), okDs n ps = true → okDs m qs = true → palikes ps qs = true → PyProof.Rows.lexLt PyProof.Rows.itemOrd (PySem.W.keyToksAll (toDs ps)) (PySem.W.keyToksAll (toDs qs)) = plts ps qs
  | _, _, [], [], _, _, _ => by
    show PyProof.Rows.lexLt PyProof.Rows.itemOrd [Sum.inl 0] [Sum.inl 0] = false
    rw [PySem.W.lex_one]
    rfl
  | _, _, [], q :: qs, _, _, _ => by
    show PyProof.Rows.lexLt PyProof.Rows.itemOrd [Sum.inl 0] (Sum.inl 1 :: _) = true
    rw [PySem.W.lex_atom (by decide), PySem.W.lex_one]
    rfl
  | _, _, p :: ps, [], _, _, _ => by
    show PyProof.Rows.lexLt PyProof.Rows.itemOrd (Sum.inl 1 :: _) [Sum.inl 0] = false
    rw [PySem.W.lex_atom (by decide), PySem.W.lex_one]
    rfl
  | n, m, p :: ps, q :: qs, o1, o2, h => by
    obtain ⟨h1, h2⟩ := Bool.and_eq_true_iff.mp (show (palike p q && palikes ps qs) = true from h)
    obtain ⟨o3, o4⟩ := Bool.and_eq_true_iff.mp (show (okD n p && okDs n ps) = true from o1)
    obtain ⟨o5, o6⟩ := Bool.and_eq_true_iff.mp (show (okD m q && okDs m qs) = true from o2)
    have e := peq_eqv n m p q o3 o5
    show PyProof.Rows.lexLt PyProof.Rows.itemOrd (PySem.W.keyToksAll (toD p :: toDs ps)) (PySem.W.keyToksAll (toD q :: toDs qs)) = if peq p q then plts ps qs else plt p q
    cases b : peq p q with
    | true =>
      rw [b] at e
      rw [PySem.W.dataLt_all_yes (alike_of p q h1) e, if_pos rfl]
      exact plts_of n m ps qs o4 o6 h2
    | false =>
      rw [b] at e
      rw [PySem.W.dataLt_all_no (alike_of p q h1) e, if_neg (by simp)]
      exact plt_of n m p q o3 o5 h1
end
theorem op_ltD (hu : X.A.units + 65 < cLine) : OpR X (compareOp .Lt) fun x y H Q => ∃ d e, Dp X.K H x d ∧ Dp X.K H y e ∧ SeqAt.shaped d = true ∧ PySem.W.alike d e = true ∧ d ≠ .none ∧ Q (.bl (PySem.W.dataLt d e)) H := by
  intro pins s σ H x y v u Q I rx ry h
  obtain ⟨d, e, hd, he, sd, al, hn, q⟩ := h
  obtain ⟨as, r1⟩ := Dp.reads I d x v hd rx
  obtain ⟨bs, r2⟩ := Dp.reads I e y u he ry
  have dd := SeqAt.depth_of_shaped sd
  have R := PySem.W.rcLt_alike d e X.A s v u as bs r1 r2 al hn (by omega)
  have z : wpAny (model X.prog X.w) X.A (compareOp .Lt v u) (EP X pins σ Q) X.xe s := R X.prog X.w _ _ ⟨.bl _, H, I, rfl, q⟩
  exact z
theorem snd_cmp (hu : X.A.units + 65 < cLine) (o : COp) : ∃ r, OpR X (compareOp o.op) r ∧ SndO G X r (zcmp o) := by
  have iis : ∀ {f : Int → Int → Bool} {op : CmpOp} {o : COp}, OpR X (compareOp op) (rI0 fun i j => .bl (f i j)) → (∀ i j M Q0, zcmp o (.int i) (.int j) M Q0 → Q0 (.bl (f i j)) M) →
      (∀ p q M Q0, zcmp o p q M Q0 → ∃ i j, p = .int i ∧ q = .int j) → ∃ r, OpR X (compareOp op) r ∧ SndO G X r (zcmp o) := fun {f op o} ho h1 h2 => ⟨_, ho, fun F M H x y p q Q0 Q A rx ry h t => by
    obtain ⟨i, j, rfl, rfl⟩ := h2 p q M Q0 h
    cases rx
    cases ry
    exact ⟨i, j, rfl, rfl, t _ M F H _ (Same.refl F) A (.bl _) (h1 i j M Q0 h)⟩⟩
  cases o with
  | eq =>
    refine ⟨_, op_eqD (by omega), fun F M H x y p q Q0 Q A rx ry h t => ?_⟩
    have h : asD M p fun x => asD M q fun y => (okD 40 x = true ∧ okD 40 y = true) ∧ Q0 (.bl (peq x y)) M := h
    obtain ⟨p', h, d1⟩ := asD_of A rx h
    obtain ⟨q', ⟨⟨o1, o2⟩, h⟩, d2⟩ := asD_of A ry h
    refine ⟨_, _, d1 _ o1, d2 _ o2, shaped_of o1 (by decide), shaped_of o2 (by decide), ?_⟩
    rw [peq_eqv 40 40 p' q' o1 o2]
    exact t _ M F H _ (Same.refl F) A (.bl _) h
  | ne =>
    refine ⟨_, op_neD (by omega), fun F M H x y p q Q0 Q A rx ry h t => ?_⟩
    have h : asD M p fun x => asD M q fun y => (okD 40 x = true ∧ okD 40 y = true) ∧ Q0 (.bl (!peq x y)) M := h
    obtain ⟨p', h, d1⟩ := asD_of A rx h
    obtain ⟨q', ⟨⟨o1, o2⟩, h⟩, d2⟩ := asD_of A ry h
    refine ⟨_, _, d1 _ o1, d2 _ o2, shaped_of o1 (by decide), shaped_of o2 (by decide), ?_⟩
    rw [peq_eqv 40 40 p' q' o1 o2]
    exact t _ M F H _ (Same.refl F) A (.bl _) h
  | lt =>
    refine ⟨_, opr_or op_lt (op_ltD hu), fun F M H x y p q Q0 Q A rx ry h t => ?_⟩
    cases rx with
    | int i =>
      cases ry with
      | int j => exact .inl ⟨i, j, rfl, rfl, t _ M F H _ (Same.refl F) A (.bl _) h⟩
      | _ => exact False.elim h
    | @tup a1 vs1 xs1 hx1 rs1 =>
      cases ry with
      | @tup a2 vs2 xs2 hx2 rs2 =>
        obtain ⟨⟨o1, o2, al⟩, h⟩ := h
        refine .inr ⟨toD (.tup xs1), toD (.tup xs2), dp_of (G := G) A.sub 40 _ _ (.tup hx1 rs1) o1, dp_of (G := G) A.sub 40 _ _ (.tup hx2 rs2) o2, shaped_of o1 (by decide), alike_of (.tup xs1) (.tup xs2) al, (fun z => nomatch z), ?_⟩
        rw [plt_of 40 40 (.tup xs1) (.tup xs2) o1 o2 al]
        exact t _ M F H _ (Same.refl F) A (.bl _) h
      | _ => exact False.elim h
    | _ => cases ry <;> exact False.elim h
  | le => exact iis op_le (fun _ _ _ _ h => h) fun p q M Q0 h => by cases p <;> cases q <;> first | exact ⟨_, _, rfl, rfl⟩ | exact False.elim h
  | gt => exact iis op_gt (fun _ _ _ _ h => h) fun p q M Q0 h => by cases p <;> cases q <;> first | exact ⟨_, _, rfl, rfl⟩ | exact False.elim h
  | ge => exact iis op_ge (fun _ _ _ _ h => h) fun p q M Q0 h => by cases p <;> cases q <;> first | exact ⟨_, _, rfl, rfl⟩ | exact False.elim h
  | is_ =>
    refine ⟨_, op_isN, fun F M H x y p q Q0 Q A rx ry h t => ?_⟩
    cases ry with
    | non =>
      refine ⟨rfl, ?_⟩
      have e : decide (x = V.non) = isNon p := by cases rx <;> rfl
      rw [e]
      exact t _ M F H _ (Same.refl F) A (.bl _) h
    | _ => exact False.elim h
  | isnot =>
    refine ⟨_, op_notN, fun F M H x y p q Q0 Q A rx ry h t => ?_⟩
    cases ry with
    | non =>
      refine ⟨rfl, ?_⟩
      have e : decide (x = V.non) = isNon p := by cases rx <;> rfl
      rw [e]
      exact t _ M F H _ (Same.refl F) A (.bl _) h
    | _ => exact False.elim h
  | in_ => exact snd_in hu false
  | notin => exact snd_in hu true
end
end Z
set_option Elab.async false
set_option linter.all false
set_option maxRecDepth 100000
set_option maxHeartbeats 4000000
namespace Z
open PySem PySem.Spec PyProof.Rows L2
/-! ### places -/
theorem place_ix (n : Nat) : ∀ i : Int, place n i = ixN n i
  | .ofNat k => by
    show (if k < n then some k else none) = (if (0 : Int) ≤ (k : Int) then (if (k : Int) < n then some (k : Int).toNat else none) else _)
    rw [if_pos (Int.natCast_nonneg k)]
    by_cases h : k < n
    · rw [if_pos h, if_pos (by omega)]; rfl
    · rw [if_neg h, if_neg (by omega)]
  | .negSucc m => by
    have e : (Int.negSucc m : Int) = -(m : Int) - 1 := by omega
    show (if m < n then some (n - 1 - m) else none) = ixN n (Int.negSucc m)
    unfold ixN
    rw [e, if_neg (show ¬ (0 : Int) ≤ -(m : Int) - 1 by omega)]
    by_cases h : m < n
    · rw [if_pos h, if_pos (by omega)]
      congr 1
      omega
    · rw [if_neg h, if_neg (by omega)]
theorem pick_ix {xs : List PV} {v : PV} : ∀ {i : Int}, pick xs i = some v → ∃ j, ixN xs.length i = some j ∧ xs[j]? = some v
  | .ofNat k, h => by
    have h : xs[k]? = some v := h
    have hk := (List.getElem?_eq_some_iff.mp h).1
    refine ⟨k, ?_, h⟩
    rw [← place_ix]
    show (if k < xs.length then some k else none) = some k
    rw [if_pos hk]
  | .negSucc m, h => by
    have h : (if m < xs.length then xs[xs.length - 1 - m]? else none) = some v := h
    by_cases hm : m < xs.length
    · rw [if_pos hm] at h
      refine ⟨_, ?_, h⟩
      rw [← place_ix]
      show (if m < xs.length then some (xs.length - 1 - m) else none) = _
      rw [if_pos hm]
    · rw [if_neg hm] at h; cases h
theorem pick_at {G : Cfg} {K : PySem.W.Frag} {F : Hp} {vs : List V} {xs : List PV} {i : Int} {p : PV} (r : RVs G K F vs xs) (h : pick xs i = some p) : ∃ v, atI vs i = some v ∧ RV G K F v p := by
  obtain ⟨j, h1, h2⟩ := pick_ix h
  obtain ⟨v, h3, h4⟩ := r.get h2
  refine ⟨v, ?_, h4⟩
  unfold atI
  rw [r.length, h1]
  exact h3
section
variable {G : Cfg} {X : Cx}
theorem ix_dict (hu : X.A.units + 1 < cLine) : IxR X fun x y H Q => ∃ a v, x = .ref a ∧ DGet H a y (some v) ∧ Q v H := fun value slice pins s σ H x y v u Q I rx ry h hs => by
  obtain ⟨a, z, rfl, g, q⟩ := h
  cases rx
  exact tail_any (dict_typeIs I g) PySem.F.slot_dict_getitem.lookup (d_getItem hu I g ry fun w' s3 I3 rw' => ⟨z, H, I3, rw', q⟩) hs
theorem snd_idx (hu : X.A.units + 1 < cLine) : ∃ r, IxR X r ∧ SndO G X r zidx := by
  refine ⟨_, ix_list.or (ix_tup.or (ix_dict hu)), fun F M H x y p q Q0 Q A rx ry h t => ?_⟩
  cases ry with
  | int i =>
    have h : rdS M p fun xs => ∃ v, pick xs i = some v ∧ Q0 v M := h
    obtain ⟨a, vs, xs, rfl, hq, rs, v, e, h⟩ := rdS_of A rx h
    obtain ⟨w, e', rw'⟩ := pick_at rs e
    have fin := t _ M F H w (Same.refl F) A rw' h
    rcases hq with hq | hq
    · exact .inl ⟨a, vs, i, w, rfl, rfl, hq, e', fin⟩
    · exact .inr (.inl ⟨a, vs, i, w, rfl, rfl, hq, e', fin⟩)
  | str z =>
    have main : ∀ {a : Addr} {ks : List Key} {vs : List V} {xs : List PV} {i : Nat} {v : PV}, H a = some (.dK (ks.zip vs)) → ks.length = vs.length → RVs G X.K F vs xs → keyIx ks (.inr z) = some i → xs[i]? = some v → Q0 v M →
        ∃ b w, V.ref a = .ref b ∧ DGet H b (.str z) (some w) ∧ Q w H := fun {a ks vs xs i v} e l rs h1 h2 h3 => by
      obtain ⟨w, e', rw'⟩ := rs.get h2
      have g : DGet H a (kV (.inr z)) (valV (ks.zip vs) (.inr z)) := DGet.k e
      rw [valV_zip _ l, h1] at g
      have g : DGet H a (.str z) (vs[i]?) := g
      rw [e'] at g
      exact ⟨a, w, rfl, g, t _ M F H w (Same.refl F) A rw' h3⟩
    cases rx with
    | dct e l rs =>
      obtain ⟨i, v, h1, h2, h3⟩ := h
      exact .inr (.inr (main (A.sub _ _ e) l rs h1 h2 h3))
    | ref a =>
      obtain ⟨ks, xs, i, v, e, h1, h2, h3⟩ := h
      obtain ⟨_, o, ho, vs, rfl, l, rs⟩ := A.mu a _ e
      exact .inr (.inr (main ho l rs h1 h2 h3))
    | _ => exact False.elim h
  | _ => cases rx <;> exact False.elim h
/-- truth -/
theorem snd_tru {F : Hp} {M : Mh} {H : Hp} {x : V} {p : PV} {k : Bool → Prop} (A : Ab G X.K F M H) (r : RV G X.K F x p) (h : ztru p M k) : ∃ b, TruV X.K x H b ∧ k b := by
  cases r with
  | non => exact ⟨false, rfl, h⟩
  | bl b => exact ⟨b, rfl, h⟩
  | int i => exact ⟨_, rfl, h⟩
  | @tup a vs xs hq rs =>
    refine ⟨_, .inr (.inl ⟨vs, sameT A.sub hq, rfl⟩), ?_⟩
    have e : vs.isEmpty = xs.isEmpty := by cases rs <;> rfl
    rw [e]; exact h
  | @lst a vs xs hq rs =>
    refine ⟨_, .inl ⟨vs, SqL.of (A.sub _ _ hq), rfl⟩, ?_⟩
    have e : vs.isEmpty = xs.isEmpty := by cases rs <;> rfl
    rw [e]; exact h
  | ref a =>
    obtain ⟨xs, e, h⟩ := h
    obtain ⟨_, o, ho, vs, rfl, rs⟩ := A.mu a _ e
    refine ⟨_, .inl ⟨vs, SqL.of ho, rfl⟩, ?_⟩
    have e : vs.isEmpty = xs.isEmpty := by cases rs <;> rfl
    rw [e]; exact h
  | _ => exact False.elim h
/-! ### isinstance of plain things -/
theorem tyx_tup {K : PySem.W.Frag} {H : Hp} {a : Addr} {vs : List V} (h : SqT K H a vs) : TyX K H (.ref a) (.type "tuple") := by
  rcases h with (h | ⟨o, h⟩) | ⟨o, its, n, h1, h2, _⟩
  · exact .base (.tup h)
  · exact .fTuple h
  · exact .kTuple h1 h2
theorem kitT (a t : Ty) : kitB (tyS a) (tyS t) = some (match a, t with | .bool, .int => true | .int, .int => true | .str, .str => true | .list, .list => true | .tuple, .tuple => true | .bool, .bool => true | .dict, .dict => true | _, _ => false) := by
  cases a <;> cases t <;> decide +kernel
theorem kitN (t : Ty) : kitB "NoneType" (tyS t) = some false := by
  cases t <;> decide +kernel
theorem snd_isin (t : Ty) {F : Hp} {M : Mh} {H : Hp} {x : V} {p : PV} {Q0 : ZQ} {Q : VK} (A : Ab G X.K F M H) (r : RV G X.K F x p) (h : zisin t p M Q0) (tq : TQ G X.K F Q0 Q) : rIsi X.K [x, .ty (tyS t)] H Q := by
  have fin : ∀ (a : Ty) (b : Bool), TyX X.K H x (.type (tyS a)) → kitB (tyS a) (tyS t) = some b → Q0 (.bl b) M → rIsi X.K [x, .ty (tyS t)] H Q := fun a b ty e q =>
    ⟨x, _, _, _, b, rfl, .ty _, ty, kit_ty e, tq _ M F H _ (Same.refl F) A (.bl b) q⟩
  cases r with
  | non =>
    refine ⟨_, _, _, _, false, rfl, .ty _, .base .non, kit_ty (kitN t), tq _ M F H _ (Same.refl F) A (.bl _) ?_⟩
    cases t <;> exact h
  | bl b => cases t <;> exact fin .bool _ (.base (.bl b)) (kitT .bool _) h
  | int i => cases t <;> exact fin .int _ (.base (.int i)) (kitT .int _) h
  | str s => cases t <;> exact fin .str _ (.base (.str s)) (kitT .str _) h
  | tup hq rs => cases t <;> exact fin .tuple _ (tyx_tup (sameT A.sub hq)) (kitT .tuple _) h
  | lst hq rs => cases t <;> exact fin .list _ (.base (.lst (A.sub _ _ hq))) (kitT .list _) h
  | dct e l rs => cases t <;> exact fin .dict _ (.base (.dK (A.sub _ _ e))) (kitT .dict _) h
  | ref a =>
    obtain ⟨m, e, h⟩ := h
    obtain ⟨_, o, ho, rs⟩ := A.mu a _ e
    cases m with
    | lst xs =>
      obtain ⟨vs, rfl, _⟩ := rs
      cases t <;> exact fin .list _ (.base (.lst ho)) (kitT .list _) h
    | dct ks xs =>
      obtain ⟨vs, rfl, _⟩ := rs
      cases t <;> exact fin .dict _ (.base (.dK ho)) (kitT .dict _) h
    | sm P =>
      obtain ⟨vs, xs, rfl, _⟩ := rs
      cases t <;> exact fin .list _ (.base (.lst ho)) (kitT .list _) h
    | ins c fs => exact False.elim h
  | scr hq rs => cases t <;> exact False.elim h
  | ins _ _ _ _ _ _ => cases t <;> exact False.elim h
  | ty n => cases t <;> exact False.elim h
  | xv0 => cases t <;> exact False.elim h
  | xv1 _ _ _ => cases t <;> exact False.elim h
end
end Z
set_option Elab.async false
set_option linter.all false
set_option maxRecDepth 100000
set_option maxHeartbeats 4000000
namespace Z
open PySem PySem.Spec PyProof.Rows L2
theorem callr_or {X : Cx} {f : Value} {r1 r2 : List V → Hp → VK → Prop} (h1 : CallR X f r1) (h2 : CallR X f r2) : CallR X f fun xs H Q => r1 xs H Q ∨ r2 xs H Q :=
  fun pins s σ H xs us Q I r h => h.elim (fun h => h1 pins s σ H xs us Q I r h) fun h => h2 pins s σ H xs us Q I r h
/-- its name; whether it is a class -/
def Bf.nm : Bf → Str
  | .len => "len" | .int => "int" | .str => "str" | .list _ => "list" | .tuple => "tuple" | .sum => "sum" | .max2 => "max" | .min2 => "min" | .abs => "abs" | .max1 => "max"
def Bf.val : Bf → Value
  | .len => .builtin "len" | .int => .type "int" | .str => .type "str" | .list _ => .type "list" | .tuple => .type "tuple" | .sum => .builtin "sum" | .max2 => .builtin "max" | .min2 => .builtin "min" | .abs => .builtin "abs" | .max1 => .builtin "max"
def Bf.plain : Bf → Bool
  | _ => true
theorem Bf.boot (b : Bf) : bootBuiltins b.nm = some b.val := by
  cases b with
  | list fz => decide +kernel +revert
  | _ => decide +kernel
theorem rvs1 {G : Cfg} {K : PySem.W.Frag} {F : Hp} {xs : List V} {p : PV} (r : RVs G K F xs [p]) : ∃ x, xs = [x] ∧ RV G K F x p := by
  cases r with
  | cons r t => cases t; exact ⟨_, rfl, r⟩
theorem rvs2 {G : Cfg} {K : PySem.W.Frag} {F : Hp} {xs : List V} {p q : PV} (r : RVs G K F xs [p, q]) : ∃ x y, xs = [x, y] ∧ RV G K F x p ∧ RV G K F y q := by
  cases r with
  | cons r t =>
    obtain ⟨y, rfl, h⟩ := rvs1 t
    exact ⟨_, y, rfl, r, h⟩
section
variable {G : Cfg} {X : Cx}
theorem snd_bcall (hc : X.calm = true) (b : Bf) (hb : b.plain = true) : ∃ r, CallR X b.val r ∧ ∀ F M H xs ps Q0 Q, Ab G X.K F M H → RVs G X.K F xs ps → zbcall b ps M Q0 → TQ G X.K F Q0 Q → r xs H Q := by
  have lists : ∀ {F : Hp} {M : Mh} {H : Hp} {x : V} {p : PV} {k : List Int → Prop}, Ab G X.K F M H → RV G X.K F x p → rdL M p (fun xs => ∃ ns : List Int, xs = ns.map PV.int ∧ k ns) → ∃ a ns, x = .ref a ∧ SqL X.K H a (ns.map V.int) ∧ k ns := fun {F M H x p k} A r h => by
    obtain ⟨a, vs, xs, e, hq, rs, ns, rfl, h⟩ := rdL_of A r h
    rw [rs.ints_of] at hq
    exact ⟨a, ns, e, hq, h⟩
  cases b with
  | len =>
    refine ⟨_, callr_or call_len call_lenD, fun F M H xs ps Q0 Q A r h t => ?_⟩
    match ps, r, h with
    | [p], r, h =>
      obtain ⟨x, rfl, rr⟩ := rvs1 r
      have go : rdS M p (fun xs => Q0 (.int xs.length) M) → ∃ y n, [x] = [y] ∧ LenV X.K y H n ∧ Q (.int n) H := fun h => by
        obtain ⟨a, vs, xs, rfl, hq, rs, h⟩ := rdS_of A rr h
        refine ⟨_, vs.length, rfl, ?_, ?_⟩
        · rcases hq with hq | hq
          · exact .inl ⟨vs, hq, rfl⟩
          · exact .inr ⟨vs, hq, rfl⟩
        · rw [rs.length]; exact t _ M F H _ (Same.refl F) A (.int _) h
      cases rr with
      | @dct a ks vs xs e l rs =>
        refine .inr ⟨a, _, rfl, A.sub _ _ e, ?_⟩
        have el : (ks.zip vs).length = ks.length := by rw [List.length_zip]; omega
        have h : Q0 (.int ks.length) M := h
        rw [el]
        exact t _ M F H _ (Same.refl F) A (.int _) h
      | _ => exact .inl (go h)
  | int =>
    refine ⟨_, call_int1, fun F M H xs ps Q0 Q A r h t => ?_⟩
    match ps, r, h with
    | [p], r, h =>
      obtain ⟨x, rfl, rr⟩ := rvs1 r
      cases rr with
      | int i => exact .inl ⟨i, rfl, t _ M F H _ (Same.refl F) A (.int _) h⟩
      | bl k => exact .inr ⟨k, rfl, t _ M F H _ (Same.refl F) A (.int _) h⟩
      | _ => exact False.elim h
  | str =>
    refine ⟨_, call_str_int, fun F M H xs ps Q0 Q A r h t => ?_⟩
    match ps, r, h with
    | [p], r, h =>
      obtain ⟨x, rfl, rr⟩ := rvs1 r
      cases rr with
      | int i => exact ⟨i, rfl, h.1, t _ M F H _ (Same.refl F) A (.str _) h.2⟩
      | _ => exact False.elim h
  | list fz =>
    refine ⟨_, call_list_of, fun F M H xs ps Q0 Q A r h t => ?_⟩
    match ps, r, h with
    | [p], r, h =>
      obtain ⟨x, rfl, rr⟩ := rvs1 r
      obtain ⟨a, vs, xs, rfl, hq, rs, h⟩ := rdS_of A rr h
      refine ⟨a, vs, rfl, hq, fun l hl => ?_⟩
      cases fz with
      | true =>
        obtain ⟨A', s'⟩ := A.newF (p := l) (o := .lst vs) hl
        exact t _ M _ _ _ s' A' (.lst upd_same (rs.mono s')) h
      | false => exact t _ _ F _ _ (Same.refl F) (A.newM (m := .lst xs) hl ⟨vs, rfl, rs⟩) (.ref l) (h l (A.free hl).1)
  | tuple =>
    refine ⟨_, call_tuple_of, fun F M H xs ps Q0 Q A r h t => ?_⟩
    match ps, r, h with
    | [p], r, h =>
      obtain ⟨x, rfl, rr⟩ := rvs1 r
      have lists2 : ∀ {a : Addr} {vs : List V} {xs : List PV}, SqL X.K H a vs → RVs G X.K F vs xs → Q0 (.tup xs) M → ∃ p ys, [V.ref a] = [.ref p] ∧ ((SqL X.K H p ys ∧ ∀ l, H l = none → Q (.ref l) (upd H l (.tup ys))) ∨ (SqT X.K H p ys ∧ Q (.ref p) H)) := fun {a vs xs} hq rs h => by
        refine ⟨a, vs, rfl, .inl ⟨hq, fun l hl => ?_⟩⟩
        obtain ⟨A', s'⟩ := A.newF (p := l) (o := .tup vs) hl
        exact t _ M _ _ _ s' A' (.tup (SqT.of upd_same) (rs.mono s')) h
      cases rr with
      | tup hq rs => exact ⟨_, _, rfl, .inr ⟨sameT A.sub hq, t _ M F H _ (Same.refl F) A (.tup hq rs) h⟩⟩
      | lst hq rs => exact lists2 (SqL.of (A.sub _ _ hq)) rs h
      | scr hq rs => exact lists2 (Same.seq A.sub hq) rs h
      | ref a =>
        obtain ⟨xs, e, h⟩ := h
        obtain ⟨_, o, ho, vs, rfl, rs⟩ := A.mu a _ e
        exact lists2 (SqL.of ho) rs h
      | _ => exact False.elim h
  | sum =>
    refine ⟨_, cr_sum hc, fun F M H xs ps Q0 Q A r h t => ?_⟩
    match ps, r, h with
    | [p], r, h =>
      obtain ⟨x, rfl, rr⟩ := rvs1 r
      obtain ⟨a, ns, rfl, hq, h⟩ := lists (k := fun ns => Q0 (.int ns.sum) M) A rr h
      exact ⟨a, ns, rfl, hq, t _ M F H _ (Same.refl F) A (.int _) h⟩
  | max2 =>
    refine ⟨_, call_max2 hc, fun F M H xs ps Q0 Q A r h t => ?_⟩
    match ps, r, h with
    | [p, q], r, h =>
      obtain ⟨x, y, rfl, r1, r2⟩ := rvs2 r
      cases r1 with
      | int i =>
        cases r2 with
        | int j => exact ⟨i, j, rfl, t _ M F H _ (Same.refl F) A (.int _) h⟩
        | _ => exact False.elim h
      | _ => cases r2 <;> exact False.elim h
  | min2 =>
    refine ⟨_, call_min2 hc, fun F M H xs ps Q0 Q A r h t => ?_⟩
    match ps, r, h with
    | [p, q], r, h =>
      obtain ⟨x, y, rfl, r1, r2⟩ := rvs2 r
      cases r1 with
      | int i =>
        cases r2 with
        | int j => exact ⟨i, j, rfl, t _ M F H _ (Same.refl F) A (.int _) h⟩
        | _ => exact False.elim h
      | _ => cases r2 <;> exact False.elim h
  | abs =>
    refine ⟨_, call_abs, fun F M H xs ps Q0 Q A r h t => ?_⟩
    match ps, r, h with
    | [p], r, h =>
      obtain ⟨x, rfl, rr⟩ := rvs1 r
      cases rr with
      | int i => exact ⟨i, rfl, t _ M F H _ (Same.refl F) A (.int _) h⟩
      | _ => exact False.elim h
  | max1 =>
    refine ⟨_, cr_max hc, fun F M H xs ps Q0 Q A r h t => ?_⟩
    match ps, r, h with
    | [p], r, h =>
      obtain ⟨x, rfl, rr⟩ := rvs1 r
      obtain ⟨a, ns, rfl, hq, h0, h⟩ := lists (k := fun ns => 0 < ns.length ∧ ∀ m ∈ ns, (∀ k ∈ ns, k ≤ m) → Q0 (.int m) M) A rr h
      exact ⟨a, ns, rfl, hq, h0, fun m h1 h2 => t _ M F H _ (Same.refl F) A (.int _) (h m h1 h2)⟩
/-! ### slices, sums of lists -/
theorem cut_rvs {K : PySem.W.Frag} {F : Hp} {vs : List V} {xs : List PV} (r : RVs G K F vs xs) (lo hi : Option Int) : RVs G K F (cutV vs lo hi) (cut xs lo hi) := by
  unfold cutV cut
  rw [r.length]
  exact (r.drop _).take _
theorem take_all {α : Type} (xs : List α) (n : Nat) (h : xs.length ≤ n) : xs.take n = xs := List.take_of_length_le h
theorem cut_whole {xs : List PV} {lo hi : Option Int} (h : HT.sIx xs.length 0 lo = 0 ∧ HT.sIx xs.length xs.length hi = xs.length) : cut xs lo hi = xs := by
  unfold cut
  rw [h.1, h.2, List.drop_zero, Nat.sub_zero, List.take_length]
theorem snd_slice : ∃ r, SlR X r ∧ ∀ F M H x p l h Q0 Q, Ab G X.K F M H → RV G X.K F x p → zslice p l h M Q0 → TQ G X.K F Q0 Q → r x l h H Q := by
  refine ⟨_, sl_list.or sl_tupA, fun F M H x p l h Q0 Q A r z t => ?_⟩
  have go : rdL M p (fun xs => Q0 (.lst (cut xs l h)) M) → rSlL X.K x l h H Q := fun z => by
    obtain ⟨a, vs, xs, rfl, hq, rs, z⟩ := rdL_of A r z
    refine ⟨a, vs, rfl, hq, fun q hl => ?_⟩
    obtain ⟨A', s'⟩ := A.newF (p := q) (o := .lst (cutV vs l h)) hl
    exact t _ M _ _ _ s' A' (.lst upd_same ((cut_rvs rs l h).mono s')) z
  cases r with
  | @tup a vs xs hq rs =>
    refine .inr ⟨a, vs, rfl, sameT A.sub hq, fun e => ?_, fun _ q hl => ?_⟩
    · have z : Q0 (.tup (cut xs l h)) M := z
      rw [rs.length] at e
      rw [cut_whole e] at z
      exact t _ M F H _ (Same.refl F) A (.tup hq rs) z
    · obtain ⟨A', s'⟩ := A.newF (p := q) (o := .tup (cutV vs l h)) hl
      exact t _ M _ _ _ s' A' (.tup (SqT.of upd_same) ((cut_rvs rs l h).mono s')) z
  | _ => exact .inl (go z)
theorem snd_sliceo : ∃ r, SlR X r ∧ ∀ F M H x p l h Q0 Q, Ab G X.K F M H → RV G X.K F x p → zsliceo p l h M Q0 → TQ G X.K F Q0 Q → r x l h H Q := by
  refine ⟨_, sl_list, fun F M H x p l h Q0 Q A r z t => ?_⟩
  obtain ⟨a, vs, xs, rfl, hq, rs, z⟩ := rdL_of A r z
  refine ⟨a, vs, rfl, hq, fun q hl => ?_⟩
  exact t _ _ F _ _ (Same.refl F) (A.newM (m := .lst (cut xs l h)) hl ⟨_, rfl, cut_rvs rs l h⟩) (.ref q) (z q (A.free hl).1)
theorem snd_cat : SndO G X rCat zcat := fun F M H x y p q Q0 Q A rx ry h t => by
  obtain ⟨a, vs, xs, rfl, hq, rs, h⟩ := rdM_of A rx h
  obtain ⟨b, us, ys, rfl, hq', rs', hz, h⟩ := rdM_of A ry h
  refine ⟨a, b, vs, us, rfl, rfl, hq, hq', by rw [rs.length, rs'.length]; exact hz, fun l hl => ?_⟩
  exact t _ _ F _ _ (Same.refl F) (A.newM (m := .lst (xs ++ ys)) hl ⟨_, rfl, rs.append rs'⟩) (.ref l) (h l (A.free hl).1)
/-! ### methods of lists -/
def Bm.nm : Bm → Str
  | .append => "append" | .pop => "pop" | .pop0 => "pop" | .extend => "extend" | .insert => "insert" | .reverse => "reverse"
theorem snd_bm (m : Bm) : ∃ (id : String) (r : V → List V → Hp → VK → Prop), Slot "list" m.nm id ∧ typeOf (.builtin id) = pure (.type "method_descriptor") ∧ MtR X id r ∧
    ∀ F M H x p xs ps Q0 Q, Ab G X.K F M H → RV G X.K F x p → RVs G X.K F xs ps → zbmeth m p ps M Q0 → TQ G X.K F Q0 Q → r x xs H Q := by
  cases m with
  | append =>
    refine ⟨_, _, PySem.F.slot_list_append, PySem.F.type_list_append, mt_append, fun F M H x p xs ps Q0 Q A r rs h t => ?_⟩
    cases r with
    | ref a =>
      obtain ⟨ys, e, h⟩ := h
      match ps, rs, h with
      | [y], rs, h =>
        obtain ⟨y', rfl, ry⟩ := rvs1 rs
        obtain ⟨_, o, ho, vs, rfl, rv⟩ := A.mu a _ e
        exact ⟨a, vs, y', rfl, rfl, ho, by rw [rv.length]; exact h.1, t _ _ F _ _ (Same.refl F) (A.write (m := .lst (ys ++ [y])) e ⟨_, rfl, rv.append (.cons ry .nil)⟩) .non h.2⟩
    | _ => exact False.elim h
  | pop =>
    refine ⟨_, _, PySem.F.slot_list_pop, PySem.F.type_list_pop, mt_pop, fun F M H x p xs ps Q0 Q A r rs h t => ?_⟩
    cases r with
    | ref a =>
      obtain ⟨ys, e, h⟩ := h
      match ps, rs, h with
      | [], rs, h =>
        cases rs
        obtain ⟨y, hy, h⟩ := h
        obtain ⟨_, o, ho, vs, rfl, rv⟩ := A.mu a _ e
        obtain ⟨v, hv, rvv⟩ := rv.get hy
        have ed : RVs G X.K F vs.dropLast ys.dropLast := by
          rw [List.dropLast_eq_take, List.dropLast_eq_take, rv.length]
          exact rv.take _
        exact ⟨a, vs, v, rfl, rfl, ho, by rw [rv.length]; exact hv, t _ _ F _ _ (Same.refl F) (A.write (m := .lst ys.dropLast) e ⟨_, rfl, ed⟩) rvv h⟩
    | _ => exact False.elim h
  | pop0 =>
    refine ⟨_, _, PySem.F.slot_list_pop, PySem.F.type_list_pop, mt_popAt, fun F M H x p xs ps Q0 Q A r rs h t => ?_⟩
    cases r with
    | ref a =>
      obtain ⟨ys, e, h⟩ := h
      match ps, rs, h with
      | [q], rs, h =>
        obtain ⟨y', rfl, ry⟩ := rvs1 rs
        cases ry with
        | int i =>
         obtain ⟨⟨hlo, hhi⟩, y, k, hk, hy, h⟩ := h
         obtain ⟨_, o, ho, vs, rfl, rv⟩ := A.mu a _ e
         obtain ⟨v, hv, rvv⟩ := rv.get hy
         rw [place_ix] at hk
         obtain ⟨hs, h1, h2, h3⟩ := ixN_seq hk
         refine ⟨a, vs, i, k, v, rfl, rfl, ho, hlo, hhi, by rw [rv.length]; exact hs, hv, t _ _ F _ _ (Same.refl F) (A.write (m := .lst (ys.eraseIdx k)) e ⟨_, rfl, rv.eraseIdx k⟩) rvv h⟩
        | _ => exact False.elim h
    | _ => exact False.elim h
  | extend =>
    refine ⟨_, _, PySem.F.slot_list_extend, PySem.F.type_list_extend, mt_extend, fun F M H x p xs ps Q0 Q A r rs h t => ?_⟩
    cases r with
    | ref a =>
      obtain ⟨ys, e, h⟩ := h
      match ps, rs, h with
      | [y], rs, h =>
        obtain ⟨y', rfl, ry⟩ := rvs1 rs
        obtain ⟨_, o, ho, vs, rfl, rv⟩ := A.mu a _ e
        obtain ⟨b, us, zs, rfl, hb, rs', hz, h⟩ := rdM_of A ry h
        exact ⟨a, b, vs, us, rfl, rfl, ho, hb, by rw [rv.length, rs'.length]; exact hz, t _ _ F _ _ (Same.refl F) (A.write (m := .lst (ys ++ zs)) e ⟨_, rfl, rv.append rs'⟩) .non h⟩
    | _ => exact False.elim h
  | insert =>
    refine ⟨_, _, PySem.F.slot_list_insert, PySem.F.type_list_insert, mt_insert, fun F M H x p xs ps Q0 Q A r rs h t => ?_⟩
    cases r with
    | ref a =>
      obtain ⟨ys, e, h⟩ := h
      match ps, rs, h with
      | [i, y], .cons ri rs, h =>
        obtain ⟨y', rfl, ry⟩ := rvs1 rs
        cases ri with
        | int i =>
          obtain ⟨hz, ⟨h0, h1⟩, h⟩ := h
          obtain ⟨_, o, ho, vs, rfl, rv⟩ := A.mu a _ e
          refine ⟨a, vs, i, y', rfl, rfl, ho, by rw [rv.length]; exact hz, h0, h1, t _ _ F _ _ (Same.refl F) (A.write (m := .lst (ys.take i.toNat ++ y :: ys.drop i.toNat)) e ⟨_, rfl, ?_⟩) .non h⟩
          rw [List.append_assoc]
          exact (rv.take _).append (.cons ry (rv.drop _))
        | _ => exact False.elim h
    | _ => exact False.elim h
  | reverse =>
    refine ⟨_, _, PySem.F.slot_list_reverse, PySem.F.type_list_reverse, mt_reverse, fun F M H x p xs ps Q0 Q A r rs h t => ?_⟩
    cases r with
    | ref a =>
      obtain ⟨ys, e, h⟩ := h
      match ps, rs, h with
      | [], rs, h =>
        cases rs
        obtain ⟨_, o, ho, vs, rfl, rv⟩ := A.mu a _ e
        exact ⟨a, vs, rfl, rfl, ho, t _ _ F _ _ (Same.refl F) (A.write (m := .lst ys.reverse) e ⟨_, rfl, rv.reverse⟩) .non h⟩
    | _ => exact False.elim h
end
end Z
set_option Elab.async false
set_option linter.all false
set_option maxRecDepth 100000
set_option maxHeartbeats 4000000
namespace Z
open PySem PySem.Spec PyProof.Rows L2
/-! ### shapes of expressions -/
def notStar : Expr → Bool
  | .Starred _ _ => false
  | _ => true
def plainBase : Expr → Bool
  | .Call (.Name _ _) [] [] _ => false
  | _ => true
def plainTest : Expr → Bool
  | .UnaryOp .Not _ _ => false
  | .BoolOp _ _ _ => false
  | .IfExp _ _ _ _ => false
  | .Compare _ _ _ _ => false
  | _ => true
def notComp : Expr → Bool
  | .ListComp _ _ _ _ => false
  | .SetComp _ _ _ _ => false
  | .DictComp _ _ _ _ _ => false
  | _ => true
def notSlice : Expr → Bool
  | .Slice _ _ _ _ => false
  | _ => true
theorem star_of {e : Expr} (h : notStar e = true) (es : List Expr) (env : Env) : starEach (e :: es) env = (false, eval e env) :: starEach es env := by
  cases e <;> first | rfl | cases h
theorem stars_of : ∀ {es : List Expr} (h : es.all notStar = true) (pos : Pos) (env : Env), (backTo pos (starEach es env)).any (·.1) = false ∧ (backTo pos (starEach es env)).all (fun x => !x.1) = true
  | [], _, _, _ => ⟨rfl, rfl⟩
  | e :: es, h, pos, env => by
    obtain ⟨h1, h2⟩ := Bool.and_eq_true_iff.mp (show (notStar e && es.all notStar) = true from h)
    obtain ⟨i1, i2⟩ := stars_of h2 pos env
    rw [star_of h1]
    refine ⟨?_, ?_⟩
    · show (false || (backTo pos (starEach es env)).any (·.1)) = false
      rw [i1]; rfl
    · show (true && (backTo pos (starEach es env)).all (fun x => !x.1)) = true
      rw [i2]; rfl
theorem base_of {e : Expr} (h : plainBase e = true) (f : Str) (env : Env) : attributeBase e f env (eval e env) = eval e env := by
  cases e with
  | Call func args kws pos =>
    cases func with
    | Name x p =>
      cases args with
      | nil =>
        cases kws with
        | nil => cases h
        | cons _ _ => rfl
      | cons _ _ => rfl
    | _ => rfl
  | _ => rfl
theorem test_of {e : Expr} (h : plainTest e = true) (env : Env) : ∀ whole, isTrue e env whole = (do let v ← whole; standAt e.pos; holding [v] (truthy v)) := by
  intro whole
  cases e with
  | UnaryOp op a p => cases op <;> first | rfl | cases h
  | BoolOp _ _ _ => cases h
  | IfExp _ _ _ _ => cases h
  | Compare _ _ _ _ => cases h
  | _ => rfl
theorem swap_of {e : Expr} (h : notComp e = true) (t : Option Expr) (l : Nat) (env : Env) : swapsWith e t l env = pure false := by
  cases e <;> first | rfl | cases h
theorem ix_of {e : Expr} (h : notSlice e = true) : PlainIx e := by
  intro o i
  cases e <;> first | rfl | cases h
theorem meth_form {o : Expr} {m : Str} {es : List Expr} {apos pos : Pos} {env : Env} (hb : attributeBase o m env (eval o env) = eval o env) (hs : es.all notStar = true) (hn : es.length < 30) (hl : (apos.endLine == pos.line) = true) :
    eval (.Call (.Attribute o m apos) es [] pos) env = (do
      let ov ← eval o env
      standAt apos.atName
      let (f, first) ← holding [ov] (getMethod ov m (do return (← importBound o env).getD true))
      callWith pos f first (backTo pos (starEach es env)) (backToKw pos (keywordEach [] env))) := by
  have hf : methodCallForm (es.length + ([] : List Keyword).length) (backTo pos (starEach es env)) (backToKw pos (keywordEach [] env)) = true := by
    unfold methodCallForm
    have h2 := (stars_of hs pos env).2
    show ((backTo pos (starEach es env)).all (fun x => !x.1) && true && decide (es.length + 0 + 0 < 30)) = true
    rw [h2, decide_eq_true (by omega)]
    rfl
  show (do
    let ov ← attributeBase o m env (eval o env)
    standAt apos.atName
    methodCall o m apos pos env ov (es.length + ([] : List Keyword).length) (backTo pos (starEach es env)) (backToKw pos (keywordEach [] env))) = _
  rw [hb]
  unfold methodCall
  rw [hf]
  unfold calleeOf methodCallPos
  simp only [if_true, hl, Bool.not_true, Bool.false_or]
  rfl
/-! ### calls of the text's own -/
section
variable {X : Cx} {k : Nat} {f C : Addr} {fd : FuncData} {ps : List Str} {sp : Sp} {dvs : List V} {ds : List Value} {W : WX} {x m : Str} {p pos apos : Pos} {e o : Expr} {es : List Expr} {ta : TE} {t : TA}
theorem callAny (F : FnOk X.prog X.w X.K X.mg X.base (L2.CX X.prog X.w) k f fd ps sp) (hr : Room k X.A) (hg : Gl X x) (hm : X.mg x = some (.ref f)) (hk : PySem.W.keepIn X.K (.ref f) = true) (hb : Binds X.K fd ps ds) (hd : Vals dvs ds) (tk : Takes X W)
    (ha : PA X (e :: es) t) (hs : (e :: es).all notStar = true) (hdb : (x == ("__debug__" : Str)) = false) : PE X (.Call (.Name x p) (e :: es) [] pos) (tCallSD sp dvs (WE W) t) := by
  obtain ⟨h1, h2⟩ := Bool.and_eq_true_iff.mp (show (notStar e && es.all notStar) = true from hs)
  exact pe_callSD F hr hg hm hk hb hd (fun σ => passAt tk σ) ha hdb (star_of h1 es X.env) (stars_of h2 pos X.env).1
theorem callNone (F : FnOk X.prog X.w X.K X.mg X.base (L2.CX X.prog X.w) k f fd ps sp) (hr : Room k X.A) (hg : Gl X x) (hm : X.mg x = some (.ref f)) (hk : PySem.W.keepIn X.K (.ref f) = true) (hb : Binds X.K fd ps ds) (hd : Vals dvs ds) (tk : Takes X W)
    (hdb : (x == ("__debug__" : Str)) = false) : PE X (.Call (.Name x p) [] [] pos) (tCallSD sp dvs (WE W) tNil) :=
  ⟨fun pins s σ H Q I h => wpAny_Call_Name_kw (ld_glob I hg hm (PySem.W.callWith_K0 I.kIn hk (run_fnSD (us := []) F hr hb hd (passAt tk σ) I .nil h)) hdb)⟩
/-- o.m(..) of an instance, what is raised wished for at the caller's slots -/
def tMethSD (C : Addr) (m : Str) (sp : Sp) (dvs : List V) (E : L2.St → XK) (ta : TE) (t : TA) : TE := fun σ H Q => ta σ H fun x H1 => ∃ a dx fs, x = .ref a ∧ H1 a = some (.ins C dx fs) ∧ fs.lookup m = none ∧
  t σ H1 fun vs H2 => sp (x :: (vs ++ dvs)) H2 Q (E σ)
theorem methAny (he : PE X o ta) (c : Cls X.K C) (hm : Meth X.K C m f) (F : FnOk X.prog X.w X.K X.mg X.base (L2.CX X.prog X.w) k f fd ps sp) (hr : Room k X.A) (hb : Binds X.K fd ps ds) (hd : Vals dvs ds) (tk : Takes X W) (ha : PA X (e :: es) t)
    (hs : (e :: es).all notStar = true) (hn : (e :: es).length < 30) (hl : (apos.endLine == pos.line) = true) (hbase : plainBase o = true) : PE X (.Call (.Attribute o m apos) (e :: es) [] pos) (tMethSD C m sp dvs (WE W) ta t) := by
  obtain ⟨h1, h2⟩ := Bool.and_eq_true_iff.mp (show (notStar e && es.all notStar) = true from hs)
  refine ⟨fun pins s σ H Q I h => ?_⟩
  refine PySem.W.methodCall_KW (thn (he.run pins s σ H _ I h) fun u s1 z => ?_) (meth_form (base_of hbase m X.env) hs hn hl)
  obtain ⟨x, H1, I1, rx, a, dx, fs, rfl, ea, l, q⟩ := z
  obtain rfl : u = Value.ref a := rx
  refine getmeth_ok I1 ea c hm l ?_
  refine PySem.W.callWith_K (first := [.ref a]) (h₀ := X.base) I.ok.mod.kin hm.kp (thn (ha.run pos pins s1 σ H1 _ I1 q) fun us s2 z => ?_) (star_of h1 es X.env) (stars_of h2 pos X.env).1
  obtain ⟨vs, H2, I2, r, q2⟩ := z
  exact ⟨I2.kIn, run_fnSD (us := .ref a :: us) (vs := .ref a :: vs) F hr hb hd (passAt tk σ) I2 (.cons rfl r) q2⟩
theorem methNone (he : PE X o ta) (c : Cls X.K C) (hm : Meth X.K C m f) (F : FnOk X.prog X.w X.K X.mg X.base (L2.CX X.prog X.w) k f fd ps sp) (hr : Room k X.A) (hb : Binds X.K fd ps ds) (hd : Vals dvs ds) (tk : Takes X W)
    (hl : (apos.endLine == pos.line) = true) (hbase : plainBase o = true) : PE X (.Call (.Attribute o m apos) [] [] pos) (tMethSD C m sp dvs (WE W) ta tNil) := by
  refine ⟨fun pins s σ H Q I h => ?_⟩
  refine PySem.W.methodCall_KW (thn (he.run pins s σ H _ I h) fun u s1 z => ?_) (meth_form (base_of hbase m X.env) rfl (by decide) hl)
  obtain ⟨x, H1, I1, rx, a, dx, fs, rfl, ea, l, q⟩ := z
  obtain rfl : u = Value.ref a := rx
  refine getmeth_ok I1 ea c hm l ?_
  exact PySem.W.callWith_K0 (first := [.ref a]) I1.kIn hm.kp (run_fnSD (us := [.ref a]) (vs := [.ref a]) F hr hb hd (passAt tk σ) I1 (.cons rfl .nil) q)
end
end Z
set_option Elab.async false
set_option linter.all false
set_option maxRecDepth 100000
set_option maxHeartbeats 4000000
namespace Z
open PySem PySem.Spec PyProof.Rows L2
/-! ### what is known of the text's top -/
structure Fn where
  at_ : Str × Option Str
  ps : List Str
  dfl : List DV := []
  kwo : Bool := false
/-- how a class is called: the class, its __init__, how many values, which keywords, which defaults fill up -/
structure Mkr where
  c : Nat
  f : Nat
  n : Nat
  ks : List Str
  ds : List (Nat ⊕ DV)
structure Tb where
  fns : List Fn
  free : List Str
  mks : List Mkr := []
  cons : List (Str × CV) := []
  tabs : List (Str × List (Str × DV)) := []
structure CC where
  N : List Str
  sc : Scope
  blk : Option Scope
  lim : Nat
def CC.fn (c : CC) (x : Str) : Bool := match c.blk with
  | none => true
  | some s => s.names.lookup x == some .cell
def visB (sc : Scope) (x : Str) : Bool := match sc.names.lookup x with
  | some .local => true
  | some .cell => true
  | some .free => true
  | _ => false
def locB (sc : Scope) (x : Str) : Bool := match sc.names.lookup x with
  | some .local => true
  | some .cell => true
  | _ => false
def isLocal (sc : Scope) (x : Str) : Bool := match sc.names.lookup x with
  | some .local => true
  | _ => false
def glB (sc : Scope) (x : Str) : Bool := match sc.names.lookup x with
  | some .globalImplicit => true
  | _ => false
def niceB (x : Str) : Bool := !(x == ("__debug__" : Str)) && !(x == ("__classdict__" : Str)) && !decide (x = "__name__")
def storeB (c : CC) (i : Nat) (x : Str) : Bool := decide (c.N[i]? = some x) && locB c.sc x && (c.fn x || isLocal c.sc x)
def freeB (B : Tb) (c : CC) (x : Str) : Bool := glB c.sc x && decide (x ∈ B.free) && niceB x
def opB : BOp → Operator → Bool
  | .add, .Add => true | .sub, .Sub => true | .mul, .Mult => true | .mod, .Mod => true | .fdiv, .FloorDiv => true | .pow, .Pow => true
  | _, _ => false
def copB : COp → CmpOp → Bool
  | .eq, .Eq => true | .ne, .NotEq => true | .lt, .Lt => true | .le, .LtE => true | .gt, .Gt => true | .ge, .GtE => true | .is_, .Is => true | .isnot, .IsNot => true | .in_, .In => true | .notin, .NotIn => true
  | _, _ => false
def EL.len : EL → Nat
  | .nil => 0
  | .cons _ r => r.len + 1
mutual
def Tg.slots : Tg → List Nat
  | .name i => [i]
  | .tup ts => TgL.slots ts
  | .sub _ _ => []
  | .fld _ _ _ => []
def TgL.slots : TgL → List Nat
  | .nil => []
  | .cons t r => Tg.slots t ++ TgL.slots r
end
def callView : Expr → Option (Str × List Expr)
  | .Call (.Name x _) es [] _ => some (x, es)
  | _ => none
def methView : Expr → Option (Expr × Str × List Expr × Bool)
  | .Call (.Attribute o m apos) es [] pos => some (o, m, es, apos.endLine == pos.line)
  | _ => none
def nameView : Expr → Option Str
  | .Name x _ => some x
  | _ => none
theorem call_view {e : Expr} {x : Str} {es : List Expr} (h : callView e = some (x, es)) : ∃ p1 p, e = .Call (.Name x p1) es [] p := by
  unfold callView at h
  split at h
  · cases h; exact ⟨_, _, rfl⟩
  · cases h
theorem meth_view {e o : Expr} {m : Str} {es : List Expr} {b : Bool} (h : methView e = some (o, m, es, b)) : ∃ apos pos, e = .Call (.Attribute o m apos) es [] pos ∧ (apos.endLine == pos.line) = b := by
  unfold methView at h
  split at h
  · cases h; exact ⟨_, _, rfl, rfl⟩
  · cases h
theorem name_view {e : Expr} {x : Str} (h : nameView e = some x) : ∃ p, e = .Name x p := by
  unfold nameView at h
  split at h
  · cases h; exact ⟨_, rfl⟩
  · cases h
def boolB : BoolOp → Bool → Bool
  | .And, b => b
  | .Or, b => !b
def notSetB : Expr → Bool
  | .Set _ _ _ => false
  | _ => true
def fieldB (G : Cfg) (k i : Nat) (f : Str) : Bool := match G.cls[k]? with
  | some (_, lay) => decide (lay[i]? = some f) && decide (lay.length < 900)
  | none => false
theorem field_of {G : Cfg} {k i : Nat} {f : Str} (h : fieldB G k i f = true) : ∃ nm lay, G.cls[k]? = some (nm, lay) ∧ lay[i]? = some f ∧ lay.length < 900 := by
  unfold fieldB at h
  split at h
  · rename_i nm lay q
    simp only [Bool.and_eq_true, decide_eq_true_eq] at h
    exact ⟨nm, lay, q, h.1, h.2⟩
  · cases h
def fnB (B : Tb) (lim f : Nat) (x : Str) (ds : List DV) : Bool := match B.fns[f]? with
  | some fn => decide (fn.at_ = (x, none)) && decide (f < lim) && (decide (fn.dfl.drop (fn.dfl.length - ds.length) = ds) && !fn.kwo)
  | none => false
theorem fn_of_ {B : Tb} {lim f : Nat} {x : Str} {ds : List DV} (h : fnB B lim f x ds = true) : ∃ fn, B.fns[f]? = some fn ∧ fn.at_ = (x, none) ∧ f < lim ∧ fn.dfl.drop (fn.dfl.length - ds.length) = ds ∧ fn.kwo = false := by
  unfold fnB at h
  split at h
  · rename_i fn q
    simp only [Bool.and_eq_true, decide_eq_true_eq, Bool.not_eq_true'] at h
    exact ⟨fn, q, h.1.1, h.1.2, h.2.1, h.2.2⟩
  · cases h
def mtB (G : Cfg) (B : Tb) (lim f k : Nat) (m : Str) (ds : List DV) : Bool := match B.fns[f]?, G.cls[k]? with
  | some fn, some (nm, lay) => decide (fn.at_ = (nm, some m)) && decide (m ∉ lay) && decide (f < lim) && (decide (fn.dfl.drop (fn.dfl.length - ds.length) = ds) && !fn.kwo)
  | _, _ => false
theorem mt_of_ {G : Cfg} {B : Tb} {lim f k : Nat} {m : Str} {ds : List DV} (h : mtB G B lim f k m ds = true) : ∃ fn nm lay, B.fns[f]? = some fn ∧ G.cls[k]? = some (nm, lay) ∧ fn.at_ = (nm, some m) ∧ m ∉ lay ∧ f < lim ∧ fn.dfl.drop (fn.dfl.length - ds.length) = ds ∧ fn.kwo = false := by
  unfold mtB at h
  split at h
  · rename_i fn nm lay q1 q2
    simp only [Bool.and_eq_true, decide_eq_true_eq, Bool.not_eq_true'] at h
    exact ⟨fn, nm, lay, q1, q2, h.1.1.1, h.1.1.2, h.1.2, h.2.1, h.2.2⟩
  · cases h
def makeView : Expr → Option (Str × List Expr × List Keyword)
  | .Call (.Name x _) es kws _ => some (x, es, kws)
  | _ => none
theorem make_view {e : Expr} {x : Str} {es : List Expr} {kws : List Keyword} (h : makeView e = some (x, es, kws)) : ∃ p1 p, e = .Call (.Name x p1) es kws p := by
  unfold makeView at h
  split at h
  · cases h; exact ⟨_, _, rfl⟩
  · cases h
def mkB (G : Cfg) (B : Tb) (lim j f c n m : Nat) (x : Str) (ds : List (Nat ⊕ DV)) (ks : List Str) : Bool := match B.mks[j]?, G.cls[c]? with
  | some mk, some (nm, lay) => decide (mk.c = c) && decide (mk.f = f) && decide (mk.n = m) && decide (mk.ks = ks) && decide (mk.ds = ds) && decide (nm = x) && decide (lay.length = n) && decide (f + 1 < lim)
  | _, _ => false
theorem mk_of_ {G : Cfg} {B : Tb} {lim j f c n m : Nat} {x : Str} {ds : List (Nat ⊕ DV)} {ks : List Str} (h : mkB G B lim j f c n m x ds ks = true) : ∃ mk lay, B.mks[j]? = some mk ∧ G.cls[c]? = some (x, lay) ∧ mk.c = c ∧ mk.f = f ∧ mk.n = m ∧ mk.ks = ks ∧ mk.ds = ds ∧ lay.length = n ∧ f + 1 < lim := by
  unfold mkB at h
  split at h
  · rename_i mk nm lay q1 q2
    simp only [Bool.and_eq_true, decide_eq_true_eq] at h
    obtain ⟨⟨⟨⟨⟨⟨⟨a1, a2⟩, a3⟩, a4⟩, a5⟩, a6⟩, a7⟩, a8⟩ := h
    exact ⟨mk, lay, q1, by rw [q2, a6], a1, a2, a3, a4, a5, a7, a8⟩
  · cases h
def tabB (B : Tb) (j : Nat) (x : Str) (ks : List Str) : Bool := B.tabs.any fun t => decide (t.1 = x) && decide (t.2.map (·.1) = ks)
theorem tab_of_ {B : Tb} {j : Nat} {x : Str} {ks : List Str} (h : tabB B j x ks = true) : ∃ kvs, (x, kvs) ∈ B.tabs ∧ kvs.map (·.1) = ks := by
  obtain ⟨⟨y, kvs⟩, hm, q⟩ := List.any_eq_true.mp h
  simp only [Bool.and_eq_true, decide_eq_true_eq] at q
  exact ⟨kvs, by rw [← q.1]; exact hm, q.2⟩
def kwNames (kws : List Keyword) : List Str := kws.filterMap (·.arg)
def kwAll (kws : List Keyword) : Bool := kws.all (·.arg.isSome)
def keysB : List Str → List (Option Expr) → Bool
  | [], [] => true
  | k :: ks, some (.Constant (.str s) _ _) :: es => decide (k = s) && keysB ks es
  | _, _ => false
def ownN (c : CC) (own : List Nat) : List (Str × Nat) := own.map fun i => ((c.N[i]?).getD "", i)
def inBlk (c : CC) (scope : Scope) : CC := { c with sc := relS scope c.sc, blk := some scope }
section
variable (G : Cfg) (B : Tb)
mutual
def chkE : CC → E → Expr → Bool
  | c, .var i, e => (match e with
    | .Name x _ => decide (c.N[i]? = some x) && visB c.sc x && niceB x
    | _ => false)
  | _, .non, e => (match e with
    | .Constant .none _ _ => true
    | _ => false)
  | _, .bl b, e => (match e with
    | .Constant (.bool b') _ _ => b == b'
    | _ => false)
  | _, .int i, e => (match e with
    | .Constant (.int j) _ _ => decide (i = j)
    | _ => false)
  | _, .neg i, e => (match e with
    | .UnaryOp .USub (.Constant (.int j) _ _) _ => decide (i = j)
    | _ => false)
  | _, .str s, e => (match e with
    | .Constant (.str t) _ _ => decide (s = t)
    | _ => false)
  | c, .tup es, e => (match e with
    | .Tuple es' _ _ => chkA c es es' && decide (es.len < 1000)
    | _ => false)
  | c, .lst _ es, e => (match e with
    | .List es' _ => chkA c es es' && decide (es.len < 1000)
    | _ => false)
  | c, .bin o a b, e => (match e with
    | .BinOp a' op b' _ => opB o op && (chkE c a a' && chkE c b b')
    | _ => false)
  | c, .cat a b, e => (match e with
    | .BinOp a' op b' _ => opB .add op && (chkE c a a' && chkE c b b')
    | _ => false)
  | c, .cmp o a b, e => (match e with
    | .Compare a' ops bs _ => (match ops, bs with
      | [op], [b'] => (copB o op && !behindInMarks op b') && (chkE c a a' && chkE c b b')
      | _, _ => false)
    | _ => false)
  | c, .chain o o' a b d, e => (match e with
    | .Compare a' ops bs _ => (match ops, bs with
      | [op, op'], [b', d'] => (copB o op && copB o' op' && !lastMarks [op, op'] [b', d']) && (chkE c a a' && (chkE c b b' && chkE c d d'))
      | _, _ => false)
    | _ => false)
  | c, .bool isAnd es, e => (match e with
    | .BoolOp op es' _ => boolB op isAnd && chkA c es es'
    | _ => false)
  | c, .not a, e => (match e with
    | .UnaryOp .Not a' _ => chkE c a a'
    | _ => false)
  | c, .ifx t a b, e => (match e with
    | .IfExp t' a' b' _ => chkT c t t' && (chkE c a a' && chkE c b b')
    | _ => false)
  | c, .isin a t, e => (match callView e with
    | some (f, [a', n']) => (match nameView n' with
      | some n => decide (f = "isinstance") && (freeB B c "isinstance" && (decide (n = Str.ofString (tyS t)) && (freeB B c n && (notStar a' && chkE c a a'))))
      | none => false)
    | _ => false)
  | c, .idx a b, e => (match e with
    | .Subscript a' b' _ => notSlice b' && (chkE c a a' && chkE c b b')
    | _ => false)
  | c, .slice a lo hi, e => (match e with
    | .Subscript a' (.Slice lo' hi' none _) _ => chkE c a a' && (chkO c lo lo' && chkO c hi hi')
    | _ => false)
  | c, .attr a k i, e => (match e with
    | .Attribute a' f _ => fieldB G k i f && (plainBase a' && chkE c a a')
    | _ => false)
  | c, .call f es ds, e => (match callView e with
    | some (x, es') => fnB B c.lim f x ds && (glB c.sc x && (niceB x && (es'.all notStar && chkA c es es')))
    | none => false)
  | c, .meth f k o es ds, e => (match methView e with
    | some (o', m, es', l) => mtB G B c.lim f k m ds && (l && (decide (es'.length < 30) && (plainBase o' && (es'.all notStar && (chkE c o o' && chkA c es es')))))
    | none => false)
  | c, .bcall b es, e => (match callView e with
    | some (x, e0 :: er) => (decide (x = b.nm) && b.plain) && (freeB B c x && ((e0 :: er).all notStar && chkA c es (e0 :: er)))
    | _ => false)
  | c, .lenset a, e => (match callView e with
    | some (x, [i]) => (match callView i with
      | some (y, [a']) => decide (x = "len") && (decide (y = "set") && (freeB B c "len" && (freeB B c "set" && (notStar a' && chkE c a a'))))
      | _ => false)
    | _ => false)
  | c, .sortedset a, e => (match callView e with
    | some (x, [i]) => (match callView i with
      | some (y, [a']) => decide (x = "sorted") && (decide (y = "set") && (freeB B c "sorted" && (freeB B c "set" && (notStar a' && chkE c a a'))))
      | _ => false)
    | _ => false)
  | c, .dict _ ks vs, e => (match e with
    | .Dict keys values _ => keysB ks keys && (decide ks.Nodup && decide (0 < ks.length ∧ ks.length ≤ 15 ∧ keys.length = values.length) && chkA c vs values)
    | _ => false)
  | c, .make j f k n ds es kes, e => (match makeView e with
    | some (x, e0 :: er, kws) => mkB G B c.lim j f k n (er.length + 1) x ds (kwNames kws) && (kwAll kws && (glB c.sc x && (niceB x && ((e0 :: er).all notStar && (chkA c es (e0 :: er) && chkA c kes (kws.map (·.value)))))))
    | _ => false)
  | c, .bmeth m o es, e => (match methView e with
    | some (o', n, es', l) => decide (n = m.nm) && (l && (decide (es'.length < 29) && (plainBase o' && (es'.all notStar && (chkE c o o' && chkA c es es')))))
    | none => false)
  | c, .comp _ own t it ifs elt, e => (match e with
    | .ListComp elt' [⟨tg, iter, ifs', asy⟩] scope _ => (decide (asy = 0) && (blkC c.N c.sc scope (ownN c own) && (own.all fun i => decide (i < c.N.length)) && notSetB iter && t.slots.all fun i => decide (i ∈ own))) &&
        (chkI c it iter && (chkTg (inBlk c scope) t tg && (chkTL (inBlk c scope) ifs ifs' && (decide (ifs'.length ≤ 1) && chkE (inBlk c scope) elt elt'))))
    | _ => false)
  | c, .frz a, e => chkE c a e
  | c, .con j v, e => (match e with
    | .Name x _ => decide ((x, v) ∈ B.cons) && (glB c.sc x && niceB x)
    | _ => false)
  | c, .kin no j ks a, e => (match e with
    | .Compare a' ops bs _ => (match ops, bs with
      | [op], [b'] => (match nameView b' with
        | some x => (copB (if no then .notin else .in_) op && !behindInMarks op b') && (tabB B j x ks && (glB c.sc x && (niceB x && chkE c a a')))
        | none => false)
      | _, _ => false)
    | _ => false)
  | c, .kidx j kvs a, e => (match e with
    | .Subscript o' b' _ => (match nameView o' with
      | some x => decide ((x, kvs) ∈ B.tabs) && (glB c.sc x && (niceB x && (notSlice b' && chkE c a b')))
      | none => false)
    | _ => false)
  | c, .slco a lo hi, e => (match e with
    | .Subscript a' (.Slice lo' hi' none _) _ => chkE c a a' && (chkO c lo lo' && chkO c hi hi')
    | _ => false)
  | c, .rep a b, e => (match e with
    | .BinOp a' op b' _ => opB .mul op && (chkE c a a' && chkE c b b')
    | _ => false)
  | c, .join a b, e => (match methView e with
    | some (o', n, [e'], l) => decide (n = "join") && (l && (plainBase o' && (notStar e' && (chkE c a o' && chkE c b e'))))
    | _ => false)
  | c, .fstr fs, e => (match e with
    | .JoinedStr es _ => decide (2 ≤ es.length) && chkF c fs es
    | _ => false)
def chkF : CC → FL → List Expr → Bool
  | _, .nil, es => es.isEmpty
  | c, .lit s r, es => (match es with
    | .Constant (.str x) _ _ :: es => decide (x = s) && chkF c r es
    | _ => false)
  | c, .val a r, es => (match es with
    | .FormattedValue e k none _ :: es => decide (k = -1) && (chkE c a e && chkF c r es)
    | _ => false)
def chkA : CC → EL → List Expr → Bool
  | _, .nil, es => es.isEmpty
  | c, .cons a r, es => (match es with
    | e :: es => notStar e && (chkE c a e && chkA c r es)
    | [] => false)
def chkO : CC → EO → Option Expr → Bool
  | _, .none, e => e.isNone
  | c, .some a, e => (match e with
    | some e => chkE c a e
    | none => false)
def chkT : CC → T → Expr → Bool
  | c, .val a, e => plainTest e && chkE c a e
  | c, .cmp o a b, e => (match e with
    | .Compare a' ops bs _ => (match ops, bs with
      | [op], [b'] => (copB o op && !behindInMarks op b') && (chkE c a a' && chkE c b b')
      | _, _ => false)
    | _ => false)
  | c, .chain o o' a b d, e => (match e with
    | .Compare a' ops bs _ => (match ops, bs with
      | [op, op'], [b', d'] => (copB o op && copB o' op' && !lastMarks [op, op'] [b', d']) && (chkE c a a' && (chkE c b b' && chkE c d d'))
      | _, _ => false)
    | _ => false)
  | c, .bool isAnd ts, e => (match e with
    | .BoolOp op es' _ => boolB op isAnd && chkTL c ts es'
    | _ => false)
  | c, .not t, e => (match e with
    | .UnaryOp .Not a' _ => chkT c t a'
    | _ => false)
def chkTL : CC → TL → List Expr → Bool
  | _, .nil, es => es.isEmpty
  | c, .cons a r, es => (match es with
    | e :: es => chkT c a e && chkTL c r es
    | [] => false)
def chkI : CC → It → Expr → Bool
  | c, .seq a, e => chkE c a e
  | c, .range1 a, e => (match callView e with
    | some (x, [a']) => decide (x = "range") && (freeB B c "range" && (notStar a' && chkE c a a'))
    | _ => false)
  | c, .range2 a b, e => (match callView e with
    | some (x, [a', b']) => decide (x = "range") && (freeB B c "range" && (notStar a' && (notStar b' && (chkE c a a' && chkE c b b'))))
    | _ => false)
def chkTg : CC → Tg → Expr → Bool
  | c, .name i, e => (match e with
    | .Name x _ => storeB c i x
    | _ => false)
  | c, .tup ts, e => (match e with
    | .Tuple es _ _ => es.all notStar && chkTgs c ts es
    | _ => false)
  | c, .sub o i, e => (match e with
    | .Subscript o' i' _ => notSlice i' && (chkE c o o' && chkE c i i')
    | _ => false)
  | c, .fld o k i, e => (match e with
    | .Attribute o' f _ => fieldB G k i f && chkE c o o'
    | _ => false)
def chkTgs : CC → TgL → List Expr → Bool
  | _, .nil, es => es.isEmpty
  | c, .cons t r, es => (match es with
    | e :: es => chkTg c t e && chkTgs c r es
    | [] => false)
end
def noPar (t v : Expr) : Bool := match t, v with
  | .Tuple _ _ _, .Tuple _ _ _ => false
  | .List _ _, .Tuple _ _ _ => false
  | _, _ => true
/-- whether a name takes the comprehension's own store -/
def swapB (sc : Scope) (y : Str) (py : Pos) (scope : Scope) (pos : Pos) : Bool := isLocal sc y && py.line == pos.line && !(scope.names.any fun (n, k) => n == y && (k == .local || k == .cell))
/-- no comprehension, or one that is stored plainly -/
def plainStore (sc : Scope) (t v : Expr) : Bool := match v with
  | .ListComp _ _ scope pos => (match t with
    | .Name y py => !swapB sc y py scope pos
    | _ => true)
  | v => notComp v
def ownStore (sc : Scope) (t v : Expr) : Bool := match v with
  | .ListComp _ _ scope pos => (match t with
    | .Name y py => isLocal sc y && swapB sc y py scope pos
    | _ => false)
  | _ => false
mutual
def chkS : CC → S → Stmt → Bool
  | c, .asg t a, s => (match s with
    | .Assign [tg] v _ => (notStar tg && noPar tg v) && (plainStore c.sc tg v && (chkTg G B c t tg && chkE G B c a v))
    | _ => false)
  | c, .setc j fz own t it ifs elt, s => (match s with
    | .Assign [tg] v _ => ownStore c.sc tg v && (decide (nameView tg = c.N[j]?) && chkE G B c (.comp fz own t it ifs elt) v)
    | _ => false)
  | c, .par i j a b, s => (match s with
    | .Assign [.Tuple [.Name x px, .Name y py] _ _] (.Tuple [a', b'] _ _) _ => false
    | _ => false)
  | c, .fld o k i a, s => (match s with
    | .Assign [.Attribute o' f _] v _ => fieldB G k i f && (notComp v && (chkE G B c o o' && chkE G B c a v))
    | _ => false)
  | c, .augsub o i op a, s => (match s with
    | .AugAssign (.Subscript o' i' _) op' v _ => (opB op op' && notSlice i') && (chkE G B c o o' && (chkE G B c i i' && chkE G B c a v))
    | _ => false)
  | c, .augvar i op a, s => (match s with
    | .AugAssign (.Name x _) op' v _ => (opB op op' && storeB c i x) && chkE G B c a v
    | _ => false)
  | c, .expr a, s => (match s with
    | .Expr v _ => notComp v && chkE G B c a v
    | _ => false)
  | c, .ret a, s => (match s with
    | .Return (some v) _ => chkE G B c a v
    | _ => false)
  | _, .retN, s => (match s with
    | .Return none _ => true
    | _ => false)
  | c, .ife t a b, s => (match s with
    | .If t' a' b' _ => chkT G B c t t' && (chkSs c a a' && chkSs c b b')
    | _ => false)
  | c, .for_ t it b, s => (match s with
    | .For tg iter body [] _ => notSetB iter && (chkI G B c it iter && (chkTg G B c t tg && chkSs c b body))
    | _ => false)
  | c, .while_ t b, s => (match s with
    | .While t' body [] _ => chkT G B c t t' && chkSs c b body
    | _ => false)
  | _, .never, _ => true
  | _, .pass, s => (match s with
    | .Pass _ => true
    | _ => false)
  | _, .brk, s => (match s with
    | .Break _ => true
    | _ => false)
  | _, .cont, s => (match s with
    | .Continue _ => true
    | _ => false)
def chkSs : CC → SL → List Stmt → Bool
  | _, .nil, ss => ss.isEmpty
  | c, .frz _ r, ss => chkSs c r ss
  | c, .cons s r, ss => (match ss with
    | st :: ss => chkS c s st && chkSs c r ss
    | [] => false)
end
end
end Z
set_option Elab.async false
set_option linter.all false
set_option maxRecDepth 100000
set_option maxHeartbeats 4000000
namespace Z
open PySem PySem.Spec PyProof.Rows L2
/-! ### the context -/
structure Tab (G : Cfg) (B : Tb) (Φ : Nat → ZSp) (lim : Nat) (P : Program) (w : World) (K : PySem.W.Frag) (mg : Str → Option Value) (base : Heap) : Prop where
  fr : ∀ x ∈ B.free, mg x = none
  cl : ∀ (c : Nat) (nm : Str) (lay : List Str), G.cls[c]? = some (nm, lay) → Cls K (He.ga K nm) ∧ lay.Nodup ∧ ∀ f ∈ lay, NoAttr K (He.ga K nm) f
  fn : ∀ (i : Nat) (fn : Fn), i < lim → B.fns[i]? = some fn → ∃ fd, (∀ F0, FnOk P w K mg base (L2.CX P w) (i + 1) (He.fAd K fn.at_) fd fn.ps (conc (G.at F0) K (Φ i))) ∧
    (fn.kwo = false → ∀ j, j ≤ fn.dfl.length → ∃ ds dvs, Vals dvs ds ∧ (∀ F, RVs G K F dvs ((fn.dfl.drop j).map DV.pv)) ∧ Binds K fd fn.ps ds) ∧ PySem.W.keepIn K (.ref (He.fAd K fn.at_)) = true ∧
    (fn.at_.2 = none → mg fn.at_.1 = some (.ref (He.fAd K fn.at_))) ∧ ∀ m, fn.at_.2 = some m → Meth K (He.ga K fn.at_.1) m (He.fAd K fn.at_)
  mks : ∀ (j : Nat) (mk : Mkr), B.mks[j]? = some mk → mk.f < lim → ∃ nm lay fn fd g dvs, G.cls[mk.c]? = some (nm, lay) ∧ B.fns[mk.f]? = some fn ∧ (∀ F0, FnOk P w K mg base (L2.CX P w) (mk.f + 1) (He.fAd K fn.at_) fd fn.ps (conc (G.at F0) K (Φ mk.f))) ∧
    Mk K (He.ga K nm) (He.fAd K fn.at_) ∧ mg nm = some (.ref (He.ga K nm)) ∧ KBn K fd fn.ps (mk.n + 1) mk.ks g dvs ∧ ∀ F vs zs ps qs, RVs G K F vs ps → RVs G K F zs qs → zs.length = mk.ks.length → RVs G K F (dvs vs zs) (ps ++ arr mk.ds qs)
  co : ∀ (x : Str) (v : CV), (x, v) ∈ B.cons → ∃ u wv, mg x = some u ∧ RelV wv u ∧ ∀ F, RV G K F wv v.pv
  ta : ∀ (x : Str) (kvs : List (Str × DV)), (x, kvs) ∈ B.tabs → ∃ d es n, mg x = some (.ref d) ∧ KDict K w d es n ∧ ∀ z, (kvs.lookup z = none ∧ PySem.W.nsIn K d z = some none) ∨ ∃ v u wv, kvs.lookup z = some v ∧ PySem.W.nsIn K d z = some (some u) ∧ RelV wv u ∧ ∀ F, RV G K F wv v.pv
structure Ok (G : Cfg) (B : Tb) (Φ : Nat → ZSp) (c : CC) (X : Cx) (R : ZR) : Prop where
  hN : X.N = c.N
  nd : c.N.Nodup
  sc : X.env.scope = c.sc
  kd : c.sc.kind = .function
  fn : ∀ x, X.fn x = c.fn x
  calm : X.calm = true
  tk : Takes X (liftW G X.K R)
  po : PassesOwn (model X.prog X.w) X.A X.env X.xe
  tab : Tab G B Φ c.lim X.prog X.w X.K X.mg X.base
  room : Room c.lim X.A
section
variable {G : Cfg} {B : Tb} {Φ : Nat → ZSp} {c : CC} {X : Cx} {R : ZR}
theorem Ok.units (ok : Ok G B Φ c X R) : X.A.units + 65 < cLine := by have := ok.room.un; omega
theorem vis_of {sc : Scope} {x : Str} (h : visB sc x = true) : Vis sc x := by
  unfold visB at h
  split at h
  · exact .inl (by assumption)
  · exact .inr (.inl (by assumption))
  · exact .inr (.inr (by assumption))
  · cases h
theorem loc_of {sc : Scope} {x : Str} (h : locB sc x = true) : Loc sc x := by
  unfold locB at h
  split at h
  · exact .inl (by assumption)
  · exact .inr (by assumption)
  · cases h
theorem local_of {sc : Scope} {x : Str} (h : isLocal sc x = true) : sc.names.lookup x = some .local := by
  unfold isLocal at h
  split at h
  · assumption
  · cases h
theorem gl_of {sc : Scope} {x : Str} (h : glB sc x = true) : sc.names.lookup x = some .globalImplicit := by
  unfold glB at h
  split at h
  · assumption
  · cases h
theorem nice_of {x : Str} (h : niceB x = true) : (x == ("__debug__" : Str)) = false ∧ (x == ("__classdict__" : Str)) = false ∧ x ≠ "__name__" := by
  unfold niceB at h
  simp only [Bool.and_eq_true, Bool.not_eq_true', decide_eq_false_iff_not] at h
  exact ⟨h.1.1, h.1.2, h.2⟩
theorem Ok.gl (ok : Ok G B Φ c X R) {x : Str} (h : glB c.sc x = true) : Gl X x := by
  show X.env.scope.names.lookup x = _
  rw [ok.sc]; exact gl_of h
theorem Ok.free (ok : Ok G B Φ c X R) {x : Str} (h : freeB B c x = true) : Gl X x ∧ X.mg x = none ∧ (x == ("__debug__" : Str)) = false ∧ x ≠ "__name__" := by
  unfold freeB at h
  simp only [Bool.and_eq_true, decide_eq_true_eq] at h
  have n := nice_of h.2
  exact ⟨ok.gl h.1.1, ok.tab.fr x h.1.2, n.1, n.2.2⟩
theorem op_of {o : BOp} {op : Operator} (h : opB o op = true) : op = o.op := by
  cases o <;> cases op <;> first | rfl | cases h
theorem cop_of {o : COp} {op : CmpOp} (h : copB o op = true) : op = o.op := by
  cases o <;> cases op <;> first | rfl | cases h
theorem lookup_zip : ∀ {lay : List Str} {vs : List V} {i : Nat} {f : Str} {u : V}, lay.Nodup → lay[i]? = some f → vs[i]? = some u → (lay.zip vs).lookup f = some u
  | [], _, _, _, _, _, h, _ => by simp at h
  | _ :: _, [], _, _, _, _, _, h => by simp at h
  | a :: lay, v :: vs, 0, f, u, _, h1, h2 => by
    simp at h1 h2
    subst h1 h2
    simp
  | a :: lay, v :: vs, i + 1, f, u, nd, h1, h2 => by
    obtain ⟨n1, n2⟩ := List.nodup_cons.mp nd
    have h1 : lay[i]? = some f := by simpa using h1
    have h2 : vs[i]? = some u := by simpa using h2
    have ne : (f == a) = false := beq_eq_false_iff_ne.mpr fun e => n1 (e ▸ List.mem_of_getElem? h1)
    rw [List.zip_cons_cons, List.lookup_cons, ne]
    exact lookup_zip n2 h1 h2
/-! ### names, constants -/
theorem z_var (ok : Ok G B Φ c X R) {i : Nat} {x : Str} {pos : Pos} (h1 : c.N[i]? = some x) (h2 : visB c.sc x = true) (h3 : niceB x = true) : PE X (.Name x pos) (liftE G X.K (semE Φ R (.var i))) := by
  have n := nice_of h3
  refine peI (pe_var (i := i) (by rw [ok.hN]; exact h1) (by rw [ok.sc]; exact vis_of h2) n.1 n.2.1) fun σV H Q ⟨F, σ, M, Q0, a, rs, z, t⟩ => ?_
  have z : (match σ[i]? with
    | some (some v) => Q0 v M
    | _ => False) := z
  cases q : σ[i]? with
  | none => rw [q] at z; exact z.elim
  | some o =>
    cases o with
    | none => rw [q] at z; exact z.elim
    | some p =>
      rw [q] at z
      obtain ⟨v, e, r⟩ := rs.at_ i p q
      exact ⟨v, e, t p M F H v (Same.refl F) a r z⟩
/-! ### displays -/
theorem z_tup {es : List Expr} {n : Nat} {zs : Zs → Mh → (List PV → Mh → Prop) → Prop} {k : Nat} {pos : Pos} (h : PA X es (liftA G X.K n zs)) (hn : n < 1000) : PE X (.Tuple es k pos) (liftE G X.K fun σ M Q => zs σ M fun vs M1 => Q (.tup vs) M1) :=
  peI (pe_tup h) fun σV H Q ⟨F, σ, M, Q0, a, rs, z, t⟩ => ⟨F, σ, M, _, a, rs, z, fun ps M1 F1 H1 vs s1 a1 r1 l1 q1 => ⟨by rw [l1, sizeLine_eq]; omega, fun p hp => by
    obtain ⟨A', s'⟩ := a1.newF (p := p) (o := .tup vs) hp
    exact t _ M1 _ _ _ (s1.trans s') A' (.tup (SqT.of upd_same) (r1.mono s')) q1⟩⟩
theorem z_lst {es : List Expr} {n : Nat} {zs : Zs → Mh → (List PV → Mh → Prop) → Prop} {pos : Pos} (fz : Bool) (h : PA X es (liftA G X.K n zs)) (hn : n < 1000) : PE X (.List es pos) (liftE G X.K fun σ M Q => zs σ M fun vs M1 => (match fz with
    | true => Q (.lst vs) M1
    | false => ∀ p, M1 p = none → Q (.ref p) (put M1 p (.lst vs)))) :=
  peI (pe_lst h) fun σV H Q ⟨F, σ, M, Q0, a, rs, z, t⟩ => ⟨F, σ, M, _, a, rs, z, fun ps M1 F1 H1 vs s1 a1 r1 l1 q1 => ⟨by rw [l1, sizeLine_eq]; omega, fun p hp => by
    cases fz with
    | true =>
      obtain ⟨A', s'⟩ := a1.newF (p := p) (o := .lst vs) hp
      exact t _ M1 _ _ _ (s1.trans s') A' (.lst upd_same (r1.mono s')) q1
    | false => exact t _ _ F1 _ _ s1 (a1.newM (m := .lst ps) hp ⟨vs, rfl, r1⟩) (.ref p) (q1 p (a1.free hp).1)⟩⟩
/-! ### operators -/
variable {za zb zc : Zs → Mh → ZQ → Prop} {a b d : Expr} {pos : Pos}
theorem z_bin (o : BOp) (ha : PE X a (liftE G X.K za)) (hb : PE X b (liftE G X.K zb)) : PE X (.BinOp a o.op b pos) (liftE G X.K fun σ M Q => za σ M fun x M1 => zb σ M1 fun y M2 => zbin o x y M2 Q) := by
  obtain ⟨r, h1, h2⟩ := snd_bin (G := G) (X := X) o
  exact zbin2 (pe_op h1 ha hb) h2
theorem z_cat (ha : PE X a (liftE G X.K za)) (hb : PE X b (liftE G X.K zb)) : PE X (.BinOp a .Add b pos) (liftE G X.K fun σ M Q => za σ M fun x M1 => zb σ M1 fun y M2 => zcat x y M2 Q) :=
  zbin2 (pe_op op_cat ha hb) snd_cat
theorem z_cmp (hu : X.A.units + 65 < cLine) (o : COp) (ha : PE X a (liftE G X.K za)) (hb : PE X b (liftE G X.K zb)) (hm : behindInMarks o.op b = false) : PE X (.Compare a [o.op] [b] pos) (liftE G X.K fun σ M Q => za σ M fun x M1 => zb σ M1 fun y M2 => zcmp o x y M2 Q) := by
  obtain ⟨r, h1, h2⟩ := snd_cmp (G := G) (X := X) hu o
  exact zbin2 (pe_cmpR h1 ha hb hm) h2
theorem zt_cmp (hu : X.A.units + 65 < cLine) (o : COp) (ha : PE X a (liftE G X.K za)) (hb : PE X b (liftE G X.K zb)) (hm : behindInMarks o.op b = false) : PT X (.Compare a [o.op] [b] pos) (liftT G X.K fun σ M k => za σ M fun x M1 => zb σ M1 fun y M2 => zcmp o x y M2 fun z M3 => (match z with
    | .bl b => k b M3
    | _ => False)) := by
  obtain ⟨r, h1, h2⟩ := snd_cmp (G := G) (X := X) hu o
  refine ptI (pt_cmpR h1 ha hb hm) fun σV H k ⟨F, σ, M, k0, A, rs, z, t⟩ => ?_
  refine ⟨F, σ, M, _, A, rs, z, fun p M1 F1 H1 v s1 a1 r1 q1 => ⟨F1, σ, M1, _, a1, rs.mono s1, q1, fun q M2 F2 H2 w s2 a2 r2 q2 => ?_⟩⟩
  refine h2 F2 M2 H2 v w p q _ _ a2 (r1.mono s2) r2 q2 fun p3 M3 F3 H3 v3 s3 a3 r3 q3 => ?_
  cases r3 with
  | bl b => exact ⟨b, rfl, t b M3 F3 H3 ((s1.trans s2).trans s3) a3 q3⟩
  | _ => exact False.elim q3
theorem z_chain (hu : X.A.units + 65 < cLine) (o o' : COp) (ha : PE X a (liftE G X.K za)) (hb : PE X b (liftE G X.K zb)) (hc : PE X d (liftE G X.K zc)) (hm : lastMarks [o.op, o'.op] [b, d] = false) :
    PE X (.Compare a [o.op, o'.op] [b, d] pos) (liftE G X.K fun σ M Q => za σ M fun x M1 => zb σ M1 fun y M2 => zcmp o x y M2 fun z M3 => (match z with
    | .bl k => br k (zc σ M3 fun w M4 => zcmp o' y w M4 Q) (Q (.bl false) M3)
    | _ => False)) := by
  obtain ⟨r, h1, h2⟩ := snd_cmp (G := G) (X := X) hu o
  obtain ⟨r', h1', h2'⟩ := snd_cmp (G := G) (X := X) hu o'
  refine peI (pe_chain h1 h1' ha hb hc hm) fun σV H Q ⟨F, σ, M, Q0, A, rs, z, t⟩ => ?_
  refine ⟨F, σ, M, _, A, rs, z, fun p M1 F1 H1 v s1 a1 r1 q1 => ⟨F1, σ, M1, _, a1, rs.mono s1, q1, fun q M2 F2 H2 w s2 a2 r2 q2 => ?_⟩⟩
  refine h2 F2 M2 H2 v w p q _ _ a2 (r1.mono s2) r2 q2 fun p3 M3 F3 H3 v3 s3 a3 r3 q3 => ?_
  cases r3 with
  | bl k =>
    obtain ⟨b1, b2⟩ := br_elim q3
    refine ⟨k, rfl, ?_⟩
    cases k with
    | true =>
      rw [if_pos rfl]
      exact ⟨F3, σ, M3, _, a3, rs.mono ((s1.trans s2).trans s3), b1 rfl, fun p4 M4 F4 H4 v4 s4 a4 r4 q4 => h2' F4 M4 H4 w v4 q p4 _ _ a4 ((r2.mono s3).mono s4) r4 q4 (t.mono (((s1.trans s2).trans s3).trans s4))⟩
    | false =>
      rw [if_neg (by simp)]
      exact t _ M3 F3 H3 _ ((s1.trans s2).trans s3) a3 (.bl false) (b2 rfl)
  | _ => exact False.elim q3
theorem zt_chain (hu : X.A.units + 65 < cLine) (o o' : COp) (ha : PE X a (liftE G X.K za)) (hb : PE X b (liftE G X.K zb)) (hc : PE X d (liftE G X.K zc)) (hm : lastMarks [o.op, o'.op] [b, d] = false) :
    PT X (.Compare a [o.op, o'.op] [b, d] pos) (liftT G X.K fun σ M k => za σ M fun x M1 => zb σ M1 fun y M2 => zcmp o x y M2 fun z M3 => (match z with
    | .bl j => br j (zc σ M3 fun w M4 => zcmp o' y w M4 fun z M5 => (match z with
      | .bl b => k b M5
      | _ => False)) (k false M3)
    | _ => False)) := by
  obtain ⟨r, h1, h2⟩ := snd_cmp (G := G) (X := X) hu o
  obtain ⟨r', h1', h2'⟩ := snd_cmp (G := G) (X := X) hu o'
  refine ptI (pt_chain h1 h1' ha hb hc hm) fun σV H kk ⟨F, σ, M, k0, A, rs, z, t⟩ => ?_
  refine ⟨F, σ, M, _, A, rs, z, fun p M1 F1 H1 v s1 a1 r1 q1 => ⟨F1, σ, M1, _, a1, rs.mono s1, q1, fun q M2 F2 H2 w s2 a2 r2 q2 => ?_⟩⟩
  refine h2 F2 M2 H2 v w p q _ _ a2 (r1.mono s2) r2 q2 fun p3 M3 F3 H3 v3 s3 a3 r3 q3 => ?_
  cases r3 with
  | bl k =>
    obtain ⟨b1, b2⟩ := br_elim q3
    refine ⟨k, rfl, ?_⟩
    cases k with
    | true =>
      rw [if_pos rfl]
      refine ⟨F3, σ, M3, _, a3, rs.mono ((s1.trans s2).trans s3), b1 rfl, fun p4 M4 F4 H4 v4 s4 a4 r4 q4 => h2' F4 M4 H4 w v4 q p4 _ _ a4 ((r2.mono s3).mono s4) r4 q4 fun p5 M5 F5 H5 v5 s5 a5 r5 q5 => ?_⟩
      cases r5 with
      | bl b => exact ⟨b, rfl, t b M5 F5 H5 ((((s1.trans s2).trans s3).trans s4).trans s5) a5 q5⟩
      | _ => exact False.elim q5
    | false =>
      rw [if_neg (by simp)]
      exact ⟨false, rfl, t false M3 F3 H3 ((s1.trans s2).trans s3) a3 (b2 rfl)⟩
  | _ => exact False.elim q3
theorem z_not (ha : PE X a (liftE G X.K za)) : PE X (.UnaryOp .Not a pos) (liftE G X.K fun σ M Q => za σ M fun x M1 => (match x with
    | .bl b => Q (.bl (!b)) M1
    | _ => False)) :=
  peI (pe_not ha) fun σV H Q ⟨F, σ, M, Q0, A, rs, z, t⟩ => ⟨F, σ, M, _, A, rs, z, fun p M1 F1 H1 v s1 a1 r1 q1 => by
    cases r1 with
    | bl b => exact ⟨b, rfl, t _ M1 F1 H1 _ s1 a1 (.bl _) q1⟩
    | _ => exact False.elim q1⟩
theorem z_neg {i : Int} {k : Nat} {p2 : Pos} : PE X (.UnaryOp .USub (.Constant (.int i) k p2) pos) (liftE G X.K fun _ M Q => Q (.int (-i)) M) :=
  peI (pe_un un_neg pe_int) fun σV H Q ⟨F, σ, M, Q0, A, rs, z, t⟩ => ⟨i, rfl, t _ M F H _ (Same.refl F) A (.int _) z⟩
theorem z_idx (hu : X.A.units + 1 < cLine) (ha : PE X a (liftE G X.K za)) (hb : PE X b (liftE G X.K zb)) (hs : notSlice b = true) : PE X (.Subscript a b pos) (liftE G X.K fun σ M Q => za σ M fun x M1 => zb σ M1 fun y M2 => zidx x y M2 Q) := by
  obtain ⟨r, h1, h2⟩ := snd_idx (G := G) (X := X) hu
  exact zbin2 (pe_ix h1 ha hb (ix_of hs)) h2
theorem z_isin (ok : Ok G B Φ c X R) (t : Ty) {f n : Str} {p1 p2 : Pos} (hf : f = "isinstance") (h1 : freeB B c "isinstance" = true) (hn : n = Str.ofString (tyS t)) (h2 : freeB B c n = true) (hs : notStar a = true) (ha : PE X a (liftE G X.K za)) :
    PE X (.Call (.Name f p1) [a, .Name n p2] [] pos) (liftE G X.K fun σ M Q => za σ M fun x M1 => zisin t x M1 Q) := by
  subst hf
  obtain ⟨g1, m1, d1, n1⟩ := ok.free h1
  obtain ⟨g2, m2, d2, n2⟩ := ok.free h2
  have hbt : bootBuiltins n = some (.type (tyS t)) := by rw [hn]; cases t <;> decide +kernel
  have hty : PE X (.Name n p2) (tC (.ty (tyS t))) := pe_bltn g2 m2 hbt rfl n2 d2
  refine peI (pe_callB call_isi g1 m1 boot_isinstance (pa_cons ha (pa_cons hty pa_nil rfl) (star_of hs _ X.env)) n1 d1 (star_of hs _ X.env) (stars_of rfl pos X.env).1) fun σV H Q ⟨F, σ, M, Q0, A, rs, z, tq⟩ => ?_
  exact ⟨F, σ, M, _, A, rs, z, fun p M1 F1 H1 v s1 a1 r1 q1 => snd_isin t a1 r1 q1 (tq.mono s1)⟩
theorem z_con (ok : Ok G B Φ c X R) {x : Str} {v : CV} (hj : (x, v) ∈ B.cons) (hg : glB c.sc x = true) (hn : niceB x = true) : PE X (.Name x pos) (liftE G X.K fun _ M Q => Q v.pv M) := by
  obtain ⟨u, wv, h1, h2, h3⟩ := ok.tab.co x v hj
  exact zcst (pe_glob (ok.gl hg) h1 h2 (nice_of hn).1) h3
theorem lookup_keys {kvs : List (Str × DV)} {z : Str} : (kvs.map (·.1)).contains z = (kvs.lookup z).isSome := by
  induction kvs with
  | nil => rfl
  | cons p r ih =>
    obtain ⟨k, v⟩ := p
    rw [List.map_cons, List.contains_cons, List.lookup_cons, ih]
    cases z == k <;> rfl
theorem z_kin (ok : Ok G B Φ c X R) (no : Bool) {j : Nat} {x : Str} {ks : List Str} {p2 : Pos} (hj : tabB B j x ks = true) (hg : glB c.sc x = true) (hn : niceB x = true) (ha : PE X a (liftE G X.K za)) (hm : behindInMarks (if no then COp.notin else COp.in_).op (.Name x p2) = false) :
    PE X (.Compare a [(if no then COp.notin else COp.in_).op] [.Name x p2] pos) (liftE G X.K fun σ M Q => za σ M fun y M1 => zkin no ks y M1 Q) := by
  obtain ⟨kvs, hk, rfl⟩ := tab_of_ hj
  obtain ⟨d, es, n, h1, D, h3⟩ := ok.tab.ta x kvs hk
  have key : ∀ {F M H v p Q0 Q}, Ab G X.K F M H → RV G X.K F v p → zkin no (kvs.map (·.1)) p M Q0 → TQ G X.K F Q0 Q → ∃ (z : Str) (r : Option Value), v = .str z ∧ PySem.W.nsIn X.K d z = some r ∧ Q (.bl (if no then !r.isSome else r.isSome)) H := fun {F M H v p Q0 Q} A r h t => by
    cases r with
    | str s =>
      have h : Q0 (.bl (if no then !(kvs.map (·.1)).contains s else (kvs.map (·.1)).contains s)) M := h
      rcases h3 s with ⟨e1, e2⟩ | ⟨v, u, wv, e1, e2, _⟩
      · refine ⟨s, none, rfl, e2, ?_⟩
        rw [lookup_keys, e1] at h
        exact t _ M F H _ (Same.refl F) A (.bl _) h
      · refine ⟨s, some u, rfl, e2, ?_⟩
        rw [lookup_keys, e1] at h
        exact t _ M F H _ (Same.refl F) A (.bl _) h
    | _ => exact False.elim h
  cases no with
  | true =>
    refine peI (pe_cmpR (op_notIn_kd D) ha (pe_glob (ok.gl hg) h1 (show RelV (.ref d) (.ref d) from rfl) (nice_of hn).1) hm) fun σV H Q ⟨F, σ, M, Q0, A, rs, z, t⟩ => ⟨F, σ, M, _, A, rs, z, fun p M1 F1 H1 v s1 a1 r1 q1 => ?_⟩
    obtain ⟨z, r, e, h, q⟩ := key a1 r1 q1 (t.mono s1)
    exact ⟨z, r, e, rfl, h, q⟩
  | false =>
    refine peI (pe_cmpR (op_in_kd D) ha (pe_glob (ok.gl hg) h1 (show RelV (.ref d) (.ref d) from rfl) (nice_of hn).1) hm) fun σV H Q ⟨F, σ, M, Q0, A, rs, z, t⟩ => ⟨F, σ, M, _, A, rs, z, fun p M1 F1 H1 v s1 a1 r1 q1 => ?_⟩
    obtain ⟨z, r, e, h, q⟩ := key a1 r1 q1 (t.mono s1)
    exact ⟨z, r, e, rfl, h, q⟩
theorem z_kidx (ok : Ok G B Φ c X R) {x : Str} {kvs : List (Str × DV)} {p2 : Pos} (hj : (x, kvs) ∈ B.tabs) (hg : glB c.sc x = true) (hn : niceB x = true) (hs : notSlice a = true) (ha : PE X a (liftE G X.K za)) :
    PE X (.Subscript (.Name x p2) a pos) (liftE G X.K fun σ M Q => za σ M fun y M1 => zkidx kvs y M1 Q) := by
  obtain ⟨d, es, n, h1, D, h3⟩ := ok.tab.ta x kvs hj
  refine peI (pe_ix ix_kdict (pe_glob (ok.gl hg) h1 (show RelV (.ref d) (.ref d) from rfl) (nice_of hn).1) ha (ix_of hs)) fun σV H Q ⟨F, σ, M, Q0, A, rs, z, t⟩ => ⟨F, σ, M, _, A, rs, z, fun p M1 F1 H1 v s1 a1 r1 q1 => ?_⟩
  cases r1 with
  | str s =>
    obtain ⟨v, hv, q1⟩ := q1
    rcases h3 s with ⟨e1, _⟩ | ⟨v', u, wv, e1, e2, e3, e4⟩
    · rw [e1] at hv; cases hv
    · rw [e1] at hv
      cases hv
      exact ⟨d, s, wv, rfl, rfl, ⟨es, n, u, D.at_, D.lit, e2, e3⟩, t _ M1 F1 H1 _ s1 a1 (e4 F1) q1⟩
  | _ => exact False.elim q1
theorem z_rep (ha : PE X a (liftE G X.K za)) (hb : PE X b (liftE G X.K zb)) : PE X (.BinOp a .Mult b pos) (liftE G X.K fun σ M Q => za σ M fun x M1 => zb σ M1 fun y M2 => zrep x y M2 Q) :=
  zbin2 (pe_op op_rep ha hb) fun F M H x y p q Q0 Q A rx ry h t => by
    obtain ⟨ad, vs, xs, rfl, hq, rr, h⟩ := rdM_of A rx h
    cases ry with
    | int k =>
      obtain ⟨⟨g1, g2, g3⟩, h⟩ := h
      exact ⟨ad, k, vs, rfl, rfl, hq, g1, g2, by rw [rr.length]; exact g3, fun p hp => t _ _ F _ _ (Same.refl F) (A.newM (m := .lst (List.replicate k.toNat xs).flatten) hp ⟨_, rfl, RVs'.rep rr k.toNat⟩) (.ref p) (h p (A.free hp).1)⟩
    | _ => exact False.elim h
theorem z_attr (ok : Ok G B Φ c X R) {f nm : Str} {k i : Nat} {lay : List Str} (hc : G.cls[k]? = some (nm, lay)) (hl : lay[i]? = some f) (hb : plainBase a = true) (ha : PE X a (liftE G X.K za)) : PE X (.Attribute a f pos) (liftE G X.K fun σ M Q => za σ M fun x M1 => zattr k i x M1 Q) := by
  obtain ⟨cl, nd, na⟩ := ok.tab.cl k nm lay hc
  have hna := na f (List.mem_of_getElem? hl)
  refine peI (pe_fld ha (base_of hb f X.env)) fun σV H Q ⟨F, σ, M, Q0, A, rs, z, t⟩ => ⟨F, σ, M, _, A, rs, z, fun p M1 F1 H1 v s1 a1 r1 q1 => ?_⟩
  cases r1 with
  | @ins ad dx c' nm' lay' kvs vs fs e1 e2 e3 e5 e6 e4 =>
    obtain ⟨rfl, w, hw, q1⟩ := q1
    rw [hc] at e1
    cases e1
    obtain ⟨u, hu, ru⟩ := e4.get hw
    refine ⟨ad, _, dx, _, u, rfl, a1.sub _ _ e2, cl, hna, e5 i f u hl hu, t _ M1 F1 H1 u s1 a1 ru q1⟩
  | ref ad =>
    obtain ⟨fs, w, e, hw, q1⟩ := q1
    obtain ⟨_, o, ho, nm', lay', dx, kvs, e1, rfl, e3, e4, e5, e6⟩ := a1.mu ad _ e
    rw [hc] at e1
    cases e1
    obtain ⟨u, hu, ru⟩ := e6 i w f hw hl
    exact ⟨ad, _, dx, kvs, u, rfl, ho, cl, hna, hu, t _ M1 F1 H1 u s1 a1 ru q1⟩
  | _ => exact False.elim q1
end
end Z
set_option Elab.async false
set_option linter.all false
set_option maxRecDepth 100000
set_option maxHeartbeats 4000000
namespace Z
open PySem PySem.Spec PyProof.Rows L2
section
variable {G : Cfg} {B : Tb} {Φ : Nat → ZSp} {c : CC} {X : Cx} {R : ZR} {za zb zc : Zs → Mh → ZQ → Prop} {a b d e o : Expr} {es : List Expr} {pos apos : Pos} {n : Nat} {zs : Zs → Mh → (List PV → Mh → Prop) → Prop}
/-! ### arguments -/
theorem za_nil : PA X [] (liftA G X.K 0 fun _ M Q => Q [] M) := paI pa_nil fun σV H Q ⟨F, σ, M, Q0, A, rs, z, t⟩ => t [] M F H [] (Same.refl F) A .nil rfl z
theorem za_cons (hs : notStar e = true) (he : PE X e (liftE G X.K za)) (hr : PA X es (liftA G X.K n zs)) : PA X (e :: es) (liftA G X.K (n + 1) fun σ M Q => za σ M fun x M1 => zs σ M1 fun xs M2 => Q (x :: xs) M2) :=
  paI (pa_cons he hr (star_of hs es X.env)) fun σV H Q ⟨F, σ, M, Q0, A, rs, z, t⟩ => ⟨F, σ, M, _, A, rs, z, fun p M1 F1 H1 v s1 a1 r1 q1 => ⟨F1, σ, M1, _, a1, rs.mono s1, q1, fun ps M2 F2 H2 vs s2 a2 r2 l2 q2 =>
    t _ M2 F2 H2 _ (s1.trans s2) a2 (.cons (r1.mono s2) r2) (by rw [List.length_cons, l2]) q2⟩⟩
/-! ### and, or -/
theorem z_one {op : BoolOp} (h : PE X a (liftE G X.K za)) : PE X (.BoolOp op [a] pos) (liftE G X.K za) := pe_one h
theorem z_and {rest : List Expr} (ha : PE X a (liftE G X.K za)) (hb : PE X (.BoolOp .And (b :: rest) pos) (liftE G X.K zb)) : PE X (.BoolOp .And (a :: b :: rest) pos) (liftE G X.K fun σ M Q => za σ M fun x M1 => (match x with
      | .bl k => br k (zb σ M1 Q) (Q (.bl false) M1)
      | _ => False)) :=
  peI (pe_and ha hb) fun σV H Q ⟨F, σ, M, Q0, A, rs, z, t⟩ => ⟨F, σ, M, _, A, rs, z, fun p M1 F1 H1 v s1 a1 r1 q1 => by
    cases r1 with
    | bl k =>
      obtain ⟨b1, b2⟩ := br_elim q1
      refine ⟨k, rfl, ?_⟩
      cases k with
      | true => rw [if_pos rfl]; exact ⟨F1, σ, M1, Q0, a1, rs.mono s1, b1 rfl, t.mono s1⟩
      | false => rw [if_neg (by simp)]; exact t _ M1 F1 H1 _ s1 a1 (.bl _) (b2 rfl)
    | _ => exact False.elim q1⟩
theorem z_or {rest : List Expr} (ha : PE X a (liftE G X.K za)) (hb : PE X (.BoolOp .Or (b :: rest) pos) (liftE G X.K zb)) : PE X (.BoolOp .Or (a :: b :: rest) pos) (liftE G X.K fun σ M Q => za σ M fun x M1 => (match x with
      | .bl k => br k (Q (.bl true) M1) (zb σ M1 Q)
      | _ => False)) :=
  peI (pe_or ha hb) fun σV H Q ⟨F, σ, M, Q0, A, rs, z, t⟩ => ⟨F, σ, M, _, A, rs, z, fun p M1 F1 H1 v s1 a1 r1 q1 => by
    cases r1 with
    | bl k =>
      obtain ⟨b1, b2⟩ := br_elim q1
      refine ⟨k, rfl, ?_⟩
      cases k with
      | true => rw [if_pos rfl]; exact t _ M1 F1 H1 _ s1 a1 (.bl _) (b1 rfl)
      | false => rw [if_neg (by simp)]; exact ⟨F1, σ, M1, Q0, a1, rs.mono s1, b2 rfl, t.mono s1⟩
    | _ => exact False.elim q1⟩
/-! ### tests -/
variable {ta tb : Zs → Mh → (Bool → Mh → Prop) → Prop}
theorem zt_val (hp : plainTest e = true) (h : PE X e (liftE G X.K za)) : PT X e (liftT G X.K fun σ M k => za σ M fun x M1 => ztru x M1 fun b => k b M1) :=
  ptI (pt_truth h (test_of hp X.env)) fun σV H k ⟨F, σ, M, k0, A, rs, z, t⟩ => ⟨F, σ, M, _, A, rs, z, fun p M1 F1 H1 v s1 a1 r1 q1 => by
    obtain ⟨b, h1, h2⟩ := snd_tru a1 r1 q1
    exact ⟨b, h1, t b M1 F1 H1 s1 a1 h2⟩⟩
theorem zt_not (h : PT X a (liftT G X.K ta)) : PT X (.UnaryOp .Not a pos) (liftT G X.K fun σ M k => ta σ M fun b M1 => k (!b) M1) :=
  ptI (pt_not h) fun σV H k ⟨F, σ, M, k0, A, rs, z, t⟩ => ⟨F, σ, M, _, A, rs, z, fun b M1 F1 H1 s1 a1 q1 => t _ M1 F1 H1 s1 a1 q1⟩
theorem zw_and1 (h : PT X a (liftT G X.K ta)) : PW X (.BoolOp .And [a] pos) (liftT G X.K ta) := pw_and1 h
theorem zw_or1 (h : PT X a (liftT G X.K ta)) : PW X (.BoolOp .Or [a] pos) (liftT G X.K ta) := pw_or1 h
theorem zw_and {rest : List Expr} (ha : PT X a (liftT G X.K ta)) (hb : PW X (.BoolOp .And (b :: rest) pos) (liftT G X.K tb)) : PW X (.BoolOp .And (a :: b :: rest) pos) (liftT G X.K fun σ M k => ta σ M fun b M1 => br b (tb σ M1 k) (k false M1)) :=
  pwI (pw_and ha hb) fun σV H k ⟨F, σ, M, k0, A, rs, z, t⟩ => ⟨F, σ, M, _, A, rs, z, fun b M1 F1 H1 s1 a1 q1 => by
    obtain ⟨b1, b2⟩ := br_elim q1
    cases b with
    | true => rw [if_pos rfl]; exact ⟨F1, σ, M1, k0, a1, rs.mono s1, b1 rfl, fun b2 M2 F2 H2 s2 a2 q2 => t b2 M2 F2 H2 (s1.trans s2) a2 q2⟩
    | false => rw [if_neg (by simp)]; exact t _ M1 F1 H1 s1 a1 (b2 rfl)⟩
theorem zw_or {rest : List Expr} (ha : PT X a (liftT G X.K ta)) (hb : PW X (.BoolOp .Or (b :: rest) pos) (liftT G X.K tb)) : PW X (.BoolOp .Or (a :: b :: rest) pos) (liftT G X.K fun σ M k => ta σ M fun b M1 => br b (k true M1) (tb σ M1 k)) :=
  pwI (pw_or ha hb) fun σV H k ⟨F, σ, M, k0, A, rs, z, t⟩ => ⟨F, σ, M, _, A, rs, z, fun b M1 F1 H1 s1 a1 q1 => by
    obtain ⟨b1, b2⟩ := br_elim q1
    cases b with
    | true => rw [if_pos rfl]; exact t _ M1 F1 H1 s1 a1 (b1 rfl)
    | false => rw [if_neg (by simp)]; exact ⟨F1, σ, M1, k0, a1, rs.mono s1, b2 rfl, fun b2 M2 F2 H2 s2 a2 q2 => t b2 M2 F2 H2 (s1.trans s2) a2 q2⟩⟩
theorem z_ifx (ht : PT X d (liftT G X.K ta)) (ha : PE X a (liftE G X.K za)) (hb : PE X b (liftE G X.K zb)) : PE X (.IfExp d a b pos) (liftE G X.K fun σ M Q => ta σ M fun k M1 => br k (za σ M1 Q) (zb σ M1 Q)) :=
  peI (pe_ifExp ht ha hb) fun σV H Q ⟨F, σ, M, Q0, A, rs, z, t⟩ => ⟨F, σ, M, _, A, rs, z, fun k M1 F1 H1 s1 a1 q1 => by
    obtain ⟨b1, b2⟩ := br_elim q1
    cases k with
    | true => rw [if_pos rfl]; exact ⟨F1, σ, M1, Q0, a1, rs.mono s1, b1 rfl, t.mono s1⟩
    | false => rw [if_neg (by simp)]; exact ⟨F1, σ, M1, Q0, a1, rs.mono s1, b2 rfl, t.mono s1⟩⟩
/-! ### slices -/
def liftO (G : Cfg) (K : PySem.W.Frag) (z : Zs → Mh → (Option Int → Mh → Prop) → Prop) : TO := fun σV H Q => ∃ F σ M Q0, Ab G K F M H ∧ RS G K F σV σ ∧ z σ M Q0 ∧ ∀ o M' F' H', Same F F' → Ab G K F' M' H' → Q0 o M' → Q o H'
theorem zo_none : PO X none (liftO G X.K fun _ M Q => Q none M) := ⟨fun pins s σV H Q I ⟨F, σ, M, Q0, A, rs, z, t⟩ => po_none.run pins s σV H Q I (t none M F H (Same.refl F) A z)⟩
theorem zo_some (h : PE X e (liftE G X.K za)) : PO X (some e) (liftO G X.K fun σ M Q => za σ M fun x M1 => (match x with
    | .int i => Q (some i) M1
    | _ => False)) := ⟨fun pins s σV H Q I ⟨F, σ, M, Q0, A, rs, z, t⟩ => (po_some h).run pins s σV H Q I ⟨F, σ, M, _, A, rs, z, fun p M1 F1 H1 v s1 a1 r1 q1 => by
    cases r1 with
    | int i => exact ⟨i, rfl, t _ M1 F1 H1 s1 a1 q1⟩
    | _ => exact False.elim q1⟩⟩
theorem z_slice {lo hi : Option Expr} {zl zh : Zs → Mh → (Option Int → Mh → Prop) → Prop} {p2 : Pos} (ha : PE X a (liftE G X.K za)) (hl : PO X lo (liftO G X.K zl)) (hh : PO X hi (liftO G X.K zh)) :
    PE X (.Subscript a (.Slice lo hi none p2) pos) (liftE G X.K fun σ M Q => za σ M fun x M1 => zl σ M1 fun l M2 => zh σ M2 fun h M3 => zslice x l h M3 Q) := by
  obtain ⟨r, h1, h2⟩ := snd_slice (G := G) (X := X)
  exact peI (pe_slice h1 ha hl hh) fun σV H Q ⟨F, σ, M, Q0, A, rs, z, t⟩ => ⟨F, σ, M, _, A, rs, z, fun p M1 F1 H1 v s1 a1 r1 q1 => ⟨F1, σ, M1, _, a1, rs.mono s1, q1, fun l M2 F2 H2 s2 a2 q2 => ⟨F2, σ, M2, _, a2, (rs.mono s1).mono s2, q2, fun h M3 F3 H3 s3 a3 q3 =>
    h2 F3 M3 H3 v p l h Q0 Q a3 ((r1.mono s2).mono s3) q3 (t.mono ((s1.trans s2).trans s3))⟩⟩⟩
theorem z_slco {lo hi : Option Expr} {zl zh : Zs → Mh → (Option Int → Mh → Prop) → Prop} {p2 : Pos} (ha : PE X a (liftE G X.K za)) (hl : PO X lo (liftO G X.K zl)) (hh : PO X hi (liftO G X.K zh)) :
    PE X (.Subscript a (.Slice lo hi none p2) pos) (liftE G X.K fun σ M Q => za σ M fun x M1 => zl σ M1 fun l M2 => zh σ M2 fun h M3 => zsliceo x l h M3 Q) := by
  obtain ⟨r, h1, h2⟩ := snd_sliceo (G := G) (X := X)
  exact peI (pe_slice h1 ha hl hh) fun σV H Q ⟨F, σ, M, Q0, A, rs, z, t⟩ => ⟨F, σ, M, _, A, rs, z, fun p M1 F1 H1 v s1 a1 r1 q1 => ⟨F1, σ, M1, _, a1, rs.mono s1, q1, fun l M2 F2 H2 s2 a2 q2 => ⟨F2, σ, M2, _, a2, (rs.mono s1).mono s2, q2, fun h M3 F3 H3 s3 a3 q3 =>
    h2 F3 M3 H3 v p l h Q0 Q a3 ((r1.mono s2).mono s3) q3 (t.mono ((s1.trans s2).trans s3))⟩⟩⟩
/-! ### calls -/
theorem conc_of {f : Nat} {F : Hp} {M : Mh} {H : Hp} {σV : L2.St} {σ : Zs} {vs : List V} {ps : List PV} {Q0 : ZQ} {Q : VK} {F0 : Hp} (A : Ab G X.K F M H) (rs : RS G X.K F σV σ) (r : RVs G X.K F vs ps) (h : Φ f ps M Q0 fun x M2 => R x σ M2) (t : TQ G X.K F Q0 Q) :
    conc G X.K (Φ f) vs H Q (WE (liftW G X.K R) σV) :=
  ⟨F, M, ps, Q0, _, A, r, h, t, fun x M' F' H' cls d s' a' xr q => liftW.at a' (rs.mono s') xr q⟩
theorem z_call (ok : Ok G B Φ c X R) {f : Nat} {fn : Fn} {x : Str} {p : Pos} {ds : List DV} (hf : B.fns[f]? = some fn) (hat : fn.at_ = (x, none)) (hlim : f < c.lim) (hds : fn.dfl.drop (fn.dfl.length - ds.length) = ds) (hkw : fn.kwo = false) (hg : glB c.sc x = true) (hn : niceB x = true)
    (hst : es.all notStar = true) (ha : PA X es (liftA G X.K n zs)) (h0 : es = [] → ∀ σ M Q, zs σ M Q → Q [] M) : PE X (.Call (.Name x p) es [] pos) (liftE G X.K fun σ M Q => zs σ M fun vs M1 => Φ f (vs ++ ds.map DV.pv) M1 Q fun x M2 => R x σ M2) := by
  obtain ⟨fd, ho, hb, hk, hm, _⟩ := ok.tab.fn f fn hlim hf
  have ho := ho G.F0
  obtain ⟨dvv, dvs, hv, hr, hbi⟩ := hb hkw (fn.dfl.length - ds.length) (Nat.sub_le _ _)
  rw [hds] at hr
  have hm := hm (by rw [hat])
  have e1 : fn.at_.1 = x := by rw [hat]
  rw [e1] at hm
  have room : Room (f + 1) X.A := ok.room.mono hlim
  cases es with
  | nil =>
    refine peI (callNone (p := p) (pos := pos) ho room (ok.gl hg) hm hk hbi hv ok.tk (nice_of hn).1) fun σV H Q ⟨F, σ, M, Q0, A, rs, z, t⟩ => ?_
    have z := h0 rfl _ _ _ z
    exact conc_of (F0 := F) A rs (RVs'.append .nil (hr F)) z t
  | cons e es =>
    refine peI (callAny (p := p) (pos := pos) ho room (ok.gl hg) hm hk hbi hv ok.tk ha hst (nice_of hn).1) fun σV H Q ⟨F, σ, M, Q0, A, rs, z, t⟩ => ?_
    exact ⟨F, σ, M, _, A, rs, z, fun ps M1 F1 H1 vs s1 a1 r1 l1 q1 => conc_of (F0 := F) a1 (rs.mono s1) (r1.append (hr F1)) q1 (t.mono s1)⟩
theorem z_meth (ok : Ok G B Φ c X R) {f k : Nat} {fn : Fn} {m nm : Str} {lay : List Str} {ds : List DV} (hf : B.fns[f]? = some fn) (hc : G.cls[k]? = some (nm, lay)) (hat : fn.at_ = (nm, some m)) (hml : m ∉ lay) (hlim : f < c.lim) (hds : fn.dfl.drop (fn.dfl.length - ds.length) = ds) (hkw : fn.kwo = false)
    (hl : (apos.endLine == pos.line) = true) (hn : es.length < 30) (hbase : plainBase o = true) (hst : es.all notStar = true) (he : PE X o (liftE G X.K za)) (ha : PA X es (liftA G X.K n zs)) (h0 : es = [] → ∀ σ M Q, zs σ M Q → Q [] M) :
    PE X (.Call (.Attribute o m apos) es [] pos) (liftE G X.K fun σ M Q => za σ M fun x M1 => zself k x M1 (zs σ M1 fun vs M2 => Φ f (x :: (vs ++ ds.map DV.pv)) M2 Q fun x M2 => R x σ M2)) := by
  obtain ⟨fd, ho, hb, hk, _, hm⟩ := ok.tab.fn f fn hlim hf
  have ho := ho G.F0
  obtain ⟨dvv, dvs, hv, hr, hbi⟩ := hb hkw (fn.dfl.length - ds.length) (Nat.sub_le _ _)
  obtain ⟨cl, nd, _⟩ := ok.tab.cl k nm lay hc
  rw [hds] at hr
  have hm := hm m (by rw [hat])
  have e1 : fn.at_.1 = nm := by rw [hat]
  rw [e1] at hm
  have room : Room (f + 1) X.A := ok.room.mono hlim
  have self : ∀ {F : Hp} {M : Mh} {H : Hp} {x : V} {p : PV} {P : Prop}, Ab G X.K F M H → RV G X.K F x p → zself k p M P → (∃ ad dx fs, x = .ref ad ∧ H ad = some (.ins (He.ga X.K nm) dx fs) ∧ fs.lookup m = none) ∧ P := fun {F M H x p P} A r h => by
    cases r with
    | @ins ad dx c' nm' lay' kvs vs fs e1 e2 e3 e5 e6 e4 =>
      obtain ⟨rfl, h⟩ := h
      rw [hc] at e1
      cases e1
      refine ⟨⟨ad, dx, _, rfl, A.sub _ _ e2, ?_⟩, h⟩
      cases q : kvs.lookup m with
      | none => rfl
      | some v => exact absurd (e6 m (by rw [q]; simp)) hml
    | ref ad =>
      obtain ⟨⟨fs, e⟩, h⟩ := h
      obtain ⟨_, o, ho, nm', lay', dx, kvs, e1, rfl, e3, e4, e5, e6⟩ := A.mu ad _ e
      rw [hc] at e1
      cases e1
      refine ⟨⟨ad, dx, kvs, rfl, ho, ?_⟩, h⟩
      cases q : kvs.lookup m with
      | none => rfl
      | some v => exact absurd (e5 m (by rw [q]; simp)) hml
    | _ => exact False.elim h
  cases es with
  | nil =>
    refine peI (methNone (pos := pos) he cl hm ho room hbi hv ok.tk hl hbase) fun σV H Q ⟨F, σ, M, Q0, A, rs, z, t⟩ => ⟨F, σ, M, _, A, rs, z, fun p M1 F1 H1 v s1 a1 r1 q1 => ?_⟩
    obtain ⟨⟨ad, dx, fs, rfl, e1, e2⟩, q1⟩ := self a1 r1 q1
    exact ⟨ad, dx, fs, rfl, e1, e2, conc_of (F0 := F) a1 (rs.mono s1) (.cons r1 (RVs'.append .nil (hr F1))) (h0 rfl _ _ _ q1) (t.mono s1)⟩
  | cons e es =>
    refine peI (methAny (pos := pos) he cl hm ho room hbi hv ok.tk ha hst hn hl hbase) fun σV H Q ⟨F, σ, M, Q0, A, rs, z, t⟩ => ⟨F, σ, M, _, A, rs, z, fun p M1 F1 H1 v s1 a1 r1 q1 => ?_⟩
    obtain ⟨⟨ad, dx, fs, rfl, e1, e2⟩, q1⟩ := self a1 r1 q1
    exact ⟨ad, dx, fs, rfl, e1, e2, F1, σ, M1, _, a1, rs.mono s1, q1, fun ps M2 F2 H2 vs s2 a2 r2 l2 q2 => conc_of (F0 := F) a2 ((rs.mono s1).mono s2) (.cons (r1.mono s2) (r2.append (hr F2))) q2 (t.mono (s1.trans s2))⟩
/-! ### built-ins -/
theorem z_bcall (ok : Ok G B Φ c X R) (bf : Bf) (hp : bf.plain = true) {x : Str} {p : Pos} (hx : x = bf.nm) (hf : freeB B c x = true) (hst : (e :: es).all notStar = true) (ha : PA X (e :: es) (liftA G X.K n zs)) :
    PE X (.Call (.Name x p) (e :: es) [] pos) (liftE G X.K fun σ M Q => zs σ M fun vs M1 => zbcall bf vs M1 Q) := by
  subst hx
  obtain ⟨g1, m1, d1, n1⟩ := ok.free hf
  obtain ⟨r, h1, h2⟩ := snd_bcall (G := G) (X := X) ok.calm bf hp
  obtain ⟨s1, s2⟩ := Bool.and_eq_true_iff.mp (show (notStar e && es.all notStar) = true from hst)
  have main : PE X (.Call (.Name bf.nm p) (e :: es) [] pos) (tCB r (liftA G X.K n zs)) := by
    have hbt := bf.boot
    cases hv : bf.val with
    | builtin id => rw [hv] at hbt h1; exact pe_callB h1 g1 m1 hbt ha n1 d1 (star_of s1 es X.env) (stars_of s2 pos X.env).1
    | type id => rw [hv] at hbt h1; exact pe_callTy h1 g1 m1 hbt ha n1 d1 (star_of s1 es X.env) (stars_of s2 pos X.env).1
    | _ => cases bf <;> cases hv
  exact zargs main fun F M H xs ps Q0 Q A r1 _ q t => h2 F M H xs ps Q0 Q A r1 q t
theorem z_bmeth (m : Bm) {nmm : Str} (hm : nmm = m.nm) (hl : (apos.endLine == pos.line) = true) (hn : es.length < 29) (hbase : plainBase o = true) (hst : es.all notStar = true) (he : PE X o (liftE G X.K za)) (ha : PA X es (liftA G X.K n zs)) (h0 : es = [] → ∀ σ M Q, zs σ M Q → Q [] M) :
    PE X (.Call (.Attribute o nmm apos) es [] pos) (liftE G X.K fun σ M Q => za σ M fun x M1 => zisl x M1 (zs σ M1 fun vs M2 => zbmeth m x vs M2 Q)) := by
  subst hm
  obtain ⟨id, r, sl, ty, mt, h2⟩ := snd_bm (G := G) (X := X) m
  have isl : ∀ {F : Hp} {M : Mh} {H : Hp} {x : V} {p : PV} {P : Prop}, Ab G X.K F M H → RV G X.K F x p → zisl p M P → tyV X.K "list" x H ∧ P := fun {F M H x p P} A q h => by
    cases q with
    | ref ad =>
      obtain ⟨⟨xs, e⟩, h⟩ := h
      obtain ⟨_, o, ho, vs, rfl, _⟩ := A.mu ad _ e
      exact ⟨.inl ⟨rfl, vs, SqL.of ho⟩, h⟩
    | _ => exact False.elim h
  cases es with
  | nil =>
    refine peI (pe_bm0 PySem.F.plainAttrs_list sl ty mt he (base_of hbase _ X.env) hl) fun σV H Q ⟨F, σ, M, Q0, A, rs, z, t⟩ => ⟨F, σ, M, _, A, rs, z, fun p M1 F1 H1 v s1 a1 r1 q1 => ?_⟩
    obtain ⟨l, q1⟩ := isl a1 r1 q1
    exact ⟨l, h2 F1 M1 H1 v p [] [] Q0 Q a1 r1 .nil (h0 rfl _ _ _ q1) (t.mono s1)⟩
  | cons e es =>
    obtain ⟨s1, s2⟩ := Bool.and_eq_true_iff.mp (show (notStar e && es.all notStar) = true from hst)
    have few : ((backTo pos (starEach (e :: es) X.env)).all (fun x => !x.1) && (backToKw pos (keywordEach [] X.env)).all (fun x => x.1.isSome) && decide ((e :: es).length + ([] : List Keyword).length + (if ([] : List Keyword).isEmpty then 0 else 1) < 30)) = true := by
      rw [(stars_of hst pos X.env).2]
      have : decide ((e :: es).length + ([] : List Keyword).length + (if ([] : List Keyword).isEmpty then 0 else 1) < 30) = true := decide_eq_true (by show (e :: es).length + 0 + 0 < 30; omega)
      rw [this]
      rfl
    refine peI (pe_bm PySem.F.plainAttrs_list sl ty mt he ha (base_of hbase _ X.env) few hl (star_of s1 es X.env) (stars_of s2 pos X.env).1) fun σV H Q ⟨F, σ, M, Q0, A, rs, z, t⟩ => ⟨F, σ, M, _, A, rs, z, fun p M1 F1 H1 v s1 a1 r1 q1 => ?_⟩
    obtain ⟨l, q1⟩ := isl a1 r1 q1
    exact ⟨l, F1, σ, M1, _, a1, rs.mono s1, q1, fun ps M2 F2 H2 vs s2 a2 r2 l2 q2 => h2 F2 M2 H2 v p vs ps Q0 Q a2 (r1.mono s2) r2 q2 (t.mono (s1.trans s2))⟩
end
end Z
set_option Elab.async false
set_option linter.all false
set_option maxRecDepth 100000
set_option maxHeartbeats 4000000
namespace Z
open PySem PySem.Spec PyProof.Rows L2
/-! ### targets -/
section
variable (G : Cfg) (K : PySem.W.Frag)
structure Agree (slots : List Nat) (σV σV' : L2.St) : Prop where
  at_ : ∀ j, j ∉ slots → σV'[j]? = σV[j]?
  len : σV'.length = σV.length
abbrev TK (F : Hp) (slots : List Nat) (σV : L2.St) (k0 : Zs → Mh → Prop) (Q : L2.St → Hp → Prop) : Prop := ∀ σ' M' F' H' σV', Same F F' → Ab G K F' M' H' → RS G K F' σV' σ' → Agree slots σV σV' → k0 σ' M' → Q σV' H'
def liftTg (slots : List Nat) (z : PV → Zs → Mh → (Zs → Mh → Prop) → Prop) : TG := fun v σV H Q => ∃ F p σ M k0, Ab G K F M H ∧ RS G K F σV σ ∧ RV G K F v p ∧ z p σ M k0 ∧ TK G K F slots σV k0 Q
def liftTgs (slots : List Nat) (z : List PV → Zs → Mh → (Zs → Mh → Prop) → Prop) : TGs := fun vs σV H Q => ∃ F ps σ M k0, Ab G K F M H ∧ RS G K F σV σ ∧ RVs G K F vs ps ∧ z ps σ M k0 ∧ TK G K F slots σV k0 Q
end
theorem pgI {X : Cx} {e : Expr} {t t' : TG} (h : PG X e t) (i : ∀ v σ H Q, t' v σ H Q → t v σ H Q) : PG X e t' := ⟨fun pins s σ H v u Q I r q => h.run pins s σ H v u Q I r (i v σ H Q q)⟩
theorem pgsI {X : Cx} {e : List Expr} {t t' : TGs} (h : PGs X e t) (i : ∀ v σ H Q, t' v σ H Q → t v σ H Q) : PGs X e t' := ⟨fun pins s σ H v u Q I r q => h.run pins s σ H v u Q I r (i v σ H Q q)⟩
theorem Agree.trans {s1 s2 : List Nat} {σ1 σ2 σ3 : L2.St} (a : Agree s1 σ1 σ2) (b : Agree s2 σ2 σ3) : Agree (s1 ++ s2) σ1 σ3 :=
  ⟨fun j hj => (b.at_ j fun z => hj (List.mem_append_right _ z)).trans (a.at_ j fun z => hj (List.mem_append_left _ z)), b.len.trans a.len⟩
theorem Agree.set (σ : L2.St) (i : Nat) (v : Option V) : Agree [i] σ (σ.set i v) := ⟨fun j hj => List.getElem?_set_ne (fun e => hj (by simp [e])), List.length_set⟩
theorem Agree.refl (σ : L2.St) (s : List Nat) : Agree s σ σ := ⟨fun _ _ => rfl, rfl⟩
/-- outside of the wiped slots nothing has changed -/
theorem wipe_at (σ : L2.St) : ∀ (vs : List Nat) (j : Nat), (wipe σ vs)[j]? = if j ∈ vs ∧ j < σ.length then some none else σ[j]?
  | [], j => by simp [wipe]
  | v :: vs, j => by
    unfold wipe
    have ih := wipe_at σ vs j
    by_cases e : v = j
    · subst e
      by_cases h : v < σ.length
      · rw [List.getElem?_set_self (by rw [wipe_length]; exact h), if_pos ⟨List.mem_cons_self, h⟩]
      · rw [List.getElem?_eq_none (by rw [List.length_set, wipe_length]; omega), if_neg (fun q => h q.2), List.getElem?_eq_none (by omega)]
    · rw [List.getElem?_set_ne e, ih]
      by_cases h : j ∈ vs ∧ j < σ.length
      · rw [if_pos h, if_pos ⟨List.mem_cons_of_mem _ h.1, h.2⟩]
      · rw [if_neg h, if_neg (fun q => h ⟨(List.mem_cons.mp q.1).resolve_left (Ne.symm e), q.2⟩)]
theorem wipe_agree {σV σV' : L2.St} {slots own : List Nat} (h : Agree slots (wipe σV own) σV') (hs : ∀ i ∈ slots, i ∈ own) : wipe σV' own = wipe σV own := by
  refine List.ext_getElem? fun j => ?_
  rw [wipe_at, wipe_at]
  have hl : σV'.length = σV.length := h.len.trans (wipe_length _ _)
  by_cases hj : j ∈ own ∧ j < σV.length
  · rw [if_pos (by rw [hl]; exact hj), if_pos hj]
  · rw [if_neg (by rw [hl]; exact hj), if_neg hj]
    by_cases ho : j ∈ own
    · have : ¬ j < σV.length := fun q => hj ⟨ho, q⟩
      rw [List.getElem?_eq_none (by omega), List.getElem?_eq_none (by omega)]
    · rw [h.at_ j fun z => ho (hs j z), wipe_at, if_neg hj]
section
variable {G : Cfg} {B : Tb} {Φ : Nat → ZSp} {c : CC} {X : Cx} {R : ZR} {za zb zc : Zs → Mh → ZQ → Prop} {a b d e o : Expr} {es : List Expr} {pos apos : Pos}
theorem zg_name (ok : Ok G B Φ c X R) {i : Nat} {x : Str} (h : storeB c i x = true) : PG X (.Name x pos) (liftTg G X.K [i] fun v σ M k => k (σ.set i (some v)) M) := by
  unfold storeB at h
  simp only [Bool.and_eq_true, decide_eq_true_eq, Bool.or_eq_true] at h
  obtain ⟨⟨h1, h2⟩, h3⟩ := h
  refine pgI (pg_name (i := i) (by rw [ok.hN]; exact ok.nd) (by rw [ok.hN]; exact h1) (by rw [ok.sc]; exact loc_of h2) ?_) fun v σV H Q ⟨F, p, σ, M, k0, A, rs, r, z, t⟩ => ?_
  · rcases h3 with h3 | h3
    · exact .inl (by rw [ok.fn]; exact h3)
    · exact .inr (by rw [ok.sc]; exact local_of h3)
  · exact t _ M F H _ (Same.refl F) A (rs.set r) (Agree.set _ _ _) z
theorem zgs_nil : PGs X [] (liftTgs G X.K [] fun vs σ M k => vs = [] ∧ k σ M) := pgsI pgs_nil fun v σV H Q ⟨F, ps, σ, M, k0, A, rs, r, z, t⟩ => by
  obtain ⟨rfl, z⟩ := z
  cases r
  exact ⟨rfl, t _ M F H _ (Same.refl F) A rs (Agree.refl _ _) z⟩
theorem assign_star {e : Expr} (h : notStar e = true) (es : List Expr) (env : Env) : (assignEach (e :: es) env).map (·.2) = assign e env :: (assignEach es env).map (·.2) ∧ (assignEach (e :: es) env).length = (assignEach es env).length + 1 ∧
    ((assignEach es env).findIdx? (·.1) = none → (assignEach (e :: es) env).findIdx? (·.1) = none) := by
  cases e <;> first | exact ⟨rfl, rfl, fun q => by (show List.findIdx? _ (_ :: _) = none); rw [List.findIdx?_cons]; simp [q]⟩ | cases h
theorem assign_stars : ∀ {es : List Expr} (h : es.all notStar = true) (env : Env), (assignEach es env).length = es.length ∧ (assignEach es env).findIdx? (·.1) = none
  | [], _, _ => ⟨rfl, rfl⟩
  | e :: es, h, env => by
    obtain ⟨h1, h2⟩ := Bool.and_eq_true_iff.mp (show (notStar e && es.all notStar) = true from h)
    obtain ⟨i1, i2⟩ := assign_stars h2 env
    obtain ⟨_, j2, j3⟩ := assign_star h1 es env
    exact ⟨by rw [j2, i1]; rfl, j3 i2⟩
theorem zgs_cons {s1 s2 : List Nat} {z1 : PV → Zs → Mh → (Zs → Mh → Prop) → Prop} {z2 : List PV → Zs → Mh → (Zs → Mh → Prop) → Prop} (hn : notStar e = true) (h1 : PG X e (liftTg G X.K s1 z1)) (h2 : PGs X es (liftTgs G X.K s2 z2)) :
    PGs X (e :: es) (liftTgs G X.K (s1 ++ s2) fun vs σ M k => (match vs with
    | v :: us => z1 v σ M fun σ1 M1 => z2 us σ1 M1 k
    | [] => False)) := pgsI (pgs_cons h1 h2 (assign_star hn es X.env).1) fun vs σV H Q ⟨F, ps, σ, M, k0, A, rs, r, z, t⟩ => by
  cases r with
  | nil => exact False.elim z
  | @cons v p vs ps r rr =>
    refine ⟨v, vs, rfl, F, p, σ, M, _, A, rs, r, z, fun σ1 M1 F1 H1 σV1 s1 a1 r1 g1 q1 => ?_⟩
    exact ⟨F1, ps, σ1, M1, _, a1, r1, rr.mono s1, q1, fun σ2 M2 F2 H2 σV2 s2 a2 r2 g2 q2 => t σ2 M2 F2 H2 σV2 (s1.trans s2) a2 r2 (g1.trans g2) q2⟩
theorem zg_tup (hc : X.calm = true) {slots : List Nat} {zs : List PV → Zs → Mh → (Zs → Mh → Prop) → Prop} {k : Nat} (hs : es.all notStar = true) {len : Nat} (hl : len = es.length) (h : PGs X es (liftTgs G X.K slots zs)) :
    PG X (.Tuple es k pos) (liftTg G X.K slots fun v σ M k => (match v with
    | .tup xs => xs.length = len ∧ zs xs σ M k
    | _ => False)) := pgI (pg_tup hc h (assign_stars hs X.env).1 (assign_stars hs X.env).2) fun v σV H Q ⟨F, p, σ, M, k0, A, rs, r, z, t⟩ => by
  cases r with
  | tup hq rr => exact ⟨_, _, rfl, sameT A.sub hq, by rw [rr.length, z.1]; exact hl, F, _, σ, M, k0, A, rs, rr, z.2, t⟩
  | _ => exact False.elim z
theorem assign_sub {o i : Expr} {pos : Pos} {env : Env} (h : notSlice i = true) (v : Value) : assign (.Subscript o i pos) env v = (do
      let ov ← holding [v] (eval o env)
      let iv ← holding [v, ov] (eval i env)
      standAt pos
      holding [v, ov, iv] (setItem ov iv v)
      release [v, ov, iv] []) := by
  cases i <;> first | rfl | cases h
/-- o[i] = v, of a list or a dict, by values -/
def rSetB : TSet := fun o i v H Q => rSetL o i v H Q ∨ ∃ a H', o = .ref a ∧ DPut H a i v H' ∧ Q H'
theorem set_both (hu : X.A.units + 1 < cLine) : PSet X rSetB := by
  intro pins s σ H o i v ov iv u Q I ro ri rv h
  rcases h with h | ⟨a, H', rfl, g, q⟩
  · exact set_list pins s σ H o i v ov iv u Q I ro ri rv h
  · cases (show ov = Value.ref a from ro)
    exact d_setItem hu I g ri rv fun s' I' => ⟨H', I', q⟩
theorem zg_sub (hu : X.A.units + 1 < cLine) (hns : notSlice b = true) (ho : PE X o (liftE G X.K za)) (hi : PE X b (liftE G X.K zb)) : PG X (.Subscript o b pos) (liftTg G X.K [] fun v σ M k => za σ M fun x M1 => zb σ M1 fun y M2 => (match x, y with
    | .ref p, .int j => ∃ xs n, M2 p = some (.lst xs) ∧ place xs.length j = some n ∧ k σ (put M2 p (.lst (xs.set n v)))
    | .ref p, .str s => ∃ ks xs m, M2 p = some (.dct ks xs) ∧ DSet ks xs (.inr s) v m ∧ k σ (put M2 p m)
    | _, _ => False)) := pgI (pg_sub ho hi (set_both hu) (assign_sub hns)) fun v σV H Q ⟨F, p, σ, M, k0, A, rs, r, z, t⟩ => by
  refine ⟨F, σ, M, _, A, rs, z, fun x M1 F1 H1 vx s1 a1 r1 q1 => ⟨F1, σ, M1, _, a1, rs.mono s1, q1, fun y M2 F2 H2 vy s2 a2 r2 q2 => ?_⟩⟩
  cases r1 with
  | ref ad =>
    cases r2 with
    | int j =>
      obtain ⟨xs, n, e, hp, q2⟩ := q2
      obtain ⟨_, o, ho, vs, rfl, rv⟩ := a2.mu ad _ e
      rw [place_ix] at hp
      have rr := (r.mono s1).mono s2
      exact .inl ⟨ad, vs, j, n, rfl, rfl, ho, by rw [rv.length]; exact hp, t _ _ F2 _ _ (s1.trans s2) (a2.write (m := .lst (xs.set n p)) e ⟨_, rfl, rv.set rr n⟩) ((rs.mono s1).mono s2) (Agree.refl _ _) q2⟩
    | str s =>
      obtain ⟨ks, xs, m, e, d, q2⟩ := q2
      obtain ⟨_, o, ho, vs, rfl, hl, rv⟩ := a2.mu ad _ e
      have rr := (r.mono s1).mono s2
      have hz : ks.length < 1000 → (ks.zip vs).length < sizeLine := fun h => by rw [List.length_zip, sizeLine_eq]; omega
      rcases d with ⟨i, k1, k2, kl, rfl⟩ | ⟨k1, kl, rfl⟩
      · refine .inr ⟨ad, upd H2 ad (.dK (putK (ks.zip vs) (.inr s) v)), rfl, DPut.k (k := .inr s) ho (hz kl), t _ _ F2 _ _ (s1.trans s2) ?_ ((rs.mono s1).mono s2) (Agree.refl _ _) q2⟩
        rw [putK_old hl k1 k2]
        exact a2.write (m := .dct ks (xs.set i p)) e ⟨vs.set i v, rfl, by rw [List.length_set]; exact hl, rv.set rr i⟩
      · refine .inr ⟨ad, upd H2 ad (.dK (putK (ks.zip vs) (.inr s) v)), rfl, DPut.k (k := .inr s) ho (hz kl), t _ _ F2 _ _ (s1.trans s2) ?_ ((rs.mono s1).mono s2) (Agree.refl _ _) q2⟩
        rw [putK_zn hl k1]
        exact a2.write (m := .dct (ks ++ [.inr s]) (xs ++ [p])) e ⟨vs ++ [v], rfl, by rw [List.length_append, List.length_append, hl]; rfl, rv.append (.cons rr .nil)⟩
    | _ => exact False.elim q2
  | _ => cases r2 <;> exact False.elim q2
/-- o.f as a target -/
def gFld (K : PySem.W.Frag) (to : TE) (f : Str) : TG := fun v σ H Q => to σ H fun x H1 => ∃ ad C dx fs, x = .ref ad ∧ H1 ad = some (.ins C dx fs) ∧ Cls K C ∧ NoAttr K C f ∧ fs.length < 1000 ∧ Q σ (upd H1 ad (.ins C dx (putF f v fs)))
theorem pg_fld {o : Expr} {f : Str} {to : TE} (ho : PE X o to) : PG X (.Attribute o f pos) (gFld X.K to f) := by
  refine ⟨fun pins s σ H v u Q I r h => ?_⟩
  rw [assign_Attribute]
  refine wpAny_bind (wpAny_holding (thn (ho.run pins s σ H _ I h) fun ov s1 ⟨x, H1, I1, r1, ad, C, dx, fs, ex, ea, c, n, l, q⟩ => ?_))
  subst ex
  obtain rfl : ov = Value.ref ad := r1
  refine wpAny_bind (wpAny_standAt (wpAny_bind (wpAny_holding (setattr_ok I1 ea c n l r fun s3 I3 => ?_))))
  exact wpAny_release ⟨σ, _, I3, q⟩
/-! ### what is walked -/
structure WalkOk (G : Cfg) (K : PySem.W.Frag) (F1 : Hp) (J : L2.It) (still : Mh → Prop) (xs : List PV) : Prop where
  go : ∀ i F M H x, Same F1 F → Ab G K F M H → still M → xs[i]? = some x → J.go i H
  yld : ∀ i F M H v H' x, Same F1 F → Ab G K F M H → still M → xs[i]? = some x → J.yld i H v H' → ∃ F', Same F F' ∧ Ab G K F' M H' ∧ RV G K F' v x
  stop : ∀ i F M H, Same F1 F → Ab G K F M H → still M → xs.length ≤ i → J.stop i H
def liftI (G : Cfg) (K : PySem.W.Frag) (z : Zs → Mh → ((Mh → Prop) → List PV → Mh → Prop) → Prop) : TI := fun σV H T => ∃ F σ M k0, Ab G K F M H ∧ RS G K F σV σ ∧ z σ M k0 ∧ ∀ still xs M1 F1 H1 J, Same F F1 → Ab G K F1 M1 H1 → WalkOk G K F1 J still xs → k0 still xs M1 → T J H1
theorem piI {X : Cx} {tg e : Expr} {t t' : TI} (h : PI X tg e t) (i : ∀ σ H Q, t' σ H Q → t σ H Q) : PI X tg e t' := ⟨fun pins s σ H T I q => h.run pins s σ H T I (i σ H T q)⟩
theorem walk_range {K : PySem.W.Frag} {F : Hp} (lo : Int) (n : Nat) : WalkOk G K F (Itr lo n) (fun _ => True) (rangeL lo n) := by
  have hl : (rangeL lo n).length = n := by unfold rangeL; rw [List.length_map, List.length_range]
  refine ⟨fun i F M H x _ _ _ h => ?_, fun i F M H v H' x _ A _ h y => ?_, fun i F M H _ _ _ h => ?_⟩
  · show i < n
    have := (List.getElem?_eq_some_iff.mp h).1
    omega
  · obtain ⟨rfl, rfl⟩ := y
    have hi := (List.getElem?_eq_some_iff.mp h).1
    unfold rangeL at h
    rw [List.getElem?_map, List.getElem?_range (by omega)] at h
    cases h
    exact ⟨F, Same.refl F, A, .int _⟩
  · show n ≤ i
    omega
theorem zi_range1 (ok : Ok G B Φ c X R) {tg : Expr} {x : Str} {p : Pos} (hx : x = "range") (h : freeB B c "range" = true) (hs : notStar a = true) (ha : PE X a (liftE G X.K za)) : PI X tg (.Call (.Name x p) [a] [] pos) (liftI G X.K fun σ M k => za σ M fun x M1 => (match x with
    | .int j => (-(2 ^ 62) ≤ j ∧ j < 2 ^ 62) ∧ k (fun _ => True) (rangeL 0 j.toNat) M1
    | _ => False)) := by
  subst hx
  obtain ⟨g1, m1, _, _⟩ := ok.free h
  refine piI (pi_range1 g1 m1 (pa_cons ha pa_nil (star_of hs _ _)) (star_of hs _ _)) fun σV H T ⟨F, σ, M, k0, A, rs, z, t⟩ => ⟨F, σ, M, _, A, rs, z, fun p M1 F1 H1 v s1 a1 r1 q1 => ?_⟩
  cases r1 with
  | int j => exact ⟨j, rfl, q1.1.1, q1.1.2, t _ _ M1 F1 H1 _ s1 a1 (walk_range 0 j.toNat) q1.2⟩
  | _ => exact False.elim q1
theorem zi_range2 (ok : Ok G B Φ c X R) {tg : Expr} {x : Str} {p : Pos} (hx : x = "range") (h : freeB B c "range" = true) (hs : notStar a = true) (hs' : notStar b = true) (ha : PE X a (liftE G X.K za)) (hb : PE X b (liftE G X.K zb)) : PI X tg (.Call (.Name x p) [a, b] [] pos) (liftI G X.K fun σ M k => za σ M fun x M1 => zb σ M1 fun y M2 => (match x, y with
    | .int i, .int j => (-(2 ^ 62) ≤ i ∧ i < 2 ^ 62 ∧ -(2 ^ 62) ≤ j ∧ j < 2 ^ 62) ∧ k (fun _ => True) (rangeL i (j - i).toNat) M2
    | _, _ => False)) := by
  subst hx
  obtain ⟨g1, m1, _, _⟩ := ok.free h
  have e2 : starEach [b] X.env = [(false, eval b X.env)] := star_of hs' _ _
  have e1 : starEach [a, b] X.env = [(false, eval a X.env), (false, eval b X.env)] := by rw [star_of hs, e2]
  refine piI (pi_range2 g1 m1 (pa_cons ha (pa_cons hb pa_nil (star_of hs' _ _)) (star_of hs _ _)) e1 e2) fun σV H T ⟨F, σ, M, k0, A, rs, z, t⟩ => ⟨F, σ, M, _, A, rs, z, fun p M1 F1 H1 v s1 a1 r1 q1 => ⟨F1, σ, M1, _, a1, rs.mono s1, q1, fun q M2 F2 H2 w s2 a2 r2 q2 => ?_⟩⟩
  cases r1 with
  | int i =>
    cases r2 with
    | int j => exact ⟨i, j, rfl, q2.1, t _ _ M2 F2 H2 _ (s1.trans s2) a2 (walk_range i _) q2.2⟩
    | _ => exact False.elim q2
  | _ => cases r2 <;> exact False.elim q2
/-- a list or a tuple -/
def iSeq (K : PySem.W.Frag) (tl : TE) : TI := fun σ H T => tl σ H fun x H1 => ∃ a, x = .ref a ∧ (((∃ xs, SqL K H1 a xs) ∧ T (Itl K a) H1) ∨ ((∃ xs, SqT K H1 a xs) ∧ T (Itt K a) H1))
theorem pi_seq {tg l : Expr} {tl : TE} (hl : PE X l tl) : PI X tg l (iSeq X.K tl) := by
  refine ⟨fun pins s σ H T I h => ?_⟩
  refine thn (hl.run pins s σ H _ I h) fun v s1 z => ?_
  obtain ⟨x, H1, I1, r1, ad, rfl, q1⟩ := z
  cases r1
  rcases q1 with ⟨⟨xs, hq⟩, q⟩ | ⟨⟨xs, hq⟩, q⟩
  · obtain ⟨its, rv, pl, hz⟩ := I1.list hq
    refine wpAny_pyIter_list pl.isList ⟨_, [_], _, _, H1, rfl, I1.kept (t' := s1.toks) fun _ _ q => Heap.get?_push_of_some _ q, turn_list ad _, ⟨_, Heap.get?_push_size _ rfl, rfl, rfl⟩, fun y hy => ?_, q⟩
    rw [List.mem_singleton.mp hy]
    exact I1.fpOk (Nat.le_refl _) (I1.hok.fresh (Nat.le_refl _))
  · obtain ⟨its, rv, pl, hz⟩ := I1.tuple hq
    refine wpAny_pyIter_tuple (show s1.heap.IsTuple ad its.toArray from pl) ⟨_, [_], _, _, H1, rfl, I1.kept (t' := s1.toks) fun _ _ q => Heap.get?_push_of_some _ q, turn_tuple ad _, ⟨_, Heap.get?_push_size _ rfl, rfl, rfl⟩, fun y hy => ?_, q⟩
    rw [List.mem_singleton.mp hy]
    exact I1.fpOk (Nat.le_refl _) (I1.hok.fresh (Nat.le_refl _))
theorem walk_list {K : PySem.W.Frag} {F1 : Hp} {ad : Addr} {xs : List PV} {still : Mh → Prop} (hq : ∀ F M H, Same F1 F → Ab G K F M H → still M → ∃ vs, SqL K H ad vs ∧ RVs G K F vs xs) : WalkOk G K F1 (Itl K ad) still xs := by
  refine ⟨fun i F M H x s A st h => ?_, fun i F M H v H' x s A st h y => ?_, fun i F M H s A st h => ?_⟩
  · obtain ⟨vs, hs, rv⟩ := hq F M H s A st
    obtain ⟨v, e, _⟩ := rv.get h
    exact ⟨vs, v, hs, e⟩
  · obtain ⟨rfl, y⟩ := y
    obtain ⟨vs, hs, rv⟩ := hq F M _ s A st
    obtain ⟨w, e, r⟩ := rv.get h
    rw [y vs hs] at e
    cases e
    exact ⟨F, Same.refl F, A, r⟩
  · obtain ⟨vs, hs, rv⟩ := hq F M H s A st
    exact ⟨vs, hs, by rw [rv.length]; exact h⟩
theorem walk_tup {K : PySem.W.Frag} {F1 : Hp} {ad : Addr} {vs : List V} {xs : List PV} (rv : RVs G K F1 vs xs) (hq : SqT K F1 ad vs) : WalkOk G K F1 (Itt K ad) (fun _ => True) xs := by
  refine ⟨fun i F M H x s A st h => ?_, fun i F M H v H' x s A st h y => ?_, fun i F M H s A st h => ?_⟩
  · obtain ⟨v, e, _⟩ := rv.get h
    exact ⟨vs, v, sameT A.sub (sameT s hq), e⟩
  · obtain ⟨rfl, y⟩ := y
    obtain ⟨w, e, r⟩ := rv.get h
    rw [y vs (sameT A.sub (sameT s hq))] at e
    cases e
    exact ⟨F, Same.refl F, A, r.mono s⟩
  · exact ⟨vs, sameT A.sub (sameT s hq), by rw [rv.length]; exact h⟩
theorem zi_seq {tg : Expr} (ha : PE X a (liftE G X.K za)) : PI X tg a (liftI G X.K fun σ M k => za σ M fun x M1 => (match x with
    | .tup xs => k (fun _ => True) xs M1
    | .lst xs => k (fun _ => True) xs M1
    | .scr xs => k (fun _ => True) xs M1
    | .ref p => ∃ xs, M1 p = some (.lst xs) ∧ k (fun M' => M' p = some (.lst xs)) xs M1
    | _ => False)) :=
  piI (pi_seq ha) fun σV H T ⟨F, σ, M, k0, A, rs, z, t⟩ => ⟨F, σ, M, _, A, rs, z, fun p M1 F1 H1 v s1 a1 r1 q1 => by
    cases r1 with
    | tup hq rr => exact ⟨_, rfl, .inr ⟨⟨_, sameT a1.sub hq⟩, t _ _ M1 F1 H1 _ s1 a1 (walk_tup rr hq) q1⟩⟩
    | lst hq rr => exact ⟨_, rfl, .inl ⟨⟨_, SqL.of (a1.sub _ _ hq)⟩, t _ _ M1 F1 H1 _ s1 a1 (walk_list fun F M H s A _ => ⟨_, SqL.of (A.sub _ _ (s _ _ hq)), rr.mono s⟩) q1⟩⟩
    | scr hq rr => exact ⟨_, rfl, .inl ⟨⟨_, Same.seq a1.sub hq⟩, t _ _ M1 F1 H1 _ s1 a1 (walk_list fun F M H s A _ => ⟨_, Same.seq A.sub (Same.seq s hq), rr.mono s⟩) q1⟩⟩
    | ref ad =>
      obtain ⟨xs, e, q1⟩ := q1
      obtain ⟨_, o, ho, vs, rfl, rr⟩ := a1.mu ad _ e
      refine ⟨ad, rfl, .inl ⟨⟨_, SqL.of ho⟩, t _ _ M1 F1 H1 _ s1 a1 (walk_list fun F M H s A st => ?_) q1⟩⟩
      obtain ⟨_, o, ho, vs, rfl, rr⟩ := A.mu ad _ st
      exact ⟨vs, SqL.of ho, rr⟩
    | _ => exact False.elim q1⟩
end
end Z
set_option Elab.async false
set_option linter.all false
set_option maxRecDepth 100000
set_option maxHeartbeats 4000000
namespace Z
open PySem PySem.Spec PyProof.Rows L2
section
variable {G : Cfg} {B : Tb} {Φ : Nat → ZSp} {c : CC} {X : Cx} {R : ZR} {za zb zc : Zs → Mh → ZQ → Prop} {a b d e o : Expr} {es : List Expr} {pos apos : Pos}
/-! ### a comprehension's block -/
theorem takes_no {X : Cx} : Takes X (liftW G X.K noR) := fun u s' x => by
  obtain ⟨_, _, _, _, _, _, _, _, _, _, _, _, _, _, _, _, _, _, _, _, _, _, _, z⟩ := x
  exact False.elim z
theorem Ok.blk (ok : Ok G B Φ c X R) {scope : Scope} (hk : scope.kind = .function) (s : Shared) (H : Hp) (C : Addr) (cl : List (Str × Addr)) (fp : List Addr) : Ok G B Φ (inBlk c scope) (X.blk s H scope (compEnvC scope cl C X.env) fp) noR where
  hN := ok.hN
  nd := ok.nd
  sc := by
    show relS scope X.env.scope = relS scope c.sc
    rw [ok.sc]
  kd := hk
  fn := fun x => rfl
  calm := ok.calm
  tk := takes_no
  po := PassesOwn.never
  tab := ok.tab
  room := ok.room
theorem drop_cons {α : Type} {xs : List α} {i : Nat} (h : i < xs.length) : ∃ x, xs[i]? = some x ∧ xs.drop i = x :: xs.drop (i + 1) := ⟨xs[i], List.getElem?_eq_getElem h, List.drop_eq_getElem_cons h⟩
theorem comp_imp {K : PySem.W.Frag} {own slots : List Nat} (fz : Bool) {zi : Zs → Mh → ((Mh → Prop) → List PV → Mh → Prop) → Prop} {zt : PV → Zs → Mh → (Zs → Mh → Prop) → Prop} {zc : Zs → Mh → (Bool → Mh → Prop) → Prop} {ze : Zs → Mh → ZQ → Prop} (hslots : ∀ i ∈ slots, i ∈ own)
    (σV : L2.St) (H : Hp) (Q : VK) (h : liftE G K (fun σ M Q => zi σ M fun still xs M1 => ∀ D, M1 D = none → lcIter still D (lcStep zt zc ze (wiped σ own)) (lcDone fz D Q) xs [] (put M1 D (.lst []))) σV H Q) :
    tLc (liftI G K zi) (liftTg G K slots zt) (liftT G K zc) (liftE G K ze) own σV H Q := by
  obtain ⟨F, σ, M, Q0, A, rs, z, t⟩ := h
  refine ⟨F, σ, M, _, A, rs, z, fun still xs M1 F1 H1 J s1 a1 wk q1 D hD => ?_⟩
  have q1 := q1 D (a1.free hD).1
  refine ⟨fun i m H => ∃ Fi Mi acc, Same F1 Fi ∧ Ab G K Fi Mi H ∧ i ≤ xs.length ∧ m = xs.length - i ∧ lcIter still D (lcStep zt zc ze (wiped σ own)) (lcDone fz D Q0) (xs.drop i) acc Mi, ⟨xs.length, F1, _, [], Same.refl F1, a1.newM (m := .lst []) hD ⟨[], rfl, .nil⟩, Nat.zero_le _, rfl, q1⟩, ?_⟩
  rintro i m H ⟨Fi, Mi, acc, si, ai, hi, rfl, hq⟩
  by_cases hlt : i < xs.length
  · obtain ⟨x, hx, hdr⟩ := drop_cons hlt
    rw [hdr] at hq
    obtain ⟨hst, hq⟩ := hq
    refine .inr ⟨wk.go i Fi Mi H x si ai hst hx, fun H' => ∃ F' M' acc', Same F1 F' ∧ Ab G K F' M' H' ∧ lcIter still D (lcStep zt zc ze (wiped σ own)) (lcDone fz D Q0) (xs.drop (i + 1)) acc' M', fun H' ⟨F', M', acc', s', a', q'⟩ => ⟨_, by omega, F', M', acc', s', a', hlt, rfl, q'⟩, fun v H' hy => ?_⟩
    obtain ⟨F2, s2, a2, r2⟩ := wk.yld i Fi Mi H v H' x si ai hst hx hy
    have s12 : Same F1 F2 := si.trans s2
    refine ⟨F2, x, _, Mi, _, a2, (RS.wipe (rs.mono (s1.trans s12)) own), r2, hq, fun σ3 M3 F3 H3 σV3 s3 a3 r3 g3 q3 => ⟨wipe_agree g3 hslots, F3, σ3, M3, _, a3, r3, q3, fun k M4 F4 H4 s4 a4 q4 => ?_⟩⟩
    obtain ⟨b1, b2⟩ := br_elim q4
    have s14 : Same F1 F4 := (s12.trans s3).trans s4
    cases k with
    | true =>
      rw [if_pos rfl]
      refine ⟨F4, σ3, M4, _, a4, r3.mono s4, b1 rfl, fun y M5 F5 H5 w s5 a5 r5 q5 => ?_⟩
      obtain ⟨e5, l5, q5⟩ := q5
      obtain ⟨_, o, ho, vs, rfl, rv⟩ := a5.mu D _ e5
      exact ⟨vs, ho, by rw [rv.length]; exact l5, F5, _, _, s14.trans s5, a5.write (m := .lst (acc ++ [y])) e5 ⟨_, rfl, rv.append (.cons r5 .nil)⟩, q5⟩
    | false =>
      rw [if_neg (by simp)]
      have q5 := b2 rfl
      exact ⟨F4, M4, acc, s14, a4, q5⟩
  · have e : i = xs.length := by omega
    subst e
    rw [List.drop_length] at hq
    obtain ⟨hst, hq⟩ := hq
    refine .inl ⟨wk.stop _ Fi Mi H si ai hst (Nat.le_refl _), ?_⟩
    cases fz with
    | true =>
      obtain ⟨e5, hq⟩ := hq
      obtain ⟨F', s', a', r'⟩ := ai.freeze e5
      exact t _ _ F' H _ (s1.trans (si.trans s')) a' r' hq
    | false => exact t _ _ Fi H _ (s1.trans si) ai (.ref D) hq
theorem z_comp (ok : Ok G B Φ c X R) {tg iter elt : Expr} {ifs : List Expr} {scope : Scope} {own slots : List Nat} (fz : Bool) {zi : Zs → Mh → ((Mh → Prop) → List PV → Mh → Prop) → Prop} {zt : PV → Zs → Mh → (Zs → Mh → Prop) → Prop} {zc : Zs → Mh → (Bool → Mh → Prop) → Prop} {ze : Zs → Mh → ZQ → Prop}
    (hblk : blkC c.N c.sc scope (ownN c own) = true) (hslots : ∀ i ∈ slots, i ∈ own) (hset : ∀ x, foldedSetIterable iter X.env x = pure x) (hi : PI X tg iter (liftI G X.K zi))
    (hg : ∀ s H C cl fp, PG (X.blk s H scope (compEnvC scope cl C X.env) fp) tg (liftTg G X.K slots zt)) (ht : ∀ s H C cl fp, PTs (X.blk s H scope (compEnvC scope cl C X.env) fp) ifs (liftT G X.K zc)) (he : ∀ s H C cl fp, PE (X.blk s H scope (compEnvC scope cl C X.env) fp) elt (liftE G X.K ze)) :
    PE X (.ListComp elt [⟨tg, iter, ifs, 0⟩] scope pos) (liftE G X.K fun σ M Q => zi σ M fun still xs M1 => ∀ D, M1 D = none →
      lcIter still D (lcStep zt zc ze (wiped σ own)) (lcDone fz D Q) xs [] (put M1 D (.lst []))) := by
  have hb : BlkOk X.N X.env.scope scope (ownN c own) := by rw [ok.hN, ok.sc]; exact blkOk_by hblk
  have ho : (ownN c own).map (·.2) = own := by
    unfold ownN
    rw [List.map_map]
    exact List.map_id' own
  refine peI (pe_lc ok.calm (by rw [ok.hN]; exact ok.nd) hi hb hg ht he hset) fun σV H Q h => ?_
  rw [ho]
  exact comp_imp fz hslots σV H Q h
/-- y = [..], the name a plain local, in the comprehension's own store -/
theorem zs_setcomp (ok : Ok G B Φ c X R) {y : Str} {py spos : Pos} {j : Nat} {tg src elt : Expr} {ifs : List Expr} {scope : Scope} {own slots : List Nat} (fz : Bool) {zi : Zs → Mh → ((Mh → Prop) → List PV → Mh → Prop) → Prop} {zt : PV → Zs → Mh → (Zs → Mh → Prop) → Prop} {zc : Zs → Mh → (Bool → Mh → Prop) → Prop} {ze : Zs → Mh → ZQ → Prop}
    (hy : c.N[j]? = some y) (hyl : isLocal c.sc y = true) (hsw : swapsWith (.ListComp elt [⟨tg, src, ifs, 0⟩] scope pos) (some (.Name y py)) spos.line X.env = pure true)
    (hblk : blkC c.N c.sc scope (ownN c own) = true) (hslots : ∀ i ∈ slots, i ∈ own) (hset : ∀ x, foldedSetIterable src X.env x = pure x) (hi : PI X tg src (liftI G X.K zi))
    (hg : ∀ s H C cl fp, PG (X.blk s H scope (compEnvC scope cl C X.env) fp) tg (liftTg G X.K slots zt)) (ht : ∀ s H C cl fp, PTs (X.blk s H scope (compEnvC scope cl C X.env) fp) ifs (liftT G X.K zc)) (he : ∀ s H C cl fp, PE (X.blk s H scope (compEnvC scope cl C X.env) fp) elt (liftE G X.K ze)) :
    PS X (.Assign [.Name y py] (.ListComp elt [⟨tg, src, ifs, 0⟩] scope pos) spos) (liftS G X.K fun D σ M => zi σ M fun still xs M1 => ∀ A, M1 A = none →
      lcIter still A (lcStep zt zc ze (wiped σ own)) (lcDone fz A fun x M2 => D.nx (σ.set j (some x)) M2) xs [] (put M1 A (.lst []))) := by
  have hb : BlkOk X.N X.env.scope scope (ownN c own) := by rw [ok.hN, ok.sc]; exact blkOk_by hblk
  have ho : (ownN c own).map (·.2) = own := by
    unfold ownN
    rw [List.map_map]
    exact List.map_id' own
  refine psI (ps_setLc ok.calm (by rw [ok.hN]; exact ok.nd) (by rw [ok.hN]; exact hy) (by rw [ok.sc]; exact local_of hyl) hsw hi hb hg ht he hset) fun D σV H ⟨F, σ, M, D0, A, rs, z, t⟩ => ?_
  rw [ho]
  exact comp_imp fz hslots σV H _ ⟨F, σ, M, _, A, rs, z, fun p M1 F1 H1 v s1 a1 r1 q1 => t.nx _ M1 F1 H1 _ s1 a1 ((rs.mono s1).set r1) q1⟩
/-! ### freezing -/
theorem z_frz (h : PE X e (liftE G X.K za)) : PE X e (liftE G X.K fun σ M Q => za σ M fun x M1 => zfrz x M1 Q) :=
  peI h fun σV H Q ⟨F, σ, M, Q0, A, rs, z, t⟩ => ⟨F, σ, M, _, A, rs, z, fun p M1 F1 H1 v s1 a1 r1 q1 => by
    cases r1 with
    | ref ad =>
      obtain ⟨m, e5, q1⟩ := q1
      cases m with
      | lst xs =>
        obtain ⟨F', s', a', r'⟩ := a1.freeze e5
        exact t _ _ F' H1 _ (s1.trans s') a' r' q1
      | ins c fs =>
        obtain ⟨gs, rfl, q1⟩ := q1
        obtain ⟨F', s', a', r'⟩ := a1.freezeI e5
        exact t _ _ F' H1 _ (s1.trans s') a' r' q1
      | dct ks xs =>
        obtain ⟨F', s', a', r'⟩ := a1.freezeD e5
        exact t _ _ F' H1 _ (s1.trans s') a' r' q1
      | sm P => exact False.elim q1
    | _ => exact False.elim q1⟩
/-- a name's thing is not changed any more -/
theorem zss_frz {zs : ZD → Zs → Mh → Prop} {sts : List Stmt} {i : Nat} (h : PSs X sts (liftS G X.K zs)) : PSs X sts (liftS G X.K fun D σ M => (match σ[i]? with
    | some (some x) => zfrz x M fun y M1 => zs D (σ.set i (some y)) M1
    | _ => False)) := pssI h fun D σV H ⟨F, σ, M, D0, A, rs, z, t⟩ => by
  have z : (match σ[i]? with
    | some (some x) => zfrz x M fun y M1 => zs D0 (σ.set i (some y)) M1
    | _ => False) := z
  cases q : σ[i]? with
  | none => rw [q] at z; exact z.elim
  | some oo =>
    cases oo with
    | none => rw [q] at z; exact z.elim
    | some p =>
      rw [q] at z
      have z : zfrz p M fun y M1 => zs D0 (σ.set i (some y)) M1 := z
      obtain ⟨v, hv, rv⟩ := rs.at_ i p q
      have fin : ∀ {F' : Hp} {M' : Mh} {y : PV}, Same F F' → Ab G X.K F' M' H → RV G X.K F' v y → zs D0 (σ.set i (some y)) M' → liftS G X.K zs D σV H := fun {F' M' y} s' a' r' q' => by
        have rs' := (rs.mono s').set (i := i) r'
        have e : σV.set i (some v) = σV := by
          refine List.ext_getElem? fun j => ?_
          by_cases hj : i = j
          · subst hj
            rw [hv, List.getElem?_set_self (by
              by_cases hl : i < σV.length
              · exact hl
              · rw [List.getElem?_eq_none (by omega)] at hv; cases hv)]
          · rw [List.getElem?_set_ne hj]
        rw [e] at rs'
        exact ⟨F', _, M', D0, a', rs', q', t.mono s'⟩
      cases rv with
      | ref ad =>
        obtain ⟨m, e5, q1⟩ := z
        cases m with
        | lst xs =>
          obtain ⟨F', s', a', r'⟩ := A.freeze e5
          exact fin s' a' r' q1
        | ins c fs =>
          obtain ⟨gs, rfl, q1⟩ := q1
          obtain ⟨F', s', a', r'⟩ := A.freezeI e5
          exact fin s' a' r' q1
        | dct ks xs =>
          obtain ⟨F', s', a', r'⟩ := A.freezeD e5
          exact fin s' a' r' q1
        | sm P => exact False.elim q1
      | _ => exact False.elim z
/-! ### statements -/
variable {zs zs' : ZD → Zs → Mh → Prop} {st : Stmt} {sts : List Stmt} {tc : Zs → Mh → (Bool → Mh → Prop) → Prop}
theorem zs_expr (h : PE X e (liftE G X.K za)) (hc : notComp e = true) : PS X (.Expr e pos) (liftS G X.K fun D σ M => za σ M fun _ M1 => D.nx σ M1) :=
  psI (ps_expr h (swap_of hc _ _ _)) fun D σV H ⟨F, σ, M, D0, A, rs, z, t⟩ => ⟨F, σ, M, _, A, rs, z, fun p M1 F1 H1 v s1 a1 r1 q1 => t.nx σ M1 F1 H1 σV s1 a1 (rs.mono s1) q1⟩
theorem zs_ret (h : PE X e (liftE G X.K za)) : PS X (.Return (some e) pos) (liftS G X.K fun D σ M => za σ M D.rt) :=
  psI (ps_ret h) fun D σV H ⟨F, σ, M, D0, A, rs, z, t⟩ => ⟨F, σ, M, _, A, rs, z, t.rt⟩
theorem zs_retN : PS X (.Return none pos) (liftS G X.K fun D σ M => D.rt .non M) :=
  psI ps_retN fun D σV H ⟨F, σ, M, D0, A, rs, z, t⟩ => t.rt _ M F H _ (Same.refl F) A .non z
theorem zs_pass : PS X (.Pass pos) (liftS G X.K fun D σ M => D.nx σ M) := psI ps_pass fun D σV H ⟨F, σ, M, D0, A, rs, z, t⟩ => t.nx σ M F H σV (Same.refl F) A rs z
theorem zs_brk : PS X (.Break pos) (liftS G X.K fun D σ M => D.bk σ M) := psI ps_break fun D σV H ⟨F, σ, M, D0, A, rs, z, t⟩ => t.bk σ M F H σV (Same.refl F) A rs z
theorem zs_cont : PS X (.Continue pos) (liftS G X.K fun D σ M => D.ct σ M) := psI ps_continue fun D σV H ⟨F, σ, M, D0, A, rs, z, t⟩ => t.ct σ M F H σV (Same.refl F) A rs z
theorem zs_never : PS X st (liftS G X.K fun _ _ _ => False) := psI ps_never fun D σV H ⟨F, σ, M, D0, A, rs, z, t⟩ => z
theorem zss_nil : PSs X [] (liftS G X.K fun D σ M => D.nx σ M) := pssI pss_nil fun D σV H ⟨F, σ, M, D0, A, rs, z, t⟩ => t.nx σ M F H σV (Same.refl F) A rs z
theorem zss_cons (h1 : PS X st (liftS G X.K zs)) (h2 : PSs X sts (liftS G X.K zs')) : PSs X (st :: sts) (liftS G X.K fun D σ M => zs { D with nx := fun σ1 M1 => zs' D σ1 M1 } σ M) :=
  pssI (pss_cons h1 h2) fun D σV H ⟨F, σ, M, D0, A, rs, z, t⟩ => ⟨F, σ, M, _, A, rs, z, ⟨fun σ' M' F' H' σV' s' a' r' q' => ⟨F', σ', M', D0, a', r', q', t.mono s'⟩, t.rt, t.bk, t.ct⟩⟩
theorem zs_if (hc : PT X e (liftT G X.K tc)) {as bs : List Stmt} (ha : PSs X as (liftS G X.K zs)) (hb : PSs X bs (liftS G X.K zs')) : PS X (.If e as bs pos) (liftS G X.K fun D σ M => tc σ M fun k M1 => br k (zs D σ M1) (zs' D σ M1)) :=
  psI (ps_if hc ha hb) fun D σV H ⟨F, σ, M, D0, A, rs, z, t⟩ => ⟨F, σ, M, _, A, rs, z, fun k M1 F1 H1 s1 a1 q1 => by
    obtain ⟨b1, b2⟩ := br_elim q1
    cases k with
    | true => rw [if_pos rfl]; exact ⟨F1, σ, M1, D0, a1, rs.mono s1, b1 rfl, t.mono s1⟩
    | false => rw [if_neg (by simp)]; exact ⟨F1, σ, M1, D0, a1, rs.mono s1, b2 rfl, t.mono s1⟩⟩
theorem zs_for (ok : Ok G B Φ c X R) {tg src : Expr} {slots : List Nat} {zi : Zs → Mh → ((Mh → Prop) → List PV → Mh → Prop) → Prop} {zt : PV → Zs → Mh → (Zs → Mh → Prop) → Prop} (hset : ∀ x, foldedSetIterable src X.env x = pure x)
    (hi : PI X tg src (liftI G X.K zi)) (hg : PG X tg (liftTg G X.K slots zt)) (hb : PSs X sts (liftS G X.K zs)) : PS X (.For tg src sts [] pos) (liftS G X.K fun D σ M => zi σ M fun still xs M1 =>
      iter still (fun x σ' M' k => zt x σ' M' fun σ2 M2 => zs { D with nx := k, ct := k, bk := D.nx } σ2 M2) D.nx xs σ M1) := by
  refine psI (ps_for ok.po ok.calm hi hg hb hset) fun D σV H ⟨F, σ, M, D0, A, rs, z, t⟩ => ?_
  refine ⟨F, σ, M, _, A, rs, z, fun still xs M1 F1 H1 J s1 a1 wk q1 => ?_⟩
  refine ⟨fun i m σV H => ∃ Fi σi Mi, Same F1 Fi ∧ Ab G X.K Fi Mi H ∧ RS G X.K Fi σV σi ∧ i ≤ xs.length ∧ m = xs.length - i ∧ iter still (fun x σ' M' k => zt x σ' M' fun σ2 M2 => zs { D0 with nx := k, ct := k, bk := D0.nx } σ2 M2) D0.nx (xs.drop i) σi Mi,
    ⟨xs.length, F1, σ, M1, Same.refl F1, a1, rs.mono s1, Nat.zero_le _, rfl, q1⟩, ?_⟩
  rintro i m σV H ⟨Fi, σi, Mi, si, ai, ri, hi, rfl, hq⟩
  by_cases hlt : i < xs.length
  · obtain ⟨x, hx, hdr⟩ := drop_cons hlt
    rw [hdr] at hq
    obtain ⟨hst, hq⟩ := hq
    refine .inr ⟨wk.go i Fi Mi H x si ai hst hx, fun σV' H' => ∃ F' σ' M', Same F1 F' ∧ Ab G X.K F' M' H' ∧ RS G X.K F' σV' σ' ∧ iter still (fun x σ' M' k => zt x σ' M' fun σ2 M2 => zs { D0 with nx := k, ct := k, bk := D0.nx } σ2 M2) D0.nx (xs.drop (i + 1)) σ' M',
      fun σV' H' ⟨F', σ', M', s', a', r', q'⟩ => ⟨_, by omega, F', σ', M', s', a', r', hlt, rfl, q'⟩, fun v H' hy => ?_⟩
    obtain ⟨F2, s2, a2, r2⟩ := wk.yld i Fi Mi H v H' x si ai hst hx hy
    refine ⟨F2, x, σi, Mi, _, a2, ri.mono s2, r2, hq, fun σ3 M3 F3 H3 σV3 s3 a3 r3 _ q3 => ⟨F3, σ3, M3, _, a3, r3, q3, ?_⟩⟩
    have s13 : Same F1 F3 := (si.trans s2).trans s3
    have t3 := t.mono (s1.trans s13)
    exact ⟨fun σ4 M4 F4 H4 σV4 s4 a4 r4 q4 => ⟨F4, σ4, M4, s13.trans s4, a4, r4, q4⟩, t3.rt, fun σ4 M4 F4 H4 σV4 s4 a4 r4 q4 => t3.nx σ4 M4 F4 H4 σV4 s4 a4 r4 q4, fun σ4 M4 F4 H4 σV4 s4 a4 r4 q4 => ⟨F4, σ4, M4, s13.trans s4, a4, r4, q4⟩⟩
  · have e : i = xs.length := by omega
    subst e
    rw [List.drop_length] at hq
    obtain ⟨hst, hq⟩ := hq
    exact .inl ⟨wk.stop _ Fi Mi H si ai hst (Nat.le_refl _), t.nx σi Mi Fi H σV (s1.trans si) ai ri hq⟩
theorem zs_while (ok : Ok G B Φ c X R) (hc : PT X e (liftT G X.K tc)) (hb : PSs X sts (liftS G X.K zs)) : PS X (.While e sts [] pos) (liftS G X.K fun D σ M => ∃ n, whileN tc zs D n σ M) := by
  refine psI (ps_while ok.po hc hb) fun D σV H ⟨F, σ, M, D0, A, rs, ⟨n, z⟩, t⟩ => ?_
  refine ⟨fun m σV H => ∃ Fi σi Mi, Same F Fi ∧ Ab G X.K Fi Mi H ∧ RS G X.K Fi σV σi ∧ whileN tc zs D0 m σi Mi, ⟨n, F, σ, M, Same.refl F, A, rs, z⟩, ?_⟩
  rintro m σV H ⟨Fi, σi, Mi, si, ai, ri, hq⟩
  cases m with
  | zero => exact False.elim hq
  | succ m =>
    refine ⟨Fi, σi, Mi, _, ai, ri, hq, fun k M1 F1 H1 s1 a1 q1 => ?_⟩
    obtain ⟨b1, b2⟩ := br_elim q1
    have t1 := t.mono (si.trans s1)
    cases k with
    | true =>
      rw [if_pos rfl]
      refine ⟨fun σV' H' => ∃ F' σ' M', Same F F' ∧ Ab G X.K F' M' H' ∧ RS G X.K F' σV' σ' ∧ whileN tc zs D0 m σ' M', fun σV' H' w => ⟨m, Nat.lt_succ_self m, w⟩, F1, σi, M1, _, a1, ri.mono s1, b1 rfl, ?_⟩
      have s01 : Same F F1 := si.trans s1
      exact ⟨fun σ4 M4 F4 H4 σV4 s4 a4 r4 q4 => ⟨F4, σ4, M4, s01.trans s4, a4, r4, q4⟩, t1.rt, fun σ4 M4 F4 H4 σV4 s4 a4 r4 q4 => t1.nx σ4 M4 F4 H4 σV4 s4 a4 r4 q4, fun σ4 M4 F4 H4 σV4 s4 a4 r4 q4 => ⟨F4, σ4, M4, s01.trans s4, a4, r4, q4⟩⟩
    | false =>
      rw [if_neg (by simp)]
      exact t1.nx σi M1 F1 H1 σV (Same.refl F1) a1 (ri.mono s1) (b2 rfl)
theorem len_sub {α : Type} [DecidableEq α] : ∀ {l m : List α}, l.Nodup → (∀ x ∈ l, x ∈ m) → l.length ≤ m.length
  | [], _, _, _ => Nat.zero_le _
  | a :: l, m, nd, h => by
    obtain ⟨n1, n2⟩ := List.nodup_cons.mp nd
    have ha := h a List.mem_cons_self
    have ih := len_sub (l := l) (m := m.erase a) n2 fun x hx => (List.mem_erase_of_ne (show x ≠ a from fun e => n1 (by rw [← e]; exact hx))).mpr (h x (List.mem_cons_of_mem _ hx))
    rw [List.length_erase_of_mem ha] at ih
    have : 0 < m.length := List.length_pos_of_mem ha
    rw [List.length_cons]
    omega
theorem putF_keys {f : Str} {v : V} : ∀ {fs : List (Str × V)} {x : Str}, x ∈ (putF f v fs).map (·.1) → x = f ∨ x ∈ fs.map (·.1)
  | [], x, h => by
    have h : x ∈ [f] := h
    exact .inl (List.mem_singleton.mp h)
  | (k, w) :: r, x, h => by
    unfold putF at h
    split at h
    · rename_i e
      rcases List.mem_cons.mp (show x ∈ _ :: r.map (·.1) from h) with h | h
      · exact .inl (by first | exact h | exact h.trans e)
      · exact .inr (List.mem_cons_of_mem _ h)
    · rcases List.mem_cons.mp (show x ∈ k :: (putF f v r).map (·.1) from h) with h | h
      · exact .inr (by rw [h]; exact List.mem_cons_self)
      · rcases putF_keys h with h | h
        · exact .inl h
        · exact .inr (List.mem_cons_of_mem _ h)
theorem putF_nodup {f : Str} {v : V} : ∀ {fs : List (Str × V)}, (fs.map (·.1)).Nodup → ((putF f v fs).map (·.1)).Nodup
  | [], _ => List.nodup_cons.mpr ⟨by simp, List.nodup_nil⟩
  | (k, w) :: r, h => by
    obtain ⟨h1, h2⟩ := List.nodup_cons.mp (show (k :: r.map (·.1)).Nodup from h)
    unfold putF
    split
    · rename_i e
      first
        | exact h
        | (subst e; exact h)
    · rename_i e
      refine List.nodup_cons.mpr ⟨fun q => ?_, putF_nodup h2⟩
      rcases putF_keys q with q | q
      · exact e (by first | exact q | exact q.symm)
      · exact h1 q
/-- target = value -/
theorem asg_lift {st : Stmt} {slots : List Nat} {zt : PV → Zs → Mh → (Zs → Mh → Prop) → Prop} (h : PS X st (tAsg (liftE G X.K za) (liftTg G X.K slots zt))) : PS X st (liftS G X.K fun D σ M => za σ M fun x M1 => zt x σ M1 D.nx) :=
  psI h fun D σV H ⟨F, σ, M, D0, A, rs, z, t⟩ => ⟨F, σ, M, _, A, rs, z, fun p M1 F1 H1 v s1 a1 r1 q1 => ⟨F1, p, σ, M1, _, a1, rs.mono s1, r1, q1, fun σ2 M2 F2 H2 σV2 s2 a2 r2 _ q2 => t.nx σ2 M2 F2 H2 σV2 (s1.trans s2) a2 r2 q2⟩⟩
theorem par_of {t v : Expr} (h : noPar t v = true) (env : Env) : swappedStores [t] v env = pure none := by
  cases t with
  | Tuple _ _ _ => cases v <;> first | rfl | cases h
  | List _ _ => cases v <;> first | rfl | cases h
  | _ => rfl
theorem zs_asg {tg : Expr} {slots : List Nat} {zt : PV → Zs → Mh → (Zs → Mh → Prop) → Prop} (hp : noPar tg e = true) (hn : notStar tg = true) (hs : swapsWith e (some tg) pos.line X.env = pure false) (h : PE X e (liftE G X.K za)) (hg : PG X tg (liftTg G X.K slots zt)) :
    PS X (.Assign [tg] e pos) (liftS G X.K fun D σ M => za σ M fun x M1 => zt x σ M1 D.nx) :=
  asg_lift (ps_asg h hg hs (par_of hp X.env) (by have := (assign_star hn [] X.env).1; exact this))
theorem zs_fld (ok : Ok G B Φ c X R) {f nm : Str} {k i : Nat} {lay : List Str} {p2 : Pos} (hc : G.cls[k]? = some (nm, lay)) (hl : lay[i]? = some f) (hlen : lay.length < 900) (hn : notComp e = true) (ho : PE X o (liftE G X.K za)) (he : PE X e (liftE G X.K zb)) :
    PS X (.Assign [.Attribute o f p2] e pos) (liftS G X.K fun D σ M => zb σ M fun y M1 => za σ M1 fun x M2 => (match x with
    | .ref p => ∃ fs, M2 p = some (.ins k fs) ∧ i < fs.length ∧ D.nx σ (put M2 p (.ins k (fs.set i (some y))))
    | _ => False)) := by
  obtain ⟨cl, nd, na⟩ := ok.tab.cl k nm lay hc
  have hna := na f (List.mem_of_getElem? hl)
  refine psI (ps_fld ho he (swap_of hn _ _ _)) fun D σV H ⟨F, σ, M, D0, A, rs, z, t⟩ => ⟨F, σ, M, _, A, rs, z, fun y M1 F1 H1 vy s1 a1 r1 q1 => ⟨F1, σ, M1, _, a1, rs.mono s1, q1, fun x M2 F2 H2 vx s2 a2 r2 q2 => ?_⟩⟩
  cases r2 with
  | ref ad =>
    obtain ⟨fs, e5, hi, q2⟩ := q2
    obtain ⟨_, o, ho, nm', lay', dx, kvs, e1, rfl, e3, e4, e5', e6⟩ := a2.mu ad _ e5
    rw [hc] at e1
    cases e1
    have hk : (kvs.map (·.1)).length ≤ lay.length := len_sub e3 fun x hx => e5' x fun q => by
      obtain ⟨⟨k1, w1⟩, hm, rfl⟩ := List.mem_map.mp hx
      exact absurd q (by
        have := List.lookup_eq_none_iff.mp q ⟨k1, w1⟩ hm
        simp at this)
    rw [List.length_map] at hk
    refine ⟨ad, _, dx, kvs, rfl, ho, cl, hna, by omega, t.nx σ _ F2 _ σV (s1.trans s2) (a2.write (m := .ins k (fs.set i (some y))) e5 ⟨nm, lay, dx, _, hc, rfl, ?_, ?_, fun g hg => ?_, fun j p g h1 h2 => ?_⟩) ((rs.mono s1).mono s2) q2⟩
    · exact putF_nodup e3
    · rw [List.length_set]; exact e4
    · rw [lookup_putF] at hg
      by_cases q : g = f
      · rw [q]; exact List.mem_of_getElem? hl
      · rw [if_neg q] at hg; exact e5' g hg
    · rw [lookup_putF]
      by_cases hij : i = j
      · subst hij
        rw [hl] at h2
        cases h2
        rw [List.getElem?_set_self (by rw [e4] at hi ⊢; exact hi)] at h1
        cases h1
        rw [if_pos rfl]
        exact ⟨vy, rfl, r1.mono s2⟩
      · rw [List.getElem?_set_ne hij] at h1
        have hne : g ≠ f := fun q => by
          subst q
          obtain ⟨l1, e1⟩ := List.getElem?_eq_some_iff.mp hl
          obtain ⟨l2, e2⟩ := List.getElem?_eq_some_iff.mp h2
          exact hij ((List.getElem_inj nd).mp (e1.trans e2.symm))
        rw [if_neg hne]
        exact e6 j p g h1 h2
  | _ => exact False.elim q2
theorem zg_fld (ok : Ok G B Φ c X R) {f nm : Str} {k i : Nat} {lay : List Str} {p2 : Pos} (hc : G.cls[k]? = some (nm, lay)) (hl : lay[i]? = some f) (hlen : lay.length < 900) (ho : PE X o (liftE G X.K za)) :
    PG X (.Attribute o f p2) (liftTg G X.K [] fun y σ M kk => za σ M fun x M2 => (match x with
    | .ref p => ∃ fs, M2 p = some (.ins k fs) ∧ i < fs.length ∧ kk σ (put M2 p (.ins k (fs.set i (some y))))
    | _ => False)) := by
  obtain ⟨cl, nd, na⟩ := ok.tab.cl k nm lay hc
  have hna := na f (List.mem_of_getElem? hl)
  refine pgI (pg_fld ho) fun vy σV H Q ⟨F, y, σ, M, k0, A, rs, r1, z, t⟩ => ⟨F, σ, M, _, A, rs, z, fun x M2 F2 H2 vx s2 a2 r2 q2 => ?_⟩
  cases r2 with
  | ref ad =>
    obtain ⟨fs, e5, hi, q2⟩ := q2
    obtain ⟨_, o, ho, nm', lay', dx, kvs, e1, rfl, e3, e4, e5', e6⟩ := a2.mu ad _ e5
    rw [hc] at e1
    cases e1
    have hk : (kvs.map (·.1)).length ≤ lay.length := len_sub e3 fun x hx => e5' x fun q => by
      obtain ⟨⟨k1, w1⟩, hm, rfl⟩ := List.mem_map.mp hx
      exact absurd q (by
        have := List.lookup_eq_none_iff.mp q ⟨k1, w1⟩ hm
        simp at this)
    rw [List.length_map] at hk
    refine ⟨ad, _, dx, kvs, rfl, ho, cl, hna, by omega, t σ _ F2 _ σV s2 (a2.write (m := .ins k (fs.set i (some y))) e5 ⟨nm, lay, dx, _, hc, rfl, ?_, ?_, fun g hg => ?_, fun j p g h1 h2 => ?_⟩) (rs.mono s2) (Agree.refl _ _) q2⟩
    · exact putF_nodup e3
    · rw [List.length_set]; exact e4
    · rw [lookup_putF] at hg
      by_cases q : g = f
      · rw [q]; exact List.mem_of_getElem? hl
      · rw [if_neg q] at hg; exact e5' g hg
    · rw [lookup_putF]
      by_cases hij : i = j
      · subst hij
        rw [hl] at h2
        cases h2
        rw [List.getElem?_set_self (by rw [e4] at hi ⊢; exact hi)] at h1
        cases h1
        rw [if_pos rfl]
        exact ⟨vy, rfl, r1.mono s2⟩
      · rw [List.getElem?_set_ne hij] at h1
        have hne : g ≠ f := fun q => by
          subst q
          obtain ⟨l1, e1⟩ := List.getElem?_eq_some_iff.mp hl
          obtain ⟨l2, e2⟩ := List.getElem?_eq_some_iff.mp h2
          exact hij ((List.getElem_inj nd).mp (e1.trans e2.symm))
        rw [if_neg hne]
        exact e6 j p g h1 h2
  | _ => exact False.elim q2
end
end Z
set_option Elab.async false
set_option linter.all false
set_option maxRecDepth 100000
set_option maxHeartbeats 4000000
namespace Z
open PySem PySem.Spec PyProof.Rows L2
section
variable {G : Cfg} {K : PySem.W.Frag} {F H : Hp} {M : Mh}
/-- a new thing that is not told of -/
theorem Ab.newU (A : Ab G K F M H) {p : Addr} {o : HO} (h : H p = none) : Ab G K F M (upd H p o) := by
  refine ⟨A.bs, fun b q e => ?_, fun a m e => ?_⟩
  · rw [upd_ne (ne_of_none (A.sub b q e) h)]; exact A.sub b q e
  · obtain ⟨h1, q, h2, h3⟩ := A.mu a m e
    exact ⟨h1, q, by rw [upd_ne (ne_of_none h2 h)]; exact h2, h3⟩
/-- a change, the last one -/
theorem Ab.writeF (A : Ab G K F M H) {p : Addr} {o : HO} {m0 : MO} (h : M p = some m0) : Ab G K (upd F p o) (del M p) (upd H p o) ∧ Same F (upd F p o) := by
  obtain ⟨hF, _⟩ := A.mu p m0 h
  have sF : Same F (upd F p o) := sameUpd hF
  refine ⟨⟨A.bs.trans sF, fun b q e => ?_, fun a m e => ?_⟩, sF⟩
  · by_cases hb : b = p
    · subst hb; rw [upd_same] at e ⊢; exact e
    · rw [upd_ne hb] at e ⊢; exact A.sub b q e
  · have hap : a ≠ p := fun z => by subst z; unfold del at e; rw [if_pos rfl] at e; cases e
    have e' : M a = some m := by unfold del at e; rw [if_neg hap] at e; exact e
    obtain ⟨h1, q, h2, h3⟩ := A.mu a m e'
    exact ⟨by rw [upd_ne hap]; exact h1, q, by rw [upd_ne hap]; exact h2, h3.mono sF⟩
end
/-! ### dict displays -/
theorem putK_new {kvs : List (Key × V)} {k : Key} {v : V} (h : k ∉ kvs.map (·.1)) : putK kvs k v = kvs ++ [(k, v)] := by
  unfold putK
  rw [if_neg]
  intro e
  obtain ⟨q, hq, e⟩ := List.any_eq_true.mp e
  exact h (List.mem_map.mpr ⟨q, hq, of_decide_eq_true e⟩)
theorem mergeK_app : ∀ (more kvs : List (Key × V)), ((kvs ++ more).map (·.1)).Nodup → mergeK kvs more = kvs ++ more
  | [], kvs, _ => by rw [List.append_nil]; rfl
  | p :: r, kvs, h => by
    have h1 : p.1 ∉ kvs.map (·.1) := by
      rw [List.map_append, List.map_cons] at h
      intro hm
      have := (List.nodup_append.mp h).2.2 p.1 hm p.1 (List.mem_cons_self ..)
      exact this rfl
    show mergeK (putK kvs p.1 p.2) r = _
    rw [putK_new h1, mergeK_app r _ (by rw [List.append_assoc]; exact h), List.append_assoc]
    rfl
theorem zip_keys : ∀ (ks : List Str) (us : List V), ks.Nodup → (((ks.map Sum.inr : List Key).zip us).map (·.1)).Nodup ∧ ∀ q ∈ ((ks.map Sum.inr : List Key).zip us).map (·.1), ∃ k ∈ ks, q = .inr k
  | [], us, _ => ⟨List.nodup_nil, fun q h => by cases h⟩
  | k :: ks, [], _ => ⟨List.nodup_nil, fun q h => by cases h⟩
  | k :: ks, u :: us, h => by
    obtain ⟨n1, n2⟩ := List.nodup_cons.mp h
    obtain ⟨i1, i2⟩ := zip_keys ks us n2
    refine ⟨List.nodup_cons.mpr ⟨fun hm => ?_, i1⟩, fun q hq => ?_⟩
    · obtain ⟨k', h1, h2⟩ := i2 _ hm
      cases h2
      exact n1 h1
    · rcases List.mem_cons.mp hq with rfl | hq
      · exact ⟨k, List.mem_cons_self .., rfl⟩
      · obtain ⟨k', h1, h2⟩ := i2 q hq
        exact ⟨k', List.mem_cons_of_mem _ h1, h2⟩
theorem merge_zip {ks : List Str} {us : List V} (h : ks.Nodup) : mergeK [] ((ks.map Sum.inr : List Key).zip us) = (ks.map Sum.inr : List Key).zip us := by
  rw [mergeK_app _ _ ?_, List.nil_append]
  rw [List.nil_append]
  exact (zip_keys ks us h).1
def trsOf (G : Cfg) (K : PySem.W.Frag) (Φ : Nat → ZSp) (R : ZR) : List Str → EL → List (TE × TE)
  | k :: ks, .cons e r => (tC (.str k), liftE G K (semE Φ R e)) :: trsOf G K Φ R ks r
  | _, _ => []
theorem pairs_of {G : Cfg} {K : PySem.W.Frag} {Φ : Nat → ZSp} {R : ZR} : ∀ (ks : List Str) (vs : EL), ks.length = vs.len → ∀ {F : Hp} {σ : Zs} {M : Mh} {σV : L2.St} {H : Hp} {Q : List (V × V) → Hp → Prop} {Q0 : List PV → Mh → Prop}, Ab G K F M H → RS G K F σV σ → semA Φ R vs σ M Q0 →
    (∀ ps M' F' H' us, Same F F' → Ab G K F' M' H' → RVs G K F' us ps → us.length = ks.length → Q0 ps M' → Q ((ks.map V.str).zip us) H') → tPairs (trsOf G K Φ R ks vs) σV H Q
  | [], .nil, _, F, σ, M, σV, H, Q, Q0, A, rs, z, t => t [] M F H [] (Same.refl F) A .nil rfl z
  | [], .cons _ _, h, _, _, _, _, _, _, _, _, _, _, _ => by cases h
  | _ :: _, .nil, h, _, _, _, _, _, _, _, _, _, _, _ => by cases h
  | k :: ks, .cons e r, h, F, σ, M, σV, H, Q, Q0, A, rs, z, t => by
    have h' : ks.length = r.len := by
      have : ks.length + 1 = r.len + 1 := h
      omega
    refine ⟨F, σ, M, _, A, rs, z, fun p M1 F1 H1 v s1 a1 r1 q1 => ?_⟩
    refine pairs_of ks r h' a1 (rs.mono s1) q1 fun ps M2 F2 H2 us s2 a2 r2 l2 q2 => ?_
    exact t (p :: ps) M2 F2 H2 (v :: us) (s1.trans s2) a2 (.cons (r1.mono s2) r2) (by rw [List.length_cons, List.length_cons, l2]) q2
theorem z_dict {G : Cfg} {X : Cx} {Φ : Nat → ZSp} {R : ZR} (fz : Bool) {ks : List Str} {vs : EL} {keys : List (Option Expr)} {values : List Expr} {pos : Pos} (h : PPs X pos keys values (trsOf G X.K Φ R ks vs)) (hl : ks.length = vs.len) (nd : ks.Nodup)
    (hall : keys.all (·.isSome) = true) (hk : keys.length = values.length) (h0 : keys ≠ []) (h15 : keys.length ≤ 15) (hks : ks.length ≤ 15) : PE X (.Dict keys values pos) (liftE G X.K (semE Φ R (.dict fz ks vs))) := by
  refine peI (pe_disp h hall hk h0 h15) fun σV H Q ⟨F, σ, M, Q0, A, rs, z, t⟩ => ?_
  have z : ∀ D, M D = none → semA Φ R vs σ (put M D (.dct [] [])) fun ps M1 => M1 D = some (.dct [] []) ∧ dDone fz D ks ps Q0 M1 := z
  intro D hD
  have A1 : Ab G X.K F (put M D (.dct [] [])) (upd H D (.dK [])) := A.newM hD ⟨[], rfl, rfl, .nil⟩
  refine pairs_of ks vs hl A1 rs (z D (A.free hD).1) fun ps M1 F1 H1 us s1 a1 r1 l1 q1 => ?_
  obtain ⟨e, q1⟩ := q1
  obtain ⟨_, o, ho, us0, rfl, _, r0⟩ := a1.mu D _ e
  cases r0
  refine ⟨ho, (ks.map Sum.inr : List Key).zip us, ?_, ?_, ?_⟩
  · rw [List.zip_map_left, List.zip_map_left, List.map_map]
    rfl
  · rw [List.length_zip, List.length_map]; omega
  · rw [merge_zip nd]
    have hlen : (ks.map Sum.inr : List Key).length = us.length := by rw [List.length_map, l1]
    cases fz with
    | true =>
      obtain ⟨A2, s2⟩ := a1.writeF (o := .dK ((ks.map Sum.inr : List Key).zip us)) e
      exact t _ _ _ _ _ (s1.trans s2) A2 (.dct upd_same hlen (r1.mono s2)) q1
    | false => exact t _ _ F1 _ _ s1 (a1.write (m := .dct (ks.map Sum.inr) ps) e ⟨us, rfl, hlen, r1⟩) (.ref D) q1
/-! ### new instances -/
section
variable {X : Cx} {k n : Nat} {f C : Addr} {fd : FuncData} {ps ks : List Str} {sp : Sp} {W : WX} {x : Str} {p pos : Pos} {e : Expr} {es : List Expr} {kws : List Keyword} {t tk : TA} {g : List Value → List Value → List Value} {gV : List V → List V → List V}
def tMakeSD (C : Addr) (n m : Nat) (sp : Sp) (gV : List V → List V → List V) (E : L2.St → XK) (t tk : TA) : TE := fun σ H Q => t σ H fun vs H1 => tk σ H1 fun zs H2 => (vs.length = n ∧ zs.length = m) ∧
  ∀ y dy, H2 y = none → H2 dy = none → dy ≠ y → sp (gV (.ref y :: vs) zs) (upd (upd H2 dy (.own y)) y (.ins C dy [])) (fun v H3 => v = .non ∧ Q (.ref y) H3) (E σ)
theorem kw_of : ∀ {kws : List Keyword} (h : kwAll kws = true) (pos : Pos) (env : Env), (backToKw pos (keywordEach kws env)).all (·.1.isSome) = true ∧ (backToKw pos (keywordEach kws env)).filterMap (·.1) = kwNames kws ∧ (backToKw pos (keywordEach kws env)).any (·.1.isNone) = false
  | [], _, _, _ => ⟨rfl, rfl, rfl⟩
  | ⟨none, v, p⟩ :: kws, h, pos, env => by cases h
  | ⟨some a, v, p⟩ :: kws, h, pos, env => by
    obtain ⟨i1, i2, i3⟩ := kw_of (kws := kws) h pos env
    refine ⟨i1, ?_, i3⟩
    show a :: (backToKw pos (keywordEach kws env)).filterMap (·.1) = a :: kwNames kws
    rw [i2]
theorem makeAny (M : Mk X.K C f) (F : FnOk X.prog X.w X.K X.mg X.base (L2.CX X.prog X.w) k f fd ps sp) (hr : Room (k + 1) X.A) (hg : Gl X x) (hm : X.mg x = some (.ref C)) (hb : KBn X.K fd ps (n + 1) ks g gV) (tk' : Takes X W)
    (ha : PA X (e :: es) t) (hkw : PK X kws tk) (hk : kwAll kws = true) (hks : kwNames kws = ks) (hs : (e :: es).all notStar = true) (hdb : (x == ("__debug__" : Str)) = false) :
    PE X (.Call (.Name x p) (e :: es) kws pos) (tMakeSD C n ks.length sp gV (WE W) t tk) := by
  obtain ⟨h1, h2⟩ := Bool.and_eq_true_iff.mp (show (notStar e && es.all notStar) = true from hs)
  obtain ⟨k1, k2, k3⟩ := kw_of hk pos X.env
  have hpl : ((backTo pos (starEach (e :: es) X.env)).any (·.1) || (backToKw pos (keywordEach kws X.env)).any (·.1.isNone)) = false := by rw [(stars_of hs pos X.env).1, k3]; rfl
  refine ⟨fun pins s σ H Q I h => ?_⟩
  refine wpAny_Call_Name_kw (ld_glob I hg hm ?_ hdb)
  refine PySem.W.callWith_KW (h₀ := X.base) I.ok.mod.kin M.kp k1 (thn (ha.run pos pins s σ H _ I h) fun us s1 z1 => ?_) hpl (star_of h1 es X.env)
  obtain ⟨vs, H1, I1, r, q⟩ := z1
  refine thn (hkw.run pos pins s1 σ H1 _ I1 q) fun ws s2 z2 => ?_
  obtain ⟨zs, H2, I2, rz, ⟨l1, l2⟩, q2⟩ := z2
  refine ⟨I2.kIn, ?_⟩
  rw [k2, hks]
  have hq := q2 (s2.heap.objs.size + 1) s2.heap.objs.size (I2.hok.fresh (Nat.le_succ _)) (I2.hok.fresh (Nat.le_refl _)) (Nat.ne_of_lt (Nat.lt_succ_self _))
  have J := Inv.made (C := C) I2
  have ra : Vals (V.ref (s2.heap.objs.size + 1) :: vs) (Value.ref (s2.heap.objs.size + 1) :: us) := .cons rfl r
  have la : (Value.ref (s2.heap.objs.size + 1) :: us).length = n + 1 := ra.length.symm.trans (congrArg Nat.succ l1)
  refine wpAny_call (make_map (f := f) I2.kIn M.makes M.init (beq_iff_eq.mp M.fn) (codeAny_mono (F.run _ X.stack _ _ ⟨Value.ref (s2.heap.objs.size + 1) :: us, ks.zip ws⟩ (g (Value.ref (s2.heap.objs.size + 1) :: us) ws) _ _ _ (hr.make C us (ks.zip ws))
    (J.env0.make C us (ks.zip ws)) (hb.to _ (Value.ref (s2.heap.objs.size + 1) :: us) ws J.kIn la (rz.length.symm.trans l2)) (hb.rel ra rz) hq) fun r s' hq' => ?_))
  match r, hq' with
  | .error e, hq' => exact passAt tk' σ pins _ _ e s' J hq'
  | .ok (.ret u), hq' =>
    obtain ⟨v, H', I3, rv, rfl, q3⟩ := J.after hq'
    exact ⟨rv, ⟨V.ref (s2.heap.objs.size + 1), H', I3, rfl, q3⟩⟩
  | .ok .next, hq' => exact False.elim hq'
  | .ok .brk, hq' => exact False.elim hq'
  | .ok .cont, hq' => exact False.elim hq'
end
section
variable {G : Cfg} {B : Tb} {Φ : Nat → ZSp} {c : CC} {X : Cx} {R : ZR} {za zb zc : Zs → Mh → ZQ → Prop} {a b d e o : Expr} {es : List Expr} {pos apos : Pos} {n : Nat} {zs zk : Zs → Mh → (List PV → Mh → Prop) → Prop}
theorem zk_nil : PK X [] (liftA G X.K 0 fun _ M Q => Q [] M) :=
  ⟨fun pos pins s σV H Q I ⟨F, σ, M, Q0, A, rs, z, t⟩ => pk_nil.run pos pins s σV H Q I (t [] M F H [] (Same.refl F) A .nil rfl z)⟩
theorem zk_cons {nm : Option Str} {kpos : Pos} {kws : List Keyword} (he : PE X e (liftE G X.K za)) (hr : PK X kws (liftA G X.K n zs)) : PK X (⟨nm, e, kpos⟩ :: kws) (liftA G X.K (n + 1) fun σ M Q => za σ M fun x M1 => zs σ M1 fun xs M2 => Q (x :: xs) M2) :=
  ⟨fun pos pins s σV H Q I ⟨F, σ, M, Q0, A, rs, z, t⟩ => (pk_cons he hr).run pos pins s σV H Q I ⟨F, σ, M, _, A, rs, z, fun p M1 F1 H1 v s1 a1 r1 q1 => ⟨F1, σ, M1, _, a1, rs.mono s1, q1, fun ps M2 F2 H2 vs s2 a2 r2 l2 q2 =>
    t _ M2 F2 H2 _ (s1.trans s2) a2 (.cons (r1.mono s2) r2) (by rw [List.length_cons, l2]) q2⟩⟩⟩
theorem z_make (ok : Ok G B Φ c X R) {j f k m n' : Nat} {mk : Mkr} {x : Str} {lay : List Str} {p : Pos} {ds : List (Nat ⊕ DV)} {kws : List Keyword} (hj : B.mks[j]? = some mk) (hc : G.cls[k]? = some (x, lay)) (hmc : mk.c = k) (hmf : mk.f = f) (hmn : mk.n = n) (hmk : mk.ks = kwNames kws) (hmd : mk.ds = ds) (hlay : lay.length = m) (hlim : f + 1 < c.lim)
    (hk : kwAll kws = true) (hg : glB c.sc x = true) (hn : niceB x = true) (hst : (e :: es).all notStar = true) (ha : PA X (e :: es) (liftA G X.K n zs)) (hkw : PK X kws (liftA G X.K n' zk)) (hkl : n' = (kwNames kws).length) :
    PE X (.Call (.Name x p) (e :: es) kws pos) (liftE G X.K fun σ M Q => zs σ M fun vs M1 => zk σ M1 fun ws M2 => ∀ y, M2 y = none → Φ f (.ref y :: (vs ++ arr ds ws)) (put M2 y (.ins k (List.replicate m none))) (fun v M3 => v = .non ∧ Q (.ref y) M3) fun x M3 => R x σ M3) := by
  subst hmc hmf hmn hmd hlay
  obtain ⟨nm', lay', fn, fd, g, dvs, c1, c2, ho, hM, hmg, hb, hr⟩ := ok.tab.mks j mk hj (by omega)
  rw [hc] at c1
  cases c1
  have ho := ho G.F0
  rw [hmk] at hb
  have room : Room (mk.f + 1 + 1) X.A := ok.room.mono hlim
  refine peI (makeAny (p := p) (pos := pos) hM ho room (ok.gl hg) hmg hb ok.tk ha hkw hk rfl hst (nice_of hn).1) fun σV H Q ⟨F, σ, M, Q0, A, rs, z, t⟩ => ?_
  refine ⟨F, σ, M, _, A, rs, z, fun ps M1 F1 H1 vs s1 a1 r1 l1 q1 => ⟨F1, σ, M1, _, a1, rs.mono s1, q1, fun qs M2 F2 H2 us s2 a2 r2 l2 q2 => ⟨⟨l1, l2.trans hkl⟩, fun y dy hy hdy hne => ?_⟩⟩⟩
  have a3 : Ab G X.K F2 M2 (upd H2 dy (.own y)) := a2.newU hdy
  have hy' : upd H2 dy (.own y) y = none := by rw [upd_ne (Ne.symm hne)]; exact hy
  have a4 : Ab G X.K F2 (put M2 y (.ins mk.c (List.replicate lay.length none))) (upd (upd H2 dy (.own y)) y (.ins (He.ga X.K x) dy [])) := by
    refine a3.newM hy' ⟨x, lay, dy, [], hc, rfl, List.nodup_nil, List.length_replicate, fun f h => absurd rfl h, fun i p f h => ?_⟩
    rw [List.getElem?_replicate] at h
    split at h <;> cases h
  have z4 := q2 y (a2.free hy).1
  refine conc_of (F0 := F) (Q0 := fun v M3 => v = .non ∧ Q0 (.ref y) M3) a4 ((rs.mono s1).mono s2) (hr F2 _ _ (.ref y :: ps) qs (.cons (.ref y) (r1.mono s2)) r2 (by rw [l2, hkl, hmk])) z4 ?_
  intro p5 M5 F5 H5 v5 s5 a5 r5 q5
  obtain ⟨rfl, q5⟩ := q5
  cases r5
  exact ⟨rfl, t _ M5 F5 H5 _ ((s1.trans s2).trans s5) a5 (.ref y) q5⟩
/-! ### changes by an operator -/
theorem get_list : PGet X fun x i H Q => ∃ p xs k v, x = .ref p ∧ i = .int k ∧ 0 ≤ k ∧ H p = some (.lst xs) ∧ xs[k.toNat]? = some v ∧ Q v H := by
  intro pins s σ H x i ov iv Q I rx ri h
  obtain ⟨p, xs, k, v, rfl, rfl, h0, hp, hv, q⟩ := h
  cases rx
  obtain ⟨t, rfl⟩ := ri
  obtain ⟨its, r, pl, hz⟩ := I.list (SqL.of hp)
  obtain ⟨w, ew, rw'⟩ := r.get hv
  have hl : k.toNat < xs.length := by
    by_cases hk : k.toNat < xs.length
    · exact hk
    · rw [List.getElem?_eq_none (by omega)] at hv; cases hv
  have hn := line63
  exact wpAny_getItem_list pl.isList h0 (by omega) (by simpa using ew) ⟨v, H, I, rw', q⟩
theorem aug_sub {i : Expr} (h : notSlice i = true) : ∀ ov iv new, augStore i ov iv new = (do holding [new, ov, iv] (setItem ov iv new); release [new, ov, iv] []; pure .next) := by
  intro ov iv new
  cases i <;> first | rfl | cases h
theorem snd_aug (op : BOp) : ∃ ti, PIp X op.op ti ∧ ∀ F M H x y p q Q0 Q, Ab G X.K F M H → RV G X.K F x p → RV G X.K F y q → zaug op p q M Q0 → TQ G X.K F Q0 Q → ti x y H Q := by
  cases op with
  | add =>
    refine ⟨_, opr_or iop_add (opr_or iop_add_str iop_ext), fun F M H x y p q Q0 Q A rx ry h t => ?_⟩
    cases rx with
    | int i =>
      cases ry with
      | int j => exact .inl ⟨i, j, rfl, rfl, t _ M F H _ (Same.refl F) A (.int _) h⟩
      | _ => exact False.elim h
    | str a =>
      cases ry with
      | str b => exact .inr <| .inl ⟨a, b, rfl, rfl, h.1, t _ M F H _ (Same.refl F) A (.str _) h.2⟩
      | _ => exact False.elim h
    | ref l =>
      obtain ⟨xs, e, h⟩ := h
      obtain ⟨_, o, ho, vs, rfl, rv⟩ := A.mu l _ e
      obtain ⟨b, ws, ys, rfl, hb, rw', hz, h⟩ := rdM_of A ry h
      refine .inr <| .inr ⟨l, b, vs, ws, rfl, rfl, ho, hb, by rw [rv.length, rw'.length]; exact hz, ?_⟩
      exact t _ _ F _ _ (Same.refl F) (A.write (m := .lst (xs ++ ys)) e ⟨_, rfl, rv.append rw'⟩) (.ref l) h
    | _ => cases ry <;> exact False.elim h
  | sub =>
    refine ⟨_, ip_sub, fun F M H x y p q Q0 Q A rx ry h t => ?_⟩
    cases rx with
    | int i =>
      cases ry with
      | int j => exact ⟨i, j, rfl, rfl, t _ M F H _ (Same.refl F) A (.int _) h⟩
      | _ => exact False.elim h
    | _ => exact False.elim h
  | _ => exact ⟨fun _ _ _ _ => False, fun _ _ _ _ _ _ _ _ _ _ _ _ h => False.elim h, fun F M H x y p q Q0 Q A rx ry h t => False.elim h⟩
theorem zs_augsub (op : BOp) {i : Expr} {tpos : Pos} (hns : notSlice i = true) (ho : PE X o (liftE G X.K za)) (hi : PE X i (liftE G X.K zb)) (he : PE X e (liftE G X.K zc)) : PS X (.AugAssign (.Subscript o i tpos) op.op e pos) (liftS G X.K fun D σ M => za σ M fun x M1 => zb σ M1 fun y M2 => (match x, y with
    | .ref p, .int j => ∃ xs z, M2 p = some (.lst xs) ∧ (0 ≤ j ∧ xs[j.toNat]? = some z) ∧ zc σ M2 fun w M4 => zaug op z w M4 fun r M5 => ∃ ys, M5 p = some (.lst ys) ∧ j.toNat < ys.length ∧ D.nx σ (put M5 p (.lst (ys.set j.toNat r)))
    | _, _ => False)) := by
  obtain ⟨ti, h1, h2⟩ := snd_aug (G := G) (X := X) op
  refine psI (ps_augS (pos := pos) ho hi get_list he h1 set_list (aug_sub hns)) fun D σV H ⟨F, σ, M, D0, A, rs, z, t⟩ => ?_
  refine ⟨F, σ, M, _, A, rs, z, fun x M1 F1 H1 vx s1 a1 r1 q1 => ⟨F1, σ, M1, _, a1, rs.mono s1, q1, fun y M2 F2 H2 vy s2 a2 r2 q2 => ?_⟩⟩
  cases r1 with
  | ref ad =>
    cases r2 with
    | int j =>
      obtain ⟨xs, z, e1, ⟨e2, e3⟩, q2⟩ := q2
      obtain ⟨_, o, ho, vs, rfl, rv⟩ := a2.mu ad _ e1
      obtain ⟨u, hu, ru⟩ := rv.get e3
      refine ⟨ad, vs, j, u, rfl, rfl, e2, ho, hu, ?_⟩
      refine ⟨F2, σ, M2, _, a2, (rs.mono s1).mono s2, q2, fun w M4 F4 H4 vw s4 a4 r4 q4 => ?_⟩
      refine h2 F4 M4 H4 u vw z w _ _ a4 (ru.mono s4) r4 q4 fun r M5 F5 H5 vr s5 a5 r5 q5 => ?_
      obtain ⟨ys, e5, hl, q5⟩ := q5
      obtain ⟨_, o', ho', vs', rfl, rv'⟩ := a5.mu ad _ e5
      refine ⟨ad, vs', j, j.toNat, rfl, rfl, ho', ?_, ?_⟩
      · have : place ys.length j = some j.toNat := by
          cases j with
          | ofNat k => show (if k < ys.length then some k else none) = _; rw [if_pos (show k < ys.length from hl)]; rfl
          | negSucc k => omega
        rw [place_ix] at this
        rw [rv'.length]; exact this
      · have ss := (((s1.trans s2).trans s4).trans s5)
        exact t.nx _ _ F5 _ _ ss (a5.write (m := .lst (ys.set j.toNat r)) e5 ⟨_, rfl, rv'.set r5 _⟩) (rs.mono ss) q5
    | _ => exact False.elim q2
  | _ => cases r2 <;> exact False.elim q2
theorem zs_augvar (ok : Ok G B Φ c X R) (op : BOp) {i : Nat} {x : Str} {tpos : Pos} (hst : storeB c i x = true) (he : PE X e (liftE G X.K za)) : PS X (.AugAssign (.Name x tpos) op.op e pos) (liftS G X.K fun D σ M => (match σ[i]? with
    | some (some v) => za σ M fun y M1 => zaug op v y M1 fun z M2 => D.nx (σ.set i (some z)) M2
    | _ => False)) := by
  obtain ⟨ti, h1, h2⟩ := snd_aug (G := G) (X := X) op
  unfold storeB at hst
  simp only [Bool.and_eq_true, decide_eq_true_eq, Bool.or_eq_true] at hst
  obtain ⟨⟨g1, g2⟩, g3⟩ := hst
  refine psI (ps_aug (pos := pos) (pos' := tpos) (i := i) (x := x) (by rw [ok.hN]; exact ok.nd) (by rw [ok.hN]; exact g1) (by rw [ok.sc]; exact loc_of g2) he h1 (by
    rcases g3 with g | g
    · exact .inl (by rw [ok.fn]; exact g)
    · exact .inr (by rw [ok.sc]; exact local_of g))) fun D σV H ⟨F, σ, M, D0, A, rs, z, t⟩ => ?_
  have z : (match σ[i]? with
    | some (some v) => za σ M fun y M1 => zaug op v y M1 fun z M2 => D0.nx (σ.set i (some z)) M2
    | _ => False) := z
  cases q : σ[i]? with
  | none => rw [q] at z; exact z.elim
  | some oo =>
    cases oo with
    | none => rw [q] at z; exact z.elim
    | some v =>
      rw [q] at z
      obtain ⟨u, hu, ru⟩ := rs.at_ i v q
      refine ⟨u, hu, F, σ, M, _, A, rs, z, fun y M1 F1 H1 vy s1 a1 r1 q1 => ?_⟩
      refine h2 F1 M1 H1 u vy v y _ _ a1 (ru.mono s1) r1 q1 fun r M2 F2 H2 vr s2 a2 r2 q2 => ?_
      exact t.nx _ _ F2 _ _ (s1.trans s2) a2 ((rs.mono (s1.trans s2)).set r2) q2
end
end Z
set_option Elab.async false
set_option linter.all false
set_option maxRecDepth 100000
set_option maxHeartbeats 8000000
namespace Z
open PySem PySem.Spec PyProof.Rows L2
abbrev sob (w : World) : Obj := { cls := .type "set", dict := none, data := .set #[] 0 (.fresh 0 0 (!w.params.followText "set-order")) }
section
variable {P : Program} {w : World} {A : Around} {E : Value → Shared → Prop} {s : Shared}
/-- set(xs) of a list of ints -/
theorem set_of_list {l : Addr} {items : Array Value} (ns : List Int) {Q : Value → Shared → Prop} (qh : A.handled = none) (ql : s.heap.IsList l items) (qi : IntsAre items.toList ns) (qb : ns.length + 1 < scanBound)
    (fin : ∀ (h' : Heap) (tk c : Nat), SetR w h' s.heap.objs.size (fun j => decide (j ∈ ns)) c → c ≤ ns.length → (∀ b o, s.heap.get? b = some o → h'.get? b = some o) → Q (.ref s.heap.objs.size) { s with heap := h', toks := tk }) :
    wpAny (model P w) A (call (.type "set") [.ref l]) Q E s := by
  have qz : items.size = ns.length := (Array.length_toList (xs := items)).symm.trans (IntsAre.length qi)
  obtain ⟨mc, mt, qmro⟩ := F.called_set.mro
  have qmade := F.called_set.made
  have qsub := F.called_set.sub
  refine wpAny_call (codeAny_of_tree ?_)
  show wpAny _ _ (PySem.callAny (.type "set") _) _ _ _
  refine wpAny_pure ⟨Code.quiet_builtin _ (by decide +kernel), codeAny_builtin F.entry_type_call ?_⟩
  rw [Around.under_plain (weight_type_call_type "set" [.ref l] []) rfl]
  have q1 := F.called_set.notType
  have q2 := F.called_set.canCreate
  have q3 := F.typeCall_set_1 (.ref l)
  repeat (any_goals (first | assumption | wp_step))
  refine codeAny_mono (code_set_led1 (.ref l) (E := E) (Q₁ := fun obj s₁ => obj = .ref s.heap.objs.size ∧ s₁ = { s with heap := s.heap.push (sob w) }) ⟨rfl, rfl⟩) fun r s₁ hr => ?_
  cases r with
  | error e => exact hr
  | ok fl =>
    cases fl with
    | ret obj =>
      obtain ⟨rfl, rfl⟩ := hr
      have gS : (s.heap.push (sob w)).get? s.heap.objs.size = some (sob w) := Heap.get?_push_size _ rfl
      have gT : Shared.TypeIs { s with heap := s.heap.push (sob w) } (.ref s.heap.objs.size) "set" := ⟨_, gS, rfl⟩
      have gl := F.called_set.init.lookup
      have gb := F.called_set.init.bind (.ref s.heap.objs.size)
      repeat (any_goals (first | assumption | wp_step))
      refine codeAny_mono (codeAny_call_builtin (R := wants (fun r s₂ => r = .none ∧ ∃ h' tk c, s₂ = { s with heap := h', toks := tk } ∧ SetR w h' s.heap.objs.size (fun j => decide (j ∈ ns)) c ∧ c ≤ ns.length ∧
          ∀ b o, s.heap.get? b = some o → h'.get? b = some o) E) F.called_set.init.plain F.entry_set_init (check_set_init_1 gT ?_)) fun r₂ s₂ hr₂ => ?_
      · obtain ⟨ol, gol, gcl, gn, gdl⟩ := ql
        obtain ⟨ocls, odict, odata, oslots⟩ := ol
        simp only at gcl gdl
        subst gcl; subst gdl
        have gol' : (s.heap.push (sob w)).get? l = some { cls := .type "list", dict := odict, data := .seq items gn, slots := oslots } := Heap.get?_push_of_some _ gol
        have gls := F.sub_list_set
        have glf := F.sub_list_frozenset
        have gne : (Value.type "list" == Value.type "dict") = false := by decide
        have gl1 : (s.heap.push (sob w)).IsList l items := ⟨_, gol', rfl, gn, rfl⟩
        unfold Builtin.«set.__init__» noKeywords Builtin.Frozenset.updateFrom
        generalize gPI : pyIter = PI
        wp_walk
        subst gPI
        refine wpAny_pyIter_list gl1 ?_
        refine wpAny_bind (wpAny_runValue ?_)
        have glS : l < s.heap.objs.size := Heap.lt_size gol
        have gh3 : A.in1.in1.in1.handled = none := by simp [qh]
        have gz : (s.heap.push (sob w)).objs.size = s.heap.objs.size + 1 := Heap.size_push ..
        have gneI : l ≠ (s.heap.push (sob w)).objs.size := by rw [gz]; exact Nat.ne_of_lt (Nat.lt_succ_of_lt glS)
        have gSf : s.heap.objs.size ∉ [(s.heap.push (sob w)).objs.size, l] := by
          rw [gz]
          intro q
          rcases List.mem_cons.mp q with q | q
          · exact absurd q (Nat.ne_of_lt (Nat.lt_succ_self _))
          · exact absurd (List.mem_singleton.mp q) (Nat.ne_of_gt glS)
        have gval : ∀ (i : Nat) (v : Value), items[i]? = some v → ∃ k t, ns[i]? = some k ∧ v = .int k t := fun i v hv => by
          have hi : i < ns.length := by rw [← qz]; exact (Array.getElem?_eq_some_iff.mp hv).1
          obtain ⟨t, e⟩ := IntsAre.int_at qi i v (by rw [Array.getElem?_toList]; exact hv)
          exact ⟨ns[i], t, List.getElem?_eq_getElem hi, by rw [e, List.getD_eq_getElem?_getD, List.getElem?_eq_getElem hi] <;> rfl⟩
        refine set_update_ints ((Walks.list gh3 _ l gneI items).toS) s.heap.objs.size gSf ns qz qb gval (items.size - 0) 0 _ (by omega) (Nat.zero_le _)
          ⟨⟨_, Heap.get?_push_size _ rfl, rfl, rfl⟩, gl1.push _⟩ ⟨0, Nat.le_refl 0, setR_new_at (Heap.get?_push_of_some _ gS)⟩ fun s' c' hm hc' hS' => ?_
        obtain ⟨h', g2, d', tk', os'⟩ := s'
        obtain rfl : g2 = s.gens := hm.gens
        obtain rfl : d' = s.drawn := hm.drawn
        obtain rfl : os' = s.os := hm.os
        rw [qz] at hc'
        refine wpAny_pure ?_
        show wpAny _ _ (ret Value.none) _ _ _
        refine wpAny_pure ⟨rfl, h', tk', c', rfl, hS', hc', fun b o e => ?_⟩
        have hb0 : b < s.heap.objs.size := Heap.lt_size e
        refine hm.heap b o (fun q => ?_) (Heap.get?_push_of_some _ (Heap.get?_push_of_some _ e))
        rcases List.mem_cons.mp q with q | q
        · exact absurd q (Nat.ne_of_lt hb0)
        · have := List.mem_singleton.mp q
          rw [gz] at this
          exact absurd this (Nat.ne_of_lt (Nat.lt_succ_of_lt hb0))
      · cases r₂ with
        | error e => exact hr₂
        | ok fl₂ =>
          cases fl₂ with
          | ret r =>
            obtain ⟨rfl, h', tk, c', rfl, hS', hc', hk'⟩ := hr₂
            repeat (any_goals (first | assumption | wp_step))
            exact fin _ _ _ hS' hc' hk'
          | _ => exact hr₂.elim
    | _ => exact hr.elim
end
end Z
set_option Elab.async false
set_option linter.all false
set_option maxRecDepth 100000
set_option maxHeartbeats 8000000
namespace Z
open PySem PySem.Spec PyProof.Rows L2
theorem ints_vals : ∀ {ns : List Int} {us : List Value}, Vals (ns.map V.int) us → IntsAre us ns
  | [], _, .nil => .nil
  | n :: ns, _, .cons ⟨k, e⟩ t => by subst e; exact .cons n k (ints_vals t)
theorem vals_ints : ∀ {ns : List Int} {us : List Value}, IntsAre us ns → Vals (ns.map V.int) us
  | [], _, .nil => .nil
  | n :: ns, _, .cons _ k t => .cons ⟨k, rfl⟩ (vals_ints t)
section
variable {X : Cx} {a : Expr} {ta : TE} {p1 p2 p3 pos : Pos}
def tSet2 (K : PySem.W.Frag) (ta : TE) (k : List Int → Hp → VK → Prop) : TE := fun σ H Q => ta σ H fun x H1 => ∃ (l : Addr) (ns : List Int), x = .ref l ∧ SqL K H1 l (ns.map V.int) ∧ ns.length < 60 ∧ k ns H1 Q
/-- the set is made, then asked -/
theorem set_then {f : Str} {id : String} {k : List Int → Hp → VK → Prop} (hc : X.calm = true) (hg : Gl X f) (hm : X.mg f = none) (hbt : bootBuiltins f = some (.builtin id)) (hn : f ≠ "__name__") (hd : (f == ("__debug__" : Str)) = false) (hg2 : Gl X "set") (hm2 : X.mg "set" = none) (ha : PE X a ta)
    (na : starEach [a] X.env = (false, eval a X.env) :: starEach [] X.env)
    (ask : ∀ (pins : List (Addr × Obj)) (s : Shared) (σ : L2.St) (H : Hp) (Q : VK) (ns : List Int) (S : Addr) (c : Nat), Inv X pins σ H s → SetR X.w s.heap S (fun j => decide (j ∈ ns)) c → c ≤ ns.length → ns.length < 60 → k ns H Q → wpAny (model X.prog X.w) X.A (call (.builtin id) [.ref S]) (EP X pins σ Q) X.xe s) :
    PE X (.Call (.Name f p1) [.Call (.Name "set" p2) [a] [] p3] [] pos) (tSet2 X.K ta k) := by
  refine ⟨fun pins s σ H Q I h => Call_ (ld_blt I hg hm hbt ?_ hn hd)⟩
  refine callWith_builtin1 (args_cons (Call_ (ld_blt I hg2 hm2 boot_set ?_)) rfl) rfl rfl
  refine callWith_type1 (args_cons (thn (ha.run pins s σ H _ I h) fun v s1 z => args_nil ?_) na) na rfl
  obtain ⟨x, H1, I1, r1, l, ns, rfl, hq, hl, q1⟩ := z
  cases r1
  obtain ⟨its, r, pl, hz⟩ := I1.list hq
  refine set_of_list ns (I1.ok.hd hc) pl.isList (by simpa using ints_vals r) (Nat.lt_of_lt_of_le (show ns.length + 1 < 62 by omega) (by decide)) fun h' tk c hS hcl hk => ?_
  refine args_nil ?_
  exact ask pins _ σ H1 Q ns _ c (I1.kept (t' := tk) fun b o e => hk b o e) hS hcl hl q1
theorem pe_sortset (hc : X.calm = true) (hg : Gl X "sorted") (hm : X.mg "sorted" = none) (hg2 : Gl X "set") (hm2 : X.mg "set" = none) (ha : PE X a ta) (na : starEach [a] X.env = (false, eval a X.env) :: starEach [] X.env) :
    PE X (.Call (.Name "sorted" p1) [.Call (.Name "set" p2) [a] [] p3] [] pos) (tSet2 X.K ta fun ns H Q => ∀ (ms : List Int) (q : Addr), ms.Pairwise (· < ·) → (∀ k, k ∈ ms ↔ k ∈ ns) → H q = none → Q (.ref q) (upd H q (.lst (ms.map V.int)))) := by
  refine set_then hc hg hm boot_sorted (by decide) (by decide) hg2 hm2 ha na fun pins s σ H Q ns S c I R hcl hl q => ?_
  refine sorted_set R (I.ok.hd hc) (by omega) fun s' p out cc ms k g o hp hgt hi hs hmm hln => ?_
  have hlen : (ms.map V.int).length ≤ sizeLine := by rw [List.length_map, hln, sizeLine_eq]; omega
  have hnew : H p = none := I.hok.fresh hp
  have J : Inv X pins σ (upd H p (.lst (ms.map V.int))) { s with heap := s'.heap, gens := s'.gens, drawn := s'.drawn, toks := s'.toks } :=
    I.call (ch := []) (Un.laid k hp hnew) (I.hok.laid k hp ⟨hlen, out.toList, cc, vals_ints hi, hgt⟩) (by rw [g]; exact I.bare) (fun _ z => nomatch z)
  have e : s' = { s with heap := s'.heap, gens := s'.gens, drawn := s'.drawn, toks := s'.toks } := by
    obtain ⟨_, _, _, _, _⟩ := s'
    obtain ⟨_, _, _, _, _⟩ := s
    cases o
    rfl
  rw [e]
  exact ⟨.ref p, _, J, rfl, q ms p hs (fun j => (hmm j).trans decide_eq_true_iff) hnew⟩
theorem pe_lenset (hc : X.calm = true) (hg : Gl X "len") (hm : X.mg "len" = none) (hg2 : Gl X "set") (hm2 : X.mg "set" = none) (ha : PE X a ta) (na : starEach [a] X.env = (false, eval a X.env) :: starEach [] X.env) :
    PE X (.Call (.Name "len" p1) [.Call (.Name "set" p2) [a] [] p3] [] pos) (tSet2 X.K ta fun ns H Q => ∀ k : Nat, (∃ ms : List Int, ms.Nodup ∧ (∀ z, z ∈ ms ↔ z ∈ ns) ∧ ms.length = k) → Q (.int k) H) := by
  refine set_then hc hg hm boot_len (by decide) (by decide) hg2 hm2 ha na fun pins s σ H Q ns S c I R hcl hl q => ?_
  obtain ⟨o, es, ep, t, ho, hex, hd, _, nd, mem, hsz, hf, hn, _⟩ := R
  have hq : Q (.int (c : Nat)) H := q c ⟨es.toList.map keyOf, nd, fun z => (mem z).symm.trans decide_eq_true_iff, by rw [List.length_map, Array.length_toList, hn]⟩
  refine call_len_set ho hex hd hf (by rw [hn]; omega) ⟨.int (c : Nat), H, I.tok _, ⟨_, by rw [hn]⟩, hq⟩
end
end Z
set_option Elab.async false
set_option linter.all false
set_option maxRecDepth 100000
set_option maxHeartbeats 4000000
namespace Z
open PySem PySem.Spec PyProof.Rows L2
section
variable {G : Cfg} {B : Tb} {Φ : Nat → ZSp} {c : CC} {X : Cx} {R : ZR} {za zb zc : Zs → Mh → ZQ → Prop} {a b d e o : Expr} {es : List Expr} {pos apos : Pos}
theorem z_lenset (ok : Ok G B Φ c X R) {p1 p2 p3 : Pos} (h1 : freeB B c "len" = true) (h2 : freeB B c "set" = true) (hs : notStar a = true) (ha : PE X a (liftE G X.K za)) :
    PE X (.Call (.Name "len" p1) [.Call (.Name "set" p2) [a] [] p3] [] pos) (liftE G X.K fun σ M Q => za σ M fun x M1 => zlenset x M1 Q) := by
  obtain ⟨g1, m1, _, _⟩ := ok.free h1
  obtain ⟨g2, m2, _, _⟩ := ok.free h2
  refine peI (pe_lenset ok.calm g1 m1 g2 m2 ha (star_of hs _ _)) fun σV H Q ⟨F, σ, M, Q0, A, rs, z, t⟩ => ⟨F, σ, M, _, A, rs, z, fun p M1 F1 H1 v s1 a1 r1 q1 => ?_⟩
  obtain ⟨ad, vs, xs, rfl, hq, rr, ns, rfl, hl, q1⟩ := rdL_of a1 r1 q1
  rw [rr.ints_of] at hq
  exact ⟨ad, ns, rfl, hq, hl, fun k hk => t _ M1 F1 H1 _ s1 a1 (.int _) (q1 k hk)⟩
theorem z_sortedset (ok : Ok G B Φ c X R) {p1 p2 p3 : Pos} (h1 : freeB B c "sorted" = true) (h2 : freeB B c "set" = true) (hs : notStar a = true) (ha : PE X a (liftE G X.K za)) :
    PE X (.Call (.Name "sorted" p1) [.Call (.Name "set" p2) [a] [] p3] [] pos) (liftE G X.K fun σ M Q => za σ M fun x M1 => zsortedset x M1 Q) := by
  obtain ⟨g1, m1, _, _⟩ := ok.free h1
  obtain ⟨g2, m2, _, _⟩ := ok.free h2
  refine peI (pe_sortset ok.calm g1 m1 g2 m2 ha (star_of hs _ _)) fun σV H Q ⟨F, σ, M, Q0, A, rs, z, t⟩ => ⟨F, σ, M, _, A, rs, z, fun p M1 F1 H1 v s1 a1 r1 q1 => ?_⟩
  obtain ⟨ad, vs, xs, rfl, hq, rr, ns, rfl, hl, q1⟩ := rdL_of a1 r1 q1
  rw [rr.ints_of] at hq
  refine ⟨ad, ns, rfl, hq, hl, fun ms q h3 h4 h5 => ?_⟩
  obtain ⟨A', s'⟩ := a1.newF (p := q) (o := .lst (ms.map V.int)) h5
  exact t _ M1 _ _ _ (s1.trans s') A' (.lst upd_same (RVs'.ints ms)) (q1 ms h3 h4)
theorem z_join {o a : Expr} {apos pos : Pos} {zo za : Zs → Mh → ZQ → Prop} {G : Cfg} {X : Cx} (hl : (apos.endLine == pos.line) = true) (hbase : plainBase o = true) (hs : notStar a = true) (ho : PE X o (liftE G X.K zo)) (ha : PE X a (liftE G X.K za)) :
    PE X (.Call (.Attribute o "join" apos) [a] [] pos) (liftE G X.K fun σ M Q => zo σ M fun x M1 => (match x with
    | .str s => za σ M1 fun y M2 => zjoin s y M2 Q
    | _ => False)) := by
  refine peI (pe_join ho ha (star_of hs [] X.env) (base_of hbase _ X.env) hl) fun σV H Q ⟨F, σ, M, Q0, A, rs, z, t⟩ => ⟨F, σ, M, _, A, rs, z, fun p M1 F1 H1 v s1 a1 r1 q1 => ?_⟩
  cases r1 with
  | str s =>
    refine ⟨⟨s, rfl⟩, F1, σ, M1, _, a1, rs.mono s1, q1, fun p2 M2 F2 H2 v2 s2 a2 r2 q2 => ?_⟩
    obtain ⟨b, vs, xs, rfl, hb, rv, ys, rfl, hz, q⟩ := rdS_of a2 r2 q2
    have e : vs = ys.map V.str := strs_of rv
    subst e
    exact ⟨s, b, ys, rfl, rfl, hb, hz, t _ M2 F2 H2 _ (s1.trans s2) a2 (.str _) q⟩
  | _ => exact False.elim q1
theorem len_app_r {a b : Str} : b.length ≤ (a ++ b).length := by
  show b.cps.size ≤ (a.cps ++ b.cps).size
  rw [Array.size_append]
  omega
end
theorem ba {a b : Bool} (h : (a && b) = true) : a = true ∧ b = true := Bool.and_eq_true_iff.mp h
theorem bn {a : Bool} (h : (!a) = true) : a = false := by cases a <;> first | rfl | cases h
theorem no {P : Prop} (h : false = true) : P := by cases h
theorem notSet_of {e : Expr} (h : notSetB e = true) (env : Env) : ∀ x, foldedSetIterable e env x = pure x := by
  intro x
  cases e <;> first | rfl | cases h
section
variable {G : Cfg} {B : Tb} {Φ : Nat → ZSp}
theorem tgs_len : ∀ (ts : TgL) (es : List Expr) (c : CC), chkTgs G B c ts es = true → ts.len = es.length
  | .nil, es, c, h => by
    cases es with
    | nil => rfl
    | cons _ _ => exact no h
  | .cons t r, es, c, h => by
    cases es with
    | nil => exact no h
    | cons e es =>
      obtain ⟨h1, h2⟩ := ba (show (chkTg G B c t e && chkTgs G B c r es) = true from h)
      show r.len + 1 = es.length + 1
      rw [tgs_len r es c h2]
theorem keys_cons {k : Str} {ks : List Str} {keys : List (Option Expr)} (h : keysB (k :: ks) keys = true) : ∃ s kk p keys', keys = some (.Constant (.str s) kk p) :: keys' ∧ k = s ∧ keysB ks keys' = true := by
  unfold keysB at h
  split at h
  · rename_i h1 h2; cases h2
  · rename_i k' ks' s kk p es h1
    cases h1
    obtain ⟨h2, h3⟩ := ba h
    exact ⟨s, kk, p, es, rfl, of_decide_eq_true h2, h3⟩
  · exact no h
theorem keys_of : ∀ (ks : List Str) (keys : List (Option Expr)), keysB ks keys = true → ks.length = keys.length ∧ keys.all (·.isSome) = true
  | [], keys, h => by
    cases keys with
    | nil => exact ⟨rfl, rfl⟩
    | cons _ _ => exact no h
  | k :: ks, keys, h => by
    obtain ⟨s, kk, p, keys', rfl, rfl, h'⟩ := keys_cons h
    obtain ⟨i1, i2⟩ := keys_of ks keys' h'
    exact ⟨congrArg Nat.succ i1, i2⟩
theorem chkA_len : ∀ (es : EL) (es' : List Expr) (c : CC), chkA G B c es es' = true → es.len = es'.length
  | .nil, es', c, h => by
    cases es' with
    | nil => rfl
    | cons _ _ => exact no h
  | .cons a r, es', c, h => by
    cases es' with
    | nil => exact no h
    | cons e es' =>
      obtain ⟨h1, h2⟩ := ba (show (notStar e && (chkE G B c a e && chkA G B c r es')) = true from h)
      obtain ⟨h2, h3⟩ := ba h2
      exact congrArg Nat.succ (chkA_len r es' c h3)
theorem kw_len : ∀ {kws : List Keyword}, kwAll kws = true → (kwNames kws).length = kws.length
  | [], _ => rfl
  | ⟨none, _, _⟩ :: _, h => no h
  | ⟨some a, _, _⟩ :: kws, h => congrArg Nat.succ (kw_len (kws := kws) h)
mutual
theorem sndE : ∀ (m : E) (c : CC) (e : Expr) (X : Cx) (R : ZR), Ok G B Φ c X R → chkE G B c m e = true → PE X e (liftE G X.K (semE Φ R m))
  | .var i, c, e, X, R, ok, h => by
    cases e with
    | Name x p =>
      obtain ⟨h1, h2⟩ := ba (show (decide (c.N[i]? = some x) && visB c.sc x && niceB x) = true from h)
      obtain ⟨h0, h1⟩ := ba h1
      exact z_var ok (of_decide_eq_true h0) h1 h2
    | _ => exact no h
  | .non, c, e, X, R, ok, h => by
    cases e with
    | Constant v k p =>
      cases v with
      | none => exact zcst pe_non fun F => .non
      | _ => exact no h
    | _ => exact no h
  | .bl b, c, e, X, R, ok, h => by
    cases e with
    | Constant v k p =>
      cases v with
      | bool b' =>
        obtain rfl : b = b' := eq_of_beq (show (b == b') = true from h)
        exact zcst pe_bl fun F => .bl b
      | _ => exact no h
    | _ => exact no h
  | .int i, c, e, X, R, ok, h => by
    cases e with
    | Constant v k p =>
      cases v with
      | int j =>
        obtain rfl : i = j := of_decide_eq_true h
        exact zcst pe_int fun F => .int i
      | _ => exact no h
    | _ => exact no h
  | .neg i, c, e, X, R, ok, h => by
    cases e with
    | UnaryOp op a p =>
      cases op with
      | USub =>
        cases a with
        | Constant v k p =>
          cases v with
          | int j =>
            obtain rfl : i = j := of_decide_eq_true h
            exact z_neg
          | _ => exact no h
        | _ => exact no h
      | _ => exact no h
    | _ => exact no h
  | .str s, c, e, X, R, ok, h => by
    cases e with
    | Constant v k p =>
      cases v with
      | str t =>
        obtain rfl : s = t := of_decide_eq_true h
        exact zcst pe_str fun F => .str s
      | _ => exact no h
    | _ => exact no h
  | .tup es, c, e, X, R, ok, h => by
    cases e with
    | Tuple es' k p =>
      obtain ⟨h1, h2⟩ := ba (show (chkA G B c es es' && decide (es.len < 1000)) = true from h)
      exact z_tup (sndA es c es' X R ok h1) (of_decide_eq_true h2)
    | _ => exact no h
  | .lst fz es, c, e, X, R, ok, h => by
    cases e with
    | List es' p =>
      obtain ⟨h1, h2⟩ := ba (show (chkA G B c es es' && decide (es.len < 1000)) = true from h)
      exact z_lst fz (sndA es c es' X R ok h1) (of_decide_eq_true h2)
    | _ => exact no h
  | .bin o a b, c, e, X, R, ok, h => by
    cases e with
    | BinOp a' op b' p =>
      obtain ⟨h1, h2⟩ := ba (show (opB o op && (chkE G B c a a' && chkE G B c b b')) = true from h)
      obtain ⟨h2, h3⟩ := ba h2
      rw [op_of h1]
      exact z_bin o (sndE a c a' X R ok h2) (sndE b c b' X R ok h3)
    | _ => exact no h
  | .cat a b, c, e, X, R, ok, h => by
    cases e with
    | BinOp a' op b' p =>
      obtain ⟨h1, h2⟩ := ba (show (opB .add op && (chkE G B c a a' && chkE G B c b b')) = true from h)
      obtain ⟨h2, h3⟩ := ba h2
      rw [op_of h1]
      exact z_cat (sndE a c a' X R ok h2) (sndE b c b' X R ok h3)
    | _ => exact no h
  | .cmp o a b, c, e, X, R, ok, h => by
    cases e with
    | Compare a' ops bs p =>
      match ops, bs, h with
      | [op], [b'], h =>
        obtain ⟨h1, h2⟩ := ba (show ((copB o op && !behindInMarks op b') && (chkE G B c a a' && chkE G B c b b')) = true from h)
        obtain ⟨h1, h4⟩ := ba h1
        obtain ⟨h2, h3⟩ := ba h2
        rw [cop_of h1] at h4 ⊢
        exact z_cmp ok.units o (sndE a c a' X R ok h2) (sndE b c b' X R ok h3) (bn h4)
    | _ => exact no h
  | .chain o o' a b d, c, e, X, R, ok, h => by
    cases e with
    | Compare a' ops bs p =>
      match ops, bs, h with
      | [op, op'], [b', d'], h =>
        obtain ⟨h1, h2⟩ := ba (show ((copB o op && copB o' op' && !lastMarks [op, op'] [b', d']) && (chkE G B c a a' && (chkE G B c b b' && chkE G B c d d'))) = true from h)
        obtain ⟨h1, h4⟩ := ba h1
        obtain ⟨h1, h1'⟩ := ba h1
        obtain ⟨h2, h3⟩ := ba h2
        obtain ⟨h3, h5⟩ := ba h3
        rw [cop_of h1, cop_of h1'] at h4 ⊢
        exact z_chain ok.units o o' (sndE a c a' X R ok h2) (sndE b c b' X R ok h3) (sndE d c d' X R ok h5) (bn h4)
    | _ => exact no h
  | .bool isAnd es, c, e, X, R, ok, h => by
    cases e with
    | BoolOp op es' p =>
      obtain ⟨h1, h2⟩ := ba (show (boolB op isAnd && chkA G B c es es') = true from h)
      cases op with
      | And =>
        obtain rfl : isAnd = true := h1
        exact sndB true es c es' X R ok h2 p
      | Or =>
        obtain rfl : isAnd = false := bn h1
        exact sndB false es c es' X R ok h2 p
    | _ => exact no h
  | .not a, c, e, X, R, ok, h => by
    cases e with
    | UnaryOp op a' p =>
      cases op with
      | Not => exact z_not (sndE a c a' X R ok h)
      | _ => exact no h
    | _ => exact no h
  | .ifx t a b, c, e, X, R, ok, h => by
    cases e with
    | IfExp t' a' b' p =>
      obtain ⟨h1, h2⟩ := ba (show (chkT G B c t t' && (chkE G B c a a' && chkE G B c b b')) = true from h)
      obtain ⟨h2, h3⟩ := ba h2
      exact z_ifx (sndT t c t' X R ok h1) (sndE a c a' X R ok h2) (sndE b c b' X R ok h3)
    | _ => exact no h
  | .isin a t, c, e, X, R, ok, h => by
    unfold chkE at h
    split at h
    · rename_i f a' n' q
      split at h
      · rename_i n q2
        obtain ⟨p1, p, rfl⟩ := call_view q
        obtain ⟨p2, rfl⟩ := name_view q2
        obtain ⟨h1, h2⟩ := ba h
        obtain ⟨h2, h3⟩ := ba h2
        obtain ⟨h3, h4⟩ := ba h3
        obtain ⟨h4, h5⟩ := ba h4
        obtain ⟨h5, h6⟩ := ba h5
        exact z_isin ok t (of_decide_eq_true h1) h2 (of_decide_eq_true h3) h4 h5 (sndE a c a' X R ok h6)
      · exact no h
    · exact no h
  | .idx a b, c, e, X, R, ok, h => by
    cases e with
    | Subscript a' b' p =>
      obtain ⟨h1, h2⟩ := ba (show (notSlice b' && (chkE G B c a a' && chkE G B c b b')) = true from h)
      obtain ⟨h2, h3⟩ := ba h2
      exact z_idx (by have := ok.units; omega) (sndE a c a' X R ok h2) (sndE b c b' X R ok h3) h1
    | _ => exact no h
  | .slice a lo hi, c, e, X, R, ok, h => by
    cases e with
    | Subscript a' b' p =>
      cases b' with
      | Slice lo' hi' st p2 =>
        cases st with
        | none =>
          obtain ⟨h1, h2⟩ := ba (show (chkE G B c a a' && (chkO G B c lo lo' && chkO G B c hi hi')) = true from h)
          obtain ⟨h2, h3⟩ := ba h2
          exact z_slice (sndE a c a' X R ok h1) (sndO lo c lo' X R ok h2) (sndO hi c hi' X R ok h3)
        | some _ => exact no h
      | _ => exact no h
    | _ => exact no h
  | .attr a k i, c, e, X, R, ok, h => by
    cases e with
    | Attribute a' f p =>
      obtain ⟨h1, h2⟩ := ba (show (fieldB G k i f && (plainBase a' && chkE G B c a a')) = true from h)
      obtain ⟨h2, h3⟩ := ba h2
      obtain ⟨nm, lay, q1, q2, _⟩ := field_of h1
      exact z_attr ok q1 q2 h2 (sndE a c a' X R ok h3)
    | _ => exact no h
  | .call f es ds, c, e, X, R, ok, h => by
    unfold chkE at h
    split at h
    · rename_i x es' q
      obtain ⟨p1, p, rfl⟩ := call_view q
      obtain ⟨h1, h2⟩ := ba h
      obtain ⟨h2, h3⟩ := ba h2
      obtain ⟨h3, h4⟩ := ba h3
      obtain ⟨h4, h5⟩ := ba h4
      obtain ⟨fn, k1, k2, k3, k4, k5⟩ := fn_of_ h1
      refine z_call ok k1 k2 k3 k4 k5 h2 h3 h4 (sndA es c es' X R ok h5) fun e0 σ M Q z => ?_
      subst e0
      cases es with
      | nil => exact z
      | cons _ _ => exact no h5
    · exact no h
  | .meth f k o es ds, c, e, X, R, ok, h => by
    unfold chkE at h
    split at h
    · rename_i o' m es' l q
      obtain ⟨apos, p, rfl, hl⟩ := meth_view q
      obtain ⟨h1, h2⟩ := ba h
      obtain ⟨h2, h3⟩ := ba h2
      obtain ⟨h3, h4⟩ := ba h3
      obtain ⟨h4, h5⟩ := ba h4
      obtain ⟨h5, h6⟩ := ba h5
      obtain ⟨h6, h7⟩ := ba h6
      obtain ⟨fn, nm, lay, k1, k2, k3, k4, k5, k6, k7⟩ := mt_of_ h1
      refine z_meth ok k1 k2 k3 k4 k5 k6 k7 (hl.trans h2) (of_decide_eq_true h3) h4 h5 (sndE o c o' X R ok h6) (sndA es c es' X R ok h7) fun e0 σ M Q z => ?_
      subst e0
      cases es with
      | nil => exact z
      | cons _ _ => exact no h7
    · exact no h
  | .bcall b es, c, e, X, R, ok, h => by
    unfold chkE at h
    split at h
    · rename_i x e0 er q
      obtain ⟨p1, p, rfl⟩ := call_view q
      obtain ⟨h1, h2⟩ := ba h
      obtain ⟨h1, h3⟩ := ba h1
      obtain ⟨h2, h4⟩ := ba h2
      obtain ⟨h4, h5⟩ := ba h4
      exact z_bcall ok b h3 (of_decide_eq_true h1) h2 h4 (sndA es c (e0 :: er) X R ok h5)
    · exact no h
  | .lenset a, c, e, X, R, ok, h => by
    unfold chkE at h
    split at h
    · rename_i x i q
      split at h
      · rename_i y a' q2
        obtain ⟨p1, p, rfl⟩ := call_view q
        obtain ⟨p2, p3, rfl⟩ := call_view q2
        obtain ⟨h1, h2⟩ := ba h
        obtain ⟨h2, h3⟩ := ba h2
        obtain ⟨h3, h4⟩ := ba h3
        obtain ⟨h4, h5⟩ := ba h4
        obtain ⟨h5, h6⟩ := ba h5
        obtain rfl := of_decide_eq_true h1
        obtain rfl := of_decide_eq_true h2
        exact z_lenset ok h3 h4 h5 (sndE a c a' X R ok h6)
      · exact no h
    · exact no h
  | .sortedset a, c, e, X, R, ok, h => by
    unfold chkE at h
    split at h
    · rename_i x i q
      split at h
      · rename_i y a' q2
        obtain ⟨p1, p, rfl⟩ := call_view q
        obtain ⟨p2, p3, rfl⟩ := call_view q2
        obtain ⟨h1, h2⟩ := ba h
        obtain ⟨h2, h3⟩ := ba h2
        obtain ⟨h3, h4⟩ := ba h3
        obtain ⟨h4, h5⟩ := ba h4
        obtain ⟨h5, h6⟩ := ba h5
        obtain rfl := of_decide_eq_true h1
        obtain rfl := of_decide_eq_true h2
        exact z_sortedset ok h3 h4 h5 (sndE a c a' X R ok h6)
      · exact no h
    · exact no h
  | .dict fz ks vs, c, e, X, R, ok, h => by
    cases e with
    | Dict keys values p =>
      obtain ⟨h1, h2⟩ := ba (show (keysB ks keys && (decide ks.Nodup && decide (0 < ks.length ∧ ks.length ≤ 15 ∧ keys.length = values.length) && chkA G B c vs values)) = true from h)
      obtain ⟨h2, h3⟩ := ba h2
      obtain ⟨h4, h5⟩ := ba h2
      obtain ⟨d1, d2, d3⟩ := of_decide_eq_true h5
      obtain ⟨k1, k2⟩ := keys_of ks keys h1
      have l1 := chkA_len vs values c h3
      exact z_dict fz (sndP vs ks c keys values X R ok p h1 (by omega) h3) (by omega) (of_decide_eq_true h4) k2 d3 (by intro e; rw [e] at k1; rw [k1] at d1; exact Nat.lt_irrefl _ d1) (by omega) (by omega)
    | _ => exact no h
  | .make j f k n ds es kes, c, e, X, R, ok, h => by
    unfold chkE at h
    split at h
    · rename_i x e0 er kws q
      obtain ⟨p1, p, rfl⟩ := make_view q
      obtain ⟨h1, h2⟩ := ba h
      obtain ⟨h2, h3⟩ := ba h2
      obtain ⟨h3, h4⟩ := ba h3
      obtain ⟨h4, h5⟩ := ba h4
      obtain ⟨h5, h6⟩ := ba h5
      obtain ⟨h6, h7⟩ := ba h6
      obtain ⟨mk, lay, m1, m2, m3, m4, m5, m6, m7, m8, m9⟩ := mk_of_ h1
      have l1 : es.len = er.length + 1 := chkA_len es (e0 :: er) c h6
      have l2 := chkA_len kes _ c h7
      have PAs := sndA es c (e0 :: er) X R ok h6
      exact z_make ok m1 m2 m3 m4 (m5.trans l1.symm) m6 m7 m8 m9 h2 h3 h4 h5 PAs (sndK kes c kws X R ok h7) (l2.trans (by rw [List.length_map]; exact (kw_len h2).symm))
    · exact no h
  | .bmeth m o es, c, e, X, R, ok, h => by
    unfold chkE at h
    split at h
    · rename_i o' n es' l q
      obtain ⟨apos, p, rfl, hl⟩ := meth_view q
      obtain ⟨h1, h2⟩ := ba h
      obtain ⟨h2, h3⟩ := ba h2
      obtain ⟨h3, h4⟩ := ba h3
      obtain ⟨h4, h5⟩ := ba h4
      obtain ⟨h5, h6⟩ := ba h5
      obtain ⟨h6, h7⟩ := ba h6
      refine z_bmeth m (of_decide_eq_true h1) (hl.trans h2) (of_decide_eq_true h3) h4 h5 (sndE o c o' X R ok h6) (sndA es c es' X R ok h7) fun e0 σ M Q z => ?_
      subst e0
      cases es with
      | nil => exact z
      | cons _ _ => exact no h7
    · exact no h
  | .join a b, c, e, X, R, ok, h => by
    unfold chkE at h
    split at h
    · rename_i o' n e' l q
      obtain ⟨apos, p, rfl, hl⟩ := meth_view q
      obtain ⟨h1, h2⟩ := ba h
      obtain ⟨h2, h3⟩ := ba h2
      obtain ⟨h3, h4⟩ := ba h3
      obtain ⟨h4, h5⟩ := ba h4
      obtain ⟨h5, h6⟩ := ba h5
      obtain rfl := of_decide_eq_true h1
      exact z_join (hl.trans h2) h3 h4 (sndE a c o' X R ok h5) (sndE b c e' X R ok h6)
    · exact no h
  | .fstr fs, c, e, X, R, ok, h => by
    cases e with
    | JoinedStr es p =>
      obtain ⟨h1, h2⟩ := ba (show (decide (2 ≤ es.length) && chkF G B c fs es) = true from h)
      have h1 := of_decide_eq_true h1
      match es, h1, h2 with
      | v1 :: v2 :: rest, _, h2 =>
        obtain ⟨ts, pj, k⟩ := sndF fs c (v1 :: v2 :: rest) X R ok h2
        exact peI (pe_joined pj) fun σV H Q ⟨F, σ, M, Q0, A, rs, z, t⟩ => k Str.empty F σ M σV H _ _ A rs z fun out M' F' H' s' a' q => t _ M' F' H' _ s' a' (.str out) q
    | _ => exact no h
  | .comp fz own t it ifs elt, c, e, X, R, ok, h => by
    cases e with
    | ListComp elt' gens scope p =>
      match gens, h with
      | [⟨tg, iter, ifs', asy⟩], h =>
        obtain ⟨h1, h2⟩ := ba (show ((decide (asy = 0) && (blkC c.N c.sc scope (ownN c own) && (own.all fun i => decide (i < c.N.length)) && notSetB iter && t.slots.all fun i => decide (i ∈ own))) &&
          (chkI G B c it iter && (chkTg G B (inBlk c scope) t tg && (chkTL G B (inBlk c scope) ifs ifs' && (decide (ifs'.length ≤ 1) && chkE G B (inBlk c scope) elt elt'))))) = true from h)
        obtain ⟨j0, j1⟩ := ba h1
        obtain ⟨j2, j3⟩ := ba j1
        obtain ⟨j4, j5⟩ := ba j2
        obtain ⟨j6, j7⟩ := ba j4
        obtain ⟨l1, l2⟩ := ba h2
        obtain ⟨l3, l4⟩ := ba l2
        obtain ⟨l5, l6⟩ := ba l4
        obtain ⟨l7, l8⟩ := ba l6
        obtain rfl : asy = 0 := of_decide_eq_true j0
        have hk : scope.kind = .function := (blkOk_by j6).kind
        refine z_comp ok fz (slots := t.slots) j6 (fun i hi => of_decide_eq_true (List.all_eq_true.mp j3 i hi)) (notSet_of j5 X.env) (sndI it c iter X R ok tg l1) (fun s H C cl fp => sndTg t _ tg _ noR (ok.blk hk s H C cl fp) l3) (fun s H C cl fp => ?_) (fun s H C cl fp => sndE elt _ elt' _ noR (ok.blk hk s H C cl fp) l8)
        exact sndC ifs _ ifs' _ noR (ok.blk hk s H C cl fp) l5 (of_decide_eq_true l7)
    | _ => exact no h
  | .frz a, c, e, X, R, ok, h => z_frz (sndE a c e X R ok h)
  | .con j v, c, e, X, R, ok, h => by
    cases e with
    | Name x p =>
      obtain ⟨h1, h2⟩ := ba (show (decide ((x, v) ∈ B.cons) && (glB c.sc x && niceB x)) = true from h)
      obtain ⟨h2, h3⟩ := ba h2
      exact z_con ok (of_decide_eq_true h1) h2 h3
    | _ => exact no h
  | .kin nn j ks a, c, e, X, R, ok, h => by
    unfold chkE at h
    split at h
    · rename_i a' ops bs p
      split at h
      · rename_i op b' 
        split at h
        · rename_i x q
          obtain ⟨p2, rfl⟩ := name_view q
          obtain ⟨h1, h2⟩ := ba h
          obtain ⟨h1, h3⟩ := ba h1
          obtain ⟨h2, h4⟩ := ba h2
          obtain ⟨h4, h5⟩ := ba h4
          obtain ⟨h5, h6⟩ := ba h5
          obtain rfl := cop_of h1
          exact z_kin ok nn h2 h4 h5 (sndE a c a' X R ok h6) (bn h3)
        · exact no h
      · exact no h
    · exact no h
  | .kidx j kvs a, c, e, X, R, ok, h => by
    unfold chkE at h
    split at h
    · rename_i o' b' p
      split at h
      · rename_i x q
        obtain ⟨p2, rfl⟩ := name_view q
        obtain ⟨h1, h2⟩ := ba h
        obtain ⟨h2, h4⟩ := ba h2
        obtain ⟨h4, h5⟩ := ba h4
        obtain ⟨h5, h6⟩ := ba h5
        exact z_kidx ok (of_decide_eq_true h1) h2 h4 h5 (sndE a c b' X R ok h6)
      · exact no h
    · exact no h
  | .slco a lo hi, c, e, X, R, ok, h => by
    cases e with
    | Subscript a' b' p =>
      cases b' with
      | Slice lo' hi' st p2 =>
        cases st with
        | none =>
          obtain ⟨h1, h2⟩ := ba (show (chkE G B c a a' && (chkO G B c lo lo' && chkO G B c hi hi')) = true from h)
          obtain ⟨h2, h3⟩ := ba h2
          exact z_slco (sndE a c a' X R ok h1) (sndO lo c lo' X R ok h2) (sndO hi c hi' X R ok h3)
        | some _ => exact no h
      | _ => exact no h
    | _ => exact no h
  | .rep a b, c, e, X, R, ok, h => by
    unfold chkE at h
    split at h
    · rename_i a' op b' p
      obtain ⟨h1, h2⟩ := ba h
      obtain ⟨h2, h3⟩ := ba h2
      obtain rfl := op_of h1
      exact z_rep (sndE a c a' X R ok h2) (sndE b c b' X R ok h3)
    · exact no h
theorem sndF : ∀ (fs : FL) (c : CC) (es : List Expr) (X : Cx) (R : ZR), Ok G B Φ c X R → chkF G B c fs es = true → ∃ ts, PJ X es ts ∧ ∀ acc F σ M σV H k0 Q, Ab G X.K F M H → RS G X.K F σV σ → semF Φ R fs acc σ M k0 → (∀ out M' F' H', Same F F' → Ab G X.K F' M' H' → k0 out M' → Q out H') → tJs ts acc σV H Q
  | .nil, c, es, X, R, ok, h => by
    cases es with
    | nil => exact ⟨[], .nil, fun acc F σ M σV H k0 Q A rs z t => t acc M F H (Same.refl F) A z⟩
    | cons _ _ => exact no h
  | .lit s r, c, es, X, R, ok, h => by
    unfold chkF at h
    split at h
    · rename_i x k p es
      obtain ⟨h1, h2⟩ := ba h
      obtain rfl := of_decide_eq_true h1
      obtain ⟨ts, pj, k⟩ := sndF r c es X R ok h2
      exact ⟨_, .cons pe_str pj, fun acc F σ M σV H k0 Q A rs z t => ⟨x, rfl, z.1, k _ F σ M σV H k0 Q A rs z.2 t⟩⟩
    · exact no h
  | .val a r, c, es, X, R, ok, h => by
    unfold chkF at h
    split at h
    · rename_i e k p es
      obtain ⟨h1, h2⟩ := ba h
      obtain ⟨h2, h3⟩ := ba h2
      obtain rfl := of_decide_eq_true h1
      obtain ⟨ts, pj, k⟩ := sndF r c es X R ok h3
      refine ⟨_, .cons (pe_fmt (sndE a c e X R ok h2)) pj, fun acc F σ M σV H k0 Q A rs z t => ⟨F, σ, M, _, A, rs, z, fun p M1 F1 H1 v s1 a1 r1 q1 => ?_⟩⟩
      cases r1 with
      | str y =>
        obtain ⟨q1, q2⟩ := (show (acc ++ y).length ≤ sizeLine ∧ semF Φ R r (acc ++ y) σ M1 k0 from q1)
        refine .inl ⟨y, rfl, Nat.le_trans ?_ q1, y, rfl, q1, k _ F1 σ M1 σV H1 k0 Q a1 (rs.mono s1) q2 fun out M' F' H' s' => t out M' F' H' (s1.trans s')⟩
        exact len_app_r
      | int i =>
        obtain ⟨q0, q1, q2⟩ := (show i.natAbs.log2 < 1920 ∧ (acc ++ toString i).length ≤ sizeLine ∧ semF Φ R r (acc ++ toString i) σ M1 k0 from q1)
        exact .inr ⟨i, rfl, q0, _, rfl, q1, k _ F1 σ M1 σV H1 k0 Q a1 (rs.mono s1) q2 fun out M' F' H' s' => t out M' F' H' (s1.trans s')⟩
      | _ => exact False.elim q1
    · exact no h
theorem sndA : ∀ (es : EL) (c : CC) (es' : List Expr) (X : Cx) (R : ZR), Ok G B Φ c X R → chkA G B c es es' = true → PA X es' (liftA G X.K es.len (semA Φ R es))
  | .nil, c, es', X, R, ok, h => by
    cases es' with
    | nil => exact za_nil
    | cons _ _ => exact no h
  | .cons a r, c, es', X, R, ok, h => by
    cases es' with
    | nil => exact no h
    | cons e es' =>
      obtain ⟨h1, h2⟩ := ba (show (notStar e && (chkE G B c a e && chkA G B c r es')) = true from h)
      obtain ⟨h2, h3⟩ := ba h2
      exact za_cons h1 (sndE a c e X R ok h2) (sndA r c es' X R ok h3)
theorem sndK : ∀ (es : EL) (c : CC) (kws : List Keyword) (X : Cx) (R : ZR), Ok G B Φ c X R → chkA G B c es (kws.map (·.value)) = true → PK X kws (liftA G X.K es.len (semA Φ R es))
  | .nil, c, kws, X, R, ok, h => by
    cases kws with
    | nil => exact zk_nil
    | cons _ _ => exact no h
  | .cons a r, c, kws, X, R, ok, h => by
    cases kws with
    | nil => exact no h
    | cons k kws =>
      obtain ⟨nm, e, kp⟩ := k
      obtain ⟨h1, h2⟩ := ba (show (notStar e && (chkE G B c a e && chkA G B c r (kws.map (·.value)))) = true from h)
      obtain ⟨h2, h3⟩ := ba h2
      exact zk_cons (sndE a c e X R ok h2) (sndK r c kws X R ok h3)
theorem sndP : ∀ (vs : EL) (ks : List Str) (c : CC) (keys : List (Option Expr)) (values : List Expr) (X : Cx) (R : ZR), Ok G B Φ c X R → ∀ pos, keysB ks keys = true → ks.length = vs.len → chkA G B c vs values = true → PPs X pos keys values (trsOf G X.K Φ R ks vs)
  | .nil, ks, c, keys, values, X, R, ok, pos, h, hl, h2 => by
    cases ks with
    | cons _ _ => cases hl
    | nil =>
      cases values with
      | cons _ _ => exact no h2
      | nil =>
        cases keys with
        | nil => exact pps_nil
        | cons _ _ => exact no h
  | .cons a r, ks, c, keys, values, X, R, ok, pos, h, hl, h2 => by
    cases ks with
    | nil => cases hl
    | cons k ks =>
      cases values with
      | nil => exact no h2
      | cons e values =>
        obtain ⟨g1, g2⟩ := ba (show (notStar e && (chkE G B c a e && chkA G B c r values)) = true from h2)
        obtain ⟨g2, g3⟩ := ba g2
        obtain ⟨s, kk, p, keys', rfl, rfl, h'⟩ := keys_cons h
        exact pps_cons pe_str (sndE a c e X R ok g2) (sndP r ks c keys' values X R ok pos h' (Nat.succ.inj hl) g3)
theorem sndO : ∀ (m : EO) (c : CC) (e : Option Expr) (X : Cx) (R : ZR), Ok G B Φ c X R → chkO G B c m e = true → PO X e (liftO G X.K (semO Φ R m))
  | .none, c, e, X, R, ok, h => by
    cases e with
    | none => exact zo_none
    | some _ => exact no h
  | .some a, c, e, X, R, ok, h => by
    cases e with
    | none => exact no h
    | some e => exact zo_some (sndE a c e X R ok h)
theorem sndB : ∀ (isAnd : Bool) (es : EL) (c : CC) (es' : List Expr) (X : Cx) (R : ZR), Ok G B Φ c X R → chkA G B c es es' = true → ∀ p, PE X (.BoolOp (match isAnd with | true => .And | false => .Or) es' p) (liftE G X.K (semB Φ R isAnd es))
  | isAnd, .nil, c, es', X, R, ok, h, p => by
    cases es' with
    | nil => exact ⟨fun pins s σV H Q I ⟨F, σ, M, Q0, A, rs, z, t⟩ => False.elim z⟩
    | cons _ _ => exact no h
  | isAnd, .cons a .nil, c, es', X, R, ok, h, p => by
    match es', h with
    | [e], h =>
      obtain ⟨h1, h2⟩ := ba (show (notStar e && (chkE G B c a e && chkA G B c .nil [])) = true from h)
      obtain ⟨h2, h3⟩ := ba h2
      exact z_one (sndE a c e X R ok h2)
    | e :: e2 :: er, h =>
      obtain ⟨h1, h2⟩ := ba (show (notStar e && (chkE G B c a e && chkA G B c .nil (e2 :: er))) = true from h)
      obtain ⟨h2, h3⟩ := ba h2
      exact no h3
  | isAnd, .cons a (.cons b r), c, es', X, R, ok, h, p => by
    match es', h with
    | [e], h =>
      obtain ⟨h1, h2⟩ := ba (show (notStar e && (chkE G B c a e && chkA G B c (.cons b r) [])) = true from h)
      obtain ⟨h2, h3⟩ := ba h2
      exact no h3
    | e :: e2 :: er, h =>
      obtain ⟨h1, h2⟩ := ba (show (notStar e && (chkE G B c a e && chkA G B c (.cons b r) (e2 :: er))) = true from h)
      obtain ⟨h2, h3⟩ := ba h2
      cases isAnd with
      | true => exact z_and (sndE a c e X R ok h2) (sndB true (.cons b r) c (e2 :: er) X R ok h3 p)
      | false => exact z_or (sndE a c e X R ok h2) (sndB false (.cons b r) c (e2 :: er) X R ok h3 p)
theorem sndT : ∀ (m : T) (c : CC) (e : Expr) (X : Cx) (R : ZR), Ok G B Φ c X R → chkT G B c m e = true → PT X e (liftT G X.K (semT Φ R m))
  | .val a, c, e, X, R, ok, h => by
    obtain ⟨h1, h2⟩ := ba (show (plainTest e && chkE G B c a e) = true from h)
    exact zt_val h1 (sndE a c e X R ok h2)
  | .cmp o a b, c, e, X, R, ok, h => by
    cases e with
    | Compare a' ops bs p =>
      match ops, bs, h with
      | [op], [b'], h =>
        obtain ⟨h1, h2⟩ := ba (show ((copB o op && !behindInMarks op b') && (chkE G B c a a' && chkE G B c b b')) = true from h)
        obtain ⟨h1, h4⟩ := ba h1
        obtain ⟨h2, h3⟩ := ba h2
        rw [cop_of h1] at h4 ⊢
        exact zt_cmp ok.units o (sndE a c a' X R ok h2) (sndE b c b' X R ok h3) (bn h4)
    | _ => exact no h
  | .chain o o' a b d, c, e, X, R, ok, h => by
    cases e with
    | Compare a' ops bs p =>
      match ops, bs, h with
      | [op, op'], [b', d'], h =>
        obtain ⟨h1, h2⟩ := ba (show ((copB o op && copB o' op' && !lastMarks [op, op'] [b', d']) && (chkE G B c a a' && (chkE G B c b b' && chkE G B c d d'))) = true from h)
        obtain ⟨h1, h4⟩ := ba h1
        obtain ⟨h1, h1'⟩ := ba h1
        obtain ⟨h2, h3⟩ := ba h2
        obtain ⟨h3, h5⟩ := ba h3
        rw [cop_of h1, cop_of h1'] at h4 ⊢
        exact zt_chain ok.units o o' (sndE a c a' X R ok h2) (sndE b c b' X R ok h3) (sndE d c d' X R ok h5) (bn h4)
    | _ => exact no h
  | .bool isAnd ts, c, e, X, R, ok, h => by
    cases e with
    | BoolOp op es' p =>
      obtain ⟨h1, h2⟩ := ba (show (boolB op isAnd && chkTL G B c ts es') = true from h)
      cases op with
      | And =>
        obtain rfl : isAnd = true := h1
        exact PW.pt (sndBT true ts c es' X R ok h2 p)
      | Or =>
        obtain rfl : isAnd = false := bn h1
        exact PW.pt (sndBT false ts c es' X R ok h2 p)
    | _ => exact no h
  | .not t, c, e, X, R, ok, h => by
    cases e with
    | UnaryOp op a' p =>
      cases op with
      | Not => exact zt_not (sndT t c a' X R ok h)
      | _ => exact no h
    | _ => exact no h
theorem sndBT : ∀ (isAnd : Bool) (ts : TL) (c : CC) (es' : List Expr) (X : Cx) (R : ZR), Ok G B Φ c X R → chkTL G B c ts es' = true → ∀ p, PW X (.BoolOp (match isAnd with | true => .And | false => .Or) es' p) (liftT G X.K (semBT Φ R isAnd ts))
  | isAnd, .nil, c, es', X, R, ok, h, p => ⟨fun wh pins s σV H Q I ⟨F, σ, M, Q0, A, rs, z, t⟩ => False.elim z⟩
  | isAnd, .cons a .nil, c, es', X, R, ok, h, p => by
    match es', h with
    | [e], h =>
      obtain ⟨h1, h2⟩ := ba (show (chkT G B c a e && chkTL G B c .nil []) = true from h)
      cases isAnd with
      | true => exact zw_and1 (sndT a c e X R ok h1)
      | false => exact zw_or1 (sndT a c e X R ok h1)
    | e :: e2 :: er, h =>
      obtain ⟨h1, h2⟩ := ba (show (chkT G B c a e && chkTL G B c .nil (e2 :: er)) = true from h)
      exact no h2
  | isAnd, .cons a (.cons b r), c, es', X, R, ok, h, p => by
    match es', h with
    | [e], h =>
      obtain ⟨h1, h2⟩ := ba (show (chkT G B c a e && chkTL G B c (.cons b r) []) = true from h)
      exact no h2
    | e :: e2 :: er, h =>
      obtain ⟨h1, h2⟩ := ba (show (chkT G B c a e && chkTL G B c (.cons b r) (e2 :: er)) = true from h)
      cases isAnd with
      | true => exact zw_and (sndT a c e X R ok h1) (sndBT true (.cons b r) c (e2 :: er) X R ok h2 p)
      | false => exact zw_or (sndT a c e X R ok h1) (sndBT false (.cons b r) c (e2 :: er) X R ok h2 p)
theorem sndC : ∀ (ts : TL) (c : CC) (es' : List Expr) (X : Cx) (R : ZR), Ok G B Φ c X R → chkTL G B c ts es' = true → es'.length ≤ 1 → PTs X es' (liftT G X.K (semC Φ R ts))
  | .nil, c, es', X, R, ok, h, hl => by
    cases es' with
    | nil => exact ⟨fun pins s σV H Q I ⟨F, σ, M, Q0, A, rs, z, t⟩ => pts_nil.run pins s σV H Q I (t true M F H (Same.refl F) A z)⟩
    | cons _ _ => exact no h
  | .cons a r, c, es', X, R, ok, h, hl => by
    cases es' with
    | nil => exact no h
    | cons e es' =>
      obtain ⟨h1, h2⟩ := ba (show (chkT G B c a e && chkTL G B c r es') = true from h)
      cases es' with
      | nil => exact pts_one (sndT a c e X R ok h1)
      | cons _ _ => exact absurd hl (by simp)
theorem sndI : ∀ (m : It) (c : CC) (e : Expr) (X : Cx) (R : ZR), Ok G B Φ c X R → ∀ tg, chkI G B c m e = true → PI X tg e (liftI G X.K (semI Φ R m))
  | .seq a, c, e, X, R, ok, tg, h => zi_seq (sndE a c e X R ok h)
  | .range1 a, c, e, X, R, ok, tg, h => by
    unfold chkI at h
    split at h
    · rename_i x a' q
      obtain ⟨p1, p, rfl⟩ := call_view q
      obtain ⟨h1, h2⟩ := ba h
      obtain ⟨h2, h3⟩ := ba h2
      obtain ⟨h3, h4⟩ := ba h3
      exact zi_range1 ok (of_decide_eq_true h1) h2 h3 (sndE a c a' X R ok h4)
    · exact no h
  | .range2 a b, c, e, X, R, ok, tg, h => by
    unfold chkI at h
    split at h
    · rename_i x a' b' q
      obtain ⟨p1, p, rfl⟩ := call_view q
      obtain ⟨h1, h2⟩ := ba h
      obtain ⟨h2, h3⟩ := ba h2
      obtain ⟨h3, h4⟩ := ba h3
      obtain ⟨h4, h5⟩ := ba h4
      obtain ⟨h5, h6⟩ := ba h5
      exact zi_range2 ok (of_decide_eq_true h1) h2 h3 h4 (sndE a c a' X R ok h5) (sndE b c b' X R ok h6)
    · exact no h
theorem sndTg : ∀ (m : Tg) (c : CC) (e : Expr) (X : Cx) (R : ZR), Ok G B Φ c X R → chkTg G B c m e = true → PG X e (liftTg G X.K m.slots (semTg Φ R m))
  | .name i, c, e, X, R, ok, h => by
    cases e with
    | Name x p => exact zg_name ok h
    | _ => exact no h
  | .tup ts, c, e, X, R, ok, h => by
    cases e with
    | Tuple es k p =>
      obtain ⟨h1, h2⟩ := ba (show (es.all notStar && chkTgs G B c ts es) = true from h)
      exact zg_tup ok.calm h1 (tgs_len ts es c h2) (sndTgs ts c es X R ok h1 h2)
    | _ => exact no h
  | .sub o i, c, e, X, R, ok, h => by
    cases e with
    | Subscript o' i' p =>
      obtain ⟨h1, h2⟩ := ba (show (notSlice i' && (chkE G B c o o' && chkE G B c i i')) = true from h)
      obtain ⟨h2, h3⟩ := ba h2
      exact zg_sub (by have := ok.units; omega) h1 (sndE o c o' X R ok h2) (sndE i c i' X R ok h3)
    | _ => exact no h
  | .fld o k i, c, e, X, R, ok, h => by
    cases e with
    | Attribute o' f p =>
      obtain ⟨h1, h2⟩ := ba (show (fieldB G k i f && chkE G B c o o') = true from h)
      obtain ⟨nm, lay, q1, q2, q3⟩ := field_of h1
      exact zg_fld ok q1 q2 q3 (sndE o c o' X R ok h2)
    | _ => exact no h
theorem sndTgs : ∀ (m : TgL) (c : CC) (es : List Expr) (X : Cx) (R : ZR), Ok G B Φ c X R → es.all notStar = true → chkTgs G B c m es = true → PGs X es (liftTgs G X.K m.slots (semTgs Φ R m))
  | .nil, c, es, X, R, ok, hs, h => by
    cases es with
    | nil => exact zgs_nil
    | cons _ _ => exact no h
  | .cons t r, c, es, X, R, ok, hs, h => by
    cases es with
    | nil => exact no h
    | cons e es =>
      obtain ⟨h1, h2⟩ := ba (show (chkTg G B c t e && chkTgs G B c r es) = true from h)
      obtain ⟨s1, s2⟩ := ba (show (notStar e && es.all notStar) = true from hs)
      exact zgs_cons s1 (sndTg t c e X R ok h1) (sndTgs r c es X R ok s2 h2)
end
end
end Z
set_option Elab.async false
set_option linter.all false
set_option maxRecDepth 100000
set_option maxHeartbeats 4000000
namespace Z
open PySem PySem.Spec PyProof.Rows L2
theorem swap_lc {elt : Expr} {gs : List Comprehension} {scope : Scope} {pos py : Pos} {y : Str} {l : Nat} {env : Env} (hk : env.scope.kind = .function) : swapsWith (.ListComp elt gs scope pos) (some (.Name y py)) l env = pure (swapB env.scope y py scope pos) := by
  have hb : env.blockKind = .function := by unfold Env.blockKind; rw [hk]; rfl
  unfold swapsWith swapB isLocal
  simp only [hb, Expr.pos]
  have e : (env.kindOf y == some NameKind.local) = (match env.scope.names.lookup y with | some .local => true | _ => false) := by
    show (env.scope.names.lookup y == some NameKind.local) = _
    cases env.scope.names.lookup y with
    | none => rfl
    | some k => cases k <;> rfl
  simp only [e]
  rfl
section
variable {G : Cfg} {B : Tb} {Φ : Nat → ZSp}
theorem Ok.plain {c : CC} {X : Cx} {R : ZR} (ok : Ok G B Φ c X R) {t v : Expr} (h : plainStore c.sc t v = true) (l : Nat) : swapsWith v (some t) l X.env = pure false := by
  unfold plainStore at h
  split at h
  · split at h
    · rw [swap_lc (by rw [ok.sc]; exact ok.kd), ok.sc, bn h]
    · rename_i hn
      cases t with
      | Name y py => exact absurd rfl (hn y py)
      | _ => rfl
  · exact swap_of h _ _ _
mutual
theorem sndS : ∀ (m : S) (c : CC) (s : Stmt) (X : Cx) (R : ZR), Ok G B Φ c X R → chkS G B c m s = true → PS X s (liftS G X.K (semS Φ R m))
  | .asg t a, c, s, X, R, ok, h => by
    unfold chkS at h
    split at h
    · rename_i tg v pos
      obtain ⟨h1, h2⟩ := ba h
      obtain ⟨h1, h3⟩ := ba h1
      obtain ⟨h2, h4⟩ := ba h2
      obtain ⟨h4, h5⟩ := ba h4
      exact zs_asg h3 h1 (ok.plain h2 _) (sndE a c v X R ok h5) (sndTg t c tg X R ok h4)
    · exact no h
  | .setc j fz own t it ifs elt, c, s, X, R, ok, h => by
    unfold chkS at h
    split at h
    · rename_i tg0 v spos
      obtain ⟨h1, h2⟩ := ba h
      obtain ⟨h3, h4⟩ := ba h2
      have hnv := of_decide_eq_true h3
      unfold ownStore at h1
      split at h1
      · rename_i elt' gens scope pos
        split at h1
        · rename_i y py
          have hy : c.N[j]? = some y := hnv.symm
          obtain ⟨g1, g2⟩ := ba h1
          have hsw : ∀ l, swapsWith (.ListComp elt' gens scope pos) (some (.Name y py)) l X.env = pure true := fun l => by rw [swap_lc (by rw [ok.sc]; exact ok.kd), ok.sc, g2]
          match gens, h4, hsw with
          | [⟨tg, src, ifs', asy⟩], h4, hsw =>
            obtain ⟨i1, i2⟩ := ba (show ((decide (asy = 0) && (blkC c.N c.sc scope (ownN c own) && (own.all fun i => decide (i < c.N.length)) && notSetB src && t.slots.all fun i => decide (i ∈ own))) &&
                (chkI G B c it src && (chkTg G B (inBlk c scope) t tg && (chkTL G B (inBlk c scope) ifs ifs' && (decide (ifs'.length ≤ 1) && chkE G B (inBlk c scope) elt elt'))))) = true from h4)
            obtain ⟨j0, j1⟩ := ba i1
            obtain ⟨j2, j3⟩ := ba j1
            obtain ⟨j4, j5⟩ := ba j2
            obtain ⟨j6, j7⟩ := ba j4
            obtain ⟨l1, l2⟩ := ba i2
            obtain ⟨l3, l4⟩ := ba l2
            obtain ⟨l5, l6⟩ := ba l4
            obtain ⟨l7, l8⟩ := ba l6
            obtain rfl : asy = 0 := of_decide_eq_true j0
            have hk : scope.kind = .function := (blkOk_by j6).kind
            exact zs_setcomp ok fz (slots := t.slots) hy g1 (hsw _) j6 (fun i hi => of_decide_eq_true (List.all_eq_true.mp j3 i hi)) (notSet_of j5 X.env) (sndI it c src X R ok tg l1) (fun s H C cl fp => sndTg t _ tg _ noR (ok.blk hk s H C cl fp) l3) (fun s H C cl fp => sndC ifs _ ifs' _ noR (ok.blk hk s H C cl fp) l5 (of_decide_eq_true l7)) (fun s H C cl fp => sndE elt _ elt' _ noR (ok.blk hk s H C cl fp) l8)
        · exact no h1
      · exact no h1
    · exact no h
  | .par i j a b, c, s, X, R, ok, h => by
    unfold chkS at h
    split at h <;> exact no h
  | .fld o k i a, c, s, X, R, ok, h => by
    unfold chkS at h
    split at h
    · rename_i o' f p v pos
      obtain ⟨h1, h2⟩ := ba h
      obtain ⟨h2, h3⟩ := ba h2
      obtain ⟨h3, h4⟩ := ba h3
      obtain ⟨nm, lay, q1, q2, q3⟩ := field_of h1
      exact zs_fld ok q1 q2 q3 h2 (sndE o c o' X R ok h3) (sndE a c v X R ok h4)
    · exact no h
  | .augsub o i op a, c, s, X, R, ok, h => by
    unfold chkS at h
    split at h
    · rename_i o' i' tp op' v p
      obtain ⟨h1, h2⟩ := ba h
      obtain ⟨h1, h3⟩ := ba h1
      obtain ⟨h2, h4⟩ := ba h2
      obtain ⟨h4, h5⟩ := ba h4
      rw [op_of h1]
      exact zs_augsub op h3 (sndE o c o' X R ok h2) (sndE i c i' X R ok h4) (sndE a c v X R ok h5)
    · exact no h
  | .augvar i op a, c, s, X, R, ok, h => by
    unfold chkS at h
    split at h
    · rename_i x tp op' v p
      obtain ⟨h1, h2⟩ := ba h
      obtain ⟨h1, h3⟩ := ba h1
      rw [op_of h1]
      exact zs_augvar ok op h3 (sndE a c v X R ok h2)
    · exact no h
  | .expr a, c, s, X, R, ok, h => by
    unfold chkS at h
    split at h
    · rename_i v p
      obtain ⟨h1, h2⟩ := ba h
      exact zs_expr (sndE a c v X R ok h2) h1
    · exact no h
  | .ret a, c, s, X, R, ok, h => by
    unfold chkS at h
    split at h
    · rename_i v p
      exact zs_ret (sndE a c v X R ok h)
    · exact no h
  | .retN, c, s, X, R, ok, h => by
    unfold chkS at h
    split at h
    · exact zs_retN
    · exact no h
  | .ife t a b, c, s, X, R, ok, h => by
    unfold chkS at h
    split at h
    · rename_i t' a' b' p
      obtain ⟨h1, h2⟩ := ba h
      obtain ⟨h2, h3⟩ := ba h2
      exact zs_if (sndT t c t' X R ok h1) (sndSs a c a' X R ok h2) (sndSs b c b' X R ok h3)
    · exact no h
  | .for_ t it b, c, s, X, R, ok, h => by
    unfold chkS at h
    split at h
    · rename_i tg iter body p
      obtain ⟨h1, h2⟩ := ba h
      obtain ⟨h2, h3⟩ := ba h2
      obtain ⟨h3, h4⟩ := ba h3
      exact zs_for ok (notSet_of h1 X.env) (sndI it c iter X R ok tg h2) (sndTg t c tg X R ok h3) (sndSs b c body X R ok h4)
    · exact no h
  | .while_ t b, c, s, X, R, ok, h => by
    unfold chkS at h
    split at h
    · rename_i t' body p
      obtain ⟨h1, h2⟩ := ba h
      exact zs_while ok (sndT t c t' X R ok h1) (sndSs b c body X R ok h2)
    · exact no h
  | .never, c, s, X, R, ok, h => zs_never
  | .pass, c, s, X, R, ok, h => by
    unfold chkS at h
    split at h
    · exact zs_pass
    · exact no h
  | .brk, c, s, X, R, ok, h => by
    unfold chkS at h
    split at h
    · exact zs_brk
    · exact no h
  | .cont, c, s, X, R, ok, h => by
    unfold chkS at h
    split at h
    · exact zs_cont
    · exact no h
theorem sndSs : ∀ (m : SL) (c : CC) (ss : List Stmt) (X : Cx) (R : ZR), Ok G B Φ c X R → chkSs G B c m ss = true → PSs X ss (liftS G X.K (semSs Φ R m))
  | .nil, c, ss, X, R, ok, h => by
    cases ss with
    | nil => exact zss_nil
    | cons _ _ => exact no h
  | .cons s r, c, ss, X, R, ok, h => by
    cases ss with
    | nil => exact no h
    | cons st ss =>
      obtain ⟨h1, h2⟩ := ba (show (chkS G B c s st && chkSs G B c r ss) = true from h)
      exact zss_cons (zs := semS Φ R s) (zs' := semSs Φ R r) (sndS s c st X R ok h1) (sndSs r c ss X R ok h2)
  | .frz i r, c, ss, X, R, ok, h => zss_frz (zs := semSs Φ R r) (sndSs r c ss X R ok h)
end
end
/-! ### a def -/
def startZ (n : Nat) (ps : List PV) : Zs := ps.map some ++ List.replicate (n - ps.length) none
/-- what is told back may say less of the heap -/
@[irreducible] def Qw (Q : ZQ) (v : PV) (M : Mh) : Prop := ∃ M', Weak M' M ∧ Q v M'
theorem Qw.out {Q : ZQ} {v : PV} {M : Mh} (h : Qw Q v M) : ∃ M', Weak M' M ∧ Q v M' := by unfold Qw at h; exact h
theorem Qw.by {Q : ZQ} {v : PV} {M M' : Mh} (h : Weak M' M) (q : Q v M') : Qw Q v M := by unfold Qw; exact ⟨M', h, q⟩
theorem Qw.here {Q : ZQ} {v : PV} {M : Mh} (q : Q v M) : Qw Q v M := .by (Weak.refl M) q
abbrev RR (E : ZX) : ZR := ⟨fun x _ M' => ∃ M'', Weak M'' M' ∧ E x M'', none⟩
/-- what a def's body must do -/
def inl (Φ : Nat → ZSp) (n k : Nat) (m : SL) : ZSp := fun vs M Q E => vs.length = k ∧ semSs Φ (RR E) m { nx := fun _ M' => Qw Q .non M', rt := Qw Q } (startZ n vs) M
theorem start_rs {G : Cfg} {K : PySem.W.Frag} {F : Hp} {N : List Str} {vs : List V} {ps : List PV} (r : RVs G K F vs ps) : RS G K F (L2.start N vs) (startZ N.length ps) := by
  unfold L2.start startZ
  rw [r.length]
  refine ⟨by rw [List.length_append, List.length_append, List.length_map, List.length_map, r.length]; simp, fun i p h => ?_⟩
  by_cases hi : i < ps.length
  · rw [List.getElem?_append_left (by rw [List.length_map]; exact hi), List.getElem?_map] at h
    cases q : ps[i]? with
    | none => rw [q] at h; cases h
    | some p' =>
      rw [q] at h
      cases h
      obtain ⟨v, e, rv⟩ := r.get q
      refine ⟨v, ?_, rv⟩
      rw [List.getElem?_append_left (by rw [List.length_map, r.length]; exact hi), List.getElem?_map, e]
      rfl
  · rw [List.getElem?_append_right (by rw [List.length_map]; omega), List.getElem?_replicate] at h
    split at h <;> cases h
theorem fnZ {G : Cfg} {B : Tb} {Φ : Nat → ZSp} {P : Program} {w : World} {K : PySem.W.Frag} {mg : Str → Option Value} {base : Heap} {i : Nat} {x qual : Str} {params : Arguments} {body : List Stmt} {scope : Scope} {dvs : List V} {kws : List (Str × V)} {f : Addr} {fd : FuncData} {N ps : List Str} {m : SL} {sp0 : ZSp}
    (F : FunD K x qual params body scope dvs kws f fd) (S : FnScope N ps scope) (tab : ∀ F0, Tab (G.at F0) B Φ i P w K mg base) (h : ∀ F0, chkSs (G.at F0) B ⟨N, scope, none, i⟩ m body = true)
    (sp : ∀ (vs : List PV) (M : Mh) (Q : ZQ) (E : ZX), sp0 vs M Q E → vs.length = ps.length ∧ Reach M fun M1 => inl Φ N.length ps.length m vs M1 Q E) :
    ∀ F0, FnOk P w K mg base (L2.CX P w) (i + 1) f fd ps (conc (G.at F0) K sp0) := fun F0 => by
  refine F.ok S (fun vs H Q E hc => ?_) fun cdv A outer s H vs Q E room hc => ?_
  · obtain ⟨F1, M, pv, Q0, X0, ab, r, hp, _⟩ := hc
    rw [r.length]
    exact (sp pv M Q0 X0 hp).1
  · obtain ⟨F1, M0, pv, Q0, X0, ab0, r, hp, tq, tx⟩ := hc
    obtain ⟨M, ab, _, z⟩ := (sp pv M0 Q0 X0 hp).2.go ab0
    have ok : Ok (G.at F1) B Φ ⟨N, scope, none, i⟩ (cxOf (L2.CX P w) P w K mg base N qual scope f cdv A outer s H E) (RR X0) := by
      refine ⟨rfl, S.nd, rfl, S.kind, fun _ => rfl, rfl, ?_, passes_of rfl, tab F1, room⟩
      refine Takes.imp (takes_of (E := E) rfl rfl rfl rfl) fun cls d σ H' hw => ?_
      obtain ⟨F2, σ2, M2, y, a2, _, xr, M3, ms, hx⟩ := hw
      exact tx y M3 F2 H' cls d a2.bs ((a2.weak ms).reat (ab.bs.trans a2.bs)) xr hx
    refine ⟨_, sndSs m _ body _ _ ok (h F1), F1, _, M, _, ab.reat (Same.refl F1), start_rs r, z, ⟨fun σ M' F' H' σV s' a' _ q => ?_, fun p M' F' H' v s' a' rv q => ?_, fun σ M' F' H' σV s' a' _ q => False.elim q, fun σ M' F' H' σV s' a' _ q => False.elim q⟩⟩
    · obtain ⟨M3, ms, q⟩ := q.out
      exact tq _ M3 F' H' _ s' ((a'.weak ms).reat (ab.bs.trans s')) .non q
    · obtain ⟨M3, ms, q⟩ := q.out
      exact tq _ M3 F' H' _ s' ((a'.weak ms).reat (ab.bs.trans s')) rv q
end Z
set_option Elab.async false
set_option linter.all false
set_option maxRecDepth 100000
set_option maxHeartbeats 4000000
namespace Z
open PySem PySem.Spec PyProof.Rows L2
/-! ### the tables out of the head's facts -/
def bot : ZSp := fun _ _ _ _ => False
def PL (l : List ZSp) : Nat → ZSp := fun i => match l[i]? with
  | some s => s
  | none => bot
theorem PL_lt {l : List ZSp} {s : ZSp} {i : Nat} (h : i < l.length) : PL (l ++ [s]) i = PL l i := by
  unfold PL
  rw [List.getElem?_append_left h]
theorem PL_at {l : List ZSp} {s : ZSp} : PL (l ++ [s]) l.length = s := by
  unfold PL
  rw [List.getElem?_append_right (Nat.le_refl _), Nat.sub_self]
  rfl
def isFree (x : Str) : He.Fa → Bool
  | .free y => decide (x = y)
  | _ => false
def isGlo (x : Str) : He.Fa → Bool
  | .glo y => decide (x = y)
  | _ => false
def isCls (x : Str) : He.Fa → Bool
  | .cls y => decide (x = y)
  | _ => false
def isMkr (x : Str) : He.Fa → Bool
  | .mkr y => decide (x = y)
  | _ => false
def isNoat (x f : Str) : He.Fa → Bool
  | .noat y g => decide (x = y) && decide (f = g)
  | _ => false
def isMeth (x f : Str) : He.Fa → Bool
  | .meth y g => decide (x = y) && decide (f = g)
  | _ => false
def headB (G : Cfg) (B : Tb) (fa : List He.Fa) : Bool := (B.free.all fun x => fa.any (isFree x)) && G.cls.all fun q => fa.any (isCls q.1) && (decide q.2.Nodup && q.2.all fun f => fa.any (isNoat q.1 f))
section
variable {fa : List He.Fa} {dl : List He.DefD} {K : PySem.W.Frag} {h : Heap} {mg : Str → Option Value} {G : Cfg} {B : Tb} {P : Program} {w : World} {base : Heap}
theorem says (c : He.SaysD fa dl K) {f : He.Fa} (h : f ∈ fa) : f.ok K = true := by
  obtain ⟨i, hi, e⟩ := List.getElem_of_mem h
  exact c.fact i (f := f) (by rw [List.getElem?_eq_getElem hi, e])
theorem any_free {x : Str} (h : fa.any (isFree x) = true) : He.Fa.free x ∈ fa := by
  obtain ⟨f, hf, e⟩ := List.any_eq_true.mp h
  cases f with
  | free y => cases of_decide_eq_true (show decide (x = y) = true from e); exact hf
  | _ => cases e
theorem any_glo {x : Str} (h : fa.any (isGlo x) = true) : He.Fa.glo x ∈ fa := by
  obtain ⟨f, hf, e⟩ := List.any_eq_true.mp h
  cases f with
  | glo y => cases of_decide_eq_true (show decide (x = y) = true from e); exact hf
  | _ => cases e
theorem any_cls {x : Str} (h : fa.any (isCls x) = true) : He.Fa.cls x ∈ fa := by
  obtain ⟨f, hf, e⟩ := List.any_eq_true.mp h
  cases f with
  | cls y => cases of_decide_eq_true (show decide (x = y) = true from e); exact hf
  | _ => cases e
theorem any_mkr {x : Str} (h : fa.any (isMkr x) = true) : He.Fa.mkr x ∈ fa := by
  obtain ⟨f, hf, e⟩ := List.any_eq_true.mp h
  cases f with
  | mkr y => cases of_decide_eq_true (show decide (x = y) = true from e); exact hf
  | _ => cases e
theorem any_noat {x g : Str} (h : fa.any (isNoat x g) = true) : He.Fa.noat x g ∈ fa := by
  obtain ⟨f, hf, e⟩ := List.any_eq_true.mp h
  cases f with
  | noat y g' =>
    obtain ⟨e1, e2⟩ := ba (show (decide (x = y) && decide (g = g')) = true from e)
    cases of_decide_eq_true e1
    cases of_decide_eq_true e2
    exact hf
  | _ => cases e
theorem any_meth {x g : Str} (h : fa.any (isMeth x g) = true) : He.Fa.meth x g ∈ fa := by
  obtain ⟨f, hf, e⟩ := List.any_eq_true.mp h
  cases f with
  | meth y g' =>
    obtain ⟨e1, e2⟩ := ba (show (decide (x = y) && decide (g = g')) = true from e)
    cases of_decide_eq_true e1
    cases of_decide_eq_true e2
    exact hf
  | _ => cases e
def DV.dv : DV → He.Dv
  | .non => .non | .bl b => .bl b | .int i => .int i | .str s => .str s
theorem DV.rv {d : DV} {F : Hp} : RV G K F (d.dv.v K) d.pv := by
  cases d with
  | non => exact .non
  | bl b => exact .bl b
  | int i => exact .int i
  | str s => exact .str s
def conZ (K : PySem.W.Frag) (x : Str) : CV → Bool
  | .at d => (match PySem.W.nsIn K mainGlobals x with
    | some (some u) => He.relB (d.dv.v K) u
    | _ => false)
  | .tup ds => (match PySem.W.nsIn K mainGlobals x with
    | some (some (.ref a)) => (match K.lookup a with
      | some ⟨.type c, _, .seq its _, _⟩ => decide (c = "tuple") && (decide (its.size ≤ 10000) && He.relAll (ds.map fun d => d.dv.v K) its.toList)
      | _ => false)
    | _ => false)
theorem rvs_dv {F : Hp} : ∀ (ds : List DV), RVs G K F (ds.map fun d => d.dv.v K) (ds.map DV.pv)
  | [] => .nil
  | d :: ds => .cons DV.rv (rvs_dv ds)
theorem conZ_ok (X : K.In h) (Gn : h.Ns mainGlobals mg) {x : Str} {v : CV} (c : conZ K x v = true) : ∃ u wv, mg x = some u ∧ RelV wv u ∧ ∀ F, RV G K F wv v.pv := by
  cases v with
  | «at» d =>
    replace c : (match PySem.W.nsIn K mainGlobals x with
    | some (some u) => He.relB (d.dv.v K) u
    | _ => false) = true := c
    split at c
    · rename_i u q
      exact ⟨u, _, PySem.W.mg_of X Gn q, He.relB_ok c, fun F => DV.rv⟩
    · cases c
  | tup ds =>
    replace c : (match PySem.W.nsIn K mainGlobals x with
    | some (some (.ref a)) => (match K.lookup a with
      | some ⟨.type c, _, .seq its _, _⟩ => decide (c = "tuple") && (decide (its.size ≤ 10000) && He.relAll (ds.map fun d => d.dv.v K) its.toList)
      | _ => false)
    | _ => false) = true := c
    split at c
    · rename_i a q
      split at c
      · rename_i cc dd its n sl q2
        obtain ⟨c1, c2⟩ := ba c
        obtain ⟨c2, c3⟩ := ba c2
        refine ⟨_, .ref a, PySem.W.mg_of X Gn q, rfl, fun F => .tup (.inr ⟨_, its, n, q2, by rw [of_decide_eq_true c1], rfl, ?_, He.relAll_ok c3⟩) (rvs_dv ds)⟩
        have := of_decide_eq_true c2
        rw [sizeLine_eq]; omega
      · cases c
    · cases c
theorem miss_of {P : Params} {a : Addr} {ks : List Str} (h : He.dicW K a = some (He.keysIn P ks)) {z : Str} (hz : z ∉ ks) : PySem.W.nsIn K a z = some none := by
  unfold He.dicW at h
  split at h
  · rename_i c es n sl q
    split at h
    · have h := Option.some.inj h
      unfold PySem.W.nsIn
      rw [q]
      dsimp only
      have key : ∀ (l : List DictEntry) (ks : List Str), l.map He.keyOf = He.keysIn P ks → z ∉ ks → (l.find? fun e => e.key.isStr z) = none ∧ l.any (·.refKey) = false := by
        intro l
        induction l with
        | nil => intro ks _ _; exact ⟨rfl, rfl⟩
        | cons e l ih =>
          intro ks hk hn
          cases ks with
          | nil => cases hk
          | cons k ks =>
            have hk' : He.keyOf e :: l.map He.keyOf = some (k, PyData.keyHash P k) :: He.keysIn P ks := hk
            injection hk' with h1 h2
            obtain ⟨i1, i2⟩ := ih ks h2 fun q => hn (List.mem_cons_of_mem _ q)
            unfold He.keyOf at h1
            split at h1
            · rename_i x t qk
              obtain ⟨e1, _⟩ := Prod.mk.inj (Option.some.inj h1)
              have hne : e.key.isStr z = false := by
                rw [qk]
                show (x == z) = false
                exact beq_eq_false_iff_ne.mpr fun q => hn (by rw [← q, e1]; exact List.mem_cons_self)
              refine ⟨by rw [List.find?_cons, hne]; exact i1, ?_⟩
              rw [List.any_cons, i2]
              show (e.refKey || false) = false
              unfold DictEntry.refKey
              rw [qk]
              rfl
            · cases h1
      obtain ⟨k1, k2⟩ := key es.toList ks h hz
      rw [k1, k2]
      rfl
    · cases h
  · cases h
def tabsOf (B : Tb) : List He.Tab := B.tabs.map fun t => (fun K => He.ga K t.1, t.2.map (·.1))
def moreB (B : Tb) (K : PySem.W.Frag) : Bool := (B.cons.all fun q => conZ K q.1 q.2) && B.tabs.all fun q => (He.Fa.glo q.1).ok K && He.valsB K (He.ga K q.1) (q.2.map fun p => (p.1, p.2.dv))
/-- all that the head must show -/
structure SaysZ (fa : List He.Fa) (dl : List He.DefD) (B : Tb) (w : World) (K : PySem.W.Frag) : Prop where
  d : He.SaysD fa dl K
  t : He.SaysT fa dl (tabsOf B) w K
  m : moreB B K = true
theorem lookup_mem {kvs : List (Str × DV)} {z : Str} {v : DV} (h : kvs.lookup z = some v) : (z, v) ∈ kvs := by
  induction kvs with
  | nil => cases h
  | cons p r ih =>
    obtain ⟨k, u⟩ := p
    rw [List.lookup_cons] at h
    cases e : z == k with
    | true => rw [e] at h; cases h; cases beq_iff_eq.mp e; exact List.mem_cons_self
    | false => rw [e] at h; exact List.mem_cons_of_mem _ (ih h)
theorem tab0 (X : K.In h) (Gn : h.Ns mainGlobals mg) (c0 : SaysZ fa dl B w K) (hb : headB G B fa = true) : ∀ F0, Tab (G.at F0) B (PL []) 0 P w K mg base := fun F0 => by
  obtain ⟨h1, h2⟩ := ba hb
  obtain ⟨c, ct, cm⟩ := c0
  obtain ⟨cm1, cm2⟩ := ba cm
  refine ⟨fun x hx => He.free_ok X Gn (says c (any_free (List.all_eq_true.mp h1 x hx))), fun k nm lay e => ?_, fun i fn hi => absurd hi (Nat.not_lt_zero i), fun j mk _ hi => absurd hi (Nat.not_lt_zero _), fun x v e => conZ_ok X Gn (List.all_eq_true.mp cm1 _ e), fun x kvs e0 => ?_⟩
  rotate_left
  · obtain ⟨m1, m2⟩ := ba (List.all_eq_true.mp cm2 _ e0)
    obtain ⟨j, hj, ej⟩ := List.getElem_of_mem e0
    have e : B.tabs[j]? = some (x, kvs) := by rw [List.getElem?_eq_getElem hj, ej]
    have et : (tabsOf B)[j]? = some (fun K => He.ga K x, kvs.map (·.1)) := by unfold tabsOf; rw [List.getElem?_map, e]; rfl
    obtain ⟨es, n, D⟩ := ct.tab j et
    refine ⟨He.ga K x, es, n, He.glo_ok X Gn m1, D, fun z => ?_⟩
    have ew : He.dicW K (He.ga K x) = some (He.keysIn w.params (kvs.map (·.1))) := by
      have e1 : (tabsOf B).map (fun t => He.dicW K (t.1 K)) = (tabsOf B).map fun t => some (He.keysIn w.params t.2) := congrArg (fun z : He.AlT => z.2) ct
      have e2 : ((tabsOf B).map (fun t => He.dicW K (t.1 K)))[j]? = ((tabsOf B).map fun t => some (He.keysIn w.params t.2))[j]? := by rw [e1]
      rw [List.getElem?_map, List.getElem?_map, et] at e2
      exact Option.some.inj e2
    cases q : kvs.lookup z with
    | none =>
      refine .inl ⟨rfl, miss_of ew fun hz => ?_⟩
      have := lookup_keys (kvs := kvs) (z := z)
      rw [q, List.contains_iff_mem.mpr hz] at this
      cases this
    | some v =>
      obtain ⟨u, g1, g2⟩ := He.valsB_ok (q := (z, v.dv)) m2 (List.mem_map.mpr ⟨(z, v), lookup_mem q, rfl⟩)
      exact .inr ⟨v, u, _, rfl, g1, g2, fun F => DV.rv⟩
  have e : G.cls[k]? = some (nm, lay) := e
  obtain ⟨g1, g2⟩ := ba (List.all_eq_true.mp h2 _ (List.mem_of_getElem? e))
  obtain ⟨g2, g3⟩ := ba g2
  exact ⟨He.cls_ok (says c (any_cls g1)), of_decide_eq_true g2, fun f hf => He.noat_ok (says c (any_noat (List.all_eq_true.mp g3 f hf)))⟩
/-- how a def binds its values -/
def BindsD (G : Cfg) (K : PySem.W.Frag) (d : He.DefD) (fn : Fn) : Prop := ∀ fd, FunD K d.name d.qual d.params d.body d.scope (d.dvs K) (d.kws K) (He.fAd K d.at_) fd → fn.kwo = false → ∀ j, j ≤ fn.dfl.length → ∃ ds dvs, Vals dvs ds ∧ (∀ F, RVs G K F dvs ((fn.dfl.drop j).map DV.pv)) ∧ Binds K fd fn.ps ds
def MkD (G : Cfg) (K : PySem.W.Frag) (d : He.DefD) (fn : Fn) (mk : Mkr) : Prop := ∀ fd, FunD K d.name d.qual d.params d.body d.scope (d.dvs K) (d.kws K) (He.fAd K d.at_) fd → ∃ g dvs, KBn K fd fn.ps (mk.n + 1) mk.ks g dvs ∧ ∀ F vs zs ps qs, RVs G K F vs ps → RVs G K F zs qs → zs.length = mk.ks.length → RVs G K F (dvs vs zs) (ps ++ arr mk.ds qs)
def nameB (fa : List He.Fa) (a : Str × Option Str) : Bool := match a.2 with
  | none => fa.any (isGlo a.1)
  | some m => fa.any (isMeth a.1 m)
def mkrB (G : Cfg) (fa : List He.Fa) (a : Str × Option Str) (mk : Mkr) : Bool := match G.cls[mk.c]? with
  | some q => decide (a = (q.1, some ("__init__" : Str))) && (fa.any (isMkr q.1) && fa.any (isGlo q.1))
  | none => false
theorem tab_next (X : K.In h) (Gn : h.Ns mainGlobals mg) (c : He.SaysD fa dl K) {l l' : List ZSp} {s : ZSp} {i k : Nat} {d : He.DefD} {fn : Fn} {N : List Str} {m : SL} (hl : l.length = i) (hl' : l' = l ++ [s]) (t : ∀ F0, Tab (G.at F0) B (PL l) i P w K mg base)
    (hd : dl[k]? = some d) (hfn : B.fns[i]? = some fn) (hat : fn.at_ = d.at_) (hnm : nameB fa fn.at_ = true) (S : FnScope N fn.ps d.scope) (hc : ∀ F0, chkSs (G.at F0) B ⟨N, d.scope, none, i⟩ m d.body = true)
    (hb : BindsD G K d fn) (hm : ∀ (j : Nat) (mk : Mkr), B.mks[j]? = some mk → mk.f = i → mkrB G fa fn.at_ mk = true ∧ MkD G K d fn mk)
    (sp : ∀ (vs : List PV) (M : Mh) (Q : ZQ) (E : ZX), s vs M Q E → vs.length = fn.ps.length ∧ Reach M fun M1 => inl (PL l) N.length fn.ps.length m vs M1 Q E) : ∀ F0, Tab (G.at F0) B (PL l') (i + 1) P w K mg base := by
  subst hl'
  obtain ⟨fd, F⟩ := c.def_ k (d := d) hd
  have ok := fnZ F S t hc sp
  rw [← hat] at ok
  have kp : PySem.W.keepIn K (.ref (He.fAd K fn.at_)) = true := by rw [hat]; exact F.kp
  have g1 : fn.at_.2 = none → mg fn.at_.1 = some (.ref (He.fAd K fn.at_)) := fun e => by
    cases ha : fn.at_ with
    | mk x y =>
    rw [ha] at e hnm
    obtain rfl : y = none := e
    exact He.glo_ok X Gn (says c (any_glo hnm))
  have g2 : ∀ m, fn.at_.2 = some m → Meth K (He.ga K fn.at_.1) m (He.fAd K fn.at_) := fun m e => by
    cases ha : fn.at_ with
    | mk x y =>
    rw [ha] at e hnm
    obtain rfl : y = some m := e
    exact He.meth_ok (says c (any_meth hnm))
  intro F0
  refine ⟨(t F0).fr, (t F0).cl, fun j fn' hj e => ?_, fun j mk e hj => ?_, (t F0).co, (t F0).ta⟩
  · rcases Nat.lt_or_eq_of_le (Nat.le_of_lt_succ hj) with hj | rfl
    · have q := (t F0).fn j fn' hj e
      rw [PL_lt (by rw [hl]; exact hj)]
      exact q
    · rw [hfn] at e
      cases e
      have q : PL (l ++ [s]) j = s := by rw [← hl]; exact PL_at
      rw [q]
      exact ⟨fd, ok, hb fd F, kp, g1, g2⟩
  · rcases Nat.lt_or_eq_of_le (Nat.le_of_lt_succ hj) with hj | ej
    · have q := (t F0).mks j mk e hj
      rw [PL_lt (by rw [hl]; exact hj)]
      exact q
    · obtain ⟨q1, q2⟩ := hm j mk e ej
      obtain ⟨g, dvs, kb, hv⟩ := q2 fd F
      unfold mkrB at q1
      split at q1
      · rename_i cq ec
        obtain ⟨e1, q1⟩ := ba q1
        obtain ⟨e2, e3⟩ := ba q1
        have e1 := of_decide_eq_true e1
        have q : PL (l ++ [s]) mk.f = s := by rw [ej, ← hl]; exact PL_at
        rw [q, ej]
        refine ⟨cq.1, cq.2, fn, fd, g, dvs, ec, hfn, ok, ?_, He.glo_ok X Gn (says c (any_glo e3)), kb, hv⟩
        rw [e1]
        exact He.mkr_ok (says c (any_mkr e2))
      · cases q1
/-- no defaults -/
theorem bindsD0 {d : He.DefD} {fn : Fn} (hd : d.dvs K = []) (hf : fn.dfl = []) (h : ∀ (kV doc pm : Value) (an : Option Addr) (cdv ct : Value) (us : List Value), us.length = fn.ps.length → bindArgs (PySem.W.fnOf d.name d.qual d.params d.body d.scope .none kV doc pm an cdv ct) ⟨us, []⟩ = pure (fn.ps.zip us)) : BindsD G K d fn := by
  intro fd F _ j _
  rw [hd] at F
  refine ⟨[], [], .nil, fun F => ?_, F.bindsN h⟩
  rw [hf, List.drop_nil]
  exact .nil
theorem bindsKw {d : He.DefD} {fn : Fn} (hf : fn.kwo = true) : BindsD G K d fn := fun fd F e => by rw [hf] at e; cases e
theorem no_mks (h : B.mks = []) {i : Nat} {R : Mkr → Prop} : ∀ (j : Nat) (mk : Mkr), B.mks[j]? = some mk → mk.f = i → R mk := fun j mk e => by rw [h] at e; simp at e
theorem not_mks {i : Nat} (h : (B.mks.all fun mk => decide (mk.f ≠ i)) = true) {R : Mkr → Prop} : ∀ (j : Nat) (mk : Mkr), B.mks[j]? = some mk → mk.f = i → R mk := fun j mk e hf =>
  absurd hf (of_decide_eq_true (List.all_eq_true.mp h mk (List.mem_of_getElem? e)))
end
/-- a def that is walked where it is called -/
theorem inl_sp {Φ : Nat → ZSp} {n k : Nat} {m : SL} : ∀ (vs : List PV) (M : Mh) (Q : ZQ) (E : ZX), inl Φ n k m vs M Q E → vs.length = k ∧ Reach M fun M1 => inl Φ n k m vs M1 Q E := fun _ _ _ _ h => ⟨h.1, .done h⟩
end Z
set_option Elab.async false
set_option linter.all false
set_option maxRecDepth 100000
set_option maxHeartbeats 4000000
namespace Z
open PySem PySem.Spec PyProof.Rows L2
theorem weak2 {M M' : Mh} {s g : Addr} {P1 P2 : List PV → Prop} {xs ys : List PV} (hs : M s = some (.sm P1)) (hg : M g = some (.sm P2)) (h1 : M' s = some (.lst xs)) (p1 : P1 xs) (h2 : M' g = some (.lst ys)) (p2 : P2 ys) (hr : ∀ a, a ≠ s → a ≠ g → M' a = M a) : Weak M M' := by
  intro a m e
  by_cases ha : a = s
  · subst ha; rw [hs] at e; cases e; exact .inr ⟨xs, P1, h1, rfl, p1⟩
  · by_cases hb : a = g
    · subst hb; rw [hg] at e; cases e; exact .inr ⟨ys, P2, h2, rfl, p2⟩
    · exact .inl ((hr a ha hb).trans e)
theorem lc_ind {still : Mh → Prop} {D : Addr} {step : PV → Mh → (Option PV → Mh → Prop) → Prop} {done : List PV → Mh → Prop} (I : List PV → List PV → Mh → Prop) {xs acc : List PV} {M : Mh} (h0 : I xs acc M) (hd : ∀ acc M, I [] acc M → still M ∧ done acc M)
    (hs : ∀ x r acc M, I (x :: r) acc M → ∀ L : List PV → Mh → Prop, (∀ acc M, I r acc M → L acc M) → still M ∧ step x M (fun o M' => match o with
      | some y => M' D = some (.lst acc) ∧ acc.length < sizeLine ∧ L (acc ++ [y]) (put M' D (.lst (acc ++ [y])))
      | none => L acc M')) : lcIter still D step done xs acc M := by
  induction xs generalizing acc M with
  | nil => exact hd acc M h0
  | cons x r ih => exact hs x r acc M h0 (fun acc M => lcIter still D step done r acc M) fun acc M h => ih h
theorem it_ind {still : Mh → Prop} {step : PV → Zs → Mh → (Zs → Mh → Prop) → Prop} {done : Zs → Mh → Prop} (I : List PV → Zs → Mh → Prop) {xs : List PV} {σ : Zs} {M : Mh} (h0 : I xs σ M) (hd : ∀ σ M, I [] σ M → still M ∧ done σ M)
    (hs : ∀ x r σ M, I (x :: r) σ M → ∀ L : Zs → Mh → Prop, (∀ σ M, I r σ M → L σ M) → still M ∧ step x σ M L) : iter still step done xs σ M := by
  induction xs generalizing σ M with
  | nil => exact hd σ M h0
  | cons x r ih => exact hs x r σ M h0 (fun σ M => iter still step done r σ M) fun σ M h => ih h
theorem put_put {M : Mh} {a : Addr} {x y : MO} : put (put M a x) a y = put M a y := by
  funext b
  by_cases h : b = a
  · subst h; rw [put_same, put_same]
  · rw [put_ne h, put_ne h, put_ne h]
theorem put_del {M : Mh} {a : Addr} {x : MO} (h : M a = none) : del (put M a x) a = M := by
  funext b
  unfold del
  by_cases e : b = a
  · subst e; rw [if_pos rfl, h]
  · rw [if_neg e, put_ne e]
theorem none_put {M : Mh} {a b : Addr} {x : MO} (h : put M a x b = none) : b ≠ a ∧ M b = none := by
  by_cases e : b = a
  · subst e; rw [put_same] at h; cases h
  · rw [put_ne e] at h; exact ⟨e, h⟩
theorem small {n k : Nat} (h : n ≤ k) (hk : k ≤ 100000 := by decide) : n < sizeLine := by rw [sizeLine_eq]; omega
section
variable {still : Mh → Prop} {D : Addr} {step : PV → Mh → (Option PV → Mh → Prop) → Prop} {done : List PV → Mh → Prop} {xs : List PV} {M1 : Mh}
/-- items out of items, some left out -/
theorem lc_fm (f : PV → Option PV) (hl : xs.length ≤ 1000) (hst : ∀ acc, still (put M1 D (.lst acc))) (hs : ∀ x ∈ xs, ∀ acc k, k (f x) (put M1 D (.lst acc)) → step x (put M1 D (.lst acc)) k) (hd : done (xs.filterMap f) (put M1 D (.lst (xs.filterMap f)))) : lcIter still D step done xs [] (put M1 D (.lst [])) := by
  refine lc_ind (fun ys acc M => ∃ pre, xs = pre ++ ys ∧ acc = pre.filterMap f ∧ M = put M1 D (.lst acc)) ⟨[], rfl, rfl, rfl⟩ ?_ ?_
  · rintro acc M ⟨pre, e, rfl, rfl⟩
    rw [List.append_nil] at e
    subst e
    exact ⟨hst _, hd⟩
  · rintro x r acc M ⟨pre, e, rfl, rfl⟩ L hL
    refine ⟨hst _, hs x (by rw [e]; simp) _ _ ?_⟩
    cases q : f x with
    | none => exact hL _ _ ⟨pre ++ [x], by rw [e]; simp, by rw [List.filterMap_append]; simp [q], rfl⟩
    | some y =>
      refine ⟨put_same, ?_, hL _ _ ⟨pre ++ [x], by rw [e]; simp, by rw [List.filterMap_append]; simp [q], put_put⟩⟩
      refine small (k := 1000) (Nat.le_trans (List.length_filterMap_le f pre) ?_)
      rw [e, List.length_append] at hl
      omega
theorem lc_map (f : PV → PV) (hl : xs.length ≤ 1000) (hst : ∀ acc, still (put M1 D (.lst acc))) (hs : ∀ x ∈ xs, ∀ acc k, k (some (f x)) (put M1 D (.lst acc)) → step x (put M1 D (.lst acc)) k) (hd : done (xs.map f) (put M1 D (.lst (xs.map f)))) : lcIter still D step done xs [] (put M1 D (.lst [])) := by
  refine lc_fm (fun x => some (f x)) hl hst hs ?_
  have e : xs.filterMap (fun x => some (f x)) = xs.map f := by
    rw [← List.filterMap_eq_map]; rfl
  rw [e]; exact hd
/-- any items of a kind -/
theorem lc_any (P : PV → Prop) (hl : xs.length ≤ 1000) (hst : ∀ acc, still (put M1 D (.lst acc))) (hs : ∀ x ∈ xs, ∀ acc k, (∀ y, P y → k (some y) (put M1 D (.lst acc))) → step x (put M1 D (.lst acc)) k)
    (hd : ∀ ys : List PV, ys.length = xs.length → (∀ y ∈ ys, P y) → done ys (put M1 D (.lst ys))) : lcIter still D step done xs [] (put M1 D (.lst [])) := by
  refine lc_ind (fun ys acc M => ∃ pre, xs = pre ++ ys ∧ acc.length = pre.length ∧ (∀ y ∈ acc, P y) ∧ M = put M1 D (.lst acc)) ⟨[], rfl, rfl, by simp, rfl⟩ ?_ ?_
  · rintro acc M ⟨pre, e, h1, h2, rfl⟩
    rw [List.append_nil] at e
    subst e
    exact ⟨hst _, hd acc h1 h2⟩
  · rintro x r acc M ⟨pre, e, h1, h2, rfl⟩ L hL
    refine ⟨hst _, hs x (by rw [e]; simp) _ _ fun y hy => ?_⟩
    refine ⟨put_same, ?_, hL _ _ ⟨pre ++ [x], by rw [e]; simp, by simp [h1], ?_, put_put⟩⟩
    · rw [e, List.length_append] at hl
      exact small (k := 1000) (by omega)
    · intro z hz
      rcases List.mem_append.mp hz with hz | hz
      · exact h2 z hz
      · rw [List.mem_singleton] at hz; subst hz; exact hy
end
section
variable {still : Mh → Prop} {D : Addr} {step : PV → Mh → (Option PV → Mh → Prop) → Prop} {Q : ZQ} {xs : List PV} {M1 : Mh}
theorem lc_fmF (f : PV → Option PV) (hD : M1 D = none) (hl : xs.length ≤ 1000) (hst : ∀ acc, still (put M1 D (.lst acc))) (hs : ∀ x ∈ xs, ∀ acc k, k (f x) (put M1 D (.lst acc)) → step x (put M1 D (.lst acc)) k) (hd : Q (.lst (xs.filterMap f)) M1) : lcIter still D step (lcDone true D Q) xs [] (put M1 D (.lst [])) := by
  refine lc_fm f hl hst hs ⟨put_same, ?_⟩
  rw [put_del hD]; exact hd
theorem lc_mapF (f : PV → PV) (hD : M1 D = none) (hl : xs.length ≤ 1000) (hst : ∀ acc, still (put M1 D (.lst acc))) (hs : ∀ x ∈ xs, ∀ acc k, k (some (f x)) (put M1 D (.lst acc)) → step x (put M1 D (.lst acc)) k) (hd : Q (.lst (xs.map f)) M1) : lcIter still D step (lcDone true D Q) xs [] (put M1 D (.lst [])) := by
  refine lc_map f hl hst hs ⟨put_same, ?_⟩
  rw [put_del hD]; exact hd
theorem lc_anyF (P : PV → Prop) (hD : M1 D = none) (hl : xs.length ≤ 1000) (hst : ∀ acc, still (put M1 D (.lst acc))) (hs : ∀ x ∈ xs, ∀ acc k, (∀ y, P y → k (some y) (put M1 D (.lst acc))) → step x (put M1 D (.lst acc)) k)
    (hd : ∀ ys : List PV, ys.length = xs.length → (∀ y ∈ ys, P y) → Q (.lst ys) M1) : lcIter still D step (lcDone true D Q) xs [] (put M1 D (.lst [])) := by
  refine lc_any P hl hst hs fun ys h1 h2 => ⟨put_same, ?_⟩
  rw [put_del hD]; exact hd ys h1 h2
end
theorem mem_range {lo : Int} {n : Nat} {x : PV} (h : x ∈ rangeL lo n) : ∃ i : Nat, i < n ∧ x = .int (lo + i) := by
  unfold rangeL at h
  obtain ⟨i, hi, e⟩ := List.mem_map.mp h
  exact ⟨i, List.mem_range.mp hi, e.symm⟩
theorem len_rangeL {lo : Int} {n : Nat} : (rangeL lo n).length = n := by unfold rangeL; rw [List.length_map, List.length_range]
theorem neN {M : Mh} {a b : Addr} {o : MO} (h : M a = some o) (h2 : M b = none) : a ≠ b := fun z => by rw [z, h2] at h; cases h
theorem MSub.fresh {M M' : Mh} (h : MSub M M') {p : Addr} (e : M' p = none) : M p = none := by
  cases q : M p with
  | none => rfl
  | some m => rw [h p m q] at e; cases e
theorem MSub.put' {M M' : Mh} (h : MSub M M') {p : Addr} {o : MO} (e : M p = none) : MSub M (Z.put M' p o) := fun a m q => by
  have : a ≠ p := fun z => by rw [z, e] at q; cases q
  rw [put_ne this]; exact h a m q
theorem MSub.del' {M M' : Mh} (h : MSub M M') {p : Addr} (e : M p = none) : MSub M (Z.del M' p) := fun a m q => by
  have : a ≠ p := fun z => by rw [z, e] at q; cases q
  unfold del; rw [if_neg this]; exact h a m q
theorem peq_int {a b : Int} : peq (.int a) (.int b) = decide (a = b) := by
  show (a == b) = decide (a = b)
  by_cases h : a = b
  · rw [decide_eq_true h]; exact beq_iff_eq.mpr h
  · rw [decide_eq_false h]; exact beq_eq_false_iff_ne.mpr h
theorem br_int {a b : Int} {A B : Prop} (h1 : a = b → A) (h2 : a ≠ b → B) : br (peq (.int a) (.int b)) A B := by
  rw [peq_int]
  exact br_intro (fun c => h1 (of_decide_eq_true c)) fun c => h2 (of_decide_eq_false c)
theorem br_nint {a b : Int} {A B : Prop} (h1 : a ≠ b → A) (h2 : a = b → B) : br (!peq (.int a) (.int b)) A B := by
  rw [peq_int]
  refine br_intro (fun c => h1 fun e => ?_) fun c => ?_
  · rw [decide_eq_true e] at c; cases c
  · by_cases e : a = b
    · exact h2 e
    · rw [decide_eq_false e] at c; cases c
def SL.tl : SL → SL
  | .cons _ r => r
  | .frz _ r => r
  | .nil => .nil
abbrev DD (Q : ZQ) : ZD := { nx := fun _ M' => Qw Q .non M', rt := Qw Q }
theorem pick_all {α : Type} {P : α → Prop} (f : α → PV) : ∀ {ys : List PV}, (∀ y ∈ ys, ∃ a, P a ∧ y = f a) → ∃ as : List α, ys = as.map f ∧ ∀ a ∈ as, P a
  | [], _ => ⟨[], rfl, by simp⟩
  | y :: ys, h => by
    obtain ⟨a, ha, e⟩ := h y List.mem_cons_self
    obtain ⟨as, e2, h2⟩ := pick_all f (ys := ys) fun z hz => h z (List.mem_cons_of_mem _ hz)
    refine ⟨a :: as, by rw [List.map_cons, e, e2], fun b hb => ?_⟩
    rcases List.mem_cons.mp hb with rfl | hb
    · exact ha
    · exact h2 b hb
end Z
set_option Elab.async false
set_option linter.all false
set_option maxRecDepth 100000
set_option maxHeartbeats 4000000
/-! the end of a law, where an exception may leave a def on the way -/
namespace Z
open PySem PySem.Spec PyProof.Rows L2
theorem noX {P : Program} {w : World} {H : Hp} {s s' : Shared} {e : Value} (h : L2.CX P w [] H s (fun _ _ _ => False) e s') : False := by
  obtain ⟨_, _, _, _, _, _, _, _, _, _, _, _, z⟩ := h
  exact z
/-- the script as the only thing that is known -/
theorem conc_law {G : Cfg} {K : PySem.W.Frag} {sp : ZSp} {n : Nat} (hs : ∀ (ns : List Int) (Q : ZQ) (E : ZX), ns.length ≤ n → (∀ M, Q (.bl true) M) → sp [.scr (ns.map PV.int)] (fun _ => none) Q E) (H : Hp) (a : Addr) (ns : List Int) (hl : ns.length ≤ n) (hS : SqL K H a (ns.map V.int)) :
    conc (G.at fun _ => none) K sp [.ref a] H (fun v _ => v = .bl true) fun _ _ _ => False := by
  refine ⟨H, fun _ => none, [.scr (ns.map PV.int)], fun v _ => v = .bl true, fun _ _ => False, ⟨fun _ _ h => (by cases h), fun _ _ h => h, fun _ _ h => (by cases h)⟩, .cons (.scr hS (RVs'.ints ns)) .nil, hs ns _ _ hl fun _ => rfl, fun p M' F' H' v _ _ r e => ?_, fun _ _ _ _ _ _ _ _ _ z => z⟩
  subst e
  cases r
  rfl
theorem walkX {l : PySem.W.OpenLaw} {n k : Nat} {q : Program} {loose : List Str} {XP : (Str → Option Value) → Heap → Prop} {YP : World → Heap → Prop} {d : DefRec} {x : Str} {G : Cfg} {sp : ZSp}
    (most : l.most = some n) (fits : n ≤ sizeLine) (plain : d.params.defaults = []) (room : Room k callerA)
    (hs : ∀ (ns : List Int) (Q : ZQ) (E : ZX), ns.length ≤ n → (∀ M, Q (.bl true) M) → sp [.scr (ns.map PV.int)] (fun _ => none) Q E)
    (F : ∀ (w : World) (mg : Str → Option Value) (f : Addr) (h : Heap), YP w h → h.Ns mainGlobals mg → mg d.name = some (.ref f) →
      ∃ (K : PySem.W.Frag) (fd : FuncData), K.In h ∧ (∀ (s : Shared) (u : Value), BindsTo s fd ⟨[u], []⟩ [(x, u)]) ∧
        ∀ base : Heap, K.In base → base.Ns mainGlobals mg → FnOk l.prog w K mg base (L2.CX l.prog w) k f fd [x] (conc (G.at fun _ => none) K sp)) :
    PySem.W.WalkO q loose XP YP l.row.toRowW d [] (fun f vs => PySem.call f vs) := by
  apply Att.attach_call most plain
  intro w s0 s1 mg mb f o pm cd doc a us ns g y _ _ _ e1 e2 e3 e4 e5
  obtain ⟨K, fd, kin, bd, ok⟩ := F w mg f _ y g.T.g e1
  refine law_call kin g.T.g g.T.b g.T.builtins g.T.nolimit e5 e2 e3 (Nat.le_trans e4 fits) room ok bd ?_ ?_
  · intro H _ hS
    exact conc_law hs H a ns e4 hS
  · intro H e s' z
    exact noX z
end Z
set_option Elab.async false
set_option linter.all false
set_option maxRecDepth 100000
set_option maxHeartbeats 4000000
/-! a hook with facts of one's own -/
namespace Z
open PySem PySem.Spec PyProof.Rows L2
/-- facts by names, defs, tables, constants of the module -/
def hookZ (n : Nat) (fa : List He.Fa) (dl : List He.DefD) (B : Tb) : PySem.W.Hook where
  α := He.AlT × Bool
  obs := fun s => (He.obsTG n fa dl (tabsOf B) s.heap.get?, moreB B (He.frG s.heap.get? (He.asD s.heap.get? n)))
  val := fun w => (He.valT dl (tabsOf B) w, true)
  says := fun w h => ∃ K : PySem.W.Frag, K.In h ∧ SaysZ fa dl B w K
  of := fun w s e =>
    have e1 : He.obsT fa dl (tabsOf B) (He.frG s.heap.get? (He.asD s.heap.get? n)) = He.valT dl (tabsOf B) w := congrArg (fun z : He.AlT × Bool => z.1) e
    ⟨He.frG s.heap.get? (He.asD s.heap.get? n), He.frG_in, He.SaysT.d (w := w) e1, e1, congrArg (fun z : He.AlT × Bool => z.2) e⟩
  keeps := fun _ _ _ ⟨K, hK, c⟩ k => ⟨K, PySem.W.Frag.In.keeps hK k, c⟩
def obZ (n : Nat) (fa : List He.Fa) (dl : List He.DefD) (B : Tb) (g : Addr → Option Obj) : He.AlT × Bool := (He.obsTG n fa dl (tabsOf B) g, moreB B (He.frG g (He.asD g n)))
theorem obZ_eq {n : Nat} {fa : List He.Fa} {dl : List He.DefD} {B : Tb} {g : Addr → Option Obj} {s : Shared} (h : ∀ a, g a = s.heap.get? a) : obZ n fa dl B g = (hookZ n fa dl B).obs s := by
  have e : g = s.heap.get? := funext h
  rw [e]
  rfl
end Z
set_option Elab.async false
set_option linter.all false
set_option maxRecDepth 100000
set_option maxHeartbeats 4000000
namespace HT
open PySem PySem.Spec PyProof.Rows L2 Z
def b_is_integer : SL := (.cons (.ret (.bool true (.cons (.isin (.var 0) .int) (.cons (.not (.isin (.var 0) .bool)) .nil)))) .nil)
abbrev n_is_integer : List Str := ["thing"]
def b_in_range : SL := (.cons (.ret (.bool true (.cons (.call 0 (.cons (.var 0) .nil) []) (.cons (.chain .le .le (.var 1) (.var 0) (.var 2)) .nil)))) .nil)
abbrev n_in_range : List Str := ["thing", "low", "high"]
def b_is_flag : SL := (.cons (.ret (.isin (.var 0) .bool)) .nil)
abbrev n_is_flag : List Str := ["thing"]
def b_is_value : SL := (.cons (.ret (.call 1 (.cons (.var 0) (.cons (.int 0) (.cons (.int 1) .nil))) [])) .nil)
abbrev n_is_value : List Str := ["thing"]
def b_is_index : SL := (.cons (.ret (.call 1 (.cons (.var 0) (.cons (.int 0) (.cons (.bin .sub (.var 1) (.int 1)) .nil))) [])) .nil)
abbrev n_is_index : List Str := ["thing", "many"]
def b_is_tuple : SL := (.cons (.ret (.bool true (.cons (.isin (.var 0) .tuple) (.cons (.cmp .eq (.bcall .len (.cons (.var 0) .nil)) (.var 1)) .nil)))) .nil)
abbrev n_is_tuple : List Str := ["thing", "many"]
def b_climbs : SL := (.cons (.for_ (.name 1) (.range2 (.int 1) (.bcall .len (.cons (.var 0) .nil))) (.cons (.ife (.not (.cmp .lt (.idx (.var 0) (.bin .sub (.var 1) (.int 1))) (.idx (.var 0) (.var 1)))) (.cons (.ret (.bl false)) .nil) .nil) .nil)) (.cons (.ret (.bl true)) .nil))
abbrev n_climbs : List Str := ["items", "at"]
def b_fits_right : SL := (.cons (.ife (.bool false (.cons (.not (.val (.call 5 (.cons (.var 1) (.cons (.int 2) .nil)) []))) (.cons (.not (.val (.isin (.idx (.var 1) (.int 0)) .str))) .nil))) (.cons (.ret (.bl false)) .nil) .nil) (.cons (.ife (.cmp .notin (.idx (.var 1) (.int 0)) (.var 0)) (.cons (.ret (.bl false)) .nil) .nil) (.cons (.ret (.call 4 (.cons (.idx (.var 1) (.int 1)) (.cons (.idx (.var 0) (.idx (.var 1) (.int 0))) .nil)) [])) .nil)))
abbrev n_fits_right : List Str := ["limits", "thing"]
def b_is_right : SL := (.cons (.ret (.call 7 (.cons (.attr (.var 0) 0 0) (.cons (.var 1) .nil)) [])) .nil)
abbrev n_is_right : List Str := ["build", "thing"]
def b_is_call : SL := (.cons (.ife (.bool false (.cons (.not (.val (.isin (.var 1) .tuple))) (.cons (.cmp .eq (.bcall .len (.cons (.var 1) .nil)) (.int 0)) (.cons (.not (.val (.isin (.idx (.var 1) (.int 0)) .str))) .nil)))) (.cons (.ret (.bl false)) .nil) .nil) (.cons (.asg (.name 2) (.idx (.var 1) (.int 0))) (.cons (.ife (.cmp .in_ (.var 2) (.tup (.cons (.str "get") (.cons (.str "give") (.cons (.str "pass") .nil))))) (.cons (.ret (.cmp .eq (.bcall .len (.cons (.var 1) .nil)) (.int 1))) .nil) .nil) (.cons (.ife (.cmp .in_ (.var 2) (.tup (.cons (.str "write") (.cons (.str "send") .nil)))) (.cons (.ret (.bool true (.cons (.cmp .eq (.bcall .len (.cons (.var 1) .nil)) (.int 3)) (.cons (.call 4 (.cons (.idx (.var 1) (.int 1)) (.cons (.idx (.attr (.var 0) 0 0) (.var 2)) .nil)) []) (.cons (.call 3 (.cons (.idx (.var 1) (.int 2)) .nil) []) .nil))))) .nil) .nil) (.cons (.ife (.cmp .in_ (.var 2) (.tup (.cons (.str "hand") (.cons (.str "strip") .nil)))) (.cons (.ret (.bool true (.cons (.cmp .eq (.bcall .len (.cons (.var 1) .nil)) (.int 3)) (.cons (.call 4 (.cons (.idx (.var 1) (.int 1)) (.cons (.idx (.attr (.var 0) 0 0) (.var 2)) .nil)) []) (.cons (.call 8 (.cons (.var 0) (.cons (.idx (.var 1) (.int 2)) .nil)) []) .nil))))) .nil) .nil) (.cons (.ife (.cmp .ne (.bcall .len (.cons (.var 1) .nil)) (.int 2)) (.cons (.ret (.bl false)) .nil) .nil) (.cons (.ife (.cmp .eq (.var 2) (.str "sleep")) (.cons (.ret (.call 1 (.cons (.idx (.var 1) (.int 1)) (.cons (.int 1) (.cons (.int 2) .nil))) [])) .nil) .nil) (.cons (.ife (.cmp .eq (.var 2) (.str "seek")) (.cons (.ret (.call 4 (.cons (.idx (.var 1) (.int 1)) (.cons (.attr (.var 0) 0 6) .nil)) [])) .nil) .nil) (.cons (.ret (.bool true (.cons (.kin false 0 ["read", "take", "wait", "lock", "free"] (.var 2)) (.cons (.call 4 (.cons (.idx (.var 1) (.int 1)) (.cons (.idx (.attr (.var 0) 0 0) (.kidx 0 [("read", (.str "read")), ("take", (.str "take")), ("wait", (.str "take")), ("lock", (.str "lock")), ("free", (.str "lock"))] (.var 2))) .nil)) []) .nil)))) .nil)))))))))
abbrev n_is_call : List Str := ["build", "thing", "word"]
def b_is_side_list : SL := (.cons (.ife (.not (.val (.isin (.var 1) .list))) (.cons (.ret (.bl false)) .nil) .nil) (.cons (.for_ (.name 2) (.seq (.var 1)) (.cons (.ife (.bool false (.cons (.not (.val (.call 0 (.cons (.var 2) .nil) []))) (.cons (.cmp .notin (.var 2) (.attr (.var 0) 0 16)) .nil))) (.cons (.ret (.bl false)) .nil) .nil) .nil)) (.cons (.ret (.call 6 (.cons (.var 1) .nil) [])) .nil)))
abbrev n_is_side_list : List Str := ["build", "thing", "side"]
def b_is_ones : SL := (.cons (.ret (.bool true (.cons (.call 10 (.cons (.var 0) (.cons (.var 1) .nil)) []) (.cons (.chain .le .lt (.int 1) (.bcall .len (.cons (.var 1) .nil)) (.bcall .len (.cons (.attr (.var 0) 0 16) .nil))) .nil)))) .nil)
abbrev n_is_ones : List Str := ["build", "thing"]
def b_is_eyes : SL := (.cons (.ife (.bool false (.cons (.not (.val (.call 10 (.cons (.var 0) (.cons (.var 2) .nil)) []))) (.cons (.cmp .eq (.bcall .len (.cons (.var 2) .nil)) (.int 0)) .nil))) (.cons (.ret (.bl false)) .nil) .nil) (.cons (.for_ (.name 3) (.seq (.var 2)) (.cons (.ife (.cmp .in_ (.var 3) (.var 1)) (.cons (.ret (.bl false)) .nil) .nil) .nil)) (.cons (.ret (.bl true)) .nil)))
abbrev n_is_eyes : List Str := ["build", "ones", "thing", "side"]
def b_is_most : SL := (.cons (.ret (.call 1 (.cons (.var 0) (.cons (.int 1) (.cons (.var 1) .nil))) [])) .nil)
abbrev n_is_most : List Str := ["thing", "greatest"]
def b_is_task : SL := (.cons (.ret (.call 4 (.cons (.var 1) (.cons (.bcall .len (.cons (.attr (.var 0) 0 1) .nil)) .nil)) [])) .nil)
abbrev n_is_task : List Str := ["build", "thing"]
def b_is_rising : SL := (.cons (.ife (.not (.val (.isin (.var 0) .list))) (.cons (.ret (.bl false)) .nil) .nil) (.cons (.for_ (.name 2) (.seq (.var 0)) (.cons (.ife (.not (.val (.call 4 (.cons (.var 2) (.cons (.var 1) .nil)) []))) (.cons (.ret (.bl false)) .nil) .nil) .nil)) (.cons (.ret (.call 6 (.cons (.var 0) .nil) [])) .nil)))
abbrev n_is_rising : List Str := ["thing", "many", "index"]
def b_need_task : SL := (.cons (.ife (.not (.val (.call 14 (.cons (.var 0) (.cons (.var 1) .nil)) []))) (.cons .never .nil) .nil) .nil)
abbrev n_need_task : List Str := ["build", "task"]
def b_need_most : SL := (.cons (.ife (.not (.val (.call 13 (.cons (.var 0) (.cons (.var 1) .nil)) []))) (.cons .never .nil) .nil) .nil)
abbrev n_need_most : List Str := ["most", "greatest"]
def b_need_ones : SL := (.cons (.ife (.not (.val (.call 11 (.cons (.var 0) (.cons (.var 1) .nil)) []))) (.cons .never .nil) .nil) (.cons (.ret (.bcall (.list true) (.cons (.var 1) .nil))) .nil))
abbrev n_need_ones : List Str := ["build", "ones"]
def b_is_doors : SL := (.cons (.ife (.bool false (.cons (.not (.val (.isin (.var 1) .list))) (.cons (.cmp .eq (.bcall .len (.cons (.var 1) .nil)) (.int 0)) .nil))) (.cons (.ret (.bl false)) .nil) .nil) (.cons (.for_ (.name 2) (.seq (.var 1)) (.cons (.ife (.bool false (.cons (.not (.val (.call 8 (.cons (.var 0) (.cons (.var 2) .nil)) []))) (.cons (.cmp .notin (.idx (.var 2) (.int 0)) (.tup (.cons (.str "send") (.cons (.str "write") .nil)))) .nil))) (.cons (.ret (.bl false)) .nil) .nil) .nil)) (.cons (.ret (.call 6 (.cons (.var 1) .nil) [])) .nil)))
abbrev n_is_doors : List Str := ["build", "thing", "right"]
def b_need_doors : SL := (.cons (.ife (.not (.val (.call 19 (.cons (.var 0) (.cons (.var 1) .nil)) []))) (.cons .never .nil) .nil) (.cons (.ret (.bcall (.list true) (.cons (.var 1) .nil))) .nil))
abbrev n_need_doors : List Str := ["build", "doors"]
def b_need_eyes : SL := (.cons (.ife (.cmp .is_ (.var 2) .non) (.cons (.ret (.comp true [3] (.name 3) (.seq (.attr (.var 0) 0 16)) (.cons (.cmp .notin (.var 3) (.var 1)) .nil) (.var 3))) .nil) .nil) (.cons (.ife (.not (.val (.call 12 (.cons (.var 0) (.cons (.var 1) (.cons (.var 2) .nil))) []))) (.cons .never .nil) .nil) (.cons (.ret (.bcall (.list true) (.cons (.var 2) .nil))) .nil)))
abbrev n_need_eyes : List Str := ["build", "ones", "eyes", "side"]
def b_good_tasks : SL := (.cons (.ife (.bool false (.cons (.not (.val (.isin (.var 0) .list))) (.cons (.not (.chain .le .le (.int 2) (.bcall .len (.cons (.var 0) .nil)) (.int 4))) .nil))) (.cons (.ret (.bl false)) .nil) .nil) (.cons (.for_ (.name 1) (.seq (.var 0)) (.cons (.ife (.bool false (.cons (.not (.val (.call 5 (.cons (.var 1) (.cons (.int 2) .nil)) []))) (.cons (.not (.val (.call 1 (.cons (.idx (.var 1) (.int 0)) (.cons (.int 0) (.cons (.int 3) .nil))) []))) (.cons (.not (.val (.call 1 (.cons (.idx (.var 1) (.int 1)) (.cons (.int 0) (.cons (.int 2) .nil))) []))) .nil)))) (.cons (.ret (.bl false)) .nil) .nil) .nil)) (.cons (.ret (.cmp .ge (.lenset (.comp true [1] (.name 1) (.seq (.var 0)) .nil (.idx (.var 1) (.int 0)))) (.int 2))) .nil)))
abbrev n_good_tasks : List Str := ["tasks", "row"]
def b_good_pages : SL := (.cons (.ife (.bool false (.cons (.not (.val (.isin (.var 0) .list))) (.cons (.cmp .gt (.bcall .len (.cons (.var 0) .nil)) (.int 3)) .nil))) (.cons (.ret (.bl false)) .nil) .nil) (.cons (.for_ (.name 1) (.seq (.var 0)) (.cons (.ife (.not (.val (.call 3 (.cons (.var 1) .nil) []))) (.cons (.ret (.bl false)) .nil) .nil) .nil)) (.cons (.ret (.bl true)) .nil)))
abbrev n_good_pages : List Str := ["pages", "worth"]
def b_good_ports : SL := (.cons (.ife (.bool false (.cons (.not (.val (.isin (.var 0) .list))) (.cons (.cmp .gt (.bcall .len (.cons (.var 0) .nil)) (.int 2)) .nil))) (.cons (.ret (.bl false)) .nil) .nil) (.cons (.for_ (.name 1) (.seq (.var 0)) (.cons (.ife (.not (.val (.call 1 (.cons (.var 1) (.cons (.int 1) (.cons (.int 2) .nil))) []))) (.cons (.ret (.bl false)) .nil) .nil) .nil)) (.cons (.ret (.bl true)) .nil)))
abbrev n_good_ports : List Str := ["ports", "size"]
def b_good_disk : SL := (.cons (.ret (.bool true (.cons (.call 0 (.cons (.var 0) .nil) []) (.cons (.cmp .in_ (.var 0) (.tup (.cons (.int 0) (.cons (.int 2) (.cons (.int 3) (.cons (.int 4) .nil)))))) .nil)))) .nil)
abbrev n_good_disk : List Str := ["disk"]
def b_limits_of : SL := (.cons (.asg (.name 5) (.int 0)) (.cons (.ife (.cmp .gt (.var 4) (.int 0)) (.cons (.asg (.name 5) (.int 1)) .nil) .nil) (.cons (.ret (.dict true ["hand", "lock", "read", "seek", "send", "strip", "take", "write"] (.cons (.var 0) (.cons (.var 3) (.cons (.var 1) (.cons (.var 5) (.cons (.var 2) (.cons (.var 0) (.cons (.var 2) (.cons (.var 1) .nil)))))))))) .nil)))
abbrev n_limits_of : List Str := ["task_many", "page_many", "port_many", "lock_many", "disk", "seek_many"]
def b_good_rights : SL := (.cons (.ife (.bool false (.cons (.not (.val (.isin (.var 1) .list))) (.cons (.cmp .ne (.bcall .len (.cons (.var 1) .nil)) (.idx (.var 0) (.str "hand"))) .nil))) (.cons (.ret (.bl false)) .nil) .nil) (.cons (.for_ (.name 2) (.seq (.var 1)) (.cons (.ife (.bool false (.cons (.not (.val (.isin (.var 2) .list))) (.cons (.cmp .gt (.bcall .len (.cons (.var 2) .nil)) (.int 8)) .nil))) (.cons (.ret (.bl false)) .nil) .nil) (.cons (.for_ (.name 3) (.seq (.var 2)) (.cons (.ife (.not (.val (.call 7 (.cons (.var 0) (.cons (.var 3) .nil)) []))) (.cons (.ret (.bl false)) .nil) .nil) .nil)) (.cons (.ife (.not (.val (.call 6 (.cons (.var 2) .nil) []))) (.cons (.ret (.bl false)) .nil) .nil) .nil)))) (.cons (.ret (.bl true)) .nil)))
abbrev n_good_rights : List Str := ["limits", "rights", "row", "right"]
def b_good_lines : SL := (.cons (.ife (.bool false (.cons (.not (.val (.isin (.var 1) .list))) (.cons (.cmp .ne (.bcall .len (.cons (.var 1) .nil)) (.var 0)) .nil))) (.cons (.ret (.bl false)) .nil) .nil) (.cons (.for_ (.name 2) (.seq (.var 1)) (.cons (.ife (.bool true (.cons (.cmp .isnot (.var 2) .non) (.cons (.not (.val (.call 4 (.cons (.var 2) (.cons (.int 2) .nil)) []))) .nil))) (.cons (.ret (.bl false)) .nil) .nil) .nil)) (.cons (.ret (.bl true)) .nil)))
abbrev n_good_lines : List Str := ["page_many", "lines", "line"]
def b_good_costs : SL := (.cons (.ife (.not (.val (.call 5 (.cons (.var 0) (.cons (.int 3) .nil)) []))) (.cons (.ret (.bl false)) .nil) .nil) (.cons (.ret (.bool true (.cons (.call 1 (.cons (.idx (.var 0) (.int 0)) (.cons (.int 1) (.cons (.int 3) .nil))) []) (.cons (.call 1 (.cons (.idx (.var 0) (.int 1)) (.cons (.int 0) (.cons (.int 3) .nil))) []) (.cons (.call 1 (.cons (.idx (.var 0) (.int 2)) (.cons (.int 0) (.cons (.int 2) .nil))) []) .nil))))) .nil))
abbrev n_good_costs : List Str := ["costs"]
def b_good_plan : SL := (.cons (.ife (.not (.val (.call 5 (.cons (.var 1) (.cons (.int 2) .nil)) []))) (.cons (.ret (.bl false)) .nil) .nil) (.cons (.ife (.cmp .eq (.idx (.var 1) (.int 0)) (.str "levels")) (.cons (.ret (.call 1 (.cons (.idx (.var 1) (.int 1)) (.cons (.int 1) (.cons (.int 8) .nil))) [])) .nil) .nil) (.cons (.ife (.bool false (.cons (.cmp .ne (.idx (.var 1) (.int 0)) (.str "slots")) (.cons (.not (.val (.isin (.idx (.var 1) (.int 1)) .list))) (.cons (.not (.chain .le .le (.int 1) (.bcall .len (.cons (.idx (.var 1) (.int 1)) .nil)) (.int 4))) .nil)))) (.cons (.ret (.bl false)) .nil) .nil) (.cons (.for_ (.name 2) (.seq (.idx (.var 1) (.int 1))) (.cons (.ife (.bool false (.cons (.not (.val (.call 5 (.cons (.var 2) (.cons (.int 2) .nil)) []))) (.cons (.not (.val (.call 4 (.cons (.idx (.var 2) (.int 0)) (.cons (.var 0) .nil)) []))) (.cons (.not (.val (.call 1 (.cons (.idx (.var 2) (.int 1)) (.cons (.int 1) (.cons (.int 12) .nil))) []))) .nil)))) (.cons (.ret (.bl false)) .nil) .nil) .nil)) (.cons (.ret (.bl true)) .nil)))))
abbrev n_good_plan : List Str := ["task_many", "plan", "row"]
def b_good_outside : SL := (.cons (.ife (.cmp .is_ (.var 1) .non) (.cons (.ret (.bl true)) .nil) .nil) (.cons (.ret (.bool true (.cons (.call 5 (.cons (.var 1) (.cons (.int 2) .nil)) []) (.cons (.call 4 (.cons (.idx (.var 1) (.int 0)) (.cons (.var 0) .nil)) []) (.cons (.call 1 (.cons (.idx (.var 1) (.int 1)) (.cons (.int 1) (.cons (.int 4) .nil))) []) .nil))))) .nil))
abbrev n_good_outside : List Str := ["port_many", "outside"]
def b_check_things : SL := (.cons (.ife (.not (.val (.call 22 (.cons (.var 0) .nil) []))) (.cons .never .nil) .nil) (.cons (.ife (.not (.val (.call 23 (.cons (.var 1) .nil) []))) (.cons .never .nil) .nil) (.cons (.ife (.not (.val (.call 24 (.cons (.var 2) .nil) []))) (.cons .never .nil) .nil) (.cons (.ife (.not (.val (.call 1 (.cons (.var 3) (.cons (.int 0) (.cons (.int 2) .nil))) []))) (.cons .never .nil) .nil) (.cons (.ife (.not (.val (.call 1 (.cons (.var 4) (.cons (.int 0) (.cons (.int 3) .nil))) []))) (.cons .never .nil) .nil) (.cons (.ife (.not (.val (.call 25 (.cons (.var 5) .nil) []))) (.cons .never .nil) .nil) .nil))))))
abbrev n_check_things : List Str := ["tasks", "pages", "ports", "locks", "frames", "disk"]
def b_check_rules : SL := (.cons (.ife (.not (.val (.call 27 (.cons (.var 0) (.cons (.var 1) .nil)) []))) (.cons .never .nil) .nil) (.cons (.ife (.not (.val (.call 28 (.cons (.idx (.var 0) (.str "read")) (.cons (.var 2) .nil)) []))) (.cons .never .nil) .nil) (.cons (.ife (.not (.val (.call 29 (.cons (.var 3) .nil) []))) (.cons .never .nil) .nil) (.cons (.ife (.not (.val (.call 30 (.cons (.idx (.var 0) (.str "hand")) (.cons (.var 4) .nil)) []))) (.cons .never .nil) .nil) (.cons (.ife (.not (.val (.call 31 (.cons (.idx (.var 0) (.str "send")) (.cons (.var 5) .nil)) []))) (.cons .never .nil) .nil) .nil)))))
abbrev n_check_rules : List Str := ["limits", "rights", "lines", "costs", "plan", "outside"]
def b_check_flags : SL := (.cons (.ife (.not (.val (.call 2 (.cons (.var 0) .nil) []))) (.cons .never .nil) .nil) (.cons (.ife (.not (.val (.call 2 (.cons (.var 1) .nil) []))) (.cons .never .nil) .nil) (.cons (.ife (.not (.val (.call 2 (.cons (.var 2) .nil) []))) (.cons .never .nil) .nil) (.cons (.ife (.not (.val (.call 2 (.cons (.var 3) .nil) []))) (.cons .never .nil) .nil) .nil))))
abbrev n_check_flags : List Str := ["wipe", "pad", "lend", "share"]
def b_frozen_plan : SL := (.cons (.ife (.cmp .eq (.idx (.var 0) (.int 0)) (.str "slots")) (.cons (.ret (.tup (.cons (.str "slots") (.cons (.bcall .tuple (.cons (.idx (.var 0) (.int 1)) .nil)) .nil)))) .nil) .nil) (.cons (.ret (.var 0)) .nil))
abbrev n_frozen_plan : List Str := ["plan"]
def b_period_of : SL := (.cons (.asg (.name 2) (.int 1)) (.cons (.ife (.cmp .eq (.idx (.var 0) (.int 0)) (.str "slots")) (.cons (.asg (.name 2) (.bcall .sum (.cons (.comp true [5] (.name 5) (.seq (.idx (.var 0) (.int 1))) .nil (.idx (.var 5) (.int 1))) .nil))) .nil) .nil) (.cons (.asg (.name 3) (.int 1)) (.cons (.ife (.cmp .isnot (.var 1) .non) (.cons (.asg (.name 3) (.idx (.var 1) (.int 1))) .nil) .nil) (.cons (.asg (.name 4) (.var 2)) (.cons (.while_ (.cmp .ne (.bin .mod (.var 4) (.var 3)) (.int 0)) (.cons (.asg (.name 4) (.bin .add (.var 4) (.var 2))) .nil)) (.cons (.ret (.var 4)) .nil)))))))
abbrev n_period_of : List Str := ["plan_row", "outside_row", "total", "every", "period", "row"]
def b_Build___init__ : SL := (.cons (.expr (.call 32 (.cons (.var 1) (.cons (.var 2) (.cons (.var 3) (.cons (.var 4) (.cons (.var 5) (.cons (.var 6) .nil)))))) [])) (.cons (.asg (.name 16) (.call 26 (.cons (.bcall .len (.cons (.var 1) .nil)) (.cons (.bcall .len (.cons (.var 2) .nil)) (.cons (.bcall .len (.cons (.var 3) .nil)) (.cons (.var 4) (.cons (.var 6) .nil))))) [])) (.cons (.expr (.call 33 (.cons (.var 16) (.cons (.var 7) (.cons (.var 8) (.cons (.var 9) (.cons (.var 10) (.cons (.var 11) .nil)))))) [])) (.cons (.expr (.call 34 (.cons (.var 12) (.cons (.var 13) (.cons (.var 14) (.cons (.var 15) .nil)))) [])) (.cons (.fld (.var 0) 0 0 (.var 16)) (.cons (.fld (.var 0) 0 1 (.bcall .tuple (.cons (.var 1) .nil))) (.cons (.fld (.var 0) 0 2 (.bcall .tuple (.cons (.var 2) .nil))) (.cons (.fld (.var 0) 0 3 (.bcall .tuple (.cons (.var 3) .nil))) (.cons (.fld (.var 0) 0 4 (.var 4)) (.cons (.fld (.var 0) 0 5 (.var 5)) (.cons (.fld (.var 0) 0 6 (.var 6)) (.cons (.fld (.var 0) 0 7 (.bcall .tuple (.cons (.comp true [19] (.name 19) (.seq (.var 7)) .nil (.bcall .tuple (.cons (.var 19) .nil))) .nil))) (.cons (.fld (.var 0) 0 8 (.bcall .tuple (.cons (.var 8) .nil))) (.cons (.fld (.var 0) 0 9 (.var 9)) (.cons (.fld (.var 0) 0 10 (.call 35 (.cons (.var 10) .nil) [])) (.cons (.fld (.var 0) 0 11 (.var 11)) (.cons (.fld (.var 0) 0 12 (.var 12)) (.cons (.fld (.var 0) 0 13 (.var 13)) (.cons (.fld (.var 0) 0 14 (.var 14)) (.cons (.fld (.var 0) 0 15 (.var 15)) (.cons (.fld (.var 0) 0 16 (.bcall .tuple (.cons (.sortedset (.comp true [19] (.name 19) (.seq (.var 1)) .nil (.idx (.var 19) (.int 0)))) .nil))) (.cons (.fld (.var 0) 0 17 (.call 36 (.cons (.attr (.var 0) 0 10) (.cons (.var 11) .nil)) [])) (.cons (.fld (.var 0) 0 18 (.bin .add (.idx (.var 9) (.int 0)) (.bcall .max2 (.cons (.idx (.var 9) (.int 1)) (.cons (.bin .sub (.var 6) (.int 1)) .nil))))) (.cons (.asg (.name 17) (.tup (.cons (.attr (.var 0) 0 1) (.cons (.attr (.var 0) 0 2) (.cons (.attr (.var 0) 0 3) (.cons (.var 4) (.cons (.var 5) (.cons (.var 6) .nil)))))))) (.cons (.asg (.name 18) (.tup (.cons (.attr (.var 0) 0 7) (.cons (.attr (.var 0) 0 8) (.cons (.var 9) (.cons (.attr (.var 0) 0 10) (.cons (.var 11) .nil))))))) (.cons (.fld (.var 0) 0 19 (.tup (.cons (.var 17) (.cons (.var 18) (.cons (.tup (.cons (.var 12) (.cons (.var 13) (.cons (.var 14) (.cons (.var 15) .nil))))) .nil))))) .nil))))))))))))))))))))))))))
abbrev n_Build___init__ : List Str := ["self", "tasks", "pages", "ports", "locks", "frames", "disk", "rights", "lines", "costs", "plan", "outside", "wipe", "pad", "lend", "share", "limits", "things", "rules", "row"]
def b_Build_tasks : SL := (.cons (.ret (.bcall (.list true) (.cons (.attr (.var 0) 0 1) .nil))) .nil)
abbrev n_Build_tasks : List Str := ["self"]
def b_Build_pages : SL := (.cons (.ret (.bcall (.list true) (.cons (.attr (.var 0) 0 2) .nil))) .nil)
abbrev n_Build_pages : List Str := ["self"]
def b_Build_ports : SL := (.cons (.ret (.bcall (.list true) (.cons (.attr (.var 0) 0 3) .nil))) .nil)
abbrev n_Build_ports : List Str := ["self"]
def b_Build_locks : SL := (.cons (.ret (.attr (.var 0) 0 4)) .nil)
abbrev n_Build_locks : List Str := ["self"]
def b_Build_frames : SL := (.cons (.ret (.attr (.var 0) 0 5)) .nil)
abbrev n_Build_frames : List Str := ["self"]
def b_Build_disk : SL := (.cons (.ret (.attr (.var 0) 0 6)) .nil)
abbrev n_Build_disk : List Str := ["self"]
def b_Build_rights : SL := (.cons (.ret (.comp true [1] (.name 1) (.seq (.attr (.var 0) 0 7)) .nil (.bcall (.list true) (.cons (.var 1) .nil)))) .nil)
abbrev n_Build_rights : List Str := ["self", "row"]
def b_Build_lines : SL := (.cons (.ret (.bcall (.list true) (.cons (.attr (.var 0) 0 8) .nil))) .nil)
abbrev n_Build_lines : List Str := ["self"]
def b_Build_costs : SL := (.cons (.ret (.attr (.var 0) 0 9)) .nil)
abbrev n_Build_costs : List Str := ["self"]
def b_Build_plan : SL := (.cons (.ife (.cmp .eq (.idx (.attr (.var 0) 0 10) (.int 0)) (.str "slots")) (.cons (.ret (.tup (.cons (.str "slots") (.cons (.bcall (.list true) (.cons (.idx (.attr (.var 0) 0 10) (.int 1)) .nil)) .nil)))) .nil) .nil) (.cons (.ret (.attr (.var 0) 0 10)) .nil))
abbrev n_Build_plan : List Str := ["self"]
def b_Build_outside : SL := (.cons (.ret (.attr (.var 0) 0 11)) .nil)
abbrev n_Build_outside : List Str := ["self"]
def b_Build_wipe : SL := (.cons (.ret (.attr (.var 0) 0 12)) .nil)
abbrev n_Build_wipe : List Str := ["self"]
def b_Build_pad : SL := (.cons (.ret (.attr (.var 0) 0 13)) .nil)
abbrev n_Build_pad : List Str := ["self"]
def b_Build_lend : SL := (.cons (.ret (.attr (.var 0) 0 14)) .nil)
abbrev n_Build_lend : List Str := ["self"]
def b_Build_share : SL := (.cons (.ret (.attr (.var 0) 0 15)) .nil)
abbrev n_Build_share : List Str := ["self"]
def b_Build_sides : SL := (.cons (.ret (.bcall (.list true) (.cons (.attr (.var 0) 0 16) .nil))) .nil)
abbrev n_Build_sides : List Str := ["self"]
def b_Work___init__ : SL := (.cons (.asg (.tup (.cons (.name 3) (.cons (.name 4) (.cons (.name 5) (.cons (.name 6) (.cons (.name 7) (.cons (.name 8) (.cons (.name 9) (.cons (.name 10) (.cons (.name 11) (.cons (.name 12) .nil))))))))))) (.var 2)) (.cons (.fld (.var 0) 1 0 (.var 1)) (.cons (.fld (.var 0) 1 1 (.bcall (.list false) (.cons (.var 3) .nil))) (.cons (.fld (.var 0) 1 2 (.bcall (.list false) (.cons (.var 4) .nil))) (.cons (.fld (.var 0) 1 3 (.bcall (.list false) (.cons (.var 5) .nil))) (.cons (.fld (.var 0) 1 4 (.bcall (.list false) (.cons (.var 6) .nil))) (.cons (.fld (.var 0) 1 5 (.bcall (.list false) (.cons (.var 7) .nil))) (.cons (.fld (.var 0) 1 6 (.bcall (.list false) (.cons (.var 8) .nil))) (.cons (.fld (.var 0) 1 7 (.bcall (.list false) (.cons (.var 9) .nil))) (.cons (.fld (.var 0) 1 8 (.bcall (.list false) (.cons (.var 10) .nil))) (.cons (.fld (.var 0) 1 9 (.var 11)) (.cons (.asg (.tup (.cons (.fld (.var 0) 1 10) (.cons (.fld (.var 0) 1 11) (.cons (.fld (.var 0) 1 12) (.cons (.fld (.var 0) 1 13) .nil))))) (.var 12)) .nil))))))))))))
abbrev n_Work___init__ : List Str := ["self", "build", "shape", "statuses", "answers", "rights", "frames", "pages", "ports", "locks", "lines", "head", "running"]
def b_Work_wake : SL := (.cons (.asg (.sub (.attr (.var 0) 1 1) (.var 1)) (.tup (.cons (.str "ready") .nil))) (.cons (.asg (.sub (.attr (.var 0) 1 2) (.var 1)) (.var 2)) .nil))
abbrev n_Work_wake : List Str := ["self", "task", "answer"]
def b_Work_ready_tasks : SL := (.cons (.ret (.comp true [1] (.name 1) (.range1 (.bcall .len (.cons (.attr (.var 0) 1 1) .nil))) (.cons (.cmp .eq (.idx (.attr (.var 0) 1 1) (.var 1)) (.tup (.cons (.str "ready") .nil))) .nil) (.var 1))) .nil)
abbrev n_Work_ready_tasks : List Str := ["self", "task"]
def b_Work_first_waiting : SL := (.cons (.for_ (.name 2) (.range1 (.bcall .len (.cons (.attr (.var 0) 1 1) .nil))) (.cons (.ife (.cmp .eq (.idx (.attr (.var 0) 1 1) (.var 2)) (.tup (.cons (.str "waits") (.cons (.var 1) .nil)))) (.cons (.ret (.var 2)) .nil) .nil) .nil)) (.cons (.ret .non) .nil))
abbrev n_Work_first_waiting : List Str := ["self", "port", "task"]
def b_Work_shape_now : SL := (.cons (.ret (.tup (.cons (.bcall .tuple (.cons (.attr (.var 0) 1 1) .nil)) (.cons (.bcall .tuple (.cons (.attr (.var 0) 1 2) .nil)) (.cons (.bcall .tuple (.cons (.attr (.var 0) 1 3) .nil)) (.cons (.bcall .tuple (.cons (.attr (.var 0) 1 4) .nil)) (.cons (.bcall .tuple (.cons (.attr (.var 0) 1 5) .nil)) (.cons (.bcall .tuple (.cons (.attr (.var 0) 1 6) .nil)) (.cons (.bcall .tuple (.cons (.attr (.var 0) 1 7) .nil)) (.cons (.bcall .tuple (.cons (.attr (.var 0) 1 8) .nil)) (.cons (.attr (.var 0) 1 9) (.cons (.tup (.cons (.attr (.var 0) 1 10) (.cons (.attr (.var 0) 1 11) (.cons (.attr (.var 0) 1 12) (.cons (.attr (.var 0) 1 13) .nil))))) .nil)))))))))))) .nil)
abbrev n_Work_shape_now : List Str := ["self"]
def b_deliver : SL := (.cons (.asg (.name 3) (.meth 59 1 (.var 0) (.cons (.var 1) .nil) [])) (.cons (.ife (.cmp .isnot (.var 3) .non) (.cons (.expr (.meth 57 1 (.var 0) (.cons (.var 3) (.cons (.bcall .str (.cons (.var 2) .nil)) .nil)) [])) .nil) (.cons (.ife (.cmp .lt (.bcall .len (.cons (.idx (.attr (.var 0) 1 6) (.var 1)) .nil)) (.idx (.attr (.attr (.var 0) 1 0) 0 3) (.var 1))) (.cons (.asg (.sub (.attr (.var 0) 1 6) (.var 1)) (.bin .add (.idx (.attr (.var 0) 1 6) (.var 1)) (.tup (.cons (.var 2) .nil)))) .nil) .nil) .nil)) .nil))
abbrev n_deliver : List Str := ["work", "port", "letter", "task"]
def b_sleep_on : SL := (.cons (.for_ (.name 1) (.range1 (.bcall .len (.cons (.attr (.var 0) 1 1) .nil))) (.cons (.asg (.name 2) (.idx (.attr (.var 0) 1 1) (.var 1))) (.cons (.ife (.cmp .eq (.idx (.var 2) (.int 0)) (.str "asleep")) (.cons (.ife (.cmp .gt (.idx (.var 2) (.int 1)) (.int 1)) (.cons (.asg (.sub (.attr (.var 0) 1 1) (.var 1)) (.tup (.cons (.str "asleep") (.cons (.bin .sub (.idx (.var 2) (.int 1)) (.int 1)) .nil)))) .nil) (.cons (.expr (.meth 57 1 (.var 0) (.cons (.var 1) (.cons (.str "yes") .nil)) [])) .nil)) .nil) .nil) .nil))) .nil)
abbrev n_sleep_on : List Str := ["work", "task", "status"]
def b_call_cost : SL := (.cons (.asg (.name 3) (.attr (.var 0) 1 0)) (.cons (.ife (.val (.attr (.var 3) 0 13)) (.cons (.ret (.attr (.var 3) 0 18)) .nil) .nil) (.cons (.asg (.name 4) (.idx (.attr (.var 3) 0 9) (.int 0))) (.cons (.asg (.name 5) (.idx (.attr (.var 0) 1 3) (.var 1))) (.cons (.ife (.bool true (.cons (.cmp .in_ (.idx (.var 2) (.int 0)) (.tup (.cons (.str "read") (.cons (.str "write") .nil)))) (.cons (.cmp .in_ (.tup (.cons (.idx (.var 2) (.int 0)) (.cons (.idx (.var 2) (.int 1)) .nil))) (.var 5)) .nil))) (.cons (.asg (.name 6) (.idx (.attr (.var 3) 0 8) (.idx (.var 2) (.int 1)))) (.cons (.ife (.bool false (.cons (.cmp .is_ (.var 6) .non) (.cons (.cmp .ne (.idx (.attr (.var 0) 1 8) (.var 6)) (.idx (.var 2) (.int 1))) .nil))) (.cons (.ret (.bin .add (.var 4) (.idx (.attr (.var 3) 0 9) (.int 1)))) .nil) .nil) .nil)) .nil) (.cons (.ife (.bool true (.cons (.cmp .eq (.idx (.var 2) (.int 0)) (.str "seek")) (.cons (.cmp .in_ (.tup (.cons (.str "seek") (.cons (.int 0) .nil))) (.var 5)) .nil))) (.cons (.ret (.bin .add (.var 4) (.bcall .abs (.cons (.bin .sub (.attr (.var 0) 1 9) (.idx (.var 2) (.int 1))) .nil)))) .nil) .nil) (.cons (.ret (.var 4)) .nil)))))))
abbrev n_call_cost : List Str := ["work", "task", "call", "build", "plain", "rights", "line"]
def b_page_answer : SL := (.cons (.asg (.name 3) (.idx (.var 2) (.int 1))) (.cons (.ife (.cmp .notin (.tup (.cons (.idx (.var 2) (.int 0)) (.cons (.var 3) .nil))) (.idx (.attr (.var 0) 1 3) (.var 1))) (.cons (.ret (.str "no")) .nil) .nil) (.cons (.asg (.name 4) (.idx (.attr (.attr (.var 0) 1 0) 0 8) (.var 3))) (.cons (.ife (.cmp .isnot (.var 4) .non) (.cons (.asg (.sub (.attr (.var 0) 1 8) (.var 4)) (.var 3)) .nil) .nil) (.cons (.ife (.cmp .eq (.idx (.var 2) (.int 0)) (.str "read")) (.cons (.ret (.bcall .str (.cons (.idx (.attr (.var 0) 1 5) (.var 3)) .nil))) .nil) .nil) (.cons (.asg (.sub (.attr (.var 0) 1 5) (.var 3)) (.idx (.var 2) (.int 2))) (.cons (.ret (.str "yes")) .nil)))))))
abbrev n_page_answer : List Str := ["work", "task", "call", "page", "line"]
def b_send_answer : SL := (.cons (.asg (.name 3) (.idx (.var 2) (.int 1))) (.cons (.ife (.cmp .notin (.tup (.cons (.str "send") (.cons (.var 3) .nil))) (.idx (.attr (.var 0) 1 3) (.var 1))) (.cons (.ret (.str "no")) .nil) .nil) (.cons (.asg (.name 4) (.cmp .ge (.bcall .len (.cons (.idx (.attr (.var 0) 1 6) (.var 3)) .nil)) (.idx (.attr (.attr (.var 0) 1 0) 0 3) (.var 3)))) (.cons (.ife (.bool true (.cons (.val (.var 4)) (.cons (.cmp .is_ (.meth 59 1 (.var 0) (.cons (.var 3) .nil) []) .non) .nil))) (.cons (.ret (.str "no")) .nil) .nil) (.cons (.expr (.call 61 (.cons (.var 0) (.cons (.var 3) (.cons (.idx (.var 2) (.int 2)) .nil))) [])) (.cons (.ret (.str "yes")) .nil))))))
abbrev n_send_answer : List Str := ["work", "task", "call", "port", "full"]
def b_take_answer : SL := (.cons (.asg (.name 3) (.idx (.var 2) (.int 1))) (.cons (.ife (.cmp .notin (.tup (.cons (.str "take") (.cons (.var 3) .nil))) (.idx (.attr (.var 0) 1 3) (.var 1))) (.cons (.ret (.str "no")) .nil) .nil) (.cons (.asg (.name 4) (.idx (.attr (.var 0) 1 6) (.var 3))) (.cons (.ife (.cmp .gt (.bcall .len (.cons (.var 4) .nil)) (.int 0)) (.cons (.asg (.sub (.attr (.var 0) 1 6) (.var 3)) (.slice (.var 4) (.some (.int 1)) .none)) (.cons (.ret (.bcall .str (.cons (.idx (.var 4) (.int 0)) .nil))) .nil)) .nil) (.cons (.ife (.cmp .eq (.idx (.var 2) (.int 0)) (.str "take")) (.cons (.ret (.str "empty")) .nil) .nil) (.cons (.asg (.sub (.attr (.var 0) 1 1) (.var 1)) (.tup (.cons (.str "waits") (.cons (.var 3) .nil)))) (.cons (.ret .non) .nil)))))))
abbrev n_take_answer : List Str := ["work", "task", "call", "port", "letters"]
def b_lock_answer : SL := (.cons (.asg (.name 3) (.idx (.var 2) (.int 1))) (.cons (.asg (.tup (.cons (.name 4) (.cons (.name 5) .nil))) (.idx (.attr (.var 0) 1 7) (.var 3))) (.cons (.ife (.bool false (.cons (.cmp .notin (.tup (.cons (.str "lock") (.cons (.var 3) .nil))) (.idx (.attr (.var 0) 1 3) (.var 1))) (.cons (.cmp .eq (.var 4) (.var 1)) .nil))) (.cons (.ret (.str "no")) .nil) .nil) (.cons (.ife (.cmp .is_ (.var 4) .non) (.cons (.asg (.sub (.attr (.var 0) 1 7) (.var 3)) (.tup (.cons (.var 1) (.cons (.var 5) .nil)))) (.cons (.ret (.str "yes")) .nil)) .nil) (.cons (.asg (.sub (.attr (.var 0) 1 7) (.var 3)) (.tup (.cons (.var 4) (.cons (.bin .add (.var 5) (.tup (.cons (.var 1) .nil))) .nil)))) (.cons (.asg (.sub (.attr (.var 0) 1 1) (.var 1)) (.tup (.cons (.str "locked") (.cons (.var 3) .nil)))) (.cons (.ret .non) .nil)))))))
abbrev n_lock_answer : List Str := ["work", "task", "call", "lock", "holder", "waiting"]
def b_free_answer : SL := (.cons (.asg (.name 3) (.idx (.var 2) (.int 1))) (.cons (.asg (.tup (.cons (.name 4) (.cons (.name 5) .nil))) (.idx (.attr (.var 0) 1 7) (.var 3))) (.cons (.ife (.cmp .ne (.var 4) (.var 1)) (.cons (.ret (.str "no")) .nil) .nil) (.cons (.ife (.cmp .eq (.bcall .len (.cons (.var 5) .nil)) (.int 0)) (.cons (.asg (.sub (.attr (.var 0) 1 7) (.var 3)) (.tup (.cons .non (.cons (.tup .nil) .nil)))) .nil) (.cons (.asg (.sub (.attr (.var 0) 1 7) (.var 3)) (.tup (.cons (.idx (.var 5) (.int 0)) (.cons (.slice (.var 5) (.some (.int 1)) .none) .nil)))) (.cons (.expr (.meth 57 1 (.var 0) (.cons (.idx (.var 5) (.int 0)) (.cons (.str "yes") .nil)) [])) .nil))) (.cons (.ret (.str "yes")) .nil)))))
abbrev n_free_answer : List Str := ["work", "task", "call", "lock", "holder", "waiting"]
def b_hand_answer : SL := (.cons (.asg (.tup (.cons (.name 5) (.cons (.name 6) .nil))) (.tup (.cons (.idx (.var 2) (.int 1)) (.cons (.idx (.var 2) (.int 2)) .nil)))) (.cons (.asg (.name 3) (.idx (.attr (.var 0) 1 3) (.var 1))) (.cons (.ife (.bool false (.cons (.cmp .notin (.tup (.cons (.str "hand") (.cons (.var 5) .nil))) (.var 3)) (.cons (.cmp .notin (.var 6) (.var 3)) .nil))) (.cons (.ret (.str "no")) .nil) .nil) (.cons (.asg (.name 4) (.idx (.attr (.var 0) 1 3) (.var 5))) (.cons (.ife (.cmp .notin (.var 6) (.var 4)) (.cons .never .nil) .nil) (.cons (.ret (.str "yes")) .nil))))))
abbrev n_hand_answer : List Str := ["work", "task", "call", "rights", "theirs", "other", "right"]
def b_strip_answer : SL := (.cons (.asg (.tup (.cons (.name 4) (.cons (.name 5) .nil))) (.tup (.cons (.idx (.var 2) (.int 1)) (.cons (.idx (.var 2) (.int 2)) .nil)))) (.cons (.asg (.name 3) (.idx (.attr (.var 0) 1 3) (.var 4))) (.cons (.ife (.bool false (.cons (.cmp .notin (.tup (.cons (.str "strip") (.cons (.var 4) .nil))) (.idx (.attr (.var 0) 1 3) (.var 1))) (.cons (.cmp .notin (.var 5) (.var 3)) .nil))) (.cons (.ret (.str "no")) .nil) .nil) (.cons (.asg (.sub (.attr (.var 0) 1 3) (.var 4)) (.bcall .tuple (.cons (.comp true [6] (.name 6) (.seq (.var 3)) (.cons (.cmp .ne (.var 6) (.var 5)) .nil) (.var 6)) .nil))) (.cons (.ret (.str "yes")) .nil)))))
abbrev n_strip_answer : List Str := ["work", "task", "call", "theirs", "other", "right", "one"]
def b_seek_answer : SL := (.cons (.ife (.cmp .notin (.tup (.cons (.str "seek") (.cons (.int 0) .nil))) (.idx (.attr (.var 0) 1 3) (.var 1))) (.cons (.ret (.str "no")) .nil) .nil) (.cons (.fld (.var 0) 1 9 (.idx (.var 2) (.int 1))) (.cons (.ret (.str "yes")) .nil)))
abbrev n_seek_answer : List Str := ["work", "task", "call"]
def b_get_answer : SL := (.cons (.asg (.name 2) (.attr (.var 0) 1 0)) (.cons (.asg (.name 3) (.attr (.var 0) 1 4)) (.cons (.ife (.cmp .ge (.bcall .sum (.cons (.var 3) .nil)) (.attr (.var 2) 0 5)) (.cons (.ret (.str "no")) .nil) .nil) (.cons (.ife (.val (.attr (.var 2) 0 15)) (.cons (.asg (.name 4) (.idx (.idx (.attr (.var 2) 0 1) (.var 1)) (.int 0))) (.cons (.asg (.name 5) (.bcall .sum (.cons (.comp true [6] (.name 6) (.range1 (.bcall .len (.cons (.var 3) .nil))) (.cons (.cmp .eq (.idx (.idx (.attr (.var 2) 0 1) (.var 6)) (.int 0)) (.var 4)) .nil) (.idx (.var 3) (.var 6))) .nil))) (.cons (.ife (.cmp .ge (.var 5) (.bin .fdiv (.attr (.var 2) 0 5) (.bcall .len (.cons (.attr (.var 2) 0 16) .nil)))) (.cons (.ret (.str "no")) .nil) .nil) .nil))) .nil) (.cons (.asg (.sub (.var 3) (.var 1)) (.bin .add (.idx (.var 3) (.var 1)) (.int 1))) (.cons (.ret (.str "yes")) .nil))))))
abbrev n_get_answer : List Str := ["work", "task", "build", "counts", "side", "held", "one"]
def b_give_answer : SL := (.cons (.ife (.cmp .eq (.idx (.attr (.var 0) 1 4) (.var 1)) (.int 0)) (.cons (.ret (.str "no")) .nil) .nil) (.cons (.asg (.sub (.attr (.var 0) 1 4) (.var 1)) (.bin .sub (.idx (.attr (.var 0) 1 4) (.var 1)) (.int 1))) (.cons (.ret (.str "yes")) .nil)))
abbrev n_give_answer : List Str := ["work", "task"]
def b_object_answer : SL := (.cons (.ife (.cmp .in_ (.idx (.var 2) (.int 0)) (.tup (.cons (.str "read") (.cons (.str "write") .nil)))) (.cons (.ret (.call 64 (.cons (.var 0) (.cons (.var 1) (.cons (.var 2) .nil))) [])) .nil) .nil) (.cons (.ife (.cmp .eq (.idx (.var 2) (.int 0)) (.str "send")) (.cons (.ret (.call 65 (.cons (.var 0) (.cons (.var 1) (.cons (.var 2) .nil))) [])) .nil) .nil) (.cons (.ife (.cmp .in_ (.idx (.var 2) (.int 0)) (.tup (.cons (.str "take") (.cons (.str "wait") .nil)))) (.cons (.ret (.call 66 (.cons (.var 0) (.cons (.var 1) (.cons (.var 2) .nil))) [])) .nil) .nil) (.cons (.ife (.cmp .eq (.idx (.var 2) (.int 0)) (.str "lock")) (.cons (.ret (.call 67 (.cons (.var 0) (.cons (.var 1) (.cons (.var 2) .nil))) [])) .nil) .nil) (.cons (.ret (.call 68 (.cons (.var 0) (.cons (.var 1) (.cons (.var 2) .nil))) [])) .nil)))))
abbrev n_object_answer : List Str := ["work", "task", "call"]
def b_answer_of : SL := (.cons (.ife (.cmp .in_ (.idx (.var 2) (.int 0)) (.tup (.cons (.str "read") (.cons (.str "write") (.cons (.str "send") (.cons (.str "take") (.cons (.str "wait") (.cons (.str "lock") (.cons (.str "free") .nil))))))))) (.cons (.ret (.call 74 (.cons (.var 0) (.cons (.var 1) (.cons (.var 2) .nil))) [])) .nil) .nil) (.cons (.ife (.cmp .eq (.idx (.var 2) (.int 0)) (.str "hand")) (.cons (.ret (.call 69 (.cons (.var 0) (.cons (.var 1) (.cons (.var 2) .nil))) [])) .nil) .nil) (.cons (.ife (.cmp .eq (.idx (.var 2) (.int 0)) (.str "strip")) (.cons (.ret (.call 70 (.cons (.var 0) (.cons (.var 1) (.cons (.var 2) .nil))) [])) .nil) .nil) (.cons (.ife (.cmp .eq (.idx (.var 2) (.int 0)) (.str "seek")) (.cons (.ret (.call 71 (.cons (.var 0) (.cons (.var 1) (.cons (.var 2) .nil))) [])) .nil) .nil) (.cons (.ife (.cmp .eq (.idx (.var 2) (.int 0)) (.str "get")) (.cons (.ret (.call 72 (.cons (.var 0) (.cons (.var 1) .nil)) [])) .nil) .nil) (.cons (.ife (.cmp .eq (.idx (.var 2) (.int 0)) (.str "give")) (.cons (.ret (.call 73 (.cons (.var 0) (.cons (.var 1) .nil)) [])) .nil) .nil) (.cons (.ife (.cmp .eq (.idx (.var 2) (.int 0)) (.str "sleep")) (.cons (.asg (.sub (.attr (.var 0) 1 1) (.var 1)) (.tup (.cons (.str "asleep") (.cons (.idx (.var 2) (.int 1)) .nil)))) (.cons (.ret .non) .nil)) .nil) (.cons (.ret (.str "yes")) .nil))))))))
abbrev n_answer_of : List Str := ["work", "task", "call"]
def b_make_call : SL := (.cons (.asg (.name 3) (.call 63 (.cons (.var 0) (.cons (.var 1) (.cons (.var 2) .nil))) [])) (.cons (.asg (.sub (.attr (.var 0) 1 2) (.var 1)) .non) (.cons (.asg (.name 4) (.call 75 (.cons (.var 0) (.cons (.var 1) (.cons (.var 2) .nil))) [])) (.cons (.asg (.sub (.attr (.var 0) 1 2) (.var 1)) (.var 4)) (.cons (.fld (.var 0) 1 12 (.var 3)) (.cons (.ife (.cmp .eq (.idx (.attr (.attr (.var 0) 1 0) 0 10) (.int 0)) (.str "levels")) (.cons (.fld (.var 0) 1 11 (.bin .add (.attr (.var 0) 1 11) (.var 3))) .nil) .nil) .nil))))))
abbrev n_make_call : List Str := ["work", "task", "call", "cost", "answer"]
def b_slot_at : SL := (.cons (.asg (.name 2) (.idx (.attr (.var 0) 0 10) (.int 1))) (.cons (.asg (.name 3) (.bin .mod (.var 1) (.bcall .sum (.cons (.comp true [5, 6] (.tup (.cons (.name 5) (.cons (.name 6) .nil))) (.seq (.var 2)) .nil (.var 6)) .nil)))) (.cons (.asg (.name 4) (.int 0)) (.cons (.while_ (.cmp .ge (.var 3) (.idx (.idx (.var 2) (.var 4)) (.int 1))) (.cons (.asg (.name 3) (.bin .sub (.var 3) (.idx (.idx (.var 2) (.var 4)) (.int 1)))) (.cons (.asg (.name 4) (.bin .add (.var 4) (.int 1))) .nil))) (.cons (.ret (.tup (.cons (.idx (.idx (.var 2) (.var 4)) (.int 0)) (.cons (.var 3) (.cons (.idx (.idx (.var 2) (.var 4)) (.int 1)) .nil))))) .nil)))))
abbrev n_slot_at : List Str := ["build", "phase", "rows", "gone", "at", "task", "ticks"]
def b_lenders : SL := (.cons (.asg (.name 2) (.lst false (.cons (.var 1) .nil))) (.cons (.asg (.name 3) (.int 0)) (.cons (.while_ (.cmp .lt (.var 3) (.bcall .len (.cons (.var 2) .nil))) (.cons (.for_ (.tup (.cons (.name 4) (.cons (.name 5) .nil))) (.seq (.attr (.var 0) 1 7)) (.cons (.ife (.cmp .eq (.var 4) (.idx (.var 2) (.var 3))) (.cons (.for_ (.name 6) (.seq (.var 5)) (.cons (.ife (.cmp .notin (.var 6) (.var 2)) (.cons (.expr (.bmeth .append (.var 2) (.cons (.var 6) .nil))) .nil) .nil) .nil)) .nil) .nil) .nil)) (.cons (.asg (.name 3) (.bin .add (.var 3) (.int 1))) .nil))) (.cons (.ret (.frz (.var 2))) .nil))))
abbrev n_lenders : List Str := ["work", "task", "known", "at", "holder", "waiting", "other"]
def b_level_of : SL := (.cons (.asg (.name 2) (.attr (.attr (.var 0) 1 0) 0 1)) (.cons (.ife (.not (.val (.attr (.attr (.var 0) 1 0) 0 14))) (.cons (.ret (.idx (.idx (.var 2) (.var 1)) (.int 1))) .nil) .nil) (.cons (.ret (.bcall .max1 (.cons (.comp true [3] (.name 3) (.seq (.call 78 (.cons (.var 0) (.cons (.var 1) .nil)) [])) .nil (.idx (.idx (.var 2) (.var 3)) (.int 1))) .nil))) .nil)))
abbrev n_level_of : List Str := ["work", "task", "rows", "one"]
def b_change : SL := (.cons (.asg (.name 2) (.attr (.attr (.var 0) 1 0) 0 1)) (.cons (.asg (.name 3) (.attr (.var 0) 1 10)) (.cons (.ife (.val (.attr (.attr (.var 0) 1 0) 0 12)) (.cons (.ife (.bool false (.cons (.cmp .is_ (.var 3) .non) (.cons (.cmp .ne (.idx (.idx (.var 2) (.var 3)) (.int 0)) (.idx (.idx (.var 2) (.var 1)) (.int 0))) .nil))) (.cons (.fld (.var 0) 1 8 (.lst false (.cons .non (.cons .non .nil)))) .nil) .nil) .nil) .nil) (.cons (.fld (.var 0) 1 10 (.var 1)) (.cons (.fld (.var 0) 1 11 (.int 0)) .nil)))))
abbrev n_change : List Str := ["work", "task", "rows", "before"]
def b_chosen_candidate : SL := (.cons (.ife (.cmp .isnot (.var 1) .non) (.cons (.for_ (.name 2) (.seq (.var 0)) (.cons (.ife (.cmp .gt (.var 2) (.var 1)) (.cons (.ret (.var 2)) .nil) .nil) .nil)) .nil) .nil) (.cons (.ret (.idx (.var 0) (.int 0))) .nil))
abbrev n_chosen_candidate : List Str := ["candidates", "runner", "task"]
def b_turn_by_levels : SL := (.cons (.asg (.name 1) (.meth 58 1 (.var 0) .nil [])) (.cons (.ife (.cmp .eq (.bcall .len (.cons (.var 1) .nil)) (.int 0)) (.cons (.fld (.var 0) 1 10 .non) (.cons (.fld (.var 0) 1 11 (.int 0)) (.cons (.ret .non) .nil))) .nil) (.cons (.asg (.name 2) (.bcall .max1 (.cons (.comp true [4] (.name 4) (.seq (.var 1)) .nil (.call 79 (.cons (.var 0) (.cons (.var 4) .nil)) [])) .nil))) (.cons (.setc 3 true [4] (.name 4) (.seq (.var 1)) (.cons (.cmp .eq (.call 79 (.cons (.var 0) (.cons (.var 4) .nil)) []) (.var 2)) .nil) (.var 4)) (.cons (.ife (.bool true (.cons (.cmp .in_ (.attr (.var 0) 1 10) (.var 3)) (.cons (.cmp .lt (.attr (.var 0) 1 11) (.idx (.attr (.attr (.var 0) 1 0) 0 10) (.int 1))) .nil))) (.cons (.ret (.attr (.var 0) 1 10)) .nil) .nil) (.cons (.asg (.name 4) (.call 81 (.cons (.var 3) (.cons (.attr (.var 0) 1 10) .nil)) [])) (.cons (.ife (.cmp .eq (.var 4) (.attr (.var 0) 1 10)) (.cons (.fld (.var 0) 1 11 (.int 0)) (.cons (.ret (.var 4)) .nil)) .nil) (.cons (.expr (.call 80 (.cons (.var 0) (.cons (.var 4) .nil)) [])) (.cons (.asg (.name 5) (.idx (.attr (.attr (.var 0) 1 0) 0 9) (.int 2))) (.cons (.ife (.cmp .gt (.var 5) (.int 0)) (.cons (.fld (.var 0) 1 12 (.var 5)) (.cons (.ret .non) .nil)) .nil) (.cons (.ret (.var 4)) .nil)))))))))))
abbrev n_turn_by_levels : List Str := ["work", "ready", "greatest", "candidates", "task", "switch"]
def b_turn_by_slots : SL := (.cons (.asg (.tup (.cons (.name 1) (.cons (.name 2) (.cons (.name 3) .nil)))) (.call 77 (.cons (.attr (.var 0) 1 0) (.cons (.attr (.var 0) 1 13) .nil)) [])) (.cons (.ife (.bool true (.cons (.cmp .eq (.var 2) (.int 0)) (.cons (.cmp .ne (.attr (.var 0) 1 10) (.var 1)) .nil))) (.cons (.expr (.call 80 (.cons (.var 0) (.cons (.var 1) .nil)) [])) .nil) .nil) (.cons (.ife (.cmp .ne (.idx (.attr (.var 0) 1 1) (.var 1)) (.tup (.cons (.str "ready") .nil))) (.cons (.ret .non) .nil) .nil) (.cons (.ife (.bool false (.cons (.cmp .lt (.var 2) (.idx (.attr (.attr (.var 0) 1 0) 0 9) (.int 2))) (.cons (.cmp .lt (.bin .sub (.var 3) (.var 2)) (.attr (.attr (.var 0) 1 0) 0 18)) .nil))) (.cons (.ret .non) .nil) .nil) (.cons (.ret (.var 1)) .nil)))))
abbrev n_turn_by_slots : List Str := ["work", "task", "gone", "ticks"]
def b_turn : SL := (.cons (.ife (.cmp .gt (.attr (.var 0) 1 12) (.int 0)) (.cons (.ret .non) .nil) .nil) (.cons (.ife (.cmp .eq (.idx (.attr (.attr (.var 0) 1 0) 0 10) (.int 0)) (.str "levels")) (.cons (.ret (.call 82 (.cons (.var 0) .nil) [])) .nil) .nil) (.cons (.ret (.call 83 (.cons (.var 0) .nil) [])) .nil)))
abbrev n_turn : List Str := ["work"]
def b_opened : SL := (.cons (.asg (.name 3) (.make 0 55 1 14 [] (.cons (.var 0) (.cons (.var 1) .nil)) .nil)) (.cons (.ife (.cmp .isnot (.var 2) .non) (.cons (.expr (.call 61 (.cons (.var 3) (.cons (.idx (.attr (.var 0) 0 11) (.int 0)) (.cons (.var 2) .nil))) [])) .nil) .nil) (.cons (.expr (.call 62 (.cons (.var 3) .nil) [])) (.cons (.ife (.cmp .gt (.attr (.var 3) 1 12) (.int 0)) (.cons (.fld (.var 3) 1 12 (.bin .sub (.attr (.var 3) 1 12) (.int 1))) .nil) .nil) (.cons (.ret (.tup (.cons (.var 3) (.cons (.call 84 (.cons (.var 3) .nil) []) .nil)))) .nil)))))
abbrev n_opened : List Str := ["build", "shape", "outside", "work"]
def b_closed : SL := (.cons (.asg (.name 3) .non) (.cons (.ife (.cmp .isnot (.var 1) .non) (.cons (.asg (.name 3) (.tup (.cons (.var 1) (.cons (.idx (.attr (.var 0) 1 2) (.var 1)) .nil)))) (.cons (.expr (.call 76 (.cons (.var 0) (.cons (.var 1) (.cons (.var 2) .nil))) [])) .nil)) .nil) (.cons (.fld (.var 0) 1 13 (.bin .mod (.bin .add (.attr (.var 0) 1 13) (.int 1)) (.attr (.attr (.var 0) 1 0) 0 17))) (.cons (.ret (.tup (.cons (.var 3) (.cons (.meth 60 1 (.var 0) .nil []) .nil)))) .nil))))
abbrev n_closed : List Str := ["work", "task", "call", "seen"]
def b_calls_of_right : SL := (.cons (.asg (.tup (.cons (.name 3) (.cons (.name 4) .nil))) (.var 2)) (.cons (.ife (.cmp .eq (.var 3) (.str "read")) (.cons (.ret (.lst true (.cons (.tup (.cons (.str "read") (.cons (.var 4) .nil))) .nil))) .nil) .nil) (.cons (.ife (.cmp .in_ (.var 3) (.tup (.cons (.str "write") (.cons (.str "send") .nil)))) (.cons (.ret (.lst true (.cons (.tup (.cons (.var 3) (.cons (.var 4) (.cons (.int 0) .nil)))) (.cons (.tup (.cons (.var 3) (.cons (.var 4) (.cons (.int 1) .nil)))) .nil)))) .nil) .nil) (.cons (.ife (.cmp .eq (.var 3) (.str "take")) (.cons (.ret (.lst true (.cons (.tup (.cons (.str "take") (.cons (.var 4) .nil))) (.cons (.tup (.cons (.str "wait") (.cons (.var 4) .nil))) .nil)))) .nil) .nil) (.cons (.ife (.cmp .eq (.var 3) (.str "lock")) (.cons (.ret (.lst true (.cons (.tup (.cons (.str "lock") (.cons (.var 4) .nil))) (.cons (.tup (.cons (.str "free") (.cons (.var 4) .nil))) .nil)))) .nil) .nil) (.cons (.ife (.cmp .eq (.var 3) (.str "hand")) (.cons (.ret (.comp true [6] (.name 6) (.seq (.idx (.attr (.var 0) 1 3) (.var 1))) .nil (.tup (.cons (.str "hand") (.cons (.var 4) (.cons (.var 6) .nil)))))) .nil) .nil) (.cons (.ife (.cmp .eq (.var 3) (.str "strip")) (.cons (.ret (.comp true [7] (.name 7) (.seq (.idx (.attr (.var 0) 1 3) (.var 4))) .nil (.tup (.cons (.str "strip") (.cons (.var 4) (.cons (.var 7) .nil)))))) .nil) .nil) (.cons (.ret (.comp true [5] (.name 5) (.range1 (.attr (.attr (.var 0) 1 0) 0 6)) .nil (.tup (.cons (.str "seek") (.cons (.var 5) .nil))))) .nil))))))))
abbrev n_calls_of_right : List Str := ["work", "task", "right", "word", "index", "place", "own", "theirs"]
def b_calls_worth_trying : SL := (.cons (.asg (.name 2) (.idx (.attr (.var 0) 1 3) (.var 1))) (.cons (.asg (.name 3) (.lst false .nil)) (.cons (.for_ (.name 4) (.seq (.var 2)) (.cons (.expr (.bmeth .extend (.var 3) (.cons (.call 87 (.cons (.var 0) (.cons (.var 1) (.cons (.var 4) .nil))) []) .nil))) .nil)) (.cons (.ife (.cmp .gt (.attr (.attr (.var 0) 1 0) 0 5) (.int 0)) (.cons (.expr (.bmeth .append (.var 3) (.cons (.tup (.cons (.str "get") .nil)) .nil))) (.cons (.ife (.cmp .gt (.idx (.attr (.var 0) 1 4) (.var 1)) (.int 0)) (.cons (.expr (.bmeth .append (.var 3) (.cons (.tup (.cons (.str "give") .nil)) .nil))) .nil) .nil) .nil)) .nil) (.cons (.expr (.bmeth .extend (.var 3) (.cons (.lst true (.cons (.tup (.cons (.str "sleep") (.cons (.int 1) .nil))) (.cons (.tup (.cons (.str "sleep") (.cons (.int 2) .nil))) (.cons (.tup (.cons (.str "pass") .nil)) .nil)))) .nil))) (.cons (.for_ (.name 5) (.range1 (.bcall .len (.cons (.attr (.var 0) 1 7) .nil))) (.cons (.ife (.bool true (.cons (.cmp .eq (.idx (.idx (.attr (.var 0) 1 7) (.var 5)) (.int 0)) (.var 1)) (.cons (.cmp .notin (.tup (.cons (.str "lock") (.cons (.var 5) .nil))) (.var 2)) .nil))) (.cons (.expr (.bmeth .append (.var 3) (.cons (.tup (.cons (.str "free") (.cons (.var 5) .nil))) .nil))) .nil) .nil) .nil)) (.cons (.ret (.frz (.var 3))) .nil)))))))
abbrev n_calls_worth_trying : List Str := ["work", "task", "rights", "calls", "right", "lock"]
def b_Moment___init__ : SL := (.cons (.fld (.var 0) 2 0 (.var 1)) (.cons (.fld (.var 0) 2 1 (.var 2)) .nil))
abbrev n_Moment___init__ : List Str := ["self", "build", "shape"]
def b_Moment_build : SL := (.cons (.ret (.attr (.var 0) 2 0)) .nil)
abbrev n_Moment_build : List Str := ["self"]
def b_Moment_status : SL := (.cons (.expr (.call 16 (.cons (.attr (.var 0) 2 0) (.cons (.var 1) .nil)) [])) (.cons (.ret (.idx (.idx (.attr (.var 0) 2 1) (.int 0)) (.var 1))) .nil))
abbrev n_Moment_status : List Str := ["self", "task"]
def b_Moment_answer : SL := (.cons (.expr (.call 16 (.cons (.attr (.var 0) 2 0) (.cons (.var 1) .nil)) [])) (.cons (.ret (.idx (.idx (.attr (.var 0) 2 1) (.int 1)) (.var 1))) .nil))
abbrev n_Moment_answer : List Str := ["self", "task"]
def b_Moment_rights : SL := (.cons (.expr (.call 16 (.cons (.attr (.var 0) 2 0) (.cons (.var 1) .nil)) [])) (.cons (.ret (.bcall (.list true) (.cons (.idx (.idx (.attr (.var 0) 2 1) (.int 2)) (.var 1)) .nil))) .nil))
abbrev n_Moment_rights : List Str := ["self", "task"]
def b_Moment_held : SL := (.cons (.expr (.call 16 (.cons (.attr (.var 0) 2 0) (.cons (.var 1) .nil)) [])) (.cons (.ret (.idx (.idx (.attr (.var 0) 2 1) (.int 3)) (.var 1))) .nil))
abbrev n_Moment_held : List Str := ["self", "task"]
def b_Moment_pages : SL := (.cons (.ret (.bcall (.list true) (.cons (.idx (.attr (.var 0) 2 1) (.int 4)) .nil))) .nil)
abbrev n_Moment_pages : List Str := ["self"]
def b_Moment_ports : SL := (.cons (.ret (.comp true [1] (.name 1) (.seq (.idx (.attr (.var 0) 2 1) (.int 5))) .nil (.bcall (.list true) (.cons (.var 1) .nil)))) .nil)
abbrev n_Moment_ports : List Str := ["self", "letters"]
def b_Moment_locks : SL := (.cons (.ret (.bcall (.list true) (.cons (.idx (.attr (.var 0) 2 1) (.int 6)) .nil))) .nil)
abbrev n_Moment_locks : List Str := ["self"]
def b_Moment_lines : SL := (.cons (.ret (.bcall (.list true) (.cons (.idx (.attr (.var 0) 2 1) (.int 7)) .nil))) .nil)
abbrev n_Moment_lines : List Str := ["self"]
def b_Moment_head : SL := (.cons (.ret (.idx (.attr (.var 0) 2 1) (.int 8))) .nil)
abbrev n_Moment_head : List Str := ["self"]
def b_Moment_running : SL := (.cons (.ret (.idx (.attr (.var 0) 2 1) (.int 9))) .nil)
abbrev n_Moment_running : List Str := ["self"]
def b_Moment_shape : SL := (.cons (.ret (.attr (.var 0) 2 1)) .nil)
abbrev n_Moment_shape : List Str := ["self"]
def b_letter_may_come : SL := (.cons (.asg (.name 1) (.attr (.attr (.var 0) 2 0) 0 11)) (.cons (.ife (.cmp .is_ (.var 1) .non) (.cons (.ret (.bl false)) .nil) .nil) (.cons (.ret (.cmp .eq (.bin .mod (.idx (.idx (.attr (.var 0) 2 1) (.int 9)) (.int 3)) (.idx (.var 1) (.int 1))) (.int 0))) .nil)))
abbrev n_letter_may_come : List Str := ["moment", "row"]
def b_need_letter : SL := (.cons (.ife (.cmp .is_ (.var 1) .non) (.cons .retN .nil) .nil) (.cons (.ife (.bool false (.cons (.not (.val (.call 3 (.cons (.var 1) .nil) []))) (.cons (.not (.val (.call 103 (.cons (.var 0) .nil) []))) .nil))) (.cons .never .nil) .nil) .nil))
abbrev n_need_letter : List Str := ["moment", "outside"]
def b_seen_next : SL := (.cons (.asg (.tup (.cons (.name 2) (.cons (.name 3) .nil))) (.call 85 (.cons (.attr (.var 0) 2 0) (.cons (.attr (.var 0) 2 1) (.cons (.var 1) .nil))) [])) (.cons (.ife (.cmp .is_ (.var 3) .non) (.cons (.ret .non) .nil) .nil) (.cons (.ret (.tup (.cons (.var 3) (.cons (.idx (.attr (.var 2) 1 2) (.var 3)) .nil)))) .nil)))
abbrev n_seen_next : List Str := ["moment", "outside", "work", "task"]
def b_Moment_due : SL := (.cons (.expr (.call 104 (.cons (.var 0) (.cons (.var 1) .nil)) [])) (.cons (.asg (.name 2) (.call 105 (.cons (.var 0) (.cons (.var 1) .nil)) [])) (.cons (.ife (.cmp .is_ (.var 2) .non) (.cons (.ret .non) .nil) .nil) (.cons (.ret (.idx (.var 2) (.int 0))) .nil))))
abbrev n_Moment_due : List Str := ["self", "outside", "seen"]
def b_Moment_tick : SL := (.cons (.expr (.call 104 (.cons (.var 0) (.cons (.var 1) .nil)) [])) (.cons (.asg (.tup (.cons (.name 3) (.cons (.name 4) .nil))) (.call 85 (.cons (.attr (.var 0) 2 0) (.cons (.attr (.var 0) 2 1) (.cons (.var 1) .nil))) [])) (.cons (.ife (.cmp .is_ (.var 4) .non) (.cons (.ife (.cmp .isnot (.var 2) .non) (.cons .never .nil) .nil) .nil) (.cons (.ife (.not (.val (.call 9 (.cons (.attr (.var 0) 2 0) (.cons (.var 2) .nil)) []))) (.cons .never .nil) .nil) .nil)) (.cons (.asg (.tup (.cons (.name 5) (.cons (.name 6) .nil))) (.call 86 (.cons (.var 3) (.cons (.var 4) (.cons (.var 2) .nil))) [])) (.cons (.ret (.tup (.cons (.var 5) (.cons (.frz (.make 1 89 2 2 [] (.cons (.attr (.var 0) 2 0) (.cons (.var 6) .nil)) .nil)) .nil)))) .nil)))))
abbrev n_Moment_tick : List Str := ["self", "outside", "call", "work", "task", "seen", "shape"]
def b_turn_calls : SL := (.cons (.asg (.tup (.cons (.name 2) (.cons (.name 3) .nil))) (.call 85 (.cons (.attr (.var 0) 2 0) (.cons (.attr (.var 0) 2 1) (.cons (.var 1) .nil))) [])) (.cons (.ife (.cmp .is_ (.var 3) .non) (.cons (.ret (.tup (.cons .non (.cons (.lst true .nil) .nil)))) .nil) .nil) (.cons (.ret (.tup (.cons (.tup (.cons (.var 3) (.cons (.idx (.attr (.var 2) 1 2) (.var 3)) .nil))) (.cons (.call 88 (.cons (.var 2) (.cons (.var 3) .nil)) []) .nil)))) .nil)))
abbrev n_turn_calls : List Str := ["moment", "outside", "work", "task"]
def b_worth_trying : SL := (.cons (.ret (.idx (.call 108 (.cons (.var 0) (.cons (.var 1) .nil)) []) (.int 1))) .nil)
abbrev n_worth_trying : List Str := ["moment", "outside"]
def b_Moment_calls : SL := (.cons (.expr (.call 104 (.cons (.var 0) (.cons (.var 1) .nil)) [])) (.cons (.ret (.call 109 (.cons (.var 0) (.cons (.var 1) .nil)) [])) .nil))
abbrev n_Moment_calls : List Str := ["self", "outside"]
def b_veil : SL := (.cons (.asg (.name 2) (.bcall (.list false) (.cons (.idx (.attr (.var 0) 2 1) (.int 1)) .nil))) (.cons (.for_ (.name 3) (.seq (.var 1)) (.cons (.asg (.sub (.var 2) (.var 3)) .non) .nil)) (.cons (.ret (.frz (.make 1 89 2 2 [] (.cons (.attr (.var 0) 2 0) (.cons (.bin .add (.bin .add (.slice (.attr (.var 0) 2 1) .none (.some (.int 1))) (.tup (.cons (.bcall .tuple (.cons (.var 2) .nil)) .nil))) (.slice (.attr (.var 0) 2 1) (.some (.int 2)) .none)) .nil)) .nil))) .nil)))
abbrev n_veil : List Str := ["moment", "tasks", "answers", "task"]
def b_Moment_veiled : SL := (.cons (.ife (.not (.val (.isin (.var 1) .list))) (.cons .never .nil) .nil) (.cons (.asg (.name 2) (.int 0)) (.cons (.for_ (.name 3) (.seq (.var 1)) (.cons (.ife (.bool false (.cons (.not (.val (.call 4 (.cons (.var 3) (.cons (.bcall .len (.cons (.idx (.attr (.var 0) 2 1) (.int 0)) .nil)) .nil)) []))) (.cons (.cmp .lt (.var 3) (.var 2)) .nil))) (.cons .never .nil) .nil) (.cons (.asg (.name 2) (.bin .add (.var 3) (.int 1))) .nil))) (.cons (.ret (.call 111 (.cons (.var 0) (.cons (.var 1) .nil)) [])) .nil))))
abbrev n_Moment_veiled : List Str := ["self", "tasks", "least", "task"]
def b_first : SL := (.cons (.asg (.name 1) (.bcall .len (.cons (.attr (.var 0) 0 1) .nil))) (.cons (.asg (.name 2) (.tup (.cons (.bin .mul (.tup (.cons (.tup (.cons (.str "ready") .nil)) .nil)) (.var 1)) (.cons (.bin .mul (.tup (.cons .non .nil)) (.var 1)) (.cons (.attr (.var 0) 0 7) (.cons (.bin .mul (.tup (.cons (.int 0) .nil)) (.var 1)) (.cons (.attr (.var 0) 0 2) (.cons (.bin .mul (.tup (.cons (.tup .nil) .nil)) (.bcall .len (.cons (.attr (.var 0) 0 3) .nil))) (.cons (.bin .mul (.tup (.cons (.tup (.cons .non (.cons (.tup .nil) .nil))) .nil)) (.attr (.var 0) 0 4)) (.cons (.tup (.cons .non (.cons .non .nil))) (.cons (.int 0) (.cons (.tup (.cons .non (.cons (.int 0) (.cons (.int 0) (.cons (.int 0) .nil))))) .nil)))))))))))) (.cons (.ret (.frz (.make 1 89 2 2 [] (.cons (.var 0) (.cons (.var 2) .nil)) .nil))) .nil)))
abbrev n_first : List Str := ["build", "many", "shape"]
def b_letters_now : SL := (.cons (.ife (.val (.call 103 (.cons (.var 0) .nil) [])) (.cons (.ret (.lst true (.cons .non (.cons (.int 0) (.cons (.int 1) .nil))))) .nil) .nil) (.cons (.ret (.lst true (.cons .non .nil))) .nil))
abbrev n_letters_now : List Str := ["moment"]
def b_ticked : SL := (.cons (.asg (.tup (.cons (.name 3) (.cons (.name 4) .nil))) (.call 85 (.cons (.attr (.var 0) 2 0) (.cons (.attr (.var 0) 2 1) (.cons (.var 1) .nil))) [])) (.cons (.asg (.tup (.cons (.name 5) (.cons (.name 6) .nil))) (.call 86 (.cons (.var 3) (.cons (.var 4) (.cons (.var 2) .nil))) [])) (.cons (.ret (.tup (.cons (.var 5) (.cons (.frz (.make 1 89 2 2 [] (.cons (.attr (.var 0) 2 0) (.cons (.var 6) .nil)) .nil)) .nil)))) .nil)))
abbrev n_ticked : List Str := ["moment", "outside", "call", "work", "task", "seen", "shape"]
def b_played : SL := (.cons (.ife (.not (.val (.isin (.var 1) .list))) (.cons .never .nil) .nil) (.cons (.asg (.name 2) (.lst false .nil)) (.cons (.for_ (.name 3) (.range1 (.bcall .len (.cons (.var 1) .nil))) (.cons (.asg (.name 4) (.idx (.var 1) (.var 3))) (.cons (.ife (.not (.val (.call 5 (.cons (.var 4) (.cons (.int 2) .nil)) []))) (.cons .never .nil) .nil) (.cons .never (.cons (.expr (.bmeth .append (.var 2) (.cons (.var 5) .nil))) .nil))))) (.cons (.ret (.tup (.cons (.var 2) (.cons (.var 0) .nil)))) .nil))))
abbrev n_played : List Str := ["moment", "acts", "seen", "index", "act", "told"]
end HT
set_option Elab.async false
set_option linter.all false
set_option maxRecDepth 100000
set_option maxHeartbeats 0
namespace HT
open PySem PySem.Spec PyProof.Rows L2 Z
def top (i : Nat) : Stmt := PySem.Challenge.pw_hushkernel_k15_cache_lines.main.body.getD i (.Pass ⟨0, 0, 0, 0⟩)
def d_is_integer : He.DefD := ⟨("is_integer", none), "is_integer", "is_integer", defArgs (top 12), defBody (top 12), defScope (top 12), [], []⟩
def d_in_range : He.DefD := ⟨("in_range", none), "in_range", "in_range", defArgs (top 13), defBody (top 13), defScope (top 13), [], []⟩
def d_is_flag : He.DefD := ⟨("is_flag", none), "is_flag", "is_flag", defArgs (top 14), defBody (top 14), defScope (top 14), [], []⟩
def d_is_value : He.DefD := ⟨("is_value", none), "is_value", "is_value", defArgs (top 15), defBody (top 15), defScope (top 15), [], []⟩
def d_is_index : He.DefD := ⟨("is_index", none), "is_index", "is_index", defArgs (top 16), defBody (top 16), defScope (top 16), [], []⟩
def d_is_tuple : He.DefD := ⟨("is_tuple", none), "is_tuple", "is_tuple", defArgs (top 17), defBody (top 17), defScope (top 17), [], []⟩
def d_climbs : He.DefD := ⟨("climbs", none), "climbs", "climbs", defArgs (top 18), defBody (top 18), defScope (top 18), [], []⟩
def d_fits_right : He.DefD := ⟨("fits_right", none), "fits_right", "fits_right", defArgs (top 19), defBody (top 19), defScope (top 19), [], []⟩
def d_is_right : He.DefD := ⟨("is_right", none), "is_right", "is_right", defArgs (top 20), defBody (top 20), defScope (top 20), [], []⟩
def d_is_call : He.DefD := ⟨("is_call", none), "is_call", "is_call", defArgs (top 21), defBody (top 21), defScope (top 21), [], []⟩
def d_deliver : He.DefD := ⟨("deliver", none), "deliver", "deliver", defArgs (top 25), defBody (top 25), defScope (top 25), [], []⟩
def d_sleep_on : He.DefD := ⟨("sleep_on", none), "sleep_on", "sleep_on", defArgs (top 26), defBody (top 26), defScope (top 26), [], []⟩
def d_call_cost : He.DefD := ⟨("call_cost", none), "call_cost", "call_cost", defArgs (top 27), defBody (top 27), defScope (top 27), [], []⟩
def d_page_answer : He.DefD := ⟨("page_answer", none), "page_answer", "page_answer", defArgs (top 28), defBody (top 28), defScope (top 28), [], []⟩
def d_send_answer : He.DefD := ⟨("send_answer", none), "send_answer", "send_answer", defArgs (top 29), defBody (top 29), defScope (top 29), [], []⟩
def d_take_answer : He.DefD := ⟨("take_answer", none), "take_answer", "take_answer", defArgs (top 30), defBody (top 30), defScope (top 30), [], []⟩
def d_lock_answer : He.DefD := ⟨("lock_answer", none), "lock_answer", "lock_answer", defArgs (top 31), defBody (top 31), defScope (top 31), [], []⟩
def d_free_answer : He.DefD := ⟨("free_answer", none), "free_answer", "free_answer", defArgs (top 32), defBody (top 32), defScope (top 32), [], []⟩
def d_hand_answer : He.DefD := ⟨("hand_answer", none), "hand_answer", "hand_answer", defArgs (top 33), defBody (top 33), defScope (top 33), [], []⟩
def d_strip_answer : He.DefD := ⟨("strip_answer", none), "strip_answer", "strip_answer", defArgs (top 34), defBody (top 34), defScope (top 34), [], []⟩
def d_seek_answer : He.DefD := ⟨("seek_answer", none), "seek_answer", "seek_answer", defArgs (top 35), defBody (top 35), defScope (top 35), [], []⟩
def d_get_answer : He.DefD := ⟨("get_answer", none), "get_answer", "get_answer", defArgs (top 36), defBody (top 36), defScope (top 36), [], []⟩
def d_give_answer : He.DefD := ⟨("give_answer", none), "give_answer", "give_answer", defArgs (top 37), defBody (top 37), defScope (top 37), [], []⟩
def d_object_answer : He.DefD := ⟨("object_answer", none), "object_answer", "object_answer", defArgs (top 38), defBody (top 38), defScope (top 38), [], []⟩
def d_answer_of : He.DefD := ⟨("answer_of", none), "answer_of", "answer_of", defArgs (top 39), defBody (top 39), defScope (top 39), [], []⟩
def d_make_call : He.DefD := ⟨("make_call", none), "make_call", "make_call", defArgs (top 40), defBody (top 40), defScope (top 40), [], []⟩
def d_slot_at : He.DefD := ⟨("slot_at", none), "slot_at", "slot_at", defArgs (top 42), defBody (top 42), defScope (top 42), [], []⟩
def d_lenders : He.DefD := ⟨("lenders", none), "lenders", "lenders", defArgs (top 43), defBody (top 43), defScope (top 43), [], []⟩
def d_level_of : He.DefD := ⟨("level_of", none), "level_of", "level_of", defArgs (top 44), defBody (top 44), defScope (top 44), [], []⟩
def d_change : He.DefD := ⟨("change", none), "change", "change", defArgs (top 45), defBody (top 45), defScope (top 45), [], []⟩
def d_chosen_candidate : He.DefD := ⟨("chosen_candidate", none), "chosen_candidate", "chosen_candidate", defArgs (top 46), defBody (top 46), defScope (top 46), [], []⟩
def d_turn_by_levels : He.DefD := ⟨("turn_by_levels", none), "turn_by_levels", "turn_by_levels", defArgs (top 47), defBody (top 47), defScope (top 47), [], []⟩
def d_turn_by_slots : He.DefD := ⟨("turn_by_slots", none), "turn_by_slots", "turn_by_slots", defArgs (top 48), defBody (top 48), defScope (top 48), [], []⟩
def d_turn : He.DefD := ⟨("turn", none), "turn", "turn", defArgs (top 49), defBody (top 49), defScope (top 49), [], []⟩
def d_Work___init__ : He.DefD := ⟨("Work", some "__init__"), "__init__", "Work.__init__", defArgs (inClass (top 51) 0), defBody (inClass (top 51) 0), defScope (inClass (top 51) 0), [], []⟩
def d_Work_wake : He.DefD := ⟨("Work", some "wake"), "wake", "Work.wake", defArgs (inClass (top 51) 1), defBody (inClass (top 51) 1), defScope (inClass (top 51) 1), [], []⟩
def d_Work_ready_tasks : He.DefD := ⟨("Work", some "ready_tasks"), "ready_tasks", "Work.ready_tasks", defArgs (inClass (top 51) 2), defBody (inClass (top 51) 2), defScope (inClass (top 51) 2), [], []⟩
def d_Work_first_waiting : He.DefD := ⟨("Work", some "first_waiting"), "first_waiting", "Work.first_waiting", defArgs (inClass (top 51) 3), defBody (inClass (top 51) 3), defScope (inClass (top 51) 3), [], []⟩
def d_Work_shape_now : He.DefD := ⟨("Work", some "shape_now"), "shape_now", "Work.shape_now", defArgs (inClass (top 51) 4), defBody (inClass (top 51) 4), defScope (inClass (top 51) 4), [], []⟩
def d_opened : He.DefD := ⟨("opened", none), "opened", "opened", defArgs (top 53), defBody (top 53), defScope (top 53), [], []⟩
def d_closed : He.DefD := ⟨("closed", none), "closed", "closed", defArgs (top 54), defBody (top 54), defScope (top 54), [], []⟩
def d_Moment___init__ : He.DefD := ⟨("Moment", some "__init__"), "__init__", "Moment.__init__", defArgs (inClass (top 56) 0), defBody (inClass (top 56) 0), defScope (inClass (top 56) 0), [], []⟩
def d_Moment_lines : He.DefD := ⟨("Moment", some "lines"), "lines", "Moment.lines", defArgs (inClass (top 56) 10), defBody (inClass (top 56) 10), defScope (inClass (top 56) 10), [], []⟩
def d_Moment_running : He.DefD := ⟨("Moment", some "running"), "running", "Moment.running", defArgs (inClass (top 56) 12), defBody (inClass (top 56) 12), defScope (inClass (top 56) 12), [], []⟩
def d_Moment_due : He.DefD := ⟨("Moment", some "due"), "due", "Moment.due", defArgs (inClass (top 56) 14), defBody (inClass (top 56) 14), defScope (inClass (top 56) 14), [.non], []⟩
def d_Moment_tick : He.DefD := ⟨("Moment", some "tick"), "tick", "Moment.tick", defArgs (inClass (top 56) 15), defBody (inClass (top 56) 15), defScope (inClass (top 56) 15), [.non, .non], []⟩
def d_first : He.DefD := ⟨("first", none), "first", "first", defArgs (top 57), defBody (top 57), defScope (top 57), [], []⟩
def d_letter_may_come : He.DefD := ⟨("letter_may_come", none), "letter_may_come", "letter_may_come", defArgs (top 58), defBody (top 58), defScope (top 58), [], []⟩
def d_need_letter : He.DefD := ⟨("need_letter", none), "need_letter", "need_letter", defArgs (top 59), defBody (top 59), defScope (top 59), [], []⟩
def d_seen_next : He.DefD := ⟨("seen_next", none), "seen_next", "seen_next", defArgs (top 60), defBody (top 60), defScope (top 60), [], []⟩
def d_good_tasks : He.DefD := ⟨("good_tasks", none), "good_tasks", "good_tasks", defArgs (top 64), defBody (top 64), defScope (top 64), [], []⟩
def d_good_pages : He.DefD := ⟨("good_pages", none), "good_pages", "good_pages", defArgs (top 65), defBody (top 65), defScope (top 65), [], []⟩
def d_good_ports : He.DefD := ⟨("good_ports", none), "good_ports", "good_ports", defArgs (top 66), defBody (top 66), defScope (top 66), [], []⟩
def d_good_disk : He.DefD := ⟨("good_disk", none), "good_disk", "good_disk", defArgs (top 67), defBody (top 67), defScope (top 67), [], []⟩
def d_limits_of : He.DefD := ⟨("limits_of", none), "limits_of", "limits_of", defArgs (top 68), defBody (top 68), defScope (top 68), [], []⟩
def d_good_rights : He.DefD := ⟨("good_rights", none), "good_rights", "good_rights", defArgs (top 69), defBody (top 69), defScope (top 69), [], []⟩
def d_good_lines : He.DefD := ⟨("good_lines", none), "good_lines", "good_lines", defArgs (top 70), defBody (top 70), defScope (top 70), [], []⟩
def d_good_costs : He.DefD := ⟨("good_costs", none), "good_costs", "good_costs", defArgs (top 71), defBody (top 71), defScope (top 71), [], []⟩
def d_good_plan : He.DefD := ⟨("good_plan", none), "good_plan", "good_plan", defArgs (top 72), defBody (top 72), defScope (top 72), [], []⟩
def d_good_outside : He.DefD := ⟨("good_outside", none), "good_outside", "good_outside", defArgs (top 73), defBody (top 73), defScope (top 73), [], []⟩
def d_check_things : He.DefD := ⟨("check_things", none), "check_things", "check_things", defArgs (top 74), defBody (top 74), defScope (top 74), [], []⟩
def d_check_rules : He.DefD := ⟨("check_rules", none), "check_rules", "check_rules", defArgs (top 75), defBody (top 75), defScope (top 75), [], []⟩
def d_check_flags : He.DefD := ⟨("check_flags", none), "check_flags", "check_flags", defArgs (top 76), defBody (top 76), defScope (top 76), [], []⟩
def d_frozen_plan : He.DefD := ⟨("frozen_plan", none), "frozen_plan", "frozen_plan", defArgs (top 77), defBody (top 77), defScope (top 77), [], []⟩
def d_period_of : He.DefD := ⟨("period_of", none), "period_of", "period_of", defArgs (top 78), defBody (top 78), defScope (top 78), [], []⟩
def d_Build___init__ : He.DefD := ⟨("Build", some "__init__"), "__init__", "Build.__init__", defArgs (inClass (top 79) 0), defBody (inClass (top 79) 0), defScope (inClass (top 79) 0), [], [("wipe", .bl false), ("pad", .bl false), ("lend", .bl false), ("share", .bl false)]⟩
def d__law_cell : He.DefD := ⟨("_law_cell", none), "_law_cell", "_law_cell", defArgs (top 81), defBody (top 81), defScope (top 81), [], []⟩
def d__law_digits : He.DefD := ⟨("_law_digits", none), "_law_digits", "_law_digits", defArgs (top 82), defBody (top 82), defScope (top 82), [], []⟩
def d__law_same : He.DefD := ⟨("_law_same", none), "_law_same", "_law_same", defArgs (top 83), defBody (top 83), defScope (top 83), [], []⟩
def d__law_started : He.DefD := ⟨("_law_started", none), "_law_started", "_law_started", defArgs (top 84), defBody (top 84), defScope (top 84), [], []⟩
def d__law_built : He.DefD := ⟨("_law_built", none), "_law_built", "_law_built", defArgs (top 85), defBody (top 85), defScope (top 85), [], []⟩
def d__law_turn : He.DefD := ⟨("_law_turn", none), "_law_turn", "_law_turn", defArgs (top 86), defBody (top 86), defScope (top 86), [], []⟩
def d__law_cost : He.DefD := ⟨("_law_cost", none), "_law_cost", "_law_cost", defArgs (top 87), defBody (top 87), defScope (top 87), [], []⟩
def d__law_stands : He.DefD := ⟨("_law_stands", none), "_law_stands", "_law_stands", defArgs (top 88), defBody (top 88), defScope (top 88), [], []⟩
def d_law : He.DefD := ⟨("law", none), "law", "law", defArgs (top 89), defBody (top 89), defScope (top 89), [], []⟩
def dl : List He.DefD := ([d_is_integer, d_in_range, d_is_flag, d_is_value, d_is_index, d_is_tuple, d_climbs, d_fits_right, d_is_right, d_is_call, d_deliver, d_sleep_on] : List He.DefD) ++ ([d_call_cost, d_page_answer, d_send_answer, d_take_answer, d_lock_answer, d_free_answer, d_hand_answer, d_strip_answer, d_seek_answer, d_get_answer, d_give_answer, d_object_answer] : List He.DefD) ++ ([d_answer_of, d_make_call, d_slot_at, d_lenders, d_level_of, d_change, d_chosen_candidate, d_turn_by_levels, d_turn_by_slots, d_turn, d_Work___init__, d_Work_wake] : List He.DefD) ++ ([d_Work_ready_tasks, d_Work_first_waiting, d_Work_shape_now, d_opened, d_closed, d_Moment___init__, d_Moment_lines, d_Moment_running, d_Moment_due, d_Moment_tick, d_first, d_letter_may_come] : List He.DefD) ++ ([d_need_letter, d_seen_next, d_good_tasks, d_good_pages, d_good_ports, d_good_disk, d_limits_of, d_good_rights, d_good_lines, d_good_costs, d_good_plan, d_good_outside] : List He.DefD) ++ ([d_check_things, d_check_rules, d_check_flags, d_frozen_plan, d_period_of, d_Build___init__, d__law_cell, d__law_digits, d__law_same, d__law_started, d__law_built, d__law_turn] : List He.DefD) ++ ([d__law_cost, d__law_stands, d_law] : List He.DefD)
def fa : List He.Fa := ([.glo "is_integer", .glo "in_range", .glo "is_flag", .glo "is_value", .glo "is_index", .glo "is_tuple", .glo "climbs", .glo "fits_right", .glo "is_right", .glo "is_call", .glo "good_tasks", .glo "good_pages"] : List He.Fa) ++ ([.glo "good_ports", .glo "good_disk", .glo "limits_of", .glo "good_rights", .glo "good_lines", .glo "good_costs", .glo "good_plan", .glo "good_outside", .glo "check_things", .glo "check_rules", .glo "check_flags", .glo "frozen_plan"] : List He.Fa) ++ ([.glo "period_of", .glo "deliver", .glo "sleep_on", .glo "call_cost", .glo "page_answer", .glo "send_answer", .glo "take_answer", .glo "lock_answer", .glo "free_answer", .glo "hand_answer", .glo "strip_answer", .glo "seek_answer"] : List He.Fa) ++ ([.glo "get_answer", .glo "give_answer", .glo "object_answer", .glo "answer_of", .glo "make_call", .glo "slot_at", .glo "lenders", .glo "level_of", .glo "change", .glo "chosen_candidate", .glo "turn_by_levels", .glo "turn_by_slots"] : List He.Fa) ++ ([.glo "turn", .glo "opened", .glo "closed", .glo "letter_may_come", .glo "need_letter", .glo "seen_next", .glo "first", .glo "_law_digits", .glo "_law_cell", .glo "_law_started", .glo "_law_built", .glo "_law_turn"] : List He.Fa) ++ ([.glo "_law_same", .glo "_law_stands", .glo "_law_cost", .glo "law", .glo "Build", .cls "Build", .mkr "Build", .meth "Build" "__init__", .noat "Build" "limits", .noat "Build" "task_rows", .noat "Build" "page_values", .noat "Build" "port_sizes"] : List He.Fa) ++ ([.noat "Build" "lock_many", .noat "Build" "frame_many", .noat "Build" "disk_places", .noat "Build" "right_rows", .noat "Build" "page_lines", .noat "Build" "cost_row", .noat "Build" "plan_row", .noat "Build" "outside_row", .noat "Build" "wipes", .noat "Build" "pads", .noat "Build" "lends", .noat "Build" "shares"] : List He.Fa) ++ ([.noat "Build" "side_row", .noat "Build" "period", .noat "Build" "cost_most", .noat "Build" "parts", .glo "Work", .cls "Work", .mkr "Work", .meth "Work" "__init__", .meth "Work" "wake", .meth "Work" "ready_tasks", .meth "Work" "first_waiting", .meth "Work" "shape_now"] : List He.Fa) ++ ([.noat "Work" "kernel", .noat "Work" "statuses", .noat "Work" "answers", .noat "Work" "right_rows", .noat "Work" "frame_counts", .noat "Work" "page_values", .noat "Work" "letters", .noat "Work" "lock_rows", .noat "Work" "line_pages", .noat "Work" "place", .noat "Work" "runner", .noat "Work" "spent"] : List He.Fa) ++ ([.noat "Work" "busy", .noat "Work" "phase", .glo "Moment", .cls "Moment", .mkr "Moment", .meth "Moment" "__init__", .meth "Moment" "lines", .meth "Moment" "running", .meth "Moment" "due", .meth "Moment" "tick", .noat "Moment" "kernel", .noat "Moment" "told"] : List He.Fa) ++ ([.free "range", .free "len", .free "ValueError", .free "isinstance", .free "int", .free "bool", .free "tuple", .free "str", .free "abs", .free "sorted", .free "sum", .free "max"] : List He.Fa) ++ ([.free "list", .free "set", .free "min"] : List He.Fa)
def G : Cfg := ⟨[("Build", ["limits", "task_rows", "page_values", "port_sizes", "lock_many", "frame_many", "disk_places", "right_rows", "page_lines", "cost_row", "plan_row", "outside_row", "wipes", "pads", "lends", "shares", "side_row", "period", "cost_most", "parts"]), ("Work", ["kernel", "statuses", "answers", "right_rows", "frame_counts", "page_values", "letters", "lock_rows", "line_pages", "place", "runner", "spent", "busy", "phase"]), ("Moment", ["kernel", "told"])], [], fun _ => none⟩
def fnl : List Fn := ([⟨("is_integer", none), ["thing"], [], false⟩, ⟨("in_range", none), ["thing", "low", "high"], [], false⟩, ⟨("is_flag", none), ["thing"], [], false⟩, ⟨("is_value", none), ["thing"], [], false⟩, ⟨("is_index", none), ["thing", "many"], [], false⟩, ⟨("is_tuple", none), ["thing", "many"], [], false⟩, ⟨("climbs", none), ["items"], [], false⟩, ⟨("fits_right", none), ["limits", "thing"], [], false⟩, ⟨("is_right", none), ["build", "thing"], [], false⟩, ⟨("is_call", none), ["build", "thing"], [], false⟩] : List Fn) ++ ([⟨("is_integer", none), ["thing"], [], false⟩, ⟨("is_integer", none), ["thing"], [], false⟩, ⟨("is_integer", none), ["thing"], [], false⟩, ⟨("is_integer", none), ["thing"], [], false⟩, ⟨("is_integer", none), ["thing"], [], false⟩, ⟨("is_integer", none), ["thing"], [], false⟩, ⟨("is_integer", none), ["thing"], [], false⟩, ⟨("is_integer", none), ["thing"], [], false⟩, ⟨("is_integer", none), ["thing"], [], false⟩, ⟨("is_integer", none), ["thing"], [], false⟩] : List Fn) ++ ([⟨("is_integer", none), ["thing"], [], false⟩, ⟨("is_integer", none), ["thing"], [], false⟩, ⟨("good_tasks", none), ["tasks"], [], false⟩, ⟨("good_pages", none), ["pages"], [], false⟩, ⟨("good_ports", none), ["ports"], [], false⟩, ⟨("good_disk", none), ["disk"], [], false⟩, ⟨("limits_of", none), ["task_many", "page_many", "port_many", "lock_many", "disk"], [], false⟩, ⟨("good_rights", none), ["limits", "rights"], [], false⟩, ⟨("good_lines", none), ["page_many", "lines"], [], false⟩, ⟨("good_costs", none), ["costs"], [], false⟩] : List Fn) ++ ([⟨("good_plan", none), ["task_many", "plan"], [], false⟩, ⟨("good_outside", none), ["port_many", "outside"], [], false⟩, ⟨("check_things", none), ["tasks", "pages", "ports", "locks", "frames", "disk"], [], false⟩, ⟨("check_rules", none), ["limits", "rights", "lines", "costs", "plan", "outside"], [], false⟩, ⟨("check_flags", none), ["wipe", "pad", "lend", "share"], [], false⟩, ⟨("frozen_plan", none), ["plan"], [], false⟩, ⟨("period_of", none), ["plan_row", "outside_row"], [], false⟩, ⟨("Build", some "__init__"), ["self", "tasks", "pages", "ports", "locks", "frames", "disk", "rights", "lines", "costs", "plan", "outside", "wipe", "pad", "lend", "share"], [], true⟩, ⟨("is_integer", none), ["thing"], [], false⟩, ⟨("is_integer", none), ["thing"], [], false⟩] : List Fn) ++ ([⟨("is_integer", none), ["thing"], [], false⟩, ⟨("is_integer", none), ["thing"], [], false⟩, ⟨("is_integer", none), ["thing"], [], false⟩, ⟨("is_integer", none), ["thing"], [], false⟩, ⟨("is_integer", none), ["thing"], [], false⟩, ⟨("is_integer", none), ["thing"], [], false⟩, ⟨("is_integer", none), ["thing"], [], false⟩, ⟨("is_integer", none), ["thing"], [], false⟩, ⟨("is_integer", none), ["thing"], [], false⟩, ⟨("is_integer", none), ["thing"], [], false⟩] : List Fn) ++ ([⟨("is_integer", none), ["thing"], [], false⟩, ⟨("is_integer", none), ["thing"], [], false⟩, ⟨("is_integer", none), ["thing"], [], false⟩, ⟨("is_integer", none), ["thing"], [], false⟩, ⟨("is_integer", none), ["thing"], [], false⟩, ⟨("Work", some "__init__"), ["self", "build", "shape"], [], false⟩, ⟨("is_integer", none), ["thing"], [], false⟩, ⟨("Work", some "wake"), ["self", "task", "answer"], [], false⟩, ⟨("Work", some "ready_tasks"), ["self"], [], false⟩, ⟨("Work", some "first_waiting"), ["self", "port"], [], false⟩] : List Fn) ++ ([⟨("Work", some "shape_now"), ["self"], [], false⟩, ⟨("deliver", none), ["work", "port", "letter"], [], false⟩, ⟨("sleep_on", none), ["work"], [], false⟩, ⟨("call_cost", none), ["work", "task", "call"], [], false⟩, ⟨("page_answer", none), ["work", "task", "call"], [], false⟩, ⟨("send_answer", none), ["work", "task", "call"], [], false⟩, ⟨("take_answer", none), ["work", "task", "call"], [], false⟩, ⟨("lock_answer", none), ["work", "task", "call"], [], false⟩, ⟨("free_answer", none), ["work", "task", "call"], [], false⟩, ⟨("hand_answer", none), ["work", "task", "call"], [], false⟩] : List Fn) ++ ([⟨("strip_answer", none), ["work", "task", "call"], [], false⟩, ⟨("seek_answer", none), ["work", "task", "call"], [], false⟩, ⟨("get_answer", none), ["work", "task"], [], false⟩, ⟨("give_answer", none), ["work", "task"], [], false⟩, ⟨("object_answer", none), ["work", "task", "call"], [], false⟩, ⟨("answer_of", none), ["work", "task", "call"], [], false⟩, ⟨("make_call", none), ["work", "task", "call"], [], false⟩, ⟨("slot_at", none), ["build", "phase"], [], false⟩, ⟨("lenders", none), ["work", "task"], [], false⟩, ⟨("level_of", none), ["work", "task"], [], false⟩] : List Fn) ++ ([⟨("change", none), ["work", "task"], [], false⟩, ⟨("chosen_candidate", none), ["candidates", "runner"], [], false⟩, ⟨("turn_by_levels", none), ["work"], [], false⟩, ⟨("turn_by_slots", none), ["work"], [], false⟩, ⟨("turn", none), ["work"], [], false⟩, ⟨("opened", none), ["build", "shape", "outside"], [], false⟩, ⟨("closed", none), ["work", "task", "call"], [], false⟩, ⟨("is_integer", none), ["thing"], [], false⟩, ⟨("is_integer", none), ["thing"], [], false⟩, ⟨("Moment", some "__init__"), ["self", "build", "shape"], [], false⟩] : List Fn) ++ ([⟨("is_integer", none), ["thing"], [], false⟩, ⟨("is_integer", none), ["thing"], [], false⟩, ⟨("is_integer", none), ["thing"], [], false⟩, ⟨("is_integer", none), ["thing"], [], false⟩, ⟨("is_integer", none), ["thing"], [], false⟩, ⟨("is_integer", none), ["thing"], [], false⟩, ⟨("is_integer", none), ["thing"], [], false⟩, ⟨("is_integer", none), ["thing"], [], false⟩, ⟨("is_integer", none), ["thing"], [], false⟩, ⟨("Moment", some "lines"), ["self"], [], false⟩] : List Fn) ++ ([⟨("is_integer", none), ["thing"], [], false⟩, ⟨("Moment", some "running"), ["self"], [], false⟩, ⟨("is_integer", none), ["thing"], [], false⟩, ⟨("letter_may_come", none), ["moment"], [], false⟩, ⟨("need_letter", none), ["moment", "outside"], [], false⟩, ⟨("seen_next", none), ["moment", "outside"], [], false⟩, ⟨("Moment", some "due"), ["self", "outside"], [.non], false⟩, ⟨("Moment", some "tick"), ["self", "outside", "call"], [.non, .non], false⟩, ⟨("is_integer", none), ["thing"], [], false⟩, ⟨("is_integer", none), ["thing"], [], false⟩] : List Fn) ++ ([⟨("is_integer", none), ["thing"], [], false⟩, ⟨("is_integer", none), ["thing"], [], false⟩, ⟨("is_integer", none), ["thing"], [], false⟩, ⟨("first", none), ["build"], [], false⟩, ⟨("_law_digits", none), ["_law_cell_here", "_law_sizes"], [], false⟩, ⟨("_law_cell", none), ["_law_script", "_law_k"], [], false⟩, ⟨("_law_started", none), ["_law_script"], [], false⟩, ⟨("_law_built", none), ["_law_world"], [], false⟩, ⟨("_law_turn", none), ["_law_world"], [], false⟩, ⟨("_law_same", none), ["_law_told", "_law_due"], [], false⟩] : List Fn) ++ ([⟨("_law_same", none), ["_law_told", "_law_due"], [], false⟩, ⟨("_law_same", none), ["_law_told", "_law_due"], [], false⟩, ⟨("_law_stands", none), ["_law_world", "_law_moment"], [], false⟩, ⟨("_law_cost", none), ["_law_world", "_law_task", "_law_call"], [], false⟩, ⟨("law", none), ["_law_script"], [], false⟩] : List Fn)
def frees : List Str := (["range", "len", "ValueError", "isinstance", "int", "bool", "tuple", "str", "abs", "sorted", "sum", "max"] : List Str) ++ (["list", "set", "min"] : List Str)
def B : Tb := ⟨fnl, frees, [⟨1, 55, 2, [], []⟩, ⟨2, 89, 2, [], []⟩, ⟨0, 37, 11, ["wipe", "pad", "lend", "share"], [.inl 0, .inl 1, .inl 2, .inl 3]⟩, ⟨0, 37, 11, ["pad"], [.inr (.bl false), .inl 0, .inr (.bl false), .inr (.bl false)]⟩], [], [("NAMED", [("read", (.str "read")), ("take", (.str "take")), ("wait", (.str "take")), ("lock", (.str "lock")), ("free", (.str "lock"))])]⟩
def b0_hand_answer : SL := (.cons .never (.cons .never (.cons .never (.cons .never (.cons .never (.cons .never .nil))))))
def b0_strip_answer : SL := (.cons .never (.cons .never (.cons .never (.cons .never (.cons .never .nil)))))
def b0_lenders : SL := (.cons .never (.cons .never (.cons .never (.cons .never .nil))))
def b0_level_of : SL := (.cons .never (.cons .never (.cons .never .nil)))
def b0_chosen_candidate : SL := (.cons .never (.cons .never .nil))
def b0_turn_by_levels : SL := (.cons .never (.cons .never (.cons .never (.cons .never (.cons .never (.cons .never (.cons .never (.cons .never (.cons .never (.cons .never (.cons .never .nil)))))))))))
def b__law_digits : SL := (.cons (.asg (.name 2) (.lst false .nil)) (.cons (.asg (.name 3) (.var 0)) (.cons (.for_ (.name 4) (.range1 (.bcall .len (.cons (.var 1) .nil))) (.cons (.ife (.cmp .lt (.var 0) (.bin .pow (.int 10) (.int 18))) (.cons (.asg (.name 3) (.bin .mod (.bcall .int (.cons (.bin .add (.bin .mul (.var 3) (.int 48271)) (.bin .mul (.int 30103) (.bin .add (.var 4) (.int 1)))) .nil)) (.int 2147483629))) (.cons (.asg (.name 5) (.bin .mod (.bcall .int (.cons (.bin .mul (.var 3) (.bin .add (.bin .fdiv (.var 3) (.int 2003)) (.int 40692))) .nil)) (.int 2147483399))) (.cons (.expr (.bmeth .append (.var 2) (.cons (.bin .mod (.bcall .int (.cons (.bin .fdiv (.var 5) (.int 16)) .nil)) (.idx (.var 1) (.var 4))) .nil))) .nil))) (.cons (.expr (.bmeth .append (.var 2) (.cons (.bin .mod (.bcall .int (.cons (.var 3) .nil)) (.idx (.var 1) (.var 4))) .nil))) (.cons (.asg (.name 3) (.bin .fdiv (.var 3) (.idx (.var 1) (.var 4)))) .nil))) .nil)) (.cons (.ret (.frz (.var 2))) .nil))))
abbrev n__law_digits : List Str := ["_law_cell_here", "_law_sizes", "_law_found", "_law_number", "_law_k", "_law_mixed"]
def b__law_cell : SL := (.cons (.ife (.cmp .lt (.var 1) (.bcall .len (.cons (.var 0) .nil))) (.cons (.ret (.bcall .abs (.cons (.idx (.var 0) (.var 1)) .nil))) .nil) .nil) (.cons (.ret (.bin .add (.bin .mul (.bin .mod (.bcall .int (.cons (.bcall .sum (.cons (.slice (.var 0) .none (.some (.int 1))) .nil)) .nil)) (.int 1000003)) (.int 7919)) (.bin .mul (.int 104729) (.bin .add (.var 1) (.int 1))))) .nil))
abbrev n__law_cell : List Str := ["_law_script", "_law_k"]
def b__law_started : SL := (.cons (.asg (.name 1) (.call 114 (.cons (.call 115 (.cons (.var 0) (.cons (.int 0) .nil)) []) (.cons (.lst true (.cons (.int 2) (.cons (.int 4) (.cons (.int 3) (.cons (.int 4) (.cons (.int 3) (.cons (.int 3) (.cons (.int 3) (.cons (.int 3) (.cons (.int 2) (.cons (.int 3) .nil))))))))))) .nil)) [])) (.cons (.asg (.name 2) (.bin .add (.int 1) (.idx (.var 1) (.int 9)))) (.cons (.asg (.name 3) (.dict false ["many", "costs", "padded", "pages"] (.cons (.bin .add (.int 2) (.idx (.var 1) (.int 0))) (.cons (.tup (.cons (.bin .add (.int 1) (.idx (.var 1) (.int 2))) (.cons (.idx (.var 1) (.int 3)) (.cons (.idx (.var 1) (.int 4)) .nil)))) (.cons (.cmp .eq (.idx (.var 1) (.int 8)) (.int 1)) (.cons (.var 2) .nil)))))) (.cons (.asg (.sub (.var 3) (.str "home")) (.comp true [7] (.name 7) (.range1 (.var 2)) .nil (.idx (.lst true (.cons .non (.cons (.int 0) (.cons (.int 1) .nil)))) (.idx (.var 1) (.bin .add (.int 5) (.var 7)))))) (.cons (.asg (.sub (.var 3) (.str "rights")) (.lst false .nil)) (.cons (.for_ (.name 4) (.range1 (.idx (.var 3) (.str "many"))) (.cons (.asg (.name 5) (.call 114 (.cons (.call 115 (.cons (.var 0) (.cons (.bin .add (.int 1) (.var 4)) .nil)) []) (.cons (.lst true (.cons (.int 2) (.cons (.int 2) (.cons (.int 2) (.cons (.int 2) (.cons (.int 2) (.cons (.int 2) .nil))))))) .nil)) [])) (.cons (.setc 6 true [7] (.name 7) (.range1 (.var 2)) (.cons (.cmp .eq (.idx (.var 5) (.var 7)) (.int 1)) .nil) (.tup (.cons (.str "read") (.cons (.var 7) .nil)))) (.cons (.expr (.bmeth .append (.idx (.var 3) (.str "rights")) (.cons (.frz (.cat (.var 6) (.comp true [7] (.name 7) (.range1 (.var 2)) (.cons (.cmp .eq (.idx (.var 5) (.bin .add (.int 3) (.var 7))) (.int 1)) .nil) (.tup (.cons (.str "write") (.cons (.var 7) .nil)))))) .nil))) .nil)))) (.cons (.asg (.sub (.var 3) (.str "sides")) (.comp true [7] (.name 7) (.range1 (.idx (.var 3) (.str "many"))) .nil (.bin .mod (.bcall .int (.cons (.bin .add (.idx (.var 1) (.int 1)) (.var 7)) .nil)) (.int 4)))) (.cons (.asg (.sub (.var 3) (.str "time")) (.int 0)) (.cons (.asg (.sub (.var 3) (.str "free")) (.int 0)) (.cons (.asg (.sub (.var 3) (.str "inside")) (.lst false (.cons .non (.cons .non .nil)))) (.cons (.ret (.var 3)) .nil)))))))))))
abbrev n__law_started : List Str := ["_law_script", "_law_d", "_law_pages", "_law_world", "_law_task", "_law_bits", "_law_row", "_law_k"]
def b__law_built : SL := (.cons (.setc 1 true [4] (.name 4) (.seq (.idx (.var 0) (.str "sides"))) .nil (.tup (.cons (.var 4) (.cons (.int 0) .nil)))) (.cons (.asg (.name 2) (.tup (.cons (.str "slots") (.cons (.comp true [6] (.name 6) (.range1 (.idx (.var 0) (.str "many"))) .nil (.tup (.cons (.var 6) (.cons (.int 12) .nil)))) .nil)))) (.cons (.setc 3 true [5] (.name 5) (.seq (.idx (.var 0) (.str "rights"))) .nil (.bcall (.list true) (.cons (.var 5) .nil))) (.cons (.ret (.frz (.make 3 37 0 20 [.inr (.bl false), .inl 0, .inr (.bl false), .inr (.bl false)] (.cons (.var 1) (.cons (.frz (.rep (.lst true (.cons (.int 0) .nil)) (.idx (.var 0) (.str "pages")))) (.cons (.lst true .nil) (.cons (.int 0) (.cons (.int 0) (.cons (.int 0) (.cons (.var 3) (.cons (.bcall (.list true) (.cons (.idx (.var 0) (.str "home")) .nil)) (.cons (.idx (.var 0) (.str "costs")) (.cons (.var 2) (.cons .non .nil))))))))))) (.cons (.idx (.var 0) (.str "padded")) .nil)))) .nil))))
abbrev n__law_built : List Str := ["_law_world", "_law_tasks", "_law_plan", "_law_rights", "_law_side", "_law_row", "_law_k"]
def b__law_turn : SL := (.cons (.asg (.name 1) (.bin .mod (.bcall .int (.cons (.idx (.var 0) (.str "time")) .nil)) (.int 12))) (.cons (.asg (.name 2) (.bin .add (.idx (.idx (.var 0) (.str "costs")) (.int 0)) (.idx (.idx (.var 0) (.str "costs")) (.int 1)))) (.cons (.ife (.bool true (.cons (.cmp .ge (.idx (.var 0) (.str "time")) (.idx (.var 0) (.str "free"))) (.cons (.cmp .ge (.var 1) (.idx (.idx (.var 0) (.str "costs")) (.int 2))) (.cons (.cmp .ge (.bin .sub (.int 12) (.var 1)) (.var 2)) .nil)))) (.cons (.ret (.bin .mod (.bcall .int (.cons (.bin .fdiv (.idx (.var 0) (.str "time")) (.int 12)) .nil)) (.idx (.var 0) (.str "many")))) .nil) .nil) (.cons (.ret .non) .nil))))
abbrev n__law_turn : List Str := ["_law_world", "_law_gone", "_law_most"]
def b__law_same_0 : SL := (.cons (.ife (.bool false (.cons (.val (.isin (.var 1) .tuple)) (.cons (.val (.isin (.var 1) .list)) .nil))) (.cons (.ife (.bool false (.cons (.cmp .ne (.isin (.var 0) .tuple) (.isin (.var 1) .tuple)) (.cons (.cmp .ne (.isin (.var 0) .list) (.isin (.var 1) .list)) .nil))) (.cons (.ret (.bl false)) .nil) .nil) (.cons (.ife (.cmp .ne (.bcall .len (.cons (.var 0) .nil)) (.bcall .len (.cons (.var 1) .nil))) (.cons (.ret (.bl false)) .nil) .nil) (.cons (.for_ (.name 2) (.range1 (.bcall .len (.cons (.var 1) .nil))) (.cons .never .nil)) (.cons (.ret (.bl true)) .nil)))) .nil) (.cons (.ife (.cmp .is_ (.var 1) .non) (.cons (.ret (.cmp .is_ (.var 0) .non)) .nil) .nil) (.cons (.ife (.val (.isin (.var 1) .str)) (.cons (.ret (.bool true (.cons (.isin (.var 0) .str) (.cons (.cmp .eq (.var 0) (.var 1)) .nil)))) .nil) .nil) (.cons (.ife (.bool false (.cons (.val (.isin (.var 1) .bool)) (.cons (.val (.isin (.var 0) .bool)) .nil))) (.cons (.ret (.bool true (.cons (.isin (.var 1) .bool) (.cons (.isin (.var 0) .bool) (.cons (.cmp .eq (.var 0) (.var 1)) .nil))))) .nil) .nil) (.cons (.ret (.bool true (.cons (.isin (.var 0) .int) (.cons (.cmp .eq (.var 0) (.var 1)) .nil)))) .nil)))))
abbrev n__law_same_0 : List Str := ["_law_told", "_law_due", "_law_k"]
def b__law_same_1 : SL := (.cons (.ife (.bool false (.cons (.val (.isin (.var 1) .tuple)) (.cons (.val (.isin (.var 1) .list)) .nil))) (.cons (.ife (.bool false (.cons (.cmp .ne (.isin (.var 0) .tuple) (.isin (.var 1) .tuple)) (.cons (.cmp .ne (.isin (.var 0) .list) (.isin (.var 1) .list)) .nil))) (.cons (.ret (.bl false)) .nil) .nil) (.cons (.ife (.cmp .ne (.bcall .len (.cons (.var 0) .nil)) (.bcall .len (.cons (.var 1) .nil))) (.cons (.ret (.bl false)) .nil) .nil) (.cons (.for_ (.name 2) (.range1 (.bcall .len (.cons (.var 1) .nil))) (.cons (.ife (.not (.val (.call 119 (.cons (.idx (.var 0) (.var 2)) (.cons (.idx (.var 1) (.var 2)) .nil)) []))) (.cons (.ret (.bl false)) .nil) .nil) .nil)) (.cons (.ret (.bl true)) .nil)))) .nil) (.cons (.ife (.cmp .is_ (.var 1) .non) (.cons (.ret (.cmp .is_ (.var 0) .non)) .nil) .nil) (.cons (.ife (.val (.isin (.var 1) .str)) (.cons (.ret (.bool true (.cons (.isin (.var 0) .str) (.cons (.cmp .eq (.var 0) (.var 1)) .nil)))) .nil) .nil) (.cons (.ife (.bool false (.cons (.val (.isin (.var 1) .bool)) (.cons (.val (.isin (.var 0) .bool)) .nil))) (.cons (.ret (.bool true (.cons (.isin (.var 1) .bool) (.cons (.isin (.var 0) .bool) (.cons (.cmp .eq (.var 0) (.var 1)) .nil))))) .nil) .nil) (.cons (.ret (.bool true (.cons (.isin (.var 0) .int) (.cons (.cmp .eq (.var 0) (.var 1)) .nil)))) .nil)))))
abbrev n__law_same_1 : List Str := ["_law_told", "_law_due", "_law_k"]
def b__law_same_2 : SL := (.cons (.ife (.bool false (.cons (.val (.isin (.var 1) .tuple)) (.cons (.val (.isin (.var 1) .list)) .nil))) (.cons (.ife (.bool false (.cons (.cmp .ne (.isin (.var 0) .tuple) (.isin (.var 1) .tuple)) (.cons (.cmp .ne (.isin (.var 0) .list) (.isin (.var 1) .list)) .nil))) (.cons (.ret (.bl false)) .nil) .nil) (.cons (.ife (.cmp .ne (.bcall .len (.cons (.var 0) .nil)) (.bcall .len (.cons (.var 1) .nil))) (.cons (.ret (.bl false)) .nil) .nil) (.cons (.for_ (.name 2) (.range1 (.bcall .len (.cons (.var 1) .nil))) (.cons (.ife (.not (.val (.call 120 (.cons (.idx (.var 0) (.var 2)) (.cons (.idx (.var 1) (.var 2)) .nil)) []))) (.cons (.ret (.bl false)) .nil) .nil) .nil)) (.cons (.ret (.bl true)) .nil)))) .nil) (.cons (.ife (.cmp .is_ (.var 1) .non) (.cons (.ret (.cmp .is_ (.var 0) .non)) .nil) .nil) (.cons (.ife (.val (.isin (.var 1) .str)) (.cons (.ret (.bool true (.cons (.isin (.var 0) .str) (.cons (.cmp .eq (.var 0) (.var 1)) .nil)))) .nil) .nil) (.cons (.ife (.bool false (.cons (.val (.isin (.var 1) .bool)) (.cons (.val (.isin (.var 0) .bool)) .nil))) (.cons (.ret (.bool true (.cons (.isin (.var 1) .bool) (.cons (.isin (.var 0) .bool) (.cons (.cmp .eq (.var 0) (.var 1)) .nil))))) .nil) .nil) (.cons (.ret (.bool true (.cons (.isin (.var 0) .int) (.cons (.cmp .eq (.var 0) (.var 1)) .nil)))) .nil)))))
abbrev n__law_same_2 : List Str := ["_law_told", "_law_due", "_law_k"]
def b__law_stands : SL := (.cons (.asg (.name 2) (.bin .mod (.bcall .int (.cons (.bin .fdiv (.bin .sub (.idx (.var 0) (.str "time")) (.int 1)) (.int 12)) .nil)) (.idx (.var 0) (.str "many")))) (.cons (.asg (.name 3) (.bcall .max2 (.cons (.int 0) (.cons (.bin .add (.bin .sub (.idx (.var 0) (.str "free")) (.idx (.var 0) (.str "time"))) (.int 1)) .nil)))) (.cons (.ife (.not (.val (.call 121 (.cons (.meth 99 2 (.var 1) .nil []) (.cons (.idx (.var 0) (.str "inside")) .nil)) []))) (.cons (.ret (.bl false)) .nil) .nil) (.cons (.ret (.call 121 (.cons (.meth 101 2 (.var 1) .nil []) (.cons (.tup (.cons (.var 2) (.cons (.int 0) (.cons (.var 3) (.cons (.bin .mod (.bcall .int (.cons (.idx (.var 0) (.str "time")) .nil)) (.bin .mul (.int 12) (.idx (.var 0) (.str "many")))) .nil))))) .nil)) [])) .nil))))
abbrev n__law_stands : List Str := ["_law_world", "_law_moment", "_law_runner", "_law_busy"]
def b__law_cost : SL := (.cons (.asg (.name 3) (.idx (.idx (.var 0) (.str "costs")) (.int 0))) (.cons (.ife (.cmp .in_ (.tup (.cons (.idx (.var 2) (.int 0)) (.cons (.idx (.var 2) (.int 1)) .nil))) (.idx (.idx (.var 0) (.str "rights")) (.var 1))) (.cons (.asg (.name 4) (.idx (.idx (.var 0) (.str "home")) (.idx (.var 2) (.int 1)))) (.cons (.ife (.bool false (.cons (.cmp .is_ (.var 4) .non) (.cons (.cmp .ne (.idx (.idx (.var 0) (.str "inside")) (.var 4)) (.idx (.var 2) (.int 1))) .nil))) (.cons (.asg (.name 3) (.bin .add (.var 3) (.idx (.idx (.var 0) (.str "costs")) (.int 1)))) .nil) .nil) (.cons (.ife (.cmp .isnot (.var 4) .non) (.cons (.asg (.name 5) (.idx (.var 0) (.str "inside"))) (.cons (.asg (.sub (.var 5) (.var 4)) (.idx (.var 2) (.int 1))) .nil)) .nil) .nil))) .nil) (.cons (.ife (.val (.idx (.var 0) (.str "padded"))) (.cons (.asg (.name 3) (.bin .add (.idx (.idx (.var 0) (.str "costs")) (.int 0)) (.idx (.idx (.var 0) (.str "costs")) (.int 1)))) .nil) .nil) (.cons (.ret (.var 3)) .nil))))
abbrev n__law_cost : List Str := ["_law_world", "_law_task", "_law_call", "_law_cost_here", "_law_line", "_law_inside"]
def b_law : SL := (.cons (.asg (.name 1) (.call 116 (.cons (.var 0) .nil) [])) (.cons (.asg (.name 2) (.call 113 (.cons (.call 117 (.cons (.var 1) .nil) []) .nil) [])) (.cons (.for_ (.name 3) (.range1 (.bin .add (.bcall .min2 (.cons (.int 40) (.cons (.bcall .len (.cons (.var 0) .nil)) .nil))) (.int 6))) (.cons (.asg (.name 4) (.call 114 (.cons (.call 115 (.cons (.var 0) (.cons (.bin .add (.int 4) (.var 3)) .nil)) []) (.cons (.lst true (.cons (.int 2) (.cons (.int 3) (.cons (.int 2) .nil)))) .nil)) [])) (.cons (.asg (.name 5) (.bin .mod (.bcall .int (.cons (.idx (.var 4) (.int 1)) .nil)) (.idx (.var 1) (.str "pages")))) (.cons (.asg (.name 6) (.idx (.lst true (.cons (.tup (.cons (.str "read") (.cons (.var 5) .nil))) (.cons (.tup (.cons (.str "write") (.cons (.var 5) (.cons (.idx (.var 4) (.int 2)) .nil)))) .nil))) (.idx (.var 4) (.int 0)))) (.cons (.for_ (.name 7) (.range1 (.int 26)) (.cons (.asg (.name 8) (.call 118 (.cons (.var 1) .nil) [])) (.cons (.ife (.not (.val (.call 121 (.cons (.meth 106 2 (.var 2) .nil [.non]) (.cons (.var 8) .nil)) []))) (.cons (.ret (.bl false)) .nil) .nil) (.cons (.ife (.cmp .is_ (.var 8) .non) (.cons (.asg (.tup (.cons (.name 9) (.cons (.name 2) .nil))) (.meth 107 2 (.var 2) (.cons .non (.cons .non .nil)) [])) (.cons (.asg (.sub (.var 1) (.str "time")) (.bin .add (.idx (.var 1) (.str "time")) (.int 1))) (.cons (.ife (.bool false (.cons (.cmp .isnot (.var 9) .non) (.cons (.not (.val (.call 122 (.cons (.var 1) (.cons (.var 2) .nil)) []))) .nil))) (.cons (.ret (.bl false)) .nil) .nil) .nil))) (.cons (.asg (.tup (.cons (.name 9) (.cons (.name 2) .nil))) (.meth 107 2 (.var 2) (.cons .non (.cons (.var 6) .nil)) [])) (.cons (.asg (.sub (.var 1) (.str "free")) (.bin .add (.idx (.var 1) (.str "time")) (.call 123 (.cons (.var 1) (.cons (.var 8) (.cons (.var 6) .nil))) []))) (.cons (.asg (.sub (.var 1) (.str "time")) (.bin .add (.idx (.var 1) (.str "time")) (.int 1))) (.cons (.ife (.bool false (.cons (.not (.val (.isin (.var 9) .tuple))) (.cons (.cmp .ne (.idx (.var 9) (.int 0)) (.var 8)) (.cons (.not (.val (.call 122 (.cons (.var 1) (.cons (.var 2) .nil)) []))) .nil)))) (.cons (.ret (.bl false)) .nil) .nil) (.cons .brk .nil)))))) .nil)))) .nil))))) (.cons (.ret (.bl true)) .nil))))
abbrev n_law : List Str := ["_law_script", "_law_world", "_law_moment", "_law_k", "_law_e", "_law_page", "_law_call", "_law_step", "_law_task", "_law_seen"]
theorem hb : headB G B fa = true := by decide +kernel
theorem s_is_integer : FnScope n_is_integer ["thing"] d_is_integer.scope := ⟨rfl, rfl, rfl, by decide +kernel, rfl, by decide +kernel, by decide +kernel⟩
theorem c_is_integer : ∀ F0, chkSs (G.at F0) B ⟨n_is_integer, d_is_integer.scope, none, 0⟩ b_is_integer d_is_integer.body = true := fun F0 => by kernel_rfl
theorem s_in_range : FnScope n_in_range ["thing", "low", "high"] d_in_range.scope := ⟨rfl, rfl, rfl, by decide +kernel, rfl, by decide +kernel, by decide +kernel⟩
theorem c_in_range : ∀ F0, chkSs (G.at F0) B ⟨n_in_range, d_in_range.scope, none, 1⟩ b_in_range d_in_range.body = true := fun F0 => by kernel_rfl
theorem s_is_flag : FnScope n_is_flag ["thing"] d_is_flag.scope := ⟨rfl, rfl, rfl, by decide +kernel, rfl, by decide +kernel, by decide +kernel⟩
theorem c_is_flag : ∀ F0, chkSs (G.at F0) B ⟨n_is_flag, d_is_flag.scope, none, 2⟩ b_is_flag d_is_flag.body = true := fun F0 => by kernel_rfl
theorem s_is_value : FnScope n_is_value ["thing"] d_is_value.scope := ⟨rfl, rfl, rfl, by decide +kernel, rfl, by decide +kernel, by decide +kernel⟩
theorem c_is_value : ∀ F0, chkSs (G.at F0) B ⟨n_is_value, d_is_value.scope, none, 3⟩ b_is_value d_is_value.body = true := fun F0 => by kernel_rfl
theorem s_is_index : FnScope n_is_index ["thing", "many"] d_is_index.scope := ⟨rfl, rfl, rfl, by decide +kernel, rfl, by decide +kernel, by decide +kernel⟩
theorem c_is_index : ∀ F0, chkSs (G.at F0) B ⟨n_is_index, d_is_index.scope, none, 4⟩ b_is_index d_is_index.body = true := fun F0 => by kernel_rfl
theorem s_is_tuple : FnScope n_is_tuple ["thing", "many"] d_is_tuple.scope := ⟨rfl, rfl, rfl, by decide +kernel, rfl, by decide +kernel, by decide +kernel⟩
theorem c_is_tuple : ∀ F0, chkSs (G.at F0) B ⟨n_is_tuple, d_is_tuple.scope, none, 5⟩ b_is_tuple d_is_tuple.body = true := fun F0 => by kernel_rfl
theorem s_climbs : FnScope n_climbs ["items"] d_climbs.scope := ⟨rfl, rfl, rfl, by decide +kernel, rfl, by decide +kernel, by decide +kernel⟩
theorem c_climbs : ∀ F0, chkSs (G.at F0) B ⟨n_climbs, d_climbs.scope, none, 6⟩ b_climbs d_climbs.body = true := fun F0 => by kernel_rfl
theorem s_fits_right : FnScope n_fits_right ["limits", "thing"] d_fits_right.scope := ⟨rfl, rfl, rfl, by decide +kernel, rfl, by decide +kernel, by decide +kernel⟩
theorem c_fits_right : ∀ F0, chkSs (G.at F0) B ⟨n_fits_right, d_fits_right.scope, none, 7⟩ b_fits_right d_fits_right.body = true := fun F0 => by kernel_rfl
theorem s_is_right : FnScope n_is_right ["build", "thing"] d_is_right.scope := ⟨rfl, rfl, rfl, by decide +kernel, rfl, by decide +kernel, by decide +kernel⟩
theorem c_is_right : ∀ F0, chkSs (G.at F0) B ⟨n_is_right, d_is_right.scope, none, 8⟩ b_is_right d_is_right.body = true := fun F0 => by kernel_rfl
theorem s_is_call : FnScope n_is_call ["build", "thing"] d_is_call.scope := ⟨rfl, rfl, rfl, by decide +kernel, rfl, by decide +kernel, by decide +kernel⟩
theorem c_is_call : ∀ F0, chkSs (G.at F0) B ⟨n_is_call, d_is_call.scope, none, 9⟩ b_is_call d_is_call.body = true := fun F0 => by kernel_rfl
theorem c_is_integer_pad10 : ∀ F0, chkSs (G.at F0) B ⟨n_is_integer, d_is_integer.scope, none, 10⟩ b_is_integer d_is_integer.body = true := fun F0 => by kernel_rfl
theorem c_is_integer_pad11 : ∀ F0, chkSs (G.at F0) B ⟨n_is_integer, d_is_integer.scope, none, 11⟩ b_is_integer d_is_integer.body = true := fun F0 => by kernel_rfl
theorem c_is_integer_pad12 : ∀ F0, chkSs (G.at F0) B ⟨n_is_integer, d_is_integer.scope, none, 12⟩ b_is_integer d_is_integer.body = true := fun F0 => by kernel_rfl
theorem c_is_integer_pad13 : ∀ F0, chkSs (G.at F0) B ⟨n_is_integer, d_is_integer.scope, none, 13⟩ b_is_integer d_is_integer.body = true := fun F0 => by kernel_rfl
theorem c_is_integer_pad14 : ∀ F0, chkSs (G.at F0) B ⟨n_is_integer, d_is_integer.scope, none, 14⟩ b_is_integer d_is_integer.body = true := fun F0 => by kernel_rfl
theorem c_is_integer_pad15 : ∀ F0, chkSs (G.at F0) B ⟨n_is_integer, d_is_integer.scope, none, 15⟩ b_is_integer d_is_integer.body = true := fun F0 => by kernel_rfl
theorem c_is_integer_pad16 : ∀ F0, chkSs (G.at F0) B ⟨n_is_integer, d_is_integer.scope, none, 16⟩ b_is_integer d_is_integer.body = true := fun F0 => by kernel_rfl
theorem c_is_integer_pad17 : ∀ F0, chkSs (G.at F0) B ⟨n_is_integer, d_is_integer.scope, none, 17⟩ b_is_integer d_is_integer.body = true := fun F0 => by kernel_rfl
theorem c_is_integer_pad18 : ∀ F0, chkSs (G.at F0) B ⟨n_is_integer, d_is_integer.scope, none, 18⟩ b_is_integer d_is_integer.body = true := fun F0 => by kernel_rfl
theorem c_is_integer_pad19 : ∀ F0, chkSs (G.at F0) B ⟨n_is_integer, d_is_integer.scope, none, 19⟩ b_is_integer d_is_integer.body = true := fun F0 => by kernel_rfl
theorem c_is_integer_pad20 : ∀ F0, chkSs (G.at F0) B ⟨n_is_integer, d_is_integer.scope, none, 20⟩ b_is_integer d_is_integer.body = true := fun F0 => by kernel_rfl
theorem c_is_integer_pad21 : ∀ F0, chkSs (G.at F0) B ⟨n_is_integer, d_is_integer.scope, none, 21⟩ b_is_integer d_is_integer.body = true := fun F0 => by kernel_rfl
theorem s_good_tasks : FnScope n_good_tasks ["tasks"] d_good_tasks.scope := ⟨rfl, rfl, rfl, by decide +kernel, rfl, by decide +kernel, by decide +kernel⟩
theorem c_good_tasks : ∀ F0, chkSs (G.at F0) B ⟨n_good_tasks, d_good_tasks.scope, none, 22⟩ b_good_tasks d_good_tasks.body = true := fun F0 => by kernel_rfl
theorem s_good_pages : FnScope n_good_pages ["pages"] d_good_pages.scope := ⟨rfl, rfl, rfl, by decide +kernel, rfl, by decide +kernel, by decide +kernel⟩
theorem c_good_pages : ∀ F0, chkSs (G.at F0) B ⟨n_good_pages, d_good_pages.scope, none, 23⟩ b_good_pages d_good_pages.body = true := fun F0 => by kernel_rfl
theorem s_good_ports : FnScope n_good_ports ["ports"] d_good_ports.scope := ⟨rfl, rfl, rfl, by decide +kernel, rfl, by decide +kernel, by decide +kernel⟩
theorem c_good_ports : ∀ F0, chkSs (G.at F0) B ⟨n_good_ports, d_good_ports.scope, none, 24⟩ b_good_ports d_good_ports.body = true := fun F0 => by kernel_rfl
theorem s_good_disk : FnScope n_good_disk ["disk"] d_good_disk.scope := ⟨rfl, rfl, rfl, by decide +kernel, rfl, by decide +kernel, by decide +kernel⟩
theorem c_good_disk : ∀ F0, chkSs (G.at F0) B ⟨n_good_disk, d_good_disk.scope, none, 25⟩ b_good_disk d_good_disk.body = true := fun F0 => by kernel_rfl
theorem s_limits_of : FnScope n_limits_of ["task_many", "page_many", "port_many", "lock_many", "disk"] d_limits_of.scope := ⟨rfl, rfl, rfl, by decide +kernel, rfl, by decide +kernel, by decide +kernel⟩
theorem c_limits_of : ∀ F0, chkSs (G.at F0) B ⟨n_limits_of, d_limits_of.scope, none, 26⟩ b_limits_of d_limits_of.body = true := fun F0 => by kernel_rfl
theorem s_good_rights : FnScope n_good_rights ["limits", "rights"] d_good_rights.scope := ⟨rfl, rfl, rfl, by decide +kernel, rfl, by decide +kernel, by decide +kernel⟩
theorem c_good_rights : ∀ F0, chkSs (G.at F0) B ⟨n_good_rights, d_good_rights.scope, none, 27⟩ b_good_rights d_good_rights.body = true := fun F0 => by kernel_rfl
theorem s_good_lines : FnScope n_good_lines ["page_many", "lines"] d_good_lines.scope := ⟨rfl, rfl, rfl, by decide +kernel, rfl, by decide +kernel, by decide +kernel⟩
theorem c_good_lines : ∀ F0, chkSs (G.at F0) B ⟨n_good_lines, d_good_lines.scope, none, 28⟩ b_good_lines d_good_lines.body = true := fun F0 => by kernel_rfl
theorem s_good_costs : FnScope n_good_costs ["costs"] d_good_costs.scope := ⟨rfl, rfl, rfl, by decide +kernel, rfl, by decide +kernel, by decide +kernel⟩
theorem c_good_costs : ∀ F0, chkSs (G.at F0) B ⟨n_good_costs, d_good_costs.scope, none, 29⟩ b_good_costs d_good_costs.body = true := fun F0 => by kernel_rfl
theorem s_good_plan : FnScope n_good_plan ["task_many", "plan"] d_good_plan.scope := ⟨rfl, rfl, rfl, by decide +kernel, rfl, by decide +kernel, by decide +kernel⟩
theorem c_good_plan : ∀ F0, chkSs (G.at F0) B ⟨n_good_plan, d_good_plan.scope, none, 30⟩ b_good_plan d_good_plan.body = true := fun F0 => by kernel_rfl
theorem s_good_outside : FnScope n_good_outside ["port_many", "outside"] d_good_outside.scope := ⟨rfl, rfl, rfl, by decide +kernel, rfl, by decide +kernel, by decide +kernel⟩
theorem c_good_outside : ∀ F0, chkSs (G.at F0) B ⟨n_good_outside, d_good_outside.scope, none, 31⟩ b_good_outside d_good_outside.body = true := fun F0 => by kernel_rfl
theorem s_check_things : FnScope n_check_things ["tasks", "pages", "ports", "locks", "frames", "disk"] d_check_things.scope := ⟨rfl, rfl, rfl, by decide +kernel, rfl, by decide +kernel, by decide +kernel⟩
theorem c_check_things : ∀ F0, chkSs (G.at F0) B ⟨n_check_things, d_check_things.scope, none, 32⟩ b_check_things d_check_things.body = true := fun F0 => by kernel_rfl
theorem s_check_rules : FnScope n_check_rules ["limits", "rights", "lines", "costs", "plan", "outside"] d_check_rules.scope := ⟨rfl, rfl, rfl, by decide +kernel, rfl, by decide +kernel, by decide +kernel⟩
theorem c_check_rules : ∀ F0, chkSs (G.at F0) B ⟨n_check_rules, d_check_rules.scope, none, 33⟩ b_check_rules d_check_rules.body = true := fun F0 => by kernel_rfl
theorem s_check_flags : FnScope n_check_flags ["wipe", "pad", "lend", "share"] d_check_flags.scope := ⟨rfl, rfl, rfl, by decide +kernel, rfl, by decide +kernel, by decide +kernel⟩
theorem c_check_flags : ∀ F0, chkSs (G.at F0) B ⟨n_check_flags, d_check_flags.scope, none, 34⟩ b_check_flags d_check_flags.body = true := fun F0 => by kernel_rfl
theorem s_frozen_plan : FnScope n_frozen_plan ["plan"] d_frozen_plan.scope := ⟨rfl, rfl, rfl, by decide +kernel, rfl, by decide +kernel, by decide +kernel⟩
theorem c_frozen_plan : ∀ F0, chkSs (G.at F0) B ⟨n_frozen_plan, d_frozen_plan.scope, none, 35⟩ b_frozen_plan d_frozen_plan.body = true := fun F0 => by kernel_rfl
theorem s_period_of : FnScope n_period_of ["plan_row", "outside_row"] d_period_of.scope := ⟨rfl, rfl, rfl, by decide +kernel, rfl, by decide +kernel, by decide +kernel⟩
theorem c_period_of : ∀ F0, chkSs (G.at F0) B ⟨n_period_of, d_period_of.scope, none, 36⟩ b_period_of d_period_of.body = true := fun F0 => by kernel_rfl
theorem s_Build___init__ : FnScope n_Build___init__ ["self", "tasks", "pages", "ports", "locks", "frames", "disk", "rights", "lines", "costs", "plan", "outside", "wipe", "pad", "lend", "share"] d_Build___init__.scope := ⟨rfl, rfl, rfl, by decide +kernel, rfl, by decide +kernel, by decide +kernel⟩
theorem c_Build___init__ : ∀ F0, chkSs (G.at F0) B ⟨n_Build___init__, d_Build___init__.scope, none, 37⟩ b_Build___init__ d_Build___init__.body = true := fun F0 => by kernel_rfl
theorem c_is_integer_pad38 : ∀ F0, chkSs (G.at F0) B ⟨n_is_integer, d_is_integer.scope, none, 38⟩ b_is_integer d_is_integer.body = true := fun F0 => by kernel_rfl
theorem c_is_integer_pad39 : ∀ F0, chkSs (G.at F0) B ⟨n_is_integer, d_is_integer.scope, none, 39⟩ b_is_integer d_is_integer.body = true := fun F0 => by kernel_rfl
theorem c_is_integer_pad40 : ∀ F0, chkSs (G.at F0) B ⟨n_is_integer, d_is_integer.scope, none, 40⟩ b_is_integer d_is_integer.body = true := fun F0 => by kernel_rfl
theorem c_is_integer_pad41 : ∀ F0, chkSs (G.at F0) B ⟨n_is_integer, d_is_integer.scope, none, 41⟩ b_is_integer d_is_integer.body = true := fun F0 => by kernel_rfl
theorem c_is_integer_pad42 : ∀ F0, chkSs (G.at F0) B ⟨n_is_integer, d_is_integer.scope, none, 42⟩ b_is_integer d_is_integer.body = true := fun F0 => by kernel_rfl
theorem c_is_integer_pad43 : ∀ F0, chkSs (G.at F0) B ⟨n_is_integer, d_is_integer.scope, none, 43⟩ b_is_integer d_is_integer.body = true := fun F0 => by kernel_rfl
theorem c_is_integer_pad44 : ∀ F0, chkSs (G.at F0) B ⟨n_is_integer, d_is_integer.scope, none, 44⟩ b_is_integer d_is_integer.body = true := fun F0 => by kernel_rfl
theorem c_is_integer_pad45 : ∀ F0, chkSs (G.at F0) B ⟨n_is_integer, d_is_integer.scope, none, 45⟩ b_is_integer d_is_integer.body = true := fun F0 => by kernel_rfl
theorem c_is_integer_pad46 : ∀ F0, chkSs (G.at F0) B ⟨n_is_integer, d_is_integer.scope, none, 46⟩ b_is_integer d_is_integer.body = true := fun F0 => by kernel_rfl
theorem c_is_integer_pad47 : ∀ F0, chkSs (G.at F0) B ⟨n_is_integer, d_is_integer.scope, none, 47⟩ b_is_integer d_is_integer.body = true := fun F0 => by kernel_rfl
theorem c_is_integer_pad48 : ∀ F0, chkSs (G.at F0) B ⟨n_is_integer, d_is_integer.scope, none, 48⟩ b_is_integer d_is_integer.body = true := fun F0 => by kernel_rfl
theorem c_is_integer_pad49 : ∀ F0, chkSs (G.at F0) B ⟨n_is_integer, d_is_integer.scope, none, 49⟩ b_is_integer d_is_integer.body = true := fun F0 => by kernel_rfl
theorem c_is_integer_pad50 : ∀ F0, chkSs (G.at F0) B ⟨n_is_integer, d_is_integer.scope, none, 50⟩ b_is_integer d_is_integer.body = true := fun F0 => by kernel_rfl
theorem c_is_integer_pad51 : ∀ F0, chkSs (G.at F0) B ⟨n_is_integer, d_is_integer.scope, none, 51⟩ b_is_integer d_is_integer.body = true := fun F0 => by kernel_rfl
theorem c_is_integer_pad52 : ∀ F0, chkSs (G.at F0) B ⟨n_is_integer, d_is_integer.scope, none, 52⟩ b_is_integer d_is_integer.body = true := fun F0 => by kernel_rfl
theorem c_is_integer_pad53 : ∀ F0, chkSs (G.at F0) B ⟨n_is_integer, d_is_integer.scope, none, 53⟩ b_is_integer d_is_integer.body = true := fun F0 => by kernel_rfl
theorem c_is_integer_pad54 : ∀ F0, chkSs (G.at F0) B ⟨n_is_integer, d_is_integer.scope, none, 54⟩ b_is_integer d_is_integer.body = true := fun F0 => by kernel_rfl
theorem s_Work___init__ : FnScope n_Work___init__ ["self", "build", "shape"] d_Work___init__.scope := ⟨rfl, rfl, rfl, by decide +kernel, rfl, by decide +kernel, by decide +kernel⟩
theorem c_Work___init__ : ∀ F0, chkSs (G.at F0) B ⟨n_Work___init__, d_Work___init__.scope, none, 55⟩ b_Work___init__ d_Work___init__.body = true := fun F0 => by kernel_rfl
theorem c_is_integer_pad56 : ∀ F0, chkSs (G.at F0) B ⟨n_is_integer, d_is_integer.scope, none, 56⟩ b_is_integer d_is_integer.body = true := fun F0 => by kernel_rfl
theorem s_Work_wake : FnScope n_Work_wake ["self", "task", "answer"] d_Work_wake.scope := ⟨rfl, rfl, rfl, by decide +kernel, rfl, by decide +kernel, by decide +kernel⟩
theorem c_Work_wake : ∀ F0, chkSs (G.at F0) B ⟨n_Work_wake, d_Work_wake.scope, none, 57⟩ b_Work_wake d_Work_wake.body = true := fun F0 => by kernel_rfl
theorem s_Work_ready_tasks : FnScope n_Work_ready_tasks ["self"] d_Work_ready_tasks.scope := ⟨rfl, rfl, rfl, by decide +kernel, rfl, by decide +kernel, by decide +kernel⟩
theorem c_Work_ready_tasks : ∀ F0, chkSs (G.at F0) B ⟨n_Work_ready_tasks, d_Work_ready_tasks.scope, none, 58⟩ b_Work_ready_tasks d_Work_ready_tasks.body = true := fun F0 => by kernel_rfl
theorem s_Work_first_waiting : FnScope n_Work_first_waiting ["self", "port"] d_Work_first_waiting.scope := ⟨rfl, rfl, rfl, by decide +kernel, rfl, by decide +kernel, by decide +kernel⟩
theorem c_Work_first_waiting : ∀ F0, chkSs (G.at F0) B ⟨n_Work_first_waiting, d_Work_first_waiting.scope, none, 59⟩ b_Work_first_waiting d_Work_first_waiting.body = true := fun F0 => by kernel_rfl
theorem s_Work_shape_now : FnScope n_Work_shape_now ["self"] d_Work_shape_now.scope := ⟨rfl, rfl, rfl, by decide +kernel, rfl, by decide +kernel, by decide +kernel⟩
theorem c_Work_shape_now : ∀ F0, chkSs (G.at F0) B ⟨n_Work_shape_now, d_Work_shape_now.scope, none, 60⟩ b_Work_shape_now d_Work_shape_now.body = true := fun F0 => by kernel_rfl
theorem s_deliver : FnScope n_deliver ["work", "port", "letter"] d_deliver.scope := ⟨rfl, rfl, rfl, by decide +kernel, rfl, by decide +kernel, by decide +kernel⟩
theorem c_deliver : ∀ F0, chkSs (G.at F0) B ⟨n_deliver, d_deliver.scope, none, 61⟩ b_deliver d_deliver.body = true := fun F0 => by kernel_rfl
theorem s_sleep_on : FnScope n_sleep_on ["work"] d_sleep_on.scope := ⟨rfl, rfl, rfl, by decide +kernel, rfl, by decide +kernel, by decide +kernel⟩
theorem c_sleep_on : ∀ F0, chkSs (G.at F0) B ⟨n_sleep_on, d_sleep_on.scope, none, 62⟩ b_sleep_on d_sleep_on.body = true := fun F0 => by kernel_rfl
theorem s_call_cost : FnScope n_call_cost ["work", "task", "call"] d_call_cost.scope := ⟨rfl, rfl, rfl, by decide +kernel, rfl, by decide +kernel, by decide +kernel⟩
theorem c_call_cost : ∀ F0, chkSs (G.at F0) B ⟨n_call_cost, d_call_cost.scope, none, 63⟩ b_call_cost d_call_cost.body = true := fun F0 => by kernel_rfl
theorem s_page_answer : FnScope n_page_answer ["work", "task", "call"] d_page_answer.scope := ⟨rfl, rfl, rfl, by decide +kernel, rfl, by decide +kernel, by decide +kernel⟩
theorem c_page_answer : ∀ F0, chkSs (G.at F0) B ⟨n_page_answer, d_page_answer.scope, none, 64⟩ b_page_answer d_page_answer.body = true := fun F0 => by kernel_rfl
theorem s_send_answer : FnScope n_send_answer ["work", "task", "call"] d_send_answer.scope := ⟨rfl, rfl, rfl, by decide +kernel, rfl, by decide +kernel, by decide +kernel⟩
theorem c_send_answer : ∀ F0, chkSs (G.at F0) B ⟨n_send_answer, d_send_answer.scope, none, 65⟩ b_send_answer d_send_answer.body = true := fun F0 => by kernel_rfl
theorem s_take_answer : FnScope n_take_answer ["work", "task", "call"] d_take_answer.scope := ⟨rfl, rfl, rfl, by decide +kernel, rfl, by decide +kernel, by decide +kernel⟩
theorem c_take_answer : ∀ F0, chkSs (G.at F0) B ⟨n_take_answer, d_take_answer.scope, none, 66⟩ b_take_answer d_take_answer.body = true := fun F0 => by kernel_rfl
theorem s_lock_answer : FnScope n_lock_answer ["work", "task", "call"] d_lock_answer.scope := ⟨rfl, rfl, rfl, by decide +kernel, rfl, by decide +kernel, by decide +kernel⟩
theorem c_lock_answer : ∀ F0, chkSs (G.at F0) B ⟨n_lock_answer, d_lock_answer.scope, none, 67⟩ b_lock_answer d_lock_answer.body = true := fun F0 => by kernel_rfl
theorem s_free_answer : FnScope n_free_answer ["work", "task", "call"] d_free_answer.scope := ⟨rfl, rfl, rfl, by decide +kernel, rfl, by decide +kernel, by decide +kernel⟩
theorem c_free_answer : ∀ F0, chkSs (G.at F0) B ⟨n_free_answer, d_free_answer.scope, none, 68⟩ b_free_answer d_free_answer.body = true := fun F0 => by kernel_rfl
theorem s_hand_answer : FnScope n_hand_answer ["work", "task", "call"] d_hand_answer.scope := ⟨rfl, rfl, rfl, by decide +kernel, rfl, by decide +kernel, by decide +kernel⟩
theorem c_hand_answer : ∀ F0, chkSs (G.at F0) B ⟨n_hand_answer, d_hand_answer.scope, none, 69⟩ b0_hand_answer d_hand_answer.body = true := fun F0 => by kernel_rfl
theorem s_strip_answer : FnScope n_strip_answer ["work", "task", "call"] d_strip_answer.scope := ⟨rfl, rfl, rfl, by decide +kernel, rfl, by decide +kernel, by decide +kernel⟩
theorem c_strip_answer : ∀ F0, chkSs (G.at F0) B ⟨n_strip_answer, d_strip_answer.scope, none, 70⟩ b0_strip_answer d_strip_answer.body = true := fun F0 => by kernel_rfl
theorem s_seek_answer : FnScope n_seek_answer ["work", "task", "call"] d_seek_answer.scope := ⟨rfl, rfl, rfl, by decide +kernel, rfl, by decide +kernel, by decide +kernel⟩
theorem c_seek_answer : ∀ F0, chkSs (G.at F0) B ⟨n_seek_answer, d_seek_answer.scope, none, 71⟩ b_seek_answer d_seek_answer.body = true := fun F0 => by kernel_rfl
theorem s_get_answer : FnScope n_get_answer ["work", "task"] d_get_answer.scope := ⟨rfl, rfl, rfl, by decide +kernel, rfl, by decide +kernel, by decide +kernel⟩
theorem c_get_answer : ∀ F0, chkSs (G.at F0) B ⟨n_get_answer, d_get_answer.scope, none, 72⟩ b_get_answer d_get_answer.body = true := fun F0 => by kernel_rfl
theorem s_give_answer : FnScope n_give_answer ["work", "task"] d_give_answer.scope := ⟨rfl, rfl, rfl, by decide +kernel, rfl, by decide +kernel, by decide +kernel⟩
theorem c_give_answer : ∀ F0, chkSs (G.at F0) B ⟨n_give_answer, d_give_answer.scope, none, 73⟩ b_give_answer d_give_answer.body = true := fun F0 => by kernel_rfl
theorem s_object_answer : FnScope n_object_answer ["work", "task", "call"] d_object_answer.scope := ⟨rfl, rfl, rfl, by decide +kernel, rfl, by decide +kernel, by decide +kernel⟩
theorem c_object_answer : ∀ F0, chkSs (G.at F0) B ⟨n_object_answer, d_object_answer.scope, none, 74⟩ b_object_answer d_object_answer.body = true := fun F0 => by kernel_rfl
theorem s_answer_of : FnScope n_answer_of ["work", "task", "call"] d_answer_of.scope := ⟨rfl, rfl, rfl, by decide +kernel, rfl, by decide +kernel, by decide +kernel⟩
theorem c_answer_of : ∀ F0, chkSs (G.at F0) B ⟨n_answer_of, d_answer_of.scope, none, 75⟩ b_answer_of d_answer_of.body = true := fun F0 => by kernel_rfl
theorem s_make_call : FnScope n_make_call ["work", "task", "call"] d_make_call.scope := ⟨rfl, rfl, rfl, by decide +kernel, rfl, by decide +kernel, by decide +kernel⟩
theorem c_make_call : ∀ F0, chkSs (G.at F0) B ⟨n_make_call, d_make_call.scope, none, 76⟩ b_make_call d_make_call.body = true := fun F0 => by kernel_rfl
theorem s_slot_at : FnScope n_slot_at ["build", "phase"] d_slot_at.scope := ⟨rfl, rfl, rfl, by decide +kernel, rfl, by decide +kernel, by decide +kernel⟩
theorem c_slot_at : ∀ F0, chkSs (G.at F0) B ⟨n_slot_at, d_slot_at.scope, none, 77⟩ b_slot_at d_slot_at.body = true := fun F0 => by kernel_rfl
theorem s_lenders : FnScope n_lenders ["work", "task"] d_lenders.scope := ⟨rfl, rfl, rfl, by decide +kernel, rfl, by decide +kernel, by decide +kernel⟩
theorem c_lenders : ∀ F0, chkSs (G.at F0) B ⟨n_lenders, d_lenders.scope, none, 78⟩ b0_lenders d_lenders.body = true := fun F0 => by kernel_rfl
theorem s_level_of : FnScope n_level_of ["work", "task"] d_level_of.scope := ⟨rfl, rfl, rfl, by decide +kernel, rfl, by decide +kernel, by decide +kernel⟩
theorem c_level_of : ∀ F0, chkSs (G.at F0) B ⟨n_level_of, d_level_of.scope, none, 79⟩ b0_level_of d_level_of.body = true := fun F0 => by kernel_rfl
theorem s_change : FnScope n_change ["work", "task"] d_change.scope := ⟨rfl, rfl, rfl, by decide +kernel, rfl, by decide +kernel, by decide +kernel⟩
theorem c_change : ∀ F0, chkSs (G.at F0) B ⟨n_change, d_change.scope, none, 80⟩ b_change d_change.body = true := fun F0 => by kernel_rfl
theorem s_chosen_candidate : FnScope n_chosen_candidate ["candidates", "runner"] d_chosen_candidate.scope := ⟨rfl, rfl, rfl, by decide +kernel, rfl, by decide +kernel, by decide +kernel⟩
theorem c_chosen_candidate : ∀ F0, chkSs (G.at F0) B ⟨n_chosen_candidate, d_chosen_candidate.scope, none, 81⟩ b0_chosen_candidate d_chosen_candidate.body = true := fun F0 => by kernel_rfl
theorem s_turn_by_levels : FnScope n_turn_by_levels ["work"] d_turn_by_levels.scope := ⟨rfl, rfl, rfl, by decide +kernel, rfl, by decide +kernel, by decide +kernel⟩
theorem c_turn_by_levels : ∀ F0, chkSs (G.at F0) B ⟨n_turn_by_levels, d_turn_by_levels.scope, none, 82⟩ b0_turn_by_levels d_turn_by_levels.body = true := fun F0 => by kernel_rfl
theorem s_turn_by_slots : FnScope n_turn_by_slots ["work"] d_turn_by_slots.scope := ⟨rfl, rfl, rfl, by decide +kernel, rfl, by decide +kernel, by decide +kernel⟩
theorem c_turn_by_slots : ∀ F0, chkSs (G.at F0) B ⟨n_turn_by_slots, d_turn_by_slots.scope, none, 83⟩ b_turn_by_slots d_turn_by_slots.body = true := fun F0 => by kernel_rfl
theorem s_turn : FnScope n_turn ["work"] d_turn.scope := ⟨rfl, rfl, rfl, by decide +kernel, rfl, by decide +kernel, by decide +kernel⟩
theorem c_turn : ∀ F0, chkSs (G.at F0) B ⟨n_turn, d_turn.scope, none, 84⟩ b_turn d_turn.body = true := fun F0 => by kernel_rfl
theorem s_opened : FnScope n_opened ["build", "shape", "outside"] d_opened.scope := ⟨rfl, rfl, rfl, by decide +kernel, rfl, by decide +kernel, by decide +kernel⟩
theorem c_opened : ∀ F0, chkSs (G.at F0) B ⟨n_opened, d_opened.scope, none, 85⟩ b_opened d_opened.body = true := fun F0 => by kernel_rfl
theorem s_closed : FnScope n_closed ["work", "task", "call"] d_closed.scope := ⟨rfl, rfl, rfl, by decide +kernel, rfl, by decide +kernel, by decide +kernel⟩
theorem c_closed : ∀ F0, chkSs (G.at F0) B ⟨n_closed, d_closed.scope, none, 86⟩ b_closed d_closed.body = true := fun F0 => by kernel_rfl
theorem c_is_integer_pad87 : ∀ F0, chkSs (G.at F0) B ⟨n_is_integer, d_is_integer.scope, none, 87⟩ b_is_integer d_is_integer.body = true := fun F0 => by kernel_rfl
theorem c_is_integer_pad88 : ∀ F0, chkSs (G.at F0) B ⟨n_is_integer, d_is_integer.scope, none, 88⟩ b_is_integer d_is_integer.body = true := fun F0 => by kernel_rfl
theorem s_Moment___init__ : FnScope n_Moment___init__ ["self", "build", "shape"] d_Moment___init__.scope := ⟨rfl, rfl, rfl, by decide +kernel, rfl, by decide +kernel, by decide +kernel⟩
theorem c_Moment___init__ : ∀ F0, chkSs (G.at F0) B ⟨n_Moment___init__, d_Moment___init__.scope, none, 89⟩ b_Moment___init__ d_Moment___init__.body = true := fun F0 => by kernel_rfl
theorem c_is_integer_pad90 : ∀ F0, chkSs (G.at F0) B ⟨n_is_integer, d_is_integer.scope, none, 90⟩ b_is_integer d_is_integer.body = true := fun F0 => by kernel_rfl
theorem c_is_integer_pad91 : ∀ F0, chkSs (G.at F0) B ⟨n_is_integer, d_is_integer.scope, none, 91⟩ b_is_integer d_is_integer.body = true := fun F0 => by kernel_rfl
theorem c_is_integer_pad92 : ∀ F0, chkSs (G.at F0) B ⟨n_is_integer, d_is_integer.scope, none, 92⟩ b_is_integer d_is_integer.body = true := fun F0 => by kernel_rfl
theorem c_is_integer_pad93 : ∀ F0, chkSs (G.at F0) B ⟨n_is_integer, d_is_integer.scope, none, 93⟩ b_is_integer d_is_integer.body = true := fun F0 => by kernel_rfl
theorem c_is_integer_pad94 : ∀ F0, chkSs (G.at F0) B ⟨n_is_integer, d_is_integer.scope, none, 94⟩ b_is_integer d_is_integer.body = true := fun F0 => by kernel_rfl
theorem c_is_integer_pad95 : ∀ F0, chkSs (G.at F0) B ⟨n_is_integer, d_is_integer.scope, none, 95⟩ b_is_integer d_is_integer.body = true := fun F0 => by kernel_rfl
theorem c_is_integer_pad96 : ∀ F0, chkSs (G.at F0) B ⟨n_is_integer, d_is_integer.scope, none, 96⟩ b_is_integer d_is_integer.body = true := fun F0 => by kernel_rfl
theorem c_is_integer_pad97 : ∀ F0, chkSs (G.at F0) B ⟨n_is_integer, d_is_integer.scope, none, 97⟩ b_is_integer d_is_integer.body = true := fun F0 => by kernel_rfl
theorem c_is_integer_pad98 : ∀ F0, chkSs (G.at F0) B ⟨n_is_integer, d_is_integer.scope, none, 98⟩ b_is_integer d_is_integer.body = true := fun F0 => by kernel_rfl
theorem s_Moment_lines : FnScope n_Moment_lines ["self"] d_Moment_lines.scope := ⟨rfl, rfl, rfl, by decide +kernel, rfl, by decide +kernel, by decide +kernel⟩
theorem c_Moment_lines : ∀ F0, chkSs (G.at F0) B ⟨n_Moment_lines, d_Moment_lines.scope, none, 99⟩ b_Moment_lines d_Moment_lines.body = true := fun F0 => by kernel_rfl
theorem c_is_integer_pad100 : ∀ F0, chkSs (G.at F0) B ⟨n_is_integer, d_is_integer.scope, none, 100⟩ b_is_integer d_is_integer.body = true := fun F0 => by kernel_rfl
theorem s_Moment_running : FnScope n_Moment_running ["self"] d_Moment_running.scope := ⟨rfl, rfl, rfl, by decide +kernel, rfl, by decide +kernel, by decide +kernel⟩
theorem c_Moment_running : ∀ F0, chkSs (G.at F0) B ⟨n_Moment_running, d_Moment_running.scope, none, 101⟩ b_Moment_running d_Moment_running.body = true := fun F0 => by kernel_rfl
theorem c_is_integer_pad102 : ∀ F0, chkSs (G.at F0) B ⟨n_is_integer, d_is_integer.scope, none, 102⟩ b_is_integer d_is_integer.body = true := fun F0 => by kernel_rfl
theorem s_letter_may_come : FnScope n_letter_may_come ["moment"] d_letter_may_come.scope := ⟨rfl, rfl, rfl, by decide +kernel, rfl, by decide +kernel, by decide +kernel⟩
theorem c_letter_may_come : ∀ F0, chkSs (G.at F0) B ⟨n_letter_may_come, d_letter_may_come.scope, none, 103⟩ b_letter_may_come d_letter_may_come.body = true := fun F0 => by kernel_rfl
theorem s_need_letter : FnScope n_need_letter ["moment", "outside"] d_need_letter.scope := ⟨rfl, rfl, rfl, by decide +kernel, rfl, by decide +kernel, by decide +kernel⟩
theorem c_need_letter : ∀ F0, chkSs (G.at F0) B ⟨n_need_letter, d_need_letter.scope, none, 104⟩ b_need_letter d_need_letter.body = true := fun F0 => by kernel_rfl
theorem s_seen_next : FnScope n_seen_next ["moment", "outside"] d_seen_next.scope := ⟨rfl, rfl, rfl, by decide +kernel, rfl, by decide +kernel, by decide +kernel⟩
theorem c_seen_next : ∀ F0, chkSs (G.at F0) B ⟨n_seen_next, d_seen_next.scope, none, 105⟩ b_seen_next d_seen_next.body = true := fun F0 => by kernel_rfl
theorem s_Moment_due : FnScope n_Moment_due ["self", "outside"] d_Moment_due.scope := ⟨rfl, rfl, rfl, by decide +kernel, rfl, by decide +kernel, by decide +kernel⟩
theorem c_Moment_due : ∀ F0, chkSs (G.at F0) B ⟨n_Moment_due, d_Moment_due.scope, none, 106⟩ b_Moment_due d_Moment_due.body = true := fun F0 => by kernel_rfl
theorem s_Moment_tick : FnScope n_Moment_tick ["self", "outside", "call"] d_Moment_tick.scope := ⟨rfl, rfl, rfl, by decide +kernel, rfl, by decide +kernel, by decide +kernel⟩
theorem c_Moment_tick : ∀ F0, chkSs (G.at F0) B ⟨n_Moment_tick, d_Moment_tick.scope, none, 107⟩ b_Moment_tick d_Moment_tick.body = true := fun F0 => by kernel_rfl
theorem c_is_integer_pad108 : ∀ F0, chkSs (G.at F0) B ⟨n_is_integer, d_is_integer.scope, none, 108⟩ b_is_integer d_is_integer.body = true := fun F0 => by kernel_rfl
theorem c_is_integer_pad109 : ∀ F0, chkSs (G.at F0) B ⟨n_is_integer, d_is_integer.scope, none, 109⟩ b_is_integer d_is_integer.body = true := fun F0 => by kernel_rfl
theorem c_is_integer_pad110 : ∀ F0, chkSs (G.at F0) B ⟨n_is_integer, d_is_integer.scope, none, 110⟩ b_is_integer d_is_integer.body = true := fun F0 => by kernel_rfl
theorem c_is_integer_pad111 : ∀ F0, chkSs (G.at F0) B ⟨n_is_integer, d_is_integer.scope, none, 111⟩ b_is_integer d_is_integer.body = true := fun F0 => by kernel_rfl
theorem c_is_integer_pad112 : ∀ F0, chkSs (G.at F0) B ⟨n_is_integer, d_is_integer.scope, none, 112⟩ b_is_integer d_is_integer.body = true := fun F0 => by kernel_rfl
theorem s_first : FnScope n_first ["build"] d_first.scope := ⟨rfl, rfl, rfl, by decide +kernel, rfl, by decide +kernel, by decide +kernel⟩
theorem c_first : ∀ F0, chkSs (G.at F0) B ⟨n_first, d_first.scope, none, 113⟩ b_first d_first.body = true := fun F0 => by kernel_rfl
theorem s__law_digits : FnScope n__law_digits ["_law_cell_here", "_law_sizes"] d__law_digits.scope := ⟨rfl, rfl, rfl, by decide +kernel, rfl, by decide +kernel, by decide +kernel⟩
theorem c__law_digits : ∀ F0, chkSs (G.at F0) B ⟨n__law_digits, d__law_digits.scope, none, 114⟩ b__law_digits d__law_digits.body = true := fun F0 => by kernel_rfl
theorem s__law_cell : FnScope n__law_cell ["_law_script", "_law_k"] d__law_cell.scope := ⟨rfl, rfl, rfl, by decide +kernel, rfl, by decide +kernel, by decide +kernel⟩
theorem c__law_cell : ∀ F0, chkSs (G.at F0) B ⟨n__law_cell, d__law_cell.scope, none, 115⟩ b__law_cell d__law_cell.body = true := fun F0 => by kernel_rfl
theorem s__law_started : FnScope n__law_started ["_law_script"] d__law_started.scope := ⟨rfl, rfl, rfl, by decide +kernel, rfl, by decide +kernel, by decide +kernel⟩
theorem c__law_started : ∀ F0, chkSs (G.at F0) B ⟨n__law_started, d__law_started.scope, none, 116⟩ b__law_started d__law_started.body = true := fun F0 => by kernel_rfl
theorem s__law_built : FnScope n__law_built ["_law_world"] d__law_built.scope := ⟨rfl, rfl, rfl, by decide +kernel, rfl, by decide +kernel, by decide +kernel⟩
theorem c__law_built : ∀ F0, chkSs (G.at F0) B ⟨n__law_built, d__law_built.scope, none, 117⟩ b__law_built d__law_built.body = true := fun F0 => by kernel_rfl
theorem s__law_turn : FnScope n__law_turn ["_law_world"] d__law_turn.scope := ⟨rfl, rfl, rfl, by decide +kernel, rfl, by decide +kernel, by decide +kernel⟩
theorem c__law_turn : ∀ F0, chkSs (G.at F0) B ⟨n__law_turn, d__law_turn.scope, none, 118⟩ b__law_turn d__law_turn.body = true := fun F0 => by kernel_rfl
theorem s__law_same : FnScope n__law_same_0 ["_law_told", "_law_due"] d__law_same.scope := ⟨rfl, rfl, rfl, by decide +kernel, rfl, by decide +kernel, by decide +kernel⟩
theorem c__law_same_0 : ∀ F0, chkSs (G.at F0) B ⟨n__law_same_0, d__law_same.scope, none, 119⟩ b__law_same_0 d__law_same.body = true := fun F0 => by kernel_rfl
theorem c__law_same_1 : ∀ F0, chkSs (G.at F0) B ⟨n__law_same_1, d__law_same.scope, none, 120⟩ b__law_same_1 d__law_same.body = true := fun F0 => by kernel_rfl
theorem c__law_same_2 : ∀ F0, chkSs (G.at F0) B ⟨n__law_same_2, d__law_same.scope, none, 121⟩ b__law_same_2 d__law_same.body = true := fun F0 => by kernel_rfl
theorem s__law_stands : FnScope n__law_stands ["_law_world", "_law_moment"] d__law_stands.scope := ⟨rfl, rfl, rfl, by decide +kernel, rfl, by decide +kernel, by decide +kernel⟩
theorem c__law_stands : ∀ F0, chkSs (G.at F0) B ⟨n__law_stands, d__law_stands.scope, none, 122⟩ b__law_stands d__law_stands.body = true := fun F0 => by kernel_rfl
theorem s__law_cost : FnScope n__law_cost ["_law_world", "_law_task", "_law_call"] d__law_cost.scope := ⟨rfl, rfl, rfl, by decide +kernel, rfl, by decide +kernel, by decide +kernel⟩
theorem c__law_cost : ∀ F0, chkSs (G.at F0) B ⟨n__law_cost, d__law_cost.scope, none, 123⟩ b__law_cost d__law_cost.body = true := fun F0 => by kernel_rfl
theorem s_law : FnScope n_law ["_law_script"] d_law.scope := ⟨rfl, rfl, rfl, by decide +kernel, rfl, by decide +kernel, by decide +kernel⟩
theorem c_law : ∀ F0, chkSs (G.at F0) B ⟨n_law, d_law.scope, none, 124⟩ b_law d_law.body = true := fun F0 => by kernel_rfl
end HT
set_option Elab.async false
set_option linter.all false
set_option maxRecDepth 100000
set_option maxHeartbeats 0
namespace HT
open PySem PySem.Spec PyProof.Rows L2 Z
end HT
/-! the hook with a shorter list of objects -/
namespace Z
open PySem PySem.Spec PyProof.Rows L2
def refsY (o : Obj) : List Addr := match o.data with
  | .func fd => He.refV fd.code ++ (He.refV fd.defaults ++ He.refV fd.kwdefaults)
  | .cls cd => [cd.ns]
  | .dict es _ => es.toList.flatMap fun e => He.refV e.val
  | _ => []
def nextY (g : Addr → Option Obj) (as : List Addr) : List Addr := as.flatMap fun a => match g a with
  | some o => refsY o
  | none => []
def asY (g : Addr → Option Obj) : List Addr :=
  let l1 := nextY g [mainGlobals]
  let l2 := nextY g l1
  let l3 := nextY g l2
  mainGlobals :: (l1 ++ (l2 ++ (l3 ++ nextY g l3)))
def obY (fa : List He.Fa) (dl : List He.DefD) (B : Tb) (g : Addr → Option Obj) : He.AlT × Bool := (He.obsT fa dl (tabsOf B) (He.frG g (asY g)), moreB B (He.frG g (asY g)))
def hookY (fa : List He.Fa) (dl : List He.DefD) (B : Tb) : PySem.W.Hook where
  α := He.AlT × Bool
  obs := fun s => obY fa dl B s.heap.get?
  val := fun w => (He.valT dl (tabsOf B) w, true)
  says := fun w h => ∃ K : PySem.W.Frag, K.In h ∧ SaysZ fa dl B w K
  of := fun w s e =>
    have e1 : He.obsT fa dl (tabsOf B) (He.frG s.heap.get? (asY s.heap.get?)) = He.valT dl (tabsOf B) w := congrArg (fun z : He.AlT × Bool => z.1) e
    ⟨He.frG s.heap.get? (asY s.heap.get?), He.frG_in, He.SaysT.d (w := w) e1, e1, congrArg (fun z : He.AlT × Bool => z.2) e⟩
  keeps := fun _ _ _ ⟨K, hK, c⟩ k => ⟨K, PySem.W.Frag.In.keeps hK k, c⟩
theorem obY_eq {fa : List He.Fa} {dl : List He.DefD} {B : Tb} {g : Addr → Option Obj} {s : Shared} (h : ∀ a, g a = s.heap.get? a) : obY fa dl B g = (hookY fa dl B).obs s := by
  have e : g = s.heap.get? := funext h
  rw [e]
  rfl
end Z
namespace HT
open PySem PySem.Spec PyProof.Rows L2 Z
def loose : List Str := (["_wall", "calls_of_right", "calls_worth_trying", "is_integer", "in_range", "is_flag", "is_value", "is_index", "is_tuple", "climbs", "fits_right", "is_right"] : List Str) ++ (["is_call", "is_task", "need_task", "deliver", "sleep_on", "call_cost", "page_answer", "send_answer", "take_answer", "lock_answer", "free_answer", "hand_answer"] : List Str) ++ (["strip_answer", "seek_answer", "get_answer", "give_answer", "object_answer", "answer_of", "make_call", "slot_at", "lenders", "level_of", "change", "chosen_candidate"] : List Str) ++ (["turn_by_levels", "turn_by_slots", "turn", "opened", "closed", "first", "letter_may_come", "need_letter", "seen_next", "turn_calls", "worth_trying", "good_tasks"] : List Str) ++ (["good_pages", "good_ports", "good_disk", "limits_of", "good_rights", "good_lines", "good_costs", "good_plan", "good_outside", "check_things", "check_rules", "check_flags"] : List Str) ++ (["frozen_plan", "period_of", "_law_cell", "_law_digits", "_law_same", "_law_started", "_law_built", "_law_turn", "_law_cost", "_law_stands", "KernelError", "NoTask"] : List Str) ++ (["NoLetter", "NoCall", "NoBuild", "Work", "Moment", "Build", "NAMED"] : List Str)
abbrev R : PySem.W.OpenRow := PySem.W.OpenLaw.row PySem.Challenge.rw_hushkernel_k15_cache_lines
abbrev hk : PySem.W.Hook := hookY fa dl B
def ob (s : PySem.W.SharedT) : He.AlT × Bool := obY fa dl B (HandSHeadRun.getT s)
theorem ob_eq (s : PySem.W.SharedT) : ob s = hk.obs s.abs := obY_eq (HandSHeadRun.getT_eq s)
def W2 (w : World) (b : Bool) : World := { w with params := { w.params with followText := fun s => if s = "special-get-raises" then b else w.params.followText s } }
theorem W2_eq (w : World) : W2 w (w.params.followText "special-get-raises") = w := by
  unfold W2
  have : (fun s => if s = "special-get-raises" then w.params.followText "special-get-raises" else w.params.followText s) = w.params.followText := by
    funext s
    split
    · rename_i h; rw [h]
    · rfl
  rw [this]
theorem runT (w : World) : HandSHeadRun.RunEq R (PySem.W.view R.prog [89]) hk ob 6000 loose (W2 w true) := by
  intro os
  kernel_rfl
theorem runF (w : World) : HandSHeadRun.RunEq R (PySem.W.view R.prog [89]) hk ob 6000 loose (W2 w false) := by
  intro os
  kernel_rfl
theorem runB (w : World) (b : Bool) : HandSHeadRun.RunEq R (PySem.W.view R.prog [89]) hk ob 6000 loose (W2 w b) := by
  cases b
  · exact runF w
  · exact runT w
theorem run (w : World) : HandSHeadRun.RunEq R (PySem.W.view R.prog [89]) hk ob 6000 loose w := by
  have h := runB w (w.params.followText "special-get-raises")
  rw [W2_eq] at h
  exact h
end HT
set_option Elab.async false
set_option linter.all false
set_option maxRecDepth 100000
set_option maxHeartbeats 400000
namespace HT
open PySem PySem.Spec PyProof.Rows L2 Z
/-! ### the pool of rights -/
abbrev rgt (s : Str) (k : Int) : PV := .tup [.str s, .int k]
def rowOf (s : Str) (n : Nat) : List PV := (List.range n).map fun k => rgt s (k : Nat)
def asR (s : Str) : PV → PV
  | .int k => rgt s k
  | _ => .non
theorem map_asR (s : Str) (n : Nat) : (rangeL 0 n).map (asR s) = rowOf s n := by
  unfold rangeL rowOf
  rw [List.map_map]
  refine List.map_congr_left fun k _ => ?_
  show rgt s (0 + (k : Int)) = rgt s k
  rw [Int.zero_add]
def pool (nt np nq nl : Nat) (dk : Int) : List PV := rowOf "hand" nt ++ rowOf "lock" nl ++ rowOf "read" np ++ (if 0 < dk then [rgt "seek" 0] else []) ++ rowOf "send" nq ++ rowOf "strip" nt ++ rowOf "take" nq ++ rowOf "write" np
abbrev pr2 (t : Int × Int) : PV := .tup [.int t.1, .int t.2]
/-- a plan for n tasks -/
def PlanP (n : Int) (p : PV) : Prop := (∃ k : Int, (1 ≤ k ∧ k ≤ 8) ∧ p = .tup [.str "levels", .int k]) ∨ ∃ rows : List (Int × Int), (1 ≤ rows.length ∧ rows.length ≤ 4) ∧ (∀ t ∈ rows, (0 ≤ t.1 ∧ t.1 < n) ∧ 1 ≤ t.2 ∧ t.2 ≤ 12) ∧ p = .tup [.str "slots", .lst (rows.map pr2)]
/-- a build's parts -/
structure Pt where
  ts : List (Int × Int)
  ps : List Int
  qs : List Int
  nl : Nat
  fr : Int
  dk : Int
  rs : List (List PV)
  ls : List PV
  c0 : Int
  c1 : Int
  c2 : Int
  pl : PV
  ou : PV
  b0 : Bool
  b1 : Bool
  b2 : Bool
  b3 : Bool
def OutP (n : Nat) (p : PV) : Prop := p = .non ∨ ∃ a b : Int, (0 ≤ a ∧ a < n) ∧ (1 ≤ b ∧ b ≤ 4) ∧ p = .tup [.int a, .int b]
structure Pt.Ok (p : Pt) : Prop where
  t1 : 2 ≤ p.ts.length ∧ p.ts.length ≤ 4
  t2 : ∀ t ∈ p.ts, (0 ≤ t.1 ∧ t.1 ≤ 3) ∧ 0 ≤ t.2 ∧ t.2 ≤ 2
  t3 : ∃ t ∈ p.ts, ∃ u ∈ p.ts, t.1 ≠ u.1
  p1 : p.ps.length ≤ 3
  p2 : ∀ n ∈ p.ps, 0 ≤ n ∧ n ≤ 1
  q1 : p.qs.length ≤ 2
  q2 : ∀ n ∈ p.qs, 1 ≤ n ∧ n ≤ 2
  l1 : p.nl ≤ 2
  f1 : 0 ≤ p.fr ∧ p.fr ≤ 3
  d1 : p.dk = 0 ∨ p.dk = 2 ∨ p.dk = 3 ∨ p.dk = 4
  r1 : p.rs.length = p.ts.length
  r2 : ∀ r ∈ p.rs, r.Sublist (pool p.ts.length p.ps.length p.qs.length p.nl p.dk) ∧ r.length ≤ 8
  s1 : p.ls.length = p.ps.length
  s2 : ∀ x ∈ p.ls, x = .non ∨ x = .int 0 ∨ x = .int 1
  c1 : (1 ≤ p.c0 ∧ p.c0 ≤ 3) ∧ (0 ≤ p.c1 ∧ p.c1 ≤ 3) ∧ 0 ≤ p.c2 ∧ p.c2 ≤ 2
  g1 : PlanP p.ts.length p.pl
  o1 : OutP p.qs.length p.ou
abbrev Pt.tl (p : Pt) : PV := .lst (p.ts.map pr2)
abbrev Pt.rl (p : Pt) : PV := .lst (p.rs.map PV.lst)
abbrev Pt.cs (p : Pt) : PV := .tup [.int p.c0, .int p.c1, .int p.c2]
def Pt.items (p : Pt) : List PV := [p.tl, .lst (p.ps.map PV.int), .lst (p.qs.map PV.int), .int p.nl, .int p.fr, .int p.dk, p.rl, .lst p.ls, p.cs, p.pl, p.ou, .bl p.b0, .bl p.b1, .bl p.b2, .bl p.b3]
end HT
set_option Elab.async false
set_option linter.all false
set_option maxRecDepth 100000
set_option maxHeartbeats 400000
namespace HT
open PySem PySem.Spec PyProof.Rows L2 Z
/-! ### what the build's checks promise -/
def sp_good_tasks : ZSp := fun vs M Q _ => ∃ ts : List (Int × Int), vs = [.lst (ts.map pr2)] ∧ (2 ≤ ts.length ∧ ts.length ≤ 4) ∧ (∀ t ∈ ts, (0 ≤ t.1 ∧ t.1 ≤ 3) ∧ 0 ≤ t.2 ∧ t.2 ≤ 2) ∧ (∃ t ∈ ts, ∃ u ∈ ts, t.1 ≠ u.1) ∧ Q (.bl true) M
def sp_good_pages : ZSp := fun vs M Q _ => ∃ ps : List Int, vs = [.lst (ps.map PV.int)] ∧ ps.length ≤ 3 ∧ (∀ n ∈ ps, 0 ≤ n ∧ n ≤ 1) ∧ Q (.bl true) M
def sp_good_ports : ZSp := fun vs M Q _ => ∃ qs : List Int, vs = [.lst (qs.map PV.int)] ∧ qs.length ≤ 2 ∧ (∀ n ∈ qs, 1 ≤ n ∧ n ≤ 2) ∧ Q (.bl true) M
def limK : List Key := (["hand", "lock", "read", "seek", "send", "strip", "take", "write"] : List Str).map Sum.inr
def lims (nt np nq nl : Nat) (dk : Int) : PV := .dct limK [.int nt, .int nl, .int np, .int (if 0 < dk then 1 else 0), .int nq, .int nt, .int nq, .int np]
def sp_limits_of : ZSp := fun vs M Q _ => ∃ (nt np nq nl : Nat) (dk : Int), vs = [.int nt, .int np, .int nq, .int nl, .int dk] ∧ Q (lims nt np nq nl dk) M
def ltR (x y : PV) : Prop := ∃ xs ys, x = .tup xs ∧ y = .tup ys ∧ okD 40 (.tup xs) = true ∧ okD 40 (.tup ys) = true ∧ palikes xs ys = true ∧ plts xs ys = true
def sp_climbs : ZSp := fun vs M Q _ => ∃ row : List PV, vs = [.lst row] ∧ row.length ≤ 100 ∧ row.Pairwise ltR ∧ Q (.bl true) M
def sp_good_rights : ZSp := fun vs M Q _ => ∃ (nt np nq nl : Nat) (dk : Int) (rs : List (List PV)), vs = [lims nt np nq nl dk, .lst (rs.map PV.lst)] ∧ (rs.length = nt ∧ nt ≤ 4) ∧ (∀ r ∈ rs, r.Sublist (pool nt np nq nl dk) ∧ r.length ≤ 8) ∧ Q (.bl true) M
def sp_good_lines : ZSp := fun vs M Q _ => ∃ (np : Nat) (ls : List PV), vs = [.int np, .lst ls] ∧ (ls.length = np ∧ np ≤ 3) ∧ (∀ x ∈ ls, x = .non ∨ x = .int 0 ∨ x = .int 1) ∧ Q (.bl true) M
def sp_good_plan : ZSp := fun vs M Q _ => ∃ (n : Int) (p : PV), vs = [.int n, p] ∧ PlanP n p ∧ Q (.bl true) M
/-- a plan with its rows as a tuple -/
def frz (p : PV) : PV := match p with
  | .tup [.str s, .lst rows] => .tup [.str s, .tup rows]
  | p => p
def total (p : PV) : Int := match p with
  | .tup [_, .tup rows] => (rows.map fun r => match r with | .tup [_, .int b] => b | _ => 0).sum
  | _ => 1
def every (p : PV) : Int := match p with
  | .tup [_, .int b] => b
  | _ => 1
def per (t e : Int) : Int := if t % e = 0 then t else if (t + t) % e = 0 then t + t else if (t + t + t) % e = 0 then t + t + t else t + t + t + t
def sp_period_of : ZSp := fun vs M Q _ => ∃ (n : Int) (k : Nat) (p ou : PV), vs = [frz p, ou] ∧ PlanP n p ∧ OutP k ou ∧ Q (.int (per (total (frz p)) (every ou))) M
/-- the sides in their order -/
def sidesOf (ts : List (Int × Int)) : List Int := ([0, 1, 2, 3] : List Int).filter fun k => ts.any fun t => decide (t.1 = k)
def Pt.flds (p : Pt) : List PV := [lims p.ts.length p.ps.length p.qs.length p.nl p.dk, .tup (p.ts.map pr2), .tup (p.ps.map PV.int), .tup (p.qs.map PV.int), .int p.nl, .int p.fr, .int p.dk, .tup (p.rs.map PV.tup), .tup p.ls, p.cs, frz p.pl, p.ou, .bl p.b0, .bl p.b1, .bl p.b2, .bl p.b3,
  .tup ((sidesOf p.ts).map PV.int), .int (per (total (frz p.pl)) (every p.ou)), .int (p.c0 + (if p.dk - 1 > p.c1 then p.dk - 1 else p.c1)),
  .tup [.tup [.tup (p.ts.map pr2), .tup (p.ps.map PV.int), .tup (p.qs.map PV.int), .int p.nl, .int p.fr, .int p.dk], .tup [.tup (p.rs.map PV.tup), .tup p.ls, p.cs, frz p.pl, p.ou], .tup [.bl p.b0, .bl p.b1, .bl p.b2, .bl p.b3]]]
def sp_init : ZSp := fun vs M Q _ => ∃ (a : Addr) (p : Pt), vs = .ref a :: p.items ∧ p.Ok ∧ M a = some (.ins 0 (List.replicate 20 none)) ∧ Q .non (put M a (.ins 0 (p.flds.map some)))
end HT
set_option Elab.async false
set_option linter.all false
set_option maxRecDepth 100000
set_option maxHeartbeats 400000
namespace HT
open PySem PySem.Spec PyProof.Rows L2 Z
local macro_rules | `(tactic| walk_at "HL") => `(tactic| (first | assumption | exact put_same | (rw [put_ne (by first | assumption | (apply Ne.symm; assumption))]; first | assumption | exact put_same | (rw [put_ne (by first | assumption | (apply Ne.symm; assumption))]; first | assumption | exact put_same | (rw [put_ne (by first | assumption | (apply Ne.symm; assumption))]; first | assumption | exact put_same)))))
local macro_rules | `(tactic| walk_at "ONE") => `(tactic| (first | (refine And.intro rfl ?_; (conv => whnf)) | (refine Exists.intro _ (Exists.intro _ (Exists.intro _ (Exists.intro _ (And.intro (by walk_at "HL") (And.intro (by assumption) (And.intro rfl ?_)))))); (conv => whnf)) | (refine Exists.intro _ (Exists.intro _ (Exists.intro _ (And.intro (by walk_at "HL") (And.intro (DSet.old (by assumption) (by decide +kernel) (by decide +kernel)) ?_)))); (conv => whnf)) | (refine Exists.intro _ (Exists.intro _ (Exists.intro _ (And.intro (by walk_at "HL") (And.intro (DSet.new (by decide +kernel) (by decide +kernel)) ?_)))); (conv => whnf)) | (refine And.intro True.intro ?_; (conv => whnf)) | (refine And.intro (Exists.intro _ (by walk_at "HL")) ?_; (conv => whnf)) | (refine And.intro (by walk_at "HL") ?_; (conv => whnf)) | (refine And.intro (And.intro rfl rfl) ?_; (conv => whnf)) | (refine And.intro (Nat.le_of_ble_eq_true rfl) ?_; (conv => whnf)) | (refine And.intro (by decide) ?_; (conv => whnf)) | (refine And.intro (by omega) ?_; (conv => whnf)) | (refine Exists.intro _ (And.intro (by walk_at "HL") ?_); (conv => whnf)) | (refine Exists.intro _ (And.intro rfl ?_); (conv => whnf)) | (refine Exists.intro _ (Exists.intro _ (And.intro (by walk_at "HL") (And.intro rfl ?_))); (conv => whnf)) | (refine Exists.intro _ (Exists.intro _ (And.intro (by walk_at "HL") (And.intro (And.intro (by decide) rfl) ?_))); (conv => whnf)) | (refine Exists.intro _ (Exists.intro _ (And.intro rfl (And.intro rfl ?_))); (conv => whnf)) | (refine Exists.intro _ (Exists.intro _ (And.intro (by walk_at "HL") (And.intro (by walk_at "HL") ?_))); (conv => whnf)) | (refine Exists.intro _ (And.intro (by walk_at "HL") (And.intro (by decide) ?_)); (conv => whnf)) | (refine br_t rfl ?_; (conv => whnf)) | (refine br_f rfl ?_; (conv => whnf)) | (refine And.intro (And.intro (by decide +kernel) (by decide +kernel)) ?_; (conv => whnf)) | (refine br_t (by decide +kernel) ?_; (conv => whnf)) | (refine br_f (by decide +kernel) ?_; (conv => whnf))))
local macro_rules | `(tactic| walk_at "ONI") => `(tactic| (first | (refine Qw.here ?_; (conv => whnf)) | (refine br_t (decide_eq_true (by omega)) ?_; (conv => whnf)) | (refine br_f (decide_eq_false (by omega)) ?_; (conv => whnf)) | (refine And.intro rfl ?_; (conv => whnf)) | (refine Exists.intro _ (Exists.intro _ (Exists.intro _ (Exists.intro _ (And.intro (by walk_at "HL") (And.intro (by assumption) (And.intro rfl ?_)))))); (conv => whnf)) | (refine Exists.intro _ (Exists.intro _ (Exists.intro _ (And.intro (by walk_at "HL") (And.intro (DSet.old (by assumption) (by decide +kernel) (by decide +kernel)) ?_)))); (conv => whnf)) | (refine Exists.intro _ (Exists.intro _ (Exists.intro _ (And.intro (by walk_at "HL") (And.intro (DSet.new (by decide +kernel) (by decide +kernel)) ?_)))); (conv => whnf)) | (refine And.intro True.intro ?_; (conv => whnf)) | (refine And.intro (Exists.intro _ (by walk_at "HL")) ?_; (conv => whnf)) | (refine And.intro (by walk_at "HL") ?_; (conv => whnf)) | (refine And.intro (And.intro rfl rfl) ?_; (conv => whnf)) | (refine And.intro (Nat.le_of_ble_eq_true rfl) ?_; (conv => whnf)) | (refine And.intro (by decide) ?_; (conv => whnf)) | (refine And.intro (by omega) ?_; (conv => whnf)) | (refine Exists.intro _ (And.intro (by walk_at "HL") ?_); (conv => whnf)) | (refine Exists.intro _ (And.intro rfl ?_); (conv => whnf)) | (refine Exists.intro _ (Exists.intro _ (And.intro (by walk_at "HL") (And.intro rfl ?_))); (conv => whnf)) | (refine Exists.intro _ (Exists.intro _ (And.intro (by walk_at "HL") (And.intro (And.intro (by decide) rfl) ?_))); (conv => whnf)) | (refine Exists.intro _ (Exists.intro _ (And.intro rfl (And.intro rfl ?_))); (conv => whnf)) | (refine Exists.intro _ (Exists.intro _ (And.intro (by walk_at "HL") (And.intro (by walk_at "HL") ?_))); (conv => whnf)) | (refine Exists.intro _ (And.intro (by walk_at "HL") (And.intro (by decide) ?_)); (conv => whnf)) | (refine br_t rfl ?_; (conv => whnf)) | (refine br_f rfl ?_; (conv => whnf)) | (refine And.intro (And.intro (by decide +kernel) (by decide +kernel)) ?_; (conv => whnf)) | (refine br_t (by decide +kernel) ?_; (conv => whnf)) | (refine br_f (by decide +kernel) ?_; (conv => whnf))))
local macro_rules | `(tactic| walk_at "GO") => `(tactic| (((try (conv => whnf)); repeat (walk_at "ONE"))))
local macro_rules | `(tactic| walk_at "GI") => `(tactic| (((conv => whnf); repeat (walk_at "ONI"))))
local macro_rules | `(tactic| walk_at "BB") => `(tactic| (first | rfl | (simp only [Bool.and_eq_true, Bool.or_eq_true, Bool.not_eq_true', Bool.and_eq_false_iff, Bool.not_eq_false', decide_eq_true_eq, decide_eq_false_iff_not, peq_int, List.length_map]; omega)))
/-! ### small checks -/
def isI : PV → Option Bool
  | .int _ => some true
  | .bl _ => some false
  | .non => some false
  | .str _ => some false
  | .tup _ => some false
  | .lst _ => some false
  | _ => none
def sp_is_integer : ZSp := fun vs M Q _ => ∃ x, vs = [x] ∧ ∃ b, isI x = some b ∧ Q (.bl b) M
def sp_in_range : ZSp := fun vs M Q _ => ∃ i lo hi : Int, vs = [.int i, .int lo, .int hi] ∧ Q (.bl (decide (lo ≤ i ∧ i ≤ hi))) M
def sp_is_value : ZSp := fun vs M Q _ => ∃ i : Int, vs = [.int i] ∧ Q (.bl (decide (0 ≤ i ∧ i ≤ 1))) M
def sp_is_index : ZSp := fun vs M Q _ => ∃ i n : Int, vs = [.int i, .int n] ∧ Q (.bl (decide (0 ≤ i ∧ i ≤ n - 1))) M
def sp_is_tuple : ZSp := fun vs M Q _ => ∃ (xs : List PV) (n : Int), vs = [.tup xs, .int n] ∧ Q (.bl (decide ((xs.length : Int) = n))) M
def sp_is_flag : ZSp := fun vs M Q _ => ∃ b, vs = [.bl b] ∧ Q (.bl true) M
theorem o_is_integer (Φ : Nat → ZSp) (vs : List PV) (M : Mh) (Q : ZQ) (E : ZX) (h : sp_is_integer vs M Q E) : vs.length = 1 ∧ Reach M fun M1 => inl Φ 1 1 b_is_integer vs M1 Q E := by
  obtain ⟨x, rfl, b, hb, hq⟩ := h
  refine ⟨rfl, .done ⟨rfl, ?_⟩⟩
  cases x <;> first | (cases hb; walk_at "GO"; exact Qw.here hq) | cases hb
theorem o_is_flag (Φ : Nat → ZSp) (vs : List PV) (M : Mh) (Q : ZQ) (E : ZX) (h : sp_is_flag vs M Q E) : vs.length = 1 ∧ Reach M fun M1 => inl Φ 1 1 b_is_flag vs M1 Q E := by
  obtain ⟨x, rfl, hq⟩ := h
  refine ⟨rfl, .done ⟨rfl, ?_⟩⟩
  walk_at "GO"
  exact Qw.here hq
theorem o_is_tuple (Φ : Nat → ZSp) (vs : List PV) (M : Mh) (Q : ZQ) (E : ZX) (h : sp_is_tuple vs M Q E) : vs.length = 2 ∧ Reach M fun M1 => inl Φ 2 2 b_is_tuple vs M1 Q E := by
  obtain ⟨x, n, rfl, hq⟩ := h
  refine ⟨rfl, .done ⟨rfl, ?_⟩⟩
  walk_at "GO"
  rw [peq_int]
  exact Qw.here hq
theorem o_in_range (Φ : Nat → ZSp) (h1 : Φ 0 = sp_is_integer) (vs : List PV) (M : Mh) (Q : ZQ) (E : ZX) (h : sp_in_range vs M Q E) : vs.length = 3 ∧ Reach M fun M1 => inl Φ 3 3 b_in_range vs M1 Q E := by
  obtain ⟨i, lo, hi, rfl, hq⟩ := h
  refine ⟨rfl, .done ⟨rfl, ?_⟩⟩
  walk_at "GO"
  rw [h1]
  refine ⟨_, rfl, _, rfl, ?_⟩
  walk_at "GO"
  refine br_intro (fun c => ?_) fun c => ?_
  · walk_at "GO"
    have c := of_decide_eq_true c
    have e : decide (lo ≤ i ∧ i ≤ hi) = decide (i ≤ hi) := decide_eq_decide.mpr ⟨fun h => h.2, fun h => ⟨c, h⟩⟩
    rw [e] at hq
    exact Qw.here hq
  · walk_at "GO"
    have c := of_decide_eq_false c
    have e : decide (lo ≤ i ∧ i ≤ hi) = false := decide_eq_false fun h => c h.1
    rw [e] at hq
    exact Qw.here hq
theorem o_is_value (Φ : Nat → ZSp) (h1 : Φ 1 = sp_in_range) (vs : List PV) (M : Mh) (Q : ZQ) (E : ZX) (h : sp_is_value vs M Q E) : vs.length = 1 ∧ Reach M fun M1 => inl Φ 1 1 b_is_value vs M1 Q E := by
  obtain ⟨i, rfl, hq⟩ := h
  refine ⟨rfl, .done ⟨rfl, ?_⟩⟩
  walk_at "GO"
  rw [h1]
  exact ⟨i, 0, 1, rfl, Qw.here hq⟩
theorem o_is_index (Φ : Nat → ZSp) (h1 : Φ 1 = sp_in_range) (vs : List PV) (M : Mh) (Q : ZQ) (E : ZX) (h : sp_is_index vs M Q E) : vs.length = 2 ∧ Reach M fun M1 => inl Φ 2 2 b_is_index vs M1 Q E := by
  obtain ⟨i, n, rfl, hq⟩ := h
  refine ⟨rfl, .done ⟨rfl, ?_⟩⟩
  walk_at "GO"
  rw [h1]
  exact ⟨i, 0, n - 1, rfl, Qw.here hq⟩
end HT
set_option Elab.async false
set_option linter.all false
set_option maxRecDepth 100000
set_option maxHeartbeats 400000
namespace HT
open PySem PySem.Spec PyProof.Rows L2 Z
local macro_rules | `(tactic| walk_at "HL") => `(tactic| (first | assumption | exact put_same | (rw [put_ne (by first | assumption | (apply Ne.symm; assumption))]; first | assumption | exact put_same | (rw [put_ne (by first | assumption | (apply Ne.symm; assumption))]; first | assumption | exact put_same | (rw [put_ne (by first | assumption | (apply Ne.symm; assumption))]; first | assumption | exact put_same)))))
local macro_rules | `(tactic| walk_at "ONE") => `(tactic| (first | (refine And.intro rfl ?_; (conv => whnf)) | (refine Exists.intro _ (Exists.intro _ (Exists.intro _ (Exists.intro _ (And.intro (by walk_at "HL") (And.intro (by assumption) (And.intro rfl ?_)))))); (conv => whnf)) | (refine Exists.intro _ (Exists.intro _ (Exists.intro _ (And.intro (by walk_at "HL") (And.intro (DSet.old (by assumption) (by decide +kernel) (by decide +kernel)) ?_)))); (conv => whnf)) | (refine Exists.intro _ (Exists.intro _ (Exists.intro _ (And.intro (by walk_at "HL") (And.intro (DSet.new (by decide +kernel) (by decide +kernel)) ?_)))); (conv => whnf)) | (refine And.intro True.intro ?_; (conv => whnf)) | (refine And.intro (Exists.intro _ (by walk_at "HL")) ?_; (conv => whnf)) | (refine And.intro (by walk_at "HL") ?_; (conv => whnf)) | (refine And.intro (And.intro rfl rfl) ?_; (conv => whnf)) | (refine And.intro (Nat.le_of_ble_eq_true rfl) ?_; (conv => whnf)) | (refine And.intro (by decide) ?_; (conv => whnf)) | (refine And.intro (by omega) ?_; (conv => whnf)) | (refine Exists.intro _ (And.intro (by walk_at "HL") ?_); (conv => whnf)) | (refine Exists.intro _ (And.intro rfl ?_); (conv => whnf)) | (refine Exists.intro _ (Exists.intro _ (And.intro (by walk_at "HL") (And.intro rfl ?_))); (conv => whnf)) | (refine Exists.intro _ (Exists.intro _ (And.intro (by walk_at "HL") (And.intro (And.intro (by decide) rfl) ?_))); (conv => whnf)) | (refine Exists.intro _ (Exists.intro _ (And.intro rfl (And.intro rfl ?_))); (conv => whnf)) | (refine Exists.intro _ (Exists.intro _ (And.intro (by walk_at "HL") (And.intro (by walk_at "HL") ?_))); (conv => whnf)) | (refine Exists.intro _ (And.intro (by walk_at "HL") (And.intro (by decide) ?_)); (conv => whnf)) | (refine br_t rfl ?_; (conv => whnf)) | (refine br_f rfl ?_; (conv => whnf)) | (refine And.intro (And.intro (by decide +kernel) (by decide +kernel)) ?_; (conv => whnf)) | (refine br_t (by decide +kernel) ?_; (conv => whnf)) | (refine br_f (by decide +kernel) ?_; (conv => whnf))))
local macro_rules | `(tactic| walk_at "ONI") => `(tactic| (first | (refine Qw.here ?_; (conv => whnf)) | (refine br_t (decide_eq_true (by omega)) ?_; (conv => whnf)) | (refine br_f (decide_eq_false (by omega)) ?_; (conv => whnf)) | (refine And.intro rfl ?_; (conv => whnf)) | (refine Exists.intro _ (Exists.intro _ (Exists.intro _ (Exists.intro _ (And.intro (by walk_at "HL") (And.intro (by assumption) (And.intro rfl ?_)))))); (conv => whnf)) | (refine Exists.intro _ (Exists.intro _ (Exists.intro _ (And.intro (by walk_at "HL") (And.intro (DSet.old (by assumption) (by decide +kernel) (by decide +kernel)) ?_)))); (conv => whnf)) | (refine Exists.intro _ (Exists.intro _ (Exists.intro _ (And.intro (by walk_at "HL") (And.intro (DSet.new (by decide +kernel) (by decide +kernel)) ?_)))); (conv => whnf)) | (refine And.intro True.intro ?_; (conv => whnf)) | (refine And.intro (Exists.intro _ (by walk_at "HL")) ?_; (conv => whnf)) | (refine And.intro (by walk_at "HL") ?_; (conv => whnf)) | (refine And.intro (And.intro rfl rfl) ?_; (conv => whnf)) | (refine And.intro (Nat.le_of_ble_eq_true rfl) ?_; (conv => whnf)) | (refine And.intro (by decide) ?_; (conv => whnf)) | (refine And.intro (by omega) ?_; (conv => whnf)) | (refine Exists.intro _ (And.intro (by walk_at "HL") ?_); (conv => whnf)) | (refine Exists.intro _ (And.intro rfl ?_); (conv => whnf)) | (refine Exists.intro _ (Exists.intro _ (And.intro (by walk_at "HL") (And.intro rfl ?_))); (conv => whnf)) | (refine Exists.intro _ (Exists.intro _ (And.intro (by walk_at "HL") (And.intro (And.intro (by decide) rfl) ?_))); (conv => whnf)) | (refine Exists.intro _ (Exists.intro _ (And.intro rfl (And.intro rfl ?_))); (conv => whnf)) | (refine Exists.intro _ (Exists.intro _ (And.intro (by walk_at "HL") (And.intro (by walk_at "HL") ?_))); (conv => whnf)) | (refine Exists.intro _ (And.intro (by walk_at "HL") (And.intro (by decide) ?_)); (conv => whnf)) | (refine br_t rfl ?_; (conv => whnf)) | (refine br_f rfl ?_; (conv => whnf)) | (refine And.intro (And.intro (by decide +kernel) (by decide +kernel)) ?_; (conv => whnf)) | (refine br_t (by decide +kernel) ?_; (conv => whnf)) | (refine br_f (by decide +kernel) ?_; (conv => whnf))))
local macro_rules | `(tactic| walk_at "GO") => `(tactic| (((try (conv => whnf)); repeat (walk_at "ONE"))))
local macro_rules | `(tactic| walk_at "GI") => `(tactic| (((conv => whnf); repeat (walk_at "ONI"))))
local macro_rules | `(tactic| walk_at "BB") => `(tactic| (first | rfl | (simp only [Bool.and_eq_true, Bool.or_eq_true, Bool.not_eq_true', Bool.and_eq_false_iff, Bool.not_eq_false', decide_eq_true_eq, decide_eq_false_iff_not, peq_int, List.length_map]; omega)))
theorem o_good_pages (Φ : Nat → ZSp) (hv : Φ 3 = sp_is_value) (vs : List PV) (M : Mh) (Q : ZQ) (E : ZX) (h : sp_good_pages vs M Q E) : vs.length = 1 ∧ Reach M fun M1 => inl Φ 2 1 b_good_pages vs M1 Q E := by
  obtain ⟨ps, rfl, hl, hp, hq⟩ := h
  refine ⟨rfl, .done ⟨rfl, ?_⟩⟩
  walk_at "GO"
  refine br_f (by walk_at "BB") ?_
  walk_at "GO"
  refine it_ind (fun xs σ M' => ∃ (ms : List Int) (o : Option PV), xs = ms.map PV.int ∧ (∀ n ∈ ms, 0 ≤ n ∧ n ≤ 1) ∧ σ = [some (.lst (ps.map PV.int)), o] ∧ M' = M) ⟨ps, none, rfl, hp, rfl, rfl⟩ ?_ ?_
  · rintro σ M' ⟨ms, o, e, hr, rfl, rfl⟩
    walk_at "GO"
    exact Qw.here hq
  · rintro x rr σ M' ⟨ms, o, e, hr, rfl, rfl⟩ L hL
    cases ms with
    | nil => cases e
    | cons m ms =>
      cases e
      have hm := hr m (by simp)
      walk_at "GO"
      rw [hv]; refine ⟨_, rfl, ?_⟩
      walk_at "GO"
      refine br_f (by walk_at "BB") ?_
      walk_at "GO"
      exact hL _ _ ⟨ms, _, rfl, fun n hn => hr n (by simp [hn]), rfl, rfl⟩
theorem o_good_ports (Φ : Nat → ZSp) (hv : Φ 1 = sp_in_range) (vs : List PV) (M : Mh) (Q : ZQ) (E : ZX) (h : sp_good_ports vs M Q E) : vs.length = 1 ∧ Reach M fun M1 => inl Φ 2 1 b_good_ports vs M1 Q E := by
  obtain ⟨ps, rfl, hl, hp, hq⟩ := h
  refine ⟨rfl, .done ⟨rfl, ?_⟩⟩
  walk_at "GO"
  refine br_f (by walk_at "BB") ?_
  walk_at "GO"
  refine it_ind (fun xs σ M' => ∃ (ms : List Int) (o : Option PV), xs = ms.map PV.int ∧ (∀ n ∈ ms, 1 ≤ n ∧ n ≤ 2) ∧ σ = [some (.lst (ps.map PV.int)), o] ∧ M' = M) ⟨ps, none, rfl, hp, rfl, rfl⟩ ?_ ?_
  · rintro σ M' ⟨ms, o, e, hr, rfl, rfl⟩
    walk_at "GO"
    exact Qw.here hq
  · rintro x rr σ M' ⟨ms, o, e, hr, rfl, rfl⟩ L hL
    cases ms with
    | nil => cases e
    | cons m ms =>
      cases e
      have hm := hr m (by simp)
      walk_at "GO"
      rw [hv]; refine ⟨_, _, _, rfl, ?_⟩
      walk_at "GO"
      refine br_f (by walk_at "BB") ?_
      walk_at "GO"
      exact hL _ _ ⟨ms, _, rfl, fun n hn => hr n (by simp [hn]), rfl, rfl⟩
def fst0 : PV → PV
  | .tup (x :: _) => x
  | _ => .non
theorem o_good_tasks (Φ : Nat → ZSp) (h6 : Φ 5 = sp_is_tuple) (h8 : Φ 1 = sp_in_range) (vs : List PV) (M : Mh) (Q : ZQ) (E : ZX) (h : sp_good_tasks vs M Q E) : vs.length = 1 ∧ Reach M fun M1 => inl Φ 2 1 b_good_tasks vs M1 Q E := by
  obtain ⟨ts, rfl, t1, t2, t3, hq⟩ := h
  refine ⟨rfl, .done ⟨rfl, ?_⟩⟩
  walk_at "GO"
  refine br_t (by walk_at "BB") ?_
  walk_at "GO"
  refine br_f (by walk_at "BB") ?_
  walk_at "GO"
  refine it_ind (fun xs σ M' => ∃ (ms : List (Int × Int)) (o : Option PV), xs = ms.map pr2 ∧ (∀ t ∈ ms, (0 ≤ t.1 ∧ t.1 ≤ 3) ∧ 0 ≤ t.2 ∧ t.2 ≤ 2) ∧ σ = [some (.lst (ts.map pr2)), o] ∧ M' = M) ⟨ts, none, rfl, t2, rfl, rfl⟩ ?_ ?_
  · rintro σ M' ⟨ms, o, e, hr, rfl, rfl⟩
    walk_at "GO"
    intro D hD
    refine lc_mapF fst0 hD (by rw [List.length_map]; omega) (fun _ => trivial) ?_ ?_
    · intro x hx acc k hk
      obtain ⟨t, ht, rfl⟩ := List.mem_map.mp hx
      walk_at "GO"
      exact hk
    have ef : (ts.map pr2).map fst0 = (ts.map (·.1)).map PV.int := by rw [List.map_map, List.map_map]; rfl
    rw [ef]
    refine ⟨ts.map (·.1), rfl, by rw [List.length_map]; omega, ?_⟩
    rintro k ⟨ns, _, hm, rfl⟩
    walk_at "GO"
    have h2 : decide ((2 : Int) ≤ (ns.length : Nat)) = true := by
      obtain ⟨t, ht, u, hu, hne⟩ := t3
      have m1 := (hm t.1).mpr (List.mem_map.mpr ⟨t, ht, rfl⟩)
      have m2 := (hm u.1).mpr (List.mem_map.mpr ⟨u, hu, rfl⟩)
      match ns, m1, m2 with
      | [], m1, _ => cases m1
      | [a], m1, m2 =>
        rw [List.mem_singleton] at m1 m2
        exact absurd (m1.trans m2.symm) hne
      | _ :: _ :: r, _, _ =>
        refine decide_eq_true ?_
        rw [List.length_cons, List.length_cons]
        omega
    rw [h2]
    exact Qw.here hq
  · rintro x rr σ M' ⟨ms, o, e, hr, rfl, rfl⟩ L hL
    cases ms with
    | nil => cases e
    | cons m ms =>
      cases e
      have hm := hr m (by simp)
      walk_at "GO"
      rw [h6]; refine ⟨_, _, rfl, ?_⟩
      walk_at "GO"
      rw [h8]; refine ⟨_, _, _, rfl, ?_⟩
      walk_at "GO"
      refine br_f (by walk_at "BB") ?_
      walk_at "GO"
      rw [h8]; refine ⟨_, _, _, rfl, ?_⟩
      walk_at "GO"
      refine br_f (by walk_at "BB") ?_
      walk_at "GO"
      exact hL _ _ ⟨ms, _, rfl, fun n hn => hr n (by simp [hn]), rfl, rfl⟩
end HT
set_option Elab.async false
set_option linter.all false
set_option maxRecDepth 100000
set_option maxHeartbeats 400000
namespace HT
open PySem PySem.Spec PyProof.Rows L2 Z
local macro_rules | `(tactic| walk_at "HL") => `(tactic| (first | assumption | exact put_same | (rw [put_ne (by first | assumption | (apply Ne.symm; assumption))]; first | assumption | exact put_same | (rw [put_ne (by first | assumption | (apply Ne.symm; assumption))]; first | assumption | exact put_same | (rw [put_ne (by first | assumption | (apply Ne.symm; assumption))]; first | assumption | exact put_same)))))
local macro_rules | `(tactic| walk_at "ONE") => `(tactic| (first | (refine And.intro rfl ?_; (conv => whnf)) | (refine Exists.intro _ (Exists.intro _ (Exists.intro _ (Exists.intro _ (And.intro (by walk_at "HL") (And.intro (by assumption) (And.intro rfl ?_)))))); (conv => whnf)) | (refine Exists.intro _ (Exists.intro _ (Exists.intro _ (And.intro (by walk_at "HL") (And.intro (DSet.old (by assumption) (by decide +kernel) (by decide +kernel)) ?_)))); (conv => whnf)) | (refine Exists.intro _ (Exists.intro _ (Exists.intro _ (And.intro (by walk_at "HL") (And.intro (DSet.new (by decide +kernel) (by decide +kernel)) ?_)))); (conv => whnf)) | (refine And.intro True.intro ?_; (conv => whnf)) | (refine And.intro (Exists.intro _ (by walk_at "HL")) ?_; (conv => whnf)) | (refine And.intro (by walk_at "HL") ?_; (conv => whnf)) | (refine And.intro (And.intro rfl rfl) ?_; (conv => whnf)) | (refine And.intro (Nat.le_of_ble_eq_true rfl) ?_; (conv => whnf)) | (refine And.intro (by decide) ?_; (conv => whnf)) | (refine And.intro (by omega) ?_; (conv => whnf)) | (refine Exists.intro _ (And.intro (by walk_at "HL") ?_); (conv => whnf)) | (refine Exists.intro _ (And.intro rfl ?_); (conv => whnf)) | (refine Exists.intro _ (Exists.intro _ (And.intro (by walk_at "HL") (And.intro rfl ?_))); (conv => whnf)) | (refine Exists.intro _ (Exists.intro _ (And.intro (by walk_at "HL") (And.intro (And.intro (by decide) rfl) ?_))); (conv => whnf)) | (refine Exists.intro _ (Exists.intro _ (And.intro rfl (And.intro rfl ?_))); (conv => whnf)) | (refine Exists.intro _ (Exists.intro _ (And.intro (by walk_at "HL") (And.intro (by walk_at "HL") ?_))); (conv => whnf)) | (refine Exists.intro _ (And.intro (by walk_at "HL") (And.intro (by decide) ?_)); (conv => whnf)) | (refine br_t rfl ?_; (conv => whnf)) | (refine br_f rfl ?_; (conv => whnf)) | (refine And.intro (And.intro (by decide +kernel) (by decide +kernel)) ?_; (conv => whnf)) | (refine br_t (by decide +kernel) ?_; (conv => whnf)) | (refine br_f (by decide +kernel) ?_; (conv => whnf))))
local macro_rules | `(tactic| walk_at "ONI") => `(tactic| (first | (refine Qw.here ?_; (conv => whnf)) | (refine br_t (decide_eq_true (by omega)) ?_; (conv => whnf)) | (refine br_f (decide_eq_false (by omega)) ?_; (conv => whnf)) | (refine And.intro rfl ?_; (conv => whnf)) | (refine Exists.intro _ (Exists.intro _ (Exists.intro _ (Exists.intro _ (And.intro (by walk_at "HL") (And.intro (by assumption) (And.intro rfl ?_)))))); (conv => whnf)) | (refine Exists.intro _ (Exists.intro _ (Exists.intro _ (And.intro (by walk_at "HL") (And.intro (DSet.old (by assumption) (by decide +kernel) (by decide +kernel)) ?_)))); (conv => whnf)) | (refine Exists.intro _ (Exists.intro _ (Exists.intro _ (And.intro (by walk_at "HL") (And.intro (DSet.new (by decide +kernel) (by decide +kernel)) ?_)))); (conv => whnf)) | (refine And.intro True.intro ?_; (conv => whnf)) | (refine And.intro (Exists.intro _ (by walk_at "HL")) ?_; (conv => whnf)) | (refine And.intro (by walk_at "HL") ?_; (conv => whnf)) | (refine And.intro (And.intro rfl rfl) ?_; (conv => whnf)) | (refine And.intro (Nat.le_of_ble_eq_true rfl) ?_; (conv => whnf)) | (refine And.intro (by decide) ?_; (conv => whnf)) | (refine And.intro (by omega) ?_; (conv => whnf)) | (refine Exists.intro _ (And.intro (by walk_at "HL") ?_); (conv => whnf)) | (refine Exists.intro _ (And.intro rfl ?_); (conv => whnf)) | (refine Exists.intro _ (Exists.intro _ (And.intro (by walk_at "HL") (And.intro rfl ?_))); (conv => whnf)) | (refine Exists.intro _ (Exists.intro _ (And.intro (by walk_at "HL") (And.intro (And.intro (by decide) rfl) ?_))); (conv => whnf)) | (refine Exists.intro _ (Exists.intro _ (And.intro rfl (And.intro rfl ?_))); (conv => whnf)) | (refine Exists.intro _ (Exists.intro _ (And.intro (by walk_at "HL") (And.intro (by walk_at "HL") ?_))); (conv => whnf)) | (refine Exists.intro _ (And.intro (by walk_at "HL") (And.intro (by decide) ?_)); (conv => whnf)) | (refine br_t rfl ?_; (conv => whnf)) | (refine br_f rfl ?_; (conv => whnf)) | (refine And.intro (And.intro (by decide +kernel) (by decide +kernel)) ?_; (conv => whnf)) | (refine br_t (by decide +kernel) ?_; (conv => whnf)) | (refine br_f (by decide +kernel) ?_; (conv => whnf))))
local macro_rules | `(tactic| walk_at "GO") => `(tactic| (((try (conv => whnf)); repeat (walk_at "ONE"))))
local macro_rules | `(tactic| walk_at "GI") => `(tactic| (((conv => whnf); repeat (walk_at "ONI"))))
local macro_rules | `(tactic| walk_at "BB") => `(tactic| (first | rfl | (simp only [Bool.and_eq_true, Bool.or_eq_true, Bool.not_eq_true', Bool.and_eq_false_iff, Bool.not_eq_false', decide_eq_true_eq, decide_eq_false_iff_not, peq_int, List.length_map]; omega)))
theorem o_limits_of (Φ : Nat → ZSp) (vs : List PV) (M : Mh) (Q : ZQ) (E : ZX) (h : sp_limits_of vs M Q E) : vs.length = 5 ∧ Reach M fun M1 => inl Φ 6 5 b_limits_of vs M1 Q E := by
  obtain ⟨nt, np, nq, nl, dk, rfl, hq⟩ := h
  refine ⟨rfl, .done ⟨rfl, ?_⟩⟩
  unfold lims at hq
  walk_at "GO"
  refine br_intro (fun c => ?_) fun c => ?_
  · rw [if_pos (of_decide_eq_true c)] at hq
    walk_at "GO"
    intro D hD
    walk_at "GO"
    rw [put_del hD]
    exact Qw.here hq
  · rw [if_neg (of_decide_eq_false c)] at hq
    walk_at "GO"
    intro D hD
    walk_at "GO"
    rw [put_del hD]
    exact Qw.here hq
theorem o_good_lines (Φ : Nat → ZSp) (h6 : Φ 4 = sp_is_index) (vs : List PV) (M : Mh) (Q : ZQ) (E : ZX) (h : sp_good_lines vs M Q E) : vs.length = 2 ∧ Reach M fun M1 => inl Φ 3 2 b_good_lines vs M1 Q E := by
  obtain ⟨np, ls, rfl, hl, hp, hq⟩ := h
  refine ⟨rfl, .done ⟨rfl, ?_⟩⟩
  walk_at "GO"
  refine br_f (by rw [peq_int, decide_eq_true (by omega)]; rfl) ?_
  walk_at "GO"
  refine it_ind (fun xs σ M' => ∃ (o : Option PV), (∀ x ∈ xs, x = .non ∨ x = .int 0 ∨ x = .int 1) ∧ σ = [some (.int np), some (.lst ls), o] ∧ M' = M) ⟨none, hp, rfl, rfl⟩ ?_ ?_
  · rintro σ M' ⟨o, hr, rfl, rfl⟩
    walk_at "GO"
    exact Qw.here hq
  · rintro x rr σ M' ⟨o, hr, rfl, rfl⟩ L hL
    have hr' : ∀ x ∈ rr, x = PV.non ∨ x = .int 0 ∨ x = .int 1 := fun n hn => hr n (by simp [hn])
    rcases hr x (by simp) with rfl | rfl | rfl
    · walk_at "GO"
      exact hL _ _ ⟨_, hr', rfl, rfl⟩
    · walk_at "GO"
      rw [h6]; refine ⟨_, _, rfl, ?_⟩
      walk_at "GO"
      exact hL _ _ ⟨_, hr', rfl, rfl⟩
    · walk_at "GO"
      rw [h6]; refine ⟨_, _, rfl, ?_⟩
      walk_at "GO"
      exact hL _ _ ⟨_, hr', rfl, rfl⟩
theorem o_good_plan (Φ : Nat → ZSp) (h6 : Φ 5 = sp_is_tuple) (h8 : Φ 1 = sp_in_range) (h16 : Φ 4 = sp_is_index) (vs : List PV) (M : Mh) (Q : ZQ) (E : ZX) (h : sp_good_plan vs M Q E) : vs.length = 2 ∧ Reach M fun M1 => inl Φ 3 2 b_good_plan vs M1 Q E := by
  obtain ⟨n, p, rfl, hp, hq⟩ := h
  refine ⟨rfl, .done ⟨rfl, ?_⟩⟩
  rcases hp with ⟨k, hk, rfl⟩ | ⟨rows, hl, hr, rfl⟩
  · walk_at "GO"
    rw [h6]; refine ⟨_, _, rfl, ?_⟩
    walk_at "GO"
    rw [h8]; refine ⟨_, _, _, rfl, ?_⟩
    rw [decide_eq_true hk]
    exact Qw.here hq
  · walk_at "GO"
    rw [h6]; refine ⟨_, _, rfl, ?_⟩
    walk_at "GO"
    refine br_t (by walk_at "BB") ?_
    walk_at "GO"
    refine br_f (by walk_at "BB") ?_
    walk_at "GO"
    refine it_ind (fun xs σ M' => ∃ (ms : List (Int × Int)) (o : Option PV), xs = ms.map pr2 ∧ (∀ t ∈ ms, (0 ≤ t.1 ∧ t.1 < n) ∧ 1 ≤ t.2 ∧ t.2 ≤ 12) ∧ σ = [some (.int n), some (.tup [.str "slots", .lst (rows.map pr2)]), o] ∧ M' = M) ⟨rows, none, rfl, hr, rfl, rfl⟩ ?_ ?_
    · rintro σ M' ⟨ms, o, e, hr, rfl, rfl⟩
      walk_at "GO"
      exact Qw.here hq
    · rintro x rr σ M' ⟨ms, o, e, hr, rfl, rfl⟩ L hL
      cases ms with
      | nil => cases e
      | cons m ms =>
        cases e
        have hm := hr m (by simp)
        walk_at "GO"
        rw [h6]; refine ⟨_, _, rfl, ?_⟩
        walk_at "GO"
        rw [h16]; refine ⟨_, _, rfl, ?_⟩
        walk_at "GO"
        refine br_f (by walk_at "BB") ?_
        walk_at "GO"
        rw [h8]; refine ⟨_, _, _, rfl, ?_⟩
        walk_at "GO"
        refine br_f (by walk_at "BB") ?_
        walk_at "GO"
        exact hL _ _ ⟨ms, _, rfl, fun n hn => hr n (by simp [hn]), rfl, rfl⟩
end HT
set_option Elab.async false
set_option linter.all false
set_option maxRecDepth 100000
set_option maxHeartbeats 400000
namespace HT
open PySem PySem.Spec PyProof.Rows L2 Z
local macro_rules | `(tactic| walk_at "HL") => `(tactic| (first | assumption | exact put_same | (rw [put_ne (by first | assumption | (apply Ne.symm; assumption))]; first | assumption | exact put_same | (rw [put_ne (by first | assumption | (apply Ne.symm; assumption))]; first | assumption | exact put_same | (rw [put_ne (by first | assumption | (apply Ne.symm; assumption))]; first | assumption | exact put_same)))))
local macro_rules | `(tactic| walk_at "ONE") => `(tactic| (first | (refine And.intro rfl ?_; (conv => whnf)) | (refine Exists.intro _ (Exists.intro _ (Exists.intro _ (Exists.intro _ (And.intro (by walk_at "HL") (And.intro (by assumption) (And.intro rfl ?_)))))); (conv => whnf)) | (refine Exists.intro _ (Exists.intro _ (Exists.intro _ (And.intro (by walk_at "HL") (And.intro (DSet.old (by assumption) (by decide +kernel) (by decide +kernel)) ?_)))); (conv => whnf)) | (refine Exists.intro _ (Exists.intro _ (Exists.intro _ (And.intro (by walk_at "HL") (And.intro (DSet.new (by decide +kernel) (by decide +kernel)) ?_)))); (conv => whnf)) | (refine And.intro True.intro ?_; (conv => whnf)) | (refine And.intro (Exists.intro _ (by walk_at "HL")) ?_; (conv => whnf)) | (refine And.intro (by walk_at "HL") ?_; (conv => whnf)) | (refine And.intro (And.intro rfl rfl) ?_; (conv => whnf)) | (refine And.intro (Nat.le_of_ble_eq_true rfl) ?_; (conv => whnf)) | (refine And.intro (by decide) ?_; (conv => whnf)) | (refine And.intro (by omega) ?_; (conv => whnf)) | (refine Exists.intro _ (And.intro (by walk_at "HL") ?_); (conv => whnf)) | (refine Exists.intro _ (And.intro rfl ?_); (conv => whnf)) | (refine Exists.intro _ (Exists.intro _ (And.intro (by walk_at "HL") (And.intro rfl ?_))); (conv => whnf)) | (refine Exists.intro _ (Exists.intro _ (And.intro (by walk_at "HL") (And.intro (And.intro (by decide) rfl) ?_))); (conv => whnf)) | (refine Exists.intro _ (Exists.intro _ (And.intro rfl (And.intro rfl ?_))); (conv => whnf)) | (refine Exists.intro _ (Exists.intro _ (And.intro (by walk_at "HL") (And.intro (by walk_at "HL") ?_))); (conv => whnf)) | (refine Exists.intro _ (And.intro (by walk_at "HL") (And.intro (by decide) ?_)); (conv => whnf)) | (refine br_t rfl ?_; (conv => whnf)) | (refine br_f rfl ?_; (conv => whnf)) | (refine And.intro (And.intro (by decide +kernel) (by decide +kernel)) ?_; (conv => whnf)) | (refine br_t (by decide +kernel) ?_; (conv => whnf)) | (refine br_f (by decide +kernel) ?_; (conv => whnf))))
local macro_rules | `(tactic| walk_at "ONI") => `(tactic| (first | (refine Qw.here ?_; (conv => whnf)) | (refine br_t (decide_eq_true (by omega)) ?_; (conv => whnf)) | (refine br_f (decide_eq_false (by omega)) ?_; (conv => whnf)) | (refine And.intro rfl ?_; (conv => whnf)) | (refine Exists.intro _ (Exists.intro _ (Exists.intro _ (Exists.intro _ (And.intro (by walk_at "HL") (And.intro (by assumption) (And.intro rfl ?_)))))); (conv => whnf)) | (refine Exists.intro _ (Exists.intro _ (Exists.intro _ (And.intro (by walk_at "HL") (And.intro (DSet.old (by assumption) (by decide +kernel) (by decide +kernel)) ?_)))); (conv => whnf)) | (refine Exists.intro _ (Exists.intro _ (Exists.intro _ (And.intro (by walk_at "HL") (And.intro (DSet.new (by decide +kernel) (by decide +kernel)) ?_)))); (conv => whnf)) | (refine And.intro True.intro ?_; (conv => whnf)) | (refine And.intro (Exists.intro _ (by walk_at "HL")) ?_; (conv => whnf)) | (refine And.intro (by walk_at "HL") ?_; (conv => whnf)) | (refine And.intro (And.intro rfl rfl) ?_; (conv => whnf)) | (refine And.intro (Nat.le_of_ble_eq_true rfl) ?_; (conv => whnf)) | (refine And.intro (by decide) ?_; (conv => whnf)) | (refine And.intro (by omega) ?_; (conv => whnf)) | (refine Exists.intro _ (And.intro (by walk_at "HL") ?_); (conv => whnf)) | (refine Exists.intro _ (And.intro rfl ?_); (conv => whnf)) | (refine Exists.intro _ (Exists.intro _ (And.intro (by walk_at "HL") (And.intro rfl ?_))); (conv => whnf)) | (refine Exists.intro _ (Exists.intro _ (And.intro (by walk_at "HL") (And.intro (And.intro (by decide) rfl) ?_))); (conv => whnf)) | (refine Exists.intro _ (Exists.intro _ (And.intro rfl (And.intro rfl ?_))); (conv => whnf)) | (refine Exists.intro _ (Exists.intro _ (And.intro (by walk_at "HL") (And.intro (by walk_at "HL") ?_))); (conv => whnf)) | (refine Exists.intro _ (And.intro (by walk_at "HL") (And.intro (by decide) ?_)); (conv => whnf)) | (refine br_t rfl ?_; (conv => whnf)) | (refine br_f rfl ?_; (conv => whnf)) | (refine And.intro (And.intro (by decide +kernel) (by decide +kernel)) ?_; (conv => whnf)) | (refine br_t (by decide +kernel) ?_; (conv => whnf)) | (refine br_f (by decide +kernel) ?_; (conv => whnf))))
local macro_rules | `(tactic| walk_at "GO") => `(tactic| (((try (conv => whnf)); repeat (walk_at "ONE"))))
local macro_rules | `(tactic| walk_at "GI") => `(tactic| (((conv => whnf); repeat (walk_at "ONI"))))
local macro_rules | `(tactic| walk_at "BB") => `(tactic| (first | rfl | (simp only [Bool.and_eq_true, Bool.or_eq_true, Bool.not_eq_true', Bool.and_eq_false_iff, Bool.not_eq_false', decide_eq_true_eq, decide_eq_false_iff_not, peq_int, List.length_map]; omega)))
theorem row_mem {s : Str} {n : Nat} {x : PV} (h : x ∈ rowOf s n) : ∃ k : Nat, k < n ∧ x = rgt s k := by
  unfold rowOf at h
  obtain ⟨k, hk, e⟩ := List.mem_map.mp h
  exact ⟨k, List.mem_range.mp hk, e.symm⟩
def limV (nt np nq nl : Nat) (dk : Int) : List PV := [.int nt, .int nl, .int np, .int (if 0 < dk then 1 else 0), .int nq, .int nt, .int nq, .int np]
/-- what stands in the pool -/
structure InP (nt np nq nl : Nat) (dk : Int) (x : PV) (s : Str) (k b : Int) (i : Nat) : Prop where
  e : x = rgt s k
  ok : PyData.strOk s = true
  ix : keyIx limK (.inr s) = some i
  v : (limV nt np nq nl dk)[i]? = some (.int b)
  r : 0 ≤ k ∧ k < b
theorem pool_mem {nt np nq nl : Nat} {dk : Int} {x : PV} (h : x ∈ pool nt np nq nl dk) : ∃ s k b i, InP nt np nq nl dk x s k b i := by
  unfold pool at h
  simp only [List.mem_append] at h
  have mk : ∀ {s : Str} {n i : Nat}, x ∈ rowOf s n → PyData.strOk s = true → keyIx limK (.inr s) = some i → (limV nt np nq nl dk)[i]? = some (.int n) → ∃ s k b i, InP nt np nq nl dk x s k b i := fun {s n i} hx h1 h2 h3 => by
    obtain ⟨k, hk, e⟩ := row_mem hx
    exact ⟨s, k, n, i, e, h1, h2, h3, by omega⟩
  rcases h with ((((((h | h) | h) | h) | h) | h) | h) | h
  · exact mk h (by decide +kernel) (i := 0) (by decide +kernel) rfl
  · exact mk h (by decide +kernel) (i := 1) (by decide +kernel) rfl
  · exact mk h (by decide +kernel) (i := 2) (by decide +kernel) rfl
  · by_cases c : 0 < dk
    · rw [if_pos c, List.mem_singleton] at h
      refine ⟨"seek", 0, 1, 3, h, by decide +kernel, by decide +kernel, ?_, by omega⟩
      show some (PV.int (if 0 < dk then 1 else 0)) = _
      rw [if_pos c]
    · rw [if_neg c] at h; cases h
  · exact mk h (by decide +kernel) (i := 4) (by decide +kernel) rfl
  · exact mk h (by decide +kernel) (i := 5) (by decide +kernel) rfl
  · exact mk h (by decide +kernel) (i := 6) (by decide +kernel) rfl
  · exact mk h (by decide +kernel) (i := 7) (by decide +kernel) rfl
def sp_fits_right : ZSp := fun vs M Q _ => ∃ (nt np nq nl : Nat) (dk : Int) (x : PV), vs = [lims nt np nq nl dk, x] ∧ x ∈ pool nt np nq nl dk ∧ Q (.bl true) M
theorem o_fits_right (Φ : Nat → ZSp) (h6 : Φ 5 = sp_is_tuple) (h16 : Φ 4 = sp_is_index) (vs : List PV) (M : Mh) (Q : ZQ) (E : ZX) (h : sp_fits_right vs M Q E) : vs.length = 2 ∧ Reach M fun M1 => inl Φ 2 2 b_fits_right vs M1 Q E := by
  obtain ⟨nt, np, nq, nl, dk, x, rfl, hx, hq⟩ := h
  obtain ⟨s, k, b, i, ⟨rfl, hs, hi, hv, hr⟩⟩ := pool_mem hx
  refine ⟨rfl, .done ⟨rfl, ?_⟩⟩
  walk_at "GO"
  rw [h6]; refine ⟨_, _, rfl, ?_⟩
  walk_at "GO"
  refine br_f (by rw [hi]; rfl) ?_
  walk_at "GO"
  rw [h16]; refine ⟨_, _, rfl, ?_⟩
  rw [decide_eq_true (by omega)]
  exact Qw.here hq
theorem o_climbs (Φ : Nat → ZSp) (vs : List PV) (M : Mh) (Q : ZQ) (E : ZX) (h : sp_climbs vs M Q E) : vs.length = 1 ∧ Reach M fun M1 => inl Φ 2 1 b_climbs vs M1 Q E := by
  obtain ⟨row, rfl, hl, hp, hq⟩ := h
  refine ⟨rfl, .done ⟨rfl, ?_⟩⟩
  walk_at "GO"
  refine it_ind (fun xs σ M' => ∃ (o : Option PV), (∀ x ∈ xs, ∃ i : Nat, i + 1 < row.length ∧ x = .int (1 + (i : Nat))) ∧ σ = [some (.lst row), o] ∧ M' = M) ⟨none, fun x hx => ?_, rfl, rfl⟩ ?_ ?_
  · obtain ⟨i, hi, e⟩ := mem_range hx
    exact ⟨i, by omega, e⟩
  · rintro σ M' ⟨o, hr, rfl, rfl⟩
    walk_at "GO"
    exact Qw.here hq
  · rintro x rr σ M' ⟨o, hr, rfl, rfl⟩ L hL
    obtain ⟨i, hi, rfl⟩ := hr x (by simp)
    obtain ⟨us, ws, e1, e2, k1, k2, k3, k4⟩ := List.pairwise_iff_getElem.mp hp i (i + 1) (by omega) hi (by omega)
    have p1 : pick row (1 + (i : Nat) - 1) = some (.tup us) := by
      rw [show (1 + (i : Nat) - 1 : Int) = ((i : Nat) : Int) by omega]
      show row[i]? = _
      rw [List.getElem?_eq_getElem (by omega), e1]
    have p2 : pick row (1 + (i : Nat)) = some (.tup ws) := by
      rw [show (1 + (i : Nat) : Int) = ((i + 1 : Nat) : Int) by omega]
      show row[i + 1]? = _
      rw [List.getElem?_eq_getElem hi, e2]
    walk_at "GO"
    first | refine br_f (by rw [k4]; rfl) ?_ | (refine ⟨⟨k1, k2, k3⟩, ?_⟩; (conv => whnf); refine br_f (by rw [k4]; rfl) ?_)
    walk_at "GO"
    exact hL _ _ ⟨_, fun x hx => hr x (by simp [hx]), rfl, rfl⟩
end HT
set_option Elab.async false
set_option linter.all false
set_option maxRecDepth 100000
set_option maxHeartbeats 400000
namespace HT
open PySem PySem.Spec PyProof.Rows L2 Z
local macro_rules | `(tactic| walk_at "HL") => `(tactic| (first | assumption | exact put_same | (rw [put_ne (by first | assumption | (apply Ne.symm; assumption))]; first | assumption | exact put_same | (rw [put_ne (by first | assumption | (apply Ne.symm; assumption))]; first | assumption | exact put_same | (rw [put_ne (by first | assumption | (apply Ne.symm; assumption))]; first | assumption | exact put_same)))))
local macro_rules | `(tactic| walk_at "ONE") => `(tactic| (first | (refine And.intro rfl ?_; (conv => whnf)) | (refine Exists.intro _ (Exists.intro _ (Exists.intro _ (Exists.intro _ (And.intro (by walk_at "HL") (And.intro (by assumption) (And.intro rfl ?_)))))); (conv => whnf)) | (refine Exists.intro _ (Exists.intro _ (Exists.intro _ (And.intro (by walk_at "HL") (And.intro (DSet.old (by assumption) (by decide +kernel) (by decide +kernel)) ?_)))); (conv => whnf)) | (refine Exists.intro _ (Exists.intro _ (Exists.intro _ (And.intro (by walk_at "HL") (And.intro (DSet.new (by decide +kernel) (by decide +kernel)) ?_)))); (conv => whnf)) | (refine And.intro True.intro ?_; (conv => whnf)) | (refine And.intro (Exists.intro _ (by walk_at "HL")) ?_; (conv => whnf)) | (refine And.intro (by walk_at "HL") ?_; (conv => whnf)) | (refine And.intro (And.intro rfl rfl) ?_; (conv => whnf)) | (refine And.intro (Nat.le_of_ble_eq_true rfl) ?_; (conv => whnf)) | (refine And.intro (by decide) ?_; (conv => whnf)) | (refine And.intro (by omega) ?_; (conv => whnf)) | (refine Exists.intro _ (And.intro (by walk_at "HL") ?_); (conv => whnf)) | (refine Exists.intro _ (And.intro rfl ?_); (conv => whnf)) | (refine Exists.intro _ (Exists.intro _ (And.intro (by walk_at "HL") (And.intro rfl ?_))); (conv => whnf)) | (refine Exists.intro _ (Exists.intro _ (And.intro (by walk_at "HL") (And.intro (And.intro (by decide) rfl) ?_))); (conv => whnf)) | (refine Exists.intro _ (Exists.intro _ (And.intro rfl (And.intro rfl ?_))); (conv => whnf)) | (refine Exists.intro _ (Exists.intro _ (And.intro (by walk_at "HL") (And.intro (by walk_at "HL") ?_))); (conv => whnf)) | (refine Exists.intro _ (And.intro (by walk_at "HL") (And.intro (by decide) ?_)); (conv => whnf)) | (refine br_t rfl ?_; (conv => whnf)) | (refine br_f rfl ?_; (conv => whnf)) | (refine And.intro (And.intro (by decide +kernel) (by decide +kernel)) ?_; (conv => whnf)) | (refine br_t (by decide +kernel) ?_; (conv => whnf)) | (refine br_f (by decide +kernel) ?_; (conv => whnf))))
local macro_rules | `(tactic| walk_at "ONI") => `(tactic| (first | (refine Qw.here ?_; (conv => whnf)) | (refine br_t (decide_eq_true (by omega)) ?_; (conv => whnf)) | (refine br_f (decide_eq_false (by omega)) ?_; (conv => whnf)) | (refine And.intro rfl ?_; (conv => whnf)) | (refine Exists.intro _ (Exists.intro _ (Exists.intro _ (Exists.intro _ (And.intro (by walk_at "HL") (And.intro (by assumption) (And.intro rfl ?_)))))); (conv => whnf)) | (refine Exists.intro _ (Exists.intro _ (Exists.intro _ (And.intro (by walk_at "HL") (And.intro (DSet.old (by assumption) (by decide +kernel) (by decide +kernel)) ?_)))); (conv => whnf)) | (refine Exists.intro _ (Exists.intro _ (Exists.intro _ (And.intro (by walk_at "HL") (And.intro (DSet.new (by decide +kernel) (by decide +kernel)) ?_)))); (conv => whnf)) | (refine And.intro True.intro ?_; (conv => whnf)) | (refine And.intro (Exists.intro _ (by walk_at "HL")) ?_; (conv => whnf)) | (refine And.intro (by walk_at "HL") ?_; (conv => whnf)) | (refine And.intro (And.intro rfl rfl) ?_; (conv => whnf)) | (refine And.intro (Nat.le_of_ble_eq_true rfl) ?_; (conv => whnf)) | (refine And.intro (by decide) ?_; (conv => whnf)) | (refine And.intro (by omega) ?_; (conv => whnf)) | (refine Exists.intro _ (And.intro (by walk_at "HL") ?_); (conv => whnf)) | (refine Exists.intro _ (And.intro rfl ?_); (conv => whnf)) | (refine Exists.intro _ (Exists.intro _ (And.intro (by walk_at "HL") (And.intro rfl ?_))); (conv => whnf)) | (refine Exists.intro _ (Exists.intro _ (And.intro (by walk_at "HL") (And.intro (And.intro (by decide) rfl) ?_))); (conv => whnf)) | (refine Exists.intro _ (Exists.intro _ (And.intro rfl (And.intro rfl ?_))); (conv => whnf)) | (refine Exists.intro _ (Exists.intro _ (And.intro (by walk_at "HL") (And.intro (by walk_at "HL") ?_))); (conv => whnf)) | (refine Exists.intro _ (And.intro (by walk_at "HL") (And.intro (by decide) ?_)); (conv => whnf)) | (refine br_t rfl ?_; (conv => whnf)) | (refine br_f rfl ?_; (conv => whnf)) | (refine And.intro (And.intro (by decide +kernel) (by decide +kernel)) ?_; (conv => whnf)) | (refine br_t (by decide +kernel) ?_; (conv => whnf)) | (refine br_f (by decide +kernel) ?_; (conv => whnf))))
local macro_rules | `(tactic| walk_at "GO") => `(tactic| (((try (conv => whnf)); repeat (walk_at "ONE"))))
local macro_rules | `(tactic| walk_at "GI") => `(tactic| (((conv => whnf); repeat (walk_at "ONI"))))
local macro_rules | `(tactic| walk_at "BB") => `(tactic| (first | rfl | (simp only [Bool.and_eq_true, Bool.or_eq_true, Bool.not_eq_true', Bool.and_eq_false_iff, Bool.not_eq_false', decide_eq_true_eq, decide_eq_false_iff_not, peq_int, List.length_map]; omega)))
theorem ltR_row {s : Str} {i j : Nat} (ok : PyData.strOk s = true) (h : i < j) : ltR (rgt s i) (rgt s j) := by
  refine ⟨_, _, rfl, rfl, ?_, ?_, rfl, ?_⟩
  · show (PyData.strOk s && (true && true)) = true
    rw [ok]; rfl
  · show (PyData.strOk s && (true && true)) = true
    rw [ok]; rfl
  · show (if (s == s) = true then (if ((i : Int) == (j : Int)) = true then false else decide ((i : Int) < (j : Int))) else _) = true
    rw [if_pos (beq_self_eq_true s), if_neg (by rw [beq_iff_eq]; omega)]
    exact decide_eq_true (by omega)
theorem ltR_ne {s t : Str} {i j : Int} (o1 : PyData.strOk s = true) (o2 : PyData.strOk t = true) (ne : (s == t) = false) (h : decide (s.cps.toList < t.cps.toList) = true) : ltR (rgt s i) (rgt t j) := by
  refine ⟨_, _, rfl, rfl, ?_, ?_, rfl, ?_⟩
  · show (PyData.strOk s && (true && true)) = true
    rw [o1]; rfl
  · show (PyData.strOk t && (true && true)) = true
    rw [o2]; rfl
  · show (if (s == t) = true then _ else decide (s.cps.toList < t.cps.toList)) = true
    rw [ne, if_neg (by simp)]
    exact h
theorem row_pw {s : Str} {n : Nat} (ok : PyData.strOk s = true) : (rowOf s n).Pairwise ltR := by
  unfold rowOf
  rw [List.pairwise_map]
  exact List.Pairwise.imp (fun h => ltR_row ok h) List.pairwise_lt_range
/-- all items bear one of these words -/
def Wd (ws : List Str) (xs : List PV) : Prop := ∀ x ∈ xs, ∃ s ∈ ws, ∃ k : Int, x = rgt s k
theorem wd_row {s : Str} {n : Nat} : Wd [s] (rowOf s n) := fun x hx => by
  obtain ⟨k, _, e⟩ := row_mem hx
  exact ⟨s, by simp, k, e⟩
theorem wd_app {ws us : List Str} {xs ys : List PV} (h1 : Wd ws xs) (h2 : Wd us ys) : Wd (ws ++ us) (xs ++ ys) := fun x hx => by
  rcases List.mem_append.mp hx with hx | hx
  · obtain ⟨s, hs, k, e⟩ := h1 x hx
    exact ⟨s, List.mem_append_left _ hs, k, e⟩
  · obtain ⟨s, hs, k, e⟩ := h2 x hx
    exact ⟨s, List.mem_append_right _ hs, k, e⟩
def wlt (s t : Str) : Bool := PyData.strOk s && (PyData.strOk t && (!(s == t) && decide (s.cps.toList < t.cps.toList)))
theorem pw_app {ws us : List Str} {xs ys : List PV} (h1 : Wd ws xs) (h2 : Wd us ys) (p1 : xs.Pairwise ltR) (p2 : ys.Pairwise ltR) (h : (ws.all fun s => us.all fun t => wlt s t) = true) : (xs ++ ys).Pairwise ltR := by
  refine List.pairwise_append.mpr ⟨p1, p2, fun x hx y hy => ?_⟩
  obtain ⟨s, hs, i, rfl⟩ := h1 x hx
  obtain ⟨t, ht, j, rfl⟩ := h2 y hy
  have q : wlt s t = true := List.all_eq_true.mp (List.all_eq_true.mp h s hs) t ht
  obtain ⟨q1, q⟩ := ba q
  obtain ⟨q2, q⟩ := ba q
  obtain ⟨q3, q4⟩ := ba q
  exact ltR_ne q1 q2 (by simpa using q3) q4
theorem pool_pw (nt np nq nl : Nat) (dk : Int) : (pool nt np nq nl dk).Pairwise ltR := by
  unfold pool
  have sk : Wd ["seek"] (if 0 < dk then [rgt "seek" 0] else []) ∧ (if 0 < dk then [rgt "seek" 0] else []).Pairwise ltR := by
    by_cases c : 0 < dk
    · rw [if_pos c]
      exact ⟨fun x hx => by rw [List.mem_singleton] at hx; subst hx; exact ⟨_, by simp, 0, rfl⟩, by simp⟩
    · rw [if_neg c]
      exact ⟨fun x hx => (by cases hx), by simp⟩
  have a1 := wd_app (wd_row (s := "hand") (n := nt)) (wd_row (s := "lock") (n := nl))
  have b1 := pw_app wd_row wd_row (row_pw (s := "hand") (n := nt) (by decide +kernel)) (row_pw (s := "lock") (n := nl) (by decide +kernel)) (by decide +kernel)
  have a2 := wd_app a1 (wd_row (s := "read") (n := np))
  have b2 := pw_app a1 wd_row b1 (row_pw (s := "read") (n := np) (by decide +kernel)) (by decide +kernel)
  have a3 := wd_app a2 sk.1
  have b3 := pw_app a2 sk.1 b2 sk.2 (by decide +kernel)
  have a4 := wd_app a3 (wd_row (s := "send") (n := nq))
  have b4 := pw_app a3 wd_row b3 (row_pw (s := "send") (n := nq) (by decide +kernel)) (by decide +kernel)
  have a5 := wd_app a4 (wd_row (s := "strip") (n := nt))
  have b5 := pw_app a4 wd_row b4 (row_pw (s := "strip") (n := nt) (by decide +kernel)) (by decide +kernel)
  have a6 := wd_app a5 (wd_row (s := "take") (n := nq))
  have b6 := pw_app a5 wd_row b5 (row_pw (s := "take") (n := nq) (by decide +kernel)) (by decide +kernel)
  exact pw_app a6 wd_row b6 (row_pw (s := "write") (n := np) (by decide +kernel)) (by decide +kernel)
theorem o_good_rights (Φ : Nat → ZSp) (h17 : Φ 7 = sp_fits_right) (h18 : Φ 6 = sp_climbs) (vs : List PV) (M : Mh) (Q : ZQ) (E : ZX) (h : sp_good_rights vs M Q E) : vs.length = 2 ∧ Reach M fun M1 => inl Φ 4 2 b_good_rights vs M1 Q E := by
  obtain ⟨nt, np, nq, nl, dk, rs, rfl, ⟨hl, hn⟩, hr, hq⟩ := h
  refine ⟨rfl, .done ⟨rfl, ?_⟩⟩
  walk_at "GO"
  refine br_f (by walk_at "BB") ?_
  walk_at "GO"
  refine it_ind (fun xs σ M' => ∃ (ms : List (List PV)) (o o2 : Option PV), xs = ms.map PV.lst ∧ (∀ r ∈ ms, r.Sublist (pool nt np nq nl dk) ∧ r.length ≤ 8) ∧ σ = [some (lims nt np nq nl dk), some (.lst (rs.map PV.lst)), o, o2] ∧ M' = M) ⟨rs, none, none, rfl, hr, rfl, rfl⟩ ?_ ?_
  · rintro σ M' ⟨ms, o, o2, e, hr, rfl, rfl⟩
    walk_at "GO"
    exact Qw.here hq
  · rintro x rr σ M' ⟨ms, o, o2, e, hr, rfl, rfl⟩ L hL
    cases ms with
    | nil => cases e
    | cons m ms =>
      cases e
      obtain ⟨hs, h8⟩ := hr m (by simp)
      have hr' : ∀ r ∈ ms, r.Sublist (pool nt np nq nl dk) ∧ r.length ≤ 8 := fun r hr'' => hr r (by simp [hr''])
      walk_at "GO"
      refine br_f (by walk_at "BB") ?_
      walk_at "GO"
      refine it_ind (fun xs σ M'' => ∃ (o2 : Option PV), (∀ x ∈ xs, x ∈ pool nt np nq nl dk) ∧ σ = [some (lims nt np nq nl dk), some (.lst (rs.map PV.lst)), some (.lst m), o2] ∧ M'' = M') ⟨o2, fun x hx => hs.subset hx, rfl, rfl⟩ ?_ ?_
      · rintro σ M' ⟨o2, hx, rfl, rfl⟩
        walk_at "GO"
        rw [h18]
        refine ⟨m, rfl, by omega, (pool_pw nt np nq nl dk).sublist hs, ?_⟩
        walk_at "GO"
        exact hL _ _ ⟨ms, _, _, rfl, hr', rfl, rfl⟩
      · rintro x rr σ M' ⟨o2, hx, rfl, rfl⟩ L2 hL2
        walk_at "GO"
        rw [h17]
        refine ⟨nt, np, nq, nl, dk, x, rfl, hx x (by simp), ?_⟩
        walk_at "GO"
        exact hL2 _ _ ⟨_, fun y hy => hx y (by simp [hy]), rfl, rfl⟩
end HT
set_option Elab.async false
set_option linter.all false
set_option maxRecDepth 100000
set_option maxHeartbeats 400000
namespace HT
open PySem PySem.Spec PyProof.Rows L2 Z
local macro_rules | `(tactic| walk_at "HL") => `(tactic| (first | assumption | exact put_same | (rw [put_ne (by first | assumption | (apply Ne.symm; assumption))]; first | assumption | exact put_same | (rw [put_ne (by first | assumption | (apply Ne.symm; assumption))]; first | assumption | exact put_same | (rw [put_ne (by first | assumption | (apply Ne.symm; assumption))]; first | assumption | exact put_same)))))
local macro_rules | `(tactic| walk_at "ONE") => `(tactic| (first | (refine And.intro rfl ?_; (conv => whnf)) | (refine Exists.intro _ (Exists.intro _ (Exists.intro _ (Exists.intro _ (And.intro (by walk_at "HL") (And.intro (by assumption) (And.intro rfl ?_)))))); (conv => whnf)) | (refine Exists.intro _ (Exists.intro _ (Exists.intro _ (And.intro (by walk_at "HL") (And.intro (DSet.old (by assumption) (by decide +kernel) (by decide +kernel)) ?_)))); (conv => whnf)) | (refine Exists.intro _ (Exists.intro _ (Exists.intro _ (And.intro (by walk_at "HL") (And.intro (DSet.new (by decide +kernel) (by decide +kernel)) ?_)))); (conv => whnf)) | (refine And.intro True.intro ?_; (conv => whnf)) | (refine And.intro (Exists.intro _ (by walk_at "HL")) ?_; (conv => whnf)) | (refine And.intro (by walk_at "HL") ?_; (conv => whnf)) | (refine And.intro (And.intro rfl rfl) ?_; (conv => whnf)) | (refine And.intro (Nat.le_of_ble_eq_true rfl) ?_; (conv => whnf)) | (refine And.intro (by decide) ?_; (conv => whnf)) | (refine And.intro (by omega) ?_; (conv => whnf)) | (refine Exists.intro _ (And.intro (by walk_at "HL") ?_); (conv => whnf)) | (refine Exists.intro _ (And.intro rfl ?_); (conv => whnf)) | (refine Exists.intro _ (Exists.intro _ (And.intro (by walk_at "HL") (And.intro rfl ?_))); (conv => whnf)) | (refine Exists.intro _ (Exists.intro _ (And.intro (by walk_at "HL") (And.intro (And.intro (by decide) rfl) ?_))); (conv => whnf)) | (refine Exists.intro _ (Exists.intro _ (And.intro rfl (And.intro rfl ?_))); (conv => whnf)) | (refine Exists.intro _ (Exists.intro _ (And.intro (by walk_at "HL") (And.intro (by walk_at "HL") ?_))); (conv => whnf)) | (refine Exists.intro _ (And.intro (by walk_at "HL") (And.intro (by decide) ?_)); (conv => whnf)) | (refine br_t rfl ?_; (conv => whnf)) | (refine br_f rfl ?_; (conv => whnf)) | (refine And.intro (And.intro (by decide +kernel) (by decide +kernel)) ?_; (conv => whnf)) | (refine br_t (by decide +kernel) ?_; (conv => whnf)) | (refine br_f (by decide +kernel) ?_; (conv => whnf))))
local macro_rules | `(tactic| walk_at "ONI") => `(tactic| (first | (refine Qw.here ?_; (conv => whnf)) | (refine br_t (decide_eq_true (by omega)) ?_; (conv => whnf)) | (refine br_f (decide_eq_false (by omega)) ?_; (conv => whnf)) | (refine And.intro rfl ?_; (conv => whnf)) | (refine Exists.intro _ (Exists.intro _ (Exists.intro _ (Exists.intro _ (And.intro (by walk_at "HL") (And.intro (by assumption) (And.intro rfl ?_)))))); (conv => whnf)) | (refine Exists.intro _ (Exists.intro _ (Exists.intro _ (And.intro (by walk_at "HL") (And.intro (DSet.old (by assumption) (by decide +kernel) (by decide +kernel)) ?_)))); (conv => whnf)) | (refine Exists.intro _ (Exists.intro _ (Exists.intro _ (And.intro (by walk_at "HL") (And.intro (DSet.new (by decide +kernel) (by decide +kernel)) ?_)))); (conv => whnf)) | (refine And.intro True.intro ?_; (conv => whnf)) | (refine And.intro (Exists.intro _ (by walk_at "HL")) ?_; (conv => whnf)) | (refine And.intro (by walk_at "HL") ?_; (conv => whnf)) | (refine And.intro (And.intro rfl rfl) ?_; (conv => whnf)) | (refine And.intro (Nat.le_of_ble_eq_true rfl) ?_; (conv => whnf)) | (refine And.intro (by decide) ?_; (conv => whnf)) | (refine And.intro (by omega) ?_; (conv => whnf)) | (refine Exists.intro _ (And.intro (by walk_at "HL") ?_); (conv => whnf)) | (refine Exists.intro _ (And.intro rfl ?_); (conv => whnf)) | (refine Exists.intro _ (Exists.intro _ (And.intro (by walk_at "HL") (And.intro rfl ?_))); (conv => whnf)) | (refine Exists.intro _ (Exists.intro _ (And.intro (by walk_at "HL") (And.intro (And.intro (by decide) rfl) ?_))); (conv => whnf)) | (refine Exists.intro _ (Exists.intro _ (And.intro rfl (And.intro rfl ?_))); (conv => whnf)) | (refine Exists.intro _ (Exists.intro _ (And.intro (by walk_at "HL") (And.intro (by walk_at "HL") ?_))); (conv => whnf)) | (refine Exists.intro _ (And.intro (by walk_at "HL") (And.intro (by decide) ?_)); (conv => whnf)) | (refine br_t rfl ?_; (conv => whnf)) | (refine br_f rfl ?_; (conv => whnf)) | (refine And.intro (And.intro (by decide +kernel) (by decide +kernel)) ?_; (conv => whnf)) | (refine br_t (by decide +kernel) ?_; (conv => whnf)) | (refine br_f (by decide +kernel) ?_; (conv => whnf))))
local macro_rules | `(tactic| walk_at "GO") => `(tactic| (((try (conv => whnf)); repeat (walk_at "ONE"))))
local macro_rules | `(tactic| walk_at "GI") => `(tactic| (((conv => whnf); repeat (walk_at "ONI"))))
local macro_rules | `(tactic| walk_at "BB") => `(tactic| (first | rfl | (simp only [Bool.and_eq_true, Bool.or_eq_true, Bool.not_eq_true', Bool.and_eq_false_iff, Bool.not_eq_false', decide_eq_true_eq, decide_eq_false_iff_not, peq_int, List.length_map]; omega)))
def snd0 : PV → PV
  | .tup [_, y] => y
  | _ => .non
theorem total_rows (s : Str) (rows : List (Int × Int)) : total (.tup [.str s, .tup (rows.map pr2)]) = (rows.map (·.2)).sum := by
  show ((rows.map pr2).map _).sum = _
  rw [List.map_map]
  rfl
/-- the loop of the period -/
theorem per_end (Φ : Nat → ZSp) {M : Mh} {Q : ZQ} {E : ZX} {x y : PV} {o : Option PV} {t e : Int} (he : 1 ≤ e ∧ e ≤ 4) (hq : Q (.int (per t e)) M) :
    semSs Φ (RR E) (SL.tl (SL.tl (SL.tl (SL.tl b_period_of)))) (DD Q) [some x, some y, some (.int t), some (.int e), none, o] M := by
  have he0 : 0 < e := by omega
  unfold per at hq
  walk_at "GO"
  refine ⟨4, ?_⟩
  walk_at "GO"
  refine br_nint (fun c => ?_) fun c => ?_
  · rw [if_neg c] at hq
    walk_at "GO"
    refine br_nint (fun c => ?_) fun c => ?_
    · rw [if_neg c] at hq
      walk_at "GO"
      refine br_nint (fun c => ?_) fun c => ?_
      · rw [if_neg c] at hq
        walk_at "GO"
        refine br_nint (fun c => ?_) fun c => ?_
        · exfalso
          obtain rfl | rfl | rfl | rfl : e = 1 ∨ e = 2 ∨ e = 3 ∨ e = 4 := by omega
          all_goals omega
        · walk_at "GO"
          exact Qw.here hq
      · rw [if_pos c] at hq
        walk_at "GO"
        exact Qw.here hq
    · rw [if_pos c] at hq
      walk_at "GO"
      exact Qw.here hq
  · rw [if_pos c] at hq
    walk_at "GO"
    exact Qw.here hq
theorem per_mid (Φ : Nat → ZSp) {M : Mh} {Q : ZQ} {E : ZX} {x ou : PV} {k : Nat} {o : Option PV} {t : Int} (ho : OutP k ou) (hq : Q (.int (per t (every ou))) M) :
    semSs Φ (RR E) (SL.tl (SL.tl b_period_of)) (DD Q) [some x, some ou, some (.int t), none, none, o] M := by
  rcases ho with rfl | ⟨a, b, ha, hb, rfl⟩
  · walk_at "GO"
    exact per_end Φ (e := 1) (by omega) hq
  · walk_at "GO"
    exact per_end Φ (e := b) hb hq
theorem o_period_of (Φ : Nat → ZSp) (vs : List PV) (M : Mh) (Q : ZQ) (E : ZX) (h : sp_period_of vs M Q E) : vs.length = 2 ∧ Reach M fun M1 => inl Φ 6 2 b_period_of vs M1 Q E := by
  obtain ⟨n, k, p, ou, rfl, hp, ho, hq⟩ := h
  refine ⟨rfl, .done ⟨rfl, ?_⟩⟩
  rcases hp with ⟨k, hk, rfl⟩ | ⟨rows, hl, hr, rfl⟩
  · ((conv => whnf); iterate 2 (walk_at "ONE"))
    refine br_f (by decide +kernel) ?_
    exact per_mid Φ ho hq
  · walk_at "GO"
    intro D hD
    refine lc_mapF snd0 hD (by rw [List.length_map]; omega) (fun _ => trivial) ?_ ?_
    · intro x hx acc k hk
      obtain ⟨t, ht, rfl⟩ := List.mem_map.mp hx
      walk_at "GO"
      exact hk
    refine ⟨rows.map (·.2), by rw [List.map_map, List.map_map]; rfl, ?_⟩
    rw [show frz (.tup [.str "slots", .lst (rows.map pr2)]) = .tup [.str "slots", .tup (rows.map pr2)] from rfl, total_rows] at hq
    exact per_mid Φ ho hq
end HT
set_option Elab.async false
set_option linter.all false
set_option maxRecDepth 100000
set_option maxHeartbeats 400000
namespace HT
open PySem PySem.Spec PyProof.Rows L2 Z
local macro_rules | `(tactic| walk_at "HL") => `(tactic| (first | assumption | exact put_same | (rw [put_ne (by first | assumption | (apply Ne.symm; assumption))]; first | assumption | exact put_same | (rw [put_ne (by first | assumption | (apply Ne.symm; assumption))]; first | assumption | exact put_same | (rw [put_ne (by first | assumption | (apply Ne.symm; assumption))]; first | assumption | exact put_same)))))
local macro_rules | `(tactic| walk_at "ONE") => `(tactic| (first | (refine And.intro rfl ?_; (conv => whnf)) | (refine Exists.intro _ (Exists.intro _ (Exists.intro _ (Exists.intro _ (And.intro (by walk_at "HL") (And.intro (by assumption) (And.intro rfl ?_)))))); (conv => whnf)) | (refine Exists.intro _ (Exists.intro _ (Exists.intro _ (And.intro (by walk_at "HL") (And.intro (DSet.old (by assumption) (by decide +kernel) (by decide +kernel)) ?_)))); (conv => whnf)) | (refine Exists.intro _ (Exists.intro _ (Exists.intro _ (And.intro (by walk_at "HL") (And.intro (DSet.new (by decide +kernel) (by decide +kernel)) ?_)))); (conv => whnf)) | (refine And.intro True.intro ?_; (conv => whnf)) | (refine And.intro (Exists.intro _ (by walk_at "HL")) ?_; (conv => whnf)) | (refine And.intro (by walk_at "HL") ?_; (conv => whnf)) | (refine And.intro (And.intro rfl rfl) ?_; (conv => whnf)) | (refine And.intro (Nat.le_of_ble_eq_true rfl) ?_; (conv => whnf)) | (refine And.intro (by decide) ?_; (conv => whnf)) | (refine And.intro (by omega) ?_; (conv => whnf)) | (refine Exists.intro _ (And.intro (by walk_at "HL") ?_); (conv => whnf)) | (refine Exists.intro _ (And.intro rfl ?_); (conv => whnf)) | (refine Exists.intro _ (Exists.intro _ (And.intro (by walk_at "HL") (And.intro rfl ?_))); (conv => whnf)) | (refine Exists.intro _ (Exists.intro _ (And.intro (by walk_at "HL") (And.intro (And.intro (by decide) rfl) ?_))); (conv => whnf)) | (refine Exists.intro _ (Exists.intro _ (And.intro rfl (And.intro rfl ?_))); (conv => whnf)) | (refine Exists.intro _ (Exists.intro _ (And.intro (by walk_at "HL") (And.intro (by walk_at "HL") ?_))); (conv => whnf)) | (refine Exists.intro _ (And.intro (by walk_at "HL") (And.intro (by decide) ?_)); (conv => whnf)) | (refine br_t rfl ?_; (conv => whnf)) | (refine br_f rfl ?_; (conv => whnf)) | (refine And.intro (And.intro (by decide +kernel) (by decide +kernel)) ?_; (conv => whnf)) | (refine br_t (by decide +kernel) ?_; (conv => whnf)) | (refine br_f (by decide +kernel) ?_; (conv => whnf))))
local macro_rules | `(tactic| walk_at "ONI") => `(tactic| (first | (refine Qw.here ?_; (conv => whnf)) | (refine br_t (decide_eq_true (by omega)) ?_; (conv => whnf)) | (refine br_f (decide_eq_false (by omega)) ?_; (conv => whnf)) | (refine And.intro rfl ?_; (conv => whnf)) | (refine Exists.intro _ (Exists.intro _ (Exists.intro _ (Exists.intro _ (And.intro (by walk_at "HL") (And.intro (by assumption) (And.intro rfl ?_)))))); (conv => whnf)) | (refine Exists.intro _ (Exists.intro _ (Exists.intro _ (And.intro (by walk_at "HL") (And.intro (DSet.old (by assumption) (by decide +kernel) (by decide +kernel)) ?_)))); (conv => whnf)) | (refine Exists.intro _ (Exists.intro _ (Exists.intro _ (And.intro (by walk_at "HL") (And.intro (DSet.new (by decide +kernel) (by decide +kernel)) ?_)))); (conv => whnf)) | (refine And.intro True.intro ?_; (conv => whnf)) | (refine And.intro (Exists.intro _ (by walk_at "HL")) ?_; (conv => whnf)) | (refine And.intro (by walk_at "HL") ?_; (conv => whnf)) | (refine And.intro (And.intro rfl rfl) ?_; (conv => whnf)) | (refine And.intro (Nat.le_of_ble_eq_true rfl) ?_; (conv => whnf)) | (refine And.intro (by decide) ?_; (conv => whnf)) | (refine And.intro (by omega) ?_; (conv => whnf)) | (refine Exists.intro _ (And.intro (by walk_at "HL") ?_); (conv => whnf)) | (refine Exists.intro _ (And.intro rfl ?_); (conv => whnf)) | (refine Exists.intro _ (Exists.intro _ (And.intro (by walk_at "HL") (And.intro rfl ?_))); (conv => whnf)) | (refine Exists.intro _ (Exists.intro _ (And.intro (by walk_at "HL") (And.intro (And.intro (by decide) rfl) ?_))); (conv => whnf)) | (refine Exists.intro _ (Exists.intro _ (And.intro rfl (And.intro rfl ?_))); (conv => whnf)) | (refine Exists.intro _ (Exists.intro _ (And.intro (by walk_at "HL") (And.intro (by walk_at "HL") ?_))); (conv => whnf)) | (refine Exists.intro _ (And.intro (by walk_at "HL") (And.intro (by decide) ?_)); (conv => whnf)) | (refine br_t rfl ?_; (conv => whnf)) | (refine br_f rfl ?_; (conv => whnf)) | (refine And.intro (And.intro (by decide +kernel) (by decide +kernel)) ?_; (conv => whnf)) | (refine br_t (by decide +kernel) ?_; (conv => whnf)) | (refine br_f (by decide +kernel) ?_; (conv => whnf))))
local macro_rules | `(tactic| walk_at "GO") => `(tactic| (((try (conv => whnf)); repeat (walk_at "ONE"))))
local macro_rules | `(tactic| walk_at "GI") => `(tactic| (((conv => whnf); repeat (walk_at "ONI"))))
local macro_rules | `(tactic| walk_at "BB") => `(tactic| (first | rfl | (simp only [Bool.and_eq_true, Bool.or_eq_true, Bool.not_eq_true', Bool.and_eq_false_iff, Bool.not_eq_false', decide_eq_true_eq, decide_eq_false_iff_not, peq_int, List.length_map]; omega)))
def sp_good_disk : ZSp := fun vs M Q _ => ∃ d : Int, vs = [.int d] ∧ (d = 0 ∨ d = 2 ∨ d = 3 ∨ d = 4) ∧ Q (.bl true) M
def sp_good_costs : ZSp := fun vs M Q _ => ∃ a b c : Int, vs = [.tup [.int a, .int b, .int c]] ∧ ((1 ≤ a ∧ a ≤ 3) ∧ (0 ≤ b ∧ b ≤ 3) ∧ 0 ≤ c ∧ c ≤ 2) ∧ Q (.bl true) M
def sp_good_outside : ZSp := fun vs M Q _ => ∃ (n : Nat) (ou : PV), vs = [.int n, ou] ∧ OutP n ou ∧ Q (.bl true) M
def sp_check_things : ZSp := fun vs M Q _ => ∃ p : Pt, p.Ok ∧ vs = [p.tl, .lst (p.ps.map PV.int), .lst (p.qs.map PV.int), .int p.nl, .int p.fr, .int p.dk] ∧ Q .non M
def sp_check_rules : ZSp := fun vs M Q _ => ∃ p : Pt, p.Ok ∧ vs = [lims p.ts.length p.ps.length p.qs.length p.nl p.dk, p.rl, .lst p.ls, p.cs, p.pl, p.ou] ∧ Q .non M
def sp_check_flags : ZSp := fun vs M Q _ => ∃ b0 b1 b2 b3 : Bool, vs = [.bl b0, .bl b1, .bl b2, .bl b3] ∧ Q .non M
def sp_frozen_plan : ZSp := fun vs M Q _ => ∃ (n : Int) (p : PV), vs = [p] ∧ PlanP n p ∧ Q (frz p) M
theorem o_good_disk (Φ : Nat → ZSp) (h7 : Φ 0 = sp_is_integer) (vs : List PV) (M : Mh) (Q : ZQ) (E : ZX) (h : sp_good_disk vs M Q E) : vs.length = 1 ∧ Reach M fun M1 => inl Φ 1 1 b_good_disk vs M1 Q E := by
  obtain ⟨d, rfl, hd, hq⟩ := h
  refine ⟨rfl, .done ⟨rfl, ?_⟩⟩
  walk_at "GO"
  rw [h7]
  refine ⟨_, rfl, _, rfl, ?_⟩
  rcases hd with rfl | rfl | rfl | rfl
  all_goals
    walk_at "GO"
    exact Qw.here hq
theorem o_good_costs (Φ : Nat → ZSp) (h6 : Φ 5 = sp_is_tuple) (h8 : Φ 1 = sp_in_range) (vs : List PV) (M : Mh) (Q : ZQ) (E : ZX) (h : sp_good_costs vs M Q E) : vs.length = 1 ∧ Reach M fun M1 => inl Φ 1 1 b_good_costs vs M1 Q E := by
  obtain ⟨a, b, c, rfl, hd, hq⟩ := h
  refine ⟨rfl, .done ⟨rfl, ?_⟩⟩
  walk_at "GO"
  rw [h6]; refine ⟨_, _, rfl, ?_⟩
  walk_at "GO"
  rw [h8]; refine ⟨_, _, _, rfl, ?_⟩
  rw [decide_eq_true hd.1]
  walk_at "GO"
  rw [h8]; refine ⟨_, _, _, rfl, ?_⟩
  rw [decide_eq_true hd.2.1]
  walk_at "GO"
  rw [h8]; refine ⟨_, _, _, rfl, ?_⟩
  rw [decide_eq_true hd.2.2]
  exact Qw.here hq
theorem o_good_outside (Φ : Nat → ZSp) (h6 : Φ 5 = sp_is_tuple) (h8 : Φ 1 = sp_in_range) (h16 : Φ 4 = sp_is_index) (vs : List PV) (M : Mh) (Q : ZQ) (E : ZX) (h : sp_good_outside vs M Q E) : vs.length = 2 ∧ Reach M fun M1 => inl Φ 2 2 b_good_outside vs M1 Q E := by
  obtain ⟨n, ou, rfl, ho, hq⟩ := h
  refine ⟨rfl, .done ⟨rfl, ?_⟩⟩
  rcases ho with rfl | ⟨a, b, ha, hb, rfl⟩
  · walk_at "GO"
    exact Qw.here hq
  · walk_at "GO"
    rw [h6]; refine ⟨_, _, rfl, ?_⟩
    walk_at "GO"
    rw [h16]; refine ⟨_, _, rfl, ?_⟩
    rw [decide_eq_true (by omega)]
    walk_at "GO"
    rw [h8]; refine ⟨_, _, _, rfl, ?_⟩
    rw [decide_eq_true hb]
    exact Qw.here hq
theorem o_check_things (Φ : Nat → ZSp) (h8 : Φ 1 = sp_in_range) (h9 : Φ 22 = sp_good_tasks) (h11 : Φ 23 = sp_good_pages) (h12 : Φ 24 = sp_good_ports) (h13 : Φ 25 = sp_good_disk) (vs : List PV) (M : Mh) (Q : ZQ) (E : ZX) (h : sp_check_things vs M Q E) : vs.length = 6 ∧ Reach M fun M1 => inl Φ 6 6 b_check_things vs M1 Q E := by
  obtain ⟨p, ok, rfl, hq⟩ := h
  refine ⟨rfl, .done ⟨rfl, ?_⟩⟩
  walk_at "GO"
  rw [h9]
  refine ⟨p.ts, rfl, ok.t1, ok.t2, ok.t3, ?_⟩
  walk_at "GO"
  rw [h11]
  refine ⟨p.ps, rfl, ok.p1, ok.p2, ?_⟩
  walk_at "GO"
  rw [h12]
  refine ⟨p.qs, rfl, ok.q1, ok.q2, ?_⟩
  walk_at "GO"
  rw [h8]; refine ⟨_, _, _, rfl, ?_⟩
  have l1 := ok.l1
  rw [decide_eq_true (by omega)]
  walk_at "GO"
  rw [h8]; refine ⟨_, _, _, rfl, ?_⟩
  rw [decide_eq_true ok.f1]
  walk_at "GO"
  rw [h13]
  refine ⟨_, rfl, ok.d1, ?_⟩
  walk_at "GO"
  exact Qw.here hq
theorem o_check_rules (Φ : Nat → ZSp) (h19 : Φ 27 = sp_good_rights) (h20 : Φ 28 = sp_good_lines) (h21 : Φ 29 = sp_good_costs) (h22 : Φ 30 = sp_good_plan) (h23 : Φ 31 = sp_good_outside) (vs : List PV) (M : Mh) (Q : ZQ) (E : ZX) (h : sp_check_rules vs M Q E) : vs.length = 6 ∧ Reach M fun M1 => inl Φ 6 6 b_check_rules vs M1 Q E := by
  obtain ⟨p, ok, rfl, hq⟩ := h
  refine ⟨rfl, .done ⟨rfl, ?_⟩⟩
  walk_at "GO"
  rw [h19]
  refine ⟨_, _, _, _, _, p.rs, rfl, ⟨ok.r1, ok.t1.2⟩, ok.r2, ?_⟩
  walk_at "GO"
  rw [h20]
  refine ⟨_, p.ls, rfl, ⟨ok.s1, ok.p1⟩, ok.s2, ?_⟩
  walk_at "GO"
  rw [h21]
  refine ⟨_, _, _, rfl, ok.c1, ?_⟩
  walk_at "GO"
  rw [h22]
  refine ⟨_, _, rfl, ok.g1, ?_⟩
  walk_at "GO"
  rw [h23]
  refine ⟨_, _, rfl, ok.o1, ?_⟩
  walk_at "GO"
  exact Qw.here hq
theorem o_check_flags (Φ : Nat → ZSp) (h25 : Φ 2 = sp_is_flag) (vs : List PV) (M : Mh) (Q : ZQ) (E : ZX) (h : sp_check_flags vs M Q E) : vs.length = 4 ∧ Reach M fun M1 => inl Φ 4 4 b_check_flags vs M1 Q E := by
  obtain ⟨b0, b1, b2, b3, rfl, hq⟩ := h
  refine ⟨rfl, .done ⟨rfl, ?_⟩⟩
  walk_at "GO"
  rw [h25]; refine ⟨_, rfl, ?_⟩
  walk_at "GO"
  rw [h25]; refine ⟨_, rfl, ?_⟩
  walk_at "GO"
  rw [h25]; refine ⟨_, rfl, ?_⟩
  walk_at "GO"
  rw [h25]; refine ⟨_, rfl, ?_⟩
  walk_at "GO"
  exact Qw.here hq
theorem o_frozen_plan (Φ : Nat → ZSp) (vs : List PV) (M : Mh) (Q : ZQ) (E : ZX) (h : sp_frozen_plan vs M Q E) : vs.length = 1 ∧ Reach M fun M1 => inl Φ 1 1 b_frozen_plan vs M1 Q E := by
  obtain ⟨n, p, rfl, hp, hq⟩ := h
  refine ⟨rfl, .done ⟨rfl, ?_⟩⟩
  rcases hp with ⟨k, hk, rfl⟩ | ⟨rows, hl, hr, rfl⟩
  · walk_at "GO"
    exact Qw.here hq
  · walk_at "GO"
    exact Qw.here hq
theorem sides_eq {ts : List (Int × Int)} (h : ∀ t ∈ ts, (0 ≤ t.1 ∧ t.1 ≤ 3) ∧ 0 ≤ t.2 ∧ t.2 ≤ 2) {ms : List Int} (h1 : ms.Pairwise (· < ·)) (h2 : ∀ k, k ∈ ms ↔ k ∈ ts.map (·.1)) : ms = sidesOf ts := by
  have p2 : (sidesOf ts).Pairwise (· < ·) := List.Pairwise.filter _ (by decide)
  have m2 : ∀ k, k ∈ sidesOf ts ↔ k ∈ ts.map (·.1) := fun k => by
    unfold sidesOf
    rw [List.mem_filter, List.any_eq_true, List.mem_map]
    constructor
    · rintro ⟨_, t, ht, e⟩
      exact ⟨t, ht, of_decide_eq_true e⟩
    · rintro ⟨t, ht, rfl⟩
      refine ⟨?_, t, ht, decide_eq_true rfl⟩
      have := (h t ht).1
      simp only [List.mem_cons, List.not_mem_nil, or_false]
      omega
  have hp : ms.Perm (sidesOf ts) := (List.perm_ext_iff_of_nodup (h1.imp fun h => by omega) (p2.imp fun h => by omega)).mpr fun k => (h2 k).trans (m2 k).symm
  exact hp.eq_of_pairwise (fun a b _ _ h1 h2 => by omega) h1 p2
end HT
set_option Elab.async false
set_option linter.all false
set_option maxRecDepth 100000
set_option maxHeartbeats 1000000
namespace HT
open PySem PySem.Spec PyProof.Rows L2 Z
local macro_rules | `(tactic| walk_at "HL") => `(tactic| (first | assumption | exact put_same | (rw [put_ne (by first | assumption | (apply Ne.symm; assumption))]; first | assumption | exact put_same | (rw [put_ne (by first | assumption | (apply Ne.symm; assumption))]; first | assumption | exact put_same | (rw [put_ne (by first | assumption | (apply Ne.symm; assumption))]; first | assumption | exact put_same)))))
local macro_rules | `(tactic| walk_at "ONE") => `(tactic| (first | (refine And.intro rfl ?_; (conv => whnf)) | (refine Exists.intro _ (Exists.intro _ (Exists.intro _ (Exists.intro _ (And.intro (by walk_at "HL") (And.intro (by assumption) (And.intro rfl ?_)))))); (conv => whnf)) | (refine Exists.intro _ (Exists.intro _ (Exists.intro _ (And.intro (by walk_at "HL") (And.intro (DSet.old (by assumption) (by decide +kernel) (by decide +kernel)) ?_)))); (conv => whnf)) | (refine Exists.intro _ (Exists.intro _ (Exists.intro _ (And.intro (by walk_at "HL") (And.intro (DSet.new (by decide +kernel) (by decide +kernel)) ?_)))); (conv => whnf)) | (refine And.intro True.intro ?_; (conv => whnf)) | (refine And.intro (Exists.intro _ (by walk_at "HL")) ?_; (conv => whnf)) | (refine And.intro (by walk_at "HL") ?_; (conv => whnf)) | (refine And.intro (And.intro rfl rfl) ?_; (conv => whnf)) | (refine And.intro (Nat.le_of_ble_eq_true rfl) ?_; (conv => whnf)) | (refine And.intro (by decide) ?_; (conv => whnf)) | (refine And.intro (by omega) ?_; (conv => whnf)) | (refine Exists.intro _ (And.intro (by walk_at "HL") ?_); (conv => whnf)) | (refine Exists.intro _ (And.intro rfl ?_); (conv => whnf)) | (refine Exists.intro _ (Exists.intro _ (And.intro (by walk_at "HL") (And.intro rfl ?_))); (conv => whnf)) | (refine Exists.intro _ (Exists.intro _ (And.intro (by walk_at "HL") (And.intro (And.intro (by decide) rfl) ?_))); (conv => whnf)) | (refine Exists.intro _ (Exists.intro _ (And.intro rfl (And.intro rfl ?_))); (conv => whnf)) | (refine Exists.intro _ (Exists.intro _ (And.intro (by walk_at "HL") (And.intro (by walk_at "HL") ?_))); (conv => whnf)) | (refine Exists.intro _ (And.intro (by walk_at "HL") (And.intro (by decide) ?_)); (conv => whnf)) | (refine br_t rfl ?_; (conv => whnf)) | (refine br_f rfl ?_; (conv => whnf)) | (refine And.intro (And.intro (by decide +kernel) (by decide +kernel)) ?_; (conv => whnf)) | (refine br_t (by decide +kernel) ?_; (conv => whnf)) | (refine br_f (by decide +kernel) ?_; (conv => whnf))))
local macro_rules | `(tactic| walk_at "ONI") => `(tactic| (first | (refine Qw.here ?_; (conv => whnf)) | (refine br_t (decide_eq_true (by omega)) ?_; (conv => whnf)) | (refine br_f (decide_eq_false (by omega)) ?_; (conv => whnf)) | (refine And.intro rfl ?_; (conv => whnf)) | (refine Exists.intro _ (Exists.intro _ (Exists.intro _ (Exists.intro _ (And.intro (by walk_at "HL") (And.intro (by assumption) (And.intro rfl ?_)))))); (conv => whnf)) | (refine Exists.intro _ (Exists.intro _ (Exists.intro _ (And.intro (by walk_at "HL") (And.intro (DSet.old (by assumption) (by decide +kernel) (by decide +kernel)) ?_)))); (conv => whnf)) | (refine Exists.intro _ (Exists.intro _ (Exists.intro _ (And.intro (by walk_at "HL") (And.intro (DSet.new (by decide +kernel) (by decide +kernel)) ?_)))); (conv => whnf)) | (refine And.intro True.intro ?_; (conv => whnf)) | (refine And.intro (Exists.intro _ (by walk_at "HL")) ?_; (conv => whnf)) | (refine And.intro (by walk_at "HL") ?_; (conv => whnf)) | (refine And.intro (And.intro rfl rfl) ?_; (conv => whnf)) | (refine And.intro (Nat.le_of_ble_eq_true rfl) ?_; (conv => whnf)) | (refine And.intro (by decide) ?_; (conv => whnf)) | (refine And.intro (by omega) ?_; (conv => whnf)) | (refine Exists.intro _ (And.intro (by walk_at "HL") ?_); (conv => whnf)) | (refine Exists.intro _ (And.intro rfl ?_); (conv => whnf)) | (refine Exists.intro _ (Exists.intro _ (And.intro (by walk_at "HL") (And.intro rfl ?_))); (conv => whnf)) | (refine Exists.intro _ (Exists.intro _ (And.intro (by walk_at "HL") (And.intro (And.intro (by decide) rfl) ?_))); (conv => whnf)) | (refine Exists.intro _ (Exists.intro _ (And.intro rfl (And.intro rfl ?_))); (conv => whnf)) | (refine Exists.intro _ (Exists.intro _ (And.intro (by walk_at "HL") (And.intro (by walk_at "HL") ?_))); (conv => whnf)) | (refine Exists.intro _ (And.intro (by walk_at "HL") (And.intro (by decide) ?_)); (conv => whnf)) | (refine br_t rfl ?_; (conv => whnf)) | (refine br_f rfl ?_; (conv => whnf)) | (refine And.intro (And.intro (by decide +kernel) (by decide +kernel)) ?_; (conv => whnf)) | (refine br_t (by decide +kernel) ?_; (conv => whnf)) | (refine br_f (by decide +kernel) ?_; (conv => whnf))))
local macro_rules | `(tactic| walk_at "GO") => `(tactic| (((try (conv => whnf)); repeat (walk_at "ONE"))))
local macro_rules | `(tactic| walk_at "GI") => `(tactic| (((conv => whnf); repeat (walk_at "ONI"))))
local macro_rules | `(tactic| walk_at "BB") => `(tactic| (first | rfl | (simp only [Bool.and_eq_true, Bool.or_eq_true, Bool.not_eq_true', Bool.and_eq_false_iff, Bool.not_eq_false', decide_eq_true_eq, decide_eq_false_iff_not, peq_int, List.length_map]; omega)))
def asT : PV → PV
  | .lst xs => .tup xs
  | _ => .non
theorem o_init (Φ : Nat → ZSp) (h14 : Φ 32 = sp_check_things) (h15 : Φ 26 = sp_limits_of) (h24 : Φ 33 = sp_check_rules) (h26 : Φ 34 = sp_check_flags) (h27 : Φ 35 = sp_frozen_plan) (h28 : Φ 36 = sp_period_of) (vs : List PV) (M : Mh) (Q : ZQ) (E : ZX) (h : sp_init vs M Q E) : vs.length = 16 ∧ Reach M fun M1 => inl Φ 20 16 b_Build___init__ vs M1 Q E := by
  obtain ⟨a, p, rfl, ok, ha, hq⟩ := h
  refine ⟨rfl, .done ⟨rfl, ?_⟩⟩
  walk_at "GO"
  rw [h14]
  refine ⟨p, ok, rfl, ?_⟩
  walk_at "GO"
  rw [h15]
  refine ⟨(p.ts.map pr2).length, (p.ps.map PV.int).length, (p.qs.map PV.int).length, p.nl, p.dk, rfl, ?_⟩
  rw [List.length_map, List.length_map, List.length_map]
  walk_at "GO"
  rw [h24]
  refine ⟨p, ok, rfl, ?_⟩
  walk_at "GO"
  rw [h26]
  refine ⟨_, _, _, _, rfl, ?_⟩
  (conv => whnf)
  replace ha : M a = some (.ins 0 [none, none, none, none, none, none, none, none, none, none, none, none, none, none, none, none, none, none, none, none]) := ha
  refine ⟨_, ha, Nat.le_of_ble_eq_true rfl, ?_⟩
  simp only [List.set_cons_succ, List.set_cons_zero]
  (conv => whnf)
  iterate 6 (refine ⟨_, put_same, Nat.le_of_ble_eq_true rfl, ?_⟩; rw [put_put]; simp only [List.set_cons_succ, List.set_cons_zero]; (conv => whnf))
  intro D hD
  refine lc_mapF asT hD (by have := ok.r1; have := ok.t1; rw [List.length_map]; omega) (fun _ => trivial) ?_ ?_
  · intro x hx acc k hk
    obtain ⟨t, ht, rfl⟩ := List.mem_map.mp hx
    walk_at "GO"
    exact hk
  have e1 : (p.rs.map PV.lst).map asT = p.rs.map PV.tup := by rw [List.map_map]; rfl
  rw [e1]
  (conv => whnf)
  iterate 3 (refine ⟨_, put_same, Nat.le_of_ble_eq_true rfl, ?_⟩; rw [put_put]; simp only [List.set_cons_succ, List.set_cons_zero]; (conv => whnf))
  rw [h27]
  refine ⟨_, _, rfl, ok.g1, ?_⟩
  (conv => whnf)
  iterate 6 (refine ⟨_, put_same, Nat.le_of_ble_eq_true rfl, ?_⟩; rw [put_put]; simp only [List.set_cons_succ, List.set_cons_zero]; (conv => whnf))
  intro D2 hD2
  refine lc_mapF fst0 hD2 (by have := ok.t1; rw [List.length_map]; omega) (fun _ => trivial) ?_ ?_
  · intro x hx acc k hk
    obtain ⟨t, ht, rfl⟩ := List.mem_map.mp hx
    walk_at "GO"
    exact hk
  have e2 : (p.ts.map pr2).map fst0 = (p.ts.map (·.1)).map PV.int := by rw [List.map_map, List.map_map]; rfl
  rw [e2]
  refine ⟨p.ts.map (·.1), rfl, by have := ok.t1; rw [List.length_map]; omega, ?_⟩
  intro ms m1 m2
  obtain rfl := sides_eq ok.t2 m1 m2
  (conv => whnf)
  (refine ⟨_, put_same, Nat.le_of_ble_eq_true rfl, ?_⟩; rw [put_put]; simp only [List.set_cons_succ, List.set_cons_zero]; (conv => whnf))
  (refine ⟨_, _, put_same, rfl, ?_⟩; (conv => whnf))
  rw [h28]
  refine ⟨_, _, p.pl, p.ou, rfl, ok.g1, ok.o1, ?_⟩
  (conv => whnf)
  (refine ⟨_, put_same, Nat.le_of_ble_eq_true rfl, ?_⟩; rw [put_put]; simp only [List.set_cons_succ, List.set_cons_zero]; (conv => whnf))
  iterate 2 (refine ⟨_, rfl, ?_⟩; (conv => whnf))
  (refine ⟨_, put_same, Nat.le_of_ble_eq_true rfl, ?_⟩; rw [put_put]; simp only [List.set_cons_succ, List.set_cons_zero]; (conv => whnf))
  iterate 6 (refine ⟨_, _, put_same, rfl, ?_⟩; (conv => whnf))
  (refine ⟨_, put_same, Nat.le_of_ble_eq_true rfl, ?_⟩; rw [put_put]; simp only [List.set_cons_succ, List.set_cons_zero])
  exact Qw.here hq
end HT
set_option Elab.async false
set_option linter.all false
set_option maxRecDepth 100000
set_option maxHeartbeats 1000000
namespace HT
open PySem PySem.Spec PyProof.Rows L2 Z
/-! ### texts -/
abbrev dS (i : Int) : Str := toString i
theorem small_cases {P : Int → Prop} {i : Int} (h : 0 ≤ i ∧ i ≤ 12) (k : ∀ n : Nat, n < 13 → P (n : Int)) : P i := by
  obtain ⟨n, rfl⟩ := Int.eq_ofNat_of_zero_le h.1
  exact k n (by omega)
theorem dS_len {i : Int} (h : 0 ≤ i ∧ i ≤ 12) : (dS i).length ≤ 2 := small_cases (P := fun i => (dS i).length ≤ 2) h (by decide +kernel)
theorem dS_ok {i : Int} (h : 0 ≤ i ∧ i ≤ 12) : PyData.strOk (dS i) = true := small_cases (P := fun i => PyData.strOk (dS i) = true) h (by decide +kernel)
theorem dS_log {i : Int} (h : 0 ≤ i ∧ i ≤ 12) : i.natAbs.log2 < 1920 := small_cases (P := fun i => i.natAbs.log2 < 1920) h (by decide +kernel)
theorem len_app' {a b : Str} {n m : Nat} (h1 : a.length ≤ n) (h2 : b.length ≤ m) : (a ++ b).length ≤ n + m := by rw [Str.length_append]; omega
theorem len_t {s : Str} {n : Nat} (h : s.length ≤ n) (hn : n ≤ 500) : s.length ≤ 500 := Nat.le_trans h hn
theorem len2 {a b : Str} (h1 : a.length ≤ 500) (h2 : b.length ≤ 500) : a.length + b.length ≤ sizeLine := by rw [sizeLine_eq]; omega
theorem lenF {a : Str} (h1 : a.length ≤ 500) : a.length ≤ sizeLine := by rw [sizeLine_eq]; omega
theorem ok_app {a b : Str} (h1 : PyData.strOk a = true) (h2 : PyData.strOk b = true) : PyData.strOk (a ++ b) = true := by
  unfold PyData.strOk at *
  rw [Str.cps_append, Array.all_append, h1, h2]
  rfl
/-- short and well -/
structure Rw (s : Str) : Prop where
  len : s.length ≤ 100
  ok : PyData.strOk s = true
def taskRow : PV → Str
  | .tup [.int a, .int b] => "task " ++ dS a ++ " " ++ dS b
  | _ => ""
def pageRow (v : Int) : PV → Str
  | .int k => "page " ++ dS v ++ " line " ++ dS k
  | _ => "page " ++ dS v
def portRow : PV → Str
  | .int k => "port " ++ dS k
  | _ => ""
def slotRow : PV → Str
  | .tup [.int a, .int b] => "  " ++ dS a ++ " " ++ dS b
  | _ => ""
def planRows : PV → List Str
  | .tup [_, .int k] => ["levels " ++ dS k]
  | .tup [_, .lst rows] => "slots" :: rows.map slotRow
  | _ => []
def outRows : PV → List Str
  | .tup [.int a, .int b] => ["outside " ++ dS a ++ " " ++ dS b]
  | _ => []
def flagRows (b0 b1 b2 b3 : Bool) : List Str := (if b0 then [("wipe" : Str)] else []) ++ ((if b1 then [("pad" : Str)] else []) ++ ((if b2 then [("lend" : Str)] else []) ++ (if b3 then [("share" : Str)] else [])))
def rightRow (k : Int) : PV → Str
  | .tup [.str w, .int i] => "right " ++ dS k ++ " " ++ w ++ " " ++ dS i
  | _ => ""
def rightRowsAt (rs : List (List PV)) : PV → List Str
  | .int k => (rs.getD k.toNat []).map (rightRow k)
  | _ => []
def pageRowsAt (ps : List Int) (ls : List PV) : PV → List Str
  | .int k => [pageRow (ps.getD k.toNat 0) (ls.getD k.toNat .non)]
  | _ => []
def rowsOf (p : Pt) : List Str := ((((((((p.ts.map pr2).map taskRow ++ (rangeL 0 p.ps.length).flatMap (pageRowsAt p.ps p.ls)) ++ (p.qs.map PV.int).map portRow) ++ ["locks " ++ dS p.nl]) ++ ["frames " ++ dS p.fr]) ++ ["disk " ++ dS p.dk]) ++ ["costs " ++ dS p.c0 ++ " " ++ dS p.c1 ++ " " ++ dS p.c2]) ++ planRows p.pl) ++ outRows p.ou ++ flagRows p.b0 p.b1 p.b2 p.b3 ++ (rangeL 0 p.rs.length).flatMap (rightRowsAt p.rs)
theorem acc_loop {still : Mh → Prop} {step : PV → Zs → Mh → (Zs → Mh → Prop) → Prop} {done : Zs → Mh → Prop} {a : Addr} {M : Mh} (S : Zs → Prop) (g : PV → List Str) (m : Nat) (xs : List PV) (acc0 : List Str) {σ : Zs} (hS : S σ) (hm : acc0.length + xs.length * m ≤ 1000) (hg : ∀ x ∈ xs, (g x).length ≤ m)
    (hst : ∀ acc, still (put M a (.lst acc))) (hd : ∀ σ, S σ → done σ (put M a (.lst ((acc0 ++ xs.flatMap g).map PV.str))))
    (hs : ∀ x ∈ xs, ∀ σ (acc : List Str), S σ → acc.length + m ≤ 1000 → ∀ L : Zs → Mh → Prop, (∀ σ', S σ' → L σ' (put M a (.lst ((acc ++ g x).map PV.str)))) → step x σ (put M a (.lst (acc.map PV.str))) L) : iter still step done xs σ (put M a (.lst (acc0.map PV.str))) := by
  induction xs generalizing acc0 σ with
  | nil => exact ⟨hst _, by have := hd σ hS; rwa [List.flatMap_nil, List.append_nil] at this⟩
  | cons x r ih =>
    rw [List.length_cons, Nat.add_mul, Nat.one_mul] at hm
    refine ⟨hst _, hs x (by simp) σ acc0 hS (by omega) _ fun σ' hS' => ?_⟩
    refine ih (acc0 ++ g x) hS' (by rw [List.length_append]; have := hg x (by simp); omega) (fun y hy => hg y (by simp [hy])) (fun σ2 h2 => ?_) fun y hy => hs y (by simp [hy])
    have := hd σ2 h2
    rwa [List.flatMap_cons, ← List.append_assoc] at this
end HT
set_option Elab.async false
set_option linter.all false
set_option maxRecDepth 100000
set_option maxHeartbeats 1000000
namespace HT
open PySem PySem.Spec PyProof.Rows L2 Z
/-! ### a moment as it is worked on -/
inductive Stt where
  | ready | asleep (k : Int) | waits (q : Nat) | locked (l : Nat)
  deriving DecidableEq
def Stt.its : Stt → List PV
  | .ready => [.str "ready"]
  | .asleep k => [.str "asleep", .int k]
  | .waits q => [.str "waits", .int q]
  | .locked l => [.str "locked", .int l]
abbrev Stt.pv (s : Stt) : PV := .tup s.its
abbrev eO : Option Nat → PV
  | none => .non
  | some t => .int t
abbrev eA : Option Str → PV
  | none => .non
  | some s => .str s
abbrev eL (l : List Int) : PV := .tup (l.map PV.int)
abbrev nI (t : Nat) : PV := .int (t : Int)
abbrev eK (q : Option Nat × List Nat) : PV := .tup [eO q.1, .tup (q.2.map nI)]
structure Wk where
  st : List Stt
  an : List (Option Str)
  rr : List (List PV)
  fc : List Int
  pg : List Int
  lt : List (List Int)
  lk : List (Option Nat × List Nat)
  ln : List (Option Nat)
  pl : Int
  ru : Option Nat
  sp : Int
  bu : Int
  ph : Int
structure W8 where
  a1 : Addr
  a2 : Addr
  a3 : Addr
  a4 : Addr
  a5 : Addr
  a6 : Addr
  a7 : Addr
  a8 : Addr
abbrev Wk.flds (b : PV) (a : W8) (k : Wk) : List (Option PV) := [some b, some (.ref a.a1), some (.ref a.a2), some (.ref a.a3), some (.ref a.a4), some (.ref a.a5), some (.ref a.a6), some (.ref a.a7), some (.ref a.a8), some (.int k.pl), some (eO k.ru), some (.int k.sp), some (.int k.bu), some (.int k.ph)]
@[irreducible] def Wk.at (M0 : Mh) (w : Addr) (a : W8) (b : PV) (k : Wk) : Mh :=
  put (put (put (put (put (put (put (put (put M0 a.a1 (.lst (k.st.map Stt.pv))) a.a2 (.lst (k.an.map eA))) a.a3 (.lst (k.rr.map PV.tup))) a.a4 (.lst (k.fc.map PV.int))) a.a5 (.lst (k.pg.map PV.int))) a.a6 (.lst (k.lt.map eL))) a.a7 (.lst (k.lk.map eK))) a.a8 (.lst (k.ln.map eO))) w (.ins 1 (k.flds b a))
structure Dis (M0 : Mh) (w : Addr) (a : W8) : Prop where
  nd : [w, a.a1, a.a2, a.a3, a.a4, a.a5, a.a6, a.a7, a.a8].Nodup
  fr : ∀ x ∈ [w, a.a1, a.a2, a.a3, a.a4, a.a5, a.a6, a.a7, a.a8], M0 x = none
section
variable {M0 : Mh} {w : Addr} {a : W8} {b : PV} {k : Wk} {M : Mh}
theorem at_def : Wk.at M0 w a b k = put (put (put (put (put (put (put (put (put M0 a.a1 (.lst (k.st.map Stt.pv))) a.a2 (.lst (k.an.map eA))) a.a3 (.lst (k.rr.map PV.tup))) a.a4 (.lst (k.fc.map PV.int))) a.a5 (.lst (k.pg.map PV.int))) a.a6 (.lst (k.lt.map eL))) a.a7 (.lst (k.lk.map eK))) a.a8 (.lst (k.ln.map eO))) w (.ins 1 (k.flds b a)) := by unfold Wk.at; rfl
theorem at_w : Wk.at M0 w a b k w = some (.ins 1 (k.flds b a)) := by rw [at_def, put_same]
theorem Dis.ne (D : Dis M0 w a) (i j : Nat) (hi : i < 9) (hj : j < 9) (h : i ≠ j) : [w, a.a1, a.a2, a.a3, a.a4, a.a5, a.a6, a.a7, a.a8][i]'hi ≠ [w, a.a1, a.a2, a.a3, a.a4, a.a5, a.a6, a.a7, a.a8][j]'hj := fun e => h ((List.getElem_inj D.nd).mp e)
theorem Dis.n01 (D : Dis M0 w a) : w ≠ a.a1 := D.ne 0 1 (by decide) (by decide) (by decide)
theorem Dis.n02 (D : Dis M0 w a) : w ≠ a.a2 := D.ne 0 2 (by decide) (by decide) (by decide)
theorem Dis.n03 (D : Dis M0 w a) : w ≠ a.a3 := D.ne 0 3 (by decide) (by decide) (by decide)
theorem Dis.n04 (D : Dis M0 w a) : w ≠ a.a4 := D.ne 0 4 (by decide) (by decide) (by decide)
theorem Dis.n05 (D : Dis M0 w a) : w ≠ a.a5 := D.ne 0 5 (by decide) (by decide) (by decide)
theorem Dis.n06 (D : Dis M0 w a) : w ≠ a.a6 := D.ne 0 6 (by decide) (by decide) (by decide)
theorem Dis.n07 (D : Dis M0 w a) : w ≠ a.a7 := D.ne 0 7 (by decide) (by decide) (by decide)
theorem Dis.n08 (D : Dis M0 w a) : w ≠ a.a8 := D.ne 0 8 (by decide) (by decide) (by decide)
theorem Dis.n10 (D : Dis M0 w a) : a.a1 ≠ w := D.ne 1 0 (by decide) (by decide) (by decide)
theorem Dis.n12 (D : Dis M0 w a) : a.a1 ≠ a.a2 := D.ne 1 2 (by decide) (by decide) (by decide)
theorem Dis.n13 (D : Dis M0 w a) : a.a1 ≠ a.a3 := D.ne 1 3 (by decide) (by decide) (by decide)
theorem Dis.n14 (D : Dis M0 w a) : a.a1 ≠ a.a4 := D.ne 1 4 (by decide) (by decide) (by decide)
theorem Dis.n15 (D : Dis M0 w a) : a.a1 ≠ a.a5 := D.ne 1 5 (by decide) (by decide) (by decide)
theorem Dis.n16 (D : Dis M0 w a) : a.a1 ≠ a.a6 := D.ne 1 6 (by decide) (by decide) (by decide)
theorem Dis.n17 (D : Dis M0 w a) : a.a1 ≠ a.a7 := D.ne 1 7 (by decide) (by decide) (by decide)
theorem Dis.n18 (D : Dis M0 w a) : a.a1 ≠ a.a8 := D.ne 1 8 (by decide) (by decide) (by decide)
theorem Dis.n20 (D : Dis M0 w a) : a.a2 ≠ w := D.ne 2 0 (by decide) (by decide) (by decide)
theorem Dis.n21 (D : Dis M0 w a) : a.a2 ≠ a.a1 := D.ne 2 1 (by decide) (by decide) (by decide)
theorem Dis.n23 (D : Dis M0 w a) : a.a2 ≠ a.a3 := D.ne 2 3 (by decide) (by decide) (by decide)
theorem Dis.n24 (D : Dis M0 w a) : a.a2 ≠ a.a4 := D.ne 2 4 (by decide) (by decide) (by decide)
theorem Dis.n25 (D : Dis M0 w a) : a.a2 ≠ a.a5 := D.ne 2 5 (by decide) (by decide) (by decide)
theorem Dis.n26 (D : Dis M0 w a) : a.a2 ≠ a.a6 := D.ne 2 6 (by decide) (by decide) (by decide)
theorem Dis.n27 (D : Dis M0 w a) : a.a2 ≠ a.a7 := D.ne 2 7 (by decide) (by decide) (by decide)
theorem Dis.n28 (D : Dis M0 w a) : a.a2 ≠ a.a8 := D.ne 2 8 (by decide) (by decide) (by decide)
theorem Dis.n30 (D : Dis M0 w a) : a.a3 ≠ w := D.ne 3 0 (by decide) (by decide) (by decide)
theorem Dis.n31 (D : Dis M0 w a) : a.a3 ≠ a.a1 := D.ne 3 1 (by decide) (by decide) (by decide)
theorem Dis.n32 (D : Dis M0 w a) : a.a3 ≠ a.a2 := D.ne 3 2 (by decide) (by decide) (by decide)
theorem Dis.n34 (D : Dis M0 w a) : a.a3 ≠ a.a4 := D.ne 3 4 (by decide) (by decide) (by decide)
theorem Dis.n35 (D : Dis M0 w a) : a.a3 ≠ a.a5 := D.ne 3 5 (by decide) (by decide) (by decide)
theorem Dis.n36 (D : Dis M0 w a) : a.a3 ≠ a.a6 := D.ne 3 6 (by decide) (by decide) (by decide)
theorem Dis.n37 (D : Dis M0 w a) : a.a3 ≠ a.a7 := D.ne 3 7 (by decide) (by decide) (by decide)
theorem Dis.n38 (D : Dis M0 w a) : a.a3 ≠ a.a8 := D.ne 3 8 (by decide) (by decide) (by decide)
theorem Dis.n40 (D : Dis M0 w a) : a.a4 ≠ w := D.ne 4 0 (by decide) (by decide) (by decide)
theorem Dis.n41 (D : Dis M0 w a) : a.a4 ≠ a.a1 := D.ne 4 1 (by decide) (by decide) (by decide)
theorem Dis.n42 (D : Dis M0 w a) : a.a4 ≠ a.a2 := D.ne 4 2 (by decide) (by decide) (by decide)
theorem Dis.n43 (D : Dis M0 w a) : a.a4 ≠ a.a3 := D.ne 4 3 (by decide) (by decide) (by decide)
theorem Dis.n45 (D : Dis M0 w a) : a.a4 ≠ a.a5 := D.ne 4 5 (by decide) (by decide) (by decide)
theorem Dis.n46 (D : Dis M0 w a) : a.a4 ≠ a.a6 := D.ne 4 6 (by decide) (by decide) (by decide)
theorem Dis.n47 (D : Dis M0 w a) : a.a4 ≠ a.a7 := D.ne 4 7 (by decide) (by decide) (by decide)
theorem Dis.n48 (D : Dis M0 w a) : a.a4 ≠ a.a8 := D.ne 4 8 (by decide) (by decide) (by decide)
theorem Dis.n50 (D : Dis M0 w a) : a.a5 ≠ w := D.ne 5 0 (by decide) (by decide) (by decide)
theorem Dis.n51 (D : Dis M0 w a) : a.a5 ≠ a.a1 := D.ne 5 1 (by decide) (by decide) (by decide)
theorem Dis.n52 (D : Dis M0 w a) : a.a5 ≠ a.a2 := D.ne 5 2 (by decide) (by decide) (by decide)
theorem Dis.n53 (D : Dis M0 w a) : a.a5 ≠ a.a3 := D.ne 5 3 (by decide) (by decide) (by decide)
theorem Dis.n54 (D : Dis M0 w a) : a.a5 ≠ a.a4 := D.ne 5 4 (by decide) (by decide) (by decide)
theorem Dis.n56 (D : Dis M0 w a) : a.a5 ≠ a.a6 := D.ne 5 6 (by decide) (by decide) (by decide)
theorem Dis.n57 (D : Dis M0 w a) : a.a5 ≠ a.a7 := D.ne 5 7 (by decide) (by decide) (by decide)
theorem Dis.n58 (D : Dis M0 w a) : a.a5 ≠ a.a8 := D.ne 5 8 (by decide) (by decide) (by decide)
theorem Dis.n60 (D : Dis M0 w a) : a.a6 ≠ w := D.ne 6 0 (by decide) (by decide) (by decide)
theorem Dis.n61 (D : Dis M0 w a) : a.a6 ≠ a.a1 := D.ne 6 1 (by decide) (by decide) (by decide)
theorem Dis.n62 (D : Dis M0 w a) : a.a6 ≠ a.a2 := D.ne 6 2 (by decide) (by decide) (by decide)
theorem Dis.n63 (D : Dis M0 w a) : a.a6 ≠ a.a3 := D.ne 6 3 (by decide) (by decide) (by decide)
theorem Dis.n64 (D : Dis M0 w a) : a.a6 ≠ a.a4 := D.ne 6 4 (by decide) (by decide) (by decide)
theorem Dis.n65 (D : Dis M0 w a) : a.a6 ≠ a.a5 := D.ne 6 5 (by decide) (by decide) (by decide)
theorem Dis.n67 (D : Dis M0 w a) : a.a6 ≠ a.a7 := D.ne 6 7 (by decide) (by decide) (by decide)
theorem Dis.n68 (D : Dis M0 w a) : a.a6 ≠ a.a8 := D.ne 6 8 (by decide) (by decide) (by decide)
theorem Dis.n70 (D : Dis M0 w a) : a.a7 ≠ w := D.ne 7 0 (by decide) (by decide) (by decide)
theorem Dis.n71 (D : Dis M0 w a) : a.a7 ≠ a.a1 := D.ne 7 1 (by decide) (by decide) (by decide)
theorem Dis.n72 (D : Dis M0 w a) : a.a7 ≠ a.a2 := D.ne 7 2 (by decide) (by decide) (by decide)
theorem Dis.n73 (D : Dis M0 w a) : a.a7 ≠ a.a3 := D.ne 7 3 (by decide) (by decide) (by decide)
theorem Dis.n74 (D : Dis M0 w a) : a.a7 ≠ a.a4 := D.ne 7 4 (by decide) (by decide) (by decide)
theorem Dis.n75 (D : Dis M0 w a) : a.a7 ≠ a.a5 := D.ne 7 5 (by decide) (by decide) (by decide)
theorem Dis.n76 (D : Dis M0 w a) : a.a7 ≠ a.a6 := D.ne 7 6 (by decide) (by decide) (by decide)
theorem Dis.n78 (D : Dis M0 w a) : a.a7 ≠ a.a8 := D.ne 7 8 (by decide) (by decide) (by decide)
theorem Dis.n80 (D : Dis M0 w a) : a.a8 ≠ w := D.ne 8 0 (by decide) (by decide) (by decide)
theorem Dis.n81 (D : Dis M0 w a) : a.a8 ≠ a.a1 := D.ne 8 1 (by decide) (by decide) (by decide)
theorem Dis.n82 (D : Dis M0 w a) : a.a8 ≠ a.a2 := D.ne 8 2 (by decide) (by decide) (by decide)
theorem Dis.n83 (D : Dis M0 w a) : a.a8 ≠ a.a3 := D.ne 8 3 (by decide) (by decide) (by decide)
theorem Dis.n84 (D : Dis M0 w a) : a.a8 ≠ a.a4 := D.ne 8 4 (by decide) (by decide) (by decide)
theorem Dis.n85 (D : Dis M0 w a) : a.a8 ≠ a.a5 := D.ne 8 5 (by decide) (by decide) (by decide)
theorem Dis.n86 (D : Dis M0 w a) : a.a8 ≠ a.a6 := D.ne 8 6 (by decide) (by decide) (by decide)
theorem Dis.n87 (D : Dis M0 w a) : a.a8 ≠ a.a7 := D.ne 8 7 (by decide) (by decide) (by decide)
theorem at_1 (D : Dis M0 w a) : Wk.at M0 w a b k a.a1 = some (.lst (k.st.map Stt.pv)) := by
  rw [at_def, put_ne D.n10, put_ne D.n18, put_ne D.n17, put_ne D.n16, put_ne D.n15, put_ne D.n14, put_ne D.n13, put_ne D.n12, put_same]
theorem at_2 (D : Dis M0 w a) : Wk.at M0 w a b k a.a2 = some (.lst (k.an.map eA)) := by
  rw [at_def, put_ne D.n20, put_ne D.n28, put_ne D.n27, put_ne D.n26, put_ne D.n25, put_ne D.n24, put_ne D.n23, put_same]
theorem at_3 (D : Dis M0 w a) : Wk.at M0 w a b k a.a3 = some (.lst (k.rr.map PV.tup)) := by
  rw [at_def, put_ne D.n30, put_ne D.n38, put_ne D.n37, put_ne D.n36, put_ne D.n35, put_ne D.n34, put_same]
theorem at_4 (D : Dis M0 w a) : Wk.at M0 w a b k a.a4 = some (.lst (k.fc.map PV.int)) := by
  rw [at_def, put_ne D.n40, put_ne D.n48, put_ne D.n47, put_ne D.n46, put_ne D.n45, put_same]
theorem at_5 (D : Dis M0 w a) : Wk.at M0 w a b k a.a5 = some (.lst (k.pg.map PV.int)) := by
  rw [at_def, put_ne D.n50, put_ne D.n58, put_ne D.n57, put_ne D.n56, put_same]
theorem at_6 (D : Dis M0 w a) : Wk.at M0 w a b k a.a6 = some (.lst (k.lt.map eL)) := by
  rw [at_def, put_ne D.n60, put_ne D.n68, put_ne D.n67, put_same]
theorem at_7 (D : Dis M0 w a) : Wk.at M0 w a b k a.a7 = some (.lst (k.lk.map eK)) := by
  rw [at_def, put_ne D.n70, put_ne D.n78, put_same]
theorem at_8 (D : Dis M0 w a) : Wk.at M0 w a b k a.a8 = some (.lst (k.ln.map eO)) := by
  rw [at_def, put_ne D.n80, put_same]
theorem put_comm {M : Mh} {x y : Addr} {o u : MO} (h : x ≠ y) : put (put M x o) y u = put (put M y u) x o := by
  funext z
  by_cases e : z = y
  · subst e; rw [put_same, put_ne (Ne.symm h), put_same]
  · rw [put_ne e]
    by_cases f : z = x
    · subst f; rw [put_same, put_same]
    · rw [put_ne f, put_ne f, put_ne e]
theorem set_w {c : Wk} (e : c.st = k.st ∧ c.an = k.an ∧ c.rr = k.rr ∧ c.fc = k.fc ∧ c.pg = k.pg ∧ c.lt = k.lt ∧ c.lk = k.lk ∧ c.ln = k.ln) : put (Wk.at M0 w a b k) w (.ins 1 (c.flds b a)) = Wk.at M0 w a b c := by
  obtain ⟨e1, e2, e3, e4, e5, e6, e7, e8⟩ := e
  rw [at_def, put_put, at_def, e1, e2, e3, e4, e5, e6, e7, e8]
theorem set_ww {x s u h : Int} {r : Option Nat} : put (Wk.at M0 w a b k) w (.ins 1 [some b, some (.ref a.a1), some (.ref a.a2), some (.ref a.a3), some (.ref a.a4), some (.ref a.a5), some (.ref a.a6), some (.ref a.a7), some (.ref a.a8), some (.int x), some (eO r), some (.int s), some (.int u), some (.int h)]) = Wk.at M0 w a b { k with pl := x, ru := r, sp := s, bu := u, ph := h } := set_w (c := { k with pl := x, ru := r, sp := s, bu := u, ph := h }) ⟨rfl, rfl, rfl, rfl, rfl, rfl, rfl, rfl⟩
theorem set_wt {x s u h : Int} {t : Nat} : put (Wk.at M0 w a b k) w (.ins 1 [some b, some (.ref a.a1), some (.ref a.a2), some (.ref a.a3), some (.ref a.a4), some (.ref a.a5), some (.ref a.a6), some (.ref a.a7), some (.ref a.a8), some (.int x), some (.int (t : Int)), some (.int s), some (.int u), some (.int h)]) = Wk.at M0 w a b { k with pl := x, ru := some t, sp := s, bu := u, ph := h } := set_ww (r := some t)
theorem set_wn {x s u h : Int} : put (Wk.at M0 w a b k) w (.ins 1 [some b, some (.ref a.a1), some (.ref a.a2), some (.ref a.a3), some (.ref a.a4), some (.ref a.a5), some (.ref a.a6), some (.ref a.a7), some (.ref a.a8), some (.int x), some .non, some (.int s), some (.int u), some (.int h)]) = Wk.at M0 w a b { k with pl := x, ru := none, sp := s, bu := u, ph := h } := set_ww (r := none)
theorem set_1 (D : Dis M0 w a) {xs : List Stt} : put (Wk.at M0 w a b k) a.a1 (.lst (xs.map Stt.pv)) = Wk.at M0 w a b { k with st := xs } := by
  rw [at_def, put_comm D.n01, put_comm D.n81, put_comm D.n71, put_comm D.n61, put_comm D.n51, put_comm D.n41, put_comm D.n31, put_comm D.n21, put_put, at_def]
theorem set_2 (D : Dis M0 w a) {xs : List (Option Str)} : put (Wk.at M0 w a b k) a.a2 (.lst (xs.map eA)) = Wk.at M0 w a b { k with an := xs } := by
  rw [at_def, put_comm D.n02, put_comm D.n82, put_comm D.n72, put_comm D.n62, put_comm D.n52, put_comm D.n42, put_comm D.n32, put_put, at_def]
theorem set_3 (D : Dis M0 w a) {xs : List (List PV)} : put (Wk.at M0 w a b k) a.a3 (.lst (xs.map PV.tup)) = Wk.at M0 w a b { k with rr := xs } := by
  rw [at_def, put_comm D.n03, put_comm D.n83, put_comm D.n73, put_comm D.n63, put_comm D.n53, put_comm D.n43, put_put, at_def]
theorem set_4 (D : Dis M0 w a) {xs : List Int} : put (Wk.at M0 w a b k) a.a4 (.lst (xs.map PV.int)) = Wk.at M0 w a b { k with fc := xs } := by
  rw [at_def, put_comm D.n04, put_comm D.n84, put_comm D.n74, put_comm D.n64, put_comm D.n54, put_put, at_def]
theorem set_5 (D : Dis M0 w a) {xs : List Int} : put (Wk.at M0 w a b k) a.a5 (.lst (xs.map PV.int)) = Wk.at M0 w a b { k with pg := xs } := by
  rw [at_def, put_comm D.n05, put_comm D.n85, put_comm D.n75, put_comm D.n65, put_put, at_def]
theorem set_6 (D : Dis M0 w a) {xs : List (List Int)} : put (Wk.at M0 w a b k) a.a6 (.lst (xs.map eL)) = Wk.at M0 w a b { k with lt := xs } := by
  rw [at_def, put_comm D.n06, put_comm D.n86, put_comm D.n76, put_put, at_def]
theorem set_7 (D : Dis M0 w a) {xs : List (Option Nat × List Nat)} : put (Wk.at M0 w a b k) a.a7 (.lst (xs.map eK)) = Wk.at M0 w a b { k with lk := xs } := by
  rw [at_def, put_comm D.n07, put_comm D.n87, put_put, at_def]
theorem set_8 (D : Dis M0 w a) {xs : List (Option Nat)} : put (Wk.at M0 w a b k) a.a8 (.lst (xs.map eO)) = Wk.at M0 w a b { k with ln := xs } := by
  rw [at_def, put_comm D.n08, put_put, at_def]
/-- work is forgotten -/
theorem at_weak (D : Dis M0 w a) : MSub M0 (Wk.at M0 w a b k) := fun x m e => by
  have h : ∀ y ∈ [w, a.a1, a.a2, a.a3, a.a4, a.a5, a.a6, a.a7, a.a8], x ≠ y := fun y hy q => by rw [q, D.fr y hy] at e; cases e
  rw [at_def, put_ne (h _ (by simp)), put_ne (h _ (by simp)), put_ne (h _ (by simp)), put_ne (h _ (by simp)), put_ne (h _ (by simp)), put_ne (h _ (by simp)), put_ne (h _ (by simp)), put_ne (h _ (by simp)), put_ne (h _ (by simp))]
  exact e
end
end HT
set_option Elab.async false
set_option linter.all false
set_option maxRecDepth 100000
set_option maxHeartbeats 1000000
namespace HT
open PySem PySem.Spec PyProof.Rows L2 Z
/-! ### what a kernel does, in plain terms -/
inductive Cl where
  | read (i : Nat) | write (i : Nat) (v : Int) | send (q : Nat) (v : Int) | take (q : Nat) | wait (q : Nat) | lock (l : Nat) | free (l : Nat)
  | hand (o : Nat) (s : Str) (i : Nat) | strip (o : Nat) (s : Str) (i : Nat) | seek (x : Int) | get | give | sleep (n : Int) | pass
abbrev Cl.pv : Cl → PV
  | .read i => .tup [.str "read", nI i]
  | .write i v => .tup [.str "write", nI i, .int v]
  | .send q v => .tup [.str "send", nI q, .int v]
  | .take q => .tup [.str "take", nI q]
  | .wait q => .tup [.str "wait", nI q]
  | .lock l => .tup [.str "lock", nI l]
  | .free l => .tup [.str "free", nI l]
  | .hand o s i => .tup [.str "hand", nI o, rgt s i]
  | .strip o s i => .tup [.str "strip", nI o, rgt s i]
  | .seek x => .tup [.str "seek", .int x]
  | .get => .tup [.str "get"]
  | .give => .tup [.str "give"]
  | .sleep n => .tup [.str "sleep", .int n]
  | .pass => .tup [.str "pass"]
def Cl.Ok (p : Pt) : Cl → Prop
  | .read i => i < p.ps.length
  | .write i v => i < p.ps.length ∧ 0 ≤ v ∧ v ≤ 1
  | .send q v => q < p.qs.length ∧ 0 ≤ v ∧ v ≤ 1
  | .take q => q < p.qs.length
  | .wait q => q < p.qs.length
  | .lock l => l < p.nl
  | .free l => l < p.nl
  | .hand o s i => o < p.ts.length ∧ rgt s i ∈ pool p.ts.length p.ps.length p.qs.length p.nl p.dk
  | .strip o s i => o < p.ts.length ∧ rgt s i ∈ pool p.ts.length p.ps.length p.qs.length p.nl p.dk
  | .seek x => 0 ≤ x ∧ x < p.dk
  | .get => True
  | .give => True
  | .sleep n => 1 ≤ n ∧ n ≤ 2
  | .pass => True
def Stt.Ok (p : Pt) : Stt → Prop
  | .ready => True
  | .asleep k => 1 ≤ k ∧ k ≤ 2
  | .waits q => q < p.qs.length
  | .locked l => l < p.nl
def AnOk (a : Option Str) : Prop := a = none ∨ a = some "yes" ∨ a = some "no" ∨ a = some "empty" ∨ a = some "0" ∨ a = some "1"
structure Wk.Ok (p : Pt) (k : Wk) : Prop where
  s1 : k.st.length = p.ts.length
  s2 : ∀ s ∈ k.st, s.Ok p
  a1 : k.an.length = p.ts.length
  a2 : ∀ x ∈ k.an, AnOk x
  r1 : k.rr.length = p.ts.length
  r2 : ∀ r ∈ k.rr, r.Sublist (pool p.ts.length p.ps.length p.qs.length p.nl p.dk)
  f1 : k.fc.length = p.ts.length
  f2 : ∀ x ∈ k.fc, 0 ≤ x
  p1 : k.pg.length = p.ps.length
  p2 : ∀ x ∈ k.pg, 0 ≤ x ∧ x ≤ 1
  l1 : k.lt.length = p.qs.length
  l2 : ∀ l ∈ k.lt, l.length ≤ 2 ∧ ∀ x ∈ l, 0 ≤ x ∧ x ≤ 1
  k1 : k.lk.length = p.nl
  k2 : ∀ l q, k.lk[l]? = some q → (∀ t, q.1 = some t → t < p.ts.length) ∧ q.2.Nodup ∧ ∀ t ∈ q.2, t < p.ts.length ∧ k.st[t]? = some (.locked l)
  n1 : k.ln.length = 2
  n2 : ∀ x ∈ k.ln, ∀ i, x = some i → i < p.ps.length
  h1 : 0 ≤ k.pl ∧ k.pl ≤ 4
  u1 : ∀ t, k.ru = some t → t < p.ts.length
  sp : 0 ≤ k.sp
  bu : 0 ≤ k.bu
  ph : 0 ≤ k.ph
abbrev WkPre (p : Pt) (k : Wk) (t : Nat) : Prop := k.Ok p ∧ p.Ok ∧ t < p.ts.length
abbrev gt {α : Type} (xs : List α) (d : α) (i : Nat) : α := (xs[i]?).getD d
theorem lk_of {p : Pt} {k : Wk} (ok : k.Ok p) (po : p.Ok) {l : Nat} (h : l < k.lk.length) : (∀ t, (gt k.lk (none, []) l).1 = some t → t < p.ts.length) ∧ (gt k.lk (none, []) l).2.length ≤ 4 ∧ ∀ t ∈ (gt k.lk (none, []) l).2, t < p.ts.length := by
  have e : k.lk[l]? = some (gt k.lk (none, []) l) := by unfold gt; rw [List.getElem?_eq_getElem h]; rfl
  obtain ⟨h1, h2, h3⟩ := ok.k2 l _ e
  have t1 := po.t1
  refine ⟨h1, ?_, fun t ht => (h3 t ht).1⟩
  have := len_sub (m := List.range p.ts.length) h2 fun x hx => List.mem_range.mpr (h3 x hx).1
  rw [List.length_range] at this
  omega
abbrev hasR (row : List PV) (s : Str) (i : Int) : Bool := row.any fun z => peq z (rgt s i)
def Wk.wake (k : Wk) (t : Nat) (a : Option Str) : Wk := { k with st := k.st.set t .ready, an := k.an.set t a }
def Wk.ready (k : Wk) : List Nat := (List.range k.st.length).filter fun t => gt k.st .ready t = .ready
def Wk.firstW (k : Wk) (q : Nat) : Option Nat := (List.range k.st.length).find? fun t => gt k.st .ready t = .waits q
abbrev Wk.shape (k : Wk) : PV := .tup [.tup (k.st.map Stt.pv), .tup (k.an.map eA), .tup (k.rr.map PV.tup), .tup (k.fc.map PV.int), .tup (k.pg.map PV.int), .tup (k.lt.map eL), .tup (k.lk.map eK), .tup (k.ln.map eO), .int k.pl, .tup [eO k.ru, .int k.sp, .int k.bu, .int k.ph]]
def Wk.deliver (p : Pt) (k : Wk) (q : Nat) (l : Int) : Wk := match k.firstW q with
  | some t => k.wake t (some (dS l))
  | none => if ((gt k.lt [] q).length : Int) < gt p.qs 0 q then { k with lt := k.lt.set q (gt k.lt [] q ++ [l]) } else k
def Wk.slp (k : Wk) (t : Nat) : Wk := match gt k.st .ready t with
  | .asleep j => if 1 < j then { k with st := k.st.set t (.asleep (j - 1)) } else k.wake t (some "yes")
  | _ => k
def Wk.sleepOn (k : Wk) : Wk := (List.range k.st.length).foldl Wk.slp k
def costMost (p : Pt) : Int := p.c0 + (if p.dk - 1 > p.c1 then p.dk - 1 else p.c1)
/-- ticks more for a page -/
def missed (p : Pt) (k : Wk) (i : Nat) : Bool := match gt p.ls .non i with
  | .int l => !decide (gt k.ln none l.toNat = some i)
  | _ => true
def Wk.cost (p : Pt) (k : Wk) (t : Nat) (c : Cl) : Int := if p.b1 then costMost p else match c with
  | .read i => if hasR (gt k.rr [] t) "read" i && missed p k i then p.c0 + p.c1 else p.c0
  | .write i _ => if hasR (gt k.rr [] t) "write" i && missed p k i then p.c0 + p.c1 else p.c0
  | .seek x => if hasR (gt k.rr [] t) "seek" 0 then p.c0 + (if k.pl - x < 0 then -(k.pl - x) else k.pl - x) else p.c0
  | _ => p.c0
def Wk.touch (p : Pt) (k : Wk) (i : Nat) : Wk := match gt p.ls .non i with
  | .int l => { k with ln := k.ln.set l.toNat (some i) }
  | _ => k
def Wk.read (p : Pt) (k : Wk) (t i : Nat) : Wk × Option Str := if hasR (gt k.rr [] t) "read" i then (k.touch p i, some (dS (gt k.pg 0 i))) else (k, some "no")
def Wk.write (p : Pt) (k : Wk) (t i : Nat) (v : Int) : Wk × Option Str := if hasR (gt k.rr [] t) "write" i then ({ k.touch p i with pg := k.pg.set i v }, some "yes") else (k, some "no")
def Wk.send (p : Pt) (k : Wk) (t q : Nat) (v : Int) : Wk × Option Str := if hasR (gt k.rr [] t) "send" q then
    (if gt p.qs 0 q ≤ ((gt k.lt [] q).length : Int) ∧ k.firstW q = none then (k, some "no") else (k.deliver p q v, some "yes")) else (k, some "no")
def Wk.take (k : Wk) (wt : Bool) (t q : Nat) : Wk × Option Str := if hasR (gt k.rr [] t) "take" q then (match gt k.lt [] q with
    | l :: r => ({ k with lt := k.lt.set q r }, some (dS l))
    | [] => if wt then ({ k with st := k.st.set t (.waits q) }, none) else (k, some "empty")) else (k, some "no")
def Wk.lock (k : Wk) (t l : Nat) : Wk × Option Str := if hasR (gt k.rr [] t) "lock" l = false ∨ (gt k.lk (none, []) l).1 = some t then (k, some "no") else match (gt k.lk (none, []) l).1 with
  | none => ({ k with lk := k.lk.set l (some t, (gt k.lk (none, []) l).2) }, some "yes")
  | some h => ({ k with lk := k.lk.set l (some h, (gt k.lk (none, []) l).2 ++ [t]), st := k.st.set t (.locked l) }, none)
def Wk.free (k : Wk) (t l : Nat) : Wk × Option Str := if (gt k.lk (none, []) l).1 = some t then (match (gt k.lk (none, []) l).2 with
    | [] => ({ k with lk := k.lk.set l (none, []) }, some "yes")
    | h :: r => (({ k with lk := k.lk.set l (some h, r) } : Wk).wake h (some "yes"), some "yes")) else (k, some "no")
def Wk.seek (k : Wk) (t : Nat) (x : Int) : Wk × Option Str := if hasR (gt k.rr [] t) "seek" 0 then ({ k with pl := x }, some "yes") else (k, some "no")
def sideOf (p : Pt) (t : Nat) : Int := (gt p.ts (0, 0) t).1
def nSides (p : Pt) : Int := ((sidesOf p.ts).length : Int)
def heldBy (p : Pt) (k : Wk) (s : Int) : Int := (((List.range k.fc.length).filter fun o => sideOf p o = s).map fun o => gt k.fc 0 o).sum
def Wk.get (p : Pt) (k : Wk) (t : Nat) : Wk × Option Str := if p.fr ≤ k.fc.sum ∨ (p.b3 = true ∧ p.fr / nSides p ≤ heldBy p k (sideOf p t)) then (k, some "no") else ({ k with fc := k.fc.set t (gt k.fc 0 t + 1) }, some "yes")
def Wk.give (k : Wk) (t : Nat) : Wk × Option Str := if gt k.fc 0 t = 0 then (k, some "no") else ({ k with fc := k.fc.set t (gt k.fc 0 t - 1) }, some "yes")
/-- calls that hand no rights on -/
def Cl.plain : Cl → Prop
  | .hand _ _ _ => False
  | .strip _ _ _ => False
  | _ => True
def Wk.ans (p : Pt) (k : Wk) (t : Nat) : Cl → Wk × Option Str
  | .read i => k.read p t i
  | .write i v => k.write p t i v
  | .send q v => k.send p t q v
  | .take q => k.take false t q
  | .wait q => k.take true t q
  | .lock l => k.lock t l
  | .free l => k.free t l
  | .hand _ _ _ => (k, some "no")
  | .strip _ _ _ => (k, some "no")
  | .seek x => k.seek t x
  | .get => k.get p t
  | .give => k.give t
  | .sleep n => ({ k with st := k.st.set t (.asleep n) }, none)
  | .pass => (k, some "yes")
def isLevels : PV → Bool
  | .tup [.str s, _] => s == "levels"
  | _ => false
def Wk.make (p : Pt) (k : Wk) (t : Nat) (c : Cl) : Wk :=
  let r := ({ k with an := k.an.set t none } : Wk).ans p t c
  { r.1 with an := r.1.an.set t r.2, bu := k.cost p t c, sp := if isLevels p.pl then r.1.sp + k.cost p t c else r.1.sp }
def slotGo : List (Int × Int) → Int → Int × Int × Int
  | (t, n) :: r, g => if n ≤ g then slotGo r (g - n) else (t, g, n)
  | [], g => (0, g, 0)
def slotRows : PV → List (Int × Int)
  | .tup [_, .lst rows] => rows.map fun r => match r with | .tup [.int a, .int b] => (a, b) | _ => (0, 0)
  | _ => []
def slotAt (p : Pt) (ph : Int) : Int × Int × Int := slotGo (slotRows p.pl) (ph % ((slotRows p.pl).map (·.2)).sum)
/-- the cache is emptied -/
def changes (p : Pt) (k : Wk) (t : Nat) : Bool := p.b0 && (match k.ru with | none => true | some b => sideOf p b != sideOf p t)
def Wk.change (p : Pt) (k : Wk) (t : Nat) : Wk := { k with ln := (if changes p k t then [none, none] else k.ln), ru := some t, sp := 0 }
/-- a slot begins -/
def Wk.slotK (p : Pt) (k : Wk) : Wk := if (slotAt p k.ph).2.1 = 0 ∧ k.ru ≠ some (slotAt p k.ph).1.toNat then k.change p (slotAt p k.ph).1.toNat else k
def Wk.bySlots (p : Pt) (k : Wk) : Wk × Option Nat :=
  (k.slotK p, if gt (k.slotK p).st .ready (slotAt p k.ph).1.toNat ≠ .ready ∨ (slotAt p k.ph).2.1 < p.c2 ∨ (slotAt p k.ph).2.2 - (slotAt p k.ph).2.1 < costMost p then none else some (slotAt p k.ph).1.toNat)
end HT
set_option Elab.async false
set_option linter.all false
set_option maxRecDepth 100000
set_option maxHeartbeats 1000000
namespace HT
open PySem PySem.Spec PyProof.Rows L2 Z
/-! ### what is kept -/
theorem set_mem {α : Type} {xs : List α} {i : Nat} {v x : α} (h : x ∈ xs.set i v) : x ∈ xs ∨ x = v := by
  rcases List.mem_or_eq_of_mem_set h with h | h
  · exact .inl h
  · exact .inr h
theorem gt_some' {α : Type} {xs : List α} {d : α} {t : Nat} (h : t < xs.length) : xs[t]? = some (gt xs d t) := by unfold gt; rw [List.getElem?_eq_getElem h]; rfl
theorem gt_mem' {α : Type} {xs : List α} {d : α} {t : Nat} (h : t < xs.length) : gt xs d t ∈ xs := List.mem_of_getElem? (gt_some' h)
section
variable {p : Pt} {k : Wk}
def NotLk (k : Wk) (t : Nat) : Prop := ∀ l, k.st[t]? ≠ some (.locked l)
theorem ok_st (ok : k.Ok p) {t : Nat} {s : Stt} (h : s.Ok p) (hn : NotLk k t) : Wk.Ok p { k with st := k.st.set t s } :=
  { ok with s1 := (by show (k.st.set t s).length = _; rw [List.length_set]; exact ok.s1), s2 := fun x hx => (set_mem hx).elim (ok.s2 x) fun e => e ▸ h,
            k2 := fun l q e => by
              obtain ⟨h1, h2, h3⟩ := ok.k2 l q e
              refine ⟨h1, h2, fun u hu => ⟨(h3 u hu).1, ?_⟩⟩
              have e2 := (h3 u hu).2
              show (k.st.set t s)[u]? = _
              rw [List.getElem?_set_ne (fun z => hn l (by rw [z]; exact e2))]
              exact e2 }
theorem ok_an (ok : k.Ok p) {t : Nat} {x : Option Str} (h : AnOk x) : Wk.Ok p { k with an := k.an.set t x } :=
  { ok with a1 := (by show (k.an.set t x).length = _; rw [List.length_set]; exact ok.a1), a2 := fun y hy => (set_mem hy).elim (ok.a2 y) fun e => e ▸ h }
theorem ok_wake (ok : k.Ok p) {t : Nat} {x : Option Str} (h : AnOk x) (hn : NotLk k t) : Wk.Ok p (k.wake t x) := ok_an (k := { k with st := k.st.set t .ready }) (ok_st ok True.intro hn) h
theorem not_lk {s : Stt} {t : Nat} (ht : t < k.st.length) (e : gt k.st .ready t = s) (h : ∀ l, s ≠ .locked l) : NotLk k t := fun l z => by
  rw [gt_some' (d := .ready) ht, e] at z
  exact h l (Option.some.inj z)
theorem firstW_st {q t : Nat} (h : k.firstW q = some t) : t < k.st.length ∧ gt k.st .ready t = .waits q := by
  unfold Wk.firstW at h
  exact ⟨List.mem_range.mp (List.mem_of_find?_eq_some h), by have h2 := List.find?_some h; simpa using h2⟩
theorem ok_pg (ok : k.Ok p) {i : Nat} {v : Int} (h : 0 ≤ v ∧ v ≤ 1) : Wk.Ok p { k with pg := k.pg.set i v } :=
  { ok with p1 := (by show (k.pg.set i v).length = _; rw [List.length_set]; exact ok.p1), p2 := fun y hy => (set_mem hy).elim (ok.p2 y) fun e => e ▸ h }
theorem ok_lt (ok : k.Ok p) {i : Nat} {v : List Int} (h : v.length ≤ 2 ∧ ∀ x ∈ v, 0 ≤ x ∧ x ≤ 1) : Wk.Ok p { k with lt := k.lt.set i v } :=
  { ok with l1 := (by show (k.lt.set i v).length = _; rw [List.length_set]; exact ok.l1), l2 := fun y hy => (set_mem hy).elim (ok.l2 y) fun e => e ▸ h }
theorem ok_fc (ok : k.Ok p) {i : Nat} {v : Int} (h : 0 ≤ v) : Wk.Ok p { k with fc := k.fc.set i v } :=
  { ok with f1 := (by show (k.fc.set i v).length = _; rw [List.length_set]; exact ok.f1), f2 := fun y hy => (set_mem hy).elim (ok.f2 y) fun e => e ▸ h }
theorem ok_lk (ok : k.Ok p) {i : Nat} {v : Option Nat × List Nat} (h : (∀ t, v.1 = some t → t < p.ts.length) ∧ v.2.Nodup ∧ ∀ t ∈ v.2, t < p.ts.length ∧ k.st[t]? = some (.locked i)) : Wk.Ok p { k with lk := k.lk.set i v } := by
  refine { ok with k1 := ?_, k2 := fun l q e => ?_ }
  · show (k.lk.set i v).length = _
    rw [List.length_set]; exact ok.k1
  · replace e : (k.lk.set i v)[l]? = some q := e
    by_cases c : i = l
    · subst c
      by_cases c2 : i < k.lk.length
      · rw [List.getElem?_set_self c2] at e
        cases e
        exact h
      · rw [List.getElem?_eq_none (by rw [List.length_set]; omega)] at e; cases e
    · rw [List.getElem?_set_ne c] at e
      exact ok.k2 l q e
theorem ok_ln (ok : k.Ok p) {i : Nat} {v : Option Nat} (h : ∀ j, v = some j → j < p.ps.length) : Wk.Ok p { k with ln := k.ln.set i v } :=
  { ok with n1 := (by show (k.ln.set i v).length = _; rw [List.length_set]; exact ok.n1), n2 := fun y hy => (set_mem hy).elim (ok.n2 y) fun e => e ▸ h }
theorem an01 {l : Int} (h : 0 ≤ l ∧ l ≤ 1) : AnOk (some (dS l)) := by
  have : l = 0 ∨ l = 1 := by omega
  rcases this with rfl | rfl
  · exact .inr (.inr (.inr (.inr (.inl (congrArg some (by decide +kernel))))))
  · exact .inr (.inr (.inr (.inr (.inr (congrArg some (by decide +kernel))))))
theorem an_yes : AnOk (some "yes") := .inr (.inl rfl)
theorem an_no : AnOk (some "no") := .inr (.inr (.inl rfl))
theorem ok_deliver (ok : k.Ok p) (po : p.Ok) {q : Nat} {l : Int} (hq : q < p.qs.length) (h : 0 ≤ l ∧ l ≤ 1) : Wk.Ok p (k.deliver p q l) := by
  unfold Wk.deliver
  have hq2 : q < k.lt.length := by rw [ok.l1]; exact hq
  have h2 := ok.l2 _ (gt_mem' (d := []) hq2)
  have h3 := po.q2 _ (gt_mem' (d := 0) hq)
  split
  · rename_i t e
    have := firstW_st e
    exact ok_wake ok (an01 h) (not_lk this.1 this.2 fun _ z => nomatch z)
  · split
    · rename_i c
      refine ok_lt ok ⟨by rw [List.length_append]; show _ + 1 ≤ 2; omega, fun x hx => ?_⟩
      rcases List.mem_append.mp hx with hx | hx
      · exact h2.2 x hx
      · rw [List.mem_singleton] at hx; subst hx; exact h
    · exact ok
theorem ok_slp (ok : k.Ok p) {t : Nat} (ht : t < k.st.length) : Wk.Ok p (k.slp t) := by
  unfold Wk.slp
  have h := ok.s2 _ (gt_mem' (d := .ready) ht)
  split
  · rename_i j e
    rw [e] at h
    have h : 1 ≤ j ∧ j ≤ 2 := h
    have nl : NotLk k t := not_lk ht e fun _ z => nomatch z
    split
    · exact ok_st ok (show 1 ≤ j - 1 ∧ j - 1 ≤ 2 by omega) nl
    · exact ok_wake ok an_yes nl
  · exact ok
theorem ok_fold (ok : k.Ok p) : ∀ (l : List Nat), (∀ t ∈ l, t < p.ts.length) → Wk.Ok p (l.foldl Wk.slp k) := by
  intro l
  induction l generalizing k with
  | nil => intro _; exact ok
  | cons x l ih => intro h; exact ih (ok_slp ok (by rw [ok.s1]; exact h x (by simp))) fun t ht => h t (by simp [ht])
theorem ok_sleepOn (ok : k.Ok p) : Wk.Ok p k.sleepOn := ok_fold ok _ fun t ht => by have := List.mem_range.mp ht; rw [ok.s1] at this; exact this
theorem ok_touch (ok : k.Ok p) {i : Nat} (h : i < p.ps.length) : Wk.Ok p (k.touch p i) := by
  unfold Wk.touch
  split
  · exact ok_ln ok fun j e => by cases e; exact h
  · exact ok
theorem ok_ans (ok : k.Ok p) (po : p.Ok) {t : Nat} (ht : t < p.ts.length) (hr : gt k.st .ready t = .ready) {c : Cl} (co : c.Ok p) : Wk.Ok p (k.ans p t c).1 ∧ AnOk (k.ans p t c).2 := by
  have hts : t < k.st.length := by rw [ok.s1]; exact ht
  have nl : NotLk k t := not_lk hts hr fun _ z => nomatch z
  cases c with
  | read i =>
    show Wk.Ok p (k.read p t i).1 ∧ AnOk (k.read p t i).2
    unfold Wk.read
    split
    · exact ⟨ok_touch ok co, an01 (ok.p2 _ (gt_mem' (by rw [ok.p1]; exact co)))⟩
    · exact ⟨ok, an_no⟩
  | write i v =>
    show Wk.Ok p (k.write p t i v).1 ∧ AnOk (k.write p t i v).2
    unfold Wk.write
    split
    · refine ⟨?_, an_yes⟩
      have h := ok_touch (i := i) ok co.1
      have e : (k.touch p i).pg = k.pg := by unfold Wk.touch; split <;> rfl
      rw [← e]
      exact ok_pg h co.2
    · exact ⟨ok, an_no⟩
  | send q v =>
    show Wk.Ok p (k.send p t q v).1 ∧ AnOk (k.send p t q v).2
    unfold Wk.send
    split
    · split
      · exact ⟨ok, an_no⟩
      · exact ⟨ok_deliver ok po co.1 co.2, an_yes⟩
    · exact ⟨ok, an_no⟩
  | take q =>
    show Wk.Ok p (k.take false t q).1 ∧ AnOk (k.take false t q).2
    unfold Wk.take
    have h2 := ok.l2 _ (gt_mem' (d := []) (show q < k.lt.length by rw [ok.l1]; exact co))
    split
    · split
      · rename_i e
        rw [e] at h2
        exact ⟨ok_lt ok ⟨by have := h2.1; rw [List.length_cons] at this; omega, fun x hx => h2.2 x (by simp [hx])⟩, an01 (h2.2 _ (by simp))⟩
      · exact ⟨ok, .inr (.inr (.inr (.inl rfl)))⟩
    · exact ⟨ok, an_no⟩
  | wait q =>
    show Wk.Ok p (k.take true t q).1 ∧ AnOk (k.take true t q).2
    unfold Wk.take
    have h2 := ok.l2 _ (gt_mem' (d := []) (show q < k.lt.length by rw [ok.l1]; exact co))
    split
    · split
      · rename_i e
        rw [e] at h2
        exact ⟨ok_lt ok ⟨by have := h2.1; rw [List.length_cons] at this; omega, fun x hx => h2.2 x (by simp [hx])⟩, an01 (h2.2 _ (by simp))⟩
      · exact ⟨ok_st ok co nl, .inl rfl⟩
    · exact ⟨ok, an_no⟩
  | lock l =>
    show Wk.Ok p (k.lock t l).1 ∧ AnOk (k.lock t l).2
    unfold Wk.lock
    have hl : l < k.lk.length := by rw [ok.k1]; exact co
    have h2 := ok.k2 l _ (gt_some' (d := (none, [])) hl)
    split
    · exact ⟨ok, an_no⟩
    · split
      · exact ⟨ok_lk ok ⟨fun u z => by cases z; exact ht, h2.2.1, h2.2.2⟩, an_yes⟩
      · rename_i o e
        refine ⟨?_, .inl rfl⟩
        have hno : t ∉ (gt k.lk (none, []) l).2 := fun z => nl l (h2.2.2 t z).2
        have ok1 := ok_st (s := .locked l) ok co nl
        refine ok_lk (k := { k with st := k.st.set t (.locked l) }) ok1 ⟨fun u z => by cases z; exact h2.1 _ e, ?_, fun u hu => ?_⟩
        · refine List.nodup_append.mpr ⟨h2.2.1, by simp, fun a ha b hb => ?_⟩
          rw [List.mem_singleton] at hb
          subst hb
          exact fun z => hno (z ▸ ha)
        · show u < p.ts.length ∧ (k.st.set t (.locked l))[u]? = some (.locked l)
          rcases List.mem_append.mp hu with hu | hu
          · refine ⟨(h2.2.2 u hu).1, ?_⟩
            rw [List.getElem?_set_ne (show t ≠ u from fun z => hno (by rw [z]; exact hu))]
            exact (h2.2.2 u hu).2
          · rw [List.mem_singleton] at hu
            subst hu
            exact ⟨ht, List.getElem?_set_self hts⟩
  | free l =>
    show Wk.Ok p (k.free t l).1 ∧ AnOk (k.free t l).2
    unfold Wk.free
    have h2 := ok.k2 l _ (gt_some' (d := (none, [])) (show l < k.lk.length by rw [ok.k1]; exact co))
    split
    · split
      · exact ⟨ok_lk ok ⟨(fun u z => nomatch z), List.nodup_nil, fun u z => nomatch z⟩, an_yes⟩
      · rename_i h r e
        rw [e] at h2
        have hh := h2.2.2 h (by simp)
        obtain ⟨nd1, nd2⟩ := List.nodup_cons.mp h2.2.1
        refine ⟨?_, an_yes⟩
        have ok1 : Wk.Ok p { k with lk := k.lk.set l (some h, r) } := ok_lk ok ⟨fun u z => by cases z; exact hh.1, nd2, fun u hu => h2.2.2 u (by simp [hu])⟩
        refine ok_an (k := { k with lk := k.lk.set l (some h, r), st := k.st.set h .ready }) ?_ an_yes
        refine { ok1 with s1 := (by show (k.st.set h .ready).length = _; rw [List.length_set]; exact ok.s1), s2 := (fun x hx => (set_mem hx).elim (ok.s2 x) fun e => e ▸ True.intro), k2 := fun l' q e => ?_ }
        obtain ⟨g1, g2, g3⟩ := ok1.k2 l' q e
        refine ⟨g1, g2, fun u hu => ⟨(g3 u hu).1, ?_⟩⟩
        have e2 := (g3 u hu).2
        have hne : h ≠ u := fun z => by
          subst z
          have e3 : k.st[h]? = some (.locked l') := e2
          rw [hh.2] at e3
          cases e3
          replace e : (k.lk.set l (some h, r))[l]? = some q := e
          rw [List.getElem?_set_self (by rw [ok.k1]; exact co)] at e
          cases e
          exact nd1 hu
        show (k.st.set h .ready)[u]? = _
        rw [List.getElem?_set_ne hne]
        exact e2
    · exact ⟨ok, an_no⟩
  | hand _ _ _ => exact ⟨ok, an_no⟩
  | strip _ _ _ => exact ⟨ok, an_no⟩
  | seek x =>
    show Wk.Ok p (k.seek t x).1 ∧ AnOk (k.seek t x).2
    unfold Wk.seek
    have hx : 0 ≤ x ∧ x < p.dk := co
    have hd := po.d1
    split
    · exact ⟨{ ok with h1 := (show 0 ≤ x ∧ x ≤ 4 by omega) }, an_yes⟩
    · exact ⟨ok, an_no⟩
  | get =>
    show Wk.Ok p (k.get p t).1 ∧ AnOk (k.get p t).2
    unfold Wk.get
    have h := ok.f2 _ (gt_mem' (d := 0) (show t < k.fc.length by rw [ok.f1]; exact ht))
    split
    · exact ⟨ok, an_no⟩
    · exact ⟨ok_fc ok (by omega), an_yes⟩
  | give =>
    show Wk.Ok p (k.give t).1 ∧ AnOk (k.give t).2
    unfold Wk.give
    have h := ok.f2 _ (gt_mem' (d := 0) (show t < k.fc.length by rw [ok.f1]; exact ht))
    split
    · exact ⟨ok, an_no⟩
    · rename_i z
      exact ⟨ok_fc ok (by omega), an_yes⟩
  | sleep n => exact ⟨ok_st ok co nl, .inl rfl⟩
  | pass => exact ⟨ok, an_yes⟩
end
end HT
set_option Elab.async false
set_option linter.all false
set_option maxRecDepth 100000
set_option maxHeartbeats 1000000
namespace HT
open PySem PySem.Spec PyProof.Rows L2 Z
/-! ### turns -/
def addNew (kn : List Nat) (o : Nat) : List Nat := if o ∈ kn then kn else kn ++ [o]
def lendStep (lk : List (Option Nat × List Nat)) (h : Nat) (kn : List Nat) : List Nat := lk.foldl (fun kn q => if q.1 = some h then q.2.foldl addNew kn else kn) kn
def lendGo (lk : List (Option Nat × List Nat)) : Nat → Nat → List Nat → List Nat
  | 0, _, kn => kn
  | n + 1, i, kn => if i < kn.length then lendGo lk n (i + 1) (lendStep lk (gt kn 0 i) kn) else kn
def Wk.lenders (k : Wk) (t : Nat) : List Nat := lendGo k.lk 5 0 [t]
def maxI : List Int → Int
  | [] => 0
  | [x] => x
  | x :: y :: r => if maxI (y :: r) < x then x else maxI (y :: r)
theorem maxI_ge : ∀ {l : List Int} {x : Int}, x ∈ l → x ≤ maxI l
  | [], _, h => by cases h
  | [y], x, h => by rw [List.mem_singleton.mp h]; exact Int.le_refl _
  | y :: z :: r, x, h => by
    unfold maxI
    rcases List.mem_cons.mp h with rfl | h
    · split <;> omega
    · have := maxI_ge h
      split <;> omega
theorem maxI_mem : ∀ {l : List Int}, l ≠ [] → maxI l ∈ l
  | [], h => absurd rfl h
  | [y], _ => by simp [maxI]
  | y :: z :: r, _ => by
    have := maxI_mem (l := z :: r) (by simp)
    unfold maxI
    split
    · simp
    · exact List.mem_cons_of_mem _ this
theorem maxI_eq {l : List Int} {m : Int} (h : m ∈ l) (g : ∀ k ∈ l, k ≤ m) : m = maxI l := by
  have h1 := maxI_ge h
  have h2 := g _ (maxI_mem fun e => by rw [e] at h; cases h)
  omega
def lvl (p : Pt) (t : Nat) : Int := (gt p.ts (0, 0) t).2
def Wk.level (p : Pt) (k : Wk) (t : Nat) : Int := if p.b2 then maxI ((k.lenders t).map (lvl p)) else lvl p t
def planSpan : PV → Int
  | .tup [_, .int k] => k
  | _ => 0
def nextIn (cs : List Nat) : Option Nat → Nat
  | some r => (cs.find? fun t => decide (r < t)).getD (cs.headD 0)
  | none => cs.headD 0
def Wk.cands (p : Pt) (k : Wk) : List Nat := k.ready.filter fun t => k.level p t = maxI (k.ready.map (k.level p))
def Wk.byLevels (p : Pt) (k : Wk) : Wk × Option Nat :=
  if k.ready = [] then ({ k with ru := none, sp := 0 }, none) else
  if (∃ r ∈ k.cands p, k.ru = some r) ∧ k.sp < planSpan p.pl then (k, k.ru) else
  if k.ru = some (nextIn (k.cands p) k.ru) then ({ k with sp := 0 }, k.ru) else
  if 0 < p.c2 then ({ k.change p (nextIn (k.cands p) k.ru) with bu := p.c2 }, none) else (k.change p (nextIn (k.cands p) k.ru), some (nextIn (k.cands p) k.ru))
def Wk.turn (p : Pt) (k : Wk) : Wk × Option Nat := if 0 < k.bu then (k, none) else if isLevels p.pl then k.byLevels p else k.bySlots p
def period (p : Pt) : Int := per (total (frz p.pl)) (every p.ou)
def outPort : PV → Nat
  | .tup [.int a, _] => a.toNat
  | _ => 0
def Wk.arr (p : Pt) (k : Wk) : Option Int → Wk
  | some v => k.deliver p (outPort p.ou) v
  | none => k
def Wk.less (k : Wk) : Wk := if 0 < k.bu then { k with bu := k.bu - 1 } else k
/-- up to the turn -/
def Wk.opened (p : Pt) (k : Wk) (l : Option Int) : Wk × Option Nat := (k.arr p l).sleepOn.less.turn p
def Wk.call (p : Pt) (k : Wk) (c : Cl) : Option Nat → Wk
  | some t => k.make p t c
  | none => k
def Wk.closed (p : Pt) (k : Wk) (t : Option Nat) (c : Cl) : Wk := { k.call p c t with ph := ((k.call p c t).ph + 1) % period p }
def seen (k : Wk) : Option Nat → PV
  | some t => .tup [nI t, eA (gt k.an none t)]
  | none => .non
section
variable {p : Pt} {k : Wk}
theorem ok_change (ok : k.Ok p) {t : Nat} (ht : t < p.ts.length) : Wk.Ok p (k.change p t) := by
  unfold Wk.change
  refine { ok with n1 := ?_, n2 := ?_, u1 := ?_, sp := Int.le_refl _ }
  · show (if changes p k t = true then [none, none] else k.ln).length = 2
    split
    · rfl
    · exact ok.n1
  · intro x hx i e
    replace hx : x ∈ (if changes p k t = true then [none, none] else k.ln) := hx
    split at hx
    · simp at hx; rw [hx] at e; cases e
    · exact ok.n2 x hx i e
  · intro u e
    cases e
    exact ht
theorem slotGo_mem : ∀ {rows : List (Int × Int)} {g : Int}, 0 ≤ g → g < (rows.map (·.2)).sum → (∀ r ∈ rows, 1 ≤ r.2) → ∃ r ∈ rows, (slotGo rows g).1 = r.1 ∧ (slotGo rows g).2.2 = r.2 ∧ 0 ≤ (slotGo rows g).2.1 ∧ (slotGo rows g).2.1 < r.2
  | [], g, h0, h1, _ => by simp at h1; omega
  | (t, n) :: r, g, h0, h1, hr => by
    unfold slotGo
    by_cases c : n ≤ g
    · rw [if_pos c]
      rw [List.map_cons, List.sum_cons] at h1
      obtain ⟨x, hx, q⟩ := slotGo_mem (rows := r) (g := g - n) (by omega) (by omega) fun y hy => hr y (by simp [hy])
      exact ⟨x, by simp [hx], q⟩
    · rw [if_neg c]
      exact ⟨(t, n), by simp, rfl, rfl, h0, show g < n by omega⟩
theorem slotRows_eq {rows : List (Int × Int)} {s : Str} : slotRows (.tup [.str s, .lst (rows.map pr2)]) = rows := by
  show (rows.map pr2).map _ = rows
  rw [List.map_map]
  exact List.map_id rows
theorem sum_pos : ∀ {rows : List (Int × Int)}, 1 ≤ rows.length → (∀ r ∈ rows, 1 ≤ r.2) → 0 < (rows.map (·.2)).sum
  | [], h, _ => by simp at h
  | [r], _, h => by have := h r (by simp); simp; omega
  | r :: s :: t, _, h => by
    have h1 := h r (by simp)
    have h2 := sum_pos (rows := s :: t) (by simp) fun y hy => h y (List.mem_cons_of_mem _ hy)
    rw [List.map_cons, List.sum_cons]
    omega
end
theorem plan_lv {n : Int} {pp : PV} (h : PlanP n pp) : (isLevels pp = true ∧ ∃ k : Int, (1 ≤ k ∧ k ≤ 8) ∧ pp = .tup [.str "levels", .int k] ∧ frz pp = .tup [.str "levels", .int k]) ∨ (isLevels pp = false ∧ ∃ rows : List (Int × Int), (1 ≤ rows.length ∧ rows.length ≤ 4) ∧ (∀ t ∈ rows, (0 ≤ t.1 ∧ t.1 < n) ∧ 1 ≤ t.2 ∧ t.2 ≤ 12) ∧ pp = .tup [.str "slots", .lst (rows.map pr2)] ∧ frz pp = .tup [.str "slots", .tup (rows.map pr2)]) := by
  rcases h with ⟨k, hk, rfl⟩ | ⟨rows, h1, h2, rfl⟩
  · exact .inl ⟨show (("levels" : Str) == "levels") = true by decide +kernel, k, hk, rfl, rfl⟩
  · exact .inr ⟨show (("slots" : Str) == "levels") = false by decide +kernel, rows, h1, h2, rfl, rfl⟩
end HT
set_option Elab.async false
set_option linter.all false
set_option maxRecDepth 100000
set_option maxHeartbeats 1000000
namespace HT
open PySem PySem.Spec PyProof.Rows L2 Z
/-! ### what a tick keeps -/
section
variable {p : Pt} {k : Wk}
theorem slot_mem' (po : p.Ok) (lv : isLevels p.pl = false) {ph : Int} (h0 : 0 ≤ ph) : (slotAt p ph).1.toNat < p.ts.length := by
  rcases plan_lv po.g1 with ⟨e1, _⟩ | ⟨e1, rows, rl, rr, ep, e2⟩
  · rw [e1] at lv; cases lv
  have er : slotRows p.pl = rows := by rw [ep]; exact slotRows_eq
  have r1 : ∀ r ∈ rows, 1 ≤ r.2 := fun r hr => (rr r hr).2.1
  have sp := sum_pos rl.1 r1
  unfold slotAt
  rw [er]
  obtain ⟨r, hr, e, _⟩ := slotGo_mem (Int.emod_nonneg ph (by omega)) (Int.emod_lt_of_pos ph sp) r1
  rw [e]
  have := (rr r hr).1
  omega
theorem ok_bySlots (ok : k.Ok p) (po : p.Ok) (lv : isLevels p.pl = false) : Wk.Ok p (k.bySlots p).1 ∧ ∀ t, (k.bySlots p).2 = some t → t < p.ts.length ∧ gt (k.bySlots p).1.st .ready t = .ready := by
  have ht := slot_mem' po lv ok.ph
  have h1 : Wk.Ok p (k.slotK p) := by
    unfold Wk.slotK
    split
    · exact ok_change ok ht
    · exact ok
  refine ⟨h1, fun t e => ?_⟩
  replace e : (if gt (k.slotK p).st .ready (slotAt p k.ph).1.toNat ≠ .ready ∨ (slotAt p k.ph).2.1 < p.c2 ∨ (slotAt p k.ph).2.2 - (slotAt p k.ph).2.1 < costMost p then none else some (slotAt p k.ph).1.toNat) = some t := e
  by_cases z : gt (k.slotK p).st .ready (slotAt p k.ph).1.toNat ≠ .ready ∨ (slotAt p k.ph).2.1 < p.c2 ∨ (slotAt p k.ph).2.2 - (slotAt p k.ph).2.1 < costMost p
  · rw [if_pos z] at e; cases e
  · rw [if_neg z] at e
    cases e
    refine ⟨ht, ?_⟩
    rcases Classical.em (gt (k.slotK p).st .ready (slotAt p k.ph).1.toNat = .ready) with y | y
    · exact y
    · exact absurd (.inl y) z
theorem ready_mem {t : Nat} (h : t ∈ k.ready) : t < k.st.length ∧ gt k.st .ready t = .ready := by
  unfold Wk.ready at h
  obtain ⟨h1, h2⟩ := List.mem_filter.mp h
  exact ⟨List.mem_range.mp h1, by simpa using h2⟩
theorem cands_ne (h : k.ready ≠ []) : k.cands p ≠ [] := by
  have h1 : k.ready.map (k.level p) ≠ [] := by simpa using h
  have h2 := maxI_mem h1
  obtain ⟨t, ht, e⟩ := List.mem_map.mp h2
  refine fun z => ?_
  have : t ∈ k.cands p := List.mem_filter.mpr ⟨ht, by simpa using e⟩
  rw [z] at this
  cases this
theorem nextIn_mem {cs : List Nat} (h : cs ≠ []) (r : Option Nat) : nextIn cs r ∈ cs := by
  have hd : cs.headD 0 ∈ cs := by
    cases cs with
    | nil => exact absurd rfl h
    | cons a b => simp
  cases r with
  | none => exact hd
  | some r =>
    show (cs.find? fun t => decide (r < t)).getD (cs.headD 0) ∈ cs
    cases e : cs.find? fun t => decide (r < t) with
    | none => exact hd
    | some t => exact List.mem_of_find?_eq_some e
theorem ok_byLevels (ok : k.Ok p) (po : p.Ok) : Wk.Ok p (k.byLevels p).1 ∧ ∀ t, (k.byLevels p).2 = some t → t < p.ts.length ∧ gt (k.byLevels p).1.st .ready t = .ready := by
  unfold Wk.byLevels
  split
  · refine ⟨{ ok with u1 := fun t e => (nomatch e), sp := Int.le_refl _ }, fun t e => nomatch e⟩
  · rename_i hne
    have hc := nextIn_mem (cands_ne (p := p) hne) k.ru
    have hr : ∀ t ∈ k.cands p, t < p.ts.length ∧ gt k.st .ready t = .ready := fun t ht => by
      have := ready_mem (List.mem_filter.mp ht).1
      exact ⟨by rw [← ok.s1]; exact this.1, this.2⟩
    split
    · rename_i c
      refine ⟨ok, fun t e => ?_⟩
      obtain ⟨⟨r, h1, h2⟩, _⟩ := c
      rw [h2] at e
      obtain rfl : r = t := Option.some.inj e
      exact hr r h1
    · split
      · rename_i c
        refine ⟨{ ok with sp := Int.le_refl _ }, fun t e => ?_⟩
        rw [c] at e
        cases e
        exact hr _ hc
      · have h1 := ok_change ok (hr _ hc).1
        have c2 := po.c1.2.2
        split
        · exact ⟨{ h1 with bu := show 0 ≤ p.c2 by omega }, fun t e => nomatch e⟩
        · refine ⟨h1, fun t e => ?_⟩
          cases e
          exact hr _ hc
theorem ok_turn (ok : k.Ok p) (po : p.Ok) : Wk.Ok p (k.turn p).1 ∧ ∀ t, (k.turn p).2 = some t → t < p.ts.length ∧ gt (k.turn p).1.st .ready t = .ready := by
  unfold Wk.turn
  split
  · exact ⟨ok, fun t e => nomatch e⟩
  · split
    · exact ok_byLevels ok po
    · rename_i h
      exact ok_bySlots ok po (by simpa using h)
theorem ok_opened (ok : k.Ok p) (po : p.Ok) {l : Option Int} (hl : ∀ v, l = some v → (0 ≤ v ∧ v ≤ 1) ∧ p.ou ≠ .non) : Wk.Ok p (k.opened p l).1 ∧ ∀ t, (k.opened p l).2 = some t → t < p.ts.length ∧ gt (k.opened p l).1.st .ready t = .ready := by
  unfold Wk.opened
  refine ok_turn ?_ po
  have h1 : Wk.Ok p (k.arr p l) := by
    cases l with
    | none => exact ok
    | some v =>
      obtain ⟨hv, hou⟩ := hl v rfl
      rcases po.o1 with e | ⟨x, y, hx, hy, e⟩
      · exact absurd e hou
      · refine ok_deliver ok po ?_ hv
        rw [e]
        show x.toNat < _
        omega
  have h2 := ok_sleepOn h1
  unfold Wk.less
  split
  · exact { h2 with bu := by show 0 ≤ _ - 1; omega }
  · exact h2
theorem cost_nn (po : p.Ok) {t : Nat} {c : Cl} : 0 ≤ k.cost p t c := by
  have c0 := po.c1.1
  have c1 := po.c1.2.1
  unfold Wk.cost costMost
  split
  · split <;> omega
  · cases c <;> simp only <;> (try split) <;> (try split) <;> omega
theorem ok_make (ok : k.Ok p) (po : p.Ok) {t : Nat} (ht : t < p.ts.length) (hr : gt k.st .ready t = .ready) {c : Cl} (co : c.Ok p) : Wk.Ok p (k.make p t c) := by
  obtain ⟨h1, h2⟩ := ok_ans (ok_an (t := t) ok (.inl rfl)) po ht hr co
  unfold Wk.make
  generalize Wk.ans p { k with an := k.an.set t none } t c = r at h1 h2
  have hc := cost_nn (k := k) po (t := t) (c := c)
  refine { ok_an (t := t) h1 h2 with bu := hc, sp := ?_ }
  show 0 ≤ (if isLevels p.pl = true then r.1.sp + k.cost p t c else r.1.sp)
  have := h1.sp
  split <;> omega
theorem per_pos' (po : p.Ok) : 0 < period p := by
  have h : 0 < total (frz p.pl) := by
    rcases po.g1 with ⟨k, hk, e⟩ | ⟨rows, h1, h2, e⟩
    · rw [e]; show (0 : Int) < 1; decide
    · rw [e]
      have e : total (frz (.tup [.str "slots", .lst (rows.map pr2)])) = (rows.map (·.2)).sum := by
        show ((rows.map pr2).map _).sum = _
        rw [List.map_map]; rfl
      rw [e]
      exact sum_pos h1.1 fun r hr => (h2 r hr).2.1
  unfold period per
  split
  · exact h
  · split
    · omega
    · split <;> omega
theorem ok_closed (ok : k.Ok p) (po : p.Ok) {t : Option Nat} {c : Cl} (ht : ∀ u, t = some u → u < p.ts.length ∧ gt k.st .ready u = .ready ∧ c.Ok p) : Wk.Ok p (k.closed p t c) := by
  unfold Wk.closed
  have hp := per_pos' po
  have h1 : Wk.Ok p (k.call p c t) := by
    cases t with
    | none => exact ok
    | some u =>
      obtain ⟨g1, g2, g3⟩ := ht u rfl
      exact ok_make ok po g1 g2 g3
  exact { h1 with ph := Int.emod_nonneg _ (by omega) }
/-- a whole tick -/
def Wk.tick (p : Pt) (k : Wk) (l : Option Int) (c : Cl) : Wk := (k.opened p l).1.closed p (k.opened p l).2 c
def mayCome (p : Pt) (k : Wk) : Bool := match p.ou with
  | .tup [_, .int b] => decide (k.ph % b = 0)
  | _ => false
/-- a letter that fits -/
def LOk (p : Pt) (k : Wk) (l : Option Int) : Prop := ∀ v, l = some v → (0 ≤ v ∧ v ≤ 1) ∧ mayCome p k = true
theorem LOk.ou {l : Option Int} (h : LOk p k l) : ∀ v, l = some v → (0 ≤ v ∧ v ≤ 1) ∧ p.ou ≠ .non := fun v e => ⟨(h v e).1, fun z => by have := (h v e).2; unfold mayCome at this; rw [z] at this; cases this⟩
theorem ok_tick (ok : k.Ok p) (po : p.Ok) {l : Option Int} (hl : LOk p k l) {c : Cl} (co : (k.opened p l).2 ≠ none → c.Ok p) : Wk.Ok p (k.tick p l c) := by
  obtain ⟨h1, h2⟩ := ok_opened ok po hl.ou
  exact ok_closed h1 po fun u e => ⟨(h2 u e).1, (h2 u e).2, co (by rw [e]; simp)⟩
end
/-- the first moment -/
def first0 (p : Pt) : Wk := ⟨List.replicate p.ts.length .ready, List.replicate p.ts.length none, p.rs, List.replicate p.ts.length 0, p.ps, List.replicate p.qs.length [], List.replicate p.nl (none, []), [none, none], 0, none, 0, 0, 0⟩
theorem rep_mem {α : Type} {n : Nat} {a x : α} (h : x ∈ List.replicate n a) : x = a := List.eq_of_mem_replicate h
theorem ok_first {p : Pt} (po : p.Ok) : Wk.Ok p (first0 p) where
  s1 := List.length_replicate
  s2 := fun s hs => by rw [rep_mem hs]; exact True.intro
  a1 := List.length_replicate
  a2 := fun s hs => by rw [rep_mem hs]; exact .inl rfl
  r1 := po.r1
  r2 := fun r hr => (po.r2 r hr).1
  f1 := List.length_replicate
  f2 := fun s hs => by rw [rep_mem hs]; exact Int.le_refl _
  p1 := rfl
  p2 := po.p2
  l1 := List.length_replicate
  l2 := fun s hs => by rw [rep_mem hs]; exact ⟨by simp, by simp⟩
  k1 := List.length_replicate
  k2 := fun l q e => by
    have := rep_mem (List.mem_of_getElem? e)
    subst this
    exact ⟨(fun t z => nomatch z), List.nodup_nil, (fun t z => nomatch z)⟩
  n1 := rfl
  n2 := fun x hx i e => by simp [first0] at hx; rw [hx] at e; cases e
  h1 := ⟨Int.le_refl _, show (0 : Int) ≤ 4 by decide⟩
  u1 := fun t e => nomatch e
  sp := Int.le_refl _
  bu := Int.le_refl _
  ph := Int.le_refl _
end HT
set_option Elab.async false
set_option linter.all false
set_option maxRecDepth 100000
set_option maxHeartbeats 1000000
namespace HT
open PySem PySem.Spec PyProof.Rows L2 Z
local macro_rules | `(tactic| walk_at "HL") => `(tactic| (first | assumption | exact put_same | exact at_w | exact at_1 (by assumption) | exact at_2 (by assumption) | exact at_3 (by assumption) | exact at_4 (by assumption) | exact at_5 (by assumption) | exact at_6 (by assumption) | exact at_7 (by assumption) | exact at_8 (by assumption) | (rw [put_ne (by first | assumption | (apply Ne.symm; assumption) | exact neN (at_w) (by assumption) | exact neN (at_1 (by assumption)) (by assumption) | exact neN (at_2 (by assumption)) (by assumption) | exact neN (at_3 (by assumption)) (by assumption) | exact neN (at_4 (by assumption)) (by assumption) | exact neN (at_5 (by assumption)) (by assumption) | exact neN (at_6 (by assumption)) (by assumption) | exact neN (at_7 (by assumption)) (by assumption) | exact neN (at_8 (by assumption)) (by assumption))]; first | assumption | exact put_same | exact at_w | exact at_1 (by assumption) | exact at_2 (by assumption) | exact at_3 (by assumption) | exact at_4 (by assumption) | exact at_5 (by assumption) | exact at_6 (by assumption) | exact at_7 (by assumption) | exact at_8 (by assumption) | (rw [put_ne (by first | assumption | (apply Ne.symm; assumption) | exact neN (at_w) (by assumption) | exact neN (at_1 (by assumption)) (by assumption) | exact neN (at_2 (by assumption)) (by assumption) | exact neN (at_3 (by assumption)) (by assumption) | exact neN (at_4 (by assumption)) (by assumption) | exact neN (at_5 (by assumption)) (by assumption) | exact neN (at_6 (by assumption)) (by assumption) | exact neN (at_7 (by assumption)) (by assumption) | exact neN (at_8 (by assumption)) (by assumption))]; first | assumption | exact put_same | exact at_w | exact at_1 (by assumption) | exact at_2 (by assumption) | exact at_3 (by assumption) | exact at_4 (by assumption) | exact at_5 (by assumption) | exact at_6 (by assumption) | exact at_7 (by assumption) | exact at_8 (by assumption) | (rw [put_ne (by first | assumption | (apply Ne.symm; assumption) | exact neN (at_w) (by assumption) | exact neN (at_1 (by assumption)) (by assumption) | exact neN (at_2 (by assumption)) (by assumption) | exact neN (at_3 (by assumption)) (by assumption) | exact neN (at_4 (by assumption)) (by assumption) | exact neN (at_5 (by assumption)) (by assumption) | exact neN (at_6 (by assumption)) (by assumption) | exact neN (at_7 (by assumption)) (by assumption) | exact neN (at_8 (by assumption)) (by assumption))]; first | assumption | exact put_same | exact at_w | exact at_1 (by assumption) | exact at_2 (by assumption) | exact at_3 (by assumption) | exact at_4 (by assumption) | exact at_5 (by assumption) | exact at_6 (by assumption) | exact at_7 (by assumption) | exact at_8 (by assumption))))))
local macro_rules | `(tactic| walk_at "ONE") => `(tactic| (first | (refine And.intro rfl ?_; (conv => whnf)) | (refine Exists.intro _ (Exists.intro _ (Exists.intro _ (Exists.intro _ (And.intro (by walk_at "HL") (And.intro (by assumption) (And.intro rfl ?_)))))); (conv => whnf)) | (refine Exists.intro _ (Exists.intro _ (Exists.intro _ (And.intro (by walk_at "HL") (And.intro (DSet.old (by assumption) (by decide +kernel) (by decide +kernel)) ?_)))); (conv => whnf)) | (refine Exists.intro _ (Exists.intro _ (Exists.intro _ (And.intro (by walk_at "HL") (And.intro (DSet.new (by decide +kernel) (by decide +kernel)) ?_)))); (conv => whnf)) | (refine And.intro True.intro ?_; (conv => whnf)) | (refine And.intro (Exists.intro _ (by walk_at "HL")) ?_; (conv => whnf)) | (refine And.intro (by walk_at "HL") ?_; (conv => whnf)) | (refine And.intro (And.intro rfl rfl) ?_; (conv => whnf)) | (refine And.intro (Nat.le_of_ble_eq_true rfl) ?_; (conv => whnf)) | (refine And.intro (by decide) ?_; (conv => whnf)) | (refine And.intro (by omega) ?_; (conv => whnf)) | (refine Exists.intro _ (And.intro (by walk_at "HL") ?_); (conv => whnf)) | (refine Exists.intro _ (And.intro rfl ?_); (conv => whnf)) | (refine Exists.intro _ (Exists.intro _ (And.intro (by walk_at "HL") (And.intro rfl ?_))); (conv => whnf)) | (refine Exists.intro _ (Exists.intro _ (And.intro (by walk_at "HL") (And.intro (And.intro (by decide) rfl) ?_))); (conv => whnf)) | (refine Exists.intro _ (Exists.intro _ (And.intro rfl (And.intro rfl ?_))); (conv => whnf)) | (refine Exists.intro _ (Exists.intro _ (And.intro (by walk_at "HL") (And.intro (by walk_at "HL") ?_))); (conv => whnf)) | (refine Exists.intro _ (And.intro (by walk_at "HL") (And.intro (by decide) ?_)); (conv => whnf)) | (refine br_t rfl ?_; (conv => whnf)) | (refine br_f rfl ?_; (conv => whnf)) | (refine And.intro (And.intro (by decide +kernel) (by decide +kernel)) ?_; (conv => whnf)) | (refine br_t (by decide +kernel) ?_; (conv => whnf)) | (refine br_f (by decide +kernel) ?_; (conv => whnf))))
local macro_rules | `(tactic| walk_at "ONI") => `(tactic| (first | (refine Qw.here ?_; (conv => whnf)) | (refine br_t (decide_eq_true (by omega)) ?_; (conv => whnf)) | (refine br_f (decide_eq_false (by omega)) ?_; (conv => whnf)) | (refine And.intro rfl ?_; (conv => whnf)) | (refine Exists.intro _ (Exists.intro _ (Exists.intro _ (Exists.intro _ (And.intro (by walk_at "HL") (And.intro (by assumption) (And.intro rfl ?_)))))); (conv => whnf)) | (refine Exists.intro _ (Exists.intro _ (Exists.intro _ (And.intro (by walk_at "HL") (And.intro (DSet.old (by assumption) (by decide +kernel) (by decide +kernel)) ?_)))); (conv => whnf)) | (refine Exists.intro _ (Exists.intro _ (Exists.intro _ (And.intro (by walk_at "HL") (And.intro (DSet.new (by decide +kernel) (by decide +kernel)) ?_)))); (conv => whnf)) | (refine And.intro True.intro ?_; (conv => whnf)) | (refine And.intro (Exists.intro _ (by walk_at "HL")) ?_; (conv => whnf)) | (refine And.intro (by walk_at "HL") ?_; (conv => whnf)) | (refine And.intro (And.intro rfl rfl) ?_; (conv => whnf)) | (refine And.intro (Nat.le_of_ble_eq_true rfl) ?_; (conv => whnf)) | (refine And.intro (by decide) ?_; (conv => whnf)) | (refine And.intro (by omega) ?_; (conv => whnf)) | (refine Exists.intro _ (And.intro (by walk_at "HL") ?_); (conv => whnf)) | (refine Exists.intro _ (And.intro rfl ?_); (conv => whnf)) | (refine Exists.intro _ (Exists.intro _ (And.intro (by walk_at "HL") (And.intro rfl ?_))); (conv => whnf)) | (refine Exists.intro _ (Exists.intro _ (And.intro (by walk_at "HL") (And.intro (And.intro (by decide) rfl) ?_))); (conv => whnf)) | (refine Exists.intro _ (Exists.intro _ (And.intro rfl (And.intro rfl ?_))); (conv => whnf)) | (refine Exists.intro _ (Exists.intro _ (And.intro (by walk_at "HL") (And.intro (by walk_at "HL") ?_))); (conv => whnf)) | (refine Exists.intro _ (And.intro (by walk_at "HL") (And.intro (by decide) ?_)); (conv => whnf)) | (refine br_t rfl ?_; (conv => whnf)) | (refine br_f rfl ?_; (conv => whnf)) | (refine And.intro (And.intro (by decide +kernel) (by decide +kernel)) ?_; (conv => whnf)) | (refine br_t (by decide +kernel) ?_; (conv => whnf)) | (refine br_f (by decide +kernel) ?_; (conv => whnf))))
local macro_rules | `(tactic| walk_at "GO") => `(tactic| (((try (conv => whnf)); repeat (walk_at "ONE"))))
local macro_rules | `(tactic| walk_at "GI") => `(tactic| (((conv => whnf); repeat (walk_at "ONI"))))
local macro_rules | `(tactic| walk_at "BB") => `(tactic| (first | rfl | (simp only [Bool.and_eq_true, Bool.or_eq_true, Bool.not_eq_true', Bool.and_eq_false_iff, Bool.not_eq_false', decide_eq_true_eq, decide_eq_false_iff_not, peq_int, List.length_map]; omega)))
theorem rng_ind {still : Mh → Prop} {step : PV → Zs → Mh → (Zs → Mh → Prop) → Prop} {done : Zs → Mh → Prop} (I : Nat → Zs → Mh → Prop) {n : Nat} {σ : Zs} {M : Mh} (h0 : I 0 σ M) (hd : ∀ σ M, I n σ M → still M ∧ done σ M)
    (hs : ∀ i σ M, i < n → I i σ M → ∀ L : Zs → Mh → Prop, (∀ σ M, I (i + 1) σ M → L σ M) → still M ∧ step (.int (0 + (i : Int))) σ M L) : iter still step done (rangeL 0 n) σ M := by
  have hl : (rangeL 0 n).length = n := len_rangeL
  refine it_ind (fun xs σ M => ∃ i, i ≤ n ∧ xs = (rangeL 0 n).drop i ∧ I i σ M) ⟨0, Nat.zero_le _, rfl, h0⟩ ?_ ?_
  · rintro σ M ⟨i, hi, e, h⟩
    have : n ≤ i := by
      have := congrArg List.length e
      rw [List.length_drop, hl, List.length_nil] at this
      omega
    obtain rfl : i = n := by omega
    exact hd _ _ h
  · rintro x r σ M ⟨i, hi, e, h⟩ L hL
    have hlt : i < n := by
      have := congrArg List.length e
      rw [List.length_drop, hl, List.length_cons] at this
      omega
    have hx : (rangeL 0 n)[i]'(by omega) = .int (0 + (i : Int)) := by unfold rangeL; rw [List.getElem_map, List.getElem_range]
    rw [List.drop_eq_getElem_cons (by omega), hx] at e
    obtain ⟨e1, e2⟩ := List.cons.inj e
    subst e1
    exact hs i σ M hlt h L fun σ' M' h' => hL σ' M' ⟨i + 1, hlt, e2, h'⟩
abbrev Bp (p : Pt) : PV := .ins 0 p.flds
theorem gt_some {α : Type} {xs : List α} {d : α} {t : Nat} (h : t < xs.length) : xs[t]? = some (gt xs d t) := by unfold gt; rw [List.getElem?_eq_getElem h]; rfl
theorem gt_mem {α : Type} {xs : List α} {d : α} {t : Nat} (h : t < xs.length) : gt xs d t ∈ xs := List.mem_of_getElem? (gt_some h)
theorem pk {α : Type} {f : α → PV} {xs : List α} {t : Nat} (d : α) (h : t < xs.length) : pick (xs.map f) (t : Int) = some (f (gt xs d t)) := by
  show (xs.map f)[t]? = _
  rw [List.getElem?_map, gt_some (d := d) h]; rfl
theorem pl {α : Type} {f : α → PV} {xs : List α} {t : Nat} (h : t < xs.length) : place (xs.map f).length (t : Int) = some t := by
  rw [List.length_map]
  show (if t < xs.length then some t else none) = _
  rw [if_pos h]
def sp_wake : ZSp := fun vs M Q _ => ∃ (M0 : Mh) (w : Addr) (a : W8) (p : Pt) (k : Wk) (t : Nat) (an : Option Str), vs = [.ref w, nI t, eA an] ∧ Dis M0 w a ∧ M = Wk.at M0 w a (Bp p) k ∧ (t < k.st.length ∧ t < k.an.length) ∧ Q .non (Wk.at M0 w a (Bp p) (k.wake t an))
theorem o_wake (Φ : Nat → ZSp) (vs : List PV) (M : Mh) (Q : ZQ) (E : ZX) (h : sp_wake vs M Q E) : vs.length = 3 ∧ Reach M fun M1 => inl Φ 3 3 b_Work_wake vs M1 Q E := by
  obtain ⟨M0, w, a, p, k, t, an, rfl, D, rfl, ⟨h1, h2⟩, hq⟩ := h
  have p1 := pl (f := Stt.pv) h1
  have p2 := pl (f := eA) h2
  have e1 : (k.st.map Stt.pv).set t (.tup [.str "ready"]) = (k.st.set t .ready).map Stt.pv := by rw [List.map_set]; rfl
  refine ⟨rfl, .done ⟨rfl, ?_⟩⟩
  walk_at "GO"
  rw [e1, set_1 D]
  walk_at "GO"
  rw [← List.map_set, set_2 D]
  exact Qw.here hq
def sp_ready : ZSp := fun vs M Q _ => ∃ (M0 : Mh) (w : Addr) (a : W8) (p : Pt) (k : Wk), vs = [.ref w] ∧ Dis M0 w a ∧ M = Wk.at M0 w a (Bp p) k ∧ k.Ok p ∧ p.Ok ∧ Q (.lst (k.ready.map nI)) M
theorem n_ready_asleep : ((("ready" : Str) == ("asleep" : Str)) = false) := by decide +kernel
theorem n_ready_waits : ((("ready" : Str) == ("waits" : Str)) = false) := by decide +kernel
theorem n_ready_locked : ((("ready" : Str) == ("locked" : Str)) = false) := by decide +kernel
theorem n_asleep_ready : ((("asleep" : Str) == ("ready" : Str)) = false) := by decide +kernel
theorem n_asleep_waits : ((("asleep" : Str) == ("waits" : Str)) = false) := by decide +kernel
theorem n_asleep_locked : ((("asleep" : Str) == ("locked" : Str)) = false) := by decide +kernel
theorem n_waits_ready : ((("waits" : Str) == ("ready" : Str)) = false) := by decide +kernel
theorem n_waits_asleep : ((("waits" : Str) == ("asleep" : Str)) = false) := by decide +kernel
theorem n_waits_locked : ((("waits" : Str) == ("locked" : Str)) = false) := by decide +kernel
theorem n_locked_ready : ((("locked" : Str) == ("ready" : Str)) = false) := by decide +kernel
theorem n_locked_asleep : ((("locked" : Str) == ("asleep" : Str)) = false) := by decide +kernel
theorem n_locked_waits : ((("locked" : Str) == ("waits" : Str)) = false) := by decide +kernel
theorem okD_stt {s : Stt} : okD 40 s.pv = true := by
  cases s with
  | ready => decide +kernel
  | asleep k => show (PyData.strOk _ && (true && true)) = true; rw [show PyData.strOk ("asleep" : Str) = true by decide +kernel]; rfl
  | waits k => show (PyData.strOk _ && (true && true)) = true; rw [show PyData.strOk ("waits" : Str) = true by decide +kernel]; rfl
  | locked k => show (PyData.strOk _ && (true && true)) = true; rw [show PyData.strOk ("locked" : Str) = true by decide +kernel]; rfl
theorem str_self (s : Str) : (s == s) = true := beq_self_eq_true s
theorem stt_eq {s u : Stt} : peq s.pv u.pv = decide (s = u) := by
  cases s with
  | ready => cases u with
    | ready => show ((("ready" : Str) == "ready") && true) = _; rw [str_self]; rfl
    | asleep j => show ((("ready" : Str) == "asleep") && false) = _; rw [n_ready_asleep, decide_eq_false (by simp)]; rfl
    | waits j => show ((("ready" : Str) == "waits") && false) = _; rw [n_ready_waits, decide_eq_false (by simp)]; rfl
    | locked j => show ((("ready" : Str) == "locked") && false) = _; rw [n_ready_locked, decide_eq_false (by simp)]; rfl
  | asleep i => cases u with
    | ready => show ((("asleep" : Str) == "ready") && false) = _; rw [n_asleep_ready, decide_eq_false (by simp)]; rfl
    | asleep j =>
      show ((("asleep" : Str) == "asleep") && (((i : Int) == (j : Int)) && true)) = _
      rw [str_self, Bool.true_and, Bool.and_true]
      by_cases e : i = j
      · subst e; simp
      · rw [decide_eq_false (by simpa using e)]; exact beq_eq_false_iff_ne.mpr (by omega)
    | waits j => show ((("asleep" : Str) == "waits") && (((i : Int) == (j : Int)) && true)) = _; rw [n_asleep_waits, decide_eq_false (by simp)]; rfl
    | locked j => show ((("asleep" : Str) == "locked") && (((i : Int) == (j : Int)) && true)) = _; rw [n_asleep_locked, decide_eq_false (by simp)]; rfl
  | waits i => cases u with
    | ready => show ((("waits" : Str) == "ready") && false) = _; rw [n_waits_ready, decide_eq_false (by simp)]; rfl
    | asleep j => show ((("waits" : Str) == "asleep") && (((i : Int) == (j : Int)) && true)) = _; rw [n_waits_asleep, decide_eq_false (by simp)]; rfl
    | waits j =>
      show ((("waits" : Str) == "waits") && (((i : Int) == (j : Int)) && true)) = _
      rw [str_self, Bool.true_and, Bool.and_true]
      by_cases e : i = j
      · subst e; simp
      · rw [decide_eq_false (by simpa using e)]; exact beq_eq_false_iff_ne.mpr (by omega)
    | locked j => show ((("waits" : Str) == "locked") && (((i : Int) == (j : Int)) && true)) = _; rw [n_waits_locked, decide_eq_false (by simp)]; rfl
  | locked i => cases u with
    | ready => show ((("locked" : Str) == "ready") && false) = _; rw [n_locked_ready, decide_eq_false (by simp)]; rfl
    | asleep j => show ((("locked" : Str) == "asleep") && (((i : Int) == (j : Int)) && true)) = _; rw [n_locked_asleep, decide_eq_false (by simp)]; rfl
    | waits j => show ((("locked" : Str) == "waits") && (((i : Int) == (j : Int)) && true)) = _; rw [n_locked_waits, decide_eq_false (by simp)]; rfl
    | locked j =>
      show ((("locked" : Str) == "locked") && (((i : Int) == (j : Int)) && true)) = _
      rw [str_self, Bool.true_and, Bool.and_true]
      by_cases e : i = j
      · subst e; simp
      · rw [decide_eq_false (by simpa using e)]; exact beq_eq_false_iff_ne.mpr (by omega)
def fI (P : Nat → Prop) [DecidablePred P] : PV → Option PV
  | .int i => if P i.toNat then some (.int i) else none
  | _ => none
theorem fI_at {P : Nat → Prop} [DecidablePred P] {i : Nat} : fI P (.int (0 + (i : Int))) = if P i then some (.int (0 + (i : Int))) else none := by
  show (if P (0 + (i : Int)).toNat then some (PV.int (0 + (i : Int))) else none) = _
  rw [show (0 + (i : Int)).toNat = i by omega]
theorem range_fm {n : Nat} {P : Nat → Prop} [DecidablePred P] : (rangeL 0 n).filterMap (fI P) = ((List.range n).filter fun t => decide (P t)).map nI := by
  unfold rangeL
  rw [List.filterMap_map]
  generalize List.range n = l
  induction l with
  | nil => rfl
  | cons x l ih =>
    have e : (fI P ∘ fun i : Nat => PV.int (0 + (i : Int))) x = if P x then some (nI x) else none := by
      show fI P (.int (0 + (x : Int))) = _
      rw [fI_at, Int.zero_add]
    rw [List.filterMap_cons, e, List.filter_cons]
    by_cases h : P x
    · rw [if_pos h, if_pos (decide_eq_true h), List.map_cons, ← ih]
    · rw [if_neg h, if_neg (by simpa using h), ← ih]
theorem o_ready (Φ : Nat → ZSp) (vs : List PV) (M : Mh) (Q : ZQ) (E : ZX) (h : sp_ready vs M Q E) : vs.length = 1 ∧ Reach M fun M1 => inl Φ 2 1 b_Work_ready_tasks vs M1 Q E := by
  obtain ⟨M0, w, a, p, k, rfl, D, rfl, ok, pk0, hq⟩ := h
  have s1 := ok.s1
  have t1 := pk0.t1
  have hb : -(2 ^ 62 : Int) ≤ ((k.st.map Stt.pv).length : Nat) ∧ (((k.st.map Stt.pv).length : Nat) : Int) < 2 ^ 62 := by rw [List.length_map]; omega
  refine ⟨rfl, .done ⟨rfl, ?_⟩⟩
  walk_at "GO"
  intro X hX
  rw [show Int.toNat (((k.st.map Stt.pv).length : Nat) : Int) = k.st.length by rw [List.length_map]; rfl]
  refine lc_fmF (fI fun t => gt k.st .ready t = .ready) hX (by rw [len_rangeL]; omega) (fun _ => trivial) ?_ ?_
  · intro x hx acc kk hk
    obtain ⟨i, hi, rfl⟩ := mem_range hx
    have pi : pick (k.st.map Stt.pv) (0 + (i : Nat)) = some (gt k.st .ready i).pv := by rw [Int.zero_add]; exact pk .ready hi
    have e0 : (0 + (i : Int)).toNat = i := by omega
    walk_at "GO"
    refine ⟨⟨okD_stt, by decide +kernel⟩, ?_⟩
    rw [show peq (gt k.st .ready i).pv (.tup [.str "ready"]) = decide (gt k.st .ready i = .ready) from stt_eq (u := .ready)]
    rw [fI_at] at hk
    walk_at "GO"
    refine br_intro (fun c => ?_) fun c => ?_
    · rw [if_pos (of_decide_eq_true c)] at hk
      walk_at "GO"
      exact hk
    · rw [if_neg (of_decide_eq_false c)] at hk
      exact hk
  · rw [range_fm]
    exact Qw.here hq
def sp_firstW : ZSp := fun vs M Q _ => ∃ (M0 : Mh) (w : Addr) (a : W8) (p : Pt) (k : Wk) (q : Nat), vs = [.ref w, nI q] ∧ Dis M0 w a ∧ M = Wk.at M0 w a (Bp p) k ∧ k.st.length ≤ 4 ∧ Q (eO (k.firstW q)) (Wk.at M0 w a (Bp p) k)
theorem o_firstW (Φ : Nat → ZSp) (vs : List PV) (M : Mh) (Q : ZQ) (E : ZX) (h : sp_firstW vs M Q E) : vs.length = 2 ∧ Reach M fun M1 => inl Φ 3 2 b_Work_first_waiting vs M1 Q E := by
  obtain ⟨M0, w, a, p, k, q, rfl, D, rfl, s1, hq⟩ := h
  have hb : -(2 ^ 62 : Int) ≤ ((k.st.map Stt.pv).length : Nat) ∧ (((k.st.map Stt.pv).length : Nat) : Int) < 2 ^ 62 := by rw [List.length_map]; omega
  refine ⟨rfl, .done ⟨rfl, ?_⟩⟩
  walk_at "GO"
  rw [show Int.toNat (((k.st.map Stt.pv).length : Nat) : Int) = k.st.length by rw [List.length_map]; rfl]
  refine rng_ind (fun i σ M => (∃ o, σ = [some (.ref w), some (nI q), o]) ∧ M = Wk.at M0 w a (Bp p) k ∧ k.firstW q = ((List.range k.st.length).drop i).find? fun t => gt k.st .ready t = .waits q) ⟨⟨_, rfl⟩, rfl, rfl⟩ ?_ ?_
  · rintro σ M ⟨⟨o, rfl⟩, rfl, e⟩
    rw [List.drop_eq_nil_of_le (by rw [List.length_range]; omega)] at e
    walk_at "GO"
    rw [e] at hq
    exact Qw.here hq
  · rintro i σ M hi ⟨⟨o, rfl⟩, rfl, e⟩ L hL
    rw [List.drop_eq_getElem_cons (by rw [List.length_range]; exact hi), List.find?_cons, List.getElem_range] at e
    have pi : pick (k.st.map Stt.pv) (0 + (i : Nat)) = some (gt k.st .ready i).pv := by rw [Int.zero_add]; exact pk .ready hi
    walk_at "GO"
    refine ⟨⟨okD_stt, okD_stt (s := .waits q)⟩, ?_⟩
    rw [show peq (gt k.st .ready i).pv (.tup [.str "waits", nI q]) = decide (gt k.st .ready i = .waits q) from stt_eq (u := .waits q)]
    walk_at "GO"
    refine br_intro (fun c => ?_) fun c => ?_
    · rw [c] at e
      walk_at "GO"
      rw [e] at hq
      rw [Int.zero_add]
      exact Qw.here hq
    · rw [c] at e
      walk_at "GO"
      exact hL _ _ ⟨⟨_, rfl⟩, rfl, e⟩
def sp_shape : ZSp := fun vs M Q _ => ∃ (M0 : Mh) (w : Addr) (a : W8) (p : Pt) (k : Wk), vs = [.ref w] ∧ Dis M0 w a ∧ M = Wk.at M0 w a (Bp p) k ∧ Q k.shape (Wk.at M0 w a (Bp p) k)
theorem o_shape (Φ : Nat → ZSp) (vs : List PV) (M : Mh) (Q : ZQ) (E : ZX) (h : sp_shape vs M Q E) : vs.length = 1 ∧ Reach M fun M1 => inl Φ 1 1 b_Work_shape_now vs M1 Q E := by
  obtain ⟨M0, w, a, p, k, rfl, D, rfl, hq⟩ := h
  refine ⟨rfl, .done ⟨rfl, ?_⟩⟩
  walk_at "GO"
  exact Qw.here hq
def sp_work : ZSp := fun vs M Q _ => ∃ (w : Addr) (p : Pt) (k : Wk) (M0 : Mh), vs = [.ref w, Bp p, k.shape] ∧ M0 w = none ∧ M = put M0 w (.ins 1 [none, none, none, none, none, none, none, none, none, none, none, none, none, none]) ∧ ∀ a, Dis M0 w a → Q .non (Wk.at M0 w a (Bp p) k)
theorem put_w {N : Mh} {w a : Addr} {x l y : MO} (h : w ≠ a) : put (put (put N w x) a l) w y = put (put N a l) w y := by
  rw [put_comm h, put_put]
theorem o_work (Φ : Nat → ZSp) (vs : List PV) (M : Mh) (Q : ZQ) (E : ZX) (h : sp_work vs M Q E) : vs.length = 3 ∧ Reach M fun M1 => inl Φ 13 3 b_Work___init__ vs M1 Q E := by
  obtain ⟨w, p, k, M0, rfl, hw, rfl, hq⟩ := h
  refine ⟨rfl, .done ⟨rfl, ?_⟩⟩
  walk_at "GO"
  rw [put_put]
  try simp only [List.set_cons_zero, List.set_cons_succ]
  intro a1 n1
  obtain ⟨w1, n1⟩ := none_put n1
  walk_at "GO"
  rw [put_w (Ne.symm w1)]
  try simp only [List.set_cons_zero, List.set_cons_succ]
  intro a2 n2
  obtain ⟨w2, n2⟩ := none_put n2
  obtain ⟨d21, n2⟩ := none_put n2
  walk_at "GO"
  rw [put_w (Ne.symm w2)]
  try simp only [List.set_cons_zero, List.set_cons_succ]
  intro a3 n3
  obtain ⟨w3, n3⟩ := none_put n3
  obtain ⟨d32, n3⟩ := none_put n3
  obtain ⟨d31, n3⟩ := none_put n3
  walk_at "GO"
  rw [put_w (Ne.symm w3)]
  try simp only [List.set_cons_zero, List.set_cons_succ]
  intro a4 n4
  obtain ⟨w4, n4⟩ := none_put n4
  obtain ⟨d43, n4⟩ := none_put n4
  obtain ⟨d42, n4⟩ := none_put n4
  obtain ⟨d41, n4⟩ := none_put n4
  walk_at "GO"
  rw [put_w (Ne.symm w4)]
  try simp only [List.set_cons_zero, List.set_cons_succ]
  intro a5 n5
  obtain ⟨w5, n5⟩ := none_put n5
  obtain ⟨d54, n5⟩ := none_put n5
  obtain ⟨d53, n5⟩ := none_put n5
  obtain ⟨d52, n5⟩ := none_put n5
  obtain ⟨d51, n5⟩ := none_put n5
  walk_at "GO"
  rw [put_w (Ne.symm w5)]
  try simp only [List.set_cons_zero, List.set_cons_succ]
  intro a6 n6
  obtain ⟨w6, n6⟩ := none_put n6
  obtain ⟨d65, n6⟩ := none_put n6
  obtain ⟨d64, n6⟩ := none_put n6
  obtain ⟨d63, n6⟩ := none_put n6
  obtain ⟨d62, n6⟩ := none_put n6
  obtain ⟨d61, n6⟩ := none_put n6
  walk_at "GO"
  rw [put_w (Ne.symm w6)]
  try simp only [List.set_cons_zero, List.set_cons_succ]
  intro a7 n7
  obtain ⟨w7, n7⟩ := none_put n7
  obtain ⟨d76, n7⟩ := none_put n7
  obtain ⟨d75, n7⟩ := none_put n7
  obtain ⟨d74, n7⟩ := none_put n7
  obtain ⟨d73, n7⟩ := none_put n7
  obtain ⟨d72, n7⟩ := none_put n7
  obtain ⟨d71, n7⟩ := none_put n7
  walk_at "GO"
  rw [put_w (Ne.symm w7)]
  try simp only [List.set_cons_zero, List.set_cons_succ]
  intro a8 n8
  obtain ⟨w8, n8⟩ := none_put n8
  obtain ⟨d87, n8⟩ := none_put n8
  obtain ⟨d86, n8⟩ := none_put n8
  obtain ⟨d85, n8⟩ := none_put n8
  obtain ⟨d84, n8⟩ := none_put n8
  obtain ⟨d83, n8⟩ := none_put n8
  obtain ⟨d82, n8⟩ := none_put n8
  obtain ⟨d81, n8⟩ := none_put n8
  walk_at "GO"
  rw [put_w (Ne.symm w8)]
  try simp only [List.set_cons_zero, List.set_cons_succ]
  rw [put_put, put_put, put_put, put_put, put_put]
  try simp only [List.set_cons_zero, List.set_cons_succ]
  have D : Dis M0 w ⟨a1, a2, a3, a4, a5, a6, a7, a8⟩ := by
    refine ⟨?_, ?_⟩
    · simp only [List.nodup_cons, List.mem_cons, List.not_mem_nil, or_false, not_or]
      refine ⟨⟨Ne.symm w1, Ne.symm w2, Ne.symm w3, Ne.symm w4, Ne.symm w5, Ne.symm w6, Ne.symm w7, Ne.symm w8⟩, ⟨Ne.symm d21, Ne.symm d31, Ne.symm d41, Ne.symm d51, Ne.symm d61, Ne.symm d71, Ne.symm d81⟩, ⟨Ne.symm d32, Ne.symm d42, Ne.symm d52, Ne.symm d62, Ne.symm d72, Ne.symm d82⟩, ⟨Ne.symm d43, Ne.symm d53, Ne.symm d63, Ne.symm d73, Ne.symm d83⟩, ⟨Ne.symm d54, Ne.symm d64, Ne.symm d74, Ne.symm d84⟩, ⟨Ne.symm d65, Ne.symm d75, Ne.symm d85⟩, ⟨Ne.symm d76, Ne.symm d86⟩, Ne.symm d87, fun z => z, List.nodup_nil⟩
    · intro x hx
      try simp only [List.mem_cons, List.not_mem_nil, or_false] at hx
      rcases hx with rfl | rfl | rfl | rfl | rfl | rfl | rfl | rfl | rfl <;> assumption
  have h := hq _ D
  rw [at_def] at h
  exact Qw.here h
end HT
set_option Elab.async false
set_option linter.all false
set_option maxRecDepth 100000
set_option maxHeartbeats 1000000
namespace HT
open PySem PySem.Spec PyProof.Rows L2 Z
local macro_rules | `(tactic| walk_at "HL") => `(tactic| (first | assumption | exact put_same | exact at_w | exact at_1 (by assumption) | exact at_2 (by assumption) | exact at_3 (by assumption) | exact at_4 (by assumption) | exact at_5 (by assumption) | exact at_6 (by assumption) | exact at_7 (by assumption) | exact at_8 (by assumption) | (rw [put_ne (by first | assumption | (apply Ne.symm; assumption) | exact neN (at_w) (by assumption) | exact neN (at_1 (by assumption)) (by assumption) | exact neN (at_2 (by assumption)) (by assumption) | exact neN (at_3 (by assumption)) (by assumption) | exact neN (at_4 (by assumption)) (by assumption) | exact neN (at_5 (by assumption)) (by assumption) | exact neN (at_6 (by assumption)) (by assumption) | exact neN (at_7 (by assumption)) (by assumption) | exact neN (at_8 (by assumption)) (by assumption))]; first | assumption | exact put_same | exact at_w | exact at_1 (by assumption) | exact at_2 (by assumption) | exact at_3 (by assumption) | exact at_4 (by assumption) | exact at_5 (by assumption) | exact at_6 (by assumption) | exact at_7 (by assumption) | exact at_8 (by assumption) | (rw [put_ne (by first | assumption | (apply Ne.symm; assumption) | exact neN (at_w) (by assumption) | exact neN (at_1 (by assumption)) (by assumption) | exact neN (at_2 (by assumption)) (by assumption) | exact neN (at_3 (by assumption)) (by assumption) | exact neN (at_4 (by assumption)) (by assumption) | exact neN (at_5 (by assumption)) (by assumption) | exact neN (at_6 (by assumption)) (by assumption) | exact neN (at_7 (by assumption)) (by assumption) | exact neN (at_8 (by assumption)) (by assumption))]; first | assumption | exact put_same | exact at_w | exact at_1 (by assumption) | exact at_2 (by assumption) | exact at_3 (by assumption) | exact at_4 (by assumption) | exact at_5 (by assumption) | exact at_6 (by assumption) | exact at_7 (by assumption) | exact at_8 (by assumption) | (rw [put_ne (by first | assumption | (apply Ne.symm; assumption) | exact neN (at_w) (by assumption) | exact neN (at_1 (by assumption)) (by assumption) | exact neN (at_2 (by assumption)) (by assumption) | exact neN (at_3 (by assumption)) (by assumption) | exact neN (at_4 (by assumption)) (by assumption) | exact neN (at_5 (by assumption)) (by assumption) | exact neN (at_6 (by assumption)) (by assumption) | exact neN (at_7 (by assumption)) (by assumption) | exact neN (at_8 (by assumption)) (by assumption))]; first | assumption | exact put_same | exact at_w | exact at_1 (by assumption) | exact at_2 (by assumption) | exact at_3 (by assumption) | exact at_4 (by assumption) | exact at_5 (by assumption) | exact at_6 (by assumption) | exact at_7 (by assumption) | exact at_8 (by assumption))))))
local macro_rules | `(tactic| walk_at "ONE") => `(tactic| (first | (refine And.intro rfl ?_; (conv => whnf)) | (refine Exists.intro _ (Exists.intro _ (Exists.intro _ (Exists.intro _ (And.intro (by walk_at "HL") (And.intro (by assumption) (And.intro rfl ?_)))))); (conv => whnf)) | (refine Exists.intro _ (Exists.intro _ (Exists.intro _ (And.intro (by walk_at "HL") (And.intro (DSet.old (by assumption) (by decide +kernel) (by decide +kernel)) ?_)))); (conv => whnf)) | (refine Exists.intro _ (Exists.intro _ (Exists.intro _ (And.intro (by walk_at "HL") (And.intro (DSet.new (by decide +kernel) (by decide +kernel)) ?_)))); (conv => whnf)) | (refine And.intro True.intro ?_; (conv => whnf)) | (refine And.intro (Exists.intro _ (by walk_at "HL")) ?_; (conv => whnf)) | (refine And.intro (by walk_at "HL") ?_; (conv => whnf)) | (refine And.intro (And.intro rfl rfl) ?_; (conv => whnf)) | (refine And.intro (Nat.le_of_ble_eq_true rfl) ?_; (conv => whnf)) | (refine And.intro (by decide) ?_; (conv => whnf)) | (refine And.intro (by omega) ?_; (conv => whnf)) | (refine Exists.intro _ (And.intro (by walk_at "HL") ?_); (conv => whnf)) | (refine Exists.intro _ (And.intro rfl ?_); (conv => whnf)) | (refine Exists.intro _ (Exists.intro _ (And.intro (by walk_at "HL") (And.intro rfl ?_))); (conv => whnf)) | (refine Exists.intro _ (Exists.intro _ (And.intro (by walk_at "HL") (And.intro (And.intro (by decide) rfl) ?_))); (conv => whnf)) | (refine Exists.intro _ (Exists.intro _ (And.intro rfl (And.intro rfl ?_))); (conv => whnf)) | (refine Exists.intro _ (Exists.intro _ (And.intro (by walk_at "HL") (And.intro (by walk_at "HL") ?_))); (conv => whnf)) | (refine Exists.intro _ (And.intro (by walk_at "HL") (And.intro (by decide) ?_)); (conv => whnf)) | (refine br_t rfl ?_; (conv => whnf)) | (refine br_f rfl ?_; (conv => whnf)) | (refine And.intro (And.intro (by decide +kernel) (by decide +kernel)) ?_; (conv => whnf)) | (refine br_t (by decide +kernel) ?_; (conv => whnf)) | (refine br_f (by decide +kernel) ?_; (conv => whnf))))
local macro_rules | `(tactic| walk_at "ONI") => `(tactic| (first | (refine Qw.here ?_; (conv => whnf)) | (refine br_t (decide_eq_true (by omega)) ?_; (conv => whnf)) | (refine br_f (decide_eq_false (by omega)) ?_; (conv => whnf)) | (refine And.intro rfl ?_; (conv => whnf)) | (refine Exists.intro _ (Exists.intro _ (Exists.intro _ (Exists.intro _ (And.intro (by walk_at "HL") (And.intro (by assumption) (And.intro rfl ?_)))))); (conv => whnf)) | (refine Exists.intro _ (Exists.intro _ (Exists.intro _ (And.intro (by walk_at "HL") (And.intro (DSet.old (by assumption) (by decide +kernel) (by decide +kernel)) ?_)))); (conv => whnf)) | (refine Exists.intro _ (Exists.intro _ (Exists.intro _ (And.intro (by walk_at "HL") (And.intro (DSet.new (by decide +kernel) (by decide +kernel)) ?_)))); (conv => whnf)) | (refine And.intro True.intro ?_; (conv => whnf)) | (refine And.intro (Exists.intro _ (by walk_at "HL")) ?_; (conv => whnf)) | (refine And.intro (by walk_at "HL") ?_; (conv => whnf)) | (refine And.intro (And.intro rfl rfl) ?_; (conv => whnf)) | (refine And.intro (Nat.le_of_ble_eq_true rfl) ?_; (conv => whnf)) | (refine And.intro (by decide) ?_; (conv => whnf)) | (refine And.intro (by omega) ?_; (conv => whnf)) | (refine Exists.intro _ (And.intro (by walk_at "HL") ?_); (conv => whnf)) | (refine Exists.intro _ (And.intro rfl ?_); (conv => whnf)) | (refine Exists.intro _ (Exists.intro _ (And.intro (by walk_at "HL") (And.intro rfl ?_))); (conv => whnf)) | (refine Exists.intro _ (Exists.intro _ (And.intro (by walk_at "HL") (And.intro (And.intro (by decide) rfl) ?_))); (conv => whnf)) | (refine Exists.intro _ (Exists.intro _ (And.intro rfl (And.intro rfl ?_))); (conv => whnf)) | (refine Exists.intro _ (Exists.intro _ (And.intro (by walk_at "HL") (And.intro (by walk_at "HL") ?_))); (conv => whnf)) | (refine Exists.intro _ (And.intro (by walk_at "HL") (And.intro (by decide) ?_)); (conv => whnf)) | (refine br_t rfl ?_; (conv => whnf)) | (refine br_f rfl ?_; (conv => whnf)) | (refine And.intro (And.intro (by decide +kernel) (by decide +kernel)) ?_; (conv => whnf)) | (refine br_t (by decide +kernel) ?_; (conv => whnf)) | (refine br_f (by decide +kernel) ?_; (conv => whnf))))
local macro_rules | `(tactic| walk_at "GO") => `(tactic| (((try (conv => whnf)); repeat (walk_at "ONE"))))
local macro_rules | `(tactic| walk_at "GI") => `(tactic| (((conv => whnf); repeat (walk_at "ONI"))))
local macro_rules | `(tactic| walk_at "BB") => `(tactic| (first | rfl | (simp only [Bool.and_eq_true, Bool.or_eq_true, Bool.not_eq_true', Bool.and_eq_false_iff, Bool.not_eq_false', decide_eq_true_eq, decide_eq_false_iff_not, peq_int, List.length_map]; omega)))
theorem firstW_lt {k : Wk} {q t : Nat} (h : k.firstW q = some t) : t < k.st.length := by
  unfold Wk.firstW at h
  exact List.mem_range.mp (List.mem_of_find?_eq_some h)
theorem v01 {l : Int} (h : 0 ≤ l ∧ l ≤ 1) : l = 0 ∨ l = 1 := by omega
def sp_deliver : ZSp := fun vs M Q _ => ∃ (M0 : Mh) (w : Addr) (a : W8) (p : Pt) (k : Wk) (q : Nat) (l : Int), vs = [.ref w, nI q, .int l] ∧ Dis M0 w a ∧ M = Wk.at M0 w a (Bp p) k ∧ k.Ok p ∧ p.Ok ∧ q < p.qs.length ∧ (0 ≤ l ∧ l ≤ 1) ∧ Q .non (Wk.at M0 w a (Bp p) (k.deliver p q l))
theorem o_deliver (Φ : Nat → ZSp) (h59 : Φ 59 = sp_firstW) (h57 : Φ 57 = sp_wake) (vs : List PV) (M : Mh) (Q : ZQ) (E : ZX) (h : sp_deliver vs M Q E) : vs.length = 3 ∧ Reach M fun M1 => inl Φ 4 3 b_deliver vs M1 Q E := by
  obtain ⟨M0, w, a, p, k, q, l, rfl, D, rfl, ok, po, hqq, hl, hq⟩ := h
  have s1 := ok.s1
  have a1 := ok.a1
  have t1 := po.t1
  have l1 := ok.l1
  have hq2 : q < k.lt.length := by omega
  have p6 := pk (f := eL) [] hq2
  have p7 := pl (f := eL) hq2
  have p8 := pk (f := PV.int) 0 hqq
  have hll := (ok.l2 _ (gt_mem (d := []) hq2)).1
  refine ⟨rfl, .done ⟨rfl, ?_⟩⟩
  walk_at "GO"
  rw [h59]
  refine ⟨M0, w, a, p, k, q, rfl, D, rfl, by omega, ?_⟩
  unfold Wk.deliver at hq
  cases e : k.firstW q with
  | some t =>
    rw [e] at hq
    have ht := firstW_lt e
    have lg : l.natAbs.log2 < 1920 := dS_log (by omega)
    walk_at "GO"
    rw [h57]
    refine ⟨M0, w, a, p, k, t, some (dS l), rfl, D, rfl, ⟨ht, by omega⟩, ?_⟩
    walk_at "GO"
    exact Qw.here hq
  | none =>
    rw [e] at hq
    walk_at "GO"
    refine br_intro (fun c => ?_) fun c => ?_
    · have c' : ((gt k.lt [] q).length : Int) < gt p.qs 0 q := by
        have := of_decide_eq_true c
        rwa [List.length_map] at this
      simp only [if_pos c'] at hq
      walk_at "GO"
      refine ⟨by rw [List.length_map, sizeLine_eq]; show _ + 1 ≤ _; omega, ?_⟩
      walk_at "GO"
      rw [show (k.lt.map eL).set q (.tup ((gt k.lt [] q).map PV.int ++ [.int l])) = (k.lt.set q (gt k.lt [] q ++ [l])).map eL by rw [List.map_set]; simp [eL], set_6 D]
      walk_at "GO"
      exact Qw.here hq
    · have c' : ¬ ((gt k.lt [] q).length : Int) < gt p.qs 0 q := by
        have := of_decide_eq_false c
        rwa [List.length_map] at this
      simp only [if_neg c'] at hq
      walk_at "GO"
      exact Qw.here hq
/-- what stays of a moment's form -/
theorem slp_st {k : Wk} {t : Nat} : (k.slp t).st.length = k.st.length ∧ (k.slp t).an.length = k.an.length := by
  unfold Wk.slp Wk.wake
  split
  · split <;> simp
  · exact ⟨rfl, rfl⟩
theorem slp_len {k : Wk} : ∀ (l : List Nat), (l.foldl Wk.slp k).st.length = k.st.length ∧ (l.foldl Wk.slp k).an.length = k.an.length := by
  intro l
  induction l generalizing k with
  | nil => exact ⟨rfl, rfl⟩
  | cons x l ih =>
    have := ih (k := k.slp x)
    have h := slp_st (k := k) (t := x)
    rw [List.foldl_cons]
    omega
def sp_sleep_on : ZSp := fun vs M Q _ => ∃ (M0 : Mh) (w : Addr) (a : W8) (p : Pt) (k : Wk), vs = [.ref w] ∧ Dis M0 w a ∧ M = Wk.at M0 w a (Bp p) k ∧ k.Ok p ∧ p.Ok ∧ Q .non (Wk.at M0 w a (Bp p) k.sleepOn)
theorem o_sleep_on (Φ : Nat → ZSp) (h57 : Φ 57 = sp_wake) (vs : List PV) (M : Mh) (Q : ZQ) (E : ZX) (h : sp_sleep_on vs M Q E) : vs.length = 1 ∧ Reach M fun M1 => inl Φ 3 1 b_sleep_on vs M1 Q E := by
  obtain ⟨M0, w, a, p, k, rfl, D, rfl, ok, po, hq⟩ := h
  have s1 := ok.s1
  have a1 := ok.a1
  have t1 := po.t1
  have hb : -(2 ^ 62 : Int) ≤ ((k.st.map Stt.pv).length : Nat) ∧ (((k.st.map Stt.pv).length : Nat) : Int) < 2 ^ 62 := by rw [List.length_map]; omega
  refine ⟨rfl, .done ⟨rfl, ?_⟩⟩
  walk_at "GO"
  rw [show Int.toNat (((k.st.map Stt.pv).length : Nat) : Int) = k.st.length by rw [List.length_map]; rfl]
  refine rng_ind (fun i σ M => (∃ o1 o2, σ = [some (.ref w), o1, o2]) ∧ M = Wk.at M0 w a (Bp p) ((List.range i).foldl Wk.slp k)) ⟨⟨_, _, rfl⟩, rfl⟩ ?_ ?_
  · rintro σ M ⟨⟨o1, o2, rfl⟩, rfl⟩
    walk_at "GO"
    exact Qw.here hq
  · rintro i σ M hi ⟨⟨o1, o2, rfl⟩, rfl⟩ L hL
    obtain ⟨l1, l2⟩ := slp_len (k := k) (List.range i)
    rw [List.range_succ, List.foldl_append] at hL
    generalize (List.range i).foldl Wk.slp k = c at hL l1 l2
    have hi1 : i < c.st.length := by omega
    have hi2 : i < c.an.length := by omega
    have pi : pick (c.st.map Stt.pv) (0 + (i : Nat)) = some (gt c.st .ready i).pv := by rw [Int.zero_add]; exact pk .ready hi1
    have pj : place (c.st.map Stt.pv).length (0 + (i : Nat)) = some i := by rw [Int.zero_add]; exact pl hi1
    replace hL : ∀ σ M, ((∃ o1 o2, σ = [some (.ref w), o1, o2]) ∧ M = Wk.at M0 w a (Bp p) (c.slp i)) → L σ M := hL
    unfold Wk.slp at hL
    walk_at "GO"
    cases e : gt c.st .ready i with
    | ready =>
      rw [e] at hL
      walk_at "GO"
      exact hL _ _ ⟨⟨_, _, rfl⟩, rfl⟩
    | waits q =>
      rw [e] at hL
      walk_at "GO"
      exact hL _ _ ⟨⟨_, _, rfl⟩, rfl⟩
    | locked q =>
      rw [e] at hL
      walk_at "GO"
      exact hL _ _ ⟨⟨_, _, rfl⟩, rfl⟩
    | asleep j =>
      rw [e] at hL
      walk_at "GO"
      refine br_intro (fun c1 => ?_) fun c1 => ?_
      · have c2 := of_decide_eq_true c1
        simp only [if_pos c2] at hL
        walk_at "GO"
        rw [show (c.st.map Stt.pv).set i (.tup [.str "asleep", .int (j - 1)]) = (c.st.set i (.asleep (j - 1))).map Stt.pv by rw [List.map_set]; rfl, set_1 D]
        exact hL _ _ ⟨⟨_, _, rfl⟩, rfl⟩
      · have c2 := of_decide_eq_false c1
        simp only [if_neg c2] at hL
        walk_at "GO"
        rw [h57]
        refine ⟨M0, w, a, p, c, i, some "yes", by rw [Int.zero_add]; rfl, D, rfl, ⟨hi1, hi2⟩, ?_⟩
        walk_at "GO"
        exact hL _ _ ⟨⟨_, _, rfl⟩, rfl⟩
end HT
set_option Elab.async false
set_option linter.all false
set_option maxRecDepth 100000
set_option maxHeartbeats 1000000
namespace HT
open PySem PySem.Spec PyProof.Rows L2 Z
local macro_rules | `(tactic| walk_at "HL") => `(tactic| (first | assumption | exact put_same | exact at_w | exact at_1 (by assumption) | exact at_2 (by assumption) | exact at_3 (by assumption) | exact at_4 (by assumption) | exact at_5 (by assumption) | exact at_6 (by assumption) | exact at_7 (by assumption) | exact at_8 (by assumption) | (rw [put_ne (by first | assumption | (apply Ne.symm; assumption) | exact neN (at_w) (by assumption) | exact neN (at_1 (by assumption)) (by assumption) | exact neN (at_2 (by assumption)) (by assumption) | exact neN (at_3 (by assumption)) (by assumption) | exact neN (at_4 (by assumption)) (by assumption) | exact neN (at_5 (by assumption)) (by assumption) | exact neN (at_6 (by assumption)) (by assumption) | exact neN (at_7 (by assumption)) (by assumption) | exact neN (at_8 (by assumption)) (by assumption))]; first | assumption | exact put_same | exact at_w | exact at_1 (by assumption) | exact at_2 (by assumption) | exact at_3 (by assumption) | exact at_4 (by assumption) | exact at_5 (by assumption) | exact at_6 (by assumption) | exact at_7 (by assumption) | exact at_8 (by assumption) | (rw [put_ne (by first | assumption | (apply Ne.symm; assumption) | exact neN (at_w) (by assumption) | exact neN (at_1 (by assumption)) (by assumption) | exact neN (at_2 (by assumption)) (by assumption) | exact neN (at_3 (by assumption)) (by assumption) | exact neN (at_4 (by assumption)) (by assumption) | exact neN (at_5 (by assumption)) (by assumption) | exact neN (at_6 (by assumption)) (by assumption) | exact neN (at_7 (by assumption)) (by assumption) | exact neN (at_8 (by assumption)) (by assumption))]; first | assumption | exact put_same | exact at_w | exact at_1 (by assumption) | exact at_2 (by assumption) | exact at_3 (by assumption) | exact at_4 (by assumption) | exact at_5 (by assumption) | exact at_6 (by assumption) | exact at_7 (by assumption) | exact at_8 (by assumption) | (rw [put_ne (by first | assumption | (apply Ne.symm; assumption) | exact neN (at_w) (by assumption) | exact neN (at_1 (by assumption)) (by assumption) | exact neN (at_2 (by assumption)) (by assumption) | exact neN (at_3 (by assumption)) (by assumption) | exact neN (at_4 (by assumption)) (by assumption) | exact neN (at_5 (by assumption)) (by assumption) | exact neN (at_6 (by assumption)) (by assumption) | exact neN (at_7 (by assumption)) (by assumption) | exact neN (at_8 (by assumption)) (by assumption))]; first | assumption | exact put_same | exact at_w | exact at_1 (by assumption) | exact at_2 (by assumption) | exact at_3 (by assumption) | exact at_4 (by assumption) | exact at_5 (by assumption) | exact at_6 (by assumption) | exact at_7 (by assumption) | exact at_8 (by assumption))))))
local macro_rules | `(tactic| walk_at "ONE") => `(tactic| (first | (refine And.intro rfl ?_; (conv => whnf)) | (refine Exists.intro _ (Exists.intro _ (Exists.intro _ (Exists.intro _ (And.intro (by walk_at "HL") (And.intro (by assumption) (And.intro rfl ?_)))))); (conv => whnf)) | (refine Exists.intro _ (Exists.intro _ (Exists.intro _ (And.intro (by walk_at "HL") (And.intro (DSet.old (by assumption) (by decide +kernel) (by decide +kernel)) ?_)))); (conv => whnf)) | (refine Exists.intro _ (Exists.intro _ (Exists.intro _ (And.intro (by walk_at "HL") (And.intro (DSet.new (by decide +kernel) (by decide +kernel)) ?_)))); (conv => whnf)) | (refine And.intro True.intro ?_; (conv => whnf)) | (refine And.intro (Exists.intro _ (by walk_at "HL")) ?_; (conv => whnf)) | (refine And.intro (by walk_at "HL") ?_; (conv => whnf)) | (refine And.intro (And.intro rfl rfl) ?_; (conv => whnf)) | (refine And.intro (Nat.le_of_ble_eq_true rfl) ?_; (conv => whnf)) | (refine And.intro (by decide) ?_; (conv => whnf)) | (refine And.intro (by omega) ?_; (conv => whnf)) | (refine Exists.intro _ (And.intro (by walk_at "HL") ?_); (conv => whnf)) | (refine Exists.intro _ (And.intro rfl ?_); (conv => whnf)) | (refine Exists.intro _ (Exists.intro _ (And.intro (by walk_at "HL") (And.intro rfl ?_))); (conv => whnf)) | (refine Exists.intro _ (Exists.intro _ (And.intro (by walk_at "HL") (And.intro (And.intro (by decide) rfl) ?_))); (conv => whnf)) | (refine Exists.intro _ (Exists.intro _ (And.intro rfl (And.intro rfl ?_))); (conv => whnf)) | (refine Exists.intro _ (Exists.intro _ (And.intro (by walk_at "HL") (And.intro (by walk_at "HL") ?_))); (conv => whnf)) | (refine Exists.intro _ (And.intro (by walk_at "HL") (And.intro (by decide) ?_)); (conv => whnf)) | (refine br_t rfl ?_; (conv => whnf)) | (refine br_f rfl ?_; (conv => whnf)) | (refine And.intro (And.intro (by decide +kernel) (by decide +kernel)) ?_; (conv => whnf)) | (refine br_t (by decide +kernel) ?_; (conv => whnf)) | (refine br_f (by decide +kernel) ?_; (conv => whnf))))
local macro_rules | `(tactic| walk_at "ONI") => `(tactic| (first | (refine Qw.here ?_; (conv => whnf)) | (refine br_t (decide_eq_true (by omega)) ?_; (conv => whnf)) | (refine br_f (decide_eq_false (by omega)) ?_; (conv => whnf)) | (refine And.intro rfl ?_; (conv => whnf)) | (refine Exists.intro _ (Exists.intro _ (Exists.intro _ (Exists.intro _ (And.intro (by walk_at "HL") (And.intro (by assumption) (And.intro rfl ?_)))))); (conv => whnf)) | (refine Exists.intro _ (Exists.intro _ (Exists.intro _ (And.intro (by walk_at "HL") (And.intro (DSet.old (by assumption) (by decide +kernel) (by decide +kernel)) ?_)))); (conv => whnf)) | (refine Exists.intro _ (Exists.intro _ (Exists.intro _ (And.intro (by walk_at "HL") (And.intro (DSet.new (by decide +kernel) (by decide +kernel)) ?_)))); (conv => whnf)) | (refine And.intro True.intro ?_; (conv => whnf)) | (refine And.intro (Exists.intro _ (by walk_at "HL")) ?_; (conv => whnf)) | (refine And.intro (by walk_at "HL") ?_; (conv => whnf)) | (refine And.intro (And.intro rfl rfl) ?_; (conv => whnf)) | (refine And.intro (Nat.le_of_ble_eq_true rfl) ?_; (conv => whnf)) | (refine And.intro (by decide) ?_; (conv => whnf)) | (refine And.intro (by omega) ?_; (conv => whnf)) | (refine Exists.intro _ (And.intro (by walk_at "HL") ?_); (conv => whnf)) | (refine Exists.intro _ (And.intro rfl ?_); (conv => whnf)) | (refine Exists.intro _ (Exists.intro _ (And.intro (by walk_at "HL") (And.intro rfl ?_))); (conv => whnf)) | (refine Exists.intro _ (Exists.intro _ (And.intro (by walk_at "HL") (And.intro (And.intro (by decide) rfl) ?_))); (conv => whnf)) | (refine Exists.intro _ (Exists.intro _ (And.intro rfl (And.intro rfl ?_))); (conv => whnf)) | (refine Exists.intro _ (Exists.intro _ (And.intro (by walk_at "HL") (And.intro (by walk_at "HL") ?_))); (conv => whnf)) | (refine Exists.intro _ (And.intro (by walk_at "HL") (And.intro (by decide) ?_)); (conv => whnf)) | (refine br_t rfl ?_; (conv => whnf)) | (refine br_f rfl ?_; (conv => whnf)) | (refine And.intro (And.intro (by decide +kernel) (by decide +kernel)) ?_; (conv => whnf)) | (refine br_t (by decide +kernel) ?_; (conv => whnf)) | (refine br_f (by decide +kernel) ?_; (conv => whnf))))
local macro_rules | `(tactic| walk_at "GO") => `(tactic| (((try (conv => whnf)); repeat (walk_at "ONE"))))
local macro_rules | `(tactic| walk_at "GI") => `(tactic| (((conv => whnf); repeat (walk_at "ONI"))))
local macro_rules | `(tactic| walk_at "BB") => `(tactic| (first | rfl | (simp only [Bool.and_eq_true, Bool.or_eq_true, Bool.not_eq_true', Bool.and_eq_false_iff, Bool.not_eq_false', decide_eq_true_eq, decide_eq_false_iff_not, peq_int, List.length_map]; omega)))
theorem cut1 {x : PV} {xs : List PV} : cut (x :: xs) (some 1) none = xs := by
  unfold cut HT.sIx
  simp
theorem okDs_of {n : Nat} : ∀ {xs : List PV}, (∀ x ∈ xs, okD n x = true) → okDs n xs = true
  | [], _ => rfl
  | x :: xs, h => by
    show (okD n x && okDs n xs) = true
    rw [h x (by simp), okDs_of fun y hy => h y (by simp [hy])]; rfl
theorem okD_rgt {s : Str} {i : Int} (h : PyData.strOk s = true) : okD 40 (rgt s i) = true := by
  show (PyData.strOk s && (true && true)) = true
  rw [h]; rfl
theorem okR {p : Pt} {row : List PV} (h : row.Sublist (pool p.ts.length p.ps.length p.qs.length p.nl p.dk)) : okDs 40 row = true := okDs_of fun x hx => by
  obtain ⟨s, k, b, i, ⟨rfl, h1, _⟩⟩ := pool_mem (h.subset hx)
  exact okD_rgt h1
/-- a right of a task, as it is asked -/
theorem okRt {p : Pt} {k : Wk} {t : Nat} (ok : k.Ok p) (h : t < k.rr.length) : okDs 40 (gt k.rr [] t) = true := okR (ok.r2 _ (gt_mem h))
theorem ls_at {p : Pt} (po : p.Ok) {i : Nat} (h : i < p.ps.length) : gt p.ls .non i = .non ∨ gt p.ls .non i = .int 0 ∨ gt p.ls .non i = .int 1 := po.s2 _ (gt_mem (by rw [po.s1]; exact h))
def sp_page (f : Cl → Prop) : ZSp := fun vs M Q _ => ∃ (M0 : Mh) (w : Addr) (a : W8) (p : Pt) (k : Wk) (t : Nat) (c : Cl), vs = [.ref w, nI t, c.pv] ∧ Dis M0 w a ∧ M = Wk.at M0 w a (Bp p) k ∧ WkPre p k t ∧ c.Ok p ∧ f c ∧ Q (eA (k.ans p t c).2) (Wk.at M0 w a (Bp p) (k.ans p t c).1)
def isPage : Cl → Prop
  | .read _ => True
  | .write _ _ => True
  | _ => False
theorem sl8 {xs : List (Option Nat)} {z i : Nat} : (xs.map eO).set z (PV.int (i : Int)) = (xs.set z (some i)).map eO := by rw [List.map_set]
theorem o_page (Φ : Nat → ZSp) (vs : List PV) (M : Mh) (Q : ZQ) (E : ZX) (h : sp_page isPage vs M Q E) : vs.length = 3 ∧ Reach M fun M1 => inl Φ 5 3 b_page_answer vs M1 Q E := by
  obtain ⟨M0, w, a, p, k, t, c, rfl, D, rfl, ⟨ok, po, ht⟩, co, fc, hq⟩ := h
  have ht3 : t < k.rr.length := by rw [ok.r1]; exact ht
  have p3 := pk (f := PV.tup) [] ht3
  have n1 := ok.n1
  have okr := okRt ok ht3
  have q0 : place (k.ln.map eO).length 0 = some 0 := by rw [List.length_map, n1]; rfl
  have q1 : place (k.ln.map eO).length 1 = some 1 := by rw [List.length_map, n1]; rfl
  refine ⟨rfl, .done ⟨rfl, ?_⟩⟩
  cases c with
  | read i =>
    have hi : i < p.ps.length := co
    have pl0 : pick p.ls (i : Int) = some (gt p.ls .non i) := gt_some (by rw [po.s1]; exact hi)
    have hpg : i < k.pg.length := by rw [ok.p1]; exact hi
    have p5 := pk (f := PV.int) 0 hpg
    have lg : (gt k.pg 0 i).natAbs.log2 < 1920 := dS_log (by have := ok.p2 _ (gt_mem (d := 0) hpg); omega)
    have hq' : Q (eA (k.read p t i).2) (Wk.at M0 w a (Bp p) (k.read p t i).1) := hq
    unfold Wk.read at hq'
    walk_at "GO"
    refine ⟨⟨okD_rgt (by decide +kernel), okr⟩, ?_⟩
    walk_at "GO"
    refine br_intro (fun c => ?_) fun c => ?_
    · have c' : hasR (gt k.rr [] t) "read" i = false := by simpa using c
      simp only [c', Bool.false_eq_true, if_false] at hq'
      walk_at "GO"
      exact Qw.here hq'
    · have c' : hasR (gt k.rr [] t) "read" i = true := by simpa using c
      simp only [c', if_true] at hq'
      unfold Wk.touch at hq'
      walk_at "GO"
      rcases ls_at po hi with e | e | e
      all_goals
        rw [e] at hq' ⊢
        walk_at "GO"
        try (rw [sl8, set_8 D]; walk_at "GO")
        exact Qw.here hq'
  | write i v =>
    obtain ⟨hi, hv⟩ := co
    have pl0 : pick p.ls (i : Int) = some (gt p.ls .non i) := gt_some (by rw [po.s1]; exact hi)
    have hpg : i < k.pg.length := by rw [ok.p1]; exact hi
    have p5 := pl (f := PV.int) hpg
    have hq' : Q (eA (k.write p t i v).2) (Wk.at M0 w a (Bp p) (k.write p t i v).1) := hq
    unfold Wk.write at hq'
    walk_at "GO"
    refine ⟨⟨okD_rgt (by decide +kernel), okr⟩, ?_⟩
    walk_at "GO"
    refine br_intro (fun c => ?_) fun c => ?_
    · have c' : hasR (gt k.rr [] t) "write" i = false := by simpa using c
      simp only [c', Bool.false_eq_true, if_false] at hq'
      walk_at "GO"
      exact Qw.here hq'
    · have c' : hasR (gt k.rr [] t) "write" i = true := by simpa using c
      simp only [c', if_true] at hq'
      unfold Wk.touch at hq'
      walk_at "GO"
      rcases ls_at po hi with e | e | e
      all_goals
        rw [e] at hq' ⊢
        walk_at "GO"
        try (rw [sl8, set_8 D]; walk_at "GO")
        rw [← List.map_set, set_5 D]
        exact Qw.here hq'
  | _ => exact False.elim fc
end HT
set_option Elab.async false
set_option linter.all false
set_option maxRecDepth 100000
set_option maxHeartbeats 1000000
namespace HT
open PySem PySem.Spec PyProof.Rows L2 Z
local macro_rules | `(tactic| walk_at "HL") => `(tactic| (first | assumption | exact put_same | exact at_w | exact at_1 (by assumption) | exact at_2 (by assumption) | exact at_3 (by assumption) | exact at_4 (by assumption) | exact at_5 (by assumption) | exact at_6 (by assumption) | exact at_7 (by assumption) | exact at_8 (by assumption) | (rw [put_ne (by first | assumption | (apply Ne.symm; assumption) | exact neN (at_w) (by assumption) | exact neN (at_1 (by assumption)) (by assumption) | exact neN (at_2 (by assumption)) (by assumption) | exact neN (at_3 (by assumption)) (by assumption) | exact neN (at_4 (by assumption)) (by assumption) | exact neN (at_5 (by assumption)) (by assumption) | exact neN (at_6 (by assumption)) (by assumption) | exact neN (at_7 (by assumption)) (by assumption) | exact neN (at_8 (by assumption)) (by assumption))]; first | assumption | exact put_same | exact at_w | exact at_1 (by assumption) | exact at_2 (by assumption) | exact at_3 (by assumption) | exact at_4 (by assumption) | exact at_5 (by assumption) | exact at_6 (by assumption) | exact at_7 (by assumption) | exact at_8 (by assumption) | (rw [put_ne (by first | assumption | (apply Ne.symm; assumption) | exact neN (at_w) (by assumption) | exact neN (at_1 (by assumption)) (by assumption) | exact neN (at_2 (by assumption)) (by assumption) | exact neN (at_3 (by assumption)) (by assumption) | exact neN (at_4 (by assumption)) (by assumption) | exact neN (at_5 (by assumption)) (by assumption) | exact neN (at_6 (by assumption)) (by assumption) | exact neN (at_7 (by assumption)) (by assumption) | exact neN (at_8 (by assumption)) (by assumption))]; first | assumption | exact put_same | exact at_w | exact at_1 (by assumption) | exact at_2 (by assumption) | exact at_3 (by assumption) | exact at_4 (by assumption) | exact at_5 (by assumption) | exact at_6 (by assumption) | exact at_7 (by assumption) | exact at_8 (by assumption) | (rw [put_ne (by first | assumption | (apply Ne.symm; assumption) | exact neN (at_w) (by assumption) | exact neN (at_1 (by assumption)) (by assumption) | exact neN (at_2 (by assumption)) (by assumption) | exact neN (at_3 (by assumption)) (by assumption) | exact neN (at_4 (by assumption)) (by assumption) | exact neN (at_5 (by assumption)) (by assumption) | exact neN (at_6 (by assumption)) (by assumption) | exact neN (at_7 (by assumption)) (by assumption) | exact neN (at_8 (by assumption)) (by assumption))]; first | assumption | exact put_same | exact at_w | exact at_1 (by assumption) | exact at_2 (by assumption) | exact at_3 (by assumption) | exact at_4 (by assumption) | exact at_5 (by assumption) | exact at_6 (by assumption) | exact at_7 (by assumption) | exact at_8 (by assumption))))))
local macro_rules | `(tactic| walk_at "ONE") => `(tactic| (first | (refine And.intro rfl ?_; (conv => whnf)) | (refine Exists.intro _ (Exists.intro _ (Exists.intro _ (Exists.intro _ (And.intro (by walk_at "HL") (And.intro (by assumption) (And.intro rfl ?_)))))); (conv => whnf)) | (refine Exists.intro _ (Exists.intro _ (Exists.intro _ (And.intro (by walk_at "HL") (And.intro (DSet.old (by assumption) (by decide +kernel) (by decide +kernel)) ?_)))); (conv => whnf)) | (refine Exists.intro _ (Exists.intro _ (Exists.intro _ (And.intro (by walk_at "HL") (And.intro (DSet.new (by decide +kernel) (by decide +kernel)) ?_)))); (conv => whnf)) | (refine And.intro True.intro ?_; (conv => whnf)) | (refine And.intro (Exists.intro _ (by walk_at "HL")) ?_; (conv => whnf)) | (refine And.intro (by walk_at "HL") ?_; (conv => whnf)) | (refine And.intro (And.intro rfl rfl) ?_; (conv => whnf)) | (refine And.intro (Nat.le_of_ble_eq_true rfl) ?_; (conv => whnf)) | (refine And.intro (by decide) ?_; (conv => whnf)) | (refine And.intro (by omega) ?_; (conv => whnf)) | (refine Exists.intro _ (And.intro (by walk_at "HL") ?_); (conv => whnf)) | (refine Exists.intro _ (And.intro rfl ?_); (conv => whnf)) | (refine Exists.intro _ (Exists.intro _ (And.intro (by walk_at "HL") (And.intro rfl ?_))); (conv => whnf)) | (refine Exists.intro _ (Exists.intro _ (And.intro (by walk_at "HL") (And.intro (And.intro (by decide) rfl) ?_))); (conv => whnf)) | (refine Exists.intro _ (Exists.intro _ (And.intro rfl (And.intro rfl ?_))); (conv => whnf)) | (refine Exists.intro _ (Exists.intro _ (And.intro (by walk_at "HL") (And.intro (by walk_at "HL") ?_))); (conv => whnf)) | (refine Exists.intro _ (And.intro (by walk_at "HL") (And.intro (by decide) ?_)); (conv => whnf)) | (refine br_t rfl ?_; (conv => whnf)) | (refine br_f rfl ?_; (conv => whnf)) | (refine And.intro (And.intro (by decide +kernel) (by decide +kernel)) ?_; (conv => whnf)) | (refine br_t (by decide +kernel) ?_; (conv => whnf)) | (refine br_f (by decide +kernel) ?_; (conv => whnf))))
local macro_rules | `(tactic| walk_at "ONI") => `(tactic| (first | (refine Qw.here ?_; (conv => whnf)) | (refine br_t (decide_eq_true (by omega)) ?_; (conv => whnf)) | (refine br_f (decide_eq_false (by omega)) ?_; (conv => whnf)) | (refine And.intro rfl ?_; (conv => whnf)) | (refine Exists.intro _ (Exists.intro _ (Exists.intro _ (Exists.intro _ (And.intro (by walk_at "HL") (And.intro (by assumption) (And.intro rfl ?_)))))); (conv => whnf)) | (refine Exists.intro _ (Exists.intro _ (Exists.intro _ (And.intro (by walk_at "HL") (And.intro (DSet.old (by assumption) (by decide +kernel) (by decide +kernel)) ?_)))); (conv => whnf)) | (refine Exists.intro _ (Exists.intro _ (Exists.intro _ (And.intro (by walk_at "HL") (And.intro (DSet.new (by decide +kernel) (by decide +kernel)) ?_)))); (conv => whnf)) | (refine And.intro True.intro ?_; (conv => whnf)) | (refine And.intro (Exists.intro _ (by walk_at "HL")) ?_; (conv => whnf)) | (refine And.intro (by walk_at "HL") ?_; (conv => whnf)) | (refine And.intro (And.intro rfl rfl) ?_; (conv => whnf)) | (refine And.intro (Nat.le_of_ble_eq_true rfl) ?_; (conv => whnf)) | (refine And.intro (by decide) ?_; (conv => whnf)) | (refine And.intro (by omega) ?_; (conv => whnf)) | (refine Exists.intro _ (And.intro (by walk_at "HL") ?_); (conv => whnf)) | (refine Exists.intro _ (And.intro rfl ?_); (conv => whnf)) | (refine Exists.intro _ (Exists.intro _ (And.intro (by walk_at "HL") (And.intro rfl ?_))); (conv => whnf)) | (refine Exists.intro _ (Exists.intro _ (And.intro (by walk_at "HL") (And.intro (And.intro (by decide) rfl) ?_))); (conv => whnf)) | (refine Exists.intro _ (Exists.intro _ (And.intro rfl (And.intro rfl ?_))); (conv => whnf)) | (refine Exists.intro _ (Exists.intro _ (And.intro (by walk_at "HL") (And.intro (by walk_at "HL") ?_))); (conv => whnf)) | (refine Exists.intro _ (And.intro (by walk_at "HL") (And.intro (by decide) ?_)); (conv => whnf)) | (refine br_t rfl ?_; (conv => whnf)) | (refine br_f rfl ?_; (conv => whnf)) | (refine And.intro (And.intro (by decide +kernel) (by decide +kernel)) ?_; (conv => whnf)) | (refine br_t (by decide +kernel) ?_; (conv => whnf)) | (refine br_f (by decide +kernel) ?_; (conv => whnf))))
local macro_rules | `(tactic| walk_at "GO") => `(tactic| (((try (conv => whnf)); repeat (walk_at "ONE"))))
local macro_rules | `(tactic| walk_at "GI") => `(tactic| (((conv => whnf); repeat (walk_at "ONI"))))
local macro_rules | `(tactic| walk_at "BB") => `(tactic| (first | rfl | (simp only [Bool.and_eq_true, Bool.or_eq_true, Bool.not_eq_true', Bool.and_eq_false_iff, Bool.not_eq_false', decide_eq_true_eq, decide_eq_false_iff_not, peq_int, List.length_map]; omega)))
theorem wh_ind {c : Zs → Mh → (Bool → Mh → Prop) → Prop} {body : ZD → Zs → Mh → Prop} {D : ZD} {σ : Zs} {M : Mh} (I : Nat → Zs → Mh → Prop) (n : Nat) (h0 : I n σ M)
    (hs : ∀ n σ M, I n σ M → ∀ L : Zs → Mh → Prop, (∀ σ M, (∃ m, n = m + 1 ∧ I m σ M) → L σ M) → c σ M fun b M1 => br b (body { D with nx := L, ct := L, bk := D.nx } σ M1) (D.nx σ M1)) : ∃ n, whileN c body D n σ M := by
  refine ⟨n + 1, ?_⟩
  induction n generalizing σ M with
  | zero => exact hs 0 σ M h0 _ fun σ' M' ⟨m, e, _⟩ => by omega
  | succ n ih => exact hs (n + 1) σ M h0 _ fun σ' M' ⟨m, e, h⟩ => by obtain rfl : m = n := by omega
                                                                     exact ih h
abbrev snd2 : PV → PV
  | .tup [_, b] => b
  | _ => .non
def sp_slot_at : ZSp := fun vs M Q _ => ∃ (p : Pt) (ph : Int), vs = [Bp p, .int ph] ∧ p.Ok ∧ isLevels p.pl = false ∧ 0 ≤ ph ∧ Q (.tup [.int (slotAt p ph).1, .int (slotAt p ph).2.1, .int (slotAt p ph).2.2]) M
theorem o_slot_at (Φ : Nat → ZSp) (vs : List PV) (M : Mh) (Q : ZQ) (E : ZX) (h : sp_slot_at vs M Q E) : vs.length = 2 ∧ Reach M fun M1 => inl Φ 7 2 b_slot_at vs M1 Q E := by
  obtain ⟨p, ph, rfl, po, lv, h0, hq⟩ := h
  rcases plan_lv po.g1 with ⟨e1, _⟩ | ⟨e1, rows, rl, rr, ep, e2⟩
  · rw [e1] at lv; cases lv
  have er : slotRows p.pl = rows := by rw [ep]; exact slotRows_eq
  have r1 : ∀ r ∈ rows, 1 ≤ r.2 := fun r hr => (rr r hr).2.1
  have sp := sum_pos rl.1 r1
  refine ⟨rfl, .done ⟨rfl, ?_⟩⟩
  unfold slotAt at hq
  rw [er] at hq
  walk_at "GO"
  rw [e2]
  walk_at "GO"
  intro D hD
  refine lc_mapF snd2 hD (by rw [List.length_map]; omega) (fun _ => trivial) ?_ ?_
  · intro x hx acc kk hk
    obtain ⟨t, ht, rfl⟩ := List.mem_map.mp hx
    walk_at "GO"
    exact hk
  have ef : (rows.map pr2).map snd2 = (rows.map (·.2)).map PV.int := by rw [List.map_map, List.map_map]; rfl
  rw [ef]
  walk_at "GO"
  have g0 := Int.emod_nonneg ph (by omega : (rows.map (·.2)).sum ≠ 0)
  have g1 := Int.emod_lt_of_pos ph sp
  generalize ph % (rows.map (·.2)).sum = g at hq g0 g1
  refine wh_ind (fun n σ M' => ∃ (i : Nat) (g' : Int), n + i = rows.length ∧ 0 ≤ g' ∧ g' < ((rows.drop i).map (·.2)).sum ∧ slotGo rows g = slotGo (rows.drop i) g' ∧ σ = [some (Bp p), some (.int ph), some (.tup (rows.map pr2)), some (.int g'), some (.int (i : Int)), none, none] ∧ M' = M) rows.length ⟨0, g, rfl, g0, g1, rfl, rfl, rfl⟩ ?_
  rintro n σ M' ⟨i, g', h1, h3, h4, h5, rfl, rfl⟩ L hL
  have hi : i < rows.length := by
    rcases Nat.lt_or_ge i rows.length with h | h
    · exact h
    · rw [List.drop_eq_nil_of_le h] at h4; simp at h4; omega
  have pi := pk (f := pr2) (0, 0) hi
  rw [List.drop_eq_getElem_cons hi] at h4 h5
  have eg : rows[i] = gt rows (0, 0) i := by
    have := gt_some (d := ((0 : Int), (0 : Int))) hi
    rw [List.getElem?_eq_getElem hi] at this
    exact Option.some.inj this
  rw [eg] at h4 h5
  rw [List.map_cons, List.sum_cons] at h4
  rw [show slotGo (gt rows (0, 0) i :: rows.drop (i + 1)) g' = if (gt rows (0, 0) i).2 ≤ g' then slotGo (rows.drop (i + 1)) (g' - (gt rows (0, 0) i).2) else ((gt rows (0, 0) i).1, g', (gt rows (0, 0) i).2) from rfl] at h5
  walk_at "GO"
  refine br_intro (fun c => ?_) fun c => ?_
  · have c := of_decide_eq_true c
    rw [if_pos c] at h5
    walk_at "GO"
    exact hL _ _ ⟨n - 1, by omega, i + 1, _, by omega, by omega, by omega, h5, by rfl, rfl⟩
  · have c := of_decide_eq_false c
    rw [if_neg c] at h5
    rw [h5] at hq
    walk_at "GO"
    exact Qw.here hq
/-! ### changes -/
theorem at_no {M0 : Mh} {w : Addr} {a : W8} {b : PV} {k : Wk} {X : Addr} (h : Wk.at M0 w a b k X = none) : M0 X = none ∧ X ≠ w ∧ X ≠ a.a1 ∧ X ≠ a.a2 ∧ X ≠ a.a3 ∧ X ≠ a.a4 ∧ X ≠ a.a5 ∧ X ≠ a.a6 ∧ X ≠ a.a7 ∧ X ≠ a.a8 := by
  rw [at_def] at h
  obtain ⟨h0, h⟩ := none_put h
  obtain ⟨h8, h⟩ := none_put h
  obtain ⟨h7, h⟩ := none_put h
  obtain ⟨h6, h⟩ := none_put h
  obtain ⟨h5, h⟩ := none_put h
  obtain ⟨h4, h⟩ := none_put h
  obtain ⟨h3, h⟩ := none_put h
  obtain ⟨h2, h⟩ := none_put h
  obtain ⟨h1, h⟩ := none_put h
  exact ⟨h, h0, h1, h2, h3, h4, h5, h6, h7, h8⟩
theorem new_8 {M0 : Mh} {w : Addr} {a : W8} {b : PV} {k c : Wk} {X : Addr} (D : Dis M0 w a) (hX : Wk.at M0 w a b k X = none) (e : c.st = k.st ∧ c.an = k.an ∧ c.rr = k.rr ∧ c.fc = k.fc ∧ c.pg = k.pg ∧ c.lt = k.lt ∧ c.lk = k.lk) :
    Dis M0 w { a with a8 := X } ∧ MSub (Wk.at M0 w { a with a8 := X } b c) (put (put (Wk.at M0 w a b k) X (.lst (c.ln.map eO))) w (.ins 1 (c.flds b { a with a8 := X }))) := by
  obtain ⟨f, x0, x1, x2, x3, x4, x5, x6, x7, x8⟩ := at_no hX
  have D' : Dis M0 w { a with a8 := X } := by
    refine ⟨?_, ?_⟩
    · simp only [List.nodup_cons, List.mem_cons, List.not_mem_nil, or_false, not_or]
      exact ⟨⟨D.n01, D.n02, D.n03, D.n04, D.n05, D.n06, D.n07, Ne.symm x0⟩, ⟨D.n12, D.n13, D.n14, D.n15, D.n16, D.n17, Ne.symm x1⟩, ⟨D.n23, D.n24, D.n25, D.n26, D.n27, Ne.symm x2⟩, ⟨D.n34, D.n35, D.n36, D.n37, Ne.symm x3⟩, ⟨D.n45, D.n46, D.n47, Ne.symm x4⟩, ⟨D.n56, D.n57, Ne.symm x5⟩, ⟨D.n67, Ne.symm x6⟩, Ne.symm x7, fun z => z, List.nodup_nil⟩
    · intro y hy
      simp only [List.mem_cons, List.not_mem_nil, or_false] at hy
      rcases hy with rfl | rfl | rfl | rfl | rfl | rfl | rfl | rfl | rfl
      · exact D.fr _ (by simp)
      · exact D.fr _ (by simp)
      · exact D.fr _ (by simp)
      · exact D.fr _ (by simp)
      · exact D.fr _ (by simp)
      · exact D.fr _ (by simp)
      · exact D.fr _ (by simp)
      · exact D.fr _ (by simp)
      · exact f
  refine ⟨D', ?_⟩
  obtain ⟨e1, e2, e3, e4, e5, e6, e7⟩ := e
  rw [at_def, at_def, e1, e2, e3, e4, e5, e6, e7]
  intro y m h
  by_cases y0 : y = w
  · subst y0; rw [put_same] at h ⊢; exact h
  rw [put_ne y0] at h ⊢
  by_cases yX : y = X
  · subst yX
    rw [put_same] at h ⊢; exact h
  rw [put_ne yX] at h ⊢
  rw [put_ne y0]
  have y8 : y ≠ a.a8 := by
    rintro rfl
    rw [put_ne D.n87, put_ne D.n86, put_ne D.n85, put_ne D.n84, put_ne D.n83, put_ne D.n82, put_ne D.n81, D.fr a.a8 (by simp)] at h
    cases h
  rw [put_ne y8]
  exact h
def sp_change : ZSp := fun vs M Q _ => ∃ (M0 : Mh) (w : Addr) (a : W8) (p : Pt) (k : Wk) (t : Nat), vs = [.ref w, nI t] ∧ Dis M0 w a ∧ M = Wk.at M0 w a (Bp p) k ∧ WkPre p k t ∧ ∀ a', Dis M0 w a' → Q .non (Wk.at M0 w a' (Bp p) (k.change p t))
theorem o_change (Φ : Nat → ZSp) (vs : List PV) (M : Mh) (Q : ZQ) (E : ZX) (h : sp_change vs M Q E) : vs.length = 2 ∧ Reach M fun M1 => inl Φ 4 2 b_change vs M1 Q E := by
  obtain ⟨M0, w, a, p, k, t, rfl, D, rfl, ⟨ok, po, ht⟩, hq⟩ := h
  have pt := pk (f := pr2) (0, 0) ht
  refine ⟨rfl, .done ⟨rfl, ?_⟩⟩
  have yes : changes p k t = true → ∀ X, Wk.at M0 w a (Bp p) k X = none → Qw Q .non (put (put (Wk.at M0 w a (Bp p) k) X (.lst [.non, .non])) w (.ins 1 [some (Bp p), some (.ref a.a1), some (.ref a.a2), some (.ref a.a3), some (.ref a.a4), some (.ref a.a5), some (.ref a.a6), some (.ref a.a7), some (.ref X), some (.int k.pl), some (nI t), some (.int 0), some (.int k.bu), some (.int k.ph)])) := fun h X hX => by
    have := new_8 (c := k.change p t) D hX ⟨rfl, rfl, rfl, rfl, rfl, rfl, rfl⟩
    rw [show (k.change p t).ln = [none, none] by unfold Wk.change; rw [if_pos h]] at this
    exact Qw.by (Weak.sub this.2) (hq _ this.1)
  have no : changes p k t = false → Qw Q .non (put (Wk.at M0 w a (Bp p) k) w (.ins 1 [some (Bp p), some (.ref a.a1), some (.ref a.a2), some (.ref a.a3), some (.ref a.a4), some (.ref a.a5), some (.ref a.a6), some (.ref a.a7), some (.ref a.a8), some (.int k.pl), some (nI t), some (.int 0), some (.int k.bu), some (.int k.ph)])) := fun h => by
    rw [set_wt]
    have e : k.change p t = { k with ru := some t, sp := 0 } := by unfold Wk.change; rw [if_neg (by rw [h]; simp)]
    rw [e] at hq
    exact Qw.here (hq a D)
  clear hq
  unfold changes at yes no
  walk_at "GO"
  refine br_intro (fun c => ?_) fun c => ?_
  · rw [c, Bool.true_and] at yes no
    cases e : k.ru with
    | none =>
      rw [e] at yes no
      walk_at "GO"
      intro X hX
      have xw := (at_no hX).2.1
      walk_at "GO"
      repeat rw [put_put]
      simp only [List.set_cons_zero, List.set_cons_succ]
      exact yes rfl X hX
    | some b =>
      have pb := pk (f := pr2) (0, 0) (ok.u1 b e)
      rw [e] at yes no
      walk_at "GO"
      refine br_nint (fun c => ?_) fun c => ?_
      · have h : (sideOf p b != sideOf p t) = true := bne_iff_ne.mpr c
        walk_at "GO"
        intro X hX
        have xw := (at_no hX).2.1
        walk_at "GO"
        repeat rw [put_put]
        simp only [List.set_cons_zero, List.set_cons_succ]
        exact yes h X hX
      · have h : (sideOf p b != sideOf p t) = false := by
          have c : sideOf p b = sideOf p t := c
          rw [c]; simp
        walk_at "GO"
        repeat rw [put_put]
        simp only [List.set_cons_zero, List.set_cons_succ]
        exact no h
  · rw [c, Bool.false_and] at no
    walk_at "GO"
    repeat rw [put_put]
    simp only [List.set_cons_zero, List.set_cons_succ]
    exact no rfl
def sp_by_slots : ZSp := fun vs M Q _ => ∃ (M0 : Mh) (w : Addr) (a : W8) (p : Pt) (k : Wk), vs = [.ref w] ∧ Dis M0 w a ∧ M = Wk.at M0 w a (Bp p) k ∧ k.Ok p ∧ p.Ok ∧ isLevels p.pl = false ∧ ∀ a', Dis M0 w a' → Q (eO (k.bySlots p).2) (Wk.at M0 w a' (Bp p) (k.bySlots p).1)
theorem slot_mem {p : Pt} (po : p.Ok) (lv : isLevels p.pl = false) {ph : Int} (h0 : 0 ≤ ph) : ∃ t : Nat, t < p.ts.length ∧ (slotAt p ph).1 = t ∧ (slotAt p ph).1.toNat = t := by
  rcases plan_lv po.g1 with ⟨e1, _⟩ | ⟨e1, rows, rl, rr, ep, e2⟩
  · rw [e1] at lv; cases lv
  have er : slotRows p.pl = rows := by rw [ep]; exact slotRows_eq
  have r1 : ∀ r ∈ rows, 1 ≤ r.2 := fun r hr => (rr r hr).2.1
  have sp := sum_pos rl.1 r1
  unfold slotAt
  rw [er]
  obtain ⟨r, hr, e, _⟩ := slotGo_mem (Int.emod_nonneg ph (by omega)) (Int.emod_lt_of_pos ph sp) r1
  rw [e]
  have := (rr r hr).1
  exact ⟨r.1.toNat, by omega, by omega, rfl⟩
theorem o_by_slots (Φ : Nat → ZSp) (h77 : Φ 77 = sp_slot_at) (h80 : Φ 80 = sp_change) (vs : List PV) (M : Mh) (Q : ZQ) (E : ZX) (h : sp_by_slots vs M Q E) : vs.length = 1 ∧ Reach M fun M1 => inl Φ 4 1 b_turn_by_slots vs M1 Q E := by
  obtain ⟨M0, w, a, p, k, rfl, D, rfl, ok, po, lv, hq⟩ := h
  obtain ⟨t, ht, et, en⟩ := slot_mem po lv ok.ph
  refine ⟨rfl, .done ⟨rfl, ?_⟩⟩
  walk_at "GO"
  rw [h77]
  refine ⟨p, k.ph, rfl, po, lv, ok.ph, ?_⟩
  unfold Wk.bySlots Wk.slotK at hq
  rw [et]
  simp only [en] at hq
  generalize slotAt p k.ph = s at hq et
  obtain ⟨s1, g, n⟩ := s
  simp only at hq
  -- behind the change
  have rest : ∀ (k1 : Wk) (a' : W8), Dis M0 w a' → k1.st = k.st → (Q (eO (if gt k1.st .ready t ≠ .ready ∨ g < p.c2 ∨ n - g < costMost p then none else some t)) (Wk.at M0 w a' (Bp p) k1)) →
      semSs Φ (RR E) (.cons (.ife (.cmp .ne (.idx (.attr (.var 0) 1 1) (.var 1)) (.tup (.cons (.str "ready") .nil))) (.cons (.ret .non) .nil) .nil) (.cons (.ife (.bool false (.cons (.cmp .lt (.var 2) (.idx (.attr (.attr (.var 0) 1 0) 0 9) (.int 2))) (.cons (.cmp .lt (.bin .sub (.var 3) (.var 2)) (.attr (.attr (.var 0) 1 0) 0 18)) .nil))) (.cons (.ret .non) .nil) .nil) (.cons (.ret (.var 1)) .nil)))
        { nx := fun _ M' => Qw Q .non M', rt := Qw Q } [some (.ref w), some (nI t), some (.int g), some (.int n)] (Wk.at M0 w a' (Bp p) k1) := by
    intro k1 a' D' e1 hq
    have pst := pk (f := Stt.pv) .ready (show t < k1.st.length by rw [e1, ok.s1]; exact ht)
    walk_at "GO"
    refine ⟨⟨okD_stt, okD_stt (s := .ready)⟩, ?_⟩
    rw [show peq (gt k1.st .ready t).pv (.tup [.str "ready"]) = decide (gt k1.st .ready t = .ready) from stt_eq (u := .ready)]
    walk_at "GO"
    refine br_intro (fun c => ?_) fun c => ?_
    · have c' : gt k1.st .ready t ≠ .ready := by simpa using c
      rw [if_pos (.inl c')] at hq
      walk_at "GO"
      exact Qw.here hq
    · have c' : gt k1.st .ready t = .ready := by simpa using c
      walk_at "GO"
      refine br_intro (fun c => ?_) fun c => ?_
      · rw [if_pos (.inr (.inl (of_decide_eq_true c)))] at hq
        walk_at "GO"
        exact Qw.here hq
      · have c1 := of_decide_eq_false c
        walk_at "GO"
        refine br_intro (fun c => ?_) fun c => ?_
        · rw [if_pos (.inr (.inr (of_decide_eq_true c)))] at hq
          walk_at "GO"
          exact Qw.here hq
        · have c2 := of_decide_eq_false c
          rw [if_neg (by rintro (z | z | z); exact z c'; exact c1 z; exact c2 z)] at hq
          walk_at "GO"
          exact Qw.here hq
  walk_at "GO"
  refine br_int (fun c => ?_) fun c => ?_
  · have chg : k.ru ≠ some t → ∀ a', Dis M0 w a' → semSs Φ (RR E) (.cons (.ife (.cmp .ne (.idx (.attr (.var 0) 1 1) (.var 1)) (.tup (.cons (.str "ready") .nil))) (.cons (.ret .non) .nil) .nil) (.cons (.ife (.bool false (.cons (.cmp .lt (.var 2) (.idx (.attr (.attr (.var 0) 1 0) 0 9) (.int 2))) (.cons (.cmp .lt (.bin .sub (.var 3) (.var 2)) (.attr (.attr (.var 0) 1 0) 0 18)) .nil))) (.cons (.ret .non) .nil) .nil) (.cons (.ret (.var 1)) .nil)))
        { nx := fun _ M' => Qw Q .non M', rt := Qw Q } [some (.ref w), some (nI t), some (.int g), some (.int n)] (Wk.at M0 w a' (Bp p) (k.change p t)) := by
      intro hn a' D'
      simp only [if_pos (show g = 0 ∧ k.ru ≠ some t from ⟨c, hn⟩)] at hq
      exact rest _ a' D' rfl (hq a' D')
    walk_at "GO"
    cases e : k.ru with
    | none =>
      walk_at "GO"
      rw [h80]
      refine ⟨M0, w, a, p, k, t, rfl, D, rfl, ⟨ok, po, ht⟩, fun a' D' => ?_⟩
      exact chg (by rw [e]; simp) a' D'
    | some b =>
      walk_at "GO"
      refine br_nint (fun c2 => ?_) fun c2 => ?_
      · walk_at "GO"
        rw [h80]
        refine ⟨M0, w, a, p, k, t, rfl, D, rfl, ⟨ok, po, ht⟩, fun a' D' => ?_⟩
        exact chg (by rw [e]; intro z; cases z; exact c2 rfl) a' D'
      · simp only [if_neg (show ¬ (g = 0 ∧ k.ru ≠ some t) by rintro ⟨_, z⟩; rw [e] at z; exact z (by congr 1; omega))] at hq
        have r := rest _ a D rfl (hq a D)
        (conv at r => whnf)
        (conv => whnf)
        exact r
  · simp only [if_neg (show ¬ (g = 0 ∧ k.ru ≠ some t) by rintro ⟨z, _⟩; exact c z)] at hq
    have r := rest _ a D rfl (hq a D)
    (conv at r => whnf)
    (conv => whnf)
    refine br_f rfl ?_
    (conv => whnf)
    exact r
end HT
set_option Elab.async false
set_option linter.all false
set_option maxRecDepth 100000
set_option maxHeartbeats 1000000
namespace HT
open PySem PySem.Spec PyProof.Rows L2 Z
local macro_rules | `(tactic| walk_at "HL") => `(tactic| (first | assumption | exact put_same | exact at_w | exact at_1 (by assumption) | exact at_2 (by assumption) | exact at_3 (by assumption) | exact at_4 (by assumption) | exact at_5 (by assumption) | exact at_6 (by assumption) | exact at_7 (by assumption) | exact at_8 (by assumption) | (rw [put_ne (by first | assumption | (apply Ne.symm; assumption) | exact neN (at_w) (by assumption) | exact neN (at_1 (by assumption)) (by assumption) | exact neN (at_2 (by assumption)) (by assumption) | exact neN (at_3 (by assumption)) (by assumption) | exact neN (at_4 (by assumption)) (by assumption) | exact neN (at_5 (by assumption)) (by assumption) | exact neN (at_6 (by assumption)) (by assumption) | exact neN (at_7 (by assumption)) (by assumption) | exact neN (at_8 (by assumption)) (by assumption))]; first | assumption | exact put_same | exact at_w | exact at_1 (by assumption) | exact at_2 (by assumption) | exact at_3 (by assumption) | exact at_4 (by assumption) | exact at_5 (by assumption) | exact at_6 (by assumption) | exact at_7 (by assumption) | exact at_8 (by assumption) | (rw [put_ne (by first | assumption | (apply Ne.symm; assumption) | exact neN (at_w) (by assumption) | exact neN (at_1 (by assumption)) (by assumption) | exact neN (at_2 (by assumption)) (by assumption) | exact neN (at_3 (by assumption)) (by assumption) | exact neN (at_4 (by assumption)) (by assumption) | exact neN (at_5 (by assumption)) (by assumption) | exact neN (at_6 (by assumption)) (by assumption) | exact neN (at_7 (by assumption)) (by assumption) | exact neN (at_8 (by assumption)) (by assumption))]; first | assumption | exact put_same | exact at_w | exact at_1 (by assumption) | exact at_2 (by assumption) | exact at_3 (by assumption) | exact at_4 (by assumption) | exact at_5 (by assumption) | exact at_6 (by assumption) | exact at_7 (by assumption) | exact at_8 (by assumption) | (rw [put_ne (by first | assumption | (apply Ne.symm; assumption) | exact neN (at_w) (by assumption) | exact neN (at_1 (by assumption)) (by assumption) | exact neN (at_2 (by assumption)) (by assumption) | exact neN (at_3 (by assumption)) (by assumption) | exact neN (at_4 (by assumption)) (by assumption) | exact neN (at_5 (by assumption)) (by assumption) | exact neN (at_6 (by assumption)) (by assumption) | exact neN (at_7 (by assumption)) (by assumption) | exact neN (at_8 (by assumption)) (by assumption))]; first | assumption | exact put_same | exact at_w | exact at_1 (by assumption) | exact at_2 (by assumption) | exact at_3 (by assumption) | exact at_4 (by assumption) | exact at_5 (by assumption) | exact at_6 (by assumption) | exact at_7 (by assumption) | exact at_8 (by assumption))))))
local macro_rules | `(tactic| walk_at "ONE") => `(tactic| (first | (refine And.intro rfl ?_; (conv => whnf)) | (refine Exists.intro _ (Exists.intro _ (Exists.intro _ (Exists.intro _ (And.intro (by walk_at "HL") (And.intro (by assumption) (And.intro rfl ?_)))))); (conv => whnf)) | (refine Exists.intro _ (Exists.intro _ (Exists.intro _ (And.intro (by walk_at "HL") (And.intro (DSet.old (by assumption) (by decide +kernel) (by decide +kernel)) ?_)))); (conv => whnf)) | (refine Exists.intro _ (Exists.intro _ (Exists.intro _ (And.intro (by walk_at "HL") (And.intro (DSet.new (by decide +kernel) (by decide +kernel)) ?_)))); (conv => whnf)) | (refine And.intro True.intro ?_; (conv => whnf)) | (refine And.intro (Exists.intro _ (by walk_at "HL")) ?_; (conv => whnf)) | (refine And.intro (by walk_at "HL") ?_; (conv => whnf)) | (refine And.intro (And.intro rfl rfl) ?_; (conv => whnf)) | (refine And.intro (Nat.le_of_ble_eq_true rfl) ?_; (conv => whnf)) | (refine And.intro (by decide) ?_; (conv => whnf)) | (refine And.intro (by omega) ?_; (conv => whnf)) | (refine Exists.intro _ (And.intro (by walk_at "HL") ?_); (conv => whnf)) | (refine Exists.intro _ (And.intro rfl ?_); (conv => whnf)) | (refine Exists.intro _ (Exists.intro _ (And.intro (by walk_at "HL") (And.intro rfl ?_))); (conv => whnf)) | (refine Exists.intro _ (Exists.intro _ (And.intro (by walk_at "HL") (And.intro (And.intro (by decide) rfl) ?_))); (conv => whnf)) | (refine Exists.intro _ (Exists.intro _ (And.intro rfl (And.intro rfl ?_))); (conv => whnf)) | (refine Exists.intro _ (Exists.intro _ (And.intro (by walk_at "HL") (And.intro (by walk_at "HL") ?_))); (conv => whnf)) | (refine Exists.intro _ (And.intro (by walk_at "HL") (And.intro (by decide) ?_)); (conv => whnf)) | (refine br_t rfl ?_; (conv => whnf)) | (refine br_f rfl ?_; (conv => whnf)) | (refine And.intro (And.intro (by decide +kernel) (by decide +kernel)) ?_; (conv => whnf)) | (refine br_t (by decide +kernel) ?_; (conv => whnf)) | (refine br_f (by decide +kernel) ?_; (conv => whnf))))
local macro_rules | `(tactic| walk_at "ONI") => `(tactic| (first | (refine Qw.here ?_; (conv => whnf)) | (refine br_t (decide_eq_true (by omega)) ?_; (conv => whnf)) | (refine br_f (decide_eq_false (by omega)) ?_; (conv => whnf)) | (refine And.intro rfl ?_; (conv => whnf)) | (refine Exists.intro _ (Exists.intro _ (Exists.intro _ (Exists.intro _ (And.intro (by walk_at "HL") (And.intro (by assumption) (And.intro rfl ?_)))))); (conv => whnf)) | (refine Exists.intro _ (Exists.intro _ (Exists.intro _ (And.intro (by walk_at "HL") (And.intro (DSet.old (by assumption) (by decide +kernel) (by decide +kernel)) ?_)))); (conv => whnf)) | (refine Exists.intro _ (Exists.intro _ (Exists.intro _ (And.intro (by walk_at "HL") (And.intro (DSet.new (by decide +kernel) (by decide +kernel)) ?_)))); (conv => whnf)) | (refine And.intro True.intro ?_; (conv => whnf)) | (refine And.intro (Exists.intro _ (by walk_at "HL")) ?_; (conv => whnf)) | (refine And.intro (by walk_at "HL") ?_; (conv => whnf)) | (refine And.intro (And.intro rfl rfl) ?_; (conv => whnf)) | (refine And.intro (Nat.le_of_ble_eq_true rfl) ?_; (conv => whnf)) | (refine And.intro (by decide) ?_; (conv => whnf)) | (refine And.intro (by omega) ?_; (conv => whnf)) | (refine Exists.intro _ (And.intro (by walk_at "HL") ?_); (conv => whnf)) | (refine Exists.intro _ (And.intro rfl ?_); (conv => whnf)) | (refine Exists.intro _ (Exists.intro _ (And.intro (by walk_at "HL") (And.intro rfl ?_))); (conv => whnf)) | (refine Exists.intro _ (Exists.intro _ (And.intro (by walk_at "HL") (And.intro (And.intro (by decide) rfl) ?_))); (conv => whnf)) | (refine Exists.intro _ (Exists.intro _ (And.intro rfl (And.intro rfl ?_))); (conv => whnf)) | (refine Exists.intro _ (Exists.intro _ (And.intro (by walk_at "HL") (And.intro (by walk_at "HL") ?_))); (conv => whnf)) | (refine Exists.intro _ (And.intro (by walk_at "HL") (And.intro (by decide) ?_)); (conv => whnf)) | (refine br_t rfl ?_; (conv => whnf)) | (refine br_f rfl ?_; (conv => whnf)) | (refine And.intro (And.intro (by decide +kernel) (by decide +kernel)) ?_; (conv => whnf)) | (refine br_t (by decide +kernel) ?_; (conv => whnf)) | (refine br_f (by decide +kernel) ?_; (conv => whnf))))
local macro_rules | `(tactic| walk_at "GO") => `(tactic| (((try (conv => whnf)); repeat (walk_at "ONE"))))
local macro_rules | `(tactic| walk_at "GI") => `(tactic| (((conv => whnf); repeat (walk_at "ONI"))))
local macro_rules | `(tactic| walk_at "BB") => `(tactic| (first | rfl | (simp only [Bool.and_eq_true, Bool.or_eq_true, Bool.not_eq_true', Bool.and_eq_false_iff, Bool.not_eq_false', decide_eq_true_eq, decide_eq_false_iff_not, peq_int, List.length_map]; omega)))
def isSend : Cl → Prop
  | .send _ _ => True
  | _ => False
theorem o_send (Φ : Nat → ZSp) (h59 : Φ 59 = sp_firstW) (h61 : Φ 61 = sp_deliver) (vs : List PV) (M : Mh) (Q : ZQ) (E : ZX) (h : sp_page isSend vs M Q E) : vs.length = 3 ∧ Reach M fun M1 => inl Φ 5 3 b_send_answer vs M1 Q E := by
  obtain ⟨M0, w, a, p, k, t, c, rfl, D, rfl, ⟨ok, po, ht⟩, co, fc, hq⟩ := h
  have ht3 : t < k.rr.length := by rw [ok.r1]; exact ht
  have p3 := pk (f := PV.tup) [] ht3
  have okr := okRt ok ht3
  have s1 := ok.s1
  have t1 := po.t1
  refine ⟨rfl, .done ⟨rfl, ?_⟩⟩
  cases c with
  | send q v =>
    obtain ⟨hqq, hv⟩ := co
    have hq2 : q < k.lt.length := by rw [ok.l1]; exact hqq
    have p6 := pk (f := eL) [] hq2
    have p8 := pk (f := PV.int) 0 hqq
    have hq' : Q (eA (k.send p t q v).2) (Wk.at M0 w a (Bp p) (k.send p t q v).1) := hq
    unfold Wk.send at hq'
    walk_at "GO"
    refine ⟨⟨okD_rgt (by decide +kernel), okr⟩, ?_⟩
    walk_at "GO"
    refine br_intro (fun c => ?_) fun c => ?_
    · have c' : hasR (gt k.rr [] t) "send" q = false := by simpa using c
      simp only [c', Bool.false_eq_true, if_false] at hq'
      walk_at "GO"
      exact Qw.here hq'
    · have c' : hasR (gt k.rr [] t) "send" q = true := by simpa using c
      simp only [c', if_true] at hq'
      walk_at "GO"
      rw [List.length_map]
      have fin : (gt p.qs 0 q ≤ ((gt k.lt [] q).length : Int) ∧ k.firstW q = none → Qw Q (.str "no") (Wk.at M0 w a (Bp p) k)) ∧ (¬ (gt p.qs 0 q ≤ ((gt k.lt [] q).length : Int) ∧ k.firstW q = none) → Qw Q (.str "yes") (Wk.at M0 w a (Bp p) (k.deliver p q v))) := by
        refine ⟨fun x => ?_, fun x => ?_⟩
        · rw [if_pos x] at hq'; exact Qw.here hq'
        · rw [if_neg x] at hq'; exact Qw.here hq'
      by_cases f1 : gt p.qs 0 q ≤ ((gt k.lt [] q).length : Int)
      · rw [decide_eq_true f1]
        walk_at "GO"
        rw [h59]
        refine ⟨M0, w, a, p, k, q, rfl, D, rfl, by omega, ?_⟩
        cases e : k.firstW q with
        | none =>
          walk_at "GO"
          exact fin.1 ⟨f1, e⟩
        | some o =>
          walk_at "GO"
          rw [h61]
          refine ⟨M0, w, a, p, k, q, v, rfl, D, rfl, ok, po, hqq, hv, ?_⟩
          walk_at "GO"
          exact fin.2 fun z => by rw [e] at z; cases z.2
      · rw [decide_eq_false f1]
        walk_at "GO"
        rw [h61]
        refine ⟨M0, w, a, p, k, q, v, rfl, D, rfl, ok, po, hqq, hv, ?_⟩
        walk_at "GO"
        exact fin.2 fun z => f1 z.1
  | _ => exact False.elim fc
def isTake : Cl → Prop
  | .take _ => True
  | .wait _ => True
  | _ => False
theorem o_take (Φ : Nat → ZSp) (vs : List PV) (M : Mh) (Q : ZQ) (E : ZX) (h : sp_page isTake vs M Q E) : vs.length = 3 ∧ Reach M fun M1 => inl Φ 5 3 b_take_answer vs M1 Q E := by
  obtain ⟨M0, w, a, p, k, t, c, rfl, D, rfl, ⟨ok, po, ht⟩, co, fc, hq⟩ := h
  have ht3 : t < k.rr.length := by rw [ok.r1]; exact ht
  have p3 := pk (f := PV.tup) [] ht3
  have okr := okRt ok ht3
  have s1 := ok.s1
  have pst := pl (f := Stt.pv) (show t < k.st.length by omega)
  refine ⟨rfl, .done ⟨rfl, ?_⟩⟩
  have main : ∀ (wt : Bool) (q : Nat) (s : Str), s = (if wt then "wait" else "take") → q < p.qs.length → Q (eA (k.take wt t q).2) (Wk.at M0 w a (Bp p) (k.take wt t q).1) →
      semSs Φ (RR E) b_take_answer { nx := fun _ M' => Qw Q .non M', rt := Qw Q } (startZ 5 [.ref w, nI t, .tup [.str s, nI q]]) (Wk.at M0 w a (Bp p) k) := by
    intro wt q s es hqq hq'
    have hq2 : q < k.lt.length := by rw [ok.l1]; exact hqq
    have p6 := pk (f := eL) [] hq2
    have p7 := pl (f := eL) hq2
    unfold Wk.take at hq'
    walk_at "GO"
    refine ⟨⟨okD_rgt (by decide +kernel), okr⟩, ?_⟩
    walk_at "GO"
    refine br_intro (fun c => ?_) fun c => ?_
    · have c' : hasR (gt k.rr [] t) "take" q = false := by simpa using c
      simp only [c', Bool.false_eq_true, if_false] at hq'
      walk_at "GO"
      exact Qw.here hq'
    · have c' : hasR (gt k.rr [] t) "take" q = true := by simpa using c
      simp only [c', if_true] at hq'
      walk_at "GO"
      cases e : gt k.lt [] q with
      | nil =>
        rw [e] at hq'
        walk_at "GO"
        cases wt with
        | true =>
          subst es
          walk_at "GO"
          rw [show (k.st.map Stt.pv).set t (.tup [.str "waits", nI q]) = (k.st.set t (.waits q)).map Stt.pv by rw [List.map_set]; rfl, set_1 D]
          exact Qw.here hq'
        | false =>
          subst es
          walk_at "GO"
          exact Qw.here hq'
      | cons l r =>
        have hl := (ok.l2 _ (gt_mem (d := []) hq2)).2
        rw [e] at hl hq'
        have lg : l.natAbs.log2 < 1920 := dS_log (by have := hl l (by simp); omega)
        walk_at "GO"
        refine br_t (decide_eq_true (by rw [List.length_map, List.length_cons]; omega)) ?_
        walk_at "GO"
        rw [show cut ((l :: r).map PV.int) (some 1) none = r.map PV.int from cut1, show (k.lt.map eL).set q (.tup (r.map PV.int)) = (k.lt.set q r).map eL by rw [List.map_set], set_6 D]
        walk_at "GO"
        exact Qw.here hq'
  cases c with
  | take q => exact main false q _ rfl co hq
  | wait q => exact main true q _ rfl co hq
  | _ => exact False.elim fc
end HT
set_option Elab.async false
set_option linter.all false
set_option maxRecDepth 100000
set_option maxHeartbeats 1000000
namespace HT
open PySem PySem.Spec PyProof.Rows L2 Z
local macro_rules | `(tactic| walk_at "HL") => `(tactic| (first | assumption | exact put_same | exact at_w | exact at_1 (by assumption) | exact at_2 (by assumption) | exact at_3 (by assumption) | exact at_4 (by assumption) | exact at_5 (by assumption) | exact at_6 (by assumption) | exact at_7 (by assumption) | exact at_8 (by assumption) | (rw [put_ne (by first | assumption | (apply Ne.symm; assumption) | exact neN (at_w) (by assumption) | exact neN (at_1 (by assumption)) (by assumption) | exact neN (at_2 (by assumption)) (by assumption) | exact neN (at_3 (by assumption)) (by assumption) | exact neN (at_4 (by assumption)) (by assumption) | exact neN (at_5 (by assumption)) (by assumption) | exact neN (at_6 (by assumption)) (by assumption) | exact neN (at_7 (by assumption)) (by assumption) | exact neN (at_8 (by assumption)) (by assumption))]; first | assumption | exact put_same | exact at_w | exact at_1 (by assumption) | exact at_2 (by assumption) | exact at_3 (by assumption) | exact at_4 (by assumption) | exact at_5 (by assumption) | exact at_6 (by assumption) | exact at_7 (by assumption) | exact at_8 (by assumption) | (rw [put_ne (by first | assumption | (apply Ne.symm; assumption) | exact neN (at_w) (by assumption) | exact neN (at_1 (by assumption)) (by assumption) | exact neN (at_2 (by assumption)) (by assumption) | exact neN (at_3 (by assumption)) (by assumption) | exact neN (at_4 (by assumption)) (by assumption) | exact neN (at_5 (by assumption)) (by assumption) | exact neN (at_6 (by assumption)) (by assumption) | exact neN (at_7 (by assumption)) (by assumption) | exact neN (at_8 (by assumption)) (by assumption))]; first | assumption | exact put_same | exact at_w | exact at_1 (by assumption) | exact at_2 (by assumption) | exact at_3 (by assumption) | exact at_4 (by assumption) | exact at_5 (by assumption) | exact at_6 (by assumption) | exact at_7 (by assumption) | exact at_8 (by assumption) | (rw [put_ne (by first | assumption | (apply Ne.symm; assumption) | exact neN (at_w) (by assumption) | exact neN (at_1 (by assumption)) (by assumption) | exact neN (at_2 (by assumption)) (by assumption) | exact neN (at_3 (by assumption)) (by assumption) | exact neN (at_4 (by assumption)) (by assumption) | exact neN (at_5 (by assumption)) (by assumption) | exact neN (at_6 (by assumption)) (by assumption) | exact neN (at_7 (by assumption)) (by assumption) | exact neN (at_8 (by assumption)) (by assumption))]; first | assumption | exact put_same | exact at_w | exact at_1 (by assumption) | exact at_2 (by assumption) | exact at_3 (by assumption) | exact at_4 (by assumption) | exact at_5 (by assumption) | exact at_6 (by assumption) | exact at_7 (by assumption) | exact at_8 (by assumption))))))
local macro_rules | `(tactic| walk_at "ONE") => `(tactic| (first | (refine And.intro rfl ?_; (conv => whnf)) | (refine Exists.intro _ (Exists.intro _ (Exists.intro _ (Exists.intro _ (And.intro (by walk_at "HL") (And.intro (by assumption) (And.intro rfl ?_)))))); (conv => whnf)) | (refine Exists.intro _ (Exists.intro _ (Exists.intro _ (And.intro (by walk_at "HL") (And.intro (DSet.old (by assumption) (by decide +kernel) (by decide +kernel)) ?_)))); (conv => whnf)) | (refine Exists.intro _ (Exists.intro _ (Exists.intro _ (And.intro (by walk_at "HL") (And.intro (DSet.new (by decide +kernel) (by decide +kernel)) ?_)))); (conv => whnf)) | (refine And.intro True.intro ?_; (conv => whnf)) | (refine And.intro (Exists.intro _ (by walk_at "HL")) ?_; (conv => whnf)) | (refine And.intro (by walk_at "HL") ?_; (conv => whnf)) | (refine And.intro (And.intro rfl rfl) ?_; (conv => whnf)) | (refine And.intro (Nat.le_of_ble_eq_true rfl) ?_; (conv => whnf)) | (refine And.intro (by decide) ?_; (conv => whnf)) | (refine And.intro (by omega) ?_; (conv => whnf)) | (refine Exists.intro _ (And.intro (by walk_at "HL") ?_); (conv => whnf)) | (refine Exists.intro _ (And.intro rfl ?_); (conv => whnf)) | (refine Exists.intro _ (Exists.intro _ (And.intro (by walk_at "HL") (And.intro rfl ?_))); (conv => whnf)) | (refine Exists.intro _ (Exists.intro _ (And.intro (by walk_at "HL") (And.intro (And.intro (by decide) rfl) ?_))); (conv => whnf)) | (refine Exists.intro _ (Exists.intro _ (And.intro rfl (And.intro rfl ?_))); (conv => whnf)) | (refine Exists.intro _ (Exists.intro _ (And.intro (by walk_at "HL") (And.intro (by walk_at "HL") ?_))); (conv => whnf)) | (refine Exists.intro _ (And.intro (by walk_at "HL") (And.intro (by decide) ?_)); (conv => whnf)) | (refine br_t rfl ?_; (conv => whnf)) | (refine br_f rfl ?_; (conv => whnf)) | (refine And.intro (And.intro (by decide +kernel) (by decide +kernel)) ?_; (conv => whnf)) | (refine br_t (by decide +kernel) ?_; (conv => whnf)) | (refine br_f (by decide +kernel) ?_; (conv => whnf))))
local macro_rules | `(tactic| walk_at "ONI") => `(tactic| (first | (refine Qw.here ?_; (conv => whnf)) | (refine br_t (decide_eq_true (by omega)) ?_; (conv => whnf)) | (refine br_f (decide_eq_false (by omega)) ?_; (conv => whnf)) | (refine And.intro rfl ?_; (conv => whnf)) | (refine Exists.intro _ (Exists.intro _ (Exists.intro _ (Exists.intro _ (And.intro (by walk_at "HL") (And.intro (by assumption) (And.intro rfl ?_)))))); (conv => whnf)) | (refine Exists.intro _ (Exists.intro _ (Exists.intro _ (And.intro (by walk_at "HL") (And.intro (DSet.old (by assumption) (by decide +kernel) (by decide +kernel)) ?_)))); (conv => whnf)) | (refine Exists.intro _ (Exists.intro _ (Exists.intro _ (And.intro (by walk_at "HL") (And.intro (DSet.new (by decide +kernel) (by decide +kernel)) ?_)))); (conv => whnf)) | (refine And.intro True.intro ?_; (conv => whnf)) | (refine And.intro (Exists.intro _ (by walk_at "HL")) ?_; (conv => whnf)) | (refine And.intro (by walk_at "HL") ?_; (conv => whnf)) | (refine And.intro (And.intro rfl rfl) ?_; (conv => whnf)) | (refine And.intro (Nat.le_of_ble_eq_true rfl) ?_; (conv => whnf)) | (refine And.intro (by decide) ?_; (conv => whnf)) | (refine And.intro (by omega) ?_; (conv => whnf)) | (refine Exists.intro _ (And.intro (by walk_at "HL") ?_); (conv => whnf)) | (refine Exists.intro _ (And.intro rfl ?_); (conv => whnf)) | (refine Exists.intro _ (Exists.intro _ (And.intro (by walk_at "HL") (And.intro rfl ?_))); (conv => whnf)) | (refine Exists.intro _ (Exists.intro _ (And.intro (by walk_at "HL") (And.intro (And.intro (by decide) rfl) ?_))); (conv => whnf)) | (refine Exists.intro _ (Exists.intro _ (And.intro rfl (And.intro rfl ?_))); (conv => whnf)) | (refine Exists.intro _ (Exists.intro _ (And.intro (by walk_at "HL") (And.intro (by walk_at "HL") ?_))); (conv => whnf)) | (refine Exists.intro _ (And.intro (by walk_at "HL") (And.intro (by decide) ?_)); (conv => whnf)) | (refine br_t rfl ?_; (conv => whnf)) | (refine br_f rfl ?_; (conv => whnf)) | (refine And.intro (And.intro (by decide +kernel) (by decide +kernel)) ?_; (conv => whnf)) | (refine br_t (by decide +kernel) ?_; (conv => whnf)) | (refine br_f (by decide +kernel) ?_; (conv => whnf))))
local macro_rules | `(tactic| walk_at "GO") => `(tactic| (((try (conv => whnf)); repeat (walk_at "ONE"))))
local macro_rules | `(tactic| walk_at "GI") => `(tactic| (((conv => whnf); repeat (walk_at "ONI"))))
local macro_rules | `(tactic| walk_at "BB") => `(tactic| (first | rfl | (simp only [Bool.and_eq_true, Bool.or_eq_true, Bool.not_eq_true', Bool.and_eq_false_iff, Bool.not_eq_false', decide_eq_true_eq, decide_eq_false_iff_not, peq_int, List.length_map]; omega)))
def isLock : Cl → Prop
  | .lock _ => True
  | _ => False
theorem o_lock (Φ : Nat → ZSp) (vs : List PV) (M : Mh) (Q : ZQ) (E : ZX) (h : sp_page isLock vs M Q E) : vs.length = 3 ∧ Reach M fun M1 => inl Φ 6 3 b_lock_answer vs M1 Q E := by
  obtain ⟨M0, w, a, p, k, t, c, rfl, D, rfl, ⟨ok, po, ht⟩, co, fc, hq⟩ := h
  have ht3 : t < k.rr.length := by rw [ok.r1]; exact ht
  have p3 := pk (f := PV.tup) [] ht3
  have okr := okRt ok ht3
  have s1 := ok.s1
  have pst := pl (f := Stt.pv) (show t < k.st.length by omega)
  refine ⟨rfl, .done ⟨rfl, ?_⟩⟩
  cases c with
  | lock l =>
    have hl : l < k.lk.length := by rw [ok.k1]; exact co
    have p7 := pk (f := eK) (none, []) hl
    have q7 := pl (f := eK) hl
    have kk := (lk_of ok po hl).2.1
    have hq' : Q (eA (k.lock t l).2) (Wk.at M0 w a (Bp p) (k.lock t l).1) := hq
    unfold Wk.lock at hq'
    walk_at "GO"
    refine ⟨⟨okD_rgt (by decide +kernel), okr⟩, ?_⟩
    walk_at "GO"
    refine br_intro (fun c => ?_) fun c => ?_
    · have c' : hasR (gt k.rr [] t) "lock" l = false := by simpa using c
      rw [if_pos (.inl c')] at hq'
      walk_at "GO"
      exact Qw.here hq'
    · have c' : hasR (gt k.rr [] t) "lock" l = true := by simpa using c
      walk_at "GO"
      cases e : (gt k.lk (none, []) l).1 with
      | none =>
        simp only [e] at hq'
        rw [if_neg (by rw [c']; simp)] at hq'
        walk_at "GO"
        rw [show (k.lk.map eK).set l (.tup [nI t, .tup ((gt k.lk (none, []) l).2.map nI)]) = (k.lk.set l (some t, (gt k.lk (none, []) l).2)).map eK by rw [List.map_set], set_7 D]
        walk_at "GO"
        exact Qw.here hq'
      | some o =>
        simp only [e] at hq'
        walk_at "GO"
        refine br_int (fun c => ?_) fun c => ?_
        · obtain rfl : o = t := by omega
          rw [if_pos (.inr rfl)] at hq'
          walk_at "GO"
          exact Qw.here hq'
        · rw [if_neg (by rw [c']; rintro (z | z); cases z; exact c (by cases z; rfl))] at hq'
          walk_at "GO"
          refine ⟨by rw [List.length_map, sizeLine_eq]; show _ + 1 ≤ _; omega, ?_⟩
          walk_at "GO"
          rw [show (k.lk.map eK).set l (.tup [nI o, .tup ((gt k.lk (none, []) l).2.map nI ++ [nI t])]) = (k.lk.set l (some o, (gt k.lk (none, []) l).2 ++ [t])).map eK by rw [List.map_set]; simp [eK], set_7 D]
          walk_at "GO"
          rw [show (k.st.map Stt.pv).set t (.tup [.str "locked", nI l]) = (k.st.set t (.locked l)).map Stt.pv by rw [List.map_set]; rfl, set_1 D]
          exact Qw.here hq'
  | _ => exact False.elim fc
def isFree : Cl → Prop
  | .free _ => True
  | _ => False
theorem o_free (Φ : Nat → ZSp) (h57 : Φ 57 = sp_wake) (vs : List PV) (M : Mh) (Q : ZQ) (E : ZX) (h : sp_page isFree vs M Q E) : vs.length = 3 ∧ Reach M fun M1 => inl Φ 6 3 b_free_answer vs M1 Q E := by
  obtain ⟨M0, w, a, p, k, t, c, rfl, D, rfl, ⟨ok, po, ht⟩, co, fc, hq⟩ := h
  have s1 := ok.s1
  have a1 := ok.a1
  refine ⟨rfl, .done ⟨rfl, ?_⟩⟩
  cases c with
  | free l =>
    have hl : l < k.lk.length := by rw [ok.k1]; exact co
    have p7 := pk (f := eK) (none, []) hl
    have q7 := pl (f := eK) hl
    have kk := (lk_of ok po hl).2
    have hq' : Q (eA (k.free t l).2) (Wk.at M0 w a (Bp p) (k.free t l).1) := hq
    unfold Wk.free at hq'
    walk_at "GO"
    have no : (gt k.lk (none, []) l).1 ≠ some t → Qw Q (.str "no") (Wk.at M0 w a (Bp p) k) := fun z => by
      rw [if_neg z] at hq'
      exact Qw.here hq'
    cases e : (gt k.lk (none, []) l).1 with
    | none =>
      walk_at "GO"
      exact no (by rw [e]; simp)
    | some o =>
      walk_at "GO"
      refine br_nint (fun c => ?_) fun c => ?_
      · walk_at "GO"
        exact no (by rw [e]; intro z; cases z; exact c rfl)
      · obtain rfl : o = t := by omega
        rw [if_pos e] at hq'
        walk_at "GO"
        cases ew : (gt k.lk (none, []) l).2 with
        | nil =>
          simp only [ew] at hq'
          walk_at "GO"
          rw [show (k.lk.map eK).set l (.tup [.non, .tup []]) = (k.lk.set l (none, [])).map eK by rw [List.map_set]; rfl, set_7 D]
          walk_at "GO"
          exact Qw.here hq'
        | cons h r =>
          simp only [ew] at hq'
          rw [ew] at kk
          have hh : h < p.ts.length := kk.2 h (by simp)
          walk_at "GO"
          rw [show cut ((h :: r).map nI) (some 1) none = r.map nI from cut1, show (k.lk.map eK).set l (.tup [nI h, .tup (r.map nI)]) = (k.lk.set l (some h, r)).map eK by rw [List.map_set], set_7 D]
          walk_at "GO"
          rw [h57]
          refine ⟨M0, w, a, p, _, h, some "yes", rfl, D, rfl, ⟨?_, ?_⟩, ?_⟩
          · show h < k.st.length; omega
          · show h < k.an.length; omega
          walk_at "GO"
          exact Qw.here hq'
  | _ => exact False.elim fc
end HT
set_option Elab.async false
set_option linter.all false
set_option maxRecDepth 100000
set_option maxHeartbeats 1000000
namespace HT
open PySem PySem.Spec PyProof.Rows L2 Z
local macro_rules | `(tactic| walk_at "HL") => `(tactic| (first | assumption | exact put_same | exact at_w | exact at_1 (by assumption) | exact at_2 (by assumption) | exact at_3 (by assumption) | exact at_4 (by assumption) | exact at_5 (by assumption) | exact at_6 (by assumption) | exact at_7 (by assumption) | exact at_8 (by assumption) | (rw [put_ne (by first | assumption | (apply Ne.symm; assumption) | exact neN (at_w) (by assumption) | exact neN (at_1 (by assumption)) (by assumption) | exact neN (at_2 (by assumption)) (by assumption) | exact neN (at_3 (by assumption)) (by assumption) | exact neN (at_4 (by assumption)) (by assumption) | exact neN (at_5 (by assumption)) (by assumption) | exact neN (at_6 (by assumption)) (by assumption) | exact neN (at_7 (by assumption)) (by assumption) | exact neN (at_8 (by assumption)) (by assumption))]; first | assumption | exact put_same | exact at_w | exact at_1 (by assumption) | exact at_2 (by assumption) | exact at_3 (by assumption) | exact at_4 (by assumption) | exact at_5 (by assumption) | exact at_6 (by assumption) | exact at_7 (by assumption) | exact at_8 (by assumption) | (rw [put_ne (by first | assumption | (apply Ne.symm; assumption) | exact neN (at_w) (by assumption) | exact neN (at_1 (by assumption)) (by assumption) | exact neN (at_2 (by assumption)) (by assumption) | exact neN (at_3 (by assumption)) (by assumption) | exact neN (at_4 (by assumption)) (by assumption) | exact neN (at_5 (by assumption)) (by assumption) | exact neN (at_6 (by assumption)) (by assumption) | exact neN (at_7 (by assumption)) (by assumption) | exact neN (at_8 (by assumption)) (by assumption))]; first | assumption | exact put_same | exact at_w | exact at_1 (by assumption) | exact at_2 (by assumption) | exact at_3 (by assumption) | exact at_4 (by assumption) | exact at_5 (by assumption) | exact at_6 (by assumption) | exact at_7 (by assumption) | exact at_8 (by assumption) | (rw [put_ne (by first | assumption | (apply Ne.symm; assumption) | exact neN (at_w) (by assumption) | exact neN (at_1 (by assumption)) (by assumption) | exact neN (at_2 (by assumption)) (by assumption) | exact neN (at_3 (by assumption)) (by assumption) | exact neN (at_4 (by assumption)) (by assumption) | exact neN (at_5 (by assumption)) (by assumption) | exact neN (at_6 (by assumption)) (by assumption) | exact neN (at_7 (by assumption)) (by assumption) | exact neN (at_8 (by assumption)) (by assumption))]; first | assumption | exact put_same | exact at_w | exact at_1 (by assumption) | exact at_2 (by assumption) | exact at_3 (by assumption) | exact at_4 (by assumption) | exact at_5 (by assumption) | exact at_6 (by assumption) | exact at_7 (by assumption) | exact at_8 (by assumption))))))
local macro_rules | `(tactic| walk_at "ONE") => `(tactic| (first | (refine And.intro rfl ?_; (conv => whnf)) | (refine Exists.intro _ (Exists.intro _ (Exists.intro _ (Exists.intro _ (And.intro (by walk_at "HL") (And.intro (by assumption) (And.intro rfl ?_)))))); (conv => whnf)) | (refine Exists.intro _ (Exists.intro _ (Exists.intro _ (And.intro (by walk_at "HL") (And.intro (DSet.old (by assumption) (by decide +kernel) (by decide +kernel)) ?_)))); (conv => whnf)) | (refine Exists.intro _ (Exists.intro _ (Exists.intro _ (And.intro (by walk_at "HL") (And.intro (DSet.new (by decide +kernel) (by decide +kernel)) ?_)))); (conv => whnf)) | (refine And.intro True.intro ?_; (conv => whnf)) | (refine And.intro (Exists.intro _ (by walk_at "HL")) ?_; (conv => whnf)) | (refine And.intro (by walk_at "HL") ?_; (conv => whnf)) | (refine And.intro (And.intro rfl rfl) ?_; (conv => whnf)) | (refine And.intro (Nat.le_of_ble_eq_true rfl) ?_; (conv => whnf)) | (refine And.intro (by decide) ?_; (conv => whnf)) | (refine And.intro (by omega) ?_; (conv => whnf)) | (refine Exists.intro _ (And.intro (by walk_at "HL") ?_); (conv => whnf)) | (refine Exists.intro _ (And.intro rfl ?_); (conv => whnf)) | (refine Exists.intro _ (Exists.intro _ (And.intro (by walk_at "HL") (And.intro rfl ?_))); (conv => whnf)) | (refine Exists.intro _ (Exists.intro _ (And.intro (by walk_at "HL") (And.intro (And.intro (by decide) rfl) ?_))); (conv => whnf)) | (refine Exists.intro _ (Exists.intro _ (And.intro rfl (And.intro rfl ?_))); (conv => whnf)) | (refine Exists.intro _ (Exists.intro _ (And.intro (by walk_at "HL") (And.intro (by walk_at "HL") ?_))); (conv => whnf)) | (refine Exists.intro _ (And.intro (by walk_at "HL") (And.intro (by decide) ?_)); (conv => whnf)) | (refine br_t rfl ?_; (conv => whnf)) | (refine br_f rfl ?_; (conv => whnf)) | (refine And.intro (And.intro (by decide +kernel) (by decide +kernel)) ?_; (conv => whnf)) | (refine br_t (by decide +kernel) ?_; (conv => whnf)) | (refine br_f (by decide +kernel) ?_; (conv => whnf))))
local macro_rules | `(tactic| walk_at "ONI") => `(tactic| (first | (refine Qw.here ?_; (conv => whnf)) | (refine br_t (decide_eq_true (by omega)) ?_; (conv => whnf)) | (refine br_f (decide_eq_false (by omega)) ?_; (conv => whnf)) | (refine And.intro rfl ?_; (conv => whnf)) | (refine Exists.intro _ (Exists.intro _ (Exists.intro _ (Exists.intro _ (And.intro (by walk_at "HL") (And.intro (by assumption) (And.intro rfl ?_)))))); (conv => whnf)) | (refine Exists.intro _ (Exists.intro _ (Exists.intro _ (And.intro (by walk_at "HL") (And.intro (DSet.old (by assumption) (by decide +kernel) (by decide +kernel)) ?_)))); (conv => whnf)) | (refine Exists.intro _ (Exists.intro _ (Exists.intro _ (And.intro (by walk_at "HL") (And.intro (DSet.new (by decide +kernel) (by decide +kernel)) ?_)))); (conv => whnf)) | (refine And.intro True.intro ?_; (conv => whnf)) | (refine And.intro (Exists.intro _ (by walk_at "HL")) ?_; (conv => whnf)) | (refine And.intro (by walk_at "HL") ?_; (conv => whnf)) | (refine And.intro (And.intro rfl rfl) ?_; (conv => whnf)) | (refine And.intro (Nat.le_of_ble_eq_true rfl) ?_; (conv => whnf)) | (refine And.intro (by decide) ?_; (conv => whnf)) | (refine And.intro (by omega) ?_; (conv => whnf)) | (refine Exists.intro _ (And.intro (by walk_at "HL") ?_); (conv => whnf)) | (refine Exists.intro _ (And.intro rfl ?_); (conv => whnf)) | (refine Exists.intro _ (Exists.intro _ (And.intro (by walk_at "HL") (And.intro rfl ?_))); (conv => whnf)) | (refine Exists.intro _ (Exists.intro _ (And.intro (by walk_at "HL") (And.intro (And.intro (by decide) rfl) ?_))); (conv => whnf)) | (refine Exists.intro _ (Exists.intro _ (And.intro rfl (And.intro rfl ?_))); (conv => whnf)) | (refine Exists.intro _ (Exists.intro _ (And.intro (by walk_at "HL") (And.intro (by walk_at "HL") ?_))); (conv => whnf)) | (refine Exists.intro _ (And.intro (by walk_at "HL") (And.intro (by decide) ?_)); (conv => whnf)) | (refine br_t rfl ?_; (conv => whnf)) | (refine br_f rfl ?_; (conv => whnf)) | (refine And.intro (And.intro (by decide +kernel) (by decide +kernel)) ?_; (conv => whnf)) | (refine br_t (by decide +kernel) ?_; (conv => whnf)) | (refine br_f (by decide +kernel) ?_; (conv => whnf))))
local macro_rules | `(tactic| walk_at "GO") => `(tactic| (((try (conv => whnf)); repeat (walk_at "ONE"))))
local macro_rules | `(tactic| walk_at "GI") => `(tactic| (((conv => whnf); repeat (walk_at "ONI"))))
local macro_rules | `(tactic| walk_at "BB") => `(tactic| (first | rfl | (simp only [Bool.and_eq_true, Bool.or_eq_true, Bool.not_eq_true', Bool.and_eq_false_iff, Bool.not_eq_false', decide_eq_true_eq, decide_eq_false_iff_not, peq_int, List.length_map]; omega)))
def isSeek : Cl → Prop
  | .seek _ => True
  | _ => False
theorem o_seek (Φ : Nat → ZSp) (vs : List PV) (M : Mh) (Q : ZQ) (E : ZX) (h : sp_page isSeek vs M Q E) : vs.length = 3 ∧ Reach M fun M1 => inl Φ 3 3 b_seek_answer vs M1 Q E := by
  obtain ⟨M0, w, a, p, k, t, c, rfl, D, rfl, ⟨ok, po, ht⟩, co, fc, hq⟩ := h
  have ht3 : t < k.rr.length := by rw [ok.r1]; exact ht
  have p3 := pk (f := PV.tup) [] ht3
  have okr := okRt ok ht3
  refine ⟨rfl, .done ⟨rfl, ?_⟩⟩
  cases c with
  | seek x =>
    have hq' : Q (eA (k.seek t x).2) (Wk.at M0 w a (Bp p) (k.seek t x).1) := hq
    unfold Wk.seek at hq'
    walk_at "GO"
    refine ⟨⟨okD_rgt (by decide +kernel), okr⟩, ?_⟩
    walk_at "GO"
    refine br_intro (fun c => ?_) fun c => ?_
    · have c' : hasR (gt k.rr [] t) "seek" 0 = false := by simpa using c
      simp only [c', Bool.false_eq_true, if_false] at hq'
      walk_at "GO"
      exact Qw.here hq'
    · have c' : hasR (gt k.rr [] t) "seek" 0 = true := by simpa using c
      simp only [c', if_true] at hq'
      walk_at "GO"
      simp only [List.set_cons_zero, List.set_cons_succ]
      rw [set_ww]
      exact Qw.here hq'
  | _ => exact False.elim fc
def sp_give : ZSp := fun vs M Q _ => ∃ (M0 : Mh) (w : Addr) (a : W8) (p : Pt) (k : Wk) (t : Nat), vs = [.ref w, nI t] ∧ Dis M0 w a ∧ M = Wk.at M0 w a (Bp p) k ∧ WkPre p k t ∧ Q (eA (k.give t).2) (Wk.at M0 w a (Bp p) (k.give t).1)
theorem o_give (Φ : Nat → ZSp) (vs : List PV) (M : Mh) (Q : ZQ) (E : ZX) (h : sp_give vs M Q E) : vs.length = 2 ∧ Reach M fun M1 => inl Φ 2 2 b_give_answer vs M1 Q E := by
  obtain ⟨M0, w, a, p, k, t, rfl, D, rfl, ⟨ok, po, ht⟩, hq⟩ := h
  have ht4 : t < k.fc.length := by rw [ok.f1]; exact ht
  have p4 := pk (f := PV.int) 0 ht4
  have q4 := pl (f := PV.int) ht4
  refine ⟨rfl, .done ⟨rfl, ?_⟩⟩
  unfold Wk.give at hq
  walk_at "GO"
  refine br_int (fun c => ?_) fun c => ?_
  · rw [if_pos c] at hq
    walk_at "GO"
    exact Qw.here hq
  · rw [if_neg c] at hq
    walk_at "GO"
    rw [← List.map_set, set_4 D]
    exact Qw.here hq
def sp_get_ : ZSp := fun vs M Q _ => ∃ (M0 : Mh) (w : Addr) (a : W8) (p : Pt) (k : Wk) (t : Nat), vs = [.ref w, nI t] ∧ Dis M0 w a ∧ M = Wk.at M0 w a (Bp p) k ∧ WkPre p k t ∧ Q (eA (k.get p t).2) (Wk.at M0 w a (Bp p) (k.get p t).1)
def fJ (P : Nat → Prop) [DecidablePred P] (g : Nat → Int) : PV → Option PV
  | .int i => if P i.toNat then some (.int (g i.toNat)) else none
  | _ => none
theorem fJ_at {P : Nat → Prop} [DecidablePred P] {g : Nat → Int} {i : Nat} : fJ P g (.int (0 + (i : Int))) = if P i then some (.int (g i)) else none := by
  show (if P (0 + (i : Int)).toNat then some (PV.int (g (0 + (i : Int)).toNat)) else none) = _
  rw [show (0 + (i : Int)).toNat = i by omega]
theorem range_fj {n : Nat} {P : Nat → Prop} [DecidablePred P] {g : Nat → Int} : (rangeL 0 n).filterMap (fJ P g) = (((List.range n).filter fun t => decide (P t)).map g).map PV.int := by
  unfold rangeL
  rw [List.filterMap_map]
  generalize List.range n = l
  induction l with
  | nil => rfl
  | cons x l ih =>
    have e : (fJ P g ∘ fun i : Nat => PV.int (0 + (i : Int))) x = if P x then some (.int (g x)) else none := fJ_at
    rw [List.filterMap_cons, e, List.filter_cons]
    by_cases h : P x
    · rw [if_pos h, if_pos (decide_eq_true h), List.map_cons, List.map_cons, ← ih]
    · rw [if_neg h, if_neg (by simpa using h), ← ih]
theorem sides_ok {p : Pt} (po : p.Ok) : 0 < nSides p ∧ nSides p ≤ 4 := by
  obtain ⟨t, ht, u, hu, hne⟩ := po.t3
  have h1 := (po.t2 t ht).1
  have hm : t.1 ∈ sidesOf p.ts := by
    unfold sidesOf
    refine List.mem_filter.mpr ⟨?_, List.any_eq_true.mpr ⟨t, ht, decide_eq_true rfl⟩⟩
    have : t.1 = 0 ∨ t.1 = 1 ∨ t.1 = 2 ∨ t.1 = 3 := by omega
    rcases this with e | e | e | e <;> rw [e] <;> simp
  have h2 := List.length_pos_of_mem hm
  have h3 : (sidesOf p.ts).length ≤ 4 := List.length_filter_le _ _
  unfold nSides
  omega
theorem o_get (Φ : Nat → ZSp) (vs : List PV) (M : Mh) (Q : ZQ) (E : ZX) (h : sp_get_ vs M Q E) : vs.length = 2 ∧ Reach M fun M1 => inl Φ 7 2 b_get_answer vs M1 Q E := by
  obtain ⟨M0, w, a, p, k, t, rfl, D, rfl, ⟨ok, po, ht⟩, hq⟩ := h
  have f1 := ok.f1
  have t1 := po.t1
  have ht4 : t < k.fc.length := by rw [ok.f1]; exact ht
  have p4 := pk (f := PV.int) 0 ht4
  have q4 := pl (f := PV.int) ht4
  have pt := pk (f := pr2) (0, 0) ht
  refine ⟨rfl, .done ⟨rfl, ?_⟩⟩
  unfold Wk.get at hq
  walk_at "GO"
  have inc : ¬ (p.fr ≤ k.fc.sum ∨ (p.b3 = true ∧ p.fr / nSides p ≤ heldBy p k (sideOf p t))) → Qw Q (.str "yes") (Wk.at M0 w a (Bp p) { k with fc := k.fc.set t (gt k.fc 0 t + 1) }) := fun z => by
    rw [if_neg z] at hq; exact Qw.here hq
  refine br_intro (fun c => ?_) fun c => ?_
  · rw [if_pos (.inl (of_decide_eq_true c))] at hq
    walk_at "GO"
    exact Qw.here hq
  · have c1 := of_decide_eq_false c
    walk_at "GO"
    refine br_intro (fun b => ?_) fun b => ?_
    · walk_at "GO"
      have hb : -(2 ^ 62 : Int) ≤ ((k.fc.map PV.int).length : Nat) ∧ (((k.fc.map PV.int).length : Nat) : Int) < 2 ^ 62 := by rw [List.length_map]; omega
      refine ⟨hb, ?_⟩
      intro X hX
      rw [show Int.toNat (((k.fc.map PV.int).length : Nat) : Int) = k.fc.length by rw [List.length_map]; rfl]
      refine lc_fmF (fJ (fun o => sideOf p o = sideOf p t) (gt k.fc 0)) hX (by rw [len_rangeL]; omega) (fun _ => trivial) ?_ ?_
      · intro x hx acc kk hk
        obtain ⟨i, hi, rfl⟩ := mem_range hx
        have pi : pick (p.ts.map pr2) (0 + (i : Nat)) = some (pr2 (gt p.ts (0, 0) i)) := by rw [Int.zero_add]; exact pk (0, 0) (by omega)
        have pj : pick (k.fc.map PV.int) (0 + (i : Nat)) = some (.int (gt k.fc 0 i)) := by rw [Int.zero_add]; exact pk 0 hi
        rw [fJ_at] at hk
        walk_at "GO"
        refine br_int (fun c => ?_) fun c => ?_
        · rw [if_pos (show sideOf p i = sideOf p t from c)] at hk
          walk_at "GO"
          exact hk
        · rw [if_neg (show ¬ sideOf p i = sideOf p t from c)] at hk
          exact hk
      · rw [range_fj]
        walk_at "GO"
        have so := sides_ok po
        rw [show ((List.map PV.int (sidesOf p.ts)).length : Int) = nSides p by rw [List.length_map]; rfl]
        refine ⟨⟨so.1, by omega⟩, ?_⟩
        walk_at "GO"
        refine br_intro (fun c => ?_) fun c => ?_
        · rw [if_pos (.inr ⟨b, of_decide_eq_true c⟩)] at hq
          walk_at "GO"
          exact Qw.here hq
        · walk_at "GO"
          rw [← List.map_set, set_4 D]
          exact inc fun z => by rcases z with z | z; exact c1 z; exact (of_decide_eq_false c) z.2
    · walk_at "GO"
      rw [← List.map_set, set_4 D]
      exact inc fun z => by rcases z with z | z; exact c1 z; rw [b] at z; cases z.1
end HT
set_option Elab.async false
set_option linter.all false
set_option maxRecDepth 100000
set_option maxHeartbeats 1000000
namespace HT
open PySem PySem.Spec PyProof.Rows L2 Z
local macro_rules | `(tactic| walk_at "HL") => `(tactic| (first | assumption | exact put_same | exact at_w | exact at_1 (by assumption) | exact at_2 (by assumption) | exact at_3 (by assumption) | exact at_4 (by assumption) | exact at_5 (by assumption) | exact at_6 (by assumption) | exact at_7 (by assumption) | exact at_8 (by assumption) | (rw [put_ne (by first | assumption | (apply Ne.symm; assumption) | exact neN (at_w) (by assumption) | exact neN (at_1 (by assumption)) (by assumption) | exact neN (at_2 (by assumption)) (by assumption) | exact neN (at_3 (by assumption)) (by assumption) | exact neN (at_4 (by assumption)) (by assumption) | exact neN (at_5 (by assumption)) (by assumption) | exact neN (at_6 (by assumption)) (by assumption) | exact neN (at_7 (by assumption)) (by assumption) | exact neN (at_8 (by assumption)) (by assumption))]; first | assumption | exact put_same | exact at_w | exact at_1 (by assumption) | exact at_2 (by assumption) | exact at_3 (by assumption) | exact at_4 (by assumption) | exact at_5 (by assumption) | exact at_6 (by assumption) | exact at_7 (by assumption) | exact at_8 (by assumption) | (rw [put_ne (by first | assumption | (apply Ne.symm; assumption) | exact neN (at_w) (by assumption) | exact neN (at_1 (by assumption)) (by assumption) | exact neN (at_2 (by assumption)) (by assumption) | exact neN (at_3 (by assumption)) (by assumption) | exact neN (at_4 (by assumption)) (by assumption) | exact neN (at_5 (by assumption)) (by assumption) | exact neN (at_6 (by assumption)) (by assumption) | exact neN (at_7 (by assumption)) (by assumption) | exact neN (at_8 (by assumption)) (by assumption))]; first | assumption | exact put_same | exact at_w | exact at_1 (by assumption) | exact at_2 (by assumption) | exact at_3 (by assumption) | exact at_4 (by assumption) | exact at_5 (by assumption) | exact at_6 (by assumption) | exact at_7 (by assumption) | exact at_8 (by assumption) | (rw [put_ne (by first | assumption | (apply Ne.symm; assumption) | exact neN (at_w) (by assumption) | exact neN (at_1 (by assumption)) (by assumption) | exact neN (at_2 (by assumption)) (by assumption) | exact neN (at_3 (by assumption)) (by assumption) | exact neN (at_4 (by assumption)) (by assumption) | exact neN (at_5 (by assumption)) (by assumption) | exact neN (at_6 (by assumption)) (by assumption) | exact neN (at_7 (by assumption)) (by assumption) | exact neN (at_8 (by assumption)) (by assumption))]; first | assumption | exact put_same | exact at_w | exact at_1 (by assumption) | exact at_2 (by assumption) | exact at_3 (by assumption) | exact at_4 (by assumption) | exact at_5 (by assumption) | exact at_6 (by assumption) | exact at_7 (by assumption) | exact at_8 (by assumption))))))
local macro_rules | `(tactic| walk_at "ONE") => `(tactic| (first | (refine And.intro rfl ?_; (conv => whnf)) | (refine Exists.intro _ (Exists.intro _ (Exists.intro _ (Exists.intro _ (And.intro (by walk_at "HL") (And.intro (by assumption) (And.intro rfl ?_)))))); (conv => whnf)) | (refine Exists.intro _ (Exists.intro _ (Exists.intro _ (And.intro (by walk_at "HL") (And.intro (DSet.old (by assumption) (by decide +kernel) (by decide +kernel)) ?_)))); (conv => whnf)) | (refine Exists.intro _ (Exists.intro _ (Exists.intro _ (And.intro (by walk_at "HL") (And.intro (DSet.new (by decide +kernel) (by decide +kernel)) ?_)))); (conv => whnf)) | (refine And.intro True.intro ?_; (conv => whnf)) | (refine And.intro (Exists.intro _ (by walk_at "HL")) ?_; (conv => whnf)) | (refine And.intro (by walk_at "HL") ?_; (conv => whnf)) | (refine And.intro (And.intro rfl rfl) ?_; (conv => whnf)) | (refine And.intro (Nat.le_of_ble_eq_true rfl) ?_; (conv => whnf)) | (refine And.intro (by decide) ?_; (conv => whnf)) | (refine And.intro (by omega) ?_; (conv => whnf)) | (refine Exists.intro _ (And.intro (by walk_at "HL") ?_); (conv => whnf)) | (refine Exists.intro _ (And.intro rfl ?_); (conv => whnf)) | (refine Exists.intro _ (Exists.intro _ (And.intro (by walk_at "HL") (And.intro rfl ?_))); (conv => whnf)) | (refine Exists.intro _ (Exists.intro _ (And.intro (by walk_at "HL") (And.intro (And.intro (by decide) rfl) ?_))); (conv => whnf)) | (refine Exists.intro _ (Exists.intro _ (And.intro rfl (And.intro rfl ?_))); (conv => whnf)) | (refine Exists.intro _ (Exists.intro _ (And.intro (by walk_at "HL") (And.intro (by walk_at "HL") ?_))); (conv => whnf)) | (refine Exists.intro _ (And.intro (by walk_at "HL") (And.intro (by decide) ?_)); (conv => whnf)) | (refine br_t rfl ?_; (conv => whnf)) | (refine br_f rfl ?_; (conv => whnf)) | (refine And.intro (And.intro (by decide +kernel) (by decide +kernel)) ?_; (conv => whnf)) | (refine br_t (by decide +kernel) ?_; (conv => whnf)) | (refine br_f (by decide +kernel) ?_; (conv => whnf))))
local macro_rules | `(tactic| walk_at "ONI") => `(tactic| (first | (refine Qw.here ?_; (conv => whnf)) | (refine br_t (decide_eq_true (by omega)) ?_; (conv => whnf)) | (refine br_f (decide_eq_false (by omega)) ?_; (conv => whnf)) | (refine And.intro rfl ?_; (conv => whnf)) | (refine Exists.intro _ (Exists.intro _ (Exists.intro _ (Exists.intro _ (And.intro (by walk_at "HL") (And.intro (by assumption) (And.intro rfl ?_)))))); (conv => whnf)) | (refine Exists.intro _ (Exists.intro _ (Exists.intro _ (And.intro (by walk_at "HL") (And.intro (DSet.old (by assumption) (by decide +kernel) (by decide +kernel)) ?_)))); (conv => whnf)) | (refine Exists.intro _ (Exists.intro _ (Exists.intro _ (And.intro (by walk_at "HL") (And.intro (DSet.new (by decide +kernel) (by decide +kernel)) ?_)))); (conv => whnf)) | (refine And.intro True.intro ?_; (conv => whnf)) | (refine And.intro (Exists.intro _ (by walk_at "HL")) ?_; (conv => whnf)) | (refine And.intro (by walk_at "HL") ?_; (conv => whnf)) | (refine And.intro (And.intro rfl rfl) ?_; (conv => whnf)) | (refine And.intro (Nat.le_of_ble_eq_true rfl) ?_; (conv => whnf)) | (refine And.intro (by decide) ?_; (conv => whnf)) | (refine And.intro (by omega) ?_; (conv => whnf)) | (refine Exists.intro _ (And.intro (by walk_at "HL") ?_); (conv => whnf)) | (refine Exists.intro _ (And.intro rfl ?_); (conv => whnf)) | (refine Exists.intro _ (Exists.intro _ (And.intro (by walk_at "HL") (And.intro rfl ?_))); (conv => whnf)) | (refine Exists.intro _ (Exists.intro _ (And.intro (by walk_at "HL") (And.intro (And.intro (by decide) rfl) ?_))); (conv => whnf)) | (refine Exists.intro _ (Exists.intro _ (And.intro rfl (And.intro rfl ?_))); (conv => whnf)) | (refine Exists.intro _ (Exists.intro _ (And.intro (by walk_at "HL") (And.intro (by walk_at "HL") ?_))); (conv => whnf)) | (refine Exists.intro _ (And.intro (by walk_at "HL") (And.intro (by decide) ?_)); (conv => whnf)) | (refine br_t rfl ?_; (conv => whnf)) | (refine br_f rfl ?_; (conv => whnf)) | (refine And.intro (And.intro (by decide +kernel) (by decide +kernel)) ?_; (conv => whnf)) | (refine br_t (by decide +kernel) ?_; (conv => whnf)) | (refine br_f (by decide +kernel) ?_; (conv => whnf))))
local macro_rules | `(tactic| walk_at "GO") => `(tactic| (((try (conv => whnf)); repeat (walk_at "ONE"))))
local macro_rules | `(tactic| walk_at "GI") => `(tactic| (((conv => whnf); repeat (walk_at "ONI"))))
local macro_rules | `(tactic| walk_at "BB") => `(tactic| (first | rfl | (simp only [Bool.and_eq_true, Bool.or_eq_true, Bool.not_eq_true', Bool.and_eq_false_iff, Bool.not_eq_false', decide_eq_true_eq, decide_eq_false_iff_not, peq_int, List.length_map]; omega)))
def sp_cost : ZSp := fun vs M Q _ => ∃ (M0 : Mh) (w : Addr) (a : W8) (p : Pt) (k : Wk) (t : Nat) (c : Cl), vs = [.ref w, nI t, c.pv] ∧ Dis M0 w a ∧ M = Wk.at M0 w a (Bp p) k ∧ WkPre p k t ∧ c.Ok p ∧ Q (.int (k.cost p t c)) (Wk.at M0 w a (Bp p) k)
theorem o_cost (Φ : Nat → ZSp) (vs : List PV) (M : Mh) (Q : ZQ) (E : ZX) (h : sp_cost vs M Q E) : vs.length = 3 ∧ Reach M fun M1 => inl Φ 7 3 b_call_cost vs M1 Q E := by
  obtain ⟨M0, w, a, p, k, t, c, rfl, D, rfl, ⟨ok, po, ht⟩, co, hq⟩ := h
  have ht3 : t < k.rr.length := by rw [ok.r1]; exact ht
  have p3 := pk (f := PV.tup) [] ht3
  have okr := okRt ok ht3
  have n1 := ok.n1
  refine ⟨rfl, .done ⟨rfl, ?_⟩⟩
  unfold Wk.cost at hq
  walk_at "GO"
  refine br_intro (fun b => ?_) fun b => ?_
  · rw [b, if_pos rfl] at hq
    walk_at "GO"
    exact Qw.here hq
  rw [b] at hq
  simp only [Bool.false_eq_true, if_false] at hq
  have g0 : pick (k.ln.map eO) 0 = some (eO (gt k.ln none 0)) := pk (t := 0) none (by omega)
  have g1 : pick (k.ln.map eO) 1 = some (eO (gt k.ln none 1)) := pk (t := 1) none (by omega)
  cases c with
  | read i =>
    have hi : i < p.ps.length := co
    have pl0 : pick p.ls (i : Int) = some (gt p.ls .non i) := gt_some (by rw [po.s1]; exact hi)
    replace hq : Q (.int (if hasR (gt k.rr [] t) "read" i && missed p k i then p.c0 + p.c1 else p.c0)) (Wk.at M0 w a (Bp p) k) := hq
    walk_at "GO"
    refine ⟨⟨okD_rgt (by decide +kernel), okr⟩, ?_⟩
    walk_at "GO"
    refine br_intro (fun c => ?_) fun c => ?_
    · rw [show hasR (gt k.rr [] t) "read" i = true from c, Bool.true_and] at hq
      walk_at "GO"
      rcases ls_at po hi with e | e | e
      · have ms : missed p k i = true := by unfold missed; rw [e]
        rw [ms, if_pos rfl] at hq
        rw [e]
        walk_at "GO"
        exact Qw.here hq
      · have ms : missed p k i = !decide (gt k.ln none 0 = some i) := by unfold missed; rw [e]; rfl
        rw [e]
        walk_at "GO"
        cases e2 : gt k.ln none 0 with
        | none =>
          rw [ms, e2, decide_eq_false (by simp)] at hq
          walk_at "GO"
          exact Qw.here hq
        | some j =>
          rw [ms, e2] at hq
          walk_at "GO"
          refine br_nint (fun c => ?_) fun c => ?_
          · rw [decide_eq_false (by simp; omega)] at hq
            walk_at "GO"
            exact Qw.here hq
          · rw [decide_eq_true (by simp; omega)] at hq
            walk_at "GO"
            exact Qw.here hq
      · have ms : missed p k i = !decide (gt k.ln none 1 = some i) := by unfold missed; rw [e]; rfl
        rw [e]
        walk_at "GO"
        cases e2 : gt k.ln none 1 with
        | none =>
          rw [ms, e2, decide_eq_false (by simp)] at hq
          walk_at "GO"
          exact Qw.here hq
        | some j =>
          rw [ms, e2] at hq
          walk_at "GO"
          refine br_nint (fun c => ?_) fun c => ?_
          · rw [decide_eq_false (by simp; omega)] at hq
            walk_at "GO"
            exact Qw.here hq
          · rw [decide_eq_true (by simp; omega)] at hq
            walk_at "GO"
            exact Qw.here hq
    · rw [show hasR (gt k.rr [] t) "read" i = false from c, Bool.false_and] at hq
      simp only [Bool.false_eq_true, if_false] at hq
      walk_at "GO"
      exact Qw.here hq
  | write i v =>
    have hi : i < p.ps.length := co.1
    have pl0 : pick p.ls (i : Int) = some (gt p.ls .non i) := gt_some (by rw [po.s1]; exact hi)
    replace hq : Q (.int (if hasR (gt k.rr [] t) "write" i && missed p k i then p.c0 + p.c1 else p.c0)) (Wk.at M0 w a (Bp p) k) := hq
    walk_at "GO"
    refine ⟨⟨okD_rgt (by decide +kernel), okr⟩, ?_⟩
    walk_at "GO"
    refine br_intro (fun c => ?_) fun c => ?_
    · rw [show hasR (gt k.rr [] t) "write" i = true from c, Bool.true_and] at hq
      walk_at "GO"
      rcases ls_at po hi with e | e | e
      · have ms : missed p k i = true := by unfold missed; rw [e]
        rw [ms, if_pos rfl] at hq
        rw [e]
        walk_at "GO"
        exact Qw.here hq
      · have ms : missed p k i = !decide (gt k.ln none 0 = some i) := by unfold missed; rw [e]; rfl
        rw [e]
        walk_at "GO"
        cases e2 : gt k.ln none 0 with
        | none =>
          rw [ms, e2, decide_eq_false (by simp)] at hq
          walk_at "GO"
          exact Qw.here hq
        | some j =>
          rw [ms, e2] at hq
          walk_at "GO"
          refine br_nint (fun c => ?_) fun c => ?_
          · rw [decide_eq_false (by simp; omega)] at hq
            walk_at "GO"
            exact Qw.here hq
          · rw [decide_eq_true (by simp; omega)] at hq
            walk_at "GO"
            exact Qw.here hq
      · have ms : missed p k i = !decide (gt k.ln none 1 = some i) := by unfold missed; rw [e]; rfl
        rw [e]
        walk_at "GO"
        cases e2 : gt k.ln none 1 with
        | none =>
          rw [ms, e2, decide_eq_false (by simp)] at hq
          walk_at "GO"
          exact Qw.here hq
        | some j =>
          rw [ms, e2] at hq
          walk_at "GO"
          refine br_nint (fun c => ?_) fun c => ?_
          · rw [decide_eq_false (by simp; omega)] at hq
            walk_at "GO"
            exact Qw.here hq
          · rw [decide_eq_true (by simp; omega)] at hq
            walk_at "GO"
            exact Qw.here hq
    · rw [show hasR (gt k.rr [] t) "write" i = false from c, Bool.false_and] at hq
      simp only [Bool.false_eq_true, if_false] at hq
      walk_at "GO"
      exact Qw.here hq
  | seek x =>
    walk_at "GO"
    refine ⟨⟨okD_rgt (by decide +kernel), okr⟩, ?_⟩
    walk_at "GO"
    refine br_intro (fun c => ?_) fun c => ?_
    · have c' : hasR (gt k.rr [] t) "seek" 0 = true := c
      simp only [c', if_true] at hq
      walk_at "GO"
      exact Qw.here hq
    · have c' : hasR (gt k.rr [] t) "seek" 0 = false := c
      simp only [c', Bool.false_eq_true, if_false] at hq
      walk_at "GO"
      exact Qw.here hq
  | _ =>
    walk_at "GO"
    exact Qw.here hq
end HT
set_option Elab.async false
set_option linter.all false
set_option maxRecDepth 100000
set_option maxHeartbeats 1000000
namespace HT
open PySem PySem.Spec PyProof.Rows L2 Z
local macro_rules | `(tactic| walk_at "HL") => `(tactic| (first | assumption | exact put_same | exact at_w | exact at_1 (by assumption) | exact at_2 (by assumption) | exact at_3 (by assumption) | exact at_4 (by assumption) | exact at_5 (by assumption) | exact at_6 (by assumption) | exact at_7 (by assumption) | exact at_8 (by assumption) | (rw [put_ne (by first | assumption | (apply Ne.symm; assumption) | exact neN (at_w) (by assumption) | exact neN (at_1 (by assumption)) (by assumption) | exact neN (at_2 (by assumption)) (by assumption) | exact neN (at_3 (by assumption)) (by assumption) | exact neN (at_4 (by assumption)) (by assumption) | exact neN (at_5 (by assumption)) (by assumption) | exact neN (at_6 (by assumption)) (by assumption) | exact neN (at_7 (by assumption)) (by assumption) | exact neN (at_8 (by assumption)) (by assumption))]; first | assumption | exact put_same | exact at_w | exact at_1 (by assumption) | exact at_2 (by assumption) | exact at_3 (by assumption) | exact at_4 (by assumption) | exact at_5 (by assumption) | exact at_6 (by assumption) | exact at_7 (by assumption) | exact at_8 (by assumption) | (rw [put_ne (by first | assumption | (apply Ne.symm; assumption) | exact neN (at_w) (by assumption) | exact neN (at_1 (by assumption)) (by assumption) | exact neN (at_2 (by assumption)) (by assumption) | exact neN (at_3 (by assumption)) (by assumption) | exact neN (at_4 (by assumption)) (by assumption) | exact neN (at_5 (by assumption)) (by assumption) | exact neN (at_6 (by assumption)) (by assumption) | exact neN (at_7 (by assumption)) (by assumption) | exact neN (at_8 (by assumption)) (by assumption))]; first | assumption | exact put_same | exact at_w | exact at_1 (by assumption) | exact at_2 (by assumption) | exact at_3 (by assumption) | exact at_4 (by assumption) | exact at_5 (by assumption) | exact at_6 (by assumption) | exact at_7 (by assumption) | exact at_8 (by assumption) | (rw [put_ne (by first | assumption | (apply Ne.symm; assumption) | exact neN (at_w) (by assumption) | exact neN (at_1 (by assumption)) (by assumption) | exact neN (at_2 (by assumption)) (by assumption) | exact neN (at_3 (by assumption)) (by assumption) | exact neN (at_4 (by assumption)) (by assumption) | exact neN (at_5 (by assumption)) (by assumption) | exact neN (at_6 (by assumption)) (by assumption) | exact neN (at_7 (by assumption)) (by assumption) | exact neN (at_8 (by assumption)) (by assumption))]; first | assumption | exact put_same | exact at_w | exact at_1 (by assumption) | exact at_2 (by assumption) | exact at_3 (by assumption) | exact at_4 (by assumption) | exact at_5 (by assumption) | exact at_6 (by assumption) | exact at_7 (by assumption) | exact at_8 (by assumption))))))
local macro_rules | `(tactic| walk_at "ONE") => `(tactic| (first | (refine And.intro rfl ?_; (conv => whnf)) | (refine Exists.intro _ (Exists.intro _ (Exists.intro _ (Exists.intro _ (And.intro (by walk_at "HL") (And.intro (by assumption) (And.intro rfl ?_)))))); (conv => whnf)) | (refine Exists.intro _ (Exists.intro _ (Exists.intro _ (And.intro (by walk_at "HL") (And.intro (DSet.old (by assumption) (by decide +kernel) (by decide +kernel)) ?_)))); (conv => whnf)) | (refine Exists.intro _ (Exists.intro _ (Exists.intro _ (And.intro (by walk_at "HL") (And.intro (DSet.new (by decide +kernel) (by decide +kernel)) ?_)))); (conv => whnf)) | (refine And.intro True.intro ?_; (conv => whnf)) | (refine And.intro (Exists.intro _ (by walk_at "HL")) ?_; (conv => whnf)) | (refine And.intro (by walk_at "HL") ?_; (conv => whnf)) | (refine And.intro (And.intro rfl rfl) ?_; (conv => whnf)) | (refine And.intro (Nat.le_of_ble_eq_true rfl) ?_; (conv => whnf)) | (refine And.intro (by decide) ?_; (conv => whnf)) | (refine And.intro (by omega) ?_; (conv => whnf)) | (refine Exists.intro _ (And.intro (by walk_at "HL") ?_); (conv => whnf)) | (refine Exists.intro _ (And.intro rfl ?_); (conv => whnf)) | (refine Exists.intro _ (Exists.intro _ (And.intro (by walk_at "HL") (And.intro rfl ?_))); (conv => whnf)) | (refine Exists.intro _ (Exists.intro _ (And.intro (by walk_at "HL") (And.intro (And.intro (by decide) rfl) ?_))); (conv => whnf)) | (refine Exists.intro _ (Exists.intro _ (And.intro rfl (And.intro rfl ?_))); (conv => whnf)) | (refine Exists.intro _ (Exists.intro _ (And.intro (by walk_at "HL") (And.intro (by walk_at "HL") ?_))); (conv => whnf)) | (refine Exists.intro _ (And.intro (by walk_at "HL") (And.intro (by decide) ?_)); (conv => whnf)) | (refine br_t rfl ?_; (conv => whnf)) | (refine br_f rfl ?_; (conv => whnf)) | (refine And.intro (And.intro (by decide +kernel) (by decide +kernel)) ?_; (conv => whnf)) | (refine br_t (by decide +kernel) ?_; (conv => whnf)) | (refine br_f (by decide +kernel) ?_; (conv => whnf))))
local macro_rules | `(tactic| walk_at "ONI") => `(tactic| (first | (refine Qw.here ?_; (conv => whnf)) | (refine br_t (decide_eq_true (by omega)) ?_; (conv => whnf)) | (refine br_f (decide_eq_false (by omega)) ?_; (conv => whnf)) | (refine And.intro rfl ?_; (conv => whnf)) | (refine Exists.intro _ (Exists.intro _ (Exists.intro _ (Exists.intro _ (And.intro (by walk_at "HL") (And.intro (by assumption) (And.intro rfl ?_)))))); (conv => whnf)) | (refine Exists.intro _ (Exists.intro _ (Exists.intro _ (And.intro (by walk_at "HL") (And.intro (DSet.old (by assumption) (by decide +kernel) (by decide +kernel)) ?_)))); (conv => whnf)) | (refine Exists.intro _ (Exists.intro _ (Exists.intro _ (And.intro (by walk_at "HL") (And.intro (DSet.new (by decide +kernel) (by decide +kernel)) ?_)))); (conv => whnf)) | (refine And.intro True.intro ?_; (conv => whnf)) | (refine And.intro (Exists.intro _ (by walk_at "HL")) ?_; (conv => whnf)) | (refine And.intro (by walk_at "HL") ?_; (conv => whnf)) | (refine And.intro (And.intro rfl rfl) ?_; (conv => whnf)) | (refine And.intro (Nat.le_of_ble_eq_true rfl) ?_; (conv => whnf)) | (refine And.intro (by decide) ?_; (conv => whnf)) | (refine And.intro (by omega) ?_; (conv => whnf)) | (refine Exists.intro _ (And.intro (by walk_at "HL") ?_); (conv => whnf)) | (refine Exists.intro _ (And.intro rfl ?_); (conv => whnf)) | (refine Exists.intro _ (Exists.intro _ (And.intro (by walk_at "HL") (And.intro rfl ?_))); (conv => whnf)) | (refine Exists.intro _ (Exists.intro _ (And.intro (by walk_at "HL") (And.intro (And.intro (by decide) rfl) ?_))); (conv => whnf)) | (refine Exists.intro _ (Exists.intro _ (And.intro rfl (And.intro rfl ?_))); (conv => whnf)) | (refine Exists.intro _ (Exists.intro _ (And.intro (by walk_at "HL") (And.intro (by walk_at "HL") ?_))); (conv => whnf)) | (refine Exists.intro _ (And.intro (by walk_at "HL") (And.intro (by decide) ?_)); (conv => whnf)) | (refine br_t rfl ?_; (conv => whnf)) | (refine br_f rfl ?_; (conv => whnf)) | (refine And.intro (And.intro (by decide +kernel) (by decide +kernel)) ?_; (conv => whnf)) | (refine br_t (by decide +kernel) ?_; (conv => whnf)) | (refine br_f (by decide +kernel) ?_; (conv => whnf))))
local macro_rules | `(tactic| walk_at "GO") => `(tactic| (((try (conv => whnf)); repeat (walk_at "ONE"))))
local macro_rules | `(tactic| walk_at "GI") => `(tactic| (((conv => whnf); repeat (walk_at "ONI"))))
local macro_rules | `(tactic| walk_at "BB") => `(tactic| (first | rfl | (simp only [Bool.and_eq_true, Bool.or_eq_true, Bool.not_eq_true', Bool.and_eq_false_iff, Bool.not_eq_false', decide_eq_true_eq, decide_eq_false_iff_not, peq_int, List.length_map]; omega)))
def isObj : Cl → Prop
  | .read _ => True
  | .write _ _ => True
  | .send _ _ => True
  | .take _ => True
  | .wait _ => True
  | .lock _ => True
  | .free _ => True
  | _ => False
theorem o_object (Φ : Nat → ZSp) (h64 : Φ 64 = sp_page isPage) (h65 : Φ 65 = sp_page isSend) (h66 : Φ 66 = sp_page isTake) (h67 : Φ 67 = sp_page isLock) (h68 : Φ 68 = sp_page isFree) (vs : List PV) (M : Mh) (Q : ZQ) (E : ZX) (h : sp_page isObj vs M Q E) : vs.length = 3 ∧ Reach M fun M1 => inl Φ 3 3 b_object_answer vs M1 Q E := by
  obtain ⟨M0, w, a, p, k, t, c, rfl, D, rfl, pre, co, fc, hq⟩ := h
  refine ⟨rfl, .done ⟨rfl, ?_⟩⟩
  cases c with
  | read i =>
    walk_at "GO"
    rw [h64]
    exact ⟨M0, w, a, p, k, t, _, rfl, D, rfl, pre, co, True.intro, Qw.here hq⟩
  | write i v =>
    walk_at "GO"
    rw [h64]
    exact ⟨M0, w, a, p, k, t, _, rfl, D, rfl, pre, co, True.intro, Qw.here hq⟩
  | send q v =>
    walk_at "GO"
    rw [h65]
    exact ⟨M0, w, a, p, k, t, _, rfl, D, rfl, pre, co, True.intro, Qw.here hq⟩
  | take q =>
    walk_at "GO"
    rw [h66]
    exact ⟨M0, w, a, p, k, t, .take q, rfl, D, rfl, pre, co, True.intro, Qw.here hq⟩
  | wait q =>
    walk_at "GO"
    rw [h66]
    exact ⟨M0, w, a, p, k, t, .wait q, rfl, D, rfl, pre, co, True.intro, Qw.here hq⟩
  | lock l =>
    walk_at "GO"
    rw [h67]
    exact ⟨M0, w, a, p, k, t, .lock l, rfl, D, rfl, pre, co, True.intro, Qw.here hq⟩
  | free l =>
    walk_at "GO"
    rw [h68]
    exact ⟨M0, w, a, p, k, t, .free l, rfl, D, rfl, pre, co, True.intro, Qw.here hq⟩
  | _ => exact False.elim fc
theorem o_answer (Φ : Nat → ZSp) (h74 : Φ 74 = sp_page isObj) (h71 : Φ 71 = sp_page isSeek) (h72 : Φ 72 = sp_get_) (h73 : Φ 73 = sp_give) (vs : List PV) (M : Mh) (Q : ZQ) (E : ZX) (h : sp_page Cl.plain vs M Q E) : vs.length = 3 ∧ Reach M fun M1 => inl Φ 3 3 b_answer_of vs M1 Q E := by
  obtain ⟨M0, w, a, p, k, t, c, rfl, D, rfl, pre, co, fc, hq⟩ := h
  refine ⟨rfl, .done ⟨rfl, ?_⟩⟩
  have obj : ∀ c : Cl, isObj c → c.Ok p → Q (eA (k.ans p t c).2) (Wk.at M0 w a (Bp p) (k.ans p t c).1) → sp_page isObj [.ref w, nI t, c.pv] (Wk.at M0 w a (Bp p) k) (Qw Q) E := fun c f co hq => ⟨M0, w, a, p, k, t, c, rfl, D, rfl, pre, co, f, Qw.here hq⟩
  have ts : t < k.st.length := by rw [pre.1.s1]; exact pre.2.2
  have pst := pl (f := Stt.pv) ts
  cases c with
  | read i => walk_at "GO"; rw [h74]; exact ⟨M0, w, a, p, k, t, .read i, rfl, D, rfl, pre, co, True.intro, Qw.here hq⟩
  | write i v => walk_at "GO"; rw [h74]; exact ⟨M0, w, a, p, k, t, .write i v, rfl, D, rfl, pre, co, True.intro, Qw.here hq⟩
  | send q v => walk_at "GO"; rw [h74]; exact ⟨M0, w, a, p, k, t, .send q v, rfl, D, rfl, pre, co, True.intro, Qw.here hq⟩
  | take q => walk_at "GO"; rw [h74]; exact ⟨M0, w, a, p, k, t, .take q, rfl, D, rfl, pre, co, True.intro, Qw.here hq⟩
  | wait q => walk_at "GO"; rw [h74]; exact ⟨M0, w, a, p, k, t, .wait q, rfl, D, rfl, pre, co, True.intro, Qw.here hq⟩
  | lock l => walk_at "GO"; rw [h74]; exact ⟨M0, w, a, p, k, t, .lock l, rfl, D, rfl, pre, co, True.intro, Qw.here hq⟩
  | free l => walk_at "GO"; rw [h74]; exact ⟨M0, w, a, p, k, t, .free l, rfl, D, rfl, pre, co, True.intro, Qw.here hq⟩
  | seek x => walk_at "GO"; rw [h71]; exact ⟨M0, w, a, p, k, t, .seek x, rfl, D, rfl, pre, co, True.intro, Qw.here hq⟩
  | get => walk_at "GO"; rw [h72]; exact ⟨M0, w, a, p, k, t, rfl, D, rfl, pre, Qw.here hq⟩
  | give => walk_at "GO"; rw [h73]; exact ⟨M0, w, a, p, k, t, rfl, D, rfl, pre, Qw.here hq⟩
  | sleep n =>
    walk_at "GO"
    rw [show (k.st.map Stt.pv).set t (.tup [.str "asleep", .int n]) = (k.st.set t (.asleep n)).map Stt.pv by rw [List.map_set]; rfl, set_1 D]
    exact Qw.here hq
  | pass => walk_at "GO"; exact Qw.here hq
  | _ => exact False.elim fc
def sp_make_call : ZSp := fun vs M Q _ => ∃ (M0 : Mh) (w : Addr) (a : W8) (p : Pt) (k : Wk) (t : Nat) (c : Cl), vs = [.ref w, nI t, c.pv] ∧ Dis M0 w a ∧ M = Wk.at M0 w a (Bp p) k ∧ WkPre p k t ∧ gt k.st .ready t = .ready ∧ c.Ok p ∧ c.plain ∧ Q .non (Wk.at M0 w a (Bp p) (k.make p t c))
theorem o_make_call (Φ : Nat → ZSp) (h63 : Φ 63 = sp_cost) (h75 : Φ 75 = sp_page Cl.plain) (vs : List PV) (M : Mh) (Q : ZQ) (E : ZX) (h : sp_make_call vs M Q E) : vs.length = 3 ∧ Reach M fun M1 => inl Φ 5 3 b_make_call vs M1 Q E := by
  obtain ⟨M0, w, a, p, k, t, c, rfl, D, rfl, ⟨ok, po, ht⟩, hr, co, fc, hq⟩ := h
  have ta : t < k.an.length := by rw [ok.a1]; exact ht
  have pan := pl (f := eA) ta
  refine ⟨rfl, .done ⟨rfl, ?_⟩⟩
  walk_at "GO"
  rw [h63]
  refine ⟨M0, w, a, p, k, t, c, rfl, D, rfl, ⟨ok, po, ht⟩, co, ?_⟩
  walk_at "GO"
  rw [show (k.an.map eA).set t .non = (k.an.set t none).map eA by rw [List.map_set], set_2 D]
  walk_at "GO"
  have ok1 : Wk.Ok p { k with an := k.an.set t none } := ok_an ok (.inl rfl)
  rw [h75]
  refine ⟨M0, w, a, p, { k with an := k.an.set t none }, t, c, rfl, D, rfl, ⟨ok1, po, ht⟩, co, fc, ?_⟩
  obtain ⟨ok2, an2⟩ := ok_ans ok1 po ht hr co
  unfold Wk.make at hq
  generalize Wk.ans p { k with an := k.an.set t none } t c = r at hq ok2 an2
  obtain ⟨k2, x⟩ := r
  have pan2 := pl (f := eA) (show t < k2.an.length by rw [ok2.a1]; exact ht)
  walk_at "GO"
  rw [← List.map_set, set_2 D]
  walk_at "GO"
  simp only [List.set_cons_zero, List.set_cons_succ]
  rw [set_ww]
  rcases plan_lv po.g1 with ⟨e1, sp, _, _, e2⟩ | ⟨e1, rows, _, _, _, e2⟩
  · rw [e2]
    simp only [e1, if_true] at hq
    walk_at "GO"
    simp only [List.set_cons_zero, List.set_cons_succ]
    rw [set_ww]
    exact Qw.here hq
  · rw [e2]
    simp only [e1, Bool.false_eq_true, if_false] at hq
    walk_at "GO"
    exact Qw.here hq
end HT
set_option Elab.async false
set_option linter.all false
set_option maxRecDepth 100000
set_option maxHeartbeats 1000000
namespace HT
open PySem PySem.Spec PyProof.Rows L2 Z
local macro_rules | `(tactic| walk_at "HL") => `(tactic| (first | assumption | exact put_same | exact at_w | exact at_1 (by assumption) | exact at_2 (by assumption) | exact at_3 (by assumption) | exact at_4 (by assumption) | exact at_5 (by assumption) | exact at_6 (by assumption) | exact at_7 (by assumption) | exact at_8 (by assumption) | (rw [put_ne (by first | assumption | (apply Ne.symm; assumption) | exact neN (at_w) (by assumption) | exact neN (at_1 (by assumption)) (by assumption) | exact neN (at_2 (by assumption)) (by assumption) | exact neN (at_3 (by assumption)) (by assumption) | exact neN (at_4 (by assumption)) (by assumption) | exact neN (at_5 (by assumption)) (by assumption) | exact neN (at_6 (by assumption)) (by assumption) | exact neN (at_7 (by assumption)) (by assumption) | exact neN (at_8 (by assumption)) (by assumption))]; first | assumption | exact put_same | exact at_w | exact at_1 (by assumption) | exact at_2 (by assumption) | exact at_3 (by assumption) | exact at_4 (by assumption) | exact at_5 (by assumption) | exact at_6 (by assumption) | exact at_7 (by assumption) | exact at_8 (by assumption) | (rw [put_ne (by first | assumption | (apply Ne.symm; assumption) | exact neN (at_w) (by assumption) | exact neN (at_1 (by assumption)) (by assumption) | exact neN (at_2 (by assumption)) (by assumption) | exact neN (at_3 (by assumption)) (by assumption) | exact neN (at_4 (by assumption)) (by assumption) | exact neN (at_5 (by assumption)) (by assumption) | exact neN (at_6 (by assumption)) (by assumption) | exact neN (at_7 (by assumption)) (by assumption) | exact neN (at_8 (by assumption)) (by assumption))]; first | assumption | exact put_same | exact at_w | exact at_1 (by assumption) | exact at_2 (by assumption) | exact at_3 (by assumption) | exact at_4 (by assumption) | exact at_5 (by assumption) | exact at_6 (by assumption) | exact at_7 (by assumption) | exact at_8 (by assumption) | (rw [put_ne (by first | assumption | (apply Ne.symm; assumption) | exact neN (at_w) (by assumption) | exact neN (at_1 (by assumption)) (by assumption) | exact neN (at_2 (by assumption)) (by assumption) | exact neN (at_3 (by assumption)) (by assumption) | exact neN (at_4 (by assumption)) (by assumption) | exact neN (at_5 (by assumption)) (by assumption) | exact neN (at_6 (by assumption)) (by assumption) | exact neN (at_7 (by assumption)) (by assumption) | exact neN (at_8 (by assumption)) (by assumption))]; first | assumption | exact put_same | exact at_w | exact at_1 (by assumption) | exact at_2 (by assumption) | exact at_3 (by assumption) | exact at_4 (by assumption) | exact at_5 (by assumption) | exact at_6 (by assumption) | exact at_7 (by assumption) | exact at_8 (by assumption))))))
local macro_rules | `(tactic| walk_at "ONE") => `(tactic| (first | (refine And.intro rfl ?_; (conv => whnf)) | (refine Exists.intro _ (Exists.intro _ (Exists.intro _ (Exists.intro _ (And.intro (by walk_at "HL") (And.intro (by assumption) (And.intro rfl ?_)))))); (conv => whnf)) | (refine Exists.intro _ (Exists.intro _ (Exists.intro _ (And.intro (by walk_at "HL") (And.intro (DSet.old (by assumption) (by decide +kernel) (by decide +kernel)) ?_)))); (conv => whnf)) | (refine Exists.intro _ (Exists.intro _ (Exists.intro _ (And.intro (by walk_at "HL") (And.intro (DSet.new (by decide +kernel) (by decide +kernel)) ?_)))); (conv => whnf)) | (refine And.intro True.intro ?_; (conv => whnf)) | (refine And.intro (Exists.intro _ (by walk_at "HL")) ?_; (conv => whnf)) | (refine And.intro (by walk_at "HL") ?_; (conv => whnf)) | (refine And.intro (And.intro rfl rfl) ?_; (conv => whnf)) | (refine And.intro (Nat.le_of_ble_eq_true rfl) ?_; (conv => whnf)) | (refine And.intro (by decide) ?_; (conv => whnf)) | (refine And.intro (by omega) ?_; (conv => whnf)) | (refine Exists.intro _ (And.intro (by walk_at "HL") ?_); (conv => whnf)) | (refine Exists.intro _ (And.intro rfl ?_); (conv => whnf)) | (refine Exists.intro _ (Exists.intro _ (And.intro (by walk_at "HL") (And.intro rfl ?_))); (conv => whnf)) | (refine Exists.intro _ (Exists.intro _ (And.intro (by walk_at "HL") (And.intro (And.intro (by decide) rfl) ?_))); (conv => whnf)) | (refine Exists.intro _ (Exists.intro _ (And.intro rfl (And.intro rfl ?_))); (conv => whnf)) | (refine Exists.intro _ (Exists.intro _ (And.intro (by walk_at "HL") (And.intro (by walk_at "HL") ?_))); (conv => whnf)) | (refine Exists.intro _ (And.intro (by walk_at "HL") (And.intro (by decide) ?_)); (conv => whnf)) | (refine br_t rfl ?_; (conv => whnf)) | (refine br_f rfl ?_; (conv => whnf)) | (refine And.intro (And.intro (by decide +kernel) (by decide +kernel)) ?_; (conv => whnf)) | (refine br_t (by decide +kernel) ?_; (conv => whnf)) | (refine br_f (by decide +kernel) ?_; (conv => whnf))))
local macro_rules | `(tactic| walk_at "ONI") => `(tactic| (first | (refine Qw.here ?_; (conv => whnf)) | (refine br_t (decide_eq_true (by omega)) ?_; (conv => whnf)) | (refine br_f (decide_eq_false (by omega)) ?_; (conv => whnf)) | (refine And.intro rfl ?_; (conv => whnf)) | (refine Exists.intro _ (Exists.intro _ (Exists.intro _ (Exists.intro _ (And.intro (by walk_at "HL") (And.intro (by assumption) (And.intro rfl ?_)))))); (conv => whnf)) | (refine Exists.intro _ (Exists.intro _ (Exists.intro _ (And.intro (by walk_at "HL") (And.intro (DSet.old (by assumption) (by decide +kernel) (by decide +kernel)) ?_)))); (conv => whnf)) | (refine Exists.intro _ (Exists.intro _ (Exists.intro _ (And.intro (by walk_at "HL") (And.intro (DSet.new (by decide +kernel) (by decide +kernel)) ?_)))); (conv => whnf)) | (refine And.intro True.intro ?_; (conv => whnf)) | (refine And.intro (Exists.intro _ (by walk_at "HL")) ?_; (conv => whnf)) | (refine And.intro (by walk_at "HL") ?_; (conv => whnf)) | (refine And.intro (And.intro rfl rfl) ?_; (conv => whnf)) | (refine And.intro (Nat.le_of_ble_eq_true rfl) ?_; (conv => whnf)) | (refine And.intro (by decide) ?_; (conv => whnf)) | (refine And.intro (by omega) ?_; (conv => whnf)) | (refine Exists.intro _ (And.intro (by walk_at "HL") ?_); (conv => whnf)) | (refine Exists.intro _ (And.intro rfl ?_); (conv => whnf)) | (refine Exists.intro _ (Exists.intro _ (And.intro (by walk_at "HL") (And.intro rfl ?_))); (conv => whnf)) | (refine Exists.intro _ (Exists.intro _ (And.intro (by walk_at "HL") (And.intro (And.intro (by decide) rfl) ?_))); (conv => whnf)) | (refine Exists.intro _ (Exists.intro _ (And.intro rfl (And.intro rfl ?_))); (conv => whnf)) | (refine Exists.intro _ (Exists.intro _ (And.intro (by walk_at "HL") (And.intro (by walk_at "HL") ?_))); (conv => whnf)) | (refine Exists.intro _ (And.intro (by walk_at "HL") (And.intro (by decide) ?_)); (conv => whnf)) | (refine br_t rfl ?_; (conv => whnf)) | (refine br_f rfl ?_; (conv => whnf)) | (refine And.intro (And.intro (by decide +kernel) (by decide +kernel)) ?_; (conv => whnf)) | (refine br_t (by decide +kernel) ?_; (conv => whnf)) | (refine br_f (by decide +kernel) ?_; (conv => whnf))))
local macro_rules | `(tactic| walk_at "GO") => `(tactic| (((try (conv => whnf)); repeat (walk_at "ONE"))))
local macro_rules | `(tactic| walk_at "GI") => `(tactic| (((conv => whnf); repeat (walk_at "ONI"))))
local macro_rules | `(tactic| walk_at "BB") => `(tactic| (first | rfl | (simp only [Bool.and_eq_true, Bool.or_eq_true, Bool.not_eq_true', Bool.and_eq_false_iff, Bool.not_eq_false', decide_eq_true_eq, decide_eq_false_iff_not, peq_int, List.length_map]; omega)))
/-! ### turns, ticks -/
def sp_turn (f : Pt → Prop) : ZSp := fun vs M Q _ => ∃ (M0 : Mh) (w : Addr) (a : W8) (p : Pt) (k : Wk), vs = [.ref w] ∧ Dis M0 w a ∧ M = Wk.at M0 w a (Bp p) k ∧ k.Ok p ∧ p.Ok ∧ f p ∧ ∀ a', Dis M0 w a' → Q (eO (k.turn p).2) (Wk.at M0 w a' (Bp p) (k.turn p).1)
def sp_by_levels : ZSp := fun vs M Q _ => ∃ (M0 : Mh) (w : Addr) (a : W8) (p : Pt) (k : Wk), vs = [.ref w] ∧ Dis M0 w a ∧ M = Wk.at M0 w a (Bp p) k ∧ k.Ok p ∧ p.Ok ∧ isLevels p.pl = true ∧ ∀ a', Dis M0 w a' → Q (eO (k.byLevels p).2) (Wk.at M0 w a' (Bp p) (k.byLevels p).1)
theorem o_turn (Φ : Nat → ZSp) (h83 : Φ 83 = sp_by_slots) (f : Pt → Prop) (h82 : (∃ p, f p ∧ isLevels p.pl = true) → Φ 82 = sp_by_levels) (vs : List PV) (M : Mh) (Q : ZQ) (E : ZX) (h : sp_turn f vs M Q E) : vs.length = 1 ∧ Reach M fun M1 => inl Φ 1 1 b_turn vs M1 Q E := by
  obtain ⟨M0, w, a, p, k, rfl, D, rfl, ok, po, hf, hq⟩ := h
  refine ⟨rfl, .done ⟨rfl, ?_⟩⟩
  unfold Wk.turn at hq
  walk_at "GO"
  refine br_intro (fun c => ?_) fun c => ?_
  · simp only [if_pos (of_decide_eq_true c)] at hq
    walk_at "GO"
    exact Qw.here (hq a D)
  · simp only [if_neg (of_decide_eq_false c)] at hq
    walk_at "GO"
    rcases plan_lv po.g1 with ⟨e1, sp, _, _, e2⟩ | ⟨e1, rows, _, _, _, e2⟩
    · rw [e2]
      simp only [e1, if_true] at hq
      walk_at "GO"
      rw [h82 ⟨p, hf, e1⟩]
      exact ⟨M0, w, a, p, k, rfl, D, rfl, ok, po, e1, fun a' D' => Qw.here (hq a' D')⟩
    · rw [e2]
      simp only [e1, Bool.false_eq_true, if_false] at hq
      walk_at "GO"
      rw [h83]
      exact ⟨M0, w, a, p, k, rfl, D, rfl, ok, po, e1, fun a' D' => Qw.here (hq a' D')⟩
def sp_opened (f : Pt → Prop) : ZSp := fun vs M Q _ => ∃ (p : Pt) (k : Wk) (l : Option Int), vs = [Bp p, k.shape, match l with | some v => .int v | none => .non] ∧ k.Ok p ∧ p.Ok ∧ f p ∧ (∀ v, l = some v → (0 ≤ v ∧ v ≤ 1) ∧ p.ou ≠ .non) ∧ ∀ w a, Dis M w a → Q (.tup [.ref w, eO (k.opened p l).2]) (Wk.at M w a (Bp p) (k.opened p l).1)
theorem dis_of {M0 : Mh} {w : Addr} (h : M0 w = none) : True := True.intro
theorem o_opened (Φ : Nat → ZSp) (h55 : Φ 55 = sp_work) (h61 : Φ 61 = sp_deliver) (h62 : Φ 62 = sp_sleep_on) (f : Pt → Prop) (h84 : Φ 84 = sp_turn f) (vs : List PV) (M : Mh) (Q : ZQ) (E : ZX) (h : sp_opened f vs M Q E) : vs.length = 3 ∧ Reach M fun M1 => inl Φ 4 3 b_opened vs M1 Q E := by
  obtain ⟨p, k, l, rfl, ok, po, hf, hl, hq⟩ := h
  refine ⟨rfl, .done ⟨rfl, ?_⟩⟩
  walk_at "GO"
  intro w hw
  rw [h55]
  refine ⟨w, p, k, M, rfl, hw, rfl, fun a D => ?_⟩
  unfold Wk.opened at hq
  cases l with
  | none =>
    simp only [Wk.arr] at hq
    walk_at "GO"
    rw [h62]
    refine ⟨M, w, a, p, k, rfl, D, rfl, ok, po, ?_⟩
    have ok2 := ok_sleepOn ok
    obtain ⟨k2, hk2⟩ : ∃ k2, k2 = Wk.sleepOn k := ⟨_, rfl⟩
    rw [← hk2] at hq ok2 ⊢
    walk_at "GO"
    refine br_intro (fun c => ?_) fun c => ?_
    · have c := of_decide_eq_true c
      rw [show k2.less = { k2 with bu := k2.bu - 1 } from if_pos c] at hq
      walk_at "GO"
      simp only [List.set_cons_zero, List.set_cons_succ]
      rw [set_ww]
      walk_at "GO"
      rw [h84]
      refine ⟨M, w, a, p, { k2 with bu := k2.bu - 1 }, rfl, D, rfl, { ok2 with bu := show 0 ≤ k2.bu - 1 by omega }, po, hf, fun a' D' => ?_⟩
      walk_at "GO"
      exact Qw.here (hq w a' D')
    · have c := of_decide_eq_false c
      rw [show k2.less = k2 from if_neg c] at hq
      walk_at "GO"
      rw [h84]
      refine ⟨M, w, a, p, k2, rfl, D, rfl, ok2, po, hf, fun a' D' => ?_⟩
      walk_at "GO"
      exact Qw.here (hq w a' D')
  | some v =>
    obtain ⟨hv, hou⟩ := hl v rfl
    rcases po.o1 with e | ⟨x, y, hx, hy, e⟩
    · exact absurd e hou
    have ep : outPort p.ou = x.toNat := by rw [e]; rfl
    have exx : x = ((x.toNat : Nat) : Int) := by omega
    simp only [Wk.arr, ep] at hq
    rw [exx] at e
    have hxn : x.toNat < p.qs.length := by omega
    generalize x.toNat = q at hq e hxn
    walk_at "GO"
    rw [e]
    walk_at "GO"
    rw [h61]
    refine ⟨M, w, a, p, k, q, v, rfl, D, rfl, ok, po, hxn, hv, ?_⟩
    walk_at "GO"
    rw [h62]
    refine ⟨M, w, a, p, (k.deliver p q v), rfl, D, rfl, (ok_deliver ok po hxn hv), po, ?_⟩
    have ok2 := ok_sleepOn (ok_deliver ok po hxn hv)
    obtain ⟨k2, hk2⟩ : ∃ k2, k2 = Wk.sleepOn (k.deliver p q v) := ⟨_, rfl⟩
    rw [← hk2] at hq ok2 ⊢
    walk_at "GO"
    refine br_intro (fun c => ?_) fun c => ?_
    · have c := of_decide_eq_true c
      rw [show k2.less = { k2 with bu := k2.bu - 1 } from if_pos c] at hq
      walk_at "GO"
      simp only [List.set_cons_zero, List.set_cons_succ]
      rw [set_ww]
      walk_at "GO"
      rw [h84]
      refine ⟨M, w, a, p, { k2 with bu := k2.bu - 1 }, rfl, D, rfl, { ok2 with bu := show 0 ≤ k2.bu - 1 by omega }, po, hf, fun a' D' => ?_⟩
      walk_at "GO"
      exact Qw.here (hq w a' D')
    · have c := of_decide_eq_false c
      rw [show k2.less = k2 from if_neg c] at hq
      walk_at "GO"
      rw [h84]
      refine ⟨M, w, a, p, k2, rfl, D, rfl, ok2, po, hf, fun a' D' => ?_⟩
      walk_at "GO"
      exact Qw.here (hq w a' D')
def sp_closed : ZSp := fun vs M Q _ => ∃ (M0 : Mh) (w : Addr) (a : W8) (p : Pt) (k : Wk) (t : Option Nat) (c : Cl) (cv : PV), vs = [.ref w, eO t, cv] ∧ Dis M0 w a ∧ M = Wk.at M0 w a (Bp p) k ∧ k.Ok p ∧ p.Ok ∧ (∀ u, t = some u → u < p.ts.length ∧ gt k.st .ready u = .ready ∧ c.Ok p ∧ c.plain ∧ cv = c.pv) ∧ Q (.tup [seen k t, (k.closed p t c).shape]) M0
theorem o_closed (Φ : Nat → ZSp) (h76 : Φ 76 = sp_make_call) (h60 : Φ 60 = sp_shape) (vs : List PV) (M : Mh) (Q : ZQ) (E : ZX) (h : sp_closed vs M Q E) : vs.length = 3 ∧ Reach M fun M1 => inl Φ 4 3 b_closed vs M1 Q E := by
  obtain ⟨M0, w, a, p, k, t, c, cv, rfl, D, rfl, ok, po, ht, hq⟩ := h
  have pp := per_pos' po
  refine ⟨rfl, .done ⟨rfl, ?_⟩⟩
  unfold Wk.closed Wk.call at hq
  cases t with
  | none =>
    walk_at "GO"
    simp only [List.set_cons_zero, List.set_cons_succ]
    rw [set_ww, h60]
    refine ⟨M0, w, a, p, _, rfl, D, rfl, ?_⟩
    walk_at "GO"
    exact Qw.by (Weak.sub (at_weak D)) hq
  | some t =>
    obtain ⟨htt, hr, co, fc, rfl⟩ := ht t rfl
    have pan := pk (f := eA) none (show t < k.an.length by rw [ok.a1]; exact htt)
    walk_at "GO"
    rw [h76]
    refine ⟨M0, w, a, p, k, t, c, rfl, D, rfl, ⟨ok, po, htt⟩, hr, co, fc, ?_⟩
    walk_at "GO"
    simp only [List.set_cons_zero, List.set_cons_succ]
    rw [set_ww, h60]
    refine ⟨M0, w, a, p, _, rfl, D, rfl, ?_⟩
    walk_at "GO"
    exact Qw.by (Weak.sub (at_weak D)) hq
end HT
set_option Elab.async false
set_option linter.all false
set_option maxRecDepth 100000
set_option maxHeartbeats 1000000
namespace HT
open PySem PySem.Spec PyProof.Rows L2 Z
local macro_rules | `(tactic| walk_at "HL") => `(tactic| (first | assumption | exact put_same | exact at_w | exact at_1 (by assumption) | exact at_2 (by assumption) | exact at_3 (by assumption) | exact at_4 (by assumption) | exact at_5 (by assumption) | exact at_6 (by assumption) | exact at_7 (by assumption) | exact at_8 (by assumption) | (rw [put_ne (by first | assumption | (apply Ne.symm; assumption) | exact neN (at_w) (by assumption) | exact neN (at_1 (by assumption)) (by assumption) | exact neN (at_2 (by assumption)) (by assumption) | exact neN (at_3 (by assumption)) (by assumption) | exact neN (at_4 (by assumption)) (by assumption) | exact neN (at_5 (by assumption)) (by assumption) | exact neN (at_6 (by assumption)) (by assumption) | exact neN (at_7 (by assumption)) (by assumption) | exact neN (at_8 (by assumption)) (by assumption))]; first | assumption | exact put_same | exact at_w | exact at_1 (by assumption) | exact at_2 (by assumption) | exact at_3 (by assumption) | exact at_4 (by assumption) | exact at_5 (by assumption) | exact at_6 (by assumption) | exact at_7 (by assumption) | exact at_8 (by assumption) | (rw [put_ne (by first | assumption | (apply Ne.symm; assumption) | exact neN (at_w) (by assumption) | exact neN (at_1 (by assumption)) (by assumption) | exact neN (at_2 (by assumption)) (by assumption) | exact neN (at_3 (by assumption)) (by assumption) | exact neN (at_4 (by assumption)) (by assumption) | exact neN (at_5 (by assumption)) (by assumption) | exact neN (at_6 (by assumption)) (by assumption) | exact neN (at_7 (by assumption)) (by assumption) | exact neN (at_8 (by assumption)) (by assumption))]; first | assumption | exact put_same | exact at_w | exact at_1 (by assumption) | exact at_2 (by assumption) | exact at_3 (by assumption) | exact at_4 (by assumption) | exact at_5 (by assumption) | exact at_6 (by assumption) | exact at_7 (by assumption) | exact at_8 (by assumption) | (rw [put_ne (by first | assumption | (apply Ne.symm; assumption) | exact neN (at_w) (by assumption) | exact neN (at_1 (by assumption)) (by assumption) | exact neN (at_2 (by assumption)) (by assumption) | exact neN (at_3 (by assumption)) (by assumption) | exact neN (at_4 (by assumption)) (by assumption) | exact neN (at_5 (by assumption)) (by assumption) | exact neN (at_6 (by assumption)) (by assumption) | exact neN (at_7 (by assumption)) (by assumption) | exact neN (at_8 (by assumption)) (by assumption))]; first | assumption | exact put_same | exact at_w | exact at_1 (by assumption) | exact at_2 (by assumption) | exact at_3 (by assumption) | exact at_4 (by assumption) | exact at_5 (by assumption) | exact at_6 (by assumption) | exact at_7 (by assumption) | exact at_8 (by assumption))))))
local macro_rules | `(tactic| walk_at "ONE") => `(tactic| (first | (refine And.intro rfl ?_; (conv => whnf)) | (refine Exists.intro _ (Exists.intro _ (Exists.intro _ (Exists.intro _ (And.intro (by walk_at "HL") (And.intro (by assumption) (And.intro rfl ?_)))))); (conv => whnf)) | (refine Exists.intro _ (Exists.intro _ (Exists.intro _ (And.intro (by walk_at "HL") (And.intro (DSet.old (by assumption) (by decide +kernel) (by decide +kernel)) ?_)))); (conv => whnf)) | (refine Exists.intro _ (Exists.intro _ (Exists.intro _ (And.intro (by walk_at "HL") (And.intro (DSet.new (by decide +kernel) (by decide +kernel)) ?_)))); (conv => whnf)) | (refine And.intro True.intro ?_; (conv => whnf)) | (refine And.intro (Exists.intro _ (by walk_at "HL")) ?_; (conv => whnf)) | (refine And.intro (by walk_at "HL") ?_; (conv => whnf)) | (refine And.intro (And.intro rfl rfl) ?_; (conv => whnf)) | (refine And.intro (Nat.le_of_ble_eq_true rfl) ?_; (conv => whnf)) | (refine And.intro (by decide) ?_; (conv => whnf)) | (refine And.intro (by omega) ?_; (conv => whnf)) | (refine Exists.intro _ (And.intro (by walk_at "HL") ?_); (conv => whnf)) | (refine Exists.intro _ (And.intro rfl ?_); (conv => whnf)) | (refine Exists.intro _ (Exists.intro _ (And.intro (by walk_at "HL") (And.intro rfl ?_))); (conv => whnf)) | (refine Exists.intro _ (Exists.intro _ (And.intro (by walk_at "HL") (And.intro (And.intro (by decide) rfl) ?_))); (conv => whnf)) | (refine Exists.intro _ (Exists.intro _ (And.intro rfl (And.intro rfl ?_))); (conv => whnf)) | (refine Exists.intro _ (Exists.intro _ (And.intro (by walk_at "HL") (And.intro (by walk_at "HL") ?_))); (conv => whnf)) | (refine Exists.intro _ (And.intro (by walk_at "HL") (And.intro (by decide) ?_)); (conv => whnf)) | (refine br_t rfl ?_; (conv => whnf)) | (refine br_f rfl ?_; (conv => whnf)) | (refine And.intro (And.intro (by decide +kernel) (by decide +kernel)) ?_; (conv => whnf)) | (refine br_t (by decide +kernel) ?_; (conv => whnf)) | (refine br_f (by decide +kernel) ?_; (conv => whnf))))
local macro_rules | `(tactic| walk_at "ONI") => `(tactic| (first | (refine Qw.here ?_; (conv => whnf)) | (refine br_t (decide_eq_true (by omega)) ?_; (conv => whnf)) | (refine br_f (decide_eq_false (by omega)) ?_; (conv => whnf)) | (refine And.intro rfl ?_; (conv => whnf)) | (refine Exists.intro _ (Exists.intro _ (Exists.intro _ (Exists.intro _ (And.intro (by walk_at "HL") (And.intro (by assumption) (And.intro rfl ?_)))))); (conv => whnf)) | (refine Exists.intro _ (Exists.intro _ (Exists.intro _ (And.intro (by walk_at "HL") (And.intro (DSet.old (by assumption) (by decide +kernel) (by decide +kernel)) ?_)))); (conv => whnf)) | (refine Exists.intro _ (Exists.intro _ (Exists.intro _ (And.intro (by walk_at "HL") (And.intro (DSet.new (by decide +kernel) (by decide +kernel)) ?_)))); (conv => whnf)) | (refine And.intro True.intro ?_; (conv => whnf)) | (refine And.intro (Exists.intro _ (by walk_at "HL")) ?_; (conv => whnf)) | (refine And.intro (by walk_at "HL") ?_; (conv => whnf)) | (refine And.intro (And.intro rfl rfl) ?_; (conv => whnf)) | (refine And.intro (Nat.le_of_ble_eq_true rfl) ?_; (conv => whnf)) | (refine And.intro (by decide) ?_; (conv => whnf)) | (refine And.intro (by omega) ?_; (conv => whnf)) | (refine Exists.intro _ (And.intro (by walk_at "HL") ?_); (conv => whnf)) | (refine Exists.intro _ (And.intro rfl ?_); (conv => whnf)) | (refine Exists.intro _ (Exists.intro _ (And.intro (by walk_at "HL") (And.intro rfl ?_))); (conv => whnf)) | (refine Exists.intro _ (Exists.intro _ (And.intro (by walk_at "HL") (And.intro (And.intro (by decide) rfl) ?_))); (conv => whnf)) | (refine Exists.intro _ (Exists.intro _ (And.intro rfl (And.intro rfl ?_))); (conv => whnf)) | (refine Exists.intro _ (Exists.intro _ (And.intro (by walk_at "HL") (And.intro (by walk_at "HL") ?_))); (conv => whnf)) | (refine Exists.intro _ (And.intro (by walk_at "HL") (And.intro (by decide) ?_)); (conv => whnf)) | (refine br_t rfl ?_; (conv => whnf)) | (refine br_f rfl ?_; (conv => whnf)) | (refine And.intro (And.intro (by decide +kernel) (by decide +kernel)) ?_; (conv => whnf)) | (refine br_t (by decide +kernel) ?_; (conv => whnf)) | (refine br_f (by decide +kernel) ?_; (conv => whnf))))
local macro_rules | `(tactic| walk_at "GO") => `(tactic| (((try (conv => whnf)); repeat (walk_at "ONE"))))
local macro_rules | `(tactic| walk_at "GI") => `(tactic| (((conv => whnf); repeat (walk_at "ONI"))))
local macro_rules | `(tactic| walk_at "BB") => `(tactic| (first | rfl | (simp only [Bool.and_eq_true, Bool.or_eq_true, Bool.not_eq_true', Bool.and_eq_false_iff, Bool.not_eq_false', decide_eq_true_eq, decide_eq_false_iff_not, peq_int, List.length_map]; omega)))
/-! ### moments -/
abbrev Mo (p : Pt) (k : Wk) : PV := .ins 2 [Bp p, k.shape]
abbrev eLt : Option Int → PV
  | some v => .int v
  | none => .non
def sp_minit : ZSp := fun vs M Q _ => ∃ (a : Addr) (b s : PV), vs = [.ref a, b, s] ∧ M a = some (.ins 2 [none, none]) ∧ Q .non (put M a (.ins 2 [some b, some s]))
theorem o_minit (Φ : Nat → ZSp) (vs : List PV) (M : Mh) (Q : ZQ) (E : ZX) (h : sp_minit vs M Q E) : vs.length = 3 ∧ Reach M fun M1 => inl Φ 3 3 b_Moment___init__ vs M1 Q E := by
  obtain ⟨a, b, s, rfl, hM, hq⟩ := h
  refine ⟨rfl, .done ⟨rfl, ?_⟩⟩
  walk_at "GO"
  rw [put_put]
  exact Qw.here hq
def sp_is_task : ZSp := fun vs M Q _ => ∃ (p : Pt) (t : Nat), vs = [Bp p, nI t] ∧ t < p.ts.length ∧ Q (.bl true) M
theorem o_is_task (Φ : Nat → ZSp) (h4 : Φ 4 = sp_is_index) (vs : List PV) (M : Mh) (Q : ZQ) (E : ZX) (h : sp_is_task vs M Q E) : vs.length = 2 ∧ Reach M fun M1 => inl Φ 2 2 b_is_task vs M1 Q E := by
  obtain ⟨p, t, rfl, ht, hq⟩ := h
  refine ⟨rfl, .done ⟨rfl, ?_⟩⟩
  walk_at "GO"
  rw [h4]
  refine ⟨_, _, rfl, ?_⟩
  rw [decide_eq_true (by rw [List.length_map]; omega)]
  exact Qw.here hq
def sp_need_task : ZSp := fun vs M Q _ => ∃ (p : Pt) (t : Nat), vs = [Bp p, nI t] ∧ t < p.ts.length ∧ Q .non M
theorem o_need_task (Φ : Nat → ZSp) (h14 : Φ 14 = sp_is_task) (vs : List PV) (M : Mh) (Q : ZQ) (E : ZX) (h : sp_need_task vs M Q E) : vs.length = 2 ∧ Reach M fun M1 => inl Φ 2 2 b_need_task vs M1 Q E := by
  obtain ⟨p, t, rfl, ht, hq⟩ := h
  refine ⟨rfl, .done ⟨rfl, ?_⟩⟩
  walk_at "GO"
  rw [h14]
  refine ⟨p, t, rfl, ht, ?_⟩
  walk_at "GO"
  exact Qw.here hq
/-- a method that tells of a task -/
def sp_of_task (f : Pt → Wk → Nat → PV) : ZSp := fun vs M Q _ => ∃ (p : Pt) (k : Wk) (t : Nat), vs = [Mo p k, nI t] ∧ k.Ok p ∧ t < p.ts.length ∧ Q (f p k t) M
theorem o_answer_ (Φ : Nat → ZSp) (h16 : Φ 16 = sp_need_task) (vs : List PV) (M : Mh) (Q : ZQ) (E : ZX) (h : sp_of_task (fun _ k t => eA (gt k.an none t)) vs M Q E) : vs.length = 2 ∧ Reach M fun M1 => inl Φ 2 2 b_Moment_answer vs M1 Q E := by
  obtain ⟨p, k, t, rfl, ok, ht, hq⟩ := h
  have p1 := pk (f := eA) none (show t < k.an.length by rw [ok.a1]; exact ht)
  refine ⟨rfl, .done ⟨rfl, ?_⟩⟩
  walk_at "GO"
  rw [h16]
  refine ⟨p, t, rfl, ht, ?_⟩
  walk_at "GO"
  exact Qw.here hq
theorem o_status (Φ : Nat → ZSp) (h16 : Φ 16 = sp_need_task) (vs : List PV) (M : Mh) (Q : ZQ) (E : ZX) (h : sp_of_task (fun _ k t => (gt k.st .ready t).pv) vs M Q E) : vs.length = 2 ∧ Reach M fun M1 => inl Φ 2 2 b_Moment_status vs M1 Q E := by
  obtain ⟨p, k, t, rfl, ok, ht, hq⟩ := h
  have p1 := pk (f := Stt.pv) .ready (show t < k.st.length by rw [ok.s1]; exact ht)
  refine ⟨rfl, .done ⟨rfl, ?_⟩⟩
  walk_at "GO"
  rw [h16]
  refine ⟨p, t, rfl, ht, ?_⟩
  walk_at "GO"
  exact Qw.here hq
theorem o_rights_ (Φ : Nat → ZSp) (h16 : Φ 16 = sp_need_task) (vs : List PV) (M : Mh) (Q : ZQ) (E : ZX) (h : sp_of_task (fun _ k t => .lst (gt k.rr [] t)) vs M Q E) : vs.length = 2 ∧ Reach M fun M1 => inl Φ 2 2 b_Moment_rights vs M1 Q E := by
  obtain ⟨p, k, t, rfl, ok, ht, hq⟩ := h
  have p1 := pk (f := PV.tup) [] (show t < k.rr.length by rw [ok.r1]; exact ht)
  refine ⟨rfl, .done ⟨rfl, ?_⟩⟩
  walk_at "GO"
  rw [h16]
  refine ⟨p, t, rfl, ht, ?_⟩
  walk_at "GO"
  exact Qw.here hq
theorem o_held (Φ : Nat → ZSp) (h16 : Φ 16 = sp_need_task) (vs : List PV) (M : Mh) (Q : ZQ) (E : ZX) (h : sp_of_task (fun _ k t => .int (gt k.fc 0 t)) vs M Q E) : vs.length = 2 ∧ Reach M fun M1 => inl Φ 2 2 b_Moment_held vs M1 Q E := by
  obtain ⟨p, k, t, rfl, ok, ht, hq⟩ := h
  have p1 := pk (f := PV.int) 0 (show t < k.fc.length by rw [ok.f1]; exact ht)
  refine ⟨rfl, .done ⟨rfl, ?_⟩⟩
  walk_at "GO"
  rw [h16]
  refine ⟨p, t, rfl, ht, ?_⟩
  walk_at "GO"
  exact Qw.here hq
/-- a method that tells a part -/
def sp_mo (f : Pt → Wk → PV) : ZSp := fun vs M Q _ => ∃ (p : Pt) (k : Wk), vs = [Mo p k] ∧ k.Ok p ∧ p.Ok ∧ Q (f p k) M
theorem o_m_build (Φ : Nat → ZSp) (vs : List PV) (M : Mh) (Q : ZQ) (E : ZX) (h : sp_mo (fun p _ => Bp p) vs M Q E) : vs.length = 1 ∧ Reach M fun M1 => inl Φ 1 1 b_Moment_build vs M1 Q E := by
  obtain ⟨p, k, rfl, ok, po, hq⟩ := h
  refine ⟨rfl, .done ⟨rfl, ?_⟩⟩
  walk_at "GO"
  exact Qw.here hq
theorem o_m_pages (Φ : Nat → ZSp) (vs : List PV) (M : Mh) (Q : ZQ) (E : ZX) (h : sp_mo (fun _ k => .lst (k.pg.map PV.int)) vs M Q E) : vs.length = 1 ∧ Reach M fun M1 => inl Φ 1 1 b_Moment_pages vs M1 Q E := by
  obtain ⟨p, k, rfl, ok, po, hq⟩ := h
  refine ⟨rfl, .done ⟨rfl, ?_⟩⟩
  walk_at "GO"
  exact Qw.here hq
theorem o_m_locks (Φ : Nat → ZSp) (vs : List PV) (M : Mh) (Q : ZQ) (E : ZX) (h : sp_mo (fun _ k => .lst (k.lk.map eK)) vs M Q E) : vs.length = 1 ∧ Reach M fun M1 => inl Φ 1 1 b_Moment_locks vs M1 Q E := by
  obtain ⟨p, k, rfl, ok, po, hq⟩ := h
  refine ⟨rfl, .done ⟨rfl, ?_⟩⟩
  walk_at "GO"
  exact Qw.here hq
theorem o_m_lines (Φ : Nat → ZSp) (vs : List PV) (M : Mh) (Q : ZQ) (E : ZX) (h : sp_mo (fun _ k => .lst (k.ln.map eO)) vs M Q E) : vs.length = 1 ∧ Reach M fun M1 => inl Φ 1 1 b_Moment_lines vs M1 Q E := by
  obtain ⟨p, k, rfl, ok, po, hq⟩ := h
  refine ⟨rfl, .done ⟨rfl, ?_⟩⟩
  walk_at "GO"
  exact Qw.here hq
theorem o_m_head (Φ : Nat → ZSp) (vs : List PV) (M : Mh) (Q : ZQ) (E : ZX) (h : sp_mo (fun _ k => .int k.pl) vs M Q E) : vs.length = 1 ∧ Reach M fun M1 => inl Φ 1 1 b_Moment_head vs M1 Q E := by
  obtain ⟨p, k, rfl, ok, po, hq⟩ := h
  refine ⟨rfl, .done ⟨rfl, ?_⟩⟩
  walk_at "GO"
  exact Qw.here hq
abbrev run4 (k : Wk) : PV := .tup [eO k.ru, .int k.sp, .int k.bu, .int k.ph]
theorem o_m_running (Φ : Nat → ZSp) (vs : List PV) (M : Mh) (Q : ZQ) (E : ZX) (h : sp_mo (fun _ k => run4 k) vs M Q E) : vs.length = 1 ∧ Reach M fun M1 => inl Φ 1 1 b_Moment_running vs M1 Q E := by
  obtain ⟨p, k, rfl, ok, po, hq⟩ := h
  refine ⟨rfl, .done ⟨rfl, ?_⟩⟩
  walk_at "GO"
  exact Qw.here hq
theorem o_m_shape (Φ : Nat → ZSp) (vs : List PV) (M : Mh) (Q : ZQ) (E : ZX) (h : sp_mo (fun _ k => k.shape) vs M Q E) : vs.length = 1 ∧ Reach M fun M1 => inl Φ 1 1 b_Moment_shape vs M1 Q E := by
  obtain ⟨p, k, rfl, ok, po, hq⟩ := h
  refine ⟨rfl, .done ⟨rfl, ?_⟩⟩
  walk_at "GO"
  exact Qw.here hq
abbrev lstOf (l : List Int) : PV := .lst (l.map PV.int)
def asLst : PV → PV
  | .tup xs => .lst xs
  | _ => .non
theorem o_m_ports (Φ : Nat → ZSp) (vs : List PV) (M : Mh) (Q : ZQ) (E : ZX) (h : sp_mo (fun _ k => .lst (k.lt.map lstOf)) vs M Q E) : vs.length = 1 ∧ Reach M fun M1 => inl Φ 2 1 b_Moment_ports vs M1 Q E := by
  obtain ⟨p, k, rfl, ok, po, hq⟩ := h
  refine ⟨rfl, .done ⟨rfl, ?_⟩⟩
  walk_at "GO"
  intro D hD
  refine lc_mapF asLst hD (by have := ok.l1; have := po.q1; rw [List.length_map]; omega) (fun _ => trivial) ?_ ?_
  · intro x hx acc kk hk
    obtain ⟨l, hl, rfl⟩ := List.mem_map.mp hx
    walk_at "GO"
    exact hk
  · rw [show (k.lt.map eL).map asLst = k.lt.map lstOf by rw [List.map_map]; rfl]
    exact Qw.here hq
/-! letters from outside -/
def sp_may_come : ZSp := fun vs M Q _ => ∃ (p : Pt) (k : Wk), vs = [Mo p k] ∧ k.Ok p ∧ p.Ok ∧ Q (.bl (mayCome p k)) M
theorem o_may_come (Φ : Nat → ZSp) (vs : List PV) (M : Mh) (Q : ZQ) (E : ZX) (h : sp_may_come vs M Q E) : vs.length = 1 ∧ Reach M fun M1 => inl Φ 2 1 b_letter_may_come vs M1 Q E := by
  obtain ⟨p, k, rfl, ok, po, hq⟩ := h
  refine ⟨rfl, .done ⟨rfl, ?_⟩⟩
  unfold mayCome at hq
  walk_at "GO"
  rcases po.o1 with e | ⟨x, y, hx, hy, e⟩
  · rw [e] at hq ⊢
    walk_at "GO"
    exact Qw.here hq
  · rw [e] at hq ⊢
    walk_at "GO"
    rw [peq_int]
    exact Qw.here hq
def sp_need_letter : ZSp := fun vs M Q _ => ∃ (p : Pt) (k : Wk) (l : Option Int), vs = [Mo p k, eLt l] ∧ k.Ok p ∧ p.Ok ∧ LOk p k l ∧ Q .non M
theorem o_need_letter (Φ : Nat → ZSp) (h3 : Φ 3 = sp_is_value) (h103 : Φ 103 = sp_may_come) (vs : List PV) (M : Mh) (Q : ZQ) (E : ZX) (h : sp_need_letter vs M Q E) : vs.length = 2 ∧ Reach M fun M1 => inl Φ 2 2 b_need_letter vs M1 Q E := by
  obtain ⟨p, k, l, rfl, ok, po, hl, hq⟩ := h
  refine ⟨rfl, .done ⟨rfl, ?_⟩⟩
  cases l with
  | none =>
    walk_at "GO"
    exact Qw.here hq
  | some v =>
    obtain ⟨h1, h2⟩ := hl v rfl
    walk_at "GO"
    rw [h3]
    refine ⟨v, rfl, ?_⟩
    rw [decide_eq_true h1]
    walk_at "GO"
    rw [h103]
    refine ⟨p, k, rfl, ok, po, ?_⟩
    rw [h2]
    walk_at "GO"
    exact Qw.here hq
def sp_seen_next (f : Pt → Prop) : ZSp := fun vs M Q _ => ∃ (p : Pt) (k : Wk) (l : Option Int), vs = [Mo p k, eLt l] ∧ k.Ok p ∧ p.Ok ∧ f p ∧ LOk p k l ∧ Q (seen (k.opened p l).1 (k.opened p l).2) M
theorem o_seen_next (Φ : Nat → ZSp) (f : Pt → Prop) (h85 : Φ 85 = sp_opened f) (vs : List PV) (M : Mh) (Q : ZQ) (E : ZX) (h : sp_seen_next f vs M Q E) : vs.length = 2 ∧ Reach M fun M1 => inl Φ 4 2 b_seen_next vs M1 Q E := by
  obtain ⟨p, k, l, rfl, ok, po, hf, hl, hq⟩ := h
  obtain ⟨h1, h2⟩ := ok_opened ok po hl.ou
  refine ⟨rfl, .done ⟨rfl, ?_⟩⟩
  walk_at "GO"
  rw [h85]
  refine ⟨p, k, l, by cases l <;> rfl, ok, po, hf, hl.ou, fun w a D => ?_⟩
  walk_at "GO"
  cases e : (k.opened p l).2 with
  | none =>
    rw [e] at hq
    walk_at "GO"
    exact Qw.by (Weak.sub (at_weak D)) hq
  | some t =>
    rw [e] at hq
    obtain ⟨g1, g2⟩ := h2 t e
    have p1 := pk (f := eA) none (show t < (k.opened p l).1.an.length by rw [h1.a1]; exact g1)
    walk_at "GO"
    exact Qw.by (Weak.sub (at_weak D)) hq
def sp_due (f : Pt → Prop) : ZSp := fun vs M Q _ => ∃ (p : Pt) (k : Wk) (l : Option Int), vs = [Mo p k, eLt l] ∧ k.Ok p ∧ p.Ok ∧ f p ∧ LOk p k l ∧ Q (eO (k.opened p l).2) M
theorem o_due (Φ : Nat → ZSp) (f : Pt → Prop) (h104 : Φ 104 = sp_need_letter) (h105 : Φ 105 = sp_seen_next f) (vs : List PV) (M : Mh) (Q : ZQ) (E : ZX) (h : sp_due f vs M Q E) : vs.length = 2 ∧ Reach M fun M1 => inl Φ 3 2 b_Moment_due vs M1 Q E := by
  obtain ⟨p, k, l, rfl, ok, po, hf, hl, hq⟩ := h
  refine ⟨rfl, .done ⟨rfl, ?_⟩⟩
  walk_at "GO"
  rw [h104]
  refine ⟨p, k, l, rfl, ok, po, hl, ?_⟩
  walk_at "GO"
  rw [h105]
  refine ⟨p, k, l, rfl, ok, po, hf, hl, ?_⟩
  cases e : (k.opened p l).2 with
  | none =>
    rw [e] at hq
    walk_at "GO"
    exact Qw.here hq
  | some t =>
    rw [e] at hq
    walk_at "GO"
    exact Qw.here hq
/-- a call that fits the tick -/
def COk (p : Pt) (k : Wk) (l : Option Int) (c : Cl) (cv : PV) : Prop := match (k.opened p l).2 with
  | some _ => c.Ok p ∧ c.plain ∧ cv = c.pv
  | none => cv = .non
def sp_is_call : ZSp := fun vs M Q _ => ∃ (p : Pt) (c : Cl), vs = [Bp p, c.pv] ∧ p.Ok ∧ c.Ok p ∧ Q (.bl true) M
def sp_tick (f : Pt → Prop) : ZSp := fun vs M Q _ => ∃ (p : Pt) (k : Wk) (l : Option Int) (c : Cl) (cv : PV), vs = [Mo p k, eLt l, cv] ∧ k.Ok p ∧ p.Ok ∧ f p ∧ LOk p k l ∧ COk p k l c cv ∧ Q (.tup [seen (k.opened p l).1 (k.opened p l).2, Mo p (k.tick p l c)]) M
theorem o_tick (Φ : Nat → ZSp) (f : Pt → Prop) (h104 : Φ 104 = sp_need_letter) (h85 : Φ 85 = sp_opened f) (h9 : Φ 9 = sp_is_call) (h86 : Φ 86 = sp_closed) (h89 : Φ 89 = sp_minit) (vs : List PV) (M : Mh) (Q : ZQ) (E : ZX) (h : sp_tick f vs M Q E) : vs.length = 3 ∧ Reach M fun M1 => inl Φ 7 3 b_Moment_tick vs M1 Q E := by
  obtain ⟨p, k, l, c, cv, rfl, ok, po, hf, hl, hc, hq⟩ := h
  obtain ⟨h1, h2⟩ := ok_opened ok po hl.ou
  refine ⟨rfl, .done ⟨rfl, ?_⟩⟩
  walk_at "GO"
  rw [h104]
  refine ⟨p, k, l, rfl, ok, po, hl, ?_⟩
  walk_at "GO"
  rw [h85]
  refine ⟨p, k, l, by cases l <;> rfl, ok, po, hf, hl.ou, fun w a D => ?_⟩
  unfold Wk.tick at hq
  unfold COk at hc
  cases e : (k.opened p l).2 with
  | none =>
    rw [e] at hq hc
    subst hc
    walk_at "GO"
    rw [h86]
    refine ⟨M, w, a, p, _, none, c, .non, rfl, D, rfl, h1, po, (fun u z => nomatch z), ?_⟩
    walk_at "GO"
    intro x hx
    rw [h89]
    refine ⟨x, _, _, rfl, put_same, rfl, ?_⟩
    rw [put_put]
    walk_at "GO"
    refine ⟨[Bp p, ((k.opened p l).1.closed p none c).shape], rfl, ?_⟩
    rw [put_del hx]
    walk_at "GO"
    exact Qw.here hq
  | some t =>
    rw [e] at hq hc
    obtain ⟨c1, c2, rfl⟩ := hc
    obtain ⟨g1, g2⟩ := h2 t e
    walk_at "GO"
    rw [h9]
    refine ⟨p, c, rfl, po, c1, ?_⟩
    walk_at "GO"
    rw [h86]
    refine ⟨M, w, a, p, _, some t, c, c.pv, rfl, D, rfl, h1, po, fun u z => ?_, ?_⟩
    · cases z; exact ⟨g1, g2, c1, c2, rfl⟩
    walk_at "GO"
    intro x hx
    rw [h89]
    refine ⟨x, _, _, rfl, put_same, rfl, ?_⟩
    rw [put_put]
    walk_at "GO"
    refine ⟨[Bp p, ((k.opened p l).1.closed p (some t) c).shape], rfl, ?_⟩
    rw [put_del hx]
    walk_at "GO"
    exact Qw.here hq
end HT
set_option Elab.async false
set_option linter.all false
set_option maxRecDepth 100000
set_option maxHeartbeats 1000000
namespace HT
open PySem PySem.Spec PyProof.Rows L2 Z
local macro_rules | `(tactic| walk_at "HL") => `(tactic| (first | assumption | exact put_same | exact at_w | exact at_1 (by assumption) | exact at_2 (by assumption) | exact at_3 (by assumption) | exact at_4 (by assumption) | exact at_5 (by assumption) | exact at_6 (by assumption) | exact at_7 (by assumption) | exact at_8 (by assumption) | (rw [put_ne (by first | assumption | (apply Ne.symm; assumption) | exact neN (at_w) (by assumption) | exact neN (at_1 (by assumption)) (by assumption) | exact neN (at_2 (by assumption)) (by assumption) | exact neN (at_3 (by assumption)) (by assumption) | exact neN (at_4 (by assumption)) (by assumption) | exact neN (at_5 (by assumption)) (by assumption) | exact neN (at_6 (by assumption)) (by assumption) | exact neN (at_7 (by assumption)) (by assumption) | exact neN (at_8 (by assumption)) (by assumption))]; first | assumption | exact put_same | exact at_w | exact at_1 (by assumption) | exact at_2 (by assumption) | exact at_3 (by assumption) | exact at_4 (by assumption) | exact at_5 (by assumption) | exact at_6 (by assumption) | exact at_7 (by assumption) | exact at_8 (by assumption) | (rw [put_ne (by first | assumption | (apply Ne.symm; assumption) | exact neN (at_w) (by assumption) | exact neN (at_1 (by assumption)) (by assumption) | exact neN (at_2 (by assumption)) (by assumption) | exact neN (at_3 (by assumption)) (by assumption) | exact neN (at_4 (by assumption)) (by assumption) | exact neN (at_5 (by assumption)) (by assumption) | exact neN (at_6 (by assumption)) (by assumption) | exact neN (at_7 (by assumption)) (by assumption) | exact neN (at_8 (by assumption)) (by assumption))]; first | assumption | exact put_same | exact at_w | exact at_1 (by assumption) | exact at_2 (by assumption) | exact at_3 (by assumption) | exact at_4 (by assumption) | exact at_5 (by assumption) | exact at_6 (by assumption) | exact at_7 (by assumption) | exact at_8 (by assumption) | (rw [put_ne (by first | assumption | (apply Ne.symm; assumption) | exact neN (at_w) (by assumption) | exact neN (at_1 (by assumption)) (by assumption) | exact neN (at_2 (by assumption)) (by assumption) | exact neN (at_3 (by assumption)) (by assumption) | exact neN (at_4 (by assumption)) (by assumption) | exact neN (at_5 (by assumption)) (by assumption) | exact neN (at_6 (by assumption)) (by assumption) | exact neN (at_7 (by assumption)) (by assumption) | exact neN (at_8 (by assumption)) (by assumption))]; first | assumption | exact put_same | exact at_w | exact at_1 (by assumption) | exact at_2 (by assumption) | exact at_3 (by assumption) | exact at_4 (by assumption) | exact at_5 (by assumption) | exact at_6 (by assumption) | exact at_7 (by assumption) | exact at_8 (by assumption))))))
local macro_rules | `(tactic| walk_at "ONE") => `(tactic| (first | (refine And.intro rfl ?_; (conv => whnf)) | (refine Exists.intro _ (Exists.intro _ (Exists.intro _ (Exists.intro _ (And.intro (by walk_at "HL") (And.intro (by assumption) (And.intro rfl ?_)))))); (conv => whnf)) | (refine Exists.intro _ (Exists.intro _ (Exists.intro _ (And.intro (by walk_at "HL") (And.intro (DSet.old (by assumption) (by decide +kernel) (by decide +kernel)) ?_)))); (conv => whnf)) | (refine Exists.intro _ (Exists.intro _ (Exists.intro _ (And.intro (by walk_at "HL") (And.intro (DSet.new (by decide +kernel) (by decide +kernel)) ?_)))); (conv => whnf)) | (refine And.intro True.intro ?_; (conv => whnf)) | (refine And.intro (Exists.intro _ (by walk_at "HL")) ?_; (conv => whnf)) | (refine And.intro (by walk_at "HL") ?_; (conv => whnf)) | (refine And.intro (And.intro rfl rfl) ?_; (conv => whnf)) | (refine And.intro (Nat.le_of_ble_eq_true rfl) ?_; (conv => whnf)) | (refine And.intro (by decide) ?_; (conv => whnf)) | (refine And.intro (by omega) ?_; (conv => whnf)) | (refine Exists.intro _ (And.intro (by walk_at "HL") ?_); (conv => whnf)) | (refine Exists.intro _ (And.intro rfl ?_); (conv => whnf)) | (refine Exists.intro _ (Exists.intro _ (And.intro (by walk_at "HL") (And.intro rfl ?_))); (conv => whnf)) | (refine Exists.intro _ (Exists.intro _ (And.intro (by walk_at "HL") (And.intro (And.intro (by decide) rfl) ?_))); (conv => whnf)) | (refine Exists.intro _ (Exists.intro _ (And.intro rfl (And.intro rfl ?_))); (conv => whnf)) | (refine Exists.intro _ (Exists.intro _ (And.intro (by walk_at "HL") (And.intro (by walk_at "HL") ?_))); (conv => whnf)) | (refine Exists.intro _ (And.intro (by walk_at "HL") (And.intro (by decide) ?_)); (conv => whnf)) | (refine br_t rfl ?_; (conv => whnf)) | (refine br_f rfl ?_; (conv => whnf)) | (refine And.intro (And.intro (by decide +kernel) (by decide +kernel)) ?_; (conv => whnf)) | (refine br_t (by decide +kernel) ?_; (conv => whnf)) | (refine br_f (by decide +kernel) ?_; (conv => whnf))))
local macro_rules | `(tactic| walk_at "ONI") => `(tactic| (first | (refine Qw.here ?_; (conv => whnf)) | (refine br_t (decide_eq_true (by omega)) ?_; (conv => whnf)) | (refine br_f (decide_eq_false (by omega)) ?_; (conv => whnf)) | (refine And.intro rfl ?_; (conv => whnf)) | (refine Exists.intro _ (Exists.intro _ (Exists.intro _ (Exists.intro _ (And.intro (by walk_at "HL") (And.intro (by assumption) (And.intro rfl ?_)))))); (conv => whnf)) | (refine Exists.intro _ (Exists.intro _ (Exists.intro _ (And.intro (by walk_at "HL") (And.intro (DSet.old (by assumption) (by decide +kernel) (by decide +kernel)) ?_)))); (conv => whnf)) | (refine Exists.intro _ (Exists.intro _ (Exists.intro _ (And.intro (by walk_at "HL") (And.intro (DSet.new (by decide +kernel) (by decide +kernel)) ?_)))); (conv => whnf)) | (refine And.intro True.intro ?_; (conv => whnf)) | (refine And.intro (Exists.intro _ (by walk_at "HL")) ?_; (conv => whnf)) | (refine And.intro (by walk_at "HL") ?_; (conv => whnf)) | (refine And.intro (And.intro rfl rfl) ?_; (conv => whnf)) | (refine And.intro (Nat.le_of_ble_eq_true rfl) ?_; (conv => whnf)) | (refine And.intro (by decide) ?_; (conv => whnf)) | (refine And.intro (by omega) ?_; (conv => whnf)) | (refine Exists.intro _ (And.intro (by walk_at "HL") ?_); (conv => whnf)) | (refine Exists.intro _ (And.intro rfl ?_); (conv => whnf)) | (refine Exists.intro _ (Exists.intro _ (And.intro (by walk_at "HL") (And.intro rfl ?_))); (conv => whnf)) | (refine Exists.intro _ (Exists.intro _ (And.intro (by walk_at "HL") (And.intro (And.intro (by decide) rfl) ?_))); (conv => whnf)) | (refine Exists.intro _ (Exists.intro _ (And.intro rfl (And.intro rfl ?_))); (conv => whnf)) | (refine Exists.intro _ (Exists.intro _ (And.intro (by walk_at "HL") (And.intro (by walk_at "HL") ?_))); (conv => whnf)) | (refine Exists.intro _ (And.intro (by walk_at "HL") (And.intro (by decide) ?_)); (conv => whnf)) | (refine br_t rfl ?_; (conv => whnf)) | (refine br_f rfl ?_; (conv => whnf)) | (refine And.intro (And.intro (by decide +kernel) (by decide +kernel)) ?_; (conv => whnf)) | (refine br_t (by decide +kernel) ?_; (conv => whnf)) | (refine br_f (by decide +kernel) ?_; (conv => whnf))))
local macro_rules | `(tactic| walk_at "GO") => `(tactic| (((try (conv => whnf)); repeat (walk_at "ONE"))))
local macro_rules | `(tactic| walk_at "GI") => `(tactic| (((conv => whnf); repeat (walk_at "ONI"))))
local macro_rules | `(tactic| walk_at "BB") => `(tactic| (first | rfl | (simp only [Bool.and_eq_true, Bool.or_eq_true, Bool.not_eq_true', Bool.and_eq_false_iff, Bool.not_eq_false', decide_eq_true_eq, decide_eq_false_iff_not, peq_int, List.length_map]; omega)))
theorem o_is_right (Φ : Nat → ZSp) (h7 : Φ 7 = sp_fits_right) (vs : List PV) (M : Mh) (Q : ZQ) (E : ZX) (h : ∃ (p : Pt) (x : PV), vs = [Bp p, x] ∧ x ∈ pool p.ts.length p.ps.length p.qs.length p.nl p.dk ∧ Q (.bl true) M) : vs.length = 2 ∧ Reach M fun M1 => inl Φ 2 2 b_is_right vs M1 Q E := by
  obtain ⟨p, x, rfl, hx, hq⟩ := h
  refine ⟨rfl, .done ⟨rfl, ?_⟩⟩
  walk_at "GO"
  rw [h7]
  exact ⟨_, _, _, _, _, x, rfl, hx, Qw.here hq⟩
def sp_is_right : ZSp := fun vs M Q _ => ∃ (p : Pt) (x : PV), vs = [Bp p, x] ∧ x ∈ pool p.ts.length p.ps.length p.qs.length p.nl p.dk ∧ Q (.bl true) M
theorem kx_hand : keyIx limK (.inr "hand") = some 0 := by decide +kernel
theorem kx_lock : keyIx limK (.inr "lock") = some 1 := by decide +kernel
theorem kx_read : keyIx limK (.inr "read") = some 2 := by decide +kernel
theorem kx_send : keyIx limK (.inr "send") = some 4 := by decide +kernel
theorem kx_strip : keyIx limK (.inr "strip") = some 5 := by decide +kernel
theorem kx_take : keyIx limK (.inr "take") = some 6 := by decide +kernel
theorem kx_write : keyIx limK (.inr "write") = some 7 := by decide +kernel
theorem o_is_call (Φ : Nat → ZSp) (h4 : Φ 4 = sp_is_index) (h3 : Φ 3 = sp_is_value) (h8 : Φ 8 = sp_is_right) (h1 : Φ 1 = sp_in_range) (vs : List PV) (M : Mh) (Q : ZQ) (E : ZX) (h : sp_is_call vs M Q E) : vs.length = 2 ∧ Reach M fun M1 => inl Φ 3 2 b_is_call vs M1 Q E := by
  obtain ⟨p, c, rfl, po, co, hq⟩ := h
  refine ⟨rfl, .done ⟨rfl, ?_⟩⟩
  cases c with
  | read i =>
    have co : i < p.ps.length := co
    walk_at "GO"
    try (refine ⟨_, _, kx_read, rfl, ?_⟩; walk_at "GO")
    rw [h4]
    refine ⟨_, _, rfl, ?_⟩
    rw [decide_eq_true (by omega)]
    exact Qw.here hq
  | write i v =>
    obtain ⟨c1, c2⟩ := co
    walk_at "GO"
    try (refine ⟨_, _, kx_write, rfl, ?_⟩; walk_at "GO")
    rw [h4]
    refine ⟨_, _, rfl, ?_⟩
    rw [decide_eq_true (by omega)]
    walk_at "GO"
    rw [h3]
    refine ⟨_, rfl, ?_⟩
    rw [decide_eq_true c2]
    exact Qw.here hq
  | send i v =>
    obtain ⟨c1, c2⟩ := co
    walk_at "GO"
    try (refine ⟨_, _, kx_send, rfl, ?_⟩; walk_at "GO")
    rw [h4]
    refine ⟨_, _, rfl, ?_⟩
    rw [decide_eq_true (by omega)]
    walk_at "GO"
    rw [h3]
    refine ⟨_, rfl, ?_⟩
    rw [decide_eq_true c2]
    exact Qw.here hq
  | take i =>
    have co : i < p.qs.length := co
    walk_at "GO"
    try (refine ⟨_, _, kx_take, rfl, ?_⟩; walk_at "GO")
    rw [h4]
    refine ⟨_, _, rfl, ?_⟩
    rw [decide_eq_true (by omega)]
    exact Qw.here hq
  | wait i =>
    have co : i < p.qs.length := co
    walk_at "GO"
    try (refine ⟨_, _, kx_take, rfl, ?_⟩; walk_at "GO")
    rw [h4]
    refine ⟨_, _, rfl, ?_⟩
    rw [decide_eq_true (by omega)]
    exact Qw.here hq
  | lock i =>
    have co : i < p.nl := co
    walk_at "GO"
    try (refine ⟨_, _, kx_lock, rfl, ?_⟩; walk_at "GO")
    rw [h4]
    refine ⟨_, _, rfl, ?_⟩
    rw [decide_eq_true (by omega)]
    exact Qw.here hq
  | free i =>
    have co : i < p.nl := co
    walk_at "GO"
    try (refine ⟨_, _, kx_lock, rfl, ?_⟩; walk_at "GO")
    rw [h4]
    refine ⟨_, _, rfl, ?_⟩
    rw [decide_eq_true (by omega)]
    exact Qw.here hq
  | hand o s i =>
    obtain ⟨c1, c2⟩ := co
    walk_at "GO"
    try (refine ⟨_, _, kx_hand, rfl, ?_⟩; walk_at "GO")
    rw [h4]
    refine ⟨_, _, rfl, ?_⟩
    rw [decide_eq_true (by omega)]
    walk_at "GO"
    rw [h8]
    exact ⟨p, _, rfl, c2, Qw.here hq⟩
  | strip o s i =>
    obtain ⟨c1, c2⟩ := co
    walk_at "GO"
    try (refine ⟨_, _, kx_strip, rfl, ?_⟩; walk_at "GO")
    rw [h4]
    refine ⟨_, _, rfl, ?_⟩
    rw [decide_eq_true (by omega)]
    walk_at "GO"
    rw [h8]
    exact ⟨p, _, rfl, c2, Qw.here hq⟩
  | seek x =>
    have co : 0 ≤ x ∧ x < p.dk := co
    walk_at "GO"
    rw [h4]
    refine ⟨_, _, rfl, ?_⟩
    rw [decide_eq_true (by omega)]
    exact Qw.here hq
  | sleep n =>
    have co : 1 ≤ n ∧ n ≤ 2 := co
    walk_at "GO"
    rw [h1]
    refine ⟨_, _, _, rfl, ?_⟩
    rw [decide_eq_true (by omega)]
    exact Qw.here hq
  | get => walk_at "GO"; exact Qw.here hq
  | give => walk_at "GO"; exact Qw.here hq
  | pass => walk_at "GO"; exact Qw.here hq
theorem rep_flat {α : Type} {x : α} : ∀ n : Nat, (List.replicate n [x]).flatten = List.replicate n x
  | 0 => rfl
  | n + 1 => by rw [List.replicate_succ, List.flatten_cons, rep_flat n]; rfl
def sp_first : ZSp := fun vs M Q _ => ∃ p : Pt, vs = [Bp p] ∧ p.Ok ∧ Q (Mo p (first0 p)) M
theorem o_first (Φ : Nat → ZSp) (h89 : Φ 89 = sp_minit) (vs : List PV) (M : Mh) (Q : ZQ) (E : ZX) (h : sp_first vs M Q E) : vs.length = 1 ∧ Reach M fun M1 => inl Φ 3 1 b_first vs M1 Q E := by
  obtain ⟨p, rfl, po, hq⟩ := h
  have t1 := po.t1
  have q1 := po.q1
  have l1 := po.l1
  have b1 : (0 : Int) ≤ ((p.ts.map pr2).length : Int) ∧ ((p.ts.map pr2).length : Int) ≤ 1000 := by rw [List.length_map]; omega
  have b2 : (0 : Int) ≤ ((p.qs.map PV.int).length : Int) ∧ ((p.qs.map PV.int).length : Int) ≤ 1000 := by rw [List.length_map]; omega
  have b3 : (0 : Int) ≤ (p.nl : Int) ∧ (p.nl : Int) ≤ 1000 := by omega
  refine ⟨rfl, .done ⟨rfl, ?_⟩⟩
  walk_at "GO"
  refine ⟨⟨by simp, by simp, b1⟩, ?_⟩
  walk_at "GO"
  refine ⟨⟨by simp, by simp, b1⟩, ?_⟩
  walk_at "GO"
  refine ⟨⟨by simp, by simp, b1⟩, ?_⟩
  walk_at "GO"
  refine ⟨⟨by simp, by simp, b2⟩, ?_⟩
  walk_at "GO"
  refine ⟨⟨by simp, by simp, b3⟩, ?_⟩
  walk_at "GO"
  intro x hx
  rw [h89]
  refine ⟨x, _, _, rfl, put_same, rfl, ?_⟩
  rw [put_put]
  rw [rep_flat, rep_flat, rep_flat, rep_flat, rep_flat]
  rw [show (((p.ts.map pr2).length : Int)).toNat = p.ts.length by rw [List.length_map]; rfl, show (((p.qs.map PV.int).length : Int)).toNat = p.qs.length by rw [List.length_map]; rfl, show ((p.nl : Int)).toNat = p.nl from rfl]
  walk_at "GO"
  refine ⟨[Bp p, .tup [.tup (List.replicate p.ts.length (.tup [.str "ready"])), .tup (List.replicate p.ts.length .non), .tup (p.rs.map PV.tup), .tup (List.replicate p.ts.length (.int 0)), .tup (p.ps.map PV.int), .tup (List.replicate p.qs.length (.tup [])), .tup (List.replicate p.nl (.tup [.non, .tup []])), .tup [.non, .non], .int 0, .tup [.non, .int 0, .int 0, .int 0]]], rfl, ?_⟩
  rw [put_del hx]
  have e : (first0 p).shape = .tup [.tup (List.replicate p.ts.length (.tup [.str "ready"])), .tup (List.replicate p.ts.length .non), .tup (p.rs.map PV.tup), .tup (List.replicate p.ts.length (.int 0)), .tup (p.ps.map PV.int), .tup (List.replicate p.qs.length (.tup [])), .tup (List.replicate p.nl (.tup [.non, .tup []])), .tup [.non, .non], .int 0, .tup [.non, .int 0, .int 0, .int 0]] := by
    unfold Wk.shape first0
    simp only [List.map_replicate]
    rfl
  rw [show Mo p (first0 p) = .ins 2 [Bp p, (first0 p).shape] from rfl, e] at hq
  walk_at "GO"
  exact Qw.here hq
end HT
set_option Elab.async false
set_option linter.all false
set_option maxRecDepth 100000
set_option maxHeartbeats 1000000
namespace HT
open PySem PySem.Spec PyProof.Rows L2 Z
/-! ### kernels whose tasks have slots of twelve ticks each -/
abbrev twRows (n : Nat) : List (Int × Int) := (List.range n).map fun (k : Nat) => ((k : Int), (12 : Int))
theorem tw_sum : ∀ n : Nat, ((twRows n).map (·.2)).sum = ((12 * n : Nat) : Int) := fun n => by
  unfold twRows
  rw [List.map_map]
  induction n with
  | zero => rfl
  | succ n ih => rw [List.range_succ, List.map_append, List.sum_append, ih]; simp; omega
theorem slot_tw : ∀ (l : List Nat) (g : Nat), g < 12 * l.length → slotGo (l.map fun (k : Nat) => ((k : Int), (12 : Int))) (g : Int) = (((gt l 0 (g / 12) : Nat) : Int), ((g % 12 : Nat) : Int), (12 : Int))
  | [], g, h => by simp at h
  | a :: l, g, h => by
    show (if (12 : Int) ≤ (g : Int) then slotGo (l.map fun (k : Nat) => ((k : Int), (12 : Int))) ((g : Int) - 12) else ((a : Int), (g : Int), (12 : Int))) = _
    by_cases c : 12 ≤ g
    · rw [if_pos (by omega), show ((g : Int) - 12) = ((g - 12 : Nat) : Int) by omega, slot_tw l (g - 12) (by rw [List.length_cons] at h; omega)]
      have e : g / 12 = (g - 12) / 12 + 1 := by omega
      have e2 : g % 12 = (g - 12) % 12 := by omega
      rw [e, e2]
      rfl
    · rw [if_neg (by omega)]
      have e : g / 12 = 0 := by omega
      have e2 : g % 12 = g := by omega
      rw [e, e2]
      rfl
structure P15 (p : Pt) : Prop where
  ok : p.Ok
  pl : p.pl = .tup [.str "slots", .lst ((twRows p.ts.length).map pr2)]
  dk : p.dk = 0
  b0 : p.b0 = false
  ou : p.ou = .non
  qs : p.qs = []
  nl : p.nl = 0
abbrev K15 (p : Pt) (A : List (Option Str)) (P : List Int) (L : List (Option Nat)) (ru : Option Nat) (bu ph : Int) : Wk := ⟨List.replicate p.ts.length .ready, A, p.rs, List.replicate p.ts.length 0, P, [], [], L, 0, ru, 0, bu, ph⟩
theorem gt_rep15 {α : Type} {d : α} {n t : Nat} : gt (List.replicate n d) d t = d := by
  unfold gt
  rw [List.getElem?_replicate]
  split <;> rfl
section
variable {p : Pt} {A : List (Option Str)} {P : List Int} {L : List (Option Nat)} {ru : Option Nat} {bu : Int} {T F : Nat}
theorem P15.slots (u : P15 p) : isLevels p.pl = false := by rw [u.pl]; show (("slots" : Str) == "levels") = false; decide +kernel
theorem P15.cm (u : P15 p) : costMost p = p.c0 + p.c1 := by
  have := u.ok.c1.2.1.1
  unfold costMost
  rw [u.dk, if_neg (by omega)]
theorem P15.at_ (u : P15 p) : slotAt p (((T % (12 * p.ts.length) : Nat) : Int)) = (((T / 12 % p.ts.length : Nat) : Int), ((T % 12 : Nat) : Int), 12) := by
  have t1 := u.ok.t1
  have hlt : T % (12 * p.ts.length) < 12 * p.ts.length := Nat.mod_lt _ (by omega)
  unfold slotAt
  rw [u.pl, slotRows_eq, tw_sum, Int.emod_eq_of_lt (by omega) (by omega)]
  have := slot_tw (List.range p.ts.length) (T % (12 * p.ts.length)) (by rw [List.length_range]; exact hlt)
  rw [show twRows p.ts.length = (List.range p.ts.length).map fun (k : Nat) => ((k : Int), (12 : Int)) from rfl, this]
  have e1 : T % (12 * p.ts.length) / 12 = T / 12 % p.ts.length := Nat.mod_mul_right_div_self T 12 p.ts.length
  have e2 : T % (12 * p.ts.length) % 12 = T % 12 := Nat.mod_mul_right_mod T 12 p.ts.length
  rw [e1, e2]
  have e : gt (List.range p.ts.length) 0 (T / 12 % p.ts.length) = T / 12 % p.ts.length := by unfold gt; rw [List.getElem?_range (Nat.mod_lt _ (by omega))]; rfl
  rw [e]
theorem P15.per (u : P15 p) : period p = ((12 * p.ts.length : Nat) : Int) := by
  have e : total (frz p.pl) = ((12 * p.ts.length : Nat) : Int) := by
    rw [u.pl]
    show (((twRows p.ts.length).map pr2).map _).sum = _
    rw [List.map_map]
    exact tw_sum _
  unfold period
  rw [e, u.ou]
  unfold HT.per every
  simp only []
  rw [if_pos (by simp [Int.emod_one])]
theorem sleep15 {k : Wk} (h : ∀ t, t < k.st.length → ∀ j, gt k.st .ready t ≠ .asleep j) : k.sleepOn = k := by
  unfold Wk.sleepOn
  have : ∀ l : List Nat, (∀ t ∈ l, t < k.st.length) → l.foldl Wk.slp k = k := by
    intro l
    induction l with
    | nil => intro _; rfl
    | cons x l ih =>
      intro hl
      have e : k.slp x = k := by
        unfold Wk.slp
        split
        · rename_i j e; exact absurd e (h x (hl x (by simp)) j)
        · rfl
      rw [List.foldl_cons, e]
      exact ih fun t ht => hl t (by simp [ht])
  exact this _ fun t ht => List.mem_range.mp ht
/-- the law's turn -/
def turn15 (p : Pt) (T F : Nat) : Option Nat := if F ≤ T ∧ p.c2 ≤ ((T % 12 : Nat) : Int) ∧ p.c0 + p.c1 ≤ 12 - ((T % 12 : Nat) : Int) then some (T / 12 % p.ts.length) else none
/-- what stands ahead of a tick -/
structure I15 (p : Pt) (T F : Nat) (ru : Option Nat) (bu : Int) : Prop where
  b : (if 0 < bu then bu - 1 else bu) = ((F - T : Nat) : Int)
  b0 : 0 ≤ bu
  r : T % 12 ≠ 0 → ru = some (T / 12 % p.ts.length)
  f : T < F → T % 12 ≠ 0 ∧ F ≤ 12 * (T / 12) + 12
  k : ∀ t, ru = some t → t < p.ts.length
theorem less15 (h : (if 0 < bu then bu - 1 else bu) = ((F - T : Nat) : Int)) {ph : Int} : (K15 p A P L ru bu ph).less = K15 p A P L ru ((F - T : Nat) : Int) ph := by
  unfold Wk.less
  by_cases c : 0 < bu
  · rw [if_pos c] at h
    show (if 0 < bu then _ else _) = _
    rw [if_pos c, ← h]
  · rw [if_neg c] at h
    show (if 0 < bu then _ else _) = _
    rw [if_neg c, h]
theorem P15.opened (u : P15 p) (i : I15 p T F ru bu) : (K15 p A P L ru bu ((T % (12 * p.ts.length) : Nat) : Int)).opened p none = (K15 p A P L (some (T / 12 % p.ts.length)) ((F - T : Nat) : Int) ((T % (12 * p.ts.length) : Nat) : Int), turn15 p T F) := by
  have t1 := u.ok.t1
  have tl : T / 12 % p.ts.length < p.ts.length := Nat.mod_lt _ (by omega)
  unfold Wk.opened Wk.arr
  rw [sleep15 (fun s _ j e => by rw [gt_rep15] at e; cases e), less15 i.b]
  unfold Wk.turn
  by_cases c : T < F
  · rw [if_pos (show (0 : Int) < ((F - T : Nat) : Int) by omega), i.r (i.f c).1]
    unfold turn15
    rw [if_neg (by omega)]
  · rw [if_neg (show ¬ (0 : Int) < ((F - T : Nat) : Int) by omega), u.slots]
    simp only [Bool.false_eq_true, if_false]
    unfold Wk.bySlots
    have e : (K15 p A P L ru ((F - T : Nat) : Int) ((T % (12 * p.ts.length) : Nat) : Int)).slotK p = K15 p A P L (some (T / 12 % p.ts.length)) ((F - T : Nat) : Int) ((T % (12 * p.ts.length) : Nat) : Int) := by
      unfold Wk.slotK
      rw [u.at_]
      simp only [Int.toNat_natCast]
      by_cases z : T % 12 = 0
      · by_cases y : ru = some (T / 12 % p.ts.length)
        · rw [if_neg (by rintro ⟨_, h⟩; exact h y), y]
        · rw [if_pos ⟨by omega, y⟩]
          unfold Wk.change changes
          rw [u.b0]
          simp only [Bool.false_and, Bool.false_eq_true, if_false]
      · rw [if_neg (by rintro ⟨h, _⟩; omega), i.r z]
    rw [e, u.at_]
    simp only [Int.toNat_natCast]
    rw [u.cm]
    unfold turn15
    by_cases y : p.c2 ≤ ((T % 12 : Nat) : Int) ∧ p.c0 + p.c1 ≤ 12 - ((T % 12 : Nat) : Int)
    · have h1 : ¬ (gt (List.replicate p.ts.length Stt.ready) .ready (T / 12 % p.ts.length) ≠ .ready ∨ ((T % 12 : Nat) : Int) < p.c2 ∨ 12 - ((T % 12 : Nat) : Int) < p.c0 + p.c1) := by
        rintro (z | z | z)
        · exact z gt_rep15
        · omega
        · omega
      rw [if_neg h1, if_pos ⟨by omega, y⟩]
    · have h1 : gt (List.replicate p.ts.length Stt.ready) .ready (T / 12 % p.ts.length) ≠ .ready ∨ ((T % 12 : Nat) : Int) < p.c2 ∨ 12 - ((T % 12 : Nat) : Int) < p.c0 + p.c1 := by
        by_cases x : p.c2 ≤ ((T % 12 : Nat) : Int)
        · refine .inr (.inr ?_)
          have : ¬ p.c0 + p.c1 ≤ 12 - ((T % 12 : Nat) : Int) := fun z => y ⟨x, z⟩
          omega
        · exact .inr (.inl (by omega))
      rw [if_pos h1, if_neg (fun z => y z.2)]
end
end HT
set_option Elab.async false
set_option linter.all false
set_option maxRecDepth 100000
set_option maxHeartbeats 1000000
namespace HT
open PySem PySem.Spec PyProof.Rows L2 Z
def tch (p : Pt) (L : List (Option Nat)) (i : Nat) : List (Option Nat) := match gt p.ls .non i with
  | .int l => L.set l.toNat (some i)
  | _ => L
def miss15 (p : Pt) (L : List (Option Nat)) (i : Nat) : Bool := match gt p.ls .non i with
  | .int l => !decide (gt L none l.toNat = some i)
  | _ => true
def cost15 (p : Pt) (L : List (Option Nat)) (t : Nat) (s : Str) (i : Nat) : Int := if p.b1 then p.c0 + p.c1 else if hasR (gt p.rs [] t) s i && miss15 p L i then p.c0 + p.c1 else p.c0
def ln15 (p : Pt) (L : List (Option Nat)) (t : Nat) (s : Str) (i : Nat) : List (Option Nat) := if hasR (gt p.rs [] t) s i then tch p L i else L
section
variable {p : Pt} {A : List (Option Str)} {P : List Int} {L : List (Option Nat)} {ru : Option Nat} {bu ph : Int} {T F t i : Nat} {v : Int}
theorem tch15 : (K15 p A P L ru bu ph).touch p i = K15 p A P (tch p L i) ru bu ph := by
  unfold Wk.touch tch
  generalize gt p.ls .non i = x
  cases x <;> rfl
theorem make15 {k : Wk} {c : Cl} {k2 : Wk} {x : Option Str} {co : Int} (h : ({ k with an := k.an.set t none } : Wk).ans p t c = (k2, x)) (hc : k.cost p t c = co) (lv : isLevels p.pl = false) : k.make p t c = { k2 with an := k2.an.set t x, bu := co } := by
  unfold Wk.make
  rw [h, hc, lv]
  rfl
theorem P15.read (u : P15 p) : (K15 p A P L ru bu ph).closed p (some t) (.read i) = K15 p (A.set t (if hasR (gt p.rs [] t) "read" i then some (dS (gt P 0 i)) else some ("no" : Str))) P (ln15 p L t "read" i) ru (cost15 p L t "read" i) ((ph + 1) % ((12 * p.ts.length : Nat) : Int)) := by
  have e1 : ({ K15 p A P L ru bu ph with an := A.set t none } : Wk).ans p t (.read i) = (K15 p (A.set t none) P (ln15 p L t "read" i) ru bu ph, if hasR (gt p.rs [] t) "read" i then some (dS (gt P 0 i)) else some ("no" : Str)) := by
    show Wk.read p (K15 p (A.set t none) P L ru bu ph) t i = _
    unfold Wk.read ln15
    rw [tch15]
    by_cases c : hasR (gt p.rs [] t) "read" i = true
    · simp only [c, if_true]
    · have c : hasR (gt p.rs [] t) "read" i = false := by simpa using c
      simp only [c, Bool.false_eq_true, if_false]
  have e2 : (K15 p A P L ru bu ph).cost p t (.read i) = cost15 p L t "read" i := by
    unfold Wk.cost cost15
    rw [u.cm]
    rfl
  have e3 := make15 e1 e2 u.slots
  show ({ (K15 p A P L ru bu ph).make p t (.read i) with ph := (((K15 p A P L ru bu ph).make p t (.read i)).ph + 1) % period p } : Wk) = _
  rw [e3, u.per]
  show K15 p ((A.set t none).set t _) P _ _ _ _ = _
  rw [List.set_set]
theorem P15.write (u : P15 p) : (K15 p A P L ru bu ph).closed p (some t) (.write i v) = K15 p (A.set t (if hasR (gt p.rs [] t) "write" i then some ("yes" : Str) else some ("no" : Str))) (if hasR (gt p.rs [] t) "write" i then P.set i v else P) (ln15 p L t "write" i) ru (cost15 p L t "write" i) ((ph + 1) % ((12 * p.ts.length : Nat) : Int)) := by
  have e1 : ({ K15 p A P L ru bu ph with an := A.set t none } : Wk).ans p t (.write i v) = (K15 p (A.set t none) (if hasR (gt p.rs [] t) "write" i then P.set i v else P) (ln15 p L t "write" i) ru bu ph, if hasR (gt p.rs [] t) "write" i then some ("yes" : Str) else some ("no" : Str)) := by
    show Wk.write p (K15 p (A.set t none) P L ru bu ph) t i v = _
    unfold Wk.write ln15
    rw [tch15]
    by_cases c : hasR (gt p.rs [] t) "write" i = true
    · simp only [c, if_true]
    · have c : hasR (gt p.rs [] t) "write" i = false := by simpa using c
      simp only [c, Bool.false_eq_true, if_false]
  have e2 : (K15 p A P L ru bu ph).cost p t (.write i v) = cost15 p L t "write" i := by
    unfold Wk.cost cost15
    rw [u.cm]
    rfl
  have e3 := make15 e1 e2 u.slots
  show ({ (K15 p A P L ru bu ph).make p t (.write i v) with ph := (((K15 p A P L ru bu ph).make p t (.write i v)).ph + 1) % period p } : Wk) = _
  rw [e3, u.per]
  show K15 p ((A.set t none).set t _) _ _ _ _ _ = _
  rw [List.set_set]
theorem P15.idle (u : P15 p) {c : Cl} : (K15 p A P L ru bu ph).closed p none c = K15 p A P L ru bu ((ph + 1) % ((12 * p.ts.length : Nat) : Int)) := by
  show ({ K15 p A P L ru bu ph with ph := (ph + 1) % period p } : Wk) = _
  rw [u.per]
theorem ph15 {n : Nat} : ((((T % n : Nat) : Int) + 1) % ((n : Nat) : Int)) = (((T + 1) % n : Nat) : Int) := by
  have : ((T % n + 1) % n : Nat) = (T + 1) % n := Nat.mod_add_mod T n 1
  rw [← this]
  first | exact (Int.natCast_emod (T % n + 1) n).symm | exact (Int.ofNat_emod (T % n + 1) n).symm | rfl
/-- behind a tick without a turn -/
theorem I15.idle (h : I15 p T F ru bu) (hn : 0 < p.ts.length) : I15 p (T + 1) F (some (T / 12 % p.ts.length)) ((F - T : Nat) : Int) where
  b := by
    by_cases c : T < F
    · rw [if_pos (by omega)]; omega
    · rw [if_neg (by omega)]; omega
  b0 := by omega
  r := fun z => by rw [show (T + 1) / 12 = T / 12 by omega]
  f := fun z => by
    have := h.f (by omega)
    omega
  k := fun t e => by cases e; exact Nat.mod_lt _ hn
theorem P15.c1 (u : P15 p) {s : Str} : 1 ≤ cost15 p L t s i ∧ cost15 p L t s i ≤ p.c0 + p.c1 := by
  have h1 := u.ok.c1.1.1
  have h2 := u.ok.c1.2.1.1
  unfold cost15
  split
  · omega
  · split <;> omega
/-- behind a call -/
theorem I15.call (h : I15 p T F ru bu) (hn : 0 < p.ts.length) {c : Nat} (h1 : 1 ≤ c) (h2 : ((c : Nat) : Int) ≤ p.c0 + p.c1) (ht : turn15 p T F = some t) : I15 p (T + 1) (T + c) (some (T / 12 % p.ts.length)) (c : Int) := by
  unfold turn15 at ht
  split at ht
  · rename_i hc
    exact {
      b := by rw [if_pos (by omega)]; omega
      b0 := by omega
      r := fun z => by rw [show (T + 1) / 12 = T / 12 by omega]
      f := fun z => by omega
      k := fun t e => by cases e; exact Nat.mod_lt _ hn }
  · cases ht
end
end HT
set_option Elab.async false
set_option linter.all false
set_option maxRecDepth 100000
set_option maxHeartbeats 1000000
namespace HT
open PySem PySem.Spec PyProof.Rows L2 Z
local macro_rules | `(tactic| walk_at "HL") => `(tactic| (first | assumption | exact put_same | (rw [put_ne (by first | assumption | (apply Ne.symm; assumption))]; first | assumption | exact put_same | (rw [put_ne (by first | assumption | (apply Ne.symm; assumption))]; first | assumption | exact put_same | (rw [put_ne (by first | assumption | (apply Ne.symm; assumption))]; first | assumption | exact put_same)))))
local macro_rules | `(tactic| walk_at "ONE") => `(tactic| (first | (refine And.intro rfl ?_; (conv => whnf)) | (refine Exists.intro _ (Exists.intro _ (Exists.intro _ (Exists.intro _ (And.intro (by walk_at "HL") (And.intro (by assumption) (And.intro rfl ?_)))))); (conv => whnf)) | (refine Exists.intro _ (Exists.intro _ (Exists.intro _ (And.intro (by walk_at "HL") (And.intro (DSet.old (by assumption) (by decide +kernel) (by decide +kernel)) ?_)))); (conv => whnf)) | (refine Exists.intro _ (Exists.intro _ (Exists.intro _ (And.intro (by walk_at "HL") (And.intro (DSet.new (by decide +kernel) (by decide +kernel)) ?_)))); (conv => whnf)) | (refine And.intro True.intro ?_; (conv => whnf)) | (refine And.intro (Exists.intro _ (by walk_at "HL")) ?_; (conv => whnf)) | (refine And.intro (by walk_at "HL") ?_; (conv => whnf)) | (refine And.intro (And.intro rfl rfl) ?_; (conv => whnf)) | (refine And.intro (Nat.le_of_ble_eq_true rfl) ?_; (conv => whnf)) | (refine And.intro (by decide) ?_; (conv => whnf)) | (refine And.intro (by omega) ?_; (conv => whnf)) | (refine Exists.intro _ (And.intro (by walk_at "HL") ?_); (conv => whnf)) | (refine Exists.intro _ (And.intro rfl ?_); (conv => whnf)) | (refine Exists.intro _ (Exists.intro _ (And.intro (by walk_at "HL") (And.intro rfl ?_))); (conv => whnf)) | (refine Exists.intro _ (Exists.intro _ (And.intro (by walk_at "HL") (And.intro (And.intro (by decide) rfl) ?_))); (conv => whnf)) | (refine Exists.intro _ (Exists.intro _ (And.intro rfl (And.intro rfl ?_))); (conv => whnf)) | (refine Exists.intro _ (Exists.intro _ (And.intro (by walk_at "HL") (And.intro (by walk_at "HL") ?_))); (conv => whnf)) | (refine Exists.intro _ (And.intro (by walk_at "HL") (And.intro (by decide) ?_)); (conv => whnf)) | (refine br_t rfl ?_; (conv => whnf)) | (refine br_f rfl ?_; (conv => whnf)) | (refine And.intro (And.intro (by decide +kernel) (by decide +kernel)) ?_; (conv => whnf)) | (refine br_t (by decide +kernel) ?_; (conv => whnf)) | (refine br_f (by decide +kernel) ?_; (conv => whnf))))
local macro_rules | `(tactic| walk_at "ONI") => `(tactic| (first | (refine Qw.here ?_; (conv => whnf)) | (refine br_t (decide_eq_true (by omega)) ?_; (conv => whnf)) | (refine br_f (decide_eq_false (by omega)) ?_; (conv => whnf)) | (refine And.intro rfl ?_; (conv => whnf)) | (refine Exists.intro _ (Exists.intro _ (Exists.intro _ (Exists.intro _ (And.intro (by walk_at "HL") (And.intro (by assumption) (And.intro rfl ?_)))))); (conv => whnf)) | (refine Exists.intro _ (Exists.intro _ (Exists.intro _ (And.intro (by walk_at "HL") (And.intro (DSet.old (by assumption) (by decide +kernel) (by decide +kernel)) ?_)))); (conv => whnf)) | (refine Exists.intro _ (Exists.intro _ (Exists.intro _ (And.intro (by walk_at "HL") (And.intro (DSet.new (by decide +kernel) (by decide +kernel)) ?_)))); (conv => whnf)) | (refine And.intro True.intro ?_; (conv => whnf)) | (refine And.intro (Exists.intro _ (by walk_at "HL")) ?_; (conv => whnf)) | (refine And.intro (by walk_at "HL") ?_; (conv => whnf)) | (refine And.intro (And.intro rfl rfl) ?_; (conv => whnf)) | (refine And.intro (Nat.le_of_ble_eq_true rfl) ?_; (conv => whnf)) | (refine And.intro (by decide) ?_; (conv => whnf)) | (refine And.intro (by omega) ?_; (conv => whnf)) | (refine Exists.intro _ (And.intro (by walk_at "HL") ?_); (conv => whnf)) | (refine Exists.intro _ (And.intro rfl ?_); (conv => whnf)) | (refine Exists.intro _ (Exists.intro _ (And.intro (by walk_at "HL") (And.intro rfl ?_))); (conv => whnf)) | (refine Exists.intro _ (Exists.intro _ (And.intro (by walk_at "HL") (And.intro (And.intro (by decide) rfl) ?_))); (conv => whnf)) | (refine Exists.intro _ (Exists.intro _ (And.intro rfl (And.intro rfl ?_))); (conv => whnf)) | (refine Exists.intro _ (Exists.intro _ (And.intro (by walk_at "HL") (And.intro (by walk_at "HL") ?_))); (conv => whnf)) | (refine Exists.intro _ (And.intro (by walk_at "HL") (And.intro (by decide) ?_)); (conv => whnf)) | (refine br_t rfl ?_; (conv => whnf)) | (refine br_f rfl ?_; (conv => whnf)) | (refine And.intro (And.intro (by decide +kernel) (by decide +kernel)) ?_; (conv => whnf)) | (refine br_t (by decide +kernel) ?_; (conv => whnf)) | (refine br_f (by decide +kernel) ?_; (conv => whnf))))
local macro_rules | `(tactic| walk_at "GO") => `(tactic| (((try (conv => whnf)); repeat (walk_at "ONE"))))
local macro_rules | `(tactic| walk_at "GI") => `(tactic| (((conv => whnf); repeat (walk_at "ONI"))))
local macro_rules | `(tactic| walk_at "BB") => `(tactic| (first | rfl | (simp only [Bool.and_eq_true, Bool.or_eq_true, Bool.not_eq_true', Bool.and_eq_false_iff, Bool.not_eq_false', decide_eq_true_eq, decide_eq_false_iff_not, peq_int, List.length_map]; omega)))
def sp_cell : ZSp := fun vs M Q _ => ∃ (ns : List Int) (k : Nat), vs = [.scr (ns.map PV.int), nI k] ∧ ∀ r : Int, Q (.int r) M
theorem o_cell (Φ : Nat → ZSp) (vs : List PV) (M : Mh) (Q : ZQ) (E : ZX) (h : sp_cell vs M Q E) : vs.length = 2 ∧ Reach M fun M1 => inl Φ 2 2 b__law_cell vs M1 Q E := by
  obtain ⟨ns, k, rfl, hq⟩ := h
  refine ⟨rfl, .done ⟨rfl, ?_⟩⟩
  walk_at "GO"
  refine br_intro (fun c => ?_) fun c => ?_
  · have hk : k < ns.length := by have := of_decide_eq_true c; rw [List.length_map] at this; omega
    have p1 := pk (f := PV.int) 0 hk
    walk_at "GO"
    exact Qw.here (hq _)
  · walk_at "GO"
    refine ⟨ns.take 1, ?_, ?_⟩
    · unfold cut HT.sIx
      simp
    walk_at "GO"
    exact Qw.here (hq _)
def digP (ss : List Int) (ds : List Int) : Prop := ds.length = ss.length ∧ ∀ (i : Nat) (s d : Int), ss[i]? = some s → ds[i]? = some d → 0 ≤ d ∧ d < s
def sp_digits : ZSp := fun vs M Q _ => ∃ (c : Int) (ss : List Int), vs = [.int c, .lst (ss.map PV.int)] ∧ ss.length ≤ 100 ∧ (∀ s ∈ ss, 0 < s ∧ s < 1000000) ∧ ∀ ds, digP ss ds → Q (.lst (ds.map PV.int)) M
theorem o_digits (Φ : Nat → ZSp) (vs : List PV) (M : Mh) (Q : ZQ) (E : ZX) (h : sp_digits vs M Q E) : vs.length = 2 ∧ Reach M fun M1 => inl Φ 6 2 b__law_digits vs M1 Q E := by
  obtain ⟨c, ss, rfl, hl, hs, hq⟩ := h
  have hb : -(2 ^ 62 : Int) ≤ ((ss.map PV.int).length : Nat) ∧ (((ss.map PV.int).length : Nat) : Int) < 2 ^ 62 := by rw [List.length_map]; omega
  refine ⟨rfl, .done ⟨rfl, ?_⟩⟩
  walk_at "GO"
  intro a ha
  walk_at "GO"
  rw [show Int.toNat (((ss.map PV.int).length : Nat) : Int) = ss.length by rw [List.length_map]; rfl]
  refine rng_ind (fun i σ M' => ∃ (n : Int) (o1 o2 : Option PV) (ds : List Int), σ = [some (.int c), some (.lst (ss.map PV.int)), some (.ref a), some (.int n), o1, o2] ∧ M' = put M a (.lst (ds.map PV.int)) ∧ digP (ss.take i) ds) ⟨c, none, none, [], rfl, rfl, rfl, fun i s d h => by simp at h⟩ ?_ ?_
  · rintro σ M' ⟨n, o1, o2, ds, rfl, rfl, hd⟩
    rw [List.take_of_length_le (Nat.le_refl _)] at hd
    walk_at "GO"
    rw [put_del ha]
    exact Qw.here (hq ds hd)
  · rintro i σ M' hi ⟨n, o1, o2, ds, rfl, rfl, hd⟩ L hL
    have pi : pick (ss.map PV.int) (0 + (i : Nat)) = some (.int (gt ss 0 i)) := by rw [Int.zero_add]; exact pk 0 hi
    have hsi := hs _ (gt_mem (d := 0) hi)
    have hdl : ds.length = i := by rw [hd.1, List.length_take]; omega
    have nx : ∀ (d : Int), 0 ≤ d ∧ d < gt ss 0 i → digP (ss.take (i + 1)) (ds ++ [d]) := fun d h => by
      have e : ss.take (i + 1) = ss.take i ++ [gt ss 0 i] := by
        rw [List.take_succ, gt_some (d := 0) hi]; rfl
      rw [e]
      refine ⟨by rw [List.length_append, List.length_append, hd.1]; rfl, fun j s d' h1 h2 => ?_⟩
      have hlt : (ss.take i).length = i := by rw [List.length_take]; omega
      by_cases hj : j < i
      · rw [List.getElem?_append_left (by omega)] at h1 h2
        exact hd.2 j s d' h1 h2
      · rw [List.getElem?_append_right (by omega)] at h1 h2
        rw [hlt] at h1
        rw [hdl] at h2
        cases e : j - i with
        | zero => rw [e] at h1 h2; cases h1; cases h2; exact h
        | succ m => rw [e] at h1; simp at h1
    have fin : ∀ (d n' : Int) o1' o2', 0 ≤ d ∧ d < gt ss 0 i → L [some (.int c), some (.lst (ss.map PV.int)), some (.ref a), some (.int n'), o1', o2'] (put (put M a (.lst (ds.map PV.int))) a (.lst (ds.map PV.int ++ [.int d]))) := fun d n' o1' o2' h => by
      rw [put_put]
      exact hL _ _ ⟨n', o1', o2', ds ++ [d], rfl, by rw [List.map_append]; rfl, nx d h⟩
    have ap : (ds.map PV.int).length < sizeLine := by rw [List.length_map, sizeLine_eq]; omega
    walk_at "GO"
    refine br_intro (fun c => ?_) fun c => ?_
    · walk_at "GO"
      exact fin _ _ _ _ ⟨Int.emod_nonneg _ (by omega), Int.emod_lt_of_pos _ hsi.1⟩
    · walk_at "GO"
      exact fin _ _ _ _ ⟨Int.emod_nonneg _ (by omega), Int.emod_lt_of_pos _ hsi.1⟩
end HT
set_option Elab.async false
set_option linter.all false
set_option maxRecDepth 100000
set_option maxHeartbeats 1000000
namespace HT
open PySem PySem.Spec PyProof.Rows L2 Z
local macro_rules | `(tactic| walk_at "HL") => `(tactic| (first | assumption | exact put_same | (rw [put_ne (by first | assumption | (apply Ne.symm; assumption))]; first | assumption | exact put_same | (rw [put_ne (by first | assumption | (apply Ne.symm; assumption))]; first | assumption | exact put_same | (rw [put_ne (by first | assumption | (apply Ne.symm; assumption))]; first | assumption | exact put_same)))))
local macro_rules | `(tactic| walk_at "ONE") => `(tactic| (first | (refine And.intro rfl ?_; (conv => whnf)) | (refine Exists.intro _ (Exists.intro _ (Exists.intro _ (Exists.intro _ (And.intro (by walk_at "HL") (And.intro (by assumption) (And.intro rfl ?_)))))); (conv => whnf)) | (refine Exists.intro _ (Exists.intro _ (Exists.intro _ (And.intro (by walk_at "HL") (And.intro (DSet.old (by assumption) (by decide +kernel) (by decide +kernel)) ?_)))); (conv => whnf)) | (refine Exists.intro _ (Exists.intro _ (Exists.intro _ (And.intro (by walk_at "HL") (And.intro (DSet.new (by decide +kernel) (by decide +kernel)) ?_)))); (conv => whnf)) | (refine And.intro True.intro ?_; (conv => whnf)) | (refine And.intro (Exists.intro _ (by walk_at "HL")) ?_; (conv => whnf)) | (refine And.intro (by walk_at "HL") ?_; (conv => whnf)) | (refine And.intro (And.intro rfl rfl) ?_; (conv => whnf)) | (refine And.intro (Nat.le_of_ble_eq_true rfl) ?_; (conv => whnf)) | (refine And.intro (by decide) ?_; (conv => whnf)) | (refine And.intro (by omega) ?_; (conv => whnf)) | (refine Exists.intro _ (And.intro (by walk_at "HL") ?_); (conv => whnf)) | (refine Exists.intro _ (And.intro rfl ?_); (conv => whnf)) | (refine Exists.intro _ (Exists.intro _ (And.intro (by walk_at "HL") (And.intro rfl ?_))); (conv => whnf)) | (refine Exists.intro _ (Exists.intro _ (And.intro (by walk_at "HL") (And.intro (And.intro (by decide) rfl) ?_))); (conv => whnf)) | (refine Exists.intro _ (Exists.intro _ (And.intro rfl (And.intro rfl ?_))); (conv => whnf)) | (refine Exists.intro _ (Exists.intro _ (And.intro (by walk_at "HL") (And.intro (by walk_at "HL") ?_))); (conv => whnf)) | (refine Exists.intro _ (And.intro (by walk_at "HL") (And.intro (by decide) ?_)); (conv => whnf)) | (refine br_t rfl ?_; (conv => whnf)) | (refine br_f rfl ?_; (conv => whnf)) | (refine And.intro (And.intro (by decide +kernel) (by decide +kernel)) ?_; (conv => whnf)) | (refine br_t (by decide +kernel) ?_; (conv => whnf)) | (refine br_f (by decide +kernel) ?_; (conv => whnf))))
local macro_rules | `(tactic| walk_at "ONI") => `(tactic| (first | (refine Qw.here ?_; (conv => whnf)) | (refine br_t (decide_eq_true (by omega)) ?_; (conv => whnf)) | (refine br_f (decide_eq_false (by omega)) ?_; (conv => whnf)) | (refine And.intro rfl ?_; (conv => whnf)) | (refine Exists.intro _ (Exists.intro _ (Exists.intro _ (Exists.intro _ (And.intro (by walk_at "HL") (And.intro (by assumption) (And.intro rfl ?_)))))); (conv => whnf)) | (refine Exists.intro _ (Exists.intro _ (Exists.intro _ (And.intro (by walk_at "HL") (And.intro (DSet.old (by assumption) (by decide +kernel) (by decide +kernel)) ?_)))); (conv => whnf)) | (refine Exists.intro _ (Exists.intro _ (Exists.intro _ (And.intro (by walk_at "HL") (And.intro (DSet.new (by decide +kernel) (by decide +kernel)) ?_)))); (conv => whnf)) | (refine And.intro True.intro ?_; (conv => whnf)) | (refine And.intro (Exists.intro _ (by walk_at "HL")) ?_; (conv => whnf)) | (refine And.intro (by walk_at "HL") ?_; (conv => whnf)) | (refine And.intro (And.intro rfl rfl) ?_; (conv => whnf)) | (refine And.intro (Nat.le_of_ble_eq_true rfl) ?_; (conv => whnf)) | (refine And.intro (by decide) ?_; (conv => whnf)) | (refine And.intro (by omega) ?_; (conv => whnf)) | (refine Exists.intro _ (And.intro (by walk_at "HL") ?_); (conv => whnf)) | (refine Exists.intro _ (And.intro rfl ?_); (conv => whnf)) | (refine Exists.intro _ (Exists.intro _ (And.intro (by walk_at "HL") (And.intro rfl ?_))); (conv => whnf)) | (refine Exists.intro _ (Exists.intro _ (And.intro (by walk_at "HL") (And.intro (And.intro (by decide) rfl) ?_))); (conv => whnf)) | (refine Exists.intro _ (Exists.intro _ (And.intro rfl (And.intro rfl ?_))); (conv => whnf)) | (refine Exists.intro _ (Exists.intro _ (And.intro (by walk_at "HL") (And.intro (by walk_at "HL") ?_))); (conv => whnf)) | (refine Exists.intro _ (And.intro (by walk_at "HL") (And.intro (by decide) ?_)); (conv => whnf)) | (refine br_t rfl ?_; (conv => whnf)) | (refine br_f rfl ?_; (conv => whnf)) | (refine And.intro (And.intro (by decide +kernel) (by decide +kernel)) ?_; (conv => whnf)) | (refine br_t (by decide +kernel) ?_; (conv => whnf)) | (refine br_f (by decide +kernel) ?_; (conv => whnf))))
local macro_rules | `(tactic| walk_at "GO") => `(tactic| (((try (conv => whnf)); repeat (walk_at "ONE"))))
local macro_rules | `(tactic| walk_at "GI") => `(tactic| (((conv => whnf); repeat (walk_at "ONI"))))
local macro_rules | `(tactic| walk_at "BB") => `(tactic| (first | rfl | (simp only [Bool.and_eq_true, Bool.or_eq_true, Bool.not_eq_true', Bool.and_eq_false_iff, Bool.not_eq_false', decide_eq_true_eq, decide_eq_false_iff_not, peq_int, List.length_map]; omega)))
mutual
/-- plain data, at most so deep, lists frozen, texts of code points -/
def okS : Nat → PV → Bool
  | _, .non => true
  | _, .bl _ => true
  | _, .int _ => true
  | _, .str s => PyData.strOk s
  | n + 1, .tup xs => decide (xs.length ≤ 1000) && okSs n xs
  | n + 1, .lst xs => decide (xs.length ≤ 1000) && okSs n xs
  | _, _ => false
def okSs : Nat → List PV → Bool
  | _, [] => true
  | n, x :: xs => okS n x && okSs n xs
end
theorem okSs_mem {n : Nat} : ∀ {xs : List PV}, okSs n xs = true → ∀ x ∈ xs, okS n x = true
  | [], _, x, hx => by cases hx
  | y :: ys, h, x, hx => by
    obtain ⟨h1, h2⟩ := ba (show (okS n y && okSs n ys) = true from h)
    rcases List.mem_cons.mp hx with rfl | hx
    · exact h1
    · exact okSs_mem h2 x hx
theorem okSs_of {n : Nat} : ∀ {xs : List PV}, (∀ x ∈ xs, okS n x = true) → okSs n xs = true
  | [], _ => rfl
  | x :: xs, h => by
    show (okS n x && okSs n xs) = true
    rw [h x (by simp), okSs_of fun y hy => h y (by simp [hy])]; rfl
theorem okS_lst {n : Nat} {xs : List PV} (hl : xs.length ≤ 1000) (h : ∀ x ∈ xs, okS n x = true) : okS (n + 1) (.lst xs) = true := by
  show (decide (xs.length ≤ 1000) && okSs n xs) = true
  rw [decide_eq_true hl, okSs_of h]; rfl
theorem okS_tup {n : Nat} {xs : List PV} (hl : xs.length ≤ 1000) (h : ∀ x ∈ xs, okS n x = true) : okS (n + 1) (.tup xs) = true := by
  show (decide (xs.length ≤ 1000) && okSs n xs) = true
  rw [decide_eq_true hl, okSs_of h]; rfl
theorem peq_self_bl {b : Bool} : peq (.bl b) (.bl b) = true := by cases b <;> rfl
theorem peq_self_int {i : Int} : peq (.int i) (.int i) = true := by rw [peq_int, decide_eq_true rfl]
theorem peq_self_str {s : Str} : peq (.str s) (.str s) = true := beq_self_eq_true s
/-- told and due are the same; due may be a list under change -/
def sp_same (n : Nat) : ZSp := fun vs M Q _ => ∃ x y, vs = [x, y] ∧ (y = x ∨ ∃ xs a, x = .lst xs ∧ y = .ref a ∧ M a = some (.lst xs)) ∧ okS n x = true ∧ Q (.bl true) M
theorem o_same_0 (Φ : Nat → ZSp) (vs : List PV) (M : Mh) (Q : ZQ) (E : ZX) (h : sp_same 0 vs M Q E) : vs.length = 2 ∧ Reach M fun M1 => inl Φ 3 2 b__law_same_0 vs M1 Q E := by
  obtain ⟨x, y, rfl, hxy, hx, hq⟩ := h
  refine ⟨rfl, .done ⟨rfl, ?_⟩⟩
  cases x with
  | non => obtain rfl : y = .non := hxy.elim id fun ⟨_, _, e, _⟩ => nomatch e
           walk_at "GO"; exact Qw.here hq
  | bl b => obtain rfl : y = .bl b := hxy.elim id fun ⟨_, _, e, _⟩ => nomatch e
            walk_at "GO"; rw [peq_self_bl]; exact Qw.here hq
  | int i => obtain rfl : y = .int i := hxy.elim id fun ⟨_, _, e, _⟩ => nomatch e
             walk_at "GO"; rw [peq_self_int]; exact Qw.here hq
  | str s =>
    obtain rfl : y = .str s := hxy.elim id fun ⟨_, _, e, _⟩ => nomatch e
    walk_at "GO"
    refine ⟨⟨hx, hx⟩, ?_⟩
    rw [peq_self_str]
    exact Qw.here hq
  | _ => cases hx
theorem o_same_1 (Φ : Nat → ZSp) (h1 : Φ 119 = sp_same 0) (vs : List PV) (M : Mh) (Q : ZQ) (E : ZX) (h : sp_same 1 vs M Q E) : vs.length = 2 ∧ Reach M fun M1 => inl Φ 3 2 b__law_same_1 vs M1 Q E := by
  obtain ⟨x, y, rfl, hxy, hx, hq⟩ := h
  refine ⟨rfl, .done ⟨rfl, ?_⟩⟩
  cases x with
  | non => obtain rfl : y = .non := hxy.elim id fun ⟨_, _, e, _⟩ => nomatch e
           walk_at "GO"; exact Qw.here hq
  | bl b => obtain rfl : y = .bl b := hxy.elim id fun ⟨_, _, e, _⟩ => nomatch e
            walk_at "GO"; rw [peq_self_bl]; exact Qw.here hq
  | int i => obtain rfl : y = .int i := hxy.elim id fun ⟨_, _, e, _⟩ => nomatch e
             walk_at "GO"; rw [peq_self_int]; exact Qw.here hq
  | str s =>
    obtain rfl : y = .str s := hxy.elim id fun ⟨_, _, e, _⟩ => nomatch e
    walk_at "GO"
    refine ⟨⟨hx, hx⟩, ?_⟩
    rw [peq_self_str]
    exact Qw.here hq
  | lst xs =>
    obtain ⟨hl, hx⟩ := ba (show (decide (xs.length ≤ 1000) && okSs 0 xs) = true from hx)
    have hl := of_decide_eq_true hl
    have hb : -(2 ^ 62 : Int) ≤ (xs.length : Nat) ∧ ((xs.length : Nat) : Int) < 2 ^ 62 := by omega
    have main : ∀ y, (y = .lst xs ∨ ∃ a,  y = .ref a ∧ M a = some (.lst xs)) → semSs Φ (RR E) b__law_same_1 (DD Q) [some (.lst xs), some y, none] M := by
      intro y hy
      have fin : semSs Φ (RR E) (.cons (.ret (.bl true)) .nil) (DD Q) [some (.lst xs), some y, none] M := by
        walk_at "GO"
        exact Qw.here hq
      rcases hy with rfl | ⟨a,  rfl, ha⟩
      · walk_at "GO"
        refine br_nint (fun c => absurd rfl c) fun _ => ?_
        walk_at "GO"
        refine rng_ind (fun j σ M' => (∃ o, σ = [some (.lst xs), some (.lst xs), o]) ∧ M' = M) ⟨⟨_, rfl⟩, rfl⟩ ?_ ?_
        · rintro σ M' ⟨⟨o, rfl⟩, rfl⟩
          walk_at "GO"
          exact Qw.here hq
        · rintro j σ M' hj ⟨⟨o, rfl⟩, rfl⟩ L hL
          have pj : pick xs (0 + (j : Nat)) = some (gt xs .non j) := by rw [Int.zero_add]; exact gt_some hj
          walk_at "GO"
          rw [h1]
          refine ⟨_, _, rfl, .inl rfl, okSs_mem hx _ (gt_mem hj), ?_⟩
          walk_at "GO"
          exact hL _ _ ⟨⟨_, rfl⟩, rfl⟩
      · walk_at "GO"
        refine br_nint (fun c => absurd rfl c) fun _ => ?_
        walk_at "GO"
        refine rng_ind (fun j σ M' => (∃ o, σ = [some (.lst xs), some (.ref a), o]) ∧ M' = M) ⟨⟨_, rfl⟩, rfl⟩ ?_ ?_
        · rintro σ M' ⟨⟨o, rfl⟩, rfl⟩
          walk_at "GO"
          exact Qw.here hq
        · rintro j σ M' hj ⟨⟨o, rfl⟩, rfl⟩ L hL
          have pj : pick xs (0 + (j : Nat)) = some (gt xs .non j) := by rw [Int.zero_add]; exact gt_some hj
          walk_at "GO"
          rw [h1]
          refine ⟨_, _, rfl, .inl rfl, okSs_mem hx _ (gt_mem hj), ?_⟩
          walk_at "GO"
          exact hL _ _ ⟨⟨_, rfl⟩, rfl⟩
    rcases hxy with rfl | ⟨ys, a, e, rfl, ha⟩
    · have r := main (.lst xs) (.inl rfl)
      exact r
    · cases e
      have r := main (.ref a) (.inr ⟨a, rfl, ha⟩)
      exact r
  | tup xs =>
    obtain ⟨hl, hx⟩ := ba (show (decide (xs.length ≤ 1000) && okSs 0 xs) = true from hx)
    have hl := of_decide_eq_true hl
    have hb : -(2 ^ 62 : Int) ≤ (xs.length : Nat) ∧ ((xs.length : Nat) : Int) < 2 ^ 62 := by omega
    have main : ∀ y, (y = .tup xs ∨ ∃ a, False ∧ y = .ref a ∧ M a = some (.lst xs)) → semSs Φ (RR E) b__law_same_1 (DD Q) [some (.tup xs), some y, none] M := by
      intro y hy
      have fin : semSs Φ (RR E) (.cons (.ret (.bl true)) .nil) (DD Q) [some (.tup xs), some y, none] M := by
        walk_at "GO"
        exact Qw.here hq
      rcases hy with rfl | ⟨a, hf, rfl, ha⟩
      · walk_at "GO"
        refine br_nint (fun c => absurd rfl c) fun _ => ?_
        walk_at "GO"
        refine rng_ind (fun j σ M' => (∃ o, σ = [some (.tup xs), some (.tup xs), o]) ∧ M' = M) ⟨⟨_, rfl⟩, rfl⟩ ?_ ?_
        · rintro σ M' ⟨⟨o, rfl⟩, rfl⟩
          walk_at "GO"
          exact Qw.here hq
        · rintro j σ M' hj ⟨⟨o, rfl⟩, rfl⟩ L hL
          have pj : pick xs (0 + (j : Nat)) = some (gt xs .non j) := by rw [Int.zero_add]; exact gt_some hj
          walk_at "GO"
          rw [h1]
          refine ⟨_, _, rfl, .inl rfl, okSs_mem hx _ (gt_mem hj), ?_⟩
          walk_at "GO"
          exact hL _ _ ⟨⟨_, rfl⟩, rfl⟩
      · exact absurd hf (by simp)
    rcases hxy with rfl | ⟨ys, a, e, rfl, ha⟩
    · have r := main (.tup xs) (.inl rfl)
      exact r
    · cases e
  | _ => cases hx
theorem o_same_2 (Φ : Nat → ZSp) (h1 : Φ 120 = sp_same 1) (vs : List PV) (M : Mh) (Q : ZQ) (E : ZX) (h : sp_same 2 vs M Q E) : vs.length = 2 ∧ Reach M fun M1 => inl Φ 3 2 b__law_same_2 vs M1 Q E := by
  obtain ⟨x, y, rfl, hxy, hx, hq⟩ := h
  refine ⟨rfl, .done ⟨rfl, ?_⟩⟩
  cases x with
  | non => obtain rfl : y = .non := hxy.elim id fun ⟨_, _, e, _⟩ => nomatch e
           walk_at "GO"; exact Qw.here hq
  | bl b => obtain rfl : y = .bl b := hxy.elim id fun ⟨_, _, e, _⟩ => nomatch e
            walk_at "GO"; rw [peq_self_bl]; exact Qw.here hq
  | int i => obtain rfl : y = .int i := hxy.elim id fun ⟨_, _, e, _⟩ => nomatch e
             walk_at "GO"; rw [peq_self_int]; exact Qw.here hq
  | str s =>
    obtain rfl : y = .str s := hxy.elim id fun ⟨_, _, e, _⟩ => nomatch e
    walk_at "GO"
    refine ⟨⟨hx, hx⟩, ?_⟩
    rw [peq_self_str]
    exact Qw.here hq
  | lst xs =>
    obtain ⟨hl, hx⟩ := ba (show (decide (xs.length ≤ 1000) && okSs 1 xs) = true from hx)
    have hl := of_decide_eq_true hl
    have hb : -(2 ^ 62 : Int) ≤ (xs.length : Nat) ∧ ((xs.length : Nat) : Int) < 2 ^ 62 := by omega
    have main : ∀ y, (y = .lst xs ∨ ∃ a,  y = .ref a ∧ M a = some (.lst xs)) → semSs Φ (RR E) b__law_same_2 (DD Q) [some (.lst xs), some y, none] M := by
      intro y hy
      have fin : semSs Φ (RR E) (.cons (.ret (.bl true)) .nil) (DD Q) [some (.lst xs), some y, none] M := by
        walk_at "GO"
        exact Qw.here hq
      rcases hy with rfl | ⟨a,  rfl, ha⟩
      · walk_at "GO"
        refine br_nint (fun c => absurd rfl c) fun _ => ?_
        walk_at "GO"
        refine rng_ind (fun j σ M' => (∃ o, σ = [some (.lst xs), some (.lst xs), o]) ∧ M' = M) ⟨⟨_, rfl⟩, rfl⟩ ?_ ?_
        · rintro σ M' ⟨⟨o, rfl⟩, rfl⟩
          walk_at "GO"
          exact Qw.here hq
        · rintro j σ M' hj ⟨⟨o, rfl⟩, rfl⟩ L hL
          have pj : pick xs (0 + (j : Nat)) = some (gt xs .non j) := by rw [Int.zero_add]; exact gt_some hj
          walk_at "GO"
          rw [h1]
          refine ⟨_, _, rfl, .inl rfl, okSs_mem hx _ (gt_mem hj), ?_⟩
          walk_at "GO"
          exact hL _ _ ⟨⟨_, rfl⟩, rfl⟩
      · walk_at "GO"
        refine br_nint (fun c => absurd rfl c) fun _ => ?_
        walk_at "GO"
        refine rng_ind (fun j σ M' => (∃ o, σ = [some (.lst xs), some (.ref a), o]) ∧ M' = M) ⟨⟨_, rfl⟩, rfl⟩ ?_ ?_
        · rintro σ M' ⟨⟨o, rfl⟩, rfl⟩
          walk_at "GO"
          exact Qw.here hq
        · rintro j σ M' hj ⟨⟨o, rfl⟩, rfl⟩ L hL
          have pj : pick xs (0 + (j : Nat)) = some (gt xs .non j) := by rw [Int.zero_add]; exact gt_some hj
          walk_at "GO"
          rw [h1]
          refine ⟨_, _, rfl, .inl rfl, okSs_mem hx _ (gt_mem hj), ?_⟩
          walk_at "GO"
          exact hL _ _ ⟨⟨_, rfl⟩, rfl⟩
    rcases hxy with rfl | ⟨ys, a, e, rfl, ha⟩
    · have r := main (.lst xs) (.inl rfl)
      exact r
    · cases e
      have r := main (.ref a) (.inr ⟨a, rfl, ha⟩)
      exact r
  | tup xs =>
    obtain ⟨hl, hx⟩ := ba (show (decide (xs.length ≤ 1000) && okSs 1 xs) = true from hx)
    have hl := of_decide_eq_true hl
    have hb : -(2 ^ 62 : Int) ≤ (xs.length : Nat) ∧ ((xs.length : Nat) : Int) < 2 ^ 62 := by omega
    have main : ∀ y, (y = .tup xs ∨ ∃ a, False ∧ y = .ref a ∧ M a = some (.lst xs)) → semSs Φ (RR E) b__law_same_2 (DD Q) [some (.tup xs), some y, none] M := by
      intro y hy
      have fin : semSs Φ (RR E) (.cons (.ret (.bl true)) .nil) (DD Q) [some (.tup xs), some y, none] M := by
        walk_at "GO"
        exact Qw.here hq
      rcases hy with rfl | ⟨a, hf, rfl, ha⟩
      · walk_at "GO"
        refine br_nint (fun c => absurd rfl c) fun _ => ?_
        walk_at "GO"
        refine rng_ind (fun j σ M' => (∃ o, σ = [some (.tup xs), some (.tup xs), o]) ∧ M' = M) ⟨⟨_, rfl⟩, rfl⟩ ?_ ?_
        · rintro σ M' ⟨⟨o, rfl⟩, rfl⟩
          walk_at "GO"
          exact Qw.here hq
        · rintro j σ M' hj ⟨⟨o, rfl⟩, rfl⟩ L hL
          have pj : pick xs (0 + (j : Nat)) = some (gt xs .non j) := by rw [Int.zero_add]; exact gt_some hj
          walk_at "GO"
          rw [h1]
          refine ⟨_, _, rfl, .inl rfl, okSs_mem hx _ (gt_mem hj), ?_⟩
          walk_at "GO"
          exact hL _ _ ⟨⟨_, rfl⟩, rfl⟩
      · exact absurd hf (by simp)
    rcases hxy with rfl | ⟨ys, a, e, rfl, ha⟩
    · have r := main (.tup xs) (.inl rfl)
      exact r
    · cases e
  | _ => cases hx
end HT
set_option Elab.async false
set_option linter.all false
set_option maxRecDepth 100000
set_option maxHeartbeats 2000000
set_option pp.maxSteps 400
set_option pp.deepTerms false
namespace HT
open PySem PySem.Spec PyProof.Rows L2 Z
/-- items out of a range, some left out -/
theorem fm_sub {f : PV → Option PV} {g : PV → PV} : ∀ {xs : List PV}, (∀ x ∈ xs, f x = none ∨ f x = some (g x)) → (xs.filterMap f).Sublist (xs.map g)
  | [], _ => .slnil
  | x :: xs, h => by
    have ih := fm_sub (f := f) (g := g) (xs := xs) fun y hy => h y (by simp [hy])
    rw [List.filterMap_cons, List.map_cons]
    rcases h x (by simp) with e | e <;> rw [e]
    · exact ih.cons _
    · exact ih.cons₂ _
theorem sub_pool {n np : Nat} {R W : List PV} (h1 : R.Sublist (rowOf "read" np)) (h2 : W.Sublist (rowOf "write" np)) : (R ++ W).Sublist (pool n np 0 0 0) := by
  unfold pool
  have e1 : (rowOf "lock" 0) = [] := rfl
  have e2 : (rowOf "send" 0) = [] := rfl
  have e3 : (rowOf "take" 0) = [] := rfl
  rw [e1, e2, e3, if_neg (by decide)]
  simp only [List.append_nil]
  have a : (rowOf "hand" n ++ rowOf "read" np ++ rowOf "strip" n ++ rowOf "write" np) = (rowOf "hand" n ++ rowOf "read" np) ++ (rowOf "strip" n ++ rowOf "write" np) := by simp
  rw [a]
  exact List.Sublist.append (h1.trans (List.sublist_append_right _ _)) (h2.trans (List.sublist_append_right _ _))
/-- a right, where a bit is 1 -/
def fB (s : Str) (g : Nat → Int) : PV → Option PV
  | .int i => if g i.toNat = 1 then some (rgt s i) else none
  | _ => none
theorem fB_at {s : Str} {g : Nat → Int} {i : Nat} : fB s g (.int (0 + (i : Int))) = if g i = 1 then some (rgt s (0 + (i : Int))) else none := by
  show (if g (0 + (i : Int)).toNat = 1 then some (rgt s (0 + (i : Int))) else none) = _
  rw [show (0 + (i : Int)).toNat = i by omega]
theorem fB_sub {s : Str} {g : Nat → Int} {n : Nat} : ((rangeL 0 n).filterMap (fB s g)).Sublist (rowOf s n) ∧ ((rangeL 0 n).filterMap (fB s g)).length ≤ n := by
  have h := fm_sub (f := fB s g) (g := asR s) (xs := rangeL 0 n) fun x hx => by
    obtain ⟨i, hi, rfl⟩ := mem_range hx
    rw [fB_at]
    split
    · exact .inr rfl
    · exact .inl rfl
  rw [map_asR] at h
  refine ⟨h, ?_⟩
  have := List.length_filterMap_le (fB s g) (rangeL 0 n)
  rw [len_rangeL] at this
  exact this
theorem sA1 {A : List (Option Str)} {t : Nat} {s : Str} : (A.map eA).set t (PV.str s) = (A.set t (some s)).map eA := by rw [List.map_set]
theorem sA2 {A : List (Option Str)} {t : Nat} {s : Str} {y : PV} : ((A.map eA).set t y).set t (PV.str s) = (A.set t (some s)).map eA := by rw [List.set_set, List.map_set]
def fA (A : List (Option Str)) : PV → PV
  | .int i => eA (gt A none i.toNat)
  | _ => .non
theorem fA_at {A : List (Option Str)} {j : Nat} : fA A (.int (0 + (j : Int))) = eA (gt A none j) := by
  show eA (gt A none (0 + (j : Int)).toNat) = _
  rw [show (0 + (j : Int)).toNat = j by omega]
theorem fA_map {A : List (Option Str)} {n : Nat} (h : A.length = n) : (rangeL 0 n).map (fA A) = A.map eA := by
  subst h
  unfold rangeL
  rw [List.map_map]
  refine List.ext_getElem (by simp) fun k h1 h2 => ?_
  have hk : k < A.length := by simpa using h2
  simp only [List.getElem_map, List.getElem_range, Function.comp]
  rw [fA_at]
  unfold gt
  rw [List.getElem?_eq_getElem hk]; rfl
theorem put_cm {M : Mh} {a b : Addr} {x y : MO} (h : b ≠ a) : put (put M a x) b y = put (put M b y) a x := by
  funext c
  by_cases h1 : c = b
  · subst h1; rw [put_same, put_ne h, put_same]
  · by_cases h2 : c = a
    · subst h2; rw [put_ne h1, put_same, put_same]
    · rw [put_ne h1, put_ne h2, put_ne h2, put_ne h1]
theorem sP1 {P : List Int} {t : Nat} {s : Int} : (P.map PV.int).set t (PV.int s) = (P.set t s).map PV.int := by rw [List.map_set]
theorem dS01 {x : Int} (h : 0 ≤ x ∧ x ≤ 1) : AnOk (some (dS x)) := by
  obtain rfl | rfl : x = 0 ∨ x = 1 := by omega
  · exact .inr (.inr (.inr (.inr (.inl (by decide +kernel)))))
  · exact .inr (.inr (.inr (.inr (.inr (by decide +kernel)))))
theorem set_all {α : Type} {P : α → Prop} {l : List α} {i : Nat} {v : α} (h : ∀ x ∈ l, P x) (hv : P v) : ∀ x ∈ l.set i v, P x := fun x hx => by
  rcases List.mem_or_eq_of_mem_set hx with h1 | rfl
  · exact h x h1
  · exact hv
end HT
set_option Elab.async false
set_option linter.all false
set_option maxRecDepth 100000
set_option maxHeartbeats 2000000
set_option pp.maxSteps 400
set_option pp.deepTerms false
namespace HT
open PySem PySem.Spec PyProof.Rows L2 Z
local macro_rules | `(tactic| walk_at "HL") => `(tactic| (first | assumption | exact put_same | (rw [put_ne (by first | assumption | (apply Ne.symm; assumption))]; first | assumption | exact put_same | (rw [put_ne (by first | assumption | (apply Ne.symm; assumption))]; first | assumption | exact put_same | (rw [put_ne (by first | assumption | (apply Ne.symm; assumption))]; first | assumption | exact put_same)))))
local macro_rules | `(tactic| walk_at "ONE") => `(tactic| (first | (refine And.intro rfl ?_; (conv => whnf)) | (refine Exists.intro _ (Exists.intro _ (Exists.intro _ (Exists.intro _ (And.intro (by walk_at "HL") (And.intro (by assumption) (And.intro rfl ?_)))))); (conv => whnf)) | (refine Exists.intro _ (Exists.intro _ (Exists.intro _ (And.intro (by walk_at "HL") (And.intro (DSet.old (by assumption) (by decide +kernel) (by decide +kernel)) ?_)))); (conv => whnf)) | (refine Exists.intro _ (Exists.intro _ (Exists.intro _ (And.intro (by walk_at "HL") (And.intro (DSet.new (by decide +kernel) (by decide +kernel)) ?_)))); (conv => whnf)) | (refine And.intro True.intro ?_; (conv => whnf)) | (refine And.intro (Exists.intro _ (by walk_at "HL")) ?_; (conv => whnf)) | (refine And.intro (by walk_at "HL") ?_; (conv => whnf)) | (refine And.intro (And.intro rfl rfl) ?_; (conv => whnf)) | (refine And.intro (Nat.le_of_ble_eq_true rfl) ?_; (conv => whnf)) | (refine And.intro (by decide) ?_; (conv => whnf)) | (refine And.intro (by omega) ?_; (conv => whnf)) | (refine Exists.intro _ (And.intro (by walk_at "HL") ?_); (conv => whnf)) | (refine Exists.intro _ (And.intro rfl ?_); (conv => whnf)) | (refine Exists.intro _ (Exists.intro _ (And.intro (by walk_at "HL") (And.intro rfl ?_))); (conv => whnf)) | (refine Exists.intro _ (Exists.intro _ (And.intro (by walk_at "HL") (And.intro (And.intro (by decide) rfl) ?_))); (conv => whnf)) | (refine Exists.intro _ (Exists.intro _ (And.intro rfl (And.intro rfl ?_))); (conv => whnf)) | (refine Exists.intro _ (Exists.intro _ (And.intro (by walk_at "HL") (And.intro (by walk_at "HL") ?_))); (conv => whnf)) | (refine Exists.intro _ (And.intro (by walk_at "HL") (And.intro (by decide) ?_)); (conv => whnf)) | (refine br_t rfl ?_; (conv => whnf)) | (refine br_f rfl ?_; (conv => whnf)) | (refine And.intro (And.intro (by decide +kernel) (by decide +kernel)) ?_; (conv => whnf)) | (refine br_t (by decide +kernel) ?_; (conv => whnf)) | (refine br_f (by decide +kernel) ?_; (conv => whnf))))
local macro_rules | `(tactic| walk_at "ONI") => `(tactic| (first | (refine Qw.here ?_; (conv => whnf)) | (refine br_t (decide_eq_true (by omega)) ?_; (conv => whnf)) | (refine br_f (decide_eq_false (by omega)) ?_; (conv => whnf)) | (refine And.intro rfl ?_; (conv => whnf)) | (refine Exists.intro _ (Exists.intro _ (Exists.intro _ (Exists.intro _ (And.intro (by walk_at "HL") (And.intro (by assumption) (And.intro rfl ?_)))))); (conv => whnf)) | (refine Exists.intro _ (Exists.intro _ (Exists.intro _ (And.intro (by walk_at "HL") (And.intro (DSet.old (by assumption) (by decide +kernel) (by decide +kernel)) ?_)))); (conv => whnf)) | (refine Exists.intro _ (Exists.intro _ (Exists.intro _ (And.intro (by walk_at "HL") (And.intro (DSet.new (by decide +kernel) (by decide +kernel)) ?_)))); (conv => whnf)) | (refine And.intro True.intro ?_; (conv => whnf)) | (refine And.intro (Exists.intro _ (by walk_at "HL")) ?_; (conv => whnf)) | (refine And.intro (by walk_at "HL") ?_; (conv => whnf)) | (refine And.intro (And.intro rfl rfl) ?_; (conv => whnf)) | (refine And.intro (Nat.le_of_ble_eq_true rfl) ?_; (conv => whnf)) | (refine And.intro (by decide) ?_; (conv => whnf)) | (refine And.intro (by omega) ?_; (conv => whnf)) | (refine Exists.intro _ (And.intro (by walk_at "HL") ?_); (conv => whnf)) | (refine Exists.intro _ (And.intro rfl ?_); (conv => whnf)) | (refine Exists.intro _ (Exists.intro _ (And.intro (by walk_at "HL") (And.intro rfl ?_))); (conv => whnf)) | (refine Exists.intro _ (Exists.intro _ (And.intro (by walk_at "HL") (And.intro (And.intro (by decide) rfl) ?_))); (conv => whnf)) | (refine Exists.intro _ (Exists.intro _ (And.intro rfl (And.intro rfl ?_))); (conv => whnf)) | (refine Exists.intro _ (Exists.intro _ (And.intro (by walk_at "HL") (And.intro (by walk_at "HL") ?_))); (conv => whnf)) | (refine Exists.intro _ (And.intro (by walk_at "HL") (And.intro (by decide) ?_)); (conv => whnf)) | (refine br_t rfl ?_; (conv => whnf)) | (refine br_f rfl ?_; (conv => whnf)) | (refine And.intro (And.intro (by decide +kernel) (by decide +kernel)) ?_; (conv => whnf)) | (refine br_t (by decide +kernel) ?_; (conv => whnf)) | (refine br_f (by decide +kernel) ?_; (conv => whnf))))
local macro_rules | `(tactic| walk_at "GO") => `(tactic| (((try (conv => whnf)); repeat (walk_at "ONE"))))
local macro_rules | `(tactic| walk_at "GI") => `(tactic| (((conv => whnf); repeat (walk_at "ONI"))))
local macro_rules | `(tactic| walk_at "BB") => `(tactic| (first | rfl | (simp only [Bool.and_eq_true, Bool.or_eq_true, Bool.not_eq_true', Bool.and_eq_false_iff, Bool.not_eq_false', decide_eq_true_eq, decide_eq_false_iff_not, peq_int, List.length_map]; omega)))
abbrev wk15 : List (Int ⊕ Str) := [.inr "many", .inr "costs", .inr "padded", .inr "pages", .inr "home", .inr "rights", .inr "sides", .inr "time", .inr "free", .inr "inside"]
abbrev wv15 (p : Pt) (T F : Nat) (r i : Addr) : List PV := [nI p.ts.length, .tup [.int p.c0, .int p.c1, .int p.c2], .bl p.b1, nI p.ps.length, .lst p.ls, .ref r, .lst (p.ts.map fun t => .int t.1), nI T, nI F, .ref i]
def sp_turn15 : ZSp := fun vs M Q _ => ∃ (p : Pt) (d r i : Addr) (T F : Nat), vs = [.ref d] ∧ P15 p ∧ M d = some (.dct wk15 (wv15 p T F r i)) ∧ Q (eO (turn15 p T F)) M
theorem kx_many : keyIx wk15 (.inr "many") = some 0 := by decide +kernel
theorem kx_costs : keyIx wk15 (.inr "costs") = some 1 := by decide +kernel
theorem kx_padded : keyIx wk15 (.inr "padded") = some 2 := by decide +kernel
theorem kx_pages : keyIx wk15 (.inr "pages") = some 3 := by decide +kernel
theorem kx_home : keyIx wk15 (.inr "home") = some 4 := by decide +kernel
theorem kx_rights : keyIx wk15 (.inr "rights") = some 5 := by decide +kernel
theorem kx_sides : keyIx wk15 (.inr "sides") = some 6 := by decide +kernel
theorem kx_time : keyIx wk15 (.inr "time") = some 7 := by decide +kernel
theorem kx_free : keyIx wk15 (.inr "free") = some 8 := by decide +kernel
theorem kx_inside : keyIx wk15 (.inr "inside") = some 9 := by decide +kernel
theorem o_turn15 (Φ : Nat → ZSp) (vs : List PV) (M : Mh) (Q : ZQ) (E : ZX) (h : sp_turn15 vs M Q E) : vs.length = 1 ∧ Reach M fun M1 => inl Φ 3 1 b__law_turn vs M1 Q E := by
  obtain ⟨p, d, r, i, T, F, rfl, u, hd, hq⟩ := h
  have k1 := kx_time
  have k2 := kx_costs
  have k3 := kx_free
  have k4 := kx_many
  refine ⟨rfl, .done ⟨rfl, ?_⟩⟩
  have ev : (((T : Nat) : Int) / 12) % ((p.ts.length : Nat) : Int) = ((T / 12 % p.ts.length : Nat) : Int) := rfl
  have no : ¬ (F ≤ T ∧ p.c2 ≤ ((T % 12 : Nat) : Int) ∧ p.c0 + p.c1 ≤ 12 - ((T % 12 : Nat) : Int)) → Q .non M := fun z => by
    have e : turn15 p T F = none := by unfold turn15; rw [if_neg z]
    rw [e] at hq; exact hq
  have t1 := u.ok.t1
  walk_at "GO"
  refine br_intro (fun c1 => ?_) fun c1 => ?_
  · have c1 := of_decide_eq_true c1
    walk_at "GO"
    refine br_intro (fun c2 => ?_) fun c2 => ?_
    · have c2 := of_decide_eq_true c2
      walk_at "GO"
      refine br_intro (fun c3 => ?_) fun c3 => ?_
      · have c3 := of_decide_eq_true c3
        have e : turn15 p T F = some (T / 12 % p.ts.length) := by unfold turn15; rw [if_pos ⟨by omega, by omega, by omega⟩]
        rw [e] at hq
        walk_at "GO"
        rw [ev]
        exact Qw.here hq
      · have c3 := of_decide_eq_false c3
        walk_at "GO"
        exact Qw.here (no (by omega))
    · have c2 := of_decide_eq_false c2
      walk_at "GO"
      exact Qw.here (no (by omega))
  · have c1 := of_decide_eq_false c1
    walk_at "GO"
    exact Qw.here (no (by omega))
theorem peq_eO {x : Option Nat} {g : Nat} : peq (eO x) (nI g) = decide (x = some g) := by
  cases x with
  | none => rfl
  | some y =>
    show peq (.int (y : Int)) (.int (g : Int)) = _
    rw [peq_int]
    by_cases c : y = g
    · subst c; simp
    · rw [decide_eq_false (by omega), decide_eq_false (by simpa using c)]
/-- a call of the law -/
def isRW (c : PV) (s : Str) (g : Nat) : Prop := (s = "read" ∧ c = .tup [.str "read", nI g]) ∨ (s = "write" ∧ ∃ v : Int, c = .tup [.str "write", nI g, .int v])
def sp_cost15 : ZSp := fun vs M Q _ => ∃ (M0 : Mh) (p : Pt) (d r i : Addr) (T F t g : Nat) (L : List (Option Nat)) (s : Str) (c : PV), vs = [.ref d, nI t, c] ∧ P15 p ∧ t < p.ts.length ∧ g < p.ps.length ∧ L.length = 2 ∧ isRW c s g ∧ d ≠ i ∧ r ≠ i ∧ M = put M0 i (.lst (L.map eO)) ∧ M0 d = some (.dct wk15 (wv15 p T F r i)) ∧ M0 r = some (.lst (p.rs.map PV.lst)) ∧ Q (.int (cost15 p L t s g)) (put M0 i (.lst ((ln15 p L t s g).map eO)))
theorem o_cost15 (Φ : Nat → ZSp) (vs : List PV) (M : Mh) (Q : ZQ) (E : ZX) (h : sp_cost15 vs M Q E) : vs.length = 3 ∧ Reach M fun M1 => inl Φ 6 3 b__law_cost vs M1 Q E := by
  obtain ⟨M0, p, d, r, i, T, F, t, g, L, s, c, rfl, u, ht, hg, hL, hc, hdi, hri, rfl, hd, hr, hq⟩ := h
  have k1 := kx_costs
  have k2 := kx_rights
  have k3 := kx_home
  have k4 := kx_inside
  have k5 := kx_padded
  have pR := pk (f := PV.lst) [] (show t < p.rs.length by rw [u.ok.r1]; exact ht)
  have okr : okDs 40 (gt p.rs [] t) = true := okR (u.ok.r2 _ (gt_mem (by rw [u.ok.r1]; exact ht))).1
  have pL0 : pick (L.map eO) 0 = some (eO (gt L none 0)) := pk (f := eO) none (show 0 < L.length by omega)
  have pL1 : pick (L.map eO) 1 = some (eO (gt L none 1)) := pk (f := eO) none (show 1 < L.length by omega)
  have lL0 : place (L.map eO).length 0 = some 0 := pl (show 0 < L.length by omega)
  have lL1 : place (L.map eO).length 1 = some 1 := pl (show 1 < L.length by omega)
  have hls : pick p.ls (g : Int) = some (gt p.ls .non g) := gt_some (by rw [u.ok.s1]; exact hg)
  refine ⟨rfl, .done ⟨rfl, ?_⟩⟩
  rcases hc with ⟨rfl, rfl⟩ | ⟨rfl, v, rfl⟩
  · walk_at "GO"
    refine ⟨⟨okD_rgt (by decide +kernel), okr⟩, ?_⟩
    walk_at "GO"
    refine br_intro (fun c => ?_) fun c => ?_
    · have c' : hasR (gt p.rs [] t) "read" g = true := by simpa using c
      unfold cost15 ln15 at hq
      simp only [c', if_true, Bool.true_and] at hq
      unfold miss15 tch at hq
      walk_at "GO"
      rcases ls_at u.ok hg with e | e | e
      · rw [e] at hq ⊢
        walk_at "GO"
        refine br_intro (fun b => ?_) fun b => ?_
        · rw [b] at hq
          walk_at "GO"
          exact Qw.here hq
        · rw [b] at hq
          walk_at "GO"
          exact Qw.here hq
      · rw [e] at hq ⊢
        replace hq : Q (.int (if p.b1 = true then p.c0 + p.c1 else if (!decide (gt L none 0 = some g)) = true then p.c0 + p.c1 else p.c0)) (put M0 i (.lst ((L.set 0 (some g)).map eO))) := hq
        rcases eg : gt L none 0 with _ | y
        · rw [eg] at pL0 hq
          replace hq : Q (.int (if p.b1 = true then p.c0 + p.c1 else p.c0 + p.c1)) (put M0 i (.lst ((L.set 0 (some g)).map eO))) := hq
          walk_at "GO"
          rw [sl8, put_put]
          refine br_intro (fun b => ?_) fun b => ?_
          · rw [b] at hq
            walk_at "GO"
            exact Qw.here hq
          · rw [b] at hq
            walk_at "GO"
            exact Qw.here hq
        · rw [eg] at pL0 hq
          walk_at "GO"
          refine br_intro (fun c2 => ?_) fun c2 => ?_
          · have c3 : (!decide (some y = some g)) = true := by rw [show decide (some y = some g) = peq (eO (some y)) (nI g) from peq_eO.symm]; exact c2
            rw [if_pos c3] at hq
            walk_at "GO"
            rw [sl8, put_put]
            refine br_intro (fun b => ?_) fun b => ?_
            · rw [b] at hq
              walk_at "GO"
              exact Qw.here hq
            · rw [b] at hq
              walk_at "GO"
              exact Qw.here hq
          · have c3 : ¬ (!decide (some y = some g)) = true := fun h => by rw [show decide (some y = some g) = peq (eO (some y)) (nI g) from peq_eO.symm] at h; exact Bool.noConfusion (h.symm.trans c2)
            rw [if_neg c3] at hq
            walk_at "GO"
            rw [sl8, put_put]
            refine br_intro (fun b => ?_) fun b => ?_
            · rw [b] at hq
              walk_at "GO"
              exact Qw.here hq
            · rw [b] at hq
              walk_at "GO"
              exact Qw.here hq
      · rw [e] at hq ⊢
        replace hq : Q (.int (if p.b1 = true then p.c0 + p.c1 else if (!decide (gt L none 1 = some g)) = true then p.c0 + p.c1 else p.c0)) (put M0 i (.lst ((L.set 1 (some g)).map eO))) := hq
        rcases eg : gt L none 1 with _ | y
        · rw [eg] at pL1 hq
          replace hq : Q (.int (if p.b1 = true then p.c0 + p.c1 else p.c0 + p.c1)) (put M0 i (.lst ((L.set 1 (some g)).map eO))) := hq
          walk_at "GO"
          rw [sl8, put_put]
          refine br_intro (fun b => ?_) fun b => ?_
          · rw [b] at hq
            walk_at "GO"
            exact Qw.here hq
          · rw [b] at hq
            walk_at "GO"
            exact Qw.here hq
        · rw [eg] at pL1 hq
          walk_at "GO"
          refine br_intro (fun c2 => ?_) fun c2 => ?_
          · have c3 : (!decide (some y = some g)) = true := by rw [show decide (some y = some g) = peq (eO (some y)) (nI g) from peq_eO.symm]; exact c2
            rw [if_pos c3] at hq
            walk_at "GO"
            rw [sl8, put_put]
            refine br_intro (fun b => ?_) fun b => ?_
            · rw [b] at hq
              walk_at "GO"
              exact Qw.here hq
            · rw [b] at hq
              walk_at "GO"
              exact Qw.here hq
          · have c3 : ¬ (!decide (some y = some g)) = true := fun h => by rw [show decide (some y = some g) = peq (eO (some y)) (nI g) from peq_eO.symm] at h; exact Bool.noConfusion (h.symm.trans c2)
            rw [if_neg c3] at hq
            walk_at "GO"
            rw [sl8, put_put]
            refine br_intro (fun b => ?_) fun b => ?_
            · rw [b] at hq
              walk_at "GO"
              exact Qw.here hq
            · rw [b] at hq
              walk_at "GO"
              exact Qw.here hq
    · have c' : hasR (gt p.rs [] t) "read" g = false := by simpa using c
      unfold cost15 ln15 at hq
      simp only [c', Bool.false_and, Bool.false_eq_true, if_false] at hq
      walk_at "GO"
      refine br_intro (fun b => ?_) fun b => ?_
      · rw [b] at hq
        walk_at "GO"
        exact Qw.here hq
      · rw [b] at hq
        walk_at "GO"
        exact Qw.here hq
  · walk_at "GO"
    refine ⟨⟨okD_rgt (by decide +kernel), okr⟩, ?_⟩
    walk_at "GO"
    refine br_intro (fun c => ?_) fun c => ?_
    · have c' : hasR (gt p.rs [] t) "write" g = true := by simpa using c
      unfold cost15 ln15 at hq
      simp only [c', if_true, Bool.true_and] at hq
      unfold miss15 tch at hq
      walk_at "GO"
      rcases ls_at u.ok hg with e | e | e
      · rw [e] at hq ⊢
        walk_at "GO"
        refine br_intro (fun b => ?_) fun b => ?_
        · rw [b] at hq
          walk_at "GO"
          exact Qw.here hq
        · rw [b] at hq
          walk_at "GO"
          exact Qw.here hq
      · rw [e] at hq ⊢
        replace hq : Q (.int (if p.b1 = true then p.c0 + p.c1 else if (!decide (gt L none 0 = some g)) = true then p.c0 + p.c1 else p.c0)) (put M0 i (.lst ((L.set 0 (some g)).map eO))) := hq
        rcases eg : gt L none 0 with _ | y
        · rw [eg] at pL0 hq
          replace hq : Q (.int (if p.b1 = true then p.c0 + p.c1 else p.c0 + p.c1)) (put M0 i (.lst ((L.set 0 (some g)).map eO))) := hq
          walk_at "GO"
          rw [sl8, put_put]
          refine br_intro (fun b => ?_) fun b => ?_
          · rw [b] at hq
            walk_at "GO"
            exact Qw.here hq
          · rw [b] at hq
            walk_at "GO"
            exact Qw.here hq
        · rw [eg] at pL0 hq
          walk_at "GO"
          refine br_intro (fun c2 => ?_) fun c2 => ?_
          · have c3 : (!decide (some y = some g)) = true := by rw [show decide (some y = some g) = peq (eO (some y)) (nI g) from peq_eO.symm]; exact c2
            rw [if_pos c3] at hq
            walk_at "GO"
            rw [sl8, put_put]
            refine br_intro (fun b => ?_) fun b => ?_
            · rw [b] at hq
              walk_at "GO"
              exact Qw.here hq
            · rw [b] at hq
              walk_at "GO"
              exact Qw.here hq
          · have c3 : ¬ (!decide (some y = some g)) = true := fun h => by rw [show decide (some y = some g) = peq (eO (some y)) (nI g) from peq_eO.symm] at h; exact Bool.noConfusion (h.symm.trans c2)
            rw [if_neg c3] at hq
            walk_at "GO"
            rw [sl8, put_put]
            refine br_intro (fun b => ?_) fun b => ?_
            · rw [b] at hq
              walk_at "GO"
              exact Qw.here hq
            · rw [b] at hq
              walk_at "GO"
              exact Qw.here hq
      · rw [e] at hq ⊢
        replace hq : Q (.int (if p.b1 = true then p.c0 + p.c1 else if (!decide (gt L none 1 = some g)) = true then p.c0 + p.c1 else p.c0)) (put M0 i (.lst ((L.set 1 (some g)).map eO))) := hq
        rcases eg : gt L none 1 with _ | y
        · rw [eg] at pL1 hq
          replace hq : Q (.int (if p.b1 = true then p.c0 + p.c1 else p.c0 + p.c1)) (put M0 i (.lst ((L.set 1 (some g)).map eO))) := hq
          walk_at "GO"
          rw [sl8, put_put]
          refine br_intro (fun b => ?_) fun b => ?_
          · rw [b] at hq
            walk_at "GO"
            exact Qw.here hq
          · rw [b] at hq
            walk_at "GO"
            exact Qw.here hq
        · rw [eg] at pL1 hq
          walk_at "GO"
          refine br_intro (fun c2 => ?_) fun c2 => ?_
          · have c3 : (!decide (some y = some g)) = true := by rw [show decide (some y = some g) = peq (eO (some y)) (nI g) from peq_eO.symm]; exact c2
            rw [if_pos c3] at hq
            walk_at "GO"
            rw [sl8, put_put]
            refine br_intro (fun b => ?_) fun b => ?_
            · rw [b] at hq
              walk_at "GO"
              exact Qw.here hq
            · rw [b] at hq
              walk_at "GO"
              exact Qw.here hq
          · have c3 : ¬ (!decide (some y = some g)) = true := fun h => by rw [show decide (some y = some g) = peq (eO (some y)) (nI g) from peq_eO.symm] at h; exact Bool.noConfusion (h.symm.trans c2)
            rw [if_neg c3] at hq
            walk_at "GO"
            rw [sl8, put_put]
            refine br_intro (fun b => ?_) fun b => ?_
            · rw [b] at hq
              walk_at "GO"
              exact Qw.here hq
            · rw [b] at hq
              walk_at "GO"
              exact Qw.here hq
    · have c' : hasR (gt p.rs [] t) "write" g = false := by simpa using c
      unfold cost15 ln15 at hq
      simp only [c', Bool.false_and, Bool.false_eq_true, if_false] at hq
      walk_at "GO"
      refine br_intro (fun b => ?_) fun b => ?_
      · rw [b] at hq
        walk_at "GO"
        exact Qw.here hq
      · rw [b] at hq
        walk_at "GO"
        exact Qw.here hq
end HT
set_option Elab.async false
set_option linter.all false
set_option maxRecDepth 100000
set_option maxHeartbeats 2000000
set_option pp.maxSteps 400
set_option pp.deepTerms false
namespace HT
open PySem PySem.Spec PyProof.Rows L2 Z
local macro_rules | `(tactic| walk_at "HL") => `(tactic| (first | assumption | exact put_same | exact at_w | exact at_1 (by assumption) | exact at_2 (by assumption) | exact at_3 (by assumption) | exact at_4 (by assumption) | exact at_5 (by assumption) | exact at_6 (by assumption) | exact at_7 (by assumption) | exact at_8 (by assumption) | (rw [put_ne (by first | assumption | (apply Ne.symm; assumption) | exact neN (at_w) (by assumption) | exact neN (at_1 (by assumption)) (by assumption) | exact neN (at_2 (by assumption)) (by assumption) | exact neN (at_3 (by assumption)) (by assumption) | exact neN (at_4 (by assumption)) (by assumption) | exact neN (at_5 (by assumption)) (by assumption) | exact neN (at_6 (by assumption)) (by assumption) | exact neN (at_7 (by assumption)) (by assumption) | exact neN (at_8 (by assumption)) (by assumption))]; first | assumption | exact put_same | exact at_w | exact at_1 (by assumption) | exact at_2 (by assumption) | exact at_3 (by assumption) | exact at_4 (by assumption) | exact at_5 (by assumption) | exact at_6 (by assumption) | exact at_7 (by assumption) | exact at_8 (by assumption) | (rw [put_ne (by first | assumption | (apply Ne.symm; assumption) | exact neN (at_w) (by assumption) | exact neN (at_1 (by assumption)) (by assumption) | exact neN (at_2 (by assumption)) (by assumption) | exact neN (at_3 (by assumption)) (by assumption) | exact neN (at_4 (by assumption)) (by assumption) | exact neN (at_5 (by assumption)) (by assumption) | exact neN (at_6 (by assumption)) (by assumption) | exact neN (at_7 (by assumption)) (by assumption) | exact neN (at_8 (by assumption)) (by assumption))]; first | assumption | exact put_same | exact at_w | exact at_1 (by assumption) | exact at_2 (by assumption) | exact at_3 (by assumption) | exact at_4 (by assumption) | exact at_5 (by assumption) | exact at_6 (by assumption) | exact at_7 (by assumption) | exact at_8 (by assumption) | (rw [put_ne (by first | assumption | (apply Ne.symm; assumption) | exact neN (at_w) (by assumption) | exact neN (at_1 (by assumption)) (by assumption) | exact neN (at_2 (by assumption)) (by assumption) | exact neN (at_3 (by assumption)) (by assumption) | exact neN (at_4 (by assumption)) (by assumption) | exact neN (at_5 (by assumption)) (by assumption) | exact neN (at_6 (by assumption)) (by assumption) | exact neN (at_7 (by assumption)) (by assumption) | exact neN (at_8 (by assumption)) (by assumption))]; first | assumption | exact put_same | exact at_w | exact at_1 (by assumption) | exact at_2 (by assumption) | exact at_3 (by assumption) | exact at_4 (by assumption) | exact at_5 (by assumption) | exact at_6 (by assumption) | exact at_7 (by assumption) | exact at_8 (by assumption))))))
local macro_rules | `(tactic| walk_at "ONE") => `(tactic| (first | (refine And.intro rfl ?_; (conv => whnf)) | (refine Exists.intro _ (Exists.intro _ (Exists.intro _ (Exists.intro _ (And.intro (by walk_at "HL") (And.intro (by assumption) (And.intro rfl ?_)))))); (conv => whnf)) | (refine Exists.intro _ (Exists.intro _ (Exists.intro _ (And.intro (by walk_at "HL") (And.intro (DSet.old (by assumption) (by decide +kernel) (by decide +kernel)) ?_)))); (conv => whnf)) | (refine Exists.intro _ (Exists.intro _ (Exists.intro _ (And.intro (by walk_at "HL") (And.intro (DSet.new (by decide +kernel) (by decide +kernel)) ?_)))); (conv => whnf)) | (refine And.intro True.intro ?_; (conv => whnf)) | (refine And.intro (Exists.intro _ (by walk_at "HL")) ?_; (conv => whnf)) | (refine And.intro (by walk_at "HL") ?_; (conv => whnf)) | (refine And.intro (And.intro rfl rfl) ?_; (conv => whnf)) | (refine And.intro (Nat.le_of_ble_eq_true rfl) ?_; (conv => whnf)) | (refine And.intro (by decide) ?_; (conv => whnf)) | (refine And.intro (by omega) ?_; (conv => whnf)) | (refine Exists.intro _ (And.intro (by walk_at "HL") ?_); (conv => whnf)) | (refine Exists.intro _ (And.intro rfl ?_); (conv => whnf)) | (refine Exists.intro _ (Exists.intro _ (And.intro (by walk_at "HL") (And.intro rfl ?_))); (conv => whnf)) | (refine Exists.intro _ (Exists.intro _ (And.intro (by walk_at "HL") (And.intro (And.intro (by decide) rfl) ?_))); (conv => whnf)) | (refine Exists.intro _ (Exists.intro _ (And.intro rfl (And.intro rfl ?_))); (conv => whnf)) | (refine Exists.intro _ (Exists.intro _ (And.intro (by walk_at "HL") (And.intro (by walk_at "HL") ?_))); (conv => whnf)) | (refine Exists.intro _ (And.intro (by walk_at "HL") (And.intro (by decide) ?_)); (conv => whnf)) | (refine br_t rfl ?_; (conv => whnf)) | (refine br_f rfl ?_; (conv => whnf)) | (refine And.intro (And.intro (by decide +kernel) (by decide +kernel)) ?_; (conv => whnf)) | (refine br_t (by decide +kernel) ?_; (conv => whnf)) | (refine br_f (by decide +kernel) ?_; (conv => whnf))))
local macro_rules | `(tactic| walk_at "ONI") => `(tactic| (first | (refine Qw.here ?_; (conv => whnf)) | (refine br_t (decide_eq_true (by omega)) ?_; (conv => whnf)) | (refine br_f (decide_eq_false (by omega)) ?_; (conv => whnf)) | (refine And.intro rfl ?_; (conv => whnf)) | (refine Exists.intro _ (Exists.intro _ (Exists.intro _ (Exists.intro _ (And.intro (by walk_at "HL") (And.intro (by assumption) (And.intro rfl ?_)))))); (conv => whnf)) | (refine Exists.intro _ (Exists.intro _ (Exists.intro _ (And.intro (by walk_at "HL") (And.intro (DSet.old (by assumption) (by decide +kernel) (by decide +kernel)) ?_)))); (conv => whnf)) | (refine Exists.intro _ (Exists.intro _ (Exists.intro _ (And.intro (by walk_at "HL") (And.intro (DSet.new (by decide +kernel) (by decide +kernel)) ?_)))); (conv => whnf)) | (refine And.intro True.intro ?_; (conv => whnf)) | (refine And.intro (Exists.intro _ (by walk_at "HL")) ?_; (conv => whnf)) | (refine And.intro (by walk_at "HL") ?_; (conv => whnf)) | (refine And.intro (And.intro rfl rfl) ?_; (conv => whnf)) | (refine And.intro (Nat.le_of_ble_eq_true rfl) ?_; (conv => whnf)) | (refine And.intro (by decide) ?_; (conv => whnf)) | (refine And.intro (by omega) ?_; (conv => whnf)) | (refine Exists.intro _ (And.intro (by walk_at "HL") ?_); (conv => whnf)) | (refine Exists.intro _ (And.intro rfl ?_); (conv => whnf)) | (refine Exists.intro _ (Exists.intro _ (And.intro (by walk_at "HL") (And.intro rfl ?_))); (conv => whnf)) | (refine Exists.intro _ (Exists.intro _ (And.intro (by walk_at "HL") (And.intro (And.intro (by decide) rfl) ?_))); (conv => whnf)) | (refine Exists.intro _ (Exists.intro _ (And.intro rfl (And.intro rfl ?_))); (conv => whnf)) | (refine Exists.intro _ (Exists.intro _ (And.intro (by walk_at "HL") (And.intro (by walk_at "HL") ?_))); (conv => whnf)) | (refine Exists.intro _ (And.intro (by walk_at "HL") (And.intro (by decide) ?_)); (conv => whnf)) | (refine br_t rfl ?_; (conv => whnf)) | (refine br_f rfl ?_; (conv => whnf)) | (refine And.intro (And.intro (by decide +kernel) (by decide +kernel)) ?_; (conv => whnf)) | (refine br_t (by decide +kernel) ?_; (conv => whnf)) | (refine br_f (by decide +kernel) ?_; (conv => whnf))))
local macro_rules | `(tactic| walk_at "GO") => `(tactic| (((try (conv => whnf)); repeat (walk_at "ONE"))))
local macro_rules | `(tactic| walk_at "GI") => `(tactic| (((conv => whnf); repeat (walk_at "ONI"))))
local macro_rules | `(tactic| walk_at "BB") => `(tactic| (first | rfl | (simp only [Bool.and_eq_true, Bool.or_eq_true, Bool.not_eq_true', Bool.and_eq_false_iff, Bool.not_eq_false', decide_eq_true_eq, decide_eq_false_iff_not, peq_int, List.length_map]; omega)))
def sp_stands15 : ZSp := fun vs M Q _ => ∃ (p : Pt) (d r i : Addr) (T F : Nat) (A : List (Option Str)) (P : List Int) (L : List (Option Nat)), vs = [.ref d, Mo p (K15 p A P L (some (T / 12 % p.ts.length)) ((F - T : Nat) : Int) (((T + 1) % (12 * p.ts.length) : Nat) : Int))] ∧ P15 p ∧ Wk.Ok p (K15 p A P L (some (T / 12 % p.ts.length)) ((F - T : Nat) : Int) (((T + 1) % (12 * p.ts.length) : Nat) : Int)) ∧ L.length = 2 ∧ M d = some (.dct wk15 (wv15 p (T + 1) F r i)) ∧ M i = some (.lst (L.map eO)) ∧ Q (.bl true) M
theorem o_stands15 (Φ : Nat → ZSp) (h121 : Φ 121 = sp_same 2) (h99 : Φ 99 = sp_mo fun _ k => .lst (k.ln.map eO)) (h101 : Φ 101 = sp_mo fun _ k => run4 k) (vs : List PV) (M : Mh) (Q : ZQ) (E : ZX) (h : sp_stands15 vs M Q E) : vs.length = 2 ∧ Reach M fun M1 => inl Φ 4 2 b__law_stands vs M1 Q E := by
  obtain ⟨p, d, r, i, T, F, A, P, L, rfl, u, kok, hL, hd, hi, hq⟩ := h
  have k1 := kx_time
  have k2 := kx_free
  have k3 := kx_inside
  have k4 := kx_many
  have t1 := u.ok.t1
  have e1 : ((((T + 1 : Nat) : Int) - 1) / 12) % ((p.ts.length : Nat) : Int) = ((T / 12 % p.ts.length : Nat) : Int) := by
    rw [show (((T + 1 : Nat) : Int) - 1) = (T : Int) by omega]; rfl
  have e3 : (((T + 1 : Nat) : Int)) % (12 * ((p.ts.length : Nat) : Int)) = (((T + 1) % (12 * p.ts.length) : Nat) : Int) := rfl
  have e2 : (if ((F : Nat) : Int) - ((T + 1 : Nat) : Int) + 1 > 0 then ((F : Nat) : Int) - ((T + 1 : Nat) : Int) + 1 else 0) = ((F - T : Nat) : Int) := by split <;> omega
  refine ⟨rfl, .done ⟨rfl, ?_⟩⟩
  walk_at "GO"
  rw [h99]
  refine ⟨p, _, rfl, kok, u.ok, ?_⟩
  walk_at "GO"
  rw [h121]
  refine ⟨_, _, rfl, .inr ⟨_, i, rfl, rfl, by walk_at "HL"⟩, okS_lst (by rw [List.length_map]; exact Nat.le_trans (Nat.le_of_eq hL) (by decide)) (fun x hx => by
    obtain ⟨y, hy, rfl⟩ := List.mem_map.mp hx
    cases y <;> rfl), ?_⟩
  walk_at "GO"
  rw [h101]
  refine ⟨p, _, rfl, kok, u.ok, ?_⟩
  walk_at "GO"
  rw [e1, e2, e3, h121]
  exact ⟨_, _, rfl, .inl rfl, rfl, Qw.here hq⟩
def fT0 : PV → PV := fun x => .tup [x, .int 0]
def fJ12 : PV → PV
  | .int i => pr2 (i, 12)
  | _ => .non
theorem fJ12_map {n : Nat} : (rangeL 0 n).map fJ12 = (twRows n).map pr2 := by
  unfold rangeL twRows
  rw [List.map_map, List.map_map]
  refine List.map_congr_left fun k _ => ?_
  show pr2 (0 + (k : Int), 12) = pr2 ((k : Int), 12)
  rw [Int.zero_add]
/-- the build of the law -/
def sp_built15 : ZSp := fun vs M Q _ => ∃ (p : Pt) (d r i : Addr) (T F : Nat), vs = [.ref d] ∧ P15 p ∧ (∀ t ∈ p.ts, t.2 = 0) ∧ p.ps = List.replicate p.ps.length 0 ∧ p.fr = 0 ∧ p.b2 = false ∧ p.b3 = false ∧ M d = some (.dct wk15 (wv15 p T F r i)) ∧ M r = some (.lst (p.rs.map PV.lst)) ∧ Q (Bp p) M
theorem o_built15 (Φ : Nat → ZSp) (h37 : Φ 37 = sp_init) (vs : List PV) (M : Mh) (Q : ZQ) (E : ZX) (h : sp_built15 vs M Q E) : vs.length = 1 ∧ Reach M fun M1 => inl Φ 7 1 b__law_built vs M1 Q E := by
  obtain ⟨p, d, r, i, T, F, rfl, u, h2, hps, hfr, hb2, hb3, hd, hr, hq⟩ := h
  have k1 := kx_sides
  have k2 := kx_many
  have k3 := kx_rights
  have k4 := kx_pages
  have k5 := kx_home
  have k6 := kx_costs
  have k7 := kx_padded
  have t1 := u.ok.t1
  have hbn : -(2 ^ 62 : Int) ≤ ((p.ts.length : Nat) : Int) ∧ ((p.ts.length : Nat) : Int) < 2 ^ 62 := by omega
  refine ⟨rfl, .done ⟨rfl, ?_⟩⟩
  walk_at "GO"
  intro D hD
  refine lc_mapF fT0 hD (by rw [List.length_map]; omega) (fun _ => trivial) ?_ ?_
  · intro x hx acc kk hk
    obtain ⟨y, hy, rfl⟩ := List.mem_map.mp hx
    walk_at "GO"
    exact hk
  have ets : (p.ts.map fun t => PV.int t.1).map fT0 = p.ts.map pr2 := by
    rw [List.map_map]
    refine List.map_congr_left fun y hy => ?_
    have := h2 y hy
    obtain ⟨y1, y2⟩ := y
    have this : y2 = 0 := this
    subst this
    rfl
  rw [ets]
  walk_at "GO"
  intro D2 hD2
  rw [Int.toNat_natCast]
  refine lc_mapF fJ12 hD2 (by rw [len_rangeL]; omega) (fun _ => trivial) ?_ ?_
  · intro x hx acc kk hk
    obtain ⟨j, hj, rfl⟩ := mem_range hx
    walk_at "GO"
    exact hk
  rw [fJ12_map]
  walk_at "GO"
  intro D3 hD3
  have hDr : r ≠ D3 := fun e => by rw [e, hD3] at hr; cases hr
  refine lc_mapF id hD3 (by rw [List.length_map, u.ok.r1]; omega) (fun _ => by rw [put_ne hDr]; exact hr) ?_ ?_
  · intro x hx acc kk hk
    obtain ⟨y, hy, rfl⟩ := List.mem_map.mp hx
    walk_at "GO"
    exact hk
  rw [List.map_id]
  walk_at "GO"
  have pl1 := u.ok.p1
  refine ⟨⟨by omega, by omega, by rw [sizeLine_eq]; simp; omega⟩, ?_⟩
  walk_at "GO"
  intro q hq'
  walk_at "GO"
  rw [put_del hq']
  walk_at "GO"
  intro x hx
  have eps : (List.replicate (((p.ps.length : Nat) : Int)).toNat [PV.int 0]).flatten = p.ps.map PV.int := by
    rw [rep_flat, Int.toNat_natCast]
    have : p.ps.map PV.int = (List.replicate p.ps.length 0).map PV.int := congrArg (List.map PV.int) hps
    rw [this, List.map_replicate]
  rw [eps, h37]
  refine ⟨x, p, ?_, u.ok, put_same, rfl, ?_⟩
  · unfold Pt.items
    rw [u.qs, u.nl, u.dk, u.b0, hfr, hb2, hb3, u.ou, u.pl]
    rfl
  walk_at "GO"
  rw [put_put, put_del hx]
  exact Qw.here hq
end HT
set_option Elab.async false
set_option linter.all false
set_option maxRecDepth 100000
set_option maxHeartbeats 2000000
set_option pp.maxSteps 400
set_option pp.deepTerms false
namespace HT
open PySem PySem.Spec PyProof.Rows L2 Z
def pt15 (n : Nat) (d1 : Int) (np : Nat) (ls : List PV) (rows : List (List PV)) (c0 c1 c2 : Int) (b1 : Bool) : Pt := { ts := (List.range n).map fun (k : Nat) => ((d1 + (k : Int)) % 4, (0 : Int)), ps := List.replicate np 0, qs := [], nl := 0, fr := 0, dk := 0, rs := rows, ls := ls, c0 := c0, c1 := c1, c2 := c2, pl := .tup [.str "slots", .lst ((twRows n).map pr2)], ou := .non, b0 := false, b1 := b1, b2 := false, b3 := false }
theorem ok15 {n : Nat} {d1 : Int} {np : Nat} {ls : List PV} {rows : List (List PV)} {c0 c1 c2 : Int} {b1 : Bool} (hn : 2 ≤ n ∧ n ≤ 3) (hP : np ≤ 3) (hr : rows.length = n) (hr2 : ∀ r ∈ rows, r.Sublist (pool n np 0 0 0) ∧ r.length ≤ 8) (hls : ls.length = np) (hls2 : ∀ x ∈ ls, x = .non ∨ x = .int 0 ∨ x = .int 1) (hc : (1 ≤ c0 ∧ c0 ≤ 3) ∧ (0 ≤ c1 ∧ c1 ≤ 3) ∧ 0 ≤ c2 ∧ c2 ≤ 2) : P15 (pt15 n d1 np ls rows c0 c1 c2 b1) ∧ (pt15 n d1 np ls rows c0 c1 c2 b1).ts.length = n ∧ (pt15 n d1 np ls rows c0 c1 c2 b1).ps.length = np := by
  have hts : (pt15 n d1 np ls rows c0 c1 c2 b1).ts.length = n := by
    show ((List.range n).map _).length = n
    rw [List.length_map, List.length_range]
  have hps : (pt15 n d1 np ls rows c0 c1 c2 b1).ps.length = np := List.length_replicate ..
  refine ⟨?_, hts, hps⟩
  have mem : ∀ k, k < n → (((d1 + (k : Int)) % 4, 0) : Int × Int) ∈ (pt15 n d1 np ls rows c0 c1 c2 b1).ts := fun k hk => List.mem_map.mpr ⟨k, List.mem_range.mpr hk, rfl⟩
  have ok : (pt15 n d1 np ls rows c0 c1 c2 b1).Ok :=
    { t1 := by rw [hts]; omega
      t2 := fun t ht => by
        obtain ⟨k, hk, rfl⟩ := List.mem_map.mp ht
        show (0 ≤ (d1 + (k : Int)) % 4 ∧ (d1 + (k : Int)) % 4 ≤ 3) ∧ (0 : Int) ≤ 0 ∧ (0 : Int) ≤ 2
        omega
      t3 := ⟨_, mem 0 (by omega), _, mem 1 (by omega), by show (d1 + ((0 : Nat) : Int)) % 4 ≠ (d1 + ((1 : Nat) : Int)) % 4; omega⟩
      p1 := by rw [hps]; exact hP
      p2 := fun x hx => by
        have := List.eq_of_mem_replicate hx
        omega
      q1 := Nat.zero_le _
      q2 := fun x hx => nomatch hx
      l1 := Nat.zero_le _
      f1 := ⟨Int.le_refl _, by show (0 : Int) ≤ 3; decide⟩
      d1 := .inl rfl
      r1 := by rw [hts]; exact hr
      r2 := fun r h => by rw [hts, hps]; exact hr2 r h
      s1 := by rw [hps]; exact hls
      s2 := hls2
      c1 := hc
      g1 := .inr ⟨twRows n, by unfold twRows; rw [List.length_map, List.length_range]; omega, fun t ht => by
        obtain ⟨k, hk, rfl⟩ := List.mem_map.mp ht
        have := List.mem_range.mp hk
        rw [hts]
        show (0 ≤ (k : Int) ∧ (k : Int) < (n : Int)) ∧ (1 : Int) ≤ 12 ∧ (12 : Int) ≤ 12
        omega, rfl⟩
      o1 := .inl rfl }
  exact { pl := by rw [hts]; rfl, dk := rfl, b0 := rfl, ok := ok, ou := rfl, qs := rfl, nl := rfl }
theorem first15 {p : Pt} (u : P15 p) : first0 p = K15 p (List.replicate p.ts.length none) p.ps [none, none] none 0 ((0 : Nat) : Int) := by
  unfold first0
  rw [u.qs, u.nl]
  rfl
end HT
set_option Elab.async false
set_option linter.all false
set_option maxRecDepth 100000
set_option maxHeartbeats 2000000
set_option pp.maxSteps 400
set_option pp.deepTerms false
namespace HT
open PySem PySem.Spec PyProof.Rows L2 Z
/-- the world at first -/
def sp_started15 : ZSp := fun vs M Q _ => ∃ ns : List Int, vs = [.scr (ns.map PV.int)] ∧ ∀ (p : Pt) (d r i : Addr), P15 p → (∀ t ∈ p.ts, t.2 = 0) → p.ps = List.replicate p.ps.length 0 → p.fr = 0 → p.b2 = false → p.b3 = false → 1 ≤ p.ps.length → p.ts.length ≤ 3 → d ≠ i → r ≠ i → d ≠ r → M d = none → M r = none → M i = none → Q (.ref d) (put (put (put M d (.dct wk15 (wv15 p 0 0 r i))) r (.lst (p.rs.map PV.lst))) i (.lst [.non, .non]))
end HT
set_option Elab.async false
set_option linter.all false
set_option maxRecDepth 100000
set_option maxHeartbeats 2000000
set_option pp.maxSteps 400
set_option pp.deepTerms false
namespace HT
open PySem PySem.Spec PyProof.Rows L2 Z
local macro_rules | `(tactic| walk_at "HL") => `(tactic| (first | assumption | exact put_same | (rw [put_ne (by first | assumption | (apply Ne.symm; assumption))]; first | assumption | exact put_same | (rw [put_ne (by first | assumption | (apply Ne.symm; assumption))]; first | assumption | exact put_same | (rw [put_ne (by first | assumption | (apply Ne.symm; assumption))]; first | assumption | exact put_same)))))
local macro_rules | `(tactic| walk_at "ONE") => `(tactic| (first | (refine And.intro rfl ?_; (conv => whnf)) | (refine Exists.intro _ (Exists.intro _ (Exists.intro _ (Exists.intro _ (And.intro (by walk_at "HL") (And.intro (by assumption) (And.intro rfl ?_)))))); (conv => whnf)) | (refine Exists.intro _ (Exists.intro _ (Exists.intro _ (And.intro (by walk_at "HL") (And.intro (DSet.old (by assumption) (by decide +kernel) (by decide +kernel)) ?_)))); (conv => whnf)) | (refine Exists.intro _ (Exists.intro _ (Exists.intro _ (And.intro (by walk_at "HL") (And.intro (DSet.new (by decide +kernel) (by decide +kernel)) ?_)))); (conv => whnf)) | (refine And.intro True.intro ?_; (conv => whnf)) | (refine And.intro (Exists.intro _ (by walk_at "HL")) ?_; (conv => whnf)) | (refine And.intro (by walk_at "HL") ?_; (conv => whnf)) | (refine And.intro (And.intro rfl rfl) ?_; (conv => whnf)) | (refine And.intro (Nat.le_of_ble_eq_true rfl) ?_; (conv => whnf)) | (refine And.intro (by decide) ?_; (conv => whnf)) | (refine And.intro (by omega) ?_; (conv => whnf)) | (refine Exists.intro _ (And.intro (by walk_at "HL") ?_); (conv => whnf)) | (refine Exists.intro _ (And.intro rfl ?_); (conv => whnf)) | (refine Exists.intro _ (Exists.intro _ (And.intro (by walk_at "HL") (And.intro rfl ?_))); (conv => whnf)) | (refine Exists.intro _ (Exists.intro _ (And.intro (by walk_at "HL") (And.intro (And.intro (by decide) rfl) ?_))); (conv => whnf)) | (refine Exists.intro _ (Exists.intro _ (And.intro rfl (And.intro rfl ?_))); (conv => whnf)) | (refine Exists.intro _ (Exists.intro _ (And.intro (by walk_at "HL") (And.intro (by walk_at "HL") ?_))); (conv => whnf)) | (refine Exists.intro _ (And.intro (by walk_at "HL") (And.intro (by decide) ?_)); (conv => whnf)) | (refine br_t rfl ?_; (conv => whnf)) | (refine br_f rfl ?_; (conv => whnf)) | (refine And.intro (And.intro (by decide +kernel) (by decide +kernel)) ?_; (conv => whnf)) | (refine br_t (by decide +kernel) ?_; (conv => whnf)) | (refine br_f (by decide +kernel) ?_; (conv => whnf))))
local macro_rules | `(tactic| walk_at "ONI") => `(tactic| (first | (refine Qw.here ?_; (conv => whnf)) | (refine br_t (decide_eq_true (by omega)) ?_; (conv => whnf)) | (refine br_f (decide_eq_false (by omega)) ?_; (conv => whnf)) | (refine And.intro rfl ?_; (conv => whnf)) | (refine Exists.intro _ (Exists.intro _ (Exists.intro _ (Exists.intro _ (And.intro (by walk_at "HL") (And.intro (by assumption) (And.intro rfl ?_)))))); (conv => whnf)) | (refine Exists.intro _ (Exists.intro _ (Exists.intro _ (And.intro (by walk_at "HL") (And.intro (DSet.old (by assumption) (by decide +kernel) (by decide +kernel)) ?_)))); (conv => whnf)) | (refine Exists.intro _ (Exists.intro _ (Exists.intro _ (And.intro (by walk_at "HL") (And.intro (DSet.new (by decide +kernel) (by decide +kernel)) ?_)))); (conv => whnf)) | (refine And.intro True.intro ?_; (conv => whnf)) | (refine And.intro (Exists.intro _ (by walk_at "HL")) ?_; (conv => whnf)) | (refine And.intro (by walk_at "HL") ?_; (conv => whnf)) | (refine And.intro (And.intro rfl rfl) ?_; (conv => whnf)) | (refine And.intro (Nat.le_of_ble_eq_true rfl) ?_; (conv => whnf)) | (refine And.intro (by decide) ?_; (conv => whnf)) | (refine And.intro (by omega) ?_; (conv => whnf)) | (refine Exists.intro _ (And.intro (by walk_at "HL") ?_); (conv => whnf)) | (refine Exists.intro _ (And.intro rfl ?_); (conv => whnf)) | (refine Exists.intro _ (Exists.intro _ (And.intro (by walk_at "HL") (And.intro rfl ?_))); (conv => whnf)) | (refine Exists.intro _ (Exists.intro _ (And.intro (by walk_at "HL") (And.intro (And.intro (by decide) rfl) ?_))); (conv => whnf)) | (refine Exists.intro _ (Exists.intro _ (And.intro rfl (And.intro rfl ?_))); (conv => whnf)) | (refine Exists.intro _ (Exists.intro _ (And.intro (by walk_at "HL") (And.intro (by walk_at "HL") ?_))); (conv => whnf)) | (refine Exists.intro _ (And.intro (by walk_at "HL") (And.intro (by decide) ?_)); (conv => whnf)) | (refine br_t rfl ?_; (conv => whnf)) | (refine br_f rfl ?_; (conv => whnf)) | (refine And.intro (And.intro (by decide +kernel) (by decide +kernel)) ?_; (conv => whnf)) | (refine br_t (by decide +kernel) ?_; (conv => whnf)) | (refine br_f (by decide +kernel) ?_; (conv => whnf))))
local macro_rules | `(tactic| walk_at "GO") => `(tactic| (((try (conv => whnf)); repeat (walk_at "ONE"))))
local macro_rules | `(tactic| walk_at "GI") => `(tactic| (((conv => whnf); repeat (walk_at "ONI"))))
local macro_rules | `(tactic| walk_at "BB") => `(tactic| (first | rfl | (simp only [Bool.and_eq_true, Bool.or_eq_true, Bool.not_eq_true', Bool.and_eq_false_iff, Bool.not_eq_false', decide_eq_true_eq, decide_eq_false_iff_not, peq_int, List.length_map]; omega)))
def homeV (e : Int) : PV := if e = 0 then .non else if e = 1 then .int 0 else .int 1
def homeF (es : List Int) : PV → PV
  | .int i => homeV (gt es 0 i.toNat)
  | _ => .non
theorem homeF_at {es : List Int} {j : Nat} : homeF es (.int (0 + (j : Int))) = homeV (gt es 0 j) := by
  show homeV (gt es 0 (0 + (j : Int)).toNat) = _
  rw [show (0 + (j : Int)).toNat = j by omega]
theorem homeV_ok (e : Int) : homeV e = .non ∨ homeV e = .int 0 ∨ homeV e = .int 1 := by
  unfold homeV
  split
  · exact .inl rfl
  · split
    · exact .inr (.inl rfl)
    · exact .inr (.inr rfl)
abbrev wk6 : List (Int ⊕ Str) := [.inr "many", .inr "costs", .inr "padded", .inr "pages", .inr "home", .inr "rights"]
theorem kx6_many : keyIx wk6 (.inr "many") = some 0 := by decide +kernel
theorem kx6_rights : keyIx wk6 (.inr "rights") = some 5 := by decide +kernel
theorem o_started15 (Φ : Nat → ZSp) (h114 : Φ 114 = sp_digits) (h115 : Φ 115 = sp_cell) (vs : List PV) (M : Mh) (Q : ZQ) (E : ZX) (h : sp_started15 vs M Q E) : vs.length = 1 ∧ Reach M fun M1 => inl Φ 8 1 b__law_started vs M1 Q E := by
  obtain ⟨ns, rfl, hq⟩ := h
  refine ⟨rfl, .done ⟨rfl, ?_⟩⟩
  walk_at "GO"
  rw [h115]
  refine ⟨ns, 0, rfl, fun c0 => ?_⟩
  walk_at "GO"
  rw [h114]
  refine ⟨c0, [2, 4, 3, 4, 3, 3, 3, 3, 2, 3], rfl, by decide, by decide, fun ds hd => ?_⟩
  match ds, hd with
  | [d0, d1, d2, d3, d4, d5, d6, d7, d8, d9], hd =>
  have b0 := hd.2 0 2 d0 rfl rfl
  have b1 := hd.2 1 4 d1 rfl rfl
  have b2 := hd.2 2 3 d2 rfl rfl
  have b3 := hd.2 3 4 d3 rfl rfl
  have b4 := hd.2 4 3 d4 rfl rfl
  have b5 := hd.2 5 3 d5 rfl rfl
  have b6 := hd.2 6 3 d6 rfl rfl
  have b7 := hd.2 7 3 d7 rfl rfl
  have b8 := hd.2 8 2 d8 rfl rfl
  have b9 := hd.2 9 3 d9 rfl rfl
  obtain ⟨n, hn⟩ : ∃ n : Nat, 2 + d0 = (n : Int) := ⟨(2 + d0).toNat, by omega⟩
  obtain ⟨np, hnp⟩ : ∃ n : Nat, 1 + d9 = (n : Int) := ⟨(1 + d9).toNat, by omega⟩
  have n23 : 2 ≤ n ∧ n ≤ 3 := by omega
  have np3 : 1 ≤ np ∧ np ≤ 3 := by omega
  walk_at "GO"
  intro d hdn
  walk_at "GO"
  rw [hnp, hn, put_put]
  intro D hD
  obtain ⟨hDd, hD'⟩ := none_put hD
  have hbp : -(2 ^ 62 : Int) ≤ ((np : Nat) : Int) ∧ ((np : Nat) : Int) < 2 ^ 62 := by omega
  have hbn : -(2 ^ 62 : Int) ≤ ((n : Nat) : Int) ∧ ((n : Nat) : Int) < 2 ^ 62 := by omega
  rw [Int.toNat_natCast]
  refine lc_mapF (homeF [d5, d6, d7]) hD (by rw [len_rangeL]; omega) (fun _ => trivial) ?_ ?_
  · intro x hx acc kk hk
    obtain ⟨j, hj, rfl⟩ := mem_range hx
    have pj : pick ([d0, d1, d2, d3, d4, d5, d6, d7, d8, d9].map PV.int) (5 + (0 + (j : Nat))) = some (.int (gt [d5, d6, d7] 0 j)) := by
      obtain rfl | rfl | rfl : j = 0 ∨ j = 1 ∨ j = 2 := by omega
      · rfl
      · rfl
      · rfl
    have bj : 0 ≤ gt [d5, d6, d7] 0 j ∧ gt [d5, d6, d7] 0 j < 3 := by
      obtain rfl | rfl | rfl : j = 0 ∨ j = 1 ∨ j = 2 := by omega
      · exact b5
      · exact b6
      · exact b7
    rw [homeF_at] at hk
    generalize gt [d5, d6, d7] 0 j = e at pj bj hk
    obtain rfl | rfl | rfl : e = 0 ∨ e = 1 ∨ e = 2 := by omega
    · walk_at "GO"
      exact hk
    · walk_at "GO"
      exact hk
    · walk_at "GO"
      exact hk
  have lsl : ((rangeL 0 np).map (homeF [d5, d6, d7])).length = np := by rw [List.length_map, len_rangeL]
  have lsv : ∀ x ∈ (rangeL 0 np).map (homeF [d5, d6, d7]), x = .non ∨ x = .int 0 ∨ x = .int 1 := fun x hx => by
    obtain ⟨y, hy, rfl⟩ := List.mem_map.mp hx
    obtain ⟨j, hj, rfl⟩ := mem_range hy
    rw [homeF_at]
    exact homeV_ok _
  generalize (rangeL 0 np).map (homeF [d5, d6, d7]) = ls at lsl lsv
  have k1 := kx6_many
  have k2 := kx6_rights
  walk_at "GO"
  rw [put_put]
  intro r hr
  obtain ⟨hrd, hr'⟩ := none_put hr
  have hdr := Ne.symm hrd
  walk_at "GO"
  rw [put_cm hdr, put_put, Int.toNat_natCast]
  refine rng_ind (fun j σ M' => ∃ (rows : List (List PV)) (o4 o5 o6 : Option PV), σ = [some (.scr (ns.map PV.int)), some (.lst ([d0, d1, d2, d3, d4, d5, d6, d7, d8, d9].map PV.int)), some (nI np), some (.ref d), o4, o5, o6, none] ∧ M' = put (put M d (.dct wk6 [nI n, .tup [.int (1 + d2), .int d3, .int d4], .bl (peq (.int d8) (.int 1)), nI np, .lst ls, .ref r])) r (.lst (rows.map PV.lst)) ∧ rows.length = j ∧ ∀ w ∈ rows, w.Sublist (pool n np 0 0 0) ∧ w.length ≤ 8) ⟨[], _, _, _, rfl, rfl, rfl, fun w hw => nomatch hw⟩ ?_ ?_
  rotate_left
  · rintro j σ M' hj ⟨rows, o4, o5, o6, rfl, rfl, hrl, hrs⟩ C hC
    walk_at "GO"
    rw [h115]
    refine ⟨ns, 1 + j, by rw [show (1 + (0 + (j : Int))) = ((1 + j : Nat) : Int) by omega]; rfl, fun c => ?_⟩
    walk_at "GO"
    rw [h114]
    refine ⟨c, [2, 2, 2, 2, 2, 2], rfl, by decide, by decide, fun bs hbs => ?_⟩
    have hbl : bs.length = 6 := hbs.1
    walk_at "GO"
    intro D hD
    rw [Int.toNat_natCast]
    refine lc_fmF (fB "read" (gt bs 0)) hD (by rw [len_rangeL]; omega) (fun _ => trivial) ?_ ?_
    · intro x hx acc kk hk
      obtain ⟨j, hj, rfl⟩ := mem_range hx
      have pj : pick (bs.map PV.int) (0 + (j : Nat)) = some (.int (gt bs 0 j)) := by rw [Int.zero_add]; exact pk 0 (by omega)
      rw [fB_at] at hk
      walk_at "GO"
      refine br_int (fun c => ?_) fun c => ?_
      · rw [if_pos c] at hk
        walk_at "GO"
        exact hk
      · rw [if_neg c] at hk
        exact hk
    have s1 := fB_sub (s := "read") (g := gt bs 0) (n := np)
    generalize (rangeL 0 np).filterMap (fB "read" (gt bs 0)) = R1 at s1
    walk_at "GO"
    intro D2 hD2
    rw [Int.toNat_natCast]
    refine lc_fmF (fB "write" (fun j => gt bs 0 (3 + j))) hD2 (by rw [len_rangeL]; omega) (fun _ => trivial) ?_ ?_
    · intro x hx acc kk hk
      obtain ⟨j, hj, rfl⟩ := mem_range hx
      have pj : pick (bs.map PV.int) (3 + (0 + (j : Nat))) = some (.int (gt bs 0 (3 + j))) := by rw [show (3 + (0 + (j : Int))) = ((3 + j : Nat) : Int) by omega]; exact pk 0 (by omega)
      rw [fB_at] at hk
      walk_at "GO"
      refine br_int (fun c => ?_) fun c => ?_
      · rw [if_pos c] at hk
        walk_at "GO"
        exact hk
      · rw [if_neg c] at hk
        exact hk
    have s2 := fB_sub (s := "write") (g := fun j => gt bs 0 (3 + j)) (n := np)
    generalize (rangeL 0 np).filterMap (fB "write" fun j => gt bs 0 (3 + j)) = W1 at s2
    have sz : R1.length + W1.length ≤ sizeLine := by rw [sizeLine_eq]; omega
    have ap : (rows.map PV.lst).length < sizeLine := by rw [List.length_map, sizeLine_eq]; omega
    walk_at "GO"
    intro D3 hD3
    walk_at "GO"
    rw [put_del hD3]
    walk_at "GO"
    rw [put_put]
    exact hC _ _ ⟨rows ++ [R1 ++ W1], _, _, _, rfl, by rw [List.map_append]; rfl, by rw [List.length_append, hrl]; rfl, fun r hr => by
      rcases List.mem_append.mp hr with hr | hr
      · exact hrs r hr
      · rw [List.mem_singleton] at hr
        subst hr
        exact ⟨sub_pool s1.1 s2.1, by rw [List.length_append]; omega⟩⟩
  · rintro σ M' ⟨rows, o4, o5, o6, rfl, rfl, hrl, hrs⟩
    walk_at "GO"
    intro D hD
    rw [Int.toNat_natCast]
    refine lc_mapF (fun x => match x with | .int i => .int ((d1 + i) % 4) | _ => .non) hD (by rw [len_rangeL]; omega) (fun _ => trivial) ?_ ?_
    · intro x hx acc kk hk
      obtain ⟨j, hj, rfl⟩ := mem_range hx
      walk_at "GO"
      exact hk
    obtain ⟨u, hts, hps⟩ := ok15 (d1 := d1) (np := np) (b1 := peq (.int d8) (.int 1)) (c0 := 1 + d2) (c1 := d3) (c2 := d4) n23 np3.2 hrl hrs lsl lsv (by omega)
    obtain ⟨p, hp⟩ : ∃ p, p = pt15 n d1 np ls rows (1 + d2) d3 d4 (peq (.int d8) (.int 1)) := ⟨_, rfl⟩
    have esd : (rangeL 0 n).map (fun x => match x with | .int i => .int ((d1 + i) % 4) | _ => .non) = p.ts.map fun t => PV.int t.1 := by
      rw [hp]
      unfold rangeL pt15
      rw [List.map_map, List.map_map]
      refine List.map_congr_left fun k _ => ?_
      show PV.int ((d1 + (0 + (k : Int))) % 4) = PV.int ((d1 + (k : Int)) % 4)
      rw [Int.zero_add]
    rw [esd]
    walk_at "GO"
    rw [put_put, put_put, put_cm hdr, put_put]
    intro i hi
    obtain ⟨hir, hi⟩ := none_put hi
    obtain ⟨hid, hi⟩ := none_put hi
    have hdi := Ne.symm hid
    walk_at "GO"
    rw [put_cm hdi, put_cm hdr, put_put]
    rw [← hp] at u hts hps
    have ew : wv15 p 0 0 r i = [nI n, .tup [.int (1 + d2), .int d3, .int d4], .bl (peq (.int d8) (.int 1)), nI np, .lst ls, .ref r, .lst (p.ts.map fun t => PV.int t.1), .int 0, .int 0, .ref i] := by
      show [nI p.ts.length, _, _, nI p.ps.length, _, _, _, _, _, _] = _
      rw [hts, hps, hp]
      rfl
    have z := hq p d r i u (fun t ht => by
      rw [hp] at ht
      obtain ⟨k, _, rfl⟩ := List.mem_map.mp ht
      rfl) (by rw [hps, hp]; rfl) (by rw [hp]; rfl) (by rw [hp]; rfl) (by rw [hp]; rfl) (by omega) (by omega) hdi (Ne.symm hir) hdr hdn (by rw [put_ne hrd] at hr; exact hr) hi
    rw [ew, show p.rs = rows by rw [hp]; rfl] at z
    exact Qw.here z
end HT
set_option Elab.async false
set_option linter.all false
set_option maxRecDepth 100000
set_option maxHeartbeats 2000000
set_option pp.maxSteps 400
set_option pp.deepTerms false
namespace HT
open PySem PySem.Spec PyProof.Rows L2 Z
local macro_rules | `(tactic| walk_at "HL") => `(tactic| (first | assumption | exact put_same | exact at_w | exact at_1 (by assumption) | exact at_2 (by assumption) | exact at_3 (by assumption) | exact at_4 (by assumption) | exact at_5 (by assumption) | exact at_6 (by assumption) | exact at_7 (by assumption) | exact at_8 (by assumption) | (rw [put_ne (by first | assumption | (apply Ne.symm; assumption) | exact neN (at_w) (by assumption) | exact neN (at_1 (by assumption)) (by assumption) | exact neN (at_2 (by assumption)) (by assumption) | exact neN (at_3 (by assumption)) (by assumption) | exact neN (at_4 (by assumption)) (by assumption) | exact neN (at_5 (by assumption)) (by assumption) | exact neN (at_6 (by assumption)) (by assumption) | exact neN (at_7 (by assumption)) (by assumption) | exact neN (at_8 (by assumption)) (by assumption))]; first | assumption | exact put_same | exact at_w | exact at_1 (by assumption) | exact at_2 (by assumption) | exact at_3 (by assumption) | exact at_4 (by assumption) | exact at_5 (by assumption) | exact at_6 (by assumption) | exact at_7 (by assumption) | exact at_8 (by assumption) | (rw [put_ne (by first | assumption | (apply Ne.symm; assumption) | exact neN (at_w) (by assumption) | exact neN (at_1 (by assumption)) (by assumption) | exact neN (at_2 (by assumption)) (by assumption) | exact neN (at_3 (by assumption)) (by assumption) | exact neN (at_4 (by assumption)) (by assumption) | exact neN (at_5 (by assumption)) (by assumption) | exact neN (at_6 (by assumption)) (by assumption) | exact neN (at_7 (by assumption)) (by assumption) | exact neN (at_8 (by assumption)) (by assumption))]; first | assumption | exact put_same | exact at_w | exact at_1 (by assumption) | exact at_2 (by assumption) | exact at_3 (by assumption) | exact at_4 (by assumption) | exact at_5 (by assumption) | exact at_6 (by assumption) | exact at_7 (by assumption) | exact at_8 (by assumption) | (rw [put_ne (by first | assumption | (apply Ne.symm; assumption) | exact neN (at_w) (by assumption) | exact neN (at_1 (by assumption)) (by assumption) | exact neN (at_2 (by assumption)) (by assumption) | exact neN (at_3 (by assumption)) (by assumption) | exact neN (at_4 (by assumption)) (by assumption) | exact neN (at_5 (by assumption)) (by assumption) | exact neN (at_6 (by assumption)) (by assumption) | exact neN (at_7 (by assumption)) (by assumption) | exact neN (at_8 (by assumption)) (by assumption))]; first | assumption | exact put_same | exact at_w | exact at_1 (by assumption) | exact at_2 (by assumption) | exact at_3 (by assumption) | exact at_4 (by assumption) | exact at_5 (by assumption) | exact at_6 (by assumption) | exact at_7 (by assumption) | exact at_8 (by assumption))))))
local macro_rules | `(tactic| walk_at "ONE") => `(tactic| (first | (refine And.intro rfl ?_; (conv => whnf)) | (refine Exists.intro _ (Exists.intro _ (Exists.intro _ (Exists.intro _ (And.intro (by walk_at "HL") (And.intro (by assumption) (And.intro rfl ?_)))))); (conv => whnf)) | (refine Exists.intro _ (Exists.intro _ (Exists.intro _ (And.intro (by walk_at "HL") (And.intro (DSet.old (by assumption) (by decide +kernel) (by decide +kernel)) ?_)))); (conv => whnf)) | (refine Exists.intro _ (Exists.intro _ (Exists.intro _ (And.intro (by walk_at "HL") (And.intro (DSet.new (by decide +kernel) (by decide +kernel)) ?_)))); (conv => whnf)) | (refine And.intro True.intro ?_; (conv => whnf)) | (refine And.intro (Exists.intro _ (by walk_at "HL")) ?_; (conv => whnf)) | (refine And.intro (by walk_at "HL") ?_; (conv => whnf)) | (refine And.intro (And.intro rfl rfl) ?_; (conv => whnf)) | (refine And.intro (Nat.le_of_ble_eq_true rfl) ?_; (conv => whnf)) | (refine And.intro (by decide) ?_; (conv => whnf)) | (refine And.intro (by omega) ?_; (conv => whnf)) | (refine Exists.intro _ (And.intro (by walk_at "HL") ?_); (conv => whnf)) | (refine Exists.intro _ (And.intro rfl ?_); (conv => whnf)) | (refine Exists.intro _ (Exists.intro _ (And.intro (by walk_at "HL") (And.intro rfl ?_))); (conv => whnf)) | (refine Exists.intro _ (Exists.intro _ (And.intro (by walk_at "HL") (And.intro (And.intro (by decide) rfl) ?_))); (conv => whnf)) | (refine Exists.intro _ (Exists.intro _ (And.intro rfl (And.intro rfl ?_))); (conv => whnf)) | (refine Exists.intro _ (Exists.intro _ (And.intro (by walk_at "HL") (And.intro (by walk_at "HL") ?_))); (conv => whnf)) | (refine Exists.intro _ (And.intro (by walk_at "HL") (And.intro (by decide) ?_)); (conv => whnf)) | (refine br_t rfl ?_; (conv => whnf)) | (refine br_f rfl ?_; (conv => whnf)) | (refine And.intro (And.intro (by decide +kernel) (by decide +kernel)) ?_; (conv => whnf)) | (refine br_t (by decide +kernel) ?_; (conv => whnf)) | (refine br_f (by decide +kernel) ?_; (conv => whnf))))
local macro_rules | `(tactic| walk_at "ONI") => `(tactic| (first | (refine Qw.here ?_; (conv => whnf)) | (refine br_t (decide_eq_true (by omega)) ?_; (conv => whnf)) | (refine br_f (decide_eq_false (by omega)) ?_; (conv => whnf)) | (refine And.intro rfl ?_; (conv => whnf)) | (refine Exists.intro _ (Exists.intro _ (Exists.intro _ (Exists.intro _ (And.intro (by walk_at "HL") (And.intro (by assumption) (And.intro rfl ?_)))))); (conv => whnf)) | (refine Exists.intro _ (Exists.intro _ (Exists.intro _ (And.intro (by walk_at "HL") (And.intro (DSet.old (by assumption) (by decide +kernel) (by decide +kernel)) ?_)))); (conv => whnf)) | (refine Exists.intro _ (Exists.intro _ (Exists.intro _ (And.intro (by walk_at "HL") (And.intro (DSet.new (by decide +kernel) (by decide +kernel)) ?_)))); (conv => whnf)) | (refine And.intro True.intro ?_; (conv => whnf)) | (refine And.intro (Exists.intro _ (by walk_at "HL")) ?_; (conv => whnf)) | (refine And.intro (by walk_at "HL") ?_; (conv => whnf)) | (refine And.intro (And.intro rfl rfl) ?_; (conv => whnf)) | (refine And.intro (Nat.le_of_ble_eq_true rfl) ?_; (conv => whnf)) | (refine And.intro (by decide) ?_; (conv => whnf)) | (refine And.intro (by omega) ?_; (conv => whnf)) | (refine Exists.intro _ (And.intro (by walk_at "HL") ?_); (conv => whnf)) | (refine Exists.intro _ (And.intro rfl ?_); (conv => whnf)) | (refine Exists.intro _ (Exists.intro _ (And.intro (by walk_at "HL") (And.intro rfl ?_))); (conv => whnf)) | (refine Exists.intro _ (Exists.intro _ (And.intro (by walk_at "HL") (And.intro (And.intro (by decide) rfl) ?_))); (conv => whnf)) | (refine Exists.intro _ (Exists.intro _ (And.intro rfl (And.intro rfl ?_))); (conv => whnf)) | (refine Exists.intro _ (Exists.intro _ (And.intro (by walk_at "HL") (And.intro (by walk_at "HL") ?_))); (conv => whnf)) | (refine Exists.intro _ (And.intro (by walk_at "HL") (And.intro (by decide) ?_)); (conv => whnf)) | (refine br_t rfl ?_; (conv => whnf)) | (refine br_f rfl ?_; (conv => whnf)) | (refine And.intro (And.intro (by decide +kernel) (by decide +kernel)) ?_; (conv => whnf)) | (refine br_t (by decide +kernel) ?_; (conv => whnf)) | (refine br_f (by decide +kernel) ?_; (conv => whnf))))
local macro_rules | `(tactic| walk_at "GO") => `(tactic| (((try (conv => whnf)); repeat (walk_at "ONE"))))
local macro_rules | `(tactic| walk_at "GI") => `(tactic| (((conv => whnf); repeat (walk_at "ONI"))))
local macro_rules | `(tactic| walk_at "BB") => `(tactic| (first | rfl | (simp only [Bool.and_eq_true, Bool.or_eq_true, Bool.not_eq_true', Bool.and_eq_false_iff, Bool.not_eq_false', decide_eq_true_eq, decide_eq_false_iff_not, peq_int, List.length_map]; omega)))
def sp_law : ZSp := fun vs M Q _ => ∃ ns : List Int, vs = [.scr (ns.map PV.int)] ∧ ns.length ≤ 63 ∧ ∀ M', Q (.bl true) M'
section
variable {p : Pt} {A : List (Option Str)} {P : List Int} {L : List (Option Nat)} {ru : Option Nat} {bu : Int} {T F t g : Nat}
theorem P15.tickN (u : P15 p) (hI : I15 p T F ru bu) (ht : turn15 p T F = none) {c : Cl} : (K15 p A P L ru bu ((T % (12 * p.ts.length) : Nat) : Int)).tick p none c = K15 p A P L (some (T / 12 % p.ts.length)) ((F - T : Nat) : Int) (((T + 1) % (12 * p.ts.length) : Nat) : Int) := by
  unfold Wk.tick
  rw [u.opened hI]
  show Wk.closed p _ (turn15 p T F) c = _
  rw [ht, u.idle, ph15]
/-- a call of the law, and what it does -/
structure C15 (p : Pt) (g : Nat) (c : PV) (s : Str) (cl : Cl) : Prop where
  rw : isRW c s g
  pv : c = cl.pv
  ok : cl.Ok p
  pn : cl.plain
  cd : ∀ A P L ru bu ph t, ∃ A' P', (K15 p A P L ru bu ph).closed p (some t) cl = K15 p A' P' (ln15 p L t s g) ru (cost15 p L t s g) ((ph + 1) % ((12 * p.ts.length : Nat) : Int))
theorem P15.cR (u : P15 p) (hg : g < p.ps.length) : C15 p g (.tup [.str "read", nI g]) "read" (.read g) :=
  ⟨.inl ⟨rfl, rfl⟩, rfl, hg, True.intro, fun A P L ru bu ph t => ⟨_, _, u.read⟩⟩
theorem P15.cW (u : P15 p) (hg : g < p.ps.length) {v : Int} (hv : 0 ≤ v ∧ v ≤ 1) : C15 p g (.tup [.str "write", nI g, .int v]) "write" (.write g v) :=
  ⟨.inr ⟨rfl, v, rfl⟩, rfl, ⟨hg, hv⟩, True.intro, fun A P L ru bu ph t => ⟨_, _, u.write⟩⟩
theorem P15.tickS (u : P15 p) (hI : I15 p T F ru bu) (ht : turn15 p T F = some t) {c : PV} {s : Str} {cl : Cl} (hc : C15 p g c s cl) : ∃ A' P', (K15 p A P L ru bu ((T % (12 * p.ts.length) : Nat) : Int)).tick p none cl = K15 p A' P' (ln15 p L t s g) (some (T / 12 % p.ts.length)) (cost15 p L t s g) (((T + 1) % (12 * p.ts.length) : Nat) : Int) := by
  unfold Wk.tick
  rw [u.opened hI]
  show ∃ A' P', Wk.closed p _ (turn15 p T F) cl = _
  rw [ht]
  obtain ⟨A', P', e⟩ := hc.cd A P L (some (T / 12 % p.ts.length)) ((F - T : Nat) : Int) ((T % (12 * p.ts.length) : Nat) : Int) t
  exact ⟨A', P', by rw [e, ph15]⟩
end
theorem o_law (Φ : Nat → ZSp) (h114 : Φ 114 = sp_digits) (h115 : Φ 115 = sp_cell) (h116 : Φ 116 = sp_started15) (h117 : Φ 117 = sp_built15) (h118 : Φ 118 = sp_turn15) (h121 : Φ 121 = sp_same 2) (h122 : Φ 122 = sp_stands15) (h123 : Φ 123 = sp_cost15) (h113 : Φ 113 = sp_first) (h106 : Φ 106 = sp_due fun p => isLevels p.pl = false) (h107 : Φ 107 = sp_tick fun p => isLevels p.pl = false) (vs : List PV) (M : Mh) (Q : ZQ) (E : ZX) (h : sp_law vs M Q E) : vs.length = 1 ∧ Reach M fun M1 => inl Φ n_law.length 1 b_law vs M1 Q E := by
  obtain ⟨ns, rfl, hl, hq⟩ := h
  refine ⟨rfl, .done ⟨rfl, ?_⟩⟩
  walk_at "GO"
  rw [h116]
  refine ⟨ns, rfl, fun p d r i u h2 hps hfr hb2 hb3 hp1 ht3 hdi hri hdr hMd hMr hMi => ?_⟩
  walk_at "GO"
  rw [h117]
  refine ⟨p, d, r, i, 0, 0, rfl, u, h2, hps, hfr, hb2, hb3, by walk_at "HL", by walk_at "HL", ?_⟩
  walk_at "GO"
  rw [h113]
  refine ⟨p, rfl, u.ok, ?_⟩
  rw [first15 u]
  have t1 := u.ok.t1
  have hid := Ne.symm hdi
  have hir := Ne.symm hri
  have hrd := Ne.symm hdr
  have k1 := kx_pages
  have k2 := kx_time
  have k3 := kx_free
  have hlen : -(2 ^ 62 : Int) ≤ ((ns.map PV.int).length : Nat) ∧ (((ns.map PV.int).length : Nat) : Int) < 2 ^ 62 := by rw [List.length_map]; omega
  have hlen2 : -(2 ^ 62 : Int) ≤ (if (((ns.map PV.int).length : Nat) : Int) < 40 then (((ns.map PV.int).length : Nat) : Int) else 40) + 6 ∧ (if (((ns.map PV.int).length : Nat) : Int) < 40 then (((ns.map PV.int).length : Nat) : Int) else 40) + 6 < 2 ^ 62 := by split <;> omega
  have ok0 : Wk.Ok p (K15 p (List.replicate p.ts.length none) p.ps [none, none] none 0 ((0 % (12 * p.ts.length) : Nat) : Int)) := by
    have e := ok_first u.ok
    rw [first15 u] at e
    rw [Nat.zero_mod]
    exact e
  have i0 : I15 p 0 0 none 0 := { b := rfl, b0 := Int.le_refl _, r := fun z => absurd rfl z, f := fun z => by omega, k := fun t z => nomatch z }
  walk_at "GO"
  generalize Int.toNat ((if (((ns.map PV.int).length : Nat) : Int) < 40 then (((ns.map PV.int).length : Nat) : Int) else 40) + 6) = mm
  refine rng_ind (fun j σ M' => ∃ (A : List (Option Str)) (P : List Int) (L : List (Option Nat)) (ru : Option Nat) (bu : Int) (T F : Nat) (o3 o4 o5 o6 o7 o8 o9 : Option PV), σ = [some (.scr (ns.map PV.int)), some (.ref d), some (Mo p (K15 p A P L ru bu ((T % (12 * p.ts.length) : Nat) : Int))), o3, o4, o5, o6, o7, o8, o9] ∧ M' = put (put (put M d (.dct wk15 (wv15 p T F r i))) r (.lst (p.rs.map PV.lst))) i (.lst (L.map eO)) ∧ I15 p T F ru bu ∧ Wk.Ok p (K15 p A P L ru bu ((T % (12 * p.ts.length) : Nat) : Int))) ⟨_, _, _, _, _, 0, 0, _, _, _, _, _, _, _, rfl, rfl, i0, ok0⟩ ?_ ?_
  · rintro σ M' ⟨A, P, L, ru, bu, T, F, o3, o4, o5, o6, o7, o8, o9, rfl, rfl, hI, kok⟩
    walk_at "GO"
    exact Qw.here (hq _)
  · rintro j σ M' hj ⟨A, P, L, ru, bu, T, F, o3, o4, o5, o6, o7, o8, o9, rfl, rfl, hI, kok⟩ C hC
    walk_at "GO"
    rw [h115]
    refine ⟨ns, 4 + j, by rw [show (4 + (0 + (j : Int))) = ((4 + j : Nat) : Int) by omega]; rfl, fun c => ?_⟩
    walk_at "GO"
    rw [h114]
    refine ⟨c, [2, 3, 2], rfl, by decide, by decide, fun es hes => ?_⟩
    match es, hes with
    | [e0, e1, e2], hes =>
    have f0 := hes.2 0 2 e0 rfl rfl
    have f1 := hes.2 1 3 e1 rfl rfl
    have f2 := hes.2 2 2 e2 rfl rfl
    have hPp : (0 : Int) < ((p.ps.length : Nat) : Int) := by omega
    obtain ⟨g, hg⟩ : ∃ g : Nat, e1 % ((p.ps.length : Nat) : Int) = (g : Int) := ⟨(e1 % ((p.ps.length : Nat) : Int)).toNat, (Int.toNat_of_nonneg (Int.emod_nonneg _ (by omega))).symm⟩
    have hgp : g < p.ps.length := by
      have := Int.emod_lt_of_pos e1 hPp
      omega
    obtain rfl | rfl : e0 = 0 ∨ e0 = 1 := by omega
    · have hc := u.cR hgp
      generalize h26 : (26 : Int) = n26
      have hb26 : -(2 ^ 62 : Int) ≤ n26 ∧ n26 < 2 ^ 62 := by omega
      walk_at "GO"
      rw [hg]
      refine rng_ind (fun j2 σ M' => ∃ (A : List (Option Str)) (P : List Int) (L : List (Option Nat)) (ru : Option Nat) (bu : Int) (T F : Nat) (o3 o4 o5 o7 o8 o9 : Option PV), σ = [some (.scr (ns.map PV.int)), some (.ref d), some (Mo p (K15 p A P L ru bu ((T % (12 * p.ts.length) : Nat) : Int))), o3, o4, o5, some (.tup [.str "read", nI g]), o7, o8, o9] ∧ M' = put (put (put M d (.dct wk15 (wv15 p T F r i))) r (.lst (p.rs.map PV.lst))) i (.lst (L.map eO)) ∧ I15 p T F ru bu ∧ Wk.Ok p (K15 p A P L ru bu ((T % (12 * p.ts.length) : Nat) : Int))) ⟨_, _, _, _, _, T, F, _, _, _, _, _, _, rfl, rfl, hI, kok⟩ ?_ ?_
      · rintro σ M' ⟨A, P, L, ru, bu, T, F, o3, o4, o5, o7, o8, o9, rfl, rfl, hI, kok⟩
        walk_at "GO"
        exact hC _ _ ⟨_, _, _, _, _, T, F, _, _, _, _, _, _, _, rfl, rfl, hI, kok⟩
      · rintro j2 σ M' hj2 ⟨A, P, L, ru, bu, T, F, o3, o4, o5, o7, o8, o9, rfl, rfl, hI, kok⟩ C2 hC2
        have hL : L.length = 2 := kok.n1
        walk_at "GO"
        rw [h118]
        refine ⟨p, d, r, i, T, F, rfl, u, by walk_at "HL", ?_⟩
        walk_at "GO"
        rw [h106]
        refine ⟨p, _, none, rfl, kok, u.ok, u.slots, (fun v z => nomatch z), ?_⟩
        rw [u.opened hI]
        rcases ht : turn15 p T F with _ | t
        · walk_at "GO"
          rw [h121]
          refine ⟨_, _, rfl, .inl rfl, rfl, ?_⟩
          walk_at "GO"
          rw [h107]
          refine ⟨p, _, none, .pass, _, rfl, kok, u.ok, u.slots, (fun v z => nomatch z), ?_, ?_⟩
          · unfold COk
            rw [u.opened hI, ht]
          have kok' := ok_tick (c := .pass) (l := none) kok u.ok (fun v z => nomatch z) (fun _ => True.intro)
          rw [u.tickN hI ht] at kok' ⊢
          rw [u.opened hI, ht]
          walk_at "GO"
          rw [put_cm hdi, put_cm hdr, put_put, h122]
          refine ⟨p, d, r, i, T, F, A, P, L, rfl, u, kok', hL, by walk_at "HL", by walk_at "HL", ?_⟩
          walk_at "GO"
          exact hC2 _ _ ⟨A, P, L, _, _, T + 1, F, _, _, _, _, _, _, rfl, rfl, hI.idle (by omega), kok'⟩
        · walk_at "GO"
          rw [h121]
          refine ⟨_, _, rfl, .inl rfl, rfl, ?_⟩
          walk_at "GO"
          rw [h107]
          refine ⟨p, _, none, _, _, rfl, kok, u.ok, u.slots, (fun v z => nomatch z), (by
            unfold COk
            rw [u.opened hI, ht]
            exact ⟨hc.ok, hc.pn, hc.pv⟩), ?_⟩
          have htp : t < p.ts.length := by
            unfold turn15 at ht
            split at ht
            · cases ht; exact Nat.mod_lt _ (by omega)
            · cases ht
          have kok' := ok_tick (l := none) kok u.ok (fun v z => nomatch z) (fun _ => hc.ok)
          obtain ⟨A', P', et⟩ := u.tickS (A := A) (P := P) (L := L) hI ht hc
          have c1 := u.c1 (L := L) (t := t) (s := "read") (i := g)
          obtain ⟨cn, hcn⟩ : ∃ cn : Nat, cost15 p L t "read" g = (cn : Int) := ⟨_, (Int.toNat_of_nonneg (by omega)).symm⟩
          rw [hcn] at et c1
          rw [et] at kok' ⊢
          rw [u.opened hI, ht]
          walk_at "GO"
          rw [h123]
          refine ⟨_, p, d, r, i, T, F, t, g, L, "read", _, rfl, u, htp, hgp, hL, hc.rw, hdi, hri, rfl, by walk_at "HL", by walk_at "HL", ?_⟩
          rw [hcn]
          walk_at "GO"
          rw [put_put, put_cm hdi, put_cm hdr, put_put]
          refine br_f (by show (!peq (.int _) (.int _)) = false; rw [peq_self_int]; rfl) ?_
          walk_at "GO"
          rw [h122]
          refine ⟨p, d, r, i, T, T + cn, A', P', ln15 p L t "read" g, by rw [Nat.add_sub_cancel_left]; rfl, u, by rw [Nat.add_sub_cancel_left]; exact kok', kok'.n1, by walk_at "HL", by walk_at "HL", ?_⟩
          walk_at "GO"
          exact hC _ _ ⟨A', P', _, _, _, T + 1, T + cn, _, _, _, _, _, _, _, rfl, rfl, hI.call (by omega) (by omega) (by omega) ht, kok'⟩
    · have hc := u.cW (v := e2) hgp ⟨by omega, by omega⟩
      generalize h26 : (26 : Int) = n26
      have hb26 : -(2 ^ 62 : Int) ≤ n26 ∧ n26 < 2 ^ 62 := by omega
      walk_at "GO"
      rw [hg]
      refine rng_ind (fun j2 σ M' => ∃ (A : List (Option Str)) (P : List Int) (L : List (Option Nat)) (ru : Option Nat) (bu : Int) (T F : Nat) (o3 o4 o5 o7 o8 o9 : Option PV), σ = [some (.scr (ns.map PV.int)), some (.ref d), some (Mo p (K15 p A P L ru bu ((T % (12 * p.ts.length) : Nat) : Int))), o3, o4, o5, some (.tup [.str "write", nI g, .int e2]), o7, o8, o9] ∧ M' = put (put (put M d (.dct wk15 (wv15 p T F r i))) r (.lst (p.rs.map PV.lst))) i (.lst (L.map eO)) ∧ I15 p T F ru bu ∧ Wk.Ok p (K15 p A P L ru bu ((T % (12 * p.ts.length) : Nat) : Int))) ⟨_, _, _, _, _, T, F, _, _, _, _, _, _, rfl, rfl, hI, kok⟩ ?_ ?_
      · rintro σ M' ⟨A, P, L, ru, bu, T, F, o3, o4, o5, o7, o8, o9, rfl, rfl, hI, kok⟩
        walk_at "GO"
        exact hC _ _ ⟨_, _, _, _, _, T, F, _, _, _, _, _, _, _, rfl, rfl, hI, kok⟩
      · rintro j2 σ M' hj2 ⟨A, P, L, ru, bu, T, F, o3, o4, o5, o7, o8, o9, rfl, rfl, hI, kok⟩ C2 hC2
        have hL : L.length = 2 := kok.n1
        walk_at "GO"
        rw [h118]
        refine ⟨p, d, r, i, T, F, rfl, u, by walk_at "HL", ?_⟩
        walk_at "GO"
        rw [h106]
        refine ⟨p, _, none, rfl, kok, u.ok, u.slots, (fun v z => nomatch z), ?_⟩
        rw [u.opened hI]
        rcases ht : turn15 p T F with _ | t
        · walk_at "GO"
          rw [h121]
          refine ⟨_, _, rfl, .inl rfl, rfl, ?_⟩
          walk_at "GO"
          rw [h107]
          refine ⟨p, _, none, .pass, _, rfl, kok, u.ok, u.slots, (fun v z => nomatch z), ?_, ?_⟩
          · unfold COk
            rw [u.opened hI, ht]
          have kok' := ok_tick (c := .pass) (l := none) kok u.ok (fun v z => nomatch z) (fun _ => True.intro)
          rw [u.tickN hI ht] at kok' ⊢
          rw [u.opened hI, ht]
          walk_at "GO"
          rw [put_cm hdi, put_cm hdr, put_put, h122]
          refine ⟨p, d, r, i, T, F, A, P, L, rfl, u, kok', hL, by walk_at "HL", by walk_at "HL", ?_⟩
          walk_at "GO"
          exact hC2 _ _ ⟨A, P, L, _, _, T + 1, F, _, _, _, _, _, _, rfl, rfl, hI.idle (by omega), kok'⟩
        · walk_at "GO"
          rw [h121]
          refine ⟨_, _, rfl, .inl rfl, rfl, ?_⟩
          walk_at "GO"
          rw [h107]
          refine ⟨p, _, none, _, _, rfl, kok, u.ok, u.slots, (fun v z => nomatch z), (by
            unfold COk
            rw [u.opened hI, ht]
            exact ⟨hc.ok, hc.pn, hc.pv⟩), ?_⟩
          have htp : t < p.ts.length := by
            unfold turn15 at ht
            split at ht
            · cases ht; exact Nat.mod_lt _ (by omega)
            · cases ht
          have kok' := ok_tick (l := none) kok u.ok (fun v z => nomatch z) (fun _ => hc.ok)
          obtain ⟨A', P', et⟩ := u.tickS (A := A) (P := P) (L := L) hI ht hc
          have c1 := u.c1 (L := L) (t := t) (s := "write") (i := g)
          obtain ⟨cn, hcn⟩ : ∃ cn : Nat, cost15 p L t "write" g = (cn : Int) := ⟨_, (Int.toNat_of_nonneg (by omega)).symm⟩
          rw [hcn] at et c1
          rw [et] at kok' ⊢
          rw [u.opened hI, ht]
          walk_at "GO"
          rw [h123]
          refine ⟨_, p, d, r, i, T, F, t, g, L, "write", _, rfl, u, htp, hgp, hL, hc.rw, hdi, hri, rfl, by walk_at "HL", by walk_at "HL", ?_⟩
          rw [hcn]
          walk_at "GO"
          rw [put_put, put_cm hdi, put_cm hdr, put_put]
          refine br_f (by show (!peq (.int _) (.int _)) = false; rw [peq_self_int]; rfl) ?_
          walk_at "GO"
          rw [h122]
          refine ⟨p, d, r, i, T, T + cn, A', P', ln15 p L t "write" g, by rw [Nat.add_sub_cancel_left]; rfl, u, by rw [Nat.add_sub_cancel_left]; exact kok', kok'.n1, by walk_at "HL", by walk_at "HL", ?_⟩
          walk_at "GO"
          exact hC _ _ ⟨A', P', _, _, _, T + 1, T + cn, _, _, _, _, _, _, _, rfl, rfl, hI.call (by omega) (by omega) (by omega) ht, kok'⟩
end HT
set_option Elab.async false
set_option linter.all false
set_option maxRecDepth 100000
set_option maxHeartbeats 0
namespace HT
open PySem PySem.Spec PyProof.Rows L2 Z
theorem mkd_plain {G : Cfg} {K : PySem.W.Frag} {d : He.DefD} {fn : Fn} {mk : Mkr} {fd : FuncData} (F : FunD K d.name d.qual d.params d.body d.scope (d.dvs K) (d.kws K) (He.fAd K d.at_) fd) (h : ∀ (kV doc pm : Value) (an : Option Addr) (cdv ct : Value) (us : List Value), us.length = fn.ps.length → bindArgs (PySem.W.fnOf d.name d.qual d.params d.body d.scope .none kV doc pm an cdv ct) ⟨us, []⟩ = pure (fn.ps.zip us)) (hd : d.dvs K = [] := by rfl) (h1 : mk.ks = [] := by rfl) (h2 : mk.ds = [] := by rfl) (h3 : fn.ps.length = mk.n + 1 := by rfl) :
    ∃ g dvs, KBn K fd fn.ps (mk.n + 1) mk.ks g dvs ∧ ∀ F vs zs ps qs, RVs G K F vs ps → RVs G K F zs qs → zs.length = mk.ks.length → RVs G K F (dvs vs zs) (ps ++ arr mk.ds qs) := by
  rw [hd] at F
  have b := FunD.bindsN F h
  rw [h1, h2]
  refine ⟨fun us ws => us ++ ws, fun vs zs => vs ++ zs, ⟨fun s us ws X l1 l2 => ?_, fun r1 r2 => r1.append r2⟩, fun F vs zs ps qs r1 r2 l => ?_⟩
  · obtain rfl : ws = [] := List.eq_nil_of_length_eq_zero l2
    exact b s us X (by rw [List.append_nil, l1, h3])
  · obtain rfl : zs = [] := List.eq_nil_of_length_eq_zero l
    cases r2
    exact r1.append .nil
theorem bindsD1 {G : Cfg} {K : PySem.W.Frag} {d : He.DefD} {fn : Fn} {vs : List V} (hd : d.dvs K = vs) (hne : vs ≠ []) (rv : ∀ F, RVs G K F vs (fn.dfl.map DV.pv)) (h : ∀ j, j ≤ fn.dfl.length → ∃ n, n + (vs.length - j) = fn.ps.length ∧ ∀ (T : Addr) (kV doc pm : Value) (an : Option Addr) (cdv ct : Value) (us its : List Value), us.length = n → its.length = vs.length →
      ∃ k, bindArgs (PySem.W.fnOf d.name d.qual d.params d.body d.scope (.ref T) kV doc pm an cdv ct) ⟨us, []⟩ = seqItems? (.ref T) >>= k ∧ k (some its.toArray) = pure (fn.ps.zip (us ++ its.drop j))) : BindsD G K d fn := by
  intro fd F _ j hj
  rw [hd] at F
  obtain ⟨n, h1, h2⟩ := h j hj
  obtain ⟨ds, v, b⟩ := F.binds1 n j hne h1 h2
  exact ⟨ds, vs.drop j, v, fun F => by rw [List.map_drop]; exact (rv F).drop j, b⟩
theorem hb_Moment_due {K : PySem.W.Frag} : BindsD G K d_Moment_due ⟨("Moment", some "due"), ["self", "outside"], [.non], false⟩ := bindsD1 (vs := [.non]) rfl (by simp) (fun _ => (.cons .non .nil)) fun j hj => match j, hj with
  | 0, _ => ⟨1, rfl, fun _ _ _ _ _ _ _ us its h1 h2 => match us, its, h1, h2 with | [_], [_], _, _ => ⟨_, rfl, rfl⟩⟩
  | 1, _ => ⟨2, rfl, fun _ _ _ _ _ _ _ us its h1 h2 => match us, its, h1, h2 with | [_, _], [_], _, _ => ⟨_, rfl, rfl⟩⟩
  | _ + 2, h => absurd h (by show ¬ (_ + 2 ≤ 1); omega)
theorem hb_Moment_tick {K : PySem.W.Frag} : BindsD G K d_Moment_tick ⟨("Moment", some "tick"), ["self", "outside", "call"], [.non, .non], false⟩ := bindsD1 (vs := [.non, .non]) rfl (by simp) (fun _ => (.cons .non (.cons .non .nil))) fun j hj => match j, hj with
  | 0, _ => ⟨1, rfl, fun _ _ _ _ _ _ _ us its h1 h2 => match us, its, h1, h2 with | [_], [_, _], _, _ => ⟨_, rfl, rfl⟩⟩
  | 1, _ => ⟨2, rfl, fun _ _ _ _ _ _ _ us its h1 h2 => match us, its, h1, h2 with | [_, _], [_, _], _, _ => ⟨_, rfl, rfl⟩⟩
  | 2, _ => ⟨3, rfl, fun _ _ _ _ _ _ _ us its h1 h2 => match us, its, h1, h2 with | [_, _, _], [_, _], _, _ => ⟨_, rfl, rfl⟩⟩
  | _ + 3, h => absurd h (by show ¬ (_ + 3 ≤ 2); omega)
def L_0 : List ZSp := []
def L_1 : List ZSp := L_0 ++ [sp_is_integer]
def L_2 : List ZSp := L_1 ++ [sp_in_range]
def L_3 : List ZSp := L_2 ++ [sp_is_flag]
def L_4 : List ZSp := L_3 ++ [sp_is_value]
def L_5 : List ZSp := L_4 ++ [sp_is_index]
def L_6 : List ZSp := L_5 ++ [sp_is_tuple]
def L_7 : List ZSp := L_6 ++ [sp_climbs]
def L_8 : List ZSp := L_7 ++ [sp_fits_right]
def L_9 : List ZSp := L_8 ++ [sp_is_right]
def L_10 : List ZSp := L_9 ++ [sp_is_call]
def L_11 : List ZSp := L_10 ++ [sp_is_integer]
def L_12 : List ZSp := L_11 ++ [sp_is_integer]
def L_13 : List ZSp := L_12 ++ [sp_is_integer]
def L_14 : List ZSp := L_13 ++ [sp_is_integer]
def L_15 : List ZSp := L_14 ++ [sp_is_integer]
def L_16 : List ZSp := L_15 ++ [sp_is_integer]
def L_17 : List ZSp := L_16 ++ [sp_is_integer]
def L_18 : List ZSp := L_17 ++ [sp_is_integer]
def L_19 : List ZSp := L_18 ++ [sp_is_integer]
def L_20 : List ZSp := L_19 ++ [sp_is_integer]
def L_21 : List ZSp := L_20 ++ [sp_is_integer]
def L_22 : List ZSp := L_21 ++ [sp_is_integer]
def L_23 : List ZSp := L_22 ++ [sp_good_tasks]
def L_24 : List ZSp := L_23 ++ [sp_good_pages]
def L_25 : List ZSp := L_24 ++ [sp_good_ports]
def L_26 : List ZSp := L_25 ++ [sp_good_disk]
def L_27 : List ZSp := L_26 ++ [sp_limits_of]
def L_28 : List ZSp := L_27 ++ [sp_good_rights]
def L_29 : List ZSp := L_28 ++ [sp_good_lines]
def L_30 : List ZSp := L_29 ++ [sp_good_costs]
def L_31 : List ZSp := L_30 ++ [sp_good_plan]
def L_32 : List ZSp := L_31 ++ [sp_good_outside]
def L_33 : List ZSp := L_32 ++ [sp_check_things]
def L_34 : List ZSp := L_33 ++ [sp_check_rules]
def L_35 : List ZSp := L_34 ++ [sp_check_flags]
def L_36 : List ZSp := L_35 ++ [sp_frozen_plan]
def L_37 : List ZSp := L_36 ++ [sp_period_of]
def L_38 : List ZSp := L_37 ++ [sp_init]
def L_39 : List ZSp := L_38 ++ [sp_is_integer]
def L_40 : List ZSp := L_39 ++ [sp_is_integer]
def L_41 : List ZSp := L_40 ++ [sp_is_integer]
def L_42 : List ZSp := L_41 ++ [sp_is_integer]
def L_43 : List ZSp := L_42 ++ [sp_is_integer]
def L_44 : List ZSp := L_43 ++ [sp_is_integer]
def L_45 : List ZSp := L_44 ++ [sp_is_integer]
def L_46 : List ZSp := L_45 ++ [sp_is_integer]
def L_47 : List ZSp := L_46 ++ [sp_is_integer]
def L_48 : List ZSp := L_47 ++ [sp_is_integer]
def L_49 : List ZSp := L_48 ++ [sp_is_integer]
def L_50 : List ZSp := L_49 ++ [sp_is_integer]
def L_51 : List ZSp := L_50 ++ [sp_is_integer]
def L_52 : List ZSp := L_51 ++ [sp_is_integer]
def L_53 : List ZSp := L_52 ++ [sp_is_integer]
def L_54 : List ZSp := L_53 ++ [sp_is_integer]
def L_55 : List ZSp := L_54 ++ [sp_is_integer]
def L_56 : List ZSp := L_55 ++ [sp_work]
def L_57 : List ZSp := L_56 ++ [sp_is_integer]
def L_58 : List ZSp := L_57 ++ [sp_wake]
def L_59 : List ZSp := L_58 ++ [sp_ready]
def L_60 : List ZSp := L_59 ++ [sp_firstW]
def L_61 : List ZSp := L_60 ++ [sp_shape]
def L_62 : List ZSp := L_61 ++ [sp_deliver]
def L_63 : List ZSp := L_62 ++ [sp_sleep_on]
def L_64 : List ZSp := L_63 ++ [sp_cost]
def L_65 : List ZSp := L_64 ++ [(sp_page isPage)]
def L_66 : List ZSp := L_65 ++ [(sp_page isSend)]
def L_67 : List ZSp := L_66 ++ [(sp_page isTake)]
def L_68 : List ZSp := L_67 ++ [(sp_page isLock)]
def L_69 : List ZSp := L_68 ++ [(sp_page isFree)]
def L_70 : List ZSp := L_69 ++ [bot]
def L_71 : List ZSp := L_70 ++ [bot]
def L_72 : List ZSp := L_71 ++ [(sp_page isSeek)]
def L_73 : List ZSp := L_72 ++ [sp_get_]
def L_74 : List ZSp := L_73 ++ [sp_give]
def L_75 : List ZSp := L_74 ++ [(sp_page isObj)]
def L_76 : List ZSp := L_75 ++ [(sp_page Cl.plain)]
def L_77 : List ZSp := L_76 ++ [sp_make_call]
def L_78 : List ZSp := L_77 ++ [sp_slot_at]
def L_79 : List ZSp := L_78 ++ [bot]
def L_80 : List ZSp := L_79 ++ [bot]
def L_81 : List ZSp := L_80 ++ [sp_change]
def L_82 : List ZSp := L_81 ++ [bot]
def L_83 : List ZSp := L_82 ++ [bot]
def L_84 : List ZSp := L_83 ++ [sp_by_slots]
def L_85 : List ZSp := L_84 ++ [(sp_turn (fun p => isLevels p.pl = false))]
def L_86 : List ZSp := L_85 ++ [(sp_opened (fun p => isLevels p.pl = false))]
def L_87 : List ZSp := L_86 ++ [sp_closed]
def L_88 : List ZSp := L_87 ++ [sp_is_integer]
def L_89 : List ZSp := L_88 ++ [sp_is_integer]
def L_90 : List ZSp := L_89 ++ [sp_minit]
def L_91 : List ZSp := L_90 ++ [sp_is_integer]
def L_92 : List ZSp := L_91 ++ [sp_is_integer]
def L_93 : List ZSp := L_92 ++ [sp_is_integer]
def L_94 : List ZSp := L_93 ++ [sp_is_integer]
def L_95 : List ZSp := L_94 ++ [sp_is_integer]
def L_96 : List ZSp := L_95 ++ [sp_is_integer]
def L_97 : List ZSp := L_96 ++ [sp_is_integer]
def L_98 : List ZSp := L_97 ++ [sp_is_integer]
def L_99 : List ZSp := L_98 ++ [sp_is_integer]
def L_100 : List ZSp := L_99 ++ [(sp_mo (fun _ k => .lst (k.ln.map eO)))]
def L_101 : List ZSp := L_100 ++ [sp_is_integer]
def L_102 : List ZSp := L_101 ++ [(sp_mo (fun _ k => run4 k))]
def L_103 : List ZSp := L_102 ++ [sp_is_integer]
def L_104 : List ZSp := L_103 ++ [sp_may_come]
def L_105 : List ZSp := L_104 ++ [sp_need_letter]
def L_106 : List ZSp := L_105 ++ [(sp_seen_next (fun p => isLevels p.pl = false))]
def L_107 : List ZSp := L_106 ++ [(sp_due (fun p => isLevels p.pl = false))]
def L_108 : List ZSp := L_107 ++ [(sp_tick (fun p => isLevels p.pl = false))]
def L_109 : List ZSp := L_108 ++ [sp_is_integer]
def L_110 : List ZSp := L_109 ++ [sp_is_integer]
def L_111 : List ZSp := L_110 ++ [sp_is_integer]
def L_112 : List ZSp := L_111 ++ [sp_is_integer]
def L_113 : List ZSp := L_112 ++ [sp_is_integer]
def L_114 : List ZSp := L_113 ++ [sp_first]
def L_115 : List ZSp := L_114 ++ [sp_digits]
def L_116 : List ZSp := L_115 ++ [sp_cell]
def L_117 : List ZSp := L_116 ++ [sp_started15]
def L_118 : List ZSp := L_117 ++ [sp_built15]
def L_119 : List ZSp := L_118 ++ [sp_turn15]
def L_120 : List ZSp := L_119 ++ [(sp_same 0)]
def L_121 : List ZSp := L_120 ++ [(sp_same 1)]
def L_122 : List ZSp := L_121 ++ [(sp_same 2)]
def L_123 : List ZSp := L_122 ++ [sp_stands15]
def L_124 : List ZSp := L_123 ++ [sp_cost15]
theorem mkd_0 {K : PySem.W.Frag} : MkD G K d_Work___init__ ⟨("Work", some "__init__"), ["self", "build", "shape"], [], false⟩ ⟨1, 55, 2, [], []⟩ := by
  intro fd F
  exact mkd_plain F (fun _ _ _ _ _ _ us hl => match us, hl with | [_, _, _], _ => rfl)
theorem mkd_1 {K : PySem.W.Frag} : MkD G K d_Moment___init__ ⟨("Moment", some "__init__"), ["self", "build", "shape"], [], false⟩ ⟨2, 89, 2, [], []⟩ := by
  intro fd F
  exact mkd_plain F (fun _ _ _ _ _ _ us hl => match us, hl with | [_, _, _], _ => rfl)
theorem mkd_2 {K : PySem.W.Frag} : MkD G K d_Build___init__ ⟨("Build", some "__init__"), ["self", "tasks", "pages", "ports", "locks", "frames", "disk", "rights", "lines", "costs", "plan", "outside", "wipe", "pad", "lend", "share"], [], true⟩ ⟨0, 37, 11, ["wipe", "pad", "lend", "share"], [.inl 0, .inl 1, .inl 2, .inl 3]⟩ := by
  intro fd F
  obtain ⟨mv, kb⟩ := FunD.kbinds0 (ps := ["self", "tasks", "pages", "ports", "locks", "frames", "disk", "rights", "lines", "costs", "plan", "outside", "wipe", "pad", "lend", "share"]) F 12 ["wipe", "pad", "lend", "share"] [] (fun {α} us mv ws => us ++ (ws ++ mv)) (by intro z; cases z) (by simp) (fun r1 r2 r3 => r1.append (r3.append r2)) fun D doc pm an cdv ct us mv ws l1 l2 l3 => match us, mv, ws, l1, l2, l3 with | [_, _, _, _, _, _, _, _, _, _, _, _], [], [_, _, _, _], _, _, _ => rfl
  refine ⟨_, _, kb, fun F vs zs ps qs r1 r2 l => ?_⟩
  match zs, qs, r2, l with
  | [_, _, _, _], [_, _, _, _], r2, _ => exact r1.append r2
theorem mkd_3 {K : PySem.W.Frag} : MkD G K d_Build___init__ ⟨("Build", some "__init__"), ["self", "tasks", "pages", "ports", "locks", "frames", "disk", "rights", "lines", "costs", "plan", "outside", "wipe", "pad", "lend", "share"], [], true⟩ ⟨0, 37, 11, ["pad"], [.inr (.bl false), .inl 0, .inr (.bl false), .inr (.bl false)]⟩ := by
  intro fd F
  obtain ⟨mv, kb⟩ := FunD.kbinds0 (ps := ["self", "tasks", "pages", "ports", "locks", "frames", "disk", "rights", "lines", "costs", "plan", "outside", "wipe", "pad", "lend", "share"]) F 12 ["pad"] [("wipe", .bl false), ("lend", .bl false), ("share", .bl false)] (fun {α} us mv ws => us ++ ((mv.drop 0).take 1 ++ ((ws.drop 0).take 1 ++ ((mv.drop 1).take 1 ++ (mv.drop 2).take 1)))) (by intro z; cases z) (by intro q hq; show q ∈ ([("wipe", V.bl false), ("pad", V.bl false), ("lend", V.bl false), ("share", V.bl false)] : List (Str × V)); simp only [List.mem_cons, List.not_mem_nil, or_false] at hq ⊢; rcases hq with h | h | h <;> (rw [h]; simp)) (fun r1 r2 r3 => r1.append (((r2.drop 0).take 1).append (((r3.drop 0).take 1).append (((r2.drop 1).take 1).append ((r2.drop 2).take 1))))) fun D doc pm an cdv ct us mv ws l1 l2 l3 => match us, mv, ws, l1, l2, l3 with | [_, _, _, _, _, _, _, _, _, _, _, _], [_, _, _], [_], _, _, _ => ⟨_, _, _, _, _, _, rfl, rfl, ⟨_, _, _, _, _, _, rfl, rfl, ⟨_, _, _, _, _, _, rfl, rfl, rfl⟩⟩⟩
  refine ⟨_, _, kb, fun F vs zs ps qs r1 r2 l => ?_⟩
  match zs, qs, r2, l with
  | [_], [_], .cons h0 (.nil), _ => exact r1.append (.cons (.bl _) (.cons h0 (.cons (.bl _) (.cons (.bl _) .nil))))
section
variable {K : PySem.W.Frag} {h : Heap} {mg : Str → Option Value} {P : Program} {w : World} {base : Heap}
theorem tab_0 (X : K.In h) (Gn : h.Ns mainGlobals mg) (c : SaysZ fa dl B w K) : ∀ F0, Tab (G.at F0) B (PL L_0) 0 P w K mg base := tab0 X Gn c hb
theorem tab_1 (X : K.In h) (Gn : h.Ns mainGlobals mg) (c : SaysZ fa dl B w K) : ∀ F0, Tab (G.at F0) B (PL L_1) 1 P w K mg base :=
  tab_next X Gn c.d (l := L_0) (s := sp_is_integer) (k := 0) (d := d_is_integer) (fn := ⟨("is_integer", none), ["thing"], [], false⟩) (N := n_is_integer) (m := b_is_integer) rfl rfl (tab_0 X Gn c) rfl rfl rfl (by decide +kernel) s_is_integer c_is_integer (bindsD0 rfl rfl fun _ _ _ _ _ _ us hl => match us, hl with | [_], _ => rfl) (not_mks (by decide +kernel)) (o_is_integer (PL L_0) )
theorem tab_2 (X : K.In h) (Gn : h.Ns mainGlobals mg) (c : SaysZ fa dl B w K) : ∀ F0, Tab (G.at F0) B (PL L_2) 2 P w K mg base :=
  tab_next X Gn c.d (l := L_1) (s := sp_in_range) (k := 1) (d := d_in_range) (fn := ⟨("in_range", none), ["thing", "low", "high"], [], false⟩) (N := n_in_range) (m := b_in_range) rfl rfl (tab_1 X Gn c) rfl rfl rfl (by decide +kernel) s_in_range c_in_range (bindsD0 rfl rfl fun _ _ _ _ _ _ us hl => match us, hl with | [_, _, _], _ => rfl) (not_mks (by decide +kernel)) (o_in_range (PL L_1) rfl)
theorem tab_3 (X : K.In h) (Gn : h.Ns mainGlobals mg) (c : SaysZ fa dl B w K) : ∀ F0, Tab (G.at F0) B (PL L_3) 3 P w K mg base :=
  tab_next X Gn c.d (l := L_2) (s := sp_is_flag) (k := 2) (d := d_is_flag) (fn := ⟨("is_flag", none), ["thing"], [], false⟩) (N := n_is_flag) (m := b_is_flag) rfl rfl (tab_2 X Gn c) rfl rfl rfl (by decide +kernel) s_is_flag c_is_flag (bindsD0 rfl rfl fun _ _ _ _ _ _ us hl => match us, hl with | [_], _ => rfl) (not_mks (by decide +kernel)) (o_is_flag (PL L_2) )
theorem tab_4 (X : K.In h) (Gn : h.Ns mainGlobals mg) (c : SaysZ fa dl B w K) : ∀ F0, Tab (G.at F0) B (PL L_4) 4 P w K mg base :=
  tab_next X Gn c.d (l := L_3) (s := sp_is_value) (k := 3) (d := d_is_value) (fn := ⟨("is_value", none), ["thing"], [], false⟩) (N := n_is_value) (m := b_is_value) rfl rfl (tab_3 X Gn c) rfl rfl rfl (by decide +kernel) s_is_value c_is_value (bindsD0 rfl rfl fun _ _ _ _ _ _ us hl => match us, hl with | [_], _ => rfl) (not_mks (by decide +kernel)) (o_is_value (PL L_3) rfl)
theorem tab_5 (X : K.In h) (Gn : h.Ns mainGlobals mg) (c : SaysZ fa dl B w K) : ∀ F0, Tab (G.at F0) B (PL L_5) 5 P w K mg base :=
  tab_next X Gn c.d (l := L_4) (s := sp_is_index) (k := 4) (d := d_is_index) (fn := ⟨("is_index", none), ["thing", "many"], [], false⟩) (N := n_is_index) (m := b_is_index) rfl rfl (tab_4 X Gn c) rfl rfl rfl (by decide +kernel) s_is_index c_is_index (bindsD0 rfl rfl fun _ _ _ _ _ _ us hl => match us, hl with | [_, _], _ => rfl) (not_mks (by decide +kernel)) (o_is_index (PL L_4) rfl)
theorem tab_6 (X : K.In h) (Gn : h.Ns mainGlobals mg) (c : SaysZ fa dl B w K) : ∀ F0, Tab (G.at F0) B (PL L_6) 6 P w K mg base :=
  tab_next X Gn c.d (l := L_5) (s := sp_is_tuple) (k := 5) (d := d_is_tuple) (fn := ⟨("is_tuple", none), ["thing", "many"], [], false⟩) (N := n_is_tuple) (m := b_is_tuple) rfl rfl (tab_5 X Gn c) rfl rfl rfl (by decide +kernel) s_is_tuple c_is_tuple (bindsD0 rfl rfl fun _ _ _ _ _ _ us hl => match us, hl with | [_, _], _ => rfl) (not_mks (by decide +kernel)) (o_is_tuple (PL L_5) )
theorem tab_7 (X : K.In h) (Gn : h.Ns mainGlobals mg) (c : SaysZ fa dl B w K) : ∀ F0, Tab (G.at F0) B (PL L_7) 7 P w K mg base :=
  tab_next X Gn c.d (l := L_6) (s := sp_climbs) (k := 6) (d := d_climbs) (fn := ⟨("climbs", none), ["items"], [], false⟩) (N := n_climbs) (m := b_climbs) rfl rfl (tab_6 X Gn c) rfl rfl rfl (by decide +kernel) s_climbs c_climbs (bindsD0 rfl rfl fun _ _ _ _ _ _ us hl => match us, hl with | [_], _ => rfl) (not_mks (by decide +kernel)) (o_climbs (PL L_6) )
theorem tab_8 (X : K.In h) (Gn : h.Ns mainGlobals mg) (c : SaysZ fa dl B w K) : ∀ F0, Tab (G.at F0) B (PL L_8) 8 P w K mg base :=
  tab_next X Gn c.d (l := L_7) (s := sp_fits_right) (k := 7) (d := d_fits_right) (fn := ⟨("fits_right", none), ["limits", "thing"], [], false⟩) (N := n_fits_right) (m := b_fits_right) rfl rfl (tab_7 X Gn c) rfl rfl rfl (by decide +kernel) s_fits_right c_fits_right (bindsD0 rfl rfl fun _ _ _ _ _ _ us hl => match us, hl with | [_, _], _ => rfl) (not_mks (by decide +kernel)) (o_fits_right (PL L_7) rfl rfl)
theorem tab_9 (X : K.In h) (Gn : h.Ns mainGlobals mg) (c : SaysZ fa dl B w K) : ∀ F0, Tab (G.at F0) B (PL L_9) 9 P w K mg base :=
  tab_next X Gn c.d (l := L_8) (s := sp_is_right) (k := 8) (d := d_is_right) (fn := ⟨("is_right", none), ["build", "thing"], [], false⟩) (N := n_is_right) (m := b_is_right) rfl rfl (tab_8 X Gn c) rfl rfl rfl (by decide +kernel) s_is_right c_is_right (bindsD0 rfl rfl fun _ _ _ _ _ _ us hl => match us, hl with | [_, _], _ => rfl) (not_mks (by decide +kernel)) (o_is_right (PL L_8) rfl)
theorem tab_10 (X : K.In h) (Gn : h.Ns mainGlobals mg) (c : SaysZ fa dl B w K) : ∀ F0, Tab (G.at F0) B (PL L_10) 10 P w K mg base :=
  tab_next X Gn c.d (l := L_9) (s := sp_is_call) (k := 9) (d := d_is_call) (fn := ⟨("is_call", none), ["build", "thing"], [], false⟩) (N := n_is_call) (m := b_is_call) rfl rfl (tab_9 X Gn c) rfl rfl rfl (by decide +kernel) s_is_call c_is_call (bindsD0 rfl rfl fun _ _ _ _ _ _ us hl => match us, hl with | [_, _], _ => rfl) (not_mks (by decide +kernel)) (o_is_call (PL L_9) rfl rfl rfl rfl)
theorem tab_11 (X : K.In h) (Gn : h.Ns mainGlobals mg) (c : SaysZ fa dl B w K) : ∀ F0, Tab (G.at F0) B (PL L_11) 11 P w K mg base :=
  tab_next X Gn c.d (l := L_10) (s := sp_is_integer) (k := 0) (d := d_is_integer) (fn := ⟨("is_integer", none), ["thing"], [], false⟩) (N := n_is_integer) (m := b_is_integer) rfl rfl (tab_10 X Gn c) rfl rfl rfl (by decide +kernel) s_is_integer c_is_integer_pad10 (bindsD0 rfl rfl fun _ _ _ _ _ _ us hl => match us, hl with | [_], _ => rfl) (not_mks (by decide +kernel)) (o_is_integer (PL L_10))
theorem tab_12 (X : K.In h) (Gn : h.Ns mainGlobals mg) (c : SaysZ fa dl B w K) : ∀ F0, Tab (G.at F0) B (PL L_12) 12 P w K mg base :=
  tab_next X Gn c.d (l := L_11) (s := sp_is_integer) (k := 0) (d := d_is_integer) (fn := ⟨("is_integer", none), ["thing"], [], false⟩) (N := n_is_integer) (m := b_is_integer) rfl rfl (tab_11 X Gn c) rfl rfl rfl (by decide +kernel) s_is_integer c_is_integer_pad11 (bindsD0 rfl rfl fun _ _ _ _ _ _ us hl => match us, hl with | [_], _ => rfl) (not_mks (by decide +kernel)) (o_is_integer (PL L_11))
theorem tab_13 (X : K.In h) (Gn : h.Ns mainGlobals mg) (c : SaysZ fa dl B w K) : ∀ F0, Tab (G.at F0) B (PL L_13) 13 P w K mg base :=
  tab_next X Gn c.d (l := L_12) (s := sp_is_integer) (k := 0) (d := d_is_integer) (fn := ⟨("is_integer", none), ["thing"], [], false⟩) (N := n_is_integer) (m := b_is_integer) rfl rfl (tab_12 X Gn c) rfl rfl rfl (by decide +kernel) s_is_integer c_is_integer_pad12 (bindsD0 rfl rfl fun _ _ _ _ _ _ us hl => match us, hl with | [_], _ => rfl) (not_mks (by decide +kernel)) (o_is_integer (PL L_12))
theorem tab_14 (X : K.In h) (Gn : h.Ns mainGlobals mg) (c : SaysZ fa dl B w K) : ∀ F0, Tab (G.at F0) B (PL L_14) 14 P w K mg base :=
  tab_next X Gn c.d (l := L_13) (s := sp_is_integer) (k := 0) (d := d_is_integer) (fn := ⟨("is_integer", none), ["thing"], [], false⟩) (N := n_is_integer) (m := b_is_integer) rfl rfl (tab_13 X Gn c) rfl rfl rfl (by decide +kernel) s_is_integer c_is_integer_pad13 (bindsD0 rfl rfl fun _ _ _ _ _ _ us hl => match us, hl with | [_], _ => rfl) (not_mks (by decide +kernel)) (o_is_integer (PL L_13))
theorem tab_15 (X : K.In h) (Gn : h.Ns mainGlobals mg) (c : SaysZ fa dl B w K) : ∀ F0, Tab (G.at F0) B (PL L_15) 15 P w K mg base :=
  tab_next X Gn c.d (l := L_14) (s := sp_is_integer) (k := 0) (d := d_is_integer) (fn := ⟨("is_integer", none), ["thing"], [], false⟩) (N := n_is_integer) (m := b_is_integer) rfl rfl (tab_14 X Gn c) rfl rfl rfl (by decide +kernel) s_is_integer c_is_integer_pad14 (bindsD0 rfl rfl fun _ _ _ _ _ _ us hl => match us, hl with | [_], _ => rfl) (not_mks (by decide +kernel)) (o_is_integer (PL L_14))
theorem tab_16 (X : K.In h) (Gn : h.Ns mainGlobals mg) (c : SaysZ fa dl B w K) : ∀ F0, Tab (G.at F0) B (PL L_16) 16 P w K mg base :=
  tab_next X Gn c.d (l := L_15) (s := sp_is_integer) (k := 0) (d := d_is_integer) (fn := ⟨("is_integer", none), ["thing"], [], false⟩) (N := n_is_integer) (m := b_is_integer) rfl rfl (tab_15 X Gn c) rfl rfl rfl (by decide +kernel) s_is_integer c_is_integer_pad15 (bindsD0 rfl rfl fun _ _ _ _ _ _ us hl => match us, hl with | [_], _ => rfl) (not_mks (by decide +kernel)) (o_is_integer (PL L_15))
theorem tab_17 (X : K.In h) (Gn : h.Ns mainGlobals mg) (c : SaysZ fa dl B w K) : ∀ F0, Tab (G.at F0) B (PL L_17) 17 P w K mg base :=
  tab_next X Gn c.d (l := L_16) (s := sp_is_integer) (k := 0) (d := d_is_integer) (fn := ⟨("is_integer", none), ["thing"], [], false⟩) (N := n_is_integer) (m := b_is_integer) rfl rfl (tab_16 X Gn c) rfl rfl rfl (by decide +kernel) s_is_integer c_is_integer_pad16 (bindsD0 rfl rfl fun _ _ _ _ _ _ us hl => match us, hl with | [_], _ => rfl) (not_mks (by decide +kernel)) (o_is_integer (PL L_16))
theorem tab_18 (X : K.In h) (Gn : h.Ns mainGlobals mg) (c : SaysZ fa dl B w K) : ∀ F0, Tab (G.at F0) B (PL L_18) 18 P w K mg base :=
  tab_next X Gn c.d (l := L_17) (s := sp_is_integer) (k := 0) (d := d_is_integer) (fn := ⟨("is_integer", none), ["thing"], [], false⟩) (N := n_is_integer) (m := b_is_integer) rfl rfl (tab_17 X Gn c) rfl rfl rfl (by decide +kernel) s_is_integer c_is_integer_pad17 (bindsD0 rfl rfl fun _ _ _ _ _ _ us hl => match us, hl with | [_], _ => rfl) (not_mks (by decide +kernel)) (o_is_integer (PL L_17))
theorem tab_19 (X : K.In h) (Gn : h.Ns mainGlobals mg) (c : SaysZ fa dl B w K) : ∀ F0, Tab (G.at F0) B (PL L_19) 19 P w K mg base :=
  tab_next X Gn c.d (l := L_18) (s := sp_is_integer) (k := 0) (d := d_is_integer) (fn := ⟨("is_integer", none), ["thing"], [], false⟩) (N := n_is_integer) (m := b_is_integer) rfl rfl (tab_18 X Gn c) rfl rfl rfl (by decide +kernel) s_is_integer c_is_integer_pad18 (bindsD0 rfl rfl fun _ _ _ _ _ _ us hl => match us, hl with | [_], _ => rfl) (not_mks (by decide +kernel)) (o_is_integer (PL L_18))
theorem tab_20 (X : K.In h) (Gn : h.Ns mainGlobals mg) (c : SaysZ fa dl B w K) : ∀ F0, Tab (G.at F0) B (PL L_20) 20 P w K mg base :=
  tab_next X Gn c.d (l := L_19) (s := sp_is_integer) (k := 0) (d := d_is_integer) (fn := ⟨("is_integer", none), ["thing"], [], false⟩) (N := n_is_integer) (m := b_is_integer) rfl rfl (tab_19 X Gn c) rfl rfl rfl (by decide +kernel) s_is_integer c_is_integer_pad19 (bindsD0 rfl rfl fun _ _ _ _ _ _ us hl => match us, hl with | [_], _ => rfl) (not_mks (by decide +kernel)) (o_is_integer (PL L_19))
theorem tab_21 (X : K.In h) (Gn : h.Ns mainGlobals mg) (c : SaysZ fa dl B w K) : ∀ F0, Tab (G.at F0) B (PL L_21) 21 P w K mg base :=
  tab_next X Gn c.d (l := L_20) (s := sp_is_integer) (k := 0) (d := d_is_integer) (fn := ⟨("is_integer", none), ["thing"], [], false⟩) (N := n_is_integer) (m := b_is_integer) rfl rfl (tab_20 X Gn c) rfl rfl rfl (by decide +kernel) s_is_integer c_is_integer_pad20 (bindsD0 rfl rfl fun _ _ _ _ _ _ us hl => match us, hl with | [_], _ => rfl) (not_mks (by decide +kernel)) (o_is_integer (PL L_20))
theorem tab_22 (X : K.In h) (Gn : h.Ns mainGlobals mg) (c : SaysZ fa dl B w K) : ∀ F0, Tab (G.at F0) B (PL L_22) 22 P w K mg base :=
  tab_next X Gn c.d (l := L_21) (s := sp_is_integer) (k := 0) (d := d_is_integer) (fn := ⟨("is_integer", none), ["thing"], [], false⟩) (N := n_is_integer) (m := b_is_integer) rfl rfl (tab_21 X Gn c) rfl rfl rfl (by decide +kernel) s_is_integer c_is_integer_pad21 (bindsD0 rfl rfl fun _ _ _ _ _ _ us hl => match us, hl with | [_], _ => rfl) (not_mks (by decide +kernel)) (o_is_integer (PL L_21))
theorem tab_23 (X : K.In h) (Gn : h.Ns mainGlobals mg) (c : SaysZ fa dl B w K) : ∀ F0, Tab (G.at F0) B (PL L_23) 23 P w K mg base :=
  tab_next X Gn c.d (l := L_22) (s := sp_good_tasks) (k := 50) (d := d_good_tasks) (fn := ⟨("good_tasks", none), ["tasks"], [], false⟩) (N := n_good_tasks) (m := b_good_tasks) rfl rfl (tab_22 X Gn c) rfl rfl rfl (by decide +kernel) s_good_tasks c_good_tasks (bindsD0 rfl rfl fun _ _ _ _ _ _ us hl => match us, hl with | [_], _ => rfl) (not_mks (by decide +kernel)) (o_good_tasks (PL L_22) rfl rfl)
theorem tab_24 (X : K.In h) (Gn : h.Ns mainGlobals mg) (c : SaysZ fa dl B w K) : ∀ F0, Tab (G.at F0) B (PL L_24) 24 P w K mg base :=
  tab_next X Gn c.d (l := L_23) (s := sp_good_pages) (k := 51) (d := d_good_pages) (fn := ⟨("good_pages", none), ["pages"], [], false⟩) (N := n_good_pages) (m := b_good_pages) rfl rfl (tab_23 X Gn c) rfl rfl rfl (by decide +kernel) s_good_pages c_good_pages (bindsD0 rfl rfl fun _ _ _ _ _ _ us hl => match us, hl with | [_], _ => rfl) (not_mks (by decide +kernel)) (o_good_pages (PL L_23) rfl)
theorem tab_25 (X : K.In h) (Gn : h.Ns mainGlobals mg) (c : SaysZ fa dl B w K) : ∀ F0, Tab (G.at F0) B (PL L_25) 25 P w K mg base :=
  tab_next X Gn c.d (l := L_24) (s := sp_good_ports) (k := 52) (d := d_good_ports) (fn := ⟨("good_ports", none), ["ports"], [], false⟩) (N := n_good_ports) (m := b_good_ports) rfl rfl (tab_24 X Gn c) rfl rfl rfl (by decide +kernel) s_good_ports c_good_ports (bindsD0 rfl rfl fun _ _ _ _ _ _ us hl => match us, hl with | [_], _ => rfl) (not_mks (by decide +kernel)) (o_good_ports (PL L_24) rfl)
theorem tab_26 (X : K.In h) (Gn : h.Ns mainGlobals mg) (c : SaysZ fa dl B w K) : ∀ F0, Tab (G.at F0) B (PL L_26) 26 P w K mg base :=
  tab_next X Gn c.d (l := L_25) (s := sp_good_disk) (k := 53) (d := d_good_disk) (fn := ⟨("good_disk", none), ["disk"], [], false⟩) (N := n_good_disk) (m := b_good_disk) rfl rfl (tab_25 X Gn c) rfl rfl rfl (by decide +kernel) s_good_disk c_good_disk (bindsD0 rfl rfl fun _ _ _ _ _ _ us hl => match us, hl with | [_], _ => rfl) (not_mks (by decide +kernel)) (o_good_disk (PL L_25) rfl)
theorem tab_27 (X : K.In h) (Gn : h.Ns mainGlobals mg) (c : SaysZ fa dl B w K) : ∀ F0, Tab (G.at F0) B (PL L_27) 27 P w K mg base :=
  tab_next X Gn c.d (l := L_26) (s := sp_limits_of) (k := 54) (d := d_limits_of) (fn := ⟨("limits_of", none), ["task_many", "page_many", "port_many", "lock_many", "disk"], [], false⟩) (N := n_limits_of) (m := b_limits_of) rfl rfl (tab_26 X Gn c) rfl rfl rfl (by decide +kernel) s_limits_of c_limits_of (bindsD0 rfl rfl fun _ _ _ _ _ _ us hl => match us, hl with | [_, _, _, _, _], _ => rfl) (not_mks (by decide +kernel)) (o_limits_of (PL L_26) )
theorem tab_28 (X : K.In h) (Gn : h.Ns mainGlobals mg) (c : SaysZ fa dl B w K) : ∀ F0, Tab (G.at F0) B (PL L_28) 28 P w K mg base :=
  tab_next X Gn c.d (l := L_27) (s := sp_good_rights) (k := 55) (d := d_good_rights) (fn := ⟨("good_rights", none), ["limits", "rights"], [], false⟩) (N := n_good_rights) (m := b_good_rights) rfl rfl (tab_27 X Gn c) rfl rfl rfl (by decide +kernel) s_good_rights c_good_rights (bindsD0 rfl rfl fun _ _ _ _ _ _ us hl => match us, hl with | [_, _], _ => rfl) (not_mks (by decide +kernel)) (o_good_rights (PL L_27) rfl rfl)
theorem tab_29 (X : K.In h) (Gn : h.Ns mainGlobals mg) (c : SaysZ fa dl B w K) : ∀ F0, Tab (G.at F0) B (PL L_29) 29 P w K mg base :=
  tab_next X Gn c.d (l := L_28) (s := sp_good_lines) (k := 56) (d := d_good_lines) (fn := ⟨("good_lines", none), ["page_many", "lines"], [], false⟩) (N := n_good_lines) (m := b_good_lines) rfl rfl (tab_28 X Gn c) rfl rfl rfl (by decide +kernel) s_good_lines c_good_lines (bindsD0 rfl rfl fun _ _ _ _ _ _ us hl => match us, hl with | [_, _], _ => rfl) (not_mks (by decide +kernel)) (o_good_lines (PL L_28) rfl)
theorem tab_30 (X : K.In h) (Gn : h.Ns mainGlobals mg) (c : SaysZ fa dl B w K) : ∀ F0, Tab (G.at F0) B (PL L_30) 30 P w K mg base :=
  tab_next X Gn c.d (l := L_29) (s := sp_good_costs) (k := 57) (d := d_good_costs) (fn := ⟨("good_costs", none), ["costs"], [], false⟩) (N := n_good_costs) (m := b_good_costs) rfl rfl (tab_29 X Gn c) rfl rfl rfl (by decide +kernel) s_good_costs c_good_costs (bindsD0 rfl rfl fun _ _ _ _ _ _ us hl => match us, hl with | [_], _ => rfl) (not_mks (by decide +kernel)) (o_good_costs (PL L_29) rfl rfl)
theorem tab_31 (X : K.In h) (Gn : h.Ns mainGlobals mg) (c : SaysZ fa dl B w K) : ∀ F0, Tab (G.at F0) B (PL L_31) 31 P w K mg base :=
  tab_next X Gn c.d (l := L_30) (s := sp_good_plan) (k := 58) (d := d_good_plan) (fn := ⟨("good_plan", none), ["task_many", "plan"], [], false⟩) (N := n_good_plan) (m := b_good_plan) rfl rfl (tab_30 X Gn c) rfl rfl rfl (by decide +kernel) s_good_plan c_good_plan (bindsD0 rfl rfl fun _ _ _ _ _ _ us hl => match us, hl with | [_, _], _ => rfl) (not_mks (by decide +kernel)) (o_good_plan (PL L_30) rfl rfl rfl)
theorem tab_32 (X : K.In h) (Gn : h.Ns mainGlobals mg) (c : SaysZ fa dl B w K) : ∀ F0, Tab (G.at F0) B (PL L_32) 32 P w K mg base :=
  tab_next X Gn c.d (l := L_31) (s := sp_good_outside) (k := 59) (d := d_good_outside) (fn := ⟨("good_outside", none), ["port_many", "outside"], [], false⟩) (N := n_good_outside) (m := b_good_outside) rfl rfl (tab_31 X Gn c) rfl rfl rfl (by decide +kernel) s_good_outside c_good_outside (bindsD0 rfl rfl fun _ _ _ _ _ _ us hl => match us, hl with | [_, _], _ => rfl) (not_mks (by decide +kernel)) (o_good_outside (PL L_31) rfl rfl rfl)
theorem tab_33 (X : K.In h) (Gn : h.Ns mainGlobals mg) (c : SaysZ fa dl B w K) : ∀ F0, Tab (G.at F0) B (PL L_33) 33 P w K mg base :=
  tab_next X Gn c.d (l := L_32) (s := sp_check_things) (k := 60) (d := d_check_things) (fn := ⟨("check_things", none), ["tasks", "pages", "ports", "locks", "frames", "disk"], [], false⟩) (N := n_check_things) (m := b_check_things) rfl rfl (tab_32 X Gn c) rfl rfl rfl (by decide +kernel) s_check_things c_check_things (bindsD0 rfl rfl fun _ _ _ _ _ _ us hl => match us, hl with | [_, _, _, _, _, _], _ => rfl) (not_mks (by decide +kernel)) (o_check_things (PL L_32) rfl rfl rfl rfl rfl)
theorem tab_34 (X : K.In h) (Gn : h.Ns mainGlobals mg) (c : SaysZ fa dl B w K) : ∀ F0, Tab (G.at F0) B (PL L_34) 34 P w K mg base :=
  tab_next X Gn c.d (l := L_33) (s := sp_check_rules) (k := 61) (d := d_check_rules) (fn := ⟨("check_rules", none), ["limits", "rights", "lines", "costs", "plan", "outside"], [], false⟩) (N := n_check_rules) (m := b_check_rules) rfl rfl (tab_33 X Gn c) rfl rfl rfl (by decide +kernel) s_check_rules c_check_rules (bindsD0 rfl rfl fun _ _ _ _ _ _ us hl => match us, hl with | [_, _, _, _, _, _], _ => rfl) (not_mks (by decide +kernel)) (o_check_rules (PL L_33) rfl rfl rfl rfl rfl)
theorem tab_35 (X : K.In h) (Gn : h.Ns mainGlobals mg) (c : SaysZ fa dl B w K) : ∀ F0, Tab (G.at F0) B (PL L_35) 35 P w K mg base :=
  tab_next X Gn c.d (l := L_34) (s := sp_check_flags) (k := 62) (d := d_check_flags) (fn := ⟨("check_flags", none), ["wipe", "pad", "lend", "share"], [], false⟩) (N := n_check_flags) (m := b_check_flags) rfl rfl (tab_34 X Gn c) rfl rfl rfl (by decide +kernel) s_check_flags c_check_flags (bindsD0 rfl rfl fun _ _ _ _ _ _ us hl => match us, hl with | [_, _, _, _], _ => rfl) (not_mks (by decide +kernel)) (o_check_flags (PL L_34) rfl)
theorem tab_36 (X : K.In h) (Gn : h.Ns mainGlobals mg) (c : SaysZ fa dl B w K) : ∀ F0, Tab (G.at F0) B (PL L_36) 36 P w K mg base :=
  tab_next X Gn c.d (l := L_35) (s := sp_frozen_plan) (k := 63) (d := d_frozen_plan) (fn := ⟨("frozen_plan", none), ["plan"], [], false⟩) (N := n_frozen_plan) (m := b_frozen_plan) rfl rfl (tab_35 X Gn c) rfl rfl rfl (by decide +kernel) s_frozen_plan c_frozen_plan (bindsD0 rfl rfl fun _ _ _ _ _ _ us hl => match us, hl with | [_], _ => rfl) (not_mks (by decide +kernel)) (o_frozen_plan (PL L_35) )
theorem tab_37 (X : K.In h) (Gn : h.Ns mainGlobals mg) (c : SaysZ fa dl B w K) : ∀ F0, Tab (G.at F0) B (PL L_37) 37 P w K mg base :=
  tab_next X Gn c.d (l := L_36) (s := sp_period_of) (k := 64) (d := d_period_of) (fn := ⟨("period_of", none), ["plan_row", "outside_row"], [], false⟩) (N := n_period_of) (m := b_period_of) rfl rfl (tab_36 X Gn c) rfl rfl rfl (by decide +kernel) s_period_of c_period_of (bindsD0 rfl rfl fun _ _ _ _ _ _ us hl => match us, hl with | [_, _], _ => rfl) (not_mks (by decide +kernel)) (o_period_of (PL L_36) )
theorem tab_38 (X : K.In h) (Gn : h.Ns mainGlobals mg) (c : SaysZ fa dl B w K) : ∀ F0, Tab (G.at F0) B (PL L_38) 38 P w K mg base :=
  tab_next X Gn c.d (l := L_37) (s := sp_init) (k := 65) (d := d_Build___init__) (fn := ⟨("Build", some "__init__"), ["self", "tasks", "pages", "ports", "locks", "frames", "disk", "rights", "lines", "costs", "plan", "outside", "wipe", "pad", "lend", "share"], [], true⟩) (N := n_Build___init__) (m := b_Build___init__) rfl rfl (tab_37 X Gn c) rfl rfl rfl (by decide +kernel) s_Build___init__ c_Build___init__ (bindsKw rfl) (fun j mk e hf => match j, e, hf with | 0, e, hf => (by cases e; exact absurd hf (by decide)) | 1, e, hf => (by cases e; exact absurd hf (by decide)) | 2, e, hf => (by cases e; exact ⟨by decide +kernel, mkd_2⟩) | 3, e, hf => (by cases e; exact ⟨by decide +kernel, mkd_3⟩) | _ + 4, e, hf => by cases e) (o_init (PL L_37) rfl rfl rfl rfl rfl rfl)
theorem tab_39 (X : K.In h) (Gn : h.Ns mainGlobals mg) (c : SaysZ fa dl B w K) : ∀ F0, Tab (G.at F0) B (PL L_39) 39 P w K mg base :=
  tab_next X Gn c.d (l := L_38) (s := sp_is_integer) (k := 0) (d := d_is_integer) (fn := ⟨("is_integer", none), ["thing"], [], false⟩) (N := n_is_integer) (m := b_is_integer) rfl rfl (tab_38 X Gn c) rfl rfl rfl (by decide +kernel) s_is_integer c_is_integer_pad38 (bindsD0 rfl rfl fun _ _ _ _ _ _ us hl => match us, hl with | [_], _ => rfl) (not_mks (by decide +kernel)) (o_is_integer (PL L_38))
theorem tab_40 (X : K.In h) (Gn : h.Ns mainGlobals mg) (c : SaysZ fa dl B w K) : ∀ F0, Tab (G.at F0) B (PL L_40) 40 P w K mg base :=
  tab_next X Gn c.d (l := L_39) (s := sp_is_integer) (k := 0) (d := d_is_integer) (fn := ⟨("is_integer", none), ["thing"], [], false⟩) (N := n_is_integer) (m := b_is_integer) rfl rfl (tab_39 X Gn c) rfl rfl rfl (by decide +kernel) s_is_integer c_is_integer_pad39 (bindsD0 rfl rfl fun _ _ _ _ _ _ us hl => match us, hl with | [_], _ => rfl) (not_mks (by decide +kernel)) (o_is_integer (PL L_39))
theorem tab_41 (X : K.In h) (Gn : h.Ns mainGlobals mg) (c : SaysZ fa dl B w K) : ∀ F0, Tab (G.at F0) B (PL L_41) 41 P w K mg base :=
  tab_next X Gn c.d (l := L_40) (s := sp_is_integer) (k := 0) (d := d_is_integer) (fn := ⟨("is_integer", none), ["thing"], [], false⟩) (N := n_is_integer) (m := b_is_integer) rfl rfl (tab_40 X Gn c) rfl rfl rfl (by decide +kernel) s_is_integer c_is_integer_pad40 (bindsD0 rfl rfl fun _ _ _ _ _ _ us hl => match us, hl with | [_], _ => rfl) (not_mks (by decide +kernel)) (o_is_integer (PL L_40))
theorem tab_42 (X : K.In h) (Gn : h.Ns mainGlobals mg) (c : SaysZ fa dl B w K) : ∀ F0, Tab (G.at F0) B (PL L_42) 42 P w K mg base :=
  tab_next X Gn c.d (l := L_41) (s := sp_is_integer) (k := 0) (d := d_is_integer) (fn := ⟨("is_integer", none), ["thing"], [], false⟩) (N := n_is_integer) (m := b_is_integer) rfl rfl (tab_41 X Gn c) rfl rfl rfl (by decide +kernel) s_is_integer c_is_integer_pad41 (bindsD0 rfl rfl fun _ _ _ _ _ _ us hl => match us, hl with | [_], _ => rfl) (not_mks (by decide +kernel)) (o_is_integer (PL L_41))
theorem tab_43 (X : K.In h) (Gn : h.Ns mainGlobals mg) (c : SaysZ fa dl B w K) : ∀ F0, Tab (G.at F0) B (PL L_43) 43 P w K mg base :=
  tab_next X Gn c.d (l := L_42) (s := sp_is_integer) (k := 0) (d := d_is_integer) (fn := ⟨("is_integer", none), ["thing"], [], false⟩) (N := n_is_integer) (m := b_is_integer) rfl rfl (tab_42 X Gn c) rfl rfl rfl (by decide +kernel) s_is_integer c_is_integer_pad42 (bindsD0 rfl rfl fun _ _ _ _ _ _ us hl => match us, hl with | [_], _ => rfl) (not_mks (by decide +kernel)) (o_is_integer (PL L_42))
theorem tab_44 (X : K.In h) (Gn : h.Ns mainGlobals mg) (c : SaysZ fa dl B w K) : ∀ F0, Tab (G.at F0) B (PL L_44) 44 P w K mg base :=
  tab_next X Gn c.d (l := L_43) (s := sp_is_integer) (k := 0) (d := d_is_integer) (fn := ⟨("is_integer", none), ["thing"], [], false⟩) (N := n_is_integer) (m := b_is_integer) rfl rfl (tab_43 X Gn c) rfl rfl rfl (by decide +kernel) s_is_integer c_is_integer_pad43 (bindsD0 rfl rfl fun _ _ _ _ _ _ us hl => match us, hl with | [_], _ => rfl) (not_mks (by decide +kernel)) (o_is_integer (PL L_43))
theorem tab_45 (X : K.In h) (Gn : h.Ns mainGlobals mg) (c : SaysZ fa dl B w K) : ∀ F0, Tab (G.at F0) B (PL L_45) 45 P w K mg base :=
  tab_next X Gn c.d (l := L_44) (s := sp_is_integer) (k := 0) (d := d_is_integer) (fn := ⟨("is_integer", none), ["thing"], [], false⟩) (N := n_is_integer) (m := b_is_integer) rfl rfl (tab_44 X Gn c) rfl rfl rfl (by decide +kernel) s_is_integer c_is_integer_pad44 (bindsD0 rfl rfl fun _ _ _ _ _ _ us hl => match us, hl with | [_], _ => rfl) (not_mks (by decide +kernel)) (o_is_integer (PL L_44))
theorem tab_46 (X : K.In h) (Gn : h.Ns mainGlobals mg) (c : SaysZ fa dl B w K) : ∀ F0, Tab (G.at F0) B (PL L_46) 46 P w K mg base :=
  tab_next X Gn c.d (l := L_45) (s := sp_is_integer) (k := 0) (d := d_is_integer) (fn := ⟨("is_integer", none), ["thing"], [], false⟩) (N := n_is_integer) (m := b_is_integer) rfl rfl (tab_45 X Gn c) rfl rfl rfl (by decide +kernel) s_is_integer c_is_integer_pad45 (bindsD0 rfl rfl fun _ _ _ _ _ _ us hl => match us, hl with | [_], _ => rfl) (not_mks (by decide +kernel)) (o_is_integer (PL L_45))
theorem tab_47 (X : K.In h) (Gn : h.Ns mainGlobals mg) (c : SaysZ fa dl B w K) : ∀ F0, Tab (G.at F0) B (PL L_47) 47 P w K mg base :=
  tab_next X Gn c.d (l := L_46) (s := sp_is_integer) (k := 0) (d := d_is_integer) (fn := ⟨("is_integer", none), ["thing"], [], false⟩) (N := n_is_integer) (m := b_is_integer) rfl rfl (tab_46 X Gn c) rfl rfl rfl (by decide +kernel) s_is_integer c_is_integer_pad46 (bindsD0 rfl rfl fun _ _ _ _ _ _ us hl => match us, hl with | [_], _ => rfl) (not_mks (by decide +kernel)) (o_is_integer (PL L_46))
theorem tab_48 (X : K.In h) (Gn : h.Ns mainGlobals mg) (c : SaysZ fa dl B w K) : ∀ F0, Tab (G.at F0) B (PL L_48) 48 P w K mg base :=
  tab_next X Gn c.d (l := L_47) (s := sp_is_integer) (k := 0) (d := d_is_integer) (fn := ⟨("is_integer", none), ["thing"], [], false⟩) (N := n_is_integer) (m := b_is_integer) rfl rfl (tab_47 X Gn c) rfl rfl rfl (by decide +kernel) s_is_integer c_is_integer_pad47 (bindsD0 rfl rfl fun _ _ _ _ _ _ us hl => match us, hl with | [_], _ => rfl) (not_mks (by decide +kernel)) (o_is_integer (PL L_47))
theorem tab_49 (X : K.In h) (Gn : h.Ns mainGlobals mg) (c : SaysZ fa dl B w K) : ∀ F0, Tab (G.at F0) B (PL L_49) 49 P w K mg base :=
  tab_next X Gn c.d (l := L_48) (s := sp_is_integer) (k := 0) (d := d_is_integer) (fn := ⟨("is_integer", none), ["thing"], [], false⟩) (N := n_is_integer) (m := b_is_integer) rfl rfl (tab_48 X Gn c) rfl rfl rfl (by decide +kernel) s_is_integer c_is_integer_pad48 (bindsD0 rfl rfl fun _ _ _ _ _ _ us hl => match us, hl with | [_], _ => rfl) (not_mks (by decide +kernel)) (o_is_integer (PL L_48))
theorem tab_50 (X : K.In h) (Gn : h.Ns mainGlobals mg) (c : SaysZ fa dl B w K) : ∀ F0, Tab (G.at F0) B (PL L_50) 50 P w K mg base :=
  tab_next X Gn c.d (l := L_49) (s := sp_is_integer) (k := 0) (d := d_is_integer) (fn := ⟨("is_integer", none), ["thing"], [], false⟩) (N := n_is_integer) (m := b_is_integer) rfl rfl (tab_49 X Gn c) rfl rfl rfl (by decide +kernel) s_is_integer c_is_integer_pad49 (bindsD0 rfl rfl fun _ _ _ _ _ _ us hl => match us, hl with | [_], _ => rfl) (not_mks (by decide +kernel)) (o_is_integer (PL L_49))
theorem tab_51 (X : K.In h) (Gn : h.Ns mainGlobals mg) (c : SaysZ fa dl B w K) : ∀ F0, Tab (G.at F0) B (PL L_51) 51 P w K mg base :=
  tab_next X Gn c.d (l := L_50) (s := sp_is_integer) (k := 0) (d := d_is_integer) (fn := ⟨("is_integer", none), ["thing"], [], false⟩) (N := n_is_integer) (m := b_is_integer) rfl rfl (tab_50 X Gn c) rfl rfl rfl (by decide +kernel) s_is_integer c_is_integer_pad50 (bindsD0 rfl rfl fun _ _ _ _ _ _ us hl => match us, hl with | [_], _ => rfl) (not_mks (by decide +kernel)) (o_is_integer (PL L_50))
theorem tab_52 (X : K.In h) (Gn : h.Ns mainGlobals mg) (c : SaysZ fa dl B w K) : ∀ F0, Tab (G.at F0) B (PL L_52) 52 P w K mg base :=
  tab_next X Gn c.d (l := L_51) (s := sp_is_integer) (k := 0) (d := d_is_integer) (fn := ⟨("is_integer", none), ["thing"], [], false⟩) (N := n_is_integer) (m := b_is_integer) rfl rfl (tab_51 X Gn c) rfl rfl rfl (by decide +kernel) s_is_integer c_is_integer_pad51 (bindsD0 rfl rfl fun _ _ _ _ _ _ us hl => match us, hl with | [_], _ => rfl) (not_mks (by decide +kernel)) (o_is_integer (PL L_51))
theorem tab_53 (X : K.In h) (Gn : h.Ns mainGlobals mg) (c : SaysZ fa dl B w K) : ∀ F0, Tab (G.at F0) B (PL L_53) 53 P w K mg base :=
  tab_next X Gn c.d (l := L_52) (s := sp_is_integer) (k := 0) (d := d_is_integer) (fn := ⟨("is_integer", none), ["thing"], [], false⟩) (N := n_is_integer) (m := b_is_integer) rfl rfl (tab_52 X Gn c) rfl rfl rfl (by decide +kernel) s_is_integer c_is_integer_pad52 (bindsD0 rfl rfl fun _ _ _ _ _ _ us hl => match us, hl with | [_], _ => rfl) (not_mks (by decide +kernel)) (o_is_integer (PL L_52))
theorem tab_54 (X : K.In h) (Gn : h.Ns mainGlobals mg) (c : SaysZ fa dl B w K) : ∀ F0, Tab (G.at F0) B (PL L_54) 54 P w K mg base :=
  tab_next X Gn c.d (l := L_53) (s := sp_is_integer) (k := 0) (d := d_is_integer) (fn := ⟨("is_integer", none), ["thing"], [], false⟩) (N := n_is_integer) (m := b_is_integer) rfl rfl (tab_53 X Gn c) rfl rfl rfl (by decide +kernel) s_is_integer c_is_integer_pad53 (bindsD0 rfl rfl fun _ _ _ _ _ _ us hl => match us, hl with | [_], _ => rfl) (not_mks (by decide +kernel)) (o_is_integer (PL L_53))
theorem tab_55 (X : K.In h) (Gn : h.Ns mainGlobals mg) (c : SaysZ fa dl B w K) : ∀ F0, Tab (G.at F0) B (PL L_55) 55 P w K mg base :=
  tab_next X Gn c.d (l := L_54) (s := sp_is_integer) (k := 0) (d := d_is_integer) (fn := ⟨("is_integer", none), ["thing"], [], false⟩) (N := n_is_integer) (m := b_is_integer) rfl rfl (tab_54 X Gn c) rfl rfl rfl (by decide +kernel) s_is_integer c_is_integer_pad54 (bindsD0 rfl rfl fun _ _ _ _ _ _ us hl => match us, hl with | [_], _ => rfl) (not_mks (by decide +kernel)) (o_is_integer (PL L_54))
theorem tab_56 (X : K.In h) (Gn : h.Ns mainGlobals mg) (c : SaysZ fa dl B w K) : ∀ F0, Tab (G.at F0) B (PL L_56) 56 P w K mg base :=
  tab_next X Gn c.d (l := L_55) (s := sp_work) (k := 34) (d := d_Work___init__) (fn := ⟨("Work", some "__init__"), ["self", "build", "shape"], [], false⟩) (N := n_Work___init__) (m := b_Work___init__) rfl rfl (tab_55 X Gn c) rfl rfl rfl (by decide +kernel) s_Work___init__ c_Work___init__ (bindsD0 rfl rfl fun _ _ _ _ _ _ us hl => match us, hl with | [_, _, _], _ => rfl) (fun j mk e hf => match j, e, hf with | 0, e, hf => (by cases e; exact ⟨by decide +kernel, mkd_0⟩) | 1, e, hf => (by cases e; exact absurd hf (by decide)) | 2, e, hf => (by cases e; exact absurd hf (by decide)) | 3, e, hf => (by cases e; exact absurd hf (by decide)) | _ + 4, e, hf => by cases e) (o_work (PL L_55) )
theorem tab_57 (X : K.In h) (Gn : h.Ns mainGlobals mg) (c : SaysZ fa dl B w K) : ∀ F0, Tab (G.at F0) B (PL L_57) 57 P w K mg base :=
  tab_next X Gn c.d (l := L_56) (s := sp_is_integer) (k := 0) (d := d_is_integer) (fn := ⟨("is_integer", none), ["thing"], [], false⟩) (N := n_is_integer) (m := b_is_integer) rfl rfl (tab_56 X Gn c) rfl rfl rfl (by decide +kernel) s_is_integer c_is_integer_pad56 (bindsD0 rfl rfl fun _ _ _ _ _ _ us hl => match us, hl with | [_], _ => rfl) (not_mks (by decide +kernel)) (o_is_integer (PL L_56))
theorem tab_58 (X : K.In h) (Gn : h.Ns mainGlobals mg) (c : SaysZ fa dl B w K) : ∀ F0, Tab (G.at F0) B (PL L_58) 58 P w K mg base :=
  tab_next X Gn c.d (l := L_57) (s := sp_wake) (k := 35) (d := d_Work_wake) (fn := ⟨("Work", some "wake"), ["self", "task", "answer"], [], false⟩) (N := n_Work_wake) (m := b_Work_wake) rfl rfl (tab_57 X Gn c) rfl rfl rfl (by decide +kernel) s_Work_wake c_Work_wake (bindsD0 rfl rfl fun _ _ _ _ _ _ us hl => match us, hl with | [_, _, _], _ => rfl) (not_mks (by decide +kernel)) (o_wake (PL L_57) )
theorem tab_59 (X : K.In h) (Gn : h.Ns mainGlobals mg) (c : SaysZ fa dl B w K) : ∀ F0, Tab (G.at F0) B (PL L_59) 59 P w K mg base :=
  tab_next X Gn c.d (l := L_58) (s := sp_ready) (k := 36) (d := d_Work_ready_tasks) (fn := ⟨("Work", some "ready_tasks"), ["self"], [], false⟩) (N := n_Work_ready_tasks) (m := b_Work_ready_tasks) rfl rfl (tab_58 X Gn c) rfl rfl rfl (by decide +kernel) s_Work_ready_tasks c_Work_ready_tasks (bindsD0 rfl rfl fun _ _ _ _ _ _ us hl => match us, hl with | [_], _ => rfl) (not_mks (by decide +kernel)) (o_ready (PL L_58) )
theorem tab_60 (X : K.In h) (Gn : h.Ns mainGlobals mg) (c : SaysZ fa dl B w K) : ∀ F0, Tab (G.at F0) B (PL L_60) 60 P w K mg base :=
  tab_next X Gn c.d (l := L_59) (s := sp_firstW) (k := 37) (d := d_Work_first_waiting) (fn := ⟨("Work", some "first_waiting"), ["self", "port"], [], false⟩) (N := n_Work_first_waiting) (m := b_Work_first_waiting) rfl rfl (tab_59 X Gn c) rfl rfl rfl (by decide +kernel) s_Work_first_waiting c_Work_first_waiting (bindsD0 rfl rfl fun _ _ _ _ _ _ us hl => match us, hl with | [_, _], _ => rfl) (not_mks (by decide +kernel)) (o_firstW (PL L_59) )
theorem tab_61 (X : K.In h) (Gn : h.Ns mainGlobals mg) (c : SaysZ fa dl B w K) : ∀ F0, Tab (G.at F0) B (PL L_61) 61 P w K mg base :=
  tab_next X Gn c.d (l := L_60) (s := sp_shape) (k := 38) (d := d_Work_shape_now) (fn := ⟨("Work", some "shape_now"), ["self"], [], false⟩) (N := n_Work_shape_now) (m := b_Work_shape_now) rfl rfl (tab_60 X Gn c) rfl rfl rfl (by decide +kernel) s_Work_shape_now c_Work_shape_now (bindsD0 rfl rfl fun _ _ _ _ _ _ us hl => match us, hl with | [_], _ => rfl) (not_mks (by decide +kernel)) (o_shape (PL L_60) )
theorem tab_62 (X : K.In h) (Gn : h.Ns mainGlobals mg) (c : SaysZ fa dl B w K) : ∀ F0, Tab (G.at F0) B (PL L_62) 62 P w K mg base :=
  tab_next X Gn c.d (l := L_61) (s := sp_deliver) (k := 10) (d := d_deliver) (fn := ⟨("deliver", none), ["work", "port", "letter"], [], false⟩) (N := n_deliver) (m := b_deliver) rfl rfl (tab_61 X Gn c) rfl rfl rfl (by decide +kernel) s_deliver c_deliver (bindsD0 rfl rfl fun _ _ _ _ _ _ us hl => match us, hl with | [_, _, _], _ => rfl) (not_mks (by decide +kernel)) (o_deliver (PL L_61) rfl rfl)
theorem tab_63 (X : K.In h) (Gn : h.Ns mainGlobals mg) (c : SaysZ fa dl B w K) : ∀ F0, Tab (G.at F0) B (PL L_63) 63 P w K mg base :=
  tab_next X Gn c.d (l := L_62) (s := sp_sleep_on) (k := 11) (d := d_sleep_on) (fn := ⟨("sleep_on", none), ["work"], [], false⟩) (N := n_sleep_on) (m := b_sleep_on) rfl rfl (tab_62 X Gn c) rfl rfl rfl (by decide +kernel) s_sleep_on c_sleep_on (bindsD0 rfl rfl fun _ _ _ _ _ _ us hl => match us, hl with | [_], _ => rfl) (not_mks (by decide +kernel)) (o_sleep_on (PL L_62) rfl)
theorem tab_64 (X : K.In h) (Gn : h.Ns mainGlobals mg) (c : SaysZ fa dl B w K) : ∀ F0, Tab (G.at F0) B (PL L_64) 64 P w K mg base :=
  tab_next X Gn c.d (l := L_63) (s := sp_cost) (k := 12) (d := d_call_cost) (fn := ⟨("call_cost", none), ["work", "task", "call"], [], false⟩) (N := n_call_cost) (m := b_call_cost) rfl rfl (tab_63 X Gn c) rfl rfl rfl (by decide +kernel) s_call_cost c_call_cost (bindsD0 rfl rfl fun _ _ _ _ _ _ us hl => match us, hl with | [_, _, _], _ => rfl) (not_mks (by decide +kernel)) (o_cost (PL L_63) )
theorem tab_65 (X : K.In h) (Gn : h.Ns mainGlobals mg) (c : SaysZ fa dl B w K) : ∀ F0, Tab (G.at F0) B (PL L_65) 65 P w K mg base :=
  tab_next X Gn c.d (l := L_64) (s := (sp_page isPage)) (k := 13) (d := d_page_answer) (fn := ⟨("page_answer", none), ["work", "task", "call"], [], false⟩) (N := n_page_answer) (m := b_page_answer) rfl rfl (tab_64 X Gn c) rfl rfl rfl (by decide +kernel) s_page_answer c_page_answer (bindsD0 rfl rfl fun _ _ _ _ _ _ us hl => match us, hl with | [_, _, _], _ => rfl) (not_mks (by decide +kernel)) (o_page (PL L_64) )
theorem tab_66 (X : K.In h) (Gn : h.Ns mainGlobals mg) (c : SaysZ fa dl B w K) : ∀ F0, Tab (G.at F0) B (PL L_66) 66 P w K mg base :=
  tab_next X Gn c.d (l := L_65) (s := (sp_page isSend)) (k := 14) (d := d_send_answer) (fn := ⟨("send_answer", none), ["work", "task", "call"], [], false⟩) (N := n_send_answer) (m := b_send_answer) rfl rfl (tab_65 X Gn c) rfl rfl rfl (by decide +kernel) s_send_answer c_send_answer (bindsD0 rfl rfl fun _ _ _ _ _ _ us hl => match us, hl with | [_, _, _], _ => rfl) (not_mks (by decide +kernel)) (o_send (PL L_65) rfl rfl)
theorem tab_67 (X : K.In h) (Gn : h.Ns mainGlobals mg) (c : SaysZ fa dl B w K) : ∀ F0, Tab (G.at F0) B (PL L_67) 67 P w K mg base :=
  tab_next X Gn c.d (l := L_66) (s := (sp_page isTake)) (k := 15) (d := d_take_answer) (fn := ⟨("take_answer", none), ["work", "task", "call"], [], false⟩) (N := n_take_answer) (m := b_take_answer) rfl rfl (tab_66 X Gn c) rfl rfl rfl (by decide +kernel) s_take_answer c_take_answer (bindsD0 rfl rfl fun _ _ _ _ _ _ us hl => match us, hl with | [_, _, _], _ => rfl) (not_mks (by decide +kernel)) (o_take (PL L_66) )
theorem tab_68 (X : K.In h) (Gn : h.Ns mainGlobals mg) (c : SaysZ fa dl B w K) : ∀ F0, Tab (G.at F0) B (PL L_68) 68 P w K mg base :=
  tab_next X Gn c.d (l := L_67) (s := (sp_page isLock)) (k := 16) (d := d_lock_answer) (fn := ⟨("lock_answer", none), ["work", "task", "call"], [], false⟩) (N := n_lock_answer) (m := b_lock_answer) rfl rfl (tab_67 X Gn c) rfl rfl rfl (by decide +kernel) s_lock_answer c_lock_answer (bindsD0 rfl rfl fun _ _ _ _ _ _ us hl => match us, hl with | [_, _, _], _ => rfl) (not_mks (by decide +kernel)) (o_lock (PL L_67) )
theorem tab_69 (X : K.In h) (Gn : h.Ns mainGlobals mg) (c : SaysZ fa dl B w K) : ∀ F0, Tab (G.at F0) B (PL L_69) 69 P w K mg base :=
  tab_next X Gn c.d (l := L_68) (s := (sp_page isFree)) (k := 17) (d := d_free_answer) (fn := ⟨("free_answer", none), ["work", "task", "call"], [], false⟩) (N := n_free_answer) (m := b_free_answer) rfl rfl (tab_68 X Gn c) rfl rfl rfl (by decide +kernel) s_free_answer c_free_answer (bindsD0 rfl rfl fun _ _ _ _ _ _ us hl => match us, hl with | [_, _, _], _ => rfl) (not_mks (by decide +kernel)) (o_free (PL L_68) rfl)
theorem tab_70 (X : K.In h) (Gn : h.Ns mainGlobals mg) (c : SaysZ fa dl B w K) : ∀ F0, Tab (G.at F0) B (PL L_70) 70 P w K mg base :=
  tab_next X Gn c.d (l := L_69) (s := bot) (k := 18) (d := d_hand_answer) (fn := ⟨("hand_answer", none), ["work", "task", "call"], [], false⟩) (N := n_hand_answer) (m := b0_hand_answer) rfl rfl (tab_69 X Gn c) rfl rfl rfl (by decide +kernel) s_hand_answer c_hand_answer (bindsD0 rfl rfl fun _ _ _ _ _ _ us hl => match us, hl with | [_, _, _], _ => rfl) (not_mks (by decide +kernel)) (fun _ _ _ _ h => False.elim h)
theorem tab_71 (X : K.In h) (Gn : h.Ns mainGlobals mg) (c : SaysZ fa dl B w K) : ∀ F0, Tab (G.at F0) B (PL L_71) 71 P w K mg base :=
  tab_next X Gn c.d (l := L_70) (s := bot) (k := 19) (d := d_strip_answer) (fn := ⟨("strip_answer", none), ["work", "task", "call"], [], false⟩) (N := n_strip_answer) (m := b0_strip_answer) rfl rfl (tab_70 X Gn c) rfl rfl rfl (by decide +kernel) s_strip_answer c_strip_answer (bindsD0 rfl rfl fun _ _ _ _ _ _ us hl => match us, hl with | [_, _, _], _ => rfl) (not_mks (by decide +kernel)) (fun _ _ _ _ h => False.elim h)
theorem tab_72 (X : K.In h) (Gn : h.Ns mainGlobals mg) (c : SaysZ fa dl B w K) : ∀ F0, Tab (G.at F0) B (PL L_72) 72 P w K mg base :=
  tab_next X Gn c.d (l := L_71) (s := (sp_page isSeek)) (k := 20) (d := d_seek_answer) (fn := ⟨("seek_answer", none), ["work", "task", "call"], [], false⟩) (N := n_seek_answer) (m := b_seek_answer) rfl rfl (tab_71 X Gn c) rfl rfl rfl (by decide +kernel) s_seek_answer c_seek_answer (bindsD0 rfl rfl fun _ _ _ _ _ _ us hl => match us, hl with | [_, _, _], _ => rfl) (not_mks (by decide +kernel)) (o_seek (PL L_71) )
theorem tab_73 (X : K.In h) (Gn : h.Ns mainGlobals mg) (c : SaysZ fa dl B w K) : ∀ F0, Tab (G.at F0) B (PL L_73) 73 P w K mg base :=
  tab_next X Gn c.d (l := L_72) (s := sp_get_) (k := 21) (d := d_get_answer) (fn := ⟨("get_answer", none), ["work", "task"], [], false⟩) (N := n_get_answer) (m := b_get_answer) rfl rfl (tab_72 X Gn c) rfl rfl rfl (by decide +kernel) s_get_answer c_get_answer (bindsD0 rfl rfl fun _ _ _ _ _ _ us hl => match us, hl with | [_, _], _ => rfl) (not_mks (by decide +kernel)) (o_get (PL L_72) )
theorem tab_74 (X : K.In h) (Gn : h.Ns mainGlobals mg) (c : SaysZ fa dl B w K) : ∀ F0, Tab (G.at F0) B (PL L_74) 74 P w K mg base :=
  tab_next X Gn c.d (l := L_73) (s := sp_give) (k := 22) (d := d_give_answer) (fn := ⟨("give_answer", none), ["work", "task"], [], false⟩) (N := n_give_answer) (m := b_give_answer) rfl rfl (tab_73 X Gn c) rfl rfl rfl (by decide +kernel) s_give_answer c_give_answer (bindsD0 rfl rfl fun _ _ _ _ _ _ us hl => match us, hl with | [_, _], _ => rfl) (not_mks (by decide +kernel)) (o_give (PL L_73) )
theorem tab_75 (X : K.In h) (Gn : h.Ns mainGlobals mg) (c : SaysZ fa dl B w K) : ∀ F0, Tab (G.at F0) B (PL L_75) 75 P w K mg base :=
  tab_next X Gn c.d (l := L_74) (s := (sp_page isObj)) (k := 23) (d := d_object_answer) (fn := ⟨("object_answer", none), ["work", "task", "call"], [], false⟩) (N := n_object_answer) (m := b_object_answer) rfl rfl (tab_74 X Gn c) rfl rfl rfl (by decide +kernel) s_object_answer c_object_answer (bindsD0 rfl rfl fun _ _ _ _ _ _ us hl => match us, hl with | [_, _, _], _ => rfl) (not_mks (by decide +kernel)) (o_object (PL L_74) rfl rfl rfl rfl rfl)
theorem tab_76 (X : K.In h) (Gn : h.Ns mainGlobals mg) (c : SaysZ fa dl B w K) : ∀ F0, Tab (G.at F0) B (PL L_76) 76 P w K mg base :=
  tab_next X Gn c.d (l := L_75) (s := (sp_page Cl.plain)) (k := 24) (d := d_answer_of) (fn := ⟨("answer_of", none), ["work", "task", "call"], [], false⟩) (N := n_answer_of) (m := b_answer_of) rfl rfl (tab_75 X Gn c) rfl rfl rfl (by decide +kernel) s_answer_of c_answer_of (bindsD0 rfl rfl fun _ _ _ _ _ _ us hl => match us, hl with | [_, _, _], _ => rfl) (not_mks (by decide +kernel)) (o_answer (PL L_75) rfl rfl rfl rfl)
theorem tab_77 (X : K.In h) (Gn : h.Ns mainGlobals mg) (c : SaysZ fa dl B w K) : ∀ F0, Tab (G.at F0) B (PL L_77) 77 P w K mg base :=
  tab_next X Gn c.d (l := L_76) (s := sp_make_call) (k := 25) (d := d_make_call) (fn := ⟨("make_call", none), ["work", "task", "call"], [], false⟩) (N := n_make_call) (m := b_make_call) rfl rfl (tab_76 X Gn c) rfl rfl rfl (by decide +kernel) s_make_call c_make_call (bindsD0 rfl rfl fun _ _ _ _ _ _ us hl => match us, hl with | [_, _, _], _ => rfl) (not_mks (by decide +kernel)) (o_make_call (PL L_76) rfl rfl)
theorem tab_78 (X : K.In h) (Gn : h.Ns mainGlobals mg) (c : SaysZ fa dl B w K) : ∀ F0, Tab (G.at F0) B (PL L_78) 78 P w K mg base :=
  tab_next X Gn c.d (l := L_77) (s := sp_slot_at) (k := 26) (d := d_slot_at) (fn := ⟨("slot_at", none), ["build", "phase"], [], false⟩) (N := n_slot_at) (m := b_slot_at) rfl rfl (tab_77 X Gn c) rfl rfl rfl (by decide +kernel) s_slot_at c_slot_at (bindsD0 rfl rfl fun _ _ _ _ _ _ us hl => match us, hl with | [_, _], _ => rfl) (not_mks (by decide +kernel)) (o_slot_at (PL L_77) )
theorem tab_79 (X : K.In h) (Gn : h.Ns mainGlobals mg) (c : SaysZ fa dl B w K) : ∀ F0, Tab (G.at F0) B (PL L_79) 79 P w K mg base :=
  tab_next X Gn c.d (l := L_78) (s := bot) (k := 27) (d := d_lenders) (fn := ⟨("lenders", none), ["work", "task"], [], false⟩) (N := n_lenders) (m := b0_lenders) rfl rfl (tab_78 X Gn c) rfl rfl rfl (by decide +kernel) s_lenders c_lenders (bindsD0 rfl rfl fun _ _ _ _ _ _ us hl => match us, hl with | [_, _], _ => rfl) (not_mks (by decide +kernel)) (fun _ _ _ _ h => False.elim h)
theorem tab_80 (X : K.In h) (Gn : h.Ns mainGlobals mg) (c : SaysZ fa dl B w K) : ∀ F0, Tab (G.at F0) B (PL L_80) 80 P w K mg base :=
  tab_next X Gn c.d (l := L_79) (s := bot) (k := 28) (d := d_level_of) (fn := ⟨("level_of", none), ["work", "task"], [], false⟩) (N := n_level_of) (m := b0_level_of) rfl rfl (tab_79 X Gn c) rfl rfl rfl (by decide +kernel) s_level_of c_level_of (bindsD0 rfl rfl fun _ _ _ _ _ _ us hl => match us, hl with | [_, _], _ => rfl) (not_mks (by decide +kernel)) (fun _ _ _ _ h => False.elim h)
theorem tab_81 (X : K.In h) (Gn : h.Ns mainGlobals mg) (c : SaysZ fa dl B w K) : ∀ F0, Tab (G.at F0) B (PL L_81) 81 P w K mg base :=
  tab_next X Gn c.d (l := L_80) (s := sp_change) (k := 29) (d := d_change) (fn := ⟨("change", none), ["work", "task"], [], false⟩) (N := n_change) (m := b_change) rfl rfl (tab_80 X Gn c) rfl rfl rfl (by decide +kernel) s_change c_change (bindsD0 rfl rfl fun _ _ _ _ _ _ us hl => match us, hl with | [_, _], _ => rfl) (not_mks (by decide +kernel)) (o_change (PL L_80) )
theorem tab_82 (X : K.In h) (Gn : h.Ns mainGlobals mg) (c : SaysZ fa dl B w K) : ∀ F0, Tab (G.at F0) B (PL L_82) 82 P w K mg base :=
  tab_next X Gn c.d (l := L_81) (s := bot) (k := 30) (d := d_chosen_candidate) (fn := ⟨("chosen_candidate", none), ["candidates", "runner"], [], false⟩) (N := n_chosen_candidate) (m := b0_chosen_candidate) rfl rfl (tab_81 X Gn c) rfl rfl rfl (by decide +kernel) s_chosen_candidate c_chosen_candidate (bindsD0 rfl rfl fun _ _ _ _ _ _ us hl => match us, hl with | [_, _], _ => rfl) (not_mks (by decide +kernel)) (fun _ _ _ _ h => False.elim h)
theorem tab_83 (X : K.In h) (Gn : h.Ns mainGlobals mg) (c : SaysZ fa dl B w K) : ∀ F0, Tab (G.at F0) B (PL L_83) 83 P w K mg base :=
  tab_next X Gn c.d (l := L_82) (s := bot) (k := 31) (d := d_turn_by_levels) (fn := ⟨("turn_by_levels", none), ["work"], [], false⟩) (N := n_turn_by_levels) (m := b0_turn_by_levels) rfl rfl (tab_82 X Gn c) rfl rfl rfl (by decide +kernel) s_turn_by_levels c_turn_by_levels (bindsD0 rfl rfl fun _ _ _ _ _ _ us hl => match us, hl with | [_], _ => rfl) (not_mks (by decide +kernel)) (fun _ _ _ _ h => False.elim h)
theorem tab_84 (X : K.In h) (Gn : h.Ns mainGlobals mg) (c : SaysZ fa dl B w K) : ∀ F0, Tab (G.at F0) B (PL L_84) 84 P w K mg base :=
  tab_next X Gn c.d (l := L_83) (s := sp_by_slots) (k := 32) (d := d_turn_by_slots) (fn := ⟨("turn_by_slots", none), ["work"], [], false⟩) (N := n_turn_by_slots) (m := b_turn_by_slots) rfl rfl (tab_83 X Gn c) rfl rfl rfl (by decide +kernel) s_turn_by_slots c_turn_by_slots (bindsD0 rfl rfl fun _ _ _ _ _ _ us hl => match us, hl with | [_], _ => rfl) (not_mks (by decide +kernel)) (o_by_slots (PL L_83) rfl rfl)
theorem tab_85 (X : K.In h) (Gn : h.Ns mainGlobals mg) (c : SaysZ fa dl B w K) : ∀ F0, Tab (G.at F0) B (PL L_85) 85 P w K mg base :=
  tab_next X Gn c.d (l := L_84) (s := (sp_turn (fun p => isLevels p.pl = false))) (k := 33) (d := d_turn) (fn := ⟨("turn", none), ["work"], [], false⟩) (N := n_turn) (m := b_turn) rfl rfl (tab_84 X Gn c) rfl rfl rfl (by decide +kernel) s_turn c_turn (bindsD0 rfl rfl fun _ _ _ _ _ _ us hl => match us, hl with | [_], _ => rfl) (not_mks (by decide +kernel)) (o_turn (PL L_84) rfl (fun p => isLevels p.pl = false) (fun ⟨_, h1, h2⟩ => absurd (Eq.trans (Eq.symm h1) h2) Bool.false_ne_true))
theorem tab_86 (X : K.In h) (Gn : h.Ns mainGlobals mg) (c : SaysZ fa dl B w K) : ∀ F0, Tab (G.at F0) B (PL L_86) 86 P w K mg base :=
  tab_next X Gn c.d (l := L_85) (s := (sp_opened (fun p => isLevels p.pl = false))) (k := 39) (d := d_opened) (fn := ⟨("opened", none), ["build", "shape", "outside"], [], false⟩) (N := n_opened) (m := b_opened) rfl rfl (tab_85 X Gn c) rfl rfl rfl (by decide +kernel) s_opened c_opened (bindsD0 rfl rfl fun _ _ _ _ _ _ us hl => match us, hl with | [_, _, _], _ => rfl) (not_mks (by decide +kernel)) (o_opened (PL L_85) rfl rfl rfl (fun p => isLevels p.pl = false) rfl)
theorem tab_87 (X : K.In h) (Gn : h.Ns mainGlobals mg) (c : SaysZ fa dl B w K) : ∀ F0, Tab (G.at F0) B (PL L_87) 87 P w K mg base :=
  tab_next X Gn c.d (l := L_86) (s := sp_closed) (k := 40) (d := d_closed) (fn := ⟨("closed", none), ["work", "task", "call"], [], false⟩) (N := n_closed) (m := b_closed) rfl rfl (tab_86 X Gn c) rfl rfl rfl (by decide +kernel) s_closed c_closed (bindsD0 rfl rfl fun _ _ _ _ _ _ us hl => match us, hl with | [_, _, _], _ => rfl) (not_mks (by decide +kernel)) (o_closed (PL L_86) rfl rfl)
theorem tab_88 (X : K.In h) (Gn : h.Ns mainGlobals mg) (c : SaysZ fa dl B w K) : ∀ F0, Tab (G.at F0) B (PL L_88) 88 P w K mg base :=
  tab_next X Gn c.d (l := L_87) (s := sp_is_integer) (k := 0) (d := d_is_integer) (fn := ⟨("is_integer", none), ["thing"], [], false⟩) (N := n_is_integer) (m := b_is_integer) rfl rfl (tab_87 X Gn c) rfl rfl rfl (by decide +kernel) s_is_integer c_is_integer_pad87 (bindsD0 rfl rfl fun _ _ _ _ _ _ us hl => match us, hl with | [_], _ => rfl) (not_mks (by decide +kernel)) (o_is_integer (PL L_87))
theorem tab_89 (X : K.In h) (Gn : h.Ns mainGlobals mg) (c : SaysZ fa dl B w K) : ∀ F0, Tab (G.at F0) B (PL L_89) 89 P w K mg base :=
  tab_next X Gn c.d (l := L_88) (s := sp_is_integer) (k := 0) (d := d_is_integer) (fn := ⟨("is_integer", none), ["thing"], [], false⟩) (N := n_is_integer) (m := b_is_integer) rfl rfl (tab_88 X Gn c) rfl rfl rfl (by decide +kernel) s_is_integer c_is_integer_pad88 (bindsD0 rfl rfl fun _ _ _ _ _ _ us hl => match us, hl with | [_], _ => rfl) (not_mks (by decide +kernel)) (o_is_integer (PL L_88))
theorem tab_90 (X : K.In h) (Gn : h.Ns mainGlobals mg) (c : SaysZ fa dl B w K) : ∀ F0, Tab (G.at F0) B (PL L_90) 90 P w K mg base :=
  tab_next X Gn c.d (l := L_89) (s := sp_minit) (k := 41) (d := d_Moment___init__) (fn := ⟨("Moment", some "__init__"), ["self", "build", "shape"], [], false⟩) (N := n_Moment___init__) (m := b_Moment___init__) rfl rfl (tab_89 X Gn c) rfl rfl rfl (by decide +kernel) s_Moment___init__ c_Moment___init__ (bindsD0 rfl rfl fun _ _ _ _ _ _ us hl => match us, hl with | [_, _, _], _ => rfl) (fun j mk e hf => match j, e, hf with | 0, e, hf => (by cases e; exact absurd hf (by decide)) | 1, e, hf => (by cases e; exact ⟨by decide +kernel, mkd_1⟩) | 2, e, hf => (by cases e; exact absurd hf (by decide)) | 3, e, hf => (by cases e; exact absurd hf (by decide)) | _ + 4, e, hf => by cases e) (o_minit (PL L_89) )
theorem tab_91 (X : K.In h) (Gn : h.Ns mainGlobals mg) (c : SaysZ fa dl B w K) : ∀ F0, Tab (G.at F0) B (PL L_91) 91 P w K mg base :=
  tab_next X Gn c.d (l := L_90) (s := sp_is_integer) (k := 0) (d := d_is_integer) (fn := ⟨("is_integer", none), ["thing"], [], false⟩) (N := n_is_integer) (m := b_is_integer) rfl rfl (tab_90 X Gn c) rfl rfl rfl (by decide +kernel) s_is_integer c_is_integer_pad90 (bindsD0 rfl rfl fun _ _ _ _ _ _ us hl => match us, hl with | [_], _ => rfl) (not_mks (by decide +kernel)) (o_is_integer (PL L_90))
theorem tab_92 (X : K.In h) (Gn : h.Ns mainGlobals mg) (c : SaysZ fa dl B w K) : ∀ F0, Tab (G.at F0) B (PL L_92) 92 P w K mg base :=
  tab_next X Gn c.d (l := L_91) (s := sp_is_integer) (k := 0) (d := d_is_integer) (fn := ⟨("is_integer", none), ["thing"], [], false⟩) (N := n_is_integer) (m := b_is_integer) rfl rfl (tab_91 X Gn c) rfl rfl rfl (by decide +kernel) s_is_integer c_is_integer_pad91 (bindsD0 rfl rfl fun _ _ _ _ _ _ us hl => match us, hl with | [_], _ => rfl) (not_mks (by decide +kernel)) (o_is_integer (PL L_91))
theorem tab_93 (X : K.In h) (Gn : h.Ns mainGlobals mg) (c : SaysZ fa dl B w K) : ∀ F0, Tab (G.at F0) B (PL L_93) 93 P w K mg base :=
  tab_next X Gn c.d (l := L_92) (s := sp_is_integer) (k := 0) (d := d_is_integer) (fn := ⟨("is_integer", none), ["thing"], [], false⟩) (N := n_is_integer) (m := b_is_integer) rfl rfl (tab_92 X Gn c) rfl rfl rfl (by decide +kernel) s_is_integer c_is_integer_pad92 (bindsD0 rfl rfl fun _ _ _ _ _ _ us hl => match us, hl with | [_], _ => rfl) (not_mks (by decide +kernel)) (o_is_integer (PL L_92))
theorem tab_94 (X : K.In h) (Gn : h.Ns mainGlobals mg) (c : SaysZ fa dl B w K) : ∀ F0, Tab (G.at F0) B (PL L_94) 94 P w K mg base :=
  tab_next X Gn c.d (l := L_93) (s := sp_is_integer) (k := 0) (d := d_is_integer) (fn := ⟨("is_integer", none), ["thing"], [], false⟩) (N := n_is_integer) (m := b_is_integer) rfl rfl (tab_93 X Gn c) rfl rfl rfl (by decide +kernel) s_is_integer c_is_integer_pad93 (bindsD0 rfl rfl fun _ _ _ _ _ _ us hl => match us, hl with | [_], _ => rfl) (not_mks (by decide +kernel)) (o_is_integer (PL L_93))
theorem tab_95 (X : K.In h) (Gn : h.Ns mainGlobals mg) (c : SaysZ fa dl B w K) : ∀ F0, Tab (G.at F0) B (PL L_95) 95 P w K mg base :=
  tab_next X Gn c.d (l := L_94) (s := sp_is_integer) (k := 0) (d := d_is_integer) (fn := ⟨("is_integer", none), ["thing"], [], false⟩) (N := n_is_integer) (m := b_is_integer) rfl rfl (tab_94 X Gn c) rfl rfl rfl (by decide +kernel) s_is_integer c_is_integer_pad94 (bindsD0 rfl rfl fun _ _ _ _ _ _ us hl => match us, hl with | [_], _ => rfl) (not_mks (by decide +kernel)) (o_is_integer (PL L_94))
theorem tab_96 (X : K.In h) (Gn : h.Ns mainGlobals mg) (c : SaysZ fa dl B w K) : ∀ F0, Tab (G.at F0) B (PL L_96) 96 P w K mg base :=
  tab_next X Gn c.d (l := L_95) (s := sp_is_integer) (k := 0) (d := d_is_integer) (fn := ⟨("is_integer", none), ["thing"], [], false⟩) (N := n_is_integer) (m := b_is_integer) rfl rfl (tab_95 X Gn c) rfl rfl rfl (by decide +kernel) s_is_integer c_is_integer_pad95 (bindsD0 rfl rfl fun _ _ _ _ _ _ us hl => match us, hl with | [_], _ => rfl) (not_mks (by decide +kernel)) (o_is_integer (PL L_95))
theorem tab_97 (X : K.In h) (Gn : h.Ns mainGlobals mg) (c : SaysZ fa dl B w K) : ∀ F0, Tab (G.at F0) B (PL L_97) 97 P w K mg base :=
  tab_next X Gn c.d (l := L_96) (s := sp_is_integer) (k := 0) (d := d_is_integer) (fn := ⟨("is_integer", none), ["thing"], [], false⟩) (N := n_is_integer) (m := b_is_integer) rfl rfl (tab_96 X Gn c) rfl rfl rfl (by decide +kernel) s_is_integer c_is_integer_pad96 (bindsD0 rfl rfl fun _ _ _ _ _ _ us hl => match us, hl with | [_], _ => rfl) (not_mks (by decide +kernel)) (o_is_integer (PL L_96))
theorem tab_98 (X : K.In h) (Gn : h.Ns mainGlobals mg) (c : SaysZ fa dl B w K) : ∀ F0, Tab (G.at F0) B (PL L_98) 98 P w K mg base :=
  tab_next X Gn c.d (l := L_97) (s := sp_is_integer) (k := 0) (d := d_is_integer) (fn := ⟨("is_integer", none), ["thing"], [], false⟩) (N := n_is_integer) (m := b_is_integer) rfl rfl (tab_97 X Gn c) rfl rfl rfl (by decide +kernel) s_is_integer c_is_integer_pad97 (bindsD0 rfl rfl fun _ _ _ _ _ _ us hl => match us, hl with | [_], _ => rfl) (not_mks (by decide +kernel)) (o_is_integer (PL L_97))
theorem tab_99 (X : K.In h) (Gn : h.Ns mainGlobals mg) (c : SaysZ fa dl B w K) : ∀ F0, Tab (G.at F0) B (PL L_99) 99 P w K mg base :=
  tab_next X Gn c.d (l := L_98) (s := sp_is_integer) (k := 0) (d := d_is_integer) (fn := ⟨("is_integer", none), ["thing"], [], false⟩) (N := n_is_integer) (m := b_is_integer) rfl rfl (tab_98 X Gn c) rfl rfl rfl (by decide +kernel) s_is_integer c_is_integer_pad98 (bindsD0 rfl rfl fun _ _ _ _ _ _ us hl => match us, hl with | [_], _ => rfl) (not_mks (by decide +kernel)) (o_is_integer (PL L_98))
theorem tab_100 (X : K.In h) (Gn : h.Ns mainGlobals mg) (c : SaysZ fa dl B w K) : ∀ F0, Tab (G.at F0) B (PL L_100) 100 P w K mg base :=
  tab_next X Gn c.d (l := L_99) (s := (sp_mo (fun _ k => .lst (k.ln.map eO)))) (k := 42) (d := d_Moment_lines) (fn := ⟨("Moment", some "lines"), ["self"], [], false⟩) (N := n_Moment_lines) (m := b_Moment_lines) rfl rfl (tab_99 X Gn c) rfl rfl rfl (by decide +kernel) s_Moment_lines c_Moment_lines (bindsD0 rfl rfl fun _ _ _ _ _ _ us hl => match us, hl with | [_], _ => rfl) (not_mks (by decide +kernel)) (o_m_lines (PL L_99) )
theorem tab_101 (X : K.In h) (Gn : h.Ns mainGlobals mg) (c : SaysZ fa dl B w K) : ∀ F0, Tab (G.at F0) B (PL L_101) 101 P w K mg base :=
  tab_next X Gn c.d (l := L_100) (s := sp_is_integer) (k := 0) (d := d_is_integer) (fn := ⟨("is_integer", none), ["thing"], [], false⟩) (N := n_is_integer) (m := b_is_integer) rfl rfl (tab_100 X Gn c) rfl rfl rfl (by decide +kernel) s_is_integer c_is_integer_pad100 (bindsD0 rfl rfl fun _ _ _ _ _ _ us hl => match us, hl with | [_], _ => rfl) (not_mks (by decide +kernel)) (o_is_integer (PL L_100))
theorem tab_102 (X : K.In h) (Gn : h.Ns mainGlobals mg) (c : SaysZ fa dl B w K) : ∀ F0, Tab (G.at F0) B (PL L_102) 102 P w K mg base :=
  tab_next X Gn c.d (l := L_101) (s := (sp_mo (fun _ k => run4 k))) (k := 43) (d := d_Moment_running) (fn := ⟨("Moment", some "running"), ["self"], [], false⟩) (N := n_Moment_running) (m := b_Moment_running) rfl rfl (tab_101 X Gn c) rfl rfl rfl (by decide +kernel) s_Moment_running c_Moment_running (bindsD0 rfl rfl fun _ _ _ _ _ _ us hl => match us, hl with | [_], _ => rfl) (not_mks (by decide +kernel)) (o_m_running (PL L_101) )
theorem tab_103 (X : K.In h) (Gn : h.Ns mainGlobals mg) (c : SaysZ fa dl B w K) : ∀ F0, Tab (G.at F0) B (PL L_103) 103 P w K mg base :=
  tab_next X Gn c.d (l := L_102) (s := sp_is_integer) (k := 0) (d := d_is_integer) (fn := ⟨("is_integer", none), ["thing"], [], false⟩) (N := n_is_integer) (m := b_is_integer) rfl rfl (tab_102 X Gn c) rfl rfl rfl (by decide +kernel) s_is_integer c_is_integer_pad102 (bindsD0 rfl rfl fun _ _ _ _ _ _ us hl => match us, hl with | [_], _ => rfl) (not_mks (by decide +kernel)) (o_is_integer (PL L_102))
theorem tab_104 (X : K.In h) (Gn : h.Ns mainGlobals mg) (c : SaysZ fa dl B w K) : ∀ F0, Tab (G.at F0) B (PL L_104) 104 P w K mg base :=
  tab_next X Gn c.d (l := L_103) (s := sp_may_come) (k := 47) (d := d_letter_may_come) (fn := ⟨("letter_may_come", none), ["moment"], [], false⟩) (N := n_letter_may_come) (m := b_letter_may_come) rfl rfl (tab_103 X Gn c) rfl rfl rfl (by decide +kernel) s_letter_may_come c_letter_may_come (bindsD0 rfl rfl fun _ _ _ _ _ _ us hl => match us, hl with | [_], _ => rfl) (not_mks (by decide +kernel)) (o_may_come (PL L_103) )
theorem tab_105 (X : K.In h) (Gn : h.Ns mainGlobals mg) (c : SaysZ fa dl B w K) : ∀ F0, Tab (G.at F0) B (PL L_105) 105 P w K mg base :=
  tab_next X Gn c.d (l := L_104) (s := sp_need_letter) (k := 48) (d := d_need_letter) (fn := ⟨("need_letter", none), ["moment", "outside"], [], false⟩) (N := n_need_letter) (m := b_need_letter) rfl rfl (tab_104 X Gn c) rfl rfl rfl (by decide +kernel) s_need_letter c_need_letter (bindsD0 rfl rfl fun _ _ _ _ _ _ us hl => match us, hl with | [_, _], _ => rfl) (not_mks (by decide +kernel)) (o_need_letter (PL L_104) rfl rfl)
theorem tab_106 (X : K.In h) (Gn : h.Ns mainGlobals mg) (c : SaysZ fa dl B w K) : ∀ F0, Tab (G.at F0) B (PL L_106) 106 P w K mg base :=
  tab_next X Gn c.d (l := L_105) (s := (sp_seen_next (fun p => isLevels p.pl = false))) (k := 49) (d := d_seen_next) (fn := ⟨("seen_next", none), ["moment", "outside"], [], false⟩) (N := n_seen_next) (m := b_seen_next) rfl rfl (tab_105 X Gn c) rfl rfl rfl (by decide +kernel) s_seen_next c_seen_next (bindsD0 rfl rfl fun _ _ _ _ _ _ us hl => match us, hl with | [_, _], _ => rfl) (not_mks (by decide +kernel)) (o_seen_next (PL L_105) (fun p => isLevels p.pl = false) rfl)
theorem tab_107 (X : K.In h) (Gn : h.Ns mainGlobals mg) (c : SaysZ fa dl B w K) : ∀ F0, Tab (G.at F0) B (PL L_107) 107 P w K mg base :=
  tab_next X Gn c.d (l := L_106) (s := (sp_due (fun p => isLevels p.pl = false))) (k := 44) (d := d_Moment_due) (fn := ⟨("Moment", some "due"), ["self", "outside"], [.non], false⟩) (N := n_Moment_due) (m := b_Moment_due) rfl rfl (tab_106 X Gn c) rfl rfl rfl (by decide +kernel) s_Moment_due c_Moment_due (hb_Moment_due) (not_mks (by decide +kernel)) (o_due (PL L_106) (fun p => isLevels p.pl = false) rfl rfl)
theorem tab_108 (X : K.In h) (Gn : h.Ns mainGlobals mg) (c : SaysZ fa dl B w K) : ∀ F0, Tab (G.at F0) B (PL L_108) 108 P w K mg base :=
  tab_next X Gn c.d (l := L_107) (s := (sp_tick (fun p => isLevels p.pl = false))) (k := 45) (d := d_Moment_tick) (fn := ⟨("Moment", some "tick"), ["self", "outside", "call"], [.non, .non], false⟩) (N := n_Moment_tick) (m := b_Moment_tick) rfl rfl (tab_107 X Gn c) rfl rfl rfl (by decide +kernel) s_Moment_tick c_Moment_tick (hb_Moment_tick) (not_mks (by decide +kernel)) (o_tick (PL L_107) (fun p => isLevels p.pl = false) rfl rfl rfl rfl rfl)
theorem tab_109 (X : K.In h) (Gn : h.Ns mainGlobals mg) (c : SaysZ fa dl B w K) : ∀ F0, Tab (G.at F0) B (PL L_109) 109 P w K mg base :=
  tab_next X Gn c.d (l := L_108) (s := sp_is_integer) (k := 0) (d := d_is_integer) (fn := ⟨("is_integer", none), ["thing"], [], false⟩) (N := n_is_integer) (m := b_is_integer) rfl rfl (tab_108 X Gn c) rfl rfl rfl (by decide +kernel) s_is_integer c_is_integer_pad108 (bindsD0 rfl rfl fun _ _ _ _ _ _ us hl => match us, hl with | [_], _ => rfl) (not_mks (by decide +kernel)) (o_is_integer (PL L_108))
theorem tab_110 (X : K.In h) (Gn : h.Ns mainGlobals mg) (c : SaysZ fa dl B w K) : ∀ F0, Tab (G.at F0) B (PL L_110) 110 P w K mg base :=
  tab_next X Gn c.d (l := L_109) (s := sp_is_integer) (k := 0) (d := d_is_integer) (fn := ⟨("is_integer", none), ["thing"], [], false⟩) (N := n_is_integer) (m := b_is_integer) rfl rfl (tab_109 X Gn c) rfl rfl rfl (by decide +kernel) s_is_integer c_is_integer_pad109 (bindsD0 rfl rfl fun _ _ _ _ _ _ us hl => match us, hl with | [_], _ => rfl) (not_mks (by decide +kernel)) (o_is_integer (PL L_109))
theorem tab_111 (X : K.In h) (Gn : h.Ns mainGlobals mg) (c : SaysZ fa dl B w K) : ∀ F0, Tab (G.at F0) B (PL L_111) 111 P w K mg base :=
  tab_next X Gn c.d (l := L_110) (s := sp_is_integer) (k := 0) (d := d_is_integer) (fn := ⟨("is_integer", none), ["thing"], [], false⟩) (N := n_is_integer) (m := b_is_integer) rfl rfl (tab_110 X Gn c) rfl rfl rfl (by decide +kernel) s_is_integer c_is_integer_pad110 (bindsD0 rfl rfl fun _ _ _ _ _ _ us hl => match us, hl with | [_], _ => rfl) (not_mks (by decide +kernel)) (o_is_integer (PL L_110))
theorem tab_112 (X : K.In h) (Gn : h.Ns mainGlobals mg) (c : SaysZ fa dl B w K) : ∀ F0, Tab (G.at F0) B (PL L_112) 112 P w K mg base :=
  tab_next X Gn c.d (l := L_111) (s := sp_is_integer) (k := 0) (d := d_is_integer) (fn := ⟨("is_integer", none), ["thing"], [], false⟩) (N := n_is_integer) (m := b_is_integer) rfl rfl (tab_111 X Gn c) rfl rfl rfl (by decide +kernel) s_is_integer c_is_integer_pad111 (bindsD0 rfl rfl fun _ _ _ _ _ _ us hl => match us, hl with | [_], _ => rfl) (not_mks (by decide +kernel)) (o_is_integer (PL L_111))
theorem tab_113 (X : K.In h) (Gn : h.Ns mainGlobals mg) (c : SaysZ fa dl B w K) : ∀ F0, Tab (G.at F0) B (PL L_113) 113 P w K mg base :=
  tab_next X Gn c.d (l := L_112) (s := sp_is_integer) (k := 0) (d := d_is_integer) (fn := ⟨("is_integer", none), ["thing"], [], false⟩) (N := n_is_integer) (m := b_is_integer) rfl rfl (tab_112 X Gn c) rfl rfl rfl (by decide +kernel) s_is_integer c_is_integer_pad112 (bindsD0 rfl rfl fun _ _ _ _ _ _ us hl => match us, hl with | [_], _ => rfl) (not_mks (by decide +kernel)) (o_is_integer (PL L_112))
theorem tab_114 (X : K.In h) (Gn : h.Ns mainGlobals mg) (c : SaysZ fa dl B w K) : ∀ F0, Tab (G.at F0) B (PL L_114) 114 P w K mg base :=
  tab_next X Gn c.d (l := L_113) (s := sp_first) (k := 46) (d := d_first) (fn := ⟨("first", none), ["build"], [], false⟩) (N := n_first) (m := b_first) rfl rfl (tab_113 X Gn c) rfl rfl rfl (by decide +kernel) s_first c_first (bindsD0 rfl rfl fun _ _ _ _ _ _ us hl => match us, hl with | [_], _ => rfl) (not_mks (by decide +kernel)) (o_first (PL L_113) rfl)
theorem tab_115 (X : K.In h) (Gn : h.Ns mainGlobals mg) (c : SaysZ fa dl B w K) : ∀ F0, Tab (G.at F0) B (PL L_115) 115 P w K mg base :=
  tab_next X Gn c.d (l := L_114) (s := sp_digits) (k := 67) (d := d__law_digits) (fn := ⟨("_law_digits", none), ["_law_cell_here", "_law_sizes"], [], false⟩) (N := n__law_digits) (m := b__law_digits) rfl rfl (tab_114 X Gn c) rfl rfl rfl (by decide +kernel) s__law_digits c__law_digits (bindsD0 rfl rfl fun _ _ _ _ _ _ us hl => match us, hl with | [_, _], _ => rfl) (not_mks (by decide +kernel)) (o_digits (PL L_114))
theorem tab_116 (X : K.In h) (Gn : h.Ns mainGlobals mg) (c : SaysZ fa dl B w K) : ∀ F0, Tab (G.at F0) B (PL L_116) 116 P w K mg base :=
  tab_next X Gn c.d (l := L_115) (s := sp_cell) (k := 66) (d := d__law_cell) (fn := ⟨("_law_cell", none), ["_law_script", "_law_k"], [], false⟩) (N := n__law_cell) (m := b__law_cell) rfl rfl (tab_115 X Gn c) rfl rfl rfl (by decide +kernel) s__law_cell c__law_cell (bindsD0 rfl rfl fun _ _ _ _ _ _ us hl => match us, hl with | [_, _], _ => rfl) (not_mks (by decide +kernel)) (o_cell (PL L_115))
theorem tab_117 (X : K.In h) (Gn : h.Ns mainGlobals mg) (c : SaysZ fa dl B w K) : ∀ F0, Tab (G.at F0) B (PL L_117) 117 P w K mg base :=
  tab_next X Gn c.d (l := L_116) (s := sp_started15) (k := 69) (d := d__law_started) (fn := ⟨("_law_started", none), ["_law_script"], [], false⟩) (N := n__law_started) (m := b__law_started) rfl rfl (tab_116 X Gn c) rfl rfl rfl (by decide +kernel) s__law_started c__law_started (bindsD0 rfl rfl fun _ _ _ _ _ _ us hl => match us, hl with | [_], _ => rfl) (not_mks (by decide +kernel)) (o_started15 (PL L_116) rfl rfl)
theorem tab_118 (X : K.In h) (Gn : h.Ns mainGlobals mg) (c : SaysZ fa dl B w K) : ∀ F0, Tab (G.at F0) B (PL L_118) 118 P w K mg base :=
  tab_next X Gn c.d (l := L_117) (s := sp_built15) (k := 70) (d := d__law_built) (fn := ⟨("_law_built", none), ["_law_world"], [], false⟩) (N := n__law_built) (m := b__law_built) rfl rfl (tab_117 X Gn c) rfl rfl rfl (by decide +kernel) s__law_built c__law_built (bindsD0 rfl rfl fun _ _ _ _ _ _ us hl => match us, hl with | [_], _ => rfl) (not_mks (by decide +kernel)) (o_built15 (PL L_117) rfl)
theorem tab_119 (X : K.In h) (Gn : h.Ns mainGlobals mg) (c : SaysZ fa dl B w K) : ∀ F0, Tab (G.at F0) B (PL L_119) 119 P w K mg base :=
  tab_next X Gn c.d (l := L_118) (s := sp_turn15) (k := 71) (d := d__law_turn) (fn := ⟨("_law_turn", none), ["_law_world"], [], false⟩) (N := n__law_turn) (m := b__law_turn) rfl rfl (tab_118 X Gn c) rfl rfl rfl (by decide +kernel) s__law_turn c__law_turn (bindsD0 rfl rfl fun _ _ _ _ _ _ us hl => match us, hl with | [_], _ => rfl) (not_mks (by decide +kernel)) (o_turn15 (PL L_118))
theorem tab_120 (X : K.In h) (Gn : h.Ns mainGlobals mg) (c : SaysZ fa dl B w K) : ∀ F0, Tab (G.at F0) B (PL L_120) 120 P w K mg base :=
  tab_next X Gn c.d (l := L_119) (s := (sp_same 0)) (k := 68) (d := d__law_same) (fn := ⟨("_law_same", none), ["_law_told", "_law_due"], [], false⟩) (N := n__law_same_0) (m := b__law_same_0) rfl rfl (tab_119 X Gn c) rfl rfl rfl (by decide +kernel) s__law_same c__law_same_0 (bindsD0 rfl rfl fun _ _ _ _ _ _ us hl => match us, hl with | [_, _], _ => rfl) (not_mks (by decide +kernel)) (o_same_0 (PL L_119))
theorem tab_121 (X : K.In h) (Gn : h.Ns mainGlobals mg) (c : SaysZ fa dl B w K) : ∀ F0, Tab (G.at F0) B (PL L_121) 121 P w K mg base :=
  tab_next X Gn c.d (l := L_120) (s := (sp_same 1)) (k := 68) (d := d__law_same) (fn := ⟨("_law_same", none), ["_law_told", "_law_due"], [], false⟩) (N := n__law_same_1) (m := b__law_same_1) rfl rfl (tab_120 X Gn c) rfl rfl rfl (by decide +kernel) s__law_same c__law_same_1 (bindsD0 rfl rfl fun _ _ _ _ _ _ us hl => match us, hl with | [_, _], _ => rfl) (not_mks (by decide +kernel)) (o_same_1 (PL L_120) rfl)
theorem tab_122 (X : K.In h) (Gn : h.Ns mainGlobals mg) (c : SaysZ fa dl B w K) : ∀ F0, Tab (G.at F0) B (PL L_122) 122 P w K mg base :=
  tab_next X Gn c.d (l := L_121) (s := (sp_same 2)) (k := 68) (d := d__law_same) (fn := ⟨("_law_same", none), ["_law_told", "_law_due"], [], false⟩) (N := n__law_same_2) (m := b__law_same_2) rfl rfl (tab_121 X Gn c) rfl rfl rfl (by decide +kernel) s__law_same c__law_same_2 (bindsD0 rfl rfl fun _ _ _ _ _ _ us hl => match us, hl with | [_, _], _ => rfl) (not_mks (by decide +kernel)) (o_same_2 (PL L_121) rfl)
theorem tab_123 (X : K.In h) (Gn : h.Ns mainGlobals mg) (c : SaysZ fa dl B w K) : ∀ F0, Tab (G.at F0) B (PL L_123) 123 P w K mg base :=
  tab_next X Gn c.d (l := L_122) (s := sp_stands15) (k := 73) (d := d__law_stands) (fn := ⟨("_law_stands", none), ["_law_world", "_law_moment"], [], false⟩) (N := n__law_stands) (m := b__law_stands) rfl rfl (tab_122 X Gn c) rfl rfl rfl (by decide +kernel) s__law_stands c__law_stands (bindsD0 rfl rfl fun _ _ _ _ _ _ us hl => match us, hl with | [_, _], _ => rfl) (not_mks (by decide +kernel)) (o_stands15 (PL L_122) rfl rfl rfl)
theorem tab_124 (X : K.In h) (Gn : h.Ns mainGlobals mg) (c : SaysZ fa dl B w K) : ∀ F0, Tab (G.at F0) B (PL L_124) 124 P w K mg base :=
  tab_next X Gn c.d (l := L_123) (s := sp_cost15) (k := 72) (d := d__law_cost) (fn := ⟨("_law_cost", none), ["_law_world", "_law_task", "_law_call"], [], false⟩) (N := n__law_cost) (m := b__law_cost) rfl rfl (tab_123 X Gn c) rfl rfl rfl (by decide +kernel) s__law_cost c__law_cost (bindsD0 rfl rfl fun _ _ _ _ _ _ us hl => match us, hl with | [_, _, _], _ => rfl) (not_mks (by decide +kernel)) (o_cost15 (PL L_123))
end
theorem facts {P : Program} {w : World} {K : PySem.W.Frag} {h : Heap} {mg : Str → Option Value} {f : Addr} (X : K.In h) (Gn : h.Ns mainGlobals mg) (hfa : mg ("law" : Str) = some (.ref f)) (c : SaysZ fa dl B w K) :
    ∃ fd : FuncData, (∀ (s : Shared) (v : Value), BindsTo s fd ⟨[v], []⟩ [("_law_script", v)]) ∧ ∀ base : Heap, K.In base → base.Ns mainGlobals mg → FnOk P w K mg base (L2.CX P w) 125 f fd ["_law_script"] (conc (G.at fun _ => none) K sp_law) := by
  obtain ⟨fd, F⟩ := c.d.def_ 74 (d := d_law) rfl
  have e := hfa.symm.trans (He.glo_ok X Gn (c.d.fact 63 (f := .glo "law") rfl))
  cases e
  have b := FunD.bindsA (ps := ["_law_script"]) F fun _ _ _ _ _ _ us hl => match us, hl with | [_], _ => rfl
  exact ⟨fd, fun s v => b s [v] rfl, fun base _ _ => fnZ F s_law (tab_124 X Gn c) c_law (o_law (PL L_124) rfl rfl rfl rfl rfl rfl rfl rfl rfl rfl rfl) _⟩
theorem law_in (ns : List Int) (Q : ZQ) (E : ZX) (hl : ns.length ≤ 63) (hq : ∀ M, Q (.bl true) M) : sp_law [.scr (ns.map PV.int)] (fun _ => none) Q E := ⟨ns, rfl, hl, hq⟩
end HT
set_option Elab.async false
set_option linter.all false
set_option maxRecDepth 100000
set_option maxHeartbeats 0
open PySem PySem.W PySem.Calls PyProof.Rows
set_option maxRecDepth 100000 in
set_option maxHeartbeats 0 in
theorem PySem.Challenge.cw_hushkernel_k15_cache_lines_holds : PySem.Challenge.rw_hushkernel_k15_cache_lines.Holds := by
  w_on; o_law
  refine HandSHeadRun.head_any (r := OpenLaw.row PySem.Challenge.rw_hushkernel_k15_cache_lines) (q := view (OpenLaw.row PySem.Challenge.rw_hushkernel_k15_cache_lines).prog [89]) (H := HT.hk) (ob := HT.ob) (M := 6000) (loose := HT.loose) (d := HandSHeadRun.topDef (OpenLaw.row PySem.Challenge.rw_hushkernel_k15_cache_lines).prog 89) (kwd := []) HT.ob_eq
    (by kernel_rfl) (fun s => by kernel_rfl) HT.run (by kernel_rfl) (by kernel_rfl) (by kernel_rfl) (by rfl) (by first | assumption | decide +kernel) (by decide +kernel) ⟨rfl, rfl, rfl, rfl, rfl, by decide +kernel⟩ ?hw ?hc
  case hw => w_witness2
  case hc =>
    refine Z.walkX (l := PySem.Challenge.rw_hushkernel_k15_cache_lines) (n := 63) (k := 125) (x := "_law_script") (G := HT.G) (sp := HT.sp_law) rfl (by decide) (by kernel_rfl) ⟨rfl, by decide, by decide⟩ HT.law_in ?F
    intro w mg f h y gn e0
    obtain ⟨K, kin, c⟩ := y
    have e1 : mg ("law" : PySem.Str) = some (.ref f) := by
      have e2 : (HandSHeadRun.topDef (OpenLaw.row PySem.Challenge.rw_hushkernel_k15_cache_lines).prog 89).name = ("law" : PySem.Str) := by kernel_rfl
      rw [← e2]
      exact e0
    obtain ⟨fd, bd, ok⟩ := HT.facts (P := (PySem.Challenge.rw_hushkernel_k15_cache_lines).prog) (w := w) kin gn e1 c
    exact ⟨K, fd, kin, bd, ok⟩
