import PyProof.Rows.All
import Wide.All
import OpenK.AllK
import Wide.FinOn
import HandS.ForMost
import HandS.TupSets
import HandS.DictTup
import HandS.Conv
import HandS.TupAny
import HandS.Deep
import HandS.DictComp
import PyProof.SeqIndex
import HandS.IsInst
import KE.OsArith
import PySem.Challenge.RW_evenorders_k70_whole_most_asks_by_all_ga
set_option Elab.async false
set_option linter.all false
set_option autoImplicit false
set_option maxRecDepth 100000
set_option maxHeartbeats 4000000
/-! DL1: values as data, frozen and owned parts of the abstract heap, triples over them. -/
namespace DL
open L2 PySem
abbrev St := L2.St

/-- what a value stands for -/
inductive D where
  | non | bl (b : Bool) | int (i : Int) | str (x : Str) | ref (a : Addr) | ty (n : String)
  | tup (l : List D) | row (l : List D) | lst (l : List D) | sem (R : Hp → V → Prop)

mutual
inductive Is (H : Hp) : V → D → Prop
  | non : Is H .non .non
  | bl (b : Bool) : Is H (.bl b) (.bl b)
  | int (i : Int) : Is H (.int i) (.int i)
  | str (x : Str) : Is H (.str x) (.str x)
  | ref (a : Addr) : Is H (.ref a) (.ref a)
  | ty (n : String) : Is H (.ty n) (.ty n)
  | tup {a : Addr} {xs : List V} {l : List D} : H a = some (.tup xs) → IsAll H xs l → Is H (.ref a) (.tup l)
  | row {a : Addr} {o : Obj} {xs : List V} {l : List D} : H a = some (.frz o (.tup xs)) → o.cls = .type "tuple" → o.dict = none → IsAll H xs l → Is H (.ref a) (.row l)
  | lst {a : Addr} {xs : List V} {l : List D} : H a = some (.lst xs) → IsAll H xs l → Is H (.ref a) (.lst l)
  | sem {R : Hp → V → Prop} {v : V} : (∀ H2, Same H H2 → R H2 v) → Is H v (.sem R)
inductive IsAll (H : Hp) : List V → List D → Prop
  | nil : IsAll H [] []
  | cons {v : V} {vs : List V} {d : D} {ds : List D} : Is H v d → IsAll H vs ds → IsAll H (v :: vs) (d :: ds)
end
mutual
theorem Is.mono {H H' : Hp} (e : Same H H') : ∀ {v : V} {d : D}, Is H v d → Is H' v d
  | _, _, .non => .non
  | _, _, .bl b => .bl b
  | _, _, .int i => .int i
  | _, _, .str x => .str x
  | _, _, .ref a => .ref a
  | _, _, .ty n => .ty n
  | _, _, .tup h r => .tup (e _ _ h) (IsAll.mono e r)
  | _, _, .row h c n r => .row (e _ _ h) c n (IsAll.mono e r)
  | _, _, .lst h r => .lst (e _ _ h) (IsAll.mono e r)
  | _, _, .sem h => .sem fun H2 e2 => h H2 (e.trans e2)
theorem IsAll.mono {H H' : Hp} (e : Same H H') : ∀ {vs : List V} {ds : List D}, IsAll H vs ds → IsAll H' vs ds
  | _, _, .nil => .nil
  | _, _, .cons h r => .cons (Is.mono e h) (IsAll.mono e r)
end
section
variable {H : Hp} {v : V} {vs ws : List V} {d : D} {ds es : List D}
theorem IsAll.length : ∀ {vs : List V} {ds : List D}, IsAll H vs ds → vs.length = ds.length
  | _, _, .nil => rfl
  | _, _, .cons _ r => by rw [List.length_cons, List.length_cons, IsAll.length r]
theorem IsAll.get : ∀ {vs : List V} {ds : List D} {i : Nat} {d : D}, IsAll H vs ds → ds[i]? = some d → ∃ v, vs[i]? = some v ∧ Is H v d
  | _, _, _, _, .nil, h => by simp at h
  | _, _, 0, _, .cons h _, e => by
    simp at e; subst e; exact ⟨_, rfl, h⟩
  | _, _, i + 1, d, .cons _ r, e => by
    obtain ⟨v, h1, h2⟩ := IsAll.get (i := i) (d := d) r (by simpa using e)
    exact ⟨v, by simpa using h1, h2⟩
theorem IsAll.getV : ∀ {vs : List V} {ds : List D} {i : Nat} {v : V}, IsAll H vs ds → vs[i]? = some v → ∃ d, ds[i]? = some d ∧ Is H v d
  | _, _, _, _, .nil, h => by simp at h
  | _, _, 0, _, .cons h _, e => by
    simp at e; subst e; exact ⟨_, rfl, h⟩
  | _, _, i + 1, v, .cons _ r, e => by
    obtain ⟨d, h1, h2⟩ := IsAll.getV (i := i) (v := v) r (by simpa using e)
    exact ⟨d, by simpa using h1, h2⟩
theorem IsAll.append : ∀ {vs ws : List V} {ds es : List D}, IsAll H vs ds → IsAll H ws es → IsAll H (vs ++ ws) (ds ++ es)
  | _, _, _, _, .nil, s => s
  | _, _, _, _, .cons h r, s => .cons h (IsAll.append r s)
theorem IsAll.set : ∀ {vs : List V} {ds : List D} (i : Nat) {v : V} {d : D}, IsAll H vs ds → Is H v d → IsAll H (vs.set i v) (ds.set i d)
  | _, _, _, _, _, .nil, _ => .nil
  | _, _, 0, _, _, .cons _ r, h => .cons h r
  | _, _, i + 1, _, _, .cons h r, k => .cons h (IsAll.set i r k)
theorem IsAll.take : ∀ (n : Nat) {vs : List V} {ds : List D}, IsAll H vs ds → IsAll H (vs.take n) (ds.take n)
  | 0, _, _, _ => .nil
  | _ + 1, _, _, .nil => .nil
  | n + 1, _, _, .cons h r => .cons h (IsAll.take n r)
theorem IsAll.drop : ∀ (n : Nat) {vs : List V} {ds : List D}, IsAll H vs ds → IsAll H (vs.drop n) (ds.drop n)
  | 0, _, _, r => r
  | _ + 1, _, _, .nil => .nil
  | n + 1, _, _, .cons _ r => IsAll.drop n r
theorem IsAll.ints : ∀ {vs : List V} {ns : List Int}, IsAll H vs (ns.map D.int) → vs = ns.map V.int
  | _, [], .nil => rfl
  | _, n :: ns, .cons h r => by
    cases h
    rw [List.map_cons, IsAll.ints r]
theorem IsAll.bls : ∀ {vs : List V} {ns : List Bool}, IsAll H vs (ns.map D.bl) → vs = ns.map V.bl
  | _, [], .nil => rfl
  | _, n :: ns, .cons h r => by
    cases h
    rw [List.map_cons, IsAll.bls r]
theorem IsAll.strs : ∀ {vs : List V} {ns : List Str}, IsAll H vs (ns.map D.str) → vs = ns.map V.str
  | _, [], .nil => rfl
  | _, n :: ns, .cons h r => by
    cases h
    rw [List.map_cons, IsAll.strs r]
theorem IsAll.ofInts : ∀ (ns : List Int), IsAll H (ns.map V.int) (ns.map D.int)
  | [] => .nil
  | _ :: ns => .cons (.int _) (IsAll.ofInts ns)
theorem IsAll.ofBls : ∀ (ns : List Bool), IsAll H (ns.map V.bl) (ns.map D.bl)
  | [] => .nil
  | _ :: ns => .cons (.bl _) (IsAll.ofBls ns)
theorem IsAll.ofStrs : ∀ (ns : List Str), IsAll H (ns.map V.str) (ns.map D.str)
  | [] => .nil
  | _ :: ns => .cons (.str _) (IsAll.ofStrs ns)
theorem IsAll.one (h : Is H v d) : IsAll H [v] [d] := .cons h .nil
theorem IsAll.one_inv (h : IsAll H vs [d]) : ∃ v, vs = [v] ∧ Is H v d := by
  cases h with
  | cons a r => cases r; exact ⟨_, rfl, a⟩
theorem IsAll.two_inv {d2 : D} (h : IsAll H vs [d, d2]) : ∃ v w, vs = [v, w] ∧ Is H v d ∧ Is H w d2 := by
  cases h with
  | cons a r =>
    obtain ⟨w, rfl, b⟩ := r.one_inv
    exact ⟨_, _, rfl, a, b⟩
theorem IsAll.three_inv {d2 d3 : D} (h : IsAll H vs [d, d2, d3]) : ∃ v w u, vs = [v, w, u] ∧ Is H v d ∧ Is H w d2 ∧ Is H u d3 := by
  cases h with
  | cons a r =>
    obtain ⟨w, u, rfl, b, c⟩ := r.two_inv
    exact ⟨_, _, _, rfl, a, b, c⟩
end

/-- there, and no tuple -/
def NT (H : Hp) (a : Addr) : Prop := ∃ o, H a = some o ∧ ∀ xs, o ≠ .tup xs
theorem NT.some {H : Hp} {a : Addr} (h : NT H a) : H a ≠ none := by
  obtain ⟨o, e, _⟩ := h
  rw [e]; exact fun z => nomatch z
theorem NT.of {H : Hp} {a : Addr} {o : HO} (e : H a = Option.some o) (h : ∀ xs, o ≠ .tup xs := by intro xs z; cases z) : NT H a := ⟨o, e, h⟩
/-- cells that callees may change, with what holds of them -/
structure Proto where
  M : Addr → Prop
  Pr : Hp → Hp → Prop
  dom : ∀ Hf H a, Pr Hf H → M a → Hf a = none ∧ NT H a
  stab : ∀ Hf H Hf2 H2, Pr Hf H → Same Hf Hf2 → (∀ a, M a → H2 a = H a) → (∀ a, M a → Hf2 a = none) → Pr Hf2 H2
def P0 : Proto := ⟨fun _ => False, fun _ _ => True, fun _ _ _ _ h => h.elim, fun _ _ _ _ _ _ _ _ => trivial⟩

/-- from frozen Hf, whole H on: W may be changed by the code itself -/
structure StepW (P : Proto) (W : Addr → Prop) (Hf H Hf2 H2 : Hp) : Prop where
  fr : Same Hf Hf2
  sub : Same Hf2 H2
  new : ∀ a, Hf a = none → Hf2 a ≠ none → ¬ NT H a
  keep : ∀ a o, ¬ P.M a → ¬ W a → H a = some o → H2 a = some o
  dom : ∀ a, H a ≠ none → H2 a ≠ none
  ntk : ∀ a, NT H a → NT H2 a
  pr : P.Pr Hf2 H2
abbrev NoW : Addr → Prop := fun _ => False
abbrev Step (P : Proto) := StepW P NoW
section
variable {P : Proto} {W : Addr → Prop} {Hf H Hf2 H2 Hf3 H3 : Hp}
theorem StepW.refl (s : Same Hf H) (p : P.Pr Hf H) : StepW P W Hf H Hf H := ⟨Same.refl _, s, fun a h1 h2 => absurd h1 h2, fun _ _ _ _ h => h, fun _ h => h, fun _ h => h, p⟩
theorem StepW.trans (a : StepW P W Hf H Hf2 H2) (b : StepW P W Hf2 H2 Hf3 H3) : StepW P W Hf H Hf3 H3 where
  fr := a.fr.trans b.fr
  sub := b.sub
  new := fun x h1 h3 => by
    cases h2 : Hf2 x with
    | some o => exact a.new x h1 (by rw [h2]; exact fun z => nomatch z)
    | none => exact fun h => b.new x h2 h3 (a.ntk x h)
  keep := fun x o m w h => b.keep x o m w (a.keep x o m w h)
  dom := fun x h => b.dom x (a.dom x h)
  ntk := fun x h => b.ntk x (a.ntk x h)
  pr := b.pr
theorem StepW.weak (a : Step P Hf H Hf2 H2) : StepW P W Hf H Hf2 H2 := ⟨a.fr, a.sub, a.new, fun x o m _ h => a.keep x o m (fun z => z) h, a.dom, a.ntk, a.pr⟩
theorem StepW.pres (a : StepW P W Hf H Hf2 H2) {x : Addr} (m : ¬ P.M x) (w : ¬ W x) (n : Hf x = none) (h : NT H x) : H2 x = H x ∧ Hf2 x = none := by
  obtain ⟨o, e, _⟩ := id h
  refine ⟨by rw [e]; exact a.keep x o m w e, ?_⟩
  cases e2 : Hf2 x with
  | none => rfl
  | some u => exact absurd h (a.new x n (by rw [e2]; exact fun z => nomatch z))
theorem nt_ne {p x : Addr} (h : H p = none) (n : NT H x) : x ≠ p := fun e => n.some (by rw [e]; exact h)
theorem nt_upd {p x : Addr} {o : HO} (h : H p = none) (n : NT H x) : NT (upd H p o) x := by
  obtain ⟨u, e, q⟩ := id n
  exact ⟨u, by rw [upd_ne (nt_ne h n)]; exact e, q⟩
/-- a new object: frozen -/
theorem Step.laid {p : Addr} {o : HO} (s : Same Hf H) (pr : P.Pr Hf H) (h : H p = none) : Step P Hf H (upd Hf p o) (upd H p o) := by
  have hf : Hf p = none := s.free h
  have nm : ∀ a, P.M a → a ≠ p := fun a m => nt_ne h (P.dom Hf H a pr m).2
  refine ⟨fun a u e => ?_, fun a u e => ?_, fun a n z => ?_, fun a u _ _ e => ?_, fun a e => ?_, fun a n => nt_upd h n, P.stab Hf H _ _ pr (fun a u e => ?_) (fun a m => ?_) (fun a m => ?_)⟩
  · rw [upd_ne (ne_of_none e hf)]; exact e
  · by_cases q : a = p
    · subst q; rw [upd_same] at e ⊢; exact e
    · rw [upd_ne q] at e ⊢; exact s a u e
  · by_cases q : a = p
    · subst q; exact fun n => n.some h
    · rw [upd_ne q] at z; exact absurd n z
  · rw [upd_ne (ne_of_none e h)]; exact e
  · by_cases q : a = p
    · subst q; exact absurd h e
    · rw [upd_ne q]; exact e
  · rw [upd_ne (ne_of_none e hf)]; exact e
  · rw [upd_ne (nm a m)]
  · rw [upd_ne (nm a m)]; exact (P.dom Hf H a pr m).1
/-- a new object: not frozen -/
theorem Step.own {p : Addr} {o : HO} (s : Same Hf H) (pr : P.Pr Hf H) (h : H p = none) : Step P Hf H Hf (upd H p o) := by
  have nm : ∀ a, P.M a → a ≠ p := fun a m => nt_ne h (P.dom Hf H a pr m).2
  refine ⟨Same.refl _, fun a u e => ?_, fun a n z => absurd n z, fun a u _ _ e => ?_, fun a e => ?_, fun a n => nt_upd h n, P.stab Hf H _ _ pr (Same.refl _) (fun a m => ?_) (fun a m => ?_)⟩
  · rw [upd_ne (ne_of_none (s a u e) h)]; exact s a u e
  · rw [upd_ne (ne_of_none e h)]; exact e
  · by_cases q : a = p
    · subst q; exact absurd h e
    · rw [upd_ne q]; exact e
  · rw [upd_ne (nm a m)]
  · exact (P.dom Hf H a pr m).1
/-- all tuples may be counted among what is frozen -/
def tups (Hf H : Hp) : Hp := fun a => match Hf a with
  | some o => some o
  | none => match H a with
    | some (.tup xs) => some (.tup xs)
    | _ => none
theorem tups_same {Hf H : Hp} : Same Hf (tups Hf H) := fun a o e => by unfold tups; rw [e]
theorem tups_at {Hf H : Hp} (s : Same Hf H) {a : Addr} {xs : List V} (e : H a = some (.tup xs)) : tups Hf H a = some (.tup xs) := by
  unfold tups
  cases h : Hf a with
  | some o =>
    have := s a o h
    rw [e] at this
    cases this
    rfl
  | none =>
    show (match H a with | some (HO.tup xs) => some (HO.tup xs) | _ => none) = _
    rw [e]
theorem tups_nt {Hf H : Hp} {a : Addr} (n : Hf a = none) (h : NT H a) : tups Hf H a = none := by
  obtain ⟨o, e, q⟩ := h
  unfold tups
  rw [n]
  show (match H a with | some (HO.tup xs) => some (HO.tup xs) | _ => none) = _
  rw [e]
  cases o with
  | tup xs => exact absurd rfl (q xs)
  | _ => rfl
theorem Step.tups (s : Same Hf H) (pr : P.Pr Hf H) : Step P Hf H (DL.tups Hf H) H := by
  refine ⟨tups_same, fun a o e => ?_, fun a n z h => z (tups_nt n h), fun _ _ _ _ e => e, fun _ e => e, fun _ e => e, P.stab Hf H _ _ pr tups_same (fun _ _ => rfl) fun a m => ?_⟩
  · unfold DL.tups at e
    cases h : Hf a with
    | some u =>
      rw [h] at e
      have e' : some u = some o := e
      rw [← e']
      exact s a u h
    | none =>
      rw [h] at e
      have e' : (match H a with | some (HO.tup xs) => some (HO.tup xs) | _ => none) = some o := e
      split at e'
      · rename_i xs hx
        rw [hx, e']
      · cases e'
  · obtain ⟨n, h⟩ := P.dom Hf H a pr m
    exact tups_nt n h
end

/-- what a callee promises under Q fits what a caller under P has -/
structure Proto.Le (Q P : Proto) : Prop where
  pr : ∀ Hf H, P.Pr Hf H → Q.Pr Hf H
  sub : ∀ a, Q.M a → P.M a
  up : ∀ Hf H Hf2 H2, P.Pr Hf H → Step Q Hf H Hf2 H2 → P.Pr Hf2 H2
theorem Proto.Le.refl (P : Proto) : Proto.Le P P := ⟨fun _ _ h => h, fun _ h => h, fun _ _ _ _ _ s => s.pr⟩
theorem Proto.Le.zero (P : Proto) : Proto.Le P0 P where
  pr := fun _ _ _ => trivial
  sub := fun _ h => h.elim
  up := fun Hf H Hf2 H2 p s => P.stab Hf H Hf2 H2 p s.fr (fun a m => (s.pres (x := a) (fun z => z) (fun z => z) (P.dom Hf H a p m).1 (P.dom Hf H a p m).2).1)
    (fun a m => (s.pres (x := a) (fun z => z) (fun z => z) (P.dom Hf H a p m).1 (P.dom Hf H a p m).2).2)
theorem Step.lift {Q P : Proto} (l : Q.Le P) {Hf H Hf2 H2 : Hp} (p : P.Pr Hf H) (s : Step Q Hf H Hf2 H2) : Step P Hf H Hf2 H2 :=
  ⟨s.fr, s.sub, s.new, fun a o m w h => s.keep a o (fun z => m (l.sub a z)) w h, s.dom, s.ntk, l.up _ _ _ _ p s⟩

/-- what stands at an owned cell -/
inductive OC where
  | lst (l : List D) | dk (l : List (Key × D)) | dt (l : List (List Key × D)) | ins (C : Addr) (fs : List (Str × D))
def OwnAt (Hf H : Hp) (p : Addr) : OC → Prop
  | .lst l => ∃ xs, H p = some (.lst xs) ∧ IsAll Hf xs l
  | .dk l => ∃ kvs : List (Key × V), H p = some (.dK kvs) ∧ kvs.map (·.1) = l.map (·.1) ∧ IsAll Hf (kvs.map (·.2)) (l.map (·.2))
  | .dt l => ∃ kvs : List (List Key × V), H p = some (.dT kvs) ∧ kvs.map (·.1) = l.map (·.1) ∧ IsAll Hf (kvs.map (·.2)) (l.map (·.2))
  | .ins C fs => ∃ (dx : Addr) (gs : List (Str × V)), H p = some (.ins C dx gs) ∧ gs.map (·.1) = fs.map (·.1) ∧ IsAll Hf (gs.map (·.2)) (fs.map (·.2))
theorem OwnAt.there {Hf H : Hp} {p : Addr} : ∀ {c : OC}, OwnAt Hf H p c → NT H p
  | .lst _, ⟨_, e, _⟩ => NT.of e
  | .dk _, ⟨_, e, _⟩ => NT.of e
  | .dt _, ⟨_, e, _⟩ => NT.of e
  | .ins _ _, ⟨_, _, e, _⟩ => NT.of e
theorem OwnAt.mono {Hf H Hf2 H2 : Hp} {p : Addr} (s : Same Hf Hf2) (h : H2 p = H p) : ∀ {c : OC}, OwnAt Hf H p c → OwnAt Hf2 H2 p c
  | .lst _, ⟨xs, e, r⟩ => ⟨xs, h.trans e, r.mono s⟩
  | .dk _, ⟨kvs, e, k, r⟩ => ⟨kvs, h.trans e, k, r.mono s⟩
  | .dt _, ⟨kvs, e, k, r⟩ => ⟨kvs, h.trans e, k, r.mono s⟩
  | .ins _ _, ⟨dx, gs, e, k, r⟩ => ⟨dx, gs, h.trans e, k, r.mono s⟩

abbrev En := List (Option D)
abbrev Ow := List (Addr × OC)
def Fits (Hf : Hp) (σ : St) (Γ : En) : Prop := σ.length = Γ.length ∧ ∀ (i : Nat) (d : D), Γ[i]? = some (some d) → ∃ v, σ[i]? = some (some v) ∧ Is Hf v d
theorem Fits.mono {Hf Hf2 : Hp} {σ : St} {Γ : En} (s : Same Hf Hf2) (h : Fits Hf σ Γ) : Fits Hf2 σ Γ := ⟨h.1, fun i d e => let ⟨v, a, b⟩ := h.2 i d e; ⟨v, a, b.mono s⟩⟩
theorem Fits.set {Hf : Hp} {σ : St} {Γ : En} {i : Nat} {v : V} {d : D} (h : Fits Hf σ Γ) (q : Is Hf v d) : Fits Hf (σ.set i (some v)) (Γ.set i (some d)) := by
  refine ⟨by rw [List.length_set, List.length_set, h.1], fun j e he => ?_⟩
  by_cases hj : i = j
  · subst hj
    by_cases hl : i < Γ.length
    · rw [List.getElem?_set_self hl] at he
      cases he
      exact ⟨v, by rw [List.getElem?_set_self (by rw [h.1]; exact hl)], q⟩
    · rw [List.getElem?_eq_none (by rw [List.length_set]; omega)] at he
      cases he
  · rw [List.getElem?_set_ne hj] at he
    obtain ⟨w, a, b⟩ := h.2 j e he
    exact ⟨w, by rw [List.getElem?_set_ne hj]; exact a, b⟩
/-- forgetting -/
theorem Fits.forget {Hf : Hp} {σ : St} {Γ Γ' : En} (h : Fits Hf σ Γ) (hl : Γ'.length = Γ.length) (w : ∀ (i : Nat) (d : D), Γ'[i]? = some (some d) → Γ[i]? = some (some d)) : Fits Hf σ Γ' :=
  ⟨h.1.trans hl.symm, fun i d e => h.2 i d (w i d e)⟩
def wipeE (Γ : En) : List Nat → En
  | [] => Γ
  | v :: vs => (wipeE Γ vs).set v none
theorem wipeE_length (Γ : En) : ∀ vs : List Nat, (wipeE Γ vs).length = Γ.length
  | [] => rfl
  | v :: vs => by unfold wipeE; rw [List.length_set, wipeE_length Γ vs]
theorem Fits.none {Hf : Hp} {σ : St} {Γ : En} {i : Nat} (h : Fits Hf σ Γ) : Fits Hf (σ.set i none) (Γ.set i none) := by
  refine ⟨by rw [List.length_set, List.length_set, h.1], fun j e he => ?_⟩
  by_cases hj : i = j
  · subst hj
    by_cases hl : i < Γ.length
    · rw [List.getElem?_set_self hl] at he; cases he
    · rw [List.getElem?_eq_none (by rw [List.length_set]; omega)] at he; cases he
  · rw [List.getElem?_set_ne hj] at he
    obtain ⟨w, a, b⟩ := h.2 j e he
    exact ⟨w, by rw [List.getElem?_set_ne hj]; exact a, b⟩
theorem Fits.wipe {Hf : Hp} {σ : St} {Γ : En} (h : Fits Hf σ Γ) : ∀ vs : List Nat, Fits Hf (L2.wipe σ vs) (wipeE Γ vs)
  | [] => h
  | v :: vs => Fits.none (Fits.wipe h vs)

/-- the state of a body: entry (Hf0, H0), now (Hf, H) -/
structure At (P : Proto) (W : Addr → Prop) (Hf0 H0 : Hp) (Γ : En) (Ω : Ow) (σ : St) (Hf H : Hp) : Prop where
  step : StepW P W Hf0 H0 Hf H
  fits : Fits Hf σ Γ
  own : ∀ p c, (p, c) ∈ Ω → OwnAt Hf H p c ∧ Hf p = none ∧ ¬ P.M p ∧ (H0 p = none ∨ W p)
  nd : (Ω.map (·.1)).Nodup
section
variable {P : Proto} {W : Addr → Prop} {Hf0 H0 Hf H Hf2 H2 : Hp} {Γ : En} {Ω : Ow} {σ : St}
theorem At.mono (c : At P W Hf0 H0 Γ Ω σ Hf H) (s : Step P Hf H Hf2 H2) : At P W Hf0 H0 Γ Ω σ Hf2 H2 where
  step := c.step.trans s.weak
  fits := c.fits.mono s.fr
  own := fun p oc hm => by
    obtain ⟨a, b, m, w⟩ := c.own p oc hm
    obtain ⟨e1, e2⟩ := s.pres m (fun z => z) b a.there
    exact ⟨a.mono s.fr e1, e2, m, w⟩
  nd := c.nd
theorem At.sub (c : At P W Hf0 H0 Γ Ω σ Hf H) : Same Hf H := c.step.sub
theorem At.pr (c : At P W Hf0 H0 Γ Ω σ Hf H) : P.Pr Hf H := c.step.pr
theorem At.here (c : At P W Hf0 H0 Γ Ω σ Hf H) : Step P Hf H Hf H := StepW.refl c.sub c.pr
theorem At.set {i : Nat} {v : V} {d : D} (c : At P W Hf0 H0 Γ Ω σ Hf H) (q : Is Hf v d) : At P W Hf0 H0 (Γ.set i (some d)) Ω (σ.set i (some v)) Hf H := ⟨c.step, c.fits.set q, c.own, c.nd⟩
theorem At.forget {Γ' : En} (c : At P W Hf0 H0 Γ Ω σ Hf H) (hl : Γ'.length = Γ.length) (w : ∀ (i : Nat) (d : D), Γ'[i]? = some (some d) → Γ[i]? = some (some d)) : At P W Hf0 H0 Γ' Ω σ Hf H := ⟨c.step, c.fits.forget hl w, c.own, c.nd⟩
theorem At.wipe (c : At P W Hf0 H0 Γ Ω σ Hf H) (vs : List Nat) : At P W Hf0 H0 (wipeE Γ vs) Ω (L2.wipe σ vs) Hf H := ⟨c.step, c.fits.wipe vs, c.own, c.nd⟩
/-- a new owned cell -/
theorem At.newOwn {p : Addr} {o : HO} {oc : OC} (c : At P W Hf0 H0 Γ Ω σ Hf H) (hp : H p = none) (ho : OwnAt Hf (upd H p o) p oc) : At P W Hf0 H0 Γ ((p, oc) :: Ω) σ Hf (upd H p o) where
  step := c.step.trans (Step.own c.sub c.pr hp).weak
  fits := c.fits
  own := fun q d hm => by
    rcases List.mem_cons.mp hm with e | hm
    · cases e
      refine ⟨ho, c.sub.free hp, fun m => ?_, .inl ?_⟩
      · exact (P.dom Hf H p c.pr m).2.some hp
      · cases e : H0 p with
        | none => rfl
        | some u => exact absurd hp (c.step.dom p (by rw [e]; exact fun z => nomatch z))
    · obtain ⟨a, b, m, w⟩ := c.own q d hm
      have nq : q ≠ p := nt_ne hp a.there
      exact ⟨a.mono (Same.refl _) (upd_ne nq), b, m, w⟩
  nd := by
    rw [List.map_cons, List.nodup_cons]
    refine ⟨fun hm => ?_, c.nd⟩
    obtain ⟨⟨q, d⟩, hq, e⟩ := List.mem_map.mp hm
    have e' : q = p := e
    have := (c.own q d hq).1.there
    rw [e'] at this
    exact this.some hp
/-- an owned cell (the first) changed -/
theorem At.write {p : Addr} {o : HO} {oc oc' : OC} (c : At P W Hf0 H0 Γ ((p, oc) :: Ω) σ Hf H) (ho : OwnAt Hf (upd H p o) p oc') : At P W Hf0 H0 Γ ((p, oc') :: Ω) σ Hf (upd H p o) := by
  obtain ⟨a, b, m, w⟩ := c.own p oc List.mem_cons_self
  have nm : ∀ x, P.M x → x ≠ p := fun x h e => m (e ▸ h)
  refine ⟨⟨c.step.fr, fun x u e => ?_, c.step.new, fun x u hm hw e => ?_, fun x e => ?_, fun x n => ?_, P.stab Hf H _ _ c.pr (Same.refl _) (fun x hm => upd_ne (nm x hm)) (fun x hm => (P.dom Hf H x c.pr hm).1)⟩, c.fits, fun q d hm => ?_, c.nd⟩
  · rw [upd_ne (ne_of_none e b)]; exact c.sub x u e
  · have nx : x ≠ p := by
      rintro rfl
      rcases w with w | w
      · rw [w] at e; cases e
      · exact hw w
    rw [upd_ne nx]; exact c.step.keep x u hm hw e
  · by_cases q : x = p
    · subst q; rw [upd_same]; exact fun z => nomatch z
    · rw [upd_ne q]; exact c.step.dom x e
  · by_cases q : x = p
    · subst q; exact ho.there
    · obtain ⟨u, e, z⟩ := c.step.ntk x n
      exact ⟨u, by rw [upd_ne q]; exact e, z⟩
  · rcases List.mem_cons.mp hm with e | hm'
    · cases e; exact ⟨ho, b, m, w⟩
    · obtain ⟨a', b', m', w'⟩ := c.own q d (List.mem_cons_of_mem _ hm')
      have nq : q ≠ p := by
        rintro rfl
        have := c.nd
        rw [List.map_cons, List.nodup_cons] at this
        exact this.1 (List.mem_map.mpr ⟨(q, d), hm', rfl⟩)
      exact ⟨a'.mono (Same.refl _) (upd_ne nq), b', m', w'⟩
/-- the owned cells in another order, or fewer -/
theorem At.perm {Ω' : Ow} (c : At P W Hf0 H0 Γ Ω σ Hf H) (h : ∀ x ∈ Ω', x ∈ Ω) (nd : (Ω'.map (·.1)).Nodup) : At P W Hf0 H0 Γ Ω' σ Hf H := ⟨c.step, c.fits, fun p oc hm => c.own p oc (h _ hm), nd⟩
theorem At.swap {x y : Addr × OC} (c : At P W Hf0 H0 Γ (x :: y :: Ω) σ Hf H) : At P W Hf0 H0 Γ (y :: x :: Ω) σ Hf H := by
  refine c.perm (fun z hz => ?_) ?_
  · simp only [List.mem_cons] at hz ⊢
    rcases hz with h | h | h
    · exact .inr (.inl h)
    · exact .inl h
    · exact .inr (.inr h)
  · have := c.nd
    simp only [List.map_cons, List.nodup_cons, List.mem_cons, not_or] at this ⊢
    exact ⟨⟨fun e => this.1.1 e.symm, this.2.1⟩, this.1.2, this.2.2⟩
theorem At.drop {x : Addr × OC} (c : At P W Hf0 H0 Γ (x :: Ω) σ Hf H) : At P W Hf0 H0 Γ Ω σ Hf H := c.perm (fun z hz => List.mem_cons_of_mem _ hz) (by have := c.nd; rw [List.map_cons, List.nodup_cons] at this; exact this.2)
/-- an owned list is frozen; the slots that hold it may be named by it -/
theorem At.freeze {p : Addr} {l : List D} {is : List Nat} (c : At P W Hf0 H0 Γ ((p, .lst l) :: Ω) σ Hf H) (hi : ∀ i ∈ is, Γ[i]? = some (some (D.ref p))) (h0 : ¬ W p) :
    ∃ Hf2, Same Hf Hf2 ∧ At P W Hf0 H0 (is.foldl (fun G i => G.set i (some (.lst l))) Γ) Ω σ Hf2 H ∧ Is Hf2 (.ref p) (.lst l) := by
  obtain ⟨⟨xs, e, r⟩, b, m, w⟩ := c.own p _ List.mem_cons_self
  have h00 : H0 p = none := w.resolve_right h0
  have s : Same Hf (upd Hf p (.lst xs)) := fun a u h => by rw [upd_ne (ne_of_none h b)]; exact h
  have i2 : Is (upd Hf p (.lst xs)) (.ref p) (.lst l) := .lst upd_same (r.mono s)
  refine ⟨upd Hf p (.lst xs), s, ⟨⟨c.step.fr.trans s, fun x u h => ?_, fun x n z => ?_, c.step.keep, c.step.dom, c.step.ntk, P.stab Hf H _ _ c.pr s (fun _ _ => rfl) (fun x hm => ?_)⟩, ?_, fun q d hm => ?_, by have := c.nd; rw [List.map_cons, List.nodup_cons] at this; exact this.2⟩, i2⟩
  · by_cases q : x = p
    · subst q; rw [upd_same] at h; cases h; exact e
    · rw [upd_ne q] at h; exact c.sub x u h
  · by_cases q : x = p
    · subst q; exact fun n => n.some h00
    · rw [upd_ne q] at z; exact c.step.new x n z
  · have nx : x ≠ p := fun z => m (z ▸ hm)
    rw [upd_ne nx]; exact (P.dom Hf H x c.pr hm).1
  · have base : Fits (upd Hf p (.lst xs)) σ Γ := c.fits.mono s
    have key : ∀ (js : List Nat) (G : En), Fits (upd Hf p (.lst xs)) σ G → (∀ i ∈ js, ∃ v, σ[i]? = some (some v) ∧ v = V.ref p) → Fits (upd Hf p (.lst xs)) σ (js.foldl (fun G i => G.set i (some (.lst l))) G) := by
      intro js
      induction js with
      | nil => intro G f _; exact f
      | cons j js ih =>
        intro G f hj
        refine ih _ ?_ fun i hi => hj i (List.mem_cons_of_mem _ hi)
        obtain ⟨v, hv, rfl⟩ := hj j List.mem_cons_self
        refine ⟨by rw [List.length_set]; exact f.1, fun k d he => ?_⟩
        by_cases hk : j = k
        · subst hk
          by_cases hl : j < G.length
          · rw [List.getElem?_set_self hl] at he
            cases he
            exact ⟨_, hv, i2⟩
          · rw [List.getElem?_eq_none (by rw [List.length_set]; omega)] at he; cases he
        · rw [List.getElem?_set_ne hk] at he
          exact f.2 k d he
    refine key is Γ base fun i hi' => ?_
    obtain ⟨v, hv, q⟩ := c.fits.2 i _ (hi i hi')
    cases q
    exact ⟨_, hv, rfl⟩
  · obtain ⟨a', b', m', w'⟩ := c.own q d (List.mem_cons_of_mem _ hm)
    have nq : q ≠ p := by
      rintro rfl
      have := c.nd
      rw [List.map_cons, List.nodup_cons] at this
      exact this.1 (List.mem_map.mpr ⟨(q, d), hm, rfl⟩)
    exact ⟨a'.mono s rfl, by rw [upd_ne nq]; exact b', m', w'⟩
end
end DL
set_option Elab.async false
set_option linter.all false
set_option autoImplicit false
set_option maxRecDepth 100000
set_option maxHeartbeats 4000000
/-! DL2: expressions and tests over the data environment. -/
namespace DL
open L2 PySem

abbrev Out (P : Proto) (Hf H : Hp) (S : D → Prop) (Q : VK) : Prop := ∀ v Hf2 H2 d, S d → Step P Hf H Hf2 H2 → Is Hf2 v d → Q v H2
def EvS (P : Proto) (te : TE) (Γ : En) (Ω : Ow) (S : D → Prop) : Prop :=
  ∀ ⦃W : Addr → Prop⦄ ⦃Hf0 H0 : Hp⦄ ⦃σ : St⦄ ⦃Hf H : Hp⦄, At P W Hf0 H0 Γ Ω σ Hf H → ∀ Q : VK, Out P Hf H S Q → te σ H Q
abbrev Ev (P : Proto) (te : TE) (Γ : En) (Ω : Ow) (d : D) : Prop := EvS P te Γ Ω (fun x => x = d)
def EvB (P : Proto) (tt : TT) (Γ : En) (Ω : Ow) (S : Bool → Prop) : Prop :=
  ∀ ⦃W : Addr → Prop⦄ ⦃Hf0 H0 : Hp⦄ ⦃σ : St⦄ ⦃Hf H : Hp⦄, At P W Hf0 H0 Γ Ω σ Hf H → ∀ Q : Bool → Hp → Prop, (∀ b Hf2 H2, S b → Step P Hf H Hf2 H2 → Q b H2) → tt σ H Q
abbrev EvT (P : Proto) (tt : TT) (Γ : En) (Ω : Ow) (b : Bool) : Prop := EvB P tt Γ Ω (fun x => x = b)
def EvA (P : Proto) (ta : TA) (Γ : En) (Ω : Ow) (S : List D → Prop) : Prop :=
  ∀ ⦃W : Addr → Prop⦄ ⦃Hf0 H0 : Hp⦄ ⦃σ : St⦄ ⦃Hf H : Hp⦄, At P W Hf0 H0 Γ Ω σ Hf H → ∀ Q : List V → Hp → Prop, (∀ vs Hf2 H2 ds, S ds → Step P Hf H Hf2 H2 → IsAll Hf2 vs ds → Q vs H2) → ta σ H Q
abbrev EvL (P : Proto) (ta : TA) (Γ : En) (Ω : Ow) (ds : List D) : Prop := EvA P ta Γ Ω (fun x => x = ds)
/-- a two-place operation on data; a call on data -/
def OpS (P : Proto) (r : R2) (a b : D) (S : D → Prop) : Prop :=
  ∀ ⦃Hf H : Hp⦄ ⦃x y : V⦄, Same Hf H → P.Pr Hf H → Is Hf x a → Is Hf y b → ∀ Q, Out P Hf H S Q → r x y H Q
def CaS (P : Proto) (r : List V → Hp → VK → Prop) (ds : List D) (S : D → Prop) : Prop :=
  ∀ ⦃Hf H : Hp⦄ ⦃xs : List V⦄, Same Hf H → P.Pr Hf H → IsAll Hf xs ds → ∀ Q, Out P Hf H S Q → r xs H Q

/-- what some calls of built-in things ask, under names -/
def rLen (K : PySem.W.Frag) : List V → Hp → VK → Prop := fun xs H Q => ∃ x n, xs = [x] ∧ LenV K x H n ∧ Q (.int n) H
def rMax2' : List V → Hp → VK → Prop := fun xs H Q => ∃ i j, xs = [.int i, .int j] ∧ Q (.int (if j > i then j else i)) H
def rMin2' : List V → Hp → VK → Prop := fun xs H Q => ∃ i j, xs = [.int i, .int j] ∧ Q (.int (if j < i then j else i)) H
def rInt1 : List V → Hp → VK → Prop := fun xs H Q => (∃ i, xs = [.int i] ∧ Q (.int i) H) ∨ ∃ k, xs = [.bl k] ∧ Q (.int (if k then 1 else 0)) H
def rTuple (K : PySem.W.Frag) : List V → Hp → VK → Prop := fun xs H Q => ∃ p ys, xs = [.ref p] ∧ ((SqL K H p ys ∧ ∀ l, H l = none → Q (.ref l) (upd H l (.tup ys))) ∨ (SqT K H p ys ∧ Q (.ref p) H))
def rList (K : PySem.W.Frag) : List V → Hp → VK → Prop := fun xs H Q => ∃ p ys, xs = [.ref p] ∧ (SqL K H p ys ∨ SqT K H p ys) ∧ ∀ l, H l = none → Q (.ref l) (upd H l (.lst ys))
theorem cb_len {X : Cx} : CallR X (.builtin "len") (rLen X.K) := call_len
theorem cb_max2 {X : Cx} (hc : X.calm = true) : CallR X (.builtin "max") rMax2' := call_max2 hc
theorem cb_min2 {X : Cx} (hc : X.calm = true) : CallR X (.builtin "min") rMin2' := call_min2 hc
theorem cb_int {X : Cx} : CallR X (.type "int") rInt1 := call_int1
theorem cb_tuple {X : Cx} : CallR X (.type "tuple") (rTuple X.K) := call_tuple_of
theorem cb_list {X : Cx} : CallR X (.type "list") (rList X.K) := call_list_of

section
variable {P : Proto} {Γ : En} {Ω : Ow} {te ta tb tc : TE} {tt tu : TT} {tl : TA} {S S' Sa : D → Prop} {a b d : D} {K : PySem.W.Frag}
theorem EvS.imp (h : EvS P te Γ Ω S) (k : ∀ d, S d → S' d) : EvS P te Γ Ω S' := fun _ _ _ _ _ _ c Q q => h c Q fun v Hf2 H2 d sd s i => q v Hf2 H2 d (k d sd) s i
theorem EvS.to (h : Ev P te Γ Ω a) (k : S a) : EvS P te Γ Ω S := EvS.imp h fun d e => by subst e; exact k
theorem Ev.is (h : Ev P te Γ Ω a) (e : a = b) : Ev P te Γ Ω b := by rw [← e]; exact h
theorem EvT.is {x y : Bool} (h : EvT P tt Γ Ω x) (e : x = y) : EvT P tt Γ Ω y := by rw [← e]; exact h
theorem EvB.imp {S S' : Bool → Prop} (h : EvB P tt Γ Ω S) (k : ∀ d, S d → S' d) : EvB P tt Γ Ω S' := fun _ _ _ _ _ _ c Q q => h c Q fun b Hf2 H2 sb s => q b Hf2 H2 (k b sb) s

theorem ev_var {i : Nat} (h : Γ[i]? = some (some d)) : Ev P (tVar i) Γ Ω d := fun _ _ _ _ _ _ c Q q => by
  obtain ⟨v, e, r⟩ := c.fits.2 i d h
  exact ⟨v, e, q v _ _ d rfl c.here r⟩
theorem ev_int {n : Int} : Ev P (tC (.int n)) Γ Ω (.int n) := fun _ _ _ _ _ _ c Q q => q _ _ _ _ rfl c.here (.int n)
theorem ev_bl {b : Bool} : Ev P (tC (.bl b)) Γ Ω (.bl b) := fun _ _ _ _ _ _ c Q q => q _ _ _ _ rfl c.here (.bl b)
theorem ev_non : Ev P (tC .non) Γ Ω .non := fun _ _ _ _ _ _ c Q q => q _ _ _ _ rfl c.here .non
theorem ev_str {x : Str} : Ev P (tC (.str x)) Γ Ω (.str x) := fun _ _ _ _ _ _ c Q q => q _ _ _ _ rfl c.here (.str x)

theorem ev_opS {r : R2} {Sb : D → D → Prop} (ha : EvS P ta Γ Ω Sa) (hb : ∀ a, Sa a → EvS P tb Γ Ω (Sb a)) (hr : ∀ a b, Sa a → Sb a b → OpS P r a b S) : EvS P (tOp r ta tb) Γ Ω S := fun _ _ _ _ _ _ c Q q =>
  ha c _ fun x Hf1 H1 a sa s1 i1 => hb a sa (c.mono s1) _ fun y Hf2 H2 b sb s2 i2 =>
    hr a b sa sb ((c.mono s1).mono s2).sub ((c.mono s1).mono s2).pr (i1.mono s2.fr) i2 Q fun v Hf3 H3 d sd s3 i3 => q v Hf3 H3 d sd ((s1.trans s2).trans s3) i3
theorem ev_op {r : R2} (ha : Ev P ta Γ Ω a) (hb : Ev P tb Γ Ω b) (hr : OpS P r a b S) : EvS P (tOp r ta tb) Γ Ω S :=
  ev_opS ha (Sb := fun _ x => x = b) (fun _ _ => hb) (fun a' b' ea eb => by subst ea; subst eb; exact hr)
theorem ev_un {r : V → Hp → VK → Prop} (ha : Ev P ta Γ Ω a) (hr : ∀ {Hf H : Hp} {x : V}, Same Hf H → P.Pr Hf H → Is Hf x a → ∀ Q, Out P Hf H S Q → r x H Q) : EvS P (tUn r ta) Γ Ω S := fun _ _ _ _ _ _ c Q q =>
  ha c _ fun x Hf1 H1 a' ea s1 i1 => by
    subst ea
    exact hr (c.mono s1).sub (c.mono s1).pr i1 Q fun v Hf3 H3 d sd s3 i3 => q v Hf3 H3 d sd (s1.trans s3) i3

/-- operations that make nothing -/
theorem OpS.pure {r : R2} (h : ∀ {Hf H : Hp} {x y : V}, Same Hf H → Is Hf x a → Is Hf y b → ∃ v, Is Hf v d ∧ ∀ Q : VK, Q v H → r x y H Q) : OpS P r a b (fun x => x = d) := fun _ _ _ _ s p ia ib Q q => by
  obtain ⟨v, i, k⟩ := h s ia ib
  exact k Q (q v _ _ d rfl (StepW.refl s p) i)
theorem CaS.pure {r : List V → Hp → VK → Prop} {ds : List D} (h : ∀ {Hf H : Hp} {xs : List V}, Same Hf H → IsAll Hf xs ds → ∃ v, Is Hf v d ∧ ∀ Q : VK, Q v H → r xs H Q) : CaS P r ds (fun x => x = d) := fun _ _ _ s p ia Q q => by
  obtain ⟨v, i, k⟩ := h s ia
  exact k Q (q v _ _ d rfl (StepW.refl s p) i)
theorem o_I0 {g : Int → Int → V} {i j : Int} (h : ∀ H, Is H (g i j) d) : OpS P (rI0 g) (.int i) (.int j) (fun x => x = d) := OpS.pure fun s ia ib => by
  cases ia; cases ib
  exact ⟨_, h _, fun Q q => ⟨i, j, rfl, rfl, q⟩⟩
theorem o_I {C : Int → Int → Prop} {g : Int → Int → V} {i j : Int} (hc : C i j) (h : ∀ H, Is H (g i j) d) : OpS P (rI C g) (.int i) (.int j) (fun x => x = d) := OpS.pure fun s ia ib => by
  cases ia; cases ib
  exact ⟨_, h _, fun Q q => ⟨i, j, rfl, rfl, hc, q⟩⟩
theorem o_add {i j : Int} : OpS P (rI0 fun i j => .int (i + j)) (.int i) (.int j) (fun x => x = .int (i + j)) := o_I0 fun _ => .int _
theorem o_sub {i j : Int} : OpS P (rI0 fun i j => .int (i - j)) (.int i) (.int j) (fun x => x = .int (i - j)) := o_I0 fun _ => .int _
theorem o_mul {i j : Int} (h : CMul i j) : OpS P (rI CMul fun i j => .int (i * j)) (.int i) (.int j) (fun x => x = .int (i * j)) := o_I h fun _ => .int _
theorem o_mod {i j : Int} (h : 0 < j) : OpS P (rI (fun _ j => 0 < j) fun i j => .int (i % j)) (.int i) (.int j) (fun x => x = .int (i % j)) := o_I (C := fun _ j => 0 < j) h fun _ => .int _
theorem o_fdiv {i j : Int} (h : CDiv i j) : OpS P (rI CDiv fun i j => .int (i / j)) (.int i) (.int j) (fun x => x = .int (i / j)) := o_I h fun _ => .int _
theorem o_pow {i j : Int} (h : CPow i j) : OpS P (rI CPow fun i j => .int (i ^ j.toNat)) (.int i) (.int j) (fun x => x = .int (i ^ j.toNat)) := o_I h fun _ => .int _
theorem o_shl {i j : Int} (h : CPow i j) : OpS P (rI CPow fun i j => .int (i * 2 ^ j.toNat)) (.int i) (.int j) (fun x => x = .int (i * 2 ^ j.toNat)) := o_I h fun _ => .int _
theorem o_and {i j : Int} : OpS P (rI0 fun i j => .int (Builtin.bitAnd i j)) (.int i) (.int j) (fun x => x = .int (Builtin.bitAnd i j)) := o_I0 fun _ => .int _
theorem o_cmp {g : Int → Int → Bool} {i j : Int} : OpS P (rI0 fun i j => .bl (g i j)) (.int i) (.int j) (fun x => x = .bl (g i j)) := o_I0 fun _ => .bl _
theorem o_eqI {i j : Int} : OpS P rEq (.int i) (.int j) (fun x => x = .bl (decide (i = j))) := OpS.pure fun s ia ib => by
  cases ia; cases ib
  refine ⟨_, .bl _, fun Q q => ⟨rfl, ?_⟩⟩
  have e : decide (V.int i = V.int j) = decide (i = j) := by
    by_cases h : i = j
    · subst h; simp
    · rw [decide_eq_false h, decide_eq_false (fun q => h (V.int.inj q))]
  rw [e]; exact q
theorem o_neI {i j : Int} : OpS P rNe (.int i) (.int j) (fun x => x = .bl (!decide (i = j))) := OpS.pure fun s ia ib => by
  cases ia; cases ib
  refine ⟨_, .bl _, fun Q q => ⟨rfl, ?_⟩⟩
  have e : decide (V.int i = V.int j) = decide (i = j) := by
    by_cases h : i = j
    · subst h; simp
    · rw [decide_eq_false h, decide_eq_false (fun q => h (V.int.inj q))]
  rw [e]; exact q
theorem o_eqS {i j : Str} : OpS P rEq (.str i) (.str j) (fun x => x = .bl (decide (i = j))) := OpS.pure fun s ia ib => by
  cases ia; cases ib
  refine ⟨_, .bl _, fun Q q => ⟨rfl, ?_⟩⟩
  have e : decide (V.str i = V.str j) = decide (i = j) := by
    by_cases h : i = j
    · subst h; simp
    · rw [decide_eq_false h, decide_eq_false (fun q => h (V.str.inj q))]
  rw [e]; exact q

/-! ### places of sequences -/
theorem at_nat {α : Type} {xs : List α} {n : Nat} {v : α} (h : xs[n]? = some v) : atI xs (n : Int) = some v := atI_nat h
theorem Is.tup_inv {H : Hp} {v : V} {l : List D} (h : Is H v (.tup l)) : ∃ a xs, v = .ref a ∧ H a = some (.tup xs) ∧ IsAll H xs l := by
  cases h with
  | tup e r => exact ⟨_, _, rfl, e, r⟩
theorem Is.lst_inv {H : Hp} {v : V} {l : List D} (h : Is H v (.lst l)) : ∃ a xs, v = .ref a ∧ H a = some (.lst xs) ∧ IsAll H xs l := by
  cases h with
  | lst e r => exact ⟨_, _, rfl, e, r⟩
theorem Is.sem_inv {H : Hp} {v : V} {R : Hp → V → Prop} (h : Is H v (.sem R)) : ∀ H2, Same H H2 → R H2 v := by
  cases h with
  | sem k => exact k
/-- a tuple, of either sort -/
def Tupish (d : D) (l : List D) : Prop := d = .tup l ∨ d = .row l
theorem Is.tupish {H : Hp} {v : V} {d : D} {l : List D} (h : Is H v d) (t : Tupish d l) : ∃ a xs, v = .ref a ∧ (∀ (K : PySem.W.Frag) H2, Same H H2 → SqT K H2 a xs) ∧ IsAll H xs l := by
  rcases t with rfl | rfl
  · cases h with
    | tup e r => exact ⟨_, _, rfl, fun K H2 s => SqT.of (s _ _ e), r⟩
  · cases h with
    | row e c n r => exact ⟨_, _, rfl, fun K H2 s => .inl (.inr ⟨_, s _ _ e⟩), r⟩
theorem o_ixT {l : List D} {n : Nat} (h : l[n]? = some d) (t : Tupish b l := by first | exact Or.inl rfl | exact Or.inr rfl) : OpS P (rIxT K) b (.int (n : Int)) (fun x => x = d) := OpS.pure fun s ia ib => by
  obtain ⟨a, xs, rfl, e, r⟩ := ia.tupish t
  cases ib
  obtain ⟨v, hv, iv⟩ := r.get h
  exact ⟨v, iv, fun Q q => ⟨a, xs, _, v, rfl, rfl, e _ _ s, at_nat hv, q⟩⟩
theorem o_ixL {l : List D} {n : Nat} (h : l[n]? = some d) : OpS P (rIxL K) (.lst l) (.int (n : Int)) (fun x => x = d) := OpS.pure fun s ia ib => by
  obtain ⟨a, xs, rfl, e, r⟩ := ia.lst_inv
  cases ib
  obtain ⟨v, hv, iv⟩ := r.get h
  exact ⟨v, iv, fun Q q => ⟨a, xs, _, v, rfl, rfl, SqL.of (s _ _ e), at_nat hv, q⟩⟩
theorem inV_ints (i : Int) : ∀ ns : List Int, inV (.int i) (ns.map V.int) = decide (i ∈ ns)
  | [] => rfl
  | n :: ns => by
    have ih := inV_ints i ns
    unfold inV at ih ⊢
    rw [List.map_cons, List.any_cons, ih]
    have e : eqV (V.int n) (V.int i) = decide (i = n) := by
      show (n == i) = decide (i = n)
      by_cases h : n = i
      · subst h; simp
      · rw [decide_eq_false (fun q => h q.symm)]; simpa using h
    rw [e]
    by_cases h : i = n
    · subst h; simp
    · rw [decide_eq_false h, Bool.false_or]
      by_cases h2 : i ∈ ns
      · rw [decide_eq_true h2, decide_eq_true (List.mem_cons_of_mem _ h2)]
      · rw [decide_eq_false h2, decide_eq_false (by simp [h, h2])]
theorem flat_ints : ∀ ns : List Int, (ns.map V.int).all flatV = true
  | [] => rfl
  | _ :: ns => by rw [List.map_cons, List.all_cons, flat_ints ns]; rfl
theorem o_inT {neg : Bool} {i : Int} {ns : List Int} (t : Tupish b (ns.map D.int) := by first | exact Or.inl rfl | exact Or.inr rfl) : OpS P (rIn K neg) (.int i) b (fun x => x = .bl (if neg then !decide (i ∈ ns) else decide (i ∈ ns))) := OpS.pure fun s ia ib => by
  obtain ⟨a, xs, rfl, e, r⟩ := ib.tupish t
  cases ia
  have hx := r.ints
  subst hx
  exact ⟨_, .bl _, fun Q q => ⟨a, _, rfl, .inr (e _ _ s), rfl, flat_ints ns, by rw [inV_ints]; exact q⟩⟩
theorem o_inL {neg : Bool} {i : Int} {ns : List Int} : OpS P (rIn K neg) (.int i) (.lst (ns.map D.int)) (fun x => x = .bl (if neg then !decide (i ∈ ns) else decide (i ∈ ns))) := OpS.pure fun s ia ib => by
  obtain ⟨a, xs, rfl, e, r⟩ := ib.lst_inv
  cases ia
  have hx := r.ints
  subst hx
  exact ⟨_, .bl _, fun Q q => ⟨a, _, rfl, .inl (SqL.of (s _ _ e)), rfl, flat_ints ns, by rw [inV_ints]; exact q⟩⟩

/-! ### tests -/
theorem et_B {b : Bool} (h : Ev P te Γ Ω (.bl b)) : EvT P (tB te) Γ Ω b := fun _ _ _ _ _ _ c Q q => h c _ fun v Hf2 H2 d e s i => by
  subst e
  cases i
  exact ⟨b, rfl, q b _ _ rfl s⟩
theorem et_test {b : Bool} (h : Ev P te Γ Ω (.bl b)) : EvT P (tTest te) Γ Ω b := fun _ _ _ _ _ _ c Q q => h c _ fun v Hf2 H2 d e s i => by
  subst e
  cases i
  exact ⟨b, rfl, q b _ _ rfl s⟩
theorem eb_test {S : Bool → Prop} (h : EvS P te Γ Ω (fun d => ∃ b, S b ∧ d = .bl b)) : EvB P (tTest te) Γ Ω S := fun _ _ _ _ _ _ c Q q => h c _ fun v Hf2 H2 d e s i => by
  obtain ⟨b, hb, rfl⟩ := e
  cases i
  exact ⟨b, rfl, q b _ _ hb s⟩
theorem et_and {x y : Bool} (h1 : EvT P tt Γ Ω x) (h2 : x = true → EvT P tu Γ Ω y) : EvT P (tAnd tt tu) Γ Ω (x && y) := fun _ _ _ _ _ _ c Q q => h1 c _ fun b Hf2 H2 e s => by
  subst e
  cases b with
  | true => exact h2 rfl (c.mono s) Q fun b' Hf3 H3 e' s' => q b' _ _ (by subst e'; rfl) (s.trans s')
  | false => exact q false _ _ rfl s
theorem et_or {x y : Bool} (h1 : EvT P tt Γ Ω x) (h2 : x = false → EvT P tu Γ Ω y) : EvT P (tOr tt tu) Γ Ω (x || y) := fun _ _ _ _ _ _ c Q q => h1 c _ fun b Hf2 H2 e s => by
  subst e
  cases b with
  | false => exact h2 rfl (c.mono s) Q fun b' Hf3 H3 e' s' => q b' _ _ (by subst e'; rfl) (s.trans s')
  | true => exact q true _ _ rfl s
theorem et_not {x : Bool} (h1 : EvT P tt Γ Ω x) : EvT P (tNot tt) Γ Ω (!x) := fun _ _ _ _ _ _ c Q q => h1 c _ fun b Hf2 H2 e s => by
  subst e
  exact q _ _ _ rfl s
theorem et_yes : EvT P tYes Γ Ω true := fun _ _ _ _ _ _ c Q q => q true _ _ rfl c.here
theorem ev_andV {x y : Bool} (h1 : Ev P ta Γ Ω (.bl x)) (h2 : x = true → Ev P tb Γ Ω (.bl y)) : Ev P (tAndV ta tb) Γ Ω (.bl (x && y)) := fun _ _ _ _ _ _ c Q q => h1 c _ fun v Hf2 H2 e ee s i => by
  subst ee
  cases i
  refine ⟨x, rfl, ?_⟩
  cases x with
  | true => exact h2 rfl (c.mono s) Q fun v' Hf3 H3 e' ee' s' i' => q v' _ _ e' (by subst ee'; rfl) (s.trans s') i'
  | false => exact q _ _ _ _ rfl s (.bl false)
theorem ev_orV {x y : Bool} (h1 : Ev P ta Γ Ω (.bl x)) (h2 : x = false → Ev P tb Γ Ω (.bl y)) : Ev P (tOrV ta tb) Γ Ω (.bl (x || y)) := fun _ _ _ _ _ _ c Q q => h1 c _ fun v Hf2 H2 e ee s i => by
  subst ee
  cases i
  refine ⟨x, rfl, ?_⟩
  cases x with
  | false => exact h2 rfl (c.mono s) Q fun v' Hf3 H3 e' ee' s' i' => q v' _ _ e' (by subst ee'; rfl) (s.trans s') i'
  | true => exact q _ _ _ _ rfl s (.bl true)
theorem ev_notV {x : Bool} (h1 : Ev P ta Γ Ω (.bl x)) : Ev P (tNotV ta) Γ Ω (.bl (!x)) := fun _ _ _ _ _ _ c Q q => h1 c _ fun v Hf2 H2 e ee s i => by
  subst ee
  cases i
  exact ⟨x, rfl, q _ _ _ _ rfl s (.bl _)⟩
theorem ev_if {x : Bool} (h : EvT P tt Γ Ω x) (h1 : x = true → EvS P ta Γ Ω S) (h2 : x = false → EvS P tb Γ Ω S) : EvS P (tIf tt ta tb) Γ Ω S := fun _ _ _ _ _ _ c Q q => h c _ fun b Hf2 H2 e s => by
  subst e
  cases b with
  | true => exact h1 rfl (c.mono s) Q fun v' Hf3 H3 e' ee' s' i' => q v' _ _ e' ee' (s.trans s') i'
  | false => exact h2 rfl (c.mono s) Q fun v' Hf3 H3 e' ee' s' i' => q v' _ _ e' ee' (s.trans s') i'
theorem ev_ifB {St : Bool → Prop} (h : EvB P tt Γ Ω St) (h1 : St true → EvS P ta Γ Ω S) (h2 : St false → EvS P tb Γ Ω S) : EvS P (tIf tt ta tb) Γ Ω S := fun _ _ _ _ _ _ c Q q => h c _ fun b Hf2 H2 e s => by
  cases b with
  | true => exact h1 e (c.mono s) Q fun v' Hf3 H3 e' ee' s' i' => q v' _ _ e' ee' (s.trans s') i'
  | false => exact h2 e (c.mono s) Q fun v' Hf3 H3 e' ee' s' i' => q v' _ _ e' ee' (s.trans s') i'
/-- a op1 b op2 c -/
theorem ev_chain {r r' : R2} {a b d : D} {x y : Bool} (ha : Ev P ta Γ Ω a) (hb : Ev P tb Γ Ω b) (hr : OpS P r a b (fun z => z = .bl x)) (hc : x = true → Ev P tc Γ Ω d) (hr' : x = true → OpS P r' b d (fun z => z = .bl y)) :
    Ev P (tChain r r' ta tb tc) Γ Ω (.bl (x && y)) := fun _ _ _ _ _ _ c Q q =>
  ha c _ fun u Hf1 H1 a' ea s1 i1 => hb (c.mono s1) _ fun w Hf2 H2 b' eb s2 i2 => by
    subst ea; subst eb
    refine hr ((c.mono s1).mono s2).sub ((c.mono s1).mono s2).pr (i1.mono s2.fr) i2 _ fun z Hf3 H3 e ee s3 i3 => ?_
    subst ee
    cases i3
    refine ⟨x, rfl, ?_⟩
    cases x with
    | false => exact q _ _ _ _ rfl ((s1.trans s2).trans s3) (.bl false)
    | true =>
      refine hc rfl (((c.mono s1).mono s2).mono s3) _ fun z Hf4 H4 e ee s4 i4 => ?_
      subst ee
      have c4 := (((c.mono s1).mono s2).mono s3).mono s4
      exact hr' rfl c4.sub c4.pr (i2.mono (s3.fr.trans s4.fr)) i4 Q fun z Hf5 H5 e ee s5 i5 => q z _ _ e (by subst ee; rfl) (((s1.trans s2).trans s3).trans (s4.trans s5)) i5

/-! ### argument lists, displays, calls of what is built in -/
theorem ea_nil : EvL P tNil Γ Ω [] := fun _ _ _ _ _ _ c Q q => q [] _ _ [] rfl c.here .nil
theorem ea_consS {Sr : D → List D → Prop} {St : List D → Prop} (h : EvS P te Γ Ω S) (hr : ∀ d, S d → EvA P tl Γ Ω (Sr d)) (k : ∀ d ds, S d → Sr d ds → St (d :: ds)) : EvA P (tCons te tl) Γ Ω St := fun _ _ _ _ _ _ c Q q =>
  h c _ fun v Hf1 H1 d sd s1 i1 => hr d sd (c.mono s1) _ fun vs Hf2 H2 ds sds s2 i2 => q (v :: vs) _ _ (d :: ds) (k d ds sd sds) (s1.trans s2) (.cons (i1.mono s2.fr) i2)
theorem ea_cons {ds : List D} (h : Ev P te Γ Ω d) (hr : EvL P tl Γ Ω ds) : EvL P (tCons te tl) Γ Ω (d :: ds) :=
  ea_consS h (Sr := fun _ x => x = ds) (fun _ _ => hr) fun a b ea eb => by rw [ea, eb]
theorem ea_1 (h : Ev P te Γ Ω d) : EvL P (tCons te tNil) Γ Ω [d] := ea_cons h ea_nil
theorem ea_2 (h : Ev P ta Γ Ω a) (h2 : Ev P tb Γ Ω b) : EvL P (tCons ta (tCons tb tNil)) Γ Ω [a, b] := ea_cons h (ea_1 h2)
theorem ev_cb {r : List V → Hp → VK → Prop} {Sl : List D → Prop} (h : EvA P tl Γ Ω Sl) (hr : ∀ ds, Sl ds → CaS P r ds S) : EvS P (tCB r tl) Γ Ω S := fun _ _ _ _ _ _ c Q q =>
  h c _ fun vs Hf1 H1 ds sd s1 i1 => hr ds sd (c.mono s1).sub (c.mono s1).pr i1 Q fun v Hf2 H2 d sd s2 i2 => q v _ _ d sd (s1.trans s2) i2
theorem ev_cb1 {r : List V → Hp → VK → Prop} (h : Ev P te Γ Ω a) (hr : CaS P r [a] S) : EvS P (tCB r (tCons te tNil)) Γ Ω S := ev_cb (ea_1 h) fun ds e => by subst e; exact hr
theorem ev_cb2 {r : List V → Hp → VK → Prop} (h : Ev P ta Γ Ω a) (h2 : Ev P tb Γ Ω b) (hr : CaS P r [a, b] S) : EvS P (tCB r (tCons ta (tCons tb tNil))) Γ Ω S := ev_cb (ea_2 h h2) fun ds e => by subst e; exact hr
theorem lineOf {n : Nat} (h : n ≤ 16777216) : n ≤ sizeLine := by rw [sizeLine_eq]; exact h
theorem lineLt {n : Nat} (h : n < 16777216) : n < sizeLine := by rw [sizeLine_eq]; exact h
theorem ev_tupS {Sl : List D → Prop} (h : EvA P tl Γ Ω Sl) (hl : ∀ ds, Sl ds → ds.length ≤ 16777216) : EvS P (tTup tl) Γ Ω (fun d => ∃ ds, Sl ds ∧ d = .tup ds) := fun _ _ _ _ _ _ c Q q =>
  h c _ fun vs Hf1 H1 ds sd s1 i1 => ⟨lineOf (by rw [i1.length]; exact hl ds sd), fun p hp => by
    have s2 := Step.laid (o := .tup vs) (c.mono s1).sub (c.mono s1).pr hp
    exact q (.ref p) _ _ (.tup ds) ⟨ds, sd, rfl⟩ (s1.trans s2) (.tup upd_same (i1.mono s2.fr))⟩
theorem ev_tup {ds : List D} (h : EvL P tl Γ Ω ds) (hl : ds.length ≤ 16777216) : Ev P (tTup tl) Γ Ω (.tup ds) := EvS.imp (ev_tupS h fun _ e => by rw [e]; exact hl) fun d ⟨_, e, e2⟩ => by rw [e2, e]
theorem ev_lstS {Sl : List D → Prop} (h : EvA P tl Γ Ω Sl) (hl : ∀ ds, Sl ds → ds.length ≤ 16777216) : EvS P (tLst tl) Γ Ω (fun d => ∃ ds, Sl ds ∧ d = .lst ds) := fun _ _ _ _ _ _ c Q q =>
  h c _ fun vs Hf1 H1 ds sd s1 i1 => ⟨lineOf (by rw [i1.length]; exact hl ds sd), fun p hp => by
    have s2 := Step.laid (o := .lst vs) (c.mono s1).sub (c.mono s1).pr hp
    exact q (.ref p) _ _ (.lst ds) ⟨ds, sd, rfl⟩ (s1.trans s2) (.lst upd_same (i1.mono s2.fr))⟩
theorem ev_lst {ds : List D} (h : EvL P tl Γ Ω ds) (hl : ds.length ≤ 16777216) : Ev P (tLst tl) Γ Ω (.lst ds) := EvS.imp (ev_lstS h fun _ e => by rw [e]; exact hl) fun d ⟨_, e, e2⟩ => by rw [e2, e]
theorem c_lenL {l : List D} : CaS P (rLen K) [.lst l] (fun x => x = .int (l.length : Int)) := CaS.pure fun s ia => by
  obtain ⟨v, rfl, i⟩ := ia.one_inv
  obtain ⟨a, xs, rfl, e, r⟩ := i.lst_inv
  exact ⟨_, .int _, fun Q q => ⟨_, _, rfl, .inl ⟨xs, SqL.of (s _ _ e), rfl⟩, by rw [r.length]; exact q⟩⟩
theorem c_lenT {l : List D} (t : Tupish b l := by first | exact Or.inl rfl | exact Or.inr rfl) : CaS P (rLen K) [b] (fun x => x = .int (l.length : Int)) := CaS.pure fun s ia => by
  obtain ⟨v, rfl, i⟩ := ia.one_inv
  obtain ⟨a, xs, rfl, e, r⟩ := i.tupish t
  exact ⟨_, .int _, fun Q q => ⟨_, _, rfl, .inr ⟨xs, e _ _ s, rfl⟩, by rw [r.length]; exact q⟩⟩
/-- any, all, sum of a list -/
theorem c_any {bs : List Bool} : CaS P (rAny K) [.lst (bs.map D.bl)] (fun x => x = .bl (bs.any id)) := CaS.pure fun s ia => by
  obtain ⟨v, rfl, i⟩ := ia.one_inv
  obtain ⟨a, xs, rfl, e, r⟩ := i.lst_inv
  have hx := r.bls
  subst hx
  exact ⟨_, .bl _, fun Q q => ⟨a, bs, rfl, SqL.of (s _ _ e), q⟩⟩
theorem c_all {bs : List Bool} : CaS P (rAll K) [.lst (bs.map D.bl)] (fun x => x = .bl (bs.all id)) := CaS.pure fun s ia => by
  obtain ⟨v, rfl, i⟩ := ia.one_inv
  obtain ⟨a, xs, rfl, e, r⟩ := i.lst_inv
  have hx := r.bls
  subst hx
  exact ⟨_, .bl _, fun Q q => ⟨a, bs, rfl, SqL.of (s _ _ e), q⟩⟩
theorem c_sum {ns : List Int} : CaS P (rSum K) [.lst (ns.map D.int)] (fun x => x = .int ns.sum) := CaS.pure fun s ia => by
  obtain ⟨v, rfl, i⟩ := ia.one_inv
  obtain ⟨a, xs, rfl, e, r⟩ := i.lst_inv
  have hx := r.ints
  subst hx
  exact ⟨_, .int _, fun Q q => ⟨a, ns, rfl, SqL.of (s _ _ e), q⟩⟩
theorem c_max2 {i j : Int} : CaS P rMax2' [.int i, .int j] (fun x => x = .int (if j > i then j else i)) := CaS.pure fun s ia => by
  obtain ⟨v, w, rfl, a, b⟩ := ia.two_inv
  cases a; cases b
  exact ⟨_, .int _, fun Q q => ⟨i, j, rfl, q⟩⟩
theorem c_int {i : Int} : CaS P rInt1 [.int i] (fun x => x = .int i) := CaS.pure fun s ia => by
  obtain ⟨v, rfl, a⟩ := ia.one_inv
  cases a
  exact ⟨_, .int _, fun Q q => .inl ⟨i, rfl, q⟩⟩
/-- tuple(list), list(list), list(tuple) -/
theorem c_tupleL {l : List D} : CaS P (rTuple K) [.lst l] (fun x => x = .tup l) := fun _ _ _ s p ia Q q => by
  obtain ⟨v, rfl, i⟩ := ia.one_inv
  obtain ⟨a, xs, rfl, e, r⟩ := i.lst_inv
  refine ⟨a, xs, rfl, .inl ⟨SqL.of (s _ _ e), fun t ht => ?_⟩⟩
  have s2 := Step.laid (o := .tup xs) s p ht
  exact q _ _ _ _ rfl s2 (.tup upd_same (r.mono s2.fr))
theorem c_listL {l : List D} : CaS P (rList K) [.lst l] (fun x => x = .lst l) := fun _ _ _ s p ia Q q => by
  obtain ⟨v, rfl, i⟩ := ia.one_inv
  obtain ⟨a, xs, rfl, e, r⟩ := i.lst_inv
  refine ⟨a, xs, rfl, .inl (SqL.of (s _ _ e)), fun t ht => ?_⟩
  have s2 := Step.laid (o := .lst xs) s p ht
  exact q _ _ _ _ rfl s2 (.lst upd_same (r.mono s2.fr))
theorem c_listT {l : List D} : CaS P (rList K) [.tup l] (fun x => x = .lst l) := fun _ _ _ s p ia Q q => by
  obtain ⟨v, rfl, i⟩ := ia.one_inv
  obtain ⟨a, xs, rfl, e, r⟩ := i.tup_inv
  refine ⟨a, xs, rfl, .inr (SqT.of (s _ _ e)), fun t ht => ?_⟩
  have s2 := Step.laid (o := .lst xs) s p ht
  exact q _ _ _ _ rfl s2 (.lst upd_same (r.mono s2.fr))
/-- list + list -/
theorem o_cat {l m : List D} (h : l.length + m.length ≤ 16777216) : OpS P rCat (.lst l) (.lst m) (fun x => x = .lst (l ++ m)) := fun _ _ _ _ s p ia ib Q q => by
  obtain ⟨a, xs, rfl, e, r⟩ := ia.lst_inv
  obtain ⟨b, ys, rfl, e', r'⟩ := ib.lst_inv
  refine ⟨a, b, xs, ys, rfl, rfl, s _ _ e, s _ _ e', lineOf (by rw [r.length, r'.length]; exact h), fun t ht => ?_⟩
  have s2 := Step.laid (o := .lst (xs ++ ys)) s p ht
  exact q _ _ _ _ rfl s2 (.lst upd_same ((r.append r').mono s2.fr))
end
end DL
set_option Elab.async false
set_option linter.all false
set_option autoImplicit false
set_option maxRecDepth 100000
set_option maxHeartbeats 4000000
/-! DL3: what is walked, targets, comprehensions, statements, loops, defs and calls. -/
namespace DL
open L2 PySem

section
variable {P Pq : Proto} {W : Addr → Prop} {Γ Γ' : En} {Ω Ω' : Ow} {te ta tb tc : TE} {tt tu : TT} {tl : TA} {S S' Sa : D → Prop} {a b d : D} {K : PySem.W.Frag}

/-! ### sources -/
def ItOk (P : Proto) (J : It) (Hf1 : Hp) (l : List D) : Prop := ∀ Hf H, Same Hf1 Hf → Same Hf H → P.Pr Hf H →
  (∀ i, i < l.length → J.go i H) ∧ (∀ i, l.length ≤ i → J.stop i H) ∧ ∀ i x H' d, J.yld i H x H' → l[i]? = some d → ∃ Hf', Step P Hf H Hf' H' ∧ Is Hf' x d
def SrcS (P : Proto) (wi : TI) (Γ : En) (Ω : Ow) (Sl : List D → Prop) : Prop :=
  ∀ ⦃W : Addr → Prop⦄ ⦃Hf0 H0 : Hp⦄ ⦃σ : St⦄ ⦃Hf H : Hp⦄, At P W Hf0 H0 Γ Ω σ Hf H → ∀ R : It → Hp → Prop, (∀ J Hf2 H2 l, Sl l → Step P Hf H Hf2 H2 → ItOk P J Hf2 l → R J H2) → wi σ H R
abbrev Src (P : Proto) (wi : TI) (Γ : En) (Ω : Ow) (l : List D) : Prop := SrcS P wi Γ Ω (fun x => x = l)
theorem here_of {Hf H : Hp} (s : Same Hf H) (p : P.Pr Hf H) : Step P Hf H Hf H := StepW.refl s p
theorem src_listS {Sl : List D → Prop} (h : EvS P te Γ Ω (fun d => ∃ l, Sl l ∧ d = .lst l)) : SrcS P (iList K te) Γ Ω Sl := fun _ _ _ _ _ _ c R q => h c _ fun v Hf2 H2 d e s i => by
  obtain ⟨l, hl, rfl⟩ := e
  obtain ⟨a, xs, rfl, ea, r⟩ := i.lst_inv
  refine ⟨a, rfl, ⟨xs, SqL.of (s.sub _ _ ea)⟩, q _ Hf2 H2 l hl s fun Hf H e1 e2 p => ?_⟩
  have hq : SqL K H a xs := SqL.of (e2 _ _ (e1 _ _ ea))
  refine ⟨fun i hi => ⟨xs, xs[i]'(by rw [r.length]; exact hi), hq, List.getElem?_eq_getElem _⟩, fun i hi => ⟨xs, hq, by rw [r.length]; exact hi⟩, fun i x H' d y hd => ?_⟩
  obtain ⟨rfl, y⟩ := y
  obtain ⟨v, hv, iv⟩ := r.get hd
  have e : x = v := by
    have := y xs hq
    rw [hv] at this
    exact (Option.some.inj this).symm
  subst e
  exact ⟨Hf, here_of e2 p, iv.mono e1⟩
theorem src_list {l : List D} (h : Ev P te Γ Ω (.lst l)) : Src P (iList K te) Γ Ω l := src_listS (EvS.imp h fun d e => ⟨l, rfl, e⟩)
theorem src_tupS {Sl : List D → Prop} (h : EvS P te Γ Ω (fun d => ∃ l, Sl l ∧ Tupish d l)) : SrcS P (iTup K te) Γ Ω Sl := fun _ _ _ _ _ _ c R q => h c _ fun v Hf2 H2 d e s i => by
  obtain ⟨l, hl, t⟩ := e
  obtain ⟨a, xs, rfl, ea, r⟩ := i.tupish t
  refine ⟨a, rfl, ⟨xs, ea _ _ s.sub⟩, q _ Hf2 H2 l hl s fun Hf H e1 e2 p => ?_⟩
  have hq : SqT K H a xs := ea _ _ (e1.trans e2)
  refine ⟨fun i hi => ⟨xs, xs[i]'(by rw [r.length]; exact hi), hq, List.getElem?_eq_getElem _⟩, fun i hi => ⟨xs, hq, by rw [r.length]; exact hi⟩, fun i x H' d y hd => ?_⟩
  obtain ⟨rfl, y⟩ := y
  obtain ⟨v, hv, iv⟩ := r.get hd
  have e : x = v := by
    have := y xs hq
    rw [hv] at this
    exact (Option.some.inj this).symm
  subst e
  exact ⟨Hf, here_of e2 p, iv.mono e1⟩
theorem src_tup {l : List D} (h : Ev P te Γ Ω b) (t : Tupish b l := by first | exact Or.inl rfl | exact Or.inr rfl) : Src P (iTup K te) Γ Ω l := src_tupS (EvS.imp h fun d e => ⟨l, rfl, by rw [e]; exact t⟩)
def natsD (lo n : Nat) : List D := (List.range n).map fun i => D.int ((lo + i : Nat) : Int)
theorem natsD_length (lo n : Nat) : (natsD lo n).length = n := by simp [natsD]
theorem natsD_get {lo n i : Nat} (h : i < n) : (natsD lo n)[i]? = some (.int ((lo + i : Nat) : Int)) := by
  unfold natsD
  rw [List.getElem?_map, List.getElem?_range h]
  rfl
theorem natsD_some {lo n i : Nat} {d : D} (h : (natsD lo n)[i]? = some d) : i < n ∧ d = .int ((lo + i : Nat) : Int) := by
  have hl : i < n := by
    have := (List.getElem?_eq_some_iff.mp h).1
    rwa [natsD_length] at this
  rw [natsD_get hl] at h
  exact ⟨hl, (Option.some.inj h).symm⟩
theorem rng_ok {Hf : Hp} {lo n : Nat} : ItOk P (Itr (lo : Int) n) Hf (natsD lo n) := fun Hf H e1 e2 p => by
  refine ⟨fun i hi => by rw [natsD_length] at hi; exact hi, fun i hi => by rw [natsD_length] at hi; exact hi, fun i x H' d y hd => ?_⟩
  obtain ⟨rfl, rfl⟩ := y
  obtain ⟨_, rfl⟩ := natsD_some hd
  refine ⟨Hf, here_of e2 p, ?_⟩
  have e : ((lo + i : Nat) : Int) = (lo : Int) + (i : Int) := by omega
  rw [e]
  exact .int _
theorem src_range1 {n : Nat} (h : EvL P tl Γ Ω [.int (n : Int)]) (hn : n < 2 ^ 62) : Src P (iRng1 tl) Γ Ω (natsD 0 n) := fun _ _ _ _ _ _ c R q => h c _ fun vs Hf2 H2 ds e s i => by
  subst e
  obtain ⟨v, rfl, iv⟩ := i.one_inv
  cases iv
  refine ⟨(n : Int), rfl, by omega, by omega, q _ _ _ _ rfl s ?_⟩
  rw [Int.toNat_natCast]
  exact rng_ok (lo := 0)
theorem src_range2 {lo hi : Nat} (h : EvL P tl Γ Ω [.int (lo : Int), .int (hi : Int)]) (h1 : lo < 2 ^ 62) (h2 : hi < 2 ^ 62) : Src P (iRng2 tl) Γ Ω (natsD lo (hi - lo)) := fun _ _ _ _ _ _ c R q => h c _ fun vs Hf2 H2 ds e s i => by
  subst e
  obtain ⟨v, w, rfl, iv, iw⟩ := i.two_inv
  cases iv; cases iw
  refine ⟨(lo : Int), (hi : Int), rfl, by omega, q _ _ _ _ rfl s ?_⟩
  have e : ((hi : Int) - (lo : Int)).toNat = hi - lo := by omega
  rw [e]
  exact rng_ok

/-! ### targets -/
def GtS (g : TG) (d : D) (Γ Γ' : En) : Prop := ∀ ⦃P : Proto⦄ ⦃W : Addr → Prop⦄ ⦃Hf0 H0 : Hp⦄ ⦃Ω : Ow⦄ ⦃σ : St⦄ ⦃Hf H : Hp⦄ ⦃v : V⦄, At P W Hf0 H0 Γ Ω σ Hf H → Is Hf v d →
  ∀ Q : St → Hp → Prop, (∀ σ', At P W Hf0 H0 Γ' Ω σ' Hf H → Q σ' H) → g v σ H Q
/-- .. by slots of vs alone -/
def GtV (vs : List Nat) (g : TG) (d : D) (Γ Γ' : En) : Prop := ∀ ⦃P : Proto⦄ ⦃W : Addr → Prop⦄ ⦃Hf0 H0 : Hp⦄ ⦃Ω : Ow⦄ ⦃σ : St⦄ ⦃Hf H : Hp⦄ ⦃v : V⦄, At P W Hf0 H0 Γ Ω σ Hf H → Is Hf v d →
  ∀ Q : St → Hp → Prop, (∀ σ', L2.wipe σ' vs = L2.wipe σ vs → At P W Hf0 H0 Γ' Ω σ' Hf H → Q σ' H) → g v σ H Q
theorem wipe_set {σ : St} {x : Option V} : ∀ {vs : List Nat} {j : Nat}, j ∈ vs → L2.wipe (σ.set j x) vs = L2.wipe σ vs
  | v :: vs, j, h => by
    unfold L2.wipe
    by_cases e : v = j
    · subst e
      by_cases h2 : v ∈ vs
      · rw [wipe_set h2]
      · have key : ∀ (vs : List Nat), v ∉ vs → L2.wipe (σ.set v x) vs = (L2.wipe σ vs).set v x := by
          intro vs
          induction vs with
          | nil => intro _; rfl
          | cons u us ih =>
            intro hn
            unfold L2.wipe
            rw [ih (fun z => hn (List.mem_cons_of_mem _ z)), List.set_comm _ _ (fun z => hn (by rw [z]; exact List.mem_cons_self))]
        rw [key vs h2, List.set_set]
    · rw [wipe_set (vs := vs) (by rcases List.mem_cons.mp h with z | z; exact absurd z.symm e; exact z)]
theorem wipe_idem {σ : St} (vs : List Nat) : L2.wipe (L2.wipe σ vs) vs = L2.wipe σ vs := by
  have key : ∀ us : List Nat, (∀ u ∈ us, u ∈ vs) → L2.wipe (L2.wipe σ us) vs = L2.wipe σ vs := by
    intro us
    induction us with
    | nil => intro _; rfl
    | cons u us ih =>
      intro h
      show L2.wipe ((L2.wipe σ us).set u none) vs = L2.wipe σ vs
      rw [wipe_set (h u List.mem_cons_self), ih fun x hx => h x (List.mem_cons_of_mem _ hx)]
  exact key vs fun _ h => h
theorem gt_name {i : Nat} : GtS (gName i) d Γ (Γ.set i (some d)) := fun _ _ _ _ _ _ _ _ _ c iv Q q => q _ (c.set iv)
theorem gv_name {vs : List Nat} {i : Nat} (h : i ∈ vs) : GtV vs (gName i) d Γ (Γ.set i (some d)) := fun _ _ _ _ _ _ _ _ _ c iv Q q => q _ (wipe_set h) (c.set iv)
theorem gt_two {i j : Nat} {x y : D} : GtS (gTup K 2 (gCons (gName i) (gCons (gName j) gNil))) (.tup [x, y]) Γ ((Γ.set i (some x)).set j (some y)) := fun _ _ _ _ _ _ _ _ _ c iv Q q => by
  obtain ⟨a, xs, rfl, e, r⟩ := iv.tup_inv
  obtain ⟨v, w, rfl, i1, i2⟩ := r.two_inv
  exact ⟨a, _, rfl, SqT.of (c.sub _ _ e), rfl, v, [w], rfl, w, [], rfl, rfl, q _ ((c.set i1).set i2)⟩
theorem gv_two {vs : List Nat} {i j : Nat} {x y : D} (hi : i ∈ vs) (hj : j ∈ vs) : GtV vs (gTup K 2 (gCons (gName i) (gCons (gName j) gNil))) (.tup [x, y]) Γ ((Γ.set i (some x)).set j (some y)) := fun _ _ _ _ _ _ _ _ _ c iv Q q => by
  obtain ⟨a, xs, rfl, e, r⟩ := iv.tup_inv
  obtain ⟨v, w, rfl, i1, i2⟩ := r.two_inv
  exact ⟨a, _, rfl, SqT.of (c.sub _ _ e), rfl, v, [w], rfl, w, [], rfl, rfl, q _ (by rw [wipe_set hj, wipe_set hi]) ((c.set i1).set i2)⟩

/-! ### a list that is being made -/
theorem Step.put {Hf H Hf2 H2 : Hp} {p : Addr} {o : HO} (s : Step P Hf H Hf2 H2) (h : H p = none) (h2 : H2 p ≠ none) (hf : Hf2 p = none) (m : ¬ P.M p) (ho : ∀ xs, o ≠ .tup xs := by intro xs z; cases z) : Step P Hf H Hf2 (upd H2 p o) := by
  have nm : ∀ x, P.M x → x ≠ p := fun x z e => m (e ▸ z)
  refine ⟨s.fr, fun a u e => ?_, s.new, fun a u hm hw e => ?_, fun a e => ?_, fun a n => ?_, P.stab Hf2 H2 _ _ s.pr (Same.refl _) (fun a z => upd_ne (nm a z)) (fun a z => (P.dom _ _ a s.pr z).1)⟩
  · rw [upd_ne (ne_of_none e hf)]; exact s.sub a u e
  · rw [upd_ne (ne_of_none e h)]; exact s.keep a u hm hw e
  · by_cases q : a = p
    · subst q; rw [upd_same]; exact fun z => nomatch z
    · rw [upd_ne q]; exact s.dom a e
  · obtain ⟨u, e, z⟩ := s.ntk a n
    exact ⟨u, by rw [upd_ne (nt_ne h n)]; exact e, z⟩
theorem Step.fix {Hf H Hf2 H2 : Hp} {p : Addr} {o : HO} (s : Step P Hf H Hf2 H2) (h : H p = none) (h2 : H2 p = some o) (hf : Hf2 p = none) (m : ¬ P.M p) : Step P Hf H (upd Hf2 p o) H2 := by
  have sm : Same Hf2 (upd Hf2 p o) := fun a u e => by rw [upd_ne (ne_of_none e hf)]; exact e
  refine ⟨s.fr.trans sm, fun a u e => ?_, fun a n z => ?_, s.keep, s.dom, s.ntk, P.stab Hf2 H2 _ _ s.pr sm (fun _ _ => rfl) (fun a z => ?_)⟩
  · by_cases q : a = p
    · subst q; rw [upd_same] at e; cases e; exact h2
    · rw [upd_ne q] at e; exact s.sub a u e
  · by_cases q : a = p
    · subst q; exact fun n => n.some h
    · rw [upd_ne q] at z; exact s.new a n z
  · have : a ≠ p := fun e => m (e ▸ z)
    rw [upd_ne this]; exact (P.dom _ _ a s.pr z).1

/-- a list comprehension, by what holds of the list so far -/
theorem ev_lcS {wi : TI} {g : TG} {vs : List Nat} {Sl : List D → Prop} (hs : SrcS P wi Γ Ω Sl) (hlen : ∀ l, Sl l → l.length < 16777216) (J : List D → Nat → List D → Prop) (h0 : ∀ l, Sl l → J l 0 [])
    (turn : ∀ l i d acc, Sl l → l[i]? = some d → acc.length ≤ i → J l i acc → ∃ Γd, GtV vs g d (wipeE Γ vs) Γd ∧ ∃ Sb : Bool → Prop, EvB P tt Γd Ω Sb ∧ (Sb false → J l (i + 1) acc) ∧ (Sb true → ∃ Se : D → Prop, EvS P te Γd Ω Se ∧ ∀ e, Se e → J l (i + 1) (acc ++ [e]))) :
    EvS P (tLc wi g tt te vs) Γ Ω (fun d => ∃ l out, Sl l ∧ J l l.length out ∧ d = .lst out) := by
  intro W Hf0 H0 σ Hf H c Q q
  refine hs c _ fun It Hf1 H1 l hl s1 ok D hD => ?_
  have c1 := c.mono s1
  have nM : ¬ P.M D := fun m => (P.dom _ _ D c1.pr m).2.some hD
  refine ⟨fun i m Hi => m = l.length - i ∧ i ≤ l.length ∧ ∃ Hfi xs acc, Step P Hf1 H1 Hfi Hi ∧ Hi D = some (.lst xs) ∧ Hfi D = none ∧ IsAll Hfi xs acc ∧ acc.length ≤ i ∧ J l i acc, ⟨l.length, by omega, Nat.zero_le _, Hf1, [], [], Step.own c1.sub c1.pr hD, upd_same, c1.sub.free hD, .nil, Nat.le_refl _, h0 l hl⟩, ?_⟩
  rintro i m Hi ⟨rfl, hi, Hfi, xs, acc, si, eD, fD, ra, la, j⟩
  have ci := c1.mono si
  obtain ⟨go, stop, yld⟩ := ok Hfi Hi si.fr ci.sub ci.pr
  by_cases hlt : i < l.length
  · refine .inr ⟨go i hlt, fun Hn => i + 1 ≤ l.length ∧ ∃ Hfi xs acc, Step P Hf1 H1 Hfi Hn ∧ Hn D = some (.lst xs) ∧ Hfi D = none ∧ IsAll Hfi xs acc ∧ acc.length ≤ i + 1 ∧ J l (i + 1) acc, fun Hn z => ⟨l.length - (i + 1), by omega, rfl, z⟩, fun x H' y => ?_⟩
    have hd : l[i]? = some l[i] := List.getElem?_eq_getElem hlt
    obtain ⟨Hf', s', ix⟩ := yld i x H' _ y hd
    obtain ⟨Γd, gt, Sb, eb, j0, j1⟩ := turn l i _ acc hl hd la j
    have c' := (ci.mono s').wipe vs
    refine gt c' ix _ fun σ2 hw c2 => ?_
    refine ⟨by rw [hw, wipe_idem], ?_⟩
    have pD : ∀ {Hfa Ha Hfb Hb : Hp}, Step P Hfa Ha Hfb Hb → Ha D = some (.lst xs) → Hfa D = none → Hb D = some (.lst xs) ∧ Hfb D = none := fun s e f => by
      obtain ⟨e1, e2⟩ := s.pres nM (fun z => z) f (NT.of e)
      exact ⟨e1.trans e, e2⟩
    obtain ⟨eD', fD'⟩ := pD s' eD fD
    refine eb c2 _ fun bb Hf3 H3 hb s3 => ?_
    obtain ⟨eD3, fD3⟩ := pD s3 eD' fD'
    cases bb with
    | false =>
      rw [if_neg Bool.false_ne_true]
      exact ⟨hlt, Hf3, xs, acc, (si.trans s').trans s3, eD3, fD3, ra.mono (s'.fr.trans s3.fr), by omega, j0 hb⟩
    | true =>
      rw [if_pos rfl]
      obtain ⟨Se, ee, j2⟩ := j1 hb
      refine ee (c2.mono s3) _ fun y Hf4 H4 e he s4 iy => ?_
      obtain ⟨eD4, fD4⟩ := pD s4 eD3 fD3
      have hx : xs.length = acc.length := ra.length
      have hll := hlen l hl
      refine ⟨xs, eD4, lineLt (by omega), hlt, Hf4, xs ++ [y], acc ++ [e], ?_, upd_same, fD4, (ra.mono ((s'.fr.trans s3.fr).trans s4.fr)).append (.one iy), by rw [List.length_append, List.length_singleton]; omega, j2 e he⟩
      exact Step.put (((si.trans s').trans s3).trans s4) hD (by rw [eD4]; exact fun z => nomatch z) fD4 nM
  · have e : i = l.length := by omega
    subst e
    refine .inl ⟨stop _ (Nat.le_refl _), ?_⟩
    have fx := Step.fix si hD eD fD nM
    refine q _ _ _ _ ⟨l, acc, hl, j, rfl⟩ (s1.trans fx) (.lst upd_same (ra.mono fun a u e => ?_))
    rw [upd_ne (ne_of_none e fD)]; exact e
/-- .. of which all is known -/
theorem ev_lc {α : Type} {wi : TI} {g : TG} {vs : List Nat} (xs : List α) (emb : α → D) (p : α → Bool) (f : α → D) (hs : Src P wi Γ Ω (xs.map emb)) (hlen : xs.length < 16777216)
    (turn : ∀ (i : Nat) x, xs[i]? = some x → ∃ Γd, GtV vs g (emb x) (wipeE Γ vs) Γd ∧ EvT P tt Γd Ω (p x) ∧ (p x = true → Ev P te Γd Ω (f x))) :
    Ev P (tLc wi g tt te vs) Γ Ω (.lst ((xs.filter p).map f)) := by
  refine EvS.imp (ev_lcS hs (fun l e => by subst e; rw [List.length_map]; exact hlen) (fun l i acc => acc = ((xs.take i).filter p).map f) (fun _ _ => rfl) fun l i d acc e hd _ hj => ?_) fun d ⟨l, out, e, hj, ed⟩ => ?_
  · subst e
    rw [List.getElem?_map] at hd
    cases hx : xs[i]? with
    | none => rw [hx] at hd; cases hd
    | some x =>
      rw [hx] at hd
      obtain rfl : emb x = d := Option.some.inj hd
      obtain ⟨Γd, gt, et, ee⟩ := turn i x hx
      have ht : xs.take (i + 1) = xs.take i ++ [x] := by rw [List.take_succ, hx]; rfl
      refine ⟨Γd, gt, _, et, fun hb => ?_, fun hb => ⟨_, ee hb.symm, fun e he => ?_⟩⟩
      · rw [hj, ht, List.filter_append, List.filter_cons, if_neg (by rw [← hb]; decide), List.filter_nil, List.append_nil]
      · rw [he, hj, ht, List.filter_append, List.filter_cons, if_pos hb.symm, List.filter_nil, List.map_append]
        rfl
  · subst e
    rw [ed, hj, List.length_map, List.take_length]
theorem filter_true {α : Type} (xs : List α) : xs.filter (fun _ => true) = xs := by
  induction xs with
  | nil => rfl
  | cons x xs ih => rw [List.filter_cons, if_pos rfl, ih]
theorem ev_lcMap {α : Type} {wi : TI} {g : TG} {vs : List Nat} (xs : List α) (emb : α → D) (f : α → D) (hs : Src P wi Γ Ω (xs.map emb)) (hlen : xs.length < 16777216)
    (turn : ∀ (i : Nat) x, xs[i]? = some x → ∃ Γd, GtV vs g (emb x) (wipeE Γ vs) Γd ∧ Ev P te Γd Ω (f x)) :
    Ev P (tLc wi g tYes te vs) Γ Ω (.lst (xs.map f)) := by
  have h := ev_lc (tt := tYes) xs emb (fun _ => true) f hs hlen fun i x hx => by
    obtain ⟨Γd, a, b⟩ := turn i x hx
    exact ⟨Γd, a, et_yes, fun _ => b⟩
  rw [filter_true] at h
  exact h

/-! ### statements -/
structure Po where
  N : En → Ow → Prop
  R : D → Ow → Prop
  B : En → Ow → Prop := fun _ _ => False
  C : En → Ow → Prop := fun _ _ => False
def StS (P : Proto) (W : Addr → Prop) (ts : TS) (Γ : En) (Ω : Ow) (po : Po) : Prop :=
  ∀ ⦃Hf0 H0 : Hp⦄ ⦃σ : St⦄ ⦃Hf H : Hp⦄, At P W Hf0 H0 Γ Ω σ Hf H → ∀ De : Ends,
    (∀ Γ' Ω' σ' Hf' H', po.N Γ' Ω' → At P W Hf0 H0 Γ' Ω' σ' Hf' H' → Same Hf Hf' → De.nx σ' H') →
    (∀ v Γ' Ω' σ' Hf' H' d, po.R d Ω' → At P W Hf0 H0 Γ' Ω' σ' Hf' H' → Is Hf' v d → De.rt v H') →
    (∀ Γ' Ω' σ' Hf' H', po.B Γ' Ω' → At P W Hf0 H0 Γ' Ω' σ' Hf' H' → Same Hf Hf' → De.bk σ' H') →
    (∀ Γ' Ω' σ' Hf' H', po.C Γ' Ω' → At P W Hf0 H0 Γ' Ω' σ' Hf' H' → Same Hf Hf' → De.ct σ' H') → ts De σ H
variable {ts tv : TS} {po : Po}
theorem StS.imp {po' : Po} (h : StS P W ts Γ Ω po) (n : ∀ G O, po.N G O → po'.N G O) (r : ∀ d O, po.R d O → po'.R d O) (b : ∀ G O, po.B G O → po'.B G O) (k : ∀ G O, po.C G O → po'.C G O) : StS P W ts Γ Ω po' :=
  fun _ _ _ _ _ c De hn hr hb hc => h c De (fun G O σ' Hf' H' z => hn G O σ' Hf' H' (n G O z)) (fun v G O σ' Hf' H' d z => hr v G O σ' Hf' H' d (r d O z)) (fun G O σ' Hf' H' z => hb G O σ' Hf' H' (b G O z)) (fun G O σ' Hf' H' z => hc G O σ' Hf' H' (k G O z))
theorem st_seq {M : En → Ow → Prop} (h : StS P W ts Γ Ω { po with N := M }) (k : ∀ G O, M G O → StS P W tv G O po) : StS P W (tSeq ts tv) Γ Ω po :=
  fun _ _ _ _ _ c De hn hr hb hc => h c _ (fun G O σ' Hf' H' m c' e => k G O m c' De (fun G O σ' Hf' H' z c' e' => hn G O σ' Hf' H' z c' (e.trans e')) hr (fun G O σ' Hf' H' z c' e' => hb G O σ' Hf' H' z c' (e.trans e')) (fun G O σ' Hf' H' z c' e' => hc G O σ' Hf' H' z c' (e.trans e'))) hr hb hc
theorem st_next (h : po.N Γ Ω) : StS P W tNext Γ Ω po := fun _ _ _ _ _ c De hn hr hb hc => hn _ _ _ _ _ h c (Same.refl _)
theorem st_break (h : po.B Γ Ω) : StS P W tBreak Γ Ω po := fun _ _ _ _ _ c De hn hr hb hc => hb _ _ _ _ _ h c (Same.refl _)
theorem st_cont (h : po.C Γ Ω) : StS P W tCont Γ Ω po := fun _ _ _ _ _ c De hn hr hb hc => hc _ _ _ _ _ h c (Same.refl _)
theorem st_ret (h : EvS P te Γ Ω S) (k : ∀ d, S d → po.R d Ω) : StS P W (tRet te) Γ Ω po := fun _ _ _ _ _ c De hn hr hb hc => h c _ fun v Hf2 H2 d sd s i => hr v _ _ _ _ _ d (k d sd) (c.mono s) i
theorem st_retN (h : po.R .non Ω) : StS P W tRetN Γ Ω po := fun _ _ _ _ _ c De hn hr hb hc => hr _ _ _ _ _ _ .non h c .non
theorem st_set {i : Nat} (h : EvS P te Γ Ω S) (k : ∀ d, S d → po.N (Γ.set i (some d)) Ω) : StS P W (tAsg te (gName i)) Γ Ω po :=
  fun _ _ _ _ _ c De hn hr hb hc => h c _ fun v Hf2 H2 d sd s iv => hn _ _ _ _ _ (k d sd) ((c.mono s).set iv) s.fr
theorem q_set {i : Nat} (h : EvS P te Γ Ω S) (k : ∀ d, S d → StS P W tv (Γ.set i (some d)) Ω po) : StS P W (tSeq (tAsg te (gName i)) tv) Γ Ω po :=
  st_seq (M := fun G O => ∃ d, S d ∧ G = Γ.set i (some d) ∧ O = Ω) (st_set h fun d sd => ⟨d, sd, rfl, rfl⟩) fun G O z => by
    obtain ⟨d, sd, e1, e2⟩ := z
    subst e1; subst e2; exact k d sd
theorem q_setd {i : Nat} (h : Ev P te Γ Ω d) (k : StS P W tv (Γ.set i (some d)) Ω po) : StS P W (tSeq (tAsg te (gName i)) tv) Γ Ω po := q_set h fun _ e => by subst e; exact k
theorem st_asg {g : TG} (h : EvS P te Γ Ω S) (k : ∀ d, S d → ∃ G, GtS g d Γ G ∧ po.N G Ω) : StS P W (tAsg te g) Γ Ω po :=
  fun _ _ _ _ _ c De hn hr hb hc => h c _ fun v Hf2 H2 d sd s iv => by
    obtain ⟨G, gt, n⟩ := k d sd
    exact gt (c.mono s) iv _ fun σ' c' => hn _ _ _ _ _ n c' s.fr
theorem q_asg {g : TG} (h : EvS P te Γ Ω S) (k : ∀ d, S d → ∃ G, GtS g d Γ G ∧ StS P W tv G Ω po) : StS P W (tSeq (tAsg te g) tv) Γ Ω po :=
  st_seq (M := fun G O => StS P W tv G O po) (st_asg h k) fun G O z => z
theorem st_drop (h : EvS P te Γ Ω S) (k : po.N Γ Ω) : StS P W (tDrop te) Γ Ω po := fun _ _ _ _ _ c De hn hr hb hc => h c _ fun v Hf2 H2 d sd s i => hn _ _ _ _ _ k (c.mono s) s.fr
theorem q_drop (h : EvS P te Γ Ω S) (k : StS P W tv Γ Ω po) : StS P W (tSeq (tDrop te) tv) Γ Ω po :=
  st_seq (M := fun G O => G = Γ ∧ O = Ω) (st_drop h ⟨rfl, rfl⟩) fun G O z => by
    obtain ⟨a, b⟩ := z
    subst a; subst b; exact k
theorem StS.after {Hf Hf2 : Hp} (e : Same Hf Hf2) (h : StS P W ts Γ Ω po) : ∀ ⦃Hf0 H0 : Hp⦄ ⦃σ : St⦄ ⦃H : Hp⦄, At P W Hf0 H0 Γ Ω σ Hf2 H → ∀ De : Ends,
    (∀ Γ' Ω' σ' Hf' H', po.N Γ' Ω' → At P W Hf0 H0 Γ' Ω' σ' Hf' H' → Same Hf Hf' → De.nx σ' H') →
    (∀ v Γ' Ω' σ' Hf' H' d, po.R d Ω' → At P W Hf0 H0 Γ' Ω' σ' Hf' H' → Is Hf' v d → De.rt v H') →
    (∀ Γ' Ω' σ' Hf' H', po.B Γ' Ω' → At P W Hf0 H0 Γ' Ω' σ' Hf' H' → Same Hf Hf' → De.bk σ' H') →
    (∀ Γ' Ω' σ' Hf' H', po.C Γ' Ω' → At P W Hf0 H0 Γ' Ω' σ' Hf' H' → Same Hf Hf' → De.ct σ' H') → ts De σ H :=
  fun _ _ _ _ c De hn hr hb hc => h c De (fun G O σ' Hf' H' z c' e' => hn G O σ' Hf' H' z c' (e.trans e')) hr (fun G O σ' Hf' H' z c' e' => hb G O σ' Hf' H' z c' (e.trans e')) (fun G O σ' Hf' H' z c' e' => hc G O σ' Hf' H' z c' (e.trans e'))
theorem st_ifB {Sb : Bool → Prop} (h : EvB P tt Γ Ω Sb) (h1 : Sb true → StS P W ts Γ Ω po) (h2 : Sb false → StS P W tv Γ Ω po) : StS P W (tIfS tt ts tv) Γ Ω po :=
  fun _ _ _ _ _ c De hn hr hb hc => h c _ fun b Hf2 H2 hb' s => by
    cases b with
    | true => rw [if_pos rfl]; exact (h1 hb').after s.fr (c.mono s) De hn hr hb hc
    | false => rw [if_neg Bool.false_ne_true]; exact (h2 hb').after s.fr (c.mono s) De hn hr hb hc
theorem st_if {x : Bool} (h : EvT P tt Γ Ω x) (h1 : x = true → StS P W ts Γ Ω po) (h2 : x = false → StS P W tv Γ Ω po) : StS P W (tIfS tt ts tv) Γ Ω po :=
  st_ifB h (fun e => h1 e.symm) (fun e => h2 e.symm)
/-- forgetting -/
theorem st_forget (G : En) (hl : G.length = Γ.length) (w : ∀ (i : Nat) (d : D), G[i]? = some (some d) → Γ[i]? = some (some d)) (h : StS P W ts G Ω po) : StS P W ts Γ Ω po := fun _ _ _ _ _ c => h (c.forget hl w)
/-- a new list of one's own -/
theorem st_new {i : Nat} (k : ∀ p, po.N (Γ.set i (some (.ref p))) ((p, .lst []) :: Ω)) : StS P W (tAsg (tLst tNil) (gName i)) Γ Ω po :=
  fun _ _ _ _ _ c De hn hr hb hc => ⟨Nat.zero_le _, fun p hp => hn _ _ _ _ _ (k p) ((c.newOwn (oc := .lst []) hp ⟨[], upd_same, .nil⟩).set (.ref p)) (Same.refl _)⟩
theorem q_new {i : Nat} (k : ∀ p, StS P W tv (Γ.set i (some (.ref p))) ((p, .lst []) :: Ω) po) : StS P W (tSeq (tAsg (tLst tNil) (gName i)) tv) Γ Ω po :=
  st_seq (M := fun G O => StS P W tv G O po) (st_new k) fun G O z => z
/-- an item put behind a list of one's own (the first cell) -/
theorem st_append {p : Addr} {l : List D} (h1 : Ev P ta Γ ((p, .lst l) :: Ω) (.ref p)) (h2 : EvS P te Γ ((p, .lst l) :: Ω) S) (hl : l.length < 16777216) (k : ∀ d, S d → po.N Γ ((p, .lst (l ++ [d])) :: Ω)) :
    StS P W (tDrop (tBM K "list" rAppend ta (tCons te tNil))) Γ ((p, .lst l) :: Ω) po := fun _ _ _ _ _ c De hn hr hb hc =>
  h1 c _ fun v Hf1 H1 d e s1 i1 => by
    subst e
    cases i1
    obtain ⟨⟨xs0, e0, _⟩, _⟩ := (c.mono s1).own p _ List.mem_cons_self
    refine ⟨.inl ⟨rfl, _, SqL.of e0⟩, h2 (c.mono s1) _ fun w Hf2 H2 d sd s2 i2 => ?_⟩
    have c2 := (c.mono s1).mono s2
    obtain ⟨⟨xs, e, r⟩, _⟩ := c2.own p _ List.mem_cons_self
    refine ⟨p, xs, w, rfl, rfl, e, lineLt (by rw [r.length]; exact hl), ?_⟩
    exact hn _ _ _ _ _ (k d sd) (c2.write ⟨xs ++ [w], upd_same, r.append (.one i2)⟩) (s1.fr.trans s2.fr)
theorem q_append {p : Addr} {l : List D} (h1 : Ev P ta Γ ((p, .lst l) :: Ω) (.ref p)) (h2 : EvS P te Γ ((p, .lst l) :: Ω) S) (hl : l.length < 16777216) (k : ∀ d, S d → StS P W tv Γ ((p, .lst (l ++ [d])) :: Ω) po) :
    StS P W (tSeq (tDrop (tBM K "list" rAppend ta (tCons te tNil))) tv) Γ ((p, .lst l) :: Ω) po :=
  st_seq (M := fun G O => StS P W tv G O po) (st_append h1 h2 hl k) fun G O z => z
theorem st_extend {p : Addr} {l : List D} {Sl : List D → Prop} (h1 : Ev P ta Γ ((p, .lst l) :: Ω) (.ref p)) (h2 : EvS P te Γ ((p, .lst l) :: Ω) (fun d => ∃ m, Sl m ∧ d = .lst m)) (hl : ∀ m, Sl m → l.length + m.length ≤ 16777216) (k : ∀ m, Sl m → po.N Γ ((p, .lst (l ++ m)) :: Ω)) :
    StS P W (tDrop (tBM K "list" rExtend ta (tCons te tNil))) Γ ((p, .lst l) :: Ω) po := fun _ _ _ _ _ c De hn hr hb hc =>
  h1 c _ fun v Hf1 H1 d e s1 i1 => by
    subst e
    cases i1
    obtain ⟨⟨xs0, e0, _⟩, _⟩ := (c.mono s1).own p _ List.mem_cons_self
    refine ⟨.inl ⟨rfl, _, SqL.of e0⟩, h2 (c.mono s1) _ fun w Hf2 H2 d ⟨m, sm, ed⟩ s2 i2 => ?_⟩
    subst ed
    have c2 := (c.mono s1).mono s2
    obtain ⟨⟨xs, e, r⟩, _⟩ := c2.own p _ List.mem_cons_self
    obtain ⟨b, ys, rfl, eb, r2⟩ := i2.lst_inv
    refine ⟨p, b, xs, ys, rfl, rfl, e, c2.sub _ _ eb, lineOf (by rw [r.length, r2.length]; exact hl m sm), ?_⟩
    exact hn _ _ _ _ _ (k m sm) (c2.write ⟨xs ++ ys, upd_same, r.append r2⟩) (s1.fr.trans s2.fr)
theorem st_swap {x y : Addr × OC} (h : StS P W ts Γ (y :: x :: Ω) po) : StS P W ts Γ (x :: y :: Ω) po := fun _ _ _ _ _ c => h c.swap
theorem st_cell {x : Addr × OC} (h : StS P W ts Γ Ω po) : StS P W ts Γ (x :: Ω) po := fun _ _ _ _ _ c => h c.drop
/-- from here on the list is only read -/
theorem st_freeze {p : Addr} {l : List D} (is : List Nat) (hi : ∀ i ∈ is, Γ[i]? = some (some (D.ref p))) (w : ¬ W p) (h : StS P W ts (is.foldl (fun G i => G.set i (some (.lst l))) Γ) Ω po) : StS P W ts Γ ((p, .lst l) :: Ω) po :=
  fun _ _ _ _ _ c De hn hr hb hc => by
    obtain ⟨Hf2, s, c2, _⟩ := c.freeze hi w
    exact h.after s c2 De hn hr hb hc

/-! ### loops -/
theorem st_for {wi : TI} {g : TG} {tb : TS} {Sl : List D → Prop} (hs : SrcS P wi Γ Ω Sl) (I : List D → Nat → En → Ow → Prop) (h0 : ∀ l, Sl l → I l 0 Γ Ω)
    (turn : ∀ l i d G O, Sl l → l[i]? = some d → I l i G O → ∃ G', GtS g d G G' ∧ StS P W tb G' O { N := I l (i + 1), R := po.R, B := po.N, C := I l (i + 1) })
    (hend : ∀ l G O, Sl l → I l l.length G O → po.N G O) : StS P W (tFor wi g tb) Γ Ω po := fun _ _ _ _ _ c De hn hr hb hc => by
  refine hs c _ fun It Hf1 H1 l hl s1 ok => ?_
  refine ⟨fun i m σ H => m = l.length - i ∧ i ≤ l.length ∧ ∃ G O Hfi, I l i G O ∧ Same Hf1 Hfi ∧ At P W _ _ G O σ Hfi H, ⟨l.length, by omega, Nat.zero_le _, Γ, Ω, Hf1, h0 l hl, Same.refl _, c.mono s1⟩, ?_⟩
  rintro i m σ H ⟨rfl, hi, G, O, Hfi, inv, sm, ci⟩
  obtain ⟨go, stop, yld⟩ := ok Hfi H sm ci.sub ci.pr
  by_cases hlt : i < l.length
  · refine .inr ⟨go i hlt, fun σ' H' => i + 1 ≤ l.length ∧ ∃ G O Hfi, I l (i + 1) G O ∧ Same Hf1 Hfi ∧ At P W _ _ G O σ' Hfi H', fun σ' H' z => ⟨l.length - (i + 1), by omega, rfl, z⟩, fun x H' y => ?_⟩
    have hd : l[i]? = some l[i] := List.getElem?_eq_getElem hlt
    obtain ⟨Hf', s', ix⟩ := yld i x H' _ y hd
    obtain ⟨G', gt, body⟩ := turn l i _ G O hl hd inv
    refine gt (ci.mono s') ix _ fun σ2 c2 => ?_
    have sm' : Same Hf1 Hf' := sm.trans s'.fr
    exact body c2 _ (fun G O σ' Hf2 H2 z c' e' => ⟨hlt, G, O, Hf2, z, sm'.trans e', c'⟩) hr (fun G O σ' Hf2 H2 z c' e' => hn _ _ _ _ _ z c' (s1.fr.trans (sm'.trans e'))) (fun G O σ' Hf2 H2 z c' e' => ⟨hlt, G, O, Hf2, z, sm'.trans e', c'⟩)
  · have e : i = l.length := by omega
    subst e
    exact .inl ⟨stop _ (Nat.le_refl _), hn _ _ _ _ _ (hend l G O hl inv) ci (s1.fr.trans sm)⟩
theorem q_for {wi : TI} {g : TG} {tb : TS} {Sl : List D → Prop} (hs : SrcS P wi Γ Ω Sl) (I : List D → Nat → En → Ow → Prop) (h0 : ∀ l, Sl l → I l 0 Γ Ω)
    (turn : ∀ l i d G O, Sl l → l[i]? = some d → I l i G O → ∃ G', GtS g d G G' ∧ StS P W tb G' O { N := I l (i + 1), R := po.R, B := fun G O => StS P W tv G O po, C := I l (i + 1) })
    (hend : ∀ l G O, Sl l → I l l.length G O → StS P W tv G O po) : StS P W (tSeq (tFor wi g tb) tv) Γ Ω po :=
  st_seq (M := fun G O => StS P W tv G O po) (st_for hs I h0 turn hend) fun G O z => z
/-- over known items, the state by the turn alone -/
theorem q_forD {wi : TI} {g : TG} {tb : TS} {α : Type} (xs : List α) (emb : α → D) (hs : Src P wi Γ Ω (xs.map emb)) (I : Nat → En → Ow → Prop) (h0 : I 0 Γ Ω)
    (turn : ∀ i x G O, xs[i]? = some x → I i G O → ∃ G', GtS g (emb x) G G' ∧ StS P W tb G' O { N := I (i + 1), R := po.R, B := fun G O => StS P W tv G O po, C := I (i + 1) })
    (hend : ∀ G O, I xs.length G O → StS P W tv G O po) : StS P W (tSeq (tFor wi g tb) tv) Γ Ω po := by
  refine q_for hs (fun _ => I) (fun _ _ => h0) (fun l i d G O e hd inv => ?_) (fun l G O e inv => ?_)
  · subst e
    rw [List.getElem?_map] at hd
    cases hx : xs[i]? with
    | none => rw [hx] at hd; cases hd
    | some x =>
      rw [hx] at hd
      obtain rfl : emb x = d := Option.some.inj hd
      exact turn i x G O hx inv
  · subst e
    rw [List.length_map] at inv
    exact hend G O inv
theorem st_forD {wi : TI} {g : TG} {tb : TS} {α : Type} (xs : List α) (emb : α → D) (hs : Src P wi Γ Ω (xs.map emb)) (I : Nat → En → Ow → Prop) (h0 : I 0 Γ Ω)
    (turn : ∀ i x G O, xs[i]? = some x → I i G O → ∃ G', GtS g (emb x) G G' ∧ StS P W tb G' O { N := I (i + 1), R := po.R, B := po.N, C := I (i + 1) })
    (hend : ∀ G O, I xs.length G O → po.N G O) : StS P W (tFor wi g tb) Γ Ω po := by
  refine st_for hs (fun _ => I) (fun _ _ => h0) (fun l i d G O e hd inv => ?_) (fun l G O e inv => ?_)
  · subst e
    rw [List.getElem?_map] at hd
    cases hx : xs[i]? with
    | none => rw [hx] at hd; cases hd
    | some x =>
      rw [hx] at hd
      obtain rfl : emb x = d := Option.some.inj hd
      exact turn i x G O hx inv
  · subst e
    rw [List.length_map] at inv
    exact hend G O inv
theorem st_while {tb : TS} (I : Nat → En → Ow → Prop) (m0 : Nat) (h0 : I m0 Γ Ω)
    (turn : ∀ m G O, I m G O → ∃ Sb : Bool → Prop, EvB P tt G O Sb ∧ (Sb true → StS P W tb G O { N := fun G O => ∃ m', m' < m ∧ I m' G O, R := po.R, B := po.N, C := fun G O => ∃ m', m' < m ∧ I m' G O }) ∧ (Sb false → po.N G O)) :
    StS P W (tWhile tt tb) Γ Ω po := fun _ _ _ Hfs _ c De hn hr hb hc => by
  refine ⟨fun m σ H => ∃ G O Hfi, I m G O ∧ Same Hfs Hfi ∧ At P W _ _ G O σ Hfi H, ⟨m0, Γ, Ω, Hfs, h0, Same.refl _, c⟩, ?_⟩
  rintro m σ H ⟨G, O, Hfi, inv, sm, ci⟩
  obtain ⟨Sb, eb, h1, h2⟩ := turn m G O inv
  refine eb ci _ fun b Hf2 H2 hb' s => ?_
  cases b with
  | true =>
    rw [if_pos rfl]
    refine ⟨fun σ' H' => ∃ m', m' < m ∧ ∃ G O Hfi, I m' G O ∧ Same Hfs Hfi ∧ At P W _ _ G O σ' Hfi H', fun σ' H' ⟨m', l, z⟩ => ⟨m', l, z⟩, ?_⟩
    have sm' := sm.trans s.fr
    exact h1 hb' (ci.mono s) _ (fun G O σ' Hf3 H3 ⟨m', l, z⟩ c' e' => ⟨m', l, G, O, Hf3, z, sm'.trans e', c'⟩) hr (fun G O σ' Hf3 H3 z c' e' => hn _ _ _ _ _ z c' (sm'.trans e')) (fun G O σ' Hf3 H3 ⟨m', l, z⟩ c' e' => ⟨m', l, G, O, Hf3, z, sm'.trans e', c'⟩)
  | false =>
    rw [if_neg Bool.false_ne_true]
    exact hn _ _ _ _ _ (h2 hb') (ci.mono s) (sm.trans s.fr)
theorem q_while {tb : TS} (I : Nat → En → Ow → Prop) (m0 : Nat) (h0 : I m0 Γ Ω)
    (turn : ∀ m G O, I m G O → ∃ Sb : Bool → Prop, EvB P tt G O Sb ∧ (Sb true → StS P W tb G O { N := fun G O => ∃ m', m' < m ∧ I m' G O, R := po.R, B := fun G O => StS P W tv G O po, C := fun G O => ∃ m', m' < m ∧ I m' G O }) ∧ (Sb false → StS P W tv G O po)) :
    StS P W (tSeq (tWhile tt tb) tv) Γ Ω po :=
  st_seq (M := fun G O => StS P W tv G O po) (st_while I m0 h0 turn) fun G O z => z

/-! ### defs -/
def spD (P : Proto) {ι : Type} (args : ι → List D) (post : ι → D → Prop) : Sp := fun vs H Q _ => ∃ (i : ι) (Hf : Hp), Same Hf H ∧ P.Pr Hf H ∧ IsAll Hf vs (args i) ∧ Out P Hf H (post i) Q
theorem ev_call {ι : Type} {args : ι → List D} {post : ι → D → Prop} {E : XK} {Sl : List D → Prop} (le : Proto.Le Pq P) (h : EvA P tl Γ Ω Sl) (k : ∀ ds, Sl ds → ∃ i, ds = args i ∧ ∀ d, post i d → S d) :
    EvS P (tCall (spD Pq args post) [] E tl) Γ Ω S := fun _ _ _ _ _ _ c Q q => h c _ fun vs Hf2 H2 ds sd s iv => by
  obtain ⟨i, e, kk⟩ := k ds sd
  subst e
  rw [List.append_nil]
  have c2 := c.mono s
  exact ⟨i, Hf2, c2.sub, le.pr _ _ c2.pr, iv, fun v Hf3 H3 d pd s3 i3 => q v _ _ d (kk d pd) (s.trans (Step.lift le c2.pr s3)) i3⟩
/-- .. with known arguments -/
theorem ev_callD {ι : Type} {args : ι → List D} {post : ι → D → Prop} {E : XK} (le : Proto.Le Pq P) (i : ι) (h : EvL P tl Γ Ω (args i)) : EvS P (tCall (spD Pq args post) [] E tl) Γ Ω (post i) :=
  ev_call le h fun ds e => ⟨i, e, fun _ z => z⟩
def entry (N : Nat) (ds : List D) : En := ds.map some ++ List.replicate (N - ds.length) none
theorem fits_start {Hf : Hp} {N : List Str} {vs : List V} {ds : List D} (r : IsAll Hf vs ds) : Fits Hf (L2.start N vs) (entry N.length ds) := by
  have hl := r.length
  refine ⟨by unfold L2.start entry; simp [hl], fun i d e => ?_⟩
  unfold entry at e
  by_cases hi : i < ds.length
  · rw [List.getElem?_append_left (by simpa using hi), List.getElem?_map] at e
    cases hd : ds[i]? with
    | none => rw [hd] at e; cases e
    | some d' =>
      rw [hd] at e
      obtain rfl : d' = d := Option.some.inj (Option.some.inj e)
      obtain ⟨v, hv, iv⟩ := r.get hd
      refine ⟨v, ?_, iv⟩
      unfold L2.start
      rw [List.getElem?_append_left (by simp [hl, hi]), List.getElem?_map, hv]
      rfl
  · rw [List.getElem?_append_right (by simpa using hi), List.getElem?_replicate] at e
    split at e
    · cases e
    · cases e
theorem def_start {ι : Type} {args : ι → List D} {post : ι → D → Prop} {N : List Str} {vs : List V} {H : Hp} {Q : VK} {E : XK} (h : spD P args post vs H Q E)
    (body : ∀ i, StS P NoW ts (entry N.length (args i)) [] { N := fun _ _ => post i .non, R := fun d _ => post i d }) : ts { nx := fun _ H' => Q .non H', rt := Q } (L2.start N vs) H := by
  obtain ⟨i, Hf, s, p, r, q⟩ := h
  have c : At P NoW Hf H (entry N.length (args i)) [] (L2.start N vs) Hf H := ⟨StepW.refl s p, fits_start r, fun _ _ z => (by cases z), List.nodup_nil⟩
  exact body i c _ (fun G O σ' Hf' H' z c' _ => q _ _ _ .non z c'.step .non) (fun v G O σ' Hf' H' d z c' iv => q _ _ _ d z c'.step iv) (fun _ _ _ _ _ z => z.elim) (fun _ _ _ _ _ z => z.elim)
theorem sp_len {ι : Type} {args : ι → List D} {post : ι → D → Prop} {n : Nat} (ha : ∀ i, (args i).length = n) {vs : List V} {H : Hp} {Q : VK} {E : XK} (h : spD P args post vs H Q E) : vs.length = n := by
  obtain ⟨i, Hf, s, p, r, q⟩ := h
  rw [r.length]; exact ha i
end
end DL
set_option Elab.async false
set_option linter.all false
set_option autoImplicit false
set_option maxRecDepth 100000
set_option maxHeartbeats 4000000
/-! RU: rules of one's own at the level of the hand layer: data in a tuple, index of a tuple of ints, large lists into sets of tuples. -/
namespace RU
open L2 PySem
section
variable {X : Cx}
/-- d in t, t a tuple of data -/
def rInU (K : PySem.W.Frag) (neg : Bool) : R2 := fun x y H Q => ∃ d ds, Dp K H x d ∧ Dp K H y (.tuple ds) ∧ SeqAt.shaped d = true ∧ SeqAt.shaped (.tuple ds) = true ∧ Q (.bl (if neg then !(ds.any fun z => PyData.eqv z d) else ds.any fun z => PyData.eqv z d)) H
theorem lay_tuple {ds : List PyData} (h : SeqAt.shaped (.tuple ds) = true) : PyData.canLayAll0 ds = true := by
  have := SeqAt.canLay_of_shaped h
  simpa [PyData.canLay0] using this
theorem op_inU (hu : X.A.units + 65 < cLine) : OpR X (compareOp .In) (rInU X.K false) := by
  intro pins s σ H x y v u Q I rx ry ⟨d, ds, hd, he, sd, se, q⟩
  obtain ⟨as, r1⟩ := Dp.reads I d x v hd rx
  obtain ⟨bs, r2⟩ := Dp.reads I _ y u he ry
  refine SeqAt.in_tuple_reads r2 r1 (lay_tuple se) (SeqAt.canLay_of_shaped sd) (PyProof.Rows.room_in_shaped sd hu) ?_
  exact ⟨.bl _, H, I, rfl, q⟩
theorem op_ninU (hu : X.A.units + 65 < cLine) : OpR X (compareOp .NotIn) (rInU X.K true) := by
  intro pins s σ H x y v u Q I rx ry ⟨d, ds, hd, he, sd, se, q⟩
  obtain ⟨as, r1⟩ := Dp.reads I d x v hd rx
  obtain ⟨bs, r2⟩ := Dp.reads I _ y u he ry
  refine SeqAt.notIn_tuple_reads r2 r1 (lay_tuple se) (SeqAt.canLay_of_shaped sd) (PyProof.Rows.room_in_shaped sd hu) ?_
  exact ⟨.bl _, H, I, rfl, q⟩
/-- the first place of an int in a tuple of ints -/
def rTIx (K : PySem.W.Frag) : V → List V → Hp → VK → Prop := fun x xs H Q => ∃ (a : Addr) (ns : List Int) (n : Int), x = .ref a ∧ xs = [.int n] ∧ SqT K H a (ns.map V.int) ∧ n ∈ ns ∧ Q (.int (ns.idxOf n : Nat)) H
theorem mt_tix : MtR X "tuple.index" (rTIx X.K) := by
  intro pins s σ H x xs v us Q I rx rxs ⟨a, ns, n, e1, e2, ha, hn, q⟩
  subst e1; subst e2
  cases rx
  obtain ⟨u, rfl, ru⟩ := rxs.one
  obtain ⟨tk, rfl⟩ := ru
  obtain ⟨its, rv, ht, hz⟩ := I.tuple ha
  have hl := rv.length
  rw [List.length_map] at hl
  refine SeqAt.call_tuple_index (ks := ns) (k := n) ht ⟨by omega, fun j h1 h2 => ?_⟩ hn ⟨.int _, H, I.tok _, ⟨_, rfl⟩, q⟩
  have hx : (ns.map V.int)[j]? = some (V.int ns[j]) := by rw [List.getElem?_map, List.getElem?_eq_getElem h2]; rfl
  obtain ⟨w, hw, rw'⟩ := rv.get hx
  have ew : its[j] = w := by
    rw [List.getElem?_eq_getElem h1] at hw
    exact Option.some.inj hw
  have k := eqAt_V (A := X.A.in1) (s := s) rw' (show RelV (V.int n) (Value.int n tk) from ⟨tk, rfl⟩) rfl rfl
  rw [ew]
  exact k
end

/-! ### tuples whose objects are known to have no dict: their methods can be called -/
/-- the object of a tuple that was laid -/
def Plain (o : Obj) : Prop := o.cls = .type "tuple" ∧ o.dict = none
section
variable {X : Cx} {es : List Expr} {t : TA} {pos : Pos}
def tRow (t : TA) : TE := fun σ H Q => t σ H fun xs H1 => xs.length ≤ sizeLine ∧ ∀ p o, H1 p = none → Plain o → Q (.ref p) (upd H1 p (.frz o (.tup xs)))
theorem pe_row {x1} (h : PA X es t) : PE X (.Tuple es x1 pos) (tRow t) := by
  refine ⟨fun pins s σ H Q I hq => wpAny_Tuple_spliced (thn (h.run pos pins s σ H _ I hq) fun us s1 z1 => ?_)⟩
  obtain ⟨xs, H1, I1, r, z, q⟩ := z1
  refine ⟨by rw [← r.length]; exact z, ?_⟩
  have new := Heap.get?_push_size s1.heap (o := { cls := .type "tuple", data := .seq us.toArray }) rfl
  refine ⟨.ref s1.heap.objs.size, _, I1.laid (t' := s1.toks) (o := .frz { cls := .type "tuple", data := .seq us.toArray } (.tup xs)) (fun b u e => Heap.get?_push_of_some _ e) (Nat.le_refl _) ?_, rfl, q _ _ (I1.hok.fresh (Nat.le_refl _)) ⟨rfl, rfl⟩⟩
  exact ⟨new, z, us, r, ⟨_, new, rfl, _, rfl⟩⟩
/-- t + u, u not empty: where t is empty u itself, else a new row -/
def rCatR (K : PySem.W.Frag) : R2 := fun x y H Q => ∃ a b xs ys, x = .ref a ∧ y = .ref b ∧ SqT K H a xs ∧ SqT K H b ys ∧ ys ≠ [] ∧ xs.length + ys.length ≤ sizeLine ∧
  (xs = [] → Q (.ref b) H) ∧ (xs ≠ [] → ∀ p o, H p = none → Plain o → Q (.ref p) (upd H p (.frz o (.tup (xs ++ ys)))))
theorem op_catR : OpR X (binaryOp .Add) (rCatR X.K) := by
  intro pins s σ H x y v u Q I rx ry ⟨a, b, xs, ys, e1, e2, ha, hb, hy, hz, q1, q2⟩
  subst e1; subst e2
  cases rx
  cases ry
  obtain ⟨its, r1, p1, _⟩ := I.tuple ha
  obtain ⟨its2, r2, p2, _⟩ := I.tuple hb
  by_cases hx : xs = []
  · subst hx
    cases r1
    exact cat_tup0 p1 p2 ⟨.ref b, H, I, rfl, q1 rfl⟩
  · have new := Heap.get?_push_size s.heap (o := { cls := .type "tuple", data := .seq (its ++ its2).toArray }) rfl
    refine HT.cat_tup p1 p2 (fun z => hx (r1.nil_iff.mp z)) (fun z => absurd (r2.nil_iff.mp z) hy) (fun _ => ?_) (by rw [← r1.length, ← r2.length]; exact hz)
    refine ⟨.ref s.heap.objs.size, _, I.laid (t' := s.toks) (o := .frz { cls := .type "tuple", data := .seq (its ++ its2).toArray } (.tup (xs ++ ys))) (fun b ob q => Heap.get?_push_of_some _ q) (Nat.le_refl _) ?_, rfl,
      q2 hx _ _ (I.hok.fresh (Nat.le_refl _)) ⟨rfl, rfl⟩⟩
    exact ⟨new, by rw [List.length_append]; exact hz, _, r1.append r2, ⟨_, new, rfl, _, rfl⟩⟩
variable {o e : Expr} {to : TE} {name : Str} {id : String} {apos cpos : Pos} {r : V → List V → Hp → VK → Prop}
/-- a method of such a row -/
def tRM (r : V → List V → Hp → VK → Prop) (to : TE) (t : TA) : TE := fun σ H Q => to σ H fun x H1 => (∃ a ob u, x = .ref a ∧ H1 a = some (.frz ob u) ∧ Plain ob) ∧ t σ H1 fun xs H2 => r x xs H2 Q
theorem pe_rm (slot : PySem.Slot "tuple" name id) (hty : typeOf (.builtin id) = pure (.type "method_descriptor")) (hm : MtR X id r) (ho : PE X o to) (ha : PA X (e :: es) t)
    (hbase : attributeBase o name X.env (eval o X.env) = eval o X.env := by rfl)
    (hfew : ((backTo cpos (starEach (e :: es) X.env)).all (fun x => !x.1) && (backToKw cpos (keywordEach [] X.env)).all (fun x => x.1.isSome)
      && decide ((e :: es).length + ([] : List Keyword).length + (if ([] : List Keyword).isEmpty then 0 else 1) < 30)) = true := by rfl)
    (hline : (apos.endLine == cpos.line) = true := by rfl) (hs : starEach (e :: es) X.env = (false, eval e X.env) :: starEach es X.env := by rfl)
    (hplain : (backTo cpos (starEach es X.env)).any (·.1) = false := by rfl) : PE X (.Call (.Attribute o name apos) (e :: es) [] cpos) (tRM r to t) := by
  refine ⟨fun pins s σ H Q I h => wpAny_Call_method_late hbase hfew hline rfl (thn (ho.run pins s σ H _ I h) fun v s1 z => ?_)⟩
  obtain ⟨x, H1, I1, r1, ⟨a, ob, u, ex, ea, pl⟩, q1⟩ := z
  subst ex
  cases r1
  obtain ⟨at1, _⟩ := (show ObjOk X.prog X.w H1 s1.heap a (.frz ob u) from I1.hok a _ ea)
  refine ⟨"tuple", id, PySem.F.plainAttrs_tuple, slot, hty, ⟨ob, at1, pl.1⟩, fun b e => ?_, ?_⟩
  · cases e
    exact ⟨ob, at1, pl.2⟩
  have hA := ha.run cpos pins s1 σ H1 _ I1 q1
  rw [hs] at hA ⊢
  refine Calls.callWith_builtin (by show (false || (backTo cpos (starEach es X.env)).any (·.1)) = false; rw [hplain]; rfl) (Calls.evalArgs_plain (thn hA fun us s2 z2 => ?_))
  obtain ⟨vs, H2, I2, r2, q2⟩ := z2
  exact hm pins s2 σ H2 (.ref a) vs _ us Q I2 rfl r2 q2
end
end RU
set_option Elab.async false
set_option linter.all false
set_option autoImplicit false
set_option maxRecDepth 100000
set_option maxHeartbeats 4000000
/-! RS: set(xs) of many tuples, few of them unlike. -/
namespace RU
open L2 PySem
/-! ### set(xs) where xs may be long, with few that are unlike -/
/-- no more than 62 that are unlike -/
def Few (ks : List (Addr × List Int)) : Prop := ∀ L : List (Addr × List Int), (∀ p ∈ L, p ∈ ks) → (L.map (·.2)).Nodup → L.length + 1 < 64
section
variable {P : Program} {w : World} {A : Around} {E : Value → Shared → Prop} {s : Shared}
open PySem.Spec PyProof.Rows in
theorem upd_loop {I : Addr} {fp wr : List Addr} {G : Array GenState → Array GenState → Prop} {Pv : Nat → Value → Prop} {Z : Nat → Shared → Prop} {R : Result → Shared → Prop} (ks : List (Addr × List Int))
    (Wk : WalksS P w A.in1 I fp wr G ks.length Pv Z) (S : Addr) (far : S ∉ fp) (few : Few ks) (each : ∀ i v, Pv i v → ∃ p, ks[i]? = some p ∧ v = .ref p.1)
    (g : Heap) (tups : ∀ p ∈ ks, IsT P w g p.2 p.1) (gS : g.get? S = none) (gw : ∀ b ∈ wr, g.get? b = none) (hu : A.in1.units < cLine)
    (fin : ∀ s' L es ep t, Moved (S :: wr) G s s' → SetTR P w s'.heap S L es ep t → Got ks ks.length L → (∀ b o, g.get? b = some o → s'.heap.get? b = some o) → R (.ok (.ret .none)) s') :
    ∀ (m i : Nat) (t0 : Shared), ks.length - i = m → i ≤ ks.length → Z i t0 → (∀ b o, g.get? b = some o → t0.heap.get? b = some o) → (∃ L es ep t, SetTR P w t0.heap S L es ep t ∧ Got ks i L) →
      (∀ s', Moved (S :: wr) G t0 s' → Moved (S :: wr) G s s') → codeAny (model P w) A (.builtin "set.update.loop" ⟨[.ref S, .ref I], []⟩) R t0 := by
  have off : S ∉ wr := fun z => far (Wk.sub _ z)
  have wide : ∀ b ∈ wr, b ∈ S :: wr := fun b => List.mem_cons_of_mem _
  have stays : ∀ {a b : Shared}, Moved wr G a b → (∀ x o, g.get? x = some o → a.heap.get? x = some o) → ∀ x o, g.get? x = some o → b.heap.get? x = some o := by
    intro a b mv k x o e
    refine mv.heap x o (fun z => ?_) (k x o e)
    rw [gw x z] at e
    cases e
  intro m
  induction m with
  | zero =>
    intro i t0 hm hi hz hk ⟨L, es, ep, t, st, gt⟩ back
    obtain rfl : i = ks.length := by omega
    refine codeAny_builtin F.entry_set_update_loop ?_
    rw [Around.under_plainId F.plain_set_update_loop _]
    refine wpAny_bind (m := pyNext (.ref I)) (Wk.done t0 _ _ hz fun s1 mv => ?_)
    have hk1 := stays mv hk
    have inn : ∀ p ∈ L, p ∈ ks := fun p hp => List.mem_of_mem_take (gt.sub p hp)
    have st1 : SetTR P w s1.heap S L es ep t := st.keep (fun o e => mv.heap S o off e) (fun p hp => isT_keep (tups p (inn p hp)) hk1)
    exact wpAny_pure (fin s1 L es ep t (back s1 (mv.mono wide)) st1 gt hk1)
  | succ m ih =>
    intro i t0 hm hi hz hk ⟨L, es, ep, t, st, gt⟩ back
    have lt : i < ks.length := by omega
    refine codeAny_builtin F.entry_set_update_loop ?_
    rw [Around.under_plainId F.plain_set_update_loop _]
    refine wpAny_bind (m := pyNext (.ref I)) (Wk.item i t0 _ _ lt hz fun v s1 pv hz1 mv => ?_)
    obtain ⟨p, hp, rfl⟩ := each i v pv
    have hk1 := stays mv hk
    have inn : ∀ p ∈ L, p ∈ ks := fun p hp => List.mem_of_mem_take (gt.sub p hp)
    have st1 : SetTR P w s1.heap S L es ep t := st.keep (fun o e => mv.heap S o off e) (fun q hq => isT_keep (tups q (inn q hq)) hk1)
    have px : IsT P w s1.heap p.2 p.1 := isT_keep (tups p (List.mem_of_getElem? hp)) hk1
    refine wpAny_bind (m := holding [Value.ref p.1] (setAdd S (.ref p.1))) (wpAny_holding ?_)
    unfold setAdd
    refine wpAny_holding (wpAny_bind (wpAny_pyHash_tuple hu px ?_))
    refine add_at (s := { s1 with toks := s1.toks + (p.2.length + 1) }) st1 px hu (few L inn st1.nd) fun b h' L' es' ep' t' sb st2 c1 c2 => ?_
    have gt' : Got ks (i + 1) L' := (Classical.em (p.2 ∈ L.map (·.2))).elim (fun c => (c1 c) ▸ gt.same hp c) (fun c => gt.more hp (c2 c))
    have hk2 : ∀ x o, g.get? x = some o → h'.get? x = some o := by
      intro x o e
      have nx : x ≠ S := fun z => by rw [z, gS] at e; cases e
      exact (sb.2 x nx).trans (hk1 x o e)
    refine wpAny_pure ⟨plainId_quiet F.plain_set_update_loop _, ih (i + 1) _ (by omega) lt ?_ hk2 ⟨L', es', ep', t', st2, gt'⟩ fun s2 mv2 => ?_⟩
    · refine Wk.frame _ s1 _ _ hz1 (Nat.le_add_right _ _) fun b hb o e => ?_
      have nb : b ≠ S := fun z => far (z ▸ hb)
      exact (sb.2 b nb).trans e
    · refine back s2 (Moved.trans Wk.gtrans ((mv.mono wide).then_heap (Nat.le_add_right _ _) fun b o hb e => ?_) mv2)
      have nb : b ≠ S := fun z => hb (z ▸ List.mem_cons_self)
      exact (sb.2 b nb).trans e

open PySem.Spec PyProof.Rows in
set_option maxHeartbeats 8000000 in
/-- set(xs) -/
theorem set_of {l : Addr} {its : Array Value} (ks : List (Addr × List Int)) {Q : Value → Shared → Prop} (hh : A.handled = none) (hl : s.heap.IsList l its) (eq : its.toList = ks.map fun p => Value.ref p.1)
    (tups : ∀ p ∈ ks, IsT P w s.heap p.2 p.1) (few : Few ks) (hu : A.units + 3 < cLine)
    (k : ∀ (h' : Heap) (tk : Nat) L es ep t, SetTR P w h' s.heap.objs.size L es ep t → Got ks ks.length L → (∀ b o, s.heap.get? b = some o → h'.get? b = some o) → Q (.ref s.heap.objs.size) { s with heap := h', toks := tk }) :
    wpAny (model P w) A (call (.type "set") [.ref l]) Q E s := by
  have size : its.size = ks.length := by
    have q := congrArg List.length eq
    rwa [Array.length_toList, List.length_map] at q
  let ob : Obj := { cls := .type "set", dict := none, data := .set #[] 0 (.fresh 0 0 (!w.params.followText "set-order")) }
  obtain ⟨c, tl, hmro⟩ := F.called_set.mro
  have hmade := F.called_set.made
  have hsub := F.called_set.sub
  refine wpAny_call (codeAny_of_tree ?_)
  show wpAny _ _ (callAny (.type "set") _) _ _ _
  refine wpAny_pure ⟨Code.quiet_builtin _ (by decide +kernel), codeAny_builtin F.entry_type_call ?_⟩
  rw [Around.under_plain (weight_type_call_type "set" [.ref l] []) rfl]
  have h1 := F.called_set.notType
  have h2 := F.called_set.canCreate
  have hct := F.typeCall_set_1 (.ref l)
  repeat (any_goals (first | assumption | wp_step))
  refine codeAny_mono (code_set_led1 (.ref l) (E := E) (Q₁ := fun obj s₁ => obj = .ref s.heap.objs.size ∧ s₁ = { s with heap := s.heap.push ob }) ⟨rfl, rfl⟩) fun r s₁ hr => ?_
  cases r with
  | error e => exact hr
  | ok fl =>
    cases fl with
    | ret obj =>
      obtain ⟨rfl, rfl⟩ := hr
      have hS : (s.heap.push ob).get? s.heap.objs.size = some ob := Heap.get?_push_size _ rfl
      have hT : Shared.TypeIs { s with heap := s.heap.push ob } (.ref s.heap.objs.size) "set" := ⟨_, hS, rfl⟩
      have hli := F.called_set.init.lookup
      have hbi := F.called_set.init.bind (.ref s.heap.objs.size)
      repeat (any_goals (first | assumption | wp_step))
      refine codeAny_mono (codeAny_call_builtin (R := wants (fun r s₂ => r = .none ∧ ∃ h' tk L es ep t, s₂ = { s with heap := h', toks := tk } ∧ SetTR P w h' s.heap.objs.size L es ep t ∧ Got ks ks.length L ∧
          (∀ b o, s.heap.get? b = some o → h'.get? b = some o)) E) F.called_set.init.plain F.entry_set_init (check_set_init_1 hT ?_)) fun r₂ s₂ hr₂ => ?_
      · obtain ⟨⟨ocls, odict, odata, oslots⟩, hol, hcl, nl, hdl⟩ := hl
        simp only at hcl hdl
        subst hcl; subst hdl
        have hol' := Heap.get?_push_of_some ob hol
        have hsls := F.sub_list_set
        have hslf := F.sub_list_frozenset
        have hne : (Value.type "list" == Value.type "dict") = false := by decide
        have hl1 : (s.heap.push ob).IsList l its := ⟨_, hol', rfl, nl, rfl⟩
        unfold Builtin.«set.__init__» noKeywords Builtin.Frozenset.updateFrom
        generalize hPI : pyIter = PI
        wp_walk
        subst hPI
        refine wpAny_pyIter_list hl1 ?_
        refine wpAny_bind (wpAny_runValue ?_)
        have lts : l < s.heap.objs.size := Heap.lt_size hol
        have hh3 : A.in1.in1.in1.handled = none := by simp [hh]
        have hz1 : (s.heap.push ob).objs.size = s.heap.objs.size + 1 := Heap.size_push ..
        have hneI : l ≠ (s.heap.push ob).objs.size := by
          rw [hz1]; exact Nat.ne_of_lt (Nat.lt_succ_of_lt lts)
        have far : s.heap.objs.size ∉ [(s.heap.push ob).objs.size, l] := by
          simp only [List.mem_cons, List.not_mem_nil, or_false, not_or]
          rw [hz1]; exact ⟨Nat.ne_of_lt (Nat.lt_succ_self _), Nat.ne_of_gt lts⟩
        have each : ∀ (i : Nat) (v : Value), its[i]? = some v → ∃ p, ks[i]? = some p ∧ v = .ref p.1 := fun i v hv => by
          have q : its.toList[i]? = some v := by rw [Array.getElem?_toList]; exact hv
          rw [eq, List.getElem?_map] at q
          cases hq : ks[i]? with
          | none => rw [hq] at q; cases q
          | some p =>
            rw [hq] at q
            exact ⟨p, rfl, (Option.some.inj q).symm⟩
        have none_of : ∀ b, s.heap.objs.size ≤ b → s.heap.get? b = none := fun b hb => by
          cases q : s.heap.get? b with
          | none => rfl
          | some o => exact (Nat.lt_irrefl _ (Nat.lt_of_lt_of_le (Heap.lt_size q) hb)).elim
        have Wk := (Walks.list (prog := P) (w := w) hh3 (s.heap.push ob).objs.size l hneI its).toS
        rw [size] at Wk
        refine upd_loop (g := s.heap) ks Wk s.heap.objs.size far few each tups (none_of _ (Nat.le_refl _)) (fun b hb => none_of b (by rw [List.mem_singleton.mp hb, hz1]; exact Nat.le_succ _)) hu ?fin ks.length 0 _ (by omega) (Nat.zero_le _)
          ⟨⟨_, Heap.get?_push_size _ rfl, rfl, rfl⟩, (hl1.push _)⟩ (fun b o e => Heap.get?_push_of_some _ (Heap.get?_push_of_some _ e)) ?start (fun s' m => m)
        case start => exact ⟨[], #[], 0, _, setTR_fresh (Heap.get?_push_of_some _ hS), Got.zero ks⟩
        case fin =>
          intro s' L es ep t hm hS' g' hkp
          obtain ⟨h', g2, d', tk', os'⟩ := s'
          obtain rfl : g2 = s.gens := hm.gens
          obtain rfl : d' = s.drawn := hm.drawn
          obtain rfl : os' = s.os := hm.os
          show wpAny _ _ _ _ _ _
          refine wpAny_pure ?_
          show wpAny _ _ (ret Value.none) _ _ _
          exact wpAny_pure ⟨rfl, h', tk', L, es, ep, t, rfl, hS', g', hkp⟩
      · cases r₂ with
        | error e => exact hr₂
        | ok fl₂ =>
          cases fl₂ with
          | ret r =>
            obtain ⟨rfl, h', tk, L, es, ep, t, rfl, hS', g', hk'⟩ := hr₂
            repeat (any_goals (first | assumption | wp_step))
            exact k _ _ _ _ _ _ hS' g' hk'
          | _ => exact hr₂.elim
    | _ => exact hr.elim
end
section
variable {X : Cx}
/-- set(xs), xs a list of tuples of ints -/
def rSetT (K : PySem.W.Frag) (P : Program) (w : World) : List V → Hp → VK → Prop := fun xs H Q => ∃ (l : Addr) (ks : List (Addr × List Int)), xs = [V.ref l] ∧ SqL K H l (ks.map fun p => V.ref p.1) ∧ (∀ p ∈ ks, SqT K H p.1 (p.2.map V.int)) ∧ Few ks ∧
  ∀ a L, H a = none → (∀ p ∈ L, p ∈ ks) → (∀ p ∈ ks, p.2 ∈ L.map (·.2)) → (L.map (·.2)).Nodup → Q (.ref a) (upd H a (SetTO P w a L))
theorem cr_setT (hc : X.calm = true) (hu : X.A.units + 64 < cLine) : CallR X (.type "set") (rSetT X.K X.prog X.w) := by
  intro pins s σ H xs us Q I r ⟨l, ks, e, hl, hk, few, q⟩
  subst e
  rw [Vals.ref1 r]
  obtain ⟨its, rv, pl, hz⟩ := I.list hl
  have hn : H s.heap.objs.size = none := I.hok.fresh (Nat.le_refl _)
  refine set_of (P := X.prog) (w := X.w) ks (I.ok.hd hc) pl.isList (by simpa using refs_of_vals rv) (fun p hp => I.isT (hk p hp)) few (by omega) fun h' tk L es ep t R g k => ?_
  refine ⟨.ref s.heap.objs.size, _, I.laid (t' := tk) k (Nat.le_refl _) (setTO_new R.t0), rfl, q _ L hn (fun p hp => List.mem_of_mem_take (g.sub p hp)) (fun p hp => ?_) R.nd⟩
  exact g.all p (by rw [List.take_length]; exact hp)
end

end RU
set_option Elab.async false
set_option linter.all false
set_option autoImplicit false
set_option maxRecDepth 100000
set_option maxHeartbeats 4000000
/-! RD: a dict comprehension whose keys are tuples. -/
namespace RU
open L2 PySem
section
variable {X : Cx} {pins : List (Addr × Obj)} {σ : L2.St} {H : Hp} {s : Shared} {A : Around}
open PySem.Spec PyProof.Rows in
/-- one pair laid into a dict with tuple keys -/
theorem lay_key {E : Value → Shared → Prop} {Q : Unit → Shared → Prop} {D b : Addr} {kvs : List (List Key × V)} {k : List Key} {v : V} {r : Value} (hu : A.units < cLine) (I : L2.Inv X pins σ H s) (hD : H D = some (.dT kvs)) (hb : H b = some (.tup (k.map kV)))
    (few : kvs.length < sizeLine) (rv : RelV v r) (next : ∀ s', L2.Inv X pins σ (upd H D (.dT (putK kvs k v))) s' → Q () s') : wpAny (model X.prog X.w) A (dictSet D (.ref b) r) Q E s := by
  obtain ⟨z, lo, xs, rel, dd⟩ := dt_of I.hok hD
  have small : xs.length ≤ sizeLine := by rw [← Paired.length rel]; exact z
  have fits : (putK kvs k v).length ≤ sizeLine := by
    have := length_putK kvs k v
    omega
  refine wpAny_dictSet_heap (hsz := small) (show A.units < cLine from hu) (key_of I.hok hb) dd fun h' dd' sb => next _ ?_
  obtain ⟨q, es, ep, hq, q2, q3, q4, _, q5⟩ := dd'
  refine d_write I (by rw [hD]; exact True.intro) sb ⟨q, hq⟩ ⟨fits, lo, _, (rel.put k hb rv).keeps fun c ys ec => ?_, q, es, ep, hq, q2, q3, q4, q5⟩
  have ne : c ≠ D := ne_of ec hD (fun z => nomatch z)
  rw [upd_ne ne]
  exact ec
end
section
variable {X : Cx}
/-- {k: v for target in iter if ..}, each key a tuple -/
def tDcT (wi : TI) (g : TG) (tt : TT) (tk tv : TE) (vs : List Nat) : TE := fun σ H Q => wi σ H fun J H1 => ∀ D, H1 D = none → ∃ W : Nat → Nat → Hp → Prop, (∃ m, W 0 m (upd H1 D (.dT []))) ∧ ∀ i m H, W i m H →
  (J.stop i H ∧ Q (.ref D) H) ∨ (J.go i H ∧ ∃ Nx : Hp → Prop, (∀ H', Nx H' → ∃ m', m' < m ∧ W (i + 1) m' H') ∧ ∀ x H', J.yld i H x H' → g x (wipe σ vs) H' fun σ2 H2 => wipe σ2 vs = wipe σ vs ∧ tt σ2 H2 fun b H3 =>
    if b = true then tk σ2 H3 fun y H4 => tv σ2 H4 fun z H5 => ∃ kvs k a, y = .ref a ∧ H5 a = some (.tup (k.map kV)) ∧ H5 D = some (.dT kvs) ∧ kvs.length < sizeLine ∧ Nx (upd H5 D (.dT (putK kvs k z))) else Nx H3)
open PySem.Spec PyProof.Rows in
theorem pe_dcT {kx vx tg iter : Expr} {ifs : List Expr} {scope : Scope} {own : List (Str × Nat)} {pos : Pos} {wi : TI} {g : TG} {tt : TT} {tk tv : TE} (hc : X.calm = true) (hu : X.A.units < cLine) (hN : X.N.Nodup) (hi : PI X tg iter wi) (ok : BlkOk X.N X.env.scope scope own)
    (hg : ∀ (s : Shared) (H : Hp) (C : Addr) (cl : List (Str × Addr)) (fp : List Addr), PG (X.blk s H scope (compEnvC scope cl C X.env) fp) tg g)
    (ht : ∀ (s : Shared) (H : Hp) (C : Addr) (cl : List (Str × Addr)) (fp : List Addr), PTs (X.blk s H scope (compEnvC scope cl C X.env) fp) ifs tt)
    (hk : ∀ (s : Shared) (H : Hp) (C : Addr) (cl : List (Str × Addr)) (fp : List Addr), PE (X.blk s H scope (compEnvC scope cl C X.env) fp) kx tk)
    (hv : ∀ (s : Shared) (H : Hp) (C : Addr) (cl : List (Str × Addr)) (fp : List Addr), PE (X.blk s H scope (compEnvC scope cl C X.env) fp) vx tv)
    (hs : ∀ x, foldedSetIterable iter X.env x = pure x := by intro _; rfl) : PE X (.DictComp kx vx [⟨tg, iter, ifs, 0⟩] scope pos) (tDcT wi g tt tk tv (own.map (·.2))) := by
  refine ⟨fun pins s σ H Q I h => ?_⟩
  rw [arm_eval_DictComp]
  have cells : ∀ y ∈ scope.names, y.2 = .free → ∃ c, X.env.cells.lookup y.1 = some c := by
    intro y hy e
    exact (ok.free y hy e).elim (fun k => I.ok.has _ (.inl k)) (fun k => I.ok.has _ (.inr k))
  refine wpAny_comprehension_free (use := none) rfl hs (closure_ok cells) ok.kind (fun y hy e => by rw [ok.uniq y hy, e])
    (thn (hi.run pins s σ H _ I h) fun xv s1 hx => thn hx fun itv s2 h2 => ?_)
  obtain ⟨it, fp, tn, J, H2, e, I2, T, st2, f2, q⟩ := h2
  subst e
  refine wpAny_newObj_type (newEnv_comp ?_)
  generalize hD : s2.heap.objs.size = D
  have big : s2.heap.objs.size ≤ D := Nat.le_of_eq hD
  obtain ⟨W, ⟨m0, w0⟩, turn⟩ := q D (I2.hok.fresh big)
  generalize hs3 : ({ s2 with heap := s2.heap.push { cls := .type "dict", data := .dict #[] } } : Shared) = s3
  have I3 : Inv X pins σ (upd H2 D (.dT [])) s3 := by
    rw [← hs3]
    refine I2.laid (t' := s2.toks) (fun b o e => Heap.get?_push_of_some _ e) big ?_
    rw [← hD]
    exact dt_empty s2.heap I2.big
  have e3 : s3.heap = s2.heap.push { cls := .type "dict", data := .dict #[] } := by rw [← hs3]
  have low : ∀ b ∈ fp, b < s2.heap.objs.size := by
    intro b hb
    obtain ⟨o, e, _⟩ := T.obj _ _ st2 b hb
    exact Heap.lt_size e
  have f3 : ∀ b ∈ fp, FpOk X pins (upd H2 D (.dT [])) b ∧ b < s3.heap.objs.size := by
    intro b hb
    have nb : b ≠ D := by rw [← hD]; exact Nat.ne_of_lt (low b hb)
    refine ⟨⟨?_, (f2 b hb).2⟩, by rw [e3, Heap.size_push]; exact Nat.lt_succ_of_lt (low b hb)⟩
    rw [upd_ne nb]
    exact (f2 b hb).1
  have st3 : tn 0 s3.heap := T.keep _ _ _ st2 fun b _ o e => by rw [e3]; exact Heap.get?_push_of_some _ e
  have I4 := block_start I3 ok hN f3
  show codeAny _ _ (.compStart (.DictComp kx vx [⟨tg, iter, ifs, 0⟩] scope pos) 0 (.ref it) (.ref D) (compEnvC scope (cellsFrom (s3.heap.objs.size + 1) scope.names (cloFrom X.env.cells scope.names [])) s3.heap.objs.size X.env)) (compPost (model X.prog X.w) X.A X.xe none (EP X pins σ Q) (.ref D) s3.heap.objs.size)
    { s3 with heap := pushCells (s3.heap.push { cls := .type "dict", data := .dict #[] }) scope.names }
  generalize hcl : cellsFrom (s3.heap.objs.size + 1) scope.names (cloFrom X.env.cells scope.names []) = cl at I4 ⊢
  have pg := hg s3 (upd H2 D (.dT [])) s3.heap.objs.size cl fp
  have pt := ht s3 (upd H2 D (.dT [])) s3.heap.objs.size cl fp
  have pk := hk s3 (upd H2 D (.dT [])) s3.heap.objs.size cl fp
  have pv := hv s3 (upd H2 D (.dT [])) s3.heap.objs.size cl fp
  have fin0 : ∀ s' m H', Inv X pins σ H' s' → Q (.ref D) H' → s'.heap.Ns s3.heap.objs.size m → FpOk X pins H' s3.heap.objs.size → compPost (model X.prog X.w) X.A X.xe none (EP X pins σ Q) (.ref D) s3.heap.objs.size (.ok .next) s' := by
    intro s' m H' I' q' hn ⟨f0, f1, f2, f3, f4, f5⟩
    exact ⟨m, hn, fun h'' sb => ⟨.ref D, H', I'.turned (t' := s'.toks) (fun b o hb e => (sb.2 b hb).trans e) f0 f1 f3 f4 f5, rfl, q'⟩⟩
  have nfp : ∀ b ∈ fp, (upd H2 D (.dT [])) b = none := fun b hb => (f3 b hb).1.1
  generalize hce : compEnvC scope cl s3.heap.objs.size X.env = ce at I4 pg pt pk pv ⊢
  have cL : ce.locals = s3.heap.objs.size := by subst hce; rfl
  generalize hH3 : upd H2 D (.dT []) = H3 at I3 I4 pg pt pk pv w0 nfp f3
  generalize hs4 : ({ s3 with heap := pushCells (s3.heap.push { cls := .type "dict", data := .dict #[] }) scope.names } : Shared) = s4 at I4 ⊢
  have st4 : tn 0 s4.heap := T.keep _ _ _ st3 fun b _ o e => by rw [← hs4]; exact pushCells_keeps _ _ _ _ (Heap.get?_push_of_some _ e)
  have stat : ∀ {σ' : L2.St} {H' : Hp} {s' : Shared}, Inv (X.blk s3 H3 scope ce fp) [] σ' H' s' → (∀ b ∈ fp, H' b = none) → ∀ b ∈ fp, FpOk (X.blk s3 H3 scope ce fp) [] H' b := by
    intro σ' H' s' I' hn b hb
    refine ⟨hn b hb, (I'.ok.exf b hb).1, I'.ok.exfs b hb, .inl hb, fun x c e => (I'.ok.exf b hb).2 x c e, fun p hp => ?_⟩
    exact absurd (show p ∈ ([] : List (Addr × Obj)) ++ [] from hp) (by simp)
  refine (fun loop => codeAny_compStart_dict loop (T.self X.A 0 _ _ _ st4 loop)) ?_
  refine compLoop_anyD (fun n s' => ∃ i H', Inv (X.blk s3 H3 scope ce fp) [] (wipe σ (own.map (·.2))) H' s' ∧ tn i s'.heap ∧ (∀ b ∈ fp, H' b = none) ∧ W i n H') ?_ m0 ⟨0, H3, I4, st4, nfp, w0⟩
  rintro n s5 ⟨i, H5, I5, st5, n5, w5⟩
  rcases turn i n H5 w5 with ⟨stop, qq⟩ | ⟨go, Nx, hNx, step⟩
  · refine thnF (T.done (X.blk s3 H3 scope ce fp) rfl rfl rfl hc i [] s5 _ H5 (fun _ _ => False) I5 (stat I5 n5) st5 stop) fun r s6 ⟨hr, I6⟩ => ?_
    subst hr
    have I7 : Inv X pins σ H5 s6 := I3.call' (ch := fp) I6.os I6.base I6.hok I6.bare fun b hb =>
      let z := (f3 b hb).1.2
      ⟨z.2.2.1, z.1, z.2.2.2.1, z.2.2.2.2⟩
    have nC : H5 s3.heap.objs.size = none := by
      have z : H5 ce.locals = none := I6.free
      rwa [cL] at z
    obtain ⟨m, hn, _⟩ := I6.loc
    have hn' : s6.heap.Ns ce.locals m := hn
    rw [cL] at hn'
    exact fin0 s6 m H5 I7 qq hn' (I3.fpOk (Nat.le_refl _) nC)
  · refine thnF (T.item (X.blk s3 H3 scope ce fp) rfl rfl rfl hc i [] s5 _ H5 (fun _ _ => False) I5 (stat I5 n5) st5 go) fun r s6 ⟨u, hr, h6⟩ => ?_
    subst hr
    refine thnF h6 fun _ s7 ⟨x, H7, I7, r7, y7, st7, n7⟩ => ?_
    refine thnF (pg.run _ s7 _ H7 x u _ (I7.pinned (stat I7 n7) (T.obj _ _ st7)) r7 (step x H7 y7)) fun _ s8 ⟨σ8, H8, I8, hw8, q8⟩ => ?_
    refine thnF (pt.run _ s8 σ8 H8 _ I8 q8) fun b s9 ⟨H9, I9, q9⟩ => ?_
    have close : ∀ {s' : Shared} {H' : Hp}, Inv (X.blk s3 H3 scope ce fp) ([] ++ pinsAt fp s7.heap) σ8 H' s' → Nx H' →
        ∃ m, m < n ∧ ∃ i H', Inv (X.blk s3 H3 scope ce fp) [] (wipe σ (own.map (·.2))) H' s' ∧ tn i s'.heap ∧ (∀ b ∈ fp, H' b = none) ∧ W i m H' := by
      intro s' H' I' nx
      obtain ⟨m', hm, w'⟩ := hNx H' nx
      have pin' : ∀ b ∈ fp, ∀ o, s7.heap.get? b = some o → s'.heap.get? b = some o ∧ H' b = none := by
        intro b hb o e
        have z := I'.pin (b, o) (List.mem_append_right _ (List.mem_append_right _ (mem_pinsAt hb e)))
        exact ⟨z.1, z.2.1⟩
      have hl : (wipe σ (own.map (·.2))).length = σ8.length := by rw [← hw8, wipe_length]
      refine ⟨m', hm, i + 1, H', (I'.unpinned (pins := [])).weak hl (fun j v e => ?_), T.keep _ _ _ st7 (fun b hb o e => (pin' b hb o e).1), fun b hb => ?_, w'⟩
      · rw [← hw8] at e
        exact (wipe_some e).1
      · obtain ⟨o, e, _⟩ := T.obj _ _ st7 b hb
        exact (pin' b hb o e).2
    cases b with
    | false =>
      simp only [Bool.false_eq_true, if_false] at q9 ⊢
      exact close I9 q9
    | true =>
      simp only [if_true] at q9 ⊢
      refine thnF (pk.run _ s9 σ8 H9 _ I9 q9) fun z s10 ⟨yk, H10, I10, r10, q10⟩ => ?_
      refine thnF (pv.run _ s10 σ8 H10 _ I10 q10) fun z2 s11 ⟨yv, H11, I11, r11, kvs, k, a, ek, ha, hD11, hz11, nx⟩ => ?_
      subst ek
      obtain rfl : z = Value.ref a := r10
      exact lay_key (X := X.blk s3 H3 scope ce fp) hu I11 hD11 ha hz11 r11 fun s12 I12 => close I12 nx
end
end RU
set_option Elab.async false
set_option linter.all false
set_option autoImplicit false
set_option maxRecDepth 100000
set_option maxHeartbeats 4000000
/-! DL4: rows, pairs of names, sets and dicts of pairs, fields. -/
namespace DL
open L2 PySem

abbrev eN (n : Nat) : D := .int (n : Int)
abbrev eP (p : Nat × Nat) : D := .tup [.int (p.1 : Int), .int (p.2 : Int)]
abbrev pT (l : List (Nat × Nat)) : D := .tup (l.map eP)
abbrev pL (l : List (Nat × Nat)) : D := .lst (l.map eP)
abbrev nT (l : List Nat) : D := .tup (l.map eN)
abbrev nR (l : List Nat) : D := .row (l.map eN)
abbrev nL (l : List Nat) : D := .lst (l.map eN)
theorem eN_map (l : List Nat) : l.map eN = (l.map fun n : Nat => (n : Int)).map D.int := by rw [List.map_map]; rfl

section
variable {P : Proto} {W : Addr → Prop} {Γ : En} {Ω : Ow} {te ta tb : TE} {tt : TT} {tl : TA} {S : D → Prop} {a b d : D} {K : PySem.W.Frag} {tv : TS} {po : Po}

/-! ### rows -/
theorem ev_row {ds : List D} (h : EvL P tl Γ Ω ds) (hl : ds.length ≤ 16777216) : Ev P (RU.tRow tl) Γ Ω (.row ds) := fun _ _ _ _ _ _ c Q q =>
  h c _ fun vs Hf1 H1 ds' e s1 i1 => by
    subst e
    refine ⟨lineOf (by rw [i1.length]; exact hl), fun p o hp pl => ?_⟩
    have s2 := Step.laid (o := .frz o (.tup vs)) (c.mono s1).sub (c.mono s1).pr hp
    exact q (.ref p) _ _ (.row ds') rfl (s1.trans s2) (.row upd_same pl.1 pl.2 (i1.mono s2.fr))
theorem o_catR {l m : List D} (hm : m ≠ []) (h : l.length + m.length ≤ 16777216) (t : Tupish a l := by first | exact Or.inl rfl | exact Or.inr rfl) : OpS P (RU.rCatR K) a (.row m) (fun x => x = .row (l ++ m)) := fun _ _ _ _ s p ia ib Q q => by
  obtain ⟨a, xs, rfl, ea, r⟩ := ia.tupish t
  cases ib with
  | row eb c n r2 =>
    rename_i b ob ys
    have hl := r.length
    have hl2 := r2.length
    refine ⟨a, b, xs, ys, rfl, rfl, ea _ _ s, .inl (.inr ⟨_, s _ _ eb⟩), fun z => hm ?_, lineOf (by rw [hl, hl2]; exact h), fun z => ?_, fun _ t o ht pl => ?_⟩
    · subst z
      exact List.length_eq_zero_iff.mp hl2.symm
    · subst z
      have hl0 : l = [] := List.length_eq_zero_iff.mp hl.symm
      subst hl0
      exact q _ _ _ _ rfl (StepW.refl s p) (.row eb c n r2)
    · have s2 := Step.laid (o := .frz o (.tup (xs ++ ys))) s p ht
      exact q _ _ _ _ rfl s2 (.row upd_same pl.1 pl.2 ((r.append r2).mono s2.fr))
theorem idx_cast (n : Nat) : ∀ l : List Nat, (l.map fun k : Nat => (k : Int)).idxOf (n : Int) = l.idxOf n
  | [] => rfl
  | k :: l => by
    rw [List.map_cons, List.idxOf_cons, List.idxOf_cons, idx_cast n l]
    by_cases h : k = n
    · subst h; simp
    · have h1 : ((k : Int) == (n : Int)) = false := by simpa using fun e : (k : Int) = n => h (by omega)
      have h2 : (k == n) = false := by simpa using h
      rw [h1, h2]
theorem mem_cast {n : Nat} {l : List Nat} : ((n : Int) ∈ l.map fun k : Nat => (k : Int)) ↔ n ∈ l := by
  rw [List.mem_map]
  exact ⟨fun ⟨k, hk, e⟩ => by have : k = n := by omega
                              subst this; exact hk, fun h => ⟨n, h, rfl⟩⟩
theorem ev_index {l : List Nat} {n : Nat} (h1 : Ev P ta Γ Ω (nR l)) (h2 : Ev P tb Γ Ω (eN n)) (hn : n ∈ l) : Ev P (RU.tRM (RU.rTIx K) ta (tCons tb tNil)) Γ Ω (eN (l.idxOf n)) := fun _ _ _ _ _ _ c Q q =>
  h1 c _ fun v Hf1 H1 d e s1 i1 => by
    subst e
    cases i1 with
    | row e1 cl nd r =>
      rename_i a ob xs
      have c1 := c.mono s1
      refine ⟨⟨a, ob, _, rfl, c1.sub _ _ e1, cl, nd⟩, h2 c1 _ fun w Hf2 H2 d2 e2 s2 i2 => ?_⟩
      subst e2
      cases i2
      rw [eN_map] at r
      have hx := r.ints
      subst hx
      refine ⟨a, _, _, rfl, rfl, .inl (.inr ⟨_, (c1.mono s2).sub _ _ (s2.fr _ _ e1)⟩), mem_cast.mpr hn, ?_⟩
      rw [idx_cast]
      exact q _ _ _ _ rfl (s1.trans s2) (.int _)
theorem o_inN {neg : Bool} {i : Nat} {ns : List Nat} (t : Tupish b (ns.map eN) := by first | exact Or.inl rfl | exact Or.inr rfl) : OpS P (rIn K neg) (eN i) b (fun x => x = .bl (if neg then !decide (i ∈ ns) else decide (i ∈ ns))) := by
  rw [eN_map] at t
  have h := o_inT (P := P) (K := K) (neg := neg) (i := (i : Int)) (ns := ns.map fun k : Nat => (k : Int)) t
  have e : decide ((i : Int) ∈ ns.map fun k : Nat => (k : Int)) = decide (i ∈ ns) := by
    by_cases h : i ∈ ns
    · rw [decide_eq_true h, decide_eq_true (mem_cast.mpr h)]
    · rw [decide_eq_false h, decide_eq_false (fun z => h (mem_cast.mp z))]
  rw [e] at h
  exact h
theorem o_inNL {neg : Bool} {i : Nat} {ns : List Nat} : OpS P (rIn K neg) (eN i) (nL ns) (fun x => x = .bl (if neg then !decide (i ∈ ns) else decide (i ∈ ns))) := by
  have h := o_inL (P := P) (K := K) (neg := neg) (i := (i : Int)) (ns := ns.map fun k : Nat => (k : Int))
  have e : decide ((i : Int) ∈ ns.map fun k : Nat => (k : Int)) = decide (i ∈ ns) := by
    by_cases h : i ∈ ns
    · rw [decide_eq_true h, decide_eq_true (mem_cast.mpr h)]
    · rw [decide_eq_false h, decide_eq_false (fun z => h (mem_cast.mp z))]
  rw [e, ← eN_map] at h
  exact h
theorem o_eqN {i j : Nat} : OpS P rEq (eN i) (eN j) (fun x => x = .bl (decide (i = j))) := by
  have h := o_eqI (P := P) (i := (i : Int)) (j := (j : Int))
  have e : decide ((i : Int) = (j : Int)) = decide (i = j) := by
    by_cases h : i = j
    · subst h; simp
    · rw [decide_eq_false h, decide_eq_false (by omega)]
  rw [e] at h
  exact h
theorem o_neN {i j : Nat} : OpS P rNe (eN i) (eN j) (fun x => x = .bl (!decide (i = j))) := by
  have h := o_neI (P := P) (i := (i : Int)) (j := (j : Int))
  have e : decide ((i : Int) = (j : Int)) = decide (i = j) := by
    by_cases h : i = j
    · subst h; simp
    · rw [decide_eq_false h, decide_eq_false (by omega)]
  rw [e] at h
  exact h
theorem o_addN {i j : Nat} : OpS P (rI0 fun i j => .int (i + j)) (eN i) (eN j) (fun x => x = eN (i + j)) := by
  have h := o_add (P := P) (i := (i : Int)) (j := (j : Int))
  have e : (i : Int) + (j : Int) = ((i + j : Nat) : Int) := by omega
  rw [e] at h
  exact h

/-! ### pairs of names -/
def yP (p : Nat × Nat) : PyData := .tuple [.int (p.1 : Int), .int (p.2 : Int)]
theorem yP_eqv (p q : Nat × Nat) : PyData.eqv (yP p) (yP q) = decide (p = q) := by
  obtain ⟨x, y⟩ := p
  obtain ⟨z, u⟩ := q
  have e : PyData.eqv (yP (x, y)) (yP (z, u)) = (((x : Int) == (z : Int)) && (((y : Int) == (u : Int)) && true)) := by simp only [yP, PyData.eqv, PyData.eqvAll]
  rw [e]
  by_cases h : ((x, y) : Nat × Nat) = (z, u)
  · cases h; simp
  · rw [decide_eq_false h]
    by_cases h1 : x = z
    · have h2 : ¬ y = u := fun h2 => h (by rw [h1, h2])
      have : ((y : Int) == (u : Int)) = false := by simpa using fun e : (y : Int) = u => h2 (by omega)
      rw [this, Bool.false_and, Bool.and_false]
    · have : ((x : Int) == (z : Int)) = false := by simpa using fun e : (x : Int) = z => h1 (by omega)
      rw [this, Bool.false_and]
theorem yP_lay (p : Nat × Nat) : (yP p).canLay0 = true := by simp [yP, PyData.canLay0, PyData.canLayAll0]
theorem yP_depth (p : Nat × Nat) : (yP p).depth = 1 := by simp [yP, PyData.depth, PyData.depthAll]
theorem yP_shaped (p : Nat × Nat) : SeqAt.shaped (yP p) = true := by
  unfold SeqAt.shaped
  rw [yP_lay, yP_depth]; rfl
theorem yPs_lay : ∀ l : List (Nat × Nat), PyData.canLayAll0 (l.map yP) = true
  | [] => by simp [PyData.canLayAll0]
  | p :: l => by simp [PyData.canLayAll0, yP_lay p, yPs_lay l]
theorem yPs_depth : ∀ l : List (Nat × Nat), PyData.depthAll (l.map yP) ≤ 1
  | [] => by simp [PyData.depthAll]
  | p :: l => by
    have h1 := yPs_depth l
    have h2 := yP_depth p
    simp only [List.map_cons, PyData.depthAll]
    omega
theorem yPs_shapedT (l : List (Nat × Nat)) : SeqAt.shaped (.tuple (l.map yP)) = true := by
  have h1 := yPs_depth l
  unfold SeqAt.shaped
  rw [Bool.and_eq_true]
  exact ⟨by simp only [PyData.canLay0]; exact yPs_lay l, decide_eq_true (by simp only [PyData.depth]; omega)⟩
theorem yPs_shapedL (l : List (Nat × Nat)) : SeqAt.shaped (.list (l.map yP)) = true := by
  have h1 := yPs_depth l
  unfold SeqAt.shaped
  rw [Bool.and_eq_true]
  exact ⟨by simp only [PyData.canLay0]; exact yPs_lay l, decide_eq_true (by simp only [PyData.depth]; omega)⟩
theorem dp_pair {H : Hp} {v : V} {p : Nat × Nat} (h : Is H v (eP p)) : Dp K H v (yP p) := by
  obtain ⟨a, xs, rfl, e, r⟩ := h.tup_inv
  obtain ⟨x, y, rfl, i1, i2⟩ := r.two_inv
  cases i1; cases i2
  exact .tup (SqT.of e) (.cons (.int _) (.cons (.int _) .nil))
theorem dp_pairs {H : Hp} : ∀ {xs : List V} {l : List (Nat × Nat)}, IsAll H xs (l.map eP) → DpAll K H xs (l.map yP)
  | _, [], .nil => .nil
  | _, p :: l, .cons h r => .cons (dp_pair h) (dp_pairs r)
theorem any_pairs (p : Nat × Nat) : ∀ l : List (Nat × Nat), ((l.map yP).any fun z => PyData.eqv z (yP p)) = decide (p ∈ l)
  | [] => rfl
  | q :: l => by
    rw [List.map_cons, List.any_cons, any_pairs p l, yP_eqv]
    by_cases h : q = p
    · subst h; simp
    · have h' : ¬ p = q := fun e => h e.symm
      rw [decide_eq_false h, Bool.false_or]
      by_cases h2 : p ∈ l
      · rw [decide_eq_true h2, decide_eq_true (List.mem_cons_of_mem _ h2)]
      · rw [decide_eq_false h2, decide_eq_false (by simp [h', h2])]
theorem o_inP {neg : Bool} {p : Nat × Nat} {l : List (Nat × Nat)} : OpS P (RU.rInU K neg) (eP p) (pT l) (fun x => x = .bl (if neg then !decide (p ∈ l) else decide (p ∈ l))) := OpS.pure fun s ia ib => by
  refine ⟨_, .bl _, fun Q q => ?_⟩
  obtain ⟨a, xs, rfl, e, r⟩ := (ib.mono s).tup_inv
  refine ⟨yP p, l.map yP, dp_pair (ia.mono s), .tup (SqT.of e) (dp_pairs r), yP_shaped p, yPs_shapedT l, ?_⟩
  rw [any_pairs]
  exact q
theorem o_inPL {p : Nat × Nat} {l : List (Nat × Nat)} : OpS P (rInD K) (eP p) (pL l) (fun x => x = .bl (decide (p ∈ l))) := OpS.pure fun s ia ib => by
  refine ⟨_, .bl _, fun Q q => ?_⟩
  obtain ⟨a, xs, rfl, e, r⟩ := (ib.mono s).lst_inv
  refine ⟨yP p, l.map yP, dp_pair (ia.mono s), .lst (SqL.of e) (dp_pairs r), yP_shaped p, yPs_shapedL l, ?_⟩
  rw [any_pairs]
  exact q
/-- the order of pairs -/
def plt (p q : Nat × Nat) : Prop := p.1 < q.1 ∨ (p.1 = q.1 ∧ p.2 < q.2)
def ple (p q : Nat × Nat) : Prop := p.1 < q.1 ∨ (p.1 = q.1 ∧ p.2 ≤ q.2)
instance : DecidableRel plt := fun p q => inferInstanceAs (Decidable (_ ∨ _))
/-- the ints of a pair -/
def zP (p : Nat × Nat) : List Int := [(p.1 : Int), (p.2 : Int)]
theorem zP_inj {p q : Nat × Nat} (h : zP p = zP q) : p = q := by
  unfold zP at h
  injection h with h1 h2
  injection h2 with h2 _
  exact Prod.ext (by omega) (by omega)
theorem eP_inv {H : Hp} {v : V} {p : Nat × Nat} (h : Is H v (eP p)) : ∃ a, v = .ref a ∧ H a = some (.tup ((zP p).map V.int)) := by
  obtain ⟨a, xs, rfl, e, r⟩ := h.tup_inv
  obtain ⟨x, y, rfl, i1, i2⟩ := r.two_inv
  cases i1; cases i2
  exact ⟨a, rfl, e⟩
theorem eP_mk {H : Hp} {a : Addr} {p : Nat × Nat} (h : H a = some (.tup ((zP p).map V.int))) : Is H (.ref a) (eP p) := .tup h (.cons (.int _) (.cons (.int _) .nil))
/-- a list of pairs by addresses -/
theorem pairs_ks {H : Hp} : ∀ {xs : List V} {l : List (Nat × Nat)}, IsAll H xs (l.map eP) → ∃ ks : List (Addr × (Nat × Nat)), xs = ks.map (fun k => V.ref k.1) ∧ ks.map (·.2) = l ∧ ∀ k ∈ ks, H k.1 = some (.tup ((zP k.2).map V.int))
  | _, [], .nil => ⟨[], rfl, rfl, fun k h => by cases h⟩
  | _, p :: l, .cons h r => by
    obtain ⟨a, rfl, e⟩ := eP_inv h
    obtain ⟨ks, rfl, e2, e3⟩ := pairs_ks r
    refine ⟨(a, p) :: ks, rfl, by rw [List.map_cons, e2], fun k hk => ?_⟩
    rcases List.mem_cons.mp hk with rfl | hk
    · exact e
    · exact e3 k hk
theorem ks_pairs {H : Hp} : ∀ ks : List (Addr × (Nat × Nat)), (∀ k ∈ ks, H k.1 = some (.tup ((zP k.2).map V.int))) → IsAll H (ks.map fun k => V.ref k.1) ((ks.map (·.2)).map eP)
  | [], _ => .nil
  | k :: ks, h => .cons (eP_mk (h k List.mem_cons_self)) (ks_pairs ks fun k hk => h k (List.mem_cons_of_mem _ hk))
/-- a set of pairs -/
def SetR (prog : Program) (w : World) (L : List (Nat × Nat)) : Hp → V → Prop := fun H v => ∃ (a : Addr) (ks : List (Addr × (Nat × Nat))), v = .ref a ∧ H a = some (SetTO prog w a (ks.map fun k => (k.1, zP k.2))) ∧ ks.map (·.2) = L ∧ ∀ k ∈ ks, H k.1 = some (.tup ((zP k.2).map V.int))
theorem ks_of : ∀ (A : List (Addr × List Int)) (ks : List (Addr × (Nat × Nat))), (∀ x ∈ A, x ∈ ks.map fun k => (k.1, zP k.2)) → ∃ As : List (Addr × (Nat × Nat)), A = As.map (fun k => (k.1, zP k.2)) ∧ ∀ x ∈ As, x ∈ ks
  | [], _, _ => ⟨[], rfl, fun _ h => by cases h⟩
  | x :: A, ks, h => by
    obtain ⟨As, e, hs⟩ := ks_of A ks fun y hy => h y (List.mem_cons_of_mem _ hy)
    obtain ⟨k, hk, ek⟩ := List.mem_map.mp (h x List.mem_cons_self)
    refine ⟨k :: As, by rw [List.map_cons, ← e, ek], fun y hy => ?_⟩
    rcases List.mem_cons.mp hy with rfl | hy
    · exact hk
    · exact hs y hy
theorem c_setP {prog : Program} {w : World} {l : List (Nat × Nat)} (few : ∀ L : List (Nat × Nat), (∀ p ∈ L, p ∈ l) → L.Nodup → L.length < 63) :
    CaS P (RU.rSetT K prog w) [pL l] (fun d => ∃ L : List (Nat × Nat), L.Nodup ∧ (∀ p, p ∈ L ↔ p ∈ l) ∧ d = .sem (SetR prog w L)) := fun _ _ _ s p ia Q q => by
  obtain ⟨v, rfl, i⟩ := ia.one_inv
  obtain ⟨a, xs, rfl, e, r⟩ := i.lst_inv
  obtain ⟨ks, rfl, e2, e3⟩ := pairs_ks r
  refine ⟨a, ks.map fun k => (k.1, zP k.2), rfl, ?_, fun x hx => ?_, fun A hA nd => ?_, fun b A hb h1 h2 nd => ?_⟩
  · rw [List.map_map]
    exact SqL.of (s _ _ e)
  · obtain ⟨k, hk, rfl⟩ := List.mem_map.mp hx
    exact SqT.of (s _ _ (e3 k hk))
  · obtain ⟨As, rfl, hs⟩ := ks_of A ks hA
    have := few (As.map (·.2)) (fun p hp => by
      obtain ⟨k, hk, rfl⟩ := List.mem_map.mp hp
      rw [← e2]
      exact List.mem_map.mpr ⟨k, hs k hk, rfl⟩) (by
      rw [List.map_map] at nd
      have nd' : ((As.map (·.2)).map zP).Nodup := by rw [List.map_map]; exact nd
      exact List.Pairwise.of_map zP (fun x y hne he => hne (congrArg zP he)) nd')
    rw [List.length_map] at this ⊢
    omega
  · obtain ⟨As, rfl, hs⟩ := ks_of A ks h1
    have s2 := Step.laid (o := SetTO prog w b (As.map fun k => (k.1, zP k.2))) s p hb
    refine q _ _ _ _ ⟨As.map (·.2), ?_, fun p => ⟨fun hp => ?_, fun hp => ?_⟩, rfl⟩ s2 (.sem fun H2 sm => ⟨b, As, rfl, sm _ _ upd_same, rfl, fun k hk => sm _ _ (s2.fr _ _ (e3 k (hs k hk)))⟩)
    · rw [List.map_map] at nd
      have nd' : ((As.map (·.2)).map zP).Nodup := by rw [List.map_map]; exact nd
      exact List.Pairwise.of_map zP (fun x y hne he => hne (congrArg zP he)) nd'
    · obtain ⟨k, hk, rfl⟩ := List.mem_map.mp hp
      rw [← e2]
      exact List.mem_map.mpr ⟨k, hs k hk, rfl⟩
    · rw [← e2] at hp
      obtain ⟨k, hk, rfl⟩ := List.mem_map.mp hp
      have := h2 (k.1, zP k.2) (List.mem_map.mpr ⟨k, hk, rfl⟩)
      rw [List.map_map] at this
      obtain ⟨k', hk', e'⟩ := List.mem_map.mp this
      exact List.mem_map.mpr ⟨k', hk', zP_inj e'⟩
theorem plt_of {p q : Nat × Nat} (h : TS.code 64 (zP p) ≤ TS.code 64 (zP q)) (ne : p ≠ q) (b1 : p.1 < 64 ∧ p.2 < 64) (b2 : q.1 < 64 ∧ q.2 < 64) : plt p q := by
  have := pair_lt h (fun e => ne (zP_inj e)) (by omega) (by omega) (by omega) (by omega)
  unfold plt
  omega
theorem bd_zP {p : Nat × Nat} (h : p.1 < 64 ∧ p.2 < 64) : TS.Bd 64 (zP p) := by
  intro m hm
  unfold zP at hm
  simp only [List.mem_cons, List.not_mem_nil, or_false] at hm
  omega
theorem c_sortedSet {prog : Program} {w : World} {L : List (Nat × Nat)} (bd : ∀ p ∈ L, p.1 < 64 ∧ p.2 < 64) :
    CaS P (rSortedT K prog w) [.sem (SetR prog w L)] (fun d => ∃ M : List (Nat × Nat), M.Perm L ∧ M.Pairwise plt ∧ d = pL M) := fun _ _ _ s p ia Q q => by
  obtain ⟨v, rfl, i⟩ := ia.one_inv
  obtain ⟨a, ks, rfl, e, rfl, e3⟩ := i.sem_inv _ (Same.refl _)
  refine ⟨a, ks.map fun k => (k.1, zP k.2), 2, 64, rfl, s _ _ e, fun x hx => ?_, by decide, fun x hx => ?_, fun L' b pm nd few pw hb => ?_⟩
  · obtain ⟨k, hk, rfl⟩ := List.mem_map.mp hx
    exact SqT.of (s _ _ (e3 k hk))
  · obtain ⟨k, hk, rfl⟩ := List.mem_map.mp hx
    exact ⟨rfl, bd_zP (bd _ (List.mem_map.mpr ⟨k, hk, rfl⟩))⟩
  · obtain ⟨As, rfl, hs⟩ := ks_of L' ks fun x hx => pm.mem_iff.mp hx
    have pmk : (As.map (·.2)).Perm (ks.map (·.2)) := by
      have h := pm.map (·.2)
      rw [List.map_map, List.map_map] at h
      have h' : ((As.map (·.2)).map zP).Perm ((ks.map (·.2)).map zP) := by rw [List.map_map, List.map_map]; exact h
      have back : ∀ l : List (Nat × Nat), (l.map zP).map (fun x => ((x.getD 0 0).toNat, (x.getD 1 0).toNat)) = l := by
        intro l
        rw [List.map_map]
        have : ((fun x : List Int => ((x.getD 0 0).toNat, (x.getD 1 0).toNat)) ∘ zP) = id := by
          funext x
          simp [zP]
        rw [this, List.map_id]
      have h2 := h'.map (fun x => ((x.getD 0 0).toNat, (x.getD 1 0).toNat))
      rw [back, back] at h2
      exact h2
    have s2 := Step.laid (o := .lst ((As.map fun k => (k.1, zP k.2)).map fun q => V.ref q.1)) s p hb
    refine q _ _ _ _ ⟨As.map (·.2), pmk, ?_, rfl⟩ s2 (.lst upd_same ?_)
    · rw [List.pairwise_map] at pw ⊢
      have nd' : As.Pairwise fun x y => x.2 ≠ y.2 := by
        have nd2 := nd
        rw [List.map_map] at nd2
        have := List.pairwise_map.mp nd2
        exact this.imp fun {x y} hne he => hne (congrArg zP he)
      refine (List.Pairwise.and pw nd').imp_of_mem fun {x y} hx hy h => ?_
      exact plt_of h.1 h.2 (bd _ (pmk.mem_iff.mp (List.mem_map.mpr ⟨x, hx, rfl⟩))) (bd _ (pmk.mem_iff.mp (List.mem_map.mpr ⟨y, hy, rfl⟩)))
    · refine IsAll.mono s2.fr ?_
      rw [List.map_map]
      exact ks_pairs As fun k hk => e3 k (hs k hk)

theorem isAll_perm {α : Type} {emb : α → D} {H : Hp} {xs ys : List V} (pm : List.Perm xs ys) : ∀ {l : List α}, IsAll H xs (l.map emb) → ∃ m : List α, m.Perm l ∧ IsAll H ys (m.map emb) := by
  induction pm with
  | nil => intro l h; exact ⟨l, List.Perm.refl _, h⟩
  | cons x _ ih =>
    intro l h
    cases l with
    | nil => cases h
    | cons d l =>
      cases h with
      | cons a r =>
        obtain ⟨m, pm, h⟩ := ih r
        exact ⟨d :: m, pm.cons d, .cons a h⟩
  | swap x y _ =>
    intro l h
    match l, h with
    | d :: e :: l, .cons a (.cons b r) => exact ⟨e :: d :: l, List.Perm.swap _ _ _, .cons b (.cons a r)⟩
  | trans _ _ ih1 ih2 =>
    intro l h
    obtain ⟨m, p1, h1⟩ := ih1 h
    obtain ⟨k, p2, h2⟩ := ih2 h1
    exact ⟨k, p2.trans p1, h2⟩
theorem ple_of {p q : Nat × Nat} (h : TS.code 64 (zP p) ≤ TS.code 64 (zP q)) (b1 : p.1 < 64 ∧ p.2 < 64) (b2 : q.1 < 64 ∧ q.2 < 64) : ple p q := by
  by_cases e : p = q
  · subst e; exact .inr ⟨rfl, Nat.le_refl _⟩
  · have := plt_of h e b1 b2
    unfold plt at this
    unfold ple
    omega
/-- sorted(l), few pairs -/
theorem c_sortedP {l : List (Nat × Nat)} (bd : ∀ p ∈ l, p.1 < 64 ∧ p.2 < 64) (hl : l.length < 64) : CaS P (rSortU K 2 64) [pL l] (fun d => ∃ M : List (Nat × Nat), M.Perm l ∧ M.Pairwise ple ∧ d = pL M) := fun Hfa Ha _ s p ia Q q => by
  obtain ⟨v, rfl, i⟩ := ia.one_inv
  obtain ⟨a, xs, rfl, e, r⟩ := i.lst_inv
  have each : ∀ x ∈ xs, ∃ p ∈ l, ∃ t, x = .ref t ∧ SqT K Ha t ((zP p).map V.int) := fun x hx => by
    obtain ⟨j, hj⟩ := List.getElem?_of_mem hx
    obtain ⟨d, hd, id⟩ := r.getV hj
    rw [List.getElem?_map] at hd
    cases hp : l[j]? with
    | none => rw [hp] at hd; cases hd
    | some p =>
      rw [hp] at hd
      obtain rfl : eP p = d := Option.some.inj hd
      obtain ⟨t, e1, e2⟩ := eP_inv id
      exact ⟨p, List.mem_of_getElem? hp, t, e1, SqT.of (s _ _ e2)⟩
  refine ⟨a, xs, rfl, SqL.of (s _ _ e), by rw [r.length, List.length_map]; exact hl, fun x hx => ?_, fun ys b pm pw hb => ?_⟩
  · obtain ⟨p, hp, t, e1, e2⟩ := each x hx
    exact ⟨zP p, ⟨t, e1, e2⟩, rfl, bd_zP (bd p hp)⟩
  · obtain ⟨m, pm2, h2⟩ := isAll_perm pm.symm r
    have s2 := Step.laid (o := .lst ys) s p hb
    refine q _ _ _ _ ⟨m, pm2, ?_, rfl⟩ s2 (.lst upd_same (h2.mono s2.fr))
    have mem : ∀ p ∈ m, p ∈ l := fun p hp => pm2.mem_iff.mp hp
    clear pm2 s2 q
    have key : ∀ (ys : List V) (m : List (Nat × Nat)), IsAll Hfa ys (m.map eP) → (∀ p ∈ m, p ∈ l) → ys.Pairwise (fun x y => ∀ n k, TupI K Ha x n → TupI K Ha y k → TS.code 64 n ≤ TS.code 64 k) → m.Pairwise ple := by
      intro ys m
      induction m generalizing ys with
      | nil => intro _ _ _; exact .nil
      | cons p m ih =>
        intro h mem pw
        cases h with
        | cons a r =>
          rename_i v vs
          rw [List.pairwise_cons] at pw
          refine .cons (fun z hz => ?_) (ih vs r (fun z hz => mem z (List.mem_cons_of_mem _ hz)) pw.2)
          obtain ⟨j, hj⟩ := List.getElem?_of_mem hz
          have hj' : (m.map eP)[j]? = some (eP z) := by rw [List.getElem?_map, hj]; rfl
          obtain ⟨u, hu, iu⟩ := r.get hj'
          obtain ⟨t1, rfl, e1⟩ := eP_inv a
          obtain ⟨t2, rfl, e2⟩ := eP_inv iu
          exact ple_of (pw.1 _ (List.mem_of_getElem? hu) _ _ ⟨t1, rfl, SqT.of (s _ _ e1)⟩ ⟨t2, rfl, SqT.of (s _ _ e2)⟩) (bd p (mem p List.mem_cons_self)) (bd z (mem z (List.mem_cons_of_mem _ hz)))
    exact key ys m h2 mem pw

/-! ### a dict of pairs, each to True -/
def kP (p : Nat × Nat) : List Key := [.inl (p.1 : Int), .inl (p.2 : Int)]
theorem kP_inj {p q : Nat × Nat} (h : kP p = kP q) : p = q := by
  unfold kP at h
  injection h with h1 h2
  injection h2 with h2 _
  exact Prod.ext (by injection h1 with h1; omega) (by injection h2 with h2; omega)
theorem kP_kV (p : Nat × Nat) : (kP p).map kV = (zP p).map V.int := rfl
def trues (L : List (Nat × Nat)) : List (List Key × V) := L.map fun p => (kP p, V.bl true)
abbrev dP (L : List (Nat × Nat)) : OC := .dt (L.map fun p => (kP p, D.bl true))
theorem own_dP {Hf H : Hp} {p : Addr} {L : List (Nat × Nat)} : OwnAt Hf H p (dP L) ↔ H p = some (.dT (trues L)) := by
  constructor
  · rintro ⟨kvs, e, k, r⟩
    have : kvs = trues L := by
      have hb : ∀ (kvs : List (List Key × V)) (L : List (Nat × Nat)), kvs.map (·.1) = (L.map fun p => (kP p, D.bl true)).map (·.1) → IsAll Hf (kvs.map (·.2)) ((L.map fun p => (kP p, D.bl true)).map (·.2)) → kvs = trues L := by
        intro kvs
        induction kvs with
        | nil =>
          intro L k _
          cases L with
          | nil => rfl
          | cons p L => cases k
        | cons x kvs ih =>
          intro L k r
          cases L with
          | nil => cases k
          | cons p L =>
            obtain ⟨x1, x2⟩ := x
            injection k with k1 k2
            have k1' : x1 = kP p := k1
            cases r with
            | cons a r =>
              have a' : Is Hf x2 (.bl true) := a
              cases a'
              rw [ih L k2 r, k1']
              rfl
      exact hb kvs L k r
    rw [← this]; exact e
  · intro e
    refine ⟨trues L, e, ?_, ?_⟩
    · unfold trues
      rw [List.map_map, List.map_map]
      rfl
    · unfold trues
      rw [List.map_map, List.map_map]
      induction L with
      | nil => exact .nil
      | cons p L ih =>
        refine .cons (.bl true) ?_
        have key : ∀ L : List (Nat × Nat), IsAll Hf (L.map ((fun x : List Key × V => x.2) ∘ fun p => (kP p, V.bl true))) (L.map ((fun x : List Key × D => x.2) ∘ fun p => (kP p, D.bl true))) := by
          intro L
          induction L with
          | nil => exact .nil
          | cons p L ih => exact .cons (.bl true) ih
        exact key L
def addP (L : List (Nat × Nat)) (p : Nat × Nat) : List (Nat × Nat) := if p ∈ L then L else L ++ [p]
theorem any_trues (p : Nat × Nat) : ∀ L : List (Nat × Nat), ((trues L).any fun kv => decide (kv.1 = kP p)) = decide (p ∈ L)
  | [] => rfl
  | q :: L => by
    have ih := any_trues p L
    unfold trues at ih ⊢
    rw [List.map_cons, List.any_cons, ih]
    by_cases h : q = p
    · subst h; simp
    · have h1 : ¬ kP q = kP p := fun e => h (kP_inj e)
      have h' : ¬ p = q := fun e => h e.symm
      rw [decide_eq_false h1, Bool.false_or]
      by_cases h2 : p ∈ L
      · rw [decide_eq_true h2, decide_eq_true (List.mem_cons_of_mem _ h2)]
      · rw [decide_eq_false h2, decide_eq_false (by simp [h', h2])]
theorem put_trues (L : List (Nat × Nat)) (p : Nat × Nat) : putK (trues L) (kP p) (.bl true) = trues (addP L p) := by
  unfold putK addP
  rw [any_trues]
  by_cases h : p ∈ L
  · rw [decide_eq_true h, if_pos rfl, if_pos h]
    have : ∀ M : List (Nat × Nat), (trues M).map (fun kv => if kv.1 = kP p then (kv.1, V.bl true) else kv) = trues M := by
      intro M
      induction M with
      | nil => rfl
      | cons q M ih =>
        unfold trues at *
        rw [List.map_cons, List.map_cons, ih]
        split <;> rfl
    exact this L
  · rw [decide_eq_false h, if_neg (by decide), if_neg h]
    unfold trues
    rw [List.map_append]
    rfl
theorem val_trues (L : List (Nat × Nat)) (p : Nat × Nat) : (valV (trues L) (kP p)).isSome = decide (p ∈ L) := by
  rw [← valV_any, any_trues]
theorem addP_len (L : List (Nat × Nat)) (p : Nat × Nat) : (addP L p).length ≤ L.length + 1 := by
  unfold addP
  split
  · omega
  · rw [List.length_append, List.length_singleton]
    omega
/-- the pair (a, b) in a dict of one's own (the first cell) -/
theorem ev_inD {p : Addr} {L : List (Nat × Nat)} {q : Nat × Nat} (h1 : Ev P ta Γ ((p, dP L) :: Ω) (eP q)) (h2 : Ev P tb Γ ((p, dP L) :: Ω) (.ref p)) : Ev P (tDIn ta tb) Γ ((p, dP L) :: Ω) (.bl (decide (q ∈ L))) := fun _ _ _ _ _ _ c Q k =>
  h1 c _ fun v Hf1 H1 d e s1 i1 => h2 (c.mono s1) _ fun w Hf2 H2 d2 e2 s2 i2 => by
    subst e; subst e2
    cases i2
    have c2 := (c.mono s1).mono s2
    obtain ⟨a, rfl, ea⟩ := eP_inv (i1.mono s2.fr)
    have ep := own_dP.mp (c2.own p _ List.mem_cons_self).1
    refine ⟨p, _, rfl, DGet.t (k := kP q) ep (by rw [kP_kV]; exact c2.sub _ _ ea), ?_⟩
    rw [val_trues]
    exact k _ _ _ _ rfl (s1.trans s2) (.bl _)
/-- d[(a, b)] = True -/
theorem st_putD {p : Addr} {L : List (Nat × Nat)} {q : Nat × Nat} (h1 : Ev P ta Γ ((p, dP L) :: Ω) (.ref p)) (h2 : Ev P tb Γ ((p, dP L) :: Ω) (eP q)) (hl : L.length < 16777216) (k : po.N Γ ((p, dP (addP L q)) :: Ω)) :
    StS P W (sDPut ta tb (tC (.bl true))) Γ ((p, dP L) :: Ω) po := fun _ _ _ _ _ c De hn hr hb hc =>
  h1 c _ fun v Hf1 H1 d e s1 i1 => h2 (c.mono s1) _ fun w Hf2 H2 d2 e2 s2 i2 => by
    subst e; subst e2
    cases i1
    have c2 := (c.mono s1).mono s2
    obtain ⟨a, rfl, ea⟩ := eP_inv i2
    have ep := own_dP.mp (c2.own p _ List.mem_cons_self).1
    refine ⟨p, _, rfl, DPut.t (k := kP q) ep (by rw [kP_kV]; exact c2.sub _ _ ea) (lineLt (by unfold trues; rw [List.length_map]; exact hl)), ?_⟩
    rw [put_trues]
    exact hn _ _ _ _ _ k (c2.write (own_dP.mpr upd_same)) (s1.fr.trans s2.fr)
/-- list(d) -/
def rListT : List V → Hp → VK → Prop := fun xs H Q => ∃ d kvs, xs = [V.ref d] ∧ Rd H d (.dT kvs) ∧ ∀ p bs, H p = none → IsKeys H kvs bs → Q (.ref p) (upd H p (.lst (bs.map V.ref)))
theorem cb_listT {X : Cx} (hc : X.calm = true) : CallR X (.type "list") rListT := call_list_dT hc
theorem ev_listD {p : Addr} {L : List (Nat × Nat)} (h : Ev P ta Γ ((p, dP L) :: Ω) (.ref p)) : Ev P (tCB rListT (tCons ta tNil)) Γ ((p, dP L) :: Ω) (pL L) := fun _ _ _ _ _ _ c Q k =>
  h c _ fun v Hf1 H1 d e s1 i1 => by
    subst e
    cases i1
    have c1 := c.mono s1
    have ep := own_dP.mp (c1.own p _ List.mem_cons_self).1
    refine ⟨p, _, rfl, .inl ep, fun t bs ht ik => ?_⟩
    have s2 := Step.tups c1.sub c1.pr
    have c2 := c1.mono s2
    have s3 := Step.laid (o := .lst (bs.map V.ref)) c2.sub c2.pr ht
    refine k _ _ _ _ rfl ((s1.trans s2).trans s3) (.lst upd_same (IsAll.mono s3.fr ?_))
    have key : ∀ (L : List (Nat × Nat)) (bs : List Addr), IsKeys H1 (trues L) bs → IsAll (tups Hf1 H1) (bs.map V.ref) (L.map eP) := by
      intro L
      induction L with
      | nil =>
        intro bs h
        cases h
        exact .nil
      | cons q L ih =>
        intro bs h
        cases h with
        | cons a r => exact .cons (eP_mk (tups_at c1.sub (by rw [← kP_kV]; exact a))) (ih _ r)
    exact key L bs ik
end
end DL
set_option Elab.async false
set_option linter.all false
set_option autoImplicit false
set_option maxRecDepth 100000
set_option maxHeartbeats 4000000
/-! DL5: fields, cells handed to callees, items stored, dicts from comprehensions. -/
namespace DL
open L2 PySem
section
variable {P Pq : Proto} {W : Addr → Prop} {Γ : En} {Ω : Ow} {te ta tb : TE} {tt : TT} {tl : TA} {S : D → Prop} {a b d : D} {K : PySem.W.Frag} {tv ts : TS} {po : Po}

/-! ### fields of an instance that is frozen -/
theorem ev_fld {R : Hp → V → Prop} {f : Str} (h : Ev P ta Γ Ω (.sem R)) (k : ∀ H v, R H v → ∃ a C dx fs u, v = .ref a ∧ H a = some (.ins C dx fs) ∧ Cls K C ∧ NoAttr K C f ∧ fs.lookup f = some u ∧ Is H u d) : Ev P (tFld K ta f) Γ Ω d := fun _ _ _ _ _ _ c Q q =>
  h c _ fun v Hf1 H1 d' e s1 i1 => by
    subst e
    obtain ⟨a, C, dx, fs, u, rfl, ea, c1, n, l, iu⟩ := k Hf1 v (i1.sem_inv _ (Same.refl _))
    exact ⟨a, C, dx, fs, u, rfl, (c.mono s1).sub _ _ ea, c1, n, l, q u _ _ _ rfl s1 iu⟩

/-! ### the fields of an instance of one's own -/
def putD (f : Str) (d : D) : List (Str × D) → List (Str × D)
  | [] => [(f, d)]
  | (k, x) :: r => if k = f then (k, d) :: r else (k, x) :: putD f d r
theorem putF_fit {Hf : Hp} {f : Str} {v : V} {d : D} (i : Is Hf v d) : ∀ {gs : List (Str × V)} {fs : List (Str × D)}, gs.map (·.1) = fs.map (·.1) → IsAll Hf (gs.map (·.2)) (fs.map (·.2)) →
    (putF f v gs).map (·.1) = (putD f d fs).map (·.1) ∧ IsAll Hf ((putF f v gs).map (·.2)) ((putD f d fs).map (·.2))
  | [], [], _, _ => ⟨rfl, .one i⟩
  | (k, x) :: gs, (k', x') :: fs, hk, r => by
    injection hk with h1 h2
    have h1' : k = k' := h1
    subst h1'
    cases r with
    | cons a r =>
      obtain ⟨e1, e2⟩ := putF_fit i h2 r
      rw [show putF f v ((k, x) :: gs) = (if k = f then (k, v) :: gs else (k, x) :: putF f v gs) from rfl, show putD f d ((k, x') :: fs) = (if k = f then (k, d) :: fs else (k, x') :: putD f d fs) from rfl]
      by_cases h : k = f
      · rw [if_pos h, if_pos h]
        exact ⟨by rw [List.map_cons, List.map_cons, h2], .cons i r⟩
      · rw [if_neg h, if_neg h]
        exact ⟨by rw [List.map_cons, List.map_cons, e1], .cons a e2⟩
  | [], _ :: _, h, _ => by cases h
  | _ :: _, [], h, _ => by cases h
theorem st_fld {p C : Addr} {fs : List (Str × D)} {f : Str} (h1 : EvS P tb Γ ((p, .ins C fs) :: Ω) S) (h2 : Ev P ta Γ ((p, .ins C fs) :: Ω) (.ref p)) (cl : Cls K C) (na : NoAttr K C f) (hl : fs.length < 1000) (k : ∀ d, S d → po.N Γ ((p, .ins C (putD f d fs)) :: Ω)) :
    StS P W (sFld K ta tb f) Γ ((p, .ins C fs) :: Ω) po := fun _ _ _ _ _ c De hn hr hb hc =>
  h1 c _ fun v Hf1 H1 d sd s1 i1 => h2 (c.mono s1) _ fun w Hf2 H2 d2 e2 s2 i2 => by
    subst e2
    cases i2
    have c2 := (c.mono s1).mono s2
    obtain ⟨⟨dx, gs, e, ek, r⟩, _⟩ := c2.own p _ List.mem_cons_self
    have hgl : gs.length = fs.length := by
      have := congrArg List.length ek
      rwa [List.length_map, List.length_map] at this
    obtain ⟨f1, f2⟩ := putF_fit (f := f) (i1.mono s2.fr) ek r
    exact ⟨p, C, dx, gs, rfl, e, cl, na, by omega, hn _ _ _ _ _ (k d sd) (c2.write ⟨dx, _, upd_same, f1, f2⟩) (s1.fr.trans s2.fr)⟩
theorem q_fld {p C : Addr} {fs : List (Str × D)} {f : Str} (h1 : EvS P tb Γ ((p, .ins C fs) :: Ω) S) (h2 : Ev P ta Γ ((p, .ins C fs) :: Ω) (.ref p)) (cl : Cls K C) (na : NoAttr K C f) (hl : fs.length < 1000) (k : ∀ d, S d → StS P W tv Γ ((p, .ins C (putD f d fs)) :: Ω) po) :
    StS P W (tSeq (sFld K ta tb f) tv) Γ ((p, .ins C fs) :: Ω) po :=
  st_seq (M := fun G O => StS P W tv G O po) (st_fld h1 h2 cl na hl k) fun G O z => z

/-! ### defs that change cells of their caller's -/
def spW (P : Proto) {ι : Type} (args : ι → List D) (pre : ι → Ow) (post : ι → D → Ow → Prop) : Sp := fun vs H Q _ => ∃ (i : ι) (Hf : Hp), Same Hf H ∧ P.Pr Hf H ∧ IsAll Hf vs (args i) ∧
  (∀ p c, (p, c) ∈ pre i → OwnAt Hf H p c ∧ Hf p = none ∧ ¬ P.M p) ∧ ((pre i).map (·.1)).Nodup ∧
  ∀ v d O Hf2 H2, post i d O → StepW P (fun a => a ∈ (pre i).map (·.1)) Hf H Hf2 H2 → Is Hf2 v d → (∀ p c, (p, c) ∈ O → OwnAt Hf2 H2 p c ∧ Hf2 p = none) → Q v H2
theorem def_startW {ι : Type} {args : ι → List D} {pre : ι → Ow} {post : ι → D → Ow → Prop} {N : List Str} {vs : List V} {H : Hp} {Q : VK} {E : XK} (h : spW P args pre post vs H Q E)
    (body : ∀ i, StS P (fun a => a ∈ (pre i).map (·.1)) ts (entry N.length (args i)) (pre i) { N := fun _ O => post i .non O, R := fun d O => post i d O }) : ts { nx := fun _ H' => Q .non H', rt := Q } (L2.start N vs) H := by
  obtain ⟨i, Hf, s, p, r, ow, nd, q⟩ := h
  have c : At P (fun a => a ∈ (pre i).map (·.1)) Hf H (entry N.length (args i)) (pre i) (L2.start N vs) Hf H :=
    ⟨StepW.refl s p, fits_start r, fun x c hm => let ⟨a, b, m⟩ := ow x c hm; ⟨a, b, m, .inr (List.mem_map.mpr ⟨(x, c), hm, rfl⟩)⟩, nd⟩
  exact body i c _ (fun G O σ' Hf' H' z c' _ => q _ _ O _ _ z c'.step .non fun x c hm => let ⟨a, b, _⟩ := c'.own x c hm; ⟨a, b⟩)
    (fun v G O σ' Hf' H' d z c' iv => q _ d O _ _ z c'.step iv fun x c hm => let ⟨a, b, _⟩ := c'.own x c hm; ⟨a, b⟩) (fun _ _ _ _ _ z => z.elim) (fun _ _ _ _ _ z => z.elim)
theorem spW_len {ι : Type} {args : ι → List D} {pre : ι → Ow} {post : ι → D → Ow → Prop} {n : Nat} (ha : ∀ i, (args i).length = n) {vs : List V} {H : Hp} {Q : VK} {E : XK} (h : spW P args pre post vs H Q E) : vs.length = n := by
  obtain ⟨i, Hf, s, p, r, q⟩ := h
  rw [r.length]; exact ha i
/-- a cell c0 of one's own (all that the callee is handed) behind such a call -/
theorem At.called {ι : Type} {pre : ι → Ow} {Hf0 H0 Hf H Hf2 H2 : Hp} {σ : St} {i : ι} {O : Ow} (c : At P W Hf0 H0 Γ (pre i ++ Ω) σ Hf H) (le : Proto.Le Pq P)
    (s : StepW Pq (fun a => a ∈ (pre i).map (·.1)) Hf H Hf2 H2) (ow : ∀ p c, (p, c) ∈ O → OwnAt Hf2 H2 p c ∧ Hf2 p = none) (same : O.map (·.1) = (pre i).map (·.1)) (up : P.Pr Hf2 H2) : At P W Hf0 H0 Γ (O ++ Ω) σ Hf2 H2 := by
  have mem : ∀ p, p ∈ (pre i).map (·.1) → ∃ oc, (p, oc) ∈ pre i := fun p hp => let ⟨⟨q, oc⟩, h, e⟩ := List.mem_map.mp hp; ⟨oc, by rw [← e]; exact h⟩
  have nd := c.nd
  rw [List.map_append, List.nodup_append] at nd
  refine ⟨⟨c.step.fr.trans s.fr, s.sub, fun x n z h => ?_, fun x o m w e => ?_, fun x h => s.dom x (c.step.dom x h), fun x h => s.ntk x (c.step.ntk x h), up⟩, c.fits.mono s.fr, fun p oc hm => ?_, ?_⟩
  · cases hf : Hf x with
    | some u => exact c.step.new x n (by rw [hf]; exact fun z => nomatch z) h
    | none => exact s.new x hf z (c.step.ntk x h)
  · have hx : x ∉ (pre i).map (·.1) := fun hx => by
      obtain ⟨oc, ho⟩ := mem x hx
      rcases (c.own x oc (List.mem_append_left _ ho)).2.2.2 with h0 | h0
      · rw [h0] at e; cases e
      · exact w h0
    exact s.keep x o (fun z => m (le.sub x z)) hx (c.step.keep x o m w e)
  · rcases List.mem_append.mp hm with h | h
    · have hp : p ∈ (pre i).map (·.1) := by rw [← same]; exact List.mem_map.mpr ⟨(p, oc), h, rfl⟩
      obtain ⟨oc', ho⟩ := mem p hp
      obtain ⟨_, _, m, w⟩ := c.own p oc' (List.mem_append_left _ ho)
      obtain ⟨o1, o2⟩ := ow p oc h
      exact ⟨o1, o2, m, w⟩
    · obtain ⟨o1, o2, m, w⟩ := c.own p oc (List.mem_append_right _ h)
      have hp : p ∉ (pre i).map (·.1) := fun z => nd.2.2 p z p (List.mem_map.mpr ⟨(p, oc), h, rfl⟩) rfl
      obtain ⟨e1, e2⟩ := s.pres (fun z => m (le.sub p z)) hp o2 o1.there
      exact ⟨o1.mono s.fr e1, e2, m, w⟩
  · rw [List.map_append, same, ← List.map_append]
    exact c.nd
/-- the call of such a def as a statement, its value dropped; Pq = P0 or another one that P bears -/
theorem st_callW {ι : Type} {args : ι → List D} {pre : ι → Ow} {post : ι → D → Ow → Prop} {E : XK} (i : ι) (h : EvL P tl Γ (pre i ++ Ω) (args i)) (same : ∀ d O, post i d O → O.map (·.1) = (pre i).map (·.1)) (k : ∀ d O, post i d O → po.N Γ (O ++ Ω)) :
    StS P W (tDrop (tCall (spW P0 args pre post) [] E tl)) Γ (pre i ++ Ω) po := fun _ _ _ _ _ c De hn hr hb hc => h c _ fun vs Hf2 H2 ds e s iv => by
  subst e
  rw [List.append_nil]
  have c2 := c.mono s
  have free : ∀ x oc, (x, oc) ∈ pre i → ¬ P.M x := fun x oc hm => (c2.own x oc (List.mem_append_left _ hm)).2.2.1
  refine ⟨i, Hf2, c2.sub, trivial, iv, fun p oc hm => ?_, ?_, fun v d O Hf3 H3 pd s3 i3 ow => ?_⟩
  · obtain ⟨a, b, _, _⟩ := c2.own p oc (List.mem_append_left _ hm)
    exact ⟨a, b, fun z => z⟩
  · have := c2.nd
    rw [List.map_append, List.nodup_append] at this
    exact this.1
  · have nm : ∀ a, P.M a → a ∉ (pre i).map (·.1) := fun a ma hm => by
      obtain ⟨⟨q, oc⟩, ho, e⟩ := List.mem_map.mp hm
      have e' : q = a := e
      exact free q oc ho (e' ▸ ma)
    have up : P.Pr Hf3 H3 := P.stab Hf2 H2 Hf3 H3 c2.pr s3.fr (fun a ma => (s3.pres (fun z => z) (nm a ma) (P.dom _ _ a c2.pr ma).1 (P.dom _ _ a c2.pr ma).2).1)
      (fun a ma => (s3.pres (fun z => z) (nm a ma) (P.dom _ _ a c2.pr ma).1 (P.dom _ _ a c2.pr ma).2).2)
    exact hn _ _ _ _ _ (k d O pd) (c2.called (Proto.Le.zero P) s3 ow (same d O pd) up) (s.fr.trans s3.fr)
/-- o.m(..), a method of the instance that the first cell holds -/
theorem st_methW {ι : Type} {args : ι → List D} {pre : ι → Ow} {post : ι → D → Ow → Prop} {E : XK} {C p : Addr} {m : Str} {fs : List (Str × D)} {rest : Ow} {ds : List D} (i : ι) (ep : pre i = (p, .ins C fs) :: rest) (ea : args i = .ref p :: ds) (h0 : Ev P ta Γ (pre i ++ Ω) (.ref p)) (nf : m ∉ fs.map (·.1)) (h : EvL P tl Γ (pre i ++ Ω) ds)
    (same : ∀ d O, post i d O → O.map (·.1) = (pre i).map (·.1)) (k : ∀ d O, post i d O → po.N Γ (O ++ Ω)) :
    StS P W (tDrop (tMeth C m (spW P0 args pre post) [] E ta tl)) Γ (pre i ++ Ω) po := fun _ _ _ _ _ c De hn hr hb hc => h0 c _ fun v Hf1 H1 d e s1 i1 => by
  subst e
  cases i1
  have c1 := c.mono s1
  have hm0 : (p, OC.ins C fs) ∈ pre i ++ Ω := List.mem_append_left _ (by rw [ep]; exact List.mem_cons_self)
  obtain ⟨⟨dx, gs, e, ek, r⟩, _⟩ := c1.own p _ hm0
  refine ⟨p, dx, gs, rfl, e, ?_, h c1 _ fun vs Hf2 H2 ds' e2 s iv => ?_⟩
  · have nm : m ∉ gs.map (·.1) := by rw [ek]; exact nf
    cases hl : gs.lookup m with
    | none => rfl
    | some u =>
      have : ∀ gs : List (Str × V), gs.lookup m = some u → m ∈ gs.map (·.1) := by
        intro gs
        induction gs with
        | nil => intro h; cases h
        | cons x gs ih =>
          intro h
          rw [List.lookup_cons] at h
          split at h
          · rename_i hb
            exact List.mem_cons.mpr (.inl (eq_of_beq hb))
          · exact List.mem_cons_of_mem _ (ih h)
      exact absurd (this gs hl) nm
  · subst e2
    rw [List.append_nil]
    have c2 := c1.mono s
    have free : ∀ x oc, (x, oc) ∈ pre i → ¬ P.M x := fun x oc hm => (c2.own x oc (List.mem_append_left _ hm)).2.2.1
    refine ⟨i, Hf2, c2.sub, trivial, by rw [ea]; exact .cons (.ref p) iv, fun p oc hm => ?_, ?_, fun v d O Hf3 H3 pd s3 i3 ow => ?_⟩
    · obtain ⟨a, b, _, _⟩ := c2.own p oc (List.mem_append_left _ hm)
      exact ⟨a, b, fun z => z⟩
    · have := c2.nd
      rw [List.map_append, List.nodup_append] at this
      exact this.1
    · have nm : ∀ a, P.M a → a ∉ (pre i).map (·.1) := fun a ma hm => by
        obtain ⟨⟨q, oc⟩, ho, e⟩ := List.mem_map.mp hm
        have e' : q = a := e
        exact free q oc ho (e' ▸ ma)
      have up : P.Pr Hf3 H3 := P.stab Hf2 H2 Hf3 H3 c2.pr s3.fr (fun a ma => (s3.pres (fun z => z) (nm a ma) (P.dom _ _ a c2.pr ma).1 (P.dom _ _ a c2.pr ma).2).1)
        (fun a ma => (s3.pres (fun z => z) (nm a ma) (P.dom _ _ a c2.pr ma).1 (P.dom _ _ a c2.pr ma).2).2)
      exact hn _ _ _ _ _ (k d O pd) (c2.called (Proto.Le.zero P) s3 ow (same d O pd) up) ((s1.fr.trans s.fr).trans s3.fr)

/-! ### items of a list of one's own -/
theorem ev_ixOwn {p : Addr} {l : List D} {n : Nat} (h1 : Ev P ta Γ ((p, .lst l) :: Ω) (.ref p)) (h2 : Ev P tb Γ ((p, .lst l) :: Ω) (.int (n : Int))) (hd : l[n]? = some d) : Ev P (tOp (rIxL K) ta tb) Γ ((p, .lst l) :: Ω) d := fun _ _ _ _ _ _ c Q q =>
  h1 c _ fun v Hf1 H1 d1 e1 s1 i1 => h2 (c.mono s1) _ fun w Hf2 H2 d2 e2 s2 i2 => by
    subst e1; subst e2
    cases i1; cases i2
    have c2 := (c.mono s1).mono s2
    obtain ⟨⟨xs, e, r⟩, _⟩ := c2.own p _ List.mem_cons_self
    obtain ⟨u, hu, iu⟩ := r.get hd
    exact ⟨p, xs, _, u, rfl, rfl, SqL.of e, at_nat hu, q _ _ _ _ rfl (s1.trans s2) iu⟩
theorem st_setix {p : Addr} {l : List D} {n : Nat} (h0 : EvS P te Γ ((p, .lst l) :: Ω) S) (h1 : Ev P ta Γ ((p, .lst l) :: Ω) (.ref p)) (h2 : Ev P tb Γ ((p, .lst l) :: Ω) (.int (n : Int))) (hn' : n < l.length) (k : ∀ d, S d → po.N Γ ((p, .lst (l.set n d)) :: Ω)) :
    StS P W (tAsg te (gSub ta tb rSetL)) Γ ((p, .lst l) :: Ω) po := fun _ _ _ _ _ c De hn hr hb hc =>
  h0 c _ fun x Hf0 H0 d0 sd s0 i0 => h1 (c.mono s0) _ fun v Hf1 H1 d1 e1 s1 i1 => h2 ((c.mono s0).mono s1) _ fun w Hf2 H2 d2 e2 s2 i2 => by
    subst e1; subst e2
    cases i1; cases i2
    have c2 := ((c.mono s0).mono s1).mono s2
    obtain ⟨⟨xs, e, r⟩, _⟩ := c2.own p _ List.mem_cons_self
    have hx : n < xs.length := by rw [r.length]; exact hn'
    refine ⟨p, xs, (n : Int), n, rfl, rfl, e, ?_, ?_⟩
    · unfold ixN
      rw [if_pos (by omega), if_pos (by omega), Int.toNat_natCast]
    · exact hn _ _ _ _ _ (k d0 sd) (c2.write ⟨xs.set n x, upd_same, r.set n (i0.mono (s1.fr.trans s2.fr))⟩) ((s0.fr.trans s1.fr).trans s2.fr)
theorem q_setix {p : Addr} {l : List D} {n : Nat} (h0 : EvS P te Γ ((p, .lst l) :: Ω) S) (h1 : Ev P ta Γ ((p, .lst l) :: Ω) (.ref p)) (h2 : Ev P tb Γ ((p, .lst l) :: Ω) (.int (n : Int))) (hn' : n < l.length) (k : ∀ d, S d → StS P W tv Γ ((p, .lst (l.set n d)) :: Ω) po) :
    StS P W (tSeq (tAsg te (gSub ta tb rSetL)) tv) Γ ((p, .lst l) :: Ω) po :=
  st_seq (M := fun G O => StS P W tv G O po) (st_setix h0 h1 h2 hn' k) fun G O z => z
/-- l.insert(i, x) -/
def rInsert : V → List V → Hp → VK → Prop := fun x vs H Q => ∃ (l : Addr) (xs : List V) (i : Int) (y : V), x = .ref l ∧ vs = [.int i, y] ∧ H l = some (.lst xs) ∧ xs.length < sizeLine ∧ 0 ≤ i ∧ i < 2 ^ 63 ∧ Q .non (upd H l (.lst (xs.take i.toNat ++ [y] ++ xs.drop i.toNat)))
theorem m_insert {X : Cx} : MtR X "list.insert" rInsert := mt_insert
theorem st_insert {p : Addr} {l : List D} {Sn : Nat → Prop} (h1 : Ev P ta Γ ((p, .lst l) :: Ω) (.ref p)) (h2 : EvS P tb Γ ((p, .lst l) :: Ω) (fun d => ∃ n : Nat, Sn n ∧ d = .int (n : Int))) (h3 : Ev P te Γ ((p, .lst l) :: Ω) d) (hl : l.length < 16777216) (hs : ∀ n, Sn n → n < 2 ^ 63)
    (k : ∀ n, Sn n → po.N Γ ((p, .lst (l.take n ++ [d] ++ l.drop n)) :: Ω)) : StS P W (tDrop (tBM K "list" rInsert ta (tCons tb (tCons te tNil)))) Γ ((p, .lst l) :: Ω) po := fun _ _ _ _ _ c De hn hr hb hc =>
  h1 c _ fun v Hf1 H1 d1 e1 s1 i1 => by
    subst e1
    cases i1
    have c1 := c.mono s1
    obtain ⟨⟨xs0, e0, _⟩, _⟩ := c1.own p _ List.mem_cons_self
    refine ⟨.inl ⟨rfl, _, SqL.of e0⟩, h2 c1 _ fun w Hf2 H2 d2 sd s2 i2 => h3 (c1.mono s2) _ fun y Hf3 H3 d3 e3 s3 i3 => ?_⟩
    obtain ⟨n, sn, rfl⟩ := sd
    subst e3
    cases i2
    have c3 := (c1.mono s2).mono s3
    obtain ⟨⟨xs, e, r⟩, _⟩ := c3.own p _ List.mem_cons_self
    have := hs n sn
    refine ⟨p, xs, (n : Int), y, rfl, rfl, e, lineLt (by rw [r.length]; exact hl), by omega, by omega, ?_⟩
    rw [Int.toNat_natCast]
    exact hn _ _ _ _ _ (k n sn) (c3.write ⟨_, upd_same, ((r.take n).append (.one i3)).append (r.drop n)⟩) ((s1.fr.trans s2.fr).trans s3.fr)

/-! ### {pair: True for pair in pairs} -/
theorem st_dcT {wi : TI} {j i : Nat} {vs : List Nat} (l : List (Nat × Nat)) (hj : j ∈ vs) (hjl : j < Γ.length) (hs : Src P wi Γ Ω (l.map eP)) (hl : l.length < 16777216) (k : ∀ p, po.N (Γ.set i (some (.ref p))) ((p, dP (l.foldl addP [])) :: Ω)) :
    StS P W (tAsg (RU.tDcT wi (gName j) tYes (tVar j) (tC (.bl true)) vs) (gName i)) Γ Ω po := fun _ _ _ _ _ c De hn hr hb hc => by
  refine hs c _ fun It Hf1 H1 l' e s1 ok D hD => ?_
  subst e
  have c1 := c.mono s1
  rename_i Hf0 H0 σ Hf H
  refine ⟨fun i m Hi => m = l.length - i ∧ i ≤ l.length ∧ ∃ Hfi, Same Hf1 Hfi ∧ At P W Hf0 H0 Γ ((D, dP ((l.take i).foldl addP [])) :: Ω) σ Hfi Hi ∧ ((l.take i).foldl addP []).length ≤ i, ⟨l.length, by omega, Nat.zero_le _, Hf1, Same.refl _, c1.newOwn hD (own_dP.mpr upd_same), Nat.le_refl _⟩, ?_⟩
  rintro n m Hi ⟨rfl, hi, Hfi, sm, ci, hlen⟩
  obtain ⟨go, stop, yld⟩ := ok Hfi Hi sm ci.sub ci.pr
  by_cases hlt : n < l.length
  · refine .inr ⟨go n (by rw [List.length_map]; exact hlt), fun Hn => n + 1 ≤ l.length ∧ ∃ Hfi, Same Hf1 Hfi ∧ At P W Hf0 H0 Γ ((D, dP ((l.take (n + 1)).foldl addP [])) :: Ω) σ Hfi Hn ∧ ((l.take (n + 1)).foldl addP []).length ≤ n + 1, fun Hn z => ⟨l.length - (n + 1), by omega, rfl, z⟩, fun x H' y => ?_⟩
    have hd : (l.map eP)[n]? = some (eP l[n]) := by rw [List.getElem?_map, List.getElem?_eq_getElem hlt]; rfl
    obtain ⟨Hf', s', ix⟩ := yld n x H' _ y hd
    have ht : l.take (n + 1) = l.take n ++ [l[n]] := by rw [List.take_succ, List.getElem?_eq_getElem hlt]; rfl
    have c' := ci.mono s'
    refine ⟨by rw [wipe_set hj, wipe_idem], ?_⟩
    unfold tYes; dsimp only
    rw [if_pos rfl]
    obtain ⟨a, rfl, ea⟩ := eP_inv ix
    have hσ : j < (L2.wipe σ vs).length := by rw [wipe_length, c.fits.1]; exact hjl
    refine ⟨.ref a, by rw [List.getElem?_set_self hσ], ?_⟩
    have ed := own_dP.mp (c'.own D _ List.mem_cons_self).1
    refine ⟨_, kP l[n], a, rfl, by rw [kP_kV]; exact c'.sub _ _ ea, ed, lineLt (by unfold trues; rw [List.length_map]; omega), hlt, Hf', sm.trans s'.fr, ?_, ?_⟩
    · rw [put_trues, ht, List.foldl_append]
      exact c'.write (own_dP.mpr upd_same)
    · rw [ht, List.foldl_append]
      exact Nat.le_trans (addP_len _ _) (by omega)
  · have e : n = l.length := by omega
    subst e
    rw [List.take_length] at ci
    exact .inl ⟨stop _ (by rw [List.length_map]; exact Nat.le_refl _), hn _ _ _ _ _ (k D) (ci.set (.ref D)) (s1.fr.trans sm)⟩
theorem q_dcT {wi : TI} {j i : Nat} {vs : List Nat} (l : List (Nat × Nat)) (hj : j ∈ vs) (hjl : j < Γ.length) (hs : Src P wi Γ Ω (l.map eP)) (hl : l.length < 16777216) (k : ∀ p, StS P W tv (Γ.set i (some (.ref p))) ((p, dP (l.foldl addP [])) :: Ω) po) :
    StS P W (tSeq (tAsg (RU.tDcT wi (gName j) tYes (tVar j) (tC (.bl true)) vs) (gName i)) tv) Γ Ω po :=
  st_seq (M := fun G O => StS P W tv G O po) (st_dcT l hj hjl hs hl k) fun G O z => z
end
end DL
set_option Elab.async false
set_option linter.all false
set_option autoImplicit false
set_option maxRecDepth 100000
set_option maxHeartbeats 4000000
/-! DL6: defs of the text as callees; isinstance; instances made. -/
namespace DL
open L2 PySem
section
variable {P : Program} {w : World} {K : PySem.W.Frag} {mg : Str → Option Value} {base : Heap}
/-- the def x stands in the text -/
def GF (K : PySem.W.Frag) (mg : Str → Option Value) (x : Str) (st : Stmt) (ps : List Str) : Prop := ∃ f fd, mg x = some (.ref f) ∧ Fun K x x st f fd ∧ Binds K fd ps []
/-- it can be called -/
def Can (P : Program) (w : World) (K : PySem.W.Frag) (mg : Str → Option Value) (base : Heap) (x : Str) (k : Nat) (ps : List Str) (sp : Sp) : Prop :=
  ∃ f fd, mg x = some (.ref f) ∧ PySem.W.keepIn K (.ref f) = true ∧ Binds K fd ps [] ∧ FnOk P w K mg base CX0 k f fd ps sp
theorem Can.mk {x : Str} {st : Stmt} {ps N : List Str} {k : Nat} {sp : Sp} (G : GF K mg x st ps) (S : FnScope N ps (defScope st)) (len : ∀ vs H Q E, sp vs H Q E → vs.length = ps.length)
    (body : ∀ (f : Addr) (cdv : Value) (A : Around) (outer : List Env) (s : Shared) (H : Hp) (E : XK), Room k (A.deeper (PyProof.Rows.envOfC x (defScope st) s.heap.objs.size f cdv)) →
      ∃ t, PSs (cxOf CX0 P w K mg base N x (defScope st) f cdv A outer s H E).nox (defBody st) t ∧ ∀ vs Q, sp vs H Q E → t { nx := fun _ H' => Q .non H', rt := Q } (L2.start N vs) H) : Can P w K mg base x (k + 1) ps sp := by
  obtain ⟨f, fd, m, F, b⟩ := G
  refine ⟨f, fd, m, F.kp, b, F.ok S len fun cdv A outer s H vs Q E hr h => ?_⟩
  obtain ⟨t, h1, h2⟩ := body f cdv A outer s H E hr
  exact ⟨t, h1, h2 vs Q h⟩
theorem Can.ofD {x : Str} {st : Stmt} {ps N : List Str} {k : Nat} {Pq : Proto} {ι : Type} {args : ι → List D} {post : ι → D → Prop} (G : GF K mg x st ps) (S : FnScope N ps (defScope st)) (len : ∀ i, (args i).length = ps.length)
    (body : ∀ (f : Addr) (cdv : Value) (A : Around) (outer : List Env) (s : Shared) (H : Hp) (E : XK), Room k (A.deeper (PyProof.Rows.envOfC x (defScope st) s.heap.objs.size f cdv)) →
      ∃ t, PSs (cxOf CX0 P w K mg base N x (defScope st) f cdv A outer s H E).nox (defBody st) t ∧ ∀ i, StS Pq NoW t (entry N.length (args i)) [] { N := fun _ _ => post i .non, R := fun d _ => post i d }) : Can P w K mg base x (k + 1) ps (spD Pq args post) := by
  refine Can.mk G S (fun vs H Q E h => sp_len len h) fun f cdv A outer s H E hr => ?_
  obtain ⟨t, h1, h2⟩ := body f cdv A outer s H E hr
  exact ⟨t, h1, fun vs Q h => def_start h h2⟩
theorem Can.ofW {x : Str} {st : Stmt} {ps N : List Str} {k : Nat} {Pq : Proto} {ι : Type} {args : ι → List D} {pre : ι → Ow} {post : ι → D → Ow → Prop} (G : GF K mg x st ps) (S : FnScope N ps (defScope st)) (len : ∀ i, (args i).length = ps.length)
    (body : ∀ (f : Addr) (cdv : Value) (A : Around) (outer : List Env) (s : Shared) (H : Hp) (E : XK), Room k (A.deeper (PyProof.Rows.envOfC x (defScope st) s.heap.objs.size f cdv)) →
      ∃ t, PSs (cxOf CX0 P w K mg base N x (defScope st) f cdv A outer s H E).nox (defBody st) t ∧ ∀ i, StS Pq (fun a => a ∈ (pre i).map (·.1)) t (entry N.length (args i)) (pre i) { N := fun _ O => post i .non O, R := fun d O => post i d O }) : Can P w K mg base x (k + 1) ps (spW Pq args pre post) := by
  refine Can.mk G S (fun vs H Q E h => spW_len len h) fun f cdv A outer s H E hr => ?_
  obtain ⟨t, h1, h2⟩ := body f cdv A outer s H E hr
  exact ⟨t, h1, fun vs Q h => def_startW h h2⟩
theorem Can.up {x : Str} {j k : Nat} {ps : List Str} {sp : Sp} (C : Can P w K mg base x j ps sp) (h : j ≤ k) : Can P w K mg base x k ps sp :=
  let ⟨f, fd, m, kp, b, F⟩ := C
  ⟨f, fd, m, kp, b, F.mono h⟩
theorem Can.imp {x : Str} {k : Nat} {ps : List Str} {sp sp' : Sp} (C : Can P w K mg base x k ps sp) (h : ∀ vs H Q E, sp' vs H Q E → sp vs H Q E) : Can P w K mg base x k ps sp' :=
  let ⟨f, fd, m, kp, b, F⟩ := C
  ⟨f, fd, m, kp, b, F.imp h⟩
end
section
variable {X : Cx} {x : Str} {k : Nat} {ps : List Str} {sp : Sp} {e : Expr} {es : List Expr} {t : TA} {p pos : Pos}
theorem pe_can (C : Can X.prog X.w X.K X.mg X.base x k ps sp) (hr : Room k X.A) (hg : Gl X x) (ha : PA X (e :: es) t) (hdb : (x == ("__debug__" : Str)) = false := by decide)
    (he : starEach (e :: es) X.env = (false, eval e X.env) :: starEach es X.env := by rfl) (hpl : (backTo pos (starEach es X.env)).any (·.1) = false := by rfl) :
    PE X (.Call (.Name x p) (e :: es) [] pos) (tCall sp [] E0 t) := by
  obtain ⟨f, fd, m, kp, b, F⟩ := C
  exact pe_call F hr hg m kp b .nil pass0 ha hdb he hpl
end

section
variable {P : Proto} {Γ : En} {Ω : Ow} {te ta tb : TE} {a b d : D} {K : PySem.W.Frag}
/-! ### isinstance -/
theorem ev_ty {n : String} : Ev P (tC (.ty n)) Γ Ω (.ty n) := fun _ _ _ _ _ _ c Q q => q _ _ _ _ rfl c.here (.ty n)
def TyD : D → String → Prop
  | .non, n => n = "NoneType"
  | .bl _, n => n = "bool"
  | .int _, n => n = "int"
  | .str _, n => n = "str"
  | .tup _, n => n = "tuple"
  | .row _, n => n = "tuple"
  | .lst _, n => n = "list"
  | _, _ => False
theorem tyX_of {Hf H : Hp} {v : V} {n : String} (s : Same Hf H) : ∀ {d : D}, Is Hf v d → TyD d n → TyX K H v (.type n)
  | .non, h, e => by cases h; cases e; exact .base .non
  | .bl _, h, e => by cases h; cases e; exact .base (.bl _)
  | .int _, h, e => by cases h; cases e; exact .base (.int _)
  | .str _, h, e => by cases h; cases e; exact .base (.str _)
  | .tup _, h, e => by
    obtain ⟨a, xs, rfl, ea, _⟩ := h.tup_inv
    cases e; exact .base (.tup (s _ _ ea))
  | .row _, h, e => by
    cases h with
    | row ea _ _ _ => cases e; exact .fTuple (s _ _ ea)
  | .lst _, h, e => by
    obtain ⟨a, xs, rfl, ea, _⟩ := h.lst_inv
    cases e; exact .base (.lst (s _ _ ea))
  | .ref _, _, e => e.elim
  | .ty _, _, e => e.elim
  | .sem _, _, e => e.elim
theorem c_isi {n m : String} {b : Bool} (ht : TyD d n) (hk : PySem.W.kitOne K (.type n) (.type m) = some b) : CaS P (rIsi K) [d, .ty m] (fun x => x = .bl b) := CaS.pure fun s ia => by
  obtain ⟨v, w, rfl, i1, i2⟩ := ia.two_inv
  cases i2
  exact ⟨_, .bl _, fun Q q => ⟨v, .ty m, _, _, b, rfl, .ty m, tyX_of s i1 ht, hk, q⟩⟩
theorem kit_int_bool : PySem.W.kitOne K (.type "int") (.type "bool") = some false := by rfl
theorem kit_int_int : PySem.W.kitOne K (.type "int") (.type "int") = some true := by rfl
theorem kit_bool_int : PySem.W.kitOne K (.type "bool") (.type "int") = some true := by rfl
theorem kit_tuple_tuple : PySem.W.kitOne K (.type "tuple") (.type "tuple") = some true := by rfl
theorem kit_bool_bool : PySem.W.kitOne K (.type "bool") (.type "bool") = some true := by rfl

/-! ### {n: True for n in ints}, only its length asked -/
def addI (L : List Int) (i : Int) : List Int := if i ∈ L then L else L ++ [i]
def truesK (L : List Int) : List (Key × V) := L.map fun i => (Sum.inl i, V.bl true)
def KD (n : Nat) : Hp → V → Prop := fun H v => ∃ a kvs, v = .ref a ∧ H a = some (.dK kvs) ∧ kvs.length = n
theorem any_truesK (i : Int) : ∀ L : List Int, ((truesK L).any fun kv => decide (kv.1 = Sum.inl i)) = decide (i ∈ L)
  | [] => rfl
  | j :: L => by
    have ih := any_truesK i L
    unfold truesK at ih ⊢
    rw [List.map_cons, List.any_cons, ih]
    by_cases h : j = i
    · subst h; simp
    · have h1 : ¬ (Sum.inl j : Key) = Sum.inl i := fun e => h (Sum.inl.inj e)
      have h' : ¬ i = j := fun e => h e.symm
      rw [decide_eq_false h1, Bool.false_or]
      by_cases h2 : i ∈ L
      · rw [decide_eq_true h2, decide_eq_true (List.mem_cons_of_mem _ h2)]
      · rw [decide_eq_false h2, decide_eq_false (by simp [h', h2])]
theorem put_truesK (L : List Int) (i : Int) : putK (truesK L) (Sum.inl i) (.bl true) = truesK (addI L i) := by
  unfold putK addI
  rw [any_truesK]
  by_cases h : i ∈ L
  · rw [decide_eq_true h, if_pos rfl, if_pos h]
    have : ∀ M : List Int, (truesK M).map (fun kv => if kv.1 = Sum.inl i then (kv.1, V.bl true) else kv) = truesK M := by
      intro M
      induction M with
      | nil => rfl
      | cons q M ih =>
        unfold truesK at *
        rw [List.map_cons, List.map_cons, ih]
        split <;> rfl
    exact this L
  · rw [decide_eq_false h, if_neg (by decide), if_neg h]
    unfold truesK
    rw [List.map_append]
    rfl
theorem addI_len (L : List Int) (i : Int) : (addI L i).length ≤ L.length + 1 := by
  unfold addI
  split
  · omega
  · rw [List.length_append, List.length_singleton]; omega
theorem ev_dcK {wi : TI} {j : Nat} {vs : List Nat} (ns : List Int) (hj : j ∈ vs) (hjl : j < Γ.length) (hs : Src P wi Γ Ω (ns.map D.int)) (hl : ns.length < 16777216) :
    Ev P (tDc wi (gName j) tYes (tVar j) (tC (.bl true)) vs) Γ Ω (.sem (KD (ns.foldl addI []).length)) := fun W Hf0 H0 σ Hf H c Q q => by
  refine hs c _ fun It Hf1 H1 l' e s1 ok D hD => ?_
  subst e
  have c1 := c.mono s1
  have nM : ¬ P.M D := fun m => (P.dom _ _ D c1.pr m).2.some hD
  refine ⟨fun i m Hi => m = ns.length - i ∧ i ≤ ns.length ∧ ∃ Hfi, Step P Hf1 H1 Hfi Hi ∧ Hi D = some (.dK (truesK ((ns.take i).foldl addI []))) ∧ Hfi D = none ∧ ((ns.take i).foldl addI []).length ≤ i, ⟨ns.length, by omega, Nat.zero_le _, Hf1, Step.own c1.sub c1.pr hD, upd_same, c1.sub.free hD, Nat.le_refl _⟩, ?_⟩
  rintro n m Hi ⟨rfl, hi, Hfi, si, eD, fD, hlen⟩
  have ci := c1.mono si
  obtain ⟨go, stop, yld⟩ := ok Hfi Hi si.fr ci.sub ci.pr
  by_cases hlt : n < ns.length
  · refine .inr ⟨go n (by rw [List.length_map]; exact hlt), fun Hn => n + 1 ≤ ns.length ∧ ∃ Hfi, Step P Hf1 H1 Hfi Hn ∧ Hn D = some (.dK (truesK ((ns.take (n + 1)).foldl addI []))) ∧ Hfi D = none ∧ ((ns.take (n + 1)).foldl addI []).length ≤ n + 1, fun Hn z => ⟨ns.length - (n + 1), by omega, rfl, z⟩, fun x H' y => ?_⟩
    have hd : (ns.map DL.D.int)[n]? = some (DL.D.int ns[n]) := by rw [List.getElem?_map, List.getElem?_eq_getElem hlt]; rfl
    obtain ⟨Hf', s', ix⟩ := yld n x H' _ y hd
    cases ix
    have ht : ns.take (n + 1) = ns.take n ++ [ns[n]] := by rw [List.take_succ, List.getElem?_eq_getElem hlt]; rfl
    obtain ⟨e1, e2⟩ := s'.pres nM (fun z => z) fD (NT.of eD)
    refine ⟨by rw [wipe_set hj, wipe_idem], ?_⟩
    unfold tYes; dsimp only
    rw [if_pos rfl]
    have hσ : j < (L2.wipe σ vs).length := by rw [wipe_length, c.fits.1]; exact hjl
    refine ⟨.int ns[n], by rw [List.getElem?_set_self hσ], _, Sum.inl ns[n], rfl, e1.trans eD, lineLt (by unfold truesK; rw [List.length_map]; omega), hlt, Hf', ?_, ?_, e2, ?_⟩
    · exact Step.put (si.trans s') hD (by rw [e1, eD]; exact fun z => nomatch z) e2 nM
    · rw [put_truesK, ht, List.foldl_append]
      exact upd_same
    · rw [ht, List.foldl_append]
      exact Nat.le_trans (addI_len _ _) (by omega)
  · have e : n = ns.length := by omega
    subst e
    rw [List.take_length] at eD
    have fx := Step.fix si hD eD fD nM
    refine .inl ⟨stop _ (by rw [List.length_map]; exact Nat.le_refl _), q _ _ _ _ rfl (s1.trans fx) (.sem fun H2 sm => ⟨D, _, rfl, sm _ _ upd_same, by unfold truesK; rw [List.length_map]⟩)⟩
def rLenD : List V → Hp → VK → Prop := fun xs H Q => ∃ a kvs, xs = [V.ref a] ∧ H a = some (.dK kvs) ∧ Q (.int kvs.length) H
theorem cb_lenD {X : Cx} : CallR X (.builtin "len") rLenD := call_lenD
theorem c_lenD {n : Nat} : CaS P rLenD [.sem (KD n)] (fun x => x = .int (n : Int)) := CaS.pure fun s ia => by
  obtain ⟨v, rfl, i⟩ := ia.one_inv
  obtain ⟨a, kvs, rfl, e, rfl⟩ := i.sem_inv _ s
  exact ⟨_, .int _, fun Q q => ⟨a, kvs, rfl, e, q⟩⟩
theorem addI_nodup : ∀ (ns L : List Int), (L ++ ns).Nodup → ns.foldl addI L = L ++ ns
  | [], L, _ => by rw [List.append_nil]; rfl
  | i :: ns, L, h => by
    have hi : i ∉ L := fun hm => by
      rw [List.nodup_append] at h
      exact h.2.2 i hm i List.mem_cons_self rfl
    rw [List.foldl_cons, show addI L i = L ++ [i] from if_neg hi, addI_nodup ns (L ++ [i]) (by rw [List.append_assoc]; exact h), List.append_assoc]
    rfl
theorem addI_grow : ∀ (ns L : List Int), (ns.foldl addI L).length ≤ L.length + ns.length
  | [], L => by simp
  | i :: ns, L => by
    rw [List.foldl_cons, List.length_cons]
    have h1 := addI_grow ns (addI L i)
    have h2 := addI_len L i
    omega
theorem addI_full : ∀ (ns L : List Int), L.Nodup → (ns.foldl addI L).length = L.length + ns.length → (L ++ ns).Nodup
  | [], L, hL, _ => by rw [List.append_nil]; exact hL
  | i :: ns, L, hL, h => by
    rw [List.foldl_cons, List.length_cons] at h
    by_cases hi : i ∈ L
    · rw [show addI L i = L from if_pos hi] at h
      have := addI_grow ns L
      omega
    · rw [show addI L i = L ++ [i] from if_neg hi] at h
      have hn : (L ++ [i]).Nodup := by
        rw [List.nodup_append]
        refine ⟨hL, by simp, fun a ha b hb => ?_⟩
        rw [List.mem_singleton.mp hb]
        exact fun e => hi (e ▸ ha)
      have := addI_full ns (L ++ [i]) hn (by rw [List.length_append, List.length_singleton]; omega)
      rwa [List.append_assoc] at this
theorem addI_iff (ns : List Int) : decide (((ns.foldl addI []).length : Int) = (ns.length : Int)) = decide ns.Nodup := by
  by_cases h : ns.Nodup
  · rw [addI_nodup ns [] (by simpa using h), decide_eq_true h]
    simp
  · rw [decide_eq_false h]
    refine decide_eq_false fun e => h ?_
    have := addI_full ns [] List.nodup_nil (by simp only [List.length_nil]; omega)
    simpa using this
end
end DL
set_option autoImplicit false
set_option maxHeartbeats 4000000
/-! M1: transitive closures of pairs of names, plain Lean. -/
namespace EM
abbrev Pr := Nat × Nat
inductive TC (R : Nat → Nat → Prop) : Nat → Nat → Prop
  | base {a b : Nat} : R a b → TC R a b
  | step {a b c : Nat} : R a b → TC R b c → TC R a c
theorem TC.trans {R : Nat → Nat → Prop} {a b c : Nat} (h : TC R a b) (k : TC R b c) : TC R a c := by
  induction h with
  | base r => exact .step r k
  | step r _ ih => exact .step r (ih k)
theorem TC.least {R S : Nat → Nat → Prop} (h : ∀ a b, R a b → S a b) (t : ∀ a b c, S a b → S b c → S a c) {a b : Nat} (k : TC R a b) : S a b := by
  induction k with
  | base r => exact h _ _ r
  | step r _ ih => exact t _ _ _ (h _ _ r) ih
theorem TC.ends {R : Nat → Nat → Prop} {n : Nat} (h : ∀ a b, R a b → a < n ∧ b < n) {a b : Nat} (k : TC R a b) : a < n ∧ b < n := by
  induction k with
  | base r => exact h _ _ r
  | step r _ ih => exact ⟨(h _ _ r).1, ih.2⟩
/-- the pairs of a list as a relation -/
def rel (l : List Pr) (a b : Nat) : Prop := (a, b) ∈ l
abbrev tc (l : List Pr) : Nat → Nat → Prop := TC (rel l)

theorem len_bound : ∀ (n : Nat) (l : List Nat), l.Nodup → (∀ x ∈ l, x < n) → l.length ≤ n
  | 0, [], _, _ => Nat.le_refl _
  | 0, x :: l, _, h => absurd (h x List.mem_cons_self) (Nat.not_lt_zero _)
  | n + 1, l, nd, h => by
    have h1 : (l.erase n).length ≤ n := len_bound n (l.erase n) (nd.erase n) fun x hx => by
      have hm := (nd.mem_erase_iff.mp hx)
      have := h x hm.2
      have : x ≠ n := hm.1
      omega
    have h2 : l.length ≤ (l.erase n).length + 1 := by
      by_cases hm : n ∈ l
      · rw [List.length_erase_of_mem hm]; omega
      · rw [List.erase_of_not_mem hm]; omega
    omega
theorem pairs_bound (l : List Pr) (nd : l.Nodup) (h : ∀ p ∈ l, p.1 < 8 ∧ p.2 < 8) : l.length ≤ 64 := by
  have h1 := len_bound 64 (l.map fun p => p.1 * 8 + p.2) (by
    refine List.pairwise_map.mpr (nd.imp_of_mem fun {p q} hp hq hne e => hne ?_)
    have a := h p hp
    have b := h q hq
    have e' : p.1 * 8 + p.2 = q.1 * 8 + q.2 := e
    exact Prod.ext (by omega) (by omega)) (fun x hx => by
    obtain ⟨p, hp, rfl⟩ := List.mem_map.mp hx
    have := h p hp
    omega)
  rwa [List.length_map] at h1
theorem pairs_bound56 (l : List Pr) (nd : l.Nodup) (h : ∀ p ∈ l, p.1 < 8 ∧ p.2 < 8 ∧ p.1 ≠ p.2) : l.length ≤ 56 := by
  have h1 := len_bound 56 (l.map fun p => p.1 * 7 + (if p.2 < p.1 then p.2 else p.2 - 1)) (by
    refine List.pairwise_map.mpr (nd.imp_of_mem fun {p q} hp hq hne e => hne ?_)
    have a := h p hp
    have b := h q hq
    have e' : p.1 * 7 + (if p.2 < p.1 then p.2 else p.2 - 1) = q.1 * 7 + (if q.2 < q.1 then q.2 else q.2 - 1) := e
    have e1 : p.1 = q.1 := by
      split at e' <;> split at e' <;> omega
    refine Prod.ext e1 ?_
    split at e' <;> split at e' <;> omega) (fun x hx => by
    obtain ⟨p, hp, rfl⟩ := List.mem_map.mp hx
    have := h p hp
    have : p.1 * 7 + (if p.2 < p.1 then p.2 else p.2 - 1) < 56 := by split <;> omega
    exact this)
  rwa [List.length_map] at h1

/-! ### closing by middles -/
def Thru (m : Nat) (L : List Pr) : Prop := ∀ k, k < m → ∀ a b, (a, k) ∈ L → (k, b) ∈ L → (a, b) ∈ L
theorem Thru.next {m n : Nat} {L M : List Pr} (h : Thru m L) (ends : ∀ p ∈ L, p.1 < n ∧ p.2 < n) (e : ∀ a b, (a, b) ∈ M ↔ (a, b) ∈ L ∨ (a < n ∧ b < n ∧ (a, m) ∈ L ∧ (m, b) ∈ L)) : Thru (m + 1) M := by
  intro k hk a b h1 h2
  rw [e] at h1 h2 ⊢
  have en := fun a b (h : (a, b) ∈ L) => ends (a, b) h
  by_cases hkm : k = m
  · subst hkm
    have x1 : (a, k) ∈ L := by rcases h1 with h1 | h1; exact h1; exact h1.2.2.1
    have x2 : (k, b) ∈ L := by rcases h2 with h2 | h2; exact h2; exact h2.2.2.2
    exact .inr ⟨(en _ _ x1).1, (en _ _ x2).2, x1, x2⟩
  · have hk' : k < m := by omega
    rcases h1 with h1 | ⟨a1, _, a2, a3⟩ <;> rcases h2 with h2 | ⟨_, b1, b2, b3⟩
    · exact .inl (h k hk' a b h1 h2)
    · have := h k hk' a m h1 b2
      exact .inr ⟨(en _ _ this).1, b1, this, b3⟩
    · have := h k hk' m b a3 h2
      exact .inr ⟨a1, (en _ _ this).2, a2, this⟩
    · exact .inr ⟨a1, b1, a2, b3⟩
/-- what the closing by middles comes to -/
theorem closed_is {n : Nat} {l L : List Pr} (t : Thru n L) (ends : ∀ p ∈ L, p.1 < n ∧ p.2 < n) (sub : ∀ p ∈ l, p ∈ L) (inn : ∀ p ∈ L, tc l p.1 p.2) : ∀ p, p ∈ L ↔ tc l p.1 p.2 := by
  intro p
  refine ⟨inn p, fun h => ?_⟩
  have : rel L p.1 p.2 := TC.least (S := rel L) (fun a b r => sub (a, b) r) (fun a b c r1 r2 => t b (ends (a, b) r1).2 a c r1 r2) h
  exact this

/-! ### closing by rounds -/
def Rnd (R : Nat → Nat → Prop) : Nat → Nat → Nat → Prop
  | 0 => R
  | k + 1 => fun a b => Rnd R k a b ∨ ∃ c, Rnd R k a c ∧ Rnd R k c b
def Path (R : Nat → Nat → Prop) : Nat → Nat → Nat → Prop
  | 0 => fun a b => a = b
  | n + 1 => fun a b => ∃ c, R a c ∧ Path R n c b
theorem path_split {R : Nat → Nat → Prop} : ∀ (i j : Nat) {a b : Nat}, Path R (i + j) a b → ∃ c, Path R i a c ∧ Path R j c b
  | 0, j, a, b, h => ⟨a, rfl, by simpa using h⟩
  | i + 1, j, a, b, h => by
    rw [show i + 1 + j = (i + j) + 1 by omega] at h
    obtain ⟨c, r, h⟩ := h
    obtain ⟨d, h1, h2⟩ := path_split i j h
    exact ⟨d, ⟨c, r, h1⟩, h2⟩
theorem rnd_path {R : Nat → Nat → Prop} : ∀ (k n : Nat) {a b : Nat}, 1 ≤ n → n ≤ 2 ^ k → Path R n a b → Rnd R k a b
  | 0, n, a, b, h1, h2, h => by
    have : n = 1 := by simp at h2; omega
    subst this
    obtain ⟨c, r, e⟩ := h
    have e' : c = b := e
    subst e'
    exact r
  | k + 1, n, a, b, h1, h2, h => by
    by_cases hn : n ≤ 2 ^ k
    · exact .inl (rnd_path k n h1 hn h)
    · have hp : 2 ^ (k + 1) = 2 ^ k + 2 ^ k := by rw [Nat.pow_succ]; omega
      have hpos : 1 ≤ 2 ^ k := Nat.one_le_two_pow
      have e : n = 2 ^ k + (n - 2 ^ k) := by omega
      rw [e] at h
      obtain ⟨c, p1, p2⟩ := path_split (2 ^ k) (n - 2 ^ k) h
      exact .inr ⟨c, rnd_path k _ hpos (Nat.le_refl _) p1, rnd_path k _ (by omega) (by omega) p2⟩
theorem tc_path {R : Nat → Nat → Prop} {a b : Nat} (h : TC R a b) : ∃ n, 1 ≤ n ∧ Path R n a b := by
  induction h with
  | base r => exact ⟨1, Nat.le_refl _, _, r, rfl⟩
  | step r _ ih =>
    obtain ⟨n, h1, h⟩ := ih
    exact ⟨n + 1, by omega, _, r, h⟩
theorem path_rank {R : Nat → Nat → Prop} (rk : Nat → Nat) (up : ∀ a b, R a b → rk a < rk b) : ∀ (n : Nat) {a b : Nat}, Path R n a b → rk a + n ≤ rk b
  | 0, a, b, h => by
    have e : a = b := h
    subst e; omega
  | n + 1, a, b, ⟨c, r, h⟩ => by
    have := path_rank rk up n h
    have := up _ _ r
    omega
theorem rnd_tc {R : Nat → Nat → Prop} : ∀ (k : Nat) {a b : Nat}, Rnd R k a b → TC R a b
  | 0, _, _, h => .base h
  | k + 1, _, _, .inl h => rnd_tc k h
  | k + 1, _, _, .inr ⟨_, h1, h2⟩ => (rnd_tc k h1).trans (rnd_tc k h2)
open Classical in
/-- how many of the first eight stand below -/
noncomputable def below (S : Nat → Nat → Prop) (b : Nat) : Nat := (List.range 8).countP fun a => decide (S a b)
open Classical in
theorem below_lt {S : Nat → Nat → Prop} (t : ∀ a b c, S a b → S b c → S a c) (irr : ∀ a, ¬ S a a) (ends : ∀ a b, S a b → a < 8 ∧ b < 8) {a b : Nat} (h : S a b) : below S a < below S b := by
  unfold below
  have ha : a ∈ List.range 8 := List.mem_range.mpr (ends _ _ h).1
  have key : ∀ l : List Nat, a ∈ l → l.countP (fun x => decide (S x a)) < l.countP (fun x => decide (S x b)) := by
    intro l
    induction l with
    | nil => intro h; cases h
    | cons x l ih =>
      intro hm
      have mono : ∀ l : List Nat, l.countP (fun x => decide (S x a)) ≤ l.countP (fun x => decide (S x b)) := by
        intro l
        exact List.countP_mono_left fun x _ hx => by
          rw [decide_eq_true_eq] at hx ⊢
          exact t _ _ _ hx h
      rw [List.countP_cons, List.countP_cons]
      by_cases e : x = a
      · subst e
        have h1 : decide (S x x) = false := decide_eq_false (irr x)
        have h2 : decide (S x b) = true := decide_eq_true h
        rw [h1, h2]
        have := mono l
        simp
        omega
      · have hl : a ∈ l := by
          rcases List.mem_cons.mp hm with z | z
          · exact absurd z.symm e
          · exact z
        have := ih hl
        by_cases hx : S x a
        · have hb : S x b := t _ _ _ hx h
          rw [decide_eq_true hx, decide_eq_true hb]
          simp
          omega
        · rw [decide_eq_false hx]
          simp
          omega
  exact key _ ha
open Classical in
theorem below_le (S : Nat → Nat → Prop) (irr : ∀ a, ¬ S a a) {b : Nat} (hb : b < 8) : below S b ≤ 7 := by
  unfold below
  have h1 := List.countP_eq_length_filter (p := fun a => decide (S a b)) (l := List.range 8)
  rw [h1]
  have nd : ((List.range 8).filter fun a => decide (S a b)).Nodup := List.nodup_range.filter _
  have hb' : b ∉ (List.range 8).filter fun a => decide (S a b) := by
    rw [List.mem_filter]
    exact fun h => irr b (of_decide_eq_true h.2)
  have h2 : (b :: (List.range 8).filter fun a => decide (S a b)).length ≤ 8 := len_bound 8 _ (List.nodup_cons.mpr ⟨hb', nd⟩) fun x hx => by
    rcases List.mem_cons.mp hx with rfl | hx
    · exact hb
    · exact List.mem_range.mp (List.mem_filter.mp hx).1
  rw [List.length_cons] at h2
  omega
theorem tc_rounds {R : Nat → Nat → Prop} (ends : ∀ a b, R a b → a < 8 ∧ b < 8) (irr : ∀ a, ¬ TC R a a) {a b : Nat} : Rnd R 4 a b ↔ TC R a b := by
  refine ⟨rnd_tc 4, fun h => ?_⟩
  obtain ⟨n, h1, p⟩ := tc_path h
  have up : ∀ a b, R a b → below (TC R) a < below (TC R) b := fun a b r => below_lt (S := TC R) (fun _ _ _ h k => h.trans k) irr (fun _ _ h => TC.ends ends h) (.base r)
  have := path_rank (below (TC R)) up n p
  have hb := below_le (TC R) irr (TC.ends ends h).2
  exact rnd_path 4 n h1 (by omega) p

/-! ### two ascending lists of the same pairs are one -/
def plt (p q : Pr) : Prop := p.1 < q.1 ∨ (p.1 = q.1 ∧ p.2 < q.2)
theorem plt_irr (p : Pr) : ¬ plt p p := by unfold plt; omega
theorem plt_asym {p q : Pr} (h : plt p q) : ¬ plt q p := by unfold plt at *; omega
theorem asc_unique : ∀ {l m : List Pr}, l.Pairwise plt → m.Pairwise plt → (∀ p, p ∈ l ↔ p ∈ m) → l = m
  | [], [], _, _, _ => rfl
  | [], q :: m, _, _, h => by have := (h q).mpr List.mem_cons_self; cases this
  | p :: l, [], _, _, h => by have := (h p).mp List.mem_cons_self; cases this
  | p :: l, q :: m, hl, hm, h => by
    rw [List.pairwise_cons] at hl hm
    have e : p = q := by
      rcases List.mem_cons.mp ((h p).mp List.mem_cons_self) with e | hp
      · exact e
      · rcases List.mem_cons.mp ((h q).mpr List.mem_cons_self) with e | hq
        · exact e.symm
        · exact absurd (hm.1 p hp) (plt_asym (hl.1 q hq))
    subst e
    have : l = m := asc_unique hl.2 hm.2 fun x => ⟨fun hx => by
      rcases List.mem_cons.mp ((h x).mp (List.mem_cons_of_mem _ hx)) with e | hx'
      · subst e; exact absurd (hl.1 x hx) (plt_irr x)
      · exact hx', fun hx => by
      rcases List.mem_cons.mp ((h x).mpr (List.mem_cons_of_mem _ hx)) with e | hx'
      · subst e; exact absurd (hm.1 x hx) (plt_irr x)
      · exact hx'⟩
    rw [this]
theorem asc_nodup {l : List Pr} (h : l.Pairwise plt) : l.Nodup := List.Pairwise.imp (S := fun a b => a ≠ b) (fun {p q} h e => plt_irr p (by rw [← e] at h; exact h)) h
end EM
set_option Elab.async false
set_option linter.all false
set_option autoImplicit false
set_option maxRecDepth 100000
set_option maxHeartbeats 4000000
/-! DL7: loops that keep an environment; more on pairs. -/
namespace DL
open L2 PySem
/-- G knows all that Γ0 knows -/
def Keeps : En → En → Prop
  | [], [] => True
  | none :: a, _ :: b => Keeps a b
  | some d :: a, x :: b => x = some d ∧ Keeps a b
  | _, _ => False
theorem Keeps.refl : ∀ G : En, Keeps G G
  | [] => True.intro
  | none :: G => Keeps.refl G
  | some d :: G => ⟨rfl, Keeps.refl G⟩
theorem Keeps.out : ∀ {G0 G : En}, Keeps G0 G → G0.length = G.length ∧ ∀ (i : Nat) (d : D), G0[i]? = some (some d) → G[i]? = some (some d)
  | [], [], _ => ⟨rfl, fun i d h => by simp at h⟩
  | none :: a, x :: b, h => by
    have h' : Keeps a b := h
    obtain ⟨e, k⟩ := h'.out
    refine ⟨by rw [List.length_cons, List.length_cons, e], fun i d hd => ?_⟩
    cases i with
    | zero => simp at hd
    | succ i => simpa using k i d (by simpa using hd)
  | some u :: a, x :: b, h => by
    obtain ⟨e0, h'⟩ : x = some u ∧ Keeps a b := h
    obtain ⟨e, k⟩ := h'.out
    subst e0
    refine ⟨by rw [List.length_cons, List.length_cons, e], fun i d hd => ?_⟩
    cases i with
    | zero => simpa using hd
    | succ i => simpa using k i d (by simpa using hd)
  | [], _ :: _, h => h.elim
  | none :: _, [], h => h.elim
  | some _ :: _, [], h => h.elim
theorem Keeps.set {x : Option D} : ∀ {G0 G : En} (j : Nat), Keeps G0 G → Keeps (G0.set j x) (G.set j x)
  | [], [], _, _ => True.intro
  | none :: a, y :: b, 0, h => by
    cases x with
    | none => exact h
    | some d => exact ⟨rfl, h⟩
  | some u :: a, y :: b, 0, h => by
    have h' : Keeps a b := h.2
    cases x with
    | none => exact h'
    | some d => exact ⟨rfl, h'⟩
  | none :: a, y :: b, j + 1, h => Keeps.set (G0 := a) (G := b) j h
  | some u :: a, y :: b, j + 1, h => ⟨h.1, Keeps.set (G0 := a) (G := b) j h.2⟩
  | [], _ :: _, _, h => h.elim
  | none :: _, [], _, h => h.elim
  | some _ :: _, [], _, h => h.elim
theorem Keeps.trans : ∀ {A B C : En}, Keeps A B → Keeps B C → Keeps A C
  | [], [], C, _, k => k
  | none :: a, none :: b, z :: c, h, k => Keeps.trans (A := a) (B := b) (C := c) h k
  | none :: a, some d :: b, z :: c, h, k => Keeps.trans (A := a) (B := b) (C := c) h k.2
  | some d :: a, x :: b, z :: c, h, k => by
    obtain ⟨e, h⟩ : x = some d ∧ Keeps a b := h
    subst e
    exact ⟨k.1, Keeps.trans (A := a) (B := b) (C := c) h k.2⟩
  | none :: a, none :: b, [], h, k => k.elim
  | none :: a, some d :: b, [], h, k => k.elim
  | some d :: a, x :: b, [], h, k => by
    cases x with
    | none => exact k.elim
    | some _ => exact k.elim
  | [], _ :: _, _, h, _ => h.elim
  | none :: _, [], _, h, _ => h.elim
  | some _ :: _, [], _, h, _ => h.elim
theorem Keeps.trans' {A B C : En} (k : Keeps B C) (h : Keeps A B) : Keeps A C := h.trans k

section
variable {P : Proto} {W : Addr → Prop} {Γ Γ0 : En} {Ω : Ow} {te ta tb : TE} {tt : TT} {tl : TA} {S : D → Prop} {a b d : D} {K : PySem.W.Frag} {ts tv : TS} {po : Po}
theorem st_keep (h : Keeps Γ0 Γ) (k : StS P W ts Γ0 Ω po) : StS P W ts Γ Ω po := st_forget Γ0 h.out.1 h.out.2 k
/-- a loop by one name, the environment kept -/
theorem q_forK {wi : TI} {j : Nat} {tb : TS} {α : Type} (xs : List α) (emb : α → D) (Γ0 : En) (hs : Src P wi Γ Ω (xs.map emb)) (J : Nat → Ow → Prop) (k0 : Keeps Γ0 Γ) (h0 : J 0 Ω)
    (turn : ∀ i x O, xs[i]? = some x → J i O → StS P W tb (Γ0.set j (some (emb x))) O { N := fun G O => Keeps Γ0 G ∧ J (i + 1) O, R := po.R, B := fun G O => StS P W tv G O po, C := fun G O => Keeps Γ0 G ∧ J (i + 1) O })
    (hend : ∀ O, J xs.length O → StS P W tv Γ0 O po) : StS P W (tSeq (tFor wi (gName j) tb) tv) Γ Ω po :=
  q_forD xs emb hs (fun i G O => Keeps Γ0 G ∧ J i O) ⟨k0, h0⟩ (fun i x G O hx z => ⟨_, gt_name, st_keep (z.1.set j) (turn i x O hx z.2)⟩) fun G O z => st_keep z.1 (hend O z.2)
theorem st_forK {wi : TI} {j : Nat} {tb : TS} {α : Type} (xs : List α) (emb : α → D) (Γ0 : En) (hs : Src P wi Γ Ω (xs.map emb)) (J : Nat → Ow → Prop) (k0 : Keeps Γ0 Γ) (h0 : J 0 Ω)
    (turn : ∀ i x O, xs[i]? = some x → J i O → StS P W tb (Γ0.set j (some (emb x))) O { N := fun G O => Keeps Γ0 G ∧ J (i + 1) O, R := po.R, B := po.N, C := fun G O => Keeps Γ0 G ∧ J (i + 1) O })
    (hend : ∀ G O, Keeps Γ0 G → J xs.length O → po.N G O) : StS P W (tFor wi (gName j) tb) Γ Ω po :=
  st_forD xs emb hs (fun i G O => Keeps Γ0 G ∧ J i O) ⟨k0, h0⟩ (fun i x G O hx z => ⟨_, gt_name, st_keep (z.1.set j) (turn i x O hx z.2)⟩) fun G O z => hend G O z.1 z.2
/-- .. by two names, over pairs -/
theorem q_forP {wi : TI} {j k : Nat} {tb : TS} {α : Type} (xs : List α) (e1 e2 : α → D) (Γ0 : En) (hs : Src P wi Γ Ω (xs.map fun x => .tup [e1 x, e2 x])) (J : Nat → Ow → Prop) (k0 : Keeps Γ0 Γ) (h0 : J 0 Ω)
    (turn : ∀ i x O, xs[i]? = some x → J i O → StS P W tb ((Γ0.set j (some (e1 x))).set k (some (e2 x))) O { N := fun G O => Keeps Γ0 G ∧ J (i + 1) O, R := po.R, B := fun G O => StS P W tv G O po, C := fun G O => Keeps Γ0 G ∧ J (i + 1) O })
    (hend : ∀ O, J xs.length O → StS P W tv Γ0 O po) : StS P W (tSeq (tFor wi (gTup K 2 (gCons (gName j) (gCons (gName k) gNil))) tb) tv) Γ Ω po :=
  q_forD xs _ hs (fun i G O => Keeps Γ0 G ∧ J i O) ⟨k0, h0⟩ (fun i x G O hx z => ⟨_, gt_two, st_keep ((z.1.set j).set k) (turn i x O hx z.2)⟩) fun G O z => st_keep z.1 (hend O z.2)
theorem st_forP {wi : TI} {j k : Nat} {tb : TS} {α : Type} (xs : List α) (e1 e2 : α → D) (Γ0 : En) (hs : Src P wi Γ Ω (xs.map fun x => .tup [e1 x, e2 x])) (J : Nat → Ow → Prop) (k0 : Keeps Γ0 Γ) (h0 : J 0 Ω)
    (turn : ∀ i x O, xs[i]? = some x → J i O → StS P W tb ((Γ0.set j (some (e1 x))).set k (some (e2 x))) O { N := fun G O => Keeps Γ0 G ∧ J (i + 1) O, R := po.R, B := po.N, C := fun G O => Keeps Γ0 G ∧ J (i + 1) O })
    (hend : ∀ G O, Keeps Γ0 G → J xs.length O → po.N G O) : StS P W (tFor wi (gTup K 2 (gCons (gName j) (gCons (gName k) gNil))) tb) Γ Ω po :=
  st_forD xs _ hs (fun i G O => Keeps Γ0 G ∧ J i O) ⟨k0, h0⟩ (fun i x G O hx z => ⟨_, gt_two, st_keep ((z.1.set j).set k) (turn i x O hx z.2)⟩) fun G O z => hend G O z.1 z.2
theorem q_if {x : Bool} (h : EvT P tt Γ Ω x) (h1 : x = true → StS P W ts Γ Ω { N := fun _ _ => False, R := po.R, B := po.B, C := po.C }) (h2 : x = false → StS P W tv Γ Ω po) : StS P W (tSeq (tIfS tt ts tNext) tv) Γ Ω po :=
  st_seq (M := fun G O => G = Γ ∧ O = Ω ∧ x = false) (st_if h (fun e => (h1 e).imp (fun _ _ z => z.elim) (fun _ _ z => z) (fun _ _ z => z) (fun _ _ z => z)) fun e => st_next ⟨rfl, rfl, e⟩) fun G O z => by
    obtain ⟨e1, e2, e⟩ := z
    subst e1; subst e2; exact h2 e
theorem ev_cbS {r : List V → Hp → VK → Prop} {S' : D → Prop} (h : EvS P te Γ Ω S) (hr : ∀ d, S d → CaS P r [d] S') : EvS P (tCB r (tCons te tNil)) Γ Ω S' :=
  ev_cb (ea_consS h (Sr := fun _ x => x = []) (fun _ _ => ea_nil) (St := fun x => ∃ d, S d ∧ x = [d]) fun d ds sd e => ⟨d, sd, by rw [e]⟩) fun ds ⟨d, sd, e⟩ => by rw [e]; exact hr d sd
theorem c_allM {α : Type} {xs : List α} {g : α → Bool} : CaS P (rAll K) [.lst (xs.map fun x => D.bl (g x))] (fun x => x = .bl (xs.all g)) := by
  have h := c_all (P := P) (K := K) (bs := xs.map g)
  rw [List.map_map, List.all_map] at h
  exact h
theorem c_anyM {α : Type} {xs : List α} {g : α → Bool} : CaS P (rAny K) [.lst (xs.map fun x => D.bl (g x))] (fun x => x = .bl (xs.any g)) := by
  have h := c_any (P := P) (K := K) (bs := xs.map g)
  rw [List.map_map, List.any_map] at h
  exact h
theorem c_sumM {α : Type} {xs : List α} {g : α → Int} : CaS P (rSum K) [.lst (xs.map fun x => D.int (g x))] (fun x => x = .int (xs.map g).sum) := by
  have h := c_sum (P := P) (K := K) (ns := xs.map g)
  rw [List.map_map] at h
  exact h
theorem o_subN {i j : Nat} (h : j ≤ i) : OpS P (rI0 fun i j => .int (i - j)) (eN i) (eN j) (fun x => x = eN (i - j)) := by
  have h' := o_sub (P := P) (i := (i : Int)) (j := (j : Int))
  have e : (i : Int) - (j : Int) = ((i - j : Nat) : Int) := by omega
  rw [e] at h'
  exact h'
theorem ev_N {n : Nat} : Ev P (tC (.int (n : Int))) Γ Ω (eN n) := ev_int
theorem ev_pair {x y : Nat} (h1 : Ev P ta Γ Ω (eN x)) (h2 : Ev P tb Γ Ω (eN y)) : Ev P (tTup (tCons ta (tCons tb tNil))) Γ Ω (eP (x, y)) := ev_tup (ea_2 h1 h2) (show 2 ≤ 16777216 by decide)
theorem c_lenTM {α : Type} {f : α → D} {xs : List α} (t : Tupish b (xs.map f) := by first | exact Or.inl rfl | exact Or.inr rfl) : CaS P (rLen K) [b] (fun x => x = eN xs.length) := by
  have h := c_lenT (P := P) (K := K) t
  rw [List.length_map] at h
  exact h
theorem c_lenLM {α : Type} {f : α → D} {xs : List α} : CaS P (rLen K) [.lst (xs.map f)] (fun x => x = eN xs.length) := by
  have h := c_lenL (P := P) (K := K) (l := xs.map f)
  rw [List.length_map] at h
  exact h
theorem natsD_zero (n : Nat) : natsD 0 n = (List.range n).map eN := by
  unfold natsD
  refine List.map_congr_left fun i _ => ?_
  rw [Nat.zero_add]
theorem natsD_from (lo n : Nat) : natsD lo n = (List.range' lo n).map eN := by
  unfold natsD
  rw [List.range'_eq_map_range, List.map_map]
  rfl
theorem src_rangeN {n : Nat} (h : EvL P tl Γ Ω [eN n]) (hn : n < 2 ^ 62) : Src P (iRng1 tl) Γ Ω ((List.range n).map eN) := natsD_zero n ▸ src_range1 h hn
theorem src_rangeF {lo hi : Nat} (h : EvL P tl Γ Ω [eN lo, eN hi]) (h1 : lo < 2 ^ 62) (h2 : hi < 2 ^ 62) : Src P (iRng2 tl) Γ Ω ((List.range' lo (hi - lo)).map eN) := natsD_from lo _ ▸ src_range2 h h1 h2
/-- p < q of pairs -/
theorem lex_zP (p q : Nat × Nat) : HT.lexLt (zP p) (zP q) = decide (plt p q) := by
  obtain ⟨a, b⟩ := p
  obtain ⟨c, d⟩ := q
  show (if (a : Int) = (c : Int) then (if (b : Int) = (d : Int) then false else decide ((b : Int) < (d : Int))) else decide ((a : Int) < (c : Int))) = decide (a < c ∨ (a = c ∧ b < d))
  split
  · split
    · exact (decide_eq_false (by omega)).symm
    · exact decide_eq_decide.mpr (by omega)
  · exact decide_eq_decide.mpr (by omega)
theorem o_ltP {p q : Nat × Nat} : OpS P (rLtT K) (eP p) (eP q) (fun x => x = .bl (decide (plt p q))) := OpS.pure fun s ia ib => by
  obtain ⟨a, rfl, e1⟩ := eP_inv (ia.mono s)
  obtain ⟨b, rfl, e2⟩ := eP_inv (ib.mono s)
  exact ⟨_, .bl _, fun Q q' => ⟨a, b, _, _, rfl, rfl, SqT.of e1, SqT.of e2, by rw [lex_zP]; exact q'⟩⟩
theorem mem_addP {L : List (Nat × Nat)} {p q : Nat × Nat} : q ∈ addP L p ↔ q ∈ L ∨ q = p := by
  unfold addP
  split
  · rename_i h
    exact ⟨.inl, fun z => z.elim id fun e => e ▸ h⟩
  · rw [List.mem_append, List.mem_singleton]
theorem nodup_addP {L : List (Nat × Nat)} {p : Nat × Nat} (h : L.Nodup) : (addP L p).Nodup := by
  unfold addP
  split
  · exact h
  · rename_i hp
    rw [List.nodup_append]
    refine ⟨h, by simp, fun a ha b hb => ?_⟩
    rw [List.mem_singleton.mp hb]
    exact fun e => hp (e ▸ ha)
theorem mem_adds {q : Nat × Nat} : ∀ {l L : List (Nat × Nat)}, q ∈ l.foldl addP L ↔ q ∈ L ∨ q ∈ l
  | [], L => by simp
  | p :: l, L => by
    rw [List.foldl_cons, mem_adds, mem_addP, List.mem_cons, or_assoc]
theorem nodup_adds : ∀ {l L : List (Nat × Nat)}, L.Nodup → (l.foldl addP L).Nodup
  | [], L, h => h
  | p :: l, L, h => nodup_adds (l := l) (nodup_addP h)
end
end DL
set_option Elab.async false
set_option linter.all false
set_option autoImplicit false
set_option maxRecDepth 100000
set_option maxHeartbeats 4000000
/-! KV: rules with the fragment named, for use inside comprehensions. -/
namespace DL
namespace KV
open L2 PySem
section
variable {X : Cx} (K : PySem.W.Frag)
theorem ix_tup (e : X.K = K := by rfl) : IxR X (rIxT K) := e ▸ L2.ix_tup
theorem ix_list (e : X.K = K := by rfl) : IxR X (rIxL K) := e ▸ L2.ix_list
theorem cb_len (e : X.K = K := by rfl) : CallR X (.builtin "len") (rLen K) := e ▸ DL.cb_len
theorem cb_tuple (e : X.K = K := by rfl) : CallR X (.type "tuple") (rTuple K) := e ▸ DL.cb_tuple
theorem cb_list (e : X.K = K := by rfl) : CallR X (.type "list") (rList K) := e ▸ DL.cb_list
theorem call_isi (e : X.K = K := by rfl) : CallR X (.builtin "isinstance") (rIsi K) := e ▸ L2.call_isi
theorem cr_all (hc : X.calm = true) (e : X.K = K := by rfl) : CallR X (.builtin "all") (rAll K) := e ▸ L2.cr_all hc
theorem cr_any (hc : X.calm = true) (e : X.K = K := by rfl) : CallR X (.builtin "any") (rAny K) := e ▸ L2.cr_any hc
theorem cr_sum (hc : X.calm = true) (e : X.K = K := by rfl) : CallR X (.builtin "sum") (rSum K) := e ▸ L2.cr_sum hc
theorem cr_max (hc : X.calm = true) (e : X.K = K := by rfl) : CallR X (.builtin "max") (rMax K) := e ▸ L2.cr_max hc
theorem cr_min (hc : X.calm = true) (e : X.K = K := by rfl) : CallR X (.builtin "min") (rMin K) := e ▸ L2.cr_min hc
theorem op_in_seq (e : X.K = K := by rfl) : OpR X (compareOp .In) (rIn K false) := e ▸ L2.op_in_seq
theorem op_notin_seq (e : X.K = K := by rfl) : OpR X (compareOp .NotIn) (rIn K true) := e ▸ L2.op_notIn_seq
theorem op_inU (hu : X.A.units + 65 < cLine) (e : X.K = K := by rfl) : OpR X (compareOp .In) (RU.rInU K false) := e ▸ RU.op_inU hu
theorem op_ninU (hu : X.A.units + 65 < cLine) (e : X.K = K := by rfl) : OpR X (compareOp .NotIn) (RU.rInU K true) := e ▸ RU.op_ninU hu
theorem op_inD (hu : X.A.units + 65 < cLine) (e : X.K = K := by rfl) : OpR X (compareOp .In) (rInD K) := e ▸ L2.op_inD hu
theorem op_ltT (hu : X.A.units < cLine) (e : X.K = K := by rfl) : OpR X (compareOp .Lt) (rLtT K) := e ▸ L2.op_ltT hu
theorem op_catR (e : X.K = K := by rfl) : OpR X (binaryOp .Add) (RU.rCatR K) := e ▸ RU.op_catR
theorem op_catA (e : X.K = K := by rfl) : OpR X (binaryOp .Add) (rCatA K) := e ▸ L2.op_catA
theorem mt_tix (e : X.K = K := by rfl) : MtR X "tuple.index" (RU.rTIx K) := e ▸ RU.mt_tix
theorem pi_tup {tg : Expr} {l : Expr} {tl : TE} (hl : PE X l tl) (e : X.K = K := by rfl) : PI X tg l (iTup K tl) := e ▸ L2.pi_tup hl
theorem pi_list {tg : Expr} {l : Expr} {tl : TE} (hl : PE X l tl) (e : X.K = K := by rfl) : PI X tg l (iList K tl) := e ▸ L2.pi_list hl
theorem pg_tup {pos : Pos} {es : List Expr} {k : Nat} {t : TGs} {n : Nat} (hc : X.calm = true) (h : PGs X es t) (e : X.K = K := by rfl)
    (hn : (assignEach es X.env).length = n := by rfl) (hst : (assignEach es X.env).findIdx? (·.1) = none := by rfl) : PG X (.Tuple es k pos) (gTup K n t) := e ▸ L2.pg_tup hc h hn hst
theorem pe_fld {e : Expr} {f : Str} {pos : Pos} {ta : TE} (he : PE X e ta) (hb : attributeBase e f X.env (eval e X.env) = eval e X.env) (ek : X.K = K := by rfl) : PE X (.Attribute e f pos) (tFld K ta f) := ek ▸ L2.pe_fld he hb
theorem cr_sortT {d : Nat} {B : Int} (hd : 1 ≤ d) (e : X.K = K := by rfl) : CallR X (.builtin "sorted") (rSortU K d B) := e ▸ L2.cr_sortT hd
end
def relab (sc S : Scope) : Scope := { sc with names := sc.names.map fun (n, k) => if (k == NameKind.free && S.kind == .function && S.names.lookup n == some .cell) then (n, NameKind.cell) else (n, k) }
/-- a block within a block of a def of scope S -/
theorem blkOk_n {N : List Str} (S : Scope) {inner scope : Scope} {own : List (Str × Nat)} {cl : List (Str × Addr)} {C : Addr} {env : Env} (hs : env.scope = S := by rfl) (h : blkC N (relab inner S) scope own = true := by decide +kernel) : BlkOk N (compEnvC inner cl C env).scope scope own := by
  refine blkOk_by ?_
  subst hs
  exact h
end KV
end DL
set_option autoImplicit false
set_option linter.all false
set_option maxHeartbeats 4000000
/-! M2: the closing by middles, step by step. -/
namespace EM
open DL
structure CL (n : Nat) (l L0 : List Pr) (m : Nat) (D : Nat → Nat → Prop) (L : List Pr) : Prop where
  nd : L.Nodup
  bd : ∀ p ∈ L, p.1 < n ∧ p.2 < n
  sub : ∀ p ∈ l, p ∈ L
  inn : ∀ p ∈ L, tc l p.1 p.2
  eqv : ∀ x y, (x, y) ∈ L ↔ (x, y) ∈ L0 ∨ (D x y ∧ (x, m) ∈ L0 ∧ (m, y) ∈ L0)
variable {n : Nat} {l L0 L : List Pr} {m i j : Nat} {D D' : Nat → Nat → Prop}
theorem CL.left (h : CL n l L0 m D L) (x : Nat) : (x, m) ∈ L ↔ (x, m) ∈ L0 := ⟨fun z => (h.eqv x m).mp z |>.elim id fun k => k.2.1, fun z => (h.eqv x m).mpr (.inl z)⟩
theorem CL.right (h : CL n l L0 m D L) (y : Nat) : (m, y) ∈ L ↔ (m, y) ∈ L0 := ⟨fun z => (h.eqv m y).mp z |>.elim id fun k => k.2.2, fun z => (h.eqv m y).mpr (.inl z)⟩
theorem CL.yes (h : CL n l L0 m D L) (hi : i < n) (hj : j < n) (h1 : (i, m) ∈ L) (h2 : (m, j) ∈ L) (hD : ∀ x y, x < n → y < n → (D' x y ↔ D x y ∨ (x = i ∧ y = j))) (b0 : ∀ p ∈ L0, p.1 < n ∧ p.2 < n) : CL n l L0 m D' (addP L (i, j)) where
  nd := nodup_addP h.nd
  bd := fun p hp => by
    rcases mem_addP.mp hp with hp | rfl
    · exact h.bd p hp
    · exact ⟨hi, hj⟩
  sub := fun p hp => mem_addP.mpr (.inl (h.sub p hp))
  inn := fun p hp => by
    rcases mem_addP.mp hp with hp | rfl
    · exact h.inn p hp
    · exact TC.trans (h.inn (i, m) h1) (h.inn (m, j) h2)
  eqv := fun x y => by
    rw [mem_addP, h.eqv]
    constructor
    · rintro ((z | ⟨z1, z2, z3⟩) | z)
      · exact .inl z
      · exact .inr ⟨(hD x y (b0 _ z2).1 (b0 _ z3).2).mpr (.inl z1), z2, z3⟩
      · obtain ⟨rfl, rfl⟩ := Prod.mk.inj z
        exact .inr ⟨(hD _ _ hi hj).mpr (.inr ⟨rfl, rfl⟩), (h.left _).mp h1, (h.right _).mp h2⟩
    · rintro (z | ⟨z1, z2, z3⟩)
      · exact .inl (.inl z)
      · rcases (hD x y (b0 _ z2).1 (b0 _ z3).2).mp z1 with z | ⟨rfl, rfl⟩
        · exact .inl (.inr ⟨z, z2, z3⟩)
        · exact .inr rfl
theorem CL.no (h : CL n l L0 m D L) (hn : ¬ ((i, m) ∈ L ∧ (m, j) ∈ L)) (hD : ∀ x y, x < n → y < n → (D' x y ↔ D x y ∨ (x = i ∧ y = j))) (b0 : ∀ p ∈ L0, p.1 < n ∧ p.2 < n) : CL n l L0 m D' L where
  nd := h.nd
  bd := h.bd
  sub := h.sub
  inn := h.inn
  eqv := fun x y => by
    rw [h.eqv]
    constructor
    · rintro (z | ⟨z1, z2, z3⟩)
      · exact .inl z
      · exact .inr ⟨(hD x y (b0 _ z2).1 (b0 _ z3).2).mpr (.inl z1), z2, z3⟩
    · rintro (z | ⟨z1, z2, z3⟩)
      · exact .inl z
      · rcases (hD x y (b0 _ z2).1 (b0 _ z3).2).mp z1 with z | ⟨rfl, rfl⟩
        · exact .inr ⟨z, z2, z3⟩
        · exact absurd ⟨(h.left _).mpr z2, (h.right _).mpr z3⟩ hn
theorem CL.imp (h : CL n l L0 m D L) (hD : ∀ x y, x < n → y < n → (D x y ↔ D' x y)) (b0 : ∀ p ∈ L0, p.1 < n ∧ p.2 < n) : CL n l L0 m D' L :=
  ⟨h.nd, h.bd, h.sub, h.inn, fun x y => (h.eqv x y).trans ⟨fun z => z.imp id fun ⟨a, b, c⟩ => ⟨(hD x y (b0 _ b).1 (b0 _ c).2).mp a, b, c⟩, fun z => z.imp id fun ⟨a, b, c⟩ => ⟨(hD x y (b0 _ b).1 (b0 _ c).2).mpr a, b, c⟩⟩⟩
/-- at the beginning of a turn of the outer loop -/
structure CT (n : Nat) (l : List Pr) (m : Nat) (L : List Pr) : Prop where
  nd : L.Nodup
  bd : ∀ p ∈ L, p.1 < n ∧ p.2 < n
  sub : ∀ p ∈ l, p ∈ L
  inn : ∀ p ∈ L, tc l p.1 p.2
  thru : Thru m L
theorem CT.start (h : CT n l m L) : CL n l L m (fun _ _ => False) L := ⟨h.nd, h.bd, h.sub, h.inn, fun x y => ⟨.inl, fun z => z.elim id fun k => k.1.elim⟩⟩
theorem CL.stop (h : CL n l L0 m D L) (t : CT n l m L0) (hD : ∀ x y, x < n → y < n → D x y) : CT n l (m + 1) L :=
  ⟨h.nd, h.bd, h.sub, h.inn, t.thru.next t.bd fun a b => (h.eqv a b).trans ⟨fun z => z.imp id fun ⟨_, y, w⟩ => ⟨(t.bd _ y).1, (t.bd _ w).2, y, w⟩, fun z => z.imp id fun ⟨x1, x2, y, w⟩ => ⟨hD _ _ x1 x2, y, w⟩⟩⟩
theorem CT.first (hb : ∀ p ∈ l, p.1 < n ∧ p.2 < n) : CT n l 0 (l.foldl addP []) where
  nd := nodup_adds List.nodup_nil
  bd := fun p hp => hb p ((mem_adds.mp hp).resolve_left (by simp))
  sub := fun p hp => mem_adds.mpr (.inr hp)
  inn := fun p hp => .base ((mem_adds.mp hp).resolve_left (by simp))
  thru := fun k hk => absurd hk (Nat.not_lt_zero k)
theorem CT.is (h : CT n l n L) : ∀ p, p ∈ L ↔ tc l p.1 p.2 := closed_is h.thru h.bd h.sub h.inn
end EM
set_option Elab.async false
set_option linter.all false
set_option autoImplicit false
set_option maxRecDepth 100000
set_option maxHeartbeats 4000000
/-! DL8: methods and classes as callees; instances made. -/
namespace DL
open L2 PySem
section
variable {P : Program} {w : World} {K : PySem.W.Frag} {mg : Str → Option Value} {base : Heap}
def GM (K : PySem.W.Frag) (C : Addr) (m q : Str) (st : Stmt) (ps : List Str) : Prop := ∃ f fd, Cls K C ∧ Meth K C m f ∧ Fun K m q st f fd ∧ Binds K fd ps []
def GI (K : PySem.W.Frag) (mg : Str → Option Value) (x : Str) (C : Addr) (q : Str) (st : Stmt) (ps : List Str) : Prop := ∃ f fd, mg x = some (.ref C) ∧ Mk K C f ∧ Fun K "__init__" q st f fd ∧ Binds K fd ps []
def CanM (P : Program) (w : World) (K : PySem.W.Frag) (mg : Str → Option Value) (base : Heap) (C : Addr) (m : Str) (k : Nat) (ps : List Str) (sp : Sp) : Prop :=
  ∃ f fd, Cls K C ∧ Meth K C m f ∧ Binds K fd ps [] ∧ FnOk P w K mg base CX0 k f fd ps sp
def CanI (P : Program) (w : World) (K : PySem.W.Frag) (mg : Str → Option Value) (base : Heap) (x : Str) (C : Addr) (k : Nat) (ps : List Str) (sp : Sp) : Prop :=
  ∃ f fd, mg x = some (.ref C) ∧ Mk K C f ∧ Binds K fd ps [] ∧ FnOk P w K mg base CX0 k f fd ps sp
theorem CanM.up {C : Addr} {m : Str} {j k : Nat} {ps : List Str} {sp : Sp} (c : CanM P w K mg base C m j ps sp) (h : j ≤ k) : CanM P w K mg base C m k ps sp :=
  let ⟨f, fd, a, b, d, F⟩ := c
  ⟨f, fd, a, b, d, F.mono h⟩
theorem CanI.up {x : Str} {C : Addr} {j k : Nat} {ps : List Str} {sp : Sp} (c : CanI P w K mg base x C j ps sp) (h : j ≤ k) : CanI P w K mg base x C k ps sp :=
  let ⟨f, fd, a, b, d, F⟩ := c
  ⟨f, fd, a, b, d, F.mono h⟩
section
variable {x q : Str} {st : Stmt} {ps N : List Str} {k : Nat} {Pq : Proto} {ι : Type} {args : ι → List D} {pre : ι → Ow} {post : ι → D → Ow → Prop} {f : Addr} {fd : FuncData}
theorem fn_ofW (F : Fun K x q st f fd) (S : FnScope N ps (defScope st)) (len : ∀ i, (args i).length = ps.length)
    (body : ∀ (cdv : Value) (A : Around) (outer : List Env) (s : Shared) (H : Hp) (E : XK), Room k (A.deeper (PyProof.Rows.envOfC q (defScope st) s.heap.objs.size f cdv)) →
      ∃ t, PSs (cxOf CX0 P w K mg base N q (defScope st) f cdv A outer s H E).nox (defBody st) t ∧ ∀ i, StS Pq (fun a => a ∈ (pre i).map (·.1)) t (entry N.length (args i)) (pre i) { N := fun _ O => post i .non O, R := fun d O => post i d O }) : FnOk P w K mg base CX0 (k + 1) f fd ps (spW Pq args pre post) :=
  F.ok S (fun vs H Q E h => spW_len len h) fun cdv A outer s H vs Q E hr h => by
    obtain ⟨t, h1, h2⟩ := body cdv A outer s H E hr
    exact ⟨t, h1, def_startW h h2⟩
theorem CanM.ofW {C : Addr} (G : GM K C x q st ps) (S : FnScope N ps (defScope st)) (len : ∀ i, (args i).length = ps.length)
    (body : ∀ (f : Addr) (cdv : Value) (A : Around) (outer : List Env) (s : Shared) (H : Hp) (E : XK), Room k (A.deeper (PyProof.Rows.envOfC q (defScope st) s.heap.objs.size f cdv)) →
      ∃ t, PSs (cxOf CX0 P w K mg base N q (defScope st) f cdv A outer s H E).nox (defBody st) t ∧ ∀ i, StS Pq (fun a => a ∈ (pre i).map (·.1)) t (entry N.length (args i)) (pre i) { N := fun _ O => post i .non O, R := fun d O => post i d O }) : CanM P w K mg base C x (k + 1) ps (spW Pq args pre post) :=
  let ⟨f, fd, a, b, F, d⟩ := G
  ⟨f, fd, a, b, d, fn_ofW F S len (body f)⟩
theorem CanI.ofW {C : Addr} {y : Str} (G : GI K mg y C q st ps) (S : FnScope N ps (defScope st)) (len : ∀ i, (args i).length = ps.length)
    (body : ∀ (f : Addr) (cdv : Value) (A : Around) (outer : List Env) (s : Shared) (H : Hp) (E : XK), Room k (A.deeper (PyProof.Rows.envOfC q (defScope st) s.heap.objs.size f cdv)) →
      ∃ t, PSs (cxOf CX0 P w K mg base N q (defScope st) f cdv A outer s H E).nox (defBody st) t ∧ ∀ i, StS Pq (fun a => a ∈ (pre i).map (·.1)) t (entry N.length (args i)) (pre i) { N := fun _ O => post i .non O, R := fun d O => post i d O }) : CanI P w K mg base y C (k + 1) ps (spW Pq args pre post) :=
  let ⟨f, fd, a, b, F, d⟩ := G
  ⟨f, fd, a, b, d, fn_ofW F S len (body f)⟩
end
end
section
variable {X : Cx} {x m : Str} {C : Addr} {k : Nat} {ps : List Str} {sp : Sp} {e o : Expr} {es : List Expr} {ta : TE} {t : TA} {p pos apos : Pos}
theorem pe_canM {pl : Sem Bool} (c : CanM X.prog X.w X.K X.mg X.base C m k ps sp) (hr : Room k X.A) (he : PE X o ta) (ha : PA X (e :: es) t)
    (hst : starEach (e :: es) X.env = (false, eval e X.env) :: starEach es X.env := by rfl) (hpl : (backTo pos (starEach es X.env)).any (·.1) = false := by rfl)
    (ht : eval (.Call (.Attribute o m apos) (e :: es) [] pos) X.env = (do
      let ov ← eval o X.env
      standAt apos.atName
      let (f, first) ← holding [ov] (getMethod ov m pl)
      callWith pos f first (backTo pos (starEach (e :: es) X.env)) (backToKw pos (keywordEach [] X.env))) := by rfl) :
    PE X (.Call (.Attribute o m apos) (e :: es) [] pos) (tMeth C m sp [] E0 ta t) := by
  obtain ⟨f, fd, c1, c2, b, F⟩ := c
  exact pe_meth he c1 c2 F hr b .nil pass0 ha hst hpl ht
theorem pe_canI (c : CanI X.prog X.w X.K X.mg X.base x C k ps sp) (hr : Room (k + 1) X.A) (hg : Gl X x) (ha : PA X (e :: es) t)
    (hdb : (x == ("__debug__" : Str)) = false := by decide) (he : starEach (e :: es) X.env = (false, eval e X.env) :: starEach es X.env := by rfl) (hpl : (backTo pos (starEach es X.env)).any (·.1) = false := by rfl) :
    PE X (.Call (.Name x p) (e :: es) [] pos) (tMake C sp [] E0 t) := by
  obtain ⟨f, fd, hm, M, b, F⟩ := c
  exact pe_make M F hr hg hm b .nil pass0 ha hdb he hpl
end

/-! ### frozen instances -/
def InsR (C : Addr) (fs : List (Str × D)) : Hp → V → Prop := fun H v => ∃ a dx gs, v = .ref a ∧ H a = some (.ins C dx gs) ∧ gs.map (·.1) = fs.map (·.1) ∧ IsAll H (gs.map (·.2)) (fs.map (·.2))
theorem ins_lookup {H : Hp} {f : Str} {d : D} : ∀ {gs : List (Str × V)} {fs : List (Str × D)}, gs.map (·.1) = fs.map (·.1) → IsAll H (gs.map (·.2)) (fs.map (·.2)) → fs.lookup f = some d → ∃ u, gs.lookup f = some u ∧ Is H u d
  | [], [], _, _, h => by cases h
  | (k, x) :: gs, (k', x') :: fs, hk, r, h => by
    injection hk with h1 h2
    have h1' : k = k' := h1
    subst h1'
    cases r with
    | cons a r =>
      rw [List.lookup_cons] at h ⊢
      cases hb : (f == k) with
      | true =>
        rw [hb] at h
        have h' : some x' = some d := h
        cases h'
        exact ⟨x, rfl, a⟩
      | false =>
        rw [hb] at h
        exact ins_lookup h2 r h
  | [], _ :: _, h, _, _ => by cases h
  | _ :: _, [], h, _, _ => by cases h
section
variable {P : Proto} {W : Addr → Prop} {Γ : En} {Ω : Ow} {tl : TA} {S : D → Prop}
/-- C(..) -/
theorem ev_makeS {ι : Type} {args : ι → List D} {pre : ι → Ow} {post : ι → D → Ow → Prop} {E : XK} {C : Addr} {Sl : List D → Prop} (h : EvA P tl Γ Ω Sl)
    (kk : ∀ ds, Sl ds → ∃ i : Addr → ι, (∀ x, args (i x) = .ref x :: ds) ∧ (∀ x, pre (i x) = [(x, .ins C [])]) ∧ ∀ x d O, post (i x) d O → d = .non ∧ ∃ fs, O = [(x, .ins C fs)] ∧ S (.sem (InsR C fs))) : EvS P (tMake C (spW P0 args pre post) [] E tl) Γ Ω S := fun _ _ _ _ _ _ c Q q => h c _ fun vs Hf2 H2 ds sds s iv => by
  obtain ⟨i, ea, ep, k⟩ := kk ds sds
  intro x dx hx hdx ne
  have c2 := c.mono s
  rw [List.append_nil]
  have fx : Hf2 x = none := c2.sub.free hx
  have fdx : Hf2 dx = none := c2.sub.free hdx
  have up : ∀ a, a ≠ x → a ≠ dx → (upd (upd H2 dx (.own x)) x (.ins C dx [])) a = H2 a := fun a h1 h2 => by rw [upd_ne h1, upd_ne h2]
  have sm : Same Hf2 (upd (upd H2 dx (.own x)) x (.ins C dx [])) := fun a o e => by
    rw [up a (ne_of_none e fx) (ne_of_none e fdx)]
    exact c2.sub a o e
  refine ⟨i x, Hf2, sm, trivial, by rw [ea]; exact .cons (.ref x) iv, fun p oc hm => ?_, by rw [ep]; simp, fun v d O Hf4 H4 pd s4 i4 ow => ?_⟩
  · rw [ep] at hm
    rcases List.mem_cons.mp hm with e | hm
    · cases e
      exact ⟨⟨dx, [], upd_same, rfl, .nil⟩, fx, fun z => z⟩
    · cases hm
  · obtain ⟨ed, fs, eO, sS⟩ := k x d O pd
    subst ed
    cases i4
    refine ⟨rfl, ?_⟩
    subst eO
    obtain ⟨⟨dx', gs, eg, ek, r⟩, n4⟩ := ow x _ List.mem_cons_self
    have nW : ∀ a, a ≠ x → ¬ a ∈ (pre (i x)).map (·.1) := fun a h1 h2 => by
      rw [ep] at h2
      rcases List.mem_cons.mp h2 with e | h2
      · exact h1 e
      · cases h2
    have s5 : Same Hf4 (upd Hf4 x (.ins C dx' gs)) := fun a u e => by rw [upd_ne (ne_of_none e n4)]; exact e
    have nt3 : ∀ a, NT H2 a → a ≠ x ∧ a ≠ dx ∧ NT (upd (upd H2 dx (.own x)) x (.ins C dx [])) a := fun a n => by
      have h1 := nt_ne hx n
      have h2 := nt_ne hdx n
      obtain ⟨o, e, z⟩ := n
      exact ⟨h1, h2, o, by rw [up a h1 h2]; exact e, z⟩
    refine q (.ref x) (upd Hf4 x (.ins C dx' gs)) H4 _ sS (s.trans ⟨s4.fr.trans s5, fun a u e => ?_, fun a n z => ?_, fun a o m _ e => ?_, fun a z => ?_, fun a n => ?_, ?_⟩) (.sem fun H5 sm5 => ⟨x, dx', gs, rfl, sm5 _ _ upd_same, ek, (r.mono s5).mono sm5⟩)
    · by_cases q : a = x
      · subst q; rw [upd_same] at e; cases e; exact eg
      · rw [upd_ne q] at e; exact s4.sub a u e
    · by_cases q : a = x
      · subst q; exact fun n => n.some hx
      · rw [upd_ne q] at z
        exact fun nt => s4.new a n z (nt3 a nt).2.2
    · have h1 := ne_of_none e hx
      have h2 := ne_of_none e hdx
      exact s4.keep a o (fun z => z) (nW a h1) (by rw [up a h1 h2]; exact e)
    · refine s4.dom a ?_
      by_cases h1 : a = x
      · subst h1; rw [upd_same]; exact fun z => nomatch z
      · by_cases h2 : a = dx
        · subst h2; rw [upd_ne h1, upd_same]; exact fun z => nomatch z
        · rw [up a h1 h2]; exact z
    · exact s4.ntk a (nt3 a n).2.2
    · refine P.stab Hf2 H2 _ _ c2.pr (s4.fr.trans s5) (fun a ma => ?_) fun a ma => ?_
      · obtain ⟨n, nt⟩ := P.dom _ _ a c2.pr ma
        obtain ⟨h1, h2, nt'⟩ := nt3 a nt
        rw [(s4.pres (fun z => z) (nW a h1) n nt').1, up a h1 h2]
      · obtain ⟨n, nt⟩ := P.dom _ _ a c2.pr ma
        obtain ⟨h1, h2, nt'⟩ := nt3 a nt
        rw [upd_ne h1]
        exact (s4.pres (fun z => z) (nW a h1) n nt').2
theorem ev_make {ι : Type} {args : ι → List D} {pre : ι → Ow} {post : ι → D → Ow → Prop} {E : XK} {C : Addr} {ds : List D} (i : Addr → ι) (ea : ∀ x, args (i x) = .ref x :: ds) (ep : ∀ x, pre (i x) = [(x, .ins C [])])
    (h : EvL P tl Γ Ω ds) (k : ∀ x d O, post (i x) d O → d = .non ∧ ∃ fs, O = [(x, .ins C fs)] ∧ S (.sem (InsR C fs))) : EvS P (tMake C (spW P0 args pre post) [] E tl) Γ Ω S :=
  ev_makeS h fun ds' e => ⟨i, fun x => by rw [e]; exact ea x, ep, k⟩
theorem ea_1S {te : TE} {S : D → Prop} (h : EvS P te Γ Ω S) : EvA P (tCons te tNil) Γ Ω (fun ds => ∃ d, S d ∧ ds = [d]) :=
  ea_consS h (Sr := fun _ x => x = []) (fun _ _ => ea_nil) fun d ds sd e => ⟨d, sd, by rw [e]⟩
theorem ea_2S {ta te : TE} {a : D} {S : D → Prop} (h1 : Ev P ta Γ Ω a) (h : EvS P te Γ Ω S) : EvA P (tCons ta (tCons te tNil)) Γ Ω (fun ds => ∃ d, S d ∧ ds = [a, d]) :=
  ea_consS h1 (Sr := fun _ x => ∃ d, S d ∧ x = [d]) (fun _ _ => ea_1S h) fun d ds sd ⟨x, sx, e⟩ => ⟨x, sx, by rw [e, sd]⟩
end
end DL
namespace DL
open L2 PySem
theorem EvS.weak {P : Proto} {Γ : En} {Ω : Ow} {te : TE} {S S' : D → Prop} (h : EvS P te Γ Ω S) (k : ∀ d, S d → ∃ d', S' d' ∧ ∀ H v, Is H v d → Is H v d') : EvS P te Γ Ω S' := fun _ _ _ _ _ _ c Q q => h c Q fun v Hf2 H2 d sd s i => by
  obtain ⟨d', sd', w⟩ := k d sd
  exact q v Hf2 H2 d' sd' s (w _ _ i)
theorem sem_weak {R R' : Hp → V → Prop} (h : ∀ H v, R H v → R' H v) (H : Hp) (v : V) (i : Is H v (.sem R)) : Is H v (.sem R') := .sem fun H2 s => h _ _ (i.sem_inv H2 s)
theorem ev_isN_no {P : Proto} {Γ : En} {Ω : Ow} {ta : TE} {l : List D} (h : Ev P ta Γ Ω (.tup l)) : Ev P (tIsN ta) Γ Ω (.bl false) := fun _ _ _ _ _ _ c Q q => h c _ fun v Hf2 H2 d e s i => by
  subst e
  obtain ⟨a, xs, rfl, _, _⟩ := i.tup_inv
  exact q _ _ _ _ rfl s (.bl false)
theorem ev_isN_yes {P : Proto} {Γ : En} {Ω : Ow} {ta : TE} (h : Ev P ta Γ Ω .non) : Ev P (tIsN ta) Γ Ω (.bl true) := fun _ _ _ _ _ _ c Q q => h c _ fun v Hf2 H2 d e s i => by
  subst e
  cases i
  exact q _ _ _ _ rfl s (.bl true)
theorem lookup_putD {f g : Str} {d : D} : ∀ {fs : List (Str × D)}, (putD f d fs).lookup g = if g = f then some d else fs.lookup g
  | [] => by
    show List.lookup g [(f, d)] = _
    rw [List.lookup_cons]
    by_cases h : g = f
    · subst h; rw [if_pos rfl, beq_self_eq_true]
    · rw [if_neg h, beq_false_of_ne h]
  | (k, x) :: r => by
    unfold putD
    by_cases hk : k = f
    · subst hk
      rw [if_pos rfl, List.lookup_cons, List.lookup_cons]
      by_cases h : g = k
      · subst h; rw [if_pos rfl, beq_self_eq_true]
      · rw [if_neg h, beq_false_of_ne h]
    · rw [if_neg hk, List.lookup_cons, List.lookup_cons, lookup_putD]
      by_cases h : g = k
      · subst h
        rw [beq_self_eq_true]
        show some x = if g = f then some d else some x
        rw [if_neg hk]
      · rw [beq_false_of_ne h]
theorem putD_len {f : Str} {d : D} : ∀ {fs : List (Str × D)}, (putD f d fs).length ≤ fs.length + 1
  | [] => Nat.le_refl _
  | (k, x) :: r => by
    unfold putD
    split
    · rw [List.length_cons, List.length_cons]; omega
    · have := putD_len (f := f) (d := d) (fs := r)
      rw [List.length_cons, List.length_cons]; omega
theorem flat_len {α β : Type} {f : α → List β} {k : Nat} : ∀ {l : List α}, (∀ x ∈ l, (f x).length ≤ k) → (l.flatMap f).length ≤ l.length * k
  | [], _ => Nat.zero_le _
  | x :: l, h => by
    rw [List.flatMap_cons, List.length_append, List.length_cons, Nat.succ_mul]
    have := flat_len (l := l) fun y hy => h y (List.mem_cons_of_mem _ hy)
    have := h x List.mem_cons_self
    omega
end DL
set_option Elab.async false
set_option linter.all false
set_option autoImplicit false
set_option maxRecDepth 100000
set_option maxHeartbeats 4000000
/-! DL9: the tape, a cell that callees change. -/
namespace DL
open L2 PySem
/-- what stands on a tape -/
abbrev tapeC (ns : List Int) (a : Nat) (i j k : Int) : OC := .lst [.lst (ns.map D.int), eN a, .int i, .int j, .int k]
def TapeOn (T : Addr) (Hf H : Hp) : Prop := Hf T = none ∧ ∃ ns a i j k, ns.length < 1000 ∧ OwnAt Hf H T (tapeC ns a i j k)
def PT (T : Addr) : Proto where
  M := fun a => a = T
  Pr := TapeOn T
  dom := fun Hf H a h e => by
    subst e
    obtain ⟨n, ns, a, i, j, k, _, o⟩ := h
    exact ⟨n, o.there⟩
  stab := fun Hf H Hf2 H2 h s e n => by
    obtain ⟨_, ns, a, i, j, k, l, o⟩ := h
    exact ⟨n T rfl, ns, a, i, j, k, l, o.mono s (e T rfl)⟩
def spT {ι : Type} (args : Addr → ι → List D) (post : ι → D → Prop) : Sp := fun vs H Q E => ∃ T, spD (PT T) (args T) post vs H Q E
section
variable {P : Program} {w : World} {K : PySem.W.Frag} {mg : Str → Option Value} {base : Heap}
theorem Can.ofT {x : Str} {st : Stmt} {ps N : List Str} {k : Nat} {ι : Type} {args : Addr → ι → List D} {post : ι → D → Prop} (G : GF K mg x st ps) (S : FnScope N ps (defScope st)) (len : ∀ T i, (args T i).length = ps.length)
    (body : ∀ (f : Addr) (cdv : Value) (A : Around) (outer : List Env) (s : Shared) (H : Hp) (E : XK), Room k (A.deeper (PyProof.Rows.envOfC x (defScope st) s.heap.objs.size f cdv)) →
      ∃ t, PSs (cxOf CX0 P w K mg base N x (defScope st) f cdv A outer s H E).nox (defBody st) t ∧ ∀ T i, StS (PT T) NoW t (entry N.length (args T i)) [] { N := fun _ _ => post i .non, R := fun d _ => post i d }) : Can P w K mg base x (k + 1) ps (spT args post) := by
  refine Can.mk G S (fun vs H Q E ⟨T, h⟩ => sp_len (len T) h) fun f cdv A outer s H E hr => ?_
  obtain ⟨t, h1, h2⟩ := body f cdv A outer s H E hr
  exact ⟨t, h1, fun vs Q ⟨T, h⟩ => def_start h (h2 T)⟩
end
section
variable {T : Addr} {Γ : En} {Ω : Ow} {tl : TA} {S : D → Prop}
theorem ev_callT {ι : Type} {args : Addr → ι → List D} {post : ι → D → Prop} {E : XK} (i : ι) (h : EvL (PT T) tl Γ Ω (args T i)) (k : ∀ d, post i d → S d) : EvS (PT T) (tCall (spT args post) [] E tl) Γ Ω S := fun _ _ _ _ _ _ c Q q => h c _ fun vs Hf2 H2 ds sd s iv => by
  subst sd
  rw [List.append_nil]
  have c2 := c.mono s
  exact ⟨T, i, Hf2, c2.sub, c2.pr, iv, fun v Hf3 H3 d pd s3 i3 => q v _ _ d (k d pd) (s.trans s3) i3⟩
theorem ev_callTS {ι : Type} {args : Addr → ι → List D} {post : ι → D → Prop} {E : XK} {Sl : List D → Prop} (h : EvA (PT T) tl Γ Ω Sl) (k : ∀ ds, Sl ds → ∃ i, ds = args T i ∧ ∀ d, post i d → S d) : EvS (PT T) (tCall (spT args post) [] E tl) Γ Ω S := fun _ _ _ _ _ _ c Q q => h c _ fun vs Hf2 H2 ds sd s iv => by
  obtain ⟨i, e, kk⟩ := k ds sd
  subst e
  rw [List.append_nil]
  have c2 := c.mono s
  exact ⟨T, i, Hf2, c2.sub, c2.pr, iv, fun v Hf3 H3 d pd s3 i3 => q v _ _ d (kk d pd) (s.trans s3) i3⟩
end
/-- from the exact promise over the cell to the promise over the tape -/
theorem spW_T {ι ι' : Type} {args : ι → List D} {pre : ι → Ow} {post : ι → D → Ow → Prop} {argsT : Addr → ι' → List D} {postT : ι' → D → Prop}
    (h : ∀ T (i' : ι') ns a i j k, ns.length < 1000 → ∃ x : ι, args x = argsT T i' ∧ pre x = [(T, tapeC ns a i j k)] ∧ ∀ d O, post x d O → postT i' d ∧ ∃ a i j k, O = [(T, tapeC ns a i j k)]) :
    ∀ vs H Q E, spT argsT postT vs H Q E → spW P0 args pre post vs H Q E := fun vs H Q E ⟨T, i', Hf, s, ⟨n, ns, a, i, j, k, l, o⟩, r, q⟩ => by
  obtain ⟨x, ea, ep, kk⟩ := h T i' ns a i j k l
  refine ⟨x, Hf, s, trivial, by rw [ea]; exact r, fun p c hm => ?_, by rw [ep]; simp, fun v d O Hf2 H2 pd st iv ow => ?_⟩
  · rw [ep] at hm
    rcases List.mem_cons.mp hm with e | hm
    · cases e; exact ⟨o, n, fun z => z⟩
    · cases hm
  · obtain ⟨pT', a', i'', j', k', eO⟩ := kk d O pd
    subst eO
    obtain ⟨o2, n2⟩ := ow T _ List.mem_cons_self
    have nW : ∀ b, b ≠ T → ¬ b ∈ (pre x).map (·.1) := fun b h1 h2 => by
      rw [ep] at h2
      rcases List.mem_cons.mp h2 with e | h2
      · exact h1 e
      · cases h2
    exact q v Hf2 H2 d pT' ⟨st.fr, st.sub, st.new, fun b u m _ e => st.keep b u (fun z => z) (nW b m) e, st.dom, st.ntk, n2, ns, a', i'', j', k', l, o2⟩ iv
/-- an owned tape becomes the tape of the rest -/
theorem At.toTape {W : Addr → Prop} {Hf0 H0 Hf H : Hp} {Γ : En} {Ω : Ow} {σ : St} {T : Addr} {ns : List Int} {a : Nat} {i j k : Int} (c : At P0 W Hf0 H0 Γ ((T, tapeC ns a i j k) :: Ω) σ Hf H) (l : ns.length < 1000) : At (PT T) W Hf0 H0 Γ Ω σ Hf H := by
  obtain ⟨o, n, _, _⟩ := c.own T _ List.mem_cons_self
  have nd := c.nd
  rw [List.map_cons, List.nodup_cons] at nd
  refine ⟨⟨c.step.fr, c.step.sub, c.step.new, fun b u m w e => c.step.keep b u (fun z => z) w e, c.step.dom, c.step.ntk, n, ns, a, i, j, k, l, o⟩, c.fits, fun p oc hm => ?_, nd.2⟩
  obtain ⟨x1, x2, _, x4⟩ := c.own p oc (List.mem_cons_of_mem _ hm)
  exact ⟨x1, x2, fun e => nd.1 (List.mem_map.mpr ⟨(p, oc), hm, e⟩), x4⟩
end DL
set_option Elab.async false
set_option linter.all false
set_option autoImplicit false
set_option maxRecDepth 100000
set_option maxHeartbeats 4000000
/-! RT: set(xs), xs a tuple of tuples. -/
namespace RU
open L2 PySem
section
variable {P : Program} {w : World} {A : Around} {E : Value → Shared → Prop} {s : Shared}
open PySem.Spec PyProof.Rows in
set_option maxHeartbeats 8000000 in
/-- set(xs) -/
theorem set_ofT {l : Addr} {its : Array Value} (ks : List (Addr × List Int)) {Q : Value → Shared → Prop} (hh : A.handled = none) (hl : s.heap.IsTuple l its) (eq : its.toList = ks.map fun p => Value.ref p.1)
    (tups : ∀ p ∈ ks, IsT P w s.heap p.2 p.1) (few : Few ks) (hu : A.units + 3 < cLine)
    (k : ∀ (h' : Heap) (tk : Nat) L es ep t, SetTR P w h' s.heap.objs.size L es ep t → Got ks ks.length L → (∀ b o, s.heap.get? b = some o → h'.get? b = some o) → Q (.ref s.heap.objs.size) { s with heap := h', toks := tk }) :
    wpAny (model P w) A (call (.type "set") [.ref l]) Q E s := by
  have size : its.size = ks.length := by
    have q := congrArg List.length eq
    rwa [Array.length_toList, List.length_map] at q
  let ob : Obj := { cls := .type "set", dict := none, data := .set #[] 0 (.fresh 0 0 (!w.params.followText "set-order")) }
  obtain ⟨c, tl, hmro⟩ := F.called_set.mro
  have hmade := F.called_set.made
  have hsub := F.called_set.sub
  refine wpAny_call (codeAny_of_tree ?_)
  show wpAny _ _ (callAny (.type "set") _) _ _ _
  refine wpAny_pure ⟨Code.quiet_builtin _ (by decide +kernel), codeAny_builtin F.entry_type_call ?_⟩
  rw [Around.under_plain (weight_type_call_type "set" [.ref l] []) rfl]
  have h1 := F.called_set.notType
  have h2 := F.called_set.canCreate
  have hct := F.typeCall_set_1 (.ref l)
  repeat (any_goals (first | assumption | wp_step))
  refine codeAny_mono (code_set_led1 (.ref l) (E := E) (Q₁ := fun obj s₁ => obj = .ref s.heap.objs.size ∧ s₁ = { s with heap := s.heap.push ob }) ⟨rfl, rfl⟩) fun r s₁ hr => ?_
  cases r with
  | error e => exact hr
  | ok fl =>
    cases fl with
    | ret obj =>
      obtain ⟨rfl, rfl⟩ := hr
      have hS : (s.heap.push ob).get? s.heap.objs.size = some ob := Heap.get?_push_size _ rfl
      have hT : Shared.TypeIs { s with heap := s.heap.push ob } (.ref s.heap.objs.size) "set" := ⟨_, hS, rfl⟩
      have hli := F.called_set.init.lookup
      have hbi := F.called_set.init.bind (.ref s.heap.objs.size)
      repeat (any_goals (first | assumption | wp_step))
      refine codeAny_mono (codeAny_call_builtin (R := wants (fun r s₂ => r = .none ∧ ∃ h' tk L es ep t, s₂ = { s with heap := h', toks := tk } ∧ SetTR P w h' s.heap.objs.size L es ep t ∧ Got ks ks.length L ∧
          (∀ b o, s.heap.get? b = some o → h'.get? b = some o)) E) F.called_set.init.plain F.entry_set_init (check_set_init_1 hT ?_)) fun r₂ s₂ hr₂ => ?_
      · obtain ⟨⟨ocls, odict, odata, oslots⟩, hol, hcl, nl, hdl⟩ := hl
        simp only at hcl hdl
        subst hcl; subst hdl
        have hol' := Heap.get?_push_of_some ob hol
        have hsls := F.sub_tuple_set
        have hslf := F.sub_tuple_frozenset
        have hne : (Value.type "tuple" == Value.type "dict") = false := by decide
        have hl1 : (s.heap.push ob).IsTuple l its := ⟨_, hol', rfl, nl, rfl⟩
        unfold Builtin.«set.__init__» noKeywords Builtin.Frozenset.updateFrom
        generalize hPI : pyIter = PI
        wp_walk
        subst hPI
        refine wpAny_pyIter_tuple hl1 ?_
        refine wpAny_bind (wpAny_runValue ?_)
        have lts : l < s.heap.objs.size := Heap.lt_size hol
        have hh3 : A.in1.in1.in1.handled = none := by simp [hh]
        have hz1 : (s.heap.push ob).objs.size = s.heap.objs.size + 1 := Heap.size_push ..
        have hneI : l ≠ (s.heap.push ob).objs.size := by
          rw [hz1]; exact Nat.ne_of_lt (Nat.lt_succ_of_lt lts)
        have far : s.heap.objs.size ∉ [(s.heap.push ob).objs.size, l] := by
          simp only [List.mem_cons, List.not_mem_nil, or_false, not_or]
          rw [hz1]; exact ⟨Nat.ne_of_lt (Nat.lt_succ_self _), Nat.ne_of_gt lts⟩
        have each : ∀ (i : Nat) (v : Value), its[i]? = some v → ∃ p, ks[i]? = some p ∧ v = .ref p.1 := fun i v hv => by
          have q : its.toList[i]? = some v := by rw [Array.getElem?_toList]; exact hv
          rw [eq, List.getElem?_map] at q
          cases hq : ks[i]? with
          | none => rw [hq] at q; cases q
          | some p =>
            rw [hq] at q
            exact ⟨p, rfl, (Option.some.inj q).symm⟩
        have none_of : ∀ b, s.heap.objs.size ≤ b → s.heap.get? b = none := fun b hb => by
          cases q : s.heap.get? b with
          | none => rfl
          | some o => exact (Nat.lt_irrefl _ (Nat.lt_of_lt_of_le (Heap.lt_size q) hb)).elim
        have Wk := (Walks.tuple (prog := P) (w := w) hh3 (s.heap.push ob).objs.size l hneI its).toS
        rw [size] at Wk
        refine upd_loop (g := s.heap) ks Wk s.heap.objs.size far few each tups (none_of _ (Nat.le_refl _)) (fun b hb => none_of b (by rw [List.mem_singleton.mp hb, hz1]; exact Nat.le_succ _)) hu ?fin ks.length 0 _ (by omega) (Nat.zero_le _)
          ⟨⟨_, Heap.get?_push_size _ rfl, rfl, rfl⟩, (hl1.push _)⟩ (fun b o e => Heap.get?_push_of_some _ (Heap.get?_push_of_some _ e)) ?start (fun s' m => m)
        case start => exact ⟨[], #[], 0, _, setTR_fresh (Heap.get?_push_of_some _ hS), Got.zero ks⟩
        case fin =>
          intro s' L es ep t hm hS' g' hkp
          obtain ⟨h', g2, d', tk', os'⟩ := s'
          obtain rfl : g2 = s.gens := hm.gens
          obtain rfl : d' = s.drawn := hm.drawn
          obtain rfl : os' = s.os := hm.os
          show wpAny _ _ _ _ _ _
          refine wpAny_pure ?_
          show wpAny _ _ (ret Value.none) _ _ _
          exact wpAny_pure ⟨rfl, h', tk', L, es, ep, t, rfl, hS', g', hkp⟩
      · cases r₂ with
        | error e => exact hr₂
        | ok fl₂ =>
          cases fl₂ with
          | ret r =>
            obtain ⟨rfl, h', tk, L, es, ep, t, rfl, hS', g', hk'⟩ := hr₂
            repeat (any_goals (first | assumption | wp_step))
            exact k _ _ _ _ _ _ hS' g' hk'
          | _ => exact hr₂.elim
    | _ => exact hr.elim
end
section
variable {X : Cx}
/-- set(xs), xs a tuple of tuples of ints -/
def rSetTT (K : PySem.W.Frag) (P : Program) (w : World) : List V → Hp → VK → Prop := fun xs H Q => ∃ (l : Addr) (ks : List (Addr × List Int)), xs = [V.ref l] ∧ SqT K H l (ks.map fun p => V.ref p.1) ∧ (∀ p ∈ ks, SqT K H p.1 (p.2.map V.int)) ∧ Few ks ∧
  ∀ a L, H a = none → (∀ p ∈ L, p ∈ ks) → (∀ p ∈ ks, p.2 ∈ L.map (·.2)) → (L.map (·.2)).Nodup → Q (.ref a) (upd H a (SetTO P w a L))
theorem cr_setTT (hc : X.calm = true) (hu : X.A.units + 64 < cLine) : CallR X (.type "set") (rSetTT X.K X.prog X.w) := by
  intro pins s σ H xs us Q I r ⟨l, ks, e, hl, hk, few, q⟩
  subst e
  rw [Vals.ref1 r]
  obtain ⟨its, rv, pl, hz⟩ := I.tuple hl
  have hn : H s.heap.objs.size = none := I.hok.fresh (Nat.le_refl _)
  refine set_ofT (P := X.prog) (w := X.w) ks (I.ok.hd hc) pl (by simpa using refs_of_vals rv) (fun p hp => I.isT (hk p hp)) few (by omega) fun h' tk L es ep t R g k => ?_
  refine ⟨.ref s.heap.objs.size, _, I.laid (t' := tk) k (Nat.le_refl _) (setTO_new R.t0), rfl, q _ L hn (fun p hp => List.mem_of_mem_take (g.sub p hp)) (fun p hp => ?_) R.nd⟩
  exact g.all p (by rw [List.take_length]; exact hp)
end

end RU
set_option Elab.async false
set_option linter.all false
set_option autoImplicit false
set_option maxRecDepth 100000
set_option maxHeartbeats 4000000
/-! DL10: sets from tuples of pairs; tuples put together. -/
namespace DL
open L2 PySem
section
variable {P : Proto} {a b d : D} {K : PySem.W.Frag} {Γ : En} {Ω : Ow} {ta tb te : TE}
theorem nodup_zP {l : List (Nat × Nat)} (nd : (l.map zP).Nodup) : l.Nodup := List.Pairwise.of_map zP (fun x y hne he => hne (congrArg zP he)) nd
theorem c_setPT {prog : Program} {w : World} {l : List (Nat × Nat)} (few : ∀ L : List (Nat × Nat), (∀ p ∈ L, p ∈ l) → L.Nodup → L.length < 63) :
    CaS P (RU.rSetTT K prog w) [pT l] (fun d => ∃ L : List (Nat × Nat), L.Nodup ∧ (∀ p, p ∈ L ↔ p ∈ l) ∧ d = .sem (SetR prog w L)) := fun _ _ _ s p ia Q q => by
  obtain ⟨v, rfl, i⟩ := ia.one_inv
  obtain ⟨a, xs, rfl, e, r⟩ := i.tup_inv
  obtain ⟨ks, rfl, e2, e3⟩ := pairs_ks r
  have nd2 : ∀ As : List (Addr × (Nat × Nat)), ((As.map fun k => (k.1, zP k.2)).map (·.2)).Nodup → (As.map (·.2)).Nodup := fun As nd => by
    rw [List.map_map] at nd
    have nd' : ((As.map (·.2)).map zP).Nodup := by rw [List.map_map]; exact nd
    exact nodup_zP nd'
  have sub2 : ∀ As : List (Addr × (Nat × Nat)), (∀ x ∈ As, x ∈ ks) → ∀ p ∈ As.map (·.2), p ∈ l := fun As hs p hp => by
    obtain ⟨k, hk, rfl⟩ := List.mem_map.mp hp
    rw [← e2]
    exact List.mem_map.mpr ⟨k, hs k hk, rfl⟩
  refine ⟨a, ks.map fun k => (k.1, zP k.2), rfl, ?_, fun x hx => ?_, fun A hA nd => ?_, fun b A hb h1 h2 nd => ?_⟩
  · rw [List.map_map]
    exact SqT.of (s _ _ e)
  · obtain ⟨k, hk, rfl⟩ := List.mem_map.mp hx
    exact SqT.of (s _ _ (e3 k hk))
  · obtain ⟨As, rfl, hs⟩ := ks_of A ks hA
    have := few (As.map (·.2)) (sub2 As hs) (nd2 As nd)
    rw [List.length_map] at this ⊢
    omega
  · obtain ⟨As, rfl, hs⟩ := ks_of A ks h1
    have s2 := Step.laid (o := SetTO prog w b (As.map fun k => (k.1, zP k.2))) s p hb
    refine q _ _ _ _ ⟨As.map (·.2), nd2 As nd, fun p => ⟨sub2 As hs p, fun hp => ?_⟩, rfl⟩ s2 (.sem fun H2 sm => ⟨b, As, rfl, sm _ _ upd_same, rfl, fun k hk => sm _ _ (s2.fr _ _ (e3 k (hs k hk)))⟩)
    rw [← e2] at hp
    obtain ⟨k, hk, rfl⟩ := List.mem_map.mp hp
    have := h2 (k.1, zP k.2) (List.mem_map.mpr ⟨k, hk, rfl⟩)
    rw [List.map_map] at this
    obtain ⟨k', hk', e'⟩ := List.mem_map.mp this
    exact List.mem_map.mpr ⟨k', hk', zP_inj e'⟩
/-- t + u -/
theorem o_catT {l m : List D} (h : l.length + m.length ≤ 16777216) : OpS P (rCatA K) (.tup l) (.tup m) (fun x => x = .tup (l ++ m)) := fun _ _ _ _ s p ia ib Q q => by
  obtain ⟨a, xs, rfl, ea, r⟩ := ia.tup_inv
  obtain ⟨b, ys, rfl, eb, r2⟩ := ib.tup_inv
  have hl := r.length
  have hl2 := r2.length
  refine ⟨a, b, xs, ys, rfl, rfl, SqT.of (s _ _ ea), SqT.of (s _ _ eb), lineOf (by rw [hl, hl2]; exact h), fun z => ?_, fun _ z => ?_, fun _ _ t ht => ?_⟩
  · subst z
    have hl0 : l = [] := List.length_eq_zero_iff.mp hl.symm
    subst hl0
    exact q _ _ _ _ rfl (StepW.refl s p) (.tup eb r2)
  · subst z
    have hl0 : m = [] := List.length_eq_zero_iff.mp hl2.symm
    subst hl0
    exact q _ _ _ _ (by rw [List.append_nil]) (StepW.refl s p) (.tup ea r)
  · have s2 := Step.laid (o := .tup (xs ++ ys)) s p ht
    exact q _ _ _ _ rfl s2 (.tup upd_same ((r.append r2).mono s2.fr))
/-- sorted(set(..)) -/
theorem ev_sortedSet {prog : Program} {w : World} {l : List (Nat × Nat)} (h : Ev P te Γ Ω (pL l)) (bd : ∀ p ∈ l, p.1 < 64 ∧ p.2 < 64) (few : ∀ L : List (Nat × Nat), (∀ p ∈ L, p ∈ l) → L.Nodup → L.length < 63) :
    EvS P (tCB (rSortedT K prog w) (tCons (tCB (RU.rSetT K prog w) (tCons te tNil)) tNil)) Γ Ω (fun d => ∃ M : List (Nat × Nat), M.Pairwise plt ∧ (∀ p, p ∈ M ↔ p ∈ l) ∧ d = pL M) :=
  ev_cbS (ev_cb1 h (c_setP few)) fun d ⟨L, nd, mem, e⟩ => by
    subst e
    exact fun _ _ _ s p ia Q q => c_sortedSet (fun p hp => bd p ((mem p).mp hp)) s p ia Q fun v Hf2 H2 d ⟨M, pm, pw, e⟩ => q v Hf2 H2 d ⟨M, pw, fun p => pm.mem_iff.trans (mem p), e⟩
theorem ev_sortedSetT {prog : Program} {w : World} {l : List (Nat × Nat)} (h : Ev P te Γ Ω (pT l)) (bd : ∀ p ∈ l, p.1 < 64 ∧ p.2 < 64) (few : ∀ L : List (Nat × Nat), (∀ p ∈ L, p ∈ l) → L.Nodup → L.length < 63) :
    EvS P (tCB (rSortedT K prog w) (tCons (tCB (RU.rSetTT K prog w) (tCons te tNil)) tNil)) Γ Ω (fun d => ∃ M : List (Nat × Nat), M.Pairwise plt ∧ (∀ p, p ∈ M ↔ p ∈ l) ∧ d = pL M) :=
  ev_cbS (ev_cb1 h (c_setPT few)) fun d ⟨L, nd, mem, e⟩ => by
    subst e
    exact fun _ _ _ s p ia Q q => c_sortedSet (fun p hp => bd p ((mem p).mp hp)) s p ia Q fun v Hf2 H2 d ⟨M, pm, pw, e⟩ => q v Hf2 H2 d ⟨M, pw, fun p => pm.mem_iff.trans (mem p), e⟩
end
end DL
set_option Elab.async false
set_option linter.all false
set_option autoImplicit false
set_option maxRecDepth 100000
set_option maxHeartbeats 4000000
/-! DL11: a dict from numbers to pairs of numbers that callees fill; two new lists at once; max, min of lists. -/
namespace DL
open L2 PySem
abbrev KE := Nat × (Nat × Nat)
def dkC (L : List KE) : OC := .dk (L.map fun e => (Sum.inl (e.1 : Int), eP e.2))
def MemoOn (D : Addr) (Good : Nat → Nat × Nat → Prop) (Hf H : Hp) : Prop := Hf D = none ∧ ∃ L : List KE, OwnAt Hf H D (dkC L) ∧ (L.map (·.1)).Nodup ∧ ∀ e ∈ L, Good e.1 e.2
def PK (D : Addr) (Good : Nat → Nat × Nat → Prop) : Proto where
  M := fun a => a = D
  Pr := MemoOn D Good
  dom := fun Hf H a h e => by
    subst e
    obtain ⟨n, L, o, _⟩ := h
    exact ⟨n, o.there⟩
  stab := fun Hf H Hf2 H2 h s e n => by
    obtain ⟨_, L, o, nd, g⟩ := h
    exact ⟨n D rfl, L, o.mono s (e D rfl), nd, g⟩
section
variable {Hf : Hp}
abbrev KeysOf (kvs : List (Key × V)) (L : List KE) : Prop := kvs.map (·.1) = (L.map fun e => ((Sum.inl (e.1 : Int) : Key), eP e.2)).map (·.1)
abbrev ValsOf (Hf : Hp) (kvs : List (Key × V)) (L : List KE) : Prop := IsAll Hf (kvs.map (·.2)) ((L.map fun e => ((Sum.inl (e.1 : Int) : Key), eP e.2)).map (·.2))
theorem memo_val (n : Nat) : ∀ {L : List KE} {kvs : List (Key × V)}, KeysOf kvs L → ValsOf Hf kvs L →
    (∃ v e, valV kvs (Sum.inl (n : Int)) = some v ∧ e ∈ L ∧ e.1 = n ∧ Is Hf v (eP e.2)) ∨ (valV kvs (Sum.inl (n : Int)) = none ∧ n ∉ L.map (·.1))
  | [], [], _, _ => .inr ⟨rfl, fun h => by cases h⟩
  | e :: L, (k, x) :: kvs, hk, hv => by
    injection hk with h1 h2
    have h1' : k = Sum.inl (e.1 : Int) := h1
    cases hv with
    | cons a r =>
      by_cases h : e.1 = n
      · exact .inl ⟨x, e, valV_pos (by rw [h1', h]), List.mem_cons_self, h, a⟩
      · have ne : ¬ (k, x).1 = Sum.inl (n : Int) := fun z => h (by rw [h1'] at z; have := Sum.inl.inj z; omega)
        rw [valV_neg ne]
        rcases memo_val n (L := L) (kvs := kvs) h2 r with ⟨v, e', h3, h4, h5, h6⟩ | ⟨h3, h4⟩
        · exact .inl ⟨v, e', h3, List.mem_cons_of_mem _ h4, h5, h6⟩
        · refine .inr ⟨h3, fun hm => ?_⟩
          rcases List.mem_cons.mp hm with z | z
          · exact h z.symm
          · exact h4 z
  | [], _ :: _, h, _ => by cases h
  | _ :: _, [], h, _ => by cases h
theorem memo_map (n : Nat) {u : V} {y : Nat × Nat} (iu : Is Hf u (eP y)) : ∀ {L : List KE} {kvs : List (Key × V)}, KeysOf kvs L → ValsOf Hf kvs L →
    KeysOf (kvs.map fun kv => if kv.1 = Sum.inl (n : Int) then (kv.1, u) else kv) (L.map fun e => if e.1 = n then (e.1, y) else e) ∧ ValsOf Hf (kvs.map fun kv => if kv.1 = Sum.inl (n : Int) then (kv.1, u) else kv) (L.map fun e => if e.1 = n then (e.1, y) else e)
  | [], [], _, _ => ⟨rfl, .nil⟩
  | e :: L, (k, x) :: kvs, hk, hv => by
    injection hk with h1 h2
    have h1' : k = Sum.inl (e.1 : Int) := h1
    subst h1'
    cases hv with
    | cons a r =>
      obtain ⟨m1, m2⟩ := memo_map n iu (L := L) (kvs := kvs) h2 r
      have m1' := m1
      show (_ = _) ∧ IsAll Hf _ _
      by_cases h : e.1 = n
      · subst h
        simp only [List.map_cons, if_true]
        exact ⟨congrArg _ m1, .cons iu m2⟩
      · have ne : ¬ (Sum.inl (e.1 : Int) : Key) = Sum.inl (n : Int) := fun z => h (by have := Sum.inl.inj z; omega)
        simp only [List.map_cons, if_neg h, if_neg ne]
        exact ⟨congrArg _ m1, .cons a m2⟩
  | [], _ :: _, h, _ => by cases h
  | _ :: _, [], h, _ => by cases h
theorem valV_map (k : Key) (u : V) : ∀ kvs : List (Key × V), (valV kvs k).isSome = true → valV (kvs.map fun kv => if kv.1 = k then (kv.1, u) else kv) k = some u
  | [], h => by cases h
  | (j, x) :: kvs, h => by
    rw [List.map_cons]
    by_cases e : j = k
    · rw [if_pos e]
      exact valV_pos e
    · rw [if_neg e, valV_neg e]
      rw [valV_neg e] at h
      exact valV_map k u kvs h
theorem valV_snoc (k : Key) (u : V) : ∀ kvs : List (Key × V), valV kvs k = none → valV (kvs ++ [(k, u)]) k = some u
  | [], h => valV_pos rfl
  | (j, x) :: kvs, h => by
    by_cases e : j = k
    · rw [valV_pos (p := (j, x)) e] at h
      cases h
    · rw [valV_neg (p := (j, x)) e] at h
      rw [List.cons_append, valV_neg e]
      exact valV_snoc k u kvs h
/-- the dict behind d[n] = u -/
theorem memo_put {n : Nat} {u : V} {y : Nat × Nat} (iu : Is Hf u (eP y)) {L : List KE} {kvs : List (Key × V)} (hk : KeysOf kvs L) (hv : ValsOf Hf kvs L) (nd : (L.map (·.1)).Nodup) {Good : Nat → Nat × Nat → Prop} (g : ∀ e ∈ L, Good e.1 e.2) (gy : Good n y) :
    valV (putK kvs (Sum.inl (n : Int)) u) (Sum.inl (n : Int)) = some u ∧ ∃ L' : List KE, KeysOf (putK kvs (Sum.inl (n : Int)) u) L' ∧ ValsOf Hf (putK kvs (Sum.inl (n : Int)) u) L' ∧ (L'.map (·.1)).Nodup ∧ ∀ e ∈ L', Good e.1 e.2 := by
  rcases memo_val n hk hv with ⟨v, e, h1, h2, h3, h4⟩ | ⟨h1, h2⟩
  · have hs : (kvs.any fun kv => decide (kv.1 = Sum.inl (n : Int))) = true := by rw [valV_any, h1]; rfl
    have e0 : putK kvs (Sum.inl (n : Int)) u = kvs.map (fun kv => if kv.1 = Sum.inl (n : Int) then (kv.1, u) else kv) := by unfold putK; rw [if_pos hs]
    obtain ⟨m1, m2⟩ := memo_map n iu hk hv
    rw [e0]
    refine ⟨valV_map _ u kvs (by rw [h1]; rfl), _, m1, m2, ?_, fun e' he' => ?_⟩
    · rw [List.map_map]
      have : ((fun e : KE => e.1) ∘ fun e : KE => if e.1 = n then (e.1, y) else e) = fun e => e.1 := by
        funext e
        show (if e.1 = n then (e.1, y) else e).1 = e.1
        split <;> rfl
      rw [this]
      exact nd
    · obtain ⟨e2, he2, rfl⟩ := List.mem_map.mp he'
      split
      · rename_i h
        rw [h]
        exact gy
      · exact g e2 he2
  · have hs : ¬ (kvs.any fun kv => decide (kv.1 = Sum.inl (n : Int))) = true := by rw [valV_any, h1]; decide
    have e0 : putK kvs (Sum.inl (n : Int)) u = kvs ++ [(Sum.inl (n : Int), u)] := by unfold putK; rw [if_neg hs]
    rw [e0]
    refine ⟨valV_snoc _ u kvs h1, L ++ [(n, y)], ?_, ?_, ?_, fun e' he' => ?_⟩
    · show _ = _
      rw [List.map_append, List.map_append, List.map_append, show kvs.map (·.1) = _ from hk]
      rfl
    · show IsAll Hf _ _
      rw [List.map_append, List.map_append, List.map_append]
      exact hv.append (.cons iu .nil)
    · rw [List.map_append, List.nodup_append]
      refine ⟨nd, by simp, fun a ha b hb => ?_⟩
      have hb' : b = n := by simpa using hb
      rw [hb']
      exact fun z => h2 (z ▸ ha)
    · rcases List.mem_append.mp he' with h | h
      · exact g e' h
      · rw [List.mem_singleton.mp h]
        exact gy
end
section
variable {P : Proto} {W : Addr → Prop} {Hf0 H0 Hf H : Hp} {Γ : En} {Ω : Ow} {σ : St} {S : D → Prop} {te tv : TE} {ts : TS} {po : Po} {K : PySem.W.Frag}
/-- a cell of the protocol written -/
theorem At.pwrite {D : Addr} {o : HO} (c : At P W Hf0 H0 Γ Ω σ Hf H) (hM : P.M D) (nt : ∀ xs, o ≠ .tup xs) (pr : P.Pr Hf (upd H D o)) : At P W Hf0 H0 Γ Ω σ Hf (upd H D o) := by
  obtain ⟨n, h⟩ := P.dom Hf H D c.pr hM
  refine ⟨⟨c.step.fr, fun x u e => ?_, c.step.new, fun x u hm hw e => ?_, fun x e => ?_, fun x k => ?_, pr⟩, c.fits, fun q d hm => ?_, c.nd⟩
  · rw [upd_ne (ne_of_none e n)]; exact c.sub x u e
  · have nx : x ≠ D := fun z => hm (z ▸ hM)
    rw [upd_ne nx]; exact c.step.keep x u hm hw e
  · by_cases q : x = D
    · subst q; rw [upd_same]; exact fun z => nomatch z
    · rw [upd_ne q]; exact c.step.dom x e
  · by_cases q : x = D
    · subst q; exact ⟨o, upd_same, nt⟩
    · obtain ⟨u, e, z⟩ := c.step.ntk x k
      exact ⟨u, by rw [upd_ne q]; exact e, z⟩
  · obtain ⟨a, b, m, w⟩ := c.own q d hm
    have nq : q ≠ D := fun z => m (z ▸ hM)
    exact ⟨a.mono (Same.refl _) (upd_ne nq), b, m, w⟩
/-- if n not in d: x; return d[n] -/
theorem st_memo {D : Addr} {Good : Nat → Nat × Nat → Prop} {ik il n : Nat} {x : TS} (hk : Γ[ik]? = some (some (.ref D))) (hl : Γ[il]? = some (some (eN n))) (h : StS (PK D Good) W x Γ Ω po) (k : ∀ v, Good n v → po.R (eP v) Ω) :
    StS (PK D Good) W (tIfS (tB (tDNotIn (tVar il) (tVar ik))) x (tSeq tNext (tRet (tDGet (tVar ik) (tVar il))))) Γ Ω po := fun _ _ _ Hf H c De hn hr hb hc => by
  obtain ⟨v1, s1, r1⟩ := c.fits.2 il _ hl
  obtain ⟨v2, s2, r2⟩ := c.fits.2 ik _ hk
  cases r1; cases r2
  obtain ⟨nf, L, ⟨kvs, eD, hkk, hvv⟩, nd, g⟩ := c.pr
  refine ⟨_, s1, _, s2, D, _, rfl, DGet.k (k := Sum.inl (n : Int)) eD, _, rfl, ?_⟩
  rcases memo_val n hkk hvv with ⟨v, e, h1, h2, h3, h4⟩ | ⟨h1, h2⟩
  · rw [h1]
    refine (if_neg (c := (!(some v).isSome) = true) (fun z => by cases z)).mpr ?_
    refine ⟨_, s2, _, s1, D, v, rfl, ?_, ?_⟩
    · rw [← h1]
      exact DGet.k (k := Sum.inl (n : Int)) eD
    · exact hr v _ _ _ _ _ _ (k e.2 (h3 ▸ g e h2)) c h4
  · rw [h1]
    refine (if_pos (c := (!(none : Option V).isSome) = true) rfl).mpr ?_
    exact h c De hn hr hb hc
/-- d[n] = v; return d[n] -/
theorem st_putget {D : Addr} {Good : Nat → Nat × Nat → Prop} {ik il n : Nat} (hk : Γ[ik]? = some (some (.ref D))) (hl : Γ[il]? = some (some (eN n))) (hv : EvS (PK D Good) tv Γ Ω (fun d => ∃ y, Good n y ∧ d = eP y))
    (few : ∀ L : List KE, (L.map (·.1)).Nodup → (∀ e ∈ L, Good e.1 e.2) → L.length < 16777216) (k : ∀ v, Good n v → po.R (eP v) Ω) :
    StS (PK D Good) W (tSeq (sDPut (tVar ik) (tVar il) tv) (tRet (tDGet (tVar ik) (tVar il)))) Γ Ω po := fun _ _ _ Hf H c De hn hr hb hc => by
  refine hv c _ fun u Hf2 H2 d ⟨y, gy, e⟩ s i => ?_
  subst e
  have c2 := c.mono s
  obtain ⟨v1, s1, r1⟩ := c2.fits.2 il _ hl
  obtain ⟨v2, s2, r2⟩ := c2.fits.2 ik _ hk
  cases r1; cases r2
  obtain ⟨nf, L, ⟨kvs, eD, hkk, hvv⟩, nd, g⟩ := id c2.pr
  obtain ⟨p1, L', p2, p3, p4, p5⟩ := memo_put i hkk hvv nd g gy
  have hlen : kvs.length = L.length := by
    have := congrArg List.length hkk
    simpa using this
  have c3 := c2.pwrite (D := D) (o := .dK (putK kvs (Sum.inl (n : Int)) u)) rfl (fun xs z => by cases z) ⟨nf, L', ⟨_, upd_same, p2, p3⟩, p4, p5⟩
  refine ⟨_, s2, _, s1, D, _, rfl, DPut.k (k := Sum.inl (n : Int)) eD (lineLt (by rw [hlen]; exact few L nd g)), _, s2, _, s1, D, u, rfl, ?_, ?_⟩
  · rw [← p1]
    exact DGet.k (k := Sum.inl (n : Int)) upd_same
  · exact hr u _ _ _ _ _ _ (k y gy) c3 i
theorem if_seq {T : TT} {x r : TS} : tSeq (tIfS T x tNext) r = tIfS T (tSeq x r) (tSeq tNext r) := rfl
theorem seq_seq {x y r : TS} : tSeq (tSeq x y) r = tSeq x (tSeq y r) := rfl
/-- a, b = [], [] -/
theorem q_twoNew {i j : Nat} (k : ∀ p q, StS P W ts ((Γ.set i (some (.ref p))).set j (some (.ref q))) ((q, .lst []) :: (p, .lst []) :: Ω) po) :
    StS P W (tSeq (tPar i j (tCons (tLst tNil) (tCons (tLst tNil) tNil))) ts) Γ Ω po := fun _ _ _ Hf H c De hn hr hb hc => by
  refine ⟨Nat.zero_le _, fun p hp => ⟨Nat.zero_le _, fun q hq => ⟨_, _, rfl, ?_⟩⟩⟩
  have c1 := c.newOwn (oc := .lst []) hp ⟨[], upd_same, .nil⟩
  have c2 := c1.newOwn (oc := .lst []) hq ⟨[], upd_same, .nil⟩
  exact k p q ((c2.set (.ref p)).set (.ref q)) De hn hr hb hc
theorem ints_nat (ns : List Nat) {xs : List V} (r : IsAll Hf xs (ns.map eN)) : xs = (ns.map fun n : Nat => (n : Int)).map V.int := by
  rw [eN_map] at r
  exact r.ints
theorem max_there : ∀ ns : List Nat, ns ≠ [] → ∃ m ∈ ns, ∀ y ∈ ns, y ≤ m
  | [], h => absurd rfl h
  | [n], _ => ⟨n, List.mem_cons_self, fun y hy => by rw [List.mem_singleton.mp hy]; exact Nat.le_refl _⟩
  | n :: k :: r, _ => by
    obtain ⟨m, hm, hy⟩ := max_there (k :: r) (by simp)
    by_cases h : n ≤ m
    · exact ⟨m, List.mem_cons_of_mem _ hm, fun y h2 => by
        rcases List.mem_cons.mp h2 with e | h2
        · rw [e]; exact h
        · exact hy y h2⟩
    · exact ⟨n, List.mem_cons_self, fun y h2 => by
        rcases List.mem_cons.mp h2 with e | h2
        · rw [e]; exact Nat.le_refl _
        · exact Nat.le_trans (hy y h2) (by omega)⟩
theorem min_there : ∀ ns : List Nat, ns ≠ [] → ∃ m ∈ ns, ∀ y ∈ ns, m ≤ y
  | [], h => absurd rfl h
  | [n], _ => ⟨n, List.mem_cons_self, fun y hy => by rw [List.mem_singleton.mp hy]; exact Nat.le_refl _⟩
  | n :: k :: r, _ => by
    obtain ⟨m, hm, hy⟩ := min_there (k :: r) (by simp)
    by_cases h : m ≤ n
    · exact ⟨m, List.mem_cons_of_mem _ hm, fun y h2 => by
        rcases List.mem_cons.mp h2 with e | h2
        · rw [e]; exact h
        · exact hy y h2⟩
    · exact ⟨n, List.mem_cons_self, fun y h2 => by
        rcases List.mem_cons.mp h2 with e | h2
        · rw [e]; exact Nat.le_refl _
        · exact Nat.le_trans (by omega) (hy y h2)⟩
theorem c_maxL {ns : List Nat} (hn : ns ≠ []) : CaS P (rMax K) [nL ns] (fun d => ∃ m : Nat, m ∈ ns ∧ (∀ y ∈ ns, y ≤ m) ∧ d = eN m) := fun _ _ _ s p ia Q q => by
  obtain ⟨v, rfl, i⟩ := ia.one_inv
  obtain ⟨a, xs, rfl, e, r⟩ := i.lst_inv
  have hx := ints_nat ns r
  subst hx
  refine ⟨a, _, rfl, SqL.of (s _ _ e), by rw [List.length_map]; exact List.length_pos_iff.mpr hn, fun m hm hy => ?_⟩
  obtain ⟨k, hk, rfl⟩ := List.mem_map.mp hm
  exact q _ _ _ (eN k) ⟨k, hk, fun y h => by have := hy (y : Int) (List.mem_map.mpr ⟨y, h, rfl⟩); omega, rfl⟩ (StepW.refl s p) (.int _)
theorem c_minL {ns : List Nat} (hn : ns ≠ []) : CaS P (rMin K) [nL ns] (fun d => ∃ m : Nat, m ∈ ns ∧ (∀ y ∈ ns, m ≤ y) ∧ d = eN m) := fun _ _ _ s p ia Q q => by
  obtain ⟨v, rfl, i⟩ := ia.one_inv
  obtain ⟨a, xs, rfl, e, r⟩ := i.lst_inv
  have hx := ints_nat ns r
  subst hx
  refine ⟨a, _, rfl, SqL.of (s _ _ e), by rw [List.length_map]; exact List.length_pos_iff.mpr hn, fun m hm hy => ?_⟩
  obtain ⟨k, hk, rfl⟩ := List.mem_map.mp hm
  exact q _ _ _ (eN k) ⟨k, hk, fun y h => by have := hy (y : Int) (List.mem_map.mpr ⟨y, h, rfl⟩); omega, rfl⟩ (StepW.refl s p) (.int _)
theorem c_max2N {a b : Nat} : CaS P rMax2' [eN a, eN b] (fun x => x = eN (max a b)) := fun _ _ _ s p ia Q q => c_max2 s p ia Q fun v Hf2 H2 d e => q v Hf2 H2 d (by
  rw [e]
  split
  · rw [Nat.max_eq_right (by omega)]
  · rw [Nat.max_eq_left (by omega)])
theorem o_andN {a b : Nat} : OpS P (rI0 fun i j => .int (Builtin.bitAnd i j)) (eN a) (eN b) (fun x => x = eN (a &&& b)) := by
  have h := o_and (P := P) (i := (a : Int)) (j := (b : Int))
  rw [PySem.W.os_band] at h
  exact h
theorem StepW.fromK {D : Addr} {Good : Nat → Nat × Nat → Prop} {Hfa Ha Hfb Hb : Hp} (s : StepW (PK D Good) W Hfa Ha Hfb Hb) (h : Ha D = none) : StepW P0 W Hfa Ha Hfb Hb :=
  ⟨s.fr, s.sub, s.new, fun a o _ w e => s.keep a o (fun z => by
    have z' : a = D := z
    rw [z', h] at e
    cases e) w e, s.dom, s.ntk, trivial⟩
theorem At.fromK {D : Addr} {Good : Nat → Nat × Nat → Prop} (c : At (PK D Good) W Hf0 H0 Γ Ω σ Hf H) (h : H0 D = none) : At P0 W Hf0 H0 Γ Ω σ Hf H :=
  ⟨c.step.fromK h, c.fits, fun p oc hm => let ⟨a, b, _, w⟩ := c.own p oc hm; ⟨a, b, fun z => z, w⟩, c.nd⟩
/-- d = {}: from here on a memo -/
theorem q_memoNew {i : Nat} (Good : Nat → Nat × Nat → Prop) {R : D → Prop} (k : ∀ D, StS (PK D Good) NoW ts (Γ.set i (some (.ref D))) [] { N := fun _ _ => False, R := fun d _ => R d }) :
    StS P0 NoW (tSeq (tAsg tDNewK (gName i)) ts) Γ [] { N := fun _ _ => False, R := fun d _ => R d } := fun Hf0 H0 _ Hf H c De hn hr hb hc => by
  intro D hD
  have h0 : H0 D = none := by
    cases e : H0 D with
    | none => rfl
    | some u => exact absurd hD (c.step.dom D (by rw [e]; exact fun z => nomatch z))
  have s1 := Step.own (P := P0) (o := .dK []) c.sub trivial hD
  have c1 := c.mono s1
  have c2 : At (PK D Good) NoW Hf0 H0 Γ [] _ Hf (upd H D (.dK [])) := ⟨⟨c1.step.fr, c1.step.sub, c1.step.new, fun a o m w e => c1.step.keep a o (fun z => z) w e, c1.step.dom, c1.step.ntk, c.sub.free hD, [], ⟨[], upd_same, rfl, .nil⟩, List.nodup_nil, fun e he => (by cases he)⟩, c1.fits, fun p oc hm => (by cases hm), List.nodup_nil⟩
  exact k D (c2.set (.ref D)) De (fun _ _ _ _ _ z => z.elim) (fun v G O σ' Hf' H' d z c' => hr v G O σ' Hf' H' d z (c'.fromK h0)) (fun _ _ _ _ _ z => z.elim) (fun _ _ _ _ _ z => z.elim)
end
end DL
set_option Elab.async false
set_option linter.all false
set_option autoImplicit false
set_option maxRecDepth 100000
set_option maxHeartbeats 4000000
/-! B1: the program's checks. -/
namespace EV
open L2 PySem DL
open PyProof.Rows (boot_any boot_all boot_sum boot_max boot_min boot_sorted boot_int boot_bool boot_tuple boot_list boot_set boot_str)
def top (i : Nat) : Stmt := PySem.Challenge.pw_evenorders_k70_whole_most_asks_by_all_ga.main.body.getD i (.Pass ⟨0, 0, 0, 0⟩)
/-- the built-in names still stand for what they are -/
structure Bl (mg : Str → Option Value) : Prop where
  len : mg "len" = none
  isinstance : mg "isinstance" = none
  range : mg "range" = none
  any : mg "any" = none
  all : mg "all" = none
  sum : mg "sum" = none
  max : mg "max" = none
  min : mg "min" = none
  sorted : mg "sorted" = none
  enumerate : mg "enumerate" = none
  int_ : mg "int" = none
  bool_ : mg "bool" = none
  tuple_ : mg "tuple" = none
  list_ : mg "list" = none
  set_ : mg "set" = none
theorem hr65 {k : Nat} {A : Around} (r : Room k A) : A.units + 65 < cLine := by have := r.un; omega
abbrev st_is_integer : Stmt := top 4
theorem sc_is_integer : FnScope ["thing"] ["thing"] (defScope st_is_integer) := ⟨rfl, rfl, rfl, by decide +kernel, rfl, by decide +kernel, by decide +kernel⟩
abbrev st_is_within : Stmt := top 5
theorem sc_is_within : FnScope ["thing", "least", "most"] ["thing", "least", "most"] (defScope st_is_within) := ⟨rfl, rfl, rfl, by decide +kernel, rfl, by decide +kernel, by decide +kernel⟩
abbrev st_is_pair : Stmt := top 6
theorem sc_is_pair : FnScope ["thing"] ["thing"] (defScope st_is_pair) := ⟨rfl, rfl, rfl, by decide +kernel, rfl, by decide +kernel, by decide +kernel⟩
abbrev st_is_ascending : Stmt := top 7
theorem sc_is_ascending : FnScope ["items", "at"] ["items"] (defScope st_is_ascending) := ⟨rfl, rfl, rfl, by decide +kernel, rfl, by decide +kernel, by decide +kernel⟩
abbrev st_are_names : Stmt := top 8
theorem sc_are_names : FnScope ["many", "thing", "name"] ["many", "thing"] (defScope st_are_names) := ⟨rfl, rfl, rfl, by decide +kernel, rfl, by decide +kernel, by decide +kernel⟩
section
variable {P : Program} {w : World} {K : PySem.W.Frag} {mg : Str → Option Value} {base : Heap}
/-! is_integer, is_within of ints -/
def a_int (i : Int) : List D := [.int i]
def p_int (i : Int) (d : D) : Prop := d = .bl true
theorem ok_is_integer (B : Bl mg) (G : GF K mg "is_integer" st_is_integer ["thing"]) : Can P w K mg base "is_integer" 1 ["thing"] (spD P0 a_int p_int) := by
  refine Can.ofD G sc_is_integer (fun _ => rfl) fun f cdv A outer s H E hr => ?_
  refine ⟨_, (pss_one (ps_ret (pe_and (pe_callB call_isi (by rfl) B.isinstance PyProof.Rows.boot_isinstance (pa_cons (pv 0) (pa_cons (pe_bltn (v := .ty "int") (by rfl) B.int_ boot_int rfl) pa_nil))) (pe_one (pe_not (pe_callB call_isi (by rfl) B.isinstance PyProof.Rows.boot_isinstance (pa_cons (pv 0) (pa_cons (pe_bltn (v := .ty "bool") (by rfl) B.bool_ boot_bool rfl) pa_nil)))))))), fun i => ?_⟩
  refine st_ret (ev_andV (x := true) (y := true) (ev_cb2 (ev_var rfl) ev_ty (c_isi rfl kit_int_int)) fun _ => ?_) fun _ e => e
  exact ev_notV (x := false) (ev_cb2 (ev_var rfl) ev_ty (c_isi rfl kit_int_bool))
def a_within (i : Int × Int × Int) : List D := [.int i.1, .int i.2.1, .int i.2.2]
def p_within (i : Int × Int × Int) (d : D) : Prop := d = .bl (decide (i.2.1 ≤ i.1) && decide (i.1 ≤ i.2.2))
theorem ok_is_within (B : Bl mg) (G : GF K mg "is_within" st_is_within ["thing", "least", "most"]) (c_is_integer : Can P w K mg base "is_integer" 1 ["thing"] (spD P0 a_int p_int)) :
    Can P w K mg base "is_within" 2 ["thing", "least", "most"] (spD P0 a_within p_within) := by
  refine Can.ofD G sc_is_within (fun _ => rfl) fun f cdv A outer s H E hr => ?_
  refine ⟨_, (pss_one (ps_ret (pe_and (pe_can (c_is_integer.up (by decide)) hr (by rfl) (pa_cons (pv 0) pa_nil)) (pe_one (pe_chain op_le op_le (pv 1) (pv 0) (pv 2)))))), fun i => ?_⟩
  obtain ⟨t, l, m⟩ := i
  refine st_ret (ev_andV (x := true) (y := decide (l ≤ t) && decide (t ≤ m)) (ev_callD (Proto.Le.refl _) t (ea_1 (ev_var rfl))) fun _ => ?_) fun _ e => e
  exact ev_chain (ev_var rfl) (ev_var rfl) o_cmp (fun _ => ev_var rfl) fun _ => o_cmp
/-! is_pair of tuples -/
def a_tup (l : List D) : List D := [.tup l]
def p_pair (l : List D) (d : D) : Prop := d = .bl (decide ((l.length : Int) = 2))
theorem ok_is_pair (B : Bl mg) (G : GF K mg "is_pair" st_is_pair ["thing"]) : Can P w K mg base "is_pair" 1 ["thing"] (spD P0 a_tup p_pair) := by
  refine Can.ofD G sc_is_pair (fun _ => rfl) fun f cdv A outer s H E hr => ?_
  refine ⟨_, (pss_one (ps_ret (pe_and (pe_callB call_isi (by rfl) B.isinstance PyProof.Rows.boot_isinstance (pa_cons (pv 0) (pa_cons (pe_bltn (v := .ty "tuple") (by rfl) B.tuple_ boot_tuple rfl) pa_nil))) (pe_one (pe_cmpR op_eq (pe_callB cb_len (by rfl) B.len PySem.boot_len (pa_cons (pv 0) pa_nil)) (pe_int) (nomark _)))))), fun l => ?_⟩
  refine st_ret (ev_andV (x := true) (y := decide ((l.length : Int) = 2)) (ev_cb2 (ev_var rfl) ev_ty (c_isi rfl kit_tuple_tuple)) fun _ => ?_) fun _ e => e
  exact ev_op (ev_cb1 (ev_var rfl) (c_lenT (l := l))) ev_int o_eqI
end
end EV
set_option Elab.async false
set_option linter.all false
set_option autoImplicit false
set_option maxRecDepth 100000
set_option maxHeartbeats 4000000
/-! B2: names, ascending befores, closing. -/
namespace EV
open L2 PySem DL
open PyProof.Rows (boot_any boot_all boot_sum boot_max boot_min boot_sorted boot_int boot_bool boot_tuple boot_list boot_set boot_str)
abbrev st_closed : Stmt := top 11
theorem sc_closed : FnScope ["many", "pairs", "found", "pair", "middle", "one", "other", "name"] ["many", "pairs"] (defScope st_closed) := ⟨rfl, rfl, rfl, by decide +kernel, rfl, by decide +kernel, by decide +kernel⟩
abbrev st_are_befores : Stmt := top 12
theorem sc_are_befores : FnScope ["many", "thing", "pair"] ["many", "thing"] (defScope st_are_befores) := ⟨rfl, rfl, rfl, by decide +kernel, rfl, by decide +kernel, by decide +kernel⟩
abbrev Pr := Nat × Nat
section
variable {P : Program} {w : World} {K : PySem.W.Frag} {mg : Str → Option Value} {base : Heap}
/-! is_ascending of pairs -/
abbrev AscI := { l : List Pr // l.Pairwise DL.plt ∧ l.length < 1000 }
def a_asc (i : AscI) : List D := [pT i.1]
def p_yes {ι : Type} (_ : ι) (d : D) : Prop := d = .bl true
theorem asc_at {l : List Pr} (h : l.Pairwise DL.plt) {k : Nat} (hk : k + 1 < l.length) : ∃ p q, l[k]? = some p ∧ l[k + 1]? = some q ∧ DL.plt p q := by
  refine ⟨l[k], l[k + 1], List.getElem?_eq_getElem _, List.getElem?_eq_getElem _, ?_⟩
  exact List.pairwise_iff_getElem.mp h k (k + 1) (by omega) hk (by omega)
theorem ok_is_ascending (B : Bl mg) (G : GF K mg "is_ascending" st_is_ascending ["items"]) : Can P w K mg base "is_ascending" 1 ["items"] (spD P0 a_asc p_yes) := by
  refine Can.ofD G sc_is_ascending (fun _ => rfl) fun f cdv A outer s H E hr => ?_
  refine ⟨_, (pss_one (ps_ret (pe_callB (KV.cr_all K rfl) (by rfl) B.all boot_all (pa_cons (pe_lc (own := [("at", 1)]) rfl sc_is_ascending.nd (pi_range2 (by rfl) B.range (pa_cons (pe_int) (pa_cons (pe_callB (KV.cb_len K) (by rfl) B.len PySem.boot_len (pa_cons (pv 0) pa_nil)) pa_nil))) (blkOk_by (N := ["items", "at"]) (sc := defScope st_is_ascending) (by decide +kernel)) (fun _ _ _ _ _ => (pg_name (i := 1) sc_is_ascending.nd rfl (by first | exact Or.inl rfl | exact Or.inr rfl))) (fun _ _ _ _ _ => pts_nil) (fun _ _ _ _ _ => (pe_cmpR (KV.op_ltT K hr.units0) (pe_ix (KV.ix_tup K) (pv 0) (pe_op op_sub (pv 1) (pe_int)) (fun _ _ => rfl)) (pe_ix (KV.ix_tup K) (pv 0) (pv 1) (fun _ _ => rfl)) (nomark _)))) pa_nil)))), fun i => ?_⟩
  obtain ⟨l, h, hl⟩ := i
  have hlen : (l.map eP).length = l.length := List.length_map ..
  refine st_ret (ev_cb1 (ev_lcMap (List.range' 1 (l.length - 1)) eN (fun _ => D.bl true) (src_rangeF (lo := 1) (ea_2 ev_int (ev_cb1 (ev_var rfl) (c_lenTM (xs := l) (f := eP)))) (by decide) (by omega)) (by rw [List.length_range']; omega) fun i x hx => ⟨_, gv_name List.mem_cons_self, ?_⟩) (c_allM (g := fun _ => true))) fun d e => ?_
  · have hm := List.mem_of_getElem? hx
    rw [List.mem_range'_1] at hm
    obtain ⟨k, rfl⟩ : ∃ k, x = k + 1 := ⟨x - 1, by omega⟩
    obtain ⟨p, q, e1, e2, lt⟩ := asc_at h (k := k) (by omega)
    refine Ev.is (ev_op (ev_op (ev_var rfl) (ev_op (ev_var rfl) (ev_N (n := 1)) (o_subN (Nat.le_add_left 1 k))) (o_ixT (l := l.map eP) (n := k) (d := eP p) (by rw [List.getElem?_map, e1]; rfl))) (ev_op (ev_var rfl) (ev_var rfl) (o_ixT (l := l.map eP) (n := k + 1) (d := eP q) (by rw [List.getElem?_map, e2]; rfl))) o_ltP) (by rw [decide_eq_true lt])
  · rw [e]; simp [p_yes]
/-! are_names of tuples of names -/
abbrev NamI := { i : Nat × List Nat // i.2.length < 1000 }
def a_names (i : NamI) : List D := [eN i.1.1, nT i.1.2]
def p_names (i : NamI) (d : D) : Prop := d = .bl (i.1.2.all (fun x => decide (x < i.1.1)) && decide i.1.2.Nodup)
theorem ok_are_names (B : Bl mg) (G : GF K mg "are_names" st_are_names ["many", "thing"]) (c_is_within : Can P w K mg base "is_within" 2 ["thing", "least", "most"] (spD P0 a_within p_within)) :
    Can P w K mg base "are_names" 3 ["many", "thing"] (spD P0 a_names p_names) := by
  refine Can.ofD G sc_are_names (fun _ => rfl) fun f cdv A outer s H E hr => ?_
  refine ⟨_, (pss_cons (ps_if (PW.pt (pw_or (pt_not (pt_val (pe_callB (KV.call_isi K) (by rfl) B.isinstance PyProof.Rows.boot_isinstance (pa_cons (pv 1) (pa_cons (pe_bltn (v := .ty "tuple") (by rfl) B.tuple_ boot_tuple rfl) pa_nil))))) (pw_or1 (pt_not (pt_val (pe_callB (KV.cr_all K rfl) (by rfl) B.all boot_all (pa_cons (pe_lc (own := [("name", 2)]) rfl sc_are_names.nd (KV.pi_tup K (pv 1)) (blkOk_by (N := ["many", "thing", "name"]) (sc := defScope st_are_names) (by decide +kernel)) (fun _ _ _ _ _ => (pg_name (i := 2) sc_are_names.nd rfl (by first | exact Or.inl rfl | exact Or.inr rfl))) (fun _ _ _ _ _ => pts_nil) (fun _ _ _ _ _ => (pe_can (c_is_within.up (by decide)) hr (by rfl) (pa_cons (pv 2) (pa_cons (pe_int) (pa_cons (pe_op op_sub (pv 0) (pe_int)) pa_nil)))))) pa_nil))))))) (pss_one (ps_ret (pe_bl))) pss_nil)
      (pss_one (ps_ret (pe_cmpR op_eq (pe_callB cb_lenD (by rfl) B.len PySem.boot_len (pa_cons (pe_dc (own := [("name", 2)]) rfl sc_are_names.nd (KV.pi_tup K (pv 1)) (blkOk_by (N := ["many", "thing", "name"]) (sc := defScope st_are_names) (by decide +kernel)) (fun _ _ _ _ _ => (pg_name (i := 2) sc_are_names.nd rfl (by first | exact Or.inl rfl | exact Or.inr rfl))) (fun _ _ _ _ _ => pts_nil) (fun _ _ _ _ _ => (pv 2)) (fun _ _ _ _ _ => (pe_bl))) pa_nil)) (pe_callB (KV.cb_len K) (by rfl) B.len PySem.boot_len (pa_cons (pv 1) pa_nil)) (nomark _))))), fun i => ?_⟩
  obtain ⟨⟨n, ns⟩, hl⟩ := i
  have hl : ns.length < 1000 := hl
  refine q_if (x := !true || !(ns.all fun x => decide (x < n))) (et_or (et_not (et_B (ev_cb2 (ev_var rfl) ev_ty (c_isi rfl kit_tuple_tuple)))) fun _ => et_not (et_B (ev_cb1 (ev_lcMap ns eN (fun x => D.bl (decide (x < n))) (src_tup (ev_var rfl)) (by omega) fun i x hx => ⟨_, gv_name List.mem_cons_self, ?_⟩) c_allM))) (fun e => st_ret ev_bl fun d hd => ?_) fun e => st_ret (S := fun d => d = D.bl (decide ns.Nodup)) ?_ fun d hd => ?_
  · refine EvS.imp (ev_callD (Proto.Le.refl _) ((x : Int), (0 : Int), (n : Int) - 1) (ea_cons (ev_var rfl) (ea_2 ev_int (ev_op (ev_var rfl) ev_int o_sub)))) fun d hd => ?_
    rw [hd]
    show D.bl (decide ((0 : Int) ≤ (x : Int)) && decide ((x : Int) ≤ (n : Int) - 1)) = _
    rw [decide_eq_true (by omega), Bool.true_and]
    exact congrArg D.bl (decide_eq_decide.mpr (by omega))
  · rw [hd]
    have e' : (ns.all fun x => decide (x < n)) = false := by simpa using e
    show D.bl false = D.bl ((ns.all fun x => decide (x < n)) && _)
    rw [e', Bool.false_and]
  · have src : Src P0 (iTup K (tVar 1)) (entry 3 [eN n, nT ns]) [] ((ns.map fun k : Nat => (k : Int)).map D.int) := by
      rw [← eN_map]; exact src_tup (ev_var rfl)
    refine EvS.imp (ev_op (ev_cb1 (ev_dcK (ns.map fun k : Nat => (k : Int)) List.mem_cons_self (show 2 < 3 by decide) src (by rw [List.length_map]; omega)) c_lenD) (ev_cb1 (ev_var rfl) (c_lenT (l := ns.map eN))) o_eqI) fun d hd => ?_
    rw [hd, List.length_map]
    have := addI_iff (ns.map fun k : Nat => (k : Int))
    rw [List.length_map] at this
    rw [this]
    refine congrArg D.bl (decide_eq_decide.mpr ?_)
    exact ⟨fun h => List.Pairwise.of_map _ (fun a b hne he => hne (by rw [he])) h, fun h => List.pairwise_map.mpr (h.imp fun {a b} hne he => hne (by omega))⟩
  · rw [hd]
    have e' : (ns.all fun x => decide (x < n)) = true := by simpa using e
    show _ = D.bl ((ns.all fun x => decide (x < n)) && _)
    rw [e', Bool.true_and]
/-! closed -/
structure ClI where
  n : Nat
  l : List Pr
  n8 : n ≤ 8
  len : l.length < 1000
  bd : ∀ p ∈ l, p.1 < n ∧ p.2 < n
def a_closed (i : ClI) : List D := [eN i.n, pT i.l]
def p_closed (i : ClI) (d : D) : Prop := ((∃ a, EM.tc i.l a a) ∧ d = .non) ∨ ((∀ a, ¬ EM.tc i.l a a) ∧ ∃ M : List Pr, M.Pairwise DL.plt ∧ (∀ p, p ∈ M ↔ EM.tc i.l p.1 p.2) ∧ d = pT M)
theorem ok_closed (B : Bl mg) (G : GF K mg "closed" st_closed ["many", "pairs"]) : Can P w K mg base "closed" 1 ["many", "pairs"] (spD P0 a_closed p_closed) := by
  refine Can.ofD G sc_closed (fun _ => rfl) fun f cdv A outer s H E hr => ?_
  refine ⟨_, (pss_cons (ps_set (i := 2) sc_closed.nd rfl (Or.inr rfl) (RU.pe_dcT (own := [("pair", 3)]) rfl (hr.units0) sc_closed.nd (KV.pi_tup K (pv 1)) (blkOk_by (N := ["many", "pairs", "found", "pair", "middle", "one", "other", "name"]) (sc := defScope st_closed) (by decide +kernel)) (fun _ _ _ _ _ => (pg_name (i := 3) sc_closed.nd rfl (by first | exact Or.inl rfl | exact Or.inr rfl))) (fun _ _ _ _ _ => pts_nil) (fun _ _ _ _ _ => (pv 3)) (fun _ _ _ _ _ => (pe_bl))))
      (pss_cons (ps_for PassesOwn.never rfl (pi_range1 (by rfl) B.range (pa_cons (pv 0) pa_nil)) (pg_name (i := 4) sc_closed.nd rfl (by first | exact Or.inl rfl | exact Or.inr rfl))
      (pss_one (ps_for PassesOwn.never rfl (pi_range1 (by rfl) B.range (pa_cons (pv 0) pa_nil)) (pg_name (i := 5) sc_closed.nd rfl (by first | exact Or.inl rfl | exact Or.inr rfl))
      (pss_one (ps_for PassesOwn.never rfl (pi_range1 (by rfl) B.range (pa_cons (pv 0) pa_nil)) (pg_name (i := 6) sc_closed.nd rfl (by first | exact Or.inl rfl | exact Or.inr rfl))
      (pss_one (ps_if (PW.pt (pw_and (pt_cmp (pc_din (hu_of hr) (pe_tup (pa_cons (pv 5) (pa_cons (pv 4) pa_nil))) (pv 2)) (by rfl)) (pw_and1 (pt_cmp (pc_din (hu_of hr) (pe_tup (pa_cons (pv 4) (pa_cons (pv 6) pa_nil))) (pv 2)) (by rfl))))) (pss_one (ps_dput (hu_of hr) (pv 2) (pe_tup (pa_cons (pv 5) (pa_cons (pv 6) pa_nil))) (pe_bl) rfl)) pss_nil)))))))
      (pss_cons (ps_if (pt_val (pe_callB (KV.cr_any K rfl) (by rfl) B.any boot_any (pa_cons (pe_lc (own := [("name", 7)]) rfl sc_closed.nd (pi_range1 (by rfl) B.range (pa_cons (pv 0) pa_nil)) (blkOk_by (N := ["many", "pairs", "found", "pair", "middle", "one", "other", "name"]) (sc := defScope st_closed) (by decide +kernel)) (fun _ _ _ _ _ => (pg_name (i := 7) sc_closed.nd rfl (by first | exact Or.inl rfl | exact Or.inr rfl))) (fun _ _ _ _ _ => pts_nil) (fun _ _ _ _ _ => (pe_cmp (pc_din (hu_of hr) (pe_tup (pa_cons (pv 7) (pa_cons (pv 7) pa_nil))) (pv 2)) (by rfl)))) pa_nil))) (pss_one (ps_ret (pe_non))) pss_nil)
      (pss_one (ps_ret (pe_callTy (KV.cb_tuple K) (by rfl) B.tuple_ boot_tuple (pa_cons (pe_callB (cr_sortT (d := 2) (B := 64) (by decide)) (by rfl) B.sorted boot_sorted (pa_cons (pe_callTy (cb_listT rfl) (by rfl) B.list_ boot_list (pa_cons (pv 2) pa_nil)) pa_nil)) pa_nil))))))), fun i => ?_⟩
  obtain ⟨n, l, n8, hlen, bd⟩ := i
  have lim : ∀ {L : List Pr}, L.Nodup → (∀ p ∈ L, p.1 < n ∧ p.2 < n) → L.length < 16777216 := fun nd b => by
    have := EM.pairs_bound _ nd fun p hp => ⟨Nat.lt_of_lt_of_le (b p hp).1 n8, Nat.lt_of_lt_of_le (b p hp).2 n8⟩
    omega
  refine q_dcT l List.mem_cons_self (show 3 < 8 by decide) (src_tup (ev_var rfl)) (by omega) fun p => ?_
  refine q_forK (List.range n) eN [some (eN n), some (pT l), some (.ref p), none, none, none, none, none] (src_rangeN (ea_1 (ev_var rfl)) (by omega)) (fun m O => ∃ L, O = [(p, dP L)] ∧ EM.CT n l m L) (by repeat (first | exact True.intro | refine And.intro rfl ?_)) ⟨_, rfl, EM.CT.first bd⟩ (fun m x O hx ⟨L0, eO, ct⟩ => ?_) fun O ⟨L, eO, ct⟩ => ?_
  · obtain ⟨hm, rfl⟩ := List.getElem?_eq_some_iff.mp hx
    rw [List.getElem_range] at *
    rw [List.length_range] at hm
    subst eO
    refine st_forK (List.range n) eN [some (eN n), some (pT l), some (.ref p), none, some (eN m), none, none, none] (src_rangeN (ea_1 (ev_var rfl)) (by omega)) (fun i O => ∃ L, O = [(p, dP L)] ∧ EM.CL n l L0 m (fun x y => x < i) L) (by repeat (first | exact True.intro | refine And.intro rfl ?_)) ⟨_, rfl, ct.start.imp (fun x y _ _ => iff_of_false id (Nat.not_lt_zero _)) ct.bd⟩ (fun i x O hx ⟨L1, eO, cl⟩ => ?_) fun G O kG ⟨L1, eO, cl⟩ => ⟨kG.trans' (by repeat (first | exact True.intro | refine And.intro rfl ?_)), L1, eO, cl.stop ct fun x y hx _ => by rwa [List.length_range]⟩
    obtain ⟨hi, rfl⟩ := List.getElem?_eq_some_iff.mp hx
    rw [List.getElem_range] at *
    rw [List.length_range] at hi
    subst eO
    refine st_forK (List.range n) eN [some (eN n), some (pT l), some (.ref p), none, some (eN m), some (eN i), none, none] (src_rangeN (ea_1 (ev_var rfl)) (by omega)) (fun j O => ∃ L, O = [(p, dP L)] ∧ EM.CL n l L0 m (fun x y => x < i ∨ (x = i ∧ y < j)) L) (by repeat (first | exact True.intro | refine And.intro rfl ?_)) ⟨_, rfl, cl.imp (fun x y _ _ => by show x < i ↔ _; omega) ct.bd⟩ (fun j x O hx ⟨L2, eO, cl2⟩ => ?_) fun G O kG ⟨L1, eO, cl⟩ => ⟨kG.trans' (by repeat (first | exact True.intro | refine And.intro rfl ?_)), L1, eO, cl.imp (fun x y _ hy => by rw [List.length_range]; show _ ↔ x < i + 1; omega) ct.bd⟩
    obtain ⟨hj, rfl⟩ := List.getElem?_eq_some_iff.mp hx
    rw [List.getElem_range] at *
    rw [List.length_range] at hj
    subst eO
    have hD : ∀ x y, x < n → y < n → ((x < i ∨ (x = i ∧ y < j + 1)) ↔ (x < i ∨ (x = i ∧ y < j)) ∨ (x = i ∧ y = j)) := fun x y _ _ => by omega
    refine st_if (x := decide ((i, m) ∈ L2) && decide ((m, j) ∈ L2)) (et_and (et_B (ev_inD (q := (i, m)) (ev_pair (ev_var rfl) (ev_var rfl)) (ev_var rfl))) fun _ => et_B (ev_inD (q := (m, j)) (ev_pair (ev_var rfl) (ev_var rfl)) (ev_var rfl))) (fun e => ?_) fun e => ?_
    · rw [Bool.and_eq_true] at e
      exact st_putD (q := (i, j)) (ev_var rfl) (ev_pair (ev_var rfl) (ev_var rfl)) (lim cl2.nd cl2.bd) ⟨(by repeat (first | exact True.intro | refine And.intro rfl ?_)), _, rfl, cl2.yes hi hj (of_decide_eq_true e.1) (of_decide_eq_true e.2) hD ct.bd⟩
    · exact st_next ⟨(by repeat (first | exact True.intro | refine And.intro rfl ?_)), _, rfl, cl2.no (fun z => by rw [decide_eq_true z.1, decide_eq_true z.2] at e; cases e) hD ct.bd⟩
  · rw [List.length_range] at ct
    subst eO
    refine q_if (x := (List.range n).any fun a => decide ((a, a) ∈ L)) (et_B (ev_cb1 (ev_lcMap (List.range n) eN (fun a => D.bl (decide ((a, a) ∈ L))) (src_rangeN (ea_1 (ev_var rfl)) (by omega)) (by rw [List.length_range]; omega) fun i x hx => ⟨_, gv_name List.mem_cons_self, ev_inD (q := (x, x)) (ev_pair (ev_var rfl) (ev_var rfl)) (ev_var rfl)⟩) c_anyM)) (fun e => st_ret ev_non fun d hd => ?_) fun e => ?_
    · refine .inl ⟨?_, hd⟩
      rw [List.any_eq_true] at e
      obtain ⟨a, _, ha⟩ := e
      exact ⟨a, (ct.is (a, a)).mp (of_decide_eq_true ha)⟩
    · have irr : ∀ a, ¬ EM.tc l a a := fun a ha => by
        have hm := (ct.is (a, a)).mpr ha
        have := (ct.bd _ hm).1
        rw [List.any_eq_false] at e
        exact e a (List.mem_range.mpr this) (decide_eq_true hm)
      have b8 : ∀ p ∈ L, p.1 < 8 ∧ p.2 < 8 := fun p hp => ⟨Nat.lt_of_lt_of_le (ct.bd p hp).1 n8, Nat.lt_of_lt_of_le (ct.bd p hp).2 n8⟩
      have l56 := EM.pairs_bound56 L ct.nd fun p hp => ⟨(b8 p hp).1, (b8 p hp).2, fun e => irr p.1 (by have := (ct.is p).mp hp; rwa [← e] at this)⟩
      refine st_ret (ev_cbS (ev_cb1 (ev_listD (ev_var rfl)) (c_sortedP (fun p hp => ⟨Nat.lt_of_lt_of_le (b8 p hp).1 (by decide), Nat.lt_of_lt_of_le (b8 p hp).2 (by decide)⟩) (by omega))) (S' := fun d => ∃ M : List Pr, M.Perm L ∧ M.Pairwise ple ∧ d = pT M) fun d ⟨M, pm, pw, e⟩ => ?_) fun d ⟨M, pm, pw, e⟩ => .inr ⟨irr, M, ?_, fun p => pm.mem_iff.trans (ct.is p), e⟩
      · subst e
        exact fun _ _ _ s p ia Q q => c_tupleL s p ia Q fun v Hf2 H2 d e => q v Hf2 H2 d ⟨M, pm, pw, e⟩
      · refine (pw.and (pm.nodup_iff.mpr ct.nd)).imp fun {p q} h => ?_
        obtain ⟨h1, h2⟩ := h
        unfold ple at h1
        unfold DL.plt
        have : ¬ (p.1 = q.1 ∧ p.2 = q.2) := fun e => h2 (Prod.ext e.1 e.2)
        omega
/-! are_befores of what is right -/
structure BfI where
  n : Nat
  l : List Pr
  asc : l.Pairwise DL.plt
  len : l.length < 1000
  bd : ∀ p ∈ l, p.1 < n ∧ p.2 < n ∧ p.1 ≠ p.2
def a_bf (i : BfI) : List D := [eN i.n, pT i.l]
theorem ok_are_befores (B : Bl mg) (G : GF K mg "are_befores" st_are_befores ["many", "thing"]) (c_is_pair : Can P w K mg base "is_pair" 1 ["thing"] (spD P0 a_tup p_pair))
    (c_are_names : Can P w K mg base "are_names" 3 ["many", "thing"] (spD P0 a_names p_names)) (c_is_ascending : Can P w K mg base "is_ascending" 1 ["items"] (spD P0 a_asc p_yes)) :
    Can P w K mg base "are_befores" 4 ["many", "thing"] (spD P0 a_bf p_yes) := by
  refine Can.ofD G sc_are_befores (fun _ => rfl) fun f cdv A outer s H E hr => ?_
  refine ⟨_, (pss_cons (ps_if (pt_not (pt_val (pe_callB (KV.call_isi K) (by rfl) B.isinstance PyProof.Rows.boot_isinstance (pa_cons (pv 1) (pa_cons (pe_bltn (v := .ty "tuple") (by rfl) B.tuple_ boot_tuple rfl) pa_nil))))) (pss_one (ps_ret (pe_bl))) pss_nil)
      (pss_one (ps_ret (pe_and (pe_callB (KV.cr_all K rfl) (by rfl) B.all boot_all (pa_cons (pe_lc (own := [("pair", 2)]) rfl sc_are_befores.nd (KV.pi_tup K (pv 1)) (blkOk_by (N := ["many", "thing", "pair"]) (sc := defScope st_are_befores) (by decide +kernel)) (fun _ _ _ _ _ => (pg_name (i := 2) sc_are_befores.nd rfl (by first | exact Or.inl rfl | exact Or.inr rfl))) (fun _ _ _ _ _ => pts_nil) (fun _ _ _ _ _ => (pe_and (pe_can (c_is_pair.up (by decide)) hr (by rfl) (pa_cons (pv 2) pa_nil)) (pe_one (pe_can (c_are_names.up (by decide)) hr (by rfl) (pa_cons (pv 0) (pa_cons (pv 2) pa_nil))))))) pa_nil)) (pe_one (pe_can (c_is_ascending.up (by decide)) hr (by rfl) (pa_cons (pv 1) pa_nil))))))), fun i => ?_⟩
  obtain ⟨n, l, asc, len, bd⟩ := i
  refine q_if (x := !true) (et_not (et_B (ev_cb2 (ev_var rfl) ev_ty (c_isi rfl kit_tuple_tuple)))) (fun e => by cases e) fun _ => ?_
  refine st_ret (S := fun d => d = D.bl true) (ev_andV (x := true) (y := true) ?_ fun _ => EvS.imp (ev_callD (Proto.Le.refl _) (⟨l, asc, len⟩ : AscI) (ea_1 (ev_var rfl))) fun d hd => hd) fun d hd => hd
  refine EvS.imp (ev_cb1 (ev_lcMap l eP (fun _ => D.bl true) (src_tup (ev_var rfl)) (by omega) fun i p hp => ⟨_, gv_name List.mem_cons_self, ?_⟩) (c_allM (g := fun _ => true))) fun d hd => by rw [hd]; simp
  have h := bd p (List.mem_of_getElem? hp)
  refine ev_andV (x := true) (y := true) (EvS.imp (ev_callD (Proto.Le.refl _) [eN p.1, eN p.2] (ea_1 (ev_var rfl))) fun d hd => ?_) fun _ => EvS.imp (ev_callD (Proto.Le.refl _) (⟨(n, [p.1, p.2]), show 2 < 1000 by decide⟩ : NamI) (ea_2 (ev_var rfl) (ev_var rfl))) fun d hd => ?_
  · exact hd
  · rw [hd]
    simp [h.1, h.2.1, h.2.2]
end
end EV
set_option Elab.async false
set_option linter.all false
set_option autoImplicit false
set_option maxRecDepth 100000
set_option maxHeartbeats 4000000
/-! B3: webs made; the pairs that are apart; most_asks; turned. -/
namespace EV
open L2 PySem DL
open PyProof.Rows (boot_any boot_all boot_sum boot_max boot_min boot_sorted boot_int boot_bool boot_tuple boot_list boot_set boot_str)
abbrev st_Web_keep : Stmt := inClass (top 13) 1
theorem sc_Web_keep : FnScope ["self", "many", "every", "one", "other", "name"] ["self", "many", "every"] (defScope st_Web_keep) := ⟨rfl, rfl, rfl, by decide +kernel, rfl, by decide +kernel, by decide +kernel⟩
abbrev st_Web___init__ : Stmt := inClass (top 13) 0
theorem sc_Web___init__ : FnScope ["self", "many", "befores", "every"] ["self", "many", "befores"] (defScope st_Web___init__) := ⟨rfl, rfl, rfl, by decide +kernel, rfl, by decide +kernel, by decide +kernel⟩
abbrev st_RawWeb___init__ : Stmt := inClass (top 14) 0
theorem sc_RawWeb___init__ : FnScope ["self", "many", "every"] ["self", "many", "every"] (defScope st_RawWeb___init__) := ⟨rfl, rfl, rfl, by decide +kernel, rfl, by decide +kernel, by decide +kernel⟩
abbrev st_raw_web : Stmt := top 15
theorem sc_raw_web : FnScope ["many", "every"] ["many", "every"] (defScope st_raw_web) := ⟨rfl, rfl, rfl, by decide +kernel, rfl, by decide +kernel, by decide +kernel⟩
abbrev st_is_apart : Stmt := top 16
theorem sc_is_apart : FnScope ["web", "one", "other"] ["web", "one", "other"] (defScope st_is_apart) := ⟨rfl, rfl, rfl, by decide +kernel, rfl, by decide +kernel, by decide +kernel⟩
abbrev st_pairs_apart : Stmt := top 17
theorem sc_pairs_apart : FnScope ["web", "found", "one", "other"] ["web"] (defScope st_pairs_apart) := ⟨rfl, rfl, rfl, by decide +kernel, rfl, by decide +kernel, by decide +kernel⟩
abbrev st_most_asks : Stmt := top 19
theorem sc_most_asks : FnScope ["web"] ["web"] (defScope st_most_asks) := ⟨rfl, rfl, rfl, by decide +kernel, rfl, by decide +kernel, by decide +kernel⟩
abbrev st_turned : Stmt := top 21
theorem sc_turned : FnScope ["web", "one", "other"] ["web"] (defScope st_turned) := ⟨rfl, rfl, rfl, by decide +kernel, rfl, by decide +kernel, by decide +kernel⟩
def fl4 : List Str := ["many", "befores", "ahead", "later"]
/-- the two classes of webs -/
structure WT (K : PySem.W.Frag) (C D : Addr) : Prop where
  cl : ∀ E, E = C ∨ E = D → Cls K E
  na : ∀ E, E = C ∨ E = D → ∀ f, f ∈ fl4 → NoAttr K E f
def aheadL (M : List Pr) (j : Nat) : List Nat := (M.filter fun p => decide (p.2 = j)).map (·.1)
def laterL (M : List Pr) (j : Nat) : List Nat := (M.filter fun p => decide (p.1 = j)).map (·.2)
theorem mem_ahead {M : List Pr} {i j : Nat} : i ∈ aheadL M j ↔ (i, j) ∈ M := by
  unfold aheadL
  rw [List.mem_map]
  constructor
  · rintro ⟨⟨a, b⟩, h, rfl⟩
    obtain ⟨h1, h2⟩ := List.mem_filter.mp h
    have : b = j := of_decide_eq_true h2
    subst this
    exact h1
  · exact fun h => ⟨(i, j), List.mem_filter.mpr ⟨h, decide_eq_true rfl⟩, rfl⟩
theorem mem_later {M : List Pr} {i j : Nat} : i ∈ laterL M j ↔ (j, i) ∈ M := by
  unfold laterL
  rw [List.mem_map]
  constructor
  · rintro ⟨⟨a, b⟩, h, rfl⟩
    obtain ⟨h1, h2⟩ := List.mem_filter.mp h
    have : a = j := of_decide_eq_true h2
    subst this
    exact h1
  · exact fun h => ⟨(j, i), List.mem_filter.mpr ⟨h, decide_eq_true rfl⟩, rfl⟩
abbrev fA (M : List Pr) (n : Nat) : DL.D := .lst ((List.range n).map fun j => nT (aheadL M j))
abbrev fZ (M : List Pr) (n : Nat) : DL.D := .lst ((List.range n).map fun j => nT (laterL M j))
def flds (n : Nat) (M : List Pr) : List (Str × DL.D) := putD "later" (fZ M n) (putD "ahead" (fA M n) (putD "befores" (pT M) (putD "many" (eN n) [])))
def WebR (C D : Addr) (n : Nat) (M : List Pr) : Hp → V → Prop := fun H v => ∃ E, (E = C ∨ E = D) ∧ InsR E (flds n M) H v
abbrev wD (C D : Addr) (n : Nat) (M : List Pr) : DL.D := .sem (WebR C D n M)
theorem lk_many {n : Nat} {M : List Pr} : (flds n M).lookup ("many" : Str) = some (eN n) := by
  unfold flds
  rw [lookup_putD, if_neg (by decide), lookup_putD, if_neg (by decide), lookup_putD, if_neg (by decide), lookup_putD, if_pos rfl]
theorem lk_befores {n : Nat} {M : List Pr} : (flds n M).lookup ("befores" : Str) = some (pT M) := by
  unfold flds
  rw [lookup_putD, if_neg (by decide), lookup_putD, if_neg (by decide), lookup_putD, if_pos rfl]
theorem lk_ahead {n : Nat} {M : List Pr} : (flds n M).lookup ("ahead" : Str) = some (fA M n) := by
  unfold flds
  rw [lookup_putD, if_neg (by decide), lookup_putD, if_pos rfl]
theorem lk_later {n : Nat} {M : List Pr} : (flds n M).lookup ("later" : Str) = some (fZ M n) := by
  unfold flds
  rw [lookup_putD, if_pos rfl]
section
variable {K : PySem.W.Frag} {C D : Addr} {P : Proto} {Γ : En} {Ω : Ow} {ta : TE} {n : Nat} {M : List Pr}
theorem ev_web (T : WT K C D) {f : Str} (hf : f ∈ fl4) {d : DL.D} (hl : (flds n M).lookup f = some d) (h : Ev P ta Γ Ω (wD C D n M)) : Ev P (tFld K ta f) Γ Ω d :=
  ev_fld h fun H v ⟨E, hE, a, dx, gs, e, ea, ek, r⟩ => by
    obtain ⟨u, lu, iu⟩ := ins_lookup ek r hl
    exact ⟨a, E, dx, gs, u, e, ea, T.cl E hE, T.na E hE f hf, lu, iu⟩
theorem ev_many (T : WT K C D) (h : Ev P ta Γ Ω (wD C D n M)) : Ev P (tFld K ta "many") Γ Ω (eN n) := ev_web T (by decide) lk_many h
theorem ev_befores (T : WT K C D) (h : Ev P ta Γ Ω (wD C D n M)) : Ev P (tFld K ta "befores") Γ Ω (pT M) := ev_web T (by decide) lk_befores h
theorem ev_ahead (T : WT K C D) (h : Ev P ta Γ Ω (wD C D n M)) : Ev P (tFld K ta "ahead") Γ Ω (fA M n) := ev_web T (by decide) lk_ahead h
theorem ev_later (T : WT K C D) (h : Ev P ta Γ Ω (wD C D n M)) : Ev P (tFld K ta "later") Γ Ω (fZ M n) := ev_web T (by decide) lk_later h
end
/-! keep -/
structure KpI (C D : Addr) where
  E : Addr
  p : Addr
  n : Nat
  M : List Pr
  hE : E = C ∨ E = D
  n8 : n ≤ 8
  len : M.length < 1000
section
variable {C D : Addr}
def a_keep (i : KpI C D) : List DL.D := [.ref i.p, eN i.n, pT i.M]
def r_keep (i : KpI C D) : Ow := [(i.p, .ins i.E [])]
def p_keep (i : KpI C D) (d : DL.D) (O : Ow) : Prop := d = .non ∧ O = [(i.p, .ins i.E (flds i.n i.M))]
end
section
variable {P : Program} {w : World} {K : PySem.W.Frag} {mg : Str → Option Value} {base : Heap} {C D : Addr}
abbrev spKeep (C D E : Addr) : Sp := spW P0 (ι := { i : KpI C D // i.E = E }) (fun i => a_keep i.1) (fun i => r_keep i.1) (fun i => p_keep i.1)
theorem ok_keep {E : Addr} (B : Bl mg) (T : WT K C D) (G : GM K E "keep" "Web.keep" st_Web_keep ["self", "many", "every"]) : CanM P w K mg base E "keep" 1 ["self", "many", "every"] (spKeep C D E) := by
  refine CanM.ofW G sc_Web_keep (fun _ => rfl) fun f cdv A outer s H X hr => ?_
  refine ⟨_, (pss_cons (ps_fld (pv 0) (pv 1) rfl)
      (pss_cons (ps_fld (pv 0) (pv 2) rfl)
      (pss_cons (ps_fld (pv 0) (pe_lc (own := [("name", 5)]) rfl sc_Web_keep.nd (pi_range1 (by rfl) B.range (pa_cons (pv 1) pa_nil)) (blkOk_by (N := ["self", "many", "every", "one", "other", "name"]) (sc := defScope st_Web_keep) (by decide +kernel)) (fun _ _ _ _ _ => (pg_name (i := 5) sc_Web_keep.nd rfl (by first | exact Or.inl rfl | exact Or.inr rfl))) (fun _ _ _ _ _ => pts_nil) (fun _ _ _ _ _ => (pe_callTy (KV.cb_tuple K) (by rfl) B.tuple_ boot_tuple (pa_cons (pe_lc (own := [("one", 3), ("other", 4)]) rfl sc_Web_keep.nd (KV.pi_tup K (pv 2)) (KV.blkOk_n (N := ["self", "many", "every", "one", "other", "name"]) (defScope st_Web_keep)) (fun _ _ _ _ _ => (KV.pg_tup K (n := 2) rfl (pgs_cons (pg_name (i := 3) sc_Web_keep.nd rfl (by first | exact Or.inl rfl | exact Or.inr rfl)) (pgs_cons (pg_name (i := 4) sc_Web_keep.nd rfl (by first | exact Or.inl rfl | exact Or.inr rfl)) pgs_nil)))) (fun _ _ _ _ _ => (pts_one (pt_cmpR op_eq (pv 4) (pv 5) (nomark _)))) (fun _ _ _ _ _ => (pv 3))) pa_nil)))) rfl)
      (pss_one (ps_fld (pv 0) (pe_lc (own := [("name", 5)]) rfl sc_Web_keep.nd (pi_range1 (by rfl) B.range (pa_cons (pv 1) pa_nil)) (blkOk_by (N := ["self", "many", "every", "one", "other", "name"]) (sc := defScope st_Web_keep) (by decide +kernel)) (fun _ _ _ _ _ => (pg_name (i := 5) sc_Web_keep.nd rfl (by first | exact Or.inl rfl | exact Or.inr rfl))) (fun _ _ _ _ _ => pts_nil) (fun _ _ _ _ _ => (pe_callTy (KV.cb_tuple K) (by rfl) B.tuple_ boot_tuple (pa_cons (pe_lc (own := [("one", 3), ("other", 4)]) rfl sc_Web_keep.nd (KV.pi_tup K (pv 2)) (KV.blkOk_n (N := ["self", "many", "every", "one", "other", "name"]) (defScope st_Web_keep)) (fun _ _ _ _ _ => (KV.pg_tup K (n := 2) rfl (pgs_cons (pg_name (i := 3) sc_Web_keep.nd rfl (by first | exact Or.inl rfl | exact Or.inr rfl)) (pgs_cons (pg_name (i := 4) sc_Web_keep.nd rfl (by first | exact Or.inl rfl | exact Or.inr rfl)) pgs_nil)))) (fun _ _ _ _ _ => (pts_one (pt_cmpR op_eq (pv 3) (pv 5) (nomark _)))) (fun _ _ _ _ _ => (pv 4))) pa_nil)))) rfl))))), fun i => ?_⟩
  obtain ⟨⟨E', p, n, M, hE, n8, len⟩, _⟩ := i
  have hl : ∀ {a b c d : DL.D}, (putD "ahead" a (putD "befores" b (putD "many" c []))).length < 1000 ∧ (putD "befores" b (putD "many" c [])).length < 1000 ∧ (putD "many" c []).length < 1000 := fun {a b c d} => by
    have h1 := putD_len (f := "many") (d := c) (fs := [])
    have h2 := putD_len (f := "befores") (d := b) (fs := putD "many" c [])
    have h3 := putD_len (f := "ahead") (d := a) (fs := putD "befores" b (putD "many" c []))
    rw [List.length_nil] at h1
    omega
  refine q_fld (S := fun d => d = eN n) (ev_var rfl) (ev_var rfl) (T.cl _ hE) (T.na _ hE _ (by decide)) (by show 0 < 1000; decide) fun d e => ?_
  subst e
  refine q_fld (S := fun d => d = pT M) (ev_var rfl) (ev_var rfl) (T.cl _ hE) (T.na _ hE _ (by decide)) (hl (a := .non) (b := .non) (d := .non)).2.2 fun d e => ?_
  subst e
  refine q_fld (S := fun d => d = fA M n) ?_ (ev_var rfl) (T.cl _ hE) (T.na _ hE _ (by decide)) (hl (a := .non) (d := .non)).2.1 fun d e => ?_
  · refine ev_lcMap (List.range n) eN (fun j => nT (aheadL M j)) (src_rangeN (ea_1 (ev_var rfl)) (by omega)) (by rw [List.length_range]; omega) fun i x hx => ⟨_, gv_name List.mem_cons_self, ?_⟩
    refine Ev.is (ev_cb1 (ev_lc M eP (fun p => decide (p.2 = x)) (fun p => eN p.1) (src_tup (ev_var rfl)) (by omega) fun i p hp => ⟨_, gv_two (by decide) (by decide), et_test (ev_op (ev_var rfl) (ev_var rfl) o_eqN), fun _ => ev_var rfl⟩) c_tupleL) ?_
    unfold aheadL nT
    rw [List.map_map]
    rfl
  subst e
  refine st_fld (S := fun d => d = fZ M n) ?_ (ev_var rfl) (T.cl _ hE) (T.na _ hE _ (by decide)) (hl (d := .non)).1 fun d e => ⟨rfl, by rw [e]; rfl⟩
  refine ev_lcMap (List.range n) eN (fun j => nT (laterL M j)) (src_rangeN (ea_1 (ev_var rfl)) (by omega)) (by rw [List.length_range]; omega) fun i x hx => ⟨_, gv_name List.mem_cons_self, ?_⟩
  refine Ev.is (ev_cb1 (ev_lc M eP (fun p => decide (p.1 = x)) (fun p => eN p.2) (src_tup (ev_var rfl)) (by omega) fun i p hp => ⟨_, gv_two (by decide) (by decide), et_test (ev_op (ev_var rfl) (ev_var rfl) o_eqN), fun _ => ev_var rfl⟩) c_tupleL) ?_
  unfold laterL nT
  rw [List.map_map]
  rfl
/-! Web(many, befores) of what is right -/
structure InI where
  p : Addr
  n : Nat
  l : List Pr
  n1 : 1 ≤ n
  n8 : n ≤ 8
  asc : l.Pairwise DL.plt
  len : l.length < 1000
  bd : ∀ p ∈ l, p.1 < n ∧ p.2 < n
  irr : ∀ a, ¬ EM.tc l a a
theorem few_of {M : List Pr} {n : Nat} (n8 : n ≤ 8) (asc : M.Pairwise DL.plt) (bd : ∀ p ∈ M, p.1 < n ∧ p.2 < n) : M.length ≤ 64 :=
  EM.pairs_bound M (EM.asc_nodup asc) fun p hp => ⟨Nat.lt_of_lt_of_le (bd p hp).1 n8, Nat.lt_of_lt_of_le (bd p hp).2 n8⟩
def a_init (i : InI) : List DL.D := [.ref i.p, eN i.n, pT i.l]
def r_init (C : Addr) (i : InI) : Ow := [(i.p, .ins C [])]
def p_init (C : Addr) (i : InI) (d : DL.D) (O : Ow) : Prop := d = .non ∧ ∃ M : List Pr, M.Pairwise DL.plt ∧ (∀ p, p ∈ M ↔ EM.tc i.l p.1 p.2) ∧ O = [(i.p, .ins C (flds i.n M))]
theorem ok_Web (B : Bl mg) (T : WT K C D) (g8 : ∃ t, mg "MOST_NAMES" = some (.int 8 t)) (G : GI K mg "Web" C "Web.__init__" st_Web___init__ ["self", "many", "befores"]) (c_is_within : Can P w K mg base "is_within" 2 ["thing", "least", "most"] (spD P0 a_within p_within))
    (c_are_befores : Can P w K mg base "are_befores" 4 ["many", "thing"] (spD P0 a_bf p_yes)) (c_closed : Can P w K mg base "closed" 1 ["many", "pairs"] (spD P0 a_closed p_closed)) (c_keep : CanM P w K mg base C "keep" 1 ["self", "many", "every"] (spKeep C D C)) :
    CanI P w K mg base "Web" C 5 ["self", "many", "befores"] (spW P0 a_init (r_init C) (p_init C)) := by
  obtain ⟨t8, g8⟩ := g8
  refine CanI.ofW G sc_Web___init__ (fun _ => rfl) fun f cdv A outer s H X hr => ?_
  refine ⟨_, (pss_cons (ps_if (pt_not (pt_val (pe_can (c_is_within.up (by decide)) hr (by rfl) (pa_cons (pv 1) (pa_cons (pe_int) (pa_cons (pe_glob (v := .int 8) (by rfl) g8 ⟨_, rfl⟩) pa_nil)))))) (pss_one ps_never) pss_nil)
      (pss_cons (ps_if (pt_not (pt_val (pe_can (c_are_befores.up (by decide)) hr (by rfl) (pa_cons (pv 1) (pa_cons (pv 2) pa_nil))))) (pss_one ps_never) pss_nil)
      (pss_cons (ps_set (i := 3) sc_Web___init__.nd rfl (Or.inl rfl) (pe_can (c_closed.up (by decide)) hr (by rfl) (pa_cons (pv 1) (pa_cons (pv 2) pa_nil))))
      (pss_cons (ps_if (pt_cmp (pc_isN (pv 3))) (pss_one ps_never) pss_nil)
      (pss_one (ps_expr (pe_canM (c_keep.up (by decide)) hr (pv 0) (pa_cons (pv 1) (pa_cons (pv 3) pa_nil))))))))), fun i => ?_⟩
  obtain ⟨p, n, l, n1, n8, asc, len, bd, irr⟩ := i
  refine q_if (x := !true) (et_not (et_B (EvS.imp (ev_callD (Proto.Le.refl _) ((n : Int), (1 : Int), (8 : Int)) (ea_cons (ev_var rfl) (ea_2 ev_int ev_int))) fun d hd => ?_))) (fun e => by cases e) fun _ => ?_
  · rw [hd]
    show DL.D.bl (decide ((1 : Int) ≤ (n : Int)) && decide ((n : Int) ≤ 8)) = _
    rw [decide_eq_true (by omega), decide_eq_true (by omega)]
    rfl
  refine q_if (x := !true) (et_not (et_B (EvS.imp (ev_callD (Proto.Le.refl _) (⟨n, l, asc, len, fun q hq => ⟨(bd q hq).1, (bd q hq).2, fun e => irr q.1 (.base (show (q.1, q.1) ∈ l by rw [show (q.1, q.1) = q from Prod.ext rfl e]; exact hq))⟩⟩ : BfI) (ea_2 (ev_var rfl) (ev_var rfl))) fun d hd => hd))) (fun e => by cases e) fun _ => ?_
  refine q_set (ev_callD (Proto.Le.refl _) (⟨n, l, n8, len, bd⟩ : ClI) (ea_2 (ev_var rfl) (ev_var rfl))) fun d hd => ?_
  rcases hd with ⟨⟨a, ha⟩, _⟩ | ⟨_, M, ascM, memM, e⟩
  · exact absurd ha (irr a)
  subst e
  refine q_if (x := false) (et_B (ev_isN_no (ev_var rfl))) (fun e => by cases e) fun _ => ?_
  have lenM : M.length < 1000 := by
    have := few_of n8 ascM fun p hp => EM.TC.ends (fun a b h => bd (a, b) h) ((memM p).mp hp)
    omega
  exact st_methW (ι := { i : KpI C D // i.E = C }) (args := fun i => a_keep i.1) (pre := fun i => r_keep i.1) (post := fun i => p_keep i.1) (rest := []) (Ω := []) ⟨⟨C, p, n, M, .inl rfl, n8, lenM⟩, rfl⟩ rfl rfl (ev_var rfl) (by simp) (ea_2 (ev_var rfl) (ev_var rfl)) (fun d O ⟨_, e⟩ => by rw [e]; rfl) fun d O ⟨_, e⟩ => ⟨rfl, M, ascM, memM, by rw [e]; rfl⟩
/-! RawWeb, raw_web -/
def a_raw (i : { i : KpI C D // i.E = D }) : List DL.D := a_keep i.1
theorem ok_RawWeb (B : Bl mg) (G : GI K mg "RawWeb" D "RawWeb.__init__" st_RawWeb___init__ ["self", "many", "every"]) (c_keep : CanM P w K mg base D "keep" 1 ["self", "many", "every"] (spKeep C D D)) :
    CanI P w K mg base "RawWeb" D 2 ["self", "many", "every"] (spKeep C D D) := by
  refine CanI.ofW G sc_RawWeb___init__ (fun _ => rfl) fun f cdv A outer s H X hr => ?_
  refine ⟨_, (pss_one (ps_expr (pe_canM (c_keep.up (by decide)) hr (pv 0) (pa_cons (pv 1) (pa_cons (pv 2) pa_nil))))), fun i => ?_⟩
  obtain ⟨⟨E, p, n, M, hE, n8, lenM⟩, e⟩ := i
  obtain rfl : E = D := e
  exact st_methW (ι := { i : KpI C E // i.E = E }) (args := fun i => a_keep i.1) (pre := fun i => r_keep i.1) (post := fun i => p_keep i.1) (rest := []) (Ω := []) ⟨⟨E, p, n, M, hE, n8, lenM⟩, rfl⟩ rfl rfl (ev_var rfl) (by simp) (ea_2 (ev_var rfl) (ev_var rfl)) (fun d O ⟨_, e⟩ => by rw [e]; rfl) fun d O ⟨_, e⟩ => ⟨rfl, by rw [e]; rfl⟩
structure RwI where
  n : Nat
  l : List Pr
  n8 : n ≤ 8
  len : l.length < 64
  bd : ∀ p ∈ l, p.1 < n ∧ p.2 < n
def a_rw (i : RwI) : List DL.D := [eN i.n, pL i.l]
def p_rw (C D : Addr) (i : RwI) (d : DL.D) : Prop := ∃ M : List Pr, M.Perm i.l ∧ M.Pairwise ple ∧ d = wD C D i.n M
theorem ok_raw_web (B : Bl mg) (G : GF K mg "raw_web" st_raw_web ["many", "every"]) (c_RawWeb : CanI P w K mg base "RawWeb" D 2 ["self", "many", "every"] (spKeep C D D)) :
    Can P w K mg base "raw_web" 4 ["many", "every"] (spD P0 a_rw (p_rw C D)) := by
  refine Can.ofD G sc_raw_web (fun _ => rfl) fun f cdv A outer s H E hr => ?_
  refine ⟨_, (pss_one (ps_ret (pe_canI (c_RawWeb.up (by decide)) hr (by rfl) (pa_cons (pv 0) (pa_cons (pe_callTy (KV.cb_tuple K) (by rfl) B.tuple_ boot_tuple (pa_cons (pe_callB (cr_sortT (d := 2) (B := 64) (by decide)) (by rfl) B.sorted boot_sorted (pa_cons (pe_callTy (KV.cb_list K) (by rfl) B.list_ boot_list (pa_cons (pv 1) pa_nil)) pa_nil)) pa_nil)) pa_nil))))), fun i => ?_⟩
  obtain ⟨n, l, n8, len, bd⟩ := i
  refine st_ret (S := p_rw C D ⟨n, l, n8, len, bd⟩) ?_ fun d h => h
  refine EvS.weak (S := fun d => ∃ M : List Pr, M.Perm l ∧ M.Pairwise ple ∧ d = .sem (InsR D (flds n M))) ?_ fun d ⟨M, pm, asc, e⟩ => ⟨_, ⟨M, pm, asc, rfl⟩, fun H v i => sem_weak (fun H v h => ⟨D, .inr rfl, h⟩) H v (e ▸ i)⟩
  refine ev_makeS (ea_2S (S := fun d => ∃ M : List Pr, M.Perm l ∧ M.Pairwise ple ∧ d = pT M) (ev_var rfl) ?_) fun ds ⟨d, ⟨M, pm, asc, e⟩, eds⟩ => ?_
  · refine ev_cbS (ev_cb1 (ev_cb1 (ev_var rfl) c_listL) (c_sortedP (fun p hp => ?_) len)) fun d ⟨M, pm, pw, e⟩ => ?_
    · have := bd p hp
      exact ⟨by omega, by omega⟩
    · subst e
      exact fun _ _ _ s p ia Q q => c_tupleL s p ia Q fun v Hf2 H2 d e => q v Hf2 H2 d ⟨M, pm, pw, e⟩
  · subst e
    subst eds
    have lM := pm.length_eq
    refine ⟨fun x => ⟨⟨D, x, n, M, .inr rfl, n8, by omega⟩, rfl⟩, fun x => rfl, fun x => rfl, fun x d O ⟨e1, e2⟩ => ⟨e1, _, e2, M, pm, asc, rfl⟩⟩
/-! is_apart, pairs_apart, most_asks, turned -/
structure WI where
  n : Nat
  M : List Pr
  n8 : n ≤ 8
  len : M.length < 64
  bd : ∀ p ∈ M, p.1 < n ∧ p.2 < n
def apB (M : List Pr) (a b : Nat) : Bool := !decide ((a, b) ∈ M) && !decide ((b, a) ∈ M)
abbrev ApI := { i : WI × Nat × Nat // i.2.1 < i.1.n ∧ i.2.2 < i.1.n }
def a_apart (C D : Addr) (i : ApI) : List DL.D := [wD C D i.1.1.n i.1.1.M, eN i.1.2.1, eN i.1.2.2]
def p_apart (i : ApI) (d : DL.D) : Prop := d = .bl (apB i.1.1.M i.1.2.1 i.1.2.2)
theorem fA_at {M : List Pr} {n j : Nat} (h : j < n) : ((List.range n).map fun j => nT (aheadL M j))[j]? = some (nT (aheadL M j)) := by
  rw [List.getElem?_map, List.getElem?_range h]
  rfl
theorem fZ_at {M : List Pr} {n j : Nat} (h : j < n) : ((List.range n).map fun j => nT (laterL M j))[j]? = some (nT (laterL M j)) := by
  rw [List.getElem?_map, List.getElem?_range h]
  rfl
theorem ok_is_apart (B : Bl mg) (T : WT K C D) (G : GF K mg "is_apart" st_is_apart ["web", "one", "other"]) : Can P w K mg base "is_apart" 1 ["web", "one", "other"] (spD P0 (a_apart C D) p_apart) := by
  refine Can.ofD G sc_is_apart (fun _ => rfl) fun f cdv A outer s H E hr => ?_
  refine ⟨_, (pss_one (ps_ret (pe_and (pe_cmpR (KV.op_notin_seq K) (pv 1) (pe_ix (KV.ix_list K) (KV.pe_fld K (pv 0) rfl) (pv 2) (fun _ _ => rfl)) (by with_unfolding_all rfl)) (pe_one (pe_cmpR (KV.op_notin_seq K) (pv 1) (pe_ix (KV.ix_list K) (KV.pe_fld K (pv 0) rfl) (pv 2) (fun _ _ => rfl)) (by with_unfolding_all rfl)))))), fun i => ?_⟩
  obtain ⟨⟨⟨n, M, n8, len, bd⟩, a, b⟩, ha, hb⟩ := i
  refine st_ret (ev_andV (x := !decide (a ∈ aheadL M b)) (y := !decide (a ∈ laterL M b)) (ev_op (ev_var rfl) (ev_op (ev_ahead T (ev_var rfl)) (ev_var rfl) (o_ixL (fA_at hb))) (o_inN (neg := true))) fun _ => ev_op (ev_var rfl) (ev_op (ev_later T (ev_var rfl)) (ev_var rfl) (o_ixL (fZ_at hb))) (o_inN (neg := true))) fun d e => ?_
  rw [e]
  show DL.D.bl _ = DL.D.bl (apB M a b)
  unfold apB
  rw [decide_eq_decide.mpr mem_ahead, decide_eq_decide.mpr mem_later]
def openP (M : List Pr) (n a : Nat) : List Pr := ((List.range' (a + 1) (n - (a + 1))).filter fun b => apB M a b).map fun b => (a, b)
def openL (M : List Pr) (n : Nat) : List Pr := (List.range n).flatMap (openP M n)
theorem openP_len {M : List Pr} {n a : Nat} : (openP M n a).length ≤ n := by
  unfold openP
  rw [List.length_map]
  refine Nat.le_trans (List.length_filter_le _ _) ?_
  rw [List.length_range']
  omega
theorem openL_len {M : List Pr} {n i : Nat} (h : i ≤ n) (n8 : n ≤ 8) : ((List.range i).flatMap (openP M n)).length ≤ 64 := by
  have h1 := flat_len (f := openP M n) (k := n) (l := List.range i) fun x _ => openP_len
  rw [List.length_range] at h1
  have h2 : i * n ≤ 8 * 8 := Nat.mul_le_mul (Nat.le_trans h n8) n8
  omega
def a_pa (C D : Addr) (i : WI) : List DL.D := [wD C D i.n i.M]
def p_pa (i : WI) (d : DL.D) : Prop := d = pL (openL i.M i.n)
theorem flat_snoc {α β : Type} {f : α → List β} {l : List α} {x : α} : (l ++ [x]).flatMap f = l.flatMap f ++ f x := by
  rw [List.flatMap_append, List.flatMap_cons, List.flatMap_nil, List.append_nil]
theorem range_snoc (n : Nat) : List.range (n + 1) = List.range n ++ [n] := List.range_succ
theorem ok_pairs_apart (B : Bl mg) (T : WT K C D) (G : GF K mg "pairs_apart" st_pairs_apart ["web"]) (c_is_apart : Can P w K mg base "is_apart" 1 ["web", "one", "other"] (spD P0 (a_apart C D) p_apart)) :
    Can P w K mg base "pairs_apart" 2 ["web"] (spD P0 (a_pa C D) p_pa) := by
  refine Can.ofD G sc_pairs_apart (fun _ => rfl) fun f cdv A outer s H E hr => ?_
  refine ⟨_, (pss_cons (ps_set (i := 1) sc_pairs_apart.nd rfl (Or.inl rfl) (pe_lst pa_nil))
      (pss_cons (ps_for PassesOwn.never rfl (pi_range1 (by rfl) B.range (pa_cons (KV.pe_fld K (pv 0) rfl) pa_nil)) (pg_name (i := 2) sc_pairs_apart.nd rfl (by first | exact Or.inl rfl | exact Or.inr rfl))
      (pss_one (ps_expr (pe_bm PySem.F.plainAttrs_list PySem.F.slot_list_extend PySem.F.type_list_extend mt_extend (pv 1) (pa_cons (pe_lc (own := [("other", 3)]) rfl sc_pairs_apart.nd (pi_range2 (by rfl) B.range (pa_cons (pe_op op_add (pv 2) (pe_int)) (pa_cons (KV.pe_fld K (pv 0) rfl) pa_nil))) (blkOk_by (N := ["web", "found", "one", "other"]) (sc := defScope st_pairs_apart) (by decide +kernel)) (fun _ _ _ _ _ => (pg_name (i := 3) sc_pairs_apart.nd rfl (by first | exact Or.inl rfl | exact Or.inr rfl))) (fun _ _ _ _ _ => (pts_one (pt_val (pe_can (c_is_apart.up (by decide)) hr (by rfl) (pa_cons (pv 0) (pa_cons (pv 2) (pa_cons (pv 3) pa_nil))))))) (fun _ _ _ _ _ => (pe_tup (pa_cons (pv 2) (pa_cons (pv 3) pa_nil))))) pa_nil)))))
      (pss_one (ps_ret (pv 1))))), fun i => ?_⟩
  obtain ⟨n, M, n8, len, bd⟩ := i
  refine q_new fun p => ?_
  refine q_forK (List.range n) eN [some (wD C D n M), some (.ref p), none, none] (src_rangeN (ea_1 (ev_many T (ev_var rfl))) (by omega)) (fun i O => i ≤ n ∧ O = [(p, .lst (((List.range i).flatMap (openP M n)).map eP))]) (by repeat (first | exact True.intro | refine And.intro rfl ?_)) ⟨Nat.zero_le _, rfl⟩ (fun a x O hx ⟨_, eO⟩ => ?_) fun O ⟨_, eO⟩ => ?_
  · obtain ⟨ha, rfl⟩ := List.getElem?_eq_some_iff.mp hx
    rw [List.getElem_range] at *
    rw [List.length_range] at ha
    subst eO
    refine st_extend (Sl := fun m => m = (openP M n a).map eP) (ev_var rfl) ?_ (fun m e => ?_) fun m e => ⟨(by repeat (first | exact True.intro | refine And.intro rfl ?_)), ha, ?_⟩
    · refine EvS.imp (ev_lc (List.range' (a + 1) (n - (a + 1))) eN (fun b => apB M a b) (fun b => eP (a, b)) (src_rangeF (lo := a + 1) (hi := n) (ea_2 (ev_op (ev_var rfl) (ev_N (n := 1)) o_addN) (ev_many T (ev_var rfl))) (by omega) (by omega)) (by rw [List.length_range']; omega) fun i b hb => ⟨_, gv_name List.mem_cons_self, ?_, fun _ => ev_pair (ev_var rfl) (ev_var rfl)⟩) fun d e => ⟨_, rfl, by rw [e]; unfold openP; rw [List.map_map]; rfl⟩
      have hm := List.mem_of_getElem? hb
      rw [List.mem_range'_1] at hm
      exact et_B (EvS.imp (ev_callD (Proto.Le.refl _) (⟨(⟨n, M, n8, len, bd⟩, a, b), ha, by show b < n; omega⟩ : ApI) (ea_cons (ev_var rfl) (ea_2 (ev_var rfl) (ev_var rfl)))) fun d hd => hd)
    · rw [e, List.length_map, List.length_map]
      have h1 := openL_len (M := M) (Nat.le_of_lt ha) n8
      have h2 := openP_len (M := M) (n := n) (a := a)
      omega
    · rw [e, range_snoc, flat_snoc, List.map_append]
  · rw [List.length_range] at eO
    subst eO
    exact st_freeze [1] (fun i hi => by rw [List.mem_singleton.mp hi]; rfl) (fun z => z) (st_ret (ev_var rfl) fun d e => e)
def p_ma (i : WI) (d : DL.D) : Prop := d = eN (openL i.M i.n).length
theorem ok_most_asks (B : Bl mg) (G : GF K mg "most_asks" st_most_asks ["web"]) (c_pairs_apart : Can P w K mg base "pairs_apart" 2 ["web"] (spD P0 (a_pa C D) p_pa)) :
    Can P w K mg base "most_asks" 3 ["web"] (spD P0 (a_pa C D) p_ma) := by
  refine Can.ofD G sc_most_asks (fun _ => rfl) fun f cdv A outer s H E hr => ?_
  refine ⟨_, (pss_one (ps_ret (pe_callB (KV.cb_len K) (by rfl) B.len PySem.boot_len (pa_cons (pe_can (c_pairs_apart.up (by decide)) hr (by rfl) (pa_cons (pv 0) pa_nil)) pa_nil)))), fun i => ?_⟩
  exact st_ret (ev_cb1 (EvS.imp (ev_callD (Proto.Le.refl _) i (ea_1 (ev_var rfl))) fun d hd => hd) c_lenLM) fun d e => e
def p_tu (C D : Addr) (i : WI) (d : DL.D) : Prop := ∃ M : List Pr, M.Perm (i.M.map fun p => (p.2, p.1)) ∧ M.Pairwise ple ∧ d = wD C D i.n M
theorem ok_turned (B : Bl mg) (T : WT K C D) (G : GF K mg "turned" st_turned ["web"]) (c_raw_web : Can P w K mg base "raw_web" 4 ["many", "every"] (spD P0 a_rw (p_rw C D))) :
    Can P w K mg base "turned" 5 ["web"] (spD P0 (a_pa C D) (p_tu C D)) := by
  refine Can.ofD G sc_turned (fun _ => rfl) fun f cdv A outer s H E hr => ?_
  refine ⟨_, (pss_one (ps_ret (pe_can (c_raw_web.up (by decide)) hr (by rfl) (pa_cons (KV.pe_fld K (pv 0) rfl) (pa_cons (pe_lc (own := [("one", 1), ("other", 2)]) rfl sc_turned.nd (KV.pi_tup K (KV.pe_fld K (pv 0) rfl)) (blkOk_by (N := ["web", "one", "other"]) (sc := defScope st_turned) (by decide +kernel)) (fun _ _ _ _ _ => (KV.pg_tup K (n := 2) rfl (pgs_cons (pg_name (i := 1) sc_turned.nd rfl (by first | exact Or.inl rfl | exact Or.inr rfl)) (pgs_cons (pg_name (i := 2) sc_turned.nd rfl (by first | exact Or.inl rfl | exact Or.inr rfl)) pgs_nil)))) (fun _ _ _ _ _ => pts_nil) (fun _ _ _ _ _ => (pe_tup (pa_cons (pv 2) (pa_cons (pv 1) pa_nil))))) pa_nil))))), fun i => ?_⟩
  obtain ⟨n, M, n8, len, bd⟩ := i
  refine st_ret (ev_callD (Proto.Le.refl _) (⟨n, M.map fun p : Pr => (p.2, p.1), n8, by rw [List.length_map]; exact len, fun p hp => ?_⟩ : RwI) (ea_2 (ev_many T (ev_var rfl)) ?_)) fun d h => h
  · obtain ⟨q, hq, rfl⟩ := List.mem_map.mp hp
    exact ⟨(bd q hq).2, (bd q hq).1⟩
  · refine Ev.is (ev_lcMap M eP (fun p => eP (p.2, p.1)) (src_tup (ev_befores T (ev_var rfl))) (by omega) fun i p hp => ⟨_, gv_two (by decide) (by decide), ev_pair (ev_var rfl) (ev_var rfl)⟩) ?_
    show DL.D.lst _ = DL.D.lst _
    rw [List.map_map]
    rfl
end
end EV
set_option Elab.async false
set_option linter.all false
set_option autoImplicit false
set_option maxRecDepth 100000
set_option maxHeartbeats 4000000
/-! B4: the tape, drawing. -/
namespace EV
open L2 PySem DL
open PyProof.Rows (boot_any boot_all boot_sum boot_max boot_min boot_sorted boot_int boot_bool boot_tuple boot_list boot_set boot_str)
abbrev st__law_tape : Stmt := top 23
theorem sc__law_tape : FnScope ["_law_script"] ["_law_script"] (defScope st__law_tape) := ⟨rfl, rfl, rfl, by decide +kernel, rfl, by decide +kernel, by decide +kernel⟩
abbrev st__law_pick : Stmt := top 24
theorem sc__law_pick : FnScope ["_law_tape_here", "_law_many", "_law_digit", "_law_cell", "_law_mixed"] ["_law_tape_here", "_law_many"] (defScope st__law_pick) := ⟨rfl, rfl, rfl, by decide +kernel, rfl, by decide +kernel, by decide +kernel⟩
section
variable {P : Program} {w : World} {K : PySem.W.Frag} {mg : Str → Option Value} {base : Heap}
/-! _law_pick -/
structure PkI where
  T : Addr
  ns : List Int
  a : Nat
  i : Int
  j : Int
  k : Int
  m : Nat
  m0 : 0 < m
  m1 : m < 1073741824
def a_pk (x : PkI) : List DL.D := [.ref x.T, eN x.m]
def r_pk (x : PkI) : Ow := [(x.T, tapeC x.ns x.a x.i x.j x.k)]
def p_pk (x : PkI) (d : DL.D) (O : Ow) : Prop := (∃ r : Nat, r < x.m ∧ d = eN r) ∧ ∃ a i j k, O = [(x.T, tapeC x.ns a i j k)]
theorem mod_nat (i : Int) {m : Nat} (h : 0 < m) : ∃ r : Nat, r < m ∧ i % (m : Int) = (r : Int) :=
  ⟨(i % (m : Int)).toNat, by have := Int.emod_nonneg i (b := (m : Int)) (by omega); have := Int.emod_lt_of_pos i (b := (m : Int)) (by omega); omega, by have := Int.emod_nonneg i (b := (m : Int)) (by omega); omega⟩
theorem pick_exact (G : GF K mg "_law_pick" st__law_pick ["_law_tape_here", "_law_many"]) (B : Bl mg) : Can P w K mg base "_law_pick" 1 ["_law_tape_here", "_law_many"] (spW P0 a_pk r_pk p_pk) := by
  refine Can.ofW G sc__law_pick (fun _ => rfl) fun f cdv A outer s H E hr => ?_
  refine ⟨_, (pss_cons (ps_if (pt_cmpR op_gt (pe_ix (KV.ix_list K) (pv 0) (pe_int) (fun _ _ => rfl)) (pe_int) (nomark _)) (pss_cons (ps_set (i := 2) sc__law_pick.nd rfl (Or.inl rfl) (pe_op op_mod (pe_callTy cb_int (by rfl) B.int_ boot_int (pa_cons (pe_ix (KV.ix_list K) (pv 0) (pe_int) (fun _ _ => rfl)) pa_nil)) (pv 1)))
      (pss_cons (ps_asg (pe_op op_fdiv (pe_ix (KV.ix_list K) (pv 0) (pe_int) (fun _ _ => rfl)) (pv 1)) (pg_sub (pv 0) (pe_int) set_list))
      (pss_one (ps_ret (pv 2))))) pss_nil)
      (pss_cons (ps_asg (pe_op op_add (pe_ix (KV.ix_list K) (pv 0) (pe_int) (fun _ _ => rfl)) (pe_int)) (pg_sub (pv 0) (pe_int) set_list))
      (pss_cons (ps_set (i := 3) sc__law_pick.nd rfl (Or.inl rfl) (pe_int))
      (pss_cons (ps_if (pt_cmpR op_lt (pe_ix (KV.ix_list K) (pv 0) (pe_int) (fun _ _ => rfl)) (pe_callB (KV.cb_len K) (by rfl) B.len PySem.boot_len (pa_cons (pe_ix (KV.ix_list K) (pv 0) (pe_int) (fun _ _ => rfl)) pa_nil)) (nomark _)) (pss_cons (ps_set (i := 3) sc__law_pick.nd rfl (Or.inl rfl) (pe_ix (KV.ix_list K) (pe_ix (KV.ix_list K) (pv 0) (pe_int) (fun _ _ => rfl)) (pe_ix (KV.ix_list K) (pv 0) (pe_int) (fun _ _ => rfl)) (fun _ _ => rfl)))
      (pss_one (ps_asg (pe_op op_add (pe_ix (KV.ix_list K) (pv 0) (pe_int) (fun _ _ => rfl)) (pe_int)) (pg_sub (pv 0) (pe_int) set_list)))) pss_nil)
      (pss_cons (ps_if (pt_cmpR op_ge (pv 3) (pe_op op_pow (pe_int) (pe_int)) (nomark _)) (pss_cons (ps_asg (pe_op op_fdiv (pv 3) (pv 1)) (pg_sub (pv 0) (pe_int) set_list))
      (pss_one (ps_ret (pe_op op_mod (pe_callTy cb_int (by rfl) B.int_ boot_int (pa_cons (pv 3) pa_nil)) (pv 1))))) pss_nil)
      (pss_cons (ps_set (i := 4) sc__law_pick.nd rfl (Or.inl rfl) (pe_op op_mod (pe_callTy cb_int (by rfl) B.int_ boot_int (pa_cons (pe_op op_add (pe_op op_add (pe_op op_mul (pe_ix (KV.ix_list K) (pv 0) (pe_int) (fun _ _ => rfl)) (pe_int)) (pe_op op_mod (pe_callTy cb_int (by rfl) B.int_ boot_int (pa_cons (pv 3) pa_nil)) (pe_int))) (pe_op op_mul (pe_ix (KV.ix_list K) (pv 0) (pe_int) (fun _ _ => rfl)) (pe_int))) pa_nil)) (pe_int)))
      (pss_cons (ps_set (i := 4) sc__law_pick.nd rfl (Or.inl rfl) (pe_op op_mod (pe_callTy cb_int (by rfl) B.int_ boot_int (pa_cons (pe_op op_mul (pv 4) (pe_op op_add (pe_op op_fdiv (pv 4) (pe_int)) (pe_int))) pa_nil)) (pe_int)))
      (pss_cons (ps_asg (pv 4) (pg_sub (pv 0) (pe_int) set_list))
      (pss_one (ps_ret (pe_op op_mod (pe_callTy cb_int (by rfl) B.int_ boot_int (pa_cons (pe_op op_fdiv (pv 4) (pe_int)) pa_nil)) (pv 1)))))))))))), fun x => ?_⟩
  obtain ⟨T, ns, a, i, j, k, m, m0, m1⟩ := x
  have dv : ∀ z : Int, CDiv z (m : Int) := fun z => ⟨by omega, by omega⟩
  refine q_if (x := decide ((1 : Int) < i)) (et_test (ev_op (ev_ixOwn (n := 2) (ev_var rfl) ev_int rfl) ev_int o_cmp)) (fun _ => ?_) fun _ => ?_
  · obtain ⟨r, hr, e⟩ := mod_nat i m0
    refine q_setd (ev_op (ev_cb1 (ev_ixOwn (n := 2) (ev_var rfl) ev_int rfl) c_int) (ev_var rfl) (o_mod (j := (m : Int)) (by omega))) ?_
    refine q_setix (n := 2) (S := fun d => d = DL.D.int (i / (m : Int))) (ev_op (ev_ixOwn (n := 2) (ev_var rfl) ev_int rfl) (ev_var rfl) (o_fdiv (dv i))) (ev_var rfl) ev_int (by show 2 < 5; decide) fun d ed => ?_
    subst ed
    exact st_ret (ev_var rfl) fun d ed => ⟨⟨r, hr, by rw [ed, e]⟩, _, _, _, _, rfl⟩
  refine q_setix (n := 4) (S := fun d => d = DL.D.int (k + 1)) (ev_op (ev_ixOwn (n := 4) (ev_var rfl) ev_int rfl) ev_int o_add) (ev_var rfl) ev_int (by show 4 < 5; decide) fun d ed => ?_
  subst ed
  refine q_setd ev_int ?_
  refine st_seq (M := fun G O => ∃ z a', G = [some (.ref T), some (eN m), none, some (.int z), none] ∧ O = [(T, tapeC ns a' i j (k + 1))]) (st_if (x := decide ((a : Int) < (ns.length : Int))) (et_test (ev_op (ev_ixOwn (n := 1) (ev_var rfl) ev_int rfl) (ev_cb1 (ev_ixOwn (n := 0) (ev_var rfl) ev_int rfl) c_lenLM) o_cmp)) (fun e => ?_) fun _ => st_next ⟨0, a, rfl, rfl⟩) fun G O ⟨z, a', eG, eO⟩ => ?_
  · have ha : a < ns.length := by have := of_decide_eq_true e; omega
    refine q_setd (d := .int ns[a]) (ev_op (ev_ixOwn (n := 0) (ev_var rfl) ev_int rfl) (ev_ixOwn (n := 1) (ev_var rfl) ev_int rfl) (o_ixL (n := a) (by rw [List.getElem?_map, List.getElem?_eq_getElem ha]; rfl))) ?_
    exact st_setix (n := 1) (S := fun d => d = eN (a + 1)) (ev_op (ev_ixOwn (n := 1) (ev_var rfl) ev_int rfl) (ev_N (n := 1)) o_addN) (ev_var rfl) ev_int (by show 1 < 5; decide) fun d ed => ⟨ns[a], a + 1, rfl, by rw [ed]; rfl⟩
  subst eG
  subst eO
  refine q_if (x := _) (et_test (ev_op (ev_var rfl) (ev_op ev_int ev_int (o_pow ⟨by decide, by decide, by decide⟩)) o_cmp)) (fun _ => ?_) fun _ => ?_
  · obtain ⟨r, hr, e⟩ := mod_nat z m0
    refine q_setix (n := 2) (S := fun d => d = DL.D.int (z / (m : Int))) (ev_op (ev_var rfl) (ev_var rfl) (o_fdiv (dv z))) (ev_var rfl) ev_int (by show 2 < 5; decide) fun d ed => ?_
    subst ed
    exact st_ret (ev_op (ev_cb1 (ev_var rfl) c_int) (ev_var rfl) (o_mod (j := (m : Int)) (by omega))) fun d ed => ⟨⟨r, hr, by rw [ed, e]⟩, _, _, _, _, rfl⟩
  refine q_set (S := fun d => ∃ y : Int, 0 ≤ y ∧ y < 2147483647 ∧ d = .int y) ?_ fun d ⟨y, y0, y1, ed⟩ => ?_
  · refine EvS.imp (ev_op (ev_cb1 (ev_op (ev_op (ev_op (ev_ixOwn (n := 3) (ev_var rfl) ev_int rfl) ev_int (o_mul (.inr (by decide)))) (ev_op (ev_cb1 (ev_var rfl) c_int) ev_int (o_mod (by decide))) o_add) (ev_op (ev_ixOwn (n := 4) (ev_var rfl) ev_int rfl) ev_int (o_mul (.inr (by decide)))) o_add) c_int) ev_int (o_mod (by decide))) fun d ed => ⟨_, Int.emod_nonneg _ (by decide), Int.emod_lt_of_pos _ (by decide), ed⟩
  subst ed
  refine q_set (S := fun d => ∃ y : Int, 0 ≤ y ∧ y < 2147483399 ∧ d = .int y) ?_ fun d ⟨y2, y20, y21, ed⟩ => ?_
  · refine EvS.imp (ev_op (ev_cb1 (ev_op (ev_var rfl) (ev_op (ev_op (ev_var rfl) ev_int (o_fdiv ⟨by decide, by decide⟩)) ev_int o_add) (o_mul (.inl ⟨by omega, by omega⟩))) c_int) ev_int (o_mod (by decide))) fun d ed => ⟨_, Int.emod_nonneg _ (by decide), Int.emod_lt_of_pos _ (by decide), ed⟩
  subst ed
  refine q_setix (n := 3) (S := fun d => d = DL.D.int y2) (ev_var rfl) (ev_var rfl) ev_int (by show 3 < 5; decide) fun d ed => ?_
  subst ed
  obtain ⟨r, hr, e⟩ := mod_nat (y2 / 16) m0
  exact st_ret (ev_op (ev_cb1 (ev_op (ev_var rfl) ev_int (o_fdiv ⟨by decide, by decide⟩)) c_int) (ev_var rfl) (o_mod (j := (m : Int)) (by omega))) fun d ed => ⟨⟨r, hr, by rw [ed, e]⟩, _, _, _, _, rfl⟩
abbrev MI := { m : Nat // 0 < m ∧ m < 1073741824 }
def a_pick (T : Addr) (i : MI) : List DL.D := [.ref T, eN i.1]
def p_pick (i : MI) (d : DL.D) : Prop := ∃ r : Nat, r < i.1 ∧ d = eN r
theorem ok_pick (G : GF K mg "_law_pick" st__law_pick ["_law_tape_here", "_law_many"]) (B : Bl mg) : Can P w K mg base "_law_pick" 1 ["_law_tape_here", "_law_many"] (spT a_pick p_pick) :=
  (pick_exact G B).imp (spW_T fun T i' ns a i j k l => ⟨⟨T, ns, a, i, j, k, i'.1, i'.2.1, i'.2.2⟩, rfl, rfl, fun d O h => h⟩)
/-! _law_tape -/
def spTape (K : PySem.W.Frag) : Sp := fun vs H Q _ => ∃ (a : Addr) (ns : List Int), vs = [V.ref a] ∧ SqL K H a (ns.map V.int) ∧ ∀ s T, H s = none → T ≠ s → H T = none → Q (.ref T) (upd (upd H s (.lst (ns.map V.int))) T (.lst [.ref s, .int 0, .int 0, .int 1, .int 0]))
theorem ok_tape (G : GF K mg "_law_tape" st__law_tape ["_law_script"]) (B : Bl mg) : Can P w K mg base "_law_tape" 1 ["_law_script"] (spTape K) := by
  refine Can.mk G sc__law_tape (fun vs H Q E ⟨a, ns, e, _⟩ => by rw [e]; rfl) fun f cdv A outer s H E hr => ?_
  refine ⟨_, (pss_one (ps_ret (pe_lst (pa_cons (pe_callTy (KV.cb_list K) (by rfl) B.list_ boot_list (pa_cons (pv 0) pa_nil)) (pa_cons (pe_int) (pa_cons (pe_int) (pa_cons (pe_int) (pa_cons (pe_int) pa_nil)))))))), fun vs Q ⟨a, ns, e, hs, q⟩ => ?_⟩
  subst e
  refine ⟨_, rfl, a, _, rfl, .inl hs, fun l hl => ?_⟩
  refine ⟨by show 5 ≤ sizeLine; rw [sizeLine_eq]; decide, fun T hT => ?_⟩
  have ne : T ≠ l := fun e => by
    subst e
    rw [upd_same] at hT
    cases hT
  rw [upd_ne ne] at hT
  exact q l T hl ne hT
end
end EV
set_option Elab.async false
set_option linter.all false
set_option autoImplicit false
set_option maxRecDepth 100000
set_option maxHeartbeats 4000000
/-! B5: the law's own closing and drawing of befores. -/
namespace EV
open L2 PySem DL
open PyProof.Rows (boot_any boot_all boot_sum boot_max boot_min boot_sorted boot_int boot_bool boot_tuple boot_list boot_set boot_str)
abbrev st__law_closed : Stmt := top 25
theorem sc__law_closed : FnScope ["_law_pairs_here", "_law_found", "_law_turn", "_law_more", "_law_one", "_law_middle", "_law_first", "_law_other", "_law_pair"] ["_law_pairs_here"] (defScope st__law_closed) := ⟨rfl, rfl, rfl, by decide +kernel, rfl, by decide +kernel, by decide +kernel⟩
abbrev st__law_pairs : Stmt := top 26
theorem sc__law_pairs : FnScope ["_law_tape_here", "_law_many", "_law_row", "_law_name", "_law_thin", "_law_found", "_law_at", "_law_other"] ["_law_tape_here", "_law_many"] (defScope st__law_pairs) := ⟨rfl, rfl, rfl, by decide +kernel, rfl, by decide +kernel, by decide +kernel⟩
abbrev Pq := Nat × Nat
section
variable {P : Program} {w : World} {K : PySem.W.Frag} {mg : Str → Option Value} {base : Heap}
/-! _law_closed -/
structure LcI where
  n : Nat
  l : List Pq
  n8 : n ≤ 8
  len : l.length < 1000
  bd : ∀ p ∈ l, p.1 < n ∧ p.2 < n
  irr : ∀ a, ¬ EM.tc l a a
def a_lc (i : LcI) : List DL.D := [pT i.l]
/-- the closed befores -/
def IsCl (l M : List Pq) : Prop := M.Pairwise DL.plt ∧ ∀ p, p ∈ M ↔ EM.tc l p.1 p.2
def p_lc (i : LcI) (d : DL.D) : Prop := ∃ M, IsCl i.l M ∧ d = pT M
/-- one round of the closing -/
def stepL (L : List Pq) (p : Pq) : List Pq := (L.filter fun q => decide (q.1 = p.2)).map fun q => (p.1, q.2)
theorem mem_step {L : List Pq} {a b : Nat} : (a, b) ∈ L.flatMap (stepL L) ↔ ∃ c, (a, c) ∈ L ∧ (c, b) ∈ L := by
  rw [List.mem_flatMap]
  constructor
  · rintro ⟨⟨x, c⟩, h1, h2⟩
    obtain ⟨⟨c', y⟩, h3, e⟩ := List.mem_map.mp h2
    obtain ⟨h4, h5⟩ := List.mem_filter.mp h3
    have e1 : c' = c := of_decide_eq_true h5
    obtain ⟨e2, e3⟩ := Prod.mk.inj e
    have e2' : x = a := e2
    have e3' : y = b := e3
    subst e1; subst e2'; subst e3'
    exact ⟨c', h1, h4⟩
  · rintro ⟨c, h1, h2⟩
    exact ⟨(a, c), h1, List.mem_map.mpr ⟨(c, b), List.mem_filter.mpr ⟨h2, decide_eq_true rfl⟩, rfl⟩⟩
theorem step_len {L : List Pq} {p : Pq} : (stepL L p).length ≤ L.length := by
  unfold stepL
  rw [List.length_map]
  exact List.length_filter_le _ _
theorem take_snoc {α : Type} {l : List α} {i : Nat} {x : α} (h : l[i]? = some x) : l.take (i + 1) = l.take i ++ [x] := by
  rw [List.take_succ, h]
  rfl
theorem flat_snoc' {α β : Type} {f : α → List β} {l : List α} {x : α} : (l ++ [x]).flatMap f = l.flatMap f ++ f x := by
  rw [List.flatMap_append, List.flatMap_cons, List.flatMap_nil, List.append_nil]
theorem ok_law_closed (B : Bl mg) (G : GF K mg "_law_closed" st__law_closed ["_law_pairs_here"]) : Can P w K mg base "_law_closed" 1 ["_law_pairs_here"] (spD P0 a_lc p_lc) := by
  refine Can.ofD G sc__law_closed (fun _ => rfl) fun f cdv A outer s H E hr => ?_
  refine ⟨_, (pss_cons (ps_set (i := 1) sc__law_closed.nd rfl (Or.inl rfl) (pe_callB (cr_sortedT rfl) (by rfl) B.sorted boot_sorted (pa_cons (pe_callTy (RU.cr_setTT rfl hr.units) (by rfl) B.set_ boot_set (pa_cons (pv 0) pa_nil)) pa_nil)))
      (pss_cons (ps_for PassesOwn.never rfl (pi_range1 (by rfl) B.range (pa_cons (pe_int) pa_nil)) (pg_name (i := 2) sc__law_closed.nd rfl (by first | exact Or.inl rfl | exact Or.inr rfl))
      (pss_cons (ps_set (i := 3) sc__law_closed.nd rfl (Or.inl rfl) (pe_lst pa_nil))
      (pss_cons (ps_for PassesOwn.never rfl (KV.pi_list K (pv 1)) (KV.pg_tup K (n := 2) rfl (pgs_cons (pg_name (i := 4) sc__law_closed.nd rfl (by first | exact Or.inl rfl | exact Or.inr rfl)) (pgs_cons (pg_name (i := 5) sc__law_closed.nd rfl (by first | exact Or.inl rfl | exact Or.inr rfl)) pgs_nil)))
      (pss_one (ps_set (i := 3) sc__law_closed.nd rfl (Or.inl rfl) (pe_op op_cat (pv 3) (pe_lc (own := [("_law_first", 6), ("_law_other", 7)]) rfl sc__law_closed.nd (KV.pi_list K (pv 1)) (blkOk_by (N := ["_law_pairs_here", "_law_found", "_law_turn", "_law_more", "_law_one", "_law_middle", "_law_first", "_law_other", "_law_pair"]) (sc := defScope st__law_closed) (by decide +kernel)) (fun _ _ _ _ _ => (KV.pg_tup K (n := 2) rfl (pgs_cons (pg_name (i := 6) sc__law_closed.nd rfl (by first | exact Or.inl rfl | exact Or.inr rfl)) (pgs_cons (pg_name (i := 7) sc__law_closed.nd rfl (by first | exact Or.inl rfl | exact Or.inr rfl)) pgs_nil)))) (fun _ _ _ _ _ => (pts_one (pt_cmpR op_eq (pv 6) (pv 5) (nomark _)))) (fun _ _ _ _ _ => (pe_tup (pa_cons (pv 4) (pa_cons (pv 7) pa_nil)))))))))
      (pss_one (ps_set (i := 1) sc__law_closed.nd rfl (Or.inl rfl) (pe_callB (cr_sortedT rfl) (by rfl) B.sorted boot_sorted (pa_cons (pe_callTy (RU.cr_setT rfl hr.units) (by rfl) B.set_ boot_set (pa_cons (pe_op op_cat (pv 1) (pv 3)) pa_nil)) pa_nil)))))))
      (pss_cons (ps_if (pt_cmpR op_gt (pe_callB (KV.cb_len K) (by rfl) B.len PySem.boot_len (pa_cons (pe_lc (own := [("_law_pair", 8)]) rfl sc__law_closed.nd (KV.pi_list K (pv 1)) (blkOk_by (N := ["_law_pairs_here", "_law_found", "_law_turn", "_law_more", "_law_one", "_law_middle", "_law_first", "_law_other", "_law_pair"]) (sc := defScope st__law_closed) (by decide +kernel)) (fun _ _ _ _ _ => (pg_name (i := 8) sc__law_closed.nd rfl (by first | exact Or.inl rfl | exact Or.inr rfl))) (fun _ _ _ _ _ => (pts_one (pt_cmpR op_eq (pe_ix (KV.ix_tup K) (pv 8) (pe_int) (fun _ _ => rfl)) (pe_ix (KV.ix_tup K) (pv 8) (pe_int) (fun _ _ => rfl)) (nomark _)))) (fun _ _ _ _ _ => (pv 8))) pa_nil)) (pe_int) (nomark _)) (pss_one (ps_ret (pe_non))) pss_nil)
      (pss_one (ps_ret (pe_callTy (KV.cb_tuple K) (by rfl) B.tuple_ boot_tuple (pa_cons (pv 1) pa_nil))))))), fun i => ?_⟩
  obtain ⟨n, l, n8, len, bd, irr⟩ := i
  have ends : ∀ {p : Pq}, EM.tc l p.1 p.2 → p.1 < 8 ∧ p.2 < 8 := fun h => by
    have := EM.TC.ends (fun a b h => bd (a, b) h) h
    omega
  have ends' : ∀ a b, EM.rel l a b → a < 8 ∧ b < 8 := fun a b h => ends (p := (a, b)) (.base h)
  have few : ∀ (m L : List Pq), (∀ p ∈ m, EM.tc l p.1 p.2) → (∀ p ∈ L, p ∈ m) → L.Nodup → L.length ≤ 56 := fun m L hm h nd => by
    refine EM.pairs_bound56 L nd fun p hp => ?_
    have t := hm p (h p hp)
    have e := ends t
    exact ⟨e.1, e.2, fun z => irr p.1 (by rw [← z] at t; exact t)⟩
  have b64 : ∀ m : List Pq, (∀ p ∈ m, EM.tc l p.1 p.2) → ∀ p ∈ m, p.1 < 64 ∧ p.2 < 64 := fun m hm p hp => by
    have := ends (hm p hp)
    omega
  have hl : ∀ p ∈ l, EM.tc l p.1 p.2 := fun p hp => .base hp
  refine q_set (ev_sortedSetT (ev_var rfl) (b64 l hl) fun L h nd => by have := few l L hl h nd; omega) fun d ⟨L0, asc0, mem0, e⟩ => ?_
  subst e
  refine q_forD (List.range 4) eN (src_rangeN (ea_1 (ev_N (n := 4))) (by decide)) (fun i G O => ∃ L : List Pq, L.Pairwise DL.plt ∧ (∀ p, p ∈ L ↔ EM.Rnd (EM.rel l) i p.1 p.2) ∧ O = [] ∧ DL.Keeps [none, some (pL L), none, none, none, none, none, none, none] G) ⟨L0, asc0, mem0, rfl, (by repeat (first | exact True.intro | refine And.intro rfl ?_))⟩ (fun i x G O hx ⟨L, asc, mem, eO, kG⟩ => ⟨_, gt_name, ?_⟩) fun G O ⟨L, asc, mem, eO, kG⟩ => ?_
  · subst eO
    have hL : ∀ p ∈ L, EM.tc l p.1 p.2 := fun p hp => EM.rnd_tc i ((mem p).mp hp)
    have lL := few L L hL (fun p hp => hp) (EM.asc_nodup asc)
    refine st_keep (Γ0 := [none, some (pL L), some (eN x), none, none, none, none, none, none]) (kG.set 2) ?_
    refine q_setd (d := pL []) (ev_lst ea_nil (show 0 ≤ 16777216 by decide)) ?_
    refine q_forD L eP (src_list (ev_var rfl)) (fun k G O => O = [] ∧ DL.Keeps [none, some (pL L), none, some (pL ((L.take k).flatMap (stepL L))), none, none, none, none, none] G) ⟨rfl, (by repeat (first | exact True.intro | refine And.intro rfl ?_))⟩ (fun k p G O hp ⟨eO, kG⟩ => ⟨_, gt_two, ?_⟩) fun G O ⟨eO, kG⟩ => ?_
    · subst eO
      refine st_keep (Γ0 := [none, some (pL L), none, some (pL ((L.take k).flatMap (stepL L))), some (eN p.1), some (eN p.2), none, none, none]) ((kG.set 4).set 5) ?_
      have b1 := flat_len (f := stepL L) (k := L.length) (l := L.take k) fun _ _ => step_len
      have b2 : (L.take k).length ≤ L.length := by rw [List.length_take]; omega
      have b3 : (L.take k).length * L.length ≤ 56 * 56 := Nat.mul_le_mul (Nat.le_trans b2 lL) lL
      have b4 := step_len (L := L) (p := p)
      refine st_set (S := fun d => d = pL ((L.take (k + 1)).flatMap (stepL L))) ?_ fun d e => ⟨rfl, by rw [e]; repeat (first | exact True.intro | refine And.intro rfl ?_)⟩
      refine EvS.imp (ev_op (ev_var rfl) (ev_lc L eP (fun q => decide (q.1 = p.2)) (fun q => eP (p.1, q.2)) (src_list (ev_var rfl)) (by omega) fun i q hq => ⟨_, gv_two (by decide) (by decide), et_test (ev_op (ev_var rfl) (ev_var rfl) o_eqN), fun _ => ev_pair (ev_var rfl) (ev_var rfl)⟩) (o_cat ?_)) fun d e => ?_
      · have : ((L.filter fun q => decide (q.1 = p.2)).map fun q => eP (p.1, q.2)).length ≤ L.length := by
          rw [List.length_map]; exact List.length_filter_le _ _
        rw [List.length_map]
        omega
      · rw [e, take_snoc hp, flat_snoc']
        unfold pL stepL
        rw [List.map_append, List.map_map]
        rfl
    · subst eO
      rw [List.take_length] at kG
      refine st_keep kG ?_
      have hm : ∀ p ∈ L ++ L.flatMap (stepL L), EM.tc l p.1 p.2 := fun p hp => by
        rcases List.mem_append.mp hp with hp | hp
        · exact hL p hp
        · obtain ⟨c, h1, h2⟩ := mem_step.mp hp
          exact EM.TC.trans (hL (p.1, c) h1) (hL (c, p.2) h2)
      have b1 := flat_len (f := stepL L) (k := L.length) (l := L) fun _ _ => step_len
      have b3 : L.length * L.length ≤ 56 * 56 := Nat.mul_le_mul lL lL
      refine st_set (ev_sortedSet (l := L ++ L.flatMap (stepL L)) (Ev.is (ev_op (ev_var rfl) (ev_var rfl) (o_cat (by rw [List.length_map, List.length_map]; omega))) (by unfold pL; rw [List.map_append])) (b64 _ hm) fun L' h nd => by have := few _ L' hm h nd; omega) fun d ⟨M, ascM, memM, e⟩ => ⟨M, ascM, fun p => ?_, rfl, by rw [e]; repeat (first | exact True.intro | refine And.intro rfl ?_)⟩
      rw [memM, List.mem_append, mem p]
      refine Iff.trans (or_congr Iff.rfl mem_step) ?_
      exact or_congr Iff.rfl (exists_congr fun c => and_congr (mem _) (mem _))
  · subst eO
    rw [List.length_range] at mem
    have mt : ∀ p, p ∈ L ↔ EM.tc l p.1 p.2 := fun p => (mem p).trans (EM.tc_rounds ends' irr)
    have fl : (L.filter fun q => decide (q.1 = q.2)) = [] := by
      rw [List.filter_eq_nil_iff]
      intro q hq e
      have t := (mt q).mp hq
      exact irr q.1 (by rw [← of_decide_eq_true e] at t; exact t)
    have lL := few L L (fun p hp => (mt p).mp hp) (fun p hp => hp) (EM.asc_nodup asc)
    refine st_keep kG ?_
    refine q_if (x := false) (et_test (EvS.imp (ev_op (ev_cb1 (ev_lc L eP (fun q => decide (q.1 = q.2)) eP (src_list (ev_var rfl)) (by omega) fun i q hq => ⟨_, gv_name List.mem_cons_self, et_test (ev_op (ev_op (ev_var rfl) ev_int (o_ixT (l := [eN q.1, eN q.2]) (n := 0) rfl)) (ev_op (ev_var rfl) ev_int (o_ixT (l := [eN q.1, eN q.2]) (n := 1) rfl)) o_eqN), fun _ => ev_var rfl⟩) c_lenLM) ev_int o_cmp) fun d e => ?_)) (fun e => by cases e) fun _ => ?_
    · rw [e, fl]
      rfl
    · exact st_ret (ev_cb1 (ev_var rfl) c_tupleL) fun d e => ⟨L, ⟨asc, mt⟩, e⟩
/-! _law_pairs -/
structure DrawnL (n : Nat) (l : List Pq) : Prop where
  len : l.length < 64
  bd : ∀ p ∈ l, p.1 < n ∧ p.2 < n
  irr : ∀ a, ¬ EM.tc l a a
theorem irr_of_rank {l : List Pq} (rk : Nat → Nat) (h : ∀ p ∈ l, rk p.1 < rk p.2) (a : Nat) : ¬ EM.tc l a a := fun t => by
  have : rk a < rk a := EM.TC.least (S := fun a b => rk a < rk b) (fun a b r => h (a, b) r) (fun a b c => Nat.lt_trans) t
  omega
abbrev NI := { n : Nat // n ≤ 8 }
def a_lp (T : Addr) (i : NI) : List DL.D := [.ref T, eN i.1]
def p_lp (i : NI) (d : DL.D) : Prop := ∃ l, DrawnL i.1 l ∧ d = pT l
structure RowL (i : Nat) (row : List Nat) : Prop where
  len : row.length = i
  nd : row.Nodup
  lt : ∀ x ∈ row, x < i
theorem RowL.ins {i r : Nat} {row : List Nat} (h : RowL i row) : RowL (i + 1) (row.take r ++ [i] ++ row.drop r) where
  len := by
    rw [List.length_append, List.length_append, List.length_take, List.length_drop, List.length_singleton, h.len]
    omega
  nd := by
    have e : (row.take r ++ [i] ++ row.drop r).Perm (i :: row) := by
      rw [List.append_assoc, List.singleton_append]
      refine List.perm_middle.trans ?_
      rw [List.take_append_drop]
    exact e.nodup_iff.mpr (List.nodup_cons.mpr ⟨fun hi => Nat.lt_irrefl _ (h.lt i hi), h.nd⟩)
  lt := fun x hx => by
    simp only [List.mem_append, List.mem_singleton] at hx
    rcases hx with (hx | rfl) | hx
    · exact Nat.lt_succ_of_lt (h.lt x (List.mem_of_mem_take hx))
    · exact Nat.lt_succ_self _
    · exact Nat.lt_succ_of_lt (h.lt x (List.mem_of_mem_drop hx))
theorem ok_law_pairs (B : Bl mg) (G : GF K mg "_law_pairs" st__law_pairs ["_law_tape_here", "_law_many"]) (c__law_pick : Can P w K mg base "_law_pick" 1 ["_law_tape_here", "_law_many"] (spT a_pick p_pick)) :
    Can P w K mg base "_law_pairs" 2 ["_law_tape_here", "_law_many"] (spT a_lp p_lp) := by
  refine Can.ofT G sc__law_pairs (fun _ _ => rfl) fun f cdv A outer s H E hr => ?_
  refine ⟨_, (pss_cons (ps_set (i := 2) sc__law_pairs.nd rfl (Or.inl rfl) (pe_lst pa_nil))
      (pss_cons (ps_for PassesOwn.never rfl (pi_range1 (by rfl) B.range (pa_cons (pv 1) pa_nil)) (pg_name (i := 3) sc__law_pairs.nd rfl (by first | exact Or.inl rfl | exact Or.inr rfl))
      (pss_one (ps_expr (pe_bm PySem.F.plainAttrs_list PySem.F.slot_list_insert PySem.F.type_list_insert m_insert (pv 2) (pa_cons (pe_can (c__law_pick.up (by decide)) hr (by rfl) (pa_cons (pv 0) (pa_cons (pe_op op_add (pv 3) (pe_int)) pa_nil))) (pa_cons (pv 3) pa_nil))))))
      (pss_cons (ps_set (i := 4) sc__law_pairs.nd rfl (Or.inl rfl) (pe_op op_add (pe_int) (pe_can (c__law_pick.up (by decide)) hr (by rfl) (pa_cons (pv 0) (pa_cons (pe_int) pa_nil)))))
      (pss_cons (ps_set (i := 5) sc__law_pairs.nd rfl (Or.inl rfl) (pe_lst pa_nil))
      (pss_cons (ps_for PassesOwn.never rfl (pi_range1 (by rfl) B.range (pa_cons (pv 1) pa_nil)) (pg_name (i := 6) sc__law_pairs.nd rfl (by first | exact Or.inl rfl | exact Or.inr rfl))
      (pss_one (ps_for PassesOwn.never rfl (pi_range2 (by rfl) B.range (pa_cons (pe_op op_add (pv 6) (pe_int)) (pa_cons (pv 1) pa_nil))) (pg_name (i := 7) sc__law_pairs.nd rfl (by first | exact Or.inl rfl | exact Or.inr rfl))
      (pss_one (ps_if (pt_cmpR op_eq (pe_can (c__law_pick.up (by decide)) hr (by rfl) (pa_cons (pv 0) (pa_cons (pv 4) pa_nil))) (pe_int) (nomark _)) (pss_one (ps_expr (pe_bm PySem.F.plainAttrs_list PySem.F.slot_list_append PySem.F.type_list_append mt_append (pv 5) (pa_cons (pe_tup (pa_cons (pe_ix (KV.ix_list K) (pv 2) (pv 6) (fun _ _ => rfl)) (pa_cons (pe_ix (KV.ix_list K) (pv 2) (pv 7) (fun _ _ => rfl)) pa_nil))) pa_nil)))) pss_nil)))))
      (pss_one (ps_ret (pe_callTy (KV.cb_tuple K) (by rfl) B.tuple_ boot_tuple (pa_cons (pe_callB (cr_sortT (d := 2) (B := 64) (by decide)) (by rfl) B.sorted boot_sorted (pa_cons (pv 5) pa_nil)) pa_nil))))))))), fun T i => ?_⟩
  obtain ⟨n, n8⟩ := i
  refine q_new fun R => ?_
  refine q_forK (List.range n) eN [some (.ref T), some (eN n), some (.ref R), none, none, none, none, none] (src_rangeN (ea_1 (ev_var rfl)) (by omega)) (fun i O => ∃ row, RowL i row ∧ O = [(R, .lst (row.map eN))]) (by repeat (first | exact True.intro | refine And.intro rfl ?_)) ⟨[], ⟨rfl, List.nodup_nil, fun x hx => by cases hx⟩, rfl⟩ (fun m x O hx ⟨row, hrow, eO⟩ => ?_) fun O ⟨row, hrow, eO⟩ => ?_
  · obtain ⟨hm, rfl⟩ := List.getElem?_eq_some_iff.mp hx
    rw [List.getElem_range] at *
    rw [List.length_range] at hm
    subst eO
    refine st_insert (Sn := fun r => r < m + 1) (d := eN m) (ev_var rfl) (ev_callT (⟨m + 1, by omega, by omega⟩ : MI) (ea_2 (ev_var rfl) (ev_op (ev_var rfl) (ev_N (n := 1)) o_addN)) fun d h => h) (ev_var rfl) (by rw [List.length_map, hrow.len]; omega) (fun r hr => by omega) fun r hr => ⟨(by repeat (first | exact True.intro | refine And.intro rfl ?_)), _, hrow.ins (r := r), ?_⟩
    simp only [List.map_append, List.map_take, List.map_drop, List.map_cons, List.map_nil]
  rw [List.length_range] at hrow
  subst eO
  refine st_freeze [2] (fun i hi => by rw [List.mem_singleton.mp hi]; rfl) (fun z => z) ?_
  refine q_set (S := fun d => ∃ t : Nat, 2 ≤ t ∧ t < 6 ∧ d = eN t) ?_ fun d ⟨t, t2, t6, e⟩ => ?_
  · refine ev_opS (Sa := fun d => d = eN 2) (ev_N (n := 2)) (Sb := fun _ d => ∃ r : Nat, r < 4 ∧ d = eN r) (fun _ _ => ev_callT (⟨4, by decide, by decide⟩ : MI) (ea_2 (ev_var rfl) (ev_N (n := 4))) fun d h => h) fun a b ea ⟨r, hr, eb⟩ => ?_
    subst ea
    subst eb
    exact fun _ _ _ _ s p ia ib Q q => o_addN s p ia ib Q fun v Hf2 H2 d e => q v Hf2 H2 d ⟨2 + r, by omega, by omega, e⟩
  subst e
  refine q_new fun F => ?_
  let good : List Pq → Prop := fun l => ∀ p ∈ l, ∃ a b : Nat, a < b ∧ row[a]? = some p.1 ∧ row[b]? = some p.2
  refine q_forK (List.range n) eN [some (.ref T), some (eN n), some (nL row), none, some (eN t), some (.ref F), none, none] (src_rangeN (ea_1 (ev_var rfl)) (by omega)) (fun i O => ∃ l, good l ∧ l.length ≤ 7 * i ∧ O = [(F, .lst (l.map eP))]) (by repeat (first | exact True.intro | refine And.intro rfl ?_)) ⟨[], fun p hp => (by cases hp), Nat.zero_le _, rfl⟩ (fun m x O hx ⟨l, gl, ll, eO⟩ => ?_) fun O ⟨l, gl, ll, eO⟩ => ?_
  · obtain ⟨hm, rfl⟩ := List.getElem?_eq_some_iff.mp hx
    rw [List.getElem_range] at *
    rw [List.length_range] at hm
    subst eO
    refine st_forK (List.range' (m + 1) (n - (m + 1))) eN [some (.ref T), some (eN n), some (nL row), none, some (eN t), some (.ref F), some (eN m), none] (src_rangeF (ea_2 (ev_op (ev_var rfl) (ev_N (n := 1)) o_addN) (ev_var rfl)) (by omega) (by omega)) (fun j O => ∃ l, good l ∧ l.length ≤ 7 * m + j ∧ O = [(F, .lst (l.map eP))]) (by repeat (first | exact True.intro | refine And.intro rfl ?_)) ⟨l, gl, by omega, rfl⟩ (fun j x O hx ⟨l, gl, ll, eO⟩ => ?_) fun G O kG ⟨l, gl, ll, eO⟩ => ⟨kG.trans' (by repeat (first | exact True.intro | refine And.intro rfl ?_)), l, gl, by rw [List.length_range'] at ll; omega, eO⟩
    have hx2 := List.mem_of_getElem? hx
    rw [List.mem_range'_1] at hx2
    have hj := (List.getElem?_eq_some_iff.mp hx).1
    rw [List.length_range'] at hj
    subst eO
    have ha : row[m]? = some (row[m]'(by rw [hrow.len]; exact hm)) := List.getElem?_eq_getElem _
    have hb : row[x]? = some (row[x]'(by rw [hrow.len]; omega)) := List.getElem?_eq_getElem _
    refine st_ifB (Sb := fun _ => True) (eb_test ?_) (fun _ => ?_) fun _ => st_next ⟨(by repeat (first | exact True.intro | refine And.intro rfl ?_)), l, gl, by omega, rfl⟩
    · refine ev_opS (Sa := fun d => ∃ r : Nat, r < t ∧ d = eN r) (ev_callT (⟨t, by omega, by omega⟩ : MI) (ea_2 (ev_var rfl) (ev_var rfl)) fun d h => h) (Sb := fun _ d => d = eN 0) (fun _ _ => ev_N (n := 0)) fun a b ⟨r, hr, ea⟩ eb => ?_
      subst ea
      subst eb
      exact fun _ _ _ _ s p ia ib Q q => o_eqN s p ia ib Q fun v Hf2 H2 d e => q v Hf2 H2 d ⟨_, trivial, e⟩
    · refine st_append (S := fun d => d = eP (row[m]'(by rw [hrow.len]; exact hm), row[x]'(by rw [hrow.len]; omega))) (ev_var rfl) (ev_pair (ev_op (ev_var rfl) (ev_var rfl) (o_ixL (by rw [List.getElem?_map, ha]; rfl))) (ev_op (ev_var rfl) (ev_var rfl) (o_ixL (by rw [List.getElem?_map, hb]; rfl)))) (by rw [List.length_map]; omega) fun d e => ⟨(by repeat (first | exact True.intro | refine And.intro rfl ?_)), l ++ [(row[m]'(by rw [hrow.len]; exact hm), row[x]'(by rw [hrow.len]; omega))], fun p hp => ?_, by rw [List.length_append, List.length_singleton]; omega, by rw [e, List.map_append]; rfl⟩
      rcases List.mem_append.mp hp with hp | hp
      · exact gl p hp
      · rw [List.mem_singleton.mp hp]
        exact ⟨m, x, by omega, ha, hb⟩
  · rw [List.length_range] at ll
    subst eO
    have bd : ∀ p ∈ l, p.1 < n ∧ p.2 < n := fun p hp => by
      obtain ⟨a, b, _, e1, e2⟩ := gl p hp
      exact ⟨hrow.lt _ (List.mem_of_getElem? e1), hrow.lt _ (List.mem_of_getElem? e2)⟩
    have dl : DrawnL n l := ⟨by omega, bd, irr_of_rank (fun x => row.idxOf x) fun p hp => by
      obtain ⟨a, b, ab, e1, e2⟩ := gl p hp
      obtain ⟨h1, f1⟩ := List.getElem?_eq_some_iff.mp e1
      obtain ⟨h2, f2⟩ := List.getElem?_eq_some_iff.mp e2
      show row.idxOf p.1 < row.idxOf p.2
      rw [← f1, ← f2, hrow.nd.idxOf_getElem a h1, hrow.nd.idxOf_getElem b h2]
      exact ab⟩
    refine st_freeze [5] (fun i hi => by rw [List.mem_singleton.mp hi]; rfl) (fun z => z) ?_
    refine st_ret (ev_cbS (ev_cb1 (ev_var rfl) (c_sortedP (fun p hp => ?_) dl.len)) (S' := fun d => ∃ M : List Pq, M.Perm l ∧ d = pT M) fun d ⟨M, pm, pw, e⟩ => ?_) fun d ⟨M, pm, e⟩ => ⟨M, ⟨by rw [pm.length_eq]; exact dl.len, fun p hp => bd p (pm.mem_iff.mp hp), fun a t => dl.irr a ?_⟩, e⟩
    · have := bd p hp
      exact ⟨by omega, by omega⟩
    · subst e
      exact fun _ _ _ s p ia Q q => c_tupleL s p ia Q fun v Hf2 H2 d e => q v Hf2 H2 d ⟨M, pm, e⟩
    · exact EM.TC.least (S := EM.tc l) (fun a b r => .base (pm.mem_iff.mp r)) (fun a b c h k => h.trans k) t
end
end EV
set_option Elab.async false
set_option linter.all false
set_option autoImplicit false
set_option maxRecDepth 100000
set_option maxHeartbeats 4000000
/-! B6: the law's drawn webs, orders and open pairs. -/
namespace EV
open L2 PySem DL
open PyProof.Rows (boot_any boot_all boot_sum boot_max boot_min boot_sorted boot_int boot_bool boot_tuple boot_list boot_set boot_str)
abbrev st__law_web : Stmt := top 29
theorem sc__law_web : FnScope ["_law_tape_here", "_law_most", "_law_many"] ["_law_tape_here", "_law_most"] (defScope st__law_web) := ⟨rfl, rfl, rfl, by decide +kernel, rfl, by decide +kernel, by decide +kernel⟩
abbrev st__law_free : Stmt := top 27
theorem sc__law_free : FnScope ["_law_befores", "_law_many", "_law_row", "_law_found", "_law_name", "_law_one", "_law_other"] ["_law_befores", "_law_many", "_law_row"] (defScope st__law_free) := ⟨rfl, rfl, rfl, by decide +kernel, rfl, by decide +kernel, by decide +kernel⟩
abbrev st__law_orders : Stmt := top 28
theorem sc__law_orders : FnScope ["_law_befores", "_law_many", "_law_found", "_law_turn", "_law_longer", "_law_row", "_law_name"] ["_law_befores", "_law_many"] (defScope st__law_orders) := ⟨rfl, rfl, rfl, by decide +kernel, rfl, by decide +kernel, by decide +kernel⟩
abbrev st__law_open : Stmt := top 30
theorem sc__law_open : FnScope ["_law_every", "_law_many", "_law_found", "_law_one", "_law_other"] ["_law_every", "_law_many"] (defScope st__law_open) := ⟨rfl, rfl, rfl, by decide +kernel, rfl, by decide +kernel, by decide +kernel⟩
/-- all befores of a web -/
structure Spo (n : Nat) (E : List Pr) : Prop where
  asc : E.Pairwise DL.plt
  bd : ∀ p ∈ E, p.1 < n ∧ p.2 < n
  irr : ∀ a, (a, a) ∉ E
  tr : ∀ a b c, (a, b) ∈ E → (b, c) ∈ E → (a, c) ∈ E
theorem Spo.tc {n : Nat} {E : List Pr} (h : Spo n E) {a b : Nat} : EM.tc E a b ↔ (a, b) ∈ E :=
  ⟨fun t => EM.TC.least (S := EM.rel E) (fun a b r => r) (fun a b c => h.tr a b c) t, fun r => .base r⟩
theorem Spo.few {n : Nat} {E : List Pr} (h : Spo n E) (n8 : n ≤ 8) : E.length ≤ 56 :=
  EM.pairs_bound56 E (EM.asc_nodup h.asc) fun p hp => ⟨Nat.lt_of_lt_of_le (h.bd p hp).1 n8, Nat.lt_of_lt_of_le (h.bd p hp).2 n8, fun e => h.irr p.1 (by rw [show (p.1, p.1) = p from Prod.ext rfl e]; exact hp)⟩
theorem Spo.of {n : Nat} {l M : List Pr} (c : IsCl l M) (bd : ∀ p ∈ l, p.1 < n ∧ p.2 < n) (irr : ∀ a, ¬ EM.tc l a a) : Spo n M :=
  ⟨c.1, fun p hp => EM.TC.ends (fun a b h => bd (a, b) h) ((c.2 p).mp hp), fun a h => irr a ((c.2 (a, a)).mp h), fun a b x h k => (c.2 (a, x)).mpr (((c.2 (a, b)).mp h).trans ((c.2 (b, x)).mp k))⟩
theorem Spo.same {n : Nat} {E M : List Pr} (h : Spo n E) (asc : M.Pairwise DL.plt) (mem : ∀ p, p ∈ M ↔ EM.tc E p.1 p.2) : M = E :=
  EM.asc_unique asc h.asc fun p => (mem p).trans h.tc
section
variable {P : Program} {w : World} {K : PySem.W.Frag} {mg : Str → Option Value} {base : Heap}
/-! _law_web -/
abbrev WbI := { m : Nat // 2 ≤ m ∧ m ≤ 8 }
def a_lw (T : Addr) (i : WbI) : List DL.D := [.ref T, eN i.1]
def p_lw (i : WbI) (d : DL.D) : Prop := ∃ n E, 1 ≤ n ∧ n ≤ i.1 ∧ Spo n E ∧ d = .tup [eN n, pT E]
theorem ok_law_web (B : Bl mg) (G : GF K mg "_law_web" st__law_web ["_law_tape_here", "_law_most"]) (c__law_pick : Can P w K mg base "_law_pick" 1 ["_law_tape_here", "_law_many"] (spT a_pick p_pick))
    (c__law_pairs : Can P w K mg base "_law_pairs" 2 ["_law_tape_here", "_law_many"] (spT a_lp p_lp)) (c__law_closed : Can P w K mg base "_law_closed" 1 ["_law_pairs_here"] (spD P0 a_lc p_lc)) :
    Can P w K mg base "_law_web" 3 ["_law_tape_here", "_law_most"] (spT a_lw p_lw) := by
  refine Can.ofT G sc__law_web (fun _ _ => rfl) fun f cdv A outer s H E hr => ?_
  refine ⟨_, (pss_cons (ps_set (i := 2) sc__law_web.nd rfl (Or.inl rfl) (pe_op op_add (pe_int) (pe_can (c__law_pick.up (by decide)) hr (by rfl) (pa_cons (pv 0) (pa_cons (pv 1) pa_nil)))))
      (pss_cons (ps_if (pt_cmpR op_gt (pe_can (c__law_pick.up (by decide)) hr (by rfl) (pa_cons (pv 0) (pa_cons (pe_int) pa_nil))) (pe_int) (nomark _)) (pss_one (ps_set (i := 2) sc__law_web.nd rfl (Or.inl rfl) (pe_callB (cb_max2 rfl) (by rfl) B.max boot_max (pa_cons (pv 2) (pa_cons (pe_op op_sub (pv 1) (pe_int)) pa_nil))))) pss_nil)
      (pss_one (ps_ret (pe_tup (pa_cons (pv 2) (pa_cons (pe_can (c__law_closed.up (by decide)) hr (by rfl) (pa_cons (pe_can (c__law_pairs.up (by decide)) hr (by rfl) (pa_cons (pv 0) (pa_cons (pv 2) pa_nil))) pa_nil)) pa_nil))))))), fun T i => ?_⟩
  obtain ⟨m, m2, m8⟩ := i
  refine q_set (S := fun d => ∃ n : Nat, 1 ≤ n ∧ n ≤ m ∧ d = eN n) ?_ fun d ⟨n, n1, nm, e⟩ => ?_
  · refine ev_opS (Sa := fun d => d = eN 1) (ev_N (n := 1)) (Sb := fun _ d => ∃ r : Nat, r < m ∧ d = eN r) (fun _ _ => ev_callT (⟨m, by omega, by omega⟩ : MI) (ea_2 (ev_var rfl) (ev_var rfl)) fun d h => h) fun a b ea ⟨r, hr, eb⟩ => ?_
    subst ea
    subst eb
    exact fun _ _ _ _ s p ia ib Q q => o_addN s p ia ib Q fun v Hf2 H2 d e => q v Hf2 H2 d ⟨1 + r, by omega, by omega, e⟩
  subst e
  refine st_seq (M := fun G O => ∃ n : Nat, 1 ≤ n ∧ n ≤ m ∧ G = [some (.ref T), some (eN m), some (eN n)] ∧ O = []) (st_ifB (Sb := fun _ => True) (eb_test ?_) (fun _ => ?_) fun _ => st_next ⟨n, n1, nm, rfl, rfl⟩) fun G O ⟨n, n1, nm, eG, eO⟩ => ?_
  · refine ev_opS (Sa := fun d => ∃ r : Nat, r < 3 ∧ d = eN r) (ev_callT (⟨3, by decide, by decide⟩ : MI) (ea_2 (ev_var rfl) (ev_N (n := 3))) fun d h => h) (Sb := fun _ d => d = eN 0) (fun _ _ => ev_N (n := 0)) fun a b ⟨r, hr, ea⟩ eb => ?_
    subst ea
    subst eb
    exact fun _ _ _ _ s p ia ib Q q => o_cmp s p ia ib Q fun v Hf2 H2 d e => q v Hf2 H2 d ⟨_, trivial, e⟩
  · refine st_set (S := fun d => ∃ k : Nat, 1 ≤ k ∧ k ≤ m ∧ d = eN k) (EvS.imp (ev_cb2 (ev_var rfl) (ev_op (ev_var rfl) ev_int o_sub) c_max2) fun d e => ?_) fun d ⟨k, k1, km, e⟩ => ⟨k, k1, km, by rw [e]; rfl, rfl⟩
    rw [e]
    split
    · exact ⟨m - 1, by omega, by omega, congrArg DL.D.int (show (m : Int) - 1 = ((m - 1 : Nat) : Int) by omega)⟩
    · exact ⟨n, n1, nm, rfl⟩
  subst eG
  subst eO
  refine st_ret (S := fun d => ∃ E, Spo n E ∧ d = .tup [eN n, pT E]) (EvS.imp (ev_tupS (Sl := fun ds => ∃ d, (∃ E, Spo n E ∧ d = pT E) ∧ ds = [eN n, d]) (ea_2S (ev_var rfl) ?_) fun ds ⟨d, _, e⟩ => by rw [e]; show 2 ≤ 16777216; decide) fun d ⟨ds, ⟨x, ⟨E, hE, ex⟩, eds⟩, ed⟩ => ⟨E, hE, by rw [ed, eds, ex]⟩) fun d ⟨E, hE, e⟩ => ⟨n, E, n1, nm, hE, e⟩
  refine ev_call (Proto.Le.zero _) (Sl := fun ds => ∃ d, (∃ l, DrawnL n l ∧ d = pT l) ∧ ds = [d]) (ea_1S (ev_callT (⟨n, by omega⟩ : NI) (ea_2 (ev_var rfl) (ev_var rfl)) fun d h => h)) fun ds ⟨d, ⟨l, hl, ed⟩, e⟩ => ⟨⟨n, l, by omega, by have := hl.len; omega, hl.bd, hl.irr⟩, by rw [e, ed]; rfl, fun d ⟨M, c, e⟩ => ⟨M, Spo.of c hl.bd hl.irr, e⟩⟩
/-! _law_free -/
def freeB (E : List Pr) (r : List Nat) (x : Nat) : Bool := !decide (x ∈ r) && decide ((E.filter fun p => decide (p.2 = x) && !decide (p.1 ∈ r)).length = 0)
def freeL (E : List Pr) (n : Nat) (r : List Nat) : List Nat := (List.range n).filter (freeB E r)
structure FrI where
  n : Nat
  E : List Pr
  r : List Nat
  n8 : n ≤ 8
  len : E.length < 1000
def a_fr (i : FrI) : List DL.D := [pT i.E, eN i.n, nR i.r]
def p_fr (i : FrI) (d : DL.D) : Prop := d = nL (freeL i.E i.n i.r)
theorem ok_law_free (B : Bl mg) (G : GF K mg "_law_free" st__law_free ["_law_befores", "_law_many", "_law_row"]) : Can P w K mg base "_law_free" 1 ["_law_befores", "_law_many", "_law_row"] (spD P0 a_fr p_fr) := by
  refine Can.ofD G sc__law_free (fun _ => rfl) fun f cdv A outer s H E hr => ?_
  refine ⟨_, (pss_cons (ps_set (i := 3) sc__law_free.nd rfl (Or.inl rfl) (pe_lst pa_nil))
      (pss_cons (ps_for PassesOwn.never rfl (pi_range1 (by rfl) B.range (pa_cons (pv 1) pa_nil)) (pg_name (i := 4) sc__law_free.nd rfl (by first | exact Or.inl rfl | exact Or.inr rfl))
      (pss_one (ps_if (PW.pt (pw_and (pt_cmpR (KV.op_notin_seq K) (pv 4) (pv 2) (by with_unfolding_all rfl)) (pw_and1 (pt_cmpR op_eq (pe_callB (KV.cb_len K) (by rfl) B.len PySem.boot_len (pa_cons (pe_lc (own := [("_law_one", 5), ("_law_other", 6)]) rfl sc__law_free.nd (KV.pi_tup K (pv 0)) (blkOk_by (N := ["_law_befores", "_law_many", "_law_row", "_law_found", "_law_name", "_law_one", "_law_other"]) (sc := defScope st__law_free) (by decide +kernel)) (fun _ _ _ _ _ => (KV.pg_tup K (n := 2) rfl (pgs_cons (pg_name (i := 5) sc__law_free.nd rfl (by first | exact Or.inl rfl | exact Or.inr rfl)) (pgs_cons (pg_name (i := 6) sc__law_free.nd rfl (by first | exact Or.inl rfl | exact Or.inr rfl)) pgs_nil)))) (fun _ _ _ _ _ => (pts_one (PW.pt (pw_and (pt_cmpR op_eq (pv 6) (pv 4) (nomark _)) (pw_and1 (pt_cmpR (KV.op_notin_seq K) (pv 5) (pv 2) (by with_unfolding_all rfl))))))) (fun _ _ _ _ _ => (pv 5))) pa_nil)) (pe_int) (nomark _))))) (pss_one (ps_expr (pe_bm PySem.F.plainAttrs_list PySem.F.slot_list_append PySem.F.type_list_append mt_append (pv 3) (pa_cons (pv 4) pa_nil)))) pss_nil)))
      (pss_one (ps_ret (pv 3))))), fun i => ?_⟩
  obtain ⟨n, E, r, n8, len⟩ := i
  refine q_new fun F => ?_
  refine q_forK (List.range n) eN [some (pT E), some (eN n), some (nR r), some (.ref F), none, none, none] (src_rangeN (ea_1 (ev_var rfl)) (by omega)) (fun i O => i ≤ n ∧ O = [(F, .lst (((List.range i).filter (freeB E r)).map eN))]) (by repeat (first | exact True.intro | refine And.intro rfl ?_)) ⟨Nat.zero_le _, rfl⟩ (fun m x O hx ⟨_, eO⟩ => ?_) fun O ⟨_, eO⟩ => ?_
  · obtain ⟨hm, rfl⟩ := List.getElem?_eq_some_iff.mp hx
    rw [List.getElem_range] at *
    rw [List.length_range] at hm
    subst eO
    have hl : ((List.range m).filter (freeB E r)).length ≤ m := Nat.le_trans (List.length_filter_le _ _) (by rw [List.length_range]; exact Nat.le_refl _)
    refine st_if (x := freeB E r m) (et_and (et_test (ev_op (ev_var rfl) (ev_var rfl) (o_inN (neg := true)))) fun _ => et_test (ev_op (ev_cb1 (ev_lc E eP (fun p => decide (p.2 = m) && !decide (p.1 ∈ r)) (fun p => eN p.1) (src_tup (ev_var rfl)) (by omega) fun i p hp => ⟨_, gv_two (by decide) (by decide), et_and (et_test (ev_op (ev_var rfl) (ev_var rfl) o_eqN)) fun _ => et_test (ev_op (ev_var rfl) (ev_var rfl) (o_inN (neg := true))), fun _ => ev_var rfl⟩) c_lenLM) (ev_N (n := 0)) o_eqN)) (fun e => ?_) fun e => st_next ⟨(by repeat (first | exact True.intro | refine And.intro rfl ?_)), hm, ?_⟩
    · refine st_append (S := fun d => d = eN m) (ev_var rfl) (ev_var rfl) (by rw [List.length_map]; omega) fun d ed => ⟨(by repeat (first | exact True.intro | refine And.intro rfl ?_)), hm, ?_⟩
      rw [ed, range_snoc, List.filter_append, List.filter_cons, if_pos e, List.filter_nil, List.map_append]
      rfl
    · rw [range_snoc, List.filter_append, List.filter_cons, if_neg (by rw [e]; decide), List.filter_nil, List.append_nil]
  · rw [List.length_range] at eO
    subst eO
    exact st_freeze [3] (fun i hi => by rw [List.mem_singleton.mp hi]; rfl) (fun z => z) (st_ret (ev_var rfl) fun d e => e)
/-! _law_orders -/
def ordL (E : List Pr) (n : Nat) : Nat → List (List Nat)
  | 0 => [[]]
  | k + 1 => (ordL E n k).flatMap fun r => (freeL E n r).map fun x => r ++ [x]
theorem freeL_len {E : List Pr} {n : Nat} {r : List Nat} : (freeL E n r).length ≤ n := Nat.le_trans (List.length_filter_le _ _) (by rw [List.length_range]; exact Nat.le_refl _)
theorem ordL_len {E : List Pr} {n : Nat} : ∀ k, (ordL E n k).length ≤ n ^ k
  | 0 => Nat.le_refl _
  | k + 1 => by
    have := flat_len (f := fun r => (freeL E n r).map fun x => r ++ [x]) (k := n) (l := ordL E n k) fun r _ => by rw [List.length_map]; exact freeL_len
    rw [Nat.pow_succ]
    exact Nat.le_trans this (Nat.mul_le_mul_right _ (ordL_len k))
theorem ordL_row {E : List Pr} {n : Nat} : ∀ {k : Nat} {r : List Nat}, r ∈ ordL E n k → r.length = k
  | 0, r, h => by
    have : r = [] := by simpa [ordL] using h
    subst this
    rfl
  | k + 1, r, h => by
    obtain ⟨r0, h0, h1⟩ := List.mem_flatMap.mp h
    obtain ⟨x, _, rfl⟩ := List.mem_map.mp h1
    rw [List.length_append, ordL_row h0]
    rfl
structure OrI where
  n : Nat
  E : List Pr
  n5 : n ≤ 5
  len : E.length < 1000
def a_or (i : OrI) : List DL.D := [pT i.E, eN i.n]
abbrev rL (R : List (List Nat)) : DL.D := .lst (R.map nR)
def p_or (i : OrI) (d : DL.D) : Prop := d = rL (ordL i.E i.n i.n)
theorem pow5 {n k : Nat} (hn : n ≤ 5) (hk : k ≤ n) : n ^ k ≤ 3125 := by
  have h1 : n ^ k ≤ 5 ^ k := Nat.pow_le_pow_left hn k
  have h2 : (5 : Nat) ^ k ≤ 5 ^ 5 := Nat.pow_le_pow_right (by decide) (Nat.le_trans hk hn)
  have h3 : (5 : Nat) ^ 5 = 3125 := by decide
  omega
theorem ok_law_orders (B : Bl mg) (G : GF K mg "_law_orders" st__law_orders ["_law_befores", "_law_many"]) (c__law_free : Can P w K mg base "_law_free" 1 ["_law_befores", "_law_many", "_law_row"] (spD P0 a_fr p_fr)) :
    Can P w K mg base "_law_orders" 2 ["_law_befores", "_law_many"] (spD P0 a_or p_or) := by
  refine Can.ofD G sc__law_orders (fun _ => rfl) fun f cdv A outer s H E hr => ?_
  refine ⟨_, (pss_cons (ps_set (i := 2) sc__law_orders.nd rfl (Or.inl rfl) (pe_lst (pa_cons (RU.pe_row pa_nil) pa_nil)))
      (pss_cons (ps_for PassesOwn.never rfl (pi_range1 (by rfl) B.range (pa_cons (pv 1) pa_nil)) (pg_name (i := 3) sc__law_orders.nd rfl (by first | exact Or.inl rfl | exact Or.inr rfl))
      (pss_cons (ps_set (i := 4) sc__law_orders.nd rfl (Or.inl rfl) (pe_lst pa_nil))
      (pss_cons (ps_for PassesOwn.never rfl (KV.pi_list K (pv 2)) (pg_name (i := 5) sc__law_orders.nd rfl (by first | exact Or.inl rfl | exact Or.inr rfl))
      (pss_one (ps_set (i := 4) sc__law_orders.nd rfl (Or.inl rfl) (pe_op op_cat (pv 4) (pe_lc (own := [("_law_name", 6)]) rfl sc__law_orders.nd (KV.pi_list K (pe_can (c__law_free.up (by decide)) hr (by rfl) (pa_cons (pv 0) (pa_cons (pv 1) (pa_cons (pv 5) pa_nil))))) (blkOk_by (N := ["_law_befores", "_law_many", "_law_found", "_law_turn", "_law_longer", "_law_row", "_law_name"]) (sc := defScope st__law_orders) (by decide +kernel)) (fun _ _ _ _ _ => (pg_name (i := 6) sc__law_orders.nd rfl (by first | exact Or.inl rfl | exact Or.inr rfl))) (fun _ _ _ _ _ => pts_nil) (fun _ _ _ _ _ => (pe_op (KV.op_catR K) (pv 5) (RU.pe_row (pa_cons (pv 6) pa_nil)))))))))
      (pss_one (ps_set (i := 2) sc__law_orders.nd rfl (Or.inl rfl) (pv 4))))))
      (pss_one (ps_ret (pv 2))))), fun i => ?_⟩
  obtain ⟨n, E, n5, len⟩ := i
  refine q_setd (d := rL (ordL E n 0)) (ev_lst (ea_1 (ev_row ea_nil (show 0 ≤ 16777216 by decide))) (show 1 ≤ 16777216 by decide)) ?_
  refine q_forD (List.range n) eN (src_rangeN (ea_1 (ev_var rfl)) (by omega)) (fun i G O => O = [] ∧ DL.Keeps [some (pT E), some (eN n), some (rL (ordL E n i)), none, none, none, none] G) ⟨rfl, (by repeat (first | exact True.intro | refine And.intro rfl ?_))⟩ (fun i x G O hx ⟨eO, kG⟩ => ⟨_, gt_name, ?_⟩) fun G O ⟨eO, kG⟩ => ?_
  · subst eO
    have hi := (List.getElem?_eq_some_iff.mp hx).1
    rw [List.length_range] at hi
    have lR := Nat.le_trans (ordL_len (E := E) (n := n) i) (pow5 n5 (Nat.le_of_lt hi))
    refine st_keep (Γ0 := [some (pT E), some (eN n), some (rL (ordL E n i)), some (eN x), none, none, none]) (kG.set 3) ?_
    let nx : List Nat → List (List Nat) := fun r => (freeL E n r).map fun x => r ++ [x]
    refine q_setd (d := rL []) (ev_lst ea_nil (show 0 ≤ 16777216 by decide)) ?_
    refine q_forD (ordL E n i) nR (src_list (ev_var rfl)) (fun k G O => O = [] ∧ DL.Keeps [some (pT E), some (eN n), none, none, some (rL (((ordL E n i).take k).flatMap nx)), none, none] G) ⟨rfl, (by repeat (first | exact True.intro | refine And.intro rfl ?_))⟩ (fun k r G O hr ⟨eO, kG⟩ => ⟨_, gt_name, ?_⟩) fun G O ⟨eO, kG⟩ => ?_
    · subst eO
      refine st_keep (Γ0 := [some (pT E), some (eN n), none, none, some (rL (((ordL E n i).take k).flatMap nx)), some (nR r), none]) (kG.set 5) ?_
      have b1 := flat_len (f := nx) (k := n) (l := (ordL E n i).take k) fun r _ => by show ((freeL E n r).map _).length ≤ n; rw [List.length_map]; exact freeL_len
      have b2 : ((ordL E n i).take k).length ≤ (ordL E n i).length := by rw [List.length_take]; omega
      have b3 : ((ordL E n i).take k).length * n ≤ 3125 * 5 := Nat.mul_le_mul (Nat.le_trans b2 lR) n5
      have b4 := freeL_len (E := E) (n := n) (r := r)
      refine st_set (S := fun d => d = rL (((ordL E n i).take (k + 1)).flatMap nx)) ?_ fun d e => ⟨rfl, by rw [e]; repeat (first | exact True.intro | refine And.intro rfl ?_)⟩
      refine EvS.imp (ev_op (ev_var rfl) (ev_lcMap (freeL E n r) eN (fun x => nR (r ++ [x])) (src_list (EvS.imp (ev_callD (Proto.Le.refl _) (⟨n, E, r, by omega, len⟩ : FrI) (ea_cons (ev_var rfl) (ea_2 (ev_var rfl) (ev_var rfl)))) fun d hd => hd)) (by omega) fun j x hx => ⟨_, gv_name List.mem_cons_self, ?_⟩) (o_cat ?_)) fun d e => ?_
      · have lr := ordL_row (List.mem_of_getElem? hr)
        refine Ev.is (ev_op (ev_var rfl) (ev_row (ea_1 (ev_var rfl)) (show 1 ≤ 16777216 by decide)) (o_catR (l := r.map eN) (m := [eN x]) (by simp) (by rw [List.length_map, lr]; show i + 1 ≤ _; omega))) ?_
        unfold nR
        rw [List.map_append]
        rfl
      · rw [List.length_map, List.length_map]
        omega
      · rw [e, take_snoc hr, flat_snoc']
        unfold rL
        rw [List.map_append]
        show DL.D.lst _ = DL.D.lst (_ ++ List.map nR ((freeL E n r).map fun x => r ++ [x]))
        rw [List.map_map]
        rfl
    · subst eO
      rw [List.take_length] at kG
      exact st_keep kG (st_set (ev_var rfl) fun d e => ⟨rfl, by rw [e]; repeat (first | exact True.intro | refine And.intro rfl ?_)⟩)
  · subst eO
    rw [List.length_range] at kG
    exact st_keep kG (st_ret (ev_var rfl) fun d e => e)
/-! _law_open -/
structure OpI where
  n : Nat
  E : List Pr
  n8 : n ≤ 8
  len : E.length < 1000
def a_op (i : OpI) : List DL.D := [pT i.E, eN i.n]
def p_op (i : OpI) (d : DL.D) : Prop := d = pL (openL i.E i.n)
theorem ok_law_open (B : Bl mg) (G : GF K mg "_law_open" st__law_open ["_law_every", "_law_many"]) : Can P w K mg base "_law_open" 1 ["_law_every", "_law_many"] (spD P0 a_op p_op) := by
  refine Can.ofD G sc__law_open (fun _ => rfl) fun f cdv A outer s H E hr => ?_
  refine ⟨_, (pss_cons (ps_set (i := 2) sc__law_open.nd rfl (Or.inl rfl) (pe_lst pa_nil))
      (pss_cons (ps_for PassesOwn.never rfl (pi_range1 (by rfl) B.range (pa_cons (pv 1) pa_nil)) (pg_name (i := 3) sc__law_open.nd rfl (by first | exact Or.inl rfl | exact Or.inr rfl))
      (pss_one (ps_for PassesOwn.never rfl (pi_range2 (by rfl) B.range (pa_cons (pe_op op_add (pv 3) (pe_int)) (pa_cons (pv 1) pa_nil))) (pg_name (i := 4) sc__law_open.nd rfl (by first | exact Or.inl rfl | exact Or.inr rfl))
      (pss_one (ps_if (PW.pt (pw_and (pt_cmpR (KV.op_ninU K (hr65 hr)) (pe_tup (pa_cons (pv 3) (pa_cons (pv 4) pa_nil))) (pv 0) (by with_unfolding_all rfl)) (pw_and1 (pt_cmpR (KV.op_ninU K (hr65 hr)) (pe_tup (pa_cons (pv 4) (pa_cons (pv 3) pa_nil))) (pv 0) (by with_unfolding_all rfl))))) (pss_one (ps_expr (pe_bm PySem.F.plainAttrs_list PySem.F.slot_list_append PySem.F.type_list_append mt_append (pv 2) (pa_cons (pe_tup (pa_cons (pv 3) (pa_cons (pv 4) pa_nil))) pa_nil)))) pss_nil)))))
      (pss_one (ps_ret (pv 2))))), fun i => ?_⟩
  obtain ⟨n, M, n8, len⟩ := i
  refine q_new fun F => ?_
  refine q_forK (List.range n) eN [some (pT M), some (eN n), some (.ref F), none, none] (src_rangeN (ea_1 (ev_var rfl)) (by omega)) (fun i O => i ≤ n ∧ O = [(F, .lst (((List.range i).flatMap (openP M n)).map eP))]) (by repeat (first | exact True.intro | refine And.intro rfl ?_)) ⟨Nat.zero_le _, rfl⟩ (fun m x O hx ⟨_, eO⟩ => ?_) fun O ⟨_, eO⟩ => ?_
  · obtain ⟨hm, rfl⟩ := List.getElem?_eq_some_iff.mp hx
    rw [List.getElem_range] at *
    rw [List.length_range] at hm
    subst eO
    let inn : Nat → List Pr := fun j => (((List.range' (m + 1) (n - (m + 1))).take j).filter fun b => apB M m b).map fun b => (m, b)
    have bl := openL_len (M := M) (Nat.le_of_lt hm) n8
    refine st_forK (List.range' (m + 1) (n - (m + 1))) eN [some (pT M), some (eN n), some (.ref F), some (eN m), none] (src_rangeF (ea_2 (ev_op (ev_var rfl) (ev_N (n := 1)) o_addN) (ev_var rfl)) (by omega) (by omega)) (fun j O => O = [(F, .lst (((List.range m).flatMap (openP M n) ++ inn j).map eP))]) (by repeat (first | exact True.intro | refine And.intro rfl ?_)) (by show [_] = [_]; rw [show inn 0 = [] from rfl, List.append_nil]) (fun j x O hx eO => ?_) fun G O kG eO => ⟨kG.trans' (by repeat (first | exact True.intro | refine And.intro rfl ?_)), hm, ?_⟩
    · subst eO
      have hx2 := List.mem_of_getElem? hx
      rw [List.mem_range'_1] at hx2
      have it : inn (j + 1) = inn j ++ (([x].filter fun b => apB M m b).map fun b => (m, b)) := by
        show (((List.range' (m + 1) (n - (m + 1))).take (j + 1)).filter _).map _ = _
        rw [take_snoc hx, List.filter_append, List.map_append]
      have li : (inn j).length ≤ n := by
        show ((((List.range' (m + 1) (n - (m + 1))).take j).filter _).map _).length ≤ n
        rw [List.length_map]
        refine Nat.le_trans (List.length_filter_le _ _) ?_
        rw [List.length_take, List.length_range']
        omega
      refine st_if (x := apB M m x) (et_and (et_test (ev_op (ev_pair (ev_var rfl) (ev_var rfl)) (ev_var rfl) (o_inP (neg := true)))) fun _ => et_test (ev_op (ev_pair (ev_var rfl) (ev_var rfl)) (ev_var rfl) (o_inP (neg := true)))) (fun e => ?_) fun e => st_next ⟨(by repeat (first | exact True.intro | refine And.intro rfl ?_)), ?_⟩
      · refine st_append (S := fun d => d = eP (m, x)) (ev_var rfl) (ev_pair (ev_var rfl) (ev_var rfl)) (by rw [List.length_map, List.length_append]; omega) fun d ed => ⟨(by repeat (first | exact True.intro | refine And.intro rfl ?_)), ?_⟩
        rw [ed, it, List.filter_cons, if_pos e, List.filter_nil, ← List.append_assoc, List.map_append (l₂ := [_].map _)]
        rfl
      · rw [it, List.filter_cons, if_neg (by rw [e]; decide), List.filter_nil, List.map_nil, List.append_nil]
    · rw [eO, range_snoc, flat_snoc]
      show [_] = [_]
      rw [show inn (List.range' (m + 1) (n - (m + 1))).length = openP M n m from by
        show (((List.range' (m + 1) (n - (m + 1))).take _).filter _).map _ = _
        rw [List.take_length]
        rfl]
  · rw [List.length_range] at eO
    subst eO
    exact st_freeze [2] (fun i hi => by rw [List.mem_singleton.mp hi]; rfl) (fun z => z) (st_ret (ev_var rfl) fun d e => e)
end
end EV
set_option Elab.async false
set_option linter.all false
set_option autoImplicit false
set_option maxHeartbeats 4000000
/-! M3: webs grown by one before; open pairs; orders; plain Lean. -/
namespace EV
open DL
def Sub (E F : List Pr) : Prop := ∀ p ∈ E, p ∈ F
theorem nodup_sub_len {α : Type} [BEq α] [LawfulBEq α] : ∀ {l m : List α}, l.Nodup → (∀ x ∈ l, x ∈ m) → l.length ≤ m.length
  | [], m, _, _ => Nat.zero_le _
  | x :: l, m, nd, h => by
    rw [List.nodup_cons] at nd
    have hx := h x List.mem_cons_self
    have h1 := nodup_sub_len (l := l) (m := m.erase x) nd.2 fun y hy => (List.mem_erase_of_ne (fun e => nd.1 (by rw [← e]; exact hy))).mpr (h y (List.mem_cons_of_mem _ hy))
    rw [List.length_erase_of_mem hx] at h1
    have := List.length_pos_of_mem hx
    rw [List.length_cons]
    omega
theorem countP_lt {α : Type} {p q : α → Bool} : ∀ {l : List α}, (∀ x ∈ l, q x = true → p x = true) → (∃ x ∈ l, p x = true ∧ q x = false) → l.countP q < l.countP p
  | [], _, ⟨x, h, _⟩ => by cases h
  | y :: l, h, ⟨x, hx, h1, h2⟩ => by
    have hm : l.countP q ≤ l.countP p := List.countP_mono_left fun z hz => h z (List.mem_cons_of_mem _ hz)
    rw [List.countP_cons, List.countP_cons]
    rcases List.mem_cons.mp hx with rfl | hx
    · rw [h1, h2]
      simp
      omega
    · have := countP_lt (l := l) (fun z hz => h z (List.mem_cons_of_mem _ hz)) ⟨x, hx, h1, h2⟩
      have hy := h y List.mem_cons_self
      split <;> split <;> first | omega | (rename_i a b; exact absurd (hy a) b)
/-! all pairs -/
def allP (n : Nat) : List Pr := (List.range n).flatMap fun a => (List.range n).map fun b => (a, b)
theorem mem_allP {n : Nat} {p : Pr} : p ∈ allP n ↔ p.1 < n ∧ p.2 < n := by
  unfold allP
  rw [List.mem_flatMap]
  constructor
  · rintro ⟨a, ha, h⟩
    obtain ⟨b, hb, rfl⟩ := List.mem_map.mp h
    exact ⟨List.mem_range.mp ha, List.mem_range.mp hb⟩
  · exact fun h => ⟨p.1, List.mem_range.mpr h.1, List.mem_map.mpr ⟨p.2, List.mem_range.mpr h.2, rfl⟩⟩
theorem asc_allP (n : Nat) : (allP n).Pairwise DL.plt := by
  unfold allP
  rw [List.pairwise_flatMap]
  refine ⟨fun a _ => List.pairwise_map.mpr (List.pairwise_lt_range.imp fun {b c} h => .inr ⟨rfl, h⟩), List.pairwise_lt_range.imp fun {a b} h x hx y hy => ?_⟩
  obtain ⟨_, _, rfl⟩ := List.mem_map.mp hx
  obtain ⟨_, _, rfl⟩ := List.mem_map.mp hy
  exact .inl h
/-! one before more -/
def extL (n : Nat) (E : List Pr) (a b : Nat) : List Pr := (allP n).filter fun p => decide (p ∈ E ∨ ((p.1 = a ∨ (p.1, a) ∈ E) ∧ (p.2 = b ∨ (b, p.2) ∈ E)))
theorem mem_ext {n : Nat} {E : List Pr} {a b : Nat} {p : Pr} : p ∈ extL n E a b ↔ (p.1 < n ∧ p.2 < n) ∧ (p ∈ E ∨ ((p.1 = a ∨ (p.1, a) ∈ E) ∧ (p.2 = b ∨ (b, p.2) ∈ E))) := by
  unfold extL
  rw [List.mem_filter, mem_allP, decide_eq_true_iff]
section
variable {n : Nat} {E : List Pr} {a b : Nat}
theorem sub_ext (h : Spo n E) : Sub E (extL n E a b) := fun p hp => mem_ext.mpr ⟨h.bd p hp, .inl hp⟩
theorem in_ext (ha : a < n) (hb : b < n) : (a, b) ∈ extL n E a b := mem_ext.mpr ⟨⟨ha, hb⟩, .inr ⟨.inl rfl, .inl rfl⟩⟩
theorem Spo.ext (h : Spo n E) (ha : a < n) (hb : b < n) (ne : a ≠ b) (h1 : (b, a) ∉ E) : Spo n (extL n E a b) where
  asc := (asc_allP n).filter _
  bd := fun p hp => (mem_ext.mp hp).1
  irr := fun x hx => by
    rcases (mem_ext.mp hx).2 with h0 | ⟨h2, h3⟩
    · exact h.irr x h0
    · have h2' : x = a ∨ (x, a) ∈ E := h2
      have h3' : x = b ∨ (b, x) ∈ E := h3
      rcases h2' with e | h2' <;> rcases h3' with e' | h3'
      · exact ne (e.symm.trans e')
      · rw [e] at h3'; exact h1 h3'
      · rw [e'] at h2'; exact h1 h2'
      · exact h1 (h.tr _ _ _ h3' h2')
  tr := fun x y z hx hy => by
    obtain ⟨⟨x1, x2⟩, hx⟩ := mem_ext.mp hx
    obtain ⟨⟨y1, y2⟩, hy⟩ := mem_ext.mp hy
    refine mem_ext.mpr ⟨⟨x1, y2⟩, ?_⟩
    have hx' : (x, y) ∈ E ∨ ((x = a ∨ (x, a) ∈ E) ∧ (y = b ∨ (b, y) ∈ E)) := hx
    have hy' : (y, z) ∈ E ∨ ((y = a ∨ (y, a) ∈ E) ∧ (z = b ∨ (b, z) ∈ E)) := hy
    show (x, z) ∈ E ∨ ((x = a ∨ (x, a) ∈ E) ∧ (z = b ∨ (b, z) ∈ E))
    rcases hx' with hx | ⟨xa, yb⟩ <;> rcases hy' with hy | ⟨ya, zb⟩
    · exact .inl (h.tr _ _ _ hx hy)
    · refine .inr ⟨.inr ?_, zb⟩
      rcases ya with e | ya
      · rw [← e]; exact hx
      · exact h.tr _ _ _ hx ya
    · refine .inr ⟨xa, .inr ?_⟩
      rcases yb with e | yb
      · rw [← e]; exact hy
      · exact h.tr _ _ _ yb hy
    · exfalso
      rcases ya with e | ya <;> rcases yb with e' | yb
      · exact ne (e.symm.trans e')
      · rw [e] at yb; exact h1 yb
      · rw [e'] at ya; exact h1 ya
      · exact h1 (h.tr _ _ _ yb ya)
theorem tc_ext (h : Spo n E) (ha : a < n) (hb : b < n) (ne : a ≠ b) (h1 : (b, a) ∉ E) {x y : Nat} : EM.tc (E ++ [(a, b)]) x y ↔ (x, y) ∈ extL n E a b := by
  constructor
  · intro t
    refine EM.TC.least (S := fun x y => (x, y) ∈ extL n E a b) (fun x y r => ?_) (fun x y z h2 h3 => (h.ext ha hb ne h1).tr _ _ _ h2 h3) t
    rcases List.mem_append.mp r with r | r
    · exact sub_ext h _ r
    · rw [List.mem_singleton.mp r]
      exact in_ext ha hb
  · intro hm
    have inE : ∀ {u v}, (u, v) ∈ E → EM.tc (E ++ [(a, b)]) u v := fun r => .base (List.mem_append_left _ r)
    have ab : EM.tc (E ++ [(a, b)]) a b := .base (List.mem_append_right _ (List.mem_singleton.mpr rfl))
    rcases (mem_ext.mp hm).2 with r | ⟨h2, h3⟩
    · exact inE r
    · have h2' : x = a ∨ (x, a) ∈ E := h2
      have h3' : y = b ∨ (b, y) ∈ E := h3
      have t1 : EM.tc (E ++ [(a, b)]) x b := by
        rcases h2' with e | r
        · rw [e]; exact ab
        · exact (inE r).trans ab
      rcases h3' with e | r
      · rw [e]; exact t1
      · exact t1.trans (inE r)
theorem irr_ext (h : Spo n E) (ha : a < n) (hb : b < n) (ne : a ≠ b) (h1 : (b, a) ∉ E) (x : Nat) : ¬ EM.tc (E ++ [(a, b)]) x x := fun t => (h.ext ha hb ne h1).irr x ((tc_ext h ha hb ne h1).mp t)
theorem cl_ext (h : Spo n E) (ha : a < n) (hb : b < n) (ne : a ≠ b) (h1 : (b, a) ∉ E) {M : List Pr} (c : IsCl (E ++ [(a, b)]) M) : M = extL n E a b :=
  EM.asc_unique c.1 (h.ext ha hb ne h1).asc fun p => (c.2 p).trans (tc_ext h ha hb ne h1)
end
/-! open pairs -/
theorem apB_iff {E : List Pr} {a b : Nat} : apB E a b = true ↔ (a, b) ∉ E ∧ (b, a) ∉ E := by
  unfold apB
  simp
def upL (n : Nat) : List Pr := (List.range n).flatMap fun a => (List.range' (a + 1) (n - (a + 1))).map fun b => (a, b)
theorem openL_eq (E : List Pr) (n : Nat) : openL E n = (upL n).filter fun p => apB E p.1 p.2 := by
  unfold openL upL
  rw [List.filter_flatMap]
  congr 1
  funext a
  unfold openP
  rw [List.filter_map]
  rfl
theorem mem_upL {n : Nat} {p : Pr} : p ∈ upL n ↔ p.1 < p.2 ∧ p.2 < n := by
  unfold upL
  rw [List.mem_flatMap]
  constructor
  · rintro ⟨a, ha, h⟩
    obtain ⟨b, hb, rfl⟩ := List.mem_map.mp h
    rw [List.mem_range'_1] at hb
    have := List.mem_range.mp ha
    exact ⟨by show a < b; omega, by show b < n; omega⟩
  · rintro ⟨h1, h2⟩
    exact ⟨p.1, List.mem_range.mpr (by omega), List.mem_map.mpr ⟨p.2, List.mem_range'_1.mpr ⟨by omega, by omega⟩, rfl⟩⟩
theorem nodup_upL (n : Nat) : (upL n).Nodup := by
  unfold upL List.Nodup
  rw [List.pairwise_flatMap]
  refine ⟨fun a _ => List.pairwise_map.mpr ((List.nodup_range' (step := 1) (s := a + 1) (n := n - (a + 1)) (h := by decide)).imp fun {b c} h e => h (Prod.mk.inj e).2), List.pairwise_lt_range.imp fun {a b} h x hx y hy e => ?_⟩
  obtain ⟨_, _, rfl⟩ := List.mem_map.mp hx
  obtain ⟨_, _, rfl⟩ := List.mem_map.mp hy
  have := (Prod.mk.inj e).1
  omega
theorem mem_openL {E : List Pr} {n : Nat} {p : Pr} : p ∈ openL E n ↔ (p.1 < p.2 ∧ p.2 < n) ∧ (p.1, p.2) ∉ E ∧ (p.2, p.1) ∉ E := by
  rw [openL_eq, List.mem_filter, mem_upL, apB_iff]
def opn (n : Nat) (E : List Pr) : Nat := (openL E n).length
theorem opn_count (n : Nat) (E : List Pr) : opn n E = (upL n).countP fun p => apB E p.1 p.2 := by
  unfold opn
  rw [openL_eq, ← List.countP_eq_length_filter]
theorem opn_lt {n : Nat} {E F : List Pr} (s : Sub E F) {p : Pr} (hp : p ∈ openL E n) (hF : (p.1, p.2) ∈ F ∨ (p.2, p.1) ∈ F) : opn n F < opn n E := by
  rw [opn_count, opn_count]
  have hm := mem_openL.mp hp
  refine countP_lt (fun q _ h => ?_) ⟨p, mem_upL.mpr hm.1, apB_iff.mpr hm.2, ?_⟩
  · have := apB_iff.mp h
    exact apB_iff.mpr ⟨fun z => this.1 (s _ z), fun z => this.2 (s _ z)⟩
  · cases h : apB F p.1 p.2 with
    | false => rfl
    | true =>
      have := apB_iff.mp h
      rcases hF with z | z
      · exact absurd z this.1
      · exact absurd z this.2
theorem opn_crit {n : Nat} {E F : List Pr} {p : Pr} (h : ∀ q ∈ openL E n, q ≠ p → q ∈ openL F n) : opn n E ≤ opn n F + 1 := by
  have nd : (openL E n).Nodup := by rw [openL_eq]; exact (nodup_upL n).filter _
  have := nodup_sub_len (m := p :: openL F n) nd fun q hq => by
    by_cases e : q = p
    · rw [e]; exact List.mem_cons_self
    · exact List.mem_cons_of_mem _ (h q hq e)
  exact this
theorem opn_same {n : Nat} {E F : List Pr} (h : ∀ a b, (a, b) ∈ E ↔ (a, b) ∈ F) : opn n E = opn n F := by
  rw [opn_count, opn_count]
  congr 1
  funext p
  exact Bool.eq_iff_iff.mpr (apB_iff.trans ((and_congr (not_congr (h _ _)) (not_congr (h _ _))).trans apB_iff.symm))
theorem opn_turn {n : Nat} {E F : List Pr} (h : ∀ a b, (a, b) ∈ E ↔ (b, a) ∈ F) : opn n E = opn n F := by
  rw [opn_count, opn_count]
  congr 1
  funext p
  exact Bool.eq_iff_iff.mpr (apB_iff.trans ((and_congr (not_congr (h _ _)) (not_congr (h _ _))).trans (and_comm.trans apB_iff.symm)))
/-! a pair that brings just itself -/
def dn (n : Nat) (E : List Pr) (x : Nat) : Nat := (List.range n).countP fun w => decide ((w, x) ∈ E)
def up (n : Nat) (E : List Pr) (y : Nat) : Nat := (List.range n).countP fun w => decide ((y, w) ∈ E)
section
variable {n : Nat} {E : List Pr}
theorem dn_lt (h : Spo n E) {u x : Nat} (r : (u, x) ∈ E) : dn n E u < dn n E x :=
  countP_lt (fun w _ hw => decide_eq_true (h.tr _ _ _ (of_decide_eq_true hw) r)) ⟨u, List.mem_range.mpr (h.bd _ r).1, decide_eq_true r, decide_eq_false (h.irr u)⟩
theorem up_lt (h : Spo n E) {y v : Nat} (r : (y, v) ∈ E) : up n E v < up n E y :=
  countP_lt (fun w _ hw => decide_eq_true (h.tr _ _ _ r (of_decide_eq_true hw))) ⟨v, List.mem_range.mpr (h.bd _ r).2, decide_eq_true r, decide_eq_false (h.irr v)⟩
structure Opn (n : Nat) (E : List Pr) (x y : Nat) : Prop where
  xn : x < n
  yn : y < n
  ne : x ≠ y
  n1 : (x, y) ∉ E
  n2 : (y, x) ∉ E
theorem Opn.swap {x y : Nat} (o : Opn n E x y) : Opn n E y x := ⟨o.yn, o.xn, fun e => o.ne e.symm, o.n2, o.n1⟩
theorem crit (h : Spo n E) : ∀ (k x y : Nat), dn n E x + up n E y ≤ k → Opn n E x y → ∃ x y, Opn n E x y ∧ (∀ u, (u, x) ∈ E → (u, y) ∈ E) ∧ ∀ v, (y, v) ∈ E → (x, v) ∈ E := by
  intro k
  induction k with
  | zero =>
    intro x y hk o
    refine ⟨x, y, o, fun u hu => ?_, fun v hv => ?_⟩
    · have := dn_lt h hu; omega
    · have := up_lt h hv; omega
  | succ k ih =>
    intro x y hk o
    by_cases h1 : ∀ u, (u, x) ∈ E → (u, y) ∈ E
    · by_cases h2 : ∀ v, (y, v) ∈ E → (x, v) ∈ E
      · exact ⟨x, y, o, h1, h2⟩
      · have ⟨v, hv⟩ := Classical.not_forall.mp h2
        have ⟨hv1, hv2⟩ := Classical.not_imp.mp hv
        have := up_lt h hv1
        refine ih x v (by omega) ⟨o.xn, (h.bd _ hv1).2, fun e => ?_, hv2, fun z => ?_⟩
        · rw [← e] at hv1; exact o.n2 hv1
        · exact o.n2 (h.tr _ _ _ hv1 z)
    · have ⟨u, hu⟩ := Classical.not_forall.mp h1
      have ⟨hu1, hu2⟩ := Classical.not_imp.mp hu
      have := dn_lt h hu1
      refine ih u y (by omega) ⟨(h.bd _ hu1).1, o.yn, fun e => ?_, hu2, fun z => ?_⟩
      · rw [e] at hu1; exact o.n2 hu1
      · exact o.n2 (h.tr _ _ _ z hu1)
theorem ext_crit (h : Spo n E) {x y : Nat} (h1 : ∀ u, (u, x) ∈ E → (u, y) ∈ E) (h2 : ∀ v, (y, v) ∈ E → (x, v) ∈ E) {q : Pr} (hq : q ∈ extL n E x y) : q ∈ E ∨ q = (x, y) := by
  obtain ⟨u, v⟩ := q
  rcases (mem_ext.mp hq).2 with z | ⟨h3, h4⟩
  · exact .inl z
  · have h3' : u = x ∨ (u, x) ∈ E := h3
    have h4' : v = y ∨ (y, v) ∈ E := h4
    rcases h3' with e | r <;> rcases h4' with e' | r'
    · exact .inr (by rw [e, e'])
    · exact .inl (by rw [e]; exact h2 v r')
    · exact .inl (by rw [e']; exact h1 u r)
    · exact .inl (h.tr _ _ _ (h1 u r) r')
end
end EV
set_option Elab.async false
set_option linter.all false
set_option autoImplicit false
set_option maxHeartbeats 4000000
/-! M4: orders as rows; numbers as sets of rows; plain Lean. -/
namespace EV
open DL
def resp (E : List Pr) (r : List Nat) : Prop := ∀ p ∈ E, r.idxOf p.1 < r.idxOf p.2
instance (E : List Pr) (r : List Nat) : Decidable (resp E r) := inferInstanceAs (Decidable (∀ p ∈ E, _))
structure Full (n : Nat) (r : List Nat) : Prop where
  nd : r.Nodup
  mem : ∀ x, x ∈ r ↔ x < n
theorem Full.len {n : Nat} {r : List Nat} (h : Full n r) : r.length = n := by
  have h1 := EM.len_bound n r h.nd fun x hx => (h.mem x).mp hx
  have h2 := nodup_sub_len (l := List.range n) (m := r) List.nodup_range fun x hx => (h.mem x).mpr (List.mem_range.mp hx)
  rw [List.length_range] at h2
  omega
theorem mem_freeL {E : List Pr} {n x : Nat} {r : List Nat} : x ∈ freeL E n r ↔ x < n ∧ x ∉ r ∧ ∀ p ∈ E, p.2 = x → p.1 ∈ r := by
  unfold freeL
  rw [List.mem_filter, List.mem_range]
  unfold freeB
  rw [Bool.and_eq_true, decide_eq_true_iff, List.length_eq_zero_iff, List.filter_eq_nil_iff]
  refine and_congr Iff.rfl (and_congr (by simp) ⟨fun h p hp e => ?_, fun h p hp z => ?_⟩)
  · have := h p hp
    simp only [Bool.and_eq_true, decide_eq_true_eq, not_and] at this
    have := this e
    simpa using this
  · rw [Bool.and_eq_true] at z
    have := h p hp (of_decide_eq_true z.1)
    rw [decide_eq_true this] at z
    exact absurd z.2 (by decide)
section
variable {n : Nat} {E : List Pr}
theorem idx_app {r : List Nat} {x y : Nat} (h : y ∈ r) : (r ++ [x]).idxOf y = r.idxOf y := by rw [List.idxOf_append, if_pos h]
theorem idx_last {r : List Nat} {x : Nat} (h : x ∉ r) : (r ++ [x]).idxOf x = r.length := by
  rw [List.idxOf_append, if_neg h]
  simp
theorem ord_sound : ∀ {k : Nat} {r : List Nat}, r ∈ ordL E n k → r.Nodup ∧ (∀ x ∈ r, x < n) ∧ ∀ p ∈ E, p.2 ∈ r → p.1 ∈ r ∧ r.idxOf p.1 < r.idxOf p.2
  | 0, r, h => by
    have : r = [] := by simpa [ordL] using h
    subst this
    exact ⟨List.nodup_nil, fun x hx => absurd hx List.not_mem_nil, fun p _ hx => absurd hx List.not_mem_nil⟩
  | k + 1, r, h => by
    obtain ⟨r0, h0, h1⟩ := List.mem_flatMap.mp h
    obtain ⟨x, hx, rfl⟩ := List.mem_map.mp h1
    obtain ⟨nd, lt, ok⟩ := ord_sound h0
    obtain ⟨xn, xr, free⟩ := mem_freeL.mp hx
    refine ⟨?_, fun y hy => ?_, fun p hp h2 => ?_⟩
    · rw [List.nodup_append]
      exact ⟨nd, by simp, fun a ha b hb e => xr (by rw [← List.mem_singleton.mp hb, ← e]; exact ha)⟩
    · rcases List.mem_append.mp hy with hy | hy
      · exact lt y hy
      · rw [List.mem_singleton.mp hy]; exact xn
    · rcases List.mem_append.mp h2 with h2 | h2
      · obtain ⟨h3, h4⟩ := ok p hp h2
        exact ⟨List.mem_append_left _ h3, by rw [idx_app h3, idx_app h2]; exact h4⟩
      · have e := List.mem_singleton.mp h2
        have h3 := free p hp e
        refine ⟨List.mem_append_left _ h3, ?_⟩
        rw [idx_app h3, e, idx_last xr]
        exact List.idxOf_lt_length_iff.mpr h3
theorem ord_full {r : List Nat} (h : r ∈ ordL E n n) : Full n r := by
  obtain ⟨nd, lt, _⟩ := ord_sound h
  refine ⟨nd, fun x => ⟨lt x, fun hx => ?_⟩⟩
  by_cases hm : x ∈ r
  · exact hm
  · have h1 := EM.len_bound n (x :: r) (List.nodup_cons.mpr ⟨hm, nd⟩) fun y hy => by
      rcases List.mem_cons.mp hy with e | hy
      · rw [e]; exact hx
      · exact lt y hy
    have h2 := ordL_row h
    rw [List.length_cons] at h1
    omega
theorem ord_resp (h : Spo n E) {r : List Nat} (hr : r ∈ ordL E n n) : resp E r := fun p hp => ((ord_sound hr).2.2 p hp (((ord_full hr).mem _).mpr (h.bd p hp).2)).2
theorem ord_all (h : Spo n E) {r : List Nat} (f : Full n r) (hr : resp E r) : r ∈ ordL E n n := by
  have key : ∀ k, k ≤ n → r.take k ∈ ordL E n k := by
    intro k
    induction k with
    | zero => intro _; simp [ordL]
    | succ k ih =>
      intro hk
      have hl : k < r.length := by rw [f.len]; omega
      have e : r.take (k + 1) = r.take k ++ [r[k]] := take_snoc (List.getElem?_eq_getElem hl)
      have inx : ∀ y, y ∈ r → r.idxOf y < k → y ∈ r.take k := fun y hy hlt => by
        have hi : r.idxOf y < (r.take k).length := by rw [List.length_take]; omega
        have g : (r.take k)[r.idxOf y] = y := by rw [List.getElem_take, List.getElem_idxOf]
        rw [← g]
        exact List.getElem_mem hi
      refine List.mem_flatMap.mpr ⟨r.take k, ih (by omega), List.mem_map.mpr ⟨r[k], mem_freeL.mpr ⟨(f.mem _).mp (List.getElem_mem hl), fun hm => ?_, fun p hp e2 => ?_⟩, e.symm⟩⟩
      · have nd := f.nd
        rw [← List.take_append_drop (k + 1) r, e, List.nodup_append] at nd
        have nd2 := nd.1
        rw [List.nodup_append] at nd2
        exact nd2.2.2 _ hm _ (List.mem_singleton.mpr rfl) rfl
      · have h1 := hr p hp
        rw [e2, f.nd.idxOf_getElem k hl] at h1
        exact inx p.1 ((f.mem _).mpr (h.bd p hp).1) h1
  have := key n (Nat.le_refl _)
  rwa [← f.len, List.take_length, f.len] at this
/-- there is an order -/
theorem ord_one (h : Spo n E) : ∃ r, r ∈ ordL E n n := by
  let le : Nat → Nat → Bool := fun x y => decide (dn n E x ≤ dn n E y)
  have pm := List.mergeSort_perm (List.range n) le
  have f : Full n ((List.range n).mergeSort le) := ⟨pm.nodup_iff.mpr List.nodup_range, fun x => pm.mem_iff.trans List.mem_range⟩
  refine ⟨_, ord_all h f fun p hp => ?_⟩
  have pw := List.pairwise_mergeSort (le := le) (fun a b c h1 h2 => decide_eq_true (Nat.le_trans (of_decide_eq_true h1) (of_decide_eq_true h2))) (fun a b => by
    show (decide _ || decide _) = true
    rw [Bool.or_eq_true, decide_eq_true_iff, decide_eq_true_iff]
    exact Nat.le_total _ _) (List.range n)
  have b := h.bd p hp
  have m1 := (f.mem p.1).mpr b.1
  have m2 := (f.mem p.2).mpr b.2
  have i1 := List.idxOf_lt_length_iff.mpr m1
  have i2 := List.idxOf_lt_length_iff.mpr m2
  have g1 : ((List.range n).mergeSort le)[((List.range n).mergeSort le).idxOf p.1] = p.1 := List.getElem_idxOf i1
  have g2 : ((List.range n).mergeSort le)[((List.range n).mergeSort le).idxOf p.2] = p.2 := List.getElem_idxOf i2
  have lt := dn_lt h (u := p.1) (x := p.2) hp
  rcases Nat.lt_trichotomy (((List.range n).mergeSort le).idxOf p.1) (((List.range n).mergeSort le).idxOf p.2) with z | z | z
  · exact z
  · have e : p.1 = p.2 := by rw [← g1, ← g2]; congr 1
    rw [e] at lt
    omega
  · have := List.pairwise_iff_getElem.mp pw _ _ i2 i1 z
    rw [g1, g2] at this
    have := of_decide_eq_true this
    omega
theorem resp_ext (h : Spo n E) {a b : Nat} (ha : a < n) (hb : b < n) {r : List Nat} : resp (extL n E a b) r ↔ resp E r ∧ r.idxOf a < r.idxOf b := by
  constructor
  · exact fun k => ⟨fun p hp => k p (sub_ext h p hp), k (a, b) (in_ext ha hb)⟩
  · rintro ⟨k, ab⟩ p hp
    rcases (mem_ext.mp hp).2 with z | ⟨h1, h2⟩
    · exact k p z
    · have x1 : r.idxOf p.1 ≤ r.idxOf a := by
        rcases h1 with e | z
        · rw [e]; exact Nat.le_refl _
        · exact Nat.le_of_lt (k _ z)
      have x2 : r.idxOf b ≤ r.idxOf p.2 := by
        rcases h2 with e | z
        · rw [e]; exact Nat.le_refl _
        · exact Nat.le_of_lt (k _ z)
      omega
end
/-! numbers as sets of places -/
def num (S : Nat → Bool) : Nat → Nat
  | 0 => 0
  | k + 1 => num S k + if S k then 2 ^ k else 0
theorem num_lt (S : Nat → Bool) : ∀ L, num S L < 2 ^ L
  | 0 => Nat.one_pos
  | k + 1 => by
    have := num_lt S k
    rw [Nat.pow_succ]
    unfold num
    split <;> omega
theorem num_bit (S : Nat → Bool) (i : Nat) : ∀ L, (num S L).testBit i = (decide (i < L) && S i)
  | 0 => by simp [num]
  | k + 1 => by
    have ih := num_bit S i k
    have hl := num_lt S k
    unfold num
    by_cases hs : S k = true
    · rw [if_pos hs, Nat.add_comm]
      rcases Nat.lt_trichotomy i k with z | z | z
      · rw [Nat.testBit_two_pow_add_gt z, ih, decide_eq_true z, decide_eq_true (Nat.lt_succ_of_lt z)]
      · subst z
        rw [Nat.testBit_two_pow_add_eq, ih, hs]
        simp
      · rw [Nat.testBit_lt_two_pow (by
          have : 2 ^ (k + 1) ≤ 2 ^ i := Nat.pow_le_pow_right (by decide) z
          rw [Nat.pow_succ] at this
          omega), decide_eq_false (by omega), Bool.false_and]
    · rw [if_neg hs, Nat.add_zero, ih]
      by_cases e : i = k
      · subst e
        have : S i = false := by simpa using hs
        rw [this]
        simp
      · congr 1
        exact decide_eq_decide.mpr (by omega)
theorem num_and (S T : Nat → Bool) (L : Nat) : num S L &&& num T L = num (fun k => S k && T k) L := by
  refine Nat.eq_of_testBit_eq fun i => ?_
  rw [Nat.testBit_and, num_bit, num_bit, num_bit]
  cases decide (i < L) <;> simp
theorem num_split (S T : Nat → Bool) : ∀ L, num S L = num (fun k => S k && T k) L + num (fun k => S k && !T k) L
  | 0 => rfl
  | k + 1 => by
    unfold num
    rw [num_split S T k]
    cases S k <;> cases T k <;> simp <;> omega
theorem num_congr {S T : Nat → Bool} : ∀ {L : Nat}, (∀ k, k < L → S k = T k) → num S L = num T L
  | 0, _ => rfl
  | k + 1, h => by
    unfold num
    rw [num_congr (L := k) fun j hj => h j (by omega), h k (by omega)]
theorem num_inj {S T : Nat → Bool} {L : Nat} (h : num S L = num T L) {k : Nat} (hk : k < L) : S k = T k := by
  have := num_bit S k L
  rw [h, num_bit, decide_eq_true hk] at this
  simpa using this.symm
theorem num_pos {S : Nat → Bool} {L k : Nat} (hk : k < L) (h : S k = true) : num S L ≠ 0 := fun e => by
  have := num_bit S k L
  rw [e, decide_eq_true hk, h] at this
  simp at this
theorem num_true : ∀ L, num (fun _ => true) L = 2 ^ L - 1
  | 0 => rfl
  | k + 1 => by
    have := Nat.one_le_two_pow (n := k)
    unfold num
    rw [num_true k, if_pos rfl, Nat.pow_succ]
    omega
/-- the sum of some powers of two, as the code builds it -/
theorem num_sum (S : Nat → Bool) : ∀ L, (((List.range L).filter S).map fun k : Nat => (1 : Int) * 2 ^ (k : Int).toNat).sum = (num S L : Int)
  | 0 => rfl
  | k + 1 => by
    rw [List.range_succ, List.filter_append, List.map_append, List.sum_append, num_sum S k]
    show _ = ((num S k + if S k = true then 2 ^ k else 0 : Nat) : Int)
    cases h : S k with
    | true =>
      rw [List.filter_cons, if_pos h, if_pos rfl, List.filter_nil]
      simp
    | false =>
      rw [List.filter_cons, if_neg (by rw [h]; decide), if_neg (by decide), List.filter_nil]
      simp
end EV
set_option Elab.async false
set_option linter.all false
set_option autoImplicit false
set_option maxHeartbeats 4000000
/-! M5: lots of orders as numbers; the game of asks; plain Lean. -/
namespace EV
open DL
def lotN (R : List (List Nat)) (E : List Pr) : Nat := num (fun k => decide (resp E (R.getD k []))) R.length
def maskN (R : List (List Nat)) (p : Pr) : Nat := num (fun k => decide ((R.getD k []).idxOf p.1 < (R.getD k []).idxOf p.2)) R.length
theorem getD_mem {α : Type} {R : List (List α)} {k : Nat} (h : k < R.length) : R.getD k [] ∈ R := by
  rw [List.getD_eq_getElem?_getD, List.getElem?_eq_getElem h]
  exact List.getElem_mem h
section
variable {n : Nat} {E F : List Pr}
theorem lot_there (h0 : Spo n E) (h : Spo n F) (s : Sub E F) : ∃ k, k < (ordL E n n).length ∧ resp F ((ordL E n n).getD k []) := by
  obtain ⟨r, hr⟩ := ord_one h
  have rF := ord_resp h hr
  have hm := ord_all h0 (ord_full hr) fun p hp => rF p (s p hp)
  obtain ⟨k, hk, e⟩ := List.getElem_of_mem hm
  refine ⟨k, hk, ?_⟩
  rw [List.getD_eq_getElem?_getD, List.getElem?_eq_getElem hk, e]
  exact rF
theorem lot_pos (h0 : Spo n E) (h : Spo n F) (s : Sub E F) : lotN (ordL E n n) F ≠ 0 := by
  obtain ⟨k, hk, e⟩ := lot_there h0 h s
  exact num_pos hk (decide_eq_true e)
theorem Opn.of {a b : Nat} (h : Spo n F) (hp : (a, b) ∈ openL E n) (h1 : (a, b) ∉ F) (h2 : (b, a) ∉ F) : Opn n F a b := by
  have := mem_openL.mp hp
  have x1 : a < b := this.1.1
  have x2 : b < n := this.1.2
  exact ⟨by omega, x2, by omega, h1, h2⟩
theorem Opn.spo {a b : Nat} (h : Spo n F) (o : Opn n F a b) : Spo n (extL n F a b) := h.ext o.xn o.yn o.ne o.n2
theorem lot_other (h0 : Spo n E) (h : Spo n F) (s : Sub E F) {a b : Nat} (o : Opn n F a b) : ∃ k, k < (ordL E n n).length ∧ resp F ((ordL E n n).getD k []) ∧ ((ordL E n n).getD k []).idxOf b < ((ordL E n n).getD k []).idxOf a := by
  obtain ⟨k, hk, e⟩ := lot_there h0 (o.swap.spo h) (fun p hp => sub_ext h p (s p hp))
  obtain ⟨e1, e2⟩ := (resp_ext h o.yn o.xn).mp e
  exact ⟨k, hk, e1, e2⟩
/-- a lot tells its befores -/
theorem lot_inj (h0 : Spo n E) {G : List Pr} (h : Spo n F) (s : Sub E F) (hG : Spo n G) (sG : Sub E G) (e : lotN (ordL E n n) F = lotN (ordL E n n) G) : ∀ a b, (a, b) ∈ F → (a, b) ∈ G := by
  intro a b hab
  have same : ∀ k, k < (ordL E n n).length → (resp F ((ordL E n n).getD k []) ↔ resp G ((ordL E n n).getD k [])) := fun k hk => decide_eq_decide.mp (num_inj e hk)
  have bd := h.bd _ hab
  have ne : a ≠ b := fun z => h.irr a (by rw [z] at hab ⊢; exact hab)
  by_cases h1 : (a, b) ∈ G
  · exact h1
  · exfalso
    by_cases h2 : (b, a) ∈ G
    · obtain ⟨k, hk, e1⟩ := lot_there h0 hG sG
      have x1 := e1 _ h2
      have x2 := (same k hk).mpr e1 _ hab
      have x1' : ((ordL E n n).getD k []).idxOf b < ((ordL E n n).getD k []).idxOf a := x1
      have x2' : ((ordL E n n).getD k []).idxOf a < ((ordL E n n).getD k []).idxOf b := x2
      omega
    · obtain ⟨k, hk, e1, e2⟩ := lot_other h0 hG sG (a := a) (b := b) ⟨bd.1, bd.2, ne, h1, h2⟩
      have x2 := (same k hk).mpr e1 _ hab
      have x2' : ((ordL E n n).getD k []).idxOf a < ((ordL E n n).getD k []).idxOf b := x2
      omega
theorem lot_opn (h0 : Spo n E) {G : List Pr} (h : Spo n F) (s : Sub E F) (hG : Spo n G) (sG : Sub E G) (e : lotN (ordL E n n) F = lotN (ordL E n n) G) : opn n F = opn n G :=
  opn_same fun a b => ⟨lot_inj h0 h s hG sG e a b, lot_inj h0 hG sG h s e.symm a b⟩
theorem idx_ne {r : List Nat} {a b : Nat} (f : Full n r) (ha : a < n) (hb : b < n) (ne : a ≠ b) : r.idxOf a ≠ r.idxOf b := fun e => by
  have i1 := List.idxOf_lt_length_iff.mpr ((f.mem a).mpr ha)
  have i2 := List.idxOf_lt_length_iff.mpr ((f.mem b).mpr hb)
  have g1 : r[r.idxOf a] = a := List.getElem_idxOf i1
  have g2 : r[r.idxOf b] = b := List.getElem_idxOf i2
  exact ne (by rw [← g1, ← g2]; congr 1)
theorem lot_and (F : List Pr) (R : List (List Nat)) (p : Pr) : lotN R F &&& maskN R p = num (fun k => decide (resp F (R.getD k [])) && decide ((R.getD k []).idxOf p.1 < (R.getD k []).idxOf p.2)) R.length := num_and _ _ _
theorem lot_in {R : List (List Nat)} {p : Pr} (hp : p ∈ F) : lotN R F &&& maskN R p = lotN R F := by
  rw [lot_and]
  refine num_congr fun k _ => ?_
  by_cases h : resp F (R.getD k [])
  · rw [decide_eq_true h, decide_eq_true (h p hp)]; rfl
  · rw [decide_eq_false h]; rfl
theorem num_zero {S : Nat → Bool} : ∀ {L : Nat}, (∀ k, k < L → S k = false) → num S L = 0
  | 0, _ => rfl
  | k + 1, h => by
    unfold num
    rw [num_zero (L := k) fun j hj => h j (by omega), h k (by omega)]
    rfl
theorem lot_out {R : List (List Nat)} {a b : Nat} (hp : (b, a) ∈ F) : lotN R F &&& maskN R (a, b) = 0 := by
  rw [lot_and]
  refine num_zero fun k _ => ?_
  by_cases h : resp F (R.getD k [])
  · have x : (R.getD k []).idxOf b < (R.getD k []).idxOf a := h _ hp
    rw [decide_eq_true h, decide_eq_false (show ¬ (R.getD k []).idxOf (a, b).1 < (R.getD k []).idxOf (a, b).2 from fun z => by
      have z' : (R.getD k []).idxOf a < (R.getD k []).idxOf b := z
      omega)]
    rfl
  · rw [decide_eq_false h]; rfl
theorem lot_both (h0 : Spo n E) (h : Spo n F) (s : Sub E F) {a b : Nat} (o : Opn n F a b) :
    lotN (ordL E n n) F &&& maskN (ordL E n n) (a, b) = lotN (ordL E n n) (extL n F a b) ∧ lotN (ordL E n n) F = lotN (ordL E n n) (extL n F a b) + lotN (ordL E n n) (extL n F b a) := by
  have e1 : lotN (ordL E n n) (extL n F a b) = num (fun k => decide (resp F ((ordL E n n).getD k [])) && decide (((ordL E n n).getD k []).idxOf a < ((ordL E n n).getD k []).idxOf b)) (ordL E n n).length := by
    refine num_congr fun k hk => ?_
    rw [← Bool.decide_and]
    exact decide_eq_decide.mpr (resp_ext h o.xn o.yn)
  have e2 : lotN (ordL E n n) (extL n F b a) = num (fun k => decide (resp F ((ordL E n n).getD k [])) && !decide (((ordL E n n).getD k []).idxOf a < ((ordL E n n).getD k []).idxOf b)) (ordL E n n).length := by
    refine num_congr fun k hk => ?_
    rw [← decide_not, ← Bool.decide_and]
    refine decide_eq_decide.mpr ((resp_ext h o.yn o.xn).trans (and_congr Iff.rfl ?_))
    have := idx_ne (ord_full (getD_mem hk)) o.xn o.yn o.ne
    omega
  exact ⟨(lot_and _ _ _).trans e1.symm, by rw [e1, e2]; exact num_split _ _ _⟩
theorem opn_ext_lt (h : Spo n F) {a b : Nat} (o : Opn n F a b) : opn n (extL n F a b) < opn n F := by
  rcases Nat.lt_or_ge a b with z | z
  · exact opn_lt (sub_ext h) (p := (a, b)) (mem_openL.mpr ⟨⟨z, o.yn⟩, o.n1, o.n2⟩) (.inl (in_ext o.xn o.yn))
  · have : b < a := by have := o.ne; omega
    exact opn_lt (sub_ext h) (p := (b, a)) (mem_openL.mpr ⟨⟨this, o.xn⟩, o.n2, o.n1⟩) (.inr (in_ext o.xn o.yn))
/-- a pair that costs just one -/
theorem crit_in (h : Spo n F) (s : Sub E F) (h1 : opn n F ≠ 0) : ∃ p ∈ openL E n, Opn n F p.1 p.2 ∧ (opn n F ≤ opn n (extL n F p.1 p.2) + 1 ∨ opn n F ≤ opn n (extL n F p.2 p.1) + 1) := by
  obtain ⟨q, hq⟩ := List.exists_mem_of_length_pos (Nat.pos_of_ne_zero h1)
  have mq := mem_openL.mp hq
  have oq : Opn n F q.1 q.2 := ⟨by have := mq.1; omega, mq.1.2, by have := mq.1; omega, mq.2.1, mq.2.2⟩
  obtain ⟨x, y, o, c1, c2⟩ := crit h _ q.1 q.2 (Nat.le_refl _) oq
  have key : ∀ p : Pr, (p = (x, y) ∨ p = (y, x)) → opn n F ≤ opn n (extL n F x y) + 1 := fun p hp => by
    refine opn_crit (p := if x < y then (x, y) else (y, x)) fun r hr hne => ?_
    have mr := mem_openL.mp hr
    refine mem_openL.mpr ⟨mr.1, fun z => ?_, fun z => ?_⟩
    · rcases ext_crit h c1 c2 z with z | z
      · exact mr.2.1 z
      · have e : r = (x, y) := by rw [← z]
        have lt : x < y := by have := mr.1.1; rw [e] at this; exact this
        rw [if_pos lt] at hne
        exact hne e
    · rcases ext_crit h c1 c2 z with z | z
      · exact mr.2.2 z
      · obtain ⟨e1, e2⟩ := Prod.mk.inj z
        have e : r = (y, x) := Prod.ext e2 e1
        have lt : y < x := by have := mr.1.1; rw [e] at this; exact this
        rw [if_neg (by omega)] at hne
        exact hne e
  have sub := key _ (.inl rfl)
  rcases Nat.lt_or_ge x y with z | z
  · exact ⟨(x, y), mem_openL.mpr ⟨⟨z, o.yn⟩, fun k => o.n1 (s _ k), fun k => o.n2 (s _ k)⟩, o, .inl sub⟩
  · have : y < x := by have := o.ne; omega
    exact ⟨(y, x), mem_openL.mpr ⟨⟨this, o.xn⟩, fun k => o.n2 (s _ k), fun k => o.n1 (s _ k)⟩, o.swap, .inr sub⟩
end
/-! how many lots there can be -/
def subs {α : Type} : List α → List (List α)
  | [] => [[]]
  | x :: l => subs l ++ (subs l).map (x :: ·)
theorem subs_len {α : Type} : ∀ l : List α, (subs l).length = 2 ^ l.length
  | [] => rfl
  | x :: l => by
    unfold subs
    rw [List.length_append, List.length_map, subs_len l, List.length_cons, Nat.pow_succ]
    omega
theorem filter_subs {α : Type} (p : α → Bool) : ∀ l : List α, l.filter p ∈ subs l
  | [] => List.mem_singleton.mpr rfl
  | x :: l => by
    unfold subs
    rw [List.filter_cons]
    split
    · exact List.mem_append_right _ (List.mem_map.mpr ⟨_, filter_subs p l, rfl⟩)
    · exact List.mem_append_left _ (filter_subs p l)
def offd : List Pr := (allP 5).filter fun p => decide (p.1 ≠ p.2)
theorem offd_len : offd.length = 20 := by decide +kernel
theorem Spo.sub5 {n : Nat} {F : List Pr} (h : Spo n F) (n5 : n ≤ 5) : F ∈ subs offd := by
  have e : F = offd.filter fun p => decide (p ∈ F) := by
    refine EM.asc_unique h.asc (((asc_allP 5).filter _).filter _) fun p => ?_
    unfold offd
    rw [List.mem_filter, List.mem_filter, mem_allP, decide_eq_true_iff, decide_eq_true_iff]
    refine ⟨fun hp => ⟨⟨?_, fun e => ?_⟩, hp⟩, fun z => z.2⟩
    · have := h.bd p hp
      omega
    · exact h.irr p.1 (by rw [show (p.1, p.1) = p from Prod.ext rfl e]; exact hp)
  rw [e]
  exact filter_subs _ _
theorem lots_few {n : Nat} {E : List Pr} (n5 : n ≤ 5) {l : List Nat} (nd : l.Nodup) (h : ∀ x ∈ l, ∃ F, Spo n F ∧ x = lotN (ordL E n n) F) : l.length < 16777216 := by
  have h1 := nodup_sub_len (m := (subs offd).map fun F => lotN (ordL E n n) F) nd fun x hx => by
    obtain ⟨F, hF, e⟩ := h x hx
    exact List.mem_map.mpr ⟨F, hF.sub5 n5, e.symm⟩
  rw [List.length_map, subs_len, offd_len] at h1
  have : (2 : Nat) ^ 20 = 1048576 := by decide
  omega
end EV
set_option Elab.async false
set_option linter.all false
set_option autoImplicit false
set_option maxRecDepth 100000
set_option maxHeartbeats 4000000
/-! B7: small webs, masks, the game of asks. -/
namespace EV
open L2 PySem DL
open PyProof.Rows (boot_any boot_all boot_sum boot_max boot_min boot_sorted boot_int boot_bool boot_tuple boot_list boot_set boot_str)
abbrev st__law_small : Stmt := top 31
theorem sc__law_small : FnScope ["_law_tape_here", "_law_most", "_law_rows", "_law_many", "_law_every", "_law_turn", "_law_left", "_law_pair"] ["_law_tape_here", "_law_most", "_law_rows"] (defScope st__law_small) := ⟨rfl, rfl, rfl, by decide +kernel, rfl, by decide +kernel, by decide +kernel⟩
abbrev st__law_masks : Stmt := top 32
theorem sc__law_masks : FnScope ["_law_rows", "_law_pairs_here", "_law_found", "_law_one", "_law_other", "_law_k"] ["_law_rows", "_law_pairs_here"] (defScope st__law_masks) := ⟨rfl, rfl, rfl, by decide +kernel, rfl, by decide +kernel, by decide +kernel⟩
abbrev st__law_asked : Stmt := top 33
theorem sc__law_asked : FnScope ["_law_lot", "_law_masks_here", "_law_known", "_law_least", "_law_most", "_law_mask", "_law_first", "_law_one", "_law_other"] ["_law_lot", "_law_masks_here", "_law_known"] (defScope st__law_asked) := ⟨rfl, rfl, rfl, by decide +kernel, rfl, by decide +kernel, by decide +kernel⟩
abbrev st__law_by_pairs : Stmt := top 34
theorem sc__law_by_pairs : FnScope ["_law_every", "_law_many", "_law_rows", "_law_masks_here", "_law_known", "_law_whole", "_law_found", "_law_first", "_law_mask", "_law_here"] ["_law_every", "_law_many"] (defScope st__law_by_pairs) := ⟨rfl, rfl, rfl, by decide +kernel, rfl, by decide +kernel, by decide +kernel⟩
theorem free_le1 {n : Nat} {E : List Pr} (h : openL E n = []) (r : List Nat) : (freeL E n r).length ≤ 1 := by
  have nd : (freeL E n r).Nodup := List.nodup_range.filter _
  match hf : freeL E n r with
  | [] => exact Nat.zero_le _
  | [x] => exact Nat.le_refl _
  | x :: y :: l =>
    exfalso
    rw [hf] at nd
    have ne : x ≠ y := by
      rw [List.nodup_cons] at nd
      exact fun e => nd.1 (e ▸ List.mem_cons_self)
    have hx := mem_freeL.mp (show x ∈ freeL E n r by rw [hf]; exact List.mem_cons_self)
    have hy := mem_freeL.mp (show y ∈ freeL E n r by rw [hf]; exact List.mem_cons_of_mem _ List.mem_cons_self)
    have n1 : (x, y) ∉ E := fun z => hx.2.1 (hy.2.2 _ z rfl)
    have n2 : (y, x) ∉ E := fun z => hy.2.1 (hx.2.2 _ z rfl)
    rcases Nat.lt_or_ge x y with z | z
    · have := mem_openL.mpr (show ((x, y).1 < (x, y).2 ∧ (x, y).2 < n) ∧ ((x, y).1, (x, y).2) ∉ E ∧ ((x, y).2, (x, y).1) ∉ E from ⟨⟨z, hy.1⟩, n1, n2⟩)
      rw [h] at this
      cases this
    · have := mem_openL.mpr (show ((y, x).1 < (y, x).2 ∧ (y, x).2 < n) ∧ ((y, x).1, (y, x).2) ∉ E ∧ ((y, x).2, (y, x).1) ∉ E from ⟨⟨by show y < x; omega, hx.1⟩, n2, n1⟩)
      rw [h] at this
      cases this
theorem ord_le1 {n : Nat} {E : List Pr} (h : openL E n = []) : ∀ k, (ordL E n k).length ≤ 1
  | 0 => Nat.le_refl _
  | k + 1 => by
    have := flat_len (f := fun r => (freeL E n r).map fun x => r ++ [x]) (k := 1) (l := ordL E n k) fun r _ => by rw [List.length_map]; exact free_le1 h r
    have ih := ord_le1 h k
    exact Nat.le_trans this (by omega)
theorem opn_ten {n : Nat} {E : List Pr} (n5 : n ≤ 5) : opn n E ≤ 10 := by
  unfold opn
  rw [openL_eq]
  have h1 := nodup_sub_len (m := upL 5) (nodup_upL n) fun p hp => mem_upL.mpr ⟨(mem_upL.mp hp).1, Nat.lt_of_lt_of_le (mem_upL.mp hp).2 n5⟩
  have h2 : (upL 5).length = 10 := by decide +kernel
  exact Nat.le_trans (List.length_filter_le _ _) (by omega)
section
variable {P : Program} {w : World} {K : PySem.W.Frag} {mg : Str → Option Value} {base : Heap}
/-! _law_small -/
abbrev SmI := { r : Nat // 1 ≤ r }
def a_sm (T : Addr) (i : SmI) : List DL.D := [.ref T, eN 5, eN i.1]
def p_sm (i : SmI) (d : DL.D) : Prop := ∃ n E, 1 ≤ n ∧ n ≤ 5 ∧ Spo n E ∧ d = .tup [eN n, pT E]
theorem ok_law_small (B : Bl mg) (G : GF K mg "_law_small" st__law_small ["_law_tape_here", "_law_most", "_law_rows"]) (c__law_pick : Can P w K mg base "_law_pick" 1 ["_law_tape_here", "_law_many"] (spT a_pick p_pick))
    (c__law_web : Can P w K mg base "_law_web" 3 ["_law_tape_here", "_law_most"] (spT a_lw p_lw)) (c__law_orders : Can P w K mg base "_law_orders" 2 ["_law_befores", "_law_many"] (spD P0 a_or p_or))
    (c__law_open : Can P w K mg base "_law_open" 1 ["_law_every", "_law_many"] (spD P0 a_op p_op)) (c__law_closed : Can P w K mg base "_law_closed" 1 ["_law_pairs_here"] (spD P0 a_lc p_lc)) :
    Can P w K mg base "_law_small" 4 ["_law_tape_here", "_law_most", "_law_rows"] (spT a_sm p_sm) := by
  refine Can.ofT G sc__law_small (fun _ _ => rfl) fun f cdv A outer s H E hr => ?_
  refine ⟨_, (pss_cons (ps_asg (pe_can (c__law_web.up (by decide)) hr (by rfl) (pa_cons (pv 0) (pa_cons (pv 1) pa_nil))) (KV.pg_tup K (n := 2) rfl (pgs_cons (pg_name (i := 3) sc__law_small.nd rfl (by first | exact Or.inl rfl | exact Or.inr rfl)) (pgs_cons (pg_name (i := 4) sc__law_small.nd rfl (by first | exact Or.inl rfl | exact Or.inr rfl)) pgs_nil))))
      (pss_cons (ps_for PassesOwn.never rfl (pi_range1 (by rfl) B.range (pa_cons (pe_int) pa_nil)) (pg_name (i := 5) sc__law_small.nd rfl (by first | exact Or.inl rfl | exact Or.inr rfl))
      (pss_one (ps_if (pt_cmpR op_gt (pe_callB (KV.cb_len K) (by rfl) B.len PySem.boot_len (pa_cons (pe_can (c__law_orders.up (by decide)) hr (by rfl) (pa_cons (pv 4) (pa_cons (pv 3) pa_nil))) pa_nil)) (pv 2) (nomark _)) (pss_cons (ps_set (i := 6) sc__law_small.nd rfl (Or.inl rfl) (pe_can (c__law_open.up (by decide)) hr (by rfl) (pa_cons (pv 4) (pa_cons (pv 3) pa_nil))))
      (pss_cons (ps_set (i := 7) sc__law_small.nd rfl (Or.inl rfl) (pe_ix (KV.ix_list K) (pv 6) (pe_can (c__law_pick.up (by decide)) hr (by rfl) (pa_cons (pv 0) (pa_cons (pe_callB (KV.cb_len K) (by rfl) B.len PySem.boot_len (pa_cons (pv 6) pa_nil)) pa_nil))) (fun _ _ => rfl)))
      (pss_one (ps_set (i := 4) sc__law_small.nd rfl (Or.inl rfl) (pe_can (c__law_closed.up (by decide)) hr (by rfl) (pa_cons (pe_op (KV.op_catA K) (pv 4) (pe_tup (pa_cons (pv 7) pa_nil))) pa_nil)))))) pss_nil)))
      (pss_one (ps_ret (pe_tup (pa_cons (pv 3) (pa_cons (pv 4) pa_nil))))))), fun T i => ?_⟩
  obtain ⟨rows, r1⟩ := i
  refine q_asg (ev_callT (⟨5, by decide, by decide⟩ : WbI) (ea_2 (ev_var rfl) (ev_var rfl)) fun d h => h) fun d ⟨n, E, n1, n5, hE, e⟩ => ?_
  subst e
  have n5 : n ≤ 5 := n5
  refine ⟨_, gt_two, ?_⟩
  refine q_forD (List.range 10) eN (src_rangeN (ea_1 (ev_N (n := 10))) (by decide)) (fun i G O => ∃ E, Spo n E ∧ O = [] ∧ DL.Keeps [some (.ref T), none, some (eN rows), some (eN n), some (pT E), none, none, none] G) ⟨E, hE, rfl, (by repeat (first | exact True.intro | refine And.intro rfl ?_))⟩ (fun i x G O hx ⟨E, hE, eO, kG⟩ => ⟨_, gt_name, ?_⟩) fun G O ⟨E, hE, eO, kG⟩ => ?_
  · subst eO
    have lE := hE.few (by omega)
    refine st_keep (Γ0 := [some (.ref T), none, some (eN rows), some (eN n), some (pT E), some (eN x), none, none]) (kG.set 5) ?_
    refine st_if (x := decide ((rows : Int) < ((ordL E n n).length : Int))) (et_test (ev_op (ev_cb1 (EvS.imp (ev_callD (Proto.Le.zero _) (⟨n, E, n5, by omega⟩ : OrI) (ea_2 (ev_var rfl) (ev_var rfl))) fun d h => h) c_lenLM) (ev_var rfl) o_cmp)) (fun e => ?_) fun _ => st_next ⟨E, hE, rfl, (by repeat (first | exact True.intro | refine And.intro rfl ?_))⟩
    have big := of_decide_eq_true e
    have ne : openL E n ≠ [] := fun z => by
      have := ord_le1 z n
      omega
    have pos := List.length_pos_iff.mpr ne
    have small := opn_ten (E := E) n5
    have small : (openL E n).length ≤ 10 := small
    refine q_set (EvS.imp (ev_callD (Proto.Le.zero _) (⟨n, E, by omega, by omega⟩ : OpI) (ea_2 (ev_var rfl) (ev_var rfl))) fun d h => h) fun d (e : d = pL (openL E n)) => ?_
    subst e
    refine q_set (S := fun d => ∃ p ∈ openL E n, d = eP p) ?_ fun d ⟨p, hp, e⟩ => ?_
    · refine ev_opS (Sa := fun d => d = pL (openL E n)) (ev_var rfl) (Sb := fun _ d => ∃ r : Nat, r < (openL E n).length ∧ d = eN r) (fun _ _ => ev_callT (⟨(openL E n).length, by omega, by omega⟩ : MI) (ea_2 (ev_var rfl) (ev_cb1 (ev_var rfl) c_lenLM)) fun d h => h) fun a b ea ⟨r, hr, eb⟩ => ?_
      subst ea
      subst eb
      exact fun _ _ _ _ s p ia ib Q q => o_ixL (l := (openL E n).map eP) (n := r) (d := eP ((openL E n)[r])) (by rw [List.getElem?_map, List.getElem?_eq_getElem hr]; rfl) s p ia ib Q fun v Hf2 H2 d e => q v Hf2 H2 d ⟨_, List.getElem_mem hr, e⟩
    subst e
    have mp := mem_openL.mp hp
    have pa : p.1 < n := by omega
    have pn : p.1 ≠ p.2 := by omega
    refine st_set (S := fun d => ∃ M, Spo n M ∧ d = pT M) (ev_call (Proto.Le.zero _) (ea_1 (Ev.is (b := pT (E ++ [p])) (ev_op (ev_var rfl) (ev_tup (ea_1 (ev_var rfl)) (show 1 ≤ 16777216 by decide)) (o_catT (by rw [List.length_map]; show E.length + 1 ≤ _; omega))) (by unfold pT; rw [List.map_append]; rfl))) fun ds e => ⟨(⟨n, E ++ [p], by omega, by rw [List.length_append, List.length_singleton]; omega, fun q hq => ?_, irr_ext hE pa mp.1.2 pn mp.2.2⟩ : LcI), e, fun d hd => by
      obtain ⟨M, c, e⟩ := hd
      refine ⟨M, ?_, e⟩
      rw [cl_ext hE pa mp.1.2 pn mp.2.2 c]
      exact hE.ext pa mp.1.2 pn mp.2.2⟩) fun d ⟨M, hM, e⟩ => ⟨M, hM, rfl, by rw [e]; repeat (first | exact True.intro | refine And.intro rfl ?_)⟩
    rcases List.mem_append.mp hq with hq | hq
    · exact hE.bd q hq
    · rw [List.mem_singleton.mp hq]; exact ⟨pa, mp.1.2⟩
  · subst eO
    exact st_keep kG (st_ret (ev_tup (ea_2 (ev_var rfl) (ev_var rfl)) (show 2 ≤ 16777216 by decide)) fun d e => ⟨n, E, n1, n5, hE, e⟩)
/-! _law_masks -/
structure MkI where
  R : List (List Nat)
  ps : List Pr
  lR : R.length ≤ 3125
  lp : ps.length < 1000
  inn : ∀ r ∈ R, ∀ p ∈ ps, p.1 ∈ r ∧ p.2 ∈ r
def a_mk (i : MkI) : List DL.D := [rL i.R, pL i.ps]
def p_mk (i : MkI) (d : DL.D) : Prop := d = nL (i.ps.map (maskN i.R))
theorem ok_law_masks (B : Bl mg) (G : GF K mg "_law_masks" st__law_masks ["_law_rows", "_law_pairs_here"]) : Can P w K mg base "_law_masks" 1 ["_law_rows", "_law_pairs_here"] (spD P0 a_mk p_mk) := by
  refine Can.ofD G sc__law_masks (fun _ => rfl) fun f cdv A outer s H E hr => ?_
  refine ⟨_, (pss_cons (ps_set (i := 2) sc__law_masks.nd rfl (Or.inl rfl) (pe_lst pa_nil))
      (pss_cons (ps_for PassesOwn.never rfl (KV.pi_list K (pv 1)) (KV.pg_tup K (n := 2) rfl (pgs_cons (pg_name (i := 3) sc__law_masks.nd rfl (by first | exact Or.inl rfl | exact Or.inr rfl)) (pgs_cons (pg_name (i := 4) sc__law_masks.nd rfl (by first | exact Or.inl rfl | exact Or.inr rfl)) pgs_nil)))
      (pss_one (ps_expr (pe_bm PySem.F.plainAttrs_list PySem.F.slot_list_append PySem.F.type_list_append mt_append (pv 2) (pa_cons (pe_callB (KV.cr_sum K rfl) (by rfl) B.sum boot_sum (pa_cons (pe_lc (own := [("_law_k", 5)]) rfl sc__law_masks.nd (pi_range1 (by rfl) B.range (pa_cons (pe_callB (KV.cb_len K) (by rfl) B.len PySem.boot_len (pa_cons (pv 0) pa_nil)) pa_nil)) (blkOk_by (N := ["_law_rows", "_law_pairs_here", "_law_found", "_law_one", "_law_other", "_law_k"]) (sc := defScope st__law_masks) (by decide +kernel)) (fun _ _ _ _ _ => (pg_name (i := 5) sc__law_masks.nd rfl (by first | exact Or.inl rfl | exact Or.inr rfl))) (fun _ _ _ _ _ => (pts_one (pt_cmpR op_lt (RU.pe_rm PySem.F.slot_tuple_index PySem.F.type_tuple_index (KV.mt_tix K) (pe_ix (KV.ix_list K) (pv 0) (pv 5) (fun _ _ => rfl)) (pa_cons (pv 3) pa_nil)) (RU.pe_rm PySem.F.slot_tuple_index PySem.F.type_tuple_index (KV.mt_tix K) (pe_ix (KV.ix_list K) (pv 0) (pv 5) (fun _ _ => rfl)) (pa_cons (pv 4) pa_nil)) (nomark _)))) (fun _ _ _ _ _ => (pe_op op_shl (pe_int) (pv 5)))) pa_nil)) pa_nil)))))
      (pss_one (ps_ret (pv 2))))), fun i => ?_⟩
  obtain ⟨R, ps, lR, lp, inn⟩ := i
  refine q_new fun F => ?_
  refine q_forP ps (fun p => eN p.1) (fun p => eN p.2) [some (rL R), some (pL ps), some (.ref F), none, none, none] (src_list (ev_var rfl)) (fun i O => O = [(F, .lst (((ps.take i).map (maskN R)).map eN))]) (by repeat (first | exact True.intro | refine And.intro rfl ?_)) rfl (fun i p O hp eO => ?_) fun O eO => ?_
  · subst eO
    have hpm := List.mem_of_getElem? hp
    refine st_append (S := fun d => d = eN (maskN R p)) (ev_var rfl) ?_ (by
      rw [List.length_map, List.length_map, List.length_take]
      omega) fun d e => ⟨(by repeat (first | exact True.intro | refine And.intro rfl ?_)), by rw [e, take_snoc hp, List.map_append, List.map_append]; rfl⟩
    refine EvS.imp (ev_cb1 (ev_lc (List.range R.length) eN (fun k => decide ((R.getD k []).idxOf p.1 < (R.getD k []).idxOf p.2)) (fun k => DL.D.int ((1 : Int) * 2 ^ (k : Int).toNat)) (src_rangeN (ea_1 (ev_cb1 (ev_var rfl) c_lenLM)) (by omega)) (by rw [List.length_range]; omega) fun j k hk => ⟨_, gv_name List.mem_cons_self, ?_, fun _ => ev_op ev_int (ev_var rfl) (o_shl ?_)⟩) c_sumM) fun d e => ?_
    · have hk' := List.mem_range.mp (List.mem_of_getElem? hk)
      have hm := inn _ (getD_mem hk') p hpm
      have at_ : (R.map nR)[k]? = some (nR (R.getD k [])) := by
        rw [List.getElem?_map, List.getElem?_eq_getElem hk', List.getD_eq_getElem?_getD, List.getElem?_eq_getElem hk']
        rfl
      exact EvT.is (et_test (ev_op (ev_index (ev_op (ev_var rfl) (ev_var rfl) (o_ixL at_)) (ev_var rfl) hm.1) (ev_index (ev_op (ev_var rfl) (ev_var rfl) (o_ixL at_)) (ev_var rfl) hm.2) o_cmp)) (decide_eq_decide.mpr (by omega))
    · have hk' := List.mem_range.mp (List.mem_of_getElem? hk)
      exact ⟨by omega, by omega, by decide⟩
    · rw [e, num_sum]
      rfl
  · rw [List.take_length] at eO
    subst eO
    exact st_freeze [2] (fun i hi => by rw [List.mem_singleton.mp hi]; rfl) (fun z => z) (st_ret (ev_var rfl) fun d e => e)
/-! _law_asked -/
structure Gm where
  n : Nat
  E : List Pr
  n5 : n ≤ 5
  spo : Spo n E
def Gm.R (g : Gm) : List (List Nat) := ordL g.E g.n g.n
def Gm.masks (g : Gm) : List Nat := (openL g.E g.n).map (maskN g.R)
def Good (g : Gm) (lot : Nat) (v : Nat × Nat) : Prop := ∃ F, Spo g.n F ∧ Sub g.E F ∧ lot = lotN g.R F ∧ v.2 = opn g.n F
abbrev AI (g : Gm) (j : Nat) := { F : List Pr // Spo g.n F ∧ Sub g.E F ∧ opn g.n F < j }
def a_ask (D : Addr) (g : Gm) {j : Nat} (i : AI g j) : List DL.D := [eN (lotN g.R i.1), nL g.masks, .ref D]
def p_ask (g : Gm) {j : Nat} (i : AI g j) (d : DL.D) : Prop := ∃ v : Nat × Nat, v.2 = opn g.n i.1 ∧ d = eP v
def spA (j : Nat) : Sp := fun vs H Q X => ∃ (D : Addr) (g : Gm), spD (PK D (Good g)) (a_ask D g) (p_ask g (j := j)) vs H Q X
theorem ev_callA {D : Addr} {g : Gm} {j : Nat} {tl : TA} {Γ : En} {Ω : Ow} {S : DL.D → Prop} {X : XK} (i : AI g j) (h : EvL (PK D (Good g)) tl Γ Ω (a_ask D g i)) (k : ∀ d, p_ask g i d → S d) : EvS (PK D (Good g)) (tCall (spA j) [] X tl) Γ Ω S := fun _ _ _ _ _ _ c Q q => h c _ fun vs Hf2 H2 ds sd s iv => by
  subst sd
  rw [List.append_nil]
  have c2 := c.mono s
  exact ⟨D, g, i, Hf2, c2.sub, c2.pr, iv, fun v Hf3 H3 d pd s3 i3 => q v _ _ d (k d pd) (s.trans s3) i3⟩
theorem ok_law_asked (B : Bl mg) (G : GF K mg "_law_asked" st__law_asked ["_law_lot", "_law_masks_here", "_law_known"]) : ∀ j, Can P w K mg base "_law_asked" j ["_law_lot", "_law_masks_here", "_law_known"] (spA j) := by
  intro j
  induction j with
  | zero =>
    obtain ⟨f, fd, m, F, b⟩ := G
    have no : ∀ vs H Q X, ¬ spA 0 vs H Q X := fun vs H Q X ⟨D, g, i, _⟩ => absurd i.2.2.2 (Nat.not_lt_zero _)
    exact ⟨f, fd, m, F.kp, b, ⟨fun vs H Q X h => absurd h (no vs H Q X), fun A outer s H args us vs Q X hr he hb hv hs => absurd hs (no vs H Q X)⟩⟩
  | succ j c__law_asked =>
    refine Can.mk G sc__law_asked (fun vs H Q X ⟨D, g, h⟩ => sp_len (n := 3) (fun i => rfl) h) fun f cdv A outer s H X hr => ?_
    refine ⟨_, (pss_cons (ps_if (pt_cmp (pc_dnotin (hu_of hr) (pv 0) (pv 2)) (by rfl)) (pss_cons (ps_par (i := 3) (j := 4) (by rfl) sc__law_asked.nd rfl rfl (by decide) rfl rfl (pa_cons (pe_lst pa_nil) (pa_cons (pe_lst pa_nil) pa_nil)) (by rfl))
      (pss_cons (ps_for PassesOwn.never rfl (KV.pi_list K (pv 1)) (pg_name (i := 5) sc__law_asked.nd rfl (by first | exact Or.inl rfl | exact Or.inr rfl))
      (pss_cons (ps_set (i := 6) sc__law_asked.nd rfl (Or.inl rfl) (pe_op op_and (pv 0) (pv 5)))
      (pss_one (ps_if (PW.pt (pw_and (pt_cmpR op_ne (pv 6) (pe_int) (nomark _)) (pw_and1 (pt_cmpR op_ne (pv 6) (pv 0) (nomark _))))) (pss_cons (ps_set (i := 7) sc__law_asked.nd rfl (Or.inl rfl) (pe_can (c__law_asked.up (Nat.le_refl _)) hr (by rfl) (pa_cons (pv 6) (pa_cons (pv 1) (pa_cons (pv 2) pa_nil)))))
      (pss_cons (ps_set (i := 8) sc__law_asked.nd rfl (Or.inl rfl) (pe_can (c__law_asked.up (Nat.le_refl _)) hr (by rfl) (pa_cons (pe_op op_sub (pv 0) (pv 6)) (pa_cons (pv 1) (pa_cons (pv 2) pa_nil)))))
      (pss_cons (ps_expr (pe_bm PySem.F.plainAttrs_list PySem.F.slot_list_append PySem.F.type_list_append mt_append (pv 3) (pa_cons (pe_op op_add (pe_int) (pe_callB (cb_max2 rfl) (by rfl) B.max boot_max (pa_cons (pe_ix (KV.ix_tup K) (pv 7) (pe_int) (fun _ _ => rfl)) (pa_cons (pe_ix (KV.ix_tup K) (pv 8) (pe_int) (fun _ _ => rfl)) pa_nil)))) pa_nil)))
      (pss_one (ps_expr (pe_bm PySem.F.plainAttrs_list PySem.F.slot_list_append PySem.F.type_list_append mt_append (pv 4) (pa_cons (pe_op op_add (pe_int) (pe_callB (cb_max2 rfl) (by rfl) B.max boot_max (pa_cons (pe_ix (KV.ix_tup K) (pv 7) (pe_int) (fun _ _ => rfl)) (pa_cons (pe_ix (KV.ix_tup K) (pv 8) (pe_int) (fun _ _ => rfl)) pa_nil)))) pa_nil))))))) pss_nil))))
      (pss_one (ps_dput (hu_of hr) (pv 2) (pv 0) (pe_ifExp (pt_cmpR op_gt (pe_callB (KV.cb_len K) (by rfl) B.len PySem.boot_len (pa_cons (pv 3) pa_nil)) (pe_int) (nomark _)) (pe_tup (pa_cons (pe_callB (KV.cr_min K rfl) (by rfl) B.min boot_min (pa_cons (pv 3) pa_nil)) (pa_cons (pe_callB (KV.cr_max K rfl) (by rfl) B.max boot_max (pa_cons (pv 4) pa_nil)) pa_nil))) (pe_tup (pa_cons (pe_int) (pa_cons (pe_int) pa_nil)))) rfl)))) pss_nil)
      (pss_one (ps_ret (pe_dget (hu_of hr) (pv 2) (pv 0) (fun _ _ => rfl))))), fun vs Q ⟨D, g, h⟩ => def_start h fun i => ?_⟩
    obtain ⟨F, hF, sF, lt⟩ := i
    have hR : ∀ v, Good g (lotN g.R F) v → p_ask g (j := j + 1) ⟨F, hF, sF, lt⟩ (eP v) := fun v ⟨F', h1, h2, h3, h4⟩ => ⟨v, h4.trans (lot_opn g.spo h1 h2 hF sF h3.symm), rfl⟩
    rw [if_seq, seq_seq, seq_seq]
    refine st_memo (n := lotN g.R F) rfl rfl ?_ fun v h => hR v h
    refine q_twoNew fun p q => ?_
    let crit : Pr → Prop := fun p0 => Opn g.n F p0.1 p0.2 ∧ (opn g.n F ≤ opn g.n (extL g.n F p0.1 p0.2) + 1 ∨ opn g.n F ≤ opn g.n (extL g.n F p0.2 p0.1) + 1)
    have src : Src (PK D (Good g)) (iList K (tVar 1)) [some (eN (lotN g.R F)), some (nL g.masks), some (.ref D), some (.ref p), some (.ref q), none, none, none, none] [(q, .lst []), (p, .lst [])] ((openL g.E g.n).map fun p0 => eN (maskN g.R p0)) := by
      have := src_list (P := PK D (Good g)) (K := K) (Γ := [some (eN (lotN g.R F)), some (nL g.masks), some (.ref D), some (.ref p), some (.ref q), none, none, none, none]) (Ω := [(q, .lst []), (p, .lst [])]) (te := tVar 1) (l := g.masks.map eN) (ev_var rfl)
      unfold Gm.masks at this
      rw [List.map_map] at this
      exact this
    refine q_forK (openL g.E g.n) (fun p0 => eN (maskN g.R p0)) [some (eN (lotN g.R F)), some (nL g.masks), some (.ref D), some (.ref p), some (.ref q), none, none, none, none] src
      (fun i O => ∃ ls ms : List Nat, ls.length = ms.length ∧ ms.length ≤ i ∧ (∀ y ∈ ms, y ≤ opn g.n F) ∧ (∀ k p0, k < i → (openL g.E g.n)[k]? = some p0 → crit p0 → opn g.n F ∈ ms) ∧ (ms ≠ [] → opn g.n F ≠ 0) ∧ O = [(q, .lst (ms.map eN)), (p, .lst (ls.map eN))]) (by repeat (first | exact True.intro | refine And.intro rfl ?_))
      ⟨[], [], rfl, Nat.le_refl _, fun y hy => (by cases hy), fun k p0 hk => absurd hk (Nat.not_lt_zero _), fun z => absurd rfl z, rfl⟩ (fun i p0 O hp ⟨ls, ms, len, lm, le, cr, ne, eO⟩ => ?_) fun O ⟨ls, ms, len, lm, le, cr, ne, eO⟩ => ?_
    · subst eO
      have hpm := List.mem_of_getElem? hp
      have li := (List.getElem?_eq_some_iff.mp hp).1
      have l10 : (openL g.E g.n).length ≤ 10 := opn_ten (E := g.E) g.n5
      refine q_setd (ev_op (ev_var rfl) (ev_var rfl) o_andN) ?_
      refine st_if (x := !decide (lotN g.R F &&& maskN g.R p0 = 0) && !decide (lotN g.R F &&& maskN g.R p0 = lotN g.R F)) (et_and (et_test (ev_op (ev_var rfl) (ev_N (n := 0)) o_neN)) fun _ => et_test (ev_op (ev_var rfl) (ev_var rfl) o_neN)) (fun e => ?_) fun e => st_next ⟨(by repeat (first | exact True.intro | refine And.intro rfl ?_)), ls, ms, len, Nat.le_succ_of_le lm, le, fun k p1 hk h1 h2 => ?_, ne, rfl⟩
      · rw [Bool.and_eq_true] at e
        have f0 : ¬ lotN g.R F &&& maskN g.R p0 = 0 := by have := e.1; simpa using this
        have fl : ¬ lotN g.R F &&& maskN g.R p0 = lotN g.R F := by have := e.2; simpa using this
        have o : Opn g.n F p0.1 p0.2 := Opn.of hF hpm (fun z => fl (lot_in z)) fun z => f0 (lot_out (a := p0.1) (b := p0.2) z)
        obtain ⟨b1, b2⟩ := lot_both g.spo hF sF o
        have b1' : lotN g.R F &&& maskN g.R p0 = lotN g.R (extL g.n F p0.1 p0.2) := b1
        have b2' : lotN g.R F = lotN g.R (extL g.n F p0.1 p0.2) + lotN g.R (extL g.n F p0.2 p0.1) := b2
        have x1 := opn_ext_lt hF o
        have x2 := opn_ext_lt hF o.swap
        have s1 : Sub g.E (extL g.n F p0.1 p0.2) := fun z hz => sub_ext hF z (sF z hz)
        have s2 : Sub g.E (extL g.n F p0.2 p0.1) := fun z hz => sub_ext hF z (sF z hz)
        rw [b1']
        refine q_set (S := fun d => ∃ v : Nat × Nat, v.2 = opn g.n (extL g.n F p0.1 p0.2) ∧ d = eP v) (ev_callA (⟨extL g.n F p0.1 p0.2, o.spo hF, s1, by omega⟩ : AI g j) (ea_cons (ev_var rfl) (ea_2 (ev_var rfl) (ev_var rfl))) fun d h => h) fun d ⟨v1, hv1, e1⟩ => ?_
        subst e1
        refine q_set (S := fun d => ∃ v : Nat × Nat, v.2 = opn g.n (extL g.n F p0.2 p0.1) ∧ d = eP v) (ev_callA (⟨extL g.n F p0.2 p0.1, o.swap.spo hF, s2, by omega⟩ : AI g j) (ea_cons (Ev.is (b := eN (lotN g.R (extL g.n F p0.2 p0.1))) (ev_op (ev_var rfl) (ev_var rfl) (o_subN (by omega))) (by rw [b2', Nat.add_sub_cancel_left])) (ea_2 (ev_var rfl) (ev_var rfl))) fun d h => h) fun d ⟨v2, hv2, e2⟩ => ?_
        subst e2
        refine st_swap ?_
        refine q_append (S := fun d => d = eN (1 + max v1.1 v2.1)) (ev_var rfl) (ev_op (ev_N (n := 1)) (ev_cb2 (ev_op (ev_var rfl) ev_int (o_ixT (l := [eN v1.1, eN v1.2]) (n := 0) rfl)) (ev_op (ev_var rfl) ev_int (o_ixT (l := [eN v2.1, eN v2.2]) (n := 0) rfl)) c_max2N) o_addN) (by rw [List.length_map]; omega) fun d e3 => ?_
        subst e3
        refine st_swap ?_
        refine st_append (S := fun d => d = eN (1 + max v1.2 v2.2)) (ev_var rfl) (ev_op (ev_N (n := 1)) (ev_cb2 (ev_op (ev_var rfl) ev_int (o_ixT (l := [eN v1.1, eN v1.2]) (n := 1) rfl)) (ev_op (ev_var rfl) ev_int (o_ixT (l := [eN v2.1, eN v2.2]) (n := 1) rfl)) c_max2N) o_addN) (by rw [List.length_map]; omega) fun d e4 => ⟨(by repeat (first | exact True.intro | refine And.intro rfl ?_)), ls ++ [1 + max v1.1 v2.1], ms ++ [1 + max v1.2 v2.2], by rw [List.length_append, List.length_append, len]; rfl, by rw [List.length_append, List.length_singleton]; omega, fun y hy => ?_, fun k p1 hk h1 h2 => ?_, fun _ => by omega, by rw [e4, List.map_append, List.map_append]; rfl⟩
        · rcases List.mem_append.mp hy with hy | hy
          · exact le y hy
          · rw [List.mem_singleton.mp hy, hv1, hv2]
            have := Nat.max_lt.mpr ⟨x1, x2⟩
            omega
        · rcases Nat.lt_or_ge k i with z | z
          · exact List.mem_append_left _ (cr k p1 z h1 h2)
          · have ek : k = i := by omega
            rw [ek, hp] at h1
            obtain rfl : p0 = p1 := Option.some.inj h1
            refine List.mem_append_right _ (List.mem_singleton.mpr ?_)
            rw [hv1, hv2]
            have := Nat.max_lt.mpr ⟨x1, x2⟩
            have m1 := Nat.le_max_left (opn g.n (extL g.n F p0.1 p0.2)) (opn g.n (extL g.n F p0.2 p0.1))
            have m2 := Nat.le_max_right (opn g.n (extL g.n F p0.1 p0.2)) (opn g.n (extL g.n F p0.2 p0.1))
            rcases h2.2 with z | z <;> omega
      · rcases Nat.lt_or_ge k i with z | z
        · exact cr k p1 z h1 h2
        · have ek : k = i := by omega
          rw [ek, hp] at h1
          obtain rfl : p0 = p1 := Option.some.inj h1
          exfalso
          obtain ⟨b1, b2⟩ := lot_both g.spo hF sF h2.1
          have b1' : lotN g.R F &&& maskN g.R p0 = lotN g.R (extL g.n F p0.1 p0.2) := b1
          have b2' : lotN g.R F = lotN g.R (extL g.n F p0.1 p0.2) + lotN g.R (extL g.n F p0.2 p0.1) := b2
          have y1 : lotN g.R (extL g.n F p0.1 p0.2) ≠ 0 := lot_pos g.spo (h2.1.spo hF) fun z hz => sub_ext hF z (sF z hz)
          have y2 : lotN g.R (extL g.n F p0.2 p0.1) ≠ 0 := lot_pos g.spo (h2.1.swap.spo hF) fun z hz => sub_ext hF z (sF z hz)
          rw [b1', decide_eq_false y1, decide_eq_false (by omega)] at e
          cases e
    · subst eO
      have some_crit : opn g.n F ≠ 0 → opn g.n F ∈ ms := fun hz => by
        obtain ⟨p0, hp0, o, hc⟩ := crit_in hF sF hz
        obtain ⟨k, hk⟩ := List.getElem?_of_mem hp0
        exact cr k p0 (List.getElem?_eq_some_iff.mp hk).1 hk ⟨o, hc⟩
      refine st_freeze [4] (fun i hi => by rw [List.mem_singleton.mp hi]; rfl) (fun z => z) ?_
      refine st_freeze [3] (fun i hi => by rw [List.mem_singleton.mp hi]; rfl) (fun z => z) ?_
      refine st_putget (n := lotN g.R F) rfl rfl ?_ (fun L nd h => ?_) fun v h => hR v h
      · refine ev_if (x := decide ((0 : Int) < (ls.length : Int))) (et_test (ev_op (ev_cb1 (ev_var rfl) c_lenLM) ev_int o_cmp)) (fun e => ?_) fun e => ?_
        · have lp := of_decide_eq_true e
          have nl : ls ≠ [] := fun z => by rw [z] at lp; simp at lp
          have nm : ms ≠ [] := fun z => by rw [z] at len; exact nl (List.length_eq_zero_iff.mp len)
          have h0 := ne nm
          have hm := some_crit h0
          refine EvS.imp (ev_tupS (Sl := fun ds => ∃ a b : Nat, b = opn g.n F ∧ ds = [eN a, eN b]) (ea_consS (ev_cb1 (ev_var rfl) (c_minL nl)) (Sr := fun _ ds => ∃ b : Nat, b = opn g.n F ∧ ds = [eN b]) (fun _ _ => ea_consS (ev_cb1 (ev_var rfl) (c_maxL nm)) (Sr := fun _ x => x = []) (fun _ _ => ea_nil) fun d ds ⟨m, m1, m2, m3⟩ e5 => ⟨m, Nat.le_antisymm (le m m1) (m2 _ hm), by rw [m3, e5]⟩) fun d ds ⟨m, _, _, m3⟩ ⟨b, hb, e6⟩ => ⟨m, b, hb, by rw [m3, e6]⟩) fun ds ⟨a, b, _, e7⟩ => by rw [e7]; show 2 ≤ 16777216; decide) fun d ⟨ds, ⟨a, b, hb, e8⟩, e9⟩ => ⟨(a, b), ⟨F, hF, sF, rfl, hb⟩, by rw [e9, e8]⟩
        · have lp := of_decide_eq_false e
          have nm : ms = [] := List.length_eq_zero_iff.mp (by omega)
          have h0 : opn g.n F = 0 := Decidable.byContradiction fun z => by
            have := some_crit z
            rw [nm] at this
            cases this
          exact EvS.imp (ev_pair (ev_N (n := 0)) (ev_N (n := 0))) fun d e5 => ⟨(0, 0), ⟨F, hF, sF, rfl, h0.symm⟩, e5⟩
      · have := lots_few (E := g.E) g.n5 (l := L.map (·.1)) nd fun x hx => by
          obtain ⟨e5, he5, rfl⟩ := List.mem_map.mp hx
          obtain ⟨F', h1, _, h3, _⟩ := h e5 he5
          exact ⟨F', h1, h3⟩
        rwa [List.length_map] at this
end
end EV
set_option Elab.async false
set_option linter.all false
set_option autoImplicit false
set_option maxRecDepth 100000
set_option maxHeartbeats 4000000
/-! B8: by pairs; the law. -/
namespace EV
open L2 PySem DL
open PyProof.Rows (boot_any boot_all boot_sum boot_max boot_min boot_sorted boot_int boot_bool boot_tuple boot_list boot_set boot_str)
abbrev st_law : Stmt := top 35
theorem sc_law : FnScope ["_law_script", "_law_tape_here", "_law_turn", "_law_many", "_law_every", "_law_web_here", "_law_most", "_law_told", "_law_one", "_law_other"] ["_law_script"] (defScope st_law) := ⟨rfl, rfl, rfl, by decide +kernel, rfl, by decide +kernel, by decide +kernel⟩
section
variable {P : Program} {w : World} {K : PySem.W.Frag} {mg : Str → Option Value} {base : Heap} {C D : Addr}
/-! _law_by_pairs -/
def a_bp (g : Gm) : List DL.D := [pT g.E, eN g.n]
def p_bp (g : Gm) (d : DL.D) : Prop := ∃ (x : Nat) (ds : List DL.D), d = .tup [eP (x, opn g.n g.E), .lst ds]
theorem lot_whole (g : Gm) : (1 : Int) * 2 ^ ((g.R.length : Nat) : Int).toNat - 1 = (lotN g.R g.E : Int) := by
  have h : lotN g.R g.E = 2 ^ g.R.length - 1 := by
    rw [← num_true]
    exact num_congr fun k hk => decide_eq_true (ord_resp g.spo (getD_mem hk))
  have := Nat.one_le_two_pow (n := g.R.length)
  rw [h, Int.toNat_natCast, Int.one_mul]
  rw [Int.ofNat_sub this]
  simp
theorem ok_law_by_pairs (B : Bl mg) (G : GF K mg "_law_by_pairs" st__law_by_pairs ["_law_every", "_law_many"]) (c__law_orders : Can P w K mg base "_law_orders" 2 ["_law_befores", "_law_many"] (spD P0 a_or p_or))
    (c__law_open : Can P w K mg base "_law_open" 1 ["_law_every", "_law_many"] (spD P0 a_op p_op)) (c__law_masks : Can P w K mg base "_law_masks" 1 ["_law_rows", "_law_pairs_here"] (spD P0 a_mk p_mk))
    (c__law_asked : Can P w K mg base "_law_asked" 11 ["_law_lot", "_law_masks_here", "_law_known"] (spA 11)) : Can P w K mg base "_law_by_pairs" 12 ["_law_every", "_law_many"] (spD P0 a_bp p_bp) := by
  refine Can.ofD G sc__law_by_pairs (fun _ => rfl) fun f cdv A outer s H X hr => ?_
  refine ⟨_, (pss_cons (ps_set (i := 2) sc__law_by_pairs.nd rfl (Or.inl rfl) (pe_can (c__law_orders.up (by decide)) hr (by rfl) (pa_cons (pv 0) (pa_cons (pv 1) pa_nil))))
      (pss_cons (ps_set (i := 3) sc__law_by_pairs.nd rfl (Or.inl rfl) (pe_can (c__law_masks.up (by decide)) hr (by rfl) (pa_cons (pv 2) (pa_cons (pe_can (c__law_open.up (by decide)) hr (by rfl) (pa_cons (pv 0) (pa_cons (pv 1) pa_nil))) pa_nil))))
      (pss_cons (ps_set (i := 4) sc__law_by_pairs.nd rfl (Or.inl rfl) pe_dnewK)
      (pss_cons (ps_set (i := 5) sc__law_by_pairs.nd rfl (Or.inl rfl) (pe_op op_sub (pe_op op_shl (pe_int) (pe_callB (KV.cb_len K) (by rfl) B.len PySem.boot_len (pa_cons (pv 2) pa_nil))) (pe_int)))
      (pss_cons (ps_set (i := 6) sc__law_by_pairs.nd rfl (Or.inl rfl) (pe_can (c__law_asked.up (by decide)) hr (by rfl) (pa_cons (pv 5) (pa_cons (pv 3) (pa_cons (pv 4) pa_nil)))))
      (pss_cons (ps_set (i := 7) sc__law_by_pairs.nd rfl (Or.inl rfl) (pe_lst pa_nil))
      (pss_cons (ps_for PassesOwn.never rfl (KV.pi_list K (pv 3)) (pg_name (i := 8) sc__law_by_pairs.nd rfl (by first | exact Or.inl rfl | exact Or.inr rfl))
      (pss_cons (ps_set (i := 9) sc__law_by_pairs.nd rfl (Or.inl rfl) (pe_op op_and (pv 5) (pv 8)))
      (pss_one (ps_expr (pe_bm PySem.F.plainAttrs_list PySem.F.slot_list_append PySem.F.type_list_append mt_append (pv 7) (pa_cons (pe_op op_add (pe_int) (pe_callB (cb_max2 rfl) (by rfl) B.max boot_max (pa_cons (pe_ix (KV.ix_tup K) (pe_can (c__law_asked.up (by decide)) hr (by rfl) (pa_cons (pv 9) (pa_cons (pv 3) (pa_cons (pv 4) pa_nil)))) (pe_int) (fun _ _ => rfl)) (pa_cons (pe_ix (KV.ix_tup K) (pe_can (c__law_asked.up (by decide)) hr (by rfl) (pa_cons (pe_op op_sub (pv 5) (pv 9)) (pa_cons (pv 3) (pa_cons (pv 4) pa_nil)))) (pe_int) (fun _ _ => rfl)) pa_nil)))) pa_nil))))))
      (pss_one (ps_ret (pe_tup (pa_cons (pv 6) (pa_cons (pv 7) pa_nil)))))))))))), fun g => ?_⟩
  refine StS.imp (po := { N := fun _ _ => False, R := fun d _ => p_bp g d }) ?_ (fun _ _ z => z.elim) (fun _ _ z => z) (fun _ _ z => z) fun _ _ z => z
  have n5 := g.n5
  have lE := g.spo.few (by omega)
  have lR : g.R.length ≤ 3125 := Nat.le_trans (ordL_len g.n) (pow5 g.n5 (Nat.le_refl _))
  have lO : (openL g.E g.n).length ≤ 10 := opn_ten (E := g.E) g.n5
  refine q_set (EvS.imp (ev_callD (Proto.Le.refl _) (⟨g.n, g.E, g.n5, by omega⟩ : OrI) (ea_2 (ev_var rfl) (ev_var rfl))) fun d h => h) fun d (e : d = rL g.R) => ?_
  subst e
  refine q_set (EvS.imp (ev_callD (Proto.Le.refl _) (⟨g.R, openL g.E g.n, lR, by omega, fun r hr p hp => ?_⟩ : MkI) (ea_2 (ev_var rfl) (EvS.imp (ev_callD (Proto.Le.refl _) (⟨g.n, g.E, by omega, by omega⟩ : OpI) (ea_2 (ev_var rfl) (ev_var rfl))) fun d h => h))) fun d h => h) fun d (e : d = nL g.masks) => ?_
  · have f := ord_full hr
    have := mem_openL.mp hp
    exact ⟨(f.mem _).mpr (by omega), (f.mem _).mpr this.1.2⟩
  subst e
  refine q_memoNew (Good g) (R := p_bp g) fun D => ?_
  refine q_setd (d := eN (lotN g.R g.E)) (Ev.is (ev_op (ev_op ev_int (ev_cb1 (ev_var rfl) c_lenLM) (o_shl ⟨by omega, by omega, by decide⟩)) ev_int o_sub) (congrArg DL.D.int (lot_whole g))) ?_
  have lt : opn g.n g.E < 11 := Nat.lt_succ_of_le lO
  refine q_set (ev_callA (⟨g.E, g.spo, fun _ h => h, lt⟩ : AI g 11) (ea_cons (ev_var rfl) (ea_2 (ev_var rfl) (ev_var rfl))) fun d h => h) fun d ⟨v, hv, e⟩ => ?_
  subst e
  refine q_new fun F => ?_
  have src : Src (PK D (Good g)) (iList K (tVar 3)) [some (pT g.E), some (eN g.n), some (rL g.R), some (nL g.masks), some (.ref D), some (eN (lotN g.R g.E)), some (eP v), some (.ref F), none, none] [(F, .lst [])] ((openL g.E g.n).map fun p0 => eN (maskN g.R p0)) := by
    have := src_list (P := PK D (Good g)) (K := K) (Γ := [some (pT g.E), some (eN g.n), some (rL g.R), some (nL g.masks), some (.ref D), some (eN (lotN g.R g.E)), some (eP v), some (.ref F), none, none]) (Ω := [(F, .lst [])]) (te := tVar 3) (l := g.masks.map eN) (ev_var rfl)
    unfold Gm.masks at this
    rw [List.map_map] at this
    exact this
  refine q_forK (openL g.E g.n) (fun p0 => eN (maskN g.R p0)) [some (pT g.E), some (eN g.n), some (rL g.R), some (nL g.masks), some (.ref D), some (eN (lotN g.R g.E)), some (eP v), some (.ref F), none, none] src
    (fun i O => ∃ xs : List DL.D, xs.length ≤ i ∧ O = [(F, .lst xs)]) (by repeat (first | exact True.intro | refine And.intro rfl ?_)) ⟨[], Nat.le_refl _, rfl⟩ (fun i p0 O hp ⟨xs, lx, eO⟩ => ?_) fun O ⟨xs, lx, eO⟩ => ?_
  · subst eO
    have li := (List.getElem?_eq_some_iff.mp hp).1
    have mp := mem_openL.mp (List.mem_of_getElem? hp)
    have o : Opn g.n g.E p0.1 p0.2 := ⟨by omega, mp.1.2, by omega, mp.2.1, mp.2.2⟩
    obtain ⟨b1, b2⟩ := lot_both g.spo g.spo (fun _ h => h) o
    have b1' : lotN g.R g.E &&& maskN g.R p0 = lotN g.R (extL g.n g.E p0.1 p0.2) := b1
    have b2' : lotN g.R g.E = lotN g.R (extL g.n g.E p0.1 p0.2) + lotN g.R (extL g.n g.E p0.2 p0.1) := b2
    have x1 := opn_ext_lt g.spo o
    have x2 := opn_ext_lt g.spo o.swap
    refine q_setd (d := eN (lotN g.R (extL g.n g.E p0.1 p0.2))) (Ev.is (ev_op (ev_var rfl) (ev_var rfl) o_andN) (by rw [b1'])) ?_
    refine st_append (S := fun d => True) (ev_var rfl) ?_ (by omega) fun d _ => ⟨(by repeat (first | exact True.intro | refine And.intro rfl ?_)), xs ++ [d], by rw [List.length_append, List.length_singleton]; omega, rfl⟩
    have first : ∀ {te : TE} {Γ : En} {Ω : Ow}, EvS (PK D (Good g)) te Γ Ω (fun d => ∃ v : Nat × Nat, d = eP v) → EvS (PK D (Good g)) (tOp (rIxT K) te (tC (.int 0))) Γ Ω (fun d => ∃ a : Nat, d = eN a) := fun h =>
      ev_opS h (Sb := fun _ d => d = .int 0) (fun _ _ => ev_int) fun a b ⟨v, ea⟩ eb => by
        subst ea
        subst eb
        exact fun _ _ _ _ s p ia ib Q q => o_ixT (l := [eN v.1, eN v.2]) (n := 0) rfl (.inl rfl) s p ia ib Q fun u Hf2 H2 d e => q u Hf2 H2 d ⟨_, e⟩
    refine EvS.imp (ev_opS (S := fun d => True) (Sa := fun d => d = eN 1) (ev_N (n := 1)) (Sb := fun _ d => ∃ a : Nat, d = eN a) (fun _ _ => ?_) fun a b ea ⟨k, eb⟩ => ?_) fun d _ => trivial
    · refine ev_cb (Sl := fun ds => ∃ a b : Nat, ds = [eN a, eN b]) (ea_consS (first (ev_callA (⟨extL g.n g.E p0.1 p0.2, o.spo g.spo, sub_ext g.spo, by omega⟩ : AI g 11) (ea_cons (ev_var rfl) (ea_2 (ev_var rfl) (ev_var rfl))) fun d ⟨v, _, e⟩ => ⟨v, e⟩)) (Sr := fun _ ds => ∃ b : Nat, ds = [eN b]) (fun _ _ => ea_consS (first (ev_callA (⟨extL g.n g.E p0.2 p0.1, o.swap.spo g.spo, sub_ext g.spo, by omega⟩ : AI g 11) (ea_cons (Ev.is (b := eN (lotN g.R (extL g.n g.E p0.2 p0.1))) (ev_op (ev_var rfl) (ev_var rfl) (o_subN (by omega))) (by rw [b2', Nat.add_sub_cancel_left])) (ea_2 (ev_var rfl) (ev_var rfl))) fun d ⟨v, _, e⟩ => ⟨v, e⟩)) (Sr := fun _ x => x = []) (fun _ _ => ea_nil) fun d ds ⟨b, e1⟩ e2 => ⟨b, by rw [e1, e2]⟩) fun d ds ⟨a, e1⟩ ⟨b, e2⟩ => ⟨a, b, by rw [e1, e2]⟩) fun ds ⟨a, b, e⟩ => ?_
      subst e
      exact fun _ _ _ s p ia Q q => c_max2N s p ia Q fun u Hf2 H2 d e => q u Hf2 H2 d ⟨_, e⟩
    · subst ea
      subst eb
      exact fun _ _ _ _ s p ia ib Q q => o_addN s p ia ib Q fun u Hf2 H2 d e => q u Hf2 H2 d trivial
  · subst eO
    refine st_freeze [7] (fun i hi => by rw [List.mem_singleton.mp hi]; rfl) (fun z => z) ?_
    refine st_ret (ev_tup (ea_2 (ev_var rfl) (ev_var rfl)) (show 2 ≤ 16777216 by decide)) fun d e => ⟨v.1, xs, ?_⟩
    have ev : eP (v.1, opn g.n g.E) = eP v := by rw [← hv]
    rw [ev]
    exact e
/-! Web(..) in the law -/
theorem ev_Web {P : Proto} {Γ : En} {Ω : Ow} {tl : TA} {X : XK} {n : Nat} {E : List Pr} (n1 : 1 ≤ n) (n8 : n ≤ 8) (h : Spo n E) (ha : EvL P tl Γ Ω [eN n, pT E]) : Ev P (tMake C (spW P0 a_init (r_init C) (p_init C)) [] X tl) Γ Ω (wD C D n E) := by
  have lE := h.few n8
  refine EvS.weak (S := fun d => d = .sem (InsR C (flds n E))) ?_ fun d e => ⟨_, rfl, fun H v i => sem_weak (fun H v h => ⟨C, .inl rfl, h⟩) H v (e ▸ i)⟩
  refine ev_make (fun x => ⟨x, n, E, n1, n8, h.asc, by omega, h.bd, fun a t => h.irr a (h.tc.mp t)⟩) (fun x => rfl) (fun x => rfl) ha fun x d O ⟨e1, M, asc, mem, e2⟩ => ⟨e1, _, e2, ?_⟩
  rw [h.same asc mem]
theorem ev_most {P : Proto} {Γ : En} {Ω : Ow} {te : TE} {X : XK} {n : Nat} {E : List Pr} (n8 : n ≤ 8) (len : E.length < 64) (bd : ∀ p ∈ E, p.1 < n ∧ p.2 < n) (h : Ev P te Γ Ω (wD C D n E)) : Ev P (tCall (spD P0 (a_pa C D) p_ma) [] X (tCons te tNil)) Γ Ω (eN (opn n E)) :=
  EvS.imp (ev_callD (Proto.Le.zero _) (⟨n, E, n8, len, bd⟩ : WI) (ea_1 h)) fun d h => h
def spLaw (K : PySem.W.Frag) : Sp := fun vs H Q _ => ∃ (a : Addr) (ns : List Int), vs = [V.ref a] ∧ SqL K H a (ns.map V.int) ∧ ns.length < 1000 ∧ ∀ H', Q (.bl true) H'
abbrev G0 (T : Addr) : En := [none, some (.ref T), none, none, none, none, none, none, none, none]
theorem law_start {ts : TS} {σ : L2.St} {tp sc : Addr} {H : Hp} {ns : List Int} {Q : VK} (hl : σ.length = 10) (h1 : σ[1]? = some (some (V.ref tp))) (ne : tp ≠ sc) (ln : ns.length < 1000) (q : ∀ H', Q (.bl true) H')
    (main : StS (PT tp) NoW ts (G0 tp) [] { N := fun _ _ => False, R := fun d _ => d = .bl true }) : ts { nx := fun _ H' => Q .non H', rt := Q } σ (upd (upd H sc (.lst (ns.map V.int))) tp (.lst [.ref sc, .int 0, .int 0, .int 1, .int 0])) := by
  let Hf : Hp := upd (fun _ => none) sc (.lst (ns.map V.int))
  have sm : Same Hf (upd (upd H sc (.lst (ns.map V.int))) tp (.lst [.ref sc, .int 0, .int 0, .int 1, .int 0])) := fun b o e => by
    by_cases eb : b = sc
    · subst eb
      rw [upd_ne (fun z => ne z.symm), upd_same]
      have e' : upd (fun _ => none) b (.lst (ns.map V.int)) b = some o := e
      rw [upd_same] at e'
      exact e'
    · have e' : upd (fun _ => none) sc (.lst (ns.map V.int)) b = some o := e
      rw [upd_ne eb] at e'
      cases e'
  have ft : Hf tp = none := upd_ne ne
  have isl : Is Hf (.ref sc) (.lst (ns.map DL.D.int)) := .lst upd_same (IsAll.ofInts ns)
  have pr : TapeOn tp Hf (upd (upd H sc (.lst (ns.map V.int))) tp (.lst [.ref sc, .int 0, .int 0, .int 1, .int 0])) :=
    ⟨ft, ns, 0, 0, 1, 0, ln, _, upd_same, .cons isl (.cons (.int _) (.cons (.int _) (.cons (.int _) (.cons (.int _) .nil))))⟩
  have fit : Fits Hf σ (G0 tp) := by
    refine ⟨hl, fun i d e => ?_⟩
    by_cases hi : i = 1
    · subst hi
      have e' : d = .ref tp := (Option.some.inj (Option.some.inj e)).symm
      subst e'
      exact ⟨.ref tp, h1, .ref tp⟩
    · exfalso
      match i, hi, e with
      | 1, h, _ => exact h rfl
      | 0, _, e | 2, _, e | 3, _, e | 4, _, e | 5, _, e | 6, _, e | 7, _, e | 8, _, e | 9, _, e => cases e
      | i + 10, _, e => simp at e
  exact main ⟨StepW.refl sm pr, fit, fun p c hm => (by cases hm), List.nodup_nil⟩ _ (fun _ _ _ _ _ z => z.elim) (fun v _ _ _ _ H' d e _ iv => by
    have e' : d = .bl true := e
    subst e'
    cases iv
    exact q H') (fun _ _ _ _ _ z => z.elim) (fun _ _ _ _ _ z => z.elim)
theorem law_run {ts : TS} {σ : L2.St} {a : Addr} {H : Hp} {ns : List Int} {Q : VK} (hl : σ.length = 10) (h0 : σ[0]? = some (some (V.ref a))) (hs : SqL K H a (ns.map V.int)) (ln : ns.length < 1000) (q : ∀ H', Q (.bl true) H')
    (main : ∀ tp, StS (PT tp) NoW ts (G0 tp) [] { N := fun _ _ => False, R := fun d _ => d = .bl true }) : tSeq (tAsg (tCall (spTape K) [] E0 (tCons (tVar 0) tNil)) (gName 1)) ts { nx := fun _ H' => Q .non H', rt := Q } σ H := by
  refine ⟨_, h0, a, ns, rfl, hs, fun sc tp hsc ne htp => ?_⟩
  exact law_start (ts := ts) (σ := σ.set 1 (some (V.ref tp))) (by rw [List.length_set]; exact hl) (by rw [List.getElem?_set_self (by omega)]) ne ln q (main tp)
/-- what is asked of each web -/
theorem ok_law {f : Addr} {fd : FuncData} (B : Bl mg) (T : WT K C D) (F : Fun K "law" "law" st_law f fd) (c__law_tape : Can P w K mg base "_law_tape" 1 ["_law_script"] (spTape K)) (c__law_pick : Can P w K mg base "_law_pick" 1 ["_law_tape_here", "_law_many"] (spT a_pick p_pick))
    (c__law_small : Can P w K mg base "_law_small" 4 ["_law_tape_here", "_law_most", "_law_rows"] (spT a_sm p_sm)) (c_Web : CanI P w K mg base "Web" C 5 ["self", "many", "befores"] (spW P0 a_init (r_init C) (p_init C)))
    (c__law_by_pairs : Can P w K mg base "_law_by_pairs" 12 ["_law_every", "_law_many"] (spD P0 a_bp p_bp)) (c_most_asks : Can P w K mg base "most_asks" 3 ["web"] (spD P0 (a_pa C D) p_ma))
    (c_turned : Can P w K mg base "turned" 5 ["web"] (spD P0 (a_pa C D) (p_tu C D))) (c__law_open : Can P w K mg base "_law_open" 1 ["_law_every", "_law_many"] (spD P0 a_op p_op))
    (c__law_closed : Can P w K mg base "_law_closed" 1 ["_law_pairs_here"] (spD P0 a_lc p_lc)) (c__law_pairs : Can P w K mg base "_law_pairs" 2 ["_law_tape_here", "_law_many"] (spT a_lp p_lp)) : FnOk P w K mg base CX0 13 f fd ["_law_script"] (spLaw K) := by
  refine F.ok sc_law (fun vs H Q X ⟨a, ns, e, _⟩ => by rw [e]; rfl) fun cdv A outer s H vs Q X hr ⟨a, ns, e, hs, ln, q⟩ => ?_
  subst e
  refine ⟨_, (pss_cons (ps_set (i := 1) sc_law.nd rfl (Or.inl rfl) (pe_can (c__law_tape.up (by decide)) hr (by rfl) (pa_cons (pv 0) pa_nil)))
      (pss_cons (ps_for PassesOwn.never rfl (pi_range1 (by rfl) B.range (pa_cons (pe_int) pa_nil)) (pg_name (i := 2) sc_law.nd rfl (by first | exact Or.inl rfl | exact Or.inr rfl))
      (pss_cons (ps_asg (pe_can (c__law_small.up (by decide)) hr (by rfl) (pa_cons (pv 1) (pa_cons (pe_int) (pa_cons (pe_ifExp (pt_cmpR op_gt (pe_can (c__law_pick.up (by decide)) hr (by rfl) (pa_cons (pv 1) (pa_cons (pe_int) pa_nil))) (pe_int) (nomark _)) (pe_int) (pe_int)) pa_nil)))) (KV.pg_tup K (n := 2) rfl (pgs_cons (pg_name (i := 3) sc_law.nd rfl (by first | exact Or.inl rfl | exact Or.inr rfl)) (pgs_cons (pg_name (i := 4) sc_law.nd rfl (by first | exact Or.inl rfl | exact Or.inr rfl)) pgs_nil))))
      (pss_cons (ps_set (i := 5) sc_law.nd rfl (Or.inl rfl) (pe_canI (c_Web.up (by decide)) hr (by rfl) (pa_cons (pv 3) (pa_cons (pv 4) pa_nil))))
      (pss_cons (ps_set (i := 6) sc_law.nd rfl (Or.inl rfl) (pe_ix (KV.ix_tup K) (pe_ix (KV.ix_tup K) (pe_can (c__law_by_pairs.up (by decide)) hr (by rfl) (pa_cons (pv 4) (pa_cons (pv 3) pa_nil))) (pe_int) (fun _ _ => rfl)) (pe_int) (fun _ _ => rfl)))
      (pss_cons (ps_set (i := 7) sc_law.nd rfl (Or.inl rfl) (pe_can (c_most_asks.up (by decide)) hr (by rfl) (pa_cons (pv 5) pa_nil)))
      (pss_cons (ps_if (PW.pt (pw_or (pt_val (pe_callB (KV.call_isi K) (by rfl) B.isinstance PyProof.Rows.boot_isinstance (pa_cons (pv 7) (pa_cons (pe_bltn (v := .ty "bool") (by rfl) B.bool_ boot_bool rfl) pa_nil)))) (pw_or (pt_cmpR op_ne (pv 7) (pv 6) (nomark _)) (pw_or1 (pt_cmpR op_ne (pv 6) (pe_callB (KV.cb_len K) (by rfl) B.len PySem.boot_len (pa_cons (pe_can (c__law_open.up (by decide)) hr (by rfl) (pa_cons (pv 4) (pa_cons (pv 3) pa_nil))) pa_nil)) (nomark _)))))) (pss_one (ps_ret (pe_bl))) pss_nil)
      (pss_cons (ps_if (pt_cmpR op_ne (pe_can (c_most_asks.up (by decide)) hr (by rfl) (pa_cons (pe_can (c_turned.up (by decide)) hr (by rfl) (pa_cons (pv 5) pa_nil)) pa_nil)) (pv 6) (nomark _)) (pss_one (ps_ret (pe_bl))) pss_nil)
      (pss_one (ps_for PassesOwn.never rfl (KV.pi_list K (pe_can (c__law_open.up (by decide)) hr (by rfl) (pa_cons (pv 4) (pa_cons (pv 3) pa_nil)))) (KV.pg_tup K (n := 2) rfl (pgs_cons (pg_name (i := 8) sc_law.nd rfl (by first | exact Or.inl rfl | exact Or.inr rfl)) (pgs_cons (pg_name (i := 9) sc_law.nd rfl (by first | exact Or.inl rfl | exact Or.inr rfl)) pgs_nil)))
      (pss_one (ps_if (pt_cmpR op_ge (pe_can (c_most_asks.up (by decide)) hr (by rfl) (pa_cons (pe_canI (c_Web.up (by decide)) hr (by rfl) (pa_cons (pv 3) (pa_cons (pe_can (c__law_closed.up (by decide)) hr (by rfl) (pa_cons (pe_op (KV.op_catA K) (pv 4) (pe_tup (pa_cons (pe_tup (pa_cons (pv 8) (pa_cons (pv 9) pa_nil))) pa_nil))) pa_nil)) pa_nil))) pa_nil)) (pv 6) (nomark _)) (pss_one (ps_ret (pe_bl))) pss_nil)))))))))))
      (pss_cons (ps_set (i := 3) sc_law.nd rfl (Or.inl rfl) (pe_op op_add (pe_int) (pe_can (c__law_pick.up (by decide)) hr (by rfl) (pa_cons (pv 1) (pa_cons (pe_int) pa_nil)))))
      (pss_cons (ps_set (i := 4) sc_law.nd rfl (Or.inl rfl) (pe_can (c__law_closed.up (by decide)) hr (by rfl) (pa_cons (pe_can (c__law_pairs.up (by decide)) hr (by rfl) (pa_cons (pv 1) (pa_cons (pv 3) pa_nil))) pa_nil)))
      (pss_one (ps_ret (pe_cmpR op_eq (pe_can (c_most_asks.up (by decide)) hr (by rfl) (pa_cons (pe_canI (c_Web.up (by decide)) hr (by rfl) (pa_cons (pv 3) (pa_cons (pv 4) pa_nil))) pa_nil)) (pe_callB (KV.cb_len K) (by rfl) B.len PySem.boot_len (pa_cons (pe_can (c__law_open.up (by decide)) hr (by rfl) (pa_cons (pv 4) (pa_cons (pv 3) pa_nil))) pa_nil)) (nomark _)))))))), ?_⟩
  refine law_run ?_ ?_ hs ln q fun tp => ?_
  · rfl
  · rfl
  refine q_forD (List.range 2) eN (src_rangeN (ea_1 (ev_N (n := 2))) (by decide)) (fun i G O => O = [] ∧ DL.Keeps (G0 tp) G) ⟨rfl, (by repeat (first | exact True.intro | refine And.intro rfl ?_))⟩ (fun i x G O hx ⟨eO, kG⟩ => ⟨_, gt_name, ?_⟩) fun G O ⟨eO, kG⟩ => ?_
  · subst eO
    refine st_keep (Γ0 := [none, some (.ref tp), some (eN x), none, none, none, none, none, none, none]) (kG.set 2) ?_
    have pk : ∀ {te : TE} {Γ : En} {m : Nat}, EvS (PT tp) te Γ [] (fun d => ∃ r : Nat, r < m ∧ d = eN r) → EvB (PT tp) (tTest (tOp (rI0 fun i j => .bl (decide (j < i))) te (tC (.int 0)))) Γ [] (fun _ => True) := fun h =>
      eb_test (ev_opS h (Sb := fun _ d => d = eN 0) (fun _ _ => ev_N (n := 0)) fun a b ⟨r, hr, ea⟩ eb => by
        subst ea
        subst eb
        exact fun _ _ _ _ s p ia ib Q q => o_cmp s p ia ib Q fun v Hf2 H2 d e => q v Hf2 H2 d ⟨_, trivial, e⟩)
    refine q_asg (S := fun d => ∃ n E, 1 ≤ n ∧ n ≤ 5 ∧ Spo n E ∧ d = .tup [eN n, pT E]) (ev_callTS (Sl := fun ds => ∃ r : Nat, 1 ≤ r ∧ ds = [.ref tp, eN 5, eN r])
      (ea_consS (S := fun d => d = .ref tp) (ev_var rfl) (Sr := fun _ ds => ∃ r : Nat, 1 ≤ r ∧ ds = [eN 5, eN r]) (fun _ _ => ea_consS (S := fun d => d = eN 5) (ev_N (n := 5)) (Sr := fun _ ds => ∃ r : Nat, 1 ≤ r ∧ ds = [eN r]) (fun _ _ => ea_consS (S := fun d => ∃ r : Nat, 1 ≤ r ∧ d = eN r)
          (ev_ifB (pk (ev_callT (⟨20, by decide, by decide⟩ : MI) (ea_2 (ev_var rfl) (ev_N (n := 20))) fun d h => h)) (fun _ => EvS.to (ev_N (n := 30)) ⟨30, by decide, rfl⟩) (fun _ => EvS.to (ev_N (n := 120)) ⟨120, by decide, rfl⟩)) (Sr := fun _ x => x = []) (fun _ _ => ea_nil) fun d ds ⟨r, r1, e1⟩ e2 => ⟨r, r1, by rw [e1, e2]⟩) fun d ds e1 ⟨r, r1, e2⟩ => ⟨r, r1, by rw [e1, e2]⟩) fun d ds e1 ⟨r, r1, e2⟩ => ⟨r, r1, by rw [e1, e2]⟩) fun ds ⟨r, r1, e⟩ => ⟨(⟨r, r1⟩ : SmI), e, fun d h => h⟩) fun d ⟨n, E, n1, n5, hE, e⟩ => ?_
    subst e
    refine ⟨_, gt_two, ?_⟩
    have n8 : n ≤ 8 := by omega
    have lE := hE.few n8
    refine q_setd (d := wD C D n E) (ev_Web n1 n8 hE (ea_2 (ev_var rfl) (ev_var rfl))) ?_
    refine q_setd (d := eN (opn n E)) ?_ ?_
    · refine ev_opS (Sa := fun d => ∃ x : Nat, d = eP (x, opn n E)) (ev_opS (Sa := p_bp ⟨n, E, n5, hE⟩) (ev_callD (Proto.Le.zero _) (⟨n, E, n5, hE⟩ : Gm) (ea_2 (ev_var rfl) (ev_var rfl))) (Sb := fun _ d => d = .int 0) (fun _ _ => ev_int) fun a b ⟨x, ds, ea⟩ eb => ?_) (Sb := fun _ d => d = .int 1) (fun _ _ => ev_int) fun a b ⟨x, ea⟩ eb => ?_
      · subst ea
        subst eb
        exact fun _ _ _ _ s p ia ib Q q => o_ixT (l := [eP (x, opn n E), .lst ds]) (n := 0) rfl (.inl rfl) s p ia ib Q fun u Hf2 H2 d e => q u Hf2 H2 d ⟨_, e⟩
      · subst ea
        subst eb
        exact o_ixT (l := [eN x, eN (opn n E)]) (n := 1) rfl (.inl rfl)
    refine q_setd (d := eN (opn n E)) (ev_most n8 (by omega) hE.bd (ev_var rfl)) ?_
    have opE : ∀ {Γ : En} {te : TE} {X : XK} {ta tb : TE}, Ev (PT tp) ta Γ [] (pT E) → Ev (PT tp) tb Γ [] (eN n) → Ev (PT tp) (tCall (spD P0 a_op p_op) [] X (tCons ta (tCons tb tNil))) Γ [] (pL (openL E n)) := fun h1 h2 =>
      EvS.imp (ev_callD (Proto.Le.zero _) (⟨n, E, n8, by omega⟩ : OpI) (ea_2 h1 h2)) fun d h => h
    refine q_if (x := (false || (!decide (opn n E = opn n E) || !decide (opn n E = opn n E)))) (et_or (et_B (ev_cb2 (ev_var rfl) ev_ty (c_isi rfl kit_int_bool))) fun _ => et_or (et_test (ev_op (ev_var rfl) (ev_var rfl) o_neN)) fun _ => et_test (ev_op (ev_var rfl) (ev_cb1 (opE (te := tC .non) (ev_var rfl) (ev_var rfl)) c_lenLM) o_neN)) (fun e => absurd e (by simp)) fun _ => ?_
    refine q_if (x := !decide (opn n E = opn n E)) (et_test (ev_op (a := eN (opn n E)) ?_ (ev_var rfl) o_neN)) (fun e => absurd e (by simp)) fun _ => ?_
    · refine ev_call (Proto.Le.zero _) (Sl := fun ds => ∃ M : List Pr, M.Perm (E.map fun p => (p.2, p.1)) ∧ ds = [wD C D n M]) (ea_consS (S := p_tu C D ⟨n, E, n8, by omega, hE.bd⟩) (ev_callD (Proto.Le.zero _) (⟨n, E, n8, by omega, hE.bd⟩ : WI) (ea_1 (ev_var rfl))) (Sr := fun _ x => x = []) (fun _ _ => ea_nil) fun d ds ⟨M, pm, _, e1⟩ e2 => ⟨M, pm, by rw [e1, e2]⟩) fun ds ⟨M, pm, e⟩ => ?_
      have mem : ∀ a b, (a, b) ∈ M ↔ (b, a) ∈ E := fun a b => pm.mem_iff.trans ⟨fun h => by
        obtain ⟨q, hq, eq⟩ := List.mem_map.mp h
        obtain ⟨e1, e2⟩ := Prod.mk.inj eq
        rw [← e1, ← e2]
        exact hq, fun h => List.mem_map.mpr ⟨(b, a), h, rfl⟩⟩
      have lM := pm.length_eq
      rw [List.length_map] at lM
      refine ⟨⟨n, M, n8, by omega, fun p hp => ?_⟩, e, fun d hd => ?_⟩
      · have := hE.bd _ ((mem p.1 p.2).mp hp)
        exact ⟨this.2, this.1⟩
      · have hd' : d = eN (opn n M) := hd
        rw [hd', opn_turn mem]
    refine st_forP (openL E n) (fun p => eN p.1) (fun p => eN p.2) [none, some (.ref tp), none, some (eN n), some (pT E), none, some (eN (opn n E)), none, none, none] (src_list (opE (te := tC .non) (ev_var rfl) (ev_var rfl))) (fun i O => O = []) (by repeat (first | exact True.intro | refine And.intro rfl ?_)) rfl (fun i p O hp eO => ?_) fun G O kG eO => ⟨eO, kG.trans' (by repeat (first | exact True.intro | refine And.intro rfl ?_))⟩
    subst eO
    have mp := mem_openL.mp (List.mem_of_getElem? hp)
    have pa : p.1 < n := by omega
    have pn : p.1 ≠ p.2 := by omega
    have hX := hE.ext pa mp.1.2 pn mp.2.2
    have lX := hX.few n8
    have lt := opn_ext_lt hE (a := p.1) (b := p.2) ⟨pa, mp.1.2, pn, mp.2.1, mp.2.2⟩
    refine st_if (x := false) (et_test (Ev.is (ev_op (ev_most n8 (by omega) hX.bd (ev_Web n1 n8 hX (ea_2 (ev_var rfl) (EvS.imp (ev_call (S := fun d => d = pT (extL n E p.1 p.2)) (Proto.Le.zero _) (ea_1 (Ev.is (b := pT (E ++ [p])) (ev_op (ev_var rfl) (ev_tup (ea_1 (ev_pair (ev_var rfl) (ev_var rfl))) (show 1 ≤ 16777216 by decide)) (o_catT (by rw [List.length_map]; show E.length + 1 ≤ _; omega))) (by unfold pT; rw [List.map_append]; rfl))) fun ds e => ⟨(⟨n, E ++ [p], n8, by rw [List.length_append, List.length_singleton]; omega, fun q hq => by
        rcases List.mem_append.mp hq with hq | hq
        · exact hE.bd q hq
        · rw [List.mem_singleton.mp hq]; exact ⟨pa, mp.1.2⟩, irr_ext hE pa mp.1.2 pn mp.2.2⟩ : LcI), e, fun d hd => by
          obtain ⟨M, c, e⟩ := hd
          rw [e, cl_ext hE pa mp.1.2 pn mp.2.2 c]⟩) fun d h => h)))) (ev_var rfl) o_cmp) (congrArg DL.D.bl (decide_eq_false (by omega))))) (fun e => by cases e) fun _ => st_next ⟨(by repeat (first | exact True.intro | refine And.intro rfl ?_)), rfl⟩
  · subst eO
    refine st_keep kG ?_
    refine q_set (S := fun d => ∃ n : Nat, 6 ≤ n ∧ n ≤ 8 ∧ d = eN n) ?_ fun d ⟨n, n6, n8, e⟩ => ?_
    · refine ev_opS (Sa := fun d => d = eN 6) (ev_N (n := 6)) (Sb := fun _ d => ∃ r : Nat, r < 3 ∧ d = eN r) (fun _ _ => ev_callT (⟨3, by decide, by decide⟩ : MI) (ea_2 (ev_var rfl) (ev_N (n := 3))) fun d h => h) fun a b ea ⟨r, hr, eb⟩ => ?_
      subst ea
      subst eb
      exact fun _ _ _ _ s p ia ib Q q => o_addN s p ia ib Q fun v Hf2 H2 d e => q v Hf2 H2 d ⟨6 + r, by omega, by omega, e⟩
    subst e
    refine q_set (S := fun d => ∃ E, Spo n E ∧ d = pT E) (ev_call (Proto.Le.zero _) (Sl := fun ds => ∃ d, (∃ l, DrawnL n l ∧ d = pT l) ∧ ds = [d]) (ea_1S (ev_callT (⟨n, n8⟩ : NI) (ea_2 (ev_var rfl) (ev_var rfl)) fun d h => h)) fun ds ⟨d, ⟨l, hl, ed⟩, e⟩ => ⟨(⟨n, l, n8, by have := hl.len; omega, hl.bd, hl.irr⟩ : LcI), by rw [e, ed]; rfl, fun d hd => by
      obtain ⟨M, c, e⟩ := hd
      exact ⟨M, Spo.of c hl.bd hl.irr, e⟩⟩) fun d ⟨E, hE, e⟩ => ?_
    subst e
    have lE := hE.few n8
    refine st_ret (ev_op (ev_most n8 (by omega) hE.bd (ev_Web (by omega) n8 hE (ea_2 (ev_var rfl) (ev_var rfl)))) (ev_cb1 (EvS.imp (ev_callD (Proto.Le.zero _) (⟨n, E, n8, by omega⟩ : OpI) (ea_2 (ev_var rfl) (ev_var rfl))) fun d h => h) c_lenLM) o_eqN) fun d e => ?_
    rw [e]
    exact congrArg DL.D.bl (decide_eq_true rfl)
end
end EV
set_option Elab.async false
set_option linter.all false
set_option autoImplicit false
set_option maxRecDepth 100000
set_option maxHeartbeats 4000000
namespace EV
open L2 PySem DL
theorem all_mk {l : PySem.W.OpenLaw} {w : World} {K : PySem.W.Frag} {h : Heap} {mg : Str → Option Value} {fa AWeb ARawWeb f1 f2 f3 f4 f5 f6 f7 f8 f9 f10 f11 f12 f13 f14 f15 f16 f17 f18 f19 f20 f21 f22 f23 f24 f25 f26 f27 f28 : Addr} (X : K.In h) (G : h.Ns mainGlobals mg) (hfa : mg "law" = some (.ref fa))
    {od1 an1 : Option Addr} {sl1 : Array (Option Value)} {oc1 kV1 dc1 pm1 cd1 ct1 : Value}
    {od2 an2 : Option Addr} {sl2 : Array (Option Value)} {oc2 kV2 dc2 pm2 cd2 ct2 : Value}
    {od3 an3 : Option Addr} {sl3 : Array (Option Value)} {oc3 kV3 dc3 pm3 cd3 ct3 : Value}
    {od4 an4 : Option Addr} {sl4 : Array (Option Value)} {oc4 kV4 dc4 pm4 cd4 ct4 : Value}
    {od5 an5 : Option Addr} {sl5 : Array (Option Value)} {oc5 kV5 dc5 pm5 cd5 ct5 : Value}
    {od6 an6 : Option Addr} {sl6 : Array (Option Value)} {oc6 kV6 dc6 pm6 cd6 ct6 : Value}
    {od7 an7 : Option Addr} {sl7 : Array (Option Value)} {oc7 kV7 dc7 pm7 cd7 ct7 : Value}
    {od8 an8 : Option Addr} {sl8 : Array (Option Value)} {oc8 kV8 dc8 pm8 cd8 ct8 : Value}
    {od9 an9 : Option Addr} {sl9 : Array (Option Value)} {oc9 kV9 dc9 pm9 cd9 ct9 : Value}
    {od10 an10 : Option Addr} {sl10 : Array (Option Value)} {oc10 kV10 dc10 pm10 cd10 ct10 : Value}
    {od11 an11 : Option Addr} {sl11 : Array (Option Value)} {oc11 kV11 dc11 pm11 cd11 ct11 : Value}
    {od12 an12 : Option Addr} {sl12 : Array (Option Value)} {oc12 kV12 dc12 pm12 cd12 ct12 : Value}
    {od13 an13 : Option Addr} {sl13 : Array (Option Value)} {oc13 kV13 dc13 pm13 cd13 ct13 : Value}
    {od14 an14 : Option Addr} {sl14 : Array (Option Value)} {oc14 kV14 dc14 pm14 cd14 ct14 : Value}
    {od15 an15 : Option Addr} {sl15 : Array (Option Value)} {oc15 kV15 dc15 pm15 cd15 ct15 : Value}
    {od16 an16 : Option Addr} {sl16 : Array (Option Value)} {oc16 kV16 dc16 pm16 cd16 ct16 : Value}
    {od17 an17 : Option Addr} {sl17 : Array (Option Value)} {oc17 kV17 dc17 pm17 cd17 ct17 : Value}
    {od18 an18 : Option Addr} {sl18 : Array (Option Value)} {oc18 kV18 dc18 pm18 cd18 ct18 : Value}
    {od19 an19 : Option Addr} {sl19 : Array (Option Value)} {oc19 kV19 dc19 pm19 cd19 ct19 : Value}
    {od20 an20 : Option Addr} {sl20 : Array (Option Value)} {oc20 kV20 dc20 pm20 cd20 ct20 : Value}
    {od21 an21 : Option Addr} {sl21 : Array (Option Value)} {oc21 kV21 dc21 pm21 cd21 ct21 : Value}
    {od22 an22 : Option Addr} {sl22 : Array (Option Value)} {oc22 kV22 dc22 pm22 cd22 ct22 : Value}
    {od23 an23 : Option Addr} {sl23 : Array (Option Value)} {oc23 kV23 dc23 pm23 cd23 ct23 : Value}
    {od24 an24 : Option Addr} {sl24 : Array (Option Value)} {oc24 kV24 dc24 pm24 cd24 ct24 : Value}
    {od25 an25 : Option Addr} {sl25 : Array (Option Value)} {oc25 kV25 dc25 pm25 cd25 ct25 : Value}
    {od26 an26 : Option Addr} {sl26 : Array (Option Value)} {oc26 kV26 dc26 pm26 cd26 ct26 : Value}
    {od27 an27 : Option Addr} {sl27 : Array (Option Value)} {oc27 kV27 dc27 pm27 cd27 ct27 : Value}
    {od28 an28 : Option Addr} {sl28 : Array (Option Value)} {oc28 kV28 dc28 pm28 cd28 ct28 : Value} {t_MOST_NAMES : Tok}
    (a_cWeb : PySem.W.nsIn K mainGlobals "Web" = some (some (.ref AWeb)))
    (a_cRawWeb : PySem.W.nsIn K mainGlobals "RawWeb" = some (some (.ref ARawWeb)))
    (a1 : PySem.W.nsIn K mainGlobals "is_integer" = some (some (.ref f1)))
    (l1 : K.lookup f1 = some ⟨oc1, od1, .func (PySem.W.fnOf "is_integer" "is_integer" (defArgs st_is_integer) (defBody st_is_integer) (defScope st_is_integer) .none kV1 dc1 pm1 an1 cd1 ct1), sl1⟩)
    (c1 : PySem.W.codeIn K cd1 "is_integer" = true)
    (k1 : PySem.W.keepIn K (.ref f1) = true)
    (a2 : PySem.W.nsIn K mainGlobals "is_within" = some (some (.ref f2)))
    (l2 : K.lookup f2 = some ⟨oc2, od2, .func (PySem.W.fnOf "is_within" "is_within" (defArgs st_is_within) (defBody st_is_within) (defScope st_is_within) .none kV2 dc2 pm2 an2 cd2 ct2), sl2⟩)
    (c2 : PySem.W.codeIn K cd2 "is_within" = true)
    (k2 : PySem.W.keepIn K (.ref f2) = true)
    (a3 : PySem.W.nsIn K mainGlobals "is_pair" = some (some (.ref f3)))
    (l3 : K.lookup f3 = some ⟨oc3, od3, .func (PySem.W.fnOf "is_pair" "is_pair" (defArgs st_is_pair) (defBody st_is_pair) (defScope st_is_pair) .none kV3 dc3 pm3 an3 cd3 ct3), sl3⟩)
    (c3 : PySem.W.codeIn K cd3 "is_pair" = true)
    (k3 : PySem.W.keepIn K (.ref f3) = true)
    (a4 : PySem.W.nsIn K mainGlobals "is_ascending" = some (some (.ref f4)))
    (l4 : K.lookup f4 = some ⟨oc4, od4, .func (PySem.W.fnOf "is_ascending" "is_ascending" (defArgs st_is_ascending) (defBody st_is_ascending) (defScope st_is_ascending) .none kV4 dc4 pm4 an4 cd4 ct4), sl4⟩)
    (c4 : PySem.W.codeIn K cd4 "is_ascending" = true)
    (k4 : PySem.W.keepIn K (.ref f4) = true)
    (a5 : PySem.W.nsIn K mainGlobals "are_names" = some (some (.ref f5)))
    (l5 : K.lookup f5 = some ⟨oc5, od5, .func (PySem.W.fnOf "are_names" "are_names" (defArgs st_are_names) (defBody st_are_names) (defScope st_are_names) .none kV5 dc5 pm5 an5 cd5 ct5), sl5⟩)
    (c5 : PySem.W.codeIn K cd5 "are_names" = true)
    (k5 : PySem.W.keepIn K (.ref f5) = true)
    (a6 : PySem.W.nsIn K mainGlobals "closed" = some (some (.ref f6)))
    (l6 : K.lookup f6 = some ⟨oc6, od6, .func (PySem.W.fnOf "closed" "closed" (defArgs st_closed) (defBody st_closed) (defScope st_closed) .none kV6 dc6 pm6 an6 cd6 ct6), sl6⟩)
    (c6 : PySem.W.codeIn K cd6 "closed" = true)
    (k6 : PySem.W.keepIn K (.ref f6) = true)
    (a7 : PySem.W.nsIn K mainGlobals "are_befores" = some (some (.ref f7)))
    (l7 : K.lookup f7 = some ⟨oc7, od7, .func (PySem.W.fnOf "are_befores" "are_befores" (defArgs st_are_befores) (defBody st_are_befores) (defScope st_are_befores) .none kV7 dc7 pm7 an7 cd7 ct7), sl7⟩)
    (c7 : PySem.W.codeIn K cd7 "are_befores" = true)
    (k7 : PySem.W.keepIn K (.ref f7) = true)
    (a8 : PySem.W.nsIn K mainGlobals "raw_web" = some (some (.ref f8)))
    (l8 : K.lookup f8 = some ⟨oc8, od8, .func (PySem.W.fnOf "raw_web" "raw_web" (defArgs st_raw_web) (defBody st_raw_web) (defScope st_raw_web) .none kV8 dc8 pm8 an8 cd8 ct8), sl8⟩)
    (c8 : PySem.W.codeIn K cd8 "raw_web" = true)
    (k8 : PySem.W.keepIn K (.ref f8) = true)
    (a9 : PySem.W.nsIn K mainGlobals "is_apart" = some (some (.ref f9)))
    (l9 : K.lookup f9 = some ⟨oc9, od9, .func (PySem.W.fnOf "is_apart" "is_apart" (defArgs st_is_apart) (defBody st_is_apart) (defScope st_is_apart) .none kV9 dc9 pm9 an9 cd9 ct9), sl9⟩)
    (c9 : PySem.W.codeIn K cd9 "is_apart" = true)
    (k9 : PySem.W.keepIn K (.ref f9) = true)
    (a10 : PySem.W.nsIn K mainGlobals "pairs_apart" = some (some (.ref f10)))
    (l10 : K.lookup f10 = some ⟨oc10, od10, .func (PySem.W.fnOf "pairs_apart" "pairs_apart" (defArgs st_pairs_apart) (defBody st_pairs_apart) (defScope st_pairs_apart) .none kV10 dc10 pm10 an10 cd10 ct10), sl10⟩)
    (c10 : PySem.W.codeIn K cd10 "pairs_apart" = true)
    (k10 : PySem.W.keepIn K (.ref f10) = true)
    (a11 : PySem.W.nsIn K mainGlobals "most_asks" = some (some (.ref f11)))
    (l11 : K.lookup f11 = some ⟨oc11, od11, .func (PySem.W.fnOf "most_asks" "most_asks" (defArgs st_most_asks) (defBody st_most_asks) (defScope st_most_asks) .none kV11 dc11 pm11 an11 cd11 ct11), sl11⟩)
    (c11 : PySem.W.codeIn K cd11 "most_asks" = true)
    (k11 : PySem.W.keepIn K (.ref f11) = true)
    (a12 : PySem.W.nsIn K mainGlobals "turned" = some (some (.ref f12)))
    (l12 : K.lookup f12 = some ⟨oc12, od12, .func (PySem.W.fnOf "turned" "turned" (defArgs st_turned) (defBody st_turned) (defScope st_turned) .none kV12 dc12 pm12 an12 cd12 ct12), sl12⟩)
    (c12 : PySem.W.codeIn K cd12 "turned" = true)
    (k12 : PySem.W.keepIn K (.ref f12) = true)
    (a13 : PySem.W.nsIn K mainGlobals "_law_tape" = some (some (.ref f13)))
    (l13 : K.lookup f13 = some ⟨oc13, od13, .func (PySem.W.fnOf "_law_tape" "_law_tape" (defArgs st__law_tape) (defBody st__law_tape) (defScope st__law_tape) .none kV13 dc13 pm13 an13 cd13 ct13), sl13⟩)
    (c13 : PySem.W.codeIn K cd13 "_law_tape" = true)
    (k13 : PySem.W.keepIn K (.ref f13) = true)
    (a14 : PySem.W.nsIn K mainGlobals "_law_pick" = some (some (.ref f14)))
    (l14 : K.lookup f14 = some ⟨oc14, od14, .func (PySem.W.fnOf "_law_pick" "_law_pick" (defArgs st__law_pick) (defBody st__law_pick) (defScope st__law_pick) .none kV14 dc14 pm14 an14 cd14 ct14), sl14⟩)
    (c14 : PySem.W.codeIn K cd14 "_law_pick" = true)
    (k14 : PySem.W.keepIn K (.ref f14) = true)
    (a15 : PySem.W.nsIn K mainGlobals "_law_closed" = some (some (.ref f15)))
    (l15 : K.lookup f15 = some ⟨oc15, od15, .func (PySem.W.fnOf "_law_closed" "_law_closed" (defArgs st__law_closed) (defBody st__law_closed) (defScope st__law_closed) .none kV15 dc15 pm15 an15 cd15 ct15), sl15⟩)
    (c15 : PySem.W.codeIn K cd15 "_law_closed" = true)
    (k15 : PySem.W.keepIn K (.ref f15) = true)
    (a16 : PySem.W.nsIn K mainGlobals "_law_pairs" = some (some (.ref f16)))
    (l16 : K.lookup f16 = some ⟨oc16, od16, .func (PySem.W.fnOf "_law_pairs" "_law_pairs" (defArgs st__law_pairs) (defBody st__law_pairs) (defScope st__law_pairs) .none kV16 dc16 pm16 an16 cd16 ct16), sl16⟩)
    (c16 : PySem.W.codeIn K cd16 "_law_pairs" = true)
    (k16 : PySem.W.keepIn K (.ref f16) = true)
    (a17 : PySem.W.nsIn K mainGlobals "_law_free" = some (some (.ref f17)))
    (l17 : K.lookup f17 = some ⟨oc17, od17, .func (PySem.W.fnOf "_law_free" "_law_free" (defArgs st__law_free) (defBody st__law_free) (defScope st__law_free) .none kV17 dc17 pm17 an17 cd17 ct17), sl17⟩)
    (c17 : PySem.W.codeIn K cd17 "_law_free" = true)
    (k17 : PySem.W.keepIn K (.ref f17) = true)
    (a18 : PySem.W.nsIn K mainGlobals "_law_orders" = some (some (.ref f18)))
    (l18 : K.lookup f18 = some ⟨oc18, od18, .func (PySem.W.fnOf "_law_orders" "_law_orders" (defArgs st__law_orders) (defBody st__law_orders) (defScope st__law_orders) .none kV18 dc18 pm18 an18 cd18 ct18), sl18⟩)
    (c18 : PySem.W.codeIn K cd18 "_law_orders" = true)
    (k18 : PySem.W.keepIn K (.ref f18) = true)
    (a19 : PySem.W.nsIn K mainGlobals "_law_web" = some (some (.ref f19)))
    (l19 : K.lookup f19 = some ⟨oc19, od19, .func (PySem.W.fnOf "_law_web" "_law_web" (defArgs st__law_web) (defBody st__law_web) (defScope st__law_web) .none kV19 dc19 pm19 an19 cd19 ct19), sl19⟩)
    (c19 : PySem.W.codeIn K cd19 "_law_web" = true)
    (k19 : PySem.W.keepIn K (.ref f19) = true)
    (a20 : PySem.W.nsIn K mainGlobals "_law_open" = some (some (.ref f20)))
    (l20 : K.lookup f20 = some ⟨oc20, od20, .func (PySem.W.fnOf "_law_open" "_law_open" (defArgs st__law_open) (defBody st__law_open) (defScope st__law_open) .none kV20 dc20 pm20 an20 cd20 ct20), sl20⟩)
    (c20 : PySem.W.codeIn K cd20 "_law_open" = true)
    (k20 : PySem.W.keepIn K (.ref f20) = true)
    (a21 : PySem.W.nsIn K mainGlobals "_law_small" = some (some (.ref f21)))
    (l21 : K.lookup f21 = some ⟨oc21, od21, .func (PySem.W.fnOf "_law_small" "_law_small" (defArgs st__law_small) (defBody st__law_small) (defScope st__law_small) .none kV21 dc21 pm21 an21 cd21 ct21), sl21⟩)
    (c21 : PySem.W.codeIn K cd21 "_law_small" = true)
    (k21 : PySem.W.keepIn K (.ref f21) = true)
    (a22 : PySem.W.nsIn K mainGlobals "_law_masks" = some (some (.ref f22)))
    (l22 : K.lookup f22 = some ⟨oc22, od22, .func (PySem.W.fnOf "_law_masks" "_law_masks" (defArgs st__law_masks) (defBody st__law_masks) (defScope st__law_masks) .none kV22 dc22 pm22 an22 cd22 ct22), sl22⟩)
    (c22 : PySem.W.codeIn K cd22 "_law_masks" = true)
    (k22 : PySem.W.keepIn K (.ref f22) = true)
    (a23 : PySem.W.nsIn K mainGlobals "_law_asked" = some (some (.ref f23)))
    (l23 : K.lookup f23 = some ⟨oc23, od23, .func (PySem.W.fnOf "_law_asked" "_law_asked" (defArgs st__law_asked) (defBody st__law_asked) (defScope st__law_asked) .none kV23 dc23 pm23 an23 cd23 ct23), sl23⟩)
    (c23 : PySem.W.codeIn K cd23 "_law_asked" = true)
    (k23 : PySem.W.keepIn K (.ref f23) = true)
    (a24 : PySem.W.nsIn K mainGlobals "_law_by_pairs" = some (some (.ref f24)))
    (l24 : K.lookup f24 = some ⟨oc24, od24, .func (PySem.W.fnOf "_law_by_pairs" "_law_by_pairs" (defArgs st__law_by_pairs) (defBody st__law_by_pairs) (defScope st__law_by_pairs) .none kV24 dc24 pm24 an24 cd24 ct24), sl24⟩)
    (c24 : PySem.W.codeIn K cd24 "_law_by_pairs" = true)
    (k24 : PySem.W.keepIn K (.ref f24) = true)
    (a25 : PySem.W.nsIn K mainGlobals "law" = some (some (.ref f25)))
    (l25 : K.lookup f25 = some ⟨oc25, od25, .func (PySem.W.fnOf "law" "law" (defArgs st_law) (defBody st_law) (defScope st_law) .none kV25 dc25 pm25 an25 cd25 ct25), sl25⟩)
    (c25 : PySem.W.codeIn K cd25 "law" = true)
    (k25 : PySem.W.keepIn K (.ref f25) = true)
    (a26Web : PySem.W.findIn K (.ref AWeb) "__init__" = some (some (.ref f26)))
    (i26 : PySem.W.isFn K (.ref f26) = true)
    (l26 : K.lookup f26 = some ⟨oc26, od26, .func (PySem.W.fnOf "__init__" "Web.__init__" (defArgs st_Web___init__) (defBody st_Web___init__) (defScope st_Web___init__) .none kV26 dc26 pm26 an26 cd26 ct26), sl26⟩)
    (c26 : PySem.W.codeIn K cd26 "Web.__init__" = true)
    (k26 : PySem.W.keepIn K (.ref f26) = true)
    (a27Web : PySem.W.findIn K (.ref AWeb) "keep" = some (some (.ref f27)))
    (a27RawWeb : PySem.W.findIn K (.ref ARawWeb) "keep" = some (some (.ref f27)))
    (i27 : PySem.W.isFn K (.ref f27) = true)
    (l27 : K.lookup f27 = some ⟨oc27, od27, .func (PySem.W.fnOf "keep" "Web.keep" (defArgs st_Web_keep) (defBody st_Web_keep) (defScope st_Web_keep) .none kV27 dc27 pm27 an27 cd27 ct27), sl27⟩)
    (c27 : PySem.W.codeIn K cd27 "Web.keep" = true)
    (k27 : PySem.W.keepIn K (.ref f27) = true)
    (a28RawWeb : PySem.W.findIn K (.ref ARawWeb) "__init__" = some (some (.ref f28)))
    (i28 : PySem.W.isFn K (.ref f28) = true)
    (l28 : K.lookup f28 = some ⟨oc28, od28, .func (PySem.W.fnOf "__init__" "RawWeb.__init__" (defArgs st_RawWeb___init__) (defBody st_RawWeb___init__) (defScope st_RawWeb___init__) .none kV28 dc28 pm28 an28 cd28 ct28), sl28⟩)
    (c28 : PySem.W.codeIn K cd28 "RawWeb.__init__" = true)
    (k28 : PySem.W.keepIn K (.ref f28) = true)
    (pgWeb : PySem.W.plainGet K AWeb Str.empty = true)
    (hdWeb : PySem.W.hasDictIn K AWeb = true)
    (poWeb : PySem.W.plainOver K AWeb = true)
    (saWeb : PySem.W.findIn K (.ref AWeb) "__setattr__" = some (some (.builtin "object.__setattr__")))
    (mkWeb : PySem.W.makesIn K AWeb = true)
    (kcWeb : PySem.W.keepIn K (.ref AWeb) = true)
    (nmanyWeb : PySem.W.findIn K (.ref AWeb) "many" = some none)
    (nbeforesWeb : PySem.W.findIn K (.ref AWeb) "befores" = some none)
    (naheadWeb : PySem.W.findIn K (.ref AWeb) "ahead" = some none)
    (nlaterWeb : PySem.W.findIn K (.ref AWeb) "later" = some none)
    (pgRawWeb : PySem.W.plainGet K ARawWeb Str.empty = true)
    (hdRawWeb : PySem.W.hasDictIn K ARawWeb = true)
    (poRawWeb : PySem.W.plainOver K ARawWeb = true)
    (saRawWeb : PySem.W.findIn K (.ref ARawWeb) "__setattr__" = some (some (.builtin "object.__setattr__")))
    (mkRawWeb : PySem.W.makesIn K ARawWeb = true)
    (kcRawWeb : PySem.W.keepIn K (.ref ARawWeb) = true)
    (nmanyRawWeb : PySem.W.findIn K (.ref ARawWeb) "many" = some none)
    (nbeforesRawWeb : PySem.W.findIn K (.ref ARawWeb) "befores" = some none)
    (naheadRawWeb : PySem.W.findIn K (.ref ARawWeb) "ahead" = some none)
    (nlaterRawWeb : PySem.W.findIn K (.ref ARawWeb) "later" = some none)
    (z_len : PySem.W.nsIn K mainGlobals "len" = some none)
    (z_isinstance : PySem.W.nsIn K mainGlobals "isinstance" = some none)
    (z_range : PySem.W.nsIn K mainGlobals "range" = some none)
    (z_any : PySem.W.nsIn K mainGlobals "any" = some none)
    (z_all : PySem.W.nsIn K mainGlobals "all" = some none)
    (z_sum : PySem.W.nsIn K mainGlobals "sum" = some none)
    (z_max : PySem.W.nsIn K mainGlobals "max" = some none)
    (z_min : PySem.W.nsIn K mainGlobals "min" = some none)
    (z_sorted : PySem.W.nsIn K mainGlobals "sorted" = some none)
    (z_enumerate : PySem.W.nsIn K mainGlobals "enumerate" = some none)
    (z_int : PySem.W.nsIn K mainGlobals "int" = some none)
    (z_bool : PySem.W.nsIn K mainGlobals "bool" = some none)
    (z_tuple : PySem.W.nsIn K mainGlobals "tuple" = some none)
    (z_list : PySem.W.nsIn K mainGlobals "list" = some none)
    (z_set : PySem.W.nsIn K mainGlobals "set" = some none)
    (g_MOST_NAMES : PySem.W.nsIn K mainGlobals "MOST_NAMES" = some (some (.int 8 t_MOST_NAMES))) :
    ∃ fd : FuncData, (∀ (s : Shared) (v : Value), BindsTo s fd ⟨[v], []⟩ [("_law_script", v)]) ∧ ∀ base : Heap, K.In base → base.Ns mainGlobals mg → FnOk l.prog w K mg base CX0 13 fa fd ["_law_script"] (spLaw K) := by
  have e := hfa.symm.trans (PySem.W.mg_of X G a25)
  cases e
  have B : Bl mg := ⟨PySem.W.mg_none_of X G z_len, PySem.W.mg_none_of X G z_isinstance, PySem.W.mg_none_of X G z_range, PySem.W.mg_none_of X G z_any, PySem.W.mg_none_of X G z_all, PySem.W.mg_none_of X G z_sum, PySem.W.mg_none_of X G z_max, PySem.W.mg_none_of X G z_min, PySem.W.mg_none_of X G z_sorted, PySem.W.mg_none_of X G z_enumerate, PySem.W.mg_none_of X G z_int, PySem.W.mg_none_of X G z_bool, PySem.W.mg_none_of X G z_tuple, PySem.W.mg_none_of X G z_list, PySem.W.mg_none_of X G z_set⟩
  have F1 := fun_mk (st := st_is_integer) l1 c1 k1
  have G_is_integer : GF K mg "is_integer" st_is_integer ["thing"] := ⟨f1, _, PySem.W.mg_of X G a1, F1, (F1.binds (ps := ["thing"]) fun _ _ _ _ _ _ us hl => match us, hl with | [_], _ => rfl)⟩
  have F2 := fun_mk (st := st_is_within) l2 c2 k2
  have G_is_within : GF K mg "is_within" st_is_within ["thing", "least", "most"] := ⟨f2, _, PySem.W.mg_of X G a2, F2, (F2.binds (ps := ["thing", "least", "most"]) fun _ _ _ _ _ _ us hl => match us, hl with | [_, _, _], _ => rfl)⟩
  have F3 := fun_mk (st := st_is_pair) l3 c3 k3
  have G_is_pair : GF K mg "is_pair" st_is_pair ["thing"] := ⟨f3, _, PySem.W.mg_of X G a3, F3, (F3.binds (ps := ["thing"]) fun _ _ _ _ _ _ us hl => match us, hl with | [_], _ => rfl)⟩
  have F4 := fun_mk (st := st_is_ascending) l4 c4 k4
  have G_is_ascending : GF K mg "is_ascending" st_is_ascending ["items"] := ⟨f4, _, PySem.W.mg_of X G a4, F4, (F4.binds (ps := ["items"]) fun _ _ _ _ _ _ us hl => match us, hl with | [_], _ => rfl)⟩
  have F5 := fun_mk (st := st_are_names) l5 c5 k5
  have G_are_names : GF K mg "are_names" st_are_names ["many", "thing"] := ⟨f5, _, PySem.W.mg_of X G a5, F5, (F5.binds (ps := ["many", "thing"]) fun _ _ _ _ _ _ us hl => match us, hl with | [_, _], _ => rfl)⟩
  have F6 := fun_mk (st := st_closed) l6 c6 k6
  have G_closed : GF K mg "closed" st_closed ["many", "pairs"] := ⟨f6, _, PySem.W.mg_of X G a6, F6, (F6.binds (ps := ["many", "pairs"]) fun _ _ _ _ _ _ us hl => match us, hl with | [_, _], _ => rfl)⟩
  have F7 := fun_mk (st := st_are_befores) l7 c7 k7
  have G_are_befores : GF K mg "are_befores" st_are_befores ["many", "thing"] := ⟨f7, _, PySem.W.mg_of X G a7, F7, (F7.binds (ps := ["many", "thing"]) fun _ _ _ _ _ _ us hl => match us, hl with | [_, _], _ => rfl)⟩
  have F8 := fun_mk (st := st_raw_web) l8 c8 k8
  have G_raw_web : GF K mg "raw_web" st_raw_web ["many", "every"] := ⟨f8, _, PySem.W.mg_of X G a8, F8, (F8.binds (ps := ["many", "every"]) fun _ _ _ _ _ _ us hl => match us, hl with | [_, _], _ => rfl)⟩
  have F9 := fun_mk (st := st_is_apart) l9 c9 k9
  have G_is_apart : GF K mg "is_apart" st_is_apart ["web", "one", "other"] := ⟨f9, _, PySem.W.mg_of X G a9, F9, (F9.binds (ps := ["web", "one", "other"]) fun _ _ _ _ _ _ us hl => match us, hl with | [_, _, _], _ => rfl)⟩
  have F10 := fun_mk (st := st_pairs_apart) l10 c10 k10
  have G_pairs_apart : GF K mg "pairs_apart" st_pairs_apart ["web"] := ⟨f10, _, PySem.W.mg_of X G a10, F10, (F10.binds (ps := ["web"]) fun _ _ _ _ _ _ us hl => match us, hl with | [_], _ => rfl)⟩
  have F11 := fun_mk (st := st_most_asks) l11 c11 k11
  have G_most_asks : GF K mg "most_asks" st_most_asks ["web"] := ⟨f11, _, PySem.W.mg_of X G a11, F11, (F11.binds (ps := ["web"]) fun _ _ _ _ _ _ us hl => match us, hl with | [_], _ => rfl)⟩
  have F12 := fun_mk (st := st_turned) l12 c12 k12
  have G_turned : GF K mg "turned" st_turned ["web"] := ⟨f12, _, PySem.W.mg_of X G a12, F12, (F12.binds (ps := ["web"]) fun _ _ _ _ _ _ us hl => match us, hl with | [_], _ => rfl)⟩
  have F13 := fun_mk (st := st__law_tape) l13 c13 k13
  have G__law_tape : GF K mg "_law_tape" st__law_tape ["_law_script"] := ⟨f13, _, PySem.W.mg_of X G a13, F13, (F13.binds (ps := ["_law_script"]) fun _ _ _ _ _ _ us hl => match us, hl with | [_], _ => rfl)⟩
  have F14 := fun_mk (st := st__law_pick) l14 c14 k14
  have G__law_pick : GF K mg "_law_pick" st__law_pick ["_law_tape_here", "_law_many"] := ⟨f14, _, PySem.W.mg_of X G a14, F14, (F14.binds (ps := ["_law_tape_here", "_law_many"]) fun _ _ _ _ _ _ us hl => match us, hl with | [_, _], _ => rfl)⟩
  have F15 := fun_mk (st := st__law_closed) l15 c15 k15
  have G__law_closed : GF K mg "_law_closed" st__law_closed ["_law_pairs_here"] := ⟨f15, _, PySem.W.mg_of X G a15, F15, (F15.binds (ps := ["_law_pairs_here"]) fun _ _ _ _ _ _ us hl => match us, hl with | [_], _ => rfl)⟩
  have F16 := fun_mk (st := st__law_pairs) l16 c16 k16
  have G__law_pairs : GF K mg "_law_pairs" st__law_pairs ["_law_tape_here", "_law_many"] := ⟨f16, _, PySem.W.mg_of X G a16, F16, (F16.binds (ps := ["_law_tape_here", "_law_many"]) fun _ _ _ _ _ _ us hl => match us, hl with | [_, _], _ => rfl)⟩
  have F17 := fun_mk (st := st__law_free) l17 c17 k17
  have G__law_free : GF K mg "_law_free" st__law_free ["_law_befores", "_law_many", "_law_row"] := ⟨f17, _, PySem.W.mg_of X G a17, F17, (F17.binds (ps := ["_law_befores", "_law_many", "_law_row"]) fun _ _ _ _ _ _ us hl => match us, hl with | [_, _, _], _ => rfl)⟩
  have F18 := fun_mk (st := st__law_orders) l18 c18 k18
  have G__law_orders : GF K mg "_law_orders" st__law_orders ["_law_befores", "_law_many"] := ⟨f18, _, PySem.W.mg_of X G a18, F18, (F18.binds (ps := ["_law_befores", "_law_many"]) fun _ _ _ _ _ _ us hl => match us, hl with | [_, _], _ => rfl)⟩
  have F19 := fun_mk (st := st__law_web) l19 c19 k19
  have G__law_web : GF K mg "_law_web" st__law_web ["_law_tape_here", "_law_most"] := ⟨f19, _, PySem.W.mg_of X G a19, F19, (F19.binds (ps := ["_law_tape_here", "_law_most"]) fun _ _ _ _ _ _ us hl => match us, hl with | [_, _], _ => rfl)⟩
  have F20 := fun_mk (st := st__law_open) l20 c20 k20
  have G__law_open : GF K mg "_law_open" st__law_open ["_law_every", "_law_many"] := ⟨f20, _, PySem.W.mg_of X G a20, F20, (F20.binds (ps := ["_law_every", "_law_many"]) fun _ _ _ _ _ _ us hl => match us, hl with | [_, _], _ => rfl)⟩
  have F21 := fun_mk (st := st__law_small) l21 c21 k21
  have G__law_small : GF K mg "_law_small" st__law_small ["_law_tape_here", "_law_most", "_law_rows"] := ⟨f21, _, PySem.W.mg_of X G a21, F21, (F21.binds (ps := ["_law_tape_here", "_law_most", "_law_rows"]) fun _ _ _ _ _ _ us hl => match us, hl with | [_, _, _], _ => rfl)⟩
  have F22 := fun_mk (st := st__law_masks) l22 c22 k22
  have G__law_masks : GF K mg "_law_masks" st__law_masks ["_law_rows", "_law_pairs_here"] := ⟨f22, _, PySem.W.mg_of X G a22, F22, (F22.binds (ps := ["_law_rows", "_law_pairs_here"]) fun _ _ _ _ _ _ us hl => match us, hl with | [_, _], _ => rfl)⟩
  have F23 := fun_mk (st := st__law_asked) l23 c23 k23
  have G__law_asked : GF K mg "_law_asked" st__law_asked ["_law_lot", "_law_masks_here", "_law_known"] := ⟨f23, _, PySem.W.mg_of X G a23, F23, (F23.binds (ps := ["_law_lot", "_law_masks_here", "_law_known"]) fun _ _ _ _ _ _ us hl => match us, hl with | [_, _, _], _ => rfl)⟩
  have F24 := fun_mk (st := st__law_by_pairs) l24 c24 k24
  have G__law_by_pairs : GF K mg "_law_by_pairs" st__law_by_pairs ["_law_every", "_law_many"] := ⟨f24, _, PySem.W.mg_of X G a24, F24, (F24.binds (ps := ["_law_every", "_law_many"]) fun _ _ _ _ _ _ us hl => match us, hl with | [_, _], _ => rfl)⟩
  have F25 := fun_mk (st := st_law) l25 c25 k25
  have F26 := fun_mk (st := st_Web___init__) l26 c26 k26
  have G_Web : GI K mg "Web" AWeb "Web.__init__" st_Web___init__ ["self", "many", "befores"] := ⟨f26, _, PySem.W.mg_of X G a_cWeb, ⟨mkWeb, a26Web, i26, kcWeb⟩, F26, (F26.binds (ps := ["self", "many", "befores"]) fun _ _ _ _ _ _ us hl => match us, hl with | [_, _, _], _ => rfl)⟩
  have F27 := fun_mk (st := st_Web_keep) l27 c27 k27
  have G_keep_Web : GM K AWeb "keep" "Web.keep" st_Web_keep ["self", "many", "every"] := ⟨f27, _, ⟨pgWeb, hdWeb, poWeb, saWeb⟩, ⟨a27Web, i27, k27⟩, F27, (F27.binds (ps := ["self", "many", "every"]) fun _ _ _ _ _ _ us hl => match us, hl with | [_, _, _], _ => rfl)⟩
  have G_keep_RawWeb : GM K ARawWeb "keep" "Web.keep" st_Web_keep ["self", "many", "every"] := ⟨f27, _, ⟨pgRawWeb, hdRawWeb, poRawWeb, saRawWeb⟩, ⟨a27RawWeb, i27, k27⟩, F27, (F27.binds (ps := ["self", "many", "every"]) fun _ _ _ _ _ _ us hl => match us, hl with | [_, _, _], _ => rfl)⟩
  have F28 := fun_mk (st := st_RawWeb___init__) l28 c28 k28
  have G_RawWeb : GI K mg "RawWeb" ARawWeb "RawWeb.__init__" st_RawWeb___init__ ["self", "many", "every"] := ⟨f28, _, PySem.W.mg_of X G a_cRawWeb, ⟨mkRawWeb, a28RawWeb, i28, kcRawWeb⟩, F28, (F28.binds (ps := ["self", "many", "every"]) fun _ _ _ _ _ _ us hl => match us, hl with | [_, _, _], _ => rfl)⟩
  have T : WT K AWeb ARawWeb := ⟨fun E hE => by
    rcases hE with e | e <;> subst e
    · exact ⟨pgWeb, hdWeb, poWeb, saWeb⟩
    · exact ⟨pgRawWeb, hdRawWeb, poRawWeb, saRawWeb⟩, fun E hE f hf => by
    have hf' : f = "many" ∨ f = "befores" ∨ f = "ahead" ∨ f = "later" := by simpa [fl4] using hf
    rcases hE with e | e <;> subst e <;> rcases hf' with e | e | e | e <;> subst e
    · exact nmanyWeb
    · exact nbeforesWeb
    · exact naheadWeb
    · exact nlaterWeb
    · exact nmanyRawWeb
    · exact nbeforesRawWeb
    · exact naheadRawWeb
    · exact nlaterRawWeb⟩
  refine ⟨PySem.W.fnOf "law" "law" (defArgs st_law) (defBody st_law) (defScope st_law) .none kV25 dc25 pm25 an25 cd25 ct25, fun s v => .of_eq rfl, fun base _ _ => ?_⟩
  have c1 : Can l.prog w K mg base "is_integer" 1 ["thing"] (spD P0 a_int p_int) := ok_is_integer B G_is_integer
  have c2 := ok_is_within B G_is_within c1
  have c3 : Can l.prog w K mg base "is_pair" 1 ["thing"] (spD P0 a_tup p_pair) := ok_is_pair B G_is_pair
  have c4 : Can l.prog w K mg base "is_ascending" 1 ["items"] (spD P0 a_asc p_yes) := ok_is_ascending B G_is_ascending
  have c5 := ok_are_names B G_are_names c2
  have c6 : Can l.prog w K mg base "closed" 1 ["many", "pairs"] (spD P0 a_closed p_closed) := ok_closed B G_closed
  have c7 := ok_are_befores B G_are_befores c3 c5 c4
  have cK : CanM l.prog w K mg base AWeb "keep" 1 ["self", "many", "every"] (spKeep AWeb ARawWeb AWeb) := ok_keep B T G_keep_Web
  have cR : CanM l.prog w K mg base ARawWeb "keep" 1 ["self", "many", "every"] (spKeep AWeb ARawWeb ARawWeb) := ok_keep B T G_keep_RawWeb
  have cW := ok_Web B T ⟨_, PySem.W.mg_of X G g_MOST_NAMES⟩ G_Web c2 c7 c6 cK
  have cD := ok_RawWeb B G_RawWeb cR
  have c8 := ok_raw_web B G_raw_web cD
  have c9 : Can l.prog w K mg base "is_apart" 1 ["web", "one", "other"] (spD P0 (a_apart AWeb ARawWeb) p_apart) := ok_is_apart B T G_is_apart
  have c10 := ok_pairs_apart B T G_pairs_apart c9
  have c11 := ok_most_asks B G_most_asks c10
  have c12 := ok_turned B T G_turned c8
  have c13 : Can l.prog w K mg base "_law_tape" 1 ["_law_script"] (spTape K) := ok_tape G__law_tape B
  have c14 : Can l.prog w K mg base "_law_pick" 1 ["_law_tape_here", "_law_many"] (spT a_pick p_pick) := ok_pick G__law_pick B
  have c15 : Can l.prog w K mg base "_law_closed" 1 ["_law_pairs_here"] (spD P0 a_lc p_lc) := ok_law_closed B G__law_closed
  have c16 := ok_law_pairs B G__law_pairs c14
  have c17 : Can l.prog w K mg base "_law_free" 1 ["_law_befores", "_law_many", "_law_row"] (spD P0 a_fr p_fr) := ok_law_free B G__law_free
  have c18 := ok_law_orders B G__law_orders c17
  have c19 := ok_law_web B G__law_web c14 c16 c15
  have c20 : Can l.prog w K mg base "_law_open" 1 ["_law_every", "_law_many"] (spD P0 a_op p_op) := ok_law_open B G__law_open
  have c21 := ok_law_small B G__law_small c14 c19 c18 c20 c15
  have c22 : Can l.prog w K mg base "_law_masks" 1 ["_law_rows", "_law_pairs_here"] (spD P0 a_mk p_mk) := ok_law_masks B G__law_masks
  have c23 : Can l.prog w K mg base "_law_asked" 11 ["_law_lot", "_law_masks_here", "_law_known"] (spA 11) := ok_law_asked B G__law_asked 11
  have c24 := ok_law_by_pairs B G__law_by_pairs c18 c20 c22 c23
  exact ok_law B T F25 c13 c14 c21 cW c24 c11 c12 c20 c15 c16
theorem walk {l : PySem.W.OpenLaw} {q : Program} {loose : List Str} {XP : (Str → Option Value) → Heap → Prop} {YP : World → Heap → Prop} {d : DefRec} {K : Params → PySem.W.Frag} (hn : l.most = some 63) (hdf : d.params.defaults = [])
    (hY : ∀ (w : World) (h : Heap), YP w h → (K w.params).In h)
    (F : ∀ (w : World) (mg : Str → Option Value) (fa : Addr) (h : Heap), (K w.params).In h → h.Ns mainGlobals mg → mg d.name = some (.ref fa) →
      ∃ fd : FuncData, (∀ (s : Shared) (u : Value), BindsTo s fd ⟨[u], []⟩ [("_law_script", u)]) ∧ ∀ base : Heap, (K w.params).In base → base.Ns mainGlobals mg → FnOk l.prog w (K w.params) mg base CX0 13 fa fd ["_law_script"] (spLaw (K w.params))) :
    PySem.W.WalkO q loose XP YP l.row.toRowW d [] (fun f vs => PySem.call f vs) :=
  L2.walk_of (n := 63) (k := 13) (x := "_law_script") (CX := fun _ => CX0) (sp := fun w => spLaw (K w.params)) hn (by decide) hdf ⟨rfl, by decide, by decide⟩ hY F (fun _ _ a ns hl _ hS => ⟨a, ns, rfl, hS, Nat.lt_of_le_of_lt hl (by decide), fun _ => rfl⟩) fun _ _ _ _ _ z => z
end EV
open PySem PySem.W PyProof.Rows in
set_option maxRecDepth 100000 in
set_option maxHeartbeats 0 in
theorem PySem.Challenge.cw_evenorders_k70_whole_most_asks_by_all_ga_holds : PySem.Challenge.rw_evenorders_k70_whole_most_asks_by_all_ga.Holds := by
  w_on; o_law; k_head; (case hw => w_witness2)
  k_fill
  refine EV.walk (l := PySem.Challenge.rw_evenorders_k70_whole_most_asks_by_all_ga) rfl rfl (fun w h Y => PySem.W.kIn_of Y) ?F
  case F =>
    intro w mg fa h KX G hmg
    refine' EV.all_mk KX G hmg ?a_cWeb ?a_cRawWeb ?a1 ?l1 ?c1 ?k1 ?a2 ?l2 ?c2 ?k2 ?a3 ?l3 ?c3 ?k3 ?a4 ?l4 ?c4 ?k4 ?a5 ?l5 ?c5 ?k5 ?a6 ?l6 ?c6 ?k6 ?a7 ?l7 ?c7 ?k7 ?a8 ?l8 ?c8 ?k8 ?a9 ?l9 ?c9 ?k9 ?a10 ?l10 ?c10 ?k10 ?a11 ?l11 ?c11 ?k11 ?a12 ?l12 ?c12 ?k12 ?a13 ?l13 ?c13 ?k13 ?a14 ?l14 ?c14 ?k14 ?a15 ?l15 ?c15 ?k15 ?a16 ?l16 ?c16 ?k16 ?a17 ?l17 ?c17 ?k17 ?a18 ?l18 ?c18 ?k18 ?a19 ?l19 ?c19 ?k19 ?a20 ?l20 ?c20 ?k20 ?a21 ?l21 ?c21 ?k21 ?a22 ?l22 ?c22 ?k22 ?a23 ?l23 ?c23 ?k23 ?a24 ?l24 ?c24 ?k24 ?a25 ?l25 ?c25 ?k25 ?a26Web ?i26 ?l26 ?c26 ?k26 ?a27Web ?a27RawWeb ?i27 ?l27 ?c27 ?k27 ?a28RawWeb ?i28 ?l28 ?c28 ?k28 ?pgWeb ?hdWeb ?poWeb ?saWeb ?mkWeb ?kcWeb ?nmanyWeb ?nbeforesWeb ?naheadWeb ?nlaterWeb ?pgRawWeb ?hdRawWeb ?poRawWeb ?saRawWeb ?mkRawWeb ?kcRawWeb ?nmanyRawWeb ?nbeforesRawWeb ?naheadRawWeb ?nlaterRawWeb ?z_len ?z_isinstance ?z_range ?z_any ?z_all ?z_sum ?z_max ?z_min ?z_sorted ?z_enumerate ?z_int ?z_bool ?z_tuple ?z_list ?z_set ?g_MOST_NAMES
    (case a_cWeb => k_is)
    (case a_cRawWeb => k_is)
    (case a1 => k_is)
    (case l1 => k_is)
    (case c1 => k_is)
    (case k1 => k_is)
    (case a2 => k_is)
    (case l2 => k_is)
    (case c2 => k_is)
    (case k2 => k_is)
    (case a3 => k_is)
    (case l3 => k_is)
    (case c3 => k_is)
    (case k3 => k_is)
    (case a4 => k_is)
    (case l4 => k_is)
    (case c4 => k_is)
    (case k4 => k_is)
    (case a5 => k_is)
    (case l5 => k_is)
    (case c5 => k_is)
    (case k5 => k_is)
    (case a6 => k_is)
    (case l6 => k_is)
    (case c6 => k_is)
    (case k6 => k_is)
    (case a7 => k_is)
    (case l7 => k_is)
    (case c7 => k_is)
    (case k7 => k_is)
    (case a8 => k_is)
    (case l8 => k_is)
    (case c8 => k_is)
    (case k8 => k_is)
    (case a9 => k_is)
    (case l9 => k_is)
    (case c9 => k_is)
    (case k9 => k_is)
    (case a10 => k_is)
    (case l10 => k_is)
    (case c10 => k_is)
    (case k10 => k_is)
    (case a11 => k_is)
    (case l11 => k_is)
    (case c11 => k_is)
    (case k11 => k_is)
    (case a12 => k_is)
    (case l12 => k_is)
    (case c12 => k_is)
    (case k12 => k_is)
    (case a13 => k_is)
    (case l13 => k_is)
    (case c13 => k_is)
    (case k13 => k_is)
    (case a14 => k_is)
    (case l14 => k_is)
    (case c14 => k_is)
    (case k14 => k_is)
    (case a15 => k_is)
    (case l15 => k_is)
    (case c15 => k_is)
    (case k15 => k_is)
    (case a16 => k_is)
    (case l16 => k_is)
    (case c16 => k_is)
    (case k16 => k_is)
    (case a17 => k_is)
    (case l17 => k_is)
    (case c17 => k_is)
    (case k17 => k_is)
    (case a18 => k_is)
    (case l18 => k_is)
    (case c18 => k_is)
    (case k18 => k_is)
    (case a19 => k_is)
    (case l19 => k_is)
    (case c19 => k_is)
    (case k19 => k_is)
    (case a20 => k_is)
    (case l20 => k_is)
    (case c20 => k_is)
    (case k20 => k_is)
    (case a21 => k_is)
    (case l21 => k_is)
    (case c21 => k_is)
    (case k21 => k_is)
    (case a22 => k_is)
    (case l22 => k_is)
    (case c22 => k_is)
    (case k22 => k_is)
    (case a23 => k_is)
    (case l23 => k_is)
    (case c23 => k_is)
    (case k23 => k_is)
    (case a24 => k_is)
    (case l24 => k_is)
    (case c24 => k_is)
    (case k24 => k_is)
    (case a25 => k_is)
    (case l25 => k_is)
    (case c25 => k_is)
    (case k25 => k_is)
    (case a26Web => k_is)
    (case i26 => k_is)
    (case l26 => k_is)
    (case c26 => k_is)
    (case k26 => k_is)
    (case a27Web => k_is)
    (case a27RawWeb => k_is)
    (case i27 => k_is)
    (case l27 => k_is)
    (case c27 => k_is)
    (case k27 => k_is)
    (case a28RawWeb => k_is)
    (case i28 => k_is)
    (case l28 => k_is)
    (case c28 => k_is)
    (case k28 => k_is)
    (case pgWeb => k_is)
    (case hdWeb => k_is)
    (case poWeb => k_is)
    (case saWeb => k_is)
    (case mkWeb => k_is)
    (case kcWeb => k_is)
    (case nmanyWeb => k_is)
    (case nbeforesWeb => k_is)
    (case naheadWeb => k_is)
    (case nlaterWeb => k_is)
    (case pgRawWeb => k_is)
    (case hdRawWeb => k_is)
    (case poRawWeb => k_is)
    (case saRawWeb => k_is)
    (case mkRawWeb => k_is)
    (case kcRawWeb => k_is)
    (case nmanyRawWeb => k_is)
    (case nbeforesRawWeb => k_is)
    (case naheadRawWeb => k_is)
    (case nlaterRawWeb => k_is)
    (case z_len => k_is)
    (case z_isinstance => k_is)
    (case z_range => k_is)
    (case z_any => k_is)
    (case z_all => k_is)
    (case z_sum => k_is)
    (case z_max => k_is)
    (case z_min => k_is)
    (case z_sorted => k_is)
    (case z_enumerate => k_is)
    (case z_int => k_is)
    (case z_bool => k_is)
    (case z_tuple => k_is)
    (case z_list => k_is)
    (case z_set => k_is)
    (case g_MOST_NAMES => k_is)
#print axioms PySem.Challenge.cw_evenorders_k70_whole_most_asks_by_all_ga_holds
