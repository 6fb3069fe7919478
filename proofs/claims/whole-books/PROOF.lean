import PyProof.Rows.All
import Wide.All
import OpenK.AllK
import Wide.FinOn
import HandS.ForMost
import HandS.Deep
import HandS.IsInst
import HandS.TupAny
import HandS.Conv
import HandS.Walk
import HandS.Defaults
import HandS.More
import PySem.Challenge.RW_laidmarks_k62_whole_books
import HandS.Head0
import HandS.Head1
import HandS.Head2
import HandS.HeadHook4
import HandS.HeadWalk
import KE.KStateDown
import KE.SortKeyHeap
import KE.SortData
import KE.KDictSum
import HandS.SortKw
import KE.KDictCopyH
import KE.KDictDisplayH
import HandS.Dict
import HandS.TupSets
import KE.KeyNested
import KE.KDictKeyed
import KE.GoesMore
import HandS.Iter
import HandS.Style
import HandS.ClsMeth
import HandS.WideBits
import HandS.Wide
import HandS.Lambda
import PyProof.ReprBulk
import PyProof.Rows.CountFlat
import HandS.ExcIs
import HandS.HotCalls
import HandS.ExcOwn
set_option Elab.async false
set_option linter.all false
set_option maxRecDepth 100000
set_option maxHeartbeats 0
/-! Da0: evaluation to data. G: what is known and stays; H: the whole abstract heap. -/
namespace Lk
open PySem PySem.Spec PyProof.Rows L2

/-! ### the part that stays -/
/-- what H had, as G tells it; what H2 has besides, as it stands there -/
def ext (G H H2 : Hp) : Hp := fun a => match H a with
  | some _ => G a
  | none => H2 a
theorem ext_some {G H H2 : Hp} {a : Addr} {o : HO} (h : H a = some o) : ext G H H2 a = G a := by
  unfold ext
  rw [h]
theorem ext_none {G H H2 : Hp} {a : Addr} (h : H a = none) : ext G H H2 a = H2 a := by
  unfold ext
  rw [h]
theorem snone {G H : Hp} (e : Same G H) {a : Addr} (h : H a = none) : G a = none := e.free h
theorem snew {H : Hp} {p : Addr} {o : HO} (h : H p = none) : Same H (upd H p o) := fun a u e => by
  rw [upd_ne (ne_of_none e h)]
  exact e
theorem same_upd {G H : Hp} (e : Same G H) {p : Addr} {o : HO} : Same (upd G p o) (upd H p o) := fun a u h => by
  by_cases ha : a = p
  · rw [ha, upd_same] at h ⊢
    exact h
  · rw [upd_ne ha] at h ⊢
    exact e a u h
theorem same_hid {G H : Hp} (e : Same G H) {p : Addr} {o : HO} (h : G p = none) : Same G (upd H p o) := fun a u q => by
  rw [upd_ne (ne_of_none q h)]
  exact e a u q
/-! boxes: lists of one whole number, that calls may change -/
def BoxN (n : Int) : Prop := 0 ≤ n
def BoxO (o : HO) : Prop := ∃ n : Int, BoxN n ∧ o = .lst [.int n]
/-- a step: what was stays, boxes stay boxes -/
def Stp (B : List Addr) (H H2 : Hp) : Prop := ∀ a o, H a = some o → ∃ o', H2 a = some o' ∧ (o' = o ∨ (a ∈ B ∧ (BoxO o → BoxO o')))
/-- the boxes are hidden, all tuples are seen -/
def OkB (B : List Addr) (G H : Hp) : Prop := Same G H ∧ (∀ b ∈ B, G b = none ∧ ∃ o, H b = some o ∧ BoxO o) ∧ ∀ a xs, H a = some (.tup xs) → G a = some (.tup xs)
theorem Stp.refl {B : List Addr} (H : Hp) : Stp B H H := fun a o h => ⟨o, h, .inl rfl⟩
theorem sstp {B : List Addr} {H H2 : Hp} (e : Same H H2) : Stp B H H2 := fun a o h => ⟨o, e a o h, .inl rfl⟩
theorem Stp.same {H H2 : Hp} (e : Stp [] H H2) : Same H H2 := fun a o h => by
  obtain ⟨o', h1, h2⟩ := e a o h
  rcases h2 with rfl | ⟨h2, _⟩
  · exact h1
  · cases h2
theorem Stp.trans {B : List Addr} {H H2 H3 : Hp} (e : Stp B H H2) (f : Stp B H2 H3) : Stp B H H3 := fun a o h => by
  obtain ⟨o', h1, h2⟩ := e a o h
  obtain ⟨o2, h3, h4⟩ := f a o' h1
  refine ⟨o2, h3, ?_⟩
  rcases h4 with rfl | ⟨h4, h5⟩
  · exact h2
  · rcases h2 with rfl | ⟨h6, h7⟩
    · exact .inr ⟨h4, h5⟩
    · exact .inr ⟨h4, fun z => h5 (h7 z)⟩
theorem Stp.sub {B C : List Addr} {H H2 : Hp} (e : Stp B H H2) (s : ∀ b ∈ B, b ∈ C) : Stp C H H2 := fun a o h => by
  obtain ⟨o', h1, h2⟩ := e a o h
  exact ⟨o', h1, h2.imp id fun z => ⟨s _ z.1, z.2⟩⟩
theorem OkB.sub {B C : List Addr} {G H : Hp} (e : OkB C G H) (s : ∀ b ∈ B, b ∈ C) : OkB B G H := ⟨e.1, fun b hb => e.2.1 b (s b hb), e.2.2⟩
theorem stp_new {B : List Addr} {H : Hp} {p : Addr} {o : HO} (h : H p = none) : Stp B H (upd H p o) := sstp (snew h)
section
variable {B : List Addr} {G H H2 H3 : Hp}
theorem OkB.ne (e : OkB B G H) {a : Addr} {o : HO} (h : G a = some o) : a ∉ B := fun z => by
  rw [(e.2.1 a z).1] at h
  cases h
theorem Stp.at (f : Stp B H H2) {a : Addr} {o : HO} (h : H a = some o) (hb : a ∉ B) : H2 a = some o := by
  obtain ⟨o', h1, h2⟩ := f a o h
  rcases h2 with rfl | ⟨h2, _⟩
  · exact h1
  · exact absurd h2 hb
theorem ext_same (e : OkB B G H) (f : Stp B H H2) : OkB B (ext G H H2) H2 := by
  refine ⟨fun a o h => ?_, fun b hb => ?_, fun a xs h => ?_⟩
  · cases q : H a with
    | some u =>
      rw [ext_some q] at h
      exact f.at (e.1 a o h) (e.ne h)
    | none =>
      rw [ext_none q] at h
      exact h
  · obtain ⟨h1, o, h2, h3⟩ := e.2.1 b hb
    refine ⟨by rw [ext_some h2]; exact h1, ?_⟩
    obtain ⟨o', q1, q2⟩ := f b o h2
    refine ⟨o', q1, ?_⟩
    rcases q2 with rfl | ⟨_, q3⟩
    · exact h3
    · exact q3 h3
  · cases q : H a with
    | some u =>
      obtain ⟨o', q1, q2⟩ := f a u q
      rw [h] at q1
      obtain rfl := Option.some.inj q1
      rw [ext_some q]
      rcases q2 with rfl | ⟨q3, q4⟩
      · exact e.2.2 a xs q
      · obtain ⟨_, o2, q5, q6⟩ := e.2.1 a q3
        rw [q] at q5
        obtain rfl := Option.some.inj q5
        obtain ⟨n, _, q7⟩ := q4 q6
        cases q7
    | none =>
      rw [ext_none q]
      exact h
theorem ext_up (e : OkB B G H) : Same G (ext G H H2) := fun a o h => by
  rw [ext_some (e.1 a o h)]
  exact h
theorem Stp.free (f : Stp B H H2) {a : Addr} (h : H2 a = none) : H a = none := by
  cases q : H a with
  | none => rfl
  | some o =>
    obtain ⟨o', h1, _⟩ := f a o q
    rw [h1] at h
    cases h
theorem ext_trans (e : OkB B G H) (f : Stp B H H2) (g : Stp B H2 H3) : ext (ext G H H2) H2 H3 = ext G H H3 := by
  funext a
  cases q2 : H2 a with
  | some u =>
    rw [ext_some q2]
    cases q : H a with
    | some v => rw [ext_some q, ext_some q]
    | none =>
      have hb : a ∉ B := fun z => by
        obtain ⟨_, o, h2, _⟩ := e.2.1 a z
        rw [q] at h2
        cases h2
      rw [ext_none q, ext_none q, q2, g.at q2 hb]
  | none =>
    have q : H a = none := f.free q2
    rw [ext_none q2, ext_none q]
theorem ext_refl (e : OkB B G H) : ext G H H = G := by
  funext a
  cases q : H a with
  | some v => rw [ext_some q]
  | none => rw [ext_none q, q, snone e.1 q]
theorem ext_new (e : OkB B G H) {p : Addr} {o : HO} (h : H p = none) : ext G H (upd H p o) = upd G p o := by
  funext a
  by_cases ha : a = p
  · subst ha
    rw [ext_none h, upd_same, upd_same]
  · rw [upd_ne ha]
    cases q : H a with
    | some v => rw [ext_some q]
    | none => rw [ext_none q, upd_ne ha, q, snone e.1 q]
theorem OkB.nb (e : OkB B G H) {p : Addr} (h : H p = none) : p ∉ B := fun z => by
  obtain ⟨_, o, h2, _⟩ := e.2.1 p z
  rw [h] at h2
  cases h2
theorem OkB.hid (e : OkB B G H) {p : Addr} {o : HO} (h : G p = none) (hb : p ∉ B) (ht : ∀ xs, o ≠ .tup xs) : OkB B G (upd H p o) := by
  refine ⟨same_hid e.1 h, fun b hb' => ?_, fun a xs q => ?_⟩
  · obtain ⟨h1, o', h2, h3⟩ := e.2.1 b hb'
    refine ⟨h1, o', ?_, h3⟩
    rw [upd_ne (fun z : b = p => hb (by rw [← z]; exact hb'))]
    exact h2
  · by_cases z : a = p
    · rw [z, upd_same] at q
      exact absurd (Option.some.inj q) (ht xs)
    · rw [upd_ne z] at q
      exact e.2.2 a xs q
theorem xext_new (e : Same G H) {p : Addr} {o : HO} (h : H p = none) : ext G H (upd H p o) = upd G p o := by
  funext a
  by_cases ha : a = p
  · subst ha
    rw [ext_none h, upd_same, upd_same]
  · rw [upd_ne ha]
    cases q : H a with
    | some v => rw [ext_some q]
    | none => rw [ext_none q, upd_ne ha, q, snone e q]
theorem xext_refl (e : Same G H) : ext G H H = G := by
  funext a
  cases q : H a with
  | some v => rw [ext_some q]
  | none => rw [ext_none q, q, snone e q]
theorem Stp.hid (f : Stp B H H2) {p : Addr} {o : HO} (h : H p = none) : Stp B H (upd H2 p o) := fun a u q => by
  obtain ⟨o', h1, h2⟩ := f a u q
  exact ⟨o', by rw [upd_ne (ne_of_none q h)]; exact h1, h2⟩
end
theorem sqt_up {K : PySem.W.Frag} {H H' : Hp} {a : Addr} {xs : List V} (e : Same H H') (h : H a = some (.tup xs)) : SqT K H' a xs := SqT.of (e _ _ h)
theorem sql_up {K : PySem.W.Frag} {H H' : Hp} {a : Addr} {xs : List V} (e : Same H H') (h : H a = some (.lst xs)) : SqL K H' a xs := SqL.of (e _ _ h)

/-! ### data: tuples and lists that the heap tracks -/
mutual
inductive Dh (H : Hp) : V → PyData → Prop
  | non : Dh H .non .none
  | bl (b : Bool) : Dh H (.bl b) (.bool b)
  | int (i : Int) : Dh H (.int i) (.int i)
  | str (x : Str) : Dh H (.str x) (.str x)
  | lst {a : Addr} {xs : List V} {ds : List PyData} : H a = some (.lst xs) → DhAll H xs ds → Dh H (.ref a) (.list ds)
  | tup {a : Addr} {xs : List V} {ds : List PyData} : H a = some (.tup xs) → DhAll H xs ds → Dh H (.ref a) (.tuple ds)
inductive DhAll (H : Hp) : List V → List PyData → Prop
  | nil : DhAll H [] []
  | cons {v : V} {vs : List V} {d : PyData} {ds : List PyData} : Dh H v d → DhAll H vs ds → DhAll H (v :: vs) (d :: ds)
end
mutual
theorem dp_up {H H' : Hp} (e : Same H H') : ∀ (d : PyData) (v : V), Dh H v d → Dh H' v d
  | .none, _, h => by
    cases h
    exact .non
  | .bool b, _, h => by
    cases h
    exact .bl b
  | .int i, _, h => by
    cases h
    exact .int i
  | .str x, _, h => by
    cases h
    exact .str x
  | .list ds, _, h => by
    cases h with
    | lst hs ha => exact .lst (e _ _ hs) (dpa_up e ds _ ha)
  | .tuple ds, _, h => by
    cases h with
    | tup hs ha => exact .tup (e _ _ hs) (dpa_up e ds _ ha)
  | .dict _, _, h => by cases h
theorem dpa_up {H H' : Hp} (e : Same H H') : ∀ (ds : List PyData) (vs : List V), DhAll H vs ds → DhAll H' vs ds
  | [], _, h => by
    cases h
    exact .nil
  | d :: ds, _, h => by
    cases h with
    | cons h1 h2 => exact .cons (dp_up e d _ h1) (dpa_up e ds _ h2)
end
mutual
theorem dh_dp {K : PySem.W.Frag} {H H' : Hp} (e : Same H H') : ∀ (d : PyData) (v : V), Dh H v d → Dp K H' v d
  | .none, _, h => by
    cases h
    exact .non
  | .bool b, _, h => by
    cases h
    exact .bl b
  | .int i, _, h => by
    cases h
    exact .int i
  | .str x, _, h => by
    cases h
    exact .str x
  | .list ds, _, h => by
    cases h with
    | lst hs ha => exact .lst (sql_up e hs) (dha_dpa e ds _ ha)
  | .tuple ds, _, h => by
    cases h with
    | tup hs ha => exact .tup (sqt_up e hs) (dha_dpa e ds _ ha)
  | .dict _, _, h => by cases h
theorem dha_dpa {K : PySem.W.Frag} {H H' : Hp} (e : Same H H') : ∀ (ds : List PyData) (vs : List V), DhAll H vs ds → DpAll K H' vs ds
  | [], _, h => by
    cases h
    exact .nil
  | d :: ds, _, h => by
    cases h with
    | cons h1 h2 => exact .cons (dh_dp e d _ h1) (dha_dpa e ds _ h2)
end
/-- what is said of a value: it stays -/
structure Pr where
  p : V → Hp → Prop
  up : ∀ {H H' : Hp} {v : V}, Same H H' → p v H → p v H'
abbrev dP (K : PySem.W.Frag) (d : PyData) : Pr := ⟨fun v H => Dh H v d, fun e h => dp_up e d _ h⟩
/-- just this value -/
abbrev eP (x : V) : Pr := ⟨fun v _ => v = x, fun _ h => h⟩
abbrev AllP (Ps : List Pr) (vs : List V) (H : Hp) : Prop := Paired (fun (P : Pr) v => P.p v H) Ps vs
theorem AllP.up {Ps : List Pr} {vs : List V} {H H' : Hp} (e : Same H H') (h : AllP Ps vs H) : AllP Ps vs H' := Paired.mapP h fun P _ q => P.up e q
theorem AllP.len {Ps : List Pr} {vs : List V} {H : Hp} (h : AllP Ps vs H) : Ps.length = vs.length := Paired.length h
theorem AllP.get : ∀ {Ps : List Pr} {vs : List V} {H : Hp} {i : Nat} {P : Pr}, AllP Ps vs H → Ps[i]? = some P → ∃ v, vs[i]? = some v ∧ P.p v H
  | _, _, _, _, _, .nil, e => by simp at e
  | _, _, _, 0, _, .cons r _, e => by
    simp at e
    subst e
    exact ⟨_, rfl, r⟩
  | _, _, _, i + 1, P, .cons _ t, e => by
    obtain ⟨v, h1, h2⟩ := AllP.get (i := i) t (by simpa using e)
    exact ⟨v, by simpa using h1, h2⟩
theorem AllP.get' : ∀ {Ps : List Pr} {vs : List V} {H : Hp} {i : Nat} {v : V}, AllP Ps vs H → vs[i]? = some v → ∃ P, Ps[i]? = some P ∧ P.p v H
  | _, _, _, _, _, .nil, e => by simp at e
  | _, _, _, 0, _, .cons r _, e => by
    simp at e
    subst e
    exact ⟨_, rfl, r⟩
  | _, _, _, i + 1, P, .cons _ t, e => by
    obtain ⟨v, h1, h2⟩ := AllP.get' (i := i) t (by simpa using e)
    exact ⟨v, by simpa using h1, h2⟩
theorem AllP.snoc {Ps : List Pr} {vs : List V} {H : Hp} {P : Pr} {v : V} (h : AllP Ps vs H) (q : P.p v H) : AllP (Ps ++ [P]) (vs ++ [v]) H := Paired.snoc h q
theorem AllP.app : ∀ {Ps Qs : List Pr} {vs ws : List V} {H : Hp}, AllP Ps vs H → AllP Qs ws H → AllP (Ps ++ Qs) (vs ++ ws) H
  | _, _, _, _, _, .nil, h => h
  | _, _, _, _, _, .cons r t, h => .cons r (AllP.app t h)
theorem allp_dp {K : PySem.W.Frag} {H : Hp} : ∀ {ds : List PyData} {vs : List V}, DhAll H vs ds → AllP (ds.map (dP K)) vs H
  | [], _, h => by
    cases h
    exact .nil
  | _ :: _, _, h => by
    cases h with
    | cons h1 h2 => exact .cons h1 (allp_dp h2)
theorem dp_allp {K : PySem.W.Frag} {H : Hp} : ∀ {ds : List PyData} {vs : List V}, AllP (ds.map (dP K)) vs H → DhAll H vs ds
  | [], _, h => by
    cases h
    exact .nil
  | _ :: _, _, h => by
    cases h with
    | cons h1 h2 => exact .cons h1 (dp_allp h2)
/-- a tuple, a list of such values -/
abbrev tP (K : PySem.W.Frag) (Ps : List Pr) : Pr := ⟨fun v H => ∃ a xs, v = .ref a ∧ H a = some (.tup xs) ∧ AllP Ps xs H, fun e ⟨a, xs, h1, h2, h3⟩ => ⟨a, xs, h1, e _ _ h2, h3.up e⟩⟩
abbrev lP (K : PySem.W.Frag) (Ps : List Pr) : Pr := ⟨fun v H => ∃ a xs, v = .ref a ∧ H a = some (.lst xs) ∧ AllP Ps xs H, fun e ⟨a, xs, h1, h2, h3⟩ => ⟨a, xs, h1, e _ _ h2, h3.up e⟩⟩
/-- P says Q -/
def Imp (P Q : Pr) : Prop := ∀ v H, P.p v H → Q.p v H
theorem Imp.refl (P : Pr) : Imp P P := fun _ _ h => h
theorem imp_td {K : PySem.W.Frag} {ds : List PyData} : Imp (dP K (.tuple ds)) (tP K (ds.map (dP K))) := fun v H h => by
  have h : Dh H v (.tuple ds) := h
  cases h with
  | tup hs ha => exact ⟨_, _, rfl, hs, allp_dp ha⟩
theorem imp_dt {K : PySem.W.Frag} {ds : List PyData} : Imp (tP K (ds.map (dP K))) (dP K (.tuple ds)) := fun v H ⟨a, xs, h1, h2, h3⟩ => by
  subst h1
  exact Dh.tup h2 (dp_allp h3)
theorem imp_ld {K : PySem.W.Frag} {ds : List PyData} : Imp (dP K (.list ds)) (lP K (ds.map (dP K))) := fun v H h => by
  have h : Dh H v (.list ds) := h
  cases h with
  | lst hs ha => exact ⟨_, _, rfl, hs, allp_dp ha⟩
theorem imp_dl {K : PySem.W.Frag} {ds : List PyData} : Imp (lP K (ds.map (dP K))) (dP K (.list ds)) := fun v H ⟨a, xs, h1, h2, h3⟩ => by
  subst h1
  exact Dh.lst h2 (dp_allp h3)
theorem dp_int {H : Hp} {v : V} {i : Int} (h : Dh H v (.int i)) : v = .int i := by
  cases h
  rfl
theorem dp_bl {H : Hp} {v : V} {b : Bool} (h : Dh H v (.bool b)) : v = .bl b := by
  cases h
  rfl
theorem dp_str {H : Hp} {v : V} {x : Str} (h : Dh H v (.str x)) : v = .str x := by
  cases h
  rfl
theorem dp_non {H : Hp} {v : V} (h : Dh H v .none) : v = .non := by
  cases h
  rfl

/-! ### slots -/
abbrev Rho := List (Option Pr)
def Kn (σ : L2.St) (H : Hp) (ρ : Rho) : Prop := σ.length = ρ.length ∧ ∀ (i : Nat) (P : Pr), ρ[i]? = some (some P) → ∃ v, σ[i]? = some (some v) ∧ P.p v H
theorem Kn.up {σ : L2.St} {H H' : Hp} {ρ : Rho} (e : Same H H') (k : Kn σ H ρ) : Kn σ H' ρ := ⟨k.1, fun i P h => by
  obtain ⟨v, h1, h2⟩ := k.2 i P h
  exact ⟨v, h1, P.up e h2⟩⟩
theorem Kn.set {σ : L2.St} {H : Hp} {ρ : Rho} {v : V} {P : Pr} (k : Kn σ H ρ) (i : Nat) (h : P.p v H) : Kn (σ.set i (some v)) H (ρ.set i (some P)) := by
  refine ⟨by rw [List.length_set, List.length_set, k.1], fun j Q hj => ?_⟩
  by_cases hi : i = j
  · subst hi
    have hl : i < ρ.length := by
      have := (List.getElem?_eq_some_iff.mp hj).1
      rw [List.length_set] at this
      exact this
    rw [List.getElem?_set_self hl] at hj
    cases hj
    exact ⟨v, List.getElem?_set_self (by rw [k.1]; exact hl), h⟩
  · rw [List.getElem?_set_ne hi] at hj
    obtain ⟨w, h1, h2⟩ := k.2 j Q hj
    exact ⟨w, by rw [List.getElem?_set_ne hi]; exact h1, h2⟩
/-- slots forgotten -/
def wipeR (ρ : Rho) : List Nat → Rho
  | [] => ρ
  | v :: vs => (wipeR ρ vs).set v none
theorem Kn.unset {σ : L2.St} {H : Hp} {ρ : Rho} (k : Kn σ H ρ) (i : Nat) : Kn (σ.set i none) H (ρ.set i none) := by
  refine ⟨by rw [List.length_set, List.length_set, k.1], fun j Q hj => ?_⟩
  by_cases hi : i = j
  · subst hi
    have hl : i < ρ.length := by
      have := (List.getElem?_eq_some_iff.mp hj).1
      rw [List.length_set] at this
      exact this
    rw [List.getElem?_set_self hl] at hj
    cases hj
  · rw [List.getElem?_set_ne hi] at hj
    obtain ⟨w, h1, h2⟩ := k.2 j Q hj
    exact ⟨w, by rw [List.getElem?_set_ne hi]; exact h1, h2⟩
theorem Kn.wipe {σ : L2.St} {H : Hp} {ρ : Rho} (k : Kn σ H ρ) : ∀ vs : List Nat, Kn (L2.wipe σ vs) H (wipeR ρ vs)
  | [] => k
  | v :: vs => (Kn.wipe k vs).unset v

/-! ### the weakest wishes -/
def WE (X : Cx) (e : Expr) (σ : L2.St) (H : Hp) (Q : VK) : Prop := ∀ (pins : List (Addr × Obj)) (s : Shared), Inv X pins σ H s → wpAny (model X.prog X.w) X.A (eval e X.env) (EP X pins σ Q) X.xe s
def WT (X : Cx) (e : Expr) (σ : L2.St) (H : Hp) (Q : Bool → Hp → Prop) : Prop := ∀ (pins : List (Addr × Obj)) (s : Shared), Inv X pins σ H s → wpAny (model X.prog X.w) X.A (isTrue e X.env (eval e X.env)) (TP X pins σ Q) X.xe s
def WW (X : Cx) (e : Expr) (σ : L2.St) (H : Hp) (Q : Bool → Hp → Prop) : Prop := ∀ (whole : Sem Value) (pins : List (Addr × Obj)) (s : Shared), Inv X pins σ H s → wpAny (model X.prog X.w) X.A (isTrue e X.env whole) (TP X pins σ Q) X.xe s
def WA (X : Cx) (es : List Expr) (σ : L2.St) (H : Hp) (Q : List V → Hp → Prop) : Prop := ∀ (pos : Pos) (pins : List (Addr × Obj)) (s : Shared), Inv X pins σ H s → wpAny (model X.prog X.w) X.A (spliced (backTo pos (starEach es X.env))) (AP X pins σ Q) X.xe s
def WS (X : Cx) (st : Stmt) (D : Ends) (σ : L2.St) (H : Hp) : Prop := ∀ (pins : List (Addr × Obj)) (s : Shared), Inv X pins σ H s → wpAny (model X.prog X.w) X.A (exec st X.env) (SP X pins D) X.xe s
def WB (X : Cx) (st : List Stmt) (D : Ends) (σ : L2.St) (H : Hp) : Prop := ∀ (pins : List (Addr × Obj)) (s : Shared), Inv X pins σ H s → wpAny (model X.prog X.w) X.A (execs st X.env) (SP X pins D) X.xe s
def WG (X : Cx) (tg : Expr) (v : V) (σ : L2.St) (H : Hp) (Q : L2.St → Hp → Prop) : Prop := ∀ (pins : List (Addr × Obj)) (s : Shared) (u : Value), Inv X pins σ H s → RelV v u → wpAny (model X.prog X.w) X.A (assign tg X.env u) (fun _ s' => ∃ σ' H', Inv X pins σ' H' s' ∧ Q σ' H') X.xe s
section
variable {X : Cx} {B : List Addr}
theorem we_pe {e : Expr} : PE X e (WE X e) := ⟨fun pins s _ _ _ I h => h pins s I⟩
theorem wt_pt {e : Expr} : PT X e (WT X e) := ⟨fun pins s _ _ _ I h => h pins s I⟩
theorem ww_pw {e : Expr} : PW X e (WW X e) := ⟨fun wh pins s _ _ _ I h => h wh pins s I⟩
theorem wa_pa {es : List Expr} : PA X es (WA X es) := ⟨fun pos pins s _ _ _ I h => h pos pins s I⟩
theorem ws_ps {st : Stmt} : PS X st (WS X st) := ⟨fun pins s _ _ _ I h => h pins s I⟩
theorem wb_ps {st : List Stmt} : PSs X st (WB X st) := ⟨fun pins s _ _ _ I h => h pins s I⟩
theorem wg_pg {tg : Expr} : PG X tg (WG X tg) := ⟨fun pins s _ _ _ u _ I r h => h pins s u I r⟩
theorem pe_we {e : Expr} {t : TE} (h : PE X e t) {σ : L2.St} {H : Hp} {Q : VK} (q : t σ H Q) : WE X e σ H Q := fun pins s I => h.run pins s σ H Q I q
theorem pt_wt {e : Expr} {t : TT} (h : PT X e t) {σ : L2.St} {H : Hp} {Q : Bool → Hp → Prop} (q : t σ H Q) : WT X e σ H Q := fun pins s I => h.run pins s σ H Q I q
theorem pw_ww {e : Expr} {t : TT} (h : PW X e t) {σ : L2.St} {H : Hp} {Q : Bool → Hp → Prop} (q : t σ H Q) : WW X e σ H Q := fun wh pins s I => h.run wh pins s σ H Q I q
theorem pa_wa {es : List Expr} {t : TA} (h : PA X es t) {σ : L2.St} {H : Hp} {Q : List V → Hp → Prop} (q : t σ H Q) : WA X es σ H Q := fun pos pins s I => h.run pos pins s σ H Q I q
theorem ps_ws {st : Stmt} {t : TS} (h : PS X st t) {σ : L2.St} {H : Hp} {D : Ends} (q : t D σ H) : WS X st D σ H := fun pins s I => h.run pins s σ H D I q
theorem ps_wb {st : List Stmt} {t : TS} (h : PSs X st t) {σ : L2.St} {H : Hp} {D : Ends} (q : t D σ H) : WB X st D σ H := fun pins s I => h.run pins s σ H D I q
theorem pg_wg {tg : Expr} {t : TG} (h : PG X tg t) {v : V} {σ : L2.St} {H : Hp} {Q : L2.St → Hp → Prop} (q : t v σ H Q) : WG X tg v σ H Q := fun pins s u I r => h.run pins s σ H v u Q I r q
theorem WE.mono {e : Expr} {σ : L2.St} {H : Hp} {Q Q' : VK} (h : WE X e σ H Q) (q : ∀ v H', Q v H' → Q' v H') : WE X e σ H Q' := fun pins s I => thn (h pins s I) fun _ _ ⟨v, H', I', r, z⟩ => ⟨v, H', I', r, q v H' z⟩
theorem WT.mono {e : Expr} {σ : L2.St} {H : Hp} {Q Q' : Bool → Hp → Prop} (h : WT X e σ H Q) (q : ∀ v H', Q v H' → Q' v H') : WT X e σ H Q' := fun pins s I => thn (h pins s I) fun _ _ ⟨H', I', z⟩ => ⟨H', I', q _ H' z⟩

/-! ### evaluation to what is said -/
def Ed (X : Cx) (B : List Addr) (ρ : Rho) (e : Expr) (P : Pr) : Prop := ∀ (σ : L2.St) (G H : Hp), OkB B G H → Kn σ G ρ → ∀ Q : VK, (∀ v H2, Stp B H H2 → P.p v (ext G H H2) → Q v H2) → WE X e σ H Q
def Et (X : Cx) (B : List Addr) (ρ : Rho) (e : Expr) (b : Bool) : Prop := ∀ (σ : L2.St) (G H : Hp), OkB B G H → Kn σ G ρ → ∀ Q : Bool → Hp → Prop, (∀ H2, Stp B H H2 → Q b H2) → WT X e σ H Q
def Ew (X : Cx) (B : List Addr) (ρ : Rho) (e : Expr) (b : Bool) : Prop := ∀ (σ : L2.St) (G H : Hp), OkB B G H → Kn σ G ρ → ∀ Q : Bool → Hp → Prop, (∀ H2, Stp B H H2 → Q b H2) → WW X e σ H Q
def Ea (X : Cx) (B : List Addr) (ρ : Rho) (es : List Expr) (Ps : List Pr) : Prop := ∀ (σ : L2.St) (G H : Hp), OkB B G H → Kn σ G ρ → ∀ Q : List V → Hp → Prop, (∀ vs H2, Stp B H H2 → AllP Ps vs (ext G H H2) → Q vs H2) → WA X es σ H Q
/-- the block returns a value of which P is said -/
def Sr (X : Cx) (B : List Addr) (ρ : Rho) (sts : List Stmt) (P : Pr) : Prop := ∀ (σ : L2.St) (G H : Hp), OkB B G H → Kn σ G ρ → ∀ D : Ends, (∀ v H2, Stp B H H2 → P.p v (ext G H H2) → D.rt v H2) → WB X sts D σ H
/-- the block goes through, the slots are then as ρ' says -/
def Sn (X : Cx) (B : List Addr) (ρ : Rho) (sts : List Stmt) (ρ' : Rho) : Prop := ∀ (σ : L2.St) (G H : Hp), OkB B G H → Kn σ G ρ → ∀ D : Ends, (∀ σ' H2, Stp B H H2 → Kn σ' (ext G H H2) ρ' → D.nx σ' H2) → WB X sts D σ H
/-- the target is stored; is: the slots that it stores -/
def Tg (X : Cx) (ρ : Rho) (tg : Expr) (P : Pr) (is : List Nat) (ρ' : Rho) : Prop := ∀ (v : V) (σ : L2.St) (G H : Hp), Same G H → Kn σ G ρ → P.p v G → ∀ Q : L2.St → Hp → Prop, (∀ σ', (∀ vs : List Nat, (∀ i ∈ is, i ∈ vs) → wipe σ' vs = wipe σ vs) → Kn σ' G ρ' → Q σ' H) → WG X tg v σ H Q
def Tgs (X : Cx) (ρ : Rho) (tgs : List Expr) (Ps : List Pr) (is : List Nat) (ρ' : Rho) : Prop := ∀ (vs : List V) (σ : L2.St) (G H : Hp), Same G H → Kn σ G ρ → AllP Ps vs G → ∀ Q : L2.St → Hp → Prop, (∀ σ', (∀ vs : List Nat, (∀ i ∈ is, i ∈ vs) → wipe σ' vs = wipe σ vs) → Kn σ' G ρ' → Q σ' H) →
  ∀ (pins : List (Addr × Obj)) (s : Shared) (us : List Value), Inv X pins σ H s → Vals vs us → wpAny (model X.prog X.w) X.A (assignInOrder ((assignEach tgs X.env).map (·.2)) us) (fun _ s' => ∃ σ' H', Inv X pins σ' H' s' ∧ Q σ' H') X.xe s
end
end Lk

/-! Da1: the rules of evaluation to data. -/
namespace Lk
open PySem PySem.Spec PyProof.Rows L2
section
variable {X : Cx} {B : List Addr} {ρ : Rho} {e a b c : Expr} {es : List Expr} {P P1 P2 P3 P' : Pr} {Ps : List Pr} {pos p : Pos}
theorem Ed.imp (h : Ed X B ρ e P) (i : Imp P P') : Ed X B ρ e P' := fun σ G H eg k Q q => h σ G H eg k Q fun v H2 s r => q v H2 s (i _ _ r)
/-- a value that a PE gives at once, the heap as it was -/
theorem ed_here {t : TE} (h : PE X e t) (q : ∀ (σ : L2.St) (G H : Hp), OkB B G H → Kn σ G ρ → ∀ Q : VK, (∀ v, P.p v G → Q v H) → t σ H Q) : Ed X B ρ e P := fun σ G H eg k Q z =>
  pe_we h (q σ G H eg k Q fun v r => z v H (Stp.refl H) (by rw [ext_refl eg]; exact r))
theorem ed_var (i : Nat) {x : Str} (hP : ρ[i]? = some (some P) := by rfl) (hN : X.N[i]? = some x := by rfl) (hv : Vis X.env.scope x := by first | exact Or.inl rfl | exact Or.inr (Or.inl rfl) | exact Or.inr (Or.inr rfl)) (hd : (x == ("__debug__" : Str)) = false := by decide)
    (hcd : (x == ("__classdict__" : Str)) = false := by decide) : Ed X B ρ (.Name x pos) P := ed_here (pe_var hN hv hd hcd) fun σ G H eg k Q z => by
  obtain ⟨v, h1, h2⟩ := k.2 i P hP
  exact ⟨v, h1, z v h2⟩
theorem ed_int {i : Int} {j} : Ed X B ρ (.Constant (.int i) j pos) (dP X.K (.int i)) := ed_here pe_int fun _ _ _ _ _ _ z => z _ (.int i)
theorem ed_bl {i : Bool} {j} : Ed X B ρ (.Constant (.bool i) j pos) (dP X.K (.bool i)) := ed_here pe_bl fun _ _ _ _ _ _ z => z _ (.bl i)
theorem ed_str {i : Str} {j} : Ed X B ρ (.Constant (.str i) j pos) (dP X.K (.str i)) := ed_here pe_str fun _ _ _ _ _ _ z => z _ (.str i)
theorem ed_non {j} : Ed X B ρ (.Constant .none j pos) (dP X.K .none) := ed_here pe_non fun _ _ _ _ _ _ z => z _ .non
theorem ed_gint {x : Str} {i : Int} (hg : Gl X x) (hm : ∃ t, X.mg x = some (.int i t)) (hd : (x == ("__debug__" : Str)) = false := by decide) : Ed X B ρ (.Name x pos) (dP X.K (.int i)) := by
  obtain ⟨t, hm⟩ := hm
  exact ed_here (pe_glob (v := .int i) hg hm ⟨t, rfl⟩ hd) fun _ _ _ _ _ _ z => z _ (.int i)
theorem ed_gref {x : Str} {f : Addr} (hg : Gl X x) (hm : X.mg x = some (.ref f)) (hd : (x == ("__debug__" : Str)) = false := by decide) : Ed X B ρ (.Name x pos) (eP (.ref f)) :=
  ed_here (pe_glob (v := .ref f) hg hm rfl hd) fun _ _ _ _ _ _ z => z _ rfl
theorem ed_bty {x : Str} {n : String} (hg : Gl X x) (hm : X.mg x = none) (hv : bootBuiltins x = some (.type n)) (hn : x ≠ "__name__" := by decide) (hd : (x == ("__debug__" : Str)) = false := by decide) : Ed X B ρ (.Name x pos) (eP (.ty n)) :=
  ed_here (pe_bltn (v := .ty n) hg hm hv rfl hn hd) fun _ _ _ _ _ _ z => z _ rfl

/-- two values, one behind another -/
theorem two {Q : VK} {R : V → V → Hp → Prop} {σ : L2.St} {G H : Hp} (ha : Ed X B ρ a P1) (hb : Ed X B ρ b P2) (eg : OkB B G H) (k : Kn σ G ρ)
    (h : ∀ x y H2, Stp B H H2 → OkB B (ext G H H2) H2 → P1.p x (ext G H H2) → P2.p y (ext G H H2) → R x y H2) : WE X a σ H fun x H1 => WE X b σ H1 fun y H2 => R x y H2 :=
  ha σ G H eg k _ fun x H1 s1 r1 => hb σ (ext G H H1) H1 (ext_same eg s1) (k.up (ext_up eg)) _ fun y H2 s2 r2 => by
    have e1 : ext (ext G H H1) H1 H2 = ext G H H2 := ext_trans eg s1 s2
    have u1 : Same (ext G H H1) (ext G H H2) := by
      rw [← e1]
      exact ext_up (ext_same eg s1)
    rw [e1] at r2
    exact h x y H2 (s1.trans s2) (ext_same eg (s1.trans s2)) (P1.up u1 r1) r2
/-- what an operator's rule must give: from any such values, over any heap -/
def Gives2 (B : List Addr) (r : R2) (P1 P2 P : Pr) : Prop := ∀ (x y : V) (G H : Hp), OkB B G H → P1.p x G → P2.p y G → ∀ Q : VK, (∀ v H2, Stp B H H2 → P.p v (ext G H H2) → Q v H2) → r x y H Q
theorem ed_op {r : R2} {op : Operator} (ho : OpR X (binaryOp op) r) (ha : Ed X B ρ a P1) (hb : Ed X B ρ b P2) (hr : Gives2 B r P1 P2 P) : Ed X B ρ (.BinOp a op b pos) P := fun σ G H eg k Q z =>
  pe_we (pe_op ho we_pe we_pe) (two (Q := Q) ha hb eg k fun x y H2 s1 s2 r1 r2 => hr x y _ H2 s2 r1 r2 Q fun v H3 s3 r3 => z v H3 (s1.trans s3) (by rw [← ext_trans eg s1 s3]; exact r3))
theorem ed_cmp {r : R2} {op : CmpOp} (ho : OpR X (compareOp op) r) (ha : Ed X B ρ a P1) (hb : Ed X B ρ b P2) (hm : behindInMarks op b = false) (hr : Gives2 B r P1 P2 P) : Ed X B ρ (.Compare a [op] [b] pos) P := fun σ G H eg k Q z =>
  pe_we (pe_cmpR ho we_pe we_pe hm) (two (Q := Q) ha hb eg k fun x y H2 s1 s2 r1 r2 => hr x y _ H2 s2 r1 r2 Q fun v H3 s3 r3 => z v H3 (s1.trans s3) (by rw [← ext_trans eg s1 s3]; exact r3))
theorem et_cmp {r : R2} {op : CmpOp} {k : Bool} (ho : OpR X (compareOp op) r) (ha : Ed X B ρ a P1) (hb : Ed X B ρ b P2) (hm : behindInMarks op b = false) (hr : Gives2 B r P1 P2 (dP X.K (.bool k))) : Et X B ρ (.Compare a [op] [b] pos) k := fun σ G H eg kn Q z =>
  pt_wt (pt_cmpR ho we_pe we_pe hm) (two (Q := fun v H => ∃ c, v = .bl c ∧ Q c H) ha hb eg kn fun x y H2 s1 s2 r1 r2 => hr x y _ H2 s2 r1 r2 _ fun v H3 s3 r3 => ⟨k, dp_bl r3, z H3 (s1.trans s3)⟩)
/-- operators that leave the heap: the values decide -/
theorem gives_here {r : R2} (h : ∀ (x y : V) (G H : Hp), OkB B G H → P1.p x G → P2.p y G → ∀ Q : VK, (∀ v, P.p v G → Q v H) → r x y H Q) : Gives2 B r P1 P2 P := fun x y G H eg r1 r2 Q z =>
  h x y G H eg r1 r2 Q fun v q => z v H (Stp.refl H) (by rw [ext_refl eg]; exact q)
theorem g_i0 {K : PySem.W.Frag} {g : Int → Int → Int} {i j : Int} : Gives2 B (rI0 fun i j => .int (g i j)) (dP K (.int i)) (dP K (.int j)) (dP K (.int (g i j))) := gives_here fun x y G H eg r1 r2 Q z => ⟨i, j, dp_int r1, dp_int r2, z _ (.int _)⟩
theorem g_ic {K : PySem.W.Frag} {C : Int → Int → Prop} {g : Int → Int → Int} {i j : Int} (hc : C i j) : Gives2 B (rI C fun i j => .int (g i j)) (dP K (.int i)) (dP K (.int j)) (dP K (.int (g i j))) := gives_here fun x y G H eg r1 r2 Q z => ⟨i, j, dp_int r1, dp_int r2, hc, z _ (.int _)⟩
theorem g_b0 {K : PySem.W.Frag} {g : Int → Int → Bool} {i j : Int} : Gives2 B (rI0 fun i j => .bl (g i j)) (dP K (.int i)) (dP K (.int j)) (dP K (.bool (g i j))) := gives_here fun x y G H eg r1 r2 Q z => ⟨i, j, dp_int r1, dp_int r2, z _ (.bl _)⟩
theorem ed_add {i j : Int} (ha : Ed X B ρ a (dP X.K (.int i))) (hb : Ed X B ρ b (dP X.K (.int j))) : Ed X B ρ (.BinOp a .Add b pos) (dP X.K (.int (i + j))) := ed_op op_add ha hb g_i0
theorem ed_sub {i j : Int} (ha : Ed X B ρ a (dP X.K (.int i))) (hb : Ed X B ρ b (dP X.K (.int j))) : Ed X B ρ (.BinOp a .Sub b pos) (dP X.K (.int (i - j))) := ed_op op_sub ha hb g_i0
theorem ed_eqi {i j : Int} (ha : Ed X B ρ a (dP X.K (.int i))) (hb : Ed X B ρ b (dP X.K (.int j))) : Ed X B ρ (.Compare a [.Eq] [b] pos) (dP X.K (.bool (decide (i = j)))) := ed_cmp op_eq ha hb (nomark _) (gives_here fun x y G H eg r1 r2 Q z => by
  have h1 := dp_int r1
  have h2 := dp_int r2
  subst h1 h2
  refine ⟨rfl, z _ ?_⟩
  have e : decide (V.int i = V.int j) = decide (i = j) := decide_eq_decide.mpr ⟨fun q => V.int.inj q, fun q => congrArg V.int q⟩
  rw [e]
  exact .bl _)
theorem et_eqi {i j : Int} (ha : Ed X B ρ a (dP X.K (.int i))) (hb : Ed X B ρ b (dP X.K (.int j))) : Et X B ρ (.Compare a [.Eq] [b] pos) (decide (i = j)) := et_cmp op_eq ha hb (nomark _) (gives_here fun x y G H eg r1 r2 Q z => by
  have h1 := dp_int r1
  have h2 := dp_int r2
  subst h1 h2
  refine ⟨rfl, z _ ?_⟩
  have e : decide (V.int i = V.int j) = decide (i = j) := decide_eq_decide.mpr ⟨fun q => V.int.inj q, fun q => congrArg V.int q⟩
  rw [e]
  exact .bl _)
theorem et_nei {i j : Int} (ha : Ed X B ρ a (dP X.K (.int i))) (hb : Ed X B ρ b (dP X.K (.int j))) : Et X B ρ (.Compare a [.NotEq] [b] pos) (!decide (i = j)) := et_cmp op_ne ha hb (nomark _) (gives_here fun x y G H eg r1 r2 Q z => by
  have h1 := dp_int r1
  have h2 := dp_int r2
  subst h1 h2
  refine ⟨rfl, z _ ?_⟩
  have e : decide (V.int i = V.int j) = decide (i = j) := decide_eq_decide.mpr ⟨fun q => V.int.inj q, fun q => congrArg V.int q⟩
  rw [e]
  exact .bl _)
theorem g_streq {K : PySem.W.Frag} {i j : Str} : Gives2 B rEq (dP K (.str i)) (dP K (.str j)) (dP K (.bool (decide (i = j)))) := gives_here fun x y G H eg r1 r2 Q z => by
  have h1 := dp_str r1
  have h2 := dp_str r2
  subst h1 h2
  refine ⟨rfl, z _ ?_⟩
  have e : decide (V.str i = V.str j) = decide (i = j) := decide_eq_decide.mpr ⟨fun q => V.str.inj q, fun q => congrArg V.str q⟩
  rw [e]
  exact .bl _
theorem g_strne {K : PySem.W.Frag} {i j : Str} : Gives2 B rNe (dP K (.str i)) (dP K (.str j)) (dP K (.bool (!decide (i = j)))) := gives_here fun x y G H eg r1 r2 Q z => by
  have h1 := dp_str r1
  have h2 := dp_str r2
  subst h1 h2
  refine ⟨rfl, z _ ?_⟩
  have e : decide (V.str i = V.str j) = decide (i = j) := decide_eq_decide.mpr ⟨fun q => V.str.inj q, fun q => congrArg V.str q⟩
  rw [e]
  exact .bl _
/-- a < b < c of whole numbers, as a value -/
theorem ed_chain {op op' : CmpOp} {g g' : Int → Int → Bool} {i j k : Int} (ho : OpR X (compareOp op) (rI0 fun i j => .bl (g i j))) (ho' : OpR X (compareOp op') (rI0 fun i j => .bl (g' i j)))
    (ha : Ed X B ρ a (dP X.K (.int i))) (hb : Ed X B ρ b (dP X.K (.int j))) (hc : Ed X B ρ c (dP X.K (.int k))) (hm : lastMarks [op, op'] [b, c] = false := by rfl) : Ed X B ρ (.Compare a [op, op'] [b, c] pos) (dP X.K (.bool (g i j && g' j k))) := fun σ G H eg kn Q z =>
  pe_we (pe_chain (hm := hm) ho ho' we_pe we_pe we_pe) (two (Q := Q) ha hb eg kn fun x y H2 s1 s2 r1 r2 => by
    have e2 := dp_int r2
    subst e2
    refine ⟨i, j, dp_int r1, rfl, ⟨g i j, rfl, ?_⟩⟩
    cases hg : g i j with
    | true =>
      refine iteT ?_
      refine hc σ (ext G H H2) H2 s2 (kn.up (ext_up eg)) _ fun w H3 s3 r3 => ⟨j, k, rfl, dp_int r3, z _ H3 (s1.trans s3) ?_⟩
      rw [hg, Bool.true_and]
      exact .bl _
    | false =>
      refine iteF ?_
      exact z _ H2 s1 (by rw [hg, Bool.false_and]; exact .bl _))
theorem et_chain {op op' : CmpOp} {g g' : Int → Int → Bool} {i j k : Int} (ho : OpR X (compareOp op) (rI0 fun i j => .bl (g i j))) (ho' : OpR X (compareOp op') (rI0 fun i j => .bl (g' i j)))
    (ha : Ed X B ρ a (dP X.K (.int i))) (hb : Ed X B ρ b (dP X.K (.int j))) (hc : Ed X B ρ c (dP X.K (.int k))) (hm : lastMarks [op, op'] [b, c] = false := by rfl) : Et X B ρ (.Compare a [op, op'] [b, c] pos) (g i j && g' j k) := fun σ G H eg kn Q z =>
  pt_wt (pt_chain (hm := hm) ho ho' we_pe we_pe we_pe) (two (Q := fun v H => ∃ c, v = .bl c ∧ Q c H) ha hb eg kn fun x y H2 s1 s2 r1 r2 => by
    have e2 := dp_int r2
    subst e2
    refine ⟨i, j, dp_int r1, rfl, ⟨g i j, rfl, ?_⟩⟩
    cases hg : g i j with
    | true =>
      refine iteT ?_
      refine hc σ (ext G H H2) H2 s2 (kn.up (ext_up eg)) _ fun w H3 s3 r3 => ⟨j, k, rfl, dp_int r3, g' j k, rfl, ?_⟩
      have q := z H3 (s1.trans s3)
      rw [hg, Bool.true_and] at q
      exact q
    | false =>
      refine iteF ?_
      have q := z H2 s1
      rw [hg, Bool.false_and] at q
      exact ⟨false, rfl, q⟩)

/-! ### truth -/
theorem Et.to {k k' : Bool} (h : Et X B ρ e k) (q : k = k') : Et X B ρ e k' := q ▸ h
theorem et_val {k : Bool} (h : Ed X B ρ e (dP X.K (.bool k))) (he : ∀ whole, isTrue e X.env whole = (do let v ← whole; standAt e.pos; holding [v] (truthy v)) := by intro _; rfl) : Et X B ρ e k := fun σ G H eg kn Q z =>
  pt_wt (pt_val we_pe he) (h σ G H eg kn _ fun v H2 s r => ⟨k, dp_bl r, z H2 s⟩)
theorem et_not {k : Bool} (h : Et X B ρ e k) : Et X B ρ (.UnaryOp .Not e pos) (!k) := fun σ G H eg kn Q z =>
  pt_wt (pt_not wt_pt) (h σ G H eg kn _ fun H2 s => z H2 s)
theorem ew_et {k : Bool} (h : Ew X B ρ e k) : Et X B ρ e k := fun σ G H eg kn Q z => pt_wt (PW.pt ww_pw) (h σ G H eg kn Q z)
theorem ew_and1 {k : Bool} (h : Et X B ρ a k) : Ew X B ρ (.BoolOp .And [a] pos) k := fun σ G H eg kn Q z => pw_ww (pw_and1 wt_pt) (h σ G H eg kn Q z)
theorem ew_or1 {k : Bool} (h : Et X B ρ a k) : Ew X B ρ (.BoolOp .Or [a] pos) k := fun σ G H eg kn Q z => pw_ww (pw_or1 wt_pt) (h σ G H eg kn Q z)
theorem ew_and {k k' : Bool} {rest : List Expr} (h : Et X B ρ a k) (h' : k = true → Ew X B ρ (.BoolOp .And (b :: rest) pos) k') : Ew X B ρ (.BoolOp .And (a :: b :: rest) pos) (k && k') := fun σ G H eg kn Q z =>
  pw_ww (pw_and wt_pt ww_pw) (h σ G H eg kn _ fun H2 s => by
    cases k with
    | true => exact iteT (h' rfl σ (ext G H H2) H2 (ext_same eg s) (kn.up (ext_up eg)) Q fun H3 s3 => z H3 (s.trans s3))
    | false => exact iteF (z H2 s))
theorem ew_or {k k' : Bool} {rest : List Expr} (h : Et X B ρ a k) (h' : k = false → Ew X B ρ (.BoolOp .Or (b :: rest) pos) k') : Ew X B ρ (.BoolOp .Or (a :: b :: rest) pos) (k || k') := fun σ G H eg kn Q z =>
  pw_ww (pw_or wt_pt ww_pw) (h σ G H eg kn _ fun H2 s => by
    cases k with
    | true => exact iteT (z H2 s)
    | false => exact iteF (h' rfl σ (ext G H H2) H2 (ext_same eg s) (kn.up (ext_up eg)) Q fun H3 s3 => z H3 (s.trans s3)))
/-! as values -/
theorem ed_one {op : BoolOp} (h : Ed X B ρ a P) : Ed X B ρ (.BoolOp op [a] pos) P := fun σ G H eg kn Q z => pe_we (pe_one we_pe) (h σ G H eg kn Q z)
theorem ed_and {k k' : Bool} {rest : List Expr} (h : Ed X B ρ a (dP X.K (.bool k))) (h' : k = true → Ed X B ρ (.BoolOp .And (b :: rest) pos) (dP X.K (.bool k'))) : Ed X B ρ (.BoolOp .And (a :: b :: rest) pos) (dP X.K (.bool (k && k'))) := fun σ G H eg kn Q z =>
  pe_we (pe_and we_pe we_pe) (h σ G H eg kn _ fun v H2 s r => ⟨k, dp_bl r, by
    cases k with
    | true => exact iteT (h' rfl σ (ext G H H2) H2 (ext_same eg s) (kn.up (ext_up eg)) Q fun w H3 s3 r3 => z w H3 (s.trans s3) (by rw [ext_trans eg s s3] at r3; exact r3))
    | false => exact iteF (z _ H2 s (.bl _))⟩)
theorem ed_or {k k' : Bool} {rest : List Expr} (h : Ed X B ρ a (dP X.K (.bool k))) (h' : k = false → Ed X B ρ (.BoolOp .Or (b :: rest) pos) (dP X.K (.bool k'))) : Ed X B ρ (.BoolOp .Or (a :: b :: rest) pos) (dP X.K (.bool (k || k'))) := fun σ G H eg kn Q z =>
  pe_we (pe_or we_pe we_pe) (h σ G H eg kn _ fun v H2 s r => ⟨k, dp_bl r, by
    cases k with
    | true => exact iteT (z _ H2 s (.bl _))
    | false => exact iteF (h' rfl σ (ext G H H2) H2 (ext_same eg s) (kn.up (ext_up eg)) Q fun w H3 s3 r3 => z w H3 (s.trans s3) (by rw [ext_trans eg s s3] at r3; exact r3))⟩)
theorem ed_not {k : Bool} (h : Ed X B ρ a (dP X.K (.bool k))) : Ed X B ρ (.UnaryOp .Not a pos) (dP X.K (.bool (!k))) := fun σ G H eg kn Q z =>
  pe_we (pe_not we_pe) (h σ G H eg kn _ fun v H2 s r => ⟨k, dp_bl r, z _ H2 s (.bl _)⟩)

/-! ### arguments, displays -/
theorem ea_nil : Ea X B ρ [] [] := fun σ G H eg k Q z => pa_wa pa_nil (z [] H (Stp.refl H) .nil)
theorem ea_cons (ha : Ed X B ρ e P) (hr : Ea X B ρ es Ps) (hs : starEach (e :: es) X.env = (false, eval e X.env) :: starEach es X.env := by rfl) : Ea X B ρ (e :: es) (P :: Ps) := fun σ G H eg k Q z =>
  pa_wa (pa_cons we_pe wa_pa hs) (ha σ G H eg k _ fun x H1 s1 r1 => hr σ (ext G H H1) H1 (ext_same eg s1) (k.up (ext_up eg)) _ fun ys H2 s2 r2 => by
    have e1 : ext (ext G H H1) H1 H2 = ext G H H2 := ext_trans eg s1 s2
    have u1 : Same (ext G H H1) (ext G H H2) := by
      rw [← e1]
      exact ext_up (ext_same eg s1)
    rw [e1] at r2
    exact z (x :: ys) H2 (s1.trans s2) (.cons (P.up u1 r1) r2))
theorem small {n : Nat} (h : n ≤ 100000) : n ≤ sizeLine := Nat.le_trans h (by rw [sizeLine_eq]; decide)
theorem ed_tup {x1} (h : Ea X B ρ es Ps) (hl : Ps.length ≤ 100000 := by first | decide | simp) : Ed X B ρ (.Tuple es x1 pos) (tP X.K Ps) := fun σ G H eg k Q z =>
  pe_we (pe_tup wa_pa) (h σ G H eg k _ fun vs H2 s r => ⟨by rw [← r.len]; exact small hl, fun p hp => by
    refine z _ _ (s.trans (stp_new hp)) ?_
    rw [← ext_trans eg s (stp_new hp), ext_new (ext_same eg s) hp]
    exact ⟨p, vs, rfl, upd_same, r.up (snew (snone (ext_same eg s).1 hp))⟩⟩)
theorem ed_lst (h : Ea X B ρ es Ps) (hl : Ps.length ≤ 100000 := by first | decide | simp) : Ed X B ρ (.List es pos) (lP X.K Ps) := fun σ G H eg k Q z =>
  pe_we (pe_lst wa_pa) (h σ G H eg k _ fun vs H2 s r => ⟨by rw [← r.len]; exact small hl, fun p hp => by
    refine z _ _ (s.trans (stp_new hp)) ?_
    rw [← ext_trans eg s (stp_new hp), ext_new (ext_same eg s) hp]
    exact ⟨p, vs, rfl, upd_same, r.up (snew (snone (ext_same eg s).1 hp))⟩⟩)
theorem ed_tupd {x1} {ds : List PyData} (h : Ea X B ρ es (ds.map (dP X.K))) (hl : (ds.map (dP X.K)).length ≤ 100000 := by first | decide | simp) : Ed X B ρ (.Tuple es x1 pos) (dP X.K (.tuple ds)) := (ed_tup h hl).imp imp_dt
theorem ed_lstd {ds : List PyData} (h : Ea X B ρ es (ds.map (dP X.K))) (hl : (ds.map (dP X.K)).length ≤ 100000 := by first | decide | simp) : Ed X B ρ (.List es pos) (dP X.K (.list ds)) := (ed_lst h hl).imp imp_dl

/-! ### items, slices -/
theorem paired_at {α β : Type} {F : α → β → Prop} {xs : List α} {ys : List β} (h : Paired F xs ys) {i : Int} {x : α} (e : atI xs i = some x) : ∃ y, atI ys i = some y ∧ F x y := by
  unfold atI at e ⊢
  rw [← Paired.length h]
  cases q : ixN xs.length i with
  | none =>
    rw [q] at e
    cases e
  | some j =>
    rw [q] at e
    have e2 : xs[j]? = some x := e
    have key : ∀ {xs : List α} {ys : List β} {j : Nat}, Paired F xs ys → xs[j]? = some x → ∃ y, ys[j]? = some y ∧ F x y := by
      intro xs ys j h
      induction h generalizing j with
      | nil => intro e; simp at e
      | cons r t ih =>
        intro e
        cases j with
        | zero =>
          simp at e
          subst e
          exact ⟨_, rfl, r⟩
        | succ j =>
          obtain ⟨y, h1, h2⟩ := ih (j := j) (by simpa using e)
          exact ⟨y, by simpa using h1, h2⟩
    exact key h e2
theorem ed_ixT {i : Int} (ha : Ed X B ρ a (tP X.K Ps)) (hb : Ed X B ρ b (dP X.K (.int i))) (e : atI Ps i = some P) (hs : PlainIx b := by exact fun _ _ => rfl) : Ed X B ρ (.Subscript a b pos) P := fun σ G H eg k Q z =>
  pe_we (pe_ix ix_tup we_pe we_pe hs) (two (Q := Q) ha hb eg k fun x y H2 s1 s2 r1 r2 => by
    obtain ⟨t, xs, rfl, h2, h3⟩ := r1
    obtain ⟨v, h4, h5⟩ := paired_at h3 e
    exact ⟨t, xs, i, v, rfl, dp_int r2, sqt_up s2.1 h2, h4, z v H2 s1 h5⟩)
theorem ed_ixL {i : Int} (ha : Ed X B ρ a (lP X.K Ps)) (hb : Ed X B ρ b (dP X.K (.int i))) (e : atI Ps i = some P) (hs : PlainIx b := by exact fun _ _ => rfl) : Ed X B ρ (.Subscript a b pos) P := fun σ G H eg k Q z =>
  pe_we (pe_ix ix_list we_pe we_pe hs) (two (Q := Q) ha hb eg k fun x y H2 s1 s2 r1 r2 => by
    obtain ⟨t, xs, rfl, h2, h3⟩ := r1
    obtain ⟨v, h4, h5⟩ := paired_at h3 e
    exact ⟨t, xs, i, v, rfl, dp_int r2, sql_up s2.1 h2, h4, z v H2 s1 h5⟩)
theorem at_map {α β : Type} {f : α → β} {xs : List α} {i : Int} {x : α} (h : atI xs i = some x) : atI (xs.map f) i = some (f x) := by
  unfold atI at h ⊢
  rw [List.length_map]
  cases q : ixN xs.length i with
  | none =>
    rw [q] at h
    cases h
  | some j =>
    rw [q] at h
    have h2 : xs[j]? = some x := h
    show (xs.map f)[j]? = some (f x)
    rw [List.getElem?_map, h2]
    rfl
theorem ed_ixTd {i : Int} {ds : List PyData} {d : PyData} (ha : Ed X B ρ a (dP X.K (.tuple ds))) (hb : Ed X B ρ b (dP X.K (.int i))) (e : atI ds i = some d) (hs : PlainIx b := by exact fun _ _ => rfl) : Ed X B ρ (.Subscript a b pos) (dP X.K d) :=
  ed_ixT (ha.imp imp_td) hb (at_map e) hs
theorem ed_ixLd {i : Int} {ds : List PyData} {d : PyData} (ha : Ed X B ρ a (dP X.K (.list ds))) (hb : Ed X B ρ b (dP X.K (.int i))) (e : atI ds i = some d) (hs : PlainIx b := by exact fun _ _ => rfl) : Ed X B ρ (.Subscript a b pos) (dP X.K d) :=
  ed_ixL (ha.imp imp_ld) hb (at_map e) hs

/-! ### calls of built-ins -/
def GivesC (B : List Addr) (r : List V → Hp → VK → Prop) (Ps : List Pr) (P : Pr) : Prop := ∀ (vs : List V) (G H : Hp), OkB B G H → AllP Ps vs G → ∀ Q : VK, (∀ v H2, Stp B H H2 → P.p v (ext G H H2) → Q v H2) → r vs H Q
theorem givesC_here {r : List V → Hp → VK → Prop} (h : ∀ (vs : List V) (G H : Hp), OkB B G H → AllP Ps vs G → ∀ Q : VK, (∀ v, P.p v G → Q v H) → r vs H Q) : GivesC B r Ps P := fun vs G H eg r1 Q z =>
  h vs G H eg r1 Q fun v q => z v H (Stp.refl H) (by rw [ext_refl eg]; exact q)
theorem ed_callB {x : Str} {id : String} {r : List V → Hp → VK → Prop} (hc : CallR X (.builtin id) r) (hg : Gl X x) (hm : X.mg x = none) (hv : bootBuiltins x = some (.builtin id)) (ha : Ea X B ρ (e :: es) Ps) (hr : GivesC B r Ps P) (hn : x ≠ "__name__" := by decide) (hdb : (x == ("__debug__" : Str)) = false := by decide)
    (he : starEach (e :: es) X.env = (false, eval e X.env) :: starEach es X.env := by rfl) (hpl : (backTo pos (starEach es X.env)).any (·.1) = false := by rfl) : Ed X B ρ (.Call (.Name x p) (e :: es) [] pos) P := fun σ G H eg k Q z =>
  pe_we (pe_callB hc hg hm hv wa_pa hn hdb he hpl) (ha σ G H eg k _ fun vs H2 s2 r2 => hr vs _ H2 (ext_same eg s2) r2 Q fun v H3 s3 r3 => z v H3 (s2.trans s3) (by rw [← ext_trans eg s2 s3]; exact r3))
theorem ed_callTy {x : Str} {id : String} {r : List V → Hp → VK → Prop} (hc : CallR X (.type id) r) (hg : Gl X x) (hm : X.mg x = none) (hv : bootBuiltins x = some (.type id)) (ha : Ea X B ρ (e :: es) Ps) (hr : GivesC B r Ps P) (hn : x ≠ "__name__" := by decide) (hdb : (x == ("__debug__" : Str)) = false := by decide)
    (he : starEach (e :: es) X.env = (false, eval e X.env) :: starEach es X.env := by rfl) (hpl : (backTo pos (starEach es X.env)).any (·.1) = false := by rfl) : Ed X B ρ (.Call (.Name x p) (e :: es) [] pos) P := fun σ G H eg k Q z =>
  pe_we (pe_callTy hc hg hm hv wa_pa hn hdb he hpl) (ha σ G H eg k _ fun vs H2 s2 r2 => hr vs _ H2 (ext_same eg s2) r2 Q fun v H3 s3 r3 => z v H3 (s2.trans s3) (by rw [← ext_trans eg s2 s3]; exact r3))
theorem allp1 {vs : List V} {H : Hp} (h : AllP [P] vs H) : ∃ v, vs = [v] ∧ P.p v H := by
  cases h with
  | cons r t =>
    cases t
    exact ⟨_, rfl, r⟩
theorem allp2 {vs : List V} {H : Hp} (h : AllP [P1, P2] vs H) : ∃ v w, vs = [v, w] ∧ P1.p v H ∧ P2.p w H := by
  cases h with
  | cons r t =>
    obtain ⟨w, rfl, r2⟩ := allp1 t
    exact ⟨_, w, rfl, r, r2⟩
theorem allp3 {vs : List V} {H : Hp} (h : AllP [P1, P2, P3] vs H) : ∃ v w u, vs = [v, w, u] ∧ P1.p v H ∧ P2.p w H ∧ P3.p u H := by
  cases h with
  | cons r t =>
    obtain ⟨w, u, rfl, r2, r3⟩ := allp2 t
    exact ⟨_, w, u, rfl, r, r2, r3⟩
theorem ed_lenT (hg : Gl X "len") (hm : X.mg "len" = none) (ha : Ed X B ρ e (tP X.K Ps)) (he : starEach [e] X.env = (false, eval e X.env) :: starEach [] X.env := by rfl) : Ed X B ρ (.Call (.Name "len" p) [e] [] pos) (dP X.K (.int Ps.length)) :=
  ed_callB call_len_seq hg hm PySem.boot_len (ea_cons ha ea_nil he) (givesC_here fun vs G H eg r1 Q z => by
    obtain ⟨v, rfl, t, xs, rfl, h2, h3⟩ := allp1 r1
    refine ⟨t, xs, rfl, .inr (sqt_up eg.1 h2), z _ ?_⟩
    rw [h3.len]
    exact .int _) (by decide) (by decide) he
theorem ed_lenL (hg : Gl X "len") (hm : X.mg "len" = none) (ha : Ed X B ρ e (lP X.K Ps)) (he : starEach [e] X.env = (false, eval e X.env) :: starEach [] X.env := by rfl) : Ed X B ρ (.Call (.Name "len" p) [e] [] pos) (dP X.K (.int Ps.length)) :=
  ed_callB call_len_seq hg hm PySem.boot_len (ea_cons ha ea_nil he) (givesC_here fun vs G H eg r1 Q z => by
    obtain ⟨v, rfl, t, xs, rfl, h2, h3⟩ := allp1 r1
    refine ⟨t, xs, rfl, .inl (sql_up eg.1 h2), z _ ?_⟩
    rw [h3.len]
    exact .int _) (by decide) (by decide) he
theorem ed_lenTd {ds : List PyData} (hg : Gl X "len") (hm : X.mg "len" = none) (ha : Ed X B ρ e (dP X.K (.tuple ds))) (he : starEach [e] X.env = (false, eval e X.env) :: starEach [] X.env := by rfl) : Ed X B ρ (.Call (.Name "len" p) [e] [] pos) (dP X.K (.int ds.length)) := by
  have h := ed_lenT (pos := pos) (p := p) hg hm (ha.imp imp_td) he
  rw [List.length_map] at h
  exact h
theorem ed_lenLd {ds : List PyData} (hg : Gl X "len") (hm : X.mg "len" = none) (ha : Ed X B ρ e (dP X.K (.list ds))) (he : starEach [e] X.env = (false, eval e X.env) :: starEach [] X.env := by rfl) : Ed X B ρ (.Call (.Name "len" p) [e] [] pos) (dP X.K (.int ds.length)) := by
  have h := ed_lenL (pos := pos) (p := p) hg hm (ha.imp imp_ld) he
  rw [List.length_map] at h
  exact h
theorem bools_v {H : Hp} : ∀ {bs : List Bool} {vs : List V}, DhAll H vs (bs.map PyData.bool) → vs = bs.map V.bl
  | [], _, h => by
    cases h
    rfl
  | b :: bs, _, h => by
    cases h with
    | cons h1 h2 => rw [dp_bl h1, bools_v h2]; rfl
theorem ints_v {H : Hp} : ∀ {bs : List Int} {vs : List V}, DhAll H vs (bs.map PyData.int) → vs = bs.map V.int
  | [], _, h => by
    cases h
    rfl
  | b :: bs, _, h => by
    cases h with
    | cons h1 h2 => rw [dp_int h1, ints_v h2]; rfl
theorem dpa_ints {H : Hp} : ∀ (ns : List Int), DhAll H (ns.map V.int) (ns.map PyData.int)
  | [] => .nil
  | n :: ns => .cons (.int n) (dpa_ints ns)
theorem ed_all {bs : List Bool} (hc : X.calm = true) (hg : Gl X "all") (hm : X.mg "all" = none) (ha : Ed X B ρ e (dP X.K (.list (bs.map .bool)))) (he : starEach [e] X.env = (false, eval e X.env) :: starEach [] X.env := by rfl) : Ed X B ρ (.Call (.Name "all" p) [e] [] pos) (dP X.K (.bool (bs.all id))) :=
  ed_callB (cr_all hc) hg hm (by decide +kernel) (ea_cons ha ea_nil he) (givesC_here fun vs G H eg r1 Q z => by
    obtain ⟨v, rfl, h1⟩ := allp1 r1
    have h1 : Dh G v (.list (bs.map .bool)) := h1
    cases h1 with
    | lst h2 h3 =>
      rw [bools_v h3] at h2
      exact ⟨_, bs, rfl, sql_up eg.1 h2, z _ (.bl _)⟩) (by decide) (by decide) he
theorem ed_any {bs : List Bool} (hc : X.calm = true) (hg : Gl X "any") (hm : X.mg "any" = none) (ha : Ed X B ρ e (dP X.K (.list (bs.map .bool)))) (he : starEach [e] X.env = (false, eval e X.env) :: starEach [] X.env := by rfl) : Ed X B ρ (.Call (.Name "any" p) [e] [] pos) (dP X.K (.bool (bs.any id))) :=
  ed_callB (cr_any hc) hg hm (by decide +kernel) (ea_cons ha ea_nil he) (givesC_here fun vs G H eg r1 Q z => by
    obtain ⟨v, rfl, h1⟩ := allp1 r1
    have h1 : Dh G v (.list (bs.map .bool)) := h1
    cases h1 with
    | lst h2 h3 =>
      rw [bools_v h3] at h2
      exact ⟨_, bs, rfl, sql_up eg.1 h2, z _ (.bl _)⟩) (by decide) (by decide) he
/-- tuple(a list) -/
theorem ed_tupleL (hg : Gl X "tuple") (hm : X.mg "tuple" = none) (ha : Ed X B ρ e (lP X.K Ps)) (he : starEach [e] X.env = (false, eval e X.env) :: starEach [] X.env := by rfl) : Ed X B ρ (.Call (.Name "tuple" p) [e] [] pos) (tP X.K Ps) :=
  ed_callTy call_tuple_of hg hm (by decide +kernel) (ea_cons ha ea_nil he) (fun vs G H eg r1 Q z => by
    obtain ⟨v, rfl, t, xs, rfl, h2, h3⟩ := allp1 r1
    refine ⟨t, xs, rfl, .inl ⟨sql_up eg.1 h2, fun l hl => z _ _ (stp_new hl) ?_⟩⟩
    rw [ext_new eg hl]
    exact ⟨l, xs, rfl, upd_same, h3.up (snew (snone eg.1 hl))⟩) (by decide) (by decide) he
theorem ed_tupleLd {ds : List PyData} (hg : Gl X "tuple") (hm : X.mg "tuple" = none) (ha : Ed X B ρ e (dP X.K (.list ds))) (he : starEach [e] X.env = (false, eval e X.env) :: starEach [] X.env := by rfl) : Ed X B ρ (.Call (.Name "tuple" p) [e] [] pos) (dP X.K (.tuple ds)) :=
  (ed_tupleL hg hm (ha.imp imp_ld) he).imp imp_dt
/-- list(a list) -/
theorem ed_listL (hg : Gl X "list") (hm : X.mg "list" = none) (ha : Ed X B ρ e (lP X.K Ps)) (he : starEach [e] X.env = (false, eval e X.env) :: starEach [] X.env := by rfl) : Ed X B ρ (.Call (.Name "list" p) [e] [] pos) (lP X.K Ps) :=
  ed_callTy call_list_of hg hm (by decide +kernel) (ea_cons ha ea_nil he) (fun vs G H eg r1 Q z => by
    obtain ⟨v, rfl, t, xs, rfl, h2, h3⟩ := allp1 r1
    refine ⟨t, xs, rfl, .inl (sql_up eg.1 h2), fun l hl => z _ _ (stp_new hl) ?_⟩
    rw [ext_new eg hl]
    exact ⟨l, xs, rfl, upd_same, h3.up (snew (snone eg.1 hl))⟩) (by decide) (by decide) he
/-! isinstance -/
theorem tyx_t {K : PySem.W.Frag} {H : Hp} {a : Addr} {xs : List V} (h : H a = some (.tup xs)) : TyX K H (.ref a) (.type "tuple") := by
  exact .base (.tup h)
theorem tyx_l {K : PySem.W.Frag} {H : Hp} {a : Addr} {xs : List V} (h : H a = some (.lst xs)) : TyX K H (.ref a) (.type "list") := by
  exact .base (.lst h)
def tyD : PyData → String
  | .none => "NoneType"
  | .bool _ => "bool"
  | .int _ => "int"
  | .str _ => "str"
  | .list _ => "list"
  | .tuple _ => "tuple"
  | .dict _ => "dict"
theorem tyx_d {K : PySem.W.Frag} {H : Hp} : ∀ {d : PyData} {v : V}, Dh H v d → TyX K H v (.type (tyD d))
  | .none, _, h => by
    cases h
    exact .base .non
  | .bool b, _, h => by
    cases h
    exact .base (.bl b)
  | .int i, _, h => by
    cases h
    exact .base (.int i)
  | .str x, _, h => by
    cases h
    exact .base (.str x)
  | .list ds, _, h => by
    cases h with
    | lst hs _ => exact tyx_l hs
  | .tuple ds, _, h => by
    cases h with
    | tup hs _ => exact tyx_t hs
  | .dict _, _, h => by cases h
theorem ed_isi {x : Str} {n : String} {d : PyData} {k : Bool} (tn : String) (hg : Gl X "isinstance") (hm : X.mg "isinstance" = none) (hx : Gl X x) (hmx : X.mg x = none) (hv : bootBuiltins x = some (.type n)) (ha : Ed X B ρ e (dP X.K d)) (ht : tyD d = tn) (hk : kitB tn n = some k)
    (hn : x ≠ "__name__" := by decide) (hd : (x == ("__debug__" : Str)) = false := by decide) {px : Pos} (he : starEach [e, .Name x px] X.env = (false, eval e X.env) :: starEach [.Name x px] X.env := by rfl) : Ed X B ρ (.Call (.Name "isinstance" p) [e, .Name x px] [] pos) (dP X.K (.bool k)) :=
  ed_callB call_isi hg hm (by decide +kernel) (ea_cons ha (ea_cons (ed_bty hx hmx hv hn hd) ea_nil) he) (givesC_here fun vs G H eg r1 Q z => by
    obtain ⟨v, w, rfl, h1, h2⟩ := allp2 r1
    have h2 : w = .ty n := h2
    subst h2
    exact ⟨v, _, _, _, k, rfl, .ty n, tyx_d (dp_up eg.1 _ _ h1), kit_ty (by rw [ht]; exact hk), z _ (.bl _)⟩) (by decide) (by decide) he (by rfl)
theorem tv_tuple : bootBuiltins "tuple" = some (.type "tuple") := by decide +kernel
theorem tv_int : bootBuiltins "int" = some (.type "int") := by decide +kernel
theorem tv_bool : bootBuiltins "bool" = some (.type "bool") := by decide +kernel
theorem tv_str : bootBuiltins "str" = some (.type "str") := by decide +kernel
theorem tv_list : bootBuiltins "list" = some (.type "list") := by decide +kernel
theorem kb_tt : kitB "tuple" "tuple" = some true := by decide +kernel
theorem kb_ll : kitB "list" "list" = some true := by decide +kernel
theorem kb_ii : kitB "int" "int" = some true := by decide +kernel
theorem kb_ib : kitB "int" "bool" = some false := by decide +kernel
theorem kb_ss : kitB "str" "str" = some true := by decide +kernel
theorem kb_bb : kitB "bool" "bool" = some true := by decide +kernel

/-! ### calls of the program's own defs -/
/-- the module's name x is a def that keeps sp at level k -/
structure Cal (P : Program) (w : World) (K : PySem.W.Frag) (mg : Str → Option Value) (base : Heap) (k : Nat) (x : Str) (ps : List Str) (sp : Sp) : Prop where
  ex : ∃ (f : Addr) (fd : FuncData), mg x = some (.ref f) ∧ PySem.W.keepIn K (.ref f) = true ∧ Binds K fd ps [] ∧ FnOk P w K mg base CX0 k f fd ps sp
/-- the promise of a def that changes at most the boxes: over the arguments z, with pre z -/
def spB {α : Type} (bx : α → List Addr) (pre : α → Prop) (As : α → List Pr) (R : α → Pr) : Sp := fun vs H Q _ => ∃ (z : α) (G : Hp), pre z ∧ OkB (bx z) G H ∧ AllP (As z) vs G ∧ ∀ v H2, Stp (bx z) H H2 → (R z).p v (ext G H H2) → Q v H2
abbrev spP {α : Type} (pre : α → Prop) (As : α → List Pr) (R : α → Pr) : Sp := spB (fun _ => []) pre As R
theorem ed_callG {α : Type} {bx : α → List Addr} {pre : α → Prop} {As : α → List Pr} {R : α → Pr} {x : Str} {ps : List Str} {k j : Nat} (c : Cal X.prog X.w X.K X.mg X.base k x ps (spB bx pre As R)) (hr : Room j X.A) (hk : k ≤ j) (hg : Gl X x) (ha : Ea X B ρ (e :: es) Ps) (hz : ∀ vs G, AllP Ps vs G → ∃ z, pre z ∧ (∀ b ∈ bx z, b ∈ B) ∧ AllP (As z) vs G ∧ Imp (R z) P)
    (hdb : (x == ("__debug__" : Str)) = false := by decide) (he : starEach (e :: es) X.env = (false, eval e X.env) :: starEach es X.env := by rfl) (hpl : (backTo pos (starEach es X.env)).any (·.1) = false := by rfl) : Ed X B ρ (.Call (.Name x p) (e :: es) [] pos) P := by
  obtain ⟨f, fd, h1, h2, h3, h4⟩ := c.ex
  refine fun σ G H eg kn Q q => pe_we (pe_call h4 (hr.mono hk) hg h1 h2 h3 .nil pass0 wa_pa hdb he hpl) (ha σ G H eg kn _ fun vs H2 s2 r2 => ?_)
  rw [List.append_nil]
  obtain ⟨z, z1, z2, z3, z4⟩ := hz vs _ r2
  exact ⟨z, _, z1, (ext_same eg s2).sub z2, z3, fun v H3 s3 r3 => q v H3 (s2.trans (s3.sub z2)) (by rw [← ext_trans eg s2 (s3.sub z2)]; exact z4 _ _ r3)⟩
theorem ed_call {α : Type} {pre : α → Prop} {As : α → List Pr} {R : α → Pr} {x : Str} {ps : List Str} {k j : Nat} (c : Cal X.prog X.w X.K X.mg X.base k x ps (spP pre As R)) (hr : Room j X.A) (hk : k ≤ j) (z : α) (hz : pre z) (hg : Gl X x) (ha : Ea X B ρ (e :: es) (As z)) (hP : R z = P := by rfl)
    (hdb : (x == ("__debug__" : Str)) = false := by decide) (he : starEach (e :: es) X.env = (false, eval e X.env) :: starEach es X.env := by rfl) (hpl : (backTo pos (starEach es X.env)).any (·.1) = false := by rfl) : Ed X B ρ (.Call (.Name x p) (e :: es) [] pos) P :=
  ed_callG c hr hk hg ha (fun vs G r => ⟨z, hz, (fun _ h => by cases h), r, (fun v H q => by rw [← hP]; exact q)⟩) hdb he hpl

/-! ### blocks -/
variable {st : Stmt} {rest body : List Stmt} {ρ' ρ2 : Rho}
theorem sr_ret (h : Ed X B ρ e P) : Sr X B ρ (.Return (some e) pos :: rest) P := fun σ G H eg k D z =>
  ps_wb (pss_cons (ps_ret we_pe) wb_ps) (h σ G H eg k _ fun v H2 s r => z v H2 s r)
theorem Sr.imp (h : Sr X B ρ rest P) (i : Imp P P') : Sr X B ρ rest P' := fun σ G H eg k D z => h σ G H eg k D fun v H2 s r => z v H2 s (i _ _ r)
/-- the statement goes through -/
def Ss (X : Cx) (B : List Addr) (ρ : Rho) (st : Stmt) (ρ' : Rho) : Prop := ∀ (σ : L2.St) (G H : Hp), OkB B G H → Kn σ G ρ → ∀ D : Ends, (∀ σ' H2, Stp B H H2 → Kn σ' (ext G H H2) ρ' → D.nx σ' H2) → WS X st D σ H
theorem sn_nil : Sn X B ρ [] ρ := fun σ G H eg k D z => ps_wb pss_nil (z σ H (Stp.refl H) (by rw [ext_refl eg]; exact k))
theorem sr_seq (h : Ss X B ρ st ρ') (h' : Sr X B ρ' rest P) : Sr X B ρ (st :: rest) P := fun σ G H eg k D z =>
  ps_wb (pss_cons ws_ps wb_ps) (h σ G H eg k _ fun σ' H2 s k' => h' σ' (ext G H H2) H2 (ext_same eg s) k' D fun v H3 s3 r3 => z v H3 (s.trans s3) (by rw [← ext_trans eg s s3]; exact r3))
theorem sn_seq (h : Ss X B ρ st ρ') (h' : Sn X B ρ' rest ρ2) : Sn X B ρ (st :: rest) ρ2 := fun σ G H eg k D z =>
  ps_wb (pss_cons ws_ps wb_ps) (h σ G H eg k _ fun σ' H2 s k' => h' σ' (ext G H H2) H2 (ext_same eg s) k' D fun v H3 s3 r3 => z v H3 (s.trans s3) (by rw [← ext_trans eg s s3]; exact r3))
/-- if c: .. (returns) -/
theorem sr_if {k : Bool} (ht : Et X B ρ c k) (h1 : k = true → Sr X B ρ body P) (h2 : k = false → Sr X B ρ rest P) : Sr X B ρ (.If c body [] pos :: rest) P := fun σ G H eg kn D z =>
  ps_wb (pss_cons (ps_if wt_pt wb_ps pss_nil) wb_ps) (ht σ G H eg kn _ fun H2 s => by
    cases k with
    | true => exact iteT (h1 rfl σ (ext G H H2) H2 (ext_same eg s) (kn.up (ext_up eg)) _ fun v H3 s3 r3 => z v H3 (s.trans s3) (by rw [← ext_trans eg s s3]; exact r3))
    | false => exact iteF (h2 rfl σ (ext G H H2) H2 (ext_same eg s) (kn.up (ext_up eg)) D fun v H3 s3 r3 => z v H3 (s.trans s3) (by rw [← ext_trans eg s s3]; exact r3)))
/-- a test that fails -/
theorem ss_no (ht : Et X B ρ c false) : Ss X B ρ (.If c body [] pos) ρ := fun σ G H eg kn D z =>
  ps_ws (ps_if wt_pt wb_ps pss_nil) (ht σ G H eg kn _ fun H2 s => iteF (z σ H2 s (kn.up (ext_up eg))))
theorem sr_no (ht : Et X B ρ c false) (h : Sr X B ρ rest P) : Sr X B ρ (.If c body [] pos :: rest) P := sr_seq (ss_no ht) h
/-- x = e -/
theorem ss_set (i : Nat) {x : Str} {p' : Pos} (hN : X.N.Nodup) (he : Ed X B ρ e P) (hi : X.N[i]? = some x := by rfl) (hx : Loc X.env.scope x := by first | exact Or.inl rfl | exact Or.inr rfl) (hs : swapsWith e (some (.Name x p')) pos.line X.env = pure false := by rfl)
    (hf : X.fn x = true ∨ X.env.scope.names.lookup x = some .local := by first | exact .inl rfl | exact .inr rfl) : Ss X B ρ (.Assign [.Name x p'] e pos) (ρ.set i (some P)) := fun σ G H eg k D z =>
  ps_ws (ps_set hN hi hx we_pe hs hf) (he σ G H eg k _ fun v H2 s r => z _ H2 s ((k.up (ext_up eg)).set i r))

/-! ### targets -/
theorem wipe_set {σ : L2.St} {i : Nat} {v : Option V} : ∀ {vs : List Nat}, i ∈ vs → wipe (σ.set i v) vs = wipe σ vs
  | [], h => by cases h
  | w :: vs, h => by
    show (wipe (σ.set i v) vs).set w none = (wipe σ vs).set w none
    by_cases hm : i ∈ vs
    · rw [wipe_set hm]
    · have e : i = w := by
        rcases List.mem_cons.mp h with e | h
        · exact e
        · exact absurd h hm
      subst e
      have key : ∀ vs : List Nat, i ∉ vs → wipe (σ.set i v) vs = (wipe σ vs).set i v := by
        intro vs
        induction vs with
        | nil => intro _; rfl
        | cons u vs ih =>
          intro hn
          show (wipe (σ.set i v) vs).set u none = ((wipe σ vs).set u none).set i v
          rw [ih fun z => hn (List.mem_cons_of_mem _ z), List.set_comm _ _ (fun z => hn (by rw [z]; exact List.mem_cons_self))]
      rw [key vs hm, List.set_set]
theorem tg_name (i : Nat) {x : Str} {p' : Pos} (hN : X.N.Nodup) (hi : X.N[i]? = some x := by rfl) (hx : Loc X.env.scope x := by first | exact Or.inl rfl | exact Or.inr rfl) (hf : X.fn x = true ∨ X.env.scope.names.lookup x = some .local := by first | exact .inl rfl | exact .inr rfl) : Tg X ρ (.Name x p') P [i] (ρ.set i (some P)) :=
  fun v σ G H eg k r Q z => pg_wg (pg_name hN hi hx hf) (z _ (fun vs h => wipe_set (h i List.mem_cons_self)) (k.set i r))
theorem tgs_nil : Tgs X ρ [] [] [] ρ := fun vs σ G H eg k r Q z pins s us I rv => by
  cases r
  exact pgs_nil.run pins s σ H [] us Q I rv ⟨rfl, z σ (fun _ _ => rfl) k⟩
theorem tgs_cons {tg : Expr} {tgs : List Expr} {is js : List Nat} (h : Tg X ρ tg P is ρ') (h' : Tgs X ρ' tgs Ps js ρ2) (hs : (assignEach (tg :: tgs) X.env).map (·.2) = assign tg X.env :: (assignEach tgs X.env).map (·.2) := by rfl) : Tgs X ρ (tg :: tgs) (P :: Ps) (is ++ js) ρ2 := fun vs σ G H eg k r Q z pins s us I rv => by
  cases r with
  | cons r1 r2 =>
    cases rv with
    | cons rv1 rv2 =>
      rw [hs]
      refine assignInOrder_cons (thn (h _ σ G H eg k r1 (fun σ' H' => H' = H ∧ (∀ vs : List Nat, (∀ i ∈ is, i ∈ vs) → wipe σ' vs = wipe σ vs) ∧ Kn σ' G ρ') (fun σ' a b => ⟨rfl, a, b⟩) pins s _ I rv1) fun _ s1 ⟨σ1, H1, I1, e1, w1, k1⟩ => ?_)
      subst e1
      exact h' _ σ1 G H1 eg k1 r2 Q (fun σ2 w2 k2 => z σ2 (fun vs hv => (w2 vs fun i hi => hv i (List.mem_append_right _ hi)).trans (w1 vs fun i hi => hv i (List.mem_append_left _ hi))) k2) pins s1 _ I1 rv2
/-- (a, b, ..) -/
theorem tg_tup {tgs : List Expr} {kk : Nat} {is : List Nat} (hc : X.calm = true) (h : Tgs X ρ tgs Ps is ρ') (hn : (assignEach tgs X.env).length = Ps.length := by rfl) (hst : (assignEach tgs X.env).findIdx? (·.1) = none := by rfl) : Tg X ρ (.Tuple tgs kk pos) (tP X.K Ps) is ρ' := fun v σ G H eg k r Q z => by
  obtain ⟨a, xs, rfl, h1, h2⟩ := r
  have hp : PGs X tgs (fun vs σ H Q => ∀ (pins : List (Addr × Obj)) (s : Shared) (us : List Value), Inv X pins σ H s → Vals vs us → wpAny (model X.prog X.w) X.A (assignInOrder ((assignEach tgs X.env).map (·.2)) us) (fun _ s' => ∃ σ' H', Inv X pins σ' H' s' ∧ Q σ' H') X.xe s) :=
    ⟨fun pins s σ H vs us Q I rv hw => hw pins s us I rv⟩
  refine pg_wg (pg_tup hc hp (by rw [hn]) hst) ⟨a, xs, rfl, sqt_up eg h1, h2.len.symm, fun pins s us I rv => ?_⟩
  exact h xs σ G H eg k h2 Q z pins s us I rv
theorem tg_imp {tg : Expr} {is : List Nat} (h : Tg X ρ tg P' is ρ') (i : Imp P P') : Tg X ρ tg P is ρ' := fun v σ G H eg k r Q z => h v σ G H eg k (i _ _ r) Q z
/-- target = e -/
theorem ss_asg {tg : Expr} {is : List Nat} (he : Ed X B ρ e P) (hg : Tg X ρ tg P is ρ') (hs : swapsWithSole [tg] e pos.line X.env = pure false := by rfl) (hw : swappedStores [tg] e X.env = pure none := by rfl) (h1 : (assignEach [tg] X.env).map (·.2) = [assign tg X.env] := by rfl) :
    Ss X B ρ (.Assign [tg] e pos) ρ' := fun σ G H eg k D z =>
  ps_ws (ps_asg we_pe wg_pg hs hw h1) (he σ G H eg k _ fun v H2 s r => hg v σ (ext G H H2) H2 (ext_same eg s).1 (k.up (ext_up eg)) r _ fun σ' _ k' => z σ' H2 s k')
/-- a, b = e1, e2 -/
theorem ss_par (i j : Nat) {x y : Str} {ea eb : Expr} {k1 k2 : Nat} {p1 p2 p3 p4 : Pos} (h : ∀ D : Ends, PS X (.Assign [.Tuple [.Name x p1, .Name y p2] k1 p3] (.Tuple [ea, eb] k2 p4) pos) (tPar i j (WA X [ea, eb]))) (ha : Ea X B ρ [ea, eb] [P1, P2]) : Ss X B ρ (.Assign [.Tuple [.Name x p1, .Name y p2] k1 p3] (.Tuple [ea, eb] k2 p4) pos) ((ρ.set i (some P1)).set j (some P2)) := fun σ G H eg k D z =>
  ps_ws (h D) (ha σ G H eg k _ fun vs H2 s r => by
    obtain ⟨v, w, rfl, r1, r2⟩ := allp2 r
    exact ⟨v, w, rfl, z _ H2 s (((k.up (ext_up eg)).set i r1).set j r2)⟩)
end
end Lk

/-! Da2: comprehensions, loops' sources, defs. -/
namespace Lk
open PySem PySem.Spec PyProof.Rows L2
/-! ### sources -/
/-- the walk J gives such values, one a turn, while what Gk knows stands -/
structure WkD (B : List Addr) (J : It) (Ps : List Pr) (Gk : Hp) : Prop where
  goes : ∀ i H, Same Gk H → i < Ps.length → J.go i H
  stops : ∀ H, Same Gk H → J.stop Ps.length H
  yields : ∀ i H x H' P, Same Gk H → Ps[i]? = some P → J.yld i H x H' → Same H H' ∧ P.p x (ext Gk H H')
/-- what is walked -/
def Es (X : Cx) (B : List Addr) (ρ : Rho) (tg iter : Expr) (Ps : List Pr) : Prop := ∃ wi, PI X tg iter wi ∧ ∀ (σ : L2.St) (G H : Hp), OkB B G H → Kn σ G ρ → ∀ R : It → Hp → Prop, (∀ J H2, Stp B H H2 → WkD B J Ps (ext G H H2) → R J H2) → wi σ H R
section
variable {X : Cx} {B : List Addr} {ρ : Rho} {tg e a : Expr} {P P1 : Pr} {Ps : List Pr} {pos p : Pos}
theorem wkd_tup {K : PySem.W.Frag} {G : Hp} {t : Addr} {xs : List V} (h : G t = some (.tup xs)) (r : AllP Ps xs G) : WkD B (Itt K t) Ps G where
  goes := fun i H e hi => ⟨xs, xs[i]'(by rw [← r.len]; exact hi), sqt_up e h, by simp⟩
  stops := fun H e => ⟨xs, sqt_up e h, by rw [r.len]; exact Nat.le_refl _⟩
  yields := fun i H x H' P e hP y => by
    obtain ⟨rfl, hx⟩ := y
    refine ⟨Same.refl _, ?_⟩
    rw [xext_refl e]
    obtain ⟨P', h1, h2⟩ := r.get' (hx xs (sqt_up e h))
    rw [hP] at h1
    cases h1
    exact h2
theorem wkd_list {K : PySem.W.Frag} {G : Hp} {t : Addr} {xs : List V} (h : G t = some (.lst xs)) (r : AllP Ps xs G) : WkD B (Itl K t) Ps G where
  goes := fun i H e hi => ⟨xs, xs[i]'(by rw [← r.len]; exact hi), sql_up e h, by simp⟩
  stops := fun H e => ⟨xs, sql_up e h, by rw [r.len]; exact Nat.le_refl _⟩
  yields := fun i H x H' P e hP y => by
    obtain ⟨rfl, hx⟩ := y
    refine ⟨Same.refl _, ?_⟩
    rw [xext_refl e]
    obtain ⟨P', h1, h2⟩ := r.get' (hx xs (sql_up e h))
    rw [hP] at h1
    cases h1
    exact h2
theorem es_tup (h : Ed X B ρ e (tP X.K Ps)) : Es X B ρ tg e Ps := ⟨_, pi_tup we_pe, fun σ G H eg k R z => h σ G H eg k _ fun v H2 s r => by
  obtain ⟨t, xs, rfl, h1, h2⟩ := r
  exact ⟨t, rfl, ⟨xs, sqt_up (ext_same eg s).1 h1⟩, z _ H2 s (wkd_tup h1 h2)⟩⟩
theorem es_list (h : Ed X B ρ e (lP X.K Ps)) : Es X B ρ tg e Ps := ⟨_, pi_list we_pe, fun σ G H eg k R z => h σ G H eg k _ fun v H2 s r => by
  obtain ⟨t, xs, rfl, h1, h2⟩ := r
  exact ⟨t, rfl, ⟨xs, sql_up (ext_same eg s).1 h1⟩, z _ H2 s (wkd_list h1 h2)⟩⟩
theorem es_tupd {ds : List PyData} (h : Ed X B ρ e (dP X.K (.tuple ds))) : Es X B ρ tg e (ds.map (dP X.K)) := es_tup (h.imp imp_td)
theorem es_listd {ds : List PyData} (h : Ed X B ρ e (dP X.K (.list ds))) : Es X B ρ tg e (ds.map (dP X.K)) := es_list (h.imp imp_ld)
theorem es_tupM {α : Type} {xs : List α} {g : α → PyData} (h : Ed X B ρ e (dP X.K (.tuple (xs.map g)))) : Es X B ρ tg e (xs.map fun x => dP X.K (g x)) := by
  have z : Es X B ρ tg e ((xs.map g).map (dP X.K)) := es_tupd h
  rw [List.map_map] at z
  exact z
theorem es_listM {α : Type} {xs : List α} {g : α → PyData} (h : Ed X B ρ e (dP X.K (.list (xs.map g)))) : Es X B ρ tg e (xs.map fun x => dP X.K (g x)) := by
  have z : Es X B ρ tg e ((xs.map g).map (dP X.K)) := es_listd h
  rw [List.map_map] at z
  exact z
end
/-! ### comprehensions -/
def Ets (X : Cx) (B : List Addr) (ρ : Rho) (ifs : List Expr) (b : Bool) : Prop := ∀ (σ : L2.St) (G H : Hp), OkB B G H → Kn σ G ρ → ∀ Q : Bool → Hp → Prop, (∀ H2, Stp B H H2 → Q b H2) → ∀ (pins : List (Addr × Obj)) (s : Shared), Inv X pins σ H s →
  wpAny (model X.prog X.w) X.A (forIn ifs true fun c r => if r = true then do let ok ← isTrue c X.env (eval c X.env); pure (ForInStep.yield ok) else pure (ForInStep.yield r)) (TP X pins σ Q) X.xe s
theorem ets_nil {X : Cx} {B : List Addr} {ρ : Rho} : Ets X B ρ [] true := fun σ G H eg k Q z pins s I => pts_nil.run pins s σ H Q I (z H (Stp.refl H))
theorem ets_one {X : Cx} {B : List Addr} {ρ : Rho} {c : Expr} {b : Bool} (h : Et X B ρ c b) : Ets X B ρ [c] b := fun σ G H eg k Q z pins s I => (pts_one wt_pt).run pins s σ H Q I (h σ G H eg k Q z)
section
variable {X : Cx} {B : List Addr} {ρ : Rho} {tg iter elt : Expr} {ifs : List Expr} {scope : Scope} {own : List (Str × Nat)} {pos p : Pos} {α : Type} {xs : List α} {Pi : α → Pr} {keep : α → Bool} {res : α → Pr}
/-- one turn, in the block's context -/
def Turn1 (X : Cx) (B : List Addr) (ρ : Rho) (scope : Scope) (vs : List Nat) (tg : Expr) (P : Pr) (ifs : List Expr) (elt : Expr) (k : Bool) (R : Pr) : Prop :=
  ∃ (is : List Nat) (ρ' : Rho), (∀ i ∈ is, i ∈ vs) ∧ ∀ (s : Shared) (H : Hp) (C : Addr) (cl : List (Str × Addr)) (fp : List Addr),
    Tg (X.blk s H scope (compEnvC scope cl C X.env) fp) (wipeR ρ vs) tg P is ρ' ∧ Ets (X.blk s H scope (compEnvC scope cl C X.env) fp) B ρ' ifs k ∧ (k = true → Ed (X.blk s H scope (compEnvC scope cl C X.env) fp) B ρ' elt R)
def bG (X : Cx) (scope : Scope) (tg : Expr) : TG := fun v σ H Q => ∀ (s : Shared) (H0 : Hp) (C : Addr) (cl : List (Str × Addr)) (fp : List Addr), WG (X.blk s H0 scope (compEnvC scope cl C X.env) fp) tg v σ H Q
def bT (X : Cx) (scope : Scope) (ifs : List Expr) : TT := fun σ H Q => ∀ (s : Shared) (H0 : Hp) (C : Addr) (cl : List (Str × Addr)) (fp : List Addr), ∀ (pins : List (Addr × Obj)) (s' : Shared), Inv (X.blk s H0 scope (compEnvC scope cl C X.env) fp) pins σ H s' →
  wpAny (model X.prog X.w) X.A (forIn ifs true fun c r => if r = true then do let ok ← isTrue c (compEnvC scope cl C X.env) (eval c (compEnvC scope cl C X.env)); pure (ForInStep.yield ok) else pure (ForInStep.yield r)) (TP (X.blk s H0 scope (compEnvC scope cl C X.env) fp) pins σ Q) (fun _ _ => False) s'
def bE (X : Cx) (scope : Scope) (elt : Expr) : TE := fun σ H Q => ∀ (s : Shared) (H0 : Hp) (C : Addr) (cl : List (Str × Addr)) (fp : List Addr), WE (X.blk s H0 scope (compEnvC scope cl C X.env) fp) elt σ H Q
theorem bG_pg (s : Shared) (H : Hp) (C : Addr) (cl : List (Str × Addr)) (fp : List Addr) : PG (X.blk s H scope (compEnvC scope cl C X.env) fp) tg (bG X scope tg) := ⟨fun pins s' σ H' v u Q I r h => h s H C cl fp pins s' u I r⟩
theorem bT_pt (s : Shared) (H : Hp) (C : Addr) (cl : List (Str × Addr)) (fp : List Addr) : PTs (X.blk s H scope (compEnvC scope cl C X.env) fp) ifs (bT X scope ifs) := ⟨fun pins s' σ H' Q I h => h s H C cl fp pins s' I⟩
theorem bE_pe (s : Shared) (H : Hp) (C : Addr) (cl : List (Str × Addr)) (fp : List Addr) : PE (X.blk s H scope (compEnvC scope cl C X.env) fp) elt (bE X scope elt) := ⟨fun pins s' σ H' Q I h => h s H C cl fp pins s' I⟩
theorem take_succ' {α : Type} {l : List α} {i : Nat} {x : α} (h : l[i]? = some x) : l.take (i + 1) = l.take i ++ [x] := by
  rw [List.take_succ, h]
  rfl
theorem wipe_wipe (σ : L2.St) (vs : List Nat) : wipe (wipe σ vs) vs = wipe σ vs := by
  have gen : ∀ (ws us : List Nat), (∀ u ∈ us, u ∈ ws) → wipe (wipe σ us) ws = wipe σ ws := by
    intro ws us
    induction us with
    | nil => intro _; rfl
    | cons u us ih =>
      intro hu
      show wipe ((wipe σ us).set u none) ws = _
      rw [wipe_set (hu u List.mem_cons_self)]
      exact ih fun v hv => hu v (List.mem_cons_of_mem _ hv)
  exact gen vs vs fun _ h => h
/-- the comprehension's reading -/
theorem lc_read {wi : TI} {σ : L2.St} {G H : Hp} {Q : VK} (eg : OkB B G H) (k : Kn σ G ρ) (hsrc : ∀ R : It → Hp → Prop, (∀ J H2, Stp B H H2 → WkD B J (xs.map Pi) (ext G H H2) → R J H2) → wi σ H R) (hz : xs.length ≤ 100000)
    (turn : ∀ x ∈ xs, Turn1 X B ρ scope (own.map (·.2)) tg (Pi x) ifs elt (keep x) (res x))
    (q : ∀ v H2, Stp B H H2 → (lP X.K ((xs.filter keep).map res)).p v (ext G H H2) → Q v H2) : tLc wi (bG X scope tg) (bT X scope ifs) (bE X scope elt) (own.map (·.2)) σ H Q := by
  refine hsrc _ fun J H1 s1 wk D hD => ?_
  have g1 : OkB B (ext G H H1) H1 := ext_same eg s1
  generalize hG1 : ext G H H1 = G1 at wk g1
  have kG1 : Kn σ G1 ρ := by
    rw [← hG1]
    exact k.up (ext_up eg)
  have hn : (xs.map Pi).length = xs.length := List.length_map ..
  have hDB : D ∉ B := g1.nb hD
  have hDG : G1 D = none := snone g1.1 hD
  refine lc_it (n := xs.length) (G := fun H' => Same G1 H' ∧ True) (Y := fun i H x H' => J.yld i H x H') ⟨fun i H' hi e => wk.goes i H' e.1 (by rw [hn]; exact hi), fun H' e => by
      have z := wk.stops H' e.1
      rw [hn] at z
      exact z, fun _ _ _ _ _ _ y => y⟩
    (fun i H' => ∃ (acc : List V) (Gi : Hp), H' D = some (.lst acc) ∧ OkB B Gi H' ∧ Gi D = none ∧ Same G1 Gi ∧ Stp B H1 H' ∧ (∀ a o, H1 a = some o → Gi a = G1 a) ∧ AllP (((xs.take i).filter keep).map res) acc Gi)
    ⟨[], G1, upd_same, g1.hid hDG hDB (fun _ h => nomatch h), hDG, Same.refl _, stp_new hD, fun _ _ _ => rfl, .nil⟩
    (fun i H' _ ⟨acc, Gi, _, h2, _, h4, _⟩ => ⟨h4.trans h2.1, trivial⟩) ?_ ?_
  · rintro i x H' H'' hi ⟨acc, Gi, a1, a2, a3, a4, a5, a6, a7⟩ y
    have hx : xs[i]? = some xs[i] := by simp [hi]
    generalize xs[i] = z at hx
    have hP : (xs.map Pi)[i]? = some (Pi z) := by rw [List.getElem?_map, hx]; rfl
    obtain ⟨y0, y2⟩ := wk.yields i H' x H'' _ (a4.trans a2.1) hP y
    have y1 : Stp B H' H'' := sstp y0
    obtain ⟨is, ρ', t1, t2⟩ := turn z (List.mem_of_getElem? hx)
    -- what is known at the turn
    have e1 : Same (ext G1 H' H'') (ext Gi H' H'') := fun b o h => by
      cases q : H' b with
      | some u =>
        rw [ext_some q] at h ⊢
        exact a4 b o h
      | none =>
        rw [ext_none q] at h ⊢
        exact h
    have g2 : OkB B (ext Gi H' H'') H'' := ext_same a2 y1
    have r2 : (Pi z).p x (ext Gi H' H'') := (Pi z).up e1 y2
    have D2 : ext Gi H' H'' D = none := by rw [ext_some a1]; exact a3
    have k2 : Kn (wipe σ (own.map (·.2))) (ext Gi H' H'') (wipeR ρ (own.map (·.2))) := (kG1.up (a4.trans (ext_up a2))).wipe _
    have o2 : ∀ a o, H1 a = some o → ext Gi H' H'' a = G1 a := fun a o h => by
      obtain ⟨o', h', _⟩ := a5 a o h
      rw [ext_some h']
      exact a6 a o h
    have G12 : Same G1 (ext Gi H' H'') := a4.trans (ext_up a2)
    have acc2 : AllP (((xs.take i).filter keep).map res) acc (ext Gi H' H'') := a7.up (ext_up a2)
    have H12 : Stp B H1 H'' := a5.trans y1
    have D3 : H'' D = some (.lst acc) := y1.at a1 hDB
    generalize ext Gi H' H'' = G2 at g2 r2 D2 k2 o2 G12 acc2
    have hlen : acc.length ≤ i := by
      rw [← acc2.len, List.length_map]
      exact Nat.le_trans (List.length_filter_le _ _) (by rw [List.length_take]; omega)
    refine fun s H0 C cl fp => (t2 s H0 C cl fp).1 x _ G2 H'' g2.1 k2 r2 _ fun σ2 w2 k3 => ?_
    refine ⟨(w2 _ t1).trans (wipe_wipe σ _), ?_⟩
    refine fun s H0 C cl fp => (t2 s H0 C cl fp).2.1 σ2 G2 H'' g2 k3 _ fun H3 s3 => ?_
    have cst : ∀ {H4 : Hp}, Stp B H'' H4 → (ext G2 H'' H4) D = none ∧ Same G1 (ext G2 H'' H4) ∧ ∀ a o, H1 a = some o → (ext G2 H'' H4) a = G1 a := fun {H4} s4 =>
      ⟨by rw [ext_some D3]; exact D2, G12.trans (ext_up g2), fun a o h => by
        obtain ⟨o', h', _⟩ := H12 a o h
        rw [ext_some h']
        exact o2 a o h⟩
    cases hk : keep z with
    | true =>
      rw [if_pos rfl]
      refine fun s H0 C cl fp => (t2 s H0 C cl fp).2.2 hk σ2 (ext G2 H'' H3) H3 (ext_same g2 s3) (k3.up (ext_up g2)) _ fun v H4 s4 r4 => ?_
      rw [ext_trans g2 s3 s4] at r4
      obtain ⟨c1, c2, c3⟩ := cst (s3.trans s4)
      refine ⟨acc, (s3.trans s4).at D3 hDB, Nat.lt_of_lt_of_le (Nat.lt_of_le_of_lt hlen hi) (small hz), acc ++ [v], ext G2 H'' H4, upd_same, (ext_same g2 (s3.trans s4)).hid c1 hDB (fun _ h => nomatch h), c1, c2, ((H12.trans s3).trans s4).hid hD, c3, ?_⟩
      rw [take_succ' hx, List.filter_append, List.map_append]
      have e2 : (([z] : List α).filter keep).map res = [res z] := by simp [hk]
      rw [e2]
      exact (acc2.up (ext_up g2)).snoc r4
    | false =>
      rw [if_neg Bool.false_ne_true]
      obtain ⟨c1, c2, c3⟩ := cst s3
      refine ⟨acc, ext G2 H'' H3, s3.at D3 hDB, ext_same g2 s3, c1, c2, H12.trans s3, c3, ?_⟩
      rw [take_succ' hx, List.filter_append, List.map_append]
      have e2 : (([z] : List α).filter keep).map res = [] := by simp [hk]
      rw [e2, List.append_nil]
      exact acc2.up (ext_up g2)
  · rintro H' ⟨acc, Gi, a1, a2, a3, a4, a5, a6, a7⟩
    refine q _ H' (s1.trans a5) ?_
    rw [← ext_trans eg s1 a5, hG1]
    rw [List.take_length] at a7
    refine ⟨D, acc, rfl, (by rw [ext_none hD]; exact a1), a7.up fun b o h => ?_⟩
    cases q : H1 b with
    | some u =>
      rw [ext_some q, ← a6 b u q]
      exact h
    | none =>
      rw [ext_none q]
      exact a2.1 b o h
theorem ed_comp (hc : X.calm = true) (hN : X.N.Nodup) (own : List (Str × Nat)) (ok : BlkOk X.N X.env.scope scope own) (xs : List α) (Pi : α → Pr) (keep : α → Bool) (res : α → Pr) (hsrc : Es X B ρ tg iter (xs.map Pi)) (hz : xs.length ≤ 100000)
    (turn : ∀ x ∈ xs, Turn1 X B ρ scope (own.map (·.2)) tg (Pi x) ifs elt (keep x) (res x)) (hs : ∀ x, foldedSetIterable iter X.env x = pure x := by intro _; rfl) : Ed X B ρ (.ListComp elt [⟨tg, iter, ifs, 0⟩] scope pos) (lP X.K ((xs.filter keep).map res)) := by
  obtain ⟨wi, h1, h2⟩ := hsrc
  exact fun σ G H eg k Q q => pe_we (pe_lc hc hN h1 ok bG_pg bT_pt bE_pe hs) (lc_read eg k (h2 σ G H eg k) hz turn q)
theorem ed_compD (hc : X.calm = true) (hN : X.N.Nodup) (own : List (Str × Nat)) (ok : BlkOk X.N X.env.scope scope own) (xs : List α) (Pi : α → Pr) (keep : α → Bool) (g : α → PyData) (hsrc : Es X B ρ tg iter (xs.map Pi)) (hz : xs.length ≤ 100000)
    (turn : ∀ x ∈ xs, Turn1 X B ρ scope (own.map (·.2)) tg (Pi x) ifs elt (keep x) (dP X.K (g x))) (hs : ∀ x, foldedSetIterable iter X.env x = pure x := by intro _; rfl) : Ed X B ρ (.ListComp elt [⟨tg, iter, ifs, 0⟩] scope pos) (dP X.K (.list ((xs.filter keep).map g))) := by
  have h := ed_comp (pos := pos) hc hN own ok xs Pi keep (fun x => dP X.K (g x)) hsrc hz turn hs
  have e : (xs.filter keep).map (fun x => dP X.K (g x)) = ((xs.filter keep).map g).map (dP X.K) := by
    rw [List.map_map]
    rfl
  rw [e] at h
  exact h.imp imp_dl
theorem ed_mapD (hc : X.calm = true) (hN : X.N.Nodup) (own : List (Str × Nat)) (ok : BlkOk X.N X.env.scope scope own) (xs : List α) (Pi : α → Pr) (g : α → PyData) (hsrc : Es X B ρ tg iter (xs.map Pi)) (hz : xs.length ≤ 100000)
    (turn : ∀ x ∈ xs, Turn1 X B ρ scope (own.map (·.2)) tg (Pi x) [] elt true (dP X.K (g x))) (hs : ∀ x, foldedSetIterable iter X.env x = pure x := by intro _; rfl) : Ed X B ρ (.ListComp elt [⟨tg, iter, [], 0⟩] scope pos) (dP X.K (.list (xs.map g))) := by
  have h := ed_compD (pos := pos) hc hN own ok xs Pi (fun _ => true) g hsrc hz turn hs
  have e : xs.filter (fun _ => true) = xs := List.filter_eq_self.mpr fun _ _ => rfl
  rw [e] at h
  exact h
/-- y = [..] -/
theorem ss_setLc {i : Nat} {y : Str} {py spos : Pos} (hc : X.calm = true) (hN : X.N.Nodup) (own : List (Str × Nat)) (hy : X.N[i]? = some y) (hyl : X.env.scope.names.lookup y = some .local) (hsw : swapsWith (.ListComp elt [⟨tg, iter, ifs, 0⟩] scope pos) (some (.Name y py)) spos.line X.env = pure true)
    (ok : BlkOk X.N X.env.scope scope own) (xs : List α) (Pi : α → Pr) (keep : α → Bool) (res : α → Pr) (hsrc : Es X B ρ tg iter (xs.map Pi)) (hz : xs.length ≤ 100000)
    (turn : ∀ x ∈ xs, Turn1 X B ρ scope (own.map (·.2)) tg (Pi x) ifs elt (keep x) (res x)) (hs : ∀ x, foldedSetIterable iter X.env x = pure x := by intro _; rfl) : Ss X B ρ (.Assign [.Name y py] (.ListComp elt [⟨tg, iter, ifs, 0⟩] scope pos) spos) (ρ.set i (some (lP X.K ((xs.filter keep).map res)))) := by
  obtain ⟨wi, h1, h2⟩ := hsrc
  exact fun σ G H eg k D q => ps_ws (ps_setLc hc hN hy hyl hsw h1 ok bG_pg bT_pt bE_pe hs) (lc_read eg k (h2 σ G H eg k) hz turn fun v H2 s r => q _ H2 s ((k.up (ext_up eg)).set i r))
end
theorem Ed.to {X : Cx} {B : List Addr} {ρ : Rho} {e : Expr} {P P' : Pr} (h : Ed X B ρ e P) (q : P = P') : Ed X B ρ e P' := q ▸ h
theorem Ed.d {X : Cx} {B : List Addr} {ρ : Rho} {e : Expr} {d d' : PyData} (h : Ed X B ρ e (dP X.K d)) (q : d = d') : Ed X B ρ e (dP X.K d') := q ▸ h
theorem ed_d {X : Cx} {B : List Addr} {ρ : Rho} {e : Expr} {d d' : PyData} (q : d = d') (h : Ed X B ρ e (dP X.K d)) : Ed X B ρ e (dP X.K d') := q ▸ h
theorem ed_p {X : Cx} {B : List Addr} {ρ : Rho} {e : Expr} {P P' : Pr} (q : P = P') (h : Ed X B ρ e P) : Ed X B ρ e P' := q ▸ h
theorem et_to {X : Cx} {B : List Addr} {ρ : Rho} {e : Expr} {d d' : Bool} (q : d = d') (h : Et X B ρ e d) : Et X B ρ e d' := q ▸ h
theorem ed_i {X : Cx} {B : List Addr} {ρ : Rho} {e : Expr} {P P' : Pr} (q : Imp P P') (h : Ed X B ρ e P) : Ed X B ρ e P' := h.imp q
/-! ### defs -/
/-- the block ends, by a return or at its end -/
def Sb (X : Cx) (B : List Addr) (ρ : Rho) (sts : List Stmt) (P : Pr) : Prop := ∀ (σ : L2.St) (G H : Hp), OkB B G H → Kn σ G ρ → ∀ D : Ends, (∀ v H2, Stp B H H2 → P.p v (ext G H H2) → D.rt v H2) → (∀ σ' H2, Stp B H H2 → P.p .non (ext G H H2) → D.nx σ' H2) → WB X sts D σ H
theorem Sr.b {X : Cx} {B : List Addr} {ρ : Rho} {sts : List Stmt} {P : Pr} (h : Sr X B ρ sts P) : Sb X B ρ sts P := fun σ G H eg k D q _ => h σ G H eg k D q
theorem Sn.b {X : Cx} {B : List Addr} {ρ ρ' : Rho} {sts : List Stmt} (h : Sn X B ρ sts ρ') : Sb X B ρ sts (dP X.K .none) := fun σ G H eg k D _ q => h σ G H eg k D fun σ' H2 s k' => q σ' H2 s .non
def rho0 (N : List Str) (Ps : List Pr) : Rho := Ps.map some ++ List.replicate (N.length - Ps.length) none
theorem kn_start {N : List Str} {Ps : List Pr} {vs : List V} {G : Hp} (r : AllP Ps vs G) : Kn (L2.start N vs) G (rho0 N Ps) := by
  unfold L2.start rho0
  refine ⟨by rw [List.length_append, List.length_append, List.length_map, List.length_map, List.length_replicate, List.length_replicate, r.len], fun i P h => ?_⟩
  by_cases hi : i < Ps.length
  · rw [List.getElem?_append_left (by rw [List.length_map]; exact hi), List.getElem?_map] at h
    cases e : Ps[i]? with
    | none =>
      rw [e] at h
      cases h
    | some P' =>
      rw [e] at h
      cases h
      obtain ⟨v, h1, h2⟩ := r.get e
      refine ⟨v, ?_, h2⟩
      rw [List.getElem?_append_left (by rw [List.length_map, ← r.len]; exact hi), List.getElem?_map, h1]
      rfl
  · rw [List.getElem?_append_right (by rw [List.length_map]; omega), List.getElem?_replicate] at h
    split at h <;> cases h
section
variable {P : Program} {w : World} {K : PySem.W.Frag} {mg : Str → Option Value} {base : Heap}
theorem cal_mkB {α : Type} {bx : α → List Addr} {pre : α → Prop} {As : α → List Pr} {R : α → Pr} {x qual : Str} {params : Arguments} {body : List Stmt} {scope : Scope} {f : Addr} {fd : FuncData} {N ps : List Str} {k : Nat} (F : FunD K x qual params body scope [] [] f fd) (S : FnScope N ps scope)
    (hm : mg x = some (.ref f)) (hb : Binds K fd ps []) (hl : ∀ z, (As z).length = ps.length)
    (h : ∀ (cdv : Value) (A : Around) (outer : List Env) (s : Shared) (H : Hp) (E : XK), Room k (A.deeper (envOfC qual scope s.heap.objs.size f cdv)) → ∀ z, pre z → Sb (cxOf CX0 P w K mg base N qual scope f cdv A outer s H E).nox (bx z) (rho0 N (As z)) body (R z)) :
    Cal P w K mg base (k + 1) x ps (spB bx pre As R) := by
  refine ⟨f, fd, hm, F.kp, hb, F.ok S (fun vs H Q E hq => ?_) fun cdv A outer s H vs Q E hr hq => ?_⟩
  · obtain ⟨z, G, _, _, r, _⟩ := hq
    rw [← r.len, hl]
  · obtain ⟨z, G, hz, eg, r, q⟩ := hq
    exact ⟨_, PSs.nox wb_ps, h cdv A outer s H E hr z hz (L2.start N vs) G H eg (kn_start r) _ q fun σ' H2 s hn => q .non H2 s hn⟩
theorem cal_mk {α : Type} {pre : α → Prop} {As : α → List Pr} {R : α → Pr} {x qual : Str} {params : Arguments} {body : List Stmt} {scope : Scope} {f : Addr} {fd : FuncData} {N ps : List Str} {k : Nat} (F : FunD K x qual params body scope [] [] f fd) (S : FnScope N ps scope)
    (hm : mg x = some (.ref f)) (hb : Binds K fd ps []) (hl : ∀ z, (As z).length = ps.length)
    (h : ∀ (cdv : Value) (A : Around) (outer : List Env) (s : Shared) (H : Hp) (E : XK), Room k (A.deeper (envOfC qual scope s.heap.objs.size f cdv)) → ∀ z, pre z → Sb (cxOf CX0 P w K mg base N qual scope f cdv A outer s H E).nox [] (rho0 N (As z)) body (R z)) :
    Cal P w K mg base (k + 1) x ps (spP pre As R) := cal_mkB F S hm hb hl h
end
end Lk

/-! Tx: the program's text by places, its scopes; what the walk asks of the top. Printed by gentx.py. -/
namespace Lk
open PySem PySem.Spec PyProof.Rows L2
def top (i : Nat) : Stmt := PySem.Challenge.pw_laidmarks_k62_whole_books.main.body.getD i (.Pass ⟨0, 0, 0, 0⟩)
abbrev s_is_whole : Stmt := top 25
abbrev n_is_whole : List Str := ["thing", "low", "high"]
theorem sc_is_whole : FnScope n_is_whole ["thing", "low", "high"] (defScope s_is_whole) := ⟨rfl, rfl, rfl, by decide +kernel, rfl, by decide +kernel, by decide +kernel⟩
abbrev s_is_column : Stmt := top 26
abbrev n_is_column : List Str := ["thing", "rows", "depth"]
theorem sc_is_column : FnScope n_is_column ["thing", "rows"] (defScope s_is_column) := ⟨rfl, rfl, rfl, by decide +kernel, rfl, by decide +kernel, by decide +kernel⟩
abbrev s_is_sea : Stmt := top 27
abbrev n_is_sea : List Str := ["thing", "column"]
theorem sc_is_sea : FnScope n_is_sea ["thing"] (defScope s_is_sea) := ⟨rfl, rfl, rfl, by decide +kernel, rfl, by decide +kernel, by decide +kernel⟩
abbrev s_need_sea : Stmt := top 28
abbrev n_need_sea : List Str := ["sea"]
theorem sc_need_sea : FnScope n_need_sea ["sea"] (defScope s_need_sea) := ⟨rfl, rfl, rfl, by decide +kernel, rfl, by decide +kernel, by decide +kernel⟩
abbrev s_is_cell : Stmt := top 29
abbrev n_is_cell : List Str := ["sea", "thing"]
theorem sc_is_cell : FnScope n_is_cell ["sea", "thing"] (defScope s_is_cell) := ⟨rfl, rfl, rfl, by decide +kernel, rfl, by decide +kernel, by decide +kernel⟩
abbrev s_need_draught : Stmt := top 30
abbrev n_need_draught : List Str := ["draught"]
theorem sc_need_draught : FnScope n_need_draught ["draught"] (defScope s_need_draught) := ⟨rfl, rfl, rfl, by decide +kernel, rfl, by decide +kernel, by decide +kernel⟩
abbrev s_need_day : Stmt := top 31
abbrev n_need_day : List Str := ["day"]
theorem sc_need_day : FnScope n_need_day ["day"] (defScope s_need_day) := ⟨rfl, rfl, rfl, by decide +kernel, rfl, by decide +kernel, by decide +kernel⟩
abbrev s_depth_at : Stmt := top 32
abbrev n_depth_at : List Str := ["sea", "cell"]
theorem sc_depth_at : FnScope n_depth_at ["sea", "cell"] (defScope s_depth_at) := ⟨rfl, rfl, rfl, by decide +kernel, rfl, by decide +kernel, by decide +kernel⟩
abbrev s_with_depth : Stmt := top 33
abbrev n_with_depth : List Str := ["sea", "cell", "depth", "column", "row", "fresh"]
theorem sc_with_depth : FnScope n_with_depth ["sea", "cell", "depth"] (defScope s_with_depth) := ⟨rfl, rfl, rfl, by decide +kernel, rfl, by decide +kernel, by decide +kernel⟩
abbrev s_waters_beside : Stmt := top 34
abbrev n_waters_beside : List Str := ["sea", "cell", "column", "row", "some", "one"]
theorem sc_waters_beside : FnScope n_waters_beside ["sea", "cell"] (defScope s_waters_beside) := ⟨rfl, rfl, rfl, by decide +kernel, rfl, by decide +kernel, by decide +kernel⟩
abbrev s_drifted : Stmt := top 35
abbrev n_drifted : List Str := ["sea", "cell", "days", "found", "ring", "left", "fresh", "one", "near"]
theorem sc_drifted : FnScope n_drifted ["sea", "cell", "days"] (defScope s_drifted) := ⟨rfl, rfl, rfl, by decide +kernel, rfl, by decide +kernel, by decide +kernel⟩
abbrev s_is_mark : Stmt := top 41
abbrev n_is_mark : List Str := ["thing"]
theorem sc_is_mark : FnScope n_is_mark ["thing"] (defScope s_is_mark) := ⟨rfl, rfl, rfl, by decide +kernel, rfl, by decide +kernel, by decide +kernel⟩
abbrev s_is_laying : Stmt := top 42
abbrev n_is_laying : List Str := ["sea", "deed"]
theorem sc_is_laying : FnScope n_is_laying ["sea", "deed"] (defScope s_is_laying) := ⟨rfl, rfl, rfl, by decide +kernel, rfl, by decide +kernel, by decide +kernel⟩
abbrev s_is_deed : Stmt := top 43
abbrev n_is_deed : List Str := ["sea", "thing"]
theorem sc_is_deed : FnScope n_is_deed ["sea", "thing"] (defScope s_is_deed) := ⟨rfl, rfl, rfl, by decide +kernel, rfl, by decide +kernel, by decide +kernel⟩
abbrev s_notice_in : Stmt := top 44
abbrev n_notice_in : List Str := ["sea", "thing"]
theorem sc_notice_in : FnScope n_notice_in ["sea", "thing"] (defScope s_notice_in) := ⟨rfl, rfl, rfl, by decide +kernel, rfl, by decide +kernel, by decide +kernel⟩
abbrev s_notices_in : Stmt := top 45
abbrev n_notices_in : List Str := ["sea", "thing", "notice"]
theorem sc_notices_in : FnScope n_notices_in ["sea", "thing"] (defScope s_notices_in) := ⟨rfl, rfl, rfl, by decide +kernel, rfl, by decide +kernel, by decide +kernel⟩
abbrev s_need_notices : Stmt := top 46
abbrev n_need_notices : List Str := ["sea", "notices"]
theorem sc_need_notices : FnScope n_need_notices ["sea", "notices"] (defScope s_need_notices) := ⟨rfl, rfl, rfl, by decide +kernel, rfl, by decide +kernel, by decide +kernel⟩
abbrev s_need_held : Stmt := top 47
abbrev n_need_held : List Str := ["held"]
theorem sc_need_held : FnScope n_need_held ["held"] (defScope s_need_held) := ⟨rfl, rfl, rfl, by decide +kernel, rfl, by decide +kernel, by decide +kernel⟩
abbrev s_order_of : Stmt := top 48
abbrev n_order_of : List Str := ["notice"]
theorem sc_order_of : FnScope n_order_of ["notice"] (defScope s_order_of) := ⟨rfl, rfl, rfl, by decide +kernel, rfl, by decide +kernel, by decide +kernel⟩
abbrev s_held_notices : Stmt := top 49
abbrev n_held_notices : List Str := ["notices", "held", "notice"]
theorem sc_held_notices : FnScope n_held_notices ["notices", "held"] (defScope s_held_notices) := ⟨rfl, rfl, rfl, by decide +kernel, rfl, by decide +kernel, by decide +kernel⟩
abbrev s_with_mark : Stmt := top 51
abbrev n_with_mark : List Str := ["marks", "mark", "thing", "found"]
theorem sc_with_mark : FnScope n_with_mark ["marks", "mark", "thing"] (defScope s_with_mark) := ⟨rfl, rfl, rfl, by decide +kernel, rfl, by decide +kernel, by decide +kernel⟩
abbrev s_laid : Stmt := top 52
abbrev n_laid : List Str := ["state", "day", "deed", "sea", "marks", "word", "mark", "cell", "shape", "colour", "sinker", "lit"]
theorem sc_laid : FnScope n_laid ["state", "day", "deed"] (defScope s_laid) := ⟨rfl, rfl, rfl, by decide +kernel, rfl, by decide +kernel, by decide +kernel⟩
abbrev s_lifted : Stmt := top 53
abbrev n_lifted : List Str := ["state", "day", "deed", "sea", "marks", "mark"]
theorem sc_lifted : FnScope n_lifted ["state", "day", "deed"] (defScope s_lifted) := ⟨rfl, rfl, rfl, by decide +kernel, rfl, by decide +kernel, by decide +kernel⟩
abbrev s_blown : Stmt := top 54
abbrev n_blown : List Str := ["state", "day", "deed", "sea", "marks", "found", "mark", "word", "cell", "look", "rest"]
theorem sc_blown : FnScope n_blown ["state", "day", "deed"] (defScope s_blown) := ⟨rfl, rfl, rfl, by decide +kernel, rfl, by decide +kernel, by decide +kernel⟩
abbrev s_cells_of : Stmt := top 55
abbrev n_cells_of : List Str := ["sea", "one", "day", "word", "cell", "look", "since"]
theorem sc_cells_of : FnScope n_cells_of ["sea", "one", "day"] (defScope s_cells_of) := ⟨rfl, rfl, rfl, by decide +kernel, rfl, by decide +kernel, by decide +kernel⟩
abbrev s_sighted : Stmt := top 56
abbrev n_sighted : List Str := ["state", "day", "deed", "sea", "marks", "word", "mark", "cell"]
theorem sc_sighted : FnScope n_sighted ["state", "day", "deed"] (defScope s_sighted) := ⟨rfl, rfl, rfl, by decide +kernel, rfl, by decide +kernel, by decide +kernel⟩
abbrev s_sounded : Stmt := top 57
abbrev n_sounded : List Str := ["state", "day", "deed"]
theorem sc_sounded : FnScope n_sounded ["state", "day", "deed"] (defScope s_sounded) := ⟨rfl, rfl, rfl, by decide +kernel, rfl, by decide +kernel, by decide +kernel⟩
abbrev s_gone_through : Stmt := top 59
abbrev n_gone_through : List Str := ["sea", "notices", "held", "last", "state", "voids", "number", "day", "deed", "found"]
theorem sc_gone_through : FnScope n_gone_through ["sea", "notices", "held", "last"] (defScope s_gone_through) := ⟨rfl, rfl, rfl, by decide +kernel, rfl, by decide +kernel, by decide +kernel⟩
abbrev s_void : Stmt := top 60
abbrev n_void : List Str := ["sea", "notices", "held"]
theorem sc_void : FnScope n_void ["sea", "notices", "held"] (defScope s_void) := ⟨rfl, rfl, rfl, by decide +kernel, rfl, by decide +kernel, by decide +kernel⟩
abbrev s_need_known : Stmt := top 61
abbrev n_need_known : List Str := ["sea", "notices", "held", "day"]
theorem sc_need_known : FnScope n_need_known ["sea", "notices", "held", "day"] (defScope s_need_known) := ⟨rfl, rfl, rfl, by decide +kernel, rfl, by decide +kernel, by decide +kernel⟩
abbrev s_place_of : Stmt := top 62
abbrev n_place_of : List Str := ["known", "mark", "day", "sea", "marks", "voids"]
theorem sc_place_of : FnScope n_place_of ["known", "mark", "day"] (defScope s_place_of) := ⟨rfl, rfl, rfl, by decide +kernel, rfl, by decide +kernel, by decide +kernel⟩
abbrev s_mark_at : Stmt := top 63
abbrev n_mark_at : List Str := ["sea", "notices", "held", "day", "mark"]
theorem sc_mark_at : FnScope n_mark_at ["sea", "notices", "held", "day", "mark"] (defScope s_mark_at) := ⟨rfl, rfl, rfl, by decide +kernel, rfl, by decide +kernel, by decide +kernel⟩
abbrev s_standing_by : Stmt := top 64
abbrev n_standing_by : List Str := ["known", "marks", "mark"]
theorem sc_standing_by : FnScope n_standing_by ["known"] (defScope s_standing_by) := ⟨rfl, rfl, rfl, by decide +kernel, rfl, by decide +kernel, by decide +kernel⟩
abbrev s_counting : Stmt := top 66
abbrev n_counting : List Str := ["known", "night", "one"]
theorem sc_counting : FnScope n_counting ["known", "night"] (defScope s_counting) := ⟨rfl, rfl, rfl, by decide +kernel, rfl, by decide +kernel, by decide +kernel⟩
abbrev s_is_wrong : Stmt := top 67
abbrev n_is_wrong : List Str := ["one", "cell", "mark", "place", "look"]
theorem sc_is_wrong : FnScope n_is_wrong ["one", "cell"] (defScope s_is_wrong) := ⟨rfl, rfl, rfl, by decide +kernel, rfl, by decide +kernel, by decide +kernel⟩
abbrev s_open_rows : Stmt := top 68
abbrev n_open_rows : List Str := ["known", "draught", "night", "sea", "some", "found", "column", "depths", "rows", "row", "depth", "one"]
theorem sc_open_rows : FnScope n_open_rows ["known", "draught", "night"] (defScope s_open_rows) := ⟨rfl, rfl, rfl, by decide +kernel, rfl, by decide +kernel, by decide +kernel⟩
abbrev s_channel_of : Stmt := top 69
abbrev n_channel_of : List Str := ["sea", "notices", "held", "day", "draught", "night"]
theorem sc_channel_of : FnScope n_channel_of ["sea", "notices", "held", "day", "draught", "night"] (defScope s_channel_of) := ⟨rfl, rfl, rfl, by decide +kernel, rfl, by decide +kernel, by decide +kernel⟩
abbrev s_Book_init : Stmt := inClass (top 71) 0
abbrev n_Book_init : List Str := ["self", "sea"]
theorem sc_Book_init : FnScope n_Book_init ["self", "sea"] (defScope s_Book_init) := ⟨rfl, rfl, rfl, by decide +kernel, rfl, by decide +kernel, by decide +kernel⟩
abbrev s_Book_become : Stmt := inClass (top 71) 1
abbrev n_Book_become : List Str := ["self", "kept"]
theorem sc_Book_become : FnScope n_Book_become ["self", "kept"] (defScope s_Book_become) := ⟨rfl, rfl, rfl, by decide +kernel, rfl, by decide +kernel, by decide +kernel⟩
abbrev s_Book_take_in : Stmt := inClass (top 71) 2
abbrev n_Book_take_in : List Str := ["self", "notice", "one"]
theorem sc_Book_take_in : FnScope n_Book_take_in ["self", "notice"] (defScope s_Book_take_in) := ⟨rfl, rfl, rfl, by decide +kernel, rfl, by decide +kernel, by decide +kernel⟩
abbrev s_Book_strike : Stmt := inClass (top 71) 3
abbrev n_Book_strike : List Str := ["self", "number", "one"]
theorem sc_Book_strike : FnScope n_Book_strike ["self", "number"] (defScope s_Book_strike) := ⟨rfl, rfl, rfl, by decide +kernel, rfl, by decide +kernel, by decide +kernel⟩
abbrev s_Book_undo : Stmt := inClass (top 71) 4
abbrev n_Book_undo : List Str := ["self"]
theorem sc_Book_undo : FnScope n_Book_undo ["self"] (defScope s_Book_undo) := ⟨rfl, rfl, rfl, by decide +kernel, rfl, by decide +kernel, by decide +kernel⟩
abbrev s_Book_notices_now : Stmt := inClass (top 71) 5
abbrev n_Book_notices_now : List Str := ["self"]
theorem sc_Book_notices_now : FnScope n_Book_notices_now ["self"] (defScope s_Book_notices_now) := ⟨rfl, rfl, rfl, by decide +kernel, rfl, by decide +kernel, by decide +kernel⟩
abbrev s_Book_mark_now : Stmt := inClass (top 71) 6
abbrev n_Book_mark_now : List Str := ["self", "held", "day", "mark"]
theorem sc_Book_mark_now : FnScope n_Book_mark_now ["self", "held", "day", "mark"] (defScope s_Book_mark_now) := ⟨rfl, rfl, rfl, by decide +kernel, rfl, by decide +kernel, by decide +kernel⟩
abbrev s_Book_channel_now : Stmt := inClass (top 71) 7
abbrev n_Book_channel_now : List Str := ["self", "held", "day", "draught", "night"]
theorem sc_Book_channel_now : FnScope n_Book_channel_now ["self", "held", "day", "draught", "night"] (defScope s_Book_channel_now) := ⟨rfl, rfl, rfl, by decide +kernel, rfl, by decide +kernel, by decide +kernel⟩
abbrev s_Book_void_now : Stmt := inClass (top 71) 8
abbrev n_Book_void_now : List Str := ["self", "held"]
theorem sc_Book_void_now : FnScope n_Book_void_now ["self", "held"] (defScope s_Book_void_now) := ⟨rfl, rfl, rfl, by decide +kernel, rfl, by decide +kernel, by decide +kernel⟩
abbrev s__law_cell : Stmt := top 73
abbrev n__law_cell : List Str := ["_law_script", "_law_k"]
theorem sc__law_cell : FnScope n__law_cell ["_law_script", "_law_k"] (defScope s__law_cell) := ⟨rfl, rfl, rfl, by decide +kernel, rfl, by decide +kernel, by decide +kernel⟩
abbrev s__law_mix : Stmt := top 74
abbrev n__law_mix : List Str := ["_law_cell_here", "_law_k", "_law_some", "_law_stir"]
theorem sc__law_mix : FnScope n__law_mix ["_law_cell_here", "_law_k"] (defScope s__law_mix) := ⟨rfl, rfl, rfl, by decide +kernel, rfl, by decide +kernel, by decide +kernel⟩
abbrev s__law_box : Stmt := top 75
abbrev n__law_box : List Str := ["_law_script", "_law_k", "_law_lap", "_law_cell_here", "_law_number", "_law_j"]
theorem sc__law_box : FnScope n__law_box ["_law_script", "_law_k", "_law_lap"] (defScope s__law_box) := ⟨rfl, rfl, rfl, by decide +kernel, rfl, by decide +kernel, by decide +kernel⟩
abbrev s__law_take : Stmt := top 76
abbrev n__law_take : List Str := ["_law_box_here", "_law_count", "_law_left", "_law_digit"]
theorem sc__law_take : FnScope n__law_take ["_law_box_here", "_law_count"] (defScope s__law_take) := ⟨rfl, rfl, rfl, by decide +kernel, rfl, by decide +kernel, by decide +kernel⟩
abbrev s__law_sea : Stmt := top 77
abbrev n__law_sea : List Str := ["_law_box_here", "_law_most", "_law_count", "_law_high", "_law_columns", "_law_column", "_law_row"]
theorem sc__law_sea : FnScope n__law_sea ["_law_box_here", "_law_most"] (defScope s__law_sea) := ⟨rfl, rfl, rfl, by decide +kernel, rfl, by decide +kernel, by decide +kernel⟩
abbrev s__law_spot : Stmt := top 78
abbrev n__law_spot : List Str := ["_law_box_here", "_law_sea_here"]
theorem sc__law_spot : FnScope n__law_spot ["_law_box_here", "_law_sea_here"] (defScope s__law_spot) := ⟨rfl, rfl, rfl, by decide +kernel, rfl, by decide +kernel, by decide +kernel⟩
abbrev s__law_deed : Stmt := top 79
abbrev n__law_deed : List Str := ["_law_box_here", "_law_sea_here", "_law_mark", "_law_way", "_law_cell_here", "_law_few", "_law_some"]
theorem sc__law_deed : FnScope n__law_deed ["_law_box_here", "_law_sea_here"] (defScope s__law_deed) := ⟨rfl, rfl, rfl, by decide +kernel, rfl, by decide +kernel, by decide +kernel⟩
abbrev s__law_notices : Stmt := top 80
abbrev n__law_notices : List Str := ["_law_box_here", "_law_sea_here", "_law_most", "_law_found", "_law_last", "_law_turn", "_law_rows", "_law_number", "_law_order_here"]
theorem sc__law_notices : FnScope n__law_notices ["_law_box_here", "_law_sea_here", "_law_most"] (defScope s__law_notices) := ⟨rfl, rfl, rfl, by decide +kernel, rfl, by decide +kernel, by decide +kernel⟩
abbrev s__law_which : Stmt := top 81
abbrev n__law_which : List Str := ["_law_e", "_law_marks", "_law_names"]
theorem sc__law_which : FnScope n__law_which ["_law_e"] (defScope s__law_which) := ⟨rfl, rfl, rfl, by decide +kernel, rfl, by decide +kernel, by decide +kernel⟩
abbrev s__law_said : Stmt := top 82
abbrev n__law_said : List Str := ["_law_call", "_law_e"]
theorem sc__law_said : FnScope n__law_said ["_law_call"] (defScope s__law_said) := ⟨rfl, rfl, rfl, by decide +kernel, rfl, by decide +kernel, by decide +kernel⟩
abbrev s__law_shown : Stmt := top 83
abbrev n__law_shown : List Str := ["_law_book", "_law_days", "_law_found", "_law_day", "_law_mark", "_law_held"]
theorem sc__law_shown : FnScope n__law_shown ["_law_book", "_law_days"] (defScope s__law_shown) := ⟨rfl, rfl, rfl, by decide +kernel, rfl, by decide +kernel, by decide +kernel⟩
abbrev s__law_order : Stmt := top 84
abbrev n__law_order : List Str := ["_law_box_here", "_law_things", "_law_left", "_law_found"]
theorem sc__law_order : FnScope n__law_order ["_law_box_here", "_law_things"] (defScope s__law_order) := ⟨rfl, rfl, rfl, by decide +kernel, rfl, by decide +kernel, by decide +kernel⟩
abbrev s__law_filled : Stmt := top 85
abbrev n__law_filled : List Str := ["_law_box_here", "_law_sea_here", "_law_notices_here", "_law_more", "_law_book", "_law_other", "_law_notice"]
theorem sc__law_filled : FnScope n__law_filled ["_law_box_here", "_law_sea_here", "_law_notices_here", "_law_more"] (defScope s__law_filled) := ⟨rfl, rfl, rfl, by decide +kernel, rfl, by decide +kernel, by decide +kernel⟩
abbrev s__law_right : Stmt := top 86
abbrev n__law_right : List Str := ["_law_box_here", "_law_sea_here", "_law_notices_here", "_law_notice", "_law_days", "_law_some", "_law_more", "_law_shown_here", "_law_book", "_law_held", "_law_early", "_law_day", "_law_one"]
theorem sc__law_right : FnScope n__law_right ["_law_box_here"] (defScope s__law_right) := ⟨rfl, rfl, rfl, by decide +kernel, rfl, by decide +kernel, by decide +kernel⟩
abbrev s_law : Stmt := top 87
abbrev n_law : List Str := ["_law_script", "_law_k", "_law_lap"]
theorem sc_law : FnScope n_law ["_law_script"] (defScope s_law) := ⟨rfl, rfl, rfl, by decide +kernel, rfl, by decide +kernel, by decide +kernel⟩
/-- the module's name x is the def st -/
def DefT (K : PySem.W.Frag) (mg : Str → Option Value) (x : Str) (st : Stmt) : Prop := ∃ (f : Addr) (fd : FuncData), mg x = some (.ref f) ∧ FunD K x x (defArgs st) (defBody st) (defScope st) [] [] f fd
/-- the class at C has the def st as its method m -/
def MetT (K : PySem.W.Frag) (C : Addr) (m qual : Str) (st : Stmt) : Prop := ∃ (f : Addr) (fd : FuncData), Meth K C m f ∧ FunD K m qual (defArgs st) (defBody st) (defScope st) [] [] f fd
structure TX (K : PySem.W.Frag) (mg : Str → Option Value) : Prop where
  f_is_whole : DefT K mg "is_whole" s_is_whole
  f_is_column : DefT K mg "is_column" s_is_column
  f_is_sea : DefT K mg "is_sea" s_is_sea
  f_need_sea : DefT K mg "need_sea" s_need_sea
  f_is_cell : DefT K mg "is_cell" s_is_cell
  f_need_draught : DefT K mg "need_draught" s_need_draught
  f_need_day : DefT K mg "need_day" s_need_day
  f_depth_at : DefT K mg "depth_at" s_depth_at
  f_with_depth : DefT K mg "with_depth" s_with_depth
  f_waters_beside : DefT K mg "waters_beside" s_waters_beside
  f_drifted : DefT K mg "drifted" s_drifted
  f_is_mark : DefT K mg "is_mark" s_is_mark
  f_is_laying : DefT K mg "is_laying" s_is_laying
  f_is_deed : DefT K mg "is_deed" s_is_deed
  f_notice_in : DefT K mg "notice_in" s_notice_in
  f_notices_in : DefT K mg "notices_in" s_notices_in
  f_need_notices : DefT K mg "need_notices" s_need_notices
  f_need_held : DefT K mg "need_held" s_need_held
  f_order_of : DefT K mg "order_of" s_order_of
  f_held_notices : DefT K mg "held_notices" s_held_notices
  f_with_mark : DefT K mg "with_mark" s_with_mark
  f_laid : DefT K mg "laid" s_laid
  f_lifted : DefT K mg "lifted" s_lifted
  f_blown : DefT K mg "blown" s_blown
  f_cells_of : DefT K mg "cells_of" s_cells_of
  f_sighted : DefT K mg "sighted" s_sighted
  f_sounded : DefT K mg "sounded" s_sounded
  f_gone_through : DefT K mg "gone_through" s_gone_through
  f_void : DefT K mg "void" s_void
  f_need_known : DefT K mg "need_known" s_need_known
  f_place_of : DefT K mg "place_of" s_place_of
  f_mark_at : DefT K mg "mark_at" s_mark_at
  f_standing_by : DefT K mg "standing_by" s_standing_by
  f_counting : DefT K mg "counting" s_counting
  f_is_wrong : DefT K mg "is_wrong" s_is_wrong
  f_open_rows : DefT K mg "open_rows" s_open_rows
  f_channel_of : DefT K mg "channel_of" s_channel_of
  f__law_cell : DefT K mg "_law_cell" s__law_cell
  f__law_mix : DefT K mg "_law_mix" s__law_mix
  f__law_box : DefT K mg "_law_box" s__law_box
  f__law_take : DefT K mg "_law_take" s__law_take
  f__law_sea : DefT K mg "_law_sea" s__law_sea
  f__law_spot : DefT K mg "_law_spot" s__law_spot
  f__law_deed : DefT K mg "_law_deed" s__law_deed
  f__law_notices : DefT K mg "_law_notices" s__law_notices
  f__law_which : DefT K mg "_law_which" s__law_which
  f__law_said : DefT K mg "_law_said" s__law_said
  f__law_shown : DefT K mg "_law_shown" s__law_shown
  f__law_order : DefT K mg "_law_order" s__law_order
  f__law_filled : DefT K mg "_law_filled" s__law_filled
  f__law_right : DefT K mg "_law_right" s__law_right
  f_law : DefT K mg "law" s_law
  z_isinstance : mg "isinstance" = none
  z_len : mg "len" = none
  z_all : mg "all" = none
  z_any : mg "any" = none
  z_sorted : mg "sorted" = none
  z_set : mg "set" = none
  z_tuple : mg "tuple" = none
  z_list : mg "list" = none
  z_dict : mg "dict" = none
  z_enumerate : mg "enumerate" = none
  z_range : mg "range" = none
  z_divmod : mg "divmod" = none
  z_int : mg "int" = none
  z_bool : mg "bool" = none
  z_str : mg "str" = none
  z_abs : mg "abs" = none
  z_min : mg "min" = none
  z_max : mg "max" = none
  z_repr : mg "repr" = none
  z_ValueError : mg "ValueError" = none
  i_MOST_COLUMNS : ∃ t, mg "MOST_COLUMNS" = some (.int 16 t)
  i_MOST_ROWS : ∃ t, mg "MOST_ROWS" = some (.int 9 t)
  i_MOST_DEPTH : ∃ t, mg "MOST_DEPTH" = some (.int 9 t)
  i_LAST_DAY : ∃ t, mg "LAST_DAY" = some (.int 400 t)
  i_LAST_NUMBER : ∃ t, mg "LAST_NUMBER" = some (.int 99 t)
  i_LAST_MARK : ∃ t, mg "LAST_MARK" = some (.int 12 t)
  i_MOST_NOTICES : ∃ t, mg "MOST_NOTICES" = some (.int 30 t)
  i_MOST_STRENGTH : ∃ t, mg "MOST_STRENGTH" = some (.int 9 t)
end Lk

/-! Hd0: the head: what is looked at. Printed by genhead.py. -/
namespace Lk
open PySem PySem.Spec PyProof.Rows L2
def d_is_whole : He.DefD := ⟨("is_whole", none), "is_whole", "is_whole", defArgs s_is_whole, defBody s_is_whole, defScope s_is_whole, [], []⟩
def d_is_column : He.DefD := ⟨("is_column", none), "is_column", "is_column", defArgs s_is_column, defBody s_is_column, defScope s_is_column, [], []⟩
def d_is_sea : He.DefD := ⟨("is_sea", none), "is_sea", "is_sea", defArgs s_is_sea, defBody s_is_sea, defScope s_is_sea, [], []⟩
def d_need_sea : He.DefD := ⟨("need_sea", none), "need_sea", "need_sea", defArgs s_need_sea, defBody s_need_sea, defScope s_need_sea, [], []⟩
def d_is_cell : He.DefD := ⟨("is_cell", none), "is_cell", "is_cell", defArgs s_is_cell, defBody s_is_cell, defScope s_is_cell, [], []⟩
def d_need_draught : He.DefD := ⟨("need_draught", none), "need_draught", "need_draught", defArgs s_need_draught, defBody s_need_draught, defScope s_need_draught, [], []⟩
def d_need_day : He.DefD := ⟨("need_day", none), "need_day", "need_day", defArgs s_need_day, defBody s_need_day, defScope s_need_day, [], []⟩
def d_depth_at : He.DefD := ⟨("depth_at", none), "depth_at", "depth_at", defArgs s_depth_at, defBody s_depth_at, defScope s_depth_at, [], []⟩
def d_with_depth : He.DefD := ⟨("with_depth", none), "with_depth", "with_depth", defArgs s_with_depth, defBody s_with_depth, defScope s_with_depth, [], []⟩
def d_waters_beside : He.DefD := ⟨("waters_beside", none), "waters_beside", "waters_beside", defArgs s_waters_beside, defBody s_waters_beside, defScope s_waters_beside, [], []⟩
def d_drifted : He.DefD := ⟨("drifted", none), "drifted", "drifted", defArgs s_drifted, defBody s_drifted, defScope s_drifted, [], []⟩
def d_is_mark : He.DefD := ⟨("is_mark", none), "is_mark", "is_mark", defArgs s_is_mark, defBody s_is_mark, defScope s_is_mark, [], []⟩
def d_is_laying : He.DefD := ⟨("is_laying", none), "is_laying", "is_laying", defArgs s_is_laying, defBody s_is_laying, defScope s_is_laying, [], []⟩
def d_is_deed : He.DefD := ⟨("is_deed", none), "is_deed", "is_deed", defArgs s_is_deed, defBody s_is_deed, defScope s_is_deed, [], []⟩
def d_notice_in : He.DefD := ⟨("notice_in", none), "notice_in", "notice_in", defArgs s_notice_in, defBody s_notice_in, defScope s_notice_in, [], []⟩
def d_notices_in : He.DefD := ⟨("notices_in", none), "notices_in", "notices_in", defArgs s_notices_in, defBody s_notices_in, defScope s_notices_in, [], []⟩
def d_need_notices : He.DefD := ⟨("need_notices", none), "need_notices", "need_notices", defArgs s_need_notices, defBody s_need_notices, defScope s_need_notices, [], []⟩
def d_need_held : He.DefD := ⟨("need_held", none), "need_held", "need_held", defArgs s_need_held, defBody s_need_held, defScope s_need_held, [], []⟩
def d_order_of : He.DefD := ⟨("order_of", none), "order_of", "order_of", defArgs s_order_of, defBody s_order_of, defScope s_order_of, [], []⟩
def d_held_notices : He.DefD := ⟨("held_notices", none), "held_notices", "held_notices", defArgs s_held_notices, defBody s_held_notices, defScope s_held_notices, [], []⟩
def d_with_mark : He.DefD := ⟨("with_mark", none), "with_mark", "with_mark", defArgs s_with_mark, defBody s_with_mark, defScope s_with_mark, [], []⟩
def d_laid : He.DefD := ⟨("laid", none), "laid", "laid", defArgs s_laid, defBody s_laid, defScope s_laid, [], []⟩
def d_lifted : He.DefD := ⟨("lifted", none), "lifted", "lifted", defArgs s_lifted, defBody s_lifted, defScope s_lifted, [], []⟩
def d_blown : He.DefD := ⟨("blown", none), "blown", "blown", defArgs s_blown, defBody s_blown, defScope s_blown, [], []⟩
def d_cells_of : He.DefD := ⟨("cells_of", none), "cells_of", "cells_of", defArgs s_cells_of, defBody s_cells_of, defScope s_cells_of, [], []⟩
def d_sighted : He.DefD := ⟨("sighted", none), "sighted", "sighted", defArgs s_sighted, defBody s_sighted, defScope s_sighted, [], []⟩
def d_sounded : He.DefD := ⟨("sounded", none), "sounded", "sounded", defArgs s_sounded, defBody s_sounded, defScope s_sounded, [], []⟩
def d_gone_through : He.DefD := ⟨("gone_through", none), "gone_through", "gone_through", defArgs s_gone_through, defBody s_gone_through, defScope s_gone_through, [], []⟩
def d_void : He.DefD := ⟨("void", none), "void", "void", defArgs s_void, defBody s_void, defScope s_void, [], []⟩
def d_need_known : He.DefD := ⟨("need_known", none), "need_known", "need_known", defArgs s_need_known, defBody s_need_known, defScope s_need_known, [], []⟩
def d_place_of : He.DefD := ⟨("place_of", none), "place_of", "place_of", defArgs s_place_of, defBody s_place_of, defScope s_place_of, [], []⟩
def d_mark_at : He.DefD := ⟨("mark_at", none), "mark_at", "mark_at", defArgs s_mark_at, defBody s_mark_at, defScope s_mark_at, [], []⟩
def d_standing_by : He.DefD := ⟨("standing_by", none), "standing_by", "standing_by", defArgs s_standing_by, defBody s_standing_by, defScope s_standing_by, [], []⟩
def d_counting : He.DefD := ⟨("counting", none), "counting", "counting", defArgs s_counting, defBody s_counting, defScope s_counting, [], []⟩
def d_is_wrong : He.DefD := ⟨("is_wrong", none), "is_wrong", "is_wrong", defArgs s_is_wrong, defBody s_is_wrong, defScope s_is_wrong, [], []⟩
def d_open_rows : He.DefD := ⟨("open_rows", none), "open_rows", "open_rows", defArgs s_open_rows, defBody s_open_rows, defScope s_open_rows, [], []⟩
def d_channel_of : He.DefD := ⟨("channel_of", none), "channel_of", "channel_of", defArgs s_channel_of, defBody s_channel_of, defScope s_channel_of, [], []⟩
def d__law_cell : He.DefD := ⟨("_law_cell", none), "_law_cell", "_law_cell", defArgs s__law_cell, defBody s__law_cell, defScope s__law_cell, [], []⟩
def d__law_mix : He.DefD := ⟨("_law_mix", none), "_law_mix", "_law_mix", defArgs s__law_mix, defBody s__law_mix, defScope s__law_mix, [], []⟩
def d__law_box : He.DefD := ⟨("_law_box", none), "_law_box", "_law_box", defArgs s__law_box, defBody s__law_box, defScope s__law_box, [], []⟩
def d__law_take : He.DefD := ⟨("_law_take", none), "_law_take", "_law_take", defArgs s__law_take, defBody s__law_take, defScope s__law_take, [], []⟩
def d__law_sea : He.DefD := ⟨("_law_sea", none), "_law_sea", "_law_sea", defArgs s__law_sea, defBody s__law_sea, defScope s__law_sea, [], []⟩
def d__law_spot : He.DefD := ⟨("_law_spot", none), "_law_spot", "_law_spot", defArgs s__law_spot, defBody s__law_spot, defScope s__law_spot, [], []⟩
def d__law_deed : He.DefD := ⟨("_law_deed", none), "_law_deed", "_law_deed", defArgs s__law_deed, defBody s__law_deed, defScope s__law_deed, [], []⟩
def d__law_notices : He.DefD := ⟨("_law_notices", none), "_law_notices", "_law_notices", defArgs s__law_notices, defBody s__law_notices, defScope s__law_notices, [], []⟩
def d__law_which : He.DefD := ⟨("_law_which", none), "_law_which", "_law_which", defArgs s__law_which, defBody s__law_which, defScope s__law_which, [], []⟩
def d__law_said : He.DefD := ⟨("_law_said", none), "_law_said", "_law_said", defArgs s__law_said, defBody s__law_said, defScope s__law_said, [], []⟩
def d__law_shown : He.DefD := ⟨("_law_shown", none), "_law_shown", "_law_shown", defArgs s__law_shown, defBody s__law_shown, defScope s__law_shown, [], []⟩
def d__law_order : He.DefD := ⟨("_law_order", none), "_law_order", "_law_order", defArgs s__law_order, defBody s__law_order, defScope s__law_order, [], []⟩
def d__law_filled : He.DefD := ⟨("_law_filled", none), "_law_filled", "_law_filled", defArgs s__law_filled, defBody s__law_filled, defScope s__law_filled, [], []⟩
def d__law_right : He.DefD := ⟨("_law_right", none), "_law_right", "_law_right", defArgs s__law_right, defBody s__law_right, defScope s__law_right, [], []⟩
def d_law : He.DefD := ⟨("law", none), "law", "law", defArgs s_law, defBody s_law, defScope s_law, [], []⟩
def d_Book_init : He.DefD := ⟨("Book", some "__init__"), "__init__", "Book.__init__", defArgs s_Book_init, defBody s_Book_init, defScope s_Book_init, [], []⟩
def d_Book_become : He.DefD := ⟨("Book", some "become"), "become", "Book.become", defArgs s_Book_become, defBody s_Book_become, defScope s_Book_become, [], []⟩
def d_Book_take_in : He.DefD := ⟨("Book", some "take_in"), "take_in", "Book.take_in", defArgs s_Book_take_in, defBody s_Book_take_in, defScope s_Book_take_in, [], []⟩
def d_Book_strike : He.DefD := ⟨("Book", some "strike"), "strike", "Book.strike", defArgs s_Book_strike, defBody s_Book_strike, defScope s_Book_strike, [], []⟩
def d_Book_undo : He.DefD := ⟨("Book", some "undo"), "undo", "Book.undo", defArgs s_Book_undo, defBody s_Book_undo, defScope s_Book_undo, [], []⟩
def d_Book_notices_now : He.DefD := ⟨("Book", some "notices_now"), "notices_now", "Book.notices_now", defArgs s_Book_notices_now, defBody s_Book_notices_now, defScope s_Book_notices_now, [], []⟩
def d_Book_mark_now : He.DefD := ⟨("Book", some "mark_now"), "mark_now", "Book.mark_now", defArgs s_Book_mark_now, defBody s_Book_mark_now, defScope s_Book_mark_now, [], []⟩
def d_Book_channel_now : He.DefD := ⟨("Book", some "channel_now"), "channel_now", "Book.channel_now", defArgs s_Book_channel_now, defBody s_Book_channel_now, defScope s_Book_channel_now, [], []⟩
def d_Book_void_now : He.DefD := ⟨("Book", some "void_now"), "void_now", "Book.void_now", defArgs s_Book_void_now, defBody s_Book_void_now, defScope s_Book_void_now, [], []⟩
def fn : List He.DefD := [d_is_whole, d_is_column, d_is_sea, d_need_sea, d_is_cell, d_need_draught, d_need_day, d_depth_at, d_with_depth, d_waters_beside, d_drifted, d_is_mark, d_is_laying, d_is_deed, d_notice_in, d_notices_in, d_need_notices, d_need_held, d_order_of, d_held_notices, d_with_mark, d_laid, d_lifted, d_blown, d_cells_of, d_sighted, d_sounded, d_gone_through, d_void, d_need_known, d_place_of, d_mark_at, d_standing_by, d_counting, d_is_wrong, d_open_rows, d_channel_of, d__law_cell, d__law_mix, d__law_box, d__law_take, d__law_sea, d__law_spot, d__law_deed, d__law_notices, d__law_which, d__law_said, d__law_shown, d__law_order, d__law_filled, d__law_right, d_law, d_Book_init, d_Book_become, d_Book_take_in, d_Book_strike, d_Book_undo, d_Book_notices_now, d_Book_mark_now, d_Book_channel_now, d_Book_void_now]
def fa : List He.Fa := [.glo "is_whole", .glo "is_column", .glo "is_sea", .glo "need_sea", .glo "is_cell", .glo "need_draught", .glo "need_day", .glo "depth_at", .glo "with_depth", .glo "waters_beside", .glo "drifted", .glo "is_mark", .glo "is_laying", .glo "is_deed", .glo "notice_in", .glo "notices_in", .glo "need_notices", .glo "need_held", .glo "order_of", .glo "held_notices", .glo "with_mark", .glo "laid", .glo "lifted", .glo "blown", .glo "cells_of", .glo "sighted", .glo "sounded", .glo "gone_through", .glo "void", .glo "need_known", .glo "place_of", .glo "mark_at", .glo "standing_by", .glo "counting", .glo "is_wrong", .glo "open_rows", .glo "channel_of", .glo "_law_cell", .glo "_law_mix", .glo "_law_box", .glo "_law_take", .glo "_law_sea", .glo "_law_spot", .glo "_law_deed", .glo "_law_notices", .glo "_law_which", .glo "_law_said", .glo "_law_shown", .glo "_law_order", .glo "_law_filled", .glo "_law_right", .glo "law", .glo "MarkError", .glo "NoSea", .glo "NoCell", .glo "NoDraught", .glo "NoDay", .glo "NoNotices", .glo "NoNumber", .glo "NoMark", .glo "NoChannel", .glo "NoSightings", .glo "NoFairway", .glo "NoSide", .glo "NoColumns", .glo "NoLine", .glo "There", .glo "Nothing", .glo "Unlike", .glo "NoText", .glo "TooMany", .glo "Book", .glo "DEEDS", .int "MOST_COLUMNS" 16, .int "MOST_ROWS" 9, .int "MOST_DEPTH" 9, .int "LAST_DAY" 400, .int "LAST_NUMBER" 99, .int "LAST_MARK" 12, .int "MOST_NOTICES" 30, .int "MOST_STRENGTH" 9, .free "isinstance", .free "len", .free "all", .free "any", .free "sorted", .free "set", .free "tuple", .free "list", .free "dict", .free "enumerate", .free "range", .free "divmod", .free "int", .free "bool", .free "str", .free "abs", .free "min", .free "max", .free "repr", .free "ValueError", .cls "Book", .mkr "Book", .noat "Book" "own_sea", .noat "Book" "own_kept", .noat "Book" "own_past", .meth "Book" "__init__", .meth "Book" "become", .meth "Book" "take_in", .meth "Book" "strike", .meth "Book" "undo", .meth "Book" "notices_now", .meth "Book" "mark_now", .meth "Book" "channel_now", .meth "Book" "void_now", .exc "Nothing", .exm "Nothing" "MarkError" true, .keep "MarkError", .keep "NoSea", .keep "NoCell", .keep "NoDraught", .keep "NoDay", .keep "NoNotices", .keep "NoNumber", .keep "NoMark", .keep "NoChannel", .keep "NoSightings", .keep "NoFairway", .keep "NoSide", .keep "NoColumns", .keep "NoLine", .keep "There", .keep "Nothing", .keep "Unlike", .keep "NoText", .keep "TooMany"]
def names0 : List PySem.Str := ["is_whole", "is_column", "is_sea", "need_sea", "is_cell", "need_draught", "need_day", "depth_at", "with_depth", "waters_beside", "drifted", "is_mark", "is_laying", "is_deed", "notice_in", "notices_in"]
def names1 : List PySem.Str := ["need_notices", "need_held", "order_of", "held_notices", "with_mark", "laid", "lifted", "blown", "cells_of", "sighted", "sounded", "gone_through", "void", "need_known", "place_of", "mark_at"]
def names2 : List PySem.Str := ["standing_by", "counting", "is_wrong", "open_rows", "channel_of", "_law_cell", "_law_mix", "_law_box", "_law_take", "_law_sea", "_law_spot", "_law_deed", "_law_notices", "_law_which", "_law_said", "_law_shown"]
def names3 : List PySem.Str := ["_law_order", "_law_filled", "_law_right", "MarkError", "NoSea", "NoCell", "NoDraught", "NoDay", "NoNotices", "NoNumber", "NoMark", "NoChannel", "NoSightings", "NoFairway", "NoSide", "NoColumns"]
def names4 : List PySem.Str := ["NoLine", "There", "Nothing", "Unlike", "NoText", "TooMany", "Book", "MOST_COLUMNS", "MOST_ROWS", "MOST_DEPTH", "LAST_DAY", "LAST_NUMBER", "LAST_MARK", "MOST_NOTICES", "MOST_STRENGTH", "DEEDS"]
def names : List PySem.Str := names0 ++ names1 ++ names2 ++ names3 ++ names4
def deedsKv : List (Str × He.Dv) := [("lay", .glo "laid"), ("lift", .glo "lifted"), ("gale", .glo "blown"), ("seen", .glo "sighted"), ("depth", .glo "sounded")]
def exNames : List Str := ["NoSea", "NoCell", "NoDraught", "NoDay", "NoNotices", "NoNumber", "NoMark", "NoChannel", "NoSightings", "NoFairway", "NoSide", "NoColumns", "NoLine", "There", "Unlike", "NoText", "TooMany"]
/-- what is asked of the class that is raised and caught -/
def nthB (K : PySem.W.Frag) : Bool := He.eqO (PySem.W.findIn K (.ref (He.ga K "Nothing")) "__getattribute__") (some (some (.builtin "BaseException.__getattribute__"))) && (He.eqO (PySem.W.findIn K (.ref (He.ga K "Nothing")) "__getattr__") (some none) && (PySem.W.hasDictIn K (He.ga K "Nothing") &&
  (He.eqO (PySem.W.findIn K (.ref (He.ga K "Nothing")) "__class__") (some (some (.builtin "object.__class__"))) && (He.eqO (PySem.W.specialIn K (.builtin "object.__class__") "__get__") (some (some (.builtin "getset_descriptor.__get__"))) && (decide (PySem.W.takesIn K (.builtin "object.__class__") = some true) && decide (PySem.W.mroIn K (He.ga K "Nothing") (.type "object") = some true))))))
def isiB (K : PySem.W.Frag) : Bool := (exNames.all fun x => decide (PySem.W.kitOne K (.ref (He.ga K "Nothing")) (.ref (He.ga K x)) = some false)) && (decide (PySem.W.kitOne K (.ref (He.ga K "Nothing")) (.ref (He.ga K "Nothing")) = some true) && decide (PySem.W.kitOne K (.ref (He.ga K "Nothing")) (.type "ValueError") = some true))
def exB (K : PySem.W.Frag) : Bool := He.valsB K (He.ga K "DEEDS") deedsKv && (nthB K && isiB K)
def ts : List He.Tab := [((fun K => He.ga K "DEEDS"), ["lay", "lift", "gale", "seen", "depth"])]
def tf : List He.Defn := [("_law_right", none)]
abbrev R : PySem.W.OpenRow := PySem.W.OpenLaw.row PySem.Challenge.rw_laidmarks_k62_whole_books
abbrev hk : PySem.W.Hook := He.hookX 4 fa fn ts tf exB
def ob (s : PySem.W.SharedT) : He.AlX := He.obsX 4 fa fn ts tf exB (HandSHeadRun.getT s)
theorem ob_eq (s : PySem.W.SharedT) : ob s = hk.obs s.abs := He.obsX_eq (HandSHeadRun.getT_eq s)
/-- the run -/
noncomputable abbrev ran (w : World) (os : OsState) : Option PySem.W.SharedT := HandSHeadRun.endF (HandSHeadRun.stepQ (HandSHeadRun.denQ HandSHeadRun.tabQ) R.prog w) 9000 R.prog w os
end Lk

/-! HdDf: the head: one look at the run, one side. -/
namespace Lk
open PySem PySem.W PySem.Calls PyProof.Rows
theorem run_d_f (w : World) (os : OsState) : (ran (w.withFollow "special-get-raises" false) os).map (fun s => (ob s).1) = some (He.valX fn ts (w.withFollow "special-get-raises" false)).1 := by kernel_rfl
end Lk

/-! HdDt: the head: one look at the run, one side. -/
namespace Lk
open PySem PySem.W PySem.Calls PyProof.Rows
theorem run_d_t (w : World) (os : OsState) : (ran (w.withFollow "special-get-raises" true) os).map (fun s => (ob s).1) = some (He.valX fn ts (w.withFollow "special-get-raises" true)).1 := by kernel_rfl
end Lk

/-! HdXf: the head: one look at the run, one side. -/
namespace Lk
open PySem PySem.W PySem.Calls PyProof.Rows
theorem run_x_f (w : World) (os : OsState) : (ran (w.withFollow "special-get-raises" false) os).map (fun s => (ob s).2) = some true := by kernel_rfl
end Lk

/-! HdXt: the head: one look at the run, one side. -/
namespace Lk
open PySem PySem.W PySem.Calls PyProof.Rows
theorem run_x_t (w : World) (os : OsState) : (ran (w.withFollow "special-get-raises" true) os).map (fun s => (ob s).2) = some true := by kernel_rfl
end Lk

/-! HdSf: the head: one look at the run, one side. -/
namespace Lk
open PySem PySem.W PySem.Calls PyProof.Rows
theorem run_seen_f (w : World) (os : OsState) : (ran (w.withFollow "special-get-raises" false) os).map (fun s => HandSHeadRun.seenQ (PySem.W.view R.prog [87]) names (importedModules R.prog.main.body) (fun s => xlAt (PySem.W.view R.prog [87]) [] s && recOk R.toRowW.records s) s.abs) = some (openGood (PySem.W.view R.prog [87]) names) := by kernel_rfl
end Lk

/-! HdSt: the head: one look at the run, one side. -/
namespace Lk
open PySem PySem.W PySem.Calls PyProof.Rows
theorem run_seen_t (w : World) (os : OsState) : (ran (w.withFollow "special-get-raises" true) os).map (fun s => HandSHeadRun.seenQ (PySem.W.view R.prog [87]) names (importedModules R.prog.main.body) (fun s => xlAt (PySem.W.view R.prog [87]) [] s && recOk R.toRowW.records s) s.abs) = some (openGood (PySem.W.view R.prog [87]) names) := by kernel_rfl
end Lk

/-! HdLf: the head: one look at the run, one side. -/
namespace Lk
open PySem PySem.W PySem.Calls PyProof.Rows
theorem run_looks_f (w : World) (os : OsState) : (ran (w.withFollow "special-get-raises" false) os).map (fun s => HandSHeadRun.looksF R.prog (boot_heap (w.withFollow "special-get-raises" false).params) s.abs) = some true := by kernel_rfl
end Lk

/-! HdLt: the head: one look at the run, one side. -/
namespace Lk
open PySem PySem.W PySem.Calls PyProof.Rows
theorem run_looks_t (w : World) (os : OsState) : (ran (w.withFollow "special-get-raises" true) os).map (fun s => HandSHeadRun.looksF R.prog (boot_heap (w.withFollow "special-get-raises" true).params) s.abs) = some true := by kernel_rfl
end Lk

/-! Da3: slices, concatenation, comparisons of data. -/
namespace Lk
open PySem PySem.Spec PyProof.Rows L2
def cutA {α : Type} (xs : List α) (lo hi : Option Int) : List α := (xs.drop (HT.sIx xs.length 0 lo)).take (HT.sIx xs.length xs.length hi - HT.sIx xs.length 0 lo)
theorem paired_drop {α β : Type} {F : α → β → Prop} : ∀ {xs : List α} {ys : List β} (n : Nat), Paired F xs ys → Paired F (xs.drop n) (ys.drop n)
  | _, _, 0, h => h
  | _, _, _ + 1, .nil => .nil
  | _, _, n + 1, .cons _ t => paired_drop n t
theorem paired_take {α β : Type} {F : α → β → Prop} : ∀ {xs : List α} {ys : List β} (n : Nat), Paired F xs ys → Paired F (xs.take n) (ys.take n)
  | _, _, 0, _ => .nil
  | _, _, _ + 1, .nil => .nil
  | _, _, n + 1, .cons r t => .cons r (paired_take n t)
theorem AllP.cut {Ps : List Pr} {xs : List V} {H : Hp} (h : AllP Ps xs H) (lo hi : Option Int) : AllP (cutA Ps lo hi) (cutV xs lo hi) H := by
  unfold cutA cutV
  rw [h.len]
  exact paired_take _ (paired_drop _ h)
theorem cutA_to {α : Type} {xs : List α} {i : Nat} (h : i ≤ xs.length) : cutA xs none (some (i : Int)) = xs.take i := by
  unfold cutA
  rw [HT.sIx_none, HT.sIx_nat, List.drop_zero, Nat.min_eq_left h, Nat.sub_zero]
theorem cutA_from {α : Type} {xs : List α} {i : Nat} (h : i ≤ xs.length) : cutA xs (some (i : Int)) none = xs.drop i := by
  unfold cutA
  rw [HT.sIx_none, HT.sIx_nat, Nat.min_eq_left h]
  exact List.take_of_length_le (by rw [List.length_drop]; omega)
theorem cutA_map {α β : Type} {f : α → β} {xs : List α} {lo hi : Option Int} : cutA (xs.map f) lo hi = (cutA xs lo hi).map f := by
  unfold cutA
  rw [List.length_map, List.map_take, List.map_drop]
theorem cutA_all {α : Type} {xs : List α} {lo hi : Option Int} (h : HT.sIx xs.length 0 lo = 0 ∧ HT.sIx xs.length xs.length hi = xs.length) : cutA xs lo hi = xs := by
  unfold cutA
  rw [h.1, h.2, List.drop_zero, Nat.sub_zero, List.take_length]
def Eo (X : Cx) (B : List Addr) (ρ : Rho) (e : Option Expr) (o : Option Int) : Prop := ∃ t, PO X e t ∧ ∀ (σ : L2.St) (G H : Hp), OkB B G H → Kn σ G ρ → ∀ Q : Option Int → Hp → Prop, (∀ H2, Stp B H H2 → Q o H2) → t σ H Q
section
variable {X : Cx} {B : List Addr} {ρ : Rho} {e a b c : Expr} {P P1 P2 : Pr} {Ps Qs : List Pr} {pos p p2 : Pos}
theorem eo_none : Eo X B ρ none none := ⟨_, po_none, fun σ G H eg k Q z => z H (Stp.refl H)⟩
theorem eo_some {i : Int} (h : Ed X B ρ e (dP X.K (.int i))) : Eo X B ρ (some e) (some i) := ⟨_, po_some we_pe, fun σ G H eg k Q z => h σ G H eg k _ fun v H2 s r => ⟨i, dp_int r, z H2 s⟩⟩
theorem ed_slT {l u : Option Expr} {lo hi : Option Int} (h : Ed X B ρ e (tP X.K Ps)) (h1 : Eo X B ρ l lo) (h2 : Eo X B ρ u hi) : Ed X B ρ (.Subscript e (.Slice l u none p2) pos) (tP X.K (cutA Ps lo hi)) := by
  obtain ⟨t1, a1, a2⟩ := h1
  obtain ⟨t2, b1, b2⟩ := h2
  refine fun σ G H eg k Q z => pe_we (pe_slice sl_tupA we_pe a1 b1) (h σ G H eg k _ fun v H2 s r => a2 σ (ext G H H2) H2 (ext_same eg s) (k.up (ext_up eg)) _ fun H3 s3 => ?_)
  have g3 : OkB B (ext G H H3) H3 := ext_same eg (s.trans s3)
  refine b2 σ (ext G H H3) H3 g3 (k.up (ext_up eg)) _ fun H4 s4 => ?_
  have s24 : Stp B H H4 := (s.trans s3).trans s4
  have g4 : OkB B (ext G H H4) H4 := ext_same eg s24
  have r4 : (tP X.K Ps).p v (ext G H H4) := (tP X.K Ps).up (by
    rw [← ext_trans eg s (s3.trans s4)]
    exact ext_up (ext_same eg s)) r
  obtain ⟨t, xs, rfl, q1, q2⟩ := r4
  refine ⟨t, xs, rfl, sqt_up g4.1 q1, fun hw => z _ H4 s24 ⟨t, xs, rfl, q1, ?_⟩, fun _ p hp => z _ _ (s24.trans (stp_new hp)) ?_⟩
  · rw [← q2.len] at hw
    rw [cutA_all hw]
    exact q2
  · rw [← ext_trans eg s24 (stp_new hp), ext_new g4 hp]
    exact ⟨p, _, rfl, upd_same, (q2.cut lo hi).up (snew (snone g4.1 hp))⟩
theorem ed_catT (ha : Ed X B ρ a (tP X.K Ps)) (hb : Ed X B ρ b (tP X.K Qs)) (hl : Ps.length + Qs.length ≤ 100000) : Ed X B ρ (.BinOp a .Add b pos) (tP X.K (Ps ++ Qs)) := ed_op op_catA ha hb fun x y G H eg r1 r2 Q z => by
  obtain ⟨s, xs, rfl, a1, a2⟩ := r1
  obtain ⟨t, ys, rfl, b1, b2⟩ := r2
  refine ⟨s, t, xs, ys, rfl, rfl, sqt_up eg.1 a1, sqt_up eg.1 b1, by rw [← a2.len, ← b2.len]; exact small hl, fun e => z _ H (Stp.refl H) ?_, fun e1 e2 => z _ H (Stp.refl H) ?_, fun _ _ p hp => z _ _ (stp_new hp) ?_⟩
  · subst e
    cases a2
    rw [ext_refl eg]
    exact ⟨t, ys, rfl, b1, b2⟩
  · subst e2
    cases b2
    rw [ext_refl eg, List.append_nil]
    exact ⟨s, xs, rfl, a1, a2⟩
  · rw [ext_new eg hp]
    exact ⟨p, _, rfl, upd_same, (a2.app b2).up (snew (snone eg.1 hp))⟩
theorem ed_catTd {ds es : List PyData} (ha : Ed X B ρ a (dP X.K (.tuple ds))) (hb : Ed X B ρ b (dP X.K (.tuple es))) (hl : ds.length + es.length ≤ 100000) : Ed X B ρ (.BinOp a .Add b pos) (dP X.K (.tuple (ds ++ es))) := by
  have h := ed_catT (pos := pos) (ha.imp imp_td) (hb.imp imp_td) (by rw [List.length_map, List.length_map]; exact hl)
  rw [← List.map_append] at h
  exact h.imp imp_dt
theorem ed_slTd {l u : Option Expr} {lo hi : Option Int} {ds : List PyData} (h : Ed X B ρ e (dP X.K (.tuple ds))) (h1 : Eo X B ρ l lo) (h2 : Eo X B ρ u hi) : Ed X B ρ (.Subscript e (.Slice l u none p2) pos) (dP X.K (.tuple (cutA ds lo hi))) := by
  have z := ed_slT (pos := pos) (p2 := p2) (h.imp imp_td) h1 h2
  rw [cutA_map] at z
  exact z.imp imp_dt
/-! == of data -/
theorem ed_eqD {d e : PyData} (hu : X.A.units + 64 < cLine) (ha : Ed X B ρ a (dP X.K d)) (hb : Ed X B ρ b (dP X.K e)) (sd : SeqAt.shaped d = true) (se : SeqAt.shaped e = true) : Ed X B ρ (.Compare a [.Eq] [b] pos) (dP X.K (.bool (PyData.eqv d e))) :=
  ed_cmp (op_eqD hu) ha hb (nomark _) (gives_here fun x y G H eg r1 r2 Q z => ⟨d, e, dh_dp eg.1 _ _ r1, dh_dp eg.1 _ _ r2, sd, se, z _ (.bl _)⟩)
theorem et_eqD {d e : PyData} (hu : X.A.units + 64 < cLine) (ha : Ed X B ρ a (dP X.K d)) (hb : Ed X B ρ b (dP X.K e)) (sd : SeqAt.shaped d = true) (se : SeqAt.shaped e = true) : Et X B ρ (.Compare a [.Eq] [b] pos) (PyData.eqv d e) :=
  et_cmp (op_eqD hu) ha hb (nomark _) (gives_here fun x y G H eg r1 r2 Q z => ⟨d, e, dh_dp eg.1 _ _ r1, dh_dp eg.1 _ _ r2, sd, se, z _ (.bl _)⟩)
theorem et_neD {d e : PyData} (hu : X.A.units + 64 < cLine) (ha : Ed X B ρ a (dP X.K d)) (hb : Ed X B ρ b (dP X.K e)) (sd : SeqAt.shaped d = true) (se : SeqAt.shaped e = true) : Et X B ρ (.Compare a [.NotEq] [b] pos) (!PyData.eqv d e) :=
  et_cmp (op_neD hu) ha hb (nomark _) (gives_here fun x y G H eg r1 r2 Q z => ⟨d, e, dh_dp eg.1 _ _ r1, dh_dp eg.1 _ _ r2, sd, se, z _ (.bl _)⟩)
theorem et_gti {i j : Int} (ha : Ed X B ρ a (dP X.K (.int i))) (hb : Ed X B ρ b (dP X.K (.int j))) : Et X B ρ (.Compare a [.Gt] [b] pos) (decide (j < i)) := et_cmp op_gt ha hb (nomark _) g_b0
theorem et_gei {i j : Int} (ha : Ed X B ρ a (dP X.K (.int i))) (hb : Ed X B ρ b (dP X.K (.int j))) : Et X B ρ (.Compare a [.GtE] [b] pos) (decide (j ≤ i)) := et_cmp op_ge ha hb (nomark _) g_b0
theorem et_lti {i j : Int} (ha : Ed X B ρ a (dP X.K (.int i))) (hb : Ed X B ρ b (dP X.K (.int j))) : Et X B ρ (.Compare a [.Lt] [b] pos) (decide (i < j)) := et_cmp op_lt ha hb (nomark _) g_b0
theorem et_lei {i j : Int} (ha : Ed X B ρ a (dP X.K (.int i))) (hb : Ed X B ρ b (dP X.K (.int j))) : Et X B ρ (.Compare a [.LtE] [b] pos) (decide (i ≤ j)) := et_cmp op_le ha hb (nomark _) g_b0
theorem ed_gti {i j : Int} (ha : Ed X B ρ a (dP X.K (.int i))) (hb : Ed X B ρ b (dP X.K (.int j))) : Ed X B ρ (.Compare a [.Gt] [b] pos) (dP X.K (.bool (decide (j < i)))) := ed_cmp op_gt ha hb (nomark _) g_b0
theorem ed_gei {i j : Int} (ha : Ed X B ρ a (dP X.K (.int i))) (hb : Ed X B ρ b (dP X.K (.int j))) : Ed X B ρ (.Compare a [.GtE] [b] pos) (dP X.K (.bool (decide (j ≤ i)))) := ed_cmp op_ge ha hb (nomark _) g_b0
theorem ed_lei {i j : Int} (ha : Ed X B ρ a (dP X.K (.int i))) (hb : Ed X B ρ b (dP X.K (.int j))) : Ed X B ρ (.Compare a [.LtE] [b] pos) (dP X.K (.bool (decide (i ≤ j)))) := ed_cmp op_le ha hb (nomark _) g_b0
theorem ed_streq {i j : Str} (ha : Ed X B ρ a (dP X.K (.str i))) (hb : Ed X B ρ b (dP X.K (.str j))) : Ed X B ρ (.Compare a [.Eq] [b] pos) (dP X.K (.bool (decide (i = j)))) := ed_cmp op_eq ha hb (nomark _) g_streq
theorem et_streq {i j : Str} (ha : Ed X B ρ a (dP X.K (.str i))) (hb : Ed X B ρ b (dP X.K (.str j))) : Et X B ρ (.Compare a [.Eq] [b] pos) (decide (i = j)) := et_cmp op_eq ha hb (nomark _) g_streq
theorem et_strne {i j : Str} (ha : Ed X B ρ a (dP X.K (.str i))) (hb : Ed X B ρ b (dP X.K (.str j))) : Et X B ρ (.Compare a [.NotEq] [b] pos) (!decide (i = j)) := et_cmp op_ne ha hb (nomark _) g_strne
/-- e, for its doing -/
theorem ss_expr (h : Ed X B ρ e P) (hs : swapsWith e none pos.line X.env = pure false := by rfl) : Ss X B ρ (.Expr e pos) ρ := fun σ G H eg k D z =>
  ps_ws (ps_expr we_pe hs) (h σ G H eg k _ fun v H2 s r => z σ H2 s (k.up (ext_up eg)))
end
end Lk

/-! Da4: blocks that change things of their own. -/
namespace Lk
open PySem PySem.Spec PyProof.Rows L2
/-- some r with S, of which F r is said -/
abbrev xP {β : Type} (S : β → Prop) (F : β → Pr) : Pr := ⟨fun v H => ∃ r, S r ∧ (F r).p v H, fun e ⟨r, h1, h2⟩ => ⟨r, h1, (F r).up e h2⟩⟩
theorem imp_x {β : Type} {S : β → Prop} {F : β → Pr} {P : Pr} (h : ∀ r, S r → Imp (F r) P) : Imp (xP S F) P := fun v H ⟨r, h1, h2⟩ => h r h1 v H h2
theorem imp_in {β : Type} {S : β → Prop} {F : β → Pr} (r : β) (h : S r) : Imp (F r) (xP S F) := fun v H h2 => ⟨r, h, h2⟩
/-- what is said of a hidden thing -/
structure HP where
  p : HO → Hp → Prop
  up : ∀ {G G' : Hp} {o : HO}, Same G G' → p o G → p o G'
  nt : ∀ {G : Hp} {xs : List V}, ¬ p (.tup xs) G
abbrev Hs := List (Addr × HP)
structure Fx where
  B : List Addr
  G0 : Hp
  H0 : Hp
  Gm : Hp
structure Stt (φ : Fx) (hs : Hs) (G H : Hp) : Prop where
  ok : OkB φ.B G H
  b0 : ∀ b ∈ φ.B, ∃ o, φ.H0 b = some o
  up : Same φ.G0 G
  st : Stp φ.B φ.H0 H
  old : ∀ a o, φ.H0 a = some o → G a = φ.G0 a
  hid : ∀ x ∈ hs, G x.1 = none ∧ φ.H0 x.1 = none ∧ ∃ o, H x.1 = some o ∧ x.2.p o G
  nd : (hs.map (·.1)).Nodup
  mid : Same φ.Gm G
section
variable {φ : Fx} {hs : Hs} {G H H2 : Hp}
theorem Stt.start {B : List Addr} (e : OkB B G H) : Stt ⟨B, G, H, G⟩ [] G H := ⟨e, (fun b hb => let ⟨_, o, h, _⟩ := e.2.1 b hb; ⟨o, h⟩), Same.refl _, Stp.refl _, (fun _ _ _ => rfl), (fun _ h => by cases h), List.nodup_nil, Same.refl _⟩
theorem Stt.nb (S : Stt φ hs G H) {a : Addr} (h : φ.H0 a = none) : a ∉ φ.B := fun z => by
  obtain ⟨o, q⟩ := S.b0 a z
  rw [h] at q
  cases q
theorem Stt.ev (S : Stt φ hs G H) (s : Stp φ.B H H2) : Stt φ hs (ext G H H2) H2 where
  ok := ext_same S.ok s
  b0 := S.b0
  up := S.up.trans (ext_up S.ok)
  st := S.st.trans s
  old := fun a o h => by
    obtain ⟨o', h', _⟩ := S.st a o h
    rw [ext_some h']
    exact S.old a o h
  hid := fun x hx => by
    obtain ⟨h1, h2, o, h3, h4⟩ := S.hid x hx
    exact ⟨by rw [ext_some h3]; exact h1, h2, o, s.at h3 (S.nb h2), x.2.up (ext_up S.ok) h4⟩
  nd := S.nd
  mid := S.mid.trans (ext_up S.ok)
theorem Stt.fresh (S : Stt φ hs G H) {p : Addr} (hp : H p = none) : φ.H0 p = none ∧ G p = none ∧ p ∉ hs.map (·.1) ∧ p ∉ φ.B := by
  refine ⟨S.st.free hp, snone S.ok.1 hp, fun z => ?_, S.ok.nb hp⟩
  obtain ⟨x, hx, e⟩ := List.mem_map.mp z
  obtain ⟨_, _, o, h3, _⟩ := S.hid x hx
  rw [e, hp] at h3
  cases h3
/-- a new thing, hidden -/
theorem Stt.new (S : Stt φ hs G H) {p : Addr} {o : HO} {q : HP} (hp : H p = none) (hq : q.p o G) : Stt φ ((p, q) :: hs) G (upd H p o) := by
  obtain ⟨f1, f2, f3, f4⟩ := S.fresh hp
  refine ⟨S.ok.hid f2 f4 (fun xs z => q.nt (by rw [z] at hq; exact hq)), S.b0, S.up, S.st.hid f1, S.old, fun x hx => ?_, List.nodup_cons.mpr ⟨f3, S.nd⟩, S.mid⟩
  rcases List.mem_cons.mp hx with rfl | hx
  · exact ⟨f2, f1, o, upd_same, hq⟩
  · obtain ⟨h1, h2, o', h3, h4⟩ := S.hid x hx
    exact ⟨h1, h2, o', by rw [upd_ne (ne_of_none h3 hp)]; exact h3, h4⟩
/-- a new thing, seen -/
theorem Stt.newG (S : Stt φ hs G H) {p : Addr} {o : HO} (hp : H p = none) : Stt φ hs (upd G p o) (upd H p o) := by
  have := S.ev (stp_new (B := φ.B) (o := o) hp)
  rw [ext_new S.ok hp] at this
  exact this
theorem nodup_set_key {hs : Hs} {i : Nat} {p : Addr} {q q' : HP} (h : hs[i]? = some (p, q)) : (hs.set i (p, q')).map (·.1) = hs.map (·.1) := by
  apply List.ext_getElem?
  intro j
  rw [List.getElem?_map, List.getElem?_map]
  by_cases hi : i = j
  · subst hi
    rw [h, List.getElem?_set_self (List.getElem?_eq_some_iff.mp h).1]
    rfl
  · rw [List.getElem?_set_ne hi]
/-- the i-th hidden thing changed -/
theorem Stt.put (S : Stt φ hs G H) {i : Nat} {p : Addr} {q q' : HP} {o : HO} (hi : hs[i]? = some (p, q)) (hq : q'.p o G) : Stt φ (hs.set i (p, q')) G (upd H p o) := by
  obtain ⟨h1, h2, o1, h3, h4⟩ := S.hid _ (List.mem_of_getElem? hi)
  have hb := S.nb h2
  refine ⟨S.ok.hid h1 hb (fun xs z => q'.nt (by rw [z] at hq; exact hq)), S.b0, S.up, S.st.hid h2, S.old, fun x hx => ?_, ?_, S.mid⟩
  · obtain ⟨j, hj⟩ := List.getElem?_of_mem hx
    by_cases e : i = j
    · subst e
      rw [List.getElem?_set_self (List.getElem?_eq_some_iff.mp hi).1] at hj
      cases hj
      exact ⟨h1, h2, o, upd_same, hq⟩
    · rw [List.getElem?_set_ne e] at hj
      obtain ⟨a1, a2, o', a3, a4⟩ := S.hid x (List.mem_of_getElem? hj)
      have hne : x.1 ≠ p := fun z => by
        have n := S.nd
        have l1 : i < (hs.map (·.1)).length := by
          rw [List.length_map]
          exact (List.getElem?_eq_some_iff.mp hi).1
        have l2 : j < (hs.map (·.1)).length := by
          rw [List.length_map]
          exact (List.getElem?_eq_some_iff.mp hj).1
        have e1 : (hs.map (·.1))[i]? = some p := by rw [List.getElem?_map, hi]; rfl
        have e2 : (hs.map (·.1))[j]? = some p := by rw [List.getElem?_map, hj, ← z]; rfl
        rw [List.getElem?_eq_getElem l1] at e1
        rw [List.getElem?_eq_getElem l2] at e2
        exact e ((List.getElem_inj n).mp ((Option.some.inj e1).trans (Option.some.inj e2).symm))
      exact ⟨a1, a2, o', by rw [upd_ne hne]; exact a3, a4⟩
  · rw [nodup_set_key hi]
    exact S.nd
theorem Stt.get (S : Stt φ hs G H) {i : Nat} {p : Addr} {q : HP} (hi : hs[i]? = some (p, q)) : ∃ o, H p = some o ∧ q.p o G := (S.hid _ (List.mem_of_getElem? hi)).2.2
/-- hidden things forgotten -/
theorem Stt.sub (S : Stt φ hs G H) {hs' : Hs} (h : hs'.Sublist hs) : Stt φ hs' G H := ⟨S.ok, S.b0, S.up, S.st, S.old, fun x hx => S.hid x (h.subset hx), S.nd.sublist (h.map _), S.mid⟩
theorem Stt.none (S : Stt φ hs G H) : Stt φ [] G H := S.sub (List.nil_sublist _)
/-- the first hidden thing shown -/
theorem Stt.show (S : Stt φ hs G H) {p : Addr} {q : HP} {hs' : Hs} (e : hs = (p, q) :: hs') : ∃ o, q.p o G ∧ Same G (upd G p o) ∧ Stt φ hs' (upd G p o) H := by
  subst e
  obtain ⟨h1, h2, o, h3, h4⟩ := S.hid _ List.mem_cons_self
  dsimp only at h1 h2 h3 h4
  refine ⟨o, h4, snew h1, ⟨⟨fun a u z => ?_, fun b hb => ?_, fun a xs z => ?_⟩, S.b0, S.up.trans (snew h1), S.st, fun a u z => ?_, fun x hx => ?_, (List.nodup_cons.mp S.nd).2, S.mid.trans (snew h1)⟩⟩
  · by_cases ha : a = p
    · rw [ha, upd_same] at z
      rw [ha, h3, z]
    · rw [upd_ne ha] at z
      exact S.ok.1 a u z
  · have hne : b ≠ p := fun z => S.nb h2 (by rw [← z]; exact hb)
    rw [upd_ne hne]
    exact S.ok.2.1 b hb
  · by_cases ha : a = p
    · rw [ha, h3] at z
      rw [Option.some.inj z] at h4
      exact absurd h4 q.nt
    · rw [upd_ne ha]
      exact S.ok.2.2 a xs z
  · have hne : a ≠ p := fun w => by
      rw [w, h2] at z
      cases z
    rw [upd_ne hne]
    exact S.old a u z
  · obtain ⟨a1, a2, o', a3, a4⟩ := S.hid x (List.mem_cons_of_mem _ hx)
    have hne : x.1 ≠ p := fun z => (List.nodup_cons.mp S.nd).1 (List.mem_map.mpr ⟨x, hx, z⟩)
    exact ⟨by rw [upd_ne hne]; exact a1, a2, o', a3, x.2.up (snew h1) a4⟩
def Fx.at (φ : Fx) (Gk : Hp) : Fx := { φ with Gm := Gk }
theorem Stt.at (S : Stt φ hs G H) {Gk : Hp} (e : Same Gk G) : Stt (φ.at Gk) hs G H := ⟨S.ok, S.b0, S.up, S.st, S.old, S.hid, S.nd, e⟩
theorem Stt.back {Gk : Hp} (S : Stt (φ.at Gk) hs G H) (e : Same φ.Gm Gk) : Stt φ hs G H := ⟨S.ok, S.b0, S.up, S.st, S.old, S.hid, S.nd, e.trans S.mid⟩
theorem Stt.res (S : Stt φ hs G H) : Same G (ext φ.G0 φ.H0 H) := fun a o h => by
  cases q : φ.H0 a with
  | some u =>
    rw [ext_some q, ← S.old a u q]
    exact h
  | none =>
    rw [ext_none q]
    exact S.ok.1 a o h
end
/-! ### blocks -/
def M (X : Cx) (φ : Fx) (ρ : Rho) (hs : Hs) (sts : List Stmt) (D : Ends) : Prop := ∀ (σ : L2.St) (G H : Hp), Stt φ hs G H → Kn σ G ρ → WB X sts D σ H
def Sm (X : Cx) (φ : Fx) (ρ : Rho) (hs : Hs) (st : Stmt) (F : L2.St → Hp → Hp → Prop) : Prop := ∀ (D : Ends) (σ : L2.St) (G H : Hp), Stt φ hs G H → Kn σ G ρ → (∀ σ' G' H', Same G G' → F σ' G' H' → D.nx σ' H') → WS X st D σ H
def Em (X : Cx) (φ : Fx) (ρ : Rho) (hs : Hs) (e : Expr) (F : V → Hp → Hp → Prop) : Prop := ∀ (σ : L2.St) (G H : Hp), Stt φ hs G H → Kn σ G ρ → ∀ Q : VK, (∀ v G2 H2, Same G G2 → F v G2 H2 → Q v H2) → WE X e σ H Q
def Etm (X : Cx) (φ : Fx) (ρ : Rho) (hs : Hs) (e : Expr) (b : Bool) : Prop := ∀ (σ : L2.St) (G H : Hp), Stt φ hs G H → Kn σ G ρ → ∀ Q : Bool → Hp → Prop, (∀ G2 H2, Same G G2 → Stt φ hs G2 H2 → Q b H2) → WT X e σ H Q
section
variable {X : Cx} {φ : Fx} {ρ ρ' : Rho} {hs hs' : Hs} {st : Stmt} {rest body orelse : List Stmt} {D : Ends} {F : L2.St → Hp → Hp → Prop} {FV : V → Hp → Hp → Prop} {e c : Expr} {P : Pr} {pos : Pos} {k : Bool}
theorem sr_m {B : List Addr} (h : ∀ (φ : Fx) (D : Ends), φ.B = B → (∀ v G H, Stt φ [] G H → P.p v G → D.rt v H) → M X φ ρ [] rest D) : Sr X B ρ rest P := fun σ G H eg kn D z =>
  h ⟨B, G, H, G⟩ D rfl (fun v G2 H2 S r => z v H2 S.st (P.up S.res r)) σ G H (Stt.start eg) kn
theorem sb_m {B : List Addr} {K : PySem.W.Frag} (h : ∀ (φ : Fx) (D : Ends), φ.B = B → (∀ σ v G H, Stt φ [] G H → P.p v G → D.rt v H ∧ (v = .non → D.nx σ H)) → M X φ ρ [] rest D) : Sb X B ρ rest P := fun σ G H eg kn D z1 z2 =>
  h ⟨B, G, H, G⟩ D rfl (fun σ' v G2 H2 S r => ⟨z1 v H2 S.st (P.up S.res r), fun e => z2 σ' H2 S.st (P.up S.res (e ▸ r))⟩) σ G H (Stt.start eg) kn
theorem em_ed (h : Ed X φ.B ρ e P) : Em X φ ρ hs e (fun v G H => Stt φ hs G H ∧ P.p v G) := fun σ G H S kn Q z =>
  h σ G H S.ok kn Q fun v H2 s r => z v _ H2 (ext_up S.ok) ⟨S.ev s, r⟩
theorem etm_et (h : Et X φ.B ρ e k) : Etm X φ ρ hs e k := fun σ G H S kn Q z => h σ G H S.ok kn Q fun H2 s => z _ H2 (ext_up S.ok) (S.ev s)
theorem m_nil (h : ∀ σ G H, Stt φ hs G H → Kn σ G ρ → D.nx σ H) : M X φ ρ hs [] D := fun σ G H S kn => ps_wb pss_nil (h σ G H S kn)
theorem m_st (h : Sm X φ ρ hs st F) (h' : ∀ σ G H, F σ G H → WB X rest D σ H) : M X φ ρ hs (st :: rest) D := fun σ G H S kn =>
  ps_wb (pss_cons ws_ps wb_ps) (h _ σ G H S kn fun σ' G' H' _ f => h' σ' G' H' f)
theorem m_ss (h : Ss X φ.B ρ st ρ') (h' : M X φ ρ' hs rest D) : M X φ ρ hs (st :: rest) D := fun σ G H S kn =>
  ps_wb (pss_cons ws_ps wb_ps) (h σ G H S.ok kn _ fun σ' H2 s k' => h' σ' _ H2 (S.ev s) k')
theorem m_ret (h : Em X φ ρ hs e FV) (h' : ∀ v G H, FV v G H → D.rt v H) : M X φ ρ hs (.Return (some e) pos :: rest) D := fun σ G H S kn =>
  ps_wb (pss_cons (ps_ret we_pe) wb_ps) (h σ G H S kn _ fun v G2 H2 _ f => h' v G2 H2 f)
theorem m_retd (h : Ed X φ.B ρ e P) (h' : ∀ v G H, Stt φ [] G H → P.p v G → D.rt v H) : M X φ ρ hs (.Return (some e) pos :: rest) D :=
  m_ret (em_ed h) fun v G H ⟨S, r⟩ => h' v G H S.none r
theorem m_if (ht : Etm X φ ρ hs c k) (h1 : k = true → M X φ ρ hs body { D with nx := fun σ H => WB X rest D σ H }) (h2 : k = false → M X φ ρ hs orelse { D with nx := fun σ H => WB X rest D σ H }) : M X φ ρ hs (.If c body orelse pos :: rest) D := fun σ G H S kn =>
  ps_wb (pss_cons (ps_if wt_pt wb_ps wb_ps) wb_ps) (ht σ G H S kn _ fun G2 H2 e S2 => by
    cases k with
    | true => exact iteT (h1 rfl σ G2 H2 S2 (kn.up e))
    | false => exact iteF (h2 rfl σ G2 H2 S2 (kn.up e)))
/-- x = e -/
theorem m_set (i : Nat) {x : Str} {p' : Pos} (hN : X.N.Nodup) (he : Em X φ ρ hs e FV) (h : ∀ v σ G H, FV v G H → Kn σ G ρ → WB X rest D (σ.set i (some v)) H) (hi : X.N[i]? = some x := by rfl) (hx : Loc X.env.scope x := by first | exact Or.inl rfl | exact Or.inr rfl)
    (hs' : swapsWith e (some (.Name x p')) pos.line X.env = pure false := by rfl) (hf : X.fn x = true ∨ X.env.scope.names.lookup x = some .local := by first | exact .inl rfl | exact .inr rfl) : M X φ ρ hs (.Assign [.Name x p'] e pos :: rest) D := fun σ G H S kn =>
  ps_wb (pss_cons (ps_set hN hi hx we_pe hs' hf) wb_ps) (he σ G H S kn _ fun v G2 H2 s f => h v σ G2 H2 f (kn.up s))
/-- x = e, a new thing -/
theorem m_new (i : Nat) {x : Str} {p' : Pos} {q : HP} (hN : X.N.Nodup) (he : Em X φ ρ hs e (fun v G H => ∃ p, v = .ref p ∧ Stt φ ((p, q) :: hs) G H)) (h : ∀ p, M X φ (ρ.set i (some (eP (.ref p)))) ((p, q) :: hs) rest D) (hi : X.N[i]? = some x := by rfl) (hx : Loc X.env.scope x := by first | exact Or.inl rfl | exact Or.inr rfl)
    (hs' : swapsWith e (some (.Name x p')) pos.line X.env = pure false := by rfl) (hf : X.fn x = true ∨ X.env.scope.names.lookup x = some .local := by first | exact .inl rfl | exact .inr rfl) : M X φ ρ hs (.Assign [.Name x p'] e pos :: rest) D :=
  m_set i hN he (fun v σ G H ⟨p, e, S⟩ kn => h p _ G H S (kn.set i e)) hi hx hs' hf
theorem Kn.forget {σ : L2.St} {G : Hp} (k : Kn σ G ρ) (i : Nat) : Kn σ G (ρ.set i none) := by
  refine ⟨by rw [List.length_set, k.1], fun j Q hj => ?_⟩
  by_cases hi : i = j
  · subst hi
    by_cases hl : i < ρ.length
    · rw [List.getElem?_set_self hl] at hj
      cases hj
    · rw [List.getElem?_eq_none (by rw [List.length_set]; omega)] at hj
      cases hj
  · rw [List.getElem?_set_ne hi] at hj
    exact k.2 j Q hj
/-! ### loops -/
theorem m_for {γ : Type} {tg iter : Expr} {Ps : List Pr} (hp : PassesOwn (model X.prog X.w) X.A X.env X.xe) (hc : X.calm = true) (hsrc : Es X φ.B ρ tg iter Ps) (C : Nat → γ → Prop) (hsf : γ → Hs) (ρf : γ → Rho) (z0 : γ) (c0 : C 0 z0) (e1 : hsf z0 = hs) (e2 : ρf z0 = ρ)
    (turn : ∀ i P z, Ps[i]? = some P → C i z → ∀ φ' : Fx, φ'.B = φ.B → (∀ hs G H, Stt φ' hs G H → Stt φ hs G H) → ∃ is ρ1, Tg X (ρf z) tg P is ρ1 ∧ ∀ D' : Ends, D'.rt = D.rt → (∀ z', C (i + 1) z' → ∀ σ' G' H', Stt φ' (hsf z') G' H' → Kn σ' G' (ρf z') → D'.nx σ' H') → M X φ' ρ1 (hsf z) body D')
    (done : ∀ z, C Ps.length z → M X φ (ρf z) (hsf z) rest D) (hs0 : ∀ x, foldedSetIterable iter X.env x = pure x := by intro _; rfl) : M X φ ρ hs (.For tg iter body [] pos :: rest) D := by
  obtain ⟨wi, hi, hw⟩ := hsrc
  intro σ G H S kn
  refine ps_wb (pss_cons (ps_for hp hc hi wg_pg wb_ps hs0) wb_ps) (hw σ G H S.ok kn _ fun J H1 s1 wk => ?_)
  have S1 := S.ev s1
  have k1 : Kn σ (ext G H H1) ρ := kn.up (ext_up S.ok)
  generalize ext G H H1 = Gk at wk S1 k1
  have bk : ∀ hs G H, Stt (φ.at Gk) hs G H → Stt φ hs G H := fun hs G H Z => Z.back S1.mid
  refine ⟨fun i m σ H => m = Ps.length - i ∧ i ≤ Ps.length ∧ ∃ z G, C i z ∧ Stt (φ.at Gk) (hsf z) G H ∧ Kn σ G (ρf z), ⟨_, rfl, Nat.zero_le _, z0, Gk, c0, e1 ▸ S1.at (Same.refl _), e2 ▸ k1⟩, ?_⟩
  rintro i m σ2 H2 ⟨rfl, hi', z, G2, c, S2, k2⟩
  by_cases hl : i < Ps.length
  · have hP : Ps[i]? = some Ps[i] := by simp [hl]
    have g2 : Same Gk G2 := S2.mid
    refine .inr ⟨wk.goes i H2 (g2.trans S2.ok.1) hl, fun σ' H' => ∃ z G, C (i + 1) z ∧ Stt (φ.at Gk) (hsf z) G H' ∧ Kn σ' G (ρf z), fun σ' H' q => ⟨_, by omega, rfl, hl, q⟩, fun x H3 y => ?_⟩
    obtain ⟨y0, y2⟩ := wk.yields i H2 x H3 _ (g2.trans S2.ok.1) hP y
    have y1 : Stp φ.B H2 H3 := sstp y0
    have u : Same (ext Gk H2 H3) (ext G2 H2 H3) := fun b o h => by
      cases q : H2 b with
      | some u =>
        rw [ext_some q] at h ⊢
        exact g2 b o h
      | none =>
        rw [ext_none q] at h ⊢
        exact h
    obtain ⟨is, ρ1, t1, t2⟩ := turn i _ z hP c (φ.at Gk) rfl bk
    have S3 := S2.ev y1
    have k3 : Kn σ2 (ext G2 H2 H3) (ρf z) := k2.up (ext_up S2.ok)
    have p3 := (Ps[i]).up u y2
    generalize ext G2 H2 H3 = G3 at S3 k3 p3
    refine t1 x σ2 G3 H3 S3.ok.1 k3 p3 _ fun σ4 _ k4 => ?_
    refine t2 _ ?_ ?_ σ4 G3 H3 S3 k4
    · rfl
    · exact fun z' c' σ' G' H' S' k' => ⟨z', G', c', S', k'⟩
  · have e : i = Ps.length := by omega
    subst e
    exact .inl ⟨wk.stops H2 (S2.mid.trans S2.ok.1), done z c σ2 G2 H2 (bk _ _ _ S2) k2⟩
theorem m_while {γ : Type} (hp : PassesOwn (model X.prog X.w) X.A X.env X.xe) (C : γ → Prop) (μ : γ → Nat) (b : γ → Bool) (hsf : γ → Hs) (ρf : γ → Rho) (z0 : γ) (c0 : C z0) (e1 : hsf z0 = hs) (e2 : ρf z0 = ρ)
    (test : ∀ z, C z → Etm X φ (ρf z) (hsf z) c (b z))
    (turn : ∀ z, C z → b z = true → ∀ D' : Ends, D'.rt = D.rt → (∀ z', C z' → μ z' < μ z → ∀ σ' G' H', Stt φ (hsf z') G' H' → Kn σ' G' (ρf z') → D'.nx σ' H') → M X φ (ρf z) (hsf z) body D')
    (done : ∀ z, C z → b z = false → M X φ (ρf z) (hsf z) rest D) : M X φ ρ hs (.While c body [] pos :: rest) D := by
  intro σ G H S kn
  refine ps_wb (pss_cons (ps_while hp wt_pt wb_ps) wb_ps) ⟨fun m σ H => ∃ z G, m = μ z ∧ C z ∧ Stt φ (hsf z) G H ∧ Kn σ G (ρf z), ⟨_, z0, G, rfl, c0, e1 ▸ S, e2 ▸ kn⟩, ?_⟩
  rintro m σ2 H2 ⟨z, G2, rfl, c2, S2, k2⟩
  refine test z c2 σ2 G2 H2 S2 k2 _ fun G3 H3 e3 S3 => ?_
  cases hb : b z with
  | true =>
    rw [if_pos rfl]
    refine ⟨fun σ' H' => ∃ z', C z' ∧ μ z' < μ z ∧ ∃ G', Stt φ (hsf z') G' H' ∧ Kn σ' G' (ρf z'), fun σ' H' ⟨z', q1, q2, G', q3, q4⟩ => ⟨μ z', q2, z', G', rfl, q1, q3, q4⟩, turn z c2 hb _ ?_ ?_ σ2 G3 H3 S3 (k2.up e3)⟩
    · rfl
    · exact fun z' q1 q2 σ' G' H' q3 q4 => ⟨z', q1, q2, G', q3, q4⟩
  | false =>
    rw [if_neg Bool.false_ne_true]
    exact done z c2 hb σ2 G3 H3 S3 (k2.up e3)
end
end Lk

/-! Srt: sorted. -/
namespace Lk
open PySem PySem.Spec PyProof.Rows L2 PySem.W
/-- the first number of a tuple -/
def firstI : PyData → Int
  | .tuple (.int n :: _) => n
  | _ => 0
def Firsts (ds : List PyData) : Prop := (∀ d ∈ ds, ∃ n r, d = .tuple (.int n :: r)) ∧ ∀ d ∈ ds, ∀ d' ∈ ds, firstI d = firstI d' → d = d' ∧ alike d d = true
def intO : KeyOrd where
  α := Int
  blt a b := decide (a < b)
  irrefl a := by simp
  trans a b c h1 h2 := by simp at h1 h2 ⊢; omega
  negTrans a b c h := by simp at h ⊢; omega
  total a b h1 h2 := by simp at h1 h2; omega
noncomputable def firstKind (h : Heap) (ds : List PyData) : KeyKind where
  toKeyOrd := intO
  keyOf v := open Classical in if q : ∃ d, d ∈ ds ∧ ∃ as, Reads h v d as then some (firstI q.choose) else none
  dflt := (0 : Int)
theorem reads_first {h : Heap} {v : Value} {n m : Int} {r r' : List PyData} {as as' : List Addr} (a : Reads h v (.tuple (.int n :: r)) as) (b : Reads h v (.tuple (.int m :: r')) as') : n = m := by
  cases a with
  | @tuple l o xs k _ _ h1 h2 h3 h4 =>
    cases b with
    | @tuple _ o' xs' k' _ _ g1 g2 g3 g4 =>
      rw [h1] at g1
      obtain rfl := Option.some.inj g1
      rw [h3] at g3
      injection g3 with g3 _
      subst g3
      revert h4 g4
      generalize xs.toList = ys
      intro h4 g4
      cases h4 with
      | cons r1 _ =>
        cases g4 with
        | cons r2 _ =>
          cases r1
          cases r2
          rfl
theorem firstKind_some {h : Heap} {ds : List PyData} (hf : Firsts ds) {v : Value} {d : PyData} {as : List Addr} (hd : d ∈ ds) (r : Reads h v d as) : (firstKind h ds).keyOf v = some (firstI d) := by
  have q : ∃ d, d ∈ ds ∧ ∃ as, Reads h v d as := ⟨d, hd, as, r⟩
  have e : (firstKind h ds).keyOf v = some (firstI q.choose) := by
    show (open Classical in if q : ∃ d, d ∈ ds ∧ ∃ as, Reads h v d as then some (firstI q.choose) else none) = _
    rw [dif_pos q]
  obtain ⟨h1, as', h2⟩ := q.choose_spec
  rw [e]
  generalize q.choose = d2 at h1 h2 ⊢
  obtain ⟨n, t, rfl⟩ := hf.1 d hd
  obtain ⟨m, t', rfl⟩ := hf.1 d2 h1
  rw [show firstI (.tuple (.int m :: t')) = m from rfl, show firstI (.tuple (.int n :: t)) = n from rfl, reads_first r h2]
theorem firstKind_inv {h : Heap} {ds : List PyData} {v : Value} {k : Int} (e : (firstKind h ds).keyOf v = some k) : ∃ d as, d ∈ ds ∧ Reads h v d as ∧ k = firstI d := by
  by_cases q : ∃ d, d ∈ ds ∧ ∃ as, Reads h v d as
  · have e' : (firstKind h ds).keyOf v = some (firstI q.choose) := by
      show (open Classical in if q : ∃ d, d ∈ ds ∧ ∃ as, Reads h v d as then some (firstI q.choose) else none) = _
      rw [dif_pos q]
    obtain ⟨h1, as', h2⟩ := q.choose_spec
    rw [e'] at e
    exact ⟨_, as', h1, h2, (Option.some.inj e).symm⟩
  · have e' : (firstKind h ds).keyOf v = none := by
      show (open Classical in if q : ∃ d, d ∈ ds ∧ ∃ as, Reads h v d as then some (firstI q.choose) else none) = _
      rw [dif_neg q]
      rfl
    rw [e'] at e
    cases e
/-- the data can be sorted by le -/
def CanSort (ds : List PyData) (le : PyData → PyData → Bool) : Prop := ∀ (prog : Program) (w : World) (A : Around) (s : Shared) (vs : List Value), EachIs (fun v d => ∃ as, Reads s.heap v d as) vs ds → (∀ d, d ∈ ds → A.units + d.depth < cLine) →
  ∃ κ : KeyKind, SortsAt prog w A s κ vs ∧ ∀ {β : Type} (R : Value → β → Prop) (f : β → PyData) (bs : List β), bs.map f = ds → EachIs R vs bs → EachIs R (sortVals κ false vs vs) (bs.mergeSort fun a b => le (f a) (f b))
theorem can_data {ds : List PyData} (hal : AllAlike ds) (hk : Sortable ds) : CanSort ds (fun a b => !dataLt b a) := fun prog w A s vs e hu => by
  refine ⟨dataKind s.heap ds, SortsAt.data e hal hk hu, fun R f bs hb er => ?_⟩
  subst hb
  exact sortVals_each (κ := dataKind s.heap (bs.map f)) (rev := false) (fun b => keyToks (f b)) er (each_of_map f (each_keys hal e))
theorem can_firsts {ds : List PyData} (hf : Firsts ds) : CanSort ds (fun a b => decide (firstI a ≤ firstI b)) := fun prog w A s vs e hu => by
  refine ⟨firstKind s.heap ds, ⟨fun v hv => ?_, ?_⟩, fun R f bs hb er => ?_⟩
  · obtain ⟨d, hd, as, r⟩ := e.left v hv
    exact ⟨_, firstKind_some hf hd r⟩
  · refine ⟨tuples' true, ?_, fun h2 E Q hq => ?_⟩
    · intro E x y a b Q ha hb hq
      obtain ⟨d, as, hd, ra, rfl⟩ := firstKind_inv ha
      obtain ⟨d', as', hd', rb, rfl⟩ := firstKind_inv hb
      have hq' : Q (decide (firstI d < firstI d')) s := hq
      have hu1 := hu d hd
      by_cases he : firstI d = firstI d'
      · obtain ⟨e1, e2⟩ := hf.2 d hd d' hd' he
        subst e1
        obtain ⟨n, r, rfl⟩ := hf.1 d hd
        cases ra with
        | @tuple l o xs k _ _ h1 h2 h3 h4 =>
          cases rb with
          | @tuple l' o' xs' k' _ _ g1 g2 g3 g4 =>
            have n1 : xs.size = (PyData.int n :: r).length := by simpa using SeqAt.ReadsAll.length _ _ _ h4
            have n2 : xs'.size = (PyData.int n :: r).length := by simpa using SeqAt.ReadsAll.length _ _ _ g4
            have e3 : decide (firstI (.tuple (.int n :: r)) < firstI (.tuple (.int n :: r))) = lexLt itemOrd (keyToksAll (PyData.int n :: r)) (keyToksAll (PyData.int n :: r)) := by
              rw [lex_irrefl]
              simp
            rw [e3] at hq'
            have hr : A.units + min (PyData.depthAll (PyData.int n :: r)) (PyData.depthAll (PyData.int n :: r)) < cLine := by
              simp only [PyData.depth] at hu1
              omega
            refine kat_lt h1 h3 g1 g3 (katLex_alike (PyData.int n :: r) (PyData.int n :: r) 0 _ _ _ _ h4 g4 (by simpa [alike] using e2) hr (fun _ _ x r' t ex => ?_) (by rw [n1, n2]) hq')
            obtain ⟨rfl, rfl⟩ := List.cons.inj ex
            exact fun z => nomatch z
      · obtain ⟨n, r, rfl⟩ := hf.1 d hd
        obtain ⟨m, r', rfl⟩ := hf.1 d' hd'
        have he : n ≠ m := he
        have hq' : Q (decide (n < m)) s := hq'
        cases ra with
        | @tuple l o xs k _ _ h1 h2 h3 h4 =>
          cases rb with
          | @tuple l' o' xs' k' _ _ g1 g2 g3 g4 =>
            refine kat_lt h1 h3 g1 g3 ?_
            revert h4 g4
            generalize decide (xs.size < xs'.size) = fin
            generalize xs.toList = ys
            generalize xs'.toList = zs
            intro h4 g4
            cases h4 with
            | cons r1 _ =>
              cases g4 with
              | cons r2 _ =>
                cases r1 with
                | int _ t =>
                  cases r2 with
                  | int _ u =>
                    rw [List.zip_cons_cons]
                    refine kat_cons ((SeqAt.EqAt.int_int n t m u) prog w _ _ ?_)
                    have e3 : (n == m) = false := by simpa using he
                    rw [e3]
                    refine kat_no ?_
                    exact oneLt_int hq'
    · obtain ⟨fs, t1, t2, t3⟩ := each_katTups e fun d hd => let ⟨n, r, q⟩ := hf.1 d hd; ⟨_, r, q⟩
      refine kat_kind (T := Value.type "int") t1 (by omega) (fun f hf' => ?_) (by decide) hq
      obtain ⟨x, r, as, m1, m2⟩ := t3 f hf'
      obtain ⟨n, r', q⟩ := hf.1 _ m1
      cases q
      exact looks_reads m2
  · subst hb
    have := sortVals_each (κ := firstKind s.heap (bs.map f)) (rev := false) (fun b => (firstI (f b) : Int)) er (each_of_map f ((each_mem e).mono fun v d ⟨⟨as, r⟩, hd⟩ => firstKind_some hf hd r))
    have e2 : (sortLe (firstKind s.heap (bs.map f)).toKeyOrd false fun b => (firstI (f b) : Int)) = fun a b => decide (firstI (f a) ≤ firstI (f b)) := by
      funext a b
      show (!decide (firstI (f b) < firstI (f a))) = _
      by_cases h : firstI (f b) < firstI (f a)
      · rw [decide_eq_true h, decide_eq_false (by omega)]
        rfl
      · rw [decide_eq_false h, decide_eq_true (by omega)]
        rfl
    rw [e2] at this
    exact this
end Lk

/-! Srt2: the calls. -/
namespace Lk
open PySem PySem.Spec PyProof.Rows L2 PySem.W
theorem each_paired {α β : Type} {R : α → β → Prop} : ∀ {as : List α} {bs : List β}, EachIs R as bs → Paired (fun b a => R a b) bs as
  | _, _, .nil => .nil
  | _, _, .cons h t => .cons h (each_paired t)
theorem paired_each {α β : Type} {R : β → α → Prop} : ∀ {as : List α} {bs : List β}, Paired R bs as → EachIs (fun a b => R b a) as bs
  | _, _, .nil => .nil
  | _, _, .cons h t => .cons h (paired_each t)
theorem vals_each {β : Type} {f : β → V} : ∀ {out : List Value} {bs : List β}, EachIs (fun v b => RelV (f b) v) out bs → Vals (bs.map f) out
  | _, _, .nil => .nil
  | _, _, .cons h t => .cons h (vals_each t)
section
variable {X : Cx} {pins : List (Addr × Obj)} {σ : L2.St} {H : Hp} {s : Shared}
/-- the values and what they read as -/
theorem reads_each (I : Inv X pins σ H s) : ∀ {ds : List PyData} {ws : List V} {us : List Value}, DpAll X.K H ws ds → Vals ws us → EachIs (fun v d => ∃ as, Reads s.heap v d as) us ds
  | [], _, _, h, r => by
    cases h
    cases r
    exact .nil
  | d :: ds, _, _, h, r => by
    cases h with
    | cons h1 h2 =>
      cases r with
      | cons r1 r2 => exact .cons (Dp.reads I d _ _ h1 r1) (reads_each I h2 r2)
theorem rel_zip : ∀ {ds : List PyData} {ws : List V} {us : List Value}, ws.length = ds.length → Vals ws us → EachIs (fun v (b : V × PyData) => RelV b.1 v) us (ws.zip ds)
  | [], [], _, _, r => by
    cases r
    exact .nil
  | d :: ds, w :: ws, _, hl, r => by
    cases r with
    | cons r1 r2 => exact .cons r1 (rel_zip (by simpa using hl) r2)
  | [], _ :: _, _, hl, _ => by simp at hl
  | _ :: _, [], _, hl, _ => by simp at hl
def sortZ (le : PyData → PyData → Bool) (ws : List V) (ds : List PyData) : List (V × PyData) := (ws.zip ds).mergeSort fun a b => le a.2 b.2
theorem dpa_len : ∀ {K : PySem.W.Frag} {H : Hp} {ds : List PyData} {ws : List V}, DpAll K H ws ds → ws.length = ds.length
  | _, _, [], _, h => by
    cases h
    rfl
  | _, _, d :: ds, _, h => by
    cases h with
    | cons h1 h2 => rw [List.length_cons, List.length_cons, dpa_len h2]
theorem cr_sortedC (hu : X.A.units + 64 < cLine) : CallR X (.builtin "sorted") (fun xs H Q => ∃ (a : Addr) (ws : List V) (ds : List PyData) (le : PyData → PyData → Bool), xs = [.ref a] ∧ SqL X.K H a ws ∧ DpAll X.K H ws ds ∧ CanSort ds le ∧ (∀ d ∈ ds, d.depth ≤ 60) ∧
    ∀ p, H p = none → Q (.ref p) (upd H p (.lst ((sortZ le ws ds).map (·.1))))) := by
  intro pins s σ H xs us Q I r h
  obtain ⟨a, ws, ds, le, rfl, hs, hd, hc, hdep, q⟩ := h
  obtain rfl := Vals.ref1 r
  obtain ⟨its, rv, hl, hz⟩ := I.list hs
  have e0 := reads_each I hd rv
  have e1 : EachIs (fun v d => ∃ as, Reads (sortingHeap (copyHeap s.heap its) (s.heap.objs.size + 1) its) v d as) its ds := e0.mono fun _ _ ⟨as, r⟩ => ⟨as, PyProof.Rows.Reads.keeps (fun _ _ => sorting_copy_old) r⟩
  obtain ⟨κ, S, key⟩ := hc X.prog X.w X.A.in1.in1 { s with heap := sortingHeap (copyHeap s.heap its) (s.heap.objs.size + 1) its } its e1 fun d hd' => by
    have := hdep d hd'
    show X.A.units + 2 + _ < _
    omega
  have hlen := dpa_len hd
  have out := key (fun v (b : V × PyData) => RelV b.1 v) (·.2) (ws.zip ds) (List.map_snd_zip (by omega)) (rel_zip hlen rv)
  refine sorted_vals hl.isList S (by rw [← rv.length]; exact hz) ?_
  obtain ⟨ep, he'⟩ := PyProof.Rows.sortedAll_at s.heap its (sortVals κ false its its).toArray
  refine ⟨.ref _, upd H (s.heap.objs.size + 1) (.lst ((sortZ le ws ds).map (·.1))), I.laid (t' := s.toks) (fun _ _ => PyProof.Rows.sortedAll_old) (Nat.le_succ _) ⟨?_, _, ep, vals_each out, he'⟩, rfl, q _ (I.hok.fresh (Nat.le_succ _))⟩
  unfold sortZ
  rw [List.length_map, (List.mergeSort_perm _ _).length_eq, List.length_zip]
  omega
end
theorem sortZ_snd {le : PyData → PyData → Bool} {ws : List V} {ds : List PyData} (h : ws.length = ds.length) : (sortZ le ws ds).map (·.2) = ds.mergeSort le := by
  unfold sortZ
  rw [List.map_mergeSort (s := le) (fun _ _ _ _ => rfl), List.map_snd_zip (by omega)]
theorem dha_zip {H : Hp} : ∀ {ds : List PyData} {ws : List V}, DhAll H ws ds → ∀ p ∈ ws.zip ds, Dh H p.1 p.2
  | [], _, h, p, hp => by
    cases h
    cases hp
  | d :: ds, _, h, p, hp => by
    cases h with
    | cons h1 h2 =>
      rw [List.zip_cons_cons] at hp
      rcases List.mem_cons.mp hp with rfl | hp
      · exact h1
      · exact dha_zip h2 p hp
theorem zip_dha {H : Hp} : ∀ {zs : List (V × PyData)}, (∀ p ∈ zs, Dh H p.1 p.2) → DhAll H (zs.map (·.1)) (zs.map (·.2))
  | [], _ => .nil
  | z :: zs, h => .cons (h z List.mem_cons_self) (zip_dha fun p hp => h p (List.mem_cons_of_mem _ hp))
theorem dha_len {H : Hp} {ds : List PyData} {ws : List V} (h : DhAll H ws ds) : ws.length = ds.length := dpa_len (dha_dpa (K := default) (Same.refl H) ds ws h)
theorem sortZ_dha {H : Hp} {le : PyData → PyData → Bool} {ws : List V} {ds : List PyData} (h : DhAll H ws ds) : DhAll H ((sortZ le ws ds).map (·.1)) (ds.mergeSort le) := by
  rw [← sortZ_snd (dha_len h)]
  exact zip_dha fun p hp => dha_zip h p ((List.mergeSort_perm _ _).mem_iff.mp hp)
section
variable {X : Cx} {B : List Addr} {ρ : Rho} {e : Expr} {pos p : Pos}
theorem ed_sorted {ds : List PyData} {le : PyData → PyData → Bool} (hu : X.A.units + 64 < cLine) (hg : Gl X "sorted") (hm : X.mg "sorted" = none) (ha : Ed X B ρ e (dP X.K (.list ds))) (hc : CanSort ds le) (hd : ∀ d ∈ ds, d.depth ≤ 60) (he : starEach [e] X.env = (false, eval e X.env) :: starEach [] X.env := by rfl) :
    Ed X B ρ (.Call (.Name "sorted" p) [e] [] pos) (dP X.K (.list (ds.mergeSort le))) :=
  ed_callB (cr_sortedC hu) hg hm (by decide +kernel) (ea_cons ha ea_nil he) (fun vs G H eg r1 Q z => by
    obtain ⟨v, rfl, h1⟩ := allp1 r1
    have h1 : Dh G v (.list ds) := h1
    cases h1 with
    | @lst a ws _ h2 h3 =>
      refine ⟨a, ws, ds, le, rfl, sql_up eg.1 h2, dha_dpa eg.1 _ _ h3, hc, hd, fun p hp => z _ _ (stp_new hp) ?_⟩
      rw [ext_new eg hp]
      exact Dh.lst upd_same (dpa_up (snew (snone eg.1 hp)) _ _ (sortZ_dha h3))) (by decide) (by decide) he
end
end Lk

/-! Srt3: sorted of a dict whose keys are tuples. -/
namespace Lk
open PySem PySem.Spec PyProof.Rows L2 PySem.W
def kD : L2.Key → PyData
  | .inl i => .int i
  | .inr x => .str x
theorem dh_kV {H : Hp} : ∀ k : L2.Key, Dh H (kV k) (kD k)
  | .inl i => .int i
  | .inr x => .str x
theorem dha_kV {H : Hp} : ∀ k : List L2.Key, DhAll H (k.map kV) (k.map kD)
  | [] => .nil
  | k :: ks => .cons (dh_kV k) (dha_kV ks)
def keyD (k : List L2.Key) : PyData := .tuple (k.map kD)
theorem isKeys_dha {H : Hp} : ∀ {kvs : List (List L2.Key × V)} {bs : List Addr}, IsKeys H kvs bs → DhAll H (bs.map V.ref) (kvs.map fun kv => keyD kv.1)
  | [], _, h => by
    cases h
    exact .nil
  | kv :: kvs, _, h => by
    cases h with
    | cons h1 h2 => exact .cons (.tup h1 (dha_kV _)) (isKeys_dha h2)
section
variable {X : Cx}
theorem cr_sortedDT (hcalm : X.calm = true) (hu : X.A.units + 64 < cLine) : CallR X (.builtin "sorted") (fun xs H Q => ∃ (d : Addr) (kvs : List (List L2.Key × V)) (le : PyData → PyData → Bool), xs = [V.ref d] ∧ Rd H d (.dT kvs) ∧ CanSort (kvs.map fun kv => keyD kv.1) le ∧ (∀ d ∈ kvs.map (fun kv => keyD kv.1), d.depth ≤ 60) ∧
    ∀ p bs, H p = none → IsKeys H kvs bs → Q (.ref p) (upd H p (.lst ((sortZ le (bs.map V.ref) (kvs.map fun kv => keyD kv.1)).map (·.1))))) := by
  intro pins s σ H xs us Q I r h
  obtain ⟨d, kvs, le, rfl, hd, hc, hdep, q⟩ := h
  obtain ⟨u, rfl, rx⟩ := r.one
  cases rx
  obtain ⟨z, hs, ks, pr, o, es, ep, ho, hx, hdt, he, hn⟩ := (show ObjOk X.prog X.w H s.heap d (.dT kvs) from hd.ok I.hok)
  have l1 : es.size = ks.length := size_of_entries he
  have l2 : kvs.length = ks.length := Paired.length pr
  refine Calls.call_function_entry PyProof.Rows.kind_sorted PyProof.Rows.plain_sorted PyProof.Rows.entry_sorted (PyProof.Rows.args_sorted1 _) ?_
  unfold Builtin.«sorted»
  refine wpAny_bind (m := checkCount "sorted" 1 1 _) (wpAny_pure ?_)
  refine wpAny_bind (PySem.W.kdu_collect (A := X.A.in1) (kdl_raw hs hx hdt) (I.ok.hd hcalm) ho (by omega) fun h' tk acc hk it => ?_)
  have ea : acc.toList = ks.map fun x => Value.ref x.2.1 := by
    have hl : acc.toList.length = ks.length := by rw [Array.length_toList, it.1]; exact l1
    apply List.ext_getElem?
    intro j
    rw [List.getElem?_map]
    cases hj : acc.toList[j]? with
    | none =>
      have h1 := List.getElem?_eq_none_iff.mp hj
      rw [List.getElem?_eq_none (by omega)]
      rfl
    | some v =>
      obtain ⟨en, hen, hv⟩ := it.2 j v (by rw [← Array.getElem?_toList]; exact hj)
      have qe := entry_at he j
      rw [hen] at qe
      cases hb : ks[j]? with
      | none =>
        rw [hb] at qe
        exact nomatch (show some en = none from qe)
      | some b =>
        rw [hb] at qe
        have e2 : en = entryOfKey (tupleKind (mixKind X.prog X.w)) b := Option.some.inj qe
        rw [hv, e2]
        rfl
  have eb : acc.toList = (ks.map fun x => x.2.1).map Value.ref := by rw [ea, List.map_map]; rfl
  have rv : Vals ((ks.map fun x => x.2.1).map V.ref) acc.toList := by rw [eb]; exact vals_refs _
  have hik : IsKeys H kvs (ks.map fun x => x.2.1) := isKeys_of pr
  generalize (ks.map fun x => x.2.1) = bs at rv hik
  have I1 : Inv X pins σ H { s with heap := h', toks := tk } := I.kept hk
  have hal : acc.toList.length = kvs.length := by rw [Array.length_toList, it.1]; omega
  refine wpAny_bind (wpAny_newList ?_ (by omega))
  have hoL : (h'.push (seqObj "list" acc.toList.toArray 0)).get? h'.objs.size = some (seqObj "list" acc.toList.toArray 0) := Heap.get?_push_size _ rfl
  show wpAny _ _ _ _ _ { s with heap := h'.push (seqObj "list" acc.toList.toArray 0), toks := tk }
  have dha := isKeys_dha hik
  have e0 : EachIs (fun v d => ∃ as, Reads h' v d as) acc.toList (kvs.map fun kv => keyD kv.1) := reads_each I1 (dha_dpa (K := X.K) (Same.refl H) _ _ dha) rv
  have e1 : EachIs (fun v d => ∃ as, Reads (sortingHeap (h'.push (seqObj "list" acc.toList.toArray 0)) h'.objs.size acc.toList) v d as) acc.toList (kvs.map fun kv => keyD kv.1) :=
    e0.mono fun _ _ ⟨as, r⟩ => ⟨as, PyProof.Rows.Reads.keeps (fun b o q => sortingHeap_old (Nat.ne_of_lt (Heap.lt_size q)) (Heap.get?_push_of_some _ q)) r⟩
  obtain ⟨κ, S, key⟩ := hc X.prog X.w X.A.in1.in1 { s with heap := sortingHeap (h'.push (seqObj "list" acc.toList.toArray 0)) h'.objs.size acc.toList, toks := tk } acc.toList e1 fun d hd' => by
    have := hdep d hd'
    show X.A.units + 2 + _ < _
    omega
  have hlen : (bs.map V.ref).length = (kvs.map fun kv => keyD kv.1).length := dha_len dha
  have out := key (fun v (b : V × PyData) => RelV b.1 v) (·.2) ((bs.map V.ref).zip (kvs.map fun kv => keyD kv.1)) (List.map_snd_zip (by omega)) (rel_zip hlen rv)
  refine wpAny_bind (wpAny_holding (wpAny_call_entry PyProof.Rows.slot_list_sort ⟨_, hoL, rfl⟩ PyProof.Rows.entry_list_sort
    (list_sort_vals (κ := κ) (s := { s with heap := h'.push (seqObj "list" acc.toList.toArray 0), toks := tk }) hoL S (by omega) ⟨_, rfl, ?_⟩) (PyProof.Rows.args_list_sort _)))
  obtain ⟨e', he'⟩ := PyProof.Rows.sortedHeap_at (vs := acc.toList) (out := (sortVals κ false acc.toList acc.toList).toArray) hoL
  refine wpAny_pure ⟨_, rfl, .ref h'.objs.size, upd H h'.objs.size (.lst ((sortZ le (bs.map V.ref) (kvs.map fun kv => keyD kv.1)).map (·.1))), I1.laid (t' := tk) (fun b u e => ?_) (Nat.le_refl _)
    ⟨?_, _, e', vals_each out, he'⟩, rfl, q _ _ (I1.hok.fresh (Nat.le_refl _)) hik⟩
  · have hb : b < h'.objs.size := Heap.lt_size e
    rw [PyProof.Rows.sortedHeap_old (Nat.ne_of_lt hb) (by rw [size_push']; exact Nat.lt_succ_of_lt hb)]
    exact Heap.get?_push_of_some _ e
  · unfold sortZ
    rw [List.length_map, (List.mergeSort_perm _ _).length_eq, List.length_zip]
    rw [List.length_map] at hlen ⊢
    rw [List.length_map] at hlen ⊢
    omega
end
end Lk

/-! Dt: dicts whose keys are tuples: a display of one pair, update. -/
namespace Lk
open PySem PySem.Spec PyProof.Rows L2
def mergeT (kvs more : List (List L2.Key × V)) : List (List L2.Key × V) := more.foldl (fun acc kv => putK acc kv.1 kv.2) kvs
theorem length_mergeT : ∀ (more kvs : List (List L2.Key × V)), (mergeT kvs more).length ≤ kvs.length + more.length
  | [], kvs => by show kvs.length ≤ kvs.length + 0; omega
  | p :: r, kvs => by
    have h1 := length_mergeT r (putK kvs p.1 p.2)
    have h2 := length_putK kvs p.1 p.2
    show (mergeT (putK kvs p.1 p.2) r).length ≤ _
    rw [List.length_cons]; omega
theorem kt_merge {H : Hp} : ∀ {more kvs : List (List L2.Key × V)} {ms xs : List (List L2.Key × Addr × Value)}, KT H more ms → KT H kvs xs → KT H (mergeT kvs more) (storedAllH xs ms)
  | [], _, _, _, h, r => by
    cases h
    exact r
  | _ :: _, _, _, _, h, r => by
    cases h with
    | cons h1 h2 =>
      obtain ⟨g1, g2, g3⟩ := h1
      have e := r.put _ g2 g3
      have f := kt_merge h2 e
      unfold storedAllH
      rw [List.foldl_cons, ← g1]
      exact f
section
variable {X : Cx} {pos : Pos}
theorem mt_updT (hu : X.A.units + 1 < cLine) : MtR X "dict.update" (fun x xs H Q => ∃ (a b : Addr) (kvs more : List (List L2.Key × V)), x = .ref a ∧ xs = [.ref b] ∧ H a = some (.dT kvs) ∧ H b = some (.dT more) ∧ a ≠ b ∧ kvs ≠ [] ∧ kvs.length + more.length ≤ 100000 ∧ Q .non (upd H a (.dT (mergeT kvs more)))) := by
  intro pins s σ H x xs v us Q I rx rxs h
  obtain ⟨a, b, kvs, more, rfl, rfl, ha, hb, hab, hne, hsz, q⟩ := h
  cases rx
  obtain ⟨u, rfl, ru⟩ := vals1 rxs
  cases ru
  obtain ⟨z, hd, ks, rel, dd⟩ := dt_of I.hok ha
  obtain ⟨z2, hd2, ms, rel2, dd2⟩ := dt_of I.hok hb
  have l1 := Paired.length rel
  have l2 := Paired.length rel2
  have hne' : ks ≠ [] := fun e => hne (List.length_eq_zero_iff.mp (by rw [l1, e]; rfl))
  refine call_update_dictH (knd := tupleKind (mixKind X.prog X.w)) (tupleKind_room_in1 hu) hab hd2 dd dd2 (.inl hne') (by rw [← l1, ← l2]; exact small hsz) fun h' d1 d2 hs => ?_
  have hl : (mergeT kvs more).length ≤ sizeLine := by
    have := length_mergeT more kvs
    exact small (by omega)
  obtain ⟨q', es, ep, hq, h2, h3, h4, _, h5⟩ := d1
  refine ⟨.non, upd H a (.dT (mergeT kvs more)), d_write I (by rw [ha]; exact True.intro) hs ⟨q', hq⟩ ⟨hl, hd, _, (kt_merge rel2 rel).keeps fun c ys ec => ?_, q', es, ep, hq, h2, h3, h4, h5⟩, rfl, q⟩
  rw [upd_ne (ne_of ec ha (fun z => nomatch z))]
  exact ec
/-- {k: v} with a tuple as its key -/
def tDispT1 (tk tv : TE) : TE := fun σ H Q => ∀ p, H p = none → tk σ (upd H p (.dT [])) fun x H1 => tv σ H1 fun y H2 => H2 p = some (.dT []) ∧ ∃ (b : Addr) (k : List L2.Key), x = .ref b ∧ H2 b = some (.tup (k.map kV)) ∧ Q (.ref p) (upd H2 p (.dT [(k, y)]))
theorem pe_dispT1 {k v : Expr} {tk tv : TE} (hu : X.A.units + 1 < cLine) (hk : PE X k tk) (hv : PE X v tv) : PE X (.Dict [some k] [v] pos) (tDispT1 tk tv) := by
  refine ⟨fun pins s σ H Q I q => ?_⟩
  have hn := I.hok.fresh (Nat.le_refl s.heap.objs.size)
  have I1 := I.laid (a := s.heap.objs.size) (o := .dT []) (h' := s.heap.push { cls := .type "dict", data := .dict #[] }) (t' := s.toks) (fun _ _ q => Heap.get?_push_of_some _ q) (Nat.le_refl _) (dt_empty s.heap I.big)
  have hne : pairTrees [some k] [v] X.env pos ≠ [] := fun z => nomatch z
  rw [arm_eval_Dict, zip_pairTrees [some k] [v] X.env pos rfl rfl, dictDisplay_pairs _ hne (by show 1 < 17; decide)]
  refine wpAny_bind (wpAny_standAt (wpAny_bind (wpAny_subDictH (knd := tupleKind (mixKind X.prog X.w)) (Q := fun d s' => wpAny (model X.prog X.w) X.A (pure (Value.ref d)) (EP X pins σ Q) X.xe s') (show X.A.units < cLine by omega) (by show 1 ≤ 15; decide) ?_)))
  refine pairTrees_cons_walk (thn (hk.run pins _ σ _ _ I1 (q _ hn)) fun u s1 ⟨x, H1, I2, rx, q1⟩ => thn (hv.run pins s1 σ H1 _ I2 q1) fun w2 s2 ⟨y, H2, I3, ry, q2⟩ => pairTrees_nil_walk ?_)
  obtain ⟨e, b, ks, rfl, eb, q3⟩ := q2
  cases rx
  obtain ⟨z, hd, vs0, r0, dd⟩ := dt_of I3.hok e
  cases r0
  refine ⟨[(ks, b, w2)], ⟨rfl, rfl, key_of I3.hok eb, trivial⟩, dd, fun h' tk dd' hs => wpAny_pure ?_⟩
  obtain ⟨q', es, ep, hq, h2, h3, h4, _, h5⟩ := dd'
  refine ⟨.ref s.heap.objs.size, upd H2 s.heap.objs.size (.dT [(ks, y)]), d_write I3 (by rw [e]; exact True.intro) hs ⟨q', hq⟩ ⟨small (by show 1 ≤ 100000; decide), hd, [(ks, b, w2)], .cons ⟨rfl, ?_, ry⟩ .nil, q', es, ep, hq, h2, h3, h4, h5⟩, rfl, q3⟩
  rw [upd_ne (ne_of eb e (fun z => nomatch z))]
  exact eb
end
end Lk

/-! Da5: expressions and statements over hidden things. -/
namespace Lk
open PySem PySem.Spec PyProof.Rows L2
def Eam (X : Cx) (φ : Fx) (ρ : Rho) (hs : Hs) (es : List Expr) (F : List V → Hp → Hp → Prop) : Prop := ∀ (σ : L2.St) (G H : Hp), Stt φ hs G H → Kn σ G ρ → ∀ Q : List V → Hp → Prop, (∀ vs G2 H2, Same G G2 → F vs G2 H2 → Q vs H2) → WA X es σ H Q
/-- the dict's keys are these cells -/
def cellK (c : Int × Int) : List L2.Key := [.inl c.1, .inl c.2]
theorem cellK_inj {a b : Int × Int} (h : cellK a = cellK b) : a = b := by
  unfold cellK at h
  injection h with h1 h2
  injection h1 with h1
  injection h2 with h2 _
  injection h2 with h2
  exact Prod.ext h1 h2
def dTP (ks : List (Int × Int)) : HP := ⟨fun o _ => ∃ kvs : List (List L2.Key × V), o = .dT kvs ∧ kvs.map (·.1) = ks.map cellK, fun _ h => h, fun ⟨_, h, _⟩ => nomatch h⟩
/-- a list of such values -/
def lHP (Ps : List Pr) : HP := ⟨fun o G => ∃ xs, o = .lst xs ∧ AllP Ps xs G, fun e ⟨xs, h1, h2⟩ => ⟨xs, h1, h2.up e⟩, fun ⟨_, h, _⟩ => nomatch h⟩
section
variable {X : Cx} {φ : Fx} {ρ ρ' : Rho} {hs hs' : Hs} {st : Stmt} {rest body orelse : List Stmt} {D : Ends} {FV F2 : V → Hp → Hp → Prop} {FL : List V → Hp → Hp → Prop} {e o c a : Expr} {es : List Expr} {P P1 P2 : Pr} {Ps : List Pr} {pos p apos cpos : Pos} {k : Bool}
theorem eam_ea (h : Ea X φ.B ρ es Ps) : Eam X φ ρ hs es (fun vs G H => Stt φ hs G H ∧ AllP Ps vs G) := fun σ G H S kn Q z =>
  h σ G H S.ok kn Q fun vs H2 s r => z vs _ H2 (ext_up S.ok) ⟨S.ev s, r⟩
theorem eam_one (h : Em X φ ρ hs e FV) (hs1 : starEach [e] X.env = (false, eval e X.env) :: starEach [] X.env := by rfl) : Eam X φ ρ hs [e] (fun vs G H => ∃ v, vs = [v] ∧ FV v G H) := fun σ G H S kn Q z =>
  pa_wa (pa_cons we_pe pa_nil hs1) (h σ G H S kn _ fun v G2 H2 s f => z [v] G2 H2 s ⟨v, rfl, f⟩)
theorem em_callB {x : Str} {id : String} {r : List V → Hp → VK → Prop} (hc : CallR X (.builtin id) r) (hg : Gl X x) (hm : X.mg x = none) (hv : bootBuiltins x = some (.builtin id)) (ha : Eam X φ ρ hs (e :: es) FL) (hr : ∀ vs G H, FL vs G H → ∀ Q : VK, (∀ v G2 H2, Same G G2 → FV v G2 H2 → Q v H2) → r vs H Q) (hn : x ≠ "__name__" := by decide) (hdb : (x == ("__debug__" : Str)) = false := by decide)
    (he : starEach (e :: es) X.env = (false, eval e X.env) :: starEach es X.env := by rfl) (hpl : (backTo pos (starEach es X.env)).any (·.1) = false := by rfl) : Em X φ ρ hs (.Call (.Name x p) (e :: es) [] pos) FV := fun σ G H S k Q z =>
  pe_we (pe_callB hc hg hm hv wa_pa hn hdb he hpl) (ha σ G H S k _ fun vs G2 H2 s f => hr vs G2 H2 f Q fun v G3 H3 s3 f3 => z v G3 H3 (s.trans s3) f3)
theorem em_callTy {x : Str} {id : String} {r : List V → Hp → VK → Prop} (hc : CallR X (.type id) r) (hg : Gl X x) (hm : X.mg x = none) (hv : bootBuiltins x = some (.type id)) (ha : Eam X φ ρ hs (e :: es) FL) (hr : ∀ vs G H, FL vs G H → ∀ Q : VK, (∀ v G2 H2, Same G G2 → FV v G2 H2 → Q v H2) → r vs H Q) (hn : x ≠ "__name__" := by decide) (hdb : (x == ("__debug__" : Str)) = false := by decide)
    (he : starEach (e :: es) X.env = (false, eval e X.env) :: starEach es X.env := by rfl) (hpl : (backTo pos (starEach es X.env)).any (·.1) = false := by rfl) : Em X φ ρ hs (.Call (.Name x p) (e :: es) [] pos) FV := fun σ G H S k Q z =>
  pe_we (pe_callTy hc hg hm hv wa_pa hn hdb he hpl) (ha σ G H S k _ fun vs G2 H2 s f => hr vs G2 H2 f Q fun v G3 H3 s3 f3 => z v G3 H3 (s.trans s3) f3)
/-- o.m(e) of a hidden thing -/
theorem sm_expr (he : Em X φ ρ hs e FV) (hs' : swapsWith e none pos.line X.env = pure false := by rfl) : Sm X φ ρ hs (.Expr e pos) (fun σ G H => ∃ v, FV v G H ∧ Kn σ G ρ) := fun D σ G H S kn z =>
  ps_ws (ps_expr we_pe hs') (he σ G H S kn _ fun v G2 H2 s f => z σ G2 H2 s ⟨v, f, kn.up s⟩)
theorem em_meth {o : Expr} {name : Str} {T id : String} {r : V → List V → Hp → VK → Prop} (pa : PlainAttrs T) (slot : Slot T name id) (hty : typeOf (.builtin id) = pure (.type "method_descriptor")) (hm : MtR X id r) (ho : Em X φ ρ hs o F2) (ha : ∀ v σ G H, F2 v G H → Kn σ G ρ → ∀ Q : List V → Hp → Prop, (∀ vs G2 H2, Same G G2 → FL (v :: vs) G2 H2 → Q vs H2) → WA X (e :: es) σ H Q) (hT : ∀ v G H, F2 v G H → tyV X.K T v H)
    (hr : ∀ v vs G H, FL (v :: vs) G H → ∀ Q : VK, (∀ v G2 H2, Same G G2 → FV v G2 H2 → Q v H2) → r v vs H Q) (hbase : attributeBase o name X.env (eval o X.env) = eval o X.env := by rfl)
    (hfew : ((backTo cpos (starEach (e :: es) X.env)).all (fun x => !x.1) && (backToKw cpos (keywordEach [] X.env)).all (fun x => x.1.isSome)
      && decide ((e :: es).length + ([] : List Keyword).length + (if ([] : List Keyword).isEmpty then 0 else 1) < 30)) = true := by rfl)
    (hline : (apos.endLine == cpos.line) = true := by rfl) (hs1 : starEach (e :: es) X.env = (false, eval e X.env) :: starEach es X.env := by rfl) (hplain : (backTo cpos (starEach es X.env)).any (·.1) = false := by rfl) :
    Em X φ ρ hs (.Call (.Attribute o name apos) (e :: es) [] cpos) FV := fun σ G H S k Q z =>
  pe_we (pe_bm pa slot hty hm we_pe wa_pa hbase hfew hline hs1 hplain) (ho σ G H S k _ fun v G2 H2 s f => ⟨hT v G2 H2 f, ha v σ G2 H2 f (k.up s) _ fun vs G3 H3 s3 f3 => hr v vs G3 H3 f3 Q fun w G4 H4 s4 f4 => z w G4 H4 ((s.trans s3).trans s4) f4⟩)
/-! dicts whose keys are cells -/
theorem em_newT : Em X φ ρ hs (.Dict [] [] pos) (fun v G H => ∃ p, v = .ref p ∧ Stt φ ((p, dTP []) :: hs) G H) := fun σ G H S k Q z =>
  pe_we pe_dnewT fun p hp => z _ G _ (Same.refl _) ⟨p, rfl, S.new hp ⟨[], rfl, rfl⟩⟩
/-- the cell as a tuple that the heap tracks -/
theorem dh_cell {G : Hp} {v : V} {c : Int × Int} (h : Dh G v (.tuple [.int c.1, .int c.2])) : ∃ b, v = .ref b ∧ G b = some (.tup ((cellK c).map kV)) := by
  cases h with
  | tup h1 h2 =>
    cases h2 with
    | cons a1 a2 =>
      cases a2 with
      | cons b1 b2 =>
        cases b2
        cases a1
        cases b1
        exact ⟨_, rfl, h1⟩
theorem em_dispT {c : Int × Int} {kx vx : Expr} (hu : X.A.units + 1 < cLine) (hk : Ed X φ.B ρ kx (dP X.K (.tuple [.int c.1, .int c.2]))) (hv : Ed X φ.B ρ vx P) : Em X φ ρ hs (.Dict [some kx] [vx] pos) (fun v G H => ∃ p, v = .ref p ∧ Stt φ ((p, dTP [c]) :: hs) G H) := fun σ G H S kn Q z =>
  pe_we (pe_dispT1 hu we_pe we_pe) fun p hp => by
    have S1 := S.new (q := dTP []) (o := .dT []) hp ⟨[], rfl, rfl⟩
    refine hk σ G _ S1.ok kn _ fun x H1 s1 r1 => ?_
    have S2 := S1.ev s1
    refine hv σ _ H1 S2.ok (kn.up (ext_up S1.ok)) _ fun y H2 s2 r2 => ?_
    have S3 := S2.ev s2
    have u := (ext_up S1.ok (H2 := H1)).trans (ext_up S2.ok (H2 := H2))
    have r1' := (dP X.K (.tuple [.int c.1, .int c.2])).up (ext_up S2.ok (H2 := H2)) r1
    obtain ⟨b, rfl, hb⟩ := dh_cell r1'
    obtain ⟨o, ho, kvs, rfl, hkv⟩ := S3.get (i := 0) rfl
    have hkv : kvs = [] := by
      cases kvs with
      | nil => rfl
      | cons _ _ => simp at hkv
    subst hkv
    exact ⟨ho, b, cellK c, rfl, S3.ok.1 _ _ hb, z _ _ _ u ⟨p, rfl, S3.put (i := 0) rfl ⟨_, rfl, rfl⟩⟩⟩
theorem etm_pc {t : TE} {op : CmpOp} (h : PC X op a c t) (hm : behindInMarks op c = false) (q : ∀ (σ : L2.St) (G H : Hp), Stt φ hs G H → Kn σ G ρ → ∀ Q : VK, (∀ G2 H2, Same G G2 → Stt φ hs G2 H2 → Q (.bl k) H2) → t σ H Q) : Etm X φ ρ hs (.Compare a [op] [c] pos) k := fun σ G H S kn Q z =>
  pt_wt (pt_cmp h hm) (q σ G H S kn _ fun G2 H2 s S2 => ⟨k, rfl, z G2 H2 s S2⟩)
theorem valV_keys {κ : Type} [DecidableEq κ] {kvs : List (κ × V)} {k : κ} : (valV kvs k).isSome = decide (k ∈ kvs.map (·.1)) := by
  rw [← valV_any]
  by_cases h : k ∈ kvs.map (·.1)
  · rw [decide_eq_true h]
    obtain ⟨p, hp, e⟩ := List.mem_map.mp h
    exact List.any_eq_true.mpr ⟨p, hp, decide_eq_true e⟩
  · rw [decide_eq_false h]
    refine List.any_eq_false.mpr fun p hp => ?_
    rw [decide_eq_false fun e => h (List.mem_map.mpr ⟨p, hp, e⟩)]
    exact Bool.false_ne_true
theorem mem_cellK {c : Int × Int} {ks : List (Int × Int)} : cellK c ∈ ks.map cellK ↔ c ∈ ks := by
  constructor
  · intro h
    obtain ⟨d, hd, e⟩ := List.mem_map.mp h
    rw [← cellK_inj e]
    exact hd
  · intro h
    exact List.mem_map.mpr ⟨c, h, rfl⟩
/-- near not in found -/
theorem etm_notinT {i : Nat} {d : Addr} {ks : List (Int × Int)} {cl : Int × Int} (hu : X.A.units + 1 < cLine) (hi : hs[i]? = some (d, dTP ks)) (ha : Ed X φ.B ρ a (dP X.K (.tuple [.int cl.1, .int cl.2]))) (hc : Ed X φ.B ρ c (eP (.ref d))) (hm : behindInMarks .NotIn c = false := by rfl) :
    Etm X φ ρ hs (.Compare a [.NotIn] [c] pos) (!decide (cl ∈ ks)) := etm_pc (pc_dnotin hu we_pe we_pe) hm fun σ G H S kn Q z => by
  refine ha σ G H S.ok kn _ fun y H1 s1 r1 => ?_
  have S1 := S.ev s1
  refine hc σ _ H1 S1.ok (kn.up (ext_up S.ok)) _ fun x H2 s2 r2 => ?_
  have S2 := S1.ev s2
  have r2 : x = .ref d := r2
  subst r2
  have r1' := (dP X.K (.tuple [.int cl.1, .int cl.2])).up (ext_up S1.ok (H2 := H2)) r1
  obtain ⟨b, rfl, hb⟩ := dh_cell r1'
  obtain ⟨o, ho, kvs, rfl, hkv⟩ := S2.get hi
  refine ⟨d, _, rfl, .t ho (S2.ok.1 _ _ hb), ?_⟩
  rw [valV_keys, hkv, decide_eq_decide.mpr mem_cellK]
  exact z _ _ ((ext_up S.ok).trans (ext_up S1.ok)) S2
def insC (ks : List (Int × Int)) (c : Int × Int) : List (Int × Int) := if c ∈ ks then ks else ks ++ [c]
theorem keys_put {kvs : List (List L2.Key × V)} {ks : List (Int × Int)} {c : Int × Int} {v : V} (h : kvs.map (·.1) = ks.map cellK) : (putK kvs (cellK c) v).map (·.1) = (insC ks c).map cellK := by
  have e := valV_keys (kvs := kvs) (k := cellK c)
  rw [← valV_any] at e
  unfold putK insC
  by_cases hc : c ∈ ks
  · have : (kvs.any fun kv => decide (kv.1 = cellK c)) = true := by
      rw [e, h]
      simp only [decide_eq_true_eq]
      exact mem_cellK.mpr hc
    rw [if_pos this, if_pos hc, List.map_map, ← h]
    refine List.map_congr_left fun p _ => ?_
    show (if p.1 = cellK c then (p.1, v) else p).1 = p.1
    split <;> rfl
  · have : ¬ (kvs.any fun kv => decide (kv.1 = cellK c)) = true := by
      rw [e, h]
      simp only [decide_eq_true_eq]
      exact fun z => hc (mem_cellK.mp z)
    rw [if_neg this, if_neg hc, List.map_append, List.map_append, h]
    rfl
/-- fresh[near] = True -/
theorem sm_putT {i : Nat} {d : Addr} {ks : List (Int × Int)} {cl : Int × Int} {pos' : Pos} (hu : X.A.units + 1 < cLine) (hi : hs[i]? = some (d, dTP ks)) (hl : ks.length < 100000) (hv : Ed X φ.B ρ e P) (ho : Ed X φ.B ρ o (eP (.ref d))) (ha : Ed X φ.B ρ a (dP X.K (.tuple [.int cl.1, .int cl.2])))
    (hs1 : swapsWith e (some (.Subscript o a pos')) pos.line X.env = pure false := by rfl) : Sm X φ ρ hs (.Assign [.Subscript o a pos'] e pos) (fun σ G H => Stt φ (hs.set i (d, dTP (insC ks cl))) G H ∧ Kn σ G ρ) := fun D σ G H S kn z =>
  ps_ws (ps_dput hu we_pe we_pe we_pe hs1) (hv σ G H S.ok kn _ fun v H1 s1 r1 => by
    have S1 := S.ev s1
    have k1 := kn.up (ext_up S.ok (H2 := H1))
    refine ho σ _ H1 S1.ok k1 _ fun x H2 s2 r2 => ?_
    have S2 := S1.ev s2
    have k2 := k1.up (ext_up S1.ok (H2 := H2))
    have r2 : x = .ref d := r2
    subst r2
    refine ha σ _ H2 S2.ok k2 _ fun y H3 s3 r3 => ?_
    have S3 := S2.ev s3
    have k3 := k2.up (ext_up S2.ok (H2 := H3))
    obtain ⟨b, rfl, hb⟩ := dh_cell r3
    obtain ⟨o', ho', kvs, rfl, hkv⟩ := S3.get hi
    have hl' : kvs.length = ks.length := by
      have := congrArg List.length hkv
      rw [List.length_map, List.length_map] at this
      exact this
    exact ⟨d, _, rfl, .t ho' (S3.ok.1 _ _ hb) (Nat.lt_of_lt_of_le (by omega) (small (Nat.le_refl 100000))), z _ _ _ (((ext_up S.ok).trans (ext_up S1.ok)).trans (ext_up S2.ok)) ⟨S3.put hi ⟨_, rfl, keys_put hkv⟩, k3⟩⟩)
end
end Lk

/-! Da6: update, list, sorted of dicts whose keys are cells; two names at once. -/
namespace Lk
open PySem PySem.Spec PyProof.Rows L2
def cD (c : Int × Int) : PyData := .tuple [.int c.1, .int c.2]
theorem keyD_cellK (c : Int × Int) : keyD (cellK c) = cD c := rfl
theorem map_keyD {kvs : List (List L2.Key × V)} {ks : List (Int × Int)} (h : kvs.map (·.1) = ks.map cellK) : kvs.map (fun kv => keyD kv.1) = ks.map cD := by
  have e : kvs.map (fun kv => keyD kv.1) = (kvs.map (·.1)).map keyD := by rw [List.map_map]; rfl
  rw [e, h, List.map_map]
  rfl
theorem keys_merge : ∀ {more kvs : List (List L2.Key × V)} {ms ks : List (Int × Int)}, kvs.map (·.1) = ks.map cellK → more.map (·.1) = ms.map cellK → (mergeT kvs more).map (·.1) = (ms.foldl insC ks).map cellK
  | [], _, [], _, h, _ => h
  | [], _, _ :: _, _, _, h2 => by simp at h2
  | _ :: _, _, [], _, _, h2 => by simp at h2
  | p :: r, kvs, m :: ms, ks, h, h2 => by
    rw [List.map_cons, List.map_cons] at h2
    injection h2 with e1 e2
    show (mergeT (putK kvs p.1 p.2) r).map (·.1) = _
    rw [e1]
    exact keys_merge (ks := insC ks m) (keys_put h) e2
theorem len_keys {kvs : List (List L2.Key × V)} {ks : List (Int × Int)} (h : kvs.map (·.1) = ks.map cellK) : kvs.length = ks.length := by
  have := congrArg List.length h
  rw [List.length_map, List.length_map] at this
  exact this
section
variable {X : Cx} {φ : Fx} {ρ ρ' : Rho} {hs hs' : Hs} {st : Stmt} {rest body orelse : List Stmt} {D : Ends} {FV F2 : V → Hp → Hp → Prop} {FL : List V → Hp → Hp → Prop} {e o c a : Expr} {es : List Expr} {P P1 P2 : Pr} {Ps : List Pr} {pos p apos cpos : Pos} {k : Bool}
/-- found.update(fresh) -/
theorem em_updT {i j : Nat} {d f : Addr} {ks ms : List (Int × Int)} (hu : X.A.units + 1 < cLine) (hi : hs[i]? = some (d, dTP ks)) (hj : hs[j]? = some (f, dTP ms)) (hne : ks ≠ []) (hij : i ≠ j) (hl : ks.length + ms.length ≤ 100000) (ho : Ed X φ.B ρ o (eP (.ref d))) (ha : Ed X φ.B ρ a (eP (.ref f)))
    (hbase : attributeBase o "update" X.env (eval o X.env) = eval o X.env := by rfl)
    (hfew : ((backTo cpos (starEach [a] X.env)).all (fun x => !x.1) && (backToKw cpos (keywordEach [] X.env)).all (fun x => x.1.isSome)
      && decide (([a] : List Expr).length + ([] : List Keyword).length + (if ([] : List Keyword).isEmpty then 0 else 1) < 30)) = true := by rfl)
    (hline : (apos.endLine == cpos.line) = true := by rfl) (hs1 : starEach [a] X.env = (false, eval a X.env) :: starEach [] X.env := by rfl) (hplain : (backTo cpos (starEach [] X.env)).any (·.1) = false := by rfl) :
    Em X φ ρ hs (.Call (.Attribute o "update" apos) [a] [] cpos) (fun v G H => Stt φ (hs.set i (d, dTP (ms.foldl insC ks))) G H) := fun σ G H S k Q z =>
  pe_we (pe_bm PySem.F.plainAttrs_dict PySem.F.slot_dict_update PySem.F.type_dict_update (mt_updT hu) we_pe (pa_cons we_pe pa_nil hs1) hbase hfew hline hs1 hplain) (ho σ G H S.ok k _ fun x H1 s1 r1 => by
    have S1 := S.ev s1
    have r1 : x = .ref d := r1
    subst r1
    obtain ⟨o1, ho1, kv1, rfl, hk1⟩ := S1.get hi
    refine ⟨.inr (.inr (.inl ⟨rfl, .inr ⟨_, ho1⟩⟩)), ?_⟩
    refine ha σ _ H1 S1.ok (k.up (ext_up S.ok)) _ fun y H2 s2 r2 => ?_
    have S2 := S1.ev s2
    have r2 : y = .ref f := r2
    subst r2
    obtain ⟨o1, ho1, kv1, rfl, hk1⟩ := S2.get hi
    obtain ⟨o2, ho2, kv2, rfl, hk2⟩ := S2.get hj
    refine ⟨d, f, kv1, kv2, rfl, rfl, ho1, ho2, fun z => ?_, fun z => hne ?_, ?_, ?_⟩
    · subst z
      have n := S.nd
      have l1 : i < (hs.map (·.1)).length := by
        rw [List.length_map]
        exact (List.getElem?_eq_some_iff.mp hi).1
      have l2 : j < (hs.map (·.1)).length := by
        rw [List.length_map]
        exact (List.getElem?_eq_some_iff.mp hj).1
      have e1 : (hs.map (·.1))[i]? = some d := by rw [List.getElem?_map, hi]; rfl
      have e2 : (hs.map (·.1))[j]? = some d := by rw [List.getElem?_map, hj]; rfl
      rw [List.getElem?_eq_getElem l1] at e1
      rw [List.getElem?_eq_getElem l2] at e2
      exact hij ((List.getElem_inj n).mp ((Option.some.inj e1).trans (Option.some.inj e2).symm))
    · rw [z] at hk1
      cases ks with
      | nil => rfl
      | cons _ _ => simp at hk1
    · rw [len_keys hk1, len_keys hk2]
      exact hl
    · exact z _ _ _ ((ext_up S.ok).trans (ext_up S1.ok)) (S2.put hi ⟨_, rfl, keys_merge hk1 hk2⟩))
/-- list(fresh) -/
theorem em_listT {i : Nat} {d : Addr} {ks : List (Int × Int)} (hc : X.calm = true) (hi : hs[i]? = some (d, dTP ks)) (hg : Gl X "list") (hm : X.mg "list" = none) (ha : Ed X φ.B ρ a (eP (.ref d))) (hs1 : starEach [a] X.env = (false, eval a X.env) :: starEach [] X.env := by rfl) :
    Em X φ ρ hs (.Call (.Name "list" p) [a] [] pos) (fun v G H => Stt φ hs G H ∧ (dP X.K (.list (ks.map cD))).p v G) :=
  em_callTy (call_list_dT hc) hg hm (by decide +kernel) (eam_ea (ea_cons ha ea_nil hs1)) (fun vs G H ⟨S, r⟩ Q z => by
    obtain ⟨v, rfl, r'⟩ := allp1 r
    have r' : v = .ref d := r'
    subst r'
    obtain ⟨o1, ho1, kv1, rfl, hk1⟩ := S.get hi
    refine ⟨d, kv1, rfl, .inl ho1, fun p bs hp hb => z _ _ _ (snew (snone S.ok.1 hp)) ⟨S.newG hp, ?_⟩⟩
    have hd : DhAll G (bs.map V.ref) (ks.map cD) := by
      rw [← map_keyD hk1]
      have : IsKeys G kv1 bs := Paired.mapP hb fun _ _ q => S.ok.2.2 _ _ q
      exact isKeys_dha this
    exact Dh.lst upd_same (dpa_up (snew (snone S.ok.1 hp)) _ _ hd)) (by decide) (by decide) hs1
/-- sorted(found) -/
theorem em_sortedT {i : Nat} {d : Addr} {ks : List (Int × Int)} {le : PyData → PyData → Bool} (hcalm : X.calm = true) (hu : X.A.units + 64 < cLine) (hi : hs[i]? = some (d, dTP ks)) (hg : Gl X "sorted") (hm : X.mg "sorted" = none) (hc : CanSort (ks.map cD) le) (ha : Ed X φ.B ρ a (eP (.ref d))) (hs1 : starEach [a] X.env = (false, eval a X.env) :: starEach [] X.env := by rfl) :
    Em X φ ρ hs (.Call (.Name "sorted" p) [a] [] pos) (fun v G H => Stt φ hs G H ∧ (dP X.K (.list ((ks.map cD).mergeSort le))).p v G) :=
  em_callB (cr_sortedDT hcalm hu) hg hm (by decide +kernel) (eam_ea (ea_cons ha ea_nil hs1)) (fun vs G H ⟨S, r⟩ Q z => by
    obtain ⟨v, rfl, r'⟩ := allp1 r
    have r' : v = .ref d := r'
    subst r'
    obtain ⟨o1, ho1, kv1, rfl, hk1⟩ := S.get hi
    refine ⟨d, kv1, le, rfl, .inl ho1, by rw [map_keyD hk1]; exact hc, fun e he => ?_, fun p bs hp hb => z _ _ _ (snew (snone S.ok.1 hp)) ⟨S.newG hp, ?_⟩⟩
    · rw [map_keyD hk1] at he
      obtain ⟨c, _, rfl⟩ := List.mem_map.mp he
      simp [cD, PyData.depth, PyData.depthAll]
    · have hd : DhAll G (bs.map V.ref) (kv1.map fun kv => keyD kv.1) := by
        have : IsKeys G kv1 bs := Paired.mapP hb fun _ _ q => S.ok.2.2 _ _ q
        exact isKeys_dha this
      have hd2 := sortZ_dha (le := le) hd
      rw [map_keyD hk1] at hd2 ⊢
      exact Dh.lst upd_same (dpa_up (snew (snone S.ok.1 hp)) _ _ hd2)) (by decide) (by decide) hs1
/-- tuple(a list) -/
theorem em_tupleL {F : Hp → Hp → Prop} {ds : List PyData} (hF : ∀ G H, F G H → ∃ hs', Stt φ hs' G H) (hnew : ∀ G H p xs, F G H → H p = none → F (upd G p (.tup xs)) (upd H p (.tup xs))) (hg : Gl X "tuple") (hm : X.mg "tuple" = none) (ha : Em X φ ρ hs a (fun v G H => F G H ∧ (dP X.K (.list ds)).p v G)) (hs1 : starEach [a] X.env = (false, eval a X.env) :: starEach [] X.env := by rfl) :
    Em X φ ρ hs (.Call (.Name "tuple" p) [a] [] pos) (fun v G H => F G H ∧ (dP X.K (.tuple ds)).p v G) :=
  em_callTy call_tuple_of hg hm (by decide +kernel) (eam_one ha hs1) (fun vs G H ⟨v, hv, S, r⟩ Q z => by
    subst hv
    have r : Dh G v (.list ds) := r
    cases r with
    | @lst t xs _ h1 h2 =>
      obtain ⟨hs', S'⟩ := hF G H S
      refine ⟨t, xs, rfl, .inl ⟨sql_up S'.ok.1 h1, fun l hl => z _ _ _ (snew (snone S'.ok.1 hl)) ⟨hnew G H l xs S hl, ?_⟩⟩⟩
      exact Dh.tup upd_same (dpa_up (snew (snone S'.ok.1 hl)) _ _ h2)) (by decide) (by decide) hs1
theorem eam_cons (ha : Em X φ ρ hs e (fun v G H => Stt φ hs G H ∧ P.p v G)) (hr : Eam X φ ρ hs es (fun vs G H => Stt φ hs G H ∧ AllP Ps vs G)) (hs1 : starEach (e :: es) X.env = (false, eval e X.env) :: starEach es X.env := by rfl) : Eam X φ ρ hs (e :: es) (fun vs G H => Stt φ hs G H ∧ AllP (P :: Ps) vs G) := fun σ G H S kn Q z =>
  pa_wa (pa_cons we_pe wa_pa hs1) (ha σ G H S kn _ fun v G2 H2 s f => hr σ G2 H2 f.1 (kn.up s) _ fun vs G3 H3 s3 f3 => z _ _ _ (s.trans s3) ⟨f3.1, .cons (P.up s3 f.2) f3.2⟩)
theorem eam_nil : Eam X φ ρ hs [] (fun vs G H => Stt φ hs G H ∧ AllP [] vs G) := fun σ G H S kn Q z => pa_wa pa_nil (z [] G H (Same.refl _) ⟨S, .nil⟩)
/-- a, b = e1, e2 -/
theorem m_par (i j : Nat) {x y : Str} {ea eb : Expr} {k1 k2 : Nat} {p1 p2 p3 p4 : Pos} (h : ∀ D : Ends, PS X (.Assign [.Tuple [.Name x p1, .Name y p2] k1 p3] (.Tuple [ea, eb] k2 p4) pos) (tPar i j (WA X [ea, eb]))) (ha : Eam X φ ρ hs [ea, eb] (fun vs G H => Stt φ hs G H ∧ AllP [P1, P2] vs G))
    (h' : M X φ ((ρ.set i (some P1)).set j (some P2)) hs rest D) : M X φ ρ hs (.Assign [.Tuple [.Name x p1, .Name y p2] k1 p3] (.Tuple [ea, eb] k2 p4) pos :: rest) D := fun σ G H S kn =>
  ps_wb (pss_cons (h D) wb_ps) (ha σ G H S kn _ fun vs G2 H2 s f => by
    obtain ⟨v, w, rfl, r1, r2⟩ := allp2 f.2
    exact ⟨v, w, rfl, h' _ G2 H2 f.1 (((kn.up s).set i r1).set j r2)⟩)
end
end Lk

/-! SetN: sets whose members are nested tuples of whole numbers, truth values and texts. The way through the table is TupSets' (its table laws are imported); here the members are of any nested kind, and the table may lose its mark `plain`. -/
namespace Lk
open PySem PySem.Spec PyProof.Rows L2
section
variable {P : Program} {w : World} {A : Around} {E : Value → Shared → Prop} {s : Shared}
abbrev IsN (P : Program) (w : World) (h : Heap) (k : NestedKey) (a : Addr) : Prop := (nestedKind P w).is h k a
abbrev nh (w : World) (k : NestedKey) : Int := k.hash w
/-- a nested key is of no class statement -/
theorem ofAClass_nest : ∀ (n : Nat) (k : NestedKey) (v : Value) (E : Value → Shared → Prop) (Q : Bool → Shared → Prop), NestedIs s.heap k v → k.depth ≤ n → Q false s → wpAny (model P w) A (ofAClassStatement n v) Q E s := by
  intro n
  induction n with
  | zero =>
    intro k v E Q hk hd hq
    cases hk with
    | tup _ _ _ _ => simp [NestedKey.depth] at hd
    | none => exact wpAny_pure hq
    | bool _ => exact wpAny_pure hq
    | int _ _ => exact wpAny_pure hq
    | text _ _ => exact wpAny_pure hq
  | succ n ih =>
    intro k v E Q hk hd hq
    cases hk with
    | none => exact wpAny_pure hq
    | bool _ => exact wpAny_pure hq
    | int _ _ => exact wpAny_pure hq
    | text _ _ => exact wpAny_pure hq
    | @tup b o vs m ks ho hc hdat hall =>
      have hdk : NestedKey.depthAll ks ≤ n := by simp only [NestedKey.depth] at hd; omega
      unfold ofAClassStatement
      refine wpAny_bind (wpAny_typeOf (T := "tuple") ⟨o, ho, hc⟩ ?_)
      dsimp only
      have e : (("tuple" : String) == "tuple") = true := by decide
      simp only [e, if_true, Bool.not_true, Bool.false_eq_true, if_false]
      try refine wpAny_bind (wpAny_pure ?_)
      try simp only [Bool.not_true, Bool.false_eq_true, if_false]
      show wpAny _ _ (seqItems? (.ref b) >>= _) _ _ s
      refine wpAny_bind (wpAny_seqItems ho hdat ?_)
      dsimp only
      refine wpAny_bind ?_
      show wpAny _ _ (forIn vs _ _) _ _ s
      rw [← Array.forIn_toList]
      refine wpAny_forIn_list _ (fun rest r s' => r.1 = none ∧ s' = s ∧ ∃ ks', NestedAll s.heap ks' rest ∧ NestedKey.depthAll ks' ≤ n) _ ?_ ?_ _ _ ⟨rfl, rfl, ks, hall, hdk⟩
      · rintro u rest r s' ⟨hr, rfl, ks', ha, hd'⟩
        cases ha with
        | @cons k1 _ ks1 _ h1 h2 =>
          simp only [NestedKey.depthAll] at hd'
          refine wpAny_bind (ih k1 u _ _ h1 (by omega) ?_)
          simp only [Bool.false_eq_true, if_false]
          exact wpAny_pure ⟨rfl, rfl, ks1, h2, by omega⟩
      · rintro ⟨r1, r2⟩ s' ⟨hr, rfl, _⟩
        simp only at hr
        subst hr
        exact wpAny_pure hq
/-- whether the hash goes by value is told, whatever it is -/
theorem hashBy_nest : ∀ (n : Nat) (k : NestedKey) (v : Value) (E : Value → Shared → Prop) (Q : Bool → Shared → Prop), NestedIs s.heap k v → (∀ b, Q b s) → wpAny (model P w) A (hashByValue n v) Q E s := by
  intro n
  induction n with
  | zero =>
    intro k v E Q hk hq
    cases hk <;> exact wpAny_pure (hq _)
  | succ n ih =>
    intro k v E Q hk hq
    cases hk with
    | none => exact wpAny_pure (hq _)
    | bool _ => exact wpAny_pure (hq _)
    | int _ _ => exact wpAny_pure (hq _)
    | text _ _ => exact wpAny_pure (hq _)
    | @tup b o vs m ks ho hc hdat hall =>
      unfold hashByValue
      refine wpAny_bind (wpAny_specialOf (T := "tuple") ⟨o, ho, hc⟩ F.slot_tuple_hash.lookup ?_)
      show wpAny _ _ (seqItems? (.ref b) >>= _) _ _ s
      refine wpAny_bind (wpAny_seqItems ho hdat ?_)
      refine wpAny_bind ?_
      show wpAny _ _ (forIn vs _ _) _ _ s
      rw [← Array.forIn_toList]
      refine wpAny_forIn_list _ (fun rest r s' => r.1 = none ∧ s' = s ∧ ∃ ks', NestedAll s.heap ks' rest) _ ?_ ?_ _ _ ⟨rfl, rfl, ks, hall⟩
      · rintro u rest r s' ⟨hr, rfl, ks', ha⟩
        cases ha with
        | @cons k1 _ ks1 _ h1 h2 =>
          refine wpAny_bind (ih k1 u _ _ h1 fun c => ?_)
          cases c with
          | true =>
            simp only [Bool.not_true, Bool.false_eq_true, if_false]
            exact wpAny_pure ⟨rfl, rfl, ks1, h2⟩
          | false =>
            simp only [Bool.not_false, if_true]
            exact wpAny_pure (wpAny_pure (hq false))
      · rintro ⟨r1, r2⟩ s' ⟨hr, rfl, _⟩
        simp only at hr
        subst hr
        exact wpAny_pure (hq true)
/-- a search among such tuples shows nothing -/
theorem seen_nest {k : NestedKey} {b : Addr} {Q : Bool → Shared → Prop} (hk : IsN P w s.heap k b) {ys : List Value} (hy : ∀ y ∈ ys, ∃ k' c, y = Value.ref c ∧ IsN P w s.heap k' c) (h : Q false s) : wpAny (model P w) A (searchCouldBeSeen (.ref b) ys) Q E s := by
  unfold searchCouldBeSeen
  refine wpAny_bind ?_
  refine wpAny_forIn_list _ (fun rest r s' => r.1 = none ∧ s' = s ∧ ∀ y ∈ rest, ∃ k' c, y = Value.ref c ∧ IsN P w s.heap k' c) _ ?_ ?_ _ _ ⟨rfl, rfl, hy⟩
  · rintro v rest r s' ⟨hr, rfl, hall⟩
    obtain ⟨k', c, rfl, hc⟩ := hall v List.mem_cons_self
    have rest' : ∀ y ∈ rest, ∃ k' c, y = Value.ref c ∧ IsN P w s'.heap k' c := fun u hu' => hall u (List.mem_cons_of_mem _ hu')
    dsimp only
    by_cases hv : (b == c || (carriedByValue (.ref b) && carriedByValue (.ref c))) = true
    · refine wp_if_pos hv ?_
      exact wpAny_pure ⟨rfl, rfl, rest'⟩
    · refine wp_if_neg hv ?_
      refine wpAny_bind ((nestedKind P w).quiet hk ?_)
      simp only [Bool.not_true, Bool.false_eq_true, if_false]
      refine wpAny_bind ((nestedKind P w).quiet hc ?_)
      simp only [Bool.not_true, Bool.false_eq_true, if_false]
      refine wpAny_bind (ofAClass_nest 8 k (.ref b) _ _ hk.1 hk.2 ?_)
      simp only [Bool.false_eq_true, if_false]
      refine wpAny_bind (ofAClass_nest 8 k' (.ref c) _ _ hc.1 hc.2 ?_)
      simp only [Bool.false_eq_true, if_false]
      exact wpAny_pure ⟨rfl, rfl, rest'⟩
  · rintro ⟨r1, r2⟩ s' ⟨hr, rfl, _⟩
    simp only at hr
    subst hr
    exact wpAny_pure h

/-! ### the set -/
abbrev Row := Addr × NestedKey
def ent (w : World) (p : Row) : Int × Value := (p.2.hash w, .ref p.1)
structure NS (w : World) (h : Heap) (a : Addr) (L : List Row) (es : Array (Int × Value)) (ep : Nat) (t : SetTable) : Prop where
  ob : ∃ o, h.get? a = some o ∧ o.ExactSet ∧ o.data = .set es ep t
  rows : es.toList = L.map (ent w)
  tab : TabOk t (L.map fun p => p.2.hash w)
  nd : (L.map (·.2)).Nodup
  led : w.params.followText "set-order" = true ∨ t.led = true
  room : L.length * 5 < t.mask * 3
  few : L.length < 64
variable {a : Addr} {L : List Row} {es : Array (Int × Value)} {ep : Nat} {t : SetTable} {h : Heap}
theorem rows_size (e : es.toList = L.map (ent w)) : es.size = L.length := by
  have := congrArg List.length e
  rw [Array.length_toList, List.length_map] at this
  exact this
theorem rows_get (e : es.toList = L.map (ent w)) {i : Nat} {p : Row} (hp : L[i]? = some p) : es[i]? = some (ent w p) := by
  rw [← Array.getElem?_toList, e, List.getElem?_map, hp]
  rfl
theorem NS.place (N : NS w h a L es ep t) : t.place.size = L.length := by
  have := N.tab.sz
  rw [List.length_map] at this
  exact this
theorem NS.fits (N : NS w h a L es ep t) : t.fits es.size = true := by
  have h1 := N.place
  have h2 := rows_size N.rows
  have h3 := N.room
  unfold SetTable.fits SetTable.fill
  rw [N.tab.dm, Bool.and_eq_true, beq_iff_eq, decide_eq_true_eq]
  show t.place.size = es.size ∧ t.place.size + 0 ≤ t.mask
  omega
theorem NS.even (N : NS w h a L es ep t) : ¬ t.gaveWay = true := by
  unfold SetTable.gaveWay
  rw [mask_odd N.tab.mok]
  decide
abbrev begin0 (w : World) (m : Nat) (k : NestedKey) : SetTable.Probe := runAt m (SetTable.bits (k.hash w) % (m + 1)) (SetTable.bits (k.hash w))
theorem nth_nodummy (m : Nat) : ∀ (n : Nat) (p : SetTable.Probe), p.dummy = none → (nth m p n).dummy = none
  | 0, _, h => h
  | n + 1, p, h => nth_nodummy m n (adv m p) (by unfold adv; split <;> exact h)
/-- the search for k, c steps on the way: what stands on them is not k -/
theorem srch (N : NS w s.heap a L es ep t) (hL : ∀ p ∈ L, IsN P w s.heap p.2 p.1) {x : Addr} {k : NestedKey} (hx : IsN P w s.heap k x) (hu : A.units + 8 < cLine) {K : Nat} (hK1 : K < 10 * SetTable.turns t.mask) (hK2 : way t.mask (k.hash w) K ∉ t.place.toList)
    (hK3 : ∀ c, c < K → way t.mask (k.hash w) c ∈ t.place.toList) {Q : SetFound → Shared → Prop} (q1 : k ∈ L.map (·.2) → Q (.there none) s) (q2 : k ∉ L.map (·.2) → Q (.free (way t.mask (k.hash w) K) false) s) :
    ∀ (f c : Nat) (stand : Option SetTable.Probe), stand.getD (t.probeStart (k.hash w)) = nth t.mask (begin0 w t.mask k) c → c ≤ K → K - c < f → (∀ c', c' < c → ∀ (i : Nat) (p : Row), L[i]? = some p → t.place.toList[i]? = some (way t.mask (k.hash w) c') → p.2 ≠ k) →
      wpAny (model P w) A (setSearchFrom a (.ref x) (k.hash w) true f stand) Q E s := by
  intro f
  induction f with
  | zero => intro c stand _ _ hf _; exact absurd hf (Nat.not_lt_zero _)
  | succ f ih =>
    intro c stand hst hc hf old
    obtain ⟨o, ho, hex, hd⟩ := N.ob
    rw [setSearchFrom_succ]
    refine wpAny_bind (wpAny_setState_of ho hd N.fits ?_)
    dsimp only
    refine wp_if_neg N.even ?_
    try refine wpAny_bind (wpAny_pure ?_)
    have steps : ∀ q, nth t.mask (nth t.mask (begin0 w t.mask k) c) q = nth t.mask (begin0 w t.mask k) (c + q) := fun q => (nth_add t.mask c _ q).symm
    have at_ : ∀ q, (nth t.mask (nth t.mask (begin0 w t.mask k) c) q).j = way t.mask (k.hash w) (c + q) := fun q => congrArg SetTable.Probe.j (steps q)
    have hash_ : ∀ (i : Nat) p, L[i]? = some p → (es[i]?.map (·.1)).getD 0 = p.2.hash w := fun i p hp => by
      rw [rows_get N.rows hp]
      rfl
    have key := go_spec t N.tab.ris N.tab.dm (fun i => (es[i]?.map (·.1)).getD 0) (k.hash w) (10 * SetTable.turns t.mask) (K - c) _ (nth_nodummy t.mask c (begin0 w t.mask k) rfl) (by omega)
      (fun q hq => by rw [at_]; exact hK3 (c + q) (by omega)) (by rw [at_, show c + (K - c) = K by omega]; exact hK2)
    rcases key with ⟨q, i, hq, hi, hh, hno, hpr⟩ | ⟨hno, hpr⟩
    · have hpr' : t.probe (fun i => (es[i]?.map (·.1)).getD 0) (k.hash w) (stand.getD (t.probeStart (k.hash w))) = some (.candidate (way t.mask (k.hash w) (c + q)) i (nth t.mask (begin0 w t.mask k) (c + (q + 1)))) := by
        rw [hst, ← at_, ← steps]
        exact hpr
      rw [hpr']
      dsimp only
      rw [at_] at hi
      have hil : i < L.length := by
        have := (List.getElem?_eq_some_iff.mp hi).1
        rw [Array.length_toList, N.place] at this
        exact this
      obtain ⟨p, hp⟩ : ∃ p, L[i]? = some p := ⟨_, List.getElem?_eq_getElem hil⟩
      have hm : p ∈ L := List.mem_of_getElem? hp
      have slot_ : t.slot (way t.mask (k.hash w) (c + q)) = .live i := slot_live N.tab.ris hi
      have tail : wpAny (model P w) A (searchRest a (.ref x) (k.hash w) true f es t (way t.mask (k.hash w) (c + q)) i (nth t.mask (begin0 w t.mask k) (c + (q + 1)))) Q E s := by
        unfold searchRest
        rw [rows_get N.rows hp]
        dsimp only [ent]
        refine wpAny_bind (wpAny_holding ((nestedKind P w).eqBool hu (hL p hm) hx ?_))
        refine wpAny_bind (wpAny_setState_of ho hd N.fits ?_)
        dsimp only
        by_cases hpk : p.2 = k
        · refine wp_if_pos (by simp [hpk]) ?_
          exact wpAny_pure (q1 (List.mem_map.mpr ⟨p, hm, hpk⟩))
        · refine wp_if_neg (by simp [hpk]) ?_
          try refine wpAny_bind (wpAny_pure ?_)
          rw [sameMem]
          dsimp only
          simp only [if_true, slot_, rows_get N.rows hp, ent]
          refine wpAny_bind (wpAny_isSame_ref_self (wpAny_bind (wpAny_pure ?_)))
          simp only [if_true]
          refine wp_if_neg (by simp [hpk]) ?_
          refine ih (c + (q + 1)) _ rfl (by omega) (by omega) fun c' hc' i0 p0 h0 hj0 e0 => ?_
          rcases Nat.lt_or_ge c' c with z | z
          · exact old c' z i0 p0 h0 hj0 e0
          · rcases Nat.lt_or_ge c' (c + q) with y | y
            · refine hno (c' - c) i0 (by omega) (by rw [at_, show c + (c' - c) = c' by omega]; exact hj0) ?_
              rw [hash_ i0 p0 h0, e0]
            · have ec : c' = c + q := by omega
              rw [ec] at hj0
              have := slot_live N.tab.ris hj0
              rw [slot_] at this
              injection this with this
              rw [← this, hp] at h0
              rw [← Option.some.inj h0] at e0
              exact hpk e0
      by_cases hl : t.led = true
      · refine wp_if_neg (by simp [hl]) ?_
        try refine wpAny_bind (wpAny_pure ?_)
        exact tail
      · refine wp_if_pos (by simp [hl]) ?_
        refine wpAny_bind (seen_nest hx (fun y hy => ?_) ?_)
        · obtain ⟨e, he, rfl⟩ := List.mem_map.mp hy
          have he1 : e ∈ es ∧ e.1 = k.hash w := by simpa using he
          have he2 : e ∈ es.toList := by simpa using he1.1
          rw [N.rows] at he2
          obtain ⟨p2, hp2, rfl⟩ := List.mem_map.mp he2
          exact ⟨p2.2, p2.1, rfl, hL p2 hp2⟩
        · refine wp_if_neg (by decide) ?_
          try refine wpAny_bind (wpAny_pure ?_)
          exact tail
    · have hpr' : t.probe (fun i => (es[i]?.map (·.1)).getD 0) (k.hash w) (stand.getD (t.probeStart (k.hash w))) = some (.empty (way t.mask (k.hash w) K) none) := by
        have e2 : way t.mask (k.hash w) K = (nth t.mask (nth t.mask (begin0 w t.mask k) c) (K - c)).j := by
          rw [at_, show c + (K - c) = K by omega]
        rw [hst, e2]
        exact hpr
      rw [hpr']
      dsimp only
      refine wpAny_pure (q2 fun hm => ?_)
      obtain ⟨p0, h0, e0⟩ := List.mem_map.mp hm
      obtain ⟨i0, hi0, e1⟩ := List.getElem_of_mem h0
      have h00 : L[i0]? = some p0 := by rw [List.getElem?_eq_getElem hi0, e1]
      have hil : i0 < t.place.toList.length := by
        rw [Array.length_toList, N.place]
        exact hi0
      obtain ⟨c', hc', ew⟩ := N.tab.before hK2 (i := i0) (by rw [List.getElem?_map, h00, ← e0]; rfl) (List.getElem?_eq_getElem hil)
      have hj : t.place.toList[i0]? = some (way t.mask (k.hash w) c') := by rw [List.getElem?_eq_getElem hil, ew]
      rcases Nat.lt_or_ge c' c with z | z
      · exact old c' z i0 p0 h00 hj e0
      · refine hno (c' - c) i0 (by omega) (by rw [at_, show c + (c' - c) = c' by omega]; exact hj) ?_
        rw [hash_ i0 p0 h00, e0]
theorem srch0 (N : NS w s.heap a L es ep t) (hL : ∀ p ∈ L, IsN P w s.heap p.2 p.1) {x : Addr} {k : NestedKey} (hx : IsN P w s.heap k x) (hu : A.units + 8 < cLine) {Q : SetFound → Shared → Prop} (q1 : k ∈ L.map (·.2) → Q (.there none) s)
    (q2 : ∀ K, k ∉ L.map (·.2) → way t.mask (k.hash w) K ∉ t.place.toList → (∀ c, c < K → way t.mask (k.hash w) c ∈ t.place.toList) → Q (.free (way t.mask (k.hash w) K) false) s) : wpAny (model P w) A (setSearch a (.ref x) (k.hash w) true) Q E s := by
  have hroom := N.room
  obtain ⟨K, k1, k2, k3⟩ := N.tab.first (by rw [List.length_map]; omega) (k.hash w)
  have : 10 * SetTable.turns t.mask ≤ 1420 := by
    unfold SetTable.turns
    rcases N.tab.mok with e | e | e <;> omega
  unfold setSearch
  exact srch N hL hx hu k1 k2 k3 q1 (fun hn => q2 K hn k2 k3) 100000 0 none rfl (Nat.zero_le _) (by omega) fun c' hc' => absurd hc' (Nat.not_lt_zero _)
/-! ### laying anew, adding -/
theorem filterMap_get {α β : Type} (L : List α) (f : α → β) : ∀ l : List Nat, (∀ i ∈ l, i < L.length) → l.filterMap (fun i => (L.map f)[i]?) = (l.filterMap fun i => L[i]?).map f ∧ (l.filterMap fun i => L[i]?).length = l.length
  | [], _ => ⟨rfl, rfl⟩
  | i :: l, h => by
    obtain ⟨e1, e2⟩ := filterMap_get L f l fun j hj => h j (List.mem_cons_of_mem _ hj)
    obtain ⟨y, hi⟩ : ∃ y, L[i]? = some y := ⟨_, List.getElem?_eq_getElem (h i List.mem_cons_self)⟩
    have hi2 : (L.map f)[i]? = some (f y) := by rw [List.getElem?_map, hi]; rfl
    rw [List.filterMap_cons_some hi2, List.filterMap_cons_some hi, e1, List.length_cons, List.length_cons, e2]
    exact ⟨rfl, rfl⟩
theorem filterMap_range {α : Type} (L : List α) : (List.range L.length).filterMap (fun i => L[i]?) = L := by
  have key : ∀ n, n ≤ L.length → (List.range n).filterMap (fun i => L[i]?) = L.take n := by
    intro n
    induction n with
    | zero => intro _; rfl
    | succ n ih =>
      intro hn
      obtain ⟨y, hy⟩ : ∃ y, L[n]? = some y := ⟨_, List.getElem?_eq_getElem hn⟩
      rw [List.range_succ, List.filterMap_append, ih (by omega), List.take_succ, hy, List.filterMap_cons_some hy]
      rfl
  rw [key _ (Nat.le_refl _), List.take_length]
/-- tuples stay where the set's own object changes -/
theorem isN_but {h h' : Heap} {k : NestedKey} {x a : Addr} {o : Obj} {es : Array (Int × Value)} {ep : Nat} {t : SetTable} (hx : IsN P w h k x) (ho : h.get? a = some o) (hd : o.data = .set es ep t) (hs : Heap.SameBut a h h') : IsN P w h' k x :=
  nestedKind_stays.stays (knd := nestedKind P w) (fun b ob vs n hb hv => by
    have hne : b ≠ a := by
      rintro rfl
      rw [ho] at hb
      rw [← Option.some.inj hb, hd] at hv
      cases hv
    exact (hs.2 b hne).trans hb) hx
theorem rly {o : Obj} (ho : s.heap.get? a = some o) (hex : o.ExactSet) (hd : o.data = .set es ep t) (hr : es.toList = L.map (ent w)) (hsz : t.place.size = es.size) (hdm : t.dummies = #[]) (hfl : es.size ≤ t.mask) (nd : (L.map (·.2)).Nodup) (ld : w.params.followText "set-order" = true ∨ t.led = true) (few : L.length < 64)
    {wanted m : Nat} (hw : SetTable.sizeAbove wanted - 1 = m) (hm : MaskOk m) (hw2 : SetTable.sizeAbove wanted ≤ 128) (hn : L.length * 5 < m * 3) {Q : Unit → Shared → Prop}
    (hQ : ∀ h' L' es' ep' t', Heap.SameBut a s.heap h' → NS w h' a L' es' ep' t' → L'.Perm L → Q () { s with heap := h' }) : wpAny (model P w) A (setRelay a wanted) Q E s := by
  have hsl := rows_size hr
  have hfits : t.fits es.size = true := by
    unfold SetTable.fits SetTable.fill
    rw [hdm, Bool.and_eq_true, beq_iff_eq, decide_eq_true_eq]
    show t.place.size = es.size ∧ t.place.size + 0 ≤ t.mask
    omega
  obtain ⟨t', order, e, hp, T, em, el, _, ed⟩ := relaid_ok t (hs := es.map (·.1)) (wanted := wanted) hw hm (by rw [Array.size_map, hsl]; omega)
  rw [Array.size_map, hsl] at hp
  have hlt : ∀ i ∈ order.toList, i < L.length := fun i hi => List.mem_range.mp (hp.mem_iff.mp hi)
  obtain ⟨f1, f2⟩ := filterMap_get L (ent w) order.toList hlt
  have pm : (order.toList.filterMap fun i => L[i]?).Perm L := by
    have := hp.filterMap fun i => L[i]?
    rw [filterMap_range] at this
    exact this
  have r1 : (order.filterMap (es[·]?)).toList = (order.toList.filterMap fun i => L[i]?).map (ent w) := by
    rw [Array.toList_filterMap, ← f1]
    congr 1
    funext i
    rw [← Array.getElem?_toList, hr]
  have r3 : (order.toList.map fun i => (es.map (·.1)).getD i 0) = (order.toList.filterMap fun i => L[i]?).map fun p => p.2.hash w := by
    have gen : ∀ l : List Nat, (∀ i ∈ l, i < L.length) → (l.map fun i => (es.map (·.1)).getD i 0) = (l.filterMap fun i => L[i]?).map fun p => p.2.hash w := by
      intro l
      induction l with
      | nil => intro _; rfl
      | cons i l ih =>
        intro hl
        obtain ⟨y, hi⟩ : ∃ y, L[i]? = some y := ⟨_, List.getElem?_eq_getElem (hl i List.mem_cons_self)⟩
        have hi2 := rows_get hr hi
        rw [List.map_cons, List.filterMap_cons_some hi, List.map_cons, ih fun j hj => hl j (List.mem_cons_of_mem _ hj)]
        congr 1
        have hi3 : (es.map (·.1))[i]? = some (y.2.hash w) := by
          rw [Array.getElem?_map, hi2]
          rfl
        simp [Array.getD_eq_getD_getElem?, hi3]
    exact gen _ hlt
  rw [r3] at T
  generalize (order.toList.filterMap fun i => L[i]?) = L2 at T pm r1
  have hs2 : (order.filterMap (es[·]?)).size = es.size := by rw [rows_size r1, pm.length_eq, hsl]
  rw [setRelay_eq]
  refine wpAny_bind (wpAny_setState_of ho hd hfits ?_)
  dsimp only
  refine wp_if_neg (by rw [sizeLine_eq]; omega) ?_
  try refine wpAny_bind (wpAny_pure ?_)
  rw [e]
  dsimp only
  refine wpAny_bind ?_
  refine wp_if_neg (by rw [hs2]; simp) ?_
  try refine wpAny_bind (wpAny_pure ?_)
  refine wpAny_pure ?_
  dsimp only
  refine wpAny_storeSet_of ho hd ?_ (by rw [hs2, hsl, sizeLine_eq]; omega)
  refine hQ _ L2 (order.filterMap (es[·]?)) (ep + 1) t' (Heap.SameBut.update ..) ⟨⟨_, store_at ho hd, ⟨hex.1, hex.2.1, hex.2.2⟩, rfl⟩, r1, T, (pm.map (·.2)).nodup_iff.mpr nd, by rw [el]; exact ld, ?_, by rw [pm.length_eq]; exact few⟩ pm
  rw [pm.length_eq, em]
  exact hn
theorem tab_plain {t : SetTable} {hs : List Int} (T : TabOk t hs) (b : Bool) : TabOk (if b = true then t else { t with plain := false }) hs := by
  cases b with
  | true => exact T
  | false => exact ⟨T.ris, T.dm, T.sz, T.mok, T.bd, T.reach⟩
theorem put_row (L : List Row) (p : Nat) (x : Row) : (L.take p ++ x :: L.drop p).Perm (x :: L) := by
  have h : (L.take p ++ x :: L.drop p).Perm (x :: (L.take p ++ L.drop p)) := List.perm_middle
  rw [List.take_append_drop] at h
  exact h
/-- adding a tuple -/
theorem add_row (N : NS w s.heap a L es ep t) (hL : ∀ p ∈ L, IsN P w s.heap p.2 p.1) {x : Addr} {k : NestedKey} (hx : IsN P w s.heap k x) (hu : A.units + 8 < cLine) (hfew : L.length + 1 < 64) {Q : Bool → Shared → Prop}
    (hQ : ∀ b h' L' es' ep' t', Heap.SameBut a s.heap h' → NS w h' a L' es' ep' t' → (k ∈ L.map (·.2) → L' = L) → (k ∉ L.map (·.2) → L'.Perm ((x, k) :: L)) → Q b { s with heap := h' }) :
    wpAny (model P w) A (setAddHashed a (.ref x) (k.hash w)) Q E s := by
  obtain ⟨o, ho, hex, hd⟩ := N.ob
  have hsl := rows_size N.rows
  have hroom := N.room
  unfold setAddHashed
  refine wpAny_holding ?_
  rw [show (100000 : Nat) = 99999 + 1 from rfl, setAddHashedIn_succ]
  refine wpAny_bind (wpAny_setState_of ho hd N.fits ?_)
  dsimp only
  refine wp_if_neg (by simp [byScan, Value.scannable]) ?_
  try refine wpAny_bind (wpAny_pure ?_)
  refine wpAny_bind (srch0 N hL hx hu (fun hm => ?_) fun K hm hK hb => ?_)
  · dsimp only
    exact wpAny_pure (hQ false s.heap L es ep t (Heap.SameBut.refl a s.heap) N (fun _ => rfl) fun z => absurd hm z)
  dsimp only
  refine wpAny_bind (wpAny_setState_of ho hd N.fits ?_)
  dsimp only
  obtain ⟨q1, q2, q3, q4, q5, _, _, _, q9⟩ := N.tab.put hK hb
  generalize hpt : t.put (way t.mask (k.hash w) K) = pt at q1 q3 q4 q5 q9 ⊢
  obtain ⟨t1, p⟩ := pt
  dsimp only at q1 q3 q4 q5 q9 ⊢
  subst q1
  -- the mark `plain` may go
  have goOn : ∀ b : Bool, wpAny (model P w) A (do
      storeSet a (SetTable.insertAt es (SetTable.below t.place (way t.mask (k.hash w) K)) (k.hash w, Value.ref x)) (if b = true then t1 else { t1 with plain := false })
      if (!false && (if b = true then t1 else { t1 with plain := false }).tooFull) = true then do
        setRelay a (SetTable.grown (es.size + 1))
        return true
      else do
        return true) Q E s := by
    intro b
    have T1 := tab_plain q3 b
    have q4' : (if b = true then t1 else { t1 with plain := false }).mask = t.mask := by rw [← q4]; cases b <;> rfl
    have q5' : (if b = true then t1 else { t1 with plain := false }).led = t.led := by rw [← q5]; cases b <;> rfl
    have q9' : (if b = true then t1 else { t1 with plain := false }).fill = (L.map fun p => p.2.hash w).length + 1 := by rw [← q9]; cases b <;> rfl
    generalize (if b = true then t1 else { t1 with plain := false }) = t2 at T1 q4' q5' q9'
    have hin : (SetTable.insertAt es (SetTable.below t.place (way t.mask (k.hash w) K)) (k.hash w, Value.ref x)).toList = (L.take (SetTable.below t.place (way t.mask (k.hash w) K)) ++ (x, k) :: L.drop (SetTable.below t.place (way t.mask (k.hash w) K))).map (ent w) := by
      rw [SetTable.toList_insertAt, N.rows, List.map_append, List.map_cons, List.map_take, List.map_drop]
      rfl
    have hhs : (L.take (SetTable.below t.place (way t.mask (k.hash w) K)) ++ (x, k) :: L.drop (SetTable.below t.place (way t.mask (k.hash w) K))).map (fun p => p.2.hash w) = (L.map fun p => p.2.hash w).take (SetTable.below t.place (way t.mask (k.hash w) K)) ++ k.hash w :: (L.map fun p => p.2.hash w).drop (SetTable.below t.place (way t.mask (k.hash w) K)) := by
      rw [List.map_append, List.map_cons, List.map_take, List.map_drop]
    rw [← hhs] at T1
    have pm := put_row L (SetTable.below t.place (way t.mask (k.hash w) K)) (x, k)
    have hes := rows_size hin
    generalize SetTable.insertAt es (SetTable.below t.place (way t.mask (k.hash w) K)) (k.hash w, Value.ref x) = es1 at hin hes ⊢
    generalize (L.take (SetTable.below t.place (way t.mask (k.hash w) K)) ++ (x, k) :: L.drop (SetTable.below t.place (way t.mask (k.hash w) K))) = L1 at pm T1 hin hes
    have hlen : L1.length = L.length + 1 := pm.length_eq
    have nd1 : (L1.map (·.2)).Nodup := by
      refine (pm.map (·.2)).nodup_iff.mpr ?_
      rw [List.map_cons]
      exact List.nodup_cons.mpr ⟨hm, N.nd⟩
    refine wpAny_bind (wpAny_storeSet_of ho hd ?_ (by rw [hes, hlen, sizeLine_eq]; omega))
    have sb : Heap.SameBut a s.heap (s.heap.update a (Obj.putSet es1 t2)) := Heap.SameBut.update ..
    have ho1 := store_at (es' := es1) (t' := t2) ho hd
    generalize s.heap.update a (Obj.putSet es1 t2) = h1 at sb ho1 ⊢
    have ld1 : w.params.followText "set-order" = true ∨ t2.led = true := by rw [q5']; exact N.led
    rw [List.length_map] at q9'
    by_cases hf : t2.tooFull = true
    · refine wp_if_pos (by simp [hf]) ?_
      have hfull : (L.length + 1) * 5 ≥ t2.mask * 3 := by
        have h := hf
        unfold SetTable.tooFull at h
        rw [decide_eq_true_eq, q9'] at h
        exact h
      rw [hsl]
      have hsz1 : t2.place.size = es1.size := by
        have h := T1.sz
        rw [List.length_map] at h
        rw [h, hes]
      have two : (t.mask = 7 ∧ L.length = 4) ∨ (t.mask = 31 ∧ L.length = 18) := by
        rcases N.tab.mok with e | e | e
        · left; rw [q4', e] at hfull; rw [e] at hroom; exact ⟨e, by omega⟩
        · right; rw [q4', e] at hfull; rw [e] at hroom; exact ⟨e, by omega⟩
        · exfalso; rw [q4', e] at hfull; omega
      have go : ∀ m, SetTable.sizeAbove (SetTable.grown (L.length + 1)) - 1 = m → MaskOk m → SetTable.sizeAbove (SetTable.grown (L.length + 1)) ≤ 128 → (L.length + 1) * 5 < m * 3 →
          wpAny (model P w) A (setRelay a (SetTable.grown (L.length + 1))) (fun _ s' => wpAny (model P w) A (pure true) Q E s') E { s with heap := h1 } := fun m h1' h2' h3' h4' => by
        refine rly (s := { s with heap := h1 }) ho1 ⟨hex.1, hex.2.1, hex.2.2⟩ rfl hin hsz1 T1.dm (by rw [hes, hlen, q4']; rcases two with ⟨e, e2⟩ | ⟨e, e2⟩ <;> omega) nd1 ld1 (by rw [hlen]; exact hfew) h1' h2' h3' (by rw [hlen]; exact h4') ?_
        intro h2 L2 es2 ep2 t3 sb2 N2 pm2
        exact wpAny_pure (hQ true h2 L2 es2 ep2 t3 (sb.trans sb2) N2 (fun z => absurd z hm) fun _ => pm2.trans pm)
      rcases two with ⟨_, e2⟩ | ⟨_, e2⟩
      · exact wpAny_bind (go 31 (by rw [e2, size_20]) (.inr (.inl rfl)) (by rw [e2, size_20]; decide) (by omega))
      · exact wpAny_bind (go 127 (by rw [e2, size_76]) (.inr (.inr rfl)) (by rw [e2, size_76]; decide) (by omega))
    · refine wp_if_neg (by simp [hf]) ?_
      refine wpAny_pure (hQ true h1 L1 es1 (ep + 1) t2 sb ⟨⟨_, ho1, ⟨hex.1, hex.2.1, hex.2.2⟩, rfl⟩, hin, T1, nd1, ld1, ?_, by rw [hlen]; exact hfew⟩ (fun z => absurd z hm) fun _ => pm)
      have h := hf
      unfold SetTable.tooFull at h
      rw [decide_eq_true_eq, q9'] at h
      rw [hlen]
      omega
  by_cases hpl : t1.plain = true
  · refine wp_if_pos hpl ?_
    refine wpAny_bind (hashBy_nest 8 k (.ref x) _ _ hx.1 fun b => ?_)
    exact goOn b
  · refine wp_if_neg hpl ?_
    refine wpAny_bind (wpAny_pure ?_)
    exact goOn true
end
end Lk

/-! SetN2: set(a list of such tuples). -/
namespace Lk
open PySem PySem.Spec PyProof.Rows L2
/-- the rows L have what ks has, each key once -/
structure Has (ks L : List Row) : Prop where
  sub : ∀ p ∈ L, p ∈ ks
  all : ∀ p ∈ ks, p.2 ∈ L.map (·.2)
  len : L.length ≤ ks.length
theorem Has.nil : Has [] [] := ⟨(fun _ h => h), (fun _ h => by cases h), Nat.le_refl _⟩
theorem Has.step {ks L L' : List Row} {x : Row} (g : Has ks L) (h1 : x.2 ∈ L.map (·.2) → L' = L) (h2 : x.2 ∉ L.map (·.2) → L'.Perm (x :: L)) : Has (ks ++ [x]) L' := by
  by_cases hx : x.2 ∈ L.map (·.2)
  · obtain rfl := h1 hx
    refine ⟨fun p hp => List.mem_append_left _ (g.sub p hp), fun p hp => ?_, by rw [List.length_append]; exact Nat.le_trans g.len (Nat.le_add_right _ _)⟩
    rcases List.mem_append.mp hp with z | z
    · exact g.all p z
    · rw [List.mem_singleton.mp z]
      exact hx
  · have pm := h2 hx
    refine ⟨fun p hp => ?_, fun p hp => ?_, ?_⟩
    · rcases List.mem_cons.mp (pm.mem_iff.mp hp) with rfl | z
      · exact List.mem_append_right _ (List.mem_singleton.mpr rfl)
      · exact List.mem_append_left _ (g.sub p z)
    · rw [(pm.map (·.2)).mem_iff, List.map_cons]
      rcases List.mem_append.mp hp with z | z
      · exact List.mem_cons_of_mem _ (g.all p z)
      · rw [List.mem_singleton.mp z]
        exact List.mem_cons_self
    · rw [pm.length_eq, List.length_cons, List.length_append, List.length_singleton]
      exact Nat.succ_le_succ g.len
section
variable {P : Program} {w : World} {A : Around} {E : Value → Shared → Prop} {s : Shared}
theorem isN_up {h h' : Heap} {k : NestedKey} {x : Addr} (hx : IsN P w h k x) (hk : ∀ b o, h.get? b = some o → h'.get? b = some o) : IsN P w h' k x := nestedKind_stays.stays (knd := nestedKind P w) (fun b o _ _ e _ => hk b o e) hx
theorem NS.up {h h' : Heap} {a : Addr} {L : List Row} {es : Array (Int × Value)} {ep : Nat} {t : SetTable} (N : NS w h a L es ep t) (ha : ∀ o, h.get? a = some o → h'.get? a = some o) : NS w h' a L es ep t := by
  obtain ⟨o, ho, r⟩ := N.ob
  exact ⟨⟨o, ha o ho, r⟩, N.rows, N.tab, N.nd, N.led, N.room, N.few⟩
theorem ns_new {h : Heap} {a : Addr} (ho : h.get? a = some { cls := .type "set", dict := none, data := .set #[] 0 (.fresh 0 0 (!w.params.followText "set-order")) }) : NS w h a [] #[] 0 (.fresh 0 0 (!w.params.followText "set-order")) := by
  refine ⟨⟨_, ho, ⟨rfl, rfl, rfl⟩, rfl⟩, rfl, ⟨List.Pairwise.nil, rfl, rfl, .inl rfl, fun x hx => (by cases hx), fun i h j hi => (by simp at hi)⟩, List.nodup_nil, ?_, by show 0 * 5 < 7 * 3; decide, by show 0 < 64; decide⟩
  show _ ∨ (!w.params.followText "set-order") = true
  cases w.params.followText "set-order" with
  | true => exact .inl rfl
  | false => exact .inr rfl
/-- the loop of set.update over rows -/
theorem upd_rows {I : Addr} {fp wr : List Addr} {G : Array GenState → Array GenState → Prop} {n : Nat} {Pv : Nat → Value → Prop} {St : Nat → Shared → Prop} {R : Result → Shared → Prop} (W : WalksS P w A.in1 I fp wr G n Pv St) (S : Addr) (hSf : S ∉ fp) (ks : List Row) (hn : n = ks.length) (hfew : ks.length < 64)
    (hval : ∀ i v, Pv i v → ∃ p, ks[i]? = some p ∧ v = .ref p.1) (h0 : Heap) (hk : ∀ p ∈ ks, IsN P w h0 p.2 p.1) (hS0 : h0.get? S = none) (hw0 : ∀ b ∈ wr, h0.get? b = none) (hu : A.in1.units + 8 < cLine) :
    ∀ (m i : Nat) (s : Shared), n - i = m → i ≤ n → St i s → (∀ b o, h0.get? b = some o → s.heap.get? b = some o) → (∃ L es ep t, NS w s.heap S L es ep t ∧ Has (ks.take i) L) →
      (∀ s' L es ep t, Moved (S :: wr) G s s' → NS w s'.heap S L es ep t → Has ks L → (∀ b o, h0.get? b = some o → s'.heap.get? b = some o) → R (.ok (.ret .none)) s') → codeAny (model P w) A (.builtin "set.update.loop" ⟨[.ref S, .ref I], []⟩) R s := by
  have hSw : S ∉ wr := fun h => hSf (W.sub _ h)
  have hsub : ∀ b ∈ wr, b ∈ S :: wr := fun b hb => List.mem_cons_of_mem _ hb
  have old : ∀ {s s' : Shared}, Moved wr G s s' → (∀ b o, h0.get? b = some o → s.heap.get? b = some o) → ∀ b o, h0.get? b = some o → s'.heap.get? b = some o := fun hm hkp b o e =>
    hm.heap b o (fun hb => by rw [hw0 b hb] at e; cases e) (hkp b o e)
  intro m
  induction m with
  | zero =>
    rintro i s hm hi hst hkp ⟨L, es, ep, t, N, g⟩ hR
    have hin : i = n := by omega
    subst hin
    refine codeAny_builtin F.entry_set_update_loop ?_
    rw [Around.under_plainId F.plain_set_update_loop _]
    show wpAny _ A.in1 (pyNext (.ref I) >>= _) _ _ s
    refine wpAny_bind (W.done s _ _ hst fun s' hmv => ?_)
    show wpAny _ A.in1 (ret Value.none) _ _ s'
    rw [hn, List.take_length] at g
    exact wpAny_pure (hR s' L es ep t (hmv.mono hsub) (N.up fun o e => hmv.heap S o hSw e) g (old hmv hkp))
  | succ m ih =>
    rintro i s hm hi hst hkp ⟨L, es, ep, t, N, g⟩ hR
    have hlt : i < n := by omega
    refine codeAny_builtin F.entry_set_update_loop ?_
    rw [Around.under_plainId F.plain_set_update_loop _]
    show wpAny _ A.in1 (pyNext (.ref I) >>= _) _ _ s
    refine wpAny_bind (W.item i s _ _ hlt hst fun v s' hP hst' hmv => ?_)
    obtain ⟨p, hp, rfl⟩ := hval i v hP
    have hkp' := old hmv hkp
    have N' : NS w s'.heap S L es ep t := N.up fun o e => hmv.heap S o hSw e
    have hLk : ∀ q ∈ L, IsN P w s'.heap q.2 q.1 := fun q hq => isN_up (hk q (List.mem_of_mem_take (g.sub q hq))) hkp'
    have hx : IsN P w s'.heap p.2 p.1 := isN_up (hk p (List.mem_of_getElem? hp)) hkp'
    have hlen : L.length ≤ i := Nat.le_trans g.len (by rw [List.length_take]; omega)
    show wpAny _ A.in1 (holding [Value.ref p.1] (setAdd S (.ref p.1)) >>= _) _ _ s'
    refine wpAny_bind (wpAny_holding ?_)
    unfold setAdd
    refine wpAny_holding ?_
    refine wpAny_bind ((nestedKind P w).pyHash (A := A.in1) hu hx ?_)
    refine add_row (s := { s' with toks := s'.toks + (nestedKind P w).draws p.2 }) N' hLk hx hu (by omega) fun b h' L' es' ep' t' hsb N2 c1 c2 => ?_
    have g' : Has (ks.take (i + 1)) L' := by
      have e : ks.take (i + 1) = ks.take i ++ [p] := by rw [List.take_succ, hp]; rfl
      rw [e]
      exact g.step c1 c2
    have hkp2 : ∀ b o, h0.get? b = some o → h'.get? b = some o := fun b o e => (hsb.2 b (fun z => by rw [z, hS0] at e; cases e)).trans (hkp' b o e)
    refine wpAny_pure ⟨plainId_quiet F.plain_set_update_loop _, ih (i + 1) _ (by omega) hlt (W.frame _ s' _ _ hst' (Nat.le_add_right _ _) fun b hb o e => ?_) hkp2 ⟨L', es', ep', t', N2, g'⟩ fun s'' L2 es2 ep2 t2 hm'' N'' g'' hkp'' => ?_⟩
    · rw [hsb.2 b (fun h : b = S => hSf (by rw [← h]; exact hb))]
      exact e
    · refine hR s'' L2 es2 ep2 t2 (Moved.trans W.gtrans ((hmv.mono hsub).then_heap (Nat.le_add_right _ _) fun b o hb e => ?_) hm'') N'' g'' hkp''
      rw [hsb.2 b (fun h : b = S => hb (by rw [h]; exact List.mem_cons_self))]
      exact e
/-- set(xs) -/
theorem call_setN {l : Addr} {items : Array Value} (ks : List Row) {Q : Value → Shared → Prop} (hh : A.handled = none) (hl : s.heap.IsList l items) (hit : items.toList = ks.map fun p => Value.ref p.1) (hk : ∀ p ∈ ks, IsN P w s.heap p.2 p.1) (hfew : ks.length < 64) (hu : A.units + 16 < cLine)
    (h : ∀ (h' : Heap) (tk : Nat) L es ep t, NS w h' s.heap.objs.size L es ep t → Has ks L → (∀ b o, s.heap.get? b = some o → h'.get? b = some o) → Q (.ref s.heap.objs.size) { s with heap := h', toks := tk }) :
    wpAny (model P w) A (call (.type "set") [.ref l]) Q E s := by
  have hisz : items.size = ks.length := by
    have q := congrArg List.length hit
    rw [Array.length_toList, List.length_map] at q
    exact q
  obtain ⟨c, tl, hmro⟩ := F.called_set.mro
  have hmade := F.called_set.made
  have hsub := F.called_set.sub
  refine wpAny_call (codeAny_of_tree ?_)
  show wpAny _ _ (callAny (.type "set") _) _ _ _
  refine wpAny_pure ⟨Code.quiet_builtin _ (by decide +kernel), codeAny_builtin F.entry_type_call ?_⟩
  rw [Around.under_plain (weight_type_call_type "set" [.ref l] []) rfl]
  have h1 := F.called_set.notType
  have h2 := F.called_set.canCreate
  have hct := F.typeCall_set_1 (.ref l)
  repeat (any_goals (first | assumption | wp_step))
  have hS : (s.heap.push { cls := .type "set", dict := none, data := .set #[] 0 (.fresh 0 0 (!w.params.followText "set-order")) }).get? s.heap.objs.size = some { cls := .type "set", dict := none, data := .set #[] 0 (.fresh 0 0 (!w.params.followText "set-order")) } := Heap.get?_push_size _ rfl
  refine codeAny_mono (code_set_led1 (.ref l) (E := E) (Q₁ := fun obj s₁ => obj = .ref s.heap.objs.size ∧ s₁ = { s with heap := s.heap.push { cls := .type "set", dict := none, data := .set #[] 0 (.fresh 0 0 (!w.params.followText "set-order")) } }) ⟨rfl, rfl⟩) fun r s₁ hr => ?_
  cases r with
  | error e => exact hr
  | ok fl =>
    cases fl with
    | ret obj =>
      obtain ⟨rfl, rfl⟩ := hr
      have hT : Shared.TypeIs { s with heap := s.heap.push { cls := .type "set", dict := none, data := .set #[] 0 (.fresh 0 0 (!w.params.followText "set-order")) } } (.ref s.heap.objs.size) "set" := ⟨_, hS, rfl⟩
      have hli := F.called_set.init.lookup
      have hbi := F.called_set.init.bind (.ref s.heap.objs.size)
      repeat (any_goals (first | assumption | wp_step))
      refine codeAny_mono (codeAny_call_builtin (R := wants (fun r s₂ => r = .none ∧ ∃ h' tk L es ep t, s₂ = { s with heap := h', toks := tk } ∧ NS w h' s.heap.objs.size L es ep t ∧ Has ks L ∧ (∀ b o, s.heap.get? b = some o → h'.get? b = some o)) E) F.called_set.init.plain F.entry_set_init (check_set_init_1 hT ?_)) fun r₂ s₂ hr₂ => ?_
      · obtain ⟨ol, hol, hcl, nl, hdl⟩ := hl
        obtain ⟨ocls, odict, odata, oslots⟩ := ol
        simp only at hcl hdl
        subst hcl
        subst hdl
        have hol' := Heap.get?_push_of_some { cls := .type "set", dict := none, data := .set #[] 0 (.fresh 0 0 (!w.params.followText "set-order")) } hol
        have hsls := F.sub_list_set
        have hslf := F.sub_list_frozenset
        have hne : (Value.type "list" == Value.type "dict") = false := by decide
        have hl1 : (s.heap.push { cls := .type "set", dict := none, data := .set #[] 0 (.fresh 0 0 (!w.params.followText "set-order")) }).IsList l items := ⟨_, hol', rfl, nl, rfl⟩
        unfold Builtin.«set.__init__» noKeywords Builtin.Frozenset.updateFrom
        generalize hPI : pyIter = PI
        wp_walk
        subst hPI
        refine wpAny_pyIter_list hl1 ?_
        refine wpAny_bind (wpAny_runValue ?_)
        have hlS : l < s.heap.objs.size := Heap.lt_size hol
        have hh3 : A.in1.in1.in1.handled = none := by simp [hh]
        have hz1 : (s.heap.push { cls := .type "set", dict := none, data := .set #[] 0 (.fresh 0 0 (!w.params.followText "set-order")) }).objs.size = s.heap.objs.size + 1 := Heap.size_push ..
        have none_of : ∀ b, s.heap.objs.size ≤ b → s.heap.get? b = none := fun b hb => Heap.get?_none_of_le hb
        refine upd_rows ((Walks.list hh3 _ l (by rw [hz1]; exact Nat.ne_of_lt (Nat.lt_succ_of_lt hlS)) items).toS) s.heap.objs.size (by
            rw [hz1]
            simp only [List.mem_cons, List.not_mem_nil, or_false, not_or]
            exact ⟨Nat.ne_of_lt (Nat.lt_succ_self _), Nat.ne_of_gt hlS⟩) ks hisz hfew (fun i v hv => ?_) s.heap hk (none_of _ (Nat.le_refl _)) (fun b hb => none_of b (by rw [List.mem_singleton.mp hb, hz1]; omega)) (by show A.units + 3 + 8 < _; omega) (items.size - 0) 0 _ (by omega) (Nat.zero_le _)
          ⟨⟨_, Heap.get?_push_size _ rfl, rfl, rfl⟩, (hl1.push _)⟩ (fun b o e => Heap.get?_push_of_some _ (Heap.get?_push_of_some _ e)) ⟨[], #[], 0, _, ns_new (Heap.get?_push_of_some _ hS), by rw [List.take_zero]; exact Has.nil⟩ ?_
        · have q : items.toList[i]? = some v := by rw [Array.getElem?_toList]; exact hv
          rw [hit, List.getElem?_map] at q
          obtain ⟨p, hp, rfl⟩ := Option.map_eq_some_iff.mp q
          exact ⟨p, hp, rfl⟩
        · intro s' L es ep t hm N' g' hkp
          obtain ⟨h', g2, d', tk', os'⟩ := s'
          have eg : g2 = s.gens := hm.gens
          have ed : d' = s.drawn := hm.drawn
          have eo : os' = s.os := hm.os
          subst eg
          subst ed
          subst eo
          show wpAny _ _ _ _ _ _
          refine wpAny_pure ?_
          show wpAny _ _ (ret Value.none) _ _ _
          exact wpAny_pure ⟨rfl, h', tk', L, es, ep, t, rfl, N', g', hkp⟩
      · cases r₂ with
        | error e => exact hr₂
        | ok fl₂ =>
          cases fl₂ with
          | ret r =>
            obtain ⟨rfl, h', tk, L, es, ep, t, rfl, N', g', hk'⟩ := hr₂
            repeat (any_goals (first | assumption | wp_step))
            exact h _ _ _ _ _ _ N' g' hk'
          | _ => exact hr₂.elim
    | _ => exact hr.elim
end
end Lk

/-! SetN3: such sets as tracked things: set(xs), sorted(set), len(set). -/
namespace Lk
open PySem PySem.Spec PyProof.Rows L2 PySem.W
/-! data as keys -/
mutual
def keyOf : PyData → NestedKey
  | .none => .none
  | .bool b => .num (if b = true then 1 else 0)
  | .int i => .num i
  | .str x => .text x
  | .tuple ds => .tup (keysOf ds)
  | .list _ => .none
  | .dict _ => .none
def keysOf : List PyData → List NestedKey
  | [] => []
  | d :: ds => keyOf d :: keysOf ds
end
mutual
/-- of tuples alone -/
def flatT : PyData → Bool
  | .none | .bool _ | .int _ | .str _ => true
  | .tuple ds => flatTs ds
  | .list _ | .dict _ => false
def flatTs : List PyData → Bool
  | [] => true
  | d :: ds => flatT d && flatTs ds
end
mutual
theorem nest_of {h : Heap} : ∀ (d : PyData) (v : Value) (as : List Addr), flatT d = true → Reads h v d as → NestedIs h (keyOf d) v
  | .none, _, _, _, r => by
    cases r
    rw [keyOf]
    exact .none
  | .bool b, _, _, _, r => by
    cases r
    rw [keyOf]
    exact .bool rfl
  | .int i, _, _, _, r => by
    cases r
    rw [keyOf]
    exact .int _ _
  | .str x, _, _, _, r => by
    cases r
    rw [keyOf]
    exact .text _ _
  | .tuple ds, _, _, hf, r => by
    cases r with
    | tuple h1 h2 h3 h4 =>
      rw [keyOf]
      exact .tup h1 h2 h3 (nests_of ds _ _ (by rw [flatT] at hf; exact hf) h4)
  | .list _, _, _, hf, _ => by simp [flatT] at hf
  | .dict _, _, _, hf, _ => by simp [flatT] at hf
theorem nests_of {h : Heap} : ∀ (ds : List PyData) (vs : List Value) (as : List Addr), flatTs ds = true → ReadsAll h vs ds as → NestedAll h (keysOf ds) vs
  | [], _, _, _, r => by
    cases r
    rw [keysOf]
    exact .nil
  | d :: ds, _, _, hf, r => by
    rw [flatTs, Bool.and_eq_true] at hf
    cases r with
    | cons r1 r2 =>
      rw [keysOf]
      exact .cons (nest_of d _ _ hf.1 r1) (nests_of ds _ _ hf.2 r2)
end
mutual
theorem depth_keyOf : ∀ d : PyData, (keyOf d).depth ≤ d.depth
  | .none => by simp [keyOf, NestedKey.depth]
  | .bool b => by simp [keyOf, NestedKey.depth]
  | .int i => by simp [keyOf, NestedKey.depth]
  | .str x => by simp [keyOf, NestedKey.depth]
  | .tuple ds => by
    have := depths_keyOf ds
    simp only [keyOf, NestedKey.depth, PyData.depth]
    omega
  | .list _ => by simp [keyOf, NestedKey.depth]
  | .dict _ => by simp [keyOf, NestedKey.depth]
theorem depths_keyOf : ∀ ds : List PyData, NestedKey.depthAll (keysOf ds) ≤ PyData.depthAll ds
  | [] => by simp [keysOf, NestedKey.depthAll]
  | d :: ds => by
    have h1 := depth_keyOf d
    have h2 := depths_keyOf ds
    simp only [keysOf, NestedKey.depthAll, PyData.depthAll]
    omega
end
abbrev DRow := Addr × PyData
def rowK (p : DRow) : Row := (p.1, keyOf p.2)
def NS0 (w : World) (h : Heap) (a : Addr) (L : List DRow) : Prop := ∃ es ep t, NS w h a (L.map rowK) es ep t
/-- such a set, as what is true of its object -/
def SetNO (w : World) (a : Addr) (L : List DRow) : HO := .ext fun h => NS0 w h a L
theorem setNO_new {P : Program} {w : World} {H : Hp} {h : Heap} {a : Addr} {L : List DRow} (R : NS0 w h a L) : ObjOk P w H h a (SetNO w a L) := by
  have ⟨es, ep, t, N⟩ := R
  have ⟨o, ho, _⟩ := N.ob
  refine ⟨R, ⟨o, ho⟩, fun h1 h2 p k => ?_⟩
  obtain ⟨es', ep', t', N'⟩ : NS0 w h1 a L := p
  exact ⟨es', ep', t', N'.up k⟩
/-- good members -/
def RowOk (K : PySem.W.Frag) (H : Hp) (p : DRow) : Prop := Dp K H (.ref p.1) p.2 ∧ flatT p.2 = true ∧ p.2.depth ≤ 8
theorem map_pre {α β : Type} {f : α → β} {ks : List α} : ∀ {L' : List β}, (∀ x ∈ L', x ∈ ks.map f) → ∃ L : List α, L.map f = L' ∧ ∀ p ∈ L, p ∈ ks
  | [], _ => ⟨[], rfl, (fun _ h => by cases h)⟩
  | x :: L', h => by
    obtain ⟨L, e, hs⟩ := map_pre (L' := L') fun y hy => h y (List.mem_cons_of_mem _ hy)
    obtain ⟨p, hp, rfl⟩ := List.mem_map.mp (h x List.mem_cons_self)
    refine ⟨p :: L, by rw [List.map_cons, e], fun q hq => ?_⟩
    rcases List.mem_cons.mp hq with rfl | hq
    · exact hp
    · exact hs q hq
section
variable {X : Cx} {pins : List (Addr × Obj)} {σ : L2.St} {H : Hp} {s : Shared}
theorem row_isN (I : Inv X pins σ H s) {p : DRow} (h : RowOk X.K H p) : IsN X.prog X.w s.heap (rowK p).2 (rowK p).1 := by
  obtain ⟨as, r⟩ := Dp.reads I _ _ (.ref p.1) h.1 rfl
  exact ⟨nest_of _ _ _ h.2.1 r, Nat.le_trans (depth_keyOf p.2) h.2.2⟩
theorem vals_rows : ∀ (ks : List DRow), Vals (ks.map fun p => V.ref p.1) (ks.map fun p => Value.ref p.1)
  | [] => .nil
  | _ :: ks => .cons rfl (vals_rows ks)
theorem rows_vals : ∀ {ks : List DRow} {us : List Value}, Vals (ks.map fun p => V.ref p.1) us → us = ks.map fun p => Value.ref p.1
  | [], _, .nil => rfl
  | _ :: _, _, .cons r t => by
    cases r
    rw [rows_vals t]
    rfl
/-- set(xs) -/
theorem cr_setN (hc : X.calm = true) (hu : X.A.units + 64 < cLine) : CallR X (.type "set") (fun xs H Q => ∃ (l : Addr) (ks : List DRow), xs = [V.ref l] ∧ SqL X.K H l (ks.map fun p => V.ref p.1) ∧ (∀ p ∈ ks, RowOk X.K H p) ∧ ks.length < 64 ∧
    ∀ a L, H a = none → (∀ p ∈ L, p ∈ ks) → (L.map fun p => keyOf p.2).Nodup → (∀ p ∈ ks, ∃ q ∈ L, keyOf q.2 = keyOf p.2) → L.length ≤ ks.length → Q (.ref a) (upd H a (SetNO X.w a L))) := by
  intro pins s σ H xs us Q I r h
  obtain ⟨l, ks, rfl, hl, hk, hf, q⟩ := h
  rw [Vals.ref1 r]
  obtain ⟨its, rv, pl, hz⟩ := I.list hl
  have hn : H s.heap.objs.size = none := I.hok.fresh (Nat.le_refl _)
  refine call_setN (P := X.prog) (w := X.w) (ks.map rowK) (I.ok.hd hc) pl.isList (by rw [List.map_map]; show its = _; rw [rows_vals rv]; rfl) (fun p hp => ?_) (by rw [List.length_map]; exact hf) (by omega) fun h' tk L es ep t N g k => ?_
  · obtain ⟨q', hq', rfl⟩ := List.mem_map.mp hp
    exact row_isN I (hk q' hq')
  · obtain ⟨L0, rfl, hs⟩ := map_pre g.sub
    refine ⟨.ref s.heap.objs.size, upd H s.heap.objs.size (SetNO X.w s.heap.objs.size L0), I.laid (t' := tk) k (Nat.le_refl _) (setNO_new ⟨es, ep, t, N⟩), rfl, q _ L0 hn hs ?_ (fun p hp => ?_) ?_⟩
    · have := N.nd
      rw [List.map_map] at this
      exact this
    · have := g.all (rowK p) (List.mem_map.mpr ⟨p, hp, rfl⟩)
      rw [List.map_map] at this
      obtain ⟨q', h1, h2⟩ := List.mem_map.mp this
      exact ⟨q', h1, h2⟩
    · have := g.len
      rw [List.length_map, List.length_map] at this
      exact this
/-- len(set) -/
theorem cr_lenN : CallR X (.builtin "len") (fun xs H Q => ∃ (a : Addr) (L : List DRow), xs = [V.ref a] ∧ H a = some (SetNO X.w a L) ∧ Q (.int L.length) H) := by
  intro pins s σ H xs us Q I r h
  obtain ⟨a, L, rfl, ha, q⟩ := h
  rw [Vals.ref1 r]
  obtain ⟨es, ep, t, N⟩ : NS0 X.w s.heap a L := (I.hok a _ ha).1
  obtain ⟨o, ho, hex, hd⟩ := N.ob
  have hsz := rows_size N.rows
  rw [List.length_map] at hsz
  have hfew := N.few
  rw [List.length_map] at hfew
  exact call_len_set ho hex hd N.fits (by omega) ⟨.int L.length, H, I.tok _, ⟨_, by rw [hsz]⟩, q⟩
/-- sorted(set) -/
theorem cr_sortedN (hcalm : X.calm = true) (hu : X.A.units + 64 < cLine) : CallR X (.builtin "sorted") (fun xs H Q => ∃ (a : Addr) (L : List DRow) (le : PyData → PyData → Bool), xs = [V.ref a] ∧ H a = some (SetNO X.w a L) ∧ (∀ p ∈ L, RowOk X.K H p) ∧ (∀ L' : List DRow, L'.Perm L → CanSort (L'.map (·.2)) le) ∧
    ∀ p (L' : List DRow), L'.Perm L → H p = none → Q (.ref p) (upd H p (.lst ((sortZ le (L'.map fun q => V.ref q.1) (L'.map (·.2))).map (·.1))))) := by
  intro pins s σ H xs us Q I r h
  obtain ⟨a, L, le, rfl, ha, hk, hc, q⟩ := h
  rw [Vals.ref1 r]
  obtain ⟨es, ep, t, N⟩ : NS0 X.w s.heap a L := (I.hok a _ ha).1
  obtain ⟨o, ho, hex, hd⟩ := N.ob
  have hsz := rows_size N.rows
  rw [List.length_map] at hsz
  have hfew := N.few
  rw [List.length_map] at hfew
  refine Calls.call_function_entry PyProof.Rows.kind_sorted PyProof.Rows.plain_sorted PyProof.Rows.entry_sorted (PyProof.Rows.args_sorted1 _) ?_
  unfold Builtin.«sorted»
  refine wpAny_bind (m := checkCount "sorted" 1 1 _) (wpAny_pure ?_)
  refine wpAny_bind (collect_set (A := X.A.in1) (I.ok.hd hcalm) ⟨o, ho, hex.1, hd⟩ N.fits (by unfold scanBound; omega) N.tab.ris N.led fun s1 vs k1 hz g1 o1 pm => ?_)
  have e1 : es.toList.map (·.2) = L.map fun q => Value.ref q.1 := by
    rw [N.rows, List.map_map, List.map_map]
    rfl
  rw [e1] at pm
  -- the values, as rows in some order
  obtain ⟨L', pL, rfl⟩ := perm_lift (fun q : DRow => Value.ref q.1) pm L rfl
  have I1 : Inv X pins σ H s1 := I.call' (ch := []) o1 (Un.kept k1) (I.hok.kept k1) (by rw [g1]; exact I.bare) (fun _ z => nomatch z)
  have hl' : L'.length < 64 := by rw [pL.length_eq]; exact hfew
  refine wpAny_bind (wpAny_newList ?_ (by rw [List.length_map, sizeLine_eq]; omega))
  have hoL : (s1.heap.push (seqObj "list" (L'.map fun q => Value.ref q.1).toArray 0)).get? s1.heap.objs.size = some (seqObj "list" (L'.map fun q => Value.ref q.1).toArray 0) := Heap.get?_push_size _ rfl
  show wpAny _ _ _ _ _ { s1 with heap := s1.heap.push (seqObj "list" (L'.map fun q => Value.ref q.1).toArray 0) }
  have dp : DpAll X.K H (L'.map fun q => V.ref q.1) (L'.map (·.2)) := by
    have gen : ∀ l : List DRow, (∀ p ∈ l, p ∈ L) → DpAll X.K H (l.map fun q => V.ref q.1) (l.map (·.2)) := by
      intro l
      induction l with
      | nil => intro _; exact .nil
      | cons p l ih => exact fun hl => .cons (hk p (hl p List.mem_cons_self)).1 (ih fun q hq => hl q (List.mem_cons_of_mem _ hq))
    exact gen L' fun p hp => pL.mem_iff.mp hp
  have rv := vals_rows L'
  have e0 : EachIs (fun v d => ∃ as, Reads s1.heap v d as) (L'.map fun q => Value.ref q.1) (L'.map (·.2)) := reads_each I1 dp rv
  have e2 : EachIs (fun v d => ∃ as, Reads (sortingHeap (s1.heap.push (seqObj "list" (L'.map fun q => Value.ref q.1).toArray 0)) s1.heap.objs.size (L'.map fun q => Value.ref q.1)) v d as) (L'.map fun q => Value.ref q.1) (L'.map (·.2)) :=
    e0.mono fun _ _ ⟨as, r⟩ => ⟨as, PyProof.Rows.Reads.keeps (fun b o q => sortingHeap_old (Nat.ne_of_lt (Heap.lt_size q)) (Heap.get?_push_of_some _ q)) r⟩
  obtain ⟨κ, S, key⟩ := hc L' pL X.prog X.w X.A.in1.in1 { s1 with heap := sortingHeap (s1.heap.push (seqObj "list" (L'.map fun q => Value.ref q.1).toArray 0)) s1.heap.objs.size (L'.map fun q => Value.ref q.1) } _ e2 fun d hd' => by
    obtain ⟨p, hp, rfl⟩ := List.mem_map.mp hd'
    have := (hk p (pL.mem_iff.mp hp)).2.2
    show X.A.units + 2 + _ < _
    omega
  have hlen : (L'.map fun q => V.ref q.1).length = (L'.map (·.2)).length := by rw [List.length_map, List.length_map]
  have out := key (fun v (b : V × PyData) => RelV b.1 v) (·.2) ((L'.map fun q => V.ref q.1).zip (L'.map (·.2))) (List.map_snd_zip (by omega)) (rel_zip hlen rv)
  refine wpAny_bind (wpAny_holding (wpAny_call_entry PyProof.Rows.slot_list_sort ⟨_, hoL, rfl⟩ PyProof.Rows.entry_list_sort
    (list_sort_vals (κ := κ) (s := { s1 with heap := s1.heap.push (seqObj "list" (L'.map fun q => Value.ref q.1).toArray 0) }) hoL S (by rw [List.length_map, sizeLine_eq]; omega) ⟨_, rfl, ?_⟩) (PyProof.Rows.args_list_sort _)))
  obtain ⟨e', he'⟩ := PyProof.Rows.sortedHeap_at (vs := L'.map fun q => Value.ref q.1) (out := (sortVals κ false (L'.map fun q => Value.ref q.1) (L'.map fun q => Value.ref q.1)).toArray) hoL
  refine wpAny_pure ⟨_, rfl, .ref s1.heap.objs.size, upd H s1.heap.objs.size (.lst ((sortZ le (L'.map fun q => V.ref q.1) (L'.map (·.2))).map (·.1))), I1.laid (t' := s1.toks) (fun b u e => ?_) (Nat.le_refl _)
    ⟨?_, _, e', vals_each out, he'⟩, rfl, q _ L' pL (I1.hok.fresh (Nat.le_refl _))⟩
  · have hb : b < s1.heap.objs.size := Heap.lt_size e
    rw [PyProof.Rows.sortedHeap_old (Nat.ne_of_lt hb) (by rw [size_push']; exact Nat.lt_succ_of_lt hb)]
    exact Heap.get?_push_of_some _ e
  · unfold sortZ
    rw [List.length_map, (List.mergeSort_perm _ _).length_eq, List.length_zip, List.length_map, List.length_map]
    exact small (by omega)
end
end Lk

/-! Da7: sets of tuples, sorted by key, in the calculus. -/
namespace Lk
open PySem PySem.Spec PyProof.Rows L2
/-- what a set of the data ds may hold -/
structure SubOf (ds ds' : List PyData) : Prop where
  sub : ∀ d ∈ ds', d ∈ ds
  nd : (ds'.map keyOf).Nodup
  all : ∀ d ∈ ds, ∃ e ∈ ds', keyOf e = keyOf d
  len : ds'.length ≤ ds.length
theorem allref : ∀ {L : List DRow} {H H' : Hp}, Same H H' → (∀ p ∈ L, Dh H (.ref p.1) p.2) → ∀ p ∈ L, Dh H' (.ref p.1) p.2 := fun e h p hp => dp_up e _ _ (h p hp)
abbrev setP (w : World) (ds : List PyData) : Pr where
  p := fun v H => ∃ (a : Addr) (L : List DRow), v = .ref a ∧ H a = some (SetNO w a L) ∧ (∀ p ∈ L, Dh H (.ref p.1) p.2) ∧ SubOf ds (L.map fun p => p.2)
  up := fun e h => by
    obtain ⟨a, L, h1, h2, h3, h4⟩ := h
    exact ⟨a, L, h1, e _ _ h2, allref e h3, h4⟩
/-- tuples to be members -/
def MemOk (ds : List PyData) : Prop := ∀ d ∈ ds, (∃ es, d = .tuple es) ∧ flatT d = true ∧ d.depth ≤ 8
theorem refs_of {H : Hp} : ∀ {ds : List PyData} {xs : List V}, (∀ d ∈ ds, ∃ es, d = .tuple es) → DhAll H xs ds → ∃ ks : List DRow, ks.map (fun p => V.ref p.1) = xs ∧ ks.map (·.2) = ds ∧ ∀ p ∈ ks, Dh H (.ref p.1) p.2
  | [], _, _, h => by
    cases h
    exact ⟨[], rfl, rfl, fun _ h => by cases h⟩
  | d :: ds, _, hd, h => by
    cases h with
    | cons h1 h2 =>
      obtain ⟨ks, e1, e2, e3⟩ := refs_of (fun e he => hd e (List.mem_cons_of_mem _ he)) h2
      obtain ⟨es, rfl⟩ := hd d List.mem_cons_self
      cases h1 with
      | @tup a ys _ g1 g2 =>
        refine ⟨(a, .tuple es) :: ks, by rw [List.map_cons, e1], by rw [List.map_cons, e2], fun p hp => ?_⟩
        rcases List.mem_cons.mp hp with rfl | hp
        · exact .tup g1 g2
        · exact e3 p hp
section
variable {X : Cx} {B : List Addr} {ρ : Rho} {e : Expr} {pos p : Pos}
theorem ed_set {ds : List PyData} (hc : X.calm = true) (hu : X.A.units + 64 < cLine) (hg : Gl X "set") (hm : X.mg "set" = none) (ha : Ed X B ρ e (dP X.K (.list ds))) (hd : MemOk ds) (hl : ds.length < 64) (he : starEach [e] X.env = (false, eval e X.env) :: starEach [] X.env := by rfl) :
    Ed X B ρ (.Call (.Name "set" p) [e] [] pos) (setP X.w ds) :=
  ed_callTy (cr_setN hc hu) hg hm (by decide +kernel) (ea_cons ha ea_nil he) (fun vs G H eg r1 Q z => by
    obtain ⟨v, rfl, h1⟩ := allp1 r1
    have h1 : Dh G v (.list ds) := h1
    cases h1 with
    | @lst l xs _ h2 h3 =>
      obtain ⟨ks, rfl, rfl, hk⟩ := refs_of (fun d h => (hd d h).1) h3
      refine ⟨l, ks, rfl, sql_up eg.1 h2, fun p hp => ⟨dh_dp eg.1 _ _ (hk p hp), (hd _ (List.mem_map.mpr ⟨p, hp, rfl⟩)).2⟩, by rw [List.length_map] at hl; exact hl, fun a L hn s1 s2 s3 s4 => z _ _ (stp_new hn) ?_⟩
      rw [ext_new eg hn]
      have u := snew (snone eg.1 hn) (o := SetNO X.w a L)
      refine ⟨a, L, rfl, upd_same, fun p hp => dp_up u _ _ (hk p (s1 p hp)), ⟨fun d h => ?_, ?_, fun d h => ?_, by rw [List.length_map, List.length_map]; exact s4⟩⟩
      · obtain ⟨p, hp, rfl⟩ := List.mem_map.mp h
        exact List.mem_map.mpr ⟨p, s1 p hp, rfl⟩
      · rw [List.map_map]
        exact s2
      · obtain ⟨p, hp, rfl⟩ := List.mem_map.mp h
        obtain ⟨q, hq, eq⟩ := s3 p hp
        exact ⟨q.2, List.mem_map.mpr ⟨q, hq, rfl⟩, eq⟩) (by decide) (by decide) he
theorem SubOf.full {ds ds' : List PyData} (h : SubOf ds ds') (hd : (ds.map keyOf).Nodup) : ds'.Perm ds := by
  have inj : ∀ a ∈ ds, ∀ b ∈ ds, keyOf a = keyOf b → a = b := by
    have gen : ∀ l : List PyData, (l.map keyOf).Nodup → ∀ a ∈ l, ∀ b ∈ l, keyOf a = keyOf b → a = b := by
      intro l
      induction l with
      | nil => intro _ a ha; cases ha
      | cons x l ih =>
        intro hn a ha b hb e
        rw [List.map_cons] at hn
        obtain ⟨n1, n2⟩ := List.nodup_cons.mp hn
        rcases List.mem_cons.mp ha with a1 | a2
        · rcases List.mem_cons.mp hb with b1 | b2
          · rw [a1, b1]
          · exact (n1 (List.mem_map.mpr ⟨b, b2, by rw [← e, a1]⟩)).elim
        · rcases List.mem_cons.mp hb with b1 | b2
          · exact (n1 (List.mem_map.mpr ⟨a, a2, by rw [e, b1]⟩)).elim
          · exact ih n2 a a2 b b2 e
    exact gen ds hd
  have n1 : ds'.Nodup := nodup_of_map h.nd
  have n2 : ds.Nodup := nodup_of_map hd
  refine (List.perm_ext_iff_of_nodup n1 n2).mpr fun d => ⟨h.sub d, fun hm => ?_⟩
  obtain ⟨e, he, ek⟩ := h.all d hm
  rw [← inj e (h.sub e he) d hm ek]
  exact he
/-- len(set(e)), e's items all different -/
theorem ed_lenSet {ds : List PyData} (hg : Gl X "len") (hm : X.mg "len" = none) (ha : Ed X B ρ e (setP X.w ds)) (hd : (ds.map keyOf).Nodup) (he : starEach [e] X.env = (false, eval e X.env) :: starEach [] X.env := by rfl) : Ed X B ρ (.Call (.Name "len" p) [e] [] pos) (dP X.K (.int ds.length)) :=
  ed_callB cr_lenN hg hm (by decide +kernel) (ea_cons ha ea_nil he) (givesC_here fun vs G H eg r1 Q z => by
    obtain ⟨v, rfl, a, L, rfl, h2, h3, h4⟩ := allp1 r1
    refine ⟨a, L, rfl, eg.1 _ _ h2, ?_⟩
    have := (h4.full hd).length_eq
    rw [List.length_map] at this
    rw [this]
    exact z _ (.int _)) (by decide) (by decide) he
theorem ed_sortedSet {ds : List PyData} {le : PyData → PyData → Bool} (hc : X.calm = true) (hu : X.A.units + 64 < cLine) (hg : Gl X "sorted") (hm : X.mg "sorted" = none) (ha : Ed X B ρ e (setP X.w ds)) (hd : MemOk ds) (hs : ∀ ds', SubOf ds ds' → CanSort ds' le) (he : starEach [e] X.env = (false, eval e X.env) :: starEach [] X.env := by rfl) :
    Ed X B ρ (.Call (.Name "sorted" p) [e] [] pos) (xP (fun ds' => SubOf ds ds') fun ds' => dP X.K (.list (ds'.mergeSort le))) :=
  ed_callB (cr_sortedN hc hu) hg hm (by decide +kernel) (ea_cons ha ea_nil he) (fun vs G H eg r1 Q z => by
    obtain ⟨v, rfl, a, L, rfl, h2, h3, h4⟩ := allp1 r1
    have sp : ∀ L' : List DRow, L'.Perm L → SubOf ds (L'.map (·.2)) := fun L' pm => by
      have pm2 := pm.map (·.2)
      refine ⟨fun d h => h4.sub d (pm2.mem_iff.mp h), (pm2.map keyOf).nodup_iff.mpr h4.nd, fun d h => ?_, by rw [pm2.length_eq]; exact h4.len⟩
      obtain ⟨e, e1, e2⟩ := h4.all d h
      exact ⟨e, pm2.mem_iff.mpr e1, e2⟩
    refine ⟨a, L, le, rfl, eg.1 _ _ h2, fun p hp => ⟨dh_dp eg.1 _ _ (h3 p hp), (hd _ (h4.sub _ (List.mem_map.mpr ⟨p, hp, rfl⟩))).2⟩, fun L' pm => hs _ (sp L' pm), fun q L' pm hq => z _ _ (stp_new hq) ?_⟩
    rw [ext_new eg hq]
    have u := snew (snone eg.1 hq) (o := HO.lst ((sortZ le (L'.map fun q => V.ref q.1) (L'.map (·.2))).map (·.1)))
    refine ⟨L'.map (·.2), sp L' pm, .lst upd_same (dpa_up u _ _ (sortZ_dha ?_))⟩
    have gen : ∀ l : List DRow, (∀ p ∈ l, p ∈ L) → DhAll G (l.map fun q => V.ref q.1) (l.map (·.2)) := by
      intro l
      induction l with
      | nil => intro _; exact .nil
      | cons p l ih => exact fun hl => .cons (h3 p (hl p List.mem_cons_self)) (ih fun q hq => hl q (List.mem_cons_of_mem _ hq))
    exact gen L' fun p hp => pm.mem_iff.mp hp) (by decide) (by decide) he
/-- len(set(a list of whole numbers, all different)) -/
theorem ed_lenSetI {ns : List Int} {p2 q : Pos} (hc : X.calm = true) (hg : Gl X "len") (hm : X.mg "len" = none) (hg2 : Gl X "set") (hm2 : X.mg "set" = none) (ha : Ed X B ρ e (dP X.K (.list (ns.map .int)))) (hn : ns.Nodup) (hl : ns.length < 64) (he : starEach [e] X.env = (false, eval e X.env) :: starEach [] X.env := by rfl) :
    Ed X B ρ (.Call (.Name "len" p) [.Call (.Name "set" p2) [e] [] q] [] pos) (dP X.K (.int ns.length)) := fun σ G H eg k Q z =>
  pe_we (pe_lenSetI hc hg hm hg2 hm2 we_pe he) (ha σ G H eg k _ fun v H2 s r => by
    have r : Dh (ext G H H2) v (.list (ns.map .int)) := r
    cases r with
    | @lst l xs _ h2 h3 =>
      rw [ints_v h3] at h2
      exact ⟨l, ns, rfl, sql_up (ext_same eg s).1 h2, hl, hn, z _ H2 s (.int _)⟩)
end
end Lk

/-! Srt4: sorted(xs, key=order_of). The key function is read on the bare state: it makes one tuple and keeps all. -/
namespace Lk
open PySem PySem.Spec PyProof.Rows L2 PySem.W
section
variable {P : Program} {w : World} {K : PySem.W.Frag} {mg : Str → Option Value} {base : Heap}
/-- notice[i], on the bare state -/
theorem raw_at {X : Cx} {σ : L2.St} {H : Hp} {s : Shared} {i : Nat} {x : Str} {p1 p2 p3 : Pos} {j0} {t : Addr} {xs : List V} {k : Int} {z : V} {Q : Value → Shared → Prop} (I : Inv X [] σ H s) (hN : X.N[i]? = some x) (hv : Vis X.env.scope x) (hd : (x == ("__debug__" : Str)) = false) (hcd : (x == ("__classdict__" : Str)) = false)
    (hσ : σ[i]? = some (some (.ref t))) (ht : SqT X.K H t xs) (he : atI xs k = some z) (h : ∀ u tk, RelV z u → Q u { s with toks := tk }) :
    wpAny (model X.prog X.w) X.A (eval (.Subscript (.Name x p1) (.Constant (.int k) j0 p2) p3) X.env) Q X.xe s := by
  obtain ⟨m, hn, hl⟩ := I.loc
  obtain ⟨u, r, l⟩ := hl i x _ hN hσ hv
  cases r
  have tail : wpAny (model X.prog X.w) X.A (eval (.Constant (.int k) j0 p2) X.env) (fun i s₂ => wpAny (model X.prog X.w) X.A (subscriptTail (.Name x p1) (.Constant (.int k) j0 p2) (.ref t) i) Q X.xe s₂) X.xe s := by
    refine wpAny_Constant_int ?_
    have I2 := I.tok (s.toks + 1)
    obtain ⟨its, r, pl, hz⟩ := I2.tuple ht
    obtain ⟨j, h1, h2, h3, h4, h5⟩ := atI_get he
    obtain ⟨w', ew, rw'⟩ := r.get h2
    have hl := r.length
    have hn := line63
    exact subscriptTail_builtinR (x := w') pl.typeIs slot_tuple_getitem.lookup
      (PyProof.Rows.getItem_tuple (j := j) (Q := fun r s' => r = w' ∧ Q r s') pl (by omega) (by omega) (by rw [List.size_toArray, ← hl]; exact h1) (by simpa using ew) ⟨rfl, h w' _ rw'⟩) rfl
  refine Subscript_ ?_
  rcases l with ⟨hk, hm⟩ | ⟨hk, c, hc, hcell⟩
  · exact wpAny_Name (wpAny_loadName_local I.ok.kind hk hn hm tail) hd
  · rcases hk with hk | hk
    · exact wpAny_Name (wpAny_loadName_cell I.ok.kind hk hc hcell tail) hd
    · exact wpAny_Name (wpAny_loadName_free I.ok.kind hk hc hcell tail hcd) hd
/-- order_of(notice) keeps the heap and gives (day, number) -/
theorem order_pure (T : TX K mg) : ∃ (f : Addr) (fd : FuncData), mg "order_of" = some (.ref f) ∧ PySem.W.keepIn K (.ref f) = true ∧ ∀ (A : Around) (outer : List Env) (s : Shared) (H : Hp) (t : Addr) (num day : Int) (z : V), Room 1 A → Env0 P w K mg base A outer s H → SqT K H t [.int num, .int day, z] →
    wpAny (model P w) A (call (.ref f) [.ref t]) (KeyPure (.tuple [.int day, .int num]) s) (fun _ _ => False) s := by
  obtain ⟨f, fd, hm, F⟩ := T.f_order_of
  refine ⟨f, fd, hm, F.kp, fun A outer s H t num day z hr e0 ht => ?_⟩
  have S := sc_order_of
  have hb : Binds K fd ["notice"] [] := F.bindsN fun _ _ _ _ _ _ us hl => match us, hl with | [_], _ => rfl
  obtain ⟨oc, od, dV, kV, doc, pm, an, cdv, ct, osl, rfl, lk, hcd, _, _⟩ := F.ex
  have KX : K.In s.heap := e0.mod.kin.keeps fun b o e => (e0.bs b o e).1
  have lim : s.heap.NoLimit := e0.mod.nolimit.keeps fun b o e => (e0.bs b o e).1
  refine wpAny_call (codeAny_call_function hr.depth (KX _ _ lk) rfl S.co S.gen rfl (PySem.W.codeRec_of KX hcd) (hb s [.ref t] KX rfl _ _ _ _ ?_))
  refine wpAny_newFunctionEnv_cells S.kind (fun y hy => ?_) fun env he s1 x => ?_
  · rcases S.par y.1 (List.of_mem_zip hy).1 with q | q
    · exact .inl q
    · exact .inr ⟨q, PySem.W.cellsFrom_some _ _ _ (.inl q)⟩
  subst he
  refine ⟨lim.keeps x.toInCall.keep, codeAny_func ?_⟩
  have I : Inv (cxOf CX0 P w K mg base n_order_of _ (defScope s_order_of) f cdv A outer s H (fun _ _ _ => False)) [] (L2.start n_order_of [.ref t]) H s1 := inv_start S hr.hd e0 rfl (.cons rfl .nil) x
  obtain ⟨h1, tk1, e1, hk1⟩ := x.done
  refine wpAny_mono (Q := fun fl s' => ∃ u, fl = Flow.ret u ∧ KeyPure (.tuple [.int day, .int num]) s u s') (E := fun _ _ => False) ?_ (fun fl s' hf => ?_) (fun _ _ z => z.elim)
  · have I' := I.wish (fun _ _ => False)
    refine wpAny_execs_cons (wpAny_Return_some (wpAny_Tuple_spliced (Calls.spliced_cons (raw_at (i := 0) I' rfl (.inl rfl) (by decide) (by decide) rfl ht (z := .int day) rfl fun u tk ru => ?_))))
    refine Calls.spliced_cons (raw_at (i := 0) (I'.tok tk) rfl (.inl rfl) (by decide) (by decide) rfl ht (z := .int num) rfl fun u2 tk2 ru2 => ?_)
    obtain ⟨t1, rfl⟩ := ru
    obtain ⟨t2, rfl⟩ := ru2
    refine Calls.spliced_nil ⟨small (by show 2 ≤ 100000; decide), _, rfl, ?_⟩
    subst e1
    refine ⟨_, _, rfl, fun b o e => Heap.get?_push_of_some _ (hk1 b o e), ?_⟩
    exact .tuple (Heap.get?_push_size _ rfl) rfl rfl (.cons (.int _ _) (.cons (.int _ _) .nil))
  · obtain ⟨u, rfl, hk⟩ := hf
    exact hk
/-- (day, number) -/
def ordD : PyData → PyData
  | .tuple [.int n, .int d, _] => .tuple [.int d, .int n]
  | _ => .none
def IsNot (d : PyData) : Prop := ∃ n day z, d = .tuple [.int n, .int day, z]
def ordLe (a b : PyData) : Bool := !dataLt (ordD b) (ordD a)
abbrev ARow := Addr × PyData
theorem arows {X : Cx} {H : Hp} {s : Shared} {σ : L2.St} {pins : List (Addr × Obj)} : ∀ {ds : List PyData} {ws : List V} {us : List Value}, (∀ d ∈ ds, IsNot d) → DpAll X.K H ws ds → Vals ws us → ∃ bs : List ARow, bs.map (fun b => V.ref b.1) = ws ∧ bs.map (·.2) = ds ∧ EachIs (fun v (b : ARow) => v = .ref b.1) us bs ∧ ∀ b ∈ bs, ∃ n d z, b.2 = .tuple [.int n, .int d, z] ∧ ∃ zv, SqT X.K H b.1 [.int n, .int d, zv]
  | [], _, _, _, h, r => by
    cases h
    cases r
    exact ⟨[], rfl, rfl, .nil, fun _ h => by cases h⟩
  | d :: ds, _, _, hd, h, r => by
    cases h with
    | cons h1 h2 =>
      cases r with
      | cons r1 r2 =>
        obtain ⟨bs, e1, e2, e3, e4⟩ := arows (s := s) (σ := σ) (pins := pins) (fun e he => hd e (List.mem_cons_of_mem _ he)) h2 r2
        obtain ⟨n, day, z, rfl⟩ := hd d List.mem_cons_self
        cases h1 with
        | @tup a xs _ g1 g2 =>
          cases r1
          refine ⟨(a, .tuple [.int n, .int day, z]) :: bs, by rw [List.map_cons, e1], by rw [List.map_cons, e2], .cons rfl e3, fun b hb => ?_⟩
          rcases List.mem_cons.mp hb with rfl | hb
          · refine ⟨n, day, z, rfl, ?_⟩
            cases g2 with
            | cons a1 a2 =>
              cases a2 with
              | cons b1 b2 =>
                cases b2 with
                | cons c1 c2 =>
                  cases c2
                  cases a1
                  cases b1
                  exact ⟨_, g1⟩
          · exact e4 b hb
theorem cr_sortedOrd (T : TX K mg) : ∃ f, mg "order_of" = some (.ref f) ∧ PySem.W.keepIn K (.ref f) = true ∧ ∀ X : Cx, X.prog = P → X.w = w → X.K = K → X.mg = mg → X.base = base → Room 3 X.A → CallRK X (.builtin "sorted") [Str.ofString "key"] (fun vs zs H Q => ∃ (l : Addr) (ws : List V) (ds : List PyData), vs = [.ref l] ∧ zs = [.ref f] ∧ SqL X.K H l ws ∧ DpAll X.K H ws ds ∧ (∀ d ∈ ds, IsNot d) ∧
    ∀ p, H p = none → Q (.ref p) (upd H p (.lst ((sortZ ordLe ws ds).map (·.1))))) := by
  obtain ⟨f, fd, hm, hk, pure_⟩ := order_pure (P := P) (w := w) (base := base) T
  refine ⟨f, hm, hk, fun X e1 e2 e3 e4 e5 hr => ?_⟩
  subst e1 e2 e3 e4 e5
  intro pins s σ H vs zs us ws' Q I r rz h
  obtain ⟨l, ws, ds, rfl, rfl, hl, hd, hn, q⟩ := h
  obtain rfl := Vals.ref1 r
  obtain rfl := Vals.ref1 rz
  obtain ⟨its, rv, pl, hz⟩ := I.list hl
  obtain ⟨bs, b1, b2, b3, b4⟩ := arows (s := s) (σ := σ) (pins := pins) hn hd rv
  have hlen : bs.length = its.length := b3.length.symm
  have hk : ∀ b ∈ bs, ∃ n d, ordD b.2 = .tuple [.int d, .int n] := fun b hb => by
    obtain ⟨n, d, z, e, _⟩ := b4 b hb
    exact ⟨n, d, by rw [e]; rfl⟩
  have hu := hr.units
  refine sorted_key_data (b := false) (R := fun v (b : ARow) => v = .ref b.1) (fun b : ARow => ordD b.2) pl.isList b3 (fun d hd d' hd' => ?_) (.inl fun d hd => ?_) (by rw [hlen, ← rv.length]; exact hz) (fun b hb => ?_) (PyProof.Rows.ksk_s1 _ _) (fun _ => PyProof.Rows.ksk_l1 _ _) (fun _ => PyProof.Rows.ksk_t1 _ _) (fun v b hv hb h tk kp => ?_) fun out c h' tk kp hfr hD hol eo => ?_
  · obtain ⟨b, hb, rfl⟩ := List.mem_map.mp hd
    obtain ⟨b', hb', rfl⟩ := List.mem_map.mp hd'
    obtain ⟨n, d, e⟩ := hk b hb
    obtain ⟨n', d', e'⟩ := hk b' hb'
    rw [e, e']
    simp [alike, alikeAll]
  · obtain ⟨b, hb, rfl⟩ := List.mem_map.mp hd
    obtain ⟨n, d, e⟩ := hk b hb
    exact ⟨_, _, e⟩
  · obtain ⟨n, d, e⟩ := hk b hb
    rw [e]
    simp only [PyData.depth, PyData.depthAll]
    omega
  · subst hv
    obtain ⟨n, d, z, e, zv, ht⟩ := b4 b hb
    have I2 : Inv X pins σ H { s with heap := h, toks := tk } := I.kept kp
    rw [show ordD b.2 = .tuple [.int d, .int n] by rw [e]; rfl]
    exact pure_ X.A.in1.in1 X.stack _ H b.1 n d zv hr.in1.in1 I2.env0.in1.in1 ht
  · have I2 : Inv X pins σ H { s with heap := h', toks := tk } := I.kept kp
    have es : (bs.mergeSort (dataLe false fun b : ARow => ordD b.2)).map (fun b => V.ref b.1) = (sortZ ordLe ws ds).map (·.1) := by
      unfold sortZ
      have ez : ws.zip ds = bs.map fun b => (V.ref b.1, b.2) := by
        rw [← b1, ← b2, List.zip_map']
      have em := List.map_mergeSort (f := fun b : ARow => (V.ref b.1, b.2)) (r := dataLe false fun b : ARow => ordD b.2) (s := fun a b => ordLe a.2 b.2) (l := bs) (fun _ _ _ _ => rfl)
      rw [ez, ← em, List.map_map]
      rfl
    refine ⟨.ref _, upd H (s.heap.objs.size + 1) (.lst ((sortZ ordLe ws ds).map (·.1))), I.laid kp (Nat.le_succ _) ⟨?_, out, c, ?_, hD⟩, rfl, q _ (I.hok.fresh (Nat.le_succ _))⟩
    · rw [← es, List.length_map, (List.mergeSort_perm _ _).length_eq, hlen, ← rv.length]
      exact hz
    · rw [← es]
      have gen : ∀ (out : List Value) (l : List ARow), EachIs (fun v (b : ARow) => v = .ref b.1) out l → Vals (l.map fun b => V.ref b.1) out := by
        intro out l e
        induction e with
        | nil => exact .nil
        | cons h _ ih => exact .cons h ih
      exact gen _ _ eo
end
end Lk

/-! Da8: sorted(xs, key=order_of). -/
namespace Lk
open PySem PySem.Spec PyProof.Rows L2
section
variable {X : Cx} {B : List Addr} {ρ : Rho} {e : Expr} {pos p p2 kp : Pos}
theorem ed_sortedOrd {ds : List PyData} (T : TX X.K X.mg) (hr : Room 3 X.A) (hg : Gl X "sorted") (hm : X.mg "sorted" = none) (hg2 : Gl X "order_of") (ha : Ed X B ρ e (dP X.K (.list ds))) (hn : ∀ d ∈ ds, IsNot d) (hs1 : starEach [e] X.env = (false, eval e X.env) :: starEach [] X.env := by rfl)
    (he : backTo pos (starEach [e] X.env) = (false, eval e X.env) :: backTo pos (starEach [] X.env) := by rfl) (hpl : (backTo pos (starEach [e] X.env)).any (·.1) = false := by rfl)
    (hall : (backToKw pos (keywordEach [⟨some (Str.ofString "key"), .Name "order_of" p2, kp⟩] X.env)).all (·.1.isSome) = true := by rfl) (hnone : (backToKw pos (keywordEach [⟨some (Str.ofString "key"), .Name "order_of" p2, kp⟩] X.env)).any (·.1.isNone) = false := by rfl) (hks : (backToKw pos (keywordEach [⟨some (Str.ofString "key"), .Name "order_of" p2, kp⟩] X.env)).filterMap (·.1) = [Str.ofString "key"] := by rfl) :
    Ed X B ρ (.Call (.Name "sorted" p) [e] [⟨some (Str.ofString "key"), .Name "order_of" p2, kp⟩] pos) (dP X.K (.list (ds.mergeSort ordLe))) := by
  obtain ⟨f, h1, h2, h3⟩ := cr_sortedOrd (P := X.prog) (w := X.w) (base := X.base) T
  intro σ G H eg k Q z
  refine pe_we (pe_callBK (h3 X rfl rfl rfl rfl rfl hr) hg hm (by decide +kernel) (pa_cons we_pe pa_nil hs1) (pk_cons (pe_glob (v := .ref f) hg2 h1 rfl) pk_nil) (by decide) (by decide) he hpl hall hnone hks) (ha σ G H eg k _ fun v H2 s r => ?_)
  have r : Dh (ext G H H2) v (.list ds) := r
  have eg2 := ext_same eg s
  cases r with
  | @lst l ws _ g1 g2 =>
    refine ⟨l, ws, ds, rfl, rfl, sql_up eg2.1 g1, dha_dpa eg2.1 _ _ g2, hn, fun q hq => z _ _ (s.trans (stp_new hq)) ?_⟩
    rw [← ext_trans eg s (stp_new hq), ext_new eg2 hq]
    exact .lst upd_same (dpa_up (snew (snone eg2.1 hq)) _ _ (sortZ_dha g2))
end
end Lk

/-! Da9: dicts whose keys are whole numbers; a dict that is read only stands frozen. -/
namespace Lk
open PySem PySem.Spec PyProof.Rows L2
def putM {β : Type} (ms : List (Int × β)) (m : Int) (x : β) : List (Int × β) := if (ms.any fun p => decide (p.1 = m)) = true then ms.map (fun p => if p.1 = m then (p.1, x) else p) else ms ++ [(m, x)]
def getM {β : Type} (ms : List (Int × β)) (m : Int) : Option β := (ms.find? fun p => decide (p.1 = m)).map (·.2)
def dictOf {β : Type} (l : List (Int × β)) : List (Int × β) := l.foldl (fun acc p => putM acc p.1 p.2) []
abbrev AllK {β : Type} (g : β → PyData) (ms : List (Int × β)) (kvs : List (L2.Key × V)) (H : Hp) : Prop := Paired (fun (m : Int × β) (kv : L2.Key × V) => kv.1 = .inl m.1 ∧ Dh H kv.2 (g m.2)) ms kvs
section
variable {β : Type} {g : β → PyData} {ms : List (Int × β)} {kvs : List (L2.Key × V)} {H H' : Hp}
theorem AllK.up (e : Same H H') (h : AllK g ms kvs H) : AllK g ms kvs H' := Paired.mapP h fun _ _ q => ⟨q.1, dp_up e _ _ q.2⟩
theorem AllK.len (h : AllK g ms kvs H) : ms.length = kvs.length := Paired.length h
theorem key_eq {a b : Int} : ((.inl a : L2.Key) = .inl b) ↔ a = b := ⟨fun h => by injection h, fun h => by rw [h]⟩
theorem AllK.get (m : Int) : ∀ {ms : List (Int × β)} {kvs : List (L2.Key × V)}, AllK g ms kvs H → (getM ms m = none ∧ valV kvs (.inl m) = none) ∨ ∃ x v, getM ms m = some x ∧ valV kvs (.inl m) = some v ∧ Dh H v (g x)
  | _, _, .nil => .inl ⟨rfl, rfl⟩
  | _, _, .cons (a := p) (b := kv) h t => by
    by_cases e : p.1 = m
    · refine .inr ⟨p.2, kv.2, ?_, ?_, h.2⟩
      · unfold getM
        rw [List.find?_cons_of_pos (by simp [e])]
        rfl
      · exact valV_pos (by rw [h.1, e])
    · have e2 : ¬ kv.1 = .inl m := fun z => e (key_eq.mp (h.1.symm.trans z))
      rcases AllK.get m t with ⟨h1, h2⟩ | ⟨x, v, h1, h2, h3⟩
      · refine .inl ⟨?_, by rw [valV_neg e2, h2]⟩
        unfold getM at h1 ⊢
        rw [List.find?_cons_of_neg (by simp [e])]
        exact h1
      · refine .inr ⟨x, v, ?_, by rw [valV_neg e2, h2], h3⟩
        unfold getM at h1 ⊢
        rw [List.find?_cons_of_neg (by simp [e])]
        exact h1
theorem allK_any (m : Int) : ∀ {ms : List (Int × β)} {kvs : List (L2.Key × V)}, AllK g ms kvs H → (ms.any fun p => decide (p.1 = m)) = kvs.any fun kv => decide (kv.1 = .inl m)
  | _, _, .nil => rfl
  | _, _, .cons (a := p) (b := kv) h t => by
    rw [List.any_cons, List.any_cons, allK_any m t]
    congr 1
    exact decide_eq_decide.mpr (by rw [h.1]; exact key_eq.symm)
theorem allK_map (m : Int) {x : β} {v : V} (hx : Dh H v (g x)) : ∀ {ms : List (Int × β)} {kvs : List (L2.Key × V)}, AllK g ms kvs H → AllK g (ms.map fun p => if p.1 = m then (p.1, x) else p) (kvs.map fun kv => if kv.1 = .inl m then (kv.1, v) else kv) H
  | _, _, .nil => .nil
  | _, _, .cons (a := p) (b := kv) h t => by
    refine .cons ?_ (allK_map m hx t)
    dsimp only
    by_cases e : p.1 = m
    · rw [if_pos e, if_pos (by rw [h.1, e])]
      exact ⟨h.1, hx⟩
    · rw [if_neg e, if_neg fun z => e (key_eq.mp (h.1.symm.trans z))]
      exact h
theorem AllK.put (h : AllK g ms kvs H) (m : Int) {x : β} {v : V} (hx : Dh H v (g x)) : AllK g (putM ms m x) (putK kvs (.inl m) v) H := by
  have e := allK_any (g := g) m h
  unfold putM putK
  rw [e]
  split
  · exact allK_map m hx h
  · exact Paired.snoc h ⟨rfl, hx⟩
theorem length_putM {ms : List (Int × β)} {m : Int} {x : β} : (putM ms m x).length ≤ ms.length + 1 := by
  unfold putM
  split
  · rw [List.length_map]
    omega
  · rw [List.length_append, List.length_singleton]
    exact Nat.le_refl _
end
theorem paired_get {α γ : Type} {F : α → γ → Prop} : ∀ {xs : List α} {ys : List γ} {i : Nat} {x : α}, Paired F xs ys → xs[i]? = some x → ∃ y, ys[i]? = some y ∧ F x y
  | _, _, _, _, .nil, e => by simp at e
  | _, _, 0, _, .cons r _, e => by
    simp at e
    subst e
    exact ⟨_, rfl, r⟩
  | _, _, i + 1, x, .cons _ t, e => by
    obtain ⟨y, h1, h2⟩ := paired_get (i := i) t (by simpa using e)
    exact ⟨y, by simpa using h1, h2⟩
/-- a frozen dict -/
abbrev mkP {β : Type} (g : β → PyData) (ms : List (Int × β)) : Pr where
  p := fun v H => ∃ (d : Addr) (od : Obj) (kvs : List (L2.Key × V)), v = .ref d ∧ H d = some (.frz od (.dK kvs)) ∧ AllK g ms kvs H
  up := fun e h => by
    obtain ⟨d, od, kvs, h1, h2, h3⟩ := h
    exact ⟨d, od, kvs, h1, e _ _ h2, h3.up e⟩
/-- a hidden dict -/
def dKP {β : Type} (g : β → PyData) (ms : List (Int × β)) : HP where
  p := fun o G => ∃ kvs : List (L2.Key × V), o = .dK kvs ∧ AllK g ms kvs G
  up := fun e h => by
    obtain ⟨kvs, h1, h2⟩ := h
    exact ⟨kvs, h1, h2.up e⟩
  nt := fun h => by
    obtain ⟨_, h, _⟩ := h
    cases h
section
variable {X : Cx}
/-- what was evaluated is frozen -/
theorem we_freeze {e : Expr} {σ : L2.St} {H : Hp} {Q : VK} (h : WE X e σ H fun v H' => ∃ d u, H' d = some u ∧ Mut (some u) ∧ ∀ od, Q v (upd H' d (.frz od u))) : WE X e σ H Q := fun pins s I => by
  refine thn (h pins s I) fun v s1 ⟨x, H1, I1, r, d, u, hd, mu, q⟩ => ?_
  obtain ⟨od, I2⟩ := I1.lock hd mu
  exact ⟨x, _, I2, r, q od⟩
theorem wb_freeze {sts : List Stmt} {D : Ends} {σ : L2.St} {H : Hp} {d : Addr} {u : HO} (hd : H d = some u) (mu : Mut (some u)) (h : ∀ od, WB X sts D σ (upd H d (.frz od u))) : WB X sts D σ H := fun pins s I => by
  obtain ⟨od, I2⟩ := I.lock hd mu
  exact h od pins s I2
variable {B : List Addr} {φ : Fx} {ρ : Rho} {hs : Hs} {rest : List Stmt} {D : Ends} {e o a c : Expr} {P : Pr} {pos p apos cpos : Pos} {β : Type} {g : β → PyData} {ms : List (Int × β)} {m : Int} {x : β}
theorem ed_newK : Ed X B ρ (.Dict [] [] pos) (mkP g []) := fun σ G H eg k Q z => we_freeze (pe_we pe_dnewK fun p hp => ⟨p, .dK [], upd_same, trivial, fun od => by
  rw [upd_upd]
  refine z _ _ (stp_new hp) ?_
  rw [ext_new eg hp]
  exact ⟨p, od, [], rfl, upd_same, .nil⟩⟩)
theorem em_newK : Em X φ ρ hs (.Dict [] [] pos) (fun v G H => ∃ p, v = .ref p ∧ Stt φ ((p, dKP g []) :: hs) G H) := fun σ G H S k Q z =>
  pe_we pe_dnewK fun p hp => z _ G _ (Same.refl _) ⟨p, rfl, S.new hp ⟨[], rfl, .nil⟩⟩
/-- dict(marks) -/
theorem em_dictD (hg : Gl X "dict") (hm : X.mg "dict" = none) (ha : Ed X φ.B ρ a (mkP g ms)) (hs1 : starEach [a] X.env = (false, eval a X.env) :: starEach [] X.env := by rfl) : Em X φ ρ hs (.Call (.Name "dict" p) [a] [] pos) (fun v G H => ∃ p, v = .ref p ∧ Stt φ ((p, dKP g ms) :: hs) G H) :=
  em_callTy call_dictD hg hm (by decide +kernel) (eam_ea (ea_cons ha ea_nil hs1)) (fun vs G H ⟨S, r⟩ Q z => by
    obtain ⟨v, rfl, d, od, kvs, rfl, h2, h3⟩ := allp1 r
    exact ⟨d, kvs, rfl, .inr ⟨od, S.ok.1 _ _ h2⟩, fun q hq => z _ G _ (Same.refl _) ⟨q, rfl, S.new hq ⟨kvs, rfl, h3⟩⟩⟩) (by decide) (by decide) hs1
/-- found[mark] = thing -/
theorem sm_putK {i : Nat} {d : Addr} {pos' : Pos} (hu : X.A.units + 1 < cLine) (hi : hs[i]? = some (d, dKP g ms)) (hl : ms.length < 100000) (hv : Ed X φ.B ρ e (dP X.K (g x))) (ho : Ed X φ.B ρ o (eP (.ref d))) (ha : Ed X φ.B ρ a (dP X.K (.int m)))
    (hs1 : swapsWith e (some (.Subscript o a pos')) pos.line X.env = pure false := by rfl) : Sm X φ ρ hs (.Assign [.Subscript o a pos'] e pos) (fun σ G H => Stt φ (hs.set i (d, dKP g (putM ms m x))) G H ∧ Kn σ G ρ) := fun D σ G H S kn z =>
  ps_ws (ps_dput hu we_pe we_pe we_pe hs1) (hv σ G H S.ok kn _ fun v H1 s1 r1 => by
    have S1 := S.ev s1
    have k1 := kn.up (ext_up S.ok (H2 := H1))
    refine ho σ _ H1 S1.ok k1 _ fun y H2 s2 r2 => ?_
    have S2 := S1.ev s2
    have k2 := k1.up (ext_up S1.ok (H2 := H2))
    have r2 : y = .ref d := r2
    subst r2
    refine ha σ _ H2 S2.ok k2 _ fun y H3 s3 r3 => ?_
    have S3 := S2.ev s3
    have k3 := k2.up (ext_up S2.ok (H2 := H3))
    have hy := dp_int r3
    subst hy
    obtain ⟨o', ho', kvs, rfl, hkv⟩ := S3.get hi
    have hl' := hkv.len
    have hv' := dp_up (ext_up S2.ok (H2 := H3)) _ _ (dp_up (ext_up S1.ok (H2 := H2)) _ _ r1)
    exact ⟨d, _, rfl, .k (k := .inl m) ho' (Nat.lt_of_lt_of_le (by omega) (small (Nat.le_refl 100000))), z _ _ _ (((ext_up S.ok).trans (ext_up S1.ok)).trans (ext_up S2.ok)) ⟨S3.put hi ⟨_, rfl, hkv.put m hv'⟩, k3⟩⟩)
theorem dget_of {H G : Hp} {d : Addr} {od : Obj} {kvs : List (L2.Key × V)} (e : Same G H) (h : G d = some (.frz od (.dK kvs))) : DGet H d (.int m) (valV kvs (.inl m)) := .inl ⟨kvs, .inl m, .inr ⟨od, e _ _ h⟩, rfl, rfl⟩
/-- mark in marks -/
theorem et_inK (hu : X.A.units + 1 < cLine) (ha : Ed X B ρ a (dP X.K (.int m))) (hc : Ed X B ρ c (mkP g ms)) (hm : behindInMarks .In c = false := by rfl) : Et X B ρ (.Compare a [.In] [c] pos) (getM ms m).isSome := fun σ G H eg k Q z =>
  pt_wt (pt_cmp (pc_din hu we_pe we_pe) hm) (ha σ G H eg k _ fun y H1 s1 r1 => hc σ _ H1 (ext_same eg s1) (k.up (ext_up eg)) _ fun v H2 s2 r2 => by
    have hy := dp_int r1
    subst hy
    obtain ⟨d, od, kvs, rfl, h2, h3⟩ := r2
    refine ⟨d, _, rfl, dget_of (ext_same (ext_same eg s1) s2).1 h2, _, rfl, ?_⟩
    rcases h3.get m with ⟨q1, q2⟩ | ⟨x, v, q1, q2, _⟩
    · rw [q2]
      rw [q1] at z
      exact z H2 (s1.trans s2)
    · rw [q2]
      rw [q1] at z
      exact z H2 (s1.trans s2))
theorem et_notinK (hu : X.A.units + 1 < cLine) (ha : Ed X B ρ a (dP X.K (.int m))) (hc : Ed X B ρ c (mkP g ms)) (hm : behindInMarks .NotIn c = false := by rfl) : Et X B ρ (.Compare a [.NotIn] [c] pos) (!(getM ms m).isSome) := fun σ G H eg k Q z =>
  pt_wt (pt_cmp (pc_dnotin hu we_pe we_pe) hm) (ha σ G H eg k _ fun y H1 s1 r1 => hc σ _ H1 (ext_same eg s1) (k.up (ext_up eg)) _ fun v H2 s2 r2 => by
    have hy := dp_int r1
    subst hy
    obtain ⟨d, od, kvs, rfl, h2, h3⟩ := r2
    refine ⟨d, _, rfl, dget_of (ext_same (ext_same eg s1) s2).1 h2, _, rfl, ?_⟩
    rcases h3.get m with ⟨q1, q2⟩ | ⟨x, v, q1, q2, _⟩
    · rw [q2]
      rw [q1] at z
      exact z H2 (s1.trans s2)
    · rw [q2]
      rw [q1] at z
      exact z H2 (s1.trans s2))
/-- marks[mark] -/
theorem ed_getK (hu : X.A.units + 1 < cLine) (hc : Ed X B ρ o (mkP g ms)) (ha : Ed X B ρ a (dP X.K (.int m))) (hx : getM ms m = some x) (hs1 : NoSl a := by exact fun _ _ => rfl) : Ed X B ρ (.Subscript o a pos) (dP X.K (g x)) := fun σ G H eg k Q z =>
  pe_we (pe_dget hu we_pe we_pe hs1) (hc σ G H eg k _ fun v H1 s1 r1 => ha σ _ H1 (ext_same eg s1) (k.up (ext_up eg)) _ fun y H2 s2 r2 => by
    have hy := dp_int r2
    subst hy
    have r1' := (mkP g ms).up (ext_up (ext_same eg s1) (H2 := H2)) r1
    obtain ⟨d, od, kvs, rfl, h2, h3⟩ := r1'
    rcases h3.get m with ⟨q1, q2⟩ | ⟨x', v, q1, q2, q3⟩
    · rw [hx] at q1
      cases q1
    · rw [hx] at q1
      obtain rfl := Option.some.inj q1
      refine ⟨d, v, rfl, ?_, z v H2 (s1.trans s2) (by rw [← ext_trans eg s1 s2]; exact q3)⟩
      rw [← q2]
      exact dget_of (ext_same (ext_same eg s1) s2).1 h2)
/-- for mark in marks -/
theorem es_keysK {tg : Expr} (h : Ed X B ρ e (mkP g ms)) : Es X B ρ tg e (ms.map fun p => dP X.K (.int p.1)) := ⟨_, pi_keys we_pe, fun σ G H eg k R z => h σ G H eg k _ fun v H2 s r => by
  obtain ⟨d, od, kvs, rfl, h2, h3⟩ := r
  have eg2 := ext_same eg s
  refine ⟨d, od, rfl, .inl ⟨kvs, eg2.1 _ _ h2, z _ H2 s ⟨fun i H' e hi => ⟨e _ _ h2, ?_⟩, fun H' e => ⟨e _ _ h2, ?_⟩, fun i H' x H'' P e hP y => ?_⟩⟩⟩
  · rw [List.length_map, h3.len] at hi
    exact hi
  · rw [List.length_map, h3.len]
    exact Nat.le_refl _
  · obtain ⟨rfl, key, w, hk, rfl⟩ := y
    refine ⟨Same.refl _, ?_⟩
    rw [List.getElem?_map] at hP
    obtain ⟨pm, hp, rfl⟩ := Option.map_eq_some_iff.mp hP
    obtain ⟨kv, g1, g2, _⟩ := paired_get h3 hp
    rw [hk] at g1
    obtain rfl := Option.some.inj g1
    have g2 : key = .inl pm.1 := g2
    subst g2
    exact Dh.int pm.1⟩
/-- the hidden dict stands from now on -/
theorem m_freeze (i : Nat) {d : Addr} (hρ : ρ[i]? = some (some (eP (.ref d)))) (h : M X φ (ρ.set i (some (mkP g ms))) hs rest D) : M X φ ρ ((d, dKP g ms) :: hs) rest D := fun σ G H S k => by
  obtain ⟨u, hd, kvs, rfl, hk⟩ := S.get (i := 0) rfl
  refine wb_freeze hd trivial fun od => ?_
  have S2 := S.put (i := 0) (q' := ⟨fun o' _ => o' = .frz od (.dK kvs), fun _ h => h, fun h => nomatch h⟩) (o := .frz od (.dK kvs)) rfl rfl
  obtain ⟨o', rfl, e2, S3⟩ := S2.show rfl
  refine h σ _ _ S3 ?_
  have k2 := k.up e2
  obtain ⟨v, hv, rv⟩ := k.2 i _ hρ
  have rv : v = .ref d := rv
  subst rv
  have := k2.set (P := mkP g ms) i (v := .ref d) ⟨d, od, kvs, rfl, upd_same, hk.up e2⟩
  have e3 : σ.set i (some (.ref d)) = σ := by
    apply List.ext_getElem?
    intro j
    by_cases hij : i = j
    · subst hij
      rw [List.getElem?_set_self (List.getElem?_eq_some_iff.mp hv).1, hv]
    · rw [List.getElem?_set_ne hij]
  rw [e3] at this
  exact this
end
end Lk

/-! Da10: dict(pairs), in a tuple, calls of a function that an expression gives. -/
namespace Lk
open PySem PySem.Spec PyProof.Rows L2
theorem op_inT {X : Cx} (hu : X.A.units + 65 < cLine) : OpR X (compareOp .In) (fun x y H Q => ∃ d ds, Dp X.K H x d ∧ Dp X.K H y (.tuple ds) ∧ SeqAt.shaped d = true ∧ SeqAt.shaped (.tuple ds) = true ∧ Q (.bl (ds.any fun z => PyData.eqv z d)) H) := by
  intro pins s σ H x y v u Q I rx ry h
  obtain ⟨d, ds, hd, he, sd, se, q⟩ := h
  obtain ⟨as, r1⟩ := Dp.reads I d x v hd rx
  obtain ⟨bs, r2⟩ := Dp.reads I (.tuple ds) y u he ry
  exact SeqAt.in_tuple_reads r2 r1 (SeqAt.canLay_of_shaped se) (SeqAt.canLay_of_shaped sd) (room_in_shaped sd hu) ⟨.bl _, H, I, rfl, q⟩
theorem op_notInT {X : Cx} (hu : X.A.units + 65 < cLine) : OpR X (compareOp .NotIn) (fun x y H Q => ∃ d ds, Dp X.K H x d ∧ Dp X.K H y (.tuple ds) ∧ SeqAt.shaped d = true ∧ SeqAt.shaped (.tuple ds) = true ∧ Q (.bl (!ds.any fun z => PyData.eqv z d)) H) := by
  intro pins s σ H x y v u Q I rx ry h
  obtain ⟨d, ds, hd, he, sd, se, q⟩ := h
  obtain ⟨as, r1⟩ := Dp.reads I d x v hd rx
  obtain ⟨bs, r2⟩ := Dp.reads I (.tuple ds) y u he ry
  exact SeqAt.notIn_tuple_reads r2 r1 (SeqAt.canLay_of_shaped se) (SeqAt.canLay_of_shaped sd) (room_in_shaped sd hu) ⟨.bl _, H, I, rfl, q⟩
section
variable {X : Cx} {B : List Addr} {ρ : Rho} {e o a b c fe : Expr} {es : List Expr} {P : Pr} {Ps : List Pr} {pos p apos cpos : Pos} {β : Type} {g : β → PyData}
theorem et_notInT {d : PyData} {ds : List PyData} (hu : X.A.units + 65 < cLine) (ha : Ed X B ρ a (dP X.K d)) (hb : Ed X B ρ b (dP X.K (.tuple ds))) (sd : SeqAt.shaped d = true) (se : SeqAt.shaped (.tuple ds) = true) (hm : behindInMarks .NotIn b = false := by rfl) : Et X B ρ (.Compare a [.NotIn] [b] pos) (!ds.any fun z => PyData.eqv z d) :=
  et_cmp (op_notInT hu) ha hb hm (gives_here fun x y G H eg r1 r2 Q z => ⟨d, ds, dh_dp eg.1 _ _ r1, dh_dp eg.1 _ _ r2, sd, se, z _ (.bl _)⟩)
theorem et_inL {d : PyData} {ds : List PyData} (hu : X.A.units + 65 < cLine) (ha : Ed X B ρ a (dP X.K d)) (hb : Ed X B ρ b (dP X.K (.list ds))) (sd : SeqAt.shaped d = true) (se : SeqAt.shaped (.list ds) = true) (hm : behindInMarks .In b = false := by rfl) : Et X B ρ (.Compare a [.In] [b] pos) (ds.any fun z => PyData.eqv z d) :=
  et_cmp (op_inD hu) ha hb hm (gives_here fun x y G H eg r1 r2 Q z => ⟨d, ds, dh_dp eg.1 _ _ r1, dh_dp eg.1 _ _ r2, sd, se, z _ (.bl _)⟩)
theorem et_notInL {d : PyData} {ds : List PyData} (hu : X.A.units + 65 < cLine) (ha : Ed X B ρ a (dP X.K d)) (hb : Ed X B ρ b (dP X.K (.list ds))) (sd : SeqAt.shaped d = true) (se : SeqAt.shaped (.list ds) = true) (hm : behindInMarks .NotIn b = false := by rfl) : Et X B ρ (.Compare a [.NotIn] [b] pos) (!ds.any fun z => PyData.eqv z d) :=
  et_cmp (op_notInD hu) ha hb hm (gives_here fun x y G H eg r1 r2 Q z => ⟨d, ds, dh_dp eg.1 _ _ r1, dh_dp eg.1 _ _ r2, sd, se, z _ (.bl _)⟩)
/-- pairs (key, value), as tracked tuples -/
theorem pairs_rows {H : Hp} : ∀ {ms : List (Int × β)} {xs : List V}, DhAll H xs (ms.map fun m => .tuple [.int m.1, g m.2]) → ∃ (ps : List Addr) (kvs : List (L2.Key × V)), ps.map V.ref = xs ∧ AllK g ms kvs H ∧ Paired (fun p (kv : L2.Key × V) => H p = some (.tup [kV kv.1, kv.2])) ps kvs
  | [], _, h => by
    cases h
    exact ⟨[], [], rfl, .nil, .nil⟩
  | m :: ms, _, h => by
    rw [List.map_cons] at h
    cases h with
    | cons h1 h2 =>
      obtain ⟨ps, kvs, e1, e2, e3⟩ := pairs_rows h2
      cases h1 with
      | @tup a ys _ g1 g2 =>
        cases g2 with
        | cons a1 a2 =>
          cases a2 with
          | cons b1 b2 =>
            cases b2
            cases a1
            exact ⟨a :: ps, (.inl m.1, _) :: kvs, by rw [List.map_cons, e1], .cons ⟨rfl, b1⟩ e2, .cons g1 e3⟩
theorem allK_fold {H : Hp} : ∀ {more acc : List (Int × β)} {mv av : List (L2.Key × V)}, AllK g more mv H → AllK g acc av H → AllK g (more.foldl (fun acc p => putM acc p.1 p.2) acc) (mv.foldl (fun acc kv => putK acc kv.1 kv.2) av) H
  | _, _, _, _, .nil, h => h
  | _, _, _, _, .cons (a := p) (b := kv) r t, h => by
    rw [List.foldl_cons, List.foldl_cons, r.1]
    exact allK_fold t (h.put p.1 r.2)
/-- dict(a list of pairs) -/
theorem ed_dictP {ms : List (Int × β)} (hc : X.calm = true) (hg : Gl X "dict") (hm : X.mg "dict" = none) (ha : Ed X B ρ a (dP X.K (.list (ms.map fun m => .tuple [.int m.1, g m.2])))) (hs1 : starEach [a] X.env = (false, eval a X.env) :: starEach [] X.env := by rfl) : Ed X B ρ (.Call (.Name "dict" p) [a] [] pos) (mkP g (dictOf ms)) := fun σ G H eg k Q z =>
  we_freeze (pe_we (pe_callTy (call_dictP hc) hg hm (by decide +kernel) (pa_cons we_pe pa_nil hs1) (by decide) (by decide) hs1) (ha σ G H eg k _ fun v H2 s r => by
    have r : Dh (ext G H H2) v (.list _) := r
    have eg2 := ext_same eg s
    cases r with
    | @lst l xs _ g1 g2 =>
      obtain ⟨ps, kvs, rfl, e2, e3⟩ := pairs_rows g2
      refine ⟨l, ps, kvs, rfl, sql_up eg2.1 g1, Paired.mapP e3 fun _ _ q => sqt_up eg2.1 q, fun q hq => ⟨q, _, upd_same, trivial, fun od => ?_⟩⟩
      rw [upd_upd]
      refine z _ _ (s.trans (stp_new hq)) ?_
      rw [← ext_trans eg s (stp_new hq), ext_new eg2 hq]
      refine ⟨q, od, _, rfl, upd_same, AllK.up (snew (snone eg2.1 hq)) ?_⟩
      exact allK_fold e2 .nil))
/-- f(e, ..) where an expression gives f -/
theorem pe_callV {CX : CXT} {k : Nat} {f : Addr} {fd : FuncData} {ps : List Str} {sp : Sp} {dvs : List V} {ds : List Value} {E : XK} {t : TA} {tf : TE} (F : FnOk X.prog X.w X.K X.mg X.base CX k f fd ps sp) (hr : Room k X.A) (hk : PySem.W.keepIn X.K (.ref f) = true) (hb : Binds X.K fd ps ds) (hd : Vals dvs ds) (hx : Passes CX X E) (hf : PE X fe tf)
    (ha : PA X (e :: es) t) (hcall : eval (.Call fe (e :: es) [] pos) X.env = (do callWith pos (← eval fe X.env) [] (backTo pos (starEach (e :: es) X.env)) (backToKw pos (keywordEach [] X.env))) := by rfl) (he : starEach (e :: es) X.env = (false, eval e X.env) :: starEach es X.env := by rfl) (hpl : (backTo pos (starEach es X.env)).any (·.1) = false := by rfl) :
    PE X (.Call fe (e :: es) [] pos) (fun σ H Q => tf σ H fun x H1 => x = .ref f ∧ t σ H1 fun vs H2 => sp (vs ++ dvs) H2 Q E) := by
  refine ⟨fun pins s σ H Q I h => ?_⟩
  refine Call_ (thn (hf.run pins s σ H _ I h) fun u s1 ⟨x, H1, I1, r1, ex, q1⟩ => ?_) hcall
  subst ex
  cases r1
  refine PySem.W.callWith_K (h₀ := X.base) I1.ok.mod.kin hk (thn (ha.run pos pins s1 σ H1 _ I1 q1) fun us s2 ⟨vs, H2, I2, r, q⟩ => ⟨I2.kIn, ?_⟩) he hpl
  exact run_fn F hr hb hd hx I2 r q
theorem ed_callV {α : Type} {pre : α → Prop} {As : α → List Pr} {R : α → Pr} {x : Str} {ps : List Str} {k j : Nat} {f : Addr} (c : Cal X.prog X.w X.K X.mg X.base k x ps (spP pre As R)) (hmx : X.mg x = some (.ref f)) (hr : Room j X.A) (hk : k ≤ j) (z : α) (hz : pre z) (hf : Ed X B ρ fe (eP (.ref f))) (ha : Ea X B ρ (e :: es) (As z)) (hP : R z = P := by rfl)
    (hcall : eval (.Call fe (e :: es) [] pos) X.env = (do callWith pos (← eval fe X.env) [] (backTo pos (starEach (e :: es) X.env)) (backToKw pos (keywordEach [] X.env))) := by rfl) (he : starEach (e :: es) X.env = (false, eval e X.env) :: starEach es X.env := by rfl) (hpl : (backTo pos (starEach es X.env)).any (·.1) = false := by rfl) :
    Ed X B ρ (.Call fe (e :: es) [] pos) P := by
  obtain ⟨f', fd, h1, h2, h3, h4⟩ := c.ex
  rw [hmx] at h1
  injection h1 with h1
  injection h1 with h1
  subst h1
  subst hP
  refine fun σ G H eg kn Q q => pe_we (pe_callV h4 (hr.mono hk) h2 h3 .nil pass0 we_pe wa_pa hcall he hpl) (hf σ G H eg kn _ fun y H1 s1 r1 => ⟨r1, ha σ _ H1 (ext_same eg s1) (kn.up (ext_up eg)) _ fun vs H2 s2 r2 => ?_⟩)
  rw [List.append_nil]
  have s12 := s1.trans s2
  rw [ext_trans eg s1 s2] at r2
  exact ⟨z, _, hz, (ext_same eg s12).sub (fun _ h => by cases h), r2, fun v H3 s3 r3 => q v H3 (s12.trans (s3.sub fun _ h => by cases h)) (by rw [← ext_trans eg s12 (s3.sub (C := B) fun _ h => by cases h)]; exact r3)⟩
end
end Lk

/-! Da11: lists of one's own, `is None`, the table of deeds. -/
namespace Lk
open PySem PySem.Spec PyProof.Rows L2
theorem Cal.mono {P : Program} {w : World} {K : PySem.W.Frag} {mg : Str → Option Value} {base : Heap} {j k : Nat} {x : Str} {ps : List Str} {sp : Sp} (c : Cal P w K mg base j x ps sp) (h : j ≤ k) : Cal P w K mg base k x ps sp := by
  obtain ⟨f, fd, h1, h2, h3, h4⟩ := c.ex
  exact ⟨f, fd, h1, h2, h3, h4.mono h⟩
section
variable {X : Cx} {B : List Addr} {φ : Fx} {ρ ρ' : Rho} {hs hs' : Hs} {st : Stmt} {rest body orelse : List Stmt} {D : Ends} {FV F2 : V → Hp → Hp → Prop} {FL : List V → Hp → Hp → Prop} {e o c a : Expr} {es : List Expr} {P P1 P2 : Pr} {Ps : List Pr} {pos p apos cpos : Pos} {k : Bool}
theorem em_newL : Em X φ ρ hs (.List [] pos) (fun v G H => ∃ p, v = .ref p ∧ Stt φ ((p, lHP []) :: hs) G H) := fun σ G H S k Q z =>
  pe_we (pe_lst pa_nil) ⟨Nat.zero_le _, fun p hp => z _ G _ (Same.refl _) ⟨p, rfl, S.new hp ⟨[], rfl, .nil⟩⟩⟩
/-- o.append(e) -/
theorem em_append {i : Nat} {d : Addr} (hi : hs[i]? = some (d, lHP Ps)) (hl : Ps.length < 100000) (ho : Ed X φ.B ρ o (eP (.ref d))) (ha : Ed X φ.B ρ a P)
    (hbase : attributeBase o "append" X.env (eval o X.env) = eval o X.env := by rfl)
    (hfew : ((backTo cpos (starEach [a] X.env)).all (fun x => !x.1) && (backToKw cpos (keywordEach [] X.env)).all (fun x => x.1.isSome)
      && decide (([a] : List Expr).length + ([] : List Keyword).length + (if ([] : List Keyword).isEmpty then 0 else 1) < 30)) = true := by rfl)
    (hline : (apos.endLine == cpos.line) = true := by rfl) (hs1 : starEach [a] X.env = (false, eval a X.env) :: starEach [] X.env := by rfl) (hplain : (backTo cpos (starEach [] X.env)).any (·.1) = false := by rfl) :
    Em X φ ρ hs (.Call (.Attribute o "append" apos) [a] [] cpos) (fun v G H => Stt φ (hs.set i (d, lHP (Ps ++ [P]))) G H ∧ v = .non) := fun σ G H S k Q z =>
  pe_we (pe_bm PySem.F.plainAttrs_list PySem.F.slot_list_append PySem.F.type_list_append mt_append we_pe (pa_cons we_pe pa_nil hs1) hbase hfew hline hs1 hplain) (ho σ G H S.ok k _ fun x H1 s1 r1 => by
    have S1 := S.ev s1
    have r1 : x = .ref d := r1
    subst r1
    obtain ⟨o1, ho1, xs1, rfl, hk1⟩ := S1.get hi
    refine ⟨.inl ⟨rfl, xs1, .of ho1⟩, ?_⟩
    refine ha σ _ H1 S1.ok (k.up (ext_up S.ok)) _ fun y H2 s2 r2 => ?_
    have S2 := S1.ev s2
    obtain ⟨o1, ho1, xs1, rfl, hk1⟩ := S2.get hi
    have hlen : xs1.length < 100000 := by rw [← hk1.len]; exact hl
    exact ⟨d, xs1, y, rfl, rfl, ho1, Nat.lt_of_lt_of_le hlen (small (Nat.le_refl _)), z _ _ _ ((ext_up S.ok).trans (ext_up S1.ok)) ⟨S2.put hi ⟨_, rfl, hk1.snoc r2⟩, rfl⟩⟩)
/-- sorted(a hidden list) -/
theorem em_sortedH {i : Nat} {d : Addr} {ds : List PyData} {le : PyData → PyData → Bool} (hu : X.A.units + 64 < cLine) (hi : hs[i]? = some (d, lHP (ds.map (dP X.K)))) (hg : Gl X "sorted") (hm : X.mg "sorted" = none) (hc : CanSort ds le) (hd : ∀ d ∈ ds, d.depth ≤ 60) (ha : Ed X φ.B ρ a (eP (.ref d))) (hs1 : starEach [a] X.env = (false, eval a X.env) :: starEach [] X.env := by rfl) :
    Em X φ ρ hs (.Call (.Name "sorted" p) [a] [] pos) (fun v G H => Stt φ hs G H ∧ (dP X.K (.list (ds.mergeSort le))).p v G) :=
  em_callB (cr_sortedC hu) hg hm (by decide +kernel) (eam_ea (ea_cons ha ea_nil hs1)) (fun vs G H ⟨S, r⟩ Q z => by
    obtain ⟨v, rfl, r'⟩ := allp1 r
    have r' : v = .ref d := r'
    subst r'
    obtain ⟨o1, ho1, xs, rfl, hk1⟩ := S.get hi
    have hd1 := dp_allp hk1
    refine ⟨d, xs, ds, le, rfl, .of ho1, dha_dpa S.ok.1 _ _ hd1, hc, hd, fun q hq => z _ _ _ (snew (snone S.ok.1 hq)) ⟨S.newG hq, ?_⟩⟩
    exact .lst upd_same (dpa_up (snew (snone S.ok.1 hq)) _ _ (sortZ_dha hd1))) (by decide) (by decide) hs1
/-- e is None -/
theorem et_isNone {j : Nat} {p2 : Pos} (h : Ed X B ρ e P) (hk : ∀ v G, P.p v G → decide (v = V.non) = k) : Et X B ρ (.Compare e [.Is] [.Constant .none j p2] pos) k :=
  et_cmp op_isN h (ed_non (j := j)) (nomark _) (gives_here fun x y G H eg r1 r2 Q z => ⟨dp_non r2, z _ (by rw [hk x G r1]; exact .bl _)⟩)
/-- d[e] of a table of the module -/
theorem ed_kd {d : Addr} {z : Str} {v : V} (ho : Ed X B ρ o (eP (.ref d))) (ha : Ed X B ρ a (dP X.K (.str z))) (h : KDct X.K X.w d z v) (hs1 : PlainIx a := by exact fun _ _ => rfl) : Ed X B ρ (.Subscript o a pos) (eP v) := fun σ G H eg k Q q =>
  pe_we (pe_ix ix_kdict we_pe we_pe hs1) (two (Q := Q) ho ha eg k fun x y H2 s1 s2 r1 r2 => ⟨d, z, v, r1, dp_str r2, h, q v H2 s1 rfl⟩)
/-- a, b = e1, e2 -/
theorem m_parE (i j : Nat) {x y : Str} {ea eb : Expr} {k1 k2 : Nat} {p1 p2 p3 p4 : Pos} (h : ∀ D : Ends, PS X (.Assign [.Tuple [.Name x p1, .Name y p2] k1 p3] (.Tuple [ea, eb] k2 p4) pos) (tPar i j (WA X [ea, eb]))) (ha : Eam X φ ρ hs [ea, eb] FL) (hF : ∀ vs G H, FL vs G H → ∃ v w, vs = [v, w])
    (h' : ∀ v w σ G H, FL [v, w] G H → Kn σ G ρ → WB X rest D ((σ.set i (some v)).set j (some w)) H) : M X φ ρ hs (.Assign [.Tuple [.Name x p1, .Name y p2] k1 p3] (.Tuple [ea, eb] k2 p4) pos :: rest) D := fun σ G H S kn =>
  ps_wb (pss_cons (h D) wb_ps) (ha σ G H S kn _ fun vs G2 H2 s f => by
    obtain ⟨v, w, rfl⟩ := hF vs G2 H2 f
    exact ⟨v, w, rfl, h' v w σ G2 H2 f (kn.up s)⟩)
/-- a first argument, then one that makes a new thing -/
theorem eam_new {eb : Expr} {q : HP} (ha : Ed X φ.B ρ e P) (hb : Em X φ ρ hs eb (fun v G H => ∃ p, v = .ref p ∧ Stt φ ((p, q) :: hs) G H)) (hs1 : starEach [e, eb] X.env = (false, eval e X.env) :: starEach [eb] X.env := by rfl) (hs2 : starEach [eb] X.env = (false, eval eb X.env) :: starEach [] X.env := by rfl) :
    Eam X φ ρ hs [e, eb] (fun vs G H => ∃ v p, vs = [v, .ref p] ∧ P.p v G ∧ Stt φ ((p, q) :: hs) G H) := fun σ G H S kn Q z =>
  pa_wa (pa_cons we_pe (pa_cons we_pe pa_nil hs2) hs1) (ha σ G H S.ok kn _ fun v H1 s1 r1 => by
    refine hb σ _ H1 (S.ev s1) (kn.up (ext_up S.ok)) _ fun w G2 H2 s2 f => ?_
    obtain ⟨p, rfl, S2⟩ := f
    exact z _ _ _ ((ext_up S.ok).trans s2) ⟨v, p, rfl, P.up s2 r1, S2⟩)
/-- (e, .., last) with a hidden reading as its last -/
theorem em_tup3 {x1 : Nat} {e1 e2 e3 : Expr} {P1 P2 P3 : Pr} (h1 : Ed X φ.B ρ e1 P1) (h2 : Ed X φ.B ρ e2 P2) (h3 : Em X φ ρ hs e3 (fun v G H => Stt φ hs G H ∧ P3.p v G)) (hs1 : starEach [e1, e2, e3] X.env = (false, eval e1 X.env) :: starEach [e2, e3] X.env := by rfl) (hs2 : starEach [e2, e3] X.env = (false, eval e2 X.env) :: starEach [e3] X.env := by rfl) (hs3 : starEach [e3] X.env = (false, eval e3 X.env) :: starEach [] X.env := by rfl) :
    Em X φ ρ hs (.Tuple [e1, e2, e3] x1 pos) (fun v G H => Stt φ hs G H ∧ (tP X.K [P1, P2, P3]).p v G) := fun σ G H S kn Q z =>
  pe_we (pe_tup (pa_cons we_pe (pa_cons we_pe (pa_cons we_pe pa_nil hs3) hs2) hs1)) (h1 σ G H S.ok kn _ fun v1 H1 s1 r1 => by
    have S1 := S.ev s1
    have k1 := kn.up (ext_up S.ok (H2 := H1))
    refine h2 σ _ H1 S1.ok k1 _ fun v2 H2 s2 r2 => ?_
    have S2 := S1.ev s2
    have k2 := k1.up (ext_up S1.ok (H2 := H2))
    refine h3 σ _ H2 S2 k2 _ fun v3 G3 H3 s3 f3 => ?_
    refine ⟨small (by show 3 ≤ 100000; decide), fun p hp => ?_⟩
    have u := (ext_up S.ok (H2 := H1)).trans ((ext_up S1.ok (H2 := H2)).trans s3)
    have n := snew (o := HO.tup [v1, v2, v3]) (snone f3.1.ok.1 hp)
    refine z _ _ _ (u.trans n) ⟨f3.1.newG hp, p, [v1, v2, v3], rfl, upd_same, .cons ?_ (.cons ?_ (.cons (P3.up n f3.2) .nil))⟩
    · exact P1.up (((ext_up S1.ok (H2 := H2)).trans s3).trans n) r1
    · exact P2.up (s3.trans n) r2)
end
structure DeedsOk (K : PySem.W.Frag) (w : World) (mg : Str → Option Value) : Prop where
  ex : ∃ dd : Addr, mg "DEEDS" = some (.ref dd) ∧ (∃ f, mg "laid" = some (.ref f) ∧ KDct K w dd "lay" (.ref f)) ∧ (∃ f, mg "lifted" = some (.ref f) ∧ KDct K w dd "lift" (.ref f)) ∧ (∃ f, mg "blown" = some (.ref f) ∧ KDct K w dd "gale" (.ref f)) ∧ (∃ f, mg "sighted" = some (.ref f) ∧ KDct K w dd "seen" (.ref f)) ∧ ∃ f, mg "sounded" = some (.ref f) ∧ KDct K w dd "depth" (.ref f)
end Lk

/-! Enc: the data of the program as plain Lean, their encodings, what is valid. -/
namespace Lk
open PySem PySem.Spec PyProof.Rows L2
abbrev Cell := Int × Int
abbrev Sea := List (List Int)
def cellD (c : Cell) : PyData := .tuple [.int c.1, .int c.2]
def colD (c : List Int) : PyData := .tuple (c.map .int)
def seaD (s : Sea) : PyData := .tuple (s.map colD)
structure SeaOk (s : Sea) (h : Nat) : Prop where
  lo : 2 ≤ s.length
  hi : s.length ≤ 16
  h1 : 1 ≤ h
  h9 : h ≤ 9
  rows : ∀ c ∈ s, c.length = h
  dep : ∀ c ∈ s, ∀ d ∈ c, 0 ≤ d ∧ d ≤ 9
def CellOk (s : Sea) (h : Nat) (c : Cell) : Prop := 0 ≤ c.1 ∧ c.1 < (s.length : Int) ∧ 0 ≤ c.2 ∧ c.2 < (h : Int)
instance {s : Sea} {h : Nat} {c : Cell} : Decidable (CellOk s h c) := by unfold CellOk; infer_instance
def depthAt (s : Sea) (c : Cell) : Int := (s.getD c.1.toNat []).getD c.2.toNat 0
theorem at_nat {α : Type} {xs : List α} {i : Int} (h0 : 0 ≤ i) (h1 : i < (xs.length : Int)) : ∃ x, atI xs i = some x ∧ xs[i.toNat]? = some x ∧ x ∈ xs := by
  have h2 : i.toNat < xs.length := by omega
  refine ⟨xs[i.toNat], ?_, by simp [h2], List.getElem_mem _⟩
  unfold atI ixN
  rw [if_pos h0, if_pos h1]
  show xs[i.toNat]? = some _
  simp [h2]
theorem SeaOk.col {s : Sea} {h : Nat} (S : SeaOk s h) {c : Cell} (C : CellOk s h c) : ∃ col, atI s c.1 = some col ∧ s[c.1.toNat]? = some col ∧ col ∈ s ∧ col.length = h ∧ ∃ d, atI col c.2 = some d ∧ col[c.2.toNat]? = some d ∧ depthAt s c = d ∧ 0 ≤ d ∧ d ≤ 9 := by
  obtain ⟨a1, a2, a3, a4⟩ := C
  obtain ⟨col, e1, e2, e3⟩ := at_nat a1 a2
  have hl := S.rows col e3
  obtain ⟨d, f1, f2, f3⟩ := at_nat (xs := col) a3 (by omega)
  refine ⟨col, e1, e2, e3, hl, d, f1, f2, ?_, S.dep col e3 d f3⟩
  unfold depthAt
  simp [List.getD_eq_getElem?_getD, e2, f2]
theorem SeaOk.first {s : Sea} {h : Nat} (S : SeaOk s h) : ∃ col, atI s 0 = some col ∧ col ∈ s ∧ col.length = h := by
  have := S.lo
  obtain ⟨col, e1, e2, e3⟩ := at_nat (xs := s) (i := 0) (Int.le_refl 0) (by omega)
  exact ⟨col, e1, e3, S.rows col e3⟩
theorem seaD_at {s : Sea} {i : Int} {col : List Int} (h : atI s i = some col) : atI (s.map colD) i = some (colD col) := at_map h
/-- a sea with another depth at a cell -/
def withDepth (s : Sea) (c : Cell) (d : Int) : Sea := s.set c.1.toNat ((s.getD c.1.toNat []).set c.2.toNat d)
end Lk

/-! Enc2: shapes of data; the sea's plain functions. -/
namespace Lk
open PySem PySem.Spec PyProof.Rows L2 PySem.W
def okD (d : PyData) (n : Nat) : Prop := d.canLay0 = true ∧ d.depth ≤ n
theorem okD_all {ds : List PyData} {n : Nat} (h : ∀ d ∈ ds, okD d n) : PyData.canLayAll0 ds = true ∧ PyData.depthAll ds ≤ n := by
  induction ds with
  | nil => exact ⟨by simp [PyData.canLayAll0], by simp [PyData.depthAll]⟩
  | cons d ds ih =>
    obtain ⟨h1, h2⟩ := h d List.mem_cons_self
    obtain ⟨h3, h4⟩ := ih fun e he => h e (List.mem_cons_of_mem _ he)
    refine ⟨by simp [PyData.canLayAll0, h1, h3], ?_⟩
    simp only [PyData.depthAll]
    omega
theorem okD_list {ds : List PyData} {n : Nat} (h : ∀ d ∈ ds, okD d n) : okD (.list ds) (n + 1) := by
  obtain ⟨h1, h2⟩ := okD_all h
  exact ⟨by simp [PyData.canLay0, h1], by simp only [PyData.depth]; omega⟩
theorem okD_tup {ds : List PyData} {n : Nat} (h : ∀ d ∈ ds, okD d n) : okD (.tuple ds) (n + 1) := by
  obtain ⟨h1, h2⟩ := okD_all h
  exact ⟨by simp [PyData.canLay0, h1], by simp only [PyData.depth]; omega⟩
theorem okD_int (i : Int) (n : Nat) : okD (.int i) n := ⟨by simp [PyData.canLay0], by simp [PyData.depth]⟩
theorem okD_bool (i : Bool) (n : Nat) : okD (.bool i) n := ⟨by simp [PyData.canLay0], by simp [PyData.depth]⟩
theorem okD_none (n : Nat) : okD .none n := ⟨by simp [PyData.canLay0], by simp [PyData.depth]⟩
theorem okD_cD (c : Cell) (n : Nat) : okD (cD c) (n + 1) := okD_tup fun d hd => by
  rcases List.mem_cons.mp hd with rfl | hd
  · exact okD_int _ _
  · rcases List.mem_cons.mp hd with rfl | hd
    · exact okD_int _ _
    · cases hd
theorem okD.up {d : PyData} {n m : Nat} (h : okD d n) (l : n ≤ m) : okD d m := ⟨h.1, Nat.le_trans h.2 l⟩
theorem okD.shaped {d : PyData} {n : Nat} (h : okD d n) (l : n ≤ 64 := by decide) : SeqAt.shaped d = true := by
  unfold SeqAt.shaped
  rw [h.1, decide_eq_true (Nat.le_trans h.2 l)]
  rfl
theorem eqv_nil {ds : List PyData} : PyData.eqv (.list ds) (.list []) = decide (ds = []) := by
  cases ds with
  | nil => simp [PyData.eqv, PyData.eqvAll]
  | cons d ds => simp [PyData.eqv, PyData.eqvAll]
/-! ### the waters beside -/
def besides (c : Cell) : List Cell := [(c.1 - 1, c.2), (c.1, c.2 - 1), (c.1, c.2 + 1), (c.1 + 1, c.2)]
def watersBeside (s : Sea) (h : Nat) (c : Cell) : List Cell := (besides c).filter fun o => decide (CellOk s h o) && decide (0 < depthAt s o)
def ringFrom (s : Sea) (h : Nat) (found : List Cell) (fr : List Cell) (one : Cell) : List Cell := (watersBeside s h one).foldl (fun fr near => if near ∈ found then fr else insC fr near) fr
def ringStep (s : Sea) (h : Nat) (found ring : List Cell) : List Cell := ring.foldl (ringFrom s h found) []
def driftLoop (s : Sea) (h : Nat) : Nat → List Cell → List Cell → List Cell
  | 0, found, _ => found
  | n + 1, found, ring => if ring = [] then found else driftLoop s h n ((ringStep s h found ring).foldl insC found) (ringStep s h found ring)
def cellLe (a b : PyData) : Bool := !dataLt b a
def drifted (s : Sea) (h : Nat) (c : Cell) (days : Int) : List PyData := if depthAt s c = 0 then [cD c] else ((driftLoop s h days.toNat [c] [c]).map cD).mergeSort cellLe
theorem can_cells (cs : List Cell) : CanSort (cs.map cD) cellLe := can_data (AllAlike.of fun a b => by simp [cD, alike, alikeAll]) (Sortable.tuples fun c => ⟨_, _, rfl⟩)
/-- cells of the sea, each once -/
structure CellsOk (s : Sea) (h : Nat) (cs : List Cell) : Prop where
  ok : ∀ c ∈ cs, CellOk s h c
  nd : cs.Nodup
theorem insC_mem {cs : List Cell} {c d : Cell} : d ∈ insC cs c ↔ d ∈ cs ∨ d = c := by
  unfold insC
  split
  · rename_i h
    constructor
    · exact .inl
    · rintro (h' | rfl)
      · exact h'
      · exact h
  · rw [List.mem_append, List.mem_singleton]
theorem CellsOk.ins {s : Sea} {h : Nat} {cs : List Cell} {c : Cell} (C : CellsOk s h cs) (hc : CellOk s h c) : CellsOk s h (insC cs c) := by
  refine ⟨fun d hd => ?_, ?_⟩
  · rcases insC_mem.mp hd with hd | rfl
    · exact C.ok d hd
    · exact hc
  · unfold insC
    split
    · exact C.nd
    · rename_i hn
      rw [List.nodup_append]
      refine ⟨C.nd, by simp, fun a ha b hb => ?_⟩
      rw [List.mem_singleton.mp hb]
      exact fun e => hn (e ▸ ha)
theorem CellsOk.nil (s : Sea) (h : Nat) : CellsOk s h [] := ⟨(fun _ h => by cases h), List.nodup_nil⟩
theorem CellsOk.insAll {s : Sea} {h : Nat} : ∀ {more cs : List Cell}, CellsOk s h cs → (∀ c ∈ more, CellOk s h c) → CellsOk s h (more.foldl insC cs)
  | [], _, C, _ => C
  | c :: more, _, C, hm => CellsOk.insAll (more := more) (C.ins (hm c List.mem_cons_self)) fun d hd => hm d (List.mem_cons_of_mem _ hd)
theorem CellsOk.small {s : Sea} {h : Nat} {cs : List Cell} (S : SeaOk s h) (C : CellsOk s h cs) : cs.length ≤ 144 := by
  have l2 := S.hi
  have r2 := S.h9
  have h1 : (cs.map fun c => c.1.toNat * 9 + c.2.toNat).Nodup := by
    refine List.pairwise_map.mpr (C.nd.imp_of_mem fun {a b} ha hb hab e => hab ?_)
    obtain ⟨a1, a2, a3, a4⟩ := C.ok a ha
    obtain ⟨b1, b2, b3, b4⟩ := C.ok b hb
    exact Prod.ext (by omega) (by omega)
  have := nat_nodup_len _ (List.range 144) h1 fun x hx => by
    obtain ⟨c, hc, rfl⟩ := List.mem_map.mp hx
    obtain ⟨a1, a2, a3, a4⟩ := C.ok c hc
    exact List.mem_range.mpr (by omega)
  rw [List.length_map, List.length_range] at this
  exact this
theorem waters_ok {s : Sea} {h : Nat} {c d : Cell} (hd : d ∈ watersBeside s h c) : CellOk s h d := by
  have := (List.mem_filter.mp hd).2
  rw [Bool.and_eq_true] at this
  exact of_decide_eq_true this.1
theorem CellsOk.ringFrom {s : Sea} {h : Nat} {found fr : List Cell} {one : Cell} (C : CellsOk s h fr) : CellsOk s h (ringFrom s h found fr one) := by
  unfold Lk.ringFrom
  have gen : ∀ (ws fr : List Cell), CellsOk s h fr → (∀ w ∈ ws, CellOk s h w) → CellsOk s h (ws.foldl (fun fr near => if near ∈ found then fr else insC fr near) fr) := by
    intro ws
    induction ws with
    | nil => intro fr C _; exact C
    | cons w ws ih =>
      intro fr C hw
      refine ih _ ?_ fun x hx => hw x (List.mem_cons_of_mem _ hx)
      show CellsOk s h (if w ∈ found then fr else insC fr w)
      split
      · exact C
      · exact C.ins (hw w List.mem_cons_self)
  exact gen _ _ C fun w hw => waters_ok hw
theorem CellsOk.ringStep {s : Sea} {h : Nat} {found : List Cell} : ∀ {ring fr : List Cell}, CellsOk s h fr → CellsOk s h (ring.foldl (Lk.ringFrom s h found) fr)
  | [], _, C => C
  | _ :: ring, _, C => CellsOk.ringStep (ring := ring) C.ringFrom
end Lk

/-! Enc3: deeds, notices. -/
namespace Lk
open PySem PySem.Spec PyProof.Rows L2 PySem.W
inductive Deed where
  | lay (m : Int) (c : Cell) (sh co si : Int) (lit : Bool)
  | lift (m : Int)
  | gale (n : Int)
  | seen (m : Int) (c : Cell)
  | depth (c : Cell) (d : Int)
def deedD : Deed → PyData
  | .lay m c sh co si lit => .tuple [.str "lay", .int m, cD c, .int sh, .int co, .int si, .bool lit]
  | .lift m => .tuple [.str "lift", .int m]
  | .gale n => .tuple [.str "gale", .int n]
  | .seen m c => .tuple [.str "seen", .int m, cD c]
  | .depth c d => .tuple [.str "depth", cD c, .int d]
def DeedOk (s : Sea) (h : Nat) : Deed → Prop
  | .lay m c sh co si _ => (1 ≤ m ∧ m ≤ 12) ∧ CellOk s h c ∧ (0 ≤ sh ∧ sh ≤ 2) ∧ (0 ≤ co ∧ co ≤ 2) ∧ (1 ≤ si ∧ si ≤ 9)
  | .lift m => 1 ≤ m ∧ m ≤ 12
  | .gale n => 1 ≤ n ∧ n ≤ 9
  | .seen m c => (1 ≤ m ∧ m ≤ 12) ∧ CellOk s h c
  | .depth c d => CellOk s h c ∧ 0 ≤ d ∧ d ≤ 9
structure Notice where
  num : Int
  day : Int
  deed : Deed
def noticeD (n : Notice) : PyData := .tuple [.int n.num, .int n.day, deedD n.deed]
structure NoticeOk (s : Sea) (h : Nat) (n : Notice) : Prop where
  n1 : 1 ≤ n.num
  n2 : n.num ≤ 99
  d1 : 0 ≤ n.day
  d2 : n.day ≤ 400
  deed : DeedOk s h n.deed
/-- notices of a sea: at most 30, each number once -/
structure NoticesOk (s : Sea) (h : Nat) (ns : List Notice) : Prop where
  len : ns.length ≤ 30
  ok : ∀ n ∈ ns, NoticeOk s h n
  nd : (ns.map (·.num)).Nodup
theorem okD_str {x : Str} (h : PyData.strOk x = true) (n : Nat) : okD (.str x) n := ⟨by simp [PyData.canLay0, h], by simp [PyData.depth]⟩
theorem okD_deed (d : Deed) : okD (deedD d) 2 := by
  have c := fun c : Cell => okD_cD c 0
  have i := fun i : Int => okD_int i 1
  cases d with
  | lay m c' sh co si lit =>
    refine okD_tup (n := 1) fun d hd => ?_
    simp only [List.mem_cons, List.not_mem_nil, or_false] at hd
    rcases hd with rfl | rfl | rfl | rfl | rfl | rfl | rfl
    · exact okD_str (by decide +kernel) 1
    · exact i _
    · exact c _
    · exact i _
    · exact i _
    · exact i _
    · exact okD_bool _ _
  | lift m =>
    refine okD_tup (n := 1) fun d hd => ?_
    simp only [List.mem_cons, List.not_mem_nil, or_false] at hd
    rcases hd with rfl | rfl
    · exact okD_str (by decide +kernel) 1
    · exact i _
  | gale m =>
    refine okD_tup (n := 1) fun d hd => ?_
    simp only [List.mem_cons, List.not_mem_nil, or_false] at hd
    rcases hd with rfl | rfl
    · exact okD_str (by decide +kernel) 1
    · exact i _
  | seen m c' =>
    refine okD_tup (n := 1) fun d hd => ?_
    simp only [List.mem_cons, List.not_mem_nil, or_false] at hd
    rcases hd with rfl | rfl | rfl
    · exact okD_str (by decide +kernel) 1
    · exact i _
    · exact c _
  | depth c' m =>
    refine okD_tup (n := 1) fun d hd => ?_
    simp only [List.mem_cons, List.not_mem_nil, or_false] at hd
    rcases hd with rfl | rfl | rfl
    · exact okD_str (by decide +kernel) 1
    · exact c _
    · exact i _
theorem okD_notice (n : Notice) : okD (noticeD n) 3 := okD_tup (n := 2) fun d hd => by
  simp only [List.mem_cons, List.not_mem_nil, or_false] at hd
  rcases hd with rfl | rfl | rfl
  · exact okD_int _ _
  · exact okD_int _ _
  · exact okD_deed _
theorem alike_deed (d : Deed) : alike (deedD d) (deedD d) = true := by
  cases d <;> simp [deedD, cD, alike, alikeAll]
theorem flat_deed (d : Deed) : flatT (deedD d) = true := by
  cases d <;> simp [deedD, cD, flatT, flatTs]
theorem flat_notice (n : Notice) : flatT (noticeD n) = true := by
  simp [noticeD, flatT, flatTs, flat_deed]
theorem alike_notice (n : Notice) : alike (noticeD n) (noticeD n) = true := by
  simp [noticeD, alike, alikeAll, alike_deed]
theorem num_of_key {a b : Notice} (h : keyOf (noticeD a) = keyOf (noticeD b)) : a.num = b.num := by
  simp only [noticeD, keyOf, keysOf] at h
  injection h with h
  injection h with h1 _
  injection h1
theorem mem_notices (ns : List Notice) : MemOk (ns.map noticeD) := fun d hd => by
  obtain ⟨n, _, rfl⟩ := List.mem_map.mp hd
  exact ⟨⟨_, rfl⟩, flat_notice n, Nat.le_trans (okD_notice n).2 (by decide)⟩
theorem nd_inj {α : Type} {f : α → Int} : ∀ {l : List α}, (l.map f).Nodup → ∀ a ∈ l, ∀ b ∈ l, f a = f b → a = b
  | [], _, _, ha, _, _, _ => by cases ha
  | x :: l, hn, a, ha, b, hb, e => by
    rw [List.map_cons] at hn
    obtain ⟨n1, n2⟩ := List.nodup_cons.mp hn
    rcases List.mem_cons.mp ha with a1 | a2
    · rcases List.mem_cons.mp hb with b1 | b2
      · rw [a1, b1]
      · exact (n1 (List.mem_map.mpr ⟨b, b2, by rw [← e, a1]⟩)).elim
    · rcases List.mem_cons.mp hb with b1 | b2
      · exact (n1 (List.mem_map.mpr ⟨a, a2, by rw [e, b1]⟩)).elim
      · exact nd_inj n2 a a2 b b2 e
theorem keys_nd {ns : List Notice} (h : (ns.map (·.num)).Nodup) : ((ns.map noticeD).map keyOf).Nodup := by
  rw [List.map_map]
  refine List.pairwise_map.mpr ((List.pairwise_map.mp h).imp fun {a b} hab e => hab (num_of_key e))
/-! ### sorting by number, by day -/
def numLe (a b : Notice) : Bool := decide (a.num ≤ b.num)
def dayLe (a b : Notice) : Bool := decide (a.day < b.day ∨ (a.day = b.day ∧ a.num ≤ b.num))
theorem firsts_notices {ns : List Notice} (h : ∀ a ∈ ns, ∀ b ∈ ns, a.num = b.num → a = b) : Firsts (ns.map noticeD) := by
  refine ⟨fun d hd => ?_, fun d hd d' hd' e => ?_⟩
  · obtain ⟨n, _, rfl⟩ := List.mem_map.mp hd
    exact ⟨n.num, _, rfl⟩
  · obtain ⟨n, hn, rfl⟩ := List.mem_map.mp hd
    obtain ⟨m, hm, rfl⟩ := List.mem_map.mp hd'
    have e : n.num = m.num := e
    rw [h n hn m hm e]
    exact ⟨rfl, alike_notice m⟩
abbrev firstLe (a b : PyData) : Bool := decide (firstI a ≤ firstI b)
theorem sort_notices (ns : List Notice) : (ns.map noticeD).mergeSort firstLe = (ns.mergeSort numLe).map noticeD := (List.map_mergeSort (r := numLe) (s := firstLe) (l := ns) (f := noticeD) (fun _ _ _ _ => rfl)).symm
theorem perm_sorted {α : Type} {f : α → Int} : ∀ {l m : List α}, l.Perm m → l.Pairwise (fun a b => f a ≤ f b) → m.Pairwise (fun a b => f a ≤ f b) → (∀ a ∈ l, ∀ b ∈ l, f a = f b → a = b) → l = m
  | [], m, hp, _, _, _ => by rw [List.nil_perm.mp hp]
  | x :: l, [], hp, _, _, _ => by
    have := hp.length_eq
    simp at this
  | x :: l, y :: m, hp, h1, h2, inj => by
    obtain ⟨a1, a2⟩ := List.pairwise_cons.mp h1
    obtain ⟨b1, b2⟩ := List.pairwise_cons.mp h2
    have hx : x ∈ y :: m := hp.mem_iff.mp List.mem_cons_self
    have hy : y ∈ x :: l := hp.mem_iff.mpr List.mem_cons_self
    have exy : x = y := by
      rcases List.mem_cons.mp hx with e | hx
      · exact e
      · rcases List.mem_cons.mp hy with e | hy
        · exact e.symm
        · exact inj x List.mem_cons_self y (List.mem_cons_of_mem _ hy) (Int.le_antisymm (a1 y hy) (b1 x hx))
    subst exy
    rw [perm_sorted (List.Perm.cons_inv hp) a2 b2 fun a ha b hb => inj a (List.mem_cons_of_mem _ ha) b (List.mem_cons_of_mem _ hb)]
theorem numLe_pw (ns : List Notice) : (ns.mergeSort numLe).Pairwise (fun a b => a.num ≤ b.num) := by
  have := List.pairwise_mergeSort (le := numLe) (fun a b c h1 h2 => by simp only [numLe, decide_eq_true_eq] at h1 h2 ⊢; omega) (fun a b => by simp only [numLe, Bool.or_eq_true, decide_eq_true_eq]; omega) ns
  exact this.imp fun h => by simpa [numLe] using h
theorem sort_perm {ns ms : List Notice} (hp : ms.Perm ns) (h : (ns.map (·.num)).Nodup) : ms.mergeSort numLe = ns.mergeSort numLe := by
  refine perm_sorted (f := (·.num)) (((List.mergeSort_perm _ _).trans hp).trans (List.mergeSort_perm _ _).symm) (numLe_pw _) (numLe_pw _) fun a ha b hb e => ?_
  exact nd_inj h a (hp.mem_iff.mp ((List.mergeSort_perm _ _).mem_iff.mp ha)) b (hp.mem_iff.mp ((List.mergeSort_perm _ _).mem_iff.mp hb)) e
/-- the notices as known in the held ones, by day -/
def heldN (ns : List Notice) (held : Int) : List Notice := ((ns.mergeSort numLe).filter fun n => decide (n.num ≤ held)).mergeSort dayLe
theorem dayLe_ord (a b : Notice) : dayLe a b = ordLe (noticeD a) (noticeD b) := by
  have := congrFun (congrFun (dataLe_ii (β := Notice) (·.day) (·.num)) a) b
  exact this.symm
theorem not_notices (ns : List Notice) : ∀ d ∈ ns.map noticeD, IsNot d := fun d hd => by
  obtain ⟨n, _, rfl⟩ := List.mem_map.mp hd
  exact ⟨_, _, _, rfl⟩
end Lk

/-! Enc4: marks, the state, what a deed does. -/
namespace Lk
open PySem PySem.Spec PyProof.Rows L2
structure Mark where
  adrift : Bool
  c : Cell
  sh : Int
  co : Int
  lit : Bool
  rest : Int
def wordD (a : Bool) : Str := if a = true then "adrift" else "at"
def lookD (x : Mark) : PyData := .tuple [.int x.sh, .int x.co, .bool x.lit]
def markD (x : Mark) : PyData := .tuple [.str (wordD x.adrift), cD x.c, lookD x, .int x.rest]
abbrev Marks := List (Int × Mark)
abbrev State := Sea × Marks
abbrev stP (K : PySem.W.Frag) (st : State) : Pr := tP K [dP K (seaD st.1), mkP markD st.2]
structure StOk (h : Nat) (st : State) (n : Nat) : Prop where
  sea : SeaOk st.1 h
  len : st.2.length ≤ n
  mks : ∀ p ∈ st.2, CellOk st.1 h p.2.c ∧ 0 ≤ p.2.sh ∧ p.2.sh ≤ 2
theorem mem_putM {β : Type} {ms : List (Int × β)} {m : Int} {x : β} {p : Int × β} (h : p ∈ putM ms m x) : p ∈ ms ∨ p.2 = x := by
  unfold putM at h
  split at h
  · obtain ⟨q, hq, rfl⟩ := List.mem_map.mp h
    by_cases e : q.1 = m
    · rw [if_pos e]
      exact .inr rfl
    · rw [if_neg e]
      exact .inl hq
  · rcases List.mem_append.mp h with h | h
    · exact .inl h
    · rw [List.mem_singleton.mp h]
      exact .inr rfl
theorem getM_mem {β : Type} {ms : List (Int × β)} {m : Int} {x : β} (h : getM ms m = some x) : ∃ p ∈ ms, p.1 = m ∧ p.2 = x := by
  unfold getM at h
  obtain ⟨p, hp, rfl⟩ := Option.map_eq_some_iff.mp h
  exact ⟨p, List.mem_of_find?_eq_some hp, by simpa using List.find?_some hp, rfl⟩
theorem getM_some {β : Type} {ms : List (Int × β)} {p : Int × β} (h : p ∈ ms) : ∃ x, getM ms p.1 = some x := by
  unfold getM
  cases e : ms.find? fun q => decide (q.1 = p.1) with
  | some q => exact ⟨q.2, rfl⟩
  | none =>
    have := List.find?_eq_none.mp e p h
    simp at this
theorem mem_fold {β : Type} : ∀ {more acc : List (Int × β)} {p : Int × β}, p ∈ more.foldl (fun acc p => putM acc p.1 p.2) acc → p ∈ acc ∨ ∃ q ∈ more, p.2 = q.2
  | [], _, _, h => .inl h
  | q :: more, acc, p, h => by
    rw [List.foldl_cons] at h
    rcases mem_fold h with h | ⟨r, hr, e⟩
    · rcases mem_putM h with h | h
      · exact .inl h
      · exact .inr ⟨q, List.mem_cons_self, h⟩
    · exact .inr ⟨r, List.mem_cons_of_mem _ hr, e⟩
theorem len_fold {β : Type} : ∀ {more acc : List (Int × β)}, (more.foldl (fun acc p => putM acc p.1 p.2) acc).length ≤ acc.length + more.length
  | [], acc => Nat.le_refl _
  | q :: more, acc => by
    rw [List.foldl_cons]
    have h1 := len_fold (more := more) (acc := putM acc q.1 q.2)
    have h2 := length_putM (ms := acc) (m := q.1) (x := q.2)
    rw [List.length_cons]
    omega
/-- one mark under a gale -/
def blowOne (n day : Int) (x : Mark) : Mark := if x.adrift = false ∧ x.rest < n then { x with adrift := true, rest := day } else x
def blown1 (ms : Marks) (n day : Int) (acc : Marks) (p : Int × Mark) : Marks :=
  match getM ms p.1 with
  | some x => if x.adrift = false ∧ x.rest < n then putM (putM acc p.1 x) p.1 { x with adrift := true, rest := day } else putM acc p.1 x
  | none => acc
def blownF (ms : Marks) (n day : Int) : Marks := ms.foldl (blown1 ms n day) []
def applyD (h : Nat) (st : State) (day : Int) : Deed → Option State
  | .lay m c sh co si lit => if ((getM st.2 m).isSome || decide (depthAt st.1 c = 0)) = true then none else some (st.1, putM st.2 m ⟨false, c, sh, co, lit, si⟩)
  | .lift m => if (!(getM st.2 m).isSome) = true then none else some (st.1, dictOf ((st.2.filter fun p => !decide (p.1 = m)).map fun p => (p.1, (getM st.2 p.1).getD p.2)))
  | .gale n => some (st.1, blownF st.2 n day)
  | .seen m c => match getM st.2 m with
    | none => none
    | some x => if (!x.adrift || !(drifted st.1 h x.c (day - x.rest)).any fun z => PyData.eqv z (cD c)) = true then none else some (st.1, putM st.2 m { x with adrift := true, c := c, rest := day })
  | .depth c d => some (withDepth st.1 c d, st.2)
def wordOf : Deed → Str
  | .lay .. => "lay"
  | .lift _ => "lift"
  | .gale _ => "gale"
  | .seen .. => "seen"
  | .depth .. => "depth"
structure DArg where
  h : Nat
  st : State
  n : Nat
  day : Int
  deed : Deed
structure DPre (word : Str) (z : DArg) : Prop where
  ok : StOk z.h z.st z.n
  small : z.n ≤ 1000
  deed : DeedOk z.st.1 z.h z.deed
  word : wordOf z.deed = word
def asD (K : PySem.W.Frag) (z : DArg) : List Pr := [stP K z.st, dP K (.int z.day), dP K (deedD z.deed)]
def resD (K : PySem.W.Frag) (z : DArg) : Pr := match applyD z.h z.st z.day z.deed with
  | none => dP K .none
  | some st => stP K st
theorem withDepth_ok {s : Sea} {h : Nat} {c : Cell} {d : Int} (S : SeaOk s h) (C : CellOk s h c) (h0 : 0 ≤ d) (h9 : d ≤ 9) : SeaOk (withDepth s c d) h ∧ (withDepth s c d).length = s.length := by
  obtain ⟨q1, q2, q3, q4⟩ := C
  have hl : c.1.toNat < s.length := by omega
  have hg : s.getD c.1.toNat [] = s[c.1.toNat] := by simp [List.getD_eq_getElem?_getD, hl]
  have hm : s[c.1.toNat] ∈ s := List.getElem_mem _
  have el : (withDepth s c d).length = s.length := by
    unfold withDepth
    rw [List.length_set]
  refine ⟨⟨by rw [el]; exact S.lo, by rw [el]; exact S.hi, S.h1, S.h9, fun col hc => ?_, fun col hc e he => ?_⟩, el⟩
  · unfold withDepth at hc
    rcases List.mem_or_eq_of_mem_set hc with hc | rfl
    · exact S.rows col hc
    · rw [List.length_set, hg]
      exact S.rows _ hm
  · unfold withDepth at hc
    rcases List.mem_or_eq_of_mem_set hc with hc | rfl
    · exact S.dep col hc e he
    · rw [hg] at he
      rcases List.mem_or_eq_of_mem_set he with he | rfl
      · exact S.dep _ hm e he
      · exact ⟨h0, h9⟩
theorem cellOk_len {s t : Sea} {h : Nat} {c : Cell} (e : t.length = s.length) : CellOk t h c ↔ CellOk s h c := by
  unfold CellOk
  rw [e]
theorem blown_ok {ms0 ms : Marks} {n day : Int} {p : Int × Mark} : ∀ {more acc : Marks}, p ∈ more.foldl (blown1 ms n day) acc → p ∈ acc ∨ ∃ q ∈ ms, p.2.c = q.2.c ∧ p.2.sh = q.2.sh
  | [], _, h => .inl h
  | q :: more, acc, h => by
    rw [List.foldl_cons] at h
    rcases blown_ok (ms0 := ms0) (more := more) h with h | h
    · unfold blown1 at h
      split at h
      · rename_i x hx
        obtain ⟨r, hr, _, rfl⟩ := getM_mem hx
        split at h
        · rcases mem_putM h with h | h
          · rcases mem_putM h with h | h
            · exact .inl h
            · exact .inr ⟨r, hr, by rw [h], by rw [h]⟩
          · exact .inr ⟨r, hr, by rw [h], by rw [h]⟩
        · rcases mem_putM h with h | h
          · exact .inl h
          · exact .inr ⟨r, hr, by rw [h], by rw [h]⟩
      · exact .inl h
    · exact .inr h
theorem any_putM {β : Type} {ms : List (Int × β)} {m : Int} {x : β} : ((putM ms m x).any fun p => decide (p.1 = m)) = true := by
  unfold putM
  split
  · rename_i h
    obtain ⟨p, hp, e⟩ := List.any_eq_true.mp h
    have e := of_decide_eq_true e
    exact List.any_eq_true.mpr ⟨(p.1, x), List.mem_map.mpr ⟨p, hp, by rw [if_pos e]⟩, decide_eq_true e⟩
  · exact List.any_eq_true.mpr ⟨(m, x), List.mem_append_right _ (List.mem_singleton.mpr rfl), decide_eq_true rfl⟩
theorem len_put2 {β : Type} {ms : List (Int × β)} {m : Int} {x y : β} : (putM (putM ms m x) m y).length = (putM ms m x).length := by
  have h := any_putM (ms := ms) (m := m) (x := x)
  generalize putM ms m x = ns at h ⊢
  unfold putM
  rw [if_pos h, List.length_map]
theorem len_blown {ms : Marks} {n day : Int} : ∀ {more acc : Marks}, (more.foldl (blown1 ms n day) acc).length ≤ acc.length + more.length
  | [], acc => Nat.le_refl _
  | q :: more, acc => by
    rw [List.foldl_cons]
    have h1 := len_blown (ms := ms) (n := n) (day := day) (more := more) (acc := blown1 ms n day acc q)
    have h2 : (blown1 ms n day acc q).length ≤ acc.length + 1 := by
      unfold blown1
      split
      · split
        · rw [len_put2]
          exact length_putM
        · exact length_putM
      · omega
    rw [List.length_cons]
    omega
/-- the state stays good -/
theorem apply_ok {h : Nat} {st st' : State} {n : Nat} {day : Int} {d : Deed} (S : StOk h st n) (D : DeedOk st.1 h d) (e : applyD h st day d = some st') : StOk h st' (n + 1) ∧ st'.1.length = st.1.length := by
  have len := S.len
  cases d with
  | lay m c sh co si lit =>
    simp only [applyD] at e
    split at e
    · cases e
    · obtain rfl := Option.some.inj e
      refine ⟨⟨S.sea, Nat.le_trans length_putM (by omega), fun p hp => ?_⟩, rfl⟩
      rcases mem_putM hp with hp | hp
      · exact S.mks p hp
      · rw [hp]
        exact ⟨D.2.1, D.2.2.1⟩
  | lift m =>
    simp only [applyD] at e
    split at e
    · cases e
    · obtain rfl := Option.some.inj e
      refine ⟨⟨S.sea, ?_, fun p hp => ?_⟩, rfl⟩
      · have h1 := len_fold (more := (st.2.filter fun p => !decide (p.1 = m)).map fun p => (p.1, (getM st.2 p.1).getD p.2)) (acc := [])
        have h2 := List.length_filter_le (fun p : Int × Mark => !decide (p.1 = m)) st.2
        rw [List.length_map, List.length_nil] at h1
        exact Nat.le_trans h1 (by omega)
      · rcases mem_fold hp with hp | ⟨q, hq, hpq⟩
        · cases hp
        · obtain ⟨r, hr, rfl⟩ := List.mem_map.mp hq
          have hr' := (List.mem_filter.mp hr).1
          obtain ⟨x, hx⟩ := getM_some hr'
          rw [hpq, hx]
          obtain ⟨r2, hr2, _, rfl⟩ := getM_mem hx
          exact S.mks r2 hr2
  | gale n' =>
    obtain rfl := Option.some.inj e
    refine ⟨⟨S.sea, ?_, fun p hp => ?_⟩, rfl⟩
    · have := len_blown (ms := st.2) (n := n') (day := day) (more := st.2) (acc := [])
      rw [List.length_nil] at this
      exact Nat.le_trans this (by omega)
    · rcases blown_ok (ms0 := []) hp with hp | ⟨q, hq, e1, e2⟩
      · cases hp
      · rw [e1, e2]
        exact S.mks q hq
  | seen m c =>
    simp only [applyD] at e
    split at e
    · cases e
    · rename_i x hx
      split at e
      · cases e
      · obtain rfl := Option.some.inj e
        refine ⟨⟨S.sea, Nat.le_trans length_putM (by omega), fun p hp => ?_⟩, rfl⟩
        rcases mem_putM hp with hp | hp
        · exact S.mks p hp
        · rw [hp]
          obtain ⟨r, hr, _, rfl⟩ := getM_mem hx
          exact ⟨D.2, (S.mks r hr).2⟩
  | depth c d =>
    obtain rfl := Option.some.inj e
    obtain ⟨w1, w2⟩ := withDepth_ok S.sea D.1 D.2.1 D.2.2
    refine ⟨⟨w1, by show st.2.length ≤ _; omega, fun p hp => ?_⟩, w2⟩
    exact ⟨(cellOk_len w2).mpr (S.mks p hp).1, (S.mks p hp).2⟩
theorem drifted_cells {s : Sea} {h : Nat} {c : Cell} {days : Int} : ∀ d ∈ drifted s h c days, ∃ x, d = cD x := fun d hd => by
  unfold drifted at hd
  split at hd
  · exact ⟨c, List.mem_singleton.mp hd⟩
  · obtain ⟨x, _, rfl⟩ := List.mem_map.mp ((List.mergeSort_perm _ _).mem_iff.mp hd)
    exact ⟨x, rfl⟩
theorem drifted_shaped {s : Sea} {h : Nat} {c : Cell} {days : Int} : SeqAt.shaped (.tuple (drifted s h c days)) = true := (okD_tup (n := 1) fun d hd => by
  obtain ⟨x, rfl⟩ := drifted_cells d hd
  exact okD_cD x 0).shaped
end Lk

/-! W1: the sea. -/
namespace Lk
open PySem PySem.Spec PyProof.Rows L2
section
variable {P : Program} {w : World} {K : PySem.W.Frag} {mg : Str → Option Value} {base : Heap}
theorem c_is_whole (T : TX K mg) : Cal P w K mg base 1 "is_whole" ["thing", "low", "high"] (spP (α := Int × Int × Int) (fun _ => True) (fun z => [dP K (.int z.1), dP K (.int z.2.1), dP K (.int z.2.2)]) fun z => dP K (.bool (decide (z.2.1 ≤ z.1) && decide (z.1 ≤ z.2.2)))) := by
  obtain ⟨f, fd, hm, F⟩ := T.f_is_whole
  refine cal_mk F sc_is_whole hm (F.bindsN fun _ _ _ _ _ _ us hl => match us, hl with | [_, _, _], _ => rfl) (fun _ => rfl) fun cdv A outer s H E hr z _ => Sr.b (sr_ret ?_)
  refine (ed_and (ed_isi "int" (by rfl) T.z_isinstance (by rfl) T.z_int tv_int (ed_var 0) rfl kb_ii) fun _ =>
    ed_and (ed_not (ed_isi "int" (by rfl) T.z_isinstance (by rfl) T.z_bool tv_bool (ed_var 0) rfl kb_ib)) fun _ =>
    ed_one (ed_chain op_le op_le (ed_var 1) (ed_var 0) (ed_var 2))).d ?_
  simp
theorem c_is_column (T : TX K mg) : Cal P w K mg base 2 "is_column" ["thing", "rows"] (spP (α := List Int × Int) (fun z => (z.1.length : Int) = z.2 ∧ z.1.length ≤ 9 ∧ ∀ d ∈ z.1, 0 ≤ d ∧ d ≤ 9) (fun z => [dP K (colD z.1), dP K (.int z.2)]) fun z => dP K (.bool true)) := by
  obtain ⟨f, fd, hm, F⟩ := T.f_is_column
  have c1 := c_is_whole (P := P) (w := w) (base := base) T
  refine cal_mk F sc_is_column hm (F.bindsN fun _ _ _ _ _ _ us hl => match us, hl with | [_, _], _ => rfl) (fun _ => rfl) fun cdv A outer s H E hr z hz => Sr.b ?_
  obtain ⟨col, n⟩ := z
  obtain ⟨z1, z2, z3⟩ := hz
  dsimp only at z1 z2 z3
  refine sr_no (et_to ?_ (ew_et (ew_or (et_not (et_val (ed_isi "tuple" (by rfl) T.z_isinstance (by rfl) T.z_tuple tv_tuple (ed_var 0) rfl kb_tt))) fun _ => ew_or1 (et_nei (ed_lenTd (by rfl) T.z_len (ed_var 0)) (ed_var 1))))) ?_
  · simp [z1]
  refine sr_ret (ed_d ?_ (ed_all (bs := col.map fun _ => true) rfl (by rfl) T.z_all (ed_d ?_ (ed_mapD rfl sc_is_column.nd [("depth", 2)] (blkOk_by (N := n_is_column) (sc := defScope s_is_column) (by decide +kernel)) col (fun d => dP K (.int d)) (fun _ => .bool true) (es_tupM (ed_var 0)) (by omega) fun d hd => ⟨[2], _, by simp, fun s H C cl fp => ⟨tg_name 2 sc_is_column.nd, ets_nil, fun _ => ?_⟩⟩))))
  · simp
  · rw [List.map_map]; rfl
  · refine ed_d ?_ (ed_call c1 hr (by decide) (d, 0, 9) trivial (by rfl) (ea_cons (ed_var 2) (ea_cons ed_int (ea_cons (ed_gint (by rfl) T.i_MOST_DEPTH) ea_nil))))
    simp [z3 d hd]
theorem c_is_sea (T : TX K mg) : Cal P w K mg base 3 "is_sea" ["thing"] (spP (α := Sea × Nat) (fun z => SeaOk z.1 z.2) (fun z => [dP K (seaD z.1)]) fun z => dP K (.bool true)) := by
  obtain ⟨f, fd, hm, F⟩ := T.f_is_sea
  have c1 := c_is_column (P := P) (w := w) (base := base) T
  refine cal_mk F sc_is_sea hm (F.bindsN fun _ _ _ _ _ _ us hl => match us, hl with | [_], _ => rfl) (fun _ => rfl) fun cdv A outer s H E hr z hz => Sr.b ?_
  obtain ⟨sea, h⟩ := z
  have S : SeaOk sea h := hz
  have l1 := S.lo
  have l2 := S.hi
  have r1 := S.h1
  have r2 := S.h9
  obtain ⟨col, e0, e1, e2⟩ := S.first
  refine sr_no (et_to ?_ (ew_et (ew_or (et_not (et_val (ed_isi "tuple" (by rfl) T.z_isinstance (by rfl) T.z_tuple tv_tuple (ed_var 0) rfl kb_tt))) fun _ => ew_or1 (et_not (et_chain op_le op_le ed_int (ed_lenTd (by rfl) T.z_len (ed_var 0)) (ed_gint (by rfl) T.i_MOST_COLUMNS)))))) ?_
  · simp; omega
  refine sr_no (et_to ?_ (ew_et (ew_or (et_not (et_val (ed_isi "tuple" (by rfl) T.z_isinstance (by rfl) T.z_tuple tv_tuple (ed_ixTd (ed_var 0) ed_int (seaD_at e0)) rfl kb_tt))) fun _ => ew_or1 (et_not (et_chain op_le op_le ed_int (ed_lenTd (by rfl) T.z_len (ed_ixTd (ed_var 0) ed_int (seaD_at e0))) (ed_gint (by rfl) T.i_MOST_ROWS)))))) ?_
  · simp; omega
  refine sr_ret (ed_d ?_ (ed_all (bs := sea.map fun _ => true) rfl (by rfl) T.z_all (ed_d ?_ (ed_mapD rfl sc_is_sea.nd [("column", 1)] (blkOk_by (N := n_is_sea) (sc := defScope s_is_sea) (by decide +kernel)) sea (fun c => dP K (colD c)) (fun _ => .bool true) (es_tupM (ed_var 0)) (by omega) fun c hc => ⟨[1], _, by simp, fun s H C cl fp => ⟨tg_name 1 sc_is_sea.nd, ets_nil, fun _ => ?_⟩⟩))))
  · simp
  · rw [List.map_map]; rfl
  · refine ed_call c1 hr (by decide) (c, (h : Int)) ⟨by rw [S.rows c hc], by rw [S.rows c hc]; exact r2, S.dep c hc⟩ (by rfl) (ea_cons (ed_var 1) (ea_cons (ed_d ?_ (ed_lenTd (by rfl) T.z_len (ed_ixTd (ed_var 0) ed_int (seaD_at e0)))) ea_nil))
    rw [List.length_map, e2]
theorem c_need_sea (T : TX K mg) : Cal P w K mg base 4 "need_sea" ["sea"] (spP (α := Sea × Nat) (fun z => SeaOk z.1 z.2) (fun z => [dP K (seaD z.1)]) fun z => dP K .none) := by
  obtain ⟨f, fd, hm, F⟩ := T.f_need_sea
  have c1 := c_is_sea (P := P) (w := w) (base := base) T
  refine cal_mk F sc_need_sea hm (F.bindsN fun _ _ _ _ _ _ us hl => match us, hl with | [_], _ => rfl) (fun _ => rfl) fun cdv A outer s H E hr z hz => Sn.b (sn_seq (ss_no (et_to ?_ (et_not (et_val (k := true) (ed_call c1 hr (by decide) z hz (by rfl) (ea_cons (ed_var 0) ea_nil)))))) sn_nil)
  rfl
theorem c_is_cell (T : TX K mg) : Cal P w K mg base 2 "is_cell" ["sea", "thing"] (spP (α := Sea × Nat × Cell) (fun z => SeaOk z.1 z.2.1) (fun z => [dP K (seaD z.1), dP K (cellD z.2.2)]) fun z => dP K (.bool (decide (CellOk z.1 z.2.1 z.2.2)))) := by
  obtain ⟨f, fd, hm, F⟩ := T.f_is_cell
  have c1 := c_is_whole (P := P) (w := w) (base := base) T
  refine cal_mk F sc_is_cell hm (F.bindsN fun _ _ _ _ _ _ us hl => match us, hl with | [_, _], _ => rfl) (fun _ => rfl) fun cdv A outer s H E hr z hz => Sr.b ?_
  obtain ⟨sea, h, c⟩ := z
  have S : SeaOk sea h := hz
  obtain ⟨col, e0, e1, e2⟩ := S.first
  refine sr_no (et_to ?_ (ew_et (ew_or (et_not (et_val (ed_isi "tuple" (by rfl) T.z_isinstance (by rfl) T.z_tuple tv_tuple (ed_var 1) rfl kb_tt))) fun _ => ew_or1 (et_nei (ed_lenTd (by rfl) T.z_len (ed_var 1)) ed_int)))) ?_
  · rfl
  refine sr_ret (ed_d ?_ (ed_and (ed_call c1 hr (by decide) (c.1, 0, (sea.length : Int) - 1) trivial (by rfl) (ea_cons (ed_ixTd (ed_var 1) ed_int (by rfl)) (ea_cons ed_int (ea_cons (ed_sub (ed_d ?_ (ed_lenTd (by rfl) T.z_len (ed_var 0))) ed_int) ea_nil)))) fun _ =>
    ed_one (ed_call c1 hr (by decide) (c.2, 0, (h : Int) - 1) trivial (by rfl) (ea_cons (ed_ixTd (ed_var 1) ed_int (by rfl)) (ea_cons ed_int (ea_cons (ed_sub (ed_d ?_ (ed_lenTd (by rfl) T.z_len (ed_ixTd (ed_var 0) ed_int (seaD_at e0)))) ed_int) ea_nil))))))
  · show PyData.bool (_ && _) = PyData.bool _
    congr 1
    rw [← Bool.decide_and, ← Bool.decide_and, ← Bool.decide_and]
    refine decide_eq_decide.mpr ⟨fun q => ?_, fun q => ?_⟩
    · show 0 ≤ c.1 ∧ c.1 < (sea.length : Int) ∧ 0 ≤ c.2 ∧ c.2 < (h : Int)
      dsimp only at q
      omega
    · have q : 0 ≤ c.1 ∧ c.1 < (sea.length : Int) ∧ 0 ≤ c.2 ∧ c.2 < (h : Int) := q
      dsimp only
      omega
  · rw [List.length_map]
  · rw [List.length_map, e2]
theorem c_need_draught (T : TX K mg) : Cal P w K mg base 2 "need_draught" ["draught"] (spP (α := Int) (fun z => 1 ≤ z ∧ z ≤ 9) (fun z => [dP K (.int z)]) fun z => dP K .none) := by
  obtain ⟨f, fd, hm, F⟩ := T.f_need_draught
  have c1 := c_is_whole (P := P) (w := w) (base := base) T
  refine cal_mk F sc_need_draught hm (F.bindsN fun _ _ _ _ _ _ us hl => match us, hl with | [_], _ => rfl) (fun _ => rfl) fun cdv A outer s H E hr z hz => Sn.b (sn_seq (ss_no (et_to ?_ (et_not (et_val (ed_call c1 hr (by decide) (z, 1, 9) trivial (by rfl) (ea_cons (ed_var 0) (ea_cons ed_int (ea_cons (ed_gint (by rfl) T.i_MOST_DEPTH) ea_nil)))))))) sn_nil)
  simp [hz.1, hz.2]
theorem c_need_day (T : TX K mg) : Cal P w K mg base 2 "need_day" ["day"] (spP (α := Int) (fun z => 0 ≤ z ∧ z ≤ 400) (fun z => [dP K (.int z)]) fun z => dP K .none) := by
  obtain ⟨f, fd, hm, F⟩ := T.f_need_day
  have c1 := c_is_whole (P := P) (w := w) (base := base) T
  refine cal_mk F sc_need_day hm (F.bindsN fun _ _ _ _ _ _ us hl => match us, hl with | [_], _ => rfl) (fun _ => rfl) fun cdv A outer s H E hr z hz => Sn.b (sn_seq (ss_no (et_to ?_ (et_not (et_val (ed_call c1 hr (by decide) (z, 0, 400) trivial (by rfl) (ea_cons (ed_var 0) (ea_cons ed_int (ea_cons (ed_gint (by rfl) T.i_LAST_DAY) ea_nil)))))))) sn_nil)
  simp [hz.1, hz.2]
theorem c_depth_at (T : TX K mg) : Cal P w K mg base 1 "depth_at" ["sea", "cell"] (spP (α := Sea × Nat × Cell) (fun z => SeaOk z.1 z.2.1 ∧ CellOk z.1 z.2.1 z.2.2) (fun z => [dP K (seaD z.1), dP K (cellD z.2.2)]) fun z => dP K (.int (depthAt z.1 z.2.2))) := by
  obtain ⟨f, fd, hm, F⟩ := T.f_depth_at
  refine cal_mk F sc_depth_at hm (F.bindsN fun _ _ _ _ _ _ us hl => match us, hl with | [_, _], _ => rfl) (fun _ => rfl) fun cdv A outer s H E hr z hz => Sr.b ?_
  obtain ⟨sea, h, c⟩ := z
  obtain ⟨col, e1, e2, e3, e4, d, f1, f2, f3, f4⟩ := hz.1.col hz.2
  refine sr_ret (ed_ixTd (ed_ixTd (ed_var 0) (ed_ixTd (ed_var 1) ed_int (by rfl)) (seaD_at e1)) (ed_ixTd (ed_var 1) ed_int (by rfl)) ?_)
  rw [at_map f1]
  show some (PyData.int d) = some (.int (depthAt sea c))
  rw [f3]
theorem take_drop_set {α : Type} : ∀ {xs : List α} {i : Nat} {x : α}, i < xs.length → xs.take i ++ [x] ++ xs.drop (i + 1) = xs.set i x
  | [], _, _, h => absurd h (Nat.not_lt_zero _)
  | _ :: _, 0, _, _ => rfl
  | y :: ys, i + 1, x, h => by
    have e := take_drop_set (xs := ys) (i := i) (x := x) (Nat.lt_of_succ_lt_succ h)
    show y :: (ys.take i ++ [x] ++ ys.drop (i + 1)) = y :: ys.set i x
    rw [e]
theorem cutA_len {α : Type} {xs : List α} {lo hi : Option Int} : (cutA xs lo hi).length ≤ xs.length := by
  unfold cutA
  rw [List.length_take, List.length_drop]
  omega
theorem cut_len2 {α : Type} {xs ys : List α} {x : α} {a b c d : Option Int} (h1 : xs.length ≤ 40000) (h2 : ys.length ≤ 40000) : (cutA xs a b ++ [x]).length + (cutA ys c d).length ≤ 100000 := by
  have := cutA_len (xs := xs) (lo := a) (hi := b)
  have := cutA_len (xs := ys) (lo := c) (hi := d)
  rw [List.length_append, List.length_singleton]
  omega
theorem cut_len1 {α : Type} {xs : List α} {x : α} {a b : Option Int} (h1 : xs.length ≤ 40000) : (cutA xs a b).length + [x].length ≤ 100000 := by
  have := cutA_len (xs := xs) (lo := a) (hi := b)
  rw [List.length_singleton]
  omega
theorem cut_set {α : Type} {xs : List α} {i : Int} {x : α} (h0 : 0 ≤ i) (h1 : i < (xs.length : Int)) : cutA xs none (some i) ++ [x] ++ cutA xs (some (i + 1)) none = xs.set i.toNat x := by
  have e : i = ((i.toNat : Nat) : Int) := (Int.toNat_of_nonneg h0).symm
  have e1 : i + 1 = ((i.toNat + 1 : Nat) : Int) := by omega
  have hl : i.toNat < xs.length := by omega
  have a1 : cutA xs none (some i) = xs.take i.toNat := by
    have := cutA_to (xs := xs) (i := i.toNat) (Nat.le_of_lt hl)
    rw [← e] at this
    exact this
  have a2 : cutA xs (some (i + 1)) none = xs.drop (i.toNat + 1) := by
    have := cutA_from (xs := xs) (i := i.toNat + 1) hl
    rw [← e1] at this
    exact this
  rw [a1, a2]
  exact take_drop_set hl
theorem c_with_depth (T : TX K mg) : Cal P w K mg base 1 "with_depth" ["sea", "cell", "depth"] (spP (α := Sea × Nat × Cell × Int) (fun z => SeaOk z.1 z.2.1 ∧ CellOk z.1 z.2.1 z.2.2.1) (fun z => [dP K (seaD z.1), dP K (cellD z.2.2.1), dP K (.int z.2.2.2)]) fun z => dP K (seaD (withDepth z.1 z.2.2.1 z.2.2.2))) := by
  obtain ⟨f, fd, hm, F⟩ := T.f_with_depth
  refine cal_mk F sc_with_depth hm (F.bindsN fun _ _ _ _ _ _ us hl => match us, hl with | [_, _, _], _ => rfl) (fun _ => rfl) fun cdv A outer s H E hr z hz => Sr.b ?_
  obtain ⟨sea, h, c, d⟩ := z
  have S : SeaOk sea h := hz.1
  have C : CellOk sea h c := hz.2
  obtain ⟨col, e1, e2, e3, e4, d0, f1, f2, f3, f4⟩ := S.col C
  obtain ⟨q1, q2, q3, q4⟩ := C
  have l2 := S.hi
  have r2 := S.h9
  have fr : (cutA col none (some c.2)).map PyData.int ++ [.int d] ++ (cutA col (some (c.2 + 1)) none).map PyData.int = (col.set c.2.toNat d).map PyData.int := by
    rw [← cut_set (x := d) q3 (by rw [e4]; exact q4), List.map_append, List.map_append]
    rfl
  refine sr_seq (ss_asg (ed_var 1) (tg_imp (tg_tup rfl (tgs_cons (tg_name 3 sc_with_depth.nd) (tgs_cons (tg_name 4 sc_with_depth.nd) tgs_nil))) imp_td)) ?_
  have lc : col.length ≤ 9 := by omega
  refine sr_seq (ss_set 5 sc_with_depth.nd (ed_d (d' := colD (col.set c.2.toNat d)) ?_ (ed_catTd (ed_catTd (ed_slTd (ed_ixTd (ed_var 0) (ed_var 3) (seaD_at e1)) eo_none (eo_some (ed_var 4))) (ed_tupd (ds := [.int d]) (ea_cons (ed_var 2) ea_nil) (by show 1 ≤ 100000; decide)) ?_) (ed_slTd (ed_ixTd (ed_var 0) (ed_var 3) (seaD_at e1)) (eo_some (ed_add (ed_var 4) ed_int)) eo_none) ?_))) ?_
  · rw [cutA_map, cutA_map, fr]
    rfl
  · exact cut_len1 (by simp only [List.length_map]; omega)
  · exact cut_len2 (by simp only [List.length_map]; omega) (by simp only [List.length_map]; omega)
  have fr2 : (cutA sea none (some c.1)).map colD ++ [colD (col.set c.2.toNat d)] ++ (cutA sea (some (c.1 + 1)) none).map colD = (withDepth sea c d).map colD := by
    have hcol : sea.getD c.1.toNat [] = col := by simp [List.getD_eq_getElem?_getD, e2]
    unfold withDepth
    rw [hcol, ← cut_set (x := col.set c.2.toNat d) q1 q2, List.map_append, List.map_append]
    rfl
  refine sr_ret (ed_d (d' := seaD (withDepth sea c d)) ?_ (ed_catTd (ed_catTd (ed_slTd (ed_var 0) eo_none (eo_some (ed_var 3))) (ed_tupd (ds := [colD (col.set c.2.toNat d)]) (ea_cons (ed_var 5) ea_nil) (by show 1 ≤ 100000; decide)) ?_) (ed_slTd (ed_var 0) (eo_some (ed_add (ed_var 3) ed_int)) eo_none) ?_))
  · rw [cutA_map, cutA_map, fr2]
    rfl
  · exact cut_len1 (by simp only [List.length_map]; omega)
  · exact cut_len2 (by simp only [List.length_map]; omega) (by simp only [List.length_map]; omega)
end
end Lk

/-! W2: drifting. -/
namespace Lk
open PySem PySem.Spec PyProof.Rows L2
section
variable {P : Program} {w : World} {K : PySem.W.Frag} {mg : Str → Option Value} {base : Heap}
theorem c_waters_beside (T : TX K mg) : Cal P w K mg base 3 "waters_beside" ["sea", "cell"] (spP (α := Sea × Nat × Cell) (fun z => SeaOk z.1 z.2.1) (fun z => [dP K (seaD z.1), dP K (cellD z.2.2)]) fun z => dP K (.list ((watersBeside z.1 z.2.1 z.2.2).map cD))) := by
  obtain ⟨f, fd, hm, F⟩ := T.f_waters_beside
  have c1 := c_is_cell (P := P) (w := w) (base := base) T
  have c2 := c_depth_at (P := P) (w := w) (base := base) T
  refine cal_mk F sc_waters_beside hm (F.bindsN fun _ _ _ _ _ _ us hl => match us, hl with | [_, _], _ => rfl) (fun _ => rfl) fun cdv A outer s H E hr z hz => Sr.b ?_
  obtain ⟨sea, h, c⟩ := z
  have S : SeaOk sea h := hz
  refine sr_seq (ss_asg (ed_var 1) (tg_imp (tg_tup rfl (tgs_cons (tg_name 2 sc_waters_beside.nd) (tgs_cons (tg_name 3 sc_waters_beside.nd) tgs_nil))) imp_td)) ?_
  refine sr_seq (ss_set 4 sc_waters_beside.nd (ed_d (d' := .list ((besides c).map cD)) (by rfl) (ed_lstd (ds := [cD (c.1 - 1, c.2), cD (c.1, c.2 - 1), cD (c.1, c.2 + 1), cD (c.1 + 1, c.2)]) (ea_cons (ed_tupd (ds := [.int (c.1 - 1), .int c.2]) (ea_cons (ed_sub (ed_var 2) ed_int) (ea_cons (ed_var 3) ea_nil)) (by show 2 ≤ 100000; decide))
    (ea_cons (ed_tupd (ds := [.int c.1, .int (c.2 - 1)]) (ea_cons (ed_var 2) (ea_cons (ed_sub (ed_var 3) ed_int) ea_nil)) (by show 2 ≤ 100000; decide)) (ea_cons (ed_tupd (ds := [.int c.1, .int (c.2 + 1)]) (ea_cons (ed_var 2) (ea_cons (ed_add (ed_var 3) ed_int) ea_nil)) (by show 2 ≤ 100000; decide))
    (ea_cons (ed_tupd (ds := [.int (c.1 + 1), .int c.2]) (ea_cons (ed_add (ed_var 2) ed_int) (ea_cons (ed_var 3) ea_nil)) (by show 2 ≤ 100000; decide)) ea_nil)))) (by show 4 ≤ 100000; decide)))) ?_
  refine sr_ret (ed_compD rfl sc_waters_beside.nd [("one", 5)] (blkOk_by (N := n_waters_beside) (sc := defScope s_waters_beside) (by decide +kernel)) (besides c) (fun o => dP K (cD o)) (fun o => decide (CellOk sea h o) && decide (0 < depthAt sea o)) cD (es_listM (ed_var 4)) (by show 4 ≤ 100000; decide) fun o ho => ⟨[5], _, by simp, fun s H C cl fp => ⟨tg_name 5 sc_waters_beside.nd, ets_one (ew_et (ew_and (et_val (ed_call c1 hr (by decide) (sea, h, o) S (by rfl) (ea_cons (ed_var 0) (ea_cons (ed_var 5) ea_nil)))) fun hk => ew_and1 (et_gti (ed_call c2 hr (by decide) (sea, h, o) ⟨S, of_decide_eq_true hk⟩ (by rfl) (ea_cons (ed_var 0) (ea_cons (ed_var 5) ea_nil))) ed_int))), fun _ => ed_var 5⟩⟩)
theorem c_drifted (T : TX K mg) : Cal P w K mg base 4 "drifted" ["sea", "cell", "days"] (spP (α := Sea × Nat × Cell × Int) (fun z => SeaOk z.1 z.2.1 ∧ CellOk z.1 z.2.1 z.2.2.1) (fun z => [dP K (seaD z.1), dP K (cellD z.2.2.1), dP K (.int z.2.2.2)]) fun z => dP K (.tuple (drifted z.1 z.2.1 z.2.2.1 z.2.2.2))) := by
  obtain ⟨f, fd, hm, F⟩ := T.f_drifted
  have c1 := c_waters_beside (P := P) (w := w) (base := base) T
  have c2 := c_depth_at (P := P) (w := w) (base := base) T
  refine cal_mk F sc_drifted hm (F.bindsN fun _ _ _ _ _ _ us hl => match us, hl with | [_, _, _], _ => rfl) (fun _ => rfl) fun cdv A outer s H E hr z hz => Sr.b (sr_m fun φ D hB hD => ?_)
  obtain ⟨sea, h, c, days⟩ := z
  have S : SeaOk sea h := hz.1
  have C : CellOk sea h c := hz.2
  have hu := hr.units
  refine m_new 3 sc_drifted.nd (em_dispT (c := c) (by show (A.deeper _).units + 1 < cLine; omega) (ed_var 1) ed_bl) fun d => ?_
  refine m_if (k := decide (depthAt sea c = 0)) (etm_et (et_eqi (ed_call c2 hr (by decide) (sea, h, c) ⟨S, C⟩ (by rfl) (ea_cons (ed_var 0) (ea_cons (ed_var 1) ea_nil))) ed_int)) (fun hk => ?_) fun hk => ?_
  · refine m_retd (ed_d (d' := .tuple (drifted sea h c days)) ?_ (ed_tupd (ds := [cD c]) (ea_cons (ed_var 1) ea_nil) (by show 1 ≤ 100000; decide))) hD
    unfold drifted
    rw [if_pos (of_decide_eq_true hk)]
  have hk := of_decide_eq_false hk
  refine m_nil fun σ0 G0 H0 S0 k0 => ?_
  refine (?_ : M _ φ _ _ _ D) σ0 G0 H0 S0 k0
  refine m_par 4 5 (P1 := dP K (.list ([c].map cD))) (P2 := dP K (.int days)) (fun D => ps_par rfl sc_drifted.nd rfl rfl (by decide) rfl rfl wa_pa (by rfl)) (eam_ea (ea_cons (ed_lstd (ds := [cD c]) (ea_cons (ed_var 1) ea_nil) (by show 1 ≤ 100000; decide)) (ea_cons (ed_var 2) ea_nil))) ?_
  refine m_while PassesOwn.never (fun z : List Cell × List Cell × Int => CellsOk sea h z.1 ∧ z.1 ≠ [] ∧ CellsOk sea h z.2.1 ∧ driftLoop sea h z.2.2.toNat z.1 z.2.1 = driftLoop sea h days.toNat [c] [c]) (fun z => z.2.2.toNat) (fun z => !decide (z.2.1 = []) && decide (0 < z.2.2)) (fun z => [(d, dTP z.1)])
    (fun z => [some (dP K (seaD sea)), some (dP K (cellD c)), some (dP K (.int days)), some (eP (.ref d)), some (dP K (.list (z.2.1.map cD))), some (dP K (.int z.2.2)), none, none, none]) ([c], [c], days) ⟨?_, by simp, ?_, rfl⟩ rfl rfl ?_ ?_ ?_
  · exact ⟨fun x hx => by rw [List.mem_singleton.mp hx]; exact C, by simp⟩
  · exact ⟨fun x hx => by rw [List.mem_singleton.mp hx]; exact C, by simp⟩
  · rintro ⟨found, ring, left⟩ ⟨z1, z2, z3, z4⟩
    dsimp only at z1 z2 z3 z4 ⊢
    have hok : okD (.list (ring.map cD)) 5 := okD_list (n := 4) fun e he => by
      obtain ⟨x, _, rfl⟩ := List.mem_map.mp he
      exact okD_cD x 3
    refine etm_et (et_to ?_ (ew_et (ew_and (et_neD (e := .list []) hu (ed_var 4) (ed_lstd (ds := []) ea_nil (by show 0 ≤ 100000; decide)) hok.shaped (by decide)) fun _ => ew_and1 (et_gti (ed_var 5) ed_int))))
    rw [eqv_nil]
    congr 2
    exact decide_eq_decide.mpr (by rw [List.map_eq_nil_iff])
  · rintro ⟨found, ring, left⟩ ⟨z1, z2, z3, z4⟩ hb D' hD' hn
    dsimp only at z1 z2 z3 z4 hb ⊢
    have hb := Bool.and_eq_true_iff.mp hb
    have hb1 : ring ≠ [] := by simpa using hb.1
    have hb2 : 0 < left := of_decide_eq_true hb.2
    have eL : left.toNat = (left - 1).toNat + 1 := by omega
    have lr := z3.small S
    refine m_new 6 sc_drifted.nd em_newT fun fr => ?_
    refine m_for PassesOwn.never rfl (es_listM (g := cD) (xs := ring) (ed_var 4)) (fun i fl => fl = (ring.take i).foldl (ringFrom sea h found) []) (fun fl => [(fr, dTP fl), (d, dTP found)]) (fun _ => [some (dP K (seaD sea)), some (dP K (cellD c)), some (dP K (.int days)), some (eP (.ref d)), some (dP K (.list (ring.map cD))), some (dP K (.int left)), some (eP (.ref fr)), none, none]) [] rfl rfl rfl ?_ ?_
    · rintro i Pi fl hPi rfl φ1 hφ1 bk1
      rw [List.getElem?_map] at hPi
      obtain ⟨one, ho, rfl⟩ := Option.map_eq_some_iff.mp hPi
      have C1 : CellOk sea h one := z3.ok one (List.mem_of_getElem? ho)
      refine ⟨[7], _, tg_name 7 sc_drifted.nd, fun D1 hD1 hn1 => ?_⟩
      generalize hfl : (ring.take i).foldl (ringFrom sea h found) [] = fl at hn1 ⊢
      have cf : CellsOk sea h fl := by
        rw [← hfl]
        exact CellsOk.ringStep (CellsOk.nil sea h)
      refine m_for PassesOwn.never rfl (es_listM (g := cD) (xs := watersBeside sea h one) (ed_call c1 hr (by decide) (sea, h, one) S (by rfl) (ea_cons (ed_var 0) (ea_cons (ed_var 7) ea_nil)))) (fun j gl => gl = ((watersBeside sea h one).take j).foldl (fun fr near => if near ∈ found then fr else insC fr near) fl ∧ CellsOk sea h gl) (fun gl => [(fr, dTP gl), (d, dTP found)])
        (fun _ => [some (dP K (seaD sea)), some (dP K (cellD c)), some (dP K (.int days)), some (eP (.ref d)), some (dP K (.list (ring.map cD))), some (dP K (.int left)), some (eP (.ref fr)), some (dP K (cD one)), none]) fl ⟨rfl, cf⟩ rfl rfl ?_ ?_
      · rintro j Pj gl hPj ⟨rfl, cg⟩ φ2 hφ2 bk2
        rw [List.getElem?_map] at hPj
        obtain ⟨near, hn, rfl⟩ := Option.map_eq_some_iff.mp hPj
        refine ⟨[8], _, tg_name 8 sc_drifted.nd, fun D2 hD2 hn2 => ?_⟩
        have e2 : ((watersBeside sea h one).take (j + 1)).foldl (fun fr near => if near ∈ found then fr else insC fr near) fl = (if near ∈ found then ((watersBeside sea h one).take j).foldl (fun fr near => if near ∈ found then fr else insC fr near) fl else insC (((watersBeside sea h one).take j).foldl (fun fr near => if near ∈ found then fr else insC fr near) fl) near) := by
          rw [take_succ' hn, List.foldl_append]
          rfl
        generalize ((watersBeside sea h one).take j).foldl (fun fr near => if near ∈ found then fr else insC fr near) fl = gl at hn2 cg e2 ⊢
        have lg := cg.small S
        refine m_if (etm_notinT (i := 1) (cl := near) (by show (A.deeper _).units + 1 < cLine; omega) rfl (ed_var 8) (ed_var 3)) (fun hk => ?_) fun hk => ?_
        · have hk : ¬ near ∈ found := by simpa using hk
          rw [if_neg hk] at e2
          have cg2 := cg.ins (waters_ok (List.mem_of_getElem? hn))
          refine m_st (sm_putT (i := 0) (ks := gl) (cl := near) (by show (A.deeper _).units + 1 < cLine; omega) rfl (by omega) ed_bl (ed_var 6) (ed_var 8)) fun σ3 G3 H3 f3 => ?_
          refine m_nil (fun σ4 G4 H4 S4 k4 => ?_) σ3 G3 H3 f3.1 f3.2
          refine m_nil (fun σ5 G5 H5 S5 k5 => ?_) σ4 G4 H4 S4 k4
          exact hn2 _ ⟨e2.symm, cg2⟩ σ5 G5 H5 S5 (k5.forget 8)
        · have hk : near ∈ found := by simpa using hk
          rw [if_pos hk] at e2
          refine m_nil fun σ4 G4 H4 S4 k4 => ?_
          refine m_nil (fun σ5 G5 H5 S5 k5 => ?_) σ4 G4 H4 S4 k4
          exact hn2 _ ⟨e2.symm, cg⟩ σ5 G5 H5 S5 (k5.forget 8)
      · rintro gl ⟨rfl, cg⟩
        refine m_nil fun σ4 G4 H4 S4 k4 => ?_
        refine hn1 _ ?_ σ4 G4 H4 S4 (k4.forget 7)
        rw [take_succ' ho, List.foldl_append, hfl, List.length_map, List.take_length]
        rfl
    · rintro fl rfl
      rw [List.length_map, List.take_length]
      have cf : CellsOk sea h (ringStep sea h found ring) := CellsOk.ringStep (CellsOk.nil sea h)
      have lf := cf.small S
      have l1 := z1.small S
      show M _ φ _ [(fr, dTP (ringStep sea h found ring)), (d, dTP found)] _ D'
      refine m_st (sm_expr (em_updT (i := 1) (j := 0) (ks := found) (ms := ringStep sea h found ring) (by show (A.deeper _).units + 1 < cLine; omega) rfl rfl z2 (by decide) (by omega) (ed_var 3) (ed_var 6))) fun σ3 G3 H3 f3 => ?_
      obtain ⟨v3, S3, k3⟩ := f3
      refine (?_ : M _ φ _ [(fr, dTP (ringStep sea h found ring)), (d, dTP ((ringStep sea h found ring).foldl insC found))] _ D') σ3 G3 H3 S3 k3
      refine m_par 4 5 (P1 := dP K (.list ((ringStep sea h found ring).map cD))) (P2 := dP K (.int (left - 1))) (fun D => ps_par rfl sc_drifted.nd rfl rfl (by decide) rfl rfl wa_pa (by rfl)) (eam_cons (em_listT (i := 0) rfl rfl (by rfl) T.z_list (ed_var 6)) (eam_cons (em_ed (ed_sub (ed_var 5) ed_int)) eam_nil)) ?_
      refine m_nil fun σ4 G4 H4 S4 k4 => ?_
      have z1' := z1.insAll cf.ok
      refine hn ((ringStep sea h found ring).foldl insC found, ringStep sea h found ring, left - 1) ⟨z1', ?_, cf, ?_⟩ (by show (left - 1).toNat < left.toNat; omega) σ4 G4 H4 (S4.sub (List.sublist_cons_self _ _)) (k4.forget 6)
      · have gen : ∀ (ms ks : List Cell), ks ≠ [] → ms.foldl insC ks ≠ [] := by
          intro ms
          induction ms with
          | nil => intro ks h; exact h
          | cons m ms ih =>
            intro ks h
            refine ih _ ?_
            unfold insC
            split
            · exact h
            · simp
        exact gen _ _ z2
      · rw [← z4, eL]
        show _ = (if ring = [] then found else driftLoop sea h (left - 1).toNat ((ringStep sea h found ring).foldl insC found) (ringStep sea h found ring))
        rw [if_neg hb1]
  · rintro ⟨found, ring, left⟩ ⟨z1, z2, z3, z4⟩ hb
    dsimp only at z1 z2 z3 z4 hb ⊢
    have hf : found = driftLoop sea h days.toNat [c] [c] := by
      rw [← z4]
      rcases Bool.and_eq_false_iff.mp hb with hb | hb
      · have hr : ring = [] := by simpa using hb
        subst hr
        cases left.toNat with
        | zero => rfl
        | succ n => rfl
      · have : left.toNat = 0 := by
          have := of_decide_eq_false hb
          omega
        rw [this]
        rfl
    refine m_ret (em_tupleL (F := fun G H => Stt φ [(d, dTP found)] G H) (fun G H S => ⟨_, S⟩) (fun G H p xs S hp => S.newG hp) (by rfl) T.z_tuple (em_sortedT (i := 0) rfl hu rfl (by rfl) T.z_sorted (can_cells found) (ed_var 3))) fun v G H ⟨S1, r1⟩ => hD v G H S1.none ?_
    have e : drifted sea h c days = (found.map cD).mergeSort cellLe := by
      unfold drifted
      rw [if_neg hk, hf]
    show (dP K (.tuple (drifted sea h c days))).p v G
    rw [e]
    exact r1
end
end Lk

/-! W3: notices. -/
namespace Lk
open PySem PySem.Spec PyProof.Rows L2
section
variable {P : Program} {w : World} {K : PySem.W.Frag} {mg : Str → Option Value} {base : Heap}
theorem c_is_mark (T : TX K mg) : Cal P w K mg base 2 "is_mark" ["thing"] (spP (α := Int) (fun z => 1 ≤ z ∧ z ≤ 12) (fun z => [dP K (.int z)]) fun z => dP K (.bool true)) := by
  obtain ⟨f, fd, hm, F⟩ := T.f_is_mark
  have c1 := c_is_whole (P := P) (w := w) (base := base) T
  refine cal_mk F sc_is_mark hm (F.bindsN fun _ _ _ _ _ _ us hl => match us, hl with | [_], _ => rfl) (fun _ => rfl) fun cdv A outer s H E hr z hz => Sr.b (sr_ret ?_)
  refine ed_d ?_ (ed_call c1 hr (by decide) (z, 1, 12) trivial (by rfl) (ea_cons (ed_var 0) (ea_cons ed_int (ea_cons (ed_gint (by rfl) T.i_LAST_MARK) ea_nil))))
  simp [hz.1, hz.2]
theorem c_is_laying (T : TX K mg) : Cal P w K mg base 3 "is_laying" ["sea", "deed"] (spP (α := Sea × Nat × Int × Cell × Int × Int × Int × Bool) (fun z => SeaOk z.1 z.2.1 ∧ DeedOk z.1 z.2.1 (.lay z.2.2.1 z.2.2.2.1 z.2.2.2.2.1 z.2.2.2.2.2.1 z.2.2.2.2.2.2.1 z.2.2.2.2.2.2.2))
    (fun z => [dP K (seaD z.1), dP K (deedD (.lay z.2.2.1 z.2.2.2.1 z.2.2.2.2.1 z.2.2.2.2.2.1 z.2.2.2.2.2.2.1 z.2.2.2.2.2.2.2))]) fun z => dP K (.bool true)) := by
  obtain ⟨f, fd, hm, F⟩ := T.f_is_laying
  have c1 := c_is_whole (P := P) (w := w) (base := base) T
  have c2 := c_is_mark (P := P) (w := w) (base := base) T
  have c3 := c_is_cell (P := P) (w := w) (base := base) T
  refine cal_mk F sc_is_laying hm (F.bindsN fun _ _ _ _ _ _ us hl => match us, hl with | [_, _], _ => rfl) (fun _ => rfl) fun cdv A outer s H E hr z hz => Sr.b ?_
  obtain ⟨sea, h, m, c, sh, co, si, lit⟩ := z
  obtain ⟨S, hm1, hc, hs, ho, hi⟩ := hz
  dsimp only at S hm1 hc hs ho hi
  refine sr_no (et_to ?_ (ew_et (ew_or (et_nei (ed_lenTd (by rfl) T.z_len (ed_var 1)) ed_int) fun _ => ew_or (et_not (et_val (ed_call c2 hr (by decide) m hm1 (by rfl) (ea_cons (ed_ixTd (ed_var 1) ed_int (by rfl)) ea_nil)))) fun _ => ew_or1 (et_not (et_val (ed_call c3 hr (by decide) (sea, h, c) S (by rfl) (ea_cons (ed_var 0) (ea_cons (ed_ixTd (ed_var 1) ed_int (by rfl)) ea_nil)))))))) ?_
  · simp [hc]
  refine sr_no (et_to ?_ (ew_et (ew_or (et_not (et_val (ed_call c1 hr (by decide) (sh, 0, 2) trivial (by rfl) (ea_cons (ed_ixTd (ed_var 1) ed_int (by rfl)) (ea_cons ed_int (ea_cons ed_int ea_nil)))))) fun _ => ew_or1 (et_not (et_val (ed_call c1 hr (by decide) (co, 0, 2) trivial (by rfl) (ea_cons (ed_ixTd (ed_var 1) ed_int (by rfl)) (ea_cons ed_int (ea_cons ed_int ea_nil))))))))) ?_
  · simp [hs.1, hs.2, ho.1, ho.2]
  refine sr_ret (ed_d ?_ (ed_and (ed_call c1 hr (by decide) (si, 1, 9) trivial (by rfl) (ea_cons (ed_ixTd (ed_var 1) ed_int (by rfl)) (ea_cons ed_int (ea_cons (ed_gint (by rfl) T.i_MOST_STRENGTH) ea_nil)))) fun _ => ed_one (ed_isi "bool" (by rfl) T.z_isinstance (by rfl) T.z_bool tv_bool (ed_ixTd (d := .bool lit) (ed_var 1) ed_int (by rfl)) rfl kb_bb)))
  simp [hi.1, hi.2]
theorem sk (a b : Str) (h : decide (a = b) = false := by decide +kernel) : decide (a = b) = false := h
theorem c_is_deed (T : TX K mg) : Cal P w K mg base 4 "is_deed" ["sea", "thing"] (spP (α := Sea × Nat × Deed) (fun z => SeaOk z.1 z.2.1 ∧ DeedOk z.1 z.2.1 z.2.2) (fun z => [dP K (seaD z.1), dP K (deedD z.2.2)]) fun z => dP K (.bool true)) := by
  obtain ⟨f, fd, hm, F⟩ := T.f_is_deed
  have c1 := c_is_whole (P := P) (w := w) (base := base) T
  have c2 := c_is_mark (P := P) (w := w) (base := base) T
  have c3 := c_is_cell (P := P) (w := w) (base := base) T
  have c4 := c_is_laying (P := P) (w := w) (base := base) T
  refine cal_mk F sc_is_deed hm (F.bindsN fun _ _ _ _ _ _ us hl => match us, hl with | [_, _], _ => rfl) (fun _ => rfl) fun cdv A outer s H E hr z hz => Sr.b ?_
  obtain ⟨sea, h, d⟩ := z
  obtain ⟨S, D⟩ := hz
  dsimp only at S D
  cases d with
  | lay m c sh co si lit =>
    refine sr_no (et_to ?_ (ew_et (ew_or (et_not (et_val (ed_isi "tuple" (by rfl) T.z_isinstance (by rfl) T.z_tuple tv_tuple (ed_var 1) rfl kb_tt))) fun _ => ew_or (et_lti (ed_lenTd (by rfl) T.z_len (ed_var 1)) ed_int) fun _ => ew_or1 (et_not (et_val (ed_isi (d := .str "lay") "str" (by rfl) T.z_isinstance (by rfl) T.z_str tv_str (ed_ixTd (ed_var 1) ed_int (by rfl)) rfl kb_ss)))))) ?_
    · rfl
    exact sr_if (et_streq (ed_ixTd (d := .str "lay") (ed_var 1) ed_int (by rfl)) ed_str) (fun _ => sr_ret (ed_call c4 hr (by decide) (sea, h, m, c, sh, co, si, lit) ⟨S, D⟩ (by rfl) (ea_cons (ed_var 0) (ea_cons (ed_var 1) ea_nil)))) (fun z => absurd z (by decide +kernel))
  | lift m =>
    refine sr_no (et_to ?_ (ew_et (ew_or (et_not (et_val (ed_isi "tuple" (by rfl) T.z_isinstance (by rfl) T.z_tuple tv_tuple (ed_var 1) rfl kb_tt))) fun _ => ew_or (et_lti (ed_lenTd (by rfl) T.z_len (ed_var 1)) ed_int) fun _ => ew_or1 (et_not (et_val (ed_isi (d := .str "lift") "str" (by rfl) T.z_isinstance (by rfl) T.z_str tv_str (ed_ixTd (ed_var 1) ed_int (by rfl)) rfl kb_ss)))))) ?_
    · rfl
    refine sr_no (et_to (sk "lift" "lay") (et_streq (ed_ixTd (d := .str "lift") (ed_var 1) ed_int (by rfl)) ed_str)) ?_
    refine sr_if (et_streq (ed_ixTd (d := .str "lift") (ed_var 1) ed_int (by rfl)) ed_str) (fun _ => sr_ret (ed_d ?_ (ed_and (ed_eqi (ed_lenTd (by rfl) T.z_len (ed_var 1)) ed_int) fun _ => ed_one (ed_call c2 hr (by decide) m D (by rfl) (ea_cons (ed_ixTd (ed_var 1) ed_int (by rfl)) ea_nil))))) (fun z => absurd z (by decide +kernel))
    rfl
  | gale m =>
    have D : 1 ≤ m ∧ m ≤ 9 := D
    refine sr_no (et_to ?_ (ew_et (ew_or (et_not (et_val (ed_isi "tuple" (by rfl) T.z_isinstance (by rfl) T.z_tuple tv_tuple (ed_var 1) rfl kb_tt))) fun _ => ew_or (et_lti (ed_lenTd (by rfl) T.z_len (ed_var 1)) ed_int) fun _ => ew_or1 (et_not (et_val (ed_isi (d := .str "gale") "str" (by rfl) T.z_isinstance (by rfl) T.z_str tv_str (ed_ixTd (ed_var 1) ed_int (by rfl)) rfl kb_ss)))))) ?_
    · rfl
    refine sr_no (et_to (sk "gale" "lay") (et_streq (ed_ixTd (d := .str "gale") (ed_var 1) ed_int (by rfl)) ed_str)) ?_
    refine sr_no (et_to (sk "gale" "lift") (et_streq (ed_ixTd (d := .str "gale") (ed_var 1) ed_int (by rfl)) ed_str)) ?_
    refine sr_if (et_streq (ed_ixTd (d := .str "gale") (ed_var 1) ed_int (by rfl)) ed_str) (fun _ => sr_ret (ed_d ?_ (ed_and (ed_eqi (ed_lenTd (by rfl) T.z_len (ed_var 1)) ed_int) fun _ => ed_one (ed_call c1 hr (by decide) (m, 1, 9) trivial (by rfl) (ea_cons (ed_ixTd (ed_var 1) ed_int (by rfl)) (ea_cons ed_int (ea_cons (ed_gint (by rfl) T.i_MOST_STRENGTH) ea_nil))))))) (fun z => absurd z (by decide +kernel))
    simp [D.1, D.2]
  | seen m c =>
    have D1 := D.1
    have D2 := D.2
    refine sr_no (et_to ?_ (ew_et (ew_or (et_not (et_val (ed_isi "tuple" (by rfl) T.z_isinstance (by rfl) T.z_tuple tv_tuple (ed_var 1) rfl kb_tt))) fun _ => ew_or (et_lti (ed_lenTd (by rfl) T.z_len (ed_var 1)) ed_int) fun _ => ew_or1 (et_not (et_val (ed_isi (d := .str "seen") "str" (by rfl) T.z_isinstance (by rfl) T.z_str tv_str (ed_ixTd (ed_var 1) ed_int (by rfl)) rfl kb_ss)))))) ?_
    · rfl
    refine sr_no (et_to (sk "seen" "lay") (et_streq (ed_ixTd (d := .str "seen") (ed_var 1) ed_int (by rfl)) ed_str)) ?_
    refine sr_no (et_to (sk "seen" "lift") (et_streq (ed_ixTd (d := .str "seen") (ed_var 1) ed_int (by rfl)) ed_str)) ?_
    refine sr_no (et_to (sk "seen" "gale") (et_streq (ed_ixTd (d := .str "seen") (ed_var 1) ed_int (by rfl)) ed_str)) ?_
    refine sr_if (et_streq (ed_ixTd (d := .str "seen") (ed_var 1) ed_int (by rfl)) ed_str) (fun _ => sr_ret (ed_d ?_ (ed_and (ed_eqi (ed_lenTd (by rfl) T.z_len (ed_var 1)) ed_int) fun _ => ed_and (ed_call c2 hr (by decide) m D1 (by rfl) (ea_cons (ed_ixTd (ed_var 1) ed_int (by rfl)) ea_nil)) fun _ => ed_one (ed_call c3 hr (by decide) (sea, h, c) S (by rfl) (ea_cons (ed_var 0) (ea_cons (ed_ixTd (ed_var 1) ed_int (by rfl)) ea_nil)))))) (fun z => absurd z (by decide +kernel))
    simp [D2]
  | depth c m =>
    have D1 := D.1
    have D2 := D.2
    refine sr_no (et_to ?_ (ew_et (ew_or (et_not (et_val (ed_isi "tuple" (by rfl) T.z_isinstance (by rfl) T.z_tuple tv_tuple (ed_var 1) rfl kb_tt))) fun _ => ew_or (et_lti (ed_lenTd (by rfl) T.z_len (ed_var 1)) ed_int) fun _ => ew_or1 (et_not (et_val (ed_isi (d := .str "depth") "str" (by rfl) T.z_isinstance (by rfl) T.z_str tv_str (ed_ixTd (ed_var 1) ed_int (by rfl)) rfl kb_ss)))))) ?_
    · rfl
    refine sr_no (et_to (sk "depth" "lay") (et_streq (ed_ixTd (d := .str "depth") (ed_var 1) ed_int (by rfl)) ed_str)) ?_
    refine sr_no (et_to (sk "depth" "lift") (et_streq (ed_ixTd (d := .str "depth") (ed_var 1) ed_int (by rfl)) ed_str)) ?_
    refine sr_no (et_to (sk "depth" "gale") (et_streq (ed_ixTd (d := .str "depth") (ed_var 1) ed_int (by rfl)) ed_str)) ?_
    refine sr_no (et_to (sk "depth" "seen") (et_streq (ed_ixTd (d := .str "depth") (ed_var 1) ed_int (by rfl)) ed_str)) ?_
    refine sr_ret (ed_d ?_ (ed_and (ed_streq (ed_ixTd (d := .str "depth") (ed_var 1) ed_int (by rfl)) ed_str) fun _ => ed_and (ed_eqi (ed_lenTd (by rfl) T.z_len (ed_var 1)) ed_int) fun _ => ed_and (ed_call c3 hr (by decide) (sea, h, c) S (by rfl) (ea_cons (ed_var 0) (ea_cons (ed_ixTd (ed_var 1) ed_int (by rfl)) ea_nil))) fun _ => ed_one (ed_call c1 hr (by decide) (m, 0, 9) trivial (by rfl) (ea_cons (ed_ixTd (ed_var 1) ed_int (by rfl)) (ea_cons ed_int (ea_cons (ed_gint (by rfl) T.i_MOST_DEPTH) ea_nil))))))
    simp [D1, D2.1, D2.2]
theorem c_notice_in (T : TX K mg) : Cal P w K mg base 5 "notice_in" ["sea", "thing"] (spP (α := Sea × Nat × Notice) (fun z => SeaOk z.1 z.2.1 ∧ NoticeOk z.1 z.2.1 z.2.2) (fun z => [dP K (seaD z.1), dP K (noticeD z.2.2)]) fun z => dP K (.bool true)) := by
  obtain ⟨f, fd, hm, F⟩ := T.f_notice_in
  have c1 := c_is_whole (P := P) (w := w) (base := base) T
  have c2 := c_is_deed (P := P) (w := w) (base := base) T
  refine cal_mk F sc_notice_in hm (F.bindsN fun _ _ _ _ _ _ us hl => match us, hl with | [_, _], _ => rfl) (fun _ => rfl) fun cdv A outer s H E hr z hz => Sr.b ?_
  obtain ⟨sea, h, n⟩ := z
  obtain ⟨S, N⟩ := hz
  dsimp only at S N
  obtain ⟨n1, n2, d1, d2, dd⟩ := N
  refine sr_no (et_to ?_ (ew_et (ew_or (et_not (et_val (ed_isi "tuple" (by rfl) T.z_isinstance (by rfl) T.z_tuple tv_tuple (ed_var 1) rfl kb_tt))) fun _ => ew_or1 (et_nei (ed_lenTd (by rfl) T.z_len (ed_var 1)) ed_int)))) ?_
  · rfl
  refine sr_ret (ed_d ?_ (ed_and (ed_call c1 hr (by decide) (n.num, 1, 99) trivial (by rfl) (ea_cons (ed_ixTd (ed_var 1) ed_int (by rfl)) (ea_cons ed_int (ea_cons (ed_gint (by rfl) T.i_LAST_NUMBER) ea_nil)))) fun _ => ed_and (ed_call c1 hr (by decide) (n.day, 0, 400) trivial (by rfl) (ea_cons (ed_ixTd (ed_var 1) ed_int (by rfl)) (ea_cons ed_int (ea_cons (ed_gint (by rfl) T.i_LAST_DAY) ea_nil)))) fun _ =>
    ed_one (ed_call c2 hr (by decide) (sea, h, n.deed) ⟨S, dd⟩ (by rfl) (ea_cons (ed_var 0) (ea_cons (ed_ixTd (ed_var 1) ed_int (by rfl)) ea_nil)))))
  simp [n1, n2, d1, d2]
theorem c_notices_in (T : TX K mg) : Cal P w K mg base 6 "notices_in" ["sea", "thing"] (spP (α := Sea × Nat × List Notice) (fun z => SeaOk z.1 z.2.1 ∧ NoticesOk z.1 z.2.1 z.2.2) (fun z => [dP K (seaD z.1), dP K (.list (z.2.2.map noticeD))]) fun z => dP K (.bool true)) := by
  obtain ⟨f, fd, hm, F⟩ := T.f_notices_in
  have c1 := c_notice_in (P := P) (w := w) (base := base) T
  refine cal_mk F sc_notices_in hm (F.bindsN fun _ _ _ _ _ _ us hl => match us, hl with | [_, _], _ => rfl) (fun _ => rfl) fun cdv A outer s H E hr z hz => Sr.b ?_
  obtain ⟨sea, h, ns⟩ := z
  obtain ⟨S, N⟩ := hz
  dsimp only at S N
  obtain ⟨l1, ok, nd⟩ := N
  have hu := hr.units
  refine sr_no (et_to ?_ (ew_et (ew_or (et_not (et_val (ed_isi "list" (by rfl) T.z_isinstance (by rfl) T.z_list tv_list (ed_var 1) rfl kb_ll))) fun _ => ew_or1 (et_gti (ed_lenLd (by rfl) T.z_len (ed_var 1)) (ed_gint (by rfl) T.i_MOST_NOTICES))))) ?_
  · simp; omega
  refine sr_no (et_to ?_ (et_not (et_val (ed_all (bs := ns.map fun _ => true) rfl (by rfl) T.z_all (ed_d ?_ (ed_mapD rfl sc_notices_in.nd [("notice", 2)] (blkOk_by (N := n_notices_in) (sc := defScope s_notices_in) (by decide +kernel)) ns (fun n => dP K (noticeD n)) (fun _ => .bool true) (es_listM (ed_var 1)) (by omega) fun n hn => ⟨[2], _, by simp, fun s H C cl fp => ⟨tg_name 2 sc_notices_in.nd, ets_nil, fun _ => ed_call c1 hr (by decide) (sea, h, n) ⟨S, ok n hn⟩ (by rfl) (ea_cons (ed_var 0) (ea_cons (ed_var 2) ea_nil))⟩⟩)))))) ?_
  · simp
  · rw [List.map_map]; rfl
  refine sr_ret (ed_d ?_ (ed_eqi (ed_lenSet (by rfl) T.z_len (ed_set (ds := ns.map noticeD) rfl hu (by rfl) T.z_set (ed_var 1) (mem_notices ns) (by rw [List.length_map]; omega)) (keys_nd nd)) (ed_lenSetI (ns := ns.map (·.num)) rfl (by rfl) T.z_len (by rfl) T.z_set (ed_d ?_ (ed_mapD rfl sc_notices_in.nd [("notice", 2)] (blkOk_by (N := n_notices_in) (sc := defScope s_notices_in) (by decide +kernel)) ns (fun n => dP K (noticeD n)) (fun n => .int n.num) (es_listM (ed_var 1)) (by omega) fun n hn => ⟨[2], _, by simp, fun s H C cl fp => ⟨tg_name 2 sc_notices_in.nd, ets_nil, fun _ => ed_ixTd (ed_var 2) ed_int (by rfl)⟩⟩)) nd (by rw [List.length_map]; omega))))
  · simp
  · rw [List.map_map]; rfl
theorem c_need_notices (T : TX K mg) : Cal P w K mg base 7 "need_notices" ["sea", "notices"] (spP (α := Sea × Nat × List Notice) (fun z => SeaOk z.1 z.2.1 ∧ NoticesOk z.1 z.2.1 z.2.2) (fun z => [dP K (seaD z.1), dP K (.list (z.2.2.map noticeD))]) fun z => dP K .none) := by
  obtain ⟨f, fd, hm, F⟩ := T.f_need_notices
  have c1 := c_need_sea (P := P) (w := w) (base := base) T
  have c2 := c_notices_in (P := P) (w := w) (base := base) T
  refine cal_mk F sc_need_notices hm (F.bindsN fun _ _ _ _ _ _ us hl => match us, hl with | [_, _], _ => rfl) (fun _ => rfl) fun cdv A outer s H E hr z hz => Sn.b (sn_seq (ss_expr (ed_call c1 hr (by decide) (z.1, z.2.1) hz.1 (by rfl) (ea_cons (ed_var 0) ea_nil))) (sn_seq (ss_no (et_to ?_ (et_not (et_val (k := true) (ed_call c2 hr (by decide) z hz (by rfl) (ea_cons (ed_var 0) (ea_cons (ed_var 1) ea_nil))))))) sn_nil))
  rfl
theorem c_need_held (T : TX K mg) : Cal P w K mg base 2 "need_held" ["held"] (spP (α := Int) (fun z => 0 ≤ z ∧ z ≤ 99) (fun z => [dP K (.int z)]) fun z => dP K .none) := by
  obtain ⟨f, fd, hm, F⟩ := T.f_need_held
  have c1 := c_is_whole (P := P) (w := w) (base := base) T
  refine cal_mk F sc_need_held hm (F.bindsN fun _ _ _ _ _ _ us hl => match us, hl with | [_], _ => rfl) (fun _ => rfl) fun cdv A outer s H E hr z hz => Sn.b (sn_seq (ss_no (et_to ?_ (et_not (et_val (ed_call c1 hr (by decide) (z, 0, 99) trivial (by rfl) (ea_cons (ed_var 0) (ea_cons ed_int (ea_cons (ed_gint (by rfl) T.i_LAST_NUMBER) ea_nil)))))))) sn_nil)
  simp [hz.1, hz.2]
theorem c_held_notices (T : TX K mg) : Cal P w K mg base 4 "held_notices" ["notices", "held"] (spP (α := List Notice × Int) (fun z => z.1.length ≤ 30 ∧ (z.1.map (·.num)).Nodup) (fun z => [dP K (.list (z.1.map noticeD)), dP K (.int z.2)]) fun z => dP K (.list ((heldN z.1 z.2).map noticeD))) := by
  obtain ⟨f, fd, hm, F⟩ := T.f_held_notices
  refine cal_mk F sc_held_notices hm (F.bindsN fun _ _ _ _ _ _ us hl => match us, hl with | [_, _], _ => rfl) (fun _ => rfl) fun cdv A outer s H E hr z hz => Sr.b ?_
  obtain ⟨ns, held⟩ := z
  obtain ⟨l1, nd⟩ := hz
  dsimp only at l1 nd
  have hu := hr.units
  have hf : Firsts (ns.map noticeD) := firsts_notices (nd_inj nd)
  have hsub : ∀ ds', SubOf (ns.map noticeD) ds' → ∃ ms : List Notice, ms.Perm ns ∧ ms.map noticeD = ds' := fun ds' hs => by
    obtain ⟨ms, p1, p2⟩ := perm_lift noticeD (hs.full (keys_nd nd)) ns rfl
    exact ⟨ms, p1, p2⟩
  refine sr_ret (ed_d ?_ (ed_sortedOrd (ds := ((ns.mergeSort numLe).filter fun n => decide (n.num ≤ held)).map noticeD) T hr (by rfl) T.z_sorted (by rfl) (ed_compD rfl sc_held_notices.nd [("notice", 2)] (blkOk_by (N := n_held_notices) (sc := defScope s_held_notices) (by decide +kernel)) (ns.mergeSort numLe) (fun n => dP K (noticeD n)) (fun n => decide (n.num ≤ held)) noticeD (es_listM (ed_i (imp_x (β := List PyData) (S := fun ds' => SubOf (ns.map noticeD) ds') fun ds' hs => ?_) (ed_sortedSet (le := firstLe) (ds := ns.map noticeD) rfl hu (by rfl) T.z_sorted (ed_set rfl hu (by rfl) T.z_set (ed_var 0) (mem_notices ns) (by rw [List.length_map]; omega)) (mem_notices ns) fun ds' hs => ?_))) (by rw [List.length_mergeSort]; omega) fun n hn => ⟨[2], _, by simp, fun s H C cl fp => ⟨tg_name 2 sc_held_notices.nd, ets_one (et_lei (ed_ixTd (ed_var 2) ed_int (by rfl)) (ed_var 1)), fun _ => ed_var 2⟩⟩) (not_notices _)))
  · exact congrArg PyData.list (List.map_mergeSort (r := dayLe) (s := ordLe) (f := noticeD) (fun a _ b _ => dayLe_ord a b)).symm
  · obtain ⟨ms, p1, rfl⟩ := hsub ds' hs
    rw [sort_notices, sort_perm p1 nd]
    exact Imp.refl _
  · obtain ⟨ms, p1, rfl⟩ := hsub ds' hs
    exact can_firsts (firsts_notices (nd_inj ((p1.map (·.num)).nodup_iff.mpr nd)))
end
end Lk

/-! W4: what the deeds do. -/
namespace Lk
open PySem PySem.Spec PyProof.Rows L2
section
variable {P : Program} {w : World} {K : PySem.W.Frag} {mg : Str → Option Value} {base : Heap}
theorem c_with_mark (T : TX K mg) : Cal P w K mg base 1 "with_mark" ["marks", "mark", "thing"] (spP (α := Marks × Int × Mark) (fun z => z.1.length < 100000) (fun z => [mkP markD z.1, dP K (.int z.2.1), dP K (markD z.2.2)]) fun z => mkP markD (putM z.1 z.2.1 z.2.2)) := by
  obtain ⟨f, fd, hm, F⟩ := T.f_with_mark
  refine cal_mk F sc_with_mark hm (F.bindsN fun _ _ _ _ _ _ us hl => match us, hl with | [_, _, _], _ => rfl) (fun _ => rfl) fun cdv A outer s H E hr z hz => Sr.b (sr_m fun φ D hB hD => ?_)
  have hu := hr.units
  refine m_new 3 sc_with_mark.nd (em_dictD (by rfl) T.z_dict (ed_var 0)) fun d => ?_
  refine m_st (sm_putK (i := 0) (g := markD) (x := z.2.2) (by show (A.deeper _).units + 1 < cLine; omega) rfl hz (ed_var 2) (ed_var 3) (ed_var 1)) fun σ3 G3 H3 f3 => ?_
  refine m_freeze 3 rfl ?_ σ3 G3 H3 f3.1 f3.2
  exact m_retd (ed_var 3) hD
/-- a tuple of such values, unpacked and read -/
theorem c_laid (T : TX K mg) : Cal P w K mg base 2 "laid" ["state", "day", "deed"] (spP (DPre "lay") (asD K) (resD K)) := by
  obtain ⟨f, fd, hm, F⟩ := T.f_laid
  have c1 := c_depth_at (P := P) (w := w) (base := base) T
  have c2 := c_with_mark (P := P) (w := w) (base := base) T
  refine cal_mk F sc_laid hm (F.bindsN fun _ _ _ _ _ _ us hl => match us, hl with | [_, _, _], _ => rfl) (fun _ => rfl) fun cdv A outer s H E hr z hz => Sr.b ?_
  obtain ⟨h, ⟨sea, ms⟩, n, day, deed⟩ := z
  obtain ⟨S, hn, D, hw⟩ := hz
  have hu := hr.units
  have hu1 : (A.deeper (envOfC (Str.ofString "laid") (defScope s_laid) s.heap.objs.size f cdv)).units + 1 < cLine := by omega
  have len := S.len
  dsimp only at S hn D hw len
  cases deed with
  | lay m c sh co si lit =>
    refine sr_seq (ss_asg (ed_var 0) (tg_tup rfl (tgs_cons (tg_name 3 sc_laid.nd) (tgs_cons (tg_name 4 sc_laid.nd) tgs_nil)))) ?_
    refine sr_seq (ss_asg (ed_var 2) (tg_imp (tg_tup rfl (tgs_cons (tg_name 5 sc_laid.nd) (tgs_cons (tg_name 6 sc_laid.nd) (tgs_cons (tg_name 7 sc_laid.nd) (tgs_cons (tg_name 8 sc_laid.nd) (tgs_cons (tg_name 9 sc_laid.nd) (tgs_cons (tg_name 10 sc_laid.nd) (tgs_cons (tg_name 11 sc_laid.nd) tgs_nil)))))))) imp_td)) ?_
    refine sr_if (ew_et (ew_or (et_inK (g := markD) hu1 (ed_var 6) (ed_var 4)) fun _ => ew_or1 (et_eqi (ed_call c1 hr (by decide) (sea, h, c) ⟨S.sea, D.2.1⟩ (by rfl) (ea_cons (ed_var 3) (ea_cons (ed_var 7) ea_nil))) ed_int))) (fun hk => sr_ret (ed_p ?_ ed_non)) fun hk => sr_ret (ed_p (P := tP K [dP K (seaD sea), mkP markD (putM ms m ⟨false, c, sh, co, lit, si⟩)]) ?_ (ed_tup (ea_cons (ed_var 3) (ea_cons (ed_call c2 hr (by decide) (ms, m, ⟨false, c, sh, co, lit, si⟩) (by show ms.length < 100000; omega) (by rfl) (ea_cons (ed_var 4) (ea_cons (ed_var 6) (ea_cons (ed_tupd (ds := [.str "at", cD c, .tuple [.int sh, .int co, .bool lit], .int si]) (ea_cons ed_str (ea_cons (ed_var 7) (ea_cons (ed_tupd (ds := [.int sh, .int co, .bool lit]) (ea_cons (ed_var 8) (ea_cons (ed_var 9) (ea_cons (ed_var 11) ea_nil))) (by show 3 ≤ 100000; decide)) (ea_cons (ed_var 10) ea_nil)))) (by show 4 ≤ 100000; decide)) ea_nil)))) ea_nil))))
    · show dP K .none = resD K _
      simp only [resD, applyD]
      rw [if_pos hk]
    · simp only [resD, applyD]
      rw [if_neg (by rw [hk]; exact Bool.false_ne_true)]
  | lift _ => exact absurd hw (show ¬ ("lift" : Str) = "lay" by decide +kernel)
  | gale _ => exact absurd hw (show ¬ ("gale" : Str) = "lay" by decide +kernel)
  | seen _ _ => exact absurd hw (show ¬ ("seen" : Str) = "lay" by decide +kernel)
  | depth _ _ => exact absurd hw (show ¬ ("depth" : Str) = "lay" by decide +kernel)
theorem c_lifted (T : TX K mg) : Cal P w K mg base 2 "lifted" ["state", "day", "deed"] (spP (DPre "lift") (asD K) (resD K)) := by
  obtain ⟨f, fd, hm, F⟩ := T.f_lifted
  have c1 := c_depth_at (P := P) (w := w) (base := base) T
  have c2 := c_with_mark (P := P) (w := w) (base := base) T
  refine cal_mk F sc_lifted hm (F.bindsN fun _ _ _ _ _ _ us hl => match us, hl with | [_, _, _], _ => rfl) (fun _ => rfl) fun cdv A outer s H E hr z hz => Sr.b ?_
  obtain ⟨h, ⟨sea, ms⟩, n, day, deed⟩ := z
  obtain ⟨S, hn, D, hw⟩ := hz
  have hu := hr.units
  have hu1 : (A.deeper (envOfC (Str.ofString "lifted") (defScope s_lifted) s.heap.objs.size f cdv)).units + 1 < cLine := by omega
  have hu2 : (A.deeper (envOfC (Str.ofString "lifted") (defScope s_lifted) s.heap.objs.size f cdv)).units + 65 < cLine := by have := hr.un; omega
  have len := S.len
  dsimp only at S hn D hw len
  cases deed with
  | lift m =>
    refine sr_seq (ss_asg (ed_var 0) (tg_tup rfl (tgs_cons (tg_name 3 sc_lifted.nd) (tgs_cons (tg_name 4 sc_lifted.nd) tgs_nil)))) ?_
    refine sr_if (et_notinK (g := markD) hu1 (ed_ixTd (ed_var 2) ed_int (by rfl)) (ed_var 4)) (fun hk => sr_ret (ed_p ?_ ed_non)) fun hk => sr_ret (ed_p (P := tP K [dP K (seaD sea), mkP markD (dictOf ((ms.filter fun p => !decide (p.1 = m)).map fun p => (p.1, (getM ms p.1).getD p.2)))]) ?_ (ed_tup (ea_cons (ed_var 3) (ea_cons (ed_dictP (g := markD) rfl (by rfl) T.z_dict (ed_d ?_ (ed_compD rfl sc_lifted.nd [("mark", 5)] (blkOk_by (N := n_lifted) (sc := defScope s_lifted) (by decide +kernel)) ms (fun p => dP K (.int p.1)) (fun p => !decide (p.1 = m)) (fun p => .tuple [.int p.1, markD ((getM ms p.1).getD p.2)]) (es_keysK (g := markD) (ed_var 4)) (by omega) fun p hp => ⟨[5], _, by simp, fun s H C cl fp => ⟨tg_name 5 sc_lifted.nd, ets_one (et_nei (ed_var 5) (ed_ixTd (ed_var 2) ed_int (by rfl))), fun _ => ed_tupd (ds := [.int p.1, markD ((getM ms p.1).getD p.2)]) (ea_cons (ed_var 5) (ea_cons (ed_getK (g := markD) (ms := ms) hu1 (ed_var 4) (ed_var 5) ?_) ea_nil)) (by show 2 ≤ 100000; decide)⟩⟩))) ea_nil))))
    · show dP K .none = resD K _
      simp only [resD, applyD]
      rw [if_pos hk]
    · simp only [resD, applyD]
      rw [if_neg (by rw [hk]; exact Bool.false_ne_true)]
    · rw [List.map_map]
      rfl
    · obtain ⟨x, hx⟩ := getM_some hp
      rw [hx]
      rfl
  | lay _ _ _ _ _ _ => exact absurd hw (show ¬ ("lay" : Str) = "lift" by decide +kernel)
  | gale _ => exact absurd hw (show ¬ ("gale" : Str) = "lift" by decide +kernel)
  | seen _ _ => exact absurd hw (show ¬ ("seen" : Str) = "lift" by decide +kernel)
  | depth _ _ => exact absurd hw (show ¬ ("depth" : Str) = "lift" by decide +kernel)
theorem c_sounded (T : TX K mg) : Cal P w K mg base 2 "sounded" ["state", "day", "deed"] (spP (DPre "depth") (asD K) (resD K)) := by
  obtain ⟨f, fd, hm, F⟩ := T.f_sounded
  have c2 := c_with_depth (P := P) (w := w) (base := base) T
  refine cal_mk F sc_sounded hm (F.bindsN fun _ _ _ _ _ _ us hl => match us, hl with | [_, _, _], _ => rfl) (fun _ => rfl) fun cdv A outer s H E hr z hz => Sr.b ?_
  obtain ⟨h, ⟨sea, ms⟩, n, day, deed⟩ := z
  obtain ⟨S, hn, D, hw⟩ := hz
  have hu := hr.units
  have hu1 : (A.deeper (envOfC (Str.ofString "sounded") (defScope s_sounded) s.heap.objs.size f cdv)).units + 1 < cLine := by omega
  have hu2 : (A.deeper (envOfC (Str.ofString "sounded") (defScope s_sounded) s.heap.objs.size f cdv)).units + 65 < cLine := by have := hr.un; omega
  have len := S.len
  dsimp only at S hn D hw len
  cases deed with
  | depth c d =>
    refine sr_ret (ed_p (P := tP K [dP K (seaD (withDepth sea c d)), mkP markD ms]) (by rfl) (ed_tup (ea_cons (ed_call c2 hr (by decide) (sea, h, c, d) ⟨S.sea, D.1⟩ (by rfl) (ea_cons (ed_ixT (ed_var 0) ed_int (by rfl)) (ea_cons (ed_ixTd (ed_var 2) ed_int (by rfl)) (ea_cons (ed_ixTd (ed_var 2) ed_int (by rfl)) ea_nil)))) (ea_cons (ed_ixT (ed_var 0) ed_int (by rfl)) ea_nil))))
  | lay _ _ _ _ _ _ => exact absurd hw (show ¬ ("lay" : Str) = "depth" by decide +kernel)
  | lift _ => exact absurd hw (show ¬ ("lift" : Str) = "depth" by decide +kernel)
  | gale _ => exact absurd hw (show ¬ ("gale" : Str) = "depth" by decide +kernel)
  | seen _ _ => exact absurd hw (show ¬ ("seen" : Str) = "depth" by decide +kernel)
theorem c_cells_of (T : TX K mg) : Cal P w K mg base 5 "cells_of" ["sea", "one", "day"] (spP (α := Sea × Nat × Mark × Int) (fun z => SeaOk z.1 z.2.1 ∧ CellOk z.1 z.2.1 z.2.2.1.c) (fun z => [dP K (seaD z.1), dP K (markD z.2.2.1), dP K (.int z.2.2.2)]) fun z => dP K (.tuple (drifted z.1 z.2.1 z.2.2.1.c (z.2.2.2 - z.2.2.1.rest)))) := by
  obtain ⟨f, fd, hm, F⟩ := T.f_cells_of
  have c1 := c_drifted (P := P) (w := w) (base := base) T
  refine cal_mk F sc_cells_of hm (F.bindsN fun _ _ _ _ _ _ us hl => match us, hl with | [_, _, _], _ => rfl) (fun _ => rfl) fun cdv A outer s H E hr z hz => Sr.b ?_
  obtain ⟨sea, h, x, day⟩ := z
  refine sr_seq (ss_asg (ed_var 1) (tg_imp (tg_tup rfl (tgs_cons (tg_name 3 sc_cells_of.nd) (tgs_cons (tg_name 4 sc_cells_of.nd) (tgs_cons (tg_name 5 sc_cells_of.nd) (tgs_cons (tg_name 6 sc_cells_of.nd) tgs_nil))))) imp_td)) ?_
  exact sr_ret (ed_call c1 hr (by decide) (sea, h, x.c, day - x.rest) hz (by rfl) (ea_cons (ed_var 0) (ea_cons (ed_var 4) (ea_cons (ed_sub (ed_var 2) (ed_var 6)) ea_nil))))
theorem word_ne (a : Bool) : (!decide (wordD a = ("adrift" : Str))) = !a := by
  cases a <;> decide +kernel
theorem word_at (a : Bool) : decide (wordD a = ("at" : Str)) = !a := by
  cases a <;> decide +kernel
theorem c_sighted (T : TX K mg) : Cal P w K mg base 6 "sighted" ["state", "day", "deed"] (spP (DPre "seen") (asD K) (resD K)) := by
  obtain ⟨f, fd, hm, F⟩ := T.f_sighted
  have c1 := c_cells_of (P := P) (w := w) (base := base) T
  have c2 := c_with_mark (P := P) (w := w) (base := base) T
  refine cal_mk F sc_sighted hm (F.bindsN fun _ _ _ _ _ _ us hl => match us, hl with | [_, _, _], _ => rfl) (fun _ => rfl) fun cdv A outer s H E hr z hz => Sr.b ?_
  obtain ⟨h, ⟨sea, ms⟩, n, day, deed⟩ := z
  obtain ⟨S, hn, D, hw⟩ := hz
  have hu := hr.units
  have hu1 : (A.deeper (envOfC (Str.ofString "sighted") (defScope s_sighted) s.heap.objs.size f cdv)).units + 1 < cLine := by omega
  have hu2 : (A.deeper (envOfC (Str.ofString "sighted") (defScope s_sighted) s.heap.objs.size f cdv)).units + 65 < cLine := by have := hr.un; omega
  have len := S.len
  dsimp only at S hn D hw len
  cases deed with
  | seen m c =>
    refine sr_seq (ss_asg (ed_var 0) (tg_tup rfl (tgs_cons (tg_name 3 sc_sighted.nd) (tgs_cons (tg_name 4 sc_sighted.nd) tgs_nil)))) ?_
    refine sr_seq (ss_asg (ed_var 2) (tg_imp (tg_tup rfl (tgs_cons (tg_name 5 sc_sighted.nd) (tgs_cons (tg_name 6 sc_sighted.nd) (tgs_cons (tg_name 7 sc_sighted.nd) tgs_nil)))) imp_td)) ?_
    cases hx : getM ms m with
    | none =>
      refine sr_if (k := true) (et_to ?_ (ew_et (ew_or (k' := false) (et_notinK (g := markD) hu1 (ed_var 6) (ed_var 4)) fun hk => ?_))) (fun _ => sr_ret (ed_p ?_ ed_non)) (fun z => Bool.noConfusion z)
      · rw [hx]
        rfl
      · rw [hx] at hk
        cases hk
      · show dP K .none = resD K _
        simp only [resD, applyD, hx]
    | some x =>
      obtain ⟨r, hr1, _, hr2⟩ := getM_mem hx
      have Cx : CellOk sea h x.c := by
        have := (S.mks r hr1).1
        rw [hr2] at this
        exact this
      refine sr_if (et_to ?_ (ew_et (ew_or (et_notinK (g := markD) hu1 (ed_var 6) (ed_var 4)) fun _ => ew_or (et_strne (i := wordD x.adrift) (ed_ixTd (ed_getK (g := markD) hu1 (ed_var 4) (ed_var 6) hx) ed_int (by rfl)) ed_str) fun _ => ew_or1 (et_notInT (d := cD c) hu2 (ed_var 7) (ed_call c1 hr (by decide) (sea, h, x, day) ⟨S.sea, Cx⟩ (by rfl) (ea_cons (ed_var 3) (ea_cons (ed_getK (g := markD) hu1 (ed_var 4) (ed_var 6) hx) (ea_cons (ed_var 1) ea_nil)))) (okD_cD c 0).shaped drifted_shaped)))) (k := !x.adrift || !(drifted sea h x.c (day - x.rest)).any fun z => PyData.eqv z (cD c)) (fun hk => sr_ret (ed_p ?_ ed_non)) fun hk => sr_ret (ed_p (P := tP K [dP K (seaD sea), mkP markD (putM ms m { x with adrift := true, c := c, rest := day })]) ?_ (ed_tup (ea_cons (ed_var 3) (ea_cons (ed_call c2 hr (by decide) (ms, m, { x with adrift := true, c := c, rest := day }) (by show ms.length < 100000; omega) (by rfl) (ea_cons (ed_var 4) (ea_cons (ed_var 6) (ea_cons (ed_tupd (ds := [.str "adrift", cD c, lookD x, .int day]) (ea_cons ed_str (ea_cons (ed_var 7) (ea_cons (ed_ixTd (ed_getK (g := markD) hu1 (ed_var 4) (ed_var 6) hx) ed_int (by rfl)) (ea_cons (ed_var 1) ea_nil)))) (by show 4 ≤ 100000; decide)) ea_nil)))) ea_nil))))
      · rw [hx, word_ne]
        rfl
      · show dP K .none = resD K _
        simp only [resD, applyD, hx]
        rw [if_pos hk]
      · simp only [resD, applyD, hx]
        rw [if_neg (by rw [hk]; exact Bool.false_ne_true)]
  | lay _ _ _ _ _ _ => exact absurd hw (show ¬ ("lay" : Str) = "seen" by decide +kernel)
  | lift _ => exact absurd hw (show ¬ ("lift" : Str) = "seen" by decide +kernel)
  | gale _ => exact absurd hw (show ¬ ("gale" : Str) = "seen" by decide +kernel)
  | depth _ _ => exact absurd hw (show ¬ ("depth" : Str) = "seen" by decide +kernel)
end
end Lk

/-! W5: the gale; going through the notices. -/
namespace Lk
open PySem PySem.Spec PyProof.Rows L2
section
variable {P : Program} {w : World} {K : PySem.W.Frag} {mg : Str → Option Value} {base : Heap}
theorem c_blown (T : TX K mg) : Cal P w K mg base 2 "blown" ["state", "day", "deed"] (spP (DPre "gale") (asD K) (resD K)) := by
  obtain ⟨f, fd, hm, F⟩ := T.f_blown
  refine cal_mk F sc_blown hm (F.bindsN fun _ _ _ _ _ _ us hl => match us, hl with | [_, _, _], _ => rfl) (fun _ => rfl) fun cdv A outer s H E hr z hz => Sr.b (sr_m fun φ D hB hD => ?_)
  obtain ⟨h, ⟨sea, ms⟩, n, day, deed⟩ := z
  obtain ⟨S, hn, Dk, hw⟩ := hz
  have hu := hr.units
  have hu1 : (A.deeper (envOfC (Str.ofString "blown") (defScope s_blown) s.heap.objs.size f cdv)).units + 1 < cLine := by omega
  have len := S.len
  dsimp only at S hn Dk hw len
  cases deed with
  | gale g =>
    refine m_ss (ss_asg (ed_var 0) (tg_tup rfl (tgs_cons (tg_name 3 sc_blown.nd) (tgs_cons (tg_name 4 sc_blown.nd) tgs_nil)))) ?_
    refine m_new 5 sc_blown.nd (em_newK (g := markD)) fun d => ?_
    refine m_for PassesOwn.never rfl (es_keysK (g := markD) (ms := ms) (ed_var 4)) (fun i acc => acc = (ms.take i).foldl (blown1 ms g day) []) (fun acc => [(d, dKP markD acc)]) (fun _ => [some (stP K (sea, ms)), some (dP K (.int day)), some (dP K (deedD (.gale g))), some (dP K (seaD sea)), some (mkP markD ms), some (eP (.ref d)), none, none, none, none, none]) [] rfl rfl rfl ?_ ?_
    · rintro i Pi acc hPi rfl φ1 hφ1 bk1
      rw [List.getElem?_map] at hPi
      obtain ⟨p, hp, rfl⟩ := Option.map_eq_some_iff.mp hPi
      obtain ⟨x, hx⟩ := getM_some (List.mem_of_getElem? hp)
      refine ⟨[6], _, tg_name 6 sc_blown.nd, fun D1 hD1 hn1 => ?_⟩
      have e2 : (ms.take (i + 1)).foldl (blown1 ms g day) [] = if x.adrift = false ∧ x.rest < g then putM (putM ((ms.take i).foldl (blown1 ms g day) []) p.1 x) p.1 { x with adrift := true, rest := day } else putM ((ms.take i).foldl (blown1 ms g day) []) p.1 x := by
        rw [take_succ' hp, List.foldl_append]
        show blown1 ms g day _ p = _
        unfold blown1
        rw [hx]
      have la : ((ms.take i).foldl (blown1 ms g day) []).length ≤ 1000 := by
        have := len_blown (ms := ms) (n := g) (day := day) (more := ms.take i) (acc := [])
        rw [List.length_nil, List.length_take] at this
        omega
      generalize (ms.take i).foldl (blown1 ms g day) [] = acc at hn1 e2 la ⊢
      refine m_ss (ss_asg (ed_getK (g := markD) hu1 (ed_var 4) (ed_var 6) hx) (tg_imp (tg_tup rfl (tgs_cons (tg_name 7 sc_blown.nd) (tgs_cons (tg_name 8 sc_blown.nd) (tgs_cons (tg_name 9 sc_blown.nd) (tgs_cons (tg_name 10 sc_blown.nd) tgs_nil))))) imp_td)) ?_
      refine m_st (sm_putK (i := 0) (g := markD) (x := x) hu1 rfl (by omega) (ed_getK (g := markD) hu1 (ed_var 4) (ed_var 6) hx) (ed_var 5) (ed_var 6)) fun σ3 G3 H3 f3 => ?_
      refine (?_ : M _ φ1 _ [(d, dKP markD (putM acc p.1 x))] _ D1) σ3 G3 H3 f3.1 f3.2
      refine m_if (k := decide (x.adrift = false ∧ x.rest < g)) (etm_et (et_to ?_ (ew_et (ew_and (et_streq (i := wordD x.adrift) (ed_var 7) ed_str) fun _ => ew_and1 (et_lti (i := x.rest) (j := g) (ed_var 10) (ed_ixTd (ed_var 2) ed_int (by rfl))))))) (fun hk => ?_) fun hk => ?_
      · rw [word_at, Bool.decide_and]
        cases x.adrift <;> rfl
      · rw [if_pos (of_decide_eq_true hk)] at e2
        have l2 := len_put2 (ms := acc) (m := p.1) (x := x) (y := { x with adrift := true, rest := day })
        have l3 := length_putM (ms := acc) (m := p.1) (x := x)
        refine m_st (sm_putK (i := 0) (g := markD) (ms := putM acc p.1 x) (x := { x with adrift := true, rest := day }) hu1 rfl (by omega) (ed_tupd (ds := [.str "adrift", cD x.c, lookD x, .int day]) (ea_cons ed_str (ea_cons (ed_var 8) (ea_cons (ed_var 9) (ea_cons (ed_var 1) ea_nil)))) (by show 4 ≤ 100000; decide)) (ed_var 5) (ed_var 6)) fun σ4 G4 H4 f4 => ?_
        refine m_nil (fun σ5 G5 H5 S5 k5 => ?_) σ4 G4 H4 f4.1 f4.2
        refine m_nil (fun σ6 G6 H6 S6 k6 => ?_) σ5 G5 H5 S5 k5
        exact hn1 _ e2.symm σ6 G6 H6 S6 (((((k6.forget 6).forget 7).forget 8).forget 9).forget 10)
      · rw [if_neg (of_decide_eq_false hk)] at e2
        refine m_nil (fun σ5 G5 H5 S5 k5 => ?_)
        refine m_nil (fun σ6 G6 H6 S6 k6 => ?_) σ5 G5 H5 S5 k5
        exact hn1 _ e2.symm σ6 G6 H6 S6 (((((k6.forget 6).forget 7).forget 8).forget 9).forget 10)
    · rintro acc rfl
      refine m_freeze 5 rfl ?_
      refine m_retd (ed_p (P := tP K [dP K (seaD sea), mkP markD (blownF ms g day)]) (by rfl) (ed_tup (ea_cons (ed_var 3) (ea_cons (ed_p ?_ (ed_var 5)) ea_nil)))) hD
      rw [List.length_map, List.take_length]
      rfl
  | lay _ _ _ _ _ _ => exact absurd hw (show ¬ ("lay" : Str) = "gale" by decide +kernel)
  | lift _ => exact absurd hw (show ¬ ("lift" : Str) = "gale" by decide +kernel)
  | seen _ _ => exact absurd hw (show ¬ ("seen" : Str) = "gale" by decide +kernel)
  | depth _ _ => exact absurd hw (show ¬ ("depth" : Str) = "gale" by decide +kernel)
end
end Lk

/-! W6: going through the notices. -/
namespace Lk
open PySem PySem.Spec PyProof.Rows L2 PySem.W
def goStep (h : Nat) (last : Int) (acc : State × List Int) (n : Notice) : State × List Int :=
  if n.day ≤ last then match applyD h acc.1 n.day n.deed with
    | none => (acc.1, acc.2 ++ [n.num])
    | some st => (st, acc.2)
  else acc
def goneF (h : Nat) (sea : Sea) (ns : List Notice) (held last : Int) : State × List Int := (heldN ns held).foldl (goStep h last) ((sea, []), [])
def voidsD (vs : List Int) : List PyData := (vs.map PyData.int).mergeSort cellLe
abbrev knP (K : PySem.W.Frag) (g : State × List Int) : Pr := tP K [dP K (seaD g.1.1), mkP markD g.1.2, dP K (.list (voidsD g.2))]
theorem can_ints (ns : List Int) : CanSort (ns.map PyData.int) cellLe := can_data (AllAlike.of fun a b => by simp [alike]) (Sortable.others fun c => ⟨by simp, by simp⟩)
theorem deed_len {s t : Sea} {h : Nat} {d : Deed} (e : t.length = s.length) (D : DeedOk s h d) : DeedOk t h d := by
  cases d with
  | lay m c sh co si lit => exact ⟨D.1, (cellOk_len e).mpr D.2.1, D.2.2⟩
  | lift m => exact D
  | gale n => exact D
  | seen m c => exact ⟨D.1, (cellOk_len e).mpr D.2⟩
  | depth c d => exact ⟨(cellOk_len e).mpr D.1, D.2⟩
theorem mem_held {ns : List Notice} {held : Int} {n : Notice} (h : n ∈ heldN ns held) : n ∈ ns :=
  (List.mergeSort_perm _ _).mem_iff.mp (List.mem_filter.mp ((List.mergeSort_perm _ _).mem_iff.mp h)).1
theorem len_held (ns : List Notice) (held : Int) : (heldN ns held).length ≤ ns.length := by
  unfold heldN
  rw [List.length_mergeSort]
  refine Nat.le_trans (List.length_filter_le _ _) ?_
  rw [List.length_mergeSort]
  exact Nat.le_refl _
/-- what the going through keeps -/
structure GoOk (h : Nat) (sea : Sea) (i : Nat) (g : State × List Int) : Prop where
  st : StOk h g.1 i
  len : g.1.1.length = sea.length
  vs : g.2.length ≤ i
theorem GoOk.step {h : Nat} {sea : Sea} {i : Nat} {g : State × List Int} {n : Notice} {last : Int} (G : GoOk h sea i g) (D : DeedOk sea h n.deed) : GoOk h sea (i + 1) (goStep h last g n) := by
  have G' : GoOk h sea (i + 1) g := ⟨⟨G.st.sea, Nat.le_succ_of_le G.st.len, G.st.mks⟩, G.len, Nat.le_succ_of_le G.vs⟩
  unfold goStep
  split
  · cases e : applyD h g.1 n.day n.deed with
    | none => exact ⟨G'.st, G'.len, by rw [List.length_append, List.length_singleton]; exact Nat.succ_le_succ G.vs⟩
    | some st =>
      obtain ⟨a1, a2⟩ := apply_ok G.st (deed_len G.len D) e
      exact ⟨a1, a2.trans G.len, Nat.le_succ_of_le G.vs⟩
  · exact G'
theorem GoOk.all {h : Nat} {sea : Sea} {last : Int} (S : SeaOk sea h) : ∀ (ns : List Notice) {g : State × List Int} {i : Nat}, GoOk h sea i g → (∀ n ∈ ns, DeedOk sea h n.deed) → GoOk h sea (i + ns.length) (ns.foldl (goStep h last) g)
  | [], _, _, G, _ => G
  | n :: ns, g, i, G, hd => by
    have := GoOk.all (last := last) S ns (G.step (last := last) (hd n List.mem_cons_self)) fun m hm => hd m (List.mem_cons_of_mem _ hm)
    rw [List.length_cons, Nat.add_comm ns.length 1, ← Nat.add_assoc]
    exact this
theorem GoOk.init {h : Nat} {sea : Sea} (S : SeaOk sea h) : GoOk h sea 0 ((sea, []), []) := ⟨⟨S, Nat.le_refl _, fun p hp => by cases hp⟩, rfl, Nat.le_refl _⟩
section
variable {P : Program} {w : World} {K : PySem.W.Frag} {mg : Str → Option Value} {base : Heap}
theorem deed_cal (T : TX K mg) (DK : DeedsOk K w mg) : ∃ dd : Addr, mg "DEEDS" = some (.ref dd) ∧ ∀ d : Deed, ∃ (x : Str) (f : Addr), mg x = some (.ref f) ∧ KDct K w dd (wordOf d) (.ref f) ∧ Cal P w K mg base 6 x ["state", "day", "deed"] (spP (DPre (wordOf d)) (asD K) (resD K)) := by
  obtain ⟨dd, h0, ⟨f1, a1, b1⟩, ⟨f2, a2, b2⟩, ⟨f3, a3, b3⟩, ⟨f4, a4, b4⟩, ⟨f5, a5, b5⟩⟩ := DK.ex
  refine ⟨dd, h0, fun d => ?_⟩
  cases d with
  | lay _ _ _ _ _ _ => exact ⟨"laid", f1, a1, b1, (c_laid T).mono (by decide)⟩
  | lift _ => exact ⟨"lifted", f2, a2, b2, (c_lifted T).mono (by decide)⟩
  | gale _ => exact ⟨"blown", f3, a3, b3, (c_blown T).mono (by decide)⟩
  | seen _ _ => exact ⟨"sighted", f4, a4, b4, (c_sighted T).mono (by decide)⟩
  | depth _ _ => exact ⟨"sounded", f5, a5, b5, (c_sounded T).mono (by decide)⟩
theorem at_word (d : Deed) : ∃ ds, deedD d = .tuple ds ∧ atI ds 0 = some (.str (wordOf d)) := by
  cases d <;> exact ⟨_, rfl, rfl⟩
theorem c_gone_through (T : TX K mg) (DK : DeedsOk K w mg) : Cal P w K mg base 7 "gone_through" ["sea", "notices", "held", "last"] (spP (α := Sea × Nat × List Notice × Int × Int) (fun z => SeaOk z.1 z.2.1 ∧ NoticesOk z.1 z.2.1 z.2.2.1) (fun z => [dP K (seaD z.1), dP K (.list (z.2.2.1.map noticeD)), dP K (.int z.2.2.2.1), dP K (.int z.2.2.2.2)])
    fun z => knP K (goneF z.2.1 z.1 z.2.2.1 z.2.2.2.1 z.2.2.2.2)) := by
  obtain ⟨f, fd, hm, F⟩ := T.f_gone_through
  have c1 := c_held_notices (P := P) (w := w) (base := base) T
  obtain ⟨dd, hdd, cal⟩ := deed_cal (P := P) (base := base) T DK
  refine cal_mk F sc_gone_through hm (F.bindsN fun _ _ _ _ _ _ us hl => match us, hl with | [_, _, _, _], _ => rfl) (fun _ => rfl) fun cdv A outer s H E hr z hz => Sr.b (sr_m fun φ D hB hD => ?_)
  obtain ⟨sea, h, ns, held, last⟩ := z
  obtain ⟨S, N⟩ := hz
  dsimp only at S N
  have hu := hr.units
  have lh := len_held ns held
  have ln := N.len
  refine m_parE 4 5 (fun D => ps_par rfl sc_gone_through.nd rfl rfl (by decide) rfl rfl wa_pa (by rfl)) (eam_new (P := stP K (sea, [])) (ed_tup (ea_cons (ed_var 0) (ea_cons (ed_newK (g := markD)) ea_nil))) em_newL) (fun vs G H ⟨v, p, e, _⟩ => ⟨v, .ref p, e⟩) fun v w' σ1 G1 H1 f1 k1 => ?_
  obtain ⟨v', vd, ev, rv, S1⟩ := f1
  injection ev with e1 e2
  injection e2 with e2 _
  subst e1 e2
  have k2 := (k1.set 4 rv).set (P := eP (.ref vd)) 5 (v := .ref vd) rfl
  refine (?_ : M _ φ _ [(vd, lHP [])] _ D) _ G1 H1 S1 k2
  refine m_for PassesOwn.never rfl (es_listM (g := noticeD) (xs := heldN ns held) (ed_call c1 hr (by decide) (ns, held) ⟨N.len, N.nd⟩ (by rfl) (ea_cons (ed_var 1) (ea_cons (ed_var 2) ea_nil)))) (fun i g => g = ((heldN ns held).take i).foldl (goStep h last) ((sea, []), []) ∧ GoOk h sea i g) (fun g => [(vd, lHP ((g.2.map PyData.int).map (dP K)))])
    (fun g => [some (dP K (seaD sea)), some (dP K (.list (ns.map noticeD))), some (dP K (.int held)), some (dP K (.int last)), some (stP K g.1), some (eP (.ref vd)), none, none, none, none]) ((sea, []), []) ⟨rfl, .init S⟩ rfl rfl ?_ ?_
  · rintro i Pi g hPi ⟨rfl, G⟩ φ1 hφ1 bk1
    rw [List.getElem?_map] at hPi
    obtain ⟨n, hn, rfl⟩ := Option.map_eq_some_iff.mp hPi
    have il : i < (heldN ns held).length := (List.getElem?_eq_some_iff.mp hn).1
    have Dn := (N.ok n (mem_held (List.mem_of_getElem? hn))).deed
    have e2 : ((heldN ns held).take (i + 1)).foldl (goStep h last) ((sea, []), []) = goStep h last (((heldN ns held).take i).foldl (goStep h last) ((sea, []), [])) n := by
      rw [take_succ' hn, List.foldl_append]
      rfl
    generalize ((heldN ns held).take i).foldl (goStep h last) ((sea, []), []) = g at e2 G ⊢
    have G2 := G.step (last := last) Dn
    refine ⟨[6, 7, 8], _, tg_imp (tg_tup rfl (tgs_cons (tg_name 6 sc_gone_through.nd) (tgs_cons (tg_name 7 sc_gone_through.nd) (tgs_cons (tg_name 8 sc_gone_through.nd) tgs_nil)))) imp_td, fun D1 hD1 hn1 => ?_⟩
    refine m_if (etm_et (et_lei (ed_var 7) (ed_var 3))) (fun hk => ?_) fun hk => ?_
    · have hk := of_decide_eq_true hk
      obtain ⟨ds, eds, ea⟩ := at_word n.deed
      obtain ⟨x, fx, hx1, hx2, hx3⟩ := cal n.deed
      refine m_ss (ss_set 9 sc_gone_through.nd (ed_callV hx3 hx1 hr (by decide) ⟨h, g.1, i, n.day, n.deed⟩ ⟨G.st, by show i ≤ 1000; omega, deed_len G.len Dn, rfl⟩ (ed_kd (ed_gref (by rfl) hdd) (ed_ixTd (ds := ds) (ed_d eds (ed_var 8)) ed_int ea) hx2) (ea_cons (ed_var 4) (ea_cons (ed_var 7) (ea_cons (ed_var 8) ea_nil))) rfl)) ?_
      cases ap : applyD h g.1 n.day n.deed with
      | none =>
        have er : resD K ⟨h, g.1, i, n.day, n.deed⟩ = dP K .none := by
          simp only [resD, ap]
        have eg : goStep h last g n = (g.1, g.2 ++ [n.num]) := by
          unfold goStep
          rw [if_pos hk, ap]
        rw [er]
        refine m_if (k := true) (etm_et (et_isNone (ed_var 9) fun v G r => by rw [dp_non r]; rfl)) (fun _ => ?_) (fun z => Bool.noConfusion z)
        refine m_st (sm_expr (em_append (i := 0) rfl (by rw [List.length_map, List.length_map]; have := G.vs; omega) (ed_var 5) (ed_var 6))) fun σ3 G3 H3 f3 => ?_
        obtain ⟨v3, S3, k3⟩ := f3
        refine m_nil (fun σ5 G5 H5 S5 k5 => ?_) σ3 G3 H3 S3.1 k3
        refine m_nil (fun σ6 G6 H6 S6 k6 => ?_) σ5 G5 H5 S5 k5
        refine m_nil (fun σ7 G7 H7 S7 k7 => ?_) σ6 G6 H6 S6 k6
        rw [eg] at e2 G2
        refine hn1 _ ⟨e2.symm, G2⟩ σ7 G7 H7 ?_ ((((k7.forget 6).forget 7).forget 8).forget 9)
        rw [show ((g.1, g.2 ++ [n.num]) : State × List Int).2 = g.2 ++ [n.num] from rfl, List.map_append, List.map_append]
        exact S7
      | some st =>
        have er : resD K ⟨h, g.1, i, n.day, n.deed⟩ = stP K st := by
          simp only [resD, ap]
        have eg : goStep h last g n = (st, g.2) := by
          unfold goStep
          rw [if_pos hk, ap]
        rw [er]
        refine m_if (k := false) (etm_et (et_isNone (ed_var 9) fun v G r => by obtain ⟨a, xs, rfl, _⟩ := r; rfl)) (fun z => Bool.noConfusion z) (fun _ => ?_)
        refine m_ss (ss_set 4 sc_gone_through.nd (ed_var 9)) ?_
        refine m_nil fun σ5 G5 H5 S5 k5 => ?_
        refine m_nil (fun σ6 G6 H6 S6 k6 => ?_) σ5 G5 H5 S5 k5
        refine m_nil (fun σ7 G7 H7 S7 k7 => ?_) σ6 G6 H6 S6 k6
        rw [eg] at e2 G2
        exact hn1 _ ⟨e2.symm, G2⟩ σ7 G7 H7 S7 ((((k7.forget 6).forget 7).forget 8).forget 9)
    · have hk := of_decide_eq_false hk
      have eg : goStep h last g n = g := by
        unfold goStep
        rw [if_neg hk]
      refine m_nil fun σ6 G6 H6 S6 k6 => ?_
      refine m_nil (fun σ7 G7 H7 S7 k7 => ?_) σ6 G6 H6 S6 k6
      rw [eg] at e2 G2
      exact hn1 _ ⟨e2.symm, G2⟩ σ7 G7 H7 S7 (((k7.forget 6).forget 7).forget 8)
  · rintro g ⟨e, G⟩
    rw [List.length_map, List.take_length] at e
    rw [show goneF h sea ns held last = g from e.symm] at hD
    exact m_ret (em_tup3 (ed_ixT (ed_var 4) ed_int (by rfl)) (ed_ixT (ed_var 4) ed_int (by rfl)) (em_sortedH (i := 0) (ds := g.2.map PyData.int) hu rfl (by rfl) T.z_sorted (can_ints g.2) (fun d hd => by
      obtain ⟨x, _, rfl⟩ := List.mem_map.mp hd
      simp [PyData.depth]) (ed_var 5))) fun v G H ⟨S, r⟩ => hD v G H S.none r
end
end Lk

/-! Enum: enumerate(a tuple). -/
namespace Lk
open PySem PySem.Spec PyProof.Rows L2
open PySem.AutoSeq1 (wpAny_loadPart')
set_option maxHeartbeats 1000000 in
theorem meets_enum_tup (l : Addr) (items : Array Value) (n : Nat) (dct : Option Addr) (sl : Array (Option Value)) :
    Meets (Builtin.«enumerate.__new__» ⟨[.type "enumerate", .ref l], []⟩) (fun _ R s => s.heap.get? l = some { cls := .type "tuple", dict := dct, data := .seq items n, slots := sl } ∧
      R (.ok (.ret (.ref (s.heap.push { cls := .type "tuple_iterator", data := .fields #[.ref l, .int 0 0] }).objs.size)))
        { s with heap := (s.heap.push { cls := .type "tuple_iterator", data := .fields #[.ref l, .int 0 0] }).push { cls := .type "enumerate", data := .fields #[.none, .bool false, .ref s.heap.objs.size, rawInt 0, .none, .none] } }) :=
  .of_wp fun prog w A R s h => by
    obtain ⟨hp, g, d, tk, os⟩ := s
    obtain ⟨hl, h⟩ := h
    have hsub := sub_enumerate
    have hL : Heap.IsTuple (Shared.heap ⟨hp, g, d, tk, os⟩) l items := ⟨_, hl, rfl, n, rfl⟩
    wp_walk using wpAny_loadPart' hl
    refine wpAny_stack_any fun st => wpAny_pure ?_
    split
    · rename_i c _ _ _ _ _
      cases (c == Value.type "enumerate")
      · wp_walk using wpAny_loadPart' hl, wpAny_pyIter_tuple hL
        exact ⟨_, rfl, h⟩
      · wp_walk using wpAny_loadPart' hl, wpAny_pyIter_tuple hL
        exact ⟨_, rfl, h⟩
    · wp_walk using wpAny_loadPart' hl, wpAny_pyIter_tuple hL
      exact ⟨_, rfl, h⟩
theorem call_enum_tup {prog : Program} {w : World} {A : Around} {E : Value → Shared → Prop} {s : Shared} {l : Addr} {items : Array Value} {Q : Value → Shared → Prop} (hL : s.heap.IsTuple l items)
    (h : ∀ h', IsEnum h' (s.heap.objs.size + 1) s.heap.objs.size 0 .none → h'.IsTupleIter s.heap.objs.size l 0 → h'.objs.size = s.heap.objs.size + 2 → (∀ b o, s.heap.get? b = some o → h'.get? b = some o) → Q (.ref (s.heap.objs.size + 1)) { s with heap := h' }) :
    wpAny (model prog w) A (call (.type "enumerate") [.ref l]) Q E s := by
  obtain ⟨⟨c, dct, dt, sl⟩, hl, hc, n, hd⟩ := hL
  replace hc : c = .type "tuple" := hc
  replace hd : dt = .seq items n := hd
  subst hc
  subst hd
  refine callType_new F.called_enumerate (by decide) (F.typeCall_enumerate_1 _) (F.newCall_enumerate_1 _) (fun obj => F.args_object_init_2 obj _) F.entry_enumerate_new (meets_enum_tup l items n dct sl) ⟨hl, ?_⟩
  have hz : (s.heap.push { cls := .type "tuple_iterator", data := .fields #[.ref l, .int 0 0] }).objs.size = s.heap.objs.size + 1 := Heap.size_push ..
  show _ ∧ _
  rw [hz]
  have he : IsEnum ((s.heap.push { cls := .type "tuple_iterator", data := .fields #[.ref l, .int 0 0] }).push { cls := .type "enumerate", data := .fields #[.none, .bool false, .ref s.heap.objs.size, rawInt 0, .none, .none] }) (s.heap.objs.size + 1) s.heap.objs.size 0 .none := by
    have := Heap.get?_push_size (s.heap.push { cls := .type "tuple_iterator", data := .fields #[.ref l, .int 0 0] }) (o := { cls := .type "enumerate", data := .fields #[.none, .bool false, .ref s.heap.objs.size, rawInt 0, .none, .none] }) rfl
    rw [hz] at this
    exact this
  refine ⟨⟨_, he, rfl⟩, h _ he ⟨_, Heap.get?_push_of_some _ (Heap.get?_push_size _ rfl), rfl, rfl⟩ (by rw [Heap.size_push, hz]) fun b o x => Heap.get?_push_of_some _ (Heap.get?_push_of_some _ x)⟩
/-- the tuple at a, each item in a new pair -/
def IteT (a : Addr) : It :=
  ⟨fun i H => ∃ (xs : List V) (x : V), H a = some (.tup xs) ∧ xs[i]? = some x, fun i H v H' => ∃ T x, v = .ref T ∧ H T = none ∧ H' = upd H T (.tup [.int (i : Nat), x]) ∧ ∀ xs, H a = some (.tup xs) → xs[i]? = some x, fun i H => ∃ xs : List V, H a = some (.tup xs) ∧ xs.length = i⟩
theorem turn_enumT {P : Program} {w : World} {K : PySem.W.Frag} {elts : List Expr} {kk : Nat} {tpos : Pos} (a e it : Addr) :
    Turn P w K (.Tuple elts kk tpos) (IteT a) [e, it] e (fun i h => (∃ old, IsEnum h e it ((i : Nat) : Int) old) ∧ h.IsTupleIter it a i ∧ e ≠ it) where
  mem := by simp
  obj := fun i h st b hb => by
    obtain ⟨⟨old, he⟩, ⟨o, ho, hc, hd⟩, _⟩ := st
    have e' : b = e ∨ b = it := by simpa using hb
    rcases e' with z | z
    · rw [z]; exact ⟨_, he, fun v q => nomatch q⟩
    · rw [z]; exact ⟨o, ho, fun v q => by rw [hd] at q; cases q⟩
  keep := fun i h h' st k => let ⟨⟨old, he⟩, hi, hne⟩ := st; ⟨⟨old, k e (by simp) _ he⟩, hi.at fun o q => k it (by simp) o q, hne⟩
  item := by
    intro X hP hw hK hc i pins s σ H E I hf st hg
    subst hP hw hK
    obtain ⟨⟨old, he⟩, hit, hne⟩ := st
    obtain ⟨xs, x, hq, hx⟩ := hg
    obtain ⟨its, rv, p, hz⟩ := I.tuple (SqT.of hq)
    obtain ⟨u, hu, ru⟩ := rv.get hx
    have hel : e < s.heap.objs.size := Heap.lt_size he
    have hil : it < s.heap.objs.size := by obtain ⟨_, q, _⟩ := hit; exact Heap.lt_size q
    obtain ⟨o1, p1, p2, _⟩ := id p
    obtain ⟨o2, p3, p4, _⟩ := id hit
    have hae : a ≠ e := by
      rintro rfl
      have he' : s.heap.get? a = some _ := he
      rw [p1] at he'
      rw [Option.some.inj he'] at p2
      exact absurd p2 (by simp)
    have hai : a ≠ it := by
      rintro rfl
      rw [p1] at p3
      rw [← Option.some.inj p3, p2] at p4
      exact absurd p4 (by simp)
    have hsz : i < its.toArray.size := by
      have := (List.getElem?_eq_some_iff.mp hu).1
      rw [List.size_toArray]
      exact this
    refine wpAny_pyNext_enum_itemD (Draws.tuple (by show X.A.in1.handled = none; exact I.ok.hd hc) it a hai its.toArray) he ⟨hit, p⟩ hsz hne (by simp only [List.mem_cons, List.not_mem_nil, or_false, not_or]; exact ⟨hne, hae.symm⟩) fun y h' tk hy ho hst' hT hsz hk => ?_
    obtain ⟨hit', ht'⟩ := hst'
    have ey : y = u := by
      rw [show its.toArray[i]? = its[i]? by simp, hu] at hy
      exact (Option.some.inj hy).symm
    subst ey
    refine ⟨_, rfl, wpAny_letOwnedTupleGo_enum (s := { s with heap := h', toks := tk + 1 }) ho fun h'' he' sb => ?_⟩
    have hT2 : h''.get? s.heap.objs.size = some { cls := .type "tuple", data := .seq #[.int i tk, y] } := (sb.2 _ (Nat.ne_of_gt hel)).trans hT
    have new : ObjOk X.prog X.w (upd H s.heap.objs.size (.tup [.int (i : Nat), x])) h'' s.heap.objs.size (.tup [.int (i : Nat), x]) :=
      ⟨by show 2 ≤ sizeLine; decide, [.int i tk, y], .cons ⟨_, rfl⟩ (.cons ru .nil), ⟨_, hT2, rfl, _, rfl⟩⟩
    have I1 : Inv X pins σ (upd H s.heap.objs.size (.tup [.int (i : Nat), x])) { s with heap := h'', toks := tk + 1 } :=
      I.turnedNew (ch := [e, it]) (fun b ob hb q => (sb.2 b (fun z => hb (by simp [z]))).trans (hk b ob (fun z => hb (by simp [z])) (fun z => hb (by simp [z])) q)) hf (Nat.le_refl _) new
    refine ⟨.ref s.heap.objs.size, _, I1, rfl, ⟨_, x, rfl, I.hok.fresh (Nat.le_refl _), rfl, fun ys hy => ?_⟩, ⟨⟨y, ?_⟩, hit'.at fun o q => (sb.2 it (Ne.symm hne)).trans q, hne⟩, fun b hb => ?_⟩
    · rw [hq] at hy
      cases hy
      exact hx
    · have e1 : ((i + 1 : Nat) : Int) = (i : Int) + 1 := by omega
      rw [e1]
      exact he'
    · have hb' : b < s.heap.objs.size := by
        have e' : b = e ∨ b = it := by simpa using hb
        rcases e' with z | z
        · rw [z]; exact hel
        · rw [z]; exact hil
      rw [upd_ne (Nat.ne_of_lt hb')]
      exact (hf b hb).1
  done := by
    intro X hP hw hK hc i pins s σ H E I hf st hg
    subst hP hw hK
    obtain ⟨⟨old, he⟩, hit, hne⟩ := st
    obtain ⟨xs, hq, hx⟩ := hg
    obtain ⟨its, rv, p, hz⟩ := I.tuple (SqT.of hq)
    obtain ⟨f0, f1, f2, f3, f4, f5⟩ := hf it (by simp)
    have hl := rv.length
    obtain ⟨o1, p1, p2, _⟩ := id p
    obtain ⟨o2, p3, p4, _⟩ := id hit
    have hai : a ≠ it := by
      rintro rfl
      rw [p1] at p3
      rw [← Option.some.inj p3, p2] at p4
      exact absurd p4 (by simp)
    have hn : i = its.toArray.size := by
      rw [List.size_toArray, ← hl]
      exact hx.symm
    refine wpAny_pyNext_enum_endD (Draws.tuple (by show X.A.in1.handled = none; exact I.ok.hd hc) it a hai its.toArray) he ⟨hn ▸ hit, p⟩ fun h' eb => ⟨rfl, I.turned (t' := s.toks) (fun b o hb q => eb b o hb q) f0 f1 f3 f4 f5⟩
  self := fun A i s Q E st h => let ⟨⟨_, he⟩, _⟩ := st; wpAny_pyIter_enum he h
def iEnumT (ta : TA) : TI := fun σ H R => ta σ H fun vs H1 => ∃ a xs, vs = [.ref a] ∧ H1 a = some (.tup xs) ∧ R (IteT a) H1
theorem pi_enumT {X : Cx} {e : Expr} {ta : TA} {p pos tpos : Pos} {elts : List Expr} {kk : Nat} (hg : Gl X "enumerate") (hm : X.mg "enumerate" = none) (ha : PA X [e] ta) (hs : starEach [e] X.env = [(false, eval e X.env)] := by rfl) :
    PI X (.Tuple elts kk tpos) (.Call (.Name "enumerate" p) [e] [] pos) (iEnumT ta) := by
  refine ⟨fun pins s σ H R I h => ?_⟩
  refine Call_ (ld_blt I hg hm boot_enumerate (PyProof.Rows.callWith_type1 (thn (ha.run pos pins s σ H _ I h) fun us s1 ⟨vs, H1, I1, r1, q1⟩ => ?_) hs rfl))
  obtain ⟨a, xs, ex, hq, q⟩ := q1
  subst ex
  cases r1 with
  | cons r rr =>
    cases rr
    cases r
    obtain ⟨its, rv, p', hz⟩ := I1.tuple (SqT.of hq)
    refine call_enum_tup p' fun h' he hit hsz hk => wpAny_pyIter_enum he ?_
    have I2 : Inv X pins σ H1 { s1 with heap := h' } := I1.kept (t' := s1.toks) hk
    refine ⟨s1.heap.objs.size + 1, [s1.heap.objs.size + 1, s1.heap.objs.size], _, _, H1, rfl, I2, turn_enumT a (s1.heap.objs.size + 1) s1.heap.objs.size, ⟨⟨.none, he⟩, hit, Nat.succ_ne_self _⟩, fun b hb => ?_, q⟩
    have e' : b = s1.heap.objs.size + 1 ∨ b = s1.heap.objs.size := by simpa using hb
    have hle : s1.heap.objs.size ≤ b := by
      rcases e' with z | z
      · rw [z]; exact Nat.le_add_right _ _
      · rw [z]; exact Nat.le_refl _
    exact I1.fpOk hle (I1.hok.fresh hle)
section
variable {X : Cx} {B : List Addr} {ρ : Rho} {e : Expr} {p pos tpos : Pos} {elts : List Expr} {kk : Nat} {α : Type} {xs : List α} {Pi : α → Pr}
theorem wkd_enum {G : Hp} {t : Addr} {us : List V} (h : G t = some (.tup us)) (r : AllP (xs.map Pi) us G) : WkD B (IteT t) (xs.zipIdx.map fun q => tP X.K [dP X.K (.int q.2), Pi q.1]) G where
  goes := fun i H e hi => ⟨us, us[i]'(by rw [← r.len, List.length_map]; rw [List.length_map, List.length_zipIdx] at hi; exact hi), (e _ _ h), by simp⟩
  stops := fun H e => ⟨us, e _ _ h, by rw [← r.len, List.length_map, List.length_map, List.length_zipIdx]⟩
  yields := fun i H x H' P e hP y => by
    obtain ⟨T, u, rfl, hT, rfl, hx⟩ := y
    refine ⟨snew hT, ?_⟩
    rw [xext_new e hT]
    obtain ⟨P', h1, h2⟩ := r.get' (hx us (e _ _ h))
    have hT' : G T = none := snone e hT
    rw [List.getElem?_map] at h1 hP
    cases hz : xs[i]? with
    | none => rw [hz] at h1; cases h1
    | some z =>
      rw [hz] at h1
      cases h1
      have hi : xs.zipIdx[i]? = some (z, i) := by
        rw [List.getElem?_zipIdx, hz]
        simp
      rw [hi] at hP
      cases hP
      exact ⟨T, _, rfl, upd_same, .cons (.int _) (.cons ((Pi z).up (snew hT') h2) .nil)⟩
theorem es_enumT (hg : Gl X "enumerate") (hm : X.mg "enumerate" = none) (h : Ed X B ρ e (tP X.K (xs.map Pi))) (hs : starEach [e] X.env = [(false, eval e X.env)] := by rfl) :
    Es X B ρ (.Tuple elts kk tpos) (.Call (.Name "enumerate" p) [e] [] pos) (xs.zipIdx.map fun q => tP X.K [dP X.K (.int q.2), Pi q.1]) :=
  ⟨_, pi_enumT hg hm wa_pa hs, fun σ G H eg k R z => ea_cons h ea_nil hs σ G H eg k _ fun vs H2 s r => by
    obtain ⟨v, rfl, t, us, rfl, h2, h3⟩ := allp1 r
    exact ⟨t, us, rfl, (ext_same eg s).1 _ _ h2, z _ H2 s (wkd_enum h2 h3)⟩⟩
end
end Lk

/-! W7: void, mark_at. -/
namespace Lk
open PySem PySem.Spec PyProof.Rows L2 PySem.W
def placeD (h : Nat) (st : State) (mark day : Int) : PyData :=
  match getM st.2 mark with
  | none => .tuple [.str "ashore"]
  | some x => if x.adrift = true then .tuple [.str "adrift", .tuple (drifted st.1 h x.c (day - x.rest))] else .tuple [.str "at", cD x.c]
structure AskOk (sea : Sea) (h : Nat) (ns : List Notice) (held : Int) : Prop where
  S : SeaOk sea h
  N : NoticesOk sea h ns
  h0 : 0 ≤ held
  h1 : held ≤ 99
theorem gone_ok {sea : Sea} {h : Nat} {ns : List Notice} {held last : Int} (S : SeaOk sea h) (N : NoticesOk sea h ns) : GoOk h sea 30 (goneF h sea ns held last) := by
  have := GoOk.all (last := last) S (heldN ns held) (.init S) fun n hn => (N.ok n (mem_held hn)).deed
  have hl := len_held ns held
  have hn := N.len
  refine ⟨⟨this.st.sea, Nat.le_trans this.st.len (by omega), this.st.mks⟩, this.len, Nat.le_trans this.vs (by omega)⟩
section
variable {P : Program} {w : World} {K : PySem.W.Frag} {mg : Str → Option Value} {base : Heap}
theorem c_void (T : TX K mg) (DK : DeedsOk K w mg) : Cal P w K mg base 8 "void" ["sea", "notices", "held"] (spP (α := Sea × Nat × List Notice × Int) (fun z => AskOk z.1 z.2.1 z.2.2.1 z.2.2.2) (fun z => [dP K (seaD z.1), dP K (.list (z.2.2.1.map noticeD)), dP K (.int z.2.2.2)])
    fun z => dP K (.list (voidsD (goneF z.2.1 z.1 z.2.2.1 z.2.2.2 400).2))) := by
  obtain ⟨f, fd, hm, F⟩ := T.f_void
  have c1 := c_need_notices (P := P) (w := w) (base := base) T
  have c2 := c_need_held (P := P) (w := w) (base := base) T
  have c3 := c_gone_through (P := P) (w := w) (base := base) T DK
  refine cal_mk F sc_void hm (F.bindsN fun _ _ _ _ _ _ us hl => match us, hl with | [_, _, _], _ => rfl) (fun _ => rfl) fun cdv A outer s H E hr z hz => Sr.b ?_
  obtain ⟨sea, h, ns, held⟩ := z
  obtain ⟨S, N, h0, h1⟩ := hz
  dsimp only at S N h0 h1
  refine sr_seq (ss_expr (ed_call c1 hr (by decide) (sea, h, ns) ⟨S, N⟩ (by rfl) (ea_cons (ed_var 0) (ea_cons (ed_var 1) ea_nil)))) ?_
  refine sr_seq (ss_expr (ed_call c2 hr (by decide) held ⟨h0, h1⟩ (by rfl) (ea_cons (ed_var 2) ea_nil))) ?_
  exact sr_ret (ed_ixT (ed_call c3 hr (by decide) (sea, h, ns, held, 400) ⟨S, N⟩ (by rfl) (ea_cons (ed_var 0) (ea_cons (ed_var 1) (ea_cons (ed_var 2) (ea_cons (ed_gint (by rfl) T.i_LAST_DAY) ea_nil))))) ed_int (by rfl))
theorem c_need_known (T : TX K mg) : Cal P w K mg base 8 "need_known" ["sea", "notices", "held", "day"] (spP (α := Sea × Nat × List Notice × Int × Int) (fun z => AskOk z.1 z.2.1 z.2.2.1 z.2.2.2.1 ∧ 0 ≤ z.2.2.2.2 ∧ z.2.2.2.2 ≤ 400) (fun z => [dP K (seaD z.1), dP K (.list (z.2.2.1.map noticeD)), dP K (.int z.2.2.2.1), dP K (.int z.2.2.2.2)])
    fun z => dP K .none) := by
  obtain ⟨f, fd, hm, F⟩ := T.f_need_known
  have c1 := c_need_notices (P := P) (w := w) (base := base) T
  have c2 := c_need_held (P := P) (w := w) (base := base) T
  have c3 := c_need_day (P := P) (w := w) (base := base) T
  refine cal_mk F sc_need_known hm (F.bindsN fun _ _ _ _ _ _ us hl => match us, hl with | [_, _, _, _], _ => rfl) (fun _ => rfl) fun cdv A outer s H E hr z hz => ?_
  obtain ⟨sea, h, ns, held, day⟩ := z
  obtain ⟨⟨S, N, h0, h1⟩, d0, d1⟩ := hz
  dsimp only at S N h0 h1 d0 d1
  exact Sn.b (sn_seq (ss_expr (ed_call c1 hr (by decide) (sea, h, ns) ⟨S, N⟩ (by rfl) (ea_cons (ed_var 0) (ea_cons (ed_var 1) ea_nil))))
    (sn_seq (ss_expr (ed_call c2 hr (by decide) held ⟨h0, h1⟩ (by rfl) (ea_cons (ed_var 2) ea_nil)))
    (sn_seq (ss_expr (ed_call c3 hr (by decide) day ⟨d0, d1⟩ (by rfl) (ea_cons (ed_var 3) ea_nil))) sn_nil)))
theorem c_place_of (T : TX K mg) : Cal P w K mg base 6 "place_of" ["known", "mark", "day"] (spP (α := Nat × (State × List Int) × Int × Int) (fun z => StOk z.1 z.2.1.1 30) (fun z => [knP K z.2.1, dP K (.int z.2.2.1), dP K (.int z.2.2.2)])
    fun z => dP K (placeD z.1 z.2.1.1 z.2.2.1 z.2.2.2)) := by
  obtain ⟨f, fd, hm, F⟩ := T.f_place_of
  have c1 := c_cells_of (P := P) (w := w) (base := base) T
  refine cal_mk F sc_place_of hm (F.bindsN fun _ _ _ _ _ _ us hl => match us, hl with | [_, _, _], _ => rfl) (fun _ => rfl) fun cdv A outer s H E hr z hz => Sr.b ?_
  obtain ⟨h, ⟨⟨sea, ms⟩, vs⟩, mark, day⟩ := z
  have hu := hr.units
  have hu1 : (A.deeper (envOfC (Str.ofString "place_of") (defScope s_place_of) s.heap.objs.size f cdv)).units + 1 < cLine := by omega
  have S : StOk h (sea, ms) 30 := hz
  refine sr_seq (ss_asg (ed_var 0) (tg_tup rfl (tgs_cons (tg_name 3 sc_place_of.nd) (tgs_cons (tg_name 4 sc_place_of.nd) (tgs_cons (tg_name 5 sc_place_of.nd) tgs_nil))))) ?_
  cases hx : getM ms mark with
  | none =>
    refine sr_if (k := true) (et_to ?_ (et_notinK (g := markD) hu1 (ed_var 1) (ed_var 4))) (fun _ => sr_ret (ed_d ?_ (ed_tupd (ds := [.str "ashore"]) (ea_cons ed_str ea_nil) (by show 1 ≤ 100000; decide)))) (fun z => Bool.noConfusion z)
    · rw [hx]
      rfl
    · simp only [placeD, hx]
  | some x =>
    obtain ⟨r, hr1, _, hr2⟩ := getM_mem hx
    have Cx : CellOk sea h x.c := by
      have := (S.mks r hr1).1
      rw [hr2] at this
      exact this
    refine sr_no (et_to ?_ (et_notinK (g := markD) hu1 (ed_var 1) (ed_var 4))) ?_
    · rw [hx]
      rfl
    refine sr_if (et_streq (i := wordD x.adrift) (ed_ixTd (ed_getK (g := markD) hu1 (ed_var 4) (ed_var 1) hx) ed_int (by rfl)) ed_str) (fun hk => sr_ret (ed_d ?_ (ed_tupd (ds := [.str "at", cD x.c]) (ea_cons ed_str (ea_cons (ed_ixTd (ed_getK (g := markD) hu1 (ed_var 4) (ed_var 1) hx) ed_int (by rfl)) ea_nil)) (by show 2 ≤ 100000; decide)))) fun hk => sr_ret (ed_d ?_ (ed_tupd (ds := [.str "adrift", .tuple (drifted sea h x.c (day - x.rest))]) (ea_cons ed_str (ea_cons (ed_call c1 hr (by decide) (sea, h, x, day) ⟨S.sea, Cx⟩ (by rfl) (ea_cons (ed_var 3) (ea_cons (ed_getK (g := markD) hu1 (ed_var 4) (ed_var 1) hx) (ea_cons (ed_var 2) ea_nil)))) ea_nil)) (by show 2 ≤ 100000; decide)))
    · rw [word_at] at hk
      simp only [placeD, hx]
      rw [if_neg (by intro e; rw [e] at hk; cases hk)]
    · rw [word_at] at hk
      simp only [placeD, hx]
      rw [if_pos (by cases h' : x.adrift with
        | true => rfl
        | false => rw [h'] at hk; cases hk)]
theorem c_mark_at (T : TX K mg) (DK : DeedsOk K w mg) : Cal P w K mg base 9 "mark_at" ["sea", "notices", "held", "day", "mark"] (spP (α := Sea × Nat × List Notice × Int × Int × Int) (fun z => AskOk z.1 z.2.1 z.2.2.1 z.2.2.2.1 ∧ (0 ≤ z.2.2.2.2.1 ∧ z.2.2.2.2.1 ≤ 400) ∧ (1 ≤ z.2.2.2.2.2 ∧ z.2.2.2.2.2 ≤ 12)) (fun z => [dP K (seaD z.1), dP K (.list (z.2.2.1.map noticeD)), dP K (.int z.2.2.2.1), dP K (.int z.2.2.2.2.1), dP K (.int z.2.2.2.2.2)])
    fun z => dP K (placeD z.2.1 (goneF z.2.1 z.1 z.2.2.1 z.2.2.2.1 z.2.2.2.2.1).1 z.2.2.2.2.2 z.2.2.2.2.1)) := by
  obtain ⟨f, fd, hm, F⟩ := T.f_mark_at
  have c1 := c_need_known (P := P) (w := w) (base := base) T
  have c2 := c_is_mark (P := P) (w := w) (base := base) T
  have c3 := c_gone_through (P := P) (w := w) (base := base) T DK
  have c4 := c_place_of (P := P) (w := w) (base := base) T
  refine cal_mk F sc_mark_at hm (F.bindsN fun _ _ _ _ _ _ us hl => match us, hl with | [_, _, _, _, _], _ => rfl) (fun _ => rfl) fun cdv A outer s H E hr z hz => Sr.b ?_
  obtain ⟨sea, h, ns, held, day, mark⟩ := z
  obtain ⟨K0, K1, K2⟩ := hz
  dsimp only at K0 K1 K2
  refine sr_seq (ss_expr (ed_call c1 hr (by decide) (sea, h, ns, held, day) ⟨K0, K1⟩ (by rfl) (ea_cons (ed_var 0) (ea_cons (ed_var 1) (ea_cons (ed_var 2) (ea_cons (ed_var 3) ea_nil)))))) ?_
  refine sr_no (et_to ?_ (et_not (et_val (k := true) (ed_call c2 hr (by decide) mark K2 (by rfl) (ea_cons (ed_var 4) ea_nil))))) ?_
  · rfl
  exact sr_ret (ed_call c4 hr (by decide) (h, goneF h sea ns held day, mark, day) (gone_ok K0.S K0.N).st (by rfl) (ea_cons (ed_call c3 hr (by decide) (sea, h, ns, held, day) ⟨K0.S, K0.N⟩ (by rfl) (ea_cons (ed_var 0) (ea_cons (ed_var 1) (ea_cons (ed_var 2) (ea_cons (ed_var 3) ea_nil))))) (ea_cons (ed_var 4) (ea_cons (ed_var 3) ea_nil))))
end
end Lk

/-! Da12: sorted(a dict whose keys are whole numbers); three names at once; a block in a block. -/
namespace Lk
open PySem PySem.Spec PyProof.Rows L2
def intSort (ks : List Int) : List Int := ks.mergeSort fun a b => decide (a ≤ b)
theorem intSort_pw (ks : List Int) : (intSort ks).Pairwise (· ≤ ·) := by
  have := List.pairwise_mergeSort (le := fun a b : Int => decide (a ≤ b)) (fun a b c h1 h2 => by simp only [decide_eq_true_eq] at h1 h2 ⊢; omega) (fun a b => by simp only [Bool.or_eq_true, decide_eq_true_eq]; omega) ks
  exact this.imp fun h => by simpa using h
theorem intSort_of {ks ys : List Int} (hp : ys.Perm ks) (hs : ys.Pairwise (· ≤ ·)) : ys = intSort ks :=
  perm_sorted (f := fun a => a) (hp.trans (List.mergeSort_perm _ _).symm) hs (intSort_pw ks) fun _ _ _ _ e => e
section
variable {X : Cx} {B : List Addr} {ρ : Rho} {e : Expr} {p pos : Pos} {β : Type} {g : β → PyData} {ms : List (Int × β)}
theorem ed_sortedK (hc : X.calm = true) (hg : Gl X "sorted") (hm : X.mg "sorted" = none) (hl : ms.length < 64) (ha : Ed X B ρ e (mkP g ms)) (hs : starEach [e] X.env = (false, eval e X.env) :: starEach [] X.env := by rfl) : Ed X B ρ (.Call (.Name "sorted" p) [e] [] pos) (dP X.K (.list ((intSort (ms.map (·.1))).map .int))) :=
  ed_callB (call_sortedDI hc) hg hm (by decide +kernel) (ea_cons ha ea_nil hs) (fun vs G H eg r1 Q z => by
    obtain ⟨v, rfl, d, od, kvs, rfl, h2, h3⟩ := allp1 r1
    have hk : ∀ {ms : List (Int × β)} {kvs : List (L2.Key × V)}, AllK g ms kvs G → kvs.map (·.1) = (ms.map (·.1)).map Sum.inl := by
      intro ms kvs h
      induction h with
      | nil => rfl
      | cons r _ ih => rw [List.map_cons, List.map_cons, List.map_cons, ih, r.1]
    refine ⟨d, kvs, ms.map (·.1), rfl, .inr ⟨od, eg.1 _ _ h2⟩, hk h3, by rw [List.length_map]; exact hl, fun ys q hp hs hq => z _ _ (stp_new hq) ?_⟩
    rw [ext_new eg hq, intSort_of hp hs]
    refine Dh.lst upd_same ?_
    generalize upd G q _ = G2
    generalize intSort (ms.map (·.1)) = zs
    induction zs with
    | nil => exact .nil
    | cons y zs ih => exact .cons (.int y) ih) (by decide) (by decide) hs
end
section
variable {X : Cx} {φ : Fx} {ρ : Rho} {hs : Hs} {rest : List Stmt} {D : Ends} {P P2 : Pr} {FL : List V → Hp → Hp → Prop} {pos : Pos}
theorem m_par3E (i j l : Nat) {x y u : Str} {ea eb ec : Expr} {k1 k2 : Nat} {p1 p2 p3 p4 p5 : Pos} (h : ∀ D : Ends, PS X (.Assign [.Tuple [.Name x p1, .Name y p2, .Name u p5] k1 p3] (.Tuple [ea, eb, ec] k2 p4) pos) (tPar3 i j l (WA X [ea, eb, ec]))) (ha : Eam X φ ρ hs [ea, eb, ec] FL) (hF : ∀ vs G H, FL vs G H → ∃ v w u, vs = [v, w, u])
    (h' : ∀ v w u σ G H, FL [v, w, u] G H → Kn σ G ρ → WB X rest D (((σ.set i (some v)).set j (some w)).set l (some u)) H) : M X φ ρ hs (.Assign [.Tuple [.Name x p1, .Name y p2, .Name u p5] k1 p3] (.Tuple [ea, eb, ec] k2 p4) pos :: rest) D := fun σ G H S kn =>
  ps_wb (pss_cons (h D) wb_ps) (ha σ G H S kn _ fun vs G2 H2 s f => by
    obtain ⟨v, w, u, rfl⟩ := hF vs G2 H2 f
    exact ⟨v, w, u, rfl, h' v w u σ G2 H2 f (kn.up s)⟩)
theorem eam_new2 {e1 e2 eb : Expr} {q : HP} (ha : Ed X φ.B ρ e1 P) (ha2 : Ed X φ.B ρ e2 P2) (hb : Em X φ ρ hs eb (fun v G H => ∃ p, v = .ref p ∧ Stt φ ((p, q) :: hs) G H)) (hs0 : starEach [e1, e2, eb] X.env = (false, eval e1 X.env) :: starEach [e2, eb] X.env := by rfl) (hs1 : starEach [e2, eb] X.env = (false, eval e2 X.env) :: starEach [eb] X.env := by rfl) (hs2 : starEach [eb] X.env = (false, eval eb X.env) :: starEach [] X.env := by rfl) :
    Eam X φ ρ hs [e1, e2, eb] (fun vs G H => ∃ v v2 p, vs = [v, v2, .ref p] ∧ P.p v G ∧ P2.p v2 G ∧ Stt φ ((p, q) :: hs) G H) := fun σ G H S kn Q z =>
  pa_wa (pa_cons we_pe (pa_cons we_pe (pa_cons we_pe pa_nil hs2) hs1) hs0) (ha σ G H S.ok kn _ fun v H1 s1 r1 => by
    have S1 := S.ev s1
    have k1 := kn.up (ext_up S.ok (H2 := H1))
    refine ha2 σ _ H1 S1.ok k1 _ fun v2 H2 s2 r2 => ?_
    have S2 := S1.ev s2
    have k2 := k1.up (ext_up S1.ok (H2 := H2))
    refine hb σ _ H2 S2 k2 _ fun w G3 H3 s3 f => ?_
    obtain ⟨p, rfl, S3⟩ := f
    exact z _ _ _ (((ext_up S.ok).trans (ext_up S1.ok)).trans s3) ⟨v, v2, p, rfl, P.up ((ext_up S1.ok).trans s3) r1, P2.up s3 r2, S3⟩)
end
section
variable {X : Cx} {φ : Fx} {ρ : Rho} {hs : Hs} {rest : List Stmt} {D : Ends} {P P2 : Pr} {pos : Pos}
theorem em_tupNew {x1 : Nat} {e1 e2 eb : Expr} {q : HP} (ha : Ed X φ.B ρ e1 P) (ha2 : Ed X φ.B ρ e2 P2) (hb : Em X φ ρ hs eb (fun v G H => ∃ p, v = .ref p ∧ Stt φ ((p, q) :: hs) G H)) (hs0 : starEach [e1, e2, eb] X.env = (false, eval e1 X.env) :: starEach [e2, eb] X.env := by rfl) (hs1 : starEach [e2, eb] X.env = (false, eval e2 X.env) :: starEach [eb] X.env := by rfl) (hs2 : starEach [eb] X.env = (false, eval eb X.env) :: starEach [] X.env := by rfl) :
    Em X φ ρ hs (.Tuple [e1, e2, eb] x1 pos) (fun v G H => ∃ p, (tP X.K [P, P2, eP (.ref p)]).p v G ∧ Stt φ ((p, q) :: hs) G H) := fun σ G H S kn Q z =>
  pe_we (pe_tup wa_pa) (eam_new2 ha ha2 hb hs0 hs1 hs2 σ G H S kn _ fun vs G2 H2 s f => by
    obtain ⟨v, v2, d, rfl, r1, r2, S2⟩ := f
    refine ⟨small (by show 3 ≤ 100000; decide), fun p hp => ?_⟩
    have n := snew (o := HO.tup [v, v2, .ref d]) (snone S2.ok.1 hp)
    exact z _ _ _ (s.trans n) ⟨d, ⟨p, [v, v2, .ref d], rfl, upd_same, .cons (P.up n r1) (.cons (P2.up n r2) (.cons rfl .nil))⟩, S2.newG hp⟩)
theorem m_asgN {tg e : Expr} {is : List Nat} {q : HP} {PP : Addr → Pr} {ρ' : Addr → Rho} (he : Em X φ ρ hs e (fun v G H => ∃ p, (PP p).p v G ∧ Stt φ ((p, q) :: hs) G H)) (hg : ∀ p, Tg X ρ tg (PP p) is (ρ' p)) (h : ∀ p, M X φ (ρ' p) ((p, q) :: hs) rest D)
    (hs' : swapsWithSole [tg] e pos.line X.env = pure false := by rfl) (hw : swappedStores [tg] e X.env = pure none := by rfl) (h1 : (assignEach [tg] X.env).map (·.2) = [assign tg X.env] := by rfl) : M X φ ρ hs (.Assign [tg] e pos :: rest) D := fun σ G H S kn =>
  ps_wb (pss_cons (ps_asg we_pe wg_pg hs' hw h1) wb_ps) (he σ G H S kn _ fun v G2 H2 s f => by
    obtain ⟨p, r, S2⟩ := f
    exact hg p v σ G2 H2 S2.ok.1 (kn.up s) r _ fun σ' _ k' => h p σ' G2 H2 S2 k')
end
theorem Kn.same {σ : L2.St} {G : Hp} {ρ : Rho} (k : Kn σ G ρ) (i : Nat) {x : V} {P : Pr} (hρ : ρ[i]? = some (some (eP x))) (r : P.p x G) : Kn σ G (ρ.set i (some P)) := by
  obtain ⟨v, hv, rv⟩ := k.2 i _ hρ
  have rv : v = x := rv
  subst rv
  have := k.set (P := P) i (v := v) r
  have e3 : σ.set i (some v) = σ := by
    apply List.ext_getElem?
    intro j
    by_cases hij : i = j
    · subst hij
      rw [List.getElem?_set_self (List.getElem?_eq_some_iff.mp hv).1, hv]
    · rw [List.getElem?_set_ne hij]
  rw [e3] at this
  exact this
/-- a hidden list, from now on seen -/
theorem m_showL {X : Cx} {φ : Fx} {ρ : Rho} {hs : Hs} {rest : List Stmt} {D : Ends} {Ps : List Pr} {d : Addr} (i : Nat) (hρ : ρ[i]? = some (some (eP (.ref d)))) (h : M X φ (ρ.set i (some (lP X.K Ps))) hs rest D) : M X φ ρ ((d, lHP Ps) :: hs) rest D := fun σ G H S k => by
  obtain ⟨o, ⟨xs, rfl, r⟩, e, S2⟩ := S.show rfl
  exact h σ _ _ S2 ((k.up e).same i hρ ⟨d, xs, rfl, upd_same, r.up e⟩)
def relS (sc esc : Scope) : Scope := { sc with names := sc.names.map fun (n, k) => if (k == .free && esc.kind == .function && esc.names.lookup n == some .cell) then (n, .cell) else (n, k) }
theorem blkOk_in {N : List Str} {sc scope : Scope} {own : List (Str × Nat)} {cl : List (Str × Addr)} {C : Addr} {env : Env} (esc : Scope) (e : env.scope = esc) (h : blkC N (relS sc esc) scope own = true) : BlkOk N (compEnvC sc cl C env).scope scope own := by
  subst e
  exact blkOk_by h
end Lk

/-! W8: the channel. -/
namespace Lk
open PySem PySem.Spec PyProof.Rows L2 PySem.W
def xAt (ms : Marks) (m : Int) : Mark := (getM ms m).getD ⟨true, (0, 0), 0, 0, false, 0⟩
def standD (p : Int × Mark) : PyData := .tuple [.int p.1, cD p.2.c, lookD p.2]
def standF (ms : Marks) : List (Int × Mark) := ((intSort (ms.map (·.1))).filter fun m => !(xAt ms m).adrift).map fun m => (m, xAt ms m)
def countF (ms : Marks) (night : Bool) : List (Int × Mark) := (standF ms).filter fun p => p.2.lit || !night
def wrongF (p : Int × Mark) (c : Cell) : Bool := if c.1 ≠ p.2.c.1 then false else if p.2.sh = 0 then decide (c.2 ≤ p.2.c.2) else if p.2.sh = 1 then decide (p.2.c.2 ≤ c.2) else decide (c.2 = p.2.c.2)
def rowsOf (col : List Int) (draught : Int) : List Int := (col.zipIdx.filter fun q => decide (draught ≤ q.1)).map fun q => (q.2 : Int)
def openCol (some : List (Int × Mark)) (draught : Int) (q : List Int × Nat) : PyData := .tuple (((rowsOf q.1 draught).filter fun r => !some.any fun p => wrongF p ((q.2 : Int), r)).map .int)
def openD (sea : Sea) (ms : Marks) (draught : Int) (night : Bool) : List PyData := sea.zipIdx.map (openCol (countF ms night) draught)
theorem xAt_mem {ms : Marks} {m : Int} (h : m ∈ intSort (ms.map (·.1))) : ∃ x, getM ms m = some x ∧ xAt ms m = x := by
  have h := (List.mergeSort_perm _ _).mem_iff.mp h
  obtain ⟨p, hp, rfl⟩ := List.mem_map.mp h
  obtain ⟨x, hx⟩ := getM_some hp
  exact ⟨x, hx, by unfold xAt; rw [hx]; rfl⟩
theorem stand_ok {st : State} {h n : Nat} (S : StOk h st n) {p : Int × Mark} (hp : p ∈ standF st.2) : CellOk st.1 h p.2.c ∧ 0 ≤ p.2.sh ∧ p.2.sh ≤ 2 := by
  obtain ⟨m, hm, rfl⟩ := List.mem_map.mp hp
  obtain ⟨x, hx, e⟩ := xAt_mem (List.mem_filter.mp hm).1
  obtain ⟨r, hr, _, e2⟩ := getM_mem hx
  have := S.mks r hr
  rw [e2, ← e] at this
  exact this
theorem len_stand (ms : Marks) : (standF ms).length ≤ ms.length := by
  unfold standF
  rw [List.length_map]
  refine Nat.le_trans (List.length_filter_le _ _) ?_
  unfold intSort
  rw [List.length_mergeSort, List.length_map]
  exact Nat.le_refl _
section
variable {P : Program} {w : World} {K : PySem.W.Frag} {mg : Str → Option Value} {base : Heap}
theorem c_standing_by (T : TX K mg) : Cal P w K mg base 1 "standing_by" ["known"] (spP (α := Nat × (State × List Int)) (fun z => StOk z.1 z.2.1 30) (fun z => [knP K z.2]) fun z => dP K (.list ((standF z.2.1.2).map standD))) := by
  obtain ⟨f, fd, hm, F⟩ := T.f_standing_by
  refine cal_mk F sc_standing_by hm (F.bindsN fun _ _ _ _ _ _ us hl => match us, hl with | [_], _ => rfl) (fun _ => rfl) fun cdv A outer s H E hr z hz => Sr.b ?_
  obtain ⟨h, ⟨⟨sea, ms⟩, vs⟩⟩ := z
  have S : StOk h (sea, ms) 30 := hz
  have hu := hr.units
  have hu1 : (A.deeper (envOfC (Str.ofString "standing_by") (defScope s_standing_by) s.heap.objs.size f cdv)).units + 1 < cLine := by omega
  have hl : ms.length ≤ 30 := S.len
  refine sr_seq (ss_set 1 sc_standing_by.nd (ed_ixT (ed_var 0) ed_int (by rfl))) ?_
  refine sr_ret (ed_d ?_ (ed_compD rfl sc_standing_by.nd [("mark", 2)] (blkOk_by (N := n_standing_by) (sc := defScope s_standing_by) (by decide +kernel)) (intSort (ms.map (·.1))) (fun m => dP K (.int m)) (fun m => !(xAt ms m).adrift) (fun m => standD (m, xAt ms m)) (es_listM (g := PyData.int) (ed_sortedK (g := markD) (ms := ms) rfl (by rfl) T.z_sorted (by omega) (ed_var 1))) ?_ fun m hm => ?_))
  · unfold standF
    rw [List.map_map]
    rfl
  · unfold intSort
    rw [List.length_mergeSort, List.length_map]
    omega
  · obtain ⟨x, hx, e⟩ := xAt_mem hm
    rw [e]
    exact ⟨[2], _, by simp, fun s H C cl fp => ⟨tg_name 2 sc_standing_by.nd, ets_one (et_to (word_at x.adrift) (et_streq (i := wordD x.adrift) (ed_ixTd (ed_getK (g := markD) (ms := ms) hu1 (ed_var 1) (ed_var 2) hx) ed_int (by rfl)) ed_str)), fun _ => ed_tupd (ds := [.int m, cD x.c, lookD x]) (ea_cons (ed_var 2) (ea_cons (ed_ixTd (ed_getK (g := markD) (ms := ms) hu1 (ed_var 1) (ed_var 2) hx) ed_int (by rfl)) (ea_cons (ed_ixTd (ed_getK (g := markD) (ms := ms) hu1 (ed_var 1) (ed_var 2) hx) ed_int (by rfl)) ea_nil))) (by show 3 ≤ 100000; decide)⟩⟩
theorem c_counting (T : TX K mg) : Cal P w K mg base 2 "counting" ["known", "night"] (spP (α := Nat × (State × List Int) × Bool) (fun z => StOk z.1 z.2.1.1 30) (fun z => [knP K z.2.1, dP K (.bool z.2.2)]) fun z => dP K (.list ((countF z.2.1.1.2 z.2.2).map standD))) := by
  obtain ⟨f, fd, hm, F⟩ := T.f_counting
  have c1 := c_standing_by (P := P) (w := w) (base := base) T
  refine cal_mk F sc_counting hm (F.bindsN fun _ _ _ _ _ _ us hl => match us, hl with | [_, _], _ => rfl) (fun _ => rfl) fun cdv A outer s H E hr z hz => Sr.b ?_
  obtain ⟨h, ⟨⟨sea, ms⟩, vs⟩, night⟩ := z
  have S : StOk h (sea, ms) 30 := hz
  have hl : ms.length ≤ 30 := S.len
  have l2 := len_stand ms
  exact sr_ret (ed_compD rfl sc_counting.nd [("one", 2)] (blkOk_by (N := n_counting) (sc := defScope s_counting) (by decide +kernel)) (standF ms) (fun p => dP K (standD p)) (fun p => p.2.lit || !night) standD (es_listM (g := standD) (ed_call c1 hr (by decide) (h, ((sea, ms), vs)) S (by rfl) (ea_cons (ed_var 0) ea_nil))) (by omega) fun p hp =>
    ⟨[2], _, by simp, fun s H C cl fp => ⟨tg_name 2 sc_counting.nd, ets_one (ew_et (ew_or (et_val (ed_ixTd (ds := [.int p.2.sh, .int p.2.co, .bool p.2.lit]) (d := .bool p.2.lit) (ed_ixTd (d := lookD p.2) (ed_var 2) ed_int (by rfl)) ed_int (by rfl))) fun _ => ew_or1 (et_not (et_val (ed_var 1))))), fun _ => ed_var 2⟩⟩)
theorem c_is_wrong (T : TX K mg) : Cal P w K mg base 1 "is_wrong" ["one", "cell"] (spP (α := (Int × Mark) × Cell) (fun z => 0 ≤ z.1.2.sh ∧ z.1.2.sh ≤ 2) (fun z => [dP K (standD z.1), dP K (cD z.2)]) fun z => dP K (.bool (wrongF z.1 z.2))) := by
  obtain ⟨f, fd, hm, F⟩ := T.f_is_wrong
  refine cal_mk F sc_is_wrong hm (F.bindsN fun _ _ _ _ _ _ us hl => match us, hl with | [_, _], _ => rfl) (fun _ => rfl) fun cdv A outer s H E hr z hz => Sr.b ?_
  obtain ⟨⟨m, x⟩, c⟩ := z
  have h0 : 0 ≤ x.sh := hz.1
  have h1 : x.sh ≤ 2 := hz.2
  refine sr_seq (ss_asg (ed_var 0) (tg_imp (tg_tup rfl (tgs_cons (tg_name 2 sc_is_wrong.nd) (tgs_cons (tg_name 3 sc_is_wrong.nd) (tgs_cons (tg_name 4 sc_is_wrong.nd) tgs_nil)))) imp_td)) ?_
  refine sr_if (et_nei (i := c.1) (j := x.c.1) (ed_ixTd (ed_var 1) ed_int (by rfl)) (ed_ixTd (ed_var 3) ed_int (by rfl))) (fun hk => sr_ret (ed_d ?_ ed_bl)) fun hk => sr_ret (ed_ixLd (i := x.sh) (d := .bool (wrongF (m, x) c)) (ed_lstd (ds := [.bool (decide (c.2 ≤ x.c.2)), .bool (decide (x.c.2 ≤ c.2)), .bool (decide (c.2 = x.c.2))]) (ea_cons (ed_lei (ed_ixTd (ed_var 1) ed_int (by rfl)) (ed_ixTd (ed_var 3) ed_int (by rfl))) (ea_cons (ed_gei (ed_ixTd (ed_var 1) ed_int (by rfl)) (ed_ixTd (ed_var 3) ed_int (by rfl))) (ea_cons (ed_eqi (ed_ixTd (ed_var 1) ed_int (by rfl)) (ed_ixTd (ed_var 3) ed_int (by rfl))) ea_nil)))) (ed_ixTd (ds := [.int x.sh, .int x.co, .bool x.lit]) (ed_var 4) ed_int (by rfl)) ?_)
  · have hk : c.1 ≠ x.c.1 := by simpa using hk
    unfold wrongF
    rw [if_pos hk]
  · have hk : c.1 = x.c.1 := by simpa using hk
    have e : x.sh = 0 ∨ x.sh = 1 ∨ x.sh = 2 := by omega
    unfold wrongF
    rw [if_neg (by simp [hk])]
    rcases e with e | e | e <;> simp only [e] <;> rfl
theorem c_open_rows (T : TX K mg) : Cal P w K mg base 3 "open_rows" ["known", "draught", "night"] (spP (α := Nat × (State × List Int) × Int × Bool) (fun z => StOk z.1 z.2.1.1 30) (fun z => [knP K z.2.1, dP K (.int z.2.2.1), dP K (.bool z.2.2.2)]) fun z => dP K (.tuple (openD z.2.1.1.1 z.2.1.1.2 z.2.2.1 z.2.2.2))) := by
  obtain ⟨f, fd, hm, F⟩ := T.f_open_rows
  have c1 := c_counting (P := P) (w := w) (base := base) T
  have c2 := c_is_wrong (P := P) (w := w) (base := base) T
  refine cal_mk F sc_open_rows hm (F.bindsN fun _ _ _ _ _ _ us hl => match us, hl with | [_, _, _], _ => rfl) (fun _ => rfl) fun cdv A outer s H E hr z hz => Sr.b (sr_m fun φ D hB hD => ?_)
  obtain ⟨h, ⟨⟨sea, ms⟩, vs⟩, draught, night⟩ := z
  have S : StOk h (sea, ms) 30 := hz
  have hl : ms.length ≤ 30 := S.len
  have l2 := len_stand ms
  have l3 : (countF ms night).length ≤ 30 := Nat.le_trans (List.length_filter_le _ _) (by omega)
  refine m_asgN (PP := fun d => tP K [dP K (seaD sea), dP K (.list ((countF ms night).map standD)), eP (.ref d)]) (em_tupNew (ed_ixT (ed_var 0) ed_int (by rfl)) (ed_call c1 hr (by decide) (h, ((sea, ms), vs), night) S (by rfl) (ea_cons (ed_var 0) (ea_cons (ed_var 2) ea_nil))) em_newL) (fun d => tg_tup rfl (tgs_cons (tg_name 3 sc_open_rows.nd) (tgs_cons (tg_name 4 sc_open_rows.nd) (tgs_cons (tg_name 5 sc_open_rows.nd) tgs_nil)))) fun vd => ?_
  have hsea : sea.length ≤ 16 := S.sea.hi
  refine m_for PassesOwn.never rfl (es_enumT (xs := sea) (Pi := fun col => dP K (colD col)) (by rfl) T.z_enumerate ((ed_var 3).imp ?_)) (fun i g => g = (sea.zipIdx.take i).map (openCol (countF ms night) draught)) (fun g => [(vd, lHP (g.map (dP K)))])
    (fun g => [some (knP K ((sea, ms), vs)), some (dP K (.int draught)), some (dP K (.bool night)), some (dP K (seaD sea)), some (dP K (.list ((countF ms night).map standD))), some (eP (.ref vd)), none, none, none, none, none, none]) [] rfl rfl rfl ?_ ?_
  · have e : imp_td (K := K) (ds := sea.map colD) = imp_td := rfl
    have := imp_td (K := K) (ds := sea.map colD)
    rw [List.map_map] at this
    exact this
  · rintro i Pi g hPi rfl φ1 hφ1 bk1
    rw [List.getElem?_map] at hPi
    obtain ⟨⟨col, j⟩, hn, rfl⟩ := Option.map_eq_some_iff.mp hPi
    have hm : (col, j) ∈ sea.zipIdx := List.mem_of_getElem? hn
    have hcol : col.length ≤ 9 := by
      have h1 := List.fst_mem_of_mem_zipIdx hm
      have h2 := S.sea.rows col h1
      have h3 := S.sea.h9
      omega
    have hlr : (rowsOf col draught).length ≤ 9 := by
      unfold rowsOf
      rw [List.length_map]
      refine Nat.le_trans (List.length_filter_le _ _) ?_
      rw [List.length_zipIdx]
      exact hcol
    have hli : i < 16 := by
      have := (List.getElem?_eq_some_iff.mp hn).1
      rw [List.length_zipIdx] at this
      omega
    refine ⟨[6, 7], _, tg_tup rfl (tgs_cons (tg_name 6 sc_open_rows.nd) (tgs_cons (tg_name 7 sc_open_rows.nd) tgs_nil)), fun D1 hD1 hn1 => ?_⟩
    refine m_ss (ss_setLc (i := 8) rfl sc_open_rows.nd [("row", 9), ("depth", 10)] rfl rfl (by rfl) (blkOk_by (N := n_open_rows) (sc := defScope s_open_rows) (by decide +kernel)) col.zipIdx (fun q => tP K [dP K (.int q.2), dP K (.int q.1)]) (fun q => decide (draught ≤ q.1)) (fun q => dP K (.int q.2)) (es_enumT (xs := col) (Pi := fun d => dP K (.int d)) (by rfl) T.z_enumerate ((ed_var 7).imp ?_)) (by rw [List.length_zipIdx]; omega) fun q hq =>
      ⟨[9, 10], _, by simp, fun s H C cl fp => ⟨tg_tup rfl (tgs_cons (tg_name 9 sc_open_rows.nd) (tgs_cons (tg_name 10 sc_open_rows.nd) tgs_nil)), ets_one (et_gei (ed_var 10) (ed_var 1)), fun _ => ed_var 9⟩⟩) ?_
    · have := imp_td (K := K) (ds := col.map PyData.int)
      rw [List.map_map] at this
      exact this
    refine m_st (sm_expr (em_append (i := 0) rfl (by simp only [List.length_map, List.length_take]; omega) (ed_var 5) (P := dP K (openCol (countF ms night) draught (col, j))) (ed_d ?_ (ed_tupleLd (by rfl) T.z_tuple (ed_compD rfl sc_open_rows.nd [("row", 9)] (blkOk_by (N := n_open_rows) (sc := defScope s_open_rows) (by decide +kernel)) (col.zipIdx.filter fun q => decide (draught ≤ q.1)) (fun q => dP K (.int q.2)) (fun q => !(countF ms night).any fun p => wrongF p ((j : Int), (q.2 : Int))) (fun q => .int q.2) (es_list (ed_var 8)) ?_ fun q hrr => ⟨[9], _, by simp, fun s H C cl fp => ⟨tg_name 9 sc_open_rows.nd, ets_one (et_not (et_val (ed_d ?_ (ed_any (bs := (countF ms night).map fun p => wrongF p ((j : Int), (q.2 : Int))) rfl (by rfl) T.z_any (ed_d ?_ (ed_mapD rfl sc_open_rows.nd [("one", 11)] (blkOk_in (N := n_open_rows) (defScope s_open_rows) rfl (by decide +kernel)) (countF ms night) (fun p => dP K (standD p)) (fun p => .bool (wrongF p ((j : Int), (q.2 : Int)))) (es_listM (g := standD) (ed_var 4)) (by omega) fun p hp => ⟨[11], _, by simp, fun s H C cl fp => ⟨tg_name 11 sc_open_rows.nd, ets_nil, fun _ => ed_call c2 hr (by decide) (p, ((j : Int), (q.2 : Int))) (stand_ok S (List.mem_filter.mp hp).1).2 (by rfl) (ea_cons (ed_var 11) (ea_cons (ed_tupd (ds := [.int (j : Int), .int q.2]) (ea_cons (ed_var 6) (ea_cons (ed_var 9) ea_nil)) (by show 2 ≤ 100000; decide)) ea_nil))⟩⟩)))))), fun _ => ed_var 9⟩⟩))))) fun σ3 G3 H3 f3 => ?_
    · simp only [openCol, rowsOf, List.filter_map, List.map_map]
      rfl
    · exact Nat.le_trans (List.length_filter_le _ _) (by rw [List.length_zipIdx]; omega)
    · simp only [List.any_map]
      rfl
    · simp only [List.map_map]
      rfl
    · obtain ⟨v3, S3, k3⟩ := f3
      refine m_nil (fun σ7 G7 H7 S7 k7 => ?_) σ3 G3 H3 S3.1 k3
      refine hn1 _ rfl σ7 G7 H7 ?_ ((((k7.forget 6).forget 7).forget 8))
      rw [take_succ' hn, List.map_append, List.map_append]
      exact S7
  · intro g e
    rw [List.length_map, List.take_length] at e
    subst e
    exact m_showL 5 rfl (m_retd (ed_tupleLd (by rfl) T.z_tuple ((ed_var 5).imp imp_dl)) hD)
theorem c_channel_of (T : TX K mg) (DK : DeedsOk K w mg) : Cal P w K mg base 9 "channel_of" ["sea", "notices", "held", "day", "draught", "night"] (spP (α := Sea × Nat × List Notice × Int × Int × Int × Bool) (fun z => AskOk z.1 z.2.1 z.2.2.1 z.2.2.2.1 ∧ (0 ≤ z.2.2.2.2.1 ∧ z.2.2.2.2.1 ≤ 400) ∧ (1 ≤ z.2.2.2.2.2.1 ∧ z.2.2.2.2.2.1 ≤ 9)) (fun z => [dP K (seaD z.1), dP K (.list (z.2.2.1.map noticeD)), dP K (.int z.2.2.2.1), dP K (.int z.2.2.2.2.1), dP K (.int z.2.2.2.2.2.1), dP K (.bool z.2.2.2.2.2.2)])
    fun z => dP K (.tuple (openD (goneF z.2.1 z.1 z.2.2.1 z.2.2.2.1 z.2.2.2.2.1).1.1 (goneF z.2.1 z.1 z.2.2.1 z.2.2.2.1 z.2.2.2.2.1).1.2 z.2.2.2.2.2.1 z.2.2.2.2.2.2))) := by
  obtain ⟨f, fd, hm, F⟩ := T.f_channel_of
  have c1 := c_need_known (P := P) (w := w) (base := base) T
  have c2 := c_need_draught (P := P) (w := w) (base := base) T
  have c3 := c_gone_through (P := P) (w := w) (base := base) T DK
  have c4 := c_open_rows (P := P) (w := w) (base := base) T
  refine cal_mk F sc_channel_of hm (F.bindsN fun _ _ _ _ _ _ us hl => match us, hl with | [_, _, _, _, _, _], _ => rfl) (fun _ => rfl) fun cdv A outer s H E hr z hz => Sr.b ?_
  obtain ⟨sea, h, ns, held, day, draught, night⟩ := z
  obtain ⟨K0, K1, K2⟩ := hz
  dsimp only at K0 K1 K2
  refine sr_seq (ss_expr (ed_call c1 hr (by decide) (sea, h, ns, held, day) ⟨K0, K1⟩ (by rfl) (ea_cons (ed_var 0) (ea_cons (ed_var 1) (ea_cons (ed_var 2) (ea_cons (ed_var 3) ea_nil)))))) ?_
  refine sr_seq (ss_expr (ed_call c2 hr (by decide) draught K2 (by rfl) (ea_cons (ed_var 4) ea_nil))) ?_
  exact sr_ret (ed_call c4 hr (by decide) (h, goneF h sea ns held day, draught, night) (gone_ok K0.S K0.N).st (by rfl) (ea_cons (ed_call c3 hr (by decide) (sea, h, ns, held, day) ⟨K0.S, K0.N⟩ (by rfl) (ea_cons (ed_var 0) (ea_cons (ed_var 1) (ea_cons (ed_var 2) (ea_cons (ed_var 3) ea_nil))))) (ea_cons (ed_var 4) (ea_cons (ed_var 5) ea_nil))))
end
end Lk

/-! Da13: instances, seen or hidden; defs that change hidden things. -/
namespace Lk
open PySem PySem.Spec PyProof.Rows L2
abbrev FldR (fs : List (Str × Pr)) (vs : List (Str × V)) (G : Hp) : Prop := Paired (fun (p : Str × Pr) (q : Str × V) => q.1 = p.1 ∧ p.2.p q.2 G) fs vs
theorem FldR.up {fs : List (Str × Pr)} {vs : List (Str × V)} {G G' : Hp} (e : Same G G') (h : FldR fs vs G) : FldR fs vs G' := Paired.mapP h fun p _ q => ⟨q.1, p.2.up e q.2⟩
theorem FldR.get {G : Hp} {f : Str} {P : Pr} : ∀ {fs : List (Str × Pr)} {vs : List (Str × V)}, FldR fs vs G → fs.lookup f = some P → ∃ v, vs.lookup f = some v ∧ P.p v G
  | _, _, .nil, e => by cases e
  | _, _, .cons (a := p) (b := q) h t, e => by
    rw [List.lookup_cons] at e ⊢
    rw [h.1]
    split at e
    · cases e
      exact ⟨_, rfl, h.2⟩
    · exact FldR.get t e
theorem FldR.no {G : Hp} {f : Str} : ∀ {fs : List (Str × Pr)} {vs : List (Str × V)}, FldR fs vs G → fs.lookup f = none → vs.lookup f = none
  | _, _, .nil, _ => rfl
  | _, _, .cons (a := p) (b := q) h t, e => by
    rw [List.lookup_cons] at e ⊢
    rw [h.1]
    split at e
    · cases e
    · exact FldR.no t e
/-- an instance, seen -/
abbrev bkP (C : Addr) (fs : List (Str × Pr)) : Pr where
  p := fun v H => ∃ (a dx : Addr) (vs : List (Str × V)), v = .ref a ∧ H a = some (.ins C dx vs) ∧ FldR fs vs H
  up := fun e h => by
    obtain ⟨a, dx, vs, h1, h2, h3⟩ := h
    exact ⟨a, dx, vs, h1, e _ _ h2, h3.up e⟩
/-- an instance, hidden -/
def iHP (C dx : Addr) (fs : List (Str × Pr)) : HP where
  p := fun o G => ∃ vs : List (Str × V), o = .ins C dx vs ∧ FldR fs vs G
  up := fun e h => by
    obtain ⟨vs, h1, h2⟩ := h
    exact ⟨vs, h1, h2.up e⟩
  nt := fun h => by
    obtain ⟨_, h, _⟩ := h
    cases h
section
variable {X : Cx} {B : List Addr} {ρ : Rho} {e o a : Expr} {es : List Expr} {P : Pr} {Ps : List Pr} {f : Str} {pos apos p : Pos} {C : Addr} {fs : List (Str × Pr)}
theorem ed_fld (c : Cls X.K C) (n : NoAttr X.K C f) (hl : fs.lookup f = some P) (ho : Ed X B ρ o (bkP C fs)) (hb : attributeBase o f X.env (eval o X.env) = eval o X.env := by rfl) : Ed X B ρ (.Attribute o f pos) P := fun σ G H eg k Q z =>
  pe_we (pe_fld we_pe hb) (ho σ G H eg k _ fun x H1 s1 r => by
    obtain ⟨a, dx, vs, rfl, h2, h3⟩ := r
    obtain ⟨v, hv, rv⟩ := h3.get hl
    exact ⟨a, C, dx, vs, v, rfl, (ext_same eg s1).1 _ _ h2, c, n, hv, z v H1 s1 rv⟩)
/-- a method that reads: the promise -/
structure CalM (P : Program) (w : World) (K : PySem.W.Frag) (mg : Str → Option Value) (base : Heap) (C : Addr) (k : Nat) (m : Str) (ps : List Str) (sp : Sp) : Prop where
  ex : ∃ (f : Addr) (fd : FuncData), Meth K C m f ∧ Binds K fd ps [] ∧ FnOk P w K mg base CX0 k f fd ps sp
theorem ed_meth {α : Type} {pre : α → Prop} {As : α → List Pr} {R : α → Pr} {m : Str} {ps : List Str} {k j : Nat} {pl : Sem Bool} (c : Cls X.K C) (cm : CalM X.prog X.w X.K X.mg X.base C k m ps (spP pre As R)) (hr : Room j X.A) (hk : k ≤ j) (z : α) (hz : pre z) (hA : As z = bkP C fs :: Ps) (hl : fs.lookup m = none) (ho : Ed X B ρ o (bkP C fs)) (ha : Ea X B ρ (e :: es) Ps) (hP : R z = P := by rfl)
    (hst : starEach (e :: es) X.env = (false, eval e X.env) :: starEach es X.env := by rfl) (hpl : (backTo pos (starEach es X.env)).any (·.1) = false := by rfl)
    (ht : eval (.Call (.Attribute o m apos) (e :: es) [] pos) X.env = (do
      let ov ← eval o X.env
      standAt apos.atName
      let (f, first) ← holding [ov] (getMethod ov m pl)
      callWith pos f first (backTo pos (starEach (e :: es) X.env)) (backToKw pos (keywordEach [] X.env))) := by rfl) :
    Ed X B ρ (.Call (.Attribute o m apos) (e :: es) [] pos) P := by
  obtain ⟨f, fd, h1, h3, h4⟩ := cm.ex
  intro σ G H eg kn Q q
  refine pe_we (pe_meth we_pe c h1 h4 (hr.mono hk) h3 .nil pass0 wa_pa hst hpl ht) (ho σ G H eg kn _ fun x H1 s1 r1 => ?_)
  have r1' := r1
  obtain ⟨a, dx, vs, rfl, g2, g3⟩ := r1
  refine ⟨a, dx, vs, rfl, (ext_same eg s1).1 _ _ g2, g3.no hl, ha σ _ H1 (ext_same eg s1) (kn.up (ext_up eg)) _ fun us H2 s2 r2 => ?_⟩
  rw [List.append_nil]
  have e12 := ext_trans eg s1 s2
  refine ⟨z, ext G H H2, hz, (ext_same eg (s1.trans s2)).sub (fun _ h => by cases h), ?_, fun v H3 s3 r3 => q v H3 ((s1.trans s2).trans (s3.sub fun _ h => by cases h)) ?_⟩
  · rw [hA, ← e12]
    exact .cons ((bkP C fs).up (ext_up (ext_same eg s1)) r1') r2
  · rw [← hP, ← ext_trans eg (s1.trans s2) (s3.sub fun _ h => by cases h)]
    exact r3
end
/-! ### hidden things shown for the time of one expression -/
/-- lists and tuples stay -/
def SameT (H H' : Hp) : Prop := ∀ a o, H a = some o → (∃ xs, o = .lst xs ∨ o = .tup xs) → H' a = some o
mutual
theorem dp_upT {H H' : Hp} (e : SameT H H') : ∀ (d : PyData) (v : V), Dh H v d → Dh H' v d
  | .none, _, h => by
    cases h
    exact .non
  | .bool b, _, h => by
    cases h
    exact .bl b
  | .int i, _, h => by
    cases h
    exact .int i
  | .str x, _, h => by
    cases h
    exact .str x
  | .list ds, _, h => by
    cases h with
    | lst h1 h2 => exact .lst (e _ _ h1 ⟨_, .inl rfl⟩) (dpa_upT e ds _ h2)
  | .tuple ds, _, h => by
    cases h with
    | tup h1 h2 => exact .tup (e _ _ h1 ⟨_, .inr rfl⟩) (dpa_upT e ds _ h2)
  | .dict _, _, h => by cases h
theorem dpa_upT {H H' : Hp} (e : SameT H H') : ∀ (ds : List PyData) (vs : List V), DhAll H vs ds → DhAll H' vs ds
  | [], _, h => by
    cases h
    exact .nil
  | d :: ds, _, h => by
    cases h with
    | cons h1 h2 => exact .cons (dp_upT e d _ h1) (dpa_upT e ds _ h2)
end
section
variable {X : Cx} {φ : Fx} {ρ : Rho} {hs : Hs} {c e : Expr} {k : Bool} {G H H2 : Hp} {d : PyData}
theorem Stt.seen (S : Stt φ hs G H) {i : Nat} {a C dx : Addr} {fs : List (Str × Pr)} (hi : hs[i]? = some (a, iHP C dx fs)) :
    ∃ vs : List (Str × V), FldR fs vs G ∧ Same G (upd G a (.ins C dx vs)) ∧ OkB φ.B (upd G a (.ins C dx vs)) H ∧ H a = some (.ins C dx vs) := by
  obtain ⟨g1, g2, o, g3, g4⟩ := S.hid _ (List.mem_of_getElem? hi)
  obtain ⟨vs, rfl, r⟩ := g4
  dsimp only at g1 g2 g3
  refine ⟨vs, r, snew g1, ⟨fun b u z => ?_, fun b hb => ?_, fun b xs z => ?_⟩, g3⟩
  · by_cases e : b = a
    · rw [e, upd_same] at z
      rw [e, g3, z]
    · rw [upd_ne e] at z
      exact S.ok.1 b u z
  · have hne : b ≠ a := fun z => S.nb g2 (by rw [← z]; exact hb)
    rw [upd_ne hne]
    exact S.ok.2.1 b hb
  · have hne : b ≠ a := fun w => by
      rw [w, g3] at z
      cases z
    rw [upd_ne hne]
    exact S.ok.2.2 b xs z
theorem sameT_unseen {a C dx : Addr} {vs : List (Str × V)} (h : H a = some (.ins C dx vs)) : SameT (ext (upd G a (.ins C dx vs)) H H2) (ext G H H2) := fun b o hb hl => by
  by_cases e : b = a
  · subst e
    rw [ext_some h, upd_same] at hb
    obtain ⟨xs, q⟩ := hl
    cases hb
    rcases q with q | q <;> cases q
  · cases q : H b with
    | some u =>
      rw [ext_some q, upd_ne e] at hb
      rw [ext_some q]
      exact hb
    | none =>
      rw [ext_none q] at hb
      rw [ext_none q]
      exact hb
/-- the instance at a, which the j-th name holds, is seen while c is read -/
theorem etm_show {i : Nat} (j : Nat) {a C dx : Addr} {fs : List (Str × Pr)} (hi : hs[i]? = some (a, iHP C dx fs)) (hρ : ρ[j]? = some (some (eP (.ref a)))) (h : Et X φ.B (ρ.set j (some (bkP C fs))) c k) : Etm X φ ρ hs c k := fun σ G H S kn Q z => by
  obtain ⟨vs, r, e, ok2, _⟩ := S.seen hi
  exact h σ _ H ok2 ((kn.up e).same j hρ ⟨a, dx, vs, rfl, upd_same, r.up e⟩) _ fun H2 s => z (ext G H H2) H2 (ext_up S.ok) (S.ev s)
theorem em_show {i : Nat} (j : Nat) {a C dx : Addr} {fs : List (Str × Pr)} (hi : hs[i]? = some (a, iHP C dx fs)) (hρ : ρ[j]? = some (some (eP (.ref a)))) (h : Ed X φ.B (ρ.set j (some (bkP C fs))) e (dP X.K d)) : Em X φ ρ hs e (fun v G H => Stt φ hs G H ∧ (dP X.K d).p v G) := fun σ G H S kn Q z => by
  obtain ⟨vs, r, e, ok2, hH⟩ := S.seen hi
  exact h σ _ H ok2 ((kn.up e).same j hρ ⟨a, dx, vs, rfl, upd_same, r.up e⟩) _ fun v H2 s rv => z v (ext G H H2) H2 (ext_up S.ok) ⟨S.ev s, dp_upT (sameT_unseen hH) d v rv⟩
end
/-! ### calls that change hidden things -/
theorem Stt.perm {φ : Fx} {hs hs' : Hs} {G H : Hp} (S : Stt φ hs G H) (p : hs.Perm hs') : Stt φ hs' G H := ⟨S.ok, S.b0, S.up, S.st, S.old, fun x hx => S.hid x (p.mem_iff.mpr hx), (p.map _).nodup_iff.mp S.nd, S.mid⟩
def cut (cs : Hs) (H : Hp) : Hp := fun a => if a ∈ cs.map (·.1) then none else H a
theorem cut_some {cs : Hs} {H : Hp} {a : Addr} {o : HO} (h : cut cs H a = some o) : a ∉ cs.map (·.1) ∧ H a = some o := by
  unfold cut at h
  split at h
  · cases h
  · exact ⟨by assumption, h⟩
theorem cut_in {cs : Hs} {H : Hp} {a : Addr} {o : HO} (h : a ∉ cs.map (·.1)) (h2 : H a = some o) : cut cs H a = some o := by
  unfold cut
  rw [if_neg h]
  exact h2
theorem Stt.call {φ : Fx} {hs cs oth : Hs} {G H : Hp} {B : List Addr} (S : Stt φ hs G H) (p : hs.Perm (cs ++ oth)) (hB : ∀ b ∈ B, b ∈ φ.B) :
    Stt ⟨B, G, cut cs H, G⟩ cs G H ∧ ∀ hs' G' H', Stt ⟨B, G, cut cs H, G⟩ hs' G' H' → Stt φ (hs' ++ oth) G' H' := by
  have S0 := S.perm p
  have nd := S0.nd
  rw [List.map_append, List.nodup_append] at nd
  obtain ⟨nd1, nd2, nd3⟩ := nd
  have old : ∀ a, (∃ o, φ.H0 a = some o) → a ∉ cs.map (·.1) := fun a ⟨o, h⟩ hc => by
    obtain ⟨x, hx, e⟩ := List.mem_map.mp hc
    have := (S0.hid x (List.mem_append_left _ hx)).2.1
    rw [e, h] at this
    cases this
  refine ⟨⟨S.ok.sub hB, fun b hb => ?_, Same.refl _, fun a o h => ⟨o, (cut_some h).2, .inl rfl⟩, fun _ _ _ => rfl, fun x hx => ?_, nd1, Same.refl _⟩, fun hs' G' H' S' => ?_⟩
  · obtain ⟨_, o, h, _⟩ := S.ok.2.1 b (hB b hb)
    exact ⟨o, cut_in (old b (S.b0 b (hB b hb))) h⟩
  · obtain ⟨h1, _, h3⟩ := S0.hid x (List.mem_append_left _ hx)
    exact ⟨h1, show cut cs H x.1 = Option.none by unfold cut; rw [if_pos (List.mem_map.mpr ⟨x, hx, rfl⟩)], h3⟩
  · have up : Same G G' := S'.up
    refine ⟨⟨S'.ok.1, fun b hb => ?_, S'.ok.2.2⟩, S.b0, S.up.trans up, fun a o h => ?_, fun a o h => ?_, fun x hx => ?_, ?_, S.mid.trans up⟩
    · obtain ⟨h1, o, h2, h3⟩ := S.ok.2.1 b hb
      have hc := cut_in (old b (S.b0 b hb)) h2
      refine ⟨by rw [S'.old b o hc]; exact h1, ?_⟩
      obtain ⟨o', g1, g2⟩ := S'.st b o hc
      refine ⟨o', g1, ?_⟩
      rcases g2 with rfl | ⟨_, g2⟩
      · exact h3
      · exact g2 h3
    · obtain ⟨o1, h1, h2⟩ := S.st a o h
      obtain ⟨o2, g1, g2⟩ := S'.st a o1 (cut_in (old a ⟨o, h⟩) h1)
      refine ⟨o2, g1, ?_⟩
      rcases g2 with rfl | ⟨g2, g3⟩
      · exact h2
      · refine .inr ⟨hB _ g2, fun q => g3 ?_⟩
        rcases h2 with rfl | ⟨_, h2⟩
        · exact q
        · exact h2 q
    · obtain ⟨o1, h1, _⟩ := S.st a o h
      rw [S'.old a o1 (cut_in (old a ⟨o, h⟩) h1)]
      exact S.old a o h
    · rcases List.mem_append.mp hx with hx | hx
      · obtain ⟨h1, h2, h3⟩ := S'.hid x hx
        refine ⟨h1, ?_, h3⟩
        cases q : φ.H0 x.1 with
        | none => rfl
        | some o =>
          obtain ⟨o1, g1, _⟩ := S.st _ o q
          have h2 : cut cs H x.1 = Option.none := h2
          rw [show cut cs H x.1 = some o1 from cut_in (old _ ⟨o, q⟩) g1] at h2
          cases h2
      · obtain ⟨h1, h2, o, h3, h4⟩ := S0.hid x (List.mem_append_right _ hx)
        have hn : x.1 ∉ cs.map (·.1) := fun hc => nd3 _ hc _ (List.mem_map.mpr ⟨x, hx, rfl⟩) rfl
        have hc := cut_in hn h3
        refine ⟨by rw [S'.old _ o hc]; exact h1, h2, o, ?_, x.2.up up h4⟩
        obtain ⟨o2, g1, g2⟩ := S'.st _ o hc
        rcases g2 with rfl | ⟨g2, _⟩
        · exact g1
        · exact absurd (hB _ g2) (S.nb h2)
    · rw [List.map_append]
      refine List.nodup_append.mpr ⟨S'.nd, nd2, fun a ha b hb e => ?_⟩
      subst e
      obtain ⟨x, hx, rfl⟩ := List.mem_map.mp ha
      obtain ⟨y, hy, ey⟩ := List.mem_map.mp hb
      obtain ⟨_, h2, _⟩ := S'.hid x hx
      obtain ⟨_, _, o, h3, _⟩ := S0.hid y (List.mem_append_right _ hy)
      have hn : x.1 ∉ cs.map (·.1) := fun hc => nd3 _ hc _ hb rfl
      rw [ey] at h3
      have h2 : cut cs H x.1 = Option.none := h2
      rw [show cut cs H x.1 = some o from cut_in hn h3] at h2
      cases h2
/-- the promise of a def that is given hidden things and gives others back -/
def spM {α : Type} (Bx : α → List Addr) (pre : α → Prop) (As : α → List Pr) (hin : α → Hs) (Post : α → V → Hp → Hs → Prop) : Sp := fun vs H Q _ => ∃ (z : α) (G H0 : Hp), pre z ∧ Stt ⟨Bx z, G, H0, G⟩ (hin z) G H ∧ AllP (As z) vs G ∧
  ∀ v G' H' hs', Stt ⟨Bx z, G, H0, G⟩ hs' G' H' → Post z v G' hs' → Q v H'
section
variable {P : Program} {w : World} {K : PySem.W.Frag} {mg : Str → Option Value} {base : Heap}
theorem fn_mkM {α : Type} {bx : α → List Addr} {pre : α → Prop} {As : α → List Pr} {hin : α → Hs} {Post : α → V → Hp → Hs → Prop} {x qual : Str} {params : Arguments} {body : List Stmt} {scope : Scope} {f : Addr} {fd : FuncData} {N ps : List Str} {k : Nat} (F : FunD K x qual params body scope [] [] f fd) (S : FnScope N ps scope)
    (hl : ∀ z, (As z).length = ps.length)
    (h : ∀ (cdv : Value) (A : Around) (outer : List Env) (s : Shared) (H : Hp) (E : XK), Room k (A.deeper (envOfC qual scope s.heap.objs.size f cdv)) → ∀ z, pre z → ∀ (φ : Fx) (D : Ends), φ.B = bx z → (∀ v G' H' hs', Stt φ hs' G' H' → Post z v G' hs' → D.rt v H') → (∀ σ' G' H' hs', Stt φ hs' G' H' → Post z .non G' hs' → D.nx σ' H') → M (cxOf CX0 P w K mg base N qual scope f cdv A outer s H E).nox φ (rho0 N (As z)) (hin z) body D) :
    FnOk P w K mg base CX0 (k + 1) f fd ps (spM bx pre As hin Post) := by
  refine F.ok S (fun vs H Q E hq => ?_) fun cdv A outer s H vs Q E hr hq => ?_
  · obtain ⟨z, G, H0, _, _, r, _⟩ := hq
    rw [← r.len, hl]
  · obtain ⟨z, G, H0, hz, S0, r, q⟩ := hq
    exact ⟨_, PSs.nox wb_ps, h cdv A outer s H E hr z hz ⟨bx z, G, H0, G⟩ _ rfl (fun v G' H' hs' S' p => q v G' H' hs' S' p) (fun σ' G' H' hs' S' p => q .non G' H' hs' S' p) (L2.start N vs) G H S0 (kn_start r)⟩
end
section
variable {X : Cx} {φ : Fx} {ρ : Rho} {hs oth : Hs} {e o a : Expr} {es : List Expr} {P : Pr} {Ps : List Pr} {f m : Str} {pos apos p cpos : Pos} {C dx : Addr} {fs : List (Str × Pr)} {α : Type} {bx : α → List Addr} {pre : α → Prop} {As : α → List Pr} {hin : α → Hs} {Post : α → V → Hp → Hs → Prop} {ps : List Str} {k j : Nat}
/-- o.m(..), which changes hidden things -/
theorem em_methM {pl : Sem Bool} {i : Nat} {A : Addr} (c : Cls X.K C) (cm : CalM X.prog X.w X.K X.mg X.base C k m ps (spM bx pre As hin Post)) (hr : Room j X.A) (hk : k ≤ j) (z : α) (hz : pre z) (hB : ∀ b ∈ bx z, b ∈ φ.B) (hp : hs.Perm (hin z ++ oth)) (hA : As z = eP (.ref A) :: Ps) (hi : hs[i]? = some (A, iHP C dx fs)) (hl : fs.lookup m = none)
    (ho : Em X φ ρ hs o (fun v G H => Stt φ hs G H ∧ v = .ref A)) (ha : Eam X φ ρ hs (e :: es) (fun vs G H => Stt φ hs G H ∧ AllP Ps vs G))
    (hst : starEach (e :: es) X.env = (false, eval e X.env) :: starEach es X.env := by rfl) (hpl : (backTo pos (starEach es X.env)).any (·.1) = false := by rfl)
    (ht : eval (.Call (.Attribute o m apos) (e :: es) [] pos) X.env = (do
      let ov ← eval o X.env
      standAt apos.atName
      let (f, first) ← holding [ov] (getMethod ov m pl)
      callWith pos f first (backTo pos (starEach (e :: es) X.env)) (backToKw pos (keywordEach [] X.env))) := by rfl) :
    Em X φ ρ hs (.Call (.Attribute o m apos) (e :: es) [] pos) (fun v G H => ∃ hs', Stt φ (hs' ++ oth) G H ∧ Post z v G hs') := by
  obtain ⟨f, fd, h1, h3, h4⟩ := cm.ex
  intro σ G H S kn Q q
  refine pe_we (pe_meth we_pe c h1 h4 (hr.mono hk) h3 .nil pass0 wa_pa hst hpl ht) (ho σ G H S kn _ fun x G1 H1 s1 ⟨S1, r1⟩ => ?_)
  subst r1
  obtain ⟨o1, g1, vs1, rfl, g2⟩ := S1.get hi
  refine ⟨A, dx, vs1, rfl, g1, g2.no hl, ha σ G1 H1 S1 (kn.up s1) _ fun us G2 H2 s2 ⟨S2, r2⟩ => ?_⟩
  rw [List.append_nil]
  obtain ⟨S3, back⟩ := S2.call hp hB
  refine ⟨z, G2, _, hz, S3, by rw [hA]; exact .cons rfl r2, fun v G4 H4 hs' S4 post => q v G4 H4 ((s1.trans s2).trans S4.up) ⟨hs', back _ _ _ S4, post⟩⟩
theorem em_methM0 {pl : Sem Bool} {i : Nat} {A : Addr} (c : Cls X.K C) (cm : CalM X.prog X.w X.K X.mg X.base C k m ps (spM bx pre As hin Post)) (hr : Room j X.A) (hk : k ≤ j) (z : α) (hz : pre z) (hB : ∀ b ∈ bx z, b ∈ φ.B) (hp : hs.Perm (hin z ++ oth)) (hA : As z = [eP (.ref A)]) (hi : hs[i]? = some (A, iHP C dx fs)) (hl : fs.lookup m = none)
    (ho : Em X φ ρ hs o (fun v G H => Stt φ hs G H ∧ v = .ref A))
    (ht : eval (.Call (.Attribute o m apos) [] [] pos) X.env = (do
      let ov ← eval o X.env
      standAt apos.atName
      let (f, first) ← holding [ov] (getMethod ov m pl)
      callWith pos f first (backTo pos (starEach [] X.env)) (backToKw pos (keywordEach [] X.env))) := by rfl) :
    Em X φ ρ hs (.Call (.Attribute o m apos) [] [] pos) (fun v G H => ∃ hs', Stt φ (hs' ++ oth) G H ∧ Post z v G hs') := by
  obtain ⟨f, fd, h1, h3, h4⟩ := cm.ex
  intro σ G H S kn Q q
  refine pe_we (pe_meth0 we_pe c h1 h4 (hr.mono hk) h3 .nil pass0 ht) (ho σ G H S kn _ fun x G1 H1 s1 ⟨S1, r1⟩ => ?_)
  subst r1
  obtain ⟨o1, g1, vs1, rfl, g2⟩ := S1.get hi
  refine ⟨A, dx, vs1, rfl, g1, g2.no hl, ?_⟩
  obtain ⟨S3, back⟩ := S1.call hp hB
  exact ⟨z, G1, _, hz, S3, by rw [hA]; exact .cons rfl .nil, fun v G4 H4 hs' S4 post => q v G4 H4 (s1.trans S4.up) ⟨hs', back _ _ _ S4, post⟩⟩
/-- a name that holds a hidden thing -/
theorem em_ref {A : Addr} (h : Ed X φ.B ρ e (eP (.ref A))) : Em X φ ρ hs e (fun v G H => Stt φ hs G H ∧ v = .ref A) := fun σ G H S kn Q z => h σ G H S.ok kn _ fun v H2 s r => z v _ H2 (ext_up S.ok) ⟨S.ev s, r⟩
/-- a field of a hidden instance -/
theorem em_fld {i : Nat} {A : Addr} (c : Cls X.K C) (n : NoAttr X.K C f) (hi : hs[i]? = some (A, iHP C dx fs)) (hl : fs.lookup f = some P) (ho : Em X φ ρ hs o (fun v G H => Stt φ hs G H ∧ v = .ref A)) (hb : attributeBase o f X.env (eval o X.env) = eval o X.env := by rfl) : Em X φ ρ hs (.Attribute o f pos) (fun v G H => Stt φ hs G H ∧ P.p v G) := fun σ G H S k Q z =>
  pe_we (pe_fld we_pe hb) (ho σ G H S k _ fun x G1 H1 s1 ⟨S1, r⟩ => by
    subst r
    obtain ⟨o1, g1, vs1, rfl, g2⟩ := S1.get hi
    obtain ⟨v, hv, rv⟩ := g2.get hl
    exact ⟨A, C, dx, vs1, v, rfl, g1, c, n, hv, z v G1 H1 s1 ⟨S1, rv⟩⟩)
def putP (f : Str) (P : Pr) : List (Str × Pr) → List (Str × Pr)
  | [] => [(f, P)]
  | (g, x) :: r => if g = f then (g, P) :: r else (g, x) :: putP f P r
theorem FldR.put {G : Hp} {y : V} (r : P.p y G) : ∀ {fs : List (Str × Pr)} {vs : List (Str × V)}, FldR fs vs G → FldR (putP f P fs) (putF f y vs) G
  | _, _, .nil => .cons ⟨rfl, r⟩ .nil
  | _, _, .cons (a := p) (b := q) h t => by
    obtain ⟨g, x⟩ := p
    obtain ⟨g', v⟩ := q
    obtain ⟨h1, h2⟩ := h
    have h1 : g' = g := h1
    subst h1
    unfold putP putF
    by_cases e : g' = f
    · rw [if_pos e, if_pos e]
      exact .cons ⟨rfl, r⟩ t
    · rw [if_neg e, if_neg e]
      exact .cons ⟨rfl, h2⟩ (FldR.put r t)
/-- o.f = e -/
theorem sm_setF {hs2 : Hs} {i : Nat} {A : Addr} {pos' : Pos} (c : Cls X.K C) (n : NoAttr X.K C f) (hi : hs2[i]? = some (A, iHP C dx fs)) (hl : fs.length < 1000) (hv : Em X φ ρ hs e (fun v G H => Stt φ hs2 G H ∧ P.p v G)) (ho : Em X φ ρ hs2 o (fun v G H => Stt φ hs2 G H ∧ v = .ref A))
    (hs1 : swapsWith e (some (.Attribute o f pos')) pos.line X.env = pure false := by rfl) : Sm X φ ρ hs (.Assign [.Attribute o f pos'] e pos) (fun σ G H => Stt φ (hs2.set i (A, iHP C dx (putP f P fs))) G H ∧ Kn σ G ρ) := fun D σ G H S kn z =>
  ps_ws (ps_fld we_pe we_pe hs1) (hv σ G H S kn _ fun y G1 H1 s1 ⟨S1, r1⟩ => ho σ G1 H1 S1 (kn.up s1) _ fun x G2 H2 s2 ⟨S2, r2⟩ => by
    subst r2
    obtain ⟨o1, g1, vs1, rfl, g2⟩ := S2.get hi
    exact ⟨A, C, dx, vs1, rfl, g1, c, n, by rw [← Paired.length g2]; exact hl, z σ G2 _ (s1.trans s2) ⟨S2.put hi ⟨_, rfl, g2.put (P.up s2 r1)⟩, kn.up (s1.trans s2)⟩⟩)
/-- o.append(a), both read in a hidden state -/
theorem em_appendM {i : Nat} {d : Addr} (hi : hs[i]? = some (d, lHP Ps)) (hl : Ps.length < 100000) (ho : Em X φ ρ hs o (fun v G H => Stt φ hs G H ∧ v = .ref d)) (ha : Em X φ ρ hs a (fun v G H => Stt φ hs G H ∧ P.p v G))
    (hbase : attributeBase o "append" X.env (eval o X.env) = eval o X.env := by rfl)
    (hfew : ((backTo cpos (starEach [a] X.env)).all (fun x => !x.1) && (backToKw cpos (keywordEach [] X.env)).all (fun x => x.1.isSome)
      && decide (([a] : List Expr).length + ([] : List Keyword).length + (if ([] : List Keyword).isEmpty then 0 else 1) < 30)) = true := by rfl)
    (hline : (apos.endLine == cpos.line) = true := by rfl) (hs1 : starEach [a] X.env = (false, eval a X.env) :: starEach [] X.env := by rfl) (hplain : (backTo cpos (starEach [] X.env)).any (·.1) = false := by rfl) :
    Em X φ ρ hs (.Call (.Attribute o "append" apos) [a] [] cpos) (fun v G H => Stt φ (hs.set i (d, lHP (Ps ++ [P]))) G H ∧ v = .non) := fun σ G H S k Q z =>
  pe_we (pe_bm PySem.F.plainAttrs_list PySem.F.slot_list_append PySem.F.type_list_append mt_append we_pe (pa_cons we_pe pa_nil hs1) hbase hfew hline hs1 hplain) (ho σ G H S k _ fun x G1 H1 s1 ⟨S1, r1⟩ => by
    subst r1
    obtain ⟨o1, ho1, xs1, rfl, hk1⟩ := S1.get hi
    refine ⟨.inl ⟨rfl, xs1, .of ho1⟩, ?_⟩
    refine ha σ _ H1 S1 (k.up s1) _ fun y G2 H2 s2 ⟨S2, r2⟩ => ?_
    obtain ⟨o1, ho1, xs1, rfl, hk1⟩ := S2.get hi
    have hlen : xs1.length < 100000 := by rw [← hk1.len]; exact hl
    exact ⟨d, xs1, y, rfl, rfl, ho1, Nat.lt_of_lt_of_le hlen (small (Nat.le_refl _)), z _ _ _ (s1.trans s2) ⟨S2.put hi ⟨_, rfl, hk1.snoc r2⟩, rfl⟩⟩)
theorem paired_snoc {α β : Type} {F : α → β → Prop} {a : α} : ∀ {as : List α} {bs : List β}, Paired F (as ++ [a]) bs → ∃ bs' b, bs = bs' ++ [b] ∧ Paired F as bs' ∧ F a b
  | [], _, .cons h t => by
    cases t
    exact ⟨[], _, rfl, .nil, h⟩
  | _ :: as, _, .cons h t => by
    obtain ⟨bs', b, rfl, h1, h2⟩ := paired_snoc t
    exact ⟨_ :: bs', b, rfl, .cons h h1, h2⟩
/-- o.pop() -/
theorem em_popM {i : Nat} {d : Addr} (hi : hs[i]? = some (d, lHP (Ps ++ [P]))) (ho : Em X φ ρ hs o (fun v G H => Stt φ hs G H ∧ v = .ref d))
    (hbase : attributeBase o "pop" X.env (eval o X.env) = eval o X.env := by rfl) (hline : (apos.endLine == cpos.line) = true := by rfl) :
    Em X φ ρ hs (.Call (.Attribute o "pop" apos) [] [] cpos) (fun v G H => Stt φ (hs.set i (d, lHP Ps)) G H ∧ P.p v G) := fun σ G H S k Q z =>
  pe_we (pe_bm0 PySem.F.plainAttrs_list PySem.F.slot_list_pop PySem.F.type_list_pop mt_pop we_pe hbase hline) (ho σ G H S k _ fun x G1 H1 s1 ⟨S1, r1⟩ => by
    subst r1
    obtain ⟨o1, ho1, xs1, rfl, hk1⟩ := S1.get hi
    refine ⟨.inl ⟨rfl, xs1, .of ho1⟩, ?_⟩
    obtain ⟨ys, y, rfl, k1, k2⟩ := paired_snoc hk1
    refine ⟨d, _, y, rfl, rfl, ho1, by simp, z _ _ _ s1 ⟨S1.put hi ⟨_, rfl, by rw [List.dropLast_concat]; exact k1⟩, k2⟩⟩)
end
end Lk

/-! Da14: list + list; a statement that does not go off; hidden lists seen. -/
namespace Lk
open PySem PySem.Spec PyProof.Rows L2
section
variable {X : Cx} {B : List Addr} {ρ : Rho} {a b : Expr} {Ps Qs : List Pr} {pos : Pos}
theorem ed_catL (ha : Ed X B ρ a (lP X.K Ps)) (hb : Ed X B ρ b (lP X.K Qs)) (hl : Ps.length + Qs.length ≤ 100000) : Ed X B ρ (.BinOp a .Add b pos) (lP X.K (Ps ++ Qs)) := ed_op op_cat ha hb fun x y G H eg r1 r2 Q z => by
  obtain ⟨s, xs, rfl, a1, a2⟩ := r1
  obtain ⟨t, ys, rfl, b1, b2⟩ := r2
  refine ⟨s, t, xs, ys, rfl, rfl, eg.1 _ _ a1, eg.1 _ _ b1, by rw [← a2.len, ← b2.len]; exact small hl, fun p hp => z _ _ (stp_new hp) ?_⟩
  rw [ext_new eg hp]
  exact ⟨p, xs ++ ys, rfl, upd_same, (a2.app b2).up (snew (snone eg.1 hp))⟩
theorem ed_catLd {ds es : List PyData} (ha : Ed X B ρ a (dP X.K (.list ds))) (hb : Ed X B ρ b (dP X.K (.list es))) (hl : ds.length + es.length ≤ 100000) : Ed X B ρ (.BinOp a .Add b pos) (dP X.K (.list (ds ++ es))) := by
  have h := ed_catL (pos := pos) (ha.imp imp_ld) (hb.imp imp_ld) (by rw [List.length_map, List.length_map]; exact hl)
  rw [← List.map_append] at h
  exact h.imp imp_dl
end
section
variable {X : Cx} {φ : Fx} {ρ : Rho} {hs : Hs} {c e : Expr} {k : Bool} {rest body : List Stmt} {D : Ends} {pos : Pos} {Ps : List Pr} {d : PyData}
theorem m_no (ht : Etm X φ ρ hs c false) (h : M X φ ρ hs rest D) : M X φ ρ hs (.If c body [] pos :: rest) D :=
  m_if ht (fun z => Bool.noConfusion z) fun _ => m_nil fun σ G H S kn => h σ G H S kn
theorem etm_to {k' : Bool} (q : k = k') (h : Etm X φ ρ hs c k) : Etm X φ ρ hs c k' := q ▸ h
theorem Stt.seenL {G H : Hp} (S : Stt φ hs G H) {i : Nat} {a : Addr} (hi : hs[i]? = some (a, lHP Ps)) :
    ∃ xs : List V, AllP Ps xs G ∧ Same G (upd G a (.lst xs)) ∧ OkB φ.B (upd G a (.lst xs)) H ∧ H a = some (.lst xs) := by
  obtain ⟨g1, g2, o, g3, g4⟩ := S.hid _ (List.mem_of_getElem? hi)
  obtain ⟨xs, rfl, r⟩ := g4
  dsimp only at g1 g2 g3
  refine ⟨xs, r, snew g1, ⟨fun b u z => ?_, fun b hb => ?_, fun b ys z => ?_⟩, g3⟩
  · by_cases e : b = a
    · rw [e, upd_same] at z
      rw [e, g3, z]
    · rw [upd_ne e] at z
      exact S.ok.1 b u z
  · have hne : b ≠ a := fun z => S.nb g2 (by rw [← z]; exact hb)
    rw [upd_ne hne]
    exact S.ok.2.1 b hb
  · have hne : b ≠ a := fun w => by
      rw [w, g3] at z
      cases z
    rw [upd_ne hne]
    exact S.ok.2.2 b ys z
/-- a hidden list, which the j-th name holds, is seen while c is read -/
theorem etm_showL {i : Nat} (j : Nat) {a : Addr} (hi : hs[i]? = some (a, lHP Ps)) (hρ : ρ[j]? = some (some (eP (.ref a)))) (h : Et X φ.B (ρ.set j (some (lP X.K Ps))) c k) : Etm X φ ρ hs c k := fun σ G H S kn Q z => by
  obtain ⟨xs, r, e, ok2, _⟩ := S.seenL hi
  exact h σ _ H ok2 ((kn.up e).same j hρ ⟨a, xs, rfl, upd_same, r.up e⟩) _ fun H2 s => z (ext G H H2) H2 (ext_up S.ok) (S.ev s)
/-- the instance and the list that is its field f -/
theorem etm_show2 {i i2 : Nat} (j : Nat) {a C dx l : Addr} {f : Str} {fs : List (Str × Pr)} (hi : hs[i]? = some (a, iHP C dx fs)) (hi2 : hs[i2]? = some (l, lHP Ps)) (hf : ∀ G G2 vs, Same G G2 → (lP X.K Ps).p (.ref l) G2 → FldR fs vs G → FldR (putP f (lP X.K Ps) fs) vs G2) (hρ : ρ[j]? = some (some (eP (.ref a)))) (h : Et X φ.B (ρ.set j (some (bkP C (putP f (lP X.K Ps) fs)))) c k) : Etm X φ ρ hs c k := fun σ G H S kn Q z => by
  obtain ⟨vs, r, e, ok2, hH⟩ := S.seen hi
  obtain ⟨xs, r2, e2, ok3, hH2⟩ := S.seenL hi2
  obtain ⟨g1, g2, o, g3, g4⟩ := S.hid _ (List.mem_of_getElem? hi)
  obtain ⟨k1, k2, o2, k3, k4⟩ := S.hid _ (List.mem_of_getElem? hi2)
  dsimp only at g1 g2 g3 k1 k2 k3
  have hne : l ≠ a := fun w => by
    rw [w, hH] at hH2
    cases hH2
  have e3 : Same G (upd (upd G a (.ins C dx vs)) l (.lst xs)) := e.trans (snew (by rw [upd_ne hne]; exact k1))
  refine h σ (upd (upd G a (.ins C dx vs)) l (.lst xs)) H ⟨fun b u q => ?_, fun b hb => ?_, fun b ys q => ?_⟩ ((kn.up e3).same j hρ ⟨a, dx, vs, rfl, by rw [upd_ne (Ne.symm hne), upd_same], hf G _ vs e3 ⟨l, xs, rfl, upd_same, r2.up e3⟩ r⟩) _ fun H2 s => z (ext G H H2) H2 (ext_up S.ok) (S.ev s)
  · by_cases w : b = l
    · rw [w, upd_same] at q
      rw [w, hH2, q]
    · rw [upd_ne w] at q
      exact ok2.1 b u q
  · have hb' : b ≠ l := fun w => S.nb k2 (by rw [← w]; exact hb)
    rw [upd_ne hb']
    exact ok2.2.1 b hb
  · have hb' : b ≠ l := fun w => by
      rw [w, hH2] at q
      cases q
    rw [upd_ne hb']
    exact ok2.2.2 b ys q
end
/-- one argument, read where hidden things stand -/
theorem eam_dat {X : Cx} {φ : Fx} {ρ : Rho} {hs : Hs} {e : Expr} {P : Pr} (h : Em X φ ρ hs e (fun v G H => Stt φ hs G H ∧ P.p v G)) (hs1 : starEach [e] X.env = (false, eval e X.env) :: starEach [] X.env := by rfl) : Eam X φ ρ hs [e] (fun vs G H => Stt φ hs G H ∧ AllP [P] vs G) := fun σ G H S kn Q z =>
  eam_one h hs1 σ G H S kn Q fun vs G2 H2 s ⟨v, e, S2, r⟩ => z vs G2 H2 s ⟨S2, by rw [e]; exact .cons r .nil⟩
/-! ### books -/
structure BkOk (K : PySem.W.Frag) (mg : Str → Option Value) (C : Addr) : Prop where
  at_ : mg "Book" = some (.ref C)
  cls : Cls K C
  n1 : NoAttr K C "own_sea"
  n2 : NoAttr K C "own_kept"
  n3 : NoAttr K C "own_past"
structure Bk where
  a : Addr
  dx : Addr
  pa : Addr
  sea : Sea
  h : Nat
  kept : List Notice
  past : List (List Notice)
abbrev notP (K : PySem.W.Frag) (ns : List Notice) : Pr := dP K (.list (ns.map noticeD))
abbrev bkF (K : PySem.W.Frag) (sea : Sea) (kept : List Notice) (pst : Pr) : List (Str × Pr) := [("own_sea", dP K (seaD sea)), ("own_kept", notP K kept), ("own_past", pst)]
abbrev hsB (K : PySem.W.Frag) (C : Addr) (b : Bk) : Hs := [(b.a, iHP C b.dx (bkF K b.sea b.kept (eP (.ref b.pa)))), (b.pa, lHP (b.past.map (notP K)))]
abbrev anyP : Pr := ⟨fun _ _ => True, fun _ _ => trivial⟩
/-- a book, seen -/
abbrev bookP (K : PySem.W.Frag) (C : Addr) (sea : Sea) (kept : List Notice) : Pr := bkP C (bkF K sea kept anyP)
theorem imp_book {K : PySem.W.Frag} {C : Addr} {sea : Sea} {kept : List Notice} {pst : Pr} : Imp (bkP C (bkF K sea kept pst)) (bookP K C sea kept) := fun v H h => by
  obtain ⟨a, dx, vs, h1, h2, h3⟩ := h
  refine ⟨a, dx, vs, h1, h2, ?_⟩
  cases h3 with
  | cons a1 t =>
    cases t with
    | cons a2 t =>
      cases t with
      | cons a3 t => exact .cons a1 (.cons a2 (.cons ⟨a3.1, trivial⟩ t))
section
variable {P : Program} {w : World} {K : PySem.W.Frag} {mg : Str → Option Value} {base : Heap}
theorem fn_mk {α : Type} {bx : α → List Addr} {pre : α → Prop} {As : α → List Pr} {R : α → Pr} {x qual : Str} {params : Arguments} {body : List Stmt} {scope : Scope} {f : Addr} {fd : FuncData} {N ps : List Str} {k : Nat} (F : FunD K x qual params body scope [] [] f fd) (S : FnScope N ps scope)
    (hl : ∀ z, (As z).length = ps.length)
    (h : ∀ (cdv : Value) (A : Around) (outer : List Env) (s : Shared) (H : Hp) (E : XK), Room k (A.deeper (envOfC qual scope s.heap.objs.size f cdv)) → ∀ z, pre z → Sb (cxOf CX0 P w K mg base N qual scope f cdv A outer s H E).nox (bx z) (rho0 N (As z)) body (R z)) :
    FnOk P w K mg base CX0 (k + 1) f fd ps (spB bx pre As R) := by
  refine F.ok S (fun vs H Q E hq => ?_) fun cdv A outer s H vs Q E hr hq => ?_
  · obtain ⟨z, G, _, _, r, _⟩ := hq
    rw [← r.len, hl]
  · obtain ⟨z, G, hz, eg, r, q⟩ := hq
    exact ⟨_, PSs.nox wb_ps, h cdv A outer s H E hr z hz (L2.start N vs) G H eg (kn_start r) _ q fun σ' H2 s hn => q .non H2 s hn⟩
end
end Lk

/-! W9: the methods of Book. -/
namespace Lk
open PySem PySem.Spec PyProof.Rows L2 PySem.W
section
variable {P : Program} {w : World} {K : PySem.W.Frag} {mg : Str → Option Value} {base : Heap} {C : Addr}
theorem m_become (T : TX K mg) (BK : BkOk K mg C) (MT : MetT K C "become" "Book.become" s_Book_become) : CalM P w K mg base C 1 "become" ["self", "kept"] (spM (α := Bk × List Notice) (fun _ => []) (fun z => z.1.past.length < 1000 ∧ z.2.length ≤ 40 ∧ (z.2.map (·.num)).Nodup) (fun z => [eP (.ref z.1.a), notP K z.2]) (fun z => hsB K C z.1) fun z v G hs' => v = .non ∧ hs' = hsB K C { z.1 with kept := z.2.mergeSort numLe, past := z.1.past ++ [z.1.kept] }) := by
  obtain ⟨f, fd, hm, F⟩ := MT
  refine ⟨f, fd, hm, F.bindsN fun _ _ _ _ _ _ us hl => match us, hl with | [_, _], _ => rfl, fn_mkM F sc_Book_become (fun _ => rfl) fun cdv A outer s H E hr z hz φ D hB hD hN => ?_⟩
  obtain ⟨b, ns⟩ := z
  obtain ⟨h1, h2, h3⟩ := hz
  dsimp only at h1 h2 h3
  have hu := hr.units
  refine m_st (sm_expr (em_appendM (i := 1) (P := notP K b.kept) rfl (by rw [List.length_map]; exact Nat.lt_trans h1 (by decide)) (em_fld (i := 0) (P := eP (.ref b.pa)) BK.cls BK.n3 rfl (by rfl) (em_ref (ed_var 0))) (em_fld (i := 0) BK.cls BK.n2 rfl (by rfl) (em_ref (ed_var 0))))) fun σ3 G3 H3 f3 => ?_
  obtain ⟨v3, S3, k3⟩ := f3
  refine m_st (sm_setF (i := 0) BK.cls BK.n2 rfl (by show 3 < 1000; decide) (em_ed (ed_d (d' := .list ((ns.mergeSort numLe).map noticeD)) ?_ (ed_sorted (ds := ns.map noticeD) hu (by rfl) T.z_sorted (ed_var 1) (can_firsts (firsts_notices (nd_inj h3))) ?_))) (em_ref (ed_var 0))) (fun σ4 G4 H4 f4 => ?_) σ3 G3 H3 S3.1 k3
  · exact congrArg PyData.list (sort_notices ns)
  · intro d hd
    obtain ⟨n, _, rfl⟩ := List.mem_map.mp hd
    exact Nat.le_trans (okD_notice n).2 (by decide)
  · refine m_nil (fun σ5 G5 H5 S5 k5 => ?_) σ4 G4 H4 f4.1 f4.2
    refine hN σ5 G5 H5 _ S5 ⟨rfl, ?_⟩
    simp only [hsB, List.map_append, List.map_cons, List.map_nil]
    rfl
theorem any_notice {ns : List Notice} {n : Notice} (h : n.num ∉ ns.map (·.num)) : ((ns.map noticeD).any fun z => PyData.eqv z (noticeD n)) = false := by
  rw [List.any_eq_false]
  intro d hd
  obtain ⟨m, hm, rfl⟩ := List.mem_map.mp hd
  have : m.num ≠ n.num := fun e => h (List.mem_map.mpr ⟨m, hm, e⟩)
  simp [noticeD, PyData.eqv, PyData.eqvAll, this]
theorem any_int {ns : List Int} {n : Int} : ((ns.map PyData.int).any fun z => PyData.eqv z (.int n)) = decide (n ∈ ns) := by
  rw [List.any_map, Bool.eq_iff_iff, List.any_eq_true]
  simp only [Function.comp, PyData.eqv, decide_eq_true_eq]
  constructor
  · rintro ⟨x, hx, e⟩
    have e : x = n := by simpa using e
    exact e ▸ hx
  · intro h
    exact ⟨n, h, by simp⟩
theorem m_take_in (T : TX K mg) (BK : BkOk K mg C) (MT : MetT K C "become" "Book.become" s_Book_become) (MT2 : MetT K C "take_in" "Book.take_in" s_Book_take_in) : CalM P w K mg base C 6 "take_in" ["self", "notice"] (spM (α := Bk × Notice) (fun _ => []) (fun z => SeaOk z.1.sea z.1.h ∧ NoticeOk z.1.sea z.1.h z.2 ∧ z.1.past.length < 1000 ∧ z.1.kept.length < 30 ∧ (z.1.kept.map (·.num)).Nodup ∧ z.2.num ∉ z.1.kept.map (·.num)) (fun z => [eP (.ref z.1.a), dP K (noticeD z.2)]) (fun z => hsB K C z.1) fun z v G hs' => v = .non ∧ hs' = hsB K C { z.1 with kept := (z.1.kept ++ [z.2]).mergeSort numLe, past := z.1.past ++ [z.1.kept] }) := by
  obtain ⟨f, fd, hm, F⟩ := MT2
  have c1 := c_notice_in (P := P) (w := w) (base := base) T
  have c2 := m_become (P := P) (w := w) (base := base) T BK MT
  refine ⟨f, fd, hm, F.bindsN fun _ _ _ _ _ _ us hl => match us, hl with | [_, _], _ => rfl, fn_mkM F sc_Book_take_in (fun _ => rfl) fun cdv A outer s H E hr z hz φ D hB hD hN => ?_⟩
  obtain ⟨b, n⟩ := z
  obtain ⟨S, N, h1, h2, h3, h4⟩ := hz
  dsimp only at S N h1 h2 h3 h4
  have hu := hr.units
  have hu65 : (A.deeper (envOfC (Str.ofString "Book.take_in") (defScope s_Book_take_in) s.heap.objs.size f cdv)).units + 65 < cLine := by have := hr.un; omega
  have hns : ∀ d ∈ b.kept.map noticeD, okD d 3 := fun d hd => by
    obtain ⟨m, _, rfl⟩ := List.mem_map.mp hd
    exact okD_notice m
  have hni : ∀ d ∈ (b.kept.map (·.num)).map PyData.int, okD d 0 := fun d hd => by
    obtain ⟨m, _, rfl⟩ := List.mem_map.mp hd
    exact okD_int _ _
  refine m_no (etm_show (fs := bkF K b.sea b.kept (eP (.ref b.pa))) (i := 0) 0 rfl rfl (et_to ?_ (et_not (et_val (k := true) (ed_call c1 hr (by decide) (b.sea, b.h, n) ⟨S, N⟩ (by rfl) (ea_cons (ed_fld (fs := bkF K b.sea b.kept (eP (.ref b.pa))) BK.cls BK.n1 (by rfl) (ed_var 0)) (ea_cons (ed_var 1) ea_nil))))))) ?_
  · rfl
  refine m_no (etm_show (fs := bkF K b.sea b.kept (eP (.ref b.pa))) (i := 0) 0 rfl rfl (et_to (any_notice h4) (et_inL (d := noticeD n) hu65 (ed_var 1) (ed_fld (fs := bkF K b.sea b.kept (eP (.ref b.pa))) BK.cls BK.n2 (by rfl) (ed_var 0)) (okD_notice n).shaped (okD_list hns).shaped))) ?_
  refine m_no (etm_show (fs := bkF K b.sea b.kept (eP (.ref b.pa))) (i := 0) 0 rfl rfl (et_to ?_ (et_inL (d := .int n.num) (ds := (b.kept.map (·.num)).map PyData.int) hu65 (ed_ixTd (ed_var 1) ed_int (by rfl)) (ed_d ?_ (ed_mapD rfl sc_Book_take_in.nd [("one", 2)] (blkOk_by (N := n_Book_take_in) (sc := defScope s_Book_take_in) (by decide +kernel)) b.kept (fun m => dP K (noticeD m)) (fun m => .int m.num) (es_listM (g := noticeD) (ed_fld (fs := bkF K b.sea b.kept (eP (.ref b.pa))) BK.cls BK.n2 (by rfl) (ed_var 0))) (by omega) fun m hm => ⟨[2], _, by simp, fun s H C cl fp => ⟨tg_name 2 sc_Book_take_in.nd, ets_nil, fun _ => ed_ixTd (ed_var 2) ed_int (by rfl)⟩⟩)) (okD_int _ 0).shaped (okD_list hni).shaped))) ?_
  · rw [any_int]
    exact decide_eq_false h4
  · rw [List.map_map]
    rfl
  refine m_no (etm_show (fs := bkF K b.sea b.kept (eP (.ref b.pa))) (i := 0) 0 rfl rfl (et_to ?_ (et_eqi (ed_lenLd (by rfl) T.z_len (ed_fld (fs := bkF K b.sea b.kept (eP (.ref b.pa))) BK.cls BK.n2 (by rfl) (ed_var 0))) (ed_gint (by rfl) T.i_MOST_NOTICES)))) ?_
  · rw [List.length_map]
    exact decide_eq_false (by omega)
  have nd2 : ((b.kept ++ [n]).map (·.num)).Nodup := by
    rw [List.map_append]
    refine List.nodup_append.mpr ⟨h3, by simp, fun x hx y hy e => ?_⟩
    subst e
    have : x = n.num := by simpa using hy
    exact h4 (this ▸ hx)
  refine m_st (sm_expr (em_methM (i := 0) (fs := bkF K b.sea b.kept (eP (.ref b.pa))) (oth := []) BK.cls c2 hr (by decide) (b, b.kept ++ [n]) ⟨h1, by simp; omega, nd2⟩ (fun _ h => by cases h) (by rw [List.append_nil]) rfl rfl (by rfl) (em_ref (ed_var 0)) (eam_dat (em_show (fs := bkF K b.sea b.kept (eP (.ref b.pa))) (i := 0) 0 rfl rfl (ed_d ?_ (ed_catLd (ed_fld (fs := bkF K b.sea b.kept (eP (.ref b.pa))) BK.cls BK.n2 (by rfl) (ed_var 0)) (ed_lstd (ds := [noticeD n]) (ea_cons (ed_var 1) ea_nil)) ?_)))))) fun σ3 G3 H3 f3 => ?_
  · rw [List.map_append]
    rfl
  · simp
    omega
  · obtain ⟨v, ⟨hs', S3, rfl, rfl⟩, k3⟩ := f3
    rw [List.append_nil] at S3
    exact m_nil (fun σ5 G5 H5 S5 k5 => hN σ5 G5 H5 _ S5 ⟨rfl, rfl⟩) σ3 G3 H3 S3 k3
end
end Lk

/-! W10: the methods of Book, on. -/
namespace Lk
open PySem PySem.Spec PyProof.Rows L2 PySem.W
section
variable {P : Program} {w : World} {K : PySem.W.Frag} {mg : Str → Option Value} {base : Heap} {C : Addr}
theorem m_strike (T : TX K mg) (BK : BkOk K mg C) (MT : MetT K C "become" "Book.become" s_Book_become) (MT2 : MetT K C "strike" "Book.strike" s_Book_strike) : CalM P w K mg base C 3 "strike" ["self", "number"] (spM (α := Bk × Int) (fun _ => []) (fun z => z.1.past.length < 1000 ∧ z.1.kept.length ≤ 30 ∧ (z.1.kept.map (·.num)).Nodup ∧ (1 ≤ z.2 ∧ z.2 ≤ 99) ∧ z.2 ∈ z.1.kept.map (·.num)) (fun z => [eP (.ref z.1.a), dP K (.int z.2)]) (fun z => hsB K C z.1) fun z v G hs' => v = .non ∧ hs' = hsB K C { z.1 with kept := (z.1.kept.filter fun n => !decide (n.num = z.2)).mergeSort numLe, past := z.1.past ++ [z.1.kept] }) := by
  obtain ⟨f, fd, hm, F⟩ := MT2
  have c1 := c_is_whole (P := P) (w := w) (base := base) T
  have c2 := m_become (P := P) (w := w) (base := base) T BK MT
  refine ⟨f, fd, hm, F.bindsN fun _ _ _ _ _ _ us hl => match us, hl with | [_, _], _ => rfl, fn_mkM F sc_Book_strike (fun _ => rfl) fun cdv A outer s H E hr z hz φ D hB hD hN => ?_⟩
  obtain ⟨b, n⟩ := z
  obtain ⟨h1, h2, h3, h4, h5⟩ := hz
  dsimp only at h1 h2 h3 h4 h5
  have hu := hr.units
  have hu65 : (A.deeper (envOfC (Str.ofString "Book.strike") (defScope s_Book_strike) s.heap.objs.size f cdv)).units + 65 < cLine := by have := hr.un; omega
  have hni : ∀ d ∈ (b.kept.map (·.num)).map PyData.int, okD d 0 := fun d hd => by
    obtain ⟨m, _, rfl⟩ := List.mem_map.mp hd
    exact okD_int _ _
  refine m_no (etm_show (fs := bkF K b.sea b.kept (eP (.ref b.pa))) (i := 0) 0 rfl rfl (et_to ?_ (ew_et (ew_or (et_not (et_val (ed_call c1 hr (by decide) (n, 1, 99) trivial (by rfl) (ea_cons (ed_var 1) (ea_cons ed_int (ea_cons ed_int ea_nil)))))) fun _ => ew_or1 (et_notInL (d := .int n) (ds := (b.kept.map (·.num)).map PyData.int) hu65 (ed_var 1) (ed_d ?_ (ed_mapD rfl sc_Book_strike.nd [("one", 2)] (blkOk_by (N := n_Book_strike) (sc := defScope s_Book_strike) (by decide +kernel)) b.kept (fun m => dP K (noticeD m)) (fun m => .int m.num) (es_listM (g := noticeD) (ed_fld (fs := bkF K b.sea b.kept (eP (.ref b.pa))) BK.cls BK.n2 (by rfl) (ed_var 0))) (by omega) fun m hm => ⟨[2], _, by simp, fun s H C cl fp => ⟨tg_name 2 sc_Book_strike.nd, ets_nil, fun _ => ed_ixTd (ed_var 2) ed_int (by rfl)⟩⟩)) (okD_int _ 0).shaped (okD_list hni).shaped))))) ?_
  · rw [any_int, decide_eq_true h5]
    simp [h4.1, h4.2]
  · rw [List.map_map]
    rfl
  have hl : (b.kept.filter fun m => !decide (m.num = n)).length ≤ 30 := Nat.le_trans (List.length_filter_le _ _) h2
  refine m_st (sm_expr (em_methM (i := 0) (fs := bkF K b.sea b.kept (eP (.ref b.pa))) (oth := []) BK.cls c2 hr (by decide) (b, b.kept.filter fun m => !decide (m.num = n)) ⟨h1, by show (b.kept.filter fun m => !decide (m.num = n)).length ≤ 40; omega, h3.sublist ((List.filter_sublist).map _)⟩ (fun _ h => by cases h) (by rw [List.append_nil]) rfl rfl (by rfl) (em_ref (ed_var 0)) (eam_dat (em_show (fs := bkF K b.sea b.kept (eP (.ref b.pa))) (i := 0) 0 rfl rfl (ed_compD rfl sc_Book_strike.nd [("one", 2)] (blkOk_by (N := n_Book_strike) (sc := defScope s_Book_strike) (by decide +kernel)) b.kept (fun m => dP K (noticeD m)) (fun m => !decide (m.num = n)) noticeD (es_listM (g := noticeD) (ed_fld (fs := bkF K b.sea b.kept (eP (.ref b.pa))) BK.cls BK.n2 (by rfl) (ed_var 0))) (by omega) fun m hm => ⟨[2], _, by simp, fun s H C cl fp => ⟨tg_name 2 sc_Book_strike.nd, ets_one (et_nei (ed_ixTd (ed_var 2) ed_int (by rfl)) (ed_var 1)), fun _ => ed_var 2⟩⟩))))) fun σ3 G3 H3 f3 => ?_
  obtain ⟨v, ⟨hs', S3, rfl, rfl⟩, k3⟩ := f3
  rw [List.append_nil] at S3
  exact m_nil (fun σ5 G5 H5 S5 k5 => hN σ5 G5 H5 _ S5 ⟨rfl, rfl⟩) σ3 G3 H3 S3 k3
theorem m_undo (T : TX K mg) (BK : BkOk K mg C) (MT2 : MetT K C "undo" "Book.undo" s_Book_undo) : CalM P w K mg base C 1 "undo" ["self"] (spM (α := Bk × List Notice × List (List Notice)) (fun _ => []) (fun z => z.1.past = z.2.2 ++ [z.2.1] ∧ (∀ ns ∈ z.1.past, ns.length ≤ 40) ∧ z.1.past.length ≤ 1000) (fun z => [eP (.ref z.1.a)]) (fun z => hsB K C z.1) fun z v G hs' => v = .non ∧ hs' = hsB K C { z.1 with kept := z.2.1, past := z.2.2 }) := by
  obtain ⟨f, fd, hm, F⟩ := MT2
  refine ⟨f, fd, hm, F.bindsN fun _ _ _ _ _ _ us hl => match us, hl with | [_], _ => rfl, fn_mkM F sc_Book_undo (fun _ => rfl) fun cdv A outer s H E hr z hz φ D hB hD hN => ?_⟩
  obtain ⟨⟨ba, dx, pa, sea, h, kept, past⟩, n, ps⟩ := z
  obtain ⟨h1, h2, h3⟩ := hz
  dsimp only at h1 h2 h3
  subst h1
  have hu := hr.units
  have hp : ∀ d ∈ (ps ++ [n]).map (fun ns : List Notice => PyData.list (ns.map noticeD)), okD d 4 := fun d hd => by
    obtain ⟨m, hm, rfl⟩ := List.mem_map.mp hd
    exact okD_list fun e he => by
      obtain ⟨m2, _, rfl⟩ := List.mem_map.mp he
      exact okD_notice m2
  refine m_no (etm_show2 (f := "own_past") (fs := bkF K sea kept (eP (.ref pa))) (Ps := (ps ++ [n]).map (notP K)) (i := 0) (i2 := 1) 0 rfl rfl (fun G G2 vs e r q => ?_) rfl (et_to ?_ (et_eqD (d := .list ((ps ++ [n]).map fun ns : List Notice => PyData.list (ns.map noticeD))) (e := .list []) hu ((ed_fld (P := lP K ((ps ++ [n]).map (notP K))) (fs := bkF K sea kept (lP K ((ps ++ [n]).map (notP K)))) BK.cls BK.n3 (by rfl) (ed_var 0)).imp ?_) (ed_lstd (ds := []) ea_nil) (okD_list hp).shaped (by rfl)))) ?_
  · cases q with
    | cons a1 t =>
      cases t with
      | cons a2 t =>
        cases t with
        | cons a3 t =>
          cases t
          refine .cons ⟨a1.1, (dP K (seaD sea)).up e a1.2⟩ (.cons ⟨a2.1, (notP K kept).up e a2.2⟩ (.cons ⟨a3.1, ?_⟩ .nil))
          have : _ = V.ref pa := a3.2
          rw [this]
          exact r
  · rw [eqv_nil]
    exact decide_eq_false (by simp)
  · have := imp_dl (K := K) (ds := (ps ++ [n]).map fun ns : List Notice => PyData.list (ns.map noticeD))
    rw [List.map_map] at this
    exact this
  have hpop : (hsB K C ⟨ba, dx, pa, sea, h, kept, ps ++ [n]⟩)[1]? = some (pa, lHP (ps.map (notP K) ++ [notP K n])) := by
    simp
  refine m_st (sm_setF (hs2 := hsB K C ⟨ba, dx, pa, sea, h, kept, ps⟩) (i := 0) BK.cls BK.n2 rfl (by show 3 < 1000; decide) (em_popM (i := 1) (P := notP K n) (Ps := ps.map (notP K)) hpop (em_fld (i := 0) (P := eP (.ref pa)) BK.cls BK.n3 rfl (by rfl) (em_ref (ed_var 0)))) (em_ref (ed_var 0))) fun σ4 G4 H4 f4 => ?_
  exact m_nil (fun σ5 G5 H5 S5 k5 => hN σ5 G5 H5 _ S5 ⟨rfl, rfl⟩) σ4 G4 H4 f4.1 f4.2
theorem m_notices_now (T : TX K mg) (BK : BkOk K mg C) (MT2 : MetT K C "notices_now" "Book.notices_now" s_Book_notices_now) : CalM P w K mg base C 1 "notices_now" ["self"] (spP (α := Sea × List Notice) (fun z => True) (fun z => [bookP K C z.1 z.2]) fun z => notP K z.2) := by
  obtain ⟨f, fd, hm, F⟩ := MT2
  refine ⟨f, fd, hm, F.bindsN fun _ _ _ _ _ _ us hl => match us, hl with | [_], _ => rfl, fn_mk F sc_Book_notices_now (fun _ => rfl) fun cdv A outer s H E hr z hz => Sr.b ?_⟩
  exact sr_ret ((ed_listL (by rfl) T.z_list ((ed_fld (P := notP K z.2) (fs := bkF K z.1 z.2 anyP) BK.cls BK.n2 (by rfl) (ed_var 0)).imp imp_ld)).imp imp_dl)
theorem m_mark_now (T : TX K mg) (DK : DeedsOk K w mg) (BK : BkOk K mg C) (MT2 : MetT K C "mark_now" "Book.mark_now" s_Book_mark_now) : CalM P w K mg base C 10 "mark_now" ["self", "held", "day", "mark"] (spP (α := Sea × Nat × List Notice × Int × Int × Int) (fun z => AskOk z.1 z.2.1 z.2.2.1 z.2.2.2.1 ∧ (0 ≤ z.2.2.2.2.1 ∧ z.2.2.2.2.1 ≤ 400) ∧ (1 ≤ z.2.2.2.2.2 ∧ z.2.2.2.2.2 ≤ 12)) (fun z => [bookP K C z.1 z.2.2.1, dP K (.int z.2.2.2.1), dP K (.int z.2.2.2.2.1), dP K (.int z.2.2.2.2.2)])
    fun z => dP K (placeD z.2.1 (goneF z.2.1 z.1 z.2.2.1 z.2.2.2.1 z.2.2.2.2.1).1 z.2.2.2.2.2 z.2.2.2.2.1)) := by
  obtain ⟨f, fd, hm, F⟩ := MT2
  have c1 := c_mark_at (P := P) (w := w) (base := base) T DK
  refine ⟨f, fd, hm, F.bindsN fun _ _ _ _ _ _ us hl => match us, hl with | [_, _, _, _], _ => rfl, fn_mk F sc_Book_mark_now (fun _ => rfl) fun cdv A outer s H E hr z hz => Sr.b ?_⟩
  obtain ⟨sea, h, ns, held, day, mark⟩ := z
  exact sr_ret (ed_call c1 hr (by decide) (sea, h, ns, held, day, mark) hz (by rfl) (ea_cons (ed_fld (fs := bkF K sea ns anyP) BK.cls BK.n1 (by rfl) (ed_var 0)) (ea_cons (ed_fld (fs := bkF K sea ns anyP) BK.cls BK.n2 (by rfl) (ed_var 0)) (ea_cons (ed_var 1) (ea_cons (ed_var 2) (ea_cons (ed_var 3) ea_nil))))))
theorem m_channel_now (T : TX K mg) (DK : DeedsOk K w mg) (BK : BkOk K mg C) (MT2 : MetT K C "channel_now" "Book.channel_now" s_Book_channel_now) : CalM P w K mg base C 10 "channel_now" ["self", "held", "day", "draught", "night"] (spP (α := Sea × Nat × List Notice × Int × Int × Int × Bool) (fun z => AskOk z.1 z.2.1 z.2.2.1 z.2.2.2.1 ∧ (0 ≤ z.2.2.2.2.1 ∧ z.2.2.2.2.1 ≤ 400) ∧ (1 ≤ z.2.2.2.2.2.1 ∧ z.2.2.2.2.2.1 ≤ 9)) (fun z => [bookP K C z.1 z.2.2.1, dP K (.int z.2.2.2.1), dP K (.int z.2.2.2.2.1), dP K (.int z.2.2.2.2.2.1), dP K (.bool z.2.2.2.2.2.2)])
    fun z => dP K (.tuple (openD (goneF z.2.1 z.1 z.2.2.1 z.2.2.2.1 z.2.2.2.2.1).1.1 (goneF z.2.1 z.1 z.2.2.1 z.2.2.2.1 z.2.2.2.2.1).1.2 z.2.2.2.2.2.1 z.2.2.2.2.2.2))) := by
  obtain ⟨f, fd, hm, F⟩ := MT2
  have c1 := c_channel_of (P := P) (w := w) (base := base) T DK
  refine ⟨f, fd, hm, F.bindsN fun _ _ _ _ _ _ us hl => match us, hl with | [_, _, _, _, _], _ => rfl, fn_mk F sc_Book_channel_now (fun _ => rfl) fun cdv A outer s H E hr z hz => Sr.b ?_⟩
  obtain ⟨sea, h, ns, held, day, draught, night⟩ := z
  exact sr_ret (ed_call c1 hr (by decide) (sea, h, ns, held, day, draught, night) hz (by rfl) (ea_cons (ed_fld (fs := bkF K sea ns anyP) BK.cls BK.n1 (by rfl) (ed_var 0)) (ea_cons (ed_fld (fs := bkF K sea ns anyP) BK.cls BK.n2 (by rfl) (ed_var 0)) (ea_cons (ed_var 1) (ea_cons (ed_var 2) (ea_cons (ed_var 3) (ea_cons (ed_var 4) ea_nil)))))))
theorem m_void_now (T : TX K mg) (DK : DeedsOk K w mg) (BK : BkOk K mg C) (MT2 : MetT K C "void_now" "Book.void_now" s_Book_void_now) : CalM P w K mg base C 9 "void_now" ["self", "held"] (spP (α := Sea × Nat × List Notice × Int) (fun z => AskOk z.1 z.2.1 z.2.2.1 z.2.2.2) (fun z => [bookP K C z.1 z.2.2.1, dP K (.int z.2.2.2)])
    fun z => dP K (.list (voidsD (goneF z.2.1 z.1 z.2.2.1 z.2.2.2 400).2))) := by
  obtain ⟨f, fd, hm, F⟩ := MT2
  have c1 := c_void (P := P) (w := w) (base := base) T DK
  refine ⟨f, fd, hm, F.bindsN fun _ _ _ _ _ _ us hl => match us, hl with | [_, _], _ => rfl, fn_mk F sc_Book_void_now (fun _ => rfl) fun cdv A outer s H E hr z hz => Sr.b ?_⟩
  obtain ⟨sea, h, ns, held⟩ := z
  exact sr_ret (ed_call c1 hr (by decide) (sea, h, ns, held) hz (by rfl) (ea_cons (ed_fld (fs := bkF K sea ns anyP) BK.cls BK.n1 (by rfl) (ed_var 0)) (ea_cons (ed_fld (fs := bkF K sea ns anyP) BK.cls BK.n2 (by rfl) (ed_var 0)) (ea_cons (ed_var 1) ea_nil))))
end
end Lk

/-! Da15: making a book. -/
namespace Lk
open PySem PySem.Spec PyProof.Rows L2 PySem.W
section
variable {X : Cx} {φ : Fx} {ρ : Rho} {hs oth : Hs} {e o a : Expr} {es : List Expr} {P : Pr} {Ps : List Pr} {f m : Str} {pos apos p cpos : Pos} {C dx : Addr} {fs : List (Str × Pr)}
/-- o.f = e, e a new hidden thing -/
theorem sm_setFN {q : HP} {i : Nat} {A : Addr} {pos' : Pos} (c : Cls X.K C) (n : NoAttr X.K C f) (hi : hs[i]? = some (A, iHP C dx fs)) (hl : fs.length < 1000) (hv : Em X φ ρ hs e (fun v G H => ∃ p, v = .ref p ∧ Stt φ ((p, q) :: hs) G H)) (ho : ∀ p, Em X φ ρ ((p, q) :: hs) o (fun v G H => Stt φ ((p, q) :: hs) G H ∧ v = .ref A))
    (hs1 : swapsWith e (some (.Attribute o f pos')) pos.line X.env = pure false := by rfl) : Sm X φ ρ hs (.Assign [.Attribute o f pos'] e pos) (fun σ G H => (∃ p, Stt φ ((p, q) :: hs.set i (A, iHP C dx (putP f (eP (.ref p)) fs))) G H) ∧ Kn σ G ρ) := fun D σ G H S kn z =>
  ps_ws (ps_fld we_pe we_pe hs1) (hv σ G H S kn _ fun y G1 H1 s1 ⟨p, r1, S1⟩ => ho p σ G1 H1 S1 (kn.up s1) _ fun x G2 H2 s2 ⟨S2, r2⟩ => by
    subst r2 r1
    obtain ⟨o1, g1, vs1, rfl, g2⟩ := S2.get (i := i + 1) (by simpa using hi)
    have := S2.put (i := i + 1) (p := A) (q' := iHP C dx (putP f (eP (.ref p)) fs)) (o := .ins C dx (putF f (.ref p) vs1)) (by simpa using hi) ⟨_, rfl, g2.put rfl⟩
    exact ⟨A, C, dx, vs1, rfl, g1, c, n, by rw [← Paired.length g2]; exact hl, z σ G2 _ (s1.trans s2) ⟨⟨p, this⟩, kn.up (s1.trans s2)⟩⟩)
/-- C(..): a new hidden instance -/
theorem em_make {x : Str} {f : Addr} {fd : FuncData} {ps : List Str} {k j : Nat} {α : Type} {bx : α → List Addr} {pre : α → Prop} {As : α → List Pr} {hin : α → Hs} {Post : α → V → Hp → Hs → Prop} (M : Mk X.K C f) (F : FnOk X.prog X.w X.K X.mg X.base CX0 k f fd ps (spM bx pre As hin Post)) (hb : Binds X.K fd ps []) (hr : Room (j + 1) X.A) (hk : k ≤ j) (hg : Gl X x) (hm : X.mg x = some (.ref C))
    (z : Addr → Addr → α) (hz : ∀ A dx, pre (z A dx)) (hB : ∀ A dx, ∀ b ∈ bx (z A dx), b ∈ φ.B) (hin' : ∀ A dx, hin (z A dx) = [(A, iHP C dx [])]) (hA : ∀ A dx, As (z A dx) = eP (.ref A) :: Ps) (hP : ∀ A dx v G hs', Post (z A dx) v G hs' → v = .non)
    (ha : Ea X φ.B ρ (e :: es) Ps)
    (hdb : (x == ("__debug__" : Str)) = false := by decide) (he : starEach (e :: es) X.env = (false, eval e X.env) :: starEach es X.env := by rfl) (hpl : (backTo pos (starEach es X.env)).any (·.1) = false := by rfl) :
    Em X φ ρ hs (.Call (.Name x p) (e :: es) [] pos) (fun v G H => ∃ A dx hs', v = .ref A ∧ Stt φ (hs' ++ hs) G H ∧ Post (z A dx) .non G hs') := by
  intro σ G H S kn Q q
  refine pe_we (pe_make M F (hr.mono (Nat.succ_le_succ hk)) hg hm hb .nil pass0 wa_pa hdb he hpl) (ha σ G H S.ok kn _ fun vs H1 s1 r1 => ?_)
  intro A dx hA1 hd1 hne
  rw [List.append_nil]
  have S1 := S.ev s1
  have S2 : Stt φ hs (upd (ext G H H1) dx (.own A)) (upd H1 dx (.own A)) := S1.newG hd1
  have S3 : Stt φ ((A, iHP C dx []) :: hs) (upd (ext G H H1) dx (.own A)) (upd (upd H1 dx (.own A)) A (.ins C dx [])) := S2.new (by rw [upd_ne (Ne.symm hne)]; exact hA1) ⟨[], rfl, .nil⟩
  obtain ⟨S4, back⟩ := S3.call (cs := [(A, iHP C dx [])]) (oth := hs) (List.Perm.refl _) (hB A dx)
  have e1 : Same (ext G H H1) (upd (ext G H H1) dx (.own A)) := snew (snone S1.ok.1 hd1)
  refine ⟨z A dx, _, _, hz A dx, by rw [hin']; exact S4, by rw [hA]; exact .cons rfl (r1.up e1), fun v G4 H4 hs' S5 post => ?_⟩
  have ev := hP _ _ _ _ _ post
  subst ev
  exact ⟨rfl, q _ G4 H4 (((ext_up S.ok).trans e1).trans S5.up) ⟨A, dx, hs', rfl, back _ _ _ S5, post⟩⟩
end
section
variable {P : Program} {w : World} {K : PySem.W.Frag} {mg : Str → Option Value} {base : Heap} {C : Addr}
structure InitArg where
  a : Addr
  dx : Addr
  sea : Sea
  h : Nat
theorem fn_init (T : TX K mg) (BK : BkOk K mg C) {f : Addr} {fd : FuncData} (F : FunD K "__init__" "Book.__init__" (defArgs s_Book_init) (defBody s_Book_init) (defScope s_Book_init) [] [] f fd) : Binds K fd ["self", "sea"] [] ∧ FnOk P w K mg base CX0 5 f fd ["self", "sea"] (spM (α := InitArg) (fun _ => []) (fun z => SeaOk z.sea z.h) (fun z => [eP (.ref z.a), dP K (seaD z.sea)]) (fun z => [(z.a, iHP C z.dx [])]) fun z v G hs' => v = .non ∧ ∃ pa, hs' = hsB K C ⟨z.a, z.dx, pa, z.sea, z.h, [], []⟩) := by
  have c1 := c_need_sea (P := P) (w := w) (base := base) T
  refine ⟨F.bindsN fun _ _ _ _ _ _ us hl => match us, hl with | [_, _], _ => rfl, fn_mkM F sc_Book_init (fun _ => rfl) fun cdv A outer s H E hr z hz φ D hB hD hN => ?_⟩
  refine m_ss (ss_expr (ed_call c1 hr (by decide) (z.sea, z.h) hz (by rfl) (ea_cons (ed_var 1) ea_nil))) ?_
  refine m_st (sm_setF (i := 0) (P := dP K (seaD z.sea)) BK.cls BK.n1 rfl (by decide) (em_ed (ed_var 1)) (em_ref (ed_var 0))) fun σ1 G1 H1 f1 => ?_
  refine m_st (sm_setF (i := 0) (P := notP K []) BK.cls BK.n2 rfl (by show 1 < 1000; decide) (em_ed (ed_lstd (ds := []) ea_nil)) (em_ref (ed_var 0))) (fun σ2 G2 H2 f2 => ?_) σ1 G1 H1 f1.1 f1.2
  refine m_st (sm_setFN (i := 0) BK.cls BK.n3 rfl (by show 2 < 1000; decide) em_newL fun p => em_ref (ed_var 0)) (fun σ3 G3 H3 f3 => ?_) σ2 G2 H2 f2.1 f2.2
  obtain ⟨⟨p, S3⟩, k3⟩ := f3
  refine m_nil (fun σ5 G5 H5 S5 k5 => hN σ5 G5 H5 _ S5 ⟨rfl, p, rfl⟩) σ3 G3 H3 (S3.perm ?_) k3
  exact List.Perm.swap _ _ _
end
end Lk

/-! Da16: boxes read and written; what is known by bounds only; divmod, //, %, *. -/
namespace Lk
open PySem PySem.Spec PyProof.Rows L2
/-- some whole number within such bounds -/
abbrev iP (K : PySem.W.Frag) (S : Int → Prop) : Pr := xP S fun i => dP K (.int i)
section
variable {X : Cx} {B : List Addr} {ρ ρ' : Rho} {e o a b c : Expr} {es : List Expr} {P P1 P2 : Pr} {Ps : List Pr} {pos p pos' : Pos} {sts : List Stmt}
theorem kn_open {β : Type} {S : β → Prop} {F : β → Pr} {σ : L2.St} {G : Hp} {i : Nat} (hi : ρ[i]? = some (some (xP S F))) (k : Kn σ G ρ) : ∃ r, S r ∧ Kn σ G (ρ.set i (some (F r))) := by
  obtain ⟨v, hv, r, hr, rv⟩ := k.2 i _ hi
  refine ⟨r, hr, ?_⟩
  have := k.set (P := F r) i (v := v) rv
  have e3 : σ.set i (some v) = σ := by
    apply List.ext_getElem?
    intro j
    by_cases hij : i = j
    · subst hij
      rw [List.getElem?_set_self (List.getElem?_eq_some_iff.mp hv).1, hv]
    · rw [List.getElem?_set_ne hij]
  rw [e3] at this
  exact this
theorem sr_open {β : Type} {S : β → Prop} {F : β → Pr} (i : Nat) (hi : ρ[i]? = some (some (xP S F))) (h : ∀ r, S r → Sr X B (ρ.set i (some (F r))) sts P) : Sr X B ρ sts P := fun σ G H eg k D z => by
  obtain ⟨r, hr, k2⟩ := kn_open hi k
  exact h r hr σ G H eg k2 D z
theorem sn_open {β : Type} {S : β → Prop} {F : β → Pr} (i : Nat) (hi : ρ[i]? = some (some (xP S F))) (h : ∀ r, S r → Sn X B (ρ.set i (some (F r))) sts ρ') : Sn X B ρ sts ρ' := fun σ G H eg k D z => by
  obtain ⟨r, hr, k2⟩ := kn_open hi k
  exact h r hr σ G H eg k2 D z
theorem m_open {φ : Fx} {hs : Hs} {D : Ends} {β : Type} {S : β → Prop} {F : β → Pr} (i : Nat) (hi : ρ[i]? = some (some (xP S F))) (h : ∀ r, S r → M X φ (ρ.set i (some (F r))) hs sts D) : M X φ ρ hs sts D := fun σ G H St k => by
  obtain ⟨r, hr, k2⟩ := kn_open hi k
  exact h r hr σ G H St k2
/-- box[0] -/
theorem ed_box {A : Addr} (hb : A ∈ B) (ho : Ed X B ρ o (eP (.ref A))) (h0 : Ed X B ρ a (dP X.K (.int 0))) (hs : PlainIx a := by exact fun _ _ => rfl) : Ed X B ρ (.Subscript o a pos) (iP X.K fun n => 0 ≤ n) := fun σ G H eg k Q z =>
  pe_we (pe_ix ix_list we_pe we_pe hs) (two (Q := Q) ho h0 eg k fun x y H2 s1 s2 r1 r2 => by
    have r1 : x = .ref A := r1
    subst r1
    obtain ⟨_, ob, h2, n, hn, rfl⟩ := s2.2.1 A hb
    exact ⟨A, [.int n], 0, .int n, rfl, dp_int r2, .of h2, rfl, z _ H2 s1 ⟨n, hn, .int n⟩⟩)
/-- box[0] = e -/
theorem ss_box {A : Addr} {n : Int} (hb : A ∈ B) (hn : 0 ≤ n) (he : Ed X B ρ e (dP X.K (.int n))) (ho : Ed X B ρ o (eP (.ref A))) (h0 : Ed X B ρ a (dP X.K (.int 0))) (hs : swapsWithSole [.Subscript o a pos'] e pos.line X.env = pure false := by rfl) (hw : swappedStores [.Subscript o a pos'] e X.env = pure none := by rfl)
    (h1 : (assignEach [.Subscript o a pos'] X.env).map (·.2) = [assign (.Subscript o a pos') X.env] := by rfl)
    (ha : ∀ v, assign (.Subscript o a pos') X.env v = (do
      let ov ← holding [v] (eval o X.env)
      let iv ← holding [v, ov] (eval a X.env)
      standAt pos'
      holding [v, ov, iv] (setItem ov iv v)
      release [v, ov, iv] []) := by intro _; rfl) : Ss X B ρ (.Assign [.Subscript o a pos'] e pos) ρ := fun σ G H eg k D z =>
  ps_ws (ps_asg we_pe (pg_sub we_pe we_pe set_list ha) hs hw h1) (he σ G H eg k _ fun v H1 s1 r1 => ho σ _ H1 (ext_same eg s1) (k.up (ext_up eg)) _ fun x H2 s2 r2 => h0 σ _ H2 (ext_same (ext_same eg s1) s2) ((k.up (ext_up eg)).up (ext_up (ext_same eg s1))) _ fun y H3 s3 r3 => by
    have r2 : x = .ref A := r2
    subst r2
    have hv := dp_int r1
    subst hv
    have hy := dp_int r3
    subst hy
    have eg3 := ext_same eg ((s1.trans s2).trans s3)
    obtain ⟨_, ob, h2, m, hm, rfl⟩ := eg3.2.1 A hb
    have st : Stp B H (upd H3 A (.lst [.int n])) := fun a' o' q => by
      by_cases e : a' = A
      · subst e
        exact ⟨_, upd_same, .inr ⟨hb, fun _ => ⟨n, hn, rfl⟩⟩⟩
      · rw [upd_ne e]
        exact ((s1.trans s2).trans s3) a' o' q
    exact ⟨A, [.int m], 0, 0, rfl, rfl, h2, rfl, z σ _ st (k.up (ext_up eg))⟩)
/-! ### arithmetic on what is known by bounds -/
theorem iP_of {i : Int} {S : Int → Prop} (h : S i) : Imp (dP X.K (.int i)) (iP X.K S) := fun v H q => ⟨i, h, q⟩
theorem ed_opX {C : Int → Int → Prop} {g : Int → Int → Int} {op : Operator} {S T U : Int → Prop} (ho : OpR X (binaryOp op) (rI C fun i j => .int (g i j))) (ha : Ed X B ρ a (iP X.K S)) (hb : Ed X B ρ b (iP X.K T)) (hC : ∀ i j, S i → T j → C i j) (hU : ∀ i j, S i → T j → U (g i j)) : Ed X B ρ (.BinOp a op b pos) (iP X.K U) :=
  ed_op ho ha hb (gives_here fun x y G H eg r1 r2 Q z => by
    obtain ⟨i, h1, q1⟩ := r1
    obtain ⟨j, h2, q2⟩ := r2
    have q1 := dp_int q1
    have q2 := dp_int q2
    subst q1 q2
    exact ⟨i, j, rfl, rfl, hC i j h1 h2, z _ ⟨g i j, hU i j h1 h2, .int _⟩⟩)
theorem op_addC : OpR X (binaryOp .Add) (rI (fun _ _ => True) fun i j => .int (i + j)) := fun pins s σ H x y v u Q I rx ry h => by
  obtain ⟨i, j, e1, e2, _, q⟩ := h
  exact op_add pins s σ H x y v u Q I rx ry ⟨i, j, e1, e2, q⟩
theorem op_subC : OpR X (binaryOp .Sub) (rI (fun _ _ => True) fun i j => .int (i - j)) := fun pins s σ H x y v u Q I rx ry h => by
  obtain ⟨i, j, e1, e2, _, q⟩ := h
  exact op_sub pins s σ H x y v u Q I rx ry ⟨i, j, e1, e2, q⟩
theorem ed_addX {S T U : Int → Prop} (ha : Ed X B ρ a (iP X.K S)) (hb : Ed X B ρ b (iP X.K T)) (hU : ∀ i j, S i → T j → U (i + j)) : Ed X B ρ (.BinOp a .Add b pos) (iP X.K U) := ed_opX op_addC ha hb (fun _ _ _ _ => trivial) hU
theorem ed_subX {S T U : Int → Prop} (ha : Ed X B ρ a (iP X.K S)) (hb : Ed X B ρ b (iP X.K T)) (hU : ∀ i j, S i → T j → U (i - j)) : Ed X B ρ (.BinOp a .Sub b pos) (iP X.K U) := ed_opX op_subC ha hb (fun _ _ _ _ => trivial) hU
/-- by a small factor -/
theorem ed_mulX {S T U : Int → Prop} (ha : Ed X B ρ a (iP X.K S)) (hb : Ed X B ρ b (iP X.K T)) (hT : ∀ j, T j → -(2 ^ 64) < j ∧ j < 2 ^ 64) (hU : ∀ i j, S i → T j → U (i * j)) : Ed X B ρ (.BinOp a .Mult b pos) (iP X.K U) := ed_opX op_mul ha hb (fun _ _ _ h => .inr (hT _ h)) hU
theorem ed_mulXl {S T U : Int → Prop} (ha : Ed X B ρ a (iP X.K S)) (hb : Ed X B ρ b (iP X.K T)) (hS : ∀ j, S j → -(2 ^ 64) < j ∧ j < 2 ^ 64) (hU : ∀ i j, S i → T j → U (i * j)) : Ed X B ρ (.BinOp a .Mult b pos) (iP X.K U) := ed_opX op_mul ha hb (fun _ _ h _ => .inl (hS _ h)) hU
theorem ed_modX {S T U : Int → Prop} (ha : Ed X B ρ a (iP X.K S)) (hb : Ed X B ρ b (iP X.K T)) (hT : ∀ j, T j → 0 < j) (hU : ∀ i j, S i → T j → U (i % j)) : Ed X B ρ (.BinOp a .Mod b pos) (iP X.K U) := ed_opX op_mod ha hb (fun _ _ _ h => hT _ h) hU
theorem ed_fdivX {S T U : Int → Prop} (ha : Ed X B ρ a (iP X.K S)) (hb : Ed X B ρ b (iP X.K T)) (hT : ∀ j, T j → 0 < j ∧ j < 1073741824) (hU : ∀ i j, S i → T j → U (i / j)) : Ed X B ρ (.BinOp a .FloorDiv b pos) (iP X.K U) := ed_opX op_fdiv ha hb (fun _ _ _ h => hT _ h) hU
/-- c goes one way or the other -/
def Etx (X : Cx) (B : List Addr) (ρ : Rho) (c : Expr) (S : Bool → Prop) : Prop := ∀ (σ : L2.St) (G H : Hp), OkB B G H → Kn σ G ρ → ∀ Q : Bool → Hp → Prop, (∀ k H2, S k → Stp B H H2 → Q k H2) → WT X c σ H Q
theorem etx_et {k : Bool} (h : Et X B ρ c k) : Etx X B ρ c fun b => b = k := fun σ G H eg kn Q z => h σ G H eg kn Q fun H2 s => z _ H2 rfl s
theorem etx_val {S : Bool → Prop} (h : Ed X B ρ e (xP S fun k => dP X.K (.bool k))) (he : ∀ whole, isTrue e X.env whole = (do let v ← whole; standAt e.pos; holding [v] (truthy v)) := by intro _; rfl) : Etx X B ρ e S := fun σ G H eg kn Q z =>
  pt_wt (pt_val we_pe he) (h σ G H eg kn _ fun v H2 s r => by
    obtain ⟨k, hk, q⟩ := r
    exact ⟨k, dp_bl q, z k H2 hk s⟩)
theorem ed_cmpX {g : Int → Int → Bool} {op : CmpOp} {S T : Int → Prop} {U : Bool → Prop} (ho : OpR X (compareOp op) (rI0 fun i j => .bl (g i j))) (ha : Ed X B ρ a (iP X.K S)) (hb : Ed X B ρ b (iP X.K T)) (hm : behindInMarks op b = false) (hU : ∀ i j, S i → T j → U (g i j)) : Ed X B ρ (.Compare a [op] [b] pos) (xP U fun k => dP X.K (.bool k)) :=
  ed_cmp ho ha hb hm (gives_here fun x y G H eg r1 r2 Q z => by
    obtain ⟨i, h1, q1⟩ := r1
    obtain ⟨j, h2, q2⟩ := r2
    have q1 := dp_int q1
    have q2 := dp_int q2
    subst q1 q2
    exact ⟨i, j, rfl, rfl, z _ ⟨g i j, hU i j h1 h2, .bl _⟩⟩)
/-- l[i], one or another item -/
theorem ed_ixLX {S : Int → Prop} (ha : Ed X B ρ a (lP X.K Ps)) (hb : Ed X B ρ b (iP X.K S)) (h : ∀ i, S i → ∃ P', atI Ps i = some P' ∧ Imp P' P) (hs : PlainIx b := by exact fun _ _ => rfl) : Ed X B ρ (.Subscript a b pos) P := fun σ G H eg k Q z =>
  pe_we (pe_ix ix_list we_pe we_pe hs) (two (Q := Q) ha hb eg k fun x y H2 s1 s2 r1 r2 => by
    obtain ⟨t, xs, rfl, h2, h3⟩ := r1
    obtain ⟨i, hi, q⟩ := r2
    obtain ⟨P', e, im⟩ := h i hi
    obtain ⟨v, h4, h5⟩ := paired_at h3 e
    exact ⟨t, xs, i, v, rfl, dp_int q, sql_up s2.1 h2, h4, z v H2 s1 (im _ _ h5)⟩)
theorem divp_small {i j : Int} (h : 0 < j) (h2 : j < 1073741824) : CDivP i j := by
  refine ⟨h, ?_⟩
  show (decide ((if j == 0 then 0 else j.natAbs.log2 / 30 + 1) > 300) && _) = false
  rw [if_neg (show ¬ (j == 0) = true by simpa using (show j ≠ 0 by omega))]
  have : j.natAbs.log2 < 30 := by
    rw [Nat.log2_lt (by omega)]
    omega
  rw [decide_eq_false (by omega), Bool.false_and]
/-- divmod(a, b) by a small divisor -/
theorem ed_divmod {S T U W : Int → Prop} (hg : Gl X "divmod") (hm : X.mg "divmod" = none) (ha : Ed X B ρ a (iP X.K S)) (hb : Ed X B ρ b (iP X.K T)) (hT : ∀ j, T j → 0 < j ∧ j < 1073741824) (hU : ∀ i j, S i → T j → U (i / j) ∧ W (i % j)) (hs1 : starEach [a, b] X.env = (false, eval a X.env) :: starEach [b] X.env := by rfl) (hs2 : starEach [b] X.env = (false, eval b X.env) :: starEach [] X.env := by rfl) (hpl : (backTo pos (starEach [b] X.env)).any (·.1) = false := by rfl) :
    Ed X B ρ (.Call (.Name "divmod" p) [a, b] [] pos) (tP X.K [iP X.K U, iP X.K W]) :=
  ed_callB call_divmodW hg hm (by decide +kernel) (ea_cons ha (ea_cons hb ea_nil hs2) hs1) (fun vs G H eg r1 Q z => by
    obtain ⟨v, w', rfl, ⟨i, h1, q1⟩, ⟨j, h2, q2⟩⟩ := allp2 r1
    have q1 := dp_int q1
    have q2 := dp_int q2
    subst q1 q2
    obtain ⟨hU1, hU2⟩ := hU i j h1 h2
    refine ⟨i, j, rfl, divp_small (hT j h2).1 (hT j h2).2, fun q hq => z _ _ (stp_new hq) ?_⟩
    rw [ext_new eg hq]
    exact ⟨q, _, rfl, upd_same, .cons ⟨_, hU1, .int _⟩ (.cons ⟨_, hU2, .int _⟩ .nil)⟩) (by decide) (by decide) hs1 hpl
end
end Lk

/-! W11: the law's own defs: the box. -/
namespace Lk
open PySem PySem.Spec PyProof.Rows L2 PySem.W
section
variable {P : Program} {w : World} {K : PySem.W.Frag} {mg : Str → Option Value} {base : Heap} {C : Addr}
theorem c_take (T : TX K mg) : Cal P w K mg base 1 "_law_take" ["_law_box_here", "_law_count"] (spB (α := Addr × Int) (fun z => [z.1]) (fun z => 1 ≤ z.2 ∧ z.2 < 1073741824) (fun z => [eP (.ref z.1), dP K (.int z.2)]) fun z => iP K fun r => 0 ≤ r ∧ r < z.2) := by
  obtain ⟨f, fd, hm, F⟩ := T.f__law_take
  refine cal_mkB F sc__law_take hm (F.bindsN fun _ _ _ _ _ _ us hl => match us, hl with | [_, _], _ => rfl) (fun _ => rfl) fun cdv A outer s H E hr z hz => Sr.b ?_
  obtain ⟨b, n⟩ := z
  obtain ⟨h1, h2⟩ := hz
  dsimp only at h1 h2
  refine sr_seq (ss_asg (ed_divmod (S := fun i => 0 ≤ i) (T := fun j => j = n) (U := fun q => 0 ≤ q) (W := fun r => 0 ≤ r ∧ r < n) (by rfl) T.z_divmod (ed_box (A := b) List.mem_cons_self (ed_var 0) ed_int) ((ed_var 1).imp (iP_of rfl)) (fun j e => by omega) fun i j hi e => ?_) (tg_tup rfl (tgs_cons (tg_name 2 sc__law_take.nd) (tgs_cons (tg_name 3 sc__law_take.nd) tgs_nil)))) ?_
  · subst e
    exact ⟨Int.ediv_nonneg hi (by omega), Int.emod_nonneg _ (by omega), Int.emod_lt_of_pos _ (by omega)⟩
  refine sr_open 2 rfl fun q hq => ?_
  refine sr_seq (ss_box (A := b) List.mem_cons_self hq (ed_var 2) (ed_var 0) ed_int) ?_
  exact sr_ret (ed_var 3)
end
section
variable {X : Cx} {B : List Addr} {ρ : Rho} {a b : Expr} {p pos : Pos}
theorem ed_take (T : TX X.K X.mg) {j : Nat} {A : Addr} {S U : Int → Prop} (hr : Room j X.A) (hk : 1 ≤ j) (hA : A ∈ B) (hg : Gl X "_law_take") (ha : Ed X B ρ a (eP (.ref A))) (hb : Ed X B ρ b (iP X.K S)) (hS : ∀ n, S n → 1 ≤ n ∧ n < 1073741824) (hU : ∀ n r, S n → 0 ≤ r → r < n → U r)
    (hs1 : starEach [a, b] X.env = (false, eval a X.env) :: starEach [b] X.env := by rfl) (hs2 : starEach [b] X.env = (false, eval b X.env) :: starEach [] X.env := by rfl) (hpl : (backTo pos (starEach [b] X.env)).any (·.1) = false := by rfl) :
    Ed X B ρ (.Call (.Name "_law_take" p) [a, b] [] pos) (iP X.K U) :=
  ed_callG (c_take (P := X.prog) (w := X.w) (base := X.base) T) hr hk hg (ea_cons ha (ea_cons hb ea_nil hs2) hs1) (fun vs G r => by
    obtain ⟨v, w', rfl, r1, n, hn, r2⟩ := allp2 r
    exact ⟨(A, n), hS n hn, (fun x hx => by rw [List.mem_singleton.mp hx]; exact hA), .cons r1 (.cons r2 .nil), imp_x fun q hq v H z => ⟨q, hU n q hn hq.1 hq.2, z⟩⟩) (by decide +kernel) hs1 hpl
/-- .. by a number that is known -/
theorem ed_takeN (T : TX X.K X.mg) {j : Nat} {A : Addr} {n : Int} (hr : Room j X.A) (hk : 1 ≤ j) (hA : A ∈ B) (hg : Gl X "_law_take") (ha : Ed X B ρ a (eP (.ref A))) (hb : Ed X B ρ b (dP X.K (.int n))) (h1 : 1 ≤ n) (h2 : n < 1073741824)
    (hs1 : starEach [a, b] X.env = (false, eval a X.env) :: starEach [b] X.env := by rfl) (hs2 : starEach [b] X.env = (false, eval b X.env) :: starEach [] X.env := by rfl) (hpl : (backTo pos (starEach [b] X.env)).any (·.1) = false := by rfl) :
    Ed X B ρ (.Call (.Name "_law_take" p) [a, b] [] pos) (iP X.K fun r => 0 ≤ r ∧ r < n) :=
  ed_take (S := fun i => i = n) T hr hk hA hg ha (hb.imp (iP_of rfl)) (fun m e => by subst e; exact ⟨h1, h2⟩) (fun m r e h3 h4 => by subst e; exact ⟨h3, h4⟩) hs1 hs2 hpl
end
end Lk

/-! Da17: range, int(a bool); data known by bounds. -/
namespace Lk
open PySem PySem.Spec PyProof.Rows L2
section
variable {X : Cx} {B : List Addr} {ρ ρ' : Rho} {e o a b c tg : Expr} {es : List Expr} {P P1 P2 : Pr} {Ps : List Pr} {pos p pos' : Pos} {sts : List Stmt}
/-- range(n) -/
theorem es_range {n : Nat} (hg : Gl X "range") (hm : X.mg "range" = none) (hn : n ≤ 100000) (ha : Ed X B ρ a (dP X.K (.int n))) (hs : starEach [a] X.env = [(false, eval a X.env)] := by rfl) : Es X B ρ tg (.Call (.Name "range" p) [a] [] pos) ((List.range n).map fun i => dP X.K (.int (i : Nat))) :=
  ⟨_, pi_range1 hg hm wa_pa hs, fun σ G H eg k R z => ea_cons ha ea_nil hs σ G H eg k _ fun vs H2 s r => by
    obtain ⟨v, rfl, r1⟩ := allp1 r
    have hv := dp_int r1
    subst hv
    refine ⟨(n : Int), rfl, by omega, by omega, z _ H2 s ⟨fun i H' e hi => ?_, fun H' e => ?_, fun i H' x H'' P e hP y => ?_⟩⟩
    · rw [List.length_map, List.length_range] at hi
      show i < (n : Int).toNat
      omega
    · rw [List.length_map, List.length_range]
      show (n : Int).toNat ≤ n
      omega
    · obtain ⟨rfl, rfl⟩ := y
      refine ⟨Same.refl _, ?_⟩
      rw [List.getElem?_map] at hP
      obtain ⟨m, hm, rfl⟩ := Option.map_eq_some_iff.mp hP
      have e2 : m = i := by
        obtain ⟨h1, h2⟩ := List.getElem?_eq_some_iff.mp hm
        rw [List.getElem_range] at h2
        exact h2.symm
      subst e2
      rw [show (0 : Int) + (m : Int) = m by omega]
      exact Dh.int _⟩
/-- int(a bool) -/
theorem ed_intB {S : Bool → Prop} {U : Int → Prop} (hg : Gl X "int") (hm : X.mg "int" = none) (ha : Ed X B ρ a (xP S fun k => dP X.K (.bool k))) (hU : ∀ k, S k → U (if k = true then 1 else 0)) (hs : starEach [a] X.env = (false, eval a X.env) :: starEach [] X.env := by rfl) : Ed X B ρ (.Call (.Name "int" p) [a] [] pos) (iP X.K U) :=
  ed_callTy call_int1 hg hm (by decide +kernel) (ea_cons ha ea_nil hs) (givesC_here fun vs G H eg r1 Q z => by
    obtain ⟨v, rfl, k, hk, q⟩ := allp1 r1
    have q := dp_bl q
    subst q
    exact .inr ⟨k, rfl, z _ ⟨_, hU k hk, .int _⟩⟩) (by decide) (by decide) hs
/-- a row of values, each known by bounds -/
theorem all_ints {K : PySem.W.Frag} {S : Int → Prop} {G : Hp} : ∀ {n : Nat} {vs : List V}, AllP (List.replicate n (iP K S)) vs G → ∃ ns : List Int, ns.length = n ∧ (∀ i ∈ ns, S i) ∧ DhAll G vs (ns.map .int)
  | 0, _, h => by
    cases h
    exact ⟨[], rfl, (fun _ h => by cases h), .nil⟩
  | n + 1, _, h => by
    rw [List.replicate_succ] at h
    cases h with
    | cons h t =>
      obtain ⟨i, hi, q⟩ := h
      obtain ⟨ns, h1, h2, h3⟩ := all_ints t
      exact ⟨i :: ns, by rw [List.length_cons, h1], fun j hj => by
        rcases List.mem_cons.mp hj with rfl | hj
        · exact hi
        · exact h2 j hj, .cons q h3⟩
theorem imp_intsT {K : PySem.W.Frag} {S : Int → Prop} {n : Nat} : Imp (tP K (List.replicate n (iP K S))) (xP (fun ns : List Int => ns.length = n ∧ ∀ i ∈ ns, S i) fun ns => dP K (.tuple (ns.map .int))) := fun v H ⟨a, xs, h1, h2, h3⟩ => by
  obtain ⟨ns, q1, q2, q3⟩ := all_ints h3
  subst h1
  exact ⟨ns, ⟨q1, q2⟩, .tup h2 q3⟩
theorem imp_pair {K : PySem.W.Frag} {S T : Int → Prop} : Imp (tP K [iP K S, iP K T]) (xP (fun c : Int × Int => S c.1 ∧ T c.2) fun c => dP K (.tuple [.int c.1, .int c.2])) := fun v H ⟨a, xs, h1, h2, h3⟩ => by
  obtain ⟨x, y, rfl, ⟨i, hi, q1⟩, ⟨j, hj, q2⟩⟩ := allp2 h3
  subst h1
  exact ⟨(i, j), ⟨hi, hj⟩, .tup h2 (.cons q1 (.cons q2 .nil))⟩
end
end Lk

/-! W12: the law's own defs: a spot, a sea. -/
namespace Lk
open PySem PySem.Spec PyProof.Rows L2 PySem.W
theorem at_zero {α : Type} {x : α} {xs : List α} : atI (x :: xs) 0 = some x := by
  unfold atI ixN
  rw [if_pos (by decide), if_pos (by rw [List.length_cons]; omega)]
  rfl
theorem Stt.conv {φ : Fx} {hs : Hs} {G H : Hp} (S : Stt φ hs G H) {i : Nat} {p : Addr} {q q' : HP} (hi : hs[i]? = some (p, q)) (h : ∀ o, q.p o G → q'.p o G) : Stt φ (hs.set i (p, q')) G H := by
  obtain ⟨o, h1, h2⟩ := S.get hi
  have := S.put hi (h o h2)
  have e : upd H p o = H := by
    funext a
    by_cases e : a = p
    · rw [e, upd_same, h1]
    · rw [upd_ne e]
  rw [e] at this
  exact this
theorem Stt.openL {β : Type} {S : β → Prop} {F : β → Pr} {φ : Fx} {hs : Hs} {G H : Hp} {i : Nat} {d : Addr} {Ps : List Pr} (St : Stt φ hs G H) (hi : hs[i]? = some (d, lHP (Ps ++ [xP S F]))) : ∃ r, S r ∧ Stt φ (hs.set i (d, lHP (Ps ++ [F r]))) G H := by
  obtain ⟨o, h1, xs, rfl, r⟩ := St.get hi
  obtain ⟨ys, y, rfl, k1, r', hr, k2⟩ := paired_snoc r
  have := St.put (q' := lHP (Ps ++ [F r'])) hi (o := .lst (ys ++ [y])) ⟨_, rfl, k1.snoc k2⟩
  have e : upd H d (.lst (ys ++ [y])) = H := by
    funext a
    by_cases e : a = d
    · rw [e, upd_same, h1]
    · rw [upd_ne e]
  rw [e] at this
  exact ⟨r', hr, this⟩
section
variable {P : Program} {w : World} {K : PySem.W.Frag} {mg : Str → Option Value} {base : Heap} {C : Addr}
theorem c_spot (T : TX K mg) : Cal P w K mg base 2 "_law_spot" ["_law_box_here", "_law_sea_here"] (spB (α := Addr × Sea × Nat) (fun z => [z.1]) (fun z => SeaOk z.2.1 z.2.2) (fun z => [eP (.ref z.1), dP K (seaD z.2.1)]) fun z => xP (fun c : Cell => CellOk z.2.1 z.2.2 c) fun c => dP K (cD c)) := by
  obtain ⟨f, fd, hm, F⟩ := T.f__law_spot
  refine cal_mkB F sc__law_spot hm (F.bindsN fun _ _ _ _ _ _ us hl => match us, hl with | [_, _], _ => rfl) (fun _ => rfl) fun cdv A outer s H E hr z hz => Sr.b ?_
  obtain ⟨b, sea, h⟩ := z
  have S : SeaOk sea h := hz
  cases sea with
  | nil => exact absurd S.lo (by simp)
  | cons c0 rest =>
    have l1 := S.lo
    have l2 := S.hi
    have l3 := S.rows c0 List.mem_cons_self
    have l4 := S.h1
    have l5 := S.h9
    refine sr_ret (ed_i ?_ (ed_tup (ea_cons (ed_takeN T hr (by decide) List.mem_cons_self (by rfl) (ed_var 0) (ed_lenTd (ds := (c0 :: rest).map colD) (by rfl) T.z_len (ed_var 1)) ?_ ?_) (ea_cons (ed_takeN T hr (by decide) List.mem_cons_self (by rfl) (ed_var 0) (ed_lenTd (ds := c0.map PyData.int) (by rfl) T.z_len (ed_ixTd (ds := (c0 :: rest).map colD) (d := colD c0) (ed_var 1) ed_int at_zero)) ?_ ?_) ea_nil))))
    · refine fun v H q => ?_
      obtain ⟨c, hc, r⟩ := imp_pair v H q
      refine ⟨c, ?_, r⟩
      simp only [List.length_map] at hc
      exact ⟨hc.1.1, hc.1.2, hc.2.1, by rw [← l3]; exact hc.2.2⟩
    · rw [List.length_map]
      omega
    · rw [List.length_map]
      omega
    · rw [List.length_map]
      omega
    · rw [List.length_map]
      omega
theorem c_lawsea (T : TX K mg) : Cal P w K mg base 2 "_law_sea" ["_law_box_here", "_law_most"] (spB (α := Addr × Int) (fun z => [z.1]) (fun z => 2 ≤ z.2 ∧ z.2 ≤ 15) (fun z => [eP (.ref z.1), dP K (.int z.2)]) fun z => xP (fun q : Sea × Nat => SeaOk q.1 q.2) fun q => dP K (seaD q.1)) := by
  obtain ⟨f, fd, hm, F⟩ := T.f__law_sea
  refine cal_mkB F sc__law_sea hm (F.bindsN fun _ _ _ _ _ _ us hl => match us, hl with | [_, _], _ => rfl) (fun _ => rfl) fun cdv A outer s H E hr z hz => Sr.b ?_
  obtain ⟨b, most⟩ := z
  obtain ⟨h1, h2⟩ := hz
  dsimp only at h1 h2
  refine sr_seq (ss_par 2 3 (P1 := iP K fun n => 2 ≤ n ∧ n ≤ 15) (P2 := iP K fun n => 1 ≤ n ∧ n ≤ 9) (fun D => ps_par rfl sc__law_sea.nd rfl rfl (by decide) rfl rfl wa_pa (by rfl)) (ea_cons (ed_addX (S := fun i => i = 2) (T := fun r => 0 ≤ r ∧ r < most - 1) (ed_int.imp (iP_of rfl)) (ed_takeN T hr (by decide) List.mem_cons_self (by rfl) (ed_var 0) (ed_sub (ed_var 1) ed_int) (by omega) (by omega)) (fun i j e hj => by omega)) (ea_cons (ed_addX (S := fun i => i = 1) (T := fun r => 0 ≤ r ∧ r < 9) (ed_int.imp (iP_of rfl)) (ed_take (S := fun i => i = 3 ∨ i = 9) T hr (by decide) List.mem_cons_self (by rfl) (ed_var 0) (ed_ixLX (S := fun r => 0 ≤ r ∧ r < 2) (Ps := [dP K (.int 3), dP K (.int 9)]) (ed_lst (ea_cons ed_int (ea_cons ed_int ea_nil))) (ed_takeN T hr (by decide) List.mem_cons_self (by rfl) (ed_var 0) ed_int (by decide) (by decide)) (fun i hi => ?_)) (fun n e => by omega) (fun n r e h3 h4 => by omega)) (fun i j e hj => by omega)) ea_nil))) ?_
  · have e : i = 0 ∨ i = 1 := by omega
    rcases e with rfl | rfl
    · exact ⟨_, rfl, iP_of (.inl rfl)⟩
    · exact ⟨_, rfl, iP_of (.inr rfl)⟩
  refine sr_open 2 rfl fun cnt hcnt => sr_open 3 rfl fun high hhigh => ?_
  obtain ⟨n, rfl⟩ : ∃ n : Nat, cnt = n := ⟨cnt.toNat, by omega⟩
  obtain ⟨h, rfl⟩ : ∃ n : Nat, high = n := ⟨high.toNat, by omega⟩
  refine sr_m fun φ D hB hD => ?_
  have hb : b ∈ φ.B := by
    rw [hB]
    exact List.mem_cons_self
  refine m_new 4 sc__law_sea.nd em_newL fun d => ?_
  refine m_for PassesOwn.never rfl (es_range (n := n) (by rfl) T.z_range (by omega) (ed_var 2)) (fun i g => g.length = i ∧ ∀ c ∈ g, c.length = h ∧ ∀ d ∈ c, 0 ≤ d ∧ d ≤ 9) (fun g : Sea => [(d, lHP (g.map fun c => dP K (colD c)))]) (fun g => [some (eP (.ref b)), some (dP K (.int most)), some (dP K (.int n)), some (dP K (.int h)), some (eP (.ref d)), none, none]) [] ⟨rfl, fun _ h => by cases h⟩ rfl rfl ?_ ?_
  · rintro i Pi g hPi ⟨gl, gok⟩ φ1 hφ1 bk1
    have hb1 : b ∈ φ1.B := by
      rw [hφ1]
      exact hb
    rw [List.getElem?_map] at hPi
    obtain ⟨m, hm, rfl⟩ := Option.map_eq_some_iff.mp hPi
    have il : i < n := by
      have := (List.getElem?_eq_some_iff.mp hm).1
      rw [List.length_range] at this
      exact this
    refine ⟨[5], _, tg_name 5 sc__law_sea.nd, fun D1 hD1 hn1 => ?_⟩
    refine m_st (sm_expr (em_append (i := 0) (P := xP (fun c : List Int => c.length = h ∧ ∀ d ∈ c, 0 ≤ d ∧ d ≤ 9) fun c => dP K (colD c)) rfl (by rw [List.length_map]; omega) (ed_var 4) (ed_i ?_ (ed_tupleL (Ps := List.replicate h (iP K fun d => 0 ≤ d ∧ d ≤ 9)) (by rfl) T.z_tuple (ed_p ?_ (ed_comp rfl sc__law_sea.nd [("_law_row", 6)] (blkOk_by (N := n__law_sea) (sc := defScope s__law_sea) (by decide +kernel)) (List.range h) (fun i => dP K (.int (i : Nat))) (fun _ => true) (fun _ => iP K fun d => 0 ≤ d ∧ d ≤ 9) (es_range (n := h) (by rfl) T.z_range (by omega) (ed_var 3)) (by rw [List.length_range]; omega) fun r hrr => ⟨[6], _, by simp, fun s H C cl fp => ⟨tg_name 6 sc__law_sea.nd, ets_nil, fun _ => ed_ixLX (S := fun i => 0 ≤ i ∧ i < 2) (Ps := [dP K (.int 0), iP K fun d => 0 ≤ d ∧ d ≤ 9]) (ed_lst (ea_cons ed_int (ea_cons (ed_addX (S := fun i => i = 1) (T := fun r => 0 ≤ r ∧ r < 9) (ed_int.imp (iP_of rfl)) (ed_takeN T hr (by decide) hb1 (by rfl) (ed_var 0) ed_int (by decide) (by decide)) (fun i j e hj => by omega)) ea_nil))) (ed_intB (S := fun _ => True) (by rfl) T.z_int (ed_cmpX (S := fun _ => True) (T := fun _ => True) (U := fun _ => True) op_gt ((ed_takeN T hr (by decide) hb1 (by rfl) (ed_var 0) ed_int (by decide) (by decide)).imp fun v H ⟨i, _, q⟩ => ⟨i, trivial, q⟩) (ed_int.imp (iP_of trivial)) (nomark _) (fun _ _ _ _ => trivial)) (fun k _ => by cases k <;> decide)) (fun i hi => ?_)⟩⟩)))))) fun σ3 G3 H3 f3 => ?_
    · exact imp_intsT
    · refine congrArg (fun Qs => lP K Qs) ?_
      rw [List.filter_eq_self.mpr (fun _ _ => rfl)]
      refine (List.map_const' ..).trans ?_
      rw [List.length_range]
    · have e : i = 0 ∨ i = 1 := by omega
      rcases e with rfl | rfl
      · exact ⟨_, rfl, fun v H q => ⟨0, by decide, q⟩⟩
      · exact ⟨_, rfl, fun _ _ h => h⟩
    · obtain ⟨v3, S3, k3⟩ := f3
      obtain ⟨c, hc, S4⟩ := S3.1.openL (i := 0) rfl
      refine m_nil (fun σ7 G7 H7 S7 k7 => ?_) σ3 G3 H3 S4 k3
      refine hn1 (g ++ [c]) ⟨by rw [List.length_append, gl]; rfl, fun x hx => ?_⟩ σ7 G7 H7 ?_ (k7.forget 5)
      · rcases List.mem_append.mp hx with hx | hx
        · exact gok x hx
        · rw [List.mem_singleton.mp hx]
          exact hc
      · rw [List.map_append]
        exact S7
  · rintro g ⟨gl, gok⟩
    rw [List.length_map, List.length_range] at gl
    refine m_showL 4 rfl (m_retd (ed_i ?_ (ed_tupleL (by rfl) T.z_tuple (ed_var 4))) hD)
    intro v H r
    refine ⟨(g, h), ⟨by show 2 ≤ g.length; omega, by show g.length ≤ 16; omega, by omega, by omega, fun c hc => (gok c hc).1, fun c hc d hd => (gok c hc).2 d hd⟩, ?_⟩
    have := imp_dt (K := K) (ds := g.map colD)
    rw [List.map_map] at this
    exact this v H r
end
end Lk

/-! W13: the law's own defs: a deed. -/
namespace Lk
open PySem PySem.Spec PyProof.Rows L2 PySem.W
section
variable {P : Program} {w : World} {K : PySem.W.Frag} {mg : Str → Option Value} {base : Heap} {C : Addr}
theorem op_eqI {X : Cx} : OpR X (compareOp .Eq) (rI0 fun i j => .bl (decide (i = j))) := fun pins s σ H x y v u Q I rx ry h => by
  obtain ⟨i, j, rfl, rfl, q⟩ := h
  refine op_eq pins s σ H _ _ v u Q I rx ry ⟨rfl, ?_⟩
  have e : decide (V.int i = V.int j) = decide (i = j) := decide_eq_decide.mpr ⟨fun q => V.int.inj q, fun q => congrArg V.int q⟩
  rw [e]
  exact q
abbrev dOk (K : PySem.W.Frag) (sea : Sea) (h : Nat) : Pr := xP (DeedOk sea h) fun d => dP K (deedD d)
theorem c_lawdeed (T : TX K mg) : Cal P w K mg base 3 "_law_deed" ["_law_box_here", "_law_sea_here"] (spB (α := Addr × Sea × Nat) (fun z => [z.1]) (fun z => SeaOk z.2.1 z.2.2) (fun z => [eP (.ref z.1), dP K (seaD z.2.1)]) fun z => dOk K z.2.1 z.2.2) := by
  obtain ⟨f, fd, hm, F⟩ := T.f__law_deed
  have c1 := c_spot (P := P) (w := w) (base := base) T
  refine cal_mkB F sc__law_deed hm (F.bindsN fun _ _ _ _ _ _ us hl => match us, hl with | [_, _], _ => rfl) (fun _ => rfl) fun cdv A outer s H E hr z hz => Sr.b ?_
  obtain ⟨b, sea, h⟩ := z
  have S : SeaOk sea h := hz
  refine sr_seq (ss_par 2 3 (P1 := iP K fun n => 1 ≤ n ∧ n ≤ 12) (P2 := iP K fun n => 0 ≤ n ∧ n < 8) (fun D => ps_par rfl sc__law_deed.nd rfl rfl (by decide) rfl rfl wa_pa (by rfl)) (ea_cons (ed_addX (S := fun i => i = 1) (T := fun r => 0 ≤ r ∧ r < 12) (ed_int.imp (iP_of rfl)) (ed_take (S := fun i => i = 3 ∨ i = 12) T hr (by decide) List.mem_cons_self (by rfl) (ed_var 0) (ed_ixLX (S := fun r => 0 ≤ r ∧ r < 2) (Ps := [dP K (.int 3), dP K (.int 12)]) (ed_lst (ea_cons ed_int (ea_cons ed_int ea_nil))) (ed_takeN T hr (by decide) List.mem_cons_self (by rfl) (ed_var 0) ed_int (by decide) (by decide)) (fun i hi => ?_)) (fun n e => by omega) (fun n r e h3 h4 => by omega)) (fun i j e hj => by omega)) (ea_cons (ed_takeN T hr (by decide) List.mem_cons_self (by rfl) (ed_var 0) ed_int (by decide) (by decide)) ea_nil))) ?_
  · have e : i = 0 ∨ i = 1 := by omega
    rcases e with rfl | rfl
    · exact ⟨_, rfl, iP_of (.inl rfl)⟩
    · exact ⟨_, rfl, iP_of (.inr rfl)⟩
  refine sr_seq (ss_par 4 5 (P1 := xP (fun c : Cell => CellOk sea h c) fun c => dP K (cD c)) (P2 := lP K [iP K fun n => 0 ≤ n ∧ n < 3, iP K fun n => 0 ≤ n ∧ n < 3, iP K fun n => 1 ≤ n ∧ n ≤ 9]) (fun D => ps_par rfl sc__law_deed.nd rfl rfl (by decide) rfl rfl wa_pa (by rfl)) (ea_cons (ed_callG c1 hr (by decide) (by rfl) (ea_cons (ed_var 0) (ea_cons (ed_var 1) ea_nil)) (fun vs G r => ⟨(b, sea, h), S, (fun x hx => hx), r, Imp.refl _⟩)) (ea_cons (ed_lst (ea_cons (ed_takeN T hr (by decide) List.mem_cons_self (by rfl) (ed_var 0) ed_int (by decide) (by decide)) (ea_cons (ed_takeN T hr (by decide) List.mem_cons_self (by rfl) (ed_var 0) ed_int (by decide) (by decide)) (ea_cons (ed_addX (S := fun i => i = 1) (T := fun r => 0 ≤ r ∧ r < 9) (ed_int.imp (iP_of rfl)) (ed_takeN T hr (by decide) List.mem_cons_self (by rfl) (ed_var 0) ed_int (by decide) (by decide)) (fun i j e hj => by omega)) ea_nil)))) ea_nil))) ?_
  refine sr_open 2 rfl fun m hm => sr_open 3 rfl fun way hway => sr_open 4 rfl fun c hc => ?_
  refine sr_if (et_lti (ed_var 3) ed_int) (fun hk => ?_) fun hk => ?_
  · refine sr_ret (ed_i ?_ (ed_tup (ea_cons (ed_str (i := "lay")) (ea_cons (ed_var 2) (ea_cons (ed_var 4) (ea_cons (ed_ixL (ed_var 5) ed_int (by rfl)) (ea_cons (ed_ixL (ed_var 5) ed_int (by rfl)) (ea_cons (ed_ixL (ed_var 5) ed_int (by rfl)) (ea_cons (ed_cmpX (S := fun _ => True) (T := fun _ => True) (U := fun _ => True) op_eqI ((ed_takeN T hr (by decide) List.mem_cons_self (by rfl) (ed_var 0) ed_int (by decide) (by decide)).imp fun v H ⟨i, _, q⟩ => ⟨i, trivial, q⟩) (ed_int.imp (iP_of trivial)) (nomark _) (fun _ _ _ _ => trivial)) ea_nil)))))))))
    intro v H q
    obtain ⟨t, xs, rfl, h2, h3⟩ := q
    match xs, h3 with
    | _, .cons a1 (.cons a2 (.cons a3 (.cons ⟨sh, b4, a4⟩ (.cons ⟨co, b5, a5⟩ (.cons ⟨si, b6, a6⟩ (.cons ⟨lit, _, a7⟩ .nil)))))) =>
      exact ⟨.lay m c sh co si lit, ⟨hm, hc, by omega, by omega, b6⟩, .tup h2 (.cons a1 (.cons a2 (.cons a3 (.cons a4 (.cons a5 (.cons a6 (.cons a7 .nil)))))))⟩
  · have hk := of_decide_eq_false hk
    refine sr_seq (ss_set 6 sc__law_deed.nd (ed_lst (Ps := [dOk K sea h, dOk K sea h, dOk K sea h, dOk K sea h, dOk K sea h]) (ea_cons (ed_i ?_ (ed_tup (ea_cons (ed_str (i := "lift")) (ea_cons (ed_var 2) ea_nil)))) (ea_cons (ed_i ?_ (ed_tup (ea_cons (ed_str (i := "gale")) (ea_cons (ed_ixL (ed_var 5) ed_int (by rfl)) ea_nil)))) (ea_cons (ed_i ?_ (ed_tup (ea_cons (ed_str (i := "gale")) (ea_cons (ed_ixL (ed_var 5) ed_int (by rfl)) ea_nil)))) (ea_cons (ed_i ?_ (ed_tup (ea_cons (ed_str (i := "seen")) (ea_cons (ed_var 2) (ea_cons (ed_var 4) ea_nil))))) (ea_cons (ed_i ?_ (ed_tup (ea_cons (ed_str (i := "depth")) (ea_cons (ed_var 4) (ea_cons (ed_subX (S := fun n => 1 ≤ n ∧ n ≤ 9) (T := fun i => i = 1) (U := fun n => 0 ≤ n ∧ n ≤ 9) (ed_ixL (ed_var 5) ed_int (by rfl)) (ed_int.imp (iP_of rfl)) (fun i j hi e => by omega)) ea_nil))))) ea_nil))))))) ?_
    · intro v H q
      obtain ⟨t, xs, rfl, h2, h3⟩ := q
      match xs, h3 with
      | _, .cons a1 (.cons a2 .nil) => exact ⟨.lift m, hm, .tup h2 (.cons a1 (.cons a2 .nil))⟩
    · intro v H q
      obtain ⟨t, xs, rfl, h2, h3⟩ := q
      match xs, h3 with
      | _, .cons a1 (.cons ⟨n, hn, a2⟩ .nil) => exact ⟨.gale n, hn, .tup h2 (.cons a1 (.cons a2 .nil))⟩
    · intro v H q
      obtain ⟨t, xs, rfl, h2, h3⟩ := q
      match xs, h3 with
      | _, .cons a1 (.cons ⟨n, hn, a2⟩ .nil) => exact ⟨.gale n, hn, .tup h2 (.cons a1 (.cons a2 .nil))⟩
    · intro v H q
      obtain ⟨t, xs, rfl, h2, h3⟩ := q
      match xs, h3 with
      | _, .cons a1 (.cons a2 (.cons a3 .nil)) => exact ⟨.seen m c, ⟨hm, hc⟩, .tup h2 (.cons a1 (.cons a2 (.cons a3 .nil)))⟩
    · intro v H q
      obtain ⟨t, xs, rfl, h2, h3⟩ := q
      match xs, h3 with
      | _, .cons a1 (.cons a2 (.cons ⟨n, hn, a3⟩ .nil)) => exact ⟨.depth c n, ⟨hc, hn⟩, .tup h2 (.cons a1 (.cons a2 (.cons a3 .nil)))⟩
    · refine sr_ret (ed_ixLX (S := fun i => 0 ≤ i ∧ i < 5) (ed_var 6) ((ed_sub (ed_var 3) ed_int).imp (iP_of (by omega))) fun i hi => ?_)
      have e : i = 0 ∨ i = 1 ∨ i = 2 ∨ i = 3 ∨ i = 4 := by omega
      rcases e with rfl | rfl | rfl | rfl | rfl <;> exact ⟨_, rfl, Imp.refl _⟩
end
end Lk

/-! Da18: hidden lists: list(..), pop(k). -/
namespace Lk
open PySem PySem.Spec PyProof.Rows L2
section
variable {X : Cx} {φ : Fx} {ρ : Rho} {hs : Hs} {e o a b : Expr} {P : Pr} {Ps : List Pr} {pos apos p cpos : Pos} {FV : V → Hp → Hp → Prop}
/-- list(a list), hidden -/
theorem em_listNew (hg : Gl X "list") (hm : X.mg "list" = none) (ha : Ed X φ.B ρ a (lP X.K Ps)) (hs1 : starEach [a] X.env = (false, eval a X.env) :: starEach [] X.env := by rfl) : Em X φ ρ hs (.Call (.Name "list" p) [a] [] pos) (fun v G H => ∃ q, v = .ref q ∧ Stt φ ((q, lHP Ps) :: hs) G H) :=
  em_callTy call_list_of hg hm (by decide +kernel) (eam_ea (ea_cons ha ea_nil hs1)) (fun vs G H ⟨S, r⟩ Q z => by
    obtain ⟨v, rfl, t, xs, rfl, h2, h3⟩ := allp1 r
    exact ⟨t, xs, rfl, .inl (sql_up S.ok.1 h2), fun l hl => z _ G _ (Same.refl _) ⟨l, rfl, S.new hl ⟨xs, rfl, h3⟩⟩⟩) (by decide) (by decide) hs1
theorem eam_2new {q1 q2 : HP} (ha : Em X φ ρ hs a (fun v G H => ∃ p, v = .ref p ∧ Stt φ ((p, q1) :: hs) G H)) (hb : ∀ p, Em X φ ρ ((p, q1) :: hs) b (fun v G H => ∃ q, v = .ref q ∧ Stt φ ((q, q2) :: (p, q1) :: hs) G H)) (hs1 : starEach [a, b] X.env = (false, eval a X.env) :: starEach [b] X.env := by rfl) (hs2 : starEach [b] X.env = (false, eval b X.env) :: starEach [] X.env := by rfl) :
    Eam X φ ρ hs [a, b] (fun vs G H => ∃ p q, vs = [.ref p, .ref q] ∧ Stt φ ((q, q2) :: (p, q1) :: hs) G H) := fun σ G H S kn Q z =>
  pa_wa (pa_cons we_pe (pa_cons we_pe pa_nil hs2) hs1) (ha σ G H S kn _ fun v G1 H1 s1 ⟨p, e1, S1⟩ => hb p σ G1 H1 S1 (kn.up s1) _ fun w G2 H2 s2 ⟨q, e2, S2⟩ => by
    subst e1 e2
    exact z _ G2 H2 (s1.trans s2) ⟨p, q, rfl, S2⟩)
theorem paired_eraseIdx {α β : Type} {F : α → β → Prop} : ∀ {as : List α} {bs : List β} {i : Nat}, Paired F as bs → Paired F (as.eraseIdx i) (bs.eraseIdx i)
  | _, _, _, .nil => .nil
  | _, _, 0, .cons _ t => t
  | _, _, i + 1, .cons h t => .cons h (paired_eraseIdx (i := i) t)
theorem seqIndex_nn {i : Int} {n : Nat} (h0 : 0 ≤ i) (h1 : i < (n : Int)) : seqIndex? i n = some i.toNat := by
  unfold seqIndex?
  simp only [if_neg (show ¬ i < 0 by omega)]
  rw [if_pos (by simp; omega)]
/-- o.pop(k), k known by bounds -/
theorem em_popAt {i : Nat} {d : Addr} {S : Int → Prop} (hi : hs[i]? = some (d, lHP Ps)) (hS : ∀ k, S k → 0 ≤ k ∧ k < (Ps.length : Int)) (hl : Ps.length ≤ 100000) (ho : Ed X φ.B ρ o (eP (.ref d))) (ha : Em X φ ρ hs a (fun v G H => Stt φ hs G H ∧ (iP X.K S).p v G))
    (hbase : attributeBase o "pop" X.env (eval o X.env) = eval o X.env := by rfl)
    (hfew : ((backTo cpos (starEach [a] X.env)).all (fun x => !x.1) && (backToKw cpos (keywordEach [] X.env)).all (fun x => x.1.isSome)
      && decide (([a] : List Expr).length + ([] : List Keyword).length + (if ([] : List Keyword).isEmpty then 0 else 1) < 30)) = true := by rfl)
    (hline : (apos.endLine == cpos.line) = true := by rfl) (hs1 : starEach [a] X.env = (false, eval a X.env) :: starEach [] X.env := by rfl) (hplain : (backTo cpos (starEach [] X.env)).any (·.1) = false := by rfl) :
    Em X φ ρ hs (.Call (.Attribute o "pop" apos) [a] [] cpos) (fun v G H => ∃ k : Nat, S k ∧ ∃ P, Ps[k]? = some P ∧ P.p v G ∧ Stt φ (hs.set i (d, lHP (Ps.eraseIdx k))) G H) := fun σ G H St k Q z =>
  pe_we (pe_bm PySem.F.plainAttrs_list PySem.F.slot_list_pop PySem.F.type_list_pop mt_popAt we_pe (pa_cons we_pe pa_nil hs1) hbase hfew hline hs1 hplain) (ho σ G H St.ok k _ fun x H1 s1 r1 => by
    have S1 := St.ev s1
    have r1 : x = .ref d := r1
    subst r1
    obtain ⟨o1, ho1, xs1, rfl, hk1⟩ := S1.get hi
    refine ⟨.inl ⟨rfl, xs1, .of ho1⟩, ?_⟩
    refine ha σ _ H1 S1 (k.up (ext_up St.ok)) _ fun y G2 H2 s2 ⟨S2, r2⟩ => ?_
    obtain ⟨o1, ho1, xs1, rfl, hk1⟩ := S2.get hi
    obtain ⟨j, hj, q⟩ := r2
    have q := dp_int q
    subst q
    obtain ⟨h0, h1⟩ := hS j hj
    have hlen : xs1.length = Ps.length := hk1.len.symm
    have hjn : j.toNat < Ps.length := by omega
    obtain ⟨y, hy, py⟩ := paired_get hk1 (List.getElem?_eq_getElem hjn)
    exact ⟨d, xs1, j, j.toNat, y, rfl, rfl, ho1, by omega, by omega, by rw [hlen]; exact seqIndex_nn h0 h1, hy, z _ _ _ ((ext_up St.ok).trans s2) ⟨j.toNat, by rw [Int.toNat_of_nonneg h0]; exact hj, _, List.getElem?_eq_getElem hjn, py, S2.put hi ⟨_, rfl, paired_eraseIdx hk1⟩⟩⟩)
theorem em_showLi {i : Nat} (j : Nat) {d : Addr} {S : Int → Prop} (hi : hs[i]? = some (d, lHP Ps)) (hρ : ρ[j]? = some (some (eP (.ref d)))) (h : Ed X φ.B (ρ.set j (some (lP X.K Ps))) e (iP X.K S)) : Em X φ ρ hs e (fun v G H => Stt φ hs G H ∧ (iP X.K S).p v G) := fun σ G H St kn Q z => by
  obtain ⟨xs, r, e, ok2, _⟩ := St.seenL hi
  exact h σ _ H ok2 ((kn.up e).same j hρ ⟨d, xs, rfl, upd_same, r.up e⟩) _ fun v H2 s q => z v (ext G H H2) H2 (ext_up St.ok) ⟨St.ev s, by
    obtain ⟨i, hi, q⟩ := q
    have q := dp_int q
    subst q
    exact ⟨i, hi, .int i⟩⟩
/-- o.append(a), where a changes hidden things -/
theorem em_appendX {κ : Type} {T : κ → Prop} {i : Nat} {d : Addr} {hs2 : κ → Hs} {PP : κ → Pr} (hi : hs[i]? = some (d, lHP Ps)) (hi' : ∀ k, (hs2 k)[i]? = some (d, lHP Ps)) (hl : Ps.length < 100000) (ho : Ed X φ.B ρ o (eP (.ref d))) (ha : Em X φ ρ hs a (fun v G H => ∃ k, T k ∧ Stt φ (hs2 k) G H ∧ (PP k).p v G))
    (hbase : attributeBase o "append" X.env (eval o X.env) = eval o X.env := by rfl)
    (hfew : ((backTo cpos (starEach [a] X.env)).all (fun x => !x.1) && (backToKw cpos (keywordEach [] X.env)).all (fun x => x.1.isSome)
      && decide (([a] : List Expr).length + ([] : List Keyword).length + (if ([] : List Keyword).isEmpty then 0 else 1) < 30)) = true := by rfl)
    (hline : (apos.endLine == cpos.line) = true := by rfl) (hs1 : starEach [a] X.env = (false, eval a X.env) :: starEach [] X.env := by rfl) (hplain : (backTo cpos (starEach [] X.env)).any (·.1) = false := by rfl) :
    Em X φ ρ hs (.Call (.Attribute o "append" apos) [a] [] cpos) (fun v G H => ∃ k, T k ∧ Stt φ ((hs2 k).set i (d, lHP (Ps ++ [PP k]))) G H ∧ v = .non) := fun σ G H S k Q z =>
  pe_we (pe_bm PySem.F.plainAttrs_list PySem.F.slot_list_append PySem.F.type_list_append mt_append we_pe (pa_cons we_pe pa_nil hs1) hbase hfew hline hs1 hplain) (ho σ G H S.ok k _ fun x H1 s1 r1 => by
    have S1 := S.ev s1
    have r1 : x = .ref d := r1
    subst r1
    obtain ⟨o1, ho1, xs1, rfl, hk1⟩ := S1.get hi
    refine ⟨.inl ⟨rfl, xs1, .of ho1⟩, ?_⟩
    refine ha σ _ H1 S1 (k.up (ext_up S.ok)) _ fun y G2 H2 s2 ⟨c, hc, S2, r2⟩ => ?_
    obtain ⟨o1, ho1, xs1, rfl, hk1⟩ := S2.get (hi' c)
    have hlen : xs1.length < 100000 := by rw [← hk1.len]; exact hl
    exact ⟨d, xs1, y, rfl, rfl, ho1, Nat.lt_of_lt_of_le hlen (small (Nat.le_refl _)), z _ _ _ ((ext_up S.ok).trans s2) ⟨c, hc, S2.put (hi' c) ⟨_, rfl, hk1.snoc r2⟩, rfl⟩⟩)
end
end Lk

/-! W14: the law's own defs: an order. -/
namespace Lk
open PySem PySem.Spec PyProof.Rows L2 PySem.W
theorem perm_eraseIdx {α : Type} : ∀ {l : List α} {k : Nat} {x : α}, l[k]? = some x → (x :: l.eraseIdx k).Perm l
  | _ :: _, 0, _, e => by
    simp at e
    subst e
    exact List.Perm.refl _
  | y :: l, k + 1, x, e => by
    have := perm_eraseIdx (l := l) (k := k) (x := x) (by simpa using e)
    exact (List.Perm.swap y x _).trans (this.cons y)
  | [], _, _, e => by simp at e
theorem map_erase {α β : Type} {f : α → β} : ∀ {l : List α} {k : Nat}, (l.map f).eraseIdx k = (l.eraseIdx k).map f
  | [], _ => rfl
  | _ :: _, 0 => rfl
  | x :: l, k + 1 => congrArg (f x :: ·) (map_erase (l := l) (k := k))
theorem em_w {X : Cx} {φ : Fx} {ρ : Rho} {hs : Hs} {e : Expr} {FV FV' : V → Hp → Hp → Prop} (i : ∀ v G H, FV v G H → FV' v G H) (h : Em X φ ρ hs e FV) : Em X φ ρ hs e FV' := fun σ G H S kn Q z => h σ G H S kn Q fun v G2 H2 s f => z v G2 H2 s (i _ _ _ f)
section
variable {P : Program} {w : World} {K : PySem.W.Frag} {mg : Str → Option Value} {base : Heap} {C : Addr}
theorem c_order (T : TX K mg) : Cal P w K mg base 2 "_law_order" ["_law_box_here", "_law_things"] (spB (α := Addr × List Notice) (fun z => [z.1]) (fun z => z.2.length ≤ 1000) (fun z => [eP (.ref z.1), notP K z.2]) fun z => xP (fun ns : List Notice => ns.Perm z.2) fun ns => notP K ns) := by
  obtain ⟨f, fd, hm, F⟩ := T.f__law_order
  refine cal_mkB F sc__law_order hm (F.bindsN fun _ _ _ _ _ _ us hl => match us, hl with | [_, _], _ => rfl) (fun _ => rfl) fun cdv A outer s H E hr z hz => Sr.b (sr_m fun φ D hB hD => ?_)
  obtain ⟨b, ns⟩ := z
  have hz : ns.length ≤ 1000 := hz
  have hu := hr.units
  have hb : b ∈ φ.B := by
    rw [hB]
    exact List.mem_cons_self
  refine m_parE 2 3 (fun D => ps_par rfl sc__law_order.nd rfl rfl (by decide) rfl rfl wa_pa (by rfl)) (eam_2new (em_listNew (Ps := (ns.map noticeD).map (dP K)) (by rfl) T.z_list ((ed_var 1).imp imp_ld)) fun p => em_newL) (fun vs G H ⟨p, q, e, _⟩ => ⟨_, _, e⟩) fun v w' σ1 G1 H1 f1 k1 => ?_
  obtain ⟨p, q, e, S1⟩ := f1
  injection e with e1 e2
  injection e2 with e2 _
  subst e1 e2
  have k2 := (k1.set (P := eP (.ref p)) 2 (v := .ref p) rfl).set (P := eP (.ref q)) 3 (v := .ref q) rfl
  refine (?_ : M _ φ _ [(q, lHP []), (p, lHP ((ns.map noticeD).map (dP K)))] _ D) _ G1 H1 S1 k2
  refine m_while PassesOwn.never (fun g : List Notice × List Notice => (g.1 ++ g.2).Perm ns) (fun g => g.1.length) (fun g => !decide (g.1 = [])) (fun g => [(q, lHP ((g.2.map noticeD).map (dP K))), (p, lHP ((g.1.map noticeD).map (dP K)))]) (fun _ => [some (eP (.ref b)), some (notP K ns), some (eP (.ref p)), some (eP (.ref q))]) (ns, []) (by rw [List.append_nil]) rfl rfl (fun g hg => ?_) (fun g hg hbg D' hD' hn => ?_) fun g hg hbg => ?_
  · have hok : ∀ d ∈ g.1.map noticeD, okD d 3 := fun d hd => by
      obtain ⟨m, _, rfl⟩ := List.mem_map.mp hd
      exact okD_notice m
    refine etm_showL (i := 1) (Ps := (g.1.map noticeD).map (dP K)) 2 rfl rfl (et_to ?_ (et_neD (d := .list (g.1.map noticeD)) (e := .list []) hu ((ed_var 2).imp imp_dl) (ed_lstd (ds := []) ea_nil) (okD_list hok).shaped (by rfl)))
    rw [eqv_nil]
    simp
  · have hne : g.1 ≠ [] := by simpa using hbg
    have hlen : g.1.length ≤ 1000 := by
      have := hg.length_eq
      rw [List.length_append] at this
      omega
    have hpos : 0 < g.1.length := List.length_pos_iff.mpr hne
    have il : ((g.1.map noticeD).map (dP K)).length = g.1.length := by rw [List.length_map, List.length_map]
    refine m_st (sm_expr (em_appendX (κ := Nat) (T := fun k => k < g.1.length) (i := 0) (d := q) (Ps := (g.2.map noticeD).map (dP K)) (hs2 := fun k => [(q, lHP ((g.2.map noticeD).map (dP K))), (p, lHP (((g.1.eraseIdx k).map noticeD).map (dP K)))]) (PP := fun k => dP K (noticeD (g.1.getD k ⟨0, 0, .lift 0⟩))) rfl (fun _ => rfl) (by
        rw [List.length_map, List.length_map]
        have := hg.length_eq
        rw [List.length_append] at this
        omega) (ed_var 3) (em_w ?_ (em_popAt (i := 1) (d := p) (Ps := (g.1.map noticeD).map (dP K)) (S := fun k => 0 ≤ k ∧ k < (g.1.length : Int)) rfl (fun k hk => by rw [il]; exact hk) (by rw [il]; omega) (ed_var 2) (em_showLi (i := 1) (Ps := (g.1.map noticeD).map (dP K)) 2 rfl rfl (ed_take (S := fun n => n = (g.1.length : Int)) T hr (by decide) hb (by rfl) (ed_var 0) (ed_i ?_ (ed_lenL (Ps := (g.1.map noticeD).map (dP K)) (by rfl) T.z_len (ed_var 2))) (fun n e => by omega) (fun n r e h3 h4 => by omega))))))) fun σ3 G3 H3 f3 => ?_
    · rintro v G H ⟨k, hk, P', hP, pv, S5⟩
      have hk' : k < g.1.length := by omega
      refine ⟨k, hk', ?_, ?_⟩
      · have e : ((g.1.map noticeD).map (dP K)).eraseIdx k = ((g.1.eraseIdx k).map noticeD).map (dP K) := by
          rw [map_erase, map_erase]
        rw [← e]
        exact S5
      · rw [List.getElem?_map, List.getElem?_map, List.getElem?_eq_getElem hk'] at hP
        cases hP
        rw [List.getD_eq_getElem?_getD, List.getElem?_eq_getElem hk']
        exact pv
    · rw [il]
      exact iP_of rfl
    · obtain ⟨v3, ⟨k, hk, S3, _⟩, k3⟩ := f3
      refine m_nil (fun σ7 G7 H7 S7 k7 => ?_) σ3 G3 H3 S3 k3
      have hg2 : g.1[k]? = some (g.1.getD k ⟨0, 0, .lift 0⟩) := by
        rw [List.getD_eq_getElem?_getD, List.getElem?_eq_getElem hk]
        rfl
      refine hn (g.1.eraseIdx k, g.2 ++ [g.1.getD k ⟨0, 0, .lift 0⟩]) ?_ ?_ σ7 G7 H7 ?_ k7
      · have h1 := perm_eraseIdx hg2
        refine List.Perm.trans ?_ hg
        show (g.1.eraseIdx k ++ (g.2 ++ [_])).Perm _
        rw [← List.append_assoc]
        refine (List.perm_append_singleton _ _).trans ?_
        exact h1.append_right g.2
      · show (g.1.eraseIdx k).length < g.1.length
        rw [List.length_eraseIdx_of_lt hk]
        omega
      · rw [List.map_append, List.map_append]
        exact S7
  · have e : g.1 = [] := by simpa using hbg
    rw [e, List.nil_append] at hg
    refine m_showL 3 rfl (m_ret (FV := fun v G H => Stt φ [(p, lHP ((g.1.map noticeD).map (dP K)))] G H ∧ (lP K ((g.2.map noticeD).map (dP K))).p v G) (em_ed (ed_var 3)) fun v G H ⟨S, r⟩ => hD v G H S.none ⟨g.2, hg, imp_dl v G r⟩)
end
end Lk

/-! W15: the law's own defs: what the box starts with. -/
namespace Lk
open PySem PySem.Spec PyProof.Rows L2 PySem.W
theorem sql_same {K : PySem.W.Frag} {H H' : Hp} {a : Addr} {xs : List V} (e : Same H H') (h : SqL K H a xs) : SqL K H' a xs := by
  unfold SqL at h ⊢
  rcases h with (h | ⟨o, h⟩) | h
  · exact .inl (.inl (e _ _ h))
  · exact .inl (.inr ⟨o, e _ _ h⟩)
  · exact .inr h
/-- the script: a list of whole numbers that is read only -/
abbrev sqP (K : PySem.W.Frag) (ns : List Int) : Pr := ⟨fun v H => ∃ a : Addr, v = .ref a ∧ SqL K H a (ns.map V.int), fun e h => by
  obtain ⟨a, h1, h2⟩ := h
  exact ⟨a, h1, sql_same e h2⟩⟩
section
variable {X : Cx} {B : List Addr} {ρ : Rho} {a b : Expr} {pos p : Pos} {ns : List Int}
theorem ed_lenS (hg : Gl X "len") (hm : X.mg "len" = none) (ha : Ed X B ρ a (sqP X.K ns)) (he : starEach [a] X.env = (false, eval a X.env) :: starEach [] X.env := by rfl) : Ed X B ρ (.Call (.Name "len" p) [a] [] pos) (dP X.K (.int ns.length)) :=
  ed_callB call_len_seq hg hm PySem.boot_len (ea_cons ha ea_nil he) (givesC_here fun vs G H eg r1 Q z => by
    obtain ⟨v, rfl, t, rfl, h2⟩ := allp1 r1
    refine ⟨t, _, rfl, .inl (sql_same eg.1 h2), z _ ?_⟩
    rw [List.length_map]
    exact .int _) (by decide) (by decide) he
theorem ed_ixS {i n : Int} (ha : Ed X B ρ a (sqP X.K ns)) (hb : Ed X B ρ b (dP X.K (.int i))) (e : atI ns i = some n) (hs : PlainIx b := by exact fun _ _ => rfl) : Ed X B ρ (.Subscript a b pos) (dP X.K (.int n)) := fun σ G H eg k Q z =>
  pe_we (pe_ix ix_list we_pe we_pe hs) (two (Q := Q) ha hb eg k fun x y H2 s1 s2 r1 r2 => by
    obtain ⟨t, rfl, h2⟩ := r1
    exact ⟨t, _, i, .int n, rfl, dp_int r2, sql_same s2.1 h2, at_map e, z _ H2 s1 (.int n)⟩)
end
section
variable {P : Program} {w : World} {K : PySem.W.Frag} {mg : Str → Option Value} {base : Heap} {C : Addr}
theorem c_cell (T : TX K mg) : Cal P w K mg base 1 "_law_cell" ["_law_script", "_law_k"] (spP (α := List Int × Nat) (fun _ => True) (fun z => [sqP K z.1, dP K (.int z.2)]) fun z => dP K (.int (z.1.getD z.2 0))) := by
  obtain ⟨f, fd, hm, F⟩ := T.f__law_cell
  refine cal_mk F sc__law_cell hm (F.bindsN fun _ _ _ _ _ _ us hl => match us, hl with | [_, _], _ => rfl) (fun _ => rfl) fun cdv A outer s H E hr z hz => Sr.b ?_
  obtain ⟨ns, k⟩ := z
  refine sr_if (et_lti (ed_var 1) (ed_lenS (ns := ns) (by rfl) T.z_len (ed_var 0))) (fun hk => ?_) fun hk => ?_
  · have hk : k < ns.length := by
      have : (k : Int) < ns.length := of_decide_eq_true hk
      omega
    refine sr_ret (ed_d ?_ (ed_ixS (i := (k : Int)) (ns := ns) (n := ns[k]) (ed_var 0) (ed_var 1) ?_))
    · show PyData.int ns[k] = .int (ns.getD k 0)
      rw [List.getD_eq_getElem?_getD, List.getElem?_eq_getElem hk]
      rfl
    · unfold atI ixN
      rw [if_pos (by omega), if_pos (by omega)]
      show ns[(k : Int).toNat]? = _
      rw [Int.toNat_natCast, List.getElem?_eq_getElem hk]
  · have hk : ¬ k < ns.length := by
      have : ¬ (k : Int) < ns.length := of_decide_eq_false hk
      omega
    refine sr_ret (ed_d ?_ ed_int)
    show PyData.int 0 = .int (ns.getD k 0)
    rw [List.getD_eq_getElem?_getD, List.getElem?_eq_none (by omega)]
    rfl
theorem small64 {j : Int} (h0 : 0 ≤ j) (h1 : j < 4000000000) : -(2 ^ 64) < j ∧ j < 2 ^ 64 := by
  have e : (2 : Int) ^ 64 = 18446744073709551616 := by decide +kernel
  rw [e]
  constructor <;> omega
def mixB (r : Int) : Prop := 0 ≤ r ∧ r < 1000000007
def mixS (r : Int) : Prop := 0 ≤ r ∧ r < 200000
theorem mixS_num {n : Int} (h : decide (0 ≤ n ∧ n < 200000) = true) : Imp (dP K (.int n)) (iP K mixS) := fun v H q => ⟨n, (of_decide_eq_true h : 0 ≤ n ∧ n < 200000), q⟩
/-- a written list of numbers -/
def cE (q : Int × Nat × Pos) : Expr := .Constant (.int q.1) q.2.1 q.2.2
def cOf : Expr → List (Int × Nat × Pos)
  | .List es _ => es.filterMap fun e => match e with
    | .Constant (.int i) j p => some (i, j, p)
    | _ => none
  | _ => []
def valOf : Stmt → Expr
  | .Assign _ e _ => e
  | _ => .Constant .none 0 ⟨0, 0, 0, 0⟩
theorem ea_consts {X : Cx} {B : List Addr} {ρ : Rho} : ∀ l : List (Int × Nat × Pos), Ea X B ρ (l.map cE) (l.map fun q => dP X.K (.int q.1))
  | [] => ea_nil
  | q :: l => ea_cons (es := l.map cE) (e := .Constant (.int q.1) q.2.1 q.2.2) ed_int (ea_consts l) rfl
abbrev mixNs : List Int := [48271, 69621, 16807, 39373, 30269, 40014, 40692, 50021, 61687, 71993, 83869, 95561, 30307]
theorem mix_head : ∃ (l : List (Int × Nat × Pos)) (p1 p2 p3 : Pos), l.map (·.1) = mixNs ∧ defBody s__law_mix = .Assign [.Name "_law_some" p1] (.List (l.map cE) p2) p3 :: (defBody s__law_mix).tail := ⟨cOf (valOf ((defBody s__law_mix).headD (.Pass ⟨0, 0, 0, 0⟩))), _, _, _, rfl, rfl⟩
theorem c_mix (T : TX K mg) : Cal P w K mg base 1 "_law_mix" ["_law_cell_here", "_law_k"] (spP (α := Int × Int) (fun _ => True) (fun z => [dP K (.int z.1), dP K (.int z.2)]) fun _ => iP K mixB) := by
  obtain ⟨f, fd, hm, F⟩ := T.f__law_mix
  refine cal_mk F sc__law_mix hm (F.bindsN fun _ _ _ _ _ _ us hl => match us, hl with | [_, _], _ => rfl) (fun _ => rfl) fun cdv A outer s H E hr z hz => Sr.b ?_
  obtain ⟨c, k⟩ := z
  obtain ⟨l, p1, p2, p3, hl, hb⟩ := mix_head
  rw [hb]
  have el : (l.map fun q => dP K (.int q.1)) = mixNs.map fun i => dP K (.int i) := by
    rw [← hl, List.map_map]
    rfl
  refine sr_seq (ss_set 2 sc__law_mix.nd (ed_p (congrArg (lP K) el) (ed_lst (ea_consts l) (by rw [List.length_map, ← List.length_map (f := (·.1)), hl]; decide)))) ?_
  refine sr_seq (ss_set 3 sc__law_mix.nd (ed_mulX (S := fun _ => True) (T := mixS) (U := fun _ => True) (ed_addX (S := fun _ => True) (T := fun _ => True) (ed_modX (S := fun _ => True) (T := fun j => j = 2147483647) (U := fun _ => True) ((ed_var 0).imp (iP_of trivial)) (ed_int.imp (iP_of rfl)) (fun j e => by rw [e]; decide) (fun _ _ _ _ => trivial)) (ed_int.imp (iP_of trivial)) (fun _ _ _ _ => trivial)) (ed_ixLX (S := fun i => 0 ≤ i ∧ i < 13) (ed_var 2) (ed_modX (S := fun _ => True) (T := fun j => j = 13) ((ed_var 1).imp (iP_of trivial)) (ed_int.imp (iP_of rfl)) (fun j e => by rw [e]; decide) (fun i j _ e => ?_)) (fun i hi => ?_)) (fun j hj => small64 hj.1 (Int.lt_trans hj.2 (by decide))) (fun _ _ _ _ => trivial))) ?_
  · rw [e]
    exact ⟨Int.emod_nonneg _ (by decide), Int.emod_lt_of_pos _ (by decide)⟩
  · have e : i = 0 ∨ i = 1 ∨ i = 2 ∨ i = 3 ∨ i = 4 ∨ i = 5 ∨ i = 6 ∨ i = 7 ∨ i = 8 ∨ i = 9 ∨ i = 10 ∨ i = 11 ∨ i = 12 := by omega
    rcases e with rfl | rfl | rfl | rfl | rfl | rfl | rfl | rfl | rfl | rfl | rfl | rfl | rfl <;> exact ⟨_, rfl, mixS_num (by decide)⟩
  refine sr_seq (ss_set 3 sc__law_mix.nd (ed_addX (S := fun _ => True) (T := fun _ => True) (U := fun _ => True) (ed_addX (S := fun _ => True) (T := fun _ => True) (ed_var 3) (ed_mulXl (S := fun j => j = 977) (T := fun _ => True) (ed_int.imp (iP_of rfl)) ((ed_var 1).imp (iP_of trivial)) (fun j e => by rw [e]; exact small64 (by decide) (by decide)) (fun _ _ _ _ => trivial)) (fun _ _ _ _ => trivial)) (ed_mulXl (S := fun j => j = 7919) (T := fun _ => True) (ed_int.imp (iP_of rfl)) (ed_fdivX (S := fun _ => True) (T := fun j => j = 13) (U := fun _ => True) ((ed_var 1).imp (iP_of trivial)) (ed_int.imp (iP_of rfl)) (fun j e => by rw [e]; decide) (fun _ _ _ _ => trivial)) (fun j e => by rw [e]; exact small64 (by decide) (by decide)) (fun _ _ _ _ => trivial)) (fun _ _ _ _ => trivial))) ?_
  refine sr_seq (ss_set 3 sc__law_mix.nd (ed_modX (S := fun _ => True) (T := fun j => j = 1000000007) (U := mixB) (ed_var 3) (ed_int.imp (iP_of rfl)) (fun j e => by rw [e]; decide) (fun i j _ e => ?_))) ?_
  · rw [e]
    exact ⟨Int.emod_nonneg _ (by decide), Int.emod_lt_of_pos _ (by decide)⟩
  refine sr_ret (ed_fdivX (S := mixB) (T := fun j => j = 7) (U := mixB) (ed_modX (S := fun _ => True) (T := fun j => j = 1000000007) (U := mixB) (ed_addX (S := fun _ => True) (T := fun _ => True) (ed_mulX (S := mixB) (T := mixB) (U := fun _ => True) (ed_var 3) (ed_var 3) (fun j hj => small64 hj.1 (Int.lt_trans hj.2 (by decide))) (fun _ _ _ _ => trivial)) (ed_mulXl (S := fun j => j = 48271) (T := fun _ => True) (U := fun _ => True) (ed_int.imp (iP_of rfl)) ((ed_var 1).imp (iP_of trivial)) (fun j e => by rw [e]; exact small64 (by decide) (by decide)) (fun _ _ _ _ => trivial)) (fun _ _ _ _ => trivial)) (ed_int.imp (iP_of rfl)) (fun j e => by rw [e]; decide) (fun i j _ e => ?_)) (ed_int.imp (iP_of rfl)) (fun j e => by rw [e]; decide) (fun i j hi e => ?_))
  · rw [e]
    exact ⟨Int.emod_nonneg _ (by decide), Int.emod_lt_of_pos _ (by decide)⟩
  · rw [e]
    obtain ⟨h0, h1⟩ := hi
    exact ⟨Int.ediv_nonneg h0 (by decide), by omega⟩
end
end Lk

/-! Da19: defs called by name that give hidden things; comprehensions whose list is hidden; lists cut. -/
namespace Lk
open PySem PySem.Spec PyProof.Rows L2
section
variable {X : Cx} {B : List Addr} {ρ : Rho} {e a b : Expr} {es : List Expr} {P : Pr} {Ps : List Pr} {pos p p2 : Pos} {φ : Fx} {hs oth : Hs} {FV : V → Hp → Hp → Prop} {sts rest : List Stmt} {D : Ends}
theorem ed_mulE {i j : Int} (ha : Ed X B ρ a (dP X.K (.int i))) (hb : Ed X B ρ b (dP X.K (.int j))) (hi : -(2 ^ 64) < i ∧ i < 2 ^ 64) : Ed X B ρ (.BinOp a .Mult b pos) (dP X.K (.int (i * j))) := ed_op op_mul ha hb (g_ic (g := fun i j => i * j) (.inl hi))
theorem ed_modE {i j : Int} (ha : Ed X B ρ a (dP X.K (.int i))) (hb : Ed X B ρ b (dP X.K (.int j))) (hj : 0 < j) : Ed X B ρ (.BinOp a .Mod b pos) (dP X.K (.int (i % j))) := ed_op op_mod ha hb (g_ic (g := fun i j => i % j) hj)
theorem ed_absE {i : Int} (hg : Gl X "abs") (hm : X.mg "abs" = none) (ha : Ed X B ρ a (dP X.K (.int i))) (he : starEach [a] X.env = (false, eval a X.env) :: starEach [] X.env := by rfl) : Ed X B ρ (.Call (.Name "abs" p) [a] [] pos) (dP X.K (.int (if i < 0 then -i else i))) :=
  ed_callB call_abs hg hm (by decide +kernel) (ea_cons ha ea_nil he) (givesC_here fun vs G H eg r1 Q z => by
    obtain ⟨v, rfl, h1⟩ := allp1 r1
    have h1 := dp_int h1
    subst h1
    exact ⟨i, rfl, z _ (.int _)⟩) (by decide) (by decide) he
theorem ed_slL {l u : Option Expr} {lo hi : Option Int} (h : Ed X B ρ e (lP X.K Ps)) (h1 : Eo X B ρ l lo) (h2 : Eo X B ρ u hi) : Ed X B ρ (.Subscript e (.Slice l u none p2) pos) (lP X.K (cutA Ps lo hi)) := by
  obtain ⟨t1, a1, a2⟩ := h1
  obtain ⟨t2, b1, b2⟩ := h2
  refine fun σ G H eg k Q z => pe_we (pe_slice sl_list we_pe a1 b1) (h σ G H eg k _ fun v H2 s r => a2 σ (ext G H H2) H2 (ext_same eg s) (k.up (ext_up eg)) _ fun H3 s3 => ?_)
  have g3 : OkB B (ext G H H3) H3 := ext_same eg (s.trans s3)
  refine b2 σ (ext G H H3) H3 g3 (k.up (ext_up eg)) _ fun H4 s4 => ?_
  have s24 : Stp B H H4 := (s.trans s3).trans s4
  have g4 : OkB B (ext G H H4) H4 := ext_same eg s24
  have r4 : (lP X.K Ps).p v (ext G H H4) := (lP X.K Ps).up (by
    rw [← ext_trans eg s (s3.trans s4)]
    exact ext_up (ext_same eg s)) r
  obtain ⟨t, xs, rfl, q1, q2⟩ := r4
  refine ⟨t, xs, rfl, sql_up g4.1 q1, fun p hp => z _ _ (s24.trans (stp_new hp)) ?_⟩
  rw [← ext_trans eg s24 (stp_new hp), ext_new g4 hp]
  exact ⟨p, _, rfl, upd_same, (q2.cut lo hi).up (snew (snone g4.1 hp))⟩
/-- the upper end known by bounds -/
theorem ed_slLX {u : Expr} {S : Int → Prop} {P : Pr} (h : Ed X B ρ e (lP X.K Ps)) (h2 : Ed X B ρ u (iP X.K S)) (hP : ∀ i, S i → Imp (lP X.K (cutA Ps none (some i))) P) : Ed X B ρ (.Subscript e (.Slice none (some u) none p2) pos) P := by
  refine fun σ G H eg k Q z => pe_we (pe_slice sl_list we_pe po_none (po_some we_pe)) (h σ G H eg k _ fun v H2 s r => h2 σ (ext G H H2) H2 (ext_same eg s) (k.up (ext_up eg)) _ fun w H3 s3 r3 => ?_)
  obtain ⟨i, hi, r3⟩ := r3
  have r3 := dp_int r3
  subst r3
  have s23 : Stp B H H3 := s.trans s3
  have g3 : OkB B (ext G H H3) H3 := ext_same eg s23
  have r4 : (lP X.K Ps).p v (ext G H H3) := (lP X.K Ps).up (by
    rw [← ext_trans eg s s3]
    exact ext_up (ext_same eg s)) r
  obtain ⟨t, xs, rfl, q1, q2⟩ := r4
  refine ⟨i, rfl, t, xs, rfl, sql_up g3.1 q1, fun p hp => z _ _ (s23.trans (stp_new hp)) (hP i hi _ _ ?_)⟩
  rw [← ext_trans eg s23 (stp_new hp), ext_new g3 hp]
  exact ⟨p, _, rfl, upd_same, (q2.cut none (some i)).up (snew (snone g3.1 hp))⟩
/-- [e, ..], hidden -/
theorem em_lstH (h : Ea X φ.B ρ es Ps) (hl : Ps.length ≤ 100000 := by first | decide | simp) : Em X φ ρ hs (.List es pos) (fun v G H => ∃ p, v = .ref p ∧ Stt φ ((p, lHP Ps) :: hs) G H) := fun σ G H S k Q z =>
  pe_we (pe_lst wa_pa) (h σ G H S.ok k _ fun vs H2 s r => ⟨by rw [← r.len]; exact small hl, fun p hp => z _ _ _ (ext_up S.ok) ⟨p, rfl, (S.ev s).new hp ⟨vs, rfl, r⟩⟩⟩)
/-- list(a list), hidden, read where hidden things stand -/
theorem em_listNewE (hg : Gl X "list") (hm : X.mg "list" = none) (ha : Em X φ ρ hs a (fun v G H => Stt φ hs G H ∧ (lP X.K Ps).p v G)) (hs1 : starEach [a] X.env = (false, eval a X.env) :: starEach [] X.env := by rfl) : Em X φ ρ hs (.Call (.Name "list" p) [a] [] pos) (fun v G H => ∃ q, v = .ref q ∧ Stt φ ((q, lHP Ps) :: hs) G H) :=
  em_callTy call_list_of hg hm (by decide +kernel) (eam_dat ha hs1) (fun vs G H ⟨S, r⟩ Q z => by
    obtain ⟨v, rfl, t, xs, rfl, h2, h3⟩ := allp1 r
    exact ⟨t, xs, rfl, .inl (sql_up S.ok.1 h2), fun l hl => z _ G _ (Same.refl _) ⟨l, rfl, S.new hl ⟨xs, rfl, h3⟩⟩⟩) (by decide) (by decide) hs1
/-- a def called by its name, which changes hidden things or gives new ones -/
theorem em_callM {α : Type} {bx : α → List Addr} {pre : α → Prop} {As : α → List Pr} {hin : α → Hs} {Post : α → V → Hp → Hs → Prop} {x : Str} {ps : List Str} {k j : Nat} (c : Cal X.prog X.w X.K X.mg X.base k x ps (spM bx pre As hin Post)) (hr : Room j X.A) (hk : k ≤ j) (z : α) (hz : pre z) (hB : ∀ b ∈ bx z, b ∈ φ.B) (hp : hs.Perm (hin z ++ oth)) (hg : Gl X x)
    (ha : Eam X φ ρ hs (e :: es) (fun vs G H => Stt φ hs G H ∧ AllP (As z) vs G)) (hdb : (x == ("__debug__" : Str)) = false := by decide) (he : starEach (e :: es) X.env = (false, eval e X.env) :: starEach es X.env := by rfl) (hpl : (backTo pos (starEach es X.env)).any (·.1) = false := by rfl) :
    Em X φ ρ hs (.Call (.Name x p) (e :: es) [] pos) (fun v G H => ∃ hs', Stt φ (hs' ++ oth) G H ∧ Post z v G hs') := by
  obtain ⟨f, fd, h1, h2, h3, h4⟩ := c.ex
  intro σ G H S kn Q q
  refine pe_we (pe_call h4 (hr.mono hk) hg h1 h2 h3 .nil pass0 wa_pa hdb he hpl) (ha σ G H S kn _ fun us G2 H2 s2 ⟨S2, r2⟩ => ?_)
  rw [List.append_nil]
  obtain ⟨S3, back⟩ := S2.call hp hB
  exact ⟨z, G2, _, hz, S3, r2, fun v G4 H4 hs' S4 post => q v G4 H4 (s2.trans S4.up) ⟨hs', back _ _ _ S4, post⟩⟩
/-- one argument that makes new hidden things, then the call -/
theorem em_callM1 {α : Type} {bx : α → List Addr} {pre : α → Prop} {As : α → List Pr} {hin : α → Hs} {Post : α → V → Hp → Hs → Prop} {x : Str} {ps : List Str} {k j : Nat} (c : Cal X.prog X.w X.K X.mg X.base k x ps (spM bx pre As hin Post)) (hr : Room j X.A) (hk : k ≤ j) (hg : Gl X x)
    (ha : Em X φ ρ hs e FV) (hz : ∀ v G H, FV v G H → ∃ (z : α) (hs2 : Hs), pre z ∧ (∀ b ∈ bx z, b ∈ φ.B) ∧ hs2.Perm (hin z ++ oth) ∧ Stt φ hs2 G H ∧ AllP (As z) [v] G) (hdb : (x == ("__debug__" : Str)) = false := by decide) (he : starEach [e] X.env = (false, eval e X.env) :: starEach [] X.env := by rfl) :
    Em X φ ρ hs (.Call (.Name x p) [e] [] pos) (fun v G H => ∃ z hs', Stt φ (hs' ++ oth) G H ∧ Post z v G hs') := by
  obtain ⟨f, fd, h1, h2, h3, h4⟩ := c.ex
  intro σ G H S kn Q q
  refine pe_we (pe_call (E := (fun _ _ _ => False)) h4 (hr.mono hk) hg h1 h2 h3 .nil pass0 (pa_cons we_pe pa_nil he) hdb he) (ha σ G H S kn _ fun u G2 H2 s2 f2 => ?_)
  show spM bx pre As hin Post [u] H2 Q (fun _ _ _ => False)
  obtain ⟨z, hs2, z1, z2, z3, S2, r2⟩ := hz u G2 H2 f2
  obtain ⟨S3, back⟩ := S2.call z3 z2
  exact ⟨z, G2, _, z1, S3, r2, fun v G4 H4 hs' S4 post => q v G4 H4 (s2.trans S4.up) ⟨z, hs', back _ _ _ S4, post⟩⟩
end
section
variable {P : Program} {w : World} {K : PySem.W.Frag} {mg : Str → Option Value} {base : Heap}
theorem cal_mkM {α : Type} {bx : α → List Addr} {pre : α → Prop} {As : α → List Pr} {hin : α → Hs} {Post : α → V → Hp → Hs → Prop} {x qual : Str} {params : Arguments} {body : List Stmt} {scope : Scope} {f : Addr} {fd : FuncData} {N ps : List Str} {k : Nat} (F : FunD K x qual params body scope [] [] f fd) (S : FnScope N ps scope)
    (hm : mg x = some (.ref f)) (hb : Binds K fd ps []) (hl : ∀ z, (As z).length = ps.length)
    (h : ∀ (cdv : Value) (A : Around) (outer : List Env) (s : Shared) (H : Hp) (E : XK), Room k (A.deeper (envOfC qual scope s.heap.objs.size f cdv)) → ∀ z, pre z → ∀ (φ : Fx) (D : Ends), φ.B = bx z → (∀ v G' H' hs', Stt φ hs' G' H' → Post z v G' hs' → D.rt v H') → (∀ σ' G' H' hs', Stt φ hs' G' H' → Post z .non G' hs' → D.nx σ' H') → M (cxOf CX0 P w K mg base N qual scope f cdv A outer s H E).nox φ (rho0 N (As z)) (hin z) body D) :
    Cal P w K mg base (k + 1) x ps (spM bx pre As hin Post) := ⟨f, fd, hm, F.kp, hb, fn_mkM F S hl h⟩
end
/-! ### comprehensions whose list is hidden -/
section
variable {X : Cx} {B : List Addr} {φ : Fx} {hs : Hs} {rest : List Stmt} {D : Ends} {ρ : Rho} {tg iter elt : Expr} {ifs : List Expr} {scope : Scope} {own : List (Str × Nat)} {pos p : Pos} {α : Type} {xs : List α} {Pi : α → Pr} {keep : α → Bool} {res : α → Pr}
theorem lc_readG {wi : TI} {σ : L2.St} {G H : Hp} {Q : VK} (eg : OkB B G H) (k : Kn σ G ρ) (hsrc : ∀ R : It → Hp → Prop, (∀ J H2, Stp B H H2 → WkD B J (xs.map Pi) (ext G H H2) → R J H2) → wi σ H R) (hz : xs.length ≤ 100000)
    (turn : ∀ x ∈ xs, Turn1 X B ρ scope (own.map (·.2)) tg (Pi x) ifs elt (keep x) (res x))
    (q : ∀ (D : Addr) (acc : List V) (Gi H2 : Hp), H D = none → H2 D = some (.lst acc) → OkB B Gi H2 → Gi D = none → Same G Gi → Stp B H H2 → (∀ a o, H a = some o → Gi a = G a) → AllP ((xs.filter keep).map res) acc Gi → Q (.ref D) H2) : tLc wi (bG X scope tg) (bT X scope ifs) (bE X scope elt) (own.map (·.2)) σ H Q := by
  refine hsrc _ fun J H1 s1 wk D hD => ?_
  have u1 : Same G (ext G H H1) := ext_up eg
  have o1 : ∀ a o, H a = some o → ext G H H1 a = G a := fun a o h => ext_some h
  have g1 : OkB B (ext G H H1) H1 := ext_same eg s1
  generalize hG1 : ext G H H1 = G1 at wk g1 u1 o1
  have kG1 : Kn σ G1 ρ := k.up u1
  have hn : (xs.map Pi).length = xs.length := List.length_map ..
  have hDB : D ∉ B := g1.nb hD
  have hDG : G1 D = none := snone g1.1 hD
  refine lc_it (n := xs.length) (G := fun H' => Same G1 H' ∧ True) (Y := fun i H x H' => J.yld i H x H') ⟨fun i H' hi e => wk.goes i H' e.1 (by rw [hn]; exact hi), fun H' e => by
      have z := wk.stops H' e.1
      rw [hn] at z
      exact z, fun _ _ _ _ _ _ y => y⟩
    (fun i H' => ∃ (acc : List V) (Gi : Hp), H' D = some (.lst acc) ∧ OkB B Gi H' ∧ Gi D = none ∧ Same G1 Gi ∧ Stp B H1 H' ∧ (∀ a o, H1 a = some o → Gi a = G1 a) ∧ AllP (((xs.take i).filter keep).map res) acc Gi)
    ⟨[], G1, upd_same, g1.hid hDG hDB (fun _ h => nomatch h), hDG, Same.refl _, stp_new hD, fun _ _ _ => rfl, .nil⟩
    (fun i H' _ ⟨acc, Gi, _, h2, _, h4, _⟩ => ⟨h4.trans h2.1, trivial⟩) ?_ ?_
  · rintro i x H' H'' hi ⟨acc, Gi, a1, a2, a3, a4, a5, a6, a7⟩ y
    have hx : xs[i]? = some xs[i] := by simp [hi]
    generalize xs[i] = z at hx
    have hP : (xs.map Pi)[i]? = some (Pi z) := by rw [List.getElem?_map, hx]; rfl
    obtain ⟨y0, y2⟩ := wk.yields i H' x H'' _ (a4.trans a2.1) hP y
    have y1 : Stp B H' H'' := sstp y0
    obtain ⟨is, ρ', t1, t2⟩ := turn z (List.mem_of_getElem? hx)
    have e1 : Same (ext G1 H' H'') (ext Gi H' H'') := fun b o h => by
      cases q : H' b with
      | some u =>
        rw [ext_some q] at h ⊢
        exact a4 b o h
      | none =>
        rw [ext_none q] at h ⊢
        exact h
    have g2 : OkB B (ext Gi H' H'') H'' := ext_same a2 y1
    have r2 : (Pi z).p x (ext Gi H' H'') := (Pi z).up e1 y2
    have D2 : ext Gi H' H'' D = none := by rw [ext_some a1]; exact a3
    have k2 : Kn (wipe σ (own.map (·.2))) (ext Gi H' H'') (wipeR ρ (own.map (·.2))) := (kG1.up (a4.trans (ext_up a2))).wipe _
    have o2 : ∀ a o, H1 a = some o → ext Gi H' H'' a = G1 a := fun a o h => by
      obtain ⟨o', h', _⟩ := a5 a o h
      rw [ext_some h']
      exact a6 a o h
    have G12 : Same G1 (ext Gi H' H'') := a4.trans (ext_up a2)
    have acc2 : AllP (((xs.take i).filter keep).map res) acc (ext Gi H' H'') := a7.up (ext_up a2)
    have H12 : Stp B H1 H'' := a5.trans y1
    have D3 : H'' D = some (.lst acc) := y1.at a1 hDB
    generalize ext Gi H' H'' = G2 at g2 r2 D2 k2 o2 G12 acc2
    have hlen : acc.length ≤ i := by
      rw [← acc2.len, List.length_map]
      exact Nat.le_trans (List.length_filter_le _ _) (by rw [List.length_take]; omega)
    refine fun s H0 C cl fp => (t2 s H0 C cl fp).1 x _ G2 H'' g2.1 k2 r2 _ fun σ2 w2 k3 => ?_
    refine ⟨(w2 _ t1).trans (wipe_wipe σ _), ?_⟩
    refine fun s H0 C cl fp => (t2 s H0 C cl fp).2.1 σ2 G2 H'' g2 k3 _ fun H3 s3 => ?_
    have cst : ∀ {H4 : Hp}, Stp B H'' H4 → (ext G2 H'' H4) D = none ∧ Same G1 (ext G2 H'' H4) ∧ ∀ a o, H1 a = some o → (ext G2 H'' H4) a = G1 a := fun {H4} s4 =>
      ⟨by rw [ext_some D3]; exact D2, G12.trans (ext_up g2), fun a o h => by
        obtain ⟨o', h', _⟩ := H12 a o h
        rw [ext_some h']
        exact o2 a o h⟩
    cases hk : keep z with
    | true =>
      rw [if_pos rfl]
      refine fun s H0 C cl fp => (t2 s H0 C cl fp).2.2 hk σ2 (ext G2 H'' H3) H3 (ext_same g2 s3) (k3.up (ext_up g2)) _ fun v H4 s4 r4 => ?_
      rw [ext_trans g2 s3 s4] at r4
      obtain ⟨c1, c2, c3⟩ := cst (s3.trans s4)
      refine ⟨acc, (s3.trans s4).at D3 hDB, Nat.lt_of_lt_of_le (Nat.lt_of_le_of_lt hlen hi) (small hz), acc ++ [v], ext G2 H'' H4, upd_same, (ext_same g2 (s3.trans s4)).hid c1 hDB (fun _ h => nomatch h), c1, c2, ((H12.trans s3).trans s4).hid hD, c3, ?_⟩
      rw [take_succ' hx, List.filter_append, List.map_append]
      have e2 : (([z] : List α).filter keep).map res = [res z] := by simp [hk]
      rw [e2]
      exact (acc2.up (ext_up g2)).snoc r4
    | false =>
      rw [if_neg Bool.false_ne_true]
      obtain ⟨c1, c2, c3⟩ := cst s3
      refine ⟨acc, ext G2 H'' H3, s3.at D3 hDB, ext_same g2 s3, c1, c2, H12.trans s3, c3, ?_⟩
      rw [take_succ' hx, List.filter_append, List.map_append]
      have e2 : (([z] : List α).filter keep).map res = [] := by simp [hk]
      rw [e2, List.append_nil]
      exact acc2.up (ext_up g2)
  · rintro H' ⟨acc, Gi, a1, a2, a3, a4, a5, a6, a7⟩
    rw [List.take_length] at a7
    refine q D acc Gi H' (s1.free hD) a1 a2 a3 (u1.trans a4) (s1.trans a5) (fun a o h => ?_) a7
    obtain ⟨o', h', _⟩ := s1 a o h
    rw [a6 a o' h', o1 a o h]
theorem Stt.lc {G H Gi H2 : Hp} {D : Addr} {acc : List V} {Ps : List Pr} (S : Stt φ hs G H) (h1 : H D = Option.none) (h2 : H2 D = some (.lst acc)) (h3 : OkB φ.B Gi H2) (h4 : Gi D = Option.none) (h5 : Same G Gi) (h6 : Stp φ.B H H2) (h7 : ∀ a o, H a = some o → Gi a = G a) (h8 : AllP Ps acc Gi) : Stt φ ((D, lHP Ps) :: hs) Gi H2 := by
  obtain ⟨f1, f2, f3, f4⟩ := S.fresh h1
  refine ⟨h3, S.b0, S.up.trans h5, S.st.trans h6, fun a o h => ?_, fun x hx => ?_, List.nodup_cons.mpr ⟨f3, S.nd⟩, S.mid.trans h5⟩
  · obtain ⟨o', h', _⟩ := S.st a o h
    rw [h7 a o' h']
    exact S.old a o h
  · rcases List.mem_cons.mp hx with rfl | hx
    · exact ⟨h4, f1, _, h2, acc, rfl, h8⟩
    · obtain ⟨a1, a2, o', a3, a4⟩ := S.hid x hx
      exact ⟨by rw [h7 _ o' a3]; exact a1, a2, o', h6.at a3 (S.nb a2), x.2.up h5 a4⟩
/-- y = [..], the new list hidden -/
theorem sm_setLcH {i : Nat} {y : Str} {py spos : Pos} (hc : X.calm = true) (hN : X.N.Nodup) (own : List (Str × Nat)) (hy : X.N[i]? = some y) (hyl : X.env.scope.names.lookup y = some .local) (hsw : swapsWith (.ListComp elt [⟨tg, iter, ifs, 0⟩] scope pos) (some (.Name y py)) spos.line X.env = pure true)
    (ok : BlkOk X.N X.env.scope scope own) (xs : List α) (Pi : α → Pr) (keep : α → Bool) (res : α → Pr) (hsrc : Es X φ.B ρ tg iter (xs.map Pi)) (hz : xs.length ≤ 100000)
    (turn : ∀ x ∈ xs, Turn1 X φ.B ρ scope (own.map (·.2)) tg (Pi x) ifs elt (keep x) (res x)) (hs0 : ∀ x, foldedSetIterable iter X.env x = pure x := by intro _; rfl) : Sm X φ ρ hs (.Assign [.Name y py] (.ListComp elt [⟨tg, iter, ifs, 0⟩] scope pos) spos) (fun σ G H => ∃ d, Stt φ ((d, lHP ((xs.filter keep).map res)) :: hs) G H ∧ Kn σ G (ρ.set i (some (eP (.ref d))))) := by
  obtain ⟨wi, h1, h2⟩ := hsrc
  exact fun D σ G H S k z => ps_ws (ps_setLc hc hN hy hyl hsw h1 ok bG_pg bT_pt bE_pe hs0) (lc_readG S.ok k (h2 σ G H S.ok k) hz turn fun d acc Gi H2 q1 q2 q3 q4 q5 q6 q7 q8 => z _ Gi H2 q5 ⟨d, S.lc q1 q2 q3 q4 q5 q6 q7 q8, (k.up q5).set i rfl⟩)
theorem m_setLcH {i : Nat} {y : Str} {py spos : Pos} (hc : X.calm = true) (hN : X.N.Nodup) (own : List (Str × Nat)) (hy : X.N[i]? = some y) (hyl : X.env.scope.names.lookup y = some .local) (hsw : swapsWith (.ListComp elt [⟨tg, iter, ifs, 0⟩] scope pos) (some (.Name y py)) spos.line X.env = pure true)
    (ok : BlkOk X.N X.env.scope scope own) (xs : List α) (Pi : α → Pr) (keep : α → Bool) (res : α → Pr) (hsrc : Es X φ.B ρ tg iter (xs.map Pi)) (hz : xs.length ≤ 100000)
    (turn : ∀ x ∈ xs, Turn1 X φ.B ρ scope (own.map (·.2)) tg (Pi x) ifs elt (keep x) (res x)) (h : ∀ d, M X φ (ρ.set i (some (eP (.ref d)))) ((d, lHP ((xs.filter keep).map res)) :: hs) rest D) (hs0 : ∀ x, foldedSetIterable iter X.env x = pure x := by intro _; rfl) : M X φ ρ hs (.Assign [.Name y py] (.ListComp elt [⟨tg, iter, ifs, 0⟩] scope pos) spos :: rest) D :=
  m_st (sm_setLcH hc hN own hy hyl hsw ok xs Pi keep res hsrc hz turn hs0) fun σ G H ⟨d, S, k⟩ => h d σ G H S k
end
section
variable {X : Cx} {B : List Addr} {φ : Fx} {ρ : Rho} {hs : Hs} {rest : List Stmt} {D : Ends} {e o a c : Expr} {P : Pr} {pos p apos cpos : Pos} {β : Type} {g : β → PyData} {ms : List (Int × β)}
/-- found[k] = thing, both known by bounds -/
theorem sm_putKX {S : β → Prop} {T : Int → Prop} {i : Nat} {d : Addr} {pos' : Pos} (hu : X.A.units + 1 < cLine) (hi : hs[i]? = some (d, dKP g ms)) (hl : ms.length < 100000) (hv : Ed X φ.B ρ e (xP S fun x => dP X.K (g x))) (ho : Ed X φ.B ρ o (eP (.ref d))) (ha : Ed X φ.B ρ a (iP X.K T))
    (hs1 : swapsWith e (some (.Subscript o a pos')) pos.line X.env = pure false := by rfl) : Sm X φ ρ hs (.Assign [.Subscript o a pos'] e pos) (fun σ G H => ∃ x m, S x ∧ T m ∧ Stt φ (hs.set i (d, dKP g (putM ms m x))) G H ∧ Kn σ G ρ) := fun D σ G H St kn z =>
  ps_ws (ps_dput hu we_pe we_pe we_pe hs1) (hv σ G H St.ok kn _ fun v H1 s1 r1 => by
    obtain ⟨x, hx, r1⟩ := r1
    have S1 := St.ev s1
    have k1 := kn.up (ext_up St.ok (H2 := H1))
    refine ho σ _ H1 S1.ok k1 _ fun y H2 s2 r2 => ?_
    have S2 := S1.ev s2
    have k2 := k1.up (ext_up S1.ok (H2 := H2))
    have r2 : y = .ref d := r2
    subst r2
    refine ha σ _ H2 S2.ok k2 _ fun y H3 s3 r3 => ?_
    have S3 := S2.ev s3
    have k3 := k2.up (ext_up S2.ok (H2 := H3))
    obtain ⟨m, hm, r3⟩ := r3
    have hy := dp_int r3
    subst hy
    obtain ⟨o', ho', kvs, rfl, hkv⟩ := S3.get hi
    have hl' := hkv.len
    have hv' := dp_up (ext_up S2.ok (H2 := H3)) _ _ (dp_up (ext_up S1.ok (H2 := H2)) _ _ r1)
    exact ⟨d, _, rfl, .k (k := .inl m) ho' (Nat.lt_of_lt_of_le (by omega) (small (Nat.le_refl 100000))), z _ _ _ (((ext_up St.ok).trans (ext_up S1.ok)).trans (ext_up S2.ok)) ⟨x, m, hx, hm, S3.put hi ⟨_, rfl, hkv.put m hv'⟩, k3⟩⟩)
end
end Lk

/-! W16: the law's own defs: the box, the notices. -/
namespace Lk
open PySem PySem.Spec PyProof.Rows L2 PySem.W
abbrev boxH (K : PySem.W.Frag) : HP := lHP [iP K fun n => 0 ≤ n]
/-- what the law's notices keep to -/
structure DrawnOk (sea : Sea) (h : Nat) (ns : List Notice) : Prop where
  len : ns.length ≤ 30
  ok : ∀ n ∈ ns, NoticeOk sea h n
  few : ∃ os : List Notice, os.length ≤ 20 ∧ (os.map (·.num)).Nodup ∧ ∀ n ∈ ns, n ∈ os
def pairD (x : Int × Deed) : PyData := .tuple [.int x.1, deedD x.2]
def numOf (ms : List (Int × (Int × Deed))) (p : Int × (Int × Deed)) : Notice := ⟨p.1, ((getM ms p.1).getD p.2).1, ((getM ms p.1).getD p.2).2⟩
structure FoundOk (sea : Sea) (h : Nat) (n : Nat) (ms : List (Int × (Int × Deed))) : Prop where
  len : ms.length ≤ n
  nd : (ms.map (·.1)).Nodup
  ok : ∀ p ∈ ms, (1 ≤ p.1 ∧ p.1 ≤ 99) ∧ (0 ≤ p.2.1 ∧ p.2.1 ≤ 400) ∧ DeedOk sea h p.2.2
theorem putM_keys {β : Type} {ms : List (Int × β)} {m : Int} {x : β} (h : (ms.map (·.1)).Nodup) : ((putM ms m x).map (·.1)).Nodup := by
  unfold putM
  split
  · have e : ((ms.map fun p => if p.1 = m then (p.1, x) else p).map (·.1)) = ms.map (·.1) := by
      rw [List.map_map]
      refine List.map_congr_left fun p _ => ?_
      show (if p.1 = m then (p.1, x) else p).1 = p.1
      split <;> rfl
    rw [e]
    exact h
  · rename_i hn
    rw [List.map_append]
    refine List.nodup_append.mpr ⟨h, by simp, fun a ha b hb e => ?_⟩
    obtain ⟨p, hp, rfl⟩ := List.mem_map.mp ha
    have : p.1 = m := by
      rw [e]
      simpa using hb
    exact hn (List.any_eq_true.mpr ⟨p, hp, decide_eq_true this⟩)
theorem mem_putM' {β : Type} {ms : List (Int × β)} {m : Int} {x : β} {p : Int × β} (h : p ∈ putM ms m x) : p ∈ ms ∨ p = (m, x) := by
  unfold putM at h
  split at h
  · obtain ⟨q, hq, rfl⟩ := List.mem_map.mp h
    by_cases e : q.1 = m
    · rw [if_pos e]
      exact .inr (by rw [e])
    · rw [if_neg e]
      exact .inl hq
  · rcases List.mem_append.mp h with h | h
    · exact .inl h
    · exact .inr (List.mem_singleton.mp h)
theorem FoundOk.put {sea : Sea} {h n : Nat} {ms : List (Int × (Int × Deed))} {m : Int} {x : Int × Deed} (F : FoundOk sea h n ms) (hm : 1 ≤ m ∧ m ≤ 99) (hx : (0 ≤ x.1 ∧ x.1 ≤ 400) ∧ DeedOk sea h x.2) : FoundOk sea h (n + 1) (putM ms m x) := by
  refine ⟨Nat.le_trans length_putM (Nat.succ_le_succ F.len), putM_keys F.nd, fun p hp => ?_⟩
  rcases mem_putM' hp with hp | rfl
  · exact F.ok p hp
  · exact ⟨hm, hx⟩
theorem FoundOk.rows {sea : Sea} {h n : Nat} {ms : List (Int × (Int × Deed))} (F : FoundOk sea h n ms) : ((ms.map (numOf ms)).map (·.num)).Nodup ∧ (ms.map (numOf ms)).length ≤ n ∧ ∀ r ∈ ms.map (numOf ms), NoticeOk sea h r := by
  refine ⟨?_, by rw [List.length_map]; exact F.len, fun r hr => ?_⟩
  · rw [List.map_map]
    exact F.nd
  · obtain ⟨p, hp, rfl⟩ := List.mem_map.mp hr
    obtain ⟨x, hx⟩ := getM_some hp
    obtain ⟨q, hq, e1, e2⟩ := getM_mem hx
    obtain ⟨a1, a2, a3⟩ := F.ok q hq
    rw [e1] at a1
    rw [e2] at a2 a3
    refine ⟨a1.1, a1.2, ?_, ?_, ?_⟩ <;> simp only [numOf, hx, Option.getD_some]
    · exact a2.1
    · exact a2.2
    · exact a3
section
variable {P : Program} {w : World} {K : PySem.W.Frag} {mg : Str → Option Value} {base : Heap} {C : Addr}
theorem c_box (T : TX K mg) : Cal P w K mg base 2 "_law_box" ["_law_script", "_law_k", "_law_lap"] (spM (α := List Int × Nat × Nat) (fun _ => []) (fun z => z.2.1 ≤ 1000 ∧ z.2.2 ≤ 1000) (fun z => [sqP K z.1, dP K (.int z.2.1), dP K (.int z.2.2)]) (fun _ => []) fun _ v _ hs' => ∃ a, v = .ref a ∧ hs' = [(a, boxH K)]) := by
  obtain ⟨f, fd, hm, F⟩ := T.f__law_box
  have c1 := c_cell (P := P) (w := w) (base := base) T
  have c2 := c_mix (P := P) (w := w) (base := base) T
  refine cal_mkM F sc__law_box hm (F.bindsN fun _ _ _ _ _ _ us hl => match us, hl with | [_, _, _], _ => rfl) (fun _ => rfl) fun cdv A outer s H E hr z hz φ D hB hD hN => ?_
  obtain ⟨ns, k, lap⟩ := z
  obtain ⟨hk, hlap⟩ := hz
  dsimp only at hk hlap
  refine m_ss (ss_set 3 sc__law_box.nd (ed_call c1 hr (by decide) (ns, k) trivial (by rfl) (ea_cons (ed_var 0) (ea_cons (ed_var 1) ea_nil)))) ?_
  generalize ns.getD k 0 = c
  refine m_if (etm_et (ew_et (ew_and (et_eqi (ed_modE (ed_var 3) ed_int (by decide)) ed_int) fun _ => ew_and1 (et_eqi (ed_var 2) ed_int)))) (fun _ => ?_) (fun _ => ?_)
  · refine m_ret (em_lstH (Ps := [iP K fun n => 0 ≤ n]) (ea_cons (ed_fdivX (S := fun i => 0 ≤ i) (T := fun j => j = 2) ((ed_absE (by rfl) T.z_abs (ed_var 3)).imp (iP_of ?_)) (ed_int.imp (iP_of rfl)) (fun j e => by rw [e]; decide) (fun i j hi e => by rw [e]; exact Int.ediv_nonneg hi (by decide))) ea_nil)) fun v G H ⟨p, e, S⟩ => hD v G H _ S ⟨p, e, rfl⟩
    show 0 ≤ if c < 0 then -c else c
    split <;> omega
  · refine m_nil fun σ1 G1 H1 S1 k1 => ?_
    refine (?_ : M _ φ _ [] _ D) σ1 G1 H1 S1 k1
    refine m_ss (ss_set 4 sc__law_box.nd (P := iP K fun n => 0 ≤ n) (ed_int.imp (iP_of (by decide)))) ?_
    refine m_for PassesOwn.never rfl (es_range (n := 90) (by rfl) T.z_range (by decide) ed_int) (fun _ (_ : Unit) => True) (fun _ => []) (fun _ => [some (sqP K ns), some (dP K (.int k)), some (dP K (.int lap)), some (dP K (.int c)), some (iP K fun n => 0 ≤ n), none]) () trivial rfl rfl ?_ ?_
    · rintro i Pi z hPi _ φ1 hφ1 bk1
      rw [List.getElem?_map] at hPi
      obtain ⟨m, hm, rfl⟩ := Option.map_eq_some_iff.mp hPi
      refine ⟨[5], _, tg_name 5 sc__law_box.nd, fun D1 hD1 hn1 => ?_⟩
      refine m_ss (ss_set 4 sc__law_box.nd (ed_addX (S := fun n => 0 ≤ n) (T := mixB) (U := fun n => 0 ≤ n) (ed_mulX (S := fun n => 0 ≤ n) (T := fun j => j = 142857143) (U := fun n => 0 ≤ n) (ed_var 4) (ed_int.imp (iP_of rfl)) (fun j e => by rw [e]; exact small64 (by decide) (by decide)) (fun i j hi e => by rw [e]; exact Int.mul_nonneg hi (by decide))) (ed_call c2 hr (by decide) (c, 90 * (lap : Int) + (m : Int)) trivial (by rfl) (ea_cons (ed_var 3) (ea_cons (ed_add (ed_mulE ed_int (ed_var 2) (small64 (by decide) (by decide))) (ed_var 5)) ea_nil))) (fun i j hi hj => Int.add_nonneg hi hj.1))) ?_
      exact m_nil fun σ2 G2 H2 S2 k2 => hn1 () trivial σ2 G2 H2 S2 (k2.forget 5)
    · rintro z _
      exact m_ret (em_lstH (Ps := [iP K fun n => 0 ≤ n]) (ea_cons (ed_var 4) ea_nil)) fun v G H ⟨p, e, S⟩ => hD v G H _ S ⟨p, e, rfl⟩
end
end Lk

/-! Da20: walks over range(n), n known by bounds; values that are one of several. -/
namespace Lk
open PySem PySem.Spec PyProof.Rows L2
/-- what is walked, one of several -/
def Esx (X : Cx) (B : List Addr) (ρ : Rho) (tg iter : Expr) {β : Type} (S : β → Prop) (Psf : β → List Pr) : Prop := ∃ wi, PI X tg iter wi ∧ ∀ (σ : L2.St) (G H : Hp), OkB B G H → Kn σ G ρ → ∀ R : It → Hp → Prop, (∀ b J H2, S b → Stp B H H2 → WkD B J (Psf b) (ext G H H2) → R J H2) → wi σ H R
section
variable {X : Cx} {B : List Addr} {φ : Fx} {ρ : Rho} {hs : Hs} {rest body : List Stmt} {D : Ends} {e a b tg : Expr} {P P1 : Pr} {Ps : List Pr} {pos p p2 : Pos}
theorem es_rangeX {S : Nat → Prop} (hg : Gl X "range") (hm : X.mg "range" = none) (hS : ∀ n, S n → n ≤ 100000) (ha : Ed X B ρ a (xP S fun n => dP X.K (.int (n : Nat)))) (hs : starEach [a] X.env = [(false, eval a X.env)] := by rfl) : Esx X B ρ tg (.Call (.Name "range" p) [a] [] pos) S fun n => (List.range n).map fun i => dP X.K (.int (i : Nat)) :=
  ⟨_, pi_range1 hg hm wa_pa hs, fun σ G H eg k R z => ea_cons ha ea_nil hs σ G H eg k _ fun vs H2 s r => by
    obtain ⟨v, rfl, n, hn, r1⟩ := allp1 r
    have hv := dp_int r1
    subst hv
    have hn2 := hS n hn
    refine ⟨(n : Int), rfl, by omega, by omega, z n _ H2 hn s ⟨fun i H' e hi => ?_, fun H' e => ?_, fun i H' x H'' P e hP y => ?_⟩⟩
    · rw [List.length_map, List.length_range] at hi
      show i < (n : Int).toNat
      omega
    · rw [List.length_map, List.length_range]
      show (n : Int).toNat ≤ n
      omega
    · obtain ⟨rfl, rfl⟩ := y
      refine ⟨Same.refl _, ?_⟩
      rw [List.getElem?_map] at hP
      obtain ⟨m, hm, rfl⟩ := Option.map_eq_some_iff.mp hP
      have e2 : m = i := by
        obtain ⟨h1, h2⟩ := List.getElem?_eq_some_iff.mp hm
        rw [List.getElem_range] at h2
        exact h2.symm
      subst e2
      rw [show (0 : Int) + (m : Int) = m by omega]
      exact Dh.int _⟩
theorem m_forX {β γ : Type} {iter : Expr} {Sx : β → Prop} {Psf : β → List Pr} (hp : PassesOwn (model X.prog X.w) X.A X.env X.xe) (hc : X.calm = true) (hsrc : Esx X φ.B ρ tg iter Sx Psf) (C : β → Nat → γ → Prop) (hsf : γ → Hs) (ρf : γ → Rho) (z0 : γ) (c0 : ∀ b, Sx b → C b 0 z0) (e1 : hsf z0 = hs) (e2 : ρf z0 = ρ)
    (turn : ∀ b, Sx b → ∀ i P z, (Psf b)[i]? = some P → C b i z → ∀ φ' : Fx, φ'.B = φ.B → ∃ is ρ1, Tg X (ρf z) tg P is ρ1 ∧ ∀ D' : Ends, D'.rt = D.rt → (∀ z', C b (i + 1) z' → ∀ σ' G' H', Stt φ' (hsf z') G' H' → Kn σ' G' (ρf z') → D'.nx σ' H') → M X φ' ρ1 (hsf z) body D')
    (done : ∀ b, Sx b → ∀ z, C b (Psf b).length z → M X φ (ρf z) (hsf z) rest D) (hs0 : ∀ x, foldedSetIterable iter X.env x = pure x := by intro _; rfl) : M X φ ρ hs (.For tg iter body [] pos :: rest) D := by
  obtain ⟨wi, hi, hw⟩ := hsrc
  intro σ G H S kn
  refine ps_wb (pss_cons (ps_for hp hc hi wg_pg wb_ps hs0) wb_ps) (hw σ G H S.ok kn _ fun b J H1 hb s1 wk => ?_)
  have S1 := S.ev s1
  have k1 : Kn σ (ext G H H1) ρ := kn.up (ext_up S.ok)
  generalize ext G H H1 = Gk at wk S1 k1
  have bk : ∀ hs G H, Stt (φ.at Gk) hs G H → Stt φ hs G H := fun hs G H Z => Z.back S1.mid
  have turn := turn b hb
  have done := done b hb
  have c0 := c0 b hb
  generalize Psf b = Qs at wk turn done
  refine ⟨fun i m σ H => m = Qs.length - i ∧ i ≤ Qs.length ∧ ∃ z G, C b i z ∧ Stt (φ.at Gk) (hsf z) G H ∧ Kn σ G (ρf z), ⟨_, rfl, Nat.zero_le _, z0, Gk, c0, e1 ▸ S1.at (Same.refl _), e2 ▸ k1⟩, ?_⟩
  rintro i m σ2 H2 ⟨rfl, hi', z, G2, c, S2, k2⟩
  by_cases hl : i < Qs.length
  · have hP : Qs[i]? = some Qs[i] := by simp [hl]
    have g2 : Same Gk G2 := S2.mid
    refine .inr ⟨wk.goes i H2 (g2.trans S2.ok.1) hl, fun σ' H' => ∃ z G, C b (i + 1) z ∧ Stt (φ.at Gk) (hsf z) G H' ∧ Kn σ' G (ρf z), fun σ' H' q => ⟨_, by omega, rfl, hl, q⟩, fun x H3 y => ?_⟩
    obtain ⟨y0, y2⟩ := wk.yields i H2 x H3 _ (g2.trans S2.ok.1) hP y
    have y1 : Stp φ.B H2 H3 := sstp y0
    have u : Same (ext Gk H2 H3) (ext G2 H2 H3) := fun b o h => by
      cases q : H2 b with
      | some u =>
        rw [ext_some q] at h ⊢
        exact g2 b o h
      | none =>
        rw [ext_none q] at h ⊢
        exact h
    obtain ⟨is, ρ1, t1, t2⟩ := turn i _ z hP c (φ.at Gk) rfl
    have S3 := S2.ev y1
    have k3 : Kn σ2 (ext G2 H2 H3) (ρf z) := k2.up (ext_up S2.ok)
    have p3 := (Qs[i]).up u y2
    generalize ext G2 H2 H3 = G3 at S3 k3 p3
    refine t1 x σ2 G3 H3 S3.ok.1 k3 p3 _ fun σ4 _ k4 => ?_
    refine t2 _ ?_ ?_ σ4 G3 H3 S3 k4
    · rfl
    · exact fun z' c' σ' G' H' S' k' => ⟨z', G', c', S', k'⟩
  · have e : i = Qs.length := by omega
    subst e
    exact .inl ⟨wk.stops H2 (S2.mid.trans S2.ok.1), done z c σ2 G2 H2 (bk _ _ _ S2) k2⟩
theorem ed_catLX {β : Type} {S : β → Prop} {Qs : β → List Pr} (ha : Ed X B ρ a (lP X.K Ps)) (hb : Ed X B ρ b (xP S fun i => lP X.K (Qs i))) (hl : ∀ i, S i → Ps.length + (Qs i).length ≤ 100000) : Ed X B ρ (.BinOp a .Add b pos) (xP S fun i => lP X.K (Ps ++ Qs i)) := ed_op op_cat ha hb fun x y G H eg r1 r2 Q z => by
  obtain ⟨i, hi, r2⟩ := r2
  obtain ⟨s, xs, rfl, a1, a2⟩ := r1
  obtain ⟨t, ys, rfl, b1, b2⟩ := r2
  refine ⟨s, t, xs, ys, rfl, rfl, eg.1 _ _ a1, eg.1 _ _ b1, by rw [← a2.len, ← b2.len]; exact small (hl i hi), fun p hp => z _ _ (stp_new hp) ⟨i, hi, ?_⟩⟩
  rw [ext_new eg hp]
  exact ⟨p, xs ++ ys, rfl, upd_same, (a2.app b2).up (snew (snone eg.1 hp))⟩
theorem ed_slLx {β : Type} {S : β → Prop} {Qs : β → List Pr} {l u : Option Expr} {lo hi : Option Int} (h : Ed X B ρ e (xP S fun i => lP X.K (Qs i))) (h1 : Eo X B ρ l lo) (h2 : Eo X B ρ u hi) : Ed X B ρ (.Subscript e (.Slice l u none p2) pos) (xP S fun i => lP X.K (cutA (Qs i) lo hi)) := by
  obtain ⟨t1, a1, a2⟩ := h1
  obtain ⟨t2, b1, b2⟩ := h2
  refine fun σ G H eg k Q z => pe_we (pe_slice sl_list we_pe a1 b1) (h σ G H eg k _ fun v H2 s r => a2 σ (ext G H H2) H2 (ext_same eg s) (k.up (ext_up eg)) _ fun H3 s3 => ?_)
  have g3 : OkB B (ext G H H3) H3 := ext_same eg (s.trans s3)
  refine b2 σ (ext G H H3) H3 g3 (k.up (ext_up eg)) _ fun H4 s4 => ?_
  have s24 : Stp B H H4 := (s.trans s3).trans s4
  have g4 : OkB B (ext G H H4) H4 := ext_same eg s24
  obtain ⟨i, hi, r⟩ := r
  have r4 : (lP X.K (Qs i)).p v (ext G H H4) := (lP X.K (Qs i)).up (by
    rw [← ext_trans eg s (s3.trans s4)]
    exact ext_up (ext_same eg s)) r
  obtain ⟨t, xs, rfl, q1, q2⟩ := r4
  refine ⟨t, xs, rfl, sql_up g4.1 q1, fun p hp => z _ _ (s24.trans (stp_new hp)) ⟨i, hi, ?_⟩⟩
  rw [← ext_trans eg s24 (stp_new hp), ext_new g4 hp]
  exact ⟨p, _, rfl, upd_same, (q2.cut lo _).up (snew (snone g4.1 hp))⟩
/-- a first argument that makes a new thing, then a plain one -/
theorem eam_newFst {eb : Expr} {q : HP} (ha : Em X φ ρ hs e (fun v G H => ∃ p, v = .ref p ∧ Stt φ ((p, q) :: hs) G H)) (hb : Ed X φ.B ρ eb P) (hs1 : starEach [e, eb] X.env = (false, eval e X.env) :: starEach [eb] X.env := by rfl) (hs2 : starEach [eb] X.env = (false, eval eb X.env) :: starEach [] X.env := by rfl) :
    Eam X φ ρ hs [e, eb] (fun vs G H => ∃ p v, vs = [.ref p, v] ∧ P.p v G ∧ Stt φ ((p, q) :: hs) G H) := fun σ G H S kn Q z =>
  pa_wa (pa_cons we_pe (pa_cons we_pe pa_nil hs2) hs1) (ha σ G H S kn _ fun v G1 H1 s1 ⟨p, e1, S1⟩ => hb σ G1 H1 S1.ok (kn.up s1) _ fun w H2 s2 r2 => by
    subst e1
    exact z _ _ _ (s1.trans (ext_up S1.ok)) ⟨p, w, rfl, r2, S1.ev s2⟩)
theorem em_tupFst {x1 : Nat} {eb : Expr} {q : HP} (ha : Em X φ ρ hs e (fun v G H => ∃ p, v = .ref p ∧ Stt φ ((p, q) :: hs) G H)) (hb : Ed X φ.B ρ eb P) (hs1 : starEach [e, eb] X.env = (false, eval e X.env) :: starEach [eb] X.env := by rfl) (hs2 : starEach [eb] X.env = (false, eval eb X.env) :: starEach [] X.env := by rfl) :
    Em X φ ρ hs (.Tuple [e, eb] x1 pos) (fun v G H => ∃ p, (tP X.K [eP (.ref p), P]).p v G ∧ Stt φ ((p, q) :: hs) G H) := fun σ G H S kn Q z =>
  pe_we (pe_tup wa_pa) (eam_newFst ha hb hs1 hs2 σ G H S kn _ fun vs G2 H2 s f => by
    obtain ⟨d, v, rfl, r1, S2⟩ := f
    refine ⟨small (by show 2 ≤ 100000; decide), fun p hp => ?_⟩
    have n := snew (o := HO.tup [.ref d, v]) (snone S2.ok.1 hp)
    exact z _ _ _ (s.trans n) ⟨d, ⟨p, [.ref d, v], rfl, upd_same, .cons rfl (.cons (P.up n r1) .nil)⟩, S2.newG hp⟩)
end
end Lk

/-! W17: the law's own defs: the notices. -/
namespace Lk
open PySem PySem.Spec PyProof.Rows L2 PySem.W
theorem cutA_any {α : Type} {xs : List α} {i : Nat} : cutA xs none (some (i : Int)) = xs.take i := by
  by_cases h : i ≤ xs.length
  · exact cutA_to h
  · unfold cutA
    rw [HT.sIx_none, HT.sIx_nat, List.drop_zero, Nat.sub_zero, Nat.min_eq_right (by omega), List.take_length, List.take_of_length_le (by omega)]
theorem drawn_of {sea : Sea} {h : Nat} {os : List Notice} (ho : os.length ≤ 20) (hn : (os.map (·.num)).Nodup) (hk : ∀ n ∈ os, NoticeOk sea h n) (i : Nat) : DrawnOk sea h ((os ++ os.take i).take 30) := by
  have sub : ∀ n ∈ (os ++ os.take i).take 30, n ∈ os := fun n hm => by
    rcases List.mem_append.mp (List.mem_of_mem_take hm) with h | h
    · exact h
    · exact List.mem_of_mem_take h
  exact ⟨by rw [List.length_take]; exact Nat.min_le_left _ _, fun n hm => hk n (sub n hm), os, ho, hn, sub⟩
section
variable {P : Program} {w : World} {K : PySem.W.Frag} {mg : Str → Option Value} {base : Heap} {C : Addr}
theorem c_lawnotices (T : TX K mg) : Cal P w K mg base 4 "_law_notices" ["_law_box_here", "_law_sea_here", "_law_most"] (spB (α := Addr × Sea × Nat) (fun z => [z.1]) (fun z => SeaOk z.2.1 z.2.2) (fun z => [eP (.ref z.1), dP K (seaD z.2.1), dP K (.int 20)]) fun z => xP (DrawnOk z.2.1 z.2.2) fun ns => notP K ns) := by
  obtain ⟨f, fd, hm, F⟩ := T.f__law_notices
  have c1 := c_lawdeed (P := P) (w := w) (base := base) T
  refine cal_mkB F sc__law_notices hm (F.bindsN fun _ _ _ _ _ _ us hl => match us, hl with | [_, _, _], _ => rfl) (fun _ => rfl) fun cdv A outer s H E hr z hz => Sr.b (sr_m fun φ D hB hD => ?_)
  obtain ⟨b, sea, h⟩ := z
  have S : SeaOk sea h := hz
  have hu := hr.units
  have hu1 : (A.deeper (envOfC (Str.ofString "_law_notices") (defScope s__law_notices) s.heap.objs.size f cdv)).units + 1 < cLine := by omega
  have hb : b ∈ φ.B := by
    rw [hB]
    exact List.mem_cons_self
  refine m_asgN (PP := fun d => tP K [eP (.ref d), iP K fun n => n = 6 ∨ n = 30 ∨ n = 401]) (em_tupFst (em_newK (g := pairD)) (ed_ixLX (S := fun r => 0 ≤ r ∧ r < 3) (Ps := [dP K (.int 6), dP K (.int 30), dP K (.int 401)]) (ed_lst (ea_cons ed_int (ea_cons ed_int (ea_cons ed_int ea_nil)))) (ed_takeN T hr (by decide) hb (by rfl) (ed_var 0) ed_int (by decide) (by decide)) (fun i hi => ?_))) (fun d => tg_tup rfl (tgs_cons (tg_name 3 sc__law_notices.nd) (tgs_cons (tg_name 4 sc__law_notices.nd) tgs_nil))) fun d => ?_
  · have e : i = 0 ∨ i = 1 ∨ i = 2 := by omega
    rcases e with rfl | rfl | rfl
    · exact ⟨_, rfl, fun v H q => ⟨6, .inl rfl, q⟩⟩
    · exact ⟨_, rfl, fun v H q => ⟨30, .inr (.inl rfl), q⟩⟩
    · exact ⟨_, rfl, fun v H q => ⟨401, .inr (.inr rfl), q⟩⟩
  refine m_forX PassesOwn.never rfl (es_rangeX (S := fun n : Nat => n ≤ 20) (by rfl) T.z_range (fun n hn => by omega) (ed_i ?_ (ed_takeN T hr (by decide) hb (by rfl) (ed_var 0) (ed_add (ed_var 2) ed_int) (by decide) (by decide)))) (fun n i ms => FoundOk sea h i ms) (fun ms => [(d, dKP pairD ms)]) (fun _ => [some (eP (.ref b)), some (dP K (seaD sea)), some (dP K (.int 20)), some (eP (.ref d)), some (iP K fun n => n = 6 ∨ n = 30 ∨ n = 401), none, none, none, none]) [] (fun _ _ => ⟨Nat.zero_le _, List.nodup_nil, fun _ h => by cases h⟩) rfl rfl ?_ ?_
  · rintro v G ⟨i, hi, q⟩
    refine ⟨i.toNat, by show i.toNat ≤ 20; omega, ?_⟩
    show (dP K (.int (i.toNat : Int))).p v G
    rw [Int.toNat_of_nonneg hi.1]
    exact q
  · rintro n hn i Pi ms hPi Fk φ1 hφ1
    have hb1 : b ∈ φ1.B := by
      rw [hφ1]
      exact hb
    rw [List.getElem?_map] at hPi
    obtain ⟨m, hm', rfl⟩ := Option.map_eq_some_iff.mp hPi
    have il : i < n := by
      have := (List.getElem?_eq_some_iff.mp hm').1
      rw [List.length_range] at this
      exact this
    have hn20 : n ≤ 20 := hn
    refine ⟨[5], _, tg_name 5 sc__law_notices.nd, fun D1 hD1 hn1 => ?_⟩
    refine m_st (sm_putKX (i := 0) (g := pairD) (S := fun x : Int × Deed => (0 ≤ x.1 ∧ x.1 ≤ 400) ∧ DeedOk sea h x.2) (T := fun m => 1 ≤ m ∧ m ≤ 99) hu1 rfl (by have := Fk.len; omega) (ed_i ?_ (ed_tup (ea_cons (ed_take (S := fun n => n = 6 ∨ n = 30 ∨ n = 401) (U := fun r => 0 ≤ r ∧ r ≤ 400) T hr (by decide) hb1 (by rfl) (ed_var 0) (ed_var 4) (fun n e => by omega) (fun n r e h3 h4 => by omega)) (ea_cons (ed_callG c1 hr (by decide) (by rfl) (ea_cons (ed_var 0) (ea_cons (ed_var 1) ea_nil)) (fun vs G r => ⟨(b, sea, h), S, (fun x hx => by rw [List.mem_singleton.mp hx]; exact hb1), r, Imp.refl _⟩)) ea_nil)))) (ed_var 3) (ed_addX (S := fun i => i = 1) (T := fun r => 0 ≤ r ∧ r < 99) (ed_int.imp (iP_of rfl)) (ed_takeN T hr (by decide) hb1 (by rfl) (ed_var 0) ed_int (by decide) (by decide)) (fun i j e hj => by omega))) fun σ3 G3 H3 f3 => ?_
    · intro v H q
      obtain ⟨t, xs, rfl, h2, h3⟩ := q
      obtain ⟨x, y, rfl, ⟨i, hi, q1⟩, ⟨dd, hdd, q2⟩⟩ := allp2 h3
      exact ⟨(i, dd), ⟨hi, hdd⟩, .tup h2 (.cons q1 (.cons q2 .nil))⟩
    · obtain ⟨x, m2, hx, hm2, S3, k3⟩ := f3
      refine m_nil (fun σ7 G7 H7 S7 k7 => ?_) σ3 G3 H3 S3 k3
      exact hn1 (putM ms m2 x) (Fk.put hm2 hx) σ7 G7 H7 S7 (k7.forget 5)
  · rintro n hn ms Fk
    have hn20 : n ≤ 20 := hn
    rw [List.length_map, List.length_range] at Fk
    obtain ⟨r1, r2, r3⟩ := Fk.rows
    refine m_freeze (g := pairD) (ms := ms) 3 rfl ?_
    refine m_setLcH (i := 6) rfl sc__law_notices.nd [("_law_number", 7)] rfl rfl (sw_true rfl rfl rfl (by decide +kernel)) (blkOk_by (N := n__law_notices) (sc := defScope s__law_notices) (by decide +kernel)) ms (fun p => dP K (.int p.1)) (fun _ => true) (fun p => dP K (noticeD (numOf ms p))) (es_keysK (g := pairD) (ed_var 3)) (by have := Fk.len; omega) (fun p hp => ?_) fun q => ?_
    · obtain ⟨x, hx⟩ := getM_some hp
      have en : noticeD (numOf ms p) = .tuple [.int p.1, .int x.1, deedD x.2] := by
        simp only [noticeD, numOf, hx, Option.getD_some]
      exact ⟨[7], _, by simp, fun s H C cl fp => ⟨tg_name 7 sc__law_notices.nd, ets_nil, fun _ => ed_d en.symm (ed_tupd (ds := [.int p.1, .int x.1, deedD x.2]) (ea_cons (ed_var 7) (ea_cons (ed_ixTd (ds := [.int x.1, deedD x.2]) (ed_getK (g := pairD) hu1 (ed_var 3) (ed_var 7) hx) ed_int (by rfl)) (ea_cons (ed_ixTd (ds := [.int x.1, deedD x.2]) (ed_getK (g := pairD) hu1 (ed_var 3) (ed_var 7) hx) ed_int (by rfl)) ea_nil))))⟩⟩
    have er : (ms.filter fun _ => true).map (fun p => dP K (noticeD (numOf ms p))) = ((ms.map (numOf ms)).map noticeD).map (dP K) := by
      rw [List.filter_eq_self.mpr (fun _ _ => rfl), List.map_map, List.map_map]
      rfl
    rw [er]
    generalize ms.map (numOf ms) = ns at r1 r2 r3
    refine m_new 8 sc__law_notices.nd em_newL fun q2 => ?_
    refine m_while PassesOwn.never (fun g : List Notice × List Notice => (g.1 ++ g.2).Perm ns) (fun g => g.1.length) (fun g => !decide (g.1 = [])) (fun g => [(q2, lHP ((g.2.map noticeD).map (dP K))), (q, lHP ((g.1.map noticeD).map (dP K)))]) (fun _ => [some (eP (.ref b)), some (dP K (seaD sea)), some (dP K (.int 20)), some (mkP pairD ms), some (iP K fun n => n = 6 ∨ n = 30 ∨ n = 401), none, some (eP (.ref q)), none, some (eP (.ref q2))]) (ns, []) (by rw [List.append_nil]) rfl rfl (fun g hg => ?_) (fun g hg hbg D' hD' hn' => ?_) fun g hg hbg => ?_
    · have hok : ∀ d ∈ g.1.map noticeD, okD d 3 := fun d hd => by
        obtain ⟨m, _, rfl⟩ := List.mem_map.mp hd
        exact okD_notice m
      refine etm_showL (i := 1) (Ps := (g.1.map noticeD).map (dP K)) 6 rfl rfl (et_to ?_ (et_neD (d := .list (g.1.map noticeD)) (e := .list []) hu ((ed_var 6).imp imp_dl) (ed_lstd (ds := []) ea_nil) (okD_list hok).shaped (by rfl)))
      rw [eqv_nil]
      simp
    · have hne : g.1 ≠ [] := by simpa using hbg
      have hlen : g.1.length ≤ 20 := by
        have := hg.length_eq
        rw [List.length_append] at this
        omega
      have hpos : 0 < g.1.length := List.length_pos_iff.mpr hne
      have il : ((g.1.map noticeD).map (dP K)).length = g.1.length := by rw [List.length_map, List.length_map]
      refine m_st (sm_expr (em_appendX (κ := Nat) (T := fun k => k < g.1.length) (i := 0) (d := q2) (Ps := (g.2.map noticeD).map (dP K)) (hs2 := fun k => [(q2, lHP ((g.2.map noticeD).map (dP K))), (q, lHP (((g.1.eraseIdx k).map noticeD).map (dP K)))]) (PP := fun k => dP K (noticeD (g.1.getD k ⟨0, 0, .lift 0⟩))) rfl (fun _ => rfl) (by
          rw [List.length_map, List.length_map]
          have := hg.length_eq
          rw [List.length_append] at this
          omega) (ed_var 8) (em_w ?_ (em_popAt (i := 1) (d := q) (Ps := (g.1.map noticeD).map (dP K)) (S := fun k => 0 ≤ k ∧ k < (g.1.length : Int)) rfl (fun k hk => by rw [il]; exact hk) (by rw [il]; omega) (ed_var 6) (em_showLi (i := 1) (Ps := (g.1.map noticeD).map (dP K)) 6 rfl rfl (ed_take (S := fun n => n = (g.1.length : Int)) T hr (by decide) hb (by rfl) (ed_var 0) (ed_i ?_ (ed_lenL (Ps := (g.1.map noticeD).map (dP K)) (by rfl) T.z_len (ed_var 6))) (fun n e => by omega) (fun n r e h3 h4 => by omega))))))) fun σ3 G3 H3 f3 => ?_
      · rintro v G H ⟨k, hk, P', hP, pv, S5⟩
        have hk' : k < g.1.length := by omega
        refine ⟨k, hk', ?_, ?_⟩
        · have e : ((g.1.map noticeD).map (dP K)).eraseIdx k = ((g.1.eraseIdx k).map noticeD).map (dP K) := by
            rw [map_erase, map_erase]
          rw [← e]
          exact S5
        · rw [List.getElem?_map, List.getElem?_map, List.getElem?_eq_getElem hk'] at hP
          cases hP
          rw [List.getD_eq_getElem?_getD, List.getElem?_eq_getElem hk']
          exact pv
      · rw [il]
        exact iP_of rfl
      · obtain ⟨v3, ⟨k, hk, S3, _⟩, k3⟩ := f3
        refine m_nil (fun σ7 G7 H7 S7 k7 => ?_) σ3 G3 H3 S3 k3
        have hg2 : g.1[k]? = some (g.1.getD k ⟨0, 0, .lift 0⟩) := by
          rw [List.getD_eq_getElem?_getD, List.getElem?_eq_getElem hk]
          rfl
        refine hn' (g.1.eraseIdx k, g.2 ++ [g.1.getD k ⟨0, 0, .lift 0⟩]) ?_ ?_ σ7 G7 H7 ?_ k7
        · have h1 := perm_eraseIdx hg2
          refine List.Perm.trans ?_ hg
          show (g.1.eraseIdx k ++ (g.2 ++ [_])).Perm _
          rw [← List.append_assoc]
          refine (List.perm_append_singleton _ _).trans ?_
          exact h1.append_right g.2
        · show (g.1.eraseIdx k).length < g.1.length
          rw [List.length_eraseIdx_of_lt hk]
          omega
        · rw [List.map_append, List.map_append]
          exact S7
    · have e : g.1 = [] := by simpa using hbg
      rw [e, List.nil_append] at hg
      have lg : g.2.length ≤ 20 := by rw [hg.length_eq]; omega
      have ng : (g.2.map (·.num)).Nodup := (hg.map (·.num)).nodup_iff.mpr r1
      have og : ∀ n ∈ g.2, NoticeOk sea h n := fun n hn => r3 n (hg.mem_iff.mp hn)
      refine m_showL 8 rfl (m_ret (FV := fun v G H => Stt φ [(q, lHP ((g.1.map noticeD).map (dP K)))] G H ∧ (xP (DrawnOk sea h) fun ns => notP K ns).p v G) (em_ed (ed_i ?_ (ed_slLx (S := fun i : Nat => i ≤ 2) (Qs := fun i => (g.2.map noticeD).map (dP K) ++ ((g.2.map noticeD).take i).map (dP K)) (ed_catLX (S := fun i : Nat => i ≤ 2) (Qs := fun i => ((g.2.map noticeD).take i).map (dP K)) (ed_var 8) (ed_slLX (S := fun r => 0 ≤ r ∧ r < 3) (ed_var 8) (ed_takeN T hr (by decide) hb (by rfl) (ed_var 0) ed_int (by decide) (by decide)) (fun i hi => ?_)) (fun i hi => ?_)) eo_none (eo_some ed_int)))) fun v G H ⟨S, r⟩ => hD v G H S.none r)
      · rintro v H ⟨i, hi, r⟩
        refine ⟨_, drawn_of lg ng og i, ?_⟩
        have e2 : cutA ((g.2.map noticeD).map (dP K) ++ ((g.2.map noticeD).take i).map (dP K)) none (some 30) = (((g.2 ++ g.2.take i).take 30).map noticeD).map (dP K) := by
          rw [← List.map_append, ← List.map_take, ← List.map_append, cutA_map, cutA_map]
          exact congrArg (fun l : List Notice => (l.map noticeD).map (dP K)) (cutA_any (i := 30))
        have r : (lP K (cutA ((g.2.map noticeD).map (dP K) ++ ((g.2.map noticeD).take i).map (dP K)) none (some 30))).p v H := r
        rw [e2] at r
        exact imp_dl v H r
      · have hl : i.toNat ≤ 2 := by omega
        obtain ⟨j, rfl⟩ : ∃ j : Nat, i = j := ⟨i.toNat, by omega⟩
        rintro v H r
        refine ⟨j, by omega, ?_⟩
        have e2 : cutA ((g.2.map noticeD).map (dP K)) none (some (j : Int)) = ((g.2.map noticeD).take j).map (dP K) := by
          rw [cutA_map]
          rw [cutA_any]
        have r : (lP K (cutA ((g.2.map noticeD).map (dP K)) none (some (j : Int)))).p v H := r
        rw [e2] at r
        exact r
      · rw [List.length_map, List.length_map, List.length_map, List.length_take, List.length_map]
        omega
end
end Lk

/-! Da21: calls where nothing is being displayed; repr; how often a truth stands in a list; books seen for one expression. -/
namespace Lk
open PySem PySem.Spec PyProof.Rows L2
/-! ### defs that are called where nothing is being displayed -/
structure FnG (P : Program) (w : World) (K : PySem.W.Frag) (mg : Str → Option Value) (base : Heap) (k : Nat) (f : Addr) (fd : FuncData) (ps : List Str) (sp : Sp) : Prop where
  len : ∀ vs H Q E, sp vs H Q E → vs.length = ps.length
  go : ∀ (A : Around) (outer : List Env) (s : Shared) (H : Hp) (args : Args) (us : List Value) (vs : List V) (Q : VK) (E : XK), Room k A → A.guards = some [] → Env0 P w K mg base A outer s H → BindsTo s fd args (ps.zip us) → Vals vs us → sp vs H Q E →
    codeAny (model P w) A (.call (.ref f) args) (CR CX0 outer P w H s Q E) s
structure CalG (P : Program) (w : World) (K : PySem.W.Frag) (mg : Str → Option Value) (base : Heap) (k : Nat) (x : Str) (ps : List Str) (sp : Sp) : Prop where
  ex : ∃ (f : Addr) (fd : FuncData), mg x = some (.ref f) ∧ PySem.W.keepIn K (.ref f) = true ∧ Binds K fd ps [] ∧ FnG P w K mg base k f fd ps sp
section
variable {P : Program} {w : World} {K : PySem.W.Frag} {mg : Str → Option Value} {base : Heap}
theorem fn_mkG0 {sp : Sp} {x qual : Str} {params : Arguments} {body : List Stmt} {scope : Scope} {f : Addr} {fd : FuncData} {N ps : List Str} {k : Nat} (F : FunD K x qual params body scope [] [] f fd) (S : FnScope N ps scope) (hl : ∀ vs H Q E, sp vs H Q E → vs.length = ps.length)
    (h : ∀ (cdv : Value) (A : Around) (outer : List Env) (s : Shared) (H : Hp) (vs : List V) (Q : VK) (E : XK), Room k (A.deeper (envOfC qual scope s.heap.objs.size f cdv)) → A.guards = some [] → sp vs H Q E → WB (cxOf CX0 P w K mg base N qual scope f cdv A outer s H E).nox body { nx := fun _ H' => Q .non H', rt := Q } (L2.start N vs) H) :
    FnG P w K mg base (k + 1) f fd ps sp := by
  obtain ⟨oc, od, dV, kV, doc, pm, an, cdv, ct, osl, rfl, lk, hcd, _, _⟩ := F.ex
  exact ⟨hl, fun A outer s H args us vs Q E hr hg e0 hb r hq => LamX.run_ofS lk hcd S hr e0 hb r (hl vs H Q E hq) fun hr' => ⟨_, PSs.nox wb_ps, h cdv A outer s H vs Q E hr' hg hq⟩⟩
theorem fn_mkG {α : Type} {bx : α → List Addr} {pre : α → Prop} {As : α → List Pr} {R : α → Pr} {x qual : Str} {params : Arguments} {body : List Stmt} {scope : Scope} {f : Addr} {fd : FuncData} {N ps : List Str} {k : Nat} (F : FunD K x qual params body scope [] [] f fd) (S : FnScope N ps scope) (hl : ∀ z, (As z).length = ps.length)
    (h : ∀ (cdv : Value) (A : Around) (outer : List Env) (s : Shared) (H : Hp) (E : XK), Room k (A.deeper (envOfC qual scope s.heap.objs.size f cdv)) → A.guards = some [] → ∀ z, pre z → Sb (cxOf CX0 P w K mg base N qual scope f cdv A outer s H E).nox (bx z) (rho0 N (As z)) body (R z)) :
    FnG P w K mg base (k + 1) f fd ps (spB bx pre As R) := by
  refine fn_mkG0 F S (fun vs H Q E hq => ?_) fun cdv A outer s H vs Q E hr hg hq => ?_
  · obtain ⟨z, G, _, _, r, _⟩ := hq
    rw [← r.len, hl]
  · obtain ⟨z, G, hz, eg, r, q⟩ := hq
    exact h cdv A outer s H E hr hg z hz (L2.start N vs) G H eg (kn_start r) _ q fun σ' H2 s hn => q .non H2 s hn
theorem fn_mkMG {α : Type} {bx : α → List Addr} {pre : α → Prop} {As : α → List Pr} {hin : α → Hs} {Post : α → V → Hp → Hs → Prop} {x qual : Str} {params : Arguments} {body : List Stmt} {scope : Scope} {f : Addr} {fd : FuncData} {N ps : List Str} {k : Nat} (F : FunD K x qual params body scope [] [] f fd) (S : FnScope N ps scope)
    (hl : ∀ z, (As z).length = ps.length)
    (h : ∀ (cdv : Value) (A : Around) (outer : List Env) (s : Shared) (H : Hp) (E : XK), Room k (A.deeper (envOfC qual scope s.heap.objs.size f cdv)) → A.guards = some [] → ∀ z, pre z → ∀ (φ : Fx) (D : Ends), φ.B = bx z → (∀ v G' H' hs', Stt φ hs' G' H' → Post z v G' hs' → D.rt v H') → (∀ σ' G' H' hs', Stt φ hs' G' H' → Post z .non G' hs' → D.nx σ' H') → M (cxOf CX0 P w K mg base N qual scope f cdv A outer s H E).nox φ (rho0 N (As z)) (hin z) body D) :
    FnG P w K mg base (k + 1) f fd ps (spM bx pre As hin Post) := by
  refine fn_mkG0 F S (fun vs H Q E hq => ?_) fun cdv A outer s H vs Q E hr hg hq => ?_
  · obtain ⟨z, G, H0, _, _, r, _⟩ := hq
    rw [← r.len, hl]
  · obtain ⟨z, G, H0, hz, S0, r, q⟩ := hq
    exact h cdv A outer s H E hr hg z hz ⟨bx z, G, H0, G⟩ _ rfl (fun v G' H' hs' S' p => q v G' H' hs' S' p) (fun σ' G' H' hs' S' p => q .non G' H' hs' S' p) (L2.start N vs) G H S0 (kn_start r)
end
section
variable {X : Cx} {B : List Addr} {φ : Fx} {hs oth : Hs} {ρ : Rho} {e : Expr} {es : List Expr} {P : Pr} {Ps : List Pr} {pos p : Pos} {x : Str} {ps : List Str} {k j : Nat} {sp : Sp} {f : Addr} {fd : FuncData} {t : TA} {FV : V → Hp → Hp → Prop}
theorem pe_callGd (F : FnG X.prog X.w X.K X.mg X.base k f fd ps sp) (hr : Room k X.A) (hgd : X.A.guards = some []) (hG : Gl X x) (hM : X.mg x = some (.ref f)) (hkp : PySem.W.keepIn X.K (.ref f) = true) (hbd : Binds X.K fd ps []) (hpa : PA X (e :: es) t) (hdb : (x == ("__debug__" : Str)) = false := by decide) (he : starEach (e :: es) X.env = (false, eval e X.env) :: starEach es X.env := by rfl) (hpl : (backTo pos (starEach es X.env)).any (·.1) = false := by rfl) :
    PE X (.Call (.Name x p) (e :: es) [] pos) (fun σ H Q => t σ H fun vs H1 => sp vs H1 Q (fun _ _ _ => False)) := by
  refine ⟨fun pins s σ H Q I hyp => wpAny_Call_Name_kw (ld_glob I hG hM ?_ hdb)⟩
  refine PySem.W.callWith_K (h₀ := X.base) I.ok.mod.kin hkp (thn (hpa.run pos pins s σ H _ I hyp) fun us s1 ⟨vs, H1, I1, r, q⟩ => ⟨I1.kIn, ?_⟩) he hpl
  have len : us.length = ps.length := r.length.symm.trans (F.len _ _ _ _ q)
  have bt := hbd s1 us I1.kIn (by rw [List.append_nil]; exact len)
  rw [List.append_nil] at bt
  refine wpAny_call (codeAny_mono (F.go X.A X.stack s1 H1 ⟨us, []⟩ us vs Q (fun _ _ _ => False) hr hgd I1.env0 bt r q) fun res s2 hend => ?_)
  match res, hend with
  | .ok (.ret u), hend => exact I1.after hend
theorem ed_callGd {α : Type} {pre : α → Prop} {As : α → List Pr} {R : α → Pr} (c : CalG X.prog X.w X.K X.mg X.base k x ps (spP pre As R)) (hr : Room j X.A) (hgd : X.A.guards = some []) (hk : k ≤ j) (z : α) (hz : pre z) (hg : Gl X x) (ha : Ea X B ρ (e :: es) (As z)) (hP : R z = P := by rfl)
    (hdb : (x == ("__debug__" : Str)) = false := by decide) (he : starEach (e :: es) X.env = (false, eval e X.env) :: starEach es X.env := by rfl) (hpl : (backTo pos (starEach es X.env)).any (·.1) = false := by rfl) : Ed X B ρ (.Call (.Name x p) (e :: es) [] pos) P := by
  obtain ⟨f, fd, h1, h2, h3, h4⟩ := c.ex
  subst hP
  refine fun σ G H eg kn Q q => pe_we (pe_callGd h4 (hr.mono hk) hgd hg h1 h2 h3 wa_pa hdb he hpl) (ha σ G H eg kn _ fun vs H2 s2 r2 => ?_)
  exact ⟨z, _, hz, (ext_same eg s2).sub (fun _ h => by cases h), r2, fun v H3 s3 r3 => q v H3 (s2.trans (s3.sub fun _ h => by cases h)) (by rw [← ext_trans eg s2 (s3.sub fun _ h => by cases h)]; exact r3)⟩
/-- one argument that makes new hidden things, then the call -/
theorem em_callMG1 {α : Type} {bx : α → List Addr} {pre : α → Prop} {As : α → List Pr} {hin : α → Hs} {Post : α → V → Hp → Hs → Prop} (c : CalG X.prog X.w X.K X.mg X.base k x ps (spM bx pre As hin Post)) (hr : Room j X.A) (hgd : X.A.guards = some []) (hk : k ≤ j) (hg : Gl X x)
    (ha : Em X φ ρ hs e FV) (hz : ∀ v G H, FV v G H → ∃ (z : α) (hs2 : Hs), pre z ∧ (∀ b ∈ bx z, b ∈ φ.B) ∧ hs2.Perm (hin z ++ oth) ∧ Stt φ hs2 G H ∧ AllP (As z) [v] G) (hdb : (x == ("__debug__" : Str)) = false := by decide) (he : starEach [e] X.env = (false, eval e X.env) :: starEach [] X.env := by rfl) :
    Em X φ ρ hs (.Call (.Name x p) [e] [] pos) (fun v G H => ∃ z hs', Stt φ (hs' ++ oth) G H ∧ Post z v G hs') := by
  obtain ⟨f, fd, h1, h2, h3, h4⟩ := c.ex
  intro σ G H S kn Q q
  refine pe_we (pe_callGd h4 (hr.mono hk) hgd hg h1 h2 h3 (pa_cons we_pe pa_nil he) hdb he) (ha σ G H S kn _ fun u G2 H2 s2 f2 => ?_)
  obtain ⟨z, hs2, z1, z2, z3, S2, r2⟩ := hz u G2 H2 f2
  obtain ⟨S3, back⟩ := S2.call z3 z2
  exact ⟨z, G2, _, z1, S3, r2, fun v G4 H4 hs' S4 post => q v G4 H4 (s2.trans S4.up) ⟨z, hs', back _ _ _ S4, post⟩⟩
/-! ### repr -/
theorem ed_repr {d : PyData} (hgd : X.A.guards = some []) (hu : X.A.units + 64 < cLine) (hg : Gl X "repr") (hm : X.mg "repr" = none) (hl : ∃ ds, d = .list ds) (h1 : d.showable = true) (h2 : d.hasDict = false) (h3 : d.depth ≤ 40) (h4 : d.shown.length ≤ sizeLine) (ha : Ed X B ρ e (dP X.K d)) (he : starEach [e] X.env = (false, eval e X.env) :: starEach [] X.env := by rfl) :
    Ed X B ρ (.Call (.Name "repr" p) [e] [] pos) (dP X.K (.str d.shown)) :=
  ed_callB (r := fun xs H Q => ∃ v, xs = [v] ∧ Dp X.K H v d ∧ Q (.str d.shown) H) (fun pins s σ H xs us Q I r h => by
    obtain ⟨v, rfl, hd, q⟩ := h
    obtain ⟨u, rfl, ru⟩ := vals1 r
    obtain ⟨as, rd⟩ := Dp.reads I d v u hd ru
    obtain ⟨ds, rfl⟩ := hl
    cases rd with
    | list e1 e2 e3 e4 =>
      exact repr_of_reads' (Reads.list e1 e2 e3 e4) h1 (PyData.noDict_hsm h2) hgd (by omega) (fun _ _ e => e) (fun h' u tk hk => ⟨.str _, H, I.kept (t' := tk) hk, ⟨u, rfl⟩, q⟩) h4) hg hm (by decide +kernel) (ea_cons ha ea_nil he) (givesC_here fun vs G H eg r1 Q z => by
    obtain ⟨v, rfl, r⟩ := allp1 r1
    exact ⟨v, rfl, dh_dp eg.1 _ _ r, z _ (.str _)⟩) (by decide) (by decide) he
end
/-! ### l.count(a truth) -/
theorem bools_of_vals : ∀ {bs : List Bool} {us : List Value}, Vals (bs.map V.bl) us → us = bs.map Value.bool
  | [], _, r => by
    cases r
    rfl
  | b :: bs, _, r => by
    rw [List.map_cons] at r
    cases r with
    | cons r1 r2 =>
      cases r1
      rw [bools_of_vals r2]
      rfl
theorem reads_bools {h : Heap} : ∀ bs : List Bool, ∃ as, ReadsAll h (bs.map Value.bool) (bs.map PyData.bool) as
  | [] => ⟨_, .nil⟩
  | b :: bs => by
    obtain ⟨as, r⟩ := reads_bools (h := h) bs
    exact ⟨_, .cons (.bool b) r⟩
theorem countIn_bools {k : Bool} : ∀ {bs : List Bool}, countIn (.bool k) (bs.map PyData.bool) = (bs.count k : Int)
  | [] => rfl
  | b :: bs => by
    rw [List.map_cons, countIn, countIn_bools, List.count_cons]
    simp only [same]
    cases b <;> cases k <;> simp <;> omega
def rCntB (K : PySem.W.Frag) : V → List V → Hp → VK → Prop := fun x xs H Q => ∃ (p : Addr) (bs : List Bool) (k : Bool), x = .ref p ∧ xs = [.bl k] ∧ SqL K H p (bs.map V.bl) ∧ Q (.int (bs.count k : Nat)) H
theorem mt_countB {X : Cx} : MtR X "list.count" (rCntB X.K) := fun pins s σ H x xs v us Q I rx rxs h => by
  obtain ⟨p, bs, k, rfl, rfl, hq, q⟩ := h
  cases rx
  obtain ⟨u, rfl, ru⟩ := rxs.one
  cases ru
  obtain ⟨its, rv, hl, hlen⟩ := I.list hq
  have hi := bools_of_vals rv
  subst hi
  obtain ⟨as, ra⟩ := reads_bools (h := s.heap) bs
  refine count_list_bools hl.isList ra (List.all_eq_true.mpr fun d hd => ?_) ⟨.int _, H, I.tok _, ⟨s.toks, ?_⟩, q⟩
  · obtain ⟨b, _, rfl⟩ := List.mem_map.mp hd
    rfl
  · show Value.int (countIn (.bool k) (bs.map PyData.bool)) s.toks = Value.int ((bs.count k : Nat) : Int) s.toks
    rw [countIn_bools]
section
variable {X : Cx} {B : List Addr} {ρ : Rho} {o a : Expr} {cpos apos : Pos} {bs : List Bool} {k : Bool}
theorem ed_countB (ho : Ed X B ρ o (dP X.K (.list (bs.map .bool)))) (ha : Ed X B ρ a (dP X.K (.bool k))) (hbase : attributeBase o "count" X.env (eval o X.env) = eval o X.env := by rfl)
    (hfew : ((backTo cpos (starEach [a] X.env)).all (fun x => !x.1) && (backToKw cpos (keywordEach [] X.env)).all (fun x => x.1.isSome)
      && decide (([a] : List Expr).length + ([] : List Keyword).length + (if ([] : List Keyword).isEmpty then 0 else 1) < 30)) = true := by rfl)
    (hline : (apos.endLine == cpos.line) = true := by rfl) (hs1 : starEach [a] X.env = (false, eval a X.env) :: starEach [] X.env := by rfl) (hplain : (backTo cpos (starEach [] X.env)).any (·.1) = false := by rfl) :
    Ed X B ρ (.Call (.Attribute o "count" apos) [a] [] cpos) (dP X.K (.int (bs.count k : Nat))) := fun σ G H eg kn Q z =>
  pe_we (pe_bm PySem.F.plainAttrs_list PySem.F.slot_list_count PySem.F.type_list_count mt_countB we_pe (pa_cons we_pe pa_nil hs1) hbase hfew hline hs1 hplain) (ho σ G H eg kn _ fun x H1 s1 r1 => by
    have e1 := ext_same eg s1
    have r1 : Dh (ext G H H1) x (.list (bs.map .bool)) := r1
    cases r1 with
    | @lst l xs _ h2 h3 =>
      rw [bools_v h3] at h2
      refine ⟨.inl ⟨rfl, _, sql_up e1.1 h2⟩, ha σ _ H1 e1 (kn.up (ext_up eg)) _ fun y H2 s2 r2 => ?_⟩
      have hy := dp_bl r2
      subst hy
      exact ⟨l, bs, k, rfl, rfl, sql_up ((ext_up e1).trans (ext_same e1 s2).1) h2, z _ H2 (s1.trans s2) (.int _)⟩)
end
end Lk

/-! Da22: hidden books seen for one expression; comprehensions whose items change hidden things; tests that go one way or the other. -/
namespace Lk
open PySem PySem.Spec PyProof.Rows L2
/-! ### books seen -/
abbrev bkHP (K : PySem.W.Frag) (C : Addr) (b : Bk) : Addr × HP := (b.a, iHP C b.dx (bkF K b.sea b.kept (eP (.ref b.pa))))
def seeS (bs : List Bk) (G H : Hp) : Hp := fun a => if a ∈ bs.map (·.a) then H a else G a
section
variable {K : PySem.W.Frag} {C : Addr} {φ : Fx} {hs : Hs} {G H H2 : Hp} {bs : List Bk}
theorem Stt.books (S : Stt φ hs G H) (hb : ∀ b ∈ bs, bkHP K C b ∈ hs) : Same G (seeS bs G H) ∧ OkB φ.B (seeS bs G H) H ∧ (∀ b ∈ bs, (bookP K C b.sea b.kept).p (.ref b.a) (seeS bs G H)) ∧ ∀ a ∈ bs.map (·.a), ∃ C dx vs, H a = some (.ins C dx vs) := by
  have ins : ∀ a ∈ bs.map (·.a), ∃ C dx vs, H a = some (.ins C dx vs) := fun a ha => by
    obtain ⟨b, hb', rfl⟩ := List.mem_map.mp ha
    obtain ⟨_, _, o, h3, vs, rfl, _⟩ := S.hid _ (hb b hb')
    exact ⟨_, _, _, h3⟩
  have up : Same G (seeS bs G H) := fun a o h => by
    unfold seeS
    by_cases ha : a ∈ bs.map (·.a)
    · obtain ⟨b, hb', e⟩ := List.mem_map.mp ha
      have := (S.hid _ (hb b hb')).1
      rw [show (bkHP K C b).1 = a from e, h] at this
      cases this
    · rw [if_neg ha]
      exact h
  refine ⟨up, ⟨fun a o h => ?_, fun b hb' => ?_, fun a xs h => ?_⟩, fun b hb' => ?_, ins⟩
  · unfold seeS at h
    by_cases ha : a ∈ bs.map (·.a)
    · rw [if_pos ha] at h
      exact h
    · rw [if_neg ha] at h
      exact S.ok.1 a o h
  · obtain ⟨h1, o, h2, h3⟩ := S.ok.2.1 b hb'
    refine ⟨?_, o, h2, h3⟩
    unfold seeS
    rw [if_neg (fun ha => ?_)]
    · exact h1
    · obtain ⟨c, hc, e⟩ := List.mem_map.mp ha
      exact S.nb (S.hid _ (hb c hc)).2.1 (by rw [show (bkHP K C c).1 = b from e]; exact hb')
  · unfold seeS
    by_cases ha : a ∈ bs.map (·.a)
    · obtain ⟨_, _, _, e⟩ := ins a ha
      rw [h] at e
      cases e
    · rw [if_neg ha]
      exact S.ok.2.2 a xs h
  · obtain ⟨_, _, o, h3, vs, rfl, r⟩ := S.hid _ (hb b hb')
    have : seeS bs G H b.a = some (.ins C b.dx vs) := by
      unfold seeS
      rw [if_pos (List.mem_map.mpr ⟨b, hb', rfl⟩)]
      exact h3
    exact imp_book (.ref b.a) _ ⟨b.a, b.dx, vs, rfl, this, r.up up⟩
theorem sameT_books (ins : ∀ a ∈ bs.map (·.a), ∃ C dx vs, H a = some (.ins C dx vs)) : SameT (ext (seeS bs G H) H H2) (ext G H H2) := fun a o h hl => by
  cases q : H a with
  | none =>
    rw [ext_none q] at h ⊢
    exact h
  | some u =>
    rw [ext_some q] at h ⊢
    unfold seeS at h
    by_cases ha : a ∈ bs.map (·.a)
    · rw [if_pos ha] at h
      obtain ⟨_, _, _, e⟩ := ins a ha
      rw [h] at e
      cases e
      obtain ⟨xs, e | e⟩ := hl <;> cases e
    · rw [if_neg ha] at h
      exact h
end
section
variable {X : Cx} {C : Addr} {φ : Fx} {ρ ρ' ρ2 : Rho} {hs : Hs} {bs : List Bk} {e c : Expr} {d : PyData} {k : Bool} {rest body : List Stmt} {D : Ends} {pos : Pos} {S : Bool → Prop}
/-- the slots when books are seen -/
def SeeB (K : PySem.W.Frag) (C : Addr) (bs : List Bk) (ρ ρ' : Rho) : Prop := ∀ (σ : L2.St) (G G2 : Hp), Same G G2 → Kn σ G ρ → (∀ b ∈ bs, (bookP K C b.sea b.kept).p (.ref b.a) G2) → Kn σ G2 ρ'
theorem em_books (hb : ∀ b ∈ bs, bkHP X.K C b ∈ hs) (hρ : SeeB X.K C bs ρ ρ') (h : Ed X φ.B ρ' e (dP X.K d)) : Em X φ ρ hs e (fun v G H => Stt φ hs G H ∧ (dP X.K d).p v G) := fun σ G H S kn Q z => by
  obtain ⟨u, ok, sb, ins⟩ := S.books hb
  exact h σ _ H ok (hρ σ G _ u kn sb) _ fun v H2 s r => z v (ext G H H2) H2 (ext_up S.ok) ⟨S.ev s, dp_upT (sameT_books ins) d v r⟩
theorem etm_books (hb : ∀ b ∈ bs, bkHP X.K C b ∈ hs) (hρ : SeeB X.K C bs ρ ρ') (h : Et X φ.B ρ' c k) : Etm X φ ρ hs c k := fun σ G H S kn Q z => by
  obtain ⟨u, ok, sb, ins⟩ := S.books hb
  exact h σ _ H ok (hρ σ G _ u kn sb) _ fun H2 s => z (ext G H H2) H2 (ext_up S.ok) (S.ev s)
theorem SeeB.refl {K : PySem.W.Frag} (ρ : Rho) : SeeB K C bs ρ ρ := fun σ G G2 u kn _ => kn.up u
/-- a name that holds a book -/
theorem SeeB.name {K : PySem.W.Frag} (i : Nat) {b : Bk} (h : SeeB K C bs ρ ρ') (hi : ρ'[i]? = some (some (eP (.ref b.a)))) (hb : b ∈ bs) : SeeB K C bs ρ (ρ'.set i (some (bookP K C b.sea b.kept))) := fun σ G G2 u kn sb => (h σ G G2 u kn sb).same i hi (sb b hb)
/-- a name that holds a list of books -/
theorem SeeB.list {K : PySem.W.Frag} (i : Nat) {cs : List Bk} (h : SeeB K C bs ρ ρ') (hi : ρ'[i]? = some (some (lP K (cs.map fun b => eP (.ref b.a))))) (hb : ∀ b ∈ cs, b ∈ bs) : SeeB K C bs ρ (ρ'.set i (some (lP K (cs.map fun b => bookP K C b.sea b.kept)))) := fun σ G G2 u kn sb => by
  have k2 := h σ G G2 u kn sb
  obtain ⟨v, hv, a, xs, rfl, q1, q2⟩ := k2.2 i _ hi
  have key : ∀ (cs : List Bk) (xs : List V), (∀ b ∈ cs, b ∈ bs) → AllP (cs.map fun b => eP (.ref b.a)) xs G2 → AllP (cs.map fun b => bookP K C b.sea b.kept) xs G2 := by
    intro cs
    induction cs with
    | nil =>
      intro xs _ q
      cases q
      exact .nil
    | cons b cs ih =>
      intro xs hb q
      cases q with
      | cons r t =>
        refine .cons ?_ (ih _ (fun b hb' => hb b (List.mem_cons_of_mem _ hb')) t)
        have r : _ = V.ref b.a := r
        rw [r]
        exact sb b (hb b List.mem_cons_self)
  have r : (lP K (cs.map fun b => bookP K C b.sea b.kept)).p (.ref a) G2 := ⟨a, xs, rfl, q1, key cs xs hb q2⟩
  have := k2.set (P := lP K (cs.map fun b => bookP K C b.sea b.kept)) i r
  have e3 : σ.set i (some (.ref a)) = σ := by
    apply List.ext_getElem?
    intro j
    by_cases hij : i = j
    · subst hij
      rw [List.getElem?_set_self (List.getElem?_eq_some_iff.mp hv).1, hv]
    · rw [List.getElem?_set_ne hij]
  rw [e3] at this
  exact this
/-! ### tests that go one way or the other -/
def Etmx (X : Cx) (φ : Fx) (ρ : Rho) (hs : Hs) (e : Expr) (S : Bool → Prop) : Prop := ∀ (σ : L2.St) (G H : Hp), Stt φ hs G H → Kn σ G ρ → ∀ Q : Bool → Hp → Prop, (∀ k G2 H2, S k → Same G G2 → Stt φ hs G2 H2 → Q k H2) → WT X e σ H Q
theorem etmx_of (h : Etx X φ.B ρ c S) : Etmx X φ ρ hs c S := fun σ G H St kn Q z => h σ G H St.ok kn Q fun k H2 hk s => z k _ H2 hk (ext_up St.ok) (St.ev s)
theorem m_ifx (ht : Etmx X φ ρ hs c S) (h1 : S true → M X φ ρ hs body { D with nx := fun σ H => WB X rest D σ H }) (h2 : S false → M X φ ρ hs rest D) : M X φ ρ hs (.If c body [] pos :: rest) D := fun σ G H St kn =>
  ps_wb (pss_cons (ps_if wt_pt wb_ps wb_ps) wb_ps) (ht σ G H St kn _ fun k G2 H2 hk e S2 => by
    cases k with
    | true => exact iteT (h1 hk σ G2 H2 S2 (kn.up e))
    | false => exact iteF (m_nil (D := { D with nx := fun σ H => WB X rest D σ H }) (fun σ G H S k => h2 hk σ G H S k) σ G2 H2 S2 (kn.up e)))
theorem etx_cmp {B : List Addr} {a b : Expr} {g : Int → Int → Bool} {op : CmpOp} {S T : Int → Prop} {U : Bool → Prop} (ho : OpR X (compareOp op) (rI0 fun i j => .bl (g i j))) (ha : Ed X B ρ a (iP X.K S)) (hb : Ed X B ρ b (iP X.K T)) (hm : behindInMarks op b = false) (hU : ∀ i j, S i → T j → U (g i j)) : Etx X B ρ (.Compare a [op] [b] pos) U := fun σ G H eg kn Q z =>
  pt_wt (pt_cmpR ho we_pe we_pe hm) (two (Q := fun v H => ∃ c, v = .bl c ∧ Q c H) ha hb eg kn fun x y H2 s1 s2 r1 r2 => by
    obtain ⟨i, hi, q1⟩ := r1
    obtain ⟨j, hj, q2⟩ := r2
    have q1 := dp_int q1
    have q2 := dp_int q2
    subst q1 q2
    exact ⟨i, j, rfl, rfl, g i j, rfl, z _ H2 (hU i j hi hj) s1⟩)
/-- a and b, a true -/
theorem etx_andT {B : List Addr} {a b : Expr} (h : Et X B ρ a true) (h' : Etx X B ρ b S) : Etx X B ρ (.BoolOp .And [a, b] pos) S := fun σ G H eg kn Q z =>
  pt_wt (PW.pt (pw_and wt_pt (pw_and1 wt_pt))) (h σ G H eg kn _ fun H2 s => iteT (h' σ (ext G H H2) H2 (ext_same eg s) (kn.up (ext_up eg)) Q fun k H3 hk s3 => z k H3 hk (s.trans s3)))
end
/-! ### comprehensions whose items change hidden things -/
section
variable {X : Cx} {φ : Fx} {hs : Hs} {rest : List Stmt} {D : Ends} {ρ : Rho} {tg iter elt : Expr} {scope : Scope} {own : List (Str × Nat)} {pos p : Pos} {α γ : Type} {xs : List α} {Pi : α → Pr}
theorem sm_setLcM {i : Nat} {y : Str} {py spos : Pos} (hc : X.calm = true) (hN : X.N.Nodup) (own : List (Str × Nat)) (hy : X.N[i]? = some y) (hyl : X.env.scope.names.lookup y = some .local) (hsw : swapsWith (.ListComp elt [⟨tg, iter, [], 0⟩] scope pos) (some (.Name y py)) spos.line X.env = pure true)
    (ok : BlkOk X.N X.env.scope scope own) (xs : List α) (Pi : α → Pr) (hsrc : Es X φ.B ρ tg iter (xs.map Pi)) (hz : xs.length ≤ 100000) (C : Nat → γ → Prop) (hsf : γ → Hs) (accf : γ → List Pr) (z0 : γ) (c0 : C 0 z0) (e1 : hsf z0 = hs) (e2 : accf z0 = []) (hl : ∀ i z, C i z → (accf z).length = i)
    (turn : ∀ j x z, xs[j]? = some x → C j z → ∃ (is : List Nat) (ρ' : Rho), (∀ i ∈ is, i ∈ own.map (·.2)) ∧ ∀ (s : Shared) (H : Hp) (Ca : Addr) (cl : List (Str × Addr)) (fp : List Addr) (D : Addr) (φ' : Fx), φ'.B = φ.B →
      Tg (X.blk s H scope (compEnvC scope cl Ca X.env) fp) (wipeR ρ (own.map (·.2))) tg (Pi x) is ρ' ∧ Em (X.blk s H scope (compEnvC scope cl Ca X.env) fp) φ' ρ' ((D, lHP (accf z)) :: hsf z) elt (fun v G H => ∃ z' P, C (j + 1) z' ∧ accf z' = accf z ++ [P] ∧ P.p v G ∧ Stt φ' ((D, lHP (accf z)) :: hsf z') G H))
    (hs0 : ∀ x, foldedSetIterable iter X.env x = pure x := by intro _; rfl) : Sm X φ ρ hs (.Assign [.Name y py] (.ListComp elt [⟨tg, iter, [], 0⟩] scope pos) spos) (fun σ G H => ∃ d z, C xs.length z ∧ Stt φ ((d, lHP (accf z)) :: hsf z) G H ∧ Kn σ G (ρ.set i (some (eP (.ref d))))) := by
  obtain ⟨wi, h1, h2⟩ := hsrc
  refine fun Dn σ G H S k zz => ps_ws (ps_setLc (g := bG X scope tg) (tt := tYes) (te := bE X scope elt) hc hN hy hyl hsw h1 ok bG_pg (fun _ _ _ _ _ => pts_nil) bE_pe hs0) (h2 σ G H S.ok k _ fun J H1 s1 wk D hD => ?_)
  have S1 := S.ev s1
  have u1 : Same G (ext G H H1) := ext_up S.ok
  generalize ext G H H1 = G1 at wk S1 u1
  have kG1 : Kn σ G1 ρ := k.up u1
  have hn : (xs.map Pi).length = xs.length := List.length_map ..
  have S2 : Stt (φ.at G1) ((D, lHP []) :: hs) G1 (upd H1 D (.lst [])) := (S1.new (q := lHP []) hD ⟨[], rfl, .nil⟩).at (Same.refl _)
  refine lc_it (n := xs.length) (G := fun H' => Same G1 H' ∧ True) (Y := fun i H x H' => J.yld i H x H') ⟨fun i H' hi e => wk.goes i H' e.1 (by rw [hn]; exact hi), fun H' e => by
      have z := wk.stops H' e.1
      rw [hn] at z
      exact z, fun _ _ _ _ _ _ y => y⟩
    (fun i H' => ∃ (z : γ) (Gi : Hp), C i z ∧ Stt (φ.at G1) ((D, lHP (accf z)) :: hsf z) Gi H') ⟨z0, G1, c0, by rw [e1, e2]; exact S2⟩
    (fun i H' _ ⟨z, Gi, _, S⟩ => ⟨S.mid.trans S.ok.1, trivial⟩) ?_ ?_
  · rintro i x H' H'' hi ⟨z, Gi, cz, Si⟩ y
    have hx : xs[i]? = some xs[i] := by simp [hi]
    generalize xs[i] = w at hx
    have hP : (xs.map Pi)[i]? = some (Pi w) := by rw [List.getElem?_map, hx]; rfl
    have gi : Same G1 Gi := Si.mid
    obtain ⟨y0, y2⟩ := wk.yields i H' x H'' _ (gi.trans Si.ok.1) hP y
    have y1 : Stp (φ.at G1).B H' H'' := sstp y0
    have e3 : Same (ext G1 H' H'') (ext Gi H' H'') := fun b o h => by
      cases q : H' b with
      | some u =>
        rw [ext_some q] at h ⊢
        exact gi b o h
      | none =>
        rw [ext_none q] at h ⊢
        exact h
    have S3 := Si.ev y1
    have k3 : Kn (wipe σ (own.map (·.2))) (ext Gi H' H'') (wipeR ρ (own.map (·.2))) := (kG1.up (gi.trans (ext_up Si.ok))).wipe _
    have r3 : (Pi w).p x (ext Gi H' H'') := (Pi w).up e3 y2
    generalize ext Gi H' H'' = G3 at S3 k3 r3
    obtain ⟨is, ρ', t1, t2⟩ := turn i w z hx cz
    have t2 := fun s H0 Ca cl fp => t2 s H0 Ca cl fp D (φ.at G1) rfl
    refine fun s H0 Ca cl fp => (t2 s H0 Ca cl fp).1 x _ G3 H'' S3.ok.1 k3 r3 _ fun σ2 w2 k4 => ?_
    refine ⟨(w2 _ t1).trans (wipe_wipe σ _), ?_⟩
    refine fun s H0 Ca cl fp => (t2 s H0 Ca cl fp).2 σ2 G3 H'' S3 k4 _ fun v G4 H4 s4 f4 => ?_
    obtain ⟨z', P, c', ea, pv, S4⟩ := f4
    obtain ⟨o, ho, ac, rfl, ra⟩ := S4.get (i := 0) rfl
    have la : ac.length = i := by rw [← ra.len]; exact hl i z cz
    refine ⟨ac, ho, Nat.lt_of_lt_of_le (by omega) (small hz), z', G4, c', ?_⟩
    have := S4.put (i := 0) (q' := lHP (accf z ++ [P])) (o := .lst (ac ++ [v])) rfl ⟨_, rfl, ra.snoc pv⟩
    rw [ea]
    exact this
  · rintro H' ⟨z, Gi, cz, Si⟩
    exact zz _ Gi H' (u1.trans Si.mid) ⟨D, z, cz, Si.back S1.mid, (k.up (u1.trans Si.mid)).set i rfl⟩
end
end Lk

/-! Shp: what is shown is small. -/
namespace Lk
open PySem PySem.Spec PyProof.Rows L2 PySem.W
structure Sh (d : PyData) (n k : Nat) : Prop where
  a : d.leavesShort 8 = true
  b : d.showable = true
  c : d.hasDict = false
  dp : d.depth ≤ n
  bk : d.bulk ≤ k
  t : PyData.strOk d.shown = true
theorem strOk_app {a b : Str} (ha : PyData.strOk a = true) (hb : PyData.strOk b = true) : PyData.strOk (a ++ b) = true := by
  have e : (a ++ b).cps = a.cps ++ b.cps := rfl
  unfold PyData.strOk at ha hb ⊢
  rw [e, Array.all_append, ha, hb]
  rfl
theorem strOk_from : ∀ (ts : List Str) (k : Nat) (acc : Str), PyData.strOk acc = true → (∀ t ∈ ts, PyData.strOk t = true) → PyData.strOk (textFrom k acc ts) = true
  | [], _, _, h, _ => h
  | t :: ts, k, acc, h, ht => by
    refine strOk_from ts (k + 1) _ (strOk_app (strOk_app h ?_) (ht t List.mem_cons_self)) fun x hx => ht x (List.mem_cons_of_mem _ hx)
    split <;> decide +kernel
theorem strOk_list {ts : List Str} (h : ∀ t ∈ ts, PyData.strOk t = true) : PyData.strOk (listText ts) = true := strOk_app (strOk_from ts 0 _ (by decide +kernel) h) (by decide +kernel)
theorem strOk_join {sep : Str} (hs : PyData.strOk sep = true) : ∀ ts : List Str, (∀ t ∈ ts, PyData.strOk t = true) → PyData.strOk (Str.join sep ts) = true
  | [], _ => (by decide +kernel : PyData.strOk Str.empty = true)
  | [x], h => h x List.mem_cons_self
  | x :: y :: r, h => by
    show PyData.strOk (x ++ sep ++ Str.join sep (y :: r)) = true
    exact strOk_app (strOk_app (h x List.mem_cons_self) hs) (strOk_join hs (y :: r) fun t ht => h t (List.mem_cons_of_mem _ ht))
theorem strOk_tup {ts : List Str} (h : ∀ t ∈ ts, PyData.strOk t = true) : PyData.strOk (tupleText ts) = true := by
  unfold tupleText
  refine strOk_app (strOk_app (by decide +kernel) (strOk_join (by decide +kernel) ts h)) ?_
  split <;> decide +kernel
theorem Sh.mono {d : PyData} {n k m j : Nat} (h : Sh d n k) (h1 : n ≤ m) (h2 : k ≤ j) : Sh d m j := ⟨h.a, h.b, h.c, Nat.le_trans h.dp h1, Nat.le_trans h.bk h2, h.t⟩
theorem sh_ints : ∀ i : Fin 1000, ((PyData.int (i.val : Int)).leavesShort 8 && ((PyData.int (i.val : Int)).showable && PyData.strOk (PyData.int (i.val : Int)).shown)) = true := by decide +kernel
theorem sh_int {i : Int} (h0 : 0 ≤ i) (h1 : i < 1000) : Sh (.int i) 0 0 := by
  have h := sh_ints ⟨i.toNat, by omega⟩
  have e : ((i.toNat : Nat) : Int) = i := by omega
  simp only [e, Bool.and_eq_true] at h
  exact ⟨h.1, h.2.1, by simp [PyData.hasDict], by simp [PyData.depth], by simp [PyData.bulk], h.2.2⟩
theorem sh_bool (b : Bool) : Sh (.bool b) 0 0 := ⟨by simp [PyData.leavesShort], by simp [PyData.showable], by simp [PyData.hasDict], by simp [PyData.depth], by simp [PyData.bulk], by cases b <;> decide +kernel⟩
theorem sh_str {x : Str} (h : ((PyData.str x).leavesShort 8 && PyData.strOk (PyData.str x).shown) = true) (h2 : x.cps.size ≤ 6) : Sh (.str x) 0 6 := ⟨(Bool.and_eq_true_iff.mp h).1, by simp [PyData.showable], by simp [PyData.hasDict], by simp [PyData.depth], by simpa [PyData.bulk] using h2, (Bool.and_eq_true_iff.mp h).2⟩
theorem sh_all {ds : List PyData} {n k m : Nat} (h : ∀ d ∈ ds, Sh d n k) (hl : ds.length ≤ m) : PyData.leavesShortAll 8 ds = true ∧ PyData.showableAll ds = true ∧ PyData.hasDictAll ds = false ∧ PyData.depthAll ds ≤ n ∧ PyData.bulkAll ds ≤ m * (k + 1) ∧ ∀ t ∈ PyData.shownAll ds, PyData.strOk t = true := by
  induction ds generalizing m with
  | nil => exact ⟨by simp [PyData.leavesShortAll], by simp [PyData.showableAll], by simp [PyData.hasDictAll], by simp [PyData.depthAll], by simp [PyData.bulkAll], by simp [PyData.shownAll]⟩
  | cons d ds ih =>
    have h1 := h d List.mem_cons_self
    rw [List.length_cons] at hl
    obtain ⟨q1, q2, q3, q4, q5, q6⟩ := ih (m := m - 1) (fun e he => h e (List.mem_cons_of_mem _ he)) (by omega)
    refine ⟨by simp [PyData.leavesShortAll, h1.a, q1], by simp [PyData.showableAll, h1.b, q2], by simp [PyData.hasDictAll, h1.c, q3], ?_, ?_, fun t ht => ?_⟩
    · have := h1.dp
      simp only [PyData.depthAll]
      omega
    · have := h1.bk
      simp only [PyData.bulkAll]
      obtain ⟨j, rfl⟩ : ∃ j, m = j + 1 := ⟨m - 1, by omega⟩
      rw [Nat.add_mul, Nat.one_mul]
      rw [Nat.add_sub_cancel] at q5
      omega
    · simp only [PyData.shownAll, List.mem_cons] at ht
      rcases ht with rfl | ht
      · exact h1.t
      · exact q6 t ht
theorem sh_list {ds : List PyData} {n k m : Nat} (h : ∀ d ∈ ds, Sh d n k) (hl : ds.length ≤ m) : Sh (.list ds) (n + 1) (m * (k + 1)) := by
  obtain ⟨q1, q2, q3, q4, q5, q6⟩ := sh_all h hl
  exact ⟨by simpa [PyData.leavesShort] using q1, by simpa [PyData.showable] using q2, by simpa [PyData.hasDict] using q3, by simp only [PyData.depth]; omega, by simpa [PyData.bulk] using q5, by simp only [PyData.shown]; exact strOk_list q6⟩
theorem sh_tup {ds : List PyData} {n k m : Nat} (h : ∀ d ∈ ds, Sh d n k) (hl : ds.length ≤ m) : Sh (.tuple ds) (n + 1) (m * (k + 1)) := by
  obtain ⟨q1, q2, q3, q4, q5, q6⟩ := sh_all h hl
  exact ⟨by simpa [PyData.leavesShort] using q1, by simpa [PyData.showable] using q2, by simpa [PyData.hasDict] using q3, by simp only [PyData.depth]; omega, by simpa [PyData.bulk] using q5, by simp only [PyData.shown]; exact strOk_tup q6⟩
theorem sh_cell {s : Sea} {h : Nat} {c : Cell} (S : SeaOk s h) (C : CellOk s h c) : Sh (cD c) 1 2 := by
  obtain ⟨a1, a2, a3, a4⟩ := C
  have s1 := S.hi
  have s2 := S.h9
  refine (sh_tup (n := 0) (k := 0) (m := 2) (fun d hd => ?_) (by simp)).mono (by omega) (by omega)
  simp only [List.mem_cons, List.not_mem_nil, or_false] at hd
  rcases hd with rfl | rfl
  · exact sh_int a1 (by omega)
  · exact sh_int a3 (by omega)
theorem sh_deed {s : Sea} {h : Nat} {d : Deed} (S : SeaOk s h) (D : DeedOk s h d) : Sh (deedD d) 2 50 := by
  have st : ∀ {x : Str}, ((PyData.str x).leavesShort 8 && PyData.strOk (PyData.str x).shown) = true → x.cps.size ≤ 6 → Sh (.str x) 1 6 := fun h1 h2 => (sh_str h1 h2).mono (by omega) (by omega)
  have si : ∀ {i : Int}, 0 ≤ i → i < 1000 → Sh (.int i) 1 6 := fun h1 h2 => (sh_int h1 h2).mono (by omega) (by omega)
  have sc : ∀ {c : Cell}, CellOk s h c → Sh (cD c) 1 6 := fun h1 => (sh_cell S h1).mono (by omega) (by omega)
  cases d with
  | lay m c sh co si' lit =>
    obtain ⟨⟨m1, m2⟩, hc, ⟨h1, h2⟩, ⟨c1, c2⟩, s1, s2⟩ := D
    refine (sh_tup (n := 1) (k := 6) (m := 7) (fun d hd => ?_) (by simp)).mono (by omega) (by omega)
    simp only [List.mem_cons, List.not_mem_nil, or_false] at hd
    rcases hd with rfl | rfl | rfl | rfl | rfl | rfl | rfl
    · exact st (by decide +kernel) (by decide +kernel)
    · exact si (by omega) (by omega)
    · exact sc hc
    · exact si (by omega) (by omega)
    · exact si (by omega) (by omega)
    · exact si (by omega) (by omega)
    · exact (sh_bool _).mono (by omega) (by omega)
  | lift m =>
    obtain ⟨m1, m2⟩ := D
    refine (sh_tup (n := 1) (k := 6) (m := 2) (fun d hd => ?_) (by simp)).mono (by omega) (by omega)
    simp only [List.mem_cons, List.not_mem_nil, or_false] at hd
    rcases hd with rfl | rfl
    · exact st (by decide +kernel) (by decide +kernel)
    · exact si (by omega) (by omega)
  | gale m =>
    obtain ⟨m1, m2⟩ := D
    refine (sh_tup (n := 1) (k := 6) (m := 2) (fun d hd => ?_) (by simp)).mono (by omega) (by omega)
    simp only [List.mem_cons, List.not_mem_nil, or_false] at hd
    rcases hd with rfl | rfl
    · exact st (by decide +kernel) (by decide +kernel)
    · exact si (by omega) (by omega)
  | seen m c =>
    obtain ⟨⟨m1, m2⟩, hc⟩ := D
    refine (sh_tup (n := 1) (k := 6) (m := 3) (fun d hd => ?_) (by simp)).mono (by omega) (by omega)
    simp only [List.mem_cons, List.not_mem_nil, or_false] at hd
    rcases hd with rfl | rfl | rfl
    · exact st (by decide +kernel) (by decide +kernel)
    · exact si (by omega) (by omega)
    · exact sc hc
  | depth c m =>
    obtain ⟨hc, m1, m2⟩ := D
    refine (sh_tup (n := 1) (k := 6) (m := 3) (fun d hd => ?_) (by simp)).mono (by omega) (by omega)
    simp only [List.mem_cons, List.not_mem_nil, or_false] at hd
    rcases hd with rfl | rfl | rfl
    · exact st (by decide +kernel) (by decide +kernel)
    · exact sc hc
    · exact si (by omega) (by omega)
theorem sh_notice {s : Sea} {h : Nat} {n : Notice} (S : SeaOk s h) (N : NoticeOk s h n) : Sh (noticeD n) 3 153 := by
  obtain ⟨n1, n2, d1, d2, hd⟩ := N
  refine (sh_tup (n := 2) (k := 50) (m := 3) (fun d hd => ?_) (by simp)).mono (by omega) (by omega)
  simp only [List.mem_cons, List.not_mem_nil, or_false] at hd
  rcases hd with rfl | rfl | rfl
  · exact (sh_int (by omega) (by omega)).mono (by omega) (by omega)
  · exact (sh_int (by omega) (by omega)).mono (by omega) (by omega)
  · exact sh_deed S (by assumption)
/-! ### the parts of what is shown -/
theorem driftLoop_ok {s : Sea} {h : Nat} : ∀ (n : Nat) {found ring : List Cell}, CellsOk s h found → CellsOk s h (driftLoop s h n found ring)
  | 0, _, _, C => C
  | n + 1, found, ring, C => by
    unfold driftLoop
    split
    · exact C
    · exact driftLoop_ok n (C.insAll (CellsOk.ringStep (found := found) (ring := ring) (CellsOk.nil s h)).ok)
theorem drifted_sh {s : Sea} {h : Nat} {c : Cell} {days : Int} (S : SeaOk s h) (C : CellOk s h c) : Sh (.tuple (drifted s h c days)) 2 432 := by
  have C1 : CellsOk s h [c] := ⟨fun x hx => by rw [List.mem_singleton.mp hx]; exact C, by simp⟩
  unfold drifted
  split
  · refine (sh_tup (n := 1) (k := 2) (m := 144) (fun d hd => ?_) (by simp)).mono (by omega) (by omega)
    rw [List.mem_singleton.mp hd]
    exact sh_cell S C
  · have L := driftLoop_ok (s := s) (h := h) days.toNat (ring := [c]) C1
    refine (sh_tup (n := 1) (k := 2) (m := 144) (fun d hd => ?_) ?_).mono (by omega) (by omega)
    · obtain ⟨x, hx, rfl⟩ := List.mem_map.mp ((List.mergeSort_perm _ _).mem_iff.mp hd)
      exact sh_cell S (L.ok x hx)
    · rw [List.length_mergeSort, List.length_map]
      exact L.small S
theorem place_sh {h n : Nat} {st : State} {mark day : Int} (S : StOk h st n) : Sh (placeD h st mark day) 3 900 := by
  have stx : ∀ {x : Str}, ((PyData.str x).leavesShort 8 && PyData.strOk (PyData.str x).shown) = true → x.cps.size ≤ 6 → Sh (.str x) 2 432 := fun h1 h2 => (sh_str h1 h2).mono (by omega) (by omega)
  unfold placeD
  split
  · refine (sh_tup (n := 2) (k := 432) (m := 1) (fun d hd => ?_) (by simp)).mono (by omega) (by omega)
    rw [List.mem_singleton.mp hd]
    exact stx (by decide +kernel) (by decide +kernel)
  · rename_i x hx
    obtain ⟨r, hr1, _, hr2⟩ := getM_mem hx
    have Cx : CellOk st.1 h x.c := by
      have := (S.mks r hr1).1
      rw [hr2] at this
      exact this
    split
    · refine (sh_tup (n := 2) (k := 432) (m := 2) (fun d hd => ?_) (by simp)).mono (by omega) (by omega)
      simp only [List.mem_cons, List.not_mem_nil, or_false] at hd
      rcases hd with rfl | rfl
      · exact stx (by decide +kernel) (by decide +kernel)
      · exact drifted_sh S.sea Cx
    · refine (sh_tup (n := 2) (k := 432) (m := 2) (fun d hd => ?_) (by simp)).mono (by omega) (by omega)
      simp only [List.mem_cons, List.not_mem_nil, or_false] at hd
      rcases hd with rfl | rfl
      · exact stx (by decide +kernel) (by decide +kernel)
      · exact (sh_cell S.sea Cx).mono (by omega) (by omega)
theorem open_sh {sea : Sea} {h : Nat} {ms : Marks} {draught : Int} {night : Bool} (S : SeaOk sea h) : Sh (.tuple (openD sea ms draught night)) 2 200 := by
  have s1 := S.hi
  have s2 := S.h9
  refine (sh_tup (n := 1) (k := 9) (m := 16) (fun d hd => ?_) ?_).mono (by omega) (by omega)
  · obtain ⟨q, hq, rfl⟩ := List.mem_map.mp hd
    have hc : q.1 ∈ sea := by
      obtain ⟨c, i⟩ := q
      exact (List.mem_zipIdx' hq).2 ▸ List.getElem_mem _
    have hl := S.rows q.1 hc
    refine (sh_tup (n := 0) (k := 0) (m := 9) (fun d hd => ?_) ?_).mono (by omega) (by omega)
    · obtain ⟨r, hr, rfl⟩ := List.mem_map.mp hd
      have hr := (List.mem_filter.mp hr).1
      unfold rowsOf at hr
      obtain ⟨p, hp, rfl⟩ := List.mem_map.mp hr
      have hp := (List.mem_filter.mp hp).1
      obtain ⟨x, i⟩ := p
      have := (List.mem_zipIdx' hp).1
      exact sh_int (by show (0 : Int) ≤ (i : Int); omega) (by show (i : Int) < 1000; omega)
    · rw [List.length_map]
      refine Nat.le_trans (List.length_filter_le _ _) ?_
      unfold rowsOf
      rw [List.length_map]
      refine Nat.le_trans (List.length_filter_le _ _) ?_
      rw [List.length_zipIdx]
      omega
  · unfold openD
    rw [List.length_map, List.length_zipIdx]
    exact s1
theorem voids_mem {h : Nat} {last : Int} : ∀ (ns : List Notice) {g : State × List Int} {v : Int}, v ∈ (ns.foldl (goStep h last) g).2 → v ∈ g.2 ∨ ∃ n ∈ ns, v = n.num
  | [], _, _, hv => .inl hv
  | n :: ns, g, v, hv => by
    rw [List.foldl_cons] at hv
    rcases voids_mem ns hv with hv | ⟨m, hm, e⟩
    · unfold goStep at hv
      split at hv
      · split at hv
        · rcases List.mem_append.mp hv with hv | hv
          · exact .inl hv
          · exact .inr ⟨n, List.mem_cons_self, List.mem_singleton.mp hv⟩
        · exact .inl hv
      · exact .inl hv
    · exact .inr ⟨m, List.mem_cons_of_mem _ hm, e⟩
theorem voids_sh {h : Nat} {sea : Sea} {ns : List Notice} {held last : Int} (S : SeaOk sea h) (N : NoticesOk sea h ns) : Sh (.list (voidsD (goneF h sea ns held last).2)) 1 30 := by
  have G := gone_ok (held := held) (last := last) S N
  refine (sh_list (n := 0) (k := 0) (m := 30) (fun d hd => ?_) ?_).mono (by omega) (by omega)
  · obtain ⟨v, hv, rfl⟩ := List.mem_map.mp ((List.mergeSort_perm _ _).mem_iff.mp hd)
    unfold goneF at hv
    rcases voids_mem _ hv with hv | ⟨n, hn, rfl⟩
    · cases hv
    · have := N.ok n (mem_held hn)
      exact sh_int (by have := this.n1; omega) (by have := this.n2; omega)
  · unfold voidsD
    rw [List.length_mergeSort, List.length_map]
    exact G.vs
end Lk

/-! W18: the law's own defs: what is shown. -/
namespace Lk
open PySem PySem.Spec PyProof.Rows L2 PySem.W
section
variable {X : Cx} {B : List Addr} {ρ : Rho} {o : Expr} {C : Addr} {fs : List (Str × Pr)} {P : Pr} {pos apos : Pos}
theorem ed_meth0 {α : Type} {pre : α → Prop} {As : α → List Pr} {R : α → Pr} {m : Str} {ps : List Str} {k j : Nat} {pl : Sem Bool} (c : Cls X.K C) (cm : CalM X.prog X.w X.K X.mg X.base C k m ps (spP pre As R)) (hr : Room j X.A) (hk : k ≤ j) (z : α) (hz : pre z) (hA : As z = [bkP C fs]) (hl : fs.lookup m = none) (ho : Ed X B ρ o (bkP C fs)) (hP : R z = P := by rfl)
    (ht : eval (.Call (.Attribute o m apos) [] [] pos) X.env = (do
      let ov ← eval o X.env
      standAt apos.atName
      let (f, first) ← holding [ov] (getMethod ov m pl)
      callWith pos f first (backTo pos (starEach [] X.env)) (backToKw pos (keywordEach [] X.env))) := by rfl) :
    Ed X B ρ (.Call (.Attribute o m apos) [] [] pos) P := by
  obtain ⟨f, fd, h1, h3, h4⟩ := cm.ex
  intro σ G H eg kn Q q
  refine pe_we (pe_meth0 (E := fun _ _ _ => False) we_pe c h1 h4 (hr.mono hk) h3 .nil pass0 ht) (ho σ G H eg kn _ fun x H1 s1 r1 => ?_)
  have r1' := r1
  obtain ⟨a, dx, vs, rfl, g2, g3⟩ := r1
  refine ⟨a, dx, vs, rfl, (ext_same eg s1).1 _ _ g2, g3.no hl, ?_⟩
  refine ⟨z, ext G H H1, hz, (ext_same eg s1).sub (fun _ h => by cases h), by rw [hA]; exact .cons r1' .nil, fun v H3 s3 r3 => q v H3 (s1.trans (s3.sub fun _ h => by cases h)) ?_⟩
  rw [← hP, ← ext_trans eg s1 (s3.sub fun _ h => by cases h)]
  exact r3
end
def dayD (h : Nat) (sea : Sea) (ns : List Notice) (day : Int) : List PyData := ([1, 2, 3, 12] : List Int).map (fun m => placeD h (goneF h sea ns 99 day).1 m day) ++ ([99, 60, 30] : List Int).map fun held => PyData.tuple (openD (goneF h sea ns held day).1.1 (goneF h sea ns held day).1.2 3 (decide (held = 60)))
def foundD (h : Nat) (sea : Sea) (ns : List Notice) (days : List Int) : List PyData := days.foldl (fun acc day => acc ++ dayD h sea ns day) [.list (ns.map noticeD), .list (voidsD (goneF h sea ns 99 400).2), .list (voidsD (goneF h sea ns 40 400).2)]
def shownS (h : Nat) (sea : Sea) (ns : List Notice) (days : List Int) : Str := (PyData.list (foundD h sea ns days)).shown
theorem day_sh {h : Nat} {sea : Sea} {ns : List Notice} {day : Int} (S : SeaOk sea h) (N : NoticesOk sea h ns) : (∀ d ∈ dayD h sea ns day, Sh d 4 5000) ∧ (dayD h sea ns day).length = 7 := by
  refine ⟨fun d hd => ?_, by unfold dayD; rw [List.length_append, List.length_map, List.length_map]; rfl⟩
  rcases List.mem_append.mp hd with hd | hd
  · obtain ⟨m, _, rfl⟩ := List.mem_map.mp hd
    exact (place_sh (gone_ok S N).st).mono (by omega) (by omega)
  · obtain ⟨m, _, rfl⟩ := List.mem_map.mp hd
    exact (open_sh (gone_ok (held := m) (last := day) S N).st.sea).mono (by omega) (by omega)
theorem found_sh {h : Nat} {sea : Sea} {ns : List Notice} (S : SeaOk sea h) (N : NoticesOk sea h ns) : ∀ (days : List Int) (acc : List PyData), (∀ d ∈ acc, Sh d 4 5000) → (∀ d ∈ days.foldl (fun acc day => acc ++ dayD h sea ns day) acc, Sh d 4 5000) ∧ (days.foldl (fun acc day => acc ++ dayD h sea ns day) acc).length = acc.length + 7 * days.length
  | [], acc, ha => ⟨ha, rfl⟩
  | day :: days, acc, ha => by
    obtain ⟨d1, d2⟩ := day_sh (day := day) S N
    obtain ⟨q1, q2⟩ := found_sh S N days (acc ++ dayD h sea ns day) fun d hd => by
      rcases List.mem_append.mp hd with hd | hd
      · exact ha d hd
      · exact d1 d hd
    refine ⟨q1, ?_⟩
    rw [List.foldl_cons, q2, List.length_append, d2, List.length_cons]
    omega
theorem first_sh {h : Nat} {sea : Sea} {ns : List Notice} (S : SeaOk sea h) (N : NoticesOk sea h ns) : ∀ d ∈ ([.list (ns.map noticeD), .list (voidsD (goneF h sea ns 99 400).2), .list (voidsD (goneF h sea ns 40 400).2)] : List PyData), Sh d 4 5000 := fun d hd => by
  simp only [List.mem_cons, List.not_mem_nil, or_false] at hd
  rcases hd with rfl | rfl | rfl
  · refine (sh_list (n := 3) (k := 153) (m := 30) (fun d hd => ?_) (by rw [List.length_map]; exact N.len)).mono (by omega) (by omega)
    obtain ⟨n, hn, rfl⟩ := List.mem_map.mp hd
    exact sh_notice S (N.ok n hn)
  · exact (voids_sh S N).mono (by omega) (by omega)
  · exact (voids_sh S N).mono (by omega) (by omega)
theorem shown_small {h : Nat} {sea : Sea} {ns : List Notice} {days : List Int} (S : SeaOk sea h) (N : NoticesOk sea h ns) (hd : days.length ≤ 10) : Sh (.list (foundD h sea ns days)) 5 400000 ∧ (shownS h sea ns days).length ≤ sizeLine := by
  obtain ⟨q1, q2⟩ := found_sh S N days _ (first_sh S N)
  have q2 : (foundD h sea ns days).length = 3 + 7 * days.length := q2
  have s := (sh_list (m := 73) q1 (by rw [show days.foldl _ _ = foundD h sea ns days from rfl, q2]; omega)).mono (m := 5) (j := 400000) (by omega) (by omega)
  refine ⟨s, ?_⟩
  have := PyData.shown_le_bulk 8 (by omega) _ s.a
  have b := s.bk
  rw [sizeLine_eq]
  exact Nat.le_trans this (by omega)
structure ShowArg where
  sea : Sea
  h : Nat
  ns : List Notice
  days : List Int
section
variable {P : Program} {w : World} {K : PySem.W.Frag} {mg : Str → Option Value} {base : Heap} {C : Addr}
structure BkMet (K : PySem.W.Frag) (C : Addr) : Prop where
  be : MetT K C "become" "Book.become" s_Book_become
  ta : MetT K C "take_in" "Book.take_in" s_Book_take_in
  st : MetT K C "strike" "Book.strike" s_Book_strike
  un : MetT K C "undo" "Book.undo" s_Book_undo
  nn : MetT K C "notices_now" "Book.notices_now" s_Book_notices_now
  mn : MetT K C "mark_now" "Book.mark_now" s_Book_mark_now
  cn : MetT K C "channel_now" "Book.channel_now" s_Book_channel_now
  vn : MetT K C "void_now" "Book.void_now" s_Book_void_now
theorem c_shown (T : TX K mg) (DK : DeedsOk K w mg) (BK : BkOk K mg C) (BM : BkMet K C) : CalG P w K mg base 11 "_law_shown" ["_law_book", "_law_days"] (spP (α := ShowArg) (fun z => SeaOk z.sea z.h ∧ NoticesOk z.sea z.h z.ns ∧ z.days.length ≤ 10 ∧ ∀ d ∈ z.days, 0 ≤ d ∧ d ≤ 400) (fun z => [bookP K C z.sea z.ns, dP K (.list (z.days.map .int))]) fun z => dP K (.str (shownS z.h z.sea z.ns z.days))) := by
  obtain ⟨f, fd, hm, F⟩ := T.f__law_shown
  have c1 := m_notices_now (P := P) (w := w) (base := base) T BK BM.nn
  have c2 := m_void_now (P := P) (base := base) T DK BK BM.vn
  have c3 := m_mark_now (P := P) (base := base) T DK BK BM.mn
  have c4 := m_channel_now (P := P) (base := base) T DK BK BM.cn
  refine ⟨f, fd, hm, F.kp, F.bindsN fun _ _ _ _ _ _ us hl => match us, hl with | [_, _], _ => rfl, fn_mkG F sc__law_shown (fun _ => rfl) fun cdv A outer s H E hr hg z hz => Sr.b (sr_m fun φ D hB hD => ?_)⟩
  obtain ⟨sea, h, ns, days⟩ := z
  obtain ⟨S, N, hd, hdd⟩ := hz
  dsimp only at S N hd hdd
  have hu := hr.units
  have ask : ∀ held : Int, 0 ≤ held → held ≤ 99 → AskOk sea h ns held := fun held h0 h1 => ⟨S, N, h0, h1⟩
  refine m_ss (ss_set 2 sc__law_shown.nd (P := dP K (.list (foundD h sea ns []))) (ed_lstd (ds := [.list (ns.map noticeD), .list (voidsD (goneF h sea ns 99 400).2), .list (voidsD (goneF h sea ns 40 400).2)]) (ea_cons (ed_meth0 BK.cls c1 hr (by decide) (sea, ns) trivial rfl rfl (ed_var 0)) (ea_cons (ed_meth BK.cls c2 hr (by decide) (sea, h, ns, 99) (ask 99 (by decide) (by decide)) rfl rfl (ed_var 0) (ea_cons ed_int ea_nil)) (ea_cons (ed_meth BK.cls c2 hr (by decide) (sea, h, ns, 40) (ask 40 (by decide) (by decide)) rfl rfl (ed_var 0) (ea_cons ed_int ea_nil)) ea_nil))))) ?_
  refine m_for PassesOwn.never rfl (es_listM (g := PyData.int) (xs := days) (ed_var 1)) (fun i (z : List PyData) => z = foundD h sea ns (days.take i)) (fun _ => []) (fun z => [some (bookP K C sea ns), some (dP K (.list (days.map .int))), some (dP K (.list z)), none, none, none]) (foundD h sea ns []) rfl rfl rfl ?_ ?_
  · rintro i Pi z hPi rfl φ1 hφ1 bk1
    rw [List.getElem?_map] at hPi
    obtain ⟨day, hday, rfl⟩ := Option.map_eq_some_iff.mp hPi
    have dd := hdd day (List.mem_of_getElem? hday)
    have il : i < days.length := (List.getElem?_eq_some_iff.mp hday).1
    have lf : (foundD h sea ns (days.take i)).length ≤ 100 := by
      have q2 : (foundD h sea ns (days.take i)).length = 3 + 7 * (days.take i).length := (found_sh S N (days.take i) _ (first_sh S N)).2
      rw [List.length_take] at q2
      omega
    refine ⟨[3], _, tg_name 3 sc__law_shown.nd, fun D1 hD1 hn1 => ?_⟩
    refine m_ss (ss_set 2 sc__law_shown.nd (ed_catLd (ed_var 2) (ed_mapD rfl sc__law_shown.nd [("_law_mark", 4)] (blkOk_by (N := n__law_shown) (sc := defScope s__law_shown) (by decide +kernel)) ([1, 2, 3, 12] : List Int) (fun m => dP K (.int m)) (fun m => placeD h (goneF h sea ns 99 day).1 m day) (es_list (Ps := [dP K (.int 1), dP K (.int 2), dP K (.int 3), dP K (.int 12)]) (ed_lst (ea_cons ed_int (ea_cons ed_int (ea_cons ed_int (ea_cons ed_int ea_nil)))))) (by decide) fun m hm => ⟨[4], _, by simp, fun s H Ca cl fp => ⟨tg_name 4 sc__law_shown.nd, ets_nil, fun _ => ed_meth BK.cls c3 hr (by decide) (sea, h, ns, 99, day, m) ⟨ask 99 (by decide) (by decide), dd, ?_⟩ rfl rfl (ed_var 0) (ea_cons ed_int (ea_cons (ed_var 3) (ea_cons (ed_var 4) ea_nil)))⟩⟩) ?_)) ?_
    · simp only [List.mem_cons, List.not_mem_nil, or_false] at hm
      show 1 ≤ m ∧ m ≤ 12
      omega
    · rw [List.length_map]
      show _ + 4 ≤ _
      omega
    refine m_ss (ss_set 2 sc__law_shown.nd (ed_catLd (ed_var 2) (ed_mapD rfl sc__law_shown.nd [("_law_held", 5)] (blkOk_by (N := n__law_shown) (sc := defScope s__law_shown) (by decide +kernel)) ([99, 60, 30] : List Int) (fun m => dP K (.int m)) (fun held => PyData.tuple (openD (goneF h sea ns held day).1.1 (goneF h sea ns held day).1.2 3 (decide (held = 60)))) (es_list (Ps := [dP K (.int 99), dP K (.int 60), dP K (.int 30)]) (ed_lst (ea_cons ed_int (ea_cons ed_int (ea_cons ed_int ea_nil))))) (by decide) fun m hm => ⟨[5], _, by simp, fun s H Ca cl fp => ⟨tg_name 5 sc__law_shown.nd, ets_nil, fun _ => ed_meth BK.cls c4 hr (by decide) (sea, h, ns, m, day, 3, decide (m = 60)) ⟨ask m ?_ ?_, dd, (by decide : (1 : Int) ≤ 3), (by decide : (3 : Int) ≤ 9)⟩ rfl rfl (ed_var 0) (ea_cons (ed_var 5) (ea_cons (ed_var 3) (ea_cons ed_int (ea_cons (ed_eqi (ed_var 5) ed_int) ea_nil))))⟩⟩) ?_)) ?_
    · simp only [List.mem_cons, List.not_mem_nil, or_false] at hm
      omega
    · simp only [List.mem_cons, List.not_mem_nil, or_false] at hm
      omega
    · rw [List.length_append, List.length_map, List.length_map]
      show _ + 4 + 3 ≤ _
      omega
    refine m_nil fun σ2 G2 H2 S2 k2 => ?_
    refine hn1 (foundD h sea ns (days.take (i + 1))) rfl σ2 G2 H2 S2 ?_
    have e : foundD h sea ns (days.take (i + 1)) = foundD h sea ns (days.take i) ++ ([1, 2, 3, 12] : List Int).map (fun m => placeD h (goneF h sea ns 99 day).1 m day) ++ ([99, 60, 30] : List Int).map fun held => PyData.tuple (openD (goneF h sea ns held day).1.1 (goneF h sea ns held day).1.2 3 (decide (held = 60))) := by
      unfold foundD
      rw [take_succ' hday, List.foldl_append, List.append_assoc]
      rfl
    rw [e]
    exact k2.forget 3
  · rintro z rfl
    rw [List.length_map, List.take_length]
    obtain ⟨sh, sz⟩ := shown_small S N hd
    exact m_retd (ed_repr hg hu (by rfl) T.z_repr ⟨_, rfl⟩ sh.b sh.c (Nat.le_trans sh.dp (by decide)) sz (ed_var 2)) hD
end
end Lk

/-! W19: the law's own defs: a book filled. -/
namespace Lk
open PySem PySem.Spec PyProof.Rows L2 PySem.W
theorem es_listX {X : Cx} {B : List Addr} {ρ : Rho} {tg e : Expr} {S : List Notice → Prop} (h : Ed X B ρ e (xP S fun os => notP X.K os)) : Esx X B ρ tg e S fun os => os.map fun n => dP X.K (noticeD n) := ⟨_, pi_list we_pe, fun σ G H eg k R z => h σ G H eg k _ fun v H2 s r => by
  obtain ⟨os, ho, r⟩ := r
  obtain ⟨t, xs, rfl, h1, h2⟩ := imp_ld (K := X.K) v _ r
  have e2 : (os.map noticeD).map (dP X.K) = os.map fun n => dP X.K (noticeD n) := by
    rw [List.map_map]
    rfl
  rw [e2] at h2
  exact ⟨t, rfl, ⟨xs, sql_up (ext_same eg s).1 h1⟩, z os _ H2 ho s (wkd_list h1 h2)⟩⟩
abbrev otherN : Notice := ⟨99, 5, .gale 9⟩
/-- what every book of the law keeps to -/
structure BkGood (b : Bk) (m : Nat) : Prop where
  few : b.past.length ≤ m
  past : ∀ k ∈ b.past, k.length ≤ 40
  bot : (b.past ++ [b.kept]).head? = some []
theorem bot_push {α : Type} {p : List α} {k k2 : α} : ((p ++ [k]) ++ [k2]).head? = (p ++ [k]).head? := by cases p <;> rfl
theorem BkGood.push {b : Bk} {m : Nat} (G : BkGood b m) (hk : b.kept.length ≤ 40) (k : List Notice) : BkGood { b with kept := k, past := b.past ++ [b.kept] } (m + 1) := ⟨by
    show (b.past ++ [b.kept]).length ≤ m + 1
    rw [List.length_append]
    have := G.few
    simp
    omega, fun x hx => by
    rcases List.mem_append.mp hx with hx | hx
    · exact G.past x hx
    · rw [List.mem_singleton.mp hx]
      exact hk, bot_push.trans G.bot⟩
theorem sort_len (ns : List Notice) : (ns.mergeSort numLe).length = ns.length := List.length_mergeSort ..
theorem sort_nums (ns : List Notice) : ((ns.mergeSort numLe).map (·.num)).Perm (ns.map (·.num)) := (List.mergeSort_perm _ _).map _
structure FillOk (sea : Sea) (h : Nat) (ns : List Notice) : Prop where
  len : ns.length ≤ 20
  ok : ∀ n ∈ ns, NoticeOk sea h n
  nd : (ns.map (·.num)).Nodup
  lt : ∀ n ∈ ns, n.num < 99
theorem FillOk.perm {sea : Sea} {h : Nat} {ns os : List Notice} (F : FillOk sea h ns) (p : os.Perm ns) : FillOk sea h os := ⟨by rw [p.length_eq]; exact F.len, fun n hn => F.ok n (p.mem_iff.mp hn), (p.map (·.num)).nodup_iff.mpr F.nd, fun n hn => F.lt n (p.mem_iff.mp hn)⟩
theorem other_ok {sea : Sea} {h : Nat} : NoticeOk sea h otherN := ⟨by decide, by decide, by decide, by decide, by show (1 : Int) ≤ 9 ∧ (9 : Int) ≤ 9; decide⟩
section
variable {sea : Sea} {h i : Nat} {os : List Notice} {n : Notice}
theorem take_nd (F : FillOk sea h os) (hn : os[i]? = some n) : ((os.take i ++ [n]).map (·.num)).Nodup := by
  rw [← take_succ' hn]
  exact F.nd.sublist ((List.take_sublist _ _).map _)
theorem take_out (F : FillOk sea h os) (hn : os[i]? = some n) : n.num ∉ (os.take i).map (·.num) := fun hc => by
  have := take_nd F hn
  rw [List.map_append] at this
  exact (List.nodup_append.mp this).2.2 _ hc _ (by simp) rfl
theorem take_lt (F : FillOk sea h os) : (99 : Int) ∉ (os.take i).map (·.num) := fun hc => by
  obtain ⟨m, hm, e⟩ := List.mem_map.mp hc
  have := F.lt m (List.mem_of_mem_take hm)
  omega
/-- one taken in -/
theorem took (F : FillOk sea h os) (hn : os[i]? = some n) : (((os.take i).mergeSort numLe) ++ [n]).mergeSort numLe = (os.take (i + 1)).mergeSort numLe := by
  rw [take_succ' hn]
  exact sort_perm ((List.mergeSort_perm _ _).append_right [n]) (take_nd F hn)
/-- .. with another one in between -/
theorem took3 (F : FillOk sea h os) (hn : os[i]? = some n) : ((((((os.take i).mergeSort numLe) ++ [otherN]).mergeSort numLe ++ [n]).mergeSort numLe).filter fun m => !decide (m.num = 99)).mergeSort numLe = (os.take (i + 1)).mergeSort numLe := by
  rw [take_succ' hn]
  refine sort_perm ?_ (take_nd F hn)
  have p1 : ((((os.take i).mergeSort numLe) ++ [otherN]).mergeSort numLe ++ [n]).mergeSort numLe |>.Perm ((os.take i ++ [otherN]) ++ [n]) := (List.mergeSort_perm _ _).trans (((List.mergeSort_perm _ _).trans ((List.mergeSort_perm _ _).append_right _)).append_right _)
  refine (p1.filter _).trans ?_
  have hlt : ∀ m ∈ os, (!decide (m.num = 99)) = true := fun m hm => by
    have := F.lt m hm
    have e : ¬ m.num = 99 := by omega
    simp [e]
  rw [List.filter_append, List.filter_append, List.filter_eq_self.mpr fun m hm => hlt m (List.mem_of_mem_take hm)]
  have e1 : ([otherN] : List Notice).filter (fun m => !decide (m.num = 99)) = [] := by decide
  have e2 : ([n] : List Notice).filter (fun m => !decide (m.num = 99)) = [n] := by
    rw [List.filter_eq_self]
    exact fun m hm => by
      rw [List.mem_singleton.mp hm]
      exact hlt n (List.mem_of_getElem? hn)
  rw [e1, e2, List.append_nil]
end
structure FillArg where
  box : Addr
  sea : Sea
  h : Nat
  ns : List Notice
  more : Int
structure BkInit (K : PySem.W.Frag) (C : Addr) : Prop where
  ex : ∃ (f : Addr) (fd : FuncData), Mk K C f ∧ FunD K "__init__" "Book.__init__" (defArgs s_Book_init) (defBody s_Book_init) (defScope s_Book_init) [] [] f fd
section
variable {P : Program} {w : World} {K : PySem.W.Frag} {mg : Str → Option Value} {base : Heap} {C : Addr}
theorem c_filled (T : TX K mg) (BK : BkOk K mg C) (BM : BkMet K C) (BI : BkInit K C) : Cal P w K mg base 8 "_law_filled" ["_law_box_here", "_law_sea_here", "_law_notices_here", "_law_more"] (spM (α := FillArg) (fun z => [z.box]) (fun z => SeaOk z.sea z.h ∧ FillOk z.sea z.h z.ns) (fun z => [eP (.ref z.box), dP K (seaD z.sea), notP K z.ns, dP K (.int z.more)]) (fun _ => [])
    fun z v _ hs' => ∃ b : Bk, v = .ref b.a ∧ hs' = hsB K C b ∧ b.sea = z.sea ∧ b.h = z.h ∧ b.kept = z.ns.mergeSort numLe ∧ BkGood b 60) := by
  obtain ⟨f, fd, hm, F⟩ := T.f__law_filled
  obtain ⟨fi, fdi, MK, FI⟩ := BI.ex
  have c0 := fn_init (P := P) (w := w) (base := base) T BK FI
  have c1 := c_order (P := P) (w := w) (base := base) T
  have c2 := m_take_in (P := P) (w := w) (base := base) T BK BM.be BM.ta
  have c3 := m_strike (P := P) (w := w) (base := base) T BK BM.be BM.st
  have c4 := m_undo (P := P) (w := w) (base := base) T BK BM.un
  refine cal_mkM F sc__law_filled hm (F.bindsN fun _ _ _ _ _ _ us hl => match us, hl with | [_, _, _, _], _ => rfl) (fun _ => rfl) fun cdv A outer s H E hr z hz φ D hB hD hN => ?_
  obtain ⟨box, sea, h, ns, more⟩ := z
  obtain ⟨S, Fk⟩ := hz
  dsimp only at S Fk
  have hb : box ∈ φ.B := by
    rw [hB]
    exact List.mem_cons_self
  refine m_set 4 sc__law_filled.nd (em_make (j := 6) (Ps := [dP K (seaD sea)]) MK c0.2 c0.1 hr (by decide) (by rfl) BK.at_ (fun A dx => ⟨A, dx, sea, h⟩) (fun _ _ => S) (fun _ _ _ h => by cases h) (fun _ _ => rfl) (fun _ _ => rfl) (fun _ _ _ _ _ p => p.1) (ea_cons (ed_var 1) ea_nil)) fun v σ1 G1 H1 f1 k1 => ?_
  obtain ⟨a, dx, hs1, rfl, S1, _, pa, rfl⟩ := f1
  rw [List.append_nil] at S1
  refine (?_ : M _ φ _ (hsB K C ⟨a, dx, pa, sea, h, [], []⟩) _ D) _ G1 H1 S1 (k1.set (P := eP (.ref a)) 4 (v := .ref a) rfl)
  refine m_ss (ss_set 5 sc__law_filled.nd (P := dP K (noticeD otherN)) (ed_tupd (ds := [.int 99, .int 5, deedD (.gale 9)]) (ea_cons ed_int (ea_cons ed_int (ea_cons (ed_tupd (ds := [.str "gale", .int 9]) (ea_cons ed_str (ea_cons ed_int ea_nil))) ea_nil))))) ?_
  refine m_forX PassesOwn.never rfl (es_listX (S := fun os => os.Perm ns) (ed_callG c1 hr (by decide) (by rfl) (ea_cons (ed_var 0) (ea_cons (ed_var 2) ea_nil)) (fun vs G r => ⟨(box, ns), by show ns.length ≤ 1000; have := Fk.len; omega, (fun x hx => by rw [List.mem_singleton.mp hx]; exact hb), r, Imp.refl _⟩))) (fun os i (z : List Notice × List (List Notice)) => z.1 = (os.take i).mergeSort numLe ∧ BkGood ⟨a, dx, pa, sea, h, z.1, z.2⟩ (3 * i)) (fun z => hsB K C ⟨a, dx, pa, sea, h, z.1, z.2⟩) (fun _ => [some (eP (.ref box)), some (dP K (seaD sea)), some (notP K ns), some (dP K (.int more)), some (eP (.ref a)), some (dP K (noticeD otherN)), none]) ([], []) (fun os _ => ⟨by simp, ⟨Nat.le_refl _, (fun _ h => by cases h), rfl⟩⟩) rfl rfl ?_ ?_
  · rintro os ho i Pi ⟨kept, past⟩ hPi ⟨hk, Gd⟩ φ1 hφ1
    dsimp only at hk Gd
    have Fo := Fk.perm ho
    have hb1 : box ∈ φ1.B := by
      rw [hφ1]
      exact hb
    rw [List.getElem?_map] at hPi
    obtain ⟨n, hn, rfl⟩ := Option.map_eq_some_iff.mp hPi
    have il : i < os.length := (List.getElem?_eq_some_iff.mp hn).1
    have lo := Fo.len
    have l1 : kept.length ≤ 20 := by
      rw [hk, sort_len, List.length_take]
      omega
    have p1 : (kept.map (·.num)).Perm ((os.take i).map (·.num)) := by
      rw [hk]
      exact sort_nums _
    have n1 : (kept.map (·.num)).Nodup := p1.nodup_iff.mpr (Fo.nd.sublist ((List.take_sublist _ _).map _))
    have o1 : n.num ∉ kept.map (·.num) := fun hc => take_out Fo hn (p1.mem_iff.mp hc)
    have o2 : (99 : Int) ∉ kept.map (·.num) := fun hc => take_lt Fo (p1.mem_iff.mp hc)
    have nok := Fo.ok n (List.mem_of_getElem? hn)
    have nlt := Fo.lt n (List.mem_of_getElem? hn)
    have few := Gd.few
    dsimp only at few
    refine ⟨[6], _, tg_name 6 sc__law_filled.nd, fun D1 hD1 hn1 => ?_⟩
    by_cases m1 : more = 1
    · have k1 : ((kept ++ [otherN]).mergeSort numLe).length = kept.length + 1 := by
        rw [sort_len, List.length_append]
        rfl
      have q1 : (((kept ++ [otherN]).mergeSort numLe).map (·.num)).Perm (kept.map (·.num) ++ [99]) := by
        refine (sort_nums _).trans ?_
        rw [List.map_append]
        exact List.Perm.refl _
      have n2 : (((kept ++ [otherN]).mergeSort numLe).map (·.num)).Nodup := q1.nodup_iff.mpr (List.nodup_append.mpr ⟨n1, by simp, fun x hx y hy e => by
        rw [List.mem_singleton.mp hy] at e
        exact o2 (e ▸ hx)⟩)
      have o3 : n.num ∉ ((kept ++ [otherN]).mergeSort numLe).map (·.num) := fun hc => by
        rcases List.mem_append.mp (q1.mem_iff.mp hc) with hc | hc
        · exact o1 hc
        · have := List.mem_singleton.mp hc
          omega
      have q2 : ((((kept ++ [otherN]).mergeSort numLe ++ [n]).mergeSort numLe).map (·.num)).Perm (((kept ++ [otherN]).mergeSort numLe).map (·.num) ++ [n.num]) := by
        refine (sort_nums _).trans ?_
        rw [List.map_append]
        exact List.Perm.refl _
      have n3 : ((((kept ++ [otherN]).mergeSort numLe ++ [n]).mergeSort numLe).map (·.num)).Nodup := q2.nodup_iff.mpr (List.nodup_append.mpr ⟨n2, by simp, fun x hx y hy e => by
        rw [List.mem_singleton.mp hy] at e
        exact o3 (e ▸ hx)⟩)
      have k2 : (((kept ++ [otherN]).mergeSort numLe ++ [n]).mergeSort numLe).length = kept.length + 2 := by
        rw [sort_len, List.length_append, k1]
        rfl
      refine m_if (etm_et (et_to (decide_eq_true m1) (et_eqi (ed_var 3) ed_int))) (fun _ => ?_) (fun z => Bool.noConfusion z)
      refine m_st (sm_expr (em_methM (i := 0) (oth := []) BK.cls c2 hr (by decide) (⟨a, dx, pa, sea, h, kept, past⟩, otherN) ⟨S, other_ok, by show past.length < 1000; omega, by show kept.length < 30; omega, n1, o2⟩ (fun _ h => by cases h) (by rw [List.append_nil]) rfl rfl (by rfl) (em_ref (ed_var 4)) (eam_dat (em_ed (ed_var 5))))) fun σ2 G2 H2 f2 => ?_
      obtain ⟨v2, ⟨hs2, S2, _, rfl⟩, k2'⟩ := f2
      rw [List.append_nil] at S2
      refine m_nil (fun σ3 G3 H3 S3 k3 => ?_) σ2 G2 H2 S2 k2'
      refine (?_ : M _ φ1 _ _ _ D1) σ3 G3 H3 S3 k3
      refine m_st (sm_expr (em_methM (i := 0) (oth := []) BK.cls c2 hr (by decide) (⟨a, dx, pa, sea, h, (kept ++ [otherN]).mergeSort numLe, past ++ [kept]⟩, n) ⟨S, nok, by show (past ++ [kept]).length < 1000; rw [List.length_append]; simp; omega, by show ((kept ++ [otherN]).mergeSort numLe).length < 30; omega, n2, o3⟩ (fun _ h => by cases h) (by rw [List.append_nil]) rfl rfl (by rfl) (em_ref (ed_var 4)) (eam_dat (em_ed (ed_var 6))))) fun σ4 G4 H4 f4 => ?_
      obtain ⟨v4, ⟨hs4, S4, _, rfl⟩, k4'⟩ := f4
      rw [List.append_nil] at S4
      refine (?_ : M _ φ1 _ _ _ D1) σ4 G4 H4 S4 k4'
      refine m_if (etm_et (et_to (decide_eq_true m1) (et_eqi (ed_var 3) ed_int))) (fun _ => ?_) (fun z => Bool.noConfusion z)
      refine m_st (sm_expr (em_methM (i := 0) (oth := []) BK.cls c3 hr (by decide) (⟨a, dx, pa, sea, h, ((kept ++ [otherN]).mergeSort numLe ++ [n]).mergeSort numLe, past ++ [kept] ++ [(kept ++ [otherN]).mergeSort numLe]⟩, 99) ⟨by show (past ++ [kept] ++ [_]).length < 1000; rw [List.length_append, List.length_append]; simp; omega, by show (((kept ++ [otherN]).mergeSort numLe ++ [n]).mergeSort numLe).length ≤ 30; omega, n3, (by decide : (1 : Int) ≤ 99 ∧ (99 : Int) ≤ 99), q2.mem_iff.mpr (List.mem_append_left _ (q1.mem_iff.mpr (List.mem_append_right _ List.mem_cons_self)))⟩ (fun _ h => by cases h) (by rw [List.append_nil]) rfl rfl (by rfl) (em_ref (ed_var 4)) (eam_dat (em_ed ed_int)))) fun σ5 G5 H5 f5 => ?_
      obtain ⟨v5, ⟨hs5, S5, _, rfl⟩, k5'⟩ := f5
      rw [List.append_nil] at S5
      refine m_nil (fun σ6 G6 H6 S6 k6 => ?_) σ5 G5 H5 S5 k5'
      refine (?_ : M _ φ1 _ _ _ D1) σ6 G6 H6 S6 k6
      refine m_no (etm_et (et_to ?_ (ew_et (ew_and (k := false) (k' := true) (et_to (show decide (more = 2) = false by rw [m1]; rfl) (et_eqi (ed_var 3) ed_int)) (fun z => Bool.noConfusion z))))) ?_
      · rfl
      refine m_nil fun σ7 G7 H7 S7 k7 => ?_
      refine hn1 (_, past ++ [kept] ++ [(kept ++ [otherN]).mergeSort numLe] ++ [((kept ++ [otherN]).mergeSort numLe ++ [n]).mergeSort numLe]) ⟨?_, ?_⟩ σ7 G7 H7 S7 (k7.forget 6)
      · show (((((kept ++ [otherN]).mergeSort numLe) ++ [n]).mergeSort numLe).filter fun m => !decide (m.num = 99)).mergeSort numLe = _
        rw [hk]
        exact took3 Fo hn
      · have g1 := Gd.push (show kept.length ≤ 40 by omega) ((kept ++ [otherN]).mergeSort numLe)
        have g2 := g1.push (show ((kept ++ [otherN]).mergeSort numLe).length ≤ 40 by omega) (((kept ++ [otherN]).mergeSort numLe ++ [n]).mergeSort numLe)
        have g3 := g2.push (show (((kept ++ [otherN]).mergeSort numLe ++ [n]).mergeSort numLe).length ≤ 40 by omega) (((((kept ++ [otherN]).mergeSort numLe) ++ [n]).mergeSort numLe).filter (fun m => !decide (m.num = 99)) |>.mergeSort numLe)
        exact g3
    · refine m_no (etm_et (et_to (decide_eq_false m1) (et_eqi (ed_var 3) ed_int))) ?_
      refine m_st (sm_expr (em_methM (i := 0) (oth := []) BK.cls c2 hr (by decide) (⟨a, dx, pa, sea, h, kept, past⟩, n) ⟨S, nok, by show past.length < 1000; omega, by show kept.length < 30; omega, n1, o1⟩ (fun _ h => by cases h) (by rw [List.append_nil]) rfl rfl (by rfl) (em_ref (ed_var 4)) (eam_dat (em_ed (ed_var 6))))) fun σ4 G4 H4 f4 => ?_
      obtain ⟨v4, ⟨hs4, S4, _, rfl⟩, k4'⟩ := f4
      rw [List.append_nil] at S4
      refine (?_ : M _ φ1 _ _ _ D1) σ4 G4 H4 S4 k4'
      have ek : (kept ++ [n]).mergeSort numLe = (os.take (i + 1)).mergeSort numLe := by
        rw [hk]
        exact took Fo hn
      have G1 := Gd.push (by show kept.length ≤ 40; omega) ((kept ++ [n]).mergeSort numLe)
      have G2 : BkGood ⟨a, dx, pa, sea, h, (kept ++ [n]).mergeSort numLe, past ++ [kept]⟩ (3 * (i + 1)) := ⟨Nat.le_trans G1.few (by omega), G1.past, G1.bot⟩
      refine m_no (etm_et (et_to (decide_eq_false m1) (et_eqi (ed_var 3) ed_int))) ?_
      by_cases m2 : more = 2
      · refine m_ifx (S := fun _ => True) (etmx_of (etx_andT (et_to (decide_eq_true m2) (et_eqi (ed_var 3) ed_int)) (etx_cmp (S := fun _ => True) (T := fun _ => True) (U := fun _ => True) op_eqI ((ed_takeN T hr (by decide) hb1 (by rfl) (ed_var 0) ed_int (by decide) (by decide)).imp fun v H ⟨i, _, q⟩ => ⟨i, trivial, q⟩) (ed_int.imp (iP_of trivial)) (nomark _) (fun _ _ _ _ => trivial)))) (fun _ => ?_) (fun _ => ?_)
        · have k1 : ((kept ++ [n]).mergeSort numLe).length = kept.length + 1 := by
            rw [sort_len, List.length_append]
            rfl
          have q1 : (((kept ++ [n]).mergeSort numLe).map (·.num)).Perm (kept.map (·.num) ++ [n.num]) := by
            refine (sort_nums _).trans ?_
            rw [List.map_append]
            exact List.Perm.refl _
          have n2 : (((kept ++ [n]).mergeSort numLe).map (·.num)).Nodup := q1.nodup_iff.mpr (List.nodup_append.mpr ⟨n1, by simp, fun x hx y hy e => by
            rw [List.mem_singleton.mp hy] at e
            exact o1 (e ▸ hx)⟩)
          have o3 : (99 : Int) ∉ ((kept ++ [n]).mergeSort numLe).map (·.num) := fun hc => by
            rcases List.mem_append.mp (q1.mem_iff.mp hc) with hc | hc
            · exact o2 hc
            · have := List.mem_singleton.mp hc
              omega
          refine m_st (sm_expr (em_methM (i := 0) (oth := []) BK.cls c2 hr (by decide) (⟨a, dx, pa, sea, h, (kept ++ [n]).mergeSort numLe, past ++ [kept]⟩, otherN) ⟨S, other_ok, by show (past ++ [kept]).length < 1000; rw [List.length_append]; simp; omega, by show ((kept ++ [n]).mergeSort numLe).length < 30; omega, n2, o3⟩ (fun _ h => by cases h) (by rw [List.append_nil]) rfl rfl (by rfl) (em_ref (ed_var 4)) (eam_dat (em_ed (ed_var 5))))) fun σ5 G5 H5 f5 => ?_
          obtain ⟨v5, ⟨hs5, S5, _, rfl⟩, k5'⟩ := f5
          rw [List.append_nil] at S5
          refine (?_ : M _ φ1 _ _ _ _) σ5 G5 H5 S5 k5'
          have u1 : ∀ x ∈ past ++ [kept] ++ [(kept ++ [n]).mergeSort numLe], x.length ≤ 40 := fun x hx => by
            rcases List.mem_append.mp hx with hx | hx
            · exact G2.past x hx
            · rw [List.mem_singleton.mp hx]
              omega
          have u2 : (past ++ [kept] ++ [(kept ++ [n]).mergeSort numLe]).length ≤ 1000 := by
            rw [List.length_append, List.length_append]
            simp
            omega
          refine m_st (sm_expr (em_methM0 (i := 0) (oth := []) BK.cls c4 hr (by decide) (⟨a, dx, pa, sea, h, ((kept ++ [n]).mergeSort numLe ++ [otherN]).mergeSort numLe, past ++ [kept] ++ [(kept ++ [n]).mergeSort numLe]⟩, (kept ++ [n]).mergeSort numLe, past ++ [kept]) ⟨rfl, u1, u2⟩ (fun _ h => by cases h) (by rw [List.append_nil]) rfl rfl (by rfl) (em_ref (ed_var 4)))) fun σ6 G6 H6 f6 => ?_
          obtain ⟨v6, ⟨hs6, S6, _, rfl⟩, k6'⟩ := f6
          rw [List.append_nil] at S6
          refine m_nil (fun σ7 G7 H7 S7 k7 => ?_) σ6 G6 H6 S6 k6'
          refine m_nil (fun σ8 G8 H8 S8 k8 => ?_) σ7 G7 H7 S7 k7
          exact hn1 ((kept ++ [n]).mergeSort numLe, past ++ [kept]) ⟨ek, G2⟩ σ8 G8 H8 S8 (k8.forget 6)
        · refine m_nil fun σ7 G7 H7 S7 k7 => ?_
          exact hn1 ((kept ++ [n]).mergeSort numLe, past ++ [kept]) ⟨ek, G2⟩ σ7 G7 H7 S7 (k7.forget 6)
      · refine m_no (etm_et (et_to ?_ (ew_et (ew_and (k := false) (k' := true) (et_to (decide_eq_false m2) (et_eqi (ed_var 3) ed_int)) (fun z => Bool.noConfusion z))))) ?_
        · rfl
        refine m_nil fun σ7 G7 H7 S7 k7 => ?_
        exact hn1 ((kept ++ [n]).mergeSort numLe, past ++ [kept]) ⟨ek, G2⟩ σ7 G7 H7 S7 (k7.forget 6)
  · rintro os ho ⟨kept, past⟩ ⟨hk, Gd⟩
    dsimp only at hk Gd
    have Fo := Fk.perm ho
    rw [List.length_map, List.take_length] at hk
    rw [List.length_map] at Gd
    have lo := Fo.len
    exact m_ret (em_ref (ed_var 4)) fun v G H ⟨S, e⟩ => hD v G H _ S ⟨⟨a, dx, pa, sea, h, kept, past⟩, e, rfl, rfl, rfl, by rw [hk]; exact sort_perm ho Fk.nd, ⟨Nat.le_trans Gd.few (by omega), Gd.past, Gd.bot⟩⟩
end
end Lk

/-! Ex1: the law's own defs: which refusal it is. -/
namespace Lk
open PySem PySem.Spec PyProof.Rows L2 PySem.W
/-- isinstance(e, c), e an exception that is pinned -/
theorem call_isP {X : Cx} {p : Addr × Obj} {D : Addr} (C : ExcC X.K D) (hp : p ∈ X.pn) (hz : Zc (.ref D) none p.2) (hf : ∃ vs, p.2.data = .fields vs) : CallR X (.builtin "isinstance") (rIsE X.K D p.1) := by
  intro pins s σ H xs us Q I r hyp
  obtain ⟨c, cv, b, rfl, hcv, e, q⟩ := hyp
  match us, r with
  | _, .cons rx (.cons rt .nil) =>
    cases rx
    have ec := hcv _ rt
    subst ec
    obtain ⟨there, _⟩ := I.pin p (List.mem_append_left _ hp)
    have J : PySem.W.InstAt s.heap p.1 p.2 D none := by
      obtain ⟨a, oc, od, oda, osl⟩ := p
      obtain ⟨vs, hv⟩ := hf
      obtain ⟨z1, z2⟩ := hz
      dsimp only at z1 z2 hv
      subst z1 z2 hv
      exact ⟨there, rfl, rfl, trivial⟩
    exact PySem.W.kia_one (PySem.W.handS_kitx_exc C.hg C.hk C.hs C.hd C.ha C.hn C.ht C.hm) I.kIn J e (fun z => nomatch z) fun tk => ⟨.bl b, H, I.kept (t' := tk) fun _ _ w => w, rfl, q⟩
section
variable {X : Cx} {B : List Addr} {ρ : Rho} {e o a : Expr} {x : Str} {n : String} {D E : Addr} {p : Addr × Obj} {b : Bool} {pos q px apos cpos : Pos} {bs : List Bool}
theorem ed_isE (C : ExcC X.K D) (hp : p ∈ X.pn) (hz : Zc (.ref D) none p.2) (hf : ∃ vs, p.2.data = .fields vs) (hg : Gl X "isinstance") (hm : X.mg "isinstance" = none) (hx : Gl X x) (hmx : X.mg x = some (.ref E)) (hk : PySem.W.kitOne X.K (.ref D) (.ref E) = some b) (ha : Ed X B ρ e (eP (.ref p.1)))
    (hd : (x == ("__debug__" : Str)) = false := by decide) (he : starEach [e, .Name x px] X.env = (false, eval e X.env) :: starEach [.Name x px] X.env := by rfl) : Ed X B ρ (.Call (.Name "isinstance" q) [e, .Name x px] [] pos) (dP X.K (.bool b)) :=
  ed_callB (call_isP C hp hz hf) hg hm (by decide +kernel) (ea_cons ha (ea_cons (ed_gref hx hmx hd) ea_nil) he) (givesC_here fun vs G H eg r1 Q z => by
    obtain ⟨v, w, rfl, h1, h2⟩ := allp2 r1
    have h1 : v = .ref p.1 := h1
    have h2 : w = .ref E := h2
    subst h1 h2
    exact ⟨.ref E, .ref E, b, rfl, fun u r => by cases r; rfl, hk, z _ (.bl b)⟩) (by decide) (by decide) he (by rfl)
theorem ed_isET (C : ExcC X.K D) (hp : p ∈ X.pn) (hz : Zc (.ref D) none p.2) (hf : ∃ vs, p.2.data = .fields vs) (hg : Gl X "isinstance") (hm : X.mg "isinstance" = none) (hx : Gl X x) (hmx : X.mg x = none) (hv : bootBuiltins x = some (.type n)) (hk : PySem.W.kitOne X.K (.ref D) (.type n) = some b) (ha : Ed X B ρ e (eP (.ref p.1)))
    (hn : x ≠ "__name__" := by decide) (hd : (x == ("__debug__" : Str)) = false := by decide) (he : starEach [e, .Name x px] X.env = (false, eval e X.env) :: starEach [.Name x px] X.env := by rfl) : Ed X B ρ (.Call (.Name "isinstance" q) [e, .Name x px] [] pos) (dP X.K (.bool b)) :=
  ed_callB (call_isP C hp hz hf) hg hm (by decide +kernel) (ea_cons ha (ea_cons (ed_bty hx hmx hv hn hd) ea_nil) he) (givesC_here fun vs G H eg r1 Q z => by
    obtain ⟨v, w, rfl, h1, h2⟩ := allp2 r1
    have h1 : v = .ref p.1 := h1
    have h2 : w = .ty n := h2
    subst h1 h2
    exact ⟨.ty n, .type n, b, rfl, fun u r => by cases r; rfl, hk, z _ (.bl b)⟩) (by decide) (by decide) he (by rfl)
theorem ed_indexB {j : Nat} (hj : bs[j]? = some true) (hno : ∀ m, m < j → bs[m]? = some false) (ho : Ed X B ρ o (dP X.K (.list (bs.map .bool)))) (ha : Ed X B ρ a (dP X.K (.bool true))) (hbase : attributeBase o "index" X.env (eval o X.env) = eval o X.env := by rfl)
    (hfew : ((backTo cpos (starEach [a] X.env)).all (fun x => !x.1) && (backToKw cpos (keywordEach [] X.env)).all (fun x => x.1.isSome)
      && decide (([a] : List Expr).length + ([] : List Keyword).length + (if ([] : List Keyword).isEmpty then 0 else 1) < 30)) = true := by rfl)
    (hline : (apos.endLine == cpos.line) = true := by rfl) (hs1 : starEach [a] X.env = (false, eval a X.env) :: starEach [] X.env := by rfl) (hplain : (backTo cpos (starEach [] X.env)).any (·.1) = false := by rfl) :
    Ed X B ρ (.Call (.Attribute o "index" apos) [a] [] cpos) (dP X.K (.int (j : Nat))) := fun σ G H eg kn Q z =>
  pe_we (pe_bm PySem.F.plainAttrs_list PySem.F.slot_list_index PySem.F.type_list_index mt_index we_pe (pa_cons we_pe pa_nil hs1) hbase hfew hline hs1 hplain) (ho σ G H eg kn _ fun x H1 s1 r1 => by
    have e1 := ext_same eg s1
    have r1 : Dh (ext G H H1) x (.list (bs.map .bool)) := r1
    cases r1 with
    | @lst l xs _ h2 h3 =>
      rw [bools_v h3] at h2
      refine ⟨.inl ⟨rfl, _, sql_up e1.1 h2⟩, ha σ _ H1 e1 (kn.up (ext_up eg)) _ fun y H2 s2 r2 => ?_⟩
      have hy := dp_bl r2
      subst hy
      refine ⟨l, _, .bl true, j, .bl true, rfl, rfl, sql_up ((ext_up e1).trans (ext_same e1 s2).1) h2, rfl, List.all_eq_true.mpr fun v hv => ?_, by rw [List.getElem?_map, hj]; rfl, rfl, fun m z' hm hz' => ?_, z _ H2 (s1.trans s2) (.int _)⟩
      · obtain ⟨b, _, rfl⟩ := List.mem_map.mp hv
        rfl
      · rw [List.getElem?_map, hno m hm] at hz'
        cases hz'
        rfl)
end
/-- what is known of the classes of refusals -/
structure ExOk (K : PySem.W.Frag) (mg : Str → Option Value) (CN CM : Addr) : Prop where
  nat : mg "Nothing" = some (.ref CN)
  mat : mg "MarkError" = some (.ref CM)
  exc : ExcC K CN
  xi : PySem.W.excIn K CN [.type "ValueError", .type "Exception", .type "BaseException", .type "object"] "ValueError.__new__" = true
  kp : PySem.W.keepIn K (.ref CN) = true
  sub : PySem.W.subIn K (.ref CN) (.type "BaseException") = some true
  ty : PySem.W.typeIn K (.ref CN) = some (.type "type")
  exm : PySem.W.exmOne K (.ref CN) (.ref CM) = some true
  isi : ∀ x ∈ (["NoSea", "NoCell", "NoDraught", "NoDay", "NoNotices", "NoNumber", "NoMark", "NoChannel", "NoSightings", "NoFairway", "NoSide", "NoColumns", "NoLine", "There", "Unlike", "NoText", "TooMany"] : List Str), ∃ D, mg x = some (.ref D) ∧ PySem.W.kitOne K (.ref CN) (.ref D) = some false
  me : PySem.W.kitOne K (.ref CN) (.ref CN) = some true
  ve : PySem.W.kitOne K (.ref CN) (.type "ValueError") = some true
/-- a written list of texts -/
def cS (q : Str × Nat × Pos) : Expr := .Constant (.str q.1) q.2.1 q.2.2
def cSOf : Expr → List (Str × Nat × Pos)
  | .List es _ => es.filterMap fun e => match e with
    | .Constant (.str i) j p => some (i, j, p)
    | _ => none
  | _ => []
theorem ea_texts {X : Cx} {B : List Addr} {ρ : Rho} : ∀ l : List (Str × Nat × Pos), Ea X B ρ (l.map cS) (l.map fun q => dP X.K (.str q.1))
  | [] => ea_nil
  | q :: l => ea_cons (es := l.map cS) (e := .Constant (.str q.1) q.2.1 q.2.2) ed_str (ea_texts l) rfl
abbrev whichNs : List Str := ["sea", "cell", "draught", "day", "notices", "number", "mark", "channel", "sightings", "fairway"]
theorem which_head : ∃ (l : List (Str × Nat × Pos)) (p1 p2 p3 : Pos), l.map (·.1) = whichNs ∧ defBody s__law_which = (defBody s__law_which).take 9 ++ (.Assign [.Name "_law_names" p1] (.List (l.map cS) p2) p3 :: (defBody s__law_which).drop 10) := ⟨cSOf (valOf ((defBody s__law_which).getD 9 (.Pass ⟨0, 0, 0, 0⟩))), _, _, _, rfl, rfl⟩
end Lk

/-! Ex2: the law's own defs: which refusal it is, walked. -/
namespace Lk
open PySem PySem.Spec PyProof.Rows L2 PySem.W L2H
section
variable {P : Program} {w : World} {K : PySem.W.Frag} {mg : Str → Option Value} {base : Heap} {CN CM : Addr}
abbrev wX (P : Program) (w : World) (K : PySem.W.Frag) (mg : Str → Option Value) (base : Heap) (f : Addr) (cdv : Value) (A : Around) (outer : List Env) (s : Shared) (H : Hp) (E : XK) (p : Addr × Obj) : Cx := (cxH CX0 P w K mg base n__law_which "_law_which" (defScope s__law_which) f cdv A outer s H E p).nox
theorem which_body (T : TX K mg) (EX : ExOk K mg CN CM) {f : Addr} {cdv : Value} {A : Around} {outer : List Env} {s : Shared} {H : Hp} {E : XK} {p : Addr × Obj} (hz : Zc (.ref CN) none p.2) (hf : ∃ vs, p.2.data = .fields vs) :
    Sr (wX P w K mg base f cdv A outer s H E p) [] [some (eP (.ref p.1)), none, none] (defBody s__law_which) (dP K (.tuple [.str "nothing"])) := by
  have hp : p ∈ (wX P w K mg base f cdv A outer s H E p).pn := List.mem_cons_self
  have C : ExcC (wX P w K mg base f cdv A outer s H E p).K CN := EX.exc
  obtain ⟨D0, a0, b0⟩ := EX.isi "NoSea" (by simp)
  obtain ⟨D1, a1, b1⟩ := EX.isi "NoCell" (by simp)
  obtain ⟨D2, a2, b2⟩ := EX.isi "NoDraught" (by simp)
  obtain ⟨D3, a3, b3⟩ := EX.isi "NoDay" (by simp)
  obtain ⟨D4, a4, b4⟩ := EX.isi "NoNotices" (by simp)
  obtain ⟨D5, a5, b5⟩ := EX.isi "NoNumber" (by simp)
  obtain ⟨D6, a6, b6⟩ := EX.isi "NoMark" (by simp)
  obtain ⟨D7, a7, b7⟩ := EX.isi "NoChannel" (by simp)
  obtain ⟨D8, a8, b8⟩ := EX.isi "NoSightings" (by simp)
  obtain ⟨D9, a9, b9⟩ := EX.isi "NoFairway" (by simp)
  obtain ⟨D10, a10, b10⟩ := EX.isi "NoSide" (by simp)
  obtain ⟨D11, a11, b11⟩ := EX.isi "NoColumns" (by simp)
  obtain ⟨D12, a12, b12⟩ := EX.isi "NoLine" (by simp)
  obtain ⟨D13, a13, b13⟩ := EX.isi "There" (by simp)
  obtain ⟨D15, a15, b15⟩ := EX.isi "Unlike" (by simp)
  obtain ⟨D16, a16, b16⟩ := EX.isi "NoText" (by simp)
  obtain ⟨D17, a17, b17⟩ := EX.isi "TooMany" (by simp)
  obtain ⟨l, p1, p2, p3, hl, hb⟩ := which_head
  rw [hb]
  have el : (l.map fun q => dP K (.str q.1)) = (whichNs.map PyData.str).map (dP K) := by
    rw [← hl, List.map_map, List.map_map]
    rfl
  refine sr_seq (ss_set 1 sc__law_which.nd (ed_lstd (ds := [.bool false, .bool false, .bool false, .bool false]) (ea_cons (ed_isE C hp hz hf (by rfl) T.z_isinstance (by rfl) a0 b0 (ed_var 0)) (ea_cons (ed_isE C hp hz hf (by rfl) T.z_isinstance (by rfl) a1 b1 (ed_var 0)) (ea_cons (ed_isE C hp hz hf (by rfl) T.z_isinstance (by rfl) a2 b2 (ed_var 0)) (ea_cons (ed_isE C hp hz hf (by rfl) T.z_isinstance (by rfl) a3 b3 (ed_var 0)) ea_nil)))))) ?_
  refine sr_seq (ss_set 1 sc__law_which.nd (ed_catLd (ed_var 1) (ed_lstd (ds := [.bool false, .bool false, .bool false]) (ea_cons (ed_isE C hp hz hf (by rfl) T.z_isinstance (by rfl) a4 b4 (ed_var 0)) (ea_cons (ed_isE C hp hz hf (by rfl) T.z_isinstance (by rfl) a5 b5 (ed_var 0)) (ea_cons (ed_isE C hp hz hf (by rfl) T.z_isinstance (by rfl) a6 b6 (ed_var 0)) ea_nil)))) (by decide))) ?_
  refine sr_seq (ss_set 1 sc__law_which.nd (ed_catLd (ed_var 1) (ed_lstd (ds := [.bool false, .bool false, .bool false]) (ea_cons (ed_isE C hp hz hf (by rfl) T.z_isinstance (by rfl) a7 b7 (ed_var 0)) (ea_cons (ed_isE C hp hz hf (by rfl) T.z_isinstance (by rfl) a8 b8 (ed_var 0)) (ea_cons (ed_isE C hp hz hf (by rfl) T.z_isinstance (by rfl) a9 b9 (ed_var 0)) ea_nil)))) (by decide))) ?_
  refine sr_seq (ss_set 1 sc__law_which.nd (ed_catLd (ed_var 1) (ed_lstd (ds := [.bool false, .bool false, .bool false, .bool false]) (ea_cons (ed_isE C hp hz hf (by rfl) T.z_isinstance (by rfl) a10 b10 (ed_var 0)) (ea_cons (ed_isE C hp hz hf (by rfl) T.z_isinstance (by rfl) a11 b11 (ed_var 0)) (ea_cons (ed_isE C hp hz hf (by rfl) T.z_isinstance (by rfl) a12 b12 (ed_var 0)) (ea_cons (ed_isE C hp hz hf (by rfl) T.z_isinstance (by rfl) a13 b13 (ed_var 0)) ea_nil))))) (by decide))) ?_
  refine sr_seq (ss_set 1 sc__law_which.nd (ed_catLd (ed_var 1) (ed_lstd (ds := [.bool true, .bool false, .bool false, .bool false]) (ea_cons (ed_isE C hp hz hf (by rfl) T.z_isinstance (by rfl) EX.nat EX.me (ed_var 0)) (ea_cons (ed_isE C hp hz hf (by rfl) T.z_isinstance (by rfl) a15 b15 (ed_var 0)) (ea_cons (ed_isE C hp hz hf (by rfl) T.z_isinstance (by rfl) a16 b16 (ed_var 0)) (ea_cons (ed_isE C hp hz hf (by rfl) T.z_isinstance (by rfl) a17 b17 (ed_var 0)) ea_nil))))) (by decide))) ?_
  show Sr (wX P w K mg base f cdv A outer s H E p) [] [some (eP (.ref p.1)), some (dP K (.list (([false, false, false, false, false, false, false, false, false, false, false, false, false, false, true, false, false, false] : List Bool).map .bool))), none] _ _
  refine sr_no (et_to (d := !true || !decide ((([false, false, false, false, false, false, false, false, false, false, false, false, false, false, true, false, false, false] : List Bool).count true : Nat) = (1 : Int))) (by decide) (ew_et (ew_or (et_not (et_val (ed_isET C hp hz hf (by rfl) T.z_isinstance (by rfl) T.z_ValueError (by decide +kernel) EX.ve (ed_var 0)))) fun _ => ew_or1 (et_nei (ed_countB (k := true) (ed_var 1) ed_bl) ed_int)))) ?_
  refine sr_no (et_val (ed_ixLd (ed_var 1) ed_int (by rfl))) ?_
  refine sr_no (et_val (ed_ixLd (ed_var 1) ed_int (by rfl))) ?_
  refine sr_no (et_val (ed_ixLd (ed_var 1) ed_int (by rfl))) ?_
  refine sr_seq (ss_set 2 sc__law_which.nd (P := dP K (.list (whichNs.map .str))) (ed_i imp_dl (ed_p (congrArg (lP K) el) (ed_lst (ea_texts l) (by rw [List.length_map, ← List.length_map (f := (·.1)), hl]; decide))))) ?_
  refine sr_ret (ed_tupd (ds := [.str "nothing"]) (ea_cons (ed_ixLd (i := 14) (ds := whichNs.map .str ++ [.str "side", .str "columns", .str "line", .str "there", .str "nothing"]) (ed_catLd (ed_var 2) (ed_lstd (ds := [.str "side", .str "columns", .str "line", .str "there", .str "nothing"]) (ea_cons ed_str (ea_cons ed_str (ea_cons ed_str (ea_cons ed_str (ea_cons ed_str ea_nil)))))) (by decide)) (ed_indexB (j := 14) (bs := [false, false, false, false, false, false, false, false, false, false, false, false, false, false, true, false, false, false]) rfl ?_ (ed_var 1) ed_bl) (by rfl)) ea_nil))
  intro m hm
  have e : m = 0 ∨ m = 1 ∨ m = 2 ∨ m = 3 ∨ m = 4 ∨ m = 5 ∨ m = 6 ∨ m = 7 ∨ m = 8 ∨ m = 9 ∨ m = 10 ∨ m = 11 ∨ m = 12 ∨ m = 13 := by omega
  rcases e with rfl | rfl | rfl | rfl | rfl | rfl | rfl | rfl | rfl | rfl | rfl | rfl | rfl | rfl <;> rfl
/-- _law_which(e), e a refusal that is handled -/
theorem run_which (T : TX K mg) (EX : ExOk K mg CN CM) : ∃ f : Addr, mg "_law_which" = some (.ref f) ∧ PySem.W.keepIn K (.ref f) = true ∧ ∀ (A : Around) (outer : List Env) (s : Shared) (H : Hp) (p : Addr × Obj) (Q : VK) (E : XK), RoomH 1 A → PinOk outer H s p → Zc (.ref CN) none p.2 → (∃ vs, p.2.data = .fields vs) → Env0 P w K mg base A outer s H →
    (∀ v H2, Stp [] H H2 → (dP K (.tuple [.str "nothing"])).p v H2 → Q v H2) → codeAny (model P w) A (.call (.ref f) ⟨[.ref p.1], []⟩) (CR CX0 outer P w H s Q E) s := by
  obtain ⟨f, fd, hm, F⟩ := T.f__law_which
  refine ⟨f, hm, F.kp, fun A outer s H p Q E hr hpin hz hf e0 hq => ?_⟩
  have bd : BindsTo s fd ⟨[.ref p.1], []⟩ ((["_law_e"] : List Str).zip [Value.ref p.1]) := by
    have hb : Binds K fd ["_law_e"] [] := F.bindsN fun _ _ _ _ _ _ us hl => match us, hl with | [_], _ => rfl
    exact hb s [.ref p.1] (e0.mod.kin.keeps fun b o e => (e0.bs b o e).1) rfl
  obtain ⟨oc, od, dV, kV, doc, pm, an, cdv, ct, osl, rfl, lk, hcd, _, _⟩ := F.ex
  have S := sc__law_which
  have KX : K.In s.heap := e0.mod.kin.keeps fun b o e => (e0.bs b o e).1
  have lim : s.heap.NoLimit := e0.mod.nolimit.keeps fun b o e => (e0.bs b o e).1
  have kinds : ∀ y ∈ (["_law_e"] : List Str).zip [Value.ref p.1], (defScope s__law_which).names.lookup y.1 = some .local ∨ ((defScope s__law_which).names.lookup y.1 = some .cell ∧ ((cellsFrom (s.heap.objs.size + 1) (defScope s__law_which).names []).lookup y.1).isSome = true) := fun ⟨n, v⟩ hy => by
    rcases S.par n (List.of_mem_zip hy).1 with q | q
    · exact .inl q
    · exact .inr ⟨q, PySem.W.cellsFrom_some _ _ _ (.inl q)⟩
  refine codeAny_call_function hr.depth (KX _ _ lk) rfl S.co S.gen rfl (PySem.W.codeRec_of KX hcd) (bd _ _ _ _ ?_)
  refine wpAny_newFunctionEnv_cells S.kind kinds fun env he s1 x => ?_
  subst he
  refine ⟨lim.keeps x.toInCall.keep, codeAny_func ?_⟩
  have vr : Vals [V.ref p.1] [Value.ref p.1] := .cons rfl .nil
  have I : Inv (cxH CX0 P w K mg base n__law_which "_law_which" (defScope s__law_which) f cdv A outer s H E p) [] (L2.start n__law_which [.ref p.1]) H s1 := inv_startH S hpin e0 rfl vr x
  have okH : OkB [] H H := ⟨Same.refl H, (fun b hb => by cases hb), fun _ _ h => h⟩
  have kn : Kn (L2.start n__law_which [.ref p.1]) H [some (eP (.ref p.1)), none, none] := kn_start (N := n__law_which) (Ps := [eP (.ref p.1)]) (.cons rfl .nil)
  have body := which_body (P := P) (w := w) (base := base) T EX (f := f) (cdv := cdv) (A := A) (outer := outer) (s := s) (H := H) (E := E) hz hf _ H H okH kn { nx := fun _ _ => False, rt := Q } fun v H2 s2 r2 => hq v H2 s2 ((dP K (.tuple [.str "nothing"])).up ?_ r2)
  · refine wpAny_mono ((PSs.nox wb_ps).run [] s1 _ H _ I body) (fun fl s' hs => ?_) fun e s' hs => hs
    match fl, hs with
    | .ret u, ⟨v, σ', H', J, rv, q⟩ => exact ⟨v, H', J.os, J.bare, J.base, J.hok, rv, q⟩
    | .next, ⟨σ', H', J, q⟩ => exact q.elim
    | .brk, ⟨_, _, _, q⟩ => exact False.elim q
    | .cont, ⟨_, _, _, q⟩ => exact False.elim q
  · rw [show ext H H H2 = ext H H H2 from rfl]
    exact fun a o h => by
      cases q : H a with
      | some u =>
        rw [ext_some q] at h
        exact (Stp.same s2) a o h
      | none =>
        rw [ext_none q] at h
        exact h
end
end Lk

/-! Ex3: a book with nothing to undo; a lambda handed to a def. -/
namespace Lk
open PySem PySem.Spec PyProof.Rows L2 PySem.W
section
variable {X : Cx} {φ : Fx} {ρ : Rho} {hs : Hs} {rest : List Stmt} {D : Ends} {W : WX} {e : Expr} {pos : Pos} {C : Addr}
/-- raise X(..) -/
theorem m_raise (hc : X.calm = true) (tk : Takes X W) (hm : PMk X e fun _ H Q => Q (.ref C) none H) (h : ∀ σ G H, Stt φ hs G H → W (.ref C) none σ H) : M X φ ρ hs (.Raise (some e) none pos :: rest) D := fun σ G H S kn =>
  ps_wb (pss_cons (ps_raise hc tk hm) wb_ps) (h σ G H S)
end
/-- the promise of a method that finds nothing to undo -/
def spR (K : PySem.W.Frag) (C CN : Addr) : Sp := fun vs H Q E => ∃ (b : Bk) (G H0 : Hp), b.past = [] ∧ vs = [.ref b.a] ∧ Stt ⟨[], G, H0, G⟩ (hsB K C b) G H ∧ ∀ G' H', Stt ⟨[], G, H0, G⟩ (hsB K C b) G' H' → E (.ref CN) none H'
section
variable {P : Program} {w : World} {K : PySem.W.Frag} {mg : Str → Option Value} {base : Heap} {C CN CM : Addr}
theorem m_undoR (T : TX K mg) (BK : BkOk K mg C) (EX : ExOk K mg CN CM) (MT2 : MetT K C "undo" "Book.undo" s_Book_undo) : ∃ (f : Addr) (fd : FuncData), Meth K C "undo" f ∧ Binds K fd ["self"] [] ∧ FnOk P w K mg base (CX P w) 1 f fd ["self"] (spR K C CN) := by
  obtain ⟨f, fd, hm, F⟩ := MT2
  refine ⟨f, fd, hm, F.bindsN fun _ _ _ _ _ _ us hl => match us, hl with | [_], _ => rfl, F.ok sc_Book_undo (fun vs H Q E hq => ?_) fun cdv A outer s H vs Q E hr hq => ⟨_, wb_ps, ?_⟩⟩
  · obtain ⟨b, G, H0, _, rfl, _⟩ := hq
    rfl
  obtain ⟨⟨ba, dx, pa, sea, h, kept, past⟩, G, H0, hp, rfl, S, q⟩ := hq
  dsimp only at hp
  subst hp
  have hu := hr.units
  refine (?_ : M _ ⟨[], G, H0, G⟩ [some (eP (.ref ba))] (hsB K C ⟨ba, dx, pa, sea, h, kept, []⟩) (defBody s_Book_undo) _) _ G H S (kn_start (N := n_Book_undo) (Ps := [eP (.ref ba)]) (.cons rfl .nil))
  refine m_if (k := true) (etm_show2 (f := "own_past") (fs := bkF K sea kept (eP (.ref pa))) (Ps := ([] : List (List Notice)).map (notP K)) (i := 0) (i2 := 1) 0 rfl rfl (fun G G2 vs e r q => ?_) rfl (et_to ?_ (et_eqD (d := .list []) (e := .list []) hu ((ed_fld (P := lP K (([] : List (List Notice)).map (notP K))) (fs := bkF K sea kept (lP K (([] : List (List Notice)).map (notP K)))) BK.cls BK.n3 (by rfl) (ed_var 0)).imp ?_) (ed_lstd (ds := []) ea_nil) (by rfl) (by rfl)))) (fun _ => ?_) (fun z => Bool.noConfusion z)
  · cases q with
    | cons a1 t =>
      cases t with
      | cons a2 t =>
        cases t with
        | cons a3 t =>
          cases t
          refine .cons ⟨a1.1, (dP K (seaD sea)).up e a1.2⟩ (.cons ⟨a2.1, (notP K kept).up e a2.2⟩ (.cons ⟨a3.1, ?_⟩ .nil))
          have : _ = V.ref pa := a3.2
          rw [this]
          exact r
  · rw [eqv_nil]
    rfl
  · exact imp_dl (K := K) (ds := [])
  · exact m_raise rfl (takes_of rfl rfl rfl rfl) (pmk_own PySem.F.excBase_ValueError EX.xi EX.nat EX.kp (raises_own EX.sub EX.ty) (by rfl)) fun σ G' H' S' => q G' H' S'
end
/-! ### a lambda made -/
section
variable {X : Cx} {pins : List (Addr × Obj)} {σ : L2.St} {H : Hp} {s : Shared}
theorem lam_mk {Tc : Addr → Prop} {c PT : Addr} {ps : Array Value} {params : Arguments} {body : Expr} {scope : Scope} {pos : Pos} {E Q : Value → Shared → Prop} (I : Inv X pins σ H s) (TB : LamX.TabB X.base X.mg c PT) (hco : X.env.code = .ref c) (hP : H PT = some (.tbl ps)) (htr : TriplesOk ps.toList)
    (hTc : ∀ a, Tc a → H a = some (LamX.CodeO a (X.env.qual ++ "<lambda>"))) (hall : ∀ p cv, codeAmong p ps.toList = some cv → ∃ a, cv = .ref a ∧ Tc a) (hdf : defaultsOf params X.env = ([], [])) (hfr : ∀ y ∈ scope.names, y.2 = .free → ∃ a, X.env.cells.lookup y.1 = some a)
    (k : ∀ (f c' : Addr) (pm ctv : Value) (H1 : Hp) (s' : Shared), Inv X pins σ H1 s' → ((H1 = H ∧ Tc c') ∨ ∃ ps' : Array Value, H c' = none ∧ c' ≠ PT ∧ H1 = upd (upd H c' (LamX.CodeO c' (X.env.qual ++ "<lambda>"))) PT (.tbl ps') ∧ TriplesOk ps'.toList ∧ ∀ p cv, codeAmong p ps'.toList = some cv → (∃ a, cv = .ref a ∧ Tc a) ∨ cv = .ref c') →
      s'.heap.get? f = some (PySem.W.kla_obj "<lambda>" (X.env.qual ++ "<lambda>") params body scope (cloFrom X.env.cells scope.names []) pm c' ctv) → H1 f = none → f ∉ frs X.stack → H1 c' = some (LamX.CodeO c' (X.env.qual ++ "<lambda>")) → Q (.ref f) s') :
    wpAny (model X.prog X.w) X.A (eval (.Lambda params body scope pos) X.env) Q E s := by
  have bmP : s.heap.BuiltinsAt X.mg PT := TB.bm.keeps I.bk
  have tabP : s.heap.get? PT = some { cls := .none, data := .fields ps } := I.hok PT _ hP
  have out : ∀ f, s.heap.objs.size ≤ f → f ∉ frs X.stack := fun f big mem => by
    rcases List.mem_cons.mp (I.stkSub _ mem) with e | e
    · have lt := I.lt
      rw [← e] at lt
      exact absurd (Nat.lt_of_lt_of_le lt big) (Nat.lt_irrefl _)
    · exact I.nofs big e
  refine PySem.W.kla_eval hdf ?_
  cases among : codeAmong pos ps.toList with
  | some cv =>
    obtain ⟨a, rfl, ta⟩ := hall pos cv among
    exact PySem.W.kla_makeFunctionHit (mg := X.mg) (c := c) (P := PT) (ps := ps) (closure_ok hfr) I.ok.glob (I.mod.glob.keeps I.bk) hco (TB.code.keeps I.bk) tabP htr among bmP fun ctv h2 tk old big =>
      k h2.objs.size a ((X.mg "__name__").getD .none) ctv H _ (I.kept fun b o e => Heap.get?_push_of_some _ (old b o e)) (.inl ⟨rfl, ta⟩) (Heap.get?_push_size _ rfl) (I.hok.fresh big) (out _ big) (hTc a ta)
  | none =>
    refine PySem.W.kla_makeFunction (mg := X.mg) (c := c) (P := PT) (ps := ps) (closure_ok hfr) I.ok.glob (I.mod.glob.keeps I.bk) hco (TB.code.keeps I.bk) tabP htr among TB.gP bmP fun a ctv h2 tk old lo hi rc tb => ?_
    obtain ⟨a2, oc, vs, t, e2, g1, g2, g3⟩ := rc
    injection e2 with e2
    subst e2
    have free : H a = none := I.hok.fresh lo
    have ne : a ≠ PT := fun z => by
      rw [z, hP] at free
      cases free
    have big : s.heap.objs.size ≤ h2.objs.size := by omega
    have J := LamX.inv_table (t' := tk) (more := #[rawInt pos.line, rawInt pos.col, .ref a]) (h' := h2.push (PySem.W.kla_obj "<lambda>" (X.env.qual ++ "<lambda>") params body scope (cloFrom X.env.cells scope.names []) ((X.mg "__name__").getD .none) a ctv)) I hP
      (fun b o hb e => Heap.get?_push_of_some _ (old b o hb e)) (Heap.get?_push_of_some _ tb) lo ⟨oc, vs, t, Heap.get?_push_of_some _ g1, g2, g3⟩
    have swap : ∀ u v : HO, upd (upd H PT u) a v = upd (upd H a v) PT u := fun u v => by
      funext x
      by_cases h1 : x = a
      · rw [h1, upd_same, upd_ne ne, upd_same]
      · by_cases h2 : x = PT
        · rw [h2, upd_ne (Ne.symm ne), upd_same, upd_same]
        · rw [upd_ne h1, upd_ne h2, upd_ne h2, upd_ne h1]
    have eL : (ps ++ #[rawInt pos.line, rawInt pos.col, Value.ref a]).toList = ps.toList ++ [rawInt pos.line, rawInt pos.col, .ref a] := by simp
    refine k h2.objs.size a ((X.mg "__name__").getD .none) ctv _ _ J (.inr ⟨_, free, ne, swap _ _, by rw [eL]; exact PySem.TriplesOk_snoc _ _ _ _ htr, fun p cv hcv => ?_⟩) (Heap.get?_push_size _ rfl) ?_ (out _ big) upd_same
    · rw [eL] at hcv
      rcases LamX.among_app _ htr hcv with z | z
      · exact .inl (hall p cv z)
      · exact .inr z
    · rw [upd_ne (show h2.objs.size ≠ a by omega), upd_ne (fun z => ?_)]
      · exact I.hok.fresh big
      · have lt := Heap.lt_size tabP
        rw [← z] at lt
        exact absurd (Nat.lt_of_lt_of_le lt big) (Nat.lt_irrefl _)
/-- x(lambda: body), x a def that calls what it got -/
theorem pe_lamB {TT : (XK → Hp → VK → Prop) → Hp → VK → Prop} {x a : Str} {g c PT : Addr} {k : Nat} {pg : Arguments} {bg : List Stmt} {sg : Scope} {dV kV doc pm cdv ct oc : Value} {an od : Option Addr} {osl : Array (Option Value)} {Ng : List Str} {params : Arguments} {body : Expr} {scope : Scope} {t : XK → TE} {p lpos pos : Pos}
    (hG : Gl X x) (hM : X.mg x = some (.ref g)) (hkp : PySem.W.keepIn X.K (.ref g) = true) (lk : X.K.lookup g = some ⟨oc, od, .func (PySem.W.fnOf x x pg bg sg dV kV doc pm an cdv ct), osl⟩) (hcg : PySem.W.codeIn X.K cdv x = true) (hbd : L2.Binds X.K (PySem.W.fnOf x x pg bg sg dV kV doc pm an cdv ct) [a] []) (Sg : FnScope Ng [a] sg) (hNg : Ng[0]? = some a) (hva : Vis sg a)
    (gives : LamX.GivesTo X Ng x sg g cdv bg a (X.env.qual ++ "<lambda>") TT) (TB : LamX.TabB X.base X.mg c PT) (hco : X.env.code = .ref c) (hr : Room (k + 2) X.A) (L : LamX.LamS X.env.scope scope) (hdf : defaultsOf params X.env = ([], []))
    (hbind : ∀ (q : Str) (cl : List (Str × Addr)) (pm cv ctv : Value), bindArgs (PySem.W.kla_fn "<lambda>" q params body scope cl pm cv ctv) ⟨[], []⟩ = pure [])
    (hbody : ∀ (A : Around) (outer : List Env) (s : Shared) (H : Hp) (E : XK) (f c' : Addr), Room k (A.deeper (LamX.lamEnv X scope s.heap.objs.size f c')) → PE (LamX.lamCx X A outer s H E scope f c') body (t E))
    (hdb : (x == ("__debug__" : Str)) = false := by decide) (hd : (a == ("__debug__" : Str)) = false := by decide) (hcd : (a == ("__classdict__" : Str)) = false := by decide) :
    PE X (.Call (.Name x p) [.Lambda params body scope lpos] [] pos) (fun σ H Q => ∃ (ps : Array Value) (Tc : Addr → Prop), H PT = some (.tbl ps) ∧ TriplesOk ps.toList ∧ (∀ a, Tc a → H a = some (LamX.CodeO a (X.env.qual ++ "<lambda>"))) ∧ (∀ p cv, codeAmong p ps.toList = some cv → ∃ a, cv = .ref a ∧ Tc a) ∧
      ∀ H1 c', ((H1 = H ∧ Tc c') ∨ ∃ ps' : Array Value, H c' = none ∧ c' ≠ PT ∧ H1 = upd (upd H c' (LamX.CodeO c' (X.env.qual ++ "<lambda>"))) PT (.tbl ps') ∧ TriplesOk ps'.toList ∧ ∀ p cv, codeAmong p ps'.toList = some cv → (∃ a, cv = .ref a ∧ Tc a) ∨ cv = .ref c') → TT (fun E H' Q' => t E σ H' Q') H1 Q) := by
  refine ⟨fun pins s σ H Q I hyp => wpAny_Call_Name_kw (ld_glob I hG hM ?_ hdb)⟩
  obtain ⟨ps, Tc, hP, htr, hTc, hall, hyp⟩ := hyp
  refine PySem.W.callWith_K (h₀ := X.base) I.ok.mod.kin hkp (Calls.spliced_cons (lam_mk I TB hco hP htr hTc hall hdf (L.has I.ok) fun f c' pm' ctv H1 s' J way there free nofr code => ?_)) (by rfl) (by rfl)
  refine Calls.spliced_nil ⟨J.kIn, wpAny_call (codeAny_mono (R := CR C8.CX0 X.stack X.prog X.w H1 s' Q C8.E0) ?_ fun r s2 hend => ?_)⟩
  · refine LamX.run_ofS (N := Ng) (ps := [a]) (us := [.ref f]) (vs := [.ref f]) lk hcg Sg hr J.env0 (hbd s' [.ref f] J.kIn rfl) (.cons rfl .nil) rfl fun hr' => ?_
    obtain ⟨t', ht', hq'⟩ := gives f c' s' H1 Q (fun E H' Q' => t E σ H' Q') (fun W pn xe E p1 p2 tk hW => LamX.pe_act (i := 0) J L there free nofr (hbind _ _ _ _ _) tk hW hr' (fun A outer s H hr2 => hbody A outer s H E f c' hr2) hNg hva hd hcd) code (hyp H1 c' way)
    exact ⟨t', ht'.nox, hq'⟩
  · match r, hend with
    | .ok (.ret u), hend => exact J.after hend
end
end Lk

/-! Ex4: what is said of a call: told, or the refusal's words. -/
namespace Lk
open PySem PySem.Spec PyProof.Rows L2 PySem.W L2H
/-- what is wished of the refusal -/
def Ech (K : PySem.W.Frag) (CN : Addr) (Q : VK) : XK := fun cls d H' => cls = .ref CN ∧ d = none ∧ ∀ v H2, Stp [] H' H2 → (dP K (.tuple [.str "nothing"])).p v H2 → Q v H2
def TTs (K : PySem.W.Frag) (CN : Addr) : (XK → Hp → VK → Prop) → Hp → VK → Prop := fun tl H Q => tl (Ech K CN Q) H fun v H1 => [v].length ≤ sizeLine ∧ ∀ p, H1 p = none → Q (.ref p) (upd H1 p (.lst [v]))
theorem takes_len {X : Cx} {W : WX} (t : Takes X W) : Takes X (fun cls d σ H => σ.length = X.N.length → W cls d σ H) := fun u s' ⟨a, B, sI, pins, σ, H, cls, d, e, I, nb, up, sky, na, os, ag, w⟩ =>
  t u s' ⟨a, B, sI, pins, σ, H, cls, d, e, I, nb, up, sky, na, os, ag, w I.len⟩
section
variable {K : PySem.W.Frag} {mg : Str → Option Value} {CN CM : Addr}
theorem pe_which {Z : Cx} {a : Addr} {oe : Obj} (T : TX Z.K Z.mg) (EX : ExOk Z.K Z.mg CN CM) {p1 p2 pos : Pos} (hr : RoomH 1 Z.A) (hin : (a, oe) ∈ Z.pn) (hz : Zc (.ref CN) none oe) (hf : ∃ vs, oe.data = .fields vs) (hG : Gl Z "_law_which") (hN : Z.N[1]? = some ("_law_e" : Str)) (hv : Vis Z.env.scope "_law_e") :
    PE Z (.Call (.Name "_law_which" p1) [.Name "_law_e" p2] [] pos) (fun σ H Q => σ[1]? = some (some (.ref a)) ∧ ∀ v H2, Stp [] H H2 → (dP Z.K (.tuple [.str "nothing"])).p v H2 → Q v H2) := by
  obtain ⟨f, hM, hkp, run⟩ := run_which (P := Z.prog) (w := Z.w) (base := Z.base) T EX
  refine ⟨fun pins s σ H Q I hyp => wpAny_Call_Name_kw (ld_glob I hG hM ?_ (by decide))⟩
  obtain ⟨hσ, hq⟩ := hyp
  refine PySem.W.callWith_K (h₀ := Z.base) I.ok.mod.kin hkp (thn ((pa_cons (pe_var (pos := p2) (i := 1) hN hv (by decide) (by decide)) pa_nil).run pos pins s σ H (fun vs H1 => vs = [V.ref a] ∧ H1 = H) I ⟨.ref a, hσ, rfl, rfl⟩) fun us s1 hh => ?_) (by rfl) (by rfl)
  obtain ⟨vs, H1, I1, r, ev, eH⟩ := hh
  subst ev eH
  refine ⟨I1.kIn, ?_⟩
  match us, r with
  | _, .cons ru .nil =>
    cases ru
    have P1 := I1.pin (a, oe) (List.mem_append_left _ hin)
    have hpin : PinOk Z.stack H1 s1 (a, oe) := ⟨P1.1, P1.2.1, fun hm => (List.mem_cons.mp (I1.stkSub a hm)).elim P1.2.2.1 P1.2.2.2.1, P1.2.2.2.2⟩
    refine wpAny_call (codeAny_mono (run Z.A Z.stack s1 H1 (a, oe) Q (fun _ _ _ => False) hr hpin hz hf I1.env0 hq) fun res s2 hend => ?_)
    match res, hend with
    | .ok (.ret u), hend => exact I1.after hend
theorem said_gives {X : Cx} (T : TX X.K X.mg) (EX : ExOk X.K X.mg CN CM) (hr : Room 4 X.A) {g : Addr} {cdg : Value} {q : Str} : LamX.GivesTo X n__law_said "_law_said" (defScope s__law_said) g cdg (defBody s__law_said) "_law_call" q (TTs X.K CN) := by
  intro f c' s H Q tl act hc h
  refine ⟨_, pss_one (ps_try_as (X := (cxOf C8.CX0 X.prog X.w X.K X.mg X.base n__law_said "_law_said" (defScope s__law_said) g cdg X.A X.stack s H C8.E0).nox) (i := 1) (c := .ref CM) (Wout := fun _ _ _ _ => False)
      (tb := fun W D σ H => ∃ E : XK, (∀ cls d (σ' : L2.St) H', E cls d H' → σ'.length = 2 → W cls d σ' H') ∧ σ[0]? = some (some (.ref f)) ∧ H c' = some (LamX.CodeO c' q) ∧ tl E H fun v H1 => [v].length ≤ sizeLine ∧ ∀ p, H1 p = none → D.rt (.ref p) (upd H1 p (.lst [v])))
      (ts := fun a cls d D σ H => cls = .ref CN ∧ d = none ∧ σ[1]? = some (some (.ref a)) ∧ ∀ v H2, Stp [] H H2 → (dP X.K (.tuple [.str "nothing"])).p v H2 → D.rt v H2)
      rfl rfl sc__law_said.nd rfl rfl ⟨(by rfl), by decide, .inl EX.mat⟩ LamX.takes0 (fun W pn xe tk _ => ?_) (fun a oe cls d pn hz hf => ?_)), ?_⟩
  · refine ⟨fun pins s' σ H' D I h' => ?_⟩
    obtain ⟨E, hW, h1, h2, h3⟩ := h'
    have hp := fun p1 p2 => act _ pn xe E p1 p2 (takes_len tk) (fun cls d σ' H' e l => hW cls d σ' H' e l)
    exact (pss_one (ps_ret (pe_lst (pa_cons (hp _ _) pa_nil)))).run pins s' σ H' D I ⟨h1, h2, h3⟩
  · refine ⟨fun pins s' σ H' D I h' => ?_⟩
    obtain ⟨e1, e2, h1, h2⟩ := h'
    subst e1 e2
    have hr2 : RoomH 1 (X.A.deeper (envOfC "_law_said" (defScope s__law_said) s.heap.objs.size g cdg)) := roomH_of ((hr.deeper _).mono (by decide))
    refine (pss_one (ps_ret (pe_which (Z := ((cxOf C8.CX0 X.prog X.w X.K X.mg X.base n__law_said "_law_said" (defScope s__law_said) g cdg X.A X.stack s H C8.E0).nox).suite a ((a, oe) :: pn)) T EX ⟨hr2.dp, hr2.un⟩ List.mem_cons_self hz hf (by rfl) (by rfl) (.inl rfl)))).run pins s' σ H' D I ⟨h1, h2⟩
  · refine ⟨Ech X.K CN Q, fun cls d σ' H' he hl => ?_, rfl, hc, h⟩
    obtain ⟨rfl, rfl, hq⟩ := he
    refine ⟨true, EX.exm, fun _ a _ => ⟨rfl, rfl, ?_, hq⟩, fun z => Bool.noConfusion z⟩
    exact List.getElem?_set_self (by rw [hl]; decide)
end
end Lk

/-! Ex5: _law_said(lambda: one.undo()). -/
namespace Lk
open PySem PySem.Spec PyProof.Rows L2 PySem.W L2H
/-- a hidden table of code objects -/
def tabHP (q : Str) : HP where
  p := fun o G => ∃ ps : Array Value, o = .tbl ps ∧ TriplesOk ps.toList ∧ ∀ pos cv, codeAmong pos ps.toList = some cv → ∃ c, cv = .ref c ∧ G c = some (LamX.CodeO c q)
  up := fun e h => by
    obtain ⟨ps, h1, h2, h3⟩ := h
    exact ⟨ps, h1, h2, fun pos cv hc => by
      obtain ⟨c, e1, e2⟩ := h3 pos cv hc
      exact ⟨c, e1, e _ _ e2⟩⟩
  nt := fun h => by
    obtain ⟨_, h, _⟩ := h
    cases h
theorem codeO_nt {c : Addr} {q : Str} {xs : List V} : LamX.CodeO c q ≠ .tup xs := fun z => by
  unfold LamX.CodeO at z
  cases z
abbrev spUndo (K : PySem.W.Frag) (C : Addr) : Sp := spM (α := Bk × List Notice × List (List Notice)) (fun _ => []) (fun z => z.1.past = z.2.2 ++ [z.2.1] ∧ (∀ ns ∈ z.1.past, ns.length ≤ 40) ∧ z.1.past.length ≤ 1000) (fun z => [eP (.ref z.1.a)]) (fun z => hsB K C z.1) fun z v G hs' => v = .non ∧ hs' = hsB K C { z.1 with kept := z.2.1, past := z.2.2 }
abbrev noArgs : Arguments := { posonlyargs := [], args := [], vararg := none, kwonlyargs := [], kw_defaults := [], kwarg := none, defaults := [] }
section
variable {X : Cx} {φ : Fx} {ρ : Rho} {hs oth : Hs} {C CN CM c PT : Addr} {b : Bk} {i : Nat} {scope : Scope} {p lpos pos p1 p2 p3 : Pos} {y : Str}
/-- the table is told a new code object, or not -/
theorem stt_way {G H H1 : Hp} {q : Str} {c' : Addr} {cs : Hs} (S : Stt φ (cs ++ (PT, tabHP q) :: oth) G H)
    (way : (H1 = H ∧ G c' = some (LamX.CodeO c' q)) ∨ ∃ ps' : Array Value, H c' = none ∧ c' ≠ PT ∧ H1 = upd (upd H c' (LamX.CodeO c' q)) PT (.tbl ps') ∧ TriplesOk ps'.toList ∧ ∀ p cv, codeAmong p ps'.toList = some cv → (∃ a, cv = .ref a ∧ G a = some (LamX.CodeO a q)) ∨ cv = .ref c') :
    ∃ G1, Same G G1 ∧ Stt φ (cs ++ (PT, tabHP q) :: oth) G1 H1 := by
  rcases way with ⟨rfl, _⟩ | ⟨ps', h1, h2, rfl, h4, h5⟩
  · exact ⟨G, Same.refl G, S⟩
  · have S2 : Stt φ (cs ++ (PT, tabHP q) :: oth) (upd G c' (LamX.CodeO c' q)) (upd H c' (LamX.CodeO c' q)) := S.newG h1
    have hi : (cs ++ (PT, tabHP q) :: oth)[cs.length]? = some (PT, tabHP q) := by simp
    have S3 := S2.put (q' := tabHP q) (o := .tbl ps') hi ⟨ps', rfl, h4, fun p cv hc => by
      rcases h5 p cv hc with ⟨a, e1, e2⟩ | e
      · exact ⟨a, e1, snew (snone S.ok.1 h1) _ _ e2⟩
      · exact ⟨c', e, upd_same⟩⟩
    have e : (cs ++ (PT, tabHP q) :: oth).set cs.length (PT, tabHP q) = cs ++ (PT, tabHP q) :: oth := by simp
    rw [e] at S3
    exact ⟨_, snew (snone S.ok.1 h1), S3⟩
theorem em_said (T : TX X.K X.mg) (BK : BkOk X.K X.mg C) (BM : BkMet X.K C) (EX : ExOk X.K X.mg CN CM) (TB : LamX.TabB X.base X.mg c PT) (hco : X.env.code = .ref c) (hr : Room 4 X.A) (L : LamX.LamS X.env.scope scope) (hN : X.N[i]? = some y) (hv : Vis scope y) (hy1 : (y == ("__debug__" : Str)) = false) (hy2 : (y == ("__classdict__" : Str)) = false)
    (hG : Gl X "_law_said") (hp : hs.Perm (hsB X.K C b ++ (PT, tabHP (X.env.qual ++ "<lambda>")) :: oth)) (hρ : ρ[i]? = some (some (eP (.ref b.a)))) (h40 : ∀ ns ∈ b.past, ns.length ≤ 40) (hlen : b.past.length ≤ 1000)
    (ht : ∀ (A : Around) (outer : List Env) (s : Shared) (H : Hp) (E : XK) (fl cl : Addr), ∃ pl, eval (.Call (.Attribute (.Name y p1) "undo" p2) [] [] p3) (LamX.lamCx X A outer s H E scope fl cl).env = (do
      let ov ← eval (.Name y p1) (LamX.lamCx X A outer s H E scope fl cl).env
      standAt p2.atName
      let (f, first) ← holding [ov] (getMethod ov "undo" pl)
      callWith p3 f first (backTo p3 (starEach [] (LamX.lamCx X A outer s H E scope fl cl).env)) (backToKw p3 (keywordEach [] (LamX.lamCx X A outer s H E scope fl cl).env)))) :
    Em X φ ρ hs (.Call (.Name "_law_said" p) [.Lambda noArgs (.Call (.Attribute (.Name y p1) "undo" p2) [] [] p3) scope lpos] [] pos) (fun v G H => (b.past = [] ∧ Stt φ (hsB X.K C b ++ (PT, tabHP (X.env.qual ++ "<lambda>")) :: oth) G H ∧ (dP X.K (.tuple [.str "nothing"])).p v G) ∨
      ∃ n ps, b.past = ps ++ [n] ∧ Stt φ (hsB X.K C { b with kept := n, past := ps } ++ (PT, tabHP (X.env.qual ++ "<lambda>")) :: oth) G H ∧ (dP X.K (.list [.none])).p v G) := by
  intro σ G H S0 kn Q z
  obtain ⟨g, fd, hM, FD⟩ := T.f__law_said
  have hbd : Binds X.K fd ["_law_call"] [] := FD.bindsN fun _ _ _ _ _ _ us hl => match us, hl with | [_], _ => rfl
  obtain ⟨oc, od, dV, kV, doc, pm, an, cdv, ct, osl, rfl, lk, hcd, _, _⟩ := FD.ex
  obtain ⟨v0, hσ, rv0⟩ := kn.2 i _ hρ
  have rv0 : v0 = .ref b.a := rv0
  subst rv0
  have S := S0.perm hp
  obtain ⟨o, ho, ps, rfl, htr, hall⟩ := S.get (i := 2) (p := PT) (q := tabHP (X.env.qual ++ "<lambda>")) rfl
  have codes : ∀ a, G a = some (LamX.CodeO a (X.env.qual ++ "<lambda>")) → H a = some (LamX.CodeO a (X.env.qual ++ "<lambda>")) := fun a h => S.ok.1 _ _ h
  rcases List.eq_nil_or_concat b.past with hb | ⟨ps', n, hb⟩
  · obtain ⟨fu, fdu, MU, BU, FU⟩ := m_undoR (P := X.prog) (w := X.w) (base := X.base) T BK EX BM.un
    refine pe_we (pe_lamB (x := "_law_said") (k := 1) (t := fun E => tMeth C "undo" (spR X.K C CN) [] E (tVar i) tNil) hG hM FD.kp lk hcd hbd sc__law_said rfl (.inl rfl) (said_gives T EX hr) TB hco (hr.mono (by decide)) L rfl (fun _ _ _ _ _ => rfl) fun A outer s H E f c' hr2 => ?_) ?_
    · obtain ⟨pl, ht⟩ := ht A outer s H E f c'
      exact pe_meth0 (pe_var (X := LamX.lamCx X A outer s H E scope f c') hN hv hy1 hy2) BK.cls MU FU hr2 BU .nil (passes_call (takes_of rfl rfl rfl rfl) fun _ _ _ _ h => h) ht
    · refine ⟨ps, _, ho, htr, codes, hall, fun H1 c' way => ?_⟩
      obtain ⟨G1, u1, S1⟩ := stt_way (cs := hsB X.K C b) S way
      obtain ⟨S2, back⟩ := S1.call (cs := hsB X.K C b) (B := []) (List.Perm.refl _) (fun _ h => by cases h)
      obtain ⟨o1, g1, vs1, rfl, g2⟩ := S1.get (i := 0) (p := b.a) (q := iHP C b.dx (bkF X.K b.sea b.kept (eP (.ref b.pa)))) rfl
      refine ⟨.ref b.a, hσ, b.a, b.dx, vs1, rfl, g1, g2.no rfl, ?_⟩
      refine ⟨b, G1, _, hb, rfl, S2, fun G' H' S' => ⟨rfl, rfl, fun v H2 s2 r => ?_⟩⟩
      have S3 := (back _ _ _ S').ev (s2.sub fun _ h => by cases h)
      refine z v _ H2 ((u1.trans S'.up).trans (ext_up (back _ _ _ S').ok)) (.inl ⟨hb, S3, ?_⟩)
      cases r with
      | tup hs ha =>
        refine .tup (S3.ok.2.2 _ _ hs) ?_
        cases ha with
        | cons h1 h2 =>
          cases h1
          cases h2
          exact .cons (.str _) .nil
  · rw [List.concat_eq_append] at hb
    obtain ⟨fu, fdu, MU, BU, FU⟩ := (show CalM X.prog X.w X.K X.mg X.base C 1 "undo" ["self"] (spUndo X.K C) from m_undo T BK BM.un).ex
    refine pe_we (pe_lamB (x := "_law_said") (k := 1) (t := fun E => tMeth C "undo" (spUndo X.K C) [] E (tVar i) tNil) hG hM FD.kp lk hcd hbd sc__law_said rfl (.inl rfl) (said_gives T EX hr) TB hco (hr.mono (by decide)) L rfl (fun _ _ _ _ _ => rfl) fun A outer s H E f c' hr2 => ?_) ?_
    · obtain ⟨pl, ht⟩ := ht A outer s H E f c'
      exact pe_meth0 (pe_var (X := LamX.lamCx X A outer s H E scope f c') hN hv hy1 hy2) BK.cls MU FU hr2 BU .nil pass0 ht
    · refine ⟨ps, _, ho, htr, codes, hall, fun H1 c' way => ?_⟩
      obtain ⟨G1, u1, S1⟩ := stt_way (cs := hsB X.K C b) S way
      obtain ⟨S2, back⟩ := S1.call (cs := hsB X.K C b) (B := []) (List.Perm.refl _) (fun _ h => by cases h)
      obtain ⟨o1, g1, vs1, rfl, g2⟩ := S1.get (i := 0) (p := b.a) (q := iHP C b.dx (bkF X.K b.sea b.kept (eP (.ref b.pa)))) rfl
      refine ⟨.ref b.a, hσ, b.a, b.dx, vs1, rfl, g1, g2.no rfl, ?_⟩
      refine ⟨(b, n, ps'), G1, _, ⟨hb, h40, hlen⟩, S2, .cons rfl .nil, fun v G' H' hs2 S' post => ?_⟩
      obtain ⟨rfl, rfl⟩ := post
      have S3 := back _ _ _ S'
      refine ⟨small (by show 1 ≤ 100000; decide), fun p hp => ?_⟩
      have n2 := snew (o := HO.lst [V.non]) (snone S3.ok.1 hp)
      exact z _ _ _ ((u1.trans S'.up).trans n2) (.inr ⟨n, ps', hb, S3.newG hp, .lst upd_same (.cons .non .nil)⟩)
end
end Lk

/-! Da23: a box handed in; comprehensions over one of several lists; a list that is thrown away; a while whose test changes things. -/
namespace Lk
open PySem PySem.Spec PyProof.Rows L2
section
variable {X : Cx} {B : List Addr} {φ : Fx} {ρ ρ' : Rho} {hs : Hs} {sts rest body : List Stmt} {D : Ends} {K : PySem.W.Frag} {a : Addr} {G H : Hp}
theorem Stt.box (S : Stt φ ((a, boxH K) :: hs) G H) : ∃ o, φ.H0 a = Option.none ∧ Stt ⟨a :: φ.B, φ.G0, upd φ.H0 a o, φ.Gm⟩ hs G H := by
  obtain ⟨h1, h2, o, h3, xs, rfl, h4⟩ := S.hid _ List.mem_cons_self
  dsimp only at h1 h2 h3
  obtain ⟨v, rfl, n, hn, hv⟩ := allp1 h4
  have hv := dp_int hv
  subst hv
  have hb : BoxO (.lst [.int n]) := ⟨n, hn, rfl⟩
  have nd := List.nodup_cons.mp S.nd
  refine ⟨.lst [.int n], h2, ⟨S.ok.1, fun b hb' => ?_, S.ok.2.2⟩, fun b hb' => ?_, S.up, fun x o hx => ?_, fun x o hx => ?_, fun x hx => ?_, nd.2, S.mid⟩
  · rcases List.mem_cons.mp hb' with rfl | hb'
    · exact ⟨h1, _, h3, hb⟩
    · exact S.ok.2.1 b hb'
  · rcases List.mem_cons.mp hb' with rfl | hb'
    · exact ⟨_, upd_same⟩
    · obtain ⟨o, e⟩ := S.b0 b hb'
      exact ⟨o, by rw [show (⟨a :: φ.B, φ.G0, upd φ.H0 a (.lst [.int n]), φ.Gm⟩ : Fx).H0 = upd φ.H0 a (.lst [.int n]) from rfl, upd_ne (ne_of_none e h2)]; exact e⟩
  · have hx : upd φ.H0 a (.lst [.int n]) x = some o := hx
    by_cases e : x = a
    · rw [e, upd_same] at hx
      cases hx
      exact ⟨_, by rw [e]; exact h3, .inl rfl⟩
    · rw [upd_ne e] at hx
      obtain ⟨o', q1, q2⟩ := S.st x o hx
      exact ⟨o', q1, q2.imp id fun z => ⟨List.mem_cons_of_mem _ z.1, z.2⟩⟩
  · have hx : upd φ.H0 a (.lst [.int n]) x = some o := hx
    by_cases e : x = a
    · rw [e, h1]
      exact (snone S.up h1).symm
    · rw [upd_ne e] at hx
      exact S.old x o hx
  · obtain ⟨q1, q2, q3⟩ := S.hid x (List.mem_cons_of_mem _ hx)
    refine ⟨q1, ?_, q3⟩
    show upd φ.H0 a (.lst [.int n]) x.1 = Option.none
    rw [upd_ne (fun e => nd.1 (List.mem_map.mpr ⟨x, hx, e⟩))]
    exact q2
theorem Stt.unbox {o : HO} (h2 : φ.H0 a = Option.none) (b0 : ∀ b ∈ φ.B, ∃ o, φ.H0 b = some o) (S : Stt ⟨a :: φ.B, φ.G0, upd φ.H0 a o, φ.Gm⟩ hs G H) : Stt φ hs G H := by
  refine ⟨S.ok.sub fun b hb => List.mem_cons_of_mem _ hb, b0, S.up, fun x u hx => ?_, fun x u hx => ?_, fun x hx => ?_, S.nd, S.mid⟩
  · have ne : x ≠ a := ne_of_none hx h2
    obtain ⟨o', q1, q2⟩ := S.st x u (show upd φ.H0 a o x = some u by rw [upd_ne ne]; exact hx)
    refine ⟨o', q1, q2.imp id fun z => ⟨(List.mem_cons.mp z.1).resolve_left ne, z.2⟩⟩
  · exact S.old x u (show upd φ.H0 a o x = some u by rw [upd_ne (ne_of_none hx h2)]; exact hx)
  · obtain ⟨q1, q2, q3⟩ := S.hid x hx
    refine ⟨q1, ?_, q3⟩
    have q2 : upd φ.H0 a o x.1 = Option.none := q2
    by_cases e : x.1 = a
    · rw [e]
      exact h2
    · rw [upd_ne e] at q2
      exact q2
theorem m_box (h : ∀ φ' : Fx, φ'.B = a :: φ.B → (∀ hs' G' H', Stt φ' hs' G' H' → Stt φ hs' G' H') → M X φ' ρ hs sts D) : M X φ ρ ((a, boxH K) :: hs) sts D := fun σ G H S kn => by
  obtain ⟨o, h2, S2⟩ := S.box
  exact h _ rfl (fun hs' G' H' S' => S'.unbox h2 S.b0) σ G H S2 kn
end
/-! ### comprehensions over one of several lists -/
section
variable {X : Cx} {B : List Addr} {φ : Fx} {hs : Hs} {rest : List Stmt} {D : Ends} {ρ ρ' : Rho} {tg iter elt : Expr} {ifs : List Expr} {scope : Scope} {own : List (Str × Nat)} {pos p : Pos} {α β : Type} {Pi : α → Pr} {keep : α → Bool} {res : α → Pr} {S : β → Prop} {PO : Pr}
theorem ss_setLcX {i : Nat} {y : Str} {py spos : Pos} (hc : X.calm = true) (hN : X.N.Nodup) (own : List (Str × Nat)) (hy : X.N[i]? = some y) (hyl : X.env.scope.names.lookup y = some .local) (hsw : swapsWith (.ListComp elt [⟨tg, iter, ifs, 0⟩] scope pos) (some (.Name y py)) spos.line X.env = pure true)
    (ok : BlkOk X.N X.env.scope scope own) (xsf : β → List α) (Pi : α → Pr) (keep : α → Bool) (res : α → Pr) (hsrc : Esx X B ρ tg iter S fun b => (xsf b).map Pi) (hz : ∀ b, S b → (xsf b).length ≤ 100000)
    (turn : ∀ b, S b → ∀ x ∈ xsf b, Turn1 X B ρ scope (own.map (·.2)) tg (Pi x) ifs elt (keep x) (res x)) (hP : ∀ b, S b → Imp (lP X.K (((xsf b).filter keep).map res)) PO) (hs0 : ∀ x, foldedSetIterable iter X.env x = pure x := by intro _; rfl) : Ss X B ρ (.Assign [.Name y py] (.ListComp elt [⟨tg, iter, ifs, 0⟩] scope pos) spos) (ρ.set i (some PO)) := by
  obtain ⟨wi, h1, h2⟩ := hsrc
  exact fun σ G H eg k D q => ps_ws (ps_setLc hc hN hy hyl hsw h1 ok bG_pg bT_pt bE_pe hs0) (h2 σ G H eg k _ fun b J H1 hb s1 wk => show tLc (fun _ H R => R J H) (bG X scope tg) (bT X scope ifs) (bE X scope elt) (own.map (·.2)) σ H1 (fun v H2 => D.nx (σ.set i (some v)) H2) from lc_read (wi := fun _ H R => R J H) (σ := σ) (G := ext G H H1) (H := H1) (ext_same eg s1) (k.up (ext_up eg)) (fun R r => r J H1 (Stp.refl _) (by rw [ext_refl (ext_same eg s1)]; exact wk)) (hz b hb) (turn b hb) fun v H2 s2 r => q _ H2 (s1.trans s2) (by
    rw [ext_trans eg s1 s2] at r
    exact (k.up (ext_up eg)).set i (hP b hb _ _ r)))
/-- y = [..], hidden books seen -/
theorem sm_setLcB {i : Nat} {y : Str} {py spos : Pos} {C : Addr} {bs : List Bk} {xs : List α} (hb : ∀ b ∈ bs, bkHP X.K C b ∈ hs) (hρ : SeeB X.K C bs ρ ρ') (hc : X.calm = true) (hN : X.N.Nodup) (own : List (Str × Nat)) (hy : X.N[i]? = some y) (hyl : X.env.scope.names.lookup y = some .local) (hsw : swapsWith (.ListComp elt [⟨tg, iter, [], 0⟩] scope pos) (some (.Name y py)) spos.line X.env = pure true)
    (ok : BlkOk X.N X.env.scope scope own) (xs : List α) (Pi : α → Pr) (g : α → PyData) (hsrc : Es X φ.B ρ' tg iter (xs.map Pi)) (hz : xs.length ≤ 100000)
    (turn : ∀ x ∈ xs, Turn1 X φ.B ρ' scope (own.map (·.2)) tg (Pi x) [] elt true (dP X.K (g x))) (hs0 : ∀ x, foldedSetIterable iter X.env x = pure x := by intro _; rfl) : Sm X φ ρ hs (.Assign [.Name y py] (.ListComp elt [⟨tg, iter, [], 0⟩] scope pos) spos) (fun σ G H => Stt φ hs G H ∧ Kn σ G (ρ.set i (some (dP X.K (.list (xs.map g)))))) := by
  obtain ⟨wi, h1, h2⟩ := hsrc
  refine fun D σ G H St k q => ?_
  obtain ⟨u, ok2, sb, ins⟩ := St.books hb
  have k2 := hρ σ G _ u k sb
  refine ps_ws (ps_setLc hc hN hy hyl hsw h1 ok bG_pg bT_pt bE_pe hs0) (lc_read ok2 k2 (h2 σ _ H ok2 k2) hz (keep := fun _ => true) (res := fun x => dP X.K (g x)) turn fun v H2 s r => ?_)
  have e : (xs.filter fun _ => true).map (fun x => dP X.K (g x)) = (xs.map g).map (dP X.K) := by
    rw [List.filter_eq_self.mpr fun _ _ => rfl, List.map_map]
    rfl
  rw [e] at r
  exact q _ _ H2 (ext_up St.ok) ⟨St.ev s, (k.up (ext_up St.ok)).set i (dp_upT (sameT_books ins) _ v (imp_dl v _ r))⟩
end
section
variable {X : Cx} {φ : Fx} {ρ : Rho} {hs : Hs} {body rest : List Stmt} {D : Ends} {o a c : Expr} {P : Pr} {Ps : List Pr} {pos apos cpos : Pos}
/-- o.append(a), o a new list that nobody holds -/
theorem em_appendNew (hl : Ps.length < 100000) (ho : Em X φ ρ hs o (fun v G H => ∃ d, v = .ref d ∧ Stt φ ((d, lHP Ps) :: hs) G H)) (ha : Ed X φ.B ρ a P)
    (hbase : attributeBase o "append" X.env (eval o X.env) = eval o X.env := by rfl)
    (hfew : ((backTo cpos (starEach [a] X.env)).all (fun x => !x.1) && (backToKw cpos (keywordEach [] X.env)).all (fun x => x.1.isSome)
      && decide (([a] : List Expr).length + ([] : List Keyword).length + (if ([] : List Keyword).isEmpty then 0 else 1) < 30)) = true := by rfl)
    (hline : (apos.endLine == cpos.line) = true := by rfl) (hs1 : starEach [a] X.env = (false, eval a X.env) :: starEach [] X.env := by rfl) (hplain : (backTo cpos (starEach [] X.env)).any (·.1) = false := by rfl) :
    Em X φ ρ hs (.Call (.Attribute o "append" apos) [a] [] cpos) (fun v G H => Stt φ hs G H ∧ v = .non) := fun σ G H S k Q z =>
  pe_we (pe_bm PySem.F.plainAttrs_list PySem.F.slot_list_append PySem.F.type_list_append mt_append we_pe (pa_cons we_pe pa_nil hs1) hbase hfew hline hs1 hplain) (ho σ G H S k _ fun x G1 H1 s1 f1 => by
    obtain ⟨d, rfl, S1⟩ := f1
    obtain ⟨o1, ho1, xs1, rfl, hk1⟩ := S1.get (i := 0) rfl
    refine ⟨.inl ⟨rfl, xs1, .of ho1⟩, ?_⟩
    refine ha σ _ H1 S1.ok (k.up s1) _ fun y H2 s2 r2 => ?_
    have S2 := S1.ev s2
    obtain ⟨o1, ho1, xs1, rfl, hk1⟩ := S2.get (i := 0) rfl
    have hlen : xs1.length < 100000 := by rw [← hk1.len]; exact hl
    have S3 := S2.put (i := 0) (q' := lHP (Ps ++ [P])) (o := .lst (xs1 ++ [y])) rfl ⟨_, rfl, hk1.snoc r2⟩
    exact ⟨d, xs1, y, rfl, rfl, ho1, Nat.lt_of_lt_of_le hlen (small (Nat.le_refl _)), z _ _ _ (s1.trans (ext_up S1.ok)) ⟨S3.sub (List.sublist_cons_self _ _), rfl⟩⟩)
/-- while, the test changes hidden things -/
theorem m_whileM {γ : Type} (hp : PassesOwn (model X.prog X.w) X.A X.env X.xe) (C : γ → Prop) (μ : γ → Nat) (Step : γ → Bool → γ → Prop) (hsf : γ → Hs) (z0 : γ) (c0 : C z0) (S0 : ∀ G H, Stt φ hs G H → Stt φ (hsf z0) G H)
    (test : ∀ z, C z → ∀ (σ : L2.St) (G H : Hp), Stt φ (hsf z) G H → Kn σ G ρ → ∀ Q : Bool → Hp → Prop, (∀ k z' G2 H2, Step z k z' → Same G G2 → Stt φ (hsf z') G2 H2 → Q k H2) → WT X c σ H Q)
    (turn : ∀ z z', C z → Step z true z' → C z' ∧ μ z' < μ z ∧ ∀ D' : Ends, D'.rt = D.rt → (∀ σ' G' H', Stt φ (hsf z') G' H' → Kn σ' G' ρ → D'.nx σ' H') → M X φ ρ (hsf z') body D')
    (done : ∀ z z', C z → Step z false z' → M X φ ρ (hsf z') rest D) : M X φ ρ hs (.While c body [] pos :: rest) D := by
  intro σ G H S kn
  refine ps_wb (pss_cons (ps_while hp wt_pt wb_ps) wb_ps) ⟨fun m σ H => ∃ z G, m = μ z ∧ C z ∧ Stt φ (hsf z) G H ∧ Kn σ G ρ, ⟨_, z0, G, rfl, c0, S0 G H S, kn⟩, ?_⟩
  rintro m σ2 H2 ⟨z, G2, rfl, c2, S2, k2⟩
  refine test z c2 σ2 G2 H2 S2 k2 _ fun b z' G3 H3 st e3 S3 => ?_
  cases b with
  | true =>
    rw [if_pos rfl]
    obtain ⟨c3, lt, t3⟩ := turn z z' c2 st
    refine ⟨fun σ' H' => ∃ G', Stt φ (hsf z') G' H' ∧ Kn σ' G' ρ, fun σ' H' ⟨G', q3, q4⟩ => ⟨μ z', lt, z', G', rfl, c3, q3, q4⟩, t3 _ ?_ ?_ σ2 G3 H3 S3 (k2.up e3)⟩
    · rfl
    · exact fun σ' G' H' q3 q4 => ⟨G', q3, q4⟩
  | false =>
    rw [if_neg Bool.false_ne_true]
    exact done z z' c2 st σ2 G3 H3 S3 (k2.up e3)
end
/-! ### what is compared -/
theorem okD_place {h : Nat} {st : State} {mark day : Int} : okD (placeD h st mark day) 4 := by
  have sx : ∀ {x : Str}, PyData.strOk x = true → okD (.str x) 3 := fun h => okD_str h 3
  unfold placeD
  split
  · refine okD_tup (n := 3) fun d hd => ?_
    rw [List.mem_singleton.mp hd]
    exact sx (by decide +kernel)
  · split
    · refine okD_tup (n := 3) fun d hd => ?_
      simp only [List.mem_cons, List.not_mem_nil, or_false] at hd
      rcases hd with rfl | rfl
      · exact sx (by decide +kernel)
      · exact okD_tup (n := 2) fun d hd => by
          obtain ⟨x, rfl⟩ := drifted_cells d hd
          exact (okD_cD x 0).up (by decide)
    · refine okD_tup (n := 3) fun d hd => ?_
      simp only [List.mem_cons, List.not_mem_nil, or_false] at hd
      rcases hd with rfl | rfl
      · exact sx (by decide +kernel)
      · exact (okD_cD _ 0).up (by decide)
theorem okD_open {sea : Sea} {ms : Marks} {draught : Int} {night : Bool} : okD (.tuple (openD sea ms draught night)) 2 := okD_tup (n := 1) fun d hd => by
  obtain ⟨q, _, rfl⟩ := List.mem_map.mp hd
  exact okD_tup (n := 0) fun d hd => by
    obtain ⟨r, _, rfl⟩ := List.mem_map.mp hd
    exact okD_int _ _
section
variable {P : Program} {w : World} {K : PySem.W.Frag} {mg : Str → Option Value} {base : Heap} {C : Addr}
/-- notices_now(), the list the asker's own -/
theorem m_notices_new (T : TX K mg) (BK : BkOk K mg C) (MT2 : MetT K C "notices_now" "Book.notices_now" s_Book_notices_now) : CalM P w K mg base C 1 "notices_now" ["self"] (spM (α := Bk) (fun _ => []) (fun _ => True) (fun b => [eP (.ref b.a)]) (fun b => hsB K C b) fun b v _ hs' => ∃ d, v = .ref d ∧ hs' = (d, lHP ((b.kept.map noticeD).map (dP K))) :: hsB K C b) := by
  obtain ⟨f, fd, hm, F⟩ := MT2
  refine ⟨f, fd, hm, F.bindsN fun _ _ _ _ _ _ us hl => match us, hl with | [_], _ => rfl, fn_mkM F sc_Book_notices_now (fun _ => rfl) fun cdv A outer s H E hr b hz φ D hB hD hN => ?_⟩
  refine m_ret (em_listNewE (Ps := (b.kept.map noticeD).map (dP K)) (by rfl) T.z_list (em_w (fun v G H ⟨S, r⟩ => ⟨S, imp_ld v G r⟩) (em_fld (i := 0) (P := notP K b.kept) BK.cls BK.n2 rfl (by rfl) (em_ref (ed_var 0))))) fun v G H ⟨d, e, S⟩ => hD v G H _ S ⟨d, e, rfl⟩
end
end Lk

/-! Da24: a set of one of several lists, sorted; what the law's books keep to. -/
namespace Lk
open PySem PySem.Spec PyProof.Rows L2 PySem.W
theorem num_key {sea : Sea} {h : Nat} {ns : List Notice} (N : DrawnOk sea h ns) : ∀ a ∈ ns, ∀ b ∈ ns, a.num = b.num → a = b := by
  obtain ⟨os, _, nd, sub⟩ := N.few
  exact fun a ha b hb e => nd_inj nd a (sub a ha) b (sub b hb) e
/-- what a set of drawn notices may hold -/
theorem sub_drawn {sea : Sea} {h : Nat} {ns : List Notice} (N : DrawnOk sea h ns) {ds : List PyData} (hs : SubOf (ns.map noticeD) ds) : ∃ ms : List Notice, ms.map noticeD = ds ∧ (∀ m ∈ ms, m ∈ ns) ∧ (ms.map (·.num)).Nodup ∧ ms.length ≤ 20 := by
  obtain ⟨ms, rfl, sub⟩ := map_pre (f := noticeD) (ks := ns) hs.sub
  have nd : (ms.map (·.num)).Nodup := by
    have h1 := hs.nd
    rw [List.map_map] at h1
    refine List.pairwise_map.mpr ((List.pairwise_map.mp h1).imp_of_mem fun {a b} ha hb hab e => hab ?_)
    rw [num_key N a (sub a ha) b (sub b hb) e]
  refine ⟨ms, rfl, sub, nd, ?_⟩
  obtain ⟨os, l20, _, so⟩ := N.few
  have pos : ∀ m ∈ ms, 1 ≤ m.num := fun m hm => (N.ok m (sub m hm)).n1
  have h1 : (ms.map fun m => m.num.toNat).Nodup := List.pairwise_map.mpr ((List.pairwise_map.mp nd).imp_of_mem fun {a b} ha hb hab e => hab (by
    have := pos a ha
    have := pos b hb
    omega))
  have := nat_nodup_len _ (os.map fun m => m.num.toNat) h1 fun x hx => by
    obtain ⟨m, hm, rfl⟩ := List.mem_map.mp hx
    exact List.mem_map.mpr ⟨m, so m (sub m hm), rfl⟩
  rw [List.length_map, List.length_map] at this
  omega
section
variable {X : Cx} {B : List Addr} {ρ : Rho} {e : Expr} {pos p : Pos} {sea : Sea} {h : Nat}
theorem ed_setX (hc : X.calm = true) (hu : X.A.units + 64 < cLine) (hg : Gl X "set") (hm : X.mg "set" = none) (ha : Ed X B ρ e (xP (DrawnOk sea h) fun ns => notP X.K ns)) (he : starEach [e] X.env = (false, eval e X.env) :: starEach [] X.env := by rfl) :
    Ed X B ρ (.Call (.Name "set" p) [e] [] pos) (xP (DrawnOk sea h) fun ns => setP X.w (ns.map noticeD)) :=
  ed_callTy (cr_setN hc hu) hg hm (by decide +kernel) (ea_cons ha ea_nil he) (fun vs G H eg r1 Q z => by
    obtain ⟨v, rfl, ns, N, h1⟩ := allp1 r1
    have hd := mem_notices ns
    have h1 : Dh G v (.list (ns.map noticeD)) := h1
    have hl : (ns.map noticeD).length < 64 := by
      have := N.len
      rw [List.length_map]
      omega
    generalize hds : ns.map noticeD = ds at h1 hd hl
    cases h1 with
    | @lst l xs _ h2 h3 =>
      obtain ⟨ks, rfl, rfl, hk⟩ := refs_of (fun d h => (hd d h).1) h3
      refine ⟨l, ks, rfl, sql_up eg.1 h2, fun p hp => ⟨dh_dp eg.1 _ _ (hk p hp), (hd _ (List.mem_map.mpr ⟨p, hp, rfl⟩)).2⟩, by rw [List.length_map] at hl; exact hl, fun a L hn s1 s2 s3 s4 => z _ _ (stp_new hn) ⟨ns, N, ?_⟩⟩
      rw [ext_new eg hn]
      show (setP X.w (ns.map noticeD)).p (V.ref a) (upd G a (SetNO X.w a L))
      rw [hds]
      have u := snew (snone eg.1 hn) (o := SetNO X.w a L)
      refine ⟨a, L, rfl, upd_same, fun p hp => dp_up u _ _ (hk p (s1 p hp)), ⟨fun d h => ?_, ?_, fun d h => ?_, by rw [List.length_map, List.length_map]; exact s4⟩⟩
      · obtain ⟨p, hp, rfl⟩ := List.mem_map.mp h
        exact List.mem_map.mpr ⟨p, s1 p hp, rfl⟩
      · rw [List.map_map]
        exact s2
      · obtain ⟨p, hp, rfl⟩ := List.mem_map.mp h
        obtain ⟨q, hq, eq⟩ := s3 p hp
        exact ⟨q.2, List.mem_map.mpr ⟨q, hq, rfl⟩, eq⟩) (by decide) (by decide) he
/-- notices of the law, sorted -/
structure SrcOk (sea : Sea) (h : Nat) (ms : List Notice) : Prop where
  len : ms.length ≤ 20
  ok : ∀ n ∈ ms, NoticeOk sea h n
  nd : (ms.map (·.num)).Nodup
theorem ed_sortedSetX (hc : X.calm = true) (hu : X.A.units + 64 < cLine) (hg : Gl X "sorted") (hm : X.mg "sorted" = none) (ha : Ed X B ρ e (xP (DrawnOk sea h) fun ns => setP X.w (ns.map noticeD))) (he : starEach [e] X.env = (false, eval e X.env) :: starEach [] X.env := by rfl) :
    Ed X B ρ (.Call (.Name "sorted" p) [e] [] pos) (xP (SrcOk sea h) fun ms => notP X.K ms) :=
  ed_callB (cr_sortedN hc hu) hg hm (by decide +kernel) (ea_cons ha ea_nil he) (fun vs G H eg r1 Q z => by
    obtain ⟨v, rfl, ns, N, a, L, rfl, h2, h3, h4⟩ := allp1 r1
    have hd := mem_notices ns
    have sp : ∀ L' : List DRow, L'.Perm L → SubOf (ns.map noticeD) (L'.map (·.2)) := fun L' pm => by
      have pm2 := pm.map (·.2)
      refine ⟨fun d h => h4.sub d (pm2.mem_iff.mp h), (pm2.map keyOf).nodup_iff.mpr h4.nd, fun d h => ?_, by rw [pm2.length_eq]; exact h4.len⟩
      obtain ⟨e, e1, e2⟩ := h4.all d h
      exact ⟨e, pm2.mem_iff.mpr e1, e2⟩
    have can : ∀ L' : List DRow, L'.Perm L → CanSort (L'.map (·.2)) firstLe := fun L' pm => by
      obtain ⟨ms, e, sub, nd, _⟩ := sub_drawn N (sp L' pm)
      rw [← e]
      exact can_firsts (firsts_notices (nd_inj nd))
    refine ⟨a, L, firstLe, rfl, eg.1 _ _ h2, fun p hp => ⟨dh_dp eg.1 _ _ (h3 p hp), (hd _ (h4.sub _ (List.mem_map.mpr ⟨p, hp, rfl⟩))).2⟩, can, fun q L' pm hq => z _ _ (stp_new hq) ?_⟩
    obtain ⟨ms, e, sub, nd, l20⟩ := sub_drawn N (sp L' pm)
    refine ⟨ms.mergeSort numLe, ⟨by rw [sort_len]; exact l20, fun n hn => N.ok n (sub n ((List.mergeSort_perm _ _).mem_iff.mp hn)), (sort_nums ms).nodup_iff.mpr nd⟩, ?_⟩
    rw [ext_new eg hq]
    have u := snew (snone eg.1 hq) (o := HO.lst ((sortZ firstLe (L'.map fun q => V.ref q.1) (L'.map (·.2))).map (·.1)))
    have key : Dh (upd G q (HO.lst ((sortZ firstLe (L'.map fun q => V.ref q.1) (L'.map (·.2))).map (·.1)))) (.ref q) (.list ((L'.map (·.2)).mergeSort firstLe)) := by
      refine .lst upd_same (dpa_up u _ _ (sortZ_dha ?_))
      have gen : ∀ l : List DRow, (∀ p ∈ l, p ∈ L) → DhAll G (l.map fun q => V.ref q.1) (l.map (·.2)) := by
        intro l
        induction l with
        | nil => intro _; exact .nil
        | cons p l ih => exact fun hl => .cons (h3 p (hl p List.mem_cons_self)) (ih fun q hq => hl q (List.mem_cons_of_mem _ hq))
      exact gen L' fun p hp => pm.mem_iff.mp hp
    have es : (L'.map (·.2)).mergeSort firstLe = (ms.mergeSort numLe).map noticeD := by rw [← e, sort_notices]
    rw [es] at key
    exact key) (by decide) (by decide) he
end
section
variable {X : Cx} {B : List Addr} {ρ : Rho} {tg iter elt : Expr} {ifs : List Expr} {scope : Scope} {own : List (Str × Nat)} {pos p : Pos} {α β : Type} {S : β → Prop} {PO : Pr}
theorem ed_compX (hc : X.calm = true) (hN : X.N.Nodup) (own : List (Str × Nat)) (ok : BlkOk X.N X.env.scope scope own) (xsf : β → List α) (Pi : α → Pr) (keep : α → Bool) (res : α → Pr) (hsrc : Esx X B ρ tg iter S fun b => (xsf b).map Pi) (hz : ∀ b, S b → (xsf b).length ≤ 100000)
    (turn : ∀ b, S b → ∀ x ∈ xsf b, Turn1 X B ρ scope (own.map (·.2)) tg (Pi x) ifs elt (keep x) (res x)) (hP : ∀ b, S b → Imp (lP X.K (((xsf b).filter keep).map res)) PO) (hs0 : ∀ x, foldedSetIterable iter X.env x = pure x := by intro _; rfl) : Ed X B ρ (.ListComp elt [⟨tg, iter, ifs, 0⟩] scope pos) PO := by
  obtain ⟨wi, h1, h2⟩ := hsrc
  exact fun σ G H eg k Q q => pe_we (pe_lc hc hN h1 ok bG_pg bT_pt bE_pe hs0) (h2 σ G H eg k _ fun b J H1 hb s1 wk => show tLc (fun _ H R => R J H) (bG X scope tg) (bT X scope ifs) (bE X scope elt) (own.map (·.2)) σ H1 Q from lc_read (wi := fun _ H R => R J H) (σ := σ) (G := ext G H H1) (H := H1) (ext_same eg s1) (k.up (ext_up eg)) (fun R r => r J H1 (Stp.refl _) (by rw [ext_refl (ext_same eg s1)]; exact wk)) (hz b hb) (turn b hb) fun v H2 s2 r => q v H2 (s1.trans s2) (by
    rw [ext_trans eg s1 s2] at r
    exact hP b hb _ _ r))
end
/-! ### maths -/
theorem sort_filter {ns : List Notice} {p : Notice → Bool} (h : (ns.map (·.num)).Nodup) : (ns.filter p).mergeSort numLe = (ns.mergeSort numLe).filter p := by
  refine perm_sorted (f := (·.num)) ?_ (numLe_pw _) ((numLe_pw ns).filter p) fun a ha b hb e => ?_
  · exact (List.mergeSort_perm _ _).trans ((List.mergeSort_perm ns numLe).symm.filter p)
  · have m : ∀ x ∈ (ns.filter p).mergeSort numLe, x ∈ ns := fun x hx => (List.mem_filter.mp ((List.mergeSort_perm _ _).mem_iff.mp hx)).1
    exact nd_inj h a (m a ha) b (m b hb) e
theorem sort_sort {ns : List Notice} (h : (ns.map (·.num)).Nodup) : (ns.mergeSort numLe).mergeSort numLe = ns.mergeSort numLe := sort_perm (List.mergeSort_perm _ _) h
theorem gone_held {h : Nat} {sea : Sea} {ns : List Notice} {held day : Int} (nd : (ns.map (·.num)).Nodup) (lt : ∀ n ∈ ns, n.num < 99) : goneF h sea ((ns.filter fun n => decide (n.num ≤ held)).mergeSort numLe) 99 day = goneF h sea (ns.mergeSort numLe) held day := by
  unfold goneF heldN
  have nd2 : ((ns.filter fun n => decide (n.num ≤ held)).map (·.num)).Nodup := nd.sublist (List.filter_sublist.map _)
  rw [sort_sort nd, sort_sort nd2, sort_filter nd]
  have e : ((ns.mergeSort numLe).filter fun n => decide (n.num ≤ held)).filter (fun n => decide (n.num ≤ 99)) = (ns.mergeSort numLe).filter fun n => decide (n.num ≤ held) := by
    rw [List.filter_eq_self]
    intro n hn
    have := lt n ((List.mergeSort_perm _ _).mem_iff.mp (List.mem_filter.mp hn).1)
    exact decide_eq_true (by omega)
  rw [e]
theorem restrike {ns : List Notice} {n : Notice} (nd : (ns.map (·.num)).Nodup) (hn : n ∈ ns) : ((((ns.mergeSort numLe).filter fun m => !decide (m.num = n.num)).mergeSort numLe) ++ [n]).mergeSort numLe = ns.mergeSort numLe := by
  refine sort_perm ?_ nd
  have p1 : (((ns.mergeSort numLe).filter fun m => !decide (m.num = n.num)).mergeSort numLe).Perm (ns.filter fun m => !decide (m.num = n.num)) := (List.mergeSort_perm _ _).trans ((List.mergeSort_perm _ _).filter _)
  refine (p1.append_right [n]).trans ?_
  have key : ∀ l : List Notice, (l.map (·.num)).Nodup → n ∈ l → ((l.filter fun m => !decide (m.num = n.num)) ++ [n]).Perm l := by
    intro l
    induction l with
    | nil => intro _ h; cases h
    | cons x l ih =>
      intro hd hm
      rw [List.map_cons] at hd
      obtain ⟨h1, h2⟩ := List.nodup_cons.mp hd
      rcases List.mem_cons.mp hm with rfl | hm
      · have e : (n :: l).filter (fun m => !decide (m.num = n.num)) = l := by
          rw [List.filter_cons_of_neg (by simp), List.filter_eq_self]
          intro m hm
          have : m.num ≠ n.num := fun e => h1 (List.mem_map.mpr ⟨m, hm, e⟩)
          simp [this]
        rw [e]
        exact List.perm_append_singleton _ _
      · have ne : x.num ≠ n.num := fun e => h1 (List.mem_map.mpr ⟨n, hm, e.symm⟩)
        rw [List.filter_cons_of_pos (by simp [ne])]
        exact (ih h2 hm).cons x
  exact key ns nd hn
theorem gone_nil {h : Nat} {sea : Sea} {held last : Int} : goneF h sea [] held last = ((sea, []), []) := by
  unfold goneF heldN
  simp
theorem place_nil {h : Nat} {sea : Sea} {mark day : Int} : placeD h ((sea, []) : State) mark day = .tuple [.str "ashore"] := by
  unfold placeD getM
  rfl
theorem voids_nil : voidsD [] = [] := by
  unfold voidsD
  simp
theorem fill_src {sea : Sea} {h : Nat} {ms : List Notice} (M : SrcOk sea h ms) : FillOk sea h (ms.filter fun n => decide (n.num < 99)) := ⟨Nat.le_trans (List.length_filter_le _ _) M.len, fun n hn => M.ok n (List.mem_filter.mp hn).1, M.nd.sublist (List.filter_sublist.map _), fun n hn => of_decide_eq_true (List.mem_filter.mp hn).2⟩
theorem fill_held {sea : Sea} {h : Nat} {ns : List Notice} {held : Int} (F : FillOk sea h ns) : FillOk sea h (ns.filter fun n => decide (n.num ≤ held)) := ⟨Nat.le_trans (List.length_filter_le _ _) F.len, fun n hn => F.ok n (List.mem_filter.mp hn).1, F.nd.sublist (List.filter_sublist.map _), fun n hn => F.lt n (List.mem_filter.mp hn).1⟩
theorem fill_kept {sea : Sea} {h : Nat} {ns : List Notice} (F : FillOk sea h ns) : NoticesOk sea h (ns.mergeSort numLe) := ⟨by rw [sort_len]; have := F.len; omega, fun n hn => F.ok n ((List.mergeSort_perm _ _).mem_iff.mp hn), (sort_nums ns).nodup_iff.mpr F.nd⟩
theorem eqv_self {d : PyData} {n : Nat} (h : okD d n) : (!PyData.eqv d d) = false := by
  rw [PySem.SeqAt.eqv_refl d h.1]
  rfl
end Lk

/-! W20: the law's own defs: the end of _law_right: one book struck, taken in again, undone to the end. -/
namespace Lk
open PySem PySem.Spec PyProof.Rows L2 PySem.W
theorem undo_call {env : Env} {y : Str} {p1 p2 p3 : Pos} (hl : (p2.endLine == p3.line) = true) : eval (.Call (.Attribute (.Name y p1) "undo" p2) [] [] p3) env = (do
      let ov ← eval (.Name y p1) env
      standAt p2.atName
      let (f, first) ← holding [ov] (getMethod ov "undo" (plainOf (.Name y p1) env))
      callWith p3 f first (backTo p3 (starEach [] env)) (backToKw p3 (keywordEach [] env))) := by
  have e : eval (.Call (.Attribute (.Name y p1) "undo" p2) [] [] p3) env = (do
      let ov ← eval (.Name y p1) env
      standAt p2.atName
      methodCall (.Name y p1) "undo" p2 p3 env ov 0 (backTo p3 (starEach [] env)) (backToKw p3 (keywordEach [] env))) := by rfl
  rw [e]
  refine congrArg _ (funext fun ov => ?_)
  refine congrArg _ (funext fun _ => ?_)
  exact mcall_line rfl hl
abbrev oneL : Scope := { kind := .function, names := [("_law_one", .free)], isGenerator := false, isCoroutine := false, more := [] }
theorem lamS_one : LamX.LamS (defScope s__law_right) oneL := LamX.lamS_by (by decide +kernel)
structure GoodB (sea : Sea) (h : Nat) (ns : List Notice) (b : Bk) : Prop where
  sea : b.sea = sea
  h : b.h = h
  kept : b.kept = ns.mergeSort numLe
  good : BkGood b 60
abbrev qR : Str := ("_law_right" : Str) ++ ".<locals>." ++ "<lambda>"
section
variable {P : Program} {w : World} {K : PySem.W.Frag} {mg : Str → Option Value} {base : Heap} {C CN CM PT c : Addr}
abbrev rX (P : Program) (w : World) (K : PySem.W.Frag) (mg : Str → Option Value) (base : Heap) (f : Addr) (cdv : Value) (A : Around) (outer : List Env) (s : Shared) (H : Hp) (E : XK) : Cx := (cxOf CX0 P w K mg base n__law_right "_law_right" (defScope s__law_right) f cdv A outer s H E).nox
/-- what is known of the whole -/
structure All (P : Program) (w : World) (K : PySem.W.Frag) (mg : Str → Option Value) (base : Heap) (C CN CM PT c : Addr) : Prop where
  T : TX K mg
  DK : DeedsOk K w mg
  BK : BkOk K mg C
  BM : BkMet K C
  BI : BkInit K C
  EX : ExOk K mg CN CM
  TB : LamX.TabB base mg c PT
/-- the books that stand, one of them apart -/
structure Pick (K : PySem.W.Frag) (C : Addr) (sea : Sea) (h : Nat) (ns : List Notice) (ps : List Pr) (b : Bk) (R : Hs) (cs : Bk → List Bk) : Prop where
  g : GoodB sea h ns b
  at_ : ∀ x : Bk, x.a = b.a → ps = (cs x).map fun y => eP (.ref y.a)
  mem : ∀ x : Bk, ∀ y ∈ cs x, y = x ∨ (GoodB sea h ns y ∧ bkHP K C y ∈ R)
  two : ∀ (x : Bk) (f : Bk → Bool), (∀ y, GoodB sea h ns y → f y = true) → 2 ≤ ((cs x).map f).count true
  len : ∀ x : Bk, (cs x).length = 3
abbrev rS (K : PySem.W.Frag) (box : Addr) (sea : Sea) (ns : List Notice) (sl3 : Option Pr) (d : Int) (ps : List Pr) (s0 : Str) (held : Int) (ea : Pr) (one : Addr) : Rho := [some (eP (.ref box)), some (dP K (seaD sea)), some (notP K ns), sl3, some (dP K (.list [.int d, .int 400])), some (lP K ps), none, some (dP K (.list [.str s0, .str s0, .str s0])), none, some (dP K (.int held)), some ea, none, some (eP (.ref one))]
end
end Lk

/-! W21: the end of _law_right: undone to the end. -/
namespace Lk
open PySem PySem.Spec PyProof.Rows L2 PySem.W
section
variable {P : Program} {w : World} {K : PySem.W.Frag} {mg : Str → Option Value} {base : Heap} {C CN CM PT c : Addr}
/-- the test of the while: the last undone, or nothing to undo -/
theorem said_test (AL : All P w K mg base C CN CM PT c) {f : Addr} {A : Around} {outer : List Env} {s : Shared} {H : Hp} {E : XK} (hr : Room 11 (A.deeper (envOfC "_law_right" (defScope s__law_right) s.heap.objs.size f (.ref c))))
    {φ : Fx} {ρ : Rho} {R : Hs} {z : Bk} {σ : L2.St} {G0 H0 : Hp} {p lpos pos p1 p2 p3 q1 q2 cpos : Pos} {j0 : Nat} (hl : (p2.endLine == p3.line) = true) (hρ : ρ[12]? = some (some (eP (.ref z.a)))) (zg : BkGood z 60) (St : Stt φ (hsB K C z ++ (PT, tabHP qR) :: R) G0 H0) (kn : Kn σ G0 ρ) {Q : Bool → Hp → Prop}
    (q : ∀ k z' G2 H2, ((k = true ∧ ∃ n q, z.past = q ++ [n] ∧ z' = { z with kept := n, past := q }) ∨ (k = false ∧ z.past = [] ∧ z' = z)) → Same G0 G2 → Stt φ (hsB K C z' ++ (PT, tabHP qR) :: R) G2 H2 → Q k H2) :
    WT (rX P w K mg base f (.ref c) A outer s H E) (.Compare (.Call (.Name "_law_said" p) [.Lambda noArgs (.Call (.Attribute (.Name "_law_one" p1) "undo" p2) [] [] p3) oneL lpos] [] pos) [.Eq] [.List [.Constant .none j0 q1] q2] cpos) σ H0 Q := by
  have hu := hr.units
  have right : ∀ (G2 H2 : Hp), Stt φ (hsB K C z ++ (PT, tabHP qR) :: R) G2 H2 → True := fun _ _ _ => trivial
  refine pt_wt (pt_cmpR (op_eqD hu) we_pe we_pe (nomark _)) (em_said (X := rX P w K mg base f (.ref c) A outer s H E) (b := z) (i := 12) (y := "_law_one") (oth := R) (scope := oneL) AL.T AL.BK AL.BM AL.EX AL.TB rfl (hr.mono (by decide)) lamS_one rfl (.inr (.inr rfl)) (by decide) (by decide) (by rfl) (List.Perm.refl _) hρ zg.past (Nat.le_trans zg.few (by decide)) (fun A outer s H E fl cl => ⟨_, undo_call hl⟩) σ G0 H0 St kn _ fun v G2 H2 s2 f2 => ?_)
  have lst : ∀ (hs' : Hs), Stt φ hs' G2 H2 → ∀ Q : VK, (∀ y H3, Stp φ.B H2 H3 → (dP K (.list [.none])).p y (ext G2 H2 H3) → Q y H3) → WE (rX P w K mg base f (.ref c) A outer s H E) (.List [.Constant .none j0 q1] q2) σ H2 Q := fun hs' S2 Q hq =>
    ed_lstd (X := rX P w K mg base f (.ref c) A outer s H E) (ds := [.none]) (ea_cons ed_non ea_nil) (by simp) σ G2 H2 S2.ok (kn.up s2) Q hq
  rcases f2 with ⟨hp, S2, r2⟩ | ⟨n, q', hp, S2, r2⟩
  · refine lst _ S2 _ fun y H3 s3 r3 => ?_
    have S3 := S2.ev s3
    exact ⟨.tuple [.str "nothing"], .list [.none], dh_dp ((ext_up S2.ok).trans S3.ok.1) _ _ r2, dh_dp S3.ok.1 _ _ r3, by decide +kernel, by rfl, false, by simp [PyData.eqv], q false z _ H3 (.inr ⟨rfl, hp, rfl⟩) (s2.trans (ext_up S2.ok)) S3⟩
  · refine lst _ S2 _ fun y H3 s3 r3 => ?_
    have S3 := S2.ev s3
    exact ⟨.list [.none], .list [.none], dh_dp ((ext_up S2.ok).trans S3.ok.1) _ _ r2, dh_dp S3.ok.1 _ _ r3, by rfl, by rfl, true, by simp [PyData.eqv, PyData.eqvAll], q true _ _ H3 (.inl ⟨rfl, n, q', hp, rfl⟩) (s2.trans (ext_up S2.ok)) S3⟩
end
end Lk

/-! W22: the end of _law_right: from the while on. -/
namespace Lk
open PySem PySem.Spec PyProof.Rows L2 PySem.W
section
variable {P : Program} {w : World} {K : PySem.W.Frag} {mg : Str → Option Value} {base : Heap} {C CN CM PT c : Addr}
theorem pick_see {sea : Sea} {h : Nat} {ns : List Notice} {ps : List Pr} {b : Bk} {R : Hs} {cs : Bk → List Bk} {t : Addr × HP} (PK : Pick K C sea h ns ps b R cs) (x : Bk) : ∀ y ∈ cs x, bkHP K C y ∈ hsB K C x ++ t :: R := fun y hy => by
  rcases PK.mem x y hy with rfl | ⟨_, hm⟩
  · exact List.mem_append_left _ List.mem_cons_self
  · exact List.mem_append_right _ (List.mem_cons_of_mem _ hm)
theorem pick_seen {sea : Sea} {h : Nat} {ns : List Notice} {ps : List Pr} {b : Bk} {R : Hs} {cs : Bk → List Bk} {box one : Addr} {sl3 : Option Pr} {d held : Int} {s0 : Str} {ea : Pr} (PK : Pick K C sea h ns ps b R cs) (x : Bk) (hx : x.a = b.a) :
    SeeB K C (cs x) (rS K box sea ns sl3 d ps s0 held ea one) [some (eP (.ref box)), some (dP K (seaD sea)), some (notP K ns), sl3, some (dP K (.list [.int d, .int 400])), some (lP K ((cs x).map fun y => bookP K C y.sea y.kept)), none, some (dP K (.list [.str s0, .str s0, .str s0])), none, some (dP K (.int held)), some ea, none, some (eP (.ref one))] := by
  refine SeeB.list 5 (cs := cs x) (SeeB.refl _) ?_ fun _ h => h
  rw [← PK.at_ x hx]
  rfl
theorem days_ok {d : Int} (hd : 0 ≤ d ∧ d < 30) : ([d, 400] : List Int).length ≤ 10 ∧ ∀ x ∈ ([d, 400] : List Int), 0 ≤ x ∧ x ≤ 400 := ⟨by simp, fun x hx => by
  simp only [List.mem_cons, List.not_mem_nil, or_false] at hx
  rcases hx with rfl | rfl <;> omega⟩
/-- behind the while -/
theorem right_end (AL : All P w K mg base C CN CM PT c) {f : Addr} {A : Around} {outer : List Env} {s : Shared} {H : Hp} {E : XK} (hr : Room 11 (A.deeper (envOfC "_law_right" (defScope s__law_right) s.heap.objs.size f (.ref c)))) (hg : A.guards = some [])
    {sea : Sea} {h : Nat} {ns : List Notice} {d held : Int} {box : Addr} {ps : List Pr} {b z : Bk} {R : Hs} {cs : Bk → List Bk} {φ : Fx} {D : Ends} {ea : Pr} {s0 : Str} (S : SeaOk sea h) (NK : NoticesOk sea h (ns.mergeSort numLe)) (hd : 0 ≤ d ∧ d < 30) (PK : Pick K C sea h ns ps b R cs) (hs0 : shownS h sea (ns.mergeSort numLe) [d, 400] = s0)
    (za : z.a = b.a) (zs : z.sea = sea) (zh : z.h = h) (zk : z.kept = []) (hD : ∀ G' H', Stt φ [(PT, tabHP qR)] G' H' → D.rt (.bl true) H') :
    M (rX P w K mg base f (.ref c) A outer s H E) φ (rS K box sea ns none d ps s0 held ea b.a) (hsB K C z ++ (PT, tabHP qR) :: R) ((defBody s__law_right).drop 13) D := by
  obtain ⟨T, DK, BK, BM, BI, EX, TB⟩ := AL
  have c6 := c_shown (P := P) (base := base) T DK BK BM
  have c7 := m_notices_now (P := P) (w := w) (base := base) T BK BM.nn
  have c8 := m_mark_now (P := P) (base := base) T DK BK BM.mn
  have c9 := m_void_now (P := P) (base := base) T DK BK BM.vn
  have hu := hr.units
  have days := days_ok hd
  have N0 : NoticesOk sea h [] := ⟨Nat.zero_le _, (fun _ h => by cases h), List.nodup_nil⟩
  have A0 : AskOk sea h [] 99 := ⟨S, N0, by decide, by decide⟩
  have zb : bookP K C z.sea z.kept = bookP K C sea [] := by rw [zs, zk]
  refine m_no ?_ ?_
  · refine etm_books (bs := [z]) (fun b hb => by rw [List.mem_singleton.mp hb]; exact List.mem_append_left _ List.mem_cons_self) (SeeB.name 12 (b := z) (SeeB.refl _) (by rw [za]; rfl) List.mem_cons_self) ?_
    refine ew_et (ew_or (k := false) (k' := false) ?_ fun _ => ew_or (k := false) (k' := false) ?_ fun _ => ew_or1 ?_)
    · refine et_to ?_ (et_neD (d := .list []) (e := .list []) hu (ed_meth0 BK.cls c7 hr (by decide) (sea, []) trivial rfl rfl (ed_p zb (ed_var 12))) (ed_lstd (ds := []) ea_nil) (by rfl) (by rfl))
      rw [eqv_nil]
      rfl
    · refine et_to ?_ (et_neD (d := .tuple [.str "ashore"]) (e := .tuple [.str "ashore"]) hu (ed_d ?_ (ed_meth BK.cls c8 hr (by decide) (sea, h, [], 99, 400, 1) ⟨A0, (by decide : (0 : Int) ≤ 400 ∧ (400 : Int) ≤ 400), (by decide : (1 : Int) ≤ 1 ∧ (1 : Int) ≤ 12)⟩ rfl rfl (ed_p zb (ed_var 12)) (ea_cons ed_int (ea_cons ed_int (ea_cons ed_int ea_nil))))) (ed_tupd (ds := [.str "ashore"]) (ea_cons ed_str ea_nil)) (by decide +kernel) (by decide +kernel))
      · decide +kernel
      · rw [gone_nil, place_nil]
    · refine et_to ?_ (et_neD (d := .list []) (e := .list []) hu (ed_d ?_ (ed_meth BK.cls c9 hr (by decide) (sea, h, [], 99) A0 rfl rfl (ed_p zb (ed_var 12)) (ea_cons ed_int ea_nil))) (ed_lstd (ds := []) ea_nil) (by rfl) (by rfl))
      · rw [eqv_nil]
        rfl
      · rw [gone_nil, voids_nil]
  · refine m_ret (em_books (bs := cs z) (pick_see PK z) (pick_seen PK z za) (ed_gei (ed_countB (bs := (cs z).map fun y => decide (shownS h y.sea y.kept [d, 400] = s0)) (ed_d ?_ (ed_mapD rfl sc__law_right.nd [("_law_book", 8)] (blkOk_by (N := n__law_right) (sc := defScope s__law_right) (by decide +kernel)) (cs z) (fun y => bookP K C y.sea y.kept) (fun y => .bool (decide (shownS h y.sea y.kept [d, 400] = s0))) (es_list (ed_var 5)) (by rw [PK.len]; decide) fun y hy => ⟨[8], _, by simp, fun s H Ca cl fp => ⟨tg_name 8 sc__law_right.nd, ets_nil, fun _ => ?_⟩⟩)) ed_bl) ed_int)) fun v G H ⟨S5, r5⟩ => ?_
    · rw [List.map_map]
      rfl
    · have gy : SeaOk y.sea h ∧ NoticesOk y.sea h y.kept := by
        rcases PK.mem _ y hy with rfl | ⟨g, _⟩
        · rw [zs, zk]
          exact ⟨S, N0⟩
        · rw [g.sea, g.kept]
          exact ⟨S, NK⟩
      exact ed_streq (ed_callGd c6 hr hg (by decide) ⟨y.sea, h, y.kept, [d, 400]⟩ ⟨gy.1, gy.2, days⟩ (by rfl) (ea_cons (ed_var 8) (ea_cons (ed_var 4) ea_nil))) (ed_ixLd (ed_var 7) ed_int (by rfl))
    · have two := PK.two z (fun y => decide (shownS h y.sea y.kept [d, 400] = s0)) fun y g => by
        rw [g.sea, g.kept]
        exact decide_eq_true hs0
      have r5 := dp_bl r5
      rw [decide_eq_true (show (2 : Int) ≤ _ by exact_mod_cast two)] at r5
      rw [r5]
      exact hD G H (S5.sub (List.singleton_sublist.mpr (List.mem_append_right _ List.mem_cons_self)))
end
end Lk

/-! W23: the end of _law_right: from the first strike on. -/
namespace Lk
open PySem PySem.Spec PyProof.Rows L2 PySem.W
section
variable {P : Program} {w : World} {K : PySem.W.Frag} {mg : Str → Option Value} {base : Heap} {C CN CM PT c : Addr}
theorem right_while (AL : All P w K mg base C CN CM PT c) {f : Addr} {A : Around} {outer : List Env} {s : Shared} {H : Hp} {E : XK} (hr : Room 11 (A.deeper (envOfC "_law_right" (defScope s__law_right) s.heap.objs.size f (.ref c)))) (hg : A.guards = some [])
    {sea : Sea} {h : Nat} {ns : List Notice} {d held : Int} {box : Addr} {ps : List Pr} {b : Bk} {R : Hs} {cs : Bk → List Bk} {φ : Fx} {D : Ends} {ea : Pr} {s0 : Str} (S : SeaOk sea h) (NK : NoticesOk sea h (ns.mergeSort numLe)) (hd : 0 ≤ d ∧ d < 30) (PK : Pick K C sea h ns ps b R cs) (hs0 : shownS h sea (ns.mergeSort numLe) [d, 400] = s0)
    (hD : ∀ G' H', Stt φ [(PT, tabHP qR)] G' H' → D.rt (.bl true) H') :
    M (rX P w K mg base f (.ref c) A outer s H E) φ (rS K box sea ns none d ps s0 held ea b.a) (hsB K C b ++ (PT, tabHP qR) :: R) ((defBody s__law_right).drop 12) D := by
  have c10 := m_notices_new (P := P) (w := w) (base := base) AL.T AL.BK AL.BM.nn
  refine m_whileM PassesOwn.never (fun z : Bk => z.a = b.a ∧ z.sea = sea ∧ z.h = h ∧ BkGood z 60) (fun z => z.past.length) (fun z k z' => (k = true ∧ ∃ n q, z.past = q ++ [n] ∧ z' = { z with kept := n, past := q }) ∨ (k = false ∧ z.past = [] ∧ z' = z)) (fun z => hsB K C z ++ (PT, tabHP qR) :: R) b ⟨rfl, PK.g.sea, PK.g.h, PK.g.good⟩ (fun _ _ S => S) ?_ ?_ ?_
  · rintro z ⟨z1, _, _, zg⟩ σ G H0 St kn Q q
    exact said_test AL hr (by rfl) (by rw [z1]; rfl) zg St kn q
  · rintro z z' ⟨z1, z2, z3, zg⟩ st
    rcases st with ⟨_, n, q, hp, rfl⟩ | ⟨e, _, _⟩
    · have zf := zg.few
      rw [hp, List.length_append] at zf
      have zp := zg.past
      rw [hp] at zp
      have zb := zg.bot
      rw [hp, bot_push] at zb
      have ln := zp n (List.mem_append_right _ List.mem_cons_self)
      refine ⟨⟨z1, z2, z3, by show q.length ≤ 60; simp at zf; omega, fun k hk => zp k (List.mem_append_left _ hk), zb⟩, by rw [hp, List.length_append]; simp, fun D' _ hn => ?_⟩
      refine m_st (sm_expr (em_appendNew (Ps := (n.map noticeD).map (dP K)) ?_ ?_ ed_int)) fun σ4 G4 H4 f4 => ?_
      · rw [List.length_map, List.length_map]
        omega
      · refine em_w ?_ (em_methM0 (i := 0) (oth := (PT, tabHP qR) :: R) AL.BK.cls c10 hr (by decide) { z with kept := n, past := q } trivial (fun _ h => by cases h) (List.Perm.refl _) rfl rfl (by rfl) (em_ref ?_))
        · rintro v G H ⟨hs', S5, dd, rfl, rfl⟩
          exact ⟨dd, rfl, S5⟩
        · show Ed _ _ _ _ (eP (.ref z.a))
          rw [z1]
          exact ed_var 12
      · obtain ⟨v4, S4, k4⟩ := f4
        exact m_nil (fun σ5 G5 H5 S5 k5 => hn σ5 G5 H5 S5 k5) σ4 G4 H4 S4.1 k4
    · cases e
  · rintro z z' ⟨z1, z2, z3, zg⟩ st
    rcases st with ⟨e, _⟩ | ⟨_, hp, rfl⟩
    · cases e
    have zk : z'.kept = [] := by
      have := zg.bot
      rw [hp] at this
      simpa using this
    exact right_end AL hr hg S NK hd PK hs0 z1 z2 z3 zk hD
theorem right_rest (AL : All P w K mg base C CN CM PT c) {f : Addr} {A : Around} {outer : List Env} {s : Shared} {H : Hp} {E : XK} (hr : Room 11 (A.deeper (envOfC "_law_right" (defScope s__law_right) s.heap.objs.size f (.ref c)))) (hg : A.guards = some [])
    {sea : Sea} {h : Nat} {ns : List Notice} {d held : Int} {box : Addr} {ps : List Pr} {b : Bk} {R : Hs} {cs : Bk → List Bk} {φ : Fx} {D : Ends} {ea : Pr} {s0 : Str} (S : SeaOk sea h) (NK : NoticesOk sea h (ns.mergeSort numLe)) (hd : 0 ≤ d ∧ d < 30) (PK : Pick K C sea h ns ps b R cs) (hs0 : shownS h sea (ns.mergeSort numLe) [d, 400] = s0)
    (hD : ∀ G' H', Stt φ [(PT, tabHP qR)] G' H' → D.rt (.bl true) H') :
    M (rX P w K mg base f (.ref c) A outer s H E) φ (rS K box sea ns none d ps s0 held ea b.a) (hsB K C b ++ (PT, tabHP qR) :: R) ((defBody s__law_right).drop 11) D := by
  have c6 := c_shown (P := P) (base := base) AL.T AL.DK AL.BK AL.BM
  have hu := hr.units
  have days := days_ok hd
  have so : PyData.strOk s0 = true := by
    rw [← hs0]
    exact (shown_small S NK days.1).1.t
  have hs3 : ∀ x ∈ ([.str s0, .str s0, .str s0] : List PyData), okD x 0 := fun x hx => by
    simp only [List.mem_cons, List.not_mem_nil, or_false] at hx
    rcases hx with rfl | rfl | rfl <;> exact okD_str so 0
  refine m_no ?_ (right_while AL hr hg S NK hd PK hs0 hD)
  refine etm_books (bs := cs b) (pick_see PK b) (pick_seen PK b rfl) (et_to (eqv_self (n := 1) (okD_list hs3)) (et_neD hu (ed_d ?_ (ed_mapD rfl sc__law_right.nd [("_law_book", 8)] (blkOk_by (N := n__law_right) (sc := defScope s__law_right) (by decide +kernel)) (cs b) (fun y => bookP K C y.sea y.kept) (fun _ => .str s0) (es_list (ed_var 5)) (by rw [PK.len]; decide) fun y hy => ⟨[8], _, by simp, fun s H Ca cl fp => ⟨tg_name 8 sc__law_right.nd, ets_nil, fun _ => ?_⟩⟩)) (ed_var 7) (okD_list hs3).shaped (okD_list hs3).shaped))
  · rw [List.map_const', PK.len]
    rfl
  · have gy : y.sea = sea ∧ y.kept = ns.mergeSort numLe := by
      rcases PK.mem _ y hy with rfl | ⟨g, _⟩
      · exact ⟨PK.g.sea, PK.g.kept⟩
      · exact ⟨g.sea, g.kept⟩
    have e : bookP K C y.sea y.kept = bookP K C sea (ns.mergeSort numLe) := by rw [gy.1, gy.2]
    exact ed_d (congrArg PyData.str hs0) (ed_callGd c6 hr hg (by decide) ⟨sea, h, ns.mergeSort numLe, [d, 400]⟩ ⟨S, NK, days⟩ (by rfl) (ea_cons (ed_p e (ed_var 8)) (ea_cons (ed_var 4) ea_nil)))
theorem right_tail (AL : All P w K mg base C CN CM PT c) {f : Addr} {A : Around} {outer : List Env} {s : Shared} {H : Hp} {E : XK} (hr : Room 11 (A.deeper (envOfC "_law_right" (defScope s__law_right) s.heap.objs.size f (.ref c)))) (hg : A.guards = some [])
    {sea : Sea} {h : Nat} {ns : List Notice} {d held : Int} {box : Addr} {ps : List Pr} {b : Bk} {R : Hs} {cs : Bk → List Bk} {φ : Fx} {D : Ends} {ea : Pr} {s0 : Str} (hb : box ∈ φ.B) (S : SeaOk sea h) (Fk : FillOk sea h ns) (hd : 0 ≤ d ∧ d < 30) (PK : Pick K C sea h ns ps b R cs) (hs0 : shownS h sea (ns.mergeSort numLe) [d, 400] = s0)
    (hD : ∀ G' H', Stt φ [(PT, tabHP qR)] G' H' → D.rt (.bl true) H') :
    M (rX P w K mg base f (.ref c) A outer s H E) φ (rS K box sea ns none d ps s0 held ea b.a) (hsB K C b ++ (PT, tabHP qR) :: R) ((defBody s__law_right).drop 10) D := by
  have NK := fill_kept Fk
  have rest2 := right_rest AL (f := f) (outer := outer) (s := s) (H := H) (E := E) (box := box) (held := held) (ea := ea) (D := D) hr hg S NK hd PK hs0 hD
  obtain ⟨T, DK, BK, BM, BI, EX, TB⟩ := AL
  have c3 := m_take_in (P := P) (w := w) (base := base) T BK BM.be BM.ta
  have c4 := m_strike (P := P) (w := w) (base := base) T BK BM.be BM.st
  have c5 := m_undo (P := P) (w := w) (base := base) T BK BM.un
  have c6 := c_shown (P := P) (base := base) T DK BK BM
  have hu := hr.units
  have days := days_ok hd
  have l20 := Fk.len
  have hns : ∀ x ∈ ns.map noticeD, okD x 3 := fun x hx => by
    obtain ⟨m, _, rfl⟩ := List.mem_map.mp hx
    exact okD_notice m
  obtain ⟨ba, dx, pa, bsea, bh, kept, past⟩ := b
  obtain ⟨⟨g1, g2, g3, gd⟩, pat, pmem, ptwo, plen⟩ := PK
  dsimp only at g1 g2 g3
  subst g1 g2 g3
  obtain ⟨few, p40, bot⟩ := gd
  dsimp only at few p40 bot
  refine m_if (k := !decide (ns = [])) ?_ (fun hk => ?_) (fun _ => m_nil fun σ G H S k => rest2 σ G H S k)
  · refine etm_et (et_to ?_ (et_neD (d := .list (ns.map noticeD)) (e := .list []) hu (ed_var 2) (ed_lstd (ds := []) ea_nil) (okD_list hns).shaped (by rfl)))
    rw [eqv_nil]
    simp
  have hne : ns ≠ [] := by simpa using hk
  have hpos : 0 < ns.length := List.length_pos_iff.mpr hne
  refine m_ss (ss_set 3 sc__law_right.nd (ed_ixLX (P := xP (fun n => n ∈ ns) fun n => dP K (noticeD n)) (S := fun i => 0 ≤ i ∧ i < (ns.length : Int)) ((ed_var 2).imp imp_ld) (ed_take (S := fun n => n = (ns.length : Int)) T hr (by decide) hb (by rfl) (ed_var 0) (ed_i ?_ (ed_lenLd (ds := ns.map noticeD) (by rfl) T.z_len (ed_var 2))) (fun n e => by omega) (fun n r e h3 h4 => by omega)) (fun i hi => ?_))) ?_
  · rw [List.length_map]
    exact iP_of rfl
  · obtain ⟨x, e1, e2, e3⟩ := at_nat (xs := ns) hi.1 hi.2
    exact ⟨_, at_map (at_map e1), fun v H q => ⟨x, e3, q⟩⟩
  refine m_open 3 rfl fun n hn => ?_
  have nok := Fk.ok n hn
  have K1 : (ns.mergeSort numLe).length = ns.length := sort_len ns
  have n1 : ((ns.mergeSort numLe).map (·.num)).Nodup := NK.nd
  have nin : n.num ∈ (ns.mergeSort numLe).map (·.num) := (sort_nums ns).mem_iff.mpr (List.mem_map.mpr ⟨n, hn, rfl⟩)
  obtain ⟨kk, hkk⟩ : ∃ kk, ((ns.mergeSort numLe).filter fun m => !decide (m.num = n.num)).mergeSort numLe = kk := ⟨_, rfl⟩
  have kq : kk.length ≤ 20 := by
    rw [← hkk, sort_len]
    exact Nat.le_trans (List.length_filter_le _ _) (by omega)
  have nq : (kk.map (·.num)).Nodup := by
    rw [← hkk]
    exact (sort_nums _).nodup_iff.mpr (n1.sublist (List.filter_sublist.map _))
  have oq : n.num ∉ kk.map (·.num) := fun hc => by
    rw [← hkk] at hc
    obtain ⟨m, hm, e⟩ := List.mem_map.mp ((sort_nums _).mem_iff.mp hc)
    have := (List.mem_filter.mp hm).2
    simp [e] at this
  have back := restrike Fk.nd hn
  rw [hkk] at back
  refine m_st (sm_expr (em_methM (i := 0) (oth := (PT, tabHP qR) :: R) BK.cls c4 hr (by decide) (⟨ba, dx, pa, bsea, bh, ns.mergeSort numLe, past⟩, n.num) ⟨by show past.length < 1000; omega, by show (ns.mergeSort numLe).length ≤ 30; omega, n1, ⟨nok.n1, nok.n2⟩, nin⟩ (fun _ h => by cases h) (List.Perm.refl _) rfl rfl (by rfl) (em_ref (ed_var 12)) (eam_dat (em_ed (ed_ixTd (ed_var 3) ed_int (by rfl)))))) fun σ2 G2 H2 f2 => ?_
  obtain ⟨v2, ⟨hs2, S2, _, rfl⟩, k2⟩ := f2
  rw [hkk] at S2
  refine (?_ : M _ φ _ (hsB K C ⟨ba, dx, pa, bsea, bh, kk, past ++ [ns.mergeSort numLe]⟩ ++ (PT, tabHP qR) :: R) _ _) σ2 G2 H2 S2 k2
  refine m_st (sm_expr (em_methM (i := 0) (oth := (PT, tabHP qR) :: R) BK.cls c3 hr (by decide) (⟨ba, dx, pa, bsea, bh, kk, past ++ [ns.mergeSort numLe]⟩, n) ⟨S, nok, by show (past ++ [ns.mergeSort numLe]).length < 1000; rw [List.length_append]; simp; omega, by show kk.length < 30; omega, nq, oq⟩ (fun _ h => by cases h) (List.Perm.refl _) rfl rfl (by rfl) (em_ref (ed_var 12)) (eam_dat (em_ed (ed_var 3))))) fun σ3 G3 H3 f3 => ?_
  obtain ⟨v3, ⟨hs3', S3, _, rfl⟩, k3⟩ := f3
  rw [back] at S3
  refine (?_ : M _ φ _ (hsB K C ⟨ba, dx, pa, bsea, bh, ns.mergeSort numLe, past ++ [ns.mergeSort numLe] ++ [kk]⟩ ++ (PT, tabHP qR) :: R) _ _) σ3 G3 H3 S3 k3
  refine m_no ?_ ?_
  · refine etm_books (bs := [⟨ba, dx, pa, bsea, bh, ns.mergeSort numLe, past ++ [ns.mergeSort numLe] ++ [kk]⟩]) (fun b hb => by rw [List.mem_singleton.mp hb]; exact List.mem_append_left _ List.mem_cons_self) (SeeB.name 12 (b := ⟨ba, dx, pa, bsea, bh, ns.mergeSort numLe, past ++ [ns.mergeSort numLe] ++ [kk]⟩) (SeeB.refl _) rfl List.mem_cons_self) ?_
    refine et_to ?_ (et_strne (i := s0) (j := s0) (ed_d (congrArg PyData.str hs0) (ed_callGd c6 hr hg (by decide) ⟨bsea, bh, ns.mergeSort numLe, [d, 400]⟩ ⟨S, NK, days⟩ (by rfl) (ea_cons (ed_var 12) (ea_cons (ed_var 4) ea_nil)))) (ed_ixLd (ed_var 7) ed_int (by rfl)))
    simp
  have u1 : ∀ x ∈ past ++ [ns.mergeSort numLe] ++ [kk], x.length ≤ 40 := fun x hx => by
    rcases List.mem_append.mp hx with hx | hx
    · rcases List.mem_append.mp hx with hx | hx
      · exact p40 x hx
      · rw [List.mem_singleton.mp hx]
        omega
    · rw [List.mem_singleton.mp hx]
      omega
  have u2 : (past ++ [ns.mergeSort numLe] ++ [kk]).length ≤ 1000 := by
    rw [List.length_append, List.length_append]
    simp
    omega
  refine m_st (sm_expr (em_methM0 (i := 0) (oth := (PT, tabHP qR) :: R) BK.cls c5 hr (by decide) (⟨ba, dx, pa, bsea, bh, ns.mergeSort numLe, past ++ [ns.mergeSort numLe] ++ [kk]⟩, kk, past ++ [ns.mergeSort numLe]) ⟨rfl, u1, u2⟩ (fun _ h => by cases h) (List.Perm.refl _) rfl rfl (by rfl) (em_ref (ed_var 12)))) fun σ4 G4 H4 f4 => ?_
  obtain ⟨v4, ⟨hs4, S4, _, rfl⟩, k4⟩ := f4
  refine (?_ : M _ φ _ (hsB K C ⟨ba, dx, pa, bsea, bh, kk, past ++ [ns.mergeSort numLe]⟩ ++ (PT, tabHP qR) :: R) _ _) σ4 G4 H4 S4 k4
  refine m_st (sm_expr (em_methM0 (i := 0) (oth := (PT, tabHP qR) :: R) BK.cls c5 hr (by decide) (⟨ba, dx, pa, bsea, bh, kk, past ++ [ns.mergeSort numLe]⟩, ns.mergeSort numLe, past) ⟨rfl, fun x hx => u1 x (List.mem_append_left _ hx), by show (past ++ [ns.mergeSort numLe]).length ≤ 1000; rw [List.length_append]; simp; omega⟩ (fun _ h => by cases h) (List.Perm.refl _) rfl rfl (by rfl) (em_ref (ed_var 12)))) fun σ5 G5 H5 f5 => ?_
  obtain ⟨v5, ⟨hs5, S5, _, rfl⟩, k5⟩ := f5
  refine m_nil (fun σ6 G6 H6 S6 k6 => ?_) σ5 G5 H5 S5 k5
  exact rest2 σ6 G6 H6 S6 (k6.forget 3)
end
end Lk

/-! W24: the law's own defs: _law_right. -/
namespace Lk
open PySem PySem.Spec PyProof.Rows L2 PySem.W
section
variable {P : Program} {w : World} {K : PySem.W.Frag} {mg : Str → Option Value} {base : Heap} {C CN CM PT c : Addr}
theorem fn_mkG1 {sp : Sp} {x qual : Str} {params : Arguments} {body : List Stmt} {scope : Scope} {f : Addr} {fd : FuncData} {N ps : List Str} {k : Nat} (F : FunD K x qual params body scope [] [] f fd) (S : FnScope N ps scope) (hl : ∀ vs H Q E, sp vs H Q E → vs.length = ps.length)
    (h : ∀ (cdv : Value) (A : Around) (outer : List Env) (s : Shared) (H : Hp) (vs : List V) (Q : VK) (E : XK), fd.code = cdv → Room k (A.deeper (envOfC qual scope s.heap.objs.size f cdv)) → A.guards = some [] → sp vs H Q E → WB (cxOf CX0 P w K mg base N qual scope f cdv A outer s H E).nox body { nx := fun _ H' => Q .non H', rt := Q } (L2.start N vs) H) :
    FnG P w K mg base (k + 1) f fd ps sp := by
  obtain ⟨oc, od, dV, kV, doc, pm, an, cdv, ct, osl, rfl, lk, hcd, _, _⟩ := F.ex
  exact ⟨hl, fun A outer s H args us vs Q E hr hg e0 hb r hq => LamX.run_ofS lk hcd S hr e0 hb r (hl vs H Q E hq) fun hr' => ⟨_, PSs.nox wb_ps, h cdv A outer s H vs Q E rfl hr' hg hq⟩⟩
theorem pullB {U B V : Hs} {t : Addr × HP} : (U ++ (B ++ (V ++ [t]))).Perm (B ++ t :: (U ++ V)) := by
  refine (List.perm_append_comm_assoc U B _).trans (List.Perm.append_left B ?_)
  rw [← List.append_assoc]
  exact List.perm_append_singleton t (U ++ V)
abbrev spRight (K : PySem.W.Frag) (PT : Addr) : Sp := spM (α := Addr) (fun _ => []) (fun _ => True) (fun a => [eP (.ref a)]) (fun a => [(a, boxH K), (PT, tabHP qR)]) fun _ v _ hs' => v = .bl true ∧ hs' = [(PT, tabHP qR)]
theorem two_of {f : Bool} : 2 ≤ [f, true, true].count true ∧ 2 ≤ [true, f, true].count true ∧ 2 ≤ [true, true, f].count true := by cases f <;> decide
theorem right_mid (AL : All P w K mg base C CN CM PT c) {f : Addr} {A : Around} {outer : List Env} {s : Shared} {H : Hp} {E : XK} (hr : Room 11 (A.deeper (envOfC "_law_right" (defScope s__law_right) s.heap.objs.size f (.ref c)))) (hg : A.guards = some [])
    {sea : Sea} {h : Nat} {ns : List Notice} {d : Int} {box : Addr} {b0 b1 b2 : Bk} {φ : Fx} {D : Ends} (hb : box ∈ φ.B) (S : SeaOk sea h) (Fk : FillOk sea h ns) (hd : 0 ≤ d ∧ d < 30) (g0 : GoodB sea h ns b0) (g1 : GoodB sea h ns b1) (g2 : GoodB sea h ns b2)
    (hD : ∀ G' H', Stt φ [(PT, tabHP qR)] G' H' → D.rt (.bl true) H') :
    M (rX P w K mg base f (.ref c) A outer s H E) φ [some (eP (.ref box)), some (dP K (seaD sea)), some (notP K ns), none, some (dP K (.list [.int d, .int 400])), some (lP K ([b0, b1, b2].map fun b => eP (.ref b.a))), none, none, none, none, none, none, none]
      ([b0, b1, b2].flatMap (hsB K C) ++ [(PT, tabHP qR)]) ((defBody s__law_right).drop 4) D := by
  have NK := fill_kept Fk
  have tail := fun {ps b R cs φ D ea s0 held} => right_tail (ps := ps) (b := b) (R := R) (cs := cs) (φ := φ) (D := D) (ea := ea) (s0 := s0) (held := held) AL (f := f) (outer := outer) (s := s) (H := H) (E := E) (box := box) hr hg (sea := sea) (h := h) (ns := ns) (d := d)
  obtain ⟨T, DK, BK, BM, BI, EX, TB⟩ := AL
  have c1 := c_filled (P := P) (w := w) (base := base) T BK BM BI
  have c6 := c_shown (P := P) (base := base) T DK BK BM
  have c8 := m_mark_now (P := P) (base := base) T DK BK BM.mn
  have c9 := m_channel_now (P := P) (base := base) T DK BK BM.cn
  have hu := hr.units
  have days := days_ok hd
  have l20 := Fk.len
  obtain ⟨s0, hs0⟩ : ∃ s0, shownS h sea (ns.mergeSort numLe) [d, 400] = s0 := ⟨_, rfl⟩
  have mem3 : ∀ b ∈ [b0, b1, b2], GoodB sea h ns b := fun b hb => by
    simp only [List.mem_cons, List.not_mem_nil, or_false] at hb
    rcases hb with rfl | rfl | rfl <;> assumption
  have hmem : ∀ b ∈ [b0, b1, b2], bkHP K C b ∈ [b0, b1, b2].flatMap (hsB K C) ++ [(PT, tabHP qR)] := fun b hb => List.mem_append_left _ (List.mem_flatMap.mpr ⟨b, hb, List.mem_cons_self⟩)
  -- what the three tell
  refine m_set (FV := fun v G H => Stt φ ([b0, b1, b2].flatMap (hsB K C) ++ [(PT, tabHP qR)]) G H ∧ (dP K (.list [.str s0, .str s0, .str s0])).p v G) 7 sc__law_right.nd ?_ fun v σ1 G1 H1 ⟨S1, r1⟩ k1 => ?_
  · refine em_books (bs := [b0, b1, b2]) hmem (SeeB.list 5 (cs := [b0, b1, b2]) (SeeB.refl _) rfl fun _ h => h) (ed_mapD rfl sc__law_right.nd [("_law_book", 8)] (blkOk_by (N := n__law_right) (sc := defScope s__law_right) (by decide +kernel)) [b0, b1, b2] (fun y => bookP K C y.sea y.kept) (fun _ => .str s0) (es_list (ed_var 5)) (by show 3 ≤ 100000; decide) fun y hy => ⟨[8], _, by simp, fun s H Ca cl fp => ⟨tg_name 8 sc__law_right.nd, ets_nil, fun _ => ?_⟩⟩)
    have e : bookP K C y.sea y.kept = bookP K C sea (ns.mergeSort numLe) := by rw [(mem3 y hy).sea, (mem3 y hy).kept]
    exact ed_d (congrArg PyData.str hs0) (ed_callGd c6 hr hg (by decide) ⟨sea, h, ns.mergeSort numLe, [d, 400]⟩ ⟨S, NK, days⟩ (by rfl) (ea_cons (ed_p e (ed_var 8)) (ea_cons (ed_var 4) ea_nil)))
  have k1' := k1.set (P := dP K (.list [.str s0, .str s0, .str s0])) 7 r1
  refine (?_ : M _ φ _ _ _ D) _ G1 H1 S1 k1'
  refine m_no ?_ ?_
  · refine etm_et (ew_et (ew_or (k := false) (k' := false) (et_to ?_ (et_strne (i := s0) (j := s0) (ed_ixLd (ed_var 7) ed_int (by rfl)) (ed_ixLd (ed_var 7) ed_int (by rfl)))) fun _ => ew_or1 (et_to ?_ (et_strne (i := s0) (j := s0) (ed_ixLd (ed_var 7) ed_int (by rfl)) (ed_ixLd (ed_var 7) ed_int (by rfl))))))
    · simp
    · simp
  refine m_ss (ss_set 9 sc__law_right.nd (ed_takeN T hr (by decide) hb (by rfl) (ed_var 0) ed_int (by decide) (by decide))) ?_
  refine m_open 9 rfl fun held hheld => ?_
  -- a book told fewer
  have Fh := fill_held (held := held) Fk
  have NH := fill_kept Fh
  refine m_set (FV := fun v G H => ∃ hs', Stt φ (hs' ++ ([b0, b1, b2].flatMap (hsB K C) ++ [(PT, tabHP qR)])) G H ∧ ∃ b : Bk, v = .ref b.a ∧ hs' = hsB K C b ∧ b.sea = sea ∧ b.h = h ∧ b.kept = (ns.filter fun n => decide (n.num ≤ held)).mergeSort numLe ∧ BkGood b 60) 10 sc__law_right.nd ?_ fun v σ2 G2 H2 f2 k2 => ?_
  · refine em_callM (X := rX P w K mg base f (.ref c) A outer s H E) c1 hr (by decide) ⟨box, sea, h, ns.filter fun n => decide (n.num ≤ held), 0⟩ ⟨S, Fh⟩ (fun x hx => by rw [List.mem_singleton.mp hx]; exact hb) (List.Perm.refl _) (by rfl) (eam_ea (ea_cons (ed_var 0) (ea_cons (ed_var 1) (ea_cons ?_ (ea_cons ed_int ea_nil)))))
    exact ed_compD rfl sc__law_right.nd [("_law_notice", 3)] (blkOk_by (N := n__law_right) (sc := defScope s__law_right) (by decide +kernel)) ns (fun n => dP K (noticeD n)) (fun n => decide (n.num ≤ held)) noticeD (es_listM (g := noticeD) (ed_var 2)) (by omega) fun n hn => ⟨[3], _, by simp, fun s H Ca cl fp => ⟨tg_name 3 sc__law_right.nd, ets_one (et_lei (ed_ixTd (ed_var 3) ed_int (by rfl)) (ed_var 9)), fun _ => ed_var 3⟩⟩
  obtain ⟨hs', S2, b3, rfl, rfl, e1, e2, e3, g3⟩ := f2
  have k2' := k2.set (P := eP (.ref b3.a)) 10 (v := .ref b3.a) rfl
  refine (?_ : M _ φ _ (hsB K C b3 ++ ([b0, b1, b2].flatMap (hsB K C) ++ [(PT, tabHP qR)])) _ D) _ G2 H2 S2 k2'
  have hmem4 : ∀ b ∈ [b3, b0, b1, b2], bkHP K C b ∈ hsB K C b3 ++ ([b0, b1, b2].flatMap (hsB K C) ++ [(PT, tabHP qR)]) := fun b hb' => by
    rcases List.mem_cons.mp hb' with rfl | hb'
    · exact List.mem_append_left _ List.mem_cons_self
    · exact List.mem_append_right _ (hmem b hb')
  have see4 : ∀ {sl11 : Option Pr}, SeeB K C [b3, b0, b1, b2] [some (eP (.ref box)), some (dP K (seaD sea)), some (notP K ns), none, some (dP K (.list [.int d, .int 400])), some (lP K ([b0, b1, b2].map fun b => eP (.ref b.a))), none, some (dP K (.list [.str s0, .str s0, .str s0])), none, some (dP K (.int held)), some (eP (.ref b3.a)), sl11, none]
      [some (eP (.ref box)), some (dP K (seaD sea)), some (notP K ns), none, some (dP K (.list [.int d, .int 400])), some (lP K ([b0, b1, b2].map fun y => bookP K C y.sea y.kept)), none, some (dP K (.list [.str s0, .str s0, .str s0])), none, some (dP K (.int held)), some (bookP K C b3.sea b3.kept), sl11, none] := fun {sl11} =>
    SeeB.list 5 (cs := [b0, b1, b2]) (SeeB.name 10 (b := b3) (SeeB.refl _) rfl List.mem_cons_self) rfl fun b hb => List.mem_cons_of_mem _ hb
  have eb3 : bookP K C b3.sea b3.kept = bookP K C sea ((ns.filter fun n => decide (n.num ≤ held)).mergeSort numLe) := by rw [e1, e3]
  have eb0 : bookP K C b0.sea b0.kept = bookP K C sea (ns.mergeSort numLe) := by rw [g0.sea, g0.kept]
  have ask3 : AskOk sea h ((ns.filter fun n => decide (n.num ≤ held)).mergeSort numLe) 99 := ⟨S, NH, by decide, by decide⟩
  have ask0 : AskOk sea h (ns.mergeSort numLe) held := ⟨S, NK, hheld.1, by omega⟩
  refine m_for PassesOwn.never rfl (es_listM (g := PyData.int) (xs := [d, 400]) (ed_var 4)) (fun _ (_ : Unit) => True) (fun _ => hsB K C b3 ++ ([b0, b1, b2].flatMap (hsB K C) ++ [(PT, tabHP qR)])) (fun _ => [some (eP (.ref box)), some (dP K (seaD sea)), some (notP K ns), none, some (dP K (.list [.int d, .int 400])), some (lP K ([b0, b1, b2].map fun b => eP (.ref b.a))), none, some (dP K (.list [.str s0, .str s0, .str s0])), none, some (dP K (.int held)), some (eP (.ref b3.a)), none, none]) () trivial rfl rfl ?_ ?_
  · rintro i Pi z hPi _ φ1 hφ1 bk1
    rw [List.getElem?_map] at hPi
    obtain ⟨day, hday, rfl⟩ := Option.map_eq_some_iff.mp hPi
    have dd := days.2 day (List.mem_of_getElem? hday)
    have eg := gone_held (h := h) (sea := sea) (held := held) (day := day) Fk.nd Fk.lt
    refine ⟨[11], _, tg_name 11 sc__law_right.nd, fun D1 hD1 hn1 => ?_⟩
    refine m_no ?_ ?_
    · refine etm_books (bs := [b3, b0, b1, b2]) hmem4 see4 (et_to (eqv_self okD_open) (et_neD hu (ed_meth BK.cls c9 hr (by decide) (sea, h, (ns.filter fun n => decide (n.num ≤ held)).mergeSort numLe, 99, day, 2, false) ⟨ask3, dd, (by decide : (1 : Int) ≤ 2 ∧ (2 : Int) ≤ 9)⟩ rfl rfl (ed_p eb3 (ed_var 10)) (ea_cons ed_int (ea_cons (ed_var 11) (ea_cons ed_int (ea_cons ed_bl ea_nil))))) (ed_d ?_ (ed_meth BK.cls c9 hr (by decide) (sea, h, ns.mergeSort numLe, held, day, 2, false) ⟨ask0, dd, (by decide : (1 : Int) ≤ 2 ∧ (2 : Int) ≤ 9)⟩ rfl rfl (ed_p eb0 (ed_ixL (ed_var 5) ed_int (by rfl))) (ea_cons (ed_var 9) (ea_cons (ed_var 11) (ea_cons ed_int (ea_cons ed_bl ea_nil)))))) okD_open.shaped okD_open.shaped))
      rw [eg]
    refine m_no ?_ ?_
    · refine etm_books (bs := [b3, b0, b1, b2]) hmem4 see4 (et_to (eqv_self okD_place) (et_neD hu (ed_meth BK.cls c8 hr (by decide) (sea, h, (ns.filter fun n => decide (n.num ≤ held)).mergeSort numLe, 99, day, 1) ⟨ask3, dd, (by decide : (1 : Int) ≤ 1 ∧ (1 : Int) ≤ 12)⟩ rfl rfl (ed_p eb3 (ed_var 10)) (ea_cons ed_int (ea_cons (ed_var 11) (ea_cons ed_int ea_nil)))) (ed_d ?_ (ed_meth BK.cls c8 hr (by decide) (sea, h, ns.mergeSort numLe, held, day, 1) ⟨ask0, dd, (by decide : (1 : Int) ≤ 1 ∧ (1 : Int) ≤ 12)⟩ rfl rfl (ed_p eb0 (ed_ixL (ed_var 5) ed_int (by rfl))) (ea_cons (ed_var 9) (ea_cons (ed_var 11) (ea_cons ed_int ea_nil))))) okD_place.shaped okD_place.shaped))
      rw [eg]
    exact m_nil fun σ3 G3 H3 S3 k3 => hn1 () trivial σ3 G3 H3 S3 (k3.forget 11)
  · rintro z _
    refine m_ss (ss_set 12 sc__law_right.nd (ed_ixLX (P := xP (fun b : Bk => b = b0 ∨ b = b1 ∨ b = b2) fun b => eP (.ref b.a)) (S := fun i => 0 ≤ i ∧ i < 3) (Ps := [b0, b1, b2].map fun b => eP (.ref b.a)) (ed_var 5) (ed_takeN T hr (by decide) hb (by rfl) (ed_var 0) ed_int (by decide) (by decide)) (fun i hi => ?_))) ?_
    · have e : i = 0 ∨ i = 1 ∨ i = 2 := by omega
      rcases e with rfl | rfl | rfl
      · exact ⟨_, rfl, fun v H q => ⟨b0, .inl rfl, q⟩⟩
      · exact ⟨_, rfl, fun v H q => ⟨b1, .inr (.inl rfl), q⟩⟩
      · exact ⟨_, rfl, fun v H q => ⟨b2, .inr (.inr rfl), q⟩⟩
    refine m_open 12 rfl fun b hbb => ?_
    have in1 : ∀ {b : Bk} {l : Hs}, bkHP K C b ∈ hsB K C b ++ l := fun {b l} => List.mem_append_left _ List.mem_cons_self
    rcases hbb with rfl | rfl | rfl
    · have PK : Pick K C sea h ns ([b, b1, b2].map fun b => eP (.ref b.a)) b (hsB K C b3 ++ (hsB K C b1 ++ hsB K C b2)) (fun x => [x, b1, b2]) := ⟨g0, fun x hx => by
          show [eP (.ref b.a), eP (.ref b1.a), eP (.ref b2.a)] = [eP (.ref x.a), eP (.ref b1.a), eP (.ref b2.a)]
          rw [hx], fun x y hy => by
          simp only [List.mem_cons, List.not_mem_nil, or_false] at hy
          rcases hy with rfl | rfl | rfl
          · exact .inl rfl
          · exact .inr ⟨g1, List.mem_append_right _ in1⟩
          · exact .inr ⟨g2, List.mem_append_right _ (List.mem_append_right _ List.mem_cons_self)⟩, fun x f hf => by
          show 2 ≤ [f x, f b1, f b2].count true
          rw [hf b1 g1, hf b2 g2]
          exact two_of.1, fun x => rfl⟩
      exact fun σ G H St kn => tail hb S Fk hd PK hs0 hD σ G H (St.perm (pullB (U := hsB K C b3) (B := hsB K C b) (V := hsB K C b1 ++ hsB K C b2))) kn
    · have PK : Pick K C sea h ns ([b0, b, b2].map fun b => eP (.ref b.a)) b ((hsB K C b3 ++ hsB K C b0) ++ hsB K C b2) (fun x => [b0, x, b2]) := ⟨g1, fun x hx => by
          show [eP (.ref b0.a), eP (.ref b.a), eP (.ref b2.a)] = [eP (.ref b0.a), eP (.ref x.a), eP (.ref b2.a)]
          rw [hx], fun x y hy => by
          simp only [List.mem_cons, List.not_mem_nil, or_false] at hy
          rcases hy with rfl | rfl | rfl
          · exact .inr ⟨g0, List.mem_append_left _ (List.mem_append_right _ List.mem_cons_self)⟩
          · exact .inl rfl
          · exact .inr ⟨g2, List.mem_append_right _ List.mem_cons_self⟩, fun x f hf => by
          show 2 ≤ [f b0, f x, f b2].count true
          rw [hf b0 g0, hf b2 g2]
          exact two_of.2.1, fun x => rfl⟩
      exact fun σ G H St kn => tail hb S Fk hd PK hs0 hD σ G H (St.perm (pullB (U := hsB K C b3 ++ hsB K C b0) (B := hsB K C b) (V := hsB K C b2))) kn
    · have PK : Pick K C sea h ns ([b0, b1, b].map fun b => eP (.ref b.a)) b ((hsB K C b3 ++ (hsB K C b0 ++ hsB K C b1)) ++ []) (fun x => [b0, b1, x]) := ⟨g2, fun x hx => by
          show [eP (.ref b0.a), eP (.ref b1.a), eP (.ref b.a)] = [eP (.ref b0.a), eP (.ref b1.a), eP (.ref x.a)]
          rw [hx], fun x y hy => by
          simp only [List.mem_cons, List.not_mem_nil, or_false] at hy
          rcases hy with rfl | rfl | rfl
          · exact .inr ⟨g0, List.mem_append_left _ (List.mem_append_right _ in1)⟩
          · exact .inr ⟨g1, List.mem_append_left _ (List.mem_append_right _ (List.mem_append_right _ List.mem_cons_self))⟩
          · exact .inl rfl, fun x f hf => by
          show 2 ≤ [f b0, f b1, f x].count true
          rw [hf b0 g0, hf b1 g1]
          exact two_of.2.2, fun x => rfl⟩
      exact fun σ G H St kn => tail hb S Fk hd PK hs0 hD σ G H (St.perm (pullB (U := hsB K C b3 ++ (hsB K C b0 ++ hsB K C b1)) (B := hsB K C b) (V := []))) kn
end
end Lk

/-! W25: the law's own defs: _law_right, whole. -/
namespace Lk
open PySem PySem.Spec PyProof.Rows L2 PySem.W
section
variable {P : Program} {w : World} {K : PySem.W.Frag} {mg : Str → Option Value} {base : Heap} {C CN CM PT c : Addr}
/-- what the box tells of one round: three books -/
def ThreeOk (sea : Sea) (h : Nat) (ns : List Notice) (i : Nat) (z : List Bk) : Prop := z.length = i ∧ ∀ b ∈ z, GoodB sea h ns b
theorem pullC {U B V : Hs} {t : Addr × HP} : (B ++ t :: (U ++ V)).Perm (t :: ((U ++ B) ++ V)) := by
  refine List.perm_middle.trans (List.Perm.cons t ?_)
  rw [List.append_assoc]
  exact List.perm_append_comm_assoc B U V
theorem c_right (AL : All P w K mg base C CN CM PT c) (HR : ∃ (f : Addr) (fd : FuncData), mg "_law_right" = some (.ref f) ∧ FunD K "_law_right" "_law_right" (defArgs s__law_right) (defBody s__law_right) (defScope s__law_right) [] [] f fd ∧ fd.code = .ref c) : CalG P w K mg base 12 "_law_right" ["_law_box_here"] (spRight K PT) := by
  obtain ⟨f, fd, hm, F, hcode⟩ := HR
  refine ⟨f, fd, hm, F.kp, F.bindsN fun _ _ _ _ _ _ us hl => match us, hl with | [_], _ => rfl, fn_mkG1 F sc__law_right (fun vs H Q E hq => ?_) fun cdv A outer s H vs Q E hc hr hg hq => ?_⟩
  · obtain ⟨z, G, _, _, _, r, _⟩ := hq
    rw [← r.len]
    rfl
  obtain rfl : cdv = .ref c := hc.symm.trans hcode
  obtain ⟨box, G0, H0, _, S0, r0, q0⟩ := hq
  refine (?_ : M (rX P w K mg base f (.ref c) A outer s H E) ⟨[], G0, H0, G0⟩ (rho0 n__law_right [eP (.ref box)]) [(box, boxH K), (PT, tabHP qR)] (defBody s__law_right) { nx := fun _ H' => Q .non H', rt := Q }) (L2.start n__law_right vs) G0 H S0 (kn_start r0)
  have hu := hr.units
  have hu64 : (rX P w K mg base f (.ref c) A outer s H E).A.units + 64 < cLine := by
    show (A.deeper (envOfC "_law_right" (defScope s__law_right) s.heap.objs.size f (.ref c))).units + 64 < cLine
    omega
  have c1 := c_filled (P := P) (w := w) (base := base) AL.T AL.BK AL.BM AL.BI
  have c2 := c_lawsea (P := P) (w := w) (base := base) AL.T
  have c3 := c_lawnotices (P := P) (w := w) (base := base) AL.T
  have c6 := c_shown (P := P) (base := base) AL.T AL.DK AL.BK AL.BM
  have T := AL.T
  refine m_box fun φ hB back => ?_
  have hb : box ∈ φ.B := by
    rw [hB]
    exact List.mem_cons_self
  have hbx : ∀ x ∈ [box], x ∈ φ.B := fun x hx => by rw [List.mem_singleton.mp hx]; exact hb
  refine m_ss (ss_set 1 sc__law_right.nd (P := xP (fun q : Sea × Nat => SeaOk q.1 q.2) fun q => dP K (seaD q.1)) (ed_callG c2 hr (by decide) (by rfl) (ea_cons (ed_var 0) (ea_cons ed_int ea_nil)) (fun vs G r => ⟨(box, 8), by show (2:Int) ≤ 8 ∧ (8:Int) ≤ 15; decide, hbx, r, Imp.refl _⟩))) ?_
  refine m_open 1 rfl fun sh S => ?_
  obtain ⟨sea, h⟩ := sh
  dsimp only at S
  refine m_ss (ss_set 2 sc__law_right.nd (P := xP (FillOk sea h) fun ns => notP K ns) ?_) ?_
  · refine ed_compX rfl sc__law_right.nd [("_law_notice", 3)] (blkOk_by (N := n__law_right) (sc := defScope s__law_right) (by decide +kernel)) (fun ms => ms) (fun n => dP K (noticeD n)) (fun n => decide (n.num < 99)) (fun n => dP K (noticeD n)) (S := SrcOk sea h) (es_listX (ed_sortedSetX rfl hu64 (by rfl) T.z_sorted (ed_setX rfl hu64 (by rfl) T.z_set ?_))) (fun ms M => by have := M.len; omega) (fun ms M n hn => ⟨[3], _, by simp, fun s H Ca cl fp => ⟨tg_name 3 sc__law_right.nd, ets_one (et_lti (ed_ixTd (ed_var 3) ed_int (by rfl)) ed_int), fun _ => ed_var 3⟩⟩) (fun ms M v H q => ⟨_, fill_src M, ?_⟩)
    · exact ed_callG c3 hr (by decide) (by rfl) (ea_cons (ed_var 0) (ea_cons (ed_var 1) (ea_cons ed_int ea_nil))) (fun vs G r => ⟨(box, sea, h), S, hbx, r, Imp.refl _⟩)
    · refine imp_dl v H ?_
      rw [List.map_map]
      exact q
  refine m_open 2 rfl fun ns Fk => ?_
  refine m_ss (ss_set 4 sc__law_right.nd (P := xP (fun d : Int => 0 ≤ d ∧ d < 30) fun d => dP K (.list [.int d, .int 400])) ?_) ?_
  · refine ed_i ?_ (ed_lst (ea_cons (ed_takeN T hr (by decide) hb (by rfl) (ed_var 0) ed_int (by decide) (by decide)) (ea_cons ed_int ea_nil)))
    rintro v G ⟨t, xs, rfl, h2, h3⟩
    obtain ⟨x, y, rfl, ⟨i, hi, q1⟩, q2⟩ := allp2 h3
    exact ⟨i, hi, imp_dl (ds := [.int i, .int 400]) _ _ ⟨_, [x, y], rfl, h2, .cons q1 (.cons q2 .nil)⟩⟩
  refine m_open 4 rfl fun d hd => ?_
  refine m_st (sm_setLcM (γ := List Bk) (α := Nat) (i := 5) rfl sc__law_right.nd [("_law_more", 6)] rfl (by rfl) (sw_true rfl rfl rfl (by decide +kernel)) (blkOk_by (N := n__law_right) (sc := defScope s__law_right) (by decide +kernel)) (List.range 3) (fun j => dP K (.int (j : Nat))) (es_range (n := 3) (by rfl) T.z_range (by decide) ed_int) (by decide) (ThreeOk sea h ns) (fun z => z.flatMap (hsB K C) ++ [(PT, tabHP qR)]) (fun z => z.map fun b => eP (.ref b.a)) [] ⟨rfl, fun _ h => by cases h⟩ rfl rfl (fun i z cz => by rw [List.length_map]; exact cz.1) (fun j x z hx cz => ⟨[6], _, by simp, fun s H Ca cl fp D φ' hφ' => ⟨tg_name 6 sc__law_right.nd, ?_⟩⟩)) fun σ5 G5 H5 f5 => ?_
  · refine em_w ?_ (em_callM (hs := (D, lHP (z.map fun b => eP (.ref b.a))) :: (z.flatMap (hsB K C) ++ [(PT, tabHP qR)])) (oth := (D, lHP (z.map fun b => eP (.ref b.a))) :: (z.flatMap (hsB K C) ++ [(PT, tabHP qR)])) c1 hr (by decide) ⟨box, sea, h, ns, (x : Nat)⟩ ⟨S, Fk⟩ (fun y hy => by rw [hφ']; exact hbx y hy) (List.Perm.refl _) (by rfl) ?_)
    · rintro v G' H' ⟨hs', S', b, rfl, rfl, e1, e2, e3, gb⟩
      refine ⟨z ++ [b], eP (.ref b.a), ⟨by rw [List.length_append, cz.1]; rfl, fun y hy => ?_⟩, by rw [List.map_append]; rfl, rfl, ?_⟩
      · rcases List.mem_append.mp hy with hy | hy
        · exact cz.2 y hy
        · rw [List.mem_singleton.mp hy]
          exact ⟨e1, e2, e3, gb⟩
      · refine S'.perm ?_
        rw [List.flatMap_append, List.flatMap_singleton]
        exact pullC
    · exact eam_ea (ea_cons (ed_var 0) (ea_cons (ed_var 1) (ea_cons (ed_var 2) (ea_cons (ed_var 6) ea_nil))))
  obtain ⟨la, z, cz, S5, k5⟩ := f5
  obtain ⟨zl, zg⟩ := cz
  obtain ⟨b0, b1, b2, rfl⟩ : ∃ b0 b1 b2, z = [b0, b1, b2] := by
    rw [List.length_range] at zl
    match z, zl with
    | [b0, b1, b2], _ => exact ⟨b0, b1, b2, rfl⟩
  refine (?_ : M _ φ _ ((la, lHP ([b0, b1, b2].map fun b => eP (.ref b.a))) :: ([b0, b1, b2].flatMap (hsB K C) ++ [(PT, tabHP qR)])) _ _) σ5 G5 H5 S5 k5
  refine m_showL 5 rfl ?_
  exact right_mid AL hr hg hb S Fk hd (zg b0 (by simp)) (zg b1 (by simp)) (zg b2 (by simp)) fun G' H' S' => q0 (.bl true) G' H' _ (back _ _ _ S') ⟨rfl, rfl⟩
end
end Lk

/-! W26: the law itself. -/
namespace Lk
open PySem PySem.Spec PyProof.Rows L2 PySem.W
section
variable {X : Cx} {B : List Addr} {φ : Fx} {ρ : Rho} {hs : Hs} {e a b : Expr} {pos p : Pos} {FV : V → Hp → Hp → Prop}
theorem etm_notE {k : Bool} (h : Em X φ ρ hs e FV) (hf : ∀ v G H, FV v G H → v = .bl k ∧ Stt φ hs G H) (he : ∀ whole, isTrue e X.env whole = (do let v ← whole; standAt e.pos; holding [v] (truthy v)) := by intro _; rfl) : Etm X φ ρ hs (.UnaryOp .Not e pos) (!k) := fun σ G H S kn Q z =>
  pt_wt (pt_not (pt_val we_pe he)) (h σ G H S kn _ fun v G2 H2 s f => ⟨k, (hf v G2 H2 f).1, z G2 H2 s (hf v G2 H2 f).2⟩)
theorem ed_min2 {i j : Int} (hc : X.calm = true) (hg : Gl X "min") (hm : X.mg "min" = none) (ha : Ed X B ρ a (dP X.K (.int i))) (hb : Ed X B ρ b (dP X.K (.int j))) (he : starEach [a, b] X.env = (false, eval a X.env) :: starEach [b] X.env := by rfl) (he2 : starEach [b] X.env = (false, eval b X.env) :: starEach [] X.env := by rfl) (hpl : (backTo pos (starEach [b] X.env)).any (·.1) = false := by rfl) : Ed X B ρ (.Call (.Name "min" p) [a, b] [] pos) (dP X.K (.int (if j < i then j else i))) :=
  ed_callB (call_min2 hc) hg hm (by decide +kernel) (ea_cons ha (ea_cons hb ea_nil he2) he) (givesC_here fun vs G H eg r1 Q z => by
    obtain ⟨x, y, rfl, h1, h2⟩ := allp2 r1
    have h1 := dp_int h1
    have h2 := dp_int h2
    subst h1 h2
    exact ⟨i, j, rfl, z _ (.int _)⟩) (by decide) (by decide) he hpl
theorem ed_max2 {i j : Int} (hc : X.calm = true) (hg : Gl X "max") (hm : X.mg "max" = none) (ha : Ed X B ρ a (dP X.K (.int i))) (hb : Ed X B ρ b (dP X.K (.int j))) (he : starEach [a, b] X.env = (false, eval a X.env) :: starEach [b] X.env := by rfl) (he2 : starEach [b] X.env = (false, eval b X.env) :: starEach [] X.env := by rfl) (hpl : (backTo pos (starEach [b] X.env)).any (·.1) = false := by rfl) : Ed X B ρ (.Call (.Name "max" p) [a, b] [] pos) (dP X.K (.int (if j > i then j else i))) :=
  ed_callB (call_max2 hc) hg hm (by decide +kernel) (ea_cons ha (ea_cons hb ea_nil he2) he) (givesC_here fun vs G H eg r1 Q z => by
    obtain ⟨x, y, rfl, h1, h2⟩ := allp2 r1
    have h1 := dp_int h1
    have h2 := dp_int h2
    subst h1 h2
    exact ⟨i, j, rfl, z _ (.int _)⟩) (by decide) (by decide) he hpl
end
/-- what the law promises: with its one table still empty, it ends with True -/
def spLaw (K : PySem.W.Frag) (PT : Addr) : Sp := fun vs H Q _ => ∃ (a : Addr) (ns : List Int), vs = [.ref a] ∧ ns.length ≤ 63 ∧ SqL K H a (ns.map V.int) ∧ H PT = some (.tbl #[]) ∧ ∀ H', Q (.bl true) H'
theorem sql_less {K : PySem.W.Frag} {H : Hp} {a t : Addr} {xs : List V} (ht : H t = some (.tbl #[])) (h : SqL K H a xs) : SqL K (fun b => if b = t then none else H b) a xs := by
  unfold SqL at h ⊢
  rcases h with (h | ⟨o, h⟩) | h
  · refine .inl (.inl ?_)
    show (if a = t then none else H a) = _
    rw [if_neg (fun e => by rw [e, ht] at h; cases h)]
    exact h
  · refine .inl (.inr ⟨o, ?_⟩)
    show (if a = t then none else H a) = _
    rw [if_neg (fun e => by rw [e, ht] at h; cases h)]
    exact h
  · exact .inr h
theorem stt_table {H : Hp} {t : Addr} {q : Str} (ht : H t = some (.tbl #[])) : Stt ⟨[], (fun b => if b = t then none else H b), (fun b => if b = t then none else H b), (fun b => if b = t then none else H b)⟩ [(t, tabHP q)] (fun b => if b = t then none else H b) H := by
  have sm : Same (fun b => if b = t then none else H b) H := fun b o h => by
    have h : (if b = t then none else H b) = some o := h
    by_cases e : b = t
    · rw [if_pos e] at h
      cases h
    · rw [if_neg e] at h
      exact h
  refine ⟨⟨sm, (fun _ h => by cases h), (fun a xs h => ?_)⟩, (fun _ h => by cases h), Same.refl _, sstp sm, (fun _ _ _ => rfl), (fun x hx => ?_), (by simp), Same.refl _⟩
  · show (if a = t then none else H a) = _
    rw [if_neg (fun e => by rw [e, ht] at h; cases h)]
    exact h
  · rw [List.mem_singleton.mp hx]
    exact ⟨if_pos rfl, if_pos rfl, .tbl #[], ht, #[], rfl, trivial, fun pos cv hc => by cases hc⟩
section
variable {P : Program} {w : World} {K : PySem.W.Frag} {mg : Str → Option Value} {base : Heap} {C CN CM PT c : Addr}
abbrev lX (P : Program) (w : World) (K : PySem.W.Frag) (mg : Str → Option Value) (base : Heap) (f : Addr) (cdv : Value) (A : Around) (outer : List Env) (s : Shared) (H : Hp) (E : XK) : Cx := (cxOf CX0 P w K mg base n_law "law" (defScope s_law) f cdv A outer s H E).nox
theorem fn_law (AL : All P w K mg base C CN CM PT c) (HR : ∃ (f : Addr) (fd : FuncData), mg "_law_right" = some (.ref f) ∧ FunD K "_law_right" "_law_right" (defArgs s__law_right) (defBody s__law_right) (defScope s__law_right) [] [] f fd ∧ fd.code = .ref c) {f : Addr} {fd : FuncData} (F : FunD K "law" "law" (defArgs s_law) (defBody s_law) (defScope s_law) [] [] f fd) : FnG P w K mg base 13 f fd ["_law_script"] (spLaw K PT) := by
  have c1 := c_right AL HR
  have c2 := c_box (P := P) (w := w) (base := base) AL.T
  have T := AL.T
  refine fn_mkG0 F sc_law (fun vs H Q E hq => ?_) fun cdv A outer s H vs Q E hr hg hq => ?_
  · obtain ⟨a, ns, rfl, _⟩ := hq
    rfl
  obtain ⟨a, ns, rfl, hl, h1, h2, q0⟩ := hq
  refine (?_ : M _ _ (rho0 n_law [sqP K ns]) [(PT, tabHP qR)] _ _) (L2.start n_law [.ref a]) _ H (stt_table (q := qR) h2) (kn_start (.cons ⟨a, rfl, sql_less h2 h1⟩ .nil))
  refine m_forX PassesOwn.never rfl (es_rangeX (S := fun n : Nat => n ≤ 2) (by rfl) T.z_range (fun n hn => by omega) (ed_i ?_ (ed_max2 rfl (by rfl) T.z_max ed_int (ed_min2 rfl (by rfl) T.z_min (ed_lenS (ns := ns) (by rfl) T.z_len (ed_var 0)) ed_int)))) (fun _ _ (_ : Unit) => True) (fun _ => [(PT, tabHP qR)]) (fun _ => [some (sqP K ns), none, none]) () (fun _ _ => trivial) rfl rfl ?_ ?_
  · intro v G q
    refine ⟨(if (if (2 : Int) < (ns.length : Int) then (2 : Int) else (ns.length : Int)) > 1 then (if (2 : Int) < (ns.length : Int) then (2 : Int) else (ns.length : Int)) else 1).toNat, ?_, ?_⟩
    · split <;> (try split) <;> omega
    · show (dP K (.int _)).p v G
      rw [Int.toNat_of_nonneg (by split <;> (try split) <;> omega)]
      exact q
  · rintro n hn i Pi z hPi _ φ1 hφ1
    rw [List.getElem?_map] at hPi
    obtain ⟨k, hk, rfl⟩ := Option.map_eq_some_iff.mp hPi
    have k2 : k ≤ 2 := by
      have := List.mem_range.mp (List.mem_of_getElem? hk)
      have hn : n ≤ 2 := hn
      omega
    refine ⟨[1], _, tg_name 1 sc_law.nd, fun D1 hD1 hn1 => ?_⟩
    refine m_for PassesOwn.never rfl (es_range (n := 2) (by rfl) T.z_range (by decide) ed_int) (fun _ (_ : Unit) => True) (fun _ => [(PT, tabHP qR)]) (fun _ => [some (sqP K ns), some (dP K (.int (k : Nat))), none]) () trivial rfl rfl ?_ ?_
    · rintro i2 Pi2 z2 hPi2 _ φ2 hφ2 bk2
      rw [List.getElem?_map] at hPi2
      obtain ⟨l, hl2, rfl⟩ := Option.map_eq_some_iff.mp hPi2
      have l2 : l < 2 := List.mem_range.mp (List.mem_of_getElem? hl2)
      refine ⟨[2], _, tg_name 2 sc_law.nd, fun D2 hD2 hn2 => ?_⟩
      refine m_no ?_ ?_
      · refine etm_to (k := !true) rfl (etm_notE (FV := fun v G H => ∃ (z : Addr) (hs' : Hs), Stt φ2 (hs' ++ []) G H ∧ (v = .bl true ∧ hs' = [(PT, tabHP qR)])) ?_ ?_)
        · refine em_callMG1 c1 hr hg (by decide) (by rfl) (FV := fun v G H => ∃ hs', Stt φ2 (hs' ++ [(PT, tabHP qR)]) G H ∧ ∃ a, v = .ref a ∧ hs' = [(a, boxH K)]) ?_ ?_
          · refine em_w (fun v G H h => h) (em_callM (X := lX P w K mg base f cdv A outer s H E) c2 hr (by decide) (ns, k, l) ⟨by show k ≤ 1000; omega, by show l ≤ 1000; omega⟩ (fun _ h => by cases h) (List.Perm.refl _) (by rfl) (eam_ea (ea_cons (ed_var 0) (ea_cons (ed_var 1) (ea_cons (ed_var 2) ea_nil)))))
          · rintro v G H ⟨hs', S, b, rfl, rfl⟩
            exact ⟨b, _, trivial, (fun _ h => by cases h), List.Perm.refl _, S, .cons rfl .nil⟩
        · rintro v G H ⟨z, hs', S, rfl, rfl⟩
          exact ⟨rfl, S⟩
      · exact m_nil fun σ3 G3 H3 S3 k3 => hn2 () trivial σ3 G3 H3 S3 (k3.forget 2)
    · rintro z _
      exact m_nil fun σ3 G3 H3 S3 k3 => hn1 () trivial σ3 G3 H3 S3 (k3.forget 1)
  · rintro n hn z _
    exact m_ret (em_ed ed_bl) fun v G H ⟨S, r⟩ => by
      have r := dp_bl r
      subst r
      exact q0 H
end
end Lk

/-! W27: the end: the law is called, with one table of code objects, in a world that watches nothing. -/
namespace Lk
open PySem PySem.Spec PyProof.Rows L2 PySem.W
theorem law_end {P : Program} {w : World} {K : PySem.W.Frag} {mg mb : Str → Option Value} {k : Nat} {fa a c t : Addr} {fd : FuncData} {x : Str} {sp : Sp} {st : Shared} {vs : List Value} {ns : List Int}
    (KX : K.In st.heap) (nsG : st.heap.Ns mainGlobals mg) (nsB : st.heap.Ns builtinsNs mb) (boot : ∀ y : Str, y ≠ "__name__" → mb y = bootBuiltins y) (lim : st.heap.NoLimit) (gens : st.gens = #[])
    (tT : st.heap.get? t = some { cls := .none, data := .fields #[] }) (tK : K.lookup t = none) (cT : PySem.W.CodeHd st.heap c t)
    (bmod : ∃ (bm : Addr) (ob : Obj), mg "__builtins__" = some (.ref bm) ∧ bm ≠ builtinsNs ∧ st.heap.get? bm = some ob ∧ ob.cls = .type "module" ∧ ob.dict = some builtinsNs ∧ ob.data = .plain)
    (aT : st.heap.get? a = some { cls := .type "list", data := .seq vs.toArray }) (whole : IntsAre vs ns) (len : ns.length ≤ sizeLine) (room : Room k callerA)
    (F : ∀ base : Heap, K.In base → base.Ns mainGlobals mg → LamX.TabB base mg c t → FnG P w K mg base k fa fd [x] sp) (binds : BindsTo st fd ⟨[.ref a], []⟩ [(x, .ref a)])
    (asks : ∀ H : Hp, H t = some (.tbl #[]) → SqL K H a (ns.map V.int) → sp [.ref a] H (fun v _ => v = .bl true) fun _ _ _ => False) :
    codeAny (model P w) callerA (.call (.ref fa) ⟨[.ref a], []⟩) (fun r s' => r = .ok (.ret (.bool true)) ∧ OldK st.heap s'.heap ∧ s'.os = st.os ∧ AllBare s'.gens) st := by
  have rv := vals_ints whole
  have at_ : a ≠ t := fun e => by
    rw [e, tT] at aT
    cases aT
  -- followed from the start: the table; the script, if it is no object of the module
  obtain ⟨H, hH⟩ : ∃ H : Hp, ∀ b, H b = if b = t then some (.tbl #[]) else if b = a ∧ K.lookup a = none then some (.frz { cls := .type "list", data := .seq vs.toArray } (.lst (ns.map V.int))) else none := ⟨_, fun _ => rfl⟩
  have onT : H t = some (.tbl #[]) := by rw [hH, if_pos rfl]
  have off : ∀ {b : Addr}, b ≠ t → (b = a → K.lookup a ≠ none) → H b = none := fun {b} h1 h2 => by rw [hH, if_neg h1, if_neg fun z => h2 z.1 z.2]
  have cases_ : ∀ {b : Addr} {u : HO}, H b = some u → (b = t ∧ u = .tbl #[]) ∨ (b = a ∧ K.lookup a = none ∧ u = .frz { cls := .type "list", data := .seq vs.toArray } (.lst (ns.map V.int))) := fun {b u} e => by
    rw [hH] at e
    by_cases h1 : b = t
    · rw [if_pos h1] at e
      exact .inl ⟨h1, (Option.some.inj e).symm⟩
    · rw [if_neg h1] at e
      by_cases h2 : b = a ∧ K.lookup a = none
      · rw [if_pos h2] at e
        exact .inr ⟨h2.1, h2.2, (Option.some.inj e).symm⟩
      · rw [if_neg h2] at e
        cases e
  have okH : HOk P w H st.heap := fun b u e => by
    rcases cases_ e with ⟨rfl, rfl⟩ | ⟨rfl, _, rfl⟩
    · exact tT
    · exact ⟨aT, by rw [List.length_map]; exact len, vs, _, rv, aT⟩
  have script : SqL K H a (ns.map V.int) := by
    cases e : K.lookup a with
    | none => exact .inl (.inr ⟨_, by rw [hH, if_neg at_, if_pos ⟨rfl, e⟩]⟩)
    | some o =>
      have e2 := KX a o e
      rw [aT] at e2
      cases e2
      exact .inr ⟨_, vs.toArray, _, e, rfl, rfl, rfl, by rw [List.size_toArray, whole.length]; exact len, by simpa using rv⟩
  -- what is hidden for the walk: just these
  have seen : ∀ {b : Addr} {o : Obj}, st.heap.get? b = some o → (∀ xs n, o.data ≠ .seq xs n) → o.data ≠ .fields #[] → (hidT st.heap H).get? b = some o := fun {b o} e h1 h2 => by
    refine hidT_get e (off (fun z => ?_) fun z _ => ?_)
    · rw [z, tT] at e
      cases e
      exact h2 rfl
    · rw [z, aT] at e
      cases e
      exact h1 _ _ rfl
  have inK : K.In (hidT st.heap H) := fun b o e => by
    refine hidT_get (KX b o e) (off (fun z => ?_) fun z h => ?_)
    · rw [z, tK] at e
      cases e
    · rw [z, h] at e
      cases e
  have names_ : ∀ {b : Addr} {m : Str → Option Value}, st.heap.Ns b m → (hidT st.heap H).Ns b m := fun {b m} ⟨o, es, ep, e, d, r⟩ => by
    refine ⟨o, es, ep, seen e (fun xs n z => ?_) (fun z => ?_), d, r⟩
    · rw [d] at z
      cases z
    · rw [d] at z
      cases z
  have tab : LamX.TabB (hidT st.heap H) mg c t := by
    refine ⟨?_, ?_, fun z => ?_⟩
    · obtain ⟨o, us, file, tf, flags, tg, inF, text, tt, e1, r1, r2, r3, r⟩ := cT
      refine ⟨o, us, file, tf, flags, tg, inF, text, tt, seen e1 (fun xs n z => ?_) (fun z => ?_), r1, r2, r3, r⟩
      · rw [r2] at z
        cases z
      · rw [r2] at z
        cases z
        simp at r3
    · obtain ⟨bm, ob, b1, b2, b3, b4, b5, b6⟩ := bmod
      have nG : bm ≠ mainGlobals := fun q => by
        obtain ⟨o, es, ep, e, hd, _⟩ := nsG
        rw [q, e] at b3
        cases b3
        rw [hd] at b6
        cases b6
      have nT : bm ≠ t := fun q => by
        rw [q, tT] at b3
        cases b3
        cases b6
      refine ⟨bm, ob, b1, b2, nG, nT, seen b3 (fun xs n z => ?_) (fun z => ?_), b4, b5, b6⟩
      · rw [b6] at z
        cases z
      · rw [b6] at z
        cases z
    · obtain ⟨o, es, ep, e, hd, _⟩ := nsG
      rw [z, tT] at e
      cases e
      cases hd
  obtain ⟨mc, lim1, lim2⟩ := lim
  have e0 : Env0 P w K mg (hidT st.heap H) callerA [] st H :=
    { frames := rfl, mod := ⟨inK, names_ nsG, ⟨mb, names_ nsB, boot⟩, ⟨mc, names_ lim1, lim2⟩⟩, bs := fun b o e => of_hidT e, bsz := Nat.le_of_eq (hidT_size _ _), funs := trivial,
      frf := fun b hb => absurd (show b ∈ ([] : List Addr) from hb) (by simp), hok := okH, bare := .of_eq gens }
  refine codeAny_mono ((F _ inK (names_ nsG) tab).go callerA [] st H ⟨[.ref a], []⟩ [.ref a] [.ref a] _ _ room rfl e0 binds (.cons rfl .nil) (asks H onT script)) fun r s' h => ?_
  match r, h with
  | .error e, h => exact (show False from h).elim
  | .ok .next, h => exact False.elim h
  | .ok .brk, h => exact False.elim h
  | .ok .cont, h => exact False.elim h
  | .ok (.ret u), h =>
    obtain ⟨v, H', os, bare, un, okH', rel, q⟩ := h
    obtain rfl : v = .bl true := q
    obtain rfl : u = Value.bool true := rel
    obtain ⟨more, grown⟩ := un.tbls t #[] onT
    have grownT := okH' t _ grown
    have kept : ∀ b o, b ≠ t → st.heap.get? b = some o → s'.heap.get? b = some o := fun b o nb e => by
      cases q : H b with
      | none => exact un.keep b o e q (by intro z; exact absurd (show b ∈ ([] : List Addr) from z) (by simp)) (by simp)
      | some u =>
        rcases cases_ q with ⟨z, _⟩ | ⟨_, _, rfl⟩
        · exact absurd z nb
        · have q2 := un.frzs b _ _ q
          obtain ⟨e1, _⟩ := okH b _ q
          obtain ⟨e2, _⟩ := okH' b _ q2
          rw [e] at e1
          cases e1
          exact e2
    refine ⟨rfl, ⟨fun b o e => ?_, fun b o e => ?_⟩, os, bare⟩
    · by_cases hb : b = t
      · subst hb
        rw [tT] at e
        cases e
        exact .inr (.inl ⟨(cT.tab tT).isCodeTable, rfl, #[], more, rfl, grownT⟩)
      · exact .inl (kept b o hb e)
    · by_cases hb : b = t
      · subst hb
        exact ⟨_, grownT⟩
      · exact ⟨o, kept b o hb e⟩
end Lk

/-! Hd1: what the head tells, as the walk asks it. Printed by gh3.py. -/
namespace Lk
open PySem PySem.Spec PyProof.Rows L2 PySem.W
section
variable {w : World} {K : PySem.W.Frag} {h : Heap} {mg : Str → Option Value}
theorem defT_of (X : K.In h) (G : h.Ns mainGlobals mg) (c : He.SaysD fa fn K) (i j : Nat) {d : He.DefD} {x : Str} {st : Stmt} (hd : fn[i]? = some d) (hf : fa[j]? = some (.glo x)) (e : d = ⟨(x, none), x, x, defArgs st, defBody st, defScope st, [], []⟩) : DefT K mg x st := by
  obtain ⟨fd, F⟩ := c.def_ i hd
  subst e
  exact ⟨_, fd, He.glo_ok X G (c.fact j hf), F⟩
theorem metT_of (c : He.SaysD fa fn K) (i j : Nat) {d : He.DefD} {m q : Str} {st : Stmt} (hd : fn[i]? = some d) (hf : fa[j]? = some (.meth "Book" m)) (e : d = ⟨("Book", some m), m, q, defArgs st, defBody st, defScope st, [], []⟩) : MetT K (He.ga K "Book") m q st := by
  obtain ⟨fd, F⟩ := c.def_ i hd
  subst e
  exact ⟨_, fd, He.meth_ok (c.fact j hf), F⟩
theorem tx_of (X : K.In h) (G : h.Ns mainGlobals mg) (c : He.SaysD fa fn K) : TX K mg where
  f_is_whole := defT_of X G c 0 0 rfl rfl rfl
  f_is_column := defT_of X G c 1 1 rfl rfl rfl
  f_is_sea := defT_of X G c 2 2 rfl rfl rfl
  f_need_sea := defT_of X G c 3 3 rfl rfl rfl
  f_is_cell := defT_of X G c 4 4 rfl rfl rfl
  f_need_draught := defT_of X G c 5 5 rfl rfl rfl
  f_need_day := defT_of X G c 6 6 rfl rfl rfl
  f_depth_at := defT_of X G c 7 7 rfl rfl rfl
  f_with_depth := defT_of X G c 8 8 rfl rfl rfl
  f_waters_beside := defT_of X G c 9 9 rfl rfl rfl
  f_drifted := defT_of X G c 10 10 rfl rfl rfl
  f_is_mark := defT_of X G c 11 11 rfl rfl rfl
  f_is_laying := defT_of X G c 12 12 rfl rfl rfl
  f_is_deed := defT_of X G c 13 13 rfl rfl rfl
  f_notice_in := defT_of X G c 14 14 rfl rfl rfl
  f_notices_in := defT_of X G c 15 15 rfl rfl rfl
  f_need_notices := defT_of X G c 16 16 rfl rfl rfl
  f_need_held := defT_of X G c 17 17 rfl rfl rfl
  f_order_of := defT_of X G c 18 18 rfl rfl rfl
  f_held_notices := defT_of X G c 19 19 rfl rfl rfl
  f_with_mark := defT_of X G c 20 20 rfl rfl rfl
  f_laid := defT_of X G c 21 21 rfl rfl rfl
  f_lifted := defT_of X G c 22 22 rfl rfl rfl
  f_blown := defT_of X G c 23 23 rfl rfl rfl
  f_cells_of := defT_of X G c 24 24 rfl rfl rfl
  f_sighted := defT_of X G c 25 25 rfl rfl rfl
  f_sounded := defT_of X G c 26 26 rfl rfl rfl
  f_gone_through := defT_of X G c 27 27 rfl rfl rfl
  f_void := defT_of X G c 28 28 rfl rfl rfl
  f_need_known := defT_of X G c 29 29 rfl rfl rfl
  f_place_of := defT_of X G c 30 30 rfl rfl rfl
  f_mark_at := defT_of X G c 31 31 rfl rfl rfl
  f_standing_by := defT_of X G c 32 32 rfl rfl rfl
  f_counting := defT_of X G c 33 33 rfl rfl rfl
  f_is_wrong := defT_of X G c 34 34 rfl rfl rfl
  f_open_rows := defT_of X G c 35 35 rfl rfl rfl
  f_channel_of := defT_of X G c 36 36 rfl rfl rfl
  f__law_cell := defT_of X G c 37 37 rfl rfl rfl
  f__law_mix := defT_of X G c 38 38 rfl rfl rfl
  f__law_box := defT_of X G c 39 39 rfl rfl rfl
  f__law_take := defT_of X G c 40 40 rfl rfl rfl
  f__law_sea := defT_of X G c 41 41 rfl rfl rfl
  f__law_spot := defT_of X G c 42 42 rfl rfl rfl
  f__law_deed := defT_of X G c 43 43 rfl rfl rfl
  f__law_notices := defT_of X G c 44 44 rfl rfl rfl
  f__law_which := defT_of X G c 45 45 rfl rfl rfl
  f__law_said := defT_of X G c 46 46 rfl rfl rfl
  f__law_shown := defT_of X G c 47 47 rfl rfl rfl
  f__law_order := defT_of X G c 48 48 rfl rfl rfl
  f__law_filled := defT_of X G c 49 49 rfl rfl rfl
  f__law_right := defT_of X G c 50 50 rfl rfl rfl
  f_law := defT_of X G c 51 51 rfl rfl rfl
  z_isinstance := He.free_ok X G (c.fact 81 (f := .free "isinstance") rfl)
  z_len := He.free_ok X G (c.fact 82 (f := .free "len") rfl)
  z_all := He.free_ok X G (c.fact 83 (f := .free "all") rfl)
  z_any := He.free_ok X G (c.fact 84 (f := .free "any") rfl)
  z_sorted := He.free_ok X G (c.fact 85 (f := .free "sorted") rfl)
  z_set := He.free_ok X G (c.fact 86 (f := .free "set") rfl)
  z_tuple := He.free_ok X G (c.fact 87 (f := .free "tuple") rfl)
  z_list := He.free_ok X G (c.fact 88 (f := .free "list") rfl)
  z_dict := He.free_ok X G (c.fact 89 (f := .free "dict") rfl)
  z_enumerate := He.free_ok X G (c.fact 90 (f := .free "enumerate") rfl)
  z_range := He.free_ok X G (c.fact 91 (f := .free "range") rfl)
  z_divmod := He.free_ok X G (c.fact 92 (f := .free "divmod") rfl)
  z_int := He.free_ok X G (c.fact 93 (f := .free "int") rfl)
  z_bool := He.free_ok X G (c.fact 94 (f := .free "bool") rfl)
  z_str := He.free_ok X G (c.fact 95 (f := .free "str") rfl)
  z_abs := He.free_ok X G (c.fact 96 (f := .free "abs") rfl)
  z_min := He.free_ok X G (c.fact 97 (f := .free "min") rfl)
  z_max := He.free_ok X G (c.fact 98 (f := .free "max") rfl)
  z_repr := He.free_ok X G (c.fact 99 (f := .free "repr") rfl)
  z_ValueError := He.free_ok X G (c.fact 100 (f := .free "ValueError") rfl)
  i_MOST_COLUMNS := He.int_ok X G (c.fact 73 (f := .int "MOST_COLUMNS" 16) rfl)
  i_MOST_ROWS := He.int_ok X G (c.fact 74 (f := .int "MOST_ROWS" 9) rfl)
  i_MOST_DEPTH := He.int_ok X G (c.fact 75 (f := .int "MOST_DEPTH" 9) rfl)
  i_LAST_DAY := He.int_ok X G (c.fact 76 (f := .int "LAST_DAY" 400) rfl)
  i_LAST_NUMBER := He.int_ok X G (c.fact 77 (f := .int "LAST_NUMBER" 99) rfl)
  i_LAST_MARK := He.int_ok X G (c.fact 78 (f := .int "LAST_MARK" 12) rfl)
  i_MOST_NOTICES := He.int_ok X G (c.fact 79 (f := .int "MOST_NOTICES" 30) rfl)
  i_MOST_STRENGTH := He.int_ok X G (c.fact 80 (f := .int "MOST_STRENGTH" 9) rfl)
theorem bkOk_of (X : K.In h) (G : h.Ns mainGlobals mg) (c : He.SaysD fa fn K) : BkOk K mg (He.ga K "Book") where
  at_ := He.glo_ok X G (c.fact 71 (f := .glo "Book") rfl)
  cls := He.cls_ok (c.fact 101 (f := .cls "Book") rfl)
  n1 := He.noat_ok (c.fact 103 (f := .noat "Book" "own_sea") rfl)
  n2 := He.noat_ok (c.fact 104 (f := .noat "Book" "own_kept") rfl)
  n3 := He.noat_ok (c.fact 105 (f := .noat "Book" "own_past") rfl)
theorem bkMet_of (c : He.SaysD fa fn K) : BkMet K (He.ga K "Book") where
  be := metT_of c 53 107 rfl rfl rfl
  ta := metT_of c 54 108 rfl rfl rfl
  st := metT_of c 55 109 rfl rfl rfl
  un := metT_of c 56 110 rfl rfl rfl
  nn := metT_of c 57 111 rfl rfl rfl
  mn := metT_of c 58 112 rfl rfl rfl
  cn := metT_of c 59 113 rfl rfl rfl
  vn := metT_of c 60 114 rfl rfl rfl
theorem bkInit_of (c : He.SaysD fa fn K) : BkInit K (He.ga K "Book") := by
  obtain ⟨fd, F⟩ := c.def_ 52 (d := d_Book_init) rfl
  exact ⟨_, fd, He.mkr_ok (c.fact 102 (f := .mkr "Book") rfl), F⟩
theorem exOk_of (X : K.In h) (G : h.Ns mainGlobals mg) (c : He.SaysD fa fn K) (e : exB K = true) : ExOk K mg (He.ga K "Nothing") (He.ga K "MarkError") := by
  obtain ⟨_, e⟩ := He.ba e
  obtain ⟨n, i⟩ := He.ba e
  obtain ⟨n1, n⟩ := He.ba n
  obtain ⟨n2, n⟩ := He.ba n
  obtain ⟨n3, n⟩ := He.ba n
  obtain ⟨n4, n⟩ := He.ba n
  obtain ⟨n5, n⟩ := He.ba n
  obtain ⟨n6, n7⟩ := He.ba n
  obtain ⟨i1, i⟩ := He.ba i
  obtain ⟨i2, i3⟩ := He.ba i
  obtain ⟨x1, x2, x3, x4⟩ := He.exc_ok (c.fact 115 (f := .exc "Nothing") rfl)
  have i1 : ∀ x ∈ exNames, PySem.W.kitOne K (.ref (He.ga K "Nothing")) (.ref (He.ga K x)) = some false := fun x hx => of_decide_eq_true (List.all_eq_true.mp i1 x hx)
  exact {
    nat := He.glo_ok X G (c.fact 67 (f := .glo "Nothing") rfl)
    mat := He.glo_ok X G (c.fact 52 (f := .glo "MarkError") rfl)
    exc := ⟨He.eqO_ok n1, He.eqO_ok n2, x3, n3, He.eqO_ok n4, He.eqO_ok n5, of_decide_eq_true n6, of_decide_eq_true n7⟩
    xi := x1
    kp := x2
    sub := x3
    ty := x4
    exm := He.exm_ok (c.fact 116 (f := .exm "Nothing" "MarkError" true) rfl)
    me := of_decide_eq_true i2
    ve := of_decide_eq_true i3
    isi := fun x hx => ⟨He.ga K x, by
      simp only [List.mem_cons, List.not_mem_nil, or_false] at hx
      rcases hx with rfl | rfl | rfl | rfl | rfl | rfl | rfl | rfl | rfl | rfl | rfl | rfl | rfl | rfl | rfl | rfl | rfl
      · exact He.glo_ok X G (c.fact 53 (f := .glo "NoSea") rfl)
      · exact He.glo_ok X G (c.fact 54 (f := .glo "NoCell") rfl)
      · exact He.glo_ok X G (c.fact 55 (f := .glo "NoDraught") rfl)
      · exact He.glo_ok X G (c.fact 56 (f := .glo "NoDay") rfl)
      · exact He.glo_ok X G (c.fact 57 (f := .glo "NoNotices") rfl)
      · exact He.glo_ok X G (c.fact 58 (f := .glo "NoNumber") rfl)
      · exact He.glo_ok X G (c.fact 59 (f := .glo "NoMark") rfl)
      · exact He.glo_ok X G (c.fact 60 (f := .glo "NoChannel") rfl)
      · exact He.glo_ok X G (c.fact 61 (f := .glo "NoSightings") rfl)
      · exact He.glo_ok X G (c.fact 62 (f := .glo "NoFairway") rfl)
      · exact He.glo_ok X G (c.fact 63 (f := .glo "NoSide") rfl)
      · exact He.glo_ok X G (c.fact 64 (f := .glo "NoColumns") rfl)
      · exact He.glo_ok X G (c.fact 65 (f := .glo "NoLine") rfl)
      · exact He.glo_ok X G (c.fact 66 (f := .glo "There") rfl)
      · exact He.glo_ok X G (c.fact 68 (f := .glo "Unlike") rfl)
      · exact He.glo_ok X G (c.fact 69 (f := .glo "NoText") rfl)
      · exact He.glo_ok X G (c.fact 70 (f := .glo "TooMany") rfl), i1 x hx⟩ }
theorem deeds_of (X : K.In h) (G : h.Ns mainGlobals mg) (c : He.SaysT fa fn ts w K) (e : exB K = true) : DeedsOk K w mg := by
  obtain ⟨e, _⟩ := He.ba e
  obtain ⟨es, n, D⟩ := c.tab 0 (t := ((fun K => He.ga K "DEEDS"), ["lay", "lift", "gale", "seen", "depth"])) rfl
  have at_ : ∀ (i j : Nat) {k y : Str}, deedsKv[i]? = some (k, .glo y) → fa[j]? = some (.glo y) → ∃ f, mg y = some (.ref f) ∧ KDct K w (He.ga K "DEEDS") k (.ref f) := fun i j {k y} h1 h2 => by
    obtain ⟨u, u1, u2⟩ := He.valsB_ok e (List.mem_of_getElem? h1)
    exact ⟨_, He.glo_ok X G (c.d.fact j h2), es, n, u, D.at_, D.lit, u1, u2⟩
  exact ⟨_, He.glo_ok X G (c.d.fact 72 (f := .glo "DEEDS") rfl), at_ 0 21 rfl rfl, at_ 1 22 rfl rfl, at_ 2 23 rfl rfl, at_ 3 25 rfl rfl, at_ 4 26 rfl rfl⟩
theorem right_of (X : K.In h) (G : h.Ns mainGlobals mg) (c : He.SaysD fa fn K) : ∃ (f : Addr) (fd : FuncData), mg "_law_right" = some (.ref f) ∧ FunD K "_law_right" "_law_right" (defArgs s__law_right) (defBody s__law_right) (defScope s__law_right) [] [] f fd ∧ fd.code = .ref (He.cT K ("_law_right", none)).1 := by
  obtain ⟨fd, F⟩ := c.def_ 50 (d := d__law_right) rfl
  refine ⟨_, fd, He.glo_ok X G (c.fact 50 (f := .glo "_law_right") rfl), F, ?_⟩
  obtain ⟨oc, od, dV, kV, doc, pm, an, cdv, ct, osl, rfl, lk, hcd, _, _⟩ := F.ex
  obtain ⟨q, rfl⟩ := He.codeIn_ref hcd
  exact congrArg Value.ref (He.codeOf_eq lk rfl).symm
end
end Lk

/-! Hd2: the head, joined; the law. -/
namespace Lk
open PySem PySem.W PySem.Calls PyProof.Rows
theorem opt_join {S A B C D : Type} {o : Option S} {f1 : S → A} {f2 : S → B} {f3 : S → C × D} {a : A} {b : B} {c : C} {d : D} (h1 : o.map f1 = some a) (h2 : o.map f2 = some b) (h3 : o.map (fun s => (f3 s).1) = some c) (h4 : o.map (fun s => (f3 s).2) = some d) : o.map (fun s => (f1 s, f2 s, f3 s)) = some (a, b, (c, d)) := by
  cases o with
  | none => cases h1
  | some s =>
    have e1 : f1 s = a := Option.some.inj h1
    have e2 : f2 s = b := Option.some.inj h2
    have e3 : (f3 s).1 = c := Option.some.inj h3
    have e4 : (f3 s).2 = d := Option.some.inj h4
    show some (f1 s, f2 s, f3 s) = some (a, b, (c, d))
    rw [e1, e2, ← e3, ← e4]
theorem run_f (w : World) : HandSHeadRun.RunEq R (PySem.W.view R.prog [87]) hk ob 9000 names (w.withFollow "special-get-raises" false) := fun os => opt_join (run_looks_f w os) (run_seen_f w os) (run_d_f w os) (run_x_f w os)
theorem run_t (w : World) : HandSHeadRun.RunEq R (PySem.W.view R.prog [87]) hk ob 9000 names (w.withFollow "special-get-raises" true) := fun os => opt_join (run_looks_t w os) (run_seen_t w os) (run_d_t w os) (run_x_t w os)
theorem run_all (w : World) : HandSHeadRun.RunEq R (PySem.W.view R.prog [87]) hk ob 9000 names w := PySem.W.byRow2 "special-get-raises" (P := fun w => HandSHeadRun.RunEq R (PySem.W.view R.prog [87]) hk ob 9000 names w) run_f run_t w
end Lk

/-! Hd3: the law holds. -/
namespace Lk
open PySem PySem.Spec PyProof.Rows L2 PySem.W
theorem law_top : (HandSHeadRun.topDef R.prog 87).name = ("law" : Str) := by kernel_rfl
theorem law_walk : PySem.W.WalkO (PySem.W.view R.prog [87]) names (XL (PySem.W.view R.prog [87]) []) hk.says R.toRowW (HandSHeadRun.topDef R.prog 87) [] (fun f vs => PySem.call f vs) := by
  refine Att.attach_callB (l := PySem.Challenge.rw_laidmarks_k62_whole_books) (n := 63) rfl (by kernel_rfl) fun w s₀ s₁ mg mb fad o pm cd doc a vs ns G Y ho hd hcd hmg hobj hints hlen hbits hg => ?_
  obtain ⟨K, X, c⟩ := Y
  rw [law_top] at hmg
  have D := c.t.d
  have Gm := G.T.g
  obtain ⟨fl, fd, h1, F⟩ := (tx_of X Gm D).f_law
  have e : fad = fl := by
    rw [hmg] at h1
    cases h1
    rfl
  subst e
  have hp : (("_law_right", none) : He.Defn) ∈ tf := List.mem_cons_self
  have b := FunD.bindsA (ps := ["_law_script"]) F fun _ _ _ _ _ _ us hl => match us, hl with | [_], _ => rfl
  refine law_end (c := (He.cT K ("_law_right", none)).1) (t := (He.cT K ("_law_right", none)).2) (sp := spLaw K (He.cT K ("_law_right", none)).2) (fd := fd) (k := 13) (x := "_law_script") X Gm G.T.b G.T.builtins G.T.nolimit hg (c.empty _ hp) (c.out _ hp) (PySem.W.codeHd_of_K X (c.hd _ hp)) G.T.bmain hobj hints (Nat.le_trans hlen (by decide)) ⟨rfl, by decide, by decide⟩ (fun base _ _ TB => ?_) (b s₁ [.ref a] rfl) fun H hT hS => ⟨a, ns, rfl, hlen, hS, hT, fun _ => rfl⟩
  exact fn_law (C := He.ga K "Book") (CN := He.ga K "Nothing") (CM := He.ga K "MarkError") ⟨tx_of X Gm D, deeds_of X Gm c.t c.more, bkOk_of X Gm D, bkMet_of D, bkInit_of D, exOk_of X Gm D c.more, TB⟩ (right_of X Gm D) F
end Lk
open PySem PySem.W PySem.Calls PyProof.Rows
theorem PySem.Challenge.cw_laidmarks_k62_whole_books_holds : PySem.Challenge.rw_laidmarks_k62_whole_books.Holds := by
  w_on; o_law
  refine HandSHeadRun.head_any (r := OpenLaw.row PySem.Challenge.rw_laidmarks_k62_whole_books) (q := view (OpenLaw.row PySem.Challenge.rw_laidmarks_k62_whole_books).prog [87]) (H := Lk.hk) (ob := Lk.ob) (M := 9000) (loose := Lk.names) (d := HandSHeadRun.topDef (OpenLaw.row PySem.Challenge.rw_laidmarks_k62_whole_books).prog 87) (kwd := []) Lk.ob_eq
    (by kernel_rfl) (fun s => by kernel_rfl) Lk.run_all (by kernel_rfl) (by kernel_rfl) (by kernel_rfl) (by rfl) (by first | assumption | decide +kernel) (by decide +kernel) ⟨rfl, rfl, rfl, rfl, rfl, by decide +kernel⟩ ?hw Lk.law_walk
  case hw => w_witness2
