import PyProof.Rows.All
import Wide.All
import OpenK.AllK
import Wide.FinOn
import HandS.ForMost
import HandS.ForExc
import HandS.Property
import HandS.CallSlots
import HandS.Walk
import HandS.IsInst
import HandS.Wide
import HandS.WideBits
import HandS.ReplaceLit
import HandS.ReplaceList
import HandS.ExcInit
import HandS.ExcField
import HandS.ExcSuper
import KE.KExcSuper
import HandS.Style
import HandS.Dict
import HandS.More
import PyProof.NeKinds
import PySem.Challenge.RW_keptholes_k05_steps_made
set_option Elab.async false
set_option linter.all false
set_option maxRecDepth 100000
set_option maxHeartbeats 1000000
namespace Kh
open PySem PySem.Spec L2

/-! ### data as trees -/
inductive Dat where
  | non | bl (b : Bool) | int (i : Int) | str (s : Str) | raw (v : V)
  | dic0 | scr (ns : List Int) | lst (xs : List Dat) | tup (xs : List Dat) | obj (C : Addr) (ns : List Str) (xs : List Dat)
  | xn (a dd : Addr) (ns : List Str) (xs : List Dat)
  | at (a : Addr) (d : Dat)

theorem Same.tpl {K : PySem.W.Frag} {H H' : Hp} {a : Addr} {xs : List V} (e : Same H H') (h : SqT K H a xs) : SqT K H' a xs := by
  rcases h with (h | ⟨o, h⟩) | h
  · exact .inl (.inl (e _ _ h))
  · exact .inl (.inr ⟨o, e _ _ h⟩)
  · exact .inr h

mutual
def Den (K : PySem.W.Frag) (G : Hp) : Dat → V → Prop
  | .non, v => v = .non
  | .bl b, v => v = .bl b
  | .int i, v => v = .int i
  | .str s, v => v = .str s
  | .raw u, v => v = u
  | .dic0, v => ∃ a, v = .ref a ∧ G a = some (.dK [])
  | .scr ns, v => ∃ a, v = .ref a ∧ SqL K G a (ns.map V.int)
  | .lst ds, v => ∃ a vs, v = .ref a ∧ G a = some (.lst vs) ∧ DenL K G ds vs
  | .tup ds, v => ∃ a vs, v = .ref a ∧ G a = some (.tup vs) ∧ DenL K G ds vs
  | .obj C ns ds, v => ∃ a dx vs, v = .ref a ∧ G a = some (.ins C dx (ns.zip vs)) ∧ G dx = some (.own a) ∧ DenL K G ds vs
  | .xn a dd ns ds, v => ∃ vs, v = .ref a ∧ G dd = some (.xd (ns.zip vs)) ∧ DenL K G ds vs
  | .at a d, v => v = .ref a ∧ Den K G d v
def DenL (K : PySem.W.Frag) (G : Hp) : List Dat → List V → Prop
  | [], vs => vs = []
  | d :: ds, vs => ∃ v r, vs = v :: r ∧ Den K G d v ∧ DenL K G ds r
end
section
variable {K : PySem.W.Frag} {G G' H H' : Hp}
mutual
theorem Den.mono (h : Same G G') : ∀ (d : Dat) (v : V), Den K G d v → Den K G' d v
  | .non, _, q => by simpa [Den] using q
  | .bl _, _, q => by simpa [Den] using q
  | .int _, _, q => by simpa [Den] using q
  | .str _, _, q => by simpa [Den] using q
  | .raw _, _, q => by simpa [Den] using q
  | .dic0, _, q => by
    simp only [Den] at q ⊢
    obtain ⟨a, e, g⟩ := q
    exact ⟨a, e, h _ _ g⟩
  | .scr _, _, q => by
    simp only [Den] at q ⊢
    obtain ⟨a, e, g⟩ := q
    exact ⟨a, e, h.seq g⟩
  | .lst ds, v, q => by
    simp only [Den] at q ⊢
    obtain ⟨a, vs, e, s, t⟩ := q
    exact ⟨a, vs, e, h _ _ s, DenL.mono h ds vs t⟩
  | .tup ds, v, q => by
    simp only [Den] at q ⊢
    obtain ⟨a, vs, e, s, t⟩ := q
    exact ⟨a, vs, e, h _ _ s, DenL.mono h ds vs t⟩
  | .obj C ns ds, v, q => by
    simp only [Den] at q ⊢
    obtain ⟨a, dx, vs, e, s, s2, t⟩ := q
    exact ⟨a, dx, vs, e, h _ _ s, h _ _ s2, DenL.mono h ds vs t⟩
  | .xn a dd ns ds, v, q => by
    simp only [Den] at q ⊢
    obtain ⟨vs, e, s, t⟩ := q
    exact ⟨vs, e, h _ _ s, DenL.mono h ds vs t⟩
  | .at a d, v, q => by
    simp only [Den] at q ⊢
    exact ⟨q.1, Den.mono h d v q.2⟩
theorem DenL.mono (h : Same G G') : ∀ (ds : List Dat) (vs : List V), DenL K G ds vs → DenL K G' ds vs
  | [], _, q => by simpa [DenL] using q
  | d :: ds, vs, q => by
    simp only [DenL] at q ⊢
    obtain ⟨v, r, e, s, t⟩ := q
    exact ⟨v, r, e, Den.mono h d v s, DenL.mono h ds r t⟩
end
theorem Den.up {d : Dat} {v : V} (q : Den K G d v) (h : Same G G') : Den K G' d v := Den.mono h d v q
theorem DenL.up {ds : List Dat} {vs : List V} (q : DenL K G ds vs) (h : Same G G') : DenL K G' ds vs := DenL.mono h ds vs q
theorem den_lst {a : Addr} {ds : List Dat} {vs : List V} (h : G a = some (.lst vs)) (q : DenL K G ds vs) : Den K G (.lst ds) (.ref a) := by
  simp only [Den]; exact ⟨a, vs, rfl, h, q⟩
theorem den_tup {a : Addr} {ds : List Dat} {vs : List V} (h : G a = some (.tup vs)) (q : DenL K G ds vs) : Den K G (.tup ds) (.ref a) := by
  simp only [Den]; exact ⟨a, vs, rfl, h, q⟩
theorem den_int {i : Int} : Den K G (.int i) (.int i) := by simp only [Den]
theorem den_bl {b : Bool} : Den K G (.bl b) (.bl b) := by simp only [Den]
theorem den_str {s : Str} : Den K G (.str s) (.str s) := by simp only [Den]
theorem den_non : Den K G .non .non := by simp only [Den]
theorem den_raw {v : V} : Den K G (.raw v) v := by simp only [Den]
theorem Den.lst_inv {ds : List Dat} {v : V} (q : Den K G (.lst ds) v) : ∃ a vs, v = .ref a ∧ G a = some (.lst vs) ∧ DenL K G ds vs := by simpa only [Den] using q
theorem Den.tup_inv {ds : List Dat} {v : V} (q : Den K G (.tup ds) v) : ∃ a vs, v = .ref a ∧ G a = some (.tup vs) ∧ DenL K G ds vs := by simpa only [Den] using q
theorem Den.obj_inv {C : Addr} {ns : List Str} {ds : List Dat} {v : V} (q : Den K G (.obj C ns ds) v) : ∃ a dx vs, v = .ref a ∧ G a = some (.ins C dx (ns.zip vs)) ∧ G dx = some (.own a) ∧ DenL K G ds vs := by simpa only [Den] using q
theorem Den.xn_inv {a dd : Addr} {ns : List Str} {ds : List Dat} {v : V} (q : Den K G (.xn a dd ns ds) v) : ∃ vs, v = .ref a ∧ G dd = some (.xd (ns.zip vs)) ∧ DenL K G ds vs := by simpa only [Den] using q
theorem Den.at_inv {a : Addr} {d : Dat} {v : V} (q : Den K G (.at a d) v) : v = .ref a ∧ Den K G d v := by simpa only [Den] using q
theorem den_at {a : Addr} {d : Dat} (h : Den K G d (.ref a)) : Den K G (.at a d) (.ref a) := by simp only [Den, true_and]; exact h
theorem Den.scr_inv {ns : List Int} {v : V} (q : Den K G (.scr ns) v) : ∃ a, v = .ref a ∧ SqL K G a (ns.map V.int) := by simpa only [Den] using q
theorem Den.dic0_inv {v : V} (q : Den K G .dic0 v) : ∃ a, v = .ref a ∧ G a = some (.dK []) := by simpa only [Den] using q
theorem Den.int_inv {i : Int} {v : V} (q : Den K G (.int i) v) : v = .int i := by simpa only [Den] using q
theorem Den.bl_inv {b : Bool} {v : V} (q : Den K G (.bl b) v) : v = .bl b := by simpa only [Den] using q
theorem Den.str_inv {s : Str} {v : V} (q : Den K G (.str s) v) : v = .str s := by simpa only [Den] using q
theorem Den.non_inv {v : V} (q : Den K G .non v) : v = .non := by simpa only [Den] using q
theorem Den.raw_inv {u v : V} (q : Den K G (.raw u) v) : v = u := by simpa only [Den] using q
theorem DenL.nil : DenL K G [] [] := by simp only [DenL]
theorem DenL.cons {d : Dat} {ds : List Dat} {v : V} {vs : List V} (h : Den K G d v) (q : DenL K G ds vs) : DenL K G (d :: ds) (v :: vs) := by
  simp only [DenL]; exact ⟨v, vs, rfl, h, q⟩
theorem DenL.nil_inv {vs : List V} (q : DenL K G [] vs) : vs = [] := by simpa only [DenL] using q
theorem DenL.cons_inv {d : Dat} {ds : List Dat} {vs : List V} (q : DenL K G (d :: ds) vs) : ∃ v r, vs = v :: r ∧ Den K G d v ∧ DenL K G ds r := by simpa only [DenL] using q
theorem DenL.length : ∀ {ds : List Dat} {vs : List V}, DenL K G ds vs → vs.length = ds.length
  | [], _, q => by rw [q.nil_inv]; rfl
  | d :: ds, _, q => by
    obtain ⟨v, r, rfl, _, t⟩ := q.cons_inv
    simp only [List.length_cons, t.length]
theorem DenL.get : ∀ {ds : List Dat} {vs : List V} {i : Nat} {d : Dat}, DenL K G ds vs → ds[i]? = some d → ∃ v, vs[i]? = some v ∧ Den K G d v
  | [], _, _, _, _, e => by simp at e
  | _ :: _, _, 0, _, q, e => by
    obtain ⟨v, r, rfl, h, _⟩ := q.cons_inv
    simp at e; subst e
    exact ⟨v, rfl, h⟩
  | _ :: _, _, i + 1, _, q, e => by
    obtain ⟨v, r, rfl, _, t⟩ := q.cons_inv
    obtain ⟨u, h1, h2⟩ := DenL.get t (i := i) (by simpa using e)
    exact ⟨u, by simpa using h1, h2⟩
theorem DenL.get' {ds : List Dat} {vs : List V} {i : Nat} {v : V} (q : DenL K G ds vs) (e : vs[i]? = some v) : ∃ d, ds[i]? = some d ∧ Den K G d v := by
  have hi : i < ds.length := by rw [← q.length]; exact (List.getElem?_eq_some_iff.mp e).1
  obtain ⟨u, h1, h2⟩ := q.get (List.getElem?_eq_getElem hi)
  rw [e] at h1; cases h1
  exact ⟨_, List.getElem?_eq_getElem hi, h2⟩
theorem DenL.append : ∀ {ds es : List Dat} {vs us : List V}, DenL K G ds vs → DenL K G es us → DenL K G (ds ++ es) (vs ++ us)
  | [], _, _, _, q, r => by rw [q.nil_inv]; exact r
  | _ :: _, _, _, _, q, r => by
    obtain ⟨v, t, rfl, h, q⟩ := q.cons_inv
    exact DenL.cons h (DenL.append q r)
theorem DenL.snoc {ds : List Dat} {d : Dat} {vs : List V} {v : V} (q : DenL K G ds vs) (h : Den K G d v) : DenL K G (ds ++ [d]) (vs ++ [v]) := q.append (.cons h .nil)
theorem DenL.take : ∀ {ds : List Dat} {vs : List V} (n : Nat), DenL K G ds vs → DenL K G (ds.take n) (vs.take n)
  | [], _, n, q => by rw [q.nil_inv]; simp only [List.take_nil]; exact .nil
  | _ :: _, _, 0, q => by simp only [List.take_zero]; exact .nil
  | _ :: _, _, n + 1, q => by
    obtain ⟨v, t, rfl, h, q⟩ := q.cons_inv
    exact DenL.cons h (DenL.take n q)
theorem DenL.drop : ∀ {ds : List Dat} {vs : List V} (n : Nat), DenL K G ds vs → DenL K G (ds.drop n) (vs.drop n)
  | [], _, n, q => by rw [q.nil_inv]; simp only [List.drop_nil]; exact .nil
  | _ :: _, _, 0, q => q
  | _ :: _, _, n + 1, q => by
    obtain ⟨v, t, rfl, h, q⟩ := q.cons_inv
    exact DenL.drop n q
theorem DenL.reverse : ∀ {ds : List Dat} {vs : List V}, DenL K G ds vs → DenL K G ds.reverse vs.reverse
  | [], _, q => by rw [q.nil_inv]; exact .nil
  | _ :: _, _, q => by
    obtain ⟨v, t, rfl, h, q⟩ := q.cons_inv
    simp only [List.reverse_cons]
    exact q.reverse.append (.cons h .nil)
theorem DenL.set {d : Dat} {v : V} (h : Den K G d v) : ∀ {ds : List Dat} {vs : List V} (i : Nat), DenL K G ds vs → DenL K G (ds.set i d) (vs.set i v)
  | [], _, _, q => by rw [q.nil_inv]; exact .nil
  | _ :: _, _, 0, q => by
    obtain ⟨u, t, rfl, _, q⟩ := q.cons_inv
    exact DenL.cons h q
  | _ :: _, _, i + 1, q => by
    obtain ⟨u, t, rfl, g, q⟩ := q.cons_inv
    exact DenL.cons g (DenL.set h i q)
theorem DenL.dropLast {ds : List Dat} {vs : List V} (q : DenL K G ds vs) : DenL K G ds.dropLast vs.dropLast := by
  rw [List.dropLast_eq_take, List.dropLast_eq_take, q.length]
  exact q.take _
/-- lists of ints, texts, bools by their values -/
theorem DenL.ints : ∀ {ns : List Int} {vs : List V}, DenL K G (ns.map Dat.int) vs → vs = ns.map V.int
  | [], _, q => q.nil_inv
  | n :: ns, _, q => by
    obtain ⟨v, t, rfl, h, q⟩ := q.cons_inv
    rw [h.int_inv, DenL.ints q]
    all_goals rfl
theorem denL_ints : ∀ {ns : List Int}, DenL K G (ns.map Dat.int) (ns.map V.int)
  | [] => .nil
  | n :: ns => .cons den_int denL_ints
theorem DenL.strs : ∀ {ns : List Str} {vs : List V}, DenL K G (ns.map Dat.str) vs → vs = ns.map V.str
  | [], _, q => q.nil_inv
  | n :: ns, _, q => by
    obtain ⟨v, t, rfl, h, q⟩ := q.cons_inv
    rw [h.str_inv, DenL.strs q]
    all_goals rfl
theorem denL_strs : ∀ {ns : List Str}, DenL K G (ns.map Dat.str) (ns.map V.str)
  | [] => .nil
  | n :: ns => .cons den_str denL_strs
end

/-! ### the slots -/
abbrev TEnv := List (Option Dat)
def DenE (K : PySem.W.Frag) (τ : TEnv) (G : Hp) (σ : St) : Prop := ∀ (i : Nat) (d : Dat), τ[i]? = some (some d) → ∃ v, σ[i]? = some (some v) ∧ Den K G d v
section
variable {K : PySem.W.Frag} {G G' : Hp} {τ : TEnv} {σ : St}
theorem DenE.up (q : DenE K τ G σ) (h : Same G G') : DenE K τ G' σ := fun i d e => let ⟨v, h1, h2⟩ := q i d e; ⟨v, h1, h2.up h⟩
theorem DenE.unset {i : Nat} (q : DenE K τ G σ) : DenE K (τ.set i none) G (σ.set i none) := fun j e hj => by
  by_cases c : i = j
  · subst c
    have hl : i < τ.length := by
      have := (List.getElem?_eq_some_iff.mp hj).1
      simpa using this
    rw [List.getElem?_set_self hl] at hj
    cases hj
  · rw [List.getElem?_set_ne c] at hj
    obtain ⟨u, h1, h2⟩ := q j e hj
    exact ⟨u, by rw [List.getElem?_set_ne c]; exact h1, h2⟩
theorem DenE.set {i : Nat} {d : Dat} {v : V} (q : DenE K τ G σ) (hi : i < σ.length) (h : Den K G d v) : DenE K (τ.set i (some d)) G (σ.set i (some v)) := fun j e hj => by
  by_cases c : i = j
  · subst c
    have hl : i < τ.length := by
      have := (List.getElem?_eq_some_iff.mp hj).1
      simpa using this
    rw [List.getElem?_set_self hl] at hj
    cases hj
    exact ⟨v, List.getElem?_set_self hi, h⟩
  · rw [List.getElem?_set_ne c] at hj
    obtain ⟨u, h1, h2⟩ := q j e hj
    exact ⟨u, by rw [List.getElem?_set_ne c]; exact h1, h2⟩
end

/-! ### what may change -/
inductive MC where
  | lst (ds : List Dat) | ins (C dx : Addr) (fs : List (Str × Dat)) | dic (kvs : List (Key × Dat))
abbrev Mem := List (Addr × MC)
def adr1 : Addr × MC → List Addr
  | (p, .ins _ dx _) => [p, dx]
  | (p, _) => [p]
def adr (M : Mem) : List Addr := M.flatMap adr1
/-- names with data against names with values -/
def DenF (K : PySem.W.Frag) (G : Hp) {κ : Type} (fs : List (κ × Dat)) (vs : List (κ × V)) : Prop := vs.map (·.1) = fs.map (·.1) ∧ DenL K G (fs.map (·.2)) (vs.map (·.2))
def MH (K : PySem.W.Frag) (G H : Hp) : Addr × MC → Prop
  | (p, .lst ds) => ∃ vs, H p = some (.lst vs) ∧ DenL K G ds vs
  | (p, .ins C dx fs) => ∃ vs, H p = some (.ins C dx vs) ∧ H dx = some (.own p) ∧ DenF K G fs vs
  | (p, .dic kvs) => ∃ vs, H p = some (.dK vs) ∧ DenF K G kvs vs
structure Hst (K : PySem.W.Frag) (G : Hp) (M : Mem) (H : Hp) : Prop where
  sub : Same G H
  mem : ∀ c ∈ M, MH K G H c
  out : ∀ b ∈ adr M, G b = none
  nd : (adr M).Nodup
structure Stp (G : Hp) (M : Mem) (H G2 : Hp) (M2 : Mem) (H2 : Hp) : Prop where
  gg : Same G G2
  hh : ∀ b o, b ∉ adr M → H b = some o → H2 b = some o
  fr : ∀ b, H b ≠ none → b ∉ adr M → G b = none → G2 b = none
  ad : ∀ b ∈ adr M2, b ∈ adr M ∨ H b = none
section
variable {K : PySem.W.Frag} {G G1 G2 G3 H H1 H2 H3 : Hp} {M M1 M2 M3 : Mem}
theorem DenF.up {κ : Type} {fs : List (κ × Dat)} {vs : List (κ × V)} (q : DenF K G fs vs) (h : Same G G1) : DenF K G1 fs vs := ⟨q.1, q.2.up h⟩
theorem Stp.refl : Stp G M H G M H := ⟨Same.refl _, fun _ _ _ e => e, fun _ _ _ e => e, fun _ h => .inl h⟩
theorem Stp.trans (a : Stp G M H G1 M1 H1) (b : Stp G1 M1 H1 G2 M2 H2) : Stp G M H G2 M2 H2 where
  gg := a.gg.trans b.gg
  hh := fun c o n e => by
    refine b.hh c o (fun z => ?_) (a.hh c o n e)
    rcases a.ad c z with z | z
    · exact n z
    · rw [e] at z; cases z
  fr := fun c hc n g => by
    have z1 : c ∉ adr M1 := fun z => by
      rcases a.ad c z with z | z
      · exact n z
      · exact hc z
    refine b.fr c (fun z => ?_) z1 (a.fr c hc n g)
    cases e : H c with
    | none => exact hc e
    | some o => rw [a.hh c o n e] at z; cases z
  ad := fun c h => by
    rcases b.ad c h with z | z
    · exact a.ad c z
    · refine (Classical.em (c ∈ adr M)).imp id fun n => ?_
      cases e : H c with
      | none => rfl
      | some o => rw [a.hh c o n e] at z; cases z
theorem MH.up {c : Addr × MC} (q : MH K G H c) (h : Same G G1) (e : ∀ b ∈ adr1 c, ∀ o, H b = some o → H1 b = some o) : MH K G1 H1 c := by
  obtain ⟨p, c⟩ := c
  cases c with
  | lst ds => obtain ⟨vs, h1, h2⟩ := q; exact ⟨vs, e p (by simp [adr1]) _ h1, h2.up h⟩
  | ins C dx fs => obtain ⟨vs, h1, h2, h3⟩ := q; exact ⟨vs, e p (by simp [adr1]) _ h1, e dx (by simp [adr1]) _ h2, h3.up h⟩
  | dic kvs => obtain ⟨vs, h1, h2⟩ := q; exact ⟨vs, e p (by simp [adr1]) _ h1, h2.up h⟩
theorem MH.there {c : Addr × MC} (q : MH K G H c) : ∀ b ∈ adr1 c, H b ≠ none := by
  obtain ⟨p, c⟩ := c
  intro b hb z
  cases c with
  | lst ds =>
    obtain ⟨vs, h1, h2⟩ := q
    have hb : b = p := by simpa [adr1] using hb
    rw [hb, h1] at z; cases z
  | ins C dx fs =>
    obtain ⟨vs, h1, h2, h3⟩ := q
    have hb : b = p ∨ b = dx := by simpa [adr1] using hb
    rcases hb with rfl | rfl
    · rw [h1] at z; cases z
    · rw [h2] at z; cases z
  | dic kvs =>
    obtain ⟨vs, h1, h2⟩ := q
    have hb : b = p := by simpa [adr1] using hb
    rw [hb, h1] at z; cases z
theorem Hst.there (h : Hst K G M H) : ∀ b ∈ adr M, H b ≠ none := fun b hb => by
  obtain ⟨c, hc, hb⟩ := List.mem_flatMap.mp hb
  exact (h.mem c hc).there b hb
theorem adr_append {A B : Mem} : adr (A ++ B) = adr A ++ adr B := by unfold adr; exact List.flatMap_append
theorem adr_perm {A B : Mem} (p : A.Perm B) : (adr A).Perm (adr B) := by unfold adr; exact p.flatMap_right _
theorem Hst.perm (h : Hst K G M H) (p : M.Perm M1) : Hst K G M1 H :=
  ⟨h.sub, fun c hc => h.mem c (p.mem_iff.mpr hc), fun b hb => h.out b ((adr_perm p).mem_iff.mpr hb), (adr_perm p).nodup_iff.mp h.nd⟩
theorem Stp.perm {A B : Mem} (s : Stp G M H G2 M2 H2) (p : M.Perm A) (q : M2.Perm B) : Stp G A H G2 B H2 :=
  ⟨s.gg, fun b o n e => s.hh b o (fun z => n ((adr_perm p).mem_iff.mp z)) e, fun b hb n g => s.fr b hb (fun z => n ((adr_perm p).mem_iff.mp z)) g,
    fun b hb => (s.ad b ((adr_perm q).mem_iff.mpr hb)).imp (fun z => (adr_perm p).mem_iff.mp z) id⟩
/-- a part of what may change -/
theorem Hst.left {A B : Mem} (h : Hst K G (A ++ B) H) : Hst K G A H :=
  ⟨h.sub, fun c hc => h.mem c (List.mem_append_left _ hc), fun b hb => h.out b (by rw [adr_append]; exact List.mem_append_left _ hb), by
    have := h.nd; rw [adr_append] at this; exact (List.nodup_append.mp this).1⟩
/-- the rest stays -/
theorem Stp.frame {A A2 B : Mem} (h : Hst K G (A ++ B) H) (s : Stp G A H G2 A2 H2) (h2 : Hst K G2 A2 H2) : Stp G (A ++ B) H G2 (A2 ++ B) H2 ∧ Hst K G2 (A2 ++ B) H2 := by
  have nd := h.nd
  rw [adr_append] at nd
  obtain ⟨n1, n2, n3⟩ := List.nodup_append.mp nd
  have nB : ∀ b ∈ adr B, b ∉ adr A := fun b hb ha => n3 b ha b hb rfl
  have th : ∀ b ∈ adr B, H b ≠ none := fun b hb => h.there b (by rw [adr_append]; exact List.mem_append_right _ hb)
  refine ⟨⟨s.gg, fun b o n e => s.hh b o (fun z => n (by rw [adr_append]; exact List.mem_append_left _ z)) e, fun b hb n g => s.fr b hb (fun z => n (by rw [adr_append]; exact List.mem_append_left _ z)) g, fun b hb => ?_⟩, h2.sub, fun c hc => ?_, fun b hb => ?_, ?_⟩
  · rw [adr_append] at hb ⊢
    rcases List.mem_append.mp hb with z | z
    · exact (s.ad b z).imp (fun y => List.mem_append_left _ y) id
    · exact .inl (List.mem_append_right _ z)
  · rcases List.mem_append.mp hc with z | z
    · exact h2.mem c z
    · exact (h.mem c (List.mem_append_right _ z)).up s.gg fun b hb o e => s.hh b o (nB b (List.mem_flatMap.mpr ⟨c, z, hb⟩)) e
  · rw [adr_append] at hb
    rcases List.mem_append.mp hb with z | z
    · exact h2.out b z
    · exact s.fr b (th b z) (nB b z) (h.out b (by rw [adr_append]; exact List.mem_append_right _ z))
  · rw [adr_append]
    refine List.nodup_append.mpr ⟨h2.nd, n2, fun a ha b hb e => ?_⟩
    subst e
    rcases s.ad a ha with z | z
    · exact nB a hb z
    · exact th a hb z
/-- a new thing of the unchanging part -/
theorem Stp.new {p : Addr} {o : HO} (h : Hst K G M H) (hp : H p = none) : Stp G M H (upd G p o) M (upd H p o) ∧ Hst K (upd G p o) M (upd H p o) := by
  have gp : G p = none := h.sub.free hp
  have nM : ∀ b ∈ adr M, b ≠ p := fun b hb e => h.there b hb (by rw [e]; exact hp)
  refine ⟨⟨fun b u e => ?_, fun b u _ e => ?_, fun b hb _ g => ?_, fun b hb => .inl hb⟩, fun b u e => ?_, fun c hc => (h.mem c hc).up (fun b u e => ?_) fun b hb u e => ?_, fun b hb => ?_, h.nd⟩
  · rw [upd_ne (ne_of_none e gp)]; exact e
  · rw [upd_ne (ne_of_none e hp)]; exact e
  · rw [upd_ne (fun e => hb (by rw [e]; exact hp))]; exact g
  · by_cases c : b = p
    · subst c; rw [upd_same] at e ⊢; exact e
    · rw [upd_ne c] at e ⊢; exact h.sub b u e
  · rw [upd_ne (ne_of_none e gp)]; exact e
  · rw [upd_ne (nM b (List.mem_flatMap.mpr ⟨c, hc, hb⟩))]; exact e
  · rw [upd_ne (nM b hb)]; exact h.out b hb
end
end Kh

set_option Elab.async false
set_option linter.all false
set_option maxRecDepth 100000
set_option maxHeartbeats 1000000
namespace Kh
open PySem PySem.Spec L2
open PyProof.Rows (isTrue_plain isTrue_not isTrue_and isTrue_or isTrue_and_nil isTrue_or_nil BoolOp_one BoolOp_and BoolOp_or UnaryOp_ not_of)

/-! ### the weakest readings; T: a token is out already -/
def Tk (T : Bool) (s : Shared) : Prop := T = true → 1 ≤ s.toks
theorem tk_f {s : Shared} : Tk false s := fun h => nomatch h
section
variable {α : Type} {t : Sem α} {Q Q' : α → Shared → Prop} {M : Model} {A : Around} {E : Value → Shared → Prop} {s : Shared} {T : Bool}
theorem thnT (hT : Tk T s) (h : wpAny M A t Q E s) (hQ : ∀ a s', Tk T s' → Q a s' → Q' a s') : wpAny M A t Q' E s := by
  cases T with
  | false => exact thn h fun a s' q => hQ a s' tk_f q
  | true => exact wpAny_with_toks (hT rfl) (wpAny_mono h (fun a s' q k => hQ a s' (fun _ => k) q) fun _ _ x _ => x)
end
def tW (X : Cx) (T : Bool) (e : Expr) : TE := fun σ H Q => ∀ pins s, Tk T s → Inv X pins σ H s → wpAny (model X.prog X.w) X.A (eval e X.env) (EP X pins σ Q) X.xe s
def tWT (X : Cx) (T : Bool) (e : Expr) : TT := fun σ H Q => ∀ pins s, Tk T s → Inv X pins σ H s → wpAny (model X.prog X.w) X.A (isTrue e X.env (eval e X.env)) (TP X pins σ Q) X.xe s
def tWW (X : Cx) (T : Bool) (e : Expr) : TT := fun σ H Q => ∀ whole pins s, Tk T s → Inv X pins σ H s → wpAny (model X.prog X.w) X.A (isTrue e X.env whole) (TP X pins σ Q) X.xe s
def tWA (X : Cx) (T : Bool) (es : List Expr) : TA := fun σ H Q => ∀ (pos : Pos) pins s, Tk T s → Inv X pins σ H s → wpAny (model X.prog X.w) X.A (spliced (backTo pos (starEach es X.env))) (AP X pins σ Q) X.xe s
def tWS (X : Cx) (T : Bool) (st : Stmt) : TS := fun D σ H => ∀ pins s, Tk T s → Inv X pins σ H s → wpAny (model X.prog X.w) X.A (exec st X.env) (SP X pins D) X.xe s
def tWSs (X : Cx) (T : Bool) (ss : List Stmt) : TS := fun D σ H => ∀ pins s, Tk T s → Inv X pins σ H s → wpAny (model X.prog X.w) X.A (execs ss X.env) (SP X pins D) X.xe s
def tWI (X : Cx) (T : Bool) (tg iter : Expr) : TI := fun σ H R => ∀ pins s, Tk T s → Inv X pins σ H s → wpAny (model X.prog X.w) X.A (eval iter X.env) (fun v s1 => wpAny (model X.prog X.w) X.A (pyIter v) (PIE X pins σ tg R) X.xe s1) X.xe s
def tWG (X : Cx) (T : Bool) (target : Expr) : TG := fun v σ H Q => ∀ pins s u, Tk T s → Inv X pins σ H s → RelV v u → wpAny (model X.prog X.w) X.A (assign target X.env u) (fun _ s' => ∃ σ' H', Inv X pins σ' H' s' ∧ Q σ' H') X.xe s
def tWGs (X : Cx) (T : Bool) (ts : List Expr) : TGs := fun vs σ H Q => ∀ pins s us, Tk T s → Inv X pins σ H s → Vals vs us → wpAny (model X.prog X.w) X.A (assignInOrder ((assignEach ts X.env).map (·.2)) us) (fun _ s' => ∃ σ' H', Inv X pins σ' H' s' ∧ Q σ' H') X.xe s
def rW (X : Cx) (T : Bool) (f : Value → Value → Sem Value) : R2 := fun x y H Q => ∀ pins s σ v u, Tk T s → Inv X pins σ H s → RelV x v → RelV y u → wpAny (model X.prog X.w) X.A (f v u) (EP X pins σ Q) X.xe s
section
variable {X : Cx} {T : Bool} {e a b c : Expr} {es rest' : List Expr} {st : Stmt} {ss rest : List Stmt} {tg iter : Expr} {pos : Pos} {σ : L2.St} {H : Hp} {Q : VK} {QT : Bool → Hp → Prop} {D : Ends}
theorem tW_of {t : TE} (h : PE X e t) (q : t σ H Q) : tW X T e σ H Q := fun pins s _ I => h.run pins s σ H Q I q
theorem tWT_of {t : TT} (h : PT X e t) (q : t σ H QT) : tWT X T e σ H QT := fun pins s _ I => h.run pins s σ H QT I q
theorem tWA_of {t : TA} {Q : List V → Hp → Prop} (h : PA X es t) (q : t σ H Q) : tWA X T es σ H Q := fun pos pins s _ I => h.run pos pins s σ H Q I q
theorem tWS_of {t : TS} (h : PS X st t) (q : t D σ H) : tWS X T st D σ H := fun pins s _ I => h.run pins s σ H D I q
theorem tWSs_of {t : TS} (h : PSs X ss t) (q : t D σ H) : tWSs X T ss D σ H := fun pins s _ I => h.run pins s σ H D I q
theorem tWI_of {t : TI} {R : It → Hp → Prop} (h : PI X tg iter t) (q : t σ H R) : tWI X T tg iter σ H R := fun pins s _ I => h.run pins s σ H R I q
theorem tWG_of {t : TG} {v : V} {Q : L2.St → Hp → Prop} (h : PG X tg t) (q : t v σ H Q) : tWG X T tg v σ H Q := fun pins s u _ I r => h.run pins s σ H v u Q I r q
theorem rW_of {f : Value → Value → Sem Value} {r : R2} {x y : V} (h : OpR X f r) (q : r x y H Q) : rW X T f x y H Q := fun pins s σ v u _ I rx ry => h pins s σ H x y v u Q I rx ry q
/-- without the token -/
theorem pe_W : PE X e (tW X false e) := ⟨fun pins s _ _ _ I h => h pins s tk_f I⟩
theorem pt_W : PT X e (tWT X false e) := ⟨fun pins s _ _ _ I h => h pins s tk_f I⟩
theorem pa_W : PA X es (tWA X false es) := ⟨fun pos pins s _ _ _ I h => h pos pins s tk_f I⟩
theorem pss_W : PSs X ss (tWSs X false ss) := ⟨fun pins s _ _ _ I h => h pins s tk_f I⟩
theorem pi_W : PI X tg iter (tWI X false tg iter) := ⟨fun pins s _ _ _ I h => h pins s tk_f I⟩
theorem pg_W : PG X tg (tWG X false tg) := ⟨fun pins s _ _ _ u _ I r h => h pins s u tk_f I r⟩
theorem tW_len (h : σ.length = X.N.length → tW X T e σ H Q) : tW X T e σ H Q := fun pins s k I => h I.len pins s k I
theorem tWSs_len (h : σ.length = X.N.length → tWSs X T ss D σ H) : tWSs X T ss D σ H := fun pins s k I => h I.len pins s k I
theorem tWG_len {v : V} {Q : L2.St → Hp → Prop} (h : σ.length = X.N.length → tWG X T tg v σ H Q) : tWG X T tg v σ H Q := fun pins s u k I r => h I.len pins s u k I r
/-! the constructs, from the readings of their parts -/
theorem w_two {f : Value → Value → Sem Value} (q : tW X T a σ H fun x H1 => tW X T b σ H1 fun y H2 => rW X T f x y H2 Q) {pins : List (Addr × Obj)} {s : Shared} (k : Tk T s) (I : Inv X pins σ H s) :
    wpAny (model X.prog X.w) X.A (eval a X.env) (fun v s₁ => wpAny (model X.prog X.w) X.A (eval b X.env) (fun u s₂ => wpAny (model X.prog X.w) X.A (f v u) (EP X pins σ Q) X.xe s₂) X.xe s₁) X.xe s :=
  thnT k (q pins s k I) fun v s1 k1 ⟨x, H1, I1, r1, q1⟩ => thnT k1 (q1 pins s1 k1 I1) fun u s2 k2 ⟨y, H2, I2, r2, q2⟩ => q2 pins s2 σ v u k2 I2 r1 r2
theorem w_bin {op : Operator} (q : tW X T a σ H fun x H1 => tW X T b σ H1 fun y H2 => rW X T (binaryOp op) x y H2 Q) : tW X T (.BinOp a op b pos) σ H Q := fun pins s k I => wpAny_BinOp (w_two q k I)
theorem w_cmp {op : CmpOp} (hm : behindInMarks op b = false) (q : tW X T a σ H fun x H1 => tW X T b σ H1 fun y H2 => rW X T (compareOp op) x y H2 Q) : tW X T (.Compare a [op] [b] pos) σ H Q := fun pins s k I => wpAny_Compare1 (w_two q k I) hm
theorem w_val (he : ∀ whole, isTrue e X.env whole = (do let v ← whole; standAt e.pos; holding [v] (truthy v))) (q : tW X T e σ H fun x H1 => ∃ c, x = .bl c ∧ QT c H1) : tWT X T e σ H QT := fun pins s k I =>
  isTrue_plain (thnT k (q pins s k I) fun v s1 _ ⟨x, H1, I1, r1, c, ec, q1⟩ => by subst ec; cases r1; exact wpAny_truthy_bool ⟨H1, I1, q1⟩) (he _)
theorem w_cmpT {op : CmpOp} (hm : behindInMarks op b = false) (q : tW X T a σ H fun x H1 => tW X T b σ H1 fun y H2 => rW X T (compareOp op) x y H2 fun z H3 => ∃ c, z = .bl c ∧ QT c H3) : tWT X T (.Compare a [op] [b] pos) σ H QT := fun pins s k I =>
  wpAny_isTrue_Compare1 (thnT k (w_two q k I) fun v s1 _ h1 => thn h1 fun u s2 h2 => thn h2 fun cv s3 ⟨x, H1, I1, r1, c, ec, q1⟩ => by subst ec; cases r1; exact wpAny_truthy_bool ⟨H1, I1, q1⟩) hm
theorem w_not (q : tWT X T a σ H fun c H1 => QT (!c) H1) : tWT X T (.UnaryOp .Not a pos) σ H QT := fun pins s k I => isTrue_not (q pins s k I)
theorem w_and1 (q : tWT X T a σ H QT) : tWW X T (.BoolOp .And [a] pos) σ H QT := fun wh pins s k I => isTrue_and (thn (q pins s k I) fun c s1 e => by
  cases c with
  | true => exact isTrue_and_nil e
  | false => exact e)
theorem w_or1 (q : tWT X T a σ H QT) : tWW X T (.BoolOp .Or [a] pos) σ H QT := fun wh pins s k I => isTrue_or (thn (q pins s k I) fun c s1 e => by
  cases c with
  | false => exact isTrue_or_nil e
  | true => exact e)
theorem w_and (q : tWT X T a σ H fun c H1 => if c = true then tWW X T (.BoolOp .And (b :: rest') pos) σ H1 QT else QT false H1) : tWW X T (.BoolOp .And (a :: b :: rest') pos) σ H QT := fun wh pins s k I =>
  isTrue_and (thnT k (q pins s k I) fun c s1 k1 ⟨H1, I1, q1⟩ => by
    cases c with
    | true => exact q1 wh pins s1 k1 I1
    | false => exact ⟨H1, I1, q1⟩)
theorem w_or (q : tWT X T a σ H fun c H1 => if c = true then QT true H1 else tWW X T (.BoolOp .Or (b :: rest') pos) σ H1 QT) : tWW X T (.BoolOp .Or (a :: b :: rest') pos) σ H QT := fun wh pins s k I =>
  isTrue_or (thnT k (q pins s k I) fun c s1 k1 ⟨H1, I1, q1⟩ => by
    cases c with
    | false => exact q1 wh pins s1 k1 I1
    | true => exact ⟨H1, I1, q1⟩)
theorem v_one {op} (q : tW X T a σ H Q) : tW X T (.BoolOp op [a] pos) σ H Q := fun pins s k I => BoolOp_one (q pins s k I)
theorem v_and (q : tW X T a σ H fun x H1 => ∃ c, x = .bl c ∧ if c = true then tW X T (.BoolOp .And (b :: rest') pos) σ H1 Q else Q (.bl false) H1) : tW X T (.BoolOp .And (a :: b :: rest') pos) σ H Q := fun pins s k I =>
  BoolOp_and (thnT k (q pins s k I) fun v s1 k1 ⟨x, H1, I1, r1, c, ec, q1⟩ => by
    subst ec; cases r1
    refine wpAny_truthy_bool ?_
    cases c with
    | true => exact q1 pins s1 k1 I1
    | false => exact ⟨.bl false, H1, I1, rfl, q1⟩)
theorem v_or (q : tW X T a σ H fun x H1 => ∃ c, x = .bl c ∧ if c = true then Q (.bl true) H1 else tW X T (.BoolOp .Or (b :: rest') pos) σ H1 Q) : tW X T (.BoolOp .Or (a :: b :: rest') pos) σ H Q := fun pins s k I =>
  BoolOp_or (thnT k (q pins s k I) fun v s1 k1 ⟨x, H1, I1, r1, c, ec, q1⟩ => by
    subst ec; cases r1
    refine wpAny_truthy_bool ?_
    cases c with
    | false => exact q1 pins s1 k1 I1
    | true => exact ⟨.bl true, H1, I1, rfl, q1⟩)
theorem v_not (q : tW X T a σ H fun x H1 => ∃ c, x = .bl c ∧ Q (.bl (!c)) H1) : tW X T (.UnaryOp .Not a pos) σ H Q := fun pins s k I =>
  UnaryOp_ (thn (q pins s k I) fun v s1 ⟨x, H1, I1, r1, c, ec, q1⟩ => by subst ec; cases r1; exact not_of (wpAny_truthy_bool ⟨.bl (!c), H1, I1, rfl, q1⟩))
theorem v_if (q : tWT X T c σ H fun k H1 => if k = true then tW X T a σ H1 Q else tW X T b σ H1 Q) : tW X T (.IfExp c a b pos) σ H Q := fun pins s k I =>
  wpAny_IfExp (thnT k (q pins s k I) fun d s1 k1 ⟨H1, I1, q1⟩ => by
    cases d with
    | true => exact q1 pins s1 k1 I1
    | false => exact q1 pins s1 k1 I1)
theorem wa_cons {Q : List V → Hp → Prop} (hs : starEach (e :: es) X.env = (false, eval e X.env) :: starEach es X.env) (q : tW X T e σ H fun x H1 => tWA X T es σ H1 fun xs H2 => Q (x :: xs) H2) : tWA X T (e :: es) σ H Q := fun pos pins s k I => by
  rw [hs]
  show wpAny _ _ (spliced ((false, eval e X.env) :: backTo pos (starEach es X.env))) _ _ s
  exact Calls.spliced_cons (thnT k (q pins s k I) fun u s1 k1 ⟨x, H1, I1, r1, q1⟩ => thn (q1 pos pins s1 k1 I1) fun us s2 ⟨xs, H2, I2, r2, q2⟩ => ⟨x :: xs, H2, I2, .cons r1 r2, q2⟩)
/-! statements -/
theorem ws_step' (q : tWS X T st { D with nx := tWSs X T rest D } σ H) : tWSs X T (st :: rest) D σ H := fun pins s k I =>
  wpAny_execs_cons (thnT k (q pins s k I) fun f s1 k1 h => by
    cases f with
    | next => obtain ⟨σ', H', I', h⟩ := h; exact h pins s1 k1 I'
    | ret v => exact h
    | brk => exact h
    | cont => exact h)
theorem s_ret (q : tW X T e σ H D.rt) : tWS X T (.Return (some e) pos) D σ H := fun pins s k I => wpAny_Return_some (thn (q pins s k I) fun v s1 ⟨x, H1, I1, r1, q1⟩ => ⟨x, σ, H1, I1, r1, q1⟩)
theorem s_expr (hs : swapsWith e none pos.line X.env = pure false) (q : tW X T e σ H fun _ H1 => D.nx σ H1) : tWS X T (.Expr e pos) D σ H := fun pins s k I =>
  wpAny_Expr_any (thn (q pins s k I) fun v s1 ⟨x, H1, I1, r1, q1⟩ => ⟨σ, H1, I1, q1⟩) I.quiet hs
theorem s_if {t : Expr} {p q : List Stmt} (h : tWT X T t σ H fun k H1 => if k = true then tWSs X T p D σ H1 else tWSs X T q D σ H1) : tWS X T (.If t p q pos) D σ H := fun pins s k I =>
  wpAny_If (thnT k (h pins s k I) fun d s1 k1 ⟨H1, I1, q1⟩ => by
    cases d with
    | true => exact q1 pins s1 k1 I1
    | false => exact q1 pins s1 k1 I1)
theorem s_asg (hs : swapsWithSole [tg] e pos.line X.env = pure false) (hw : swappedStores [tg] e X.env = pure none) (h1 : (assignEach [tg] X.env).map (·.2) = [assign tg X.env]) (q : tW X T e σ H fun x H1 => tWG X T tg x σ H1 D.nx) : tWS X T (.Assign [tg] e pos) D σ H := fun pins s k I =>
  wpAny_Assign_stores (thnT k (q pins s k I) fun v s1 k1 ⟨x, H1, I1, r1, q1⟩ => by
    rw [h1]
    exact thn (q1 pins s1 v k1 I1 r1) fun _ s2 q => q) hs hw
theorem s_set {i : Nat} {x : Str} {pos' : Pos} (hN : X.N.Nodup) (hi : X.N[i]? = some x) (hx : Loc X.env.scope x) (hs : swapsWith e (some (.Name x pos')) pos.line X.env = pure false) (hf : X.fn x = true ∨ X.env.scope.names.lookup x = some .local)
    (q : tW X T e σ H fun v H1 => D.nx (σ.set i (some v)) H1) : tWS X T (.Assign [.Name x pos'] e pos) D σ H := fun pins s k I =>
  wpAny_Assign_Name (thn (q pins s k I) fun v s1 ⟨y, H1, I1, r1, q1⟩ => store_ok I1 hN hi hx r1 (fun s2 I2 => ⟨_, H1, I2, q1⟩) hf) hs
end

/-! ### exceptions, ends -/
/-- an exception: its class, its own fields -/
structure Exn where
  C : Addr
  ns : List Str
  ds : List Dat
def DenX (K : PySem.W.Frag) (G H : Hp) (x : Exn) (d : Option Addr) : Prop := (x.ns = [] ∧ x.ds = []) ∨ ∃ dd vs, d = some dd ∧ G dd = some (.xd (x.ns.zip vs)) ∧ DenL K G x.ds vs
inductive Out where
  | nx (τ : TEnv) | rt (d : Dat) | bk (τ : TEnv) | ct (τ : TEnv) | ex (x : Exn) (τ : TEnv)
abbrev RK := Out → Mem → Prop
abbrev PK' := Dat → Mem → Prop
abbrev XKx := Exn → Mem → Prop
section
variable (K : PySem.W.Frag)
def CE' (G : Hp) (M : Mem) (H : Hp) (P : PK') (Q : VK) : Prop := ∀ d M2 v G2 H2, P d M2 → Stp G M H G2 M2 H2 → Hst K G2 M2 H2 → Den K G2 d v → Q v H2
def CT' (G : Hp) (M : Mem) (H : Hp) (P : Bool → Mem → Prop) (Q : Bool → Hp → Prop) : Prop := ∀ b M2 G2 H2, P b M2 → Stp G M H G2 M2 H2 → Hst K G2 M2 H2 → Q b H2
def CA' (G : Hp) (M : Mem) (H : Hp) (P : List Dat → Mem → Prop) (Q : List V → Hp → Prop) : Prop := ∀ ds M2 vs G2 H2, P ds M2 → Stp G M H G2 M2 H2 → Hst K G2 M2 H2 → DenL K G2 ds vs → Q vs H2
def CX' (G : Hp) (M : Mem) (H : Hp) (E : XKx) (T : Value → Option Addr → Hp → Prop) : Prop := ∀ x M2 G2 H2 d, E x M2 → Stp G M H G2 M2 H2 → Hst K G2 M2 H2 → DenX K G2 H2 x d → T (.ref x.C) d H2
def OutOk (G2 H2 : Hp) (D : Ends) (W : WX) : Out → Prop
  | .nx τ => ∀ σ, DenE K τ G2 σ → D.nx σ H2
  | .rt d => ∀ v, Den K G2 d v → D.rt v H2
  | .bk τ => ∀ σ, DenE K τ G2 σ → D.bk σ H2
  | .ct τ => ∀ σ, DenE K τ G2 σ → D.ct σ H2
  | .ex x τ => ∀ σ d, DenE K τ G2 σ → DenX K G2 H2 x d → W (.ref x.C) d σ H2
def CS' (G : Hp) (M : Mem) (H : Hp) (R : RK) (D : Ends) (W : WX) : Prop := ∀ o M2 G2 H2, R o M2 → Stp G M H G2 M2 H2 → Hst K G2 M2 H2 → OutOk K G2 H2 D W o
/-- the target of a store -/
def CG' (G : Hp) (M : Mem) (H : Hp) (P : TEnv → Mem → Prop) (Q : L2.St → Hp → Prop) : Prop := ∀ τ M2 G2 H2 σ, P τ M2 → Stp G M H G2 M2 H2 → Hst K G2 M2 H2 → DenE K τ G2 σ → Q σ H2
end
section
variable {K : PySem.W.Frag} {G G1 H H1 : Hp} {M M1 : Mem}
theorem CE'.step {P : PK'} {Q : VK} (c : CE' K G M H P Q) (s : Stp G M H G1 M1 H1) : CE' K G1 M1 H1 P Q := fun d M2 v G2 H2 p s2 h dv => c d M2 v G2 H2 p (s.trans s2) h dv
theorem CT'.step {P : Bool → Mem → Prop} {Q : Bool → Hp → Prop} (c : CT' K G M H P Q) (s : Stp G M H G1 M1 H1) : CT' K G1 M1 H1 P Q := fun d M2 G2 H2 p s2 h => c d M2 G2 H2 p (s.trans s2) h
theorem CA'.step {P : List Dat → Mem → Prop} {Q : List V → Hp → Prop} (c : CA' K G M H P Q) (s : Stp G M H G1 M1 H1) : CA' K G1 M1 H1 P Q := fun d M2 v G2 H2 p s2 h dv => c d M2 v G2 H2 p (s.trans s2) h dv
theorem CX'.step {E : XKx} {T : Value → Option Addr → Hp → Prop} (c : CX' K G M H E T) (s : Stp G M H G1 M1 H1) : CX' K G1 M1 H1 E T := fun x M2 G2 H2 d p s2 h dv => c x M2 G2 H2 d p (s.trans s2) h dv
theorem CS'.step {R : RK} {D : Ends} {W : WX} (c : CS' K G M H R D W) (s : Stp G M H G1 M1 H1) : CS' K G1 M1 H1 R D W := fun o M2 G2 H2 p s2 h => c o M2 G2 H2 p (s.trans s2) h
theorem CG'.step {P : TEnv → Mem → Prop} {Q : L2.St → Hp → Prop} (c : CG' K G M H P Q) (s : Stp G M H G1 M1 H1) : CG' K G1 M1 H1 P Q := fun d M2 v G2 H2 p s2 h dv => c d M2 v G2 H2 p (s.trans s2) h dv
end

/-! ### the judgements: in the slots τ and the cells M, e gives a value and cells that P takes, or lets out what E takes -/
structure EX (X : Cx) (T : Bool) (e : Expr) (τ : TEnv) (M : Mem) (P : PK') (E : XKx) : Prop where
  run : ∀ W, Takes X W → ∀ σ G H, DenE X.K τ G σ → Hst X.K G M H → ∀ Q, CE' X.K G M H P Q → CX' X.K G M H E (fun c d H2 => W c d σ H2) → tW X T e σ H Q
structure ET (X : Cx) (T : Bool) (e : Expr) (τ : TEnv) (M : Mem) (P : Bool → Mem → Prop) (E : XKx) : Prop where
  run : ∀ W, Takes X W → ∀ σ G H, DenE X.K τ G σ → Hst X.K G M H → ∀ Q, CT' X.K G M H P Q → CX' X.K G M H E (fun c d H2 => W c d σ H2) → tWT X T e σ H Q
structure EA (X : Cx) (T : Bool) (es : List Expr) (τ : TEnv) (M : Mem) (P : List Dat → Mem → Prop) (E : XKx) : Prop where
  run : ∀ W, Takes X W → ∀ σ G H, DenE X.K τ G σ → Hst X.K G M H → ∀ Q, CA' X.K G M H P Q → CX' X.K G M H E (fun c d H2 => W c d σ H2) → tWA X T es σ H Q
structure WS (X : Cx) (T : Bool) (ss : List Stmt) (τ : TEnv) (M : Mem) (R : RK) : Prop where
  run : ∀ W, Takes X W → ∀ σ G H, DenE X.K τ G σ → Hst X.K G M H → ∀ D, CS' X.K G M H R D W → tWSs X T ss D σ H
/-- a value is stored at a target -/
structure GX (X : Cx) (T : Bool) (tg : Expr) (d : Dat) (τ : TEnv) (M : Mem) (P : TEnv → Mem → Prop) (E : XKx) : Prop where
  run : ∀ W, Takes X W → ∀ σ G H v, DenE X.K τ G σ → Hst X.K G M H → Den X.K G d v → ∀ Q, CG' X.K G M H P Q → CX' X.K G M H E (fun c d H2 => W c d σ H2) → tWG X T tg v σ H Q
/-- operations by values -/
def OP (X : Cx) (T : Bool) (f : Value → Value → Sem Value) (x y : Dat) (M : Mem) (P : PK') : Prop :=
  ∀ G H v u, Hst X.K G M H → Den X.K G x v → Den X.K G y u → ∀ Q, CE' X.K G M H P Q → rW X T f v u H Q
def BC (X : Cx) (f : Value) (ds : List Dat) (M : Mem) (P : PK') : Prop :=
  ∃ r, CallR X f r ∧ ∀ G H vs, Hst X.K G M H → DenL X.K G ds vs → ∀ Q, CE' X.K G M H P Q → r vs H Q
abbrev E0' : XKx := fun _ _ => False
theorem noX {K : PySem.W.Frag} {G H : Hp} {M : Mem} {T : Value → Option Addr → Hp → Prop} : CX' K G M H E0' T := fun _ _ _ _ _ h => h.elim

section
variable {X : Cx} {T : Bool} {τ : TEnv} {M : Mem} {P : PK'} {E : XKx} {e a b c : Expr} {es : List Expr} {pos : Pos}
/-- weakening -/
theorem EX.imp {P' : PK'} {E' : XKx} (h : EX X T e τ M P' E') (hp : ∀ d M2, P' d M2 → P d M2) (hx : ∀ x M2, E' x M2 → E x M2) : EX X T e τ M P E :=
  .mk fun W tk σ G H hE hH Q hP hX => h.run W tk σ G H hE hH Q (fun d M2 v G2 H2 p => hP d M2 v G2 H2 (hp _ _ p)) (fun x M2 G2 H2 d p => hX x M2 G2 H2 d (hx _ _ p))
theorem EX.nox (h : EX X T e τ M P E0') : EX X T e τ M P E := h.imp (fun _ _ p => p) fun _ _ p => p.elim
theorem ET.nox {P : Bool → Mem → Prop} (h : ET X T e τ M P E0') : ET X T e τ M P E := .mk fun W tk σ G H hE hH Q hP _ => h.run W tk σ G H hE hH Q hP noX
/-! ### names and constants -/
theorem ex_at {i : Nat} {x : Str} {d : Dat} (hN : X.N[i]? = some x) (hv : Vis X.env.scope x) (ht : τ[i]? = some (some d)) (h : P d M) (hd : (x == ("__debug__" : Str)) = false := by decide) (hcd : (x == ("__classdict__" : Str)) = false := by decide) :
    EX X T (.Name x pos) τ M P E := .mk fun W tk σ G H hE hH Q hP hX => by
  obtain ⟨v, h1, h2⟩ := hE i d ht
  exact tW_of (pe_var hN hv hd hcd) ⟨v, h1, hP d M v G H h Stp.refl hH h2⟩
/-- the place of a name -/
def ixIn (N : List Str) (x : Str) : Nat := N.findIdx (· == x)
theorem ex_var {x : Str} {d : Dat} (ht : X.N[ixIn X.N x]? = some x ∧ τ[ixIn X.N x]? = some (some d)) (h : P d M) (hv : Vis X.env.scope x := by first | exact Or.inl rfl | exact Or.inr (Or.inl rfl) | exact Or.inr (Or.inr rfl))
    (hd : (x == ("__debug__" : Str)) = false := by decide) (hcd : (x == ("__classdict__" : Str)) = false := by decide) : EX X T (.Name x pos) τ M P E := ex_at ht.1 hv ht.2 h hd hcd
theorem ex_c {v : V} {d : Dat} (hp : PE X e (tC v)) (hd : ∀ G, Den X.K G d v) (h : P d M) : EX X T e τ M P E := .mk fun W tk σ G H hE hH Q hP hX => tW_of hp (hP d M v G H h Stp.refl hH (hd G))
theorem ex_int {i j pos} (h : P (.int i) M) : EX X T (.Constant (.int i) j pos) τ M P E := ex_c pe_int (fun _ => den_int) h
theorem ex_bl {i j pos} (h : P (.bl i) M) : EX X T (.Constant (.bool i) j pos) τ M P E := ex_c pe_bl (fun _ => den_bl) h
theorem ex_non {j pos} (h : P .non M) : EX X T (.Constant .none j pos) τ M P E := ex_c pe_non (fun _ => den_non) h
theorem ex_str {i j pos} (h : P (.str i) M) : EX X T (.Constant (.str i) j pos) τ M P E := ex_c pe_str (fun _ => den_str) h
theorem ex_gstr {x : Str} {z : Str} {t : Tok} (hm : X.mg x = some (.str z t)) (h : P (.str z) M) (hg : Gl X x := by rfl) (hd : (x == ("__debug__" : Str)) = false := by decide) : EX X T (.Name x pos) τ M P E := ex_c (pe_glob (v := .str z) hg hm ⟨t, rfl⟩ hd) (fun _ => den_str) h
theorem ex_gref {x : Str} {q : Addr} (hm : X.mg x = some (.ref q)) (h : P (.raw (.ref q)) M) (hg : Gl X x := by rfl) (hd : (x == ("__debug__" : Str)) = false := by decide) : EX X T (.Name x pos) τ M P E := ex_c (pe_glob (v := .ref q) hg hm rfl hd) (fun _ => den_raw) h

/-! ### operators -/
theorem ex_bin {op : Operator} (h : EX X T a τ M (fun x M1 => EX X T b τ M1 (fun y M2 => OP X T (binaryOp op) x y M2 P) E) E) : EX X T (.BinOp a op b pos) τ M P E := by
  refine .mk ?_; intro W tk σ G H hE hH Q hP hX
  refine w_bin ?_
  refine h.run W tk σ G H hE hH _ ?_ hX
  intro x M1 v G1 H1 hb s1 h1 dx
  refine hb.run W tk σ G1 H1 (hE.up s1.gg) h1 _ ?_ (hX.step s1)
  intro y M2 u G2 H2 ho s2 h2 dy
  exact ho G2 H2 v u h2 (dx.up s2.gg) dy Q (hP.step (s1.trans s2))
theorem ex_cmp {op : CmpOp} (h : EX X T a τ M (fun x M1 => EX X T b τ M1 (fun y M2 => OP X T (compareOp op) x y M2 P) E) E) (hm : behindInMarks op b = false := by first | exact nomark _ | rfl) : EX X T (.Compare a [op] [b] pos) τ M P E := by
  refine .mk ?_; intro W tk σ G H hE hH Q hP hX
  refine w_cmp hm ?_
  refine h.run W tk σ G H hE hH _ ?_ hX
  intro x M1 v G1 H1 hb s1 h1 dx
  refine hb.run W tk σ G1 H1 (hE.up s1.gg) h1 _ ?_ (hX.step s1)
  intro y M2 u G2 H2 ho s2 h2 dy
  exact ho G2 H2 v u h2 (dx.up s2.gg) dy Q (hP.step (s1.trans s2))
theorem op_of {f : Value → Value → Sem Value} {r : R2} {x y : Dat} (ho : OpR X f r) (h : ∀ G H v u, Hst X.K G M H → Den X.K G x v → Den X.K G y u → ∀ Q, CE' X.K G M H P Q → r v u H Q) : OP X T f x y M P :=
  fun G H v u hH dx dy Q hP => rW_of ho (h G H v u hH dx dy Q hP)
theorem op_II {f : Value → Value → Sem Value} {g : Int → Int → V} {i j : Int} {d : Dat} (ho : OpR X f (rI0 g)) (hd : ∀ G, Den X.K G d (g i j)) (h : P d M) : OP X T f (.int i) (.int j) M P :=
  op_of ho fun G H v u hH dx dy Q hP => ⟨i, j, dx.int_inv, dy.int_inv, hP _ _ _ _ _ h Stp.refl hH (hd G)⟩
theorem op_IIc {f : Value → Value → Sem Value} {C : Int → Int → Prop} {g : Int → Int → V} {i j : Int} {d : Dat} (ho : OpR X f (rI C g)) (hc : C i j) (hd : ∀ G, Den X.K G d (g i j)) (h : P d M) : OP X T f (.int i) (.int j) M P :=
  op_of ho fun G H v u hH dx dy Q hP => ⟨i, j, dx.int_inv, dy.int_inv, hc, hP _ _ _ _ _ h Stp.refl hH (hd G)⟩
theorem o_add {i j : Int} (h : P (.int (i + j)) M) : OP X T (binaryOp .Add) (.int i) (.int j) M P := op_II op_add (fun _ => den_int) h
theorem o_sub {i j : Int} (h : P (.int (i - j)) M) : OP X T (binaryOp .Sub) (.int i) (.int j) M P := op_II op_sub (fun _ => den_int) h
theorem o_lt {i j : Int} (h : P (.bl (decide (i < j))) M) : OP X T (compareOp .Lt) (.int i) (.int j) M P := op_II op_lt (fun _ => den_bl) h
theorem o_le {i j : Int} (h : P (.bl (decide (i ≤ j))) M) : OP X T (compareOp .LtE) (.int i) (.int j) M P := op_II op_le (fun _ => den_bl) h
theorem o_gt {i j : Int} (h : P (.bl (decide (j < i))) M) : OP X T (compareOp .Gt) (.int i) (.int j) M P := op_II op_gt (fun _ => den_bl) h
theorem o_ge {i j : Int} (h : P (.bl (decide (j ≤ i))) M) : OP X T (compareOp .GtE) (.int i) (.int j) M P := op_II op_ge (fun _ => den_bl) h

/-! ### tests -/
theorem et_val {Pb : Bool → Mem → Prop} (h : EX X T e τ M (fun d M1 => ∃ k, d = .bl k ∧ Pb k M1) E) (he : ∀ whole, isTrue e X.env whole = (do let v ← whole; standAt e.pos; holding [v] (truthy v)) := by intro _; rfl) : ET X T e τ M Pb E := by
  refine .mk ?_; intro W tk σ G H hE hH Q hP hX
  refine w_val he ?_
  refine h.run W tk σ G H hE hH _ ?_ hX
  intro d M1 v G1 H1 ⟨k, ek, hk⟩ s1 h1 dv
  subst ek
  exact ⟨k, dv.bl_inv, hP k M1 G1 H1 hk s1 h1⟩
theorem et_cmp {op : CmpOp} {Pb : Bool → Mem → Prop} (h : EX X T a τ M (fun x M1 => EX X T b τ M1 (fun y M2 => OP X T (compareOp op) x y M2 fun d M3 => ∃ k, d = .bl k ∧ Pb k M3) E) E) (hm : behindInMarks op b = false := by first | exact nomark _ | rfl) :
    ET X T (.Compare a [op] [b] pos) τ M Pb E := by
  refine .mk ?_; intro W tk σ G H hE hH Q hP hX
  refine w_cmpT hm ?_
  refine h.run W tk σ G H hE hH _ ?_ hX
  intro x M1 v G1 H1 hb s1 h1 dx
  refine hb.run W tk σ G1 H1 (hE.up s1.gg) h1 _ ?_ (hX.step s1)
  intro y M2 u G2 H2 ho s2 h2 dy
  refine ho G2 H2 v u h2 (dx.up s2.gg) dy _ ?_
  intro d M3 w G3 H3 ⟨k, ek, hk⟩ s3 h3 dw
  subst ek
  exact ⟨k, dw.bl_inv, hP k M3 G3 H3 hk ((s1.trans s2).trans s3) h3⟩
theorem et_not {Pb : Bool → Mem → Prop} (h : ET X T a τ M (fun k M1 => Pb (!k) M1) E) : ET X T (.UnaryOp .Not a pos) τ M Pb E := by
  refine .mk ?_; intro W tk σ G H hE hH Q hP hX
  refine w_not ?_
  refine h.run W tk σ G H hE hH _ ?_ hX
  intro k M1 G1 H1 hk s1 h1
  exact hP _ M1 G1 H1 hk s1 h1
/-- and, or: the rest -/
structure EW (X : Cx) (T : Bool) (e : Expr) (τ : TEnv) (M : Mem) (P : Bool → Mem → Prop) (E : XKx) : Prop where
  run : ∀ W, Takes X W → ∀ σ G H, DenE X.K τ G σ → Hst X.K G M H → ∀ Q, CT' X.K G M H P Q → CX' X.K G M H E (fun c d H2 => W c d σ H2) → tWW X T e σ H Q
theorem ew_and1 {Pb : Bool → Mem → Prop} (h : ET X T a τ M Pb E) : EW X T (.BoolOp .And [a] pos) τ M Pb E := .mk fun W tk σ G H hE hH Q hP hX => w_and1 (h.run W tk σ G H hE hH Q hP hX)
theorem ew_or1 {Pb : Bool → Mem → Prop} (h : ET X T a τ M Pb E) : EW X T (.BoolOp .Or [a] pos) τ M Pb E := .mk fun W tk σ G H hE hH Q hP hX => w_or1 (h.run W tk σ G H hE hH Q hP hX)
theorem ew_and {Pb : Bool → Mem → Prop} {rest : List Expr} (h : ET X T a τ M (fun k M1 => (k = true → EW X T (.BoolOp .And (b :: rest) pos) τ M1 Pb E) ∧ (k = false → Pb false M1)) E) : EW X T (.BoolOp .And (a :: b :: rest) pos) τ M Pb E := by
  refine .mk ?_; intro W tk σ G H hE hH Q hP hX
  refine w_and ?_
  refine h.run W tk σ G H hE hH _ ?_ hX
  intro k M1 G1 H1 ⟨h1, h2⟩ s1 hs1
  cases k with
  | true => exact iteT ((h1 rfl).run W tk σ G1 H1 (hE.up s1.gg) hs1 Q (hP.step s1) (hX.step s1))
  | false => exact iteF (hP _ _ _ _ (h2 rfl) s1 hs1)
theorem ew_or {Pb : Bool → Mem → Prop} {rest : List Expr} (h : ET X T a τ M (fun k M1 => (k = true → Pb true M1) ∧ (k = false → EW X T (.BoolOp .Or (b :: rest) pos) τ M1 Pb E)) E) : EW X T (.BoolOp .Or (a :: b :: rest) pos) τ M Pb E := by
  refine .mk ?_; intro W tk σ G H hE hH Q hP hX
  refine w_or ?_
  refine h.run W tk σ G H hE hH _ ?_ hX
  intro k M1 G1 H1 ⟨h1, h2⟩ s1 hs1
  cases k with
  | true => exact iteT (hP _ _ _ _ (h1 rfl) s1 hs1)
  | false => exact iteF ((h2 rfl).run W tk σ G1 H1 (hE.up s1.gg) hs1 Q (hP.step s1) (hX.step s1))
theorem et_w {Pb : Bool → Mem → Prop} (h : EW X T e τ M Pb E) : ET X T e τ M Pb E := .mk fun W tk σ G H hE hH Q hP hX => by
  have := h.run W tk σ G H hE hH Q hP hX
  exact fun pins s k I => this _ pins s k I
theorem ET.imp {P P' : Bool → Mem → Prop} {E' : XKx} (h : ET X T e τ M P' E') (hp : ∀ d M2, P' d M2 → P d M2) (hx : ∀ x M2, E' x M2 → E x M2) : ET X T e τ M P E :=
  .mk fun W tk σ G H hE hH Q hP hX => h.run W tk σ G H hE hH Q (fun d M2 G2 H2 p => hP d M2 G2 H2 (hp _ _ p)) (fun x M2 G2 H2 d p => hX x M2 G2 H2 d (hx _ _ p))
/-- as values -/
theorem ex_and1 {op} (h : EX X T a τ M P E) : EX X T (.BoolOp op [a] pos) τ M P E := .mk fun W tk σ G H hE hH Q hP hX => v_one (h.run W tk σ G H hE hH Q hP hX)
theorem ex_and {rest : List Expr} (h : EX X T a τ M (fun d M1 => ∃ k, d = .bl k ∧ (k = true → EX X T (.BoolOp .And (b :: rest) pos) τ M1 P E) ∧ (k = false → P (.bl false) M1)) E) : EX X T (.BoolOp .And (a :: b :: rest) pos) τ M P E := by
  refine .mk ?_; intro W tk σ G H hE hH Q hP hX
  refine v_and ?_
  refine h.run W tk σ G H hE hH _ ?_ hX
  intro d M1 v G1 H1 ⟨k, ek, h1, h2⟩ s1 hs1 dv
  subst ek
  refine ⟨k, dv.bl_inv, ?_⟩
  cases k with
  | true => exact iteT ((h1 rfl).run W tk σ G1 H1 (hE.up s1.gg) hs1 Q (hP.step s1) (hX.step s1))
  | false => exact iteF (hP _ _ _ _ _ (h2 rfl) s1 hs1 den_bl)
theorem ex_or {rest : List Expr} (h : EX X T a τ M (fun d M1 => ∃ k, d = .bl k ∧ (k = true → P (.bl true) M1) ∧ (k = false → EX X T (.BoolOp .Or (b :: rest) pos) τ M1 P E)) E) : EX X T (.BoolOp .Or (a :: b :: rest) pos) τ M P E := by
  refine .mk ?_; intro W tk σ G H hE hH Q hP hX
  refine v_or ?_
  refine h.run W tk σ G H hE hH _ ?_ hX
  intro d M1 v G1 H1 ⟨k, ek, h1, h2⟩ s1 hs1 dv
  subst ek
  refine ⟨k, dv.bl_inv, ?_⟩
  cases k with
  | true => exact iteT (hP _ _ _ _ _ (h1 rfl) s1 hs1 den_bl)
  | false => exact iteF ((h2 rfl).run W tk σ G1 H1 (hE.up s1.gg) hs1 Q (hP.step s1) (hX.step s1))
theorem ex_not (h : EX X T a τ M (fun d M1 => ∃ k, d = .bl k ∧ P (.bl (!k)) M1) E) : EX X T (.UnaryOp .Not a pos) τ M P E := by
  refine .mk ?_; intro W tk σ G H hE hH Q hP hX
  refine v_not ?_
  refine h.run W tk σ G H hE hH _ ?_ hX
  intro d M1 v G1 H1 ⟨k, ek, h1⟩ s1 hs1 dv
  subst ek
  exact ⟨k, dv.bl_inv, hP _ _ _ _ _ h1 s1 hs1 den_bl⟩
theorem ex_if {t : Expr} (h : ET X T t τ M (fun k M1 => (k = true → EX X T a τ M1 P E) ∧ (k = false → EX X T b τ M1 P E)) E) : EX X T (.IfExp t a b pos) τ M P E := by
  refine .mk ?_; intro W tk σ G H hE hH Q hP hX
  refine v_if ?_
  refine h.run W tk σ G H hE hH _ ?_ hX
  intro k M1 G1 H1 ⟨h1, h2⟩ s1 hs1
  cases k with
  | true => exact iteT ((h1 rfl).run W tk σ G1 H1 (hE.up s1.gg) hs1 Q (hP.step s1) (hX.step s1))
  | false => exact iteF ((h2 rfl).run W tk σ G1 H1 (hE.up s1.gg) hs1 Q (hP.step s1) (hX.step s1))

/-! ### arguments, displays -/
theorem ea_nil {P : List Dat → Mem → Prop} (h : P [] M) : EA X T [] τ M P E := .mk fun W tk σ G H hE hH Q hP hX => tWA_of pa_nil (hP _ _ _ _ _ h Stp.refl hH .nil)
theorem ea_cons {P : List Dat → Mem → Prop} (h : EX X T e τ M (fun d M1 => EA X T es τ M1 (fun ds M2 => P (d :: ds) M2) E) E) (hs : starEach (e :: es) X.env = (false, eval e X.env) :: starEach es X.env := by rfl) : EA X T (e :: es) τ M P E := by
  refine .mk ?_; intro W tk σ G H hE hH Q hP hX
  refine wa_cons hs ?_
  refine h.run W tk σ G H hE hH _ ?_ hX
  intro d M1 v G1 H1 hb s1 h1 dv
  refine hb.run W tk σ G1 H1 (hE.up s1.gg) h1 _ ?_ (hX.step s1)
  intro ds M2 vs G2 H2 ho s2 h2 dvs
  exact hP (d :: ds) M2 (v :: vs) G2 H2 ho (s1.trans s2) h2 (.cons (dv.up s2.gg) dvs)
theorem v_tup {x1} {σ : L2.St} {H : Hp} {Q : VK} (q : tWA X T es σ H fun xs H1 => xs.length ≤ sizeLine ∧ ∀ p, H1 p = none → Q (.ref p) (upd H1 p (.tup xs))) : tW X T (.Tuple es x1 pos) σ H Q := fun pins s k I =>
  wpAny_Tuple_spliced (thn (q pos pins s k I) fun us s1 ⟨xs, H1, I1, r, z, q1⟩ => ⟨by rw [← r.length]; exact z, by
    have hf : H1 s1.heap.objs.size = none := I1.hok.fresh (Nat.le_refl _)
    exact ⟨.ref s1.heap.objs.size, upd H1 s1.heap.objs.size (.tup xs), I1.laid (t' := s1.toks) (fun b u e => Heap.get?_push_of_some _ e) (Nat.le_refl _) ⟨z, us, r, ⟨_, Heap.get?_push_size _ rfl, rfl, _, rfl⟩⟩, rfl, q1 _ hf⟩⟩)
theorem v_lst {σ : L2.St} {H : Hp} {Q : VK} (q : tWA X T es σ H fun xs H1 => xs.length ≤ sizeLine ∧ ∀ p, H1 p = none → Q (.ref p) (upd H1 p (.lst xs))) : tW X T (.List es pos) σ H Q := fun pins s k I =>
  wpAny_List_spliced (thn (q pos pins s k I) fun us s1 ⟨xs, H1, I1, r, z, q1⟩ => ⟨by rw [← r.length]; exact z, by
    have hf : H1 s1.heap.objs.size = none := I1.hok.fresh (Nat.le_refl _)
    exact ⟨.ref s1.heap.objs.size, upd H1 s1.heap.objs.size (.lst xs), I1.laid (t' := s1.toks) (fun b u e => Heap.get?_push_of_some _ e) (Nat.le_refl _) ⟨z, us, 0, r, Heap.get?_push_size _ rfl⟩, rfl, q1 _ hf⟩⟩)
theorem ex_tup {x1} (h : EA X T es τ M (fun ds M1 => ds.length ≤ sizeLine ∧ P (.tup ds) M1) E) : EX X T (.Tuple es x1 pos) τ M P E := by
  refine .mk ?_; intro W tk σ G H hE hH Q hP hX
  refine v_tup ?_
  refine h.run W tk σ G H hE hH _ ?_ hX
  intro ds M1 vs G1 H1 ⟨hl, hp⟩ s1 h1 dvs
  refine ⟨by rw [dvs.length]; exact hl, fun p hp' => ?_⟩
  obtain ⟨s2, h2⟩ := Stp.new (o := .tup vs) h1 hp'
  exact hP _ _ _ _ _ hp (s1.trans s2) h2 (den_tup upd_same (dvs.up s2.gg))
theorem ex_lst (h : EA X T es τ M (fun ds M1 => ds.length ≤ sizeLine ∧ P (.lst ds) M1) E) : EX X T (.List es pos) τ M P E := by
  refine .mk ?_; intro W tk σ G H hE hH Q hP hX
  refine v_lst ?_
  refine h.run W tk σ G H hE hH _ ?_ hX
  intro ds M1 vs G1 H1 ⟨hl, hp⟩ s1 h1 dvs
  refine ⟨by rw [dvs.length]; exact hl, fun p hp' => ?_⟩
  obtain ⟨s2, h2⟩ := Stp.new (o := .lst vs) h1 hp'
  exact hP _ _ _ _ _ hp (s1.trans s2) h2 (den_lst upd_same (dvs.up s2.gg))
/-! ### calls of built-ins -/
theorem ex_callB {x : Str} {p : Pos} {id : String} (hm : X.mg x = none) (hv : bootBuiltins x = some (.builtin id)) (h : EA X T (e :: es) τ M (fun ds M1 => BC X (.builtin id) ds M1 P) E) (hg : Gl X x := by rfl) (hn : x ≠ "__name__" := by decide) (hdb : (x == ("__debug__" : Str)) = false := by decide)
    (he : starEach (e :: es) X.env = (false, eval e X.env) :: starEach es X.env := by rfl) (hpl : (backTo pos (starEach es X.env)).any (·.1) = false := by rfl) : EX X T (.Call (.Name x p) (e :: es) [] pos) τ M P E := by
  refine .mk ?_; intro W tk σ G H hE hH Q hP hX pins s k I
  have hA := h.run W tk σ G H hE hH (fun vs H1 => ∃ r, CallR X (.builtin id) r ∧ r vs H1 Q) (fun ds M1 vs G1 H1 ⟨r, hr, hb⟩ s1 h1 dvs => ⟨r, hr, hb G1 H1 vs h1 dvs Q (hP.step s1)⟩) hX
  refine wpAny_Call_Name_kw (ld_blt I hg hm hv ?_ hn hdb)
  exact PyProof.Rows.callWith_builtin1 (thn (hA pos pins s k I) fun us s1 ⟨vs, H1, I1, r1, r, hr, q1⟩ => hr pins s1 σ H1 vs us Q I1 r1 q1) he hpl
theorem ex_callTy {x : Str} {p : Pos} {T' : String} (hm : X.mg x = none) (hv : bootBuiltins x = some (.type T')) (h : EA X T (e :: es) τ M (fun ds M1 => BC X (.type T') ds M1 P) E) (hg : Gl X x := by rfl) (hn : x ≠ "__name__" := by decide) (hdb : (x == ("__debug__" : Str)) = false := by decide)
    (he : starEach (e :: es) X.env = (false, eval e X.env) :: starEach es X.env := by rfl) (hpl : (backTo pos (starEach es X.env)).any (·.1) = false := by rfl) : EX X T (.Call (.Name x p) (e :: es) [] pos) τ M P E := by
  refine .mk ?_; intro W tk σ G H hE hH Q hP hX pins s k I
  have hA := h.run W tk σ G H hE hH (fun vs H1 => ∃ r, CallR X (.type T') r ∧ r vs H1 Q) (fun ds M1 vs G1 H1 ⟨r, hr, hb⟩ s1 h1 dvs => ⟨r, hr, hb G1 H1 vs h1 dvs Q (hP.step s1)⟩) hX
  refine wpAny_Call_Name_kw (ld_blt I hg hm hv ?_ hn hdb)
  exact PyProof.Rows.callWith_type1 (thn (hA pos pins s k I) fun us s1 ⟨vs, H1, I1, r1, r, hr, q1⟩ => hr pins s1 σ H1 vs us Q I1 r1 q1) he hpl
end

/-! ### statements -/
/-- what follows the statements of a suite -/
def thenR (k : TEnv → Mem → Prop) (R : RK) : RK
  | .nx τ, M => k τ M
  | o, M => R o M
/-- a loop's body -/
def loopR (N k : TEnv → Mem → Prop) (R : RK) : RK
  | .nx τ, M => N τ M
  | .ct τ, M => N τ M
  | .bk τ, M => k τ M
  | .rt d, M => R (.rt d) M
  | .ex x τ, M => R (.ex x τ) M
section
variable {X : Cx} {T : Bool} {τ : TEnv} {M : Mem} {R : RK} {e a b c : Expr} {es : List Expr} {pos : Pos} {rest : List Stmt}
theorem ex_out {K : PySem.W.Frag} {G H : Hp} {D : Ends} {W : WX} {σ : L2.St} (hP : CS' K G M H R D W) (hE : DenE K τ G σ) : CX' K G M H (fun x M' => R (.ex x τ) M') (fun c d H2 => W c d σ H2) :=
  fun x M2 G2 H2 d r s h dx => hP _ _ _ _ r s h σ d (hE.up s.gg) dx
theorem ws_nil (h : R (.nx τ) M) : WS X T [] τ M R := .mk fun W tk σ G H hE hH D hR => tWSs_of pss_nil (hR _ _ _ _ h Stp.refl hH σ hE)
/-- a statement by its own rule, the rest behind it -/
theorem ws_step {st : Stmt} {t : TS} {D : Ends} {σ : L2.St} {H : Hp} (h : PS X st t) (q : t { D with nx := tWSs X T rest D } σ H) : tWSs X T (st :: rest) D σ H := ws_step' (tWS_of h q)
theorem ws_pass (h : WS X T rest τ M R) : WS X T (.Pass pos :: rest) τ M R := .mk fun W tk σ G H hE hH D hR => ws_step ps_pass (h.run W tk σ G H hE hH D hR)
theorem ws_break (h : R (.bk τ) M) : WS X T (.Break pos :: rest) τ M R := .mk fun W tk σ G H hE hH D hR => ws_step ps_break (hR _ _ _ _ h Stp.refl hH σ hE)
theorem ws_cont (h : R (.ct τ) M) : WS X T (.Continue pos :: rest) τ M R := .mk fun W tk σ G H hE hH D hR => ws_step ps_continue (hR _ _ _ _ h Stp.refl hH σ hE)
theorem ws_ret (h : EX X T e τ M (fun d M1 => R (.rt d) M1) (fun x M1 => R (.ex x τ) M1)) : WS X T (.Return (some e) pos :: rest) τ M R := .mk fun W tk σ G H hE hH D hR =>
  ws_step' (s_ret <| h.run W tk σ G H hE hH _ (fun d M2 v G2 H2 r s h2 dv => hR _ _ _ _ r s h2 v dv) (ex_out hR hE))
theorem ws_retN (h : R (.rt .non) M) : WS X T (.Return none pos :: rest) τ M R := .mk fun W tk σ G H hE hH D hR => ws_step ps_retN (hR _ _ _ _ h Stp.refl hH .non den_non)
theorem ws_expr (h : EX X T e τ M (fun _ M1 => WS X T rest τ M1 R) (fun x M1 => R (.ex x τ) M1)) (hs : swapsWith e none pos.line X.env = pure false := by rfl) : WS X T (.Expr e pos :: rest) τ M R := .mk fun W tk σ G H hE hH D hR =>
  ws_step' (s_expr hs <| h.run W tk σ G H hE hH _ (fun d M2 v G2 H2 r s h2 dv => r.run W tk σ G2 H2 (hE.up s.gg) h2 D (hR.step s)) (ex_out hR hE))
/-- x = e -/
theorem ws_set {x : Str} {p : Pos} (h : EX X T e τ M (fun d M1 => WS X T rest (τ.set (ixIn X.N x) (some d)) M1 R) (fun x M1 => R (.ex x τ) M1)) (hi : X.N[ixIn X.N x]? = some x := by rfl) (hx : Loc X.env.scope x := by first | exact Or.inl rfl | exact Or.inr rfl) (hN : X.N.Nodup := by first | decide +kernel | exact of_decide_eq_true (by kernel_rfl))
    (hs : swapsWith e (some (.Name x p)) pos.line X.env = pure false := by rfl) (hf : X.fn x = true ∨ X.env.scope.names.lookup x = some .local := by first | exact .inl rfl | exact .inr rfl | assumption) : WS X T (.Assign [.Name x p] e pos :: rest) τ M R := .mk fun W tk σ G H hE hH D hR => tWSs_len fun hl =>
  ws_step' (s_set hN hi hx hs hf <| h.run W tk σ G H hE hH _ (fun d M2 v G2 H2 r s h2 dv => by
    have hlt : ixIn X.N x < σ.length := by rw [hl]; exact (List.getElem?_eq_some_iff.mp hi).1
    exact r.run W tk _ G2 H2 ((hE.up s.gg).set hlt dv) h2 D (hR.step s)) (ex_out hR hE))
theorem ws_if {t : Expr} {p q : List Stmt} (h : ET X T t τ M (fun k M1 => (k = true → WS X T p τ M1 (thenR (fun τ' M' => WS X T rest τ' M' R) R)) ∧ (k = false → WS X T q τ M1 (thenR (fun τ' M' => WS X T rest τ' M' R) R))) (fun x M1 => R (.ex x τ) M1)) :
    WS X T (.If t p q pos :: rest) τ M R := .mk fun W tk σ G H hE hH D hR => by
  refine ws_step' (s_if ?_)
  refine h.run W tk σ G H hE hH _ ?_ (ex_out hR hE)
  intro k M1 G1 H1 ⟨h1, h2⟩ s1 hs1
  have fin : CS' X.K G1 M1 H1 (thenR (fun τ' M' => WS X T rest τ' M' R) R) { D with nx := tWSs X T rest D } W := fun o M2 G2 H2 r s2 hs2 => by
    cases o with
    | nx τ' => exact fun σ' hE' => r.run W tk σ' G2 H2 hE' hs2 D (hR.step (s1.trans s2))
    | rt d => exact hR _ _ _ _ r (s1.trans s2) hs2
    | bk τ' => exact hR _ _ _ _ r (s1.trans s2) hs2
    | ct τ' => exact hR _ _ _ _ r (s1.trans s2) hs2
    | ex x τ' => exact hR _ _ _ _ r (s1.trans s2) hs2
  cases k with
  | true => exact iteT ((h1 rfl).run W tk σ G1 H1 (hE.up s1.gg) hs1 _ fin)
  | false => exact iteF ((h2 rfl).run W tk σ G1 H1 (hE.up s1.gg) hs1 _ fin)
/-- tg = e, any target -/
theorem ws_asg {tg : Expr} (h : EX X T e τ M (fun d M1 => GX X T tg d τ M1 (fun τ2 M2 => WS X T rest τ2 M2 R) (fun x M2 => R (.ex x τ) M2)) (fun x M1 => R (.ex x τ) M1))
    (hs : swapsWithSole [tg] e pos.line X.env = pure false := by rfl) (hw : swappedStores [tg] e X.env = pure none := by rfl) (h1 : (assignEach [tg] X.env).map (·.2) = [assign tg X.env] := by rfl) : WS X T (.Assign [tg] e pos :: rest) τ M R := .mk fun W tk σ G H hE hH D hR =>
  ws_step' (s_asg hs hw h1 <| h.run W tk σ G H hE hH _ (fun d M2 v G2 H2 r s h2 dv =>
    r.run W tk σ G2 H2 v (hE.up s.gg) h2 dv _ (fun τ3 M3 G3 H3 σ3 r3 s3 h3 e3 => r3.run W tk σ3 G3 H3 e3 h3 D (hR.step (s.trans s3))) ((ex_out hR hE).step s)) (ex_out hR hE))
/-! ### targets -/
theorem gx_name {x : Str} {p : Pos} {d : Dat} {P : TEnv → Mem → Prop} {E : XKx} (h : P (τ.set (ixIn X.N x) (some d)) M) (hi : X.N[ixIn X.N x]? = some x := by rfl) (hx : Loc X.env.scope x := by first | exact Or.inl rfl | exact Or.inr rfl) (hN : X.N.Nodup := by first | decide +kernel | exact of_decide_eq_true (by kernel_rfl))
    (hf : X.fn x = true ∨ X.env.scope.names.lookup x = some .local := by first | exact .inl rfl | exact .inr rfl | assumption) : GX X T (.Name x p) d τ M P E := .mk fun W tk σ G H v hE hH dv Q hP hX => tWG_len fun hl => by
  refine tWG_of (pg_name hN hi hx hf) ?_
  have hlt : ixIn X.N x < σ.length := by rw [hl]; exact (List.getElem?_eq_some_iff.mp hi).1
  exact hP _ _ _ _ _ h Stp.refl hH (hE.set hlt dv)
end
end Kh

set_option Elab.async false
set_option linter.all false
set_option maxRecDepth 100000
set_option maxHeartbeats 1000000
namespace Kh
open PySem PySem.Spec L2
open PyProof.Rows (isTrue_plain)

/-! ### what a def promises -/
/-- the arguments, the cells it is told of; what is wanted of its value and the cells behind it; of what it lets out -/
abbrev Spc := List Dat → Mem → PK' → XKx → Prop
def toSp (K : PySem.W.Frag) (S : Spc) : Sp := fun vs H Q E => ∃ G ds M P PE, DenL K G ds vs ∧ Hst K G M H ∧ S ds M P PE ∧ CE' K G M H P Q ∧ CX' K G M H PE E
abbrev FnD (P : Program) (w : World) (K : PySem.W.Frag) (mg : Str → Option Value) (base : Heap) (k : Nat) (f : Addr) (fd : FuncData) (ps : List Str) (S : Spc) : Prop := FnOk P w K mg base (L2.CX P w) k f fd ps (toSp K S)
/-- a part of the cells is handed to the def, the rest stays -/
def AP (S : Spc) (ds : List Dat) (M : Mem) (P : PK') (E : XKx) : Prop :=
  ∃ Mc Mr, M.Perm (Mc ++ Mr) ∧ S ds Mc (fun d Mc2 => ∃ M2, (Mc2 ++ Mr).Perm M2 ∧ P d M2) (fun x Mc2 => ∃ M2, (Mc2 ++ Mr).Perm M2 ∧ E x M2)
theorem ap_none {S : Spc} {ds : List Dat} {M : Mem} {P : PK'} {E : XKx} (h : S ds [] (fun d Mc2 => P d (Mc2 ++ M)) (fun x Mc2 => E x (Mc2 ++ M))) (hm : ∀ P P' E E', (∀ d M, P d M → P' d M) → (∀ d M, E d M → E' d M) → S ds [] P E → S ds [] P' E') : AP S ds M P E :=
  ⟨[], M, List.Perm.refl _, hm _ _ _ _ (fun d Mc p => ⟨_, List.Perm.refl _, p⟩) (fun d Mc p => ⟨_, List.Perm.refl _, p⟩) h⟩
theorem ap_toSp {K : PySem.W.Frag} {S : Spc} {ds : List Dat} {M : Mem} {P : PK'} {E : XKx} {G H : Hp} {vs : List V} {Q : VK} {T : XK} (h : AP S ds M P E) (dv : DenL K G ds vs) (hH : Hst K G M H) (hP : CE' K G M H P Q) (hX : CX' K G M H E T) : toSp K S vs H Q T := by
  obtain ⟨Mc, Mr, pm, hs⟩ := h
  have hH' := hH.perm pm
  refine ⟨G, ds, Mc, _, _, dv, hH'.left, hs, ?_, ?_⟩
  · intro d Mc2 v G2 H2 ⟨M2, p2, hp⟩ s h2 dd
    obtain ⟨s3, h3⟩ := Stp.frame hH' s h2
    exact hP d M2 v G2 H2 hp (s3.perm pm.symm p2) (h3.perm p2) dd
  · intro x Mc2 G2 H2 d ⟨M2, p2, hp⟩ s h2 dd
    obtain ⟨s3, h3⟩ := Stp.frame hH' s h2
    exact hX x M2 G2 H2 d hp (s3.perm pm.symm p2) (h3.perm p2) dd

/-- the ends of a def -/
def retR (P : PK') (E : XKx) : RK
  | .rt d, M => P d M
  | .nx _, M => P .non M
  | .ex x _, M => E x M
  | _, _ => False
def startT (N : List Str) (ds : List Dat) : TEnv := ds.map some ++ List.replicate (N.length - ds.length) none
theorem denE_start {K : PySem.W.Frag} {G : Hp} {N : List Str} {ds : List Dat} {vs : List V} (h : DenL K G ds vs) : DenE K (startT N ds) G (L2.start N vs) := fun i d e => by
  unfold startT at e
  have hi : i < ds.length := by
    by_cases hi : i < ds.length
    · exact hi
    · rw [List.getElem?_append_right (by simpa using hi), List.getElem?_replicate] at e
      split at e <;> cases e
  rw [List.getElem?_append_left (by simpa using hi), List.getElem?_map] at e
  cases q : ds[i]? with
  | none => rw [q] at e; cases e
  | some d' =>
    rw [q] at e; cases e
    obtain ⟨v, h1, h2⟩ := h.get q
    refine ⟨v, ?_, h2⟩
    unfold L2.start
    rw [List.getElem?_append_left (by rw [List.length_map, h.length]; exact hi), List.getElem?_map, h1]
    rfl
theorem cs_ret {K : PySem.W.Frag} {G H : Hp} {M : Mem} {P : PK'} {E : XKx} {Q : VK} {W : WX} (hP : CE' K G M H P Q) (hX : CX' K G M H E (fun c d H2 => ∀ σ, W c d σ H2)) : CS' K G M H (retR P E) { nx := fun _ H' => Q .non H', rt := Q } W := fun o M2 G2 H2 r s h => by
  cases o with
  | nx τ => exact fun σ _ => hP _ _ _ _ _ r s h den_non
  | rt d => exact fun v dv => hP _ _ _ _ _ r s h dv
  | bk τ => exact r.elim
  | ct τ => exact r.elim
  | ex x τ => exact fun σ d _ dx => hX _ _ _ _ _ r s h dx σ
section
variable {P : Program} {w : World} {K : PySem.W.Frag} {mg : Str → Option Value} {base : Heap}
/-- binding parameters, one of them a local: a token is out behind it -/
theorem bind_toks {M : Model} {A : Around} {E : Value → Shared → Prop} {s₀ : Shared} {env : Env} (f : Str × Value → PUnit → Sem (ForInStep PUnit)) (hf : ∀ n v u, f (n, v) u = (do storeName env n v; pure (.yield ⟨⟩))) (hk : env.scope.kind = .function) :
    ∀ (bs : List (Str × Value)) (m cm : Str → Option Value) (s : Shared) (Q : PUnit → Shared → Prop), InCallC s₀ env.locals m env.cells cm s →
      (∀ x ∈ bs, env.kindOf x.1 = some .local ∨ (env.kindOf x.1 = some .cell ∧ (env.cells.lookup x.1).isSome = true)) → (∃ x ∈ bs, env.kindOf x.1 = some .local) →
      (∀ s', 1 ≤ s'.toks → InCallC s₀ env.locals (bindL env.kindOf bs m) env.cells (bindC env.kindOf bs cm) s' → Q ⟨⟩ s') → wpAny M A (forIn bs ⟨⟩ f) Q E s
  | [], m, cm, s, Q, x, _, ⟨y, hy, _⟩, h => by cases hy
  | (n, v) :: r, m, cm, s, Q, x, kinds, he, h => by
    rw [List.forIn_cons, hf]
    have kr : ∀ y ∈ r, env.kindOf y.1 = some .local ∨ (env.kindOf y.1 = some .cell ∧ (env.cells.lookup y.1).isSome = true) := fun y hy => kinds y (List.mem_cons_of_mem _ hy)
    rcases kinds (n, v) List.mem_cons_self with hl | ⟨hl, hc⟩
    · refine wpAny_bind (wpAny_bind (wpAny_storeName_local hl x.toInCall.ns (fun h' hn' hs' => wpAny_pure ?_) (by rw [hk]; rfl)))
      have x' : InCallC s₀ env.locals (fun y => if y = n then some v else m y) env.cells cm { s with heap := h', toks := s.toks + 1 } := by
        refine ⟨⟨?_, hn', fun b o e => ?_, x.toInCall.fresh⟩, fun k c hc => ?_, x.apart, x.above⟩
        · obtain ⟨h₁, tk, rfl⟩ := x.toInCall.same
          exact ⟨h', _, rfl⟩
        · exact hs'.extBut b o (Nat.ne_of_lt (Nat.lt_of_lt_of_le (Heap.lt_size e) x.toInCall.fresh)) (x.toInCall.keep b o e)
        · exact (x.cell k c hc).sameBut hs' (Nat.ne_of_gt (x.above k c (mem_of_lookup hc)))
      refine wpAny_with_toks (n := 1) (show 1 ≤ s.toks + 1 by omega) ?_
      refine wpAny_mono (E := fun e s' => E e s') (wpAny_bindParams f hf hk r _ _ _ (fun u s'' => 1 ≤ s''.toks → Q u s'') x' kr fun s'' x'' k => h s'' k ?_) (fun _ _ q => q) fun _ _ q _ => q
      unfold bindL bindC; rw [if_pos hl, if_pos hl]; exact x''
    · obtain ⟨c, hc⟩ := Option.isSome_iff_exists.mp hc
      have hnl : ¬ env.kindOf n = some .local := by rw [hl]; decide
      have hr : ∃ y ∈ r, env.kindOf y.1 = some .local := by
        obtain ⟨y, hy, hy2⟩ := he
        rcases List.mem_cons.mp hy with rfl | hy
        · exact absurd hy2 hnl
        · exact ⟨y, hy, hy2⟩
      refine wpAny_bind (wpAny_bind (stCC x hk hl hc fun s' x' => wpAny_pure (bind_toks f hf hk r _ _ s' Q x' kr hr fun s'' k x'' => h s'' k ?_)))
      unfold bindL bindC; rw [if_neg hnl, if_neg hnl]; exact x''
theorem newEnv_toks {M : Model} {A : Around} {E : Value → Shared → Prop} {s : Shared} {scope : Scope} {globals : Addr} {bs : List (Str × Value)} {qual : Str} {func : Option Addr} {code : Value} {builtins : Addr} {Q : Env → Shared → Prop}
    (hk : scope.kind = .function)
    (kinds : ∀ x ∈ bs, scope.names.lookup x.1 = some .local ∨ (scope.names.lookup x.1 = some .cell ∧ ((cellsFrom (s.heap.objs.size + 1) scope.names []).lookup x.1).isSome = true)) (he : ∃ x ∈ bs, scope.names.lookup x.1 = some .local)
    (hQ : ∀ env, env = newEnv scope s.heap.objs.size globals (cellsFrom (s.heap.objs.size + 1) scope.names []) qual func code none builtins →
      ∀ s', 1 ≤ s'.toks → InCallC s env.locals (bindL env.kindOf bs fun _ => none) env.cells (bindC env.kindOf bs fun _ => none) s' → Q env s') :
    wpAny M A (newFunctionEnv scope globals [] bs qual func code none builtins) Q E s := by
  simp only [newFunctionEnv, Option.isSome_none, Bool.false_eq_true, if_false]
  refine wpAny_bind (wpAny_alloc (wpAny_bind (wpAny_layCells _ (fun name kind cells => by cases hkc : kind == NameKind.cell <;> simp [hkc]) _ _ _ _ ?_)))
  have ok := cellsFrom_ok scope.names (s.heap.push { cls := .type "frame", data := .dict #[] }) (s.heap.objs.size + 1) [] ⟨fun _ _ hm => (nomatch hm), List.Pairwise.nil⟩ (by rw [Heap.size_push]; exact Nat.le_refl _)
  rw [Heap.size_push] at ok
  rw [show ({ s with heap := s.heap.push { cls := .type "frame", data := .dict #[] } } : Shared).heap.objs.size = s.heap.objs.size + 1 from Heap.size_push ..]
  exact wpAny_bind (bind_toks (s₀ := s) (env := newEnv scope s.heap.objs.size globals (cellsFrom (s.heap.objs.size + 1) scope.names []) qual func code none builtins) _ (fun _ _ _ => rfl) hk bs (fun _ => none) (fun _ => none) _ _
    ⟨⟨⟨_, _, rfl⟩, (Heap.Ns.new s.heap (.type "frame")).keeps (pushCells_keeps _ _), fun b o e => pushCells_keeps _ _ b o (Heap.get?_push_of_some _ e), Nat.le_refl _⟩, fun n c hc => (ok.empty n c (mem_of_lookup hc)).1, ok.apart, fun n c hm => (ok.empty n c hm).2⟩
    kinds he fun s' k x => wpAny_pure (hQ _ rfl s' k x))
/-- a body, at its entry: with T where a parameter is a local -/
theorem fn_w {CX : CXT} {k : Nat} {f : Addr} {name qual : Str} {params : Arguments} {body : List Stmt} {scope : Scope} {dV kV doc pm cdv ct oc : Value} {an od : Option Addr} {T : Bool}
    {osl : Array (Option Value)} {N ps : List Str} {sp : Sp} (lk : K.lookup f = some ⟨oc, od, .func (PySem.W.fnOf name qual params body scope dV kV doc pm an cdv ct), osl⟩) (hcd : PySem.W.codeIn K cdv qual = true) (S : FnScope N ps scope) (hT : T = true → ∃ x ∈ ps, scope.names.lookup x = some .local)
    (len : ∀ vs H Q E, sp vs H Q E → vs.length = ps.length)
    (hbody : ∀ (A : Around) (outer : List Env) (s : Shared) (H : Hp) (vs : List V) (Q : VK) (E : XK), Room k (A.deeper (PyProof.Rows.envOfC qual scope s.heap.objs.size f cdv)) → sp vs H Q E →
      tWSs (cxOf CX P w K mg base N qual scope f cdv A outer s H E) T body { nx := fun _ H' => Q .non H', rt := Q } (L2.start N vs) H) :
    FnOk P w K mg base CX (k + 1) f (PySem.W.fnOf name qual params body scope dV kV doc pm an cdv ct) ps sp := by
  refine ⟨len, fun A outer s H args us vs Q E hr e0 hb r hsp => ?_⟩
  have hl := len _ _ _ _ hsp
  have KX : K.In s.heap := e0.mod.kin.keeps fun b o e => (e0.bs b o e).1
  have lim : s.heap.NoLimit := e0.mod.nolimit.keeps fun b o e => (e0.bs b o e).1
  have kinds : ∀ y ∈ ps.zip us, scope.names.lookup y.1 = some .local ∨ (scope.names.lookup y.1 = some .cell ∧ ((cellsFrom (s.heap.objs.size + 1) scope.names []).lookup y.1).isSome = true) := fun ⟨n, v⟩ hy => by
    rcases S.par n (List.of_mem_zip hy).1 with q | q
    · exact .inl q
    · exact .inr ⟨q, PySem.W.cellsFrom_some _ _ _ (.inl q)⟩
  refine codeAny_call_function hr.depth (KX _ _ lk) rfl S.co S.gen rfl (PySem.W.codeRec_of KX hcd) (hb _ _ _ _ ?_)
  have main : ∀ env, env = newEnv scope s.heap.objs.size mainGlobals (cellsFrom (s.heap.objs.size + 1) scope.names []) (qual ++ ".<locals>.") (some f) cdv none builtinsNs → ∀ s1, Tk T s1 → InCallC s env.locals (bindL env.kindOf (ps.zip us) fun _ => none) env.cells (bindC env.kindOf (ps.zip us) fun _ => none) s1 →
      s1.heap.NoLimit ∧ codeAny (model P w) A (.func body env) (CR CX outer P w H s Q E) s1 := by
    intro env he s1 hk x
    subst he
    refine ⟨lim.keeps x.toInCall.keep, codeAny_func ?_⟩
    have ht := hbody A outer s H vs Q E (hr.deeper _) hsp
    have I : Inv (cxOf CX P w K mg base N qual scope f cdv A outer s H E) [] (L2.start N vs) H s1 := inv_start S hr.hd e0 hl r x
    refine wpAny_mono (ht [] s1 hk I) (fun fl s' hs => ?_) fun e s' hs => hs
    cases fl with
    | ret u =>
      obtain ⟨v, σ', H', J, rv, q⟩ := hs
      exact ⟨v, H', J.os, J.bare, J.base, J.hok, rv, q⟩
    | next =>
      obtain ⟨σ', H', J, q⟩ := hs
      exact ⟨V.non, H', J.os, J.bare, J.base, J.hok, (rfl : Value.none = Value.none), q⟩
    | brk => obtain ⟨_, _, _, q⟩ := hs; exact False.elim q
    | cont => obtain ⟨_, _, _, q⟩ := hs; exact False.elim q
  cases T with
  | false => exact wpAny_newFunctionEnv_cells S.kind kinds fun env he s1 x => main env he s1 tk_f x
  | true =>
    refine newEnv_toks S.kind kinds ?_ fun env he s1 k x => main env he s1 (fun _ => k) x
    obtain ⟨x, hx, h2⟩ := hT rfl
    obtain ⟨i, hi, e⟩ := List.getElem_of_mem hx
    have hul : us.length = ps.length := by rw [← r.length, hl]
    exact ⟨(ps[i], us[i]'(by omega)), List.mem_of_getElem? (i := i) (by rw [List.getElem?_zip_eq_some]; exact ⟨List.getElem?_eq_getElem hi, List.getElem?_eq_getElem _⟩), by rw [e]; exact h2⟩
/-- THE RULE for a def that may raise (or not) -/
theorem fn_d {x qual : Str} {st : Stmt} {f : Addr} {fd : FuncData} {N ps : List Str} {k : Nat} {S : Spc} (T : Bool) (F : Fun K x qual st f fd) (Sc : FnScope N ps (defScope st)) (hT : T = true → ∃ x ∈ ps, (defScope st).names.lookup x = some .local) (len : ∀ ds M P E, S ds M P E → ds.length = ps.length)
    (body : ∀ (cdv : Value) (A : Around) (outer : List Env) (s : Shared) (H : Hp) (E : XK), Room k (A.deeper (PyProof.Rows.envOfC qual (defScope st) s.heap.objs.size f cdv)) → ∀ ds M Pd PE, S ds M Pd PE →
      WS (cxOf (L2.CX P w) P w K mg base N qual (defScope st) f cdv A outer s H E) T (defBody st) (startT N ds) M (retR Pd PE)) : FnD P w K mg base (k + 1) f fd ps S := by
  obtain ⟨oc, od, kV, doc, pm, an, cdv, ct, osl, rfl, lk, hcd⟩ := F.ex
  refine fn_w (T := T) lk hcd Sc hT (fun vs H Q E h => ?_) (fun A outer s H vs Q E hr h => ?_)
  · obtain ⟨G, ds, M, Pd, PE, dv, _, hs, _⟩ := h
    rw [dv.length]; exact len _ _ _ _ hs
  · obtain ⟨G, ds, M, Pd, PE, dv, hH, hs, hP, hX⟩ := h
    exact (body cdv A outer s H E hr ds M Pd PE hs).run _ (takes_of rfl rfl rfl rfl) _ G H (denE_start dv) hH _ (cs_ret hP fun x M2 G2 H2 d p s h dx σ => hX x M2 G2 H2 d p s h dx)
/-- the law's own def: nothing leaves it -/
theorem fn_law {x qual : Str} {st : Stmt} {f : Addr} {fd : FuncData} {N ps : List Str} {k : Nat} {S : Spc} (T : Bool) (F : Fun K x qual st f fd) (Sc : FnScope N ps (defScope st)) (hT : T = true → ∃ x ∈ ps, (defScope st).names.lookup x = some .local) (len : ∀ ds M P E, S ds M P E → ds.length = ps.length)
    (body : ∀ (cdv : Value) (A : Around) (outer : List Env) (s : Shared) (H : Hp), Room k (A.deeper (PyProof.Rows.envOfC qual (defScope st) s.heap.objs.size f cdv)) → ∀ ds M Pd PE, S ds M Pd PE →
      WS (cxOf CX0 P w K mg base N qual (defScope st) f cdv A outer s H L2.E0).nox T (defBody st) (startT N ds) M (retR Pd E0')) : FnOk P w K mg base CX0 (k + 1) f fd ps (toSp K S) := by
  obtain ⟨oc, od, kV, doc, pm, an, cdv, ct, osl, rfl, lk, hcd⟩ := F.ex
  refine fn_w (T := T) lk hcd Sc hT (fun vs H Q E h => ?_) (fun A outer s H vs Q E hr h => ?_)
  · obtain ⟨G, ds, M, Pd, PE, dv, _, hs, _⟩ := h
    rw [dv.length]; exact len _ _ _ _ hs
  · obtain ⟨G, ds, M, Pd, PE, dv, hH, hs, hP, hX⟩ := h
    intro pins s1 tk I
    have q := (body cdv A outer s H hr ds M Pd PE hs).run _ takes0 _ G H (denE_start dv) hH _ (cs_ret hP fun x M2 G2 H2 d p => p.elim) pins s1 tk (I.wish _)
    exact wpAny_mono q (fun _ _ z => z.unwish) fun _ _ z => False.elim z
end

/-! ### calls -/
section
variable {X : Cx} {T : Bool} {τ : TEnv} {M : Mem} {P : PK'} {E : XKx} {e o a b c : Expr} {es : List Expr} {pos p apos : Pos} {k : Nat} {f C : Addr} {fd : FuncData} {ps : List Str} {S : Spc} {dvs : List V} {df : List Dat} {dsv : List Value} {x m : Str}
theorem run_d {pins : List (Addr × Obj)} {σ : L2.St} {H : Hp} {s : Shared} {Q : VK} {us : List Value} {vs : List V} {W : WX} (F : FnD X.prog X.w X.K X.mg X.base k f fd ps S) (hr : Room k X.A) (hb : Binds X.K fd ps dsv) (hd : Vals dvs dsv) (tk : Takes X W)
    (I : Inv X pins σ H s) (r : Vals vs us) (h : toSp X.K S (vs ++ dvs) H Q (fun c d H2 => W c d σ H2)) : wpAny (model X.prog X.w) X.A (call (.ref f) us) (EP X pins σ Q) X.xe s :=
  run_fnSD (E := fun σ c d H2 => W c d σ H2) F hr hb hd (fun pins H s e s' I c => tk e s' (XE.of_call I (fun cls d H' h => h) c)) I r h
/-- f(e, ..) -/
theorem ex_call (F : FnD X.prog X.w X.K X.mg X.base k f fd ps S) (hr : Room k X.A) (hm : X.mg x = some (.ref f)) (hk : PySem.W.keepIn X.K (.ref f) = true) (hb : Binds X.K fd ps dsv) (hd : Vals dvs dsv) (hdf : ∀ G, DenL X.K G df dvs)
    (h : EA X T (e :: es) τ M (fun ds M1 => AP S (ds ++ df) M1 P E) E) (hg : Gl X x := by rfl) (hdb : (x == ("__debug__" : Str)) = false := by decide) (he : starEach (e :: es) X.env = (false, eval e X.env) :: starEach es X.env := by rfl) (hpl : (backTo pos (starEach es X.env)).any (·.1) = false := by rfl) :
    EX X T (.Call (.Name x p) (e :: es) [] pos) τ M P E := by
  refine .mk ?_; intro W tk σ G H hE hH Q hP hX pins s k0 I
  refine wpAny_Call_Name_kw (ld_glob I hg hm ?_ hdb)
  have hA := h.run W tk σ G H hE hH (fun vs H1 => toSp X.K S (vs ++ dvs) H1 Q (fun c d H2 => W c d σ H2)) (fun ds M1 vs G1 H1 ha s1 h1 dv => ap_toSp ha (dv.append (hdf G1)) h1 (hP.step s1) (hX.step s1)) hX
  refine PySem.W.callWith_K (h₀ := X.base) I.ok.mod.kin hk (thn (hA pos pins s k0 I) fun us s1 ⟨vs, H1, I1, r, q⟩ => ⟨I1.kIn, ?_⟩) he hpl
  exact run_d F hr hb hd tk I1 r q
theorem ex_call0 (F : FnD X.prog X.w X.K X.mg X.base k f fd ps S) (hr : Room k X.A) (hm : X.mg x = some (.ref f)) (hk : PySem.W.keepIn X.K (.ref f) = true) (hb : Binds X.K fd ps dsv) (hd : Vals dvs dsv) (hdf : ∀ G, DenL X.K G df dvs)
    (h : AP S df M P E) (hg : Gl X x := by rfl) (hdb : (x == ("__debug__" : Str)) = false := by decide) : EX X T (.Call (.Name x p) [] [] pos) τ M P E := by
  refine .mk ?_; intro W tk σ G H hE hH Q hP hX pins s k0 I
  refine wpAny_Call_Name_kw (ld_glob I hg hm ?_ hdb)
  exact PySem.W.callWith_K0 I.kIn hk (run_d (us := []) (vs := []) F hr hb hd tk I .nil (ap_toSp h (hdf G) hH hP hX))
/-- an instance of the class at C without a field m -/
def IsI (C : Addr) (m : Str) (M : Mem) (d : Dat) : Prop := (∃ ns ds, d = .obj C ns ds ∧ m ∉ ns) ∨ ∃ p dx fs, d = .raw (.ref p) ∧ (p, MC.ins C dx fs) ∈ M ∧ m ∉ fs.map (·.1)
theorem lookup_none_of {α : Type} : ∀ {l : List (Str × α)} {m : Str}, m ∉ l.map (·.1) → l.lookup m = none
  | [], _, _ => rfl
  | (n, v) :: r, m, h => by
    have h1 : (m == n) = false := by
      cases q : m == n with
      | false => rfl
      | true => exact absurd (List.mem_map.mpr ⟨(n, v), List.mem_cons_self, (eq_of_beq q).symm⟩) h
    rw [List.lookup_cons, h1]
    exact lookup_none_of fun z => h (List.mem_cons_of_mem _ z)
theorem zip_fst_sub {α β : Type} {a : α} : ∀ {l : List α} {r : List β}, a ∈ (l.zip r).map (·.1) → a ∈ l
  | [], _, h => by simp at h
  | _ :: _, [], h => by simp at h
  | x :: l, y :: r, h => by
    rw [List.zip_cons_cons, List.map_cons] at h
    rcases List.mem_cons.mp h with e | h
    · exact List.mem_cons.mpr (.inl e)
    · exact List.mem_cons_of_mem _ (zip_fst_sub h)
theorem IsI.get {K : PySem.W.Frag} {G H : Hp} {d : Dat} {v : V} (h : IsI C m M d) (hH : Hst K G M H) (dv : Den K G d v) : ∃ a dx fs, v = .ref a ∧ H a = some (.ins C dx fs) ∧ fs.lookup m = none := by
  rcases h with ⟨ns, ds, rfl, hm⟩ | ⟨q, dx, fs, rfl, hq, hm⟩
  · obtain ⟨a, dx, vs, rfl, h1, h2, h3⟩ := dv.obj_inv
    exact ⟨a, dx, _, rfl, hH.sub _ _ h1, lookup_none_of fun z => hm (zip_fst_sub z)⟩
  · obtain ⟨vs, h1, h2, h3⟩ := hH.mem _ hq
    exact ⟨q, dx, vs, dv.raw_inv, h1, lookup_none_of fun z => hm (by rw [← h3.1]; exact z)⟩
/-- o.m(e, ..) -/
theorem ex_meth {g : Addr} {pl : Sem Bool} (c : Cls X.K C) (hm : Meth X.K C m g) (F : FnD X.prog X.w X.K X.mg X.base k g fd ps S) (hr : Room k X.A) (hb : Binds X.K fd ps dsv) (hd : Vals dvs dsv) (hdf : ∀ G, DenL X.K G df dvs)
    (h : EX X T o τ M (fun d M1 => IsI C m M1 d ∧ EA X T (e :: es) τ M1 (fun ds M2 => AP S (d :: (ds ++ df)) M2 P E) E) E)
    (ht : eval (.Call (.Attribute o m apos) (e :: es) [] pos) X.env = (do let ov ← eval o X.env; standAt apos.atName; let (f, first) ← holding [ov] (getMethod ov m pl); callWith pos f first (backTo pos (starEach (e :: es) X.env)) []) := by rfl)
    (he : starEach (e :: es) X.env = (false, eval e X.env) :: starEach es X.env := by rfl) (hpl : (backTo pos (starEach es X.env)).any (·.1) = false := by rfl) :
    EX X T (.Call (.Attribute o m apos) (e :: es) [] pos) τ M P E := by
  refine .mk ?_; intro W tk σ G H hE hH Q hP hX pins s k0 I
  have hO := h.run W tk σ G H hE hH (fun x H1 => ∃ a dx fs, x = .ref a ∧ H1 a = some (.ins C dx fs) ∧ fs.lookup m = none ∧ tWA X T (e :: es) σ H1 fun vs H2 => toSp X.K S (x :: (vs ++ dvs)) H2 Q (fun c d H3 => W c d σ H3)) (fun d M1 v G1 H1 ⟨hi, ha⟩ s1 h1 dv => by
    obtain ⟨a, dx, fs, e1, e2, e3⟩ := hi.get h1 dv
    exact ⟨a, dx, fs, e1, e2, e3, ha.run W tk σ G1 H1 (hE.up s1.gg) h1 _ (fun ds M2 vs G2 H2 hp s2 h2 dvs2 => ap_toSp hp (.cons (dv.up s2.gg) (dvs2.append (hdf G2))) h2 (hP.step (s1.trans s2)) (hX.step (s1.trans s2))) (hX.step s1)⟩) hX
  refine PySem.W.methodCall_KW (pl := pl) (thnT k0 (hO pins s k0 I) fun u s1 k1 ⟨x, H1, I1, rx, a, dx, fs, ex, ea, l, q⟩ => ?_) ht
  subst ex
  obtain rfl : u = Value.ref a := rx
  refine getmeth_ok I1 ea c hm l ?_
  refine PySem.W.callWith_K (h₀ := X.base) (first := [.ref a]) I1.ok.mod.kin hm.kp (thn (q pos pins s1 k1 I1) fun us s2 ⟨vs, H2, I2, r, q2⟩ => ⟨I2.kIn, ?_⟩) he hpl
  exact run_d (us := .ref a :: us) (vs := .ref a :: vs) F hr hb hd tk I2 (.cons rfl r) q2
theorem ex_meth0 {g : Addr} {pl : Sem Bool} (c : Cls X.K C) (hm : Meth X.K C m g) (F : FnD X.prog X.w X.K X.mg X.base k g fd ps S) (hr : Room k X.A) (hb : Binds X.K fd ps dsv) (hd : Vals dvs dsv) (hdf : ∀ G, DenL X.K G df dvs)
    (h : EX X T o τ M (fun d M1 => IsI C m M1 d ∧ AP S (d :: df) M1 P E) E)
    (ht : eval (.Call (.Attribute o m apos) [] [] pos) X.env = (do let ov ← eval o X.env; standAt apos.atName; let (f, first) ← holding [ov] (getMethod ov m pl); callWith pos f first (backTo pos (starEach [] X.env)) []) := by rfl) :
    EX X T (.Call (.Attribute o m apos) [] [] pos) τ M P E := by
  refine .mk ?_; intro W tk σ G H hE hH Q hP hX pins s k0 I
  have hO := h.run W tk σ G H hE hH (fun x H1 => ∃ a dx fs, x = .ref a ∧ H1 a = some (.ins C dx fs) ∧ fs.lookup m = none ∧ toSp X.K S (x :: dvs) H1 Q (fun c d H3 => W c d σ H3)) (fun d M1 v G1 H1 ⟨hi, ha⟩ s1 h1 dv => by
    obtain ⟨a, dx, fs, e1, e2, e3⟩ := hi.get h1 dv
    exact ⟨a, dx, fs, e1, e2, e3, ap_toSp ha (.cons dv (hdf G1)) h1 (hP.step s1) (hX.step s1)⟩) hX
  refine PySem.W.methodCall_KW (pl := pl) (thnT k0 (hO pins s k0 I) fun u s1 k1 ⟨x, H1, I1, rx, a, dx, fs, ex, ea, l, q⟩ => ?_) ht
  subst ex
  obtain rfl : u = Value.ref a := rx
  refine getmeth_ok I1 ea c hm l ?_
  exact PySem.W.callWith_K0 (first := [.ref a]) I1.kIn hm.kp (run_d (us := [.ref a]) (vs := [.ref a]) F hr hb hd tk I1 (.cons rfl .nil) q)
/-- e.f, a property -/
theorem ex_prop {q g : Addr} {n : Str} (c : Cls X.K C) (hp : PropOf X.K C n q g) (F : FnD X.prog X.w X.K X.mg X.base k g fd ps S) (hr : Room (k + 1) X.A) (hb : Binds X.K fd ps [])
    (h : EX X T e τ M (fun d M1 => (∃ m, IsI C m M1 d) ∧ AP S [d] M1 P E0') E) (hab : attributeBase e n X.env (eval e X.env) = eval e X.env := by rfl) : EX X T (.Attribute e n pos) τ M P E := by
  refine .mk ?_; intro W tk σ G H hE hH Q hP hX
  intro pins s k0 I
  have hO := h.run W tk σ G H hE hH (fun x H1 => ∃ a dx fs, x = .ref a ∧ H1 a = some (.ins C dx fs) ∧ toSp X.K S [x] H1 Q L2.E0) (fun d M1 v G1 H1 ⟨⟨m, hi⟩, ha⟩ s1 h1 dv => by
    obtain ⟨a, dx, fs, e1, e2, e3⟩ := hi.get h1 dv
    exact ⟨a, dx, fs, e1, e2, ap_toSp ha (.cons dv .nil) h1 (hP.step s1) noX⟩) hX
  refine attr_of hab (thn (hO pins s k0 I) fun u s1 ⟨x, H1, I1, rx, a, dx, fs, ex, ea, q⟩ => ?_)
  subst ex
  obtain rfl : u = Value.ref a := rx
  exact getprop_ok (dvs := []) I1 ea c hp F hr hb .nil passL q
/-- a field of an instance -/
def FldI (K : PySem.W.Frag) (n : Str) (M : Mem) (d z : Dat) : Prop := ∃ C, Cls K C ∧ NoAttr K C n ∧ ((∃ ns ds, d = .obj C ns ds ∧ ns.length = ds.length ∧ (ns.zip ds).lookup n = some z) ∨ ∃ p dx fs, d = .raw (.ref p) ∧ (p, MC.ins C dx fs) ∈ M ∧ fs.lookup n = some z)
theorem denL_lookup {K : PySem.W.Frag} {G : Hp} : ∀ {ns : List Str} {ds : List Dat} {vs : List V} {n : Str} {z : Dat}, DenL K G ds vs → (ns.zip ds).lookup n = some z → ∃ v, (ns.zip vs).lookup n = some v ∧ Den K G z v
  | [], _, _, _, _, _, h => by simp at h
  | _ :: _, [], _, _, _, _, h => by simp at h
  | y :: ns, d :: ds, _, n, z, q, h => by
    obtain ⟨v, r, rfl, hv, t⟩ := q.cons_inv
    rw [List.zip_cons_cons, List.lookup_cons] at h ⊢
    cases e : n == y with
    | true => rw [e] at h; cases h; exact ⟨v, rfl, hv⟩
    | false => rw [e] at h; exact denL_lookup t h
theorem denF_lookup {K : PySem.W.Frag} {G : Hp} : ∀ {fs : List (Str × Dat)} {vs : List (Str × V)} {n : Str} {z : Dat}, DenF K G fs vs → fs.lookup n = some z → ∃ v, vs.lookup n = some v ∧ Den K G z v
  | [], _, _, _, _, h => by simp at h
  | (y, d) :: fs, [], _, _, q, h => by have := q.1; simp at this
  | (y, d) :: fs, (y', v) :: vs, n, z, q, h => by
    obtain ⟨h1, h2⟩ := q
    rw [List.map_cons, List.map_cons] at h1
    obtain ⟨e1, e2⟩ := List.cons.inj h1
    have e1 : y' = y := e1
    subst e1
    obtain ⟨v', r, e, hv, t⟩ := (show DenL K G (d :: fs.map (·.2)) (v :: vs.map (·.2)) from h2).cons_inv
    obtain ⟨rfl, rfl⟩ := List.cons.inj e
    rw [List.lookup_cons] at h ⊢
    cases e : n == y' with
    | true => rw [e] at h; cases h; exact ⟨v, rfl, hv⟩
    | false => rw [e] at h; exact denF_lookup ⟨e2, t⟩ h
theorem v_fld {n : Str} {σ : L2.St} {H : Hp} {Q : VK} (hb : attributeBase e n X.env (eval e X.env) = eval e X.env) (q : tW X T e σ H fun x H1 => ∃ a C dx fs v, x = .ref a ∧ H1 a = some (.ins C dx fs) ∧ Cls X.K C ∧ NoAttr X.K C n ∧ fs.lookup n = some v ∧ Q v H1) :
    tW X T (.Attribute e n pos) σ H Q := fun pins s k0 I =>
  attr_of hb (thn (q pins s k0 I) fun u s1 ⟨x, H1, I1, rx, a, C, dx, fs, v, ex, ea, hc, hn, l, q⟩ => by
    subst ex
    obtain rfl : u = Value.ref a := rx
    exact getattr_ok I1 ea hc hn l fun u' s2 I2 ru => ⟨v, H1, I2, ru, q⟩)
theorem ex_fld {n : Str} (h : EX X T e τ M (fun d M1 => ∃ z, FldI X.K n M1 d z ∧ P z M1) E) (hb : attributeBase e n X.env (eval e X.env) = eval e X.env := by rfl) : EX X T (.Attribute e n pos) τ M P E := by
  refine .mk ?_; intro W tk σ G H hE hH Q hP hX
  refine v_fld hb ?_
  refine h.run W tk σ G H hE hH _ ?_ hX
  intro d M1 v G1 H1 ⟨z, ⟨C, hc, hn, hz⟩, hp⟩ s1 h1 dv
  rcases hz with ⟨ns, ds, rfl, hl, hz⟩ | ⟨q, dx, fs, rfl, hq, hz⟩
  · obtain ⟨a, dx, vs, rfl, g1, g2, g3⟩ := dv.obj_inv
    obtain ⟨u, l1, l2⟩ := denL_lookup g3 hz
    exact ⟨a, C, dx, _, u, rfl, h1.sub _ _ g1, hc, hn, l1, hP _ _ _ _ _ hp s1 h1 l2⟩
  · obtain ⟨vs, g1, g2, g3⟩ := h1.mem _ hq
    obtain ⟨u, l1, l2⟩ := denF_lookup g3 hz
    exact ⟨q, C, dx, vs, u, dv.raw_inv, g1, hc, hn, l1, hP _ _ _ _ _ hp s1 h1 l2⟩
/-! ### new instances -/
theorem hst_new {K : PySem.W.Frag} {G H : Hp} {x dx C : Addr} (h : Hst K G M H) (hx : H x = none) (hdx : H dx = none) (ne : dx ≠ x) :
    Hst K G ((x, .ins C dx []) :: M) (upd (upd H dx (.own x)) x (.ins C dx [])) ∧ Stp G M H G ((x, .ins C dx []) :: M) (upd (upd H dx (.own x)) x (.ins C dx [])) := by
  have nM : ∀ b ∈ adr M, b ≠ x ∧ b ≠ dx := fun b hb => ⟨fun e => h.there b hb (by rw [e]; exact hx), fun e => h.there b hb (by rw [e]; exact hdx)⟩
  have kp : ∀ b o, H b = some o → (upd (upd H dx (.own x)) x (.ins C dx [])) b = some o := fun b o e => by
    rw [upd_ne (ne_of_none e hx), upd_ne (ne_of_none e hdx)]; exact e
  have ha : adr ((x, MC.ins C dx []) :: M) = x :: dx :: adr M := rfl
  refine ⟨⟨fun b o e => kp b o (h.sub b o e), fun c hc => ?_, fun b hb => ?_, ?_⟩, ⟨Same.refl _, fun b o _ e => kp b o e, fun _ _ _ g => g, fun b hb => ?_⟩⟩
  · rcases List.mem_cons.mp hc with rfl | hc
    · exact ⟨[], upd_same, by rw [upd_ne ne]; exact upd_same, rfl, .nil⟩
    · exact (h.mem c hc).up (Same.refl _) fun b hb o e => kp b o e
  · rw [ha] at hb
    rcases List.mem_cons.mp hb with rfl | hb
    · exact h.sub.free hx
    · rcases List.mem_cons.mp hb with rfl | hb
      · exact h.sub.free hdx
      · exact h.out b hb
  · rw [ha]
    refine List.nodup_cons.mpr ⟨fun hm => ?_, List.nodup_cons.mpr ⟨fun hm => (nM dx hm).2 rfl, h.nd⟩⟩
    rcases List.mem_cons.mp hm with e | hm
    · exact ne e.symm
    · exact (nM x hm).1 rfl
  · rw [ha] at hb
    rcases List.mem_cons.mp hb with rfl | hb
    · exact .inr hx
    · rcases List.mem_cons.mp hb with rfl | hb
      · exact .inr hdx
      · exact .inl hb
theorem zip_map {α β : Type} : ∀ (l : List (α × β)), (l.map (·.1)).zip (l.map (·.2)) = l
  | [] => rfl
  | (a, b) :: l => by simp only [List.map_cons, List.zip_cons_cons, zip_map l]
/-- a cell of an instance is changed no more -/
theorem freezeI {K : PySem.W.Frag} {G H : Hp} {x dx C : Addr} {fs : List (Str × Dat)} (h : Hst K G ((x, .ins C dx fs) :: M) H) : ∃ G', Stp G ((x, .ins C dx fs) :: M) H G' M H ∧ Hst K G' M H ∧ Den K G' (.obj C (fs.map (·.1)) (fs.map (·.2))) (.ref x) := by
  obtain ⟨vs, h1, h2, h3, h4⟩ := h.mem _ List.mem_cons_self
  have ha : adr ((x, MC.ins C dx fs) :: M) = x :: dx :: adr M := rfl
  have gx : G x = none := h.out x (by rw [ha]; exact List.mem_cons_self)
  have gdx : G dx = none := h.out dx (by rw [ha]; exact List.mem_cons_of_mem _ List.mem_cons_self)
  have nd := h.nd
  rw [ha] at nd
  obtain ⟨n1, n2⟩ := List.nodup_cons.mp nd
  obtain ⟨n3, n4⟩ := List.nodup_cons.mp n2
  have ne : dx ≠ x := fun e => n1 (by rw [e]; exact List.mem_cons_self)
  have up : Same G (upd (upd G dx (.own x)) x (.ins C dx vs)) := fun b o e => by rw [upd_ne (ne_of_none e gx), upd_ne (ne_of_none e gdx)]; exact e
  have sub : Same (upd (upd G dx (.own x)) x (.ins C dx vs)) H := fun b o e => by
    by_cases c : b = x
    · subst c; rw [upd_same] at e; cases e; exact h1
    · rw [upd_ne c] at e
      by_cases c : b = dx
      · subst c; rw [upd_same] at e; cases e; exact h2
      · rw [upd_ne c] at e; exact h.sub b o e
  refine ⟨_, ⟨up, fun _ _ _ e => e, fun b _ hb g => ?_, fun b hb => .inl (by rw [ha]; exact List.mem_cons_of_mem _ (List.mem_cons_of_mem _ hb))⟩, ⟨sub, fun c hc => (h.mem c (List.mem_cons_of_mem _ hc)).up up fun _ _ _ e => e, fun b hb => ?_, n4⟩, ?_⟩
  · rw [ha] at hb
    rw [upd_ne (fun e => hb (by rw [e]; exact List.mem_cons_self)), upd_ne (fun e => hb (by rw [e]; exact List.mem_cons_of_mem _ List.mem_cons_self))]; exact g
  · rw [upd_ne (fun e => n1 (by rw [← e]; exact List.mem_cons_of_mem _ hb)), upd_ne (fun e => n3 (by rw [← e]; exact hb))]
    exact h.out b (by rw [ha]; exact List.mem_cons_of_mem _ (List.mem_cons_of_mem _ hb))
  · simp only [Den]
    refine ⟨x, dx, vs.map (·.2), rfl, ?_, by rw [upd_ne ne]; exact upd_same, h4.up up⟩
    rw [upd_same, ← h3, zip_map]
theorem freezeL {K : PySem.W.Frag} {G H : Hp} {x : Addr} {ds : List Dat} (h : Hst K G ((x, .lst ds) :: M) H) : ∃ G', Stp G ((x, .lst ds) :: M) H G' M H ∧ Hst K G' M H ∧ Den K G' (.lst ds) (.ref x) := by
  obtain ⟨vs, h1, h4⟩ := h.mem _ List.mem_cons_self
  have ha : adr ((x, MC.lst ds) :: M) = x :: adr M := rfl
  have gx : G x = none := h.out x (by rw [ha]; exact List.mem_cons_self)
  have nd := h.nd
  rw [ha] at nd
  obtain ⟨n1, n4⟩ := List.nodup_cons.mp nd
  have up : Same G (upd G x (.lst vs)) := fun b o e => by rw [upd_ne (ne_of_none e gx)]; exact e
  have sub : Same (upd G x (.lst vs)) H := fun b o e => by
    by_cases c : b = x
    · subst c; rw [upd_same] at e; cases e; exact h1
    · rw [upd_ne c] at e; exact h.sub b o e
  refine ⟨_, ⟨up, fun _ _ _ e => e, fun b _ hb g => ?_, fun b hb => .inl (by rw [ha]; exact List.mem_cons_of_mem _ hb)⟩, ⟨sub, fun c hc => (h.mem c (List.mem_cons_of_mem _ hc)).up up fun _ _ _ e => e, fun b hb => ?_, n4⟩, den_lst upd_same (h4.up up)⟩
  · rw [ha] at hb
    rw [upd_ne (fun e => hb (by rw [e]; exact List.mem_cons_self))]; exact g
  · rw [upd_ne (fun e => n1 (by rw [← e]; exact hb))]
    exact h.out b (by rw [ha]; exact List.mem_cons_of_mem _ hb)
/-- what becomes of a new instance at x: it stays a cell, or it is frozen -/
def MadeP (P : PK') (x : Addr) (M2 : Mem) : Prop := P (.raw (.ref x)) M2 ∨ ∃ C dx fs M3, M2.Perm ((x, .ins C dx fs) :: M3) ∧ P (.obj C (fs.map (·.1)) (fs.map (·.2))) M3
theorem madeP_ce {K : PySem.W.Frag} {G H : Hp} {Q : VK} {x : Addr} (hP : CE' K G M H P Q) {M2 : Mem} {G2 H2 : Hp} (hm : MadeP P x M2) (s : Stp G M H G2 M2 H2) (h2 : Hst K G2 M2 H2) : Q (.ref x) H2 := by
  rcases hm with hm | ⟨C, dx, fs, M3, pm, hm⟩
  · exact hP _ _ _ _ _ hm s h2 den_raw
  · obtain ⟨G', s3, h3, d3⟩ := freezeI (h2.perm pm)
    exact hP _ _ _ _ _ hm ((s.perm (List.Perm.refl _) pm).trans s3) h3 d3
theorem run_makeD {pins : List (Addr × Obj)} {σ : L2.St} {H : Hp} {s : Shared} {Q : VK} {us : List Value} {vs : List V} {W : WX} (Mk' : Mk X.K C f) (F : FnD X.prog X.w X.K X.mg X.base k f fd ps S) (hr : Room (k + 1) X.A) (hb : Binds X.K fd ps dsv) (hd : Vals dvs dsv)
    (tk : Takes X W) (I : Inv X pins σ H s) (r : Vals vs us)
    (h : ∀ x dx, H x = none → H dx = none → dx ≠ x → toSp X.K S (.ref x :: (vs ++ dvs)) (upd (upd H dx (.own x)) x (.ins C dx [])) (fun v H2 => v = .non ∧ Q (.ref x) H2) (fun c d H2 => W c d σ H2)) :
    wpAny (model X.prog X.w) X.A (call (.ref C) us) (EP X pins σ Q) X.xe s := by
  have hq := h (s.heap.objs.size + 1) s.heap.objs.size (I.hok.fresh (Nat.le_succ _)) (I.hok.fresh (Nat.le_refl _)) (Nat.ne_of_lt (Nat.lt_succ_self _))
  have I2 := Inv.made (C := C) I
  have r2 : Vals (V.ref (s.heap.objs.size + 1) :: (vs ++ dvs)) (Value.ref (s.heap.objs.size + 1) :: (us ++ dsv)) := .cons rfl (r.append hd)
  have hl : (Value.ref (s.heap.objs.size + 1) :: us ++ dsv).length = ps.length := by
    have e := r2.length
    rw [F.len _ _ _ _ hq] at e
    exact e.symm
  refine wpAny_call (make_map (f := f) I.kIn Mk'.makes Mk'.init (beq_iff_eq.mp Mk'.fn) (codeAny_mono (F.run _ X.stack _ _ ⟨Value.ref (s.heap.objs.size + 1) :: us, []⟩ (Value.ref (s.heap.objs.size + 1) :: (us ++ dsv)) _ _ _ (hr.make C us [])
    (I2.env0.make C us []) (hb _ (Value.ref (s.heap.objs.size + 1) :: us) I2.kIn hl) r2 hq) fun r s' hq' => ?_))
  cases r with
  | error e => exact tk e s' (XE.of_call I2 (fun cls d H' h => h) hq')
  | ok fl =>
    cases fl with
    | ret u =>
      obtain ⟨v, H', I3, rv, ev, q3⟩ := I2.after hq'
      subst ev
      exact ⟨rv, ⟨V.ref (s.heap.objs.size + 1), H', I3, rfl, q3⟩⟩
    | next => exact False.elim hq'
    | brk => exact False.elim hq'
    | cont => exact False.elim hq'
theorem make_sp {K : PySem.W.Frag} {G H : Hp} {Q : VK} {T : XK} {ds : List Dat} {vs : List V}
    (h : ∀ x dx, x ∉ adr M → dx ∉ adr M → dx ≠ x → AP S (.raw (.ref x) :: ds) ((x, .ins C dx []) :: M) (fun d M2 => d = .non ∧ MadeP P x M2) E) (dv : DenL K G ds vs) (hH : Hst K G M H) (hP : CE' K G M H P Q) (hX : CX' K G M H E T) :
    ∀ x dx, H x = none → H dx = none → dx ≠ x → toSp K S (.ref x :: vs) (upd (upd H dx (.own x)) x (.ins C dx [])) (fun v H2 => v = .non ∧ Q (.ref x) H2) T := by
  intro x dx hx hdx ne
  obtain ⟨h1, s1⟩ := hst_new (C := C) hH hx hdx ne
  have n1 : x ∉ adr M := fun z => hH.there x z hx
  have n2 : dx ∉ adr M := fun z => hH.there dx z hdx
  refine ap_toSp (h x dx n1 n2 ne) (.cons den_raw dv) h1 (fun d M2 v G2 H2 ⟨e, hm⟩ s2 h2 dd => ?_) (hX.step s1)
  subst e
  exact ⟨dd.non_inv, madeP_ce hP hm (s1.trans s2) h2⟩
/-- C(e, ..) -/
theorem ex_make (Mk' : Mk X.K C f) (F : FnD X.prog X.w X.K X.mg X.base k f fd ps S) (hr : Room (k + 1) X.A) (hm : X.mg x = some (.ref C)) (hb : Binds X.K fd ps dsv) (hd : Vals dvs dsv) (hdf : ∀ G, DenL X.K G df dvs)
    (h : EA X T (e :: es) τ M (fun ds M1 => ∀ x dx, x ∉ adr M1 → dx ∉ adr M1 → dx ≠ x → AP S (.raw (.ref x) :: (ds ++ df)) ((x, .ins C dx []) :: M1) (fun d M2 => d = .non ∧ MadeP P x M2) E) E)
    (hg : Gl X x := by rfl) (hdb : (x == ("__debug__" : Str)) = false := by decide) (he : starEach (e :: es) X.env = (false, eval e X.env) :: starEach es X.env := by rfl) (hpl : (backTo pos (starEach es X.env)).any (·.1) = false := by rfl) :
    EX X T (.Call (.Name x p) (e :: es) [] pos) τ M P E := by
  refine .mk ?_; intro W tk σ G H hE hH Q hP hX pins s k0 I
  refine wpAny_Call_Name_kw (ld_glob I hg hm ?_ hdb)
  have hA := h.run W tk σ G H hE hH (fun vs H1 => ∀ x dx, H1 x = none → H1 dx = none → dx ≠ x → toSp X.K S (.ref x :: (vs ++ dvs)) (upd (upd H1 dx (.own x)) x (.ins C dx [])) (fun v H2 => v = .non ∧ Q (.ref x) H2) (fun c d H2 => W c d σ H2))
    (fun ds M1 vs G1 H1 ha s1 h1 dv => make_sp ha (dv.append (hdf G1)) h1 (hP.step s1) (hX.step s1)) hX
  refine PySem.W.callWith_K (h₀ := X.base) I.ok.mod.kin Mk'.kp (thn (hA pos pins s k0 I) fun us s1 ⟨vs, H1, I1, r, q⟩ => ⟨I1.kIn, ?_⟩) he hpl
  exact run_makeD Mk' F hr hb hd tk I1 r q
theorem ex_make0 (Mk' : Mk X.K C f) (F : FnD X.prog X.w X.K X.mg X.base k f fd ps S) (hr : Room (k + 1) X.A) (hm : X.mg x = some (.ref C)) (hb : Binds X.K fd ps dsv) (hd : Vals dvs dsv) (hdf : ∀ G, DenL X.K G df dvs)
    (h : ∀ x dx, x ∉ adr M → dx ∉ adr M → dx ≠ x → AP S (.raw (.ref x) :: df) ((x, .ins C dx []) :: M) (fun d M2 => d = .non ∧ MadeP P x M2) E) (hg : Gl X x := by rfl) (hdb : (x == ("__debug__" : Str)) = false := by decide) :
    EX X T (.Call (.Name x p) [] [] pos) τ M P E := by
  refine .mk ?_; intro W tk σ G H hE hH Q hP hX pins s k0 I
  refine wpAny_Call_Name_kw (ld_glob I hg hm ?_ hdb)
  exact PySem.W.callWith_K0 I.kIn Mk'.kp (run_makeD (us := []) (vs := []) Mk' F hr hb hd tk I .nil (make_sp h (hdf G) hH hP hX))
end
end Kh

set_option Elab.async false
set_option linter.all false
set_option maxRecDepth 100000
set_option maxHeartbeats 1000000
namespace Kh
open PySem PySem.Spec L2

/-! ### what is walked -/
/-- J gives the data ds, one after the other, as long as the cells are as Ok says; the unchanging part G1 stands -/
def WalkD (K : PySem.W.Frag) (J : It) (ds : List Dat) (G1 : Hp) (Ok : Mem → Prop) : Prop :=
  ∀ G2 M2 H2, Same G1 G2 → Hst K G2 M2 H2 → Ok M2 → (∀ i, i < ds.length → J.go i H2) ∧ J.stop ds.length H2 ∧
    ∀ i x H', i < ds.length → J.yld i H2 x H' → ∃ G', Stp G2 M2 H2 G' M2 H' ∧ Hst K G' M2 H' ∧ ∀ d, ds[i]? = some d → Den K G' d x
/-- the iterable gives ds; behind its evaluation the cells are M1 -/
structure EI (X : Cx) (tg iter : Expr) (τ : TEnv) (M : Mem) (P : List Dat → Mem → (Mem → Prop) → Prop) (E : XKx) : Prop where
  run : ∀ W, Takes X W → ∀ σ G H, DenE X.K τ G σ → Hst X.K G M H → ∀ R : It → Hp → Prop,
    (∀ J ds M1 G1 H1 Ok, P ds M1 Ok → Stp G M H G1 M1 H1 → Hst X.K G1 M1 H1 → WalkD X.K J ds G1 Ok → R J H1) → CX' X.K G M H E (fun c d H2 => W c d σ H2) → tWI X false tg iter σ H R
abbrev anyM : Mem → Prop := fun _ => True
section
variable {X : Cx} {T : Bool} {tg iter e a b c : Expr} {τ : TEnv} {M : Mem} {E : XKx} {pos p : Pos} {PI' : List Dat → Mem → (Mem → Prop) → Prop}
theorem walkD_list {K : PySem.W.Frag} {G1 : Hp} {a : Addr} {vs : List V} {ds : List Dat} (hq : SqL K G1 a vs) (hd : DenL K G1 ds vs) : WalkD K (Itl K a) ds G1 anyM := fun G2 M2 H2 s h _ => by
  have hq2 : SqL K H2 a vs := h.sub.seq (s.seq hq)
  refine ⟨fun i hi => ?_, ⟨vs, hq2, by rw [hd.length]; exact Nat.le_refl _⟩, fun i x H' hi y => ?_⟩
  · obtain ⟨v, h1, _⟩ := hd.get (List.getElem?_eq_getElem hi)
    exact ⟨vs, v, hq2, h1⟩
  · obtain ⟨rfl, y2⟩ := y
    refine ⟨G2, Stp.refl, h, fun d hd' => ?_⟩
    obtain ⟨v, h1, h2⟩ := hd.get hd'
    have := y2 vs hq2
    rw [h1] at this; cases this
    exact h2.up s
theorem walkD_tup {K : PySem.W.Frag} {G1 : Hp} {a : Addr} {vs : List V} {ds : List Dat} (hq : SqT K G1 a vs) (hd : DenL K G1 ds vs) : WalkD K (Itt K a) ds G1 anyM := fun G2 M2 H2 s h _ => by
  have hq2 : SqT K H2 a vs := Same.tpl h.sub (Same.tpl s hq)
  refine ⟨fun i hi => ?_, ⟨vs, hq2, by rw [hd.length]; exact Nat.le_refl _⟩, fun i x H' hi y => ?_⟩
  · obtain ⟨v, h1, _⟩ := hd.get (List.getElem?_eq_getElem hi)
    exact ⟨vs, v, hq2, h1⟩
  · obtain ⟨rfl, y2⟩ := y
    refine ⟨G2, Stp.refl, h, fun d hd' => ?_⟩
    obtain ⟨v, h1, h2⟩ := hd.get hd'
    have := y2 vs hq2
    rw [h1] at this; cases this
    exact h2.up s
/-- a list that is a cell, and stays as it is -/
theorem walkD_cell {K : PySem.W.Frag} {G1 : Hp} {a : Addr} {ds : List Dat} : WalkD K (Itl K a) ds G1 (fun M => (a, .lst ds) ∈ M) := fun G2 M2 H2 s h hm => by
  obtain ⟨vs, h1, hd⟩ := h.mem _ hm
  have hq2 : SqL K H2 a vs := SqL.of h1
  refine ⟨fun i hi => ?_, ⟨vs, hq2, by rw [hd.length]; exact Nat.le_refl _⟩, fun i x H' hi y => ?_⟩
  · obtain ⟨v, h1, _⟩ := hd.get (List.getElem?_eq_getElem hi)
    exact ⟨vs, v, hq2, h1⟩
  · obtain ⟨rfl, y2⟩ := y
    refine ⟨G2, Stp.refl, h, fun d hd' => ?_⟩
    obtain ⟨v, h1, h2⟩ := hd.get hd'
    have := y2 vs hq2
    rw [h1] at this; cases this
    exact h2
theorem ei_list (h : EX X false e τ M (fun d M1 => ∃ ds, d = .lst ds ∧ PI' ds M1 anyM) E) : EI X tg e τ M PI' E := .mk fun W tk σ G H hE hH R hR hX => by
  refine tWI_of (pi_list pe_W) ?_
  refine h.run W tk σ G H hE hH _ ?_ hX
  intro d M1 v G1 H1 ⟨ds, ed, hp⟩ s1 h1 dv
  subst ed
  obtain ⟨a, vs, rfl, hq, hd⟩ := dv.lst_inv
  exact ⟨a, rfl, ⟨vs, h1.sub.seq (SqL.of hq)⟩, hR _ _ _ _ _ _ hp s1 h1 (walkD_list (SqL.of hq) hd)⟩
theorem ei_cell (h : EX X false e τ M (fun d M1 => ∃ a ds, d = .raw (.ref a) ∧ (a, MC.lst ds) ∈ M1 ∧ PI' ds M1 (fun M => (a, .lst ds) ∈ M)) E) : EI X tg e τ M PI' E := .mk fun W tk σ G H hE hH R hR hX => by
  refine tWI_of (pi_list pe_W) ?_
  refine h.run W tk σ G H hE hH _ ?_ hX
  intro d M1 v G1 H1 ⟨a, ds, ed, hm, hp⟩ s1 h1 dv
  subst ed
  obtain ⟨vs, g1, g2⟩ := h1.mem _ hm
  exact ⟨a, dv.raw_inv, ⟨vs, SqL.of g1⟩, hR _ _ _ _ _ _ hp s1 h1 walkD_cell⟩
theorem ei_tup (h : EX X false e τ M (fun d M1 => ∃ ds, d = .tup ds ∧ PI' ds M1 anyM) E) : EI X tg e τ M PI' E := .mk fun W tk σ G H hE hH R hR hX => by
  refine tWI_of (pi_tup pe_W) ?_
  refine h.run W tk σ G H hE hH _ ?_ hX
  intro d M1 v G1 H1 ⟨ds, ed, hp⟩ s1 h1 dv
  subst ed
  obtain ⟨a, vs, rfl, hq, hd⟩ := dv.tup_inv
  exact ⟨a, rfl, ⟨vs, Same.tpl h1.sub (SqT.of hq)⟩, hR _ _ _ _ _ _ hp s1 h1 (walkD_tup (SqT.of hq) hd)⟩
def rngD (lo : Int) (n : Nat) : List Dat := (List.range n).map fun (i : Nat) => .int (lo + (i : Int))
theorem rngD_length {lo : Int} {n : Nat} : (rngD lo n).length = n := by simp [rngD]
theorem rngD_get {lo : Int} {n i : Nat} {d : Dat} (h : (rngD lo n)[i]? = some d) : d = .int (lo + (i : Int)) ∧ i < n := by
  have hi : i < n := by have := (List.getElem?_eq_some_iff.mp h).1; rwa [rngD_length] at this
  unfold rngD at h
  rw [List.getElem?_map, List.getElem?_range hi] at h
  cases h
  exact ⟨rfl, hi⟩
theorem walkD_range {K : PySem.W.Frag} {G1 : Hp} {lo : Int} {n : Nat} : WalkD K (Itr lo n) (rngD lo n) G1 anyM := fun G2 M2 H2 s h _ => by
  rw [rngD_length]
  refine ⟨fun i hi => hi, Nat.le_refl _, fun i x H' hi y => ?_⟩
  obtain ⟨rfl, rfl⟩ := y
  refine ⟨G2, Stp.refl, h, fun d hd => ?_⟩
  rw [(rngD_get hd).1]; exact den_int
/-- range(n) -/
theorem ei_range1 (hm : X.mg "range" = none) (h : EX X false a τ M (fun d M1 => ∃ j, d = .int j ∧ (-(2 ^ 62) ≤ j ∧ j < 2 ^ 62) ∧ PI' (rngD 0 j.toNat) M1 anyM) E) (hg : Gl X "range" := by rfl) (hs : starEach [a] X.env = [(false, eval a X.env)] := by rfl) : EI X tg (.Call (.Name "range" p) [a] [] pos) τ M PI' E := .mk fun W tk σ G H hE hH R hR hX => by
  refine tWI_of (pi_range1 hg hm (pa_cons pe_W pa_nil hs) hs) ?_
  refine h.run W tk σ G H hE hH _ ?_ hX
  intro d M1 v G1 H1 ⟨j, ed, hb, hp⟩ s1 h1 dv
  subst ed
  exact ⟨j, by rw [dv.int_inv], hb.1, hb.2, hR _ _ _ _ _ _ hp s1 h1 walkD_range⟩
theorem ei_range2 (hm : X.mg "range" = none) (h : EX X false a τ M (fun d M1 => EX X false b τ M1 (fun d2 M2 => ∃ i j, d = .int i ∧ d2 = .int j ∧ (-(2 ^ 62) ≤ i ∧ i < 2 ^ 62 ∧ -(2 ^ 62) ≤ j ∧ j < 2 ^ 62) ∧ PI' (rngD i (j - i).toNat) M2 anyM) E) E) (hg : Gl X "range" := by rfl)
    (hs : starEach [a, b] X.env = [(false, eval a X.env), (false, eval b X.env)] := by rfl) (hs2 : starEach [b] X.env = [(false, eval b X.env)] := by rfl) : EI X tg (.Call (.Name "range" p) [a, b] [] pos) τ M PI' E := .mk fun W tk σ G H hE hH R hR hX => by
  refine tWI_of (pi_range2 hg hm (pa_cons pe_W (pa_cons pe_W pa_nil hs2) (by rw [hs, hs2])) hs hs2) ?_
  refine h.run W tk σ G H hE hH _ ?_ hX
  intro d M1 v G1 H1 hb s1 h1 dv
  refine hb.run W tk σ G1 H1 (hE.up s1.gg) h1 _ ?_ (hX.step s1)
  intro d2 M2 v2 G2 H2 ⟨i, j, ed, ed2, hrg, hp⟩ s2 h2 dv2
  subst ed; subst ed2
  exact ⟨i, j, by rw [dv.int_inv, dv2.int_inv], hrg, hR _ _ _ _ _ _ hp (s1.trans s2) h2 walkD_range⟩
/-- range(a, b, c), c above 0 -/
def rngC (lo c : Int) (n : Nat) : List Dat := (List.range n).map fun (i : Nat) => .int (lo + (i : Int) * c)
theorem rngC_length {lo c : Int} {n : Nat} : (rngC lo c n).length = n := by simp [rngC]
theorem rngC_get {lo c : Int} {n i : Nat} {d : Dat} (h : (rngC lo c n)[i]? = some d) : d = .int (lo + (i : Int) * c) ∧ i < n := by
  have hi : i < n := by have := (List.getElem?_eq_some_iff.mp h).1; rwa [rngC_length] at this
  unfold rngC at h
  rw [List.getElem?_map, List.getElem?_range hi] at h
  cases h
  exact ⟨rfl, hi⟩
theorem walkD_rangeC {K : PySem.W.Frag} {G1 : Hp} {lo c : Int} {n : Nat} : WalkD K (Itc lo c n) (rngC lo c n) G1 anyM := fun G2 M2 H2 s h _ => by
  rw [rngC_length]
  refine ⟨fun i hi => hi, Nat.le_refl _, fun i x H' hi y => ?_⟩
  obtain ⟨rfl, rfl⟩ := y
  refine ⟨G2, Stp.refl, h, fun d hd => ?_⟩
  rw [(rngC_get hd).1]; exact den_int
theorem ei_range3 (hm : X.mg "range" = none) (h : EX X false a τ M (fun d M1 => EX X false b τ M1 (fun d2 M2 => EX X false c τ M2 (fun d3 M3 => ∃ i j c' n, d = .int i ∧ d2 = .int j ∧ d3 = .int c' ∧ RgC i j c' n ∧ PI' (rngC i c' n) M3 anyM) E) E) E) (hg : Gl X "range" := by rfl)
    (hs : starEach [a, b, c] X.env = (false, eval a X.env) :: starEach [b, c] X.env := by rfl) (hs2 : starEach [b, c] X.env = (false, eval b X.env) :: starEach [c] X.env := by rfl) (hs3 : starEach [c] X.env = (false, eval c X.env) :: starEach [] X.env := by rfl) (hpl : (backTo pos (starEach [b, c] X.env)).any (·.1) = false := by rfl) :
    EI X tg (.Call (.Name "range" p) [a, b, c] [] pos) τ M PI' E := .mk fun W tk σ G H hE hH R hR hX => by
  refine tWI_of (pi_range3 hg hm (pa_cons pe_W (pa_cons pe_W (pa_cons pe_W pa_nil hs3) hs2) hs) hs hpl) ?_
  refine h.run W tk σ G H hE hH _ ?_ hX
  intro d M1 v G1 H1 hb s1 h1 dv
  refine hb.run W tk σ G1 H1 (hE.up s1.gg) h1 _ ?_ (hX.step s1)
  intro d2 M2 v2 G2 H2 hb2 s2 h2 dv2
  refine hb2.run W tk σ G2 H2 ((hE.up s1.gg).up s2.gg) h2 _ ?_ ((hX.step s1).step s2)
  intro d3 M3 v3 G3 H3 ⟨i, j, c', n, ed, ed2, ed3, hrg, hp⟩ s3 h3 dv3
  subst ed; subst ed2; subst ed3
  exact ⟨i, j, c', n, by rw [dv.int_inv, dv2.int_inv, dv3.int_inv], hrg, hR _ _ _ _ _ _ hp ((s1.trans s2).trans s3) h3 walkD_rangeC⟩
/-- a text, sign by sign -/
def sgnD (z : Str) : List Dat := z.cps.toList.map fun c => .str ⟨#[c]⟩
theorem walkD_str {K : PySem.W.Frag} {G1 : Hp} {z : Str} : WalkD K (Its z) (sgnD z) G1 anyM := fun G2 M2 H2 s h _ => by
  have hl : (sgnD z).length = z.cps.size := by simp [sgnD]
  rw [hl]
  refine ⟨fun i hi => hi, Nat.le_refl _, fun i x H' hi y => ?_⟩
  obtain ⟨rfl, c, h1, rfl⟩ := y
  refine ⟨G2, Stp.refl, h, fun d hd => ?_⟩
  unfold sgnD at hd
  rw [List.getElem?_map, Array.getElem?_toList, h1] at hd
  cases hd
  exact den_str
theorem ei_str (h : EX X false e τ M (fun d M1 => ∃ z, d = .str z ∧ PI' (sgnD z) M1 anyM) E) : EI X tg e τ M PI' E := .mk fun W tk σ G H hE hH R hR hX => by
  refine tWI_of (pi_str pe_W) ?_
  refine h.run W tk σ G H hE hH _ ?_ hX
  intro d M1 v G1 H1 ⟨z, ed, hp⟩ s1 h1 dv
  subst ed
  exact ⟨z, dv.str_inv, hR _ _ _ _ _ _ hp s1 h1 walkD_str⟩
/-- enumerate(list) -/
def enuD (ds : List Dat) : List Dat := ds.zipIdx.map fun q => .tup [.int (q.2 : Int), q.1]
theorem enuD_length {ds : List Dat} : (enuD ds).length = ds.length := by simp [enuD]
theorem enuD_get {ds : List Dat} {i : Nat} {d : Dat} (h : (enuD ds)[i]? = some d) : ∃ x, ds[i]? = some x ∧ d = .tup [.int (i : Int), x] := by
  unfold enuD at h
  rw [List.getElem?_map, List.getElem?_zipIdx] at h
  cases e : ds[i]? with
  | none => rw [e] at h; cases h
  | some x => rw [e] at h; simp at h; exact ⟨x, rfl, h.symm⟩
theorem walkD_enum {K : PySem.W.Frag} {G1 : Hp} {a : Addr} {vs : List V} {ds : List Dat} (hq : SqL K G1 a vs) (hd : DenL K G1 ds vs) : WalkD K (Ite K a) (enuD ds) G1 anyM := fun G2 M2 H2 s h _ => by
  have hq2 : SqL K H2 a vs := h.sub.seq (s.seq hq)
  rw [enuD_length]
  refine ⟨fun i hi => ?_, ⟨vs, hq2, by rw [hd.length]; exact Nat.le_refl _⟩, fun i x H' hi y => ?_⟩
  · obtain ⟨v, h1, _⟩ := hd.get (List.getElem?_eq_getElem hi)
    exact ⟨vs, v, hq2, h1⟩
  · obtain ⟨T, x', rfl, hT, rfl, y2⟩ := y
    obtain ⟨s3, h3⟩ := Stp.new (o := .tup [.int (i : Nat), x']) h hT
    refine ⟨_, s3, h3, fun d hd' => ?_⟩
    obtain ⟨z, hz, rfl⟩ := enuD_get hd'
    obtain ⟨v, h1, h2⟩ := hd.get hz
    have := y2 vs hq2
    rw [h1] at this; cases this
    exact den_tup upd_same (.cons den_int (.cons ((h2.up s).up s3.gg) .nil))
theorem ei_enum {elts : List Expr} {kk : Nat} {tpos : Pos} (hm : X.mg "enumerate" = none) (h : EX X false e τ M (fun d M1 => ∃ ds, d = .lst ds ∧ PI' (enuD ds) M1 anyM) E) (hg : Gl X "enumerate" := by rfl) (hs : starEach [e] X.env = [(false, eval e X.env)] := by rfl) : EI X (.Tuple elts kk tpos) (.Call (.Name "enumerate" p) [e] [] pos) τ M PI' E := .mk fun W tk σ G H hE hH R hR hX => by
  refine tWI_of (pi_enum hg hm (pa_cons pe_W pa_nil hs) hs) ?_
  refine h.run W tk σ G H hE hH _ ?_ hX
  intro d M1 v G1 H1 ⟨ds, ed, hp⟩ s1 h1 dv
  subst ed
  obtain ⟨a, vs, rfl, hq, hd⟩ := dv.lst_inv
  exact ⟨a, vs, rfl, h1.sub.seq (SqL.of hq), hR _ _ _ _ _ _ hp s1 h1 (walkD_enum (SqL.of hq) hd)⟩

/-! ### for -/
theorem s_for {body : List Stmt} {σ : L2.St} {H : Hp} {D : Ends} (hp : PassesOwn (model X.prog X.w) X.A X.env X.xe) (hc : X.calm = true) (hs : ∀ x, foldedSetIterable iter X.env x = pure x)
    (q : tWI X false tg iter σ H fun J H1 => ∃ Wm : Nat → Nat → L2.St → Hp → Prop, (∃ m, Wm 0 m σ H1) ∧ ∀ i m σ H, Wm i m σ H →
      (J.stop i H ∧ D.nx σ H) ∨ (J.go i H ∧ ∃ N : L2.St → Hp → Prop, (∀ σ' H', N σ' H' → ∃ m', m' < m ∧ Wm (i + 1) m' σ' H') ∧ ∀ x H', J.yld i H x H' → tWG X T tg x σ H' fun σ2 H2 => tWSs X T body { D with nx := N, ct := N, bk := D.nx } σ2 H2)) :
    tWS X T (.For tg iter body [] pos) D σ H := fun pins s k0 I => by
  refine wpAny_For (thnT k0 (q pins s tk_f I) fun v s1 k1 h1 => thnT k1 h1 fun itv s2 k2 h2 => ?_) hs
  obtain ⟨it, fp, tn, J, H2, e, I2, Tu, st2, f2, Wm, ⟨m0, w0⟩, turn⟩ := h2
  subst e
  have stat : ∀ {H' : Hp}, (∀ b ∈ fp, H' b = none) → ∀ b ∈ fp, FpOk X pins H' b := fun hn b hb => ⟨hn b hb, (f2 b hb).2⟩
  refine codeAny_forLoop_any (fun n s' => Tk T s' ∧ ∃ i σ' H', Inv X pins σ' H' s' ∧ tn i s'.heap ∧ (∀ b ∈ fp, H' b = none) ∧ Wm i n σ' H') ?_ m0 ⟨k2, 0, σ, H2, I2, st2, fun b hb => (f2 b hb).1, w0⟩
  rintro n s3 ⟨k3, i, σ3, H3, I3, st3, fr3, w3⟩
  rcases turn i n σ3 H3 w3 with ⟨stop, qn⟩ | ⟨go, N, hN, step⟩
  · refine wpAny_passesOwn hp (thn (Tu.done X rfl rfl rfl hc i pins s3 σ3 H3 X.xe I3 (stat fr3) st3 stop) fun r s4 ⟨hr, I4⟩ => ?_)
    subst hr
    exact wpAny_execs_nil ⟨σ3, H3, I4, qn⟩
  · refine wpAny_passesOwn hp (thnT k3 (Tu.item X rfl rfl rfl hc i pins s3 σ3 H3 X.xe I3 (stat fr3) st3 go) fun r s4 k4 ⟨u, hr, h4⟩ => ?_)
    subst hr
    refine wpAny_passesOwn hp (thnT k4 h4 fun _ s5 k5 ⟨x, H5, I5, r5, y5, st5, fr5⟩ => ?_)
    have J5 := I5.pinned (stat fr5) (Tu.obj _ _ st5)
    refine wpAny_passesOwn hp (thnT k5 (step x H5 y5 _ s5 u k5 J5 r5) fun _ s6 k6 ⟨σ6, H6, I6, q6⟩ => ?_)
    refine wpAny_passesOwn hp (thnT k6 (q6 _ s6 k6 I6) fun f s7 k7 q7 => ?_)
    have pinA : ∀ {σ7 : L2.St} {H7 : Hp}, Inv X (pins ++ pinsAt fp s5.heap) σ7 H7 s7 → ∀ b ∈ fp, ∀ o, s5.heap.get? b = some o → s7.heap.get? b = some o ∧ H7 b = none := fun {σ7 H7} I7 b hb o e =>
      have z := I7.pin (b, o) (List.mem_append_right _ (List.mem_append_right _ (mem_pinsAt hb e)))
      ⟨z.1, z.2.1⟩
    have again : ∀ {σ7 : L2.St} {H7 : Hp}, Inv X (pins ++ pinsAt fp s5.heap) σ7 H7 s7 → N σ7 H7 → ∃ m, m < n ∧ (Tk T s7 ∧ ∃ i σ' H', Inv X pins σ' H' s7 ∧ tn i s7.heap ∧ (∀ b ∈ fp, H' b = none) ∧ Wm i m σ' H') := fun {σ7 H7} I7 n7 => by
      obtain ⟨m', hm, w7⟩ := hN σ7 H7 n7
      refine ⟨m', hm, k7, i + 1, σ7, H7, I7.unpinned, Tu.keep _ _ _ st5 fun b hb o e => (pinA I7 b hb o e).1, fun b hb => ?_, w7⟩
      obtain ⟨o, e, d⟩ := Tu.obj _ _ st5 b hb
      exact (pinA I7 b hb o e).2
    cases f with
    | next => obtain ⟨σ7, H7, I7, n7⟩ := q7; exact again I7 n7
    | cont => obtain ⟨σ7, H7, I7, n7⟩ := q7; exact again I7 n7
    | brk => obtain ⟨σ7, H7, I7, q7⟩ := q7; exact ⟨σ7, H7, I7.unpinned, q7⟩
    | ret u' => obtain ⟨v7, σ7, H7, I7, r7, q7⟩ := q7; exact ⟨v7, σ7, H7, I7.unpinned, r7, q7⟩
theorem ws_for {body rest : List Stmt} {R : RK} (hi : EI X tg iter τ M (fun ds M1 Ok => ∃ I : Nat → TEnv → Mem → Prop, I 0 τ M1 ∧ (∀ i τ M, I i τ M → Ok M) ∧
      (∀ i d τ M, ds[i]? = some d → I i τ M → GX X T tg d τ M (fun τ2 M2 => WS X T body τ2 M2 (loopR (I (i + 1)) (fun τ M => WS X T rest τ M R) R)) (fun x M2 => R (.ex x τ) M2)) ∧
      (∀ τ M, I ds.length τ M → WS X T rest τ M R)) (fun x M1 => R (.ex x τ) M1))
    (hp : PassesOwn (model X.prog X.w) X.A X.env X.xe := by first | exact PassesOwn.never | exact passes_of rfl | assumption) (hc : X.calm = true := by rfl) (hs : ∀ x, foldedSetIterable iter X.env x = pure x := by intro _; rfl) : WS X T (.For tg iter body [] pos :: rest) τ M R := .mk fun W tk σ G H hE hH D hR => by
  refine ws_step' (s_for hp hc hs ?_)
  refine hi.run W tk σ G H hE hH _ ?_ (ex_out hR hE)
  intro J ds M1 G1 H1 Ok ⟨I, h0, hOk, hb, hd⟩ s1 h1 w
  let Pv : Nat → L2.St → Hp → Prop := fun i σ' H' => ∃ τ' M' G', I i τ' M' ∧ DenE X.K τ' G' σ' ∧ Hst X.K G' M' H' ∧ Stp G M H G' M' H' ∧ Same G1 G'
  refine ⟨fun i m σ' H' => m = ds.length - i ∧ i ≤ ds.length ∧ Pv i σ' H', ⟨_, rfl, Nat.zero_le _, τ, M1, G1, h0, hE.up s1.gg, h1, s1, Same.refl _⟩, ?_⟩
  rintro i m σ' H' ⟨rfl, hle, τ', M', G', hI, e', h', s', g'⟩
  obtain ⟨w1, w2, w3⟩ := w G' M' H' g' h' (hOk _ _ _ hI)
  by_cases hlt : i < ds.length
  · refine .inr ⟨w1 i hlt, fun σ2 H2 => Pv (i + 1) σ2 H2, fun σ2 H2 q => ⟨ds.length - (i + 1), by omega, rfl, hlt, q⟩, fun x H2 y => ?_⟩
    obtain ⟨G2, s2, h2, dx⟩ := w3 i x H2 hlt y
    have hd' := List.getElem?_eq_getElem hlt
    refine (hb i _ τ' M' hd' hI).run W tk σ' G2 H2 x (e'.up s2.gg) h2 (dx _ hd') _ ?_ ?_
    · intro τ3 M3 G3 H3 σ3 b3 s3 h3 e3
      refine b3.run W tk σ3 G3 H3 e3 h3 _ ?_
      intro o M4 G4 H4 r4 s4 h4
      have st := ((s'.trans s2).trans s3).trans s4
      cases o with
      | nx τ4 => exact fun σ4 e4 => ⟨τ4, M4, G4, r4, e4, h4, st, ((g'.trans s2.gg).trans s3.gg).trans s4.gg⟩
      | ct τ4 => exact fun σ4 e4 => ⟨τ4, M4, G4, r4, e4, h4, st, ((g'.trans s2.gg).trans s3.gg).trans s4.gg⟩
      | bk τ4 => exact fun σ4 e4 => r4.run W tk σ4 G4 H4 e4 h4 D (hR.step st)
      | rt d4 => exact hR _ _ _ _ r4 st h4
      | ex x4 τ4 => exact hR _ _ _ _ r4 st h4
    · exact fun x4 M4 G4 H4 d4 r4 s4 h4 dx4 => hR _ _ _ _ r4 ((s'.trans s2).trans s4) h4 σ' d4 ((e'.up s2.gg).up s4.gg) dx4
  · have e : i = ds.length := by omega
    subst e
    exact .inl ⟨w2, (hd τ' M' hI).run W tk σ' G' H' e' h' D (hR.step s')⟩

/-! ### while -/
theorem s_while {t : Expr} {body : List Stmt} {σ : L2.St} {H : Hp} {D : Ends} (hp : PassesOwn (model X.prog X.w) X.A X.env X.xe)
    (q : ∃ Wm : Nat → L2.St → Hp → Prop, (∃ m, Wm m σ H) ∧ ∀ m σ H, Wm m σ H → tWT X T t σ H fun b H1 => if b = true then ∃ N : L2.St → Hp → Prop, (∀ σ' H', N σ' H' → ∃ m', m' < m ∧ Wm m' σ' H') ∧ tWSs X T body { D with nx := N, ct := N, bk := D.nx } σ H1 else D.nx σ H1) :
    tWS X T (.While t body [] pos) D σ H := fun pins s k0 I => by
  obtain ⟨Wm, ⟨m0, w0⟩, turn⟩ := q
  refine wpAny_While (codeAny_whileLoop (fun n s' => Tk T s' ∧ ∃ σ' H', Inv X pins σ' H' s' ∧ Wm n σ' H') ?_ m0 ⟨k0, σ, H, I, w0⟩)
  rintro n s1 ⟨k1, σ1, H1, I1, w1⟩
  refine wpAny_passesOwn hp (thnT k1 (turn n σ1 H1 w1 pins s1 k1 I1) fun b s2 k2 ⟨H2, I2, q2⟩ => ?_)
  cases b with
  | false => exact wpAny_execs_nil ⟨σ1, H2, I2, q2⟩
  | true =>
    obtain ⟨N, hN, q2⟩ := q2
    rw [if_pos rfl]
    have again : ∀ {s3 : Shared} {σ3 : L2.St} {H3 : Hp}, Tk T s3 → Inv X pins σ3 H3 s3 → N σ3 H3 → ∃ m', m' < n ∧ (Tk T s3 ∧ ∃ σ' H', Inv X pins σ' H' s3 ∧ Wm m' σ' H') := fun {s3 σ3 H3} k3 I3 n3 => by
      obtain ⟨m', hm, w3⟩ := hN σ3 H3 n3
      exact ⟨m', hm, k3, σ3, H3, I3, w3⟩
    refine wpAny_passesOwn hp (thnT k2 (q2 pins s2 k2 I2) fun f s3 k3 q3 => ?_)
    cases f with
    | next => obtain ⟨σ3, H3, I3, n3⟩ := q3; exact again k3 I3 n3
    | cont => obtain ⟨σ3, H3, I3, n3⟩ := q3; exact again k3 I3 n3
    | brk => exact q3
    | ret v => exact q3
theorem ws_while {t : Expr} {body rest : List Stmt} {R : RK} (I : Nat → TEnv → Mem → Prop) (h0 : ∃ m, I m τ M)
    (hb : ∀ m τ M, I m τ M → ET X T t τ M (fun k M1 => (k = true → WS X T body τ M1 (loopR (fun τ2 M2 => ∃ m', m' < m ∧ I m' τ2 M2) (fun τ M => WS X T rest τ M R) R)) ∧ (k = false → WS X T rest τ M1 R)) (fun x M2 => R (.ex x τ) M2))
    (hp : PassesOwn (model X.prog X.w) X.A X.env X.xe := by first | exact PassesOwn.never | exact passes_of rfl | assumption) : WS X T (.While t body [] pos :: rest) τ M R := .mk fun W tk σ G H hE hH D hR => by
  refine ws_step' (s_while hp ?_)
  let Pv : Nat → L2.St → Hp → Prop := fun m σ' H' => ∃ τ' M' G', I m τ' M' ∧ DenE X.K τ' G' σ' ∧ Hst X.K G' M' H' ∧ Stp G M H G' M' H'
  obtain ⟨m0, i0⟩ := h0
  refine ⟨Pv, ⟨m0, τ, M, G, i0, hE, hH, Stp.refl⟩, ?_⟩
  rintro m σ' H' ⟨τ', M', G', hI, e', h', s'⟩
  refine (hb m τ' M' hI).run W tk σ' G' H' e' h' _ ?_ ?_
  · intro k M1 G1 H1 ⟨k1, k2⟩ s1 h1
    cases k with
    | false => exact iteF ((k2 rfl).run W tk σ' G1 H1 (e'.up s1.gg) h1 D (hR.step (s'.trans s1)))
    | true =>
      refine iteT ?_
      have fin : ∀ {G4 H4 : Hp} {M4 : Mem} {τ4 : TEnv}, (∃ m', m' < m ∧ I m' τ4 M4) → Stp G1 M1 H1 G4 M4 H4 → Hst X.K G4 M4 H4 → ∀ σ4, DenE X.K τ4 G4 σ4 → ∃ m', m' < m ∧ Pv m' σ4 H4 := fun {G4 H4 M4 τ4} ⟨m', hm, hi⟩ s4 h4 σ4 e4 => ⟨m', hm, τ4, M4, G4, hi, e4, h4, (s'.trans s1).trans s4⟩
      refine ⟨fun σ4 H4 => ∃ m', m' < m ∧ Pv m' σ4 H4, fun _ _ q => q, ?_⟩
      refine (k1 rfl).run W tk σ' G1 H1 (e'.up s1.gg) h1 _ ?_
      intro o M4 G4 H4 r4 s4 h4
      have st := (s'.trans s1).trans s4
      cases o with
      | nx τ4 => exact fin r4 s4 h4
      | ct τ4 => exact fin r4 s4 h4
      | bk τ4 => exact fun σ4 e4 => r4.run W tk σ4 G4 H4 e4 h4 D (hR.step st)
      | rt d4 => exact hR _ _ _ _ r4 st h4
      | ex x4 τ4 => exact hR _ _ _ _ r4 st h4
  · exact fun x4 M4 G4 H4 d4 r4 s4 h4 dx4 => hR _ _ _ _ r4 (s'.trans s4) h4 σ' d4 (e'.up s4.gg) dx4

/-! ### targets of several names -/
theorem pgs_W {ts : List Expr} : PGs X ts (tWGs X false ts) := ⟨fun pins s σ H vs us Q I r h => h pins s us tk_f I r⟩
structure GXs (X : Cx) (T : Bool) (ts : List Expr) (ds : List Dat) (τ : TEnv) (M : Mem) (P : TEnv → Mem → Prop) : Prop where
  run : ∀ W, Takes X W → ∀ σ G H vs, DenE X.K τ G σ → Hst X.K G M H → DenL X.K G ds vs → ∀ Q, CG' X.K G M H P Q → tWGs X T ts vs σ H Q
theorem gxs_nil {P : TEnv → Mem → Prop} (h : P τ M) : GXs X false [] [] τ M P := .mk fun W tk σ G H vs hE hH dv Q hP pins s us _ I r => by
  rw [dv.nil_inv] at r
  exact pgs_nil.run pins s σ H [] us Q I r ⟨rfl, hP _ _ _ _ _ h Stp.refl hH hE⟩
theorem gxs_cons {t : Expr} {ts : List Expr} {d : Dat} {ds : List Dat} {P : TEnv → Mem → Prop} (h : GX X false t d τ M (fun τ1 M1 => GXs X false ts ds τ1 M1 P) E0')
    (he : (assignEach (t :: ts) X.env).map (·.2) = assign t X.env :: (assignEach ts X.env).map (·.2) := by rfl) : GXs X false (t :: ts) (d :: ds) τ M P := .mk fun W tk σ G H vs hE hH dv Q hP pins s us _ I r => by
  obtain ⟨v, vr, rfl, d1, d2⟩ := dv.cons_inv
  refine (pgs_cons pg_W pgs_W he).run pins s σ H _ us Q I r ⟨v, vr, rfl, ?_⟩
  exact h.run W tk σ G H v hE hH d1 _ (fun τ2 M2 G2 H2 σ2 p2 s2 h2 e2 => p2.run W tk σ2 G2 H2 vr e2 h2 (d2.up s2.gg) Q (hP.step s2)) noX
theorem gx_tup {es : List Expr} {k : Nat} {ds : List Dat} {P : TEnv → Mem → Prop} (h : GXs X false es ds τ M P) (hl : ds.length = (assignEach es X.env).length := by rfl) (hc : X.calm = true := by rfl)
    (hst : (assignEach es X.env).findIdx? (·.1) = none := by rfl) : GX X T (.Tuple es k pos) (.tup ds) τ M P E := .mk fun W tk σ G H v hE hH dv Q hP hX => by
  obtain ⟨a, vs, rfl, hq, hd⟩ := dv.tup_inv
  exact tWG_of (pg_tup hc pgs_W rfl hst) ⟨a, vs, rfl, Same.tpl hH.sub (SqT.of hq), by rw [hd.length, hl], h.run W tk σ G H vs hE hH hd Q hP⟩
end
end Kh

set_option Elab.async false
set_option linter.all false
set_option maxRecDepth 100000
set_option maxHeartbeats 1000000
namespace Kh
open PySem PySem.Spec L2

/-! ### slots that a comprehension wipes -/
theorem wipe_get {σ : L2.St} : ∀ {vs : List Nat} {j : Nat}, (wipe σ vs)[j]? = if j ∈ vs ∧ j < σ.length then some none else σ[j]?
  | [], j => by simp [wipe]
  | v :: vs, j => by
    show ((wipe σ vs).set v none)[j]? = _
    by_cases h : v = j
    · subst h
      by_cases hl : v < σ.length
      · rw [List.getElem?_set_self (by rw [wipe_length]; exact hl), if_pos ⟨List.mem_cons_self, hl⟩]
      · rw [if_neg (fun z => hl z.2), List.getElem?_eq_none (by rw [List.length_set, wipe_length]; omega), List.getElem?_eq_none (by omega)]
    · rw [List.getElem?_set_ne h, wipe_get]
      by_cases hm : j ∈ vs
      · simp [hm]
      · have : ¬ j ∈ v :: vs := fun z => (List.mem_cons.mp z).elim (fun e => h e.symm) hm
        simp [hm, this]
theorem wipe_ext {σ σ' : L2.St} {vs : List Nat} (hl : σ'.length = σ.length) (h : ∀ j, j ∉ vs → σ'[j]? = σ[j]?) : wipe σ' vs = wipe σ vs := by
  apply List.ext_getElem?
  intro j
  rw [wipe_get, wipe_get, hl]
  by_cases c : j ∈ vs ∧ j < σ.length
  · rw [if_pos c, if_pos c]
  · rw [if_neg c, if_neg c]
    by_cases m : j ∈ vs
    · have : ¬ j < σ.length := fun z => c ⟨m, z⟩
      rw [List.getElem?_eq_none (by omega), List.getElem?_eq_none (by omega)]
    · exact h j m
theorem wipe_wipe {σ : L2.St} {vs : List Nat} : wipe (wipe σ vs) vs = wipe σ vs := wipe_ext (wipe_length σ vs) fun j hj => by
  rw [wipe_get, if_neg (fun z => hj z.1)]
/-- the data of the slots that a comprehension wipes -/
def wipeT (τ : TEnv) : List Nat → TEnv
  | [] => τ
  | v :: vs => (wipeT τ vs).set v none
theorem denE_wipe {K : PySem.W.Frag} {G : Hp} {τ : TEnv} {σ : L2.St} (h : DenE K τ G σ) : ∀ (vs : List Nat), DenE K (wipeT τ vs) G (wipe σ vs)
  | [] => h
  | v :: vs => fun j d e => by
    have e' : ((wipeT τ vs).set v none)[j]? = some (some d) := e
    show ∃ u, ((wipe σ vs).set v none)[j]? = some (some u) ∧ _
    by_cases c : v = j
    · subst c
      by_cases hl : v < (wipeT τ vs).length
      · rw [List.getElem?_set_self hl] at e'; cases e'
      · rw [List.getElem?_eq_none (by simpa using hl)] at e'; cases e'
    · rw [List.getElem?_set_ne c] at e' ⊢
      exact denE_wipe h vs j d e'

/-! ### a comprehension's block -/
abbrev Cx.Bk (X : Cx) (scope : Scope) (s : Shared) (H : Hp) (C : Addr) (cl : List (Str × Addr)) (fp : List Addr) : Cx := X.blk s H scope (compEnvC scope cl C X.env) fp
/-- a store at a comprehension's target: slots of vs alone change -/
def GC (X : Cx) (vs : List Nat) (tg : Expr) (d : Dat) (τ : TEnv) (M : Mem) (P : TEnv → Mem → Prop) : Prop :=
  ∀ σ G H v, DenE X.K τ G σ → Hst X.K G M H → Den X.K G d v → ∀ Q, (∀ τ' M' G' H' σ', P τ' M' → Stp G M H G' M' H' → Hst X.K G' M' H' → DenE X.K τ' G' σ' → σ'.length = σ.length → (∀ j, j ∉ vs → σ'[j]? = σ[j]?) → Q σ' H') → tWG X false tg v σ H Q
def GCs (X : Cx) (vs : List Nat) (ts : List Expr) (ds : List Dat) (τ : TEnv) (M : Mem) (P : TEnv → Mem → Prop) : Prop :=
  ∀ σ G H ws, DenE X.K τ G σ → Hst X.K G M H → DenL X.K G ds ws → ∀ Q, (∀ τ' M' G' H' σ', P τ' M' → Stp G M H G' M' H' → Hst X.K G' M' H' → DenE X.K τ' G' σ' → σ'.length = σ.length → (∀ j, j ∉ vs → σ'[j]? = σ[j]?) → Q σ' H') → tWGs X false ts ws σ H Q
section
variable {X : Cx} {T : Bool} {tg iter elt e a b c : Expr} {τ : TEnv} {M : Mem} {E : XKx} {pos p : Pos} {vs : List Nat} {P : PK'}
theorem gc_name {x : Str} {d : Dat} {P : TEnv → Mem → Prop} (h : P (τ.set (ixIn X.N x) (some d)) M) (hv : ixIn X.N x ∈ vs := by first | decide | exact of_decide_eq_true (by kernel_rfl)) (hi : X.N[ixIn X.N x]? = some x := by rfl) (hx : Loc X.env.scope x := by first | exact Or.inl rfl | exact Or.inr rfl) (hN : X.N.Nodup := by first | decide +kernel | exact of_decide_eq_true (by kernel_rfl))
    (hf : X.fn x = true ∨ X.env.scope.names.lookup x = some .local := by first | exact .inl rfl | exact .inr rfl | assumption) : GC X vs (.Name x p) d τ M P := fun σ G H v hE hH dv Q hQ => tWG_len fun hl => by
  refine tWG_of (pg_name hN hi hx hf) ?_
  have hlt : ixIn X.N x < σ.length := by rw [hl]; exact (List.getElem?_eq_some_iff.mp hi).1
  exact hQ _ _ _ _ _ h Stp.refl hH (hE.set hlt dv) (List.length_set) fun j hj => List.getElem?_set_ne (fun z => hj (by rw [← z]; exact hv))
theorem gcs_nil {P : TEnv → Mem → Prop} (h : P τ M) : GCs X vs [] [] τ M P := fun σ G H ws hE hH dv Q hQ pins s us _ I r => by
  rw [dv.nil_inv] at r
  exact pgs_nil.run pins s σ H [] us Q I r ⟨rfl, hQ _ _ _ _ _ h Stp.refl hH hE rfl fun _ _ => rfl⟩
theorem gcs_cons {t : Expr} {ts : List Expr} {d : Dat} {ds : List Dat} {P : TEnv → Mem → Prop} (h : GC X vs t d τ M (fun τ1 M1 => GCs X vs ts ds τ1 M1 P))
    (he : (assignEach (t :: ts) X.env).map (·.2) = assign t X.env :: (assignEach ts X.env).map (·.2) := by rfl) : GCs X vs (t :: ts) (d :: ds) τ M P := fun σ G H ws hE hH dv Q hQ pins s us _ I r => by
  obtain ⟨v, vr, rfl, d1, d2⟩ := dv.cons_inv
  refine (pgs_cons pg_W pgs_W he).run pins s σ H _ us Q I r ⟨v, vr, rfl, ?_⟩
  refine h σ G H v hE hH d1 _ (fun τ2 M2 G2 H2 σ2 p2 s2 h2 e2 l2 k2 => p2 σ2 G2 H2 vr e2 h2 (d2.up s2.gg) Q (fun τ3 M3 G3 H3 σ3 p3 s3 h3 e3 l3 k3 => hQ _ _ _ _ _ p3 (s2.trans s3) h3 e3 (l3.trans l2) fun j hj => (k3 j hj).trans (k2 j hj)))
theorem gc_tup {es : List Expr} {k : Nat} {ds : List Dat} {P : TEnv → Mem → Prop} (h : GCs X vs es ds τ M P) (hl : ds.length = (assignEach es X.env).length := by rfl) (hc : X.calm = true := by rfl)
    (hst : (assignEach es X.env).findIdx? (·.1) = none := by rfl) : GC X vs (.Tuple es k pos) (.tup ds) τ M P := fun σ G H v hE hH dv Q hQ => by
  obtain ⟨a, ws, rfl, hq, hd⟩ := dv.tup_inv
  exact tWG_of (pg_tup hc pgs_W rfl hst) ⟨a, ws, rfl, Same.tpl hH.sub (SqT.of hq), by rw [hd.length, hl], h σ G H ws hE hH hd Q hQ⟩
/-- the tests of a clause -/
def tWIf (X : Cx) (ifs : List Expr) : TT := fun σ H Q => ∀ pins s, Inv X pins σ H s →
    wpAny (model X.prog X.w) X.A (forIn ifs true fun c r => if r = true then do let ok ← isTrue c X.env (eval c X.env); pure (ForInStep.yield ok) else pure (ForInStep.yield r)) (TP X pins σ Q) X.xe s
theorem pts_W {ifs : List Expr} : PTs X ifs (tWIf X ifs) := ⟨fun pins s σ H Q I h => h pins s I⟩
def EFs (X : Cx) (ifs : List Expr) (τ : TEnv) (M : Mem) (P : Bool → Mem → Prop) : Prop :=
  ∀ σ G H, DenE X.K τ G σ → Hst X.K G M H → ∀ Q, CT' X.K G M H P Q → tWIf X ifs σ H Q
theorem ef_nil {P : Bool → Mem → Prop} (h : P true M) : EFs X [] τ M P := fun σ G H hE hH Q hQ pins s I => pts_nil.run pins s σ H Q I (hQ _ _ _ _ h Stp.refl hH)
theorem ef_one {P : Bool → Mem → Prop} (h : ET X false c τ M P E0') : EFs X [c] τ M P := fun σ G H hE hH Q hQ pins s I => (pts_one pt_W).run pins s σ H Q I (h.run _ takes0 σ G H hE hH Q hQ noX)

def gFam (X : Cx) (scope : Scope) (tg : Expr) : TG := fun v σ H Q => ∀ (s : Shared) (H0 : Hp) (C : Addr) (cl : List (Str × Addr)) (fp : List Addr), tWG (Cx.Bk X scope s H0 C cl fp) false tg v σ H Q
def iFam (X : Cx) (scope : Scope) (ifs : List Expr) : TT := fun σ H Q => ∀ (s : Shared) (H0 : Hp) (C : Addr) (cl : List (Str × Addr)) (fp : List Addr), tWIf (Cx.Bk X scope s H0 C cl fp) ifs σ H Q
def eFam (X : Cx) (scope : Scope) (elt : Expr) : TE := fun σ H Q => ∀ (s : Shared) (H0 : Hp) (C : Addr) (cl : List (Str × Addr)) (fp : List Addr), tW (Cx.Bk X scope s H0 C cl fp) false elt σ H Q
theorem pg_fam {scope : Scope} (s : Shared) (H0 : Hp) (C : Addr) (cl : List (Str × Addr)) (fp : List Addr) : PG (Cx.Bk X scope s H0 C cl fp) tg (gFam X scope tg) := ⟨fun pins s' σ H' v u Q I r q => q s H0 C cl fp pins s' u tk_f I r⟩
theorem pt_fam {scope : Scope} {ifs : List Expr} (s : Shared) (H0 : Hp) (C : Addr) (cl : List (Str × Addr)) (fp : List Addr) : PTs (Cx.Bk X scope s H0 C cl fp) ifs (iFam X scope ifs) := ⟨fun pins s' σ H' Q I q => q s H0 C cl fp pins s' I⟩
theorem pe_fam {scope : Scope} (s : Shared) (H0 : Hp) (C : Addr) (cl : List (Str × Addr)) (fp : List Addr) : PE (Cx.Bk X scope s H0 C cl fp) elt (eFam X scope elt) := ⟨fun pins s' σ H' Q I q => q s H0 C cl fp pins s' tk_f I⟩
/-- the reading of a comprehension: the new list is P's -/
theorem lc_read {scope : Scope} (hi : EI X tg iter τ M (fun ds M1 Ok => ds.length ≤ sizeLine ∧ ∃ I : Nat → List Dat → Mem → Prop, I 0 [] M1 ∧ (∀ i acc M, I i acc M → Ok M) ∧
      (∀ i d acc M, ds[i]? = some d → I i acc M → ∀ (s : Shared) (H : Hp) (C : Addr) (cl : List (Str × Addr)) (fp : List Addr), GC (Cx.Bk X scope s H C cl fp) vs tg d (wipeT τ vs) M (fun τ2 M2 => ∀ (s : Shared) (H : Hp) (C : Addr) (cl : List (Str × Addr)) (fp : List Addr),
        EFs (Cx.Bk X scope s H C cl fp) ifs τ2 M2 (fun b M3 => (b = true → ∀ (s : Shared) (H : Hp) (C : Addr) (cl : List (Str × Addr)) (fp : List Addr), EX (Cx.Bk X scope s H C cl fp) false elt τ2 M3 (fun y M4 => I (i + 1) (acc ++ [y]) M4) E0') ∧ (b = false → I (i + 1) acc M3)))) ∧
      (∀ acc M, I ds.length acc M → P (.lst acc) M)) E)
    {W : WX} (tk : Takes X W) {σ : L2.St} {G H : Hp} (hE : DenE X.K τ G σ) (hH : Hst X.K G M H) {Q : VK} (hP : CE' X.K G M H P Q) (hX : CX' X.K G M H E (fun c d H2 => W c d σ H2)) :
    tLc (tWI X false tg iter) (gFam X scope tg) (iFam X scope ifs) (eFam X scope elt) vs σ H Q := by
  refine hi.run W tk σ G H hE hH _ ?_ hX
  intro J ds M1 G1 H1 Ok ⟨hz, I, h0, hOk, hb, hd⟩ s1 h1 w D hD
  have hDH : ∀ b o, b ∉ adr M → H b = some o → b ≠ D := fun b o n e z => by rw [← z, s1.hh b o n e] at hD; cases hD
  -- the new list at D, beside
  have gD : ∀ {G' H' : Hp} {M' : Mem}, Hst X.K G' M' H' → H' D ≠ none → True := fun _ _ => trivial
  let Pv : Nat → Hp → Prop := fun i H' => ∃ acc aV M' G', I i acc M' ∧ acc.length ≤ i ∧ Hst X.K G' M' H' ∧ Stp G M H G' M' H' ∧ Same G1 G' ∧ H' D = some (.lst aV) ∧ DenL X.K G' acc aV ∧ G' D = none ∧ D ∉ adr M'
  have laid : ∀ {G' H' : Hp} {M' : Mem} {xs : List V}, Hst X.K G' M' H' → G' D = none → D ∉ adr M' → Hst X.K G' M' (upd H' D (.lst xs)) := fun {G' H' M' xs} h g n =>
    ⟨fun b o e => by rw [upd_ne (fun z => by rw [z, g] at e; cases e)]; exact h.sub b o e, fun c hc => (h.mem c hc).up (Same.refl _) fun b hb o e => by rw [upd_ne (fun z => n (by rw [← z]; exact List.mem_flatMap.mpr ⟨c, hc, hb⟩))]; exact e, h.out, h.nd⟩
  have stp : ∀ {G' H' : Hp} {M' : Mem} {xs : List V}, Stp G M H G' M' H' → Stp G M H G' M' (upd H' D (.lst xs)) := fun {G' H' M' xs} s =>
    ⟨s.gg, fun b o n e => by rw [upd_ne (hDH b o n e)]; exact s.hh b o n e, s.fr, s.ad⟩
  have n0 : D ∉ adr M1 := fun z => h1.there D z hD
  have g0 : G1 D = none := h1.sub.free hD
  refine ⟨fun i m H' => m = ds.length - i ∧ i ≤ ds.length ∧ Pv i H', ⟨_, rfl, Nat.zero_le _, [], [], M1, G1, h0, Nat.zero_le _, laid h1 g0 n0, stp s1, Same.refl _, upd_same, .nil, g0, n0⟩, ?_⟩
  rintro i m H' ⟨rfl, hle, acc, aV, M', G', hI, hal, h', s', g', hDl, hda, hg', hn'⟩
  obtain ⟨w1, w2, w3⟩ := w G' M' H' g' h' (hOk _ _ _ hI)
  -- D through a step
  have thru : ∀ {G2 H2 : Hp} {M2 : Mem}, Stp G' M' H' G2 M2 H2 → H2 D = some (.lst aV) ∧ DenL X.K G2 acc aV ∧ G2 D = none ∧ D ∉ adr M2 := fun {G2 H2 M2} s =>
    ⟨s.hh D _ hn' hDl, hda.up s.gg, s.fr D (by rw [hDl]; exact fun z => nomatch z) hn' hg', fun z => (s.ad D z).elim hn' fun q => by rw [hDl] at q; cases q⟩
  by_cases hlt : i < ds.length
  · refine .inr ⟨w1 i hlt, fun H2 => Pv (i + 1) H2, fun H2 q => ⟨ds.length - (i + 1), by omega, rfl, hlt, q⟩, fun x H2 y => ?_⟩
    obtain ⟨G2, s2, h2, dx⟩ := w3 i x H2 hlt y
    have hd' := List.getElem?_eq_getElem hlt
    have eW : DenE X.K (wipeT τ vs) G2 (wipe σ vs) := denE_wipe ((hE.up s'.gg).up s2.gg) vs
    intro sA HA CA clA fpA
    refine hb i _ acc M' hd' hI sA HA CA clA fpA (wipe σ vs) G2 H2 x eW h2 (dx _ hd') _ ?_
    intro τ3 M3 G3 H3 σ3 p3 s3 h3 e3 l3 k3
    refine ⟨?_, fun sB HB CB clB fpB => ?_⟩
    · rw [wipe_ext l3 k3, wipe_wipe]
    refine p3 sB HB CB clB fpB σ3 G3 H3 e3 h3 _ ?_
    intro bb M4 G4 H4 ⟨p4, p4'⟩ s4 h4
    have s24 := (s2.trans s3).trans s4
    cases bb with
    | false =>
      refine iteF ?_
      obtain ⟨t1, t2, t3, t4⟩ := thru s24
      exact ⟨acc, aV, M4, G4, p4' rfl, by omega, h4, s'.trans s24, g'.trans s24.gg, t1, t2, t3, t4⟩
    | true =>
      refine iteT fun sC HC CC clC fpC => ?_
      refine (p4 rfl sC HC CC clC fpC).run _ takes0 σ3 G4 H4 (e3.up s4.gg) h4 _ ?_ noX
      intro y5 M5 v5 G5 H5 p5 s5 h5 d5
      have s25 := s24.trans s5
      obtain ⟨t1, t2, t3, t4⟩ := thru s25
      refine ⟨aV, t1, by rw [hda.length]; omega, acc ++ [y5], aV ++ [v5], M5, G5, p5, by rw [List.length_append]; simp; omega, laid h5 t3 t4, stp (s'.trans s25), g'.trans s25.gg, upd_same, t2.snoc d5, t3, t4⟩
  · have e : i = ds.length := by omega
    subst e
    refine .inl ⟨w2, ?_⟩
    have up : Same G' (upd G' D (.lst aV)) := fun b o e => by rw [upd_ne (ne_of_none e hg')]; exact e
    have hF : Hst X.K (upd G' D (.lst aV)) M' H' := ⟨fun b o e => by
      by_cases c : b = D
      · subst c; rw [upd_same] at e; cases e; exact hDl
      · rw [upd_ne c] at e; exact h'.sub b o e, fun c hc => (h'.mem c hc).up up fun _ _ _ e => e, fun b hb => by rw [upd_ne (fun z => hn' (by rw [← z]; exact hb))]; exact h'.out b hb, h'.nd⟩
    have sF : Stp G M H (upd G' D (.lst aV)) M' H' := ⟨s'.gg.trans up, s'.hh, fun b hb n g => by
      rw [upd_ne (fun z => ?_)]
      · exact s'.fr b hb n g
      · cases q : H b with
        | none => exact hb q
        | some o => exact hDH b o n q z, s'.ad⟩
    exact hP _ _ _ _ _ (hd acc M' hI) sF hF (den_lst upd_same (hda.up up))
theorem ex_lc {scope : Scope} {ifs : List Expr} (own : List (Str × Nat)) (h : EI X tg iter τ M (fun ds M1 Ok => ds.length ≤ sizeLine ∧ ∃ I : Nat → List Dat → Mem → Prop, I 0 [] M1 ∧ (∀ i acc M, I i acc M → Ok M) ∧
      (∀ i d acc M, ds[i]? = some d → I i acc M → ∀ (s : Shared) (H : Hp) (C : Addr) (cl : List (Str × Addr)) (fp : List Addr), GC (Cx.Bk X scope s H C cl fp) (own.map (·.2)) tg d (wipeT τ (own.map (·.2))) M (fun τ2 M2 => ∀ (s : Shared) (H : Hp) (C : Addr) (cl : List (Str × Addr)) (fp : List Addr),
        EFs (Cx.Bk X scope s H C cl fp) ifs τ2 M2 (fun b M3 => (b = true → ∀ (s : Shared) (H : Hp) (C : Addr) (cl : List (Str × Addr)) (fp : List Addr), EX (Cx.Bk X scope s H C cl fp) false elt τ2 M3 (fun y M4 => I (i + 1) (acc ++ [y]) M4) E0') ∧ (b = false → I (i + 1) acc M3)))) ∧
      (∀ acc M, I ds.length acc M → P (.lst acc) M)) E)
    (ok : BlkOk X.N X.env.scope scope own := by exact blkOk_by (by first | decide +kernel | kernel_rfl)) (hN : X.N.Nodup := by first | decide +kernel | exact of_decide_eq_true (by kernel_rfl)) (hc : X.calm = true := by rfl) (hs : ∀ x, foldedSetIterable iter X.env x = pure x := by intro _; rfl) :
    EX X T (.ListComp elt [⟨tg, iter, ifs, 0⟩] scope pos) τ M P E := .mk fun W tk σ G H hE hH Q hP hX =>
  tW_of (pe_lc hc hN pi_W ok pg_fam pt_fam pe_fam hs) (lc_read h tk hE hH hP hX)
theorem ws_setLc {x : Str} {px : Pos} {scope : Scope} {ifs : List Expr} {lpos : Pos} {rest : List Stmt} {R : RK} (own : List (Str × Nat)) (h : EI X tg iter τ M (fun ds M1 Ok => ds.length ≤ sizeLine ∧ ∃ I : Nat → List Dat → Mem → Prop, I 0 [] M1 ∧ (∀ i acc M, I i acc M → Ok M) ∧
      (∀ i d acc M, ds[i]? = some d → I i acc M → ∀ (s : Shared) (H : Hp) (C : Addr) (cl : List (Str × Addr)) (fp : List Addr), GC (Cx.Bk X scope s H C cl fp) (own.map (·.2)) tg d (wipeT τ (own.map (·.2))) M (fun τ2 M2 => ∀ (s : Shared) (H : Hp) (C : Addr) (cl : List (Str × Addr)) (fp : List Addr),
        EFs (Cx.Bk X scope s H C cl fp) ifs τ2 M2 (fun b M3 => (b = true → ∀ (s : Shared) (H : Hp) (C : Addr) (cl : List (Str × Addr)) (fp : List Addr), EX (Cx.Bk X scope s H C cl fp) false elt τ2 M3 (fun y M4 => I (i + 1) (acc ++ [y]) M4) E0') ∧ (b = false → I (i + 1) acc M3)))) ∧
      (∀ acc M, I ds.length acc M → WS X T rest (τ.set (ixIn X.N x) (some (.lst acc))) M R)) (fun x M1 => R (.ex x τ) M1))
    (hi : X.N[ixIn X.N x]? = some x := by rfl) (hyl : X.env.scope.names.lookup x = some .local := by rfl) (hsw : swapsWith (.ListComp elt [⟨tg, iter, ifs, 0⟩] scope lpos) (some (.Name x px)) pos.line X.env = pure true := by exact sw_true rfl rfl rfl (by first | decide +kernel | kernel_rfl))
    (ok : BlkOk X.N X.env.scope scope own := by exact blkOk_by (by first | decide +kernel | kernel_rfl)) (hN : X.N.Nodup := by first | decide +kernel | exact of_decide_eq_true (by kernel_rfl)) (hc : X.calm = true := by rfl) (hs : ∀ x, foldedSetIterable iter X.env x = pure x := by intro _; rfl) :
    WS X T (.Assign [.Name x px] (.ListComp elt [⟨tg, iter, ifs, 0⟩] scope lpos) pos :: rest) τ M R := .mk fun W tk σ G H hE hH D hR => tWSs_len fun hl => by
  refine ws_step (ps_setLc hc hN hi hyl hsw pi_W ok pg_fam pt_fam pe_fam hs) ?_
  have hlt : ixIn X.N x < σ.length := by rw [hl]; exact (List.getElem?_eq_some_iff.mp hi).1
  exact lc_read (P := fun d M => ∃ acc, d = .lst acc ∧ WS X T rest (τ.set (ixIn X.N x) (some (.lst acc))) M R) (.mk fun W' tk' σ' G' H' hE' hH' R' hR' hX' => h.run W' tk' σ' G' H' hE' hH' R' (fun J ds M1 G1 H1 Ok ⟨hz, I, i1, i2, i3, i4⟩ => hR' J ds M1 G1 H1 Ok ⟨hz, I, i1, i2, i3, fun acc M hi => ⟨acc, rfl, i4 acc M hi⟩⟩) hX') tk hE hH
    (fun d M2 v G2 H2 ⟨acc, ed, r⟩ s h2 dv => by subst ed; exact r.run W tk _ G2 H2 ((hE.up s.gg).set hlt dv) h2 D (hR.step s)) (ex_out hR hE)
end
end Kh

set_option Elab.async false
set_option linter.all false
set_option maxRecDepth 100000
set_option maxHeartbeats 1000000
namespace Kh
open PySem PySem.Spec L2

section
variable {X : Cx} {T : Bool} {τ : TEnv} {M : Mem} {P : PK'} {E : XKx} {e a b c o : Expr} {es : List Expr} {pos apos : Pos} {R : RK} {rest : List Stmt}
theorem EX.t (h : EX X false e τ M P E) : EX X T e τ M P E := .mk fun W tk σ G H hE hH Q hP hX pins s _ I => h.run W tk σ G H hE hH Q hP hX pins s tk_f I
theorem ET.t {P : Bool → Mem → Prop} (h : ET X false e τ M P E) : ET X T e τ M P E := .mk fun W tk σ G H hE hH Q hP hX pins s _ I => h.run W tk σ G H hE hH Q hP hX pins s tk_f I
theorem WS.t {ss : List Stmt} (h : WS X false ss τ M R) : WS X T ss τ M R := .mk fun W tk σ G H hE hH D hR pins s _ I => h.run W tk σ G H hE hH D hR pins s tk_f I

/-! ### operators by values -/
theorem o_scal {f : Value → Value → Sem Value} {r : R2} {x y : Dat} (v u : V) (hv : ∀ G w, Den X.K G x w → w = v) (hu : ∀ G w, Den X.K G y w → w = u) (ho : OpR X f r) (h : ∀ G H, Hst X.K G M H → ∀ Q, CE' X.K G M H P Q → r v u H Q) : OP X T f x y M P :=
  op_of ho fun G H v' u' hH dx dy Q hP => by rw [hv _ _ dx, hu _ _ dy]; exact h G H hH Q hP
theorem o_eqS {x y : Dat} (v u : V) (hv : ∀ G w, Den X.K G x w → w = v) (hu : ∀ G w, Den X.K G y w → w = u) (hs : scal v u = true) (h : P (.bl (decide (v = u))) M) : OP X T (compareOp .Eq) x y M P := o_scal v u hv hu op_eq fun G H hH Q hP => ⟨hs, hP _ _ _ _ _ h Stp.refl hH den_bl⟩
theorem o_neS {x y : Dat} (v u : V) (hv : ∀ G w, Den X.K G x w → w = v) (hu : ∀ G w, Den X.K G y w → w = u) (hs : scal v u = true) (h : P (.bl (!decide (v = u))) M) : OP X T (compareOp .NotEq) x y M P := o_scal v u hv hu op_ne fun G H hH Q hP => ⟨hs, hP _ _ _ _ _ h Stp.refl hH den_bl⟩
theorem vint {a b : Int} : decide (V.int a = V.int b) = decide (a = b) := by by_cases h : a = b <;> simp [h]
theorem vstr {a b : Str} : decide (V.str a = V.str b) = decide (a = b) := by by_cases h : a = b <;> simp [h]
theorem vbl {a b : Bool} : decide (V.bl a = V.bl b) = decide (a = b) := by by_cases h : a = b <;> simp [h]
theorem o_eqI {i j : Int} (h : P (.bl (decide (i = j))) M) : OP X T (compareOp .Eq) (.int i) (.int j) M P := o_eqS (.int i) (.int j) (fun _ _ d => d.int_inv) (fun _ _ d => d.int_inv) rfl (by rw [vint]; exact h)
theorem o_neI {i j : Int} (h : P (.bl (!decide (i = j))) M) : OP X T (compareOp .NotEq) (.int i) (.int j) M P := o_neS (.int i) (.int j) (fun _ _ d => d.int_inv) (fun _ _ d => d.int_inv) rfl (by rw [vint]; exact h)
theorem o_eqT {i j : Str} (h : P (.bl (decide (i = j))) M) : OP X T (compareOp .Eq) (.str i) (.str j) M P := o_eqS (.str i) (.str j) (fun _ _ d => d.str_inv) (fun _ _ d => d.str_inv) rfl (by rw [vstr]; exact h)
theorem o_neT {i j : Str} (h : P (.bl (!decide (i = j))) M) : OP X T (compareOp .NotEq) (.str i) (.str j) M P := o_neS (.str i) (.str j) (fun _ _ d => d.str_inv) (fun _ _ d => d.str_inv) rfl (by rw [vstr]; exact h)
theorem o_eqB {i j : Bool} (h : P (.bl (decide (i = j))) M) : OP X T (compareOp .Eq) (.bl i) (.bl j) M P := o_eqS (.bl i) (.bl j) (fun _ _ d => d.bl_inv) (fun _ _ d => d.bl_inv) rfl (by rw [vbl]; exact h)
theorem o_neB {i j : Bool} (h : P (.bl (!decide (i = j))) M) : OP X T (compareOp .NotEq) (.bl i) (.bl j) M P := o_neS (.bl i) (.bl j) (fun _ _ d => d.bl_inv) (fun _ _ d => d.bl_inv) rfl (by rw [vbl]; exact h)
/-- is None -/
def Dat.isN : Dat → Bool
  | .non => true
  | _ => false
theorem den_isN {K : PySem.W.Frag} {G : Hp} {d : Dat} {v : V} (h : Den K G d v) (hr : ∀ u, d ≠ .raw u) : decide (v = .non) = d.isN := by
  cases d with
  | non => rw [h.non_inv]; rfl
  | bl b => rw [h.bl_inv]; rfl
  | int i => rw [h.int_inv]; rfl
  | str s => rw [h.str_inv]; rfl
  | raw u => exact absurd rfl (hr u)
  | dic0 => obtain ⟨p, rfl, _⟩ := h.dic0_inv; rfl
  | scr ns => obtain ⟨p, rfl, _⟩ := h.scr_inv; rfl
  | lst ds => obtain ⟨p, vs, rfl, _⟩ := h.lst_inv; rfl
  | tup ds => obtain ⟨p, vs, rfl, _⟩ := h.tup_inv; rfl
  | obj C ns ds => obtain ⟨p, dx, vs, rfl, _⟩ := h.obj_inv; rfl
  | xn a dd ns ds => obtain ⟨vs, rfl, _⟩ := h.xn_inv; rfl
  | «at» a d => obtain ⟨rfl, _⟩ := h.at_inv; rfl
theorem o_isN {x : Dat} (hr : ∀ u, x ≠ .raw u) (h : P (.bl x.isN) M) : OP X T (compareOp .Is) x .non M P := op_of op_isN fun G H v u hH dx dy Q hP => ⟨dy.non_inv, by rw [den_isN dx hr]; exact hP _ _ _ _ _ h Stp.refl hH den_bl⟩
theorem o_notN {x : Dat} (hr : ∀ u, x ≠ .raw u) (h : P (.bl (!x.isN)) M) : OP X T (compareOp .IsNot) x .non M P := op_of op_notN fun G H v u hH dx dy Q hP => ⟨dy.non_inv, by rw [den_isN dx hr]; exact hP _ _ _ _ _ h Stp.refl hH den_bl⟩
/-- ints -/
theorem o_mul {i j : Int} (hc : CMulW i j) (h : P (.int (i * j)) M) : OP X T (binaryOp .Mult) (.int i) (.int j) M P := op_IIc op_mulW hc (fun _ => den_int) h
theorem o_mulS {i j : Int} (hc : (-(2 ^ 64) < i ∧ i < 2 ^ 64) ∨ (-(2 ^ 64) < j ∧ j < 2 ^ 64)) (h : P (.int (i * j)) M) : OP X T (binaryOp .Mult) (.int i) (.int j) M P := op_IIc op_mul hc (fun _ => den_int) h
theorem o_mod {i j : Int} (hc : 0 < j) (h : P (.int (i % j)) M) : OP X T (binaryOp .Mod) (.int i) (.int j) M P := op_IIc op_mod hc (fun _ => den_int) h
theorem o_div {i j : Int} (hc : CDivW i j) (h : P (.int (i / j)) M) : OP X T (binaryOp .FloorDiv) (.int i) (.int j) M P := op_IIc op_fdivW hc (fun _ => den_int) h
theorem o_pow {i j : Int} (hc : CPow i j) (h : P (.int (i ^ j.toNat)) M) : OP X T (binaryOp .Pow) (.int i) (.int j) M P := op_IIc op_pow hc (fun _ => den_int) h
theorem o_shr {i j : Int} (hc : 0 ≤ j) (h : P (.int (i / 2 ^ j.toNat)) M) : OP X T (binaryOp .RShift) (.int i) (.int j) M P := op_IIc op_shr hc (fun _ => den_int) h
theorem o_shl {i j : Int} (hc : CPow i j) (h : P (.int (i * 2 ^ j.toNat)) M) : OP X T (binaryOp .LShift) (.int i) (.int j) M P := op_IIc op_shl hc (fun _ => den_int) h
theorem o_bor {i j : Int} (h : P (.int (Builtin.bitOr i j)) M) : OP X T (binaryOp .BitOr) (.int i) (.int j) M P := op_II op_or (fun _ => den_int) h
theorem o_band {i j : Int} (h : P (.int (Builtin.bitAnd i j)) M) : OP X T (binaryOp .BitAnd) (.int i) (.int j) M P := op_II op_and (fun _ => den_int) h
theorem ex_neg (h : EX X T a τ M (fun d M1 => ∃ i, d = .int i ∧ P (.int (-i)) M1) E) : EX X T (.UnaryOp .USub a pos) τ M P E := .mk fun W tk σ G H hE hH Q hP hX pins s k I =>
  UnaryOp_ (thn (h.run W tk σ G H hE hH (fun x H1 => ∃ i, x = .int i ∧ Q (.int (-i)) H1) (fun d M1 v G1 H1 ⟨i, ed, hp⟩ s1 h1 dv => by subst ed; exact ⟨i, dv.int_inv, hP _ _ _ _ _ hp s1 h1 den_int⟩) hX pins s k I) fun v s1 ⟨x, H1, I1, r1, q⟩ => un_neg pins s1 σ H1 x v Q I1 r1 q)
where UnaryOp_ := @PyProof.Rows.UnaryOp_
/-- texts -/
theorem o_cat {i j : Str} (hl : i.length + j.length ≤ sizeLine) (h : P (.str (i ++ j)) M) : OP X T (binaryOp .Add) (.str i) (.str j) M P := op_of op_add_str fun G H v u hH dx dy Q hP => ⟨i, j, dx.str_inv, dy.str_inv, hl, hP _ _ _ _ _ h Stp.refl hH den_str⟩
theorem o_inS {c : Nat} {z : Str} (h : P (.bl (decide (c ∈ z.cps.toList))) M) : OP X T (compareOp .In) (.str ⟨#[c]⟩) (.str z) M P := op_of op_in_sign fun G H v u hH dx dy Q hP => ⟨c, z, dx.str_inv, dy.str_inv, hP _ _ _ _ _ h Stp.refl hH den_bl⟩
theorem o_notInS {c : Nat} {z : Str} (h : P (.bl (!decide (c ∈ z.cps.toList))) M) : OP X T (compareOp .NotIn) (.str ⟨#[c]⟩) (.str z) M P := op_of op_notIn_sign fun G H v u hH dx dy Q hP => ⟨c, z, dx.str_inv, dy.str_inv, hP _ _ _ _ _ h Stp.refl hH den_bl⟩
theorem o_ltT {i j : Str} (h : P (.bl (decide (i.cps.toList < j.cps.toList))) M) : OP X T (compareOp .Lt) (.str i) (.str j) M P := op_of op_lt_str fun G H v u hH dx dy Q hP => ⟨i, j, dx.str_inv, dy.str_inv, hP _ _ _ _ _ h Stp.refl hH den_bl⟩
/-- a text so many times -/
def repS (z : Str) (n : Int) : Str := ⟨(List.replicate n.toNat z.cps.toList).flatten.toArray⟩
theorem rep_fold : ∀ (n : Nat) (l acc : Array Nat), ((List.replicate n l).foldl (· ++ ·) acc).toList = acc.toList ++ (List.replicate n l.toList).flatten
  | 0, l, acc => by simp
  | n + 1, l, acc => by
    rw [List.replicate_succ, List.foldl_cons, rep_fold n l (acc ++ l), List.replicate_succ, List.flatten_cons, Array.toList_append, List.append_assoc]
theorem str_ext {x y : Str} (h : x.cps.toList = y.cps.toList) : x = y := by
  obtain ⟨x⟩ := x; obtain ⟨y⟩ := y
  congr 1
  exact Array.toList_inj.mp h
theorem op_repS : OpR X (binaryOp .Mult) (fun x y H Q => ∃ z n, x = .str z ∧ y = .int n ∧ (-(2 ^ 63) ≤ n ∧ n < 2 ^ 63) ∧ z.length * n.toNat ≤ sizeLine ∧ Q (.str (repS z n)) H) := by
  intro pins s σ H x y v u Q I rx ry h
  obtain ⟨z, n, rfl, rfl, ⟨b1, b2⟩, hl, q⟩ := h
  obtain ⟨t, rfl⟩ := rx
  obtain ⟨t', rfl⟩ := ry
  have hz : z.cps.size = z.length := rfl
  have sl : sizeLine = 16777216 := sizeLine_eq
  refine PySem.P.mul_str ?_ (fun h1 h2 h3 => ?_) (fun h1 h2 => ?_) ?_
  · rw [decide_eq_false (by omega), decide_eq_false (by omega)]; rfl
  · have hn : (1 : Int) ≤ n := by omega
    have : (z.length : Int) * n ≤ 16777216 := by
      have : ((z.length * n.toNat : Nat) : Int) ≤ 16777216 := by omega
      rwa [Int.natCast_mul, Int.toNat_of_nonneg (by omega)] at this
    have h4 : (z.length : Int) ≤ (2 ^ 63 - 1) / n := by
      rw [Int.le_ediv_iff_mul_le (by omega)]; omega
    omega
  · exact decide_eq_false (by omega)
  · have fin : ∀ (t'' : Tok) (k : Nat) (w : Str), w = repS z n → EP X pins σ Q (.str w t'') { s with toks := k } := fun t'' k w e => ⟨.str (repS z n), H, I.tok k, ⟨t'', by rw [e]⟩, q⟩
    split
    · refine ⟨by simp [Str.empty, Str.length, sl], fin _ _ _ (str_ext ?_)⟩
      have : n.toNat = 0 := by omega
      simp [repS, this, Str.empty]
    · split
      · rename_i h1 h2
        refine fin _ _ _ (str_ext ?_)
        rcases Bool.or_eq_true _ _ ▸ h2 with h2 | h2
        · have : n = 1 := by simpa using h2
          subst this
          simp [repS]
        · have : z.cps.toList = [] := by
            have : z.length = 0 := by simpa using h2
            rw [← hz] at this
            exact List.length_eq_zero_iff.mp (by simpa using this)
          simp [repS, this]
      · refine ⟨?_, fin _ _ _ (str_ext ?_)⟩
        · have : (⟨(List.replicate n.toNat z.cps).foldl (· ++ ·) #[]⟩ : Str).length = z.length * n.toNat := by
            show ((List.replicate n.toNat z.cps).foldl (· ++ ·) #[]).size = _
            rw [← Array.length_toList, rep_fold]
            simp [Nat.mul_comm, hz]
          rw [this]; exact hl
        · rw [rep_fold]; simp [repS]
theorem o_repS {z : Str} {n : Int} (hb : -(2 ^ 63) ≤ n ∧ n < 2 ^ 63) (hl : z.length * n.toNat ≤ sizeLine) (h : P (.str (repS z n)) M) : OP X T (binaryOp .Mult) (.str z) (.int n) M P := op_of op_repS fun G H v u hH dx dy Q hP => ⟨z, n, dx.str_inv, dy.int_inv, hb, hl, hP _ _ _ _ _ h Stp.refl hH den_str⟩
/-- lists -/
theorem o_catL {xs ys : List Dat} (hl : xs.length + ys.length ≤ sizeLine) (h : P (.lst (xs ++ ys)) M) : OP X T (binaryOp .Add) (.lst xs) (.lst ys) M P := op_of op_cat fun G H v u hH dx dy Q hP => by
  obtain ⟨p, vs, rfl, g1, d1⟩ := dx.lst_inv
  obtain ⟨q, us, rfl, g2, d2⟩ := dy.lst_inv
  refine ⟨p, q, vs, us, rfl, rfl, hH.sub _ _ g1, hH.sub _ _ g2, by rw [d1.length, d2.length]; exact hl, fun r hr => ?_⟩
  obtain ⟨s2, h2⟩ := Stp.new (o := .lst (vs ++ us)) hH hr
  exact hP _ _ _ _ _ h s2 h2 (den_lst upd_same ((d1.append d2).up s2.gg))
theorem DenL.flat {K : PySem.W.Frag} {G : Hp} {ds : List Dat} {vs : List V} (h : DenL K G ds vs) : ∀ n : Nat, DenL K G (List.replicate n ds).flatten (List.replicate n vs).flatten
  | 0 => by simp only [List.replicate_zero, List.flatten_nil]; exact .nil
  | n + 1 => by simp only [List.replicate_succ, List.flatten_cons]; exact h.append (DenL.flat h n)
theorem o_repL {xs : List Dat} {n : Int} (hb : -(2 ^ 63) ≤ n ∧ n < 2 ^ 63) (hl : xs.length * n.toNat ≤ sizeLine) (h : P (.lst (List.replicate n.toNat xs).flatten) M) : OP X T (binaryOp .Mult) (.lst xs) (.int n) M P := op_of op_rep fun G H v u hH dx dy Q hP => by
  obtain ⟨p, vs, rfl, g1, d1⟩ := dx.lst_inv
  refine ⟨p, n, vs, rfl, dy.int_inv, hH.sub _ _ g1, hb.1, hb.2, by rw [d1.length]; exact hl, fun r hr => ?_⟩
  obtain ⟨s2, h2⟩ := Stp.new (o := .lst (List.replicate n.toNat vs).flatten) hH hr
  exact hP _ _ _ _ _ h s2 h2 (den_lst upd_same ((d1.flat _).up s2.gg))

/-! ### subscripts -/
def IQ (K : PySem.W.Frag) (x y : Dat) (M : Mem) (P : PK') : Prop := ∀ G H v u, Hst K G M H → Den K G x v → Den K G y u → ∀ Q, CE' K G M H P Q → rIx K v u H Q
theorem ex_ix (h : EX X T a τ M (fun x M1 => EX X T b τ M1 (fun y M2 => IQ X.K x y M2 P) E) E) (hs : PlainIx b := by exact fun _ _ => rfl) : EX X T (.Subscript a b pos) τ M P E := by
  refine .mk ?_; intro W tk σ G H hE hH Q hP hX pins s k I
  have hA := h.run W tk σ G H hE hH (fun x H1 => tW X T b σ H1 fun y H2 => rIx X.K x y H2 Q) (fun x M1 v G1 H1 hb s1 h1 dx => hb.run W tk σ G1 H1 (hE.up s1.gg) h1 _ (fun y M2 u G2 H2 ho s2 h2 dy => ho G2 H2 v u h2 (dx.up s2.gg) dy Q (hP.step (s1.trans s2))) (hX.step s1)) hX
  exact PyProof.Rows.Subscript_ (thnT k (hA pins s k I) fun v s1 k1 ⟨x, H1, I1, r1, q1⟩ => thn (q1 pins s1 k1 I1) fun u s2 ⟨y, H2, I2, r2, q2⟩ => ix_seq a b pins s2 σ H2 x y v u Q I2 r1 r2 q2 (hs _ _))
theorem atI_den {K : PySem.W.Frag} {G : Hp} {ds : List Dat} {vs : List V} {i : Int} {d : Dat} (h : DenL K G ds vs) (e : atI ds i = some d) : ∃ v, atI vs i = some v ∧ Den K G d v := by
  unfold atI at e ⊢
  rw [h.length]
  cases q : ixN ds.length i with
  | none => rw [q] at e; cases e
  | some j => rw [q] at e; exact h.get e
theorem i_lst {ds : List Dat} {i : Int} {d : Dat} (e : atI ds i = some d) (h : P d M) {K : PySem.W.Frag} : IQ K (.lst ds) (.int i) M P := fun G H v u hH dx dy Q hP => by
  obtain ⟨p, vs, rfl, g, dl⟩ := dx.lst_inv
  obtain ⟨w, e1, d1⟩ := atI_den dl e
  exact .inl ⟨p, vs, i, w, rfl, dy.int_inv, SqL.of (hH.sub _ _ g), e1, hP _ _ _ _ _ h Stp.refl hH d1⟩
theorem i_tup {ds : List Dat} {i : Int} {d : Dat} (e : atI ds i = some d) (h : P d M) {K : PySem.W.Frag} : IQ K (.tup ds) (.int i) M P := fun G H v u hH dx dy Q hP => by
  obtain ⟨p, vs, rfl, g, dl⟩ := dx.tup_inv
  obtain ⟨w, e1, d1⟩ := atI_den dl e
  exact .inr (.inl ⟨p, vs, i, w, rfl, dy.int_inv, SqT.of (hH.sub _ _ g), e1, hP _ _ _ _ _ h Stp.refl hH d1⟩)
theorem i_cell {p : Addr} {ds : List Dat} {i : Int} {d : Dat} (hm : (p, MC.lst ds) ∈ M) (e : atI ds i = some d) (h : P d M) {K : PySem.W.Frag} : IQ K (.raw (.ref p)) (.int i) M P := fun G H v u hH dx dy Q hP => by
  obtain ⟨vs, g, dl⟩ := hH.mem _ hm
  obtain ⟨w, e1, d1⟩ := atI_den dl e
  exact .inl ⟨p, vs, i, w, dx.raw_inv, dy.int_inv, SqL.of g, e1, hP _ _ _ _ _ h Stp.refl hH d1⟩
theorem i_scr {ns : List Int} {i n : Int} (e : atI ns i = some n) (h : P (.int n) M) {K : PySem.W.Frag} : IQ K (.scr ns) (.int i) M P := fun G H v u hH dx dy Q hP => by
  obtain ⟨p, rfl, g⟩ := dx.scr_inv
  refine .inl ⟨p, _, i, .int n, rfl, dy.int_inv, hH.sub.seq g, ?_, hP _ _ _ _ _ h Stp.refl hH den_int⟩
  unfold atI at e ⊢
  rw [List.length_map]
  cases q : ixN ns.length i with
  | none => rw [q] at e; cases e
  | some j =>
    rw [q] at e
    show (ns.map V.int)[j]? = _
    rw [List.getElem?_map, show ns[j]? = some n from e]; rfl
theorem i_str {z : Str} {i : Int} {c : Nat} (hl : z.length ≤ sizeLine) (e : atI z.cps.toList i = some c) (h : P (.str ⟨#[c]⟩) M) {K : PySem.W.Frag} : IQ K (.str z) (.int i) M P := fun G H v u hH dx dy Q hP =>
  .inr (.inr ⟨z, i, c, dx.str_inv, dy.int_inv, hl, e, hP _ _ _ _ _ h Stp.refl hH den_str⟩)
end
end Kh

set_option Elab.async false
set_option linter.all false
set_option maxRecDepth 100000
set_option maxHeartbeats 1000000
namespace Kh
open PySem PySem.Spec L2

section
variable {X : Cx} {T : Bool} {τ : TEnv} {M : Mem} {P : PK'} {E : XKx} {e a b c o : Expr} {es : List Expr} {pos apos p2 : Pos} {R : RK} {rest : List Stmt}
/-! ### slices -/
def tWO (X : Cx) (T : Bool) (e : Option Expr) : TO := fun σ H Q => ∀ pins s, Tk T s → Inv X pins σ H s → wpAny (model X.prog X.w) X.A (evalPart e X.env) (fun u s' => ∃ o H', Inv X pins σ H' s' ∧ IsPart u o ∧ Q o H') X.xe s
structure EP' (X : Cx) (T : Bool) (e : Option Expr) (τ : TEnv) (M : Mem) (P : Option Int → Mem → Prop) (E : XKx) : Prop where
  run : ∀ W, Takes X W → ∀ σ G H, DenE X.K τ G σ → Hst X.K G M H → ∀ Q : Option Int → Hp → Prop, (∀ i M2 G2 H2, P i M2 → Stp G M H G2 M2 H2 → Hst X.K G2 M2 H2 → Q i H2) → CX' X.K G M H E (fun c d H2 => W c d σ H2) → tWO X T e σ H Q
theorem ep_none {P : Option Int → Mem → Prop} (h : P none M) : EP' X T none τ M P E := .mk fun W tk σ G H hE hH Q hP hX pins s k I => po_none.run pins s σ H Q I (hP _ _ _ _ h Stp.refl hH)
theorem ep_some {P : Option Int → Mem → Prop} (h : EX X T e τ M (fun d M1 => ∃ i, d = .int i ∧ P (some i) M1) E) : EP' X T (some e) τ M P E := .mk fun W tk σ G H hE hH Q hP hX pins s k I => by
  rw [evalPart_some]
  refine thn (h.run W tk σ G H hE hH (fun x H1 => ∃ i, x = .int i ∧ Q (some i) H1) (fun d M1 v G1 H1 ⟨i, ed, hp⟩ s1 h1 dv => by subst ed; exact ⟨i, dv.int_inv, hP _ _ _ _ hp s1 h1⟩) hX pins s k I) fun u s1 ⟨x, H1, I1, r1, i, ex, q⟩ => ?_
  subst ex
  obtain ⟨t, rfl⟩ := r1
  exact ⟨some i, H1, I1, .int i t, q⟩
/-- a slice, by values -/
def SQ (X : Cx) (x : Dat) (lo hi : Option Int) (M : Mem) (P : PK') : Prop := ∃ r, SlR X r ∧ ∀ G H v, Hst X.K G M H → Den X.K G x v → ∀ Q, CE' X.K G M H P Q → r v lo hi H Q
theorem ex_sl {lo hi : Option Expr} (h : EX X T e τ M (fun x M1 => EP' X T lo τ M1 (fun l M2 => EP' X T hi τ M2 (fun u M3 => SQ X x l u M3 P) E) E) E) : EX X T (.Subscript e (.Slice lo hi none p2) pos) τ M P E := by
  refine .mk ?_; intro W tk σ G H hE hH Q hP hX pins s k I
  have hA := h.run W tk σ G H hE hH (fun x H1 => tWO X T lo σ H1 fun l H2 => tWO X T hi σ H2 fun u H3 => ∃ r, SlR X r ∧ r x l u H3 Q) (fun x M1 v G1 H1 hb s1 h1 dx =>
    hb.run W tk σ G1 H1 (hE.up s1.gg) h1 _ (fun l M2 G2 H2 hb2 s2 h2 => hb2.run W tk σ G2 H2 ((hE.up s1.gg).up s2.gg) h2 _ (fun u M3 G3 H3 ⟨r, hr, hq⟩ s3 h3 =>
      ⟨r, hr, hq G3 H3 v h3 ((dx.up s2.gg).up s3.gg) Q (hP.step ((s1.trans s2).trans s3))⟩) (hX.step (s1.trans s2))) (hX.step s1)) hX
  refine PyProof.Rows.Subscript_ (thnT k (hA pins s k I) fun v s1 k1 ⟨x, H1, I1, r1, q1⟩ => ?_)
  refine wpAny_Slice (thnT k1 (q1 pins s1 k1 I1) fun vl s2 k2 ⟨l, H2, I2, pl, q2⟩ => thn (q2 pins s2 k2 I2) fun vu s3 ⟨u, H3, I3, pu, r, hr, q3⟩ => ?_)
  rw [evalPart_none]
  refine wpAny_pure ?_
  have I4 : Inv X pins σ H3 { s3 with heap := s3.heap.push { cls := .type "slice", data := .fields #[vl, vu, .none] } } := I3.kept (t' := s3.toks) fun b ob q => Heap.get?_push_of_some _ q
  obtain ⟨T', id, hT, ht, hg⟩ := hr pins { s3 with heap := s3.heap.push { cls := .type "slice", data := .fields #[vl, vu, .none] } } σ H3 x v vl vu l u s3.heap.objs.size Q I4 r1 (Heap.IsSliceOf.new ..) pl pu q3
  show wpAny (model X.prog X.w) X.A (PyProof.Rows.subscriptTail e (.Slice lo hi none p2) v (.ref s3.heap.objs.size)) (EP X pins σ Q) X.xe { s3 with heap := s3.heap.push { cls := .type "slice", data := .fields #[vl, vu, .none] } }
  exact PyProof.Rows.tail_any (ops := [.ref s3.heap.objs.size, v]) ht hT hg (by with_unfolding_all rfl)
/-- the items between two places -/
def cutD {α : Type} (xs : List α) (lo hi : Option Int) : List α := (xs.drop (HT.sIx xs.length 0 lo)).take (HT.sIx xs.length xs.length hi - HT.sIx xs.length 0 lo)
theorem denL_cut {K : PySem.W.Frag} {G : Hp} {ds : List Dat} {vs : List V} {lo hi : Option Int} (h : DenL K G ds vs) : DenL K G (cutD ds lo hi) (cutV vs lo hi) := by
  unfold cutD cutV
  rw [h.length]
  exact (h.drop _).take _
theorem l_lst {ds : List Dat} {lo hi : Option Int} (h : P (.lst (cutD ds lo hi)) M) : SQ X (.lst ds) lo hi M P := ⟨_, sl_list, fun G H v hH dx Q hP => by
  obtain ⟨p, vs, rfl, g, dl⟩ := dx.lst_inv
  refine ⟨p, vs, rfl, SqL.of (hH.sub _ _ g), fun r hr => ?_⟩
  obtain ⟨s2, h2⟩ := Stp.new (o := .lst (cutV vs lo hi)) hH hr
  exact hP _ _ _ _ _ h s2 h2 (den_lst upd_same ((denL_cut dl).up s2.gg))⟩
theorem l_cell {p : Addr} {ds : List Dat} {lo hi : Option Int} (hm : (p, MC.lst ds) ∈ M) (h : P (.lst (cutD ds lo hi)) M) : SQ X (.raw (.ref p)) lo hi M P := ⟨_, sl_list, fun G H v hH dx Q hP => by
  obtain ⟨vs, g, dl⟩ := hH.mem _ hm
  refine ⟨p, vs, dx.raw_inv, SqL.of g, fun r hr => ?_⟩
  obtain ⟨s2, h2⟩ := Stp.new (o := .lst (cutV vs lo hi)) hH hr
  exact hP _ _ _ _ _ h s2 h2 (den_lst upd_same ((denL_cut dl).up s2.gg))⟩
theorem l_scr {ns : List Int} {lo hi : Option Int} (h : P (.lst ((cutD ns lo hi).map Dat.int)) M) : SQ X (.scr ns) lo hi M P := ⟨_, sl_list, fun G H v hH dx Q hP => by
  obtain ⟨p, rfl, g⟩ := dx.scr_inv
  refine ⟨p, _, rfl, hH.sub.seq g, fun r hr => ?_⟩
  obtain ⟨s2, h2⟩ := Stp.new (o := .lst (cutV (ns.map V.int) lo hi)) hH hr
  refine hP _ _ _ _ _ h s2 h2 (den_lst upd_same ?_)
  have e : cutV (ns.map V.int) lo hi = (cutD ns lo hi).map V.int := by unfold cutV cutD; rw [List.length_map, List.map_take, List.map_drop]
  rw [e]; exact denL_ints⟩
theorem l_str {z : Str} {lo hi : Option Int} (hl : z.length ≤ sizeLine) (h : P (.str (cutS z lo hi)) M) : SQ X (.str z) lo hi M P := ⟨_, sl_str, fun G H v hH dx Q hP => ⟨z, dx.str_inv, hl, hP _ _ _ _ _ h Stp.refl hH den_str⟩⟩
theorem l_tup {ds : List Dat} {lo hi : Option Int} (hw : ¬ (HT.sIx ds.length 0 lo = 0 ∧ HT.sIx ds.length ds.length hi = ds.length)) (h : P (.tup (cutD ds lo hi)) M) : SQ X (.tup ds) lo hi M P := ⟨_, sl_tup, fun G H v hH dx Q hP => by
  obtain ⟨p, vs, rfl, g, dl⟩ := dx.tup_inv
  refine ⟨p, vs, rfl, SqT.of (hH.sub _ _ g), by rw [dl.length]; exact hw, fun r hr => ?_⟩
  obtain ⟨s2, h2⟩ := Stp.new (o := .tup (cutV vs lo hi)) hH hr
  exact hP _ _ _ _ _ h s2 h2 (den_tup upd_same ((denL_cut dl).up s2.gg))⟩

/-! ### built-ins by values -/
theorem bc_of {f : Value} {r : List V → Hp → VK → Prop} {ds : List Dat} (hr : CallR X f r) (h : ∀ G H vs, Hst X.K G M H → DenL X.K G ds vs → ∀ Q, CE' X.K G M H P Q → r vs H Q) : BC X f ds M P := ⟨r, hr, h⟩
theorem one_inv {K : PySem.W.Frag} {G : Hp} {d : Dat} {vs : List V} (h : DenL K G [d] vs) : ∃ v, vs = [v] ∧ Den K G d v := by
  obtain ⟨v, r, rfl, d1, t⟩ := h.cons_inv
  rw [t.nil_inv]; exact ⟨v, rfl, d1⟩
theorem two_inv {K : PySem.W.Frag} {G : Hp} {d e : Dat} {vs : List V} (h : DenL K G [d, e] vs) : ∃ v u, vs = [v, u] ∧ Den K G d v ∧ Den K G e u := by
  obtain ⟨v, r, rfl, d1, t⟩ := h.cons_inv
  obtain ⟨u, rfl, d2⟩ := one_inv t
  exact ⟨v, u, rfl, d1, d2⟩
theorem c_len_lst {ds : List Dat} (h : P (.int ds.length) M) : BC X (.builtin "len") [.lst ds] M P := bc_of call_len_seq fun G H vs hH dv Q hP => by
  obtain ⟨v, rfl, d⟩ := one_inv dv
  obtain ⟨p, us, rfl, g, dl⟩ := d.lst_inv
  exact ⟨p, us, rfl, .inl (SqL.of (hH.sub _ _ g)), by rw [dl.length]; exact hP _ _ _ _ _ h Stp.refl hH den_int⟩
theorem c_len_tup {ds : List Dat} (h : P (.int ds.length) M) : BC X (.builtin "len") [.tup ds] M P := bc_of call_len_seq fun G H vs hH dv Q hP => by
  obtain ⟨v, rfl, d⟩ := one_inv dv
  obtain ⟨p, us, rfl, g, dl⟩ := d.tup_inv
  exact ⟨p, us, rfl, .inr (SqT.of (hH.sub _ _ g)), by rw [dl.length]; exact hP _ _ _ _ _ h Stp.refl hH den_int⟩
theorem c_len_cell {p : Addr} {ds : List Dat} (hm : (p, MC.lst ds) ∈ M) (h : P (.int ds.length) M) : BC X (.builtin "len") [.raw (.ref p)] M P := bc_of call_len_seq fun G H vs hH dv Q hP => by
  obtain ⟨v, rfl, d⟩ := one_inv dv
  obtain ⟨us, g, dl⟩ := hH.mem _ hm
  exact ⟨p, us, by rw [d.raw_inv], .inl (SqL.of g), by rw [dl.length]; exact hP _ _ _ _ _ h Stp.refl hH den_int⟩
theorem c_len_scr {ns : List Int} (h : P (.int ns.length) M) : BC X (.builtin "len") [.scr ns] M P := bc_of call_len_seq fun G H vs hH dv Q hP => by
  obtain ⟨v, rfl, d⟩ := one_inv dv
  obtain ⟨p, rfl, g⟩ := d.scr_inv
  exact ⟨p, _, rfl, .inl (hH.sub.seq g), by rw [List.length_map]; exact hP _ _ _ _ _ h Stp.refl hH den_int⟩
theorem c_len_str {z : Str} (hl : z.length ≤ sizeLine) (h : P (.int z.length) M) : BC X (.builtin "len") [.str z] M P := bc_of call_len_str fun G H vs hH dv Q hP => by
  obtain ⟨v, rfl, d⟩ := one_inv dv
  exact ⟨z, by rw [d.str_inv], hl, hP _ _ _ _ _ h Stp.refl hH den_int⟩
theorem c_int_i {i : Int} (h : P (.int i) M) : BC X (.type "int") [.int i] M P := bc_of call_int1 fun G H vs hH dv Q hP => by
  obtain ⟨v, rfl, d⟩ := one_inv dv
  exact .inl ⟨i, by rw [d.int_inv], hP _ _ _ _ _ h Stp.refl hH den_int⟩
theorem c_int_b {k : Bool} (h : P (.int (if k then 1 else 0)) M) : BC X (.type "int") [.bl k] M P := bc_of call_int1 fun G H vs hH dv Q hP => by
  obtain ⟨v, rfl, d⟩ := one_inv dv
  exact .inr ⟨k, by rw [d.bl_inv], hP _ _ _ _ _ h Stp.refl hH den_int⟩
theorem c_min {i j : Int} (hc : X.calm = true) (h : P (.int (if j < i then j else i)) M) : BC X (.builtin "min") [.int i, .int j] M P := bc_of (call_min2 hc) fun G H vs hH dv Q hP => by
  obtain ⟨v, u, rfl, d1, d2⟩ := two_inv dv
  exact ⟨i, j, by rw [d1.int_inv, d2.int_inv], hP _ _ _ _ _ h Stp.refl hH den_int⟩
theorem c_max {i j : Int} (hc : X.calm = true) (h : P (.int (if j > i then j else i)) M) : BC X (.builtin "max") [.int i, .int j] M P := bc_of (call_max2 hc) fun G H vs hH dv Q hP => by
  obtain ⟨v, u, rfl, d1, d2⟩ := two_inv dv
  exact ⟨i, j, by rw [d1.int_inv, d2.int_inv], hP _ _ _ _ _ h Stp.refl hH den_int⟩
theorem c_sum {ns : List Int} {ds : List Dat} (hc : X.calm = true) (e : ds = ns.map Dat.int) (h : P (.int ns.sum) M) : BC X (.builtin "sum") [.lst ds] M P := bc_of (cr_sum hc) fun G H vs hH dv Q hP => by
  subst e
  obtain ⟨v, rfl, d⟩ := one_inv dv
  obtain ⟨p, us, rfl, g, dl⟩ := d.lst_inv
  rw [dl.ints] at g
  exact ⟨p, ns, rfl, SqL.of (hH.sub _ _ g), hP _ _ _ _ _ h Stp.refl hH den_int⟩
theorem c_list_lst {ds : List Dat} (h : P (.lst ds) M) : BC X (.type "list") [.lst ds] M P := bc_of call_list_of fun G H vs hH dv Q hP => by
  obtain ⟨v, rfl, d⟩ := one_inv dv
  obtain ⟨p, us, rfl, g, dl⟩ := d.lst_inv
  refine ⟨p, us, rfl, .inl (SqL.of (hH.sub _ _ g)), fun r hr => ?_⟩
  obtain ⟨s2, h2⟩ := Stp.new (o := .lst us) hH hr
  exact hP _ _ _ _ _ h s2 h2 (den_lst upd_same (dl.up s2.gg))
theorem c_list_cell {p : Addr} {ds : List Dat} (hm : (p, MC.lst ds) ∈ M) (h : P (.lst ds) M) : BC X (.type "list") [.raw (.ref p)] M P := bc_of call_list_of fun G H vs hH dv Q hP => by
  obtain ⟨v, rfl, d⟩ := one_inv dv
  obtain ⟨us, g, dl⟩ := hH.mem _ hm
  refine ⟨p, us, by rw [d.raw_inv], .inl (SqL.of g), fun r hr => ?_⟩
  obtain ⟨s2, h2⟩ := Stp.new (o := .lst us) hH hr
  exact hP _ _ _ _ _ h s2 h2 (den_lst upd_same (dl.up s2.gg))
theorem c_list_tup {ds : List Dat} (h : P (.lst ds) M) : BC X (.type "list") [.tup ds] M P := bc_of call_list_of fun G H vs hH dv Q hP => by
  obtain ⟨v, rfl, d⟩ := one_inv dv
  obtain ⟨p, us, rfl, g, dl⟩ := d.tup_inv
  refine ⟨p, us, rfl, .inr (SqT.of (hH.sub _ _ g)), fun r hr => ?_⟩
  obtain ⟨s2, h2⟩ := Stp.new (o := .lst us) hH hr
  exact hP _ _ _ _ _ h s2 h2 (den_lst upd_same (dl.up s2.gg))
theorem c_tuple_lst {ds : List Dat} (h : P (.tup ds) M) : BC X (.type "tuple") [.lst ds] M P := bc_of call_tuple_of fun G H vs hH dv Q hP => by
  obtain ⟨v, rfl, d⟩ := one_inv dv
  obtain ⟨p, us, rfl, g, dl⟩ := d.lst_inv
  refine ⟨p, us, rfl, .inl ⟨SqL.of (hH.sub _ _ g), fun r hr => ?_⟩⟩
  obtain ⟨s2, h2⟩ := Stp.new (o := .tup us) hH hr
  exact hP _ _ _ _ _ h s2 h2 (den_tup upd_same (dl.up s2.gg))
/-! isinstance -/
structure ICls (K : PySem.W.Frag) (C : Addr) : Prop where
  cl : Cls K C
  ha : PySem.W.findIn K (.ref C) "__class__" = some (some (.builtin "object.__class__"))
  hn : PySem.W.specialIn K (.builtin "object.__class__") "__get__" = some (some (.builtin "getset_descriptor.__get__"))
  tk : PySem.W.takesIn K (.builtin "object.__class__") = some true
  mr : PySem.W.mroIn K C (.type "object") = some true
/-- the type of a datum -/
inductive TyD (K : PySem.W.Frag) (M : Mem) : Dat → Value → Prop
  | non : TyD K M .non (.type "NoneType")
  | bl {k : Bool} : TyD K M (.bl k) (.type "bool")
  | int {i : Int} : TyD K M (.int i) (.type "int")
  | str {s : Str} : TyD K M (.str s) (.type "str")
  | lst {ds : List Dat} : TyD K M (.lst ds) (.type "list")
  | tup {ds : List Dat} : TyD K M (.tup ds) (.type "tuple")
  | dic0 : TyD K M .dic0 (.type "dict")
  | «at» {a : Addr} {d : Dat} {t : Value} (h : TyD K M d t) : TyD K M (.at a d) t
  | obj {C : Addr} {ns : List Str} {ds : List Dat} (h : ICls K C) : TyD K M (.obj C ns ds) (.ref C)
  | cellL {p : Addr} {ds : List Dat} (h : (p, MC.lst ds) ∈ M) : TyD K M (.raw (.ref p)) (.type "list")
  | cellI {p C dx : Addr} {fs : List (Str × Dat)} (h : (p, MC.ins C dx fs) ∈ M) (hc : ICls K C) : TyD K M (.raw (.ref p)) (.ref C)
theorem tyD_ok {K : PySem.W.Frag} {G H : Hp} {d : Dat} {t : Value} {v : V} (h : TyD K M d t) (hH : Hst K G M H) (dv : Den K G d v) : TyX K H v t := by
  induction h generalizing v with
  | «at» h ih => exact ih dv.at_inv.2
  | non => rw [dv.non_inv]; exact .base .non
  | bl => rw [dv.bl_inv]; exact .base (.bl _)
  | int => rw [dv.int_inv]; exact .base (.int _)
  | str => rw [dv.str_inv]; exact .base (.str _)
  | lst => obtain ⟨p, vs, rfl, g, _⟩ := dv.lst_inv; exact .base (.lst (hH.sub _ _ g))
  | tup => obtain ⟨p, vs, rfl, g, _⟩ := dv.tup_inv; exact .base (.tup (hH.sub _ _ g))
  | dic0 => obtain ⟨p, rfl, g⟩ := dv.dic0_inv; exact .base (.dK (hH.sub _ _ g))
  | obj h => obtain ⟨p, dx, vs, rfl, g, _⟩ := dv.obj_inv; exact .base (.ins (hH.sub _ _ g) h.cl h.ha h.hn h.tk h.mr)
  | cellL h => obtain ⟨vs, g, _⟩ := hH.mem _ h; rw [dv.raw_inv]; exact .base (.lst g)
  | cellI h hc => obtain ⟨vs, g, _⟩ := hH.mem _ h; rw [dv.raw_inv]; exact .base (.ins g hc.cl hc.ha hc.hn hc.tk hc.mr)
theorem c_isi {d : Dat} {cv : V} {t u : Value} {k : Bool} (hc : ClsV cv u) (ht : TyD X.K M d t) (hk : PySem.W.kitOne X.K t u = some k) (h : P (.bl k) M) : BC X (.builtin "isinstance") [d, .raw cv] M P := bc_of call_isi fun G H vs hH dv Q hP => by
  obtain ⟨v, w, rfl, d1, d2⟩ := two_inv dv
  rw [d2.raw_inv]
  exact ⟨v, cv, t, u, k, rfl, hc, tyD_ok ht hH d1, hk, hP _ _ _ _ _ h Stp.refl hH den_bl⟩

/-! ### data compared -/
mutual
def toPy : Dat → Option PyData
  | .non => some .none
  | .bl b => some (.bool b)
  | .int i => some (.int i)
  | .str s => some (.str s)
  | .lst xs => (toPyL xs).map PyData.list
  | .tup xs => (toPyL xs).map PyData.tuple
  | _ => none
def toPyL : List Dat → Option (List PyData)
  | [] => some []
  | d :: ds => (toPy d).bind fun x => (toPyL ds).map fun xs => x :: xs
end
mutual
theorem toPy_dp {K : PySem.W.Frag} {G H : Hp} (hs : Same G H) : ∀ (d : Dat) (v : V) (x : PyData), Den K G d v → toPy d = some x → Dp K H v x
  | .non, v, x, h, e => by rw [h.non_inv]; simp only [toPy, Option.some.injEq] at e; subst e; exact .non
  | .bl b, v, x, h, e => by rw [h.bl_inv]; simp only [toPy, Option.some.injEq] at e; subst e; exact .bl b
  | .int i, v, x, h, e => by rw [h.int_inv]; simp only [toPy, Option.some.injEq] at e; subst e; exact .int i
  | .str s, v, x, h, e => by rw [h.str_inv]; simp only [toPy, Option.some.injEq] at e; subst e; exact .str s
  | .lst ds, v, x, h, e => by
    obtain ⟨p, vs, rfl, g, dl⟩ := h.lst_inv
    simp only [toPy, Option.map_eq_some_iff] at e
    obtain ⟨xs, e1, rfl⟩ := e
    exact .lst (SqL.of (hs _ _ g)) (toPyL_dp hs ds vs xs dl e1)
  | .tup ds, v, x, h, e => by
    obtain ⟨p, vs, rfl, g, dl⟩ := h.tup_inv
    simp only [toPy, Option.map_eq_some_iff] at e
    obtain ⟨xs, e1, rfl⟩ := e
    exact .tup (SqT.of (hs _ _ g)) (toPyL_dp hs ds vs xs dl e1)
  | .raw _, _, _, _, e => by simp [toPy] at e
  | .dic0, _, _, _, e => by simp [toPy] at e
  | .scr _, _, _, _, e => by simp [toPy] at e
  | .obj _ _ _, _, _, _, e => by simp [toPy] at e
theorem toPyL_dp {K : PySem.W.Frag} {G H : Hp} (hs : Same G H) : ∀ (ds : List Dat) (vs : List V) (xs : List PyData), DenL K G ds vs → toPyL ds = some xs → DpAll K H vs xs
  | [], vs, xs, h, e => by rw [h.nil_inv]; simp only [toPyL, Option.some.injEq] at e; subst e; exact .nil
  | d :: ds, vs, xs, h, e => by
    obtain ⟨v, r, rfl, d1, t⟩ := h.cons_inv
    simp only [toPyL, Option.bind_eq_some_iff, Option.map_eq_some_iff] at e
    obtain ⟨x, e1, ys, e2, rfl⟩ := e
    exact .cons (toPy_dp hs d v x d1 e1) (toPyL_dp hs ds r ys t e2)
end
theorem o_eqD {x y : Dat} {d f : PyData} (hx : toPy x = some d) (hy : toPy y = some f) (sd : SeqAt.shaped d = true) (sf : SeqAt.shaped f = true) (hu : X.A.units + 64 < cLine) (h : P (.bl (PyData.eqv d f)) M) : OP X T (compareOp .Eq) x y M P :=
  op_of (op_eqD hu) fun G H v u hH dx dy Q hP => ⟨d, f, toPy_dp hH.sub x v d dx hx, toPy_dp hH.sub y u f dy hy, sd, sf, hP _ _ _ _ _ h Stp.refl hH den_bl⟩
theorem o_neD {x y : Dat} {d f : PyData} (hx : toPy x = some d) (hy : toPy y = some f) (sd : SeqAt.shaped d = true) (sf : SeqAt.shaped f = true) (hu : X.A.units + 64 < cLine) (h : P (.bl (!PyData.eqv d f)) M) : OP X T (compareOp .NotEq) x y M P :=
  op_of (op_neD hu) fun G H v u hH dx dy Q hP => ⟨d, f, toPy_dp hH.sub x v d dx hx, toPy_dp hH.sub y u f dy hy, sd, sf, hP _ _ _ _ _ h Stp.refl hH den_bl⟩
end
end Kh

set_option Elab.async false
set_option linter.all false
set_option maxRecDepth 100000
set_option maxHeartbeats 1000000
namespace Kh
open PySem PySem.Spec L2
section
variable {X : Cx} {T : Bool} {τ : TEnv} {M : Mem} {P : PK'} {E : XKx} {e a b c o value : Expr} {es : List Expr} {pos pos' apos tpos : Pos} {R : RK} {rest : List Stmt} {x : Str}
/-! ### cells written -/
theorem adr_split {A B : Mem} {c c' : Addr × MC} (h : adr1 c = adr1 c') : adr (A ++ c :: B) = adr (A ++ c' :: B) := by
  rw [adr_append, adr_append]
  show adr A ++ (adr1 c ++ adr B) = adr A ++ (adr1 c' ++ adr B)
  rw [h]
/-- the cell at p gets another content of the same addresses: H2 differs from H at p alone -/
theorem cell_put {K : PySem.W.Frag} {G H H2 : Hp} {A B : Mem} {p : Addr} {c c' : MC} (h : Hst K G (A ++ (p, c) :: B) H) (hc : adr1 (p, c) = adr1 (p, c')) (hp : p ∈ adr1 (p, c)) (hk : ∀ q, q ≠ p → H2 q = H q) (hn : MH K G H2 (p, c')) :
    Stp G (A ++ (p, c) :: B) H G (A ++ (p, c') :: B) H2 ∧ Hst K G (A ++ (p, c') :: B) H2 := by
  have ea : adr (A ++ (p, c) :: B) = adr (A ++ (p, c') :: B) := adr_split hc
  have hpm : p ∈ adr (A ++ (p, c) :: B) := by rw [adr_append]; exact List.mem_append_right _ (List.mem_append_left _ hp)
  have nd := h.nd
  rw [adr_append] at nd
  obtain ⟨_, nb, nab⟩ := List.nodup_append.mp nd
  have nb' : (adr1 (p, c) ++ adr B).Nodup := nb
  obtain ⟨_, _, ncb⟩ := List.nodup_append.mp nb'
  have other : ∀ d ∈ A ++ B, ∀ q ∈ adr1 d, q ≠ p := fun d hd q hq e => by
    rcases List.mem_append.mp hd with z | z
    · exact nab q (List.mem_flatMap.mpr ⟨d, z, hq⟩) p (List.mem_append_left _ hp) e
    · exact ncb p hp q (List.mem_flatMap.mpr ⟨d, z, hq⟩) e.symm
  refine ⟨⟨Same.refl _, fun q o n e => by rw [hk q (fun z => n (by rw [z]; exact hpm))]; exact e, fun _ _ _ g => g, fun q hq => .inl (by rw [ea]; exact hq)⟩, fun q o e => ?_, fun d hd => ?_, fun q hq => h.out q (by rw [ea]; exact hq), by rw [← ea]; exact h.nd⟩
  · have : q ≠ p := fun z => by rw [z, h.out p hpm] at e; cases e
    rw [hk q this]; exact h.sub q o e
  · rcases List.mem_append.mp hd with z | z
    · exact (h.mem d (List.mem_append_left _ z)).up (Same.refl _) fun q hq o e => by rw [hk q (other d (List.mem_append_left _ z) q hq)]; exact e
    · rcases List.mem_cons.mp z with rfl | z
      · exact hn
      · exact (h.mem d (List.mem_append_right _ (List.mem_cons_of_mem _ z))).up (Same.refl _) fun q hq o e => by rw [hk q (other d (List.mem_append_right _ z) q hq)]; exact e
/-- M with the cell of p put anew -/
def putC (p : Addr) (c' : MC) : Mem → Mem
  | [] => []
  | (q, c) :: M => if q = p then (p, c') :: M else (q, c) :: putC p c' M
theorem putC_split {p : Addr} {c c' : MC} : ∀ {M : Mem}, (p, c) ∈ M → ∃ A B, M = A ++ (p, (M.lookup p).getD c) :: B ∧ putC p c' M = A ++ (p, c') :: B
  | (q, d) :: M, h => by
    by_cases e : q = p
    · subst e
      exact ⟨[], M, by simp [List.lookup], by simp [putC]⟩
    · have hm : (p, c) ∈ M := by
        rcases List.mem_cons.mp h with z | z
        · cases z; exact absurd rfl e
        · exact z
      obtain ⟨A, B, h1, h2⟩ := putC_split (c' := c') hm
      have el : (List.lookup p ((q, d) :: M)) = List.lookup p M := by
        rw [List.lookup_cons, show (p == q) = false from by simpa using fun z => e z.symm]
      refine ⟨(q, d) :: A, B, ?_, ?_⟩
      · rw [el, List.cons_append, ← h1]
      · show (if q = p then _ else (q, d) :: putC p c' M) = _
        rw [if_neg e, h2]; rfl
theorem nodup_cell {K : PySem.W.Frag} {G H : Hp} {p : Addr} {c : MC} (h : Hst K G M H) (hm : (p, c) ∈ M) : M.lookup p = some c := by
  have nd := h.nd
  clear h
  induction M with
  | nil => cases hm
  | cons q M ih =>
    obtain ⟨q, d⟩ := q
    have hq : q ∈ adr1 (q, d) := by cases d <;> simp [adr1]
    have nd' : (adr1 (q, d) ++ adr M).Nodup := nd
    obtain ⟨_, n2, n3⟩ := List.nodup_append.mp nd'
    rw [List.lookup_cons]
    rcases List.mem_cons.mp hm with z | z
    · cases z; simp
    · have hp : p ∈ adr M := List.mem_flatMap.mpr ⟨_, z, by cases c <;> simp [adr1]⟩
      have : (p == q) = false := by
        cases e : p == q with
        | false => rfl
        | true =>
          have e' : p = q := by simpa using e
          exact absurd e'.symm (fun z => n3 q hq p hp z)
      rw [this]
      exact ih z n2
theorem put_ok {K : PySem.W.Frag} {G H H2 : Hp} {p : Addr} {c c' : MC} (h : Hst K G M H) (hm : (p, c) ∈ M) (hc : adr1 (p, c) = adr1 (p, c')) (hk : ∀ q, q ≠ p → H2 q = H q) (hn : MH K G H2 (p, c')) :
    Stp G M H G (putC p c' M) H2 ∧ Hst K G (putC p c' M) H2 := by
  obtain ⟨A, B, h1, h2⟩ := putC_split (c' := c') hm
  rw [nodup_cell h hm] at h1
  have h1 : M = A ++ (p, c) :: B := h1
  rw [h2]
  rw [h1] at h ⊢
  exact cell_put h hc (by cases c <;> simp [adr1]) hk hn

/-! ### methods of built-in types -/
inductive TyB (K : PySem.W.Frag) (M : Mem) : Dat → String → Prop
  | str {s : Str} : TyB K M (.str s) "str"
  | int {i : Int} : TyB K M (.int i) "int"
  | lst {ds : List Dat} : TyB K M (.lst ds) "list"
  | scr {ns : List Int} : TyB K M (.scr ns) "list"
  | cell {p : Addr} {ds : List Dat} (h : (p, MC.lst ds) ∈ M) : TyB K M (.raw (.ref p)) "list"
  | dcell {p : Addr} {kvs : List (Key × Dat)} (h : (p, MC.dic kvs) ∈ M) : TyB K M (.raw (.ref p)) "dict"
theorem tyB_ok {K : PySem.W.Frag} {G H : Hp} {d : Dat} {t : String} {v : V} (h : TyB K M d t) (hH : Hst K G M H) (dv : Den K G d v) : tyV K t v H := by
  cases h with
  | str => rw [dv.str_inv]; rfl
  | int => rw [dv.int_inv]; rfl
  | lst => obtain ⟨p, vs, rfl, g, _⟩ := dv.lst_inv; exact .inl ⟨rfl, vs, SqL.of (hH.sub _ _ g)⟩
  | scr => obtain ⟨p, rfl, g⟩ := dv.scr_inv; exact .inl ⟨rfl, _, hH.sub.seq g⟩
  | cell h => obtain ⟨vs, g, _⟩ := hH.mem _ h; rw [dv.raw_inv]; exact .inl ⟨rfl, vs, SqL.of g⟩
  | dcell h => obtain ⟨vs, g, _⟩ := hH.mem _ h; rw [dv.raw_inv]; exact .inr (.inr (.inl ⟨rfl, .inl ⟨vs, g⟩⟩))
/-- a built-in method of d, called with ds -/
def BMr (X : Cx) (id : String) (d : Dat) (ds : List Dat) (M : Mem) (P : PK') : Prop :=
  ∃ r, MtR X id r ∧ ∀ G H v vs, Hst X.K G M H → Den X.K G d v → DenL X.K G ds vs → ∀ Q, CE' X.K G M H P Q → r v vs H Q
theorem ex_bm {name : Str} {t id : String} (pa : PlainAttrs t) (slot : Slot t name id) (hty : typeOf (.builtin id) = pure (.type "method_descriptor"))
    (h : EX X T o τ M (fun d M1 => TyB X.K M1 d t ∧ EA X T (e :: es) τ M1 (fun ds M2 => BMr X id d ds M2 P) E) E)
    (hbase : attributeBase o name X.env (eval o X.env) = eval o X.env := by rfl)
    (hfew : ((backTo tpos (starEach (e :: es) X.env)).all (fun x => !x.1) && (backToKw tpos (keywordEach [] X.env)).all (fun x => x.1.isSome) && decide ((e :: es).length + ([] : List Keyword).length + (if ([] : List Keyword).isEmpty then 0 else 1) < 30)) = true := by rfl)
    (hline : (apos.endLine == tpos.line) = true := by rfl) (hs : starEach (e :: es) X.env = (false, eval e X.env) :: starEach es X.env := by rfl) (hplain : (backTo tpos (starEach es X.env)).any (·.1) = false := by rfl) :
    EX X T (.Call (.Attribute o name apos) (e :: es) [] tpos) τ M P E := by
  refine .mk ?_; intro W tk σ G H hE hH Q hP hX pins s k I
  have hA := h.run W tk σ G H hE hH (fun v H1 => tyV X.K t v H1 ∧ tWA X T (e :: es) σ H1 fun vs H2 => ∃ r, MtR X id r ∧ r v vs H2 Q) (fun d M1 v G1 H1 ⟨ht, hb⟩ s1 h1 dv =>
    ⟨tyB_ok ht h1 dv, hb.run W tk σ G1 H1 (hE.up s1.gg) h1 _ (fun ds M2 vs G2 H2 ⟨r, hr, hq⟩ s2 h2 dvs => ⟨r, hr, hq G2 H2 v vs h2 (dv.up s2.gg) dvs Q (hP.step (s1.trans s2))⟩) (hX.step s1)⟩) hX
  refine wpAny_Call_method_late hbase hfew hline rfl (thnT k (hA pins s k I) fun v s1 k1 ⟨x, H1, I1, r1, ty, q1⟩ => ?_)
  obtain ⟨h1, h2⟩ := tyV_is I1 r1 ty
  refine ⟨t, id, pa, slot, hty, h1, h2, ?_⟩
  have hA := q1 tpos pins s1 k1 I1
  rw [hs] at hA ⊢
  refine Calls.callWith_builtin (by show (false || (backTo tpos (starEach es X.env)).any (·.1)) = false; rw [hplain] <;> rfl) (Calls.evalArgs_plain ?_)
  exact thn hA fun us s2 ⟨vs, H2, I2, r2, r, hr, q2⟩ => hr pins s2 σ H2 x vs v us Q I2 r1 r2 q2
theorem ex_bm0 {name : Str} {t id : String} (pa : PlainAttrs t) (slot : Slot t name id) (hty : typeOf (.builtin id) = pure (.type "method_descriptor"))
    (h : EX X T o τ M (fun d M1 => TyB X.K M1 d t ∧ BMr X id d [] M1 P) E)
    (hbase : attributeBase o name X.env (eval o X.env) = eval o X.env := by rfl) (hline : (apos.endLine == tpos.line) = true := by rfl) :
    EX X T (.Call (.Attribute o name apos) [] [] tpos) τ M P E := by
  refine .mk ?_; intro W tk σ G H hE hH Q hP hX pins s k I
  have hA := h.run W tk σ G H hE hH (fun v H1 => tyV X.K t v H1 ∧ ∃ r, MtR X id r ∧ r v [] H1 Q) (fun d M1 v G1 H1 ⟨ht, r, hr, hq⟩ s1 h1 dv =>
    ⟨tyB_ok ht h1 dv, r, hr, hq G1 H1 v [] h1 dv .nil Q (hP.step s1)⟩) hX
  refine wpAny_Call_method0_late hbase hline (thnT k (hA pins s k I) fun v s1 k1 ⟨x, H1, I1, r1, ty, r, hr, q1⟩ => ?_)
  obtain ⟨h1, h2⟩ := tyV_is I1 r1 ty
  exact ⟨t, id, pa, slot, hty, h1, h2, Calls.callWith_builtin rfl (PySem.evalArgs_none (hr pins s1 σ H1 x [] v [] Q I1 r1 .nil q1))⟩
/-- xs.append(y), xs a cell -/
theorem b_append {q : Addr} {ds : List Dat} {y : Dat} (hm : (q, MC.lst ds) ∈ M) (hl : ds.length < sizeLine) (h : P .non (putC q (.lst (ds ++ [y])) M)) : BMr X "list.append" (.raw (.ref q)) [y] M P := by
  refine ⟨rAppend, mt_append, fun G H v vs hH dv dvs Q hP => ?_⟩
  obtain ⟨u, r, rfl, du, t⟩ := dvs.cons_inv
  obtain rfl := t.nil_inv
  obtain ⟨xs, g, dx⟩ := hH.mem _ hm
  rw [dv.raw_inv]
  obtain ⟨s2, h2⟩ := put_ok (c' := .lst (ds ++ [y])) (H2 := upd H q (.lst (xs ++ [u]))) hH hm rfl (fun b hb => upd_ne hb) ⟨_, upd_same, dx.snoc du⟩
  exact ⟨q, xs, u, rfl, rfl, g, by rw [dx.length]; exact hl, hP _ _ _ _ _ h s2 h2 den_non⟩
theorem ex_append (h : EX X T o τ M (fun d M1 => TyB X.K M1 d "list" ∧ EA X T (e :: es) τ M1 (fun ds M2 => BMr X "list.append" d ds M2 P) E) E)
    (hbase : attributeBase o "append" X.env (eval o X.env) = eval o X.env := by rfl)
    (hfew : ((backTo tpos (starEach (e :: es) X.env)).all (fun x => !x.1) && (backToKw tpos (keywordEach [] X.env)).all (fun x => x.1.isSome) && decide ((e :: es).length + ([] : List Keyword).length + (if ([] : List Keyword).isEmpty then 0 else 1) < 30)) = true := by rfl)
    (hline : (apos.endLine == tpos.line) = true := by rfl) (hs : starEach (e :: es) X.env = (false, eval e X.env) :: starEach es X.env := by rfl) (hplain : (backTo tpos (starEach es X.env)).any (·.1) = false := by rfl) :
    EX X T (.Call (.Attribute o "append" apos) (e :: es) [] tpos) τ M P E := ex_bm PySem.F.plainAttrs_list PySem.F.slot_list_append PySem.F.type_list_append h hbase hfew hline hs hplain
/-! ### o[i] = v -/
theorem ixN_len {xs ys : List α} (h : xs.length = ys.length) : ixN xs.length = ixN ys.length := by rw [h]
theorem gx_sub {i : Expr} {d : Dat} {P : TEnv → Mem → Prop} (h : EX X false o τ M (fun od M1 => EX X false i τ M1 (fun id M2 => ∃ q ds k j, od = .raw (.ref q) ∧ id = .int k ∧ (q, MC.lst ds) ∈ M2 ∧ ixN ds.length k = some j ∧ P τ (putC q (.lst (ds.set j d)) M2)) E) E)
    (ha : ∀ v, assign (.Subscript o i pos) X.env v = (do
      let ov ← holding [v] (eval o X.env)
      let iv ← holding [v, ov] (eval i X.env)
      standAt pos
      holding [v, ov, iv] (setItem ov iv v)
      release [v, ov, iv] []) := by intro _; rfl) : GX X T (.Subscript o i pos) d τ M P E := .mk fun W tk σ G H v hE hH dv Q hP hX => by
  refine tWG_of (pg_sub (pe_W (e := o)) (pe_W (e := i)) set_list ha) ?_
  refine h.run W tk σ G H hE hH _ ?_ hX
  intro od M1 ov G1 H1 hi s1 h1 dov
  refine hi.run W tk σ G1 H1 (hE.up s1.gg) h1 _ ?_ (hX.step s1)
  rintro id M2 iv G2 H2 ⟨q, ds, k, j, rfl, rfl, hm, hj, hp⟩ s2 h2 div
  obtain ⟨xs, g, dx⟩ := h2.mem _ hm
  obtain ⟨s3, h3⟩ := put_ok (c' := .lst (ds.set j d)) (H2 := upd H2 q (.lst (xs.set j v))) h2 hm rfl (fun b hb => upd_ne hb) ⟨_, upd_same, dx.set (dv.up (s1.trans s2).gg) j⟩
  exact ⟨q, xs, k, j, (dov.up s2.gg).raw_inv, div.int_inv, g, by rw [dx.length]; exact hj, hP _ _ _ _ _ hp ((s1.trans s2).trans s3) h3 ((hE.up (s1.trans s2).gg).up s3.gg)⟩
/-! ### a new list that may change -/
theorem ex_lstC (h : EA X T es τ M (fun ds M1 => ds.length ≤ sizeLine ∧ ∀ q, q ∉ adr M1 → P (.raw (.ref q)) ((q, .lst ds) :: M1)) E) : EX X T (.List es pos) τ M P E := by
  refine .mk ?_; intro W tk σ G H hE hH Q hP hX
  refine v_lst ?_
  refine h.run W tk σ G H hE hH _ ?_ hX
  intro ds M1 vs G1 H1 ⟨hl, hp⟩ s1 h1 dvs
  refine ⟨by rw [dvs.length]; exact hl, fun p hp' => ?_⟩
  have nM : p ∉ adr M1 := fun z => h1.there p z hp'
  have ha : adr ((p, MC.lst ds) :: M1) = p :: adr M1 := rfl
  have kp : ∀ b o, H1 b = some o → (upd H1 p (.lst vs)) b = some o := fun b o e => by rw [upd_ne (ne_of_none e hp')]; exact e
  refine hP _ _ _ _ _ (hp p nM) (s1.trans ⟨Same.refl _, fun b o _ e => kp b o e, fun _ _ _ g => g, fun b hb => ?_⟩) ⟨fun b o e => kp b o (h1.sub b o e), fun c hc => ?_, fun b hb => ?_, ?_⟩ den_raw
  · rw [ha] at hb
    rcases List.mem_cons.mp hb with rfl | hb
    · exact .inr hp'
    · exact .inl hb
  · rcases List.mem_cons.mp hc with rfl | hc
    · exact ⟨vs, upd_same, dvs⟩
    · exact (h1.mem c hc).up (Same.refl _) fun b hb o e => kp b o e
  · rw [ha] at hb
    rcases List.mem_cons.mp hb with rfl | hb
    · exact h1.sub.free hp'
    · exact h1.out b hb
  · rw [ha]
    exact List.nodup_cons.mpr ⟨nM, h1.nd⟩
end
end Kh

set_option Elab.async false
set_option linter.all false
set_option maxRecDepth 100000
set_option maxHeartbeats 4000000
namespace Kh
open PySem PySem.Spec L2
open PySem.W PySem.Calls PyProof.Rows PySem.HandSPX

/-! ### an own exception class whose __init__ says super().__init__(v); self.f = v -/
abbrev supBody (ns f : Str) (p0 p1 p2 p3 p4 p5 p6 p7 p8 p9 : Pos) : List Stmt :=
  [.Expr (.Call (.Attribute (.Call (.Name "super" p0) [] [] p1) "__init__" p2) [.Name ns p3] [] p4) p5, .Assign [.Attribute (.Name "self" p6) f p7] (.Name ns p8) p9]
structure SupX (P : Program) (K : Frag) (C fI : Addr) (ns f : Str) : Prop where
  T : OexC K C
  iC : findIn K (.ref C) "__init__" = some (some (.ref fI))
  tI : typeIn K (.ref fI) = some (.type "function")
  nf : findIn K (.ref C) f = some none
  al : ks_superIn K C C "__init__" = some (some (.builtin "ValueError.__init__"))
  sV : subIn K (.ref C) (.type "ValueError") = some true
  sC : mroIn K C (.ref C) = some true
  op : nsIn K cStatics "thirdparty.any" = some none
  tp : (P.main.scope.names.lookup ("super" : Str)).isSome = false
  fn : ∃ (oc : Value) (od : Option Addr) (osl : Array (Option Value)) (name qual : Str) (params : Arguments) (scope : Scope) (dV kV doc pm : Value) (an : Option Addr) (cda : Addr) (ct : Value) (cc : Addr) (p0 p1 p2 p3 p4 p5 p6 p7 p8 p9 : Pos) (ar : Arg)
      (ccl : Value) (cdd : Option Addr) (vs : Array Value) (ccs : Array (Option Value)) (file : Str) (tf : Tok) (cl : Value) (cld : Option Addr) (csl : Array (Option Value)),
    K.lookup fI = some ⟨oc, od, .func (ksFn name qual params (supBody ns f p0 p1 p2 p3 p4 p5 p6 p7 p8 p9) scope dV kV doc pm an (.ref cda) ct cc), osl⟩ ∧ codeIn K (.ref cda) qual = true ∧
    (params.posonlyargs ++ params.args).head? = some ar ∧ ar.arg = "self" ∧ scope.kind = .function ∧ scope.isGenerator = false ∧ scope.isCoroutine = false ∧ (∀ x ∈ scope.names, x.2 ≠ .cell) ∧
    scope.names.lookup ("super" : Str) = some .globalImplicit ∧ scope.names.lookup ("__class__" : Str) = some .free ∧ scope.names.lookup ("self" : Str) = some .local ∧ scope.names.lookup ns = some .local ∧
    K.lookup cda = some ⟨ccl, cdd, .fields vs, ccs⟩ ∧ vs[2]? = some (.str file tf) ∧ ((P.main.file : Str) == file) = true ∧ K.lookup cc = some ⟨cl, cld, .cell (some (.ref C)), csl⟩ ∧
    Binds K (ksFn name qual params (supBody ns f p0 p1 p2 p3 p4 p5 p6 p7 p8 p9) scope dV kV doc pm an (.ref cda) ct cc) ["self", ns] [] ∧
    (∀ env : Env, ∃ pl : Sem Bool, eval (.Call (.Attribute (.Call (.Name "super" p0) [] [] p1) "__init__" p2) [.Name ns p3] [] p4) env = (do
      let ov ← attributeBase (.Call (.Name "super" p0) [] [] p1) "__init__" env (eval (.Call (.Name "super" p0) [] [] p1) env)
      standAt p2.atName
      let (f, first) ← holding [ov] (getMethod ov "__init__" pl)
      callWith p4 f first (backTo p4 (starEach [.Name ns p3] env)) []))
  ne : (ns == ("self" : Str)) = false
  nd : (ns == ("__debug__" : Str)) = false

section
variable {prog : Program} {w : World} {A : Around} {E : Value → Shared → Prop} {h : Heap} {g : Array GenState} {d : Drawn} {t : Nat} {os : OsState}
variable {nm q : Str} {C N : Addr} {bs bm : List Value} {hdct : Bool} {sn : List Str} {sub : List Value} {ab : Bool} {col : Option Bool} {dd : Option Addr} {k0 k1 k2 k3 k5 : Option Value}
theorem call_mw {u e t0 : Addr} {rest : List Value} {Q : Value → Shared → Prop}
    (hC : h.get? C = some (excClassObj nm q C N bs bm hdct sn sub ab col dd k0 k1 k2 k3 k5 "ValueError.__new__")) (he : h.get? e = some (HandSPX.excO C t0)) (hu : h.get? u = some (kxs_mw "ValueError.__init__" e)) (hrest : rest.length ≤ sizeLine)
    (hq : ∀ h' t1, (∀ b o, b ≠ e → h.get? b = some o → h'.get? b = some o) → h'.get? e = some (HandSPX.excO C t1) → Q .none ⟨h', g, d, t, os⟩) :
    wpAny (model prog w) A (call (.ref u) rest) Q E ⟨h, g, d, t, os⟩ := by
  refine wpAny_call (codeAny_of_tree ?_)
  show wpAny _ A.in1 (callAny (.ref u) ⟨rest, []⟩) _ _ _
  simp only [callAny]
  refine wpAny_bind (wpAny_load hu ?_)
  simp only [kxs_mw, show (Value.type "method-wrapper" == Value.type "method" || Value.type "method-wrapper" == Value.type "builtin_function_or_method" || Value.type "method-wrapper" == Value.type "method-wrapper") = true by decide, if_true]
  refine W.KFB.if_so (by decide) ?_
  refine wpAny_bind (check_bound_init F.excBase_ValueError.toExcCallFacts hC he rfl ?_)
  refine wpAny_bind (wpAny_pure (wpAny_pure ?_))
  refine ⟨Code.quiet_builtin _ (by decide +kernel), codeAny_builtin F.excBase_ValueError.initEntry ?_⟩
  rw [Around.under_plainId F.excBase_ValueError.init.plain _]
  wp_walk
  refine hq _ h.objs.size (fun b o hb ho => ?_) ?_
  · rw [Heap.get?_update_other _ _ (Ne.symm hb)]
    exact Heap.get?_push_of_some _ ho
  · rw [Heap.get?_update_self _ (Heap.get?_push_of_some _ he) rfl]
    rfl
end
/-- what __init__ leaves of a fresh exception at x -/
structure InitEnd (h h' : Heap) (x C dx t1 : Addr) (f : Str) (v : Value) : Prop where
  keep : ∀ b o, b ≠ x → h.get? b = some o → h'.get? b = some o
  obj : h'.get? x = some { cls := .ref C, dict := some dx, data := .fields #[.ref t1, .none, .none, .none, .bool false, .none] }
  dbig : h.objs.size ≤ dx
  dne : dx ≠ x
  ns : h'.Ns1 dx (fun y => if y = f then some v else none)
structure OwnMade (h h' : Heap) (e C d : Addr) (f : Str) (v : Value) : Prop where
  keep : ∀ b o, h.get? b = some o → h'.get? b = some o
  new : h.objs.size ≤ e
  obj : ∃ oe vs, h'.get? e = some oe ∧ oe.cls = .ref C ∧ oe.dict = some d ∧ oe.data = .fields vs ∧ vs[1]? = some .none
  dbig : h.objs.size ≤ d
  dne : d ≠ e
  ns : h'.Ns1 d (fun y => if y = f then some v else none)
section
variable {prog : Program} {w : World} {A : Around} {E : Value → Shared → Prop} {R : Result → Shared → Prop} {s : Shared} {K : Frag} {mg mb : Str → Option Value} {C fI : Addr} {ns f : Str}
theorem sup_init (T : SupX prog K C fI ns f) {x t0 : Addr} {v : Value} (X : K.In s.heap) (hlim : s.heap.NoLimit) (hx : s.heap.get? x = some (excO C t0)) (hnx : K.lookup x = none) (hroom : A.depth < recursionLimit)
    (hg : s.heap.Ns mainGlobals mg) (hm : mg "super" = none) (hb : s.heap.Ns builtinsNs mb) (hbs : mb "super" = bootBuiltins "super")
    (hq : ∀ h' tk dx t1, InitEnd s.heap h' x C dx t1 f v → R (.ok (.ret .none)) { s with heap := h', toks := tk }) :
    codeAny (model prog w) A (.call (.ref fI) ⟨[.ref x, v], []⟩) R s := by
  obtain ⟨oc, od, osl, name, qual, params, scope, dV, kV, doc, pm, an, cda, ct, cc, p0, p1, p2, p3, p4, p5, p6, p7, p8, p9, ar, ccl, cdd, vs, ccs, file, tf, cl, cld, csl, ho, hcd, hp, har, hk, hgen, hco, hcell, ks, kc, kse, kn, hcode, hvs, hfile, hcc, hbn, hev⟩ := T.fn
  obtain ⟨nm, q, N, bs, bm, sn, sub, ab, col, dd, k0, k1, k2, k3, k5, hC, hbm⟩ := T.T.cls
  have hcl : clsIn K C = some { name := nm, bases := bs, mro := .ref C :: bm, ns := N, qualname := q, hasDict := true, slotNames := sn, subclasses := sub, abstract := ab, collection := col, hasDel := false } := by unfold clsIn; rw [hC] <;> rfl
  refine ks_codeAny_call_defAt (fd := ksFn name qual params (supBody ns f p0 p1 p2 p3 p4 p5 p6 p7 p8 p9) scope dV kV doc pm an (.ref cda) ct cc) (binds := [("self", .ref x), (ns, v)]) hroom (X _ _ ho) rfl hlim (codeRec_of X hcd) rfl
    (hbn s [.ref x, v] X rfl) hcell (fun y hy => ?_) (fun h₁ hns k => ?_) hco hgen hk
  · rcases List.mem_cons.mp hy with rfl | hy
    · exact kse
    · rcases List.mem_cons.mp hy with rfl | hy
      · exact kn
      · cases hy
  have X₁ : K.In h₁ := X.keeps k
  have hx₁ := k _ _ hx
  have e1 : List.lookup ns ([(("self" : Str), Value.ref x), (ns, v)].reverse) = some v := by simp [List.lookup]
  have e2 : List.lookup ("self" : Str) ([(("self" : Str), Value.ref x), (ns, v)].reverse) = some (.ref x) := by
    have n2 : (("self" : Str) == ns) = false := by
      have := T.ne
      cases z : (("self" : Str) == ns) with
      | false => rfl
      | true =>
        have z2 : ("self" : Str) = ns := by simpa using z
        rw [← z2] at this
        simp at this
    show List.lookup ("self" : Str) [(ns, v), (("self" : Str), Value.ref x)] = _
    rw [List.lookup_cons, n2]
    simp [List.lookup]
  obtain ⟨hh, gs, dr, tk, os⟩ := s
  have I₁ : InstAt h₁ x (excO C t0) C none := ⟨hx₁, rfl, rfl, trivial⟩
  have hCd : clsIn K C = some _ := hcl
  have hxC : x ≠ C := fun z => by rw [z, hC] at hnx; cases hnx
  obtain ⟨pl, hev⟩ := hev (ksEnv qual scope hh.objs.size fI (.ref cda) cc)
  refine ks_wpAt_execs_cons (ks_wpAt_Expr_any (ks_wpAt_MethodCall ?_ hev) (by show (scope.kind == .module && _) = false; rw [hk]; rfl) (by rfl))
  refine ks_wpAt_super_base (env := ksEnv qual scope hh.objs.size fI (.ref cda) cc) ks kc (by decide) rfl (X₁ _ _ ho) rfl hp rfl (X₁ _ _ hcode) rfl hvs hfile T.tp ?_
  refine ks_loadName_global hk ks (loadGlobal_builtin (env := ksEnv qual scope hh.objs.size fI (.ref cda) cc) (hg.keeps k) hm (hb.keeps k) (hbs.trans Boot.«super») ⟨rfl, ?_⟩)
  refine wpAny_loadName_free hk kc rfl ⟨_, X₁ _ _ hcc, rfl⟩ ?_
  rw [har]
  refine wpAny_loadName_local hk kse hns e2 ?_
  refine ks_wpAny_isType_cls (X₁ _ _ hC) rfl ⟨rfl, ?_⟩
  refine ks_wpAny_call_super (X₁ _ _ hC) rfl hx₁ rfl (fun c e => by cases e) (looks_mroIn X₁ T.sC) (fun h₂ hso k₂ => ?_)
  have X₂ : K.In h₂ := X₁.keeps k₂
  have hx₂ := k₂ _ _ hx₁
  have I₂ : InstAt h₂ x (excO C t0) C none := ⟨hx₂, rfl, rfl, trivial⟩
  have al := T.al
  unfold ks_superIn at al
  rw [hcl] at al
  refine kxs_getMethod kxs_ValueError hso (looks_opaque X₂ T.op) (l₀ := .ref C :: bm) ?_ rfl X₂ al (I₂.type.andThen (looks_subIn X₂ T.sV)) hxC (by decide) ?_
  · exact fun A Q E s k q => wpAny_bind ((looks_clsIn X₂ hcl) A _ E s k (wpAny_pure q))
  refine kxs_callWith (i := "ValueError.__init__") (x := x) (by rfl) (Calls.evalArgs_plain (Calls.spliced_cons ?_))
  have k₃ : ∀ b o, h₂.get? b = some o → (h₂.push (kxs_mw "ValueError.__init__" x)).get? b = some o := fun b o e => Heap.get?_push_of_some _ e
  have hns₃ := (hns.keeps k₂).keeps k₃
  refine wpAny_Name (wpAny_loadName_local hk kn hns₃ e1 (Calls.spliced_nil ⟨Heap.get?_push_at rfl rfl, ?_⟩)) T.nd
  refine call_mw ((X₂.keeps k₃) _ _ hC) (k₃ _ _ hx₂) (Heap.get?_push_at rfl rfl) (by show 1 ≤ sizeLine; decide) (fun h₄ t1 k₄ hx₄ => ?_)
  have kk : ∀ b o, b ≠ x → h₁.get? b = some o → h₄.get? b = some o := fun b o nb e => k₄ b o nb (k₃ _ _ (k₂ _ _ e))
  have neL : hh.objs.size ≠ x := fun z => absurd (Heap.lt_size hx) (by rw [z]; exact Nat.lt_irrefl _)
  have hns₄ : h₄.Ns hh.objs.size (fun y => List.lookup y ([(("self" : Str), Value.ref x), (ns, v)].reverse)) := by
    obtain ⟨o, es, ep, a1, r⟩ := hns
    exact ⟨o, es, ep, kk _ _ neL a1, r⟩
  have X₄ : K.In h₄ := fun b o e => kk b o (fun z => by rw [z, hnx] at e; cases e) (X₁ _ _ e)
  refine ks_wpAt_execs_cons (ks_wpAt_Assign_Attr ?_ (by rfl))
  refine wpAt_of_wpAny (wpAny_Name (wpAny_loadName_local hk kn hns₄ e1 ?_) T.nd)
  refine wpAny_Name (wpAny_loadName_local hk kse hns₄ e2 ?_) (by decide)
  refine set_plain X₄ (ox := excO C t1) (od := none) ⟨hx₄, rfl, rfl, trivial⟩ T.T.sa ?_
  refine exc_osa X₄ hx₄ hcl (show refsVE (.ref C :: bm) = true from hbm) rfl T.nf (fun h₅ tk₅ dx k₅ dn dne hx₅ hn₅ => ?_)
  have z : hh.objs.size ≤ h₄.objs.size := by
    obtain ⟨o, es, ep, a1, r⟩ := hns₄
    exact Nat.le_of_lt (Heap.lt_size a1)
  refine wpAt_of_wpAny (wpAny_execs_nil (hq h₅ tk₅ dx t1 ⟨fun b o nb e => k₅ b o nb (kk b o nb (k b o e)), hx₅, Nat.le_trans z dn, dne, hn₅⟩))
theorem sup_made (T : SupX prog K C fI ns f) {v : Value} (X : K.In s.heap) (hlim : s.heap.NoLimit) (hroom : A.depth + 1 < recursionLimit)
    (hg : s.heap.Ns mainGlobals mg) (hm : mg "super" = none) (hb : s.heap.Ns builtinsNs mb) (hbs : mb "super" = bootBuiltins "super")
    (hq : ∀ h' tk e d, OwnMade s.heap h' e C d f v → R (.ok (.ret (.ref e))) { s with heap := h', toks := tk }) :
    codeAny (model prog w) A (.call (.ref C) ⟨[v], []⟩) R s := by
  obtain ⟨nm, q, N, bs, bm, sn, sub, ab, col, dd, k0, k1, k2, k3, k5, hC, hbm⟩ := T.T.cls
  obtain ⟨hp, gs, dr, tk, os⟩ := s
  have k : ∀ b o, hp.get? b = some o → ((hp.push (kdv_tup [v])).push (excO C hp.objs.size)).get? b = some o := fun b o e => Heap.get?_push_of_some _ (Heap.get?_push_of_some _ e)
  have hget : ((hp.push (kdv_tup [v])).push (excO C hp.objs.size)).get? (hp.objs.size + 1) = some (excO C hp.objs.size) := by heap_get
  have hnx : K.lookup (hp.objs.size + 1) = none := by
    cases e : K.lookup (hp.objs.size + 1) with
    | none => rfl
    | some o =>
      have z : hp.get? (hp.objs.size + 1) = some o := X _ _ e
      exact absurd (Nat.lt_of_succ_lt (Heap.lt_size z)) (Nat.lt_irrefl _)
  refine call_own F.excBase_ValueError (fun X => refsVE_contains X bm hbm) (X _ _ hC) (looks_findIn X T.iC) (fun self => bind_fn X self T.tI) (by show 1 ≤ sizeLine; decide) ?_
  refine sup_init (s := ⟨(hp.push (kdv_tup [v])).push (excO C hp.objs.size), gs, dr, tk, os⟩) T (X.keeps k) (hlim.keeps k) hget hnx ?_ (hg.keeps k) hm (hb.keeps k) hbs fun h' tk' dx t1 ⟨k', hx, dn, dne, hns⟩ => ?_
  · show A.depth + 1 < recursionLimit
    exact hroom
  · have old : ∀ b o, hp.get? b = some o → h'.get? b = some o := fun b o e => k' b o (Nat.ne_of_lt (Nat.lt_succ_of_lt (Heap.lt_size e))) (k b o e)
    have z : hp.objs.size + 1 + 1 ≤ dx := by
      first
        | (simpa only [Heap.size_push] using dn)
        | exact dn
        | (have q := dn; rw [Heap.size_push, Heap.size_push] at q; exact q)
    exact ⟨rfl, hq h' tk' (hp.objs.size + 1) dx ⟨old, Nat.le_succ _, ⟨_, _, hx, rfl, rfl, rfl, rfl⟩, Nat.le_trans (Nat.le_trans (Nat.le_succ _) (Nat.le_succ _)) z, dne, hns⟩⟩
end
end Kh
namespace Kh
open PySem PySem.Spec L2
theorem relO_one {f : Str} {v : V} {v' : Value} (r : RelV v v') (g : Str) : RelO (List.lookup g [(f, v)]) (if g = f then some v' else none) := by
  by_cases hw : g = f
  · subst hw
    rw [if_pos rfl]
    have q : List.lookup g [(g, v)] = some v := by simp [List.lookup]
    rw [q]
    exact r
  · rw [if_neg hw]
    have qw : (g == f) = false := by simpa using hw
    have q2 : List.lookup g [(f, v)] = none := by simp [List.lookup, qw]
    rw [q2]
    trivial
section
variable {X : Cx} {C fI : Addr} {ns f : Str}
/-- C(e) -/
def tMkS (C : Addr) (f : Str) (ta : TA) : L2.St → Hp → XK → Prop := fun σ H Q => ta σ H fun vs H1 => ∃ v, vs = [v] ∧ ∀ d, H1 d = none → Q (.ref C) (some d) (upd H1 d (.xd [(f, v)]))
theorem pmk_sup {a : Expr} {ta : TA} {x : Str} {p pos : Pos} {k : Nat} (T : SupX X.prog X.K C fI ns f) (gC : X.mg x = some (.ref C)) (hms : X.mg "super" = none) (hr : Room k X.A) (ha : PA X [a] ta) (hg : Gl X x) (hdb : (x == ("__debug__" : Str)) = false := by decide)
    (he : starEach (a :: []) X.env = (false, eval a X.env) :: starEach [] X.env := by rfl) (hpl : (backTo pos (starEach [] X.env)).any (·.1) = false := by rfl) :
    PMk X (.Call (.Name x p) [a] [] pos) (tMkS C f ta) := by
  intro pins s σ H Q I h
  refine wpAny_Call_Name_kw (ld_glob I hg gC ?_ hdb)
  refine PySem.W.callWith_K (h₀ := X.base) I.ok.mod.kin T.T.kC (thn (ha.run pos pins s σ H _ I h) fun us s1 hh => ?_) he hpl
  obtain ⟨vs, H1, I1, r1, v, ev, q1⟩ := hh
  subst ev
  refine ⟨I1.kIn, ?_⟩
  cases r1 with
  | cons rv rn =>
    rename_i v' us'
    cases rn
    show wpAny _ _ (call (.ref C) [v']) _ _ _
    have hlim := I1.nolimit
    have hgl := I1.mod.glob.keeps I1.bk
    obtain ⟨mb, hb1, hb2⟩ := I1.mod.blt
    have hbl := hb1.keeps I1.bk
    obtain ⟨hp, g, dr, tk, os⟩ := s1
    refine wpAny_call (sup_made T I1.kIn hlim (by have := hr.dp; omega) hgl hms hbl (hb2 _ (by decide)) fun h' tk' e d M => ?_)
    show MkP X pins σ Q (.ref e) ⟨h', g, dr, tk', os⟩
    obtain ⟨oe, fv, hoe, hc, hd, hdat, h1⟩ := M.obj
    have hns := M.ns
    obtain ⟨G', g1, g2⟩ := restrict h' fun b => decide (b ≠ e)
    have gk : ∀ b, b ≠ e → G'.get? b = h'.get? b := fun b hb => g1 b (decide_eq_true hb)
    have ge : G'.get? e = none := g2 e (by simp)
    have old : ∀ b o, hp.get? b = some o → G'.get? b = some o := fun b o q => (gk b (Nat.ne_of_lt (Nat.lt_of_lt_of_le (Heap.lt_size q) M.new))).trans (M.keep b o q)
    have ob : ObjOk X.prog X.w (upd H1 d (.xd [(f, v)])) G' d (.xd [(f, v)]) :=
      ⟨_, hns.at (fun o q => (gk d M.dne).trans q), fun g => relO_one rv g⟩
    have J : Inv X pins σ (upd H1 d (.xd [(f, v)])) ⟨G', g, dr, tk', os⟩ := I1.laid (t' := tk') old M.dbig ob
    refine ⟨e, oe, fv, ⟨G', g, dr, tk', os⟩, _, .ref C, some d, rfl, J, fun b o q => ?_, ge, hoe, ⟨hc, hd⟩, hdat, h1, ?_, rfl, I1.bare, raises_own T.T.exC T.T.tyC, q1 d (I1.hok.fresh M.dbig)⟩
    · by_cases hb : b = e
      · have q' : G'.get? b = some o := q
        rw [hb, ge] at q'; cases q'
      · exact (gk b hb).symm.trans q
    · rw [upd_ne (Ne.symm M.dne)]
      exact I1.hok.fresh M.new
end
section
variable {X : Cx} {T : Bool} {τ : TEnv} {M : Mem} {P : PK'} {E : XKx} {e a b c : Expr} {es : List Expr} {pos p pos2 : Pos} {R : RK} {rest : List Stmt} {x n f ns : Str} {C fI : Addr} {k : Nat}
/-- raise C(e) -/
theorem ws_raise (hc : X.calm = true) (S : SupX X.prog X.K C fI ns f) (gC : X.mg x = some (.ref C)) (hms : X.mg "super" = none) (hr : Room k X.A)
    (h : EX X false e τ M (fun d M1 => R (.ex ⟨C, [f], [d]⟩ τ) M1) (fun y M1 => R (.ex y τ) M1)) (hg : Gl X x := by rfl) (hdb : (x == ("__debug__" : Str)) = false := by decide)
    (he : starEach (e :: []) X.env = (false, eval e X.env) :: starEach [] X.env := by rfl) (hpl : (backTo pos (starEach [] X.env)).any (·.1) = false := by rfl) :
    WS X T (.Raise (some (.Call (.Name x p) [e] [] pos)) none pos2 :: rest) τ M R := .mk fun W tk σ G H hE hH D hR => by
  refine ws_step (ps_raise hc tk (pmk_sup (ta := tWA X false [e]) S gC hms hr pa_W hg hdb he hpl)) ?_
  refine wa_cons (Q := fun vs H1 => ∃ v, vs = [v] ∧ ∀ d, H1 d = none → W (.ref C) (some d) σ (upd H1 d (.xd [(f, v)]))) he ?_
  refine h.run W tk σ G H hE hH _ ?_ (ex_out hR hE)
  intro d M1 v G1 H1 hp s1 h1 dv
  refine tWA_of pa_nil ?_
  refine ⟨v, rfl, fun dd hd => ?_⟩
  obtain ⟨s2, h2⟩ := Stp.new (o := .xd [(f, v)]) h1 hd
  exact hR _ _ _ _ hp (s1.trans s2) h2 σ (some dd) ((hE.up s1.gg).up s2.gg) (.inr ⟨dd, [v], rfl, upd_same, .cons (dv.up s2.gg) .nil⟩)
/-- the ends of an except suite: its name goes -/
def suiteR (i : Nat) (k : TEnv → Mem → Prop) (R : RK) : RK
  | .nx τ, M => k (τ.set i none) M
  | .ct τ, M => R (.ct (τ.set i none)) M
  | .bk τ, M => R (.bk (τ.set i none)) M
  | .rt d, M => R (.rt d) M
  | .ex _ _, _ => False
/-- the ends of a try's body -/
def tryR (X : Cx) (c : Value) (i : Nat) (b₀ : Stmt) (suite : List Stmt) (k : TEnv → Mem → Prop) (R : RK) : RK
  | .nx τ, M => k τ M
  | .ex x τ, M => ∃ b, PySem.W.exmOne X.K (.ref x.C) c = some b ∧ (b = true → x.ns ≠ [] ∧ ∀ a dd oe pn, Zc (.ref x.C) (some dd) oe → (∃ vs, oe.data = .fields vs) → WS (X.suite a ((a, oe) :: pn)) false (b₀ :: suite) (τ.set i (some (.xn a dd x.ns x.ds))) M (suiteR i k R)) ∧ (b = false → R (.ex x τ) M)
  | o, M => R o M
/-- try: body, except x as n: suite -/
theorem ws_try {body suite : List Stmt} {b₀ : Stmt} {np pos' : Pos} {c : Value} (hs : X.stack = X.env :: X.outer) (hf : X.env.frame = some X.env.locals) (hc : Names X x c)
    (h : ∀ pn xe, PassesOwn (model X.prog X.w) X.A X.env xe → WS (X.tr pn xe) false body τ M (tryR X c (ixIn X.N n) b₀ suite (fun τ' M' => WS X T rest τ' M' R) R))
    (hi : X.N[ixIn X.N n]? = some n := by rfl) (hN : X.N.Nodup := by first | decide +kernel | exact of_decide_eq_true (by kernel_rfl)) (hln : X.env.kindOf n = some .local := by rfl) :
    WS X T (.Try body [.ExceptHandler (some (.Name x np)) (some n) (b₀ :: suite) pos'] [] [] pos :: rest) τ M R := .mk fun W tk σ G H hE hH D hR => tWSs_len fun hl => by
  have hlt : ixIn X.N n < σ.length := by rw [hl]; exact (List.getElem?_eq_some_iff.mp hi).1
  refine ws_step (ps_try_as (i := ixIn X.N n) (tb := fun W D σ H => ∀ pn xe, Takes (X.tr pn xe) W → PassesOwn (model X.prog X.w) X.A X.env xe → tWSs (X.tr pn xe) false body D σ H)
    (ts := fun a cls d D σ H => ∀ oe pn, Zc cls d oe → (∃ vs, oe.data = .fields vs) → tWSs (X.suite a ((a, oe) :: pn)) false (b₀ :: suite) D σ H) hs hf hN hi hln hc tk
    (fun W pn xe tk po => ⟨fun pins s σ H D I h => h pn xe tk po pins s tk_f I⟩) (fun a oe cls d pn hz hv => ⟨fun pins s σ H D I h => h oe pn hz hv pins s tk_f I⟩)) ?_
  intro pn xe tk2 po
  refine (h pn xe po).run _ tk2 σ G H hE hH _ ?_
  intro o M2 G2 H2 r s2 h2
  cases o with
  | nx τ' => exact fun σ' hE' => r.run W tk σ' G2 H2 hE' h2 D (hR.step s2)
  | rt d => exact hR _ _ _ _ r s2 h2
  | bk τ' => exact hR _ _ _ _ r s2 h2
  | ct τ' => exact hR _ _ _ _ r s2 h2
  | ex y τ' =>
    intro σ' d hE' dx
    obtain ⟨b, hb, h1, h0⟩ := r
    refine ⟨b, hb, fun e => ?_, fun e => hR _ _ _ _ (h0 e) s2 h2 σ' d hE' dx⟩
    obtain ⟨hns, h1⟩ := h1 e
    intro a ha oe pn hz hv
    rcases dx with ⟨z, _⟩ | ⟨dd, vs, rfl, hg, dv⟩
    · exact absurd z hns
    · refine fun pins s kt I => ?_
      have hl2 := I.len
      have hlt2 : ixIn X.N n < σ'.length := by
        have : (σ'.set (ixIn X.N n) (some (.ref a))).length = X.N.length := hl2
        rw [List.length_set] at this
        rw [this]; exact (List.getElem?_eq_some_iff.mp hi).1
      refine (h1 a dd oe pn hz hv).run _ takes0 (σ'.set (ixIn X.N n) (some (.ref a))) G2 H2 (hE'.set hlt2 (by simp only [Den, true_and]; exact ⟨vs, hg, dv⟩)) h2 _ ?_ pins s kt I
      intro o M3 G3 H3 r3 s3 h3
      cases o with
      | nx τ3 => exact fun σ3 e3 => r3.run W tk _ G3 H3 e3.unset h3 D (hR.step (s2.trans s3))
      | rt d => exact fun v dv => hR _ _ _ _ r3 (s2.trans s3) h3 v dv
      | bk τ3 => exact fun σ3 e3 => hR _ _ _ _ r3 (s2.trans s3) h3 _ e3.unset
      | ct τ3 => exact fun σ3 e3 => hR _ _ _ _ r3 (s2.trans s3) h3 _ e3.unset
      | ex z τ3 => exact r3.elim
/-- err.f in the suite -/
theorem ex_ev {a dd : Addr} {oe : Obj} {pn : List (Addr × Obj)} {xns : List Str} {ds : List Dat} {z : Dat} (Tx : XfC X.K C) (hno : PySem.W.findIn X.K (.ref C) f = some none) (hz : Zc (.ref C) (some dd) oe) (hv : ∃ vs, oe.data = .fields vs)
    (ht : X.N[ixIn X.N n]? = some n ∧ τ[ixIn X.N n]? = some (some (.xn a dd xns ds))) (hl : (xns.zip ds).lookup f = some z) (h : P z M) (hvis : Vis X.env.scope n := by first | exact Or.inl rfl | exact Or.inr (Or.inl rfl) | exact Or.inr (Or.inr rfl))
    (hd : (n == ("__debug__" : Str)) = false := by decide) (hcd : (n == ("__classdict__" : Str)) = false := by decide) (hb : attributeBase (.Name n p) f X.env (eval (.Name n p) X.env) = eval (.Name n p) X.env := by rfl) :
    EX (X.suite a ((a, oe) :: pn)) T (.Attribute (.Name n p) f pos) τ M P E := .mk fun W tk σ G H hE hH Q hP hX => by
  obtain ⟨v, h1, h2⟩ := hE _ _ ht.2
  obtain ⟨vs, rfl, g1, g2⟩ := h2.xn_inv
  obtain ⟨u, l1, l2⟩ := denL_lookup g2 hl
  have q := pe_xf Tx hno hz hv (pe_var (X := X.suite a ((a, oe) :: pn)) (pos := p) ht.1 hvis hd hcd) (pos := pos) hb
  refine tW_of q ?_
  exact ⟨_, h1, rfl, rfl, dd, _, u, rfl, hH.sub _ _ g1, l1, hP _ _ _ _ _ h Stp.refl hH l2⟩
end
end Kh

set_option Elab.async false
set_option linter.all false
set_option maxRecDepth 100000
set_option maxHeartbeats 1000000
namespace Kh
open PySem PySem.Spec L2
section
variable {X : Cx} {T : Bool} {τ : TEnv} {M : Mem} {P : PK'} {E : XKx} {e a b c o value : Expr} {es : List Expr} {pos pos' apos tpos : Pos} {R : RK} {rest : List Stmt} {x : Str}
/-- the name of a built-in type -/
theorem ex_gty {n : String} (hm : X.mg x = none) (hv : bootBuiltins x = some (.type n)) (h : P (.raw (.ty n)) M) (hg : Gl X x := by rfl) (hn : x ≠ "__name__" := by decide) (hd : (x == ("__debug__" : Str)) = false := by decide) : EX X T (.Name x pos) τ M P E :=
  ex_c (pe_bltn (v := .ty n) hg hm hv rfl hn hd) (fun _ => den_raw) h
/-- a list cell is changed no more -/
def FrzP (P : PK') : PK' := fun d M => ∃ p ds M3, d = .raw (.ref p) ∧ M.Perm ((p, .lst ds) :: M3) ∧ P (.lst ds) M3
theorem ex_frz (h : EX X T e τ M (FrzP P) E) : EX X T e τ M P E := .mk fun W tk σ G H hE hH Q hP hX =>
  h.run W tk σ G H hE hH Q (fun d M2 v G2 H2 ⟨p, ds, M3, ed, pm, hp⟩ s h2 dv => by
    subst ed
    obtain ⟨G', s3, h3, d3⟩ := freezeL (h2.perm pm)
    rw [dv.raw_inv]
    exact hP _ _ _ _ _ hp ((s.perm (List.Perm.refl _) pm).trans s3) h3 d3) hX
/-- cells that nothing names any more -/
theorem Hst.drop {K : PySem.W.Frag} {G H : Hp} {A B : Mem} (h : Hst K G (A ++ B) H) : Hst K G A H := h.left
theorem Stp.drop {G H G2 H2 : Hp} {A B : Mem} (s : Stp G M H G2 (A ++ B) H2) : Stp G M H G2 A H2 := ⟨s.gg, s.hh, s.fr, fun b hb => s.ad b (by rw [adr_append]; exact List.mem_append_left _ hb)⟩
def DropP (P : PK') : PK' := fun d M => ∃ A B, M.Perm (A ++ B) ∧ P d A
theorem ex_drop (h : EX X T e τ M (DropP P) E) : EX X T e τ M P E := .mk fun W tk σ G H hE hH Q hP hX =>
  h.run W tk σ G H hE hH Q (fun d M2 v G2 H2 ⟨A, B, pm, hp⟩ s h2 dv => hP _ _ _ _ _ hp (s.perm (List.Perm.refl _) pm).drop (h2.perm pm).drop dv) hX
theorem ws_drop {ss : List Stmt} {A B : Mem} (pm : M.Perm (A ++ B)) (h : WS X T ss τ A R) : WS X T ss τ M R := .mk fun W tk σ G H hE hH D hR => by
  have h2 := hH.perm pm
  have s2 : Stp G M H G A H := (Stp.refl.perm (List.Perm.refl _) pm).drop
  exact h.run W tk σ G H hE h2.drop D (hR.step s2)
end
/-- the class that an except clause names: own classes -/
theorem exm_of {K : PySem.W.Frag} {S D : Addr} {b : Bool} (h1 : PySem.W.subIn K (.ref D) (.type "BaseException") = some true) (h2 : PySem.W.isClsIn K D = true) (h3 : PySem.W.typeIn K (.ref D) = some (.type "type")) (h4 : PySem.W.subIn K (.ref S) (.ref D) = some b) :
    PySem.W.exmOne K (.ref S) (.ref D) = some b := by
  have e1 : (PySem.W.subIn K (.ref D) (.type "BaseException") == some true) = true := by rw [h1] <;> rfl
  have e2 : ((PySem.W.clsIn K D).isSome && PySem.W.typeIn K (.ref D) == some (.type "type")) = true := by
    have h2' : (PySem.W.clsIn K D).isSome = true := h2
    rw [h2', h3] <;> rfl
  show (if (PySem.W.subIn K (.ref D) (.type "BaseException") == some true) = true then (if ((PySem.W.clsIn K D).isSome && PySem.W.typeIn K (.ref D) == some (.type "type")) = true then PySem.W.subIn K (.ref S) (.ref D) else none) else none) = some b
  rw [if_pos e1, if_pos e2]
  exact h4
/-- the law's def at its script -/
theorem law_spS {K : PySem.W.Frag} {H : Hp} {a : Addr} {ns : List Int} {S : Spc} (hS : SqL K H a (ns.map V.int)) (h : S [.scr ns] [] (fun d _ => d = .bl true) E0') : toSp K S [.ref a] H (fun v _ => v = .bl true) fun _ _ _ => False :=
  ⟨H, [.scr ns], [], _, _, .cons (by simp only [Den]; exact ⟨a, rfl, hS⟩) .nil, ⟨Same.refl _, (fun _ h => by cases h), (fun _ h => by cases h), List.Pairwise.nil⟩, h, fun d M2 v G2 H2 e s h2 dv => by subst e; exact dv.bl_inv, noX⟩
/-! ### isinstance(d, int), isinstance(d, bool) of plain data -/
def isInt : Dat → Bool
  | .int _ => true
  | .bl _ => true
  | _ => false
def isBool : Dat → Bool
  | .bl _ => true
  | _ => false
/-- a whole number and no Boolean -/
def isWh : Dat → Bool
  | .int _ => true
  | _ => false
/-- what isinstance says of d -/
def KInt (K : PySem.W.Frag) (d : Dat) : Prop := ∀ M, ∃ t, TyD K M d t ∧ PySem.W.kitOne K t (.type "int") = some (isInt d) ∧ (isInt d = true → PySem.W.kitOne K t (.type "bool") = some (isBool d))
section
variable {K : PySem.W.Frag}
theorem kint_non : KInt K .non := fun M => ⟨_, .non, by rfl, fun h => nomatch h⟩
theorem kint_bl {b : Bool} : KInt K (.bl b) := fun M => ⟨_, .bl, by rfl, fun _ => by rfl⟩
theorem kint_int {i : Int} : KInt K (.int i) := fun M => ⟨_, .int, by rfl, fun _ => by rfl⟩
theorem kint_str {s : Str} : KInt K (.str s) := fun M => ⟨_, .str, by rfl, fun h => nomatch h⟩
theorem kint_lst {ds : List Dat} : KInt K (.lst ds) := fun M => ⟨_, .lst, by rfl, fun h => nomatch h⟩
theorem kint_tup {ds : List Dat} : KInt K (.tup ds) := fun M => ⟨_, .tup, by rfl, fun h => nomatch h⟩
theorem kint_dic0 : KInt K .dic0 := fun M => ⟨_, .dic0, by rfl, fun h => nomatch h⟩
theorem kint_atd {a : Addr} : KInt K (.at a .dic0) := fun M => ⟨_, .at .dic0, by rfl, fun h => nomatch h⟩
theorem kint_atl {a : Addr} {ds : List Dat} : KInt K (.at a (.lst ds)) := fun M => ⟨_, .at .lst, by rfl, fun h => nomatch h⟩
theorem kint_obj {C : Addr} {ns : List Str} {ds : List Dat} (h : ICls K C) (hk : PySem.W.kitOne K (.ref C) (.type "int") = some false) : KInt K (.obj C ns ds) := fun M => ⟨_, .obj h, hk, fun h => nomatch h⟩
end
/-! ### calls of defs, all cells handed -/
def UpP {α : Type} (P : α → Mem → Prop) : α → Mem → Prop := fun d Mc => ∃ M2, (Mc ++ []).Perm M2 ∧ P d M2
theorem UpP.mk {α : Type} {P : α → Mem → Prop} {d : α} {M : Mem} (h : P d M) : UpP P d M := ⟨M, by rw [List.append_nil], h⟩
theorem ap_all {S : Spc} {ds : List Dat} {M : Mem} {P : PK'} {E : XKx} (h : S ds M (UpP P) (UpP E)) : AP S ds M P E := ⟨M, [], by rw [List.append_nil], h⟩
section
variable {X : Cx} {T : Bool} {τ : TEnv} {M : Mem} {P : PK'} {E : XKx} {e o : Expr} {es : List Expr} {pos p apos : Pos} {k : Nat} {f C : Addr} {fd : FuncData} {ps : List Str} {S : Spc} {x m qual : Str} {st : Stmt}
theorem ex_callF (F : FnD X.prog X.w X.K X.mg X.base k f fd ps S) (hr : Room k X.A) (hm : X.mg x = some (.ref f)) (FF : Fun X.K x qual st f fd) (hb : Binds X.K fd ps [])
    (h : EA X T (e :: es) τ M (fun ds M1 => S ds M1 (UpP P) (UpP E)) E) (hg : Gl X x := by rfl) (hdb : (x == ("__debug__" : Str)) = false := by decide) (he : starEach (e :: es) X.env = (false, eval e X.env) :: starEach es X.env := by rfl) (hpl : (backTo pos (starEach es X.env)).any (·.1) = false := by rfl) :
    EX X T (.Call (.Name x p) (e :: es) [] pos) τ M P E := ex_call (df := []) (dvs := []) F hr hm FF.kp hb .nil (fun _ => .nil) (.mk fun W tk σ G H hE hH Q hP hX => h.run W tk σ G H hE hH Q (fun ds M2 vs G2 H2 hs => hP ds M2 vs G2 H2 (by show AP S (ds ++ []) M2 P E; rw [List.append_nil]; exact ap_all hs)) hX) hg hdb he hpl
end
section
variable {X : Cx} {T : Bool} {τ : TEnv} {M : Mem} {R : RK} {rest : List Stmt}
/-- a, b = x, y with plain local names -/
theorem ws_par {x y : Str} {a b : Expr} {px py pt pos : Pos} {kt k2 pt2} (h : EA X false [a, b] τ M (fun ds M1 => ∃ d1 d2, ds = [d1, d2] ∧ WS X T rest ((τ.set (ixIn X.N x) (some d1)).set (ixIn X.N y) (some d2)) M1 R) (fun z M1 => R (.ex z τ) M1))
    (hc : X.calm = true := by rfl) (hi : X.N[ixIn X.N x]? = some x := by rfl) (hj : X.N[ixIn X.N y]? = some y := by rfl) (hij : ixIn X.N x ≠ ixIn X.N y := by first | decide | exact of_decide_eq_true (by kernel_rfl)) (hN : X.N.Nodup := by first | decide +kernel | exact of_decide_eq_true (by kernel_rfl))
    (hx : X.env.scope.names.lookup x = some .local := by rfl) (hy : X.env.scope.names.lookup y = some .local := by rfl)
    (hw : swappedStores [.Tuple [.Name x px, .Name y py] kt pt] (.Tuple [a, b] k2 pt2) X.env = pure (some [x, y]) := by rfl)
    (hs : swapsWithSole [.Tuple [.Name x px, .Name y py] kt pt] (.Tuple [a, b] k2 pt2) pos.line X.env = pure false := by rfl) :
    WS X T (.Assign [.Tuple [.Name x px, .Name y py] kt pt] (.Tuple [a, b] k2 pt2) pos :: rest) τ M R := .mk fun W tk σ G H hE hH D hR => tWSs_len fun hl => by
  refine ws_step (ps_par hc hN hi hj hij hx hy pa_W hw hs) ?_
  refine h.run W tk σ G H hE hH _ ?_ (ex_out hR hE)
  rintro ds M1 vs G1 H1 ⟨d1, d2, rfl, hk⟩ s1 h1 dv
  obtain ⟨v, u, rfl, e1, e2⟩ := two_inv dv
  refine ⟨v, u, rfl, ?_⟩
  have l1 : ixIn X.N x < σ.length := by rw [hl]; exact (List.getElem?_eq_some_iff.mp hi).1
  have l2 : ixIn X.N y < (σ.set (ixIn X.N x) (some v)).length := by rw [List.length_set, hl]; exact (List.getElem?_eq_some_iff.mp hj).1
  exact hk.run W tk _ G1 H1 (((hE.up s1.gg).set l1 e1).set l2 e2) h1 D (hR.step s1)
theorem ws_par3 {x y z : Str} {a b c : Expr} {px py pz pt pos : Pos} {kt k2 pt2} (h : EA X false [a, b, c] τ M (fun ds M1 => ∃ d1 d2 d3, ds = [d1, d2, d3] ∧ WS X T rest (((τ.set (ixIn X.N x) (some d1)).set (ixIn X.N y) (some d2)).set (ixIn X.N z) (some d3)) M1 R) (fun z M1 => R (.ex z τ) M1))
    (hc : X.calm = true := by rfl) (hi : X.N[ixIn X.N x]? = some x := by rfl) (hj : X.N[ixIn X.N y]? = some y := by rfl) (hk : X.N[ixIn X.N z]? = some z := by rfl) (hij : ixIn X.N x ≠ ixIn X.N y := by first | decide | exact of_decide_eq_true (by kernel_rfl))
    (hik : ixIn X.N x ≠ ixIn X.N z := by first | decide | exact of_decide_eq_true (by kernel_rfl)) (hjk : ixIn X.N y ≠ ixIn X.N z := by first | decide | exact of_decide_eq_true (by kernel_rfl)) (hN : X.N.Nodup := by first | decide +kernel | exact of_decide_eq_true (by kernel_rfl))
    (hx : X.env.scope.names.lookup x = some .local := by rfl) (hy : X.env.scope.names.lookup y = some .local := by rfl) (hz : X.env.scope.names.lookup z = some .local := by rfl)
    (hw : swappedStores [.Tuple [.Name x px, .Name y py, .Name z pz] kt pt] (.Tuple [a, b, c] k2 pt2) X.env = pure (some [x, y, z]) := by rfl)
    (hs : swapsWithSole [.Tuple [.Name x px, .Name y py, .Name z pz] kt pt] (.Tuple [a, b, c] k2 pt2) pos.line X.env = pure false := by rfl) :
    WS X T (.Assign [.Tuple [.Name x px, .Name y py, .Name z pz] kt pt] (.Tuple [a, b, c] k2 pt2) pos :: rest) τ M R := .mk fun W tk σ G H hE hH D hR => tWSs_len fun hl => by
  refine ws_step (ps_par3 hc hN hi hj hk hij hik hjk hx hy hz pa_W hw hs) ?_
  refine h.run W tk σ G H hE hH _ ?_ (ex_out hR hE)
  rintro ds M1 vs G1 H1 ⟨d1, d2, d3, rfl, hkk⟩ s1 h1 dv
  obtain ⟨v, r, rfl, e1, dv⟩ := dv.cons_inv
  obtain ⟨u, u', rfl, e2, e3⟩ := two_inv dv
  refine ⟨v, u, u', rfl, ?_⟩
  have l1 : ixIn X.N x < σ.length := by rw [hl]; exact (List.getElem?_eq_some_iff.mp hi).1
  have l2 : ixIn X.N y < (σ.set (ixIn X.N x) (some v)).length := by rw [List.length_set, hl]; exact (List.getElem?_eq_some_iff.mp hj).1
  have l3 : ixIn X.N z < ((σ.set (ixIn X.N x) (some v)).set (ixIn X.N y) (some u)).length := by rw [List.length_set, List.length_set, hl]; exact (List.getElem?_eq_some_iff.mp hk).1
  exact hkk.run W tk _ G1 H1 ((((hE.up s1.gg).set l1 e1).set l2 e2).set l3 e3) h1 D (hR.step s1)
end
/-- ** of a wide base -/
def CPowW (i j : Int) : Prop := 0 ≤ j ∧ (Builtin.Int.intBits i : Int) * j ≤ 2 ^ 27
instance {i j : Int} : Decidable (CPowW i j) := inferInstanceAs (Decidable (_ ∧ _))
theorem op_powW {X : Cx} : OpR X (binaryOp .Pow) (rI CPowW fun i j => .int (i ^ j.toNat)) := opI fun _ _ _ _ _ _ _ hc q => PyProof.Rows.pow_int hc.1 hc.2 q
theorem o_powW {X : Cx} {T : Bool} {M : Mem} {P : PK'} {i j : Int} (hc : CPowW i j) (h : P (.int (i ^ j.toNat)) M) : OP X T (binaryOp .Pow) (.int i) (.int j) M P := op_IIc op_powW hc (fun _ => den_int) h
theorem mem_putC {p : Addr} {c c' : MC} : ∀ {M : Mem}, (p, c) ∈ M → (p, c') ∈ putC p c' M
  | (q, d) :: M, h => by
    show (p, c') ∈ if q = p then (p, c') :: M else (q, d) :: putC p c' M
    by_cases e : q = p
    · rw [if_pos e]; exact List.mem_cons_self
    · rw [if_neg e]
      rcases List.mem_cons.mp h with z | z
      · cases z; exact absurd rfl e
      · exact List.mem_cons_of_mem _ (mem_putC z)
theorem putC_putC {p : Addr} {c c' : MC} : ∀ {M : Mem}, putC p c' (putC p c M) = putC p c' M
  | [] => rfl
  | (q, d) :: M => by
    by_cases e : q = p
    · subst e; simp [putC]
    · simp [putC, e, putC_putC]
theorem mem_putC_ne {p q : Addr} {c d : MC} : ∀ {M : Mem}, (q, d) ∈ M → q ≠ p → (q, d) ∈ putC p c M
  | (r, e) :: M, h, n => by
    show (q, d) ∈ if r = p then (p, c) :: M else (r, e) :: putC p c M
    by_cases z : r = p
    · rw [if_pos z]
      rcases List.mem_cons.mp h with y | y
      · cases y; exact absurd z n
      · exact List.mem_cons_of_mem _ y
    · rw [if_neg z]
      rcases List.mem_cons.mp h with y | y
      · exact List.mem_cons.mpr (.inl y)
      · exact List.mem_cons_of_mem _ (mem_putC_ne y n)
theorem WS.imp {X : Cx} {T : Bool} {τ : TEnv} {M : Mem} {R R' : RK} {ss : List Stmt} (h : WS X T ss τ M R') (hi : ∀ o M2, R' o M2 → R o M2) : WS X T ss τ M R := .mk fun W tk σ G H hE hH D hR =>
  h.run W tk σ G H hE hH D fun o M2 G2 H2 r s h2 => hR o M2 G2 H2 (hi _ _ r) s h2
end Kh

set_option Elab.async false
set_option linter.all false
set_option maxRecDepth 100000
set_option maxHeartbeats 1000000
namespace Kh
open PySem PySem.Spec L2
/-! ### data that are equal by their shape, or are one object -/
mutual
def eqT : Dat → Dat → Bool
  | .non, .non => true
  | .bl a, .bl b => decide (a = b)
  | .int i, .int j => decide (i = j)
  | .str s, .str t => decide (s = t)
  | .lst xs, .lst ys => eqTL xs ys
  | .tup xs, .tup ys => eqTL xs ys
  | .at a _, .at b _ => decide (a = b)
  | _, _ => false
def eqTL : List Dat → List Dat → Bool
  | [], [] => true
  | x :: xs, y :: ys => eqT x y && eqTL xs ys
  | _, _ => false
end
mutual
def dpD : Dat → Nat
  | .lst xs => dpDL xs + 1
  | .tup xs => dpDL xs + 1
  | _ => 1
def dpDL : List Dat → Nat
  | [] => 0
  | x :: xs => max (dpD x) (dpDL xs)
end
theorem all_true (n : Nat) : ((List.range n).all fun _ => true) = true := List.all_eq_true.mpr fun _ _ => rfl
section
variable {X : Cx} {pins : List (Addr × Obj)} {σ : L2.St} {H G : Hp} {s : Shared}
open PySem.SeqAt (EqAt RcAt RcNeAt)
theorem eqTL_len : ∀ {xs ys : List Dat}, eqTL xs ys = true → xs.length = ys.length
  | [], [], _ => rfl
  | x :: xs, y :: ys, h => by
    simp only [eqTL, Bool.and_eq_true] at h
    simp only [List.length_cons, eqTL_len h.2]
  | [], _ :: _, h => by simp [eqTL] at h
  | _ :: _, [], h => by simp [eqTL] at h
mutual
theorem eqT_run (I : Inv X pins σ H s) (hs : Same G H) : ∀ (x y : Dat) (A : Around) (v u : V) (v' u' : Value), eqT x y = true → A.units + dpD x < cLine → Den X.K G x v → Den X.K G y u → RelV v v' → RelV u u' → EqAt A s v' u' true
  | .non, y, A, v, u, v', u', h, hu, dx, dy, r, r' => by
    cases y <;> simp [eqT] at h
    rw [dx.non_inv] at r; rw [dy.non_inv] at r'
    exact eqAt_same r r' rfl
  | .bl a, y, A, v, u, v', u', h, hu, dx, dy, r, r' => by
    cases y <;> simp [eqT] at h
    subst h
    rw [dx.bl_inv] at r; rw [dy.bl_inv] at r'
    exact eqAt_same r r' rfl
  | .int i, y, A, v, u, v', u', h, hu, dx, dy, r, r' => by
    cases y <;> simp [eqT] at h
    subst h
    rw [dx.int_inv] at r; rw [dy.int_inv] at r'
    exact eqAt_same r r' rfl
  | .str i, y, A, v, u, v', u', h, hu, dx, dy, r, r' => by
    cases y <;> simp [eqT] at h
    subst h
    rw [dx.str_inv] at r; rw [dy.str_inv] at r'
    exact eqAt_same r r' rfl
  | .at a d, y, A, v, u, v', u', h, hu, dx, dy, r, r' => by
    cases y <;> simp [eqT] at h
    subst h
    obtain ⟨rfl, _⟩ := dx.at_inv
    obtain ⟨rfl, _⟩ := dy.at_inv
    cases r; cases r'
    exact EqAt.same _
  | .lst xs, y, A, v, u, v', u', h, hu, dx, dy, r, r' => by
    cases y with
    | lst ys =>
      have h : eqTL xs ys = true := by simpa [eqT] using h
      have hu : A.units + (dpDL xs + 1) < cLine := by simpa only [dpD] using hu
      obtain ⟨a, vs, rfl, ga, da⟩ := dx.lst_inv
      obtain ⟨b, us, rfl, gb, db⟩ := dy.lst_inv
      cases r; cases r'
      by_cases e : a = b
      · subst e; exact EqAt.same _
      · obtain ⟨ws, r1, p1, _⟩ := I.list (SqL.of (hs _ _ ga))
        obtain ⟨zs, r2, p2, _⟩ := I.list (SqL.of (hs _ _ gb))
        have hz : ws.toArray.size = zs.toArray.size := by rw [List.size_toArray, List.size_toArray, ← r1.length, ← r2.length, da.length, db.length, eqTL_len h]
        refine EqAt.of_refs e ?_
        have := RcAt.lists (A := A) (e := fun _ => true) p1.isList p2.isList hz (by omega) (fun j h1 h2 => by
          have := eqTL_run I hs xs ys A.in1 vs us ws zs h (by show A.units + 1 + dpDL xs < cLine; omega) da db r1 r2 j (by simpa using h1) (by simpa using h2)
          simpa using this)
        rw [all_true] at this
        exact this
    | _ => simp [eqT] at h
  | .tup xs, y, A, v, u, v', u', h, hu, dx, dy, r, r' => by
    cases y with
    | tup ys =>
      have h : eqTL xs ys = true := by simpa [eqT] using h
      have hu : A.units + (dpDL xs + 1) < cLine := by simpa only [dpD] using hu
      obtain ⟨a, vs, rfl, ga, da⟩ := dx.tup_inv
      obtain ⟨b, us, rfl, gb, db⟩ := dy.tup_inv
      cases r; cases r'
      by_cases e : a = b
      · subst e; exact EqAt.same _
      · obtain ⟨ws, r1, p1, _⟩ := I.tuple (SqT.of (hs _ _ ga))
        obtain ⟨zs, r2, p2, _⟩ := I.tuple (SqT.of (hs _ _ gb))
        have hz : ws.toArray.size = zs.toArray.size := by rw [List.size_toArray, List.size_toArray, ← r1.length, ← r2.length, da.length, db.length, eqTL_len h]
        refine EqAt.of_refs e ?_
        have := RcAt.tuples (A := A) (e := fun _ => true) p1 p2 (by omega) (fun j h1 h2 => by
          have := eqTL_run I hs xs ys A.in1 vs us ws zs h (by show A.units + 1 + dpDL xs < cLine; omega) da db r1 r2 j (by simpa using h1) (by simpa using h2)
          simpa using this)
        rw [all_true, hz] at this
        simpa using this
    | _ => simp [eqT] at h
  | .raw w, y, A, v, u, v', u', h, hu, dx, dy, r, r' => by simp [eqT] at h
  | .dic0, y, A, v, u, v', u', h, hu, dx, dy, r, r' => by simp [eqT] at h
  | .scr ns, y, A, v, u, v', u', h, hu, dx, dy, r, r' => by simp [eqT] at h
  | .obj C ns ds, y, A, v, u, v', u', h, hu, dx, dy, r, r' => by simp [eqT] at h
  | .xn a dd ns ds, y, A, v, u, v', u', h, hu, dx, dy, r, r' => by simp [eqT] at h
theorem eqTL_run (I : Inv X pins σ H s) (hs : Same G H) : ∀ (xs ys : List Dat) (A : Around) (vs us : List V) (ws zs : List Value), eqTL xs ys = true → A.units + dpDL xs < cLine → DenL X.K G xs vs → DenL X.K G ys us → Vals vs ws → Vals us zs →
    ∀ j (h1 : j < ws.length) (h2 : j < zs.length), EqAt A s ws[j] zs[j] true
  | [], ys, A, vs, us, ws, zs, h, hu, dx, dy, r, r', j, h1, h2 => by
    rw [dx.nil_inv] at r
    cases r
    exact absurd h1 (Nat.not_lt_zero _)
  | x :: xs, ys, A, vs, us, ws, zs, h, hu, dx, dy, r, r', j, h1, h2 => by
    cases ys with
    | nil => simp [eqTL] at h
    | cons y ys =>
      simp only [eqTL, Bool.and_eq_true] at h
      have hu : A.units + max (dpD x) (dpDL xs) < cLine := by simpa only [dpDL] using hu
      obtain ⟨v, vr, rfl, dv, dvr⟩ := dx.cons_inv
      obtain ⟨u, ur, rfl, du, dur⟩ := dy.cons_inv
      cases r with
      | cons ra rb =>
        cases r' with
        | cons ra' rb' =>
          cases j with
          | zero => exact eqT_run I hs x y A v u _ _ h.1 (by omega) dv du ra ra'
          | succ j => exact eqTL_run I hs xs ys A vr ur _ _ h.2 (by omega) dvr dur rb rb' j (Nat.lt_of_succ_lt_succ h1) (Nat.lt_of_succ_lt_succ h2)
end
end
section
variable {X : Cx} {T : Bool} {τ : TEnv} {M : Mem} {P : PK'} {E : XKx} {e a b c o value : Expr} {es : List Expr} {pos pos' apos tpos : Pos} {R : RK} {rest : List Stmt} {x : Str}
open PySem.SeqAt (EqAt RcAt RcNeAt)
/-- two lists of one shape: !=, == -/
theorem o_neLT {xs ys : List Dat} (h : eqTL xs ys = true) (hd : dpDL xs ≤ 60) (hu : X.A.units + 64 < cLine) (hP : P (.bl false) M) : OP X T (compareOp .NotEq) (.lst xs) (.lst ys) M P := by
  intro G H v u hH dx dy Q hQ pins s σ v' u' _ I r r'
  obtain ⟨a, vs, rfl, ga, da⟩ := dx.lst_inv
  obtain ⟨b, us, rfl, gb, db⟩ := dy.lst_inv
  cases r; cases r'
  obtain ⟨ws, r1, p1, _⟩ := I.list (SqL.of (hH.sub _ _ ga))
  obtain ⟨zs, r2, p2, _⟩ := I.list (SqL.of (hH.sub _ _ gb))
  have hz : ws.toArray.size = zs.toArray.size := by rw [List.size_toArray, List.size_toArray, ← r1.length, ← r2.length, da.length, db.length, eqTL_len h]
  have := RcNeAt.lists (A := X.A) (e := fun _ => true) p1.isList p2.isList hz (by omega) (fun j h1 h2 => by
    have := eqTL_run I hH.sub xs ys X.A.in1 vs us ws zs h (by show X.A.units + 1 + dpDL xs < cLine; omega) da db r1 r2 j (by simpa using h1) (by simpa using h2)
    simpa using this)
  rw [all_true] at this
  exact this _ _ _ _ ⟨.bl false, H, I, rfl, hQ _ _ _ _ _ hP Stp.refl hH den_bl⟩
theorem o_eqLT {xs ys : List Dat} (h : eqTL xs ys = true) (hd : dpDL xs ≤ 60) (hu : X.A.units + 64 < cLine) (hP : P (.bl true) M) : OP X T (compareOp .Eq) (.lst xs) (.lst ys) M P := by
  intro G H v u hH dx dy Q hQ pins s σ v' u' _ I r r'
  obtain ⟨a, vs, rfl, ga, da⟩ := dx.lst_inv
  obtain ⟨b, us, rfl, gb, db⟩ := dy.lst_inv
  cases r; cases r'
  obtain ⟨ws, r1, p1, _⟩ := I.list (SqL.of (hH.sub _ _ ga))
  obtain ⟨zs, r2, p2, _⟩ := I.list (SqL.of (hH.sub _ _ gb))
  have hz : ws.toArray.size = zs.toArray.size := by rw [List.size_toArray, List.size_toArray, ← r1.length, ← r2.length, da.length, db.length, eqTL_len h]
  have := RcAt.lists (A := X.A) (e := fun _ => true) p1.isList p2.isList hz (by omega) (fun j h1 h2 => by
    have := eqTL_run I hH.sub xs ys X.A.in1 vs us ws zs h (by show X.A.units + 1 + dpDL xs < cLine; omega) da db r1 r2 j (by simpa using h1) (by simpa using h2)
    simpa using this)
  rw [all_true] at this
  exact this _ _ _ _ ⟨.bl true, H, I, rfl, hQ _ _ _ _ _ hP Stp.refl hH den_bl⟩
/-- two lists of different lengths -/
theorem o_eqLn {xs ys : List Dat} (h : xs.length ≠ ys.length) (hu : X.A.units + 64 < cLine) (hP : P (.bl false) M) : OP X T (compareOp .Eq) (.lst xs) (.lst ys) M P := by
  intro G H v u hH dx dy Q hQ pins s σ v' u' _ I r r'
  obtain ⟨a, vs, rfl, ga, da⟩ := dx.lst_inv
  obtain ⟨b, us, rfl, gb, db⟩ := dy.lst_inv
  cases r; cases r'
  obtain ⟨ws, r1, p1, _⟩ := I.list (SqL.of (hH.sub _ _ ga))
  obtain ⟨zs, r2, p2, _⟩ := I.list (SqL.of (hH.sub _ _ gb))
  have hz : (ws.toArray.size != zs.toArray.size) = true := by
    rw [List.size_toArray, List.size_toArray, ← r1.length, ← r2.length, da.length, db.length]
    simpa using h
  exact RcAt.lists_lengths (A := X.A) p1.isList p2.isList hz (by omega) _ _ _ _ ⟨.bl false, H, I, rfl, hQ _ _ _ _ _ hP Stp.refl hH den_bl⟩
theorem o_neLn {xs ys : List Dat} (h : xs.length ≠ ys.length) (hu : X.A.units + 64 < cLine) (hP : P (.bl true) M) : OP X T (compareOp .NotEq) (.lst xs) (.lst ys) M P := by
  intro G H v u hH dx dy Q hQ pins s σ v' u' _ I r r'
  obtain ⟨a, vs, rfl, ga, da⟩ := dx.lst_inv
  obtain ⟨b, us, rfl, gb, db⟩ := dy.lst_inv
  cases r; cases r'
  obtain ⟨ws, r1, p1, _⟩ := I.list (SqL.of (hH.sub _ _ ga))
  obtain ⟨zs, r2, p2, _⟩ := I.list (SqL.of (hH.sub _ _ gb))
  have hz : (ws.toArray.size != zs.toArray.size) = true := by
    rw [List.size_toArray, List.size_toArray, ← r1.length, ← r2.length, da.length, db.length]
    simpa using h
  exact RcNeAt.lists_lengths (A := X.A) p1.isList p2.isList hz (by omega) _ _ _ _ ⟨.bl true, H, I, rfl, hQ _ _ _ _ _ hP Stp.refl hH den_bl⟩
/-- {} -/
theorem ex_dict0 (h : ∀ q, P (.at q .dic0) M) : EX X T (.Dict [] [] pos) τ M P E := .mk fun W tk σ G H hE hH Q hP hX =>
  tW_of pe_dnewK fun q hq => by
    obtain ⟨s2, h2⟩ := Stp.new (o := .dK []) hH hq
    exact hP _ _ _ _ _ (h q) s2 h2 (den_at (by simp only [Den]; exact ⟨q, rfl, upd_same⟩))
end
/-! d is told equal to itself: no object of the heap but by its place -/
mutual
def selfE : Dat → Bool
  | .non | .bl _ | .int _ | .str _ | .at _ _ => true
  | .lst xs => selfEL xs
  | .tup xs => selfEL xs
  | _ => false
def selfEL : List Dat → Bool
  | [] => true
  | x :: xs => selfE x && selfEL xs
end
mutual
theorem eqT_self : ∀ d : Dat, selfE d = true → eqT d d = true
  | .non, _ => rfl
  | .bl _, _ => by simp [eqT]
  | .int _, _ => by simp [eqT]
  | .str _, _ => by simp [eqT]
  | .at _ _, _ => by simp [eqT]
  | .lst xs, h => by simp only [eqT]; exact eqTL_self xs (by simpa [selfE] using h)
  | .tup xs, h => by simp only [eqT]; exact eqTL_self xs (by simpa [selfE] using h)
  | .raw _, h => by simp [selfE] at h
  | .dic0, h => by simp [selfE] at h
  | .scr _, h => by simp [selfE] at h
  | .obj _ _ _, h => by simp [selfE] at h
  | .xn _ _ _ _, h => by simp [selfE] at h
theorem eqTL_self : ∀ ds : List Dat, selfEL ds = true → eqTL ds ds = true
  | [], _ => rfl
  | d :: ds, h => by
    simp only [selfEL, Bool.and_eq_true] at h
    simp only [eqTL, Bool.and_eq_true]
    exact ⟨eqT_self d h.1, eqTL_self ds h.2⟩
end
theorem ws_dropN {X : Cx} {T : Bool} {τ : TEnv} {M : Mem} {R : RK} {ss : List Stmt} (h : WS X T ss τ [] R) : WS X T ss τ M R := ws_drop (A := []) (B := M) (List.Perm.refl _) h
end Kh

set_option Elab.async false
set_option linter.all false
set_option maxRecDepth 100000
set_option maxHeartbeats 1000000
namespace Kh
open PySem PySem.Spec L2
section
variable {X : Cx} {T : Bool} {τ : TEnv} {M : Mem} {P : PK'} {E : XKx} {e a b c o value : Expr} {es : List Expr} {pos pos' p apos tpos : Pos} {R : RK} {rest : List Stmt} {x f n : Str} {C D fa : Addr} {k : Nat} {fd : FuncData} {ps : List Str} {S : Spc}
/-! ### self.f = e -/
def putD (f : Str) (v : Dat) : List (Str × Dat) → List (Str × Dat)
  | [] => [(f, v)]
  | (g, x) :: r => if g = f then (g, v) :: r else (g, x) :: putD f v r
theorem denF_put {K : PySem.W.Frag} {G : Hp} {d : Dat} {v : V} (h : Den K G d v) : ∀ {fs : List (Str × Dat)} {vs : List (Str × V)}, DenF K G fs vs → DenF K G (putD f d fs) (putF f v vs)
  | [], [], _ => ⟨rfl, .cons h .nil⟩
  | [], _ :: _, q => by have := q.1; simp at this
  | _ :: _, [], q => by have := q.1; simp at this
  | (g, x) :: fs, (g', u) :: vs, ⟨q1, q2⟩ => by
    rw [List.map_cons, List.map_cons] at q1
    obtain ⟨e1, e2⟩ := List.cons.inj q1
    have e1 : g' = g := e1
    subst e1
    obtain ⟨u', r, e, hu, t⟩ := (show DenL K G (x :: fs.map (·.2)) (u :: vs.map (·.2)) from q2).cons_inv
    obtain ⟨rfl, rfl⟩ := List.cons.inj e
    by_cases z : g' = f
    · simp only [putD, putF, if_pos z]
      exact ⟨by simp [e2], .cons h t⟩
    · simp only [putD, putF, if_neg z]
      have ih := denF_put h ⟨e2, t⟩
      exact ⟨by simp only [List.map_cons, ih.1], .cons hu ih.2⟩
theorem DenF.length {K : PySem.W.Frag} {G : Hp} {fs : List (Str × Dat)} {vs : List (Str × V)} (h : DenF K G fs vs) : vs.length = fs.length := by
  have := congrArg List.length h.1
  simpa using this
theorem ws_fld (h : EX X false value τ M (fun d M1 => EX X false o τ M1 (fun od M2 => ∃ q C dx fs, od = .raw (.ref q) ∧ (q, MC.ins C dx fs) ∈ M2 ∧ Cls X.K C ∧ NoAttr X.K C f ∧ fs.length < 1000 ∧ WS X T rest τ (putC q (.ins C dx (putD f d fs)) M2) R) (fun x M2 => R (.ex x τ) M2)) (fun x M1 => R (.ex x τ) M1))
    (hs : swapsWith value (some (.Attribute o f pos')) pos.line X.env = pure false := by rfl) : WS X T (.Assign [.Attribute o f pos'] value pos :: rest) τ M R := .mk fun W tk σ G H hE hH D hR => by
  refine ws_step (ps_fld (pe_W (e := o)) (pe_W (e := value)) hs) ?_
  refine h.run W tk σ G H hE hH _ ?_ (ex_out hR hE)
  intro d M1 v G1 H1 ho s1 h1 dv
  refine ho.run W tk σ G1 H1 (hE.up s1.gg) h1 _ ?_ ((ex_out hR hE).step s1)
  rintro od M2 ov G2 H2 ⟨q, C, dx, fs, rfl, hm, hc, hn, hl, hw⟩ s2 h2 dov
  obtain ⟨vs, g1, g2, g3⟩ := h2.mem _ hm
  have hcell : MH X.K G2 (upd H2 q (.ins C dx (putF f v vs))) (q, .ins C dx (putD f d fs)) := by
    have ne : dx ≠ q := fun z => by rw [z, g1] at g2; cases g2
    exact ⟨_, upd_same, by rw [upd_ne ne]; exact g2, denF_put (dv.up s2.gg) g3⟩
  obtain ⟨s3, h3⟩ := put_ok (c' := .ins C dx (putD f d fs)) (H2 := upd H2 q (.ins C dx (putF f v vs))) h2 hm rfl (fun b hb => upd_ne hb) hcell
  exact ⟨q, C, dx, vs, dov.raw_inv, g1, hc, hn, by rw [g3.length]; exact hl, hw.run W tk σ G2 _ ((hE.up s1.gg).up s2.gg) h3 D (hR.step ((s1.trans s2).trans s3))⟩
/-! ### C(), C without __init__ -/
structure Mk0 (K : PySem.W.Frag) (C : Addr) : Prop where
  makes : PySem.W.makesIn K C = true
  init : PySem.W.findIn K (.ref C) "__init__" = some (some (.builtin "object.__init__"))
  kp : PySem.W.keepIn K (.ref C) = true
  top : PySem.W.mroIn K C (.type "object") = some true
theorem ex_new0 (Mk' : Mk0 X.K C) (hm : X.mg x = some (.ref C)) (h : ∀ q dx, q ∉ adr M → dx ∉ adr M → dx ≠ q → MadeP P q ((q, .ins C dx []) :: M)) (hg : Gl X x := by rfl) (hdb : (x == ("__debug__" : Str)) = false := by decide) :
    EX X T (.Call (.Name x p) [] [] pos) τ M P E := .mk fun W tk σ G H hE hH Q hP hX pins s k0 I => by
  refine wpAny_Call_Name_kw (ld_glob I hg hm ?_ hdb)
  refine PySem.W.callWith_K0 I.kIn Mk'.kp ?_
  have hx : H (s.heap.objs.size + 1) = none := I.hok.fresh (Nat.le_succ _)
  have hdx : H s.heap.objs.size = none := I.hok.fresh (Nat.le_refl _)
  have ne : s.heap.objs.size ≠ s.heap.objs.size + 1 := Nat.ne_of_lt (Nat.lt_succ_self _)
  have n1 : s.heap.objs.size + 1 ∉ adr M := fun z => hH.there _ z hx
  have n2 : s.heap.objs.size ∉ adr M := fun z => hH.there _ z hdx
  obtain ⟨h1, s1⟩ := hst_new (C := C) hH hx hdx ne
  have q := madeP_ce hP (h _ _ n1 n2 ne) s1 h1
  have I2 := Inv.made (C := C) I
  refine wpAny_call (make_map0 I.kIn Mk'.makes Mk'.init (fun self => PySem.W.Looks.of_pure (PySem.W.oi_bind self)) ?_)
  have hget : ((s.heap.push PySem.W.emptyDict).push (PySem.W.instObj C s.heap.objs.size)).get? (s.heap.objs.size + 1) = some (PySem.W.instObj C s.heap.objs.size) := by
    have := Heap.get?_push_size (s.heap.push PySem.W.emptyDict) (o := PySem.W.instObj C s.heap.objs.size) rfl
    rwa [Heap.size_push] at this
  have t1 : PySem.W.Looks (model X.prog X.w) ((s.heap.push PySem.W.emptyDict).push (PySem.W.instObj C s.heap.objs.size)) (typeOf (.ref (s.heap.objs.size + 1))) (.ref C) := (PySem.W.Looks.ld hget).andThen .now
  have t2 : PySem.W.Looks (model X.prog X.w) ((s.heap.push PySem.W.emptyDict).push (PySem.W.instObj C s.heap.objs.size)) (isInstance (.ref (s.heap.objs.size + 1)) (.type "object")) true := t1.andThen (PySem.W.looks_mroIn I2.kIn Mk'.top)
  refine codeAny_call_builtin PySem.W.oi_plain PySem.W.entry_oi (@PySem.W.check_slot (model X.prog X.w) _ _ _ "object.__init__" "object" "__init__" (.ref (s.heap.objs.size + 1)) [] [] _ PySem.W.oi_kind PySem.W.oi_split t2 (PySem.W.oi_args (.ref (s.heap.objs.size + 1))) ?_)
  rw [PySem.W.oi_run]
  exact wpAny_pure (And.intro rfl ⟨V.ref (s.heap.objs.size + 1), _, I2, rfl, q⟩)
/-! ### own == -/
/-- x == y, x an instance of the class at C with an own __eq__ at fa -/
theorem o_eqOwn {x y : Dat} {t : Value} (F : FnD X.prog X.w X.K X.mg X.base k fa fd ps S) (hr : Room k X.A) (hs : PySem.W.findIn X.K (.ref C) "__eq__" = some (some (.ref fa))) (hf : PySem.W.isFn X.K (.ref fa) = true) (hb : Binds X.K fd ps [])
    (hx : IsI C "__eq__" M x) (ty : TyD X.K M y t) (hn : PySem.W.notFirst X.K C t = true) (h : S [x, y] M (UpP fun d M2 => ∃ b, d = .bl b ∧ P (.bl b) M2) (UpP E0')) : OP X T (compareOp .Eq) x y M P := by
  intro G H v u hH dx dy Q hP pins s σ v' u' _ I rx ry
  obtain ⟨a, dxa, fs, rfl, ea, _⟩ := hx.get hH dx
  obtain rfl : v' = Value.ref a := rx
  obtain ⟨mA, J, _⟩ := ins_get I.hok ea
  obtain ⟨od, J, _⟩ := J.look
  obtain ⟨m, hF⟩ := I.fr
  obtain ⟨Pr, Z, pz, _⟩ := kit_of I ry (tyD_ok ty hH dy)
  have hsp : toSp X.K S [.ref a, u] H (fun z H' => ∃ b, z = .bl b ∧ Q (.bl b) H') (fun _ _ _ => False) :=
    ap_toSp (ap_all h) (.cons dx (.cons dy .nil)) hH (fun d M2 z G2 H2 ⟨b, ed, hp⟩ s2 h2 dz => by subst ed; exact ⟨b, dz.bl_inv, hP _ _ _ _ _ hp s2 h2 den_bl⟩) noX
  refine PySem.W.cmp_K (op := .Eq) (tb := t) hr.units0 hF I.ok.mod.kin J (Z.ty _ _ I.kIn pz) hn hs hf ?_
  refine wpAny_mono (run_d (dsv := []) (dvs := []) (W := fun _ _ _ _ => False) (us := [.ref a, u']) (vs := [.ref a, u]) F hr hb .nil takes0 I (.cons rfl (.cons ry .nil)) (by rw [List.append_nil]; exact hsp)) (fun r s' q => ?_) fun _ _ z => z
  obtain ⟨z, H', I', rz, b, ez, q⟩ := q
  subst ez
  cases rz
  exact ⟨.bl b, H', I', rfl, q⟩
end
/-! ### defs with defaults -/
structure FunV (K : PySem.W.Frag) (x qual : Str) (st : Stmt) (f : Addr) (fd : FuncData) : Prop where
  ex : ∃ (oc : Value) (od : Option Addr) (dV kV doc pm : Value) (an : Option Addr) (cdv ct : Value) (osl : Array (Option Value)),
    fd = PySem.W.fnOf x qual (defArgs st) (defBody st) (defScope st) dV kV doc pm an cdv ct ∧ K.lookup f = some ⟨oc, od, .func fd, osl⟩ ∧ PySem.W.codeIn K cdv qual = true
  kp : PySem.W.keepIn K (.ref f) = true
theorem fn_dV {P : Program} {w : World} {K : PySem.W.Frag} {mg : Str → Option Value} {base : Heap} {x qual : Str} {st : Stmt} {f : Addr} {fd : FuncData} {N ps : List Str} {k : Nat} {S : Spc} (T : Bool) (F : FunV K x qual st f fd) (Sc : FnScope N ps (defScope st)) (hT : T = true → ∃ x ∈ ps, (defScope st).names.lookup x = some .local) (len : ∀ ds M P E, S ds M P E → ds.length = ps.length)
    (body : ∀ (cdv : Value) (A : Around) (outer : List Env) (s : Shared) (H : Hp) (E : XK), Room k (A.deeper (PyProof.Rows.envOfC qual (defScope st) s.heap.objs.size f cdv)) → ∀ ds M Pd PE, S ds M Pd PE →
      WS (cxOf (L2.CX P w) P w K mg base N qual (defScope st) f cdv A outer s H E) T (defBody st) (startT N ds) M (retR Pd PE)) : FnD P w K mg base (k + 1) f fd ps S := by
  obtain ⟨oc, od, dV, kV, doc, pm, an, cdv, ct, osl, rfl, lk, hcd⟩ := F.ex
  refine fn_w (T := T) lk hcd Sc hT (fun vs H Q E h => ?_) (fun A outer s H vs Q E hr h => ?_)
  · obtain ⟨G, ds, M, Pd, PE, dv, _, hs, _⟩ := h
    rw [dv.length]; exact len _ _ _ _ hs
  · obtain ⟨G, ds, M, Pd, PE, dv, hH, hs, hP, hX⟩ := h
    exact (body cdv A outer s H E hr ds M Pd PE hs).run _ (takes_of rfl rfl rfl rfl) _ G H (denE_start dv) hH _ (cs_ret hP fun x M2 G2 H2 d p s h dx σ => hX x M2 G2 H2 d p s h dx)
/-! ### isinstance between classes -/
section
variable {K : PySem.W.Frag} {C D : Addr} {b : Bool}
theorem kit_ty {T : String} (h : PySem.W.subIn K (.ref C) (.type T) = some b) (hm : PySem.W.kitMeta T = true := by rfl) : PySem.W.kitOne K (.ref C) (.type T) = some b := by
  show (if (Value.ref C == Value.type T) = true then some true else if PySem.W.kitMeta T = true then PySem.W.subIn K (.ref C) (.type T) else none) = some b
  rw [if_neg (by simp), if_pos hm]
  exact h
theorem kit_self {t : Value} : PySem.W.kitOne K t t = some true := by
  unfold PySem.W.kitOne
  rw [if_pos (by simp)]
theorem kit_rr (h2 : PySem.W.isClsIn K D = true) (h3 : PySem.W.typeIn K (.ref D) = some (.type "type")) (h : PySem.W.subIn K (.ref C) (.ref D) = some b) (hs : C = D → b = true) : PySem.W.kitOne K (.ref C) (.ref D) = some b := by
  by_cases e : C = D
  · subst e; rw [hs rfl]; exact kit_self
  · have e2 : ((PySem.W.clsIn K D).isSome && PySem.W.typeIn K (.ref D) == some (.type "type")) = true := by
      have h2' : (PySem.W.clsIn K D).isSome = true := h2
      rw [h2', h3] <;> rfl
    show (if (Value.ref C == Value.ref D) = true then some true else if ((PySem.W.clsIn K D).isSome && PySem.W.typeIn K (.ref D) == some (.type "type")) = true then PySem.W.subIn K (.ref C) (.ref D) else none) = some b
    rw [if_neg (by simpa using e), if_pos e2]
    exact h
theorem kit_rr2 (h2 : PySem.W.isClsIn K D = true) (h3 : PySem.W.typeIn K (.ref D) = some (.type "type")) (hself : PySem.W.mroIn K C (.ref C) = some true) (h : PySem.W.subIn K (.ref C) (.ref D) = some b) : PySem.W.kitOne K (.ref C) (.ref D) = some b := kit_rr h2 h3 h fun e => by
  subst e
  have z : PySem.W.subIn K (.ref C) (.ref C) = some true := hself
  rw [z] at h
  exact (Option.some.inj h).symm
theorem kit_tr {T : String} (h2 : PySem.W.isClsIn K D = true) (h3 : PySem.W.typeIn K (.ref D) = some (.type "type")) (h : PySem.W.subIn K (.type T) (.ref D) = some false) : PySem.W.kitOne K (.type T) (.ref D) = some false := by
  have e2 : ((PySem.W.clsIn K D).isSome && PySem.W.typeIn K (.ref D) == some (.type "type")) = true := by
    have h2' : (PySem.W.clsIn K D).isSome = true := h2
    rw [h2', h3] <;> rfl
  show (if (Value.type T == Value.ref D) = true then some true else if ((PySem.W.clsIn K D).isSome && PySem.W.typeIn K (.ref D) == some (.type "type")) = true then PySem.W.subIn K (.type T) (.ref D) else none) = some false
  rw [if_neg (by simp), if_pos e2]
  exact h
end
section
variable {X : Cx} {T : Bool} {τ : TEnv} {M : Mem} {P : PK'} {E : XKx} {e : Expr}
/-- an object of the heap, told with its place -/
def isR : Dat → Bool
  | .dic0 | .lst _ | .tup _ | .obj _ _ _ => true
  | _ => false
theorem den_isR {K : PySem.W.Frag} {G : Hp} {d : Dat} {v : V} (h : isR d = true) (dv : Den K G d v) : ∃ a, v = .ref a := by
  cases d with
  | dic0 => obtain ⟨a, rfl, _⟩ := dv.dic0_inv; exact ⟨a, rfl⟩
  | lst xs => obtain ⟨a, _, rfl, _⟩ := dv.lst_inv; exact ⟨a, rfl⟩
  | tup xs => obtain ⟨a, _, rfl, _⟩ := dv.tup_inv; exact ⟨a, rfl⟩
  | obj C ns xs => obtain ⟨a, _, _, rfl, _⟩ := dv.obj_inv; exact ⟨a, rfl⟩
  | _ => cases h
theorem ex_tag (h : EX X T e τ M (fun d M1 => isR d = true ∧ ∀ a, P (.at a d) M1) E) : EX X T e τ M P E := .mk fun W tk σ G H hE hH Q hP hX =>
  h.run W tk σ G H hE hH Q (fun d M2 v G2 H2 ⟨hr, hp⟩ s h2 dv => by
    obtain ⟨a, rfl⟩ := den_isR hr dv
    exact hP _ _ _ _ _ (hp a) s h2 (den_at dv)) hX
end
theorem kint_ato {K : PySem.W.Frag} {C a : Addr} {ns : List Str} {ds : List Dat} (h : ICls K C) (hk : PySem.W.subIn K (.ref C) (.type "int") = some false) : KInt K (.at a (.obj C ns ds)) := fun M => ⟨_, .at (.obj h), kit_ty hk, fun h => nomatch h⟩
theorem c_bool_b {X : Cx} {M : Mem} {P : PK'} {k : Bool} (h : P (.bl k) M) : BC X (.type "bool") [.bl k] M P := bc_of call_bool1 fun G H vs hH dv Q hP => by
  obtain ⟨v, rfl, d⟩ := one_inv dv
  exact .inr ⟨k, by rw [d.bl_inv], hP _ _ _ _ _ h Stp.refl hH den_bl⟩
theorem atI_nat {α : Type} {xs : List α} {k : Nat} {x : α} (h : xs[k]? = some x) : atI xs (k : Int) = some x := by
  have hk : k < xs.length := (List.getElem?_eq_some_iff.mp h).1
  have e : ixN xs.length (k : Int) = some k := by
    unfold ixN
    simp [hk]
  unfold atI
  rw [e]; exact h
end Kh

set_option Elab.async false
set_option linter.all false
set_option maxRecDepth 100000
set_option maxHeartbeats 2000000
namespace Kh
open PySem PySem.Spec L2
open PySem.W (Frag ksFn)
def top (i : Nat) : Stmt := PySem.Challenge.pw_keptholes_k05_steps_made.main.body.getD i (.Pass ⟨0, 0, 0, 0⟩)
abbrev s_is_whole : Stmt := top 7
abbrev N_is_whole : List Str := ["value"]
abbrev P_is_whole : List Str := ["value"]
theorem sc_is_whole : FnScope N_is_whole P_is_whole (defScope s_is_whole) := ⟨rfl, rfl, rfl, by decide +kernel, rfl, by decide +kernel, by decide +kernel⟩
abbrev s_check_least : Stmt := top 8
abbrev N_check_least : List Str := ["value", "least"]
abbrev P_check_least : List Str := ["value", "least"]
theorem sc_check_least : FnScope N_check_least P_check_least (defScope s_check_least) := ⟨rfl, rfl, rfl, by decide +kernel, rfl, by decide +kernel, by decide +kernel⟩
abbrev s_check_within : Stmt := top 9
abbrev N_check_within : List Str := ["value", "first", "last"]
abbrev P_check_within : List Str := ["value", "first", "last"]
theorem sc_check_within : FnScope N_check_within P_check_within (defScope s_check_within) := ⟨rfl, rfl, rfl, by decide +kernel, rfl, by decide +kernel, by decide +kernel⟩
abbrev s_are_cells : Stmt := top 12
abbrev N_are_cells : List Str := ["value", "cell"]
abbrev P_are_cells : List Str := ["value"]
theorem sc_are_cells : FnScope N_are_cells P_are_cells (defScope s_are_cells) := ⟨rfl, rfl, rfl, by decide +kernel, rfl, by decide +kernel, by decide +kernel⟩
abbrev s_are_steps : Stmt := top 20
abbrev N_are_steps : List Str := ["value", "step"]
abbrev P_are_steps : List Str := ["value"]
theorem sc_are_steps : FnScope N_are_steps P_are_steps (defScope s_are_steps) := ⟨rfl, rfl, rfl, by decide +kernel, rfl, by decide +kernel, by decide +kernel⟩
abbrev s_law_purse : Stmt := top 23
abbrev N_law_purse : List Str := ["script", "at", "cell"]
abbrev P_law_purse : List Str := ["script", "at"]
theorem sc_law_purse : FnScope N_law_purse P_law_purse (defScope s_law_purse) := ⟨rfl, rfl, rfl, by decide +kernel, rfl, by decide +kernel, by decide +kernel⟩
abbrev s_law_draw : Stmt := top 24
abbrev N_law_draw : List Str := ["purse", "many", "digit", "number"]
abbrev P_law_draw : List Str := ["purse", "many"]
theorem sc_law_draw : FnScope N_law_draw P_law_draw (defScope s_law_draw) := ⟨rfl, rfl, rfl, by decide +kernel, rfl, by decide +kernel, by decide +kernel⟩
abbrev s_law_refused : Stmt := top 25
abbrev N_law_refused : List Str := ["way", "value", "found", "e"]
abbrev P_law_refused : List Str := ["way", "value"]
theorem sc_law_refused : FnScope N_law_refused P_law_refused (defScope s_law_refused) := ⟨rfl, rfl, rfl, by decide +kernel, rfl, by decide +kernel, by decide +kernel⟩
abbrev s_law_kinds : Stmt := top 26
abbrev N_law_kinds : List Str := ["step"]
abbrev P_law_kinds : List Str := ["step"]
theorem sc_law_kinds : FnScope N_law_kinds P_law_kinds (defScope s_law_kinds) := ⟨rfl, rfl, rfl, by decide +kernel, rfl, by decide +kernel, by decide +kernel⟩
abbrev s_law : Stmt := top 27
abbrev N_law : List Str := ["script", "sizes", "at", "purse", "steps", "codes", "size", "step", "way", "value", "k"]
abbrev P_law : List Str := ["script"]
theorem sc_law : FnScope N_law P_law (defScope s_law) := ⟨rfl, rfl, rfl, by decide +kernel, rfl, by decide +kernel, by decide +kernel⟩
abbrev s_File_init : Stmt := inClass (top 13) 0
abbrev N_File_init : List Str := ["self", "cells"]
abbrev P_File_init : List Str := ["self", "cells"]
theorem sc_File_init : FnScope N_File_init P_File_init (defScope s_File_init) := ⟨rfl, rfl, rfl, by decide +kernel, rfl, by decide +kernel, by decide +kernel⟩
abbrev s_File_cells : Stmt := inClass (top 13) 1
abbrev N_File_cells : List Str := ["self"]
abbrev P_File_cells : List Str := ["self"]
theorem sc_File_cells : FnScope N_File_cells P_File_cells (defScope s_File_cells) := ⟨rfl, rfl, rfl, by decide +kernel, rfl, by decide +kernel, by decide +kernel⟩
abbrev s_File_len : Stmt := inClass (top 13) 4
abbrev N_File_len : List Str := ["self"]
abbrev P_File_len : List Str := ["self"]
theorem sc_File_len : FnScope N_File_len P_File_len (defScope s_File_len) := ⟨rfl, rfl, rfl, by decide +kernel, rfl, by decide +kernel, by decide +kernel⟩
abbrev s_File_iter : Stmt := inClass (top 13) 5
abbrev N_File_iter : List Str := ["self"]
abbrev P_File_iter : List Str := ["self"]
theorem sc_File_iter : FnScope N_File_iter P_File_iter (defScope s_File_iter) := ⟨rfl, rfl, rfl, by decide +kernel, rfl, by decide +kernel, by decide +kernel⟩
abbrev s_File_getitem : Stmt := inClass (top 13) 6
abbrev N_File_getitem : List Str := ["self", "k"]
abbrev P_File_getitem : List Str := ["self", "k"]
theorem sc_File_getitem : FnScope N_File_getitem P_File_getitem (defScope s_File_getitem) := ⟨rfl, rfl, rfl, by decide +kernel, rfl, by decide +kernel, by decide +kernel⟩
abbrev s_File_eq : Stmt := inClass (top 13) 7
abbrev N_File_eq : List Str := ["self", "other"]
abbrev P_File_eq : List Str := ["self", "other"]
theorem sc_File_eq : FnScope N_File_eq P_File_eq (defScope s_File_eq) := ⟨rfl, rfl, rfl, by decide +kernel, rfl, by decide +kernel, by decide +kernel⟩
abbrev s_Full_eq : Stmt := inClass (top 16) 1
abbrev N_Full_eq : List Str := ["self", "other"]
abbrev P_Full_eq : List Str := ["self", "other"]
theorem sc_Full_eq : FnScope N_Full_eq P_Full_eq (defScope s_Full_eq) := ⟨rfl, rfl, rfl, by decide +kernel, rfl, by decide +kernel, by decide +kernel⟩
abbrev s_Keep_init : Stmt := inClass (top 17) 0
abbrev N_Keep_init : List Str := ["self", "size"]
abbrev P_Keep_init : List Str := ["self", "size"]
theorem sc_Keep_init : FnScope N_Keep_init P_Keep_init (defScope s_Keep_init) := ⟨rfl, rfl, rfl, by decide +kernel, rfl, by decide +kernel, by decide +kernel⟩
abbrev s_Keep_size : Stmt := inClass (top 17) 1
abbrev N_Keep_size : List Str := ["self"]
abbrev P_Keep_size : List Str := ["self"]
theorem sc_Keep_size : FnScope N_Keep_size P_Keep_size (defScope s_Keep_size) := ⟨rfl, rfl, rfl, by decide +kernel, rfl, by decide +kernel, by decide +kernel⟩
abbrev s_Keep_eq : Stmt := inClass (top 17) 3
abbrev N_Keep_eq : List Str := ["self", "other"]
abbrev P_Keep_eq : List Str := ["self", "other"]
theorem sc_Keep_eq : FnScope N_Keep_eq P_Keep_eq (defScope s_Keep_eq) := ⟨rfl, rfl, rfl, by decide +kernel, rfl, by decide +kernel, by decide +kernel⟩
abbrev s_Lean_init : Stmt := inClass (top 18) 0
abbrev N_Lean_init : List Str := ["self", "size"]
abbrev P_Lean_init : List Str := ["self", "size"]
theorem sc_Lean_init : FnScope N_Lean_init P_Lean_init (defScope s_Lean_init) := ⟨rfl, rfl, rfl, by decide +kernel, rfl, by decide +kernel, by decide +kernel⟩
abbrev s_Lean_size : Stmt := inClass (top 18) 1
abbrev N_Lean_size : List Str := ["self"]
abbrev P_Lean_size : List Str := ["self"]
theorem sc_Lean_size : FnScope N_Lean_size P_Lean_size (defScope s_Lean_size) := ⟨rfl, rfl, rfl, by decide +kernel, rfl, by decide +kernel, by decide +kernel⟩
abbrev s_Lean_eq : Stmt := inClass (top 18) 3
abbrev N_Lean_eq : List Str := ["self", "other"]
abbrev P_Lean_eq : List Str := ["self", "other"]
theorem sc_Lean_eq : FnScope N_Lean_eq P_Lean_eq (defScope s_Lean_eq) := ⟨rfl, rfl, rfl, by decide +kernel, rfl, by decide +kernel, by decide +kernel⟩
abbrev s_Dig_init : Stmt := inClass (top 19) 0
abbrev N_Dig_init : List Str := ["self", "size"]
abbrev P_Dig_init : List Str := ["self", "size"]
theorem sc_Dig_init : FnScope N_Dig_init P_Dig_init (defScope s_Dig_init) := ⟨rfl, rfl, rfl, by decide +kernel, rfl, by decide +kernel, by decide +kernel⟩
abbrev s_Dig_size : Stmt := inClass (top 19) 1
abbrev N_Dig_size : List Str := ["self"]
abbrev P_Dig_size : List Str := ["self"]
theorem sc_Dig_size : FnScope N_Dig_size P_Dig_size (defScope s_Dig_size) := ⟨rfl, rfl, rfl, by decide +kernel, rfl, by decide +kernel, by decide +kernel⟩
abbrev s_Dig_eq : Stmt := inClass (top 19) 3
abbrev N_Dig_eq : List Str := ["self", "other"]
abbrev P_Dig_eq : List Str := ["self", "other"]
theorem sc_Dig_eq : FnScope N_Dig_eq P_Dig_eq (defScope s_Dig_eq) := ⟨rfl, rfl, rfl, by decide +kernel, rfl, by decide +kernel, by decide +kernel⟩
abbrev s_Script_init : Stmt := inClass (top 21) 0
abbrev N_Script_init : List Str := ["self", "steps", "rows"]
abbrev P_Script_init : List Str := ["self", "steps"]
theorem sc_Script_init : FnScope N_Script_init P_Script_init (defScope s_Script_init) := ⟨rfl, rfl, rfl, by decide +kernel, rfl, by decide +kernel, by decide +kernel⟩
abbrev s_Script_len : Stmt := inClass (top 21) 2
abbrev N_Script_len : List Str := ["self"]
abbrev P_Script_len : List Str := ["self"]
theorem sc_Script_len : FnScope N_Script_len P_Script_len (defScope s_Script_len) := ⟨rfl, rfl, rfl, by decide +kernel, rfl, by decide +kernel, by decide +kernel⟩
abbrev s_Script_iter : Stmt := inClass (top 21) 3
abbrev N_Script_iter : List Str := ["self"]
abbrev P_Script_iter : List Str := ["self"]
theorem sc_Script_iter : FnScope N_Script_iter P_Script_iter (defScope s_Script_iter) := ⟨rfl, rfl, rfl, by decide +kernel, rfl, by decide +kernel, by decide +kernel⟩
abbrev s_Script_getitem : Stmt := inClass (top 21) 4
abbrev N_Script_getitem : List Str := ["self", "k"]
abbrev P_Script_getitem : List Str := ["self", "k"]
theorem sc_Script_getitem : FnScope N_Script_getitem P_Script_getitem (defScope s_Script_getitem) := ⟨rfl, rfl, rfl, by decide +kernel, rfl, by decide +kernel, by decide +kernel⟩
abbrev s_Script_eq : Stmt := inClass (top 21) 5
abbrev N_Script_eq : List Str := ["self", "other"]
abbrev P_Script_eq : List Str := ["self", "other"]
theorem sc_Script_eq : FnScope N_Script_eq P_Script_eq (defScope s_Script_eq) := ⟨rfl, rfl, rfl, by decide +kernel, rfl, by decide +kernel, by decide +kernel⟩
abbrev s_Script_add : Stmt := inClass (top 21) 6
abbrev N_Script_add : List Str := ["self", "other"]
abbrev P_Script_add : List Str := ["self", "other"]
theorem sc_Script_add : FnScope N_Script_add P_Script_add (defScope s_Script_add) := ⟨rfl, rfl, rfl, by decide +kernel, rfl, by decide +kernel, by decide +kernel⟩
abbrev s_Script_mul : Stmt := inClass (top 21) 7
abbrev N_Script_mul : List Str := ["self", "times"]
abbrev P_Script_mul : List Str := ["self", "times"]
theorem sc_Script_mul : FnScope N_Script_mul P_Script_mul (defScope s_Script_mul) := ⟨rfl, rfl, rfl, by decide +kernel, rfl, by decide +kernel, by decide +kernel⟩
abbrev s_Script_without : Stmt := inClass (top 21) 8
abbrev N_Script_without : List Str := ["self", "k"]
abbrev P_Script_without : List Str := ["self", "k"]
theorem sc_Script_without : FnScope N_Script_without P_Script_without (defScope s_Script_without) := ⟨rfl, rfl, rfl, by decide +kernel, rfl, by decide +kernel, by decide +kernel⟩
abbrev si_InvalidFile : Stmt := inClass (top 3) 0
abbrev si_InvalidNumber : Stmt := inClass (top 4) 0
abbrev si_InvalidScript : Stmt := inClass (top 5) 0
structure Prg (K : Frag) (mg : Str → Option Value) where
  n_ValueError : mg "ValueError" = none
  n_bool : mg "bool" = none
  n_enumerate : mg "enumerate" = none
  n_int : mg "int" = none
  n_isinstance : mg "isinstance" = none
  n_iter : mg "iter" = none
  n_len : mg "len" = none
  n_list : mg "list" = none
  n_property : mg "property" = none
  n_range : mg "range" = none
  n_str : mg "str" = none
  n_sum : mg "sum" = none
  n_super : mg "super" = none
  n_tuple : mg "tuple" = none
  tg_SIGNS : Tok
  g_SIGNS : mg "SIGNS" = some (.str "abcdefghijklmnopqrstuvwxyz" tg_SIGNS)
  C_File : Addr
  mc_File : mg "File" = some (.ref C_File)
  C_Step : Addr
  mc_Step : mg "Step" = some (.ref C_Step)
  C_Full : Addr
  mc_Full : mg "Full" = some (.ref C_Full)
  C_Keep : Addr
  mc_Keep : mg "Keep" = some (.ref C_Keep)
  C_Lean : Addr
  mc_Lean : mg "Lean" = some (.ref C_Lean)
  C_Dig : Addr
  mc_Dig : mg "Dig" = some (.ref C_Dig)
  C_Script : Addr
  mc_Script : mg "Script" = some (.ref C_Script)
  f_is_whole : Addr
  d_is_whole : FuncData
  F_is_whole : Fun K "is_whole" "is_whole" s_is_whole f_is_whole d_is_whole
  b_is_whole : Binds K d_is_whole P_is_whole []
  m_is_whole : mg "is_whole" = some (.ref f_is_whole)
  f_check_least : Addr
  d_check_least : FuncData
  F_check_least : Fun K "check_least" "check_least" s_check_least f_check_least d_check_least
  b_check_least : Binds K d_check_least P_check_least []
  m_check_least : mg "check_least" = some (.ref f_check_least)
  f_check_within : Addr
  d_check_within : FuncData
  F_check_within : Fun K "check_within" "check_within" s_check_within f_check_within d_check_within
  b_check_within : Binds K d_check_within P_check_within []
  m_check_within : mg "check_within" = some (.ref f_check_within)
  f_are_cells : Addr
  d_are_cells : FuncData
  F_are_cells : Fun K "are_cells" "are_cells" s_are_cells f_are_cells d_are_cells
  b_are_cells : Binds K d_are_cells P_are_cells []
  m_are_cells : mg "are_cells" = some (.ref f_are_cells)
  f_are_steps : Addr
  d_are_steps : FuncData
  F_are_steps : Fun K "are_steps" "are_steps" s_are_steps f_are_steps d_are_steps
  b_are_steps : Binds K d_are_steps P_are_steps []
  m_are_steps : mg "are_steps" = some (.ref f_are_steps)
  f_law_purse : Addr
  d_law_purse : FuncData
  F_law_purse : Fun K "_law_purse" "_law_purse" s_law_purse f_law_purse d_law_purse
  b_law_purse : Binds K d_law_purse P_law_purse []
  m_law_purse : mg "_law_purse" = some (.ref f_law_purse)
  f_law_draw : Addr
  d_law_draw : FuncData
  F_law_draw : Fun K "_law_draw" "_law_draw" s_law_draw f_law_draw d_law_draw
  b_law_draw : Binds K d_law_draw P_law_draw []
  m_law_draw : mg "_law_draw" = some (.ref f_law_draw)
  f_law_refused : Addr
  d_law_refused : FuncData
  F_law_refused : Fun K "_law_refused" "_law_refused" s_law_refused f_law_refused d_law_refused
  b_law_refused : Binds K d_law_refused P_law_refused []
  m_law_refused : mg "_law_refused" = some (.ref f_law_refused)
  f_law_kinds : Addr
  d_law_kinds : FuncData
  F_law_kinds : Fun K "_law_kinds" "_law_kinds" s_law_kinds f_law_kinds d_law_kinds
  b_law_kinds : Binds K d_law_kinds P_law_kinds []
  m_law_kinds : mg "_law_kinds" = some (.ref f_law_kinds)
  f_law : Addr
  d_law : FuncData
  F_law : Fun K "law" "law" s_law f_law d_law
  b_law : Binds K d_law P_law []
  m_law : mg "law" = some (.ref f_law)
  tk0_File_init : Tok
  f_File_init : Addr
  d_File_init : FuncData
  F_File_init : FunV K "__init__" "File.__init__" s_File_init f_File_init d_File_init
  b_File_init : Binds K d_File_init P_File_init []
  b1_File_init : Binds K d_File_init P_File_init [(.str "" tk0_File_init)]
  M_File_init : Meth K C_File "__init__" f_File_init
  f_File_cells : Addr
  d_File_cells : FuncData
  F_File_cells : Fun K "cells" "File.cells" s_File_cells f_File_cells d_File_cells
  b_File_cells : Binds K d_File_cells P_File_cells []
  pr_File_cells : Addr
  V_File_cells : PropOf K C_File "cells" pr_File_cells f_File_cells
  f_File_len : Addr
  d_File_len : FuncData
  F_File_len : Fun K "__len__" "File.__len__" s_File_len f_File_len d_File_len
  b_File_len : Binds K d_File_len P_File_len []
  M_File_len : Meth K C_File "__len__" f_File_len
  f_File_iter : Addr
  d_File_iter : FuncData
  F_File_iter : Fun K "__iter__" "File.__iter__" s_File_iter f_File_iter d_File_iter
  b_File_iter : Binds K d_File_iter P_File_iter []
  M_File_iter : Meth K C_File "__iter__" f_File_iter
  f_File_getitem : Addr
  d_File_getitem : FuncData
  F_File_getitem : Fun K "__getitem__" "File.__getitem__" s_File_getitem f_File_getitem d_File_getitem
  b_File_getitem : Binds K d_File_getitem P_File_getitem []
  M_File_getitem : Meth K C_File "__getitem__" f_File_getitem
  f_File_eq : Addr
  d_File_eq : FuncData
  F_File_eq : Fun K "__eq__" "File.__eq__" s_File_eq f_File_eq d_File_eq
  b_File_eq : Binds K d_File_eq P_File_eq []
  M_File_eq : Meth K C_File "__eq__" f_File_eq
  f_Full_eq : Addr
  d_Full_eq : FuncData
  F_Full_eq : Fun K "__eq__" "Full.__eq__" s_Full_eq f_Full_eq d_Full_eq
  b_Full_eq : Binds K d_Full_eq P_Full_eq []
  M_Full_eq : Meth K C_Full "__eq__" f_Full_eq
  f_Keep_init : Addr
  d_Keep_init : FuncData
  F_Keep_init : Fun K "__init__" "Keep.__init__" s_Keep_init f_Keep_init d_Keep_init
  b_Keep_init : Binds K d_Keep_init P_Keep_init []
  M_Keep_init : Meth K C_Keep "__init__" f_Keep_init
  f_Keep_size : Addr
  d_Keep_size : FuncData
  F_Keep_size : Fun K "size" "Keep.size" s_Keep_size f_Keep_size d_Keep_size
  b_Keep_size : Binds K d_Keep_size P_Keep_size []
  pr_Keep_size : Addr
  V_Keep_size : PropOf K C_Keep "size" pr_Keep_size f_Keep_size
  f_Keep_eq : Addr
  d_Keep_eq : FuncData
  F_Keep_eq : Fun K "__eq__" "Keep.__eq__" s_Keep_eq f_Keep_eq d_Keep_eq
  b_Keep_eq : Binds K d_Keep_eq P_Keep_eq []
  M_Keep_eq : Meth K C_Keep "__eq__" f_Keep_eq
  f_Lean_init : Addr
  d_Lean_init : FuncData
  F_Lean_init : Fun K "__init__" "Lean.__init__" s_Lean_init f_Lean_init d_Lean_init
  b_Lean_init : Binds K d_Lean_init P_Lean_init []
  M_Lean_init : Meth K C_Lean "__init__" f_Lean_init
  f_Lean_size : Addr
  d_Lean_size : FuncData
  F_Lean_size : Fun K "size" "Lean.size" s_Lean_size f_Lean_size d_Lean_size
  b_Lean_size : Binds K d_Lean_size P_Lean_size []
  pr_Lean_size : Addr
  V_Lean_size : PropOf K C_Lean "size" pr_Lean_size f_Lean_size
  f_Lean_eq : Addr
  d_Lean_eq : FuncData
  F_Lean_eq : Fun K "__eq__" "Lean.__eq__" s_Lean_eq f_Lean_eq d_Lean_eq
  b_Lean_eq : Binds K d_Lean_eq P_Lean_eq []
  M_Lean_eq : Meth K C_Lean "__eq__" f_Lean_eq
  f_Dig_init : Addr
  d_Dig_init : FuncData
  F_Dig_init : Fun K "__init__" "Dig.__init__" s_Dig_init f_Dig_init d_Dig_init
  b_Dig_init : Binds K d_Dig_init P_Dig_init []
  M_Dig_init : Meth K C_Dig "__init__" f_Dig_init
  f_Dig_size : Addr
  d_Dig_size : FuncData
  F_Dig_size : Fun K "size" "Dig.size" s_Dig_size f_Dig_size d_Dig_size
  b_Dig_size : Binds K d_Dig_size P_Dig_size []
  pr_Dig_size : Addr
  V_Dig_size : PropOf K C_Dig "size" pr_Dig_size f_Dig_size
  f_Dig_eq : Addr
  d_Dig_eq : FuncData
  F_Dig_eq : Fun K "__eq__" "Dig.__eq__" s_Dig_eq f_Dig_eq d_Dig_eq
  b_Dig_eq : Binds K d_Dig_eq P_Dig_eq []
  M_Dig_eq : Meth K C_Dig "__eq__" f_Dig_eq
  f_Script_init : Addr
  d_Script_init : FuncData
  F_Script_init : FunV K "__init__" "Script.__init__" s_Script_init f_Script_init d_Script_init
  b_Script_init : Binds K d_Script_init P_Script_init []
  b1_Script_init : Binds K d_Script_init P_Script_init [.none]
  M_Script_init : Meth K C_Script "__init__" f_Script_init
  f_Script_len : Addr
  d_Script_len : FuncData
  F_Script_len : Fun K "__len__" "Script.__len__" s_Script_len f_Script_len d_Script_len
  b_Script_len : Binds K d_Script_len P_Script_len []
  M_Script_len : Meth K C_Script "__len__" f_Script_len
  f_Script_iter : Addr
  d_Script_iter : FuncData
  F_Script_iter : Fun K "__iter__" "Script.__iter__" s_Script_iter f_Script_iter d_Script_iter
  b_Script_iter : Binds K d_Script_iter P_Script_iter []
  M_Script_iter : Meth K C_Script "__iter__" f_Script_iter
  f_Script_getitem : Addr
  d_Script_getitem : FuncData
  F_Script_getitem : Fun K "__getitem__" "Script.__getitem__" s_Script_getitem f_Script_getitem d_Script_getitem
  b_Script_getitem : Binds K d_Script_getitem P_Script_getitem []
  M_Script_getitem : Meth K C_Script "__getitem__" f_Script_getitem
  f_Script_eq : Addr
  d_Script_eq : FuncData
  F_Script_eq : Fun K "__eq__" "Script.__eq__" s_Script_eq f_Script_eq d_Script_eq
  b_Script_eq : Binds K d_Script_eq P_Script_eq []
  M_Script_eq : Meth K C_Script "__eq__" f_Script_eq
  f_Script_add : Addr
  d_Script_add : FuncData
  F_Script_add : Fun K "__add__" "Script.__add__" s_Script_add f_Script_add d_Script_add
  b_Script_add : Binds K d_Script_add P_Script_add []
  M_Script_add : Meth K C_Script "__add__" f_Script_add
  f_Script_mul : Addr
  d_Script_mul : FuncData
  F_Script_mul : Fun K "__mul__" "Script.__mul__" s_Script_mul f_Script_mul d_Script_mul
  b_Script_mul : Binds K d_Script_mul P_Script_mul []
  M_Script_mul : Meth K C_Script "__mul__" f_Script_mul
  f_Script_without : Addr
  d_Script_without : FuncData
  F_Script_without : Fun K "without" "Script.without" s_Script_without f_Script_without d_Script_without
  b_Script_without : Binds K d_Script_without P_Script_without []
  M_Script_without : Meth K C_Script "without" f_Script_without
  L_File : ICls K C_File
  K_File : Mk K C_File f_File_init
  A_File_row : NoAttr K C_File "row"
  L_Step : ICls K C_Step
  K_Step : Mk0 K C_Step
  L_Full : ICls K C_Full
  K_Full : Mk0 K C_Full
  L_Keep : ICls K C_Keep
  K_Keep : Mk K C_Keep f_Keep_init
  A_Keep_wide : NoAttr K C_Keep "wide"
  L_Lean : ICls K C_Lean
  K_Lean : Mk K C_Lean f_Lean_init
  A_Lean_wide : NoAttr K C_Lean "wide"
  L_Dig : ICls K C_Dig
  K_Dig : Mk K C_Dig f_Dig_init
  A_Dig_wide : NoAttr K C_Dig "wide"
  L_Script : ICls K C_Script
  K_Script : Mk K C_Script f_Script_init
  A_Script_rows : NoAttr K C_Script "rows"
  ic_Dig : PySem.W.isClsIn K C_Dig = true
  tc_Dig : PySem.W.typeIn K (.ref C_Dig) = some (.type "type")
  ic_File : PySem.W.isClsIn K C_File = true
  tc_File : PySem.W.typeIn K (.ref C_File) = some (.type "type")
  ic_Full : PySem.W.isClsIn K C_Full = true
  tc_Full : PySem.W.typeIn K (.ref C_Full) = some (.type "type")
  ic_Keep : PySem.W.isClsIn K C_Keep = true
  tc_Keep : PySem.W.typeIn K (.ref C_Keep) = some (.type "type")
  ic_Lean : PySem.W.isClsIn K C_Lean = true
  tc_Lean : PySem.W.typeIn K (.ref C_Lean) = some (.type "type")
  ic_Script : PySem.W.isClsIn K C_Script = true
  tc_Script : PySem.W.typeIn K (.ref C_Script) = some (.type "type")
  ic_Step : PySem.W.isClsIn K C_Step = true
  tc_Step : PySem.W.typeIn K (.ref C_Step) = some (.type "type")
  s_File_Dig : PySem.W.kitOne K (.ref C_File) (.ref C_Dig) = some false
  s_File_File : PySem.W.kitOne K (.ref C_File) (.ref C_File) = some true
  s_File_Full : PySem.W.kitOne K (.ref C_File) (.ref C_Full) = some false
  s_File_Keep : PySem.W.kitOne K (.ref C_File) (.ref C_Keep) = some false
  s_File_Lean : PySem.W.kitOne K (.ref C_File) (.ref C_Lean) = some false
  s_File_Script : PySem.W.kitOne K (.ref C_File) (.ref C_Script) = some false
  s_File_Step : PySem.W.kitOne K (.ref C_File) (.ref C_Step) = some false
  si_File_bool : PySem.W.subIn K (.ref C_File) (.type "bool") = some false
  si_File_int : PySem.W.subIn K (.ref C_File) (.type "int") = some false
  si_File_list : PySem.W.subIn K (.ref C_File) (.type "list") = some false
  si_File_str : PySem.W.subIn K (.ref C_File) (.type "str") = some false
  nf_Full_File : PySem.W.notFirst K C_Full (.ref C_File) = true
  nf_Keep_File : PySem.W.notFirst K C_Keep (.ref C_File) = true
  nf_Lean_File : PySem.W.notFirst K C_Lean (.ref C_File) = true
  nf_Dig_File : PySem.W.notFirst K C_Dig (.ref C_File) = true
  nf_Script_File : PySem.W.notFirst K C_Script (.ref C_File) = true
  s_Step_Dig : PySem.W.kitOne K (.ref C_Step) (.ref C_Dig) = some false
  s_Step_File : PySem.W.kitOne K (.ref C_Step) (.ref C_File) = some false
  s_Step_Full : PySem.W.kitOne K (.ref C_Step) (.ref C_Full) = some false
  s_Step_Keep : PySem.W.kitOne K (.ref C_Step) (.ref C_Keep) = some false
  s_Step_Lean : PySem.W.kitOne K (.ref C_Step) (.ref C_Lean) = some false
  s_Step_Script : PySem.W.kitOne K (.ref C_Step) (.ref C_Script) = some false
  s_Step_Step : PySem.W.kitOne K (.ref C_Step) (.ref C_Step) = some true
  si_Step_bool : PySem.W.subIn K (.ref C_Step) (.type "bool") = some false
  si_Step_int : PySem.W.subIn K (.ref C_Step) (.type "int") = some false
  si_Step_list : PySem.W.subIn K (.ref C_Step) (.type "list") = some false
  si_Step_str : PySem.W.subIn K (.ref C_Step) (.type "str") = some false
  nf_File_Step : PySem.W.notFirst K C_File (.ref C_Step) = true
  nf_Full_Step : PySem.W.notFirst K C_Full (.ref C_Step) = true
  nf_Keep_Step : PySem.W.notFirst K C_Keep (.ref C_Step) = true
  nf_Lean_Step : PySem.W.notFirst K C_Lean (.ref C_Step) = true
  nf_Dig_Step : PySem.W.notFirst K C_Dig (.ref C_Step) = true
  nf_Script_Step : PySem.W.notFirst K C_Script (.ref C_Step) = true
  s_Full_Dig : PySem.W.kitOne K (.ref C_Full) (.ref C_Dig) = some false
  s_Full_File : PySem.W.kitOne K (.ref C_Full) (.ref C_File) = some false
  s_Full_Full : PySem.W.kitOne K (.ref C_Full) (.ref C_Full) = some true
  s_Full_Keep : PySem.W.kitOne K (.ref C_Full) (.ref C_Keep) = some false
  s_Full_Lean : PySem.W.kitOne K (.ref C_Full) (.ref C_Lean) = some false
  s_Full_Script : PySem.W.kitOne K (.ref C_Full) (.ref C_Script) = some false
  s_Full_Step : PySem.W.kitOne K (.ref C_Full) (.ref C_Step) = some true
  si_Full_bool : PySem.W.subIn K (.ref C_Full) (.type "bool") = some false
  si_Full_int : PySem.W.subIn K (.ref C_Full) (.type "int") = some false
  si_Full_list : PySem.W.subIn K (.ref C_Full) (.type "list") = some false
  si_Full_str : PySem.W.subIn K (.ref C_Full) (.type "str") = some false
  nf_File_Full : PySem.W.notFirst K C_File (.ref C_Full) = true
  nf_Keep_Full : PySem.W.notFirst K C_Keep (.ref C_Full) = true
  nf_Lean_Full : PySem.W.notFirst K C_Lean (.ref C_Full) = true
  nf_Dig_Full : PySem.W.notFirst K C_Dig (.ref C_Full) = true
  nf_Script_Full : PySem.W.notFirst K C_Script (.ref C_Full) = true
  s_Keep_Dig : PySem.W.kitOne K (.ref C_Keep) (.ref C_Dig) = some false
  s_Keep_File : PySem.W.kitOne K (.ref C_Keep) (.ref C_File) = some false
  s_Keep_Full : PySem.W.kitOne K (.ref C_Keep) (.ref C_Full) = some false
  s_Keep_Keep : PySem.W.kitOne K (.ref C_Keep) (.ref C_Keep) = some true
  s_Keep_Lean : PySem.W.kitOne K (.ref C_Keep) (.ref C_Lean) = some false
  s_Keep_Script : PySem.W.kitOne K (.ref C_Keep) (.ref C_Script) = some false
  s_Keep_Step : PySem.W.kitOne K (.ref C_Keep) (.ref C_Step) = some true
  si_Keep_bool : PySem.W.subIn K (.ref C_Keep) (.type "bool") = some false
  si_Keep_int : PySem.W.subIn K (.ref C_Keep) (.type "int") = some false
  si_Keep_list : PySem.W.subIn K (.ref C_Keep) (.type "list") = some false
  si_Keep_str : PySem.W.subIn K (.ref C_Keep) (.type "str") = some false
  nf_File_Keep : PySem.W.notFirst K C_File (.ref C_Keep) = true
  nf_Full_Keep : PySem.W.notFirst K C_Full (.ref C_Keep) = true
  nf_Lean_Keep : PySem.W.notFirst K C_Lean (.ref C_Keep) = true
  nf_Dig_Keep : PySem.W.notFirst K C_Dig (.ref C_Keep) = true
  nf_Script_Keep : PySem.W.notFirst K C_Script (.ref C_Keep) = true
  s_Lean_Dig : PySem.W.kitOne K (.ref C_Lean) (.ref C_Dig) = some false
  s_Lean_File : PySem.W.kitOne K (.ref C_Lean) (.ref C_File) = some false
  s_Lean_Full : PySem.W.kitOne K (.ref C_Lean) (.ref C_Full) = some false
  s_Lean_Keep : PySem.W.kitOne K (.ref C_Lean) (.ref C_Keep) = some false
  s_Lean_Lean : PySem.W.kitOne K (.ref C_Lean) (.ref C_Lean) = some true
  s_Lean_Script : PySem.W.kitOne K (.ref C_Lean) (.ref C_Script) = some false
  s_Lean_Step : PySem.W.kitOne K (.ref C_Lean) (.ref C_Step) = some true
  si_Lean_bool : PySem.W.subIn K (.ref C_Lean) (.type "bool") = some false
  si_Lean_int : PySem.W.subIn K (.ref C_Lean) (.type "int") = some false
  si_Lean_list : PySem.W.subIn K (.ref C_Lean) (.type "list") = some false
  si_Lean_str : PySem.W.subIn K (.ref C_Lean) (.type "str") = some false
  nf_File_Lean : PySem.W.notFirst K C_File (.ref C_Lean) = true
  nf_Full_Lean : PySem.W.notFirst K C_Full (.ref C_Lean) = true
  nf_Keep_Lean : PySem.W.notFirst K C_Keep (.ref C_Lean) = true
  nf_Dig_Lean : PySem.W.notFirst K C_Dig (.ref C_Lean) = true
  nf_Script_Lean : PySem.W.notFirst K C_Script (.ref C_Lean) = true
  s_Dig_Dig : PySem.W.kitOne K (.ref C_Dig) (.ref C_Dig) = some true
  s_Dig_File : PySem.W.kitOne K (.ref C_Dig) (.ref C_File) = some false
  s_Dig_Full : PySem.W.kitOne K (.ref C_Dig) (.ref C_Full) = some false
  s_Dig_Keep : PySem.W.kitOne K (.ref C_Dig) (.ref C_Keep) = some false
  s_Dig_Lean : PySem.W.kitOne K (.ref C_Dig) (.ref C_Lean) = some false
  s_Dig_Script : PySem.W.kitOne K (.ref C_Dig) (.ref C_Script) = some false
  s_Dig_Step : PySem.W.kitOne K (.ref C_Dig) (.ref C_Step) = some true
  si_Dig_bool : PySem.W.subIn K (.ref C_Dig) (.type "bool") = some false
  si_Dig_int : PySem.W.subIn K (.ref C_Dig) (.type "int") = some false
  si_Dig_list : PySem.W.subIn K (.ref C_Dig) (.type "list") = some false
  si_Dig_str : PySem.W.subIn K (.ref C_Dig) (.type "str") = some false
  nf_File_Dig : PySem.W.notFirst K C_File (.ref C_Dig) = true
  nf_Full_Dig : PySem.W.notFirst K C_Full (.ref C_Dig) = true
  nf_Keep_Dig : PySem.W.notFirst K C_Keep (.ref C_Dig) = true
  nf_Lean_Dig : PySem.W.notFirst K C_Lean (.ref C_Dig) = true
  nf_Script_Dig : PySem.W.notFirst K C_Script (.ref C_Dig) = true
  s_Script_Dig : PySem.W.kitOne K (.ref C_Script) (.ref C_Dig) = some false
  s_Script_File : PySem.W.kitOne K (.ref C_Script) (.ref C_File) = some false
  s_Script_Full : PySem.W.kitOne K (.ref C_Script) (.ref C_Full) = some false
  s_Script_Keep : PySem.W.kitOne K (.ref C_Script) (.ref C_Keep) = some false
  s_Script_Lean : PySem.W.kitOne K (.ref C_Script) (.ref C_Lean) = some false
  s_Script_Script : PySem.W.kitOne K (.ref C_Script) (.ref C_Script) = some true
  s_Script_Step : PySem.W.kitOne K (.ref C_Script) (.ref C_Step) = some false
  si_Script_bool : PySem.W.subIn K (.ref C_Script) (.type "bool") = some false
  si_Script_int : PySem.W.subIn K (.ref C_Script) (.type "int") = some false
  si_Script_list : PySem.W.subIn K (.ref C_Script) (.type "list") = some false
  si_Script_str : PySem.W.subIn K (.ref C_Script) (.type "str") = some false
  nf_File_Script : PySem.W.notFirst K C_File (.ref C_Script) = true
  nf_Full_Script : PySem.W.notFirst K C_Full (.ref C_Script) = true
  nf_Keep_Script : PySem.W.notFirst K C_Keep (.ref C_Script) = true
  nf_Lean_Script : PySem.W.notFirst K C_Lean (.ref C_Script) = true
  nf_Dig_Script : PySem.W.notFirst K C_Dig (.ref C_Script) = true
  C_InvalidFile : Addr
  I_InvalidFile : Addr
  mc_InvalidFile : mg "InvalidFile" = some (.ref C_InvalidFile)
  S_InvalidFile : SupX PySem.Challenge.rw_keptholes_k05_steps_made.prog K C_InvalidFile I_InvalidFile "value" "value"
  x_InvalidFile : XfC K C_InvalidFile
  e_InvalidFile_InvalidFile : PySem.W.exmOne K (.ref C_InvalidFile) (.ref C_InvalidFile) = some true
  C_InvalidNumber : Addr
  I_InvalidNumber : Addr
  mc_InvalidNumber : mg "InvalidNumber" = some (.ref C_InvalidNumber)
  S_InvalidNumber : SupX PySem.Challenge.rw_keptholes_k05_steps_made.prog K C_InvalidNumber I_InvalidNumber "value" "value"
  x_InvalidNumber : XfC K C_InvalidNumber
  e_InvalidNumber_InvalidNumber : PySem.W.exmOne K (.ref C_InvalidNumber) (.ref C_InvalidNumber) = some true
  C_InvalidScript : Addr
  I_InvalidScript : Addr
  mc_InvalidScript : mg "InvalidScript" = some (.ref C_InvalidScript)
  S_InvalidScript : SupX PySem.Challenge.rw_keptholes_k05_steps_made.prog K C_InvalidScript I_InvalidScript "value" "value"
  x_InvalidScript : XfC K C_InvalidScript
  e_InvalidScript_InvalidScript : PySem.W.exmOne K (.ref C_InvalidScript) (.ref C_InvalidScript) = some true
  e_InvalidFile_InvalidNumber : PySem.W.exmOne K (.ref C_InvalidFile) (.ref C_InvalidNumber) = some false
  e_InvalidFile_InvalidScript : PySem.W.exmOne K (.ref C_InvalidFile) (.ref C_InvalidScript) = some false
  e_InvalidNumber_InvalidFile : PySem.W.exmOne K (.ref C_InvalidNumber) (.ref C_InvalidFile) = some false
  e_InvalidNumber_InvalidScript : PySem.W.exmOne K (.ref C_InvalidNumber) (.ref C_InvalidScript) = some false
  e_InvalidScript_InvalidFile : PySem.W.exmOne K (.ref C_InvalidScript) (.ref C_InvalidFile) = some false
  e_InvalidScript_InvalidNumber : PySem.W.exmOne K (.ref C_InvalidScript) (.ref C_InvalidNumber) = some false
end Kh

set_option Elab.async false
set_option linter.all false
set_option maxRecDepth 100000
set_option maxHeartbeats 2000000
namespace Kh
open PySem PySem.Spec L2
open PySem.W (Frag)
abbrev PR : Program := PySem.Challenge.rw_keptholes_k05_steps_made.prog
section
variable {w : World} {K : Frag} {mg : Str → Option Value} {base : Heap}
/-! plain words -/
/-- a whole number of at least so much -/
def chk (d : Dat) (l : Int) : Bool := match d with
  | .int i => decide (l ≤ i)
  | _ => false
theorem chk_int {d : Dat} {l : Int} (h : chk d l = true) : ∃ i, d = .int i ∧ l ≤ i := by
  cases d <;> first | exact ⟨_, rfl, of_decide_eq_true h⟩ | cases h
theorem ln {ds : List Dat} (h : Nat.ble ds.length 1000 = true := by rfl) : ds.length ≤ sizeLine := Nat.le_trans (Nat.le_of_ble_eq_true h) (by decide)
/-- the script: a list of at most 63 whole numbers -/
def spLaw : Spc := fun ds M P _ => ∃ ns : List Int, ns.length ≤ 63 ∧ ds = [.scr ns] ∧ M = [] ∧ P (.bl true) []
theorem law_sp {K : Frag} {H : Hp} {a : Addr} {ns : List Int} (hl : ns.length ≤ 63) (hS : SqL K H a (ns.map V.int)) : toSp K spLaw [.ref a] H (fun v _ => v = .bl true) fun _ _ _ => False := law_spS hS ⟨ns, hl, rfl, rfl, rfl⟩
theorem lnN {n : Nat} (h : Nat.ble n 1000 = true := by rfl) : n ≤ sizeLine := Nat.le_trans (Nat.le_of_ble_eq_true h) (by decide)
theorem gcd_le {a b : Int} (ha : 1 ≤ a) : Int.gcd a b ≤ a.natAbs := Nat.gcd_le_left _ (by omega)
/-! is_whole(value) -/
def S_is_whole (K : Frag) : Spc := fun ds M P _ => ∃ d, ds = [d] ∧ KInt K d ∧ P (.bl (isWh d)) M
theorem ok_is_whole (R : Prg K mg) : FnD PR w K mg base 1 R.f_is_whole R.d_is_whole P_is_whole (S_is_whole K) := by
  refine fn_d false R.F_is_whole sc_is_whole (fun h => nomatch h) (fun ds M P E ⟨d, e, _⟩ => by rw [e]; rfl) fun cdv A outer s H E hr ds M Pd PE h => ?_
  obtain ⟨d, rfl, hk, hp⟩ := h
  obtain ⟨t, ht, k1, k2⟩ := hk M
  refine ws_ret (ex_and (ex_callB R.n_isinstance PyProof.Rows.Boot.«isinstance» (ea_cons (ex_var ⟨rfl, rfl⟩ (ea_cons (ex_gty R.n_int PyProof.Rows.Boot.«int» (ea_nil (c_isi (.ty _) ht k1 ⟨_, rfl, fun e => ?_, fun e => ?_⟩))))))))
  · refine ex_and1 (ex_not (ex_callB R.n_isinstance PyProof.Rows.Boot.«isinstance» (ea_cons (ex_var ⟨rfl, rfl⟩ (ea_cons (ex_gty R.n_bool PyProof.Rows.Boot.«bool» (ea_nil (c_isi (.ty _) ht (k2 e) ⟨_, rfl, ?_⟩))))))))
    cases d <;> first | exact hp | cases e
  · cases d <;> first | exact hp | cases e
/-! check_least(value, least) -/
def S_check_least (R : Prg K mg) : Spc := fun ds M P E => ∃ d l, ds = [d, .int l] ∧ KInt K d ∧ (chk d l = true → P .non M) ∧ (chk d l = false → E ⟨R.C_InvalidNumber, ["value"], [d]⟩ M)
theorem ok_check_least (R : Prg K mg) : FnD PR w K mg base 2 R.f_check_least R.d_check_least P_check_least (S_check_least R) := by
  refine fn_d false R.F_check_least sc_check_least (fun h => nomatch h) (fun ds M P E ⟨d, l, e, _⟩ => by rw [e]; rfl) fun cdv A outer s H E hr ds M Pd PE h => ?_
  obtain ⟨d, l, rfl, hk, hp, hx⟩ := h
  refine ws_if (et_w (ew_or (et_not (et_val (ex_callF (ok_is_whole R) hr R.m_is_whole R.F_is_whole R.b_is_whole (ea_cons (ex_var ⟨rfl, rfl⟩ (ea_nil ⟨d, rfl, hk, .mk ⟨_, rfl, ?_⟩⟩))))))))
  cases hw : isWh d with
  | false =>
    have e : chk d l = false := by cases d <;> first | rfl | cases hw
    exact ⟨fun _ => ⟨fun _ => ws_raise rfl R.S_InvalidNumber R.mc_InvalidNumber R.n_super hr (ex_var ⟨rfl, rfl⟩ (hx e)), fun z => nomatch z⟩, fun z => nomatch z⟩
  | true =>
    refine ⟨(fun z => nomatch z), fun _ => ew_or1 ?_⟩
    cases d with
    | int i =>
      refine et_cmp (ex_var ⟨rfl, rfl⟩ (ex_var ⟨rfl, rfl⟩ (o_lt ⟨_, rfl, fun e => ?_, fun e => ?_⟩)))
      · have e : chk (.int i) l = false := by have := of_decide_eq_true e; exact decide_eq_false (by omega)
        exact ws_raise rfl R.S_InvalidNumber R.mc_InvalidNumber R.n_super hr (ex_var ⟨rfl, rfl⟩ (hx e))
      · have e : chk (.int i) l = true := by have := of_decide_eq_false e; exact decide_eq_true (by omega)
        exact ws_nil (ws_nil (hp e))
    | _ => cases hw
/-! _law_purse, _law_draw: the numbers that a script's number draws -/
/-- what a purse holds -/
def Purse (ds : List Dat) : Prop := ∃ a b c : Int, ds = [.int a, .int b, .int c]
def S_law_purse : Spc := fun ds M P _ => ∃ (ns : List Int) (i : Int), ds = [.scr ns, .int i] ∧ ∀ q, q ∉ adr M → ∀ l, Purse l → P (.raw (.ref q)) ((q, .lst l) :: M)
theorem ok_law_purse (R : Prg K mg) : FnD PR w K mg base 1 R.f_law_purse R.d_law_purse P_law_purse S_law_purse := by
  refine fn_d false R.F_law_purse sc_law_purse (fun h => nomatch h) (fun ds M P E ⟨a, b, e, _⟩ => by rw [e]; rfl) fun cdv A outer s H E hr ds M Pd PE h => ?_
  obtain ⟨ns, i, rfl, hp⟩ := h
  refine ws_set <| ex_callTy R.n_int PyProof.Rows.Boot.«int» <| ea_cons <| ex_callB R.n_sum PyProof.Rows.Boot.«sum» <| ea_cons <| ex_sl <| ex_var ⟨rfl, rfl⟩ <| ep_some <| ex_var ⟨rfl, rfl⟩ ⟨_, rfl, ep_some <| ex_bin <| ex_var ⟨rfl, rfl⟩ <| ex_int <| o_add ⟨_, rfl, l_scr <| ea_nil <| c_sum rfl rfl <| ea_nil <| c_int_i ?_⟩⟩
  refine ws_ret <| ex_lstC <| ea_cons <| ex_bin <| ex_callTy R.n_int PyProof.Rows.Boot.«int» <| ea_cons <| ex_cmp <| ex_var ⟨rfl, rfl⟩ <| ex_bin <| ex_int <| ex_int <| o_powW (by decide +kernel) <| o_ge <| ea_nil <| c_int_b ?_
  refine ex_bin <| ex_var ⟨rfl, rfl⟩ <| ex_bin <| ex_bin <| ex_int <| ex_int <| o_powW (by decide +kernel) <| ex_int <| o_powW (by decide +kernel) <| o_mod (by decide) <| o_mulS (.inl (by split <;> decide)) <| ea_cons <| ex_bin <| ex_var ⟨rfl, rfl⟩ <| ex_int <| o_mod (by decide) <| ea_cons <| ex_bin <| ex_int <| ex_var ⟨rfl, rfl⟩ <| o_mulS (.inl (by decide)) <| ea_nil ⟨ln, fun q hq => hp q hq _ ⟨_, _, _, rfl⟩⟩
/-- a number below many -/
def S_law_draw : Spc := fun ds M P _ => ∃ (q : Addr) (l : List Dat) (many : Int), ds = [.raw (.ref q), .int many] ∧ (q, MC.lst l) ∈ M ∧ Purse l ∧ 0 < many ∧ many.natAbs.log2 < 9000 ∧ ∀ (d : Int) (l' : List Dat), 0 ≤ d → d < many → Purse l' → P (.int d) (putC q (.lst l') M)
theorem ok_law_draw (R : Prg K mg) : FnD PR w K mg base 1 R.f_law_draw R.d_law_draw P_law_draw S_law_draw := by
  refine fn_d false R.F_law_draw sc_law_draw (fun h => nomatch h) (fun ds M P E ⟨a, b, c, e, _⟩ => by rw [e]; rfl) fun cdv A outer s H E hr ds M Pd PE h => ?_
  obtain ⟨q, l, many, rfl, hm, ⟨a, b, c, rfl⟩, hpos, hlg, hp⟩ := h
  refine ws_if <| et_cmp <| ex_ix <| ex_var ⟨rfl, rfl⟩ <| ex_int <| i_cell hm rfl <| ex_int <| o_gt ⟨_, rfl, fun e => ?_, fun e => ?_⟩
  · refine ws_set <| ex_bin <| ex_ix <| ex_var ⟨rfl, rfl⟩ <| ex_int <| i_cell hm rfl <| ex_var ⟨rfl, rfl⟩ <| o_mod hpos ?_
    refine ws_asg <| ex_bin <| ex_ix <| ex_var ⟨rfl, rfl⟩ <| ex_int <| i_cell hm rfl <| ex_var ⟨rfl, rfl⟩ <| o_div ⟨hpos, hlg⟩ <| gx_sub <| ex_var ⟨rfl, rfl⟩ <| ex_int ⟨q, _, 0, 0, rfl, rfl, hm, rfl, ?_⟩
    exact ws_ret <| ex_var ⟨rfl, rfl⟩ <| hp _ _ (Int.emod_nonneg _ (by omega)) (Int.emod_lt_of_pos _ hpos) ⟨_, _, _, rfl⟩
  · refine ws_nil ?_
    refine ws_asg <| ex_bin <| ex_ix <| ex_var ⟨rfl, rfl⟩ <| ex_int <| i_cell hm rfl <| ex_int <| o_add <| gx_sub <| ex_var ⟨rfl, rfl⟩ <| ex_int ⟨q, _, 2, 2, rfl, rfl, hm, rfl, ?_⟩
    have hm' : (q, MC.lst [.int a, .int b, .int (c + 1)]) ∈ putC q (.lst [.int a, .int b, .int (c + 1)]) M := mem_putC hm
    refine ws_set <| ex_bin <| ex_bin <| ex_bin <| ex_bin <| ex_ix <| ex_var ⟨rfl, rfl⟩ <| ex_int <| i_cell hm' rfl <| ex_int <| o_mulS (.inr (by decide)) <| ex_bin <| ex_ix <| ex_var ⟨rfl, rfl⟩ <| ex_int <| i_cell hm' rfl <| ex_int <| o_mulS (.inr (by decide)) <| o_add <| ex_int <| o_add <| ex_int <| o_mod (by decide) ?_
    have sm : ∀ x m : Int, 0 < m → m < 2 ^ 62 → (-(2 ^ 64) < x % m ∧ x % m < 2 ^ 64) := fun x m h1 h2 => by
      have := Int.emod_nonneg x (by omega : m ≠ 0)
      have := Int.emod_lt_of_pos x h1
      omega
    refine ws_set <| ex_bin <| ex_bin <| ex_bin <| ex_var ⟨rfl, rfl⟩ <| ex_var ⟨rfl, rfl⟩ <| o_mulS (.inl (sm _ _ (by decide) (by decide))) <| ex_ix <| ex_var ⟨rfl, rfl⟩ <| ex_int <| i_cell hm' rfl <| o_add <| ex_int <| o_mod (by decide) ?_
    refine ws_set <| ex_bin <| ex_bin <| ex_bin <| ex_var ⟨rfl, rfl⟩ <| ex_var ⟨rfl, rfl⟩ <| o_mulS (.inl (sm _ _ (by decide) (by decide))) <| ex_int <| o_add <| ex_int <| o_mod (by decide) ?_
    exact ws_ret <| ex_bin <| ex_bin <| ex_var ⟨rfl, rfl⟩ <| ex_int <| o_div ⟨by decide, by decide⟩ <| ex_var ⟨rfl, rfl⟩ <| o_mod hpos <| hp _ _ (Int.emod_nonneg _ (by omega)) (Int.emod_lt_of_pos _ hpos) ⟨_, _, _, rfl⟩
/-- the purse is the newest cell -/
theorem draw_sp {q : Addr} {l : List Dat} {M0 : Mem} {many : Int} {P : PK'} {E : XKx} (hl : Purse l) (hpos : 0 < many) (hlg : many.natAbs.log2 < 9000) (h : ∀ (d : Int) (l' : List Dat), 0 ≤ d → d < many → Purse l' → P (.int d) ((q, .lst l') :: M0)) :
    S_law_draw [.raw (.ref q), .int many] ((q, .lst l) :: M0) (UpP P) E := ⟨q, l, many, rfl, List.mem_cons_self, hl, hpos, hlg, fun d l' h1 h2 h3 => .mk (by have := h d l' h1 h2 h3; simpa [putC] using this)⟩
/-! Keep(n), Lean(n), Dig(n), their size; == of steps -/
def S_step_init (R : Prg K mg) (C : Addr) : Spc := fun ds M P E => ∃ q dx d, ds = [.raw (.ref q), d] ∧ (q, MC.ins C dx []) ∈ M ∧ KInt K d ∧ (chk d 1 = true → P .non (putC q (.ins C dx [("wide", d)]) M)) ∧ (chk d 1 = false → E ⟨R.C_InvalidNumber, ["value"], [d]⟩ M)
theorem mk_step {R : Prg K mg} {C q dx : Addr} {d : Dat} {M : Mem} {P : PK'} {E : XKx} (hk : KInt K d) (h1 : chk d 1 = true → P (.obj C ["wide"] [d]) M) (h2 : chk d 1 = false → E ⟨R.C_InvalidNumber, ["value"], [d]⟩ ((q, .ins C dx []) :: M)) :
    AP (S_step_init R C) [.raw (.ref q), d] ((q, .ins C dx []) :: M) (fun d M2 => d = .non ∧ MadeP P q M2) E :=
  ap_all ⟨q, dx, d, rfl, List.mem_cons_self, hk, fun e => .mk ⟨rfl, .inr ⟨C, dx, [("wide", d)], M, by simp [putC], h1 e⟩⟩, fun e => .mk (h2 e)⟩
theorem ok_Keep_init (R : Prg K mg) : FnD PR w K mg base 3 R.f_Keep_init R.d_Keep_init P_Keep_init (S_step_init R R.C_Keep) := by
  refine fn_d false R.F_Keep_init sc_Keep_init (fun h => nomatch h) (fun ds M P E ⟨a, b, c, e, _⟩ => by rw [e]; rfl) fun cdv A outer s H E hr ds M Pd PE h => ?_
  obtain ⟨q, dx, d, rfl, hm, hk, hp, hx⟩ := h
  refine ws_expr <| ex_callF (ok_check_least R) hr R.m_check_least R.F_check_least R.b_check_least <| ea_cons <| ex_var ⟨rfl, rfl⟩ <| ea_cons <| ex_int <| ea_nil ⟨d, 1, rfl, hk, fun e => .mk ?_, fun e => .mk (hx e)⟩
  exact ws_fld <| ex_var ⟨rfl, rfl⟩ <| ex_var ⟨rfl, rfl⟩ ⟨q, _, dx, [], rfl, hm, R.L_Keep.cl, R.A_Keep_wide, by decide, ws_nil (hp e)⟩
theorem ok_Lean_init (R : Prg K mg) : FnD PR w K mg base 3 R.f_Lean_init R.d_Lean_init P_Lean_init (S_step_init R R.C_Lean) := by
  refine fn_d false R.F_Lean_init sc_Lean_init (fun h => nomatch h) (fun ds M P E ⟨a, b, c, e, _⟩ => by rw [e]; rfl) fun cdv A outer s H E hr ds M Pd PE h => ?_
  obtain ⟨q, dx, d, rfl, hm, hk, hp, hx⟩ := h
  refine ws_expr <| ex_callF (ok_check_least R) hr R.m_check_least R.F_check_least R.b_check_least <| ea_cons <| ex_var ⟨rfl, rfl⟩ <| ea_cons <| ex_int <| ea_nil ⟨d, 1, rfl, hk, fun e => .mk ?_, fun e => .mk (hx e)⟩
  exact ws_fld <| ex_var ⟨rfl, rfl⟩ <| ex_var ⟨rfl, rfl⟩ ⟨q, _, dx, [], rfl, hm, R.L_Lean.cl, R.A_Lean_wide, by decide, ws_nil (hp e)⟩
theorem ok_Dig_init (R : Prg K mg) : FnD PR w K mg base 3 R.f_Dig_init R.d_Dig_init P_Dig_init (S_step_init R R.C_Dig) := by
  refine fn_d false R.F_Dig_init sc_Dig_init (fun h => nomatch h) (fun ds M P E ⟨a, b, c, e, _⟩ => by rw [e]; rfl) fun cdv A outer s H E hr ds M Pd PE h => ?_
  obtain ⟨q, dx, d, rfl, hm, hk, hp, hx⟩ := h
  refine ws_expr <| ex_callF (ok_check_least R) hr R.m_check_least R.F_check_least R.b_check_least <| ea_cons <| ex_var ⟨rfl, rfl⟩ <| ea_cons <| ex_int <| ea_nil ⟨d, 1, rfl, hk, fun e => .mk ?_, fun e => .mk (hx e)⟩
  exact ws_fld <| ex_var ⟨rfl, rfl⟩ <| ex_var ⟨rfl, rfl⟩ ⟨q, _, dx, [], rfl, hm, R.L_Dig.cl, R.A_Dig_wide, by decide, ws_nil (hp e)⟩
/-- the size -/
def S_size : Spc := fun ds M P _ => ∃ d z, ds = [d] ∧ FldI K "wide" M d z ∧ P z M
theorem ok_Keep_size (R : Prg K mg) : FnD PR w K mg base 1 R.f_Keep_size R.d_Keep_size P_Keep_size (S_size (K := K)) := by
  refine fn_d false R.F_Keep_size sc_Keep_size (fun h => nomatch h) (fun ds M P E ⟨a, b, e, _⟩ => by rw [e]; rfl) fun cdv A outer s H E hr ds M Pd PE h => ?_
  obtain ⟨d, z, rfl, hf, hp⟩ := h
  exact ws_ret <| ex_fld <| ex_var ⟨rfl, rfl⟩ ⟨z, hf, hp⟩
theorem ok_Lean_size (R : Prg K mg) : FnD PR w K mg base 1 R.f_Lean_size R.d_Lean_size P_Lean_size (S_size (K := K)) := by
  refine fn_d false R.F_Lean_size sc_Lean_size (fun h => nomatch h) (fun ds M P E ⟨a, b, e, _⟩ => by rw [e]; rfl) fun cdv A outer s H E hr ds M Pd PE h => ?_
  obtain ⟨d, z, rfl, hf, hp⟩ := h
  exact ws_ret <| ex_fld <| ex_var ⟨rfl, rfl⟩ ⟨z, hf, hp⟩
theorem ok_Dig_size (R : Prg K mg) : FnD PR w K mg base 1 R.f_Dig_size R.d_Dig_size P_Dig_size (S_size (K := K)) := by
  refine fn_d false R.F_Dig_size sc_Dig_size (fun h => nomatch h) (fun ds M P E ⟨a, b, e, _⟩ => by rw [e]; rfl) fun cdv A outer s H E hr ds M Pd PE h => ?_
  obtain ⟨d, z, rfl, hf, hp⟩ := h
  exact ws_ret <| ex_fld <| ex_var ⟨rfl, rfl⟩ ⟨z, hf, hp⟩
/-! == of steps -/
def S_full_eq (R : Prg K mg) : Spc := fun ds M P _ => ∃ x y t b, ds = [x, y] ∧ TyD K M y t ∧ PySem.W.kitOne K t (.ref R.C_Full) = some b ∧ P (.bl b) M
theorem ok_Full_eq (R : Prg K mg) : FnD PR w K mg base 1 R.f_Full_eq R.d_Full_eq P_Full_eq (S_full_eq R) := by
  refine fn_d false R.F_Full_eq sc_Full_eq (fun h => nomatch h) (fun ds M P E ⟨a, b, c, d, e, _⟩ => by rw [e]; rfl) fun cdv A outer s H E hr ds M Pd PE h => ?_
  obtain ⟨x, y, t, b, rfl, ht, hk, hp⟩ := h
  exact ws_ret <| ex_callB R.n_isinstance PyProof.Rows.Boot.«isinstance» <| ea_cons <| ex_var ⟨rfl, rfl⟩ <| ea_cons <| ex_gref R.mc_Full <| ea_nil <| c_isi (.own _) ht hk hp
def S_step_eq (C : Addr) : Spc := fun ds M P _ => ∃ n y t b, ds = [.obj C ["wide"] [.int n], y] ∧ TyD K M y t ∧ PySem.W.kitOne K t (.ref C) = some b ∧ (b = false → P (.bl false) M) ∧ (b = true → ∃ m, y = .obj C ["wide"] [.int m] ∧ P (.bl (decide (n = m))) M)
theorem fld_wide {C : Addr} {n : Dat} {M : Mem} (hc : Cls K C) (hn : NoAttr K C "wide") : FldI K "wide" M (.obj C ["wide"] [n]) n := ⟨C, hc, hn, .inl ⟨_, _, rfl, rfl, rfl⟩⟩
theorem ok_Keep_eq (R : Prg K mg) : FnD PR w K mg base 1 R.f_Keep_eq R.d_Keep_eq P_Keep_eq (S_step_eq (K := K) R.C_Keep) := by
  refine fn_d false R.F_Keep_eq sc_Keep_eq (fun h => nomatch h) (fun ds M P E ⟨a, b, c, d, e, _⟩ => by rw [e]; rfl) fun cdv A outer s H E hr ds M Pd PE h => ?_
  obtain ⟨n, y, t, b, rfl, ht, hk, h0, h1⟩ := h
  refine ws_ret <| ex_and <| ex_callB R.n_isinstance PyProof.Rows.Boot.«isinstance» <| ea_cons <| ex_var ⟨rfl, rfl⟩ <| ea_cons <| ex_gref R.mc_Keep <| ea_nil <| c_isi (.own _) ht hk ⟨b, rfl, fun e => ?_, fun e => h0 e⟩
  obtain ⟨m, rfl, hp⟩ := h1 e
  exact ex_and1 <| ex_cmp <| ex_fld <| ex_var ⟨rfl, rfl⟩ ⟨_, fld_wide R.L_Keep.cl R.A_Keep_wide, ex_fld <| ex_var ⟨rfl, rfl⟩ ⟨_, fld_wide R.L_Keep.cl R.A_Keep_wide, o_eqI hp⟩⟩
theorem ok_Lean_eq (R : Prg K mg) : FnD PR w K mg base 1 R.f_Lean_eq R.d_Lean_eq P_Lean_eq (S_step_eq (K := K) R.C_Lean) := by
  refine fn_d false R.F_Lean_eq sc_Lean_eq (fun h => nomatch h) (fun ds M P E ⟨a, b, c, d, e, _⟩ => by rw [e]; rfl) fun cdv A outer s H E hr ds M Pd PE h => ?_
  obtain ⟨n, y, t, b, rfl, ht, hk, h0, h1⟩ := h
  refine ws_ret <| ex_and <| ex_callB R.n_isinstance PyProof.Rows.Boot.«isinstance» <| ea_cons <| ex_var ⟨rfl, rfl⟩ <| ea_cons <| ex_gref R.mc_Lean <| ea_nil <| c_isi (.own _) ht hk ⟨b, rfl, fun e => ?_, fun e => h0 e⟩
  obtain ⟨m, rfl, hp⟩ := h1 e
  exact ex_and1 <| ex_cmp <| ex_fld <| ex_var ⟨rfl, rfl⟩ ⟨_, fld_wide R.L_Lean.cl R.A_Lean_wide, ex_fld <| ex_var ⟨rfl, rfl⟩ ⟨_, fld_wide R.L_Lean.cl R.A_Lean_wide, o_eqI hp⟩⟩
theorem ok_Dig_eq (R : Prg K mg) : FnD PR w K mg base 1 R.f_Dig_eq R.d_Dig_eq P_Dig_eq (S_step_eq (K := K) R.C_Dig) := by
  refine fn_d false R.F_Dig_eq sc_Dig_eq (fun h => nomatch h) (fun ds M P E ⟨a, b, c, d, e, _⟩ => by rw [e]; rfl) fun cdv A outer s H E hr ds M Pd PE h => ?_
  obtain ⟨n, y, t, b, rfl, ht, hk, h0, h1⟩ := h
  refine ws_ret <| ex_and <| ex_callB R.n_isinstance PyProof.Rows.Boot.«isinstance» <| ea_cons <| ex_var ⟨rfl, rfl⟩ <| ea_cons <| ex_gref R.mc_Dig <| ea_nil <| c_isi (.own _) ht hk ⟨b, rfl, fun e => ?_, fun e => h0 e⟩
  obtain ⟨m, rfl, hp⟩ := h1 e
  exact ex_and1 <| ex_cmp <| ex_fld <| ex_var ⟨rfl, rfl⟩ ⟨_, fld_wide R.L_Dig.cl R.A_Dig_wide, ex_fld <| ex_var ⟨rfl, rfl⟩ ⟨_, fld_wide R.L_Dig.cl R.A_Dig_wide, o_eqI hp⟩⟩
/-! are_steps, Script(steps) of lists of steps -/
/-- a step, as an instance -/
def StpD (K : Frag) (C : Addr) (d : Dat) : Prop := ∃ t, (∀ M, TyD K M d t) ∧ PySem.W.kitOne K t (.ref C) = some true
def S_are_steps (R : Prg K mg) : Spc := fun ds M P _ => ∃ xs, ds = [.lst xs] ∧ xs.length ≤ sizeLine ∧ (∀ x ∈ xs, StpD K R.C_Step x) ∧ P (.bl true) M
theorem ok_are_steps (R : Prg K mg) : FnD PR w K mg base 1 R.f_are_steps R.d_are_steps P_are_steps (S_are_steps R) := by
  refine fn_d false R.F_are_steps sc_are_steps (fun h => nomatch h) (fun ds M P E ⟨a, e, _⟩ => by rw [e]; rfl) fun cdv A outer s H E hr ds M Pd PE h => ?_
  obtain ⟨xs, rfl, hl, hx, hp⟩ := h
  refine ws_ret <| ex_and <| ex_callB R.n_isinstance PyProof.Rows.Boot.«isinstance» <| ea_cons <| ex_var ⟨rfl, rfl⟩ <| ea_cons <| ex_gty R.n_list PyProof.Rows.Boot.«list» <| ea_nil <| c_isi (.ty _) .lst (by rfl) ⟨true, rfl, fun _ => ?_, fun z => nomatch z⟩
  refine ex_and1 <| ex_cmp <| ex_lc [("step", 1)] <| ei_list <| ex_var ⟨rfl, rfl⟩ ⟨_, rfl, hl, fun i acc M' => M' = M ∧ acc = [], ⟨rfl, rfl⟩, fun _ _ _ _ => trivial, ?_, ?_⟩
  · rintro i d acc M' hi ⟨rfl, rfl⟩ s2 H2 C2 cl fp
    obtain ⟨t, ht, hk⟩ := hx d (List.mem_of_getElem? hi)
    refine gc_name ?_
    intro s3 H3 C3 cl3 fp3
    refine ef_one <| et_not <| et_val <| ex_callB R.n_isinstance PyProof.Rows.Boot.«isinstance» <| ea_cons <| ex_var ⟨rfl, rfl⟩ <| ea_cons <| ex_gref R.mc_Step <| ea_nil <| c_isi (.own _) (ht _) hk ⟨true, rfl, (fun z => nomatch z), fun _ => ⟨rfl, rfl⟩⟩
  · rintro acc M' ⟨rfl, rfl⟩
    exact ex_lst <| ea_nil ⟨ln, o_eqLT rfl (by decide) hr.units hp⟩
def S_Script_init (R : Prg K mg) : Spc := fun ds M P _ => ∃ q dx xs, ds = [.raw (.ref q), .lst xs] ∧ (q, MC.ins R.C_Script dx []) ∈ M ∧ xs.length ≤ sizeLine ∧ (∀ x ∈ xs, StpD K R.C_Step x) ∧ P .non (putC q (.ins R.C_Script dx [("rows", .tup xs)]) M)
theorem ok_Script_init (R : Prg K mg) : FnD PR w K mg base 2 R.f_Script_init R.d_Script_init P_Script_init (S_Script_init R) := by
  refine fn_dV false R.F_Script_init sc_Script_init (fun h => nomatch h) (fun ds M P E ⟨a, b, c, e, _⟩ => by rw [e]; rfl) fun cdv A outer s H E hr ds M Pd PE h => ?_
  obtain ⟨q, dx, xs, rfl, hm, hl, hx, hp⟩ := h
  refine ws_set <| ex_if <| et_cmp <| ex_var ⟨rfl, rfl⟩ <| ex_non <| o_isN (fun u => by simp) ⟨_, rfl, (fun z => nomatch z), fun _ => ex_var ⟨rfl, rfl⟩ ?_⟩
  refine ws_if <| et_not <| et_val <| ex_callF (ok_are_steps R) hr R.m_are_steps R.F_are_steps R.b_are_steps <| ea_cons <| ex_var ⟨rfl, rfl⟩ <| ea_nil ⟨xs, rfl, hl, hx, .mk ⟨true, rfl, (fun z => nomatch z), fun _ => ws_nil ?_⟩⟩
  exact ws_fld <| ex_callTy R.n_tuple PyProof.Rows.Boot.«tuple» <| ea_cons <| ex_var ⟨rfl, rfl⟩ <| ea_nil <| c_tuple_lst <| ex_var ⟨rfl, rfl⟩ ⟨q, _, dx, [], rfl, hm, R.L_Script.cl, R.A_Script_rows, by decide, ws_nil hp⟩
theorem mk_script {R : Prg K mg} {q dx : Addr} {xs : List Dat} {M : Mem} {P : PK'} {E : XKx} (hl : xs.length ≤ sizeLine) (hx : ∀ x ∈ xs, StpD K R.C_Step x) (h : P (.obj R.C_Script ["rows"] [.tup xs]) M) :
    AP (S_Script_init R) [.raw (.ref q), .lst xs] ((q, .ins R.C_Script dx []) :: M) (fun d M2 => d = .non ∧ MadeP P q M2) E :=
  ap_all ⟨q, dx, xs, rfl, List.mem_cons_self, hl, hx, .mk ⟨rfl, .inr ⟨R.C_Script, dx, [("rows", .tup xs)], M, by simp [putC], h⟩⟩⟩
/-! are_cells, File(cells) -/
/-- dots, noughts, small letters -/
def isCell (c : Nat) : Bool := c == 46 || c == 48 || (decide (97 ≤ c) && decide (c ≤ 122))
def cellsB (z : Str) : Bool := z.cps.toList.all isCell
theorem cell_in (c : Nat) : decide (c ∈ ((".0" : Str) ++ ("abcdefghijklmnopqrstuvwxyz" : Str)).cps.toList) = isCell c := by
  have e : ((".0" : Str) ++ ("abcdefghijklmnopqrstuvwxyz" : Str)).cps.toList = [46, 48, 97, 98, 99, 100, 101, 102, 103, 104, 105, 106, 107, 108, 109, 110, 111, 112, 113, 114, 115, 116, 117, 118, 119, 120, 121, 122] := by first | rfl | decide +kernel
  rw [e, Bool.eq_iff_iff]
  simp only [isCell, decide_eq_true_eq, List.mem_cons, List.not_mem_nil, or_false, Bool.or_eq_true, Bool.and_eq_true, beq_iff_eq]
  omega
def S_are_cells : Spc := fun ds M P _ => ∃ d, ds = [d] ∧ ((∃ z, d = .str z ∧ z.length ≤ sizeLine ∧ P (.bl (cellsB z)) M) ∨ ∃ t, TyD K M d t ∧ PySem.W.kitOne K t (.type "str") = some false ∧ P (.bl false) M)
theorem filt_more {α : Type} {p : α → Bool} {l : List α} {i : Nat} {x : α} (h : l[i]? = some x) : (l.take (i + 1)).filter p = (l.take i).filter p ++ if p x = true then [x] else [] := by
  have hi := (List.getElem?_eq_some_iff.mp h)
  obtain ⟨hi, e⟩ := hi
  rw [List.take_succ_eq_append_getElem hi, List.filter_append, e]
  congr 1
  cases q : p x <;> simp [List.filter, q]
theorem ok_are_cells (R : Prg K mg) : FnD PR w K mg base 1 R.f_are_cells R.d_are_cells P_are_cells (S_are_cells (K := K)) := by
  refine fn_d false R.F_are_cells sc_are_cells (fun h => nomatch h) (fun ds M P E ⟨a, e, _⟩ => by rw [e]; rfl) fun cdv A outer s H E hr ds M Pd PE h => ?_
  obtain ⟨d, rfl, ⟨z, rfl, hl, hp⟩ | ⟨t, ht, hk, hp⟩⟩ := h
  · refine ws_ret <| ex_and <| ex_callB R.n_isinstance PyProof.Rows.Boot.«isinstance» <| ea_cons <| ex_var ⟨rfl, rfl⟩ <| ea_cons <| ex_gty R.n_str PyProof.Rows.Boot.«str» <| ea_nil <| c_isi (.ty _) .str (by rfl) ⟨true, rfl, fun _ => ?_, fun z => nomatch z⟩
    have hz : (sgnD z).length ≤ sizeLine := by unfold sgnD; rw [List.length_map, Array.length_toList]; exact hl
    refine ex_and1 <| ex_cmp <| ex_lc [("cell", 1)] <| ei_str <| ex_var ⟨rfl, rfl⟩ ⟨z, rfl, hz, fun i acc M' => M' = M ∧ acc = ((z.cps.toList.take i).filter fun c => !isCell c).map (fun c => Dat.str ⟨#[c]⟩), ⟨rfl, rfl⟩, fun _ _ _ _ => trivial, ?_, ?_⟩
    · rintro i d acc M' hi ⟨rfl, rfl⟩ s2 H2 C2 cl fp
      obtain ⟨c, hc, rfl⟩ : ∃ c, z.cps.toList[i]? = some c ∧ d = .str ⟨#[c]⟩ := by
        unfold sgnD at hi
        rw [List.getElem?_map] at hi
        cases q : z.cps.toList[i]? with
        | none => rw [q] at hi; cases hi
        | some c => rw [q] at hi; cases hi; exact ⟨c, rfl, rfl⟩
      refine gc_name ?_
      intro s3 H3 C3 cl3 fp3
      refine ef_one <| et_cmp <| ex_var ⟨rfl, rfl⟩ <| ex_bin <| ex_str <| ex_gstr R.g_SIGNS <| o_cat (by decide +kernel) <| o_notInS ⟨_, rfl, fun e => ?_, fun e => ?_⟩
      · intro s4 H4 C4 cl4 fp4
        refine ex_var ⟨rfl, rfl⟩ ⟨rfl, ?_⟩
        rw [cell_in] at e
        rw [filt_more hc, if_pos e, List.map_append]; rfl
      · refine ⟨rfl, ?_⟩
        rw [cell_in] at e
        rw [filt_more hc, if_neg (by simp [e]), List.append_nil]
    · rintro acc M' ⟨rfl, rfl⟩
      have el : z.cps.toList.take (sgnD z).length = z.cps.toList := by
        have e : (sgnD z).length = z.cps.toList.length := by unfold sgnD; rw [List.length_map]
        rw [e, List.take_length]
      rw [el]
      refine ex_lst <| ea_nil ⟨ln, ?_⟩
      cases hb : cellsB z with
      | true =>
        have : (z.cps.toList.filter fun c => !isCell c) = [] := by
          rw [List.filter_eq_nil_iff]
          intro c hc
          have := List.all_eq_true.mp hb c hc
          simp [this]
        rw [this]
        rw [hb] at hp
        exact o_eqLT rfl (by decide) hr.units hp
      | false =>
        have : (z.cps.toList.filter fun c => !isCell c) ≠ [] := fun q => by
          rw [List.filter_eq_nil_iff] at q
          have : cellsB z = true := List.all_eq_true.mpr fun c hc => by have := q c hc; simpa using this
          rw [this] at hb; cases hb
        rw [hb] at hp
        exact o_eqLn (fun q => this (by simpa using q)) hr.units hp
  · exact ws_ret <| ex_and <| ex_callB R.n_isinstance PyProof.Rows.Boot.«isinstance» <| ea_cons <| ex_var ⟨rfl, rfl⟩ <| ea_cons <| ex_gty R.n_str PyProof.Rows.Boot.«str» <| ea_nil <| c_isi (.ty _) ht hk ⟨false, rfl, (fun z => nomatch z), fun _ => hp⟩
/-- File(cells), cells that are some -/
def S_File_init (R : Prg K mg) : Spc := fun ds M P _ => ∃ q dx z, ds = [.raw (.ref q), .str z] ∧ (q, MC.ins R.C_File dx []) ∈ M ∧ z.length ≤ sizeLine ∧ cellsB z = true ∧ P .non (putC q (.ins R.C_File dx [("row", .str z)]) M)
theorem ok_File_init (R : Prg K mg) : FnD PR w K mg base 2 R.f_File_init R.d_File_init P_File_init (S_File_init R) := by
  refine fn_dV false R.F_File_init sc_File_init (fun h => nomatch h) (fun ds M P E ⟨a, b, c, e, _⟩ => by rw [e]; rfl) fun cdv A outer s H E hr ds M Pd PE h => ?_
  obtain ⟨q, dx, z, rfl, hm, hl, hz, hp⟩ := h
  refine ws_if <| et_not <| et_val <| ex_callF (ok_are_cells R) hr R.m_are_cells R.F_are_cells R.b_are_cells <| ea_cons <| ex_var ⟨rfl, rfl⟩ <| ea_nil ⟨_, rfl, .inl ⟨z, rfl, hl, .mk ⟨true, by rw [hz], (fun z => nomatch z), fun _ => ws_nil ?_⟩⟩⟩
  exact ws_fld <| ex_var ⟨rfl, rfl⟩ <| ex_var ⟨rfl, rfl⟩ ⟨q, _, dx, [], rfl, hm, R.L_File.cl, R.A_File_row, by decide, ws_nil hp⟩
theorem mk_file {R : Prg K mg} {q dx : Addr} {z : Str} {M : Mem} {P : PK'} {E : XKx} (hl : z.length ≤ sizeLine) (hz : cellsB z = true) (h : P (.obj R.C_File ["row"] [.str z]) M) :
    AP (S_File_init R) [.raw (.ref q), .str z] ((q, .ins R.C_File dx []) :: M) (fun d M2 => d = .non ∧ MadeP P q M2) E :=
  ap_all ⟨q, dx, z, rfl, List.mem_cons_self, hl, hz, .mk ⟨rfl, .inr ⟨R.C_File, dx, [("row", .str z)], M, by simp [putC], h⟩⟩⟩
/-! _law_refused, _law_kinds -/
def OddV (K : Frag) (d : Dat) : Prop := KInt K d ∧ chk d 1 = false ∧ selfE d = true ∧ dpD d ≤ 3
def S_law_refused : Spc := fun ds M P _ => ∃ (way : Int) (v : Dat), ds = [.int way, v] ∧ OddV K v ∧ P (.bl true) M
theorem ok_law_refused (R : Prg K mg) : FnD PR w K mg base 5 R.f_law_refused R.d_law_refused P_law_refused (S_law_refused (K := K)) := by
  refine fn_d false R.F_law_refused sc_law_refused (fun h => nomatch h) (fun ds M P E ⟨a, b, e, _⟩ => by rw [e]; rfl) fun cdv A outer s H E hr ds M Pd PE h => ?_
  obtain ⟨way, v, rfl, ⟨kv, hv1, hvs, hvd⟩, hp⟩ := h
  have no : chk v 1 = true → False := fun z => by rw [hv1] at z; cases z
  refine ws_set <| ex_lst <| ea_cons <| ex_str <| ea_nil ⟨ln, ?_⟩
  refine ws_try rfl rfl ⟨rfl, by decide, .inl R.mc_InvalidNumber⟩ fun pn xe po => ?_
  refine WS.imp (R' := fun o M' => o = .ex ⟨R.C_InvalidNumber, ["value"], [v]⟩ ((startT N_law_refused [.int way, v]).set 2 (some (.lst [.str "none"]))) ∧ ∃ c, M' = c :: M) ?_ ?_
  · refine ws_if <| et_cmp <| ex_var ⟨rfl, rfl⟩ <| ex_int <| o_eqI ⟨_, rfl, fun _ => ?_, fun _ => ws_if <| et_cmp <| ex_var ⟨rfl, rfl⟩ <| ex_int <| o_eqI ⟨_, rfl, fun _ => ?_, fun _ => ?_⟩⟩
    · exact ws_expr <| ex_make R.K_Keep (ok_Keep_init R) hr R.mc_Keep R.b_Keep_init .nil (fun _ => .nil) <| ea_cons <| ex_var ⟨rfl, rfl⟩ <| ea_nil fun q dx _ _ _ => mk_step kv (fun z => (no z).elim) fun _ => ⟨rfl, _, rfl⟩
    · exact ws_expr <| ex_make R.K_Lean (ok_Lean_init R) hr R.mc_Lean R.b_Lean_init .nil (fun _ => .nil) <| ea_cons <| ex_var ⟨rfl, rfl⟩ <| ea_nil fun q dx _ _ _ => mk_step kv (fun z => (no z).elim) fun _ => ⟨rfl, _, rfl⟩
    · exact ws_expr <| ex_make R.K_Dig (ok_Dig_init R) hr R.mc_Dig R.b_Dig_init .nil (fun _ => .nil) <| ea_cons <| ex_var ⟨rfl, rfl⟩ <| ea_nil fun q dx _ _ _ => mk_step kv (fun z => (no z).elim) fun _ => ⟨rfl, _, rfl⟩
  · rintro o M' ⟨rfl, c, rfl⟩
    have hs1 : selfEL [v] = true := by simp [selfEL, hvs]
    exact ⟨true, R.e_InvalidNumber_InvalidNumber, fun _ => ⟨by simp, fun a dd oe pn hz hv => ws_set <| ex_lst <| ea_cons <| ex_ev R.x_InvalidNumber R.S_InvalidNumber.nf hz hv ⟨rfl, rfl⟩ rfl <| ea_nil ⟨ln, ws_nil <| ws_drop (A := M) (B := [c]) (List.perm_append_singleton c M).symm <| ws_ret <| ex_cmp <| ex_var ⟨rfl, rfl⟩ <| ex_lst <| ea_cons <| ex_var ⟨rfl, rfl⟩ <| ea_nil ⟨ln, o_eqLT (eqTL_self _ hs1) (by simp [dpDL]; omega) hr.units hp⟩⟩⟩, fun z => nomatch z⟩
def S_law_kinds (R : Prg K mg) : Spc := fun ds M P _ => ∃ d t b0 b1 b2 b3, ds = [d] ∧ TyD K M d t ∧ PySem.W.kitOne K t (.ref R.C_Full) = some b0 ∧ PySem.W.kitOne K t (.ref R.C_Keep) = some b1 ∧ PySem.W.kitOne K t (.ref R.C_Lean) = some b2 ∧ PySem.W.kitOne K t (.ref R.C_Dig) = some b3 ∧ P (.lst [.bl b0, .bl b1, .bl b2, .bl b3]) M
theorem ok_law_kinds (R : Prg K mg) : FnD PR w K mg base 1 R.f_law_kinds R.d_law_kinds P_law_kinds (S_law_kinds R) := by
  refine fn_d false R.F_law_kinds sc_law_kinds (fun h => nomatch h) (fun ds M P E ⟨a, b, c, d, e, f, q, _⟩ => by rw [q]; rfl) fun cdv A outer s H E hr ds M Pd PE h => ?_
  obtain ⟨d, t, b0, b1, b2, b3, rfl, ht, h0, h1, h2, h3, hp⟩ := h
  refine ws_ret <| ex_lst <| ea_cons <| ex_callB R.n_isinstance PyProof.Rows.Boot.«isinstance» <| ea_cons <| ex_var ⟨rfl, rfl⟩ <| ea_cons <| ex_gref R.mc_Full <| ea_nil <| c_isi (.own _) ht h0 ?_
  refine ea_cons <| ex_callB R.n_isinstance PyProof.Rows.Boot.«isinstance» <| ea_cons <| ex_var ⟨rfl, rfl⟩ <| ea_cons <| ex_gref R.mc_Keep <| ea_nil <| c_isi (.own _) ht h1 ?_
  refine ea_cons <| ex_callB R.n_isinstance PyProof.Rows.Boot.«isinstance» <| ea_cons <| ex_var ⟨rfl, rfl⟩ <| ea_cons <| ex_gref R.mc_Lean <| ea_nil <| c_isi (.own _) ht h2 ?_
  exact ea_cons <| ex_callB R.n_isinstance PyProof.Rows.Boot.«isinstance» <| ea_cons <| ex_var ⟨rfl, rfl⟩ <| ea_cons <| ex_gref R.mc_Dig <| ea_nil <| c_isi (.own _) ht h3 <| ea_nil ⟨ln, hp⟩
end
end Kh

set_option Elab.async false
set_option linter.all false
set_option maxRecDepth 100000
set_option maxHeartbeats 2000000
namespace Kh
open PySem PySem.Spec L2
open PySem.W (Frag)
-- PR : Program := PySem.Challenge.rw_keptholes_k05_steps_made.prog
section
variable {w : World} {K : Frag} {mg : Str → Option Value} {base : Heap}
/-- a step by its code -/
def clD (R : Prg K mg) : Nat → Addr
  | 0 => R.C_Full
  | 1 => R.C_Keep
  | 2 => R.C_Lean
  | _ => R.C_Dig
def stD (R : Prg K mg) : Nat × Int → Dat
  | (0, _) => .obj R.C_Full [] []
  | (1, n) => .obj R.C_Keep ["wide"] [.int n]
  | (2, n) => .obj R.C_Lean ["wide"] [.int n]
  | (_, n) => .obj R.C_Dig ["wide"] [.int n]
def cdD (c : Nat × Int) : Dat := .tup [.int c.1, .int c.2]
def Okc (c : Nat × Int) : Prop := c.1 ≤ 3 ∧ (c.1 = 0 → c.2 = 0) ∧ (0 < c.1 → 1 ≤ c.2)
theorem okc_cases {c : Nat × Int} (h : Okc c) : c = (0, 0) ∨ (∃ n, c = (1, n) ∧ 1 ≤ n) ∨ (∃ n, c = (2, n) ∧ 1 ≤ n) ∨ ∃ n, c = (3, n) ∧ 1 ≤ n := by
  obtain ⟨a, n⟩ := c
  obtain ⟨h1, h2, h3⟩ := h
  have h1 : a ≤ 3 := h1
  have : a = 0 ∨ a = 1 ∨ a = 2 ∨ a = 3 := by omega
  rcases this with rfl | rfl | rfl | rfl
  · have : n = 0 := h2 rfl
    subst this; exact .inl rfl
  · exact .inr (.inl ⟨n, rfl, h3 (Nat.succ_pos _)⟩)
  · exact .inr (.inr (.inl ⟨n, rfl, h3 (Nat.succ_pos _)⟩))
  · exact .inr (.inr (.inr ⟨n, rfl, h3 (Nat.succ_pos _)⟩))
theorem stD_ty (R : Prg K mg) {c : Nat × Int} (h : Okc c) : ∃ C, (∀ M, TyD K M (stD R c) (.ref C)) ∧ PySem.W.kitOne K (.ref C) (.ref R.C_Step) = some true ∧ PySem.W.kitOne K (.ref C) (.ref R.C_Full) = some (decide (c.1 = 0)) ∧ PySem.W.kitOne K (.ref C) (.ref R.C_Keep) = some (decide (c.1 = 1)) ∧ PySem.W.kitOne K (.ref C) (.ref R.C_Lean) = some (decide (c.1 = 2)) ∧ PySem.W.kitOne K (.ref C) (.ref R.C_Dig) = some (decide (c.1 = 3)) := by
  rcases okc_cases h with rfl | ⟨n, rfl, hn⟩ | ⟨n, rfl, hn⟩ | ⟨n, rfl, hn⟩
  · exact ⟨R.C_Full, fun M => .obj R.L_Full, R.s_Full_Step, R.s_Full_Full, R.s_Full_Keep, R.s_Full_Lean, R.s_Full_Dig⟩
  · exact ⟨R.C_Keep, fun M => .obj R.L_Keep, R.s_Keep_Step, R.s_Keep_Full, R.s_Keep_Keep, R.s_Keep_Lean, R.s_Keep_Dig⟩
  · exact ⟨R.C_Lean, fun M => .obj R.L_Lean, R.s_Lean_Step, R.s_Lean_Full, R.s_Lean_Keep, R.s_Lean_Lean, R.s_Lean_Dig⟩
  · exact ⟨R.C_Dig, fun M => .obj R.L_Dig, R.s_Dig_Step, R.s_Dig_Full, R.s_Dig_Keep, R.s_Dig_Lean, R.s_Dig_Dig⟩
/-- == of a step and what is no step of its class -/
theorem o_stNo {X : Cx} {T : Bool} {M : Mem} {P : PK'} (R : Prg X.K X.mg) (F0 : FnD X.prog X.w X.K X.mg X.base 1 R.f_Full_eq R.d_Full_eq P_Full_eq (S_full_eq R)) (F1 : FnD X.prog X.w X.K X.mg X.base 1 R.f_Keep_eq R.d_Keep_eq P_Keep_eq (S_step_eq (K := X.K) R.C_Keep))
    (F2 : FnD X.prog X.w X.K X.mg X.base 1 R.f_Lean_eq R.d_Lean_eq P_Lean_eq (S_step_eq (K := X.K) R.C_Lean)) (F3 : FnD X.prog X.w X.K X.mg X.base 1 R.f_Dig_eq R.d_Dig_eq P_Dig_eq (S_step_eq (K := X.K) R.C_Dig)) (hr : Room 1 X.A) {c : Nat × Int} (h : Okc c) {y : Dat} {t : Value} (ht : TyD X.K M y t)
    (n0 : PySem.W.notFirst X.K R.C_Full t = true) (n1 : PySem.W.notFirst X.K R.C_Keep t = true) (n2 : PySem.W.notFirst X.K R.C_Lean t = true) (n3 : PySem.W.notFirst X.K R.C_Dig t = true)
    (k0 : PySem.W.kitOne X.K t (.ref R.C_Full) = some false) (k1 : PySem.W.kitOne X.K t (.ref R.C_Keep) = some false) (k2 : PySem.W.kitOne X.K t (.ref R.C_Lean) = some false) (k3 : PySem.W.kitOne X.K t (.ref R.C_Dig) = some false) (hp : P (.bl false) M) :
    OP X T (compareOp .Eq) (stD R c) y M P := by
  rcases okc_cases h with rfl | ⟨n, rfl, hn⟩ | ⟨n, rfl, hn⟩ | ⟨n, rfl, hn⟩
  · exact o_eqOwn F0 hr R.M_Full_eq.at_ R.M_Full_eq.fn R.b_Full_eq (.inl ⟨_, _, rfl, by simp⟩) ht n0 ⟨_, _, _, _, rfl, ht, k0, .mk ⟨_, rfl, hp⟩⟩
  · exact o_eqOwn F1 hr R.M_Keep_eq.at_ R.M_Keep_eq.fn R.b_Keep_eq (.inl ⟨_, _, rfl, by decide⟩) ht n1 ⟨_, _, _, _, rfl, ht, k1, fun _ => .mk ⟨_, rfl, hp⟩, fun z => nomatch z⟩
  · exact o_eqOwn F2 hr R.M_Lean_eq.at_ R.M_Lean_eq.fn R.b_Lean_eq (.inl ⟨_, _, rfl, by decide⟩) ht n2 ⟨_, _, _, _, rfl, ht, k2, fun _ => .mk ⟨_, rfl, hp⟩, fun z => nomatch z⟩
  · exact o_eqOwn F3 hr R.M_Dig_eq.at_ R.M_Dig_eq.fn R.b_Dig_eq (.inl ⟨_, _, rfl, by decide⟩) ht n3 ⟨_, _, _, _, rfl, ht, k3, fun _ => .mk ⟨_, rfl, hp⟩, fun z => nomatch z⟩
theorem o_stSt {X : Cx} {T : Bool} {M : Mem} {P : PK'} (R : Prg X.K X.mg) (F0 : FnD X.prog X.w X.K X.mg X.base 1 R.f_Full_eq R.d_Full_eq P_Full_eq (S_full_eq R)) (F1 : FnD X.prog X.w X.K X.mg X.base 1 R.f_Keep_eq R.d_Keep_eq P_Keep_eq (S_step_eq (K := X.K) R.C_Keep))
    (F2 : FnD X.prog X.w X.K X.mg X.base 1 R.f_Lean_eq R.d_Lean_eq P_Lean_eq (S_step_eq (K := X.K) R.C_Lean)) (F3 : FnD X.prog X.w X.K X.mg X.base 1 R.f_Dig_eq R.d_Dig_eq P_Dig_eq (S_step_eq (K := X.K) R.C_Dig)) (hr : Room 1 X.A) {c e : Nat × Int} (h : Okc c) (he : Okc e) (hp : P (.bl (decide (c = e))) M) :
    OP X T (compareOp .Eq) (stD R c) (stD R e) M P := by
  rcases okc_cases h with rfl | ⟨n, rfl, hn⟩ | ⟨n, rfl, hn⟩ | ⟨n, rfl, hn⟩ <;> rcases okc_cases he with rfl | ⟨m, rfl, hm⟩ | ⟨m, rfl, hm⟩ | ⟨m, rfl, hm⟩
  · exact o_eqOwn F0 hr R.M_Full_eq.at_ R.M_Full_eq.fn R.b_Full_eq (.inl ⟨_, _, rfl, by simp⟩) (.obj R.L_Full) (by simp [PySem.W.notFirst]) ⟨_, _, _, _, rfl, .obj R.L_Full, R.s_Full_Full, .mk ⟨_, rfl, (by simpa using hp)⟩⟩
  · exact o_eqOwn F0 hr R.M_Full_eq.at_ R.M_Full_eq.fn R.b_Full_eq (.inl ⟨_, _, rfl, by simp⟩) (.obj R.L_Keep) (R.nf_Full_Keep) ⟨_, _, _, _, rfl, .obj R.L_Keep, R.s_Keep_Full, .mk ⟨_, rfl, (by simpa using hp)⟩⟩
  · exact o_eqOwn F0 hr R.M_Full_eq.at_ R.M_Full_eq.fn R.b_Full_eq (.inl ⟨_, _, rfl, by simp⟩) (.obj R.L_Lean) (R.nf_Full_Lean) ⟨_, _, _, _, rfl, .obj R.L_Lean, R.s_Lean_Full, .mk ⟨_, rfl, (by simpa using hp)⟩⟩
  · exact o_eqOwn F0 hr R.M_Full_eq.at_ R.M_Full_eq.fn R.b_Full_eq (.inl ⟨_, _, rfl, by simp⟩) (.obj R.L_Dig) (R.nf_Full_Dig) ⟨_, _, _, _, rfl, .obj R.L_Dig, R.s_Dig_Full, .mk ⟨_, rfl, (by simpa using hp)⟩⟩
  · exact o_eqOwn F1 hr R.M_Keep_eq.at_ R.M_Keep_eq.fn R.b_Keep_eq (.inl ⟨_, _, rfl, by decide⟩) (.obj R.L_Full) (R.nf_Keep_Full) ⟨_, _, _, _, rfl, .obj R.L_Full, R.s_Full_Keep, (fun _ => .mk ⟨_, rfl, by simpa using hp⟩), fun z => nomatch z⟩
  · exact o_eqOwn F1 hr R.M_Keep_eq.at_ R.M_Keep_eq.fn R.b_Keep_eq (.inl ⟨_, _, rfl, by decide⟩) (.obj R.L_Keep) (by simp [PySem.W.notFirst]) ⟨_, _, _, _, rfl, .obj R.L_Keep, R.s_Keep_Keep, (fun z => nomatch z), fun _ => ⟨m, rfl, .mk ⟨_, rfl, by simpa using hp⟩⟩⟩
  · exact o_eqOwn F1 hr R.M_Keep_eq.at_ R.M_Keep_eq.fn R.b_Keep_eq (.inl ⟨_, _, rfl, by decide⟩) (.obj R.L_Lean) (R.nf_Keep_Lean) ⟨_, _, _, _, rfl, .obj R.L_Lean, R.s_Lean_Keep, (fun _ => .mk ⟨_, rfl, by simpa using hp⟩), fun z => nomatch z⟩
  · exact o_eqOwn F1 hr R.M_Keep_eq.at_ R.M_Keep_eq.fn R.b_Keep_eq (.inl ⟨_, _, rfl, by decide⟩) (.obj R.L_Dig) (R.nf_Keep_Dig) ⟨_, _, _, _, rfl, .obj R.L_Dig, R.s_Dig_Keep, (fun _ => .mk ⟨_, rfl, by simpa using hp⟩), fun z => nomatch z⟩
  · exact o_eqOwn F2 hr R.M_Lean_eq.at_ R.M_Lean_eq.fn R.b_Lean_eq (.inl ⟨_, _, rfl, by decide⟩) (.obj R.L_Full) (R.nf_Lean_Full) ⟨_, _, _, _, rfl, .obj R.L_Full, R.s_Full_Lean, (fun _ => .mk ⟨_, rfl, by simpa using hp⟩), fun z => nomatch z⟩
  · exact o_eqOwn F2 hr R.M_Lean_eq.at_ R.M_Lean_eq.fn R.b_Lean_eq (.inl ⟨_, _, rfl, by decide⟩) (.obj R.L_Keep) (R.nf_Lean_Keep) ⟨_, _, _, _, rfl, .obj R.L_Keep, R.s_Keep_Lean, (fun _ => .mk ⟨_, rfl, by simpa using hp⟩), fun z => nomatch z⟩
  · exact o_eqOwn F2 hr R.M_Lean_eq.at_ R.M_Lean_eq.fn R.b_Lean_eq (.inl ⟨_, _, rfl, by decide⟩) (.obj R.L_Lean) (by simp [PySem.W.notFirst]) ⟨_, _, _, _, rfl, .obj R.L_Lean, R.s_Lean_Lean, (fun z => nomatch z), fun _ => ⟨m, rfl, .mk ⟨_, rfl, by simpa using hp⟩⟩⟩
  · exact o_eqOwn F2 hr R.M_Lean_eq.at_ R.M_Lean_eq.fn R.b_Lean_eq (.inl ⟨_, _, rfl, by decide⟩) (.obj R.L_Dig) (R.nf_Lean_Dig) ⟨_, _, _, _, rfl, .obj R.L_Dig, R.s_Dig_Lean, (fun _ => .mk ⟨_, rfl, by simpa using hp⟩), fun z => nomatch z⟩
  · exact o_eqOwn F3 hr R.M_Dig_eq.at_ R.M_Dig_eq.fn R.b_Dig_eq (.inl ⟨_, _, rfl, by decide⟩) (.obj R.L_Full) (R.nf_Dig_Full) ⟨_, _, _, _, rfl, .obj R.L_Full, R.s_Full_Dig, (fun _ => .mk ⟨_, rfl, by simpa using hp⟩), fun z => nomatch z⟩
  · exact o_eqOwn F3 hr R.M_Dig_eq.at_ R.M_Dig_eq.fn R.b_Dig_eq (.inl ⟨_, _, rfl, by decide⟩) (.obj R.L_Keep) (R.nf_Dig_Keep) ⟨_, _, _, _, rfl, .obj R.L_Keep, R.s_Keep_Dig, (fun _ => .mk ⟨_, rfl, by simpa using hp⟩), fun z => nomatch z⟩
  · exact o_eqOwn F3 hr R.M_Dig_eq.at_ R.M_Dig_eq.fn R.b_Dig_eq (.inl ⟨_, _, rfl, by decide⟩) (.obj R.L_Lean) (R.nf_Dig_Lean) ⟨_, _, _, _, rfl, .obj R.L_Lean, R.s_Lean_Dig, (fun _ => .mk ⟨_, rfl, by simpa using hp⟩), fun z => nomatch z⟩
  · exact o_eqOwn F3 hr R.M_Dig_eq.at_ R.M_Dig_eq.fn R.b_Dig_eq (.inl ⟨_, _, rfl, by decide⟩) (.obj R.L_Dig) (by simp [PySem.W.notFirst]) ⟨_, _, _, _, rfl, .obj R.L_Dig, R.s_Dig_Dig, (fun z => nomatch z), fun _ => ⟨m, rfl, .mk ⟨_, rfl, by simpa using hp⟩⟩⟩
end
end Kh

set_option Elab.async false
set_option linter.all false
set_option maxRecDepth 100000
set_option maxHeartbeats 2000000
namespace Kh
open PySem PySem.Spec L2
open PySem.W (Frag)
-- PR : Program := PySem.Challenge.rw_keptholes_k05_steps_made.prog
section
variable {w : World} {K : Frag} {mg : Str → Option Value} {base : Heap}
/-! law(script) -/
theorem size_at {d : Int} (h0 : 0 ≤ d) (h4 : d < 4) : ∃ m : Int, atI [Dat.int 3, .int 9, .int (10 ^ Int.toNat 6), .int (10 ^ Int.toNat 39)] d = some (.int m) ∧ 0 < m ∧ m.natAbs.log2 < 9000 := by
  have : d = 0 ∨ d = 1 ∨ d = 2 ∨ d = 3 := by omega
  rcases this with rfl | rfl | rfl | rfl
  · exact ⟨_, rfl, by decide, by decide +kernel⟩
  · exact ⟨_, rfl, by decide, by decide +kernel⟩
  · exact ⟨_, rfl, by decide +kernel, by decide +kernel⟩
  · exact ⟨_, rfl, by decide +kernel, by decide +kernel⟩
theorem putC_hd {q : Addr} {c c' : MC} {M : Mem} : putC q c' ((q, c) :: M) = (q, c') :: M := by simp [putC]
theorem putC_tl {q r : Addr} {c c' : MC} {M : Mem} (h : q ≠ r) : putC r c' ((q, c) :: M) = (q, c) :: putC r c' M := by simp [putC, h]
/-- the three steps of a size -/
def threeC (n : Int) : List (Nat × Int) := [(1, n), (2, n), (3, n)]
/-- a test that is false -/
theorem ws_ifF {X : Cx} {T : Bool} {τ : TEnv} {M : Mem} {R : RK} {t : Expr} {p rest : List Stmt} {pos : Pos} (ht : ET X T t τ M (fun k M1 => k = false ∧ M1 = M) (fun x M1 => R (.ex x τ) M1)) (h : WS X T rest τ M R) : WS X T (.If t p [] pos :: rest) τ M R :=
  ws_if (ht.imp (fun k M1 ⟨e1, e2⟩ => by subst e1 e2; exact ⟨(fun z => nomatch z), fun _ => ws_nil h⟩) fun _ _ x => x)
/-- step.size -/
theorem ex_size {X : Cx} {T : Bool} {τ : TEnv} {M : Mem} {P : PK'} {E : XKx} {e : Expr} {pos : Pos} (R : Prg X.K X.mg) (F1 : FnD X.prog X.w X.K X.mg X.base 1 R.f_Keep_size R.d_Keep_size P_Keep_size (S_size (K := X.K))) (F2 : FnD X.prog X.w X.K X.mg X.base 1 R.f_Lean_size R.d_Lean_size P_Lean_size (S_size (K := X.K)))
    (F3 : FnD X.prog X.w X.K X.mg X.base 1 R.f_Dig_size R.d_Dig_size P_Dig_size (S_size (K := X.K))) (hr : Room 2 X.A) {c : Nat × Int} (h : Okc c) (h0 : 0 < c.1) (he : EX X T e τ M (fun d M1 => d = stD R c ∧ P (.int c.2) M1) E)
    (hab : attributeBase e "size" X.env (eval e X.env) = eval e X.env := by rfl) : EX X T (.Attribute e "size" pos) τ M P E := by
  rcases okc_cases h with rfl | ⟨n, rfl, hn⟩ | ⟨n, rfl, hn⟩ | ⟨n, rfl, hn⟩
  · cases h0
  · exact ex_prop R.L_Keep.cl R.V_Keep_size F1 hr R.b_Keep_size (he.imp (fun d M1 ⟨e1, hp⟩ => by subst e1; exact ⟨⟨"size", .inl ⟨_, _, rfl, by decide⟩⟩, ap_all ⟨_, _, rfl, fld_wide R.L_Keep.cl R.A_Keep_wide, .mk hp⟩⟩) fun _ _ x => x) hab
  · exact ex_prop R.L_Lean.cl R.V_Lean_size F2 hr R.b_Lean_size (he.imp (fun d M1 ⟨e1, hp⟩ => by subst e1; exact ⟨⟨"size", .inl ⟨_, _, rfl, by decide⟩⟩, ap_all ⟨_, _, rfl, fld_wide R.L_Lean.cl R.A_Lean_wide, .mk hp⟩⟩) fun _ _ x => x) hab
  · exact ex_prop R.L_Dig.cl R.V_Dig_size F3 hr R.b_Dig_size (he.imp (fun d M1 ⟨e1, hp⟩ => by subst e1; exact ⟨⟨"size", .inl ⟨_, _, rfl, by decide⟩⟩, ap_all ⟨_, _, rfl, fld_wide R.L_Dig.cl R.A_Dig_wide, .mk hp⟩⟩) fun _ _ x => x) hab
theorem cd_eqv {c e : Nat × Int} : PyData.eqv (.tuple [.int c.1, .int c.2]) (.tuple [.int e.1, .int e.2]) = decide (c = e) := by
  obtain ⟨a, n⟩ := c
  obtain ⟨b, m⟩ := e
  simp only [PyData.eqv, PyData.eqvAll, Bool.and_true, Prod.mk.injEq]
  rw [Bool.eq_iff_iff]
  simp
  omega
theorem ok_law (R : Prg K mg) : FnOk PR w K mg base CX0 6 R.f_law R.d_law P_law (toSp K spLaw) := by
  refine fn_law false R.F_law sc_law (fun h => nomatch h) (fun ds M P E ⟨a, _, q, _⟩ => by rw [q]; rfl) fun cdv A outer s H hr ds M Pd PE h => ?_
  obtain ⟨ns, hlen, rfl, rfl, hp⟩ := h
  have hu := hr.units
  refine ws_set <| ex_lstC <| ea_cons <| ex_int <| ea_cons <| ex_int <| ea_nil ⟨ln, fun r hr0 => ?_⟩
  refine ws_for <| ei_range1 R.n_range <| ex_int ⟨3, rfl, by decide, fun i τ M => ∃ szs : List Int, M = [(r, .lst (szs.map Dat.int))] ∧ (∀ n ∈ szs, 1 ≤ n) ∧ szs.length = 2 + i ∧ ∃ a2 a3 a4 a5 a6 a7 a8 a9 a10, τ = [some (.scr ns), some (.raw (.ref r)), a2, a3, a4, a5, a6, a7, a8, a9, a10],
    ⟨[1, 2], rfl, by simp, rfl, _, _, _, _, _, _, _, _, _, rfl⟩, fun _ _ _ _ => trivial, ?_, ?_⟩
  · rintro i d τ M hi ⟨szs, rfl, hs1, hsl, a2, a3, a4, a5, a6, a7, a8, a9, a10, rfl⟩
    obtain ⟨rfl, hi3⟩ := rngD_get hi
    refine gx_name ?_
    refine ws_set <| ex_callF (ok_law_purse R) (hr.mono (by decide)) R.m_law_purse R.F_law_purse R.b_law_purse <| ea_cons <| ex_var ⟨rfl, rfl⟩ <| ea_cons <| ex_var ⟨rfl, rfl⟩ <| ea_nil ⟨ns, _, rfl, fun q hq l hl => .mk ?_⟩
    have hqr : q ≠ r := fun z => hq (by rw [z]; exact List.mem_cons_self)
    refine ws_expr <| ex_append <| ex_var ⟨rfl, rfl⟩ ⟨.cell (List.mem_cons_of_mem _ List.mem_cons_self), ea_cons <| ex_bin <| ex_int <| ex_callF (ok_law_draw R) (hr.mono (by decide)) R.m_law_draw R.F_law_draw R.b_law_draw <| ea_cons <| ex_var ⟨rfl, rfl⟩ <| ea_cons <| ex_ix <| ex_lst <| ea_cons <| ex_int <| ea_cons <| ex_int <| ea_cons <| ex_bin <| ex_int <| ex_int <| o_powW (by decide +kernel) <| ea_cons <| ex_bin <| ex_int <| ex_int <| o_powW (by decide +kernel) <| ea_nil ⟨ln, ?_⟩⟩
    refine ex_callF (ok_law_draw R) (hr.mono (by decide)) R.m_law_draw R.F_law_draw R.b_law_draw <| ea_cons <| ex_var ⟨rfl, rfl⟩ <| ea_cons <| ex_int <| ea_nil <| draw_sp hl (by decide) (by decide) fun d l h0 h4 hl => ?_
    obtain ⟨m, hm, hm0, hml⟩ := size_at h0 h4
    refine i_lst hm <| ea_nil <| draw_sp hl hm0 hml fun d l h0 _ hl => o_add <| ea_nil <| b_append (ds := szs.map Dat.int) (List.mem_cons_of_mem _ List.mem_cons_self) (by rw [List.length_map, hsl]; have : sizeLine = 16777216 := sizeLine_eq; omega) ?_
    rw [putC_tl hqr, putC_hd]
    refine ws_drop (A := [(r, .lst (szs.map Dat.int ++ [Dat.int (1 + d)]))]) (B := [(q, .lst l)]) (List.Perm.swap _ _ _) ?_
    refine ws_nil ⟨szs ++ [1 + d], by rw [List.map_append]; rfl, fun n hn => ?_, by rw [List.length_append, hsl]; simp; omega, _, _, _, _, _, _, _, _, _, rfl⟩
    rcases List.mem_append.mp hn with z | z
    · exact hs1 n z
    · simp at z; omega
  · rintro τ M ⟨szs, rfl, hs1, hsl, a2, a3, a4, a5, a6, a7, a8, a9, a10, rfl⟩
    have hsl : szs.length = 5 := hsl
    refine ws_asg <| ex_tup <| ea_cons <| ex_lst <| ea_cons <| ex_new0 R.K_Full R.mc_Full fun q dx _ _ _ => .inr ⟨_, dx, [], _, List.Perm.refl _, ea_cons <| ex_new0 R.K_Full R.mc_Full fun q dx _ _ _ => .inr ⟨_, dx, [], _, List.Perm.refl _, ea_nil ⟨ln, ?_⟩⟩⟩
    refine ea_cons <| ex_lst <| ea_cons <| ex_tup <| ea_cons <| ex_int <| ea_cons <| ex_int <| ea_nil ⟨ln, ea_cons <| ex_tup <| ea_cons <| ex_int <| ea_cons <| ex_int <| ea_nil ⟨ln, ea_nil ⟨ln, ea_nil ⟨ln, gx_tup <| gxs_cons <| gx_name <| gxs_cons <| gx_name <| gxs_nil ?_⟩⟩⟩⟩
    refine ws_for <| ei_cell <| ex_var ⟨rfl, rfl⟩ ⟨r, _, rfl, List.mem_cons_self, fun i τ M => M = [(r, .lst (szs.map Dat.int))] ∧ ∃ cs : List (Nat × Int), (∀ c ∈ cs, Okc c) ∧ cs.length = 2 + 3 * i ∧ ∃ a2 a3 a6 a7 a8 a9 a10, τ = [some (.scr ns), some (.raw (.ref r)), a2, a3, some (.lst (cs.map (stD R))), some (.lst (cs.map cdD)), a6, a7, a8, a9, a10],
      ⟨rfl, [(0, 0), (0, 0)], by simp [Okc], rfl, _, _, _, _, _, _, _, rfl⟩, fun i τ M ⟨e, _⟩ => by rw [e]; exact List.mem_cons_self, ?_, ?_⟩
    · rintro i d τ M hi ⟨rfl, cs, hcs, hcl, b2, b3, b6, b7, b8, b9, b10, rfl⟩
      obtain ⟨n, hn, rfl⟩ : ∃ n, szs[i]? = some n ∧ d = .int n := by
        rw [List.getElem?_map] at hi
        cases q : szs[i]? with
        | none => rw [q] at hi; cases hi
        | some c => rw [q] at hi; cases hi; exact ⟨c, rfl, rfl⟩
      have hi5 : i < 5 := by have := (List.getElem?_eq_some_iff.mp hn).1; omega
      have h1n := hs1 n (List.mem_of_getElem? hn)
      have ck : chk (.int n) 1 = true := decide_eq_true h1n
      have nck : chk (.int n) 1 = false → False := fun z => by rw [ck] at z; cases z
      refine gx_name ?_
      refine ws_set <| ex_bin <| ex_var ⟨rfl, rfl⟩ <| ex_lst <| ea_cons <| ex_make R.K_Keep (ok_Keep_init R) (hr.mono (by decide)) R.mc_Keep R.b_Keep_init .nil (fun _ => .nil) <| ea_cons <| ex_var ⟨rfl, rfl⟩ <| ea_nil fun q dx _ _ _ => mk_step kint_int (fun _ => ?_) fun z => (nck z).elim
      refine ea_cons <| ex_make R.K_Lean (ok_Lean_init R) (hr.mono (by decide)) R.mc_Lean R.b_Lean_init .nil (fun _ => .nil) <| ea_cons <| ex_var ⟨rfl, rfl⟩ <| ea_nil fun q dx _ _ _ => mk_step kint_int (fun _ => ?_) fun z => (nck z).elim
      refine ea_cons <| ex_make R.K_Dig (ok_Dig_init R) (hr.mono (by decide)) R.mc_Dig R.b_Dig_init .nil (fun _ => .nil) <| ea_cons <| ex_var ⟨rfl, rfl⟩ <| ea_nil fun q dx _ _ _ => mk_step kint_int (fun _ => ?_) fun z => (nck z).elim
      have sz : sizeLine = 16777216 := sizeLine_eq
      refine ea_nil ⟨ln, o_catL (by rw [List.length_map, hcl]; simp; omega) ?_⟩
      refine ws_set <| ex_bin <| ex_var ⟨rfl, rfl⟩ <| ex_lst <| ea_cons <| ex_tup <| ea_cons <| ex_int <| ea_cons <| ex_var ⟨rfl, rfl⟩ <| ea_nil ⟨ln, ea_cons <| ex_tup <| ea_cons <| ex_int <| ea_cons <| ex_var ⟨rfl, rfl⟩ <| ea_nil ⟨ln, ea_cons <| ex_tup <| ea_cons <| ex_int <| ea_cons <| ex_var ⟨rfl, rfl⟩ <| ea_nil ⟨ln, ea_nil ⟨ln, o_catL (by rw [List.length_map, hcl]; simp; omega) ?_⟩⟩⟩⟩
      refine ws_nil ⟨rfl, cs ++ threeC n, fun c hc => ?_, by rw [List.length_append, hcl]; simp [threeC]; omega, _, _, _, _, _, _, _, by rw [List.map_append, List.map_append]; rfl⟩
      rcases List.mem_append.mp hc with z | z
      · exact hcs c z
      · simp only [threeC, List.mem_cons, List.not_mem_nil, or_false] at z
        rcases z with rfl | rfl | rfl <;> exact ⟨by simp, by simp, fun _ => h1n⟩
    · rintro τ M ⟨rfl, cs, hcs, hcl, b2, b3, b6, b7, b8, b9, b10, rfl⟩
      have hcl : cs.length ≤ 100 := by rw [hcl, List.length_map]; omega
      have hr1 : Room 1 (A.deeper (PyProof.Rows.envOfC "law" (defScope s_law) s.heap.objs.size R.f_law cdv)) := hr.mono (by decide)
      refine ws_for <| ei_enum R.n_enumerate <| ex_var ⟨rfl, rfl⟩ ⟨_, rfl, fun i τ M => M = [(r, .lst (szs.map Dat.int))] ∧ ∃ a2 a3 a6 a7 a8 a9 a10, τ = [some (.scr ns), some (.raw (.ref r)), a2, a3, some (.lst (cs.map (stD R))), some (.lst (cs.map cdD)), a6, a7, a8, a9, a10],
        ⟨rfl, _, _, _, _, _, _, _, rfl⟩, fun _ _ _ _ => trivial, ?_, ?_⟩
      · rintro i d τ M hi ⟨rfl, a2, a3, a6, a7, a8, a9, a10, rfl⟩
        obtain ⟨x, hx, rfl⟩ := enuD_get hi
        obtain ⟨c, hc, rfl⟩ : ∃ c, cs[i]? = some c ∧ x = stD R c := by
          rw [List.getElem?_map] at hx
          cases q : cs[i]? with
          | none => rw [q] at hx; cases hx
          | some c => rw [q] at hx; cases hx; exact ⟨c, rfl, rfl⟩
        have hok := hcs c (List.mem_of_getElem? hc)
        obtain ⟨C, ty, kS, k0, k1, k2, k3⟩ := stD_ty R hok
        have hcd : atI (cs.map cdD) (i : Int) = some (cdD c) := atI_nat (by rw [List.getElem?_map, hc]; rfl)
        refine gx_tup <| gxs_cons <| gx_name <| gxs_cons <| gx_name <| gxs_nil ?_
        refine ws_if <| et_w <| ew_or <| et_not <| et_val <| ex_callB R.n_isinstance PyProof.Rows.Boot.«isinstance» <| ea_cons <| ex_var ⟨rfl, rfl⟩ <| ea_cons <| ex_gref R.mc_Step <| ea_nil <| c_isi (.own _) (ty _) kS ⟨true, rfl, (fun z => nomatch z), fun _ => ew_or1 ?_⟩
        refine et_cmp <| ex_callF (ok_law_kinds R) hr1 R.m_law_kinds R.F_law_kinds R.b_law_kinds <| ea_cons <| ex_var ⟨rfl, rfl⟩ <| ea_nil ⟨_, _, _, _, _, _, rfl, ty _, k0, k1, k2, k3, .mk ?_⟩
        refine ex_lc [("k", 10)] <| ei_range1 R.n_range <| ex_int ⟨4, rfl, by decide, by rw [rngD_length]; exact lnN, fun j acc M' => M' = [(r, .lst (szs.map Dat.int))] ∧ acc = (List.range j).map (fun (q : Nat) => Dat.bl (decide ((0 : Int) + (q : Int) = (c.1 : Int)))), ⟨rfl, rfl⟩, fun _ _ _ _ => trivial, ?_, ?_⟩
        · rintro j d acc M' hj ⟨rfl, rfl⟩ s2 H2 C2 cl fp
          obtain ⟨rfl, hj4⟩ := rngD_get hj
          refine gc_name ?_
          intro s3 H3 C3 cl3 fp3
          refine ef_nil ⟨fun _ s4 H4 C4 cl4 fp4 => ?_, fun z => nomatch z⟩
          exact ex_cmp <| ex_var ⟨rfl, rfl⟩ <| ex_ix <| ex_ix <| ex_var ⟨rfl, rfl⟩ <| ex_var ⟨rfl, rfl⟩ <| i_lst hcd <| ex_int <| i_tup rfl <| o_eqI ⟨rfl, by rw [List.range_succ, List.map_append]; rfl⟩
        · rintro acc M' ⟨rfl, rfl⟩
          have e4 : (List.range (rngD 0 (Int.toNat 4)).length).map (fun (q : Nat) => Dat.bl (decide ((0 : Int) + (q : Int) = (c.1 : Int)))) = [.bl (decide (c.1 = 0)), .bl (decide (c.1 = 1)), .bl (decide (c.1 = 2)), .bl (decide (c.1 = 3))] := by
            have b : ∀ q : Nat, decide ((0 : Int) + (q : Int) = (c.1 : Int)) = decide (c.1 = q) := fun q => by rw [Bool.eq_iff_iff]; simp only [decide_eq_true_eq]; omega
            rw [rngD_length]
            show [Dat.bl _, Dat.bl _, Dat.bl _, Dat.bl _] = _
            rw [b, b, b, b]
          rw [e4]
          refine o_neLT (eqTL_self _ (by simp [selfEL, selfE])) (by simp [dpDL, dpD]) hu ⟨_, rfl, (fun z => nomatch z), fun _ => ws_nil ?_⟩
          have tag : ∀ {b : Bool} {M' : Mem}, b = false → M' = M' → (b = false ∧ M' = M') := fun h _ => ⟨h, rfl⟩
          refine ws_ifF ?_ ?_
          · refine et_w <| ew_and <| et_cmp <| ex_ix <| ex_ix <| ex_var ⟨rfl, rfl⟩ <| ex_var ⟨rfl, rfl⟩ <| i_lst hcd <| ex_int <| i_tup rfl <| ex_int <| o_gt ⟨_, rfl, fun e => ?_, fun _ => ⟨rfl, rfl⟩⟩
            have hpos : 0 < c.1 := by have := of_decide_eq_true e; omega
            refine ew_and1 <| et_w <| ew_or <| et_cmp <| ex_size R (ok_Keep_size R) (ok_Lean_size R) (ok_Dig_size R) (hr.mono (by decide)) hok hpos <| ex_var ⟨rfl, rfl⟩ ⟨rfl, ex_ix <| ex_ix <| ex_var ⟨rfl, rfl⟩ <| ex_var ⟨rfl, rfl⟩ <| i_lst hcd <| ex_int <| i_tup rfl <| o_neI ⟨_, rfl, fun z => by simp at z, fun _ => ?_⟩⟩
            exact ew_or1 <| et_val <| ex_callB R.n_isinstance PyProof.Rows.Boot.«isinstance» <| ea_cons <| ex_size R (ok_Keep_size R) (ok_Lean_size R) (ok_Dig_size R) (hr.mono (by decide)) hok hpos <| ex_var ⟨rfl, rfl⟩ ⟨rfl, ea_cons <| ex_gty R.n_bool PyProof.Rows.Boot.«bool» <| ea_nil <| c_isi (.ty _) .int (by rfl) ⟨false, rfl, rfl, rfl⟩⟩
          refine ws_ifF ?_ ?_
          refine et_cmp <| ex_lc [("k", 10)] <| ei_range1 R.n_range <| ex_callB R.n_len PyProof.Rows.Boot.«len» <| ea_cons <| ex_var ⟨rfl, rfl⟩ <| ea_nil <| c_len_lst ⟨_, rfl, by rw [List.length_map]; omega, by rw [rngD_length, List.length_map]; have : sizeLine = 16777216 := sizeLine_eq; omega, fun j acc M' => M' = [(r, .lst (szs.map Dat.int))] ∧ acc = [], ⟨rfl, rfl⟩, fun _ _ _ _ => trivial, ?_, ?_⟩
          · rintro j d acc M' hj ⟨rfl, rfl⟩ s2 H2 C2 cl fp
            obtain ⟨rfl, hj4⟩ := rngD_get hj
            have hjl : j < cs.length := by rw [List.length_map] at hj4; omega
            obtain ⟨e, he⟩ : ∃ e, cs[j]? = some e := ⟨_, List.getElem?_eq_getElem hjl⟩
            have hoe := hcs e (List.mem_of_getElem? he)
            have hsj : atI (cs.map (stD R)) (0 + (j : Int)) = some (stD R e) := by rw [Int.zero_add]; exact atI_nat (by rw [List.getElem?_map, he]; rfl)
            have hcj : atI (cs.map cdD) (0 + (j : Int)) = some (cdD e) := by rw [Int.zero_add]; exact atI_nat (by rw [List.getElem?_map, he]; rfl)
            refine gc_name ?_
            intro s3 H3 C3 cl3 fp3
            refine ef_one <| et_cmp <| ex_callTy R.n_bool PyProof.Rows.Boot.«bool» <| ea_cons <| ex_cmp <| ex_var ⟨rfl, rfl⟩ <| ex_ix <| ex_var ⟨rfl, rfl⟩ <| ex_var ⟨rfl, rfl⟩ <| i_lst hsj <| o_stSt (X := Cx.Bk (cxOf CX0 PR w K mg base N_law "law" (defScope s_law) R.f_law cdv A outer s H E0).nox _ s3 H3 C3 cl3 fp3) R (ok_Full_eq R) (ok_Keep_eq R) (ok_Lean_eq R) (ok_Dig_eq R) hr1 hok hoe <| ea_nil <| c_bool_b ?_
            refine ex_cmp <| ex_ix <| ex_var ⟨rfl, rfl⟩ <| ex_var ⟨rfl, rfl⟩ <| i_lst hcd <| ex_ix <| ex_var ⟨rfl, rfl⟩ <| ex_var ⟨rfl, rfl⟩ <| i_lst hcj <| o_eqD rfl rfl rfl rfl hu ?_
            rw [cd_eqv]
            exact o_neB ⟨_, rfl, fun z => by simp at z, fun _ => ⟨rfl, rfl⟩⟩
          · rintro acc M' ⟨rfl, rfl⟩
            exact ex_lst <| ea_nil ⟨ln, o_neLT rfl (by decide) hu ⟨_, rfl, rfl, rfl⟩⟩
          refine ws_ifF ?_ ?_
          · refine et_w <| ew_or <| et_cmp <| ex_var ⟨rfl, rfl⟩ <| ex_ix <| ex_var ⟨rfl, rfl⟩ <| ex_var ⟨rfl, rfl⟩ <| i_lst hcd <| o_stNo (X := (cxOf CX0 PR w K mg base N_law "law" (defScope s_law) R.f_law cdv A outer s H E0).nox) R (ok_Full_eq R) (ok_Keep_eq R) (ok_Lean_eq R) (ok_Dig_eq R) hr1 hok (y := cdD c) (t := .type "tuple") .tup (by rfl) (by rfl) (by rfl) (by rfl) (kit_tr R.ic_Full R.tc_Full (by rfl)) (kit_tr R.ic_Keep R.tc_Keep (by rfl)) (kit_tr R.ic_Lean R.tc_Lean (by rfl)) (kit_tr R.ic_Dig R.tc_Dig (by rfl)) ?_
            refine ⟨_, rfl, (fun z => nomatch z), fun _ => ?_⟩
            refine ew_or <| et_cmp <| ex_var ⟨rfl, rfl⟩ <| ex_ix <| ex_ix <| ex_var ⟨rfl, rfl⟩ <| ex_var ⟨rfl, rfl⟩ <| i_lst hcd <| ex_int <| i_tup rfl <| o_stNo (X := (cxOf CX0 PR w K mg base N_law "law" (defScope s_law) R.f_law cdv A outer s H E0).nox) R (ok_Full_eq R) (ok_Keep_eq R) (ok_Lean_eq R) (ok_Dig_eq R) hr1 hok (t := .type "int") .int (by rfl) (by rfl) (by rfl) (by rfl) (kit_tr R.ic_Full R.tc_Full (by rfl)) (kit_tr R.ic_Keep R.tc_Keep (by rfl)) (kit_tr R.ic_Lean R.tc_Lean (by rfl)) (kit_tr R.ic_Dig R.tc_Dig (by rfl)) ?_
            refine ⟨_, rfl, (fun z => nomatch z), fun _ => ?_⟩
            refine ew_or <| et_cmp <| ex_var ⟨rfl, rfl⟩ <| ex_make R.K_Script (ok_Script_init R) (hr.mono (by decide)) R.mc_Script R.b_Script_init .nil (fun _ => .nil) <| ea_cons <| ex_lst <| ea_cons <| ex_var ⟨rfl, rfl⟩ <| ea_nil ⟨ln, ea_nil fun q dx _ _ _ => mk_script ln (fun x hx => (by simp only [List.mem_cons, List.not_mem_nil, or_false] at hx; subst hx; exact ⟨_, ty, kS⟩)) ?_⟩
            refine o_stNo (X := (cxOf CX0 PR w K mg base N_law "law" (defScope s_law) R.f_law cdv A outer s H E0).nox) R (ok_Full_eq R) (ok_Keep_eq R) (ok_Lean_eq R) (ok_Dig_eq R) hr1 hok (.obj R.L_Script) R.nf_Full_Script R.nf_Keep_Script R.nf_Lean_Script R.nf_Dig_Script R.s_Script_Full R.s_Script_Keep R.s_Script_Lean R.s_Script_Dig ?_
            refine ⟨_, rfl, (fun z => nomatch z), fun _ => ?_⟩
            refine ew_or <| et_cmp <| ex_var ⟨rfl, rfl⟩ <| ex_str <| o_stNo (X := (cxOf CX0 PR w K mg base N_law "law" (defScope s_law) R.f_law cdv A outer s H E0).nox) R (ok_Full_eq R) (ok_Keep_eq R) (ok_Lean_eq R) (ok_Dig_eq R) hr1 hok (t := .type "str") .str (by rfl) (by rfl) (by rfl) (by rfl) (kit_tr R.ic_Full R.tc_Full (by rfl)) (kit_tr R.ic_Keep R.tc_Keep (by rfl)) (kit_tr R.ic_Lean R.tc_Lean (by rfl)) (kit_tr R.ic_Dig R.tc_Dig (by rfl)) ?_
            refine ⟨_, rfl, (fun z => nomatch z), fun _ => ew_or1 ?_⟩
            refine et_cmp <| ex_var ⟨rfl, rfl⟩ <| ex_make0 (df := [.str ""]) (dvs := [.str ""]) R.K_File (ok_File_init R) (hr.mono (by decide)) R.mc_File R.b1_File_init (.cons ⟨_, rfl⟩ .nil) (fun _ => .cons den_str .nil) fun q dx _ _ _ => mk_file (by decide) (by decide) ?_
            refine o_stNo (X := (cxOf CX0 PR w K mg base N_law "law" (defScope s_law) R.f_law cdv A outer s H E0).nox) R (ok_Full_eq R) (ok_Keep_eq R) (ok_Lean_eq R) (ok_Dig_eq R) hr1 hok (.obj R.L_File) R.nf_Full_File R.nf_Keep_File R.nf_Lean_File R.nf_Dig_File R.s_File_Full R.s_File_Keep R.s_File_Lean R.s_File_Dig ?_
            exact ⟨_, rfl, rfl, rfl⟩
          · exact ws_nil ⟨rfl, _, _, _, _, _, _, _, rfl⟩
      · rintro τ M ⟨rfl, a2, a3, a6, a7, a8, a9, a10, rfl⟩
        refine ws_dropN ?_
        refine ws_for <| ei_range1 R.n_range <| ex_int ⟨3, rfl, by decide, fun i τ M => M = [] ∧ ∃ a1 a2 a3 a4 a5 a6 a7 a8 a9 a10, τ = [some (.scr ns), a1, a2, a3, a4, a5, a6, a7, a8, a9, a10], ⟨rfl, _, _, _, _, _, _, _, _, _, _, rfl⟩, fun _ _ _ _ => trivial, ?_, ?_⟩
        · rintro i d τ M hi ⟨rfl, a1, a2, a3, a4, a5, a6, a7, a8, a9, a10, rfl⟩
          obtain ⟨rfl, _⟩ := rngD_get hi
          refine gx_name ?_
          refine ws_for <| ei_list <| ex_lst <| ea_cons <| ex_int <| ea_cons <| ex_bin <| ex_int <| ex_int <| o_sub <| ea_cons <| ex_bin <| ex_int <| ex_bin <| ex_int <| ex_int <| o_powW (by decide +kernel) <| o_sub <| ea_cons <| ex_bl <| ea_cons <| ex_bl <| ea_cons <| ex_non <| ea_cons <| ex_str <| ea_cons <| ex_lst <| ea_cons <| ex_int <| ea_nil ⟨ln, ?_⟩
          refine ea_cons <| ex_tup <| ea_cons <| ex_int <| ea_nil ⟨ln, ea_cons <| ex_dict0 fun pd => ea_cons <| ex_tag <| ex_new0 R.K_Full R.mc_Full fun q dx _ _ _ => .inr ⟨_, dx, [], _, List.Perm.refl _, rfl, fun pf => ?_⟩⟩
          refine ea_cons <| ex_tag <| ex_make R.K_Keep (ok_Keep_init R) (hr.mono (by decide)) R.mc_Keep R.b_Keep_init .nil (fun _ => .nil) <| ea_cons <| ex_int <| ea_nil fun q dx _ _ _ => mk_step kint_int (fun _ => ⟨rfl, fun pk => ea_nil ⟨ln, ?_⟩⟩) fun z => by cases z
          refine ⟨_, rfl, fun j τ M => M = [] ∧ ∃ a1 a2 a3 a4 a5 a6 a7 a9 a10, τ = [some (.scr ns), a1, a2, a3, a4, a5, a6, a7, some (.int (0 + (i : Int))), a9, a10], ⟨rfl, _, _, _, _, _, _, _, _, _, rfl⟩, fun _ _ _ _ => trivial, ?_, ?_⟩
          · rintro j v τ M hj ⟨rfl, b1, b2, b3, b4, b5, b6, b7, b9, b10, rfl⟩
            have hv : OddV K v := by
              have hd := List.mem_of_getElem? hj
              simp only [List.mem_cons, List.not_mem_nil, or_false] at hd
              rcases hd with rfl | rfl | rfl | rfl | rfl | rfl | rfl | rfl | rfl | rfl | rfl | rfl
              · exact ⟨kint_int, by decide, rfl, by decide⟩
              · exact ⟨kint_int, by decide, rfl, by decide⟩
              · exact ⟨kint_int, by decide +kernel, rfl, by simp [dpD]⟩
              · exact ⟨kint_bl, rfl, rfl, by decide⟩
              · exact ⟨kint_bl, rfl, rfl, by decide⟩
              · exact ⟨kint_non, rfl, rfl, by decide⟩
              · exact ⟨kint_str, rfl, rfl, by decide⟩
              · exact ⟨kint_lst, rfl, rfl, by decide⟩
              · exact ⟨kint_tup, rfl, rfl, by decide⟩
              · exact ⟨kint_atd, rfl, rfl, by simp [dpD]⟩
              · exact ⟨kint_ato R.L_Full R.si_Full_int, rfl, rfl, by simp [dpD]⟩
              · exact ⟨kint_ato R.L_Keep R.si_Keep_int, rfl, rfl, by simp [dpD]⟩
            refine gx_name ?_
            exact ws_if <| et_not <| et_val <| ex_callF (ok_law_refused R) hr R.m_law_refused R.F_law_refused R.b_law_refused <| ea_cons <| ex_var ⟨rfl, rfl⟩ <| ea_cons <| ex_var ⟨rfl, rfl⟩ <| ea_nil ⟨_, v, rfl, hv, .mk ⟨true, rfl, (fun z => nomatch z), fun _ => ws_nil <| ws_nil ⟨rfl, _, _, _, _, _, _, _, _, _, rfl⟩⟩⟩
          · rintro τ M ⟨rfl, b1, b2, b3, b4, b5, b6, b7, b9, b10, rfl⟩
            exact ws_nil ⟨rfl, _, _, _, _, _, _, _, _, _, _, rfl⟩
        · rintro τ M ⟨rfl, a1, a2, a3, a4, a5, a6, a7, a8, a9, a10, rfl⟩
          exact ws_ret <| ex_bl hp
end
end Kh

set_option Elab.async false
set_option linter.all false
set_option maxRecDepth 100000
set_option maxHeartbeats 2000000
namespace Kh
open PySem PySem.Spec L2
open PySem.W (Frag ksFn)
theorem all_mk {w : World} {K : Frag} {h : Heap} {mg : Str → Option Value} {fa : Addr} (X : K.In h) (G : h.Ns mainGlobals mg) (hfa : mg "law" = some (.ref fa))
    {tg_SIGNS : Tok} {C_File : Addr} {C_Step : Addr} {C_Full : Addr} {C_Keep : Addr} {C_Lean : Addr} {C_Dig : Addr} {C_Script : Addr} {f_is_whole : Addr} {od_is_whole an_is_whole : Option Addr} {sl_is_whole : Array (Option Value)} {oc_is_whole kV_is_whole dc_is_whole pm_is_whole cd_is_whole ct_is_whole : Value} {f_check_least : Addr} {od_check_least an_check_least : Option Addr} {sl_check_least : Array (Option Value)} {oc_check_least kV_check_least dc_check_least pm_check_least cd_check_least ct_check_least : Value} {f_check_within : Addr} {od_check_within an_check_within : Option Addr} {sl_check_within : Array (Option Value)} {oc_check_within kV_check_within dc_check_within pm_check_within cd_check_within ct_check_within : Value} {f_are_cells : Addr} {od_are_cells an_are_cells : Option Addr} {sl_are_cells : Array (Option Value)} {oc_are_cells kV_are_cells dc_are_cells pm_are_cells cd_are_cells ct_are_cells : Value} {f_are_steps : Addr} {od_are_steps an_are_steps : Option Addr} {sl_are_steps : Array (Option Value)} {oc_are_steps kV_are_steps dc_are_steps pm_are_steps cd_are_steps ct_are_steps : Value} {f_law_purse : Addr} {od_law_purse an_law_purse : Option Addr} {sl_law_purse : Array (Option Value)} {oc_law_purse kV_law_purse dc_law_purse pm_law_purse cd_law_purse ct_law_purse : Value} {f_law_draw : Addr} {od_law_draw an_law_draw : Option Addr} {sl_law_draw : Array (Option Value)} {oc_law_draw kV_law_draw dc_law_draw pm_law_draw cd_law_draw ct_law_draw : Value} {f_law_refused : Addr} {od_law_refused an_law_refused : Option Addr} {sl_law_refused : Array (Option Value)} {oc_law_refused kV_law_refused dc_law_refused pm_law_refused cd_law_refused ct_law_refused : Value} {f_law_kinds : Addr} {od_law_kinds an_law_kinds : Option Addr} {sl_law_kinds : Array (Option Value)} {oc_law_kinds kV_law_kinds dc_law_kinds pm_law_kinds cd_law_kinds ct_law_kinds : Value} {f_law : Addr} {od_law an_law : Option Addr} {sl_law : Array (Option Value)} {oc_law kV_law dc_law pm_law cd_law ct_law : Value} {f_File_init : Addr} {od_File_init an_File_init : Option Addr} {sl_File_init : Array (Option Value)} {oc_File_init kV_File_init dc_File_init pm_File_init cd_File_init ct_File_init : Value} {T_File_init : Addr} {ocT_File_init : Value} {odT_File_init : Option Addr} {nT_File_init : Nat} {slT_File_init : Array (Option Value)} {tk0_File_init : Tok} {f_File_cells : Addr} {od_File_cells an_File_cells : Option Addr} {sl_File_cells : Array (Option Value)} {oc_File_cells kV_File_cells dc_File_cells pm_File_cells cd_File_cells ct_File_cells : Value} {pr_File_cells : Addr} {rs_File_cells : List Value} {f_File_len : Addr} {od_File_len an_File_len : Option Addr} {sl_File_len : Array (Option Value)} {oc_File_len kV_File_len dc_File_len pm_File_len cd_File_len ct_File_len : Value} {f_File_iter : Addr} {od_File_iter an_File_iter : Option Addr} {sl_File_iter : Array (Option Value)} {oc_File_iter kV_File_iter dc_File_iter pm_File_iter cd_File_iter ct_File_iter : Value} {f_File_getitem : Addr} {od_File_getitem an_File_getitem : Option Addr} {sl_File_getitem : Array (Option Value)} {oc_File_getitem kV_File_getitem dc_File_getitem pm_File_getitem cd_File_getitem ct_File_getitem : Value} {f_File_eq : Addr} {od_File_eq an_File_eq : Option Addr} {sl_File_eq : Array (Option Value)} {oc_File_eq kV_File_eq dc_File_eq pm_File_eq cd_File_eq ct_File_eq : Value} {f_Full_eq : Addr} {od_Full_eq an_Full_eq : Option Addr} {sl_Full_eq : Array (Option Value)} {oc_Full_eq kV_Full_eq dc_Full_eq pm_Full_eq cd_Full_eq ct_Full_eq : Value} {f_Keep_init : Addr} {od_Keep_init an_Keep_init : Option Addr} {sl_Keep_init : Array (Option Value)} {oc_Keep_init kV_Keep_init dc_Keep_init pm_Keep_init cd_Keep_init ct_Keep_init : Value} {f_Keep_size : Addr} {od_Keep_size an_Keep_size : Option Addr} {sl_Keep_size : Array (Option Value)} {oc_Keep_size kV_Keep_size dc_Keep_size pm_Keep_size cd_Keep_size ct_Keep_size : Value} {pr_Keep_size : Addr} {rs_Keep_size : List Value} {f_Keep_eq : Addr} {od_Keep_eq an_Keep_eq : Option Addr} {sl_Keep_eq : Array (Option Value)} {oc_Keep_eq kV_Keep_eq dc_Keep_eq pm_Keep_eq cd_Keep_eq ct_Keep_eq : Value} {f_Lean_init : Addr} {od_Lean_init an_Lean_init : Option Addr} {sl_Lean_init : Array (Option Value)} {oc_Lean_init kV_Lean_init dc_Lean_init pm_Lean_init cd_Lean_init ct_Lean_init : Value} {f_Lean_size : Addr} {od_Lean_size an_Lean_size : Option Addr} {sl_Lean_size : Array (Option Value)} {oc_Lean_size kV_Lean_size dc_Lean_size pm_Lean_size cd_Lean_size ct_Lean_size : Value} {pr_Lean_size : Addr} {rs_Lean_size : List Value} {f_Lean_eq : Addr} {od_Lean_eq an_Lean_eq : Option Addr} {sl_Lean_eq : Array (Option Value)} {oc_Lean_eq kV_Lean_eq dc_Lean_eq pm_Lean_eq cd_Lean_eq ct_Lean_eq : Value} {f_Dig_init : Addr} {od_Dig_init an_Dig_init : Option Addr} {sl_Dig_init : Array (Option Value)} {oc_Dig_init kV_Dig_init dc_Dig_init pm_Dig_init cd_Dig_init ct_Dig_init : Value} {f_Dig_size : Addr} {od_Dig_size an_Dig_size : Option Addr} {sl_Dig_size : Array (Option Value)} {oc_Dig_size kV_Dig_size dc_Dig_size pm_Dig_size cd_Dig_size ct_Dig_size : Value} {pr_Dig_size : Addr} {rs_Dig_size : List Value} {f_Dig_eq : Addr} {od_Dig_eq an_Dig_eq : Option Addr} {sl_Dig_eq : Array (Option Value)} {oc_Dig_eq kV_Dig_eq dc_Dig_eq pm_Dig_eq cd_Dig_eq ct_Dig_eq : Value} {f_Script_init : Addr} {od_Script_init an_Script_init : Option Addr} {sl_Script_init : Array (Option Value)} {oc_Script_init kV_Script_init dc_Script_init pm_Script_init cd_Script_init ct_Script_init : Value} {T_Script_init : Addr} {ocT_Script_init : Value} {odT_Script_init : Option Addr} {nT_Script_init : Nat} {slT_Script_init : Array (Option Value)} {f_Script_len : Addr} {od_Script_len an_Script_len : Option Addr} {sl_Script_len : Array (Option Value)} {oc_Script_len kV_Script_len dc_Script_len pm_Script_len cd_Script_len ct_Script_len : Value} {f_Script_iter : Addr} {od_Script_iter an_Script_iter : Option Addr} {sl_Script_iter : Array (Option Value)} {oc_Script_iter kV_Script_iter dc_Script_iter pm_Script_iter cd_Script_iter ct_Script_iter : Value} {f_Script_getitem : Addr} {od_Script_getitem an_Script_getitem : Option Addr} {sl_Script_getitem : Array (Option Value)} {oc_Script_getitem kV_Script_getitem dc_Script_getitem pm_Script_getitem cd_Script_getitem ct_Script_getitem : Value} {f_Script_eq : Addr} {od_Script_eq an_Script_eq : Option Addr} {sl_Script_eq : Array (Option Value)} {oc_Script_eq kV_Script_eq dc_Script_eq pm_Script_eq cd_Script_eq ct_Script_eq : Value} {f_Script_add : Addr} {od_Script_add an_Script_add : Option Addr} {sl_Script_add : Array (Option Value)} {oc_Script_add kV_Script_add dc_Script_add pm_Script_add cd_Script_add ct_Script_add : Value} {f_Script_mul : Addr} {od_Script_mul an_Script_mul : Option Addr} {sl_Script_mul : Array (Option Value)} {oc_Script_mul kV_Script_mul dc_Script_mul pm_Script_mul cd_Script_mul ct_Script_mul : Value} {f_Script_without : Addr} {od_Script_without an_Script_without : Option Addr} {sl_Script_without : Array (Option Value)} {oc_Script_without kV_Script_without dc_Script_without pm_Script_without cd_Script_without ct_Script_without : Value} {C_InvalidFile : Addr} {C_HoleError : Addr} {nm_InvalidFile q_InvalidFile : Str} {NN_InvalidFile I_InvalidFile cda_InvalidFile cc_InvalidFile : Addr} {bs_InvalidFile : List Value} {sn_InvalidFile : List Str} {sub_InvalidFile : List Value} {ab_InvalidFile : Bool} {col_InvalidFile : Option Bool} {dd_InvalidFile : Option Addr} {m0_InvalidFile m1_InvalidFile m2_InvalidFile m3_InvalidFile m5_InvalidFile : Option Value} {od_InvalidFile an_InvalidFile cdd_InvalidFile cld_InvalidFile : Option Addr} {sl_InvalidFile ccs_InvalidFile csl_InvalidFile : Array (Option Value)} {oc_InvalidFile ocT_InvalidFile kV_InvalidFile dc_InvalidFile pm_InvalidFile ct_InvalidFile ccl_InvalidFile cl_InvalidFile : Value} {T_InvalidFile : Addr} {odT_InvalidFile : Option Addr} {nT_InvalidFile : Nat} {slT_InvalidFile : Array (Option Value)} {vs_InvalidFile : Array Value} {file_InvalidFile : Str} {tf_InvalidFile : Tok} {C_InvalidNumber : Addr} {nm_InvalidNumber q_InvalidNumber : Str} {NN_InvalidNumber I_InvalidNumber cda_InvalidNumber cc_InvalidNumber : Addr} {bs_InvalidNumber : List Value} {sn_InvalidNumber : List Str} {sub_InvalidNumber : List Value} {ab_InvalidNumber : Bool} {col_InvalidNumber : Option Bool} {dd_InvalidNumber : Option Addr} {m0_InvalidNumber m1_InvalidNumber m2_InvalidNumber m3_InvalidNumber m5_InvalidNumber : Option Value} {od_InvalidNumber an_InvalidNumber cdd_InvalidNumber cld_InvalidNumber : Option Addr} {sl_InvalidNumber ccs_InvalidNumber csl_InvalidNumber : Array (Option Value)} {oc_InvalidNumber ocT_InvalidNumber kV_InvalidNumber dc_InvalidNumber pm_InvalidNumber ct_InvalidNumber ccl_InvalidNumber cl_InvalidNumber : Value} {T_InvalidNumber : Addr} {odT_InvalidNumber : Option Addr} {nT_InvalidNumber : Nat} {slT_InvalidNumber : Array (Option Value)} {vs_InvalidNumber : Array Value} {file_InvalidNumber : Str} {tf_InvalidNumber : Tok} {C_InvalidScript : Addr} {nm_InvalidScript q_InvalidScript : Str} {NN_InvalidScript I_InvalidScript cda_InvalidScript cc_InvalidScript : Addr} {bs_InvalidScript : List Value} {sn_InvalidScript : List Str} {sub_InvalidScript : List Value} {ab_InvalidScript : Bool} {col_InvalidScript : Option Bool} {dd_InvalidScript : Option Addr} {m0_InvalidScript m1_InvalidScript m2_InvalidScript m3_InvalidScript m5_InvalidScript : Option Value} {od_InvalidScript an_InvalidScript cdd_InvalidScript cld_InvalidScript : Option Addr} {sl_InvalidScript ccs_InvalidScript csl_InvalidScript : Array (Option Value)} {oc_InvalidScript ocT_InvalidScript kV_InvalidScript dc_InvalidScript pm_InvalidScript ct_InvalidScript ccl_InvalidScript cl_InvalidScript : Value} {T_InvalidScript : Addr} {odT_InvalidScript : Option Addr} {nT_InvalidScript : Nat} {slT_InvalidScript : Array (Option Value)} {vs_InvalidScript : Array Value} {file_InvalidScript : Str} {tf_InvalidScript : Tok}
    (z_ValueError : PySem.W.nsIn K mainGlobals "ValueError" = some none)
    (z_bool : PySem.W.nsIn K mainGlobals "bool" = some none)
    (z_enumerate : PySem.W.nsIn K mainGlobals "enumerate" = some none)
    (z_int : PySem.W.nsIn K mainGlobals "int" = some none)
    (z_isinstance : PySem.W.nsIn K mainGlobals "isinstance" = some none)
    (z_iter : PySem.W.nsIn K mainGlobals "iter" = some none)
    (z_len : PySem.W.nsIn K mainGlobals "len" = some none)
    (z_list : PySem.W.nsIn K mainGlobals "list" = some none)
    (z_property : PySem.W.nsIn K mainGlobals "property" = some none)
    (z_range : PySem.W.nsIn K mainGlobals "range" = some none)
    (z_str : PySem.W.nsIn K mainGlobals "str" = some none)
    (z_sum : PySem.W.nsIn K mainGlobals "sum" = some none)
    (z_super : PySem.W.nsIn K mainGlobals "super" = some none)
    (z_tuple : PySem.W.nsIn K mainGlobals "tuple" = some none)
    (g_SIGNS : PySem.W.nsIn K mainGlobals "SIGNS" = some (some (.str "abcdefghijklmnopqrstuvwxyz" tg_SIGNS)))
    (ac_File : PySem.W.nsIn K mainGlobals "File" = some (some (.ref C_File)))
    (ac_Step : PySem.W.nsIn K mainGlobals "Step" = some (some (.ref C_Step)))
    (ac_Full : PySem.W.nsIn K mainGlobals "Full" = some (some (.ref C_Full)))
    (ac_Keep : PySem.W.nsIn K mainGlobals "Keep" = some (some (.ref C_Keep)))
    (ac_Lean : PySem.W.nsIn K mainGlobals "Lean" = some (some (.ref C_Lean)))
    (ac_Dig : PySem.W.nsIn K mainGlobals "Dig" = some (some (.ref C_Dig)))
    (ac_Script : PySem.W.nsIn K mainGlobals "Script" = some (some (.ref C_Script)))
    (a_is_whole : PySem.W.nsIn K mainGlobals "is_whole" = some (some (.ref f_is_whole)))
    (l_is_whole : K.lookup f_is_whole = some ⟨oc_is_whole, od_is_whole, .func (PySem.W.fnOf "is_whole" "is_whole" (defArgs s_is_whole) (defBody s_is_whole) (defScope s_is_whole) .none kV_is_whole dc_is_whole pm_is_whole an_is_whole cd_is_whole ct_is_whole), sl_is_whole⟩)
    (c_is_whole : PySem.W.codeIn K cd_is_whole "is_whole" = true)
    (k_is_whole : PySem.W.keepIn K (.ref f_is_whole) = true)
    (a_check_least : PySem.W.nsIn K mainGlobals "check_least" = some (some (.ref f_check_least)))
    (l_check_least : K.lookup f_check_least = some ⟨oc_check_least, od_check_least, .func (PySem.W.fnOf "check_least" "check_least" (defArgs s_check_least) (defBody s_check_least) (defScope s_check_least) .none kV_check_least dc_check_least pm_check_least an_check_least cd_check_least ct_check_least), sl_check_least⟩)
    (c_check_least : PySem.W.codeIn K cd_check_least "check_least" = true)
    (k_check_least : PySem.W.keepIn K (.ref f_check_least) = true)
    (a_check_within : PySem.W.nsIn K mainGlobals "check_within" = some (some (.ref f_check_within)))
    (l_check_within : K.lookup f_check_within = some ⟨oc_check_within, od_check_within, .func (PySem.W.fnOf "check_within" "check_within" (defArgs s_check_within) (defBody s_check_within) (defScope s_check_within) .none kV_check_within dc_check_within pm_check_within an_check_within cd_check_within ct_check_within), sl_check_within⟩)
    (c_check_within : PySem.W.codeIn K cd_check_within "check_within" = true)
    (k_check_within : PySem.W.keepIn K (.ref f_check_within) = true)
    (a_are_cells : PySem.W.nsIn K mainGlobals "are_cells" = some (some (.ref f_are_cells)))
    (l_are_cells : K.lookup f_are_cells = some ⟨oc_are_cells, od_are_cells, .func (PySem.W.fnOf "are_cells" "are_cells" (defArgs s_are_cells) (defBody s_are_cells) (defScope s_are_cells) .none kV_are_cells dc_are_cells pm_are_cells an_are_cells cd_are_cells ct_are_cells), sl_are_cells⟩)
    (c_are_cells : PySem.W.codeIn K cd_are_cells "are_cells" = true)
    (k_are_cells : PySem.W.keepIn K (.ref f_are_cells) = true)
    (a_are_steps : PySem.W.nsIn K mainGlobals "are_steps" = some (some (.ref f_are_steps)))
    (l_are_steps : K.lookup f_are_steps = some ⟨oc_are_steps, od_are_steps, .func (PySem.W.fnOf "are_steps" "are_steps" (defArgs s_are_steps) (defBody s_are_steps) (defScope s_are_steps) .none kV_are_steps dc_are_steps pm_are_steps an_are_steps cd_are_steps ct_are_steps), sl_are_steps⟩)
    (c_are_steps : PySem.W.codeIn K cd_are_steps "are_steps" = true)
    (k_are_steps : PySem.W.keepIn K (.ref f_are_steps) = true)
    (a_law_purse : PySem.W.nsIn K mainGlobals "_law_purse" = some (some (.ref f_law_purse)))
    (l_law_purse : K.lookup f_law_purse = some ⟨oc_law_purse, od_law_purse, .func (PySem.W.fnOf "_law_purse" "_law_purse" (defArgs s_law_purse) (defBody s_law_purse) (defScope s_law_purse) .none kV_law_purse dc_law_purse pm_law_purse an_law_purse cd_law_purse ct_law_purse), sl_law_purse⟩)
    (c_law_purse : PySem.W.codeIn K cd_law_purse "_law_purse" = true)
    (k_law_purse : PySem.W.keepIn K (.ref f_law_purse) = true)
    (a_law_draw : PySem.W.nsIn K mainGlobals "_law_draw" = some (some (.ref f_law_draw)))
    (l_law_draw : K.lookup f_law_draw = some ⟨oc_law_draw, od_law_draw, .func (PySem.W.fnOf "_law_draw" "_law_draw" (defArgs s_law_draw) (defBody s_law_draw) (defScope s_law_draw) .none kV_law_draw dc_law_draw pm_law_draw an_law_draw cd_law_draw ct_law_draw), sl_law_draw⟩)
    (c_law_draw : PySem.W.codeIn K cd_law_draw "_law_draw" = true)
    (k_law_draw : PySem.W.keepIn K (.ref f_law_draw) = true)
    (a_law_refused : PySem.W.nsIn K mainGlobals "_law_refused" = some (some (.ref f_law_refused)))
    (l_law_refused : K.lookup f_law_refused = some ⟨oc_law_refused, od_law_refused, .func (PySem.W.fnOf "_law_refused" "_law_refused" (defArgs s_law_refused) (defBody s_law_refused) (defScope s_law_refused) .none kV_law_refused dc_law_refused pm_law_refused an_law_refused cd_law_refused ct_law_refused), sl_law_refused⟩)
    (c_law_refused : PySem.W.codeIn K cd_law_refused "_law_refused" = true)
    (k_law_refused : PySem.W.keepIn K (.ref f_law_refused) = true)
    (a_law_kinds : PySem.W.nsIn K mainGlobals "_law_kinds" = some (some (.ref f_law_kinds)))
    (l_law_kinds : K.lookup f_law_kinds = some ⟨oc_law_kinds, od_law_kinds, .func (PySem.W.fnOf "_law_kinds" "_law_kinds" (defArgs s_law_kinds) (defBody s_law_kinds) (defScope s_law_kinds) .none kV_law_kinds dc_law_kinds pm_law_kinds an_law_kinds cd_law_kinds ct_law_kinds), sl_law_kinds⟩)
    (c_law_kinds : PySem.W.codeIn K cd_law_kinds "_law_kinds" = true)
    (k_law_kinds : PySem.W.keepIn K (.ref f_law_kinds) = true)
    (a_law : PySem.W.nsIn K mainGlobals "law" = some (some (.ref f_law)))
    (l_law : K.lookup f_law = some ⟨oc_law, od_law, .func (PySem.W.fnOf "law" "law" (defArgs s_law) (defBody s_law) (defScope s_law) .none kV_law dc_law pm_law an_law cd_law ct_law), sl_law⟩)
    (c_law : PySem.W.codeIn K cd_law "law" = true)
    (k_law : PySem.W.keepIn K (.ref f_law) = true)
    (a_File_init : PySem.W.findIn K (.ref C_File) "__init__" = some (some (.ref f_File_init)))
    (i_File_init : PySem.W.isFn K (.ref f_File_init) = true)
    (l_File_init : K.lookup f_File_init = some ⟨oc_File_init, od_File_init, .func (PySem.W.fnOf "__init__" "File.__init__" (defArgs s_File_init) (defBody s_File_init) (defScope s_File_init) (.ref T_File_init) kV_File_init dc_File_init pm_File_init an_File_init cd_File_init ct_File_init), sl_File_init⟩)
    (c_File_init : PySem.W.codeIn K cd_File_init "File.__init__" = true)
    (k_File_init : PySem.W.keepIn K (.ref f_File_init) = true)
    (ld_File_init : K.lookup T_File_init = some ⟨ocT_File_init, odT_File_init, .seq #[(.str "" tk0_File_init)] nT_File_init, slT_File_init⟩)
    (pa_File_cells : PySem.W.findIn K (.ref C_File) "cells" = some (some (.ref pr_File_cells)))
    (pb_File_cells : PySem.W.specialIn K (.ref pr_File_cells) "__get__" = some (some (.builtin "property.__get__")))
    (pc_File_cells : PySem.W.takesIn K (.ref pr_File_cells) = some true)
    (pd_File_cells : PySem.W.recIn K pr_File_cells "property" = some (.ref f_File_cells :: rs_File_cells))
    (l_File_cells : K.lookup f_File_cells = some ⟨oc_File_cells, od_File_cells, .func (PySem.W.fnOf "cells" "File.cells" (defArgs s_File_cells) (defBody s_File_cells) (defScope s_File_cells) .none kV_File_cells dc_File_cells pm_File_cells an_File_cells cd_File_cells ct_File_cells), sl_File_cells⟩)
    (c_File_cells : PySem.W.codeIn K cd_File_cells "File.cells" = true)
    (k_File_cells : PySem.W.keepIn K (.ref f_File_cells) = true)
    (a_File_len : PySem.W.findIn K (.ref C_File) "__len__" = some (some (.ref f_File_len)))
    (i_File_len : PySem.W.isFn K (.ref f_File_len) = true)
    (l_File_len : K.lookup f_File_len = some ⟨oc_File_len, od_File_len, .func (PySem.W.fnOf "__len__" "File.__len__" (defArgs s_File_len) (defBody s_File_len) (defScope s_File_len) .none kV_File_len dc_File_len pm_File_len an_File_len cd_File_len ct_File_len), sl_File_len⟩)
    (c_File_len : PySem.W.codeIn K cd_File_len "File.__len__" = true)
    (k_File_len : PySem.W.keepIn K (.ref f_File_len) = true)
    (a_File_iter : PySem.W.findIn K (.ref C_File) "__iter__" = some (some (.ref f_File_iter)))
    (i_File_iter : PySem.W.isFn K (.ref f_File_iter) = true)
    (l_File_iter : K.lookup f_File_iter = some ⟨oc_File_iter, od_File_iter, .func (PySem.W.fnOf "__iter__" "File.__iter__" (defArgs s_File_iter) (defBody s_File_iter) (defScope s_File_iter) .none kV_File_iter dc_File_iter pm_File_iter an_File_iter cd_File_iter ct_File_iter), sl_File_iter⟩)
    (c_File_iter : PySem.W.codeIn K cd_File_iter "File.__iter__" = true)
    (k_File_iter : PySem.W.keepIn K (.ref f_File_iter) = true)
    (a_File_getitem : PySem.W.findIn K (.ref C_File) "__getitem__" = some (some (.ref f_File_getitem)))
    (i_File_getitem : PySem.W.isFn K (.ref f_File_getitem) = true)
    (l_File_getitem : K.lookup f_File_getitem = some ⟨oc_File_getitem, od_File_getitem, .func (PySem.W.fnOf "__getitem__" "File.__getitem__" (defArgs s_File_getitem) (defBody s_File_getitem) (defScope s_File_getitem) .none kV_File_getitem dc_File_getitem pm_File_getitem an_File_getitem cd_File_getitem ct_File_getitem), sl_File_getitem⟩)
    (c_File_getitem : PySem.W.codeIn K cd_File_getitem "File.__getitem__" = true)
    (k_File_getitem : PySem.W.keepIn K (.ref f_File_getitem) = true)
    (a_File_eq : PySem.W.findIn K (.ref C_File) "__eq__" = some (some (.ref f_File_eq)))
    (i_File_eq : PySem.W.isFn K (.ref f_File_eq) = true)
    (l_File_eq : K.lookup f_File_eq = some ⟨oc_File_eq, od_File_eq, .func (PySem.W.fnOf "__eq__" "File.__eq__" (defArgs s_File_eq) (defBody s_File_eq) (defScope s_File_eq) .none kV_File_eq dc_File_eq pm_File_eq an_File_eq cd_File_eq ct_File_eq), sl_File_eq⟩)
    (c_File_eq : PySem.W.codeIn K cd_File_eq "File.__eq__" = true)
    (k_File_eq : PySem.W.keepIn K (.ref f_File_eq) = true)
    (a_Full_eq : PySem.W.findIn K (.ref C_Full) "__eq__" = some (some (.ref f_Full_eq)))
    (i_Full_eq : PySem.W.isFn K (.ref f_Full_eq) = true)
    (l_Full_eq : K.lookup f_Full_eq = some ⟨oc_Full_eq, od_Full_eq, .func (PySem.W.fnOf "__eq__" "Full.__eq__" (defArgs s_Full_eq) (defBody s_Full_eq) (defScope s_Full_eq) .none kV_Full_eq dc_Full_eq pm_Full_eq an_Full_eq cd_Full_eq ct_Full_eq), sl_Full_eq⟩)
    (c_Full_eq : PySem.W.codeIn K cd_Full_eq "Full.__eq__" = true)
    (k_Full_eq : PySem.W.keepIn K (.ref f_Full_eq) = true)
    (a_Keep_init : PySem.W.findIn K (.ref C_Keep) "__init__" = some (some (.ref f_Keep_init)))
    (i_Keep_init : PySem.W.isFn K (.ref f_Keep_init) = true)
    (l_Keep_init : K.lookup f_Keep_init = some ⟨oc_Keep_init, od_Keep_init, .func (PySem.W.fnOf "__init__" "Keep.__init__" (defArgs s_Keep_init) (defBody s_Keep_init) (defScope s_Keep_init) .none kV_Keep_init dc_Keep_init pm_Keep_init an_Keep_init cd_Keep_init ct_Keep_init), sl_Keep_init⟩)
    (c_Keep_init : PySem.W.codeIn K cd_Keep_init "Keep.__init__" = true)
    (k_Keep_init : PySem.W.keepIn K (.ref f_Keep_init) = true)
    (pa_Keep_size : PySem.W.findIn K (.ref C_Keep) "size" = some (some (.ref pr_Keep_size)))
    (pb_Keep_size : PySem.W.specialIn K (.ref pr_Keep_size) "__get__" = some (some (.builtin "property.__get__")))
    (pc_Keep_size : PySem.W.takesIn K (.ref pr_Keep_size) = some true)
    (pd_Keep_size : PySem.W.recIn K pr_Keep_size "property" = some (.ref f_Keep_size :: rs_Keep_size))
    (l_Keep_size : K.lookup f_Keep_size = some ⟨oc_Keep_size, od_Keep_size, .func (PySem.W.fnOf "size" "Keep.size" (defArgs s_Keep_size) (defBody s_Keep_size) (defScope s_Keep_size) .none kV_Keep_size dc_Keep_size pm_Keep_size an_Keep_size cd_Keep_size ct_Keep_size), sl_Keep_size⟩)
    (c_Keep_size : PySem.W.codeIn K cd_Keep_size "Keep.size" = true)
    (k_Keep_size : PySem.W.keepIn K (.ref f_Keep_size) = true)
    (a_Keep_eq : PySem.W.findIn K (.ref C_Keep) "__eq__" = some (some (.ref f_Keep_eq)))
    (i_Keep_eq : PySem.W.isFn K (.ref f_Keep_eq) = true)
    (l_Keep_eq : K.lookup f_Keep_eq = some ⟨oc_Keep_eq, od_Keep_eq, .func (PySem.W.fnOf "__eq__" "Keep.__eq__" (defArgs s_Keep_eq) (defBody s_Keep_eq) (defScope s_Keep_eq) .none kV_Keep_eq dc_Keep_eq pm_Keep_eq an_Keep_eq cd_Keep_eq ct_Keep_eq), sl_Keep_eq⟩)
    (c_Keep_eq : PySem.W.codeIn K cd_Keep_eq "Keep.__eq__" = true)
    (k_Keep_eq : PySem.W.keepIn K (.ref f_Keep_eq) = true)
    (a_Lean_init : PySem.W.findIn K (.ref C_Lean) "__init__" = some (some (.ref f_Lean_init)))
    (i_Lean_init : PySem.W.isFn K (.ref f_Lean_init) = true)
    (l_Lean_init : K.lookup f_Lean_init = some ⟨oc_Lean_init, od_Lean_init, .func (PySem.W.fnOf "__init__" "Lean.__init__" (defArgs s_Lean_init) (defBody s_Lean_init) (defScope s_Lean_init) .none kV_Lean_init dc_Lean_init pm_Lean_init an_Lean_init cd_Lean_init ct_Lean_init), sl_Lean_init⟩)
    (c_Lean_init : PySem.W.codeIn K cd_Lean_init "Lean.__init__" = true)
    (k_Lean_init : PySem.W.keepIn K (.ref f_Lean_init) = true)
    (pa_Lean_size : PySem.W.findIn K (.ref C_Lean) "size" = some (some (.ref pr_Lean_size)))
    (pb_Lean_size : PySem.W.specialIn K (.ref pr_Lean_size) "__get__" = some (some (.builtin "property.__get__")))
    (pc_Lean_size : PySem.W.takesIn K (.ref pr_Lean_size) = some true)
    (pd_Lean_size : PySem.W.recIn K pr_Lean_size "property" = some (.ref f_Lean_size :: rs_Lean_size))
    (l_Lean_size : K.lookup f_Lean_size = some ⟨oc_Lean_size, od_Lean_size, .func (PySem.W.fnOf "size" "Lean.size" (defArgs s_Lean_size) (defBody s_Lean_size) (defScope s_Lean_size) .none kV_Lean_size dc_Lean_size pm_Lean_size an_Lean_size cd_Lean_size ct_Lean_size), sl_Lean_size⟩)
    (c_Lean_size : PySem.W.codeIn K cd_Lean_size "Lean.size" = true)
    (k_Lean_size : PySem.W.keepIn K (.ref f_Lean_size) = true)
    (a_Lean_eq : PySem.W.findIn K (.ref C_Lean) "__eq__" = some (some (.ref f_Lean_eq)))
    (i_Lean_eq : PySem.W.isFn K (.ref f_Lean_eq) = true)
    (l_Lean_eq : K.lookup f_Lean_eq = some ⟨oc_Lean_eq, od_Lean_eq, .func (PySem.W.fnOf "__eq__" "Lean.__eq__" (defArgs s_Lean_eq) (defBody s_Lean_eq) (defScope s_Lean_eq) .none kV_Lean_eq dc_Lean_eq pm_Lean_eq an_Lean_eq cd_Lean_eq ct_Lean_eq), sl_Lean_eq⟩)
    (c_Lean_eq : PySem.W.codeIn K cd_Lean_eq "Lean.__eq__" = true)
    (k_Lean_eq : PySem.W.keepIn K (.ref f_Lean_eq) = true)
    (a_Dig_init : PySem.W.findIn K (.ref C_Dig) "__init__" = some (some (.ref f_Dig_init)))
    (i_Dig_init : PySem.W.isFn K (.ref f_Dig_init) = true)
    (l_Dig_init : K.lookup f_Dig_init = some ⟨oc_Dig_init, od_Dig_init, .func (PySem.W.fnOf "__init__" "Dig.__init__" (defArgs s_Dig_init) (defBody s_Dig_init) (defScope s_Dig_init) .none kV_Dig_init dc_Dig_init pm_Dig_init an_Dig_init cd_Dig_init ct_Dig_init), sl_Dig_init⟩)
    (c_Dig_init : PySem.W.codeIn K cd_Dig_init "Dig.__init__" = true)
    (k_Dig_init : PySem.W.keepIn K (.ref f_Dig_init) = true)
    (pa_Dig_size : PySem.W.findIn K (.ref C_Dig) "size" = some (some (.ref pr_Dig_size)))
    (pb_Dig_size : PySem.W.specialIn K (.ref pr_Dig_size) "__get__" = some (some (.builtin "property.__get__")))
    (pc_Dig_size : PySem.W.takesIn K (.ref pr_Dig_size) = some true)
    (pd_Dig_size : PySem.W.recIn K pr_Dig_size "property" = some (.ref f_Dig_size :: rs_Dig_size))
    (l_Dig_size : K.lookup f_Dig_size = some ⟨oc_Dig_size, od_Dig_size, .func (PySem.W.fnOf "size" "Dig.size" (defArgs s_Dig_size) (defBody s_Dig_size) (defScope s_Dig_size) .none kV_Dig_size dc_Dig_size pm_Dig_size an_Dig_size cd_Dig_size ct_Dig_size), sl_Dig_size⟩)
    (c_Dig_size : PySem.W.codeIn K cd_Dig_size "Dig.size" = true)
    (k_Dig_size : PySem.W.keepIn K (.ref f_Dig_size) = true)
    (a_Dig_eq : PySem.W.findIn K (.ref C_Dig) "__eq__" = some (some (.ref f_Dig_eq)))
    (i_Dig_eq : PySem.W.isFn K (.ref f_Dig_eq) = true)
    (l_Dig_eq : K.lookup f_Dig_eq = some ⟨oc_Dig_eq, od_Dig_eq, .func (PySem.W.fnOf "__eq__" "Dig.__eq__" (defArgs s_Dig_eq) (defBody s_Dig_eq) (defScope s_Dig_eq) .none kV_Dig_eq dc_Dig_eq pm_Dig_eq an_Dig_eq cd_Dig_eq ct_Dig_eq), sl_Dig_eq⟩)
    (c_Dig_eq : PySem.W.codeIn K cd_Dig_eq "Dig.__eq__" = true)
    (k_Dig_eq : PySem.W.keepIn K (.ref f_Dig_eq) = true)
    (a_Script_init : PySem.W.findIn K (.ref C_Script) "__init__" = some (some (.ref f_Script_init)))
    (i_Script_init : PySem.W.isFn K (.ref f_Script_init) = true)
    (l_Script_init : K.lookup f_Script_init = some ⟨oc_Script_init, od_Script_init, .func (PySem.W.fnOf "__init__" "Script.__init__" (defArgs s_Script_init) (defBody s_Script_init) (defScope s_Script_init) (.ref T_Script_init) kV_Script_init dc_Script_init pm_Script_init an_Script_init cd_Script_init ct_Script_init), sl_Script_init⟩)
    (c_Script_init : PySem.W.codeIn K cd_Script_init "Script.__init__" = true)
    (k_Script_init : PySem.W.keepIn K (.ref f_Script_init) = true)
    (ld_Script_init : K.lookup T_Script_init = some ⟨ocT_Script_init, odT_Script_init, .seq #[.none] nT_Script_init, slT_Script_init⟩)
    (a_Script_len : PySem.W.findIn K (.ref C_Script) "__len__" = some (some (.ref f_Script_len)))
    (i_Script_len : PySem.W.isFn K (.ref f_Script_len) = true)
    (l_Script_len : K.lookup f_Script_len = some ⟨oc_Script_len, od_Script_len, .func (PySem.W.fnOf "__len__" "Script.__len__" (defArgs s_Script_len) (defBody s_Script_len) (defScope s_Script_len) .none kV_Script_len dc_Script_len pm_Script_len an_Script_len cd_Script_len ct_Script_len), sl_Script_len⟩)
    (c_Script_len : PySem.W.codeIn K cd_Script_len "Script.__len__" = true)
    (k_Script_len : PySem.W.keepIn K (.ref f_Script_len) = true)
    (a_Script_iter : PySem.W.findIn K (.ref C_Script) "__iter__" = some (some (.ref f_Script_iter)))
    (i_Script_iter : PySem.W.isFn K (.ref f_Script_iter) = true)
    (l_Script_iter : K.lookup f_Script_iter = some ⟨oc_Script_iter, od_Script_iter, .func (PySem.W.fnOf "__iter__" "Script.__iter__" (defArgs s_Script_iter) (defBody s_Script_iter) (defScope s_Script_iter) .none kV_Script_iter dc_Script_iter pm_Script_iter an_Script_iter cd_Script_iter ct_Script_iter), sl_Script_iter⟩)
    (c_Script_iter : PySem.W.codeIn K cd_Script_iter "Script.__iter__" = true)
    (k_Script_iter : PySem.W.keepIn K (.ref f_Script_iter) = true)
    (a_Script_getitem : PySem.W.findIn K (.ref C_Script) "__getitem__" = some (some (.ref f_Script_getitem)))
    (i_Script_getitem : PySem.W.isFn K (.ref f_Script_getitem) = true)
    (l_Script_getitem : K.lookup f_Script_getitem = some ⟨oc_Script_getitem, od_Script_getitem, .func (PySem.W.fnOf "__getitem__" "Script.__getitem__" (defArgs s_Script_getitem) (defBody s_Script_getitem) (defScope s_Script_getitem) .none kV_Script_getitem dc_Script_getitem pm_Script_getitem an_Script_getitem cd_Script_getitem ct_Script_getitem), sl_Script_getitem⟩)
    (c_Script_getitem : PySem.W.codeIn K cd_Script_getitem "Script.__getitem__" = true)
    (k_Script_getitem : PySem.W.keepIn K (.ref f_Script_getitem) = true)
    (a_Script_eq : PySem.W.findIn K (.ref C_Script) "__eq__" = some (some (.ref f_Script_eq)))
    (i_Script_eq : PySem.W.isFn K (.ref f_Script_eq) = true)
    (l_Script_eq : K.lookup f_Script_eq = some ⟨oc_Script_eq, od_Script_eq, .func (PySem.W.fnOf "__eq__" "Script.__eq__" (defArgs s_Script_eq) (defBody s_Script_eq) (defScope s_Script_eq) .none kV_Script_eq dc_Script_eq pm_Script_eq an_Script_eq cd_Script_eq ct_Script_eq), sl_Script_eq⟩)
    (c_Script_eq : PySem.W.codeIn K cd_Script_eq "Script.__eq__" = true)
    (k_Script_eq : PySem.W.keepIn K (.ref f_Script_eq) = true)
    (a_Script_add : PySem.W.findIn K (.ref C_Script) "__add__" = some (some (.ref f_Script_add)))
    (i_Script_add : PySem.W.isFn K (.ref f_Script_add) = true)
    (l_Script_add : K.lookup f_Script_add = some ⟨oc_Script_add, od_Script_add, .func (PySem.W.fnOf "__add__" "Script.__add__" (defArgs s_Script_add) (defBody s_Script_add) (defScope s_Script_add) .none kV_Script_add dc_Script_add pm_Script_add an_Script_add cd_Script_add ct_Script_add), sl_Script_add⟩)
    (c_Script_add : PySem.W.codeIn K cd_Script_add "Script.__add__" = true)
    (k_Script_add : PySem.W.keepIn K (.ref f_Script_add) = true)
    (a_Script_mul : PySem.W.findIn K (.ref C_Script) "__mul__" = some (some (.ref f_Script_mul)))
    (i_Script_mul : PySem.W.isFn K (.ref f_Script_mul) = true)
    (l_Script_mul : K.lookup f_Script_mul = some ⟨oc_Script_mul, od_Script_mul, .func (PySem.W.fnOf "__mul__" "Script.__mul__" (defArgs s_Script_mul) (defBody s_Script_mul) (defScope s_Script_mul) .none kV_Script_mul dc_Script_mul pm_Script_mul an_Script_mul cd_Script_mul ct_Script_mul), sl_Script_mul⟩)
    (c_Script_mul : PySem.W.codeIn K cd_Script_mul "Script.__mul__" = true)
    (k_Script_mul : PySem.W.keepIn K (.ref f_Script_mul) = true)
    (a_Script_without : PySem.W.findIn K (.ref C_Script) "without" = some (some (.ref f_Script_without)))
    (i_Script_without : PySem.W.isFn K (.ref f_Script_without) = true)
    (l_Script_without : K.lookup f_Script_without = some ⟨oc_Script_without, od_Script_without, .func (PySem.W.fnOf "without" "Script.without" (defArgs s_Script_without) (defBody s_Script_without) (defScope s_Script_without) .none kV_Script_without dc_Script_without pm_Script_without an_Script_without cd_Script_without ct_Script_without), sl_Script_without⟩)
    (c_Script_without : PySem.W.codeIn K cd_Script_without "Script.without" = true)
    (k_Script_without : PySem.W.keepIn K (.ref f_Script_without) = true)
    (ohn : PySem.W.specialIn K (.builtin "object.__class__") "__get__" = some (some (.builtin "getset_descriptor.__get__")))
    (otk : PySem.W.takesIn K (.builtin "object.__class__") = some true)
    (pg_File : PySem.W.plainGet K C_File Str.empty = true)
    (hd_File : PySem.W.hasDictIn K C_File = true)
    (po_File : PySem.W.plainOver K C_File = true)
    (sa_File : PySem.W.findIn K (.ref C_File) "__setattr__" = some (some (.builtin "object.__setattr__")))
    (ha_File : PySem.W.findIn K (.ref C_File) "__class__" = some (some (.builtin "object.__class__")))
    (mr_File : PySem.W.mroIn K C_File (.type "object") = some true)
    (ms_File : PySem.W.mroIn K C_File (.ref C_File) = some true)
    (mk_File : PySem.W.makesIn K C_File = true)
    (kc_File : PySem.W.keepIn K (.ref C_File) = true)
    (na_File_row : PySem.W.findIn K (.ref C_File) "row" = some none)
    (pg_Step : PySem.W.plainGet K C_Step Str.empty = true)
    (hd_Step : PySem.W.hasDictIn K C_Step = true)
    (po_Step : PySem.W.plainOver K C_Step = true)
    (sa_Step : PySem.W.findIn K (.ref C_Step) "__setattr__" = some (some (.builtin "object.__setattr__")))
    (ha_Step : PySem.W.findIn K (.ref C_Step) "__class__" = some (some (.builtin "object.__class__")))
    (mr_Step : PySem.W.mroIn K C_Step (.type "object") = some true)
    (ms_Step : PySem.W.mroIn K C_Step (.ref C_Step) = some true)
    (mk_Step : PySem.W.makesIn K C_Step = true)
    (kc_Step : PySem.W.keepIn K (.ref C_Step) = true)
    (ii_Step : PySem.W.findIn K (.ref C_Step) "__init__" = some (some (.builtin "object.__init__")))
    (pg_Full : PySem.W.plainGet K C_Full Str.empty = true)
    (hd_Full : PySem.W.hasDictIn K C_Full = true)
    (po_Full : PySem.W.plainOver K C_Full = true)
    (sa_Full : PySem.W.findIn K (.ref C_Full) "__setattr__" = some (some (.builtin "object.__setattr__")))
    (ha_Full : PySem.W.findIn K (.ref C_Full) "__class__" = some (some (.builtin "object.__class__")))
    (mr_Full : PySem.W.mroIn K C_Full (.type "object") = some true)
    (ms_Full : PySem.W.mroIn K C_Full (.ref C_Full) = some true)
    (mk_Full : PySem.W.makesIn K C_Full = true)
    (kc_Full : PySem.W.keepIn K (.ref C_Full) = true)
    (ii_Full : PySem.W.findIn K (.ref C_Full) "__init__" = some (some (.builtin "object.__init__")))
    (pg_Keep : PySem.W.plainGet K C_Keep Str.empty = true)
    (hd_Keep : PySem.W.hasDictIn K C_Keep = true)
    (po_Keep : PySem.W.plainOver K C_Keep = true)
    (sa_Keep : PySem.W.findIn K (.ref C_Keep) "__setattr__" = some (some (.builtin "object.__setattr__")))
    (ha_Keep : PySem.W.findIn K (.ref C_Keep) "__class__" = some (some (.builtin "object.__class__")))
    (mr_Keep : PySem.W.mroIn K C_Keep (.type "object") = some true)
    (ms_Keep : PySem.W.mroIn K C_Keep (.ref C_Keep) = some true)
    (mk_Keep : PySem.W.makesIn K C_Keep = true)
    (kc_Keep : PySem.W.keepIn K (.ref C_Keep) = true)
    (na_Keep_wide : PySem.W.findIn K (.ref C_Keep) "wide" = some none)
    (pg_Lean : PySem.W.plainGet K C_Lean Str.empty = true)
    (hd_Lean : PySem.W.hasDictIn K C_Lean = true)
    (po_Lean : PySem.W.plainOver K C_Lean = true)
    (sa_Lean : PySem.W.findIn K (.ref C_Lean) "__setattr__" = some (some (.builtin "object.__setattr__")))
    (ha_Lean : PySem.W.findIn K (.ref C_Lean) "__class__" = some (some (.builtin "object.__class__")))
    (mr_Lean : PySem.W.mroIn K C_Lean (.type "object") = some true)
    (ms_Lean : PySem.W.mroIn K C_Lean (.ref C_Lean) = some true)
    (mk_Lean : PySem.W.makesIn K C_Lean = true)
    (kc_Lean : PySem.W.keepIn K (.ref C_Lean) = true)
    (na_Lean_wide : PySem.W.findIn K (.ref C_Lean) "wide" = some none)
    (pg_Dig : PySem.W.plainGet K C_Dig Str.empty = true)
    (hd_Dig : PySem.W.hasDictIn K C_Dig = true)
    (po_Dig : PySem.W.plainOver K C_Dig = true)
    (sa_Dig : PySem.W.findIn K (.ref C_Dig) "__setattr__" = some (some (.builtin "object.__setattr__")))
    (ha_Dig : PySem.W.findIn K (.ref C_Dig) "__class__" = some (some (.builtin "object.__class__")))
    (mr_Dig : PySem.W.mroIn K C_Dig (.type "object") = some true)
    (ms_Dig : PySem.W.mroIn K C_Dig (.ref C_Dig) = some true)
    (mk_Dig : PySem.W.makesIn K C_Dig = true)
    (kc_Dig : PySem.W.keepIn K (.ref C_Dig) = true)
    (na_Dig_wide : PySem.W.findIn K (.ref C_Dig) "wide" = some none)
    (pg_Script : PySem.W.plainGet K C_Script Str.empty = true)
    (hd_Script : PySem.W.hasDictIn K C_Script = true)
    (po_Script : PySem.W.plainOver K C_Script = true)
    (sa_Script : PySem.W.findIn K (.ref C_Script) "__setattr__" = some (some (.builtin "object.__setattr__")))
    (ha_Script : PySem.W.findIn K (.ref C_Script) "__class__" = some (some (.builtin "object.__class__")))
    (mr_Script : PySem.W.mroIn K C_Script (.type "object") = some true)
    (ms_Script : PySem.W.mroIn K C_Script (.ref C_Script) = some true)
    (mk_Script : PySem.W.makesIn K C_Script = true)
    (kc_Script : PySem.W.keepIn K (.ref C_Script) = true)
    (na_Script_rows : PySem.W.findIn K (.ref C_Script) "rows" = some none)
    (ic_Dig : PySem.W.isClsIn K C_Dig = true)
    (tc_Dig : PySem.W.typeIn K (.ref C_Dig) = some (.type "type"))
    (ic_File : PySem.W.isClsIn K C_File = true)
    (tc_File : PySem.W.typeIn K (.ref C_File) = some (.type "type"))
    (ic_Full : PySem.W.isClsIn K C_Full = true)
    (tc_Full : PySem.W.typeIn K (.ref C_Full) = some (.type "type"))
    (ic_Keep : PySem.W.isClsIn K C_Keep = true)
    (tc_Keep : PySem.W.typeIn K (.ref C_Keep) = some (.type "type"))
    (ic_Lean : PySem.W.isClsIn K C_Lean = true)
    (tc_Lean : PySem.W.typeIn K (.ref C_Lean) = some (.type "type"))
    (ic_Script : PySem.W.isClsIn K C_Script = true)
    (tc_Script : PySem.W.typeIn K (.ref C_Script) = some (.type "type"))
    (ic_Step : PySem.W.isClsIn K C_Step = true)
    (tc_Step : PySem.W.typeIn K (.ref C_Step) = some (.type "type"))
    (s_File_Dig : PySem.W.subIn K (.ref C_File) (.ref C_Dig) = some false)
    (s_File_Full : PySem.W.subIn K (.ref C_File) (.ref C_Full) = some false)
    (s_File_Keep : PySem.W.subIn K (.ref C_File) (.ref C_Keep) = some false)
    (s_File_Lean : PySem.W.subIn K (.ref C_File) (.ref C_Lean) = some false)
    (s_File_Script : PySem.W.subIn K (.ref C_File) (.ref C_Script) = some false)
    (s_File_Step : PySem.W.subIn K (.ref C_File) (.ref C_Step) = some false)
    (s_File_bool : PySem.W.subIn K (.ref C_File) (.type "bool") = some false)
    (s_File_int : PySem.W.subIn K (.ref C_File) (.type "int") = some false)
    (s_File_list : PySem.W.subIn K (.ref C_File) (.type "list") = some false)
    (s_File_str : PySem.W.subIn K (.ref C_File) (.type "str") = some false)
    (nf_Full_File : PySem.W.notFirst K C_Full (.ref C_File) = true)
    (nf_Keep_File : PySem.W.notFirst K C_Keep (.ref C_File) = true)
    (nf_Lean_File : PySem.W.notFirst K C_Lean (.ref C_File) = true)
    (nf_Dig_File : PySem.W.notFirst K C_Dig (.ref C_File) = true)
    (nf_Script_File : PySem.W.notFirst K C_Script (.ref C_File) = true)
    (s_Step_Dig : PySem.W.subIn K (.ref C_Step) (.ref C_Dig) = some false)
    (s_Step_File : PySem.W.subIn K (.ref C_Step) (.ref C_File) = some false)
    (s_Step_Full : PySem.W.subIn K (.ref C_Step) (.ref C_Full) = some false)
    (s_Step_Keep : PySem.W.subIn K (.ref C_Step) (.ref C_Keep) = some false)
    (s_Step_Lean : PySem.W.subIn K (.ref C_Step) (.ref C_Lean) = some false)
    (s_Step_Script : PySem.W.subIn K (.ref C_Step) (.ref C_Script) = some false)
    (s_Step_bool : PySem.W.subIn K (.ref C_Step) (.type "bool") = some false)
    (s_Step_int : PySem.W.subIn K (.ref C_Step) (.type "int") = some false)
    (s_Step_list : PySem.W.subIn K (.ref C_Step) (.type "list") = some false)
    (s_Step_str : PySem.W.subIn K (.ref C_Step) (.type "str") = some false)
    (nf_File_Step : PySem.W.notFirst K C_File (.ref C_Step) = true)
    (nf_Full_Step : PySem.W.notFirst K C_Full (.ref C_Step) = true)
    (nf_Keep_Step : PySem.W.notFirst K C_Keep (.ref C_Step) = true)
    (nf_Lean_Step : PySem.W.notFirst K C_Lean (.ref C_Step) = true)
    (nf_Dig_Step : PySem.W.notFirst K C_Dig (.ref C_Step) = true)
    (nf_Script_Step : PySem.W.notFirst K C_Script (.ref C_Step) = true)
    (s_Full_Dig : PySem.W.subIn K (.ref C_Full) (.ref C_Dig) = some false)
    (s_Full_File : PySem.W.subIn K (.ref C_Full) (.ref C_File) = some false)
    (s_Full_Keep : PySem.W.subIn K (.ref C_Full) (.ref C_Keep) = some false)
    (s_Full_Lean : PySem.W.subIn K (.ref C_Full) (.ref C_Lean) = some false)
    (s_Full_Script : PySem.W.subIn K (.ref C_Full) (.ref C_Script) = some false)
    (s_Full_Step : PySem.W.subIn K (.ref C_Full) (.ref C_Step) = some true)
    (s_Full_bool : PySem.W.subIn K (.ref C_Full) (.type "bool") = some false)
    (s_Full_int : PySem.W.subIn K (.ref C_Full) (.type "int") = some false)
    (s_Full_list : PySem.W.subIn K (.ref C_Full) (.type "list") = some false)
    (s_Full_str : PySem.W.subIn K (.ref C_Full) (.type "str") = some false)
    (nf_File_Full : PySem.W.notFirst K C_File (.ref C_Full) = true)
    (nf_Keep_Full : PySem.W.notFirst K C_Keep (.ref C_Full) = true)
    (nf_Lean_Full : PySem.W.notFirst K C_Lean (.ref C_Full) = true)
    (nf_Dig_Full : PySem.W.notFirst K C_Dig (.ref C_Full) = true)
    (nf_Script_Full : PySem.W.notFirst K C_Script (.ref C_Full) = true)
    (s_Keep_Dig : PySem.W.subIn K (.ref C_Keep) (.ref C_Dig) = some false)
    (s_Keep_File : PySem.W.subIn K (.ref C_Keep) (.ref C_File) = some false)
    (s_Keep_Full : PySem.W.subIn K (.ref C_Keep) (.ref C_Full) = some false)
    (s_Keep_Lean : PySem.W.subIn K (.ref C_Keep) (.ref C_Lean) = some false)
    (s_Keep_Script : PySem.W.subIn K (.ref C_Keep) (.ref C_Script) = some false)
    (s_Keep_Step : PySem.W.subIn K (.ref C_Keep) (.ref C_Step) = some true)
    (s_Keep_bool : PySem.W.subIn K (.ref C_Keep) (.type "bool") = some false)
    (s_Keep_int : PySem.W.subIn K (.ref C_Keep) (.type "int") = some false)
    (s_Keep_list : PySem.W.subIn K (.ref C_Keep) (.type "list") = some false)
    (s_Keep_str : PySem.W.subIn K (.ref C_Keep) (.type "str") = some false)
    (nf_File_Keep : PySem.W.notFirst K C_File (.ref C_Keep) = true)
    (nf_Full_Keep : PySem.W.notFirst K C_Full (.ref C_Keep) = true)
    (nf_Lean_Keep : PySem.W.notFirst K C_Lean (.ref C_Keep) = true)
    (nf_Dig_Keep : PySem.W.notFirst K C_Dig (.ref C_Keep) = true)
    (nf_Script_Keep : PySem.W.notFirst K C_Script (.ref C_Keep) = true)
    (s_Lean_Dig : PySem.W.subIn K (.ref C_Lean) (.ref C_Dig) = some false)
    (s_Lean_File : PySem.W.subIn K (.ref C_Lean) (.ref C_File) = some false)
    (s_Lean_Full : PySem.W.subIn K (.ref C_Lean) (.ref C_Full) = some false)
    (s_Lean_Keep : PySem.W.subIn K (.ref C_Lean) (.ref C_Keep) = some false)
    (s_Lean_Script : PySem.W.subIn K (.ref C_Lean) (.ref C_Script) = some false)
    (s_Lean_Step : PySem.W.subIn K (.ref C_Lean) (.ref C_Step) = some true)
    (s_Lean_bool : PySem.W.subIn K (.ref C_Lean) (.type "bool") = some false)
    (s_Lean_int : PySem.W.subIn K (.ref C_Lean) (.type "int") = some false)
    (s_Lean_list : PySem.W.subIn K (.ref C_Lean) (.type "list") = some false)
    (s_Lean_str : PySem.W.subIn K (.ref C_Lean) (.type "str") = some false)
    (nf_File_Lean : PySem.W.notFirst K C_File (.ref C_Lean) = true)
    (nf_Full_Lean : PySem.W.notFirst K C_Full (.ref C_Lean) = true)
    (nf_Keep_Lean : PySem.W.notFirst K C_Keep (.ref C_Lean) = true)
    (nf_Dig_Lean : PySem.W.notFirst K C_Dig (.ref C_Lean) = true)
    (nf_Script_Lean : PySem.W.notFirst K C_Script (.ref C_Lean) = true)
    (s_Dig_File : PySem.W.subIn K (.ref C_Dig) (.ref C_File) = some false)
    (s_Dig_Full : PySem.W.subIn K (.ref C_Dig) (.ref C_Full) = some false)
    (s_Dig_Keep : PySem.W.subIn K (.ref C_Dig) (.ref C_Keep) = some false)
    (s_Dig_Lean : PySem.W.subIn K (.ref C_Dig) (.ref C_Lean) = some false)
    (s_Dig_Script : PySem.W.subIn K (.ref C_Dig) (.ref C_Script) = some false)
    (s_Dig_Step : PySem.W.subIn K (.ref C_Dig) (.ref C_Step) = some true)
    (s_Dig_bool : PySem.W.subIn K (.ref C_Dig) (.type "bool") = some false)
    (s_Dig_int : PySem.W.subIn K (.ref C_Dig) (.type "int") = some false)
    (s_Dig_list : PySem.W.subIn K (.ref C_Dig) (.type "list") = some false)
    (s_Dig_str : PySem.W.subIn K (.ref C_Dig) (.type "str") = some false)
    (nf_File_Dig : PySem.W.notFirst K C_File (.ref C_Dig) = true)
    (nf_Full_Dig : PySem.W.notFirst K C_Full (.ref C_Dig) = true)
    (nf_Keep_Dig : PySem.W.notFirst K C_Keep (.ref C_Dig) = true)
    (nf_Lean_Dig : PySem.W.notFirst K C_Lean (.ref C_Dig) = true)
    (nf_Script_Dig : PySem.W.notFirst K C_Script (.ref C_Dig) = true)
    (s_Script_Dig : PySem.W.subIn K (.ref C_Script) (.ref C_Dig) = some false)
    (s_Script_File : PySem.W.subIn K (.ref C_Script) (.ref C_File) = some false)
    (s_Script_Full : PySem.W.subIn K (.ref C_Script) (.ref C_Full) = some false)
    (s_Script_Keep : PySem.W.subIn K (.ref C_Script) (.ref C_Keep) = some false)
    (s_Script_Lean : PySem.W.subIn K (.ref C_Script) (.ref C_Lean) = some false)
    (s_Script_Step : PySem.W.subIn K (.ref C_Script) (.ref C_Step) = some false)
    (s_Script_bool : PySem.W.subIn K (.ref C_Script) (.type "bool") = some false)
    (s_Script_int : PySem.W.subIn K (.ref C_Script) (.type "int") = some false)
    (s_Script_list : PySem.W.subIn K (.ref C_Script) (.type "list") = some false)
    (s_Script_str : PySem.W.subIn K (.ref C_Script) (.type "str") = some false)
    (nf_File_Script : PySem.W.notFirst K C_File (.ref C_Script) = true)
    (nf_Full_Script : PySem.W.notFirst K C_Full (.ref C_Script) = true)
    (nf_Keep_Script : PySem.W.notFirst K C_Keep (.ref C_Script) = true)
    (nf_Lean_Script : PySem.W.notFirst K C_Lean (.ref C_Script) = true)
    (nf_Dig_Script : PySem.W.notFirst K C_Dig (.ref C_Script) = true)
    (zop : PySem.W.nsIn K cStatics "thirdparty.any" = some none)
    (ac_InvalidFile : PySem.W.nsIn K mainGlobals "InvalidFile" = some (some (.ref C_InvalidFile)))
    (ac_HoleError : PySem.W.nsIn K mainGlobals "HoleError" = some (some (.ref C_HoleError)))
    (xL_InvalidFile : K.lookup C_InvalidFile = some (excClassObj nm_InvalidFile q_InvalidFile C_InvalidFile NN_InvalidFile bs_InvalidFile [.ref C_HoleError, .type "ValueError", .type "Exception", .type "BaseException", .type "object"] true sn_InvalidFile sub_InvalidFile ab_InvalidFile col_InvalidFile dd_InvalidFile m0_InvalidFile m1_InvalidFile m2_InvalidFile m3_InvalidFile m5_InvalidFile "ValueError.__new__"))
    (sa_InvalidFile : PySem.W.findIn K (.ref C_InvalidFile) "__setattr__" = some (some (.builtin "object.__setattr__")))
    (ga_InvalidFile : PySem.W.findIn K (.ref C_InvalidFile) "__getattribute__" = some (some (.builtin "BaseException.__getattribute__")))
    (gg_InvalidFile : PySem.W.findIn K (.ref C_InvalidFile) "__getattr__" = some none)
    (nb_InvalidFile : PySem.W.findIn K (.ref C_InvalidFile) "value" = some none)
    (i_InvalidFile : PySem.W.findIn K (.ref C_InvalidFile) "__init__" = some (some (.ref I_InvalidFile)))
    (t_InvalidFile : PySem.W.typeIn K (.ref I_InvalidFile) = some (.type "function"))
    (l_InvalidFile : K.lookup I_InvalidFile = some ⟨oc_InvalidFile, od_InvalidFile, .func (ksFn "__init__" "InvalidFile.__init__" (defArgs si_InvalidFile) (defBody si_InvalidFile) (defScope si_InvalidFile) (.ref T_InvalidFile) kV_InvalidFile dc_InvalidFile pm_InvalidFile an_InvalidFile (.ref cda_InvalidFile) ct_InvalidFile cc_InvalidFile), sl_InvalidFile⟩)
    (ld_InvalidFile : K.lookup T_InvalidFile = some ⟨ocT_InvalidFile, odT_InvalidFile, .seq #[.none] nT_InvalidFile, slT_InvalidFile⟩)
    (cd_InvalidFile : PySem.W.codeIn K (.ref cda_InvalidFile) "InvalidFile.__init__" = true)
    (cr_InvalidFile : K.lookup cda_InvalidFile = some ⟨ccl_InvalidFile, cdd_InvalidFile, .fields vs_InvalidFile, ccs_InvalidFile⟩)
    (v2_InvalidFile : vs_InvalidFile[2]? = some (.str file_InvalidFile tf_InvalidFile))
    (fl_InvalidFile : ((PySem.Challenge.rw_keptholes_k05_steps_made.prog.main.file : Str) == file_InvalidFile) = true)
    (clc_InvalidFile : K.lookup cc_InvalidFile = some ⟨cl_InvalidFile, cld_InvalidFile, .cell (some (.ref C_InvalidFile)), csl_InvalidFile⟩)
    (al_InvalidFile : PySem.W.ks_superIn K C_InvalidFile C_InvalidFile "__init__" = some (some (.builtin "ValueError.__init__")))
    (sV_InvalidFile : PySem.W.subIn K (.ref C_InvalidFile) (.type "ValueError") = some true)
    (eC_InvalidFile : PySem.W.subIn K (.ref C_InvalidFile) (.type "BaseException") = some true)
    (sC_InvalidFile : PySem.W.mroIn K C_InvalidFile (.ref C_InvalidFile) = some true)
    (kC_InvalidFile : PySem.W.keepIn K (.ref C_InvalidFile) = true)
    (tC_InvalidFile : PySem.W.typeIn K (.ref C_InvalidFile) = some (.type "type"))
    (hC_InvalidFile : PySem.W.hasDictIn K C_InvalidFile = true)
    (iC_InvalidFile : PySem.W.isClsIn K C_InvalidFile = true)
    (s_InvalidFile_InvalidFile : PySem.W.subIn K (.ref C_InvalidFile) (.ref C_InvalidFile) = some true)
    (ac_InvalidNumber : PySem.W.nsIn K mainGlobals "InvalidNumber" = some (some (.ref C_InvalidNumber)))
    (xL_InvalidNumber : K.lookup C_InvalidNumber = some (excClassObj nm_InvalidNumber q_InvalidNumber C_InvalidNumber NN_InvalidNumber bs_InvalidNumber [.ref C_HoleError, .type "ValueError", .type "Exception", .type "BaseException", .type "object"] true sn_InvalidNumber sub_InvalidNumber ab_InvalidNumber col_InvalidNumber dd_InvalidNumber m0_InvalidNumber m1_InvalidNumber m2_InvalidNumber m3_InvalidNumber m5_InvalidNumber "ValueError.__new__"))
    (sa_InvalidNumber : PySem.W.findIn K (.ref C_InvalidNumber) "__setattr__" = some (some (.builtin "object.__setattr__")))
    (ga_InvalidNumber : PySem.W.findIn K (.ref C_InvalidNumber) "__getattribute__" = some (some (.builtin "BaseException.__getattribute__")))
    (gg_InvalidNumber : PySem.W.findIn K (.ref C_InvalidNumber) "__getattr__" = some none)
    (nb_InvalidNumber : PySem.W.findIn K (.ref C_InvalidNumber) "value" = some none)
    (i_InvalidNumber : PySem.W.findIn K (.ref C_InvalidNumber) "__init__" = some (some (.ref I_InvalidNumber)))
    (t_InvalidNumber : PySem.W.typeIn K (.ref I_InvalidNumber) = some (.type "function"))
    (l_InvalidNumber : K.lookup I_InvalidNumber = some ⟨oc_InvalidNumber, od_InvalidNumber, .func (ksFn "__init__" "InvalidNumber.__init__" (defArgs si_InvalidNumber) (defBody si_InvalidNumber) (defScope si_InvalidNumber) (.ref T_InvalidNumber) kV_InvalidNumber dc_InvalidNumber pm_InvalidNumber an_InvalidNumber (.ref cda_InvalidNumber) ct_InvalidNumber cc_InvalidNumber), sl_InvalidNumber⟩)
    (ld_InvalidNumber : K.lookup T_InvalidNumber = some ⟨ocT_InvalidNumber, odT_InvalidNumber, .seq #[.none] nT_InvalidNumber, slT_InvalidNumber⟩)
    (cd_InvalidNumber : PySem.W.codeIn K (.ref cda_InvalidNumber) "InvalidNumber.__init__" = true)
    (cr_InvalidNumber : K.lookup cda_InvalidNumber = some ⟨ccl_InvalidNumber, cdd_InvalidNumber, .fields vs_InvalidNumber, ccs_InvalidNumber⟩)
    (v2_InvalidNumber : vs_InvalidNumber[2]? = some (.str file_InvalidNumber tf_InvalidNumber))
    (fl_InvalidNumber : ((PySem.Challenge.rw_keptholes_k05_steps_made.prog.main.file : Str) == file_InvalidNumber) = true)
    (clc_InvalidNumber : K.lookup cc_InvalidNumber = some ⟨cl_InvalidNumber, cld_InvalidNumber, .cell (some (.ref C_InvalidNumber)), csl_InvalidNumber⟩)
    (al_InvalidNumber : PySem.W.ks_superIn K C_InvalidNumber C_InvalidNumber "__init__" = some (some (.builtin "ValueError.__init__")))
    (sV_InvalidNumber : PySem.W.subIn K (.ref C_InvalidNumber) (.type "ValueError") = some true)
    (eC_InvalidNumber : PySem.W.subIn K (.ref C_InvalidNumber) (.type "BaseException") = some true)
    (sC_InvalidNumber : PySem.W.mroIn K C_InvalidNumber (.ref C_InvalidNumber) = some true)
    (kC_InvalidNumber : PySem.W.keepIn K (.ref C_InvalidNumber) = true)
    (tC_InvalidNumber : PySem.W.typeIn K (.ref C_InvalidNumber) = some (.type "type"))
    (hC_InvalidNumber : PySem.W.hasDictIn K C_InvalidNumber = true)
    (iC_InvalidNumber : PySem.W.isClsIn K C_InvalidNumber = true)
    (s_InvalidNumber_InvalidNumber : PySem.W.subIn K (.ref C_InvalidNumber) (.ref C_InvalidNumber) = some true)
    (ac_InvalidScript : PySem.W.nsIn K mainGlobals "InvalidScript" = some (some (.ref C_InvalidScript)))
    (xL_InvalidScript : K.lookup C_InvalidScript = some (excClassObj nm_InvalidScript q_InvalidScript C_InvalidScript NN_InvalidScript bs_InvalidScript [.ref C_HoleError, .type "ValueError", .type "Exception", .type "BaseException", .type "object"] true sn_InvalidScript sub_InvalidScript ab_InvalidScript col_InvalidScript dd_InvalidScript m0_InvalidScript m1_InvalidScript m2_InvalidScript m3_InvalidScript m5_InvalidScript "ValueError.__new__"))
    (sa_InvalidScript : PySem.W.findIn K (.ref C_InvalidScript) "__setattr__" = some (some (.builtin "object.__setattr__")))
    (ga_InvalidScript : PySem.W.findIn K (.ref C_InvalidScript) "__getattribute__" = some (some (.builtin "BaseException.__getattribute__")))
    (gg_InvalidScript : PySem.W.findIn K (.ref C_InvalidScript) "__getattr__" = some none)
    (nb_InvalidScript : PySem.W.findIn K (.ref C_InvalidScript) "value" = some none)
    (i_InvalidScript : PySem.W.findIn K (.ref C_InvalidScript) "__init__" = some (some (.ref I_InvalidScript)))
    (t_InvalidScript : PySem.W.typeIn K (.ref I_InvalidScript) = some (.type "function"))
    (l_InvalidScript : K.lookup I_InvalidScript = some ⟨oc_InvalidScript, od_InvalidScript, .func (ksFn "__init__" "InvalidScript.__init__" (defArgs si_InvalidScript) (defBody si_InvalidScript) (defScope si_InvalidScript) (.ref T_InvalidScript) kV_InvalidScript dc_InvalidScript pm_InvalidScript an_InvalidScript (.ref cda_InvalidScript) ct_InvalidScript cc_InvalidScript), sl_InvalidScript⟩)
    (ld_InvalidScript : K.lookup T_InvalidScript = some ⟨ocT_InvalidScript, odT_InvalidScript, .seq #[.none] nT_InvalidScript, slT_InvalidScript⟩)
    (cd_InvalidScript : PySem.W.codeIn K (.ref cda_InvalidScript) "InvalidScript.__init__" = true)
    (cr_InvalidScript : K.lookup cda_InvalidScript = some ⟨ccl_InvalidScript, cdd_InvalidScript, .fields vs_InvalidScript, ccs_InvalidScript⟩)
    (v2_InvalidScript : vs_InvalidScript[2]? = some (.str file_InvalidScript tf_InvalidScript))
    (fl_InvalidScript : ((PySem.Challenge.rw_keptholes_k05_steps_made.prog.main.file : Str) == file_InvalidScript) = true)
    (clc_InvalidScript : K.lookup cc_InvalidScript = some ⟨cl_InvalidScript, cld_InvalidScript, .cell (some (.ref C_InvalidScript)), csl_InvalidScript⟩)
    (al_InvalidScript : PySem.W.ks_superIn K C_InvalidScript C_InvalidScript "__init__" = some (some (.builtin "ValueError.__init__")))
    (sV_InvalidScript : PySem.W.subIn K (.ref C_InvalidScript) (.type "ValueError") = some true)
    (eC_InvalidScript : PySem.W.subIn K (.ref C_InvalidScript) (.type "BaseException") = some true)
    (sC_InvalidScript : PySem.W.mroIn K C_InvalidScript (.ref C_InvalidScript) = some true)
    (kC_InvalidScript : PySem.W.keepIn K (.ref C_InvalidScript) = true)
    (tC_InvalidScript : PySem.W.typeIn K (.ref C_InvalidScript) = some (.type "type"))
    (hC_InvalidScript : PySem.W.hasDictIn K C_InvalidScript = true)
    (iC_InvalidScript : PySem.W.isClsIn K C_InvalidScript = true)
    (s_InvalidScript_InvalidScript : PySem.W.subIn K (.ref C_InvalidScript) (.ref C_InvalidScript) = some true)
    (s_InvalidFile_InvalidNumber : PySem.W.subIn K (.ref C_InvalidFile) (.ref C_InvalidNumber) = some false)
    (s_InvalidFile_InvalidScript : PySem.W.subIn K (.ref C_InvalidFile) (.ref C_InvalidScript) = some false)
    (s_InvalidNumber_InvalidFile : PySem.W.subIn K (.ref C_InvalidNumber) (.ref C_InvalidFile) = some false)
    (s_InvalidNumber_InvalidScript : PySem.W.subIn K (.ref C_InvalidNumber) (.ref C_InvalidScript) = some false)
    (s_InvalidScript_InvalidFile : PySem.W.subIn K (.ref C_InvalidScript) (.ref C_InvalidFile) = some false)
    (s_InvalidScript_InvalidNumber : PySem.W.subIn K (.ref C_InvalidScript) (.ref C_InvalidNumber) = some false) :
    ∃ fd : FuncData, (∀ (s : Shared) (v : Value), BindsTo s fd ⟨[v], []⟩ [("script", v)]) ∧ ∀ base : Heap, K.In base → base.Ns mainGlobals mg → FnOk PySem.Challenge.rw_keptholes_k05_steps_made.prog w K mg base CX0 6 fa fd ["script"] (toSp K spLaw) := by
  have e := hfa.symm.trans (PySem.W.mg_of X G a_law)
  have e2 : f_law = fa := by injection e with e; injection e with e; exact e.symm
  subst e2
  let R : Prg K mg := {
    n_ValueError := (PySem.W.mg_none_of X G z_ValueError)
    n_bool := (PySem.W.mg_none_of X G z_bool)
    n_enumerate := (PySem.W.mg_none_of X G z_enumerate)
    n_int := (PySem.W.mg_none_of X G z_int)
    n_isinstance := (PySem.W.mg_none_of X G z_isinstance)
    n_iter := (PySem.W.mg_none_of X G z_iter)
    n_len := (PySem.W.mg_none_of X G z_len)
    n_list := (PySem.W.mg_none_of X G z_list)
    n_property := (PySem.W.mg_none_of X G z_property)
    n_range := (PySem.W.mg_none_of X G z_range)
    n_str := (PySem.W.mg_none_of X G z_str)
    n_sum := (PySem.W.mg_none_of X G z_sum)
    n_super := (PySem.W.mg_none_of X G z_super)
    n_tuple := (PySem.W.mg_none_of X G z_tuple)
    tg_SIGNS := (tg_SIGNS)
    g_SIGNS := (PySem.W.mg_of X G g_SIGNS)
    C_File := (C_File)
    mc_File := (PySem.W.mg_of X G ac_File)
    C_Step := (C_Step)
    mc_Step := (PySem.W.mg_of X G ac_Step)
    C_Full := (C_Full)
    mc_Full := (PySem.W.mg_of X G ac_Full)
    C_Keep := (C_Keep)
    mc_Keep := (PySem.W.mg_of X G ac_Keep)
    C_Lean := (C_Lean)
    mc_Lean := (PySem.W.mg_of X G ac_Lean)
    C_Dig := (C_Dig)
    mc_Dig := (PySem.W.mg_of X G ac_Dig)
    C_Script := (C_Script)
    mc_Script := (PySem.W.mg_of X G ac_Script)
    f_is_whole := (f_is_whole)
    d_is_whole := (PySem.W.fnOf "is_whole" "is_whole" (defArgs s_is_whole) (defBody s_is_whole) (defScope s_is_whole) .none kV_is_whole dc_is_whole pm_is_whole an_is_whole cd_is_whole ct_is_whole)
    F_is_whole := (fun_mk (st := s_is_whole) l_is_whole c_is_whole k_is_whole)
    b_is_whole := ((fun_mk (st := s_is_whole) l_is_whole c_is_whole k_is_whole).binds (ps := P_is_whole) fun _ _ _ _ _ _ us hl => match us, hl with | [_], _ => rfl)
    m_is_whole := (PySem.W.mg_of X G a_is_whole)
    f_check_least := (f_check_least)
    d_check_least := (PySem.W.fnOf "check_least" "check_least" (defArgs s_check_least) (defBody s_check_least) (defScope s_check_least) .none kV_check_least dc_check_least pm_check_least an_check_least cd_check_least ct_check_least)
    F_check_least := (fun_mk (st := s_check_least) l_check_least c_check_least k_check_least)
    b_check_least := ((fun_mk (st := s_check_least) l_check_least c_check_least k_check_least).binds (ps := P_check_least) fun _ _ _ _ _ _ us hl => match us, hl with | [_, _], _ => rfl)
    m_check_least := (PySem.W.mg_of X G a_check_least)
    f_check_within := (f_check_within)
    d_check_within := (PySem.W.fnOf "check_within" "check_within" (defArgs s_check_within) (defBody s_check_within) (defScope s_check_within) .none kV_check_within dc_check_within pm_check_within an_check_within cd_check_within ct_check_within)
    F_check_within := (fun_mk (st := s_check_within) l_check_within c_check_within k_check_within)
    b_check_within := ((fun_mk (st := s_check_within) l_check_within c_check_within k_check_within).binds (ps := P_check_within) fun _ _ _ _ _ _ us hl => match us, hl with | [_, _, _], _ => rfl)
    m_check_within := (PySem.W.mg_of X G a_check_within)
    f_are_cells := (f_are_cells)
    d_are_cells := (PySem.W.fnOf "are_cells" "are_cells" (defArgs s_are_cells) (defBody s_are_cells) (defScope s_are_cells) .none kV_are_cells dc_are_cells pm_are_cells an_are_cells cd_are_cells ct_are_cells)
    F_are_cells := (fun_mk (st := s_are_cells) l_are_cells c_are_cells k_are_cells)
    b_are_cells := ((fun_mk (st := s_are_cells) l_are_cells c_are_cells k_are_cells).binds (ps := P_are_cells) fun _ _ _ _ _ _ us hl => match us, hl with | [_], _ => rfl)
    m_are_cells := (PySem.W.mg_of X G a_are_cells)
    f_are_steps := (f_are_steps)
    d_are_steps := (PySem.W.fnOf "are_steps" "are_steps" (defArgs s_are_steps) (defBody s_are_steps) (defScope s_are_steps) .none kV_are_steps dc_are_steps pm_are_steps an_are_steps cd_are_steps ct_are_steps)
    F_are_steps := (fun_mk (st := s_are_steps) l_are_steps c_are_steps k_are_steps)
    b_are_steps := ((fun_mk (st := s_are_steps) l_are_steps c_are_steps k_are_steps).binds (ps := P_are_steps) fun _ _ _ _ _ _ us hl => match us, hl with | [_], _ => rfl)
    m_are_steps := (PySem.W.mg_of X G a_are_steps)
    f_law_purse := (f_law_purse)
    d_law_purse := (PySem.W.fnOf "_law_purse" "_law_purse" (defArgs s_law_purse) (defBody s_law_purse) (defScope s_law_purse) .none kV_law_purse dc_law_purse pm_law_purse an_law_purse cd_law_purse ct_law_purse)
    F_law_purse := (fun_mk (st := s_law_purse) l_law_purse c_law_purse k_law_purse)
    b_law_purse := ((fun_mk (st := s_law_purse) l_law_purse c_law_purse k_law_purse).binds (ps := P_law_purse) fun _ _ _ _ _ _ us hl => match us, hl with | [_, _], _ => rfl)
    m_law_purse := (PySem.W.mg_of X G a_law_purse)
    f_law_draw := (f_law_draw)
    d_law_draw := (PySem.W.fnOf "_law_draw" "_law_draw" (defArgs s_law_draw) (defBody s_law_draw) (defScope s_law_draw) .none kV_law_draw dc_law_draw pm_law_draw an_law_draw cd_law_draw ct_law_draw)
    F_law_draw := (fun_mk (st := s_law_draw) l_law_draw c_law_draw k_law_draw)
    b_law_draw := ((fun_mk (st := s_law_draw) l_law_draw c_law_draw k_law_draw).binds (ps := P_law_draw) fun _ _ _ _ _ _ us hl => match us, hl with | [_, _], _ => rfl)
    m_law_draw := (PySem.W.mg_of X G a_law_draw)
    f_law_refused := (f_law_refused)
    d_law_refused := (PySem.W.fnOf "_law_refused" "_law_refused" (defArgs s_law_refused) (defBody s_law_refused) (defScope s_law_refused) .none kV_law_refused dc_law_refused pm_law_refused an_law_refused cd_law_refused ct_law_refused)
    F_law_refused := (fun_mk (st := s_law_refused) l_law_refused c_law_refused k_law_refused)
    b_law_refused := ((fun_mk (st := s_law_refused) l_law_refused c_law_refused k_law_refused).binds (ps := P_law_refused) fun _ _ _ _ _ _ us hl => match us, hl with | [_, _], _ => rfl)
    m_law_refused := (PySem.W.mg_of X G a_law_refused)
    f_law_kinds := (f_law_kinds)
    d_law_kinds := (PySem.W.fnOf "_law_kinds" "_law_kinds" (defArgs s_law_kinds) (defBody s_law_kinds) (defScope s_law_kinds) .none kV_law_kinds dc_law_kinds pm_law_kinds an_law_kinds cd_law_kinds ct_law_kinds)
    F_law_kinds := (fun_mk (st := s_law_kinds) l_law_kinds c_law_kinds k_law_kinds)
    b_law_kinds := ((fun_mk (st := s_law_kinds) l_law_kinds c_law_kinds k_law_kinds).binds (ps := P_law_kinds) fun _ _ _ _ _ _ us hl => match us, hl with | [_], _ => rfl)
    m_law_kinds := (PySem.W.mg_of X G a_law_kinds)
    f_law := (f_law)
    d_law := (PySem.W.fnOf "law" "law" (defArgs s_law) (defBody s_law) (defScope s_law) .none kV_law dc_law pm_law an_law cd_law ct_law)
    F_law := (fun_mk (st := s_law) l_law c_law k_law)
    b_law := ((fun_mk (st := s_law) l_law c_law k_law).binds (ps := P_law) fun _ _ _ _ _ _ us hl => match us, hl with | [_], _ => rfl)
    m_law := (PySem.W.mg_of X G a_law)
    tk0_File_init := (tk0_File_init)
    f_File_init := (f_File_init)
    d_File_init := (PySem.W.fnOf "__init__" "File.__init__" (defArgs s_File_init) (defBody s_File_init) (defScope s_File_init) (.ref T_File_init) kV_File_init dc_File_init pm_File_init an_File_init cd_File_init ct_File_init)
    F_File_init := (⟨⟨oc_File_init, od_File_init, (.ref T_File_init), kV_File_init, dc_File_init, pm_File_init, an_File_init, cd_File_init, ct_File_init, sl_File_init, rfl, l_File_init, c_File_init⟩, k_File_init⟩)
    b_File_init := (fun s us X hl => match us, hl with | [_, _], _ => BindsTo.of_defaults (T := T_File_init) rfl (X _ _ ld_File_init) rfl rfl rfl)
    b1_File_init := (fun s us X hl => match us, (show us.length = 1 by simpa using hl) with | [_], _ => BindsTo.of_defaults (T := T_File_init) rfl (X _ _ ld_File_init) rfl rfl rfl)
    M_File_init := (⟨a_File_init, i_File_init, k_File_init⟩)
    f_File_cells := (f_File_cells)
    d_File_cells := (PySem.W.fnOf "cells" "File.cells" (defArgs s_File_cells) (defBody s_File_cells) (defScope s_File_cells) .none kV_File_cells dc_File_cells pm_File_cells an_File_cells cd_File_cells ct_File_cells)
    F_File_cells := (fun_mk (st := s_File_cells) l_File_cells c_File_cells k_File_cells)
    b_File_cells := ((fun_mk (st := s_File_cells) l_File_cells c_File_cells k_File_cells).binds (ps := P_File_cells) fun _ _ _ _ _ _ us hl => match us, hl with | [_], _ => rfl)
    pr_File_cells := pr_File_cells
    V_File_cells := (⟨pa_File_cells, pb_File_cells, pc_File_cells, ⟨rs_File_cells, pd_File_cells⟩⟩)
    f_File_len := (f_File_len)
    d_File_len := (PySem.W.fnOf "__len__" "File.__len__" (defArgs s_File_len) (defBody s_File_len) (defScope s_File_len) .none kV_File_len dc_File_len pm_File_len an_File_len cd_File_len ct_File_len)
    F_File_len := (fun_mk (st := s_File_len) l_File_len c_File_len k_File_len)
    b_File_len := ((fun_mk (st := s_File_len) l_File_len c_File_len k_File_len).binds (ps := P_File_len) fun _ _ _ _ _ _ us hl => match us, hl with | [_], _ => rfl)
    M_File_len := (⟨a_File_len, i_File_len, k_File_len⟩)
    f_File_iter := (f_File_iter)
    d_File_iter := (PySem.W.fnOf "__iter__" "File.__iter__" (defArgs s_File_iter) (defBody s_File_iter) (defScope s_File_iter) .none kV_File_iter dc_File_iter pm_File_iter an_File_iter cd_File_iter ct_File_iter)
    F_File_iter := (fun_mk (st := s_File_iter) l_File_iter c_File_iter k_File_iter)
    b_File_iter := ((fun_mk (st := s_File_iter) l_File_iter c_File_iter k_File_iter).binds (ps := P_File_iter) fun _ _ _ _ _ _ us hl => match us, hl with | [_], _ => rfl)
    M_File_iter := (⟨a_File_iter, i_File_iter, k_File_iter⟩)
    f_File_getitem := (f_File_getitem)
    d_File_getitem := (PySem.W.fnOf "__getitem__" "File.__getitem__" (defArgs s_File_getitem) (defBody s_File_getitem) (defScope s_File_getitem) .none kV_File_getitem dc_File_getitem pm_File_getitem an_File_getitem cd_File_getitem ct_File_getitem)
    F_File_getitem := (fun_mk (st := s_File_getitem) l_File_getitem c_File_getitem k_File_getitem)
    b_File_getitem := ((fun_mk (st := s_File_getitem) l_File_getitem c_File_getitem k_File_getitem).binds (ps := P_File_getitem) fun _ _ _ _ _ _ us hl => match us, hl with | [_, _], _ => rfl)
    M_File_getitem := (⟨a_File_getitem, i_File_getitem, k_File_getitem⟩)
    f_File_eq := (f_File_eq)
    d_File_eq := (PySem.W.fnOf "__eq__" "File.__eq__" (defArgs s_File_eq) (defBody s_File_eq) (defScope s_File_eq) .none kV_File_eq dc_File_eq pm_File_eq an_File_eq cd_File_eq ct_File_eq)
    F_File_eq := (fun_mk (st := s_File_eq) l_File_eq c_File_eq k_File_eq)
    b_File_eq := ((fun_mk (st := s_File_eq) l_File_eq c_File_eq k_File_eq).binds (ps := P_File_eq) fun _ _ _ _ _ _ us hl => match us, hl with | [_, _], _ => rfl)
    M_File_eq := (⟨a_File_eq, i_File_eq, k_File_eq⟩)
    f_Full_eq := (f_Full_eq)
    d_Full_eq := (PySem.W.fnOf "__eq__" "Full.__eq__" (defArgs s_Full_eq) (defBody s_Full_eq) (defScope s_Full_eq) .none kV_Full_eq dc_Full_eq pm_Full_eq an_Full_eq cd_Full_eq ct_Full_eq)
    F_Full_eq := (fun_mk (st := s_Full_eq) l_Full_eq c_Full_eq k_Full_eq)
    b_Full_eq := ((fun_mk (st := s_Full_eq) l_Full_eq c_Full_eq k_Full_eq).binds (ps := P_Full_eq) fun _ _ _ _ _ _ us hl => match us, hl with | [_, _], _ => rfl)
    M_Full_eq := (⟨a_Full_eq, i_Full_eq, k_Full_eq⟩)
    f_Keep_init := (f_Keep_init)
    d_Keep_init := (PySem.W.fnOf "__init__" "Keep.__init__" (defArgs s_Keep_init) (defBody s_Keep_init) (defScope s_Keep_init) .none kV_Keep_init dc_Keep_init pm_Keep_init an_Keep_init cd_Keep_init ct_Keep_init)
    F_Keep_init := (fun_mk (st := s_Keep_init) l_Keep_init c_Keep_init k_Keep_init)
    b_Keep_init := ((fun_mk (st := s_Keep_init) l_Keep_init c_Keep_init k_Keep_init).binds (ps := P_Keep_init) fun _ _ _ _ _ _ us hl => match us, hl with | [_, _], _ => rfl)
    M_Keep_init := (⟨a_Keep_init, i_Keep_init, k_Keep_init⟩)
    f_Keep_size := (f_Keep_size)
    d_Keep_size := (PySem.W.fnOf "size" "Keep.size" (defArgs s_Keep_size) (defBody s_Keep_size) (defScope s_Keep_size) .none kV_Keep_size dc_Keep_size pm_Keep_size an_Keep_size cd_Keep_size ct_Keep_size)
    F_Keep_size := (fun_mk (st := s_Keep_size) l_Keep_size c_Keep_size k_Keep_size)
    b_Keep_size := ((fun_mk (st := s_Keep_size) l_Keep_size c_Keep_size k_Keep_size).binds (ps := P_Keep_size) fun _ _ _ _ _ _ us hl => match us, hl with | [_], _ => rfl)
    pr_Keep_size := pr_Keep_size
    V_Keep_size := (⟨pa_Keep_size, pb_Keep_size, pc_Keep_size, ⟨rs_Keep_size, pd_Keep_size⟩⟩)
    f_Keep_eq := (f_Keep_eq)
    d_Keep_eq := (PySem.W.fnOf "__eq__" "Keep.__eq__" (defArgs s_Keep_eq) (defBody s_Keep_eq) (defScope s_Keep_eq) .none kV_Keep_eq dc_Keep_eq pm_Keep_eq an_Keep_eq cd_Keep_eq ct_Keep_eq)
    F_Keep_eq := (fun_mk (st := s_Keep_eq) l_Keep_eq c_Keep_eq k_Keep_eq)
    b_Keep_eq := ((fun_mk (st := s_Keep_eq) l_Keep_eq c_Keep_eq k_Keep_eq).binds (ps := P_Keep_eq) fun _ _ _ _ _ _ us hl => match us, hl with | [_, _], _ => rfl)
    M_Keep_eq := (⟨a_Keep_eq, i_Keep_eq, k_Keep_eq⟩)
    f_Lean_init := (f_Lean_init)
    d_Lean_init := (PySem.W.fnOf "__init__" "Lean.__init__" (defArgs s_Lean_init) (defBody s_Lean_init) (defScope s_Lean_init) .none kV_Lean_init dc_Lean_init pm_Lean_init an_Lean_init cd_Lean_init ct_Lean_init)
    F_Lean_init := (fun_mk (st := s_Lean_init) l_Lean_init c_Lean_init k_Lean_init)
    b_Lean_init := ((fun_mk (st := s_Lean_init) l_Lean_init c_Lean_init k_Lean_init).binds (ps := P_Lean_init) fun _ _ _ _ _ _ us hl => match us, hl with | [_, _], _ => rfl)
    M_Lean_init := (⟨a_Lean_init, i_Lean_init, k_Lean_init⟩)
    f_Lean_size := (f_Lean_size)
    d_Lean_size := (PySem.W.fnOf "size" "Lean.size" (defArgs s_Lean_size) (defBody s_Lean_size) (defScope s_Lean_size) .none kV_Lean_size dc_Lean_size pm_Lean_size an_Lean_size cd_Lean_size ct_Lean_size)
    F_Lean_size := (fun_mk (st := s_Lean_size) l_Lean_size c_Lean_size k_Lean_size)
    b_Lean_size := ((fun_mk (st := s_Lean_size) l_Lean_size c_Lean_size k_Lean_size).binds (ps := P_Lean_size) fun _ _ _ _ _ _ us hl => match us, hl with | [_], _ => rfl)
    pr_Lean_size := pr_Lean_size
    V_Lean_size := (⟨pa_Lean_size, pb_Lean_size, pc_Lean_size, ⟨rs_Lean_size, pd_Lean_size⟩⟩)
    f_Lean_eq := (f_Lean_eq)
    d_Lean_eq := (PySem.W.fnOf "__eq__" "Lean.__eq__" (defArgs s_Lean_eq) (defBody s_Lean_eq) (defScope s_Lean_eq) .none kV_Lean_eq dc_Lean_eq pm_Lean_eq an_Lean_eq cd_Lean_eq ct_Lean_eq)
    F_Lean_eq := (fun_mk (st := s_Lean_eq) l_Lean_eq c_Lean_eq k_Lean_eq)
    b_Lean_eq := ((fun_mk (st := s_Lean_eq) l_Lean_eq c_Lean_eq k_Lean_eq).binds (ps := P_Lean_eq) fun _ _ _ _ _ _ us hl => match us, hl with | [_, _], _ => rfl)
    M_Lean_eq := (⟨a_Lean_eq, i_Lean_eq, k_Lean_eq⟩)
    f_Dig_init := (f_Dig_init)
    d_Dig_init := (PySem.W.fnOf "__init__" "Dig.__init__" (defArgs s_Dig_init) (defBody s_Dig_init) (defScope s_Dig_init) .none kV_Dig_init dc_Dig_init pm_Dig_init an_Dig_init cd_Dig_init ct_Dig_init)
    F_Dig_init := (fun_mk (st := s_Dig_init) l_Dig_init c_Dig_init k_Dig_init)
    b_Dig_init := ((fun_mk (st := s_Dig_init) l_Dig_init c_Dig_init k_Dig_init).binds (ps := P_Dig_init) fun _ _ _ _ _ _ us hl => match us, hl with | [_, _], _ => rfl)
    M_Dig_init := (⟨a_Dig_init, i_Dig_init, k_Dig_init⟩)
    f_Dig_size := (f_Dig_size)
    d_Dig_size := (PySem.W.fnOf "size" "Dig.size" (defArgs s_Dig_size) (defBody s_Dig_size) (defScope s_Dig_size) .none kV_Dig_size dc_Dig_size pm_Dig_size an_Dig_size cd_Dig_size ct_Dig_size)
    F_Dig_size := (fun_mk (st := s_Dig_size) l_Dig_size c_Dig_size k_Dig_size)
    b_Dig_size := ((fun_mk (st := s_Dig_size) l_Dig_size c_Dig_size k_Dig_size).binds (ps := P_Dig_size) fun _ _ _ _ _ _ us hl => match us, hl with | [_], _ => rfl)
    pr_Dig_size := pr_Dig_size
    V_Dig_size := (⟨pa_Dig_size, pb_Dig_size, pc_Dig_size, ⟨rs_Dig_size, pd_Dig_size⟩⟩)
    f_Dig_eq := (f_Dig_eq)
    d_Dig_eq := (PySem.W.fnOf "__eq__" "Dig.__eq__" (defArgs s_Dig_eq) (defBody s_Dig_eq) (defScope s_Dig_eq) .none kV_Dig_eq dc_Dig_eq pm_Dig_eq an_Dig_eq cd_Dig_eq ct_Dig_eq)
    F_Dig_eq := (fun_mk (st := s_Dig_eq) l_Dig_eq c_Dig_eq k_Dig_eq)
    b_Dig_eq := ((fun_mk (st := s_Dig_eq) l_Dig_eq c_Dig_eq k_Dig_eq).binds (ps := P_Dig_eq) fun _ _ _ _ _ _ us hl => match us, hl with | [_, _], _ => rfl)
    M_Dig_eq := (⟨a_Dig_eq, i_Dig_eq, k_Dig_eq⟩)
    f_Script_init := (f_Script_init)
    d_Script_init := (PySem.W.fnOf "__init__" "Script.__init__" (defArgs s_Script_init) (defBody s_Script_init) (defScope s_Script_init) (.ref T_Script_init) kV_Script_init dc_Script_init pm_Script_init an_Script_init cd_Script_init ct_Script_init)
    F_Script_init := (⟨⟨oc_Script_init, od_Script_init, (.ref T_Script_init), kV_Script_init, dc_Script_init, pm_Script_init, an_Script_init, cd_Script_init, ct_Script_init, sl_Script_init, rfl, l_Script_init, c_Script_init⟩, k_Script_init⟩)
    b_Script_init := (fun s us X hl => match us, hl with | [_, _], _ => BindsTo.of_defaults (T := T_Script_init) rfl (X _ _ ld_Script_init) rfl rfl rfl)
    b1_Script_init := (fun s us X hl => match us, (show us.length = 1 by simpa using hl) with | [_], _ => BindsTo.of_defaults (T := T_Script_init) rfl (X _ _ ld_Script_init) rfl rfl rfl)
    M_Script_init := (⟨a_Script_init, i_Script_init, k_Script_init⟩)
    f_Script_len := (f_Script_len)
    d_Script_len := (PySem.W.fnOf "__len__" "Script.__len__" (defArgs s_Script_len) (defBody s_Script_len) (defScope s_Script_len) .none kV_Script_len dc_Script_len pm_Script_len an_Script_len cd_Script_len ct_Script_len)
    F_Script_len := (fun_mk (st := s_Script_len) l_Script_len c_Script_len k_Script_len)
    b_Script_len := ((fun_mk (st := s_Script_len) l_Script_len c_Script_len k_Script_len).binds (ps := P_Script_len) fun _ _ _ _ _ _ us hl => match us, hl with | [_], _ => rfl)
    M_Script_len := (⟨a_Script_len, i_Script_len, k_Script_len⟩)
    f_Script_iter := (f_Script_iter)
    d_Script_iter := (PySem.W.fnOf "__iter__" "Script.__iter__" (defArgs s_Script_iter) (defBody s_Script_iter) (defScope s_Script_iter) .none kV_Script_iter dc_Script_iter pm_Script_iter an_Script_iter cd_Script_iter ct_Script_iter)
    F_Script_iter := (fun_mk (st := s_Script_iter) l_Script_iter c_Script_iter k_Script_iter)
    b_Script_iter := ((fun_mk (st := s_Script_iter) l_Script_iter c_Script_iter k_Script_iter).binds (ps := P_Script_iter) fun _ _ _ _ _ _ us hl => match us, hl with | [_], _ => rfl)
    M_Script_iter := (⟨a_Script_iter, i_Script_iter, k_Script_iter⟩)
    f_Script_getitem := (f_Script_getitem)
    d_Script_getitem := (PySem.W.fnOf "__getitem__" "Script.__getitem__" (defArgs s_Script_getitem) (defBody s_Script_getitem) (defScope s_Script_getitem) .none kV_Script_getitem dc_Script_getitem pm_Script_getitem an_Script_getitem cd_Script_getitem ct_Script_getitem)
    F_Script_getitem := (fun_mk (st := s_Script_getitem) l_Script_getitem c_Script_getitem k_Script_getitem)
    b_Script_getitem := ((fun_mk (st := s_Script_getitem) l_Script_getitem c_Script_getitem k_Script_getitem).binds (ps := P_Script_getitem) fun _ _ _ _ _ _ us hl => match us, hl with | [_, _], _ => rfl)
    M_Script_getitem := (⟨a_Script_getitem, i_Script_getitem, k_Script_getitem⟩)
    f_Script_eq := (f_Script_eq)
    d_Script_eq := (PySem.W.fnOf "__eq__" "Script.__eq__" (defArgs s_Script_eq) (defBody s_Script_eq) (defScope s_Script_eq) .none kV_Script_eq dc_Script_eq pm_Script_eq an_Script_eq cd_Script_eq ct_Script_eq)
    F_Script_eq := (fun_mk (st := s_Script_eq) l_Script_eq c_Script_eq k_Script_eq)
    b_Script_eq := ((fun_mk (st := s_Script_eq) l_Script_eq c_Script_eq k_Script_eq).binds (ps := P_Script_eq) fun _ _ _ _ _ _ us hl => match us, hl with | [_, _], _ => rfl)
    M_Script_eq := (⟨a_Script_eq, i_Script_eq, k_Script_eq⟩)
    f_Script_add := (f_Script_add)
    d_Script_add := (PySem.W.fnOf "__add__" "Script.__add__" (defArgs s_Script_add) (defBody s_Script_add) (defScope s_Script_add) .none kV_Script_add dc_Script_add pm_Script_add an_Script_add cd_Script_add ct_Script_add)
    F_Script_add := (fun_mk (st := s_Script_add) l_Script_add c_Script_add k_Script_add)
    b_Script_add := ((fun_mk (st := s_Script_add) l_Script_add c_Script_add k_Script_add).binds (ps := P_Script_add) fun _ _ _ _ _ _ us hl => match us, hl with | [_, _], _ => rfl)
    M_Script_add := (⟨a_Script_add, i_Script_add, k_Script_add⟩)
    f_Script_mul := (f_Script_mul)
    d_Script_mul := (PySem.W.fnOf "__mul__" "Script.__mul__" (defArgs s_Script_mul) (defBody s_Script_mul) (defScope s_Script_mul) .none kV_Script_mul dc_Script_mul pm_Script_mul an_Script_mul cd_Script_mul ct_Script_mul)
    F_Script_mul := (fun_mk (st := s_Script_mul) l_Script_mul c_Script_mul k_Script_mul)
    b_Script_mul := ((fun_mk (st := s_Script_mul) l_Script_mul c_Script_mul k_Script_mul).binds (ps := P_Script_mul) fun _ _ _ _ _ _ us hl => match us, hl with | [_, _], _ => rfl)
    M_Script_mul := (⟨a_Script_mul, i_Script_mul, k_Script_mul⟩)
    f_Script_without := (f_Script_without)
    d_Script_without := (PySem.W.fnOf "without" "Script.without" (defArgs s_Script_without) (defBody s_Script_without) (defScope s_Script_without) .none kV_Script_without dc_Script_without pm_Script_without an_Script_without cd_Script_without ct_Script_without)
    F_Script_without := (fun_mk (st := s_Script_without) l_Script_without c_Script_without k_Script_without)
    b_Script_without := ((fun_mk (st := s_Script_without) l_Script_without c_Script_without k_Script_without).binds (ps := P_Script_without) fun _ _ _ _ _ _ us hl => match us, hl with | [_, _], _ => rfl)
    M_Script_without := (⟨a_Script_without, i_Script_without, k_Script_without⟩)
    L_File := (⟨⟨pg_File, hd_File, po_File, sa_File⟩, ha_File, ohn, otk, mr_File⟩)
    K_File := (⟨mk_File, a_File_init, i_File_init, kc_File⟩)
    A_File_row := (na_File_row)
    L_Step := (⟨⟨pg_Step, hd_Step, po_Step, sa_Step⟩, ha_Step, ohn, otk, mr_Step⟩)
    K_Step := (⟨mk_Step, ii_Step, kc_Step, mr_Step⟩)
    L_Full := (⟨⟨pg_Full, hd_Full, po_Full, sa_Full⟩, ha_Full, ohn, otk, mr_Full⟩)
    K_Full := (⟨mk_Full, ii_Full, kc_Full, mr_Full⟩)
    L_Keep := (⟨⟨pg_Keep, hd_Keep, po_Keep, sa_Keep⟩, ha_Keep, ohn, otk, mr_Keep⟩)
    K_Keep := (⟨mk_Keep, a_Keep_init, i_Keep_init, kc_Keep⟩)
    A_Keep_wide := (na_Keep_wide)
    L_Lean := (⟨⟨pg_Lean, hd_Lean, po_Lean, sa_Lean⟩, ha_Lean, ohn, otk, mr_Lean⟩)
    K_Lean := (⟨mk_Lean, a_Lean_init, i_Lean_init, kc_Lean⟩)
    A_Lean_wide := (na_Lean_wide)
    L_Dig := (⟨⟨pg_Dig, hd_Dig, po_Dig, sa_Dig⟩, ha_Dig, ohn, otk, mr_Dig⟩)
    K_Dig := (⟨mk_Dig, a_Dig_init, i_Dig_init, kc_Dig⟩)
    A_Dig_wide := (na_Dig_wide)
    L_Script := (⟨⟨pg_Script, hd_Script, po_Script, sa_Script⟩, ha_Script, ohn, otk, mr_Script⟩)
    K_Script := (⟨mk_Script, a_Script_init, i_Script_init, kc_Script⟩)
    A_Script_rows := (na_Script_rows)
    ic_Dig := (ic_Dig)
    tc_Dig := (tc_Dig)
    ic_File := (ic_File)
    tc_File := (tc_File)
    ic_Full := (ic_Full)
    tc_Full := (tc_Full)
    ic_Keep := (ic_Keep)
    tc_Keep := (tc_Keep)
    ic_Lean := (ic_Lean)
    tc_Lean := (tc_Lean)
    ic_Script := (ic_Script)
    tc_Script := (tc_Script)
    ic_Step := (ic_Step)
    tc_Step := (tc_Step)
    s_File_Dig := (kit_rr2 ic_Dig tc_Dig ms_File s_File_Dig)
    s_File_File := (kit_self)
    s_File_Full := (kit_rr2 ic_Full tc_Full ms_File s_File_Full)
    s_File_Keep := (kit_rr2 ic_Keep tc_Keep ms_File s_File_Keep)
    s_File_Lean := (kit_rr2 ic_Lean tc_Lean ms_File s_File_Lean)
    s_File_Script := (kit_rr2 ic_Script tc_Script ms_File s_File_Script)
    s_File_Step := (kit_rr2 ic_Step tc_Step ms_File s_File_Step)
    si_File_bool := (s_File_bool)
    si_File_int := (s_File_int)
    si_File_list := (s_File_list)
    si_File_str := (s_File_str)
    nf_Full_File := (nf_Full_File)
    nf_Keep_File := (nf_Keep_File)
    nf_Lean_File := (nf_Lean_File)
    nf_Dig_File := (nf_Dig_File)
    nf_Script_File := (nf_Script_File)
    s_Step_Dig := (kit_rr2 ic_Dig tc_Dig ms_Step s_Step_Dig)
    s_Step_File := (kit_rr2 ic_File tc_File ms_Step s_Step_File)
    s_Step_Full := (kit_rr2 ic_Full tc_Full ms_Step s_Step_Full)
    s_Step_Keep := (kit_rr2 ic_Keep tc_Keep ms_Step s_Step_Keep)
    s_Step_Lean := (kit_rr2 ic_Lean tc_Lean ms_Step s_Step_Lean)
    s_Step_Script := (kit_rr2 ic_Script tc_Script ms_Step s_Step_Script)
    s_Step_Step := (kit_self)
    si_Step_bool := (s_Step_bool)
    si_Step_int := (s_Step_int)
    si_Step_list := (s_Step_list)
    si_Step_str := (s_Step_str)
    nf_File_Step := (nf_File_Step)
    nf_Full_Step := (nf_Full_Step)
    nf_Keep_Step := (nf_Keep_Step)
    nf_Lean_Step := (nf_Lean_Step)
    nf_Dig_Step := (nf_Dig_Step)
    nf_Script_Step := (nf_Script_Step)
    s_Full_Dig := (kit_rr2 ic_Dig tc_Dig ms_Full s_Full_Dig)
    s_Full_File := (kit_rr2 ic_File tc_File ms_Full s_Full_File)
    s_Full_Full := (kit_self)
    s_Full_Keep := (kit_rr2 ic_Keep tc_Keep ms_Full s_Full_Keep)
    s_Full_Lean := (kit_rr2 ic_Lean tc_Lean ms_Full s_Full_Lean)
    s_Full_Script := (kit_rr2 ic_Script tc_Script ms_Full s_Full_Script)
    s_Full_Step := (kit_rr2 ic_Step tc_Step ms_Full s_Full_Step)
    si_Full_bool := (s_Full_bool)
    si_Full_int := (s_Full_int)
    si_Full_list := (s_Full_list)
    si_Full_str := (s_Full_str)
    nf_File_Full := (nf_File_Full)
    nf_Keep_Full := (nf_Keep_Full)
    nf_Lean_Full := (nf_Lean_Full)
    nf_Dig_Full := (nf_Dig_Full)
    nf_Script_Full := (nf_Script_Full)
    s_Keep_Dig := (kit_rr2 ic_Dig tc_Dig ms_Keep s_Keep_Dig)
    s_Keep_File := (kit_rr2 ic_File tc_File ms_Keep s_Keep_File)
    s_Keep_Full := (kit_rr2 ic_Full tc_Full ms_Keep s_Keep_Full)
    s_Keep_Keep := (kit_self)
    s_Keep_Lean := (kit_rr2 ic_Lean tc_Lean ms_Keep s_Keep_Lean)
    s_Keep_Script := (kit_rr2 ic_Script tc_Script ms_Keep s_Keep_Script)
    s_Keep_Step := (kit_rr2 ic_Step tc_Step ms_Keep s_Keep_Step)
    si_Keep_bool := (s_Keep_bool)
    si_Keep_int := (s_Keep_int)
    si_Keep_list := (s_Keep_list)
    si_Keep_str := (s_Keep_str)
    nf_File_Keep := (nf_File_Keep)
    nf_Full_Keep := (nf_Full_Keep)
    nf_Lean_Keep := (nf_Lean_Keep)
    nf_Dig_Keep := (nf_Dig_Keep)
    nf_Script_Keep := (nf_Script_Keep)
    s_Lean_Dig := (kit_rr2 ic_Dig tc_Dig ms_Lean s_Lean_Dig)
    s_Lean_File := (kit_rr2 ic_File tc_File ms_Lean s_Lean_File)
    s_Lean_Full := (kit_rr2 ic_Full tc_Full ms_Lean s_Lean_Full)
    s_Lean_Keep := (kit_rr2 ic_Keep tc_Keep ms_Lean s_Lean_Keep)
    s_Lean_Lean := (kit_self)
    s_Lean_Script := (kit_rr2 ic_Script tc_Script ms_Lean s_Lean_Script)
    s_Lean_Step := (kit_rr2 ic_Step tc_Step ms_Lean s_Lean_Step)
    si_Lean_bool := (s_Lean_bool)
    si_Lean_int := (s_Lean_int)
    si_Lean_list := (s_Lean_list)
    si_Lean_str := (s_Lean_str)
    nf_File_Lean := (nf_File_Lean)
    nf_Full_Lean := (nf_Full_Lean)
    nf_Keep_Lean := (nf_Keep_Lean)
    nf_Dig_Lean := (nf_Dig_Lean)
    nf_Script_Lean := (nf_Script_Lean)
    s_Dig_Dig := (kit_self)
    s_Dig_File := (kit_rr2 ic_File tc_File ms_Dig s_Dig_File)
    s_Dig_Full := (kit_rr2 ic_Full tc_Full ms_Dig s_Dig_Full)
    s_Dig_Keep := (kit_rr2 ic_Keep tc_Keep ms_Dig s_Dig_Keep)
    s_Dig_Lean := (kit_rr2 ic_Lean tc_Lean ms_Dig s_Dig_Lean)
    s_Dig_Script := (kit_rr2 ic_Script tc_Script ms_Dig s_Dig_Script)
    s_Dig_Step := (kit_rr2 ic_Step tc_Step ms_Dig s_Dig_Step)
    si_Dig_bool := (s_Dig_bool)
    si_Dig_int := (s_Dig_int)
    si_Dig_list := (s_Dig_list)
    si_Dig_str := (s_Dig_str)
    nf_File_Dig := (nf_File_Dig)
    nf_Full_Dig := (nf_Full_Dig)
    nf_Keep_Dig := (nf_Keep_Dig)
    nf_Lean_Dig := (nf_Lean_Dig)
    nf_Script_Dig := (nf_Script_Dig)
    s_Script_Dig := (kit_rr2 ic_Dig tc_Dig ms_Script s_Script_Dig)
    s_Script_File := (kit_rr2 ic_File tc_File ms_Script s_Script_File)
    s_Script_Full := (kit_rr2 ic_Full tc_Full ms_Script s_Script_Full)
    s_Script_Keep := (kit_rr2 ic_Keep tc_Keep ms_Script s_Script_Keep)
    s_Script_Lean := (kit_rr2 ic_Lean tc_Lean ms_Script s_Script_Lean)
    s_Script_Script := (kit_self)
    s_Script_Step := (kit_rr2 ic_Step tc_Step ms_Script s_Script_Step)
    si_Script_bool := (s_Script_bool)
    si_Script_int := (s_Script_int)
    si_Script_list := (s_Script_list)
    si_Script_str := (s_Script_str)
    nf_File_Script := (nf_File_Script)
    nf_Full_Script := (nf_Full_Script)
    nf_Keep_Script := (nf_Keep_Script)
    nf_Lean_Script := (nf_Lean_Script)
    nf_Dig_Script := (nf_Dig_Script)
    C_InvalidFile := (C_InvalidFile)
    I_InvalidFile := (I_InvalidFile)
    mc_InvalidFile := (PySem.W.mg_of X G ac_InvalidFile)
    S_InvalidFile := ({ T := ⟨⟨nm_InvalidFile, q_InvalidFile, NN_InvalidFile, bs_InvalidFile, _, sn_InvalidFile, sub_InvalidFile, ab_InvalidFile, col_InvalidFile, dd_InvalidFile, m0_InvalidFile, m1_InvalidFile, m2_InvalidFile, m3_InvalidFile, m5_InvalidFile, xL_InvalidFile, by first | rfl | decide +kernel⟩, sa_InvalidFile, eC_InvalidFile, tC_InvalidFile, kC_InvalidFile⟩, iC := i_InvalidFile, tI := t_InvalidFile, nf := nb_InvalidFile, al := al_InvalidFile, sV := sV_InvalidFile, sC := sC_InvalidFile, op := zop, tp := by decide +kernel, ne := by decide, nd := by decide, fn := ⟨oc_InvalidFile, od_InvalidFile, sl_InvalidFile, "__init__", "InvalidFile.__init__", defArgs si_InvalidFile, defScope si_InvalidFile, .ref T_InvalidFile, kV_InvalidFile, dc_InvalidFile, pm_InvalidFile, an_InvalidFile, cda_InvalidFile, ct_InvalidFile, cc_InvalidFile, ⟨10, 8, 10, 13⟩, ⟨10, 8, 10, 15⟩, ⟨10, 8, 10, 24⟩, ⟨10, 25, 10, 30⟩, ⟨10, 8, 10, 31⟩, ⟨10, 8, 10, 31⟩, ⟨11, 8, 11, 12⟩, ⟨11, 8, 11, 18⟩, ⟨11, 21, 11, 26⟩, ⟨11, 8, 11, 26⟩, { arg := "self", annotation := none, pos := ⟨9, 17, 9, 21⟩ }, ccl_InvalidFile, cdd_InvalidFile, vs_InvalidFile, ccs_InvalidFile, file_InvalidFile, tf_InvalidFile, cl_InvalidFile, cld_InvalidFile, csl_InvalidFile, l_InvalidFile, cd_InvalidFile, by rfl, by rfl, by rfl, by rfl, by rfl, by decide +kernel, by rfl, by rfl, by rfl, by rfl, cr_InvalidFile, v2_InvalidFile, fl_InvalidFile, clc_InvalidFile, (fun s us X hl => match us, hl with | [_, _], _ => BindsTo.of_defaults (T := T_InvalidFile) rfl (X _ _ ld_InvalidFile) rfl rfl rfl), fun _ => ⟨_, rfl⟩⟩ })
    x_InvalidFile := (⟨ga_InvalidFile, gg_InvalidFile, eC_InvalidFile, hC_InvalidFile⟩)
    e_InvalidFile_InvalidFile := (exm_of eC_InvalidFile iC_InvalidFile tC_InvalidFile s_InvalidFile_InvalidFile)
    C_InvalidNumber := (C_InvalidNumber)
    I_InvalidNumber := (I_InvalidNumber)
    mc_InvalidNumber := (PySem.W.mg_of X G ac_InvalidNumber)
    S_InvalidNumber := ({ T := ⟨⟨nm_InvalidNumber, q_InvalidNumber, NN_InvalidNumber, bs_InvalidNumber, _, sn_InvalidNumber, sub_InvalidNumber, ab_InvalidNumber, col_InvalidNumber, dd_InvalidNumber, m0_InvalidNumber, m1_InvalidNumber, m2_InvalidNumber, m3_InvalidNumber, m5_InvalidNumber, xL_InvalidNumber, by first | rfl | decide +kernel⟩, sa_InvalidNumber, eC_InvalidNumber, tC_InvalidNumber, kC_InvalidNumber⟩, iC := i_InvalidNumber, tI := t_InvalidNumber, nf := nb_InvalidNumber, al := al_InvalidNumber, sV := sV_InvalidNumber, sC := sC_InvalidNumber, op := zop, tp := by decide +kernel, ne := by decide, nd := by decide, fn := ⟨oc_InvalidNumber, od_InvalidNumber, sl_InvalidNumber, "__init__", "InvalidNumber.__init__", defArgs si_InvalidNumber, defScope si_InvalidNumber, .ref T_InvalidNumber, kV_InvalidNumber, dc_InvalidNumber, pm_InvalidNumber, an_InvalidNumber, cda_InvalidNumber, ct_InvalidNumber, cc_InvalidNumber, ⟨15, 8, 15, 13⟩, ⟨15, 8, 15, 15⟩, ⟨15, 8, 15, 24⟩, ⟨15, 25, 15, 30⟩, ⟨15, 8, 15, 31⟩, ⟨15, 8, 15, 31⟩, ⟨16, 8, 16, 12⟩, ⟨16, 8, 16, 18⟩, ⟨16, 21, 16, 26⟩, ⟨16, 8, 16, 26⟩, { arg := "self", annotation := none, pos := ⟨14, 17, 14, 21⟩ }, ccl_InvalidNumber, cdd_InvalidNumber, vs_InvalidNumber, ccs_InvalidNumber, file_InvalidNumber, tf_InvalidNumber, cl_InvalidNumber, cld_InvalidNumber, csl_InvalidNumber, l_InvalidNumber, cd_InvalidNumber, by rfl, by rfl, by rfl, by rfl, by rfl, by decide +kernel, by rfl, by rfl, by rfl, by rfl, cr_InvalidNumber, v2_InvalidNumber, fl_InvalidNumber, clc_InvalidNumber, (fun s us X hl => match us, hl with | [_, _], _ => BindsTo.of_defaults (T := T_InvalidNumber) rfl (X _ _ ld_InvalidNumber) rfl rfl rfl), fun _ => ⟨_, rfl⟩⟩ })
    x_InvalidNumber := (⟨ga_InvalidNumber, gg_InvalidNumber, eC_InvalidNumber, hC_InvalidNumber⟩)
    e_InvalidNumber_InvalidNumber := (exm_of eC_InvalidNumber iC_InvalidNumber tC_InvalidNumber s_InvalidNumber_InvalidNumber)
    C_InvalidScript := (C_InvalidScript)
    I_InvalidScript := (I_InvalidScript)
    mc_InvalidScript := (PySem.W.mg_of X G ac_InvalidScript)
    S_InvalidScript := ({ T := ⟨⟨nm_InvalidScript, q_InvalidScript, NN_InvalidScript, bs_InvalidScript, _, sn_InvalidScript, sub_InvalidScript, ab_InvalidScript, col_InvalidScript, dd_InvalidScript, m0_InvalidScript, m1_InvalidScript, m2_InvalidScript, m3_InvalidScript, m5_InvalidScript, xL_InvalidScript, by first | rfl | decide +kernel⟩, sa_InvalidScript, eC_InvalidScript, tC_InvalidScript, kC_InvalidScript⟩, iC := i_InvalidScript, tI := t_InvalidScript, nf := nb_InvalidScript, al := al_InvalidScript, sV := sV_InvalidScript, sC := sC_InvalidScript, op := zop, tp := by decide +kernel, ne := by decide, nd := by decide, fn := ⟨oc_InvalidScript, od_InvalidScript, sl_InvalidScript, "__init__", "InvalidScript.__init__", defArgs si_InvalidScript, defScope si_InvalidScript, .ref T_InvalidScript, kV_InvalidScript, dc_InvalidScript, pm_InvalidScript, an_InvalidScript, cda_InvalidScript, ct_InvalidScript, cc_InvalidScript, ⟨20, 8, 20, 13⟩, ⟨20, 8, 20, 15⟩, ⟨20, 8, 20, 24⟩, ⟨20, 25, 20, 30⟩, ⟨20, 8, 20, 31⟩, ⟨20, 8, 20, 31⟩, ⟨21, 8, 21, 12⟩, ⟨21, 8, 21, 18⟩, ⟨21, 21, 21, 26⟩, ⟨21, 8, 21, 26⟩, { arg := "self", annotation := none, pos := ⟨19, 17, 19, 21⟩ }, ccl_InvalidScript, cdd_InvalidScript, vs_InvalidScript, ccs_InvalidScript, file_InvalidScript, tf_InvalidScript, cl_InvalidScript, cld_InvalidScript, csl_InvalidScript, l_InvalidScript, cd_InvalidScript, by rfl, by rfl, by rfl, by rfl, by rfl, by decide +kernel, by rfl, by rfl, by rfl, by rfl, cr_InvalidScript, v2_InvalidScript, fl_InvalidScript, clc_InvalidScript, (fun s us X hl => match us, hl with | [_, _], _ => BindsTo.of_defaults (T := T_InvalidScript) rfl (X _ _ ld_InvalidScript) rfl rfl rfl), fun _ => ⟨_, rfl⟩⟩ })
    x_InvalidScript := (⟨ga_InvalidScript, gg_InvalidScript, eC_InvalidScript, hC_InvalidScript⟩)
    e_InvalidScript_InvalidScript := (exm_of eC_InvalidScript iC_InvalidScript tC_InvalidScript s_InvalidScript_InvalidScript)
    e_InvalidFile_InvalidNumber := (exm_of eC_InvalidNumber iC_InvalidNumber tC_InvalidNumber s_InvalidFile_InvalidNumber)
    e_InvalidFile_InvalidScript := (exm_of eC_InvalidScript iC_InvalidScript tC_InvalidScript s_InvalidFile_InvalidScript)
    e_InvalidNumber_InvalidFile := (exm_of eC_InvalidFile iC_InvalidFile tC_InvalidFile s_InvalidNumber_InvalidFile)
    e_InvalidNumber_InvalidScript := (exm_of eC_InvalidScript iC_InvalidScript tC_InvalidScript s_InvalidNumber_InvalidScript)
    e_InvalidScript_InvalidFile := (exm_of eC_InvalidFile iC_InvalidFile tC_InvalidFile s_InvalidScript_InvalidFile)
    e_InvalidScript_InvalidNumber := (exm_of eC_InvalidNumber iC_InvalidNumber tC_InvalidNumber s_InvalidScript_InvalidNumber) }
  exact ⟨R.d_law, fun s v => .of_eq rfl, fun base _ _ => ok_law R⟩
theorem walk {q : Program} {loose : List Str} {XP : (Str → Option Value) → Heap → Prop} {YP : World → Heap → Prop} {d : DefRec} {K : Params → Frag} (hdf : d.params.defaults = [])
    (hY : ∀ (w : World) (h : Heap), YP w h → (K w.params).In h)
    (F : ∀ (w : World) (mg : Str → Option Value) (fa : Addr) (h : Heap), (K w.params).In h → h.Ns mainGlobals mg → mg d.name = some (.ref fa) →
      ∃ fd : FuncData, (∀ (s : Shared) (u : Value), BindsTo s fd ⟨[u], []⟩ [("script", u)]) ∧ ∀ base : Heap, (K w.params).In base → base.Ns mainGlobals mg → FnOk PySem.Challenge.rw_keptholes_k05_steps_made.prog w (K w.params) mg base CX0 6 fa fd ["script"] (toSp (K w.params) spLaw)) :
    PySem.W.WalkO q loose XP YP PySem.Challenge.rw_keptholes_k05_steps_made.row.toRowW d [] (fun f vs => PySem.call f vs) :=
  L2.walk_of (l := PySem.Challenge.rw_keptholes_k05_steps_made) (n := 63) (k := 6) (x := "script") (CX := fun _ => CX0) (sp := fun w => toSp (K w.params) spLaw) rfl (by decide) hdf ⟨rfl, by decide, by decide⟩ hY F
    (fun w H a ns hl _ hS => law_sp hl hS) fun _ _ _ _ _ z => z
end Kh
open PySem PySem.W PyProof.Rows in
set_option maxRecDepth 100000 in
set_option maxHeartbeats 0 in
theorem PySem.Challenge.cw_keptholes_k05_steps_made_holds : PySem.Challenge.rw_keptholes_k05_steps_made.Holds := by
  w_on; o_law; k_head; (case hw => w_witness2)
  k_fill
  refine Kh.walk rfl (fun w h Y => PySem.W.kIn_of Y) ?F
  case F =>
    intro w mg fa h KX G hmg
    refine' Kh.all_mk KX G hmg ?z_ValueError ?z_bool ?z_enumerate ?z_int ?z_isinstance ?z_iter ?z_len ?z_list ?z_property ?z_range ?z_str ?z_sum ?z_super ?z_tuple ?g_SIGNS ?ac_File ?ac_Step ?ac_Full ?ac_Keep ?ac_Lean ?ac_Dig ?ac_Script ?a_is_whole ?l_is_whole ?c_is_whole ?k_is_whole ?a_check_least ?l_check_least ?c_check_least ?k_check_least ?a_check_within ?l_check_within ?c_check_within ?k_check_within ?a_are_cells ?l_are_cells ?c_are_cells ?k_are_cells ?a_are_steps ?l_are_steps ?c_are_steps ?k_are_steps ?a_law_purse ?l_law_purse ?c_law_purse ?k_law_purse ?a_law_draw ?l_law_draw ?c_law_draw ?k_law_draw ?a_law_refused ?l_law_refused ?c_law_refused ?k_law_refused ?a_law_kinds ?l_law_kinds ?c_law_kinds ?k_law_kinds ?a_law ?l_law ?c_law ?k_law ?a_File_init ?i_File_init ?l_File_init ?c_File_init ?k_File_init ?ld_File_init ?pa_File_cells ?pb_File_cells ?pc_File_cells ?pd_File_cells ?l_File_cells ?c_File_cells ?k_File_cells ?a_File_len ?i_File_len ?l_File_len ?c_File_len ?k_File_len ?a_File_iter ?i_File_iter ?l_File_iter ?c_File_iter ?k_File_iter ?a_File_getitem ?i_File_getitem ?l_File_getitem ?c_File_getitem ?k_File_getitem ?a_File_eq ?i_File_eq ?l_File_eq ?c_File_eq ?k_File_eq ?a_Full_eq ?i_Full_eq ?l_Full_eq ?c_Full_eq ?k_Full_eq ?a_Keep_init ?i_Keep_init ?l_Keep_init ?c_Keep_init ?k_Keep_init ?pa_Keep_size ?pb_Keep_size ?pc_Keep_size ?pd_Keep_size ?l_Keep_size ?c_Keep_size ?k_Keep_size ?a_Keep_eq ?i_Keep_eq ?l_Keep_eq ?c_Keep_eq ?k_Keep_eq ?a_Lean_init ?i_Lean_init ?l_Lean_init ?c_Lean_init ?k_Lean_init ?pa_Lean_size ?pb_Lean_size ?pc_Lean_size ?pd_Lean_size ?l_Lean_size ?c_Lean_size ?k_Lean_size ?a_Lean_eq ?i_Lean_eq ?l_Lean_eq ?c_Lean_eq ?k_Lean_eq ?a_Dig_init ?i_Dig_init ?l_Dig_init ?c_Dig_init ?k_Dig_init ?pa_Dig_size ?pb_Dig_size ?pc_Dig_size ?pd_Dig_size ?l_Dig_size ?c_Dig_size ?k_Dig_size ?a_Dig_eq ?i_Dig_eq ?l_Dig_eq ?c_Dig_eq ?k_Dig_eq ?a_Script_init ?i_Script_init ?l_Script_init ?c_Script_init ?k_Script_init ?ld_Script_init ?a_Script_len ?i_Script_len ?l_Script_len ?c_Script_len ?k_Script_len ?a_Script_iter ?i_Script_iter ?l_Script_iter ?c_Script_iter ?k_Script_iter ?a_Script_getitem ?i_Script_getitem ?l_Script_getitem ?c_Script_getitem ?k_Script_getitem ?a_Script_eq ?i_Script_eq ?l_Script_eq ?c_Script_eq ?k_Script_eq ?a_Script_add ?i_Script_add ?l_Script_add ?c_Script_add ?k_Script_add ?a_Script_mul ?i_Script_mul ?l_Script_mul ?c_Script_mul ?k_Script_mul ?a_Script_without ?i_Script_without ?l_Script_without ?c_Script_without ?k_Script_without ?ohn ?otk ?pg_File ?hd_File ?po_File ?sa_File ?ha_File ?mr_File ?ms_File ?mk_File ?kc_File ?na_File_row ?pg_Step ?hd_Step ?po_Step ?sa_Step ?ha_Step ?mr_Step ?ms_Step ?mk_Step ?kc_Step ?ii_Step ?pg_Full ?hd_Full ?po_Full ?sa_Full ?ha_Full ?mr_Full ?ms_Full ?mk_Full ?kc_Full ?ii_Full ?pg_Keep ?hd_Keep ?po_Keep ?sa_Keep ?ha_Keep ?mr_Keep ?ms_Keep ?mk_Keep ?kc_Keep ?na_Keep_wide ?pg_Lean ?hd_Lean ?po_Lean ?sa_Lean ?ha_Lean ?mr_Lean ?ms_Lean ?mk_Lean ?kc_Lean ?na_Lean_wide ?pg_Dig ?hd_Dig ?po_Dig ?sa_Dig ?ha_Dig ?mr_Dig ?ms_Dig ?mk_Dig ?kc_Dig ?na_Dig_wide ?pg_Script ?hd_Script ?po_Script ?sa_Script ?ha_Script ?mr_Script ?ms_Script ?mk_Script ?kc_Script ?na_Script_rows ?ic_Dig ?tc_Dig ?ic_File ?tc_File ?ic_Full ?tc_Full ?ic_Keep ?tc_Keep ?ic_Lean ?tc_Lean ?ic_Script ?tc_Script ?ic_Step ?tc_Step ?s_File_Dig ?s_File_Full ?s_File_Keep ?s_File_Lean ?s_File_Script ?s_File_Step ?s_File_bool ?s_File_int ?s_File_list ?s_File_str ?nf_Full_File ?nf_Keep_File ?nf_Lean_File ?nf_Dig_File ?nf_Script_File ?s_Step_Dig ?s_Step_File ?s_Step_Full ?s_Step_Keep ?s_Step_Lean ?s_Step_Script ?s_Step_bool ?s_Step_int ?s_Step_list ?s_Step_str ?nf_File_Step ?nf_Full_Step ?nf_Keep_Step ?nf_Lean_Step ?nf_Dig_Step ?nf_Script_Step ?s_Full_Dig ?s_Full_File ?s_Full_Keep ?s_Full_Lean ?s_Full_Script ?s_Full_Step ?s_Full_bool ?s_Full_int ?s_Full_list ?s_Full_str ?nf_File_Full ?nf_Keep_Full ?nf_Lean_Full ?nf_Dig_Full ?nf_Script_Full ?s_Keep_Dig ?s_Keep_File ?s_Keep_Full ?s_Keep_Lean ?s_Keep_Script ?s_Keep_Step ?s_Keep_bool ?s_Keep_int ?s_Keep_list ?s_Keep_str ?nf_File_Keep ?nf_Full_Keep ?nf_Lean_Keep ?nf_Dig_Keep ?nf_Script_Keep ?s_Lean_Dig ?s_Lean_File ?s_Lean_Full ?s_Lean_Keep ?s_Lean_Script ?s_Lean_Step ?s_Lean_bool ?s_Lean_int ?s_Lean_list ?s_Lean_str ?nf_File_Lean ?nf_Full_Lean ?nf_Keep_Lean ?nf_Dig_Lean ?nf_Script_Lean ?s_Dig_File ?s_Dig_Full ?s_Dig_Keep ?s_Dig_Lean ?s_Dig_Script ?s_Dig_Step ?s_Dig_bool ?s_Dig_int ?s_Dig_list ?s_Dig_str ?nf_File_Dig ?nf_Full_Dig ?nf_Keep_Dig ?nf_Lean_Dig ?nf_Script_Dig ?s_Script_Dig ?s_Script_File ?s_Script_Full ?s_Script_Keep ?s_Script_Lean ?s_Script_Step ?s_Script_bool ?s_Script_int ?s_Script_list ?s_Script_str ?nf_File_Script ?nf_Full_Script ?nf_Keep_Script ?nf_Lean_Script ?nf_Dig_Script ?zop ?ac_InvalidFile ?ac_HoleError ?xL_InvalidFile ?sa_InvalidFile ?ga_InvalidFile ?gg_InvalidFile ?nb_InvalidFile ?i_InvalidFile ?t_InvalidFile ?l_InvalidFile ?ld_InvalidFile ?cd_InvalidFile ?cr_InvalidFile ?v2_InvalidFile ?fl_InvalidFile ?clc_InvalidFile ?al_InvalidFile ?sV_InvalidFile ?eC_InvalidFile ?sC_InvalidFile ?kC_InvalidFile ?tC_InvalidFile ?hC_InvalidFile ?iC_InvalidFile ?s_InvalidFile_InvalidFile ?ac_InvalidNumber ?xL_InvalidNumber ?sa_InvalidNumber ?ga_InvalidNumber ?gg_InvalidNumber ?nb_InvalidNumber ?i_InvalidNumber ?t_InvalidNumber ?l_InvalidNumber ?ld_InvalidNumber ?cd_InvalidNumber ?cr_InvalidNumber ?v2_InvalidNumber ?fl_InvalidNumber ?clc_InvalidNumber ?al_InvalidNumber ?sV_InvalidNumber ?eC_InvalidNumber ?sC_InvalidNumber ?kC_InvalidNumber ?tC_InvalidNumber ?hC_InvalidNumber ?iC_InvalidNumber ?s_InvalidNumber_InvalidNumber ?ac_InvalidScript ?xL_InvalidScript ?sa_InvalidScript ?ga_InvalidScript ?gg_InvalidScript ?nb_InvalidScript ?i_InvalidScript ?t_InvalidScript ?l_InvalidScript ?ld_InvalidScript ?cd_InvalidScript ?cr_InvalidScript ?v2_InvalidScript ?fl_InvalidScript ?clc_InvalidScript ?al_InvalidScript ?sV_InvalidScript ?eC_InvalidScript ?sC_InvalidScript ?kC_InvalidScript ?tC_InvalidScript ?hC_InvalidScript ?iC_InvalidScript ?s_InvalidScript_InvalidScript ?s_InvalidFile_InvalidNumber ?s_InvalidFile_InvalidScript ?s_InvalidNumber_InvalidFile ?s_InvalidNumber_InvalidScript ?s_InvalidScript_InvalidFile ?s_InvalidScript_InvalidNumber

    (case z_ValueError => k_is)
    (case z_bool => k_is)
    (case z_enumerate => k_is)
    (case z_int => k_is)
    (case z_isinstance => k_is)
    (case z_iter => k_is)
    (case z_len => k_is)
    (case z_list => k_is)
    (case z_property => k_is)
    (case z_range => k_is)
    (case z_str => k_is)
    (case z_sum => k_is)
    (case z_super => k_is)
    (case z_tuple => k_is)
    (case g_SIGNS => k_is)
    (case ac_File => k_is)
    (case ac_Step => k_is)
    (case ac_Full => k_is)
    (case ac_Keep => k_is)
    (case ac_Lean => k_is)
    (case ac_Dig => k_is)
    (case ac_Script => k_is)
    (case a_is_whole => k_is)
    (case l_is_whole => k_is)
    (case c_is_whole => k_is)
    (case k_is_whole => k_is)
    (case a_check_least => k_is)
    (case l_check_least => k_is)
    (case c_check_least => k_is)
    (case k_check_least => k_is)
    (case a_check_within => k_is)
    (case l_check_within => k_is)
    (case c_check_within => k_is)
    (case k_check_within => k_is)
    (case a_are_cells => k_is)
    (case l_are_cells => k_is)
    (case c_are_cells => k_is)
    (case k_are_cells => k_is)
    (case a_are_steps => k_is)
    (case l_are_steps => k_is)
    (case c_are_steps => k_is)
    (case k_are_steps => k_is)
    (case a_law_purse => k_is)
    (case l_law_purse => k_is)
    (case c_law_purse => k_is)
    (case k_law_purse => k_is)
    (case a_law_draw => k_is)
    (case l_law_draw => k_is)
    (case c_law_draw => k_is)
    (case k_law_draw => k_is)
    (case a_law_refused => k_is)
    (case l_law_refused => k_is)
    (case c_law_refused => k_is)
    (case k_law_refused => k_is)
    (case a_law_kinds => k_is)
    (case l_law_kinds => k_is)
    (case c_law_kinds => k_is)
    (case k_law_kinds => k_is)
    (case a_law => k_is)
    (case l_law => k_is)
    (case c_law => k_is)
    (case k_law => k_is)
    (case a_File_init => k_is)
    (case i_File_init => k_is)
    (case l_File_init => k_is)
    (case c_File_init => k_is)
    (case k_File_init => k_is)
    (case ld_File_init => k_is)
    (case pa_File_cells => k_is)
    (case pb_File_cells => k_is)
    (case pc_File_cells => k_is)
    (case pd_File_cells => k_is)
    (case l_File_cells => k_is)
    (case c_File_cells => k_is)
    (case k_File_cells => k_is)
    (case a_File_len => k_is)
    (case i_File_len => k_is)
    (case l_File_len => k_is)
    (case c_File_len => k_is)
    (case k_File_len => k_is)
    (case a_File_iter => k_is)
    (case i_File_iter => k_is)
    (case l_File_iter => k_is)
    (case c_File_iter => k_is)
    (case k_File_iter => k_is)
    (case a_File_getitem => k_is)
    (case i_File_getitem => k_is)
    (case l_File_getitem => k_is)
    (case c_File_getitem => k_is)
    (case k_File_getitem => k_is)
    (case a_File_eq => k_is)
    (case i_File_eq => k_is)
    (case l_File_eq => k_is)
    (case c_File_eq => k_is)
    (case k_File_eq => k_is)
    (case a_Full_eq => k_is)
    (case i_Full_eq => k_is)
    (case l_Full_eq => k_is)
    (case c_Full_eq => k_is)
    (case k_Full_eq => k_is)
    (case a_Keep_init => k_is)
    (case i_Keep_init => k_is)
    (case l_Keep_init => k_is)
    (case c_Keep_init => k_is)
    (case k_Keep_init => k_is)
    (case pa_Keep_size => k_is)
    (case pb_Keep_size => k_is)
    (case pc_Keep_size => k_is)
    (case pd_Keep_size => k_is)
    (case l_Keep_size => k_is)
    (case c_Keep_size => k_is)
    (case k_Keep_size => k_is)
    (case a_Keep_eq => k_is)
    (case i_Keep_eq => k_is)
    (case l_Keep_eq => k_is)
    (case c_Keep_eq => k_is)
    (case k_Keep_eq => k_is)
    (case a_Lean_init => k_is)
    (case i_Lean_init => k_is)
    (case l_Lean_init => k_is)
    (case c_Lean_init => k_is)
    (case k_Lean_init => k_is)
    (case pa_Lean_size => k_is)
    (case pb_Lean_size => k_is)
    (case pc_Lean_size => k_is)
    (case pd_Lean_size => k_is)
    (case l_Lean_size => k_is)
    (case c_Lean_size => k_is)
    (case k_Lean_size => k_is)
    (case a_Lean_eq => k_is)
    (case i_Lean_eq => k_is)
    (case l_Lean_eq => k_is)
    (case c_Lean_eq => k_is)
    (case k_Lean_eq => k_is)
    (case a_Dig_init => k_is)
    (case i_Dig_init => k_is)
    (case l_Dig_init => k_is)
    (case c_Dig_init => k_is)
    (case k_Dig_init => k_is)
    (case pa_Dig_size => k_is)
    (case pb_Dig_size => k_is)
    (case pc_Dig_size => k_is)
    (case pd_Dig_size => k_is)
    (case l_Dig_size => k_is)
    (case c_Dig_size => k_is)
    (case k_Dig_size => k_is)
    (case a_Dig_eq => k_is)
    (case i_Dig_eq => k_is)
    (case l_Dig_eq => k_is)
    (case c_Dig_eq => k_is)
    (case k_Dig_eq => k_is)
    (case a_Script_init => k_is)
    (case i_Script_init => k_is)
    (case l_Script_init => k_is)
    (case c_Script_init => k_is)
    (case k_Script_init => k_is)
    (case ld_Script_init => k_is)
    (case a_Script_len => k_is)
    (case i_Script_len => k_is)
    (case l_Script_len => k_is)
    (case c_Script_len => k_is)
    (case k_Script_len => k_is)
    (case a_Script_iter => k_is)
    (case i_Script_iter => k_is)
    (case l_Script_iter => k_is)
    (case c_Script_iter => k_is)
    (case k_Script_iter => k_is)
    (case a_Script_getitem => k_is)
    (case i_Script_getitem => k_is)
    (case l_Script_getitem => k_is)
    (case c_Script_getitem => k_is)
    (case k_Script_getitem => k_is)
    (case a_Script_eq => k_is)
    (case i_Script_eq => k_is)
    (case l_Script_eq => k_is)
    (case c_Script_eq => k_is)
    (case k_Script_eq => k_is)
    (case a_Script_add => k_is)
    (case i_Script_add => k_is)
    (case l_Script_add => k_is)
    (case c_Script_add => k_is)
    (case k_Script_add => k_is)
    (case a_Script_mul => k_is)
    (case i_Script_mul => k_is)
    (case l_Script_mul => k_is)
    (case c_Script_mul => k_is)
    (case k_Script_mul => k_is)
    (case a_Script_without => k_is)
    (case i_Script_without => k_is)
    (case l_Script_without => k_is)
    (case c_Script_without => k_is)
    (case k_Script_without => k_is)
    (case ohn => first | k_is | rfl | kernel_rfl)
    (case otk => first | k_is | rfl | kernel_rfl)
    (case pg_File => k_is)
    (case hd_File => k_is)
    (case po_File => k_is)
    (case sa_File => k_is)
    (case ha_File => k_is)
    (case mr_File => first | k_is | kernel_rfl | rfl)
    (case ms_File => first | k_is | kernel_rfl | rfl)
    (case mk_File => k_is)
    (case kc_File => k_is)
    (case na_File_row => k_is)
    (case pg_Step => k_is)
    (case hd_Step => k_is)
    (case po_Step => k_is)
    (case sa_Step => k_is)
    (case ha_Step => k_is)
    (case mr_Step => first | k_is | kernel_rfl | rfl)
    (case ms_Step => first | k_is | kernel_rfl | rfl)
    (case mk_Step => k_is)
    (case kc_Step => k_is)
    (case ii_Step => k_is)
    (case pg_Full => k_is)
    (case hd_Full => k_is)
    (case po_Full => k_is)
    (case sa_Full => k_is)
    (case ha_Full => k_is)
    (case mr_Full => first | k_is | kernel_rfl | rfl)
    (case ms_Full => first | k_is | kernel_rfl | rfl)
    (case mk_Full => k_is)
    (case kc_Full => k_is)
    (case ii_Full => k_is)
    (case pg_Keep => k_is)
    (case hd_Keep => k_is)
    (case po_Keep => k_is)
    (case sa_Keep => k_is)
    (case ha_Keep => k_is)
    (case mr_Keep => first | k_is | kernel_rfl | rfl)
    (case ms_Keep => first | k_is | kernel_rfl | rfl)
    (case mk_Keep => k_is)
    (case kc_Keep => k_is)
    (case na_Keep_wide => k_is)
    (case pg_Lean => k_is)
    (case hd_Lean => k_is)
    (case po_Lean => k_is)
    (case sa_Lean => k_is)
    (case ha_Lean => k_is)
    (case mr_Lean => first | k_is | kernel_rfl | rfl)
    (case ms_Lean => first | k_is | kernel_rfl | rfl)
    (case mk_Lean => k_is)
    (case kc_Lean => k_is)
    (case na_Lean_wide => k_is)
    (case pg_Dig => k_is)
    (case hd_Dig => k_is)
    (case po_Dig => k_is)
    (case sa_Dig => k_is)
    (case ha_Dig => k_is)
    (case mr_Dig => first | k_is | kernel_rfl | rfl)
    (case ms_Dig => first | k_is | kernel_rfl | rfl)
    (case mk_Dig => k_is)
    (case kc_Dig => k_is)
    (case na_Dig_wide => k_is)
    (case pg_Script => k_is)
    (case hd_Script => k_is)
    (case po_Script => k_is)
    (case sa_Script => k_is)
    (case ha_Script => k_is)
    (case mr_Script => first | k_is | kernel_rfl | rfl)
    (case ms_Script => first | k_is | kernel_rfl | rfl)
    (case mk_Script => k_is)
    (case kc_Script => k_is)
    (case na_Script_rows => k_is)
    (case ic_Dig => k_is)
    (case tc_Dig => k_is)
    (case ic_File => k_is)
    (case tc_File => k_is)
    (case ic_Full => k_is)
    (case tc_Full => k_is)
    (case ic_Keep => k_is)
    (case tc_Keep => k_is)
    (case ic_Lean => k_is)
    (case tc_Lean => k_is)
    (case ic_Script => k_is)
    (case tc_Script => k_is)
    (case ic_Step => k_is)
    (case tc_Step => k_is)
    (case s_File_Dig => k_is)
    (case s_File_Full => k_is)
    (case s_File_Keep => k_is)
    (case s_File_Lean => k_is)
    (case s_File_Script => k_is)
    (case s_File_Step => k_is)
    (case s_File_bool => k_is)
    (case s_File_int => k_is)
    (case s_File_list => k_is)
    (case s_File_str => k_is)
    (case nf_Full_File => first | k_is | kernel_rfl | rfl)
    (case nf_Keep_File => first | k_is | kernel_rfl | rfl)
    (case nf_Lean_File => first | k_is | kernel_rfl | rfl)
    (case nf_Dig_File => first | k_is | kernel_rfl | rfl)
    (case nf_Script_File => first | k_is | kernel_rfl | rfl)
    (case s_Step_Dig => k_is)
    (case s_Step_File => k_is)
    (case s_Step_Full => k_is)
    (case s_Step_Keep => k_is)
    (case s_Step_Lean => k_is)
    (case s_Step_Script => k_is)
    (case s_Step_bool => k_is)
    (case s_Step_int => k_is)
    (case s_Step_list => k_is)
    (case s_Step_str => k_is)
    (case nf_File_Step => first | k_is | kernel_rfl | rfl)
    (case nf_Full_Step => first | k_is | kernel_rfl | rfl)
    (case nf_Keep_Step => first | k_is | kernel_rfl | rfl)
    (case nf_Lean_Step => first | k_is | kernel_rfl | rfl)
    (case nf_Dig_Step => first | k_is | kernel_rfl | rfl)
    (case nf_Script_Step => first | k_is | kernel_rfl | rfl)
    (case s_Full_Dig => k_is)
    (case s_Full_File => k_is)
    (case s_Full_Keep => k_is)
    (case s_Full_Lean => k_is)
    (case s_Full_Script => k_is)
    (case s_Full_Step => k_is)
    (case s_Full_bool => k_is)
    (case s_Full_int => k_is)
    (case s_Full_list => k_is)
    (case s_Full_str => k_is)
    (case nf_File_Full => first | k_is | kernel_rfl | rfl)
    (case nf_Keep_Full => first | k_is | kernel_rfl | rfl)
    (case nf_Lean_Full => first | k_is | kernel_rfl | rfl)
    (case nf_Dig_Full => first | k_is | kernel_rfl | rfl)
    (case nf_Script_Full => first | k_is | kernel_rfl | rfl)
    (case s_Keep_Dig => k_is)
    (case s_Keep_File => k_is)
    (case s_Keep_Full => k_is)
    (case s_Keep_Lean => k_is)
    (case s_Keep_Script => k_is)
    (case s_Keep_Step => k_is)
    (case s_Keep_bool => k_is)
    (case s_Keep_int => k_is)
    (case s_Keep_list => k_is)
    (case s_Keep_str => k_is)
    (case nf_File_Keep => first | k_is | kernel_rfl | rfl)
    (case nf_Full_Keep => first | k_is | kernel_rfl | rfl)
    (case nf_Lean_Keep => first | k_is | kernel_rfl | rfl)
    (case nf_Dig_Keep => first | k_is | kernel_rfl | rfl)
    (case nf_Script_Keep => first | k_is | kernel_rfl | rfl)
    (case s_Lean_Dig => k_is)
    (case s_Lean_File => k_is)
    (case s_Lean_Full => k_is)
    (case s_Lean_Keep => k_is)
    (case s_Lean_Script => k_is)
    (case s_Lean_Step => k_is)
    (case s_Lean_bool => k_is)
    (case s_Lean_int => k_is)
    (case s_Lean_list => k_is)
    (case s_Lean_str => k_is)
    (case nf_File_Lean => first | k_is | kernel_rfl | rfl)
    (case nf_Full_Lean => first | k_is | kernel_rfl | rfl)
    (case nf_Keep_Lean => first | k_is | kernel_rfl | rfl)
    (case nf_Dig_Lean => first | k_is | kernel_rfl | rfl)
    (case nf_Script_Lean => first | k_is | kernel_rfl | rfl)
    (case s_Dig_File => k_is)
    (case s_Dig_Full => k_is)
    (case s_Dig_Keep => k_is)
    (case s_Dig_Lean => k_is)
    (case s_Dig_Script => k_is)
    (case s_Dig_Step => k_is)
    (case s_Dig_bool => k_is)
    (case s_Dig_int => k_is)
    (case s_Dig_list => k_is)
    (case s_Dig_str => k_is)
    (case nf_File_Dig => first | k_is | kernel_rfl | rfl)
    (case nf_Full_Dig => first | k_is | kernel_rfl | rfl)
    (case nf_Keep_Dig => first | k_is | kernel_rfl | rfl)
    (case nf_Lean_Dig => first | k_is | kernel_rfl | rfl)
    (case nf_Script_Dig => first | k_is | kernel_rfl | rfl)
    (case s_Script_Dig => k_is)
    (case s_Script_File => k_is)
    (case s_Script_Full => k_is)
    (case s_Script_Keep => k_is)
    (case s_Script_Lean => k_is)
    (case s_Script_Step => k_is)
    (case s_Script_bool => k_is)
    (case s_Script_int => k_is)
    (case s_Script_list => k_is)
    (case s_Script_str => k_is)
    (case nf_File_Script => first | k_is | kernel_rfl | rfl)
    (case nf_Full_Script => first | k_is | kernel_rfl | rfl)
    (case nf_Keep_Script => first | k_is | kernel_rfl | rfl)
    (case nf_Lean_Script => first | k_is | kernel_rfl | rfl)
    (case nf_Dig_Script => first | k_is | kernel_rfl | rfl)
    (case zop => k_is)
    (case ac_InvalidFile => k_is)
    (case ac_HoleError => k_is)
    (case xL_InvalidFile => k_is)
    (case sa_InvalidFile => k_is)
    (case ga_InvalidFile => k_is)
    (case gg_InvalidFile => k_is)
    (case nb_InvalidFile => k_is)
    (case i_InvalidFile => k_is)
    (case t_InvalidFile => k_is)
    (case l_InvalidFile => k_is)
    (case ld_InvalidFile => k_is)
    (case cd_InvalidFile => k_is)
    (case cr_InvalidFile => k_is)
    (case v2_InvalidFile => rfl)
    (case fl_InvalidFile => first | rfl | decide +kernel)
    (case clc_InvalidFile => k_is)
    (case al_InvalidFile => first | k_is | ks_is | kernel_rfl)
    (case sV_InvalidFile => k_is)
    (case eC_InvalidFile => k_is)
    (case sC_InvalidFile => first | k_is | kernel_rfl | rfl)
    (case kC_InvalidFile => k_is)
    (case tC_InvalidFile => k_is)
    (case hC_InvalidFile => k_is)
    (case iC_InvalidFile => k_is)
    (case s_InvalidFile_InvalidFile => first | rfl | k_is)
    (case ac_InvalidNumber => k_is)
    (case xL_InvalidNumber => k_is)
    (case sa_InvalidNumber => k_is)
    (case ga_InvalidNumber => k_is)
    (case gg_InvalidNumber => k_is)
    (case nb_InvalidNumber => k_is)
    (case i_InvalidNumber => k_is)
    (case t_InvalidNumber => k_is)
    (case l_InvalidNumber => k_is)
    (case ld_InvalidNumber => k_is)
    (case cd_InvalidNumber => k_is)
    (case cr_InvalidNumber => k_is)
    (case v2_InvalidNumber => rfl)
    (case fl_InvalidNumber => first | rfl | decide +kernel)
    (case clc_InvalidNumber => k_is)
    (case al_InvalidNumber => first | k_is | ks_is | kernel_rfl)
    (case sV_InvalidNumber => k_is)
    (case eC_InvalidNumber => k_is)
    (case sC_InvalidNumber => first | k_is | kernel_rfl | rfl)
    (case kC_InvalidNumber => k_is)
    (case tC_InvalidNumber => k_is)
    (case hC_InvalidNumber => k_is)
    (case iC_InvalidNumber => k_is)
    (case s_InvalidNumber_InvalidNumber => first | rfl | k_is)
    (case ac_InvalidScript => k_is)
    (case xL_InvalidScript => k_is)
    (case sa_InvalidScript => k_is)
    (case ga_InvalidScript => k_is)
    (case gg_InvalidScript => k_is)
    (case nb_InvalidScript => k_is)
    (case i_InvalidScript => k_is)
    (case t_InvalidScript => k_is)
    (case l_InvalidScript => k_is)
    (case ld_InvalidScript => k_is)
    (case cd_InvalidScript => k_is)
    (case cr_InvalidScript => k_is)
    (case v2_InvalidScript => rfl)
    (case fl_InvalidScript => first | rfl | decide +kernel)
    (case clc_InvalidScript => k_is)
    (case al_InvalidScript => first | k_is | ks_is | kernel_rfl)
    (case sV_InvalidScript => k_is)
    (case eC_InvalidScript => k_is)
    (case sC_InvalidScript => first | k_is | kernel_rfl | rfl)
    (case kC_InvalidScript => k_is)
    (case tC_InvalidScript => k_is)
    (case hC_InvalidScript => k_is)
    (case iC_InvalidScript => k_is)
    (case s_InvalidScript_InvalidScript => first | rfl | k_is)
    (case s_InvalidFile_InvalidNumber => k_is)
    (case s_InvalidFile_InvalidScript => k_is)
    (case s_InvalidNumber_InvalidFile => k_is)
    (case s_InvalidNumber_InvalidScript => k_is)
    (case s_InvalidScript_InvalidFile => k_is)
    (case s_InvalidScript_InvalidNumber => k_is)

