import PyProof.Rows.All
import Wide.All
import OpenK.AllK
import Wide.FinOn
import HandS.ForMost
import HandS.ForExc
import HandS.Property
import HandS.CallSlots
import HandS.Walk
import HandS.IsInst
import HandS.Wide
import HandS.WideBits
import HandS.ReplaceLit
import HandS.ReplaceList
import HandS.ExcInit
import HandS.ExcField
import HandS.ExcSuper
import KE.KExcSuper
import HandS.Style
import HandS.Dict
import HandS.More
import PyProof.NeKinds
import HandS.Text
import HandS.StrMore
import PyProof.Draws
import PyProof.EnumMake
import OpenK.KOps
import OpenK.KMeth
import KE.KOpsOwn
import KE.KFmtOwn
import PyProof.FactsAll.object_2
import PyProof.SliceStr2
import HandS.IterVal
import KE.KOwnIter
import PyProof.ListStr
import HandS.TryMany
import PyProof.LongRange
import HandS.TupAny
import HandS.TupSets
import HandS.OwnEq
import HandS.Defaults
import HandS.Deep
import HandS.Conv
import HandS.SortInts
import KE.SortData
import HandS.Zip
import HandS.SetFor
import HandS.Strs
import PySem.Challenge.RW_keptholes_k15_refused_reasons
import KE.OsRunLaw
set_option Elab.async false
set_option linter.all false
set_option maxRecDepth 100000
set_option maxHeartbeats 1000000
namespace Kh
open PySem PySem.Spec L2

/-! ### data as trees -/
inductive Dat where
  | non | bl (b : Bool) | int (i : Int) | str (s : Str) | raw (v : V)
  | dic0 | scr (ns : List Int) | lst (xs : List Dat) | tup (xs : List Dat) | obj (C : Addr) (ns : List Str) (xs : List Dat)
  | xn (a dd : Addr) (ns : List Str) (xs : List Dat)
  | at (a : Addr) (d : Dat)

theorem Same.tpl {K : PySem.W.Frag} {H H' : Hp} {a : Addr} {xs : List V} (e : Same H H') (h : SqT K H a xs) : SqT K H' a xs := by
  rcases h with (h | ⟨o, h⟩) | h
  · exact .inl (.inl (e _ _ h))
  · exact .inl (.inr ⟨o, e _ _ h⟩)
  · exact .inr h

mutual
def Den (K : PySem.W.Frag) (G : Hp) : Dat → V → Prop
  | .non, v => v = .non
  | .bl b, v => v = .bl b
  | .int i, v => v = .int i
  | .str s, v => v = .str s
  | .raw u, v => v = u
  | .dic0, v => ∃ a, v = .ref a ∧ G a = some (.dK [])
  | .scr ns, v => ∃ a, v = .ref a ∧ SqL K G a (ns.map V.int)
  | .lst ds, v => ∃ a vs, v = .ref a ∧ G a = some (.lst vs) ∧ DenL K G ds vs
  | .tup ds, v => ∃ a vs, v = .ref a ∧ G a = some (.tup vs) ∧ DenL K G ds vs
  | .obj C ns ds, v => ∃ a dx vs, v = .ref a ∧ G a = some (.ins C dx (ns.zip vs)) ∧ G dx = some (.own a) ∧ DenL K G ds vs
  | .xn a dd ns ds, v => ∃ vs, v = .ref a ∧ G dd = some (.xd (ns.zip vs)) ∧ DenL K G ds vs
  | .at a d, v => v = .ref a ∧ Den K G d v
def DenL (K : PySem.W.Frag) (G : Hp) : List Dat → List V → Prop
  | [], vs => vs = []
  | d :: ds, vs => ∃ v r, vs = v :: r ∧ Den K G d v ∧ DenL K G ds r
end
section
variable {K : PySem.W.Frag} {G G' H H' : Hp}
mutual
theorem Den.mono (h : Same G G') : ∀ (d : Dat) (v : V), Den K G d v → Den K G' d v
  | .non, _, q => by simpa [Den] using q
  | .bl _, _, q => by simpa [Den] using q
  | .int _, _, q => by simpa [Den] using q
  | .str _, _, q => by simpa [Den] using q
  | .raw _, _, q => by simpa [Den] using q
  | .dic0, _, q => by
    simp only [Den] at q ⊢
    obtain ⟨a, e, g⟩ := q
    exact ⟨a, e, h _ _ g⟩
  | .scr _, _, q => by
    simp only [Den] at q ⊢
    obtain ⟨a, e, g⟩ := q
    exact ⟨a, e, h.seq g⟩
  | .lst ds, v, q => by
    simp only [Den] at q ⊢
    obtain ⟨a, vs, e, s, t⟩ := q
    exact ⟨a, vs, e, h _ _ s, DenL.mono h ds vs t⟩
  | .tup ds, v, q => by
    simp only [Den] at q ⊢
    obtain ⟨a, vs, e, s, t⟩ := q
    exact ⟨a, vs, e, h _ _ s, DenL.mono h ds vs t⟩
  | .obj C ns ds, v, q => by
    simp only [Den] at q ⊢
    obtain ⟨a, dx, vs, e, s, s2, t⟩ := q
    exact ⟨a, dx, vs, e, h _ _ s, h _ _ s2, DenL.mono h ds vs t⟩
  | .xn a dd ns ds, v, q => by
    simp only [Den] at q ⊢
    obtain ⟨vs, e, s, t⟩ := q
    exact ⟨vs, e, h _ _ s, DenL.mono h ds vs t⟩
  | .at a d, v, q => by
    simp only [Den] at q ⊢
    exact ⟨q.1, Den.mono h d v q.2⟩
theorem DenL.mono (h : Same G G') : ∀ (ds : List Dat) (vs : List V), DenL K G ds vs → DenL K G' ds vs
  | [], _, q => by simpa [DenL] using q
  | d :: ds, vs, q => by
    simp only [DenL] at q ⊢
    obtain ⟨v, r, e, s, t⟩ := q
    exact ⟨v, r, e, Den.mono h d v s, DenL.mono h ds r t⟩
end
theorem Den.up {d : Dat} {v : V} (q : Den K G d v) (h : Same G G') : Den K G' d v := Den.mono h d v q
theorem DenL.up {ds : List Dat} {vs : List V} (q : DenL K G ds vs) (h : Same G G') : DenL K G' ds vs := DenL.mono h ds vs q
theorem den_lst {a : Addr} {ds : List Dat} {vs : List V} (h : G a = some (.lst vs)) (q : DenL K G ds vs) : Den K G (.lst ds) (.ref a) := by
  simp only [Den]; exact ⟨a, vs, rfl, h, q⟩
theorem den_tup {a : Addr} {ds : List Dat} {vs : List V} (h : G a = some (.tup vs)) (q : DenL K G ds vs) : Den K G (.tup ds) (.ref a) := by
  simp only [Den]; exact ⟨a, vs, rfl, h, q⟩
theorem den_int {i : Int} : Den K G (.int i) (.int i) := by simp only [Den]
theorem den_bl {b : Bool} : Den K G (.bl b) (.bl b) := by simp only [Den]
theorem den_str {s : Str} : Den K G (.str s) (.str s) := by simp only [Den]
theorem den_non : Den K G .non .non := by simp only [Den]
theorem den_raw {v : V} : Den K G (.raw v) v := by simp only [Den]
theorem Den.lst_inv {ds : List Dat} {v : V} (q : Den K G (.lst ds) v) : ∃ a vs, v = .ref a ∧ G a = some (.lst vs) ∧ DenL K G ds vs := by simpa only [Den] using q
theorem Den.tup_inv {ds : List Dat} {v : V} (q : Den K G (.tup ds) v) : ∃ a vs, v = .ref a ∧ G a = some (.tup vs) ∧ DenL K G ds vs := by simpa only [Den] using q
theorem Den.obj_inv {C : Addr} {ns : List Str} {ds : List Dat} {v : V} (q : Den K G (.obj C ns ds) v) : ∃ a dx vs, v = .ref a ∧ G a = some (.ins C dx (ns.zip vs)) ∧ G dx = some (.own a) ∧ DenL K G ds vs := by simpa only [Den] using q
theorem Den.xn_inv {a dd : Addr} {ns : List Str} {ds : List Dat} {v : V} (q : Den K G (.xn a dd ns ds) v) : ∃ vs, v = .ref a ∧ G dd = some (.xd (ns.zip vs)) ∧ DenL K G ds vs := by simpa only [Den] using q
theorem Den.at_inv {a : Addr} {d : Dat} {v : V} (q : Den K G (.at a d) v) : v = .ref a ∧ Den K G d v := by simpa only [Den] using q
theorem den_at {a : Addr} {d : Dat} (h : Den K G d (.ref a)) : Den K G (.at a d) (.ref a) := by simp only [Den, true_and]; exact h
theorem Den.scr_inv {ns : List Int} {v : V} (q : Den K G (.scr ns) v) : ∃ a, v = .ref a ∧ SqL K G a (ns.map V.int) := by simpa only [Den] using q
theorem Den.dic0_inv {v : V} (q : Den K G .dic0 v) : ∃ a, v = .ref a ∧ G a = some (.dK []) := by simpa only [Den] using q
theorem Den.int_inv {i : Int} {v : V} (q : Den K G (.int i) v) : v = .int i := by simpa only [Den] using q
theorem Den.bl_inv {b : Bool} {v : V} (q : Den K G (.bl b) v) : v = .bl b := by simpa only [Den] using q
theorem Den.str_inv {s : Str} {v : V} (q : Den K G (.str s) v) : v = .str s := by simpa only [Den] using q
theorem Den.non_inv {v : V} (q : Den K G .non v) : v = .non := by simpa only [Den] using q
theorem Den.raw_inv {u v : V} (q : Den K G (.raw u) v) : v = u := by simpa only [Den] using q
theorem DenL.nil : DenL K G [] [] := by simp only [DenL]
theorem DenL.cons {d : Dat} {ds : List Dat} {v : V} {vs : List V} (h : Den K G d v) (q : DenL K G ds vs) : DenL K G (d :: ds) (v :: vs) := by
  simp only [DenL]; exact ⟨v, vs, rfl, h, q⟩
theorem DenL.nil_inv {vs : List V} (q : DenL K G [] vs) : vs = [] := by simpa only [DenL] using q
theorem DenL.cons_inv {d : Dat} {ds : List Dat} {vs : List V} (q : DenL K G (d :: ds) vs) : ∃ v r, vs = v :: r ∧ Den K G d v ∧ DenL K G ds r := by simpa only [DenL] using q
theorem DenL.length : ∀ {ds : List Dat} {vs : List V}, DenL K G ds vs → vs.length = ds.length
  | [], _, q => by rw [q.nil_inv]; rfl
  | d :: ds, _, q => by
    obtain ⟨v, r, rfl, _, t⟩ := q.cons_inv
    simp only [List.length_cons, t.length]
theorem DenL.get : ∀ {ds : List Dat} {vs : List V} {i : Nat} {d : Dat}, DenL K G ds vs → ds[i]? = some d → ∃ v, vs[i]? = some v ∧ Den K G d v
  | [], _, _, _, _, e => by simp at e
  | _ :: _, _, 0, _, q, e => by
    obtain ⟨v, r, rfl, h, _⟩ := q.cons_inv
    simp at e; subst e
    exact ⟨v, rfl, h⟩
  | _ :: _, _, i + 1, _, q, e => by
    obtain ⟨v, r, rfl, _, t⟩ := q.cons_inv
    obtain ⟨u, h1, h2⟩ := DenL.get t (i := i) (by simpa using e)
    exact ⟨u, by simpa using h1, h2⟩
theorem DenL.append : ∀ {ds es : List Dat} {vs us : List V}, DenL K G ds vs → DenL K G es us → DenL K G (ds ++ es) (vs ++ us)
  | [], _, _, _, q, r => by rw [q.nil_inv]; exact r
  | _ :: _, _, _, _, q, r => by
    obtain ⟨v, t, rfl, h, q⟩ := q.cons_inv
    exact DenL.cons h (DenL.append q r)
theorem DenL.snoc {ds : List Dat} {d : Dat} {vs : List V} {v : V} (q : DenL K G ds vs) (h : Den K G d v) : DenL K G (ds ++ [d]) (vs ++ [v]) := q.append (.cons h .nil)
theorem DenL.take : ∀ {ds : List Dat} {vs : List V} (n : Nat), DenL K G ds vs → DenL K G (ds.take n) (vs.take n)
  | [], _, n, q => by rw [q.nil_inv]; simp only [List.take_nil]; exact .nil
  | _ :: _, _, 0, q => by simp only [List.take_zero]; exact .nil
  | _ :: _, _, n + 1, q => by
    obtain ⟨v, t, rfl, h, q⟩ := q.cons_inv
    exact DenL.cons h (DenL.take n q)
theorem DenL.drop : ∀ {ds : List Dat} {vs : List V} (n : Nat), DenL K G ds vs → DenL K G (ds.drop n) (vs.drop n)
  | [], _, n, q => by rw [q.nil_inv]; simp only [List.drop_nil]; exact .nil
  | _ :: _, _, 0, q => q
  | _ :: _, _, n + 1, q => by
    obtain ⟨v, t, rfl, h, q⟩ := q.cons_inv
    exact DenL.drop n q
theorem DenL.reverse : ∀ {ds : List Dat} {vs : List V}, DenL K G ds vs → DenL K G ds.reverse vs.reverse
  | [], _, q => by rw [q.nil_inv]; exact .nil
  | _ :: _, _, q => by
    obtain ⟨v, t, rfl, h, q⟩ := q.cons_inv
    simp only [List.reverse_cons]
    exact q.reverse.append (.cons h .nil)
theorem DenL.set {d : Dat} {v : V} (h : Den K G d v) : ∀ {ds : List Dat} {vs : List V} (i : Nat), DenL K G ds vs → DenL K G (ds.set i d) (vs.set i v)
  | [], _, _, q => by rw [q.nil_inv]; exact .nil
  | _ :: _, _, 0, q => by
    obtain ⟨u, t, rfl, _, q⟩ := q.cons_inv
    exact DenL.cons h q
  | _ :: _, _, i + 1, q => by
    obtain ⟨u, t, rfl, g, q⟩ := q.cons_inv
    exact DenL.cons g (DenL.set h i q)
/-- lists of ints, texts, bools by their values -/
theorem DenL.ints : ∀ {ns : List Int} {vs : List V}, DenL K G (ns.map Dat.int) vs → vs = ns.map V.int
  | [], _, q => q.nil_inv
  | n :: ns, _, q => by
    obtain ⟨v, t, rfl, h, q⟩ := q.cons_inv
    rw [h.int_inv, DenL.ints q]
    all_goals rfl
theorem denL_ints : ∀ {ns : List Int}, DenL K G (ns.map Dat.int) (ns.map V.int)
  | [] => .nil
  | n :: ns => .cons den_int denL_ints
end

/-! ### the slots -/
abbrev TEnv := List (Option Dat)
def DenE (K : PySem.W.Frag) (τ : TEnv) (G : Hp) (σ : St) : Prop := ∀ (i : Nat) (d : Dat), τ[i]? = some (some d) → ∃ v, σ[i]? = some (some v) ∧ Den K G d v
section
variable {K : PySem.W.Frag} {G G' : Hp} {τ : TEnv} {σ : St}
theorem DenE.up (q : DenE K τ G σ) (h : Same G G') : DenE K τ G' σ := fun i d e => let ⟨v, h1, h2⟩ := q i d e; ⟨v, h1, h2.up h⟩
theorem DenE.unset {i : Nat} (q : DenE K τ G σ) : DenE K (τ.set i none) G (σ.set i none) := fun j e hj => by
  by_cases c : i = j
  · subst c
    have hl : i < τ.length := by
      have := (List.getElem?_eq_some_iff.mp hj).1
      simpa using this
    rw [List.getElem?_set_self hl] at hj
    cases hj
  · rw [List.getElem?_set_ne c] at hj
    obtain ⟨u, h1, h2⟩ := q j e hj
    exact ⟨u, by rw [List.getElem?_set_ne c]; exact h1, h2⟩
theorem DenE.set {i : Nat} {d : Dat} {v : V} (q : DenE K τ G σ) (hi : i < σ.length) (h : Den K G d v) : DenE K (τ.set i (some d)) G (σ.set i (some v)) := fun j e hj => by
  by_cases c : i = j
  · subst c
    have hl : i < τ.length := by
      have := (List.getElem?_eq_some_iff.mp hj).1
      simpa using this
    rw [List.getElem?_set_self hl] at hj
    cases hj
    exact ⟨v, List.getElem?_set_self hi, h⟩
  · rw [List.getElem?_set_ne c] at hj
    obtain ⟨u, h1, h2⟩ := q j e hj
    exact ⟨u, by rw [List.getElem?_set_ne c]; exact h1, h2⟩
end

/-! ### what may change -/
inductive MC where
  | lst (ds : List Dat) | ins (C dx : Addr) (fs : List (Str × Dat)) | dic (kvs : List (Key × Dat))
abbrev Mem := List (Addr × MC)
def adr1 : Addr × MC → List Addr
  | (p, .ins _ dx _) => [p, dx]
  | (p, _) => [p]
def adr (M : Mem) : List Addr := M.flatMap adr1
/-- names with data against names with values -/
def DenF (K : PySem.W.Frag) (G : Hp) {κ : Type} (fs : List (κ × Dat)) (vs : List (κ × V)) : Prop := vs.map (·.1) = fs.map (·.1) ∧ DenL K G (fs.map (·.2)) (vs.map (·.2))
def MH (K : PySem.W.Frag) (G H : Hp) : Addr × MC → Prop
  | (p, .lst ds) => ∃ vs, H p = some (.lst vs) ∧ DenL K G ds vs
  | (p, .ins C dx fs) => ∃ vs, H p = some (.ins C dx vs) ∧ H dx = some (.own p) ∧ DenF K G fs vs
  | (p, .dic kvs) => ∃ vs, H p = some (.dK vs) ∧ DenF K G kvs vs
structure Hst (K : PySem.W.Frag) (G : Hp) (M : Mem) (H : Hp) : Prop where
  sub : Same G H
  mem : ∀ c ∈ M, MH K G H c
  out : ∀ b ∈ adr M, G b = none
  nd : (adr M).Nodup
structure Stp (G : Hp) (M : Mem) (H G2 : Hp) (M2 : Mem) (H2 : Hp) : Prop where
  gg : Same G G2
  hh : ∀ b o, b ∉ adr M → H b = some o → H2 b = some o
  fr : ∀ b, H b ≠ none → b ∉ adr M → G b = none → G2 b = none
  ad : ∀ b ∈ adr M2, b ∈ adr M ∨ H b = none
section
variable {K : PySem.W.Frag} {G G1 G2 G3 H H1 H2 H3 : Hp} {M M1 M2 M3 : Mem}
theorem DenF.up {κ : Type} {fs : List (κ × Dat)} {vs : List (κ × V)} (q : DenF K G fs vs) (h : Same G G1) : DenF K G1 fs vs := ⟨q.1, q.2.up h⟩
theorem Stp.refl : Stp G M H G M H := ⟨Same.refl _, fun _ _ _ e => e, fun _ _ _ e => e, fun _ h => .inl h⟩
theorem Stp.trans (a : Stp G M H G1 M1 H1) (b : Stp G1 M1 H1 G2 M2 H2) : Stp G M H G2 M2 H2 where
  gg := a.gg.trans b.gg
  hh := fun c o n e => by
    refine b.hh c o (fun z => ?_) (a.hh c o n e)
    rcases a.ad c z with z | z
    · exact n z
    · rw [e] at z; cases z
  fr := fun c hc n g => by
    have z1 : c ∉ adr M1 := fun z => by
      rcases a.ad c z with z | z
      · exact n z
      · exact hc z
    refine b.fr c (fun z => ?_) z1 (a.fr c hc n g)
    cases e : H c with
    | none => exact hc e
    | some o => rw [a.hh c o n e] at z; cases z
  ad := fun c h => by
    rcases b.ad c h with z | z
    · exact a.ad c z
    · refine (Classical.em (c ∈ adr M)).imp id fun n => ?_
      cases e : H c with
      | none => rfl
      | some o => rw [a.hh c o n e] at z; cases z
theorem MH.up {c : Addr × MC} (q : MH K G H c) (h : Same G G1) (e : ∀ b ∈ adr1 c, ∀ o, H b = some o → H1 b = some o) : MH K G1 H1 c := by
  obtain ⟨p, c⟩ := c
  cases c with
  | lst ds => obtain ⟨vs, h1, h2⟩ := q; exact ⟨vs, e p (by simp [adr1]) _ h1, h2.up h⟩
  | ins C dx fs => obtain ⟨vs, h1, h2, h3⟩ := q; exact ⟨vs, e p (by simp [adr1]) _ h1, e dx (by simp [adr1]) _ h2, h3.up h⟩
  | dic kvs => obtain ⟨vs, h1, h2⟩ := q; exact ⟨vs, e p (by simp [adr1]) _ h1, h2.up h⟩
theorem MH.there {c : Addr × MC} (q : MH K G H c) : ∀ b ∈ adr1 c, H b ≠ none := by
  obtain ⟨p, c⟩ := c
  intro b hb z
  cases c with
  | lst ds =>
    obtain ⟨vs, h1, h2⟩ := q
    have hb : b = p := by simpa [adr1] using hb
    rw [hb, h1] at z; cases z
  | ins C dx fs =>
    obtain ⟨vs, h1, h2, h3⟩ := q
    have hb : b = p ∨ b = dx := by simpa [adr1] using hb
    rcases hb with rfl | rfl
    · rw [h1] at z; cases z
    · rw [h2] at z; cases z
  | dic kvs =>
    obtain ⟨vs, h1, h2⟩ := q
    have hb : b = p := by simpa [adr1] using hb
    rw [hb, h1] at z; cases z
theorem Hst.there (h : Hst K G M H) : ∀ b ∈ adr M, H b ≠ none := fun b hb => by
  obtain ⟨c, hc, hb⟩ := List.mem_flatMap.mp hb
  exact (h.mem c hc).there b hb
theorem adr_append {A B : Mem} : adr (A ++ B) = adr A ++ adr B := by unfold adr; exact List.flatMap_append
theorem adr_perm {A B : Mem} (p : A.Perm B) : (adr A).Perm (adr B) := by unfold adr; exact p.flatMap_right _
theorem Hst.perm (h : Hst K G M H) (p : M.Perm M1) : Hst K G M1 H :=
  ⟨h.sub, fun c hc => h.mem c (p.mem_iff.mpr hc), fun b hb => h.out b ((adr_perm p).mem_iff.mpr hb), (adr_perm p).nodup_iff.mp h.nd⟩
theorem Stp.perm {A B : Mem} (s : Stp G M H G2 M2 H2) (p : M.Perm A) (q : M2.Perm B) : Stp G A H G2 B H2 :=
  ⟨s.gg, fun b o n e => s.hh b o (fun z => n ((adr_perm p).mem_iff.mp z)) e, fun b hb n g => s.fr b hb (fun z => n ((adr_perm p).mem_iff.mp z)) g,
    fun b hb => (s.ad b ((adr_perm q).mem_iff.mpr hb)).imp (fun z => (adr_perm p).mem_iff.mp z) id⟩
/-- a part of what may change -/
theorem Hst.left {A B : Mem} (h : Hst K G (A ++ B) H) : Hst K G A H :=
  ⟨h.sub, fun c hc => h.mem c (List.mem_append_left _ hc), fun b hb => h.out b (by rw [adr_append]; exact List.mem_append_left _ hb), by
    have := h.nd; rw [adr_append] at this; exact (List.nodup_append.mp this).1⟩
/-- the rest stays -/
theorem Stp.frame {A A2 B : Mem} (h : Hst K G (A ++ B) H) (s : Stp G A H G2 A2 H2) (h2 : Hst K G2 A2 H2) : Stp G (A ++ B) H G2 (A2 ++ B) H2 ∧ Hst K G2 (A2 ++ B) H2 := by
  have nd := h.nd
  rw [adr_append] at nd
  obtain ⟨n1, n2, n3⟩ := List.nodup_append.mp nd
  have nB : ∀ b ∈ adr B, b ∉ adr A := fun b hb ha => n3 b ha b hb rfl
  have th : ∀ b ∈ adr B, H b ≠ none := fun b hb => h.there b (by rw [adr_append]; exact List.mem_append_right _ hb)
  refine ⟨⟨s.gg, fun b o n e => s.hh b o (fun z => n (by rw [adr_append]; exact List.mem_append_left _ z)) e, fun b hb n g => s.fr b hb (fun z => n (by rw [adr_append]; exact List.mem_append_left _ z)) g, fun b hb => ?_⟩, h2.sub, fun c hc => ?_, fun b hb => ?_, ?_⟩
  · rw [adr_append] at hb ⊢
    rcases List.mem_append.mp hb with z | z
    · exact (s.ad b z).imp (fun y => List.mem_append_left _ y) id
    · exact .inl (List.mem_append_right _ z)
  · rcases List.mem_append.mp hc with z | z
    · exact h2.mem c z
    · exact (h.mem c (List.mem_append_right _ z)).up s.gg fun b hb o e => s.hh b o (nB b (List.mem_flatMap.mpr ⟨c, z, hb⟩)) e
  · rw [adr_append] at hb
    rcases List.mem_append.mp hb with z | z
    · exact h2.out b z
    · exact s.fr b (th b z) (nB b z) (h.out b (by rw [adr_append]; exact List.mem_append_right _ z))
  · rw [adr_append]
    refine List.nodup_append.mpr ⟨h2.nd, n2, fun a ha b hb e => ?_⟩
    subst e
    rcases s.ad a ha with z | z
    · exact nB a hb z
    · exact th a hb z
/-- a new thing of the unchanging part -/
theorem Stp.new {p : Addr} {o : HO} (h : Hst K G M H) (hp : H p = none) : Stp G M H (upd G p o) M (upd H p o) ∧ Hst K (upd G p o) M (upd H p o) := by
  have gp : G p = none := h.sub.free hp
  have nM : ∀ b ∈ adr M, b ≠ p := fun b hb e => h.there b hb (by rw [e]; exact hp)
  refine ⟨⟨fun b u e => ?_, fun b u _ e => ?_, fun b hb _ g => ?_, fun b hb => .inl hb⟩, fun b u e => ?_, fun c hc => (h.mem c hc).up (fun b u e => ?_) fun b hb u e => ?_, fun b hb => ?_, h.nd⟩
  · rw [upd_ne (ne_of_none e gp)]; exact e
  · rw [upd_ne (ne_of_none e hp)]; exact e
  · rw [upd_ne (fun e => hb (by rw [e]; exact hp))]; exact g
  · by_cases c : b = p
    · subst c; rw [upd_same] at e ⊢; exact e
    · rw [upd_ne c] at e ⊢; exact h.sub b u e
  · rw [upd_ne (ne_of_none e gp)]; exact e
  · rw [upd_ne (nM b (List.mem_flatMap.mpr ⟨c, hc, hb⟩))]; exact e
  · rw [upd_ne (nM b hb)]; exact h.out b hb
end
end Kh

set_option Elab.async false
set_option linter.all false
set_option maxRecDepth 100000
set_option maxHeartbeats 1000000
namespace Kh
open PySem PySem.Spec L2
open PyProof.Rows (isTrue_plain isTrue_not isTrue_and isTrue_or isTrue_and_nil isTrue_or_nil BoolOp_one BoolOp_and BoolOp_or UnaryOp_ not_of)

/-! ### the weakest readings; T: a token is out already -/
def Tk (T : Bool) (s : Shared) : Prop := T = true → 1 ≤ s.toks
theorem tk_f {s : Shared} : Tk false s := fun h => nomatch h
section
variable {α : Type} {t : Sem α} {Q Q' : α → Shared → Prop} {M : Model} {A : Around} {E : Value → Shared → Prop} {s : Shared} {T : Bool}
theorem thnT (hT : Tk T s) (h : wpAny M A t Q E s) (hQ : ∀ a s', Tk T s' → Q a s' → Q' a s') : wpAny M A t Q' E s := by
  cases T with
  | false => exact thn h fun a s' q => hQ a s' tk_f q
  | true => exact wpAny_with_toks (hT rfl) (wpAny_mono h (fun a s' q k => hQ a s' (fun _ => k) q) fun _ _ x _ => x)
end
def tW (X : Cx) (T : Bool) (e : Expr) : TE := fun σ H Q => ∀ pins s, Tk T s → Inv X pins σ H s → wpAny (model X.prog X.w) X.A (eval e X.env) (EP X pins σ Q) X.xe s
def tWT (X : Cx) (T : Bool) (e : Expr) : TT := fun σ H Q => ∀ pins s, Tk T s → Inv X pins σ H s → wpAny (model X.prog X.w) X.A (isTrue e X.env (eval e X.env)) (TP X pins σ Q) X.xe s
def tWW (X : Cx) (T : Bool) (e : Expr) : TT := fun σ H Q => ∀ whole pins s, Tk T s → Inv X pins σ H s → wpAny (model X.prog X.w) X.A (isTrue e X.env whole) (TP X pins σ Q) X.xe s
def tWA (X : Cx) (T : Bool) (es : List Expr) : TA := fun σ H Q => ∀ (pos : Pos) pins s, Tk T s → Inv X pins σ H s → wpAny (model X.prog X.w) X.A (spliced (backTo pos (starEach es X.env))) (AP X pins σ Q) X.xe s
def tWS (X : Cx) (T : Bool) (st : Stmt) : TS := fun D σ H => ∀ pins s, Tk T s → Inv X pins σ H s → wpAny (model X.prog X.w) X.A (exec st X.env) (SP X pins D) X.xe s
def tWSs (X : Cx) (T : Bool) (ss : List Stmt) : TS := fun D σ H => ∀ pins s, Tk T s → Inv X pins σ H s → wpAny (model X.prog X.w) X.A (execs ss X.env) (SP X pins D) X.xe s
def tWI (X : Cx) (T : Bool) (tg iter : Expr) : TI := fun σ H R => ∀ pins s, Tk T s → Inv X pins σ H s → wpAny (model X.prog X.w) X.A (eval iter X.env) (fun v s1 => wpAny (model X.prog X.w) X.A (pyIter v) (PIE X pins σ tg R) X.xe s1) X.xe s
def tWG (X : Cx) (T : Bool) (target : Expr) : TG := fun v σ H Q => ∀ pins s u, Tk T s → Inv X pins σ H s → RelV v u → wpAny (model X.prog X.w) X.A (assign target X.env u) (fun _ s' => ∃ σ' H', Inv X pins σ' H' s' ∧ Q σ' H') X.xe s
def tWGs (X : Cx) (T : Bool) (ts : List Expr) : TGs := fun vs σ H Q => ∀ pins s us, Tk T s → Inv X pins σ H s → Vals vs us → wpAny (model X.prog X.w) X.A (assignInOrder ((assignEach ts X.env).map (·.2)) us) (fun _ s' => ∃ σ' H', Inv X pins σ' H' s' ∧ Q σ' H') X.xe s
def rW (X : Cx) (T : Bool) (f : Value → Value → Sem Value) : R2 := fun x y H Q => ∀ pins s σ v u, Tk T s → Inv X pins σ H s → RelV x v → RelV y u → wpAny (model X.prog X.w) X.A (f v u) (EP X pins σ Q) X.xe s
section
variable {X : Cx} {T : Bool} {e a b c : Expr} {es rest' : List Expr} {st : Stmt} {ss rest : List Stmt} {tg iter : Expr} {pos : Pos} {σ : L2.St} {H : Hp} {Q : VK} {QT : Bool → Hp → Prop} {D : Ends}
theorem tW_of {t : TE} (h : PE X e t) (q : t σ H Q) : tW X T e σ H Q := fun pins s _ I => h.run pins s σ H Q I q
theorem tWA_of {t : TA} {Q : List V → Hp → Prop} (h : PA X es t) (q : t σ H Q) : tWA X T es σ H Q := fun pos pins s _ I => h.run pos pins s σ H Q I q
theorem tWS_of {t : TS} (h : PS X st t) (q : t D σ H) : tWS X T st D σ H := fun pins s _ I => h.run pins s σ H D I q
theorem tWSs_of {t : TS} (h : PSs X ss t) (q : t D σ H) : tWSs X T ss D σ H := fun pins s _ I => h.run pins s σ H D I q
theorem tWI_of {t : TI} {R : It → Hp → Prop} (h : PI X tg iter t) (q : t σ H R) : tWI X T tg iter σ H R := fun pins s _ I => h.run pins s σ H R I q
theorem tWG_of {t : TG} {v : V} {Q : L2.St → Hp → Prop} (h : PG X tg t) (q : t v σ H Q) : tWG X T tg v σ H Q := fun pins s u _ I r => h.run pins s σ H v u Q I r q
theorem rW_of {f : Value → Value → Sem Value} {r : R2} {x y : V} (h : OpR X f r) (q : r x y H Q) : rW X T f x y H Q := fun pins s σ v u _ I rx ry => h pins s σ H x y v u Q I rx ry q
/-- without the token -/
theorem pe_W : PE X e (tW X false e) := ⟨fun pins s _ _ _ I h => h pins s tk_f I⟩
theorem pt_W : PT X e (tWT X false e) := ⟨fun pins s _ _ _ I h => h pins s tk_f I⟩
theorem pa_W : PA X es (tWA X false es) := ⟨fun pos pins s _ _ _ I h => h pos pins s tk_f I⟩
theorem pi_W : PI X tg iter (tWI X false tg iter) := ⟨fun pins s _ _ _ I h => h pins s tk_f I⟩
theorem pg_W : PG X tg (tWG X false tg) := ⟨fun pins s _ _ _ u _ I r h => h pins s u tk_f I r⟩
theorem tWSs_len (h : σ.length = X.N.length → tWSs X T ss D σ H) : tWSs X T ss D σ H := fun pins s k I => h I.len pins s k I
theorem tWG_len {v : V} {Q : L2.St → Hp → Prop} (h : σ.length = X.N.length → tWG X T tg v σ H Q) : tWG X T tg v σ H Q := fun pins s u k I r => h I.len pins s u k I r
/-! the constructs, from the readings of their parts -/
theorem w_two {f : Value → Value → Sem Value} (q : tW X T a σ H fun x H1 => tW X T b σ H1 fun y H2 => rW X T f x y H2 Q) {pins : List (Addr × Obj)} {s : Shared} (k : Tk T s) (I : Inv X pins σ H s) :
    wpAny (model X.prog X.w) X.A (eval a X.env) (fun v s₁ => wpAny (model X.prog X.w) X.A (eval b X.env) (fun u s₂ => wpAny (model X.prog X.w) X.A (f v u) (EP X pins σ Q) X.xe s₂) X.xe s₁) X.xe s :=
  thnT k (q pins s k I) fun v s1 k1 ⟨x, H1, I1, r1, q1⟩ => thnT k1 (q1 pins s1 k1 I1) fun u s2 k2 ⟨y, H2, I2, r2, q2⟩ => q2 pins s2 σ v u k2 I2 r1 r2
theorem w_bin {op : Operator} (q : tW X T a σ H fun x H1 => tW X T b σ H1 fun y H2 => rW X T (binaryOp op) x y H2 Q) : tW X T (.BinOp a op b pos) σ H Q := fun pins s k I => wpAny_BinOp (w_two q k I)
theorem w_cmp {op : CmpOp} (hm : behindInMarks op b = false) (q : tW X T a σ H fun x H1 => tW X T b σ H1 fun y H2 => rW X T (compareOp op) x y H2 Q) : tW X T (.Compare a [op] [b] pos) σ H Q := fun pins s k I => wpAny_Compare1 (w_two q k I) hm
theorem w_val (he : ∀ whole, isTrue e X.env whole = (do let v ← whole; standAt e.pos; holding [v] (truthy v))) (q : tW X T e σ H fun x H1 => ∃ c, x = .bl c ∧ QT c H1) : tWT X T e σ H QT := fun pins s k I =>
  isTrue_plain (thnT k (q pins s k I) fun v s1 _ ⟨x, H1, I1, r1, c, ec, q1⟩ => by subst ec; cases r1; exact wpAny_truthy_bool ⟨H1, I1, q1⟩) (he _)
theorem w_cmpT {op : CmpOp} (hm : behindInMarks op b = false) (q : tW X T a σ H fun x H1 => tW X T b σ H1 fun y H2 => rW X T (compareOp op) x y H2 fun z H3 => ∃ c, z = .bl c ∧ QT c H3) : tWT X T (.Compare a [op] [b] pos) σ H QT := fun pins s k I =>
  wpAny_isTrue_Compare1 (thnT k (w_two q k I) fun v s1 _ h1 => thn h1 fun u s2 h2 => thn h2 fun cv s3 ⟨x, H1, I1, r1, c, ec, q1⟩ => by subst ec; cases r1; exact wpAny_truthy_bool ⟨H1, I1, q1⟩) hm
theorem w_not (q : tWT X T a σ H fun c H1 => QT (!c) H1) : tWT X T (.UnaryOp .Not a pos) σ H QT := fun pins s k I => isTrue_not (q pins s k I)
theorem w_or1 (q : tWT X T a σ H QT) : tWW X T (.BoolOp .Or [a] pos) σ H QT := fun wh pins s k I => isTrue_or (thn (q pins s k I) fun c s1 e => by
  cases c with
  | false => exact isTrue_or_nil e
  | true => exact e)
theorem w_or (q : tWT X T a σ H fun c H1 => if c = true then QT true H1 else tWW X T (.BoolOp .Or (b :: rest') pos) σ H1 QT) : tWW X T (.BoolOp .Or (a :: b :: rest') pos) σ H QT := fun wh pins s k I =>
  isTrue_or (thnT k (q pins s k I) fun c s1 k1 ⟨H1, I1, q1⟩ => by
    cases c with
    | false => exact q1 wh pins s1 k1 I1
    | true => exact ⟨H1, I1, q1⟩)
theorem v_one {op} (q : tW X T a σ H Q) : tW X T (.BoolOp op [a] pos) σ H Q := fun pins s k I => BoolOp_one (q pins s k I)
theorem v_and (q : tW X T a σ H fun x H1 => ∃ c, x = .bl c ∧ if c = true then tW X T (.BoolOp .And (b :: rest') pos) σ H1 Q else Q (.bl false) H1) : tW X T (.BoolOp .And (a :: b :: rest') pos) σ H Q := fun pins s k I =>
  BoolOp_and (thnT k (q pins s k I) fun v s1 k1 ⟨x, H1, I1, r1, c, ec, q1⟩ => by
    subst ec; cases r1
    refine wpAny_truthy_bool ?_
    cases c with
    | true => exact q1 pins s1 k1 I1
    | false => exact ⟨.bl false, H1, I1, rfl, q1⟩)
theorem v_not (q : tW X T a σ H fun x H1 => ∃ c, x = .bl c ∧ Q (.bl (!c)) H1) : tW X T (.UnaryOp .Not a pos) σ H Q := fun pins s k I =>
  UnaryOp_ (thn (q pins s k I) fun v s1 ⟨x, H1, I1, r1, c, ec, q1⟩ => by subst ec; cases r1; exact not_of (wpAny_truthy_bool ⟨.bl (!c), H1, I1, rfl, q1⟩))
theorem v_if (q : tWT X T c σ H fun k H1 => if k = true then tW X T a σ H1 Q else tW X T b σ H1 Q) : tW X T (.IfExp c a b pos) σ H Q := fun pins s k I =>
  wpAny_IfExp (thnT k (q pins s k I) fun d s1 k1 ⟨H1, I1, q1⟩ => by
    cases d with
    | true => exact q1 pins s1 k1 I1
    | false => exact q1 pins s1 k1 I1)
theorem wa_cons {Q : List V → Hp → Prop} (hs : starEach (e :: es) X.env = (false, eval e X.env) :: starEach es X.env) (q : tW X T e σ H fun x H1 => tWA X T es σ H1 fun xs H2 => Q (x :: xs) H2) : tWA X T (e :: es) σ H Q := fun pos pins s k I => by
  rw [hs]
  show wpAny _ _ (spliced ((false, eval e X.env) :: backTo pos (starEach es X.env))) _ _ s
  exact Calls.spliced_cons (thnT k (q pins s k I) fun u s1 k1 ⟨x, H1, I1, r1, q1⟩ => thn (q1 pos pins s1 k1 I1) fun us s2 ⟨xs, H2, I2, r2, q2⟩ => ⟨x :: xs, H2, I2, .cons r1 r2, q2⟩)
/-! statements -/
theorem ws_step' (q : tWS X T st { D with nx := tWSs X T rest D } σ H) : tWSs X T (st :: rest) D σ H := fun pins s k I =>
  wpAny_execs_cons (thnT k (q pins s k I) fun f s1 k1 h => by
    cases f with
    | next => obtain ⟨σ', H', I', h⟩ := h; exact h pins s1 k1 I'
    | ret v => exact h
    | brk => exact h
    | cont => exact h)
theorem s_ret (q : tW X T e σ H D.rt) : tWS X T (.Return (some e) pos) D σ H := fun pins s k I => wpAny_Return_some (thn (q pins s k I) fun v s1 ⟨x, H1, I1, r1, q1⟩ => ⟨x, σ, H1, I1, r1, q1⟩)
theorem s_expr (hs : swapsWith e none pos.line X.env = pure false) (q : tW X T e σ H fun _ H1 => D.nx σ H1) : tWS X T (.Expr e pos) D σ H := fun pins s k I =>
  wpAny_Expr_any (thn (q pins s k I) fun v s1 ⟨x, H1, I1, r1, q1⟩ => ⟨σ, H1, I1, q1⟩) I.quiet hs
theorem s_if {t : Expr} {p q : List Stmt} (h : tWT X T t σ H fun k H1 => if k = true then tWSs X T p D σ H1 else tWSs X T q D σ H1) : tWS X T (.If t p q pos) D σ H := fun pins s k I =>
  wpAny_If (thnT k (h pins s k I) fun d s1 k1 ⟨H1, I1, q1⟩ => by
    cases d with
    | true => exact q1 pins s1 k1 I1
    | false => exact q1 pins s1 k1 I1)
theorem s_asg (hs : swapsWithSole [tg] e pos.line X.env = pure false) (hw : swappedStores [tg] e X.env = pure none) (h1 : (assignEach [tg] X.env).map (·.2) = [assign tg X.env]) (q : tW X T e σ H fun x H1 => tWG X T tg x σ H1 D.nx) : tWS X T (.Assign [tg] e pos) D σ H := fun pins s k I =>
  wpAny_Assign_stores (thnT k (q pins s k I) fun v s1 k1 ⟨x, H1, I1, r1, q1⟩ => by
    rw [h1]
    exact thn (q1 pins s1 v k1 I1 r1) fun _ s2 q => q) hs hw
theorem s_set {i : Nat} {x : Str} {pos' : Pos} (hN : X.N.Nodup) (hi : X.N[i]? = some x) (hx : Loc X.env.scope x) (hs : swapsWith e (some (.Name x pos')) pos.line X.env = pure false) (hf : X.fn x = true ∨ X.env.scope.names.lookup x = some .local)
    (q : tW X T e σ H fun v H1 => D.nx (σ.set i (some v)) H1) : tWS X T (.Assign [.Name x pos'] e pos) D σ H := fun pins s k I =>
  wpAny_Assign_Name (thn (q pins s k I) fun v s1 ⟨y, H1, I1, r1, q1⟩ => store_ok I1 hN hi hx r1 (fun s2 I2 => ⟨_, H1, I2, q1⟩) hf) hs
end

/-! ### exceptions, ends -/
/-- an exception: its class, its own fields -/
structure Exn where
  C : Addr
  ns : List Str
  ds : List Dat
def DenX (K : PySem.W.Frag) (G H : Hp) (x : Exn) (d : Option Addr) : Prop := (x.ns = [] ∧ x.ds = []) ∨ ∃ dd vs, d = some dd ∧ G dd = some (.xd (x.ns.zip vs)) ∧ DenL K G x.ds vs
inductive Out where
  | nx (τ : TEnv) | rt (d : Dat) | bk (τ : TEnv) | ct (τ : TEnv) | ex (x : Exn) (τ : TEnv)
abbrev RK := Out → Mem → Prop
abbrev PK' := Dat → Mem → Prop
abbrev XKx := Exn → Mem → Prop
section
variable (K : PySem.W.Frag)
def CE' (G : Hp) (M : Mem) (H : Hp) (P : PK') (Q : VK) : Prop := ∀ d M2 v G2 H2, P d M2 → Stp G M H G2 M2 H2 → Hst K G2 M2 H2 → Den K G2 d v → Q v H2
def CT' (G : Hp) (M : Mem) (H : Hp) (P : Bool → Mem → Prop) (Q : Bool → Hp → Prop) : Prop := ∀ b M2 G2 H2, P b M2 → Stp G M H G2 M2 H2 → Hst K G2 M2 H2 → Q b H2
def CA' (G : Hp) (M : Mem) (H : Hp) (P : List Dat → Mem → Prop) (Q : List V → Hp → Prop) : Prop := ∀ ds M2 vs G2 H2, P ds M2 → Stp G M H G2 M2 H2 → Hst K G2 M2 H2 → DenL K G2 ds vs → Q vs H2
def CX' (G : Hp) (M : Mem) (H : Hp) (E : XKx) (T : Value → Option Addr → Hp → Prop) : Prop := ∀ x M2 G2 H2 d, E x M2 → Stp G M H G2 M2 H2 → Hst K G2 M2 H2 → DenX K G2 H2 x d → T (.ref x.C) d H2
def OutOk (G2 H2 : Hp) (D : Ends) (W : WX) : Out → Prop
  | .nx τ => ∀ σ, DenE K τ G2 σ → D.nx σ H2
  | .rt d => ∀ v, Den K G2 d v → D.rt v H2
  | .bk τ => ∀ σ, DenE K τ G2 σ → D.bk σ H2
  | .ct τ => ∀ σ, DenE K τ G2 σ → D.ct σ H2
  | .ex x τ => ∀ σ d, DenE K τ G2 σ → DenX K G2 H2 x d → W (.ref x.C) d σ H2
def CS' (G : Hp) (M : Mem) (H : Hp) (R : RK) (D : Ends) (W : WX) : Prop := ∀ o M2 G2 H2, R o M2 → Stp G M H G2 M2 H2 → Hst K G2 M2 H2 → OutOk K G2 H2 D W o
/-- the target of a store -/
def CG' (G : Hp) (M : Mem) (H : Hp) (P : TEnv → Mem → Prop) (Q : L2.St → Hp → Prop) : Prop := ∀ τ M2 G2 H2 σ, P τ M2 → Stp G M H G2 M2 H2 → Hst K G2 M2 H2 → DenE K τ G2 σ → Q σ H2
end
section
variable {K : PySem.W.Frag} {G G1 H H1 : Hp} {M M1 : Mem}
theorem CE'.step {P : PK'} {Q : VK} (c : CE' K G M H P Q) (s : Stp G M H G1 M1 H1) : CE' K G1 M1 H1 P Q := fun d M2 v G2 H2 p s2 h dv => c d M2 v G2 H2 p (s.trans s2) h dv
theorem CT'.step {P : Bool → Mem → Prop} {Q : Bool → Hp → Prop} (c : CT' K G M H P Q) (s : Stp G M H G1 M1 H1) : CT' K G1 M1 H1 P Q := fun d M2 G2 H2 p s2 h => c d M2 G2 H2 p (s.trans s2) h
theorem CA'.step {P : List Dat → Mem → Prop} {Q : List V → Hp → Prop} (c : CA' K G M H P Q) (s : Stp G M H G1 M1 H1) : CA' K G1 M1 H1 P Q := fun d M2 v G2 H2 p s2 h dv => c d M2 v G2 H2 p (s.trans s2) h dv
theorem CX'.step {E : XKx} {T : Value → Option Addr → Hp → Prop} (c : CX' K G M H E T) (s : Stp G M H G1 M1 H1) : CX' K G1 M1 H1 E T := fun x M2 G2 H2 d p s2 h dv => c x M2 G2 H2 d p (s.trans s2) h dv
theorem CS'.step {R : RK} {D : Ends} {W : WX} (c : CS' K G M H R D W) (s : Stp G M H G1 M1 H1) : CS' K G1 M1 H1 R D W := fun o M2 G2 H2 p s2 h => c o M2 G2 H2 p (s.trans s2) h
theorem CG'.step {P : TEnv → Mem → Prop} {Q : L2.St → Hp → Prop} (c : CG' K G M H P Q) (s : Stp G M H G1 M1 H1) : CG' K G1 M1 H1 P Q := fun d M2 v G2 H2 p s2 h dv => c d M2 v G2 H2 p (s.trans s2) h dv
end

/-! ### the judgements: in the slots τ and the cells M, e gives a value and cells that P takes, or lets out what E takes -/
structure EX (X : Cx) (T : Bool) (e : Expr) (τ : TEnv) (M : Mem) (P : PK') (E : XKx) : Prop where
  run : ∀ W, Takes X W → ∀ σ G H, DenE X.K τ G σ → Hst X.K G M H → ∀ Q, CE' X.K G M H P Q → CX' X.K G M H E (fun c d H2 => W c d σ H2) → tW X T e σ H Q
structure ET (X : Cx) (T : Bool) (e : Expr) (τ : TEnv) (M : Mem) (P : Bool → Mem → Prop) (E : XKx) : Prop where
  run : ∀ W, Takes X W → ∀ σ G H, DenE X.K τ G σ → Hst X.K G M H → ∀ Q, CT' X.K G M H P Q → CX' X.K G M H E (fun c d H2 => W c d σ H2) → tWT X T e σ H Q
structure EA (X : Cx) (T : Bool) (es : List Expr) (τ : TEnv) (M : Mem) (P : List Dat → Mem → Prop) (E : XKx) : Prop where
  run : ∀ W, Takes X W → ∀ σ G H, DenE X.K τ G σ → Hst X.K G M H → ∀ Q, CA' X.K G M H P Q → CX' X.K G M H E (fun c d H2 => W c d σ H2) → tWA X T es σ H Q
structure WS (X : Cx) (T : Bool) (ss : List Stmt) (τ : TEnv) (M : Mem) (R : RK) : Prop where
  run : ∀ W, Takes X W → ∀ σ G H, DenE X.K τ G σ → Hst X.K G M H → ∀ D, CS' X.K G M H R D W → tWSs X T ss D σ H
/-- a value is stored at a target -/
structure GX (X : Cx) (T : Bool) (tg : Expr) (d : Dat) (τ : TEnv) (M : Mem) (P : TEnv → Mem → Prop) (E : XKx) : Prop where
  run : ∀ W, Takes X W → ∀ σ G H v, DenE X.K τ G σ → Hst X.K G M H → Den X.K G d v → ∀ Q, CG' X.K G M H P Q → CX' X.K G M H E (fun c d H2 => W c d σ H2) → tWG X T tg v σ H Q
/-- operations by values -/
def OP (X : Cx) (T : Bool) (f : Value → Value → Sem Value) (x y : Dat) (M : Mem) (P : PK') : Prop :=
  ∀ G H v u, Hst X.K G M H → Den X.K G x v → Den X.K G y u → ∀ Q, CE' X.K G M H P Q → rW X T f v u H Q
def BC (X : Cx) (f : Value) (ds : List Dat) (M : Mem) (P : PK') : Prop :=
  ∃ r, CallR X f r ∧ ∀ G H vs, Hst X.K G M H → DenL X.K G ds vs → ∀ Q, CE' X.K G M H P Q → r vs H Q
abbrev E0' : XKx := fun _ _ => False
theorem noX {K : PySem.W.Frag} {G H : Hp} {M : Mem} {T : Value → Option Addr → Hp → Prop} : CX' K G M H E0' T := fun _ _ _ _ _ h => h.elim

section
variable {X : Cx} {T : Bool} {τ : TEnv} {M : Mem} {P : PK'} {E : XKx} {e a b c : Expr} {es : List Expr} {pos : Pos}
/-- weakening -/
theorem EX.imp {P' : PK'} {E' : XKx} (h : EX X T e τ M P' E') (hp : ∀ d M2, P' d M2 → P d M2) (hx : ∀ x M2, E' x M2 → E x M2) : EX X T e τ M P E :=
  .mk fun W tk σ G H hE hH Q hP hX => h.run W tk σ G H hE hH Q (fun d M2 v G2 H2 p => hP d M2 v G2 H2 (hp _ _ p)) (fun x M2 G2 H2 d p => hX x M2 G2 H2 d (hx _ _ p))
theorem EX.nox (h : EX X T e τ M P E0') : EX X T e τ M P E := h.imp (fun _ _ p => p) fun _ _ p => p.elim
theorem ET.nox {P : Bool → Mem → Prop} (h : ET X T e τ M P E0') : ET X T e τ M P E := .mk fun W tk σ G H hE hH Q hP _ => h.run W tk σ G H hE hH Q hP noX
/-! ### names and constants -/
theorem ex_at {i : Nat} {x : Str} {d : Dat} (hN : X.N[i]? = some x) (hv : Vis X.env.scope x) (ht : τ[i]? = some (some d)) (h : P d M) (hd : (x == ("__debug__" : Str)) = false := by decide) (hcd : (x == ("__classdict__" : Str)) = false := by decide) :
    EX X T (.Name x pos) τ M P E := .mk fun W tk σ G H hE hH Q hP hX => by
  obtain ⟨v, h1, h2⟩ := hE i d ht
  exact tW_of (pe_var hN hv hd hcd) ⟨v, h1, hP d M v G H h Stp.refl hH h2⟩
/-- the place of a name -/
def ixIn (N : List Str) (x : Str) : Nat := N.findIdx (· == x)
theorem ex_var {x : Str} {d : Dat} (ht : X.N[ixIn X.N x]? = some x ∧ τ[ixIn X.N x]? = some (some d)) (h : P d M) (hv : Vis X.env.scope x := by first | exact Or.inl rfl | exact Or.inr (Or.inl rfl) | exact Or.inr (Or.inr rfl))
    (hd : (x == ("__debug__" : Str)) = false := by decide) (hcd : (x == ("__classdict__" : Str)) = false := by decide) : EX X T (.Name x pos) τ M P E := ex_at ht.1 hv ht.2 h hd hcd
theorem ex_c {v : V} {d : Dat} (hp : PE X e (tC v)) (hd : ∀ G, Den X.K G d v) (h : P d M) : EX X T e τ M P E := .mk fun W tk σ G H hE hH Q hP hX => tW_of hp (hP d M v G H h Stp.refl hH (hd G))
theorem ex_int {i j pos} (h : P (.int i) M) : EX X T (.Constant (.int i) j pos) τ M P E := ex_c pe_int (fun _ => den_int) h
theorem ex_bl {i j pos} (h : P (.bl i) M) : EX X T (.Constant (.bool i) j pos) τ M P E := ex_c pe_bl (fun _ => den_bl) h
theorem ex_non {j pos} (h : P .non M) : EX X T (.Constant .none j pos) τ M P E := ex_c pe_non (fun _ => den_non) h
theorem ex_str {i j pos} (h : P (.str i) M) : EX X T (.Constant (.str i) j pos) τ M P E := ex_c pe_str (fun _ => den_str) h
theorem ex_gstr {x : Str} {z : Str} {t : Tok} (hm : X.mg x = some (.str z t)) (h : P (.str z) M) (hg : Gl X x := by rfl) (hd : (x == ("__debug__" : Str)) = false := by decide) : EX X T (.Name x pos) τ M P E := ex_c (pe_glob (v := .str z) hg hm ⟨t, rfl⟩ hd) (fun _ => den_str) h
theorem ex_gref {x : Str} {q : Addr} (hm : X.mg x = some (.ref q)) (h : P (.raw (.ref q)) M) (hg : Gl X x := by rfl) (hd : (x == ("__debug__" : Str)) = false := by decide) : EX X T (.Name x pos) τ M P E := ex_c (pe_glob (v := .ref q) hg hm rfl hd) (fun _ => den_raw) h

/-! ### operators -/
theorem ex_bin {op : Operator} (h : EX X T a τ M (fun x M1 => EX X T b τ M1 (fun y M2 => OP X T (binaryOp op) x y M2 P) E) E) : EX X T (.BinOp a op b pos) τ M P E := by
  refine .mk ?_; intro W tk σ G H hE hH Q hP hX
  refine w_bin ?_
  refine h.run W tk σ G H hE hH _ ?_ hX
  intro x M1 v G1 H1 hb s1 h1 dx
  refine hb.run W tk σ G1 H1 (hE.up s1.gg) h1 _ ?_ (hX.step s1)
  intro y M2 u G2 H2 ho s2 h2 dy
  exact ho G2 H2 v u h2 (dx.up s2.gg) dy Q (hP.step (s1.trans s2))
theorem ex_cmp {op : CmpOp} (h : EX X T a τ M (fun x M1 => EX X T b τ M1 (fun y M2 => OP X T (compareOp op) x y M2 P) E) E) (hm : behindInMarks op b = false := by first | exact nomark _ | rfl) : EX X T (.Compare a [op] [b] pos) τ M P E := by
  refine .mk ?_; intro W tk σ G H hE hH Q hP hX
  refine w_cmp hm ?_
  refine h.run W tk σ G H hE hH _ ?_ hX
  intro x M1 v G1 H1 hb s1 h1 dx
  refine hb.run W tk σ G1 H1 (hE.up s1.gg) h1 _ ?_ (hX.step s1)
  intro y M2 u G2 H2 ho s2 h2 dy
  exact ho G2 H2 v u h2 (dx.up s2.gg) dy Q (hP.step (s1.trans s2))
theorem op_of {f : Value → Value → Sem Value} {r : R2} {x y : Dat} (ho : OpR X f r) (h : ∀ G H v u, Hst X.K G M H → Den X.K G x v → Den X.K G y u → ∀ Q, CE' X.K G M H P Q → r v u H Q) : OP X T f x y M P :=
  fun G H v u hH dx dy Q hP => rW_of ho (h G H v u hH dx dy Q hP)
theorem op_II {f : Value → Value → Sem Value} {g : Int → Int → V} {i j : Int} {d : Dat} (ho : OpR X f (rI0 g)) (hd : ∀ G, Den X.K G d (g i j)) (h : P d M) : OP X T f (.int i) (.int j) M P :=
  op_of ho fun G H v u hH dx dy Q hP => ⟨i, j, dx.int_inv, dy.int_inv, hP _ _ _ _ _ h Stp.refl hH (hd G)⟩
theorem op_IIc {f : Value → Value → Sem Value} {C : Int → Int → Prop} {g : Int → Int → V} {i j : Int} {d : Dat} (ho : OpR X f (rI C g)) (hc : C i j) (hd : ∀ G, Den X.K G d (g i j)) (h : P d M) : OP X T f (.int i) (.int j) M P :=
  op_of ho fun G H v u hH dx dy Q hP => ⟨i, j, dx.int_inv, dy.int_inv, hc, hP _ _ _ _ _ h Stp.refl hH (hd G)⟩
theorem o_add {i j : Int} (h : P (.int (i + j)) M) : OP X T (binaryOp .Add) (.int i) (.int j) M P := op_II op_add (fun _ => den_int) h
theorem o_sub {i j : Int} (h : P (.int (i - j)) M) : OP X T (binaryOp .Sub) (.int i) (.int j) M P := op_II op_sub (fun _ => den_int) h
theorem o_lt {i j : Int} (h : P (.bl (decide (i < j))) M) : OP X T (compareOp .Lt) (.int i) (.int j) M P := op_II op_lt (fun _ => den_bl) h
theorem o_gt {i j : Int} (h : P (.bl (decide (j < i))) M) : OP X T (compareOp .Gt) (.int i) (.int j) M P := op_II op_gt (fun _ => den_bl) h
theorem o_ge {i j : Int} (h : P (.bl (decide (j ≤ i))) M) : OP X T (compareOp .GtE) (.int i) (.int j) M P := op_II op_ge (fun _ => den_bl) h

/-! ### tests -/
theorem et_val {Pb : Bool → Mem → Prop} (h : EX X T e τ M (fun d M1 => ∃ k, d = .bl k ∧ Pb k M1) E) (he : ∀ whole, isTrue e X.env whole = (do let v ← whole; standAt e.pos; holding [v] (truthy v)) := by intro _; rfl) : ET X T e τ M Pb E := by
  refine .mk ?_; intro W tk σ G H hE hH Q hP hX
  refine w_val he ?_
  refine h.run W tk σ G H hE hH _ ?_ hX
  intro d M1 v G1 H1 ⟨k, ek, hk⟩ s1 h1 dv
  subst ek
  exact ⟨k, dv.bl_inv, hP k M1 G1 H1 hk s1 h1⟩
theorem et_cmp {op : CmpOp} {Pb : Bool → Mem → Prop} (h : EX X T a τ M (fun x M1 => EX X T b τ M1 (fun y M2 => OP X T (compareOp op) x y M2 fun d M3 => ∃ k, d = .bl k ∧ Pb k M3) E) E) (hm : behindInMarks op b = false := by first | exact nomark _ | rfl) :
    ET X T (.Compare a [op] [b] pos) τ M Pb E := by
  refine .mk ?_; intro W tk σ G H hE hH Q hP hX
  refine w_cmpT hm ?_
  refine h.run W tk σ G H hE hH _ ?_ hX
  intro x M1 v G1 H1 hb s1 h1 dx
  refine hb.run W tk σ G1 H1 (hE.up s1.gg) h1 _ ?_ (hX.step s1)
  intro y M2 u G2 H2 ho s2 h2 dy
  refine ho G2 H2 v u h2 (dx.up s2.gg) dy _ ?_
  intro d M3 w G3 H3 ⟨k, ek, hk⟩ s3 h3 dw
  subst ek
  exact ⟨k, dw.bl_inv, hP k M3 G3 H3 hk ((s1.trans s2).trans s3) h3⟩
theorem et_not {Pb : Bool → Mem → Prop} (h : ET X T a τ M (fun k M1 => Pb (!k) M1) E) : ET X T (.UnaryOp .Not a pos) τ M Pb E := by
  refine .mk ?_; intro W tk σ G H hE hH Q hP hX
  refine w_not ?_
  refine h.run W tk σ G H hE hH _ ?_ hX
  intro k M1 G1 H1 hk s1 h1
  exact hP _ M1 G1 H1 hk s1 h1
/-- and, or: the rest -/
structure EW (X : Cx) (T : Bool) (e : Expr) (τ : TEnv) (M : Mem) (P : Bool → Mem → Prop) (E : XKx) : Prop where
  run : ∀ W, Takes X W → ∀ σ G H, DenE X.K τ G σ → Hst X.K G M H → ∀ Q, CT' X.K G M H P Q → CX' X.K G M H E (fun c d H2 => W c d σ H2) → tWW X T e σ H Q
theorem ew_or1 {Pb : Bool → Mem → Prop} (h : ET X T a τ M Pb E) : EW X T (.BoolOp .Or [a] pos) τ M Pb E := .mk fun W tk σ G H hE hH Q hP hX => w_or1 (h.run W tk σ G H hE hH Q hP hX)
theorem ew_or {Pb : Bool → Mem → Prop} {rest : List Expr} (h : ET X T a τ M (fun k M1 => (k = true → Pb true M1) ∧ (k = false → EW X T (.BoolOp .Or (b :: rest) pos) τ M1 Pb E)) E) : EW X T (.BoolOp .Or (a :: b :: rest) pos) τ M Pb E := by
  refine .mk ?_; intro W tk σ G H hE hH Q hP hX
  refine w_or ?_
  refine h.run W tk σ G H hE hH _ ?_ hX
  intro k M1 G1 H1 ⟨h1, h2⟩ s1 hs1
  cases k with
  | true => exact iteT (hP _ _ _ _ (h1 rfl) s1 hs1)
  | false => exact iteF ((h2 rfl).run W tk σ G1 H1 (hE.up s1.gg) hs1 Q (hP.step s1) (hX.step s1))
theorem et_w {Pb : Bool → Mem → Prop} (h : EW X T e τ M Pb E) : ET X T e τ M Pb E := .mk fun W tk σ G H hE hH Q hP hX => by
  have := h.run W tk σ G H hE hH Q hP hX
  exact fun pins s k I => this _ pins s k I
theorem ET.imp {P P' : Bool → Mem → Prop} {E' : XKx} (h : ET X T e τ M P' E') (hp : ∀ d M2, P' d M2 → P d M2) (hx : ∀ x M2, E' x M2 → E x M2) : ET X T e τ M P E :=
  .mk fun W tk σ G H hE hH Q hP hX => h.run W tk σ G H hE hH Q (fun d M2 G2 H2 p => hP d M2 G2 H2 (hp _ _ p)) (fun x M2 G2 H2 d p => hX x M2 G2 H2 d (hx _ _ p))
/-- as values -/
theorem ex_and1 {op} (h : EX X T a τ M P E) : EX X T (.BoolOp op [a] pos) τ M P E := .mk fun W tk σ G H hE hH Q hP hX => v_one (h.run W tk σ G H hE hH Q hP hX)
theorem ex_and {rest : List Expr} (h : EX X T a τ M (fun d M1 => ∃ k, d = .bl k ∧ (k = true → EX X T (.BoolOp .And (b :: rest) pos) τ M1 P E) ∧ (k = false → P (.bl false) M1)) E) : EX X T (.BoolOp .And (a :: b :: rest) pos) τ M P E := by
  refine .mk ?_; intro W tk σ G H hE hH Q hP hX
  refine v_and ?_
  refine h.run W tk σ G H hE hH _ ?_ hX
  intro d M1 v G1 H1 ⟨k, ek, h1, h2⟩ s1 hs1 dv
  subst ek
  refine ⟨k, dv.bl_inv, ?_⟩
  cases k with
  | true => exact iteT ((h1 rfl).run W tk σ G1 H1 (hE.up s1.gg) hs1 Q (hP.step s1) (hX.step s1))
  | false => exact iteF (hP _ _ _ _ _ (h2 rfl) s1 hs1 den_bl)
theorem ex_not (h : EX X T a τ M (fun d M1 => ∃ k, d = .bl k ∧ P (.bl (!k)) M1) E) : EX X T (.UnaryOp .Not a pos) τ M P E := by
  refine .mk ?_; intro W tk σ G H hE hH Q hP hX
  refine v_not ?_
  refine h.run W tk σ G H hE hH _ ?_ hX
  intro d M1 v G1 H1 ⟨k, ek, h1⟩ s1 hs1 dv
  subst ek
  exact ⟨k, dv.bl_inv, hP _ _ _ _ _ h1 s1 hs1 den_bl⟩
theorem ex_if {t : Expr} (h : ET X T t τ M (fun k M1 => (k = true → EX X T a τ M1 P E) ∧ (k = false → EX X T b τ M1 P E)) E) : EX X T (.IfExp t a b pos) τ M P E := by
  refine .mk ?_; intro W tk σ G H hE hH Q hP hX
  refine v_if ?_
  refine h.run W tk σ G H hE hH _ ?_ hX
  intro k M1 G1 H1 ⟨h1, h2⟩ s1 hs1
  cases k with
  | true => exact iteT ((h1 rfl).run W tk σ G1 H1 (hE.up s1.gg) hs1 Q (hP.step s1) (hX.step s1))
  | false => exact iteF ((h2 rfl).run W tk σ G1 H1 (hE.up s1.gg) hs1 Q (hP.step s1) (hX.step s1))

/-! ### arguments, displays -/
theorem ea_nil {P : List Dat → Mem → Prop} (h : P [] M) : EA X T [] τ M P E := .mk fun W tk σ G H hE hH Q hP hX => tWA_of pa_nil (hP _ _ _ _ _ h Stp.refl hH .nil)
theorem ea_cons {P : List Dat → Mem → Prop} (h : EX X T e τ M (fun d M1 => EA X T es τ M1 (fun ds M2 => P (d :: ds) M2) E) E) (hs : starEach (e :: es) X.env = (false, eval e X.env) :: starEach es X.env := by rfl) : EA X T (e :: es) τ M P E := by
  refine .mk ?_; intro W tk σ G H hE hH Q hP hX
  refine wa_cons hs ?_
  refine h.run W tk σ G H hE hH _ ?_ hX
  intro d M1 v G1 H1 hb s1 h1 dv
  refine hb.run W tk σ G1 H1 (hE.up s1.gg) h1 _ ?_ (hX.step s1)
  intro ds M2 vs G2 H2 ho s2 h2 dvs
  exact hP (d :: ds) M2 (v :: vs) G2 H2 ho (s1.trans s2) h2 (.cons (dv.up s2.gg) dvs)
theorem v_tup {x1} {σ : L2.St} {H : Hp} {Q : VK} (q : tWA X T es σ H fun xs H1 => xs.length ≤ sizeLine ∧ ∀ p, H1 p = none → Q (.ref p) (upd H1 p (.tup xs))) : tW X T (.Tuple es x1 pos) σ H Q := fun pins s k I =>
  wpAny_Tuple_spliced (thn (q pos pins s k I) fun us s1 ⟨xs, H1, I1, r, z, q1⟩ => ⟨by rw [← r.length]; exact z, by
    have hf : H1 s1.heap.objs.size = none := I1.hok.fresh (Nat.le_refl _)
    exact ⟨.ref s1.heap.objs.size, upd H1 s1.heap.objs.size (.tup xs), I1.laid (t' := s1.toks) (fun b u e => Heap.get?_push_of_some _ e) (Nat.le_refl _) ⟨z, us, r, ⟨_, Heap.get?_push_size _ rfl, rfl, _, rfl⟩⟩, rfl, q1 _ hf⟩⟩)
theorem v_lst {σ : L2.St} {H : Hp} {Q : VK} (q : tWA X T es σ H fun xs H1 => xs.length ≤ sizeLine ∧ ∀ p, H1 p = none → Q (.ref p) (upd H1 p (.lst xs))) : tW X T (.List es pos) σ H Q := fun pins s k I =>
  wpAny_List_spliced (thn (q pos pins s k I) fun us s1 ⟨xs, H1, I1, r, z, q1⟩ => ⟨by rw [← r.length]; exact z, by
    have hf : H1 s1.heap.objs.size = none := I1.hok.fresh (Nat.le_refl _)
    exact ⟨.ref s1.heap.objs.size, upd H1 s1.heap.objs.size (.lst xs), I1.laid (t' := s1.toks) (fun b u e => Heap.get?_push_of_some _ e) (Nat.le_refl _) ⟨z, us, 0, r, Heap.get?_push_size _ rfl⟩, rfl, q1 _ hf⟩⟩)
theorem ex_tup {x1} (h : EA X T es τ M (fun ds M1 => ds.length ≤ sizeLine ∧ P (.tup ds) M1) E) : EX X T (.Tuple es x1 pos) τ M P E := by
  refine .mk ?_; intro W tk σ G H hE hH Q hP hX
  refine v_tup ?_
  refine h.run W tk σ G H hE hH _ ?_ hX
  intro ds M1 vs G1 H1 ⟨hl, hp⟩ s1 h1 dvs
  refine ⟨by rw [dvs.length]; exact hl, fun p hp' => ?_⟩
  obtain ⟨s2, h2⟩ := Stp.new (o := .tup vs) h1 hp'
  exact hP _ _ _ _ _ hp (s1.trans s2) h2 (den_tup upd_same (dvs.up s2.gg))
theorem ex_lst (h : EA X T es τ M (fun ds M1 => ds.length ≤ sizeLine ∧ P (.lst ds) M1) E) : EX X T (.List es pos) τ M P E := by
  refine .mk ?_; intro W tk σ G H hE hH Q hP hX
  refine v_lst ?_
  refine h.run W tk σ G H hE hH _ ?_ hX
  intro ds M1 vs G1 H1 ⟨hl, hp⟩ s1 h1 dvs
  refine ⟨by rw [dvs.length]; exact hl, fun p hp' => ?_⟩
  obtain ⟨s2, h2⟩ := Stp.new (o := .lst vs) h1 hp'
  exact hP _ _ _ _ _ hp (s1.trans s2) h2 (den_lst upd_same (dvs.up s2.gg))
/-! ### calls of built-ins -/
theorem ex_callB {x : Str} {p : Pos} {id : String} (hm : X.mg x = none) (hv : bootBuiltins x = some (.builtin id)) (h : EA X T (e :: es) τ M (fun ds M1 => BC X (.builtin id) ds M1 P) E) (hg : Gl X x := by rfl) (hn : x ≠ "__name__" := by decide) (hdb : (x == ("__debug__" : Str)) = false := by decide)
    (he : starEach (e :: es) X.env = (false, eval e X.env) :: starEach es X.env := by rfl) (hpl : (backTo pos (starEach es X.env)).any (·.1) = false := by rfl) : EX X T (.Call (.Name x p) (e :: es) [] pos) τ M P E := by
  refine .mk ?_; intro W tk σ G H hE hH Q hP hX pins s k I
  have hA := h.run W tk σ G H hE hH (fun vs H1 => ∃ r, CallR X (.builtin id) r ∧ r vs H1 Q) (fun ds M1 vs G1 H1 ⟨r, hr, hb⟩ s1 h1 dvs => ⟨r, hr, hb G1 H1 vs h1 dvs Q (hP.step s1)⟩) hX
  refine wpAny_Call_Name_kw (ld_blt I hg hm hv ?_ hn hdb)
  exact PyProof.Rows.callWith_builtin1 (thn (hA pos pins s k I) fun us s1 ⟨vs, H1, I1, r1, r, hr, q1⟩ => hr pins s1 σ H1 vs us Q I1 r1 q1) he hpl
theorem ex_callTy {x : Str} {p : Pos} {T' : String} (hm : X.mg x = none) (hv : bootBuiltins x = some (.type T')) (h : EA X T (e :: es) τ M (fun ds M1 => BC X (.type T') ds M1 P) E) (hg : Gl X x := by rfl) (hn : x ≠ "__name__" := by decide) (hdb : (x == ("__debug__" : Str)) = false := by decide)
    (he : starEach (e :: es) X.env = (false, eval e X.env) :: starEach es X.env := by rfl) (hpl : (backTo pos (starEach es X.env)).any (·.1) = false := by rfl) : EX X T (.Call (.Name x p) (e :: es) [] pos) τ M P E := by
  refine .mk ?_; intro W tk σ G H hE hH Q hP hX pins s k I
  have hA := h.run W tk σ G H hE hH (fun vs H1 => ∃ r, CallR X (.type T') r ∧ r vs H1 Q) (fun ds M1 vs G1 H1 ⟨r, hr, hb⟩ s1 h1 dvs => ⟨r, hr, hb G1 H1 vs h1 dvs Q (hP.step s1)⟩) hX
  refine wpAny_Call_Name_kw (ld_blt I hg hm hv ?_ hn hdb)
  exact PyProof.Rows.callWith_type1 (thn (hA pos pins s k I) fun us s1 ⟨vs, H1, I1, r1, r, hr, q1⟩ => hr pins s1 σ H1 vs us Q I1 r1 q1) he hpl
end

/-! ### statements -/
/-- what follows the statements of a suite -/
def thenR (k : TEnv → Mem → Prop) (R : RK) : RK
  | .nx τ, M => k τ M
  | o, M => R o M
/-- a loop's body -/
def loopR (N k : TEnv → Mem → Prop) (R : RK) : RK
  | .nx τ, M => N τ M
  | .ct τ, M => N τ M
  | .bk τ, M => k τ M
  | .rt d, M => R (.rt d) M
  | .ex x τ, M => R (.ex x τ) M
section
variable {X : Cx} {T : Bool} {τ : TEnv} {M : Mem} {R : RK} {e a b c : Expr} {es : List Expr} {pos : Pos} {rest : List Stmt}
theorem ex_out {K : PySem.W.Frag} {G H : Hp} {D : Ends} {W : WX} {σ : L2.St} (hP : CS' K G M H R D W) (hE : DenE K τ G σ) : CX' K G M H (fun x M' => R (.ex x τ) M') (fun c d H2 => W c d σ H2) :=
  fun x M2 G2 H2 d r s h dx => hP _ _ _ _ r s h σ d (hE.up s.gg) dx
theorem ws_nil (h : R (.nx τ) M) : WS X T [] τ M R := .mk fun W tk σ G H hE hH D hR => tWSs_of pss_nil (hR _ _ _ _ h Stp.refl hH σ hE)
/-- a statement by its own rule, the rest behind it -/
theorem ws_step {st : Stmt} {t : TS} {D : Ends} {σ : L2.St} {H : Hp} (h : PS X st t) (q : t { D with nx := tWSs X T rest D } σ H) : tWSs X T (st :: rest) D σ H := ws_step' (tWS_of h q)
theorem ws_ret (h : EX X T e τ M (fun d M1 => R (.rt d) M1) (fun x M1 => R (.ex x τ) M1)) : WS X T (.Return (some e) pos :: rest) τ M R := .mk fun W tk σ G H hE hH D hR =>
  ws_step' (s_ret <| h.run W tk σ G H hE hH _ (fun d M2 v G2 H2 r s h2 dv => hR _ _ _ _ r s h2 v dv) (ex_out hR hE))
theorem ws_expr (h : EX X T e τ M (fun _ M1 => WS X T rest τ M1 R) (fun x M1 => R (.ex x τ) M1)) (hs : swapsWith e none pos.line X.env = pure false := by rfl) : WS X T (.Expr e pos :: rest) τ M R := .mk fun W tk σ G H hE hH D hR =>
  ws_step' (s_expr hs <| h.run W tk σ G H hE hH _ (fun d M2 v G2 H2 r s h2 dv => r.run W tk σ G2 H2 (hE.up s.gg) h2 D (hR.step s)) (ex_out hR hE))
/-- x = e -/
theorem ws_set {x : Str} {p : Pos} (h : EX X T e τ M (fun d M1 => WS X T rest (τ.set (ixIn X.N x) (some d)) M1 R) (fun x M1 => R (.ex x τ) M1)) (hi : X.N[ixIn X.N x]? = some x := by rfl) (hx : Loc X.env.scope x := by first | exact Or.inl rfl | exact Or.inr rfl) (hN : X.N.Nodup := by first | decide +kernel | exact of_decide_eq_true (by kernel_rfl))
    (hs : swapsWith e (some (.Name x p)) pos.line X.env = pure false := by rfl) (hf : X.fn x = true ∨ X.env.scope.names.lookup x = some .local := by first | exact .inl rfl | exact .inr rfl | assumption) : WS X T (.Assign [.Name x p] e pos :: rest) τ M R := .mk fun W tk σ G H hE hH D hR => tWSs_len fun hl =>
  ws_step' (s_set hN hi hx hs hf <| h.run W tk σ G H hE hH _ (fun d M2 v G2 H2 r s h2 dv => by
    have hlt : ixIn X.N x < σ.length := by rw [hl]; exact (List.getElem?_eq_some_iff.mp hi).1
    exact r.run W tk _ G2 H2 ((hE.up s.gg).set hlt dv) h2 D (hR.step s)) (ex_out hR hE))
theorem ws_if {t : Expr} {p q : List Stmt} (h : ET X T t τ M (fun k M1 => (k = true → WS X T p τ M1 (thenR (fun τ' M' => WS X T rest τ' M' R) R)) ∧ (k = false → WS X T q τ M1 (thenR (fun τ' M' => WS X T rest τ' M' R) R))) (fun x M1 => R (.ex x τ) M1)) :
    WS X T (.If t p q pos :: rest) τ M R := .mk fun W tk σ G H hE hH D hR => by
  refine ws_step' (s_if ?_)
  refine h.run W tk σ G H hE hH _ ?_ (ex_out hR hE)
  intro k M1 G1 H1 ⟨h1, h2⟩ s1 hs1
  have fin : CS' X.K G1 M1 H1 (thenR (fun τ' M' => WS X T rest τ' M' R) R) { D with nx := tWSs X T rest D } W := fun o M2 G2 H2 r s2 hs2 => by
    cases o with
    | nx τ' => exact fun σ' hE' => r.run W tk σ' G2 H2 hE' hs2 D (hR.step (s1.trans s2))
    | rt d => exact hR _ _ _ _ r (s1.trans s2) hs2
    | bk τ' => exact hR _ _ _ _ r (s1.trans s2) hs2
    | ct τ' => exact hR _ _ _ _ r (s1.trans s2) hs2
    | ex x τ' => exact hR _ _ _ _ r (s1.trans s2) hs2
  cases k with
  | true => exact iteT ((h1 rfl).run W tk σ G1 H1 (hE.up s1.gg) hs1 _ fin)
  | false => exact iteF ((h2 rfl).run W tk σ G1 H1 (hE.up s1.gg) hs1 _ fin)
/-- tg = e, any target -/
theorem ws_asg {tg : Expr} (h : EX X T e τ M (fun d M1 => GX X T tg d τ M1 (fun τ2 M2 => WS X T rest τ2 M2 R) (fun x M2 => R (.ex x τ) M2)) (fun x M1 => R (.ex x τ) M1))
    (hs : swapsWithSole [tg] e pos.line X.env = pure false := by rfl) (hw : swappedStores [tg] e X.env = pure none := by rfl) (h1 : (assignEach [tg] X.env).map (·.2) = [assign tg X.env] := by rfl) : WS X T (.Assign [tg] e pos :: rest) τ M R := .mk fun W tk σ G H hE hH D hR =>
  ws_step' (s_asg hs hw h1 <| h.run W tk σ G H hE hH _ (fun d M2 v G2 H2 r s h2 dv =>
    r.run W tk σ G2 H2 v (hE.up s.gg) h2 dv _ (fun τ3 M3 G3 H3 σ3 r3 s3 h3 e3 => r3.run W tk σ3 G3 H3 e3 h3 D (hR.step (s.trans s3))) ((ex_out hR hE).step s)) (ex_out hR hE))
/-! ### targets -/
theorem gx_name {x : Str} {p : Pos} {d : Dat} {P : TEnv → Mem → Prop} {E : XKx} (h : P (τ.set (ixIn X.N x) (some d)) M) (hi : X.N[ixIn X.N x]? = some x := by rfl) (hx : Loc X.env.scope x := by first | exact Or.inl rfl | exact Or.inr rfl) (hN : X.N.Nodup := by first | decide +kernel | exact of_decide_eq_true (by kernel_rfl))
    (hf : X.fn x = true ∨ X.env.scope.names.lookup x = some .local := by first | exact .inl rfl | exact .inr rfl | assumption) : GX X T (.Name x p) d τ M P E := .mk fun W tk σ G H v hE hH dv Q hP hX => tWG_len fun hl => by
  refine tWG_of (pg_name hN hi hx hf) ?_
  have hlt : ixIn X.N x < σ.length := by rw [hl]; exact (List.getElem?_eq_some_iff.mp hi).1
  exact hP _ _ _ _ _ h Stp.refl hH (hE.set hlt dv)
end
end Kh

set_option Elab.async false
set_option linter.all false
set_option maxRecDepth 100000
set_option maxHeartbeats 1000000
namespace Kh
open PySem PySem.Spec L2
open PyProof.Rows (isTrue_plain)

/-! ### what a def promises -/
/-- the arguments, the cells it is told of; what is wanted of its value and the cells behind it; of what it lets out -/
abbrev Spc := List Dat → Mem → PK' → XKx → Prop
def toSp (K : PySem.W.Frag) (S : Spc) : Sp := fun vs H Q E => ∃ G ds M P PE, DenL K G ds vs ∧ Hst K G M H ∧ S ds M P PE ∧ CE' K G M H P Q ∧ CX' K G M H PE E
abbrev FnD (P : Program) (w : World) (K : PySem.W.Frag) (mg : Str → Option Value) (base : Heap) (k : Nat) (f : Addr) (fd : FuncData) (ps : List Str) (S : Spc) : Prop := FnOk P w K mg base (L2.CX P w) k f fd ps (toSp K S)
/-- a part of the cells is handed to the def, the rest stays -/
def AP (S : Spc) (ds : List Dat) (M : Mem) (P : PK') (E : XKx) : Prop :=
  ∃ Mc Mr, M.Perm (Mc ++ Mr) ∧ S ds Mc (fun d Mc2 => ∃ M2, (Mc2 ++ Mr).Perm M2 ∧ P d M2) (fun x Mc2 => ∃ M2, (Mc2 ++ Mr).Perm M2 ∧ E x M2)
theorem ap_toSp {K : PySem.W.Frag} {S : Spc} {ds : List Dat} {M : Mem} {P : PK'} {E : XKx} {G H : Hp} {vs : List V} {Q : VK} {T : XK} (h : AP S ds M P E) (dv : DenL K G ds vs) (hH : Hst K G M H) (hP : CE' K G M H P Q) (hX : CX' K G M H E T) : toSp K S vs H Q T := by
  obtain ⟨Mc, Mr, pm, hs⟩ := h
  have hH' := hH.perm pm
  refine ⟨G, ds, Mc, _, _, dv, hH'.left, hs, ?_, ?_⟩
  · intro d Mc2 v G2 H2 ⟨M2, p2, hp⟩ s h2 dd
    obtain ⟨s3, h3⟩ := Stp.frame hH' s h2
    exact hP d M2 v G2 H2 hp (s3.perm pm.symm p2) (h3.perm p2) dd
  · intro x Mc2 G2 H2 d ⟨M2, p2, hp⟩ s h2 dd
    obtain ⟨s3, h3⟩ := Stp.frame hH' s h2
    exact hX x M2 G2 H2 d hp (s3.perm pm.symm p2) (h3.perm p2) dd

/-- the ends of a def -/
def retR (P : PK') (E : XKx) : RK
  | .rt d, M => P d M
  | .nx _, M => P .non M
  | .ex x _, M => E x M
  | _, _ => False
def startT (N : List Str) (ds : List Dat) : TEnv := ds.map some ++ List.replicate (N.length - ds.length) none
theorem denE_start {K : PySem.W.Frag} {G : Hp} {N : List Str} {ds : List Dat} {vs : List V} (h : DenL K G ds vs) : DenE K (startT N ds) G (L2.start N vs) := fun i d e => by
  unfold startT at e
  have hi : i < ds.length := by
    by_cases hi : i < ds.length
    · exact hi
    · rw [List.getElem?_append_right (by simpa using hi), List.getElem?_replicate] at e
      split at e <;> cases e
  rw [List.getElem?_append_left (by simpa using hi), List.getElem?_map] at e
  cases q : ds[i]? with
  | none => rw [q] at e; cases e
  | some d' =>
    rw [q] at e; cases e
    obtain ⟨v, h1, h2⟩ := h.get q
    refine ⟨v, ?_, h2⟩
    unfold L2.start
    rw [List.getElem?_append_left (by rw [List.length_map, h.length]; exact hi), List.getElem?_map, h1]
    rfl
theorem cs_ret {K : PySem.W.Frag} {G H : Hp} {M : Mem} {P : PK'} {E : XKx} {Q : VK} {W : WX} (hP : CE' K G M H P Q) (hX : CX' K G M H E (fun c d H2 => ∀ σ, W c d σ H2)) : CS' K G M H (retR P E) { nx := fun _ H' => Q .non H', rt := Q } W := fun o M2 G2 H2 r s h => by
  cases o with
  | nx τ => exact fun σ _ => hP _ _ _ _ _ r s h den_non
  | rt d => exact fun v dv => hP _ _ _ _ _ r s h dv
  | bk τ => exact r.elim
  | ct τ => exact r.elim
  | ex x τ => exact fun σ d _ dx => hX _ _ _ _ _ r s h dx σ
section
variable {P : Program} {w : World} {K : PySem.W.Frag} {mg : Str → Option Value} {base : Heap}
/-- binding parameters, one of them a local: a token is out behind it -/
theorem bind_toks {M : Model} {A : Around} {E : Value → Shared → Prop} {s₀ : Shared} {env : Env} (f : Str × Value → PUnit → Sem (ForInStep PUnit)) (hf : ∀ n v u, f (n, v) u = (do storeName env n v; pure (.yield ⟨⟩))) (hk : env.scope.kind = .function) :
    ∀ (bs : List (Str × Value)) (m cm : Str → Option Value) (s : Shared) (Q : PUnit → Shared → Prop), InCallC s₀ env.locals m env.cells cm s →
      (∀ x ∈ bs, env.kindOf x.1 = some .local ∨ (env.kindOf x.1 = some .cell ∧ (env.cells.lookup x.1).isSome = true)) → (∃ x ∈ bs, env.kindOf x.1 = some .local) →
      (∀ s', 1 ≤ s'.toks → InCallC s₀ env.locals (bindL env.kindOf bs m) env.cells (bindC env.kindOf bs cm) s' → Q ⟨⟩ s') → wpAny M A (forIn bs ⟨⟩ f) Q E s
  | [], m, cm, s, Q, x, _, ⟨y, hy, _⟩, h => by cases hy
  | (n, v) :: r, m, cm, s, Q, x, kinds, he, h => by
    rw [List.forIn_cons, hf]
    have kr : ∀ y ∈ r, env.kindOf y.1 = some .local ∨ (env.kindOf y.1 = some .cell ∧ (env.cells.lookup y.1).isSome = true) := fun y hy => kinds y (List.mem_cons_of_mem _ hy)
    rcases kinds (n, v) List.mem_cons_self with hl | ⟨hl, hc⟩
    · refine wpAny_bind (wpAny_bind (wpAny_storeName_local hl x.toInCall.ns (fun h' hn' hs' => wpAny_pure ?_) (by rw [hk]; rfl)))
      have x' : InCallC s₀ env.locals (fun y => if y = n then some v else m y) env.cells cm { s with heap := h', toks := s.toks + 1 } := by
        refine ⟨⟨?_, hn', fun b o e => ?_, x.toInCall.fresh⟩, fun k c hc => ?_, x.apart, x.above⟩
        · obtain ⟨h₁, tk, rfl⟩ := x.toInCall.same
          exact ⟨h', _, rfl⟩
        · exact hs'.extBut b o (Nat.ne_of_lt (Nat.lt_of_lt_of_le (Heap.lt_size e) x.toInCall.fresh)) (x.toInCall.keep b o e)
        · exact (x.cell k c hc).sameBut hs' (Nat.ne_of_gt (x.above k c (mem_of_lookup hc)))
      refine wpAny_with_toks (n := 1) (show 1 ≤ s.toks + 1 by omega) ?_
      refine wpAny_mono (E := fun e s' => E e s') (wpAny_bindParams f hf hk r _ _ _ (fun u s'' => 1 ≤ s''.toks → Q u s'') x' kr fun s'' x'' k => h s'' k ?_) (fun _ _ q => q) fun _ _ q _ => q
      unfold bindL bindC; rw [if_pos hl, if_pos hl]; exact x''
    · obtain ⟨c, hc⟩ := Option.isSome_iff_exists.mp hc
      have hnl : ¬ env.kindOf n = some .local := by rw [hl]; decide
      have hr : ∃ y ∈ r, env.kindOf y.1 = some .local := by
        obtain ⟨y, hy, hy2⟩ := he
        rcases List.mem_cons.mp hy with rfl | hy
        · exact absurd hy2 hnl
        · exact ⟨y, hy, hy2⟩
      refine wpAny_bind (wpAny_bind (stCC x hk hl hc fun s' x' => wpAny_pure (bind_toks f hf hk r _ _ s' Q x' kr hr fun s'' k x'' => h s'' k ?_)))
      unfold bindL bindC; rw [if_neg hnl, if_neg hnl]; exact x''
theorem newEnv_toks {M : Model} {A : Around} {E : Value → Shared → Prop} {s : Shared} {scope : Scope} {globals : Addr} {bs : List (Str × Value)} {qual : Str} {func : Option Addr} {code : Value} {builtins : Addr} {Q : Env → Shared → Prop}
    (hk : scope.kind = .function)
    (kinds : ∀ x ∈ bs, scope.names.lookup x.1 = some .local ∨ (scope.names.lookup x.1 = some .cell ∧ ((cellsFrom (s.heap.objs.size + 1) scope.names []).lookup x.1).isSome = true)) (he : ∃ x ∈ bs, scope.names.lookup x.1 = some .local)
    (hQ : ∀ env, env = newEnv scope s.heap.objs.size globals (cellsFrom (s.heap.objs.size + 1) scope.names []) qual func code none builtins →
      ∀ s', 1 ≤ s'.toks → InCallC s env.locals (bindL env.kindOf bs fun _ => none) env.cells (bindC env.kindOf bs fun _ => none) s' → Q env s') :
    wpAny M A (newFunctionEnv scope globals [] bs qual func code none builtins) Q E s := by
  simp only [newFunctionEnv, Option.isSome_none, Bool.false_eq_true, if_false]
  refine wpAny_bind (wpAny_alloc (wpAny_bind (wpAny_layCells _ (fun name kind cells => by cases hkc : kind == NameKind.cell <;> simp [hkc]) _ _ _ _ ?_)))
  have ok := cellsFrom_ok scope.names (s.heap.push { cls := .type "frame", data := .dict #[] }) (s.heap.objs.size + 1) [] ⟨fun _ _ hm => (nomatch hm), List.Pairwise.nil⟩ (by rw [Heap.size_push]; exact Nat.le_refl _)
  rw [Heap.size_push] at ok
  rw [show ({ s with heap := s.heap.push { cls := .type "frame", data := .dict #[] } } : Shared).heap.objs.size = s.heap.objs.size + 1 from Heap.size_push ..]
  exact wpAny_bind (bind_toks (s₀ := s) (env := newEnv scope s.heap.objs.size globals (cellsFrom (s.heap.objs.size + 1) scope.names []) qual func code none builtins) _ (fun _ _ _ => rfl) hk bs (fun _ => none) (fun _ => none) _ _
    ⟨⟨⟨_, _, rfl⟩, (Heap.Ns.new s.heap (.type "frame")).keeps (pushCells_keeps _ _), fun b o e => pushCells_keeps _ _ b o (Heap.get?_push_of_some _ e), Nat.le_refl _⟩, fun n c hc => (ok.empty n c (mem_of_lookup hc)).1, ok.apart, fun n c hm => (ok.empty n c hm).2⟩
    kinds he fun s' k x => wpAny_pure (hQ _ rfl s' k x))
/-- a body, at its entry: with T where a parameter is a local -/
theorem fn_w {CX : CXT} {k : Nat} {f : Addr} {name qual : Str} {params : Arguments} {body : List Stmt} {scope : Scope} {dV kV doc pm cdv ct oc : Value} {an od : Option Addr} {T : Bool}
    {osl : Array (Option Value)} {N ps : List Str} {sp : Sp} (lk : K.lookup f = some ⟨oc, od, .func (PySem.W.fnOf name qual params body scope dV kV doc pm an cdv ct), osl⟩) (hcd : PySem.W.codeIn K cdv qual = true) (S : FnScope N ps scope) (hT : T = true → ∃ x ∈ ps, scope.names.lookup x = some .local)
    (len : ∀ vs H Q E, sp vs H Q E → vs.length = ps.length)
    (hbody : ∀ (A : Around) (outer : List Env) (s : Shared) (H : Hp) (vs : List V) (Q : VK) (E : XK), Room k (A.deeper (PyProof.Rows.envOfC qual scope s.heap.objs.size f cdv)) → sp vs H Q E →
      tWSs (cxOf CX P w K mg base N qual scope f cdv A outer s H E) T body { nx := fun _ H' => Q .non H', rt := Q } (L2.start N vs) H) :
    FnOk P w K mg base CX (k + 1) f (PySem.W.fnOf name qual params body scope dV kV doc pm an cdv ct) ps sp := by
  refine ⟨len, fun A outer s H args us vs Q E hr e0 hb r hsp => ?_⟩
  have hl := len _ _ _ _ hsp
  have KX : K.In s.heap := e0.mod.kin.keeps fun b o e => (e0.bs b o e).1
  have lim : s.heap.NoLimit := e0.mod.nolimit.keeps fun b o e => (e0.bs b o e).1
  have kinds : ∀ y ∈ ps.zip us, scope.names.lookup y.1 = some .local ∨ (scope.names.lookup y.1 = some .cell ∧ ((cellsFrom (s.heap.objs.size + 1) scope.names []).lookup y.1).isSome = true) := fun ⟨n, v⟩ hy => by
    rcases S.par n (List.of_mem_zip hy).1 with q | q
    · exact .inl q
    · exact .inr ⟨q, PySem.W.cellsFrom_some _ _ _ (.inl q)⟩
  refine codeAny_call_function hr.depth (KX _ _ lk) rfl S.co S.gen rfl (PySem.W.codeRec_of KX hcd) (hb _ _ _ _ ?_)
  have main : ∀ env, env = newEnv scope s.heap.objs.size mainGlobals (cellsFrom (s.heap.objs.size + 1) scope.names []) (qual ++ ".<locals>.") (some f) cdv none builtinsNs → ∀ s1, Tk T s1 → InCallC s env.locals (bindL env.kindOf (ps.zip us) fun _ => none) env.cells (bindC env.kindOf (ps.zip us) fun _ => none) s1 →
      s1.heap.NoLimit ∧ codeAny (model P w) A (.func body env) (CR CX outer P w H s Q E) s1 := by
    intro env he s1 hk x
    subst he
    refine ⟨lim.keeps x.toInCall.keep, codeAny_func ?_⟩
    have ht := hbody A outer s H vs Q E (hr.deeper _) hsp
    have I : Inv (cxOf CX P w K mg base N qual scope f cdv A outer s H E) [] (L2.start N vs) H s1 := inv_start S hr.hd e0 hl r x
    refine wpAny_mono (ht [] s1 hk I) (fun fl s' hs => ?_) fun e s' hs => hs
    cases fl with
    | ret u =>
      obtain ⟨v, σ', H', J, rv, q⟩ := hs
      exact ⟨v, H', J.os, J.bare, J.base, J.hok, rv, q⟩
    | next =>
      obtain ⟨σ', H', J, q⟩ := hs
      exact ⟨V.non, H', J.os, J.bare, J.base, J.hok, (rfl : Value.none = Value.none), q⟩
    | brk => obtain ⟨_, _, _, q⟩ := hs; exact False.elim q
    | cont => obtain ⟨_, _, _, q⟩ := hs; exact False.elim q
  cases T with
  | false => exact wpAny_newFunctionEnv_cells S.kind kinds fun env he s1 x => main env he s1 tk_f x
  | true =>
    refine newEnv_toks S.kind kinds ?_ fun env he s1 k x => main env he s1 (fun _ => k) x
    obtain ⟨x, hx, h2⟩ := hT rfl
    obtain ⟨i, hi, e⟩ := List.getElem_of_mem hx
    have hul : us.length = ps.length := by rw [← r.length, hl]
    exact ⟨(ps[i], us[i]'(by omega)), List.mem_of_getElem? (i := i) (by rw [List.getElem?_zip_eq_some]; exact ⟨List.getElem?_eq_getElem hi, List.getElem?_eq_getElem _⟩), by rw [e]; exact h2⟩
/-- THE RULE for a def that may raise (or not) -/
theorem fn_d {x qual : Str} {st : Stmt} {f : Addr} {fd : FuncData} {N ps : List Str} {k : Nat} {S : Spc} (T : Bool) (F : Fun K x qual st f fd) (Sc : FnScope N ps (defScope st)) (hT : T = true → ∃ x ∈ ps, (defScope st).names.lookup x = some .local) (len : ∀ ds M P E, S ds M P E → ds.length = ps.length)
    (body : ∀ (cdv : Value) (A : Around) (outer : List Env) (s : Shared) (H : Hp) (E : XK), Room k (A.deeper (PyProof.Rows.envOfC qual (defScope st) s.heap.objs.size f cdv)) → ∀ ds M Pd PE, S ds M Pd PE →
      WS (cxOf (L2.CX P w) P w K mg base N qual (defScope st) f cdv A outer s H E) T (defBody st) (startT N ds) M (retR Pd PE)) : FnD P w K mg base (k + 1) f fd ps S := by
  obtain ⟨oc, od, kV, doc, pm, an, cdv, ct, osl, rfl, lk, hcd⟩ := F.ex
  refine fn_w (T := T) lk hcd Sc hT (fun vs H Q E h => ?_) (fun A outer s H vs Q E hr h => ?_)
  · obtain ⟨G, ds, M, Pd, PE, dv, _, hs, _⟩ := h
    rw [dv.length]; exact len _ _ _ _ hs
  · obtain ⟨G, ds, M, Pd, PE, dv, hH, hs, hP, hX⟩ := h
    exact (body cdv A outer s H E hr ds M Pd PE hs).run _ (takes_of rfl rfl rfl rfl) _ G H (denE_start dv) hH _ (cs_ret hP fun x M2 G2 H2 d p s h dx σ => hX x M2 G2 H2 d p s h dx)
/-- the law's own def: nothing leaves it -/
theorem fn_law {x qual : Str} {st : Stmt} {f : Addr} {fd : FuncData} {N ps : List Str} {k : Nat} {S : Spc} (T : Bool) (F : Fun K x qual st f fd) (Sc : FnScope N ps (defScope st)) (hT : T = true → ∃ x ∈ ps, (defScope st).names.lookup x = some .local) (len : ∀ ds M P E, S ds M P E → ds.length = ps.length)
    (body : ∀ (cdv : Value) (A : Around) (outer : List Env) (s : Shared) (H : Hp), Room k (A.deeper (PyProof.Rows.envOfC qual (defScope st) s.heap.objs.size f cdv)) → ∀ ds M Pd PE, S ds M Pd PE →
      WS (cxOf CX0 P w K mg base N qual (defScope st) f cdv A outer s H L2.E0).nox T (defBody st) (startT N ds) M (retR Pd E0')) : FnOk P w K mg base CX0 (k + 1) f fd ps (toSp K S) := by
  obtain ⟨oc, od, kV, doc, pm, an, cdv, ct, osl, rfl, lk, hcd⟩ := F.ex
  refine fn_w (T := T) lk hcd Sc hT (fun vs H Q E h => ?_) (fun A outer s H vs Q E hr h => ?_)
  · obtain ⟨G, ds, M, Pd, PE, dv, _, hs, _⟩ := h
    rw [dv.length]; exact len _ _ _ _ hs
  · obtain ⟨G, ds, M, Pd, PE, dv, hH, hs, hP, hX⟩ := h
    intro pins s1 tk I
    have q := (body cdv A outer s H hr ds M Pd PE hs).run _ takes0 _ G H (denE_start dv) hH _ (cs_ret hP fun x M2 G2 H2 d p => p.elim) pins s1 tk (I.wish _)
    exact wpAny_mono q (fun _ _ z => z.unwish) fun _ _ z => False.elim z
end

/-! ### calls -/
section
variable {X : Cx} {T : Bool} {τ : TEnv} {M : Mem} {P : PK'} {E : XKx} {e o a b c : Expr} {es : List Expr} {pos p apos : Pos} {k : Nat} {f C : Addr} {fd : FuncData} {ps : List Str} {S : Spc} {dvs : List V} {df : List Dat} {dsv : List Value} {x m : Str}
theorem run_d {pins : List (Addr × Obj)} {σ : L2.St} {H : Hp} {s : Shared} {Q : VK} {us : List Value} {vs : List V} {W : WX} (F : FnD X.prog X.w X.K X.mg X.base k f fd ps S) (hr : Room k X.A) (hb : Binds X.K fd ps dsv) (hd : Vals dvs dsv) (tk : Takes X W)
    (I : Inv X pins σ H s) (r : Vals vs us) (h : toSp X.K S (vs ++ dvs) H Q (fun c d H2 => W c d σ H2)) : wpAny (model X.prog X.w) X.A (call (.ref f) us) (EP X pins σ Q) X.xe s :=
  run_fnSD (E := fun σ c d H2 => W c d σ H2) F hr hb hd (fun pins H s e s' I c => tk e s' (XE.of_call I (fun cls d H' h => h) c)) I r h
/-- f(e, ..) -/
theorem ex_call (F : FnD X.prog X.w X.K X.mg X.base k f fd ps S) (hr : Room k X.A) (hm : X.mg x = some (.ref f)) (hk : PySem.W.keepIn X.K (.ref f) = true) (hb : Binds X.K fd ps dsv) (hd : Vals dvs dsv) (hdf : ∀ G, DenL X.K G df dvs)
    (h : EA X T (e :: es) τ M (fun ds M1 => AP S (ds ++ df) M1 P E) E) (hg : Gl X x := by rfl) (hdb : (x == ("__debug__" : Str)) = false := by decide) (he : starEach (e :: es) X.env = (false, eval e X.env) :: starEach es X.env := by rfl) (hpl : (backTo pos (starEach es X.env)).any (·.1) = false := by rfl) :
    EX X T (.Call (.Name x p) (e :: es) [] pos) τ M P E := by
  refine .mk ?_; intro W tk σ G H hE hH Q hP hX pins s k0 I
  refine wpAny_Call_Name_kw (ld_glob I hg hm ?_ hdb)
  have hA := h.run W tk σ G H hE hH (fun vs H1 => toSp X.K S (vs ++ dvs) H1 Q (fun c d H2 => W c d σ H2)) (fun ds M1 vs G1 H1 ha s1 h1 dv => ap_toSp ha (dv.append (hdf G1)) h1 (hP.step s1) (hX.step s1)) hX
  refine PySem.W.callWith_K (h₀ := X.base) I.ok.mod.kin hk (thn (hA pos pins s k0 I) fun us s1 ⟨vs, H1, I1, r, q⟩ => ⟨I1.kIn, ?_⟩) he hpl
  exact run_d F hr hb hd tk I1 r q
/-- an instance of the class at C without a field m -/
def IsI (C : Addr) (m : Str) (M : Mem) (d : Dat) : Prop := (∃ ns ds, d = .obj C ns ds ∧ m ∉ ns) ∨ ∃ p dx fs, d = .raw (.ref p) ∧ (p, MC.ins C dx fs) ∈ M ∧ m ∉ fs.map (·.1)
theorem lookup_none_of {α : Type} : ∀ {l : List (Str × α)} {m : Str}, m ∉ l.map (·.1) → l.lookup m = none
  | [], _, _ => rfl
  | (n, v) :: r, m, h => by
    have h1 : (m == n) = false := by
      cases q : m == n with
      | false => rfl
      | true => exact absurd (List.mem_map.mpr ⟨(n, v), List.mem_cons_self, (eq_of_beq q).symm⟩) h
    rw [List.lookup_cons, h1]
    exact lookup_none_of fun z => h (List.mem_cons_of_mem _ z)
theorem zip_fst_sub {α β : Type} {a : α} : ∀ {l : List α} {r : List β}, a ∈ (l.zip r).map (·.1) → a ∈ l
  | [], _, h => by simp at h
  | _ :: _, [], h => by simp at h
  | x :: l, y :: r, h => by
    rw [List.zip_cons_cons, List.map_cons] at h
    rcases List.mem_cons.mp h with e | h
    · exact List.mem_cons.mpr (.inl e)
    · exact List.mem_cons_of_mem _ (zip_fst_sub h)
theorem IsI.get {K : PySem.W.Frag} {G H : Hp} {d : Dat} {v : V} (h : IsI C m M d) (hH : Hst K G M H) (dv : Den K G d v) : ∃ a dx fs, v = .ref a ∧ H a = some (.ins C dx fs) ∧ fs.lookup m = none := by
  rcases h with ⟨ns, ds, rfl, hm⟩ | ⟨q, dx, fs, rfl, hq, hm⟩
  · obtain ⟨a, dx, vs, rfl, h1, h2, h3⟩ := dv.obj_inv
    exact ⟨a, dx, _, rfl, hH.sub _ _ h1, lookup_none_of fun z => hm (zip_fst_sub z)⟩
  · obtain ⟨vs, h1, h2, h3⟩ := hH.mem _ hq
    exact ⟨q, dx, vs, dv.raw_inv, h1, lookup_none_of fun z => hm (by rw [← h3.1]; exact z)⟩
/-- e.f, a property -/
theorem ex_prop {q g : Addr} {n : Str} (c : Cls X.K C) (hp : PropOf X.K C n q g) (F : FnD X.prog X.w X.K X.mg X.base k g fd ps S) (hr : Room (k + 1) X.A) (hb : Binds X.K fd ps [])
    (h : EX X T e τ M (fun d M1 => (∃ m, IsI C m M1 d) ∧ AP S [d] M1 P E0') E) (hab : attributeBase e n X.env (eval e X.env) = eval e X.env := by rfl) : EX X T (.Attribute e n pos) τ M P E := by
  refine .mk ?_; intro W tk σ G H hE hH Q hP hX
  intro pins s k0 I
  have hO := h.run W tk σ G H hE hH (fun x H1 => ∃ a dx fs, x = .ref a ∧ H1 a = some (.ins C dx fs) ∧ toSp X.K S [x] H1 Q L2.E0) (fun d M1 v G1 H1 ⟨⟨m, hi⟩, ha⟩ s1 h1 dv => by
    obtain ⟨a, dx, fs, e1, e2, e3⟩ := hi.get h1 dv
    exact ⟨a, dx, fs, e1, e2, ap_toSp ha (.cons dv .nil) h1 (hP.step s1) noX⟩) hX
  refine attr_of hab (thn (hO pins s k0 I) fun u s1 ⟨x, H1, I1, rx, a, dx, fs, ex, ea, q⟩ => ?_)
  subst ex
  obtain rfl : u = Value.ref a := rx
  exact getprop_ok (dvs := []) I1 ea c hp F hr hb .nil passL q
/-- a field of an instance -/
def FldI (K : PySem.W.Frag) (n : Str) (M : Mem) (d z : Dat) : Prop := ∃ C, Cls K C ∧ NoAttr K C n ∧ ((∃ ns ds, d = .obj C ns ds ∧ ns.length = ds.length ∧ (ns.zip ds).lookup n = some z) ∨ ∃ p dx fs, d = .raw (.ref p) ∧ (p, MC.ins C dx fs) ∈ M ∧ fs.lookup n = some z)
theorem denL_lookup {K : PySem.W.Frag} {G : Hp} : ∀ {ns : List Str} {ds : List Dat} {vs : List V} {n : Str} {z : Dat}, DenL K G ds vs → (ns.zip ds).lookup n = some z → ∃ v, (ns.zip vs).lookup n = some v ∧ Den K G z v
  | [], _, _, _, _, _, h => by simp at h
  | _ :: _, [], _, _, _, _, h => by simp at h
  | y :: ns, d :: ds, _, n, z, q, h => by
    obtain ⟨v, r, rfl, hv, t⟩ := q.cons_inv
    rw [List.zip_cons_cons, List.lookup_cons] at h ⊢
    cases e : n == y with
    | true => rw [e] at h; cases h; exact ⟨v, rfl, hv⟩
    | false => rw [e] at h; exact denL_lookup t h
theorem denF_lookup {K : PySem.W.Frag} {G : Hp} : ∀ {fs : List (Str × Dat)} {vs : List (Str × V)} {n : Str} {z : Dat}, DenF K G fs vs → fs.lookup n = some z → ∃ v, vs.lookup n = some v ∧ Den K G z v
  | [], _, _, _, _, h => by simp at h
  | (y, d) :: fs, [], _, _, q, h => by have := q.1; simp at this
  | (y, d) :: fs, (y', v) :: vs, n, z, q, h => by
    obtain ⟨h1, h2⟩ := q
    rw [List.map_cons, List.map_cons] at h1
    obtain ⟨e1, e2⟩ := List.cons.inj h1
    have e1 : y' = y := e1
    subst e1
    obtain ⟨v', r, e, hv, t⟩ := (show DenL K G (d :: fs.map (·.2)) (v :: vs.map (·.2)) from h2).cons_inv
    obtain ⟨rfl, rfl⟩ := List.cons.inj e
    rw [List.lookup_cons] at h ⊢
    cases e : n == y' with
    | true => rw [e] at h; cases h; exact ⟨v, rfl, hv⟩
    | false => rw [e] at h; exact denF_lookup ⟨e2, t⟩ h
theorem v_fld {n : Str} {σ : L2.St} {H : Hp} {Q : VK} (hb : attributeBase e n X.env (eval e X.env) = eval e X.env) (q : tW X T e σ H fun x H1 => ∃ a C dx fs v, x = .ref a ∧ H1 a = some (.ins C dx fs) ∧ Cls X.K C ∧ NoAttr X.K C n ∧ fs.lookup n = some v ∧ Q v H1) :
    tW X T (.Attribute e n pos) σ H Q := fun pins s k0 I =>
  attr_of hb (thn (q pins s k0 I) fun u s1 ⟨x, H1, I1, rx, a, C, dx, fs, v, ex, ea, hc, hn, l, q⟩ => by
    subst ex
    obtain rfl : u = Value.ref a := rx
    exact getattr_ok I1 ea hc hn l fun u' s2 I2 ru => ⟨v, H1, I2, ru, q⟩)
theorem ex_fld {n : Str} (h : EX X T e τ M (fun d M1 => ∃ z, FldI X.K n M1 d z ∧ P z M1) E) (hb : attributeBase e n X.env (eval e X.env) = eval e X.env := by rfl) : EX X T (.Attribute e n pos) τ M P E := by
  refine .mk ?_; intro W tk σ G H hE hH Q hP hX
  refine v_fld hb ?_
  refine h.run W tk σ G H hE hH _ ?_ hX
  intro d M1 v G1 H1 ⟨z, ⟨C, hc, hn, hz⟩, hp⟩ s1 h1 dv
  rcases hz with ⟨ns, ds, rfl, hl, hz⟩ | ⟨q, dx, fs, rfl, hq, hz⟩
  · obtain ⟨a, dx, vs, rfl, g1, g2, g3⟩ := dv.obj_inv
    obtain ⟨u, l1, l2⟩ := denL_lookup g3 hz
    exact ⟨a, C, dx, _, u, rfl, h1.sub _ _ g1, hc, hn, l1, hP _ _ _ _ _ hp s1 h1 l2⟩
  · obtain ⟨vs, g1, g2, g3⟩ := h1.mem _ hq
    obtain ⟨u, l1, l2⟩ := denF_lookup g3 hz
    exact ⟨q, C, dx, vs, u, dv.raw_inv, g1, hc, hn, l1, hP _ _ _ _ _ hp s1 h1 l2⟩
/-! ### new instances -/
theorem hst_new {K : PySem.W.Frag} {G H : Hp} {x dx C : Addr} (h : Hst K G M H) (hx : H x = none) (hdx : H dx = none) (ne : dx ≠ x) :
    Hst K G ((x, .ins C dx []) :: M) (upd (upd H dx (.own x)) x (.ins C dx [])) ∧ Stp G M H G ((x, .ins C dx []) :: M) (upd (upd H dx (.own x)) x (.ins C dx [])) := by
  have nM : ∀ b ∈ adr M, b ≠ x ∧ b ≠ dx := fun b hb => ⟨fun e => h.there b hb (by rw [e]; exact hx), fun e => h.there b hb (by rw [e]; exact hdx)⟩
  have kp : ∀ b o, H b = some o → (upd (upd H dx (.own x)) x (.ins C dx [])) b = some o := fun b o e => by
    rw [upd_ne (ne_of_none e hx), upd_ne (ne_of_none e hdx)]; exact e
  have ha : adr ((x, MC.ins C dx []) :: M) = x :: dx :: adr M := rfl
  refine ⟨⟨fun b o e => kp b o (h.sub b o e), fun c hc => ?_, fun b hb => ?_, ?_⟩, ⟨Same.refl _, fun b o _ e => kp b o e, fun _ _ _ g => g, fun b hb => ?_⟩⟩
  · rcases List.mem_cons.mp hc with rfl | hc
    · exact ⟨[], upd_same, by rw [upd_ne ne]; exact upd_same, rfl, .nil⟩
    · exact (h.mem c hc).up (Same.refl _) fun b hb o e => kp b o e
  · rw [ha] at hb
    rcases List.mem_cons.mp hb with rfl | hb
    · exact h.sub.free hx
    · rcases List.mem_cons.mp hb with rfl | hb
      · exact h.sub.free hdx
      · exact h.out b hb
  · rw [ha]
    refine List.nodup_cons.mpr ⟨fun hm => ?_, List.nodup_cons.mpr ⟨fun hm => (nM dx hm).2 rfl, h.nd⟩⟩
    rcases List.mem_cons.mp hm with e | hm
    · exact ne e.symm
    · exact (nM x hm).1 rfl
  · rw [ha] at hb
    rcases List.mem_cons.mp hb with rfl | hb
    · exact .inr hx
    · rcases List.mem_cons.mp hb with rfl | hb
      · exact .inr hdx
      · exact .inl hb
theorem zip_map {α β : Type} : ∀ (l : List (α × β)), (l.map (·.1)).zip (l.map (·.2)) = l
  | [] => rfl
  | (a, b) :: l => by simp only [List.map_cons, List.zip_cons_cons, zip_map l]
/-- a cell of an instance is changed no more -/
theorem freezeI {K : PySem.W.Frag} {G H : Hp} {x dx C : Addr} {fs : List (Str × Dat)} (h : Hst K G ((x, .ins C dx fs) :: M) H) : ∃ G', Stp G ((x, .ins C dx fs) :: M) H G' M H ∧ Hst K G' M H ∧ Den K G' (.obj C (fs.map (·.1)) (fs.map (·.2))) (.ref x) := by
  obtain ⟨vs, h1, h2, h3, h4⟩ := h.mem _ List.mem_cons_self
  have ha : adr ((x, MC.ins C dx fs) :: M) = x :: dx :: adr M := rfl
  have gx : G x = none := h.out x (by rw [ha]; exact List.mem_cons_self)
  have gdx : G dx = none := h.out dx (by rw [ha]; exact List.mem_cons_of_mem _ List.mem_cons_self)
  have nd := h.nd
  rw [ha] at nd
  obtain ⟨n1, n2⟩ := List.nodup_cons.mp nd
  obtain ⟨n3, n4⟩ := List.nodup_cons.mp n2
  have ne : dx ≠ x := fun e => n1 (by rw [e]; exact List.mem_cons_self)
  have up : Same G (upd (upd G dx (.own x)) x (.ins C dx vs)) := fun b o e => by rw [upd_ne (ne_of_none e gx), upd_ne (ne_of_none e gdx)]; exact e
  have sub : Same (upd (upd G dx (.own x)) x (.ins C dx vs)) H := fun b o e => by
    by_cases c : b = x
    · subst c; rw [upd_same] at e; cases e; exact h1
    · rw [upd_ne c] at e
      by_cases c : b = dx
      · subst c; rw [upd_same] at e; cases e; exact h2
      · rw [upd_ne c] at e; exact h.sub b o e
  refine ⟨_, ⟨up, fun _ _ _ e => e, fun b _ hb g => ?_, fun b hb => .inl (by rw [ha]; exact List.mem_cons_of_mem _ (List.mem_cons_of_mem _ hb))⟩, ⟨sub, fun c hc => (h.mem c (List.mem_cons_of_mem _ hc)).up up fun _ _ _ e => e, fun b hb => ?_, n4⟩, ?_⟩
  · rw [ha] at hb
    rw [upd_ne (fun e => hb (by rw [e]; exact List.mem_cons_self)), upd_ne (fun e => hb (by rw [e]; exact List.mem_cons_of_mem _ List.mem_cons_self))]; exact g
  · rw [upd_ne (fun e => n1 (by rw [← e]; exact List.mem_cons_of_mem _ hb)), upd_ne (fun e => n3 (by rw [← e]; exact hb))]
    exact h.out b (by rw [ha]; exact List.mem_cons_of_mem _ (List.mem_cons_of_mem _ hb))
  · simp only [Den]
    refine ⟨x, dx, vs.map (·.2), rfl, ?_, by rw [upd_ne ne]; exact upd_same, h4.up up⟩
    rw [upd_same, ← h3, zip_map]
theorem freezeL {K : PySem.W.Frag} {G H : Hp} {x : Addr} {ds : List Dat} (h : Hst K G ((x, .lst ds) :: M) H) : ∃ G', Stp G ((x, .lst ds) :: M) H G' M H ∧ Hst K G' M H ∧ Den K G' (.lst ds) (.ref x) := by
  obtain ⟨vs, h1, h4⟩ := h.mem _ List.mem_cons_self
  have ha : adr ((x, MC.lst ds) :: M) = x :: adr M := rfl
  have gx : G x = none := h.out x (by rw [ha]; exact List.mem_cons_self)
  have nd := h.nd
  rw [ha] at nd
  obtain ⟨n1, n4⟩ := List.nodup_cons.mp nd
  have up : Same G (upd G x (.lst vs)) := fun b o e => by rw [upd_ne (ne_of_none e gx)]; exact e
  have sub : Same (upd G x (.lst vs)) H := fun b o e => by
    by_cases c : b = x
    · subst c; rw [upd_same] at e; cases e; exact h1
    · rw [upd_ne c] at e; exact h.sub b o e
  refine ⟨_, ⟨up, fun _ _ _ e => e, fun b _ hb g => ?_, fun b hb => .inl (by rw [ha]; exact List.mem_cons_of_mem _ hb)⟩, ⟨sub, fun c hc => (h.mem c (List.mem_cons_of_mem _ hc)).up up fun _ _ _ e => e, fun b hb => ?_, n4⟩, den_lst upd_same (h4.up up)⟩
  · rw [ha] at hb
    rw [upd_ne (fun e => hb (by rw [e]; exact List.mem_cons_self))]; exact g
  · rw [upd_ne (fun e => n1 (by rw [← e]; exact hb))]
    exact h.out b (by rw [ha]; exact List.mem_cons_of_mem _ hb)
/-- what becomes of a new instance at x: it stays a cell, or it is frozen -/
def MadeP (P : PK') (x : Addr) (M2 : Mem) : Prop := P (.raw (.ref x)) M2 ∨ ∃ C dx fs M3, M2.Perm ((x, .ins C dx fs) :: M3) ∧ P (.obj C (fs.map (·.1)) (fs.map (·.2))) M3
theorem madeP_ce {K : PySem.W.Frag} {G H : Hp} {Q : VK} {x : Addr} (hP : CE' K G M H P Q) {M2 : Mem} {G2 H2 : Hp} (hm : MadeP P x M2) (s : Stp G M H G2 M2 H2) (h2 : Hst K G2 M2 H2) : Q (.ref x) H2 := by
  rcases hm with hm | ⟨C, dx, fs, M3, pm, hm⟩
  · exact hP _ _ _ _ _ hm s h2 den_raw
  · obtain ⟨G', s3, h3, d3⟩ := freezeI (h2.perm pm)
    exact hP _ _ _ _ _ hm ((s.perm (List.Perm.refl _) pm).trans s3) h3 d3
theorem run_makeD {pins : List (Addr × Obj)} {σ : L2.St} {H : Hp} {s : Shared} {Q : VK} {us : List Value} {vs : List V} {W : WX} (Mk' : Mk X.K C f) (F : FnD X.prog X.w X.K X.mg X.base k f fd ps S) (hr : Room (k + 1) X.A) (hb : Binds X.K fd ps dsv) (hd : Vals dvs dsv)
    (tk : Takes X W) (I : Inv X pins σ H s) (r : Vals vs us)
    (h : ∀ x dx, H x = none → H dx = none → dx ≠ x → toSp X.K S (.ref x :: (vs ++ dvs)) (upd (upd H dx (.own x)) x (.ins C dx [])) (fun v H2 => v = .non ∧ Q (.ref x) H2) (fun c d H2 => W c d σ H2)) :
    wpAny (model X.prog X.w) X.A (call (.ref C) us) (EP X pins σ Q) X.xe s := by
  have hq := h (s.heap.objs.size + 1) s.heap.objs.size (I.hok.fresh (Nat.le_succ _)) (I.hok.fresh (Nat.le_refl _)) (Nat.ne_of_lt (Nat.lt_succ_self _))
  have I2 := Inv.made (C := C) I
  have r2 : Vals (V.ref (s.heap.objs.size + 1) :: (vs ++ dvs)) (Value.ref (s.heap.objs.size + 1) :: (us ++ dsv)) := .cons rfl (r.append hd)
  have hl : (Value.ref (s.heap.objs.size + 1) :: us ++ dsv).length = ps.length := by
    have e := r2.length
    rw [F.len _ _ _ _ hq] at e
    exact e.symm
  refine wpAny_call (make_map (f := f) I.kIn Mk'.makes Mk'.init (beq_iff_eq.mp Mk'.fn) (codeAny_mono (F.run _ X.stack _ _ ⟨Value.ref (s.heap.objs.size + 1) :: us, []⟩ (Value.ref (s.heap.objs.size + 1) :: (us ++ dsv)) _ _ _ (hr.make C us [])
    (I2.env0.make C us []) (hb _ (Value.ref (s.heap.objs.size + 1) :: us) I2.kIn hl) r2 hq) fun r s' hq' => ?_))
  cases r with
  | error e => exact tk e s' (XE.of_call I2 (fun cls d H' h => h) hq')
  | ok fl =>
    cases fl with
    | ret u =>
      obtain ⟨v, H', I3, rv, ev, q3⟩ := I2.after hq'
      subst ev
      exact ⟨rv, ⟨V.ref (s.heap.objs.size + 1), H', I3, rfl, q3⟩⟩
    | next => exact False.elim hq'
    | brk => exact False.elim hq'
    | cont => exact False.elim hq'
theorem make_sp {K : PySem.W.Frag} {G H : Hp} {Q : VK} {T : XK} {ds : List Dat} {vs : List V}
    (h : ∀ x dx, x ∉ adr M → dx ∉ adr M → dx ≠ x → AP S (.raw (.ref x) :: ds) ((x, .ins C dx []) :: M) (fun d M2 => d = .non ∧ MadeP P x M2) E) (dv : DenL K G ds vs) (hH : Hst K G M H) (hP : CE' K G M H P Q) (hX : CX' K G M H E T) :
    ∀ x dx, H x = none → H dx = none → dx ≠ x → toSp K S (.ref x :: vs) (upd (upd H dx (.own x)) x (.ins C dx [])) (fun v H2 => v = .non ∧ Q (.ref x) H2) T := by
  intro x dx hx hdx ne
  obtain ⟨h1, s1⟩ := hst_new (C := C) hH hx hdx ne
  have n1 : x ∉ adr M := fun z => hH.there x z hx
  have n2 : dx ∉ adr M := fun z => hH.there dx z hdx
  refine ap_toSp (h x dx n1 n2 ne) (.cons den_raw dv) h1 (fun d M2 v G2 H2 ⟨e, hm⟩ s2 h2 dd => ?_) (hX.step s1)
  subst e
  exact ⟨dd.non_inv, madeP_ce hP hm (s1.trans s2) h2⟩
/-- C(e, ..) -/
theorem ex_make (Mk' : Mk X.K C f) (F : FnD X.prog X.w X.K X.mg X.base k f fd ps S) (hr : Room (k + 1) X.A) (hm : X.mg x = some (.ref C)) (hb : Binds X.K fd ps dsv) (hd : Vals dvs dsv) (hdf : ∀ G, DenL X.K G df dvs)
    (h : EA X T (e :: es) τ M (fun ds M1 => ∀ x dx, x ∉ adr M1 → dx ∉ adr M1 → dx ≠ x → AP S (.raw (.ref x) :: (ds ++ df)) ((x, .ins C dx []) :: M1) (fun d M2 => d = .non ∧ MadeP P x M2) E) E)
    (hg : Gl X x := by rfl) (hdb : (x == ("__debug__" : Str)) = false := by decide) (he : starEach (e :: es) X.env = (false, eval e X.env) :: starEach es X.env := by rfl) (hpl : (backTo pos (starEach es X.env)).any (·.1) = false := by rfl) :
    EX X T (.Call (.Name x p) (e :: es) [] pos) τ M P E := by
  refine .mk ?_; intro W tk σ G H hE hH Q hP hX pins s k0 I
  refine wpAny_Call_Name_kw (ld_glob I hg hm ?_ hdb)
  have hA := h.run W tk σ G H hE hH (fun vs H1 => ∀ x dx, H1 x = none → H1 dx = none → dx ≠ x → toSp X.K S (.ref x :: (vs ++ dvs)) (upd (upd H1 dx (.own x)) x (.ins C dx [])) (fun v H2 => v = .non ∧ Q (.ref x) H2) (fun c d H2 => W c d σ H2))
    (fun ds M1 vs G1 H1 ha s1 h1 dv => make_sp ha (dv.append (hdf G1)) h1 (hP.step s1) (hX.step s1)) hX
  refine PySem.W.callWith_K (h₀ := X.base) I.ok.mod.kin Mk'.kp (thn (hA pos pins s k0 I) fun us s1 ⟨vs, H1, I1, r, q⟩ => ⟨I1.kIn, ?_⟩) he hpl
  exact run_makeD Mk' F hr hb hd tk I1 r q
theorem ex_make0 (Mk' : Mk X.K C f) (F : FnD X.prog X.w X.K X.mg X.base k f fd ps S) (hr : Room (k + 1) X.A) (hm : X.mg x = some (.ref C)) (hb : Binds X.K fd ps dsv) (hd : Vals dvs dsv) (hdf : ∀ G, DenL X.K G df dvs)
    (h : ∀ x dx, x ∉ adr M → dx ∉ adr M → dx ≠ x → AP S (.raw (.ref x) :: df) ((x, .ins C dx []) :: M) (fun d M2 => d = .non ∧ MadeP P x M2) E) (hg : Gl X x := by rfl) (hdb : (x == ("__debug__" : Str)) = false := by decide) :
    EX X T (.Call (.Name x p) [] [] pos) τ M P E := by
  refine .mk ?_; intro W tk σ G H hE hH Q hP hX pins s k0 I
  refine wpAny_Call_Name_kw (ld_glob I hg hm ?_ hdb)
  exact PySem.W.callWith_K0 I.kIn Mk'.kp (run_makeD (us := []) (vs := []) Mk' F hr hb hd tk I .nil (make_sp h (hdf G) hH hP hX))
end
end Kh

set_option Elab.async false
set_option linter.all false
set_option maxRecDepth 100000
set_option maxHeartbeats 1000000
namespace Kh
open PySem PySem.Spec L2

/-! ### what is walked -/
/-- J gives the data ds, one after the other, as long as the cells are as Ok says; the unchanging part G1 stands -/
def WalkD (K : PySem.W.Frag) (J : It) (ds : List Dat) (G1 : Hp) (Ok : Mem → Prop) : Prop :=
  ∀ G2 M2 H2, Same G1 G2 → Hst K G2 M2 H2 → Ok M2 → (∀ i, i < ds.length → J.go i H2) ∧ J.stop ds.length H2 ∧
    ∀ i x H', i < ds.length → J.yld i H2 x H' → ∃ G', Stp G2 M2 H2 G' M2 H' ∧ Hst K G' M2 H' ∧ ∀ d, ds[i]? = some d → Den K G' d x
/-- the iterable gives ds; behind its evaluation the cells are M1 -/
structure EI (X : Cx) (tg iter : Expr) (τ : TEnv) (M : Mem) (P : List Dat → Mem → (Mem → Prop) → Prop) (E : XKx) : Prop where
  run : ∀ W, Takes X W → ∀ σ G H, DenE X.K τ G σ → Hst X.K G M H → ∀ R : It → Hp → Prop,
    (∀ J ds M1 G1 H1 Ok, P ds M1 Ok → Stp G M H G1 M1 H1 → Hst X.K G1 M1 H1 → WalkD X.K J ds G1 Ok → R J H1) → CX' X.K G M H E (fun c d H2 => W c d σ H2) → tWI X false tg iter σ H R
abbrev anyM : Mem → Prop := fun _ => True
section
variable {X : Cx} {T : Bool} {tg iter e a b c : Expr} {τ : TEnv} {M : Mem} {E : XKx} {pos p : Pos} {PI' : List Dat → Mem → (Mem → Prop) → Prop}
theorem walkD_list {K : PySem.W.Frag} {G1 : Hp} {a : Addr} {vs : List V} {ds : List Dat} (hq : SqL K G1 a vs) (hd : DenL K G1 ds vs) : WalkD K (Itl K a) ds G1 anyM := fun G2 M2 H2 s h _ => by
  have hq2 : SqL K H2 a vs := h.sub.seq (s.seq hq)
  refine ⟨fun i hi => ?_, ⟨vs, hq2, by rw [hd.length]; exact Nat.le_refl _⟩, fun i x H' hi y => ?_⟩
  · obtain ⟨v, h1, _⟩ := hd.get (List.getElem?_eq_getElem hi)
    exact ⟨vs, v, hq2, h1⟩
  · obtain ⟨rfl, y2⟩ := y
    refine ⟨G2, Stp.refl, h, fun d hd' => ?_⟩
    obtain ⟨v, h1, h2⟩ := hd.get hd'
    have := y2 vs hq2
    rw [h1] at this; cases this
    exact h2.up s
theorem walkD_tup {K : PySem.W.Frag} {G1 : Hp} {a : Addr} {vs : List V} {ds : List Dat} (hq : SqT K G1 a vs) (hd : DenL K G1 ds vs) : WalkD K (Itt K a) ds G1 anyM := fun G2 M2 H2 s h _ => by
  have hq2 : SqT K H2 a vs := Same.tpl h.sub (Same.tpl s hq)
  refine ⟨fun i hi => ?_, ⟨vs, hq2, by rw [hd.length]; exact Nat.le_refl _⟩, fun i x H' hi y => ?_⟩
  · obtain ⟨v, h1, _⟩ := hd.get (List.getElem?_eq_getElem hi)
    exact ⟨vs, v, hq2, h1⟩
  · obtain ⟨rfl, y2⟩ := y
    refine ⟨G2, Stp.refl, h, fun d hd' => ?_⟩
    obtain ⟨v, h1, h2⟩ := hd.get hd'
    have := y2 vs hq2
    rw [h1] at this; cases this
    exact h2.up s
/-- a list that is a cell, and stays as it is -/
theorem walkD_cell {K : PySem.W.Frag} {G1 : Hp} {a : Addr} {ds : List Dat} : WalkD K (Itl K a) ds G1 (fun M => (a, .lst ds) ∈ M) := fun G2 M2 H2 s h hm => by
  obtain ⟨vs, h1, hd⟩ := h.mem _ hm
  have hq2 : SqL K H2 a vs := SqL.of h1
  refine ⟨fun i hi => ?_, ⟨vs, hq2, by rw [hd.length]; exact Nat.le_refl _⟩, fun i x H' hi y => ?_⟩
  · obtain ⟨v, h1, _⟩ := hd.get (List.getElem?_eq_getElem hi)
    exact ⟨vs, v, hq2, h1⟩
  · obtain ⟨rfl, y2⟩ := y
    refine ⟨G2, Stp.refl, h, fun d hd' => ?_⟩
    obtain ⟨v, h1, h2⟩ := hd.get hd'
    have := y2 vs hq2
    rw [h1] at this; cases this
    exact h2
theorem ei_list (h : EX X false e τ M (fun d M1 => ∃ ds, d = .lst ds ∧ PI' ds M1 anyM) E) : EI X tg e τ M PI' E := .mk fun W tk σ G H hE hH R hR hX => by
  refine tWI_of (pi_list pe_W) ?_
  refine h.run W tk σ G H hE hH _ ?_ hX
  intro d M1 v G1 H1 ⟨ds, ed, hp⟩ s1 h1 dv
  subst ed
  obtain ⟨a, vs, rfl, hq, hd⟩ := dv.lst_inv
  exact ⟨a, rfl, ⟨vs, h1.sub.seq (SqL.of hq)⟩, hR _ _ _ _ _ _ hp s1 h1 (walkD_list (SqL.of hq) hd)⟩
theorem ei_cell (h : EX X false e τ M (fun d M1 => ∃ a ds, d = .raw (.ref a) ∧ (a, MC.lst ds) ∈ M1 ∧ PI' ds M1 (fun M => (a, .lst ds) ∈ M)) E) : EI X tg e τ M PI' E := .mk fun W tk σ G H hE hH R hR hX => by
  refine tWI_of (pi_list pe_W) ?_
  refine h.run W tk σ G H hE hH _ ?_ hX
  intro d M1 v G1 H1 ⟨a, ds, ed, hm, hp⟩ s1 h1 dv
  subst ed
  obtain ⟨vs, g1, g2⟩ := h1.mem _ hm
  exact ⟨a, dv.raw_inv, ⟨vs, SqL.of g1⟩, hR _ _ _ _ _ _ hp s1 h1 walkD_cell⟩
theorem ei_tup (h : EX X false e τ M (fun d M1 => ∃ ds, d = .tup ds ∧ PI' ds M1 anyM) E) : EI X tg e τ M PI' E := .mk fun W tk σ G H hE hH R hR hX => by
  refine tWI_of (pi_tup pe_W) ?_
  refine h.run W tk σ G H hE hH _ ?_ hX
  intro d M1 v G1 H1 ⟨ds, ed, hp⟩ s1 h1 dv
  subst ed
  obtain ⟨a, vs, rfl, hq, hd⟩ := dv.tup_inv
  exact ⟨a, rfl, ⟨vs, Same.tpl h1.sub (SqT.of hq)⟩, hR _ _ _ _ _ _ hp s1 h1 (walkD_tup (SqT.of hq) hd)⟩
def rngD (lo : Int) (n : Nat) : List Dat := (List.range n).map fun (i : Nat) => .int (lo + (i : Int))
theorem rngD_length {lo : Int} {n : Nat} : (rngD lo n).length = n := by simp [rngD]
theorem rngD_get {lo : Int} {n i : Nat} {d : Dat} (h : (rngD lo n)[i]? = some d) : d = .int (lo + (i : Int)) ∧ i < n := by
  have hi : i < n := by have := (List.getElem?_eq_some_iff.mp h).1; rwa [rngD_length] at this
  unfold rngD at h
  rw [List.getElem?_map, List.getElem?_range hi] at h
  cases h
  exact ⟨rfl, hi⟩
theorem walkD_range {K : PySem.W.Frag} {G1 : Hp} {lo : Int} {n : Nat} : WalkD K (Itr lo n) (rngD lo n) G1 anyM := fun G2 M2 H2 s h _ => by
  rw [rngD_length]
  refine ⟨fun i hi => hi, Nat.le_refl _, fun i x H' hi y => ?_⟩
  obtain ⟨rfl, rfl⟩ := y
  refine ⟨G2, Stp.refl, h, fun d hd => ?_⟩
  rw [(rngD_get hd).1]; exact den_int
/-- range(n) -/
theorem ei_range1 (hm : X.mg "range" = none) (h : EX X false a τ M (fun d M1 => ∃ j, d = .int j ∧ (-(2 ^ 62) ≤ j ∧ j < 2 ^ 62) ∧ PI' (rngD 0 j.toNat) M1 anyM) E) (hg : Gl X "range" := by rfl) (hs : starEach [a] X.env = [(false, eval a X.env)] := by rfl) : EI X tg (.Call (.Name "range" p) [a] [] pos) τ M PI' E := .mk fun W tk σ G H hE hH R hR hX => by
  refine tWI_of (pi_range1 hg hm (pa_cons pe_W pa_nil hs) hs) ?_
  refine h.run W tk σ G H hE hH _ ?_ hX
  intro d M1 v G1 H1 ⟨j, ed, hb, hp⟩ s1 h1 dv
  subst ed
  exact ⟨j, by rw [dv.int_inv], hb.1, hb.2, hR _ _ _ _ _ _ hp s1 h1 walkD_range⟩
theorem ei_range2 (hm : X.mg "range" = none) (h : EX X false a τ M (fun d M1 => EX X false b τ M1 (fun d2 M2 => ∃ i j, d = .int i ∧ d2 = .int j ∧ (-(2 ^ 62) ≤ i ∧ i < 2 ^ 62 ∧ -(2 ^ 62) ≤ j ∧ j < 2 ^ 62) ∧ PI' (rngD i (j - i).toNat) M2 anyM) E) E) (hg : Gl X "range" := by rfl)
    (hs : starEach [a, b] X.env = [(false, eval a X.env), (false, eval b X.env)] := by rfl) (hs2 : starEach [b] X.env = [(false, eval b X.env)] := by rfl) : EI X tg (.Call (.Name "range" p) [a, b] [] pos) τ M PI' E := .mk fun W tk σ G H hE hH R hR hX => by
  refine tWI_of (pi_range2 hg hm (pa_cons pe_W (pa_cons pe_W pa_nil hs2) (by rw [hs, hs2])) hs hs2) ?_
  refine h.run W tk σ G H hE hH _ ?_ hX
  intro d M1 v G1 H1 hb s1 h1 dv
  refine hb.run W tk σ G1 H1 (hE.up s1.gg) h1 _ ?_ (hX.step s1)
  intro d2 M2 v2 G2 H2 ⟨i, j, ed, ed2, hrg, hp⟩ s2 h2 dv2
  subst ed; subst ed2
  exact ⟨i, j, by rw [dv.int_inv, dv2.int_inv], hrg, hR _ _ _ _ _ _ hp (s1.trans s2) h2 walkD_range⟩
/-- range(a, b, c), c above 0 -/
def rngC (lo c : Int) (n : Nat) : List Dat := (List.range n).map fun (i : Nat) => .int (lo + (i : Int) * c)
theorem rngC_length {lo c : Int} {n : Nat} : (rngC lo c n).length = n := by simp [rngC]
theorem rngC_get {lo c : Int} {n i : Nat} {d : Dat} (h : (rngC lo c n)[i]? = some d) : d = .int (lo + (i : Int) * c) ∧ i < n := by
  have hi : i < n := by have := (List.getElem?_eq_some_iff.mp h).1; rwa [rngC_length] at this
  unfold rngC at h
  rw [List.getElem?_map, List.getElem?_range hi] at h
  cases h
  exact ⟨rfl, hi⟩
theorem walkD_rangeC {K : PySem.W.Frag} {G1 : Hp} {lo c : Int} {n : Nat} : WalkD K (Itc lo c n) (rngC lo c n) G1 anyM := fun G2 M2 H2 s h _ => by
  rw [rngC_length]
  refine ⟨fun i hi => hi, Nat.le_refl _, fun i x H' hi y => ?_⟩
  obtain ⟨rfl, rfl⟩ := y
  refine ⟨G2, Stp.refl, h, fun d hd => ?_⟩
  rw [(rngC_get hd).1]; exact den_int
theorem ei_range3 (hm : X.mg "range" = none) (h : EX X false a τ M (fun d M1 => EX X false b τ M1 (fun d2 M2 => EX X false c τ M2 (fun d3 M3 => ∃ i j c' n, d = .int i ∧ d2 = .int j ∧ d3 = .int c' ∧ RgC i j c' n ∧ PI' (rngC i c' n) M3 anyM) E) E) E) (hg : Gl X "range" := by rfl)
    (hs : starEach [a, b, c] X.env = (false, eval a X.env) :: starEach [b, c] X.env := by rfl) (hs2 : starEach [b, c] X.env = (false, eval b X.env) :: starEach [c] X.env := by rfl) (hs3 : starEach [c] X.env = (false, eval c X.env) :: starEach [] X.env := by rfl) (hpl : (backTo pos (starEach [b, c] X.env)).any (·.1) = false := by rfl) :
    EI X tg (.Call (.Name "range" p) [a, b, c] [] pos) τ M PI' E := .mk fun W tk σ G H hE hH R hR hX => by
  refine tWI_of (pi_range3 hg hm (pa_cons pe_W (pa_cons pe_W (pa_cons pe_W pa_nil hs3) hs2) hs) hs hpl) ?_
  refine h.run W tk σ G H hE hH _ ?_ hX
  intro d M1 v G1 H1 hb s1 h1 dv
  refine hb.run W tk σ G1 H1 (hE.up s1.gg) h1 _ ?_ (hX.step s1)
  intro d2 M2 v2 G2 H2 hb2 s2 h2 dv2
  refine hb2.run W tk σ G2 H2 ((hE.up s1.gg).up s2.gg) h2 _ ?_ ((hX.step s1).step s2)
  intro d3 M3 v3 G3 H3 ⟨i, j, c', n, ed, ed2, ed3, hrg, hp⟩ s3 h3 dv3
  subst ed; subst ed2; subst ed3
  exact ⟨i, j, c', n, by rw [dv.int_inv, dv2.int_inv, dv3.int_inv], hrg, hR _ _ _ _ _ _ hp ((s1.trans s2).trans s3) h3 walkD_rangeC⟩
/-- a text, sign by sign -/
def sgnD (z : Str) : List Dat := z.cps.toList.map fun c => .str ⟨#[c]⟩
theorem walkD_str {K : PySem.W.Frag} {G1 : Hp} {z : Str} : WalkD K (Its z) (sgnD z) G1 anyM := fun G2 M2 H2 s h _ => by
  have hl : (sgnD z).length = z.cps.size := by simp [sgnD]
  rw [hl]
  refine ⟨fun i hi => hi, Nat.le_refl _, fun i x H' hi y => ?_⟩
  obtain ⟨rfl, c, h1, rfl⟩ := y
  refine ⟨G2, Stp.refl, h, fun d hd => ?_⟩
  unfold sgnD at hd
  rw [List.getElem?_map, Array.getElem?_toList, h1] at hd
  cases hd
  exact den_str
theorem ei_str (h : EX X false e τ M (fun d M1 => ∃ z, d = .str z ∧ PI' (sgnD z) M1 anyM) E) : EI X tg e τ M PI' E := .mk fun W tk σ G H hE hH R hR hX => by
  refine tWI_of (pi_str pe_W) ?_
  refine h.run W tk σ G H hE hH _ ?_ hX
  intro d M1 v G1 H1 ⟨z, ed, hp⟩ s1 h1 dv
  subst ed
  exact ⟨z, dv.str_inv, hR _ _ _ _ _ _ hp s1 h1 walkD_str⟩
/-! ### for -/
theorem s_for {body : List Stmt} {σ : L2.St} {H : Hp} {D : Ends} (hp : PassesOwn (model X.prog X.w) X.A X.env X.xe) (hc : X.calm = true) (hs : ∀ x, foldedSetIterable iter X.env x = pure x)
    (q : tWI X false tg iter σ H fun J H1 => ∃ Wm : Nat → Nat → L2.St → Hp → Prop, (∃ m, Wm 0 m σ H1) ∧ ∀ i m σ H, Wm i m σ H →
      (J.stop i H ∧ D.nx σ H) ∨ (J.go i H ∧ ∃ N : L2.St → Hp → Prop, (∀ σ' H', N σ' H' → ∃ m', m' < m ∧ Wm (i + 1) m' σ' H') ∧ ∀ x H', J.yld i H x H' → tWG X T tg x σ H' fun σ2 H2 => tWSs X T body { D with nx := N, ct := N, bk := D.nx } σ2 H2)) :
    tWS X T (.For tg iter body [] pos) D σ H := fun pins s k0 I => by
  refine wpAny_For (thnT k0 (q pins s tk_f I) fun v s1 k1 h1 => thnT k1 h1 fun itv s2 k2 h2 => ?_) hs
  obtain ⟨it, fp, tn, J, H2, e, I2, Tu, st2, f2, Wm, ⟨m0, w0⟩, turn⟩ := h2
  subst e
  have stat : ∀ {H' : Hp}, (∀ b ∈ fp, H' b = none) → ∀ b ∈ fp, FpOk X pins H' b := fun hn b hb => ⟨hn b hb, (f2 b hb).2⟩
  refine codeAny_forLoop_any (fun n s' => Tk T s' ∧ ∃ i σ' H', Inv X pins σ' H' s' ∧ tn i s'.heap ∧ (∀ b ∈ fp, H' b = none) ∧ Wm i n σ' H') ?_ m0 ⟨k2, 0, σ, H2, I2, st2, fun b hb => (f2 b hb).1, w0⟩
  rintro n s3 ⟨k3, i, σ3, H3, I3, st3, fr3, w3⟩
  rcases turn i n σ3 H3 w3 with ⟨stop, qn⟩ | ⟨go, N, hN, step⟩
  · refine wpAny_passesOwn hp (thn (Tu.done X rfl rfl rfl hc i pins s3 σ3 H3 X.xe I3 (stat fr3) st3 stop) fun r s4 ⟨hr, I4⟩ => ?_)
    subst hr
    exact wpAny_execs_nil ⟨σ3, H3, I4, qn⟩
  · refine wpAny_passesOwn hp (thnT k3 (Tu.item X rfl rfl rfl hc i pins s3 σ3 H3 X.xe I3 (stat fr3) st3 go) fun r s4 k4 ⟨u, hr, h4⟩ => ?_)
    subst hr
    refine wpAny_passesOwn hp (thnT k4 h4 fun _ s5 k5 ⟨x, H5, I5, r5, y5, st5, fr5⟩ => ?_)
    have J5 := I5.pinned (stat fr5) (Tu.obj _ _ st5)
    refine wpAny_passesOwn hp (thnT k5 (step x H5 y5 _ s5 u k5 J5 r5) fun _ s6 k6 ⟨σ6, H6, I6, q6⟩ => ?_)
    refine wpAny_passesOwn hp (thnT k6 (q6 _ s6 k6 I6) fun f s7 k7 q7 => ?_)
    have pinA : ∀ {σ7 : L2.St} {H7 : Hp}, Inv X (pins ++ pinsAt fp s5.heap) σ7 H7 s7 → ∀ b ∈ fp, ∀ o, s5.heap.get? b = some o → s7.heap.get? b = some o ∧ H7 b = none := fun {σ7 H7} I7 b hb o e =>
      have z := I7.pin (b, o) (List.mem_append_right _ (List.mem_append_right _ (mem_pinsAt hb e)))
      ⟨z.1, z.2.1⟩
    have again : ∀ {σ7 : L2.St} {H7 : Hp}, Inv X (pins ++ pinsAt fp s5.heap) σ7 H7 s7 → N σ7 H7 → ∃ m, m < n ∧ (Tk T s7 ∧ ∃ i σ' H', Inv X pins σ' H' s7 ∧ tn i s7.heap ∧ (∀ b ∈ fp, H' b = none) ∧ Wm i m σ' H') := fun {σ7 H7} I7 n7 => by
      obtain ⟨m', hm, w7⟩ := hN σ7 H7 n7
      refine ⟨m', hm, k7, i + 1, σ7, H7, I7.unpinned, Tu.keep _ _ _ st5 fun b hb o e => (pinA I7 b hb o e).1, fun b hb => ?_, w7⟩
      obtain ⟨o, e, d⟩ := Tu.obj _ _ st5 b hb
      exact (pinA I7 b hb o e).2
    cases f with
    | next => obtain ⟨σ7, H7, I7, n7⟩ := q7; exact again I7 n7
    | cont => obtain ⟨σ7, H7, I7, n7⟩ := q7; exact again I7 n7
    | brk => obtain ⟨σ7, H7, I7, q7⟩ := q7; exact ⟨σ7, H7, I7.unpinned, q7⟩
    | ret u' => obtain ⟨v7, σ7, H7, I7, r7, q7⟩ := q7; exact ⟨v7, σ7, H7, I7.unpinned, r7, q7⟩
theorem ws_for {body rest : List Stmt} {R : RK} (hi : EI X tg iter τ M (fun ds M1 Ok => ∃ I : Nat → TEnv → Mem → Prop, I 0 τ M1 ∧ (∀ i τ M, I i τ M → Ok M) ∧
      (∀ i d τ M, ds[i]? = some d → I i τ M → GX X T tg d τ M (fun τ2 M2 => WS X T body τ2 M2 (loopR (I (i + 1)) (fun τ M => WS X T rest τ M R) R)) (fun x M2 => R (.ex x τ) M2)) ∧
      (∀ τ M, I ds.length τ M → WS X T rest τ M R)) (fun x M1 => R (.ex x τ) M1))
    (hp : PassesOwn (model X.prog X.w) X.A X.env X.xe := by first | exact PassesOwn.never | exact passes_of rfl | assumption) (hc : X.calm = true := by rfl) (hs : ∀ x, foldedSetIterable iter X.env x = pure x := by intro _; rfl) : WS X T (.For tg iter body [] pos :: rest) τ M R := .mk fun W tk σ G H hE hH D hR => by
  refine ws_step' (s_for hp hc hs ?_)
  refine hi.run W tk σ G H hE hH _ ?_ (ex_out hR hE)
  intro J ds M1 G1 H1 Ok ⟨I, h0, hOk, hb, hd⟩ s1 h1 w
  let Pv : Nat → L2.St → Hp → Prop := fun i σ' H' => ∃ τ' M' G', I i τ' M' ∧ DenE X.K τ' G' σ' ∧ Hst X.K G' M' H' ∧ Stp G M H G' M' H' ∧ Same G1 G'
  refine ⟨fun i m σ' H' => m = ds.length - i ∧ i ≤ ds.length ∧ Pv i σ' H', ⟨_, rfl, Nat.zero_le _, τ, M1, G1, h0, hE.up s1.gg, h1, s1, Same.refl _⟩, ?_⟩
  rintro i m σ' H' ⟨rfl, hle, τ', M', G', hI, e', h', s', g'⟩
  obtain ⟨w1, w2, w3⟩ := w G' M' H' g' h' (hOk _ _ _ hI)
  by_cases hlt : i < ds.length
  · refine .inr ⟨w1 i hlt, fun σ2 H2 => Pv (i + 1) σ2 H2, fun σ2 H2 q => ⟨ds.length - (i + 1), by omega, rfl, hlt, q⟩, fun x H2 y => ?_⟩
    obtain ⟨G2, s2, h2, dx⟩ := w3 i x H2 hlt y
    have hd' := List.getElem?_eq_getElem hlt
    refine (hb i _ τ' M' hd' hI).run W tk σ' G2 H2 x (e'.up s2.gg) h2 (dx _ hd') _ ?_ ?_
    · intro τ3 M3 G3 H3 σ3 b3 s3 h3 e3
      refine b3.run W tk σ3 G3 H3 e3 h3 _ ?_
      intro o M4 G4 H4 r4 s4 h4
      have st := ((s'.trans s2).trans s3).trans s4
      cases o with
      | nx τ4 => exact fun σ4 e4 => ⟨τ4, M4, G4, r4, e4, h4, st, ((g'.trans s2.gg).trans s3.gg).trans s4.gg⟩
      | ct τ4 => exact fun σ4 e4 => ⟨τ4, M4, G4, r4, e4, h4, st, ((g'.trans s2.gg).trans s3.gg).trans s4.gg⟩
      | bk τ4 => exact fun σ4 e4 => r4.run W tk σ4 G4 H4 e4 h4 D (hR.step st)
      | rt d4 => exact hR _ _ _ _ r4 st h4
      | ex x4 τ4 => exact hR _ _ _ _ r4 st h4
    · exact fun x4 M4 G4 H4 d4 r4 s4 h4 dx4 => hR _ _ _ _ r4 ((s'.trans s2).trans s4) h4 σ' d4 ((e'.up s2.gg).up s4.gg) dx4
  · have e : i = ds.length := by omega
    subst e
    exact .inl ⟨w2, (hd τ' M' hI).run W tk σ' G' H' e' h' D (hR.step s')⟩

/-! ### while -/
theorem s_while {t : Expr} {body : List Stmt} {σ : L2.St} {H : Hp} {D : Ends} (hp : PassesOwn (model X.prog X.w) X.A X.env X.xe)
    (q : ∃ Wm : Nat → L2.St → Hp → Prop, (∃ m, Wm m σ H) ∧ ∀ m σ H, Wm m σ H → tWT X T t σ H fun b H1 => if b = true then ∃ N : L2.St → Hp → Prop, (∀ σ' H', N σ' H' → ∃ m', m' < m ∧ Wm m' σ' H') ∧ tWSs X T body { D with nx := N, ct := N, bk := D.nx } σ H1 else D.nx σ H1) :
    tWS X T (.While t body [] pos) D σ H := fun pins s k0 I => by
  obtain ⟨Wm, ⟨m0, w0⟩, turn⟩ := q
  refine wpAny_While (codeAny_whileLoop (fun n s' => Tk T s' ∧ ∃ σ' H', Inv X pins σ' H' s' ∧ Wm n σ' H') ?_ m0 ⟨k0, σ, H, I, w0⟩)
  rintro n s1 ⟨k1, σ1, H1, I1, w1⟩
  refine wpAny_passesOwn hp (thnT k1 (turn n σ1 H1 w1 pins s1 k1 I1) fun b s2 k2 ⟨H2, I2, q2⟩ => ?_)
  cases b with
  | false => exact wpAny_execs_nil ⟨σ1, H2, I2, q2⟩
  | true =>
    obtain ⟨N, hN, q2⟩ := q2
    rw [if_pos rfl]
    have again : ∀ {s3 : Shared} {σ3 : L2.St} {H3 : Hp}, Tk T s3 → Inv X pins σ3 H3 s3 → N σ3 H3 → ∃ m', m' < n ∧ (Tk T s3 ∧ ∃ σ' H', Inv X pins σ' H' s3 ∧ Wm m' σ' H') := fun {s3 σ3 H3} k3 I3 n3 => by
      obtain ⟨m', hm, w3⟩ := hN σ3 H3 n3
      exact ⟨m', hm, k3, σ3, H3, I3, w3⟩
    refine wpAny_passesOwn hp (thnT k2 (q2 pins s2 k2 I2) fun f s3 k3 q3 => ?_)
    cases f with
    | next => obtain ⟨σ3, H3, I3, n3⟩ := q3; exact again k3 I3 n3
    | cont => obtain ⟨σ3, H3, I3, n3⟩ := q3; exact again k3 I3 n3
    | brk => exact q3
    | ret v => exact q3
theorem ws_while {t : Expr} {body rest : List Stmt} {R : RK} (I : Nat → TEnv → Mem → Prop) (h0 : ∃ m, I m τ M)
    (hb : ∀ m τ M, I m τ M → ET X T t τ M (fun k M1 => (k = true → WS X T body τ M1 (loopR (fun τ2 M2 => ∃ m', m' < m ∧ I m' τ2 M2) (fun τ M => WS X T rest τ M R) R)) ∧ (k = false → WS X T rest τ M1 R)) (fun x M2 => R (.ex x τ) M2))
    (hp : PassesOwn (model X.prog X.w) X.A X.env X.xe := by first | exact PassesOwn.never | exact passes_of rfl | assumption) : WS X T (.While t body [] pos :: rest) τ M R := .mk fun W tk σ G H hE hH D hR => by
  refine ws_step' (s_while hp ?_)
  let Pv : Nat → L2.St → Hp → Prop := fun m σ' H' => ∃ τ' M' G', I m τ' M' ∧ DenE X.K τ' G' σ' ∧ Hst X.K G' M' H' ∧ Stp G M H G' M' H'
  obtain ⟨m0, i0⟩ := h0
  refine ⟨Pv, ⟨m0, τ, M, G, i0, hE, hH, Stp.refl⟩, ?_⟩
  rintro m σ' H' ⟨τ', M', G', hI, e', h', s'⟩
  refine (hb m τ' M' hI).run W tk σ' G' H' e' h' _ ?_ ?_
  · intro k M1 G1 H1 ⟨k1, k2⟩ s1 h1
    cases k with
    | false => exact iteF ((k2 rfl).run W tk σ' G1 H1 (e'.up s1.gg) h1 D (hR.step (s'.trans s1)))
    | true =>
      refine iteT ?_
      have fin : ∀ {G4 H4 : Hp} {M4 : Mem} {τ4 : TEnv}, (∃ m', m' < m ∧ I m' τ4 M4) → Stp G1 M1 H1 G4 M4 H4 → Hst X.K G4 M4 H4 → ∀ σ4, DenE X.K τ4 G4 σ4 → ∃ m', m' < m ∧ Pv m' σ4 H4 := fun {G4 H4 M4 τ4} ⟨m', hm, hi⟩ s4 h4 σ4 e4 => ⟨m', hm, τ4, M4, G4, hi, e4, h4, (s'.trans s1).trans s4⟩
      refine ⟨fun σ4 H4 => ∃ m', m' < m ∧ Pv m' σ4 H4, fun _ _ q => q, ?_⟩
      refine (k1 rfl).run W tk σ' G1 H1 (e'.up s1.gg) h1 _ ?_
      intro o M4 G4 H4 r4 s4 h4
      have st := (s'.trans s1).trans s4
      cases o with
      | nx τ4 => exact fin r4 s4 h4
      | ct τ4 => exact fin r4 s4 h4
      | bk τ4 => exact fun σ4 e4 => r4.run W tk σ4 G4 H4 e4 h4 D (hR.step st)
      | rt d4 => exact hR _ _ _ _ r4 st h4
      | ex x4 τ4 => exact hR _ _ _ _ r4 st h4
  · exact fun x4 M4 G4 H4 d4 r4 s4 h4 dx4 => hR _ _ _ _ r4 (s'.trans s4) h4 σ' d4 (e'.up s4.gg) dx4

/-! ### targets of several names -/
theorem pgs_W {ts : List Expr} : PGs X ts (tWGs X false ts) := ⟨fun pins s σ H vs us Q I r h => h pins s us tk_f I r⟩
structure GXs (X : Cx) (T : Bool) (ts : List Expr) (ds : List Dat) (τ : TEnv) (M : Mem) (P : TEnv → Mem → Prop) : Prop where
  run : ∀ W, Takes X W → ∀ σ G H vs, DenE X.K τ G σ → Hst X.K G M H → DenL X.K G ds vs → ∀ Q, CG' X.K G M H P Q → tWGs X T ts vs σ H Q
theorem gxs_nil {P : TEnv → Mem → Prop} (h : P τ M) : GXs X false [] [] τ M P := .mk fun W tk σ G H vs hE hH dv Q hP pins s us _ I r => by
  rw [dv.nil_inv] at r
  exact pgs_nil.run pins s σ H [] us Q I r ⟨rfl, hP _ _ _ _ _ h Stp.refl hH hE⟩
theorem gxs_cons {t : Expr} {ts : List Expr} {d : Dat} {ds : List Dat} {P : TEnv → Mem → Prop} (h : GX X false t d τ M (fun τ1 M1 => GXs X false ts ds τ1 M1 P) E0')
    (he : (assignEach (t :: ts) X.env).map (·.2) = assign t X.env :: (assignEach ts X.env).map (·.2) := by rfl) : GXs X false (t :: ts) (d :: ds) τ M P := .mk fun W tk σ G H vs hE hH dv Q hP pins s us _ I r => by
  obtain ⟨v, vr, rfl, d1, d2⟩ := dv.cons_inv
  refine (pgs_cons pg_W pgs_W he).run pins s σ H _ us Q I r ⟨v, vr, rfl, ?_⟩
  exact h.run W tk σ G H v hE hH d1 _ (fun τ2 M2 G2 H2 σ2 p2 s2 h2 e2 => p2.run W tk σ2 G2 H2 vr e2 h2 (d2.up s2.gg) Q (hP.step s2)) noX
theorem gx_tup {es : List Expr} {k : Nat} {ds : List Dat} {P : TEnv → Mem → Prop} (h : GXs X false es ds τ M P) (hl : ds.length = (assignEach es X.env).length := by rfl) (hc : X.calm = true := by rfl)
    (hst : (assignEach es X.env).findIdx? (·.1) = none := by rfl) : GX X T (.Tuple es k pos) (.tup ds) τ M P E := .mk fun W tk σ G H v hE hH dv Q hP hX => by
  obtain ⟨a, vs, rfl, hq, hd⟩ := dv.tup_inv
  exact tWG_of (pg_tup hc pgs_W rfl hst) ⟨a, vs, rfl, Same.tpl hH.sub (SqT.of hq), by rw [hd.length, hl], h.run W tk σ G H vs hE hH hd Q hP⟩
end
end Kh

set_option Elab.async false
set_option linter.all false
set_option maxRecDepth 100000
set_option maxHeartbeats 1000000
namespace Kh
open PySem PySem.Spec L2

/-! ### slots that a comprehension wipes -/
theorem wipe_get {σ : L2.St} : ∀ {vs : List Nat} {j : Nat}, (wipe σ vs)[j]? = if j ∈ vs ∧ j < σ.length then some none else σ[j]?
  | [], j => by simp [wipe]
  | v :: vs, j => by
    show ((wipe σ vs).set v none)[j]? = _
    by_cases h : v = j
    · subst h
      by_cases hl : v < σ.length
      · rw [List.getElem?_set_self (by rw [wipe_length]; exact hl), if_pos ⟨List.mem_cons_self, hl⟩]
      · rw [if_neg (fun z => hl z.2), List.getElem?_eq_none (by rw [List.length_set, wipe_length]; omega), List.getElem?_eq_none (by omega)]
    · rw [List.getElem?_set_ne h, wipe_get]
      by_cases hm : j ∈ vs
      · simp [hm]
      · have : ¬ j ∈ v :: vs := fun z => (List.mem_cons.mp z).elim (fun e => h e.symm) hm
        simp [hm, this]
theorem wipe_ext {σ σ' : L2.St} {vs : List Nat} (hl : σ'.length = σ.length) (h : ∀ j, j ∉ vs → σ'[j]? = σ[j]?) : wipe σ' vs = wipe σ vs := by
  apply List.ext_getElem?
  intro j
  rw [wipe_get, wipe_get, hl]
  by_cases c : j ∈ vs ∧ j < σ.length
  · rw [if_pos c, if_pos c]
  · rw [if_neg c, if_neg c]
    by_cases m : j ∈ vs
    · have : ¬ j < σ.length := fun z => c ⟨m, z⟩
      rw [List.getElem?_eq_none (by omega), List.getElem?_eq_none (by omega)]
    · exact h j m
theorem wipe_wipe {σ : L2.St} {vs : List Nat} : wipe (wipe σ vs) vs = wipe σ vs := wipe_ext (wipe_length σ vs) fun j hj => by
  rw [wipe_get, if_neg (fun z => hj z.1)]
/-- the data of the slots that a comprehension wipes -/
def wipeT (τ : TEnv) : List Nat → TEnv
  | [] => τ
  | v :: vs => (wipeT τ vs).set v none
theorem denE_wipe {K : PySem.W.Frag} {G : Hp} {τ : TEnv} {σ : L2.St} (h : DenE K τ G σ) : ∀ (vs : List Nat), DenE K (wipeT τ vs) G (wipe σ vs)
  | [] => h
  | v :: vs => fun j d e => by
    have e' : ((wipeT τ vs).set v none)[j]? = some (some d) := e
    show ∃ u, ((wipe σ vs).set v none)[j]? = some (some u) ∧ _
    by_cases c : v = j
    · subst c
      by_cases hl : v < (wipeT τ vs).length
      · rw [List.getElem?_set_self hl] at e'; cases e'
      · rw [List.getElem?_eq_none (by simpa using hl)] at e'; cases e'
    · rw [List.getElem?_set_ne c] at e' ⊢
      exact denE_wipe h vs j d e'

/-! ### a comprehension's block -/
abbrev Cx.Bk (X : Cx) (scope : Scope) (s : Shared) (H : Hp) (C : Addr) (cl : List (Str × Addr)) (fp : List Addr) : Cx := X.blk s H scope (compEnvC scope cl C X.env) fp
/-- a store at a comprehension's target: slots of vs alone change -/
def GC (X : Cx) (vs : List Nat) (tg : Expr) (d : Dat) (τ : TEnv) (M : Mem) (P : TEnv → Mem → Prop) : Prop :=
  ∀ σ G H v, DenE X.K τ G σ → Hst X.K G M H → Den X.K G d v → ∀ Q, (∀ τ' M' G' H' σ', P τ' M' → Stp G M H G' M' H' → Hst X.K G' M' H' → DenE X.K τ' G' σ' → σ'.length = σ.length → (∀ j, j ∉ vs → σ'[j]? = σ[j]?) → Q σ' H') → tWG X false tg v σ H Q
def GCs (X : Cx) (vs : List Nat) (ts : List Expr) (ds : List Dat) (τ : TEnv) (M : Mem) (P : TEnv → Mem → Prop) : Prop :=
  ∀ σ G H ws, DenE X.K τ G σ → Hst X.K G M H → DenL X.K G ds ws → ∀ Q, (∀ τ' M' G' H' σ', P τ' M' → Stp G M H G' M' H' → Hst X.K G' M' H' → DenE X.K τ' G' σ' → σ'.length = σ.length → (∀ j, j ∉ vs → σ'[j]? = σ[j]?) → Q σ' H') → tWGs X false ts ws σ H Q
section
variable {X : Cx} {T : Bool} {tg iter elt e a b c : Expr} {τ : TEnv} {M : Mem} {E : XKx} {pos p : Pos} {vs : List Nat} {P : PK'}
theorem gc_name {x : Str} {d : Dat} {P : TEnv → Mem → Prop} (h : P (τ.set (ixIn X.N x) (some d)) M) (hv : ixIn X.N x ∈ vs := by first | decide | exact of_decide_eq_true (by kernel_rfl)) (hi : X.N[ixIn X.N x]? = some x := by rfl) (hx : Loc X.env.scope x := by first | exact Or.inl rfl | exact Or.inr rfl) (hN : X.N.Nodup := by first | decide +kernel | exact of_decide_eq_true (by kernel_rfl))
    (hf : X.fn x = true ∨ X.env.scope.names.lookup x = some .local := by first | exact .inl rfl | exact .inr rfl | assumption) : GC X vs (.Name x p) d τ M P := fun σ G H v hE hH dv Q hQ => tWG_len fun hl => by
  refine tWG_of (pg_name hN hi hx hf) ?_
  have hlt : ixIn X.N x < σ.length := by rw [hl]; exact (List.getElem?_eq_some_iff.mp hi).1
  exact hQ _ _ _ _ _ h Stp.refl hH (hE.set hlt dv) (List.length_set) fun j hj => List.getElem?_set_ne (fun z => hj (by rw [← z]; exact hv))
theorem gcs_nil {P : TEnv → Mem → Prop} (h : P τ M) : GCs X vs [] [] τ M P := fun σ G H ws hE hH dv Q hQ pins s us _ I r => by
  rw [dv.nil_inv] at r
  exact pgs_nil.run pins s σ H [] us Q I r ⟨rfl, hQ _ _ _ _ _ h Stp.refl hH hE rfl fun _ _ => rfl⟩
theorem gcs_cons {t : Expr} {ts : List Expr} {d : Dat} {ds : List Dat} {P : TEnv → Mem → Prop} (h : GC X vs t d τ M (fun τ1 M1 => GCs X vs ts ds τ1 M1 P))
    (he : (assignEach (t :: ts) X.env).map (·.2) = assign t X.env :: (assignEach ts X.env).map (·.2) := by rfl) : GCs X vs (t :: ts) (d :: ds) τ M P := fun σ G H ws hE hH dv Q hQ pins s us _ I r => by
  obtain ⟨v, vr, rfl, d1, d2⟩ := dv.cons_inv
  refine (pgs_cons pg_W pgs_W he).run pins s σ H _ us Q I r ⟨v, vr, rfl, ?_⟩
  refine h σ G H v hE hH d1 _ (fun τ2 M2 G2 H2 σ2 p2 s2 h2 e2 l2 k2 => p2 σ2 G2 H2 vr e2 h2 (d2.up s2.gg) Q (fun τ3 M3 G3 H3 σ3 p3 s3 h3 e3 l3 k3 => hQ _ _ _ _ _ p3 (s2.trans s3) h3 e3 (l3.trans l2) fun j hj => (k3 j hj).trans (k2 j hj)))
theorem gc_tup {es : List Expr} {k : Nat} {ds : List Dat} {P : TEnv → Mem → Prop} (h : GCs X vs es ds τ M P) (hl : ds.length = (assignEach es X.env).length := by rfl) (hc : X.calm = true := by rfl)
    (hst : (assignEach es X.env).findIdx? (·.1) = none := by rfl) : GC X vs (.Tuple es k pos) (.tup ds) τ M P := fun σ G H v hE hH dv Q hQ => by
  obtain ⟨a, ws, rfl, hq, hd⟩ := dv.tup_inv
  exact tWG_of (pg_tup hc pgs_W rfl hst) ⟨a, ws, rfl, Same.tpl hH.sub (SqT.of hq), by rw [hd.length, hl], h σ G H ws hE hH hd Q hQ⟩
/-- the tests of a clause -/
def tWIf (X : Cx) (ifs : List Expr) : TT := fun σ H Q => ∀ pins s, Inv X pins σ H s →
    wpAny (model X.prog X.w) X.A (forIn ifs true fun c r => if r = true then do let ok ← isTrue c X.env (eval c X.env); pure (ForInStep.yield ok) else pure (ForInStep.yield r)) (TP X pins σ Q) X.xe s
def EFs (X : Cx) (ifs : List Expr) (τ : TEnv) (M : Mem) (P : Bool → Mem → Prop) : Prop :=
  ∀ σ G H, DenE X.K τ G σ → Hst X.K G M H → ∀ Q, CT' X.K G M H P Q → tWIf X ifs σ H Q
theorem ef_nil {P : Bool → Mem → Prop} (h : P true M) : EFs X [] τ M P := fun σ G H hE hH Q hQ pins s I => pts_nil.run pins s σ H Q I (hQ _ _ _ _ h Stp.refl hH)
theorem ef_one {P : Bool → Mem → Prop} (h : ET X false c τ M P E0') : EFs X [c] τ M P := fun σ G H hE hH Q hQ pins s I => (pts_one pt_W).run pins s σ H Q I (h.run _ takes0 σ G H hE hH Q hQ noX)

def gFam (X : Cx) (scope : Scope) (tg : Expr) : TG := fun v σ H Q => ∀ (s : Shared) (H0 : Hp) (C : Addr) (cl : List (Str × Addr)) (fp : List Addr), tWG (Cx.Bk X scope s H0 C cl fp) false tg v σ H Q
def iFam (X : Cx) (scope : Scope) (ifs : List Expr) : TT := fun σ H Q => ∀ (s : Shared) (H0 : Hp) (C : Addr) (cl : List (Str × Addr)) (fp : List Addr), tWIf (Cx.Bk X scope s H0 C cl fp) ifs σ H Q
def eFam (X : Cx) (scope : Scope) (elt : Expr) : TE := fun σ H Q => ∀ (s : Shared) (H0 : Hp) (C : Addr) (cl : List (Str × Addr)) (fp : List Addr), tW (Cx.Bk X scope s H0 C cl fp) false elt σ H Q
theorem pg_fam {scope : Scope} (s : Shared) (H0 : Hp) (C : Addr) (cl : List (Str × Addr)) (fp : List Addr) : PG (Cx.Bk X scope s H0 C cl fp) tg (gFam X scope tg) := ⟨fun pins s' σ H' v u Q I r q => q s H0 C cl fp pins s' u tk_f I r⟩
theorem pt_fam {scope : Scope} {ifs : List Expr} (s : Shared) (H0 : Hp) (C : Addr) (cl : List (Str × Addr)) (fp : List Addr) : PTs (Cx.Bk X scope s H0 C cl fp) ifs (iFam X scope ifs) := ⟨fun pins s' σ H' Q I q => q s H0 C cl fp pins s' I⟩
theorem pe_fam {scope : Scope} (s : Shared) (H0 : Hp) (C : Addr) (cl : List (Str × Addr)) (fp : List Addr) : PE (Cx.Bk X scope s H0 C cl fp) elt (eFam X scope elt) := ⟨fun pins s' σ H' Q I q => q s H0 C cl fp pins s' tk_f I⟩
/-- the reading of a comprehension: the new list is P's -/
theorem lc_read {scope : Scope} (hi : EI X tg iter τ M (fun ds M1 Ok => ds.length ≤ sizeLine ∧ ∃ I : Nat → List Dat → Mem → Prop, I 0 [] M1 ∧ (∀ i acc M, I i acc M → Ok M) ∧
      (∀ i d acc M, ds[i]? = some d → I i acc M → ∀ (s : Shared) (H : Hp) (C : Addr) (cl : List (Str × Addr)) (fp : List Addr), GC (Cx.Bk X scope s H C cl fp) vs tg d (wipeT τ vs) M (fun τ2 M2 => ∀ (s : Shared) (H : Hp) (C : Addr) (cl : List (Str × Addr)) (fp : List Addr),
        EFs (Cx.Bk X scope s H C cl fp) ifs τ2 M2 (fun b M3 => (b = true → ∀ (s : Shared) (H : Hp) (C : Addr) (cl : List (Str × Addr)) (fp : List Addr), EX (Cx.Bk X scope s H C cl fp) false elt τ2 M3 (fun y M4 => I (i + 1) (acc ++ [y]) M4) E0') ∧ (b = false → I (i + 1) acc M3)))) ∧
      (∀ acc M, I ds.length acc M → P (.lst acc) M)) E)
    {W : WX} (tk : Takes X W) {σ : L2.St} {G H : Hp} (hE : DenE X.K τ G σ) (hH : Hst X.K G M H) {Q : VK} (hP : CE' X.K G M H P Q) (hX : CX' X.K G M H E (fun c d H2 => W c d σ H2)) :
    tLc (tWI X false tg iter) (gFam X scope tg) (iFam X scope ifs) (eFam X scope elt) vs σ H Q := by
  refine hi.run W tk σ G H hE hH _ ?_ hX
  intro J ds M1 G1 H1 Ok ⟨hz, I, h0, hOk, hb, hd⟩ s1 h1 w D hD
  have hDH : ∀ b o, b ∉ adr M → H b = some o → b ≠ D := fun b o n e z => by rw [← z, s1.hh b o n e] at hD; cases hD
  -- the new list at D, beside
  have gD : ∀ {G' H' : Hp} {M' : Mem}, Hst X.K G' M' H' → H' D ≠ none → True := fun _ _ => trivial
  let Pv : Nat → Hp → Prop := fun i H' => ∃ acc aV M' G', I i acc M' ∧ acc.length ≤ i ∧ Hst X.K G' M' H' ∧ Stp G M H G' M' H' ∧ Same G1 G' ∧ H' D = some (.lst aV) ∧ DenL X.K G' acc aV ∧ G' D = none ∧ D ∉ adr M'
  have laid : ∀ {G' H' : Hp} {M' : Mem} {xs : List V}, Hst X.K G' M' H' → G' D = none → D ∉ adr M' → Hst X.K G' M' (upd H' D (.lst xs)) := fun {G' H' M' xs} h g n =>
    ⟨fun b o e => by rw [upd_ne (fun z => by rw [z, g] at e; cases e)]; exact h.sub b o e, fun c hc => (h.mem c hc).up (Same.refl _) fun b hb o e => by rw [upd_ne (fun z => n (by rw [← z]; exact List.mem_flatMap.mpr ⟨c, hc, hb⟩))]; exact e, h.out, h.nd⟩
  have stp : ∀ {G' H' : Hp} {M' : Mem} {xs : List V}, Stp G M H G' M' H' → Stp G M H G' M' (upd H' D (.lst xs)) := fun {G' H' M' xs} s =>
    ⟨s.gg, fun b o n e => by rw [upd_ne (hDH b o n e)]; exact s.hh b o n e, s.fr, s.ad⟩
  have n0 : D ∉ adr M1 := fun z => h1.there D z hD
  have g0 : G1 D = none := h1.sub.free hD
  refine ⟨fun i m H' => m = ds.length - i ∧ i ≤ ds.length ∧ Pv i H', ⟨_, rfl, Nat.zero_le _, [], [], M1, G1, h0, Nat.zero_le _, laid h1 g0 n0, stp s1, Same.refl _, upd_same, .nil, g0, n0⟩, ?_⟩
  rintro i m H' ⟨rfl, hle, acc, aV, M', G', hI, hal, h', s', g', hDl, hda, hg', hn'⟩
  obtain ⟨w1, w2, w3⟩ := w G' M' H' g' h' (hOk _ _ _ hI)
  -- D through a step
  have thru : ∀ {G2 H2 : Hp} {M2 : Mem}, Stp G' M' H' G2 M2 H2 → H2 D = some (.lst aV) ∧ DenL X.K G2 acc aV ∧ G2 D = none ∧ D ∉ adr M2 := fun {G2 H2 M2} s =>
    ⟨s.hh D _ hn' hDl, hda.up s.gg, s.fr D (by rw [hDl]; exact fun z => nomatch z) hn' hg', fun z => (s.ad D z).elim hn' fun q => by rw [hDl] at q; cases q⟩
  by_cases hlt : i < ds.length
  · refine .inr ⟨w1 i hlt, fun H2 => Pv (i + 1) H2, fun H2 q => ⟨ds.length - (i + 1), by omega, rfl, hlt, q⟩, fun x H2 y => ?_⟩
    obtain ⟨G2, s2, h2, dx⟩ := w3 i x H2 hlt y
    have hd' := List.getElem?_eq_getElem hlt
    have eW : DenE X.K (wipeT τ vs) G2 (wipe σ vs) := denE_wipe ((hE.up s'.gg).up s2.gg) vs
    intro sA HA CA clA fpA
    refine hb i _ acc M' hd' hI sA HA CA clA fpA (wipe σ vs) G2 H2 x eW h2 (dx _ hd') _ ?_
    intro τ3 M3 G3 H3 σ3 p3 s3 h3 e3 l3 k3
    refine ⟨?_, fun sB HB CB clB fpB => ?_⟩
    · rw [wipe_ext l3 k3, wipe_wipe]
    refine p3 sB HB CB clB fpB σ3 G3 H3 e3 h3 _ ?_
    intro bb M4 G4 H4 ⟨p4, p4'⟩ s4 h4
    have s24 := (s2.trans s3).trans s4
    cases bb with
    | false =>
      refine iteF ?_
      obtain ⟨t1, t2, t3, t4⟩ := thru s24
      exact ⟨acc, aV, M4, G4, p4' rfl, by omega, h4, s'.trans s24, g'.trans s24.gg, t1, t2, t3, t4⟩
    | true =>
      refine iteT fun sC HC CC clC fpC => ?_
      refine (p4 rfl sC HC CC clC fpC).run _ takes0 σ3 G4 H4 (e3.up s4.gg) h4 _ ?_ noX
      intro y5 M5 v5 G5 H5 p5 s5 h5 d5
      have s25 := s24.trans s5
      obtain ⟨t1, t2, t3, t4⟩ := thru s25
      refine ⟨aV, t1, by rw [hda.length]; omega, acc ++ [y5], aV ++ [v5], M5, G5, p5, by rw [List.length_append]; simp; omega, laid h5 t3 t4, stp (s'.trans s25), g'.trans s25.gg, upd_same, t2.snoc d5, t3, t4⟩
  · have e : i = ds.length := by omega
    subst e
    refine .inl ⟨w2, ?_⟩
    have up : Same G' (upd G' D (.lst aV)) := fun b o e => by rw [upd_ne (ne_of_none e hg')]; exact e
    have hF : Hst X.K (upd G' D (.lst aV)) M' H' := ⟨fun b o e => by
      by_cases c : b = D
      · subst c; rw [upd_same] at e; cases e; exact hDl
      · rw [upd_ne c] at e; exact h'.sub b o e, fun c hc => (h'.mem c hc).up up fun _ _ _ e => e, fun b hb => by rw [upd_ne (fun z => hn' (by rw [← z]; exact hb))]; exact h'.out b hb, h'.nd⟩
    have sF : Stp G M H (upd G' D (.lst aV)) M' H' := ⟨s'.gg.trans up, s'.hh, fun b hb n g => by
      rw [upd_ne (fun z => ?_)]
      · exact s'.fr b hb n g
      · cases q : H b with
        | none => exact hb q
        | some o => exact hDH b o n q z, s'.ad⟩
    exact hP _ _ _ _ _ (hd acc M' hI) sF hF (den_lst upd_same (hda.up up))
theorem ex_lc {scope : Scope} {ifs : List Expr} (own : List (Str × Nat)) (h : EI X tg iter τ M (fun ds M1 Ok => ds.length ≤ sizeLine ∧ ∃ I : Nat → List Dat → Mem → Prop, I 0 [] M1 ∧ (∀ i acc M, I i acc M → Ok M) ∧
      (∀ i d acc M, ds[i]? = some d → I i acc M → ∀ (s : Shared) (H : Hp) (C : Addr) (cl : List (Str × Addr)) (fp : List Addr), GC (Cx.Bk X scope s H C cl fp) (own.map (·.2)) tg d (wipeT τ (own.map (·.2))) M (fun τ2 M2 => ∀ (s : Shared) (H : Hp) (C : Addr) (cl : List (Str × Addr)) (fp : List Addr),
        EFs (Cx.Bk X scope s H C cl fp) ifs τ2 M2 (fun b M3 => (b = true → ∀ (s : Shared) (H : Hp) (C : Addr) (cl : List (Str × Addr)) (fp : List Addr), EX (Cx.Bk X scope s H C cl fp) false elt τ2 M3 (fun y M4 => I (i + 1) (acc ++ [y]) M4) E0') ∧ (b = false → I (i + 1) acc M3)))) ∧
      (∀ acc M, I ds.length acc M → P (.lst acc) M)) E)
    (ok : BlkOk X.N X.env.scope scope own := by exact blkOk_by (by first | decide +kernel | kernel_rfl)) (hN : X.N.Nodup := by first | decide +kernel | exact of_decide_eq_true (by kernel_rfl)) (hc : X.calm = true := by rfl) (hs : ∀ x, foldedSetIterable iter X.env x = pure x := by intro _; rfl) :
    EX X T (.ListComp elt [⟨tg, iter, ifs, 0⟩] scope pos) τ M P E := .mk fun W tk σ G H hE hH Q hP hX =>
  tW_of (pe_lc hc hN pi_W ok pg_fam pt_fam pe_fam hs) (lc_read h tk hE hH hP hX)
theorem ws_setLc {x : Str} {px : Pos} {scope : Scope} {ifs : List Expr} {lpos : Pos} {rest : List Stmt} {R : RK} (own : List (Str × Nat)) (h : EI X tg iter τ M (fun ds M1 Ok => ds.length ≤ sizeLine ∧ ∃ I : Nat → List Dat → Mem → Prop, I 0 [] M1 ∧ (∀ i acc M, I i acc M → Ok M) ∧
      (∀ i d acc M, ds[i]? = some d → I i acc M → ∀ (s : Shared) (H : Hp) (C : Addr) (cl : List (Str × Addr)) (fp : List Addr), GC (Cx.Bk X scope s H C cl fp) (own.map (·.2)) tg d (wipeT τ (own.map (·.2))) M (fun τ2 M2 => ∀ (s : Shared) (H : Hp) (C : Addr) (cl : List (Str × Addr)) (fp : List Addr),
        EFs (Cx.Bk X scope s H C cl fp) ifs τ2 M2 (fun b M3 => (b = true → ∀ (s : Shared) (H : Hp) (C : Addr) (cl : List (Str × Addr)) (fp : List Addr), EX (Cx.Bk X scope s H C cl fp) false elt τ2 M3 (fun y M4 => I (i + 1) (acc ++ [y]) M4) E0') ∧ (b = false → I (i + 1) acc M3)))) ∧
      (∀ acc M, I ds.length acc M → WS X T rest (τ.set (ixIn X.N x) (some (.lst acc))) M R)) (fun x M1 => R (.ex x τ) M1))
    (hi : X.N[ixIn X.N x]? = some x := by rfl) (hyl : X.env.scope.names.lookup x = some .local := by rfl) (hsw : swapsWith (.ListComp elt [⟨tg, iter, ifs, 0⟩] scope lpos) (some (.Name x px)) pos.line X.env = pure true := by exact sw_true rfl rfl rfl (by first | decide +kernel | kernel_rfl))
    (ok : BlkOk X.N X.env.scope scope own := by exact blkOk_by (by first | decide +kernel | kernel_rfl)) (hN : X.N.Nodup := by first | decide +kernel | exact of_decide_eq_true (by kernel_rfl)) (hc : X.calm = true := by rfl) (hs : ∀ x, foldedSetIterable iter X.env x = pure x := by intro _; rfl) :
    WS X T (.Assign [.Name x px] (.ListComp elt [⟨tg, iter, ifs, 0⟩] scope lpos) pos :: rest) τ M R := .mk fun W tk σ G H hE hH D hR => tWSs_len fun hl => by
  refine ws_step (ps_setLc hc hN hi hyl hsw pi_W ok pg_fam pt_fam pe_fam hs) ?_
  have hlt : ixIn X.N x < σ.length := by rw [hl]; exact (List.getElem?_eq_some_iff.mp hi).1
  exact lc_read (P := fun d M => ∃ acc, d = .lst acc ∧ WS X T rest (τ.set (ixIn X.N x) (some (.lst acc))) M R) (.mk fun W' tk' σ' G' H' hE' hH' R' hR' hX' => h.run W' tk' σ' G' H' hE' hH' R' (fun J ds M1 G1 H1 Ok ⟨hz, I, i1, i2, i3, i4⟩ => hR' J ds M1 G1 H1 Ok ⟨hz, I, i1, i2, i3, fun acc M hi => ⟨acc, rfl, i4 acc M hi⟩⟩) hX') tk hE hH
    (fun d M2 v G2 H2 ⟨acc, ed, r⟩ s h2 dv => by subst ed; exact r.run W tk _ G2 H2 ((hE.up s.gg).set hlt dv) h2 D (hR.step s)) (ex_out hR hE)
end
end Kh

set_option Elab.async false
set_option linter.all false
set_option maxRecDepth 100000
set_option maxHeartbeats 1000000
namespace Kh
open PySem PySem.Spec L2

section
variable {X : Cx} {T : Bool} {τ : TEnv} {M : Mem} {P : PK'} {E : XKx} {e a b c o : Expr} {es : List Expr} {pos apos : Pos} {R : RK} {rest : List Stmt}
theorem EX.t (h : EX X false e τ M P E) : EX X T e τ M P E := .mk fun W tk σ G H hE hH Q hP hX pins s _ I => h.run W tk σ G H hE hH Q hP hX pins s tk_f I
theorem ET.t {P : Bool → Mem → Prop} (h : ET X false e τ M P E) : ET X T e τ M P E := .mk fun W tk σ G H hE hH Q hP hX pins s _ I => h.run W tk σ G H hE hH Q hP hX pins s tk_f I
theorem WS.t {ss : List Stmt} (h : WS X false ss τ M R) : WS X T ss τ M R := .mk fun W tk σ G H hE hH D hR pins s _ I => h.run W tk σ G H hE hH D hR pins s tk_f I

/-! ### operators by values -/
theorem o_scal {f : Value → Value → Sem Value} {r : R2} {x y : Dat} (v u : V) (hv : ∀ G w, Den X.K G x w → w = v) (hu : ∀ G w, Den X.K G y w → w = u) (ho : OpR X f r) (h : ∀ G H, Hst X.K G M H → ∀ Q, CE' X.K G M H P Q → r v u H Q) : OP X T f x y M P :=
  op_of ho fun G H v' u' hH dx dy Q hP => by rw [hv _ _ dx, hu _ _ dy]; exact h G H hH Q hP
theorem o_eqS {x y : Dat} (v u : V) (hv : ∀ G w, Den X.K G x w → w = v) (hu : ∀ G w, Den X.K G y w → w = u) (hs : scal v u = true) (h : P (.bl (decide (v = u))) M) : OP X T (compareOp .Eq) x y M P := o_scal v u hv hu op_eq fun G H hH Q hP => ⟨hs, hP _ _ _ _ _ h Stp.refl hH den_bl⟩
theorem o_neS {x y : Dat} (v u : V) (hv : ∀ G w, Den X.K G x w → w = v) (hu : ∀ G w, Den X.K G y w → w = u) (hs : scal v u = true) (h : P (.bl (!decide (v = u))) M) : OP X T (compareOp .NotEq) x y M P := o_scal v u hv hu op_ne fun G H hH Q hP => ⟨hs, hP _ _ _ _ _ h Stp.refl hH den_bl⟩
theorem vint {a b : Int} : decide (V.int a = V.int b) = decide (a = b) := by by_cases h : a = b <;> simp [h]
theorem vstr {a b : Str} : decide (V.str a = V.str b) = decide (a = b) := by by_cases h : a = b <;> simp [h]
theorem o_eqI {i j : Int} (h : P (.bl (decide (i = j))) M) : OP X T (compareOp .Eq) (.int i) (.int j) M P := o_eqS (.int i) (.int j) (fun _ _ d => d.int_inv) (fun _ _ d => d.int_inv) rfl (by rw [vint]; exact h)
theorem o_neI {i j : Int} (h : P (.bl (!decide (i = j))) M) : OP X T (compareOp .NotEq) (.int i) (.int j) M P := o_neS (.int i) (.int j) (fun _ _ d => d.int_inv) (fun _ _ d => d.int_inv) rfl (by rw [vint]; exact h)
theorem o_eqT {i j : Str} (h : P (.bl (decide (i = j))) M) : OP X T (compareOp .Eq) (.str i) (.str j) M P := o_eqS (.str i) (.str j) (fun _ _ d => d.str_inv) (fun _ _ d => d.str_inv) rfl (by rw [vstr]; exact h)
/-- is None -/
def Dat.isN : Dat → Bool
  | .non => true
  | _ => false
theorem den_isN {K : PySem.W.Frag} {G : Hp} {d : Dat} {v : V} (h : Den K G d v) (hr : ∀ u, d ≠ .raw u) : decide (v = .non) = d.isN := by
  cases d with
  | non => rw [h.non_inv]; rfl
  | bl b => rw [h.bl_inv]; rfl
  | int i => rw [h.int_inv]; rfl
  | str s => rw [h.str_inv]; rfl
  | raw u => exact absurd rfl (hr u)
  | dic0 => obtain ⟨p, rfl, _⟩ := h.dic0_inv; rfl
  | scr ns => obtain ⟨p, rfl, _⟩ := h.scr_inv; rfl
  | lst ds => obtain ⟨p, vs, rfl, _⟩ := h.lst_inv; rfl
  | tup ds => obtain ⟨p, vs, rfl, _⟩ := h.tup_inv; rfl
  | obj C ns ds => obtain ⟨p, dx, vs, rfl, _⟩ := h.obj_inv; rfl
  | xn a dd ns ds => obtain ⟨vs, rfl, _⟩ := h.xn_inv; rfl
  | «at» a d => obtain ⟨rfl, _⟩ := h.at_inv; rfl
theorem o_isN {x : Dat} (hr : ∀ u, x ≠ .raw u) (h : P (.bl x.isN) M) : OP X T (compareOp .Is) x .non M P := op_of op_isN fun G H v u hH dx dy Q hP => ⟨dy.non_inv, by rw [den_isN dx hr]; exact hP _ _ _ _ _ h Stp.refl hH den_bl⟩
/-- ints -/
theorem o_mul {i j : Int} (hc : CMulW i j) (h : P (.int (i * j)) M) : OP X T (binaryOp .Mult) (.int i) (.int j) M P := op_IIc op_mulW hc (fun _ => den_int) h
theorem o_mulS {i j : Int} (hc : (-(2 ^ 64) < i ∧ i < 2 ^ 64) ∨ (-(2 ^ 64) < j ∧ j < 2 ^ 64)) (h : P (.int (i * j)) M) : OP X T (binaryOp .Mult) (.int i) (.int j) M P := op_IIc op_mul hc (fun _ => den_int) h
theorem o_mod {i j : Int} (hc : 0 < j) (h : P (.int (i % j)) M) : OP X T (binaryOp .Mod) (.int i) (.int j) M P := op_IIc op_mod hc (fun _ => den_int) h
theorem o_div {i j : Int} (hc : CDivW i j) (h : P (.int (i / j)) M) : OP X T (binaryOp .FloorDiv) (.int i) (.int j) M P := op_IIc op_fdivW hc (fun _ => den_int) h
theorem o_shr {i j : Int} (hc : 0 ≤ j) (h : P (.int (i / 2 ^ j.toNat)) M) : OP X T (binaryOp .RShift) (.int i) (.int j) M P := op_IIc op_shr hc (fun _ => den_int) h
theorem o_shl {i j : Int} (hc : CPow i j) (h : P (.int (i * 2 ^ j.toNat)) M) : OP X T (binaryOp .LShift) (.int i) (.int j) M P := op_IIc op_shl hc (fun _ => den_int) h
theorem o_bor {i j : Int} (h : P (.int (Builtin.bitOr i j)) M) : OP X T (binaryOp .BitOr) (.int i) (.int j) M P := op_II op_or (fun _ => den_int) h
theorem o_band {i j : Int} (h : P (.int (Builtin.bitAnd i j)) M) : OP X T (binaryOp .BitAnd) (.int i) (.int j) M P := op_II op_and (fun _ => den_int) h
/-- texts -/
theorem o_cat {i j : Str} (hl : i.length + j.length ≤ sizeLine) (h : P (.str (i ++ j)) M) : OP X T (binaryOp .Add) (.str i) (.str j) M P := op_of op_add_str fun G H v u hH dx dy Q hP => ⟨i, j, dx.str_inv, dy.str_inv, hl, hP _ _ _ _ _ h Stp.refl hH den_str⟩
theorem o_notInS {c : Nat} {z : Str} (h : P (.bl (!decide (c ∈ z.cps.toList))) M) : OP X T (compareOp .NotIn) (.str ⟨#[c]⟩) (.str z) M P := op_of op_notIn_sign fun G H v u hH dx dy Q hP => ⟨c, z, dx.str_inv, dy.str_inv, hP _ _ _ _ _ h Stp.refl hH den_bl⟩
/-- lists -/
theorem o_catL {xs ys : List Dat} (hl : xs.length + ys.length ≤ sizeLine) (h : P (.lst (xs ++ ys)) M) : OP X T (binaryOp .Add) (.lst xs) (.lst ys) M P := op_of op_cat fun G H v u hH dx dy Q hP => by
  obtain ⟨p, vs, rfl, g1, d1⟩ := dx.lst_inv
  obtain ⟨q, us, rfl, g2, d2⟩ := dy.lst_inv
  refine ⟨p, q, vs, us, rfl, rfl, hH.sub _ _ g1, hH.sub _ _ g2, by rw [d1.length, d2.length]; exact hl, fun r hr => ?_⟩
  obtain ⟨s2, h2⟩ := Stp.new (o := .lst (vs ++ us)) hH hr
  exact hP _ _ _ _ _ h s2 h2 (den_lst upd_same ((d1.append d2).up s2.gg))
/-! ### subscripts -/
def IQ (K : PySem.W.Frag) (x y : Dat) (M : Mem) (P : PK') : Prop := ∀ G H v u, Hst K G M H → Den K G x v → Den K G y u → ∀ Q, CE' K G M H P Q → rIx K v u H Q
theorem ex_ix (h : EX X T a τ M (fun x M1 => EX X T b τ M1 (fun y M2 => IQ X.K x y M2 P) E) E) (hs : PlainIx b := by exact fun _ _ => rfl) : EX X T (.Subscript a b pos) τ M P E := by
  refine .mk ?_; intro W tk σ G H hE hH Q hP hX pins s k I
  have hA := h.run W tk σ G H hE hH (fun x H1 => tW X T b σ H1 fun y H2 => rIx X.K x y H2 Q) (fun x M1 v G1 H1 hb s1 h1 dx => hb.run W tk σ G1 H1 (hE.up s1.gg) h1 _ (fun y M2 u G2 H2 ho s2 h2 dy => ho G2 H2 v u h2 (dx.up s2.gg) dy Q (hP.step (s1.trans s2))) (hX.step s1)) hX
  exact PyProof.Rows.Subscript_ (thnT k (hA pins s k I) fun v s1 k1 ⟨x, H1, I1, r1, q1⟩ => thn (q1 pins s1 k1 I1) fun u s2 ⟨y, H2, I2, r2, q2⟩ => ix_seq a b pins s2 σ H2 x y v u Q I2 r1 r2 q2 (hs _ _))
theorem atI_den {K : PySem.W.Frag} {G : Hp} {ds : List Dat} {vs : List V} {i : Int} {d : Dat} (h : DenL K G ds vs) (e : atI ds i = some d) : ∃ v, atI vs i = some v ∧ Den K G d v := by
  unfold atI at e ⊢
  rw [h.length]
  cases q : ixN ds.length i with
  | none => rw [q] at e; cases e
  | some j => rw [q] at e; exact h.get e
theorem i_lst {ds : List Dat} {i : Int} {d : Dat} (e : atI ds i = some d) (h : P d M) {K : PySem.W.Frag} : IQ K (.lst ds) (.int i) M P := fun G H v u hH dx dy Q hP => by
  obtain ⟨p, vs, rfl, g, dl⟩ := dx.lst_inv
  obtain ⟨w, e1, d1⟩ := atI_den dl e
  exact .inl ⟨p, vs, i, w, rfl, dy.int_inv, SqL.of (hH.sub _ _ g), e1, hP _ _ _ _ _ h Stp.refl hH d1⟩
theorem i_tup {ds : List Dat} {i : Int} {d : Dat} (e : atI ds i = some d) (h : P d M) {K : PySem.W.Frag} : IQ K (.tup ds) (.int i) M P := fun G H v u hH dx dy Q hP => by
  obtain ⟨p, vs, rfl, g, dl⟩ := dx.tup_inv
  obtain ⟨w, e1, d1⟩ := atI_den dl e
  exact .inr (.inl ⟨p, vs, i, w, rfl, dy.int_inv, SqT.of (hH.sub _ _ g), e1, hP _ _ _ _ _ h Stp.refl hH d1⟩)
theorem i_cell {p : Addr} {ds : List Dat} {i : Int} {d : Dat} (hm : (p, MC.lst ds) ∈ M) (e : atI ds i = some d) (h : P d M) {K : PySem.W.Frag} : IQ K (.raw (.ref p)) (.int i) M P := fun G H v u hH dx dy Q hP => by
  obtain ⟨vs, g, dl⟩ := hH.mem _ hm
  obtain ⟨w, e1, d1⟩ := atI_den dl e
  exact .inl ⟨p, vs, i, w, dx.raw_inv, dy.int_inv, SqL.of g, e1, hP _ _ _ _ _ h Stp.refl hH d1⟩
end
end Kh

set_option Elab.async false
set_option linter.all false
set_option maxRecDepth 100000
set_option maxHeartbeats 1000000
namespace Kh
open PySem PySem.Spec L2

section
variable {X : Cx} {T : Bool} {τ : TEnv} {M : Mem} {P : PK'} {E : XKx} {e a b c o : Expr} {es : List Expr} {pos apos p2 : Pos} {R : RK} {rest : List Stmt}
/-! ### slices -/
def tWO (X : Cx) (T : Bool) (e : Option Expr) : TO := fun σ H Q => ∀ pins s, Tk T s → Inv X pins σ H s → wpAny (model X.prog X.w) X.A (evalPart e X.env) (fun u s' => ∃ o H', Inv X pins σ H' s' ∧ IsPart u o ∧ Q o H') X.xe s
structure EP' (X : Cx) (T : Bool) (e : Option Expr) (τ : TEnv) (M : Mem) (P : Option Int → Mem → Prop) (E : XKx) : Prop where
  run : ∀ W, Takes X W → ∀ σ G H, DenE X.K τ G σ → Hst X.K G M H → ∀ Q : Option Int → Hp → Prop, (∀ i M2 G2 H2, P i M2 → Stp G M H G2 M2 H2 → Hst X.K G2 M2 H2 → Q i H2) → CX' X.K G M H E (fun c d H2 => W c d σ H2) → tWO X T e σ H Q
theorem ep_some {P : Option Int → Mem → Prop} (h : EX X T e τ M (fun d M1 => ∃ i, d = .int i ∧ P (some i) M1) E) : EP' X T (some e) τ M P E := .mk fun W tk σ G H hE hH Q hP hX pins s k I => by
  rw [evalPart_some]
  refine thn (h.run W tk σ G H hE hH (fun x H1 => ∃ i, x = .int i ∧ Q (some i) H1) (fun d M1 v G1 H1 ⟨i, ed, hp⟩ s1 h1 dv => by subst ed; exact ⟨i, dv.int_inv, hP _ _ _ _ hp s1 h1⟩) hX pins s k I) fun u s1 ⟨x, H1, I1, r1, i, ex, q⟩ => ?_
  subst ex
  obtain ⟨t, rfl⟩ := r1
  exact ⟨some i, H1, I1, .int i t, q⟩
/-- a slice, by values -/
def SQ (X : Cx) (x : Dat) (lo hi : Option Int) (M : Mem) (P : PK') : Prop := ∃ r, SlR X r ∧ ∀ G H v, Hst X.K G M H → Den X.K G x v → ∀ Q, CE' X.K G M H P Q → r v lo hi H Q
theorem ex_sl {lo hi : Option Expr} (h : EX X T e τ M (fun x M1 => EP' X T lo τ M1 (fun l M2 => EP' X T hi τ M2 (fun u M3 => SQ X x l u M3 P) E) E) E) : EX X T (.Subscript e (.Slice lo hi none p2) pos) τ M P E := by
  refine .mk ?_; intro W tk σ G H hE hH Q hP hX pins s k I
  have hA := h.run W tk σ G H hE hH (fun x H1 => tWO X T lo σ H1 fun l H2 => tWO X T hi σ H2 fun u H3 => ∃ r, SlR X r ∧ r x l u H3 Q) (fun x M1 v G1 H1 hb s1 h1 dx =>
    hb.run W tk σ G1 H1 (hE.up s1.gg) h1 _ (fun l M2 G2 H2 hb2 s2 h2 => hb2.run W tk σ G2 H2 ((hE.up s1.gg).up s2.gg) h2 _ (fun u M3 G3 H3 ⟨r, hr, hq⟩ s3 h3 =>
      ⟨r, hr, hq G3 H3 v h3 ((dx.up s2.gg).up s3.gg) Q (hP.step ((s1.trans s2).trans s3))⟩) (hX.step (s1.trans s2))) (hX.step s1)) hX
  refine PyProof.Rows.Subscript_ (thnT k (hA pins s k I) fun v s1 k1 ⟨x, H1, I1, r1, q1⟩ => ?_)
  refine wpAny_Slice (thnT k1 (q1 pins s1 k1 I1) fun vl s2 k2 ⟨l, H2, I2, pl, q2⟩ => thn (q2 pins s2 k2 I2) fun vu s3 ⟨u, H3, I3, pu, r, hr, q3⟩ => ?_)
  rw [evalPart_none]
  refine wpAny_pure ?_
  have I4 : Inv X pins σ H3 { s3 with heap := s3.heap.push { cls := .type "slice", data := .fields #[vl, vu, .none] } } := I3.kept (t' := s3.toks) fun b ob q => Heap.get?_push_of_some _ q
  obtain ⟨T', id, hT, ht, hg⟩ := hr pins { s3 with heap := s3.heap.push { cls := .type "slice", data := .fields #[vl, vu, .none] } } σ H3 x v vl vu l u s3.heap.objs.size Q I4 r1 (Heap.IsSliceOf.new ..) pl pu q3
  show wpAny (model X.prog X.w) X.A (PyProof.Rows.subscriptTail e (.Slice lo hi none p2) v (.ref s3.heap.objs.size)) (EP X pins σ Q) X.xe { s3 with heap := s3.heap.push { cls := .type "slice", data := .fields #[vl, vu, .none] } }
  exact PyProof.Rows.tail_any (ops := [.ref s3.heap.objs.size, v]) ht hT hg (by with_unfolding_all rfl)
/-- the items between two places -/
def cutD {α : Type} (xs : List α) (lo hi : Option Int) : List α := (xs.drop (HT.sIx xs.length 0 lo)).take (HT.sIx xs.length xs.length hi - HT.sIx xs.length 0 lo)
theorem denL_cut {K : PySem.W.Frag} {G : Hp} {ds : List Dat} {vs : List V} {lo hi : Option Int} (h : DenL K G ds vs) : DenL K G (cutD ds lo hi) (cutV vs lo hi) := by
  unfold cutD cutV
  rw [h.length]
  exact (h.drop _).take _
theorem l_lst {ds : List Dat} {lo hi : Option Int} (h : P (.lst (cutD ds lo hi)) M) : SQ X (.lst ds) lo hi M P := ⟨_, sl_list, fun G H v hH dx Q hP => by
  obtain ⟨p, vs, rfl, g, dl⟩ := dx.lst_inv
  refine ⟨p, vs, rfl, SqL.of (hH.sub _ _ g), fun r hr => ?_⟩
  obtain ⟨s2, h2⟩ := Stp.new (o := .lst (cutV vs lo hi)) hH hr
  exact hP _ _ _ _ _ h s2 h2 (den_lst upd_same ((denL_cut dl).up s2.gg))⟩
theorem l_scr {ns : List Int} {lo hi : Option Int} (h : P (.lst ((cutD ns lo hi).map Dat.int)) M) : SQ X (.scr ns) lo hi M P := ⟨_, sl_list, fun G H v hH dx Q hP => by
  obtain ⟨p, rfl, g⟩ := dx.scr_inv
  refine ⟨p, _, rfl, hH.sub.seq g, fun r hr => ?_⟩
  obtain ⟨s2, h2⟩ := Stp.new (o := .lst (cutV (ns.map V.int) lo hi)) hH hr
  refine hP _ _ _ _ _ h s2 h2 (den_lst upd_same ?_)
  have e : cutV (ns.map V.int) lo hi = (cutD ns lo hi).map V.int := by unfold cutV cutD; rw [List.length_map, List.map_take, List.map_drop]
  rw [e]; exact denL_ints⟩
/-! ### built-ins by values -/
theorem bc_of {f : Value} {r : List V → Hp → VK → Prop} {ds : List Dat} (hr : CallR X f r) (h : ∀ G H vs, Hst X.K G M H → DenL X.K G ds vs → ∀ Q, CE' X.K G M H P Q → r vs H Q) : BC X f ds M P := ⟨r, hr, h⟩
theorem one_inv {K : PySem.W.Frag} {G : Hp} {d : Dat} {vs : List V} (h : DenL K G [d] vs) : ∃ v, vs = [v] ∧ Den K G d v := by
  obtain ⟨v, r, rfl, d1, t⟩ := h.cons_inv
  rw [t.nil_inv]; exact ⟨v, rfl, d1⟩
theorem two_inv {K : PySem.W.Frag} {G : Hp} {d e : Dat} {vs : List V} (h : DenL K G [d, e] vs) : ∃ v u, vs = [v, u] ∧ Den K G d v ∧ Den K G e u := by
  obtain ⟨v, r, rfl, d1, t⟩ := h.cons_inv
  obtain ⟨u, rfl, d2⟩ := one_inv t
  exact ⟨v, u, rfl, d1, d2⟩
theorem c_len_lst {ds : List Dat} (h : P (.int ds.length) M) : BC X (.builtin "len") [.lst ds] M P := bc_of call_len_seq fun G H vs hH dv Q hP => by
  obtain ⟨v, rfl, d⟩ := one_inv dv
  obtain ⟨p, us, rfl, g, dl⟩ := d.lst_inv
  exact ⟨p, us, rfl, .inl (SqL.of (hH.sub _ _ g)), by rw [dl.length]; exact hP _ _ _ _ _ h Stp.refl hH den_int⟩
theorem c_int_i {i : Int} (h : P (.int i) M) : BC X (.type "int") [.int i] M P := bc_of call_int1 fun G H vs hH dv Q hP => by
  obtain ⟨v, rfl, d⟩ := one_inv dv
  exact .inl ⟨i, by rw [d.int_inv], hP _ _ _ _ _ h Stp.refl hH den_int⟩
theorem c_int_b {k : Bool} (h : P (.int (if k then 1 else 0)) M) : BC X (.type "int") [.bl k] M P := bc_of call_int1 fun G H vs hH dv Q hP => by
  obtain ⟨v, rfl, d⟩ := one_inv dv
  exact .inr ⟨k, by rw [d.bl_inv], hP _ _ _ _ _ h Stp.refl hH den_int⟩
theorem c_sum {ns : List Int} {ds : List Dat} (hc : X.calm = true) (e : ds = ns.map Dat.int) (h : P (.int ns.sum) M) : BC X (.builtin "sum") [.lst ds] M P := bc_of (cr_sum hc) fun G H vs hH dv Q hP => by
  subst e
  obtain ⟨v, rfl, d⟩ := one_inv dv
  obtain ⟨p, us, rfl, g, dl⟩ := d.lst_inv
  rw [dl.ints] at g
  exact ⟨p, ns, rfl, SqL.of (hH.sub _ _ g), hP _ _ _ _ _ h Stp.refl hH den_int⟩
theorem c_tuple_lst {ds : List Dat} (h : P (.tup ds) M) : BC X (.type "tuple") [.lst ds] M P := bc_of call_tuple_of fun G H vs hH dv Q hP => by
  obtain ⟨v, rfl, d⟩ := one_inv dv
  obtain ⟨p, us, rfl, g, dl⟩ := d.lst_inv
  refine ⟨p, us, rfl, .inl ⟨SqL.of (hH.sub _ _ g), fun r hr => ?_⟩⟩
  obtain ⟨s2, h2⟩ := Stp.new (o := .tup us) hH hr
  exact hP _ _ _ _ _ h s2 h2 (den_tup upd_same (dl.up s2.gg))
/-! isinstance -/
structure ICls (K : PySem.W.Frag) (C : Addr) : Prop where
  cl : Cls K C
  ha : PySem.W.findIn K (.ref C) "__class__" = some (some (.builtin "object.__class__"))
  hn : PySem.W.specialIn K (.builtin "object.__class__") "__get__" = some (some (.builtin "getset_descriptor.__get__"))
  tk : PySem.W.takesIn K (.builtin "object.__class__") = some true
  mr : PySem.W.mroIn K C (.type "object") = some true
/-- the type of a datum -/
inductive TyD (K : PySem.W.Frag) (M : Mem) : Dat → Value → Prop
  | non : TyD K M .non (.type "NoneType")
  | bl {k : Bool} : TyD K M (.bl k) (.type "bool")
  | int {i : Int} : TyD K M (.int i) (.type "int")
  | str {s : Str} : TyD K M (.str s) (.type "str")
  | lst {ds : List Dat} : TyD K M (.lst ds) (.type "list")
  | tup {ds : List Dat} : TyD K M (.tup ds) (.type "tuple")
  | dic0 : TyD K M .dic0 (.type "dict")
  | «at» {a : Addr} {d : Dat} {t : Value} (h : TyD K M d t) : TyD K M (.at a d) t
  | obj {C : Addr} {ns : List Str} {ds : List Dat} (h : ICls K C) : TyD K M (.obj C ns ds) (.ref C)
  | cellL {p : Addr} {ds : List Dat} (h : (p, MC.lst ds) ∈ M) : TyD K M (.raw (.ref p)) (.type "list")
  | cellI {p C dx : Addr} {fs : List (Str × Dat)} (h : (p, MC.ins C dx fs) ∈ M) (hc : ICls K C) : TyD K M (.raw (.ref p)) (.ref C)
theorem tyD_ok {K : PySem.W.Frag} {G H : Hp} {d : Dat} {t : Value} {v : V} (h : TyD K M d t) (hH : Hst K G M H) (dv : Den K G d v) : TyX K H v t := by
  induction h generalizing v with
  | «at» h ih => exact ih dv.at_inv.2
  | non => rw [dv.non_inv]; exact .base .non
  | bl => rw [dv.bl_inv]; exact .base (.bl _)
  | int => rw [dv.int_inv]; exact .base (.int _)
  | str => rw [dv.str_inv]; exact .base (.str _)
  | lst => obtain ⟨p, vs, rfl, g, _⟩ := dv.lst_inv; exact .base (.lst (hH.sub _ _ g))
  | tup => obtain ⟨p, vs, rfl, g, _⟩ := dv.tup_inv; exact .base (.tup (hH.sub _ _ g))
  | dic0 => obtain ⟨p, rfl, g⟩ := dv.dic0_inv; exact .base (.dK (hH.sub _ _ g))
  | obj h => obtain ⟨p, dx, vs, rfl, g, _⟩ := dv.obj_inv; exact .base (.ins (hH.sub _ _ g) h.cl h.ha h.hn h.tk h.mr)
  | cellL h => obtain ⟨vs, g, _⟩ := hH.mem _ h; rw [dv.raw_inv]; exact .base (.lst g)
  | cellI h hc => obtain ⟨vs, g, _⟩ := hH.mem _ h; rw [dv.raw_inv]; exact .base (.ins g hc.cl hc.ha hc.hn hc.tk hc.mr)
theorem c_isi {d : Dat} {cv : V} {t u : Value} {k : Bool} (hc : ClsV cv u) (ht : TyD X.K M d t) (hk : PySem.W.kitOne X.K t u = some k) (h : P (.bl k) M) : BC X (.builtin "isinstance") [d, .raw cv] M P := bc_of call_isi fun G H vs hH dv Q hP => by
  obtain ⟨v, w, rfl, d1, d2⟩ := two_inv dv
  rw [d2.raw_inv]
  exact ⟨v, cv, t, u, k, rfl, hc, tyD_ok ht hH d1, hk, hP _ _ _ _ _ h Stp.refl hH den_bl⟩

/-! ### data compared -/
mutual
def toPy : Dat → Option PyData
  | .non => some .none
  | .bl b => some (.bool b)
  | .int i => some (.int i)
  | .str s => some (.str s)
  | .lst xs => (toPyL xs).map PyData.list
  | .tup xs => (toPyL xs).map PyData.tuple
  | _ => none
def toPyL : List Dat → Option (List PyData)
  | [] => some []
  | d :: ds => (toPy d).bind fun x => (toPyL ds).map fun xs => x :: xs
end
mutual
theorem toPy_dp {K : PySem.W.Frag} {G H : Hp} (hs : Same G H) : ∀ (d : Dat) (v : V) (x : PyData), Den K G d v → toPy d = some x → Dp K H v x
  | .non, v, x, h, e => by rw [h.non_inv]; simp only [toPy, Option.some.injEq] at e; subst e; exact .non
  | .bl b, v, x, h, e => by rw [h.bl_inv]; simp only [toPy, Option.some.injEq] at e; subst e; exact .bl b
  | .int i, v, x, h, e => by rw [h.int_inv]; simp only [toPy, Option.some.injEq] at e; subst e; exact .int i
  | .str s, v, x, h, e => by rw [h.str_inv]; simp only [toPy, Option.some.injEq] at e; subst e; exact .str s
  | .lst ds, v, x, h, e => by
    obtain ⟨p, vs, rfl, g, dl⟩ := h.lst_inv
    simp only [toPy, Option.map_eq_some_iff] at e
    obtain ⟨xs, e1, rfl⟩ := e
    exact .lst (SqL.of (hs _ _ g)) (toPyL_dp hs ds vs xs dl e1)
  | .tup ds, v, x, h, e => by
    obtain ⟨p, vs, rfl, g, dl⟩ := h.tup_inv
    simp only [toPy, Option.map_eq_some_iff] at e
    obtain ⟨xs, e1, rfl⟩ := e
    exact .tup (SqT.of (hs _ _ g)) (toPyL_dp hs ds vs xs dl e1)
  | .raw _, _, _, _, e => by simp [toPy] at e
  | .dic0, _, _, _, e => by simp [toPy] at e
  | .scr _, _, _, _, e => by simp [toPy] at e
  | .obj _ _ _, _, _, _, e => by simp [toPy] at e
theorem toPyL_dp {K : PySem.W.Frag} {G H : Hp} (hs : Same G H) : ∀ (ds : List Dat) (vs : List V) (xs : List PyData), DenL K G ds vs → toPyL ds = some xs → DpAll K H vs xs
  | [], vs, xs, h, e => by rw [h.nil_inv]; simp only [toPyL, Option.some.injEq] at e; subst e; exact .nil
  | d :: ds, vs, xs, h, e => by
    obtain ⟨v, r, rfl, d1, t⟩ := h.cons_inv
    simp only [toPyL, Option.bind_eq_some_iff, Option.map_eq_some_iff] at e
    obtain ⟨x, e1, ys, e2, rfl⟩ := e
    exact .cons (toPy_dp hs d v x d1 e1) (toPyL_dp hs ds r ys t e2)
end
end
end Kh

set_option Elab.async false
set_option linter.all false
set_option maxRecDepth 100000
set_option maxHeartbeats 1000000
namespace Kh
open PySem PySem.Spec L2
section
variable {X : Cx} {T : Bool} {τ : TEnv} {M : Mem} {P : PK'} {E : XKx} {e a b c o value : Expr} {es : List Expr} {pos pos' apos tpos : Pos} {R : RK} {rest : List Stmt} {x : Str}
/-! ### cells written -/
theorem adr_split {A B : Mem} {c c' : Addr × MC} (h : adr1 c = adr1 c') : adr (A ++ c :: B) = adr (A ++ c' :: B) := by
  rw [adr_append, adr_append]
  show adr A ++ (adr1 c ++ adr B) = adr A ++ (adr1 c' ++ adr B)
  rw [h]
/-- the cell at p gets another content of the same addresses: H2 differs from H at p alone -/
theorem cell_put {K : PySem.W.Frag} {G H H2 : Hp} {A B : Mem} {p : Addr} {c c' : MC} (h : Hst K G (A ++ (p, c) :: B) H) (hc : adr1 (p, c) = adr1 (p, c')) (hp : p ∈ adr1 (p, c)) (hk : ∀ q, q ≠ p → H2 q = H q) (hn : MH K G H2 (p, c')) :
    Stp G (A ++ (p, c) :: B) H G (A ++ (p, c') :: B) H2 ∧ Hst K G (A ++ (p, c') :: B) H2 := by
  have ea : adr (A ++ (p, c) :: B) = adr (A ++ (p, c') :: B) := adr_split hc
  have hpm : p ∈ adr (A ++ (p, c) :: B) := by rw [adr_append]; exact List.mem_append_right _ (List.mem_append_left _ hp)
  have nd := h.nd
  rw [adr_append] at nd
  obtain ⟨_, nb, nab⟩ := List.nodup_append.mp nd
  have nb' : (adr1 (p, c) ++ adr B).Nodup := nb
  obtain ⟨_, _, ncb⟩ := List.nodup_append.mp nb'
  have other : ∀ d ∈ A ++ B, ∀ q ∈ adr1 d, q ≠ p := fun d hd q hq e => by
    rcases List.mem_append.mp hd with z | z
    · exact nab q (List.mem_flatMap.mpr ⟨d, z, hq⟩) p (List.mem_append_left _ hp) e
    · exact ncb p hp q (List.mem_flatMap.mpr ⟨d, z, hq⟩) e.symm
  refine ⟨⟨Same.refl _, fun q o n e => by rw [hk q (fun z => n (by rw [z]; exact hpm))]; exact e, fun _ _ _ g => g, fun q hq => .inl (by rw [ea]; exact hq)⟩, fun q o e => ?_, fun d hd => ?_, fun q hq => h.out q (by rw [ea]; exact hq), by rw [← ea]; exact h.nd⟩
  · have : q ≠ p := fun z => by rw [z, h.out p hpm] at e; cases e
    rw [hk q this]; exact h.sub q o e
  · rcases List.mem_append.mp hd with z | z
    · exact (h.mem d (List.mem_append_left _ z)).up (Same.refl _) fun q hq o e => by rw [hk q (other d (List.mem_append_left _ z) q hq)]; exact e
    · rcases List.mem_cons.mp z with rfl | z
      · exact hn
      · exact (h.mem d (List.mem_append_right _ (List.mem_cons_of_mem _ z))).up (Same.refl _) fun q hq o e => by rw [hk q (other d (List.mem_append_right _ z) q hq)]; exact e
/-- M with the cell of p put anew -/
def putC (p : Addr) (c' : MC) : Mem → Mem
  | [] => []
  | (q, c) :: M => if q = p then (p, c') :: M else (q, c) :: putC p c' M
theorem putC_split {p : Addr} {c c' : MC} : ∀ {M : Mem}, (p, c) ∈ M → ∃ A B, M = A ++ (p, (M.lookup p).getD c) :: B ∧ putC p c' M = A ++ (p, c') :: B
  | (q, d) :: M, h => by
    by_cases e : q = p
    · subst e
      exact ⟨[], M, by simp [List.lookup], by simp [putC]⟩
    · have hm : (p, c) ∈ M := by
        rcases List.mem_cons.mp h with z | z
        · cases z; exact absurd rfl e
        · exact z
      obtain ⟨A, B, h1, h2⟩ := putC_split (c' := c') hm
      have el : (List.lookup p ((q, d) :: M)) = List.lookup p M := by
        rw [List.lookup_cons, show (p == q) = false from by simpa using fun z => e z.symm]
      refine ⟨(q, d) :: A, B, ?_, ?_⟩
      · rw [el, List.cons_append, ← h1]
      · show (if q = p then _ else (q, d) :: putC p c' M) = _
        rw [if_neg e, h2]; rfl
theorem nodup_cell {K : PySem.W.Frag} {G H : Hp} {p : Addr} {c : MC} (h : Hst K G M H) (hm : (p, c) ∈ M) : M.lookup p = some c := by
  have nd := h.nd
  clear h
  induction M with
  | nil => cases hm
  | cons q M ih =>
    obtain ⟨q, d⟩ := q
    have hq : q ∈ adr1 (q, d) := by cases d <;> simp [adr1]
    have nd' : (adr1 (q, d) ++ adr M).Nodup := nd
    obtain ⟨_, n2, n3⟩ := List.nodup_append.mp nd'
    rw [List.lookup_cons]
    rcases List.mem_cons.mp hm with z | z
    · cases z; simp
    · have hp : p ∈ adr M := List.mem_flatMap.mpr ⟨_, z, by cases c <;> simp [adr1]⟩
      have : (p == q) = false := by
        cases e : p == q with
        | false => rfl
        | true =>
          have e' : p = q := by simpa using e
          exact absurd e'.symm (fun z => n3 q hq p hp z)
      rw [this]
      exact ih z n2
theorem put_ok {K : PySem.W.Frag} {G H H2 : Hp} {p : Addr} {c c' : MC} (h : Hst K G M H) (hm : (p, c) ∈ M) (hc : adr1 (p, c) = adr1 (p, c')) (hk : ∀ q, q ≠ p → H2 q = H q) (hn : MH K G H2 (p, c')) :
    Stp G M H G (putC p c' M) H2 ∧ Hst K G (putC p c' M) H2 := by
  obtain ⟨A, B, h1, h2⟩ := putC_split (c' := c') hm
  rw [nodup_cell h hm] at h1
  have h1 : M = A ++ (p, c) :: B := h1
  rw [h2]
  rw [h1] at h ⊢
  exact cell_put h hc (by cases c <;> simp [adr1]) hk hn

/-! ### methods of built-in types -/
inductive TyB (K : PySem.W.Frag) (M : Mem) : Dat → String → Prop
  | str {s : Str} : TyB K M (.str s) "str"
  | int {i : Int} : TyB K M (.int i) "int"
  | lst {ds : List Dat} : TyB K M (.lst ds) "list"
  | scr {ns : List Int} : TyB K M (.scr ns) "list"
  | cell {p : Addr} {ds : List Dat} (h : (p, MC.lst ds) ∈ M) : TyB K M (.raw (.ref p)) "list"
  | dcell {p : Addr} {kvs : List (Key × Dat)} (h : (p, MC.dic kvs) ∈ M) : TyB K M (.raw (.ref p)) "dict"
theorem tyB_ok {K : PySem.W.Frag} {G H : Hp} {d : Dat} {t : String} {v : V} (h : TyB K M d t) (hH : Hst K G M H) (dv : Den K G d v) : tyV K t v H := by
  cases h with
  | str => rw [dv.str_inv]; rfl
  | int => rw [dv.int_inv]; rfl
  | lst => obtain ⟨p, vs, rfl, g, _⟩ := dv.lst_inv; exact .inl ⟨rfl, vs, SqL.of (hH.sub _ _ g)⟩
  | scr => obtain ⟨p, rfl, g⟩ := dv.scr_inv; exact .inl ⟨rfl, _, hH.sub.seq g⟩
  | cell h => obtain ⟨vs, g, _⟩ := hH.mem _ h; rw [dv.raw_inv]; exact .inl ⟨rfl, vs, SqL.of g⟩
  | dcell h => obtain ⟨vs, g, _⟩ := hH.mem _ h; rw [dv.raw_inv]; exact .inr (.inr (.inl ⟨rfl, .inl ⟨vs, g⟩⟩))
/-- a built-in method of d, called with ds -/
def BMr (X : Cx) (id : String) (d : Dat) (ds : List Dat) (M : Mem) (P : PK') : Prop :=
  ∃ r, MtR X id r ∧ ∀ G H v vs, Hst X.K G M H → Den X.K G d v → DenL X.K G ds vs → ∀ Q, CE' X.K G M H P Q → r v vs H Q
theorem ex_bm {name : Str} {t id : String} (pa : PlainAttrs t) (slot : Slot t name id) (hty : typeOf (.builtin id) = pure (.type "method_descriptor"))
    (h : EX X T o τ M (fun d M1 => TyB X.K M1 d t ∧ EA X T (e :: es) τ M1 (fun ds M2 => BMr X id d ds M2 P) E) E)
    (hbase : attributeBase o name X.env (eval o X.env) = eval o X.env := by rfl)
    (hfew : ((backTo tpos (starEach (e :: es) X.env)).all (fun x => !x.1) && (backToKw tpos (keywordEach [] X.env)).all (fun x => x.1.isSome) && decide ((e :: es).length + ([] : List Keyword).length + (if ([] : List Keyword).isEmpty then 0 else 1) < 30)) = true := by rfl)
    (hline : (apos.endLine == tpos.line) = true := by rfl) (hs : starEach (e :: es) X.env = (false, eval e X.env) :: starEach es X.env := by rfl) (hplain : (backTo tpos (starEach es X.env)).any (·.1) = false := by rfl) :
    EX X T (.Call (.Attribute o name apos) (e :: es) [] tpos) τ M P E := by
  refine .mk ?_; intro W tk σ G H hE hH Q hP hX pins s k I
  have hA := h.run W tk σ G H hE hH (fun v H1 => tyV X.K t v H1 ∧ tWA X T (e :: es) σ H1 fun vs H2 => ∃ r, MtR X id r ∧ r v vs H2 Q) (fun d M1 v G1 H1 ⟨ht, hb⟩ s1 h1 dv =>
    ⟨tyB_ok ht h1 dv, hb.run W tk σ G1 H1 (hE.up s1.gg) h1 _ (fun ds M2 vs G2 H2 ⟨r, hr, hq⟩ s2 h2 dvs => ⟨r, hr, hq G2 H2 v vs h2 (dv.up s2.gg) dvs Q (hP.step (s1.trans s2))⟩) (hX.step s1)⟩) hX
  refine wpAny_Call_method_late hbase hfew hline rfl (thnT k (hA pins s k I) fun v s1 k1 ⟨x, H1, I1, r1, ty, q1⟩ => ?_)
  obtain ⟨h1, h2⟩ := tyV_is I1 r1 ty
  refine ⟨t, id, pa, slot, hty, h1, h2, ?_⟩
  have hA := q1 tpos pins s1 k1 I1
  rw [hs] at hA ⊢
  refine Calls.callWith_builtin (by show (false || (backTo tpos (starEach es X.env)).any (·.1)) = false; rw [hplain] <;> rfl) (Calls.evalArgs_plain ?_)
  exact thn hA fun us s2 ⟨vs, H2, I2, r2, r, hr, q2⟩ => hr pins s2 σ H2 x vs v us Q I2 r1 r2 q2
theorem ex_append (h : EX X T o τ M (fun d M1 => TyB X.K M1 d "list" ∧ EA X T (e :: es) τ M1 (fun ds M2 => BMr X "list.append" d ds M2 P) E) E)
    (hbase : attributeBase o "append" X.env (eval o X.env) = eval o X.env := by rfl)
    (hfew : ((backTo tpos (starEach (e :: es) X.env)).all (fun x => !x.1) && (backToKw tpos (keywordEach [] X.env)).all (fun x => x.1.isSome) && decide ((e :: es).length + ([] : List Keyword).length + (if ([] : List Keyword).isEmpty then 0 else 1) < 30)) = true := by rfl)
    (hline : (apos.endLine == tpos.line) = true := by rfl) (hs : starEach (e :: es) X.env = (false, eval e X.env) :: starEach es X.env := by rfl) (hplain : (backTo tpos (starEach es X.env)).any (·.1) = false := by rfl) :
    EX X T (.Call (.Attribute o "append" apos) (e :: es) [] tpos) τ M P E := ex_bm PySem.F.plainAttrs_list PySem.F.slot_list_append PySem.F.type_list_append h hbase hfew hline hs hplain
/-! ### o[i] = v -/
/-! ### a new list that may change -/
theorem ex_lstC (h : EA X T es τ M (fun ds M1 => ds.length ≤ sizeLine ∧ ∀ q, q ∉ adr M1 → P (.raw (.ref q)) ((q, .lst ds) :: M1)) E) : EX X T (.List es pos) τ M P E := by
  refine .mk ?_; intro W tk σ G H hE hH Q hP hX
  refine v_lst ?_
  refine h.run W tk σ G H hE hH _ ?_ hX
  intro ds M1 vs G1 H1 ⟨hl, hp⟩ s1 h1 dvs
  refine ⟨by rw [dvs.length]; exact hl, fun p hp' => ?_⟩
  have nM : p ∉ adr M1 := fun z => h1.there p z hp'
  have ha : adr ((p, MC.lst ds) :: M1) = p :: adr M1 := rfl
  have kp : ∀ b o, H1 b = some o → (upd H1 p (.lst vs)) b = some o := fun b o e => by rw [upd_ne (ne_of_none e hp')]; exact e
  refine hP _ _ _ _ _ (hp p nM) (s1.trans ⟨Same.refl _, fun b o _ e => kp b o e, fun _ _ _ g => g, fun b hb => ?_⟩) ⟨fun b o e => kp b o (h1.sub b o e), fun c hc => ?_, fun b hb => ?_, ?_⟩ den_raw
  · rw [ha] at hb
    rcases List.mem_cons.mp hb with rfl | hb
    · exact .inr hp'
    · exact .inl hb
  · rcases List.mem_cons.mp hc with rfl | hc
    · exact ⟨vs, upd_same, dvs⟩
    · exact (h1.mem c hc).up (Same.refl _) fun b hb o e => kp b o e
  · rw [ha] at hb
    rcases List.mem_cons.mp hb with rfl | hb
    · exact h1.sub.free hp'
    · exact h1.out b hb
  · rw [ha]
    exact List.nodup_cons.mpr ⟨nM, h1.nd⟩
end
end Kh

set_option Elab.async false
set_option linter.all false
set_option maxRecDepth 100000
set_option maxHeartbeats 4000000
namespace Kh
open PySem PySem.Spec L2
open PySem.W PySem.Calls PyProof.Rows PySem.HandSPX

/-! ### an own exception class whose __init__ says super().__init__(v); self.f = v -/
abbrev supBody (ns f : Str) (p0 p1 p2 p3 p4 p5 p6 p7 p8 p9 : Pos) : List Stmt :=
  [.Expr (.Call (.Attribute (.Call (.Name "super" p0) [] [] p1) "__init__" p2) [.Name ns p3] [] p4) p5, .Assign [.Attribute (.Name "self" p6) f p7] (.Name ns p8) p9]
structure SupX (P : Program) (K : Frag) (C fI : Addr) (ns f : Str) : Prop where
  T : OexC K C
  iC : findIn K (.ref C) "__init__" = some (some (.ref fI))
  tI : typeIn K (.ref fI) = some (.type "function")
  nf : findIn K (.ref C) f = some none
  al : ks_superIn K C C "__init__" = some (some (.builtin "ValueError.__init__"))
  sV : subIn K (.ref C) (.type "ValueError") = some true
  sC : mroIn K C (.ref C) = some true
  op : nsIn K cStatics "thirdparty.any" = some none
  tp : (P.main.scope.names.lookup ("super" : Str)).isSome = false
  fn : ∃ (oc : Value) (od : Option Addr) (osl : Array (Option Value)) (name qual : Str) (params : Arguments) (scope : Scope) (dV kV doc pm : Value) (an : Option Addr) (cda : Addr) (ct : Value) (cc : Addr) (p0 p1 p2 p3 p4 p5 p6 p7 p8 p9 : Pos) (ar : Arg)
      (ccl : Value) (cdd : Option Addr) (vs : Array Value) (ccs : Array (Option Value)) (file : Str) (tf : Tok) (cl : Value) (cld : Option Addr) (csl : Array (Option Value)),
    K.lookup fI = some ⟨oc, od, .func (ksFn name qual params (supBody ns f p0 p1 p2 p3 p4 p5 p6 p7 p8 p9) scope dV kV doc pm an (.ref cda) ct cc), osl⟩ ∧ codeIn K (.ref cda) qual = true ∧
    (params.posonlyargs ++ params.args).head? = some ar ∧ ar.arg = "self" ∧ scope.kind = .function ∧ scope.isGenerator = false ∧ scope.isCoroutine = false ∧ (∀ x ∈ scope.names, x.2 ≠ .cell) ∧
    scope.names.lookup ("super" : Str) = some .globalImplicit ∧ scope.names.lookup ("__class__" : Str) = some .free ∧ scope.names.lookup ("self" : Str) = some .local ∧ scope.names.lookup ns = some .local ∧
    K.lookup cda = some ⟨ccl, cdd, .fields vs, ccs⟩ ∧ vs[2]? = some (.str file tf) ∧ ((P.main.file : Str) == file) = true ∧ K.lookup cc = some ⟨cl, cld, .cell (some (.ref C)), csl⟩ ∧
    Binds K (ksFn name qual params (supBody ns f p0 p1 p2 p3 p4 p5 p6 p7 p8 p9) scope dV kV doc pm an (.ref cda) ct cc) ["self", ns] [] ∧
    (∀ env : Env, ∃ pl : Sem Bool, eval (.Call (.Attribute (.Call (.Name "super" p0) [] [] p1) "__init__" p2) [.Name ns p3] [] p4) env = (do
      let ov ← attributeBase (.Call (.Name "super" p0) [] [] p1) "__init__" env (eval (.Call (.Name "super" p0) [] [] p1) env)
      standAt p2.atName
      let (f, first) ← holding [ov] (getMethod ov "__init__" pl)
      callWith p4 f first (backTo p4 (starEach [.Name ns p3] env)) []))
  ne : (ns == ("self" : Str)) = false
  nd : (ns == ("__debug__" : Str)) = false

section
variable {prog : Program} {w : World} {A : Around} {E : Value → Shared → Prop} {h : Heap} {g : Array GenState} {d : Drawn} {t : Nat} {os : OsState}
variable {nm q : Str} {C N : Addr} {bs bm : List Value} {hdct : Bool} {sn : List Str} {sub : List Value} {ab : Bool} {col : Option Bool} {dd : Option Addr} {k0 k1 k2 k3 k5 : Option Value}
theorem call_mw {u e t0 : Addr} {rest : List Value} {Q : Value → Shared → Prop}
    (hC : h.get? C = some (excClassObj nm q C N bs bm hdct sn sub ab col dd k0 k1 k2 k3 k5 "ValueError.__new__")) (he : h.get? e = some (HandSPX.excO C t0)) (hu : h.get? u = some (kxs_mw "ValueError.__init__" e)) (hrest : rest.length ≤ sizeLine)
    (hq : ∀ h' t1, (∀ b o, b ≠ e → h.get? b = some o → h'.get? b = some o) → h'.get? e = some (HandSPX.excO C t1) → Q .none ⟨h', g, d, t, os⟩) :
    wpAny (model prog w) A (call (.ref u) rest) Q E ⟨h, g, d, t, os⟩ := by
  refine wpAny_call (codeAny_of_tree ?_)
  show wpAny _ A.in1 (callAny (.ref u) ⟨rest, []⟩) _ _ _
  simp only [callAny]
  refine wpAny_bind (wpAny_load hu ?_)
  simp only [kxs_mw, show (Value.type "method-wrapper" == Value.type "method" || Value.type "method-wrapper" == Value.type "builtin_function_or_method" || Value.type "method-wrapper" == Value.type "method-wrapper") = true by decide, if_true]
  refine W.KFB.if_so (by decide) ?_
  refine wpAny_bind (check_bound_init F.excBase_ValueError.toExcCallFacts hC he rfl ?_)
  refine wpAny_bind (wpAny_pure (wpAny_pure ?_))
  refine ⟨Code.quiet_builtin _ (by decide +kernel), codeAny_builtin F.excBase_ValueError.initEntry ?_⟩
  rw [Around.under_plainId F.excBase_ValueError.init.plain _]
  wp_walk
  refine hq _ h.objs.size (fun b o hb ho => ?_) ?_
  · rw [Heap.get?_update_other _ _ (Ne.symm hb)]
    exact Heap.get?_push_of_some _ ho
  · rw [Heap.get?_update_self _ (Heap.get?_push_of_some _ he) rfl]
    rfl
end
/-- what __init__ leaves of a fresh exception at x -/
structure InitEnd (h h' : Heap) (x C dx t1 : Addr) (f : Str) (v : Value) : Prop where
  keep : ∀ b o, b ≠ x → h.get? b = some o → h'.get? b = some o
  obj : h'.get? x = some { cls := .ref C, dict := some dx, data := .fields #[.ref t1, .none, .none, .none, .bool false, .none] }
  dbig : h.objs.size ≤ dx
  dne : dx ≠ x
  ns : h'.Ns1 dx (fun y => if y = f then some v else none)
structure OwnMade (h h' : Heap) (e C d : Addr) (f : Str) (v : Value) : Prop where
  keep : ∀ b o, h.get? b = some o → h'.get? b = some o
  new : h.objs.size ≤ e
  obj : ∃ oe vs, h'.get? e = some oe ∧ oe.cls = .ref C ∧ oe.dict = some d ∧ oe.data = .fields vs ∧ vs[1]? = some .none
  dbig : h.objs.size ≤ d
  dne : d ≠ e
  ns : h'.Ns1 d (fun y => if y = f then some v else none)
section
variable {prog : Program} {w : World} {A : Around} {E : Value → Shared → Prop} {R : Result → Shared → Prop} {s : Shared} {K : Frag} {mg mb : Str → Option Value} {C fI : Addr} {ns f : Str}
theorem sup_init (T : SupX prog K C fI ns f) {x t0 : Addr} {v : Value} (X : K.In s.heap) (hlim : s.heap.NoLimit) (hx : s.heap.get? x = some (excO C t0)) (hnx : K.lookup x = none) (hroom : A.depth < recursionLimit)
    (hg : s.heap.Ns mainGlobals mg) (hm : mg "super" = none) (hb : s.heap.Ns builtinsNs mb) (hbs : mb "super" = bootBuiltins "super")
    (hq : ∀ h' tk dx t1, InitEnd s.heap h' x C dx t1 f v → R (.ok (.ret .none)) { s with heap := h', toks := tk }) :
    codeAny (model prog w) A (.call (.ref fI) ⟨[.ref x, v], []⟩) R s := by
  obtain ⟨oc, od, osl, name, qual, params, scope, dV, kV, doc, pm, an, cda, ct, cc, p0, p1, p2, p3, p4, p5, p6, p7, p8, p9, ar, ccl, cdd, vs, ccs, file, tf, cl, cld, csl, ho, hcd, hp, har, hk, hgen, hco, hcell, ks, kc, kse, kn, hcode, hvs, hfile, hcc, hbn, hev⟩ := T.fn
  obtain ⟨nm, q, N, bs, bm, sn, sub, ab, col, dd, k0, k1, k2, k3, k5, hC, hbm⟩ := T.T.cls
  have hcl : clsIn K C = some { name := nm, bases := bs, mro := .ref C :: bm, ns := N, qualname := q, hasDict := true, slotNames := sn, subclasses := sub, abstract := ab, collection := col, hasDel := false } := by unfold clsIn; rw [hC] <;> rfl
  refine ks_codeAny_call_defAt (fd := ksFn name qual params (supBody ns f p0 p1 p2 p3 p4 p5 p6 p7 p8 p9) scope dV kV doc pm an (.ref cda) ct cc) (binds := [("self", .ref x), (ns, v)]) hroom (X _ _ ho) rfl hlim (codeRec_of X hcd) rfl
    (hbn s [.ref x, v] X rfl) hcell (fun y hy => ?_) (fun h₁ hns k => ?_) hco hgen hk
  · rcases List.mem_cons.mp hy with rfl | hy
    · exact kse
    · rcases List.mem_cons.mp hy with rfl | hy
      · exact kn
      · cases hy
  have X₁ : K.In h₁ := X.keeps k
  have hx₁ := k _ _ hx
  have e1 : List.lookup ns ([(("self" : Str), Value.ref x), (ns, v)].reverse) = some v := by simp [List.lookup]
  have e2 : List.lookup ("self" : Str) ([(("self" : Str), Value.ref x), (ns, v)].reverse) = some (.ref x) := by
    have n2 : (("self" : Str) == ns) = false := by
      have := T.ne
      cases z : (("self" : Str) == ns) with
      | false => rfl
      | true =>
        have z2 : ("self" : Str) = ns := by simpa using z
        rw [← z2] at this
        simp at this
    show List.lookup ("self" : Str) [(ns, v), (("self" : Str), Value.ref x)] = _
    rw [List.lookup_cons, n2]
    simp [List.lookup]
  obtain ⟨hh, gs, dr, tk, os⟩ := s
  have I₁ : InstAt h₁ x (excO C t0) C none := ⟨hx₁, rfl, rfl, trivial⟩
  have hCd : clsIn K C = some _ := hcl
  have hxC : x ≠ C := fun z => by rw [z, hC] at hnx; cases hnx
  obtain ⟨pl, hev⟩ := hev (ksEnv qual scope hh.objs.size fI (.ref cda) cc)
  refine ks_wpAt_execs_cons (ks_wpAt_Expr_any (ks_wpAt_MethodCall ?_ hev) (by show (scope.kind == .module && _) = false; rw [hk]; rfl) (by rfl))
  refine ks_wpAt_super_base (env := ksEnv qual scope hh.objs.size fI (.ref cda) cc) ks kc (by decide) rfl (X₁ _ _ ho) rfl hp rfl (X₁ _ _ hcode) rfl hvs hfile T.tp ?_
  refine ks_loadName_global hk ks (loadGlobal_builtin (env := ksEnv qual scope hh.objs.size fI (.ref cda) cc) (hg.keeps k) hm (hb.keeps k) (hbs.trans Boot.«super») ⟨rfl, ?_⟩)
  refine wpAny_loadName_free hk kc rfl ⟨_, X₁ _ _ hcc, rfl⟩ ?_
  rw [har]
  refine wpAny_loadName_local hk kse hns e2 ?_
  refine ks_wpAny_isType_cls (X₁ _ _ hC) rfl ⟨rfl, ?_⟩
  refine ks_wpAny_call_super (X₁ _ _ hC) rfl hx₁ rfl (fun c e => by cases e) (looks_mroIn X₁ T.sC) (fun h₂ hso k₂ => ?_)
  have X₂ : K.In h₂ := X₁.keeps k₂
  have hx₂ := k₂ _ _ hx₁
  have I₂ : InstAt h₂ x (excO C t0) C none := ⟨hx₂, rfl, rfl, trivial⟩
  have al := T.al
  unfold ks_superIn at al
  rw [hcl] at al
  refine kxs_getMethod kxs_ValueError hso (looks_opaque X₂ T.op) (l₀ := .ref C :: bm) ?_ rfl X₂ al (I₂.type.andThen (looks_subIn X₂ T.sV)) hxC (by decide) ?_
  · exact fun A Q E s k q => wpAny_bind ((looks_clsIn X₂ hcl) A _ E s k (wpAny_pure q))
  refine kxs_callWith (i := "ValueError.__init__") (x := x) (by rfl) (Calls.evalArgs_plain (Calls.spliced_cons ?_))
  have k₃ : ∀ b o, h₂.get? b = some o → (h₂.push (kxs_mw "ValueError.__init__" x)).get? b = some o := fun b o e => Heap.get?_push_of_some _ e
  have hns₃ := (hns.keeps k₂).keeps k₃
  refine wpAny_Name (wpAny_loadName_local hk kn hns₃ e1 (Calls.spliced_nil ⟨Heap.get?_push_at rfl rfl, ?_⟩)) T.nd
  refine call_mw ((X₂.keeps k₃) _ _ hC) (k₃ _ _ hx₂) (Heap.get?_push_at rfl rfl) (by show 1 ≤ sizeLine; decide) (fun h₄ t1 k₄ hx₄ => ?_)
  have kk : ∀ b o, b ≠ x → h₁.get? b = some o → h₄.get? b = some o := fun b o nb e => k₄ b o nb (k₃ _ _ (k₂ _ _ e))
  have neL : hh.objs.size ≠ x := fun z => absurd (Heap.lt_size hx) (by rw [z]; exact Nat.lt_irrefl _)
  have hns₄ : h₄.Ns hh.objs.size (fun y => List.lookup y ([(("self" : Str), Value.ref x), (ns, v)].reverse)) := by
    obtain ⟨o, es, ep, a1, r⟩ := hns
    exact ⟨o, es, ep, kk _ _ neL a1, r⟩
  have X₄ : K.In h₄ := fun b o e => kk b o (fun z => by rw [z, hnx] at e; cases e) (X₁ _ _ e)
  refine ks_wpAt_execs_cons (ks_wpAt_Assign_Attr ?_ (by rfl))
  refine wpAt_of_wpAny (wpAny_Name (wpAny_loadName_local hk kn hns₄ e1 ?_) T.nd)
  refine wpAny_Name (wpAny_loadName_local hk kse hns₄ e2 ?_) (by decide)
  refine set_plain X₄ (ox := excO C t1) (od := none) ⟨hx₄, rfl, rfl, trivial⟩ T.T.sa ?_
  refine exc_osa X₄ hx₄ hcl (show refsVE (.ref C :: bm) = true from hbm) rfl T.nf (fun h₅ tk₅ dx k₅ dn dne hx₅ hn₅ => ?_)
  have z : hh.objs.size ≤ h₄.objs.size := by
    obtain ⟨o, es, ep, a1, r⟩ := hns₄
    exact Nat.le_of_lt (Heap.lt_size a1)
  refine wpAt_of_wpAny (wpAny_execs_nil (hq h₅ tk₅ dx t1 ⟨fun b o nb e => k₅ b o nb (kk b o nb (k b o e)), hx₅, Nat.le_trans z dn, dne, hn₅⟩))
theorem sup_made (T : SupX prog K C fI ns f) {v : Value} (X : K.In s.heap) (hlim : s.heap.NoLimit) (hroom : A.depth + 1 < recursionLimit)
    (hg : s.heap.Ns mainGlobals mg) (hm : mg "super" = none) (hb : s.heap.Ns builtinsNs mb) (hbs : mb "super" = bootBuiltins "super")
    (hq : ∀ h' tk e d, OwnMade s.heap h' e C d f v → R (.ok (.ret (.ref e))) { s with heap := h', toks := tk }) :
    codeAny (model prog w) A (.call (.ref C) ⟨[v], []⟩) R s := by
  obtain ⟨nm, q, N, bs, bm, sn, sub, ab, col, dd, k0, k1, k2, k3, k5, hC, hbm⟩ := T.T.cls
  obtain ⟨hp, gs, dr, tk, os⟩ := s
  have k : ∀ b o, hp.get? b = some o → ((hp.push (kdv_tup [v])).push (excO C hp.objs.size)).get? b = some o := fun b o e => Heap.get?_push_of_some _ (Heap.get?_push_of_some _ e)
  have hget : ((hp.push (kdv_tup [v])).push (excO C hp.objs.size)).get? (hp.objs.size + 1) = some (excO C hp.objs.size) := by heap_get
  have hnx : K.lookup (hp.objs.size + 1) = none := by
    cases e : K.lookup (hp.objs.size + 1) with
    | none => rfl
    | some o =>
      have z : hp.get? (hp.objs.size + 1) = some o := X _ _ e
      exact absurd (Nat.lt_of_succ_lt (Heap.lt_size z)) (Nat.lt_irrefl _)
  refine call_own F.excBase_ValueError (fun X => refsVE_contains X bm hbm) (X _ _ hC) (looks_findIn X T.iC) (fun self => bind_fn X self T.tI) (by show 1 ≤ sizeLine; decide) ?_
  refine sup_init (s := ⟨(hp.push (kdv_tup [v])).push (excO C hp.objs.size), gs, dr, tk, os⟩) T (X.keeps k) (hlim.keeps k) hget hnx ?_ (hg.keeps k) hm (hb.keeps k) hbs fun h' tk' dx t1 ⟨k', hx, dn, dne, hns⟩ => ?_
  · show A.depth + 1 < recursionLimit
    exact hroom
  · have old : ∀ b o, hp.get? b = some o → h'.get? b = some o := fun b o e => k' b o (Nat.ne_of_lt (Nat.lt_succ_of_lt (Heap.lt_size e))) (k b o e)
    have z : hp.objs.size + 1 + 1 ≤ dx := by
      first
        | (simpa only [Heap.size_push] using dn)
        | exact dn
        | (have q := dn; rw [Heap.size_push, Heap.size_push] at q; exact q)
    exact ⟨rfl, hq h' tk' (hp.objs.size + 1) dx ⟨old, Nat.le_succ _, ⟨_, _, hx, rfl, rfl, rfl, rfl⟩, Nat.le_trans (Nat.le_trans (Nat.le_succ _) (Nat.le_succ _)) z, dne, hns⟩⟩
end
end Kh
namespace Kh
open PySem PySem.Spec L2
theorem relO_one {f : Str} {v : V} {v' : Value} (r : RelV v v') (g : Str) : RelO (List.lookup g [(f, v)]) (if g = f then some v' else none) := by
  by_cases hw : g = f
  · subst hw
    rw [if_pos rfl]
    have q : List.lookup g [(g, v)] = some v := by simp [List.lookup]
    rw [q]
    exact r
  · rw [if_neg hw]
    have qw : (g == f) = false := by simpa using hw
    have q2 : List.lookup g [(f, v)] = none := by simp [List.lookup, qw]
    rw [q2]
    trivial
section
variable {X : Cx} {C fI : Addr} {ns f : Str}
/-- C(e) -/
def tMkS (C : Addr) (f : Str) (ta : TA) : L2.St → Hp → XK → Prop := fun σ H Q => ta σ H fun vs H1 => ∃ v, vs = [v] ∧ ∀ d, H1 d = none → Q (.ref C) (some d) (upd H1 d (.xd [(f, v)]))
theorem pmk_sup {a : Expr} {ta : TA} {x : Str} {p pos : Pos} {k : Nat} (T : SupX X.prog X.K C fI ns f) (gC : X.mg x = some (.ref C)) (hms : X.mg "super" = none) (hr : Room k X.A) (ha : PA X [a] ta) (hg : Gl X x) (hdb : (x == ("__debug__" : Str)) = false := by decide)
    (he : starEach (a :: []) X.env = (false, eval a X.env) :: starEach [] X.env := by rfl) (hpl : (backTo pos (starEach [] X.env)).any (·.1) = false := by rfl) :
    PMk X (.Call (.Name x p) [a] [] pos) (tMkS C f ta) := by
  intro pins s σ H Q I h
  refine wpAny_Call_Name_kw (ld_glob I hg gC ?_ hdb)
  refine PySem.W.callWith_K (h₀ := X.base) I.ok.mod.kin T.T.kC (thn (ha.run pos pins s σ H _ I h) fun us s1 hh => ?_) he hpl
  obtain ⟨vs, H1, I1, r1, v, ev, q1⟩ := hh
  subst ev
  refine ⟨I1.kIn, ?_⟩
  cases r1 with
  | cons rv rn =>
    rename_i v' us'
    cases rn
    show wpAny _ _ (call (.ref C) [v']) _ _ _
    have hlim := I1.nolimit
    have hgl := I1.mod.glob.keeps I1.bk
    obtain ⟨mb, hb1, hb2⟩ := I1.mod.blt
    have hbl := hb1.keeps I1.bk
    obtain ⟨hp, g, dr, tk, os⟩ := s1
    refine wpAny_call (sup_made T I1.kIn hlim (by have := hr.dp; omega) hgl hms hbl (hb2 _ (by decide)) fun h' tk' e d M => ?_)
    show MkP X pins σ Q (.ref e) ⟨h', g, dr, tk', os⟩
    obtain ⟨oe, fv, hoe, hc, hd, hdat, h1⟩ := M.obj
    have hns := M.ns
    obtain ⟨G', g1, g2⟩ := restrict h' fun b => decide (b ≠ e)
    have gk : ∀ b, b ≠ e → G'.get? b = h'.get? b := fun b hb => g1 b (decide_eq_true hb)
    have ge : G'.get? e = none := g2 e (by simp)
    have old : ∀ b o, hp.get? b = some o → G'.get? b = some o := fun b o q => (gk b (Nat.ne_of_lt (Nat.lt_of_lt_of_le (Heap.lt_size q) M.new))).trans (M.keep b o q)
    have ob : ObjOk X.prog X.w (upd H1 d (.xd [(f, v)])) G' d (.xd [(f, v)]) :=
      ⟨_, hns.at (fun o q => (gk d M.dne).trans q), fun g => relO_one rv g⟩
    have J : Inv X pins σ (upd H1 d (.xd [(f, v)])) ⟨G', g, dr, tk', os⟩ := I1.laid (t' := tk') old M.dbig ob
    refine ⟨e, oe, fv, ⟨G', g, dr, tk', os⟩, _, .ref C, some d, rfl, J, fun b o q => ?_, ge, hoe, ⟨hc, hd⟩, hdat, h1, ?_, rfl, I1.bare, raises_own T.T.exC T.T.tyC, q1 d (I1.hok.fresh M.dbig)⟩
    · by_cases hb : b = e
      · have q' : G'.get? b = some o := q
        rw [hb, ge] at q'; cases q'
      · exact (gk b hb).symm.trans q
    · rw [upd_ne (Ne.symm M.dne)]
      exact I1.hok.fresh M.new
end
section
variable {X : Cx} {T : Bool} {τ : TEnv} {M : Mem} {P : PK'} {E : XKx} {e a b c : Expr} {es : List Expr} {pos p pos2 : Pos} {R : RK} {rest : List Stmt} {x n f ns : Str} {C fI : Addr} {k : Nat}
/-- raise C(e) -/
theorem ws_raise (hc : X.calm = true) (S : SupX X.prog X.K C fI ns f) (gC : X.mg x = some (.ref C)) (hms : X.mg "super" = none) (hr : Room k X.A)
    (h : EX X false e τ M (fun d M1 => R (.ex ⟨C, [f], [d]⟩ τ) M1) (fun y M1 => R (.ex y τ) M1)) (hg : Gl X x := by rfl) (hdb : (x == ("__debug__" : Str)) = false := by decide)
    (he : starEach (e :: []) X.env = (false, eval e X.env) :: starEach [] X.env := by rfl) (hpl : (backTo pos (starEach [] X.env)).any (·.1) = false := by rfl) :
    WS X T (.Raise (some (.Call (.Name x p) [e] [] pos)) none pos2 :: rest) τ M R := .mk fun W tk σ G H hE hH D hR => by
  refine ws_step (ps_raise hc tk (pmk_sup (ta := tWA X false [e]) S gC hms hr pa_W hg hdb he hpl)) ?_
  refine wa_cons (Q := fun vs H1 => ∃ v, vs = [v] ∧ ∀ d, H1 d = none → W (.ref C) (some d) σ (upd H1 d (.xd [(f, v)]))) he ?_
  refine h.run W tk σ G H hE hH _ ?_ (ex_out hR hE)
  intro d M1 v G1 H1 hp s1 h1 dv
  refine tWA_of pa_nil ?_
  refine ⟨v, rfl, fun dd hd => ?_⟩
  obtain ⟨s2, h2⟩ := Stp.new (o := .xd [(f, v)]) h1 hd
  exact hR _ _ _ _ hp (s1.trans s2) h2 σ (some dd) ((hE.up s1.gg).up s2.gg) (.inr ⟨dd, [v], rfl, upd_same, .cons (dv.up s2.gg) .nil⟩)
/-- the ends of an except suite: its name goes -/
def suiteR (i : Nat) (k : TEnv → Mem → Prop) (R : RK) : RK
  | .nx τ, M => k (τ.set i none) M
  | .ct τ, M => R (.ct (τ.set i none)) M
  | .bk τ, M => R (.bk (τ.set i none)) M
  | .rt d, M => R (.rt d) M
  | .ex _ _, _ => False
/-- err.f in the suite -/
theorem ex_ev {a dd : Addr} {oe : Obj} {pn : List (Addr × Obj)} {xns : List Str} {ds : List Dat} {z : Dat} (Tx : XfC X.K C) (hno : PySem.W.findIn X.K (.ref C) f = some none) (hz : Zc (.ref C) (some dd) oe) (hv : ∃ vs, oe.data = .fields vs)
    (ht : X.N[ixIn X.N n]? = some n ∧ τ[ixIn X.N n]? = some (some (.xn a dd xns ds))) (hl : (xns.zip ds).lookup f = some z) (h : P z M) (hvis : Vis X.env.scope n := by first | exact Or.inl rfl | exact Or.inr (Or.inl rfl) | exact Or.inr (Or.inr rfl))
    (hd : (n == ("__debug__" : Str)) = false := by decide) (hcd : (n == ("__classdict__" : Str)) = false := by decide) (hb : attributeBase (.Name n p) f X.env (eval (.Name n p) X.env) = eval (.Name n p) X.env := by rfl) :
    EX (X.suite a ((a, oe) :: pn)) T (.Attribute (.Name n p) f pos) τ M P E := .mk fun W tk σ G H hE hH Q hP hX => by
  obtain ⟨v, h1, h2⟩ := hE _ _ ht.2
  obtain ⟨vs, rfl, g1, g2⟩ := h2.xn_inv
  obtain ⟨u, l1, l2⟩ := denL_lookup g2 hl
  have q := pe_xf Tx hno hz hv (pe_var (X := X.suite a ((a, oe) :: pn)) (pos := p) ht.1 hvis hd hcd) (pos := pos) hb
  refine tW_of q ?_
  exact ⟨_, h1, rfl, rfl, dd, _, u, rfl, hH.sub _ _ g1, l1, hP _ _ _ _ _ h Stp.refl hH l2⟩
end
end Kh

set_option Elab.async false
set_option linter.all false
set_option maxRecDepth 100000
set_option maxHeartbeats 1000000
namespace Kh
open PySem PySem.Spec L2
section
variable {X : Cx} {T : Bool} {τ : TEnv} {M : Mem} {P : PK'} {E : XKx} {e a b c o value : Expr} {es : List Expr} {pos pos' apos tpos : Pos} {R : RK} {rest : List Stmt} {x : Str}
/-- the name of a built-in type -/
theorem ex_gty {n : String} (hm : X.mg x = none) (hv : bootBuiltins x = some (.type n)) (h : P (.raw (.ty n)) M) (hg : Gl X x := by rfl) (hn : x ≠ "__name__" := by decide) (hd : (x == ("__debug__" : Str)) = false := by decide) : EX X T (.Name x pos) τ M P E :=
  ex_c (pe_bltn (v := .ty n) hg hm hv rfl hn hd) (fun _ => den_raw) h
/-- a list cell is changed no more -/
def FrzP (P : PK') : PK' := fun d M => ∃ p ds M3, d = .raw (.ref p) ∧ M.Perm ((p, .lst ds) :: M3) ∧ P (.lst ds) M3
theorem ex_frz (h : EX X T e τ M (FrzP P) E) : EX X T e τ M P E := .mk fun W tk σ G H hE hH Q hP hX =>
  h.run W tk σ G H hE hH Q (fun d M2 v G2 H2 ⟨p, ds, M3, ed, pm, hp⟩ s h2 dv => by
    subst ed
    obtain ⟨G', s3, h3, d3⟩ := freezeL (h2.perm pm)
    rw [dv.raw_inv]
    exact hP _ _ _ _ _ hp ((s.perm (List.Perm.refl _) pm).trans s3) h3 d3) hX
/-- cells that nothing names any more -/
theorem Hst.drop {K : PySem.W.Frag} {G H : Hp} {A B : Mem} (h : Hst K G (A ++ B) H) : Hst K G A H := h.left
theorem Stp.drop {G H G2 H2 : Hp} {A B : Mem} (s : Stp G M H G2 (A ++ B) H2) : Stp G M H G2 A H2 := ⟨s.gg, s.hh, s.fr, fun b hb => s.ad b (by rw [adr_append]; exact List.mem_append_left _ hb)⟩
theorem ws_drop {ss : List Stmt} {A B : Mem} (pm : M.Perm (A ++ B)) (h : WS X T ss τ A R) : WS X T ss τ M R := .mk fun W tk σ G H hE hH D hR => by
  have h2 := hH.perm pm
  have s2 : Stp G M H G A H := (Stp.refl.perm (List.Perm.refl _) pm).drop
  exact h.run W tk σ G H hE h2.drop D (hR.step s2)
end
/-- the class that an except clause names: own classes -/
theorem exm_of {K : PySem.W.Frag} {S D : Addr} {b : Bool} (h1 : PySem.W.subIn K (.ref D) (.type "BaseException") = some true) (h2 : PySem.W.isClsIn K D = true) (h3 : PySem.W.typeIn K (.ref D) = some (.type "type")) (h4 : PySem.W.subIn K (.ref S) (.ref D) = some b) :
    PySem.W.exmOne K (.ref S) (.ref D) = some b := by
  have e1 : (PySem.W.subIn K (.ref D) (.type "BaseException") == some true) = true := by rw [h1] <;> rfl
  have e2 : ((PySem.W.clsIn K D).isSome && PySem.W.typeIn K (.ref D) == some (.type "type")) = true := by
    have h2' : (PySem.W.clsIn K D).isSome = true := h2
    rw [h2', h3] <;> rfl
  show (if (PySem.W.subIn K (.ref D) (.type "BaseException") == some true) = true then (if ((PySem.W.clsIn K D).isSome && PySem.W.typeIn K (.ref D) == some (.type "type")) = true then PySem.W.subIn K (.ref S) (.ref D) else none) else none) = some b
  rw [if_pos e1, if_pos e2]
  exact h4
/-- the law's def at its script -/
theorem law_spS {K : PySem.W.Frag} {H : Hp} {a : Addr} {ns : List Int} {S : Spc} (hS : SqL K H a (ns.map V.int)) (h : S [.scr ns] [] (fun d _ => d = .bl true) E0') : toSp K S [.ref a] H (fun v _ => v = .bl true) fun _ _ _ => False :=
  ⟨H, [.scr ns], [], _, _, .cons (by simp only [Den]; exact ⟨a, rfl, hS⟩) .nil, ⟨Same.refl _, (fun _ h => by cases h), (fun _ h => by cases h), List.Pairwise.nil⟩, h, fun d M2 v G2 H2 e s h2 dv => by subst e; exact dv.bl_inv, noX⟩
/-! ### isinstance(d, int), isinstance(d, bool) of plain data -/
section
variable {K : PySem.W.Frag}
end
/-! ### calls of defs, all cells handed -/
def UpP {α : Type} (P : α → Mem → Prop) : α → Mem → Prop := fun d Mc => ∃ M2, (Mc ++ []).Perm M2 ∧ P d M2
theorem UpP.mk {α : Type} {P : α → Mem → Prop} {d : α} {M : Mem} (h : P d M) : UpP P d M := ⟨M, by rw [List.append_nil], h⟩
theorem ap_all {S : Spc} {ds : List Dat} {M : Mem} {P : PK'} {E : XKx} (h : S ds M (UpP P) (UpP E)) : AP S ds M P E := ⟨M, [], by rw [List.append_nil], h⟩
section
variable {X : Cx} {T : Bool} {τ : TEnv} {M : Mem} {P : PK'} {E : XKx} {e o : Expr} {es : List Expr} {pos p apos : Pos} {k : Nat} {f C : Addr} {fd : FuncData} {ps : List Str} {S : Spc} {x m qual : Str} {st : Stmt}
theorem ex_callF (F : FnD X.prog X.w X.K X.mg X.base k f fd ps S) (hr : Room k X.A) (hm : X.mg x = some (.ref f)) (FF : Fun X.K x qual st f fd) (hb : Binds X.K fd ps [])
    (h : EA X T (e :: es) τ M (fun ds M1 => S ds M1 (UpP P) (UpP E)) E) (hg : Gl X x := by rfl) (hdb : (x == ("__debug__" : Str)) = false := by decide) (he : starEach (e :: es) X.env = (false, eval e X.env) :: starEach es X.env := by rfl) (hpl : (backTo pos (starEach es X.env)).any (·.1) = false := by rfl) :
    EX X T (.Call (.Name x p) (e :: es) [] pos) τ M P E := ex_call (df := []) (dvs := []) F hr hm FF.kp hb .nil (fun _ => .nil) (.mk fun W tk σ G H hE hH Q hP hX => h.run W tk σ G H hE hH Q (fun ds M2 vs G2 H2 hs => hP ds M2 vs G2 H2 (by show AP S (ds ++ []) M2 P E; rw [List.append_nil]; exact ap_all hs)) hX) hg hdb he hpl
end
section
variable {X : Cx} {T : Bool} {τ : TEnv} {M : Mem} {R : RK} {rest : List Stmt}
/-- a, b = x, y with plain local names -/
theorem ws_par {x y : Str} {a b : Expr} {px py pt pos : Pos} {kt k2 pt2} (h : EA X false [a, b] τ M (fun ds M1 => ∃ d1 d2, ds = [d1, d2] ∧ WS X T rest ((τ.set (ixIn X.N x) (some d1)).set (ixIn X.N y) (some d2)) M1 R) (fun z M1 => R (.ex z τ) M1))
    (hc : X.calm = true := by rfl) (hi : X.N[ixIn X.N x]? = some x := by rfl) (hj : X.N[ixIn X.N y]? = some y := by rfl) (hij : ixIn X.N x ≠ ixIn X.N y := by first | decide | exact of_decide_eq_true (by kernel_rfl)) (hN : X.N.Nodup := by first | decide +kernel | exact of_decide_eq_true (by kernel_rfl))
    (hx : X.env.scope.names.lookup x = some .local := by rfl) (hy : X.env.scope.names.lookup y = some .local := by rfl)
    (hw : swappedStores [.Tuple [.Name x px, .Name y py] kt pt] (.Tuple [a, b] k2 pt2) X.env = pure (some [x, y]) := by rfl)
    (hs : swapsWithSole [.Tuple [.Name x px, .Name y py] kt pt] (.Tuple [a, b] k2 pt2) pos.line X.env = pure false := by rfl) :
    WS X T (.Assign [.Tuple [.Name x px, .Name y py] kt pt] (.Tuple [a, b] k2 pt2) pos :: rest) τ M R := .mk fun W tk σ G H hE hH D hR => tWSs_len fun hl => by
  refine ws_step (ps_par hc hN hi hj hij hx hy pa_W hw hs) ?_
  refine h.run W tk σ G H hE hH _ ?_ (ex_out hR hE)
  rintro ds M1 vs G1 H1 ⟨d1, d2, rfl, hk⟩ s1 h1 dv
  obtain ⟨v, u, rfl, e1, e2⟩ := two_inv dv
  refine ⟨v, u, rfl, ?_⟩
  have l1 : ixIn X.N x < σ.length := by rw [hl]; exact (List.getElem?_eq_some_iff.mp hi).1
  have l2 : ixIn X.N y < (σ.set (ixIn X.N x) (some v)).length := by rw [List.length_set, hl]; exact (List.getElem?_eq_some_iff.mp hj).1
  exact hk.run W tk _ G1 H1 (((hE.up s1.gg).set l1 e1).set l2 e2) h1 D (hR.step s1)
end
/-- ** of a wide base -/
def CPowW (i j : Int) : Prop := 0 ≤ j ∧ (Builtin.Int.intBits i : Int) * j ≤ 2 ^ 27
instance {i j : Int} : Decidable (CPowW i j) := inferInstanceAs (Decidable (_ ∧ _))
theorem op_powW {X : Cx} : OpR X (binaryOp .Pow) (rI CPowW fun i j => .int (i ^ j.toNat)) := opI fun _ _ _ _ _ _ _ hc q => PyProof.Rows.pow_int hc.1 hc.2 q
theorem o_powW {X : Cx} {T : Bool} {M : Mem} {P : PK'} {i j : Int} (hc : CPowW i j) (h : P (.int (i ^ j.toNat)) M) : OP X T (binaryOp .Pow) (.int i) (.int j) M P := op_IIc op_powW hc (fun _ => den_int) h
theorem WS.imp {X : Cx} {T : Bool} {τ : TEnv} {M : Mem} {R R' : RK} {ss : List Stmt} (h : WS X T ss τ M R') (hi : ∀ o M2, R' o M2 → R o M2) : WS X T ss τ M R := .mk fun W tk σ G H hE hH D hR =>
  h.run W tk σ G H hE hH D fun o M2 G2 H2 r s h2 => hR o M2 G2 H2 (hi _ _ r) s h2
end Kh

set_option Elab.async false
set_option linter.all false
set_option maxRecDepth 100000
set_option maxHeartbeats 1000000
namespace Kh
open PySem PySem.Spec L2
/-! ### data that are equal by their shape, or are one object -/
mutual
def eqT : Dat → Dat → Bool
  | .non, .non => true
  | .bl a, .bl b => decide (a = b)
  | .int i, .int j => decide (i = j)
  | .str s, .str t => decide (s = t)
  | .lst xs, .lst ys => eqTL xs ys
  | .tup xs, .tup ys => eqTL xs ys
  | .at a _, .at b _ => decide (a = b)
  | .raw (.ref a), .raw (.ref b) => decide (a = b)
  | _, _ => false
def eqTL : List Dat → List Dat → Bool
  | [], [] => true
  | x :: xs, y :: ys => eqT x y && eqTL xs ys
  | _, _ => false
end
mutual
def dpD : Dat → Nat
  | .lst xs => dpDL xs + 1
  | .tup xs => dpDL xs + 1
  | _ => 1
def dpDL : List Dat → Nat
  | [] => 0
  | x :: xs => max (dpD x) (dpDL xs)
end
theorem all_true (n : Nat) : ((List.range n).all fun _ => true) = true := List.all_eq_true.mpr fun _ _ => rfl
section
variable {X : Cx} {pins : List (Addr × Obj)} {σ : L2.St} {H G : Hp} {s : Shared}
open PySem.SeqAt (EqAt RcAt RcNeAt)
theorem eqTL_len : ∀ {xs ys : List Dat}, eqTL xs ys = true → xs.length = ys.length
  | [], [], _ => rfl
  | x :: xs, y :: ys, h => by
    simp only [eqTL, Bool.and_eq_true] at h
    simp only [List.length_cons, eqTL_len h.2]
  | [], _ :: _, h => by simp [eqTL] at h
  | _ :: _, [], h => by simp [eqTL] at h
mutual
theorem eqT_run (I : Inv X pins σ H s) (hs : Same G H) : ∀ (x y : Dat) (A : Around) (v u : V) (v' u' : Value), eqT x y = true → A.units + dpD x < cLine → Den X.K G x v → Den X.K G y u → RelV v v' → RelV u u' → EqAt A s v' u' true
  | .non, y, A, v, u, v', u', h, hu, dx, dy, r, r' => by
    cases y <;> simp [eqT] at h
    rw [dx.non_inv] at r; rw [dy.non_inv] at r'
    exact eqAt_same r r' rfl
  | .bl a, y, A, v, u, v', u', h, hu, dx, dy, r, r' => by
    cases y <;> simp [eqT] at h
    subst h
    rw [dx.bl_inv] at r; rw [dy.bl_inv] at r'
    exact eqAt_same r r' rfl
  | .int i, y, A, v, u, v', u', h, hu, dx, dy, r, r' => by
    cases y <;> simp [eqT] at h
    subst h
    rw [dx.int_inv] at r; rw [dy.int_inv] at r'
    exact eqAt_same r r' rfl
  | .str i, y, A, v, u, v', u', h, hu, dx, dy, r, r' => by
    cases y <;> simp [eqT] at h
    subst h
    rw [dx.str_inv] at r; rw [dy.str_inv] at r'
    exact eqAt_same r r' rfl
  | .at a d, y, A, v, u, v', u', h, hu, dx, dy, r, r' => by
    cases y <;> simp [eqT] at h
    subst h
    obtain ⟨rfl, _⟩ := dx.at_inv
    obtain ⟨rfl, _⟩ := dy.at_inv
    cases r; cases r'
    exact EqAt.same _
  | .lst xs, y, A, v, u, v', u', h, hu, dx, dy, r, r' => by
    cases y with
    | lst ys =>
      have h : eqTL xs ys = true := by simpa [eqT] using h
      have hu : A.units + (dpDL xs + 1) < cLine := by simpa only [dpD] using hu
      obtain ⟨a, vs, rfl, ga, da⟩ := dx.lst_inv
      obtain ⟨b, us, rfl, gb, db⟩ := dy.lst_inv
      cases r; cases r'
      by_cases e : a = b
      · subst e; exact EqAt.same _
      · obtain ⟨ws, r1, p1, _⟩ := I.list (SqL.of (hs _ _ ga))
        obtain ⟨zs, r2, p2, _⟩ := I.list (SqL.of (hs _ _ gb))
        have hz : ws.toArray.size = zs.toArray.size := by rw [List.size_toArray, List.size_toArray, ← r1.length, ← r2.length, da.length, db.length, eqTL_len h]
        refine EqAt.of_refs e ?_
        have := RcAt.lists (A := A) (e := fun _ => true) p1.isList p2.isList hz (by omega) (fun j h1 h2 => by
          have := eqTL_run I hs xs ys A.in1 vs us ws zs h (by show A.units + 1 + dpDL xs < cLine; omega) da db r1 r2 j (by simpa using h1) (by simpa using h2)
          simpa using this)
        rw [all_true] at this
        exact this
    | _ => simp [eqT] at h
  | .tup xs, y, A, v, u, v', u', h, hu, dx, dy, r, r' => by
    cases y with
    | tup ys =>
      have h : eqTL xs ys = true := by simpa [eqT] using h
      have hu : A.units + (dpDL xs + 1) < cLine := by simpa only [dpD] using hu
      obtain ⟨a, vs, rfl, ga, da⟩ := dx.tup_inv
      obtain ⟨b, us, rfl, gb, db⟩ := dy.tup_inv
      cases r; cases r'
      by_cases e : a = b
      · subst e; exact EqAt.same _
      · obtain ⟨ws, r1, p1, _⟩ := I.tuple (SqT.of (hs _ _ ga))
        obtain ⟨zs, r2, p2, _⟩ := I.tuple (SqT.of (hs _ _ gb))
        have hz : ws.toArray.size = zs.toArray.size := by rw [List.size_toArray, List.size_toArray, ← r1.length, ← r2.length, da.length, db.length, eqTL_len h]
        refine EqAt.of_refs e ?_
        have := RcAt.tuples (A := A) (e := fun _ => true) p1 p2 (by omega) (fun j h1 h2 => by
          have := eqTL_run I hs xs ys A.in1 vs us ws zs h (by show A.units + 1 + dpDL xs < cLine; omega) da db r1 r2 j (by simpa using h1) (by simpa using h2)
          simpa using this)
        rw [all_true, hz] at this
        simpa using this
    | _ => simp [eqT] at h
  | .raw w, y, A, v, u, v', u', h, hu, dx, dy, r, r' => by
    have e : ∃ a, w = .ref a ∧ y = .raw (.ref a) := by
      cases y with
      | raw z =>
        cases w <;> cases z <;> simp [eqT] at h
        subst h; exact ⟨_, rfl, rfl⟩
      | _ => cases w <;> simp [eqT] at h
    obtain ⟨a, rfl, rfl⟩ := e
    rw [dx.raw_inv] at r; rw [dy.raw_inv] at r'
    cases r; cases r'
    exact EqAt.same _
  | .dic0, y, A, v, u, v', u', h, hu, dx, dy, r, r' => by simp [eqT] at h
  | .scr ns, y, A, v, u, v', u', h, hu, dx, dy, r, r' => by simp [eqT] at h
  | .obj C ns ds, y, A, v, u, v', u', h, hu, dx, dy, r, r' => by simp [eqT] at h
  | .xn a dd ns ds, y, A, v, u, v', u', h, hu, dx, dy, r, r' => by simp [eqT] at h
theorem eqTL_run (I : Inv X pins σ H s) (hs : Same G H) : ∀ (xs ys : List Dat) (A : Around) (vs us : List V) (ws zs : List Value), eqTL xs ys = true → A.units + dpDL xs < cLine → DenL X.K G xs vs → DenL X.K G ys us → Vals vs ws → Vals us zs →
    ∀ j (h1 : j < ws.length) (h2 : j < zs.length), EqAt A s ws[j] zs[j] true
  | [], ys, A, vs, us, ws, zs, h, hu, dx, dy, r, r', j, h1, h2 => by
    rw [dx.nil_inv] at r
    cases r
    exact absurd h1 (Nat.not_lt_zero _)
  | x :: xs, ys, A, vs, us, ws, zs, h, hu, dx, dy, r, r', j, h1, h2 => by
    cases ys with
    | nil => simp [eqTL] at h
    | cons y ys =>
      simp only [eqTL, Bool.and_eq_true] at h
      have hu : A.units + max (dpD x) (dpDL xs) < cLine := by simpa only [dpDL] using hu
      obtain ⟨v, vr, rfl, dv, dvr⟩ := dx.cons_inv
      obtain ⟨u, ur, rfl, du, dur⟩ := dy.cons_inv
      cases r with
      | cons ra rb =>
        cases r' with
        | cons ra' rb' =>
          cases j with
          | zero => exact eqT_run I hs x y A v u _ _ h.1 (by omega) dv du ra ra'
          | succ j => exact eqTL_run I hs xs ys A vr ur _ _ h.2 (by omega) dvr dur rb rb' j (Nat.lt_of_succ_lt_succ h1) (Nat.lt_of_succ_lt_succ h2)
end
end
section
variable {X : Cx} {T : Bool} {τ : TEnv} {M : Mem} {P : PK'} {E : XKx} {e a b c o value : Expr} {es : List Expr} {pos pos' apos tpos : Pos} {R : RK} {rest : List Stmt} {x : Str}
open PySem.SeqAt (EqAt RcAt RcNeAt)
/-- two lists of one shape: !=, == -/
theorem o_neLT {xs ys : List Dat} (h : eqTL xs ys = true) (hd : dpDL xs ≤ 60) (hu : X.A.units + 64 < cLine) (hP : P (.bl false) M) : OP X T (compareOp .NotEq) (.lst xs) (.lst ys) M P := by
  intro G H v u hH dx dy Q hQ pins s σ v' u' _ I r r'
  obtain ⟨a, vs, rfl, ga, da⟩ := dx.lst_inv
  obtain ⟨b, us, rfl, gb, db⟩ := dy.lst_inv
  cases r; cases r'
  obtain ⟨ws, r1, p1, _⟩ := I.list (SqL.of (hH.sub _ _ ga))
  obtain ⟨zs, r2, p2, _⟩ := I.list (SqL.of (hH.sub _ _ gb))
  have hz : ws.toArray.size = zs.toArray.size := by rw [List.size_toArray, List.size_toArray, ← r1.length, ← r2.length, da.length, db.length, eqTL_len h]
  have := RcNeAt.lists (A := X.A) (e := fun _ => true) p1.isList p2.isList hz (by omega) (fun j h1 h2 => by
    have := eqTL_run I hH.sub xs ys X.A.in1 vs us ws zs h (by show X.A.units + 1 + dpDL xs < cLine; omega) da db r1 r2 j (by simpa using h1) (by simpa using h2)
    simpa using this)
  rw [all_true] at this
  exact this _ _ _ _ ⟨.bl false, H, I, rfl, hQ _ _ _ _ _ hP Stp.refl hH den_bl⟩
theorem o_eqLT {xs ys : List Dat} (h : eqTL xs ys = true) (hd : dpDL xs ≤ 60) (hu : X.A.units + 64 < cLine) (hP : P (.bl true) M) : OP X T (compareOp .Eq) (.lst xs) (.lst ys) M P := by
  intro G H v u hH dx dy Q hQ pins s σ v' u' _ I r r'
  obtain ⟨a, vs, rfl, ga, da⟩ := dx.lst_inv
  obtain ⟨b, us, rfl, gb, db⟩ := dy.lst_inv
  cases r; cases r'
  obtain ⟨ws, r1, p1, _⟩ := I.list (SqL.of (hH.sub _ _ ga))
  obtain ⟨zs, r2, p2, _⟩ := I.list (SqL.of (hH.sub _ _ gb))
  have hz : ws.toArray.size = zs.toArray.size := by rw [List.size_toArray, List.size_toArray, ← r1.length, ← r2.length, da.length, db.length, eqTL_len h]
  have := RcAt.lists (A := X.A) (e := fun _ => true) p1.isList p2.isList hz (by omega) (fun j h1 h2 => by
    have := eqTL_run I hH.sub xs ys X.A.in1 vs us ws zs h (by show X.A.units + 1 + dpDL xs < cLine; omega) da db r1 r2 j (by simpa using h1) (by simpa using h2)
    simpa using this)
  rw [all_true] at this
  exact this _ _ _ _ ⟨.bl true, H, I, rfl, hQ _ _ _ _ _ hP Stp.refl hH den_bl⟩
/-- two lists of different lengths -/
theorem o_eqLn {xs ys : List Dat} (h : xs.length ≠ ys.length) (hu : X.A.units + 64 < cLine) (hP : P (.bl false) M) : OP X T (compareOp .Eq) (.lst xs) (.lst ys) M P := by
  intro G H v u hH dx dy Q hQ pins s σ v' u' _ I r r'
  obtain ⟨a, vs, rfl, ga, da⟩ := dx.lst_inv
  obtain ⟨b, us, rfl, gb, db⟩ := dy.lst_inv
  cases r; cases r'
  obtain ⟨ws, r1, p1, _⟩ := I.list (SqL.of (hH.sub _ _ ga))
  obtain ⟨zs, r2, p2, _⟩ := I.list (SqL.of (hH.sub _ _ gb))
  have hz : (ws.toArray.size != zs.toArray.size) = true := by
    rw [List.size_toArray, List.size_toArray, ← r1.length, ← r2.length, da.length, db.length]
    simpa using h
  exact RcAt.lists_lengths (A := X.A) p1.isList p2.isList hz (by omega) _ _ _ _ ⟨.bl false, H, I, rfl, hQ _ _ _ _ _ hP Stp.refl hH den_bl⟩
/-- {} -/
theorem ex_dict0 (h : ∀ q, P (.at q .dic0) M) : EX X T (.Dict [] [] pos) τ M P E := .mk fun W tk σ G H hE hH Q hP hX =>
  tW_of pe_dnewK fun q hq => by
    obtain ⟨s2, h2⟩ := Stp.new (o := .dK []) hH hq
    exact hP _ _ _ _ _ (h q) s2 h2 (den_at (by simp only [Den]; exact ⟨q, rfl, upd_same⟩))
end
/-! d is told equal to itself: no object of the heap but by its place -/
mutual
def selfE : Dat → Bool
  | .non | .bl _ | .int _ | .str _ | .at _ _ => true
  | .lst xs => selfEL xs
  | .tup xs => selfEL xs
  | _ => false
def selfEL : List Dat → Bool
  | [] => true
  | x :: xs => selfE x && selfEL xs
end
mutual
theorem eqT_self : ∀ d : Dat, selfE d = true → eqT d d = true
  | .non, _ => rfl
  | .bl _, _ => by simp [eqT]
  | .int _, _ => by simp [eqT]
  | .str _, _ => by simp [eqT]
  | .at _ _, _ => by simp [eqT]
  | .lst xs, h => by simp only [eqT]; exact eqTL_self xs (by simpa [selfE] using h)
  | .tup xs, h => by simp only [eqT]; exact eqTL_self xs (by simpa [selfE] using h)
  | .raw _, h => by simp [selfE] at h
  | .dic0, h => by simp [selfE] at h
  | .scr _, h => by simp [selfE] at h
  | .obj _ _ _, h => by simp [selfE] at h
  | .xn _ _ _ _, h => by simp [selfE] at h
theorem eqTL_self : ∀ ds : List Dat, selfEL ds = true → eqTL ds ds = true
  | [], _ => rfl
  | d :: ds, h => by
    simp only [selfEL, Bool.and_eq_true] at h
    simp only [eqTL, Bool.and_eq_true]
    exact ⟨eqT_self d h.1, eqTL_self ds h.2⟩
end
end Kh

set_option Elab.async false
set_option linter.all false
set_option maxRecDepth 100000
set_option maxHeartbeats 1000000
namespace Kh
open PySem PySem.Spec L2
section
variable {X : Cx} {T : Bool} {τ : TEnv} {M : Mem} {P : PK'} {E : XKx} {e a b c o value : Expr} {es : List Expr} {pos pos' p apos tpos : Pos} {R : RK} {rest : List Stmt} {x f n : Str} {C D fa : Addr} {k : Nat} {fd : FuncData} {ps : List Str} {S : Spc}
/-! ### self.f = e -/
def putD (f : Str) (v : Dat) : List (Str × Dat) → List (Str × Dat)
  | [] => [(f, v)]
  | (g, x) :: r => if g = f then (g, v) :: r else (g, x) :: putD f v r
theorem denF_put {K : PySem.W.Frag} {G : Hp} {d : Dat} {v : V} (h : Den K G d v) : ∀ {fs : List (Str × Dat)} {vs : List (Str × V)}, DenF K G fs vs → DenF K G (putD f d fs) (putF f v vs)
  | [], [], _ => ⟨rfl, .cons h .nil⟩
  | [], _ :: _, q => by have := q.1; simp at this
  | _ :: _, [], q => by have := q.1; simp at this
  | (g, x) :: fs, (g', u) :: vs, ⟨q1, q2⟩ => by
    rw [List.map_cons, List.map_cons] at q1
    obtain ⟨e1, e2⟩ := List.cons.inj q1
    have e1 : g' = g := e1
    subst e1
    obtain ⟨u', r, e, hu, t⟩ := (show DenL K G (x :: fs.map (·.2)) (u :: vs.map (·.2)) from q2).cons_inv
    obtain ⟨rfl, rfl⟩ := List.cons.inj e
    by_cases z : g' = f
    · simp only [putD, putF, if_pos z]
      exact ⟨by simp [e2], .cons h t⟩
    · simp only [putD, putF, if_neg z]
      have ih := denF_put h ⟨e2, t⟩
      exact ⟨by simp only [List.map_cons, ih.1], .cons hu ih.2⟩
theorem DenF.length {K : PySem.W.Frag} {G : Hp} {fs : List (Str × Dat)} {vs : List (Str × V)} (h : DenF K G fs vs) : vs.length = fs.length := by
  have := congrArg List.length h.1
  simpa using this
theorem ws_fld (h : EX X false value τ M (fun d M1 => EX X false o τ M1 (fun od M2 => ∃ q C dx fs, od = .raw (.ref q) ∧ (q, MC.ins C dx fs) ∈ M2 ∧ Cls X.K C ∧ NoAttr X.K C f ∧ fs.length < 1000 ∧ WS X T rest τ (putC q (.ins C dx (putD f d fs)) M2) R) (fun x M2 => R (.ex x τ) M2)) (fun x M1 => R (.ex x τ) M1))
    (hs : swapsWith value (some (.Attribute o f pos')) pos.line X.env = pure false := by rfl) : WS X T (.Assign [.Attribute o f pos'] value pos :: rest) τ M R := .mk fun W tk σ G H hE hH D hR => by
  refine ws_step (ps_fld (pe_W (e := o)) (pe_W (e := value)) hs) ?_
  refine h.run W tk σ G H hE hH _ ?_ (ex_out hR hE)
  intro d M1 v G1 H1 ho s1 h1 dv
  refine ho.run W tk σ G1 H1 (hE.up s1.gg) h1 _ ?_ ((ex_out hR hE).step s1)
  rintro od M2 ov G2 H2 ⟨q, C, dx, fs, rfl, hm, hc, hn, hl, hw⟩ s2 h2 dov
  obtain ⟨vs, g1, g2, g3⟩ := h2.mem _ hm
  have hcell : MH X.K G2 (upd H2 q (.ins C dx (putF f v vs))) (q, .ins C dx (putD f d fs)) := by
    have ne : dx ≠ q := fun z => by rw [z, g1] at g2; cases g2
    exact ⟨_, upd_same, by rw [upd_ne ne]; exact g2, denF_put (dv.up s2.gg) g3⟩
  obtain ⟨s3, h3⟩ := put_ok (c' := .ins C dx (putD f d fs)) (H2 := upd H2 q (.ins C dx (putF f v vs))) h2 hm rfl (fun b hb => upd_ne hb) hcell
  exact ⟨q, C, dx, vs, dov.raw_inv, g1, hc, hn, by rw [g3.length]; exact hl, hw.run W tk σ G2 _ ((hE.up s1.gg).up s2.gg) h3 D (hR.step ((s1.trans s2).trans s3))⟩
/-! ### C(), C without __init__ -/
structure Mk0 (K : PySem.W.Frag) (C : Addr) : Prop where
  makes : PySem.W.makesIn K C = true
  init : PySem.W.findIn K (.ref C) "__init__" = some (some (.builtin "object.__init__"))
  kp : PySem.W.keepIn K (.ref C) = true
  top : PySem.W.mroIn K C (.type "object") = some true
theorem ex_new0 (Mk' : Mk0 X.K C) (hm : X.mg x = some (.ref C)) (h : ∀ q dx, q ∉ adr M → dx ∉ adr M → dx ≠ q → MadeP P q ((q, .ins C dx []) :: M)) (hg : Gl X x := by rfl) (hdb : (x == ("__debug__" : Str)) = false := by decide) :
    EX X T (.Call (.Name x p) [] [] pos) τ M P E := .mk fun W tk σ G H hE hH Q hP hX pins s k0 I => by
  refine wpAny_Call_Name_kw (ld_glob I hg hm ?_ hdb)
  refine PySem.W.callWith_K0 I.kIn Mk'.kp ?_
  have hx : H (s.heap.objs.size + 1) = none := I.hok.fresh (Nat.le_succ _)
  have hdx : H s.heap.objs.size = none := I.hok.fresh (Nat.le_refl _)
  have ne : s.heap.objs.size ≠ s.heap.objs.size + 1 := Nat.ne_of_lt (Nat.lt_succ_self _)
  have n1 : s.heap.objs.size + 1 ∉ adr M := fun z => hH.there _ z hx
  have n2 : s.heap.objs.size ∉ adr M := fun z => hH.there _ z hdx
  obtain ⟨h1, s1⟩ := hst_new (C := C) hH hx hdx ne
  have q := madeP_ce hP (h _ _ n1 n2 ne) s1 h1
  have I2 := Inv.made (C := C) I
  refine wpAny_call (make_map0 I.kIn Mk'.makes Mk'.init (fun self => PySem.W.Looks.of_pure (PySem.W.oi_bind self)) ?_)
  have hget : ((s.heap.push PySem.W.emptyDict).push (PySem.W.instObj C s.heap.objs.size)).get? (s.heap.objs.size + 1) = some (PySem.W.instObj C s.heap.objs.size) := by
    have := Heap.get?_push_size (s.heap.push PySem.W.emptyDict) (o := PySem.W.instObj C s.heap.objs.size) rfl
    rwa [Heap.size_push] at this
  have t1 : PySem.W.Looks (model X.prog X.w) ((s.heap.push PySem.W.emptyDict).push (PySem.W.instObj C s.heap.objs.size)) (typeOf (.ref (s.heap.objs.size + 1))) (.ref C) := (PySem.W.Looks.ld hget).andThen .now
  have t2 : PySem.W.Looks (model X.prog X.w) ((s.heap.push PySem.W.emptyDict).push (PySem.W.instObj C s.heap.objs.size)) (isInstance (.ref (s.heap.objs.size + 1)) (.type "object")) true := t1.andThen (PySem.W.looks_mroIn I2.kIn Mk'.top)
  refine codeAny_call_builtin PySem.W.oi_plain PySem.W.entry_oi (@PySem.W.check_slot (model X.prog X.w) _ _ _ "object.__init__" "object" "__init__" (.ref (s.heap.objs.size + 1)) [] [] _ PySem.W.oi_kind PySem.W.oi_split t2 (PySem.W.oi_args (.ref (s.heap.objs.size + 1))) ?_)
  rw [PySem.W.oi_run]
  exact wpAny_pure (And.intro rfl ⟨V.ref (s.heap.objs.size + 1), _, I2, rfl, q⟩)
/-! ### own == -/
end
/-! ### defs with defaults -/
structure FunV (K : PySem.W.Frag) (x qual : Str) (st : Stmt) (f : Addr) (fd : FuncData) : Prop where
  ex : ∃ (oc : Value) (od : Option Addr) (dV kV doc pm : Value) (an : Option Addr) (cdv ct : Value) (osl : Array (Option Value)),
    fd = PySem.W.fnOf x qual (defArgs st) (defBody st) (defScope st) dV kV doc pm an cdv ct ∧ K.lookup f = some ⟨oc, od, .func fd, osl⟩ ∧ PySem.W.codeIn K cdv qual = true
  kp : PySem.W.keepIn K (.ref f) = true
theorem fn_dV {P : Program} {w : World} {K : PySem.W.Frag} {mg : Str → Option Value} {base : Heap} {x qual : Str} {st : Stmt} {f : Addr} {fd : FuncData} {N ps : List Str} {k : Nat} {S : Spc} (T : Bool) (F : FunV K x qual st f fd) (Sc : FnScope N ps (defScope st)) (hT : T = true → ∃ x ∈ ps, (defScope st).names.lookup x = some .local) (len : ∀ ds M P E, S ds M P E → ds.length = ps.length)
    (body : ∀ (cdv : Value) (A : Around) (outer : List Env) (s : Shared) (H : Hp) (E : XK), Room k (A.deeper (PyProof.Rows.envOfC qual (defScope st) s.heap.objs.size f cdv)) → ∀ ds M Pd PE, S ds M Pd PE →
      WS (cxOf (L2.CX P w) P w K mg base N qual (defScope st) f cdv A outer s H E) T (defBody st) (startT N ds) M (retR Pd PE)) : FnD P w K mg base (k + 1) f fd ps S := by
  obtain ⟨oc, od, dV, kV, doc, pm, an, cdv, ct, osl, rfl, lk, hcd⟩ := F.ex
  refine fn_w (T := T) lk hcd Sc hT (fun vs H Q E h => ?_) (fun A outer s H vs Q E hr h => ?_)
  · obtain ⟨G, ds, M, Pd, PE, dv, _, hs, _⟩ := h
    rw [dv.length]; exact len _ _ _ _ hs
  · obtain ⟨G, ds, M, Pd, PE, dv, hH, hs, hP, hX⟩ := h
    exact (body cdv A outer s H E hr ds M Pd PE hs).run _ (takes_of rfl rfl rfl rfl) _ G H (denE_start dv) hH _ (cs_ret hP fun x M2 G2 H2 d p s h dx σ => hX x M2 G2 H2 d p s h dx)
/-! ### isinstance between classes -/
section
variable {K : PySem.W.Frag} {C D : Addr} {b : Bool}
theorem kit_ty {T : String} (h : PySem.W.subIn K (.ref C) (.type T) = some b) (hm : PySem.W.kitMeta T = true := by rfl) : PySem.W.kitOne K (.ref C) (.type T) = some b := by
  show (if (Value.ref C == Value.type T) = true then some true else if PySem.W.kitMeta T = true then PySem.W.subIn K (.ref C) (.type T) else none) = some b
  rw [if_neg (by simp), if_pos hm]
  exact h
theorem kit_self {t : Value} : PySem.W.kitOne K t t = some true := by
  unfold PySem.W.kitOne
  rw [if_pos (by simp)]
theorem kit_rr (h2 : PySem.W.isClsIn K D = true) (h3 : PySem.W.typeIn K (.ref D) = some (.type "type")) (h : PySem.W.subIn K (.ref C) (.ref D) = some b) (hs : C = D → b = true) : PySem.W.kitOne K (.ref C) (.ref D) = some b := by
  by_cases e : C = D
  · subst e; rw [hs rfl]; exact kit_self
  · have e2 : ((PySem.W.clsIn K D).isSome && PySem.W.typeIn K (.ref D) == some (.type "type")) = true := by
      have h2' : (PySem.W.clsIn K D).isSome = true := h2
      rw [h2', h3] <;> rfl
    show (if (Value.ref C == Value.ref D) = true then some true else if ((PySem.W.clsIn K D).isSome && PySem.W.typeIn K (.ref D) == some (.type "type")) = true then PySem.W.subIn K (.ref C) (.ref D) else none) = some b
    rw [if_neg (by simpa using e), if_pos e2]
    exact h
theorem kit_rr2 (h2 : PySem.W.isClsIn K D = true) (h3 : PySem.W.typeIn K (.ref D) = some (.type "type")) (hself : PySem.W.mroIn K C (.ref C) = some true) (h : PySem.W.subIn K (.ref C) (.ref D) = some b) : PySem.W.kitOne K (.ref C) (.ref D) = some b := kit_rr h2 h3 h fun e => by
  subst e
  have z : PySem.W.subIn K (.ref C) (.ref C) = some true := hself
  rw [z] at h
  exact (Option.some.inj h).symm
theorem kit_tr {T : String} (h2 : PySem.W.isClsIn K D = true) (h3 : PySem.W.typeIn K (.ref D) = some (.type "type")) (h : PySem.W.subIn K (.type T) (.ref D) = some false) : PySem.W.kitOne K (.type T) (.ref D) = some false := by
  have e2 : ((PySem.W.clsIn K D).isSome && PySem.W.typeIn K (.ref D) == some (.type "type")) = true := by
    have h2' : (PySem.W.clsIn K D).isSome = true := h2
    rw [h2', h3] <;> rfl
  show (if (Value.type T == Value.ref D) = true then some true else if ((PySem.W.clsIn K D).isSome && PySem.W.typeIn K (.ref D) == some (.type "type")) = true then PySem.W.subIn K (.type T) (.ref D) else none) = some false
  rw [if_neg (by simp), if_pos e2]
  exact h
end
section
variable {X : Cx} {T : Bool} {τ : TEnv} {M : Mem} {P : PK'} {E : XKx} {e : Expr}
/-- an object of the heap, told with its place -/
def isR : Dat → Bool
  | .dic0 | .lst _ | .tup _ | .obj _ _ _ => true
  | _ => false
theorem den_isR {K : PySem.W.Frag} {G : Hp} {d : Dat} {v : V} (h : isR d = true) (dv : Den K G d v) : ∃ a, v = .ref a := by
  cases d with
  | dic0 => obtain ⟨a, rfl, _⟩ := dv.dic0_inv; exact ⟨a, rfl⟩
  | lst xs => obtain ⟨a, _, rfl, _⟩ := dv.lst_inv; exact ⟨a, rfl⟩
  | tup xs => obtain ⟨a, _, rfl, _⟩ := dv.tup_inv; exact ⟨a, rfl⟩
  | obj C ns xs => obtain ⟨a, _, _, rfl, _⟩ := dv.obj_inv; exact ⟨a, rfl⟩
  | _ => cases h
theorem ex_tag (h : EX X T e τ M (fun d M1 => isR d = true ∧ ∀ a, P (.at a d) M1) E) : EX X T e τ M P E := .mk fun W tk σ G H hE hH Q hP hX =>
  h.run W tk σ G H hE hH Q (fun d M2 v G2 H2 ⟨hr, hp⟩ s h2 dv => by
    obtain ⟨a, rfl⟩ := den_isR hr dv
    exact hP _ _ _ _ _ (hp a) s h2 (den_at dv)) hX
end
theorem atI_nat {α : Type} {xs : List α} {k : Nat} {x : α} (h : xs[k]? = some x) : atI xs (k : Int) = some x := by
  have hk : k < xs.length := (List.getElem?_eq_some_iff.mp h).1
  have e : ixN xs.length (k : Int) = some k := by
    unfold ixN
    simp [hk]
  unfold atI
  rw [e]; exact h
end Kh

set_option Elab.async false
set_option linter.all false
set_option maxRecDepth 100000
set_option maxHeartbeats 1000000
namespace Kh
open PySem PySem.Spec L2

/-! ### what a def computes, as a plain function: a value, an error, or out of what is told -/
inductive EK where
  | file | number | script | list | write | history | content | text | busy | closed
  deriving DecidableEq
/-- which own class -/
inductive OK where
  | file | full | keep | lean | dig | script | history | store | copier
  deriving DecidableEq
/-- a value of any kind; tag: the very object at an address -/
inductive Any where
  | non | bl (b : Bool) | int (i : Int) | str (s : Str) | lst (xs : List Any) | tup (xs : List Any) | dic | obj (k : OK) (fs : List Any) | tag (q : Addr) (x : Any) | cel (q : Addr)
mutual
def anyD (cl : OK → Addr × List Str) : Any → Dat
  | .non => .non
  | .bl b => .bl b
  | .int i => .int i
  | .str s => .str s
  | .lst xs => .lst (anyDL cl xs)
  | .tup xs => .tup (anyDL cl xs)
  | .dic => .dic0
  | .obj k fs => .obj (cl k).1 (cl k).2 (anyDL cl fs)
  | .tag q x => .at q (anyD cl x)
  | .cel q => .raw (.ref q)
def anyDL (cl : OK → Addr × List Str) : List Any → List Dat
  | [] => []
  | x :: xs => anyD cl x :: anyDL cl xs
end
theorem anyDL_map {cl : OK → Addr × List Str} : ∀ {xs : List Any}, anyDL cl xs = xs.map (anyD cl)
  | [] => by simp [anyDL]
  | x :: xs => by simp [anyDL, anyDL_map (xs := xs)]
structure Er where
  k : EK
  v : Any
inductive Res (α : Type) where
  | ok (a : α) | err (x : Er) | bad
  /-- whatever address is given out -/
  | all (f : Addr → Res α)
/-- how a turn of a loop ends -/
inductive Ctl (σ ρ : Type) where
  | nx (s : σ) | bk (s : σ) | rt (r : ρ)
namespace Res
def bind {α β : Type} : Res α → (α → Res β) → Res β
  | .ok a, k => k a
  | .err x, _ => .err x
  | .bad, _ => .bad
  | .all f, k => .all fun q => (f q).bind k
def Out {α : Type} : Res α → (α → Prop) → (Er → Prop) → Prop
  | .ok a, P, _ => P a
  | .err x, _, E => E x
  | .bad, _, _ => False
  | .all f, P, E => ∀ q, (f q).Out P E
/-- where nothing may be raised -/
def ne {α : Type} : Res α → Res α
  | .ok a => .ok a
  | .all f => .all fun q => (f q).ne
  | _ => .bad
end Res
section
variable {α β σ ρ : Type}
@[simp] theorem bind_ok {a : α} {k : α → Res β} : (Res.ok a).bind k = k a := rfl
@[simp] theorem bind_err {x : Er} {k : α → Res β} : (Res.err x).bind k = .err x := rfl
@[simp] theorem bind_bad {k : α → Res β} : (Res.bad).bind k = .bad := rfl
@[simp] theorem ne_ok {a : α} : (Res.ok a).ne = .ok a := rfl
@[simp] theorem bind_all {f : Addr → Res α} {k : α → Res β} : (Res.all f).bind k = .all fun q => (f q).bind k := rfl
theorem bind_bind {γ : Type} {k : α → Res β} {l : β → Res γ} : ∀ {m : Res α}, (m.bind k).bind l = m.bind fun a => (k a).bind l
  | .ok _ => rfl
  | .err _ => rfl
  | .bad => rfl
  | .all f => by
    show Res.all (fun q => ((f q).bind k).bind l) = Res.all fun q => (f q).bind fun a => (k a).bind l
    congr 1; funext q; exact bind_bind
theorem ob {k : α → Res β} {P : β → Prop} {E : Er → Prop} : ∀ {m : Res α}, (m.bind k).Out P E → m.Out (fun a => (k a).Out P E) E
  | .ok _, h => h
  | .err _, h => h
  | .bad, h => h
  | .all f, h => fun q => ob (m := f q) (h q)
theorem out_mono {P P' : α → Prop} {E E' : Er → Prop} : ∀ {m : Res α}, m.Out P E → (∀ a, P a → P' a) → (∀ x, E x → E' x) → m.Out P' E'
  | .ok _, h, hp, _ => hp _ h
  | .err _, h, _, he => he _ h
  | .bad, h, _, _ => h
  | .all f, h, hp, he => fun q => out_mono (m := f q) (h q) hp he
theorem ne_out {P : α → Prop} {E E' : Er → Prop} : ∀ {m : Res α}, m.ne.Out P E → m.Out P E'
  | .ok _, h => h
  | .err _, h => h.elim
  | .bad, h => h
  | .all f, h => fun q => ne_out (m := f q) (h q)
theorem cif {c : Bool} {A B : Res α} {P : α → Prop} {E : Er → Prop} (h : (cond c A B).Out P E) {X Y : Prop} (a : A.Out P E → X) (b : B.Out P E → Y) : (c = true → X) ∧ (c = false → Y) := by
  cases c with
  | true => exact ⟨fun _ => a h, fun z => nomatch z⟩
  | false => exact ⟨(fun z => nomatch z), fun _ => b h⟩
/-- a condition that must hold -/
@[irreducible] def guard (c : Prop) [Decidable c] (a : α) : Res α := if c then .ok a else .bad
theorem gd {c : Prop} [Decidable c] {a : α} {P : α → Prop} {E : Er → Prop} (h : (guard c a).Out P E) : c ∧ P a := by
  unfold guard at h
  split at h
  · exact ⟨‹_›, h⟩
  · exact h.elim
theorem guard_ok {c : Prop} [Decidable c] {a : α} (h : c) : guard c a = .ok a := by unfold guard; exact if_pos h
/-! loops -/
def Ctl.go (k : σ → Res (Ctl σ ρ)) : Ctl σ ρ → Res (Ctl σ ρ)
  | .nx s => k s
  | .bk s => .ok (.nx s)
  | .rt r => .ok (.rt r)
def Ctl.fin (k : σ → Res β) (r : ρ → Res β) : Ctl σ ρ → Res β
  | .nx s => k s
  | .bk s => k s
  | .rt x => r x
def forR (f : σ → α → Res (Ctl σ ρ)) : List α → σ → Res (Ctl σ ρ)
  | [], s => .ok (.nx s)
  | x :: xs, s => (f s x).bind (Ctl.go (forR f xs))
def foldR (f : σ → α → Res σ) : List α → σ → Res σ
  | [], s => .ok s
  | x :: xs, s => (f s x).bind (foldR f xs)
@[simp] theorem foldR_nil {f : σ → α → Res σ} {s : σ} : foldR f [] s = .ok s := rfl
@[simp] theorem foldR_cons {f : σ → α → Res σ} {s : σ} {x : α} {xs : List α} : foldR f (x :: xs) s = (f s x).bind (foldR f xs) := rfl
@[simp] theorem forR_nil {f : σ → α → Res (Ctl σ ρ)} {s : σ} : forR f [] s = .ok (.nx s) := rfl
@[simp] theorem forR_cons {f : σ → α → Res (Ctl σ ρ)} {s : σ} {x : α} {xs : List α} : forR f (x :: xs) s = (f s x).bind (Ctl.go (forR f xs)) := rfl
@[simp] theorem go_nx {k : σ → Res (Ctl σ ρ)} {s : σ} : Ctl.go k (.nx s) = k s := rfl
@[simp] theorem go_bk {k : σ → Res (Ctl σ ρ)} {s : σ} : Ctl.go k (.bk s) = .ok (.nx s) := rfl
@[simp] theorem go_rt {k : σ → Res (Ctl σ ρ)} {r : ρ} : Ctl.go k (.rt r) = .ok (.rt r) := rfl
@[simp] theorem fin_nx {k : σ → Res β} {r : ρ → Res β} {s : σ} : Ctl.fin k r (.nx s) = k s := rfl
@[simp] theorem fin_bk {k : σ → Res β} {r : ρ → Res β} {s : σ} : Ctl.fin k r (.bk s) = k s := rfl
@[simp] theorem fin_rt {k : σ → Res β} {r : ρ → Res β} {x : ρ} : Ctl.fin k r (.rt x) = r x := rfl
def compL (f : α → Res (Option β)) : List α → Res (List β)
  | [] => .ok []
  | x :: xs => (f x).bind fun o => (compL f xs).bind fun r => .ok (o.toList ++ r)
def compR (f : α → Res (Option β)) (xs : List α) : Res (List β) := if xs.length ≤ sizeLine then (compL f xs).ne else .bad
def andR (a b : Res Bool) : Res Bool := a.bind fun t => cond t b (.ok false)
def orR (a b : Res Bool) : Res Bool := a.bind fun t => cond t (.ok true) b
def notR (a : Res Bool) : Res Bool := a.bind fun t => .ok (!t)
@[simp] theorem andR_ok {a : Bool} {b : Res Bool} : andR (.ok a) b = cond a b (.ok false) := rfl
@[simp] theorem orR_ok {a : Bool} {b : Res Bool} : orR (.ok a) b = cond a (.ok true) b := rfl
@[simp] theorem notR_ok {a : Bool} : notR (.ok a) = .ok (!a) := rfl
@[simp] theorem cond_ok {c : Bool} {a b : α} : (cond c (Res.ok a) (.ok b)) = .ok (cond c a b) := by cases c <;> rfl
end

/-! ### values of types -/
abbrev lstD {α : Type} (e : α → Dat) (xs : List α) : Dat := .lst (xs.map e)
abbrev vtpD {α : Type} (e : α → Dat) (xs : List α) : Dat := .tup (xs.map e)
abbrev pairD {α β : Type} (e : α → Dat) (f : β → Dat) (p : α × β) : Dat := .tup [e p.1, f p.2]
abbrev optD {α : Type} (e : α → Dat) : Option α → Dat
  | none => .non
  | some x => e x
/-- a sign as a text -/
abbrev chS (c : Nat) : Str := ⟨#[c]⟩
abbrev chD (c : Nat) : Dat := .str (chS c)
abbrev signsL (z : Str) : List Nat := z.cps.toList
def rangeL (lo : Int) (n : Nat) : List Int := (List.range n).map fun (i : Nat) => lo + (i : Int)
def rangeC (lo c : Int) (n : Nat) : List Int := (List.range n).map fun (i : Nat) => lo + (i : Int) * c
theorem rngD_map {lo : Int} {n : Nat} : rngD lo n = (rangeL lo n).map Dat.int := by simp [rngD, rangeL]
theorem rngC_map {lo c : Int} {n : Nat} : rngC lo c n = (rangeC lo c n).map Dat.int := by simp [rngC, rangeC]
/-! ### operations that want something -/
def small62 (j : Int) : Prop := -(2 ^ 62) ≤ j ∧ j < 2 ^ 62
instance {j : Int} : Decidable (small62 j) := inferInstanceAs (Decidable (_ ∧ _))
def pdiv (i j : Int) : Res Int := guard (0 < j ∧ j.natAbs.log2 < 9000) (i / j)
def pmod (i j : Int) : Res Int := guard (0 < j) (i % j)
def pmul (i j : Int) : Res Int := guard (i.natAbs.log2 + j.natAbs.log2 < 1000000) (i * j)
def pcat (a b : Str) : Res Str := guard (a.length + b.length ≤ sizeLine) (a ++ b)
def pcatL {α : Type} (a b : List α) : Res (List α) := guard (a.length + b.length ≤ sizeLine) (a ++ b)
def pix {α : Type} (xs : List α) (i : Int) : Res α := match atI xs i with | some x => .ok x | none => .bad
def papp {α : Type} (xs : List α) (x : α) : Res (List α) := guard (xs.length < sizeLine) (xs ++ [x])
def pset {α : Type} (xs : List α) (i : Int) (x : α) : Res (List α) := match ixN xs.length i with | some j => .ok (xs.set j x) | none => .bad

section
variable {X : Cx} {T : Bool} {τ : TEnv} {M A B : Mem} {P : PK'} {E : XKx} {e a b c o : Expr} {es : List Expr} {pos p apos tpos : Pos} {α β σ ρ : Type} {E1 : Er → Prop} {q : Addr}
theorem r_div {i j : Int} {Q : Int → Prop} (h : (pdiv i j).Out Q E1) (hk : ∀ z, Q z → P (.int z) M) : OP X T (binaryOp .FloorDiv) (.int i) (.int j) M P := o_div (gd h).1 (hk _ (gd h).2)
theorem r_mod {i j : Int} {Q : Int → Prop} (h : (pmod i j).Out Q E1) (hk : ∀ z, Q z → P (.int z) M) : OP X T (binaryOp .Mod) (.int i) (.int j) M P := o_mod (gd h).1 (hk _ (gd h).2)
theorem r_mul {i j : Int} {Q : Int → Prop} (h : (pmul i j).Out Q E1) (hk : ∀ z, Q z → P (.int z) M) : OP X T (binaryOp .Mult) (.int i) (.int j) M P := o_mul (gd h).1 (hk _ (gd h).2)
theorem r_cat {i j : Str} {Q : Str → Prop} (h : (pcat i j).Out Q E1) (hk : ∀ z, Q z → P (.str z) M) : OP X T (binaryOp .Add) (.str i) (.str j) M P := o_cat (gd h).1 (hk _ (gd h).2)
theorem r_catL (f : α → Dat) {xs ys : List α} {Q : List α → Prop} (h : (pcatL xs ys).Out Q E1) (hk : ∀ z, Q z → P (lstD f z) M) : OP X T (binaryOp .Add) (lstD f xs) (lstD f ys) M P :=
  o_catL (by rw [List.length_map, List.length_map]; exact (gd h).1) (by rw [← List.map_append]; exact hk _ (gd h).2)
theorem pix_out {xs : List α} {i : Int} {Q : α → Prop} (h : (pix xs i).Out Q E1) : ∃ x, atI xs i = some x ∧ Q x := by
  unfold pix at h
  cases e : atI xs i with
  | some x => rw [e] at h; exact ⟨x, rfl, h⟩
  | none => rw [e] at h; exact h.elim
theorem atI_map {f : α → β} {xs : List α} {i : Int} {x : α} (h : atI xs i = some x) : atI (xs.map f) i = some (f x) := by
  unfold atI at h ⊢
  rw [List.length_map]
  cases e : ixN xs.length i with
  | none => rw [e] at h; cases h
  | some j => rw [e] at h; simp only [Option.bind_some] at h ⊢; rw [List.getElem?_map, h]; rfl
theorem r_ix {K : PySem.W.Frag} (f : α → Dat) {xs : List α} {i : Int} {Q : α → Prop} (h : (pix xs i).Out Q E1) (hk : ∀ z, Q z → P (f z) M) : IQ K (lstD f xs) (.int i) M P :=
  let ⟨x, h1, h2⟩ := pix_out h; i_lst (atI_map h1) (hk x h2)
/-- in a cell behind the cells A -/
theorem r_ixC {K : PySem.W.Frag} (A : Mem) (f : α → Dat) {xs : List α} {i : Int} {Q : α → Prop} (h : (pix xs i).Out Q E1) (hk : ∀ z, Q z → P (f z) (A ++ (q, .lst (xs.map f)) :: B)) : IQ K (.raw (.ref q)) (.int i) (A ++ (q, .lst (xs.map f)) :: B) P :=
  let ⟨x, h1, h2⟩ := pix_out h; i_cell (List.mem_append_right _ List.mem_cons_self) (atI_map h1) (hk x h2)
theorem cutD_map {f : α → β} {xs : List α} {lo hi : Option Int} : cutD (xs.map f) lo hi = (cutD xs lo hi).map f := by
  unfold cutD; rw [List.length_map, List.map_take, List.map_drop]
theorem l_lstT (f : α → Dat) {xs : List α} {lo hi : Option Int} (h : P (lstD f (cutD xs lo hi)) M) : SQ X (lstD f xs) lo hi M P := l_lst (by rw [cutD_map]; exact h)
theorem l_scrT {xs : List Int} {lo hi : Option Int} (h : P (lstD Dat.int (cutD xs lo hi)) M) : SQ X (.scr xs) lo hi M P := l_scr h
theorem c_lenT (f : α → Dat) {xs : List α} (h : P (.int xs.length) M) : BC X (.builtin "len") [lstD f xs] M P := c_len_lst (by rw [List.length_map]; exact h)
theorem c_sumT {ns : List Int} (h : P (.int ns.sum) M) (hc : X.calm = true := by rfl) : BC X (.builtin "sum") [lstD Dat.int ns] M P := c_sum hc rfl h
theorem c_tupT (f : α → Dat) {xs : List α} (h : P (vtpD f xs) M) : BC X (.type "tuple") [lstD f xs] M P := c_tuple_lst h
theorem hst_put {K : PySem.W.Frag} {G H H2 : Hp} {c' : MC} {c : MC} (h : Hst K G (A ++ (q, c) :: B) H) (hc : adr1 (q, c) = adr1 (q, c')) (hk : ∀ b, b ≠ q → H2 b = H b) (hn : MH K G H2 (q, c')) :
    Stp G (A ++ (q, c) :: B) H G (A ++ (q, c') :: B) H2 ∧ Hst K G (A ++ (q, c') :: B) H2 := cell_put h hc (by cases c <;> simp [adr1]) hk hn
theorem b_app (A : Mem) (f : α → Dat) {xs : List α} {x : α} {Q : List α → Prop} (h : (papp xs x).Out Q E1) (hk : ∀ ys, Q ys → P .non (A ++ (q, .lst (ys.map f)) :: B)) : BMr X "list.append" (.raw (.ref q)) [f x] (A ++ (q, .lst (xs.map f)) :: B) P := by
  obtain ⟨hl, hq⟩ := gd h
  refine ⟨rAppend, mt_append, fun G H v vs hH dv dvs Q hP => ?_⟩
  obtain ⟨u, r, rfl, du, t⟩ := dvs.cons_inv
  obtain rfl := t.nil_inv
  obtain ⟨ys, g, dx⟩ := hH.mem _ (List.mem_append_right _ List.mem_cons_self)
  rw [dv.raw_inv]
  obtain ⟨s2, h2⟩ := hst_put (c' := .lst ((xs ++ [x]).map f)) (H2 := upd H q (.lst (ys ++ [u]))) hH rfl (fun b hb => upd_ne hb) ⟨_, upd_same, by rw [List.map_append]; exact dx.snoc du⟩
  exact ⟨q, ys, u, rfl, rfl, g, by rw [dx.length, List.length_map]; exact hl, hP _ _ _ _ _ (hk _ hq) s2 h2 den_non⟩
theorem r_app (A : Mem) (f : α → Dat) {xs : List α} (h : EX X T o τ M (fun d M1 => d = .raw (.ref q) ∧ M1 = A ++ (q, .lst (xs.map f)) :: B ∧ EA X T (e :: es) τ M1 (fun ds M2 => BMr X "list.append" d ds M2 P) E) E)
    (hbase : attributeBase o "append" X.env (eval o X.env) = eval o X.env := by rfl)
    (hfew : ((backTo tpos (starEach (e :: es) X.env)).all (fun x => !x.1) && (backToKw tpos (keywordEach [] X.env)).all (fun x => x.1.isSome) && decide ((e :: es).length + ([] : List Keyword).length + (if ([] : List Keyword).isEmpty then 0 else 1) < 30)) = true := by rfl)
    (hline : (apos.endLine == tpos.line) = true := by rfl) (hs : starEach (e :: es) X.env = (false, eval e X.env) :: starEach es X.env := by rfl) (hplain : (backTo tpos (starEach es X.env)).any (·.1) = false := by rfl) :
    EX X T (.Call (.Attribute o "append" apos) (e :: es) [] tpos) τ M P E := ex_append (h.imp (fun d M1 ⟨e1, e2, e3⟩ => ⟨by rw [e1, e2]; exact .cell (List.mem_append_right _ List.mem_cons_self), e3⟩) fun _ _ x => x) hbase hfew hline hs hplain
/-! calls -/
theorem outU {m : Res α} {f : α → Dat} {ex : Er → Exn} {Q : α → Prop} (h : m.Out Q E1) (hk : ∀ r, Q r → P (f r) M) (hx : ∀ x, E1 x → E (ex x) M) : m.Out (fun r => UpP P (f r) M) (fun x => UpP E (ex x) M) :=
  out_mono h (fun r q => UpP.mk (hk r q)) fun x q => UpP.mk (hx x q)
end

/-! ### a def's ends: what it made itself is left behind -/
def retD (P : PK') (E : XKx) : RK
  | .rt d, M => ∃ A B, M.Perm (A ++ B) ∧ P d A
  | .nx _, M => ∃ A B, M.Perm (A ++ B) ∧ P .non A
  | .ex x _, M => ∃ A B, M.Perm (A ++ B) ∧ E x A
  | _, _ => False
theorem csD {K : PySem.W.Frag} {G H : Hp} {M : Mem} {P : PK'} {E : XKx} {D : Ends} {W : WX} (h : CS' K G M H (retR P E) D W) : CS' K G M H (retD P E) D W := fun o M2 G2 H2 r s h2 => by
  cases o with
  | nx τ => obtain ⟨A, B, pm, r⟩ := r; exact h (.nx τ) A G2 H2 r (s.perm (List.Perm.refl _) pm).drop (h2.perm pm).drop
  | rt d => obtain ⟨A, B, pm, r⟩ := r; exact h (.rt d) A G2 H2 r (s.perm (List.Perm.refl _) pm).drop (h2.perm pm).drop
  | ex x τ => obtain ⟨A, B, pm, r⟩ := r; exact h (.ex x τ) A G2 H2 r (s.perm (List.Perm.refl _) pm).drop (h2.perm pm).drop
  | bk τ => exact r.elim
  | ct τ => exact r.elim
theorem WS.ends {X : Cx} {T : Bool} {τ : TEnv} {M : Mem} {P : PK'} {E : XKx} {ss : List Stmt} (h : WS X T ss τ M (retD P E)) : WS X T ss τ M (retR P E) := .mk fun W tk σ G H hE hH D hR => h.run W tk σ G H hE hH D (csD hR)
/-- dropped at an end: the cells L, made here -/
theorem dN {M : Mem} (L : Mem) {d : Dat} {P : PK'} (h : P d M) : ∃ A B, (L ++ M).Perm (A ++ B) ∧ P d A := ⟨M, L, List.perm_append_comm, h⟩
theorem dX {M : Mem} (L : Mem) {x : Exn} {E : XKx} (h : E x M) : ∃ A B, (L ++ M).Perm (A ++ B) ∧ E x A := ⟨M, L, List.perm_append_comm, h⟩

/-! ### ifs and loops by what they compute -/
section
variable {X : Cx} {T : Bool} {τ : TEnv} {M : Mem} {P : PK'} {E : XKx} {t e iter tg : Expr} {p q body rest : List Stmt} {pos : Pos} {α β σ ρ : Type} {E1 : Er → Prop} {R : RK}
/-- a value by itself, its reading goes on behind it -/
theorem exJ {m : Res α} (f : α → Dat) {Q : α → Prop} (h : m.Out Q E1) (he : m.Out Q E1 → EX X T e τ M (fun d M1 => M1 = M ∧ ∃ v, d = f v ∧ Q v) E) (hk : ∀ v, Q v → P (f v) M) : EX X T e τ M P E :=
  (he h).imp (fun d M1 ⟨e1, v, e2, q⟩ => by rw [e1, e2]; exact hk v q) fun _ _ x => x
theorem ws_ifJ {m : Res σ} {Q : σ → Prop} (JJ : (σ → Prop) → TEnv → Mem → Prop) (h : m.Out Q E1)
    (hif : m.Out Q E1 → ET X T t τ M (fun k M1 => (k = true → WS X T p τ M1 (thenR (JJ Q) R)) ∧ (k = false → WS X T q τ M1 (thenR (JJ Q) R))) (fun x M1 => R (.ex x τ) M1))
    (hk : ∀ τ' M', JJ Q τ' M' → WS X T rest τ' M' R) : WS X T (.If t p q pos :: rest) τ M R :=
  ws_if ((hif h).imp (fun k M1 ⟨h1, h2⟩ => ⟨fun e => (h1 e).imp fun o M2 r => by cases o <;> first | exact hk _ _ r | exact r, fun e => (h2 e).imp fun o M2 r => by cases o <;> first | exact hk _ _ r | exact r⟩) fun _ _ x => x)
/-- what a loop over ds wants; what a comprehension over ds wants -/
def ForQ (X : Cx) (T : Bool) (tg : Expr) (body rest : List Stmt) (τ : TEnv) (R : RK) (ds : List Dat) (M1 : Mem) (Ok : Mem → Prop) : Prop :=
  ∃ I : Nat → TEnv → Mem → Prop, I 0 τ M1 ∧ (∀ i τ M, I i τ M → Ok M) ∧
      (∀ i d τ M, ds[i]? = some d → I i τ M → GX X T tg d τ M (fun τ2 M2 => WS X T body τ2 M2 (loopR (I (i + 1)) (fun τ M => WS X T rest τ M R) R)) (fun x M2 => R (.ex x τ) M2)) ∧
      (∀ τ M, I ds.length τ M → WS X T rest τ M R)
def LcQ (X : Cx) (scope : Scope) (vs : List Nat) (tg : Expr) (ifs : List Expr) (elt : Expr) (τ : TEnv) (ds : List Dat) (M1 : Mem) (Ok : Mem → Prop) (P : PK') : Prop :=
  ds.length ≤ sizeLine ∧ ∃ I : Nat → List Dat → Mem → Prop, I 0 [] M1 ∧ (∀ i acc M, I i acc M → Ok M) ∧
      (∀ i d acc M, ds[i]? = some d → I i acc M → ∀ (s : Shared) (H : Hp) (C : Addr) (cl : List (Str × Addr)) (fp : List Addr), GC (Cx.Bk X scope s H C cl fp) vs tg d (wipeT τ vs) M (fun τ2 M2 => ∀ (s : Shared) (H : Hp) (C : Addr) (cl : List (Str × Addr)) (fp : List Addr),
        EFs (Cx.Bk X scope s H C cl fp) ifs τ2 M2 (fun b M3 => (b = true → ∀ (s : Shared) (H : Hp) (C : Addr) (cl : List (Str × Addr)) (fp : List Addr), EX (Cx.Bk X scope s H C cl fp) false elt τ2 M3 (fun y M4 => I (i + 1) (acc ++ [y]) M4) E0') ∧ (b = false → I (i + 1) acc M3)))) ∧
      (∀ acc M, I ds.length acc M → P (.lst acc) M)
theorem ws_forT (hi : EI X tg iter τ M (fun ds M1 Ok => ForQ X T tg body rest τ R ds M1 Ok) (fun x M1 => R (.ex x τ) M1))
    (hp : PassesOwn (model X.prog X.w) X.A X.env X.xe := by first | exact PassesOwn.never | exact passes_of rfl | assumption) (hc : X.calm = true := by rfl) (hs : ∀ x, foldedSetIterable iter X.env x = pure x := by intro _; rfl) : WS X T (.For tg iter body [] pos :: rest) τ M R := ws_for hi hp hc hs
theorem ex_lcT {scope : Scope} {ifs : List Expr} {elt : Expr} (own : List (Str × Nat)) (h : EI X tg iter τ M (fun ds M1 Ok => LcQ X scope (own.map (·.2)) tg ifs elt τ ds M1 Ok P) E)
    (ok : BlkOk X.N X.env.scope scope own := by exact blkOk_by (by first | decide +kernel | kernel_rfl)) (hN : X.N.Nodup := by first | decide +kernel | exact of_decide_eq_true (by kernel_rfl)) (hc : X.calm = true := by rfl) (hs : ∀ x, foldedSetIterable iter X.env x = pure x := by intro _; rfl) :
    EX X T (.ListComp elt [⟨tg, iter, ifs, 0⟩] scope pos) τ M P E := ex_lc own h ok hN hc hs
theorem ws_setLcT {x : Str} {px : Pos} {scope : Scope} {ifs : List Expr} {elt : Expr} {lpos : Pos} (own : List (Str × Nat)) (h : EI X tg iter τ M (fun ds M1 Ok => LcQ X scope (own.map (·.2)) tg ifs elt τ ds M1 Ok (fun d M => WS X T rest (τ.set (ixIn X.N x) (some d)) M R)) (fun x M1 => R (.ex x τ) M1))
    (hi : X.N[ixIn X.N x]? = some x := by rfl) (hyl : X.env.scope.names.lookup x = some .local := by rfl) (hsw : swapsWith (.ListComp elt [⟨tg, iter, ifs, 0⟩] scope lpos) (some (.Name x px)) pos.line X.env = pure true := by exact sw_true rfl rfl rfl (by first | decide +kernel | kernel_rfl))
    (ok : BlkOk X.N X.env.scope scope own := by exact blkOk_by (by first | decide +kernel | kernel_rfl)) (hN : X.N.Nodup := by first | decide +kernel | exact of_decide_eq_true (by kernel_rfl)) (hc : X.calm = true := by rfl) (hs : ∀ x, foldedSetIterable iter X.env x = pure x := by intro _; rfl) :
    WS X T (.Assign [.Name x px] (.ListComp elt [⟨tg, iter, ifs, 0⟩] scope lpos) pos :: rest) τ M R := ws_setLc own h hi hyl hsw ok hN hc hs
theorem GX.impP {X : Cx} {T : Bool} {tg : Expr} {d : Dat} {τ : TEnv} {M : Mem} {Pg Pg' : TEnv → Mem → Prop} {Eg : XKx} (hp : ∀ τ M, Pg τ M → Pg' τ M) (hg : GX X T tg d τ M Pg Eg) : GX X T tg d τ M Pg' Eg :=
  .mk fun W tk σ G H v hE hH dv Q hP hX => hg.run W tk σ G H v hE hH dv Q (fun τ2 M2 G2 H2 σ2 r => hP τ2 M2 G2 H2 σ2 (hp _ _ r)) hX
theorem GC.impP {X : Cx} {vs : List Nat} {tg : Expr} {d : Dat} {τ : TEnv} {M : Mem} {Pg Pg' : TEnv → Mem → Prop} (hp : ∀ τ M, Pg τ M → Pg' τ M) (hg : GC X vs tg d τ M Pg) : GC X vs tg d τ M Pg' :=
  fun σ G H v hE hH dv Q hQ => hg σ G H v hE hH dv Q fun τ' M' G' H' σ' r => hQ τ' M' G' H' σ' (hp _ _ r)
theorem foldT {xs : List α} (f : α → Dat) {g : σ → α → Res σ} {s0 : σ} {M1 : Mem} {Ok : Mem → Prop} (J : σ → TEnv → Mem → Prop) {Q : σ → Prop} (h : (foldR g xs s0).Out Q E1) (h0 : J s0 τ M1) (hOk : ∀ s τ M, J s τ M → Ok M)
    (step : ∀ x s τ M (N : σ → Prop), J s τ M → (g s x).Out N E1 → GX X T tg (f x) τ M (fun τ2 M2 => WS X T body τ2 M2 (loopR (fun τ M => ∃ s, J s τ M ∧ N s) (fun τ M => WS X T rest τ M R) R)) (fun x M2 => R (.ex x τ) M2))
    (fin : ∀ s τ M, J s τ M → Q s → WS X T rest τ M R) :
    ForQ X T tg body rest τ R (xs.map f) M1 Ok := by
  refine ⟨fun i τ M => ∃ s, J s τ M ∧ (foldR g (xs.drop i) s).Out Q E1, ⟨s0, h0, h⟩, fun i τ M ⟨s, h1, _⟩ => hOk s τ M h1, ?_, ?_⟩
  · rintro i d τ M hd ⟨s, h1, h2⟩
    rw [List.getElem?_map] at hd
    obtain ⟨x, hx, rfl⟩ := Option.map_eq_some_iff.mp hd
    obtain ⟨hi, rfl⟩ := List.getElem?_eq_some_iff.mp hx
    rw [List.drop_eq_getElem_cons hi] at h2
    exact step _ s τ M _ h1 (ob h2)
  · rintro τ M ⟨s, h1, h2⟩
    rw [List.length_map, List.drop_length] at h2
    exact fin s τ M h1 h2
theorem forT {xs : List α} (f : α → Dat) {g : σ → α → Res (Ctl σ ρ)} {s0 : σ} {M1 : Mem} {Ok : Mem → Prop} (J : σ → TEnv → Mem → Prop) {Q : Ctl σ ρ → Prop} (h : (forR g xs s0).Out Q E1) (h0 : J s0 τ M1) (hOk : ∀ s τ M, J s τ M → Ok M)
    (step : ∀ x s τ M (N : Ctl σ ρ → Prop), J s τ M → (g s x).Out N E1 → (∀ r, N (.rt r) → Q (.rt r)) → GX X T tg (f x) τ M (fun τ2 M2 => WS X T body τ2 M2 (loopR (fun τ M => ∃ s, J s τ M ∧ N (.nx s)) (fun τ M => ∃ s, J s τ M ∧ N (.bk s)) R)) (fun x M2 => R (.ex x τ) M2))
    (fin : ∀ s τ M, J s τ M → Q (.nx s) → WS X T rest τ M R) :
    ForQ X T tg body rest τ R (xs.map f) M1 Ok := by
  refine ⟨fun i τ M => ∃ s, J s τ M ∧ (forR g (xs.drop i) s).Out Q E1, ⟨s0, h0, h⟩, fun i τ M ⟨s, h1, _⟩ => hOk s τ M h1, ?_, ?_⟩
  · rintro i d τ M hd ⟨s, h1, h2⟩
    rw [List.getElem?_map] at hd
    obtain ⟨x, hx, rfl⟩ := Option.map_eq_some_iff.mp hd
    obtain ⟨hi, rfl⟩ := List.getElem?_eq_some_iff.mp hx
    rw [List.drop_eq_getElem_cons hi] at h2
    refine GX.impP (fun τ2 M2 hw => ?_) (step _ s τ M _ h1 (ob h2) fun r z => z)
    refine hw.imp fun o M3 r => ?_
    cases o with
    | nx τ3 => exact r
    | ct τ3 => exact r
    | bk τ3 => obtain ⟨s3, j3, q3⟩ := r; exact fin s3 τ3 M3 j3 q3
    | rt d => exact r
    | ex x τ3 => exact r
  · rintro τ M ⟨s, h1, h2⟩
    rw [List.length_map, List.drop_length] at h2
    exact fin s τ M h1 h2
/-- the tuple that a comprehension wants -/
theorem compT {xs : List α} (f : α → Dat) (f2 : β → Dat) {g : α → Res (Option β)} {M1 : Mem} {Ok : Mem → Prop} {vs : List Nat} {scope : Scope} {ifs : List Expr} {elt : Expr} {Q : List β → Prop} (h : (compR g xs).Out Q E1) (hOk : Ok M1)
    (step : ∀ x (N : Option β → Prop), (g x).Out N (fun _ => False) → ∀ (s : Shared) (H : Hp) (C : Addr) (cl : List (Str × Addr)) (fp : List Addr), GC (Cx.Bk X scope s H C cl fp) vs tg (f x) (wipeT τ vs) M1 (fun τ2 M2 => ∀ (s : Shared) (H : Hp) (C : Addr) (cl : List (Str × Addr)) (fp : List Addr),
        EFs (Cx.Bk X scope s H C cl fp) ifs τ2 M2 (fun b M3 => (b = true → ∀ (s : Shared) (H : Hp) (C : Addr) (cl : List (Str × Addr)) (fp : List Addr), EX (Cx.Bk X scope s H C cl fp) false elt τ2 M3 (fun y M4 => M4 = M1 ∧ ∃ v, y = f2 v ∧ N (some v)) E0') ∧ (b = false → M3 = M1 ∧ N none))))
    (fin : ∀ ys, Q ys → P (lstD f2 ys) M1) :
    LcQ X scope vs tg ifs elt τ (xs.map f) M1 Ok P := by
  unfold compR at h
  split at h
  case isFalse => exact h.elim
  rename_i hl
  have h : (compL g xs).Out Q (fun _ => False) := ne_out h
  refine ⟨by rw [List.length_map]; exact hl, fun i acc M => M = M1 ∧ ∃ ys : List β, acc = ys.map f2 ∧ (compL g (xs.drop i)).Out (fun r => Q (ys ++ r)) (fun _ => False), ⟨rfl, [], rfl, h⟩, fun i acc M ⟨e, _⟩ => by rw [e]; exact hOk, ?_, ?_⟩
  · rintro i d acc M hd ⟨rfl, ys, rfl, h2⟩ s H C cl fp
    rw [List.getElem?_map] at hd
    obtain ⟨x, hx, rfl⟩ := Option.map_eq_some_iff.mp hd
    obtain ⟨hi, rfl⟩ := List.getElem?_eq_some_iff.mp hx
    rw [List.drop_eq_getElem_cons hi] at h2
    refine GC.impP (fun τ2 M2 hw => ?_) (step _ _ (ob h2) s H C cl fp)
    intro s H C cl fp σ G H' hE hH Q' hQ
    refine hw s H C cl fp σ G H' hE hH Q' fun b M3 G3 H3 ⟨p1, p2⟩ s3 h3 => hQ b M3 G3 H3 ⟨fun eb s H C cl fp => ?_, fun eb => ?_⟩ s3 h3
    · refine (p1 eb s H C cl fp).imp (fun y M4 ⟨e4, v, ev, hv⟩ => ?_) fun _ _ x => x
      subst ev
      refine ⟨e4, ys ++ [v], by simp, ?_⟩
      have hv := ob hv
      refine out_mono hv (fun r q => ?_) fun _ z => z
      have : Q (ys ++ ((some v).toList ++ r)) := q
      simpa using this
    · obtain ⟨e3, hv⟩ := p2 eb
      refine ⟨e3, ys, rfl, ?_⟩
      exact out_mono (ob hv) (fun r q => by have : Q (ys ++ ((none : Option β).toList ++ r)) := q; simpa using this) fun _ z => z
  · rintro acc M ⟨rfl, ys, rfl, h2⟩
    rw [List.length_map, List.drop_length] at h2
    have : Q (ys ++ []) := h2
    rw [List.append_nil] at this
    exact fin ys this
end
/-! tests by what they compute -/
section
variable {X : Cx} {T : Bool} {τ : TEnv} {M : Mem} {E : XKx} {a b : Expr} {rest : List Expr} {pos : Pos} {E1 : Er → Prop} {Q : Bool → Prop}
theorem exA {ma mb : Res Bool} (h : (andR ma mb).Out Q E1) (ha : ∀ Q', ma.Out Q' E1 → EX X T a τ M (fun d M1 => M1 = M ∧ ∃ k, d = .bl k ∧ Q' k) E) (hb : mb.Out Q E1 → EX X T (.BoolOp .And (b :: rest) pos) τ M (fun d M1 => M1 = M ∧ ∃ k, d = .bl k ∧ Q k) E) :
    EX X T (.BoolOp .And (a :: b :: rest) pos) τ M (fun d M1 => M1 = M ∧ ∃ k, d = .bl k ∧ Q k) E :=
  ex_and ((ha _ (ob h)).imp (fun d M1 ⟨e, k, ek, q⟩ => by
    subst e
    refine ⟨k, ek, ?_⟩
    cases k with
    | true => exact ⟨fun _ => hb q, fun z => nomatch z⟩
    | false => exact ⟨(fun z => nomatch z), fun _ => ⟨rfl, _, rfl, q⟩⟩) fun _ _ x => x)
end
end Kh

set_option Elab.async false
set_option linter.all false
set_option maxRecDepth 100000
set_option maxHeartbeats 1000000
namespace Kh
open PySem PySem.Spec L2

/-! ### data that is compared by its parts -/
structure PyE {α : Type} (e : α → Dat) [DecidableEq α] where
  ok : α → Bool
  py : α → PyData
  dep : Nat
  to : ∀ a, toPy (e a) = some (py a)
  lay : ∀ a, ok a = true → (py a).canLay0 = true
  dp : ∀ a, (py a).depth ≤ dep
  eqv : ∀ a b, PyData.eqv (py a) (py b) = decide (a = b)
def pyI : PyE Dat.int := ⟨fun _ => true, .int, 0, fun a => by simp [toPy], fun _ _ => by simp [PyData.canLay0], fun _ => by simp [PyData.depth], fun a b => by simp only [PyData.eqv]; rw [Bool.eq_iff_iff]; simp⟩
section
variable {α β γ : Type} {e : α → Dat} {f : β → Dat} {g : γ → Dat} [DecidableEq α] [DecidableEq β] [DecidableEq γ]
theorem toPyL_map (p : PyE e) : ∀ xs : List α, toPyL (xs.map e) = some (xs.map p.py)
  | [] => by simp [toPyL]
  | x :: xs => by simp [toPyL, p.to x, toPyL_map p xs]
theorem layL (p : PyE e) : ∀ xs : List α, xs.all p.ok = true → PyData.canLayAll0 (xs.map p.py) = true
  | [], _ => by simp [PyData.canLayAll0]
  | x :: xs, h => by
    rw [List.all_cons, Bool.and_eq_true] at h
    simp only [List.map_cons, PyData.canLayAll0, Bool.and_eq_true]
    exact ⟨p.lay x h.1, layL p xs h.2⟩
theorem depL (p : PyE e) : ∀ xs : List α, PyData.depthAll (xs.map p.py) ≤ p.dep
  | [] => by simp [PyData.depthAll]
  | x :: xs => by
    simp only [List.map_cons, PyData.depthAll]
    exact Nat.max_le.mpr ⟨p.dp x, depL p xs⟩
theorem eqvL (p : PyE e) : ∀ xs ys : List α, PyData.eqvAll (xs.map p.py) (ys.map p.py) = decide (xs = ys)
  | [], [] => by simp [PyData.eqvAll]
  | [], _ :: _ => by simp [PyData.eqvAll]
  | _ :: _, [] => by simp [PyData.eqvAll]
  | x :: xs, y :: ys => by
    simp only [List.map_cons, PyData.eqvAll, p.eqv, eqvL p xs ys]
    rw [Bool.eq_iff_iff]; simp
def pyL (p : PyE e) : PyE (lstD e) := ⟨fun xs => xs.all p.ok, fun xs => .list (xs.map p.py), p.dep + 1, fun xs => by simp [toPy, toPyL_map p], fun xs h => by simp only [PyData.canLay0]; exact layL p xs h, fun xs => by
  simp only [PyData.depth]; have := depL p xs; omega, fun xs ys => by simp only [PyData.eqv]; exact eqvL p xs ys⟩
def py2 (p : PyE e) (q : PyE f) : PyE (pairD e f) := ⟨fun x => p.ok x.1 && q.ok x.2, fun x => .tuple [p.py x.1, q.py x.2], max p.dep q.dep + 1, fun x => by simp [toPy, toPyL, p.to, q.to], fun x h => by
  rw [Bool.and_eq_true] at h; simp only [PyData.canLay0, PyData.canLayAll0, Bool.and_eq_true]; exact ⟨p.lay _ h.1, q.lay _ h.2, trivial⟩, fun x => by
  simp only [PyData.depth, PyData.depthAll]; have := p.dp x.1; have := q.dp x.2; omega, fun x y => by
  obtain ⟨a, b⟩ := x; obtain ⟨c, d⟩ := y; simp only [PyData.eqv, PyData.eqvAll, p.eqv, q.eqv]; rw [Bool.eq_iff_iff]; simp⟩
end
section
variable {X : Cx} {T : Bool} {τ : TEnv} {M A B : Mem} {P : PK'} {E : XKx} {a b c o e : Expr} {es : List Expr} {pos p apos tpos : Pos} {α β : Type} {E1 : Er → Prop} {q : Addr}
theorem cifN {c : Bool} {A B : Res α} {P : α → Prop} {E : Er → Prop} (h : (cond c A B).Out P E) {X Y : Prop} (a : A.Out P E → X) (b : B.Out P E → Y) : ((!c) = true → Y) ∧ ((!c) = false → X) := by
  cases c with
  | true => exact ⟨(fun z => nomatch z), fun _ => a h⟩
  | false => exact ⟨fun _ => b h, fun z => nomatch z⟩
/-! walks -/
variable {iter tg : Expr} {PI' : List Dat → Mem → (Mem → Prop) → Prop}
theorem ei_rng1 (hm : X.mg "range" = none) (h : EX X false a τ M (fun d M1 => ∃ j, d = .int j ∧ small62 j ∧ PI' ((rangeL 0 j.toNat).map Dat.int) M1 anyM) E) (hg : Gl X "range" := by rfl) (hs : starEach [a] X.env = [(false, eval a X.env)] := by rfl) : EI X tg (.Call (.Name "range" p) [a] [] pos) τ M PI' E :=
  ei_range1 hm (h.imp (fun d M1 ⟨j, e, hj, hp⟩ => ⟨j, e, hj, by rw [rngD_map]; exact hp⟩) fun _ _ x => x) hg hs
theorem ei_rng2 (hm : X.mg "range" = none) (h : EX X false a τ M (fun d M1 => EX X false b τ M1 (fun d2 M2 => ∃ i j, d = .int i ∧ d2 = .int j ∧ (small62 i ∧ small62 j) ∧ PI' ((rangeL i (j - i).toNat).map Dat.int) M2 anyM) E) E) (hg : Gl X "range" := by rfl)
    (hs : starEach [a, b] X.env = [(false, eval a X.env), (false, eval b X.env)] := by rfl) (hs2 : starEach [b] X.env = [(false, eval b X.env)] := by rfl) : EI X tg (.Call (.Name "range" p) [a, b] [] pos) τ M PI' E :=
  ei_range2 hm (h.imp (fun d M1 h1 => h1.imp (fun d2 M2 ⟨i, j, e1, e2, ⟨h1, h2⟩, hp⟩ => ⟨i, j, e1, e2, ⟨h1.1, h1.2, h2.1, h2.2⟩, by rw [rngD_map]; exact hp⟩) fun _ _ x => x) fun _ _ x => x) hg hs hs2
/-- a range upwards by a step -/
def rng3ok (i j c : Int) : Prop := (small62 i ∧ small62 j) ∧ 0 < c ∧ c < 1073741824
instance {i j c : Int} : Decidable (rng3ok i j c) := inferInstanceAs (Decidable (_ ∧ _))
/-! cells -/
/-- what o[i] = d wants -/
def SetQ (K : PySem.W.Frag) (od id d : Dat) (M : Mem) (Pm : Mem → Prop) : Prop := ∃ q ds k j, od = .raw (.ref q) ∧ id = .int k ∧ (q, MC.lst ds) ∈ M ∧ ixN ds.length k = some j ∧ ∀ G H, Hst K G M H → Pm (putC q (.lst (ds.set j d)) M)
theorem r_set (A : Mem) (f : α → Dat) {xs : List α} {x : α} {k : Int} {Q : List α → Prop} {Pm : Mem → Prop} (h : (pset xs k x).Out Q E1) (hk : ∀ z, Q z → Pm (A ++ (q, .lst (z.map f)) :: B)) :
    SetQ X.K (.raw (.ref q)) (.int k) (f x) (A ++ (q, .lst (xs.map f)) :: B) Pm := by
  unfold pset at h
  cases e : ixN xs.length k with
  | none => rw [e] at h; exact h.elim
  | some j =>
    rw [e] at h
    refine ⟨q, xs.map f, k, j, rfl, rfl, List.mem_append_right _ List.mem_cons_self, by rw [List.length_map]; exact e, fun G H hH => ?_⟩
    have nd := hH.nd
    have : putC q (.lst ((xs.map f).set j (f x))) (A ++ (q, .lst (xs.map f)) :: B) = A ++ (q, .lst ((xs.set j x).map f)) :: B := by
      rw [← List.map_set]
      rw [adr_append] at nd
      have hA : ∀ c ∈ A, c.1 ≠ q := fun c hc e => by
        have h1 : q ∈ adr A := List.mem_flatMap.mpr ⟨c, hc, by obtain ⟨p, c⟩ := c; simp only at e; subst e; cases c <;> simp [adr1]⟩
        exact (List.nodup_append.mp nd).2.2 q h1 q (by simp [adr, adr1]) rfl
      clear hH nd h hk
      induction A with
      | nil => simp [putC]
      | cons c A ih =>
        obtain ⟨p, c⟩ := c
        have : p ≠ q := hA _ List.mem_cons_self
        simp only [List.cons_append, putC, if_neg this]
        rw [ih fun c hc => hA c (List.mem_cons_of_mem _ hc)]
    rw [this]
    exact hk _ h
/-- o[i] = v, the cells as they are told by r_set -/
theorem gx_subT {i : Expr} {d : Dat} {Pt : TEnv → Mem → Prop} (h : EX X false o τ M (fun od M1 => EX X false i τ M1 (fun id M2 => SetQ X.K od id d M2 (fun M3 => Pt τ M3)) E) E)
    (ha : ∀ v, assign (.Subscript o i pos) X.env v = (do
      let ov ← holding [v] (eval o X.env)
      let iv ← holding [v, ov] (eval i X.env)
      standAt pos
      holding [v, ov, iv] (setItem ov iv v)
      release [v, ov, iv] []) := by intro _; rfl) : GX X T (.Subscript o i pos) d τ M Pt E := .mk fun W tk σ G H v hE hH dv Q hP hX => by
  refine tWG_of (pg_sub (pe_W (e := o)) (pe_W (e := i)) set_list ha) ?_
  refine h.run W tk σ G H hE hH _ ?_ hX
  intro od M1 ov G1 H1 hi s1 h1 dov
  refine hi.run W tk σ G1 H1 (hE.up s1.gg) h1 _ ?_ (hX.step s1)
  rintro id M2 iv G2 H2 ⟨q, ds, k, j, rfl, rfl, hm, hj, hp⟩ s2 h2 div
  obtain ⟨xs, g, dx⟩ := h2.mem _ hm
  obtain ⟨s3, h3⟩ := put_ok (c' := .lst (ds.set j d)) (H2 := upd H2 q (.lst (xs.set j v))) h2 hm rfl (fun b hb => upd_ne hb) ⟨_, upd_same, dx.set (dv.up (s1.trans s2).gg) j⟩
  exact ⟨q, xs, k, j, (dov.up s2.gg).raw_inv, div.int_inv, g, by rw [dx.length]; exact hj, hP _ _ _ _ _ (hp _ _ h2) ((s1.trans s2).trans s3) h3 ((hE.up (s1.trans s2).gg).up s3.gg)⟩
/-! calls with a cell, of defs that give a new list -/
variable {k : Nat} {f : Addr} {fd : FuncData} {ps : List Str} {S : Spc} {x qual : Str} {st : Stmt}
theorem ex_callA (F : FnD X.prog X.w X.K X.mg X.base k f fd ps S) (hr : Room k X.A) (hm : X.mg x = some (.ref f)) (FF : Fun X.K x qual st f fd) (hb : Binds X.K fd ps [])
    (h : EA X T (e :: es) τ M (fun ds M1 => AP S ds M1 P E) E) (hg : Gl X x := by rfl) (hdb : (x == ("__debug__" : Str)) = false := by decide) (he : starEach (e :: es) X.env = (false, eval e X.env) :: starEach es X.env := by rfl) (hpl : (backTo pos (starEach es X.env)).any (·.1) = false := by rfl) :
    EX X T (.Call (.Name x p) (e :: es) [] pos) τ M P E := ex_call (df := []) (dvs := []) F hr hm FF.kp hb .nil (fun _ => .nil) (.mk fun W tk σ G H hE hH Q hP hX => h.run W tk σ G H hE hH Q (fun ds M2 vs G2 H2 hs => hP ds M2 vs G2 H2 (by show AP S (ds ++ []) M2 P E; rw [List.append_nil]; exact hs)) hX) hg hdb he hpl
/-- the cell behind A is handed to the def -/
def UpC {δ : Type} (A B : Mem) (P : δ → Mem → Prop) (d : δ) (Mc : Mem) : Prop := ∃ M2, (Mc ++ (A ++ B)).Perm M2 ∧ P d M2
theorem apC {ds : List Dat} (A : Mem) {c : MC} (h : S ds [(q, c)] (UpC A B P) (UpC A B E)) : AP S ds (A ++ (q, c) :: B) P E := ⟨_, _, List.perm_middle, h⟩
theorem outC1 {m : Res (α × List β)} {ff : α → Dat} {g : β → Dat} {Q : α × List β → Prop} (h : m.Out Q E1) (hk : ∀ r, Q r → P (ff r.1) (A ++ (q, .lst (r.2.map g)) :: B)) (hx : ∀ x, E1 x → False) :
    m.Out (fun r => UpC A B P (ff r.1) [(q, .lst (r.2.map g))]) (fun _ => False) :=
  out_mono h (fun r z => ⟨_, (List.perm_middle (l₁ := A)).symm, hk r z⟩) hx
theorem finO {σ ρ β : Type} {k : σ → Res β} {r : ρ → Res β} {s : σ} {P : β → Prop} {E : Er → Prop} (h : (Ctl.fin k r (.nx s)).Out P E) : (k s).Out P E := h
end
end Kh

set_option Elab.async false
set_option linter.all false
set_option maxRecDepth 100000
set_option maxHeartbeats 1000000
namespace Kh
open PySem PySem.Spec L2
open PyProof.Rows (Compare_chain isTrue_chain chain_link chain_last test_link test_last)
/-! ### a op b op' c .. -/
section
variable {X : Cx} {T : Bool} {τ : TEnv} {M : Mem} {P : PK'} {E : XKx} {a r r' : Expr} {rs : List Expr} {op op' : CmpOp} {ops : List CmpOp} {pos : Pos} {x : Dat} {Pb : Bool → Mem → Prop}
end
end Kh

set_option Elab.async false
set_option linter.all false
set_option maxRecDepth 100000
set_option maxHeartbeats 1000000
namespace Kh
open PySem PySem.Spec L2
/-! ### enumerate(a text) -/
section
variable {prog : Program} {w : World} {A : Around} {E : Value → Shared → Prop} {s : Shared}
end
section
variable {X : Cx} {T : Bool} {τ : TEnv} {M A B : Mem} {P : PK'} {E : XKx} {e a b c o : Expr} {es : List Expr} {pos p apos tpos : Pos} {α β σ ρ : Type} {E1 : Er → Prop} {q : Addr} {ss : List Stmt} {R : RK} {PI' : List Dat → Mem → (Mem → Prop) → Prop} {tg : Expr}
theorem rng3_RgC {i j c : Int} (h : rng3ok i j c) : RgC i j c ((j - i + c - 1) / c).toNat := by
  obtain ⟨⟨⟨h1, h2⟩, h3, h4⟩, h5, h6⟩ := h
  have e1 : j - i + c - 1 = (j - i - 1) + 1 * c := by omega
  have hs : Builtin.Range.rangeSize i j c = (((j - i + c - 1) / c).toNat : Int) := by
    unfold Builtin.Range.rangeSize
    rw [if_pos (by omega), e1, Int.add_mul_ediv_right _ _ (by omega)]
    split
    · have := Int.ediv_nonneg (a := j - i - 1) (b := c) (by omega) (by omega)
      omega
    · have := Int.ediv_neg_of_neg_of_pos (a := j - i - 1) (b := c) (by omega) (by omega)
      omega
  refine ⟨by omega, by omega, ?_, hs⟩
  have hn : (((j - i + c - 1) / c).toNat : Int) ≤ 2 ^ 63 := by
    by_cases e : i < j
    · have := Int.ediv_le_self c (show (0 : Int) ≤ j - i - 1 by omega)
      rw [e1, Int.add_mul_ediv_right _ _ (by omega)]
      omega
    · have := Int.ediv_neg_of_neg_of_pos (a := j - i - 1) (b := c) (by omega) (by omega)
      rw [e1, Int.add_mul_ediv_right _ _ (by omega)]
      omega
  unfold Builtin.Range.small
  rw [hs]
  have hn2 : (((j - i + c - 1) / c).toNat : Int) < 2 ^ 63 := by
    rw [e1, Int.add_mul_ediv_right _ _ (by omega)]
    by_cases e : i < j
    · have := Int.ediv_le_self c (show (0 : Int) ≤ j - i - 1 by omega)
      omega
    · have := Int.ediv_neg_of_neg_of_pos (a := j - i - 1) (b := c) (by omega) (by omega)
      omega
  simp only [Builtin.Range.rangeFitsLong, Bool.and_eq_true, Bool.or_eq_true, decide_eq_true_eq, beq_iff_eq]
  have hn0 : (0 : Int) ≤ (((j - i + c - 1) / c).toNat : Int) := Int.natCast_nonneg _
  generalize (((j - i + c - 1) / c).toNat : Int) = n at *
  rw [if_pos (show c > 0 by omega)]
  simp only [Bool.and_eq_true, decide_eq_true_eq]
  omega
theorem ei_rng3 (hm : X.mg "range" = none) (h : EX X false a τ M (fun d M1 => EX X false b τ M1 (fun d2 M2 => EX X false c τ M2 (fun d3 M3 => ∃ i j k, d = .int i ∧ d2 = .int j ∧ d3 = .int k ∧ rng3ok i j k ∧ PI' ((rangeC i k ((j - i + k - 1) / k).toNat).map Dat.int) M3 anyM) E) E) E) (hg : Gl X "range" := by rfl)
    (hs : starEach [a, b, c] X.env = (false, eval a X.env) :: starEach [b, c] X.env := by rfl) (hs2 : starEach [b, c] X.env = (false, eval b X.env) :: starEach [c] X.env := by rfl) (hs3 : starEach [c] X.env = (false, eval c X.env) :: starEach [] X.env := by rfl) (hpl : (backTo pos (starEach [b, c] X.env)).any (·.1) = false := by rfl) :
    EI X tg (.Call (.Name "range" p) [a, b, c] [] pos) τ M PI' E :=
  ei_range3 hm (h.imp (fun d M1 h1 => h1.imp (fun d2 M2 h2 => h2.imp (fun d3 M3 ⟨i, j, k, e1, e2, e3, hr, hp⟩ => ⟨i, j, k, _, e1, e2, e3, rng3_RgC hr, by rw [rngC_map]; exact hp⟩) fun _ _ x => x) fun _ _ x => x) fun _ _ x => x) hg hs hs2 hs3 hpl
/-! ### a list cell that is changed no more, under one name -/
theorem ws_frz {ds : List Dat} {M3 : Mem} (i : Nat) (ht : τ[i]? = some (some (.raw (.ref q)))) (pm : M.Perm ((q, .lst ds) :: M3)) (h : WS X T ss (τ.set i (some (.lst ds))) M3 R) : WS X T ss τ M R := .mk fun W tk σ G H hE hH D hR => by
  obtain ⟨G', s3, h3, d3⟩ := freezeL (hH.perm pm)
  have sA : Stp G M H G' M3 H := (Stp.refl.perm (List.Perm.refl _) pm).trans s3
  refine h.run W tk σ G' H (fun j d hj => ?_) h3 D (hR.step sA)
  by_cases c : i = j
  · subst c
    have hl : i < τ.length := (List.getElem?_eq_some_iff.mp ht).1
    rw [List.getElem?_set_self hl] at hj
    cases hj
    obtain ⟨v, e1, e2⟩ := hE i _ ht
    rw [e2.raw_inv] at e1
    exact ⟨_, e1, d3⟩
  · rw [List.getElem?_set_ne c] at hj
    obtain ⟨v, e1, e2⟩ := hE j d hj
    exact ⟨v, e1, e2.up sA.gg⟩
/-! ### texts -/
/-! ### a list against [] -/
theorem r_eqNil {xs : List Dat} (hu : X.A.units + 64 < cLine) (h : P (.bl xs.isEmpty) M) : OP X T (compareOp .Eq) (.lst xs) (.lst []) M P := by
  cases xs with
  | nil => exact o_eqLT rfl (by decide) hu h
  | cons x xs => exact o_eqLn (by simp) hu h
theorem isE_map {f : α → Dat} {xs : List α} : (xs.map f).isEmpty = xs.isEmpty := by cases xs <;> rfl
theorem r_eqNilT (f : α → Dat) {xs : List α} (hu : X.A.units + 64 < cLine) (h : P (.bl xs.isEmpty) M) : OP X T (compareOp .Eq) (lstD f xs) (.lst []) M P := r_eqNil hu (by rw [isE_map]; exact h)
end
theorem c_isx {X : Cx} {M : Mem} {P : PK'} {d : Dat} {cv : V} {u : Value} {k : Bool} (hc : ClsV cv u) (ht : ∃ t, (∀ M, TyD X.K M d t) ∧ PySem.W.kitOne X.K t u = some k) (h : P (.bl k) M) : BC X (.builtin "isinstance") [d, .raw cv] M P :=
  let ⟨_, h1, h2⟩ := ht
  c_isi hc (h1 M) h2 h
/-! ### methods of own classes -/
theorem FnOk.mono {P : Program} {w : World} {K : PySem.W.Frag} {mg : Str → Option Value} {base : Heap} {k : Nat} {f : Addr} {fd : FuncData} {ps : List Str} {CX : CXT} {sp sp' : Sp} (h : FnOk P w K mg base CX k f fd ps sp) (hi : ∀ vs H Q E, sp' vs H Q E → sp vs H Q E) : FnOk P w K mg base CX k f fd ps sp' :=
  ⟨fun vs H Q E q => h.len vs H Q E (hi _ _ _ _ q), fun A outer s H args us vs Q E hr e0 hb r hsp => h.run A outer s H args us vs Q E hr e0 hb r (hi _ _ _ _ hsp)⟩
theorem FnD.mono {P : Program} {w : World} {K : PySem.W.Frag} {mg : Str → Option Value} {base : Heap} {k : Nat} {f : Addr} {fd : FuncData} {ps : List Str} {S S' : Spc} (h : FnD P w K mg base k f fd ps S) (hi : ∀ ds M Pd PE, S' ds M Pd PE → S ds M Pd PE) : FnD P w K mg base k f fd ps S' :=
  FnOk.mono h fun vs H Q E ⟨G, ds, M, Pd, PE, h1, h2, h3, h4, h5⟩ => ⟨G, ds, M, Pd, PE, h1, h2, hi _ _ _ _ h3, h4, h5⟩
section
variable {X : Cx} {T : Bool} {τ : TEnv} {M : Mem} {P : PK'} {E : XKx} {e o : Expr} {es : List Expr} {pos p apos : Pos} {m : Str}
/-- what becomes of an instance that is made: it is frozen at once -/
theorem made_ok {C x dx : Addr} {fs : List (Str × Dat)} (h : P (.obj C (fs.map (·.1)) (fs.map (·.2))) M) : MadeP P x ((x, .ins C dx fs) :: M) := .inr ⟨C, dx, fs, M, List.Perm.refl _, h⟩
end
end Kh

set_option Elab.async false
set_option linter.all false
set_option maxRecDepth 100000
set_option maxHeartbeats 1000000
namespace Kh
open PySem PySem.Spec L2
/-! ### own operators -/
section
variable {prog : Program} {w : World} {A : Around} {E : Value → Shared → Prop} {s : Shared} {K : PySem.W.Frag} {x C L f : Addr} {h₀ : Heap} {m : Str → Option Value} {ox : Obj} {od : Option Obj} {name : Str} {b tb : Value}
open PySem.W in
open PySem.W in
end
section
variable {X : Cx} {T : Bool} {τ : TEnv} {M : Mem} {P : PK'} {E : XKx} {a b e o : Expr} {es : List Expr} {pos p apos : Pos} {k : Nat} {fa C : Addr} {fd : FuncData} {ps : List Str} {S : Spc} {W : WX}
/-- a property of a class that is told -/
theorem ex_propD {n : Str} (h : EX X T e τ M (fun d M1 => ∃ C q g k fd ps S, Cls X.K C ∧ PropOf X.K C n q g ∧ FnD X.prog X.w X.K X.mg X.base k g fd ps S ∧ Room (k + 1) X.A ∧ Binds X.K fd ps [] ∧ (∃ m, IsI C m M1 d) ∧ AP S [d] M1 P E0') E) (hab : attributeBase e n X.env (eval e X.env) = eval e X.env := by rfl) : EX X T (.Attribute e n pos) τ M P E := by
  refine .mk ?_; intro W tk σ G H hE hH Q hP hX
  intro pins s k0 I
  have hO := h.run W tk σ G H hE hH (fun x H1 => ∃ C q g k fd ps S a dx fs, Cls X.K C ∧ PropOf X.K C n q g ∧ FnD X.prog X.w X.K X.mg X.base k g fd ps S ∧ Room (k + 1) X.A ∧ Binds X.K fd ps [] ∧ x = .ref a ∧ H1 a = some (.ins C dx fs) ∧ toSp X.K S [x] H1 Q L2.E0) (fun d M1 v G1 H1 ⟨C, q, g, k, fd, ps, S, c, hp, F, hr, hb, ⟨m, hi⟩, ha⟩ s1 h1 dv => by
    obtain ⟨a, dx, fs, e1, e2, e3⟩ := hi.get h1 dv
    exact ⟨C, q, g, k, fd, ps, S, a, dx, fs, c, hp, F, hr, hb, e1, e2, ap_toSp ha (.cons dv .nil) h1 (hP.step s1) noX⟩) hX
  refine attr_of hab (thn (hO pins s k0 I) fun u s1 ⟨x, H1, I1, rx, C, q, g, k, fd, ps, S, a, dx, fs, c, hp, F, hr, hb, ex, ea, qq⟩ => ?_)
  subst ex
  obtain rfl : u = Value.ref a := rx
  exact getprop_ok (dvs := []) I1 ea c hp F hr hb .nil passL qq
end
/-! ### a comprehension that changes cells -/
section
variable {X : Cx} {T : Bool} {τ : TEnv} {M : Mem} {P : PK'} {E : XKx} {t e iter tg : Expr} {pos : Pos} {α β σ ρ : Type} {E1 : Er → Prop}
end
end Kh

set_option Elab.async false
set_option linter.all false
set_option maxRecDepth 100000
set_option maxHeartbeats 4000000
namespace Kh
open PySem PySem.Spec L2
/-! ### text[::-1] -/
section
variable {X : Cx} {T : Bool} {τ : TEnv} {M : Mem} {P : PK'} {E : XKx} {e : Expr} {pos p1 p2 p3 : Pos} {kk : Nat}
open PyProof.Rows in
end
/-! ### a property by an instance's class -/
def PrD (P : Program) (w : World) (K : PySem.W.Frag) (mg : Str → Option Value) (base : Heap) (A : Around) {α : Type} (n : Str) (d : Dat) (m : Res α) (e : α → Dat) : Prop :=
  ∀ M (P' : PK') E1, m.ne.Out (fun r => P' (e r) M) E1 → ∃ C q g k fd ps S, Cls K C ∧ PropOf K C n q g ∧ FnD P w K mg base k g fd ps S ∧ Room (k + 1) A ∧ Binds K fd ps [] ∧ (∃ mm, ∀ M, IsI C mm M d) ∧ S [d] M (UpP P') (UpP E0')
theorem prD {X : Cx} {α : Type} {M : Mem} {P : PK'} {n : Str} {d : Dat} {m : Res α} {e : α → Dat} {Q : α → Prop} {E1 : Er → Prop} (hp : PrD X.prog X.w X.K X.mg X.base X.A n d m e) (h : m.ne.Out Q E1) (hk : ∀ r, Q r → P (e r) M) :
    ∃ C q g k fd ps S, Cls X.K C ∧ PropOf X.K C n q g ∧ FnD X.prog X.w X.K X.mg X.base k g fd ps S ∧ Room (k + 1) X.A ∧ Binds X.K fd ps [] ∧ (∃ m, IsI C m M d) ∧ AP S [d] M P E0' := by
  obtain ⟨C, q, g, k, fd, ps, S, h1, h2, h3, h4, h5, ⟨mm, h6⟩, h7⟩ := hp M P E1 (out_mono h hk fun _ z => z)
  exact ⟨C, q, g, k, fd, ps, S, h1, h2, h3, h4, h5, ⟨mm, h6 M⟩, ap_all h7⟩
end Kh

set_option Elab.async false
set_option linter.all false
set_option maxRecDepth 100000
set_option maxHeartbeats 1000000
namespace Kh
open PySem PySem.Spec L2
/-! ### for x in an instance whose __iter__ gives iter(a text of its own) -/
theorem run_w {CX : CXT} {P : Program} {w : World} {K : PySem.W.Frag} {mg : Str → Option Value} {base : Heap} {k : Nat} {f : Addr} {name qual : Str} {params : Arguments} {body : List Stmt} {scope : Scope} {dV kV doc pm cdv ct oc : Value} {an od : Option Addr}
    {osl : Array (Option Value)} {N ps : List Str} (lk : K.lookup f = some ⟨oc, od, .func (PySem.W.fnOf name qual params body scope dV kV doc pm an cdv ct), osl⟩) (hcd : PySem.W.codeIn K cdv qual = true) (S : FnScope N ps scope)
    {A : Around} {outer : List Env} {s : Shared} {H : Hp} {args : Args} {us : List Value} {vs : List V} {Q : VK} {E : XK} (hr : Room (k + 1) A) (e0 : Env0 P w K mg base A outer s H) (hb : BindsTo s (PySem.W.fnOf name qual params body scope dV kV doc pm an cdv ct) args (ps.zip us)) (r : Vals vs us) (hl : vs.length = ps.length)
    (hbody : tWSs (cxOf CX P w K mg base N qual scope f cdv A outer s H E) false body { nx := fun _ H' => Q .non H', rt := Q } (L2.start N vs) H) :
    codeAny (model P w) A (.call (.ref f) args) (CR CX outer P w H s Q E) s := by
  have KX : K.In s.heap := e0.mod.kin.keeps fun b o e => (e0.bs b o e).1
  have lim : s.heap.NoLimit := e0.mod.nolimit.keeps fun b o e => (e0.bs b o e).1
  have kinds : ∀ y ∈ ps.zip us, scope.names.lookup y.1 = some .local ∨ (scope.names.lookup y.1 = some .cell ∧ ((cellsFrom (s.heap.objs.size + 1) scope.names []).lookup y.1).isSome = true) := fun ⟨n, v⟩ hy => by
    rcases S.par n (List.of_mem_zip hy).1 with q | q
    · exact .inl q
    · exact .inr ⟨q, PySem.W.cellsFrom_some _ _ _ (.inl q)⟩
  refine codeAny_call_function hr.depth (KX _ _ lk) rfl S.co S.gen rfl (PySem.W.codeRec_of KX hcd) (hb _ _ _ _ ?_)
  refine wpAny_newFunctionEnv_cells S.kind kinds fun env he s1 x => ?_
  subst he
  refine ⟨lim.keeps x.toInCall.keep, codeAny_func ?_⟩
  have I : Inv (cxOf CX P w K mg base N qual scope f cdv A outer s H E) [] (L2.start N vs) H s1 := inv_start S hr.hd e0 hl r x
  refine wpAny_mono (hbody [] s1 tk_f I) (fun fl s' hs => ?_) fun e s' hs => hs
  cases fl with
  | ret u =>
    obtain ⟨v, σ', H', J, rv, q⟩ := hs
    exact ⟨v, H', J.os, J.bare, J.base, J.hok, rv, q⟩
  | next =>
    obtain ⟨σ', H', J, q⟩ := hs
    exact ⟨V.non, H', J.os, J.bare, J.base, J.hok, (rfl : Value.none = Value.none), q⟩
  | brk => obtain ⟨_, _, _, q⟩ := hs; exact False.elim q
  | cont => obtain ⟨_, _, _, q⟩ := hs; exact False.elim q
end Kh

set_option Elab.async false
set_option linter.all false
set_option maxRecDepth 100000
set_option maxHeartbeats 1000000
namespace Kh
open PySem PySem.Spec L2
/-! ### list(a text) -/
end Kh

set_option Elab.async false
set_option linter.all false
set_option maxRecDepth 100000
set_option maxHeartbeats 4000000
namespace Kh
open PySem PySem.Spec L2
open PySem.W PySem.Calls PyProof.Rows PySem.HandSPX

/-! ### several except clauses, each 'except C as n' -/
/-- what the clauses wish of an exception of the body, one after the other -/
def wAsN (K : PySem.W.Frag) (Wout : WX) (D : Ends) : List (Value × Nat × (Addr → Value → Option Addr → TS)) → WX
  | [] => Wout
  | (c, i, ts) :: r => fun cls d σ H => ∃ b, PySem.W.exmOne K cls c = some b ∧
      (b = true → ∀ a, H a = none → ts a cls d { nx := fun σ' H' => D.nx (σ'.set i none) H', rt := D.rt, bk := fun σ' H' => D.bk (σ'.set i none) H', ct := fun σ' H' => D.ct (σ'.set i none) H' } (σ.set i (some (.ref a))) H) ∧
      (b = false → wAsN K Wout D r cls d σ H)
/-- a clause: class's name, class, name told, suite -/
structure Cl where
  x : Str
  np : Pos
  c : Value
  n : Str
  b₀ : Stmt
  suite : List Stmt
  pos : Pos
def Cl.hd (l : Cl) : ExceptHandler := .ExceptHandler (some (.Name l.x l.np)) (some l.n) (l.b₀ :: l.suite) l.pos
inductive HdsN (X : Cx) : List Cl → List (Value × Nat × (Addr → Value → Option Addr → TS)) → Prop
  | nil : HdsN X [] []
  | cons {l : Cl} {i : Nat} {ts : Addr → Value → Option Addr → TS} {ls : List Cl} {r : List (Value × Nat × (Addr → Value → Option Addr → TS))} (hc : Names X l.x l.c) (hi : X.N[i]? = some l.n) (hln : X.env.kindOf l.n = some .local)
      (hsu : ∀ (a : Addr) (oe : Obj) (cls : Value) (d : Option Addr) (pn : List (Addr × Obj)), Zc cls d oe → (∃ vs, oe.data = .fields vs) → PSs (X.suite a ((a, oe) :: pn)) (l.b₀ :: l.suite) (ts a cls d)) (hr : HdsN X ls r) :
      HdsN X (l :: ls) ((l.c, i, ts) :: r)
section
variable {X : Cx} {body : List Stmt} {l₀ : Cl} {ls : List Cl} {r : List (Value × Nat × (Addr → Value → Option Addr → TS))} {pos : Pos} {tb : WX → TS} {Wout : WX}
theorem ps_try_asN (hs : X.stack = X.env :: X.outer) (hf : X.env.frame = some X.env.locals) (hN : X.N.Nodup) (tk : Takes X Wout)
    (hb : ∀ (W : WX) (pn : List (Addr × Obj)) (xe : Value → Shared → Prop), Takes (X.tr pn xe) W → PassesOwn (model X.prog X.w) X.A X.env xe → PSs (X.tr pn xe) body (tb W))
    (hh : HdsN X (l₀ :: ls) r) : PS X (.Try body (l₀.hd :: ls.map Cl.hd) [] [] pos) (fun D σ H => tb (wAsN X.K Wout D r) D σ H) := by
  refine ⟨fun pins s σ H D I h => ?_⟩
  have ok := I.ok
  have hfr : X.A.frames = some (X.env :: X.outer) := by rw [ok.frames, hs]
  refine wpAny_Try_except ?_
  refine wpAny_mono ((hb (wAsN X.K Wout D r) (X.pn ++ pins) (fun e s₁ => wpAny (model X.prog X.w) X.A (noteFrame e X.env) (fun _ s₂ => wpAny (model X.prog X.w) X.A (setFlight e none) (fun _ s₃ =>
    wpAny (model X.prog X.w) X.A (handleBy e X.env (l₀.hd :: ls.map Cl.hd)) (SP X pins D) X.xe s₃) X.xe s₂) X.xe s₁) (fun u s' xx => ?_) PassesOwn.looking).run [] s σ H D (I.toTry _) h) (fun f s1 hsp => ?_) (fun e s1 he => he)
  · -- the catch
    obtain ⟨a, B, sI, pins', σ', H', cls, d, rfl, J', nb, up, sky, na, os, ag, w⟩ := xx
    have J : Inv X pins σ' H' sI := J'.ofTry ok
    have sky' : Sky B (X.env :: X.outer) a (Zc cls d) X.env.locals s'.heap := by rw [← hs]; exact sky
    show wpAny (model X.prog X.w) X.A (noteFrame (.ref a) X.env) _ _ _
    refine Sky.land Zc.steady hfr hf sky' fun h3 fl3 up3 => ?_
    have J3 : Inv X pins σ' H' { s' with heap := h3 } := J.landed nb fl3.1 (up.trans up3) os ag
    obtain ⟨oe3, vs3, he3, hz3, hd3⟩ := fl3.there
    have notFr : ∀ {h : Heap} {o : Obj} {vs : Array Value}, h.FunFrames B (X.env :: X.outer) → h.get? a = some o → o.data = .fields vs → a ∉ frs (X.env :: X.outer) := fun {h o vs} ff e dd hm => by
      obtain ⟨_, o', e', hnf⟩ := ff.mem hm
      rw [e] at e'; cases e'
      exact hnf _ dd
    have nfr := notFr fl3.2.2.1 he3 hd3
    have nL : a ≠ X.env.locals := fun z => nfr (List.mem_filterMap.mpr ⟨X.env, List.mem_cons_self, by rw [hf, z]⟩)
    have nF : a ∉ X.fs := fun hm => by
      obtain ⟨e, he, q⟩ := List.mem_filterMap.mp hm
      exact nfr (List.mem_filterMap.mpr ⟨e, List.mem_cons_of_mem _ he, q⟩)
    have S3 := J3.suite he3 hd3 na nL nF
    have go : ∀ {ls' : List Cl} {l' : List (Value × Nat × (Addr → Value → Option Addr → TS))}, HdsN X ls' l' → wAsN X.K Wout D l' cls d σ' H' →
        wpAny (model X.prog X.w) X.A (handleBy (.ref a) X.env (ls'.map Cl.hd)) (SP X pins D) X.xe { s' with heap := h3 } := by
      intro ls' l' hk
      induction hk with
      | nil =>
        intro w
        refine wpAny_handleBy_nil ?_
        obtain ⟨k1, k2, k3, oe, vs, T, oT, ts', he, hz, hd, h1, hr⟩ := id fl3
        unfold PySem.passOn
        refine wpAny_bind (wpAny_field he hd h1 ?_)
        rw [if_neg (show ¬ ((Value.ref T == Value.none) = true) from by simp)]
        have fin : wpAny (model X.prog X.w) X.A (setFlight (.ref a) X.env.frame) (fun _ s4 => wpAny (model X.prog X.w) X.A (throw (.ref a) : Sem Flow) (SP X pins D) X.xe s4) X.xe { s' with heap := h3 } := by
          rw [hf]
          refine HandSPX.setFlight_upZ fl3 fun h4 hh4 up4 => wpAny_throw (tk _ _ ?_)
          exact ⟨a, B, sI, pins, σ', H', cls, d, rfl, J, nb, (up.trans up3).trans up4, .inr (.inr (by rw [hs]; exact hh4)), na, os, ag, w⟩
        first
          | exact wpAny_bind (wpAny_pure (wpAny_bind fin))
          | exact wpAny_bind fin
      | @cons l i ts ls2 r2 hc hi hln hsu hr ih =>
        intro w
        obtain ⟨b, hb1, hyes, hno⟩ := w
        show wpAny (model X.prog X.w) X.A (handleBy (.ref a) X.env (.ExceptHandler (some (.Name l.x l.np)) (some l.n) (l.b₀ :: l.suite) l.pos :: ls2.map Cl.hd)) _ _ _
        refine wpAny_handleBy_cons (codeAny_handlers_test ?_) (by intro q; cases q)
        have LT : PySem.W.Looks (model X.prog X.w) h3 (typeOf (.ref a)) cls := fun A Q E s k q => wpAny_typeOf_ref (k _ _ he3) (by rw [hz3.1]; exact q)
        have LM := PySem.W.exm_one (M := model X.prog X.w) (J3.kIn) LT hb1
        have test : ∀ {Q : Value → Shared → Prop} {E : Value → Shared → Prop}, Q l.c { s' with heap := h3 } → wpAny (model X.prog X.w) (X.A.mark (some (.ref a))) (eval (.Name l.x l.np) X.env) Q E { s' with heap := h3 } := fun {Q E} q => by
          obtain ⟨hg, hdbg, hm | ⟨hm, hv, hnn⟩⟩ := hc
          · exact ld_glob (X := X.suite a ((a, oe3) :: (X.pn ++ pins))) S3 hg hm q hdbg
          · exact ld_blt (X := X.suite a ((a, oe3) :: (X.pn ++ pins))) S3 hg hm hv q hnn hdbg
        refine test (LM.here ?_)
        have hloc : Loc X.env.scope l.n := .inl hln
        cases b with
        | true =>
          refine codeAny_handlers_suite_as ?_
          refine HandSPX.lands_againZ fl3 fun h4 fl4 up4 => ?_
          have J4 : Inv X pins σ' H' { s' with heap := h4 } := J.landed nb fl4.1 ((up.trans up3).trans up4) os ag
          obtain ⟨oe4, vs4, he4, hz4, hd4⟩ := fl4.there
          have S4 := J4.suite he4 hd4 na nL nF
          refine store_ok (X := X.suite a ((a, oe4) :: (X.pn ++ pins))) (v := .ref a) S4 hN hi hloc rfl (fun s5 S5 => ?_) (.inr hln)
          refine wpAny_mono ((hsu a oe4 cls d (X.pn ++ pins) hz4 ⟨_, hd4⟩).run [] s5 _ H' _ S5 (hyes rfl a na)) (fun f s6 hsp => ?_) (fun _ _ z => False.elim z)
          have end_ : ∀ {σ6 : L2.St} {H6 : Hp} {Q : Shared → Prop}, Inv (X.suite a ((a, oe4) :: (X.pn ++ pins))) [] σ6 H6 s6 → (∀ s7, Inv X pins (σ6.set i none) H6 s7 → Q s7) →
              wpAny (model X.prog X.w) X.A (do bindName X.env l.n .none; unbindBehindTheSuite X.env l.n l.pos) (fun _ s7 => Q s7) X.xe s6 := fun {σ6 H6 Q} S6 hq => gone_ok (S6.unsuite ok) hN hi hln hq
          cases f with
          | next =>
            obtain ⟨σ6, H6, S6, q6⟩ := hsp
            exact end_ S6 fun s7 J7 => ⟨_, _, J7, q6⟩
          | brk =>
            obtain ⟨σ6, H6, S6, q6⟩ := hsp
            exact end_ S6 fun s7 J7 => ⟨_, _, J7, q6⟩
          | cont =>
            obtain ⟨σ6, H6, S6, q6⟩ := hsp
            exact end_ S6 fun s7 J7 => ⟨_, _, J7, q6⟩
          | ret u =>
            obtain ⟨v6, σ6, H6, S6, r6, q6⟩ := hsp
            exact end_ S6 fun s7 J7 => ⟨_, _, _, J7, r6, q6⟩
        | false =>
          show wpAny _ X.A (handleBy (.ref a) X.env (ls2.map Cl.hd)) _ _ _
          exact ih (hno rfl)
    exact go hh w
  · cases f with
    | next =>
      obtain ⟨σ', H', J', q⟩ := hsp
      exact wpAny_execs_nil ⟨σ', H', J'.ofTry ok, q⟩
    | brk =>
      obtain ⟨σ', H', J', q⟩ := hsp
      exact ⟨σ', H', J'.ofTry ok, q⟩
    | cont =>
      obtain ⟨σ', H', J', q⟩ := hsp
      exact ⟨σ', H', J'.ofTry ok, q⟩
    | ret u =>
      obtain ⟨v, σ', H', J', r, q⟩ := hsp
      exact ⟨v, σ', H', J'.ofTry ok, r, q⟩
end

/-! ### over the judgement of statements -/
/-- the clauses, one after the other, at an exception x of the body -/
def catN (X : Cx) (k : TEnv → Mem → Prop) (R : RK) (x : Exn) (τ : TEnv) (M : Mem) : List Cl → Prop
  | [] => R (.ex x τ) M
  | l :: ls => ∃ b, PySem.W.exmOne X.K (.ref x.C) l.c = some b ∧
      (b = true → x.ns ≠ [] ∧ ∀ a dd oe pn, Zc (.ref x.C) (some dd) oe → (∃ vs, oe.data = .fields vs) → WS (X.suite a ((a, oe) :: pn)) false (l.b₀ :: l.suite) (τ.set (ixIn X.N l.n) (some (.xn a dd x.ns x.ds))) M (suiteR (ixIn X.N l.n) k R)) ∧
      (b = false → catN X k R x τ M ls)
def tryRN (X : Cx) (ls : List Cl) (k : TEnv → Mem → Prop) (R : RK) : RK
  | .nx τ, M => k τ M
  | .ex x τ, M => catN X k R x τ M ls
  | o, M => R o M
/-- what is to be known of the clauses' names -/
inductive ClOk (X : Cx) : List Cl → Prop
  | nil : ClOk X []
  | cons {l : Cl} {ls : List Cl} (hc : Names X l.x l.c) (hi : X.N[ixIn X.N l.n]? = some l.n) (hln : X.env.kindOf l.n = some .local) (hr : ClOk X ls) : ClOk X (l :: ls)
/-- what the suites take -/
def tsN (X : Cx) (l : Cl) : Value × Nat × (Addr → Value → Option Addr → TS) :=
  (l.c, ixIn X.N l.n, fun a cls d D σ H => ∀ oe pn, Zc cls d oe → (∃ vs, oe.data = .fields vs) → tWSs (X.suite a ((a, oe) :: pn)) false (l.b₀ :: l.suite) D σ H)
theorem hdsN {X : Cx} : ∀ {ls : List Cl}, ClOk X ls → HdsN X ls (ls.map (tsN X))
  | _, .nil => .nil
  | _, .cons hc hi hln hr => .cons hc hi hln (fun a oe cls d pn hz hv => ⟨fun pins s σ H D I h => h oe pn hz hv pins s tk_f I⟩) (hdsN hr)
section
variable {X : Cx} {T : Bool} {τ : TEnv} {M : Mem} {R : RK} {rest body : List Stmt} {pos : Pos} {l₀ : Cl} {ls : List Cl}
theorem catN_run {W : WX} {D : Ends} {nx : L2.St → Hp → Prop} {G2 H2 : Hp} {k : TEnv → Mem → Prop} {y : Exn} {τ' : TEnv} {M2 : Mem} (tk : Takes X W) (h2 : Hst X.K G2 M2 H2)
    (hk : ∀ τ3 M3 G3 H3 σ3, k τ3 M3 → Stp G2 M2 H2 G3 M3 H3 → Hst X.K G3 M3 H3 → DenE X.K τ3 G3 σ3 → nx σ3 H3) (hR : CS' X.K G2 M2 H2 R D W)
    {σ' : L2.St} {d : Option Addr} (hE' : DenE X.K τ' G2 σ') (dx : DenX X.K G2 H2 y d) :
    ∀ {ls : List Cl}, ClOk X ls → catN X k R y τ' M2 ls → wAsN X.K W { D with nx := nx } (ls.map (tsN X)) (.ref y.C) d σ' H2
  | [], _, r => hR _ _ _ _ r Stp.refl h2 σ' d hE' dx
  | l :: ls, .cons hc hi hln hr, r => by
    obtain ⟨b, hb, h1, h0⟩ := r
    refine ⟨b, hb, fun e => ?_, fun e => catN_run tk h2 hk hR hE' dx hr (h0 e)⟩
    obtain ⟨hns, h1⟩ := h1 e
    intro a ha oe pn hz hv
    rcases dx with ⟨z, _⟩ | ⟨dd, vs, rfl, hg, dv⟩
    · exact absurd z hns
    · refine fun pins s kt I => ?_
      have hl2 := I.len
      have hlt2 : ixIn X.N l.n < σ'.length := by
        have : (σ'.set (ixIn X.N l.n) (some (.ref a))).length = X.N.length := hl2
        rw [List.length_set] at this
        rw [this]; exact (List.getElem?_eq_some_iff.mp hi).1
      refine (h1 a dd oe pn hz hv).run _ takes0 (σ'.set (ixIn X.N l.n) (some (.ref a))) G2 H2 (hE'.set hlt2 (by simp only [Den, true_and]; exact ⟨vs, hg, dv⟩)) h2 _ ?_ pins s kt I
      intro o M3 G3 H3 r3 s3 h3
      cases o with
      | nx τ3 => exact fun σ3 e3 => hk _ _ _ _ _ r3 s3 h3 e3.unset
      | rt d => exact fun v dv => hR _ _ _ _ r3 s3 h3 v dv
      | bk τ3 => exact fun σ3 e3 => hR _ _ _ _ r3 s3 h3 _ e3.unset
      | ct τ3 => exact fun σ3 e3 => hR _ _ _ _ r3 s3 h3 _ e3.unset
      | ex z τ3 => exact r3.elim
/-- try: body, except C as n: suite, except .. -/
theorem ws_tryN (hs : X.stack = X.env :: X.outer) (hf : X.env.frame = some X.env.locals) (hc : ClOk X (l₀ :: ls))
    (h : ∀ pn xe, PassesOwn (model X.prog X.w) X.A X.env xe → WS (X.tr pn xe) false body τ M (tryRN X (l₀ :: ls) (fun τ' M' => WS X T rest τ' M' R) R))
    (hN : X.N.Nodup := by first | decide +kernel | exact of_decide_eq_true (by kernel_rfl)) :
    WS X T (.Try body (l₀.hd :: ls.map Cl.hd) [] [] pos :: rest) τ M R := .mk fun W tk σ G H hE hH D hR => by
  refine ws_step (ps_try_asN (r := (l₀ :: ls).map (tsN X)) (tb := fun W D σ H => ∀ pn xe, Takes (X.tr pn xe) W → PassesOwn (model X.prog X.w) X.A X.env xe → tWSs (X.tr pn xe) false body D σ H) hs hf hN tk
    (fun W pn xe tk po => ⟨fun pins s σ H D I h => h pn xe tk po pins s tk_f I⟩) (hdsN hc)) ?_
  intro pn xe tk2 po
  refine (h pn xe po).run _ tk2 σ G H hE hH _ ?_
  intro o M2 G2 H2 r s2 h2
  cases o with
  | nx τ' => exact fun σ' hE' => r.run W tk σ' G2 H2 hE' h2 D (hR.step s2)
  | rt d => exact hR _ _ _ _ r s2 h2
  | bk τ' => exact hR _ _ _ _ r s2 h2
  | ct τ' => exact hR _ _ _ _ r s2 h2
  | ex y τ' =>
    intro σ' d hE' dx
    exact catN_run tk h2 (fun τ3 M3 G3 H3 σ3 q s3 h3 e3 => q.run W tk σ3 G3 H3 e3 h3 D ((hR.step s2).step s3)) (hR.step s2) hE' dx hc r
end
end Kh

set_option Elab.async false
set_option linter.all false
set_option maxRecDepth 100000
set_option maxHeartbeats 1000000
namespace Kh
open PySem PySem.Spec L2
/-! ### an error caught -/
namespace Res
def grab {α : Type} : Res α → (Er → Res α) → Res α
  | .ok a, _ => .ok a
  | .err x, k => k x
  | .bad, _ => .bad
  | .all f, k => .all fun q => (f q).grab k
end Res
section
variable {α : Type}
@[simp] theorem grab_ok {a : α} {k : Er → Res α} : (Res.ok a).grab k = .ok a := rfl
@[simp] theorem grab_err {x : Er} {k : Er → Res α} : (Res.err x).grab k = k x := rfl
theorem grab_out {k : Er → Res α} {P : α → Prop} {E : Er → Prop} : ∀ {m : Res α}, (m.grab k).Out P E → m.Out P (fun x => (k x).Out P E)
  | .ok _, h => h
  | .err _, h => h
  | .bad, h => h
  | .all f, h => fun q => grab_out (m := f q) (h q)
end
/-! ### values of any kind compared -/
mutual
def eqA : Any → Any → Bool
  | .non, .non => true
  | .bl a, .bl b => decide (a = b)
  | .int i, .int j => decide (i = j)
  | .str s, .str t => decide (s = t)
  | .lst xs, .lst ys => eqAL xs ys
  | .tup xs, .tup ys => eqAL xs ys
  | .tag a _, .tag b _ => decide (a = b)
  | .cel a, .cel b => decide (a = b)
  | _, _ => false
def eqAL : List Any → List Any → Bool
  | [], [] => true
  | x :: xs, y :: ys => eqA x y && eqAL xs ys
  | _, _ => false
end
mutual
def dpA : Any → Nat
  | .lst xs => dpAL xs + 1
  | .tup xs => dpAL xs + 1
  | _ => 1
def dpAL : List Any → Nat
  | [] => 0
  | x :: xs => max (dpA x) (dpAL xs)
end
section
variable {cl : OK → Addr × List Str}
mutual
theorem eqA_D : ∀ {x y : Any}, eqA x y = true → eqT (anyD cl x) (anyD cl y) = true
  | .non, y, h => by cases y <;> simp [eqA] at h; simp [anyD, eqT]
  | .bl a, y, h => by cases y <;> simp [eqA] at h; simp [anyD, eqT, h]
  | .int a, y, h => by cases y <;> simp [eqA] at h; simp [anyD, eqT, h]
  | .str a, y, h => by cases y <;> simp [eqA] at h; simp [anyD, eqT, h]
  | .lst xs, y, h => by
    cases y <;> simp [eqA] at h
    simp only [anyD, eqT]; exact eqAL_D h
  | .tup xs, y, h => by
    cases y <;> simp [eqA] at h
    simp only [anyD, eqT]; exact eqAL_D h
  | .tag a _, y, h => by cases y <;> simp [eqA] at h; simp [anyD, eqT, h]
  | .cel a, y, h => by cases y <;> simp [eqA] at h; simp [anyD, eqT, h]
  | .dic, y, h => by cases y <;> simp [eqA] at h
  | .obj _ _, y, h => by cases y <;> simp [eqA] at h
theorem eqAL_D : ∀ {xs ys : List Any}, eqAL xs ys = true → eqTL (anyDL cl xs) (anyDL cl ys) = true
  | [], [], _ => by simp [anyDL, eqTL]
  | x :: xs, y :: ys, h => by
    simp only [eqAL, Bool.and_eq_true] at h
    simp only [anyDL, eqTL, Bool.and_eq_true]
    exact ⟨eqA_D h.1, eqAL_D h.2⟩
  | [], _ :: _, h => by simp [eqAL] at h
  | _ :: _, [], h => by simp [eqAL] at h
end
mutual
theorem dpA_D : ∀ {x : Any}, dpD (anyD cl x) = dpA x
  | .non => by simp [anyD, dpD, dpA]
  | .bl _ => by simp [anyD, dpD, dpA]
  | .int _ => by simp [anyD, dpD, dpA]
  | .str _ => by simp [anyD, dpD, dpA]
  | .lst xs => by simp only [anyD, dpD, dpA]; rw [dpAL_D]
  | .tup xs => by simp only [anyD, dpD, dpA]; rw [dpAL_D]
  | .dic => by simp [anyD, dpD, dpA]
  | .obj _ _ => by simp [anyD, dpD, dpA]
  | .tag _ _ => by simp [anyD, dpD, dpA]
  | .cel _ => by simp [anyD, dpD, dpA]
theorem dpAL_D : ∀ {xs : List Any}, dpDL (anyDL cl xs) = dpAL xs
  | [] => by simp [anyDL, dpDL, dpAL]
  | x :: xs => by simp only [anyDL, dpDL, dpAL]; rw [dpA_D, dpAL_D]
end
end
/-- two lists of values of any kind compared, where they are equal by shape or place -/
def peqA (xs ys : List Any) : Res Bool := guard (eqAL xs ys = true ∧ dpAL xs ≤ 60) true
section
variable {X : Cx} {T : Bool} {M : Mem} {P : PK'} {E1 : Er → Prop} {cl : OK → Addr × List Str} {Q : Bool → Prop} {xs ys : List Any}
theorem r_eqAL (hu : X.A.units + 64 < cLine) (h : (peqA xs ys).Out Q E1) (hk : ∀ b, Q b → P (.bl b) M) : OP X T (compareOp .Eq) (.lst (xs.map (anyD cl))) (.lst (ys.map (anyD cl))) M P := by
  rw [← anyDL_map, ← anyDL_map]
  exact o_eqLT (eqAL_D (gd h).1.1) (by rw [dpAL_D]; exact (gd h).1.2) hu (hk _ (gd h).2)
theorem r_neAL (hu : X.A.units + 64 < cLine) (h : ((peqA xs ys).bind fun b => .ok !b).Out Q E1) (hk : ∀ b, Q b → P (.bl b) M) : OP X T (compareOp .NotEq) (.lst (xs.map (anyD cl))) (.lst (ys.map (anyD cl))) M P := by
  rw [← anyDL_map, ← anyDL_map]
  have g := gd (ob h)
  exact o_neLT (eqAL_D g.1.1) (by rw [dpAL_D]; exact g.1.2) hu (hk _ g.2)
end
/-! ### what a value of any kind is -/
def AsI : Any → Res Int
  | .int i => .ok i
  | _ => .bad
section
variable {cl : OK → Addr × List Str} {E1 : Er → Prop}
theorem asI_out {a : Any} {Q : Int → Prop} (h : (AsI a).Out Q E1) : ∃ i, a = .int i ∧ Q i := by
  cases a <;> first | exact ⟨_, rfl, h⟩ | exact h.elim
end
/-- a base type's name -/
def tyA : Any → Option String
  | .non => some "NoneType"
  | .bl _ => some "bool"
  | .int _ => some "int"
  | .str _ => some "str"
  | .lst _ => some "list"
  | .tup _ => some "tuple"
  | .dic => some "dict"
  | .obj _ _ => none
  | .tag _ x => tyA x
  | .cel _ => none
/-- the own class -/
def okA : Any → Option OK
  | .obj k _ => some k
  | .tag _ x => okA x
  | _ => none
theorem tyA_D {K : PySem.W.Frag} {M : Mem} {cl : OK → Addr × List Str} : ∀ {a : Any} {t : String}, tyA a = some t → TyD K M (anyD cl a) (.type t)
  | .non, _, h => by cases h; simp only [anyD]; exact .non
  | .bl _, _, h => by cases h; simp only [anyD]; exact .bl
  | .int _, _, h => by cases h; simp only [anyD]; exact .int
  | .str _, _, h => by cases h; simp only [anyD]; exact .str
  | .lst _, _, h => by cases h; simp only [anyD]; exact .lst
  | .tup _, _, h => by cases h; simp only [anyD]; exact .tup
  | .dic, _, h => by cases h; simp only [anyD]; exact .dic0
  | .obj _ _, _, h => by cases h
  | .cel _, _, h => by cases h
  | .tag _ x, _, h => by simp only [anyD]; exact .at (tyA_D (a := x) h)
theorem okA_D' {K : PySem.W.Frag} {M : Mem} {cl : OK → Addr × List Str} : ∀ {a : Any} {k : OK}, ICls K (cl k).1 → okA a = some k → TyD K M (anyD cl a) (.ref (cl k).1)
  | .obj _ _, _, hc, h => by cases h; simp only [anyD]; exact .obj hc
  | .tag _ x, _, hc, h => by simp only [anyD]; exact .at (okA_D' (a := x) hc h)
  | .non, _, _, h => by cases h
  | .bl _, _, _, h => by cases h
  | .int _, _, _, h => by cases h
  | .str _, _, _, h => by cases h
  | .lst _, _, _, h => by cases h
  | .tup _, _, _, h => by cases h
  | .dic, _, _, h => by cases h
  | .cel _, _, _, h => by cases h
theorem tyA_mem : ∀ {a : Any} {u : String}, tyA a = some u → u ∈ ["NoneType", "bool", "int", "str", "list", "tuple", "dict"]
  | .non, _, h => by cases h; simp
  | .bl _, _, h => by cases h; simp
  | .int _, _, h => by cases h; simp
  | .str _, _, h => by cases h; simp
  | .lst _, _, h => by cases h; simp
  | .tup _, _, h => by cases h; simp
  | .dic, _, h => by cases h; simp
  | .obj _ _, _, h => by cases h
  | .cel _, _, h => by cases h
  | .tag _ x, _, h => tyA_mem (a := x) h
/-- isinstance(a, t) for a base type t; pr: the own classes that are there -/
def pisA (pr : OK → Bool) (t : String) (a : Any) : Res Bool := match tyA a with
  | some u => .ok (u == t || (u == "bool" && t == "int"))
  | none => match okA a with
    | some k => guard (pr k = true) false
    | none => .bad
theorem kitA {K : PySem.W.Frag} {t : String} (ht : t ∈ ["bool", "int", "str", "list", "tuple", "dict"]) {u : String} (h : u ∈ ["NoneType", "bool", "int", "str", "list", "tuple", "dict"]) :
    PySem.W.kitOne K (.type u) (.type t) = some (u == t || (u == "bool" && t == "int")) := by
  simp only [List.mem_cons, List.not_mem_nil, or_false] at h ht
  rcases h with rfl | rfl | rfl | rfl | rfl | rfl | rfl <;> rcases ht with rfl | rfl | rfl | rfl | rfl | rfl <;> rfl
section
variable {X : Cx} {M : Mem} {P : PK'} {E1 : Er → Prop} {cl : OK → Addr × List Str} {Q : Bool → Prop} {pr : OK → Bool} {a : Any}
theorem r_isA {t : String} {cv : V} (hc : ClsV cv (.type t)) (hi : ∀ k, pr k = true → ICls X.K (cl k).1) (hs : ∀ k, pr k = true → PySem.W.subIn X.K (.ref (cl k).1) (.type t) = some false) (h : (pisA pr t a).Out Q E1) (hk : ∀ b, Q b → P (.bl b) M)
    (ht : t ∈ ["bool", "int", "str", "list", "tuple", "dict"] := by decide) : BC X (.builtin "isinstance") [anyD cl a, .raw cv] M P := by
  unfold pisA at h
  cases e : tyA a with
  | some u => rw [e] at h; exact c_isi hc (tyA_D e) (kitA ht (tyA_mem e)) (hk _ h)
  | none =>
    rw [e] at h
    cases e2 : okA a with
    | none => rw [e2] at h; exact h.elim
    | some k =>
      rw [e2] at h
      have g := gd h
      have ty : TyD X.K M (anyD cl a) (.ref (cl k).1) := okA_D' (hi k g.1) e2
      exact c_isi hc ty (kit_ty (hs k g.1) (by simp only [List.mem_cons, List.not_mem_nil, or_false] at ht; rcases ht with rfl | rfl | rfl | rfl | rfl | rfl <;> rfl)) (hk _ g.2)
end
section
variable {X : Cx} {T : Bool} {τ : TEnv} {M : Mem} {P : PK'} {E : XKx} {e : Expr} {E1 : Er → Prop} {cl : OK → Addr × List Str} {a : Any} {pos : Pos} {α : Type}
/-- a value seen as one of any kind -/
theorem ex_asA (h : EX X T e τ M (fun d M1 => ∃ d', d = d' ∧ P d' M1) E) : EX X T e τ M P E := h.imp (fun d M1 ⟨_, e, h⟩ => e ▸ h) fun _ _ h => h
/-- a value of any kind that must be a number -/
theorem ex_asI {Q : Int → Prop} (h : (AsI a).Out Q E1) (hk : EX X T e τ M (fun d M1 => d = anyD cl a ∧ ∀ i, Q i → P (.int i) M1) E) : EX X T e τ M P E :=
  hk.imp (fun d M1 ⟨e, hp⟩ => by obtain ⟨i, rfl, q⟩ := asI_out h; rw [e]; exact hp i q) fun _ _ h => h
/-- {} -/
theorem ex_dicA {f : Addr → Res α} {Q : α → Prop} (h : (Res.all f).Out Q E1) (hk : ∀ q, (f q).Out Q E1 → P (.at q .dic0) M) : EX X T (.Dict [] [] pos) τ M P E := ex_dict0 fun q => hk q (h q)
/-- a made value, told by its place -/
theorem outAll {f : Addr → Res α} {Q : α → Prop} (h : (Res.all f).Out Q E1) : ∀ q, (f q).Out Q E1 := h
theorem ex_tagA (hk : EX X T e τ M (fun d M1 => isR d = true ∧ ∃ d', d = d' ∧ ∃ S : Addr → Prop, (∀ q, S q) ∧ ∀ q, S q → P (.at q d') M1) E) : EX X T e τ M P E :=
  ex_tag (hk.imp (fun d M1 ⟨hr, d', e, S, h, hp⟩ => ⟨hr, fun q => by subst e; exact hp q (h q)⟩) fun _ _ h => h)
end
/-! ### try, as it goes on in one way -/
theorem catN_mono {X : Cx} {k k' : TEnv → Mem → Prop} {R : RK} {x : Exn} {τ : TEnv} {M : Mem} (hk : ∀ τ M, k τ M → k' τ M) : ∀ {ls : List Cl}, catN X k R x τ M ls → catN X k' R x τ M ls
  | [], h => h
  | l :: ls, ⟨b, hb, h1, h0⟩ => ⟨b, hb, fun e => ⟨(h1 e).1, fun a dd oe pn hz hv => ((h1 e).2 a dd oe pn hz hv).imp fun o M2 q => by
      cases o with
      | nx τ => exact hk _ _ q
      | ct τ => exact q
      | bk τ => exact q
      | rt d => exact q
      | ex _ _ => exact q⟩, fun e => catN_mono hk (h0 e)⟩
section
variable {X : Cx} {T : Bool} {τ : TEnv} {M : Mem} {R : RK} {rest body : List Stmt} {pos : Pos} {l₀ : Cl} {ls : List Cl} {α : Type} {E1 : Er → Prop}
/-- how a try's body may end: in J, or by an error of the slots and cells it began with -/
def tryB (ex : Er → Exn) (τ : TEnv) (M : Mem) (J : TEnv → Mem → Prop) (E : Er → Prop) : RK
  | .nx τ', M' => J τ' M'
  | .ex y τ', M' => ∃ x, y = ex x ∧ τ' = τ ∧ M' = M ∧ E x
  | _, _ => False
/-- the same, where what was made on the way is left behind -/
def tryD (ex : Er → Exn) (τ : TEnv) (M : Mem) (J : TEnv → Mem → Prop) (E : Er → Prop) : RK
  | .nx τ', M' => J τ' M'
  | .ex y τ', M' => ∃ A B, M'.Perm (A ++ B) ∧ ∃ x, y = ex x ∧ τ' = τ ∧ A = M ∧ E x
  | _, _ => False
theorem csT {K : PySem.W.Frag} {G H : Hp} {M M0 : Mem} {ex : Er → Exn} {J : TEnv → Mem → Prop} {E : Er → Prop} {D : Ends} {W : WX} (h : CS' K G M H (tryB ex τ M0 J E) D W) : CS' K G M H (tryD ex τ M0 J E) D W := fun o M2 G2 H2 r s h2 => by
  cases o with
  | nx τ => exact h (.nx τ) M2 G2 H2 r s h2
  | rt d => exact r.elim
  | ex x τ => obtain ⟨A, B, pm, r⟩ := r; exact h (.ex x τ) A G2 H2 r (s.perm (List.Perm.refl _) pm).drop (h2.perm pm).drop
  | bk τ => exact r.elim
  | ct τ => exact r.elim
theorem WS.endT {M0 : Mem} {τ0 : TEnv} {ex : Er → Exn} {J : TEnv → Mem → Prop} {E : Er → Prop} {ss : List Stmt} (h : WS X T ss τ M (tryD ex τ0 M0 J E)) : WS X T ss τ M (tryB ex τ0 M0 J E) := .mk fun W tk σ G H hE hH D hR => h.run W tk σ G H hE hH D (csT hR)
theorem tX {ex : Er → Exn} {E : Er → Prop} (L : Mem) {x : Er} (h : E x) : ∃ A B, (L ++ M).Perm (A ++ B) ∧ ∃ x', ex x = ex x' ∧ τ = τ ∧ A = M ∧ E x' := ⟨M, L, List.perm_append_comm, x, rfl, rfl, rfl, h⟩
theorem ws_tryJ (ex : Er → Exn) (J : (α → Prop) → TEnv → Mem → Prop) {mb : Res α} {H : Er → Res α} {Q : α → Prop} (h : (mb.grab H).Out Q E1) (hs : X.stack = X.env :: X.outer) (hf : X.env.frame = some X.env.locals) (hc : ClOk X (l₀ :: ls))
    (hb : mb.Out Q (fun x => (H x).Out Q E1) → ∀ pn xe, PassesOwn (model X.prog X.w) X.A X.env xe → WS (X.tr pn xe) false body τ M (tryD ex τ M (J Q) fun x => (H x).Out Q E1))
    (hx : ∀ x, (H x).Out Q E1 → catN X (J Q) R (ex x) τ M (l₀ :: ls)) (hr : ∀ τ' M', J Q τ' M' → WS X T rest τ' M' R)
    (hN : X.N.Nodup := by first | decide +kernel | exact of_decide_eq_true (by kernel_rfl)) :
    WS X T (.Try body (l₀.hd :: ls.map Cl.hd) [] [] pos :: rest) τ M R := by
  refine ws_tryN hs hf hc (fun pn xe po => (hb (grab_out h) pn xe po).endT.imp ?_) hN
  rintro (τ' | d | τ' | τ' | ⟨y, τ'⟩) M' q
  · exact hr _ _ q
  · exact q.elim
  · exact q.elim
  · exact q.elim
  · obtain ⟨x, rfl, rfl, rfl, q⟩ := q
    exact catN_mono (fun _ _ => hr _ _) (hx x q)
end
/-! ### isinstance to an own class -/
def baseT : List String := ["NoneType", "bool", "int", "str", "list", "tuple", "dict"]
/-- isinstance(a, C): su tells of the own classes -/
def pisO (su : OK → Option Bool) (a : Any) : Res Bool := match tyA a with
  | some _ => .ok false
  | none => match okA a with
    | some k => (match su k with
      | some b => .ok b
      | none => .bad)
    | none => .bad
section
variable {X : Cx} {M : Mem} {P : PK'} {E1 : Er → Prop} {cl : OK → Addr × List Str} {Q : Bool → Prop} {su : OK → Option Bool} {a : Any} {D : Addr}
theorem r_isO {cv : V} (hc : ClsV cv (.ref D)) (ic : PySem.W.isClsIn X.K D = true) (tc : PySem.W.typeIn X.K (.ref D) = some (.type "type"))
    (hs : ∀ k b, su k = some b → ICls X.K (cl k).1 ∧ PySem.W.kitOne X.K (.ref (cl k).1) (.ref D) = some b) (h : (pisO su a).Out Q E1) (hk : ∀ b, Q b → P (.bl b) M)
    (hb : ∀ u ∈ baseT, PySem.W.subIn X.K (.type u) (.ref D) = some false) : BC X (.builtin "isinstance") [anyD cl a, .raw cv] M P := by
  cases e : tyA a with
  | some u => simp only [pisO, e] at h; exact c_isi hc (tyA_D e) (kit_tr ic tc (hb u (tyA_mem e))) (hk _ h)
  | none =>
    cases e2 : okA a with
    | none => simp only [pisO, e, e2] at h; exact h.elim
    | some k =>
      cases e3 : su k with
      | none => simp only [pisO, e, e2, e3] at h; exact h.elim
      | some b =>
        simp only [pisO, e, e2, e3] at h
        exact c_isi hc (okA_D' (hs k b e3).1 e2) (hs k b e3).2 (hk _ h)
theorem base_all {p : String → Prop} (h1 : p "NoneType") (h2 : p "bool") (h3 : p "int") (h4 : p "str") (h5 : p "list") (h6 : p "tuple") (h7 : p "dict") : ∀ u ∈ baseT, p u := by
  intro u hu
  simp only [baseT, List.mem_cons, List.not_mem_nil, or_false] at hu
  rcases hu with rfl | rfl | rfl | rfl | rfl | rfl | rfl <;> assumption
end
end Kh

set_option Elab.async false
set_option linter.all false
set_option maxRecDepth 100000
set_option maxHeartbeats 1000000
namespace Kh
open PySem PySem.Spec L2
open PySem.SeqAt (EqAt RcAt RcNeAt)
/-! ### lists that are told as data or as cells -/
def LsD (M : Mem) (d : Dat) (xs : List Dat) : Prop := d = .lst xs ∨ ∃ q, d = .raw (.ref q) ∧ (q, MC.lst xs) ∈ M
theorem LsD.cell {M : Mem} {q : Addr} {xs ys : List Dat} (e : xs = ys) (h : (q, MC.lst xs) ∈ M) : LsD M (.raw (.ref q)) ys := e ▸ .inr ⟨q, rfl, h⟩
theorem LsD.get {K : PySem.W.Frag} {G H : Hp} {M : Mem} {d : Dat} {xs : List Dat} {v : V} (h : LsD M d xs) (hH : Hst K G M H) (dv : Den K G d v) : ∃ a vs, v = .ref a ∧ H a = some (.lst vs) ∧ DenL K G xs vs := by
  rcases h with rfl | ⟨q, rfl, hm⟩
  · obtain ⟨a, vs, rfl, ga, da⟩ := dv.lst_inv
    exact ⟨a, vs, rfl, hH.sub _ _ ga, da⟩
  · obtain ⟨vs, g1, g2⟩ := hH.mem _ hm
    exact ⟨q, vs, dv.raw_inv, g1, g2⟩
section
variable {X : Cx} {T : Bool} {τ : TEnv} {M : Mem} {P : PK'} {E : XKx} {R : RK} {x y : Dat} {cl : OK → Addr × List Str} {Q : Bool → Prop} {E1 : Er → Prop}
end
end Kh

set_option Elab.async false
set_option linter.all false
set_option maxRecDepth 100000
set_option maxHeartbeats 1000000
namespace Kh
open PySem PySem.Spec L2
open PyProof.Rows (boot_range)
/-! ### ranges with steps of any size -/
section
variable {X : Cx} {tg : Expr}
end
def rng3B (i j c : Int) : Prop := (small62 i ∧ small62 j) ∧ 0 < c ∧ c.natAbs.log2 < 9000
instance {i j c : Int} : Decidable (rng3B i j c) := inferInstanceAs (Decidable (_ ∧ _))
section
variable {X : Cx} {τ : TEnv} {M : Mem} {E : XKx} {a b c tg : Expr} {p pos : Pos} {PI' : List Dat → Mem → (Mem → Prop) → Prop}
end
/-! ### == by an own __eq__, as it is found -/
def EqO (pr : Program) (w : World) (K : PySem.W.Frag) (mg : Str → Option Value) (base : Heap) (A : Around) (x y : Dat) (m : Res Bool) : Prop :=
  ∃ (C fa : Addr) (fd : FuncData) (k : Nat) (ps : List Str) (S : Spc) (t : Value), FnD pr w K mg base k fa fd ps S ∧ Room (k + 1) A ∧ Meth K C "__eq__" fa ∧ PySem.W.findIn K (.ref C) "__ne__" = some (some (.builtin "object.__ne__")) ∧ ICls K C ∧ Binds K fd ps [] ∧
    (∀ M, IsI C "__eq__" M x) ∧ (∀ M, TyD K M y t) ∧ PySem.W.notFirst K C t = true ∧ ∀ (M : Mem) (P' : PK') (E' : XKx), m.Out (fun r => P' (.bl r) M) (fun _ => False) → S [x, y] M P' E'
section
variable {X : Cx} {T : Bool} {M : Mem} {P : PK'} {x y : Dat} {m : Res Bool} {Q : Bool → Prop} {E1 : Er → Prop}
end
end Kh

set_option Elab.async false
set_option linter.all false
set_option maxRecDepth 100000
set_option maxHeartbeats 1000000
namespace Kh
open PySem PySem.Spec L2
open PySem.SeqAt PySem.MeetsSeq PySem.MeetsSeq2 PySem.MeetsSeq3 PySem.SeqRoads2
open PySem.AutoSeq1 (wpAny_loadPart')
/-! ### tuples compared, whose items have an own == -/
section
variable {X : Cx} {T : Bool} {M : Mem} {P : PK'} {α : Type} {f : α → Dat} {me : α → α → Res Bool} {xs ys : List α} {Q1 : Bool → Prop} {E1 : Er → Prop}
end
/-! instances at one place -/
/-! ### tuples joined and cut -/
section
variable {X : Cx} {T : Bool} {M : Mem} {P : PK'} {α : Type} {E1 : Er → Prop}
end
end Kh

set_option Elab.async false
set_option linter.all false
set_option maxRecDepth 100000
set_option maxHeartbeats 1000000
namespace Kh
open PySem PySem.Spec L2
/-! ### bits -/
section
variable {X : Cx} {T : Bool} {M : Mem} {P : PK'} {E1 : Er → Prop} {i j : Int}
def pshl (i j : Int) : Res Int := guard (0 ≤ j ∧ j ≤ 1000000 ∧ i.natAbs < 2 ^ 64) (i * 2 ^ j.toNat)
def pshr (i j : Int) : Res Int := guard (0 ≤ j) (i / 2 ^ j.toNat)
theorem r_shl {Q : Int → Prop} (h : (pshl i j).Out Q E1) (hk : ∀ z, Q z → P (.int z) M) : OP X T (binaryOp .LShift) (.int i) (.int j) M P := o_shl (gd h).1 (hk _ (gd h).2)
theorem r_shr {Q : Int → Prop} (h : (pshr i j).Out Q E1) (hk : ∀ z, Q z → P (.int z) M) : OP X T (binaryOp .RShift) (.int i) (.int j) M P := o_shr (gd h).1 (hk _ (gd h).2)
end
/-! ### sorted(set(pairs)) -/
def ltP2 (p q : Int × Int) : Prop := p.1 < q.1 ∨ (p.1 = q.1 ∧ p.2 < q.2)
instance {p q : Int × Int} : Decidable (ltP2 p q) := inferInstanceAs (Decidable (_ ∨ _))
def insU (p : Int × Int) : List (Int × Int) → List (Int × Int)
  | [] => [p]
  | q :: r => if p = q then q :: r else if ltP2 p q then p :: q :: r else q :: insU p r
def sortU : List (Int × Int) → List (Int × Int)
  | [] => []
  | p :: r => insU p (sortU r)
theorem ltP2_irr (p : Int × Int) : ¬ ltP2 p p := by unfold ltP2; omega
theorem ltP2_asy {p q : Int × Int} (h : ltP2 p q) : ¬ ltP2 q p := by unfold ltP2 at *; omega
theorem ltP2_tr {p q r : Int × Int} (h : ltP2 p q) (g : ltP2 q r) : ltP2 p r := by unfold ltP2 at *; omega
theorem ltP2_tot {p q : Int × Int} (h : p ≠ q) (g : ¬ ltP2 p q) : ltP2 q p := by
  unfold ltP2 at *
  have : p.1 ≠ q.1 ∨ p.2 ≠ q.2 := by
    by_cases a : p.1 = q.1
    · right; exact fun b => h (Prod.ext a b)
    · left; exact a
  omega
theorem mem_insU {p x : Int × Int} : ∀ {l : List (Int × Int)}, x ∈ insU p l ↔ x = p ∨ x ∈ l
  | [] => by simp [insU]
  | q :: r => by
    unfold insU
    by_cases a : p = q
    · rw [if_pos a]; subst a; simp
    · rw [if_neg a]
      by_cases b : ltP2 p q
      · rw [if_pos b]; simp
      · rw [if_neg b, List.mem_cons, mem_insU, List.mem_cons]
        constructor
        · rintro (h | h | h)
          · exact .inr (.inl h)
          · exact .inl h
          · exact .inr (.inr h)
        · rintro (h | h | h)
          · exact .inr (.inl h)
          · exact .inl h
          · exact .inr (.inr h)
theorem mem_sortU {x : Int × Int} : ∀ {l : List (Int × Int)}, x ∈ sortU l ↔ x ∈ l
  | [] => by simp [sortU]
  | p :: r => by rw [sortU, mem_insU, mem_sortU, List.mem_cons]
theorem srt_insU {p : Int × Int} : ∀ {l : List (Int × Int)}, l.Pairwise ltP2 → (insU p l).Pairwise ltP2
  | [], _ => by unfold insU; simp
  | q :: r, h => by
    have h1 := List.pairwise_cons.mp h
    unfold insU
    by_cases a : p = q
    · rw [if_pos a]; exact h
    · rw [if_neg a]
      by_cases b : ltP2 p q
      · rw [if_pos b]
        exact List.pairwise_cons.mpr ⟨fun x hx => by
          rcases List.mem_cons.mp hx with e | e
          · rw [e]; exact b
          · exact ltP2_tr b (h1.1 x e), h⟩
      · rw [if_neg b]
        exact List.pairwise_cons.mpr ⟨fun x hx => by
          rcases mem_insU.mp hx with e | e
          · rw [e]; exact ltP2_tot a b
          · exact h1.1 x e, srt_insU h1.2⟩
theorem srt_sortU : ∀ {l : List (Int × Int)}, (sortU l).Pairwise ltP2
  | [] => by simp [sortU]
  | p :: r => by rw [sortU]; exact srt_insU srt_sortU
theorem srt_uniq : ∀ {l m : List (Int × Int)}, l.Pairwise ltP2 → m.Pairwise ltP2 → (∀ x, x ∈ l ↔ x ∈ m) → l = m
  | [], [], _, _, _ => rfl
  | [], b :: m, _, _, h => by have := (h b).mpr List.mem_cons_self; simp at this
  | a :: l, [], _, _, h => by have := (h a).mp List.mem_cons_self; simp at this
  | a :: l, b :: m, h1, h2, h => by
    have p1 := List.pairwise_cons.mp h1
    have p2 := List.pairwise_cons.mp h2
    have e : a = b := by
      rcases List.mem_cons.mp ((h a).mp List.mem_cons_self) with e | e
      · exact e
      · rcases List.mem_cons.mp ((h b).mpr List.mem_cons_self) with g | g
        · exact g.symm
        · exact absurd (p2.1 a e) (ltP2_asy (p1.1 b g))
    subst e
    rw [srt_uniq p1.2 p2.2 fun x => ⟨fun hx => by
      rcases List.mem_cons.mp ((h x).mp (List.mem_cons_of_mem _ hx)) with q | q
      · subst q; exact absurd (p1.1 _ hx) (ltP2_irr _)
      · exact q, fun hx => by
      rcases List.mem_cons.mp ((h x).mpr (List.mem_cons_of_mem _ hx)) with q | q
      · subst q; exact absurd (p2.1 _ hx) (ltP2_irr _)
      · exact q⟩]
theorem code2 {B x y : Int} : TS.code B [x, y] = x * B + y := by
  have e1 : B ^ 1 = B := Int.pow_one B
  have e0 : B ^ 0 = 1 := Int.pow_zero B
  show x * B ^ 1 + (y * B ^ 0 + 0) = x * B + y
  rw [e1, e0, Int.mul_one, Int.add_zero]
theorem code_lt {B : Int} {p q : Int × Int} (hp : 0 ≤ p.2 ∧ p.2 < B) (hq : 0 ≤ q.2 ∧ q.2 < B) (ne : p ≠ q) (h : TS.code B [p.1, p.2] ≤ TS.code B [q.1, q.2]) : ltP2 p q := by
  rw [code2, code2] at h
  unfold ltP2
  rcases Int.lt_trichotomy p.1 q.1 with c | c | c
  · exact .inl c
  · refine .inr ⟨c, ?_⟩
    have : p.2 ≠ q.2 := fun e => ne (Prod.ext c e)
    rw [c] at h
    omega
  · have : (q.1 + 1) * B ≤ p.1 * B := Int.mul_le_mul_of_nonneg_right (by omega) (by omega)
    rw [Int.add_mul] at this
    omega
theorem bound_of : ∀ rows : List (Int × Int), ∃ B : Int, 0 < B ∧ ∀ p ∈ rows, p.1 < B ∧ p.2 < B
  | [] => ⟨1, by decide, fun p h => by simp at h⟩
  | q :: r => by
    obtain ⟨B, h0, h⟩ := bound_of r
    refine ⟨B + (if 0 ≤ q.1 then q.1 else 0) + (if 0 ≤ q.2 then q.2 else 0) + 1, by split <;> split <;> omega, fun p hp => ?_⟩
    rcases List.mem_cons.mp hp with e | e
    · rw [e]; split <;> split <;> omega
    · have := h p e; split <;> split <;> omega
abbrev ipD : Int × Int → Dat := pairD Dat.int Dat.int
abbrev ipL (p : Int × Int) : List Int := [p.1, p.2]
theorem pairs_refs {K : PySem.W.Frag} {G : Hp} : ∀ {rows : List (Int × Int)} {vs : List V}, DenL K G (rows.map ipD) vs → ∃ ks : List (Addr × List Int), vs = ks.map (fun p => V.ref p.1) ∧ ks.map (·.2) = rows.map ipL ∧ ∀ p ∈ ks, G p.1 = some (.tup (p.2.map V.int))
  | [], vs, h => ⟨[], by rw [h.nil_inv]; rfl, rfl, fun p hp => by simp at hp⟩
  | (x, y) :: rows, vs, h => by
    obtain ⟨v, r, rfl, hv, hr⟩ := h.cons_inv
    obtain ⟨ks, e1, e2, e3⟩ := pairs_refs hr
    obtain ⟨b, us, rfl, g, dl⟩ := hv.tup_inv
    obtain ⟨u1, r1, rfl, h1, dl⟩ := dl.cons_inv
    obtain ⟨u2, r2, rfl, h2, dl⟩ := dl.cons_inv
    rw [dl.nil_inv, h1.int_inv, h2.int_inv] at g
    refine ⟨(b, [x, y]) :: ks, by rw [e1]; rfl, by rw [List.map_cons, e2]; rfl, fun p hp => ?_⟩
    rcases List.mem_cons.mp hp with e | e
    · rw [e]; exact g
    · exact e3 p e
theorem refs_pairs {K : PySem.W.Frag} {G : Hp} : ∀ {rows : List (Int × Int)} {ks : List (Addr × List Int)}, ks.map (·.2) = rows.map ipL → (∀ p ∈ ks, G p.1 = some (.tup (p.2.map V.int))) → DenL K G (rows.map ipD) (ks.map fun p => V.ref p.1)
  | [], [], _, _ => .nil
  | [], _ :: _, h, _ => by simp at h
  | _ :: _, [], h, _ => by simp at h
  | (x, y) :: rows, (b, l) :: ks, h, g => by
    rw [List.map_cons, List.map_cons] at h
    injection h with h1 h2
    have g1 := g (b, l) List.mem_cons_self
    have h1 : l = [x, y] := h1
    rw [h1] at g1
    exact .cons (den_tup (ds := [.int x, .int y]) g1 (.cons den_int (.cons den_int .nil))) (refs_pairs h2 fun p hp => g p (List.mem_cons_of_mem _ hp))
section
variable {X : Cx} {T : Bool} {τ : TEnv} {M : Mem} {P : PK'} {E : XKx} {e : Expr} {p1 p2 pos1 pos2 : Pos}
theorem ex_srtSet (hm1 : X.mg "sorted" = none) (hm2 : X.mg "set" = none) (h : EX X T e τ M (fun d M1 => ∃ rows : List (Int × Int), d = lstD ipD rows ∧ (rows.length < 64 ∧ ∀ p ∈ rows, 0 ≤ p.1 ∧ 0 ≤ p.2) ∧ P (lstD ipD (sortU rows)) M1) E) (hu : X.A.units + 64 < cLine) (hc : X.calm = true := by rfl)
    (hg1 : Gl X "sorted" := by rfl) (hg2 : Gl X "set" := by rfl) (he1 : starEach [.Call (.Name "set" p2) [e] [] pos2] X.env = (false, eval (.Call (.Name "set" p2) [e] [] pos2) X.env) :: starEach [] X.env := by rfl) (he2 : starEach [e] X.env = (false, eval e X.env) :: starEach [] X.env := by rfl)
    (hp1 : (backTo pos1 (starEach [] X.env)).any (·.1) = false := by rfl) (hp2 : (backTo pos2 (starEach [] X.env)).any (·.1) = false := by rfl) :
    EX X T (.Call (.Name "sorted" p1) [.Call (.Name "set" p2) [e] [] pos2] [] pos1) τ M P E := by
  refine .mk ?_; intro W tk σ G H hE hH Q hP hX pins s k I
  have hA : tWA X T [.Call (.Name "set" p2) [e] [] pos2] σ H (fun vs H1 => rSortedT X.K X.prog X.w vs H1 Q) := by
    refine wa_cons (Q := fun vs H1 => rSortedT X.K X.prog X.w vs H1 Q) he1 ?_
    intro pins s k I
    have hB : tWA X T [e] σ H (fun vs H1 => rSetOfT X.K X.prog X.w vs H1 (fun x H2 => tWA X T [] σ H2 fun xs H3 => rSortedT X.K X.prog X.w (x :: xs) H3 Q)) := by
      refine wa_cons (Q := fun vs H1 => rSetOfT X.K X.prog X.w vs H1 (fun x H2 => tWA X T [] σ H2 fun xs H3 => rSortedT X.K X.prog X.w (x :: xs) H3 Q)) he2 ?_
      refine h.run W tk σ G H hE hH _ ?_ hX
      intro d M1 v G1 H1 ⟨rows, ed, ⟨hl, hnn⟩, hp⟩ s1 h1 dv
      subst ed
      refine tWA_of pa_nil ?_
      obtain ⟨l, vs, rfl, ga, da⟩ := dv.lst_inv
      obtain ⟨ks, rfl, e2, e3⟩ := pairs_refs da
      have hlen : ks.length = rows.length := by have := congrArg List.length e2; simpa using this
      refine ⟨l, ks, rfl, h1.sub.seq (SqL.of ga), fun p hp => SqT.of (h1.sub _ _ (e3 p hp)), by omega, fun a L ha hL1 hL2 => ?_⟩
      refine tWA_of pa_nil ?_
      obtain ⟨B, hB0, hB⟩ := bound_of rows
      have form : ∀ p ∈ ks, ∃ r ∈ rows, p.2 = ipL r := fun p hp => by
        have : p.2 ∈ ks.map (·.2) := List.mem_map_of_mem hp
        rw [e2] at this
        obtain ⟨r, hr, e⟩ := List.mem_map.mp this
        exact ⟨r, hr, e.symm⟩
      obtain ⟨sA, hA⟩ := Stp.new (o := SetTO X.prog X.w a L) h1 ha
      refine ⟨a, L, 2, B, rfl, upd_same, fun p hp => SqT.of (hA.sub _ _ (sA.gg _ _ (e3 p (hL1 p hp)))), by decide, fun p hp => ?_, fun L' q pm nd hf pw hq => ?_⟩
      · obtain ⟨r, hr, e⟩ := form p (hL1 p hp)
        rw [e]
        refine ⟨rfl, fun m hm => ?_⟩
        have b1 := hB r hr
        have b2 := hnn r hr
        simp at hm
        rcases hm with rfl | rfl <;> omega
      · obtain ⟨sB, hBB⟩ := Stp.new (o := .lst (L'.map fun q => V.ref q.1)) hA hq
        have hin : ∀ p ∈ L', p ∈ ks := fun p hp => hL1 p (pm.mem_iff.mp hp)
        have hr2 : ∃ rows' : List (Int × Int), L'.map (·.2) = rows'.map ipL ∧ ∀ r ∈ rows', r ∈ rows := by
          clear pm nd hf pw hq sB hBB
          induction L' with
          | nil => exact ⟨[], rfl, fun r h => by simp at h⟩
          | cons p L' ih =>
            obtain ⟨rs, f1, f2⟩ := ih fun p hp => hin p (List.mem_cons_of_mem _ hp)
            obtain ⟨r, hr, e⟩ := form p (hin p List.mem_cons_self)
            exact ⟨r :: rs, by rw [List.map_cons, List.map_cons, f1, e], fun x hx => by
              rcases List.mem_cons.mp hx with g | g
              · rw [g]; exact hr
              · exact f2 x g⟩
        obtain ⟨rows', f1, f2⟩ := hr2
        have inj : ∀ x y : Int × Int, ipL x = ipL y → x = y := fun x y e => by
          injection e with a b; injection b with b _; exact Prod.ext a b
        have nd' : rows'.Nodup := by
          rw [f1] at nd
          exact List.Pairwise.of_map ipL (fun _ _ h e => h (by rw [e])) nd
        have pw' : rows'.Pairwise ltP2 := by
          have pw2 : (L'.map (·.2)).Pairwise (fun u v => TS.code B u ≤ TS.code B v) := List.pairwise_map.mpr pw
          rw [f1] at pw2
          have pw3 := List.pairwise_map.mp pw2
          refine (List.pairwise_iff_forall_sublist.mpr ?_)
          intro x y hs
          have hx : x ∈ rows' := hs.subset (by simp)
          have hy : y ∈ rows' := hs.subset (by simp)
          have ne : x ≠ y := fun e => by
            subst e
            have := nd'.sublist hs
            simp at this
          have c := List.pairwise_iff_forall_sublist.mp pw3 hs
          have bx := hB x (f2 x hx); have by' := hB y (f2 y hy)
          have nx := hnn x (f2 x hx); have ny := hnn y (f2 y hy)
          exact code_lt ⟨nx.2, bx.2⟩ ⟨ny.2, by'.2⟩ ne c
        have same : rows' = sortU rows := srt_uniq pw' srt_sortU fun x => by
          rw [mem_sortU]
          refine ⟨f2 x, fun hx => ?_⟩
          have h1 : ipL x ∈ ks.map (·.2) := by rw [e2]; exact List.mem_map_of_mem hx
          obtain ⟨p, hp, e⟩ := List.mem_map.mp h1
          have h2 : p.2 ∈ L.map (·.2) := hL2 p hp
          obtain ⟨p', hp', e'⟩ := List.mem_map.mp h2
          have h3 : p'.2 ∈ L'.map (·.2) := List.mem_map_of_mem (pm.mem_iff.mpr hp')
          rw [f1] at h3
          obtain ⟨z, hz, ez⟩ := List.mem_map.mp h3
          have : z = x := inj _ _ (by rw [ez, e', e])
          rw [← this]; exact hz
        rw [← same] at hp
        exact hP _ _ _ _ _ hp ((s1.trans sA).trans sB) hBB (den_lst upd_same (refs_pairs f1 fun p hp => sB.gg _ _ (sA.gg _ _ (e3 p (hin p hp)))))
    refine wpAny_Call_Name_kw (ld_blt I hg2 hm2 PyProof.Rows.Boot.«set» ?_ (by decide) (by decide))
    exact PyProof.Rows.callWith_type1 (thn (hB pos2 pins s k I) fun us s1 ⟨vs, H1, I1, r1, q1⟩ => cr_setOfT hc hu pins s1 σ H1 vs us _ I1 r1 q1) he2 hp2
  refine wpAny_Call_Name_kw (ld_blt I hg1 hm1 PyProof.Rows.Boot.«sorted» ?_ (by decide) (by decide))
  exact PyProof.Rows.callWith_builtin1 (thn (hA pos1 pins s k I) fun us s1 ⟨vs, H1, I1, r1, q1⟩ => cr_sortedT hc pins s1 σ H1 vs us Q I1 r1 q1) he1 hp1
end
/-! ### for x in an instance whose __iter__ gives iter(a tuple of its own) -/
def itTObj (t : Addr) : Obj := { cls := .type "tuple_iterator", data := .fields #[.ref t, .int 0 0] }
def TItO (t it : Addr) : HO := .ext fun h => h.get? it = some (itTObj t)
theorem titO_ok {P : Program} {w : World} {H : Hp} {h : Heap} {t it : Addr} (e : h.get? it = some (itTObj t)) : ObjOk P w H h it (TItO t it) := ⟨e, ⟨_, e⟩, fun h1 h2 q k => k _ q⟩
theorem call_iterT {prog : Program} {w : World} {A : Around} {E : Value → Shared → Prop} {s : Shared} {t : Addr} {items : Array Value} {Q : Value → Shared → Prop} (ht : s.heap.IsTuple t items) (h : Q (.ref s.heap.objs.size) { s with heap := s.heap.push (itTObj t) }) : wpAny (model prog w) A (call (.builtin "iter") [.ref t]) Q E s := by
  refine Calls.call_function_entry (by decide +kernel) (by decide +kernel) PySem.W.kdk_entry_iter (PySem.W.kdk_args_iter _) ?_
  unfold Builtin.«iter»
  refine wpAny_bind (m := someArgs "iter" 1 2 _) (wpAny_of_eq (a := [Value.ref t]) (by first | rfl | kernel_rfl!) ?_)
  show wpAny _ _ (pyIter (.ref t) >>= _) _ _ _
  refine wpAny_bind (wpAny_pyIter_tuple ht ?_)
  exact wpAny_pure ⟨_, rfl, h⟩
def rIterT (K : PySem.W.Frag) (n : Nat) : List V → Hp → VK → Prop := fun xs H Q => ∃ (l : Addr) (zs : List V), xs = [.ref l] ∧ SqT K H l zs ∧ ∀ it, H it = Option.none → n ≤ it → Q (.ref it) (upd H it (TItO l it))
theorem cr_iterT {X : Cx} : CallR X (.builtin "iter") (rIterT X.K X.s_0.heap.objs.size) := by
  intro pins s σ H xs us Q I r h
  obtain ⟨l, zs, rfl, hq, q⟩ := h
  cases r with
  | cons r1 rr =>
    cases rr
    cases r1
    obtain ⟨its, rv, pl, hz⟩ := I.tuple hq
    refine call_iterT (show s.heap.IsTuple l its.toArray from pl) ?_
    exact ⟨.ref s.heap.objs.size, _, I.laid (t' := s.toks) (fun b u e => Heap.get?_push_of_some _ e) (Nat.le_refl _) (titO_ok (Heap.get?_push_size _ rfl)), rfl, q _ (I.hok.fresh (Nat.le_refl _)) I.sz⟩
theorem body_itT {X : Cx} {σ : L2.St} {H : Hp} {Q : VK} {a C dx : Addr} {fs : List (Str × V)} {nf : Str} {l : Addr} {zs : List V} {p1 p2 p3 p4 : Pos} (hN : X.N[0]? = some ("self" : Str)) (hvis : Vis X.env.scope "self") (hs : σ[0]? = some (some (.ref a))) (ha : H a = some (.ins C dx fs)) (hc : Cls X.K C) (hn : NoAttr X.K C nf) (hl : fs.lookup nf = some (.ref l)) (hz : SqT X.K H l zs)
    (hg : Gl X "iter") (hm : X.mg "iter" = none) (hQ : ∀ it, H it = none → X.s_0.heap.objs.size ≤ it → Q (.ref it) (upd H it (TItO l it)))
    (hab : attributeBase (.Name "self" p2) nf X.env (eval (.Name "self" p2) X.env) = eval (.Name "self" p2) X.env := by rfl) : tW X false (.Call (.Name "iter" p1) [.Attribute (.Name "self" p2) nf p3] [] p4) σ H Q := fun pins s k I => by
  have hA : tWA X false [.Attribute (.Name "self" p2) nf p3] σ H (fun vs H1 => rIterT X.K X.s_0.heap.objs.size vs H1 Q) :=
    wa_cons rfl (v_fld hab (tW_of (pe_var hN hvis (by decide) (by decide)) ⟨_, hs, a, C, dx, fs, .ref l, rfl, ha, hc, hn, hl, tWA_of pa_nil ⟨l, zs, rfl, hz, hQ⟩⟩))
  refine wpAny_Call_Name_kw (ld_blt I hg hm (show bootBuiltins "iter" = some (.builtin "iter") from by decide +kernel) ?_ (by decide) (by decide))
  exact PyProof.Rows.callWith_builtin1 (thn (hA p4 pins s k I) fun us s1 ⟨vs, H1, I1, r1, q1⟩ => cr_iterT pins s1 σ H1 vs us Q I1 r1 q1) rfl rfl
/-- for x in o, [.. for x in o], o an instance -/
theorem ei_ownT {X : Cx} {tg e : Expr} {τ : TEnv} {M : Mem} {E : XKx} {PI' : List Dat → Mem → (Mem → Prop) → Prop} {C fa : Addr} {fd : FuncData} {qual nf : Str} {st : Stmt} {N : List Str} {p1 p2 p3 p4 p5 : Pos}
    (F : Fun X.K "__iter__" qual st fa fd) (Sc : FnScope N ["self"] (defScope st)) (hbd : defBody st = [.Return (some (.Call (.Name "iter" p1) [.Attribute (.Name "self" p2) nf p3] [] p4)) p5]) (mt : Meth X.K C "__iter__" fa) (hcl : Cls X.K C) (hna : NoAttr X.K C nf) (hm : X.mg "iter" = none) (hr : Room 1 X.A) (hb : Binds X.K fd ["self"] [])
    (hN : N[0]? = some ("self" : Str)) (hvis : Vis (defScope st) "self") (hg : ∀ cdv s H, Gl (cxOf (L2.CX X.prog X.w) X.prog X.w X.K X.mg X.base N qual (defScope st) fa cdv X.A X.stack s H (fun _ _ _ => False)) "iter")
    (h : EX X false e τ M (fun d M1 => ∃ ds, d = .obj C [nf] [.tup ds] ∧ PI' ds M1 anyM) E) : EI X tg e τ M PI' E := .mk fun W tk σ G H hE hH R hR hX pins s _ I => by
  have hO := h.run W tk σ G H hE hH (fun v H1 => ∃ a dx z zs, v = .ref a ∧ H1 a = some (.ins C dx [(nf, .ref z)]) ∧ SqT X.K H1 z zs ∧ R (Itt X.K z) H1) (fun d M1 v G1 H1 ⟨ds, ed, hp⟩ s1 h1 dv => by
    subst ed
    obtain ⟨a, dx, vs, rfl, g1, g2, g3⟩ := dv.obj_inv
    obtain ⟨u, rfl, d1⟩ := one_inv g3
    obtain ⟨z, us, rfl, gz, dz⟩ := d1.tup_inv
    exact ⟨a, dx, z, us, rfl, h1.sub _ _ g1, SqT.of (h1.sub _ _ gz), hR _ _ _ _ _ _ hp s1 h1 (walkD_tup (SqT.of gz) dz)⟩) hX
  refine thn (hO pins s tk_f I) fun v s1 ⟨x, H1, I1, r1, a, dx, z, zs, ex, ea, hz, q⟩ => ?_
  subst ex
  obtain rfl : v = Value.ref a := r1
  obtain ⟨mA, J, _⟩ := ins_get I1.hok ea
  obtain ⟨od, J, _⟩ := J.look
  obtain ⟨m, hF⟩ := I1.fr
  obtain ⟨oc, od2, kV, doc, pm, an, cdv, ct, osl, rfl, lk, hcd⟩ := F.ex
  refine PySem.W.owit_iter hF I1.ok.mod.kin J mt.1 mt.2 ?_
  have hbb := hb s1 [.ref a] I1.kIn rfl
  rw [List.append_nil] at hbb
  refine wpAny_call (codeAny_mono (run_w (CX := L2.CX X.prog X.w) (k := 0) (Q := fun v H' => ∃ it, v = .ref it ∧ H1 it = none ∧ s1.heap.objs.size ≤ it ∧ H' = upd H1 it (TItO z it)) (E := fun _ _ _ => False) (vs := [.ref a]) lk hcd Sc hr I1.env0 hbb (.cons rfl .nil) rfl ?_) fun r s' hq => ?_)
  · rw [hbd]
    refine ws_step' (s_ret ?_)
    refine body_itT hN hvis rfl ea hcl hna (by rw [List.lookup_cons, beq_self_eq_true]) hz (hg _ _ _) hm fun it h1 h2 => ⟨it, rfl, h1, h2, rfl⟩
  · cases r with
    | error e => exact (takes0 (X := X)) e s' (XE.of_call (W := fun _ _ _ _ => False) I1 (fun cls d H' h => h) hq)
    | ok fl =>
      cases fl with
      | next => exact False.elim hq
      | brk => exact False.elim hq
      | cont => exact False.elim hq
      | ret u =>
        obtain ⟨v', H', I', rv, it, ev, hfr, hge, eH⟩ := I1.after hq
        subst ev
        obtain rfl : u = Value.ref it := rv
        subst eH
        obtain ⟨ho, _⟩ := (I'.hok it _ upd_same : ObjOk X.prog X.w _ s'.heap it (TItO z it))
        have st0 : s'.heap.IsTupleIter it z 0 := ⟨_, ho, rfl, rfl⟩
        have hfin : PIE X pins σ tg R (.ref it) s' := ⟨it, [it], _, Itt X.K z, H1, rfl, by
          have := ItX.inv_drop I' (show (upd H1 it (TItO z it)) it = some (.ext _) from upd_same)
          rwa [ItX.dropH_upd hfr] at this, turn_tuple z it, st0, fun b hb => by
          have e : b = it := by simpa using hb
          subst e
          have := ItX.inv_fp I' (show (upd H1 b (TItO z b)) b = some _ from upd_same) (Nat.le_trans I1.sz hge)
          rwa [ItX.dropH_upd hfr] at this, q⟩
        show PySem.W.OwitIt _ _ _ _ (.ref it) s'
        unfold PySem.W.OwitIt
        have hT : s'.TypeIs (.ref it) "tuple_iterator" := ⟨_, ho, rfl⟩
        exact wpAny_specialOf (name := Str.ofString "__next__") hT PySem.F.slot_tuple_iterator_next.lookup hfin
end Kh

set_option Elab.async false
set_option linter.all false
set_option maxRecDepth 100000
set_option maxHeartbeats 1000000
namespace Kh
open PySem PySem.Spec L2
/-! ### [y for x in e for y in x] -/
def iFam1 (X : Cx) (scope : Scope) (tg1 iter1 : Expr) : TI := fun σ H R => ∀ (s : Shared) (H0 : Hp) (C : Addr) (cl : List (Str × Addr)) (fp : List Addr), tWI (Cx.Bk X scope s H0 C cl fp) false tg1 iter1 σ H R
theorem pi_fam {X : Cx} {scope : Scope} {tg1 iter1 : Expr} (s : Shared) (H0 : Hp) (C : Addr) (cl : List (Str × Addr)) (fp : List Addr) : PI (Cx.Bk X scope s H0 C cl fp) tg1 iter1 (iFam1 X scope tg1 iter1) := ⟨fun pins s' σ H' R I q => q s H0 C cl fp pins s' tk_f I⟩
section
variable {X : Cx} {T : Bool} {tg iter elt tg1 iter1 : Expr} {τ : TEnv} {M : Mem} {E : XKx} {pos : Pos} {vs vs1 : List Nat} {P : PK'}
theorem flat_read {scope : Scope} (hi : EI X tg iter τ M (fun ds M1 Ok => ∃ xss : List (List Dat), ds = xss.map Dat.lst ∧ xss.flatten.length ≤ sizeLine ∧ Ok M1 ∧ P (.lst xss.flatten) M1 ∧
      ∀ (ds : List Dat) (s : Shared) (H : Hp) (C : Addr) (cl : List (Str × Addr)) (fp : List Addr), GC (Cx.Bk X scope s H C cl fp) vs tg (.lst ds) (wipeT τ vs) M1 (fun τ2 M2 => M2 = M1 ∧
        (∀ (s : Shared) (H : Hp) (C : Addr) (cl : List (Str × Addr)) (fp : List Addr), EI (Cx.Bk X scope s H C cl fp) tg1 iter1 τ2 M1 (fun ds' M3 Ok => ds' = ds ∧ M3 = M1 ∧ Ok M1) E0') ∧
        ∀ (d : Dat) (s : Shared) (H : Hp) (C : Addr) (cl : List (Str × Addr)) (fp : List Addr), GC (Cx.Bk X scope s H C cl fp) vs1 tg1 d (wipeT τ2 vs1) M1 (fun τ3 M4 => M4 = M1 ∧
          ∀ (s : Shared) (H : Hp) (C : Addr) (cl : List (Str × Addr)) (fp : List Addr), EX (Cx.Bk X scope s H C cl fp) false elt τ3 M1 (fun y M5 => y = d ∧ M5 = M1) E0'))) E)
    {W : WX} (tk : Takes X W) {σ : L2.St} {G H : Hp} (hE : DenE X.K τ G σ) (hH : Hst X.K G M H) {Q : VK} (hP : CE' X.K G M H P Q) (hX : CX' X.K G M H E (fun c d H2 => W c d σ H2)) :
    tLc2 (tWI X false tg iter) (gFam X scope tg) (iFam X scope []) (iFam1 X scope tg1 iter1) (gFam X scope tg1) (iFam X scope []) (eFam X scope elt) vs vs1 σ H Q := by
  refine hi.run W tk σ G H hE hH _ ?_ hX
  intro J ds M1 G1 H1 Ok ⟨xss, ed, hz, hOk, hp, hb⟩ s1 h1 w D hD
  subst ed
  have hDH : ∀ b o, b ∉ adr M → H b = some o → b ≠ D := fun b o n e z => by rw [← z, s1.hh b o n e] at hD; cases hD
  let Pv : List Dat → Hp → Prop := fun acc H' => ∃ aV G', Hst X.K G' M1 H' ∧ Stp G M H G' M1 H' ∧ Same G1 G' ∧ H' D = some (.lst aV) ∧ DenL X.K G' acc aV ∧ G' D = none ∧ D ∉ adr M1
  have laid : ∀ {G' H' : Hp} {xs : List V}, Hst X.K G' M1 H' → G' D = none → D ∉ adr M1 → Hst X.K G' M1 (upd H' D (.lst xs)) := fun {G' H' xs} h g n =>
    ⟨fun b o e => by rw [upd_ne (fun z => by rw [z, g] at e; cases e)]; exact h.sub b o e, fun c hc => (h.mem c hc).up (Same.refl _) fun b hb o e => by rw [upd_ne (fun z => n (by rw [← z]; exact List.mem_flatMap.mpr ⟨c, hc, hb⟩))]; exact e, h.out, h.nd⟩
  have stp : ∀ {G' H' : Hp} {xs : List V}, Stp G M H G' M1 H' → Stp G M H G' M1 (upd H' D (.lst xs)) := fun {G' H' xs} s =>
    ⟨s.gg, fun b o n e => by rw [upd_ne (hDH b o n e)]; exact s.hh b o n e, s.fr, s.ad⟩
  have n0 : D ∉ adr M1 := fun z => h1.there D z hD
  have g0 : G1 D = none := h1.sub.free hD
  have len : (xss.map Dat.lst).length = xss.length := List.length_map _
  refine ⟨fun i m H' => m = xss.length - i ∧ i ≤ xss.length ∧ Pv (xss.take i).flatten H', ⟨_, rfl, Nat.zero_le _, [], G1, laid h1 g0 n0, stp s1, Same.refl _, upd_same, .nil, g0, n0⟩, ?_⟩
  rintro i m H' ⟨rfl, hle, aV, G', h', s', g', hDl, hda, hg', hn'⟩
  obtain ⟨w1, w2, w3⟩ := w G' M1 H' g' h' hOk
  rw [len] at w1 w2 w3
  have thru : ∀ {G0 H0 G2 H2 : Hp} {aV : List V} {acc : List Dat}, H0 D = some (.lst aV) → DenL X.K G0 acc aV → G0 D = none → Stp G0 M1 H0 G2 M1 H2 → H2 D = some (.lst aV) ∧ DenL X.K G2 acc aV ∧ G2 D = none := fun {G0 H0 G2 H2 aV acc} a1 a2 a3 s =>
    ⟨s.hh D _ hn' a1, a2.up s.gg, s.fr D (by rw [a1]; exact fun z => nomatch z) hn' a3⟩
  by_cases hlt : i < xss.length
  · refine .inr ⟨w1 i hlt, fun H2 => Pv (xss.take (i + 1)).flatten H2, fun H2 q => ⟨xss.length - (i + 1), by omega, rfl, hlt, q⟩, fun x H2 y => ?_⟩
    obtain ⟨G2, s2, h2, dx⟩ := w3 i x H2 hlt y
    have hd' : (xss.map Dat.lst)[i]? = some (.lst xss[i]) := by rw [List.getElem?_map, List.getElem?_eq_getElem hlt]; rfl
    have eW : DenE X.K (wipeT τ vs) G2 (wipe σ vs) := denE_wipe ((hE.up s'.gg).up s2.gg) vs
    intro sA HA CA clA fpA
    refine hb _ sA HA CA clA fpA (wipe σ vs) G2 H2 x eW h2 (dx _ hd') _ ?_
    rintro τ3 M3 G3 H3 σ3 ⟨rfl, pI, pG⟩ s3 h3 e3 l3 k3
    refine ⟨by rw [wipe_ext l3 k3, wipe_wipe], fun sB HB CB clB fpB => ?_⟩
    refine ef_nil (X := Cx.Bk X scope sB HB CB clB fpB) (P := fun b M4 => b = true ∧ M4 = M3) ⟨rfl, rfl⟩ σ3 G3 H3 e3 h3 _ ?_
    rintro bb M4 G4 H4 ⟨rfl, rfl⟩ s4 h4
    refine iteT fun sC HC CC clC fpC => ?_
    refine (pI sC HC CC clC fpC).run _ takes0 σ3 G4 H4 (e3.up s4.gg) h4 _ ?_ noX
    rintro J1 ds1 M5 G5 H5 Ok1 ⟨rfl, rfl, hOk1⟩ s5 h5 wi
    have s25 := ((s2.trans s3).trans s4).trans s5
    obtain ⟨t1, t2, t3⟩ := thru hDl hda hg' s25
    have e5 := (e3.up s4.gg).up s5.gg
    refine ⟨fun j k H' => k = (xss[i]).length - j ∧ j ≤ (xss[i]).length ∧ ∃ aV G', Hst X.K G' M5 H' ∧ Stp G M H G' M5 H' ∧ Same G5 G' ∧ H' D = some (.lst aV) ∧ DenL X.K G' ((xss.take i).flatten ++ (xss[i]).take j) aV ∧ G' D = none, ⟨_, rfl, Nat.zero_le _, aV, G5, h5, s'.trans s25, Same.refl _, t1, by rw [List.take_zero, List.append_nil]; exact t2, t3⟩, ?_⟩
    rintro j k H6 ⟨rfl, hjle, bV, G6, h6, s6, g6, hDl6, hda6, hg6⟩
    obtain ⟨u1, u2, u3⟩ := wi G6 M5 H6 g6 h6 hOk1
    by_cases hj : j < (xss[i]).length
    · refine .inr ⟨u1 j hj, fun H7 => ∃ aV G', Hst X.K G' M5 H7 ∧ Stp G M H G' M5 H7 ∧ Same G5 G' ∧ H7 D = some (.lst aV) ∧ DenL X.K G' ((xss.take i).flatten ++ (xss[i]).take (j + 1)) aV ∧ G' D = none, fun H7 q => ⟨(xss[i]).length - (j + 1), by omega, rfl, hj, q⟩, fun x7 H7 y7 => ?_⟩
      obtain ⟨G7, s7, h7, dx7⟩ := u3 j x7 H7 hj y7
      have hd7 := List.getElem?_eq_getElem hj
      have eW7 : DenE X.K (wipeT τ3 vs1) G7 (wipe σ3 vs1) := denE_wipe ((e5.up g6).up s7.gg) vs1
      intro sD HD CD clD fpD
      refine pG _ sD HD CD clD fpD (wipe σ3 vs1) G7 H7 x7 eW7 h7 (dx7 _ hd7) _ ?_
      rintro τ8 M8 G8 H8 σ8 ⟨rfl, pE⟩ s8 h8 e8 l8 k8
      refine ⟨by rw [wipe_ext l8 k8, wipe_wipe], fun sE HE CE clE fpE => ?_⟩
      refine ef_nil (X := Cx.Bk X scope sE HE CE clE fpE) (P := fun b M4 => b = true ∧ M4 = M8) ⟨rfl, rfl⟩ σ8 G8 H8 e8 h8 _ ?_
      rintro b9 M9 G9 H9 ⟨rfl, rfl⟩ s9 h9
      refine iteT fun sF HF CF clF fpF => ?_
      refine (pE sF HF CF clF fpF).run _ takes0 σ8 G9 H9 (e8.up s9.gg) h9 _ ?_ noX
      rintro y10 M10 v10 G10 H10 ⟨rfl, rfl⟩ s10 h10 d10
      have s710 := ((s7.trans s8).trans s9).trans s10
      obtain ⟨q1, q2, q3⟩ := thru hDl6 hda6 hg6 s710
      have ht : (xss[i]).take (j + 1) = (xss[i]).take j ++ [(xss[i])[j]] := by rw [List.take_succ, List.getElem?_eq_getElem hj]; rfl
      have hbl : bV.length < sizeLine := by
        rw [hda6.length, List.length_append, List.length_take]
        have e1 : xss.flatten = (xss.take i).flatten ++ ((xss[i]) ++ (xss.drop (i + 1)).flatten) := by
          rw [← List.flatten_cons, ← List.drop_eq_getElem_cons hlt, ← List.flatten_append, List.take_append_drop]
        rw [e1, List.length_append, List.length_append] at hz
        omega
      refine ⟨bV, q1, hbl, bV ++ [v10], G10, laid h10 q3 hn', stp (s6.trans s710), g6.trans s710.gg, upd_same, ?_, q3⟩
      rw [ht, ← List.append_assoc]
      exact q2.snoc d10
    · have ej : j = (xss[i]).length := by omega
      subst ej
      refine .inl ⟨u2, bV, G6, h6, s6, (g'.trans s25.gg).trans g6, hDl6, ?_, hg6, hn'⟩
      rw [List.take_length] at hda6
      have et : (xss.take (i + 1)).flatten = (xss.take i).flatten ++ xss[i] := by rw [List.take_succ, List.getElem?_eq_getElem hlt, List.flatten_append]; simp
      rw [et]; exact hda6
  · have e : i = xss.length := by omega
    subst e
    refine .inl ⟨w2, ?_⟩
    rw [List.take_length] at hda
    have up : Same G' (upd G' D (.lst aV)) := fun b o e => by rw [upd_ne (ne_of_none e hg')]; exact e
    have hF : Hst X.K (upd G' D (.lst aV)) M1 H' := ⟨fun b o e => by
      by_cases c : b = D
      · subst c; rw [upd_same] at e; cases e; exact hDl
      · rw [upd_ne c] at e; exact h'.sub b o e, fun c hc => (h'.mem c hc).up up fun _ _ _ e => e, fun b hb => by rw [upd_ne (fun z => hn' (by rw [← z]; exact hb))]; exact h'.out b hb, h'.nd⟩
    have sF : Stp G M H (upd G' D (.lst aV)) M1 H' := ⟨s'.gg.trans up, s'.hh, fun b hb n g => by
      rw [upd_ne (fun z => ?_)]
      · exact s'.fr b hb n g
      · cases q : H b with
        | none => exact hb q
        | some o => exact hDH b o n q z, s'.ad⟩
    exact hP _ _ _ _ _ hp sF hF (den_lst upd_same (hda.up up))
end
end Kh

set_option Elab.async false
set_option linter.all false
set_option maxRecDepth 100000
set_option maxHeartbeats 1000000
namespace Kh
open PySem PySem.Spec L2
open PySem.SeqAt PySem.MeetsSeq PySem.MeetsSeq2 PySem.MeetsSeq3 PySem.SeqRoads2
open PySem.AutoSeq1 (wpAny_loadPart')
/-! ### lists compared, whose items have an own == -/
section
variable {prog : Program} {w : World} {A : Around} {R : Result → Shared → Prop}
end
section
variable {prog : Program} {w : World} {A : Around} {E : Value → Shared → Prop} {s : Shared}
end
/-- items of a kind with an own ==, as they are compared inside a builtin -/
structure OwnEq (X : Cx) (α : Type) (f : α → Dat) (me : α → α → Res Bool) : Prop where
  el : ∀ x y, EqO X.prog X.w X.K X.mg X.base X.A.in1 (f x) (f y) (me x y)
  isR : ∀ x, isR (f x) = true
  inj : ∀ (G : Hp) x y a, Den X.K G (f x) (.ref a) → Den X.K G (f y) (.ref a) → x = y
  self : ∀ x, me x x = .ok true
section
variable {X : Cx} {T : Bool} {M : Mem} {P : PK'} {α : Type} {f : α → Dat} {me : α → α → Res Bool} {Q1 : Bool → Prop} {E1 : Er → Prop}
theorem LsD.up {K : PySem.W.Frag} {G H G' H' : Hp} {M : Mem} {d : Dat} {xs : List Dat} {a : Addr} (h : LsD M d xs) (hH : Hst K G M H) (hH' : Hst K G' M H') (s : Stp G M H G' M H') (dv : Den K G d (.ref a)) : ∃ vs, H' a = some (.lst vs) ∧ DenL K G' xs vs := by
  obtain ⟨a', vs, e, g1, g2⟩ := h.get hH' (dv.up s.gg)
  cases e
  exact ⟨vs, g1, g2⟩
end
end Kh

set_option Elab.async false
set_option linter.all false
set_option maxRecDepth 100000
set_option maxHeartbeats 1000000
namespace PySem.W
open Lean Elab Tactic Meta PySem PySem.Calls PyProof.Rows
/-! ### own operators with a right side of any other type -/
section
variable {prog : Program} {w : World} {M : Model} {A : Around} {E : Value → Shared → Prop} {s : Shared} {K : Frag} {x C L f : Addr} {h₀ : Heap} {m : Str → Option Value} {ox : Obj} {od : Option Obj} {nm T : String}
end
end PySem.W
namespace Kh
open PySem PySem.Spec L2
section
variable {X : Cx} {T : Bool} {τ : TEnv} {M : Mem} {P : PK'} {E : XKx} {a b e : Expr} {pos : Pos} {k : Nat} {fa C : Addr} {fd : FuncData} {ps : List Str} {S : Spc} {W : WX} {op : Operator} {cl : OK → Addr × List Str} {pr : OK → Bool}
end
end Kh

set_option Elab.async false
set_option linter.all false
set_option maxRecDepth 100000
set_option maxHeartbeats 1000000
namespace Kh
open PySem PySem.Spec L2
/-! ### a comprehension's list as a cell -/
section
variable {X : Cx} {T : Bool} {tg iter elt e a b c : Expr} {τ : TEnv} {M : Mem} {E : XKx} {pos p : Pos} {vs : List Nat} {P : PK'}
end
section
variable {X : Cx} {T : Bool} {tg iter elt : Expr} {τ : TEnv} {M : Mem} {pos : Pos} {P : PK'} {rest : List Stmt} {R : RK}
end
/-! ### tuple(a list that is told as data or as a cell) -/
section
variable {X : Cx} {M : Mem} {P : PK'} {α : Type}
end
end Kh

set_option Elab.async false
set_option linter.all false
set_option maxRecDepth 100000
set_option maxHeartbeats 1000000
namespace Kh
open PySem PySem.Spec L2
/-! ### not None, as it stands -/
section
variable {X : Cx} {T : Bool} {M : Mem} {P : PK'}
end
end Kh

set_option Elab.async false
set_option linter.all false
set_option maxRecDepth 100000
set_option maxHeartbeats 1000000
namespace Kh
open PySem PySem.Spec L2
open PySem.SeqAt (EqAt RcAt RcNeAt)
/-- a new list stands as a cell -/
theorem cell_new {K : PySem.W.Frag} {G H : Hp} {M : Mem} {p : Addr} {ds : List Dat} {vs : List V} (h1 : Hst K G M H) (hp' : H p = none) (dvs : DenL K G ds vs) : Stp G M H G ((p, .lst ds) :: M) (upd H p (.lst vs)) ∧ Hst K G ((p, .lst ds) :: M) (upd H p (.lst vs)) := by
  have nM : p ∉ adr M := fun z => h1.there p z hp'
  have ha : adr ((p, MC.lst ds) :: M) = p :: adr M := rfl
  have kp : ∀ b o, H b = some o → (upd H p (.lst vs)) b = some o := fun b o e => by rw [upd_ne (ne_of_none e hp')]; exact e
  refine ⟨⟨Same.refl _, fun b o _ e => kp b o e, fun _ _ _ g => g, fun b hb => ?_⟩, ⟨fun b o e => kp b o (h1.sub b o e), fun c hc => ?_, fun b hb => ?_, ?_⟩⟩
  · rw [ha] at hb
    rcases List.mem_cons.mp hb with rfl | hb
    · exact .inr hp'
    · exact .inl hb
  · rcases List.mem_cons.mp hc with rfl | hc
    · exact ⟨vs, upd_same, dvs⟩
    · exact (h1.mem c hc).up (Same.refl _) fun b hb o e => kp b o e
  · rw [ha] at hb
    rcases List.mem_cons.mp hb with rfl | hb
    · exact h1.sub.free hp'
    · exact h1.out b hb
  · rw [ha]
    exact List.nodup_cons.mpr ⟨nM, h1.nd⟩
section
variable {X : Cx} {T : Bool} {M : Mem} {P : PK'}
end
end Kh

set_option Elab.async false
set_option linter.all false
set_option maxRecDepth 100000
set_option maxHeartbeats 1000000
namespace Kh
open PySem PySem.Spec L2
/-! ### [y for x in e for y in x] as a value -/
def FlatQ (X : Cx) (scope : Scope) (vs vs1 : List Nat) (tg tg1 iter1 elt : Expr) (τ : TEnv) (P : PK') : List Dat → Mem → (Mem → Prop) → Prop := fun ds M1 Ok => ∃ xss : List (List Dat), ds = xss.map Dat.lst ∧ xss.flatten.length ≤ sizeLine ∧ Ok M1 ∧ P (.lst xss.flatten) M1 ∧
      ∀ (ds : List Dat) (s : Shared) (H : Hp) (C : Addr) (cl : List (Str × Addr)) (fp : List Addr), GC (Cx.Bk X scope s H C cl fp) vs tg (.lst ds) (wipeT τ vs) M1 (fun τ2 M2 => M2 = M1 ∧
        (∀ (s : Shared) (H : Hp) (C : Addr) (cl : List (Str × Addr)) (fp : List Addr), EI (Cx.Bk X scope s H C cl fp) tg1 iter1 τ2 M1 (fun ds' M3 Ok => ds' = ds ∧ M3 = M1 ∧ Ok M1) E0') ∧
        ∀ (d : Dat) (s : Shared) (H : Hp) (C : Addr) (cl : List (Str × Addr)) (fp : List Addr), GC (Cx.Bk X scope s H C cl fp) vs1 tg1 d (wipeT τ2 vs1) M1 (fun τ3 M4 => M4 = M1 ∧
          ∀ (s : Shared) (H : Hp) (C : Addr) (cl : List (Str × Addr)) (fp : List Addr), EX (Cx.Bk X scope s H C cl fp) false elt τ3 M1 (fun y M5 => y = d ∧ M5 = M1) E0'))
def pflat {α : Type} (xss : List (List α)) : Res (List α) := guard (xss.flatten.length ≤ sizeLine) xss.flatten
section
variable {X : Cx} {T : Bool} {tg iter elt tg1 iter1 : Expr} {τ : TEnv} {M : Mem} {E : XKx} {pos : Pos} {P : PK'}
theorem ex_flat {scope : Scope} (own : List (Str × Nat)) (vs1 : List Nat) (h : EI X tg iter τ M (FlatQ X scope (own.map (·.2)) vs1 tg tg1 iter1 elt τ P) E) (hv : ∀ i ∈ vs1, i ∈ own.map (·.2) := by decide)
    (ok : BlkOk X.N X.env.scope scope own := by exact blkOk_by (by first | decide +kernel | kernel_rfl)) (hN : X.N.Nodup := by first | decide +kernel | exact of_decide_eq_true (by kernel_rfl)) (hc : X.calm = true := by rfl) (hs : ∀ x, foldedSetIterable iter X.env x = pure x := by intro _; rfl) (hs1 : ∀ env x, foldedSetIterable iter1 env x = pure x := by intro _ _; rfl) :
    EX X T (.ListComp elt [⟨tg, iter, [], 0⟩, ⟨tg1, iter1, [], 0⟩] scope pos) τ M P E := .mk fun W tk σ G H hE hH Q hP hX =>
  tW_of (pe_lc2 hc hN pi_W ok hv pg_fam pt_fam pi_fam pg_fam pt_fam pe_fam hs hs1) (flat_read h tk hE hH hP hX)
theorem flatT {α : Type} (f : α → Dat) {xss : List (List α)} {scope : Scope} {vs vs1 : List Nat} {Q : List α → Prop} {E1 : Er → Prop} {Ok : Mem → Prop} {M1 : Mem} (h : (pflat xss).Out Q E1) (hOk : Ok M1)
    (hb : ∀ (ds : List Dat) (s : Shared) (H : Hp) (C : Addr) (cl : List (Str × Addr)) (fp : List Addr), GC (Cx.Bk X scope s H C cl fp) vs tg (.lst ds) (wipeT τ vs) M1 (fun τ2 M2 => M2 = M1 ∧
        (∀ (s : Shared) (H : Hp) (C : Addr) (cl : List (Str × Addr)) (fp : List Addr), EI (Cx.Bk X scope s H C cl fp) tg1 iter1 τ2 M1 (fun ds' M3 Ok => ds' = ds ∧ M3 = M1 ∧ Ok M1) E0') ∧
        ∀ (d : Dat) (s : Shared) (H : Hp) (C : Addr) (cl : List (Str × Addr)) (fp : List Addr), GC (Cx.Bk X scope s H C cl fp) vs1 tg1 d (wipeT τ2 vs1) M1 (fun τ3 M4 => M4 = M1 ∧
          ∀ (s : Shared) (H : Hp) (C : Addr) (cl : List (Str × Addr)) (fp : List Addr), EX (Cx.Bk X scope s H C cl fp) false elt τ3 M1 (fun y M5 => y = d ∧ M5 = M1) E0')))
    (fin : ∀ ys, Q ys → P (lstD f ys) M1) : FlatQ X scope vs vs1 tg tg1 iter1 elt τ P (xss.map (lstD f)) M1 Ok := by
  have g := gd h
  have e : (xss.map fun xs => xs.map f).flatten = xss.flatten.map f := by rw [List.map_flatten]
  refine ⟨xss.map fun xs => xs.map f, by rw [List.map_map]; rfl, ?_, hOk, ?_, hb⟩
  · rw [e, List.length_map]; exact g.1
  · rw [e]; exact fin _ g.2
end
/-! ### max(a list of whole numbers) -/
section
variable {X : Cx} {T : Bool} {M : Mem} {P : PK'} {E1 : Er → Prop}
end
/-! ### sorted(set(pairs)) -/
def psrt (rows : List (Int × Int)) : Res (List (Int × Int)) := guard (rows.length < 64 ∧ (rows.all fun p => decide (0 ≤ p.1) && decide (0 ≤ p.2)) = true) (sortU rows)
theorem psrt_out {rows : List (Int × Int)} {Q : List (Int × Int) → Prop} {E1 : Er → Prop} (h : (psrt rows).Out Q E1) : (rows.length < 64 ∧ ∀ p ∈ rows, 0 ≤ p.1 ∧ 0 ≤ p.2) ∧ Q (sortU rows) := by
  have g := gd h
  refine ⟨⟨g.1.1, fun p hp => ?_⟩, g.2⟩
  have := List.all_eq_true.mp g.1.2 p hp
  rw [Bool.and_eq_true, decide_eq_true_eq, decide_eq_true_eq] at this
  exact this
/-! ### a call of what an expression tells -/
section
variable {X : Cx} {τ : TEnv} {M : Mem} {P : PK'} {E : XKx} {cal e : Expr} {es : List Expr} {pos : Pos}
end
end Kh

set_option Elab.async false
set_option linter.all false
set_option maxRecDepth 100000
set_option maxHeartbeats 1000000
namespace Kh
open PySem PySem.Spec L2
section
variable {X : Cx} {T : Bool} {M : Mem} {P : PK'}
/-- list + list, the new one as a cell -/
theorem o_catNew {x y : Dat} {xs ys : List Dat} (lx : LsD M x xs) (ly : LsD M y ys) (hl : xs.length + ys.length ≤ sizeLine) (h : ∀ q, P (.raw (.ref q)) ((q, .lst (xs ++ ys)) :: M)) : OP X T (binaryOp .Add) x y M P := op_of op_cat fun G H v u hH dx dy Q hP => by
  obtain ⟨p, vs, rfl, g1, d1⟩ := lx.get hH dx
  obtain ⟨q, us, rfl, g2, d2⟩ := ly.get hH dy
  refine ⟨p, q, vs, us, rfl, rfl, g1, g2, by rw [d1.length, d2.length]; exact hl, fun r hr => ?_⟩
  obtain ⟨s2, h2⟩ := cell_new hH hr (d1.append d2)
  exact hP _ _ _ _ _ (h r) s2 h2 den_raw
end
end Kh
namespace Kh
open PySem PySem.Spec L2
section
variable {X : Cx} {T : Bool} {τ : TEnv} {M : Mem} {P : PK'} {E : XKx} {e : Expr} {p1 p2 pos1 pos2 : Pos}
theorem ex_srtSetT (hm1 : X.mg "sorted" = none) (hm2 : X.mg "set" = none) (hu : X.A.units + 64 < cLine) (h : EX X T e τ M (fun d M1 => ∃ rows : List (Int × Int), d = lstD ipD rows ∧ ∃ Q E1, (psrt rows).Out Q E1 ∧ ∀ z, Q z → P (lstD ipD z) M1) E) (hc : X.calm = true := by rfl)
    (hg1 : Gl X "sorted" := by rfl) (hg2 : Gl X "set" := by rfl) (he1 : starEach [.Call (.Name "set" p2) [e] [] pos2] X.env = (false, eval (.Call (.Name "set" p2) [e] [] pos2) X.env) :: starEach [] X.env := by rfl) (he2 : starEach [e] X.env = (false, eval e X.env) :: starEach [] X.env := by rfl)
    (hp1 : (backTo pos1 (starEach [] X.env)).any (·.1) = false := by rfl) (hp2 : (backTo pos2 (starEach [] X.env)).any (·.1) = false := by rfl) :
    EX X T (.Call (.Name "sorted" p1) [.Call (.Name "set" p2) [e] [] pos2] [] pos1) τ M P E :=
  ex_srtSet hm1 hm2 (h.imp (fun d M1 ⟨rows, ed, Q, E1, ho, hk⟩ => ⟨rows, ed, (psrt_out ho).1, hk _ (psrt_out ho).2⟩) fun _ _ x => x) hu hc hg1 hg2 he1 he2 hp1 hp2
end
end Kh

set_option Elab.async false
set_option linter.all false
set_option maxRecDepth 100000
set_option maxHeartbeats 1000000
namespace Kh
open PySem PySem.Spec L2
/-! ### calls with keywords, with defaults -/
/-- where a parameter's value comes from -/
inductive Src where
  | p (i : Nat) | k (i : Nat) | d (x : Dat) (v : V) (u : Value)
def Src.Ok (K : PySem.W.Frag) : Src → Prop
  | .d x v u => (∀ G, Den K G x v) ∧ RelV v u
  | _ => True
section
variable {X : Cx} {T : Bool} {τ : TEnv} {M : Mem} {P : PK'} {E : XKx} {e : Expr} {es : List Expr} {pos p kpos : Pos} {k n : Nat} {f : Addr} {fd : FuncData} {ps ks : List Str} {S : Spc} {x : Str} {nm : Option Str} {kws : List Keyword} {t : List Src}
end
/-! ### a list backwards; list(range(..)); in a list of data -/
section
variable {X : Cx} {T : Bool} {τ : TEnv} {M : Mem} {P : PK'} {E : XKx} {e a b : Expr} {pos p p1 p2 p3 : Pos} {kk : Nat} {α : Type} {E1 : Er → Prop}
end
end Kh

set_option Elab.async false
set_option linter.all false
set_option maxRecDepth 100000
set_option maxHeartbeats 1000000
namespace Kh
open PySem PySem.Spec L2
/-! ### new lists as cells: comprehensions, list(xs), xs[::-1] -/
section
variable {X : Cx} {T : Bool} {tg iter elt e a : Expr} {τ : TEnv} {M : Mem} {E : XKx} {pos p p1 p2 p3 : Pos} {kk : Nat} {P : PK'} {α : Type} {E1 : Er → Prop}
end
/-! the joining rules, whatever is wanted behind -/
section
variable {X : Cx} {T : Bool} {τ : TEnv} {M : Mem} {P : PK'} {E : XKx} {t e : Expr} {p q rest : List Stmt} {pos : Pos} {α σ : Type} {E1 : Er → Prop} {R : RK}
theorem exJQ {m : Res α} (f : α → Dat) {Q : α → Prop} (h : m.Out Q E1) (he : ∀ Q : α → Prop, m.Out Q E1 → EX X T e τ M (fun d M1 => M1 = M ∧ ∃ v, d = f v ∧ Q v) E) (hk : ∀ v, Q v → P (f v) M) : EX X T e τ M P E := exJ f h (he Q) hk
theorem ws_ifQ {m : Res σ} {Q : σ → Prop} (JJ : (σ → Prop) → TEnv → Mem → Prop) (h : m.Out Q E1)
    (hif : ∀ Q : σ → Prop, m.Out Q E1 → ET X T t τ M (fun k M1 => (k = true → WS X T p τ M1 (thenR (JJ Q) R)) ∧ (k = false → WS X T q τ M1 (thenR (JJ Q) R))) (fun x M1 => R (.ex x τ) M1))
    (hk : ∀ τ' M', JJ Q τ' M' → WS X T rest τ' M' R) : WS X T (.If t p q pos :: rest) τ M R := ws_ifJ JJ h (hif Q) hk
end
section
variable {α β γ : Type} {m : Res α} {Q S : α → Prop} {E1 : Er → Prop} {E : XKx} {M : Mem} {ex : Er → Exn}
/-- a value with new lists in it -/
theorem outG (h : m.Out Q E1) (hk : ∀ r, Q r → S r) (hx : ∀ x, E1 x → E (ex x) M) : m.Out S (fun x => UpP E (ex x) M) := out_mono h hk fun x z => UpP.mk (hx x z)
end
/-! ### == of data, a list's cell among them -/
def CD {τ : Type} {E : τ → Dat} [DecidableEq τ] (K : PySem.W.Frag) (M : Mem) (d : Dat) (p : PyE E) (a : τ) : Prop := ∀ G H v, Hst K G M H → Den K G d v → Dp K H v (p.py a)
section
variable {X : Cx} {T : Bool} {M : Mem} {P : PK'} {τ : Type} {E : τ → Dat} [DecidableEq τ] {E1 : Er → Prop} {da db : Dat}
end
end Kh

set_option Elab.async false
set_option linter.all false
set_option maxRecDepth 100000
set_option maxHeartbeats 1000000
namespace Kh
open PySem PySem.Spec L2
/-! ### sorted(a list of ints) -/
section
variable {X : Cx} {M : Mem} {P : PK'} {E1 : Er → Prop}
end
end Kh

set_option Elab.async false
set_option linter.all false
set_option maxRecDepth 100000
set_option maxHeartbeats 1000000
namespace Kh
open PySem PySem.Spec L2
open PySem.W (EachIs dataLe AllAlike Sortable)
/-- what an option holds; nothing is told where it holds nothing -/
def punO {α : Type} : Option α → Res α
  | some a => .ok a
  | none => .bad
@[elab_as_elim] theorem punE {α β : Type} {k : α → Res β} {P : β → Prop} {E : Er → Prop} {motive : Option α → Prop} (o : Option α) (h : ((punO o).bind k).Out P E) (hk : ∀ a, (k a).Out P E → motive (some a)) : motive o := by
  cases o with
  | none => exact h.elim
  | some a => exact hk a h
@[simp] theorem punO_some {α : Type} {a : α} : punO (some a) = .ok a := rfl
/-! ### sorted(a list of data), any length -/
/-- data that sorts: all of one shape -/
structure PyS {α : Type} {e : α → Dat} [DecidableEq α] (p : PyE e) : Prop where
  al : ∀ a b, PySem.W.alike (p.py a) (p.py b) = true
  so : (∀ a, ∃ x r, p.py a = .tuple (x :: r)) ∨ ∀ a, p.py a ≠ .none ∧ ∀ xs, p.py a ≠ .tuple xs
theorem pysI : PyS pyI := ⟨fun a b => by simp [pyI, PySem.W.alike], .inr fun a => ⟨fun h => by simp [pyI] at h, fun xs h => by simp [pyI] at h⟩⟩
theorem pys2 {α β : Type} {e : α → Dat} {f : β → Dat} [DecidableEq α] [DecidableEq β] {p : PyE e} {q : PyE f} (hp : PyS p) (hq : PyS q) : PyS (py2 p q) := ⟨fun a b => by
  simp only [py2, PySem.W.alike, PySem.W.alikeAll, Bool.and_eq_true]; exact ⟨hp.al _ _, hq.al _ _, trivial⟩, .inl fun a => ⟨_, _, rfl⟩⟩
def leD {α : Type} {e : α → Dat} [DecidableEq α] (p : PyE e) : α → α → Bool := dataLe false p.py
def psrtD {α : Type} {e : α → Dat} [DecidableEq α] (p : PyE e) (xs : List α) : Res (List α) := guard (xs.length ≤ sizeLine) (xs.mergeSort (leD p))
section
variable {X : Cx} {M : Mem} {P : PK'} {E1 : Er → Prop} {α : Type} {e : α → Dat} [DecidableEq α]
theorem each_den {K : PySem.W.Frag} {G : Hp} : ∀ {xs : List α} {ws : List V} {us : List Value}, DenL K G (xs.map e) ws → Vals ws us → EachIs (fun u b => ∃ x, RelV x u ∧ Den K G (e b) x) us xs
  | [], _, _, h, r => by
    rw [h.nil_inv] at r
    cases r
    exact .nil
  | x :: xs, _, _, h, r => by
    obtain ⟨v, ws, rfl, h1, h2⟩ := h.cons_inv
    cases r with
    | cons r1 r2 => exact .cons ⟨v, r1, h1⟩ (each_den h2 r2)
theorem den_each {K : PySem.W.Frag} {G : Hp} : ∀ {xs : List α} {us : List Value}, EachIs (fun u b => ∃ x, RelV x u ∧ Den K G (e b) x) us xs → ∃ ws, Vals ws us ∧ DenL K G (xs.map e) ws
  | [], _, h => by cases h; exact ⟨[], .nil, .nil⟩
  | x :: xs, _, h => by
    cases h with
    | cons h1 h2 =>
      obtain ⟨v, r, d⟩ := h1
      obtain ⟨ws, rs, ds⟩ := den_each h2
      exact ⟨v :: ws, .cons r rs, .cons d ds⟩
theorem each_reads {K : PySem.W.Frag} {G : Hp} {R : Value → α → Prop} : ∀ {xs : List α} {us : List Value}, EachIs (fun u b => ∃ x, RelV x u ∧ Den K G (e b) x) us xs → (∀ u b, (∃ x, RelV x u ∧ Den K G (e b) x) → R u b) → EachIs R us xs
  | [], _, h, _ => by cases h; exact .nil
  | x :: xs, _, h, f => by
    cases h with
    | cons h1 h2 => exact .cons (f _ _ h1) (each_reads h2 f)
def rSortD (K : PySem.W.Frag) (p : PyE e) : List V → Hp → VK → Prop := fun vs H Q => ∃ (a : Addr) (ws : List V) (G : Hp) (xs : List α), vs = [.ref a] ∧ SqL K H a ws ∧ Same G H ∧ DenL K G (xs.map e) ws ∧
  ∀ ws' q, H q = none → DenL K G ((xs.mergeSort (leD p)).map e) ws' → Q (.ref q) (upd H q (.lst ws'))
theorem cr_sortD (p : PyE e) (hs : PyS p) (hd : p.dep ≤ 60) (hu : X.A.units + 64 < cLine) : CallR X (.builtin "sorted") (rSortD X.K p) := by
  intro pins s σ H vs us Q I r h
  obtain ⟨a, ws, G, xs, rfl, hq, sm, dl, q⟩ := h
  obtain ⟨its, rv, hl, hz⟩ := I.list hq
  rw [Vals.ref1 r]
  have en := each_den dl rv
  have hlen : its.length = xs.length := by rw [← rv.length, dl.length, List.length_map]
  refine PySem.W.sorted_data (vs := its) (bs := xs) (enc := p.py) (R := fun u b => ∃ x, RelV x u ∧ Den X.K G (e b) x) hl.isList en (each_reads en fun u b ⟨x, rx, dx⟩ => Dp.reads I (p.py b) x u (toPy_dp sm _ _ _ dx (p.to b)) rx) ?_ ?_ (by rw [← hlen, ← rv.length]; exact hz) (fun b _ => by have := p.dp b; omega) fun out ho eo => ?_
  · intro d hd d' hd'
    obtain ⟨b, _, rfl⟩ := List.mem_map.mp hd
    obtain ⟨b', _, rfl⟩ := List.mem_map.mp hd'
    exact hs.al b b'
  · rcases hs.so with h | h
    · exact .inl fun d hd => by
        obtain ⟨b, _, rfl⟩ := List.mem_map.mp hd
        exact h b
    · exact .inr fun d hd => by
        obtain ⟨b, _, rfl⟩ := List.mem_map.mp hd
        exact h b
  · obtain ⟨ws', rs, ds⟩ := den_each eo
    obtain ⟨ep, he'⟩ := PyProof.Rows.sortedAll_at s.heap its out.toArray
    have hz' : ws'.length ≤ sizeLine := by rw [rs.length, ho, ← hlen, ← rv.length]; exact hz
    exact ⟨.ref _, upd H (s.heap.objs.size + 1) (.lst ws'), I.laid (t' := s.toks) (fun _ _ => PyProof.Rows.sortedAll_old) (Nat.le_succ _) ⟨hz', out, ep, rs, he'⟩, rfl, q _ _ (I.hok.fresh (Nat.le_succ _)) ds⟩
theorem c_sortD (p : PyE e) (hs : PyS p) {d : Dat} {xs : List α} (l : LsD M d (xs.map e)) (hu : X.A.units + 64 < cLine) {Q : List α → Prop} (h : (psrtD p xs).Out Q E1) (hk : ∀ z, Q z → P (lstD e z) M) (hd : p.dep ≤ 60 := by decide) : BC X (.builtin "sorted") [d] M P := bc_of (cr_sortD p hs hd hu) fun G H vs hH dv Q' hP => by
  obtain ⟨v, rfl, dd⟩ := one_inv dv
  obtain ⟨c, us, rfl, g, dl⟩ := l.get hH dd
  refine ⟨c, us, G, xs, rfl, SqL.of g, hH.sub, dl, fun ws' r hr dl' => ?_⟩
  obtain ⟨s2, h2⟩ := Stp.new (o := .lst ws') hH hr
  exact hP _ _ _ _ _ (hk _ (gd h).2) s2 h2 (den_lst upd_same (dl'.up s2.gg))
end
/-! ### dicts by texts that change -/
section
variable {X : Cx} {T : Bool} {τ : TEnv} {M : Mem} {P : PK'} {E : XKx} {e o i value : Expr} {rest : List Stmt} {R : RK} {pos p pos' cpos apos tpos : Pos} {E1 : Er → Prop} {β : Type}
end
/-! ### x += e, x -= e of ints -/
section
variable {X : Cx} {T : Bool} {τ : TEnv} {M : Mem} {e : Expr} {rest : List Stmt} {R : RK} {pos p : Pos} {x : Str} {i : Int}
end
end Kh

set_option Elab.async false
set_option linter.all false
set_option maxRecDepth 100000
set_option maxHeartbeats 1000000
namespace Kh
open PySem PySem.Spec L2
/-! ### list(range(a, b)), len(set(ints)) -/
section
variable {X : Cx} {T : Bool} {τ : TEnv} {M : Mem} {P : PK'} {E : XKx} {e a b : Expr} {pos p p1 p2 p3 q : Pos} {E1 : Er → Prop}
end
end Kh

set_option Elab.async false
set_option linter.all false
set_option maxRecDepth 100000
set_option maxHeartbeats 4000000
namespace Kh
open PySem PySem.Spec PyProof.Rows L2
/-! ### sorted(set(ints)): a set of a list's ints, as HandS.SetFor has it of a tuple's -/
/-- the set that set() makes -/
abbrev eS (w : World) : Obj := { cls := .type "set", dict := none, data := .set #[] 0 (.fresh 0 0 (!w.params.followText "set-order")) }
/-- the heap behind it -/
abbrev hS (w : World) (h : Heap) : Heap := h.push (eS w)
section
variable {P : Program} {w : World} {A : Around} {E : Value → Shared → Prop} {s : Shared}
end
section
variable {X : Cx} {T : Bool} {τ : TEnv} {M : Mem} {P : PK'} {E : XKx} {e a b : Expr} {pos p p1 p2 p3 q : Pos} {E1 : Er → Prop}
end
end Kh

set_option Elab.async false
set_option linter.all false
set_option maxRecDepth 100000
set_option maxHeartbeats 1000000
namespace Kh
open PySem PySem.Spec L2
/-! ### min(a list of ints) -/
section
variable {X : Cx} {T : Bool} {M : Mem} {P : PK'} {E1 : Er → Prop}
end
end Kh

set_option Elab.async false
set_option linter.all false
set_option maxRecDepth 100000
set_option maxHeartbeats 1000000
namespace Kh
open PySem PySem.Spec L2
/-! ### x += e by an own __iadd__ -/
section
variable {X : Cx} {T : Bool} {τ : TEnv} {M : Mem} {e : Expr} {rest ss : List Stmt} {R : RK} {pos p : Pos} {x : Str} {k : Nat} {fa C : Addr} {fd : FuncData} {ps : List Str} {S : Spc}
end
section
variable {M : Mem} {P : PK'} {E : XKx} {S : Spc} {α : Type} {E1 : Er → Prop}
end
/-! ### a history that is changed is lent to a def that wants data -/
mutual
/-- data in which no list and no instance of C stands -/
def Pln (C : Addr) : Dat → Prop
  | .scr _ | .lst _ => False
  | .tup ds => PlnL C ds
  | .obj D _ ds => D ≠ C ∧ PlnL C ds
  | .xn _ _ _ ds => PlnL C ds
  | .at _ d => Pln C d
  | _ => True
def PlnL (C : Addr) : List Dat → Prop
  | [] => True
  | d :: ds => Pln C d ∧ PlnL C ds
end
/-- the places that are lent -/
structure Lent (C : Addr) (B : List Addr) (G : Hp) : Prop where
  k : ∀ b ∈ B, (∃ dx vs, G b = some (.ins C dx vs) ∧ dx ∈ B) ∨ (∃ q ∈ B, G b = some (.own q)) ∨ ∃ us, G b = some (.lst us)
open Classical in
noncomputable def cutB (B : List Addr) (G : Hp) : Hp := fun b => if b ∈ B then none else G b
section
variable {K : PySem.W.Frag} {G H : Hp} {C : Addr} {B : List Addr}
theorem cutB_out {b : Addr} (h : b ∉ B) : cutB B G b = G b := if_neg h
mutual
theorem pln_den (h : Lent C B G) : ∀ (d : Dat) (v : V), Pln C d → Den K G d v → Den K (cutB B G) d v
  | .non, _, _, q => by simpa [Den] using q
  | .bl _, _, _, q => by simpa [Den] using q
  | .int _, _, _, q => by simpa [Den] using q
  | .str _, _, _, q => by simpa [Den] using q
  | .raw _, _, _, q => by simpa [Den] using q
  | .dic0, _, _, q => by
    simp only [Den] at q ⊢
    obtain ⟨a, e, g⟩ := q
    refine ⟨a, e, ?_⟩
    rw [cutB_out (fun hb => ?_)]; exact g
    rcases h.k a hb with ⟨_, _, z, _⟩ | ⟨_, _, z⟩ | ⟨_, z⟩ <;> (rw [g] at z; cases z)
  | .scr _, _, p, _ => by simp only [Pln] at p
  | .lst _, _, p, _ => by simp only [Pln] at p
  | .tup ds, v, p, q => by
    simp only [Den, Pln] at p q ⊢
    obtain ⟨a, vs, e, s, t⟩ := q
    refine ⟨a, vs, e, ?_, plnL_den h ds vs p t⟩
    rw [cutB_out (fun hb => ?_)]; exact s
    rcases h.k a hb with ⟨_, _, z, _⟩ | ⟨_, _, z⟩ | ⟨_, z⟩ <;> (rw [s] at z; cases z)
  | .obj D ns ds, v, p, q => by
    simp only [Den, Pln] at p q ⊢
    obtain ⟨a, dx, vs, e, s, s2, t⟩ := q
    have ha : a ∉ B := fun hb => by
      rcases h.k a hb with ⟨_, _, z, _⟩ | ⟨_, _, z⟩ | ⟨_, z⟩
      · rw [s] at z
        injection z with z
        injection z with z1 _ _
        exact p.1 z1
      · rw [s] at z; cases z
      · rw [s] at z; cases z
    refine ⟨a, dx, vs, e, ?_, ?_, plnL_den h ds vs p.2 t⟩
    · rw [cutB_out ha]; exact s
    · rw [cutB_out (fun hb => ?_)]; exact s2
      rcases h.k dx hb with ⟨_, _, z, _⟩ | ⟨q', hq', z⟩ | ⟨_, z⟩
      · rw [s2] at z; cases z
      · rw [s2] at z
        injection z with z
        injection z with z
        exact ha (by rw [z]; exact hq')
      · rw [s2] at z; cases z
  | .xn a dd ns ds, v, p, q => by
    simp only [Den, Pln] at p q ⊢
    obtain ⟨vs, e, s, t⟩ := q
    refine ⟨vs, e, ?_, plnL_den h ds vs p t⟩
    rw [cutB_out (fun hb => ?_)]; exact s
    rcases h.k dd hb with ⟨_, _, z, _⟩ | ⟨_, _, z⟩ | ⟨_, z⟩ <;> (rw [s] at z; cases z)
  | .at a d, v, p, q => by
    simp only [Den, Pln] at p q ⊢
    exact ⟨q.1, pln_den h d v p q.2⟩
theorem plnL_den (h : Lent C B G) : ∀ (ds : List Dat) (vs : List V), PlnL C ds → DenL K G ds vs → DenL K (cutB B G) ds vs
  | [], _, _, q => by simpa [DenL] using q
  | d :: ds, vs, p, q => by
    simp only [DenL, PlnL] at p q ⊢
    obtain ⟨v, r, e, s, t⟩ := q
    exact ⟨v, r, e, pln_den h d v p.1 s, plnL_den h ds r p.2 t⟩
end
end
open Classical in
section
variable {K : PySem.W.Frag} {G G2 H H2 : Hp} {C : Addr} {B : List Addr} {M M1 Mp Mq : Mem}
theorem Hst.right {A B : Mem} (h : Hst K G (A ++ B) H) : Hst K G B H := (h.perm List.perm_append_comm).left
theorem Hst.apart {A B : Mem} (h : Hst K G (A ++ B) H) {b : Addr} (ha : b ∈ adr A) (hb : b ∈ adr B) : False := by
  have := h.nd
  rw [adr_append] at this
  exact (List.nodup_append.mp this).2.2 b ha b hb rfl
end
end Kh

set_option Elab.async false
set_option linter.all false
set_option maxRecDepth 100000
set_option maxHeartbeats 1000000
namespace Kh
open PySem PySem.Spec L2
/-! ### for x in an instance whose __iter__ gives iter(a list of its own) -/
/-! ### xs.clear(), xs a cell -/
section
variable {X : Cx} {T : Bool} {τ : TEnv} {M B : Mem} {P : PK'} {E : XKx} {o : Expr} {q : Addr} {pos apos tpos : Pos}
end
/-! ### lending a history to a def, a method, an operator -/
section
variable {X : Cx} {T : Bool} {τ : TEnv} {M : Mem} {P : PK'} {E : XKx} {E1 : Er → Prop} {C D : Addr} {B B1 B2 : List Addr} {α β : Type} {S : Spc} {k : Nat} {fa : Addr} {fd : FuncData} {ps : List Str} {m : Str} {es : List Expr}
end
end Kh

set_option Elab.async false
set_option linter.all false
set_option maxRecDepth 100000
set_option maxHeartbeats 1000000
namespace Kh
open PySem PySem.Spec L2
/-! ### several cells handed to a def -/
section
variable {X : Cx} {T : Bool} {τ : TEnv} {M : Mem} {P : PK'} {E : XKx} {E1 : Er → Prop} {α β : Type} {S : Spc}
end
/-! ### xs.pop(), xs a cell -/
section
variable {X : Cx} {T : Bool} {τ : TEnv} {M B : Mem} {P : PK'} {E : XKx} {E1 : Er → Prop} {o : Expr} {q : Addr} {pos apos tpos : Pos} {α : Type}
end
/-! ### is of bools -/
section
variable {X : Cx} {T : Bool} {M : Mem} {P : PK'} {a b : Bool}
end
/-! ### a cell against [] -/
section
open PySem.SeqAt (EqAt RcAt RcNeAt)
variable {X : Cx} {T : Bool} {M : Mem} {P : PK'} {q : Addr} {α : Type}
end
/-! ### C(k = v, ..) -/
section
variable {X : Cx} {T : Bool} {τ : TEnv} {M : Mem} {P : PK'} {E : XKx} {e : Expr} {es : List Expr} {pos p kpos : Pos} {k n : Nat} {f C : Addr} {fd : FuncData} {ps ks : List Str} {S : Spc} {x : Str} {nm : Option Str} {kws : List Keyword} {t : List Src}
end
end Kh

set_option Elab.async false
set_option linter.all false
set_option maxRecDepth 100000
set_option maxHeartbeats 1000000
namespace Kh
open PySem PySem.Spec L2
/-! ### o.f += e by an own __iadd__ of what the field holds -/
section
variable {X : Cx} {T : Bool} {τ : TEnv} {M : Mem} {o e : Expr} {rest ss : List Stmt} {R : RK} {pos tpos : Pos} {f : Str} {k : Nat} {fa C : Addr} {fd : FuncData} {ps : List Str} {S : Spc}
end
/-! ### an instance with a list of its own is given back as data -/
section
variable {X : Cx} {T : Bool} {τ : TEnv} {M : Mem} {e : Expr} {P : PK'} {E : XKx} {C : Addr}
end
/-! ### copiers: their cells, by their addresses -/
section
variable (CC CH : Addr) (fD : Str → Dat) (q : Addr)
end
/-! ### loops over places, told by what lies there -/
section
variable {X : Cx} {T : Bool} {τ : TEnv} {M : Mem} {P : PK'} {E : XKx} {t e iter tg : Expr} {p q body rest : List Stmt} {pos : Pos} {α β σ ρ : Type} {E1 : Er → Prop} {R : RK}
end
/-! ### a store's copiers, handed as a whole; one of them -/
section
variable {X : Cx} {T : Bool} {τ : TEnv} {M : Mem} {P : PK'} {E : XKx} {α β : Type} {E1 : Er → Prop} {S : Spc}
variable {CC CH : Addr} {fD : Str → Dat} {q : Addr}
end
/-! ### o.m(e, .., k = v, ..), and keyword-only parameters left out -/
section
variable {X : Cx} {T : Bool} {τ : TEnv} {M : Mem} {P : PK'} {E : XKx} {e o : Expr} {es : List Expr} {pos p apos : Pos} {m : Str} {n : Nat} {ks : List Str} {kws : List Keyword} {t : List Src}
end
end Kh

set_option Elab.async false
set_option linter.all false
set_option maxRecDepth 100000
set_option maxHeartbeats 1000000
namespace Kh
open PySem PySem.Spec L2
theorem alikeAll_map {α : Type} {e : α → Dat} [DecidableEq α] {p : PyE e} (hp : PyS p) : ∀ xs ys : List α, PySem.W.alikeAll (xs.map p.py) (ys.map p.py) = true
  | [], _ => by simp [PySem.W.alikeAll]
  | _ :: _, [] => by simp [PySem.W.alikeAll]
  | x :: xs, y :: ys => by
    show PySem.W.alikeAll (p.py x :: xs.map p.py) (p.py y :: ys.map p.py) = true
    rw [PySem.W.alikeAll, alikeAll_map hp xs ys, hp.al]; rfl
/-- lists sort -/
theorem pysL {α : Type} {e : α → Dat} [DecidableEq α] {p : PyE e} (hp : PyS p) : PyS (pyL p) := ⟨fun a b => by
  simp only [pyL, PySem.W.alike]; exact alikeAll_map hp a b, .inr fun a => ⟨fun h => by simp [pyL] at h, fun xs h => by simp [pyL] at h⟩⟩
end Kh

set_option Elab.async false
set_option linter.all false
set_option maxRecDepth 100000
set_option maxHeartbeats 2000000
namespace Kh
open PySem PySem.Spec L2
open PySem.W (Frag ksFn)
def top (i : Nat) : Stmt := PySem.Challenge.pw_keptholes_k15_refused_reasons.main.body.getD i (.Pass ⟨0, 0, 0, 0⟩)
abbrev s_is_whole : Stmt := top 7
abbrev N_is_whole : List Str := ["value"]
abbrev P_is_whole : List Str := ["value"]
theorem sc_is_whole : FnScope N_is_whole P_is_whole (defScope s_is_whole) := ⟨rfl, rfl, rfl, by decide +kernel, rfl, by decide +kernel, by decide +kernel⟩
abbrev s_check_least : Stmt := top 8
abbrev N_check_least : List Str := ["value", "least"]
abbrev P_check_least : List Str := ["value", "least"]
theorem sc_check_least : FnScope N_check_least P_check_least (defScope s_check_least) := ⟨rfl, rfl, rfl, by decide +kernel, rfl, by decide +kernel, by decide +kernel⟩
abbrev s_divisor_of : Stmt := top 10
abbrev N_divisor_of : List Str := ["one", "other"]
abbrev P_divisor_of : List Str := ["one", "other"]
theorem sc_divisor_of : FnScope N_divisor_of P_divisor_of (defScope s_divisor_of) := ⟨rfl, rfl, rfl, by decide +kernel, rfl, by decide +kernel, by decide +kernel⟩
abbrev s_multiple_of : Stmt := top 11
abbrev N_multiple_of : List Str := ["numbers", "found", "number"]
abbrev P_multiple_of : List Str := ["numbers"]
theorem sc_multiple_of : FnScope N_multiple_of P_multiple_of (defScope s_multiple_of) := ⟨rfl, rfl, rfl, by decide +kernel, rfl, by decide +kernel, by decide +kernel⟩
abbrev s_are_cells : Stmt := top 14
abbrev N_are_cells : List Str := ["value", "cell"]
abbrev P_are_cells : List Str := ["value"]
theorem sc_are_cells : FnScope N_are_cells P_are_cells (defScope s_are_cells) := ⟨rfl, rfl, rfl, by decide +kernel, rfl, by decide +kernel, by decide +kernel⟩
abbrev s_are_steps : Stmt := top 22
abbrev N_are_steps : List Str := ["value", "step"]
abbrev P_are_steps : List Str := ["value"]
theorem sc_are_steps : FnScope N_are_steps P_are_steps (defScope s_are_steps) := ⟨rfl, rfl, rfl, by decide +kernel, rfl, by decide +kernel, by decide +kernel⟩
abbrev s_check_script : Stmt := top 24
abbrev N_check_script : List Str := ["value"]
abbrev P_check_script : List Str := ["value"]
theorem sc_check_script : FnScope N_check_script P_check_script (defScope s_check_script) := ⟨rfl, rfl, rfl, by decide +kernel, rfl, by decide +kernel, by decide +kernel⟩
abbrev s_holds_in : Stmt := top 26
abbrev N_holds_in : List Str := ["one", "other"]
abbrev P_holds_in : List Str := ["one", "other"]
theorem sc_holds_in : FnScope N_holds_in P_holds_in (defScope s_holds_in) := ⟨rfl, rfl, rfl, by decide +kernel, rfl, by decide +kernel, by decide +kernel⟩
abbrev s_is_held : Stmt := top 27
abbrev N_is_held : List Str := ["rows", "other", "row"]
abbrev P_is_held : List Str := ["rows", "other"]
theorem sc_is_held : FnScope N_is_held P_is_held (defScope s_is_held) := ⟨rfl, rfl, rfl, by decide +kernel, rfl, by decide +kernel, by decide +kernel⟩
abbrev s_least_of : Stmt := top 28
abbrev N_least_of : List Str := ["rows", "found", "row"]
abbrev P_least_of : List Str := ["rows"]
theorem sc_least_of : FnScope N_least_of P_least_of (defScope s_least_of) := ⟨rfl, rfl, rfl, by decide +kernel, rfl, by decide +kernel, by decide +kernel⟩
abbrev s_dug : Stmt := top 29
abbrev N_dug : List Str := ["rows", "bits", "found", "written", "signs", "row", "bit"]
abbrev P_dug : List Str := ["rows", "bits"]
theorem sc_dug : FnScope N_dug P_dug (defScope s_dug) := ⟨rfl, rfl, rfl, by decide +kernel, rfl, by decide +kernel, by decide +kernel⟩
abbrev s_behind_step : Stmt := top 30
abbrev N_behind_step : List Str := ["step", "table", "found", "begin", "block", "bits", "union", "rows", "at", "row", "bit"]
abbrev P_behind_step : List Str := ["step", "table"]
theorem sc_behind_step : FnScope N_behind_step P_behind_step (defScope s_behind_step) := ⟨rfl, rfl, rfl, by decide +kernel, rfl, by decide +kernel, by decide +kernel⟩
abbrev s_reason_table : Stmt := top 31
abbrev N_reason_table : List Str := ["script", "table", "step", "at"]
abbrev P_reason_table : List Str := ["script"]
theorem sc_reason_table : FnScope N_reason_table P_reason_table (defScope s_reason_table) := ⟨rfl, rfl, rfl, by decide +kernel, rfl, by decide +kernel, by decide +kernel⟩
abbrev s_cells_of : Stmt := top 32
abbrev N_cells_of : List Str := ["bits", "first", "period", "at"]
abbrev P_cells_of : List Str := ["bits", "first", "period"]
theorem sc_cells_of : FnScope N_cells_of P_cells_of (defScope s_cells_of) := ⟨rfl, rfl, rfl, by decide +kernel, rfl, by decide +kernel, by decide +kernel⟩
abbrev s_reasons : Stmt := top 33
abbrev N_reasons : List Str := ["script", "cell", "period", "first", "rows", "pairs", "written", "signs"]
abbrev P_reasons : List Str := ["script", "cell"]
theorem sc_reasons : FnScope N_reasons P_reasons (defScope s_reasons) := ⟨rfl, rfl, rfl, by decide +kernel, rfl, by decide +kernel, by decide +kernel⟩
abbrev s_law_purse : Stmt := top 35
abbrev N_law_purse : List Str := ["script", "at", "cell"]
abbrev P_law_purse : List Str := ["script", "at"]
theorem sc_law_purse : FnScope N_law_purse P_law_purse (defScope s_law_purse) := ⟨rfl, rfl, rfl, by decide +kernel, rfl, by decide +kernel, by decide +kernel⟩
abbrev s_law_draw : Stmt := top 36
abbrev N_law_draw : List Str := ["purse", "many", "digit", "number"]
abbrev P_law_draw : List Str := ["purse", "many"]
theorem sc_law_draw : FnScope N_law_draw P_law_draw (defScope s_law_draw) := ⟨rfl, rfl, rfl, by decide +kernel, rfl, by decide +kernel, by decide +kernel⟩
abbrev s_law_steps : Stmt := top 37
abbrev N_law_steps : List Str := ["purse", "sizes", "most", "found", "turn", "kind"]
abbrev P_law_steps : List Str := ["purse", "sizes", "most"]
theorem sc_law_steps : FnScope N_law_steps P_law_steps (defScope s_law_steps) := ⟨rfl, rfl, rfl, by decide +kernel, rfl, by decide +kernel, by decide +kernel⟩
abbrev s_law_step : Stmt := top 38
abbrev N_law_step : List Str := ["step"]
abbrev P_law_step : List Str := ["step"]
theorem sc_law_step : FnScope N_law_step P_law_step (defScope s_law_step) := ⟨rfl, rfl, rfl, by decide +kernel, rfl, by decide +kernel, by decide +kernel⟩
abbrev s_law_script : Stmt := top 39
abbrev N_law_script : List Str := ["steps", "step"]
abbrev P_law_script : List Str := ["steps"]
theorem sc_law_script : FnScope N_law_script P_law_script (defScope s_law_script) := ⟨rfl, rfl, rfl, by decide +kernel, rfl, by decide +kernel, by decide +kernel⟩
abbrev s_law_told : Stmt := top 40
abbrev N_law_told : List Str := ["script", "cell", "found", "e"]
abbrev P_law_told : List Str := ["script", "cell"]
theorem sc_law_told : FnScope N_law_told P_law_told (defScope s_law_told) := ⟨rfl, rfl, rfl, by decide +kernel, rfl, by decide +kernel, by decide +kernel⟩
abbrev s_law : Stmt := top 41
abbrev N_law : List Str := ["script", "steps", "made", "value", "cell", "step"]
abbrev P_law : List Str := ["script"]
theorem sc_law : FnScope N_law P_law (defScope s_law) := ⟨rfl, rfl, rfl, by decide +kernel, rfl, by decide +kernel, by decide +kernel⟩
abbrev s_File_init : Stmt := inClass (top 15) 0
abbrev N_File_init : List Str := ["self", "cells"]
abbrev P_File_init : List Str := ["self", "cells"]
theorem sc_File_init : FnScope N_File_init P_File_init (defScope s_File_init) := ⟨rfl, rfl, rfl, by decide +kernel, rfl, by decide +kernel, by decide +kernel⟩
abbrev s_Keep_init : Stmt := inClass (top 19) 0
abbrev N_Keep_init : List Str := ["self", "size"]
abbrev P_Keep_init : List Str := ["self", "size"]
theorem sc_Keep_init : FnScope N_Keep_init P_Keep_init (defScope s_Keep_init) := ⟨rfl, rfl, rfl, by decide +kernel, rfl, by decide +kernel, by decide +kernel⟩
abbrev s_Keep_size : Stmt := inClass (top 19) 1
abbrev N_Keep_size : List Str := ["self"]
abbrev P_Keep_size : List Str := ["self"]
theorem sc_Keep_size : FnScope N_Keep_size P_Keep_size (defScope s_Keep_size) := ⟨rfl, rfl, rfl, by decide +kernel, rfl, by decide +kernel, by decide +kernel⟩
abbrev s_Lean_init : Stmt := inClass (top 20) 0
abbrev N_Lean_init : List Str := ["self", "size"]
abbrev P_Lean_init : List Str := ["self", "size"]
theorem sc_Lean_init : FnScope N_Lean_init P_Lean_init (defScope s_Lean_init) := ⟨rfl, rfl, rfl, by decide +kernel, rfl, by decide +kernel, by decide +kernel⟩
abbrev s_Lean_size : Stmt := inClass (top 20) 1
abbrev N_Lean_size : List Str := ["self"]
abbrev P_Lean_size : List Str := ["self"]
theorem sc_Lean_size : FnScope N_Lean_size P_Lean_size (defScope s_Lean_size) := ⟨rfl, rfl, rfl, by decide +kernel, rfl, by decide +kernel, by decide +kernel⟩
abbrev s_Dig_init : Stmt := inClass (top 21) 0
abbrev N_Dig_init : List Str := ["self", "size"]
abbrev P_Dig_init : List Str := ["self", "size"]
theorem sc_Dig_init : FnScope N_Dig_init P_Dig_init (defScope s_Dig_init) := ⟨rfl, rfl, rfl, by decide +kernel, rfl, by decide +kernel, by decide +kernel⟩
abbrev s_Dig_size : Stmt := inClass (top 21) 1
abbrev N_Dig_size : List Str := ["self"]
abbrev P_Dig_size : List Str := ["self"]
theorem sc_Dig_size : FnScope N_Dig_size P_Dig_size (defScope s_Dig_size) := ⟨rfl, rfl, rfl, by decide +kernel, rfl, by decide +kernel, by decide +kernel⟩
abbrev s_Script_init : Stmt := inClass (top 23) 0
abbrev N_Script_init : List Str := ["self", "steps", "rows"]
abbrev P_Script_init : List Str := ["self", "steps"]
theorem sc_Script_init : FnScope N_Script_init P_Script_init (defScope s_Script_init) := ⟨rfl, rfl, rfl, by decide +kernel, rfl, by decide +kernel, by decide +kernel⟩
abbrev s_Script_period : Stmt := inClass (top 23) 1
abbrev N_Script_period : List Str := ["self", "step"]
abbrev P_Script_period : List Str := ["self"]
theorem sc_Script_period : FnScope N_Script_period P_Script_period (defScope s_Script_period) := ⟨rfl, rfl, rfl, by decide +kernel, rfl, by decide +kernel, by decide +kernel⟩
abbrev s_Script_iter : Stmt := inClass (top 23) 3
abbrev N_Script_iter : List Str := ["self"]
abbrev P_Script_iter : List Str := ["self"]
theorem sc_Script_iter : FnScope N_Script_iter P_Script_iter (defScope s_Script_iter) := ⟨rfl, rfl, rfl, by decide +kernel, rfl, by decide +kernel, by decide +kernel⟩
abbrev si_InvalidFile : Stmt := inClass (top 3) 0
abbrev si_InvalidNumber : Stmt := inClass (top 4) 0
abbrev si_InvalidScript : Stmt := inClass (top 5) 0
structure Prg (K : Frag) (mg : Str → Option Value) where
  n_bool : mg "bool" = none
  n_int : mg "int" = none
  n_isinstance : mg "isinstance" = none
  n_iter : mg "iter" = none
  n_len : mg "len" = none
  n_list : mg "list" = none
  n_range : mg "range" = none
  n_set : mg "set" = none
  n_sorted : mg "sorted" = none
  n_str : mg "str" = none
  n_sum : mg "sum" = none
  n_super : mg "super" = none
  n_tuple : mg "tuple" = none
  tg_SIGNS : Tok
  g_SIGNS : mg "SIGNS" = some (.str "abcdefghijklmnopqrstuvwxyz" tg_SIGNS)
  C_File : Addr
  mc_File : mg "File" = some (.ref C_File)
  C_Step : Addr
  mc_Step : mg "Step" = some (.ref C_Step)
  C_Full : Addr
  mc_Full : mg "Full" = some (.ref C_Full)
  C_Keep : Addr
  mc_Keep : mg "Keep" = some (.ref C_Keep)
  C_Lean : Addr
  mc_Lean : mg "Lean" = some (.ref C_Lean)
  C_Dig : Addr
  mc_Dig : mg "Dig" = some (.ref C_Dig)
  C_Script : Addr
  mc_Script : mg "Script" = some (.ref C_Script)
  f_is_whole : Addr
  d_is_whole : FuncData
  F_is_whole : Fun K "is_whole" "is_whole" s_is_whole f_is_whole d_is_whole
  b_is_whole : Binds K d_is_whole P_is_whole []
  m_is_whole : mg "is_whole" = some (.ref f_is_whole)
  f_check_least : Addr
  d_check_least : FuncData
  F_check_least : Fun K "check_least" "check_least" s_check_least f_check_least d_check_least
  b_check_least : Binds K d_check_least P_check_least []
  m_check_least : mg "check_least" = some (.ref f_check_least)
  f_divisor_of : Addr
  d_divisor_of : FuncData
  F_divisor_of : Fun K "divisor_of" "divisor_of" s_divisor_of f_divisor_of d_divisor_of
  b_divisor_of : Binds K d_divisor_of P_divisor_of []
  m_divisor_of : mg "divisor_of" = some (.ref f_divisor_of)
  f_multiple_of : Addr
  d_multiple_of : FuncData
  F_multiple_of : Fun K "multiple_of" "multiple_of" s_multiple_of f_multiple_of d_multiple_of
  b_multiple_of : Binds K d_multiple_of P_multiple_of []
  m_multiple_of : mg "multiple_of" = some (.ref f_multiple_of)
  f_are_cells : Addr
  d_are_cells : FuncData
  F_are_cells : Fun K "are_cells" "are_cells" s_are_cells f_are_cells d_are_cells
  b_are_cells : Binds K d_are_cells P_are_cells []
  m_are_cells : mg "are_cells" = some (.ref f_are_cells)
  f_are_steps : Addr
  d_are_steps : FuncData
  F_are_steps : Fun K "are_steps" "are_steps" s_are_steps f_are_steps d_are_steps
  b_are_steps : Binds K d_are_steps P_are_steps []
  m_are_steps : mg "are_steps" = some (.ref f_are_steps)
  f_check_script : Addr
  d_check_script : FuncData
  F_check_script : Fun K "check_script" "check_script" s_check_script f_check_script d_check_script
  b_check_script : Binds K d_check_script P_check_script []
  m_check_script : mg "check_script" = some (.ref f_check_script)
  f_holds_in : Addr
  d_holds_in : FuncData
  F_holds_in : Fun K "holds_in" "holds_in" s_holds_in f_holds_in d_holds_in
  b_holds_in : Binds K d_holds_in P_holds_in []
  m_holds_in : mg "holds_in" = some (.ref f_holds_in)
  f_is_held : Addr
  d_is_held : FuncData
  F_is_held : Fun K "is_held" "is_held" s_is_held f_is_held d_is_held
  b_is_held : Binds K d_is_held P_is_held []
  m_is_held : mg "is_held" = some (.ref f_is_held)
  f_least_of : Addr
  d_least_of : FuncData
  F_least_of : Fun K "least_of" "least_of" s_least_of f_least_of d_least_of
  b_least_of : Binds K d_least_of P_least_of []
  m_least_of : mg "least_of" = some (.ref f_least_of)
  f_dug : Addr
  d_dug : FuncData
  F_dug : Fun K "dug" "dug" s_dug f_dug d_dug
  b_dug : Binds K d_dug P_dug []
  m_dug : mg "dug" = some (.ref f_dug)
  f_behind_step : Addr
  d_behind_step : FuncData
  F_behind_step : Fun K "behind_step" "behind_step" s_behind_step f_behind_step d_behind_step
  b_behind_step : Binds K d_behind_step P_behind_step []
  m_behind_step : mg "behind_step" = some (.ref f_behind_step)
  f_reason_table : Addr
  d_reason_table : FuncData
  F_reason_table : Fun K "reason_table" "reason_table" s_reason_table f_reason_table d_reason_table
  b_reason_table : Binds K d_reason_table P_reason_table []
  m_reason_table : mg "reason_table" = some (.ref f_reason_table)
  f_cells_of : Addr
  d_cells_of : FuncData
  F_cells_of : Fun K "cells_of" "cells_of" s_cells_of f_cells_of d_cells_of
  b_cells_of : Binds K d_cells_of P_cells_of []
  m_cells_of : mg "cells_of" = some (.ref f_cells_of)
  f_reasons : Addr
  d_reasons : FuncData
  F_reasons : Fun K "reasons" "reasons" s_reasons f_reasons d_reasons
  b_reasons : Binds K d_reasons P_reasons []
  m_reasons : mg "reasons" = some (.ref f_reasons)
  f_law_purse : Addr
  d_law_purse : FuncData
  F_law_purse : Fun K "_law_purse" "_law_purse" s_law_purse f_law_purse d_law_purse
  b_law_purse : Binds K d_law_purse P_law_purse []
  m_law_purse : mg "_law_purse" = some (.ref f_law_purse)
  f_law_draw : Addr
  d_law_draw : FuncData
  F_law_draw : Fun K "_law_draw" "_law_draw" s_law_draw f_law_draw d_law_draw
  b_law_draw : Binds K d_law_draw P_law_draw []
  m_law_draw : mg "_law_draw" = some (.ref f_law_draw)
  f_law_steps : Addr
  d_law_steps : FuncData
  F_law_steps : Fun K "_law_steps" "_law_steps" s_law_steps f_law_steps d_law_steps
  b_law_steps : Binds K d_law_steps P_law_steps []
  m_law_steps : mg "_law_steps" = some (.ref f_law_steps)
  f_law_step : Addr
  d_law_step : FuncData
  F_law_step : Fun K "_law_step" "_law_step" s_law_step f_law_step d_law_step
  b_law_step : Binds K d_law_step P_law_step []
  m_law_step : mg "_law_step" = some (.ref f_law_step)
  f_law_script : Addr
  d_law_script : FuncData
  F_law_script : Fun K "_law_script" "_law_script" s_law_script f_law_script d_law_script
  b_law_script : Binds K d_law_script P_law_script []
  m_law_script : mg "_law_script" = some (.ref f_law_script)
  f_law_told : Addr
  d_law_told : FuncData
  F_law_told : Fun K "_law_told" "_law_told" s_law_told f_law_told d_law_told
  b_law_told : Binds K d_law_told P_law_told []
  m_law_told : mg "_law_told" = some (.ref f_law_told)
  f_law : Addr
  d_law : FuncData
  F_law : Fun K "law" "law" s_law f_law d_law
  tk0_File_init : Tok
  f_File_init : Addr
  d_File_init : FuncData
  F_File_init : FunV K "__init__" "File.__init__" s_File_init f_File_init d_File_init
  b1_File_init : Binds K d_File_init P_File_init [(.str "" tk0_File_init)]
  f_Keep_init : Addr
  d_Keep_init : FuncData
  F_Keep_init : Fun K "__init__" "Keep.__init__" s_Keep_init f_Keep_init d_Keep_init
  b_Keep_init : Binds K d_Keep_init P_Keep_init []
  f_Keep_size : Addr
  d_Keep_size : FuncData
  F_Keep_size : Fun K "size" "Keep.size" s_Keep_size f_Keep_size d_Keep_size
  b_Keep_size : Binds K d_Keep_size P_Keep_size []
  pr_Keep_size : Addr
  V_Keep_size : PropOf K C_Keep "size" pr_Keep_size f_Keep_size
  f_Lean_init : Addr
  d_Lean_init : FuncData
  F_Lean_init : Fun K "__init__" "Lean.__init__" s_Lean_init f_Lean_init d_Lean_init
  b_Lean_init : Binds K d_Lean_init P_Lean_init []
  f_Lean_size : Addr
  d_Lean_size : FuncData
  F_Lean_size : Fun K "size" "Lean.size" s_Lean_size f_Lean_size d_Lean_size
  b_Lean_size : Binds K d_Lean_size P_Lean_size []
  pr_Lean_size : Addr
  V_Lean_size : PropOf K C_Lean "size" pr_Lean_size f_Lean_size
  f_Dig_init : Addr
  d_Dig_init : FuncData
  F_Dig_init : Fun K "__init__" "Dig.__init__" s_Dig_init f_Dig_init d_Dig_init
  b_Dig_init : Binds K d_Dig_init P_Dig_init []
  f_Dig_size : Addr
  d_Dig_size : FuncData
  F_Dig_size : Fun K "size" "Dig.size" s_Dig_size f_Dig_size d_Dig_size
  b_Dig_size : Binds K d_Dig_size P_Dig_size []
  pr_Dig_size : Addr
  V_Dig_size : PropOf K C_Dig "size" pr_Dig_size f_Dig_size
  f_Script_init : Addr
  d_Script_init : FuncData
  F_Script_init : FunV K "__init__" "Script.__init__" s_Script_init f_Script_init d_Script_init
  b_Script_init : Binds K d_Script_init P_Script_init []
  b1_Script_init : Binds K d_Script_init P_Script_init [.none]
  f_Script_period : Addr
  d_Script_period : FuncData
  F_Script_period : Fun K "period" "Script.period" s_Script_period f_Script_period d_Script_period
  b_Script_period : Binds K d_Script_period P_Script_period []
  pr_Script_period : Addr
  V_Script_period : PropOf K C_Script "period" pr_Script_period f_Script_period
  f_Script_iter : Addr
  d_Script_iter : FuncData
  F_Script_iter : Fun K "__iter__" "Script.__iter__" s_Script_iter f_Script_iter d_Script_iter
  b_Script_iter : Binds K d_Script_iter P_Script_iter []
  M_Script_iter : Meth K C_Script "__iter__" f_Script_iter
  L_File : ICls K C_File
  K_File : Mk K C_File f_File_init
  A_File_row : NoAttr K C_File "row"
  L_Full : ICls K C_Full
  K_Full : Mk0 K C_Full
  L_Keep : ICls K C_Keep
  K_Keep : Mk K C_Keep f_Keep_init
  A_Keep_wide : NoAttr K C_Keep "wide"
  L_Lean : ICls K C_Lean
  K_Lean : Mk K C_Lean f_Lean_init
  A_Lean_wide : NoAttr K C_Lean "wide"
  L_Dig : ICls K C_Dig
  K_Dig : Mk K C_Dig f_Dig_init
  A_Dig_wide : NoAttr K C_Dig "wide"
  L_Script : ICls K C_Script
  K_Script : Mk K C_Script f_Script_init
  A_Script_rows : NoAttr K C_Script "rows"
  ic_Script : PySem.W.isClsIn K C_Script = true
  tc_Script : PySem.W.typeIn K (.ref C_Script) = some (.type "type")
  s_File_Script : PySem.W.kitOne K (.ref C_File) (.ref C_Script) = some false
  si_File_bool : PySem.W.subIn K (.ref C_File) (.type "bool") = some false
  si_File_int : PySem.W.subIn K (.ref C_File) (.type "int") = some false
  s_Full_Dig : PySem.W.kitOne K (.ref C_Full) (.ref C_Dig) = some false
  s_Full_Full : PySem.W.kitOne K (.ref C_Full) (.ref C_Full) = some true
  s_Full_Keep : PySem.W.kitOne K (.ref C_Full) (.ref C_Keep) = some false
  s_Full_Lean : PySem.W.kitOne K (.ref C_Full) (.ref C_Lean) = some false
  s_Full_Script : PySem.W.kitOne K (.ref C_Full) (.ref C_Script) = some false
  s_Full_Step : PySem.W.kitOne K (.ref C_Full) (.ref C_Step) = some true
  si_Full_bool : PySem.W.subIn K (.ref C_Full) (.type "bool") = some false
  si_Full_int : PySem.W.subIn K (.ref C_Full) (.type "int") = some false
  s_Keep_Dig : PySem.W.kitOne K (.ref C_Keep) (.ref C_Dig) = some false
  s_Keep_Full : PySem.W.kitOne K (.ref C_Keep) (.ref C_Full) = some false
  s_Keep_Keep : PySem.W.kitOne K (.ref C_Keep) (.ref C_Keep) = some true
  s_Keep_Lean : PySem.W.kitOne K (.ref C_Keep) (.ref C_Lean) = some false
  s_Keep_Script : PySem.W.kitOne K (.ref C_Keep) (.ref C_Script) = some false
  s_Keep_Step : PySem.W.kitOne K (.ref C_Keep) (.ref C_Step) = some true
  si_Keep_bool : PySem.W.subIn K (.ref C_Keep) (.type "bool") = some false
  si_Keep_int : PySem.W.subIn K (.ref C_Keep) (.type "int") = some false
  s_Lean_Dig : PySem.W.kitOne K (.ref C_Lean) (.ref C_Dig) = some false
  s_Lean_Full : PySem.W.kitOne K (.ref C_Lean) (.ref C_Full) = some false
  s_Lean_Keep : PySem.W.kitOne K (.ref C_Lean) (.ref C_Keep) = some false
  s_Lean_Lean : PySem.W.kitOne K (.ref C_Lean) (.ref C_Lean) = some true
  s_Lean_Script : PySem.W.kitOne K (.ref C_Lean) (.ref C_Script) = some false
  s_Lean_Step : PySem.W.kitOne K (.ref C_Lean) (.ref C_Step) = some true
  si_Lean_bool : PySem.W.subIn K (.ref C_Lean) (.type "bool") = some false
  si_Lean_int : PySem.W.subIn K (.ref C_Lean) (.type "int") = some false
  s_Dig_Dig : PySem.W.kitOne K (.ref C_Dig) (.ref C_Dig) = some true
  s_Dig_Full : PySem.W.kitOne K (.ref C_Dig) (.ref C_Full) = some false
  s_Dig_Keep : PySem.W.kitOne K (.ref C_Dig) (.ref C_Keep) = some false
  s_Dig_Lean : PySem.W.kitOne K (.ref C_Dig) (.ref C_Lean) = some false
  s_Dig_Script : PySem.W.kitOne K (.ref C_Dig) (.ref C_Script) = some false
  s_Dig_Step : PySem.W.kitOne K (.ref C_Dig) (.ref C_Step) = some true
  si_Dig_bool : PySem.W.subIn K (.ref C_Dig) (.type "bool") = some false
  si_Dig_int : PySem.W.subIn K (.ref C_Dig) (.type "int") = some false
  s_Script_Script : PySem.W.kitOne K (.ref C_Script) (.ref C_Script) = some true
  si_Script_bool : PySem.W.subIn K (.ref C_Script) (.type "bool") = some false
  si_Script_int : PySem.W.subIn K (.ref C_Script) (.type "int") = some false
  C_InvalidFile : Addr
  I_InvalidFile : Addr
  mc_InvalidFile : mg "InvalidFile" = some (.ref C_InvalidFile)
  S_InvalidFile : SupX PySem.Challenge.rw_keptholes_k15_refused_reasons.prog K C_InvalidFile I_InvalidFile "value" "value"
  C_InvalidNumber : Addr
  I_InvalidNumber : Addr
  mc_InvalidNumber : mg "InvalidNumber" = some (.ref C_InvalidNumber)
  S_InvalidNumber : SupX PySem.Challenge.rw_keptholes_k15_refused_reasons.prog K C_InvalidNumber I_InvalidNumber "value" "value"
  x_InvalidNumber : XfC K C_InvalidNumber
  e_InvalidNumber_InvalidNumber : PySem.W.exmOne K (.ref C_InvalidNumber) (.ref C_InvalidNumber) = some true
  C_InvalidScript : Addr
  I_InvalidScript : Addr
  mc_InvalidScript : mg "InvalidScript" = some (.ref C_InvalidScript)
  S_InvalidScript : SupX PySem.Challenge.rw_keptholes_k15_refused_reasons.prog K C_InvalidScript I_InvalidScript "value" "value"
  x_InvalidScript : XfC K C_InvalidScript
  e_InvalidScript_InvalidScript : PySem.W.exmOne K (.ref C_InvalidScript) (.ref C_InvalidScript) = some true
  e_InvalidFile_InvalidNumber : PySem.W.exmOne K (.ref C_InvalidFile) (.ref C_InvalidNumber) = some false
  e_InvalidFile_InvalidScript : PySem.W.exmOne K (.ref C_InvalidFile) (.ref C_InvalidScript) = some false
  e_InvalidNumber_InvalidScript : PySem.W.exmOne K (.ref C_InvalidNumber) (.ref C_InvalidScript) = some false
end Kh

set_option Elab.async false
set_option linter.all false
set_option maxRecDepth 100000
set_option maxHeartbeats 4000000
namespace Kh
open PySem PySem.Spec L2
def prR : OK → Bool
  | .file => true
  | .full => true
  | .keep => true
  | .lean => true
  | .dig => true
  | .script => true
  | _ => false
def su_Script : OK → Option Bool
  | .file => some false
  | .full => some false
  | .keep => some false
  | .lean => some false
  | .dig => some false
  | .script => some true
  | _ => none

def m_law_draw (a_purse : (List Int)) (a_many : Int) : Res (Int × (List Int)) :=
  (pix a_purse (0 : Int)).bind fun z1 => cond (decide ((0 : Int) < z1)) ((pix a_purse (0 : Int)).bind fun z2 => (pmod z2 a_many).bind fun z3 => (pix a_purse (0 : Int)).bind fun z4 => (pdiv z4 a_many).bind fun z5 => (pset a_purse (0 : Int) z5).bind fun z6 => Res.ok (z3, z6)) ((pix a_purse (2 : Int)).bind fun z10 => (pset a_purse (2 : Int) (z10 + (1 : Int))).bind fun z11 => (pix z11 (1 : Int)).bind fun z12 => (pix z11 (2 : Int)).bind fun z13 => (pmul ((((z12 * (48271 : Int)) + (z13 * (1299709 : Int))) + (907 : Int)) % (2147483629 : Int)) ((((z12 * (48271 : Int)) + (z13 * (1299709 : Int))) + (907 : Int)) % (2147483629 : Int))).bind fun z14 => (pix z11 (2 : Int)).bind fun z15 => (pmul ((z14 + z15) % (2147483587 : Int)) ((z14 + z15) % (2147483587 : Int))).bind fun z16 => (pmod (((z16 + (69621 : Int)) % (2147483563 : Int)) / (64 : Int)) a_many).bind fun z17 => Res.ok (z17, z11))

def m_law_steps (a_purse : (List Int)) (a_sizes : (List Int)) (a_most : Int) : Res ((List (Str × Int)) × (List Int)) :=
  (m_law_draw a_purse (a_most + (1 : Int))).bind fun z2 => (guard (small62 z2.1) ()).bind fun _ => (foldR (fun (s3 : ((List (Str × Int)) × (List Int))) x4 => (m_law_draw s3.2 (6 : Int)).bind fun z7 => (pix ([("keep" : Str), ("keep" : Str), ("dig" : Str), ("dig" : Str), ("lean" : Str), ("full" : Str)] : List Str) z7.1).bind fun z8 => (m_law_draw z7.2 (a_sizes.length : Int)).bind fun z10 => (pix a_sizes z10.1).bind fun z11 => (papp s3.1 (z8, z11)).bind fun z9 => Res.ok (z9, z10.2)) (rangeL 0 (Int.toNat z2.1)) (([] : List (Str × Int)), z2.2)).bind fun s3 => Res.ok (s3.1, s3.2)

def m_law_purse (a_script : (List Int)) (a_at : Int) : Res (List Int) :=
  (pmod ((cutD a_script (some a_at) (some (a_at + (1 : Int)))).sum) (((10 : Int) ^ Int.toNat (60 : Int)) ^ Int.toNat (10 : Int))).bind fun z1 => (pmul (if (decide (((10 : Int) ^ Int.toNat (18 : Int)) ≤ ((cutD a_script (some a_at) (some (a_at + (1 : Int)))).sum))) then 1 else 0 : Int) z1).bind fun z2 => Res.ok ([z2, (((cutD a_script (some a_at) (some (a_at + (1 : Int)))).sum) % (2147483629 : Int)), ((1000 : Int) * a_at)] : List Int)

inductive StepT where
  | full
  | keep (n : Int)
  | lean (n : Int)
  | dig (n : Int)
  deriving DecidableEq
def stepA : StepT → Any
  | .full => .obj .full []
  | .keep n => .obj .keep [.int n]
  | .lean n => .obj .lean [.int n]
  | .dig n => .obj .dig [.int n]
def is_Dig : StepT → Bool
  | .full => false
  | .keep _ => false
  | .lean _ => false
  | .dig _ => true
def is_Full : StepT → Bool
  | .full => true
  | .keep _ => false
  | .lean _ => false
  | .dig _ => false
def is_Keep : StepT → Bool
  | .full => false
  | .keep _ => true
  | .lean _ => false
  | .dig _ => false
def m_is_whole (a_value : Int) : Res Bool :=
  (andR (Res.ok true) (Res.ok (!false))).bind fun z1 => Res.ok z1

def m_check_least (a_value : Int) (a_least : Int) : Res Unit :=
  (m_is_whole a_value).bind fun z1 => cond z1 (cond (decide (a_value < a_least)) (Res.err ⟨.number, (Any.int a_value)⟩) (Res.ok ())) (Res.err ⟨.number, (Any.int a_value)⟩)

def m_Keep_make (n : Int) : Res Int := (m_check_least n 1).bind fun _ => .ok n

def m_Lean_make (n : Int) : Res Int := (m_check_least n 1).bind fun _ => .ok n

def m_Dig_make (n : Int) : Res Int := (m_check_least n 1).bind fun _ => .ok n

def m_law_step (a_step : (Str × Int)) : Res StepT :=
  cond (decide (a_step.1 = ("full" : Str))) (Res.ok StepT.full) (cond (decide (a_step.1 = ("keep" : Str))) ((m_Keep_make a_step.2).bind fun z2 => Res.ok (StepT.keep z2)) (cond (decide (a_step.1 = ("lean" : Str))) ((m_Lean_make a_step.2).bind fun z4 => Res.ok (StepT.lean z4)) ((m_Dig_make a_step.2).bind fun z6 => Res.ok (StepT.dig z6))))

def m_are_steps (a_value : (List StepT)) : Res Bool :=
  (andR (Res.ok true) ((compR (β := StepT) (fun x1 => Res.ok none) a_value).bind fun l2 => Res.ok (l2.isEmpty))).bind fun z3 => Res.ok z3

def m_Script_make (o : Option (List StepT)) : Res (List StepT) := (m_are_steps (o.getD [])).bind fun b => guard (b = true) (o.getD [])

def m_law_script (a_steps : (List (Str × Int))) : Res (List StepT) :=
  (compR (β := StepT) (fun x1 => (m_law_step x1).bind fun z2 => Res.ok (some z2)) a_steps).bind fun l3 => (m_Script_make (some l3)).bind fun z4 => Res.ok z4

def m_are_cells (a_value : Str) : Res Bool :=
  (andR (Res.ok true) ((compR (β := Nat) (fun x1 => (pcat (".0" : Str) ("abcdefghijklmnopqrstuvwxyz" : Str)).bind fun z2 => cond (!decide (x1 ∈ signsL z2)) (Res.ok (some x1)) (Res.ok none)) (signsL a_value)).bind fun l3 => Res.ok (l3.isEmpty))).bind fun z4 => Res.ok z4

def m_File_make (z : Str) : Res Str := (m_are_cells z).bind fun b => cond b (.ok z) (.err ⟨.file, .str z⟩)

def m_check_script__v2 (a_value : Any) : Res Empty :=
  (pisO su_Script a_value).bind fun z1 => cond z1 (.bad) (Res.err ⟨.script, a_value⟩)

def m_reasons__v2 (a_script : Any) (a_cell : Any) : Res Empty :=
  (m_check_script__v2 a_script).bind fun z1 => z1.elim

def m_law_told (a_script : Any) (a_cell : Any) : Res (List Any) :=
  (Res.grab ((m_reasons__v2 a_script a_cell).bind fun z2 => z2.elim) fun e => match e with | ⟨.script, x3⟩ => Res.ok ([(Any.str ("script" : Str)), x3] : List Any) | ⟨.number, x3⟩ => Res.ok ([(Any.str ("number" : Str)), x3] : List Any) | ⟨.file, x3⟩ => Res.err ⟨.file, x3⟩ | _ => .bad).bind fun (s1 : (List Any)) => Res.ok s1

def m_check_script (a_value : (List StepT)) : Res Unit :=
  Res.ok ()

def m_is_whole__v2 (a_value : Any) : Res Bool :=
  (andR ((pisA prR "int" a_value).bind fun z1 => Res.ok z1) ((pisA prR "bool" a_value).bind fun z2 => Res.ok (!z2))).bind fun z3 => Res.ok z3

def m_check_least__v2 (a_value : Any) (a_least : Int) : Res Empty :=
  (m_is_whole__v2 a_value).bind fun z1 => cond z1 ((AsI a_value).bind fun z3 => cond (decide (z3 < a_least)) (Res.err ⟨.number, a_value⟩) (.bad)) (Res.err ⟨.number, a_value⟩)

def m_reasons__v3 (a_script : (List StepT)) (a_cell : Any) : Res Empty :=
  (m_check_script a_script).bind fun z1 => (m_check_least__v2 a_cell (0 : Int)).bind fun z2 => z2.elim

def m_law_told__v2 (a_script : (List StepT)) (a_cell : Any) : Res (List Any) :=
  (Res.grab ((m_reasons__v3 a_script a_cell).bind fun z2 => z2.elim) fun e => match e with | ⟨.script, x3⟩ => Res.ok ([(Any.str ("script" : Str)), x3] : List Any) | ⟨.number, x3⟩ => Res.ok ([(Any.str ("number" : Str)), x3] : List Any) | ⟨.file, x3⟩ => Res.err ⟨.file, x3⟩ | _ => .bad).bind fun (s1 : (List Any)) => Res.ok s1

/-! divisor_of(one, other) -/
def m_divisor_of (a b : Int) : Res Int := guard (0 ≤ a ∧ 0 ≤ b) (Int.gcd a b : Int)

def m_multiple_of (a_numbers : (List Int)) : Res Int :=
  (foldR (fun (s1 : Int) x2 => (m_divisor_of s1 x2).bind fun z5 => (pdiv s1 z5).bind fun z6 => (pmul z6 x2).bind fun z7 => Res.ok z7) a_numbers (1 : Int)).bind fun s1 => Res.ok s1

def m_Keep_size (a_self : Int) : Res Int :=
  Res.ok a_self

def m_Lean_size (a_self : Int) : Res Int :=
  Res.ok a_self

def m_Dig_size (a_self : Int) : Res Int :=
  Res.ok a_self

def m_Step_size (s : StepT) : Res Int :=
  match s with
  | .full => .bad
  | .keep n => m_Keep_size n
  | .lean n => m_Lean_size n
  | .dig n => m_Dig_size n

def m_Script_period (a_self : (List StepT)) : Res Int :=
  (compR (β := Int) (fun x1 => cond (is_Full x1) (Res.ok none) ((m_Step_size x1).ne.bind fun z2 => Res.ok (some z2))) a_self).bind fun l3 => (m_multiple_of l3).bind fun z4 => Res.ok z4

def m_holds_in (a_one : (Int × Int)) (a_other : (Int × Int)) : Res Bool :=
  (andR (Res.ok (decide ((Builtin.bitAnd a_one.1 a_other.1) = a_one.1))) (Res.ok (decide ((Builtin.bitAnd a_one.2 a_other.2) = a_one.2)))).bind fun z1 => Res.ok z1

def m_is_held__v2 (a_rows : (List (Int × Int))) (a_other : (Int × Int)) : Res Bool :=
  (forR (ρ := Bool) (fun (s1 : Unit) x2 => (m_holds_in x2 a_other).bind fun z5 => cond z5 (Res.ok (Ctl.rt true)) (Res.ok (Ctl.nx ()))) a_rows ()).bind (Ctl.fin (fun s1 => Res.ok false) (fun r => Res.ok r))

def m_least_of (a_rows : (List (Int × Int))) : Res (List (Int × Int)) :=
  (psrt a_rows).bind fun z2 => (foldR (fun (s3 : (List (Int × Int))) x4 => ((m_is_held__v2 s3 x4).bind fun z8 => cond z8 (Res.ok s3) ((papp s3 x4).bind fun z9 => Res.ok z9)).bind fun (s7 : (List (Int × Int))) => Res.ok s7) z2 ([] : List (Int × Int))).bind fun s3 => Res.ok s3

def m_dug (a_rows : List (Int × Int)) (a_bits : List Int) : Res (List (Int × Int)) :=
  (compR (β := (Int × Int)) (fun x1 => cond (decide ((Builtin.bitAnd x1.2 (a_bits.sum)) = (0 : Int))) (Res.ok (some x1)) (Res.ok none)) a_rows).bind fun l => cond l.isEmpty (Res.ok a_rows) ((foldR (fun (s : List (Int × Int)) (x : Int × Int) => cond (!decide ((Builtin.bitAnd x.2 (a_bits.sum)) = (0 : Int))) (papp s (x.1, x.2)) ((compR (β := (Int × Int)) (fun (bit : Int) => Res.ok (some ((Builtin.bitOr x.1 bit), (Builtin.bitOr x.2 bit)))) a_bits).bind fun l2 => pcatL s l2)) a_rows ([] : List (Int × Int))).bind fun s => (m_least_of s).bind fun z => Res.ok z)

def m_behind_step (a_step : StepT) (a_table : (List (List (Int × Int)))) : Res (List (List (Int × Int))) :=
  cond (is_Full a_step) ((compR (β := (List (Int × Int))) (fun x1 => Res.ok (some ([((0 : Int), (0 : Int))] : List (Int × Int)))) a_table).bind fun l2 => Res.ok l2) ((m_Step_size a_step).ne.bind fun z4 => (guard (rng3ok (0 : Int) (a_table.length : Int) z4) ()).bind fun _ => (foldR (fun (s5 : (List (List (Int × Int)))) x6 => (m_Step_size a_step).ne.bind fun z9 => (guard (small62 x6 ∧ small62 (x6 + ((cutD a_table (some x6) (some (x6 + z9))).length : Int))) ()).bind fun _ => (compR (β := Int) (fun x10 => (pshl (1 : Int) x10).bind fun z11 => Res.ok (some z11)) (rangeL x6 (Int.toNat ((x6 + ((cutD a_table (some x6) (some (x6 + z9))).length : Int)) - x6)))).bind fun l12 => (cond (is_Keep a_step) ((pflat (cutD a_table (some x6) (some (x6 + z9)))).bind fun l14 => (m_least_of l14).bind fun z15 => (compR (β := (List (Int × Int))) (fun x16 => Res.ok (some z15)) (cutD a_table (some x6) (some (x6 + z9)))).bind fun l17 => (pcatL s5 l17).bind fun z18 => Res.ok z18) ((cond (is_Dig a_step) ((compR (β := (List (Int × Int))) (fun x23 => (m_dug x23 l12).bind fun z24 => Res.ok (some z24)) (cutD a_table (some x6) (some (x6 + z9)))).bind fun l25 => (pcatL s5 l25).bind fun z26 => Res.ok z26) ((compR (β := (List (Int × Int))) (fun x29 => (compR (β := (Int × Int)) (fun x30 => Res.ok (some (x30, x30))) l12).bind fun l31 => Res.ok (some l31)) (cutD a_table (some x6) (some (x6 + z9)))).bind fun l32 => (pcatL s5 l32).bind fun z33 => Res.ok z33)).bind fun (s22 : (List (List (Int × Int)))) => Res.ok s22)).bind fun (s13 : (List (List (Int × Int)))) => Res.ok s13) (rangeC (0 : Int) z4 (Int.toNat (((a_table.length : Int) - (0 : Int) + z4 - 1) / z4))) ([] : List (List (Int × Int)))).bind fun s5 => Res.ok s5)

def m_reason_table (a_script : (List StepT)) : Res (List (List (Int × Int))) :=
  (m_Script_period a_script).ne.bind fun z1 => (guard (small62 z1) ()).bind fun _ => (compR (β := (List (Int × Int))) (fun x2 => (pshl (1 : Int) x2).bind fun z3 => Res.ok (some ([(z3, (0 : Int))] : List (Int × Int)))) (rangeL 0 (Int.toNat z1))).bind fun l4 => (foldR (fun (s5 : (List (List (Int × Int)))) x6 => (m_behind_step x6 s5).bind fun z9 => Res.ok z9) a_script l4).bind fun s5 => Res.ok s5

def m_cells_of (a_bits : Int) (a_first : Int) (a_period : Int) : Res (List Int) :=
  (guard (small62 a_period) ()).bind fun _ => (compR (β := Int) (fun x1 => (pshr a_bits x1).bind fun z2 => cond (decide ((Builtin.bitAnd z2 (1 : Int)) = (1 : Int))) (Res.ok (some (a_first + x1))) (Res.ok none)) (rangeL 0 (Int.toNat a_period))).bind fun l3 => Res.ok l3

def m_reasons (a_script : (List StepT)) (a_cell : Int) : Res (List ((List Int) × (List Int))) :=
  (m_check_script a_script).bind fun z1 => (m_check_least a_cell (0 : Int)).bind fun z2 => (m_Script_period a_script).ne.bind fun z3 => (pdiv a_cell z3).bind fun z4 => (pmul z4 z3).bind fun z5 => (m_reason_table a_script).bind fun z6 => (pix z6 (a_cell - z5)).bind fun z7 => (compR (β := ((List Int) × (List Int))) (fun x8 => (m_cells_of x8.2 z5 z3).bind fun z9 => (m_cells_of (x8.1 - x8.2) z5 z3).bind fun z10 => Res.ok (some (z9, z10))) z7).bind fun l11 => (psrtD (py2 (pyL pyI) (pyL pyI)) l11).bind fun z12 => Res.ok z12

def m_law_told__v3 (a_script : (List StepT)) (a_cell : Int) : Res (List Any) :=
  (Res.grab ((m_reasons a_script a_cell).bind fun z2 => Res.ok ([(Any.str ("none" : Str))] : List Any)) fun e => match e with | ⟨.script, x4⟩ => Res.ok ([(Any.str ("script" : Str)), x4] : List Any) | ⟨.number, x4⟩ => Res.ok ([(Any.str ("number" : Str)), x4] : List Any) | ⟨.file, x4⟩ => Res.err ⟨.file, x4⟩ | _ => .bad).bind fun (s1 : (List Any)) => Res.ok s1

def m_law (a_script : (List Int)) : Res Bool :=
  (m_law_purse a_script (0 : Int)).bind fun z2 => (m_law_steps z2 ([(1 : Int), (2 : Int), (3 : Int)] : List Int) (3 : Int)).bind fun z4 => (m_law_script z4.1).bind fun z5 => (compR (β := StepT) (fun x6 => (m_law_step x6).bind fun z7 => Res.ok (some z7)) z4.1).bind fun l8 => Res.all fun q9 => Res.all fun q10 => Res.all fun q11 => Res.all fun q12 => (m_File_make ("" : Str)).bind fun z13 => Res.all fun q14 => (forR (ρ := Bool) (fun (s15 : Unit) x16 => (forR (ρ := Bool) (fun (s19 : Unit) x20 => (m_law_told x16 x20).bind fun z23 => ((peqA z23 ([(Any.str ("script" : Str)), x16] : List Any)).bind fun b => Res.ok !b).bind fun z24 => cond z24 (Res.ok (Ctl.rt false)) (Res.ok (Ctl.nx ()))) ([(Any.int (0 : Int)), Any.non, (Any.int ((0 : Int) - (1 : Int)))] : List Any) ()).bind (Ctl.fin (fun s19 => Res.ok (Ctl.nx ())) (fun r => Res.ok (Ctl.rt r)))) ([Any.non, (Any.tag q9 (Any.lst (l8.map stepA))), (Any.int (0 : Int)), (Any.tag q10 ((fun _ => Any.obj .full []) ())), (Any.tup []), (Any.str ("full" : Str)), (Any.tag q11 .dic), (Any.tag q12 (Any.lst [((fun xs => Any.obj .script [.tup (xs.map stepA)]) z5)])), (Any.tag q14 ((fun z => Any.obj .file [.str z]) z13)), (Any.bl true)] : List Any) ()).bind (Ctl.fin (fun s15 => Res.all fun q31 => Res.all fun q32 => (forR (ρ := Bool) (fun (s33 : Unit) x34 => (m_law_told__v2 z5 x34).bind fun z37 => ((peqA z37 ([(Any.str ("number" : Str)), x34] : List Any)).bind fun b => Res.ok !b).bind fun z38 => cond z38 (Res.ok (Ctl.rt false)) ((m_Script_make none).bind fun z40 => (m_law_told__v2 z40 x34).bind fun z41 => ((peqA z41 ([(Any.str ("number" : Str)), x34] : List Any)).bind fun b => Res.ok !b).bind fun z42 => cond z42 (Res.ok (Ctl.rt false)) (Res.ok (Ctl.nx ())))) ([(Any.int ((0 : Int) - (1 : Int))), (Any.int ((0 : Int) - ((10 : Int) ^ Int.toNat (39 : Int)))), Any.non, (Any.bl true), (Any.bl false), (Any.str ("0" : Str)), (Any.lst [(Any.int (0 : Int))]), (Any.tup [(Any.int (0 : Int))]), (Any.tag q31 .dic), (Any.tag q32 ((fun xs => Any.obj .script [.tup (xs.map stepA)]) z5))] : List Any) ()).bind (Ctl.fin (fun s33 => (andR ((m_law_told__v3 z5 (0 : Int)).bind fun z47 => (peqA z47 ([(Any.str ("none" : Str))] : List Any)).bind fun z48 => Res.ok z48) ((m_law_told__v3 z5 ((10 : Int) ^ Int.toNat (39 : Int))).bind fun z49 => (peqA z49 ([(Any.str ("none" : Str))] : List Any)).bind fun z50 => Res.ok z50)).bind fun z51 => Res.ok z51) (fun r => Res.ok r))) (fun r => Res.ok r))
end Kh

set_option Elab.async false
set_option linter.all false
set_option maxRecDepth 100000
set_option maxHeartbeats 4000000
namespace Kh
open PySem PySem.Spec L2
open PySem.W (Frag)
abbrev PR : Program := PySem.Challenge.rw_keptholes_k15_refused_reasons.prog
section
variable {w : World} {K : Frag} {mg : Str → Option Value} {base : Heap}
def clR (R : Prg K mg) : OK → Addr × List Str
  | .file => (R.C_File, ["row"])
  | .full => (R.C_Full, [])
  | .keep => (R.C_Keep, ["wide"])
  | .lean => (R.C_Lean, ["wide"])
  | .dig => (R.C_Dig, ["wide"])
  | .script => (R.C_Script, ["rows"])
  | _ => (0, [])
theorem icR (R : Prg K mg) : ∀ k, prR k = true → ICls K (clR R k).1
  | .file, _ => R.L_File
  | .full, _ => R.L_Full
  | .keep, _ => R.L_Keep
  | .lean, _ => R.L_Lean
  | .dig, _ => R.L_Dig
  | .script, _ => R.L_Script
  | .history, h => nomatch h
  | .store, h => nomatch h
  | .copier, h => nomatch h
theorem sub_bool (R : Prg K mg) : ∀ k, prR k = true → PySem.W.subIn K (.ref (clR R k).1) (.type "bool") = some false
  | .file, _ => R.si_File_bool
  | .full, _ => R.si_Full_bool
  | .keep, _ => R.si_Keep_bool
  | .lean, _ => R.si_Lean_bool
  | .dig, _ => R.si_Dig_bool
  | .script, _ => R.si_Script_bool
  | .history, h => nomatch h
  | .store, h => nomatch h
  | .copier, h => nomatch h
theorem sub_int (R : Prg K mg) : ∀ k, prR k = true → PySem.W.subIn K (.ref (clR R k).1) (.type "int") = some false
  | .file, _ => R.si_File_int
  | .full, _ => R.si_Full_int
  | .keep, _ => R.si_Keep_int
  | .lean, _ => R.si_Lean_int
  | .dig, _ => R.si_Dig_int
  | .script, _ => R.si_Script_int
  | .history, h => nomatch h
  | .store, h => nomatch h
  | .copier, h => nomatch h
theorem suR_Script (R : Prg K mg) : ∀ k b, su_Script k = some b → ICls K (clR R k).1 ∧ PySem.W.kitOne K (.ref (clR R k).1) (.ref R.C_Script) = some b
  | .file, b, h => by cases h; exact ⟨R.L_File, R.s_File_Script⟩
  | .full, b, h => by cases h; exact ⟨R.L_Full, R.s_Full_Script⟩
  | .keep, b, h => by cases h; exact ⟨R.L_Keep, R.s_Keep_Script⟩
  | .lean, b, h => by cases h; exact ⟨R.L_Lean, R.s_Lean_Script⟩
  | .dig, b, h => by cases h; exact ⟨R.L_Dig, R.s_Dig_Script⟩
  | .script, b, h => by cases h; exact ⟨R.L_Script, R.s_Script_Script⟩
  | .history, _, h => nomatch h
  | .store, _, h => nomatch h
  | .copier, _, h => nomatch h
def exE (R : Prg K mg) : Er → Exn
  | ⟨.file, v⟩ => ⟨R.C_InvalidFile, ["value"], [anyD (clR R) v]⟩
  | ⟨.number, v⟩ => ⟨R.C_InvalidNumber, ["value"], [anyD (clR R) v]⟩
  | ⟨.script, v⟩ => ⟨R.C_InvalidScript, ["value"], [anyD (clR R) v]⟩
  | _ => ⟨0, [], []⟩
/-! plain words -/
theorem ln {ds : List Dat} (h : Nat.ble ds.length 1000 = true := by rfl) : ds.length ≤ sizeLine := Nat.le_trans (Nat.le_of_ble_eq_true h) (by decide)
/-- the script: a list of at most 63 whole numbers -/
def spLaw : Spc := fun ds M P _ => ∃ ns : List Int, ns.length ≤ 63 ∧ ds = [.scr ns] ∧ M = [] ∧ P (.bl true) []
theorem law_sp {K : Frag} {H : Hp} {a : Addr} {ns : List Int} (hl : ns.length ≤ 63) (hS : SqL K H a (ns.map V.int)) : toSp K spLaw [.ref a] H (fun v _ => v = .bl true) fun _ _ _ => False := law_spS hS ⟨ns, hl, rfl, rfl, rfl⟩
def S_law_draw (R : Prg K mg) : Spc := fun ds M P E => ∃ (P_purse : Addr) (a_purse : (List Int)) (a_many : Int), ds = [.raw (.ref P_purse), (.int a_many)] ∧ M = [(P_purse, .lst (a_purse.map Dat.int))] ∧ (m_law_draw a_purse a_many).Out (fun r => P (.int r.1) [(P_purse, .lst (r.2.map Dat.int))]) (fun _ => False)
theorem ok_law_draw (R : Prg K mg) : FnD PR w K mg base 1 R.f_law_draw R.d_law_draw P_law_draw (S_law_draw R) := by
  refine fn_d false R.F_law_draw sc_law_draw (fun h => nomatch h) (fun ds M P E ⟨_, _, _, e, _⟩ => by rw [e]; rfl) fun cdv A outer s H E hr ds M Pd PE h => ?_
  obtain ⟨P_purse, a_purse, a_many, rfl, rfl, h⟩ := h
  have hu := hr.units
  refine WS.ends ?_
  refine ws_if <| et_cmp <| ex_ix <| ex_var ⟨rfl, rfl⟩ <| ex_int <| r_ixC [] Dat.int (xs := a_purse) (ob h) fun z1 h => ex_int <| o_gt <| ⟨_, rfl, cif h (fun h => ?g9) (fun h => ?g22)⟩
  case g9 =>
    refine ws_set <| ex_bin <| ex_ix <| ex_var ⟨rfl, rfl⟩ <| ex_int <| r_ixC [] Dat.int (xs := a_purse) (ob h) fun z2 h => ex_var ⟨rfl, rfl⟩ <| r_mod (ob h) fun z3 h => ?_
    refine ws_asg <| ex_bin <| ex_ix <| ex_var ⟨rfl, rfl⟩ <| ex_int <| r_ixC [] Dat.int (xs := a_purse) (ob h) fun z4 h => ex_var ⟨rfl, rfl⟩ <| r_div (ob h) fun z5 h => gx_subT <| ex_var ⟨rfl, rfl⟩ <| ex_int <| r_set [] Dat.int (xs := a_purse) (x := z5) (ob h) fun z6 h => ?_
    exact ws_ret <| ex_var ⟨rfl, rfl⟩ <| (dN [] h)
  case g22 =>
    refine ws_nil ?_
    refine ws_asg <| ex_bin <| ex_ix <| ex_var ⟨rfl, rfl⟩ <| ex_int <| r_ixC [] Dat.int (xs := a_purse) (ob h) fun z10 h => ex_int <| o_add <| gx_subT <| ex_var ⟨rfl, rfl⟩ <| ex_int <| r_set [] Dat.int (xs := a_purse) (x := (z10 + (1 : Int))) (ob h) fun z11 h => ?_
    refine ws_set <| ex_bin <| ex_bin <| ex_bin <| ex_bin <| ex_ix <| ex_var ⟨rfl, rfl⟩ <| ex_int <| r_ixC [] Dat.int (xs := z11) (ob h) fun z12 h => ex_int <| o_mulS (.inr (by decide)) <| ex_bin <| ex_ix <| ex_var ⟨rfl, rfl⟩ <| ex_int <| r_ixC [] Dat.int (xs := z11) (ob h) fun z13 h => ex_int <| o_mulS (.inr (by decide)) <| o_add <| ex_int <| o_add <| ex_int <| o_mod (by decide) <| ?_
    refine ws_set <| ex_bin <| ex_bin <| ex_bin <| ex_var ⟨rfl, rfl⟩ <| ex_var ⟨rfl, rfl⟩ <| r_mul (ob h) fun z14 h => ex_ix <| ex_var ⟨rfl, rfl⟩ <| ex_int <| r_ixC [] Dat.int (xs := z11) (ob h) fun z15 h => o_add <| ex_int <| o_mod (by decide) <| ?_
    refine ws_set <| ex_bin <| ex_bin <| ex_bin <| ex_var ⟨rfl, rfl⟩ <| ex_var ⟨rfl, rfl⟩ <| r_mul (ob h) fun z16 h => ex_int <| o_add <| ex_int <| o_mod (by decide) <| ?_
    exact ws_ret <| ex_bin <| ex_bin <| ex_var ⟨rfl, rfl⟩ <| ex_int <| o_div ⟨by decide, by decide⟩ <| ex_var ⟨rfl, rfl⟩ <| r_mod (ob h) fun z17 h => (dN [] h)

def S_law_steps (R : Prg K mg) : Spc := fun ds M P E => ∃ (P_purse : Addr) (a_purse : (List Int)) (a_sizes : (List Int)) (a_most : Int), ds = [.raw (.ref P_purse), ((lstD Dat.int) a_sizes), (.int a_most)] ∧ M = [(P_purse, .lst (a_purse.map Dat.int))] ∧ (m_law_steps a_purse a_sizes a_most).Out (fun r => P ((lstD (pairD Dat.str Dat.int)) r.1) [(P_purse, .lst (r.2.map Dat.int))]) (fun _ => False)
theorem ok_law_steps (R : Prg K mg) : FnD PR w K mg base 2 R.f_law_steps R.d_law_steps P_law_steps (S_law_steps R) := by
  refine fn_d false R.F_law_steps sc_law_steps (fun h => nomatch h) (fun ds M P E ⟨_, _, _, _, e, _⟩ => by rw [e]; rfl) fun cdv A outer s H E hr ds M Pd PE h => ?_
  obtain ⟨P_purse, a_purse, a_sizes, a_most, rfl, rfl, h⟩ := h
  have hu := hr.units
  refine WS.ends ?_
  refine ws_set <| ex_lstC <| ea_nil ⟨ln, fun q1 _ => ?_⟩
  refine ws_forT <| ei_rng1 R.n_range <| ex_callA (ok_law_draw R) (hr.mono (by decide)) R.m_law_draw R.F_law_draw R.b_law_draw <| ea_cons <| ex_var ⟨rfl, rfl⟩ <| ea_cons <| ex_bin <| ex_var ⟨rfl, rfl⟩ <| ex_int <| o_add <| ea_nil <| apC [_] ⟨_, a_purse, (a_most + (1 : Int)), rfl, rfl, outC1 (ob h) (fun z2 h => ⟨z2.1, rfl, (gd (ob h)).1, have h := (gd (ob h)).2; foldT Dat.int (xs := (rangeL 0 (Int.toNat z2.1))) (fun (s3 : ((List (Str × Int)) × (List Int))) τ M' => ∃ d4 d5, [some (.raw (.ref P_purse)), some ((lstD Dat.int) a_sizes), some (.int a_most), some (.raw (.ref q1)), d4, d5] = τ ∧ (q1, .lst (s3.1.map (pairD Dat.str Dat.int))) :: (P_purse, .lst (s3.2.map Dat.int)) :: [] = M') (ob h) ⟨_, _, rfl, rfl⟩ (fun _ _ _ _ => trivial) ?g14 ?g15⟩) (fun _ h => h)⟩
  case g14 =>
    rintro x4 s3 _ _ N ⟨d4, d5, rfl, rfl⟩ h
    refine gx_name  <| ?_
    refine ws_set <| ex_ix <| ex_lst <| ea_cons <| ex_str <| ea_cons <| ex_str <| ea_cons <| ex_str <| ea_cons <| ex_str <| ea_cons <| ex_str <| ea_cons <| ex_str <| ea_nil ⟨ln, ex_callA (ok_law_draw R) (hr.mono (by decide)) R.m_law_draw R.F_law_draw R.b_law_draw <| ea_cons <| ex_var ⟨rfl, rfl⟩ <| ea_cons <| ex_int <| ea_nil <| apC [_] ⟨_, s3.2, (6 : Int), rfl, rfl, outC1 (ob h) (fun z7 h => r_ix Dat.str (xs := ([("keep" : Str), ("keep" : Str), ("dig" : Str), ("dig" : Str), ("lean" : Str), ("full" : Str)] : List Str)) (ob h) fun z8 h => ?_) (fun _ h => h)⟩⟩
    refine ws_expr <| r_app [] (pairD Dat.str Dat.int) (xs := s3.1) <| ex_var ⟨rfl, rfl⟩ ⟨rfl, rfl, ea_cons <| ex_tup <| ea_cons <| ex_var ⟨rfl, rfl⟩ <| ea_cons <| ex_ix <| ex_var ⟨rfl, rfl⟩ <| ex_callA (ok_law_draw R) (hr.mono (by decide)) R.m_law_draw R.F_law_draw R.b_law_draw <| ea_cons <| ex_var ⟨rfl, rfl⟩ <| ea_cons <| ex_callB R.n_len PyProof.Rows.Boot.«len» <| ea_cons <| ex_var ⟨rfl, rfl⟩ <| ea_nil <| c_lenT Dat.int (xs := a_sizes) <| ea_nil <| apC [_] ⟨_, z7.2, (a_sizes.length : Int), rfl, rfl, outC1 (ob h) (fun z10 h => r_ix Dat.int (xs := a_sizes) (ob h) fun z11 h => ea_nil ⟨ln, ea_nil <| b_app [] (pairD Dat.str Dat.int) (xs := s3.1) (x := (z8, z11)) (ob h) fun z9 h => ?_⟩) (fun _ h => h)⟩⟩
    exact ws_nil ⟨(z9, z10.2), ⟨_, _, rfl, rfl⟩, h⟩
  case g15 =>
    rintro s3 _ _ ⟨d4, d5, rfl, rfl⟩ h
    exact ws_ret <| ex_frz <| ex_var ⟨rfl, rfl⟩ ⟨_, _, _, rfl, (List.perm_middle (l₁ := [])), (dN [] h)⟩

def S_law_purse (R : Prg K mg) : Spc := fun ds M P E => ∃ (a_script : (List Int)) (a_at : Int), ds = [(.scr a_script), (.int a_at)] ∧ (m_law_purse a_script a_at).Out (fun r => ∀ q, P (.raw (.ref q)) ((q, .lst (r.map Dat.int)) :: M)) (fun x => E (exE R x) M)
theorem ok_law_purse (R : Prg K mg) : FnD PR w K mg base 1 R.f_law_purse R.d_law_purse P_law_purse (S_law_purse R) := by
  refine fn_d false R.F_law_purse sc_law_purse (fun h => nomatch h) (fun ds M P E ⟨_, _, e, _⟩ => by rw [e]; rfl) fun cdv A outer s H E hr ds M Pd PE h => ?_
  obtain ⟨a_script, a_at, rfl, h⟩ := h
  have hu := hr.units
  refine WS.ends ?_
  refine ws_set <| ex_callTy R.n_int PyProof.Rows.Boot.«int» <| ea_cons <| ex_callB R.n_sum PyProof.Rows.Boot.«sum» <| ea_cons <| ex_sl <| ex_var ⟨rfl, rfl⟩ <| ep_some <| ex_var ⟨rfl, rfl⟩ <| ⟨_, rfl, ep_some <| ex_bin <| ex_var ⟨rfl, rfl⟩ <| ex_int <| o_add <| ⟨_, rfl, l_scrT <| ea_nil <| c_sumT (ns := (cutD a_script (some a_at) (some (a_at + (1 : Int))))) <| ea_nil <| c_int_i <| ?_⟩⟩
  exact ws_ret <| ex_lstC <| ea_cons <| ex_bin <| ex_callTy R.n_int PyProof.Rows.Boot.«int» <| ea_cons <| ex_cmp <| ex_var ⟨rfl, rfl⟩ <| ex_bin <| ex_int <| ex_int <| o_powW (by decide +kernel) <| o_ge <| ea_nil <| c_int_b <| ex_bin <| ex_var ⟨rfl, rfl⟩ <| ex_bin <| ex_bin <| ex_int <| ex_int <| o_powW (by decide +kernel) <| ex_int <| o_powW (by decide +kernel) <| r_mod (ob h) fun z1 h => r_mul (ob h) fun z2 h => ea_cons <| ex_bin <| ex_var ⟨rfl, rfl⟩ <| ex_int <| o_mod (by decide) <| ea_cons <| ex_bin <| ex_int <| ex_var ⟨rfl, rfl⟩ <| o_mulS (.inl (by decide)) <| ea_nil ⟨ln, fun q _ => dN [] (h q)⟩

abbrev fileD (R : Prg K mg) (z : Str) : Dat := .obj R.C_File ["row"] [.str z]
abbrev fullD (R : Prg K mg) (_ : Unit) : Dat := .obj R.C_Full [] []
abbrev keepD (R : Prg K mg) (n : Int) : Dat := .obj R.C_Keep ["wide"] [.int n]
abbrev leanD (R : Prg K mg) (n : Int) : Dat := .obj R.C_Lean ["wide"] [.int n]
abbrev digD (R : Prg K mg) (n : Int) : Dat := .obj R.C_Dig ["wide"] [.int n]
abbrev stepD (R : Prg K mg) : StepT → Dat
  | .full => fullD R ()
  | .keep n => keepD R n
  | .lean n => leanD R n
  | .dig n => digD R n
theorem stepA_D (R : Prg K mg) (s : StepT) : anyD (clR R) (stepA s) = stepD R s := by
  cases s <;> simp [stepA, anyD, anyDL, stepD, clR]
theorem stepA_comp (R : Prg K mg) : anyD (clR R) ∘ stepA = stepD R := funext fun s => stepA_D R s
theorem isStep (R : Prg K mg) (s : StepT) : ∃ t, (∀ M, TyD K M (stepD R s) t) ∧ PySem.W.kitOne K t (.ref R.C_Step) = some true := by
  cases s with
  | full => exact ⟨_, fun M => .obj R.L_Full, R.s_Full_Step⟩
  | keep n => exact ⟨_, fun M => .obj R.L_Keep, R.s_Keep_Step⟩
  | lean n => exact ⟨_, fun M => .obj R.L_Lean, R.s_Lean_Step⟩
  | dig n => exact ⟨_, fun M => .obj R.L_Dig, R.s_Dig_Step⟩
theorem isin_Dig (R : Prg K mg) (s : StepT) : ∃ t, (∀ M, TyD K M (stepD R s) t) ∧ PySem.W.kitOne K t (.ref R.C_Dig) = some (is_Dig s) := by
  cases s with
  | full => exact ⟨_, fun M => .obj R.L_Full, R.s_Full_Dig⟩
  | keep n => exact ⟨_, fun M => .obj R.L_Keep, R.s_Keep_Dig⟩
  | lean n => exact ⟨_, fun M => .obj R.L_Lean, R.s_Lean_Dig⟩
  | dig n => exact ⟨_, fun M => .obj R.L_Dig, R.s_Dig_Dig⟩
theorem isin_Full (R : Prg K mg) (s : StepT) : ∃ t, (∀ M, TyD K M (stepD R s) t) ∧ PySem.W.kitOne K t (.ref R.C_Full) = some (is_Full s) := by
  cases s with
  | full => exact ⟨_, fun M => .obj R.L_Full, R.s_Full_Full⟩
  | keep n => exact ⟨_, fun M => .obj R.L_Keep, R.s_Keep_Full⟩
  | lean n => exact ⟨_, fun M => .obj R.L_Lean, R.s_Lean_Full⟩
  | dig n => exact ⟨_, fun M => .obj R.L_Dig, R.s_Dig_Full⟩
theorem isin_Keep (R : Prg K mg) (s : StepT) : ∃ t, (∀ M, TyD K M (stepD R s) t) ∧ PySem.W.kitOne K t (.ref R.C_Keep) = some (is_Keep s) := by
  cases s with
  | full => exact ⟨_, fun M => .obj R.L_Full, R.s_Full_Keep⟩
  | keep n => exact ⟨_, fun M => .obj R.L_Keep, R.s_Keep_Keep⟩
  | lean n => exact ⟨_, fun M => .obj R.L_Lean, R.s_Lean_Keep⟩
  | dig n => exact ⟨_, fun M => .obj R.L_Dig, R.s_Dig_Keep⟩
abbrev scriptD (R : Prg K mg) (xs : List StepT) : Dat := .obj R.C_Script ["rows"] [vtpD (stepD R) xs]

def S_is_whole (R : Prg K mg) : Spc := fun ds M P E => ∃ (a_value : Int), ds = [(.int a_value)] ∧ (m_is_whole a_value).Out (fun r => P (.bl r) M) (fun x => E (exE R x) M)
theorem ok_is_whole (R : Prg K mg) : FnD PR w K mg base 1 R.f_is_whole R.d_is_whole P_is_whole (S_is_whole R) := by
  refine fn_d false R.F_is_whole sc_is_whole (fun h => nomatch h) (fun ds M P E ⟨_, e, _⟩ => by rw [e]; rfl) fun cdv A outer s H E hr ds M Pd PE h => ?_
  obtain ⟨a_value, rfl, h⟩ := h
  have hu := hr.units
  refine WS.ends ?_
  exact ws_ret <| exJQ Dat.bl (ob h) (fun _ h => exA h (fun _ h => ex_callB R.n_isinstance PyProof.Rows.Boot.«isinstance» <| ea_cons <| ex_var ⟨rfl, rfl⟩ <| ea_cons <| ex_gty R.n_int PyProof.Rows.Boot.«int» <| ea_nil <| c_isi (k := true) (.ty _) .int (by rfl) <| ⟨rfl, true, rfl, h⟩) (fun h => ex_and1 <| ex_not <| ex_callB R.n_isinstance PyProof.Rows.Boot.«isinstance» <| ea_cons <| ex_var ⟨rfl, rfl⟩ <| ea_cons <| ex_gty R.n_bool PyProof.Rows.Boot.«bool» <| ea_nil <| c_isi (k := false) (.ty _) .int (by rfl) <| ⟨_, rfl, ⟨rfl, (!false), rfl, h⟩⟩)) fun z1 h => (dN [] h)

def S_check_least (R : Prg K mg) : Spc := fun ds M P E => ∃ (a_value : Int) (a_least : Int), ds = [(.int a_value), (.int a_least)] ∧ (m_check_least a_value a_least).Out (fun r => P .non M) (fun x => E (exE R x) M)
theorem ok_check_least (R : Prg K mg) : FnD PR w K mg base 2 R.f_check_least R.d_check_least P_check_least (S_check_least R) := by
  refine fn_d false R.F_check_least sc_check_least (fun h => nomatch h) (fun ds M P E ⟨_, _, e, _⟩ => by rw [e]; rfl) fun cdv A outer s H E hr ds M Pd PE h => ?_
  obtain ⟨a_value, a_least, rfl, h⟩ := h
  have hu := hr.units
  refine WS.ends ?_
  refine ws_if <| et_w <| ew_or <| et_not <| et_val <| ex_callF (ok_is_whole R) (hr.mono (by decide)) R.m_is_whole R.F_is_whole R.b_is_whole <| ea_cons <| ex_var ⟨rfl, rfl⟩ <| ea_nil <| ⟨a_value, rfl, outU (ob h) (fun z1 h => ⟨_, rfl, cifN h (fun h => ew_or1 <| et_cmp <| ex_var ⟨rfl, rfl⟩ <| ex_var ⟨rfl, rfl⟩ <| o_lt <| ⟨_, rfl, cif h (fun h => ?g3) (fun h => ?g4)⟩) (fun h => ⟨fun _ => ?g2, fun z => nomatch z⟩)⟩) (fun _ h => dX [] h)⟩
  case g2 =>
    exact ws_raise rfl R.S_InvalidNumber R.mc_InvalidNumber R.n_super hr <| ex_asA <| ex_var ⟨rfl, rfl⟩ <| ⟨anyD (clR R) (Any.int a_value), (by first | rfl | (simp only [anyD, anyDL, anyDL_map, List.map_map]; done) | (simp only [anyD, anyDL, anyDL_map, List.map_map]; rfl) | (simp only [anyD, anyDL, anyDL_map, List.map_map, stepA_comp, stepA_D]; rfl) | (simp only [anyD, anyDL, anyDL_map, List.map_map, stepA_comp, stepA_D]; done)), (dX [] h)⟩
  case g3 =>
    exact ws_raise rfl R.S_InvalidNumber R.mc_InvalidNumber R.n_super hr <| ex_asA <| ex_var ⟨rfl, rfl⟩ <| ⟨anyD (clR R) (Any.int a_value), (by first | rfl | (simp only [anyD, anyDL, anyDL_map, List.map_map]; done) | (simp only [anyD, anyDL, anyDL_map, List.map_map]; rfl) | (simp only [anyD, anyDL, anyDL_map, List.map_map, stepA_comp, stepA_D]; rfl) | (simp only [anyD, anyDL, anyDL_map, List.map_map, stepA_comp, stepA_D]; done)), (dX [] h)⟩
  case g4 =>
    refine ws_nil ?_
    exact ws_nil (dN [] h)

def S_Keep_init (R : Prg K mg) : Spc := fun ds M P E => ∃ q dx n M0, ds = [.raw (.ref q), .int n] ∧ M = (q, .ins R.C_Keep dx []) :: M0 ∧ (m_Keep_make n).Out (fun r => P .non ((q, .ins R.C_Keep dx [("wide", .int r)]) :: M0)) (fun x => E (exE R x) M)
theorem ok_Keep_init (R : Prg K mg) : FnD PR w K mg base 3 R.f_Keep_init R.d_Keep_init P_Keep_init (S_Keep_init R) := by
  refine fn_d false R.F_Keep_init sc_Keep_init (fun h => nomatch h) (fun ds M P E ⟨_, _, _, _, e, _⟩ => by rw [e]; rfl) fun cdv A outer s H E hr ds M Pd PE h => ?_
  obtain ⟨q, dx, n, M0, rfl, rfl, h⟩ := h
  refine ws_expr <| ex_callF (ok_check_least R) (hr.mono (by decide)) R.m_check_least R.F_check_least R.b_check_least <| ea_cons <| ex_var ⟨rfl, rfl⟩ <| ea_cons <| ex_int <| ea_nil ⟨n, 1, rfl, outU (ob h) (fun _ h => ?_) (fun _ h => h)⟩
  exact ws_fld <| ex_var ⟨rfl, rfl⟩ <| ex_var ⟨rfl, rfl⟩ ⟨q, _, dx, [], rfl, List.mem_cons_self, R.L_Keep.cl, R.A_Keep_wide, by decide, ws_nil (by have h2 : Pd .non ((q, .ins R.C_Keep dx [("wide", .int n)]) :: M0) := h; show Pd .non _; simpa [putC, putD] using h2)⟩
theorem mk_Keep {R : Prg K mg} {q dx : Addr} {n : Int} {M : Mem} {P : PK'} {E : XKx} {E1 : Er → Prop} {Q : Int → Prop} (h : (m_Keep_make n).Out Q E1) (hk : ∀ r, Q r → P (keepD R r) M) (hx : ∀ x, E1 x → E (exE R x) ((q, .ins R.C_Keep dx []) :: M)) :
    AP (S_Keep_init R) [.raw (.ref q), .int n] ((q, .ins R.C_Keep dx []) :: M) (fun d M2 => d = .non ∧ MadeP P q M2) E :=
  ap_all ⟨q, dx, n, M, rfl, rfl, out_mono h (fun r hr => .mk ⟨rfl, made_ok (fs := [("wide", .int r)]) (hk r hr)⟩) fun x h => .mk (hx x h)⟩

def S_Lean_init (R : Prg K mg) : Spc := fun ds M P E => ∃ q dx n M0, ds = [.raw (.ref q), .int n] ∧ M = (q, .ins R.C_Lean dx []) :: M0 ∧ (m_Lean_make n).Out (fun r => P .non ((q, .ins R.C_Lean dx [("wide", .int r)]) :: M0)) (fun x => E (exE R x) M)
theorem ok_Lean_init (R : Prg K mg) : FnD PR w K mg base 3 R.f_Lean_init R.d_Lean_init P_Lean_init (S_Lean_init R) := by
  refine fn_d false R.F_Lean_init sc_Lean_init (fun h => nomatch h) (fun ds M P E ⟨_, _, _, _, e, _⟩ => by rw [e]; rfl) fun cdv A outer s H E hr ds M Pd PE h => ?_
  obtain ⟨q, dx, n, M0, rfl, rfl, h⟩ := h
  refine ws_expr <| ex_callF (ok_check_least R) (hr.mono (by decide)) R.m_check_least R.F_check_least R.b_check_least <| ea_cons <| ex_var ⟨rfl, rfl⟩ <| ea_cons <| ex_int <| ea_nil ⟨n, 1, rfl, outU (ob h) (fun _ h => ?_) (fun _ h => h)⟩
  exact ws_fld <| ex_var ⟨rfl, rfl⟩ <| ex_var ⟨rfl, rfl⟩ ⟨q, _, dx, [], rfl, List.mem_cons_self, R.L_Lean.cl, R.A_Lean_wide, by decide, ws_nil (by have h2 : Pd .non ((q, .ins R.C_Lean dx [("wide", .int n)]) :: M0) := h; show Pd .non _; simpa [putC, putD] using h2)⟩
theorem mk_Lean {R : Prg K mg} {q dx : Addr} {n : Int} {M : Mem} {P : PK'} {E : XKx} {E1 : Er → Prop} {Q : Int → Prop} (h : (m_Lean_make n).Out Q E1) (hk : ∀ r, Q r → P (leanD R r) M) (hx : ∀ x, E1 x → E (exE R x) ((q, .ins R.C_Lean dx []) :: M)) :
    AP (S_Lean_init R) [.raw (.ref q), .int n] ((q, .ins R.C_Lean dx []) :: M) (fun d M2 => d = .non ∧ MadeP P q M2) E :=
  ap_all ⟨q, dx, n, M, rfl, rfl, out_mono h (fun r hr => .mk ⟨rfl, made_ok (fs := [("wide", .int r)]) (hk r hr)⟩) fun x h => .mk (hx x h)⟩

def S_Dig_init (R : Prg K mg) : Spc := fun ds M P E => ∃ q dx n M0, ds = [.raw (.ref q), .int n] ∧ M = (q, .ins R.C_Dig dx []) :: M0 ∧ (m_Dig_make n).Out (fun r => P .non ((q, .ins R.C_Dig dx [("wide", .int r)]) :: M0)) (fun x => E (exE R x) M)
theorem ok_Dig_init (R : Prg K mg) : FnD PR w K mg base 3 R.f_Dig_init R.d_Dig_init P_Dig_init (S_Dig_init R) := by
  refine fn_d false R.F_Dig_init sc_Dig_init (fun h => nomatch h) (fun ds M P E ⟨_, _, _, _, e, _⟩ => by rw [e]; rfl) fun cdv A outer s H E hr ds M Pd PE h => ?_
  obtain ⟨q, dx, n, M0, rfl, rfl, h⟩ := h
  refine ws_expr <| ex_callF (ok_check_least R) (hr.mono (by decide)) R.m_check_least R.F_check_least R.b_check_least <| ea_cons <| ex_var ⟨rfl, rfl⟩ <| ea_cons <| ex_int <| ea_nil ⟨n, 1, rfl, outU (ob h) (fun _ h => ?_) (fun _ h => h)⟩
  exact ws_fld <| ex_var ⟨rfl, rfl⟩ <| ex_var ⟨rfl, rfl⟩ ⟨q, _, dx, [], rfl, List.mem_cons_self, R.L_Dig.cl, R.A_Dig_wide, by decide, ws_nil (by have h2 : Pd .non ((q, .ins R.C_Dig dx [("wide", .int n)]) :: M0) := h; show Pd .non _; simpa [putC, putD] using h2)⟩
theorem mk_Dig {R : Prg K mg} {q dx : Addr} {n : Int} {M : Mem} {P : PK'} {E : XKx} {E1 : Er → Prop} {Q : Int → Prop} (h : (m_Dig_make n).Out Q E1) (hk : ∀ r, Q r → P (digD R r) M) (hx : ∀ x, E1 x → E (exE R x) ((q, .ins R.C_Dig dx []) :: M)) :
    AP (S_Dig_init R) [.raw (.ref q), .int n] ((q, .ins R.C_Dig dx []) :: M) (fun d M2 => d = .non ∧ MadeP P q M2) E :=
  ap_all ⟨q, dx, n, M, rfl, rfl, out_mono h (fun r hr => .mk ⟨rfl, made_ok (fs := [("wide", .int r)]) (hk r hr)⟩) fun x h => .mk (hx x h)⟩

def S_law_step (R : Prg K mg) : Spc := fun ds M P E => ∃ (a_step : (Str × Int)), ds = [((pairD Dat.str Dat.int) a_step)] ∧ (m_law_step a_step).Out (fun r => P ((stepD R) r) M) (fun x => E (exE R x) M)
theorem ok_law_step (R : Prg K mg) : FnD PR w K mg base 5 R.f_law_step R.d_law_step P_law_step (S_law_step R) := by
  refine fn_d false R.F_law_step sc_law_step (fun h => nomatch h) (fun ds M P E ⟨_, e, _⟩ => by rw [e]; rfl) fun cdv A outer s H E hr ds M Pd PE h => ?_
  obtain ⟨a_step, rfl, h⟩ := h
  have hu := hr.units
  refine WS.ends ?_
  refine ws_if <| et_cmp <| ex_ix <| ex_var ⟨rfl, rfl⟩ <| ex_int <| i_tup rfl <| ex_str <| o_eqT <| ⟨_, rfl, cif h (fun h => ?g1) (fun h => ?g9)⟩
  case g1 =>
    exact ws_ret <| ex_new0 R.K_Full R.mc_Full fun q dx _ _ _ => made_ok (fs := []) <| (dN [] h)
  case g9 =>
    refine ws_nil ?_
    refine ws_if <| et_cmp <| ex_ix <| ex_var ⟨rfl, rfl⟩ <| ex_int <| i_tup rfl <| ex_str <| o_eqT <| ⟨_, rfl, cif h (fun h => ?g3) (fun h => ?g8)⟩
    case g3 =>
      exact ws_ret <| ex_make R.K_Keep (ok_Keep_init R) (hr.mono (by decide)) R.mc_Keep R.b_Keep_init .nil (fun _ => .nil) <| ea_cons <| ex_ix <| ex_var ⟨rfl, rfl⟩ <| ex_int <| i_tup rfl <| ea_nil <| fun q dx _ _ _ => mk_Keep (ob h) (fun z2 h => (dN [] h)) (fun _ h => dX [_] h)
    case g8 =>
      refine ws_nil ?_
      refine ws_if <| et_cmp <| ex_ix <| ex_var ⟨rfl, rfl⟩ <| ex_int <| i_tup rfl <| ex_str <| o_eqT <| ⟨_, rfl, cif h (fun h => ?g5) (fun h => ?g7)⟩
      case g5 =>
        exact ws_ret <| ex_make R.K_Lean (ok_Lean_init R) (hr.mono (by decide)) R.mc_Lean R.b_Lean_init .nil (fun _ => .nil) <| ea_cons <| ex_ix <| ex_var ⟨rfl, rfl⟩ <| ex_int <| i_tup rfl <| ea_nil <| fun q dx _ _ _ => mk_Lean (ob h) (fun z4 h => (dN [] h)) (fun _ h => dX [_] h)
      case g7 =>
        refine ws_nil ?_
        exact ws_ret <| ex_make R.K_Dig (ok_Dig_init R) (hr.mono (by decide)) R.mc_Dig R.b_Dig_init .nil (fun _ => .nil) <| ea_cons <| ex_ix <| ex_var ⟨rfl, rfl⟩ <| ex_int <| i_tup rfl <| ea_nil <| fun q dx _ _ _ => mk_Dig (ob h) (fun z6 h => (dN [] h)) (fun _ h => dX [_] h)

def S_are_steps (R : Prg K mg) : Spc := fun ds M P E => ∃ (a_value : (List StepT)), ds = [((lstD (stepD R)) a_value)] ∧ (m_are_steps a_value).Out (fun r => P (.bl r) M) (fun x => E (exE R x) M)
theorem ok_are_steps (R : Prg K mg) : FnD PR w K mg base 1 R.f_are_steps R.d_are_steps P_are_steps (S_are_steps R) := by
  refine fn_d false R.F_are_steps sc_are_steps (fun h => nomatch h) (fun ds M P E ⟨_, e, _⟩ => by rw [e]; rfl) fun cdv A outer s H E hr ds M Pd PE h => ?_
  obtain ⟨a_value, rfl, h⟩ := h
  have hu := hr.units
  refine WS.ends ?_
  exact ws_ret <| exJQ Dat.bl (ob h) (fun _ h => exA h (fun _ h => ex_callB R.n_isinstance PyProof.Rows.Boot.«isinstance» <| ea_cons <| ex_var ⟨rfl, rfl⟩ <| ea_cons <| ex_gty R.n_list PyProof.Rows.Boot.«list» <| ea_nil <| c_isi (k := true) (.ty _) .lst (by rfl) <| ⟨rfl, true, rfl, h⟩) (fun h => ex_and1 <| ex_cmp <| ex_lcT [("step", 1)] <| ei_list <| ex_var ⟨rfl, rfl⟩ <| ⟨_, rfl, compT (stepD R) (stepD R) (xs := a_value) (ob h) trivial (fun x1 _ h s H C cl fp => gc_name  <| fun s H C cl fp => ef_one <| et_not <| et_val <| ex_callB R.n_isinstance PyProof.Rows.Boot.«isinstance» <| ea_cons <| ex_var ⟨rfl, rfl⟩ <| ea_cons <| ex_gref R.mc_Step <| ea_nil <| c_isx (.own _) (isStep R x1) <| ⟨_, rfl, (fun z => absurd z (by decide)), fun _ => ⟨rfl, h⟩⟩) (fun l2 h => ex_lst <| ea_nil ⟨ln, r_eqNilT (stepD R) hu <| ⟨rfl, (l2.isEmpty), rfl, h⟩⟩)⟩)) fun z3 h => (dN [] h)

def S_Script_init (R : Prg K mg) : Spc := fun ds M P E => ∃ q dx o M0, ds = [.raw (.ref q), optD (lstD (stepD R)) o] ∧ M = (q, .ins R.C_Script dx []) :: M0 ∧ (m_Script_make o).Out (fun r => P .non ((q, .ins R.C_Script dx [("rows", vtpD (stepD R) r)]) :: M0)) (fun x => E (exE R x) M)
theorem ok_Script_init (R : Prg K mg) : FnD PR w K mg base 2 R.f_Script_init R.d_Script_init P_Script_init (S_Script_init R) := by
  refine fn_dV false R.F_Script_init sc_Script_init (fun h => nomatch h) (fun ds M P E ⟨_, _, _, _, e, _⟩ => by rw [e]; rfl) fun cdv A outer s H E hr ds M Pd PE h => ?_
  obtain ⟨q, dx, o, M0, rfl, rfl, h⟩ := h
  have h2 : WS (cxOf (L2.CX PR w) PR w K mg base N_Script_init "Script.__init__" (defScope s_Script_init) R.f_Script_init cdv A outer s H E) false (defBody s_Script_init).tail [some (.raw (.ref q)), some (optD (lstD (stepD R)) o), some (lstD (stepD R) (o.getD []))] ((q, .ins R.C_Script dx []) :: M0) (retR Pd PE) := by
    refine ws_if <| et_not <| et_val <| ex_callF (ok_are_steps R) (hr.mono (by decide)) R.m_are_steps R.F_are_steps R.b_are_steps <| ea_cons <| ex_var ⟨rfl, rfl⟩ <| ea_nil ⟨o.getD [], rfl, outU (ob h) (fun b h => ⟨_, rfl, (fun e => ?g2), fun e => ?g1⟩) (fun _ h => h)⟩
    case g1 =>
      refine ws_nil ?_
      exact ws_fld <| ex_callTy R.n_tuple PyProof.Rows.Boot.«tuple» <| ea_cons <| ex_var ⟨rfl, rfl⟩ <| ea_nil <| c_tupT (stepD R) (xs := o.getD []) <| ex_var ⟨rfl, rfl⟩ ⟨q, _, dx, [], rfl, List.mem_cons_self, R.L_Script.cl, R.A_Script_rows, by decide, ws_nil (show Pd .non _ from by simpa [putC, putD] using (gd h).2)⟩
    case g2 => exact absurd (gd h).1 (by simpa using e)
  cases o with
  | none => exact ws_set <| ex_if <| et_cmp <| ex_var ⟨rfl, rfl⟩ <| ex_non <| o_isN (fun u => by simp) ⟨true, rfl, (fun _ => ex_lst <| ea_nil ⟨ln, h2⟩), fun z => nomatch z⟩
  | some xs => exact ws_set <| ex_if <| et_cmp <| ex_var ⟨rfl, rfl⟩ <| ex_non <| o_isN (fun u => by simp [optD]) ⟨false, rfl, (fun z => nomatch z), fun _ => ex_var ⟨rfl, rfl⟩ h2⟩
theorem mk_Script {R : Prg K mg} {q dx : Addr} {o : Option (List StepT)} {M : Mem} {P : PK'} {E : XKx} {E1 : Er → Prop} {Q : List StepT → Prop} (h : (m_Script_make o).Out Q E1) (hk : ∀ r, Q r → P (scriptD R r) M) (hx : ∀ x, E1 x → E (exE R x) ((q, .ins R.C_Script dx []) :: M)) :
    AP (S_Script_init R) [.raw (.ref q), optD (lstD (stepD R)) o] ((q, .ins R.C_Script dx []) :: M) (fun d M2 => d = .non ∧ MadeP P q M2) E :=
  ap_all ⟨q, dx, o, M, rfl, rfl, out_mono h (fun r hr => .mk ⟨rfl, made_ok (fs := [("rows", vtpD (stepD R) r)]) (hk r hr)⟩) fun x h => .mk (hx x h)⟩

def S_law_script (R : Prg K mg) : Spc := fun ds M P E => ∃ (a_steps : (List (Str × Int))), ds = [((lstD (pairD Dat.str Dat.int)) a_steps)] ∧ (m_law_script a_steps).Out (fun r => P ((scriptD R) r) M) (fun x => E (exE R x) M)
theorem ok_law_script (R : Prg K mg) : FnD PR w K mg base 6 R.f_law_script R.d_law_script P_law_script (S_law_script R) := by
  refine fn_d false R.F_law_script sc_law_script (fun h => nomatch h) (fun ds M P E ⟨_, e, _⟩ => by rw [e]; rfl) fun cdv A outer s H E hr ds M Pd PE h => ?_
  obtain ⟨a_steps, rfl, h⟩ := h
  have hu := hr.units
  refine WS.ends ?_
  exact ws_ret <| ex_make R.K_Script (ok_Script_init R) (hr.mono (by decide)) R.mc_Script R.b_Script_init .nil (fun _ => .nil) <| ea_cons <| ex_lcT [("step", 1)] <| ei_list <| ex_var ⟨rfl, rfl⟩ <| ⟨_, rfl, compT (pairD Dat.str Dat.int) (stepD R) (xs := a_steps) (ob h) trivial (fun x1 _ h s H C cl fp => gc_name  <| fun s H C cl fp => ef_nil ⟨fun _ s H C cl fp => ex_callF (ok_law_step R) (hr.mono (by decide)) R.m_law_step R.F_law_step R.b_law_step <| ea_cons <| ex_var ⟨rfl, rfl⟩ <| ea_nil <| ⟨x1, rfl, outU (ob h) (fun z2 h => ⟨rfl, z2, rfl, h⟩) (fun _ h => h)⟩, fun z => nomatch z⟩) (fun l3 h => ea_nil <| fun q dx _ _ _ => mk_Script (ob h) (fun z4 h => (dN [] h)) (fun _ h => dX [_] h))⟩

def S_are_cells (R : Prg K mg) : Spc := fun ds M P E => ∃ (a_value : Str), ds = [(.str a_value)] ∧ (m_are_cells a_value).Out (fun r => P (.bl r) M) (fun x => E (exE R x) M)
theorem ok_are_cells (R : Prg K mg) : FnD PR w K mg base 1 R.f_are_cells R.d_are_cells P_are_cells (S_are_cells R) := by
  refine fn_d false R.F_are_cells sc_are_cells (fun h => nomatch h) (fun ds M P E ⟨_, e, _⟩ => by rw [e]; rfl) fun cdv A outer s H E hr ds M Pd PE h => ?_
  obtain ⟨a_value, rfl, h⟩ := h
  have hu := hr.units
  refine WS.ends ?_
  exact ws_ret <| exJQ Dat.bl (ob h) (fun _ h => exA h (fun _ h => ex_callB R.n_isinstance PyProof.Rows.Boot.«isinstance» <| ea_cons <| ex_var ⟨rfl, rfl⟩ <| ea_cons <| ex_gty R.n_str PyProof.Rows.Boot.«str» <| ea_nil <| c_isi (k := true) (.ty _) .str (by rfl) <| ⟨rfl, true, rfl, h⟩) (fun h => ex_and1 <| ex_cmp <| ex_lcT [("cell", 1)] <| ei_str <| ex_var ⟨rfl, rfl⟩ <| ⟨a_value, rfl, compT chD chD (xs := (signsL a_value)) (ob h) trivial (fun x1 _ h s H C cl fp => gc_name  <| fun s H C cl fp => ef_one <| et_cmp <| ex_var ⟨rfl, rfl⟩ <| ex_bin <| ex_str <| ex_gstr R.g_SIGNS <| r_cat (ob h) fun z2 h => o_notInS <| ⟨_, rfl, cif h (fun h => fun s H C cl fp => ex_var ⟨rfl, rfl⟩ <| ⟨rfl, x1, rfl, h⟩) (fun h => ⟨rfl, h⟩)⟩) (fun l3 h => ex_lst <| ea_nil ⟨ln, r_eqNilT chD hu <| ⟨rfl, (l3.isEmpty), rfl, h⟩⟩)⟩)) fun z4 h => (dN [] h)

def S_File_init (R : Prg K mg) : Spc := fun ds M P E => ∃ q dx z M0, ds = [.raw (.ref q), .str z] ∧ M = (q, .ins R.C_File dx []) :: M0 ∧ (m_File_make z).Out (fun r => P .non ((q, .ins R.C_File dx [("row", .str r)]) :: M0)) (fun x => E (exE R x) M)
theorem ok_File_init (R : Prg K mg) : FnD PR w K mg base 2 R.f_File_init R.d_File_init P_File_init (S_File_init R) := by
  refine fn_dV false R.F_File_init sc_File_init (fun h => nomatch h) (fun ds M P E ⟨_, _, _, _, e, _⟩ => by rw [e]; rfl) fun cdv A outer s H E hr ds M Pd PE h => ?_
  obtain ⟨q, dx, z, M0, rfl, rfl, h⟩ := h
  refine ws_if <| et_not <| et_val <| ex_callF (ok_are_cells R) (hr.mono (by decide)) R.m_are_cells R.F_are_cells R.b_are_cells <| ea_cons <| ex_var ⟨rfl, rfl⟩ <| ea_nil ⟨z, rfl, outU (ob h) (fun b h => ⟨_, rfl, cifN h (fun h => ?g1) (fun h => ?g2)⟩) (fun _ h => h)⟩
  case g1 =>
    refine ws_nil ?_
    exact ws_fld <| ex_var ⟨rfl, rfl⟩ <| ex_var ⟨rfl, rfl⟩ ⟨q, _, dx, [], rfl, List.mem_cons_self, R.L_File.cl, R.A_File_row, by decide, ws_nil (by have h2 : Pd .non ((q, .ins R.C_File dx [("row", .str z)]) :: M0) := h; show Pd .non _; simpa [putC, putD] using h2)⟩
  case g2 => exact ws_raise rfl R.S_InvalidFile R.mc_InvalidFile R.n_super hr <| ex_var ⟨rfl, rfl⟩ h
theorem mk_File {R : Prg K mg} {q dx : Addr} {z : Str} {M : Mem} {P : PK'} {E : XKx} {E1 : Er → Prop} {Q : Str → Prop} (h : (m_File_make z).Out Q E1) (hk : ∀ r, Q r → P (fileD R r) M) (hx : ∀ x, E1 x → E (exE R x) ((q, .ins R.C_File dx []) :: M)) :
    AP (S_File_init R) [.raw (.ref q), .str z] ((q, .ins R.C_File dx []) :: M) (fun d M2 => d = .non ∧ MadeP P q M2) E :=
  ap_all ⟨q, dx, z, M, rfl, rfl, out_mono h (fun r hr => .mk ⟨rfl, made_ok (fs := [("row", .str r)]) (hk r hr)⟩) fun x h => .mk (hx x h)⟩

def S_check_script__v2 (R : Prg K mg) : Spc := fun ds M P E => ∃ (a_value : Any), ds = [(anyD (clR R) a_value)] ∧ (m_check_script__v2 a_value).Out (fun r => P (Empty.elim r) M) (fun x => E (exE R x) M)
theorem ok_check_script__v2 (R : Prg K mg) : FnD PR w K mg base 2 R.f_check_script R.d_check_script P_check_script (S_check_script__v2 R) := by
  refine fn_d false R.F_check_script sc_check_script (fun h => nomatch h) (fun ds M P E ⟨_, e, _⟩ => by rw [e]; rfl) fun cdv A outer s H E hr ds M Pd PE h => ?_
  obtain ⟨a_value, rfl, h⟩ := h
  have hu := hr.units
  refine WS.ends ?_
  refine ws_if <| et_not <| et_val <| ex_callB R.n_isinstance PyProof.Rows.Boot.«isinstance» <| ea_cons <| ex_var ⟨rfl, rfl⟩ <| ea_cons <| ex_gref R.mc_Script <| ea_nil <| r_isO (.own _) R.ic_Script R.tc_Script (suR_Script R) (ob h) (fun z1 h => ⟨_, rfl, cifN h (fun h => ?g3) (fun h => ?g2)⟩) (base_all rfl rfl rfl rfl rfl rfl rfl)
  case g2 =>
    exact ws_raise rfl R.S_InvalidScript R.mc_InvalidScript R.n_super hr <| ex_asA <| ex_var ⟨rfl, rfl⟩ <| ⟨_, rfl, (dX [] h)⟩
  case g3 =>
    refine ws_nil ?_
    exact ws_nil h.elim

def S_reasons__v2 (R : Prg K mg) : Spc := fun ds M P E => ∃ (a_script : Any) (a_cell : Any), ds = [(anyD (clR R) a_script), (anyD (clR R) a_cell)] ∧ (m_reasons__v2 a_script a_cell).Out (fun r => P (Empty.elim r) M) (fun x => E (exE R x) M)
theorem ok_reasons__v2 (R : Prg K mg) : FnD PR w K mg base 3 R.f_reasons R.d_reasons P_reasons (S_reasons__v2 R) := by
  refine fn_d false R.F_reasons sc_reasons (fun h => nomatch h) (fun ds M P E ⟨_, _, e, _⟩ => by rw [e]; rfl) fun cdv A outer s H E hr ds M Pd PE h => ?_
  obtain ⟨a_script, a_cell, rfl, h⟩ := h
  have hu := hr.units
  refine WS.ends ?_
  refine ws_expr <| ex_callF (ok_check_script__v2 R) (hr.mono (by decide)) R.m_check_script R.F_check_script R.b_check_script <| ea_cons <| ex_asA <| ex_var ⟨rfl, rfl⟩ <| ⟨_, rfl, ea_nil <| ⟨a_script, rfl, outU (ob h) (fun z1 h => z1.elim) (fun _ h => dX [] h)⟩⟩

def S_law_told (R : Prg K mg) : Spc := fun ds M P E => ∃ (a_script : Any) (a_cell : Any), ds = [(anyD (clR R) a_script), (anyD (clR R) a_cell)] ∧ (m_law_told a_script a_cell).Out (fun r => P ((lstD (anyD (clR R))) r) M) (fun x => E (exE R x) M)
theorem ok_law_told (R : Prg K mg) : FnD PR w K mg base 4 R.f_law_told R.d_law_told P_law_told (S_law_told R) := by
  refine fn_d false R.F_law_told sc_law_told (fun h => nomatch h) (fun ds M P E ⟨_, _, e, _⟩ => by rw [e]; rfl) fun cdv A outer s H E hr ds M Pd PE h => ?_
  obtain ⟨a_script, a_cell, rfl, h⟩ := h
  have hu := hr.units
  refine WS.ends ?_
  refine ws_set <| ex_lst <| ea_cons <| ex_asA <| ex_str <| ⟨anyD (clR R) (Any.str ("none" : Str)), (by first | rfl | (simp only [anyD, anyDL, anyDL_map, List.map_map]; done) | (simp only [anyD, anyDL, anyDL_map, List.map_map]; rfl) | (simp only [anyD, anyDL, anyDL_map, List.map_map, stepA_comp, stepA_D]; rfl) | (simp only [anyD, anyDL, anyDL_map, List.map_map, stepA_comp, stepA_D]; done)), ea_nil ⟨ln, ?_⟩⟩
  refine ws_tryJ (exE R) (fun Q τ M' => ∃ s1 : (List Any), ∃ d3, [some (anyD (clR R) a_script), some (anyD (clR R) a_cell), some ((lstD (anyD (clR R))) s1), d3] = τ ∧ M = M' ∧ Q s1) (l₀ := ⟨_, _, _, _, _, _, _⟩) (ls := [⟨_, _, _, _, _, _, _⟩]) (ob h) rfl rfl (.cons ⟨rfl, (by show (("InvalidScript" : Str) == ("__debug__" : Str)) = false; decide), .inl R.mc_InvalidScript⟩ rfl rfl (.cons ⟨rfl, (by show (("InvalidNumber" : Str) == ("__debug__" : Str)) = false; decide), .inl R.mc_InvalidNumber⟩ rfl rfl (.nil))) (fun h pn xe po => ?b6) ?x7 ?k8
  case b6 =>
    refine ws_expr <| ex_callF (ok_reasons__v2 R) (hr.mono (by decide)) R.m_reasons R.F_reasons R.b_reasons <| ea_cons <| ex_asA <| ex_var ⟨rfl, rfl⟩ <| ⟨_, rfl, ea_cons <| ex_asA <| ex_var ⟨rfl, rfl⟩ <| ⟨_, rfl, ea_nil <| ⟨a_script, a_cell, rfl, outU (ob h) (fun z2 h => z2.elim) (fun _ h => tX [] h)⟩⟩⟩
  case x7 =>
    rintro ⟨kk, x3⟩ h
    cases kk with
    | file =>
      refine ⟨false, R.e_InvalidFile_InvalidScript, (fun z => nomatch z), fun _ => ⟨false, R.e_InvalidFile_InvalidNumber, (fun z => nomatch z), fun _ => (fun _ h => dX [] h) _ h⟩⟩
    | number =>
      refine ⟨false, R.e_InvalidNumber_InvalidScript, (fun z => nomatch z), fun _ => ⟨true, R.e_InvalidNumber_InvalidNumber, fun _ => ⟨List.cons_ne_nil _ _, fun a dd oe pn hz hv => ?_⟩, fun z => nomatch z⟩⟩
      refine ws_set <| ex_lst <| ea_cons <| ex_asA <| ex_str <| ⟨anyD (clR R) (Any.str ("number" : Str)), (by first | rfl | (simp only [anyD, anyDL, anyDL_map, List.map_map]; done) | (simp only [anyD, anyDL, anyDL_map, List.map_map]; rfl) | (simp only [anyD, anyDL, anyDL_map, List.map_map, stepA_comp, stepA_D]; rfl) | (simp only [anyD, anyDL, anyDL_map, List.map_map, stepA_comp, stepA_D]; done)), ea_cons <| ex_asA <| ex_ev R.x_InvalidNumber R.S_InvalidNumber.nf hz hv ⟨rfl, rfl⟩ rfl <| ⟨_, rfl, ea_nil ⟨ln, ?_⟩⟩⟩
      exact ws_nil ⟨([(Any.str ("number" : Str)), x3] : List Any), _, rfl, rfl, h⟩
    | script =>
      refine ⟨true, R.e_InvalidScript_InvalidScript, fun _ => ⟨List.cons_ne_nil _ _, fun a dd oe pn hz hv => ?_⟩, fun z => nomatch z⟩
      refine ws_set <| ex_lst <| ea_cons <| ex_asA <| ex_str <| ⟨anyD (clR R) (Any.str ("script" : Str)), (by first | rfl | (simp only [anyD, anyDL, anyDL_map, List.map_map]; done) | (simp only [anyD, anyDL, anyDL_map, List.map_map]; rfl) | (simp only [anyD, anyDL, anyDL_map, List.map_map, stepA_comp, stepA_D]; rfl) | (simp only [anyD, anyDL, anyDL_map, List.map_map, stepA_comp, stepA_D]; done)), ea_cons <| ex_asA <| ex_ev R.x_InvalidScript R.S_InvalidScript.nf hz hv ⟨rfl, rfl⟩ rfl <| ⟨_, rfl, ea_nil ⟨ln, ?_⟩⟩⟩
      exact ws_nil ⟨([(Any.str ("script" : Str)), x3] : List Any), _, rfl, rfl, h⟩
    | _ => exact h.elim
  case k8 =>
    rintro _ _ ⟨s1, d3, rfl, rfl, h⟩
    exact ws_ret <| ex_asA <| ex_var ⟨rfl, rfl⟩ <| ⟨_, rfl, (dN [] h)⟩

def S_check_script (R : Prg K mg) : Spc := fun ds M P E => ∃ (a_value : (List StepT)), ds = [((scriptD R) a_value)] ∧ (m_check_script a_value).Out (fun r => P .non M) (fun x => E (exE R x) M)
theorem ok_check_script (R : Prg K mg) : FnD PR w K mg base 1 R.f_check_script R.d_check_script P_check_script (S_check_script R) := by
  refine fn_d false R.F_check_script sc_check_script (fun h => nomatch h) (fun ds M P E ⟨_, e, _⟩ => by rw [e]; rfl) fun cdv A outer s H E hr ds M Pd PE h => ?_
  obtain ⟨a_value, rfl, h⟩ := h
  have hu := hr.units
  refine WS.ends ?_
  refine ws_if <| et_not <| et_val <| ex_callB R.n_isinstance PyProof.Rows.Boot.«isinstance» <| ea_cons <| ex_var ⟨rfl, rfl⟩ <| ea_cons <| ex_gref R.mc_Script <| ea_nil <| c_isi (k := true) (.own _) (.obj R.L_Script) R.s_Script_Script <| ⟨_, rfl, (fun z => absurd z (by decide)), fun _ => ?_⟩
  refine ws_nil ?_
  exact ws_nil (dN [] h)

def S_is_whole__v2 (R : Prg K mg) : Spc := fun ds M P E => ∃ (a_value : Any), ds = [(anyD (clR R) a_value)] ∧ (m_is_whole__v2 a_value).Out (fun r => P (.bl r) M) (fun x => E (exE R x) M)
theorem ok_is_whole__v2 (R : Prg K mg) : FnD PR w K mg base 1 R.f_is_whole R.d_is_whole P_is_whole (S_is_whole__v2 R) := by
  refine fn_d false R.F_is_whole sc_is_whole (fun h => nomatch h) (fun ds M P E ⟨_, e, _⟩ => by rw [e]; rfl) fun cdv A outer s H E hr ds M Pd PE h => ?_
  obtain ⟨a_value, rfl, h⟩ := h
  have hu := hr.units
  refine WS.ends ?_
  exact ws_ret <| exJQ Dat.bl (ob h) (fun _ h => exA h (fun _ h => ex_callB R.n_isinstance PyProof.Rows.Boot.«isinstance» <| ea_cons <| ex_var ⟨rfl, rfl⟩ <| ea_cons <| ex_gty R.n_int PyProof.Rows.Boot.«int» <| ea_nil <| r_isA (.ty _) (icR R) (sub_int R) (ob h) fun z1 h => ⟨rfl, z1, rfl, h⟩) (fun h => ex_and1 <| ex_not <| ex_callB R.n_isinstance PyProof.Rows.Boot.«isinstance» <| ea_cons <| ex_var ⟨rfl, rfl⟩ <| ea_cons <| ex_gty R.n_bool PyProof.Rows.Boot.«bool» <| ea_nil <| r_isA (.ty _) (icR R) (sub_bool R) (ob h) fun z2 h => ⟨_, rfl, ⟨rfl, (!z2), rfl, h⟩⟩)) fun z3 h => (dN [] h)

def S_check_least__v2 (R : Prg K mg) : Spc := fun ds M P E => ∃ (a_value : Any) (a_least : Int), ds = [(anyD (clR R) a_value), (.int a_least)] ∧ (m_check_least__v2 a_value a_least).Out (fun r => P (Empty.elim r) M) (fun x => E (exE R x) M)
theorem ok_check_least__v2 (R : Prg K mg) : FnD PR w K mg base 2 R.f_check_least R.d_check_least P_check_least (S_check_least__v2 R) := by
  refine fn_d false R.F_check_least sc_check_least (fun h => nomatch h) (fun ds M P E ⟨_, _, e, _⟩ => by rw [e]; rfl) fun cdv A outer s H E hr ds M Pd PE h => ?_
  obtain ⟨a_value, a_least, rfl, h⟩ := h
  have hu := hr.units
  refine WS.ends ?_
  refine ws_if <| et_w <| ew_or <| et_not <| et_val <| ex_callF (ok_is_whole__v2 R) (hr.mono (by decide)) R.m_is_whole R.F_is_whole R.b_is_whole <| ea_cons <| ex_asA <| ex_var ⟨rfl, rfl⟩ <| ⟨_, rfl, ea_nil <| ⟨a_value, rfl, outU (ob h) (fun z1 h => ⟨_, rfl, cifN h (fun h => ew_or1 <| et_cmp <| ex_asI (ob h) <| ex_var ⟨rfl, rfl⟩ <| ⟨rfl, fun z3 h => ex_var ⟨rfl, rfl⟩ <| o_lt <| ⟨_, rfl, cif h (fun h => ?g4) (fun h => ?g5)⟩⟩) (fun h => ⟨fun _ => ?g2, fun z => nomatch z⟩)⟩) (fun _ h => dX [] h)⟩⟩
  case g2 =>
    exact ws_raise rfl R.S_InvalidNumber R.mc_InvalidNumber R.n_super hr <| ex_asA <| ex_var ⟨rfl, rfl⟩ <| ⟨_, rfl, (dX [] h)⟩
  case g4 =>
    exact ws_raise rfl R.S_InvalidNumber R.mc_InvalidNumber R.n_super hr <| ex_asA <| ex_var ⟨rfl, rfl⟩ <| ⟨_, rfl, (dX [] h)⟩
  case g5 =>
    refine ws_nil ?_
    exact ws_nil h.elim

def S_reasons__v3 (R : Prg K mg) : Spc := fun ds M P E => ∃ (a_script : (List StepT)) (a_cell : Any), ds = [((scriptD R) a_script), (anyD (clR R) a_cell)] ∧ (m_reasons__v3 a_script a_cell).Out (fun r => P (Empty.elim r) M) (fun x => E (exE R x) M)
theorem ok_reasons__v3 (R : Prg K mg) : FnD PR w K mg base 3 R.f_reasons R.d_reasons P_reasons (S_reasons__v3 R) := by
  refine fn_d false R.F_reasons sc_reasons (fun h => nomatch h) (fun ds M P E ⟨_, _, e, _⟩ => by rw [e]; rfl) fun cdv A outer s H E hr ds M Pd PE h => ?_
  obtain ⟨a_script, a_cell, rfl, h⟩ := h
  have hu := hr.units
  refine WS.ends ?_
  refine ws_expr <| ex_callF (ok_check_script R) (hr.mono (by decide)) R.m_check_script R.F_check_script R.b_check_script <| ea_cons <| ex_var ⟨rfl, rfl⟩ <| ea_nil <| ⟨a_script, rfl, outU (ob h) (fun z1 h => ?_) (fun _ h => dX [] h)⟩
  refine ws_expr <| ex_callF (ok_check_least__v2 R) (hr.mono (by decide)) R.m_check_least R.F_check_least R.b_check_least <| ea_cons <| ex_asA <| ex_var ⟨rfl, rfl⟩ <| ⟨_, rfl, ea_cons <| ex_int <| ea_nil <| ⟨a_cell, (0 : Int), rfl, outU (ob h) (fun z2 h => z2.elim) (fun _ h => dX [] h)⟩⟩

def S_law_told__v2 (R : Prg K mg) : Spc := fun ds M P E => ∃ (a_script : (List StepT)) (a_cell : Any), ds = [((scriptD R) a_script), (anyD (clR R) a_cell)] ∧ (m_law_told__v2 a_script a_cell).Out (fun r => P ((lstD (anyD (clR R))) r) M) (fun x => E (exE R x) M)
theorem ok_law_told__v2 (R : Prg K mg) : FnD PR w K mg base 4 R.f_law_told R.d_law_told P_law_told (S_law_told__v2 R) := by
  refine fn_d false R.F_law_told sc_law_told (fun h => nomatch h) (fun ds M P E ⟨_, _, e, _⟩ => by rw [e]; rfl) fun cdv A outer s H E hr ds M Pd PE h => ?_
  obtain ⟨a_script, a_cell, rfl, h⟩ := h
  have hu := hr.units
  refine WS.ends ?_
  refine ws_set <| ex_lst <| ea_cons <| ex_asA <| ex_str <| ⟨anyD (clR R) (Any.str ("none" : Str)), (by first | rfl | (simp only [anyD, anyDL, anyDL_map, List.map_map]; done) | (simp only [anyD, anyDL, anyDL_map, List.map_map]; rfl) | (simp only [anyD, anyDL, anyDL_map, List.map_map, stepA_comp, stepA_D]; rfl) | (simp only [anyD, anyDL, anyDL_map, List.map_map, stepA_comp, stepA_D]; done)), ea_nil ⟨ln, ?_⟩⟩
  refine ws_tryJ (exE R) (fun Q τ M' => ∃ s1 : (List Any), ∃ d3, [some ((scriptD R) a_script), some (anyD (clR R) a_cell), some ((lstD (anyD (clR R))) s1), d3] = τ ∧ M = M' ∧ Q s1) (l₀ := ⟨_, _, _, _, _, _, _⟩) (ls := [⟨_, _, _, _, _, _, _⟩]) (ob h) rfl rfl (.cons ⟨rfl, (by show (("InvalidScript" : Str) == ("__debug__" : Str)) = false; decide), .inl R.mc_InvalidScript⟩ rfl rfl (.cons ⟨rfl, (by show (("InvalidNumber" : Str) == ("__debug__" : Str)) = false; decide), .inl R.mc_InvalidNumber⟩ rfl rfl (.nil))) (fun h pn xe po => ?b6) ?x7 ?k8
  case b6 =>
    refine ws_expr <| ex_callF (ok_reasons__v3 R) (hr.mono (by decide)) R.m_reasons R.F_reasons R.b_reasons <| ea_cons <| ex_var ⟨rfl, rfl⟩ <| ea_cons <| ex_asA <| ex_var ⟨rfl, rfl⟩ <| ⟨_, rfl, ea_nil <| ⟨a_script, a_cell, rfl, outU (ob h) (fun z2 h => z2.elim) (fun _ h => tX [] h)⟩⟩
  case x7 =>
    rintro ⟨kk, x3⟩ h
    cases kk with
    | file =>
      refine ⟨false, R.e_InvalidFile_InvalidScript, (fun z => nomatch z), fun _ => ⟨false, R.e_InvalidFile_InvalidNumber, (fun z => nomatch z), fun _ => (fun _ h => dX [] h) _ h⟩⟩
    | number =>
      refine ⟨false, R.e_InvalidNumber_InvalidScript, (fun z => nomatch z), fun _ => ⟨true, R.e_InvalidNumber_InvalidNumber, fun _ => ⟨List.cons_ne_nil _ _, fun a dd oe pn hz hv => ?_⟩, fun z => nomatch z⟩⟩
      refine ws_set <| ex_lst <| ea_cons <| ex_asA <| ex_str <| ⟨anyD (clR R) (Any.str ("number" : Str)), (by first | rfl | (simp only [anyD, anyDL, anyDL_map, List.map_map]; done) | (simp only [anyD, anyDL, anyDL_map, List.map_map]; rfl) | (simp only [anyD, anyDL, anyDL_map, List.map_map, stepA_comp, stepA_D]; rfl) | (simp only [anyD, anyDL, anyDL_map, List.map_map, stepA_comp, stepA_D]; done)), ea_cons <| ex_asA <| ex_ev R.x_InvalidNumber R.S_InvalidNumber.nf hz hv ⟨rfl, rfl⟩ rfl <| ⟨_, rfl, ea_nil ⟨ln, ?_⟩⟩⟩
      exact ws_nil ⟨([(Any.str ("number" : Str)), x3] : List Any), _, rfl, rfl, h⟩
    | script =>
      refine ⟨true, R.e_InvalidScript_InvalidScript, fun _ => ⟨List.cons_ne_nil _ _, fun a dd oe pn hz hv => ?_⟩, fun z => nomatch z⟩
      refine ws_set <| ex_lst <| ea_cons <| ex_asA <| ex_str <| ⟨anyD (clR R) (Any.str ("script" : Str)), (by first | rfl | (simp only [anyD, anyDL, anyDL_map, List.map_map]; done) | (simp only [anyD, anyDL, anyDL_map, List.map_map]; rfl) | (simp only [anyD, anyDL, anyDL_map, List.map_map, stepA_comp, stepA_D]; rfl) | (simp only [anyD, anyDL, anyDL_map, List.map_map, stepA_comp, stepA_D]; done)), ea_cons <| ex_asA <| ex_ev R.x_InvalidScript R.S_InvalidScript.nf hz hv ⟨rfl, rfl⟩ rfl <| ⟨_, rfl, ea_nil ⟨ln, ?_⟩⟩⟩
      exact ws_nil ⟨([(Any.str ("script" : Str)), x3] : List Any), _, rfl, rfl, h⟩
    | _ => exact h.elim
  case k8 =>
    rintro _ _ ⟨s1, d3, rfl, rfl, h⟩
    exact ws_ret <| ex_asA <| ex_var ⟨rfl, rfl⟩ <| ⟨_, rfl, (dN [] h)⟩

theorem gcd_step {a b : Int} (ha : 0 ≤ a) (hb : 0 ≤ b) : Int.gcd b (a % b) = Int.gcd a b := by
  obtain ⟨m, rfl⟩ := Int.eq_ofNat_of_zero_le ha
  obtain ⟨n, rfl⟩ := Int.eq_ofNat_of_zero_le hb
  show Nat.gcd n (m % n) = Nat.gcd m n
  rw [Nat.gcd_comm n, ← Nat.gcd_rec, Nat.gcd_comm]
def S_divisor_of (R : Prg K mg) : Spc := fun ds M P E => ∃ a b : Int, ds = [.int a, .int b] ∧ (m_divisor_of a b).Out (fun r => P (.int r) M) (fun x => E (exE R x) M)
theorem ok_divisor_of (R : Prg K mg) : FnD PR w K mg base 1 R.f_divisor_of R.d_divisor_of P_divisor_of (S_divisor_of R) := by
  refine fn_d false R.F_divisor_of sc_divisor_of (fun h => nomatch h) (fun ds M P E ⟨a, b, e, _⟩ => by rw [e]; rfl) fun cdv A outer s H E hr ds M Pd PE h => ?_
  obtain ⟨a, b, rfl, h⟩ := h
  obtain ⟨⟨ha, hb⟩, hp⟩ := gd h
  refine ws_while (fun m τ' M' => M' = M ∧ ∃ a' b' : Int, τ' = [some (.int a'), some (.int b')] ∧ 0 ≤ a' ∧ 0 ≤ b' ∧ Int.gcd a' b' = Int.gcd a b ∧ m = b'.toNat) ⟨_, rfl, a, b, rfl, ha, hb, rfl, rfl⟩ ?_
  rintro m τ' M' ⟨rfl, a', b', rfl, h1, h2, h3, rfl⟩
  refine et_cmp (ex_var ⟨rfl, rfl⟩ (ex_int (o_neI ⟨_, rfl, fun e => ?_, fun e => ?_⟩)))
  · have e : ¬ b' = 0 := by simpa using e
    have hpos : 0 < b' := by omega
    refine ws_par <| ea_cons <| ex_var ⟨rfl, rfl⟩ <| ea_cons <| ex_bin <| ex_callTy R.n_int PyProof.Rows.Boot.«int» <| ea_cons <| ex_var ⟨rfl, rfl⟩ <| ea_nil <| c_int_i <| ex_var ⟨rfl, rfl⟩ <| o_mod hpos <| ea_nil ⟨_, _, rfl, ws_nil ?_⟩
    refine ⟨_, ?_, rfl, b', a' % b', rfl, h2, Int.emod_nonneg _ e, (gcd_step h1 h2).trans h3, rfl⟩
    have := Int.emod_lt_of_pos a' hpos
    have := Int.emod_nonneg a' e
    omega
  · have e : b' = 0 := by simpa using e
    subst e
    refine ws_ret (ex_var ⟨rfl, rfl⟩ ?_)
    have : ((Int.gcd a b : Nat) : Int) = a' := by
      rw [← h3, Int.gcd_zero_right]
      omega
    rw [this] at hp
    exact hp

def S_multiple_of (R : Prg K mg) : Spc := fun ds M P E => ∃ (a_numbers : (List Int)), ds = [((lstD Dat.int) a_numbers)] ∧ (m_multiple_of a_numbers).Out (fun r => P (.int r) M) (fun x => E (exE R x) M)
theorem ok_multiple_of (R : Prg K mg) : FnD PR w K mg base 2 R.f_multiple_of R.d_multiple_of P_multiple_of (S_multiple_of R) := by
  refine fn_d false R.F_multiple_of sc_multiple_of (fun h => nomatch h) (fun ds M P E ⟨_, e, _⟩ => by rw [e]; rfl) fun cdv A outer s H E hr ds M Pd PE h => ?_
  obtain ⟨a_numbers, rfl, h⟩ := h
  have hu := hr.units
  refine WS.ends ?_
  refine ws_set <| ex_int <| ?_
  refine ws_forT <| ei_list <| ex_var ⟨rfl, rfl⟩ <| ⟨_, rfl, foldT Dat.int (xs := a_numbers) (fun (s1 : Int) τ M' => ∃ d2, [some ((lstD Dat.int) a_numbers), some (.int s1), d2] = τ ∧ M = M') (ob h) ⟨_, rfl, rfl⟩ (fun _ _ _ _ => trivial) ?g9 ?g10⟩
  case g9 =>
    rintro x2 s1 _ _ N ⟨d2, rfl, rfl⟩ h
    refine gx_name  <| ?_
    refine ws_set <| ex_bin <| ex_bin <| ex_var ⟨rfl, rfl⟩ <| ex_callF (ok_divisor_of R) (hr.mono (by decide)) R.m_divisor_of R.F_divisor_of R.b_divisor_of <| ea_cons <| ex_var ⟨rfl, rfl⟩ <| ea_cons <| ex_var ⟨rfl, rfl⟩ <| ea_nil <| ⟨s1, x2, rfl, outU (ob h) (fun z5 h => r_div (ob h) fun z6 h => ex_var ⟨rfl, rfl⟩ <| r_mul (ob h) fun z7 h => ?_) (fun _ h => dX [] h)⟩
    exact ws_nil ⟨z7, ⟨_, rfl, rfl⟩, h⟩
  case g10 =>
    rintro s1 _ _ ⟨d2, rfl, rfl⟩ h
    exact ws_ret <| ex_var ⟨rfl, rfl⟩ <| (dN [] h)

def S_Keep_size (R : Prg K mg) : Spc := fun ds M P E => ∃ (a_self : Int), ds = [((keepD R) a_self)] ∧ (m_Keep_size a_self).Out (fun r => P (.int r) M) (fun x => E (exE R x) M)
theorem ok_Keep_size (R : Prg K mg) : FnD PR w K mg base 1 R.f_Keep_size R.d_Keep_size P_Keep_size (S_Keep_size R) := by
  refine fn_d false R.F_Keep_size sc_Keep_size (fun h => nomatch h) (fun ds M P E ⟨_, e, _⟩ => by rw [e]; rfl) fun cdv A outer s H E hr ds M Pd PE h => ?_
  obtain ⟨a_self, rfl, h⟩ := h
  have hu := hr.units
  refine WS.ends ?_
  exact ws_ret <| ex_fld <| ex_var ⟨rfl, rfl⟩ <| ⟨_, ⟨_, R.L_Keep.cl, R.A_Keep_wide, .inl ⟨_, _, rfl, rfl, rfl⟩⟩, (dN [] h)⟩

def S_Lean_size (R : Prg K mg) : Spc := fun ds M P E => ∃ (a_self : Int), ds = [((leanD R) a_self)] ∧ (m_Lean_size a_self).Out (fun r => P (.int r) M) (fun x => E (exE R x) M)
theorem ok_Lean_size (R : Prg K mg) : FnD PR w K mg base 1 R.f_Lean_size R.d_Lean_size P_Lean_size (S_Lean_size R) := by
  refine fn_d false R.F_Lean_size sc_Lean_size (fun h => nomatch h) (fun ds M P E ⟨_, e, _⟩ => by rw [e]; rfl) fun cdv A outer s H E hr ds M Pd PE h => ?_
  obtain ⟨a_self, rfl, h⟩ := h
  have hu := hr.units
  refine WS.ends ?_
  exact ws_ret <| ex_fld <| ex_var ⟨rfl, rfl⟩ <| ⟨_, ⟨_, R.L_Lean.cl, R.A_Lean_wide, .inl ⟨_, _, rfl, rfl, rfl⟩⟩, (dN [] h)⟩

def S_Dig_size (R : Prg K mg) : Spc := fun ds M P E => ∃ (a_self : Int), ds = [((digD R) a_self)] ∧ (m_Dig_size a_self).Out (fun r => P (.int r) M) (fun x => E (exE R x) M)
theorem ok_Dig_size (R : Prg K mg) : FnD PR w K mg base 1 R.f_Dig_size R.d_Dig_size P_Dig_size (S_Dig_size R) := by
  refine fn_d false R.F_Dig_size sc_Dig_size (fun h => nomatch h) (fun ds M P E ⟨_, e, _⟩ => by rw [e]; rfl) fun cdv A outer s H E hr ds M Pd PE h => ?_
  obtain ⟨a_self, rfl, h⟩ := h
  have hu := hr.units
  refine WS.ends ?_
  exact ws_ret <| ex_fld <| ex_var ⟨rfl, rfl⟩ <| ⟨_, ⟨_, R.L_Dig.cl, R.A_Dig_wide, .inl ⟨_, _, rfl, rfl, rfl⟩⟩, (dN [] h)⟩

theorem pr_Step_size (R : Prg K mg) (s : StepT) {A : Around} (hr : Room 2 A) : PrD PR w K mg base A "size" (stepD R s) (m_Step_size s) Dat.int := by
  intro M P E1 h
  cases s with
  | full => exact h.elim
  | keep n => exact ⟨_, _, _, _, _, _, _, R.L_Keep.cl, R.V_Keep_size, ok_Keep_size R, hr.mono (by decide), R.b_Keep_size, ⟨"", fun M => .inl ⟨_, _, rfl, by decide⟩⟩, ⟨n, rfl, out_mono (ne_out (E' := fun _ => False) h) (fun r q => UpP.mk q) (fun _ z => z.elim)⟩⟩
  | lean n => exact ⟨_, _, _, _, _, _, _, R.L_Lean.cl, R.V_Lean_size, ok_Lean_size R, hr.mono (by decide), R.b_Lean_size, ⟨"", fun M => .inl ⟨_, _, rfl, by decide⟩⟩, ⟨n, rfl, out_mono (ne_out (E' := fun _ => False) h) (fun r q => UpP.mk q) (fun _ z => z.elim)⟩⟩
  | dig n => exact ⟨_, _, _, _, _, _, _, R.L_Dig.cl, R.V_Dig_size, ok_Dig_size R, hr.mono (by decide), R.b_Dig_size, ⟨"", fun M => .inl ⟨_, _, rfl, by decide⟩⟩, ⟨n, rfl, out_mono (ne_out (E' := fun _ => False) h) (fun r q => UpP.mk q) (fun _ z => z.elim)⟩⟩

def S_Script_period (R : Prg K mg) : Spc := fun ds M P E => ∃ (a_self : (List StepT)), ds = [((scriptD R) a_self)] ∧ (m_Script_period a_self).Out (fun r => P (.int r) M) (fun x => E (exE R x) M)
theorem ok_Script_period (R : Prg K mg) : FnD PR w K mg base 3 R.f_Script_period R.d_Script_period P_Script_period (S_Script_period R) := by
  refine fn_d false R.F_Script_period sc_Script_period (fun h => nomatch h) (fun ds M P E ⟨_, e, _⟩ => by rw [e]; rfl) fun cdv A outer s H E hr ds M Pd PE h => ?_
  obtain ⟨a_self, rfl, h⟩ := h
  have hu := hr.units
  refine WS.ends ?_
  exact ws_ret <| ex_callF (ok_multiple_of R) (hr.mono (by decide)) R.m_multiple_of R.F_multiple_of R.b_multiple_of <| ea_cons <| ex_lcT [("step", 1)] <| ei_tup <| ex_fld <| ex_var ⟨rfl, rfl⟩ <| ⟨_, ⟨_, R.L_Script.cl, R.A_Script_rows, .inl ⟨_, _, rfl, rfl, rfl⟩⟩, ⟨_, rfl, compT (stepD R) Dat.int (xs := a_self) (ob h) trivial (fun x1 _ h s H C cl fp => gc_name  <| fun s H C cl fp => ef_one <| et_not <| et_val <| ex_callB R.n_isinstance PyProof.Rows.Boot.«isinstance» <| ea_cons <| ex_var ⟨rfl, rfl⟩ <| ea_cons <| ex_gref R.mc_Full <| ea_nil <| c_isx (.own _) (isin_Full R x1) <| ⟨_, rfl, cifN h (fun h => ⟨rfl, h⟩) (fun h => fun s H C cl fp => ex_propD <| ex_var ⟨rfl, rfl⟩ <| prD (pr_Step_size R x1 (hr.mono (by decide))) (ob h) fun z2 h => ⟨rfl, z2, rfl, h⟩)⟩) (fun l3 h => ea_nil <| ⟨l3, rfl, outU (ob h) (fun z4 h => (dN [] h)) (fun _ h => dX [] h)⟩)⟩⟩

def S_holds_in (R : Prg K mg) : Spc := fun ds M P E => ∃ (a_one : (Int × Int)) (a_other : (Int × Int)), ds = [((pairD Dat.int Dat.int) a_one), ((pairD Dat.int Dat.int) a_other)] ∧ (m_holds_in a_one a_other).Out (fun r => P (.bl r) M) (fun x => E (exE R x) M)
theorem ok_holds_in (R : Prg K mg) : FnD PR w K mg base 1 R.f_holds_in R.d_holds_in P_holds_in (S_holds_in R) := by
  refine fn_d false R.F_holds_in sc_holds_in (fun h => nomatch h) (fun ds M P E ⟨_, _, e, _⟩ => by rw [e]; rfl) fun cdv A outer s H E hr ds M Pd PE h => ?_
  obtain ⟨a_one, a_other, rfl, h⟩ := h
  have hu := hr.units
  refine WS.ends ?_
  exact ws_ret <| exJQ Dat.bl (ob h) (fun _ h => exA h (fun _ h => ex_cmp <| ex_bin <| ex_ix <| ex_var ⟨rfl, rfl⟩ <| ex_int <| i_tup rfl <| ex_ix <| ex_var ⟨rfl, rfl⟩ <| ex_int <| i_tup rfl <| o_band <| ex_ix <| ex_var ⟨rfl, rfl⟩ <| ex_int <| i_tup rfl <| o_eqI <| ⟨rfl, (decide ((Builtin.bitAnd a_one.1 a_other.1) = a_one.1)), rfl, h⟩) (fun h => ex_and1 <| ex_cmp <| ex_bin <| ex_ix <| ex_var ⟨rfl, rfl⟩ <| ex_int <| i_tup rfl <| ex_ix <| ex_var ⟨rfl, rfl⟩ <| ex_int <| i_tup rfl <| o_band <| ex_ix <| ex_var ⟨rfl, rfl⟩ <| ex_int <| i_tup rfl <| o_eqI <| ⟨rfl, (decide ((Builtin.bitAnd a_one.2 a_other.2) = a_one.2)), rfl, h⟩)) fun z1 h => (dN [] h)

def S_is_held__v2 (R : Prg K mg) : Spc := fun ds M P E => ∃ (P_rows : Addr) (a_rows : (List (Int × Int))) (a_other : (Int × Int)) (M0 : Mem), ds = [.raw (.ref P_rows), ((pairD Dat.int Dat.int) a_other)] ∧ M = (P_rows, .lst (a_rows.map (pairD Dat.int Dat.int))) :: M0 ∧ (m_is_held__v2 a_rows a_other).Out (fun r => P (.bl r) M) (fun x => E (exE R x) M)
theorem ok_is_held__v2 (R : Prg K mg) : FnD PR w K mg base 2 R.f_is_held R.d_is_held P_is_held (S_is_held__v2 R) := by
  refine fn_d false R.F_is_held sc_is_held (fun h => nomatch h) (fun ds M P E ⟨_, _, _, _, e, _⟩ => by rw [e]; rfl) fun cdv A outer s H E hr ds M Pd PE h => ?_
  obtain ⟨P_rows, a_rows, a_other, M0, rfl, rfl, h⟩ := h
  have hu := hr.units
  refine WS.ends ?_
  refine ws_forT <| ei_cell <| ex_var ⟨rfl, rfl⟩ <| ⟨_, _, rfl, List.mem_cons_self, forT (pairD Dat.int Dat.int) (xs := a_rows) (fun (s1 : Unit) τ M' => ∃ d2, [some (.raw (.ref P_rows)), some ((pairD Dat.int Dat.int) a_other), d2] = τ ∧ (P_rows, .lst (a_rows.map (pairD Dat.int Dat.int))) :: M0 = M') (ob h) ⟨_, rfl, rfl⟩ (fun _ _ _ ⟨_, _, e⟩ => e ▸ List.mem_cons_self) ?g8 ?g9⟩
  case g8 =>
    rintro x2 s1 _ _ N ⟨d2, rfl, rfl⟩ h hrt3
    refine gx_name  <| ?_
    refine ws_if <| et_val <| ex_callF (ok_holds_in R) (hr.mono (by decide)) R.m_holds_in R.F_holds_in R.b_holds_in <| ea_cons <| ex_var ⟨rfl, rfl⟩ <| ea_cons <| ex_var ⟨rfl, rfl⟩ <| ea_nil <| ⟨x2, a_other, rfl, outU (ob h) (fun z5 h => ⟨_, rfl, cif h (fun h => ?g6) (fun h => ?g7)⟩) (fun _ h => dX [] h)⟩
    case g6 =>
      exact ws_ret <| ex_bl <| (dN [] (hrt3 _ h))
    case g7 =>
      refine ws_nil ?_
      exact ws_nil ⟨(), ⟨_, rfl, rfl⟩, h⟩
  case g9 =>
    rintro s1 _ _ ⟨d2, rfl, rfl⟩ h
    replace h := finO h
    exact ws_ret <| ex_bl <| (dN [] h)

def S_least_of (R : Prg K mg) : Spc := fun ds M P E => ∃ (a_rows : (List (Int × Int))), ds = [((lstD (pairD Dat.int Dat.int)) a_rows)] ∧ (m_least_of a_rows).Out (fun r => P ((lstD (pairD Dat.int Dat.int)) r) M) (fun x => E (exE R x) M)
theorem ok_least_of (R : Prg K mg) : FnD PR w K mg base 3 R.f_least_of R.d_least_of P_least_of (S_least_of R) := by
  refine fn_d false R.F_least_of sc_least_of (fun h => nomatch h) (fun ds M P E ⟨_, e, _⟩ => by rw [e]; rfl) fun cdv A outer s H E hr ds M Pd PE h => ?_
  obtain ⟨a_rows, rfl, h⟩ := h
  have hu := hr.units
  refine WS.ends ?_
  refine ws_set <| ex_lstC <| ea_nil ⟨ln, fun q1 _ => ?_⟩
  refine ws_forT <| ei_list <| ex_srtSetT R.n_sorted R.n_set hu <| ex_var ⟨rfl, rfl⟩ <| ⟨a_rows, rfl, _, _, (ob h), fun z2 h => ⟨_, rfl, foldT (pairD Dat.int Dat.int) (xs := z2) (fun (s3 : (List (Int × Int))) τ M' => ∃ d2, [some ((lstD (pairD Dat.int Dat.int)) a_rows), some (.raw (.ref q1)), d2] = τ ∧ (q1, .lst (s3.map (pairD Dat.int Dat.int))) :: M = M') (ob h) ⟨_, rfl, rfl⟩ (fun _ _ _ _ => trivial) ?g14 ?g15⟩⟩
  case g14 =>
    rintro x4 s3 _ _ N ⟨d2, rfl, rfl⟩ h
    refine gx_name  <| ?_
    refine ws_ifQ (fun Q τ M' => ∃ s7 : (List (Int × Int)), [some ((lstD (pairD Dat.int Dat.int)) a_rows), some (.raw (.ref q1)), some ((pairD Dat.int Dat.int) x4)] = τ ∧ (q1, .lst (s7.map (pairD Dat.int Dat.int))) :: M = M' ∧ Q s7) (ob h) (fun _ h => et_not <| et_val <| ex_callF (ok_is_held__v2 R) (hr.mono (by decide)) R.m_is_held R.F_is_held R.b_is_held <| ea_cons <| ex_var ⟨rfl, rfl⟩ <| ea_cons <| ex_var ⟨rfl, rfl⟩ <| ea_nil <| ⟨q1, s3, x4, _, rfl, rfl, outU (ob h) (fun z8 h => ⟨_, rfl, cifN h (fun h => ?g12) (fun h => ?g11)⟩) (fun _ h => dX [_] h)⟩) ?k13
    case g11 =>
      refine ws_expr <| r_app [] (pairD Dat.int Dat.int) (xs := s3) <| ex_var ⟨rfl, rfl⟩ ⟨rfl, rfl, ea_cons <| ex_var ⟨rfl, rfl⟩ <| ea_nil <| b_app [] (pairD Dat.int Dat.int) (xs := s3) (x := x4) (ob h) fun z9 h => ?_⟩
      exact ws_nil ⟨z9, rfl, rfl, h⟩
    case g12 =>
      exact ws_nil ⟨s3, rfl, rfl, h⟩
    case k13 =>
      rintro _ _ ⟨s7, rfl, rfl, h⟩
      exact ws_nil ⟨s7, ⟨_, rfl, rfl⟩, h⟩
  case g15 =>
    rintro s3 _ _ ⟨d2, rfl, rfl⟩ h
    exact ws_ret <| ex_frz <| ex_var ⟨rfl, rfl⟩ ⟨_, _, _, rfl, (List.perm_middle (l₁ := [])), (dN [] h)⟩

def S_dug (R : Prg K mg) : Spc := fun ds M P E => ∃ (a_rows : (List (Int × Int))) (a_bits : (List Int)), ds = [((lstD (pairD Dat.int Dat.int)) a_rows), ((lstD Dat.int) a_bits)] ∧ (m_dug a_rows a_bits).Out (fun r => P ((lstD (pairD Dat.int Dat.int)) r) M) (fun x => E (exE R x) M)
theorem ok_dug (R : Prg K mg) : FnD PR w K mg base 6 R.f_dug R.d_dug P_dug (S_dug R) := by
  refine fn_d false R.F_dug sc_dug (fun h => nomatch h) (fun ds M P E ⟨_, _, e, _⟩ => by rw [e]; rfl) fun cdv A outer s H E hr ds M Pd PE h => ?_
  obtain ⟨a_rows, a_bits, rfl, h⟩ := h
  have hu := hr.units
  refine WS.ends ?_
  refine ws_if <| et_cmp <| ex_lcT [("row", 5)] <| ei_list <| ex_var ⟨rfl, rfl⟩ <| ⟨_, rfl, compT (pairD Dat.int Dat.int) (pairD Dat.int Dat.int) (xs := a_rows) (ob h) trivial (fun x1 _ h s H C cl fp => gc_name <| fun s H C cl fp => ef_one <| et_cmp <| ex_bin <| ex_ix <| ex_var ⟨rfl, rfl⟩ <| ex_int <| i_tup rfl <| ex_callB R.n_sum PyProof.Rows.Boot.«sum» <| ea_cons <| ex_var ⟨rfl, rfl⟩ <| ea_nil <| c_sumT (ns := a_bits) <| o_band <| ex_int <| o_eqI <| ⟨_, rfl, cif h (fun h => fun s H C cl fp => ex_var ⟨rfl, rfl⟩ ⟨rfl, x1, rfl, h⟩) (fun h => ⟨rfl, h⟩)⟩) (fun l h => ex_lst <| ea_nil ⟨ln, r_eqNilT (pairD Dat.int Dat.int) hu <| ⟨_, rfl, cif h (fun h => ?g1) (fun h => ?g2)⟩⟩)⟩
  case g1 => exact ws_ret <| ex_var ⟨rfl, rfl⟩ <| dN [] h
  case g2 =>
    refine ws_nil ?_
    refine ws_set <| ex_lstC <| ea_nil ⟨ln, fun q1 _ => ?_⟩
    refine ws_forT <| ei_list <| ex_var ⟨rfl, rfl⟩ <| ⟨_, rfl, foldT (pairD Dat.int Dat.int) (xs := a_rows) (fun (s3 : (List (Int × Int))) τ M' => ∃ q d1 d2 d3 d4, [some ((lstD (pairD Dat.int Dat.int)) a_rows), some ((lstD Dat.int) a_bits), some (.raw (.ref q)), d1, d2, d3, d4] = τ ∧ (q, .lst (s3.map (pairD Dat.int Dat.int))) :: M = M') (ob h) ⟨_, _, _, _, _, rfl, rfl⟩ (fun _ _ _ _ => trivial) ?g14 ?g15⟩
    case g14 =>
      rintro x s3 _ _ N ⟨q, d1, d2, d3, d4, rfl, rfl⟩ h
      refine gx_tup <| gxs_cons <| gx_name <| gxs_cons <| gx_name <| gxs_nil ?_
      refine ws_if <| et_cmp <| ex_bin <| ex_var ⟨rfl, rfl⟩ <| ex_callB R.n_sum PyProof.Rows.Boot.«sum» <| ea_cons <| ex_var ⟨rfl, rfl⟩ <| ea_nil <| c_sumT (ns := a_bits) <| o_band <| ex_int <| o_neI <| ⟨_, rfl, cif h (fun h => ?b1) (fun h => ?b2)⟩
      case b1 =>
        refine ws_expr <| r_app [] (pairD Dat.int Dat.int) (xs := s3) <| ex_var ⟨rfl, rfl⟩ ⟨rfl, rfl, ea_cons <| ex_tup <| ea_cons <| ex_var ⟨rfl, rfl⟩ <| ea_cons <| ex_var ⟨rfl, rfl⟩ <| ea_nil ⟨ln, ea_nil <| b_app [] (pairD Dat.int Dat.int) (xs := s3) (x := (x.1, x.2)) h fun z9 h => ?_⟩⟩
        exact ws_nil <| ws_nil ⟨z9, ⟨_, _, _, _, _, rfl, rfl⟩, h⟩
      case b2 =>
        refine ws_set <| ex_bin <| ex_var ⟨rfl, rfl⟩ <| ex_lcT [("bit", 6)] <| ei_list <| ex_var ⟨rfl, rfl⟩ <| ⟨_, rfl, compT Dat.int (pairD Dat.int Dat.int) (xs := a_bits) (ob h) trivial (fun x1 _ h s H C cl fp => gc_name <| fun s H C cl fp => ef_nil ⟨fun _ s H C cl fp => ex_tup <| ea_cons <| ex_bin <| ex_var ⟨rfl, rfl⟩ <| ex_var ⟨rfl, rfl⟩ <| o_bor <| ea_cons <| ex_bin <| ex_var ⟨rfl, rfl⟩ <| ex_var ⟨rfl, rfl⟩ <| o_bor <| ea_nil ⟨ln, rfl, _, rfl, h⟩, fun z => nomatch z⟩) (fun l2 h => ?c)⟩
        have g := gd h
        refine o_catNew (xs := s3.map (pairD Dat.int Dat.int)) (ys := l2.map (pairD Dat.int Dat.int)) (.inr ⟨q, rfl, List.mem_cons_self⟩) (.inl rfl) (by rw [List.length_map, List.length_map]; exact g.1) fun q' => ?_
        refine ws_drop (A := (q', .lst (s3.map (pairD Dat.int Dat.int) ++ l2.map (pairD Dat.int Dat.int))) :: M) (B := [_]) (List.Perm.cons _ (List.perm_append_comm (l₁ := [_]))) ?_
        refine ws_nil <| ws_nil ⟨s3 ++ l2, ⟨q', _, _, _, _, rfl, ?_⟩, g.2⟩
        rw [List.map_append]
    case g15 =>
      rintro s3 _ _ ⟨q, d1, d2, d3, d4, rfl, rfl⟩ h
      refine ws_frz 2 rfl (List.Perm.refl _) ?_
      exact ws_ret <| ex_callF (ok_least_of R) (hr.mono (by decide)) R.m_least_of R.F_least_of R.b_least_of <| ea_cons <| ex_var ⟨rfl, rfl⟩ <| ea_nil ⟨s3, rfl, outU (ob h) (fun z h => dN [] h) (fun _ h => dX [] h)⟩

def S_behind_step (R : Prg K mg) : Spc := fun ds M P E => ∃ (a_step : StepT) (a_table : (List (List (Int × Int)))), ds = [((stepD R) a_step), ((lstD (lstD (pairD Dat.int Dat.int))) a_table)] ∧ (m_behind_step a_step a_table).Out (fun r => P ((lstD (lstD (pairD Dat.int Dat.int))) r) M) (fun x => E (exE R x) M)
theorem ok_behind_step (R : Prg K mg) : FnD PR w K mg base 7 R.f_behind_step R.d_behind_step P_behind_step (S_behind_step R) := by
  refine fn_d false R.F_behind_step sc_behind_step (fun h => nomatch h) (fun ds M P E ⟨_, _, e, _⟩ => by rw [e]; rfl) fun cdv A outer s H E hr ds M Pd PE h => ?_
  obtain ⟨a_step, a_table, rfl, h⟩ := h
  have hu := hr.units
  refine WS.ends ?_
  refine ws_if <| et_val <| ex_callB R.n_isinstance PyProof.Rows.Boot.«isinstance» <| ea_cons <| ex_var ⟨rfl, rfl⟩ <| ea_cons <| ex_gref R.mc_Full <| ea_nil <| c_isx (.own _) (isin_Full R a_step) <| ⟨_, rfl, cif h (fun h => ?g3) (fun h => ?g44)⟩
  case g3 =>
    exact ws_ret <| ex_lcT [("rows", 7)] <| ei_list <| ex_var ⟨rfl, rfl⟩ <| ⟨_, rfl, compT (lstD (pairD Dat.int Dat.int)) (lstD (pairD Dat.int Dat.int)) (xs := a_table) (ob h) trivial (fun x1 _ h s H C cl fp => gc_name  <| fun s H C cl fp => ef_nil ⟨fun _ s H C cl fp => ex_lst <| ea_cons <| ex_tup <| ea_cons <| ex_int <| ea_cons <| ex_int <| ea_nil ⟨ln, ea_nil ⟨ln, ⟨rfl, ([((0 : Int), (0 : Int))] : List (Int × Int)), rfl, h⟩⟩⟩, fun z => nomatch z⟩) (fun l2 h => (dN [] h))⟩
  case g44 =>
    refine ws_nil ?_
    refine ws_set <| ex_lst <| ea_nil ⟨ln, ?_⟩
    refine ws_forT <| ei_rng3 R.n_range <| ex_int <| ex_callB R.n_len PyProof.Rows.Boot.«len» <| ea_cons <| ex_var ⟨rfl, rfl⟩ <| ea_nil <| c_lenT (lstD (pairD Dat.int Dat.int)) (xs := a_table) <| ex_propD <| ex_var ⟨rfl, rfl⟩ <| prD (pr_Step_size R a_step (hr.mono (by decide))) (ob h) fun z4 h => ⟨(0 : Int), (a_table.length : Int), z4, rfl, rfl, rfl, (gd (ob h)).1, have h := (gd (ob h)).2; foldT Dat.int (xs := (rangeC (0 : Int) z4 (Int.toNat (((a_table.length : Int) - (0 : Int) + z4 - 1) / z4)))) (fun (s5 : (List (List (Int × Int)))) τ M' => ∃ d3 d4 d5 d6 d7 d8 d9 d10, [some ((stepD R) a_step), some ((lstD (lstD (pairD Dat.int Dat.int))) a_table), some ((lstD (lstD (pairD Dat.int Dat.int))) s5), d3, d4, d5, d6, d7, d8, d9, d10] = τ ∧ M = M') (ob h) ⟨_, _, _, _, _, _, _, _, rfl, rfl⟩ (fun _ _ _ _ => trivial) ?g41 ?g42⟩
    case g41 =>
      rintro x6 s5 _ _ N ⟨d3, d4, d5, d6, d7, d8, d9, d10, rfl, rfl⟩ h
      refine gx_name  <| ?_
      refine ws_set <| ex_sl <| ex_var ⟨rfl, rfl⟩ <| ep_some <| ex_var ⟨rfl, rfl⟩ <| ⟨_, rfl, ep_some <| ex_bin <| ex_var ⟨rfl, rfl⟩ <| ex_propD <| ex_var ⟨rfl, rfl⟩ <| prD (pr_Step_size R a_step (hr.mono (by decide))) (ob h) fun z9 h => o_add <| ⟨_, rfl, l_lstT (lstD (pairD Dat.int Dat.int)) (xs := a_table) <| ?_⟩⟩
      refine ws_set <| ex_lcT [("at", 8)] <| ei_rng2 R.n_range <| ex_var ⟨rfl, rfl⟩ <| ex_bin <| ex_var ⟨rfl, rfl⟩ <| ex_callB R.n_len PyProof.Rows.Boot.«len» <| ea_cons <| ex_var ⟨rfl, rfl⟩ <| ea_nil <| c_lenT (lstD (pairD Dat.int Dat.int)) (xs := (cutD a_table (some x6) (some (x6 + z9)))) <| o_add <| ⟨x6, (x6 + ((cutD a_table (some x6) (some (x6 + z9))).length : Int)), rfl, rfl, (gd (ob h)).1, have h := (gd (ob h)).2; compT Dat.int Dat.int (xs := (rangeL x6 (Int.toNat ((x6 + ((cutD a_table (some x6) (some (x6 + z9))).length : Int)) - x6)))) (ob h) trivial (fun x10 _ h s H C cl fp => gc_name  <| fun s H C cl fp => ef_nil ⟨fun _ s H C cl fp => ex_bin <| ex_int <| ex_var ⟨rfl, rfl⟩ <| r_shl (ob h) fun z11 h => ⟨rfl, z11, rfl, h⟩, fun z => nomatch z⟩) (fun l12 h => ?_)⟩
      refine ws_ifQ (fun Q τ M' => ∃ s13 : (List (List (Int × Int))), ∃ d6 d7 d8 d9 d10, [some ((stepD R) a_step), some ((lstD (lstD (pairD Dat.int Dat.int))) a_table), some ((lstD (lstD (pairD Dat.int Dat.int))) s13), some (.int x6), some ((lstD (lstD (pairD Dat.int Dat.int))) (cutD a_table (some x6) (some (x6 + z9)))), some ((lstD Dat.int) l12), d6, d7, d8, d9, d10] = τ ∧ M = M' ∧ Q s13) (ob h) (fun _ h => et_val <| ex_callB R.n_isinstance PyProof.Rows.Boot.«isinstance» <| ea_cons <| ex_var ⟨rfl, rfl⟩ <| ea_cons <| ex_gref R.mc_Keep <| ea_nil <| c_isx (.own _) (isin_Keep R a_step) <| ⟨_, rfl, cif h (fun h => ?g21) (fun h => ?g37)⟩) ?k38
      case g21 =>
        refine ws_set <| ex_callF (ok_least_of R) (hr.mono (by decide)) R.m_least_of R.F_least_of R.b_least_of <| ea_cons <| ex_flat [("rows", 7), ("row", 9)] [9] <| ei_list <| ex_var ⟨rfl, rfl⟩ <| ⟨_, rfl, flatT (pairD Dat.int Dat.int) (xss := (cutD a_table (some x6) (some (x6 + z9)))) (ob h) trivial (fun ds s H C cl fp => gc_name ⟨rfl, (fun s H C cl fp => ei_list <| ex_var ⟨rfl, rfl⟩ ⟨_, rfl, rfl, rfl, trivial⟩), fun d s H C cl fp => gc_name ⟨rfl, fun s H C cl fp => ex_var ⟨rfl, rfl⟩ ⟨rfl, rfl⟩⟩⟩) fun l14 h => ea_nil <| ⟨l14, rfl, outU (ob h) (fun z15 h => ?_) (fun _ h => dX [] h)⟩⟩
        refine ws_set <| ex_bin <| ex_var ⟨rfl, rfl⟩ <| ex_lcT [("rows", 7)] <| ei_list <| ex_var ⟨rfl, rfl⟩ <| ⟨_, rfl, compT (lstD (pairD Dat.int Dat.int)) (lstD (pairD Dat.int Dat.int)) (xs := (cutD a_table (some x6) (some (x6 + z9)))) (ob h) trivial (fun x16 _ h s H C cl fp => gc_name  <| fun s H C cl fp => ef_nil ⟨fun _ s H C cl fp => ex_var ⟨rfl, rfl⟩ <| ⟨rfl, z15, rfl, h⟩, fun z => nomatch z⟩) (fun l17 h => r_catL (lstD (pairD Dat.int Dat.int)) (xs := s5) (ys := l17) (ob h) fun z18 h => ?_)⟩
        exact ws_nil ⟨z18, _, _, _, _, _, rfl, rfl, h⟩
      case g37 =>
        refine ws_ifQ (fun Q τ M' => ∃ s22 : (List (List (Int × Int))), ∃ d6 d7 d8 d9 d10, [some ((stepD R) a_step), some ((lstD (lstD (pairD Dat.int Dat.int))) a_table), some ((lstD (lstD (pairD Dat.int Dat.int))) s22), some (.int x6), some ((lstD (lstD (pairD Dat.int Dat.int))) (cutD a_table (some x6) (some (x6 + z9)))), some ((lstD Dat.int) l12), d6, d7, d8, d9, d10] = τ ∧ M = M' ∧ Q s22) (ob h) (fun _ h => et_val <| ex_callB R.n_isinstance PyProof.Rows.Boot.«isinstance» <| ea_cons <| ex_var ⟨rfl, rfl⟩ <| ea_cons <| ex_gref R.mc_Dig <| ea_nil <| c_isx (.own _) (isin_Dig R a_step) <| ⟨_, rfl, cif h (fun h => ?g28) (fun h => ?g35)⟩) ?k36
        case g28 =>
          refine ws_set <| ex_bin <| ex_var ⟨rfl, rfl⟩ <| ex_lcT [("rows", 7)] <| ei_list <| ex_var ⟨rfl, rfl⟩ <| ⟨_, rfl, compT (lstD (pairD Dat.int Dat.int)) (lstD (pairD Dat.int Dat.int)) (xs := (cutD a_table (some x6) (some (x6 + z9)))) (ob h) trivial (fun x23 _ h s H C cl fp => gc_name  <| fun s H C cl fp => ef_nil ⟨fun _ s H C cl fp => ex_callF (ok_dug R) (hr.mono (by decide)) R.m_dug R.F_dug R.b_dug <| ea_cons <| ex_var ⟨rfl, rfl⟩ <| ea_cons <| ex_var ⟨rfl, rfl⟩ <| ea_nil <| ⟨x23, l12, rfl, outU (ob h) (fun z24 h => ⟨rfl, z24, rfl, h⟩) (fun _ h => h)⟩, fun z => nomatch z⟩) (fun l25 h => r_catL (lstD (pairD Dat.int Dat.int)) (xs := s5) (ys := l25) (ob h) fun z26 h => ?_)⟩
          exact ws_nil ⟨z26, _, _, _, _, _, rfl, rfl, h⟩
        case g35 =>
          refine ws_set <| ex_bin <| ex_var ⟨rfl, rfl⟩ <| ex_lcT [("rows", 7)] <| ei_list <| ex_var ⟨rfl, rfl⟩ <| ⟨_, rfl, compT (lstD (pairD Dat.int Dat.int)) (lstD (pairD Dat.int Dat.int)) (xs := (cutD a_table (some x6) (some (x6 + z9)))) (ob h) trivial (fun x29 _ h s H C cl fp => gc_name  <| fun s H C cl fp => ef_nil ⟨fun _ s H C cl fp => ex_lcT [("bit", 10)] <| ei_list <| ex_var ⟨rfl, rfl⟩ <| ⟨_, rfl, compT Dat.int (pairD Dat.int Dat.int) (xs := l12) (ob h) trivial (fun x30 _ h s H C cl fp => gc_name  <| fun s H C cl fp => ef_nil ⟨fun _ s H C cl fp => ex_tup <| ea_cons <| ex_var ⟨rfl, rfl⟩ <| ea_cons <| ex_var ⟨rfl, rfl⟩ <| ea_nil ⟨ln, ⟨rfl, (x30, x30), rfl, h⟩⟩, fun z => nomatch z⟩) (fun l31 h => ⟨rfl, l31, rfl, h⟩)⟩, fun z => nomatch z⟩) (fun l32 h => r_catL (lstD (pairD Dat.int Dat.int)) (xs := s5) (ys := l32) (ob h) fun z33 h => ?_)⟩
          exact ws_nil ⟨z33, _, _, _, _, _, rfl, rfl, h⟩
        case k36 =>
          rintro _ _ ⟨s22, d6, d7, d8, d9, d10, rfl, rfl, h⟩
          exact ws_nil ⟨s22, _, _, _, _, _, rfl, rfl, h⟩
      case k38 =>
        rintro _ _ ⟨s13, d6, d7, d8, d9, d10, rfl, rfl, h⟩
        exact ws_nil ⟨s13, ⟨_, _, _, _, _, _, _, _, rfl, rfl⟩, h⟩
    case g42 =>
      rintro s5 _ _ ⟨d3, d4, d5, d6, d7, d8, d9, d10, rfl, rfl⟩ h
      exact ws_ret <| ex_var ⟨rfl, rfl⟩ <| (dN [] h)

def S_reason_table (R : Prg K mg) : Spc := fun ds M P E => ∃ (a_script : (List StepT)), ds = [((scriptD R) a_script)] ∧ (m_reason_table a_script).Out (fun r => P ((lstD (lstD (pairD Dat.int Dat.int))) r) M) (fun x => E (exE R x) M)
theorem ok_reason_table (R : Prg K mg) : FnD PR w K mg base 8 R.f_reason_table R.d_reason_table P_reason_table (S_reason_table R) := by
  refine fn_d false R.F_reason_table sc_reason_table (fun h => nomatch h) (fun ds M P E ⟨_, e, _⟩ => by rw [e]; rfl) fun cdv A outer s H E hr ds M Pd PE h => ?_
  obtain ⟨a_script, rfl, h⟩ := h
  have hu := hr.units
  refine WS.ends ?_
  refine ws_setLcT [("at", 3)] <| ei_rng1 R.n_range <| ex_prop R.L_Script.cl R.V_Script_period (ok_Script_period R) (hr.mono (by decide)) R.b_Script_period <| ex_var ⟨rfl, rfl⟩ <| ⟨⟨"", .inl ⟨_, _, rfl, by decide⟩⟩, ap_all ⟨a_script, rfl, outU (ne_out (E' := fun _ => False) (ob h)) (fun z1 h => ⟨z1, rfl, (gd (ob h)).1, have h := (gd (ob h)).2; compT Dat.int (lstD (pairD Dat.int Dat.int)) (xs := (rangeL 0 (Int.toNat z1))) (ob h) trivial (fun x2 _ h s H C cl fp => gc_name  <| fun s H C cl fp => ef_nil ⟨fun _ s H C cl fp => ex_lst <| ea_cons <| ex_tup <| ea_cons <| ex_bin <| ex_int <| ex_var ⟨rfl, rfl⟩ <| r_shl (ob h) fun z3 h => ea_cons <| ex_int <| ea_nil ⟨ln, ea_nil ⟨ln, ⟨rfl, ([(z3, (0 : Int))] : List (Int × Int)), rfl, h⟩⟩⟩, fun z => nomatch z⟩) (fun l4 h => ?_)⟩) (fun _ h => h.elim)⟩⟩
  refine ws_forT <| ei_ownT R.F_Script_iter sc_Script_iter rfl R.M_Script_iter R.L_Script.cl R.A_Script_rows R.n_iter (hr.mono (by decide)) R.b_Script_iter rfl (by first | exact Or.inl rfl | exact Or.inr (Or.inl rfl) | exact Or.inr (Or.inr rfl)) (by intro _ _ _; rfl) <| ex_var ⟨rfl, rfl⟩ <| ⟨_, rfl, foldT (stepD R) (xs := a_script) (fun (s5 : (List (List (Int × Int)))) τ M' => ∃ d2 d3, [some ((scriptD R) a_script), some ((lstD (lstD (pairD Dat.int Dat.int))) s5), d2, d3] = τ ∧ M = M') (ob h) ⟨_, _, rfl, rfl⟩ (fun _ _ _ _ => trivial) ?g11 ?g12⟩
  case g11 =>
    rintro x6 s5 _ _ N ⟨d2, d3, rfl, rfl⟩ h
    refine gx_name  <| ?_
    refine ws_set <| ex_callF (ok_behind_step R) (hr.mono (by decide)) R.m_behind_step R.F_behind_step R.b_behind_step <| ea_cons <| ex_var ⟨rfl, rfl⟩ <| ea_cons <| ex_var ⟨rfl, rfl⟩ <| ea_nil <| ⟨x6, s5, rfl, outU (ob h) (fun z9 h => ?_) (fun _ h => dX [] h)⟩
    exact ws_nil ⟨z9, ⟨_, _, rfl, rfl⟩, h⟩
  case g12 =>
    rintro s5 _ _ ⟨d2, d3, rfl, rfl⟩ h
    exact ws_ret <| ex_var ⟨rfl, rfl⟩ <| (dN [] h)

def S_cells_of (R : Prg K mg) : Spc := fun ds M P E => ∃ (a_bits : Int) (a_first : Int) (a_period : Int), ds = [(.int a_bits), (.int a_first), (.int a_period)] ∧ (m_cells_of a_bits a_first a_period).Out (fun r => P ((lstD Dat.int) r) M) (fun x => E (exE R x) M)
theorem ok_cells_of (R : Prg K mg) : FnD PR w K mg base 1 R.f_cells_of R.d_cells_of P_cells_of (S_cells_of R) := by
  refine fn_d false R.F_cells_of sc_cells_of (fun h => nomatch h) (fun ds M P E ⟨_, _, _, e, _⟩ => by rw [e]; rfl) fun cdv A outer s H E hr ds M Pd PE h => ?_
  obtain ⟨a_bits, a_first, a_period, rfl, h⟩ := h
  have hu := hr.units
  refine WS.ends ?_
  exact ws_ret <| ex_lcT [("at", 3)] <| ei_rng1 R.n_range <| ex_var ⟨rfl, rfl⟩ <| ⟨a_period, rfl, (gd (ob h)).1, have h := (gd (ob h)).2; compT Dat.int Dat.int (xs := (rangeL 0 (Int.toNat a_period))) (ob h) trivial (fun x1 _ h s H C cl fp => gc_name  <| fun s H C cl fp => ef_one <| et_cmp <| ex_bin <| ex_bin <| ex_var ⟨rfl, rfl⟩ <| ex_var ⟨rfl, rfl⟩ <| r_shr (ob h) fun z2 h => ex_int <| o_band <| ex_int <| o_eqI <| ⟨_, rfl, cif h (fun h => fun s H C cl fp => ex_bin <| ex_var ⟨rfl, rfl⟩ <| ex_var ⟨rfl, rfl⟩ <| o_add <| ⟨rfl, (a_first + x1), rfl, h⟩) (fun h => ⟨rfl, h⟩)⟩) (fun l3 h => (dN [] h))⟩

def S_reasons (R : Prg K mg) : Spc := fun ds M P E => ∃ (a_script : (List StepT)) (a_cell : Int), ds = [((scriptD R) a_script), (.int a_cell)] ∧ (m_reasons a_script a_cell).Out (fun r => P ((lstD (pairD (lstD Dat.int) (lstD Dat.int))) r) M) (fun x => E (exE R x) M)
theorem ok_reasons (R : Prg K mg) : FnD PR w K mg base 9 R.f_reasons R.d_reasons P_reasons (S_reasons R) := by
  refine fn_d false R.F_reasons sc_reasons (fun h => nomatch h) (fun ds M P E ⟨_, _, e, _⟩ => by rw [e]; rfl) fun cdv A outer s H E hr ds M Pd PE h => ?_
  obtain ⟨a_script, a_cell, rfl, h⟩ := h
  have hu := hr.units
  refine WS.ends ?_
  refine ws_expr <| ex_callF (ok_check_script R) (hr.mono (by decide)) R.m_check_script R.F_check_script R.b_check_script <| ea_cons <| ex_var ⟨rfl, rfl⟩ <| ea_nil <| ⟨a_script, rfl, outU (ob h) (fun z1 h => ?_) (fun _ h => dX [] h)⟩
  refine ws_expr <| ex_callF (ok_check_least R) (hr.mono (by decide)) R.m_check_least R.F_check_least R.b_check_least <| ea_cons <| ex_var ⟨rfl, rfl⟩ <| ea_cons <| ex_int <| ea_nil <| ⟨a_cell, (0 : Int), rfl, outU (ob h) (fun z2 h => ?_) (fun _ h => dX [] h)⟩
  refine ws_set <| ex_prop R.L_Script.cl R.V_Script_period (ok_Script_period R) (hr.mono (by decide)) R.b_Script_period <| ex_var ⟨rfl, rfl⟩ <| ⟨⟨"", .inl ⟨_, _, rfl, by decide⟩⟩, ap_all ⟨a_script, rfl, outU (ne_out (E' := fun _ => False) (ob h)) (fun z3 h => ?_) (fun _ h => h.elim)⟩⟩
  refine ws_set <| ex_bin <| ex_bin <| ex_var ⟨rfl, rfl⟩ <| ex_var ⟨rfl, rfl⟩ <| r_div (ob h) fun z4 h => ex_var ⟨rfl, rfl⟩ <| r_mul (ob h) fun z5 h => ?_
  refine ws_set <| ex_ix <| ex_callF (ok_reason_table R) (hr.mono (by decide)) R.m_reason_table R.F_reason_table R.b_reason_table <| ea_cons <| ex_var ⟨rfl, rfl⟩ <| ea_nil <| ⟨a_script, rfl, outU (ob h) (fun z6 h => ex_bin <| ex_var ⟨rfl, rfl⟩ <| ex_var ⟨rfl, rfl⟩ <| o_sub <| r_ix (lstD (pairD Dat.int Dat.int)) (xs := z6) (ob h) fun z7 h => ?_) (fun _ h => dX [] h)⟩
  refine ws_setLcT [("written", 6), ("signs", 7)] <| ei_list <| ex_var ⟨rfl, rfl⟩ <| ⟨_, rfl, compT (pairD Dat.int Dat.int) (pairD (lstD Dat.int) (lstD Dat.int)) (xs := z7) (ob h) trivial (fun x8 _ h s H C cl fp => gc_tup <| gcs_cons <| gc_name  <| gcs_cons <| gc_name  <| gcs_nil <| fun s H C cl fp => ef_nil ⟨fun _ s H C cl fp => ex_tup <| ea_cons <| ex_callF (ok_cells_of R) (hr.mono (by decide)) R.m_cells_of R.F_cells_of R.b_cells_of <| ea_cons <| ex_var ⟨rfl, rfl⟩ <| ea_cons <| ex_var ⟨rfl, rfl⟩ <| ea_cons <| ex_var ⟨rfl, rfl⟩ <| ea_nil <| ⟨x8.2, z5, z3, rfl, outU (ob h) (fun z9 h => ea_cons <| ex_callF (ok_cells_of R) (hr.mono (by decide)) R.m_cells_of R.F_cells_of R.b_cells_of <| ea_cons <| ex_bin <| ex_var ⟨rfl, rfl⟩ <| ex_var ⟨rfl, rfl⟩ <| o_sub <| ea_cons <| ex_var ⟨rfl, rfl⟩ <| ea_cons <| ex_var ⟨rfl, rfl⟩ <| ea_nil <| ⟨(x8.1 - x8.2), z5, z3, rfl, outU (ob h) (fun z10 h => ea_nil ⟨ln, ⟨rfl, (z9, z10), rfl, h⟩⟩) (fun _ h => h)⟩) (fun _ h => h)⟩, fun z => nomatch z⟩) (fun l11 h => ?_)⟩
  exact ws_ret <| ex_callB R.n_sorted PyProof.Rows.Boot.«sorted» <| ea_cons <| ex_var ⟨rfl, rfl⟩ <| ea_nil <| c_sortD (py2 (pyL pyI) (pyL pyI)) (pys2 (pysL pysI) (pysL pysI)) (xs := l11) (.inl rfl) hu (ob h) fun z12 h => (dN [] h)

def S_law_told__v3 (R : Prg K mg) : Spc := fun ds M P E => ∃ (a_script : (List StepT)) (a_cell : Int), ds = [((scriptD R) a_script), (.int a_cell)] ∧ (m_law_told__v3 a_script a_cell).Out (fun r => P ((lstD (anyD (clR R))) r) M) (fun x => E (exE R x) M)
theorem ok_law_told__v3 (R : Prg K mg) : FnD PR w K mg base 10 R.f_law_told R.d_law_told P_law_told (S_law_told__v3 R) := by
  refine fn_d false R.F_law_told sc_law_told (fun h => nomatch h) (fun ds M P E ⟨_, _, e, _⟩ => by rw [e]; rfl) fun cdv A outer s H E hr ds M Pd PE h => ?_
  obtain ⟨a_script, a_cell, rfl, h⟩ := h
  have hu := hr.units
  refine WS.ends ?_
  refine ws_set <| ex_lst <| ea_cons <| ex_asA <| ex_str <| ⟨anyD (clR R) (Any.str ("none" : Str)), (by first | rfl | (simp only [anyD, anyDL, anyDL_map, List.map_map]; done) | (simp only [anyD, anyDL, anyDL_map, List.map_map]; rfl) | (simp only [anyD, anyDL, anyDL_map, List.map_map, stepA_comp, stepA_D]; rfl) | (simp only [anyD, anyDL, anyDL_map, List.map_map, stepA_comp, stepA_D]; done)), ea_nil ⟨ln, ?_⟩⟩
  refine ws_tryJ (exE R) (fun Q τ M' => ∃ s1 : (List Any), ∃ d3, [some ((scriptD R) a_script), some (.int a_cell), some ((lstD (anyD (clR R))) s1), d3] = τ ∧ M = M' ∧ Q s1) (l₀ := ⟨_, _, _, _, _, _, _⟩) (ls := [⟨_, _, _, _, _, _, _⟩]) (ob h) rfl rfl (.cons ⟨rfl, (by show (("InvalidScript" : Str) == ("__debug__" : Str)) = false; decide), .inl R.mc_InvalidScript⟩ rfl rfl (.cons ⟨rfl, (by show (("InvalidNumber" : Str) == ("__debug__" : Str)) = false; decide), .inl R.mc_InvalidNumber⟩ rfl rfl (.nil))) (fun h pn xe po => ?b7) ?x8 ?k9
  case b7 =>
    refine ws_expr <| ex_callF (ok_reasons R) (hr.mono (by decide)) R.m_reasons R.F_reasons R.b_reasons <| ea_cons <| ex_var ⟨rfl, rfl⟩ <| ea_cons <| ex_var ⟨rfl, rfl⟩ <| ea_nil <| ⟨a_script, a_cell, rfl, outU (ob h) (fun z2 h => ?_) (fun _ h => tX [] h)⟩
    exact ws_nil ⟨([(Any.str ("none" : Str))] : List Any), _, rfl, rfl, h⟩
  case x8 =>
    rintro ⟨kk, x4⟩ h
    cases kk with
    | file =>
      refine ⟨false, R.e_InvalidFile_InvalidScript, (fun z => nomatch z), fun _ => ⟨false, R.e_InvalidFile_InvalidNumber, (fun z => nomatch z), fun _ => (fun _ h => dX [] h) _ h⟩⟩
    | number =>
      refine ⟨false, R.e_InvalidNumber_InvalidScript, (fun z => nomatch z), fun _ => ⟨true, R.e_InvalidNumber_InvalidNumber, fun _ => ⟨List.cons_ne_nil _ _, fun a dd oe pn hz hv => ?_⟩, fun z => nomatch z⟩⟩
      refine ws_set <| ex_lst <| ea_cons <| ex_asA <| ex_str <| ⟨anyD (clR R) (Any.str ("number" : Str)), (by first | rfl | (simp only [anyD, anyDL, anyDL_map, List.map_map]; done) | (simp only [anyD, anyDL, anyDL_map, List.map_map]; rfl) | (simp only [anyD, anyDL, anyDL_map, List.map_map, stepA_comp, stepA_D]; rfl) | (simp only [anyD, anyDL, anyDL_map, List.map_map, stepA_comp, stepA_D]; done)), ea_cons <| ex_asA <| ex_ev R.x_InvalidNumber R.S_InvalidNumber.nf hz hv ⟨rfl, rfl⟩ rfl <| ⟨_, rfl, ea_nil ⟨ln, ?_⟩⟩⟩
      exact ws_nil ⟨([(Any.str ("number" : Str)), x4] : List Any), _, rfl, rfl, h⟩
    | script =>
      refine ⟨true, R.e_InvalidScript_InvalidScript, fun _ => ⟨List.cons_ne_nil _ _, fun a dd oe pn hz hv => ?_⟩, fun z => nomatch z⟩
      refine ws_set <| ex_lst <| ea_cons <| ex_asA <| ex_str <| ⟨anyD (clR R) (Any.str ("script" : Str)), (by first | rfl | (simp only [anyD, anyDL, anyDL_map, List.map_map]; done) | (simp only [anyD, anyDL, anyDL_map, List.map_map]; rfl) | (simp only [anyD, anyDL, anyDL_map, List.map_map, stepA_comp, stepA_D]; rfl) | (simp only [anyD, anyDL, anyDL_map, List.map_map, stepA_comp, stepA_D]; done)), ea_cons <| ex_asA <| ex_ev R.x_InvalidScript R.S_InvalidScript.nf hz hv ⟨rfl, rfl⟩ rfl <| ⟨_, rfl, ea_nil ⟨ln, ?_⟩⟩⟩
      exact ws_nil ⟨([(Any.str ("script" : Str)), x4] : List Any), _, rfl, rfl, h⟩
    | _ => exact h.elim
  case k9 =>
    rintro _ _ ⟨s1, d3, rfl, rfl, h⟩
    exact ws_ret <| ex_asA <| ex_var ⟨rfl, rfl⟩ <| ⟨_, rfl, (dN [] h)⟩
end
end Kh

set_option Elab.async false
set_option linter.all false
set_option maxRecDepth 100000
set_option maxHeartbeats 4000000
set_option exponentiation.threshold 20000
namespace Kh
open PySem PySem.Spec L2
/-! ### words for what the defs compute -/
section
variable {α β γ σ ρ : Type}
theorem bind_pure : ∀ {m : Res α}, (m.bind fun z => .ok z) = m
  | .ok _ => rfl
  | .err _ => rfl
  | .bad => rfl
  | .all f => congrArg Res.all (funext fun q => bind_pure (m := f q))
theorem foldR_append {f : σ → α → Res σ} : ∀ {xs ys : List α} {s : σ}, foldR f (xs ++ ys) s = (foldR f xs s).bind (foldR f ys)
  | [], ys, s => rfl
  | x :: xs, ys, s => by
    simp only [List.cons_append, foldR_cons, bind_bind]
    congr 1; funext s'; exact foldR_append
theorem foldR_inv {f : σ → α → Res σ} (I : σ → Prop) : ∀ {xs : List α} {s : σ}, I s → (∀ s x, I s → x ∈ xs → ∃ s', f s x = .ok s' ∧ I s') → ∃ s', foldR f xs s = .ok s' ∧ I s'
  | [], s, h, _ => ⟨s, rfl, h⟩
  | x :: xs, s, h, hf => by
    obtain ⟨s1, e1, h1⟩ := hf s x h List.mem_cons_self
    rw [foldR_cons, e1]
    exact foldR_inv I h1 fun s y hs hy => hf s y hs (List.mem_cons_of_mem _ hy)
theorem rangeL_succ {lo : Int} {n : Nat} : rangeL lo (n + 1) = rangeL lo n ++ [lo + (n : Int)] := by simp [rangeL, List.range_succ]
theorem rangeL_length {lo : Int} {n : Nat} : (rangeL lo n).length = n := by simp [rangeL]
theorem mem_rangeL {lo i : Int} {n : Nat} : i ∈ rangeL lo n ↔ lo ≤ i ∧ i < lo + n := by
  simp only [rangeL, List.mem_map, List.mem_range]
  constructor
  · rintro ⟨k, hk, rfl⟩; omega
  · rintro ⟨h1, h2⟩; exact ⟨(i - lo).toNat, by omega, by omega⟩
theorem foldR_rangeI {f : σ → Int → Res σ} {lo : Int} (I : Nat → σ → Prop) {s0 : σ} (h0 : I 0 s0) : ∀ {n : Nat}, (∀ i s, i < n → I i s → ∃ s', f s (lo + (i : Int)) = .ok s' ∧ I (i + 1) s') → ∃ s', foldR f (rangeL lo n) s0 = .ok s' ∧ I n s'
  | 0, _ => ⟨s0, rfl, h0⟩
  | n + 1, h => by
    obtain ⟨s1, e1, h1⟩ := foldR_rangeI I h0 (n := n) fun i s hi => h i s (by omega)
    obtain ⟨s2, e2, h2⟩ := h n s1 (by omega) h1
    refine ⟨s2, ?_, h2⟩
    rw [rangeL_succ, foldR_append, e1, bind_ok, foldR_cons, e2]
    rfl
theorem compL_map {f : α → Res (Option β)} (g : α → β) : ∀ {xs : List α}, (∀ x ∈ xs, f x = .ok (some (g x))) → compL f xs = .ok (xs.map g)
  | [], _ => rfl
  | x :: xs, h => by
    show (f x).bind _ = _
    rw [h x List.mem_cons_self, bind_ok, compL_map g fun y hy => h y (List.mem_cons_of_mem _ hy)]
    rfl
theorem compR_map {f : α → Res (Option β)} (g : α → β) {xs : List α} (hl : xs.length ≤ sizeLine) (h : ∀ x ∈ xs, f x = .ok (some (g x))) : compR f xs = .ok (xs.map g) := by
  unfold compR; rw [if_pos hl, compL_map g h]; rfl
theorem compL_fm {f : α → Res (Option β)} (g : α → Option β) : ∀ {xs : List α}, (∀ x ∈ xs, f x = .ok (g x)) → compL f xs = .ok (xs.filterMap g)
  | [], _ => rfl
  | x :: xs, h => by
    show (f x).bind _ = _
    rw [h x List.mem_cons_self, bind_ok, compL_fm g fun y hy => h y (List.mem_cons_of_mem _ hy), List.filterMap_cons]
    cases g x <;> rfl
theorem compR_fm {f : α → Res (Option β)} (g : α → Option β) {xs : List α} (hl : xs.length ≤ sizeLine) (h : ∀ x ∈ xs, f x = .ok (g x)) : compR f xs = .ok (xs.filterMap g) := by
  unfold compR; rw [if_pos hl, compL_fm g h]; rfl
/-- with a test -/
theorem compR_filter {f : α → Res (Option α)} (p : α → Bool) {xs : List α} (hl : xs.length ≤ sizeLine) (h : ∀ x ∈ xs, f x = .ok (if p x then some x else none)) : compR f xs = .ok (xs.filter p) := by
  rw [compR_fm (fun x => if p x then some x else none) hl h]
  congr 1
  clear h hl
  induction xs with
  | nil => rfl
  | cons x xs ih => rw [List.filterMap_cons, List.filter_cons]; cases p x <;> simp [ih]
theorem compR_none {f : α → Res (Option β)} {xs : List α} (hl : xs.length ≤ sizeLine) (h : ∀ x ∈ xs, f x = .ok none) : compR f xs = .ok [] := by
  rw [compR_fm (fun _ => none) hl h]
  congr 1
  clear h hl
  induction xs with
  | nil => rfl
  | cons x xs ih => simp
theorem compR_nil {f : α → Res (Option β)} : compR f [] = .ok [] := by unfold compR; rw [if_pos (by simp)]; rfl
end
theorem sz : sizeLine = 16777216 := sizeLine_eq
theorem lg {i : Int} {n : Nat} (h : i.natAbs < 2 ^ n) (h0 : 0 < n) : i.natAbs.log2 < n := PySem.Flt.log2_lt_of h0 h
theorem pdiv_ok {i j : Int} (h : 0 < j) (hb : j.natAbs < 2 ^ 8000) : pdiv i j = .ok (i / j) := guard_ok ⟨h, Nat.lt_of_lt_of_le (lg hb (by decide)) (by decide)⟩
theorem pmod_ok {i j : Int} (h : 0 < j) : pmod i j = .ok (i % j) := guard_ok h
theorem pmul_ok {i j : Int} (hi : i.natAbs < 2 ^ 8000) (hj : j.natAbs < 2 ^ 8000) : pmul i j = .ok (i * j) := guard_ok (by have := lg hi (by decide); have := lg hj (by decide); omega)
/-- a number far below the greatest -/
def Sm (n : Nat) (i : Int) : Prop := i.natAbs < 2 ^ n
theorem Sm.up {n m : Nat} {i : Int} (h : Sm n i) (hm : n ≤ m) : Sm m i := Nat.lt_of_lt_of_le h (Nat.pow_le_pow_right (by decide) hm)
theorem Sm.sub {n : Nat} {i j : Int} (h : Sm n i) (g : Sm n j) : Sm (n + 1) (i - j) := by
  unfold Sm at *; rw [Nat.pow_succ]; omega
theorem Sm.of {n : Nat} {i : Int} (h0 : 0 ≤ i) {b : Int} (hb : i ≤ b) (hn : Sm n b) : Sm n i := by unfold Sm at *; omega
theorem pix_nat {α : Type} {xs : List α} {i : Nat} {x : α} (h : xs[i]? = some x) : pix xs (i : Int) = .ok x := by unfold pix; rw [atI_nat h]
theorem small62_of {i : Int} (h0 : 0 ≤ i) (h : i < 1000000000) : small62 i := by unfold small62; omega
/-! the numbers that a script's number draws -/
def Pur (p : List Int) : Prop := ∃ a b c : Int, p = [a, b, c]
/-! ### what is computed is so: m.Ok P -/
def Res.Ok {α : Type} : Res α → (α → Prop) → Prop
  | .ok a, P => P a
  | _, _ => False
section
variable {α β γ σ ρ : Type}
theorem ok_of {m : Res α} {a : α} {P : α → Prop} (e : m = .ok a) (h : P a) : m.Ok P := by rw [e]; exact h
theorem Res.Ok.get {m : Res α} {P : α → Prop} (h : m.Ok P) : ∃ a, m = .ok a ∧ P a := by
  cases m with
  | ok b => exact ⟨b, rfl, h⟩
  | err x => exact h.elim
  | bad => exact h.elim
  | all g => exact h.elim
theorem Res.Ok.imp {m : Res α} {P Q : α → Prop} (h : m.Ok P) (i : ∀ a, P a → Q a) : m.Ok Q := by
  obtain ⟨a, e, q⟩ := h.get; rw [e]; exact i a q
theorem bi {m : Res α} {k : α → Res β} {Q : α → Prop} {P : β → Prop} (h : m.Ok Q) (hk : ∀ a, Q a → (k a).Ok P) : (m.bind k).Ok P := by
  obtain ⟨a, e, q⟩ := h.get; rw [e]; exact hk a q
theorem be {m : Res α} {k : α → Res β} {a : α} {P : β → Prop} (e : m = .ok a) (hk : (k a).Ok P) : (m.bind k).Ok P := by rw [e]; exact hk
theorem cB {c : Bool} {a b : Res α} {P : α → Prop} (h1 : c = true → a.Ok P) (h2 : c = false → b.Ok P) : (cond c a b).Ok P := by
  cases c with
  | true => exact h1 rfl
  | false => exact h2 rfl
theorem bg {c : Prop} [Decidable c] {x : α} {k : α → Res β} {P : β → Prop} (hc : c) (h : (k x).Ok P) : ((guard c x).bind k).Ok P := be (guard_ok hc) h
end
theorem pix_of {α : Type} {xs : List α} {i n : Int} (h0 : 0 ≤ i) (h1 : i < n) {P : α → Prop} (hp : ∀ x ∈ xs, P x) (hn : n = (xs.length : Int) := by rfl) : (pix xs i).Ok P := by
  obtain ⟨k, rfl⟩ := Int.eq_ofNat_of_zero_le h0
  have hk : k < xs.length := by omega
  exact ok_of (pix_nat (List.getElem?_eq_getElem hk)) (hp _ (List.getElem_mem hk))
theorem purse_ok {ns : List Int} {at_ : Int} : ∃ p, m_law_purse ns at_ = .ok p ∧ Pur p := by
  unfold m_law_purse
  rw [pmod_ok (by decide +kernel), bind_ok, pmul, guard_ok, bind_ok]
  · exact ⟨_, rfl, _, _, _, rfl⟩
  · generalize (cutD ns (some at_) (some (at_ + 1))).sum = c
    have h1 : ((if decide ((10 : Int) ^ Int.toNat 18 ≤ c) = true then (1 : Int) else 0)).natAbs.log2 ≤ 0 := by split <;> decide
    have h2 := Int.emod_nonneg c (by decide +kernel : ((10 : Int) ^ Int.toNat 60) ^ Int.toNat 10 ≠ 0)
    have h3 := Int.emod_lt_of_pos c (by decide +kernel : (0 : Int) < ((10 : Int) ^ Int.toNat 60) ^ Int.toNat 10)
    have h4 : Sm 8000 (c % ((10 : Int) ^ Int.toNat 60) ^ Int.toNat 10) := Sm.of h2 (Int.le_of_lt h3) (by unfold Sm; decide +kernel)
    have := lg h4 (by decide)
    omega
theorem pset0 {a b c x : Int} : pset [a, b, c] (0 : Int) x = .ok [x, b, c] := rfl
theorem pset2 {a b c x : Int} : pset [a, b, c] (2 : Int) x = .ok [a, b, x] := rfl
theorem pix0 {a b c : Int} : pix [a, b, c] (0 : Int) = .ok a := rfl
theorem pix1 {a b c : Int} : pix [a, b, c] (1 : Int) = .ok b := rfl
theorem pix2 {a b c : Int} : pix [a, b, c] (2 : Int) = .ok c := rfl
theorem draw_ok {p : List Int} {many : Int} (hp : Pur p) (h0 : 0 < many) (hm : Sm 8000 many) : ∃ d p', m_law_draw p many = .ok (d, p') ∧ 0 ≤ d ∧ d < many ∧ Pur p' := by
  obtain ⟨a, b, c, rfl⟩ := hp
  have ne : many ≠ 0 := by omega
  unfold m_law_draw
  rw [pix0, bind_ok]
  cases e : decide ((0 : Int) < a) with
  | true =>
    simp only [cond_true, pix0, bind_ok, pmod_ok h0, pdiv_ok h0 hm, pset0]
    exact ⟨_, _, rfl, Int.emod_nonneg _ ne, Int.emod_lt_of_pos _ h0, _, _, _, rfl⟩
  | false =>
    have sq : ∀ x m : Int, 0 < m → m < 2 ^ 62 → pmul (x % m) (x % m) = .ok (x % m * (x % m)) := fun x m h1 h2 => by
      have g1 := Int.emod_nonneg x (by omega : m ≠ 0)
      have g2 := Int.emod_lt_of_pos x h1
      have : Sm 8000 (x % m) := (Sm.of (n := 62) g1 (b := 2 ^ 62 - 1) (by omega) (by unfold Sm; decide)).up (by decide)
      exact pmul_ok this this
    simp only [cond_false, pix2, pix1, bind_ok, pset2]
    rw [sq _ _ (by decide) (by decide), bind_ok, sq _ _ (by decide) (by decide), bind_ok, pmod_ok h0, bind_ok]
    exact ⟨_, _, rfl, Int.emod_nonneg _ ne, Int.emod_lt_of_pos _ h0, _, _, _, rfl⟩
theorem purse_o {ns : List Int} {at_ : Int} : (m_law_purse ns at_).Ok Pur := by
  obtain ⟨p, e, h⟩ := purse_ok (ns := ns) (at_ := at_); exact ok_of e h
theorem draw_o {p : List Int} {many : Int} (hp : Pur p) (h0 : 0 < many) (hm : Sm 8000 many) : (m_law_draw p many).Ok fun r => 0 ≤ r.1 ∧ r.1 < many ∧ Pur r.2 := by
  obtain ⟨d, p', e, h1, h2, h3⟩ := draw_ok hp h0 hm
  exact ok_of e ⟨h1, h2, h3⟩
/-- many written or bounded -/
theorem draw_s {p : List Int} {many : Int} (hp : Pur p) (h0 : 0 < many) (hm : many ≤ 10 ^ 60) : (m_law_draw p many).Ok fun r => 0 ≤ r.1 ∧ r.1 < many ∧ Pur r.2 :=
  draw_o hp h0 (Sm.of (by omega) hm (by unfold Sm; decide +kernel))
/-! ### texts as lists of signs -/
abbrev mk (l : List Nat) : Str := ⟨l.toArray⟩
theorem signs_mk {l : List Nat} : signsL (mk l) = l := rfl
theorem s_ext {x y : Str} (h : signsL x = signsL y) : x = y := TL.ext_tl h
theorem s_len (z : Str) : z.length = (signsL z).length := TL.len_tl z
theorem mk_len {l : List Nat} : (mk l).length = l.length := s_len _
theorem pcat_mk {a b : Str} (h : a.length + b.length ≤ 1000000) : pcat a b = .ok (mk (signsL a ++ signsL b)) := by
  unfold pcat
  rw [guard_ok (by rw [sz]; omega)]
  congr 1
  exact s_ext (TL.tl_append a b)
/-! ### what steps do to rows of signs -/
def okC (c : Nat) : Bool := c == 46 || c == 48 || (decide (97 ≤ c) && decide (c ≤ 122))
theorem cells_list : pcat (".0" : Str) ("abcdefghijklmnopqrstuvwxyz" : Str) = .ok (mk [46, 48, 97, 98, 99, 100, 101, 102, 103, 104, 105, 106, 107, 108, 109, 110, 111, 112, 113, 114, 115, 116, 117, 118, 119, 120, 121, 122]) := by
  rw [pcat_mk (by decide)]; rfl
theorem okC_in {c : Nat} : decide (c ∈ [46, 48, 97, 98, 99, 100, 101, 102, 103, 104, 105, 106, 107, 108, 109, 110, 111, 112, 113, 114, 115, 116, 117, 118, 119, 120, 121, 122]) = okC c := by
  rw [Bool.eq_iff_iff]
  simp only [okC, decide_eq_true_eq, List.mem_cons, List.not_mem_nil, or_false, Bool.or_eq_true, Bool.and_eq_true, beq_iff_eq]
  omega
theorem isE_filter {α : Type} {p : α → Bool} : ∀ {l : List α}, (l.filter p).isEmpty = l.all fun x => !p x
  | [] => rfl
  | x :: l => by
    rw [List.filter_cons, List.all_cons]
    cases h : p x
    · simp [isE_filter]
    · simp
theorem are_cells_val {z : Str} (hl : z.length ≤ 1000000) : m_are_cells z = .ok ((signsL z).all okC) := by
  unfold m_are_cells
  rw [compR_filter (fun c => !okC c) (by rw [← s_len, sz]; omega) (fun c _ => by rw [cells_list, bind_ok, signs_mk, okC_in]; cases okC c <;> rfl)]
  rw [bind_ok, andR_ok, cond_true, isE_filter]
  simp
abbrev CellS (l : List Nat) : Prop := l.all okC = true
theorem file_ok {l : List Nat} (hl : l.length ≤ 1000000) (h : CellS l) : m_File_make (mk l) = .ok (mk l) := by
  unfold m_File_make
  rw [are_cells_val (by rw [mk_len]; exact hl), signs_mk, h]; rfl
/-! ### what the laws draw: rows of cells, steps -/
section
variable {α β γ σ ρ : Type}
theorem foldIO {f : σ → Int → Res σ} {k : σ → Res β} {lo : Int} {n : Nat} {s : σ} {P : β → Prop} (I : Nat → σ → Prop) (h0 : I 0 s) (step : ∀ (i : Nat) s, i < n → I i s → (f s (lo + (i : Int))).Ok (I (i + 1))) (fin : ∀ s, I n s → (k s).Ok P) : ((foldR f (rangeL lo n) s).bind k).Ok P := by
  obtain ⟨s', e, h⟩ := foldR_rangeI I h0 (n := n) fun i s hi hs => (step i s hi hs).get
  rw [e]; exact fin s' h
theorem foldR_pre {f : σ → α → Res σ} (I : List α → σ → Prop) : ∀ {xs : List α} {pre : List α} {s : σ}, I pre s → (∀ p x q s, pre ++ xs = p ++ x :: q → I p s → ∃ s', f s x = .ok s' ∧ I (p ++ [x]) s') → ∃ s', foldR f xs s = .ok s' ∧ I (pre ++ xs) s'
  | [], pre, s, h, _ => ⟨s, rfl, by rw [List.append_nil]; exact h⟩
  | x :: xs, pre, s, h, hf => by
    obtain ⟨s1, e1, h1⟩ := hf pre x xs s rfl h
    obtain ⟨s2, e2, h2⟩ := foldR_pre I (xs := xs) h1 fun p y q s e hs => hf p y q s (by rw [← e]; simp) hs
    exact ⟨s2, by rw [foldR_cons, e1]; exact e2, by simpa using h2⟩
theorem foldPO {f : σ → α → Res σ} {k : σ → Res β} {xs : List α} {s : σ} {P : β → Prop} (I : List α → σ → Prop) (h0 : I [] s) (step : ∀ p x q s, xs = p ++ x :: q → I p s → (f s x).Ok (I (p ++ [x]))) (fin : ∀ s, I xs s → (k s).Ok P) : ((foldR f xs s).bind k).Ok P := by
  obtain ⟨s', e, h⟩ := foldR_pre I h0 (xs := xs) fun p x q s e hs => (step p x q s e hs).get
  rw [e]; exact fin s' (by simpa using h)
end
/-! rows of signs put together -/
/-! ### over Res with addresses given out: what a term must answer -/
section
variable {α β σ ρ : Type} {E E' : Er → Prop}
theorem bo {k : α → Res β} {P : α → Prop} {Q : β → Prop} (hk : ∀ a, P a → (k a).Out Q E) (hx : ∀ x, E' x → E x) : ∀ {m : Res α}, m.Out P E' → (m.bind k).Out Q E
  | .ok _, h => hk _ h
  | .err _, h => hx _ h
  | .bad, h => h
  | .all f, h => fun q => bo (m := f q) hk hx (h q)
/-- a loop that is not left early -/
theorem foA {f : σ → α → Res (Ctl σ ρ)} (I : σ → Prop) : ∀ {xs : List α} {s : σ}, I s → (∀ s x, I s → x ∈ xs → (f s x).Out (fun c => ∃ s', c = .nx s' ∧ I s') E) → (forR f xs s).Out (fun c => ∃ s', c = .nx s' ∧ I s') E
  | [], s, h, _ => ⟨s, rfl, h⟩
  | x :: xs, s, h, hf => by
    rw [forR_cons]
    refine bo (fun c hc => ?_) (fun _ h => h) (hf s x h List.mem_cons_self)
    obtain ⟨s', rfl, h'⟩ := hc
    exact foA I h' fun s y hs hy => hf s y hs (List.mem_cons_of_mem _ hy)
end
/-! ### values of any kind equal to themselves by shape or place -/
mutual
def selfA : Any → Bool
  | .lst xs => selfAL xs
  | .tup xs => selfAL xs
  | .dic => false
  | .obj _ _ => false
  | _ => true
def selfAL : List Any → Bool
  | [] => true
  | x :: xs => selfA x && selfAL xs
end
mutual
theorem eqA_self : ∀ {x : Any}, selfA x = true → eqA x x = true
  | .non, _ => by simp [eqA]
  | .bl _, _ => by simp [eqA]
  | .int _, _ => by simp [eqA]
  | .str _, _ => by simp [eqA]
  | .tag _ _, _ => by simp [eqA]
  | .cel _, _ => by simp [eqA]
  | .lst xs, h => by simp only [eqA]; exact eqAL_self (by simpa [selfA] using h)
  | .tup xs, h => by simp only [eqA]; exact eqAL_self (by simpa [selfA] using h)
  | .dic, h => by simp [selfA] at h
  | .obj _ _, h => by simp [selfA] at h
theorem eqAL_self : ∀ {xs : List Any}, selfAL xs = true → eqAL xs xs = true
  | [], _ => by simp [eqAL]
  | x :: xs, h => by
    simp only [selfAL, Bool.and_eq_true] at h
    simp only [eqAL, Bool.and_eq_true]
    exact ⟨eqA_self h.1, eqAL_self h.2⟩
end
/-! ### Out by what is told -/
section
variable {α β σ ρ : Type} {E E' : Er → Prop}
theorem bO {m : Res α} {k : α → Res β} {P : α → Prop} {Q : β → Prop} (h : m.Ok P) (hk : ∀ a, P a → (k a).Out Q E) : (m.bind k).Out Q E := by
  obtain ⟨a, e, q⟩ := h.get; rw [e]; exact hk a q
theorem bE {m : Res α} {k : α → Res β} {a : α} {Q : β → Prop} (e : m = .ok a) (hk : (k a).Out Q E) : (m.bind k).Out Q E := by rw [e]; exact hk
theorem oT {c : Bool} {a b : Res α} {P : α → Prop} (e : c = true) (h : a.Out P E) : (cond c a b).Out P E := by rw [e]; exact h
/-- a loop that is not left early, and what comes behind it -/
theorem foF {f : σ → α → Res (Ctl σ ρ)} {k : σ → Res β} {r : ρ → Res β} {xs : List α} {s : σ} {P : β → Prop} (I : σ → Prop) (h0 : I s) (step : ∀ s x, I s → x ∈ xs → (f s x).Out (fun c => ∃ s', c = .nx s' ∧ I s') E) (fin : ∀ s, I s → (k s).Out P E) : ((forR f xs s).bind (Ctl.fin k r)).Out P E := by
  refine bo (P := fun c => ∃ s', c = .nx s' ∧ I s') (fun c hc => ?_) (fun _ h => h) (foA I h0 step)
  obtain ⟨s', rfl, h⟩ := hc
  exact fin s' h
theorem nxA {s : σ} {I : σ → Prop} (h : I s) : (Res.ok (Ctl.nx s : Ctl σ ρ)).Out (fun c => ∃ s', c = .nx s' ∧ I s') E := ⟨s, rfl, h⟩
end
/-- values that a list compares as it finds them -/
def SV (v : Any) : Prop := selfA v = true ∧ dpA v ≤ 59
theorem eq_self {v : Any} (h : SV v) : peqA [v] [v] = .ok true :=
  guard_ok ⟨eqAL_self (by simp [selfAL, h.1]), by have := h.2; simp [dpAL]; omega⟩
theorem eq_self2 {s : Str} {v : Any} (h : SV v) : peqA [.str s, v] [.str s, v] = .ok true :=
  guard_ok ⟨eqAL_self (by simp [selfAL, selfA, h.1]), by have := h.2; simp [dpAL, dpA]; omega⟩
theorem ne_self2 {s : Str} {v : Any} (h : SV v) : ((peqA [.str s, v] [.str s, v]).bind fun b => Res.ok !b) = .ok false := by rw [eq_self2 h]; rfl
theorem sv_non : SV .non := ⟨by simp [selfA], by simp [dpA]⟩
theorem sv_int {i : Int} : SV (.int i) := ⟨by simp [selfA], by simp [dpA]⟩
theorem sv_bl {b : Bool} : SV (.bl b) := ⟨by simp [selfA], by simp [dpA]⟩
theorem sv_str {s : Str} : SV (.str s) := ⟨by simp [selfA], by simp [dpA]⟩
theorem sv_tag {q : Addr} {x : Any} : SV (.tag q x) := ⟨by simp [selfA], by simp [dpA]⟩
theorem law_steps_o {p sizes : List Int} {most : Int} (hp : Pur p) (h0 : 0 ≤ most) (hm : most ≤ 1000) (hs : 0 < sizes.length) (hs2 : sizes.length ≤ 1000) :
    (m_law_steps p sizes most).Ok fun r => (r.1.length : Int) ≤ most ∧ (∀ x ∈ r.1, x.2 ∈ sizes) ∧ Pur r.2 := by
  unfold m_law_steps
  refine bi (draw_s hp (by omega) (by omega)) fun z2 ⟨b1, b2, hp⟩ => ?_
  refine bg (small62_of b1 (by omega)) ?_
  refine foldIO (fun i s => s.1.length ≤ i ∧ (∀ x ∈ s.1, x.2 ∈ sizes) ∧ Pur s.2) ⟨by simp, (fun x hx => by simp at hx), hp⟩ ?_ ?_
  · rintro i s hi ⟨hl, hx, hp⟩
    refine bi (draw_s hp (by decide) (by decide +kernel)) fun z7 ⟨a1, a2, hp⟩ => ?_
    refine bi (pix_of a1 a2 (P := fun _ => True) (fun _ _ => trivial)) fun z8 _ => ?_
    refine bi (draw_s hp (by omega) (by omega)) fun z10 ⟨c1, c2, hp⟩ => ?_
    refine bi (pix_of c1 c2 (P := fun x => x ∈ sizes) (fun _ h => h)) fun z11 hz => ?_
    have e : papp s.1 (z8, z11) = .ok (s.1 ++ [(z8, z11)]) := guard_ok (by rw [sz]; omega)
    refine be e ?_
    refine ⟨by simp; omega, ?_, hp⟩
    intro x hxx
    rcases List.mem_append.mp hxx with h | h
    · exact hx x h
    · rw [List.mem_singleton.mp h]; exact hz
  · rintro s ⟨hl, hx, hp⟩
    exact ⟨by show (s.1.length : Int) ≤ most; omega, hx, hp⟩
def stepOf (x : Str × Int) : StepT := if x.1 = ("full" : Str) then .full else if x.1 = ("keep" : Str) then .keep x.2 else if x.1 = ("lean" : Str) then .lean x.2 else .dig x.2
theorem is_whole_val {n : Int} : m_is_whole n = .ok true := rfl
theorem least_val {n l : Int} (h : l ≤ n) : m_check_least n l = .ok () := by
  unfold m_check_least
  rw [is_whole_val, bind_ok, cond_true, decide_eq_false (by omega)]; rfl
theorem law_step_val {x : Str × Int} (h : 1 ≤ x.2) : m_law_step x = .ok (stepOf x) := by
  unfold m_law_step stepOf m_Keep_make m_Lean_make m_Dig_make
  rw [least_val h]
  by_cases h1 : x.1 = ("full" : Str)
  · rw [if_pos h1, decide_eq_true h1]; rfl
  · rw [if_neg h1, decide_eq_false h1, cond_false]
    by_cases h2 : x.1 = ("keep" : Str)
    · rw [if_pos h2, decide_eq_true h2]; rfl
    · rw [if_neg h2, decide_eq_false h2, cond_false]
      by_cases h3 : x.1 = ("lean" : Str)
      · rw [if_pos h3, decide_eq_true h3]; rfl
      · rw [if_neg h3, decide_eq_false h3]; rfl
theorem script_val {xs : List StepT} (h : xs.length ≤ 1000000) : m_Script_make (some xs) = .ok xs := by
  show (m_are_steps xs).bind _ = _
  unfold m_are_steps
  rw [compR_none (by rw [sz]; omega) (fun _ _ => rfl)]
  show guard (true = true) xs = .ok xs
  exact guard_ok rfl
theorem law_script_val {xs : List (Str × Int)} (hl : xs.length ≤ 1000) (h : ∀ x ∈ xs, 1 ≤ x.2) : m_law_script xs = .ok (xs.map stepOf) := by
  unfold m_law_script
  rw [compR_map stepOf (by rw [sz]; omega) (fun x hx => by rw [law_step_val (h x hx)]; rfl), bind_ok, script_val (by rw [List.length_map]; omega)]; rfl
/-! ### periods -/
/-- the size divides D -/
def Dv (D : Nat) : StepT → Prop
  | .full => True
  | .keep n => ∃ m : Nat, n = m ∧ 1 ≤ m ∧ m ∣ D
  | .lean n => ∃ m : Nat, n = m ∧ 1 ≤ m ∧ m ∣ D
  | .dig n => ∃ m : Nat, n = m ∧ 1 ≤ m ∧ m ∣ D
def szOf : StepT → Option Int
  | .full => none
  | .keep n => some n
  | .lean n => some n
  | .dig n => some n
theorem lcm_is {p m : Nat} (hp : 1 ≤ p) : p / Nat.gcd p m * m = Nat.lcm p m := by
  have hg : 0 < Nat.gcd p m := Nat.gcd_pos_of_pos_left _ (by omega)
  have h1 : Nat.gcd p m * Nat.lcm p m = p * m := Nat.gcd_mul_lcm p m
  have h2 : Nat.gcd p m * (p / Nat.gcd p m) = p := Nat.mul_div_cancel' (Nat.gcd_dvd_left p m)
  refine Nat.eq_of_mul_eq_mul_left hg ?_
  rw [h1, ← Nat.mul_assoc, h2]
theorem sm1000 {i : Int} (h0 : 0 ≤ i) (h : i ≤ 1000) : Sm 8000 i := Sm.of h0 h (by unfold Sm; decide +kernel)
theorem multiple_o {D : Nat} (hD : D ≤ 1000 ∧ 1 ≤ D) {ns : List Int} (hs : ∀ x ∈ ns, ∃ m : Nat, x = m ∧ 1 ≤ m ∧ m ∣ D) : (m_multiple_of ns).Ok fun r => ∃ p : Nat, r = p ∧ 1 ≤ p ∧ p ∣ D ∧ ∀ x ∈ ns, ∃ m : Nat, x = m ∧ 1 ≤ m ∧ m ∣ p := by
  unfold m_multiple_of
  refine foldPO (fun pre (s : Int) => ∃ p : Nat, s = p ∧ 1 ≤ p ∧ p ∣ D ∧ ∀ x ∈ pre, ∃ m : Nat, x = m ∧ 1 ≤ m ∧ m ∣ p) ⟨1, rfl, Nat.le_refl _, Nat.one_dvd _, fun x hx => by simp at hx⟩ ?_ fun s h => h
  rintro pre x q s he ⟨p, rfl, p1, p2, p3⟩
  obtain ⟨m, rfl, m1, m2⟩ := hs x (by rw [he]; simp)
  have pD := Nat.le_of_dvd (by omega) p2
  have mD := Nat.le_of_dvd (by omega) m2
  have hg : 0 < Nat.gcd p m := Nat.gcd_pos_of_pos_left _ (by omega)
  have hgl : Nat.gcd p m ≤ p := Nat.gcd_le_left _ (by omega)
  refine be (a := ((Nat.gcd p m : Nat) : Int)) (guard_ok ⟨by omega, by omega⟩) ?_
  refine be (pdiv_ok (by omega) (sm1000 (by omega) (by omega))) ?_
  have hq : p / Nat.gcd p m ≤ p := Nat.div_le_self _ _
  have e : ((p : Int) / ((Nat.gcd p m : Nat) : Int)) = ((p / Nat.gcd p m : Nat) : Int) := by rw [Int.natCast_ediv]
  rw [e]
  refine be (pmul_ok (sm1000 (Int.natCast_nonneg _) (Int.ofNat_le.mpr (Nat.le_trans hq (Nat.le_trans pD hD.1)))) (sm1000 (by omega) (by omega))) ?_
  have l1 : 1 ≤ Nat.lcm p m := Nat.lcm_pos (by omega) (by omega)
  refine ⟨Nat.lcm p m, by rw [← lcm_is p1, Int.natCast_mul], l1, Nat.lcm_dvd p2 m2, fun y hy => ?_⟩
  rcases List.mem_append.mp hy with h | h
  · obtain ⟨k, k1, k2, k3⟩ := p3 y h
    exact ⟨k, k1, k2, Nat.dvd_trans k3 (Nat.dvd_lcm_left p m)⟩
  · rw [List.mem_singleton.mp h]
    exact ⟨m, rfl, m1, Nat.dvd_lcm_right p m⟩
theorem period_o {D : Nat} (hD : D ≤ 1000 ∧ 1 ≤ D) {xs : List StepT} (hl : xs.length ≤ 1000) (hs : ∀ s ∈ xs, Dv D s) : ∃ p : Nat, m_Script_period xs = .ok (p : Int) ∧ 1 ≤ p ∧ p ∣ D ∧ ∀ s ∈ xs, Dv p s := by
  have hc : compR (β := Int) (fun x1 => cond (is_Full x1) (Res.ok none) ((m_Step_size x1).ne.bind fun z2 => Res.ok (some z2))) xs = .ok (xs.filterMap szOf) := compR_fm szOf (by rw [sz]; omega) (fun x _ => by cases x <;> rfl)
  have hm : ∀ x ∈ xs.filterMap szOf, ∃ m : Nat, x = m ∧ 1 ≤ m ∧ m ∣ D := fun x hx => by
    obtain ⟨s, h1, h2⟩ := List.mem_filterMap.mp hx
    have := hs s h1
    cases s with
    | full => cases h2
    | keep n => cases h2; exact this
    | lean n => cases h2; exact this
    | dig n => cases h2; exact this
  obtain ⟨r, e, p, rfl, p1, p2, p3⟩ := (multiple_o hD hm).get
  refine ⟨p, ?_, p1, p2, fun s h => ?_⟩
  · unfold m_Script_period
    rw [hc, bind_ok, e]; rfl
  · cases s with
    | full => trivial
    | keep n => exact p3 n (List.mem_filterMap.mpr ⟨_, h, rfl⟩)
    | lean n => exact p3 n (List.mem_filterMap.mpr ⟨_, h, rfl⟩)
    | dig n => exact p3 n (List.mem_filterMap.mpr ⟨_, h, rfl⟩)
/-! ### the tables behind scripts, all of them -/
abbrev Row := Int × Int
abbrev Tab := List (List Row)
def isIn (ts : List Tab) : Res Tab → Bool
  | .ok t => ts.elem t
  | _ => false
def clB (ts : List Tab) (ss : List StepT) : Bool := ts.all fun t => ss.all fun s => isIn ts (m_behind_step s t)
def rows0 (n : Nat) : Res Tab := compR (β := (List (Int × Int))) (fun x2 => (pshl (1 : Int) x2).bind fun z3 => Res.ok (some ([(z3, (0 : Int))] : List (Int × Int)))) (rangeL 0 n)
def inB (ts : List Tab) (n : Nat) : Bool := isIn ts (rows0 n)
def moved (z1 : Tab) (a_length : Int) : Res Tab := (guard (rng3ok (0 : Int) a_length (z1.length : Int)) ()).bind fun _ => (foldR (fun (s2 : (List (List (Int × Int)))) x3 => (compR (β := (List (Int × Int))) (fun x6 => (compR (β := (Int × Int)) (fun x7 => (pshl x7.1 x3).bind fun z8 => (pshl x7.2 x3).bind fun z9 => Res.ok (some (z8, z9))) x6).bind fun l10 => Res.ok (some l10)) z1).bind fun l11 => (pcatL s2 l11).bind fun z12 => Res.ok z12) (rangeC (0 : Int) (z1.length : Int) (Int.toNat ((a_length - (0 : Int) + (z1.length : Int) - 1) / (z1.length : Int)))) ([] : List (List (Int × Int)))).bind fun s2 => Res.ok s2
def goodB (n : Nat) (t : Tab) : Bool := decide (t.length = n) && t.all fun rows => rows.all fun r => decide (0 ≤ r.1) && decide (0 ≤ r.2)
def moB (ts : List Tab) (n : Nat) : Bool := ts.all fun t => match moved t n with
  | .ok m => goodB n m
  | _ => false
def tabA1 : List Tab := [[[(1, 0)]], [[(0, 0)]], [[(1, 1)]]]
def stpA1 : List StepT := [.full, .keep 1, .dig 1, .lean 1]
theorem cloA1 : clB tabA1 stpA1 = true := by decide +kernel
theorem iniA1 : inB tabA1 1 = true := by decide +kernel
theorem movA1_1 : moB tabA1 1 = true := by decide +kernel
theorem movA1_2 : moB tabA1 2 = true := by decide +kernel
theorem movA1_3 : moB tabA1 3 = true := by decide +kernel
theorem movA1_6 : moB tabA1 6 = true := by decide +kernel
def tabA2 : List Tab := [[[(1, 0)], [(2, 0)]], [[(0, 0)], [(0, 0)]], [[(1, 0), (2, 0)], [(1, 0), (2, 0)]], [[(1, 1)], [(2, 2)]], [[(1, 1), (3, 2)], [(2, 2), (3, 1)]], [[(1, 1), (2, 2)], [(1, 1), (2, 2)]]]
def stpA2 : List StepT := [.full, .keep 1, .keep 2, .dig 1, .dig 2, .lean 1, .lean 2]
theorem cloA2 : clB tabA2 stpA2 = true := by decide +kernel
theorem iniA2 : inB tabA2 2 = true := by decide +kernel
theorem movA2_2 : moB tabA2 2 = true := by decide +kernel
theorem movA2_6 : moB tabA2 6 = true := by decide +kernel
def tabA3 : List Tab := [[[(1, 0)], [(2, 0)], [(4, 0)]], [[(0, 0)], [(0, 0)], [(0, 0)]], [[(1, 0), (2, 0), (4, 0)], [(1, 0), (2, 0), (4, 0)], [(1, 0), (2, 0), (4, 0)]], [[(1, 1)], [(2, 2)], [(4, 4)]], [[(1, 1), (3, 2), (5, 4)], [(2, 2), (3, 1), (6, 4)], [(4, 4), (5, 1), (6, 2)]], [[(1, 1), (2, 2), (4, 4)], [(1, 1), (2, 2), (4, 4)], [(1, 1), (2, 2), (4, 4)]]]
def stpA3 : List StepT := [.full, .keep 1, .keep 3, .dig 1, .dig 3, .lean 1, .lean 3]
theorem cloA3 : clB tabA3 stpA3 = true := by decide +kernel
theorem iniA3 : inB tabA3 3 = true := by decide +kernel
theorem movA3_3 : moB tabA3 3 = true := by decide +kernel
theorem movA3_6 : moB tabA3 6 = true := by decide +kernel
def tabA6 : List Tab := [[[(1, 0)], [(2, 0)], [(4, 0)], [(8, 0)], [(16, 0)], [(32, 0)]], [[(0, 0)], [(0, 0)], [(0, 0)], [(0, 0)], [(0, 0)], [(0, 0)]], [[(1, 0), (2, 0)], [(1, 0), (2, 0)], [(4, 0), (8, 0)], [(4, 0), (8, 0)], [(16, 0), (32, 0)], [(16, 0), (32, 0)]], [[(1, 0), (2, 0), (4, 0)], [(1, 0), (2, 0), (4, 0)], [(1, 0), (2, 0), (4, 0)], [(8, 0), (16, 0), (32, 0)], [(8, 0), (16, 0), (32, 0)], [(8, 0), (16, 0), (32, 0)]], [[(1, 1)], [(2, 2)], [(4, 4)], [(8, 8)], [(16, 16)], [(32, 32)]], [[(1, 1), (3, 2)], [(2, 2), (3, 1)], [(4, 4), (12, 8)], [(8, 8), (12, 4)], [(16, 16), (48, 32)], [(32, 32), (48, 16)]], [[(1, 1), (3, 2), (5, 4)], [(2, 2), (3, 1), (6, 4)], [(4, 4), (5, 1), (6, 2)], [(8, 8), (24, 16), (40, 32)], [(16, 16), (24, 8), (48, 32)], [(32, 32), (40, 8), (48, 16)]], [[(1, 1), (2, 2)], [(1, 1), (2, 2)], [(4, 4), (8, 8)], [(4, 4), (8, 8)], [(16, 16), (32, 32)], [(16, 16), (32, 32)]], [[(1, 1), (2, 2), (4, 4)], [(1, 1), (2, 2), (4, 4)], [(1, 1), (2, 2), (4, 4)], [(8, 8), (16, 16), (32, 32)], [(8, 8), (16, 16), (32, 32)], [(8, 8), (16, 16), (32, 32)]], [[(1, 0), (2, 0), (4, 0), (8, 0)], [(1, 0), (2, 0), (4, 0), (8, 0)], [(1, 0), (2, 0), (4, 0), (8, 0)], [(4, 0), (8, 0), (16, 0), (32, 0)], [(4, 0), (8, 0), (16, 0), (32, 0)], [(4, 0), (8, 0), (16, 0), (32, 0)]], [[(1, 1), (2, 2), (5, 4), (6, 4)], [(1, 1), (2, 2), (5, 4), (6, 4)], [(4, 4), (5, 1), (6, 2), (9, 1), (10, 2)], [(8, 8), (20, 16), (24, 16), (36, 32), (40, 32)], [(16, 16), (24, 8), (32, 32), (40, 8)], [(16, 16), (24, 8), (32, 32), (40, 8)]], [[(1, 0), (2, 0), (4, 0)], [(1, 0), (2, 0), (4, 0)], [(1, 0), (2, 0), (4, 0), (8, 0), (16, 0), (32, 0)], [(1, 0), (2, 0), (4, 0), (8, 0), (16, 0), (32, 0)], [(8, 0), (16, 0), (32, 0)], [(8, 0), (16, 0), (32, 0)]], [[(1, 1), (2, 2)], [(1, 1), (2, 2)], [(4, 4), (9, 8), (10, 8), (12, 8)], [(8, 8), (12, 4), (20, 4), (36, 4)], [(16, 16), (32, 32)], [(16, 16), (32, 32)]], [[(1, 1), (2, 2), (4, 4), (12, 8)], [(1, 1), (2, 2), (4, 4), (12, 8)], [(1, 1), (2, 2), (4, 4), (12, 8)], [(8, 8), (12, 4), (16, 16), (32, 32)], [(8, 8), (12, 4), (16, 16), (32, 32)], [(8, 8), (12, 4), (16, 16), (32, 32)]], [[(1, 1), (3, 2)], [(2, 2), (3, 1)], [(4, 4), (13, 9), (14, 10)], [(8, 8), (28, 20), (44, 36)], [(16, 16), (48, 32)], [(32, 32), (48, 16)]], [[(1, 1), (2, 2), (5, 4), (6, 4)], [(1, 1), (2, 2), (5, 4), (6, 4)], [(4, 4), (5, 1), (6, 2), (8, 8), (24, 16), (40, 32)], [(4, 4), (5, 1), (6, 2), (8, 8), (24, 16), (40, 32)], [(16, 16), (24, 8), (32, 32), (40, 8)], [(16, 16), (24, 8), (32, 32), (40, 8)]], [[(1, 1), (2, 2), (4, 4), (8, 8)], [(1, 1), (2, 2), (4, 4), (8, 8)], [(1, 1), (2, 2), (4, 4), (8, 8)], [(4, 4), (8, 8), (16, 16), (32, 32)], [(4, 4), (8, 8), (16, 16), (32, 32)], [(4, 4), (8, 8), (16, 16), (32, 32)]], [[(1, 1), (2, 2)], [(1, 1), (2, 2)], [(4, 4), (9, 9), (10, 10)], [(8, 8), (20, 20), (36, 36)], [(16, 16), (32, 32)], [(16, 16), (32, 32)]], [[(1, 1), (2, 2), (4, 4)], [(1, 1), (2, 2), (4, 4)], [(1, 1), (2, 2), (4, 4), (8, 8), (16, 16), (32, 32)], [(1, 1), (2, 2), (4, 4), (8, 8), (16, 16), (32, 32)], [(8, 8), (16, 16), (32, 32)], [(8, 8), (16, 16), (32, 32)]], [[(1, 0), (2, 0), (4, 0), (8, 0)], [(1, 0), (2, 0), (4, 0), (8, 0)], [(1, 0), (2, 0), (4, 0), (8, 0), (16, 0), (32, 0)], [(1, 0), (2, 0), (4, 0), (8, 0), (16, 0), (32, 0)], [(4, 0), (8, 0), (16, 0), (32, 0)], [(4, 0), (8, 0), (16, 0), (32, 0)]], [[(1, 1), (2, 2), (5, 4), (6, 4)], [(1, 1), (2, 2), (5, 4), (6, 4)], [(4, 4), (5, 1), (6, 2), (8, 8), (9, 1), (10, 2), (20, 16), (24, 16), (36, 32), (40, 32)], [(4, 4), (5, 1), (6, 2), (8, 8), (9, 1), (10, 2), (20, 16), (24, 16), (36, 32), (40, 32)], [(16, 16), (24, 8), (32, 32), (40, 8)], [(16, 16), (24, 8), (32, 32), (40, 8)]], [[(1, 0), (2, 0), (4, 0), (8, 0), (16, 0), (32, 0)], [(1, 0), (2, 0), (4, 0), (8, 0), (16, 0), (32, 0)], [(1, 0), (2, 0), (4, 0), (8, 0), (16, 0), (32, 0)], [(1, 0), (2, 0), (4, 0), (8, 0), (16, 0), (32, 0)], [(1, 0), (2, 0), (4, 0), (8, 0), (16, 0), (32, 0)], [(1, 0), (2, 0), (4, 0), (8, 0), (16, 0), (32, 0)]], [[(1, 1), (2, 2), (4, 4), (9, 8), (10, 8), (12, 8)], [(1, 1), (2, 2), (4, 4), (9, 8), (10, 8), (12, 8)], [(1, 1), (2, 2), (4, 4), (9, 8), (10, 8), (12, 8)], [(8, 8), (12, 4), (16, 16), (20, 4), (32, 32), (36, 4)], [(8, 8), (12, 4), (16, 16), (20, 4), (32, 32), (36, 4)], [(8, 8), (12, 4), (16, 16), (20, 4), (32, 32), (36, 4)]], [[(1, 1), (2, 2), (4, 4), (12, 8)], [(1, 1), (2, 2), (4, 4), (12, 8)], [(1, 1), (2, 2), (4, 4), (8, 8), (16, 16), (32, 32)], [(1, 1), (2, 2), (4, 4), (8, 8), (16, 16), (32, 32)], [(8, 8), (12, 4), (16, 16), (32, 32)], [(8, 8), (12, 4), (16, 16), (32, 32)]], [[(1, 1), (2, 2)], [(1, 1), (2, 2)], [(4, 4), (9, 9), (10, 10), (12, 8)], [(8, 8), (12, 4), (20, 20), (36, 36)], [(16, 16), (32, 32)], [(16, 16), (32, 32)]], [[(1, 1), (2, 2), (4, 4), (8, 8), (24, 16), (40, 32)], [(1, 1), (2, 2), (4, 4), (8, 8), (24, 16), (40, 32)], [(1, 1), (2, 2), (4, 4), (8, 8), (24, 16), (40, 32)], [(4, 4), (5, 1), (6, 2), (8, 8), (16, 16), (32, 32)], [(4, 4), (5, 1), (6, 2), (8, 8), (16, 16), (32, 32)], [(4, 4), (5, 1), (6, 2), (8, 8), (16, 16), (32, 32)]], [[(1, 1), (2, 2), (5, 4), (6, 4)], [(1, 1), (2, 2), (5, 4), (6, 4)], [(4, 4), (5, 1), (6, 2), (9, 9), (10, 10), (25, 17), (26, 18), (41, 33), (42, 34)], [(8, 8), (20, 20), (21, 17), (22, 18), (24, 16), (36, 36), (37, 33), (38, 34), (40, 32)], [(16, 16), (24, 8), (32, 32), (40, 8)], [(16, 16), (24, 8), (32, 32), (40, 8)]], [[(1, 1), (2, 2), (4, 4), (8, 8)], [(1, 1), (2, 2), (4, 4), (8, 8)], [(1, 1), (2, 2), (4, 4), (8, 8), (16, 16), (32, 32)], [(1, 1), (2, 2), (4, 4), (8, 8), (16, 16), (32, 32)], [(4, 4), (8, 8), (16, 16), (32, 32)], [(4, 4), (8, 8), (16, 16), (32, 32)]], [[(1, 1), (2, 2), (4, 4), (8, 8), (16, 16), (32, 32)], [(1, 1), (2, 2), (4, 4), (8, 8), (16, 16), (32, 32)], [(1, 1), (2, 2), (4, 4), (8, 8), (16, 16), (32, 32)], [(1, 1), (2, 2), (4, 4), (8, 8), (16, 16), (32, 32)], [(1, 1), (2, 2), (4, 4), (8, 8), (16, 16), (32, 32)], [(1, 1), (2, 2), (4, 4), (8, 8), (16, 16), (32, 32)]], [[(1, 1), (2, 2), (4, 4), (8, 8), (20, 16), (24, 16), (36, 32), (40, 32)], [(1, 1), (2, 2), (4, 4), (8, 8), (20, 16), (24, 16), (36, 32), (40, 32)], [(1, 1), (2, 2), (4, 4), (8, 8), (20, 16), (24, 16), (36, 32), (40, 32)], [(4, 4), (5, 1), (6, 2), (8, 8), (9, 1), (10, 2), (16, 16), (32, 32)], [(4, 4), (5, 1), (6, 2), (8, 8), (9, 1), (10, 2), (16, 16), (32, 32)], [(4, 4), (5, 1), (6, 2), (8, 8), (9, 1), (10, 2), (16, 16), (32, 32)]], [[(1, 1), (2, 2), (4, 4), (9, 8), (10, 8), (12, 8)], [(1, 1), (2, 2), (4, 4), (9, 8), (10, 8), (12, 8)], [(1, 1), (2, 2), (4, 4), (8, 8), (16, 16), (32, 32)], [(1, 1), (2, 2), (4, 4), (8, 8), (16, 16), (32, 32)], [(8, 8), (12, 4), (16, 16), (20, 4), (32, 32), (36, 4)], [(8, 8), (12, 4), (16, 16), (20, 4), (32, 32), (36, 4)]], [[(1, 1), (2, 2), (4, 4), (8, 8), (24, 16), (40, 32)], [(1, 1), (2, 2), (4, 4), (8, 8), (24, 16), (40, 32)], [(1, 1), (2, 2), (4, 4), (8, 8), (16, 16), (32, 32)], [(1, 1), (2, 2), (4, 4), (8, 8), (16, 16), (32, 32)], [(4, 4), (5, 1), (6, 2), (8, 8), (16, 16), (32, 32)], [(4, 4), (5, 1), (6, 2), (8, 8), (16, 16), (32, 32)]], [[(1, 1), (2, 2), (4, 4), (8, 8), (20, 16), (24, 16), (36, 32), (40, 32)], [(1, 1), (2, 2), (4, 4), (8, 8), (20, 16), (24, 16), (36, 32), (40, 32)], [(1, 1), (2, 2), (4, 4), (8, 8), (16, 16), (32, 32)], [(1, 1), (2, 2), (4, 4), (8, 8), (16, 16), (32, 32)], [(4, 4), (5, 1), (6, 2), (8, 8), (9, 1), (10, 2), (16, 16), (32, 32)], [(4, 4), (5, 1), (6, 2), (8, 8), (9, 1), (10, 2), (16, 16), (32, 32)]]]
def stpA6 : List StepT := [.full, .keep 1, .keep 2, .keep 3, .dig 1, .dig 2, .dig 3, .lean 1, .lean 2, .lean 3]
theorem cloA6 : clB tabA6 stpA6 = true := by decide +kernel
theorem iniA6 : inB tabA6 6 = true := by decide +kernel
theorem movA6_6 : moB tabA6 6 = true := by decide +kernel
/-! ### k24 -/
section
variable {α β σ ρ : Type}
abbrev Tr {α : Type} : α → Prop := fun _ => True
theorem compL_T {f : α → Res (Option β)} {P : β → Prop} : ∀ {xs : List α}, (∀ x ∈ xs, (f x).Ok fun o => ∀ y, o = some y → P y) → (compL f xs).Ok fun ys => ∀ y ∈ ys, P y
  | [], _ => fun y hy => by simp at hy
  | x :: xs, h => by
    show ((f x).bind _).Ok _
    refine bi (h x List.mem_cons_self) fun o ho => ?_
    refine bi (compL_T fun y hy => h y (List.mem_cons_of_mem _ hy)) fun r hr => ?_
    intro y hy
    rcases List.mem_append.mp hy with g | g
    · exact ho y (by simpa using g)
    · exact hr y g
end
theorem isIn_ok {ts : List Tab} {m : Res Tab} (h : isIn ts m = true) : m.Ok fun t => t ∈ ts := by
  cases m with
  | ok t => exact List.elem_iff.mp h
  | err x => cases h
  | bad => cases h
  | all g => cases h
theorem clo_step {ts : List Tab} {ss : List StepT} (h : clB ts ss = true) : ∀ {xs : List StepT} {t : Tab}, t ∈ ts → (∀ s ∈ xs, s ∈ ss) → (foldR (fun (s5 : Tab) x6 => (m_behind_step x6 s5).bind fun z9 => Res.ok z9) xs t).Ok fun t => t ∈ ts := by
  intro xs t ht hx
  obtain ⟨t', e, h'⟩ := foldR_inv (f := fun (s5 : Tab) x6 => (m_behind_step x6 s5).bind fun z9 => Res.ok z9) (fun t => t ∈ ts) ht fun t s ht hs => by
    have h1 := List.all_eq_true.mp (List.all_eq_true.mp h t ht) s (hx s hs)
    rw [bind_pure]
    exact (isIn_ok h1).get
  rw [e]; exact h'
def dvs (D : Nat) : List Nat := (List.range (D + 1)).filter fun p => decide (1 ≤ p) && decide (p ∣ D)
theorem table_ok {n : Nat} {ts : List Tab} {ss : List StepT} (hn : n ≤ 1000) (hc : clB ts ss = true) (hi : inB ts n = true) {xs : List StepT} (he : m_Script_period xs = .ok (n : Int)) (hx : ∀ s ∈ xs, s ∈ ss) : (m_reason_table xs).Ok fun t => t ∈ ts := by
  unfold m_reason_table
  rw [he]
  refine be (a := (n : Int)) rfl ?_
  refine bg (small62_of (by omega) (by omega)) ?_
  refine bi (Q := fun t => t ∈ ts) (isIn_ok hi) fun t ht => ?_
  exact bi (clo_step hc ht hx) fun t ht => ht
/-- sizes 1, 2, 3 -/
def S3 : StepT → Prop
  | .full => True
  | .keep n => n = 1 ∨ n = 2 ∨ n = 3
  | .lean n => n = 1 ∨ n = 2 ∨ n = 3
  | .dig n => n = 1 ∨ n = 2 ∨ n = 3
theorem S3.dv {s : StepT} (h : S3 s) : Dv 6 s := by
  cases s with
  | full => trivial
  | keep n => rcases h with rfl | rfl | rfl <;> first | exact ⟨1, rfl, by decide, by decide⟩ | exact ⟨2, rfl, by decide, by decide⟩ | exact ⟨3, rfl, by decide, by decide⟩
  | lean n => rcases h with rfl | rfl | rfl <;> first | exact ⟨1, rfl, by decide, by decide⟩ | exact ⟨2, rfl, by decide, by decide⟩ | exact ⟨3, rfl, by decide, by decide⟩
  | dig n => rcases h with rfl | rfl | rfl <;> first | exact ⟨1, rfl, by decide, by decide⟩ | exact ⟨2, rfl, by decide, by decide⟩ | exact ⟨3, rfl, by decide, by decide⟩
theorem dvc {m n : Nat} {k : Int} (h : ∃ m : Nat, k = m ∧ 1 ≤ m ∧ m ∣ n) (e : k = m) : m ∣ n := by
  obtain ⟨j, rfl, _, d⟩ := h
  have : j = m := by omega
  rwa [← this]
theorem S3.mem {ss : List StepT} {n : Nat} (hf : .full ∈ ss) (h1 : ∀ m : Nat, m ∈ [1, 2, 3] → m ∣ n → .keep m ∈ ss ∧ .lean m ∈ ss ∧ .dig m ∈ ss) {s : StepT} (h : S3 s) (hd : Dv n s) : s ∈ ss := by
  cases s with
  | full => exact hf
  | keep k => rcases h with rfl | rfl | rfl <;> first | exact (h1 1 (by decide) (dvc hd rfl)).1 | exact (h1 2 (by decide) (dvc hd rfl)).1 | exact (h1 3 (by decide) (dvc hd rfl)).1
  | lean k => rcases h with rfl | rfl | rfl <;> first | exact (h1 1 (by decide) (dvc hd rfl)).2.1 | exact (h1 2 (by decide) (dvc hd rfl)).2.1 | exact (h1 3 (by decide) (dvc hd rfl)).2.1
  | dig k => rcases h with rfl | rfl | rfl <;> first | exact (h1 1 (by decide) (dvc hd rfl)).2.2 | exact (h1 2 (by decide) (dvc hd rfl)).2.2 | exact (h1 3 (by decide) (dvc hd rfl)).2.2
/-- what is told of a period: its tables -/
structure TabsAt (n : Nat) (ts : List Tab) (ss : List StepT) : Prop where
  c : clB ts ss = true
  i : inB ts n = true
  f : .full ∈ ss
  s : ∀ m : Nat, m ∈ [1, 2, 3] → m ∣ n → .keep m ∈ ss ∧ .lean m ∈ ss ∧ .dig m ∈ ss
theorem at1 : TabsAt 1 tabA1 stpA1 := ⟨cloA1, iniA1, by decide, by decide⟩
theorem at2 : TabsAt 2 tabA2 stpA2 := ⟨cloA2, iniA2, by decide, by decide⟩
theorem at3 : TabsAt 3 tabA3 stpA3 := ⟨cloA3, iniA3, by decide, by decide⟩
theorem at6 : TabsAt 6 tabA6 stpA6 := ⟨cloA6, iniA6, by decide, by decide⟩
theorem dv6 {p : Nat} (h1 : 1 ≤ p) (h : p ∣ 6) : p = 1 ∨ p = 2 ∨ p = 3 ∨ p = 6 := by
  have := Nat.le_of_dvd (by decide) h
  have : p = 1 ∨ p = 2 ∨ p = 3 ∨ p = 4 ∨ p = 5 ∨ p = 6 := by omega
  rcases this with rfl | rfl | rfl | rfl | rfl | rfl <;> first | omega | exact absurd h (by decide)
theorem at_ {p : Nat} (h1 : 1 ≤ p) (h : p ∣ 6) : ∃ ts ss, TabsAt p ts ss ∧ ∀ L : Nat, 1 ≤ L → L ∣ 6 → p ∣ L → moB ts L = true := by
  rcases dv6 h1 h with rfl | rfl | rfl | rfl
  · exact ⟨_, _, at1, fun L l1 l2 l3 => by rcases dv6 l1 l2 with rfl | rfl | rfl | rfl <;> first | exact movA1_1 | exact movA1_2 | exact movA1_3 | exact movA1_6⟩
  · exact ⟨_, _, at2, fun L l1 l2 l3 => by rcases dv6 l1 l2 with rfl | rfl | rfl | rfl <;> first | exact movA2_2 | exact movA2_6 | exact absurd l3 (by decide)⟩
  · exact ⟨_, _, at3, fun L l1 l2 l3 => by rcases dv6 l1 l2 with rfl | rfl | rfl | rfl <;> first | exact movA3_3 | exact movA3_6 | exact absurd l3 (by decide)⟩
  · exact ⟨_, _, at6, fun L l1 l2 l3 => by rcases dv6 l1 l2 with rfl | rfl | rfl | rfl <;> first | exact movA6_6 | exact absurd l3 (by decide)⟩
/-- a script with sizes 1, 2, 3 -/
structure Sc3 (xs : List StepT) : Prop where
  l : xs.length ≤ 1000
  s : ∀ s ∈ xs, S3 s
/-! ### k15 -/
theorem compL_len {α β : Type} {f : α → Res (Option β)} : ∀ {xs : List α} {ys : List β}, compL f xs = .ok ys → ys.length ≤ xs.length
  | [], ys, h => by cases h; exact Nat.le_refl _
  | x :: xs, ys, h => by
    have h' : ((f x).bind fun o => (compL f xs).bind fun r => .ok (o.toList ++ r)) = Res.ok ys := h
    cases e : f x with
    | ok o =>
      rw [e, bind_ok] at h'
      cases e2 : compL f xs with
      | ok r =>
        rw [e2, bind_ok] at h'
        cases h'
        have := compL_len e2
        cases o <;> simp <;> omega
      | err x => rw [e2] at h'; cases h'
      | bad => rw [e2] at h'; cases h'
      | all g => rw [e2] at h'; cases h'
    | err x => rw [e] at h'; cases h'
    | bad => rw [e] at h'; cases h'
    | all g => rw [e] at h'; cases h'
theorem compR_Tl {α β : Type} {f : α → Res (Option β)} {xs : List α} (hl : xs.length ≤ sizeLine) (h : ∀ x ∈ xs, (f x).Ok Tr) : (compR f xs).Ok fun ys => ys.length ≤ xs.length := by
  unfold compR; rw [if_pos hl]
  obtain ⟨r, e, _⟩ := (compL_T (P := Tr) (f := f) (xs := xs) fun x hx => (h x hx).imp fun _ _ _ _ => trivial).get
  rw [e]; exact compL_len e
def shB (n : Nat) (ts : List Tab) : Bool := ts.all fun t => decide (t.length = n) && t.all fun rows => decide (rows.length ≤ 1000)
theorem shA1 : shB 1 tabA1 = true := by decide +kernel
theorem shA2 : shB 2 tabA2 = true := by decide +kernel
theorem shA3 : shB 3 tabA3 = true := by decide +kernel
theorem shA6 : shB 6 tabA6 = true := by decide +kernel
theorem sh_ {p : Nat} (h1 : 1 ≤ p) (h : p ∣ 6) : ∃ ts ss, TabsAt p ts ss ∧ shB p ts = true := by
  rcases dv6 h1 h with rfl | rfl | rfl | rfl
  · exact ⟨_, _, at1, shA1⟩
  · exact ⟨_, _, at2, shA2⟩
  · exact ⟨_, _, at3, shA3⟩
  · exact ⟨_, _, at6, shA6⟩
theorem pshr_ok {i j : Int} (h : 0 ≤ j) : pshr i j = .ok (i / 2 ^ j.toNat) := guard_ok h
theorem cells_of_ok {b f : Int} {p : Nat} (hp : p ≤ 1000) : (m_cells_of b f (p : Int)).Ok Tr := by
  unfold m_cells_of
  refine bg (small62_of (by omega) (by omega)) ?_
  refine bi (compR_Tl (by rw [rangeL_length, sz]; omega) fun x hx => ?_) fun _ _ => trivial
  have := (mem_rangeL.mp hx).1
  refine be (pshr_ok this) ?_
  exact cB (fun _ => trivial) fun _ => trivial
theorem reasons_ok {xs : List StepT} (h : Sc3 xs) {cell : Int} (h0 : 0 ≤ cell) (hs : Sm 4000 cell) : (m_reasons xs cell).Ok Tr := by
  obtain ⟨p, ep, p1, p2, p3⟩ := period_o (D := 6) (by decide) h.l fun s hs => (h.s s hs).dv
  obtain ⟨ts, ss, hA, hB⟩ := sh_ p1 p2
  have hp := Nat.le_of_dvd (by decide) p2
  unfold m_reasons
  refine be (a := ()) rfl ?_
  refine be (least_val h0) ?_
  refine be (a := (p : Int)) (by rw [ep]; rfl) ?_
  have hpp : (0 : Int) < p := by omega
  refine be (pdiv_ok hpp (sm1000 (by omega) (by omega))) ?_
  have hd0 : 0 ≤ cell / (p : Int) := Int.ediv_nonneg h0 (by omega)
  have hd1 : cell / (p : Int) ≤ cell := Int.ediv_le_self _ h0
  refine be (pmul_ok ((Sm.of hd0 hd1 hs).up (by decide)) (sm1000 (by omega) (by omega))) ?_
  refine bi (table_ok (by omega) hA.c hA.i ep fun s hs => (h.s s hs).mem hA.f hA.s (p3 s hs)) fun t ht => ?_
  have hb := List.all_eq_true.mp hB t ht
  rw [Bool.and_eq_true, decide_eq_true_eq] at hb
  have hm0 : 0 ≤ cell % (p : Int) := Int.emod_nonneg _ (by omega)
  have hm1 : cell % (p : Int) < p := Int.emod_lt_of_pos _ hpp
  have hme : cell - cell / (p : Int) * p = cell % (p : Int) := by
    have := Int.emod_add_mul_ediv cell p; rw [Int.mul_comm] at this; omega
  rw [hme]
  refine bi (pix_of hm0 hm1 (P := fun rows => rows.length ≤ 1000) (fun rows hr => ?_) (by rw [hb.1])) fun rows hr => ?_
  · have := List.all_eq_true.mp hb.2 rows hr
    simpa using this
  refine bi (compR_Tl (by rw [sz]; omega) fun x hx => ?_) fun l hl => ?_
  · refine bi (cells_of_ok (by omega)) fun _ _ => ?_
    exact bi (cells_of_ok (by omega)) fun _ _ => trivial
  · exact be (guard_ok (by rw [sz]; omega)) trivial
/-- no script -/
def NS (v : Any) : Prop := pisO su_Script v = .ok false ∧ SV v
/-- no cell -/
def NC (v : Any) : Prop := m_check_least__v2 v 0 = .err ⟨.number, v⟩ ∧ SV v
theorem nc_int {i : Int} (h : i < 0) : NC (.int i) := ⟨by
  unfold m_check_least__v2
  rw [show m_is_whole__v2 (.int i) = .ok true from rfl, bind_ok, cond_true]
  simp only [AsI, bind_ok]
  rw [decide_eq_true h]; rfl, sv_int⟩
theorem nc_scr {q : Addr} {xs : List Any} : NC (.tag q (.obj .script xs)) := ⟨by
  have e : ∀ t, pisA prR t (.tag q (.obj .script xs)) = .ok false := fun t => by
    show guard (prR .script = true) false = _
    exact guard_ok rfl
  unfold m_check_least__v2 m_is_whole__v2
  rw [e, e]; rfl, sv_tag⟩
theorem told_v {v o : Any} (h : pisO su_Script v = .ok false) : m_law_told v o = .ok [.str ("script" : Str), v] := by
  have e1 : m_check_script__v2 v = .err ⟨.script, v⟩ := by unfold m_check_script__v2; rw [h]; rfl
  unfold m_law_told m_reasons__v2
  rw [e1]; rfl
theorem told_v2 {xs : List StepT} {v : Any} (h : m_check_least__v2 v 0 = .err ⟨.number, v⟩) : m_law_told__v2 xs v = .ok [.str ("number" : Str), v] := by
  unfold m_law_told__v2 m_reasons__v3
  rw [h]; rfl
theorem told_v3 {xs : List StepT} (h : Sc3 xs) {cell : Int} (h0 : 0 ≤ cell) (hs : Sm 4000 cell) : m_law_told__v3 xs cell = .ok [.str ("none" : Str)] := by
  obtain ⟨r, e, _⟩ := (reasons_ok h h0 hs).get
  unfold m_law_told__v3
  rw [e]; rfl
theorem s3_of {x : Str × Int} (h : x.2 ∈ [(1 : Int), 2, 3]) : S3 (stepOf x) := by
  have : x.2 = 1 ∨ x.2 = 2 ∨ x.2 = 3 := by simpa using h
  unfold stepOf
  split
  · trivial
  · split
    · exact this
    · split <;> exact this
theorem empty_file : m_File_make ("" : Str) = .ok ("" : Str) := file_ok (l := []) (by decide) rfl
theorem law_ok (ns : List Int) (h : ns.length ≤ 63) : (m_law ns).Out (fun r => r = true) (fun _ => False) := by
  unfold m_law
  refine bO purse_o fun p hp => ?_
  refine bO (law_steps_o hp (by decide) (by decide) (by decide) (by decide)) fun r ⟨r1, r2, r3⟩ => ?_
  have hsz : ∀ x ∈ r.1, 1 ≤ x.2 := fun x hx => by
    have := r2 x hx
    simp at this
    omega
  refine bE (law_script_val (by omega) hsz) ?_
  refine bE (compR_map stepOf (by rw [sz]; omega) fun x hx => by rw [law_step_val (hsz x hx)]; rfl) ?_
  have h3 : Sc3 (r.1.map stepOf) := ⟨by rw [List.length_map]; omega, fun s hs => by
    obtain ⟨x, hx, rfl⟩ := List.mem_map.mp hs
    exact s3_of (r2 x hx)⟩
  generalize r.1.map stepOf = xs at h3
  have hn : m_Script_make none = .ok [] := by
    show (m_are_steps []).bind _ = _
    unfold m_are_steps
    rw [compR_nil]
    exact guard_ok rfl
  intro q9 q10 q11 q12
  refine bE empty_file ?_
  intro q14
  refine foF (fun _ => True) trivial (fun s v _ hv => ?_) fun _ _ => ?_
  · have hv : NS v := by
      simp only [List.mem_cons, List.not_mem_nil, or_false] at hv
      rcases hv with rfl | rfl | rfl | rfl | rfl | rfl | rfl | rfl | rfl | rfl
      · exact ⟨rfl, sv_non⟩
      · exact ⟨rfl, sv_tag⟩
      · exact ⟨rfl, sv_int⟩
      · exact ⟨rfl, sv_tag⟩
      · exact ⟨rfl, by simp [SV, selfA, selfAL, dpA, dpAL]⟩
      · exact ⟨rfl, sv_str⟩
      · exact ⟨rfl, sv_tag⟩
      · exact ⟨rfl, sv_tag⟩
      · exact ⟨rfl, sv_tag⟩
      · exact ⟨rfl, sv_bl⟩
    refine foF (fun _ => True) trivial (fun _ o _ _ => ?_) fun _ _ => nxA trivial
    refine bE (told_v hv.1) ?_
    refine bE (ne_self2 hv.2) ?_
    exact nxA trivial
  · intro q31 q32
    refine foF (fun _ => True) trivial (fun s v _ hv => ?_) fun _ _ => ?_
    · have hv : NC v := by
        simp only [List.mem_cons, List.not_mem_nil, or_false] at hv
        rcases hv with rfl | rfl | rfl | rfl | rfl | rfl | rfl | rfl | rfl | rfl
        · exact nc_int (by decide)
        · exact nc_int (by decide +kernel)
        · exact ⟨rfl, sv_non⟩
        · exact ⟨rfl, sv_bl⟩
        · exact ⟨rfl, sv_bl⟩
        · exact ⟨rfl, sv_str⟩
        · exact ⟨rfl, by simp [SV, selfA, selfAL, dpA, dpAL]⟩
        · exact ⟨rfl, by simp [SV, selfA, selfAL, dpA, dpAL]⟩
        · exact ⟨rfl, sv_tag⟩
        · exact nc_scr
      refine bE (told_v2 hv.1) ?_
      refine bE (ne_self2 hv.2) ?_
      refine bE hn ?_
      refine bE (told_v2 hv.1) ?_
      refine bE (ne_self2 hv.2) ?_
      exact nxA trivial
    · rw [told_v3 h3 (by decide) (by unfold Sm; decide +kernel), bind_ok, eq_self sv_str, bind_ok, told_v3 h3 (by decide +kernel) (by unfold Sm; decide +kernel), bind_ok, eq_self sv_str]
      rfl
end Kh

set_option Elab.async false
set_option linter.all false
set_option maxRecDepth 100000
set_option maxHeartbeats 4000000
namespace Kh
open PySem PySem.Spec L2
open PySem.W (Frag)
section
variable {w : World} {K : Frag} {mg : Str → Option Value} {base : Heap}
theorem ok_law (R : Prg K mg) : FnOk PR w K mg base CX0 11 R.f_law R.d_law P_law (toSp K spLaw) := by
  refine fn_law false R.F_law sc_law (fun h => nomatch h) (fun ds M P E ⟨a, _, q, _⟩ => by rw [q]; rfl) fun cdv A outer s H hr ds M Pd PE h => ?_
  obtain ⟨a_script, hlen, rfl, rfl, hp⟩ := h
  have hu := hr.units
  have h : (m_law a_script).Out (fun r => Pd (.bl r) []) (fun _ => False) := out_mono (law_ok a_script hlen) (fun r e => by rw [show r = true from e]; exact hp) (fun _ h => h)
  refine WS.ends ?_
  refine ws_set <| ex_callA (ok_law_steps R) (hr.mono (by decide)) R.m_law_steps R.F_law_steps R.b_law_steps <| ea_cons <| ex_callF (ok_law_purse R) (hr.mono (by decide)) R.m_law_purse R.F_law_purse R.b_law_purse <| ea_cons <| ex_var ⟨rfl, rfl⟩ <| ea_cons <| ex_int <| ea_nil <| ⟨a_script, (0 : Int), rfl, outG (ob h) (fun z2 h => fun q3 => (UpP.mk (ea_cons <| ex_lst <| ea_cons <| ex_int <| ea_cons <| ex_int <| ea_cons <| ex_int <| ea_nil ⟨ln, ea_cons <| ex_int <| ea_nil <| apC [] ⟨_, z2, ([(1 : Int), (2 : Int), (3 : Int)] : List Int), (3 : Int), rfl, rfl, outC1 (ob h) (fun z4 h => ?_) (fun _ h => h)⟩⟩))) (fun _ h => dX [] h)⟩
  refine ws_set <| ex_callF (ok_law_script R) (hr.mono (by decide)) R.m_law_script R.F_law_script R.b_law_script <| ea_cons <| ex_var ⟨rfl, rfl⟩ <| ea_nil <| ⟨z4.1, rfl, outU (ob h) (fun z5 h => ?_) (fun _ h => dX [_] h)⟩
  refine ws_forT <| ei_list <| ex_lst <| ea_cons <| ex_asA <| ex_non <| ⟨anyD (clR R) Any.non, (by first | rfl | (simp only [anyD, anyDL, anyDL_map, List.map_map]; done) | (simp only [anyD, anyDL, anyDL_map, List.map_map]; rfl) | (simp only [anyD, anyDL, anyDL_map, List.map_map, stepA_comp, stepA_D]; rfl) | (simp only [anyD, anyDL, anyDL_map, List.map_map, stepA_comp, stepA_D]; done)), ea_cons <| ex_tagA <| ex_lcT [("step", 5)] <| ei_list <| ex_var ⟨rfl, rfl⟩ <| ⟨_, rfl, compT (pairD Dat.str Dat.int) (stepD R) (xs := z4.1) (ob h) trivial (fun x6 _ h s H C cl fp => gc_name  <| fun s H C cl fp => ef_nil ⟨fun _ s H C cl fp => ex_callF (ok_law_step R) (hr.mono (by decide)) R.m_law_step R.F_law_step R.b_law_step <| ea_cons <| ex_var ⟨rfl, rfl⟩ <| ea_nil <| ⟨x6, rfl, outU (ob h) (fun z7 h => ⟨rfl, z7, rfl, h⟩) (fun _ h => h)⟩, fun z => nomatch z⟩) (fun l8 h => ⟨rfl, anyD (clR R) (Any.lst (l8.map stepA)), (by first | rfl | (simp only [anyD, anyDL, anyDL_map, List.map_map]; done) | (simp only [anyD, anyDL, anyDL_map, List.map_map]; rfl) | (simp only [anyD, anyDL, anyDL_map, List.map_map, stepA_comp, stepA_D]; rfl) | (simp only [anyD, anyDL, anyDL_map, List.map_map, stepA_comp, stepA_D]; done)), _, outAll h, fun q9 h => ea_cons <| ex_asA <| ex_int <| ⟨anyD (clR R) (Any.int (0 : Int)), (by first | rfl | (simp only [anyD, anyDL, anyDL_map, List.map_map]; done) | (simp only [anyD, anyDL, anyDL_map, List.map_map]; rfl) | (simp only [anyD, anyDL, anyDL_map, List.map_map, stepA_comp, stepA_D]; rfl) | (simp only [anyD, anyDL, anyDL_map, List.map_map, stepA_comp, stepA_D]; done)), ea_cons <| ex_tagA <| ex_new0 R.K_Full R.mc_Full fun q dx _ _ _ => made_ok (fs := []) <| ⟨rfl, anyD (clR R) ((fun _ => Any.obj .full []) ()), (by first | rfl | (simp only [anyD, anyDL, anyDL_map, List.map_map]; done) | (simp only [anyD, anyDL, anyDL_map, List.map_map]; rfl) | (simp only [anyD, anyDL, anyDL_map, List.map_map, stepA_comp, stepA_D]; rfl) | (simp only [anyD, anyDL, anyDL_map, List.map_map, stepA_comp, stepA_D]; done)), _, outAll h, fun q10 h => ea_cons <| ex_asA <| ex_tup <| ea_nil ⟨ln, ⟨anyD (clR R) (Any.tup []), (by first | rfl | (simp only [anyD, anyDL, anyDL_map, List.map_map]; done) | (simp only [anyD, anyDL, anyDL_map, List.map_map]; rfl) | (simp only [anyD, anyDL, anyDL_map, List.map_map, stepA_comp, stepA_D]; rfl) | (simp only [anyD, anyDL, anyDL_map, List.map_map, stepA_comp, stepA_D]; done)), ea_cons <| ex_asA <| ex_str <| ⟨anyD (clR R) (Any.str ("full" : Str)), (by first | rfl | (simp only [anyD, anyDL, anyDL_map, List.map_map]; done) | (simp only [anyD, anyDL, anyDL_map, List.map_map]; rfl) | (simp only [anyD, anyDL, anyDL_map, List.map_map, stepA_comp, stepA_D]; rfl) | (simp only [anyD, anyDL, anyDL_map, List.map_map, stepA_comp, stepA_D]; done)), ea_cons <| ex_asA <| ex_dicA h fun q11 h => ⟨_, rfl, ea_cons <| ex_tagA <| ex_lst <| ea_cons <| ex_var ⟨rfl, rfl⟩ <| ea_nil ⟨ln, ⟨rfl, anyD (clR R) (Any.lst [((fun xs => Any.obj .script [.tup (xs.map stepA)]) z5)]), (by first | rfl | (simp only [anyD, anyDL, anyDL_map, List.map_map]; done) | (simp only [anyD, anyDL, anyDL_map, List.map_map]; rfl) | (simp only [anyD, anyDL, anyDL_map, List.map_map, stepA_comp, stepA_D]; rfl) | (simp only [anyD, anyDL, anyDL_map, List.map_map, stepA_comp, stepA_D]; done)), _, outAll h, fun q12 h => ea_cons <| ex_tagA <| ex_make0 R.K_File (ok_File_init R) (hr.mono (by decide)) R.mc_File R.b1_File_init (.cons (show RelV (.str "") _ from ⟨_, rfl⟩) .nil) (fun _ => .cons den_str .nil) <| fun q dx _ _ _ => mk_File (ob h) (fun z13 h => ⟨rfl, anyD (clR R) ((fun z => Any.obj .file [.str z]) z13), (by first | rfl | (simp only [anyD, anyDL, anyDL_map, List.map_map]; done) | (simp only [anyD, anyDL, anyDL_map, List.map_map]; rfl) | (simp only [anyD, anyDL, anyDL_map, List.map_map, stepA_comp, stepA_D]; rfl) | (simp only [anyD, anyDL, anyDL_map, List.map_map, stepA_comp, stepA_D]; done)), _, outAll h, fun q14 h => ea_cons <| ex_asA <| ex_bl <| ⟨anyD (clR R) (Any.bl true), (by first | rfl | (simp only [anyD, anyDL, anyDL_map, List.map_map]; done) | (simp only [anyD, anyDL, anyDL_map, List.map_map]; rfl) | (simp only [anyD, anyDL, anyDL_map, List.map_map, stepA_comp, stepA_D]; rfl) | (simp only [anyD, anyDL, anyDL_map, List.map_map, stepA_comp, stepA_D]; done)), ea_nil ⟨ln, ⟨_, rfl, forT (anyD (clR R)) (xs := ([Any.non, (Any.tag q9 (Any.lst (l8.map stepA))), (Any.int (0 : Int)), (Any.tag q10 ((fun _ => Any.obj .full []) ())), (Any.tup []), (Any.str ("full" : Str)), (Any.tag q11 .dic), (Any.tag q12 (Any.lst [((fun xs => Any.obj .script [.tup (xs.map stepA)]) z5)])), (Any.tag q14 ((fun z => Any.obj .file [.str z]) z13)), (Any.bl true)] : List Any)) (fun (s15 : Unit) τ M' => ∃ d3 d4 d5, [some (.scr a_script), some ((lstD (pairD Dat.str Dat.int)) z4.1), some ((scriptD R) z5), d3, d4, d5] = τ ∧ (q3, .lst (z4.2.map Dat.int)) :: [] = M') (ob h) ⟨_, _, _, rfl, rfl⟩ (fun _ _ _ _ => trivial) ?g29 ?g30⟩⟩⟩⟩) (fun _ h => dX [_, _] h)⟩⟩⟩⟩⟩⟩⟩⟩⟩)⟩⟩
  case g29 =>
    rintro x16 s15 _ _ N ⟨d3, d4, d5, rfl, rfl⟩ h hrt17
    refine gx_name  <| ?_
    refine ws_forT <| ei_list <| ex_lst <| ea_cons <| ex_asA <| ex_int <| ⟨anyD (clR R) (Any.int (0 : Int)), (by first | rfl | (simp only [anyD, anyDL, anyDL_map, List.map_map]; done) | (simp only [anyD, anyDL, anyDL_map, List.map_map]; rfl) | (simp only [anyD, anyDL, anyDL_map, List.map_map, stepA_comp, stepA_D]; rfl) | (simp only [anyD, anyDL, anyDL_map, List.map_map, stepA_comp, stepA_D]; done)), ea_cons <| ex_asA <| ex_non <| ⟨anyD (clR R) Any.non, (by first | rfl | (simp only [anyD, anyDL, anyDL_map, List.map_map]; done) | (simp only [anyD, anyDL, anyDL_map, List.map_map]; rfl) | (simp only [anyD, anyDL, anyDL_map, List.map_map, stepA_comp, stepA_D]; rfl) | (simp only [anyD, anyDL, anyDL_map, List.map_map, stepA_comp, stepA_D]; done)), ea_cons <| ex_asA <| ex_bin <| ex_int <| ex_int <| o_sub <| ⟨anyD (clR R) (Any.int ((0 : Int) - (1 : Int))), (by first | rfl | (simp only [anyD, anyDL, anyDL_map, List.map_map]; done) | (simp only [anyD, anyDL, anyDL_map, List.map_map]; rfl) | (simp only [anyD, anyDL, anyDL_map, List.map_map, stepA_comp, stepA_D]; rfl) | (simp only [anyD, anyDL, anyDL_map, List.map_map, stepA_comp, stepA_D]; done)), ea_nil ⟨ln, ⟨_, rfl, forT (anyD (clR R)) (xs := ([(Any.int (0 : Int)), Any.non, (Any.int ((0 : Int) - (1 : Int)))] : List Any)) (fun (s19 : Unit) τ M' => ∃ d4 d5, [some (.scr a_script), some ((lstD (pairD Dat.str Dat.int)) z4.1), some ((scriptD R) z5), some (anyD (clR R) x16), d4, d5] = τ ∧ (q3, .lst (z4.2.map Dat.int)) :: [] = M') (ob h) ⟨_, _, rfl, rfl⟩ (fun _ _ _ _ => trivial) ?g27 ?g28⟩⟩⟩⟩⟩
    case g27 =>
      rintro x20 s19 _ _ N ⟨d4, d5, rfl, rfl⟩ h hrt21
      refine gx_name  <| ?_
      refine ws_if <| et_cmp <| ex_callF (ok_law_told R) (hr.mono (by decide)) R.m_law_told R.F_law_told R.b_law_told <| ea_cons <| ex_asA <| ex_var ⟨rfl, rfl⟩ <| ⟨_, rfl, ea_cons <| ex_asA <| ex_var ⟨rfl, rfl⟩ <| ⟨_, rfl, ea_nil <| ⟨x16, x20, rfl, outU (ob h) (fun z23 h => ex_lst <| ea_cons <| ex_asA <| ex_str <| ⟨anyD (clR R) (Any.str ("script" : Str)), (by first | rfl | (simp only [anyD, anyDL, anyDL_map, List.map_map]; done) | (simp only [anyD, anyDL, anyDL_map, List.map_map]; rfl) | (simp only [anyD, anyDL, anyDL_map, List.map_map, stepA_comp, stepA_D]; rfl) | (simp only [anyD, anyDL, anyDL_map, List.map_map, stepA_comp, stepA_D]; done)), ea_cons <| ex_asA <| ex_var ⟨rfl, rfl⟩ <| ⟨_, rfl, ea_nil ⟨ln, r_neAL (xs := z23) (ys := ([(Any.str ("script" : Str)), x16] : List Any)) hu (ob h) fun z24 h => ⟨_, rfl, cif h (fun h => ?g25) (fun h => ?g26)⟩⟩⟩⟩) (fun _ h => dX [_] h)⟩⟩⟩
      case g25 =>
        exact ws_ret <| ex_bl <| (dN [_] (hrt17 _ (hrt21 _ h)))
      case g26 =>
        refine ws_nil ?_
        exact ws_nil ⟨(), ⟨_, _, rfl, rfl⟩, h⟩
    case g28 =>
      rintro s19 _ _ ⟨d4, d5, rfl, rfl⟩ h
      replace h := finO h
      exact ws_nil ⟨(), ⟨_, _, _, rfl, rfl⟩, h⟩
  case g30 =>
    rintro s15 _ _ ⟨d3, d4, d5, rfl, rfl⟩ h
    replace h := finO h
    refine ws_forT <| ei_list <| ex_lst <| ea_cons <| ex_asA <| ex_bin <| ex_int <| ex_int <| o_sub <| ⟨anyD (clR R) (Any.int ((0 : Int) - (1 : Int))), (by first | rfl | (simp only [anyD, anyDL, anyDL_map, List.map_map]; done) | (simp only [anyD, anyDL, anyDL_map, List.map_map]; rfl) | (simp only [anyD, anyDL, anyDL_map, List.map_map, stepA_comp, stepA_D]; rfl) | (simp only [anyD, anyDL, anyDL_map, List.map_map, stepA_comp, stepA_D]; done)), ea_cons <| ex_asA <| ex_bin <| ex_int <| ex_bin <| ex_int <| ex_int <| o_powW (by decide +kernel) <| o_sub <| ⟨anyD (clR R) (Any.int ((0 : Int) - ((10 : Int) ^ Int.toNat (39 : Int)))), (by first | rfl | (simp only [anyD, anyDL, anyDL_map, List.map_map]; done) | (simp only [anyD, anyDL, anyDL_map, List.map_map]; rfl) | (simp only [anyD, anyDL, anyDL_map, List.map_map, stepA_comp, stepA_D]; rfl) | (simp only [anyD, anyDL, anyDL_map, List.map_map, stepA_comp, stepA_D]; done)), ea_cons <| ex_asA <| ex_non <| ⟨anyD (clR R) Any.non, (by first | rfl | (simp only [anyD, anyDL, anyDL_map, List.map_map]; done) | (simp only [anyD, anyDL, anyDL_map, List.map_map]; rfl) | (simp only [anyD, anyDL, anyDL_map, List.map_map, stepA_comp, stepA_D]; rfl) | (simp only [anyD, anyDL, anyDL_map, List.map_map, stepA_comp, stepA_D]; done)), ea_cons <| ex_asA <| ex_bl <| ⟨anyD (clR R) (Any.bl true), (by first | rfl | (simp only [anyD, anyDL, anyDL_map, List.map_map]; done) | (simp only [anyD, anyDL, anyDL_map, List.map_map]; rfl) | (simp only [anyD, anyDL, anyDL_map, List.map_map, stepA_comp, stepA_D]; rfl) | (simp only [anyD, anyDL, anyDL_map, List.map_map, stepA_comp, stepA_D]; done)), ea_cons <| ex_asA <| ex_bl <| ⟨anyD (clR R) (Any.bl false), (by first | rfl | (simp only [anyD, anyDL, anyDL_map, List.map_map]; done) | (simp only [anyD, anyDL, anyDL_map, List.map_map]; rfl) | (simp only [anyD, anyDL, anyDL_map, List.map_map, stepA_comp, stepA_D]; rfl) | (simp only [anyD, anyDL, anyDL_map, List.map_map, stepA_comp, stepA_D]; done)), ea_cons <| ex_asA <| ex_str <| ⟨anyD (clR R) (Any.str ("0" : Str)), (by first | rfl | (simp only [anyD, anyDL, anyDL_map, List.map_map]; done) | (simp only [anyD, anyDL, anyDL_map, List.map_map]; rfl) | (simp only [anyD, anyDL, anyDL_map, List.map_map, stepA_comp, stepA_D]; rfl) | (simp only [anyD, anyDL, anyDL_map, List.map_map, stepA_comp, stepA_D]; done)), ea_cons <| ex_asA <| ex_lst <| ea_cons <| ex_int <| ea_nil ⟨ln, ⟨anyD (clR R) (Any.lst [(Any.int (0 : Int))]), (by first | rfl | (simp only [anyD, anyDL, anyDL_map, List.map_map]; done) | (simp only [anyD, anyDL, anyDL_map, List.map_map]; rfl) | (simp only [anyD, anyDL, anyDL_map, List.map_map, stepA_comp, stepA_D]; rfl) | (simp only [anyD, anyDL, anyDL_map, List.map_map, stepA_comp, stepA_D]; done)), ea_cons <| ex_asA <| ex_tup <| ea_cons <| ex_int <| ea_nil ⟨ln, ⟨anyD (clR R) (Any.tup [(Any.int (0 : Int))]), (by first | rfl | (simp only [anyD, anyDL, anyDL_map, List.map_map]; done) | (simp only [anyD, anyDL, anyDL_map, List.map_map]; rfl) | (simp only [anyD, anyDL, anyDL_map, List.map_map, stepA_comp, stepA_D]; rfl) | (simp only [anyD, anyDL, anyDL_map, List.map_map, stepA_comp, stepA_D]; done)), ea_cons <| ex_asA <| ex_dicA h fun q31 h => ⟨_, rfl, ea_cons <| ex_tagA <| ex_var ⟨rfl, rfl⟩ <| ⟨rfl, anyD (clR R) ((fun xs => Any.obj .script [.tup (xs.map stepA)]) z5), (by first | rfl | (simp only [anyD, anyDL, anyDL_map, List.map_map]; done) | (simp only [anyD, anyDL, anyDL_map, List.map_map]; rfl) | (simp only [anyD, anyDL, anyDL_map, List.map_map, stepA_comp, stepA_D]; rfl) | (simp only [anyD, anyDL, anyDL_map, List.map_map, stepA_comp, stepA_D]; done)), _, outAll h, fun q32 h => ea_nil ⟨ln, ⟨_, rfl, forT (anyD (clR R)) (xs := ([(Any.int ((0 : Int) - (1 : Int))), (Any.int ((0 : Int) - ((10 : Int) ^ Int.toNat (39 : Int)))), Any.non, (Any.bl true), (Any.bl false), (Any.str ("0" : Str)), (Any.lst [(Any.int (0 : Int))]), (Any.tup [(Any.int (0 : Int))]), (Any.tag q31 .dic), (Any.tag q32 ((fun xs => Any.obj .script [.tup (xs.map stepA)]) z5))] : List Any)) (fun (s33 : Unit) τ M' => ∃ d3 d4 d5, [some (.scr a_script), some ((lstD (pairD Dat.str Dat.int)) z4.1), some ((scriptD R) z5), d3, d4, d5] = τ ∧ (q3, .lst (z4.2.map Dat.int)) :: [] = M') (ob h) ⟨_, _, _, rfl, rfl⟩ (fun _ _ _ _ => trivial) ?g45 ?g46⟩⟩⟩⟩⟩⟩⟩⟩⟩⟩⟩⟩⟩⟩
    case g45 =>
      rintro x34 s33 _ _ N ⟨d3, d4, d5, rfl, rfl⟩ h hrt35
      refine gx_name  <| ?_
      refine ws_if <| et_w <| ew_or <| et_cmp <| ex_callF (ok_law_told__v2 R) (hr.mono (by decide)) R.m_law_told R.F_law_told R.b_law_told <| ea_cons <| ex_var ⟨rfl, rfl⟩ <| ea_cons <| ex_asA <| ex_var ⟨rfl, rfl⟩ <| ⟨_, rfl, ea_nil <| ⟨z5, x34, rfl, outU (ob h) (fun z37 h => ex_lst <| ea_cons <| ex_asA <| ex_str <| ⟨anyD (clR R) (Any.str ("number" : Str)), (by first | rfl | (simp only [anyD, anyDL, anyDL_map, List.map_map]; done) | (simp only [anyD, anyDL, anyDL_map, List.map_map]; rfl) | (simp only [anyD, anyDL, anyDL_map, List.map_map, stepA_comp, stepA_D]; rfl) | (simp only [anyD, anyDL, anyDL_map, List.map_map, stepA_comp, stepA_D]; done)), ea_cons <| ex_asA <| ex_var ⟨rfl, rfl⟩ <| ⟨_, rfl, ea_nil ⟨ln, r_neAL (xs := z37) (ys := ([(Any.str ("number" : Str)), x34] : List Any)) hu (ob h) fun z38 h => ⟨_, rfl, cif h (fun h => ⟨fun _ => ?g39, fun z => nomatch z⟩) (fun h => ew_or1 <| et_cmp <| ex_callF (ok_law_told__v2 R) (hr.mono (by decide)) R.m_law_told R.F_law_told R.b_law_told <| ea_cons <| ex_make0 R.K_Script (ok_Script_init R) (hr.mono (by decide)) R.mc_Script R.b1_Script_init (.cons (show RelV .non _ from rfl) .nil) (fun _ => .cons den_non .nil) <| fun q dx _ _ _ => mk_Script (ob h) (fun z40 h => ea_cons <| ex_asA <| ex_var ⟨rfl, rfl⟩ <| ⟨_, rfl, ea_nil <| ⟨z40, x34, rfl, outU (ob h) (fun z41 h => ex_lst <| ea_cons <| ex_asA <| ex_str <| ⟨anyD (clR R) (Any.str ("number" : Str)), (by first | rfl | (simp only [anyD, anyDL, anyDL_map, List.map_map]; done) | (simp only [anyD, anyDL, anyDL_map, List.map_map]; rfl) | (simp only [anyD, anyDL, anyDL_map, List.map_map, stepA_comp, stepA_D]; rfl) | (simp only [anyD, anyDL, anyDL_map, List.map_map, stepA_comp, stepA_D]; done)), ea_cons <| ex_asA <| ex_var ⟨rfl, rfl⟩ <| ⟨_, rfl, ea_nil ⟨ln, r_neAL (xs := z41) (ys := ([(Any.str ("number" : Str)), x34] : List Any)) hu (ob h) fun z42 h => ⟨_, rfl, cif h (fun h => ?g43) (fun h => ?g44)⟩⟩⟩⟩) (fun _ h => dX [_] h)⟩⟩) (fun _ h => dX [_, _] h))⟩⟩⟩⟩) (fun _ h => dX [_] h)⟩⟩
      case g39 =>
        exact ws_ret <| ex_bl <| (dN [_] (hrt35 _ h))
      case g43 =>
        exact ws_ret <| ex_bl <| (dN [_] (hrt35 _ h))
      case g44 =>
        refine ws_nil ?_
        exact ws_nil ⟨(), ⟨_, _, _, rfl, rfl⟩, h⟩
    case g46 =>
      rintro s33 _ _ ⟨d3, d4, d5, rfl, rfl⟩ h
      replace h := finO h
      exact ws_ret <| exJQ Dat.bl (ob h) (fun _ h => exA h (fun _ h => ex_cmp <| ex_callF (ok_law_told__v3 R) (hr.mono (by decide)) R.m_law_told R.F_law_told R.b_law_told <| ea_cons <| ex_var ⟨rfl, rfl⟩ <| ea_cons <| ex_int <| ea_nil <| ⟨z5, (0 : Int), rfl, outU (ob h) (fun z47 h => ex_lst <| ea_cons <| ex_asA <| ex_str <| ⟨anyD (clR R) (Any.str ("none" : Str)), (by first | rfl | (simp only [anyD, anyDL, anyDL_map, List.map_map]; done) | (simp only [anyD, anyDL, anyDL_map, List.map_map]; rfl) | (simp only [anyD, anyDL, anyDL_map, List.map_map, stepA_comp, stepA_D]; rfl) | (simp only [anyD, anyDL, anyDL_map, List.map_map, stepA_comp, stepA_D]; done)), ea_nil ⟨ln, r_eqAL (xs := z47) (ys := ([(Any.str ("none" : Str))] : List Any)) hu (ob h) fun z48 h => ⟨rfl, z48, rfl, h⟩⟩⟩) (fun _ h => dX [_] h)⟩) (fun h => ex_and1 <| ex_cmp <| ex_callF (ok_law_told__v3 R) (hr.mono (by decide)) R.m_law_told R.F_law_told R.b_law_told <| ea_cons <| ex_var ⟨rfl, rfl⟩ <| ea_cons <| ex_bin <| ex_int <| ex_int <| o_powW (by decide +kernel) <| ea_nil <| ⟨z5, ((10 : Int) ^ Int.toNat (39 : Int)), rfl, outU (ob h) (fun z49 h => ex_lst <| ea_cons <| ex_asA <| ex_str <| ⟨anyD (clR R) (Any.str ("none" : Str)), (by first | rfl | (simp only [anyD, anyDL, anyDL_map, List.map_map]; done) | (simp only [anyD, anyDL, anyDL_map, List.map_map]; rfl) | (simp only [anyD, anyDL, anyDL_map, List.map_map, stepA_comp, stepA_D]; rfl) | (simp only [anyD, anyDL, anyDL_map, List.map_map, stepA_comp, stepA_D]; done)), ea_nil ⟨ln, r_eqAL (xs := z49) (ys := ([(Any.str ("none" : Str))] : List Any)) hu (ob h) fun z50 h => ⟨rfl, z50, rfl, h⟩⟩⟩) (fun _ h => dX [_] h)⟩)) fun z51 h => (dN [_] h)
end
end Kh

set_option Elab.async false
set_option linter.all false
set_option maxRecDepth 100000
set_option pp.maxSteps 60
set_option maxHeartbeats 2000000
namespace Kh
open PySem PySem.Spec L2
open PySem.W (Frag ksFn)
theorem all_mk {w : World} {K : Frag} {h : Heap} {mg : Str → Option Value} {fa : Addr} (X : K.In h) (G : h.Ns mainGlobals mg) (hfa : mg "law" = some (.ref fa))
    {tg_SIGNS : Tok} {C_File : Addr} {C_Step : Addr} {C_Full : Addr} {C_Keep : Addr} {C_Lean : Addr} {C_Dig : Addr} {C_Script : Addr} {f_is_whole : Addr} {od_is_whole : Option Addr} {an_is_whole : Option Addr} {sl_is_whole : Array (Option Value)} {oc_is_whole : Value} {kV_is_whole : Value} {dc_is_whole : Value} {pm_is_whole : Value} {cd_is_whole : Value} {ct_is_whole : Value} {f_check_least : Addr} {od_check_least : Option Addr} {an_check_least : Option Addr} {sl_check_least : Array (Option Value)} {oc_check_least : Value} {kV_check_least : Value} {dc_check_least : Value} {pm_check_least : Value} {cd_check_least : Value} {ct_check_least : Value} {f_divisor_of : Addr} {od_divisor_of : Option Addr} {an_divisor_of : Option Addr} {sl_divisor_of : Array (Option Value)} {oc_divisor_of : Value} {kV_divisor_of : Value} {dc_divisor_of : Value} {pm_divisor_of : Value} {cd_divisor_of : Value} {ct_divisor_of : Value} {f_multiple_of : Addr} {od_multiple_of : Option Addr} {an_multiple_of : Option Addr} {sl_multiple_of : Array (Option Value)} {oc_multiple_of : Value} {kV_multiple_of : Value} {dc_multiple_of : Value} {pm_multiple_of : Value} {cd_multiple_of : Value} {ct_multiple_of : Value} {f_are_cells : Addr} {od_are_cells : Option Addr} {an_are_cells : Option Addr} {sl_are_cells : Array (Option Value)} {oc_are_cells : Value} {kV_are_cells : Value} {dc_are_cells : Value} {pm_are_cells : Value} {cd_are_cells : Value} {ct_are_cells : Value} {f_are_steps : Addr} {od_are_steps : Option Addr} {an_are_steps : Option Addr} {sl_are_steps : Array (Option Value)} {oc_are_steps : Value} {kV_are_steps : Value} {dc_are_steps : Value} {pm_are_steps : Value} {cd_are_steps : Value} {ct_are_steps : Value} {f_check_script : Addr} {od_check_script : Option Addr} {an_check_script : Option Addr} {sl_check_script : Array (Option Value)} {oc_check_script : Value} {kV_check_script : Value} {dc_check_script : Value} {pm_check_script : Value} {cd_check_script : Value} {ct_check_script : Value} {f_holds_in : Addr} {od_holds_in : Option Addr} {an_holds_in : Option Addr} {sl_holds_in : Array (Option Value)} {oc_holds_in : Value} {kV_holds_in : Value} {dc_holds_in : Value} {pm_holds_in : Value} {cd_holds_in : Value} {ct_holds_in : Value} {f_is_held : Addr} {od_is_held : Option Addr} {an_is_held : Option Addr} {sl_is_held : Array (Option Value)} {oc_is_held : Value} {kV_is_held : Value} {dc_is_held : Value} {pm_is_held : Value} {cd_is_held : Value} {ct_is_held : Value} {f_least_of : Addr} {od_least_of : Option Addr} {an_least_of : Option Addr} {sl_least_of : Array (Option Value)} {oc_least_of : Value} {kV_least_of : Value} {dc_least_of : Value} {pm_least_of : Value} {cd_least_of : Value} {ct_least_of : Value} {f_dug : Addr} {od_dug : Option Addr} {an_dug : Option Addr} {sl_dug : Array (Option Value)} {oc_dug : Value} {kV_dug : Value} {dc_dug : Value} {pm_dug : Value} {cd_dug : Value} {ct_dug : Value} {f_behind_step : Addr} {od_behind_step : Option Addr} {an_behind_step : Option Addr} {sl_behind_step : Array (Option Value)} {oc_behind_step : Value} {kV_behind_step : Value} {dc_behind_step : Value} {pm_behind_step : Value} {cd_behind_step : Value} {ct_behind_step : Value} {f_reason_table : Addr} {od_reason_table : Option Addr} {an_reason_table : Option Addr} {sl_reason_table : Array (Option Value)} {oc_reason_table : Value} {kV_reason_table : Value} {dc_reason_table : Value} {pm_reason_table : Value} {cd_reason_table : Value} {ct_reason_table : Value} {f_cells_of : Addr} {od_cells_of : Option Addr} {an_cells_of : Option Addr} {sl_cells_of : Array (Option Value)} {oc_cells_of : Value} {kV_cells_of : Value} {dc_cells_of : Value} {pm_cells_of : Value} {cd_cells_of : Value} {ct_cells_of : Value} {f_reasons : Addr} {od_reasons : Option Addr} {an_reasons : Option Addr} {sl_reasons : Array (Option Value)} {oc_reasons : Value} {kV_reasons : Value} {dc_reasons : Value} {pm_reasons : Value} {cd_reasons : Value} {ct_reasons : Value} {f_law_purse : Addr} {od_law_purse : Option Addr} {an_law_purse : Option Addr} {sl_law_purse : Array (Option Value)} {oc_law_purse : Value} {kV_law_purse : Value} {dc_law_purse : Value} {pm_law_purse : Value} {cd_law_purse : Value} {ct_law_purse : Value} {f_law_draw : Addr} {od_law_draw : Option Addr} {an_law_draw : Option Addr} {sl_law_draw : Array (Option Value)} {oc_law_draw : Value} {kV_law_draw : Value} {dc_law_draw : Value} {pm_law_draw : Value} {cd_law_draw : Value} {ct_law_draw : Value} {f_law_steps : Addr} {od_law_steps : Option Addr} {an_law_steps : Option Addr} {sl_law_steps : Array (Option Value)} {oc_law_steps : Value} {kV_law_steps : Value} {dc_law_steps : Value} {pm_law_steps : Value} {cd_law_steps : Value} {ct_law_steps : Value} {f_law_step : Addr} {od_law_step : Option Addr} {an_law_step : Option Addr} {sl_law_step : Array (Option Value)} {oc_law_step : Value} {kV_law_step : Value} {dc_law_step : Value} {pm_law_step : Value} {cd_law_step : Value} {ct_law_step : Value} {f_law_script : Addr} {od_law_script : Option Addr} {an_law_script : Option Addr} {sl_law_script : Array (Option Value)} {oc_law_script : Value} {kV_law_script : Value} {dc_law_script : Value} {pm_law_script : Value} {cd_law_script : Value} {ct_law_script : Value} {f_law_told : Addr} {od_law_told : Option Addr} {an_law_told : Option Addr} {sl_law_told : Array (Option Value)} {oc_law_told : Value} {kV_law_told : Value} {dc_law_told : Value} {pm_law_told : Value} {cd_law_told : Value} {ct_law_told : Value} {f_law : Addr} {od_law : Option Addr} {an_law : Option Addr} {sl_law : Array (Option Value)} {oc_law : Value} {kV_law : Value} {dc_law : Value} {pm_law : Value} {cd_law : Value} {ct_law : Value} {f_File_init : Addr} {od_File_init : Option Addr} {an_File_init : Option Addr} {sl_File_init : Array (Option Value)} {oc_File_init : Value} {kV_File_init : Value} {dc_File_init : Value} {pm_File_init : Value} {cd_File_init : Value} {ct_File_init : Value} {T_File_init : Addr} {ocT_File_init : Value} {odT_File_init : Option Addr} {nT_File_init : Nat} {slT_File_init : Array (Option Value)} {tk0_File_init : Tok} {f_Keep_init : Addr} {od_Keep_init : Option Addr} {an_Keep_init : Option Addr} {sl_Keep_init : Array (Option Value)} {oc_Keep_init : Value} {kV_Keep_init : Value} {dc_Keep_init : Value} {pm_Keep_init : Value} {cd_Keep_init : Value} {ct_Keep_init : Value} {f_Keep_size : Addr} {od_Keep_size : Option Addr} {an_Keep_size : Option Addr} {sl_Keep_size : Array (Option Value)} {oc_Keep_size : Value} {kV_Keep_size : Value} {dc_Keep_size : Value} {pm_Keep_size : Value} {cd_Keep_size : Value} {ct_Keep_size : Value} {pr_Keep_size : Addr} {rs_Keep_size : List Value} {f_Lean_init : Addr} {od_Lean_init : Option Addr} {an_Lean_init : Option Addr} {sl_Lean_init : Array (Option Value)} {oc_Lean_init : Value} {kV_Lean_init : Value} {dc_Lean_init : Value} {pm_Lean_init : Value} {cd_Lean_init : Value} {ct_Lean_init : Value} {f_Lean_size : Addr} {od_Lean_size : Option Addr} {an_Lean_size : Option Addr} {sl_Lean_size : Array (Option Value)} {oc_Lean_size : Value} {kV_Lean_size : Value} {dc_Lean_size : Value} {pm_Lean_size : Value} {cd_Lean_size : Value} {ct_Lean_size : Value} {pr_Lean_size : Addr} {rs_Lean_size : List Value} {f_Dig_init : Addr} {od_Dig_init : Option Addr} {an_Dig_init : Option Addr} {sl_Dig_init : Array (Option Value)} {oc_Dig_init : Value} {kV_Dig_init : Value} {dc_Dig_init : Value} {pm_Dig_init : Value} {cd_Dig_init : Value} {ct_Dig_init : Value} {f_Dig_size : Addr} {od_Dig_size : Option Addr} {an_Dig_size : Option Addr} {sl_Dig_size : Array (Option Value)} {oc_Dig_size : Value} {kV_Dig_size : Value} {dc_Dig_size : Value} {pm_Dig_size : Value} {cd_Dig_size : Value} {ct_Dig_size : Value} {pr_Dig_size : Addr} {rs_Dig_size : List Value} {f_Script_init : Addr} {od_Script_init : Option Addr} {an_Script_init : Option Addr} {sl_Script_init : Array (Option Value)} {oc_Script_init : Value} {kV_Script_init : Value} {dc_Script_init : Value} {pm_Script_init : Value} {cd_Script_init : Value} {ct_Script_init : Value} {T_Script_init : Addr} {ocT_Script_init : Value} {odT_Script_init : Option Addr} {nT_Script_init : Nat} {slT_Script_init : Array (Option Value)} {f_Script_period : Addr} {od_Script_period : Option Addr} {an_Script_period : Option Addr} {sl_Script_period : Array (Option Value)} {oc_Script_period : Value} {kV_Script_period : Value} {dc_Script_period : Value} {pm_Script_period : Value} {cd_Script_period : Value} {ct_Script_period : Value} {pr_Script_period : Addr} {rs_Script_period : List Value} {f_Script_iter : Addr} {od_Script_iter : Option Addr} {an_Script_iter : Option Addr} {sl_Script_iter : Array (Option Value)} {oc_Script_iter : Value} {kV_Script_iter : Value} {dc_Script_iter : Value} {pm_Script_iter : Value} {cd_Script_iter : Value} {ct_Script_iter : Value} {C_InvalidFile : Addr} {C_HoleError : Addr} {nm_InvalidFile : Str} {q_InvalidFile : Str} {NN_InvalidFile : Addr} {I_InvalidFile : Addr} {cda_InvalidFile : Addr} {cc_InvalidFile : Addr} {bs_InvalidFile : List Value} {sn_InvalidFile : List Str} {sub_InvalidFile : List Value} {ab_InvalidFile : Bool} {col_InvalidFile : Option Bool} {dd_InvalidFile : Option Addr} {m0_InvalidFile : Option Value} {m1_InvalidFile : Option Value} {m2_InvalidFile : Option Value} {m3_InvalidFile : Option Value} {m5_InvalidFile : Option Value} {od_InvalidFile : Option Addr} {an_InvalidFile : Option Addr} {cdd_InvalidFile : Option Addr} {cld_InvalidFile : Option Addr} {sl_InvalidFile : Array (Option Value)} {ccs_InvalidFile : Array (Option Value)} {csl_InvalidFile : Array (Option Value)} {oc_InvalidFile : Value} {ocT_InvalidFile : Value} {kV_InvalidFile : Value} {dc_InvalidFile : Value} {pm_InvalidFile : Value} {ct_InvalidFile : Value} {ccl_InvalidFile : Value} {cl_InvalidFile : Value} {T_InvalidFile : Addr} {odT_InvalidFile : Option Addr} {nT_InvalidFile : Nat} {slT_InvalidFile : Array (Option Value)} {vs_InvalidFile : Array Value} {file_InvalidFile : Str} {tf_InvalidFile : Tok} {C_InvalidNumber : Addr} {nm_InvalidNumber : Str} {q_InvalidNumber : Str} {NN_InvalidNumber : Addr} {I_InvalidNumber : Addr} {cda_InvalidNumber : Addr} {cc_InvalidNumber : Addr} {bs_InvalidNumber : List Value} {sn_InvalidNumber : List Str} {sub_InvalidNumber : List Value} {ab_InvalidNumber : Bool} {col_InvalidNumber : Option Bool} {dd_InvalidNumber : Option Addr} {m0_InvalidNumber : Option Value} {m1_InvalidNumber : Option Value} {m2_InvalidNumber : Option Value} {m3_InvalidNumber : Option Value} {m5_InvalidNumber : Option Value} {od_InvalidNumber : Option Addr} {an_InvalidNumber : Option Addr} {cdd_InvalidNumber : Option Addr} {cld_InvalidNumber : Option Addr} {sl_InvalidNumber : Array (Option Value)} {ccs_InvalidNumber : Array (Option Value)} {csl_InvalidNumber : Array (Option Value)} {oc_InvalidNumber : Value} {ocT_InvalidNumber : Value} {kV_InvalidNumber : Value} {dc_InvalidNumber : Value} {pm_InvalidNumber : Value} {ct_InvalidNumber : Value} {ccl_InvalidNumber : Value} {cl_InvalidNumber : Value} {T_InvalidNumber : Addr} {odT_InvalidNumber : Option Addr} {nT_InvalidNumber : Nat} {slT_InvalidNumber : Array (Option Value)} {vs_InvalidNumber : Array Value} {file_InvalidNumber : Str} {tf_InvalidNumber : Tok} {C_InvalidScript : Addr} {nm_InvalidScript : Str} {q_InvalidScript : Str} {NN_InvalidScript : Addr} {I_InvalidScript : Addr} {cda_InvalidScript : Addr} {cc_InvalidScript : Addr} {bs_InvalidScript : List Value} {sn_InvalidScript : List Str} {sub_InvalidScript : List Value} {ab_InvalidScript : Bool} {col_InvalidScript : Option Bool} {dd_InvalidScript : Option Addr} {m0_InvalidScript : Option Value} {m1_InvalidScript : Option Value} {m2_InvalidScript : Option Value} {m3_InvalidScript : Option Value} {m5_InvalidScript : Option Value} {od_InvalidScript : Option Addr} {an_InvalidScript : Option Addr} {cdd_InvalidScript : Option Addr} {cld_InvalidScript : Option Addr} {sl_InvalidScript : Array (Option Value)} {ccs_InvalidScript : Array (Option Value)} {csl_InvalidScript : Array (Option Value)} {oc_InvalidScript : Value} {ocT_InvalidScript : Value} {kV_InvalidScript : Value} {dc_InvalidScript : Value} {pm_InvalidScript : Value} {ct_InvalidScript : Value} {ccl_InvalidScript : Value} {cl_InvalidScript : Value} {T_InvalidScript : Addr} {odT_InvalidScript : Option Addr} {nT_InvalidScript : Nat} {slT_InvalidScript : Array (Option Value)} {vs_InvalidScript : Array Value} {file_InvalidScript : Str} {tf_InvalidScript : Tok}
    (z_bool : PySem.W.nsIn K mainGlobals "bool" = some none)
    (z_int : PySem.W.nsIn K mainGlobals "int" = some none)
    (z_isinstance : PySem.W.nsIn K mainGlobals "isinstance" = some none)
    (z_iter : PySem.W.nsIn K mainGlobals "iter" = some none)
    (z_len : PySem.W.nsIn K mainGlobals "len" = some none)
    (z_list : PySem.W.nsIn K mainGlobals "list" = some none)
    (z_range : PySem.W.nsIn K mainGlobals "range" = some none)
    (z_set : PySem.W.nsIn K mainGlobals "set" = some none)
    (z_sorted : PySem.W.nsIn K mainGlobals "sorted" = some none)
    (z_str : PySem.W.nsIn K mainGlobals "str" = some none)
    (z_sum : PySem.W.nsIn K mainGlobals "sum" = some none)
    (z_super : PySem.W.nsIn K mainGlobals "super" = some none)
    (z_tuple : PySem.W.nsIn K mainGlobals "tuple" = some none)
    (g_SIGNS : PySem.W.nsIn K mainGlobals "SIGNS" = some (some (.str "abcdefghijklmnopqrstuvwxyz" tg_SIGNS)))
    (ac_File : PySem.W.nsIn K mainGlobals "File" = some (some (.ref C_File)))
    (ac_Step : PySem.W.nsIn K mainGlobals "Step" = some (some (.ref C_Step)))
    (ac_Full : PySem.W.nsIn K mainGlobals "Full" = some (some (.ref C_Full)))
    (ac_Keep : PySem.W.nsIn K mainGlobals "Keep" = some (some (.ref C_Keep)))
    (ac_Lean : PySem.W.nsIn K mainGlobals "Lean" = some (some (.ref C_Lean)))
    (ac_Dig : PySem.W.nsIn K mainGlobals "Dig" = some (some (.ref C_Dig)))
    (ac_Script : PySem.W.nsIn K mainGlobals "Script" = some (some (.ref C_Script)))
    (a_is_whole : PySem.W.nsIn K mainGlobals "is_whole" = some (some (.ref f_is_whole)))
    (l_is_whole : K.lookup f_is_whole = some ⟨oc_is_whole, od_is_whole, .func (PySem.W.fnOf "is_whole" "is_whole" (defArgs s_is_whole) (defBody s_is_whole) (defScope s_is_whole) .none kV_is_whole dc_is_whole pm_is_whole an_is_whole cd_is_whole ct_is_whole), sl_is_whole⟩)
    (c_is_whole : PySem.W.codeIn K cd_is_whole "is_whole" = true)
    (k_is_whole : PySem.W.keepIn K (.ref f_is_whole) = true)
    (a_check_least : PySem.W.nsIn K mainGlobals "check_least" = some (some (.ref f_check_least)))
    (l_check_least : K.lookup f_check_least = some ⟨oc_check_least, od_check_least, .func (PySem.W.fnOf "check_least" "check_least" (defArgs s_check_least) (defBody s_check_least) (defScope s_check_least) .none kV_check_least dc_check_least pm_check_least an_check_least cd_check_least ct_check_least), sl_check_least⟩)
    (c_check_least : PySem.W.codeIn K cd_check_least "check_least" = true)
    (k_check_least : PySem.W.keepIn K (.ref f_check_least) = true)
    (a_divisor_of : PySem.W.nsIn K mainGlobals "divisor_of" = some (some (.ref f_divisor_of)))
    (l_divisor_of : K.lookup f_divisor_of = some ⟨oc_divisor_of, od_divisor_of, .func (PySem.W.fnOf "divisor_of" "divisor_of" (defArgs s_divisor_of) (defBody s_divisor_of) (defScope s_divisor_of) .none kV_divisor_of dc_divisor_of pm_divisor_of an_divisor_of cd_divisor_of ct_divisor_of), sl_divisor_of⟩)
    (c_divisor_of : PySem.W.codeIn K cd_divisor_of "divisor_of" = true)
    (k_divisor_of : PySem.W.keepIn K (.ref f_divisor_of) = true)
    (a_multiple_of : PySem.W.nsIn K mainGlobals "multiple_of" = some (some (.ref f_multiple_of)))
    (l_multiple_of : K.lookup f_multiple_of = some ⟨oc_multiple_of, od_multiple_of, .func (PySem.W.fnOf "multiple_of" "multiple_of" (defArgs s_multiple_of) (defBody s_multiple_of) (defScope s_multiple_of) .none kV_multiple_of dc_multiple_of pm_multiple_of an_multiple_of cd_multiple_of ct_multiple_of), sl_multiple_of⟩)
    (c_multiple_of : PySem.W.codeIn K cd_multiple_of "multiple_of" = true)
    (k_multiple_of : PySem.W.keepIn K (.ref f_multiple_of) = true)
    (a_are_cells : PySem.W.nsIn K mainGlobals "are_cells" = some (some (.ref f_are_cells)))
    (l_are_cells : K.lookup f_are_cells = some ⟨oc_are_cells, od_are_cells, .func (PySem.W.fnOf "are_cells" "are_cells" (defArgs s_are_cells) (defBody s_are_cells) (defScope s_are_cells) .none kV_are_cells dc_are_cells pm_are_cells an_are_cells cd_are_cells ct_are_cells), sl_are_cells⟩)
    (c_are_cells : PySem.W.codeIn K cd_are_cells "are_cells" = true)
    (k_are_cells : PySem.W.keepIn K (.ref f_are_cells) = true)
    (a_are_steps : PySem.W.nsIn K mainGlobals "are_steps" = some (some (.ref f_are_steps)))
    (l_are_steps : K.lookup f_are_steps = some ⟨oc_are_steps, od_are_steps, .func (PySem.W.fnOf "are_steps" "are_steps" (defArgs s_are_steps) (defBody s_are_steps) (defScope s_are_steps) .none kV_are_steps dc_are_steps pm_are_steps an_are_steps cd_are_steps ct_are_steps), sl_are_steps⟩)
    (c_are_steps : PySem.W.codeIn K cd_are_steps "are_steps" = true)
    (k_are_steps : PySem.W.keepIn K (.ref f_are_steps) = true)
    (a_check_script : PySem.W.nsIn K mainGlobals "check_script" = some (some (.ref f_check_script)))
    (l_check_script : K.lookup f_check_script = some ⟨oc_check_script, od_check_script, .func (PySem.W.fnOf "check_script" "check_script" (defArgs s_check_script) (defBody s_check_script) (defScope s_check_script) .none kV_check_script dc_check_script pm_check_script an_check_script cd_check_script ct_check_script), sl_check_script⟩)
    (c_check_script : PySem.W.codeIn K cd_check_script "check_script" = true)
    (k_check_script : PySem.W.keepIn K (.ref f_check_script) = true)
    (a_holds_in : PySem.W.nsIn K mainGlobals "holds_in" = some (some (.ref f_holds_in)))
    (l_holds_in : K.lookup f_holds_in = some ⟨oc_holds_in, od_holds_in, .func (PySem.W.fnOf "holds_in" "holds_in" (defArgs s_holds_in) (defBody s_holds_in) (defScope s_holds_in) .none kV_holds_in dc_holds_in pm_holds_in an_holds_in cd_holds_in ct_holds_in), sl_holds_in⟩)
    (c_holds_in : PySem.W.codeIn K cd_holds_in "holds_in" = true)
    (k_holds_in : PySem.W.keepIn K (.ref f_holds_in) = true)
    (a_is_held : PySem.W.nsIn K mainGlobals "is_held" = some (some (.ref f_is_held)))
    (l_is_held : K.lookup f_is_held = some ⟨oc_is_held, od_is_held, .func (PySem.W.fnOf "is_held" "is_held" (defArgs s_is_held) (defBody s_is_held) (defScope s_is_held) .none kV_is_held dc_is_held pm_is_held an_is_held cd_is_held ct_is_held), sl_is_held⟩)
    (c_is_held : PySem.W.codeIn K cd_is_held "is_held" = true)
    (k_is_held : PySem.W.keepIn K (.ref f_is_held) = true)
    (a_least_of : PySem.W.nsIn K mainGlobals "least_of" = some (some (.ref f_least_of)))
    (l_least_of : K.lookup f_least_of = some ⟨oc_least_of, od_least_of, .func (PySem.W.fnOf "least_of" "least_of" (defArgs s_least_of) (defBody s_least_of) (defScope s_least_of) .none kV_least_of dc_least_of pm_least_of an_least_of cd_least_of ct_least_of), sl_least_of⟩)
    (c_least_of : PySem.W.codeIn K cd_least_of "least_of" = true)
    (k_least_of : PySem.W.keepIn K (.ref f_least_of) = true)
    (a_dug : PySem.W.nsIn K mainGlobals "dug" = some (some (.ref f_dug)))
    (l_dug : K.lookup f_dug = some ⟨oc_dug, od_dug, .func (PySem.W.fnOf "dug" "dug" (defArgs s_dug) (defBody s_dug) (defScope s_dug) .none kV_dug dc_dug pm_dug an_dug cd_dug ct_dug), sl_dug⟩)
    (c_dug : PySem.W.codeIn K cd_dug "dug" = true)
    (k_dug : PySem.W.keepIn K (.ref f_dug) = true)
    (a_behind_step : PySem.W.nsIn K mainGlobals "behind_step" = some (some (.ref f_behind_step)))
    (l_behind_step : K.lookup f_behind_step = some ⟨oc_behind_step, od_behind_step, .func (PySem.W.fnOf "behind_step" "behind_step" (defArgs s_behind_step) (defBody s_behind_step) (defScope s_behind_step) .none kV_behind_step dc_behind_step pm_behind_step an_behind_step cd_behind_step ct_behind_step), sl_behind_step⟩)
    (c_behind_step : PySem.W.codeIn K cd_behind_step "behind_step" = true)
    (k_behind_step : PySem.W.keepIn K (.ref f_behind_step) = true)
    (a_reason_table : PySem.W.nsIn K mainGlobals "reason_table" = some (some (.ref f_reason_table)))
    (l_reason_table : K.lookup f_reason_table = some ⟨oc_reason_table, od_reason_table, .func (PySem.W.fnOf "reason_table" "reason_table" (defArgs s_reason_table) (defBody s_reason_table) (defScope s_reason_table) .none kV_reason_table dc_reason_table pm_reason_table an_reason_table cd_reason_table ct_reason_table), sl_reason_table⟩)
    (c_reason_table : PySem.W.codeIn K cd_reason_table "reason_table" = true)
    (k_reason_table : PySem.W.keepIn K (.ref f_reason_table) = true)
    (a_cells_of : PySem.W.nsIn K mainGlobals "cells_of" = some (some (.ref f_cells_of)))
    (l_cells_of : K.lookup f_cells_of = some ⟨oc_cells_of, od_cells_of, .func (PySem.W.fnOf "cells_of" "cells_of" (defArgs s_cells_of) (defBody s_cells_of) (defScope s_cells_of) .none kV_cells_of dc_cells_of pm_cells_of an_cells_of cd_cells_of ct_cells_of), sl_cells_of⟩)
    (c_cells_of : PySem.W.codeIn K cd_cells_of "cells_of" = true)
    (k_cells_of : PySem.W.keepIn K (.ref f_cells_of) = true)
    (a_reasons : PySem.W.nsIn K mainGlobals "reasons" = some (some (.ref f_reasons)))
    (l_reasons : K.lookup f_reasons = some ⟨oc_reasons, od_reasons, .func (PySem.W.fnOf "reasons" "reasons" (defArgs s_reasons) (defBody s_reasons) (defScope s_reasons) .none kV_reasons dc_reasons pm_reasons an_reasons cd_reasons ct_reasons), sl_reasons⟩)
    (c_reasons : PySem.W.codeIn K cd_reasons "reasons" = true)
    (k_reasons : PySem.W.keepIn K (.ref f_reasons) = true)
    (a_law_purse : PySem.W.nsIn K mainGlobals "_law_purse" = some (some (.ref f_law_purse)))
    (l_law_purse : K.lookup f_law_purse = some ⟨oc_law_purse, od_law_purse, .func (PySem.W.fnOf "_law_purse" "_law_purse" (defArgs s_law_purse) (defBody s_law_purse) (defScope s_law_purse) .none kV_law_purse dc_law_purse pm_law_purse an_law_purse cd_law_purse ct_law_purse), sl_law_purse⟩)
    (c_law_purse : PySem.W.codeIn K cd_law_purse "_law_purse" = true)
    (k_law_purse : PySem.W.keepIn K (.ref f_law_purse) = true)
    (a_law_draw : PySem.W.nsIn K mainGlobals "_law_draw" = some (some (.ref f_law_draw)))
    (l_law_draw : K.lookup f_law_draw = some ⟨oc_law_draw, od_law_draw, .func (PySem.W.fnOf "_law_draw" "_law_draw" (defArgs s_law_draw) (defBody s_law_draw) (defScope s_law_draw) .none kV_law_draw dc_law_draw pm_law_draw an_law_draw cd_law_draw ct_law_draw), sl_law_draw⟩)
    (c_law_draw : PySem.W.codeIn K cd_law_draw "_law_draw" = true)
    (k_law_draw : PySem.W.keepIn K (.ref f_law_draw) = true)
    (a_law_steps : PySem.W.nsIn K mainGlobals "_law_steps" = some (some (.ref f_law_steps)))
    (l_law_steps : K.lookup f_law_steps = some ⟨oc_law_steps, od_law_steps, .func (PySem.W.fnOf "_law_steps" "_law_steps" (defArgs s_law_steps) (defBody s_law_steps) (defScope s_law_steps) .none kV_law_steps dc_law_steps pm_law_steps an_law_steps cd_law_steps ct_law_steps), sl_law_steps⟩)
    (c_law_steps : PySem.W.codeIn K cd_law_steps "_law_steps" = true)
    (k_law_steps : PySem.W.keepIn K (.ref f_law_steps) = true)
    (a_law_step : PySem.W.nsIn K mainGlobals "_law_step" = some (some (.ref f_law_step)))
    (l_law_step : K.lookup f_law_step = some ⟨oc_law_step, od_law_step, .func (PySem.W.fnOf "_law_step" "_law_step" (defArgs s_law_step) (defBody s_law_step) (defScope s_law_step) .none kV_law_step dc_law_step pm_law_step an_law_step cd_law_step ct_law_step), sl_law_step⟩)
    (c_law_step : PySem.W.codeIn K cd_law_step "_law_step" = true)
    (k_law_step : PySem.W.keepIn K (.ref f_law_step) = true)
    (a_law_script : PySem.W.nsIn K mainGlobals "_law_script" = some (some (.ref f_law_script)))
    (l_law_script : K.lookup f_law_script = some ⟨oc_law_script, od_law_script, .func (PySem.W.fnOf "_law_script" "_law_script" (defArgs s_law_script) (defBody s_law_script) (defScope s_law_script) .none kV_law_script dc_law_script pm_law_script an_law_script cd_law_script ct_law_script), sl_law_script⟩)
    (c_law_script : PySem.W.codeIn K cd_law_script "_law_script" = true)
    (k_law_script : PySem.W.keepIn K (.ref f_law_script) = true)
    (a_law_told : PySem.W.nsIn K mainGlobals "_law_told" = some (some (.ref f_law_told)))
    (l_law_told : K.lookup f_law_told = some ⟨oc_law_told, od_law_told, .func (PySem.W.fnOf "_law_told" "_law_told" (defArgs s_law_told) (defBody s_law_told) (defScope s_law_told) .none kV_law_told dc_law_told pm_law_told an_law_told cd_law_told ct_law_told), sl_law_told⟩)
    (c_law_told : PySem.W.codeIn K cd_law_told "_law_told" = true)
    (k_law_told : PySem.W.keepIn K (.ref f_law_told) = true)
    (a_law : PySem.W.nsIn K mainGlobals "law" = some (some (.ref f_law)))
    (l_law : K.lookup f_law = some ⟨oc_law, od_law, .func (PySem.W.fnOf "law" "law" (defArgs s_law) (defBody s_law) (defScope s_law) .none kV_law dc_law pm_law an_law cd_law ct_law), sl_law⟩)
    (c_law : PySem.W.codeIn K cd_law "law" = true)
    (k_law : PySem.W.keepIn K (.ref f_law) = true)
    (a_File_init : PySem.W.findIn K (.ref C_File) "__init__" = some (some (.ref f_File_init)))
    (i_File_init : PySem.W.isFn K (.ref f_File_init) = true)
    (l_File_init : K.lookup f_File_init = some ⟨oc_File_init, od_File_init, .func (PySem.W.fnOf "__init__" "File.__init__" (defArgs s_File_init) (defBody s_File_init) (defScope s_File_init) (.ref T_File_init) kV_File_init dc_File_init pm_File_init an_File_init cd_File_init ct_File_init), sl_File_init⟩)
    (c_File_init : PySem.W.codeIn K cd_File_init "File.__init__" = true)
    (k_File_init : PySem.W.keepIn K (.ref f_File_init) = true)
    (ld_File_init : K.lookup T_File_init = some ⟨ocT_File_init, odT_File_init, .seq #[(.str "" tk0_File_init)] nT_File_init, slT_File_init⟩)
    (a_Keep_init : PySem.W.findIn K (.ref C_Keep) "__init__" = some (some (.ref f_Keep_init)))
    (i_Keep_init : PySem.W.isFn K (.ref f_Keep_init) = true)
    (l_Keep_init : K.lookup f_Keep_init = some ⟨oc_Keep_init, od_Keep_init, .func (PySem.W.fnOf "__init__" "Keep.__init__" (defArgs s_Keep_init) (defBody s_Keep_init) (defScope s_Keep_init) .none kV_Keep_init dc_Keep_init pm_Keep_init an_Keep_init cd_Keep_init ct_Keep_init), sl_Keep_init⟩)
    (c_Keep_init : PySem.W.codeIn K cd_Keep_init "Keep.__init__" = true)
    (k_Keep_init : PySem.W.keepIn K (.ref f_Keep_init) = true)
    (pa_Keep_size : PySem.W.findIn K (.ref C_Keep) "size" = some (some (.ref pr_Keep_size)))
    (pb_Keep_size : PySem.W.specialIn K (.ref pr_Keep_size) "__get__" = some (some (.builtin "property.__get__")))
    (pc_Keep_size : PySem.W.takesIn K (.ref pr_Keep_size) = some true)
    (pd_Keep_size : PySem.W.recIn K pr_Keep_size "property" = some (.ref f_Keep_size :: rs_Keep_size))
    (l_Keep_size : K.lookup f_Keep_size = some ⟨oc_Keep_size, od_Keep_size, .func (PySem.W.fnOf "size" "Keep.size" (defArgs s_Keep_size) (defBody s_Keep_size) (defScope s_Keep_size) .none kV_Keep_size dc_Keep_size pm_Keep_size an_Keep_size cd_Keep_size ct_Keep_size), sl_Keep_size⟩)
    (c_Keep_size : PySem.W.codeIn K cd_Keep_size "Keep.size" = true)
    (k_Keep_size : PySem.W.keepIn K (.ref f_Keep_size) = true)
    (a_Lean_init : PySem.W.findIn K (.ref C_Lean) "__init__" = some (some (.ref f_Lean_init)))
    (i_Lean_init : PySem.W.isFn K (.ref f_Lean_init) = true)
    (l_Lean_init : K.lookup f_Lean_init = some ⟨oc_Lean_init, od_Lean_init, .func (PySem.W.fnOf "__init__" "Lean.__init__" (defArgs s_Lean_init) (defBody s_Lean_init) (defScope s_Lean_init) .none kV_Lean_init dc_Lean_init pm_Lean_init an_Lean_init cd_Lean_init ct_Lean_init), sl_Lean_init⟩)
    (c_Lean_init : PySem.W.codeIn K cd_Lean_init "Lean.__init__" = true)
    (k_Lean_init : PySem.W.keepIn K (.ref f_Lean_init) = true)
    (pa_Lean_size : PySem.W.findIn K (.ref C_Lean) "size" = some (some (.ref pr_Lean_size)))
    (pb_Lean_size : PySem.W.specialIn K (.ref pr_Lean_size) "__get__" = some (some (.builtin "property.__get__")))
    (pc_Lean_size : PySem.W.takesIn K (.ref pr_Lean_size) = some true)
    (pd_Lean_size : PySem.W.recIn K pr_Lean_size "property" = some (.ref f_Lean_size :: rs_Lean_size))
    (l_Lean_size : K.lookup f_Lean_size = some ⟨oc_Lean_size, od_Lean_size, .func (PySem.W.fnOf "size" "Lean.size" (defArgs s_Lean_size) (defBody s_Lean_size) (defScope s_Lean_size) .none kV_Lean_size dc_Lean_size pm_Lean_size an_Lean_size cd_Lean_size ct_Lean_size), sl_Lean_size⟩)
    (c_Lean_size : PySem.W.codeIn K cd_Lean_size "Lean.size" = true)
    (k_Lean_size : PySem.W.keepIn K (.ref f_Lean_size) = true)
    (a_Dig_init : PySem.W.findIn K (.ref C_Dig) "__init__" = some (some (.ref f_Dig_init)))
    (i_Dig_init : PySem.W.isFn K (.ref f_Dig_init) = true)
    (l_Dig_init : K.lookup f_Dig_init = some ⟨oc_Dig_init, od_Dig_init, .func (PySem.W.fnOf "__init__" "Dig.__init__" (defArgs s_Dig_init) (defBody s_Dig_init) (defScope s_Dig_init) .none kV_Dig_init dc_Dig_init pm_Dig_init an_Dig_init cd_Dig_init ct_Dig_init), sl_Dig_init⟩)
    (c_Dig_init : PySem.W.codeIn K cd_Dig_init "Dig.__init__" = true)
    (k_Dig_init : PySem.W.keepIn K (.ref f_Dig_init) = true)
    (pa_Dig_size : PySem.W.findIn K (.ref C_Dig) "size" = some (some (.ref pr_Dig_size)))
    (pb_Dig_size : PySem.W.specialIn K (.ref pr_Dig_size) "__get__" = some (some (.builtin "property.__get__")))
    (pc_Dig_size : PySem.W.takesIn K (.ref pr_Dig_size) = some true)
    (pd_Dig_size : PySem.W.recIn K pr_Dig_size "property" = some (.ref f_Dig_size :: rs_Dig_size))
    (l_Dig_size : K.lookup f_Dig_size = some ⟨oc_Dig_size, od_Dig_size, .func (PySem.W.fnOf "size" "Dig.size" (defArgs s_Dig_size) (defBody s_Dig_size) (defScope s_Dig_size) .none kV_Dig_size dc_Dig_size pm_Dig_size an_Dig_size cd_Dig_size ct_Dig_size), sl_Dig_size⟩)
    (c_Dig_size : PySem.W.codeIn K cd_Dig_size "Dig.size" = true)
    (k_Dig_size : PySem.W.keepIn K (.ref f_Dig_size) = true)
    (a_Script_init : PySem.W.findIn K (.ref C_Script) "__init__" = some (some (.ref f_Script_init)))
    (i_Script_init : PySem.W.isFn K (.ref f_Script_init) = true)
    (l_Script_init : K.lookup f_Script_init = some ⟨oc_Script_init, od_Script_init, .func (PySem.W.fnOf "__init__" "Script.__init__" (defArgs s_Script_init) (defBody s_Script_init) (defScope s_Script_init) (.ref T_Script_init) kV_Script_init dc_Script_init pm_Script_init an_Script_init cd_Script_init ct_Script_init), sl_Script_init⟩)
    (c_Script_init : PySem.W.codeIn K cd_Script_init "Script.__init__" = true)
    (k_Script_init : PySem.W.keepIn K (.ref f_Script_init) = true)
    (ld_Script_init : K.lookup T_Script_init = some ⟨ocT_Script_init, odT_Script_init, .seq #[.none] nT_Script_init, slT_Script_init⟩)
    (pa_Script_period : PySem.W.findIn K (.ref C_Script) "period" = some (some (.ref pr_Script_period)))
    (pb_Script_period : PySem.W.specialIn K (.ref pr_Script_period) "__get__" = some (some (.builtin "property.__get__")))
    (pc_Script_period : PySem.W.takesIn K (.ref pr_Script_period) = some true)
    (pd_Script_period : PySem.W.recIn K pr_Script_period "property" = some (.ref f_Script_period :: rs_Script_period))
    (l_Script_period : K.lookup f_Script_period = some ⟨oc_Script_period, od_Script_period, .func (PySem.W.fnOf "period" "Script.period" (defArgs s_Script_period) (defBody s_Script_period) (defScope s_Script_period) .none kV_Script_period dc_Script_period pm_Script_period an_Script_period cd_Script_period ct_Script_period), sl_Script_period⟩)
    (c_Script_period : PySem.W.codeIn K cd_Script_period "Script.period" = true)
    (k_Script_period : PySem.W.keepIn K (.ref f_Script_period) = true)
    (a_Script_iter : PySem.W.findIn K (.ref C_Script) "__iter__" = some (some (.ref f_Script_iter)))
    (i_Script_iter : PySem.W.isFn K (.ref f_Script_iter) = true)
    (l_Script_iter : K.lookup f_Script_iter = some ⟨oc_Script_iter, od_Script_iter, .func (PySem.W.fnOf "__iter__" "Script.__iter__" (defArgs s_Script_iter) (defBody s_Script_iter) (defScope s_Script_iter) .none kV_Script_iter dc_Script_iter pm_Script_iter an_Script_iter cd_Script_iter ct_Script_iter), sl_Script_iter⟩)
    (c_Script_iter : PySem.W.codeIn K cd_Script_iter "Script.__iter__" = true)
    (k_Script_iter : PySem.W.keepIn K (.ref f_Script_iter) = true)
    (ohn : PySem.W.specialIn K (.builtin "object.__class__") "__get__" = some (some (.builtin "getset_descriptor.__get__")))
    (otk : PySem.W.takesIn K (.builtin "object.__class__") = some true)
    (pg_File : PySem.W.plainGet K C_File Str.empty = true)
    (hd_File : PySem.W.hasDictIn K C_File = true)
    (po_File : PySem.W.plainOver K C_File = true)
    (sa_File : PySem.W.findIn K (.ref C_File) "__setattr__" = some (some (.builtin "object.__setattr__")))
    (ha_File : PySem.W.findIn K (.ref C_File) "__class__" = some (some (.builtin "object.__class__")))
    (mr_File : PySem.W.mroIn K C_File (.type "object") = some true)
    (ms_File : PySem.W.mroIn K C_File (.ref C_File) = some true)
    (mk_File : PySem.W.makesIn K C_File = true)
    (kc_File : PySem.W.keepIn K (.ref C_File) = true)
    (na_File_row : PySem.W.findIn K (.ref C_File) "row" = some none)
    (pg_Full : PySem.W.plainGet K C_Full Str.empty = true)
    (hd_Full : PySem.W.hasDictIn K C_Full = true)
    (po_Full : PySem.W.plainOver K C_Full = true)
    (sa_Full : PySem.W.findIn K (.ref C_Full) "__setattr__" = some (some (.builtin "object.__setattr__")))
    (ha_Full : PySem.W.findIn K (.ref C_Full) "__class__" = some (some (.builtin "object.__class__")))
    (mr_Full : PySem.W.mroIn K C_Full (.type "object") = some true)
    (ms_Full : PySem.W.mroIn K C_Full (.ref C_Full) = some true)
    (mk_Full : PySem.W.makesIn K C_Full = true)
    (kc_Full : PySem.W.keepIn K (.ref C_Full) = true)
    (ii_Full : PySem.W.findIn K (.ref C_Full) "__init__" = some (some (.builtin "object.__init__")))
    (pg_Keep : PySem.W.plainGet K C_Keep Str.empty = true)
    (hd_Keep : PySem.W.hasDictIn K C_Keep = true)
    (po_Keep : PySem.W.plainOver K C_Keep = true)
    (sa_Keep : PySem.W.findIn K (.ref C_Keep) "__setattr__" = some (some (.builtin "object.__setattr__")))
    (ha_Keep : PySem.W.findIn K (.ref C_Keep) "__class__" = some (some (.builtin "object.__class__")))
    (mr_Keep : PySem.W.mroIn K C_Keep (.type "object") = some true)
    (ms_Keep : PySem.W.mroIn K C_Keep (.ref C_Keep) = some true)
    (mk_Keep : PySem.W.makesIn K C_Keep = true)
    (kc_Keep : PySem.W.keepIn K (.ref C_Keep) = true)
    (na_Keep_wide : PySem.W.findIn K (.ref C_Keep) "wide" = some none)
    (pg_Lean : PySem.W.plainGet K C_Lean Str.empty = true)
    (hd_Lean : PySem.W.hasDictIn K C_Lean = true)
    (po_Lean : PySem.W.plainOver K C_Lean = true)
    (sa_Lean : PySem.W.findIn K (.ref C_Lean) "__setattr__" = some (some (.builtin "object.__setattr__")))
    (ha_Lean : PySem.W.findIn K (.ref C_Lean) "__class__" = some (some (.builtin "object.__class__")))
    (mr_Lean : PySem.W.mroIn K C_Lean (.type "object") = some true)
    (ms_Lean : PySem.W.mroIn K C_Lean (.ref C_Lean) = some true)
    (mk_Lean : PySem.W.makesIn K C_Lean = true)
    (kc_Lean : PySem.W.keepIn K (.ref C_Lean) = true)
    (na_Lean_wide : PySem.W.findIn K (.ref C_Lean) "wide" = some none)
    (pg_Dig : PySem.W.plainGet K C_Dig Str.empty = true)
    (hd_Dig : PySem.W.hasDictIn K C_Dig = true)
    (po_Dig : PySem.W.plainOver K C_Dig = true)
    (sa_Dig : PySem.W.findIn K (.ref C_Dig) "__setattr__" = some (some (.builtin "object.__setattr__")))
    (ha_Dig : PySem.W.findIn K (.ref C_Dig) "__class__" = some (some (.builtin "object.__class__")))
    (mr_Dig : PySem.W.mroIn K C_Dig (.type "object") = some true)
    (ms_Dig : PySem.W.mroIn K C_Dig (.ref C_Dig) = some true)
    (mk_Dig : PySem.W.makesIn K C_Dig = true)
    (kc_Dig : PySem.W.keepIn K (.ref C_Dig) = true)
    (na_Dig_wide : PySem.W.findIn K (.ref C_Dig) "wide" = some none)
    (pg_Script : PySem.W.plainGet K C_Script Str.empty = true)
    (hd_Script : PySem.W.hasDictIn K C_Script = true)
    (po_Script : PySem.W.plainOver K C_Script = true)
    (sa_Script : PySem.W.findIn K (.ref C_Script) "__setattr__" = some (some (.builtin "object.__setattr__")))
    (ha_Script : PySem.W.findIn K (.ref C_Script) "__class__" = some (some (.builtin "object.__class__")))
    (mr_Script : PySem.W.mroIn K C_Script (.type "object") = some true)
    (mk_Script : PySem.W.makesIn K C_Script = true)
    (kc_Script : PySem.W.keepIn K (.ref C_Script) = true)
    (na_Script_rows : PySem.W.findIn K (.ref C_Script) "rows" = some none)
    (ic_Dig : PySem.W.isClsIn K C_Dig = true)
    (tc_Dig : PySem.W.typeIn K (.ref C_Dig) = some (.type "type"))
    (ic_Full : PySem.W.isClsIn K C_Full = true)
    (tc_Full : PySem.W.typeIn K (.ref C_Full) = some (.type "type"))
    (ic_Keep : PySem.W.isClsIn K C_Keep = true)
    (tc_Keep : PySem.W.typeIn K (.ref C_Keep) = some (.type "type"))
    (ic_Lean : PySem.W.isClsIn K C_Lean = true)
    (tc_Lean : PySem.W.typeIn K (.ref C_Lean) = some (.type "type"))
    (ic_Script : PySem.W.isClsIn K C_Script = true)
    (tc_Script : PySem.W.typeIn K (.ref C_Script) = some (.type "type"))
    (ic_Step : PySem.W.isClsIn K C_Step = true)
    (tc_Step : PySem.W.typeIn K (.ref C_Step) = some (.type "type"))
    (s_File_Script : PySem.W.subIn K (.ref C_File) (.ref C_Script) = some false)
    (s_File_bool : PySem.W.subIn K (.ref C_File) (.type "bool") = some false)
    (s_File_int : PySem.W.subIn K (.ref C_File) (.type "int") = some false)
    (s_Full_Dig : PySem.W.subIn K (.ref C_Full) (.ref C_Dig) = some false)
    (s_Full_Keep : PySem.W.subIn K (.ref C_Full) (.ref C_Keep) = some false)
    (s_Full_Lean : PySem.W.subIn K (.ref C_Full) (.ref C_Lean) = some false)
    (s_Full_Script : PySem.W.subIn K (.ref C_Full) (.ref C_Script) = some false)
    (s_Full_Step : PySem.W.subIn K (.ref C_Full) (.ref C_Step) = some true)
    (s_Full_bool : PySem.W.subIn K (.ref C_Full) (.type "bool") = some false)
    (s_Full_int : PySem.W.subIn K (.ref C_Full) (.type "int") = some false)
    (s_Keep_Dig : PySem.W.subIn K (.ref C_Keep) (.ref C_Dig) = some false)
    (s_Keep_Full : PySem.W.subIn K (.ref C_Keep) (.ref C_Full) = some false)
    (s_Keep_Lean : PySem.W.subIn K (.ref C_Keep) (.ref C_Lean) = some false)
    (s_Keep_Script : PySem.W.subIn K (.ref C_Keep) (.ref C_Script) = some false)
    (s_Keep_Step : PySem.W.subIn K (.ref C_Keep) (.ref C_Step) = some true)
    (s_Keep_bool : PySem.W.subIn K (.ref C_Keep) (.type "bool") = some false)
    (s_Keep_int : PySem.W.subIn K (.ref C_Keep) (.type "int") = some false)
    (s_Lean_Dig : PySem.W.subIn K (.ref C_Lean) (.ref C_Dig) = some false)
    (s_Lean_Full : PySem.W.subIn K (.ref C_Lean) (.ref C_Full) = some false)
    (s_Lean_Keep : PySem.W.subIn K (.ref C_Lean) (.ref C_Keep) = some false)
    (s_Lean_Script : PySem.W.subIn K (.ref C_Lean) (.ref C_Script) = some false)
    (s_Lean_Step : PySem.W.subIn K (.ref C_Lean) (.ref C_Step) = some true)
    (s_Lean_bool : PySem.W.subIn K (.ref C_Lean) (.type "bool") = some false)
    (s_Lean_int : PySem.W.subIn K (.ref C_Lean) (.type "int") = some false)
    (s_Dig_Full : PySem.W.subIn K (.ref C_Dig) (.ref C_Full) = some false)
    (s_Dig_Keep : PySem.W.subIn K (.ref C_Dig) (.ref C_Keep) = some false)
    (s_Dig_Lean : PySem.W.subIn K (.ref C_Dig) (.ref C_Lean) = some false)
    (s_Dig_Script : PySem.W.subIn K (.ref C_Dig) (.ref C_Script) = some false)
    (s_Dig_Step : PySem.W.subIn K (.ref C_Dig) (.ref C_Step) = some true)
    (s_Dig_bool : PySem.W.subIn K (.ref C_Dig) (.type "bool") = some false)
    (s_Dig_int : PySem.W.subIn K (.ref C_Dig) (.type "int") = some false)
    (s_Script_bool : PySem.W.subIn K (.ref C_Script) (.type "bool") = some false)
    (s_Script_int : PySem.W.subIn K (.ref C_Script) (.type "int") = some false)
    (zop : PySem.W.nsIn K cStatics "thirdparty.any" = some none)
    (ac_InvalidFile : PySem.W.nsIn K mainGlobals "InvalidFile" = some (some (.ref C_InvalidFile)))
    (ac_HoleError : PySem.W.nsIn K mainGlobals "HoleError" = some (some (.ref C_HoleError)))
    (xL_InvalidFile : K.lookup C_InvalidFile = some (excClassObj nm_InvalidFile q_InvalidFile C_InvalidFile NN_InvalidFile bs_InvalidFile [.ref C_HoleError, .type "ValueError", .type "Exception", .type "BaseException", .type "object"] true sn_InvalidFile sub_InvalidFile ab_InvalidFile col_InvalidFile dd_InvalidFile m0_InvalidFile m1_InvalidFile m2_InvalidFile m3_InvalidFile m5_InvalidFile "ValueError.__new__"))
    (sa_InvalidFile : PySem.W.findIn K (.ref C_InvalidFile) "__setattr__" = some (some (.builtin "object.__setattr__")))
    (nb_InvalidFile : PySem.W.findIn K (.ref C_InvalidFile) "value" = some none)
    (i_InvalidFile : PySem.W.findIn K (.ref C_InvalidFile) "__init__" = some (some (.ref I_InvalidFile)))
    (t_InvalidFile : PySem.W.typeIn K (.ref I_InvalidFile) = some (.type "function"))
    (l_InvalidFile : K.lookup I_InvalidFile = some ⟨oc_InvalidFile, od_InvalidFile, .func (ksFn "__init__" "InvalidFile.__init__" (defArgs si_InvalidFile) (defBody si_InvalidFile) (defScope si_InvalidFile) (.ref T_InvalidFile) kV_InvalidFile dc_InvalidFile pm_InvalidFile an_InvalidFile (.ref cda_InvalidFile) ct_InvalidFile cc_InvalidFile), sl_InvalidFile⟩)
    (ld_InvalidFile : K.lookup T_InvalidFile = some ⟨ocT_InvalidFile, odT_InvalidFile, .seq #[.none] nT_InvalidFile, slT_InvalidFile⟩)
    (cd_InvalidFile : PySem.W.codeIn K (.ref cda_InvalidFile) "InvalidFile.__init__" = true)
    (cr_InvalidFile : K.lookup cda_InvalidFile = some ⟨ccl_InvalidFile, cdd_InvalidFile, .fields vs_InvalidFile, ccs_InvalidFile⟩)
    (v2_InvalidFile : vs_InvalidFile[2]? = some (.str file_InvalidFile tf_InvalidFile))
    (fl_InvalidFile : ((PySem.Challenge.rw_keptholes_k15_refused_reasons.prog.main.file : Str) == file_InvalidFile) = true)
    (clc_InvalidFile : K.lookup cc_InvalidFile = some ⟨cl_InvalidFile, cld_InvalidFile, .cell (some (.ref C_InvalidFile)), csl_InvalidFile⟩)
    (al_InvalidFile : PySem.W.ks_superIn K C_InvalidFile C_InvalidFile "__init__" = some (some (.builtin "ValueError.__init__")))
    (sV_InvalidFile : PySem.W.subIn K (.ref C_InvalidFile) (.type "ValueError") = some true)
    (eC_InvalidFile : PySem.W.subIn K (.ref C_InvalidFile) (.type "BaseException") = some true)
    (sC_InvalidFile : PySem.W.mroIn K C_InvalidFile (.ref C_InvalidFile) = some true)
    (kC_InvalidFile : PySem.W.keepIn K (.ref C_InvalidFile) = true)
    (tC_InvalidFile : PySem.W.typeIn K (.ref C_InvalidFile) = some (.type "type"))
    (ac_InvalidNumber : PySem.W.nsIn K mainGlobals "InvalidNumber" = some (some (.ref C_InvalidNumber)))
    (xL_InvalidNumber : K.lookup C_InvalidNumber = some (excClassObj nm_InvalidNumber q_InvalidNumber C_InvalidNumber NN_InvalidNumber bs_InvalidNumber [.ref C_HoleError, .type "ValueError", .type "Exception", .type "BaseException", .type "object"] true sn_InvalidNumber sub_InvalidNumber ab_InvalidNumber col_InvalidNumber dd_InvalidNumber m0_InvalidNumber m1_InvalidNumber m2_InvalidNumber m3_InvalidNumber m5_InvalidNumber "ValueError.__new__"))
    (sa_InvalidNumber : PySem.W.findIn K (.ref C_InvalidNumber) "__setattr__" = some (some (.builtin "object.__setattr__")))
    (ga_InvalidNumber : PySem.W.findIn K (.ref C_InvalidNumber) "__getattribute__" = some (some (.builtin "BaseException.__getattribute__")))
    (gg_InvalidNumber : PySem.W.findIn K (.ref C_InvalidNumber) "__getattr__" = some none)
    (nb_InvalidNumber : PySem.W.findIn K (.ref C_InvalidNumber) "value" = some none)
    (i_InvalidNumber : PySem.W.findIn K (.ref C_InvalidNumber) "__init__" = some (some (.ref I_InvalidNumber)))
    (t_InvalidNumber : PySem.W.typeIn K (.ref I_InvalidNumber) = some (.type "function"))
    (l_InvalidNumber : K.lookup I_InvalidNumber = some ⟨oc_InvalidNumber, od_InvalidNumber, .func (ksFn "__init__" "InvalidNumber.__init__" (defArgs si_InvalidNumber) (defBody si_InvalidNumber) (defScope si_InvalidNumber) (.ref T_InvalidNumber) kV_InvalidNumber dc_InvalidNumber pm_InvalidNumber an_InvalidNumber (.ref cda_InvalidNumber) ct_InvalidNumber cc_InvalidNumber), sl_InvalidNumber⟩)
    (ld_InvalidNumber : K.lookup T_InvalidNumber = some ⟨ocT_InvalidNumber, odT_InvalidNumber, .seq #[.none] nT_InvalidNumber, slT_InvalidNumber⟩)
    (cd_InvalidNumber : PySem.W.codeIn K (.ref cda_InvalidNumber) "InvalidNumber.__init__" = true)
    (cr_InvalidNumber : K.lookup cda_InvalidNumber = some ⟨ccl_InvalidNumber, cdd_InvalidNumber, .fields vs_InvalidNumber, ccs_InvalidNumber⟩)
    (v2_InvalidNumber : vs_InvalidNumber[2]? = some (.str file_InvalidNumber tf_InvalidNumber))
    (fl_InvalidNumber : ((PySem.Challenge.rw_keptholes_k15_refused_reasons.prog.main.file : Str) == file_InvalidNumber) = true)
    (clc_InvalidNumber : K.lookup cc_InvalidNumber = some ⟨cl_InvalidNumber, cld_InvalidNumber, .cell (some (.ref C_InvalidNumber)), csl_InvalidNumber⟩)
    (al_InvalidNumber : PySem.W.ks_superIn K C_InvalidNumber C_InvalidNumber "__init__" = some (some (.builtin "ValueError.__init__")))
    (sV_InvalidNumber : PySem.W.subIn K (.ref C_InvalidNumber) (.type "ValueError") = some true)
    (eC_InvalidNumber : PySem.W.subIn K (.ref C_InvalidNumber) (.type "BaseException") = some true)
    (sC_InvalidNumber : PySem.W.mroIn K C_InvalidNumber (.ref C_InvalidNumber) = some true)
    (kC_InvalidNumber : PySem.W.keepIn K (.ref C_InvalidNumber) = true)
    (tC_InvalidNumber : PySem.W.typeIn K (.ref C_InvalidNumber) = some (.type "type"))
    (hC_InvalidNumber : PySem.W.hasDictIn K C_InvalidNumber = true)
    (iC_InvalidNumber : PySem.W.isClsIn K C_InvalidNumber = true)
    (s_InvalidNumber_InvalidNumber : PySem.W.subIn K (.ref C_InvalidNumber) (.ref C_InvalidNumber) = some true)
    (ac_InvalidScript : PySem.W.nsIn K mainGlobals "InvalidScript" = some (some (.ref C_InvalidScript)))
    (xL_InvalidScript : K.lookup C_InvalidScript = some (excClassObj nm_InvalidScript q_InvalidScript C_InvalidScript NN_InvalidScript bs_InvalidScript [.ref C_HoleError, .type "ValueError", .type "Exception", .type "BaseException", .type "object"] true sn_InvalidScript sub_InvalidScript ab_InvalidScript col_InvalidScript dd_InvalidScript m0_InvalidScript m1_InvalidScript m2_InvalidScript m3_InvalidScript m5_InvalidScript "ValueError.__new__"))
    (sa_InvalidScript : PySem.W.findIn K (.ref C_InvalidScript) "__setattr__" = some (some (.builtin "object.__setattr__")))
    (ga_InvalidScript : PySem.W.findIn K (.ref C_InvalidScript) "__getattribute__" = some (some (.builtin "BaseException.__getattribute__")))
    (gg_InvalidScript : PySem.W.findIn K (.ref C_InvalidScript) "__getattr__" = some none)
    (nb_InvalidScript : PySem.W.findIn K (.ref C_InvalidScript) "value" = some none)
    (i_InvalidScript : PySem.W.findIn K (.ref C_InvalidScript) "__init__" = some (some (.ref I_InvalidScript)))
    (t_InvalidScript : PySem.W.typeIn K (.ref I_InvalidScript) = some (.type "function"))
    (l_InvalidScript : K.lookup I_InvalidScript = some ⟨oc_InvalidScript, od_InvalidScript, .func (ksFn "__init__" "InvalidScript.__init__" (defArgs si_InvalidScript) (defBody si_InvalidScript) (defScope si_InvalidScript) (.ref T_InvalidScript) kV_InvalidScript dc_InvalidScript pm_InvalidScript an_InvalidScript (.ref cda_InvalidScript) ct_InvalidScript cc_InvalidScript), sl_InvalidScript⟩)
    (ld_InvalidScript : K.lookup T_InvalidScript = some ⟨ocT_InvalidScript, odT_InvalidScript, .seq #[.none] nT_InvalidScript, slT_InvalidScript⟩)
    (cd_InvalidScript : PySem.W.codeIn K (.ref cda_InvalidScript) "InvalidScript.__init__" = true)
    (cr_InvalidScript : K.lookup cda_InvalidScript = some ⟨ccl_InvalidScript, cdd_InvalidScript, .fields vs_InvalidScript, ccs_InvalidScript⟩)
    (v2_InvalidScript : vs_InvalidScript[2]? = some (.str file_InvalidScript tf_InvalidScript))
    (fl_InvalidScript : ((PySem.Challenge.rw_keptholes_k15_refused_reasons.prog.main.file : Str) == file_InvalidScript) = true)
    (clc_InvalidScript : K.lookup cc_InvalidScript = some ⟨cl_InvalidScript, cld_InvalidScript, .cell (some (.ref C_InvalidScript)), csl_InvalidScript⟩)
    (al_InvalidScript : PySem.W.ks_superIn K C_InvalidScript C_InvalidScript "__init__" = some (some (.builtin "ValueError.__init__")))
    (sV_InvalidScript : PySem.W.subIn K (.ref C_InvalidScript) (.type "ValueError") = some true)
    (eC_InvalidScript : PySem.W.subIn K (.ref C_InvalidScript) (.type "BaseException") = some true)
    (sC_InvalidScript : PySem.W.mroIn K C_InvalidScript (.ref C_InvalidScript) = some true)
    (kC_InvalidScript : PySem.W.keepIn K (.ref C_InvalidScript) = true)
    (tC_InvalidScript : PySem.W.typeIn K (.ref C_InvalidScript) = some (.type "type"))
    (hC_InvalidScript : PySem.W.hasDictIn K C_InvalidScript = true)
    (iC_InvalidScript : PySem.W.isClsIn K C_InvalidScript = true)
    (s_InvalidScript_InvalidScript : PySem.W.subIn K (.ref C_InvalidScript) (.ref C_InvalidScript) = some true)
    (s_InvalidFile_InvalidNumber : PySem.W.subIn K (.ref C_InvalidFile) (.ref C_InvalidNumber) = some false)
    (s_InvalidFile_InvalidScript : PySem.W.subIn K (.ref C_InvalidFile) (.ref C_InvalidScript) = some false)
    (s_InvalidNumber_InvalidScript : PySem.W.subIn K (.ref C_InvalidNumber) (.ref C_InvalidScript) = some false) :
    ∃ fd : FuncData, (∀ (s : Shared) (v : Value), BindsTo s fd ⟨[v], []⟩ [("script", v)]) ∧ ∀ base : Heap, K.In base → base.Ns mainGlobals mg → FnOk PySem.Challenge.rw_keptholes_k15_refused_reasons.prog w K mg base CX0 11 fa fd ["script"] (toSp K spLaw) := by
  have e := hfa.symm.trans (PySem.W.mg_of X G a_law)
  have e2 : f_law = fa := by injection e with e; injection e with e; exact e.symm
  subst e2
  let R : Prg K mg := {
    n_bool := (PySem.W.mg_none_of X G z_bool)
    n_int := (PySem.W.mg_none_of X G z_int)
    n_isinstance := (PySem.W.mg_none_of X G z_isinstance)
    n_iter := (PySem.W.mg_none_of X G z_iter)
    n_len := (PySem.W.mg_none_of X G z_len)
    n_list := (PySem.W.mg_none_of X G z_list)
    n_range := (PySem.W.mg_none_of X G z_range)
    n_set := (PySem.W.mg_none_of X G z_set)
    n_sorted := (PySem.W.mg_none_of X G z_sorted)
    n_str := (PySem.W.mg_none_of X G z_str)
    n_sum := (PySem.W.mg_none_of X G z_sum)
    n_super := (PySem.W.mg_none_of X G z_super)
    n_tuple := (PySem.W.mg_none_of X G z_tuple)
    tg_SIGNS := (tg_SIGNS)
    g_SIGNS := (PySem.W.mg_of X G g_SIGNS)
    C_File := (C_File)
    mc_File := (PySem.W.mg_of X G ac_File)
    C_Step := (C_Step)
    mc_Step := (PySem.W.mg_of X G ac_Step)
    C_Full := (C_Full)
    mc_Full := (PySem.W.mg_of X G ac_Full)
    C_Keep := (C_Keep)
    mc_Keep := (PySem.W.mg_of X G ac_Keep)
    C_Lean := (C_Lean)
    mc_Lean := (PySem.W.mg_of X G ac_Lean)
    C_Dig := (C_Dig)
    mc_Dig := (PySem.W.mg_of X G ac_Dig)
    C_Script := (C_Script)
    mc_Script := (PySem.W.mg_of X G ac_Script)
    f_is_whole := (f_is_whole)
    d_is_whole := (PySem.W.fnOf "is_whole" "is_whole" (defArgs s_is_whole) (defBody s_is_whole) (defScope s_is_whole) .none kV_is_whole dc_is_whole pm_is_whole an_is_whole cd_is_whole ct_is_whole)
    F_is_whole := (fun_mk (st := s_is_whole) l_is_whole c_is_whole k_is_whole)
    b_is_whole := ((fun_mk (st := s_is_whole) l_is_whole c_is_whole k_is_whole).binds (ps := P_is_whole) fun _ _ _ _ _ _ us hl => match us, hl with | [_], _ => rfl)
    m_is_whole := (PySem.W.mg_of X G a_is_whole)
    f_check_least := (f_check_least)
    d_check_least := (PySem.W.fnOf "check_least" "check_least" (defArgs s_check_least) (defBody s_check_least) (defScope s_check_least) .none kV_check_least dc_check_least pm_check_least an_check_least cd_check_least ct_check_least)
    F_check_least := (fun_mk (st := s_check_least) l_check_least c_check_least k_check_least)
    b_check_least := ((fun_mk (st := s_check_least) l_check_least c_check_least k_check_least).binds (ps := P_check_least) fun _ _ _ _ _ _ us hl => match us, hl with | [_, _], _ => rfl)
    m_check_least := (PySem.W.mg_of X G a_check_least)
    f_divisor_of := (f_divisor_of)
    d_divisor_of := (PySem.W.fnOf "divisor_of" "divisor_of" (defArgs s_divisor_of) (defBody s_divisor_of) (defScope s_divisor_of) .none kV_divisor_of dc_divisor_of pm_divisor_of an_divisor_of cd_divisor_of ct_divisor_of)
    F_divisor_of := (fun_mk (st := s_divisor_of) l_divisor_of c_divisor_of k_divisor_of)
    b_divisor_of := ((fun_mk (st := s_divisor_of) l_divisor_of c_divisor_of k_divisor_of).binds (ps := P_divisor_of) fun _ _ _ _ _ _ us hl => match us, hl with | [_, _], _ => rfl)
    m_divisor_of := (PySem.W.mg_of X G a_divisor_of)
    f_multiple_of := (f_multiple_of)
    d_multiple_of := (PySem.W.fnOf "multiple_of" "multiple_of" (defArgs s_multiple_of) (defBody s_multiple_of) (defScope s_multiple_of) .none kV_multiple_of dc_multiple_of pm_multiple_of an_multiple_of cd_multiple_of ct_multiple_of)
    F_multiple_of := (fun_mk (st := s_multiple_of) l_multiple_of c_multiple_of k_multiple_of)
    b_multiple_of := ((fun_mk (st := s_multiple_of) l_multiple_of c_multiple_of k_multiple_of).binds (ps := P_multiple_of) fun _ _ _ _ _ _ us hl => match us, hl with | [_], _ => rfl)
    m_multiple_of := (PySem.W.mg_of X G a_multiple_of)
    f_are_cells := (f_are_cells)
    d_are_cells := (PySem.W.fnOf "are_cells" "are_cells" (defArgs s_are_cells) (defBody s_are_cells) (defScope s_are_cells) .none kV_are_cells dc_are_cells pm_are_cells an_are_cells cd_are_cells ct_are_cells)
    F_are_cells := (fun_mk (st := s_are_cells) l_are_cells c_are_cells k_are_cells)
    b_are_cells := ((fun_mk (st := s_are_cells) l_are_cells c_are_cells k_are_cells).binds (ps := P_are_cells) fun _ _ _ _ _ _ us hl => match us, hl with | [_], _ => rfl)
    m_are_cells := (PySem.W.mg_of X G a_are_cells)
    f_are_steps := (f_are_steps)
    d_are_steps := (PySem.W.fnOf "are_steps" "are_steps" (defArgs s_are_steps) (defBody s_are_steps) (defScope s_are_steps) .none kV_are_steps dc_are_steps pm_are_steps an_are_steps cd_are_steps ct_are_steps)
    F_are_steps := (fun_mk (st := s_are_steps) l_are_steps c_are_steps k_are_steps)
    b_are_steps := ((fun_mk (st := s_are_steps) l_are_steps c_are_steps k_are_steps).binds (ps := P_are_steps) fun _ _ _ _ _ _ us hl => match us, hl with | [_], _ => rfl)
    m_are_steps := (PySem.W.mg_of X G a_are_steps)
    f_check_script := (f_check_script)
    d_check_script := (PySem.W.fnOf "check_script" "check_script" (defArgs s_check_script) (defBody s_check_script) (defScope s_check_script) .none kV_check_script dc_check_script pm_check_script an_check_script cd_check_script ct_check_script)
    F_check_script := (fun_mk (st := s_check_script) l_check_script c_check_script k_check_script)
    b_check_script := ((fun_mk (st := s_check_script) l_check_script c_check_script k_check_script).binds (ps := P_check_script) fun _ _ _ _ _ _ us hl => match us, hl with | [_], _ => rfl)
    m_check_script := (PySem.W.mg_of X G a_check_script)
    f_holds_in := (f_holds_in)
    d_holds_in := (PySem.W.fnOf "holds_in" "holds_in" (defArgs s_holds_in) (defBody s_holds_in) (defScope s_holds_in) .none kV_holds_in dc_holds_in pm_holds_in an_holds_in cd_holds_in ct_holds_in)
    F_holds_in := (fun_mk (st := s_holds_in) l_holds_in c_holds_in k_holds_in)
    b_holds_in := ((fun_mk (st := s_holds_in) l_holds_in c_holds_in k_holds_in).binds (ps := P_holds_in) fun _ _ _ _ _ _ us hl => match us, hl with | [_, _], _ => rfl)
    m_holds_in := (PySem.W.mg_of X G a_holds_in)
    f_is_held := (f_is_held)
    d_is_held := (PySem.W.fnOf "is_held" "is_held" (defArgs s_is_held) (defBody s_is_held) (defScope s_is_held) .none kV_is_held dc_is_held pm_is_held an_is_held cd_is_held ct_is_held)
    F_is_held := (fun_mk (st := s_is_held) l_is_held c_is_held k_is_held)
    b_is_held := ((fun_mk (st := s_is_held) l_is_held c_is_held k_is_held).binds (ps := P_is_held) fun _ _ _ _ _ _ us hl => match us, hl with | [_, _], _ => rfl)
    m_is_held := (PySem.W.mg_of X G a_is_held)
    f_least_of := (f_least_of)
    d_least_of := (PySem.W.fnOf "least_of" "least_of" (defArgs s_least_of) (defBody s_least_of) (defScope s_least_of) .none kV_least_of dc_least_of pm_least_of an_least_of cd_least_of ct_least_of)
    F_least_of := (fun_mk (st := s_least_of) l_least_of c_least_of k_least_of)
    b_least_of := ((fun_mk (st := s_least_of) l_least_of c_least_of k_least_of).binds (ps := P_least_of) fun _ _ _ _ _ _ us hl => match us, hl with | [_], _ => rfl)
    m_least_of := (PySem.W.mg_of X G a_least_of)
    f_dug := (f_dug)
    d_dug := (PySem.W.fnOf "dug" "dug" (defArgs s_dug) (defBody s_dug) (defScope s_dug) .none kV_dug dc_dug pm_dug an_dug cd_dug ct_dug)
    F_dug := (fun_mk (st := s_dug) l_dug c_dug k_dug)
    b_dug := ((fun_mk (st := s_dug) l_dug c_dug k_dug).binds (ps := P_dug) fun _ _ _ _ _ _ us hl => match us, hl with | [_, _], _ => rfl)
    m_dug := (PySem.W.mg_of X G a_dug)
    f_behind_step := (f_behind_step)
    d_behind_step := (PySem.W.fnOf "behind_step" "behind_step" (defArgs s_behind_step) (defBody s_behind_step) (defScope s_behind_step) .none kV_behind_step dc_behind_step pm_behind_step an_behind_step cd_behind_step ct_behind_step)
    F_behind_step := (fun_mk (st := s_behind_step) l_behind_step c_behind_step k_behind_step)
    b_behind_step := ((fun_mk (st := s_behind_step) l_behind_step c_behind_step k_behind_step).binds (ps := P_behind_step) fun _ _ _ _ _ _ us hl => match us, hl with | [_, _], _ => rfl)
    m_behind_step := (PySem.W.mg_of X G a_behind_step)
    f_reason_table := (f_reason_table)
    d_reason_table := (PySem.W.fnOf "reason_table" "reason_table" (defArgs s_reason_table) (defBody s_reason_table) (defScope s_reason_table) .none kV_reason_table dc_reason_table pm_reason_table an_reason_table cd_reason_table ct_reason_table)
    F_reason_table := (fun_mk (st := s_reason_table) l_reason_table c_reason_table k_reason_table)
    b_reason_table := ((fun_mk (st := s_reason_table) l_reason_table c_reason_table k_reason_table).binds (ps := P_reason_table) fun _ _ _ _ _ _ us hl => match us, hl with | [_], _ => rfl)
    m_reason_table := (PySem.W.mg_of X G a_reason_table)
    f_cells_of := (f_cells_of)
    d_cells_of := (PySem.W.fnOf "cells_of" "cells_of" (defArgs s_cells_of) (defBody s_cells_of) (defScope s_cells_of) .none kV_cells_of dc_cells_of pm_cells_of an_cells_of cd_cells_of ct_cells_of)
    F_cells_of := (fun_mk (st := s_cells_of) l_cells_of c_cells_of k_cells_of)
    b_cells_of := ((fun_mk (st := s_cells_of) l_cells_of c_cells_of k_cells_of).binds (ps := P_cells_of) fun _ _ _ _ _ _ us hl => match us, hl with | [_, _, _], _ => rfl)
    m_cells_of := (PySem.W.mg_of X G a_cells_of)
    f_reasons := (f_reasons)
    d_reasons := (PySem.W.fnOf "reasons" "reasons" (defArgs s_reasons) (defBody s_reasons) (defScope s_reasons) .none kV_reasons dc_reasons pm_reasons an_reasons cd_reasons ct_reasons)
    F_reasons := (fun_mk (st := s_reasons) l_reasons c_reasons k_reasons)
    b_reasons := ((fun_mk (st := s_reasons) l_reasons c_reasons k_reasons).binds (ps := P_reasons) fun _ _ _ _ _ _ us hl => match us, hl with | [_, _], _ => rfl)
    m_reasons := (PySem.W.mg_of X G a_reasons)
    f_law_purse := (f_law_purse)
    d_law_purse := (PySem.W.fnOf "_law_purse" "_law_purse" (defArgs s_law_purse) (defBody s_law_purse) (defScope s_law_purse) .none kV_law_purse dc_law_purse pm_law_purse an_law_purse cd_law_purse ct_law_purse)
    F_law_purse := (fun_mk (st := s_law_purse) l_law_purse c_law_purse k_law_purse)
    b_law_purse := ((fun_mk (st := s_law_purse) l_law_purse c_law_purse k_law_purse).binds (ps := P_law_purse) fun _ _ _ _ _ _ us hl => match us, hl with | [_, _], _ => rfl)
    m_law_purse := (PySem.W.mg_of X G a_law_purse)
    f_law_draw := (f_law_draw)
    d_law_draw := (PySem.W.fnOf "_law_draw" "_law_draw" (defArgs s_law_draw) (defBody s_law_draw) (defScope s_law_draw) .none kV_law_draw dc_law_draw pm_law_draw an_law_draw cd_law_draw ct_law_draw)
    F_law_draw := (fun_mk (st := s_law_draw) l_law_draw c_law_draw k_law_draw)
    b_law_draw := ((fun_mk (st := s_law_draw) l_law_draw c_law_draw k_law_draw).binds (ps := P_law_draw) fun _ _ _ _ _ _ us hl => match us, hl with | [_, _], _ => rfl)
    m_law_draw := (PySem.W.mg_of X G a_law_draw)
    f_law_steps := (f_law_steps)
    d_law_steps := (PySem.W.fnOf "_law_steps" "_law_steps" (defArgs s_law_steps) (defBody s_law_steps) (defScope s_law_steps) .none kV_law_steps dc_law_steps pm_law_steps an_law_steps cd_law_steps ct_law_steps)
    F_law_steps := (fun_mk (st := s_law_steps) l_law_steps c_law_steps k_law_steps)
    b_law_steps := ((fun_mk (st := s_law_steps) l_law_steps c_law_steps k_law_steps).binds (ps := P_law_steps) fun _ _ _ _ _ _ us hl => match us, hl with | [_, _, _], _ => rfl)
    m_law_steps := (PySem.W.mg_of X G a_law_steps)
    f_law_step := (f_law_step)
    d_law_step := (PySem.W.fnOf "_law_step" "_law_step" (defArgs s_law_step) (defBody s_law_step) (defScope s_law_step) .none kV_law_step dc_law_step pm_law_step an_law_step cd_law_step ct_law_step)
    F_law_step := (fun_mk (st := s_law_step) l_law_step c_law_step k_law_step)
    b_law_step := ((fun_mk (st := s_law_step) l_law_step c_law_step k_law_step).binds (ps := P_law_step) fun _ _ _ _ _ _ us hl => match us, hl with | [_], _ => rfl)
    m_law_step := (PySem.W.mg_of X G a_law_step)
    f_law_script := (f_law_script)
    d_law_script := (PySem.W.fnOf "_law_script" "_law_script" (defArgs s_law_script) (defBody s_law_script) (defScope s_law_script) .none kV_law_script dc_law_script pm_law_script an_law_script cd_law_script ct_law_script)
    F_law_script := (fun_mk (st := s_law_script) l_law_script c_law_script k_law_script)
    b_law_script := ((fun_mk (st := s_law_script) l_law_script c_law_script k_law_script).binds (ps := P_law_script) fun _ _ _ _ _ _ us hl => match us, hl with | [_], _ => rfl)
    m_law_script := (PySem.W.mg_of X G a_law_script)
    f_law_told := (f_law_told)
    d_law_told := (PySem.W.fnOf "_law_told" "_law_told" (defArgs s_law_told) (defBody s_law_told) (defScope s_law_told) .none kV_law_told dc_law_told pm_law_told an_law_told cd_law_told ct_law_told)
    F_law_told := (fun_mk (st := s_law_told) l_law_told c_law_told k_law_told)
    b_law_told := ((fun_mk (st := s_law_told) l_law_told c_law_told k_law_told).binds (ps := P_law_told) fun _ _ _ _ _ _ us hl => match us, hl with | [_, _], _ => rfl)
    m_law_told := (PySem.W.mg_of X G a_law_told)
    f_law := (f_law)
    d_law := (PySem.W.fnOf "law" "law" (defArgs s_law) (defBody s_law) (defScope s_law) .none kV_law dc_law pm_law an_law cd_law ct_law)
    F_law := (fun_mk (st := s_law) l_law c_law k_law)
    tk0_File_init := (tk0_File_init)
    f_File_init := (f_File_init)
    d_File_init := (PySem.W.fnOf "__init__" "File.__init__" (defArgs s_File_init) (defBody s_File_init) (defScope s_File_init) (.ref T_File_init) kV_File_init dc_File_init pm_File_init an_File_init cd_File_init ct_File_init)
    F_File_init := (⟨⟨oc_File_init, od_File_init, (.ref T_File_init), kV_File_init, dc_File_init, pm_File_init, an_File_init, cd_File_init, ct_File_init, sl_File_init, rfl, l_File_init, c_File_init⟩, k_File_init⟩)
    b1_File_init := (fun s us X hl => match us, (show us.length = 1 by simpa using hl) with | [_], _ => BindsTo.of_defaults (T := T_File_init) rfl (X _ _ ld_File_init) rfl rfl rfl)
    f_Keep_init := (f_Keep_init)
    d_Keep_init := (PySem.W.fnOf "__init__" "Keep.__init__" (defArgs s_Keep_init) (defBody s_Keep_init) (defScope s_Keep_init) .none kV_Keep_init dc_Keep_init pm_Keep_init an_Keep_init cd_Keep_init ct_Keep_init)
    F_Keep_init := (fun_mk (st := s_Keep_init) l_Keep_init c_Keep_init k_Keep_init)
    b_Keep_init := ((fun_mk (st := s_Keep_init) l_Keep_init c_Keep_init k_Keep_init).binds (ps := P_Keep_init) fun _ _ _ _ _ _ us hl => match us, hl with | [_, _], _ => rfl)
    f_Keep_size := (f_Keep_size)
    d_Keep_size := (PySem.W.fnOf "size" "Keep.size" (defArgs s_Keep_size) (defBody s_Keep_size) (defScope s_Keep_size) .none kV_Keep_size dc_Keep_size pm_Keep_size an_Keep_size cd_Keep_size ct_Keep_size)
    F_Keep_size := (fun_mk (st := s_Keep_size) l_Keep_size c_Keep_size k_Keep_size)
    b_Keep_size := ((fun_mk (st := s_Keep_size) l_Keep_size c_Keep_size k_Keep_size).binds (ps := P_Keep_size) fun _ _ _ _ _ _ us hl => match us, hl with | [_], _ => rfl)
    pr_Keep_size := pr_Keep_size
    V_Keep_size := (⟨pa_Keep_size, pb_Keep_size, pc_Keep_size, ⟨rs_Keep_size, pd_Keep_size⟩⟩)
    f_Lean_init := (f_Lean_init)
    d_Lean_init := (PySem.W.fnOf "__init__" "Lean.__init__" (defArgs s_Lean_init) (defBody s_Lean_init) (defScope s_Lean_init) .none kV_Lean_init dc_Lean_init pm_Lean_init an_Lean_init cd_Lean_init ct_Lean_init)
    F_Lean_init := (fun_mk (st := s_Lean_init) l_Lean_init c_Lean_init k_Lean_init)
    b_Lean_init := ((fun_mk (st := s_Lean_init) l_Lean_init c_Lean_init k_Lean_init).binds (ps := P_Lean_init) fun _ _ _ _ _ _ us hl => match us, hl with | [_, _], _ => rfl)
    f_Lean_size := (f_Lean_size)
    d_Lean_size := (PySem.W.fnOf "size" "Lean.size" (defArgs s_Lean_size) (defBody s_Lean_size) (defScope s_Lean_size) .none kV_Lean_size dc_Lean_size pm_Lean_size an_Lean_size cd_Lean_size ct_Lean_size)
    F_Lean_size := (fun_mk (st := s_Lean_size) l_Lean_size c_Lean_size k_Lean_size)
    b_Lean_size := ((fun_mk (st := s_Lean_size) l_Lean_size c_Lean_size k_Lean_size).binds (ps := P_Lean_size) fun _ _ _ _ _ _ us hl => match us, hl with | [_], _ => rfl)
    pr_Lean_size := pr_Lean_size
    V_Lean_size := (⟨pa_Lean_size, pb_Lean_size, pc_Lean_size, ⟨rs_Lean_size, pd_Lean_size⟩⟩)
    f_Dig_init := (f_Dig_init)
    d_Dig_init := (PySem.W.fnOf "__init__" "Dig.__init__" (defArgs s_Dig_init) (defBody s_Dig_init) (defScope s_Dig_init) .none kV_Dig_init dc_Dig_init pm_Dig_init an_Dig_init cd_Dig_init ct_Dig_init)
    F_Dig_init := (fun_mk (st := s_Dig_init) l_Dig_init c_Dig_init k_Dig_init)
    b_Dig_init := ((fun_mk (st := s_Dig_init) l_Dig_init c_Dig_init k_Dig_init).binds (ps := P_Dig_init) fun _ _ _ _ _ _ us hl => match us, hl with | [_, _], _ => rfl)
    f_Dig_size := (f_Dig_size)
    d_Dig_size := (PySem.W.fnOf "size" "Dig.size" (defArgs s_Dig_size) (defBody s_Dig_size) (defScope s_Dig_size) .none kV_Dig_size dc_Dig_size pm_Dig_size an_Dig_size cd_Dig_size ct_Dig_size)
    F_Dig_size := (fun_mk (st := s_Dig_size) l_Dig_size c_Dig_size k_Dig_size)
    b_Dig_size := ((fun_mk (st := s_Dig_size) l_Dig_size c_Dig_size k_Dig_size).binds (ps := P_Dig_size) fun _ _ _ _ _ _ us hl => match us, hl with | [_], _ => rfl)
    pr_Dig_size := pr_Dig_size
    V_Dig_size := (⟨pa_Dig_size, pb_Dig_size, pc_Dig_size, ⟨rs_Dig_size, pd_Dig_size⟩⟩)
    f_Script_init := (f_Script_init)
    d_Script_init := (PySem.W.fnOf "__init__" "Script.__init__" (defArgs s_Script_init) (defBody s_Script_init) (defScope s_Script_init) (.ref T_Script_init) kV_Script_init dc_Script_init pm_Script_init an_Script_init cd_Script_init ct_Script_init)
    F_Script_init := (⟨⟨oc_Script_init, od_Script_init, (.ref T_Script_init), kV_Script_init, dc_Script_init, pm_Script_init, an_Script_init, cd_Script_init, ct_Script_init, sl_Script_init, rfl, l_Script_init, c_Script_init⟩, k_Script_init⟩)
    b_Script_init := (fun s us X hl => match us, hl with | [_, _], _ => BindsTo.of_defaults (T := T_Script_init) rfl (X _ _ ld_Script_init) rfl rfl rfl)
    b1_Script_init := (fun s us X hl => match us, (show us.length = 1 by simpa using hl) with | [_], _ => BindsTo.of_defaults (T := T_Script_init) rfl (X _ _ ld_Script_init) rfl rfl rfl)
    f_Script_period := (f_Script_period)
    d_Script_period := (PySem.W.fnOf "period" "Script.period" (defArgs s_Script_period) (defBody s_Script_period) (defScope s_Script_period) .none kV_Script_period dc_Script_period pm_Script_period an_Script_period cd_Script_period ct_Script_period)
    F_Script_period := (fun_mk (st := s_Script_period) l_Script_period c_Script_period k_Script_period)
    b_Script_period := ((fun_mk (st := s_Script_period) l_Script_period c_Script_period k_Script_period).binds (ps := P_Script_period) fun _ _ _ _ _ _ us hl => match us, hl with | [_], _ => rfl)
    pr_Script_period := pr_Script_period
    V_Script_period := (⟨pa_Script_period, pb_Script_period, pc_Script_period, ⟨rs_Script_period, pd_Script_period⟩⟩)
    f_Script_iter := (f_Script_iter)
    d_Script_iter := (PySem.W.fnOf "__iter__" "Script.__iter__" (defArgs s_Script_iter) (defBody s_Script_iter) (defScope s_Script_iter) .none kV_Script_iter dc_Script_iter pm_Script_iter an_Script_iter cd_Script_iter ct_Script_iter)
    F_Script_iter := (fun_mk (st := s_Script_iter) l_Script_iter c_Script_iter k_Script_iter)
    b_Script_iter := ((fun_mk (st := s_Script_iter) l_Script_iter c_Script_iter k_Script_iter).binds (ps := P_Script_iter) fun _ _ _ _ _ _ us hl => match us, hl with | [_], _ => rfl)
    M_Script_iter := (⟨a_Script_iter, i_Script_iter, k_Script_iter⟩)
    L_File := (⟨⟨pg_File, hd_File, po_File, sa_File⟩, ha_File, ohn, otk, mr_File⟩)
    K_File := (⟨mk_File, a_File_init, i_File_init, kc_File⟩)
    A_File_row := (na_File_row)
    L_Full := (⟨⟨pg_Full, hd_Full, po_Full, sa_Full⟩, ha_Full, ohn, otk, mr_Full⟩)
    K_Full := (⟨mk_Full, ii_Full, kc_Full, mr_Full⟩)
    L_Keep := (⟨⟨pg_Keep, hd_Keep, po_Keep, sa_Keep⟩, ha_Keep, ohn, otk, mr_Keep⟩)
    K_Keep := (⟨mk_Keep, a_Keep_init, i_Keep_init, kc_Keep⟩)
    A_Keep_wide := (na_Keep_wide)
    L_Lean := (⟨⟨pg_Lean, hd_Lean, po_Lean, sa_Lean⟩, ha_Lean, ohn, otk, mr_Lean⟩)
    K_Lean := (⟨mk_Lean, a_Lean_init, i_Lean_init, kc_Lean⟩)
    A_Lean_wide := (na_Lean_wide)
    L_Dig := (⟨⟨pg_Dig, hd_Dig, po_Dig, sa_Dig⟩, ha_Dig, ohn, otk, mr_Dig⟩)
    K_Dig := (⟨mk_Dig, a_Dig_init, i_Dig_init, kc_Dig⟩)
    A_Dig_wide := (na_Dig_wide)
    L_Script := (⟨⟨pg_Script, hd_Script, po_Script, sa_Script⟩, ha_Script, ohn, otk, mr_Script⟩)
    K_Script := (⟨mk_Script, a_Script_init, i_Script_init, kc_Script⟩)
    A_Script_rows := (na_Script_rows)
    ic_Script := (ic_Script)
    tc_Script := (tc_Script)
    s_File_Script := (kit_rr2 ic_Script tc_Script ms_File s_File_Script)
    si_File_bool := (s_File_bool)
    si_File_int := (s_File_int)
    s_Full_Dig := (kit_rr2 ic_Dig tc_Dig ms_Full s_Full_Dig)
    s_Full_Full := (kit_self)
    s_Full_Keep := (kit_rr2 ic_Keep tc_Keep ms_Full s_Full_Keep)
    s_Full_Lean := (kit_rr2 ic_Lean tc_Lean ms_Full s_Full_Lean)
    s_Full_Script := (kit_rr2 ic_Script tc_Script ms_Full s_Full_Script)
    s_Full_Step := (kit_rr2 ic_Step tc_Step ms_Full s_Full_Step)
    si_Full_bool := (s_Full_bool)
    si_Full_int := (s_Full_int)
    s_Keep_Dig := (kit_rr2 ic_Dig tc_Dig ms_Keep s_Keep_Dig)
    s_Keep_Full := (kit_rr2 ic_Full tc_Full ms_Keep s_Keep_Full)
    s_Keep_Keep := (kit_self)
    s_Keep_Lean := (kit_rr2 ic_Lean tc_Lean ms_Keep s_Keep_Lean)
    s_Keep_Script := (kit_rr2 ic_Script tc_Script ms_Keep s_Keep_Script)
    s_Keep_Step := (kit_rr2 ic_Step tc_Step ms_Keep s_Keep_Step)
    si_Keep_bool := (s_Keep_bool)
    si_Keep_int := (s_Keep_int)
    s_Lean_Dig := (kit_rr2 ic_Dig tc_Dig ms_Lean s_Lean_Dig)
    s_Lean_Full := (kit_rr2 ic_Full tc_Full ms_Lean s_Lean_Full)
    s_Lean_Keep := (kit_rr2 ic_Keep tc_Keep ms_Lean s_Lean_Keep)
    s_Lean_Lean := (kit_self)
    s_Lean_Script := (kit_rr2 ic_Script tc_Script ms_Lean s_Lean_Script)
    s_Lean_Step := (kit_rr2 ic_Step tc_Step ms_Lean s_Lean_Step)
    si_Lean_bool := (s_Lean_bool)
    si_Lean_int := (s_Lean_int)
    s_Dig_Dig := (kit_self)
    s_Dig_Full := (kit_rr2 ic_Full tc_Full ms_Dig s_Dig_Full)
    s_Dig_Keep := (kit_rr2 ic_Keep tc_Keep ms_Dig s_Dig_Keep)
    s_Dig_Lean := (kit_rr2 ic_Lean tc_Lean ms_Dig s_Dig_Lean)
    s_Dig_Script := (kit_rr2 ic_Script tc_Script ms_Dig s_Dig_Script)
    s_Dig_Step := (kit_rr2 ic_Step tc_Step ms_Dig s_Dig_Step)
    si_Dig_bool := (s_Dig_bool)
    si_Dig_int := (s_Dig_int)
    s_Script_Script := (kit_self)
    si_Script_bool := (s_Script_bool)
    si_Script_int := (s_Script_int)
    C_InvalidFile := (C_InvalidFile)
    I_InvalidFile := (I_InvalidFile)
    mc_InvalidFile := (PySem.W.mg_of X G ac_InvalidFile)
    S_InvalidFile := ({ T := ⟨⟨nm_InvalidFile, q_InvalidFile, NN_InvalidFile, bs_InvalidFile, _, sn_InvalidFile, sub_InvalidFile, ab_InvalidFile, col_InvalidFile, dd_InvalidFile, m0_InvalidFile, m1_InvalidFile, m2_InvalidFile, m3_InvalidFile, m5_InvalidFile, xL_InvalidFile, by first | rfl | decide +kernel⟩, sa_InvalidFile, eC_InvalidFile, tC_InvalidFile, kC_InvalidFile⟩, iC := i_InvalidFile, tI := t_InvalidFile, nf := nb_InvalidFile, al := al_InvalidFile, sV := sV_InvalidFile, sC := sC_InvalidFile, op := zop, tp := by decide +kernel, ne := by decide, nd := by decide, fn := ⟨oc_InvalidFile, od_InvalidFile, sl_InvalidFile, "__init__", "InvalidFile.__init__", defArgs si_InvalidFile, defScope si_InvalidFile, .ref T_InvalidFile, kV_InvalidFile, dc_InvalidFile, pm_InvalidFile, an_InvalidFile, cda_InvalidFile, ct_InvalidFile, cc_InvalidFile, ⟨10, 8, 10, 13⟩, ⟨10, 8, 10, 15⟩, ⟨10, 8, 10, 24⟩, ⟨10, 25, 10, 30⟩, ⟨10, 8, 10, 31⟩, ⟨10, 8, 10, 31⟩, ⟨11, 8, 11, 12⟩, ⟨11, 8, 11, 18⟩, ⟨11, 21, 11, 26⟩, ⟨11, 8, 11, 26⟩, { arg := "self", annotation := none, pos := ⟨9, 17, 9, 21⟩ }, ccl_InvalidFile, cdd_InvalidFile, vs_InvalidFile, ccs_InvalidFile, file_InvalidFile, tf_InvalidFile, cl_InvalidFile, cld_InvalidFile, csl_InvalidFile, l_InvalidFile, cd_InvalidFile, by rfl, by rfl, by rfl, by rfl, by rfl, by decide +kernel, by rfl, by rfl, by rfl, by rfl, cr_InvalidFile, v2_InvalidFile, fl_InvalidFile, clc_InvalidFile, (fun s us X hl => match us, hl with | [_, _], _ => BindsTo.of_defaults (T := T_InvalidFile) rfl (X _ _ ld_InvalidFile) rfl rfl rfl), fun _ => ⟨_, rfl⟩⟩ })
    C_InvalidNumber := (C_InvalidNumber)
    I_InvalidNumber := (I_InvalidNumber)
    mc_InvalidNumber := (PySem.W.mg_of X G ac_InvalidNumber)
    S_InvalidNumber := ({ T := ⟨⟨nm_InvalidNumber, q_InvalidNumber, NN_InvalidNumber, bs_InvalidNumber, _, sn_InvalidNumber, sub_InvalidNumber, ab_InvalidNumber, col_InvalidNumber, dd_InvalidNumber, m0_InvalidNumber, m1_InvalidNumber, m2_InvalidNumber, m3_InvalidNumber, m5_InvalidNumber, xL_InvalidNumber, by first | rfl | decide +kernel⟩, sa_InvalidNumber, eC_InvalidNumber, tC_InvalidNumber, kC_InvalidNumber⟩, iC := i_InvalidNumber, tI := t_InvalidNumber, nf := nb_InvalidNumber, al := al_InvalidNumber, sV := sV_InvalidNumber, sC := sC_InvalidNumber, op := zop, tp := by decide +kernel, ne := by decide, nd := by decide, fn := ⟨oc_InvalidNumber, od_InvalidNumber, sl_InvalidNumber, "__init__", "InvalidNumber.__init__", defArgs si_InvalidNumber, defScope si_InvalidNumber, .ref T_InvalidNumber, kV_InvalidNumber, dc_InvalidNumber, pm_InvalidNumber, an_InvalidNumber, cda_InvalidNumber, ct_InvalidNumber, cc_InvalidNumber, ⟨15, 8, 15, 13⟩, ⟨15, 8, 15, 15⟩, ⟨15, 8, 15, 24⟩, ⟨15, 25, 15, 30⟩, ⟨15, 8, 15, 31⟩, ⟨15, 8, 15, 31⟩, ⟨16, 8, 16, 12⟩, ⟨16, 8, 16, 18⟩, ⟨16, 21, 16, 26⟩, ⟨16, 8, 16, 26⟩, { arg := "self", annotation := none, pos := ⟨14, 17, 14, 21⟩ }, ccl_InvalidNumber, cdd_InvalidNumber, vs_InvalidNumber, ccs_InvalidNumber, file_InvalidNumber, tf_InvalidNumber, cl_InvalidNumber, cld_InvalidNumber, csl_InvalidNumber, l_InvalidNumber, cd_InvalidNumber, by rfl, by rfl, by rfl, by rfl, by rfl, by decide +kernel, by rfl, by rfl, by rfl, by rfl, cr_InvalidNumber, v2_InvalidNumber, fl_InvalidNumber, clc_InvalidNumber, (fun s us X hl => match us, hl with | [_, _], _ => BindsTo.of_defaults (T := T_InvalidNumber) rfl (X _ _ ld_InvalidNumber) rfl rfl rfl), fun _ => ⟨_, rfl⟩⟩ })
    x_InvalidNumber := (⟨ga_InvalidNumber, gg_InvalidNumber, eC_InvalidNumber, hC_InvalidNumber⟩)
    e_InvalidNumber_InvalidNumber := (exm_of eC_InvalidNumber iC_InvalidNumber tC_InvalidNumber s_InvalidNumber_InvalidNumber)
    C_InvalidScript := (C_InvalidScript)
    I_InvalidScript := (I_InvalidScript)
    mc_InvalidScript := (PySem.W.mg_of X G ac_InvalidScript)
    S_InvalidScript := ({ T := ⟨⟨nm_InvalidScript, q_InvalidScript, NN_InvalidScript, bs_InvalidScript, _, sn_InvalidScript, sub_InvalidScript, ab_InvalidScript, col_InvalidScript, dd_InvalidScript, m0_InvalidScript, m1_InvalidScript, m2_InvalidScript, m3_InvalidScript, m5_InvalidScript, xL_InvalidScript, by first | rfl | decide +kernel⟩, sa_InvalidScript, eC_InvalidScript, tC_InvalidScript, kC_InvalidScript⟩, iC := i_InvalidScript, tI := t_InvalidScript, nf := nb_InvalidScript, al := al_InvalidScript, sV := sV_InvalidScript, sC := sC_InvalidScript, op := zop, tp := by decide +kernel, ne := by decide, nd := by decide, fn := ⟨oc_InvalidScript, od_InvalidScript, sl_InvalidScript, "__init__", "InvalidScript.__init__", defArgs si_InvalidScript, defScope si_InvalidScript, .ref T_InvalidScript, kV_InvalidScript, dc_InvalidScript, pm_InvalidScript, an_InvalidScript, cda_InvalidScript, ct_InvalidScript, cc_InvalidScript, ⟨20, 8, 20, 13⟩, ⟨20, 8, 20, 15⟩, ⟨20, 8, 20, 24⟩, ⟨20, 25, 20, 30⟩, ⟨20, 8, 20, 31⟩, ⟨20, 8, 20, 31⟩, ⟨21, 8, 21, 12⟩, ⟨21, 8, 21, 18⟩, ⟨21, 21, 21, 26⟩, ⟨21, 8, 21, 26⟩, { arg := "self", annotation := none, pos := ⟨19, 17, 19, 21⟩ }, ccl_InvalidScript, cdd_InvalidScript, vs_InvalidScript, ccs_InvalidScript, file_InvalidScript, tf_InvalidScript, cl_InvalidScript, cld_InvalidScript, csl_InvalidScript, l_InvalidScript, cd_InvalidScript, by rfl, by rfl, by rfl, by rfl, by rfl, by decide +kernel, by rfl, by rfl, by rfl, by rfl, cr_InvalidScript, v2_InvalidScript, fl_InvalidScript, clc_InvalidScript, (fun s us X hl => match us, hl with | [_, _], _ => BindsTo.of_defaults (T := T_InvalidScript) rfl (X _ _ ld_InvalidScript) rfl rfl rfl), fun _ => ⟨_, rfl⟩⟩ })
    x_InvalidScript := (⟨ga_InvalidScript, gg_InvalidScript, eC_InvalidScript, hC_InvalidScript⟩)
    e_InvalidScript_InvalidScript := (exm_of eC_InvalidScript iC_InvalidScript tC_InvalidScript s_InvalidScript_InvalidScript)
    e_InvalidFile_InvalidNumber := (exm_of eC_InvalidNumber iC_InvalidNumber tC_InvalidNumber s_InvalidFile_InvalidNumber)
    e_InvalidFile_InvalidScript := (exm_of eC_InvalidScript iC_InvalidScript tC_InvalidScript s_InvalidFile_InvalidScript)
    e_InvalidNumber_InvalidScript := (exm_of eC_InvalidScript iC_InvalidScript tC_InvalidScript s_InvalidNumber_InvalidScript) }
  exact ⟨R.d_law, fun s v => .of_eq rfl, fun base _ _ => ok_law R⟩
theorem walk {q : Program} {loose : List Str} {XP : (Str → Option Value) → Heap → Prop} {YP : World → Heap → Prop} {d : DefRec} {K : Params → Frag} (hdf : d.params.defaults = [])
    (hY : ∀ (w : World) (h : Heap), YP w h → (K w.params).In h)
    (F : ∀ (w : World) (mg : Str → Option Value) (fa : Addr) (h : Heap), (K w.params).In h → h.Ns mainGlobals mg → mg d.name = some (.ref fa) →
      ∃ fd : FuncData, (∀ (s : Shared) (u : Value), BindsTo s fd ⟨[u], []⟩ [("script", u)]) ∧ ∀ base : Heap, (K w.params).In base → base.Ns mainGlobals mg → FnOk PySem.Challenge.rw_keptholes_k15_refused_reasons.prog w (K w.params) mg base CX0 11 fa fd ["script"] (toSp (K w.params) spLaw)) :
    PySem.W.WalkO q loose XP YP PySem.Challenge.rw_keptholes_k15_refused_reasons.row.toRowW d [] (fun f vs => PySem.call f vs) :=
  L2.walk_of (l := PySem.Challenge.rw_keptholes_k15_refused_reasons) (n := 63) (k := 11) (x := "script") (CX := fun _ => CX0) (sp := fun w => toSp (K w.params) spLaw) rfl (by decide) hdf ⟨rfl, by decide, by decide⟩ hY F
    (fun w H a ns hl _ hS => law_sp hl hS) fun _ _ _ _ _ z => z
end Kh
open PySem PySem.W PyProof.Rows in
set_option maxRecDepth 100000 in
set_option maxHeartbeats 0 in
theorem PySem.Challenge.cw_keptholes_k15_refused_reasons_holds : PySem.Challenge.rw_keptholes_k15_refused_reasons.Holds := by
  w_on; o_law; k_headL; (case hw => w_witness2)
  as_aux_lemma =>
    k_fill
    refine Kh.walk rfl (fun w h Y => PySem.W.kIn_of Y) ?F
    case F =>
      intro w mg fa h KX G hmg
      refine' Kh.all_mk KX G hmg ?z_bool ?z_int ?z_isinstance ?z_iter ?z_len ?z_list ?z_range ?z_set ?z_sorted ?z_str ?z_sum ?z_super ?z_tuple ?g_SIGNS ?ac_File ?ac_Step ?ac_Full ?ac_Keep ?ac_Lean ?ac_Dig ?ac_Script ?a_is_whole ?l_is_whole ?c_is_whole ?k_is_whole ?a_check_least ?l_check_least ?c_check_least ?k_check_least ?a_divisor_of ?l_divisor_of ?c_divisor_of ?k_divisor_of ?a_multiple_of ?l_multiple_of ?c_multiple_of ?k_multiple_of ?a_are_cells ?l_are_cells ?c_are_cells ?k_are_cells ?a_are_steps ?l_are_steps ?c_are_steps ?k_are_steps ?a_check_script ?l_check_script ?c_check_script ?k_check_script ?a_holds_in ?l_holds_in ?c_holds_in ?k_holds_in ?a_is_held ?l_is_held ?c_is_held ?k_is_held ?a_least_of ?l_least_of ?c_least_of ?k_least_of ?a_dug ?l_dug ?c_dug ?k_dug ?a_behind_step ?l_behind_step ?c_behind_step ?k_behind_step ?a_reason_table ?l_reason_table ?c_reason_table ?k_reason_table ?a_cells_of ?l_cells_of ?c_cells_of ?k_cells_of ?a_reasons ?l_reasons ?c_reasons ?k_reasons ?a_law_purse ?l_law_purse ?c_law_purse ?k_law_purse ?a_law_draw ?l_law_draw ?c_law_draw ?k_law_draw ?a_law_steps ?l_law_steps ?c_law_steps ?k_law_steps ?a_law_step ?l_law_step ?c_law_step ?k_law_step ?a_law_script ?l_law_script ?c_law_script ?k_law_script ?a_law_told ?l_law_told ?c_law_told ?k_law_told ?a_law ?l_law ?c_law ?k_law ?a_File_init ?i_File_init ?l_File_init ?c_File_init ?k_File_init ?ld_File_init ?a_Keep_init ?i_Keep_init ?l_Keep_init ?c_Keep_init ?k_Keep_init ?pa_Keep_size ?pb_Keep_size ?pc_Keep_size ?pd_Keep_size ?l_Keep_size ?c_Keep_size ?k_Keep_size ?a_Lean_init ?i_Lean_init ?l_Lean_init ?c_Lean_init ?k_Lean_init ?pa_Lean_size ?pb_Lean_size ?pc_Lean_size ?pd_Lean_size ?l_Lean_size ?c_Lean_size ?k_Lean_size ?a_Dig_init ?i_Dig_init ?l_Dig_init ?c_Dig_init ?k_Dig_init ?pa_Dig_size ?pb_Dig_size ?pc_Dig_size ?pd_Dig_size ?l_Dig_size ?c_Dig_size ?k_Dig_size ?a_Script_init ?i_Script_init ?l_Script_init ?c_Script_init ?k_Script_init ?ld_Script_init ?pa_Script_period ?pb_Script_period ?pc_Script_period ?pd_Script_period ?l_Script_period ?c_Script_period ?k_Script_period ?a_Script_iter ?i_Script_iter ?l_Script_iter ?c_Script_iter ?k_Script_iter ?ohn ?otk ?pg_File ?hd_File ?po_File ?sa_File ?ha_File ?mr_File ?ms_File ?mk_File ?kc_File ?na_File_row ?pg_Full ?hd_Full ?po_Full ?sa_Full ?ha_Full ?mr_Full ?ms_Full ?mk_Full ?kc_Full ?ii_Full ?pg_Keep ?hd_Keep ?po_Keep ?sa_Keep ?ha_Keep ?mr_Keep ?ms_Keep ?mk_Keep ?kc_Keep ?na_Keep_wide ?pg_Lean ?hd_Lean ?po_Lean ?sa_Lean ?ha_Lean ?mr_Lean ?ms_Lean ?mk_Lean ?kc_Lean ?na_Lean_wide ?pg_Dig ?hd_Dig ?po_Dig ?sa_Dig ?ha_Dig ?mr_Dig ?ms_Dig ?mk_Dig ?kc_Dig ?na_Dig_wide ?pg_Script ?hd_Script ?po_Script ?sa_Script ?ha_Script ?mr_Script ?mk_Script ?kc_Script ?na_Script_rows ?ic_Dig ?tc_Dig ?ic_Full ?tc_Full ?ic_Keep ?tc_Keep ?ic_Lean ?tc_Lean ?ic_Script ?tc_Script ?ic_Step ?tc_Step ?s_File_Script ?s_File_bool ?s_File_int ?s_Full_Dig ?s_Full_Keep ?s_Full_Lean ?s_Full_Script ?s_Full_Step ?s_Full_bool ?s_Full_int ?s_Keep_Dig ?s_Keep_Full ?s_Keep_Lean ?s_Keep_Script ?s_Keep_Step ?s_Keep_bool ?s_Keep_int ?s_Lean_Dig ?s_Lean_Full ?s_Lean_Keep ?s_Lean_Script ?s_Lean_Step ?s_Lean_bool ?s_Lean_int ?s_Dig_Full ?s_Dig_Keep ?s_Dig_Lean ?s_Dig_Script ?s_Dig_Step ?s_Dig_bool ?s_Dig_int ?s_Script_bool ?s_Script_int ?zop ?ac_InvalidFile ?ac_HoleError ?xL_InvalidFile ?sa_InvalidFile ?nb_InvalidFile ?i_InvalidFile ?t_InvalidFile ?l_InvalidFile ?ld_InvalidFile ?cd_InvalidFile ?cr_InvalidFile ?v2_InvalidFile ?fl_InvalidFile ?clc_InvalidFile ?al_InvalidFile ?sV_InvalidFile ?eC_InvalidFile ?sC_InvalidFile ?kC_InvalidFile ?tC_InvalidFile ?ac_InvalidNumber ?xL_InvalidNumber ?sa_InvalidNumber ?ga_InvalidNumber ?gg_InvalidNumber ?nb_InvalidNumber ?i_InvalidNumber ?t_InvalidNumber ?l_InvalidNumber ?ld_InvalidNumber ?cd_InvalidNumber ?cr_InvalidNumber ?v2_InvalidNumber ?fl_InvalidNumber ?clc_InvalidNumber ?al_InvalidNumber ?sV_InvalidNumber ?eC_InvalidNumber ?sC_InvalidNumber ?kC_InvalidNumber ?tC_InvalidNumber ?hC_InvalidNumber ?iC_InvalidNumber ?s_InvalidNumber_InvalidNumber ?ac_InvalidScript ?xL_InvalidScript ?sa_InvalidScript ?ga_InvalidScript ?gg_InvalidScript ?nb_InvalidScript ?i_InvalidScript ?t_InvalidScript ?l_InvalidScript ?ld_InvalidScript ?cd_InvalidScript ?cr_InvalidScript ?v2_InvalidScript ?fl_InvalidScript ?clc_InvalidScript ?al_InvalidScript ?sV_InvalidScript ?eC_InvalidScript ?sC_InvalidScript ?kC_InvalidScript ?tC_InvalidScript ?hC_InvalidScript ?iC_InvalidScript ?s_InvalidScript_InvalidScript ?s_InvalidFile_InvalidNumber ?s_InvalidFile_InvalidScript ?s_InvalidNumber_InvalidScript

      (case z_bool => k_is)
      (case z_int => k_is)
      (case z_isinstance => k_is)
      (case z_iter => k_is)
      (case z_len => k_is)
      (case z_list => k_is)
      (case z_range => k_is)
      (case z_set => k_is)
      (case z_sorted => k_is)
      (case z_str => k_is)
      (case z_sum => k_is)
      (case z_super => k_is)
      (case z_tuple => k_is)
      (case g_SIGNS => k_is)
      (case ac_File => k_is)
      (case ac_Step => k_is)
      (case ac_Full => k_is)
      (case ac_Keep => k_is)
      (case ac_Lean => k_is)
      (case ac_Dig => k_is)
      (case ac_Script => k_is)
      (case a_is_whole => k_is)
      (case l_is_whole => k_is)
      (case c_is_whole => k_is)
      (case k_is_whole => k_is)
      (case a_check_least => k_is)
      (case l_check_least => k_is)
      (case c_check_least => k_is)
      (case k_check_least => k_is)
      (case a_divisor_of => k_is)
      (case l_divisor_of => k_is)
      (case c_divisor_of => k_is)
      (case k_divisor_of => k_is)
      (case a_multiple_of => k_is)
      (case l_multiple_of => k_is)
      (case c_multiple_of => k_is)
      (case k_multiple_of => k_is)
      (case a_are_cells => k_is)
      (case l_are_cells => k_is)
      (case c_are_cells => k_is)
      (case k_are_cells => k_is)
      (case a_are_steps => k_is)
      (case l_are_steps => k_is)
      (case c_are_steps => k_is)
      (case k_are_steps => k_is)
      (case a_check_script => k_is)
      (case l_check_script => k_is)
      (case c_check_script => k_is)
      (case k_check_script => k_is)
      (case a_holds_in => k_is)
      (case l_holds_in => k_is)
      (case c_holds_in => k_is)
      (case k_holds_in => k_is)
      (case a_is_held => k_is)
      (case l_is_held => k_is)
      (case c_is_held => k_is)
      (case k_is_held => k_is)
      (case a_least_of => k_is)
      (case l_least_of => k_is)
      (case c_least_of => k_is)
      (case k_least_of => k_is)
      (case a_dug => k_is)
      (case l_dug => k_is)
      (case c_dug => k_is)
      (case k_dug => k_is)
      (case a_behind_step => k_is)
      (case l_behind_step => k_is)
      (case c_behind_step => k_is)
      (case k_behind_step => k_is)
      (case a_reason_table => k_is)
      (case l_reason_table => k_is)
      (case c_reason_table => k_is)
      (case k_reason_table => k_is)
      (case a_cells_of => k_is)
      (case l_cells_of => k_is)
      (case c_cells_of => k_is)
      (case k_cells_of => k_is)
      (case a_reasons => k_is)
      (case l_reasons => k_is)
      (case c_reasons => k_is)
      (case k_reasons => k_is)
      (case a_law_purse => k_is)
      (case l_law_purse => k_is)
      (case c_law_purse => k_is)
      (case k_law_purse => k_is)
      (case a_law_draw => k_is)
      (case l_law_draw => k_is)
      (case c_law_draw => k_is)
      (case k_law_draw => k_is)
      (case a_law_steps => k_is)
      (case l_law_steps => k_is)
      (case c_law_steps => k_is)
      (case k_law_steps => k_is)
      (case a_law_step => k_is)
      (case l_law_step => k_is)
      (case c_law_step => k_is)
      (case k_law_step => k_is)
      (case a_law_script => k_is)
      (case l_law_script => k_is)
      (case c_law_script => k_is)
      (case k_law_script => k_is)
      (case a_law_told => k_is)
      (case l_law_told => k_is)
      (case c_law_told => k_is)
      (case k_law_told => k_is)
      (case a_law => k_is)
      (case l_law => k_is)
      (case c_law => k_is)
      (case k_law => k_is)
      (case a_File_init => k_is)
      (case i_File_init => k_is)
      (case l_File_init => k_is)
      (case c_File_init => k_is)
      (case k_File_init => k_is)
      (case ld_File_init => k_is)
      (case a_Keep_init => k_is)
      (case i_Keep_init => k_is)
      (case l_Keep_init => k_is)
      (case c_Keep_init => k_is)
      (case k_Keep_init => k_is)
      (case pa_Keep_size => k_is)
      (case pb_Keep_size => k_is)
      (case pc_Keep_size => k_is)
      (case pd_Keep_size => k_is)
      (case l_Keep_size => k_is)
      (case c_Keep_size => k_is)
      (case k_Keep_size => k_is)
      (case a_Lean_init => k_is)
      (case i_Lean_init => k_is)
      (case l_Lean_init => k_is)
      (case c_Lean_init => k_is)
      (case k_Lean_init => k_is)
      (case pa_Lean_size => k_is)
      (case pb_Lean_size => k_is)
      (case pc_Lean_size => k_is)
      (case pd_Lean_size => k_is)
      (case l_Lean_size => k_is)
      (case c_Lean_size => k_is)
      (case k_Lean_size => k_is)
      (case a_Dig_init => k_is)
      (case i_Dig_init => k_is)
      (case l_Dig_init => k_is)
      (case c_Dig_init => k_is)
      (case k_Dig_init => k_is)
      (case pa_Dig_size => k_is)
      (case pb_Dig_size => k_is)
      (case pc_Dig_size => k_is)
      (case pd_Dig_size => k_is)
      (case l_Dig_size => k_is)
      (case c_Dig_size => k_is)
      (case k_Dig_size => k_is)
      (case a_Script_init => k_is)
      (case i_Script_init => k_is)
      (case l_Script_init => k_is)
      (case c_Script_init => k_is)
      (case k_Script_init => k_is)
      (case ld_Script_init => k_is)
      (case pa_Script_period => k_is)
      (case pb_Script_period => k_is)
      (case pc_Script_period => k_is)
      (case pd_Script_period => k_is)
      (case l_Script_period => k_is)
      (case c_Script_period => k_is)
      (case k_Script_period => k_is)
      (case a_Script_iter => k_is)
      (case i_Script_iter => k_is)
      (case l_Script_iter => k_is)
      (case c_Script_iter => k_is)
      (case k_Script_iter => k_is)
      (case ohn => first | k_is | rfl | kernel_rfl)
      (case otk => first | k_is | rfl | kernel_rfl)
      (case pg_File => k_is)
      (case hd_File => k_is)
      (case po_File => k_is)
      (case sa_File => k_is)
      (case ha_File => k_is)
      (case mr_File => first | k_is | kernel_rfl | rfl)
      (case ms_File => first | k_is | kernel_rfl | rfl)
      (case mk_File => k_is)
      (case kc_File => k_is)
      (case na_File_row => k_is)
      (case pg_Full => k_is)
      (case hd_Full => k_is)
      (case po_Full => k_is)
      (case sa_Full => k_is)
      (case ha_Full => k_is)
      (case mr_Full => first | k_is | kernel_rfl | rfl)
      (case ms_Full => first | k_is | kernel_rfl | rfl)
      (case mk_Full => k_is)
      (case kc_Full => k_is)
      (case ii_Full => k_is)
      (case pg_Keep => k_is)
      (case hd_Keep => k_is)
      (case po_Keep => k_is)
      (case sa_Keep => k_is)
      (case ha_Keep => k_is)
      (case mr_Keep => first | k_is | kernel_rfl | rfl)
      (case ms_Keep => first | k_is | kernel_rfl | rfl)
      (case mk_Keep => k_is)
      (case kc_Keep => k_is)
      (case na_Keep_wide => k_is)
      (case pg_Lean => k_is)
      (case hd_Lean => k_is)
      (case po_Lean => k_is)
      (case sa_Lean => k_is)
      (case ha_Lean => k_is)
      (case mr_Lean => first | k_is | kernel_rfl | rfl)
      (case ms_Lean => first | k_is | kernel_rfl | rfl)
      (case mk_Lean => k_is)
      (case kc_Lean => k_is)
      (case na_Lean_wide => k_is)
      (case pg_Dig => k_is)
      (case hd_Dig => k_is)
      (case po_Dig => k_is)
      (case sa_Dig => k_is)
      (case ha_Dig => k_is)
      (case mr_Dig => first | k_is | kernel_rfl | rfl)
      (case ms_Dig => first | k_is | kernel_rfl | rfl)
      (case mk_Dig => k_is)
      (case kc_Dig => k_is)
      (case na_Dig_wide => k_is)
      (case pg_Script => k_is)
      (case hd_Script => k_is)
      (case po_Script => k_is)
      (case sa_Script => k_is)
      (case ha_Script => k_is)
      (case mr_Script => first | k_is | kernel_rfl | rfl)
      (case mk_Script => k_is)
      (case kc_Script => k_is)
      (case na_Script_rows => k_is)
      (case ic_Dig => k_is)
      (case tc_Dig => k_is)
      (case ic_Full => k_is)
      (case tc_Full => k_is)
      (case ic_Keep => k_is)
      (case tc_Keep => k_is)
      (case ic_Lean => k_is)
      (case tc_Lean => k_is)
      (case ic_Script => k_is)
      (case tc_Script => k_is)
      (case ic_Step => k_is)
      (case tc_Step => k_is)
      (case s_File_Script => k_is)
      (case s_File_bool => k_is)
      (case s_File_int => k_is)
      (case s_Full_Dig => k_is)
      (case s_Full_Keep => k_is)
      (case s_Full_Lean => k_is)
      (case s_Full_Script => k_is)
      (case s_Full_Step => k_is)
      (case s_Full_bool => k_is)
      (case s_Full_int => k_is)
      (case s_Keep_Dig => k_is)
      (case s_Keep_Full => k_is)
      (case s_Keep_Lean => k_is)
      (case s_Keep_Script => k_is)
      (case s_Keep_Step => k_is)
      (case s_Keep_bool => k_is)
      (case s_Keep_int => k_is)
      (case s_Lean_Dig => k_is)
      (case s_Lean_Full => k_is)
      (case s_Lean_Keep => k_is)
      (case s_Lean_Script => k_is)
      (case s_Lean_Step => k_is)
      (case s_Lean_bool => k_is)
      (case s_Lean_int => k_is)
      (case s_Dig_Full => k_is)
      (case s_Dig_Keep => k_is)
      (case s_Dig_Lean => k_is)
      (case s_Dig_Script => k_is)
      (case s_Dig_Step => k_is)
      (case s_Dig_bool => k_is)
      (case s_Dig_int => k_is)
      (case s_Script_bool => k_is)
      (case s_Script_int => k_is)
      (case zop => k_is)
      (case ac_InvalidFile => k_is)
      (case ac_HoleError => k_is)
      (case xL_InvalidFile => k_is)
      (case sa_InvalidFile => k_is)
      (case nb_InvalidFile => k_is)
      (case i_InvalidFile => k_is)
      (case t_InvalidFile => k_is)
      (case l_InvalidFile => k_is)
      (case ld_InvalidFile => k_is)
      (case cd_InvalidFile => k_is)
      (case cr_InvalidFile => k_is)
      (case v2_InvalidFile => rfl)
      (case fl_InvalidFile => first | rfl | decide +kernel)
      (case clc_InvalidFile => k_is)
      (case al_InvalidFile => first | k_is | ks_is | kernel_rfl)
      (case sV_InvalidFile => k_is)
      (case eC_InvalidFile => k_is)
      (case sC_InvalidFile => first | k_is | kernel_rfl | rfl)
      (case kC_InvalidFile => k_is)
      (case tC_InvalidFile => k_is)
      (case ac_InvalidNumber => k_is)
      (case xL_InvalidNumber => k_is)
      (case sa_InvalidNumber => k_is)
      (case ga_InvalidNumber => k_is)
      (case gg_InvalidNumber => k_is)
      (case nb_InvalidNumber => k_is)
      (case i_InvalidNumber => k_is)
      (case t_InvalidNumber => k_is)
      (case l_InvalidNumber => k_is)
      (case ld_InvalidNumber => k_is)
      (case cd_InvalidNumber => k_is)
      (case cr_InvalidNumber => k_is)
      (case v2_InvalidNumber => rfl)
      (case fl_InvalidNumber => first | rfl | decide +kernel)
      (case clc_InvalidNumber => k_is)
      (case al_InvalidNumber => first | k_is | ks_is | kernel_rfl)
      (case sV_InvalidNumber => k_is)
      (case eC_InvalidNumber => k_is)
      (case sC_InvalidNumber => first | k_is | kernel_rfl | rfl)
      (case kC_InvalidNumber => k_is)
      (case tC_InvalidNumber => k_is)
      (case hC_InvalidNumber => k_is)
      (case iC_InvalidNumber => k_is)
      (case s_InvalidNumber_InvalidNumber => first | rfl | k_is)
      (case ac_InvalidScript => k_is)
      (case xL_InvalidScript => k_is)
      (case sa_InvalidScript => k_is)
      (case ga_InvalidScript => k_is)
      (case gg_InvalidScript => k_is)
      (case nb_InvalidScript => k_is)
      (case i_InvalidScript => k_is)
      (case t_InvalidScript => k_is)
      (case l_InvalidScript => k_is)
      (case ld_InvalidScript => k_is)
      (case cd_InvalidScript => k_is)
      (case cr_InvalidScript => k_is)
      (case v2_InvalidScript => rfl)
      (case fl_InvalidScript => first | rfl | decide +kernel)
      (case clc_InvalidScript => k_is)
      (case al_InvalidScript => first | k_is | ks_is | kernel_rfl)
      (case sV_InvalidScript => k_is)
      (case eC_InvalidScript => k_is)
      (case sC_InvalidScript => first | k_is | kernel_rfl | rfl)
      (case kC_InvalidScript => k_is)
      (case tC_InvalidScript => k_is)
      (case hC_InvalidScript => k_is)
      (case iC_InvalidScript => k_is)
      (case s_InvalidScript_InvalidScript => first | rfl | k_is)
      (case s_InvalidFile_InvalidNumber => k_is)
      (case s_InvalidFile_InvalidScript => k_is)
      (case s_InvalidNumber_InvalidScript => k_is)


